import PyProof.Rows.All
import PyProof.Rows.Walk
import PyProof.EqLayable
import HandS.ForMost
import HandS.EndBits
import HandS.Gcd
import HandS.Wide
import HandS.IsInst
import HandS.TupAny
import HandS.SortInts
import HandS.TupMul
import HandS.TupLe
import HandS.Deep
import HandS.Iter
import HandS.Style
import HandS.Conv
import HandS.Small
import HandS.More
import HandS.Dict
import KE.IntBitsLaws
import PySem.Challenge.RW_nosurebet_k08_told_stakes_and_chances
set_option Elab.async false
set_option linter.all false
set_option maxRecDepth 100000
set_option maxHeartbeats 2000000
/-! Py0: slots and the meanings of the pieces of a text, without a heap. Values are PyData. -/
namespace Py
open PySem

abbrev PV := PyData
abbrev Key := Sum Int Str

/-- what may be changed -/
inductive Ob where
  | lst (xs : List PV) | dct (kvs : List (Key × PV))
/-- what a name holds: a value, an object of its own, a caller's object -/
inductive Sl where
  | val (v : PV) | own (o : Ob) | ref (o : Ob) | lck (kvs : List (Key × PV))
/-- what an expression gives: a value, a new object, the object of a name -/
inductive R where
  | val (v : PV) | new (o : Ob) | bor (i : Nat)
/-- what a result holds when it is looked at -/
inductive Ct where
  | pv (v : PV) | ob (o : Ob)

abbrev Env := List (Option Sl)
abbrev M := Env → Option (R × Env)
abbrev MT := Env → Option (Bool × Env)
inductive Fl where
  | nx | rt (r : R) | bk | ct
abbrev SM := Env → Option (Fl × Env)
/-- a target, a row of targets -/
abbrev MG := R → Env → Option Env
/-- what a for walks: the items, and the environment while it walks -/
abbrev MI := Env → Option (List PV × Env)
abbrev ML := Env → Option (List PV × Env)

def line : Nat := 16777216

def Ct.lst? : Ct → Option (List PV)
  | .pv (.list xs) => some xs
  | .ob (.lst xs) => some xs
  | _ => none
def Ct.tup? : Ct → Option (List PV)
  | .pv (.tuple xs) => some xs
  | _ => none
def Ct.seq? : Ct → Option (List PV)
  | .pv (.list xs) => some xs
  | .pv (.tuple xs) => some xs
  | .ob (.lst xs) => some xs
  | _ => none
def Sl.ct : Sl → Ct
  | .val v => .pv v
  | .own o => .ob o
  | .ref o => .ob o
  | .lck kvs => .ob (.dct kvs)
def get (ρ : Env) (i : Nat) : Option Sl := (ρ[i]?).getD none
def look : R → Env → Option Ct
  | .val v, _ => some (.pv v)
  | .new o, _ => some (.ob o)
  | .bor i, ρ => (get ρ i).map Sl.ct
/-- made a value that is never changed again -/
def frzO : Ob → Option PV
  | .lst xs => some (.list xs)
  | .dct _ => none
def frz : R → Env → Option (PV × Env)
  | .val v, ρ => some (v, ρ)
  | .new o, ρ => (frzO o).map fun v => (v, ρ)
  | .bor i, ρ => match get ρ i with
    | some (.val v) => some (v, ρ)
    | some (.own o) => (frzO o).map fun v => (v, ρ.set i (some (.val v)))
    | _ => none
def isRef : Option Sl → Bool
  | some (.ref _) => true
  | some (.lck _) => true
  | _ => false
/-- stored at a name that holds no caller's object -/
def put (i : Nat) (s : Option Sl) (ρ : Env) : Option Env := if isRef (get ρ i) then none else some (ρ.set i s)
def forget : List Nat → Env → Env
  | [], ρ => ρ
  | i :: r, ρ => if isRef (get (forget r ρ) i) then forget r ρ else (forget r ρ).set i none

/-! ### expressions -/
def mC (v : PV) : M := fun ρ => some (.val v, ρ)
def mVar (i : Nat) : M := fun ρ => match get ρ i with
  | some (.val v) => some (.val v, ρ)
  | some (.own _) => some (.bor i, ρ)
  | some (.ref _) => some (.bor i, ρ)
  | some (.lck _) => some (.bor i, ρ)
  | none => none
def mOp (f : Ct → Ct → Option R) (a b : M) : M := fun ρ =>
  (a ρ).bind fun x => (b x.2).bind fun y => (look x.1 y.2).bind fun cx => (look y.1 y.2).bind fun cy => (f cx cy).map fun z => (z, y.2)
def mUn (f : Ct → Option R) (a : M) : M := fun ρ =>
  (a ρ).bind fun x => (look x.1 x.2).bind fun cx => (f cx).map fun z => (z, x.2)
def boolOf : Ct → Option Bool
  | .pv (.bool b) => some b
  | _ => none
/-- a test by its value, a bool -/
def mB (a : M) : MT := fun ρ => (a ρ).bind fun x => (look x.1 x.2).bind fun cx => (boolOf cx).map fun b => (b, x.2)
def truOf : Ct → Option Bool
  | .pv .none => some false
  | .pv (.bool b) => some b
  | .pv (.int i) => some (i != 0)
  | .pv (.tuple xs) => some !xs.isEmpty
  | .pv (.list xs) => some !xs.isEmpty
  | .ob (.lst xs) => some !xs.isEmpty
  | _ => none
/-- a test by its value's truth -/
def mTru (a : M) : MT := fun ρ => (a ρ).bind fun x => (look x.1 x.2).bind fun cx => (truOf cx).map fun b => (b, x.2)
def mAnd (a b : MT) : MT := fun ρ => (a ρ).bind fun x => if x.1 then b x.2 else some (false, x.2)
def mOr (a b : MT) : MT := fun ρ => (a ρ).bind fun x => if x.1 then some (true, x.2) else b x.2
def mNot (a : MT) : MT := fun ρ => (a ρ).bind fun x => some (!x.1, x.2)
/-- and, or, not as values (of bools) -/
def mAndV (a b : M) : M := fun ρ => (a ρ).bind fun x => (look x.1 x.2).bind fun cx => (boolOf cx).bind fun k => if k then b x.2 else some (.val (.bool false), x.2)
def mOrV (a b : M) : M := fun ρ => (a ρ).bind fun x => (look x.1 x.2).bind fun cx => (boolOf cx).bind fun k => if k then some (.val (.bool true), x.2) else b x.2
def mNotV (a : M) : M := fun ρ => (a ρ).bind fun x => (look x.1 x.2).bind fun cx => (boolOf cx).bind fun k => some (.val (.bool (!k)), x.2)
def mIfE (t : MT) (a b : M) : M := fun ρ => (t ρ).bind fun x => if x.1 then a x.2 else b x.2
/-- a op b op' c, of values -/
def mChain (f g : Ct → Ct → Option R) (a b c : M) : M := fun ρ =>
  (a ρ).bind fun x => (b x.2).bind fun y => (look x.1 y.2).bind fun cx => (look y.1 y.2).bind fun cy => (f cx cy).bind fun z => (look z y.2).bind fun cz => (boolOf cz).bind fun k =>
    if k then (c y.2).bind fun w => (look y.1 w.2).bind fun cy => (look w.1 w.2).bind fun cw => (g cy cw).map fun z => (z, w.2) else some (.val (.bool false), y.2)
/-- a name's list given away as a value -/
def mFrz (a : M) : M := fun ρ => (a ρ).bind fun x => (frz x.1 x.2).map fun v => (.val v.1, v.2)
def lNil : ML := fun ρ => some ([], ρ)
def lCons (a : M) (r : ML) : ML := fun ρ => (a ρ).bind fun x => (frz x.1 x.2).bind fun v => (r v.2).map fun vs => (v.1 :: vs.1, vs.2)
def mTup (l : ML) : M := fun ρ => (l ρ).bind fun vs => if vs.1.length ≤ line then some (.val (.tuple vs.1), vs.2) else none
def mLst (l : ML) : M := fun ρ => (l ρ).bind fun vs => if vs.1.length ≤ line then some (.new (.lst vs.1), vs.2) else none
def mDct0 : M := fun ρ => some (.new (.dct []), ρ)

/-! ### operators by content -/
def fAdd : Ct → Ct → Option R
  | .pv (.int a), .pv (.int b) => some (.val (.int (a + b)))
  | .pv (.str a), .pv (.str b) => if a.length + b.length ≤ line then some (.val (.str (a ++ b))) else none
  | .pv (.tuple xs), .pv (.tuple ys) => if xs.length + ys.length ≤ line then some (.val (.tuple (xs ++ ys))) else none
  | .ob (.lst xs), .ob (.lst ys) => if xs.length + ys.length ≤ line then some (.new (.lst (xs ++ ys))) else none
  | _, _ => none
def fSub : Ct → Ct → Option R
  | .pv (.int a), .pv (.int b) => some (.val (.int (a - b)))
  | _, _ => none
/-- the bits of both factors together within the line -/
def mulOk (a b : Int) : Bool := decide (a.natAbs.log2 + b.natAbs.log2 < 100000000)
def fMul : Ct → Ct → Option R
  | .pv (.int a), .pv (.int b) => if mulOk a b then some (.val (.int (a * b))) else none
  | .pv (.tuple xs), .pv (.int k) => if -(2 ^ 62) < k ∧ k ≤ 1000 ∧ xs.length ≤ 1000 then some (.val (.tuple (List.replicate k.toNat xs).flatten)) else none
  | .ob (.lst xs), .pv (.int k) => if xs.length * k.toNat ≤ line ∧ k < 2 ^ 62 ∧ -(2 ^ 62) < k then some (.new (.lst (List.replicate k.toNat xs).flatten)) else none
  | _, _ => none
def fDiv : Ct → Ct → Option R
  | .pv (.int a), .pv (.int b) => if b = 0 then none else some (.val (.int (a.fdiv b)))
  | _, _ => none
def fMod : Ct → Ct → Option R
  | .pv (.int a), .pv (.int b) => if b = 0 then none else some (.val (.int (a.fmod b)))
  | _, _ => none
def fPow : Ct → Ct → Option R
  | .pv (.int a), .pv (.int b) => if 0 ≤ b ∧ b ≤ 1000000 ∧ a.natAbs < 2 ^ 64 then some (.val (.int (a ^ b.toNat))) else none
  | _, _ => none
def fNeg : Ct → Option R
  | .pv (.int a) => some (.val (.int (-a)))
  | _ => none
def cI (p : Int → Int → Bool) : Ct → Ct → Option R
  | .pv (.int a), .pv (.int b) => some (.val (.bool (p a b)))
  | _, _ => none
def fLt := cI fun a b => decide (a < b)
def fLe := cI fun a b => decide (a ≤ b)
def fGt := cI fun a b => decide (b < a)
def fGe := cI fun a b => decide (b ≤ a)
def eqD (neg : Bool) : Ct → Ct → Option R
  | .pv (.int a), .pv (.int b) => some (.val (.bool (neg ^^ decide (a = b))))
  | .pv (.bool a), .pv (.bool b) => some (.val (.bool (neg ^^ (a == b))))
  | .pv (.str a), .pv (.str b) => some (.val (.bool (neg ^^ decide (a = b))))
  | .pv d, .pv e => if SeqAt.shaped d = true ∧ SeqAt.shaped e = true then some (.val (.bool (neg ^^ PyData.eqv d e))) else none
  | _, _ => none
def fEq := eqD false
def fNe := eqD true
def isNone : PV → Bool
  | .none => true
  | _ => false
/-- is None (the right side None) -/
def fIs (neg : Bool) : Ct → Ct → Option R
  | .pv v, .pv .none => some (.val (.bool (neg ^^ isNone v)))
  | .ob _, .pv .none => some (.val (.bool neg))
  | _, _ => none
/-- the place of an index -/
def ixN (n : Nat) (i : Int) : Option Nat := if 0 ≤ i then (if i < n then some i.toNat else none) else if -(n : Int) ≤ i then some (i + n).toNat else none
def atI (xs : List PV) (i : Int) : Option PV := (ixN xs.length i).bind fun j => xs[j]?
def keyOf : PV → Option Key
  | .int i => some (.inl i)
  | .str x => some (.inr x)
  | _ => none
def dGet (kvs : List (Key × PV)) (k : Key) : Option PV := (kvs.find? fun kv => decide (kv.1 = k)).map (·.2)
def dPut (kvs : List (Key × PV)) (k : Key) (v : PV) : List (Key × PV) :=
  if (kvs.find? fun kv => decide (kv.1 = k)).isSome then kvs.map fun kv => if kv.1 = k then (k, v) else kv else kvs ++ [(k, v)]
def fIx : Ct → Ct → Option R
  | .pv (.tuple xs), .pv (.int i) => (atI xs i).map .val
  | .pv (.list xs), .pv (.int i) => (atI xs i).map .val
  | .ob (.lst xs), .pv (.int i) => (atI xs i).map .val
  | .pv (.str x), .pv (.int i) => if x.length ≤ line then ((ixN x.length i).bind fun j => x.cps[j]?).map fun c => .val (.str ⟨#[c]⟩) else none
  | _, _ => none
/-! slices -/
def sIx (n d : Nat) : Option Int → Nat
  | none => d
  | some i => if i < 0 then (i + n).toNat else min i.toNat n
def cut {α : Type} (xs : List α) (lo hi : Option Int) : List α := (xs.drop (sIx xs.length 0 lo)).take (sIx xs.length xs.length hi - sIx xs.length 0 lo)
abbrev MO := Env → Option (Option Int × Env)
def oNone : MO := fun ρ => some (none, ρ)
def intOf : Ct → Option Int
  | .pv (.int i) => some i
  | _ => none
def oSome (a : M) : MO := fun ρ => (a ρ).bind fun x => (look x.1 x.2).bind fun c => (intOf c).map fun i => (some i, x.2)
def fSl (lo hi : Option Int) : Ct → Option R
  | .pv (.tuple xs) => some (.val (.tuple (cut xs lo hi)))
  | .pv (.list xs) => some (.new (.lst (cut xs lo hi)))
  | .ob (.lst xs) => some (.new (.lst (cut xs lo hi)))
  | _ => none
def mSl (a : M) (l h : MO) : M := fun ρ => (a ρ).bind fun x => (l x.2).bind fun i => (h i.2).bind fun j => (look x.1 j.2).bind fun c => (fSl i.1 j.1 c).map fun z => (z, j.2)

/-! ### built-ins by content -/
def fLen : Ct → Option R
  | .pv (.tuple xs) => some (.val (.int xs.length))
  | .pv (.list xs) => some (.val (.int xs.length))
  | .pv (.str x) => if x.length ≤ line then some (.val (.int x.length)) else none
  | .ob (.lst xs) => some (.val (.int xs.length))
  | _ => none
def fInt : Ct → Option R
  | .pv (.int i) => some (.val (.int i))
  | .pv (.bool b) => some (.val (.int (if b then 1 else 0)))
  | _ => none
def fAbs : Ct → Option R
  | .pv (.int i) => some (.val (.int i.natAbs))
  | _ => none
def fMin2 : Ct → Ct → Option R
  | .pv (.int i), .pv (.int j) => some (.val (.int (if j < i then j else i)))
  | _, _ => none
def fMax2 : Ct → Ct → Option R
  | .pv (.int i), .pv (.int j) => some (.val (.int (if j > i then j else i)))
  | _, _ => none
def fGcd : Ct → Ct → Option R
  | .pv (.int i), .pv (.int j) => some (.val (.int (Int.gcd i j)))
  | _, _ => none
def fTuple : Ct → Option R
  | .pv (.tuple xs) => some (.val (.tuple xs))
  | .pv (.list xs) => some (.val (.tuple xs))
  | .ob (.lst xs) => some (.val (.tuple xs))
  | _ => none
def fList : Ct → Option R
  | .pv (.tuple xs) => some (.new (.lst xs))
  | .pv (.list xs) => some (.new (.lst xs))
  | .ob (.lst xs) => some (.new (.lst xs))
  | _ => none
def intV? : PV → Option Int
  | .int i => some i
  | _ => none
def boolV? : PV → Option Bool
  | .bool b => some b
  | _ => none
def ints? (xs : List PV) : Option (List Int) := xs.mapM intV?
def bools? (xs : List PV) : Option (List Bool) := xs.mapM boolV?
def fSum (c : Ct) : Option R := c.lst?.bind fun xs => (ints? xs).map fun ns => .val (.int ns.sum)
def fAll (c : Ct) : Option R := c.lst?.bind fun xs => (bools? xs).map fun bs => .val (.bool (bs.all id))
def fAny (c : Ct) : Option R := c.lst?.bind fun xs => (bools? xs).map fun bs => .val (.bool (bs.any id))
def maxL : List Int → Int
  | [] => 0
  | x :: r => r.foldl max x
def minL : List Int → Int
  | [] => 0
  | x :: r => r.foldl min x
def fMax (c : Ct) : Option R := c.lst?.bind fun xs => (ints? xs).bind fun ns => if ns = [] then none else some (.val (.int (maxL ns)))
def fMin (c : Ct) : Option R := c.lst?.bind fun xs => (ints? xs).bind fun ns => if ns = [] then none else some (.val (.int (minL ns)))
def isort (ns : List Int) : List Int := ns.mergeSort fun a b => decide (a ≤ b)
def fSorted (c : Ct) : Option R := c.lst?.bind fun xs => (ints? xs).map fun ns => .new (.lst ((isort ns).map .int))
/-- += of ints and texts -/
def fIAdd : Ct → Ct → Option R
  | .pv (.int a), .pv (.int b) => some (.val (.int (a + b)))
  | .pv (.str a), .pv (.str b) => if a.length + b.length ≤ line then some (.val (.str (a ++ b))) else none
  | _, _ => none
def fMulI : Ct → Ct → Option R
  | .pv (.int a), .pv (.int b) => if mulOk a b then some (.val (.int (a * b))) else none
  | _, _ => none
/-- the types that isinstance is asked of -/
inductive Ty where
  | bool | int | str | tuple
def isTy : Ty → PV → Bool
  | .bool, .bool _ => true
  | .int, .int _ => true
  | .int, .bool _ => true
  | .str, .str _ => true
  | .tuple, .tuple _ => true
  | _, _ => false
def fIsi (t : Ty) : Ct → Option R
  | .pv v => some (.val (.bool (isTy t v)))
  | .ob (.lst _) => some (.val (.bool false))
  | .ob (.dct _) => none

/-! ### statements -/
def sNext : SM := fun ρ => some (.nx, ρ)
def sSeq (a b : SM) : SM := fun ρ => (a ρ).bind fun x => match x.1 with
  | .nx => b x.2
  | f => some (f, x.2)
def sBrk : SM := fun ρ => some (.bk, ρ)
def sCont : SM := fun ρ => some (.ct, ρ)
def sRet (a : M) : SM := fun ρ => (a ρ).map fun x => (.rt x.1, x.2)
def sRetN : SM := fun ρ => some (.rt (.val .none), ρ)
def sIf (t : MT) (a b : SM) : SM := fun ρ => (t ρ).bind fun x => if x.1 then a x.2 else b x.2
def sExpr (a : M) : SM := fun ρ => (a ρ).map fun x => (.nx, x.2)
/-- what a name holds behind a store: a list of another name becomes a value of both -/
def gName (i : Nat) : MG := fun r ρ => match r with
  | .val v => put i (some (.val v)) ρ
  | .new o => put i (some (.own o)) ρ
  | .bor j => (frz (.bor j) ρ).bind fun v => put i (some (.val v.1)) v.2
def gNames : List Nat → List PV → Env → Option Env
  | [], [], ρ => some ρ
  | i :: is, v :: vs, ρ => (put i (some (.val v)) ρ).bind fun ρ1 => gNames is vs ρ1
  | _, _, _ => none
/-- a, b = t (a tuple) -/
def gTup (is : List Nat) : MG := fun r ρ => match r with
  | .val (.tuple xs) => gNames is xs ρ
  | _ => none
def sAsg (a : M) (g : MG) : SM := fun ρ => (a ρ).bind fun x => (g x.1 x.2).map fun ρ' => (.nx, ρ')
def sPar (i j : Nat) (a b : M) : SM := fun ρ => (a ρ).bind fun x => (frz x.1 x.2).bind fun v => (b v.2).bind fun y => (frz y.1 y.2).bind fun w =>
  (put i (some (.val v.1)) w.2).bind fun ρ1 => (put j (some (.val w.1)) ρ1).map fun ρ2 => (.nx, ρ2)
/-- an object of a name -/
def obAt (ρ : Env) (i : Nat) : Option Ob := match get ρ i with
  | some (.own o) => some o
  | some (.ref o) => some o
  | _ => none
def lstAt (ρ : Env) (i : Nat) : Option (List PV) := match obAt ρ i with
  | some (.lst xs) => some xs
  | _ => none
def setOb (ρ : Env) (i : Nat) (o : Ob) : Env := match get ρ i with
  | some (.ref _) => ρ.set i (some (.ref o))
  | some (.lck _) => ρ.set i (some (.ref o))
  | _ => ρ.set i (some (.own o))
/-- xs.append(e) -/
def mAppend (i : Nat) (a : M) : M := fun ρ => (lstAt ρ i).bind fun _ => (a ρ).bind fun x => (frz x.1 x.2).bind fun v => (lstAt v.2 i).bind fun xs =>
  if xs.length < line then some (.val .none, setOb v.2 i (.lst (xs ++ [v.1]))) else none
/-- xs.pop() -/
def mPop (i : Nat) : M := fun ρ => (lstAt ρ i).bind fun xs => (xs.getLast?).map fun v => (.val v, setOb ρ i (.lst xs.dropLast))
/-- xs.pop(e) -/
def mPopAt (i : Nat) (a : M) : M := fun ρ => (lstAt ρ i).bind fun _ => (a ρ).bind fun x => (look x.1 x.2).bind fun c => (intOf c).bind fun k => (lstAt x.2 i).bind fun xs =>
  if -(2 ^ 62) < k ∧ k < 2 ^ 62 then (ixN xs.length k).bind fun j => (xs[j]?).map fun v => (.val v, setOb x.2 i (.lst (xs.eraseIdx j))) else none
/-- xs.reverse() -/
def mReverse (i : Nat) : M := fun ρ => (lstAt ρ i).map fun xs => (.val .none, setOb ρ i (.lst xs.reverse))
/-- xs[e] = v -/
def sSetIx (i : Nat) (e : M) (a : M) : SM := fun ρ => (a ρ).bind fun x => (frz x.1 x.2).bind fun v => (lstAt v.2 i).bind fun _ => (e v.2).bind fun y => (look y.1 y.2).bind fun c => (intOf c).bind fun k => (lstAt y.2 i).bind fun xs =>
  (ixN xs.length k).map fun j => (.nx, setOb y.2 i (.lst (xs.set j v.1)))
/-- name op= e, of values -/
def sAug (i : Nat) (f : Ct → Ct → Option R) (a : M) : SM := fun ρ => (get ρ i).bind fun s => match s with
  | .val v => (a ρ).bind fun x => (look x.1 x.2).bind fun c => (f (.pv v) c).bind fun z => match z with
    | .val w => (put i (some (.val w)) x.2).map fun ρ' => (.nx, ρ')
    | _ => none
  | _ => none
/-- xs += e, a list -/
def sAugL (i : Nat) (a : M) : SM := fun ρ => (lstAt ρ i).bind fun _ => (a ρ).bind fun x => match x.1 with
  | .new (.lst ys) => (lstAt x.2 i).bind fun xs => if xs.length + ys.length ≤ line then some (.nx, setOb x.2 i (.lst (xs ++ ys))) else none
  | _ => none

/-! ### loops -/
def iSeq (a : M) : MI := fun ρ => (a ρ).bind fun x => match x.1 with
  | .val (.list xs) => some (xs, x.2)
  | .val (.tuple xs) => some (xs, x.2)
  | .new (.lst xs) => some (xs, x.2)
  | _ => none
/-- a name's own list, which the body doesn't see -/
def iHide (i : Nat) : MI := fun ρ => (lstAt ρ i).map fun xs => (xs, ρ.set i none)
def rangeL (lo : Int) (n : Nat) : List PV := (List.range n).map fun (k : Nat) => .int (lo + (k : Int))
def iRng1 (a : M) : MI := fun ρ => (a ρ).bind fun x => (look x.1 x.2).bind fun c => (intOf c).bind fun n => if n ≤ line ∧ -(2 ^ 62) ≤ n then some (rangeL 0 n.toNat, x.2) else none
def iRng2 (a b : M) : MI := fun ρ => (a ρ).bind fun x => (look x.1 x.2).bind fun c => (intOf c).bind fun lo => (b x.2).bind fun y => (look y.1 y.2).bind fun d => (intOf d).bind fun hi =>
  if -(2 ^ 61) ≤ lo ∧ lo < 2 ^ 61 ∧ -(2 ^ 61) ≤ hi ∧ hi < 2 ^ 61 ∧ (hi - lo) ≤ line then some (rangeL lo (hi - lo).toNat, y.2) else none
def loopF (g : MG) (b : SM) : List PV → SM
  | [], ρ => some (.nx, ρ)
  | x :: xs, ρ => (g (.val x) ρ).bind fun ρ1 => (b ρ1).bind fun y => match y.1 with
    | .nx => loopF g b xs y.2
    | .ct => loopF g b xs y.2
    | .bk => some (.nx, y.2)
    | .rt r => some (.rt r, y.2)
def sFor (it : MI) (g : MG) (b : SM) : SM := fun ρ => (it ρ).bind fun xs => loopF g b xs.1 xs.2
/-- for over a name's own list: the name holds it again behind the loop -/
def sForH (i : Nat) (g : MG) (b : SM) : SM := fun ρ => (get ρ i).bind fun s => (iHide i ρ).bind fun xs => (loopF g b xs.1 xs.2).bind fun y => match get y.2 i with
  | none => some (y.1, y.2.set i (some s))
  | _ => none
def whileF (t : MT) (b : SM) : Nat → SM
  | 0, _ => none
  | n + 1, ρ => (t ρ).bind fun x => if x.1 then (b x.2).bind fun y => match y.1 with
      | .nx => whileF t b n y.2
      | .ct => whileF t b n y.2
      | .bk => some (.nx, y.2)
      | .rt r => some (.rt r, y.2)
    else some (.nx, x.2)
open Classical in
noncomputable def sWhile (t : MT) (b : SM) : SM := fun ρ => if h : ∃ n, (whileF t b n ρ).isSome = true then whileF t b h.choose ρ else none
/-- names that are not read any more -/
def sFgt (is : List Nat) (a : SM) : SM := fun ρ => (a ρ).map fun x => match x.1 with
  | .rt r => (.rt r, x.2)
  | f => (f, forget is x.2)

/-! ### comprehensions -/
def wipe (ρ : Env) : List Nat → Env
  | [] => ρ
  | i :: r => (wipe ρ r).set i none
def back (ρ0 : Env) : List Nat → Env → Env
  | [], ρ => ρ
  | i :: r, ρ => (back ρ0 r ρ).set i (get ρ0 i)
def lcF (f : PV → Env → Option (List PV × Env)) : List PV → Env → Option (List PV × Env)
  | [], ρ => some ([], ρ)
  | x :: xs, ρ => (f x ρ).bind fun y => (lcF f xs y.2).map fun z => (y.1 ++ z.1, z.2)
def tYes : MT := fun ρ => some (true, ρ)
def lcTurn (g : MG) (vs : List Nat) (t : MT) (e : M) (x : PV) (ρ : Env) : Option (List PV × Env) :=
  (g (.val x) (wipe ρ vs)).bind fun ρ1 => (t ρ1).bind fun b => if b.1 then (e b.2).bind fun r => (frz r.1 r.2).map fun v => ([v.1], v.2) else some ([], b.2)
def mLc (it : MI) (g : MG) (vs : List Nat) (t : MT) (e : M) : M := fun ρ => (it ρ).bind fun xs => if xs.1.length ≤ line then
  (lcF (lcTurn g vs t e) xs.1 xs.2).map fun y => (.new (.lst y.1), back xs.2 vs y.2) else none

/-! ### defs -/
abbrev Den := List Sl → Option (R × List Ob)
def leave : R → Env → Option R
  | .val v, _ => some (.val v)
  | .new o, _ => some (.new o)
  | .bor i, ρ => match get ρ i with
    | some (.val v) => some (.val v)
    | some (.own o) => some (.new o)
    | _ => none
/-- the callers' objects behind the call -/
def outs : List Sl → Env → Option (List Ob)
  | [], _ => some []
  | .ref _ :: as, some (.ref o) :: ρ => (outs as ρ).map (o :: ·)
  | .ref _ :: _, _ => none
  | .val _ :: as, _ :: ρ => outs as ρ
  | _, _ => none
def startE (n : Nat) (as : List Sl) : Env := as.map some ++ List.replicate (n - as.length) none
def mkDen (n : Nat) (body : SM) : Den := fun as => (body (startE n as)).bind fun x => match x.1 with
  | .nx => (outs as x.2).map fun os => (.val .none, os)
  | .rt r => (leave r x.2).bind fun r' => (outs as x.2).map fun os => (r', os)
  | _ => none
/-- an argument: a value, or a name's object handed on -/
inductive Ag where
  | v (a : M) | r (i : Nat)
def agsEval : List Ag → Env → Option (List Sl × Env)
  | [], ρ => some ([], ρ)
  | .v a :: r, ρ => (a ρ).bind fun x => (frz x.1 x.2).bind fun v => (agsEval r v.2).map fun z => (.val v.1 :: z.1, z.2)
  | .r i :: r, ρ => (obAt ρ i).bind fun _ => (agsEval r ρ).bind fun z => (obAt z.2 i).map fun o => (.ref o :: z.1, z.2)
def refsOf : List Ag → List Nat
  | [] => []
  | .v _ :: r => refsOf r
  | .r i :: r => i :: refsOf r
def setObs : List Nat → List Ob → Env → Env
  | i :: is, o :: os, ρ => setObs is os (setOb ρ i o)
  | _, _, ρ => ρ
def mCall (d : Den) (as : List Ag) : M := fun ρ => (agsEval as ρ).bind fun z => if (refsOf as).Nodup then (d z.1).map fun y => (y.1, setObs (refsOf as) y.2 z.2) else none
end Py
/-! Py1: what binds the meanings of Py0 to the readings of the hand layer. -/
namespace Py
open PySem PySem.Spec PyProof.Rows L2

abbrev Ex (H H' : Hp) : Prop := ∀ a o, H a = some o → H' a = some o
theorem ex_rd {H H' : Hp} {a : Addr} {u : HO} (e : Ex H H') (h : Rd H a u) : Rd H' a u := by
  rcases h with h | ⟨o, h⟩
  · exact .inl (e a _ h)
  · exact .inr ⟨o, e a _ h⟩
theorem ex_l {K : PySem.W.Frag} {H H' : Hp} {a : Addr} {xs : List V} (e : Ex H H') (h : SqL K H a xs) : SqL K H' a xs := by
  rcases h with h | h
  · exact .inl (ex_rd e h)
  · exact .inr h
theorem ex_t {K : PySem.W.Frag} {H H' : Hp} {a : Addr} {xs : List V} (e : Ex H H') (h : SqT K H a xs) : SqT K H' a xs := by
  rcases h with h | h
  · exact .inl (ex_rd e h)
  · exact .inr h
mutual
theorem dp_mono {K : PySem.W.Frag} {H H' : Hp} (e : Ex H H') : ∀ (d : PyData) (v : V), Dp K H v d → Dp K H' v d
  | .none, _, h => by cases h; exact .non
  | .bool b, _, h => by cases h; exact .bl b
  | .int i, _, h => by cases h; exact .int i
  | .str x, _, h => by cases h; exact .str x
  | .list ds, _, h => by
    cases h with
    | lst hs ha => exact .lst (ex_l e hs) (dps_mono e ds _ ha)
  | .tuple ds, _, h => by
    cases h with
    | tup hs ha => exact .tup (ex_t e hs) (dps_mono e ds _ ha)
  | .dict _, _, h => by cases h
theorem dps_mono {K : PySem.W.Frag} {H H' : Hp} (e : Ex H H') : ∀ (ds : List PyData) (vs : List V), DpAll K H vs ds → DpAll K H' vs ds
  | [], _, h => by cases h; exact .nil
  | d :: ds, _, h => by
    cases h with
    | cons h1 h2 => exact .cons (dp_mono e d _ h1) (dps_mono e ds _ h2)
end
section
variable {K : PySem.W.Frag} {H H' : Hp}
theorem dps_len : ∀ {vs : List V} {ds : List PyData}, DpAll K H vs ds → vs.length = ds.length
  | _, _, .nil => rfl
  | _, _, .cons _ t => by simp [dps_len t]
theorem dps_get : ∀ {vs : List V} {ds : List PyData} {i : Nat} {d : PyData}, DpAll K H vs ds → ds[i]? = some d → ∃ v, vs[i]? = some v ∧ Dp K H v d
  | _, _, _, _, .nil, e => by simp at e
  | _, _, 0, _, .cons r _, e => by simp at e; subst e; exact ⟨_, rfl, r⟩
  | _, _, i + 1, d, .cons _ t, e => by
    obtain ⟨v, h1, h2⟩ := dps_get (i := i) (d := d) t (by simpa using e)
    exact ⟨v, by simpa using h1, h2⟩
theorem dps_get' {vs : List V} {ds : List PyData} {i : Nat} {v : V} (h : DpAll K H vs ds) (e : vs[i]? = some v) : ∃ d, ds[i]? = some d ∧ Dp K H v d := by
  have hl := dps_len h
  have hi : i < vs.length := (List.getElem?_eq_some_iff.mp e).1
  obtain ⟨w, h1, h2⟩ := dps_get (i := i) (d := ds[i]'(by omega)) h (by simp)
  rw [e] at h1; cases h1
  exact ⟨_, by simp, h2⟩
theorem dps_app : ∀ {vs ws : List V} {ds es : List PyData}, DpAll K H vs ds → DpAll K H ws es → DpAll K H (vs ++ ws) (ds ++ es)
  | _, _, _, _, .nil, s => s
  | _, _, _, _, .cons r t, s => .cons r (dps_app t s)
theorem dps_take : ∀ {vs : List V} {ds : List PyData} (n : Nat), DpAll K H vs ds → DpAll K H (vs.take n) (ds.take n)
  | _, _, 0, _ => .nil
  | _, _, _ + 1, .nil => .nil
  | _, _, n + 1, .cons r t => .cons r (dps_take n t)
theorem dps_drop : ∀ {vs : List V} {ds : List PyData} (n : Nat), DpAll K H vs ds → DpAll K H (vs.drop n) (ds.drop n)
  | _, _, 0, r => r
  | _, _, _ + 1, .nil => .nil
  | _, _, n + 1, .cons _ t => dps_drop n t
theorem dps_set {v : V} {d : PyData} (r : Dp K H v d) : ∀ {vs : List V} {ds : List PyData} (i : Nat), DpAll K H vs ds → DpAll K H (vs.set i v) (ds.set i d)
  | _, _, _, .nil => .nil
  | _, _, 0, .cons _ t => .cons r t
  | _, _, i + 1, .cons q t => .cons q (dps_set r i t)
theorem dps_erase : ∀ {vs : List V} {ds : List PyData} (i : Nat), DpAll K H vs ds → DpAll K H (vs.eraseIdx i) (ds.eraseIdx i)
  | _, _, _, .nil => .nil
  | _, _, 0, .cons _ t => t
  | _, _, i + 1, .cons q t => .cons q (dps_erase i t)
theorem dps_rev : ∀ {vs : List V} {ds : List PyData}, DpAll K H vs ds → DpAll K H vs.reverse ds.reverse
  | _, _, .nil => .nil
  | _, _, .cons r t => by
    rw [List.reverse_cons, List.reverse_cons]
    exact dps_app (dps_rev t) (.cons r .nil)
theorem dps_dropLast {vs : List V} {ds : List PyData} (h : DpAll K H vs ds) : DpAll K H vs.dropLast ds.dropLast := by
  rw [List.dropLast_eq_take, List.dropLast_eq_take, dps_len h]
  exact dps_take _ h
theorem dps_rep {vs : List V} {ds : List PyData} (h : DpAll K H vs ds) : ∀ k : Nat, DpAll K H (List.replicate k vs).flatten (List.replicate k ds).flatten
  | 0 => .nil
  | k + 1 => by
    rw [List.replicate_succ, List.replicate_succ, List.flatten_cons, List.flatten_cons]
    exact dps_app h (dps_rep h k)
end
/-- a dict's pairs -/
inductive KvAll (K : PySem.W.Frag) (H : Hp) : List (Key × V) → List (Key × PV) → Prop
  | nil : KvAll K H [] []
  | cons {k : Key} {v : V} {d : PV} {ws : List (Key × V)} {kvs : List (Key × PV)} : Dp K H v d → KvAll K H ws kvs → KvAll K H ((k, v) :: ws) ((k, d) :: kvs)
theorem kvs_mono {K : PySem.W.Frag} {H H' : Hp} (e : Ex H H') : ∀ {ws : List (Key × V)} {kvs : List (Key × PV)}, KvAll K H ws kvs → KvAll K H' ws kvs
  | _, _, .nil => .nil
  | _, _, .cons r t => .cons (dp_mono e _ _ r) (kvs_mono e t)

/-! ### what a slot stands for -/
def slot (σ : L2.St) (i : Nat) : Option V := (σ[i]?).getD none
def RepOb (K : PySem.W.Frag) (Hf H : Hp) (p : Addr) : Ob → Prop
  | .lst xs => ∃ vs, H p = some (.lst vs) ∧ DpAll K Hf vs xs
  | .dct kvs => ∃ ws, H p = some (.dK ws) ∧ KvAll K Hf ws kvs
def RepSl (K : PySem.W.Frag) (Hf H : Hp) : Sl → V → Prop
  | .val v, u => Dp K Hf u v
  | .own o, u => ∃ p, u = .ref p ∧ Hf p = none ∧ RepOb K Hf H p o
  | .ref o, u => ∃ p, u = .ref p ∧ Hf p = none ∧ RepOb K Hf H p o
  | .lck kvs, u => ∃ p, u = .ref p ∧ ∃ ws od, Hf p = some (.frz od (.dK ws)) ∧ KvAll K Hf ws kvs
def isOb : Option Sl → Bool
  | some (.own _) => true
  | some (.ref _) => true
  | _ => false
def OwnAt (ρ : Env) (σ : L2.St) (i : Nat) (p : Addr) : Prop := isOb (get ρ i) = true ∧ slot σ i = some (.ref p)
def Own (ρ : Env) (σ : L2.St) (p : Addr) : Prop := ∃ i, OwnAt ρ σ i p
structure RepE (K : PySem.W.Frag) (Hf H : Hp) (ρ : Env) (σ : L2.St) : Prop where
  len : ρ.length = σ.length
  ff : Ex Hf H
  sl : ∀ i s, get ρ i = some s → ∃ u, slot σ i = some u ∧ RepSl K Hf H s u
  dis : ∀ i j p, OwnAt ρ σ i p → OwnAt ρ σ j p → i = j
structure Step (O : Addr → Prop) (Hf H Hf' H' : Hp) : Prop where
  ff : Ex Hf Hf'
  fh : Ex Hf' H'
  keep : ∀ a o, H a = some o → ¬ O a → H' a = some o
  nof : ∀ a o, H a = some o → ¬ O a → Hf' a = Hf a
  dom : ∀ a o, H a = some o → ∃ o', H' a = some o'
/-- what is read of an object: a dict may be locked -/
def RepCo (K : PySem.W.Frag) (Hf H : Hp) (p : Addr) : Ob → Prop
  | .lst xs => ∃ vs, H p = some (.lst vs) ∧ DpAll K Hf vs xs
  | .dct kvs => ∃ ws, Rd H p (.dK ws) ∧ KvAll K Hf ws kvs
theorem RepOb.co {K : PySem.W.Frag} {Hf H : Hp} {p : Addr} {o : Ob} (h : RepOb K Hf H p o) : RepCo K Hf H p o := by
  cases o with
  | lst xs => exact h
  | dct kvs => obtain ⟨ws, a, b⟩ := h; exact ⟨ws, .inl a, b⟩
def RepC (K : PySem.W.Frag) (Hf H : Hp) : Ct → V → Prop
  | .pv v, u => Dp K Hf u v
  | .ob o, u => ∃ p, u = .ref p ∧ RepCo K Hf H p o
/-- H0: the heap in which a new object was not there -/
def RepR (K : PySem.W.Frag) (Hf H H0 : Hp) (σ : L2.St) : R → V → Prop
  | .val v, u => Dp K Hf u v
  | .new o, u => ∃ p, u = .ref p ∧ H0 p = none ∧ Hf p = none ∧ RepOb K Hf H p o
  | .bor i, u => slot σ i = some u
/-- what an expression may do to the names -/
structure Kp (ρ ρ' : Env) : Prop where
  own : ∀ i, isOb (get ρ' i) = true → isOb (get ρ i) = true
  ref : ∀ i, isRef (get ρ' i) = isRef (get ρ i)

section
variable {K : PySem.W.Frag} {Hf H Hf' H' Hf1 H1 Hf2 H2 H0 : Hp} {ρ ρ' ρ1 ρ2 : Env} {σ σ' : L2.St} {O O' O1 : Addr → Prop}

theorem get_set (ρ : Env) (i j : Nat) (s : Option Sl) : get (ρ.set i s) j = if i = j ∧ i < ρ.length then s else get ρ j := by
  unfold get
  by_cases h : i = j
  · subst h
    by_cases hl : i < ρ.length
    · rw [if_pos ⟨rfl, hl⟩, List.getElem?_set_self hl]; rfl
    · rw [if_neg (fun z => hl z.2), List.getElem?_eq_none (by simpa using hl), List.getElem?_eq_none (by simpa using hl)]
  · rw [if_neg (fun z => h z.1), List.getElem?_set_ne h]
theorem slot_set (σ : L2.St) (i j : Nat) (s : Option V) : slot (σ.set i s) j = if i = j ∧ i < σ.length then s else slot σ j := by
  unfold slot
  by_cases h : i = j
  · subst h
    by_cases hl : i < σ.length
    · rw [if_pos ⟨rfl, hl⟩, List.getElem?_set_self hl]; rfl
    · rw [if_neg (fun z => hl z.2), List.getElem?_eq_none (by simpa using hl), List.getElem?_eq_none (by simpa using hl)]
  · rw [if_neg (fun z => h z.1), List.getElem?_set_ne h]
theorem slot_at {i : Nat} {u : V} (h : slot σ i = some u) : σ[i]? = some (some u) := by
  unfold slot at h
  cases q : σ[i]? with
  | none => rw [q] at h; cases h
  | some x => rw [q] at h; exact congrArg some h

theorem Step.refl (e : Ex Hf H) : Step O Hf H Hf H := ⟨fun _ _ h => h, e, fun _ _ h _ => h, fun _ _ _ _ => rfl, fun _ o h => ⟨o, h⟩⟩
theorem Step.trans (a : Step O Hf H Hf1 H1) (b : Step O1 Hf1 H1 Hf2 H2) (h : ∀ p, O1 p → O p ∨ H p = none) : Step O Hf H Hf2 H2 := by
  have no : ∀ p o, H p = some o → ¬ O p → ¬ O1 p := fun p o e n z => by
    rcases h p z with q | q
    · exact n q
    · rw [e] at q; cases q
  refine ⟨fun p o e => b.ff p o (a.ff p o e), b.fh, fun p o e n => b.keep p o (a.keep p o e n) (no p o e n), fun p o e n => (b.nof p o (a.keep p o e n) (no p o e n)).trans (a.nof p o e n), fun p o e => ?_⟩
  obtain ⟨o', e'⟩ := a.dom p o e
  exact b.dom p o' e'
theorem Step.weak (a : Step O Hf H Hf1 H1) (h : ∀ p, O p → O1 p ∨ H p = none) : Step O1 Hf H Hf1 H1 := by
  have no : ∀ p o, H p = some o → ¬ O1 p → ¬ O p := fun p o e n z => by
    rcases h p z with q | q
    · exact n q
    · rw [e] at q; cases q
  exact ⟨a.ff, a.fh, fun p o e n => a.keep p o e (no p o e n), fun p o e n => a.nof p o e (no p o e n), a.dom⟩
theorem Step.fresh (a : Step O Hf H Hf1 H1) {p : Addr} (h : H1 p = none) : H p = none := by
  cases q : H p with
  | none => rfl
  | some o =>
    obtain ⟨o', e⟩ := a.dom p o q
    rw [h] at e; cases e

theorem RepOb.there {p : Addr} {o : Ob} (h : RepOb K Hf H p o) : ∃ x, H p = some x := by
  cases o with
  | lst xs => obtain ⟨_, e, _⟩ := h; exact ⟨_, e⟩
  | dct xs => obtain ⟨_, e, _⟩ := h; exact ⟨_, e⟩
theorem RepOb.step {p : Addr} {o : Ob} (h : RepOb K Hf H p o) (a : Step O Hf H Hf1 H1) (n : ¬ O p) : RepOb K Hf1 H1 p o := by
  cases o with
  | lst xs => obtain ⟨vs, e, d⟩ := h; exact ⟨vs, a.keep p _ e n, dps_mono a.ff _ _ d⟩
  | dct xs => obtain ⟨vs, e, d⟩ := h; exact ⟨vs, a.keep p _ e n, kvs_mono a.ff d⟩
theorem RepSl.step {s : Sl} {u : V} (h : RepSl K Hf H s u) (a : Step O Hf H Hf1 H1) (n : ∀ p, isOb (some s) = true → u = .ref p → ¬ O p) : RepSl K Hf1 H1 s u := by
  cases s with
  | val v => exact dp_mono a.ff _ _ h
  | own o =>
    obtain ⟨p, e, f, r⟩ := h
    obtain ⟨x, hx⟩ := r.there
    exact ⟨p, e, by rw [a.nof p x hx (n p rfl e)]; exact f, r.step a (n p rfl e)⟩
  | ref o =>
    obtain ⟨p, e, f, r⟩ := h
    obtain ⟨x, hx⟩ := r.there
    exact ⟨p, e, by rw [a.nof p x hx (n p rfl e)]; exact f, r.step a (n p rfl e)⟩
  | lck kvs => obtain ⟨p, e, ws, od, f, r⟩ := h; exact ⟨p, e, ws, od, a.ff p _ f, kvs_mono a.ff r⟩
/-- the names stand behind a step that touches none of their objects -/
theorem RepE.step (E : RepE K Hf H ρ σ) (a : Step O Hf H Hf1 H1) (n : ∀ p, Own ρ σ p → ¬ O p) : RepE K Hf1 H1 ρ σ := by
  refine ⟨E.len, a.fh, fun i s e => ?_, E.dis⟩
  obtain ⟨u, h1, h2⟩ := E.sl i s e
  refine ⟨u, h1, h2.step a fun p ho hu => n p ⟨i, ?_, ?_⟩⟩
  · rw [e]; exact ho
  · rw [h1, hu]
theorem RepE.there (E : RepE K Hf H ρ σ) {p : Addr} (h : Own ρ σ p) : (∃ x, H p = some x) ∧ Hf p = none := by
  obtain ⟨i, h1, h2⟩ := h
  cases q : get ρ i with
  | none => rw [q] at h1; cases h1
  | some s =>
    obtain ⟨u, h3, h4⟩ := E.sl i s q
    rw [h2] at h3; cases h3
    rw [q] at h1
    cases s with
    | val v => cases h1
    | own o => obtain ⟨p', e, f, r⟩ := h4; cases e; exact ⟨r.there, f⟩
    | ref o => obtain ⟨p', e, f, r⟩ := h4; cases e; exact ⟨r.there, f⟩
    | lck kvs => cases h1
theorem Kp.refl : Kp ρ ρ := ⟨fun _ h => h, fun _ => rfl⟩
theorem Kp.trans (a : Kp ρ ρ1) (b : Kp ρ1 ρ2) : Kp ρ ρ2 := ⟨fun i h => a.own i (b.own i h), fun i => (b.ref i).trans (a.ref i)⟩
theorem Kp.sub (a : Kp ρ ρ1) {p : Addr} (h : Own ρ1 σ p) : Own ρ σ p := by
  obtain ⟨i, h1, h2⟩ := h
  exact ⟨i, a.own i h1, h2⟩
theorem RepR.step {r : R} {u : V} (h : RepR K Hf H H0 σ r u) (a : Step O Hf H Hf1 H1) (n : ∀ p, O p → H0 p ≠ none) : RepR K Hf1 H1 H0 σ r u := by
  cases r with
  | val v => exact dp_mono a.ff _ _ h
  | new o =>
    obtain ⟨p, e, z, f, r⟩ := h
    obtain ⟨x, hx⟩ := r.there
    have np : ¬ O p := fun q => n p q z
    exact ⟨p, e, z, by rw [a.nof p x hx np]; exact f, r.step a np⟩
  | bor i => exact h
theorem RepR.back {r : R} {u : V} (h : RepR K Hf H H1 σ r u) (z : ∀ p, H1 p = none → H0 p = none) : RepR K Hf H H0 σ r u := by
  cases r with
  | val v => exact h
  | new o => obtain ⟨p, e, q, f, r⟩ := h; exact ⟨p, e, z p q, f, r⟩
  | bor i => exact h
theorem look_ok {r : R} {u : V} {c : Ct} (E : RepE K Hf H ρ σ) (h : RepR K Hf H H0 σ r u) (l : look r ρ = some c) : RepC K Hf H c u := by
  cases r with
  | val v => cases l; exact h
  | new o => cases l; obtain ⟨p, e, _, _, r⟩ := h; exact ⟨p, e, r.co⟩
  | bor i =>
    have l' : (get ρ i).map Sl.ct = some c := l
    cases q : get ρ i with
    | none => rw [q] at l'; cases l'
    | some s =>
      rw [q] at l'
      cases l'
      obtain ⟨u', h3, h4⟩ := E.sl i s q
      have h' : slot σ i = some u := h
      rw [h'] at h3; cases h3
      cases s with
      | val v => exact h4
      | own o => obtain ⟨p, e, _, r⟩ := h4; exact ⟨p, e, r.co⟩
      | ref o => obtain ⟨p, e, _, r⟩ := h4; exact ⟨p, e, r.co⟩
      | lck kvs => obtain ⟨p, e, ws, od, f, r⟩ := h4; exact ⟨p, e, ws, .inr ⟨od, E.ff p _ f⟩, r⟩
def isLck : Option Sl → Bool
  | some (.lck _) => true
  | _ => false
theorem isRef_isOb {s : Option Sl} (h : isRef s = true) (n : isLck s = false) : isOb s = true := by
  cases s with
  | none => cases h
  | some s => cases s <;> first | rfl | (cases h; done) | (simp [isLck] at n; done)
/-- a list that was nobody's, or a name's own, becomes a value -/
theorem frz_list {p : Addr} {xs : List PV} (e : Ex Hf H) (f : Hf p = none) (r : RepOb K Hf H p (.lst xs)) (hO : O p) :
    ∃ Hf', Step O Hf H Hf' H ∧ Dp K Hf' (.ref p) (.list xs) ∧ (∀ q, q ≠ p → Hf' q = Hf q) := by
  obtain ⟨vs, hv, d⟩ := r
  have ex : Ex Hf (upd Hf p (.lst vs)) := fun a o h => by
    rw [upd_ne (ne_of_none h f)]; exact h
  refine ⟨upd Hf p (.lst vs), ⟨ex, fun a o h => ?_, fun _ _ h _ => h, fun a o h n => ?_, fun _ o h => ⟨o, h⟩⟩, .lst (SqL.of upd_same) (dps_mono ex _ _ d), fun q hq => upd_ne hq⟩
  · by_cases ha : a = p
    · subst ha; rw [upd_same] at h; cases h; exact hv
    · rw [upd_ne ha] at h; exact e a o h
  · exact upd_ne fun z => n (z ▸ hO)
theorem frz_ok {r : R} {u : V} {v : PV} (E : RepE K Hf H ρ σ) (h : RepR K Hf H H0 σ r u) (no : ∀ q, Own ρ σ q → H0 q ≠ none) (l : frz r ρ = some (v, ρ')) :
    ∃ Hf', Step (fun p => Own ρ σ p ∨ H0 p = none) Hf H Hf' H ∧ RepE K Hf' H ρ' σ ∧ Dp K Hf' u v ∧ Kp ρ ρ' := by
  cases r with
  | val w => cases l; exact ⟨Hf, .refl E.ff, E, h, .refl⟩
  | new o =>
    obtain ⟨p, e, z, f, r⟩ := h
    subst e
    cases o with
    | dct kvs => cases l
    | lst xs =>
      cases l
      obtain ⟨Hf', S, d, hq⟩ := frz_list (O := fun p => p = p ∧ (Own ρ σ p ∨ H0 p = none)) E.ff f r ⟨rfl, .inr z⟩
      refine ⟨Hf', S.weak fun q hq => .inl hq.2, ⟨E.len, S.fh, fun i s e => ?_, E.dis⟩, d, .refl⟩
      obtain ⟨u, h1, h2⟩ := E.sl i s e
      refine ⟨u, h1, ?_⟩
      cases s with
      | val w => exact dp_mono S.ff _ _ h2
      | own o =>
        obtain ⟨q, e1, f1, r1⟩ := h2
        have nq : q ≠ p := fun y => no q ⟨i, by rw [e]; rfl, by rw [h1, e1]⟩ (y ▸ z)
        refine ⟨q, e1, by rw [hq q nq]; exact f1, ?_⟩
        cases o with
        | lst ys => obtain ⟨vs, a, b⟩ := r1; exact ⟨vs, a, dps_mono S.ff _ _ b⟩
        | dct ys => obtain ⟨vs, a, b⟩ := r1; exact ⟨vs, a, kvs_mono S.ff b⟩
      | ref o =>
        obtain ⟨q, e1, f1, r1⟩ := h2
        have nq : q ≠ p := fun y => no q ⟨i, by rw [e]; rfl, by rw [h1, e1]⟩ (y ▸ z)
        refine ⟨q, e1, by rw [hq q nq]; exact f1, ?_⟩
        cases o with
        | lst ys => obtain ⟨vs, a, b⟩ := r1; exact ⟨vs, a, dps_mono S.ff _ _ b⟩
        | dct ys => obtain ⟨vs, a, b⟩ := r1; exact ⟨vs, a, kvs_mono S.ff b⟩
      | lck kvs => obtain ⟨q, e1, ws, od, f, r⟩ := h2; exact ⟨q, e1, ws, od, S.ff q _ f, kvs_mono S.ff r⟩
  | bor i =>
    have h' : slot σ i = some u := h
    cases q : get ρ i with
    | none => simp only [frz, q] at l; cases l
    | some s =>
      obtain ⟨u', h3, h4⟩ := E.sl i s q
      rw [h'] at h3; cases h3
      cases s with
      | val w =>
        simp only [frz, q] at l
        cases l
        exact ⟨Hf, .refl E.ff, E, h4, .refl⟩
      | ref o => simp only [frz, q] at l; cases l
      | lck kvs => simp only [frz, q] at l; cases l
      | own o =>
        cases o with
        | dct kvs => simp only [frz, q, frzO] at l; cases l
        | lst xs =>
          simp only [frz, q, frzO, Option.map_some] at l
          cases l
          obtain ⟨p, e, f, r⟩ := h4
          subst e
          have oi : OwnAt ρ σ i p := ⟨by rw [q]; rfl, h'⟩
          obtain ⟨Hf', S, d, hq⟩ := frz_list (O := fun p => Own ρ σ p ∨ H0 p = none) E.ff f r (.inl ⟨i, oi⟩)
          have oth : ∀ j, OwnAt (ρ.set i (some (.val (.list xs)))) σ j p → False := fun j ⟨a, b⟩ => by
            rw [get_set] at a
            split at a
            · cases a
            · rename_i nn
              have ej := E.dis i j p oi ⟨a, b⟩
              subst ej
              refine nn ⟨rfl, ?_⟩
              have := (List.getElem?_eq_some_iff.mp (slot_at h')).1
              rw [E.len]; exact this
          have sub : ∀ j p', OwnAt (ρ.set i (some (.val (.list xs)))) σ j p' → OwnAt ρ σ j p' := fun j p' ⟨a, b⟩ => ⟨by
            rw [get_set] at a
            split at a
            · cases a
            · exact a, b⟩
          refine ⟨Hf', S, ⟨by rw [List.length_set]; exact E.len, S.fh, fun j s e => ?_, fun j k p' a b => E.dis j k p' (sub j p' a) (sub k p' b)⟩, d, ⟨fun j a => ?_, fun j => ?_⟩⟩
          · rw [get_set] at e
            split at e
            · rename_i hh
              cases e
              obtain ⟨rfl, _⟩ := hh
              exact ⟨_, h', d⟩
            · rename_i nn
              obtain ⟨u, h1, h2⟩ := E.sl j s e
              refine ⟨u, h1, ?_⟩
              cases s with
              | val w => exact dp_mono S.ff _ _ h2
              | own o =>
                obtain ⟨q', e1, f1, r1⟩ := h2
                have nq : q' ≠ p := fun y => oth j ⟨by rw [get_set, if_neg nn, e]; rfl, by rw [h1, e1, y]⟩
                refine ⟨q', e1, by rw [hq q' nq]; exact f1, ?_⟩
                cases o with
                | lst ys => obtain ⟨vs, a, b⟩ := r1; exact ⟨vs, a, dps_mono S.ff _ _ b⟩
                | dct ys => obtain ⟨vs, a, b⟩ := r1; exact ⟨vs, a, kvs_mono S.ff b⟩
              | ref o =>
                obtain ⟨q', e1, f1, r1⟩ := h2
                have nq : q' ≠ p := fun y => oth j ⟨by rw [get_set, if_neg nn, e]; rfl, by rw [h1, e1, y]⟩
                refine ⟨q', e1, by rw [hq q' nq]; exact f1, ?_⟩
                cases o with
                | lst ys => obtain ⟨vs, a, b⟩ := r1; exact ⟨vs, a, dps_mono S.ff _ _ b⟩
                | dct ys => obtain ⟨vs, a, b⟩ := r1; exact ⟨vs, a, kvs_mono S.ff b⟩
              | lck kvs => obtain ⟨q', e1, ws, od, f, r⟩ := h2; exact ⟨q', e1, ws, od, S.ff q' _ f, kvs_mono S.ff r⟩
          · rw [get_set] at a
            split at a
            · cases a
            · exact a
          · rw [get_set]
            split
            · rename_i hh
              obtain ⟨rfl, _⟩ := hh
              rw [q]; rfl
            · rfl
end
end Py
/-! Py2: expressions. -/
namespace Py
open PySem PySem.Spec PyProof.Rows L2

def Nobody : Addr → Prop := fun _ => False
/-- the sound meaning of a reading -/
def SE (K : PySem.W.Frag) (te : TE) (m : M) : Prop := ∀ (ρ : Env) (r : R) (ρ' : Env) (σ : L2.St) (Hf H : Hp), m ρ = some (r, ρ') → RepE K Hf H ρ σ → ∀ Q : VK,
  (∀ u Hf' H', Step (Own ρ σ) Hf H Hf' H' → RepE K Hf' H' ρ' σ → RepR K Hf' H' H σ r u → Kp ρ ρ' → Q u H') → te σ H Q
def ST (K : PySem.W.Frag) (tt : TT) (m : MT) : Prop := ∀ (ρ : Env) (b : Bool) (ρ' : Env) (σ : L2.St) (Hf H : Hp), m ρ = some (b, ρ') → RepE K Hf H ρ σ → ∀ Q : Bool → Hp → Prop,
  (∀ Hf' H', Step (Own ρ σ) Hf H Hf' H' → RepE K Hf' H' ρ' σ → Kp ρ ρ' → Q b H') → tt σ H Q
def SLs (K : PySem.W.Frag) (ta : TA) (m : ML) : Prop := ∀ (ρ : Env) (vs : List PV) (ρ' : Env) (σ : L2.St) (Hf H : Hp), m ρ = some (vs, ρ') → RepE K Hf H ρ σ → ∀ Q : List V → Hp → Prop,
  (∀ us Hf' H', Step (Own ρ σ) Hf H Hf' H' → RepE K Hf' H' ρ' σ → DpAll K Hf' us vs → Kp ρ ρ' → Q us H') → ta σ H Q
structure BE (X : Cx) (e : Expr) (m : M) : Prop where
  ex : ∃ te, PE X e te ∧ SE X.K te m
structure BT (X : Cx) (e : Expr) (m : MT) : Prop where
  ex : ∃ tt, PT X e tt ∧ ST X.K tt m
structure BW (X : Cx) (e : Expr) (m : MT) : Prop where
  ex : ∃ tt, PW X e tt ∧ ST X.K tt m
structure BL (X : Cx) (es : List Expr) (m : ML) : Prop where
  ex : ∃ ta, PA X es ta ∧ SLs X.K ta m
/-- a two-place operation by contents -/
def OpS (K : PySem.W.Frag) (r : R2) (f : Ct → Ct → Option R) : Prop := ∀ (Hf H : Hp) (c d : Ct) (x y : V) (z : R), Ex Hf H → RepC K Hf H c x → RepC K Hf H d y → f c d = some z → ∀ Q : VK,
  (∀ u Hf' H', Step Nobody Hf H Hf' H' → RepR K Hf' H' H [] z u → Q u H') → r x y H Q
structure OpB (X : Cx) (fn : Value → Value → Sem Value) (f : Ct → Ct → Option R) : Prop where
  ex : ∃ r, OpR X fn r ∧ OpS X.K r f
def UnS (K : PySem.W.Frag) (r : V → Hp → VK → Prop) (f : Ct → Option R) : Prop := ∀ (Hf H : Hp) (c : Ct) (x : V) (z : R), Ex Hf H → RepC K Hf H c x → f c = some z → ∀ Q : VK,
  (∀ u Hf' H', Step Nobody Hf H Hf' H' → RepR K Hf' H' H [] z u → Q u H') → r x H Q

section
variable {K : PySem.W.Frag} {Hf H Hf' H' Hf1 H1 Hf2 H2 H0 : Hp} {ρ ρ' ρ1 ρ2 : Env} {σ σ' : L2.St} {O O' O1 : Addr → Prop}
theorem RepR.any {r : R} {u : V} (h : RepR K Hf H H0 [] r u) : RepR K Hf H H0 σ r u := by
  cases r with
  | val v => exact h
  | new o => exact h
  | bor i =>
    have h' : slot [] i = some u := h
    simp [slot] at h'
/-- behind a: what holds there, for what comes behind it -/
structure Bh (K : PySem.W.Frag) (Hf H : Hp) (ρ : Env) (σ : L2.St) (Hf1 H1 : Hp) (ρ1 : Env) : Prop where
  st : Step (Own ρ σ) Hf H Hf1 H1
  en : RepE K Hf1 H1 ρ1 σ
  kp : Kp ρ ρ1
theorem Bh.refl (E : RepE K Hf H ρ σ) : Bh K Hf H ρ σ Hf H ρ := ⟨.refl E.ff, E, .refl⟩
theorem Bh.trans (a : Bh K Hf H ρ σ Hf1 H1 ρ1) (b : Bh K Hf1 H1 ρ1 σ Hf2 H2 ρ2) : Bh K Hf H ρ σ Hf2 H2 ρ2 :=
  ⟨a.st.trans b.st fun p h => .inl (a.kp.sub h), b.en, a.kp.trans b.kp⟩
/-- a step that touches nobody's object -/
theorem Bh.more (a : Bh K Hf H ρ σ Hf1 H1 ρ1) (b : Step Nobody Hf1 H1 Hf2 H2) : Bh K Hf H ρ σ Hf2 H2 ρ1 :=
  ⟨a.st.trans b fun p h => h.elim, a.en.step b fun _ _ h => h, a.kp⟩
theorem Bh.fresh (a : Bh K Hf H ρ σ Hf1 H1 ρ1) {p : Addr} (h : H1 p = none) : H p = none := a.st.fresh h
theorem Bh.no (a : Bh K Hf H ρ σ Hf1 H1 ρ1) (E : RepE K Hf H ρ σ) : ∀ q, Own ρ1 σ q → H q ≠ none := fun q h z => by
  obtain ⟨⟨x, hx⟩, _⟩ := E.there (a.kp.sub h)
  rw [z] at hx; cases hx
/-- an older result, behind what came behind it -/
theorem Bh.keepR (a : Bh K Hf H ρ σ Hf1 H1 ρ1) (E : RepE K Hf H ρ σ) (b : Bh K Hf1 H1 ρ1 σ Hf2 H2 ρ2) {r : R} {u : V} (h : RepR K Hf1 H1 H σ r u) : RepR K Hf2 H2 H σ r u :=
  h.step b.st fun p hp => a.no E p hp
theorem Bh.frz (a : Bh K Hf H ρ σ Hf1 H1 ρ1) (E : RepE K Hf H ρ σ) {r : R} {u : V} {v : PV} (h : RepR K Hf1 H1 H σ r u) (l : Py.frz r ρ1 = some (v, ρ2)) : ∃ Hf2, Bh K Hf H ρ σ Hf2 H1 ρ2 ∧ Dp K Hf2 u v := by
  obtain ⟨Hf2, S, E2, d, k⟩ := frz_ok a.en h (a.no E) l
  refine ⟨Hf2, ⟨a.st.trans S fun p hp => ?_, E2, a.kp.trans k⟩, d⟩
  rcases hp with hp | hp
  · exact .inl (a.kp.sub hp)
  · exact .inr hp

/-! ### the pieces -/
theorem se_c {v : PV} {u : V} (h : ∀ Hf, Dp K Hf u v) : SE K (tC u) (mC v) := by
  intro ρ r ρ' σ Hf H hm E Q q
  cases hm
  exact q u Hf H (.refl E.ff) E (h Hf) .refl
theorem se_var (i : Nat) : SE K (tVar i) (mVar i) := by
  intro ρ r ρ' σ Hf H hm E Q q
  unfold mVar at hm
  cases g : get ρ i with
  | none => rw [g] at hm; cases hm
  | some s =>
    rw [g] at hm
    obtain ⟨u, h1, h2⟩ := E.sl i s g
    refine ⟨u, slot_at h1, ?_⟩
    cases s with
    | val v => cases hm; exact q u Hf H (.refl E.ff) E h2 .refl
    | own o => cases hm; exact q u Hf H (.refl E.ff) E h1 .refl
    | ref o => cases hm; exact q u Hf H (.refl E.ff) E h1 .refl
    | lck kvs => cases hm; exact q u Hf H (.refl E.ff) E h1 .refl
theorem se_op {ta tb : TE} {a b : M} {r : R2} {f : Ct → Ct → Option R} (ha : SE K ta a) (hb : SE K tb b) (hr : OpS K r f) : SE K (tOp r ta tb) (mOp f a b) := by
  intro ρ r' ρ' σ Hf H hm E Q q
  simp only [mOp, Option.bind_eq_some_iff, Option.map_eq_some_iff, Prod.mk.injEq] at hm
  obtain ⟨⟨x, ρ1⟩, e1, ⟨y, ρ2⟩, e2, c, e3, d, e4, z, e5, rfl, rfl⟩ := hm
  refine ha ρ x ρ1 σ Hf H e1 E _ fun u Hf1 H1 S1 E1 R1 k1 => ?_
  have B1 : Bh K Hf H ρ σ Hf1 H1 ρ1 := ⟨S1, E1, k1⟩
  refine hb ρ1 y ρ2 σ Hf1 H1 e2 E1 _ fun w Hf2 H2 S2 E2 R2 k2 => ?_
  have B2 : Bh K Hf1 H1 ρ1 σ Hf2 H2 ρ2 := ⟨S2, E2, k2⟩
  have R1' := B1.keepR E B2 R1
  refine hr Hf2 H2 c d u w z E2.ff (look_ok E2 R1' e3) (look_ok E2 R2 e4) e5 _ fun t Hf3 H3 S3 R3 => ?_
  have B3 := (B1.trans B2).more S3
  exact q t Hf3 H3 B3.st B3.en (R3.any.back fun p hp => (B1.trans B2).fresh hp) B3.kp
theorem se_un {ta : TE} {a : M} {r : V → Hp → VK → Prop} {f : Ct → Option R} (ha : SE K ta a) (hr : UnS K r f) : SE K (tUn r ta) (mUn f a) := by
  intro ρ r' ρ' σ Hf H hm E Q q
  simp only [mUn, Option.bind_eq_some_iff, Option.map_eq_some_iff, Prod.mk.injEq] at hm
  obtain ⟨⟨x, ρ1⟩, e1, c, e3, z, e5, rfl, rfl⟩ := hm
  refine ha ρ x ρ1 σ Hf H e1 E _ fun u Hf1 H1 S1 E1 R1 k1 => ?_
  have B1 : Bh K Hf H ρ σ Hf1 H1 ρ1 := ⟨S1, E1, k1⟩
  refine hr Hf1 H1 c u z E1.ff (look_ok E1 R1 e3) e5 _ fun t Hf3 H3 S3 R3 => ?_
  have B3 := B1.more S3
  exact q t Hf3 H3 B3.st B3.en (R3.any.back fun p hp => B1.fresh hp) B3.kp
theorem boolOf_some {c : Ct} {b : Bool} (h : boolOf c = some b) : c = .pv (.bool b) := by
  unfold boolOf at h
  split at h
  · cases h; rfl
  · cases h
theorem rep_bool {b : Bool} {u : V} (h : RepC K Hf H (.pv (.bool b)) u) : u = .bl b := by cases h; rfl
theorem st_B {ta : TE} {a : M} (ha : SE K ta a) : ST K (tTest ta) (mB a) := by
  intro ρ b ρ' σ Hf H hm E Q q
  simp only [mB, Option.bind_eq_some_iff, Option.map_eq_some_iff, Prod.mk.injEq] at hm
  obtain ⟨⟨x, ρ1⟩, e1, c, e3, z, e5, rfl, rfl⟩ := hm
  refine ha ρ x ρ1 σ Hf H e1 E _ fun u Hf1 H1 S1 E1 R1 k1 => ?_
  have hc := look_ok E1 R1 e3
  rw [boolOf_some e5] at hc
  exact ⟨z, rep_bool hc, q Hf1 H1 S1 E1 k1⟩
theorem dps_isEmpty {us : List V} {vs : List PV} (h : DpAll K H us vs) : (!us.isEmpty) = !vs.isEmpty := by cases h <;> rfl
theorem kvs_isEmpty {us : List (Key × V)} {vs : List (Key × PV)} (h : KvAll K H us vs) : (!us.isEmpty) = !vs.isEmpty := by cases h <;> rfl
theorem tru_of {c : Ct} {b : Bool} {u : V} (e : Ex Hf H) (h : truOf c = some b) (r : RepC K Hf H c u) : TruV K u H b := by
  cases c with
  | pv v =>
    cases v with
    | none => cases h; cases r; exact rfl
    | bool b => cases h; cases r; exact rfl
    | int i => cases h; cases r; exact rfl
    | str x => cases h
    | list xs => cases h; cases r with | lst hs ha => exact .inl ⟨_, ex_l e hs, (dps_isEmpty ha).symm⟩
    | tuple xs => cases h; cases r with | tup hs ha => exact .inr (.inl ⟨_, ex_t e hs, (dps_isEmpty ha).symm⟩)
    | dict kvs => cases h
  | ob o =>
    obtain ⟨p, rfl, r⟩ := r
    cases o with
    | lst xs => cases h; obtain ⟨vs, e1, d⟩ := r; exact .inl ⟨_, SqL.of e1, (dps_isEmpty d).symm⟩
    | dct xs => cases h
theorem st_tru {ta : TE} {a : M} (ha : SE K ta a) : ST K (fun σ H Q => ta σ H fun x H' => ∃ k, TruV K x H' k ∧ Q k H') (mTru a) := by
  intro ρ b ρ' σ Hf H hm E Q q
  simp only [mTru, Option.bind_eq_some_iff, Option.map_eq_some_iff, Prod.mk.injEq] at hm
  obtain ⟨⟨x, ρ1⟩, e1, c, e3, z, e5, rfl, rfl⟩ := hm
  refine ha ρ x ρ1 σ Hf H e1 E _ fun u Hf1 H1 S1 E1 R1 k1 => ?_
  exact ⟨z, tru_of E1.ff e5 (look_ok E1 R1 e3), q Hf1 H1 S1 E1 k1⟩
theorem st_and {ta tb : TT} {a b : MT} (ha : ST K ta a) (hb : ST K tb b) : ST K (tAnd ta tb) (mAnd a b) := by
  intro ρ z ρ' σ Hf H hm E Q q
  simp only [mAnd, Option.bind_eq_some_iff] at hm
  obtain ⟨⟨x, ρ1⟩, e1, e2⟩ := hm
  refine ha ρ x ρ1 σ Hf H e1 E _ fun Hf1 H1 S1 E1 k1 => ?_
  have B1 : Bh K Hf H ρ σ Hf1 H1 ρ1 := ⟨S1, E1, k1⟩
  cases x with
  | true =>
    simp only [if_true] at e2 ⊢
    refine hb ρ1 z ρ' σ Hf1 H1 e2 E1 _ fun Hf2 H2 S2 E2 k2 => ?_
    have B2 := B1.trans (⟨S2, E2, k2⟩ : Bh K Hf1 H1 ρ1 σ Hf2 H2 ρ')
    exact q Hf2 H2 B2.st B2.en B2.kp
  | false =>
    simp only [Bool.false_eq_true, if_false] at e2 ⊢
    cases e2
    exact q Hf1 H1 S1 E1 k1
theorem st_or {ta tb : TT} {a b : MT} (ha : ST K ta a) (hb : ST K tb b) : ST K (tOr ta tb) (mOr a b) := by
  intro ρ z ρ' σ Hf H hm E Q q
  simp only [mOr, Option.bind_eq_some_iff] at hm
  obtain ⟨⟨x, ρ1⟩, e1, e2⟩ := hm
  refine ha ρ x ρ1 σ Hf H e1 E _ fun Hf1 H1 S1 E1 k1 => ?_
  have B1 : Bh K Hf H ρ σ Hf1 H1 ρ1 := ⟨S1, E1, k1⟩
  cases x with
  | false =>
    simp only [Bool.false_eq_true, if_false] at e2 ⊢
    refine hb ρ1 z ρ' σ Hf1 H1 e2 E1 _ fun Hf2 H2 S2 E2 k2 => ?_
    have B2 := B1.trans (⟨S2, E2, k2⟩ : Bh K Hf1 H1 ρ1 σ Hf2 H2 ρ')
    exact q Hf2 H2 B2.st B2.en B2.kp
  | true =>
    simp only [if_true] at e2 ⊢
    cases e2
    exact q Hf1 H1 S1 E1 k1
theorem st_not {ta : TT} {a : MT} (ha : ST K ta a) : ST K (tNot ta) (mNot a) := by
  intro ρ z ρ' σ Hf H hm E Q q
  simp only [mNot, Option.bind_eq_some_iff, Option.some.injEq, Prod.mk.injEq] at hm
  obtain ⟨⟨x, ρ1⟩, e1, rfl, rfl⟩ := hm
  exact ha ρ x ρ1 σ Hf H e1 E _ fun Hf1 H1 S1 E1 k1 => q Hf1 H1 S1 E1 k1
theorem se_andV {ta tb : TE} {a b : M} (ha : SE K ta a) (hb : SE K tb b) : SE K (tAndV ta tb) (mAndV a b) := by
  intro ρ z ρ' σ Hf H hm E Q q
  simp only [mAndV, Option.bind_eq_some_iff] at hm
  obtain ⟨⟨x, ρ1⟩, e1, c, e2, k, e3, e4⟩ := hm
  refine ha ρ x ρ1 σ Hf H e1 E _ fun u Hf1 H1 S1 E1 R1 k1 => ?_
  have B1 : Bh K Hf H ρ σ Hf1 H1 ρ1 := ⟨S1, E1, k1⟩
  have hc := look_ok E1 R1 e2
  rw [boolOf_some e3] at hc
  refine ⟨k, rep_bool hc, ?_⟩
  cases k with
  | true =>
    simp only [if_true] at e4 ⊢
    refine hb ρ1 z ρ' σ Hf1 H1 e4 E1 _ fun w Hf2 H2 S2 E2 R2 k2 => ?_
    have B2 := B1.trans (⟨S2, E2, k2⟩ : Bh K Hf1 H1 ρ1 σ Hf2 H2 ρ')
    exact q w Hf2 H2 B2.st B2.en (R2.back fun p hp => B1.fresh hp) B2.kp
  | false =>
    simp only [Bool.false_eq_true, if_false] at e4 ⊢
    cases e4
    exact q _ Hf1 H1 S1 E1 (.bl false) k1
theorem se_orV {ta tb : TE} {a b : M} (ha : SE K ta a) (hb : SE K tb b) : SE K (tOrV ta tb) (mOrV a b) := by
  intro ρ z ρ' σ Hf H hm E Q q
  simp only [mOrV, Option.bind_eq_some_iff] at hm
  obtain ⟨⟨x, ρ1⟩, e1, c, e2, k, e3, e4⟩ := hm
  refine ha ρ x ρ1 σ Hf H e1 E _ fun u Hf1 H1 S1 E1 R1 k1 => ?_
  have B1 : Bh K Hf H ρ σ Hf1 H1 ρ1 := ⟨S1, E1, k1⟩
  have hc := look_ok E1 R1 e2
  rw [boolOf_some e3] at hc
  refine ⟨k, rep_bool hc, ?_⟩
  cases k with
  | false =>
    simp only [Bool.false_eq_true, if_false] at e4 ⊢
    refine hb ρ1 z ρ' σ Hf1 H1 e4 E1 _ fun w Hf2 H2 S2 E2 R2 k2 => ?_
    have B2 := B1.trans (⟨S2, E2, k2⟩ : Bh K Hf1 H1 ρ1 σ Hf2 H2 ρ')
    exact q w Hf2 H2 B2.st B2.en (R2.back fun p hp => B1.fresh hp) B2.kp
  | true =>
    simp only [if_true] at e4 ⊢
    cases e4
    exact q _ Hf1 H1 S1 E1 (.bl true) k1
theorem se_notV {ta : TE} {a : M} (ha : SE K ta a) : SE K (tNotV ta) (mNotV a) := by
  intro ρ z ρ' σ Hf H hm E Q q
  simp only [mNotV, Option.bind_eq_some_iff, Option.some.injEq, Prod.mk.injEq] at hm
  obtain ⟨⟨x, ρ1⟩, e1, c, e2, k, e3, rfl, rfl⟩ := hm
  refine ha ρ x ρ1 σ Hf H e1 E _ fun u Hf1 H1 S1 E1 R1 k1 => ?_
  have hc := look_ok E1 R1 e2
  rw [boolOf_some e3] at hc
  exact ⟨k, rep_bool hc, q _ Hf1 H1 S1 E1 (.bl (!k)) k1⟩
theorem se_if {tt : TT} {ta tb : TE} {t : MT} {a b : M} (ht : ST K tt t) (ha : SE K ta a) (hb : SE K tb b) : SE K (tIf tt ta tb) (mIfE t a b) := by
  intro ρ z ρ' σ Hf H hm E Q q
  simp only [mIfE, Option.bind_eq_some_iff] at hm
  obtain ⟨⟨x, ρ1⟩, e1, e2⟩ := hm
  refine ht ρ x ρ1 σ Hf H e1 E _ fun Hf1 H1 S1 E1 k1 => ?_
  have B1 : Bh K Hf H ρ σ Hf1 H1 ρ1 := ⟨S1, E1, k1⟩
  cases x with
  | true =>
    simp only [if_true] at e2 ⊢
    refine ha ρ1 z ρ' σ Hf1 H1 e2 E1 _ fun w Hf2 H2 S2 E2 R2 k2 => ?_
    have B2 := B1.trans (⟨S2, E2, k2⟩ : Bh K Hf1 H1 ρ1 σ Hf2 H2 ρ')
    exact q w Hf2 H2 B2.st B2.en (R2.back fun p hp => B1.fresh hp) B2.kp
  | false =>
    simp only [Bool.false_eq_true, if_false] at e2 ⊢
    refine hb ρ1 z ρ' σ Hf1 H1 e2 E1 _ fun w Hf2 H2 S2 E2 R2 k2 => ?_
    have B2 := B1.trans (⟨S2, E2, k2⟩ : Bh K Hf1 H1 ρ1 σ Hf2 H2 ρ')
    exact q w Hf2 H2 B2.st B2.en (R2.back fun p hp => B1.fresh hp) B2.kp
theorem se_chain {ta tb tc : TE} {a b c : M} {r r' : R2} {f g : Ct → Ct → Option R} (ha : SE K ta a) (hb : SE K tb b) (hc : SE K tc c) (hr : OpS K r f) (hr' : OpS K r' g) : SE K (tChain r r' ta tb tc) (mChain f g a b c) := by
  intro ρ z ρ' σ Hf H hm E Q q
  simp only [mChain, Option.bind_eq_some_iff] at hm
  obtain ⟨⟨x, ρ1⟩, e1, ⟨y, ρ2⟩, e2, c1, e3, c2, e4, z1, e5, cz, e6, k, e7, e8⟩ := hm
  refine ha ρ x ρ1 σ Hf H e1 E _ fun u Hf1 H1 S1 E1 R1 k1 => ?_
  have B1 : Bh K Hf H ρ σ Hf1 H1 ρ1 := ⟨S1, E1, k1⟩
  refine hb ρ1 y ρ2 σ Hf1 H1 e2 E1 _ fun w Hf2 H2 S2 E2 R2 k2 => ?_
  have B2 : Bh K Hf1 H1 ρ1 σ Hf2 H2 ρ2 := ⟨S2, E2, k2⟩
  have R1' := B1.keepR E B2 R1
  refine hr Hf2 H2 c1 c2 u w z1 E2.ff (look_ok E2 R1' e3) (look_ok E2 R2 e4) e5 _ fun t Hf3 H3 S3 R3 => ?_
  have B3 := (B1.trans B2).more S3
  have hz := look_ok (σ := σ) B3.en (R3.any.back fun p hp => hp) e6
  rw [boolOf_some e7] at hz
  refine ⟨k, rep_bool hz, ?_⟩
  have R2' : RepR K Hf3 H3 H σ y w := (R2.back fun p hp => B1.fresh hp).step S3 fun p h => h.elim
  cases k with
  | true =>
    simp only [if_true, Option.bind_eq_some_iff, Option.map_eq_some_iff, Prod.mk.injEq] at e8 ⊢
    obtain ⟨⟨w2, ρ3⟩, d1, c3, d2, c4, d3, z2, d4, rfl, rfl⟩ := e8
    refine hc ρ2 w2 ρ3 σ Hf3 H3 d1 B3.en _ fun w' Hf4 H4 S4 E4 R4 k4 => ?_
    have B4 : Bh K Hf3 H3 ρ2 σ Hf4 H4 ρ3 := ⟨S4, E4, k4⟩
    have R2'' := B3.keepR E B4 R2'
    refine hr' Hf4 H4 c3 c4 w w' z2 E4.ff (look_ok E4 R2'' d2) (look_ok E4 R4 d3) d4 _ fun t' Hf5 H5 S5 R5 => ?_
    have B5 := (B3.trans B4).more S5
    exact q t' Hf5 H5 B5.st B5.en (R5.any.back fun p hp => (B3.trans B4).fresh hp) B5.kp
  | false =>
    simp only [Bool.false_eq_true, if_false] at e8 ⊢
    cases e8
    exact q _ Hf3 H3 B3.st B3.en (.bl false) B3.kp
theorem sl_nil : SLs K tNil lNil := by
  intro ρ vs ρ' σ Hf H hm E Q q
  cases hm
  exact q [] Hf H (.refl E.ff) E .nil .refl
theorem sl_cons {ta : TE} {tr : TA} {a : M} {r : ML} (ha : SE K ta a) (hr : SLs K tr r) : SLs K (tCons ta tr) (lCons a r) := by
  intro ρ vs ρ' σ Hf H hm E Q q
  simp only [lCons, Option.bind_eq_some_iff, Option.map_eq_some_iff, Prod.mk.injEq] at hm
  obtain ⟨⟨x, ρ1⟩, e1, ⟨v, ρ2⟩, e2, ⟨vs', ρ3⟩, e3, rfl, rfl⟩ := hm
  refine ha ρ x ρ1 σ Hf H e1 E _ fun u Hf1 H1 S1 E1 R1 k1 => ?_
  have B1 : Bh K Hf H ρ σ Hf1 H1 ρ1 := ⟨S1, E1, k1⟩
  obtain ⟨Hf2, B2, d⟩ := B1.frz E R1 e2
  refine hr ρ2 vs' ρ3 σ Hf2 H1 e3 B2.en _ fun us Hf3 H3 S3 E3 D3 k3 => ?_
  have B3 := B2.trans (⟨S3, E3, k3⟩ : Bh K Hf2 H1 ρ2 σ Hf3 H3 ρ3)
  exact q (u :: us) Hf3 H3 B3.st B3.en (.cons (dp_mono S3.ff _ _ d) D3) B3.kp
theorem line_eq : line = sizeLine := by rw [sizeLine_eq]; rfl
/-- a new tuple, a new list -/
theorem new_tup {us : List V} {vs : List PV} (e : Ex Hf H) (d : DpAll K Hf us vs) {p : Addr} (hp : H p = none) : Step Nobody Hf H (upd Hf p (.tup us)) (upd H p (.tup us)) ∧ Dp K (upd Hf p (.tup us)) (.ref p) (.tuple vs) := by
  have fp : Hf p = none := by
    cases z : Hf p with
    | none => rfl
    | some o => have := e p o z; rw [hp] at this; cases this
  have ex : Ex Hf (upd Hf p (.tup us)) := fun a o h => by rw [upd_ne (ne_of_none h fp)]; exact h
  refine ⟨⟨ex, fun a o h => ?_, fun a o h _ => by rw [upd_ne (ne_of_none h hp)]; exact h, fun a o h _ => upd_ne (ne_of_none h hp), fun a o h => ⟨o, by rw [upd_ne (ne_of_none h hp)]; exact h⟩⟩, .tup (SqT.of upd_same) (dps_mono ex _ _ d)⟩
  by_cases ha : a = p
  · subst ha; rw [upd_same] at h ⊢; exact h
  · rw [upd_ne ha] at h ⊢; exact e a o h
theorem new_ob {o : HO} (e : Ex Hf H) {p : Addr} (hp : H p = none) : Step Nobody Hf H Hf (upd H p o) ∧ Hf p = none := by
  have fp : Hf p = none := by
    cases z : Hf p with
    | none => rfl
    | some o => have := e p o z; rw [hp] at this; cases this
  exact ⟨⟨fun _ _ h => h, fun a o h => by rw [upd_ne (ne_of_none h fp)]; exact e a o h, fun a o h _ => by rw [upd_ne (ne_of_none h hp)]; exact h, fun _ _ _ _ => rfl, fun a o h => ⟨o, by rw [upd_ne (ne_of_none h hp)]; exact h⟩⟩, fp⟩
theorem se_tup {ta : TA} {l : ML} (hl : SLs K ta l) : SE K (tTup ta) (mTup l) := by
  intro ρ z ρ' σ Hf H hm E Q q
  simp only [mTup, Option.bind_eq_some_iff] at hm
  obtain ⟨⟨vs, ρ1⟩, e1, e2⟩ := hm
  split at e2
  · rename_i hz
    cases e2
    refine hl ρ vs ρ1 σ Hf H e1 E _ fun us Hf1 H1 S1 E1 D1 k1 => ?_
    have B1 : Bh K Hf H ρ σ Hf1 H1 ρ1 := ⟨S1, E1, k1⟩
    refine ⟨by rw [dps_len D1, ← line_eq]; exact hz, fun p hp => ?_⟩
    obtain ⟨S, d⟩ := new_tup E1.ff D1 hp
    have B2 := B1.more S
    exact q _ _ _ B2.st B2.en d B2.kp
  · cases e2
theorem se_lst {ta : TA} {l : ML} (hl : SLs K ta l) : SE K (tLst ta) (mLst l) := by
  intro ρ z ρ' σ Hf H hm E Q q
  simp only [mLst, Option.bind_eq_some_iff] at hm
  obtain ⟨⟨vs, ρ1⟩, e1, e2⟩ := hm
  split at e2
  · rename_i hz
    cases e2
    refine hl ρ vs ρ1 σ Hf H e1 E _ fun us Hf1 H1 S1 E1 D1 k1 => ?_
    have B1 : Bh K Hf H ρ σ Hf1 H1 ρ1 := ⟨S1, E1, k1⟩
    refine ⟨by rw [dps_len D1, ← line_eq]; exact hz, fun p hp => ?_⟩
    obtain ⟨S, fp⟩ := new_ob (o := .lst us) E1.ff hp
    have B2 := B1.more S
    exact q _ _ _ B2.st B2.en ⟨p, rfl, B1.fresh hp, fp, us, upd_same, D1⟩ B2.kp
  · cases e2
end

/-! ### the rules a derivation is made of -/
section
variable {X : Cx} {a b c : Expr} {ma mb mc : M} {ta tb : MT} {pos : Pos}
theorem be_var (i : Nat) {x : Str} {pos : Pos} (hN : X.N[i]? = some x := by rfl) (hv : Vis X.env.scope x := by first | exact Or.inl rfl | exact Or.inr (Or.inl rfl) | exact Or.inr (Or.inr rfl)) (hd : (x == ("__debug__" : Str)) = false := by decide)
    (hcd : (x == ("__classdict__" : Str)) = false := by decide) : BE X (.Name x pos) (mVar i) := ⟨_, pe_var hN hv hd hcd, se_var i⟩
theorem be_int {i j pos} : BE X (.Constant (.int i) j pos) (mC (.int i)) := ⟨_, pe_int, se_c fun _ => .int i⟩
theorem be_bl {b j pos} : BE X (.Constant (.bool b) j pos) (mC (.bool b)) := ⟨_, pe_bl, se_c fun _ => .bl b⟩
theorem be_non {j pos} : BE X (.Constant .none j pos) (mC .none) := ⟨_, pe_non, se_c fun _ => .non⟩
theorem be_str {x j pos} : BE X (.Constant (.str x) j pos) (mC (.str x)) := ⟨_, pe_str, se_c fun _ => .str x⟩
theorem be_op {op : Operator} {f : Ct → Ct → Option R} (ho : OpB X (binaryOp op) f) (ha : BE X a ma) (hb : BE X b mb) : BE X (.BinOp a op b pos) (mOp f ma mb) := by
  obtain ⟨r, h1, h2⟩ := ho
  obtain ⟨t1, a1, a2⟩ := ha
  obtain ⟨t2, b1, b2⟩ := hb
  exact ⟨_, pe_op h1 a1 b1, se_op a2 b2 h2⟩
theorem be_cmp {op : CmpOp} {f : Ct → Ct → Option R} (ho : OpB X (compareOp op) f) (ha : BE X a ma) (hb : BE X b mb) (hm : behindInMarks op b = false := by first | exact nomark _ | with_unfolding_all rfl) : BE X (.Compare a [op] [b] pos) (mOp f ma mb) := by
  obtain ⟨r, h1, h2⟩ := ho
  obtain ⟨t1, a1, a2⟩ := ha
  obtain ⟨t2, b1, b2⟩ := hb
  exact ⟨_, pe_cmpR h1 a1 b1 hm, se_op a2 b2 h2⟩
theorem bt_cmp {op : CmpOp} {f : Ct → Ct → Option R} (ho : OpB X (compareOp op) f) (ha : BE X a ma) (hb : BE X b mb) (hm : behindInMarks op b = false := by first | exact nomark _ | with_unfolding_all rfl) : BT X (.Compare a [op] [b] pos) (mB (mOp f ma mb)) := by
  obtain ⟨r, h1, h2⟩ := ho
  obtain ⟨t1, a1, a2⟩ := ha
  obtain ⟨t2, b1, b2⟩ := hb
  exact ⟨_, pt_cmpR h1 a1 b1 hm, st_B (se_op a2 b2 h2)⟩
theorem be_chain {op op' : CmpOp} {f g : Ct → Ct → Option R} (ho : OpB X (compareOp op) f) (ho' : OpB X (compareOp op') g) (ha : BE X a ma) (hb : BE X b mb) (hc : BE X c mc) (hm : lastMarks [op, op'] [b, c] = false := by with_unfolding_all rfl) :
    BE X (.Compare a [op, op'] [b, c] pos) (mChain f g ma mb mc) := by
  obtain ⟨r, h1, h2⟩ := ho
  obtain ⟨r', h1', h2'⟩ := ho'
  obtain ⟨t1, a1, a2⟩ := ha
  obtain ⟨t2, b1, b2⟩ := hb
  obtain ⟨t3, c1, c2⟩ := hc
  exact ⟨_, pe_chain h1 h1' a1 b1 c1 hm, se_chain a2 b2 c2 h2 h2'⟩
theorem bt_chain {op op' : CmpOp} {f g : Ct → Ct → Option R} (ho : OpB X (compareOp op) f) (ho' : OpB X (compareOp op') g) (ha : BE X a ma) (hb : BE X b mb) (hc : BE X c mc) (hm : lastMarks [op, op'] [b, c] = false := by with_unfolding_all rfl) :
    BT X (.Compare a [op, op'] [b, c] pos) (mB (mChain f g ma mb mc)) := by
  obtain ⟨r, h1, h2⟩ := ho
  obtain ⟨r', h1', h2'⟩ := ho'
  obtain ⟨t1, a1, a2⟩ := ha
  obtain ⟨t2, b1, b2⟩ := hb
  obtain ⟨t3, c1, c2⟩ := hc
  exact ⟨_, pt_chain h1 h1' a1 b1 c1 hm, st_B (se_chain a2 b2 c2 h2 h2')⟩
/-- a test that is its value's truth -/
theorem bt_tru (ha : BE X a ma) (he : ∀ whole, isTrue a X.env whole = (do let v ← whole; standAt a.pos; holding [v] (truthy v)) := by intro _; rfl) : BT X a (mTru ma) := by
  obtain ⟨t, a1, a2⟩ := ha
  exact ⟨_, pt_truth a1 he, st_tru a2⟩
variable {rest : List Expr} {tr : MT}
theorem bw_and1 (ha : BT X a ta) : BW X (.BoolOp .And [a] pos) ta := let ⟨t, h1, h2⟩ := ha; ⟨t, pw_and1 h1, h2⟩
theorem bw_or1 (ha : BT X a ta) : BW X (.BoolOp .Or [a] pos) ta := let ⟨t, h1, h2⟩ := ha; ⟨t, pw_or1 h1, h2⟩
theorem bw_and (ha : BT X a ta) (hb : BW X (.BoolOp .And (b :: rest) pos) tr) : BW X (.BoolOp .And (a :: b :: rest) pos) (mAnd ta tr) := let ⟨t, h1, h2⟩ := ha; let ⟨u, h3, h4⟩ := hb; ⟨_, pw_and h1 h3, st_and h2 h4⟩
theorem bw_or (ha : BT X a ta) (hb : BW X (.BoolOp .Or (b :: rest) pos) tr) : BW X (.BoolOp .Or (a :: b :: rest) pos) (mOr ta tr) := let ⟨t, h1, h2⟩ := ha; let ⟨u, h3, h4⟩ := hb; ⟨_, pw_or h1 h3, st_or h2 h4⟩
theorem bt_w (ha : BW X a ta) : BT X a ta := let ⟨t, h1, h2⟩ := ha; ⟨t, h1.pt, h2⟩
theorem bt_not (ha : BT X a ta) : BT X (.UnaryOp .Not a pos) (mNot ta) := let ⟨t, h1, h2⟩ := ha; ⟨_, pt_not h1, st_not h2⟩
theorem be_one {op} (ha : BE X a ma) : BE X (.BoolOp op [a] pos) ma := let ⟨t, h1, h2⟩ := ha; ⟨_, pe_one h1, h2⟩
theorem be_and (ha : BE X a ma) (hb : BE X (.BoolOp .And (b :: rest) pos) mb) : BE X (.BoolOp .And (a :: b :: rest) pos) (mAndV ma mb) := let ⟨t, h1, h2⟩ := ha; let ⟨u, h3, h4⟩ := hb; ⟨_, pe_and h1 h3, se_andV h2 h4⟩
theorem be_or (ha : BE X a ma) (hb : BE X (.BoolOp .Or (b :: rest) pos) mb) : BE X (.BoolOp .Or (a :: b :: rest) pos) (mOrV ma mb) := let ⟨t, h1, h2⟩ := ha; let ⟨u, h3, h4⟩ := hb; ⟨_, pe_or h1 h3, se_orV h2 h4⟩
theorem be_not (ha : BE X a ma) : BE X (.UnaryOp .Not a pos) (mNotV ma) := let ⟨t, h1, h2⟩ := ha; ⟨_, pe_not h1, se_notV h2⟩
theorem be_if (hc : BT X c ta) (ha : BE X a ma) (hb : BE X b mb) : BE X (.IfExp c a b pos) (mIfE ta ma mb) := let ⟨t, h1, h2⟩ := hc; let ⟨u, h3, h4⟩ := ha; let ⟨w, h5, h6⟩ := hb; ⟨_, pe_ifExp h1 h3 h5, se_if h2 h4 h6⟩
variable {es : List Expr} {ml : ML}
theorem bl_nil : BL X [] lNil := ⟨_, pa_nil, sl_nil⟩
theorem bl_cons (ha : BE X a ma) (hr : BL X es ml) (hs : starEach (a :: es) X.env = (false, eval a X.env) :: starEach es X.env := by rfl) : BL X (a :: es) (lCons ma ml) := let ⟨t, h1, h2⟩ := ha; let ⟨u, h3, h4⟩ := hr; ⟨_, pa_cons h1 h3 hs, sl_cons h2 h4⟩
theorem be_tup {k} (h : BL X es ml) : BE X (.Tuple es k pos) (mTup ml) := let ⟨t, h1, h2⟩ := h; ⟨_, pe_tup h1, se_tup h2⟩
theorem be_lst (h : BL X es ml) : BE X (.List es pos) (mLst ml) := let ⟨t, h1, h2⟩ := h; ⟨_, pe_lst h1, se_lst h2⟩
end
end Py
namespace L2
open PySem PySem.Spec PyProof.Rows
theorem tuple_mulS (l : Addr) (items : Array Value) (n : Nat) (dd : Option Addr) (sl : Array (Option Value)) (x : Int) (u : Tok) (c0 : (decide (x < -(2 ^ 63)) || decide (x ≥ 2 ^ 63)) = false) (c1 : (items.isEmpty || x == 1) = true) :
    Meets (Builtin.«tuple.__mul__» ⟨[.ref l, .int x u], []⟩) (fun _ R s => s.heap.get? l = some { cls := .type "tuple", dict := dd, data := .seq items n, slots := sl } ∧ R (.ok (.ret (.ref l))) s) :=
  .of_wp fun prog w A R s h => by
    obtain ⟨hp, g, d, tk, os⟩ := s
    obtain ⟨hl, h⟩ := h
    have f1 := AutoSeq1.idx_int
    wp_walk using wpAny_loadPart' hl
    repeat (first
      | (refine wpAny_ite_false (decide_eq_false (by rw [c0]; exact Bool.false_ne_true)) ?_; wp_walk using wpAny_loadPart' hl)
      | (refine wpAny_ite_true (decide_eq_true c1) ?_; wp_walk using wpAny_loadPart' hl))
    exact ⟨_, rfl, h⟩
theorem tuple_mulE (l : Addr) (items : Array Value) (n : Nat) (dd : Option Addr) (sl : Array (Option Value)) (x : Int) (u : Tok) (c0 : (decide (x < -(2 ^ 63)) || decide (x ≥ 2 ^ 63)) = false) (c1 : (items.isEmpty || x == 1) = false) (c2 : (decide (x ≤ 0) || items.isEmpty) = true) :
    Meets (Builtin.«tuple.__mul__» ⟨[.ref l, .int x u], []⟩) (fun _ R s => s.heap.get? l = some { cls := .type "tuple", dict := dd, data := .seq items n, slots := sl } ∧
      R (.ok (.ret (Value.ref s.heap.objs.size))) { s with heap := s.heap.push { cls := Value.type "tuple", data := Data.seq #[] }, toks := s.toks }) :=
  .of_wp fun prog w A R s h => by
    obtain ⟨hp, g, d, tk, os⟩ := s
    obtain ⟨hl, h⟩ := h
    have f1 := AutoSeq1.idx_int
    wp_walk using wpAny_loadPart' hl
    repeat (first
      | (refine wpAny_ite_false (decide_eq_false (by rw [c0]; exact Bool.false_ne_true)) ?_; wp_walk using wpAny_loadPart' hl)
      | (refine wpAny_ite_false (decide_eq_false (by rw [c1]; exact Bool.false_ne_true)) ?_; wp_walk using wpAny_loadPart' hl)
      | (refine wpAny_ite_true (decide_eq_true c2) ?_; wp_walk using wpAny_loadPart' hl))
    exact ⟨_, rfl, h⟩
def rRepS (K : PySem.W.Frag) : R2 := fun x y H Q => ∃ l k xs, x = .ref l ∧ y = .int k ∧ SqT K H l xs ∧ (xs = [] ∨ k = 1) ∧ -(2 ^ 62) < k ∧ k ≤ 1000 ∧ Q (.ref l) H
def rRepE (K : PySem.W.Frag) : R2 := fun x y H Q => ∃ l k xs, x = .ref l ∧ y = .int k ∧ SqT K H l xs ∧ xs ≠ [] ∧ -(2 ^ 62) < k ∧ k ≤ 0 ∧ ∀ p, H p = none → Q (.ref p) (upd H p (.tup []))
theorem op_repS {X : Cx} : OpR X (binaryOp .Mult) (rRepS X.K) := by
  intro pins s σ H x y v u Q I rx ry h
  obtain ⟨l, k, xs, rfl, rfl, hT, hne, h1, h2, q⟩ := h
  cases rx
  obtain ⟨t, rfl⟩ := ry
  obtain ⟨its, r, ⟨⟨cls, dd, data, sl⟩, ho, hc, n, hd⟩, hs⟩ := I.tuple hT
  simp only at hc hd
  subst hc hd
  have c0 : (decide (k < -(2 ^ 63)) || decide (k ≥ 2 ^ 63)) = false := by
    rw [decide_eq_false (by omega), decide_eq_false (by omega)] <;> rfl
  have c1 : (its.toArray.isEmpty || k == 1) = true := by
    rcases hne with e | e
    · subst e
      have : its = [] := List.eq_nil_of_length_eq_zero (by rw [← r.length]; rfl)
      subst this
      rfl
    · subst e
      simp
  refine wpAny_binaryOp_repeat_ref (T := "tuple") (U := "int") (by decide) ⟨_, ho, rfl⟩ (fun s' => typeIs_int s' k t) noFill_tuple_mul F.fills_int_mul F.slot_int_rmul repeat_tuple F.slot_int_index.lookup
    (call_meets F.slot_int_rmul (typeIs_int s k t) F.entry_int_rmul (F.args_int_rmul_2 _ _) (int_rmul_tuple k t l its.toArray n dd sl)
      ⟨ho, rfl, ⟨_, ho, rfl⟩, call_meets F.slot_tuple_mul ⟨_, ho, rfl⟩ F.entry_tuple_mul (F.args_tuple_mul_2 _ _) (tuple_mulS l its.toArray n dd sl k t c0 c1) ⟨ho, ?_⟩⟩)
  exact ⟨.ref l, H, I, rfl, q⟩
theorem op_repE {X : Cx} : OpR X (binaryOp .Mult) (rRepE X.K) := by
  intro pins s σ H x y v u Q I rx ry h
  obtain ⟨l, k, xs, rfl, rfl, hT, hne, h1, h2, q⟩ := h
  cases rx
  obtain ⟨t, rfl⟩ := ry
  obtain ⟨its, r, ⟨⟨cls, dd, data, sl⟩, ho, hc, n, hd⟩, hs⟩ := I.tuple hT
  simp only at hc hd
  subst hc hd
  have hle : its.length = xs.length := r.length.symm
  have hn : its ≠ [] := fun e => hne (by
    rw [e] at hle
    exact List.eq_nil_of_length_eq_zero hle.symm)
  have hi : its.toArray.isEmpty = false := by
    cases its with
    | nil => exact absurd rfl hn
    | cons a b => rfl
  have c0 : (decide (k < -(2 ^ 63)) || decide (k ≥ 2 ^ 63)) = false := by
    rw [decide_eq_false (by omega), decide_eq_false (by omega)] <;> rfl
  have c1 : (its.toArray.isEmpty || k == 1) = false := by
    rw [hi, Bool.false_or]
    exact beq_eq_false_iff_ne.mpr (by omega)
  have c2 : (decide (k ≤ 0) || its.toArray.isEmpty) = true := by
    rw [decide_eq_true h2]
    rfl
  refine wpAny_binaryOp_repeat_ref (T := "tuple") (U := "int") (by decide) ⟨_, ho, rfl⟩ (fun s' => typeIs_int s' k t) noFill_tuple_mul F.fills_int_mul F.slot_int_rmul repeat_tuple F.slot_int_index.lookup
    (call_meets F.slot_int_rmul (typeIs_int s k t) F.entry_int_rmul (F.args_int_rmul_2 _ _) (int_rmul_tuple k t l its.toArray n dd sl)
      ⟨ho, rfl, ⟨_, ho, rfl⟩, call_meets F.slot_tuple_mul ⟨_, ho, rfl⟩ F.entry_tuple_mul (F.args_tuple_mul_2 _ _) (tuple_mulE l its.toArray n dd sl k t c0 c1 c2) ⟨ho, ?_⟩⟩)
  refine ⟨.ref s.heap.objs.size, _, I.laid (t' := s.toks) (o := .tup []) (fun b ob q => Heap.get?_push_of_some _ q) (Nat.le_refl _) ?_, rfl, q _ (I.hok.fresh (Nat.le_refl _))⟩
  exact ⟨by rw [sizeLine_eq]; exact Nat.zero_le _, [], .nil, IsTup.new _ _⟩
end L2
/-! Py3: operators and built-ins by contents. -/
namespace Py
open PySem PySem.Spec PyProof.Rows L2

/-- a division of any size has room -/
structure DivOk (X : Cx) : Prop where
  seer : X.base.NoSeer
  tree : X.prog.given.tree = none
  deep : X.A.depth + Builtin.pylongFrames < recursionLimit
  top : ∃ env l, X.stack = env :: l ∧ env.scope.isGenerator = false ∧ env.scope.isCoroutine = false ∧ env.builtins = builtinsNs ∧ env.globals = mainGlobals
theorem DivOk.room {X : Cx} (D : DivOk X) {pins : List (Addr × Obj)} {σ : L2.St} {H : Hp} {s : Shared} (I : Inv X pins σ H s) : PylongRoom (model X.prog X.w) X.A s := by
  obtain ⟨env, l, e, h1, h2, h3, h4⟩ := D.top
  exact PylongRoom.of I.nolimit D.deep (SeerAt.of (D.seer.keeps I.bk) D.tree (by rw [I.ok.frames, e]) h1 h2 h3 h4)

section
variable {K : PySem.W.Frag} {Hf H Hf' H' : Hp} {X : Cx}
/-- a value that is there already -/
theorem old {v : PV} {u : V} {Q : VK} (e : Ex Hf H) (d : Dp K Hf u v) (q : ∀ u Hf' H', Step Nobody Hf H Hf' H' → RepR K Hf' H' H [] (.val v) u → Q u H') : Q u H := q u Hf H (.refl e) d
theorem newL {us : List V} {vs : List PV} {Q : VK} (e : Ex Hf H) (d : DpAll K Hf us vs) (q : ∀ u Hf' H', Step Nobody Hf H Hf' H' → RepR K Hf' H' H [] (.new (.lst vs)) u → Q u H') : ∀ p, H p = none → Q (.ref p) (upd H p (.lst us)) := fun p hp => by
  obtain ⟨S, fp⟩ := new_ob (o := .lst us) e hp
  exact q _ _ _ S ⟨p, rfl, hp, fp, us, upd_same, d⟩
theorem newT {us : List V} {vs : List PV} {Q : VK} (e : Ex Hf H) (d : DpAll K Hf us vs) (q : ∀ u Hf' H', Step Nobody Hf H Hf' H' → RepR K Hf' H' H [] (.val (.tuple vs)) u → Q u H') : ∀ p, H p = none → Q (.ref p) (upd H p (.tup us)) := fun p hp => by
  obtain ⟨S, d'⟩ := new_tup e d hp
  exact q _ _ _ S d'
theorem opB_or {fn : Value → Value → Sem Value} {r r' : R2} {f : Ct → Ct → Option R} (h : OpR X fn r) (h' : OpR X fn r') (hs : OpS X.K (fun x y H Q => r x y H Q ∨ r' x y H Q) f) : OpB X fn f := ⟨_, h.or h', hs⟩
theorem opB_int : ∀ {fn : Value → Value → Sem Value} {C : Int → Int → Prop} {g : Int → Int → V} {f : Ct → Ct → Option R}, OpR X fn (rI C g) →
    (∀ c d z, f c d = some z → ∃ i j v, c = .pv (.int i) ∧ d = .pv (.int j) ∧ C i j ∧ z = .val v ∧ ∀ Hf, Dp X.K Hf (g i j) v) → OpB X fn f := fun h hf => ⟨_, h, fun Hf H c d x y z e hc hd e5 Q q => by
  obtain ⟨i, j, v, rfl, rfl, hC, rfl, hv⟩ := hf c d z e5
  cases hc
  cases hd
  exact ⟨i, j, rfl, rfl, hC, old e (hv Hf) q⟩⟩
theorem opB_int0 {fn : Value → Value → Sem Value} {g : Int → Int → V} {f : Ct → Ct → Option R} (h : OpR X fn (rI0 g))
    (hf : ∀ c d z, f c d = some z → ∃ i j v, c = .pv (.int i) ∧ d = .pv (.int j) ∧ z = .val v ∧ ∀ Hf, Dp X.K Hf (g i j) v) : OpB X fn f := ⟨_, h, fun Hf H c d x y z e hc hd e5 Q q => by
  obtain ⟨i, j, v, rfl, rfl, rfl, hv⟩ := hf c d z e5
  cases hc
  cases hd
  exact ⟨i, j, rfl, rfl, old e (hv Hf) q⟩⟩
theorem cI_some {p : Int → Int → Bool} {c d : Ct} {z : R} (h : cI p c d = some z) : ∃ i j v, c = .pv (.int i) ∧ d = .pv (.int j) ∧ z = .val v ∧ ∀ Hf, Dp K Hf (.bl (p i j)) v := by
  unfold cI at h
  split at h
  · cases h; exact ⟨_, _, _, rfl, rfl, rfl, fun _ => .bl _⟩
  · cases h
theorem ob_lt : OpB X (compareOp .Lt) fLt := opB_int0 op_lt fun _ _ _ h => cI_some h
theorem ob_le : OpB X (compareOp .LtE) fLe := opB_int0 op_le fun _ _ _ h => cI_some h
theorem ob_gt : OpB X (compareOp .Gt) fGt := opB_int0 op_gt fun _ _ _ h => cI_some h
theorem ob_ge : OpB X (compareOp .GtE) fGe := opB_int0 op_ge fun _ _ _ h => cI_some h
theorem ob_sub : OpB X (binaryOp .Sub) fSub := opB_int0 op_sub fun c d z h => by
  unfold fSub at h
  split at h
  · cases h; exact ⟨_, _, _, rfl, rfl, rfl, fun _ => .int _⟩
  · cases h
theorem ob_isub : OpB X (inplaceOp .Sub) fSub := opB_int0 iop_sub fun c d z h => by
  unfold fSub at h
  split at h
  · cases h; exact ⟨_, _, _, rfl, rfl, rfl, fun _ => .int _⟩
  · cases h
def rAddAll (K : PySem.W.Frag) : R2 := fun x y H Q => rI0 (fun i j => .int (i + j)) x y H Q ∨ (∃ i j, x = .str i ∧ y = .str j ∧ i.length + j.length ≤ sizeLine ∧ Q (.str (i ++ j)) H) ∨ rCatA K x y H Q ∨ rCat x y H Q
theorem add_all {fn : Value → Value → Sem Value} (h1 : OpR X fn (rI0 fun i j => .int (i + j))) (h2 : OpR X fn (fun x y H Q => ∃ i j, x = .str i ∧ y = .str j ∧ i.length + j.length ≤ sizeLine ∧ Q (.str (i ++ j)) H)) (h3 : OpR X fn (rCatA X.K)) (h4 : OpR X fn rCat) :
    OpR X fn (rAddAll X.K) := h1.or (h2.or (h3.or h4))
theorem add_S : OpS K (rAddAll K) fAdd := fun Hf H c d x y z e hc hd e5 Q q => by
  unfold fAdd at e5
  split at e5
  · cases e5; cases hc; cases hd; exact .inl ⟨_, _, rfl, rfl, old e (.int _) q⟩
  · split at e5
    · rename_i hz; cases e5; cases hc; cases hd; exact .inr (.inl ⟨_, _, rfl, rfl, by rw [← line_eq]; exact hz, old e (.str _) q⟩)
    · cases e5
  · rename_i xs ys
    split at e5
    · rename_i hz
      cases e5
      cases hc with
      | @tup a us _ hs ha =>
        cases hd with
        | @tup b ws _ hs2 hb =>
          refine .inr (.inr (.inl ⟨a, b, us, ws, rfl, rfl, ex_t e hs, ex_t e hs2, by rw [dps_len ha, dps_len hb, ← line_eq]; exact hz, fun h0 => ?_, fun _ h0 => ?_, fun _ _ => newT e (dps_app ha hb) q⟩))
          · have e0 : xs = [] := List.eq_nil_of_length_eq_zero (by rw [← dps_len ha, h0]; rfl)
            rw [e0] at q
            exact old e (.tup hs2 hb) q
          · have e0 : ys = [] := List.eq_nil_of_length_eq_zero (by rw [← dps_len hb, h0]; rfl)
            rw [e0, List.append_nil] at q
            exact old e (.tup hs ha) q
    · cases e5
  · rename_i xs ys
    split at e5
    · rename_i hz
      cases e5
      obtain ⟨a, rfl, us, h1, d1⟩ := hc
      obtain ⟨b, rfl, ws, h2, d2⟩ := hd
      exact .inr (.inr (.inr ⟨a, b, us, ws, rfl, rfl, h1, h2, by rw [dps_len d1, dps_len d2, ← line_eq]; exact hz, newL e (dps_app d1 d2) q⟩))
    · cases e5
  all_goals cases e5
theorem ob_add : OpB X (binaryOp .Add) fAdd := ⟨_, add_all op_add op_add_str op_catA op_cat, add_S⟩
theorem mulOk_ok {i j : Int} (h : mulOk i j = true) : IntMulOk i j := by
  have h' : i.natAbs.log2 + j.natAbs.log2 < 100000000 := of_decide_eq_true h
  have b : ∀ x : Int, Builtin.Int.intBits x ≤ x.natAbs.log2 + 1 := fun x => by
    unfold Builtin.Int.intBits
    split <;> omega
  have h1 := b i
  have h2 := b j
  have e : bitsLine = 134217728 := by decide
  unfold IntMulOk
  intro z
  have z2 := (Bool.and_eq_true_iff.mp z).2
  unfold Builtin.Int.intTooBig at z2
  have z3 := of_decide_eq_true z2
  rw [e] at z3
  omega
theorem op_mulB : OpR X (binaryOp .Mult) (rI (fun i j => mulOk i j = true) fun i j => .int (i * j)) := opI fun _ _ _ _ _ _ _ hc q => mul_int q (mulOk_ok hc)
theorem iop_mulB : OpR X (inplaceOp .Mult) (rI (fun i j => mulOk i j = true) fun i j => .int (i * j)) := opI fun _ _ _ _ _ _ _ hc q => imul_int q (mulOk_ok hc)
theorem mul_S : OpS K (fun x y H Q => rI (fun i j => mulOk i j = true) (fun i j => .int (i * j)) x y H Q ∨ rRep x y H Q ∨ rRepT K x y H Q ∨ rRepS K x y H Q ∨ rRepE K x y H Q) fMul := fun Hf H c d x y z e hc hd e5 Q q => by
  unfold fMul at e5
  split at e5
  · split at e5
    · rename_i hz; cases e5; cases hc; cases hd; exact .inl ⟨_, _, rfl, rfl, hz, old e (.int _) q⟩
    · cases e5
  · rename_i xs k
    split at e5
    · rename_i hz
      cases e5
      cases hd
      have hc' := hc
      cases hc with
      | @tup a us _ hs ha =>
        by_cases h1 : xs = [] ∨ k = 1
        · have eq : (List.replicate k.toNat xs).flatten = xs := by
            rcases h1 with h1 | h1
            · subst h1; simp
            · subst h1; simp
          rw [eq] at q
          refine .inr (.inr (.inr (.inl ⟨a, k, us, rfl, rfl, ex_t e hs, ?_, hz.1, hz.2.1, old e hc' q⟩)))
          rcases h1 with h1 | h1
          · left
            subst h1
            exact List.eq_nil_of_length_eq_zero (by rw [dps_len ha]; rfl)
          · exact .inr h1
        · have hne : us ≠ [] := fun z => h1 (.inl (List.eq_nil_of_length_eq_zero (by rw [← dps_len ha, z]; rfl)))
          by_cases h2 : 2 ≤ k
          · exact .inr (.inr (.inl ⟨a, k, us, rfl, rfl, ex_t e hs, hne, h2, hz.2.1, by rw [dps_len ha]; exact hz.2.2, newT e (dps_rep ha _) q⟩))
          · have h3 : k ≤ 0 := by
              have : k ≠ 1 := fun e => h1 (.inr e)
              omega
            have eq : (List.replicate k.toNat xs).flatten = [] := by
              have : k.toNat = 0 := by omega
              rw [this]; rfl
            rw [eq] at q
            exact .inr (.inr (.inr (.inr ⟨a, k, us, rfl, rfl, ex_t e hs, hne, hz.1, h3, newT e .nil q⟩)))
    · cases e5
  · rename_i xs k
    split at e5
    · rename_i hz
      cases e5
      obtain ⟨a, rfl, us, h1, d1⟩ := hc
      cases hd
      exact .inr (.inl ⟨a, k, us, rfl, rfl, h1, by omega, by omega, by rw [dps_len d1, ← line_eq]; exact hz.1, newL e (dps_rep d1 _) q⟩)
    · cases e5
  all_goals cases e5
theorem ob_mul : OpB X (binaryOp .Mult) fMul := ⟨_, op_mulB.or (op_rep.or (op_repT.or (op_repS.or op_repE))), mul_S⟩
theorem op_divB (D : DivOk X) : OpR X (binaryOp .FloorDiv) (rI (fun _ j => j ≠ 0) fun i j => .int (i.fdiv j)) := by
  intro pins s σ H x y v u Q I rx ry h
  obtain ⟨i, j, rfl, rfl, hc, q⟩ := h
  obtain ⟨t, rfl⟩ := rx
  obtain ⟨t', rfl⟩ := ry
  exact floordiv_int hc ⟨.int (i.fdiv j), H, I.tok _, ⟨_, rfl⟩, q⟩ (.inr (D.room I))
theorem iop_divB (D : DivOk X) : OpR X (inplaceOp .FloorDiv) (rI (fun _ j => j ≠ 0) fun i j => .int (i.fdiv j)) := by
  intro pins s σ H x y v u Q I rx ry h
  obtain ⟨i, j, rfl, rfl, hc, q⟩ := h
  obtain ⟨t, rfl⟩ := rx
  obtain ⟨t', rfl⟩ := ry
  exact ifloordiv_int hc ⟨.int (i.fdiv j), H, I.tok _, ⟨_, rfl⟩, q⟩ (.inr (D.room I))
theorem div_some {c d : Ct} {z : R} (h : fDiv c d = some z) : ∃ i j v, c = .pv (.int i) ∧ d = .pv (.int j) ∧ j ≠ 0 ∧ z = .val v ∧ ∀ Hf, Dp K Hf (.int (i.fdiv j)) v := by
  unfold fDiv at h
  split at h
  · split at h
    · cases h
    · rename_i hj; cases h; exact ⟨_, _, _, rfl, rfl, hj, rfl, fun _ => .int _⟩
  · cases h
theorem ob_div (D : DivOk X) : OpB X (binaryOp .FloorDiv) fDiv := opB_int (op_divB D) fun _ _ _ h => div_some h
theorem ob_mod : OpB X (binaryOp .Mod) fMod := opB_int op_modN fun c d z h => by
  unfold fMod at h
  split at h
  · split at h
    · cases h
    · rename_i hj; cases h; exact ⟨_, _, _, rfl, rfl, hj, rfl, fun _ => .int _⟩
  · cases h
theorem ob_pow : OpB X (binaryOp .Pow) fPow := opB_int op_pow fun c d z h => by
  unfold fPow at h
  split at h
  · split at h
    · rename_i hj; cases h; exact ⟨_, _, _, rfl, rfl, hj, rfl, fun _ => .int _⟩
    · cases h
  · cases h
/-! ### == -/
theorem eqD_S {neg : Bool} : OpS K (fun x y H Q => (if neg then rNe else rEq) x y H Q ∨ (if neg then rNeD K else rEqD K) x y H Q) (eqD neg) := fun Hf H c d x y z e hc hd e5 Q q => by
  unfold eqD at e5
  have sc : ∀ {a b : V} {k : Bool}, scal a b = true → decide (a = b) = k → (∀ u Hf' H', Step Nobody Hf H Hf' H' → RepR K Hf' H' H [] (.val (.bool (neg ^^ k))) u → Q u H') → (if neg then rNe else rEq) a b H Q := fun {a b k} h1 h2 q => by
    cases neg with
    | true => exact ⟨h1, by rw [h2]; have := old e (.bl (true ^^ k)) q; simpa using this⟩
    | false => exact ⟨h1, by rw [h2]; have := old e (.bl (false ^^ k)) q; simpa using this⟩
  split at e5
  · cases e5; cases hc; cases hd; exact .inl (sc rfl (by simp) q)
  · cases e5; cases hc; cases hd; exact .inl (sc rfl dec_bl q)
  · cases e5; cases hc; cases hd; exact .inl (sc rfl (by simp) q)
  · split at e5
    · rename_i hz
      cases e5
      refine .inr ?_
      cases neg with
      | true => exact ⟨_, _, dp_mono e _ _ hc, dp_mono e _ _ hd, hz.1, hz.2, by have := old e (.bl _) q; simpa using this⟩
      | false => exact ⟨_, _, dp_mono e _ _ hc, dp_mono e _ _ hd, hz.1, hz.2, by have := old e (.bl _) q; simpa using this⟩
    · cases e5
  · cases e5
theorem ob_eq (hu : X.A.units + 64 < cLine) : OpB X (compareOp .Eq) fEq := ⟨_, op_eq.or (op_eqD hu), eqD_S (neg := false)⟩
theorem ob_ne (hu : X.A.units + 64 < cLine) : OpB X (compareOp .NotEq) fNe := ⟨_, op_ne.or (op_neD hu), eqD_S (neg := true)⟩
theorem isNone_of {v : PV} {u : V} (d : Dp K Hf u v) : decide (u = .non) = isNone v := by
  cases d <;> rfl
theorem is_S {neg : Bool} : OpS K (fun x y H Q => y = .non ∧ Q (.bl (neg ^^ decide (x = .non))) H) (fIs neg) := fun Hf H c d x y z e hc hd e5 Q q => by
  unfold fIs at e5
  split at e5
  · cases e5
    cases hd
    refine ⟨rfl, ?_⟩
    rw [isNone_of hc]
    exact old e (.bl _) q
  · cases e5
    cases hd
    obtain ⟨p, rfl, _⟩ := hc
    refine ⟨rfl, ?_⟩
    have := old e (.bl neg) q
    simpa using this
  · cases e5
theorem ob_is : OpB X (compareOp .Is) (fIs false) := by
  refine ⟨_, ?_, is_S⟩
  have h := op_isN (X := X)
  intro pins s σ H x y v u Q I rx ry hq
  exact h pins s σ H x y v u Q I rx ry ⟨hq.1, by simpa using hq.2⟩
theorem ob_isNot : OpB X (compareOp .IsNot) (fIs true) := by
  refine ⟨_, ?_, is_S⟩
  have h := op_notN (X := X)
  intro pins s σ H x y v u Q I rx ry hq
  exact h pins s σ H x y v u Q I rx ry ⟨hq.1, by simpa using hq.2⟩

/-! ### one place -/
theorem be_neg {a : Expr} {ma : M} {pos : Pos} (ha : BE X a ma) : BE X (.UnaryOp .USub a pos) (mUn fNeg ma) := by
  obtain ⟨t, h1, h2⟩ := ha
  refine ⟨_, pe_un un_neg h1, se_un h2 fun Hf H c x z e hc e5 Q q => ?_⟩
  unfold fNeg at e5
  split at e5
  · cases e5; cases hc; exact ⟨_, rfl, old e (.int _) q⟩
  · cases e5
/-- a built-in of one argument -/
theorem se_call1 {te : TE} {m : M} {r : List V → Hp → VK → Prop} {f : Ct → Option R} (ha : SE K te m) (hr : UnS K (fun x H Q => r [x] H Q) f) : SE K (tCB r (tCons te tNil)) (mUn f m) := se_un ha hr
theorem se_call2 {te tu : TE} {m n : M} {r : List V → Hp → VK → Prop} {f : Ct → Ct → Option R} (ha : SE K te m) (hb : SE K tu n) (hr : OpS K (fun x y H Q => r [x, y] H Q) f) : SE K (tCB r (tCons te (tCons tu tNil))) (mOp f m n) := se_op ha hb hr
structure C1 (X : Cx) (f : Value) (g : Ct → Option R) : Prop where
  ex : ∃ r, CallR X f r ∧ UnS X.K (fun x H Q => r [x] H Q) g
structure C2 (X : Cx) (f : Value) (g : Ct → Ct → Option R) : Prop where
  ex : ∃ r, CallR X f r ∧ OpS X.K (fun x y H Q => r [x, y] H Q) g
variable {a b : Expr} {ma mb : M} {x : Str} {p pos : Pos} {id : String} {g : Ct → Option R} {g2 : Ct → Ct → Option R}
theorem be_b1 (hc : C1 X (.builtin id) g) (hg : Gl X x) (hm : X.mg x = none) (hv : bootBuiltins x = some (.builtin id)) (ha : BE X a ma) (hn : x ≠ "__name__" := by decide) (hdb : (x == ("__debug__" : Str)) = false := by decide)
    (hs : starEach [a] X.env = (false, eval a X.env) :: starEach [] X.env := by rfl) (hp : (backTo pos (starEach [] X.env)).any (·.1) = false := by rfl) : BE X (.Call (.Name x p) [a] [] pos) (mUn g ma) := by
  obtain ⟨r, h1, h2⟩ := hc
  obtain ⟨t, a1, a2⟩ := ha
  exact ⟨_, pe_callB h1 hg hm hv (pa_cons a1 pa_nil hs) hn hdb hs hp, se_call1 a2 h2⟩
theorem be_t1 {T : String} (hc : C1 X (.type T) g) (hg : Gl X x) (hm : X.mg x = none) (hv : bootBuiltins x = some (.type T)) (ha : BE X a ma) (hn : x ≠ "__name__" := by decide) (hdb : (x == ("__debug__" : Str)) = false := by decide)
    (hs : starEach [a] X.env = (false, eval a X.env) :: starEach [] X.env := by rfl) (hp : (backTo pos (starEach [] X.env)).any (·.1) = false := by rfl) : BE X (.Call (.Name x p) [a] [] pos) (mUn g ma) := by
  obtain ⟨r, h1, h2⟩ := hc
  obtain ⟨t, a1, a2⟩ := ha
  exact ⟨_, pe_callTy h1 hg hm hv (pa_cons a1 pa_nil hs) hn hdb hs hp, se_call1 a2 h2⟩
theorem be_b2 (hc : C2 X (.builtin id) g2) (hg : Gl X x) (hm : X.mg x = none) (hv : bootBuiltins x = some (.builtin id)) (ha : BE X a ma) (hb : BE X b mb) (hn : x ≠ "__name__" := by decide) (hdb : (x == ("__debug__" : Str)) = false := by decide)
    (hs : starEach [a, b] X.env = (false, eval a X.env) :: starEach [b] X.env := by rfl) (hs2 : starEach [b] X.env = (false, eval b X.env) :: starEach [] X.env := by rfl) (hp : (backTo pos (starEach [b] X.env)).any (·.1) = false := by rfl) : BE X (.Call (.Name x p) [a, b] [] pos) (mOp g2 ma mb) := by
  obtain ⟨r, h1, h2⟩ := hc
  obtain ⟨t, a1, a2⟩ := ha
  obtain ⟨u, b1, b2⟩ := hb
  exact ⟨_, pe_callB h1 hg hm hv (pa_cons a1 (pa_cons b1 pa_nil hs2) hs) hn hdb hs hp, se_call2 a2 b2 h2⟩
/-- gcd, imported -/
theorem be_gcd (hg : Gl X x) (hm : X.mg x = some (.builtin "math.gcd")) (ha : BE X a ma) (hb : BE X b mb) (hdb : (x == ("__debug__" : Str)) = false := by decide)
    (hs : starEach [a, b] X.env = (false, eval a X.env) :: starEach [b] X.env := by rfl) (hs2 : starEach [b] X.env = (false, eval b X.env) :: starEach [] X.env := by rfl) (hp : (backTo pos (starEach [b] X.env)).any (·.1) = false := by rfl) : BE X (.Call (.Name x p) [a, b] [] pos) (mOp fGcd ma mb) := by
  obtain ⟨t, a1, a2⟩ := ha
  obtain ⟨u, b1, b2⟩ := hb
  refine ⟨_, pe_callBfun cr_gcd hg hm (pa_cons a1 (pa_cons b1 pa_nil hs2) hs) hdb hs hp, se_call2 a2 b2 fun Hf H c d x y z e hc hd e5 Q q => ?_⟩
  unfold fGcd at e5
  split at e5
  · cases e5; cases hc; cases hd; exact ⟨_, _, rfl, old e (.int _) q⟩
  · cases e5

theorem c_len : C1 X (.builtin "len") fLen := ⟨_, call_len, fun Hf H c x z e hc e5 Q q => by
  unfold fLen at e5
  split at e5
  · cases e5; cases hc with | tup hs ha => exact ⟨_, _, rfl, .inr ⟨_, ex_t e hs, rfl⟩, by rw [dps_len ha]; exact old e (.int _) q⟩
  · cases e5; cases hc with | lst hs ha => exact ⟨_, _, rfl, .inl ⟨_, ex_l e hs, rfl⟩, by rw [dps_len ha]; exact old e (.int _) q⟩
  · split at e5
    · rename_i hz; cases e5; cases hc; exact ⟨_, _, rfl, ⟨by rw [← line_eq]; exact hz, rfl⟩, old e (.int _) q⟩
    · cases e5
  · cases e5; obtain ⟨a, rfl, us, h1, d1⟩ := hc; exact ⟨_, _, rfl, .inl ⟨_, SqL.of h1, rfl⟩, by rw [dps_len d1]; exact old e (.int _) q⟩
  · cases e5⟩
theorem c_int : C1 X (.type "int") fInt := ⟨_, call_int1, fun Hf H c x z e hc e5 Q q => by
  unfold fInt at e5
  split at e5
  · cases e5; cases hc; exact .inl ⟨_, rfl, old e (.int _) q⟩
  · cases e5; cases hc; exact .inr ⟨_, rfl, old e (.int _) q⟩
  · cases e5⟩
theorem abs_if (i : Int) : (if i < 0 then -i else i) = (i.natAbs : Int) := by split <;> omega
theorem c_abs : C1 X (.builtin "abs") fAbs := ⟨_, call_abs, fun Hf H c x z e hc e5 Q q => by
  unfold fAbs at e5
  split at e5
  · cases e5; cases hc; exact ⟨_, rfl, by rw [abs_if]; exact old e (.int _) q⟩
  · cases e5⟩
theorem c_min2 (hc : X.calm = true) : C2 X (.builtin "min") fMin2 := ⟨_, call_min2 hc, fun Hf H c d x y z e hc hd e5 Q q => by
  unfold fMin2 at e5
  split at e5
  · cases e5; cases hc; cases hd; exact ⟨_, _, rfl, old e (.int _) q⟩
  · cases e5⟩
theorem c_max2 (hc : X.calm = true) : C2 X (.builtin "max") fMax2 := ⟨_, call_max2 hc, fun Hf H c d x y z e hc hd e5 Q q => by
  unfold fMax2 at e5
  split at e5
  · cases e5; cases hc; cases hd; exact ⟨_, _, rfl, old e (.int _) q⟩
  · cases e5⟩
theorem c_tuple : C1 X (.type "tuple") fTuple := ⟨_, call_tuple_of, fun Hf H c x z e hc e5 Q q => by
  unfold fTuple at e5
  split at e5
  · cases e5; cases hc with | tup hs ha => exact ⟨_, _, rfl, .inr ⟨ex_t e hs, old e (.tup hs ha) q⟩⟩
  · cases e5; cases hc with | lst hs ha => exact ⟨_, _, rfl, .inl ⟨ex_l e hs, newT e ha q⟩⟩
  · cases e5; obtain ⟨a, rfl, us, h1, d1⟩ := hc; exact ⟨_, _, rfl, .inl ⟨SqL.of h1, newT e d1 q⟩⟩
  · cases e5⟩
theorem c_list : C1 X (.type "list") fList := ⟨_, call_list_of, fun Hf H c x z e hc e5 Q q => by
  unfold fList at e5
  split at e5
  · cases e5; cases hc with | tup hs ha => exact ⟨_, _, rfl, .inr (ex_t e hs), newL e ha q⟩
  · cases e5; cases hc with | lst hs ha => exact ⟨_, _, rfl, .inl (ex_l e hs), newL e ha q⟩
  · cases e5; obtain ⟨a, rfl, us, h1, d1⟩ := hc; exact ⟨_, _, rfl, .inl (SqL.of h1), newL e d1 q⟩
  · cases e5⟩
/-! lists of ints, of bools -/
theorem lst_ok {c : Ct} {xs : List PV} {u : V} (e : Ex Hf H) (hc : RepC K Hf H c u) (h : c.lst? = some xs) : ∃ a us, u = .ref a ∧ SqL K H a us ∧ DpAll K Hf us xs := by
  unfold Ct.lst? at h
  split at h
  · cases h; cases hc with | lst hs ha => exact ⟨_, _, rfl, ex_l e hs, ha⟩
  · cases h; obtain ⟨a, rfl, us, h1, d1⟩ := hc; exact ⟨_, _, rfl, SqL.of h1, d1⟩
  · cases h
theorem ints_ok : ∀ {xs : List PV} {ns : List Int} {us : List V}, ints? xs = some ns → DpAll K Hf us xs → us = ns.map V.int
  | [], ns, us, h, d => by cases d; simp [ints?] at h; subst h; rfl
  | x :: xs, ns, us, h, d => by
    simp only [ints?, List.mapM_cons, Option.bind_eq_bind, Option.bind_eq_some_iff, Option.pure_def, Option.some.injEq] at h
    obtain ⟨n, h1, ms, h2, rfl⟩ := h
    cases d with
    | cons d1 d2 =>
      unfold intV? at h1
      split at h1
      · cases h1; cases d1; rw [ints_ok (ns := ms) h2 d2]; rfl
      · cases h1
theorem bools_ok : ∀ {xs : List PV} {ns : List Bool} {us : List V}, bools? xs = some ns → DpAll K Hf us xs → us = ns.map V.bl
  | [], ns, us, h, d => by cases d; simp [bools?] at h; subst h; rfl
  | x :: xs, ns, us, h, d => by
    simp only [bools?, List.mapM_cons, Option.bind_eq_bind, Option.bind_eq_some_iff, Option.pure_def, Option.some.injEq] at h
    obtain ⟨n, h1, ms, h2, rfl⟩ := h
    cases d with
    | cons d1 d2 =>
      unfold boolV? at h1
      split at h1
      · cases h1; cases d1; rw [bools_ok (ns := ms) h2 d2]; rfl
      · cases h1
theorem dps_ints : ∀ ns : List Int, DpAll K Hf (ns.map V.int) (ns.map PyData.int)
  | [] => .nil
  | n :: ns => .cons (.int n) (dps_ints ns)
theorem c_sum (hc : X.calm = true) : C1 X (.builtin "sum") fSum := ⟨_, cr_sum hc, fun Hf H c x z e hc e5 Q q => by
  simp only [fSum, Option.bind_eq_some_iff, Option.map_eq_some_iff] at e5
  obtain ⟨xs, h1, ns, h2, rfl⟩ := e5
  obtain ⟨a, us, rfl, hs, d⟩ := lst_ok e hc h1
  rw [ints_ok h2 d] at hs
  exact ⟨a, ns, rfl, hs, old e (.int _) q⟩⟩
theorem c_all (hc : X.calm = true) : C1 X (.builtin "all") fAll := ⟨_, cr_all hc, fun Hf H c x z e hc e5 Q q => by
  simp only [fAll, Option.bind_eq_some_iff, Option.map_eq_some_iff] at e5
  obtain ⟨xs, h1, ns, h2, rfl⟩ := e5
  obtain ⟨a, us, rfl, hs, d⟩ := lst_ok e hc h1
  rw [bools_ok h2 d] at hs
  exact ⟨a, ns, rfl, hs, old e (.bl _) q⟩⟩
theorem c_any (hc : X.calm = true) : C1 X (.builtin "any") fAny := ⟨_, cr_any hc, fun Hf H c x z e hc e5 Q q => by
  simp only [fAny, Option.bind_eq_some_iff, Option.map_eq_some_iff] at e5
  obtain ⟨xs, h1, ns, h2, rfl⟩ := e5
  obtain ⟨a, us, rfl, hs, d⟩ := lst_ok e hc h1
  rw [bools_ok h2 d] at hs
  exact ⟨a, ns, rfl, hs, old e (.bl _) q⟩⟩
theorem maxF_ge : ∀ (r : List Int) (x y : Int), (y ≤ x ∨ y ∈ r) → y ≤ r.foldl max x
  | [], x, y, h => by rcases h with h | h; exact h; cases h
  | a :: r, x, y, h => by
    refine maxF_ge r (max x a) y ?_
    rcases h with h | h
    · exact .inl (by omega)
    · rcases List.mem_cons.mp h with h | h
      · exact .inl (by omega)
      · exact .inr h
theorem maxL_ge {ns : List Int} {y : Int} (h : y ∈ ns) : y ≤ maxL ns := by
  cases ns with
  | nil => cases h
  | cons x r =>
    rcases List.mem_cons.mp h with h | h
    · exact maxF_ge r x y (.inl (by omega))
    · exact maxF_ge r x y (.inr h)
theorem maxF_mem : ∀ (r : List Int) (x : Int), r.foldl max x = x ∨ r.foldl max x ∈ r
  | [], x => .inl rfl
  | a :: r, x => by
    rcases maxF_mem r (max x a) with h | h
    · by_cases hx : a ≤ x
      · exact .inl (by rw [List.foldl_cons, h]; omega)
      · exact .inr (by rw [List.foldl_cons, h]; have : max x a = a := by omega
                       rw [this]; exact List.mem_cons_self)
    · exact .inr (List.mem_cons_of_mem _ h)
theorem maxL_mem {ns : List Int} (h : ns ≠ []) : maxL ns ∈ ns := by
  cases ns with
  | nil => exact absurd rfl h
  | cons x r =>
    rcases maxF_mem r x with e | e
    · show r.foldl max x ∈ _; rw [e]; exact List.mem_cons_self
    · exact List.mem_cons_of_mem _ e
theorem minF_le : ∀ (r : List Int) (x y : Int), (x ≤ y ∨ y ∈ r) → r.foldl min x ≤ y
  | [], x, y, h => by rcases h with h | h; exact h; cases h
  | a :: r, x, y, h => by
    refine minF_le r (min x a) y ?_
    rcases h with h | h
    · exact .inl (by omega)
    · rcases List.mem_cons.mp h with h | h
      · exact .inl (by omega)
      · exact .inr h
theorem minL_le {ns : List Int} {y : Int} (h : y ∈ ns) : minL ns ≤ y := by
  cases ns with
  | nil => cases h
  | cons x r =>
    rcases List.mem_cons.mp h with h | h
    · exact minF_le r x y (.inl (by omega))
    · exact minF_le r x y (.inr h)
theorem minF_mem : ∀ (r : List Int) (x : Int), r.foldl min x = x ∨ r.foldl min x ∈ r
  | [], x => .inl rfl
  | a :: r, x => by
    rcases minF_mem r (min x a) with h | h
    · by_cases hx : x ≤ a
      · exact .inl (by rw [List.foldl_cons, h]; omega)
      · exact .inr (by rw [List.foldl_cons, h]; have : min x a = a := by omega
                       rw [this]; exact List.mem_cons_self)
    · exact .inr (List.mem_cons_of_mem _ h)
theorem minL_mem {ns : List Int} (h : ns ≠ []) : minL ns ∈ ns := by
  cases ns with
  | nil => exact absurd rfl h
  | cons x r =>
    rcases minF_mem r x with e | e
    · show r.foldl min x ∈ _; rw [e]; exact List.mem_cons_self
    · exact List.mem_cons_of_mem _ e
theorem c_max (hc : X.calm = true) : C1 X (.builtin "max") fMax := ⟨_, cr_max hc, fun Hf H c x z e hc e5 Q q => by
  simp only [fMax, Option.bind_eq_some_iff] at e5
  obtain ⟨xs, h1, ns, h2, h3⟩ := e5
  split at h3
  · cases h3
  · rename_i hne
    cases h3
    obtain ⟨a, us, rfl, hs, d⟩ := lst_ok e hc h1
    rw [ints_ok h2 d] at hs
    refine ⟨a, ns, rfl, hs, List.length_pos_iff.mpr hne, fun m m1 m2 => ?_⟩
    have em : m = maxL ns := Int.le_antisymm (maxL_ge m1) (m2 _ (maxL_mem hne))
    rw [em]
    exact old e (.int _) q⟩
theorem c_min (hc : X.calm = true) : C1 X (.builtin "min") fMin := ⟨_, cr_min hc, fun Hf H c x z e hc e5 Q q => by
  simp only [fMin, Option.bind_eq_some_iff] at e5
  obtain ⟨xs, h1, ns, h2, h3⟩ := e5
  split at h3
  · cases h3
  · rename_i hne
    cases h3
    obtain ⟨a, us, rfl, hs, d⟩ := lst_ok e hc h1
    rw [ints_ok h2 d] at hs
    refine ⟨a, ns, rfl, hs, List.length_pos_iff.mpr hne, fun m m1 m2 => ?_⟩
    have em : m = minL ns := Int.le_antisymm (m2 _ (minL_mem hne)) (minL_le m1)
    rw [em]
    exact old e (.int _) q⟩
/-! isinstance -/
def Ty.nm : Ty → String
  | .bool => "bool" | .int => "int" | .str => "str" | .tuple => "tuple"
theorem ty_tup {a : Addr} {us : List V} (h : SqT K H a us) : TyX K H (.ref a) (.type "tuple") := by
  rcases h with (h | ⟨o, h⟩) | ⟨o, its, n, h1, h2, _⟩
  · exact .base (.tup h)
  · exact .fTuple h
  · exact .kTuple h1 h2
theorem ty_lst {a : Addr} {us : List V} (h : SqL K H a us) : TyX K H (.ref a) (.type "list") := by
  rcases h with (h | ⟨o, h⟩) | ⟨o, its, n, h1, h2, _⟩
  · exact .base (.lst h)
  · exact .base (.frz h)
  · exact .kList h1 h2
def tyNm : PV → String
  | .none => "NoneType" | .bool _ => "bool" | .int _ => "int" | .str _ => "str" | .list _ => "list" | .tuple _ => "tuple" | .dict _ => "dict"
theorem kit_v (t : Ty) (v : PV) : PySem.W.kitOne K (.type (tyNm v)) (.type t.nm) = some (isTy t v) := by
  cases t <;> cases v <;> (refine kit_ty ?_; dsimp only [tyNm, Ty.nm, isTy]; decide +kernel)
theorem kit_l (t : Ty) : PySem.W.kitOne K (.type "list") (.type t.nm) = some false := by cases t <;> exact kit_ty (by decide +kernel)
theorem kit_d (t : Ty) : PySem.W.kitOne K (.type "dict") (.type t.nm) = some false := by cases t <;> exact kit_ty (by decide +kernel)
theorem ty_v {v : PV} {u : V} (d : Dp K H u v) : TyX K H u (.type (tyNm v)) := by
  cases d with
  | non => exact .base .non
  | bl b => exact .base (.bl b)
  | int i => exact .base (.int i)
  | str x => exact .base (.str x)
  | lst h _ => exact ty_lst h
  | tup h _ => exact ty_tup h
theorem isi_S {t : Ty} : UnS K (fun x H Q => rIsi K [x, .ty t.nm] H Q) (fIsi t) := fun Hf H c x z e hc e5 Q q => by
  unfold fIsi at e5
  split at e5
  · cases e5
    exact ⟨x, _, _, _, _, rfl, .ty _, ty_v (dp_mono e _ _ hc), kit_v t _, old e (.bl _) q⟩
  · cases e5
    obtain ⟨p, rfl, vs, h1, _⟩ := hc
    exact ⟨_, _, _, _, _, rfl, .ty _, .base (.lst h1), kit_l t, old e (.bl _) q⟩
  · cases e5
/-- isinstance(e, T) -/
theorem be_isi (t : Ty) {y : Str} {p' : Pos} (hg : Gl X x) (hm : X.mg x = none) (hv : bootBuiltins x = some (.builtin "isinstance")) (hg' : Gl X y) (hm' : X.mg y = none) (hv' : bootBuiltins y = some (.type t.nm)) (ha : BE X a ma) (hn : x ≠ "__name__" := by decide) (hdb : (x == ("__debug__" : Str)) = false := by decide)
    (hn' : y ≠ "__name__" := by decide) (hdb' : (y == ("__debug__" : Str)) = false := by decide)
    (hs : starEach [a, .Name y p'] X.env = (false, eval a X.env) :: starEach [.Name y p'] X.env := by rfl) (hs2 : starEach [.Name y p'] X.env = (false, eval (.Name y p') X.env) :: starEach [] X.env := by rfl) (hp : (backTo pos (starEach [.Name y p'] X.env)).any (·.1) = false := by rfl) :
    BE X (.Call (.Name x p) [a, .Name y p'] [] pos) (mUn (fIsi t) ma) := by
  obtain ⟨te, a1, a2⟩ := ha
  exact ⟨_, pe_callB call_isi hg hm hv (pa_cons a1 (pa_cons (pe_bltn (v := .ty t.nm) hg' hm' hv' rfl hn' hdb') pa_nil hs2) hs) hn hdb hs hp, se_un a2 isi_S⟩

/-! ### items, slices -/
theorem ixN_eq (n : Nat) (i : Int) : ixN n i = L2.ixN n i := rfl
theorem at_ok {xs : List PV} {us : List V} {i : Int} {v : PV} (d : DpAll K Hf us xs) (h : atI xs i = some v) : ∃ u, L2.atI us i = some u ∧ Dp K Hf u v := by
  unfold atI at h
  rw [Option.bind_eq_some_iff] at h
  obtain ⟨j, h1, h2⟩ := h
  obtain ⟨u, h3, h4⟩ := dps_get d h2
  refine ⟨u, ?_, h4⟩
  unfold L2.atI
  rw [dps_len d, ← ixN_eq, h1]
  exact h3
theorem ix_S : OpS K (rIx K) fIx := fun Hf H c d x y z e hc hd e5 Q q => by
  unfold fIx at e5
  split at e5
  · rw [Option.map_eq_some_iff] at e5
    obtain ⟨v, h1, rfl⟩ := e5
    cases hd
    cases hc with
    | tup hs ha =>
      obtain ⟨u, h2, h3⟩ := at_ok ha h1
      exact .inr (.inl ⟨_, _, _, u, rfl, rfl, ex_t e hs, h2, old e h3 q⟩)
  · rw [Option.map_eq_some_iff] at e5
    obtain ⟨v, h1, rfl⟩ := e5
    cases hd
    cases hc with
    | lst hs ha =>
      obtain ⟨u, h2, h3⟩ := at_ok ha h1
      exact .inl ⟨_, _, _, u, rfl, rfl, ex_l e hs, h2, old e h3 q⟩
  · rw [Option.map_eq_some_iff] at e5
    obtain ⟨v, h1, rfl⟩ := e5
    cases hd
    obtain ⟨p, rfl, us, h4, ha⟩ := hc
    obtain ⟨u, h2, h3⟩ := at_ok ha h1
    exact .inl ⟨_, _, _, u, rfl, rfl, SqL.of h4, h2, old e h3 q⟩
  · split at e5
    · rename_i hz
      rw [Option.map_eq_some_iff] at e5
      obtain ⟨v, h1, rfl⟩ := e5
      cases hc
      cases hd
      refine .inr (.inr ⟨_, _, v, rfl, rfl, by rw [← line_eq]; exact hz, ?_, old e (.str _) q⟩)
      unfold L2.atI
      rw [Option.bind_eq_some_iff] at h1 ⊢
      obtain ⟨j, h2, h3⟩ := h1
      exact ⟨j, h2, by simpa using h3⟩
    · cases e5
  · cases e5
theorem be_ix (ha : BE X a ma) (hb : BE X b mb) (hs : PlainIx b := by intro _ _; rfl) : BE X (.Subscript a b pos) (mOp fIx ma mb) := by
  obtain ⟨t, a1, a2⟩ := ha
  obtain ⟨u, b1, b2⟩ := hb
  exact ⟨_, pe_ix ix_seq a1 b1 hs, se_op a2 b2 ix_S⟩
structure BO (X : Cx) (e : Option Expr) (m : MO) : Prop where
  ex : ∃ t, PO X e t ∧ ∀ (ρ : Env) (r : Option Int) (ρ' : Env) (σ : L2.St) (Hf H : Hp), m ρ = some (r, ρ') → RepE X.K Hf H ρ σ → ∀ Q : Option Int → Hp → Prop,
    (∀ Hf' H', Step (Own ρ σ) Hf H Hf' H' → RepE X.K Hf' H' ρ' σ → Kp ρ ρ' → Q r H') → t σ H Q
theorem bo_none : BO X none oNone := ⟨_, po_none, fun ρ r ρ' σ Hf H hm E Q q => by cases hm; exact q Hf H (.refl E.ff) E .refl⟩
theorem bo_some (ha : BE X a ma) : BO X (some a) (oSome ma) := by
  obtain ⟨t, a1, a2⟩ := ha
  refine ⟨_, po_some a1, fun ρ r ρ' σ Hf H hm E Q q => ?_⟩
  simp only [oSome, Option.bind_eq_some_iff, Option.map_eq_some_iff, Prod.mk.injEq] at hm
  obtain ⟨⟨x, ρ1⟩, e1, c, e3, i, e5, rfl, rfl⟩ := hm
  refine a2 ρ x ρ1 σ Hf H e1 E _ fun u Hf1 H1 S1 E1 R1 k1 => ?_
  have hc := look_ok E1 R1 e3
  unfold intOf at e5
  split at e5
  · cases e5; cases hc; exact ⟨i, rfl, q Hf1 H1 S1 E1 k1⟩
  · cases e5
theorem cut_ok {xs : List PV} {us : List V} {lo hi : Option Int} (d : DpAll K Hf us xs) : DpAll K Hf (cutV us lo hi) (cut xs lo hi) := by
  unfold cut cutV
  rw [dps_len d]
  have e1 : ∀ n d o, sIx n d o = HT.sIx n d o := fun n d o => by cases o <;> rfl
  rw [e1, e1]
  exact dps_take _ (dps_drop _ d)
theorem sl_S {lo hi : Option Int} : UnS K (fun x H Q => rSlL K x lo hi H Q ∨ rSlA K x lo hi H Q) (fSl lo hi) := fun Hf H c x z e hc e5 Q q => by
  unfold fSl at e5
  split at e5
  · rename_i xs
    cases e5
    cases hc with
    | @tup a us _ hs ha =>
      refine .inr ⟨a, us, rfl, ex_t e hs, fun ⟨h1, h2⟩ => ?_, fun _ => newT e (cut_ok ha) q⟩
      have e1 : cut xs lo hi = xs := by
        have e1 : ∀ n d o, sIx n d o = HT.sIx n d o := fun n d o => by cases o <;> rfl
        unfold cut
        rw [e1, e1, ← dps_len ha, h1, h2, dps_len ha]
        simp
      rw [e1] at q
      exact old e (.tup hs ha) q
  · cases e5
    cases hc with
    | lst hs ha => exact .inl ⟨_, _, rfl, ex_l e hs, newL e (cut_ok ha) q⟩
  · cases e5
    obtain ⟨p, rfl, us, h4, ha⟩ := hc
    exact .inl ⟨_, _, rfl, SqL.of h4, newL e (cut_ok ha) q⟩
  · cases e5
theorem be_sl {lo hi : Option Expr} {ml mh : MO} {p2 : Pos} (ha : BE X a ma) (hl : BO X lo ml) (hh : BO X hi mh) : BE X (.Subscript a (.Slice lo hi none p2) pos) (mSl ma ml mh) := by
  obtain ⟨t, a1, a2⟩ := ha
  obtain ⟨tl, l1, l2⟩ := hl
  obtain ⟨th, h1, h2⟩ := hh
  refine ⟨_, pe_slice (sl_list.or sl_tupA) a1 l1 h1, fun ρ r ρ' σ Hf H hm E Q q => ?_⟩
  simp only [mSl, Option.bind_eq_some_iff, Option.map_eq_some_iff, Prod.mk.injEq] at hm
  obtain ⟨⟨x, ρ1⟩, e1, ⟨i, ρ2⟩, e2, ⟨j, ρ3⟩, e3, c, e4, z, e5, rfl, rfl⟩ := hm
  refine a2 ρ x ρ1 σ Hf H e1 E _ fun u Hf1 H1 S1 E1 R1 k1 => ?_
  have B1 : Bh X.K Hf H ρ σ Hf1 H1 ρ1 := ⟨S1, E1, k1⟩
  refine l2 ρ1 i ρ2 σ Hf1 H1 e2 E1 _ fun Hf2 H2 S2 E2 k2 => ?_
  have B2 : Bh X.K Hf1 H1 ρ1 σ Hf2 H2 ρ2 := ⟨S2, E2, k2⟩
  refine h2 ρ2 j ρ3 σ Hf2 H2 e3 E2 _ fun Hf3 H3 S3 E3 k3 => ?_
  have B3 : Bh X.K Hf2 H2 ρ2 σ Hf3 H3 ρ3 := ⟨S3, E3, k3⟩
  have R1' := B1.keepR E (B2.trans B3) R1
  refine sl_S Hf3 H3 c u z E3.ff (look_ok E3 R1' e4) e5 _ fun t Hf4 H4 S4 R4 => ?_
  have B4 := (B1.trans (B2.trans B3)).more S4
  exact q t Hf4 H4 B4.st B4.en (R4.any.back fun p hp => (B1.trans (B2.trans B3)).fresh hp) B4.kp
end
end Py
/-! Py4: what changes a name's object; statements. -/
namespace Py
open PySem PySem.Spec PyProof.Rows L2

section
variable {K : PySem.W.Frag} {Hf H Hf' H' Hf1 H1 Hf2 H2 H0 : Hp} {ρ ρ' ρ1 ρ2 : Env} {σ σ' σ1 σ2 : L2.St} {O O' O1 : Addr → Prop} {X : Cx}
theorem obAt_ok {i : Nat} {o : Ob} (E : RepE K Hf H ρ σ) (h : obAt ρ i = some o) : ∃ p, OwnAt ρ σ i p ∧ slot σ i = some (.ref p) ∧ Hf p = none ∧ RepOb K Hf H p o ∧ i < ρ.length := by
  unfold obAt at h
  cases g : get ρ i with
  | none => rw [g] at h; cases h
  | some s =>
    have hi : i < ρ.length := by
      by_cases hl : i < ρ.length
      · exact hl
      · unfold get at g
        rw [List.getElem?_eq_none (by omega)] at g
        cases g
    obtain ⟨u, h1, h2⟩ := E.sl i s g
    cases s with
    | val v => rw [g] at h; cases h
    | own o' => rw [g] at h; cases h; obtain ⟨p, rfl, f, r⟩ := h2; exact ⟨p, ⟨by rw [g]; rfl, h1⟩, h1, f, r, hi⟩
    | ref o' => rw [g] at h; cases h; obtain ⟨p, rfl, f, r⟩ := h2; exact ⟨p, ⟨by rw [g]; rfl, h1⟩, h1, f, r, hi⟩
    | lck kvs => rw [g] at h; cases h
theorem lstAt_ok {i : Nat} {xs : List PV} (E : RepE K Hf H ρ σ) (h : lstAt ρ i = some xs) : obAt ρ i = some (.lst xs) := by
  unfold lstAt at h
  split at h
  · cases h; assumption
  · cases h
theorem get_setOb (i j : Nat) (o : Ob) (hi : i < ρ.length) : get (setOb ρ i o) j = if i = j then (if isRef (get ρ i) then some (.ref o) else some (.own o)) else get ρ j := by
  unfold setOb
  cases g : get ρ i with
  | none => dsimp only; rw [get_set]; by_cases h : i = j <;> simp [h, hi, isRef] <;> (intro z; omega)
  | some s =>
    cases s <;> (dsimp only; rw [get_set]; by_cases h : i = j <;> simp [h, hi, isRef] <;> (intro z; omega))
/-- a name's object is changed -/
theorem mut_ok {i : Nat} {o o' : Ob} {p : Addr} {ho : HO} (E : RepE K Hf H ρ σ) (ha : OwnAt ρ σ i p) (hi : i < ρ.length) (r : RepOb K Hf (upd H p ho) p o') :
    Bh K Hf H ρ σ Hf (upd H p ho) (setOb ρ i o') := by
  obtain ⟨⟨x, hx⟩, fp⟩ := E.there ⟨i, ha⟩
  have ob : ∀ j, isOb (get (setOb ρ i o') j) = true → isOb (get ρ j) = true := fun j h => by
    rw [get_setOb i j o' hi] at h
    by_cases e : i = j
    · rw [← e]; exact ha.1
    · rw [if_neg e] at h; exact h
  refine ⟨⟨fun _ _ h => h, fun a o h => ?_, fun a o h n => ?_, fun _ _ _ _ => rfl, fun a o h => ?_⟩, ⟨?_, fun a o h => ?_, fun j s h => ?_, fun j k q a b => E.dis j k q ⟨ob j a.1, a.2⟩ ⟨ob k b.1, b.2⟩⟩, ⟨ob, fun j => ?_⟩⟩
  · rw [upd_ne (ne_of_none h fp)]; exact E.ff a o h
  · rw [upd_ne (fun z => n ⟨i, by rw [z]; exact ha⟩)]; exact h
  · by_cases e : a = p
    · subst e; exact ⟨_, upd_same⟩
    · exact ⟨o, by rw [upd_ne e]; exact h⟩
  · unfold setOb; split <;> rw [List.length_set] <;> exact E.len
  · rw [upd_ne (ne_of_none h fp)]; exact E.ff a o h
  · rw [get_setOb i j o' hi] at h
    by_cases e : i = j
    · subst e
      rw [if_pos rfl] at h
      refine ⟨_, ha.2, ?_⟩
      split at h
      · cases h; exact ⟨p, rfl, fp, r⟩
      · cases h; exact ⟨p, rfl, fp, r⟩
    · rw [if_neg e] at h
      obtain ⟨u, h1, h2⟩ := E.sl j s h
      refine ⟨u, h1, ?_⟩
      have np : ∀ q, u = .ref q → isOb (some s) = true → q ≠ p := fun q hu hb z => e (E.dis i j p ha ⟨by rw [h]; exact hb, by rw [h1, hu, z]⟩)
      cases s with
      | val v => exact h2
      | own o2 =>
        obtain ⟨q, e1, f1, r1⟩ := h2
        refine ⟨q, e1, f1, ?_⟩
        cases o2 with
        | lst ys => obtain ⟨vs, a, b⟩ := r1; exact ⟨vs, by rw [upd_ne (np q e1 rfl)]; exact a, b⟩
        | dct ys => obtain ⟨vs, a, b⟩ := r1; exact ⟨vs, by rw [upd_ne (np q e1 rfl)]; exact a, b⟩
      | ref o2 =>
        obtain ⟨q, e1, f1, r1⟩ := h2
        refine ⟨q, e1, f1, ?_⟩
        cases o2 with
        | lst ys => obtain ⟨vs, a, b⟩ := r1; exact ⟨vs, by rw [upd_ne (np q e1 rfl)]; exact a, b⟩
        | dct ys => obtain ⟨vs, a, b⟩ := r1; exact ⟨vs, by rw [upd_ne (np q e1 rfl)]; exact a, b⟩
      | lck kvs => exact h2
  · rw [get_setOb i j o' hi]
    by_cases e : i = j
    · subst e
      rw [if_pos rfl]
      cases hr : isRef (get ρ i) <;> simp [isRef]
    · rw [if_neg e]
/-! ### methods of a name's list -/
theorem se_append {i : Nat} {te : TE} {a : M} (ha : SE K te a) : SE K (tBM K "list" rAppend (tVar i) (tCons te tNil)) (mAppend i a) := by
  intro ρ r ρ' σ Hf H hm E Q q
  simp only [mAppend, Option.bind_eq_some_iff] at hm
  obtain ⟨ys, h0, ⟨x, ρ1⟩, e1, ⟨v, ρ2⟩, e2, xs, e3, e4⟩ := hm
  split at e4
  · rename_i hz
    cases e4
    obtain ⟨p, o1, s1, f1, ⟨vs, hv, dv⟩, _⟩ := obAt_ok E (lstAt_ok E h0)
    refine ⟨_, slot_at s1, .inl ⟨rfl, _, SqL.of hv⟩, ?_⟩
    refine ha ρ x ρ1 σ Hf H e1 E _ fun u Hf1 H1 S1 E1 R1 k1 => ?_
    have B1 : Bh K Hf H ρ σ Hf1 H1 ρ1 := ⟨S1, E1, k1⟩
    obtain ⟨Hf2, B2, d⟩ := B1.frz E R1 e2
    obtain ⟨p', o2, s2, f2, ⟨ws, hw, dw⟩, hi⟩ := obAt_ok B2.en (lstAt_ok B2.en e3)
    rw [s1] at s2
    cases s2
    have B3 := mut_ok (o := .lst xs) (o' := .lst (xs ++ [v])) (ho := .lst (ws ++ [u])) B2.en o2 hi ⟨_, upd_same, dps_app dw (.cons d .nil)⟩
    have B4 := B2.trans B3
    exact ⟨p, ws, u, rfl, rfl, hw, by rw [dps_len dw, ← line_eq]; exact hz, q _ _ _ B4.st B4.en .non B4.kp⟩
  · cases e4
theorem se_pop {i : Nat} : SE K (tBM0 K "list" rPop (tVar i)) (mPop i) := by
  intro ρ r ρ' σ Hf H hm E Q q
  simp only [mPop, Option.bind_eq_some_iff, Option.map_eq_some_iff, Prod.mk.injEq] at hm
  obtain ⟨xs, h0, v, e1, rfl, rfl⟩ := hm
  obtain ⟨p, o1, s1, f1, ⟨vs, hv, dv⟩, hi⟩ := obAt_ok E (lstAt_ok E h0)
  rw [List.getLast?_eq_getElem?] at e1
  obtain ⟨u, h1, h2⟩ := dps_get dv e1
  rw [← dps_len dv] at h1
  have B := mut_ok (o := .lst xs) (o' := .lst xs.dropLast) (ho := .lst vs.dropLast) E o1 hi ⟨_, upd_same, dps_dropLast dv⟩
  exact ⟨_, slot_at s1, .inl ⟨rfl, _, SqL.of hv⟩, p, vs, u, rfl, rfl, hv, h1, q _ _ _ B.st B.en h2 B.kp⟩
theorem se_reverse {i : Nat} : SE K (tBM0 K "list" rReverse (tVar i)) (mReverse i) := by
  intro ρ r ρ' σ Hf H hm E Q q
  simp only [mReverse, Option.map_eq_some_iff, Prod.mk.injEq] at hm
  obtain ⟨xs, h0, rfl, rfl⟩ := hm
  obtain ⟨p, o1, s1, f1, ⟨vs, hv, dv⟩, hi⟩ := obAt_ok E (lstAt_ok E h0)
  have B := mut_ok (o := .lst xs) (o' := .lst xs.reverse) (ho := .lst vs.reverse) E o1 hi ⟨_, upd_same, dps_rev dv⟩
  exact ⟨_, slot_at s1, .inl ⟨rfl, _, SqL.of hv⟩, p, vs, rfl, rfl, hv, q _ _ _ B.st B.en .non B.kp⟩
theorem seqIx {i : Int} {n j : Nat} (h : ixN n i = some j) : seqIndex? i n = some j ∧ j < n ∧ -(n : Int) ≤ i ∧ i < n := by
  rw [ixN_eq] at h
  exact ixN_seq h
theorem se_popAt {i : Nat} {te : TE} {a : M} (ha : SE K te a) : SE K (tBM K "list" rPopAt (tVar i) (tCons te tNil)) (mPopAt i a) := by
  intro ρ r ρ' σ Hf H hm E Q q
  simp only [mPopAt, Option.bind_eq_some_iff] at hm
  obtain ⟨ys, h0, ⟨x, ρ1⟩, e1, c, e2, k, e3, xs, e4, e5⟩ := hm
  split at e5
  · rename_i hz
    simp only [Option.bind_eq_some_iff, Option.map_eq_some_iff, Prod.mk.injEq] at e5
    obtain ⟨j, e6, v, e7, rfl, rfl⟩ := e5
    obtain ⟨p, o1, s1, f1, ⟨vs, hv, dv⟩, _⟩ := obAt_ok E (lstAt_ok E h0)
    refine ⟨_, slot_at s1, .inl ⟨rfl, _, SqL.of hv⟩, ?_⟩
    refine ha ρ x ρ1 σ Hf H e1 E _ fun u Hf1 H1 S1 E1 R1 k1 => ?_
    have B1 : Bh K Hf H ρ σ Hf1 H1 ρ1 := ⟨S1, E1, k1⟩
    have hc := look_ok E1 R1 e2
    unfold intOf at e3
    split at e3
    · cases e3
      cases hc
      obtain ⟨p', o2, s2, f2, ⟨ws, hw, dw⟩, hi⟩ := obAt_ok B1.en (lstAt_ok B1.en e4)
      rw [s1] at s2
      cases s2
      obtain ⟨w, h1, h2⟩ := dps_get dw e7
      have B3 := mut_ok (o := .lst xs) (o' := .lst (xs.eraseIdx j)) (ho := .lst (ws.eraseIdx j)) B1.en o2 hi ⟨_, upd_same, dps_erase _ dw⟩
      have B4 := B1.trans B3
      exact ⟨p, ws, k, j, w, rfl, rfl, hw, by omega, by omega, by rw [dps_len dw]; exact (seqIx e6).1, h1, q _ _ _ B4.st B4.en h2 B4.kp⟩
    · cases e3
  · cases e5
variable {a b : Expr} {ma mb : M} {x : Str} {p pos apos : Pos}
theorem be_append (i : Nat) (ho : PE X (.Name x p) (tVar i)) (ha : BE X a ma) (hbase : attributeBase (.Name x p) "append" X.env (eval (.Name x p) X.env) = eval (.Name x p) X.env := by rfl)
    (hfew : ((backTo pos (starEach [a] X.env)).all (fun x => !x.1) && (backToKw pos (keywordEach [] X.env)).all (fun x => x.1.isSome) && decide (([a] : List Expr).length + ([] : List Keyword).length + (if ([] : List Keyword).isEmpty then 0 else 1) < 30)) = true := by rfl)
    (hline : (apos.endLine == pos.line) = true := by rfl) (hs : starEach [a] X.env = (false, eval a X.env) :: starEach [] X.env := by rfl) (hp : (backTo pos (starEach [] X.env)).any (·.1) = false := by rfl) :
    BE X (.Call (.Attribute (.Name x p) "append" apos) [a] [] pos) (mAppend i ma) := by
  obtain ⟨t, a1, a2⟩ := ha
  exact ⟨_, pe_bm PySem.F.plainAttrs_list PySem.F.slot_list_append PySem.F.type_list_append mt_append ho (pa_cons a1 pa_nil hs) hbase hfew hline hs hp, se_append a2⟩
theorem be_popAt (i : Nat) (ho : PE X (.Name x p) (tVar i)) (ha : BE X a ma) (hbase : attributeBase (.Name x p) "pop" X.env (eval (.Name x p) X.env) = eval (.Name x p) X.env := by rfl)
    (hfew : ((backTo pos (starEach [a] X.env)).all (fun x => !x.1) && (backToKw pos (keywordEach [] X.env)).all (fun x => x.1.isSome) && decide (([a] : List Expr).length + ([] : List Keyword).length + (if ([] : List Keyword).isEmpty then 0 else 1) < 30)) = true := by rfl)
    (hline : (apos.endLine == pos.line) = true := by rfl) (hs : starEach [a] X.env = (false, eval a X.env) :: starEach [] X.env := by rfl) (hp : (backTo pos (starEach [] X.env)).any (·.1) = false := by rfl) :
    BE X (.Call (.Attribute (.Name x p) "pop" apos) [a] [] pos) (mPopAt i ma) := by
  obtain ⟨t, a1, a2⟩ := ha
  exact ⟨_, pe_bm PySem.F.plainAttrs_list PySem.F.slot_list_pop PySem.F.type_list_pop mt_popAt ho (pa_cons a1 pa_nil hs) hbase hfew hline hs hp, se_popAt a2⟩
theorem be_pop (i : Nat) (ho : PE X (.Name x p) (tVar i)) (hbase : attributeBase (.Name x p) "pop" X.env (eval (.Name x p) X.env) = eval (.Name x p) X.env := by rfl) (hline : (apos.endLine == pos.line) = true := by rfl) :
    BE X (.Call (.Attribute (.Name x p) "pop" apos) [] [] pos) (mPop i) :=
  ⟨_, pe_bm0 PySem.F.plainAttrs_list PySem.F.slot_list_pop PySem.F.type_list_pop mt_pop ho hbase hline, se_pop⟩
theorem be_reverse (i : Nat) (ho : PE X (.Name x p) (tVar i)) (hbase : attributeBase (.Name x p) "reverse" X.env (eval (.Name x p) X.env) = eval (.Name x p) X.env := by rfl) (hline : (apos.endLine == pos.line) = true := by rfl) :
    BE X (.Call (.Attribute (.Name x p) "reverse" apos) [] [] pos) (mReverse i) :=
  ⟨_, pe_bm0 PySem.F.plainAttrs_list PySem.F.slot_list_reverse PySem.F.type_list_reverse mt_reverse ho hbase hline, se_reverse⟩
theorem be_frz (ha : BE X a ma) : BE X a (mFrz ma) := by
  obtain ⟨t, a1, a2⟩ := ha
  refine ⟨t, a1, fun ρ r ρ' σ Hf H hm E Q q => ?_⟩
  simp only [mFrz, Option.bind_eq_some_iff, Option.map_eq_some_iff, Prod.mk.injEq] at hm
  obtain ⟨⟨x, ρ1⟩, e1, ⟨v, ρ2⟩, e2, rfl, rfl⟩ := hm
  refine a2 ρ x ρ1 σ Hf H e1 E _ fun u Hf1 H1 S1 E1 R1 k1 => ?_
  obtain ⟨Hf2, B2, d⟩ := (⟨S1, E1, k1⟩ : Bh X.K Hf H ρ σ Hf1 H1 ρ1).frz E R1 e2
  exact q u Hf2 H1 B2.st B2.en d B2.kp
/-- a constant tuple of the module -/
theorem be_glob {vs : List PV} {g : Addr} (hg : Gl X x) (hm : X.mg x = some (.ref g)) (hd : ∀ H : Hp, Dp X.K H (.ref g) (.tuple vs)) (hdb : (x == ("__debug__" : Str)) = false := by decide) : BE X (.Name x pos) (mC (.tuple vs)) :=
  ⟨_, pe_glob (v := .ref g) hg hm rfl hdb, se_c hd⟩
theorem be_dct0 : BE X (.Dict [] [] pos) mDct0 := ⟨_, pe_dnewK, fun ρ r ρ' σ Hf H hm E Q q => by
  cases hm
  intro p hp
  obtain ⟨S, fp⟩ := new_ob (o := .dK []) E.ff hp
  have B := (Bh.refl E).more S
  exact q _ _ _ B.st B.en ⟨p, rfl, hp, fp, [], upd_same, .nil⟩ B.kp⟩
end

/-! ### statements -/
structure BhS (K : PySem.W.Frag) (Hf H : Hp) (ρ : Env) (σ : L2.St) (Hf1 H1 : Hp) (ρ1 : Env) (σ1 : L2.St) : Prop where
  st : Step (Own ρ σ) Hf H Hf1 H1
  en : RepE K Hf1 H1 ρ1 σ1
  own : ∀ p, Own ρ1 σ1 p → Own ρ σ p ∨ H p = none
  ref : ∀ i, isRef (get ρ1 i) = isRef (get ρ i) ∧ (isRef (get ρ i) = true → slot σ1 i = slot σ i)
def FlR (K : PySem.W.Frag) (D : Ends) (f : Fl) (Hf H H0 : Hp) (σ : L2.St) : Prop := match f with
  | .nx => D.nx σ H
  | .bk => D.bk σ H
  | .ct => D.ct σ H
  | .rt r => ∀ u, RepR K Hf H H0 σ r u → D.rt u H
def SS (K : PySem.W.Frag) (ts : TS) (m : SM) : Prop := ∀ (ρ : Env) (f : Fl) (ρ' : Env) (σ : L2.St) (Hf H : Hp), m ρ = some (f, ρ') → RepE K Hf H ρ σ → ∀ D : Ends,
  (∀ σ' Hf' H', BhS K Hf H ρ σ Hf' H' ρ' σ' → FlR K D f Hf' H' H σ') → ts D σ H
structure BS (X : Cx) (st : Stmt) (m : SM) : Prop where
  ex : ∃ t, PS X st t ∧ SS X.K t m
structure BSs (X : Cx) (st : List Stmt) (m : SM) : Prop where
  ex : ∃ t, PSs X st t ∧ SS X.K t m
/-- a target: nothing in the heap changes -/
structure BhG (K : PySem.W.Frag) (Hf H H0 : Hp) (ρ : Env) (σ : L2.St) (Hf1 : Hp) (ρ1 : Env) (σ1 : L2.St) : Prop where
  st : Step (fun p => Own ρ σ p ∨ H0 p = none) Hf H Hf1 H
  en : RepE K Hf1 H ρ1 σ1
  own : ∀ p, Own ρ1 σ1 p → Own ρ σ p ∨ H0 p = none
  ref : ∀ i, isRef (get ρ1 i) = isRef (get ρ i) ∧ (isRef (get ρ i) = true → slot σ1 i = slot σ i)
def SG (K : PySem.W.Frag) (g : TG) (m : MG) : Prop := ∀ (r : R) (ρ ρ' : Env) (σ : L2.St) (Hf H H0 : Hp) (u : V), m r ρ = some ρ' → RepE K Hf H ρ σ → RepR K Hf H H0 σ r u → (∀ q, Own ρ σ q → H0 q ≠ none) → ∀ Q : L2.St → Hp → Prop,
  (∀ σ' Hf', BhG K Hf H H0 ρ σ Hf' ρ' σ' → Q σ' H) → g u σ H Q
structure BG (X : Cx) (tg : Expr) (m : MG) : Prop where
  ex : ∃ g, PG X tg g ∧ SG X.K g m

section
variable {K : PySem.W.Frag} {Hf H Hf' H' Hf1 H1 Hf2 H2 H0 : Hp} {ρ ρ' ρ1 ρ2 : Env} {σ σ' σ1 σ2 : L2.St} {O O' O1 : Addr → Prop} {X : Cx}
theorem Bh.s (a : Bh K Hf H ρ σ Hf1 H1 ρ1) : BhS K Hf H ρ σ Hf1 H1 ρ1 σ := ⟨a.st, a.en, fun _ h => .inl (a.kp.sub h), fun i => ⟨a.kp.ref i, fun _ => rfl⟩⟩
theorem BhS.refl (E : RepE K Hf H ρ σ) : BhS K Hf H ρ σ Hf H ρ σ := (Bh.refl E).s
theorem BhS.trans (a : BhS K Hf H ρ σ Hf1 H1 ρ1 σ1) (b : BhS K Hf1 H1 ρ1 σ1 Hf2 H2 ρ2 σ2) : BhS K Hf H ρ σ Hf2 H2 ρ2 σ2 := by
  refine ⟨a.st.trans b.st a.own, b.en, fun p h => ?_, fun i => ?_⟩
  · rcases b.own p h with z | z
    · exact a.own p z
    · exact .inr (a.st.fresh z)
  · obtain ⟨x1, x2⟩ := a.ref i
    obtain ⟨y1, y2⟩ := b.ref i
    exact ⟨y1.trans x1, fun h => (y2 (x1.trans h)).trans (x2 h)⟩
theorem BhS.fresh (a : BhS K Hf H ρ σ Hf1 H1 ρ1 σ1) {p : Addr} (h : H1 p = none) : H p = none := a.st.fresh h
theorem Bh.g (a : Bh K Hf H ρ σ Hf1 H1 ρ1) (b : BhG K Hf1 H1 H ρ1 σ Hf2 ρ2 σ2) : BhS K Hf H ρ σ Hf2 H1 ρ2 σ2 := by
  refine ⟨a.st.trans b.st fun p h => ?_, b.en, fun p h => ?_, fun i => ?_⟩
  · rcases h with h | h
    · exact .inl (a.kp.sub h)
    · exact .inr h
  · rcases b.own p h with z | z
    · exact .inl (a.kp.sub z)
    · exact .inr z
  · obtain ⟨y1, y2⟩ := b.ref i
    exact ⟨y1.trans (a.kp.ref i), fun h => y2 ((a.kp.ref i).trans h)⟩
theorem FlR.back {D : Ends} {f : Fl} (h : FlR K D f Hf H H0 σ) (z : ∀ p, H1 p = none → H0 p = none) : FlR K D f Hf H H1 σ := by
  cases f with
  | nx => exact h
  | bk => exact h
  | ct => exact h
  | rt r => exact fun u hu => h u (hu.back z)
theorem get_lt {i : Nat} {s : Sl} (h : get ρ i = some s) : i < ρ.length := by
  by_cases hl : i < ρ.length
  · exact hl
  · unfold get at h
    rw [List.getElem?_eq_none (by omega)] at h
    cases h
/-- a value, or a new object, at a name -/
theorem put_ok {i : Nat} {s : Sl} {u : V} (E : RepE K Hf H ρ σ) (h : put i (some s) ρ = some ρ') (r : RepSl K Hf H s u) (n : ∀ p, isOb (some s) = true → u = .ref p → ¬ Own ρ σ p) :
    RepE K Hf H ρ' (σ.set i (some u)) ∧ (∀ p, Own ρ' (σ.set i (some u)) p → Own ρ σ p ∨ (isOb (some s) = true ∧ u = .ref p)) ∧ (∀ j, (isRef (get ρ' j) = true → isRef (some s) = true) ∨ isRef (get ρ' j) = isRef (get ρ j)) ∧
      (∀ j, isRef (some s) = false → isRef (get ρ' j) = isRef (get ρ j) ∧ (isRef (get ρ j) = true → slot (σ.set i (some u)) j = slot σ j)) := by
  unfold put at h
  split at h
  · cases h
  · rename_i nr
    cases h
    have hg : ∀ j, get (ρ.set i (some s)) j = if i = j ∧ i < ρ.length then some s else get ρ j := fun j => get_set ρ i j (some s)
    have hs : ∀ j, slot (σ.set i (some u)) j = if i = j ∧ i < σ.length then some u else slot σ j := fun j => slot_set σ i j (some u)
    have ow : ∀ j p, OwnAt (ρ.set i (some s)) (σ.set i (some u)) j p → (i = j ∧ i < ρ.length ∧ isOb (some s) = true ∧ u = .ref p) ∨ (OwnAt ρ σ j p ∧ ¬ (i = j ∧ i < ρ.length)) := fun j p ⟨a, b⟩ => by
      rw [hg] at a
      rw [hs, ← E.len] at b
      by_cases c : i = j ∧ i < ρ.length
      · rw [if_pos c] at a b
        cases b
        exact .inl ⟨c.1, c.2, a, rfl⟩
      · rw [if_neg c] at a b
        exact .inr ⟨⟨a, b⟩, c⟩
    refine ⟨⟨by rw [List.length_set, List.length_set]; exact E.len, E.ff, fun j t e => ?_, fun j k p a b => ?_⟩, fun p ⟨j, a⟩ => ?_, fun j => ?_, fun j hr => ⟨?_, fun hj => ?_⟩⟩
    · rw [hg] at e
      rw [hs, ← E.len]
      by_cases c : i = j ∧ i < ρ.length
      · rw [if_pos c] at e ⊢
        cases e
        exact ⟨u, rfl, r⟩
      · rw [if_neg c] at e ⊢
        exact E.sl j t e
    · rcases ow j p a with ⟨e1, l1, b1, u1⟩ | ⟨a1, c1⟩ <;> rcases ow k p b with ⟨e2, l2, b2, u2⟩ | ⟨a2, c2⟩
      · omega
      · exact absurd ⟨k, a2⟩ (n p b1 u1)
      · exact absurd ⟨j, a1⟩ (n p b2 u2)
      · exact E.dis j k p a1 a2
    · rcases ow j p a with ⟨e1, l1, b1, u1⟩ | ⟨a1, c1⟩
      · exact .inr ⟨b1, u1⟩
      · exact .inl ⟨j, a1⟩
    · rw [hg]
      by_cases c : i = j ∧ i < ρ.length
      · rw [if_pos c]; exact .inl fun z => z
      · rw [if_neg c]; exact .inr rfl
    · rw [hg]
      by_cases c : i = j ∧ i < ρ.length
      · rw [if_pos c, hr, ← c.1]; simpa using nr
      · rw [if_neg c]
    · rw [hs]
      have c : ¬ (i = j ∧ i < σ.length) := fun c => by
        rw [← c.1] at hj
        rw [hj] at nr
        exact nr rfl
      rw [if_neg c]
theorem sg_name (i : Nat) : SG K (L2.gName i) (Py.gName i) := by
  intro r ρ ρ' σ Hf H H0 u hm E R no Q q
  cases r with
  | val v =>
    obtain ⟨E1, h1, _, h3⟩ := put_ok (u := u) E hm R fun p h => nomatch h
    exact q _ Hf ⟨.refl E.ff, E1, fun p hp => (h1 p hp).imp id (fun z => nomatch z.1), fun j => h3 j rfl⟩
  | new o =>
    obtain ⟨p, rfl, z, f, r⟩ := R
    have np : ¬ Own ρ σ p := fun h => no p h z
    obtain ⟨E1, h1, _, h3⟩ := put_ok (s := .own o) (u := .ref p) E hm ⟨p, rfl, f, r⟩ fun p' _ h => by cases h; exact np
    exact q _ Hf ⟨.refl E.ff, E1, fun p' hp => (h1 p' hp).imp id fun z' => by cases z'.2; exact z, fun j => h3 j rfl⟩
  | bor j =>
    have hm' : (frz (.bor j) ρ).bind (fun v => put i (some (.val v.1)) v.2) = some ρ' := hm
    rw [Option.bind_eq_some_iff] at hm'
    obtain ⟨⟨v, ρ1⟩, e1, e2⟩ := hm'
    obtain ⟨Hf1, S, E1, d, k⟩ := frz_ok E R no e1
    obtain ⟨E2, h1, _, h3⟩ := put_ok (s := .val v) (u := u) E1 e2 d fun p h => nomatch h
    exact q _ Hf1 ⟨S, E2, fun p hp => (h1 p hp).elim (fun z => .inl (k.sub z)) (fun z => nomatch z.1), fun l => ⟨((h3 l rfl).1).trans (k.ref l), fun hl => (h3 l rfl).2 ((k.ref l).trans hl)⟩⟩
theorem bg_name (i : Nat) {x : Str} {pos : Pos} (hN : X.N.Nodup) (hi : X.N[i]? = some x := by rfl) (hx : Loc X.env.scope x := by first | exact Or.inl rfl | exact Or.inr rfl) (hf : X.fn x = true ∨ X.env.scope.names.lookup x = some .local := by first | exact .inl rfl | exact .inr rfl | assumption) : BG X (.Name x pos) (Py.gName i) :=
  ⟨_, pg_name hN hi hx hf, sg_name i⟩
end
end Py
/-! Py5: statements, loops, comprehensions. -/
namespace Py
open PySem PySem.Spec PyProof.Rows L2

section
variable {K : PySem.W.Frag} {Hf H Hf' H' Hf1 H1 Hf2 H2 H0 : Hp} {ρ ρ' ρ1 ρ2 : Env} {σ σ' σ1 σ2 : L2.St} {O O' O1 : Addr → Prop} {X : Cx}
theorem ss_next : SS K tNext sNext := by
  intro ρ f ρ' σ Hf H hm E D q
  cases hm
  exact q σ Hf H (.refl E)
theorem ss_brk : SS K tBreak sBrk := by
  intro ρ f ρ' σ Hf H hm E D q
  cases hm
  exact q σ Hf H (.refl E)
theorem ss_cont : SS K tCont sCont := by
  intro ρ f ρ' σ Hf H hm E D q
  cases hm
  exact q σ Hf H (.refl E)
theorem ss_seq {t u : TS} {a b : SM} (ha : SS K t a) (hb : SS K u b) : SS K (tSeq t u) (sSeq a b) := by
  intro ρ f ρ' σ Hf H hm E D q
  simp only [sSeq, Option.bind_eq_some_iff] at hm
  obtain ⟨⟨f1, ρ1⟩, e1, e2⟩ := hm
  refine ha ρ f1 ρ1 σ Hf H e1 E _ fun σ1 Hf1 H1 B1 => ?_
  cases f1 with
  | nx =>
    refine hb ρ1 f ρ' σ1 Hf1 H1 e2 B1.en D fun σ2 Hf2 H2 B2 => ?_
    exact (q σ2 Hf2 H2 (B1.trans B2)).back fun p hp => B1.fresh hp
  | bk => cases e2; exact q σ1 Hf1 H1 B1
  | ct => cases e2; exact q σ1 Hf1 H1 B1
  | rt r => cases e2; exact q σ1 Hf1 H1 B1
theorem ss_if {tt : TT} {t u : TS} {c : MT} {a b : SM} (hc : ST K tt c) (ha : SS K t a) (hb : SS K u b) : SS K (tIfS tt t u) (sIf c a b) := by
  intro ρ f ρ' σ Hf H hm E D q
  simp only [sIf, Option.bind_eq_some_iff] at hm
  obtain ⟨⟨x, ρ1⟩, e1, e2⟩ := hm
  refine hc ρ x ρ1 σ Hf H e1 E _ fun Hf1 H1 S1 E1 k1 => ?_
  have B1 : Bh K Hf H ρ σ Hf1 H1 ρ1 := ⟨S1, E1, k1⟩
  cases x with
  | true =>
    simp only [if_true] at e2 ⊢
    exact ha ρ1 f ρ' σ Hf1 H1 e2 E1 D fun σ2 Hf2 H2 B2 => (q σ2 Hf2 H2 (B1.s.trans B2)).back fun p hp => B1.fresh hp
  | false =>
    simp only [Bool.false_eq_true, if_false] at e2 ⊢
    exact hb ρ1 f ρ' σ Hf1 H1 e2 E1 D fun σ2 Hf2 H2 B2 => (q σ2 Hf2 H2 (B1.s.trans B2)).back fun p hp => B1.fresh hp
theorem ss_ret {te : TE} {a : M} (ha : SE K te a) : SS K (tRet te) (sRet a) := by
  intro ρ f ρ' σ Hf H hm E D q
  simp only [sRet, Option.map_eq_some_iff, Prod.mk.injEq] at hm
  obtain ⟨⟨x, ρ1⟩, e1, rfl, rfl⟩ := hm
  exact ha ρ x ρ1 σ Hf H e1 E _ fun u Hf1 H1 S1 E1 R1 k1 => q σ Hf1 H1 (⟨S1, E1, k1⟩ : Bh K Hf H ρ σ Hf1 H1 ρ1).s u R1
theorem ss_retN : SS K tRetN sRetN := by
  intro ρ f ρ' σ Hf H hm E D q
  cases hm
  exact q σ Hf H (.refl E) .non .non
theorem ss_expr {te : TE} {a : M} (ha : SE K te a) : SS K (tDrop te) (sExpr a) := by
  intro ρ f ρ' σ Hf H hm E D q
  simp only [sExpr, Option.map_eq_some_iff, Prod.mk.injEq] at hm
  obtain ⟨⟨x, ρ1⟩, e1, rfl, rfl⟩ := hm
  exact ha ρ x ρ1 σ Hf H e1 E _ fun u Hf1 H1 S1 E1 R1 k1 => q σ Hf1 H1 (⟨S1, E1, k1⟩ : Bh K Hf H ρ σ Hf1 H1 ρ1).s
theorem ss_asg {te : TE} {g : TG} {a : M} {m : MG} (ha : SE K te a) (hg : SG K g m) : SS K (tAsg te g) (sAsg a m) := by
  intro ρ f ρ' σ Hf H hm E D q
  simp only [sAsg, Option.bind_eq_some_iff, Option.map_eq_some_iff, Prod.mk.injEq] at hm
  obtain ⟨⟨x, ρ1⟩, e1, ρ2, e2, rfl, rfl⟩ := hm
  refine ha ρ x ρ1 σ Hf H e1 E _ fun u Hf1 H1 S1 E1 R1 k1 => ?_
  have B1 : Bh K Hf H ρ σ Hf1 H1 ρ1 := ⟨S1, E1, k1⟩
  exact hg x ρ1 ρ2 σ Hf1 H1 H u e2 E1 R1 (B1.no E) _ fun σ2 Hf2 B2 => q σ2 Hf2 H1 (B1.g B2)
theorem sg_names : ∀ (is : List Nat) (ts : TGs), (∃ K' : PySem.W.Frag, True) → True := fun _ _ _ => trivial
/-- several names, a tuple's items -/
def tNames : List Nat → TGs
  | [] => gNil
  | i :: is => gCons (L2.gName i) (tNames is)
theorem names_ok : ∀ (is : List Nat) (vs : List PV) (us : List V) (ρ ρ' : Env) (σ : L2.St), gNames is vs ρ = some ρ' → RepE K Hf H ρ σ → DpAll K Hf us vs → ∀ Q : L2.St → Hp → Prop,
    (∀ σ', BhG K Hf H H0 ρ σ Hf ρ' σ' → Q σ' H) → tNames is us σ H Q := by
  intro is
  induction is with
  | nil =>
    intro vs us ρ ρ' σ hm E d Q q
    cases vs with
    | nil => cases hm; cases d; exact ⟨rfl, q σ ⟨.refl E.ff, E, fun _ h => .inl h, fun _ => ⟨rfl, fun _ => rfl⟩⟩⟩
    | cons v vs => cases hm
  | cons i is ih =>
    intro vs us ρ ρ' σ hm E d Q q
    cases vs with
    | nil => cases hm
    | cons v vs =>
      simp only [gNames, Option.bind_eq_some_iff] at hm
      obtain ⟨ρ1, e1, e2⟩ := hm
      cases d with
      | @cons u us' _ _ d1 d2 =>
        obtain ⟨E1, h1, _, h3⟩ := put_ok (s := .val v) (u := u) E e1 d1 fun p h => nomatch h
        refine ⟨u, us', rfl, ?_⟩
        refine ih vs us' ρ1 ρ' _ e2 E1 d2 Q fun σ' B => q σ' ⟨.refl E.ff, B.en, fun p hp => ?_, fun j => ?_⟩
        · rcases B.own p hp with z | z
          · exact (h1 p z).imp id fun z => nomatch z.1
          · exact .inr z
        · obtain ⟨y1, y2⟩ := B.ref j
          obtain ⟨x1, x2⟩ := h3 j rfl
          exact ⟨y1.trans x1, fun h => (y2 (x1.trans h)).trans (x2 h)⟩
theorem sg_tup {is : List Nat} {n : Nat} (hn : is.length = n) : SG K (L2.gTup K n (tNames is)) (Py.gTup is) := by
  intro r ρ ρ' σ Hf H H0 u hm E R no Q q
  unfold Py.gTup at hm
  split at hm
  · rename_i xs
    have R' : Dp K Hf u (.tuple xs) := R
    cases R' with
    | @tup a us _ hs ha =>
      have hl : ∀ (is : List Nat) (xs : List PV) (ρ ρ' : Env), gNames is xs ρ = some ρ' → is.length = xs.length := by
        intro is
        induction is with
        | nil => intro xs ρ ρ' h; cases xs with
          | nil => rfl
          | cons x xs => cases h
        | cons i is ih => intro xs ρ ρ' h; cases xs with
          | nil => cases h
          | cons x xs =>
            simp only [gNames, Option.bind_eq_some_iff] at h
            obtain ⟨ρ1, _, e2⟩ := h
            rw [List.length_cons, List.length_cons, ih xs ρ1 ρ' e2]
      exact ⟨a, us, rfl, ex_t E.ff hs, by rw [dps_len ha, ← hl is xs ρ ρ' hm, hn], names_ok is xs us ρ ρ' σ hm E ha Q fun σ' B => q σ' Hf B⟩
  · cases hm
/-- a, b = x, y -/
def parPut (i j : Nat) (x y : R) (ρ : Env) : Option Env := (Py.gName i x ρ).bind fun ρ1 => Py.gName j y ρ1
theorem ss_par {i j : Nat} {ta tb : TE} {a b : M} (ha : SE K ta a) (hb : SE K tb b) : SS K (tPar i j (tCons ta (tCons tb tNil))) (sPar i j a b) := by
  intro ρ f ρ' σ Hf H hm E D q
  simp only [sPar, Option.bind_eq_some_iff, Option.map_eq_some_iff, Prod.mk.injEq] at hm
  obtain ⟨⟨x, ρ1⟩, e1, ⟨v, ρ2⟩, e2, ⟨y, ρ3⟩, e3, ⟨w, ρ4⟩, e4, ρ5, e5, ρ6, e6, rfl, rfl⟩ := hm
  refine ha ρ x ρ1 σ Hf H e1 E _ fun u Hf1 H1 S1 E1 R1 k1 => ?_
  have B1 : Bh K Hf H ρ σ Hf1 H1 ρ1 := ⟨S1, E1, k1⟩
  obtain ⟨Hf2, B2, d⟩ := B1.frz E R1 e2
  refine hb ρ2 y ρ3 σ Hf2 H1 e3 B2.en _ fun u2 Hf3 H3 S3 E3 R3 k3 => ?_
  have B3' : Bh K Hf2 H1 ρ2 σ Hf3 H3 ρ3 := ⟨S3, E3, k3⟩
  obtain ⟨Hf4, B4', d4⟩ := B3'.frz B2.en R3 e4
  have B4 := B2.trans B4'
  have d' := dp_mono B4'.st.ff _ _ d
  obtain ⟨E5, h1, _, h3⟩ := put_ok (s := .val v) (u := u) B4.en e5 d' fun p h => nomatch h
  obtain ⟨E6, h4, _, h6⟩ := put_ok (s := .val w) (u := u2) E5 e6 d4 fun p h => nomatch h
  refine ⟨u, u2, rfl, q _ Hf4 H3 ⟨B4.st, E6, fun p hp => ?_, fun l => ?_⟩⟩
  · rcases h4 p hp with z | z
    · rcases h1 p z with z | z
      · exact .inl (B4.kp.sub z)
      · cases z.1
    · cases z.1
  · obtain ⟨a1, a2⟩ := h3 l rfl
    obtain ⟨b1, b2⟩ := h6 l rfl
    have c := B4.kp.ref l
    exact ⟨b1.trans (a1.trans c), fun h => (b2 (a1.trans (c.trans h))).trans (a2 (c.trans h))⟩
/-- xs[e] = v -/
theorem ss_setIx {i : Nat} {te ti : TE} {a e : M} (ha : SE K te a) (he : SE K ti e) : SS K (tAsg te (gSub (tVar i) ti rSetL)) (sSetIx i e a) := by
  intro ρ f ρ' σ Hf H hm E D q
  simp only [sSetIx, Option.bind_eq_some_iff, Option.map_eq_some_iff, Prod.mk.injEq] at hm
  obtain ⟨⟨x, ρ1⟩, e1, ⟨v, ρ2⟩, e2, ys, h0, ⟨y, ρ3⟩, e3, c, e4, k, e5, xs, e6, j, e7, rfl, rfl⟩ := hm
  refine ha ρ x ρ1 σ Hf H e1 E _ fun u Hf1 H1 S1 E1 R1 k1 => ?_
  have B1 : Bh K Hf H ρ σ Hf1 H1 ρ1 := ⟨S1, E1, k1⟩
  obtain ⟨Hf2, B2, d⟩ := B1.frz E R1 e2
  obtain ⟨p, o1, s1, f1, ⟨vs, hv, dv⟩, _⟩ := obAt_ok B2.en (lstAt_ok B2.en h0)
  refine ⟨_, slot_at s1, ?_⟩
  refine he ρ2 y ρ3 σ Hf2 H1 e3 B2.en _ fun w Hf3 H3 S3 E3 R3 k3 => ?_
  have B3' : Bh K Hf2 H1 ρ2 σ Hf3 H3 ρ3 := ⟨S3, E3, k3⟩
  have B3 := B2.trans B3'
  have hc := look_ok E3 R3 e4
  unfold intOf at e5
  split at e5
  · cases e5
    cases hc
    obtain ⟨p', o2, s2, f2, ⟨ws, hw, dw⟩, hi⟩ := obAt_ok B3.en (lstAt_ok B3.en e6)
    rw [s1] at s2
    cases s2
    have d' := dp_mono S3.ff _ _ d
    have B4 := B3.trans (mut_ok (o := .lst xs) (o' := .lst (xs.set j v)) (ho := .lst (ws.set j u)) B3.en o2 hi ⟨_, upd_same, dps_set d' _ dw⟩)
    exact ⟨p, ws, k, j, rfl, rfl, hw, by rw [dps_len dw]; exact e7, q σ Hf3 _ B4.s⟩
  · cases e5
theorem ss_fgt {t : TS} {a : SM} (is : List Nat) (ha : SS K t a) : SS K t (sFgt is a) := by
  intro ρ f ρ' σ Hf H hm E D q
  simp only [sFgt, Option.map_eq_some_iff] at hm
  obtain ⟨⟨f1, ρ1⟩, e1, e2⟩ := hm
  refine ha ρ f1 ρ1 σ Hf H e1 E D fun σ' Hf' H' B => ?_
  have e3 : (f = f1 ∧ ρ' = ρ1) ∨ (f = f1 ∧ ρ' = forget is ρ1) := by
    cases f1 <;> (cases e2; first | exact .inl ⟨rfl, rfl⟩ | exact .inr ⟨rfl, rfl⟩)
  rcases e3 with ⟨rfl, rfl⟩ | ⟨rfl, rfl⟩
  · exact q σ' Hf' H' B
  refine q σ' Hf' H' ?_
  have key : ∀ is : List Nat, (forget is ρ1).length = ρ1.length ∧ (∀ j, get (forget is ρ1) j = get ρ1 j ∨ (get (forget is ρ1) j = none ∧ isRef (get ρ1 j) = false)) := by
    intro is
    induction is with
    | nil => exact ⟨rfl, fun _ => .inl rfl⟩
    | cons i is ih =>
      obtain ⟨h1, h2⟩ := ih
      unfold forget
      split
      · exact ⟨h1, h2⟩
      · rename_i nr
        refine ⟨by rw [List.length_set]; exact h1, fun j => ?_⟩
        rw [get_set]
        split
        · rename_i c
          refine .inr ⟨rfl, ?_⟩
          rw [c.1] at nr
          rcases h2 j with z | z
          · rw [z] at nr; simpa using nr
          · exact z.2
        · exact h2 j
  obtain ⟨kl, kg⟩ := key is
  have sub : ∀ j p, OwnAt (forget is ρ1) σ' j p → OwnAt ρ1 σ' j p := fun j p ⟨x, y⟩ => by
    refine ⟨?_, y⟩
    rcases kg j with z | z
    · rw [z] at x; exact x
    · rw [z.1] at x
      cases x
  refine ⟨B.st, ⟨kl.trans B.en.len, B.en.ff, fun j s e => ?_, fun j k p x y => B.en.dis j k p (sub j p x) (sub k p y)⟩, fun p ⟨j, x⟩ => B.own p ⟨j, sub j p x⟩, fun j => ⟨?_, (B.ref j).2⟩⟩
  · rcases kg j with z | z
    · rw [z] at e; exact B.en.sl j s e
    · rw [z.1] at e; cases e
  · rw [← (B.ref j).1]
    rcases kg j with z | z
    · rw [z]
    · rw [z.1, z.2]; rfl
/-- name op= e, of values -/
theorem ss_aug {i : Nat} {te : TE} {a : M} {r : R2} {f : Ct → Ct → Option R} (ha : SE K te a) (hr : OpS K r f) : SS K (tAug i te r) (sAug i f a) := by
  intro ρ fl ρ' σ Hf H hm E D q
  simp only [sAug, Option.bind_eq_some_iff] at hm
  obtain ⟨s, e0, e1⟩ := hm
  obtain ⟨u0, s0, r0⟩ := E.sl i s e0
  cases s with
  | own o => cases e1
  | ref o => cases e1
  | lck kvs => cases e1
  | val v =>
    simp only [Option.bind_eq_some_iff] at e1
    obtain ⟨⟨x, ρ1⟩, e2, c, e3, z, e4, e5⟩ := e1
    refine ⟨u0, slot_at s0, ?_⟩
    refine ha ρ x ρ1 σ Hf H e2 E _ fun u Hf1 H1 S1 E1 R1 k1 => ?_
    have B1 : Bh K Hf H ρ σ Hf1 H1 ρ1 := ⟨S1, E1, k1⟩
    refine hr Hf1 H1 (.pv v) c u0 u z E1.ff (dp_mono S1.ff _ _ r0) (look_ok E1 R1 e3) e4 _ fun w Hf2 H2 S2 R2 => ?_
    have B2 := B1.more S2
    cases z with
    | val z =>
      simp only [Option.map_eq_some_iff, Prod.mk.injEq] at e5
      obtain ⟨ρ2, e6, rfl, rfl⟩ := e5
      obtain ⟨E3, h1, _, h3⟩ := put_ok (s := .val z) (u := w) B2.en e6 R2 fun p h => nomatch h
      refine q _ Hf2 H2 ⟨B2.st, E3, fun p hp => ?_, fun l => ?_⟩
      · rcases h1 p hp with z | z
        · exact .inl (B2.kp.sub z)
        · cases z.1
      · obtain ⟨a1, a2⟩ := h3 l rfl
        have c := B2.kp.ref l
        exact ⟨a1.trans c, fun h => a2 (c.trans h)⟩
    | new o => cases e5
    | bor j => cases e5

/-! ### what a for walks -/
def Walk (K : PySem.W.Frag) (J : It) (xs : List PV) (O : Addr → Prop) (Hf H : Hp) : Prop := ∀ Hf2 H2, Step O Hf H Hf2 H2 → ∀ i : Nat,
  (∀ x, xs[i]? = some x → J.go i H2 ∧ ∀ u H3, J.yld i H2 u H3 → H3 = H2 ∧ Dp K Hf2 u x) ∧ (xs.length ≤ i → J.stop i H2)
def SI (K : PySem.W.Frag) (wi : TI) (m : MI) : Prop := ∀ (ρ : Env) (xs : List PV) (ρ' : Env) (σ : L2.St) (Hf H : Hp), m ρ = some (xs, ρ') → RepE K Hf H ρ σ → ∀ R : It → Hp → Prop,
  (∀ J Hf' H', Bh K Hf H ρ σ Hf' H' ρ' → Walk K J xs (Own ρ' σ) Hf' H' → R J H') → wi σ H R
structure BI (X : Cx) (tg e : Expr) (m : MI) : Prop where
  ex : ∃ wi, PI X tg e wi ∧ SI X.K wi m
/-- a list or a tuple -/
def iSq (K : PySem.W.Frag) (tl : TE) : TI := fun σ H R => tl σ H fun x H1 => ∃ a, x = .ref a ∧ (((∃ xs, SqL K H1 a xs) ∧ R (Itl K a) H1) ∨ ((∃ xs, SqT K H1 a xs) ∧ R (Itt K a) H1))
theorem pi_sq {tg l : Expr} {tl : TE} (hl : PE X l tl) : PI X tg l (iSq X.K tl) := by
  constructor
  intro pins s σ H R I h
  refine thn (hl.run pins s σ H _ I h) ?_
  rintro v s1 ⟨x, Ha, Ia, rx, a, rfl, hc⟩
  cases rx
  have old : ∀ o : Obj, Inv X pins σ Ha { s1 with heap := s1.heap.push o } := fun o => Ia.kept (t' := s1.toks) (fun _ _ z => Heap.get?_push_of_some _ z)
  have fp : ∀ b ∈ [s1.heap.objs.size], FpOk X pins Ha b := by
    intro b hb
    rw [List.mem_singleton.mp hb]
    exact Ia.fpOk (Nat.le_refl _) (Ia.hok.fresh (Nat.le_refl _))
  rcases hc with ⟨⟨xs, hq⟩, q⟩ | ⟨⟨xs, hq⟩, q⟩
  · obtain ⟨its, _, pl, _⟩ := Ia.list hq
    exact wpAny_pyIter_list pl.isList ⟨_, [_], _, _, Ha, rfl, old _, turn_list a _, ⟨_, Heap.get?_push_size _ rfl, rfl, rfl⟩, fp, q⟩
  · obtain ⟨its, _, pl, _⟩ := Ia.tuple hq
    exact wpAny_pyIter_tuple (show s1.heap.IsTuple a its.toArray from pl) ⟨_, [_], _, _, Ha, rfl, old _, turn_tuple a _, ⟨_, Heap.get?_push_size _ rfl, rfl, rfl⟩, fp, q⟩
theorem sqL_fun {a : Addr} {us ws : List V} {H : Hp} (h : SqL K H a us) (h' : SqL K H a ws) : True := trivial
/-- how a list at a is walked -/
theorem walk_l {a : Addr} {us : List V} {xs : List PV} (keep : ∀ Hf2 H2, Step O Hf H Hf2 H2 → SqL K H2 a us) (d : DpAll K Hf us xs) : Walk K (Itl K a) xs O Hf H := by
  intro Hf2 H2 S i
  refine ⟨fun x hx => ?_, fun hi => ⟨us, keep _ _ S, by rw [dps_len d]; exact hi⟩⟩
  obtain ⟨u, h1, h2⟩ := dps_get d hx
  refine ⟨⟨us, u, keep _ _ S, h1⟩, fun u' H3 ⟨e, y⟩ => ⟨e, ?_⟩⟩
  have h3 := y us (keep _ _ S)
  rw [h1] at h3
  cases h3
  exact dp_mono S.ff _ _ h2
theorem walk_t {a : Addr} {us : List V} {xs : List PV} (keep : ∀ Hf2 H2, Step O Hf H Hf2 H2 → SqT K H2 a us) (d : DpAll K Hf us xs) : Walk K (Itt K a) xs O Hf H := by
  intro Hf2 H2 S i
  refine ⟨fun x hx => ?_, fun hi => ⟨us, keep _ _ S, by rw [dps_len d]; exact hi⟩⟩
  obtain ⟨u, h1, h2⟩ := dps_get d hx
  refine ⟨⟨us, u, keep _ _ S, h1⟩, fun u' H3 ⟨e, y⟩ => ⟨e, ?_⟩⟩
  have h3 := y us (keep _ _ S)
  rw [h1] at h3
  cases h3
  exact dp_mono S.ff _ _ h2
theorem si_seq {te : TE} {a : M} (ha : SE K te a) : SI K (iSq K te) (iSeq a) := by
  intro ρ xs ρ' σ Hf H hm E R q
  simp only [iSeq, Option.bind_eq_some_iff] at hm
  obtain ⟨⟨x, ρ1⟩, e1, e2⟩ := hm
  refine ha ρ x ρ1 σ Hf H e1 E _ fun u Hf1 H1 S1 E1 R1 k1 => ?_
  have B1 : Bh K Hf H ρ σ Hf1 H1 ρ1 := ⟨S1, E1, k1⟩
  cases x with
  | val v =>
    have R1' : Dp K Hf1 u v := R1
    cases v with
    | list ys =>
      cases e2
      cases R1' with
      | lst hs d => exact ⟨_, rfl, .inl ⟨⟨_, ex_l E1.ff hs⟩, q _ Hf1 H1 B1 (walk_l (fun Hf2 H2 S => ex_l S.fh (ex_l S.ff hs)) d)⟩⟩
    | tuple ys =>
      cases e2
      cases R1' with
      | tup hs d => exact ⟨_, rfl, .inr ⟨⟨_, ex_t E1.ff hs⟩, q _ Hf1 H1 B1 (walk_t (fun Hf2 H2 S => ex_t S.fh (ex_t S.ff hs)) d)⟩⟩
    | none => cases e2
    | bool b => cases e2
    | int i => cases e2
    | str y => cases e2
    | dict y => cases e2
  | new o =>
    cases o with
    | lst ys =>
      cases e2
      obtain ⟨p, rfl, z, f, us, hu, d⟩ := R1
      exact ⟨p, rfl, .inl ⟨⟨us, SqL.of hu⟩, q _ Hf1 H1 B1 (walk_l (fun Hf2 H2 S => SqL.of (S.keep p _ hu fun w => B1.no E p w z)) d)⟩⟩
    | dct ys => cases e2
  | bor i => cases e2
theorem walk_r {lo : Int} {n : Nat} : Walk K (Itr lo n) (rangeL lo n) O Hf H := by
  intro Hf2 H2 S i
  unfold rangeL
  constructor
  · intro x hx
    rw [List.getElem?_map, Option.map_eq_some_iff] at hx
    obtain ⟨k, h1, rfl⟩ := hx
    obtain ⟨h2, h3⟩ := List.getElem?_eq_some_iff.mp h1
    rw [List.getElem_range] at h3
    subst h3
    rw [List.length_range] at h2
    exact ⟨h2, fun u H3 ⟨e1, e2⟩ => ⟨e1, by rw [e2]; exact .int _⟩⟩
  · intro hi
    have h : n ≤ i := by simpa using hi
    exact h
theorem intOf_some {c : Ct} {i : Int} {u : V} (h : intOf c = some i) (r : RepC K Hf H c u) : u = .int i := by
  unfold intOf at h
  split at h
  · cases h; cases r; rfl
  · cases h
theorem si_rng1 {te : TE} {a : M} (ha : SE K te a) : SI K (L2.iRng1 (tCons te tNil)) (Py.iRng1 a) := by
  intro ρ xs ρ' σ Hf H hm E R q
  simp only [Py.iRng1, Option.bind_eq_some_iff] at hm
  obtain ⟨⟨x, ρ1⟩, e1, c, e2, n, e3, e4⟩ := hm
  split at e4
  · rename_i hz
    cases e4
    refine ha ρ x ρ1 σ Hf H e1 E _ fun u Hf1 H1 S1 E1 R1 k1 => ?_
    have B1 : Bh K Hf H ρ σ Hf1 H1 ρ1 := ⟨S1, E1, k1⟩
    have hl : (line : Int) = 16777216 := rfl
    exact ⟨n, by rw [intOf_some e3 (look_ok E1 R1 e2)], by omega, by omega, q _ Hf1 H1 B1 walk_r⟩
  · cases e4
theorem si_rng2 {te tf : TE} {a b : M} (ha : SE K te a) (hb : SE K tf b) : SI K (L2.iRng2 (tCons te (tCons tf tNil))) (Py.iRng2 a b) := by
  intro ρ xs ρ' σ Hf H hm E R q
  simp only [Py.iRng2, Option.bind_eq_some_iff] at hm
  obtain ⟨⟨x, ρ1⟩, e1, c, e2, n, e3, ⟨y, ρ2⟩, e4, d, e5, k, e6, e7⟩ := hm
  split at e7
  · rename_i hz
    cases e7
    refine ha ρ x ρ1 σ Hf H e1 E _ fun u Hf1 H1 S1 E1 R1 k1 => ?_
    have B1 : Bh K Hf H ρ σ Hf1 H1 ρ1 := ⟨S1, E1, k1⟩
    have eu := intOf_some e3 (look_ok E1 R1 e2)
    refine hb ρ1 y ρ2 σ Hf1 H1 e4 E1 _ fun w Hf2 H2 S2 E2 R2 k2 => ?_
    have B2 := B1.trans (⟨S2, E2, k2⟩ : Bh K Hf1 H1 ρ1 σ Hf2 H2 ρ2)
    exact ⟨n, k, by rw [eu, intOf_some e6 (look_ok E2 R2 e5)], ⟨by omega, by omega, by omega, by omega⟩, q _ Hf2 H2 B2 walk_r⟩
  · cases e7
theorem drop_get {α : Type} {xs : List α} {i : Nat} {x : α} {r : List α} (h : xs.drop i = x :: r) : xs[i]? = some x ∧ xs.drop (i + 1) = r := by
  have h1 : (xs.drop i)[0]? = some x := by rw [h]; rfl
  rw [List.getElem?_drop, Nat.add_zero] at h1
  refine ⟨h1, ?_⟩
  rw [← List.drop_drop, h]
  rfl
/-- the loop: f, ρ' its end -/
theorem loop_ok {J : It} {xs : List PV} {g : TG} {mg : MG} {tb : TS} {b : SM} {f : Fl} {D : Ends} (hg : SG K g mg) (hb : SS K tb b) (E1 : RepE K Hf1 H1 ρ1 σ) (w : Walk K J xs (Own ρ1 σ) Hf1 H1) (hl : loopF mg b xs ρ1 = some (f, ρ'))
    (q : ∀ σ' Hf' H', BhS K Hf1 H1 ρ1 σ Hf' H' ρ' σ' → FlR K D f Hf' H' H1 σ') :
    ∃ W : Nat → Nat → L2.St → Hp → Prop, (∃ m, W 0 m σ H1) ∧ ∀ i m σ H, W i m σ H → (J.stop i H ∧ D.nx σ H) ∨
      (J.go i H ∧ ∃ N : L2.St → Hp → Prop, (∀ σ' H', N σ' H' → ∃ m', m' < m ∧ W (i + 1) m' σ' H') ∧ ∀ x H', J.yld i H x H' → g x σ H' fun σ2 H2 => tb { D with nx := N, ct := N, bk := D.nx } σ2 H2) := by
  refine ⟨fun i m σ2 H2 => m = xs.length - i ∧ i ≤ xs.length ∧ ∃ ρ2 Hf2, loopF mg b (xs.drop i) ρ2 = some (f, ρ') ∧ BhS K Hf1 H1 ρ1 σ Hf2 H2 ρ2 σ2, ⟨_, rfl, Nat.zero_le _, ρ1, Hf1, hl, .refl E1⟩, ?_⟩
  rintro i m σ2 H2 ⟨rfl, hi, ρ2, Hf2, e, B⟩
  obtain ⟨w1, w2⟩ := w Hf2 H2 B.st i
  cases hd : xs.drop i with
  | nil =>
    rw [hd] at e
    cases e
    have hle : xs.length ≤ i := by
      have := congrArg List.length hd
      rw [List.length_drop, List.length_nil] at this
      omega
    exact .inl ⟨w2 hle, q σ2 Hf2 H2 B⟩
  | cons x r =>
    rw [hd] at e
    obtain ⟨hx, hr⟩ := drop_get hd
    have hlt : i < xs.length := (List.getElem?_eq_some_iff.mp hx).1
    obtain ⟨go, yl⟩ := w1 x hx
    simp only [loopF, Option.bind_eq_some_iff] at e
    obtain ⟨ρ3, e1, ⟨fb, ρ4⟩, e2, e3⟩ := e
    refine .inr ⟨go, fun σ' H' => ∃ ρ5 Hf5, loopF mg b (xs.drop (i + 1)) ρ5 = some (f, ρ') ∧ BhS K Hf1 H1 ρ1 σ Hf5 H' ρ5 σ', fun σ' H' ⟨ρ5, Hf5, h1, h2⟩ => ⟨_, by omega, rfl, hlt, ρ5, Hf5, h1, h2⟩, fun u H3 hy => ?_⟩
    obtain ⟨rfl, du⟩ := yl u H3 hy
    refine hg (.val x) ρ2 ρ3 σ2 Hf2 H3 H3 u e1 B.en du (fun p hp => by obtain ⟨⟨o, ho⟩, _⟩ := B.en.there hp; rw [ho]; exact fun z => nomatch z) _ fun σ3 Hf3 B3 => ?_
    have B3' : BhS K Hf1 H1 ρ1 σ Hf3 H3 ρ3 σ3 := B.trans ((Bh.refl B.en).g B3)
    refine hb ρ3 fb ρ4 σ3 Hf3 H3 e2 B3.en _ fun σ4 Hf4 H4 B4 => ?_
    have B4' := B3'.trans B4
    cases fb with
    | nx => exact ⟨ρ4, Hf4, by rw [hr]; exact e3, B4'⟩
    | ct => exact ⟨ρ4, Hf4, by rw [hr]; exact e3, B4'⟩
    | bk => cases e3; exact q σ4 Hf4 H4 B4'
    | rt r' => cases e3; exact (q σ4 Hf4 H4 B4').back fun p hp => B3'.fresh hp
theorem ss_for {wi : TI} {g : TG} {tb : TS} {it : MI} {mg : MG} {b : SM} (hi : SI K wi it) (hg : SG K g mg) (hb : SS K tb b) : SS K (tFor wi g tb) (sFor it mg b) := by
  intro ρ f ρ' σ Hf H hm E D q
  simp only [sFor, Option.bind_eq_some_iff] at hm
  obtain ⟨⟨xs, ρ1⟩, e1, e2⟩ := hm
  refine hi ρ xs ρ1 σ Hf H e1 E _ fun J Hf1 H1 B1 w => ?_
  exact loop_ok hg hb B1.en w e2 fun σ' Hf' H' B => (q σ' Hf' H' (B1.s.trans B)).back fun p hp => B1.fresh hp
theorem whileF_some {t : MT} {b : SM} {x : Fl × Env} (h : sWhile t b ρ = some x) : ∃ n, whileF t b n ρ = some x := by
  unfold sWhile at h
  split at h
  · rename_i c; exact ⟨_, h⟩
  · cases h
theorem ss_while {tt : TT} {tb : TS} {t : MT} {b : SM} (ht : ST K tt t) (hb : SS K tb b) : SS K (tWhile tt tb) (sWhile t b) := by
  intro ρ f ρ' σ Hf H hm E D q
  obtain ⟨n, hn⟩ := whileF_some hm
  refine ⟨fun m σ2 H2 => ∃ ρ2 Hf2, whileF t b m ρ2 = some (f, ρ') ∧ BhS K Hf H ρ σ Hf2 H2 ρ2 σ2, ⟨n, ρ, Hf, hn, .refl E⟩, ?_⟩
  rintro m σ2 H2 ⟨ρ2, Hf2, e, B⟩
  cases m with
  | zero => cases e
  | succ m =>
    simp only [whileF, Option.bind_eq_some_iff] at e
    obtain ⟨⟨x, ρ3⟩, e1, e2⟩ := e
    refine ht ρ2 x ρ3 σ2 Hf2 H2 e1 B.en _ fun Hf3 H3 S3 E3 k3 => ?_
    have B3 := B.trans (⟨S3, E3, k3⟩ : Bh K Hf2 H2 ρ2 σ2 Hf3 H3 ρ3).s
    cases x with
    | false =>
      simp only [Bool.false_eq_true, if_false] at e2 ⊢
      cases e2
      exact q σ2 Hf3 H3 B3
    | true =>
      simp only [if_true, Option.bind_eq_some_iff] at e2 ⊢
      obtain ⟨⟨fb, ρ4⟩, e3, e4⟩ := e2
      refine ⟨fun σ' H' => ∃ ρ5 Hf5, whileF t b m ρ5 = some (f, ρ') ∧ BhS K Hf H ρ σ Hf5 H' ρ5 σ', fun σ' H' h => ⟨m, Nat.lt_succ_self _, h⟩, ?_⟩
      refine hb ρ3 fb ρ4 σ2 Hf3 H3 e3 E3 _ fun σ4 Hf4 H4 B4 => ?_
      have B4' := B3.trans B4
      cases fb with
      | nx => exact ⟨ρ4, Hf4, e4, B4'⟩
      | ct => exact ⟨ρ4, Hf4, e4, B4'⟩
      | bk => cases e4; exact q σ4 Hf4 H4 B4'
      | rt r' => cases e4; exact (q σ4 Hf4 H4 B4').back fun p hp => B3.fresh hp
end

/-! ### the rules -/
section
variable {X : Cx} {a b c : Expr} {ma mb mc : M} {mt : MT} {m n : SM} {st : Stmt} {sts sts2 : List Stmt} {x y : Str} {p p' pos : Pos} {mi : MI} {g : MG}
theorem bss_nil : BSs X [] sNext := ⟨_, pss_nil, ss_next⟩
theorem bss_one (h : BS X st m) : BSs X [st] m := let ⟨t, h1, h2⟩ := h; ⟨_, pss_one h1, h2⟩
theorem bss_cons (h : BS X st m) (hr : BSs X sts n) : BSs X (st :: sts) (sSeq m n) := let ⟨t, h1, h2⟩ := h; let ⟨u, h3, h4⟩ := hr; ⟨_, pss_cons h1 h3, ss_seq h2 h4⟩
theorem bss_fgt (is : List Nat) (h : BSs X sts m) : BSs X sts (sFgt is m) := let ⟨t, h1, h2⟩ := h; ⟨_, h1, ss_fgt is h2⟩
theorem bs_fgt (is : List Nat) (h : BS X st m) : BS X st (sFgt is m) := let ⟨t, h1, h2⟩ := h; ⟨_, h1, ss_fgt is h2⟩
theorem bs_pass : BS X (.Pass pos) sNext := ⟨_, ps_pass, ss_next⟩
theorem bs_brk : BS X (.Break pos) sBrk := ⟨_, ps_break, ss_brk⟩
theorem bs_cont : BS X (.Continue pos) sCont := ⟨_, ps_continue, ss_cont⟩
theorem bs_if (hc : BT X c mt) (ha : BSs X sts m) (hb : BSs X sts2 n) : BS X (.If c sts sts2 pos) (sIf mt m n) := let ⟨t, h1, h2⟩ := hc; let ⟨u, h3, h4⟩ := ha; let ⟨w, h5, h6⟩ := hb; ⟨_, ps_if h1 h3 h5, ss_if h2 h4 h6⟩
theorem bs_ret (ha : BE X a ma) : BS X (.Return (some a) pos) (sRet ma) := let ⟨t, h1, h2⟩ := ha; ⟨_, ps_ret h1, ss_ret h2⟩
theorem bs_retN : BS X (.Return none pos) sRetN := ⟨_, ps_retN, ss_retN⟩
theorem bs_expr (ha : BE X a ma) (hs : swapsWith a none pos.line X.env = pure false := by rfl) : BS X (.Expr a pos) (sExpr ma) := let ⟨t, h1, h2⟩ := ha; ⟨_, ps_expr h1 hs, ss_expr h2⟩
theorem bs_set (i : Nat) (hN : X.N.Nodup) (ha : BE X a ma) (hi : X.N[i]? = some x := by rfl) (hx : Loc X.env.scope x := by first | exact Or.inl rfl | exact Or.inr rfl) (hs : swapsWith a (some (.Name x p')) pos.line X.env = pure false := by rfl)
    (hf : X.fn x = true ∨ X.env.scope.names.lookup x = some .local := by first | exact .inl rfl | exact .inr rfl | assumption) : BS X (.Assign [.Name x p'] a pos) (sAsg ma (Py.gName i)) :=
  let ⟨t, h1, h2⟩ := ha; ⟨_, ps_set hN hi hx h1 hs hf, ss_asg h2 (sg_name i)⟩
theorem bs_asg {tg : Expr} (ha : BE X a ma) (hg : BG X tg g) (hs : swapsWithSole [tg] a pos.line X.env = pure false := by rfl) (hw : swappedStores [tg] a X.env = pure none := by rfl) (h1 : (assignEach [tg] X.env).map (·.2) = [assign tg X.env] := by rfl) : BS X (.Assign [tg] a pos) (sAsg ma g) :=
  let ⟨t, a1, a2⟩ := ha; let ⟨u, g1, g2⟩ := hg; ⟨_, ps_asg a1 g1 hs hw h1, ss_asg a2 g2⟩
theorem bs_par (i j : Nat) {k k2 pt pt2} (hc : X.calm = true) (hN : X.N.Nodup) (ha : BE X a ma) (hb : BE X b mb) (hij : i ≠ j := by decide) (hi : X.N[i]? = some x := by rfl) (hj : X.N[j]? = some y := by rfl) (hx : X.env.scope.names.lookup x = some .local := by rfl) (hy : X.env.scope.names.lookup y = some .local := by rfl)
    (h1 : starEach [a, b] X.env = (false, eval a X.env) :: starEach [b] X.env := by rfl) (h2 : starEach [b] X.env = (false, eval b X.env) :: starEach [] X.env := by rfl)
    (hw : swappedStores [.Tuple [.Name x p, .Name y p'] k pt] (.Tuple [a, b] k2 pt2) X.env = pure (some [x, y]) := by rfl) (hs : swapsWithSole [.Tuple [.Name x p, .Name y p'] k pt] (.Tuple [a, b] k2 pt2) pos.line X.env = pure false := by rfl) :
    BS X (.Assign [.Tuple [.Name x p, .Name y p'] k pt] (.Tuple [a, b] k2 pt2) pos) (sPar i j ma mb) := by
  obtain ⟨t, a1, a2⟩ := ha
  obtain ⟨u, b1, b2⟩ := hb
  exact ⟨_, ps_par hc hN hi hj hij hx hy (pa_cons a1 (pa_cons b1 pa_nil h2) h1) hw hs, ss_par a2 b2⟩
theorem bs_setIx (i : Nat) {e : Expr} {me : M} (ho : PE X (.Name x p) (tVar i)) (he : BE X e me) (ha : BE X a ma) (hs : swapsWithSole [.Subscript (.Name x p) e p'] a pos.line X.env = pure false := by rfl) (hw : swappedStores [.Subscript (.Name x p) e p'] a X.env = pure none := by rfl)
    (h1 : (assignEach [.Subscript (.Name x p) e p'] X.env).map (·.2) = [assign (.Subscript (.Name x p) e p') X.env] := by rfl)
    (hq : ∀ v, assign (.Subscript (.Name x p) e p') X.env v = (do
      let ov ← holding [v] (eval (.Name x p) X.env)
      let iv ← holding [v, ov] (eval e X.env)
      standAt p'
      holding [v, ov, iv] (setItem ov iv v)
      release [v, ov, iv] []) := by intro _; rfl) : BS X (.Assign [.Subscript (.Name x p) e p'] a pos) (sSetIx i me ma) := by
  obtain ⟨t, a1, a2⟩ := ha
  obtain ⟨u, b1, b2⟩ := he
  exact ⟨_, ps_asg a1 (pg_sub ho b1 set_list hq) hs hw h1, ss_setIx a2 b2⟩
theorem bs_aug (i : Nat) {op : Operator} {f : Ct → Ct → Option R} (hN : X.N.Nodup) (ho : OpB X (inplaceOp op) f) (ha : BE X a ma) (hi : X.N[i]? = some x := by rfl) (hx : Loc X.env.scope x := by first | exact Or.inl rfl | exact Or.inr rfl)
    (hf : X.fn x = true ∨ X.env.scope.names.lookup x = some .local := by first | exact .inl rfl | exact .inr rfl | assumption) : BS X (.AugAssign (.Name x p') op a pos) (sAug i f ma) := by
  obtain ⟨r, o1, o2⟩ := ho
  obtain ⟨t, a1, a2⟩ := ha
  exact ⟨_, ps_aug hN hi hx a1 (fun pins s σ H x y v u Q I rx ry q => o1 pins s σ H x y v u Q I rx ry q) hf, ss_aug a2 o2⟩
structure BGs (X : Cx) (ts : List Expr) (is : List Nat) : Prop where
  ex : PGs X ts (tNames is)
theorem bgs_nil : BGs X [] [] := ⟨pgs_nil⟩
theorem bgs_cons (i : Nat) {ts : List Expr} {is : List Nat} (hN : X.N.Nodup) (hr : BGs X ts is) (hi : X.N[i]? = some x := by rfl) (hx : Loc X.env.scope x := by first | exact Or.inl rfl | exact Or.inr rfl) (hf : X.fn x = true ∨ X.env.scope.names.lookup x = some .local := by first | exact .inl rfl | exact .inr rfl | assumption)
    (hs : (assignEach (.Name x p :: ts) X.env).map (·.2) = assign (.Name x p) X.env :: (assignEach ts X.env).map (·.2) := by rfl) : BGs X (.Name x p :: ts) (i :: is) := ⟨pgs_cons (pg_name hN hi hx hf) hr.ex hs⟩
theorem bg_tup {ts : List Expr} {is : List Nat} {k : Nat} (hc : X.calm = true) (h : BGs X ts is) (hn : (assignEach ts X.env).length = is.length := by rfl) (hst : (assignEach ts X.env).findIdx? (·.1) = none := by rfl) : BG X (.Tuple ts k pos) (Py.gTup is) :=
  ⟨_, pg_tup hc h.ex hn hst, sg_tup rfl⟩
theorem bi_seq {tg : Expr} (ha : BE X a ma) : BI X tg a (iSeq ma) := let ⟨t, h1, h2⟩ := ha; ⟨_, pi_sq h1, si_seq h2⟩
theorem bi_rng1 {tg : Expr} (hg : Gl X "range") (hm : X.mg "range" = none) (ha : BE X a ma) (hs : starEach [a] X.env = [(false, eval a X.env)] := by rfl) (hs' : starEach [a] X.env = (false, eval a X.env) :: starEach [] X.env := by rfl) : BI X tg (.Call (.Name "range" p) [a] [] pos) (Py.iRng1 ma) :=
  let ⟨t, h1, h2⟩ := ha; ⟨_, pi_range1 hg hm (pa_cons h1 pa_nil hs') hs, si_rng1 h2⟩
theorem bi_rng2 {tg : Expr} (hg : Gl X "range") (hm : X.mg "range" = none) (ha : BE X a ma) (hb : BE X b mb) (hs : starEach [a, b] X.env = [(false, eval a X.env), (false, eval b X.env)] := by rfl) (hs2 : starEach [b] X.env = [(false, eval b X.env)] := by rfl)
    (h3 : starEach [a, b] X.env = (false, eval a X.env) :: starEach [b] X.env := by rfl) (h4 : starEach [b] X.env = (false, eval b X.env) :: starEach [] X.env := by rfl) : BI X tg (.Call (.Name "range" p) [a, b] [] pos) (Py.iRng2 ma mb) :=
  let ⟨t, h1, h2⟩ := ha; let ⟨u, h5, h6⟩ := hb; ⟨_, pi_range2 hg hm (pa_cons h1 (pa_cons h5 pa_nil h4) h3) hs hs2, si_rng2 h2 h6⟩
theorem bs_for {tg : Expr} (hp : PassesOwn (model X.prog X.w) X.A X.env X.xe) (hc : X.calm = true) (hi : BI X tg a mi) (hg : BG X tg g) (hb : BSs X sts m) (hs : ∀ x, foldedSetIterable a X.env x = pure x := by intro _; rfl) : BS X (.For tg a sts [] pos) (sFor mi g m) :=
  let ⟨t, h1, h2⟩ := hi; let ⟨u, h3, h4⟩ := hg; let ⟨w, h5, h6⟩ := hb; ⟨_, ps_for hp hc h1 h3 h5 hs, ss_for h2 h4 h6⟩
theorem bs_while (hp : PassesOwn (model X.prog X.w) X.A X.env X.xe) (hc : BT X c mt) (hb : BSs X sts m) : BS X (.While c sts [] pos) (sWhile mt m) :=
  let ⟨t, h1, h2⟩ := hc; let ⟨w, h5, h6⟩ := hb; ⟨_, ps_while hp h1 h5, ss_while h2 h6⟩
end
end Py
/-! Py6: comprehensions; defs and their calls. -/
namespace Py
open PySem PySem.Spec PyProof.Rows L2

/-- the reading that a meaning has of itself -/
def rE (K : PySem.W.Frag) (m : M) : TE := fun σ H Q => ∃ (ρ : Env) (r : R) (ρ' : Env) (Hf : Hp), m ρ = some (r, ρ') ∧ RepE K Hf H ρ σ ∧ ∀ u Hf' H', Step (Own ρ σ) Hf H Hf' H' → RepE K Hf' H' ρ' σ → RepR K Hf' H' H σ r u → Kp ρ ρ' → Q u H'
def rT (K : PySem.W.Frag) (m : MT) : TT := fun σ H Q => ∃ (ρ : Env) (b : Bool) (ρ' : Env) (Hf : Hp), m ρ = some (b, ρ') ∧ RepE K Hf H ρ σ ∧ ∀ Hf' H', Step (Own ρ σ) Hf H Hf' H' → RepE K Hf' H' ρ' σ → Kp ρ ρ' → Q b H'
theorem se_rE {K : PySem.W.Frag} {m : M} : SE K (rE K m) m := fun ρ r ρ' σ Hf H hm E Q q => ⟨ρ, r, ρ', Hf, hm, E, q⟩
theorem st_rT {K : PySem.W.Frag} {m : MT} : ST K (rT K m) m := fun ρ r ρ' σ Hf H hm E Q q => ⟨ρ, r, ρ', Hf, hm, E, q⟩
theorem BE.can {X : Cx} {e : Expr} {m : M} (h : BE X e m) : PE X e (rE X.K m) := by
  obtain ⟨te, h1, h2⟩ := h
  exact ⟨fun pins s σ H Q I ⟨ρ, r, ρ', Hf, hm, E, q⟩ => h1.run pins s σ H Q I (h2 ρ r ρ' σ Hf H hm E Q q)⟩
theorem BT.can {X : Cx} {e : Expr} {m : MT} (h : BT X e m) : PT X e (rT X.K m) := by
  obtain ⟨te, h1, h2⟩ := h
  exact ⟨fun pins s σ H Q I ⟨ρ, r, ρ', Hf, hm, E, q⟩ => h1.run pins s σ H Q I (h2 ρ r ρ' σ Hf H hm E Q q)⟩
structure BTs (X : Cx) (ifs : List Expr) (m : MT) : Prop where
  ex : ∃ tt, PTs X ifs tt ∧ ST X.K tt m
theorem bts_nil {X : Cx} : BTs X [] tYes := ⟨_, pts_nil, fun ρ r ρ' σ Hf H hm E Q q => by cases hm; exact q Hf H (.refl E.ff) E .refl⟩
theorem bts_one {X : Cx} {c : Expr} {m : MT} (h : BT X c m) : BTs X [c] m := let ⟨t, h1, h2⟩ := h; ⟨_, pts_one h1, h2⟩
theorem BTs.can {X : Cx} {e : List Expr} {m : MT} (h : BTs X e m) : PTs X e (rT X.K m) := by
  obtain ⟨te, h1, h2⟩ := h
  exact ⟨fun pins s σ H Q I ⟨ρ, r, ρ', Hf, hm, E, q⟩ => h1.run pins s σ H Q I (h2 ρ r ρ' σ Hf H hm E Q q)⟩

section
variable {K : PySem.W.Frag} {Hf H Hf' H' Hf1 H1 Hf2 H2 H0 : Hp} {ρ ρ' ρ1 ρ2 : Env} {σ σ' σ1 σ2 : L2.St} {O O' O1 : Addr → Prop} {X : Cx}
theorem get_wipe (vs : List Nat) (j : Nat) : get (Py.wipe ρ vs) j = if j ∈ vs then none else get ρ j := by
  induction vs with
  | nil => simp [Py.wipe]
  | cons v vs ih =>
    unfold Py.wipe
    rw [get_set, ih]
    by_cases h : v = j
    · subst h
      by_cases hl : v < (Py.wipe ρ vs).length
      · simp [hl]
      · rw [if_neg (fun z => hl z.2)]
        have : get ρ v = none := by
          have wl : ∀ vs : List Nat, (Py.wipe ρ vs).length = ρ.length := fun vs => by
            induction vs with
            | nil => rfl
            | cons w ws ih => unfold Py.wipe; rw [List.length_set]; exact ih
          rw [wl] at hl
          unfold get
          rw [List.getElem?_eq_none (by omega)]
          rfl
        simp [this]
    · rw [if_neg (fun z => h z.1)]
      simp only [List.mem_cons]
      by_cases hj : j ∈ vs
      · simp [hj]
      · simp [hj, Ne.symm h]
theorem wipe_len (vs : List Nat) : (Py.wipe ρ vs).length = ρ.length := by
  induction vs with
  | nil => rfl
  | cons w ws ih => unfold Py.wipe; rw [List.length_set]; exact ih
theorem slot_wipe (vs : List Nat) (j : Nat) : slot (L2.wipe σ vs) j = if j ∈ vs then none else slot σ j := by
  induction vs with
  | nil => simp [L2.wipe]
  | cons v vs ih =>
    unfold L2.wipe
    rw [slot_set, ih]
    by_cases h : v = j
    · subst h
      by_cases hl : v < (L2.wipe σ vs).length
      · simp [hl]
      · rw [if_neg (fun z => hl z.2)]
        have : slot σ v = none := by
          rw [wipe_length] at hl
          unfold slot
          rw [List.getElem?_eq_none (by omega)]
          rfl
        simp [this]
    · rw [if_neg (fun z => h z.1)]
      simp only [List.mem_cons]
      by_cases hj : j ∈ vs
      · simp [hj]
      · simp [hj, Ne.symm h]
theorem RepE.wipe (E : RepE K Hf H ρ σ) (vs : List Nat) : RepE K Hf H (Py.wipe ρ vs) (L2.wipe σ vs) := by
  have sub : ∀ j p, OwnAt (Py.wipe ρ vs) (L2.wipe σ vs) j p → OwnAt ρ σ j p := fun j p ⟨a, b⟩ => by
    rw [get_wipe] at a
    rw [slot_wipe] at b
    by_cases hj : j ∈ vs
    · rw [if_pos hj] at a; cases a
    · rw [if_neg hj] at a b; exact ⟨a, b⟩
  refine ⟨by rw [wipe_len, wipe_length]; exact E.len, E.ff, fun j s e => ?_, fun j k p a b => E.dis j k p (sub j p a) (sub k p b)⟩
  rw [get_wipe] at e
  rw [slot_wipe]
  by_cases hj : j ∈ vs
  · rw [if_pos hj] at e; cases e
  · rw [if_neg hj] at e ⊢; exact E.sl j s e
theorem wipe_get? (σ : L2.St) (vs : List Nat) (j : Nat) : (L2.wipe σ vs)[j]? = if j ∈ vs ∧ j < σ.length then some none else σ[j]? := by
  induction vs with
  | nil => simp [L2.wipe]
  | cons v vs ih =>
    unfold L2.wipe
    by_cases h : v = j
    · subst h
      by_cases hl : v < σ.length
      · rw [List.getElem?_set_self (by rw [wipe_length]; exact hl)]; simp [hl]
      · rw [List.getElem?_eq_none (by rw [List.length_set, wipe_length]; omega)]; simp [hl]
    · rw [List.getElem?_set_ne h, ih]
      simp [Ne.symm h]
/-- a target of a comprehension: it stores at the block's own names alone -/
structure TgIn (g : TG) (mg : MG) (vs : List Nat) : Prop where
  a : ∀ u σ H Q, g u σ H Q → g u σ H fun σ2 H2 => Q σ2 H2 ∧ L2.wipe σ2 vs = L2.wipe σ vs
  b : ∀ v ρ ρ', mg (.val v) ρ = some ρ' → ∀ j, j ∉ vs → get ρ' j = get ρ j
  c : ∀ u σ H (Q Q' : L2.St → Hp → Prop), (∀ σ2 H2, Q σ2 H2 → Q' σ2 H2) → g u σ H Q → g u σ H Q'
theorem wipe_set {vs : List Nat} {i : Nat} (h : i ∈ vs) (x : Option V) : L2.wipe (σ.set i x) vs = L2.wipe σ vs := by
  apply List.ext_getElem?
  intro j
  rw [wipe_get?, wipe_get?, List.length_set]
  by_cases hj : j ∈ vs ∧ j < σ.length
  · rw [if_pos hj, if_pos hj]
  · rw [if_neg hj, if_neg hj]
    by_cases e : i = j
    · subst e
      have : ¬ i < σ.length := fun z => hj ⟨h, z⟩
      rw [List.getElem?_eq_none (by rw [List.length_set]; omega), List.getElem?_eq_none (by omega)]
    · rw [List.getElem?_set_ne e]
theorem tgIn_name {i : Nat} {vs : List Nat} (h : i ∈ vs) : TgIn (L2.gName i) (Py.gName i) vs := ⟨fun u σ H Q q => ⟨q, wipe_set h _⟩, fun v ρ ρ' hm j hj => by
  have hm' : put i (some (.val v)) ρ = some ρ' := hm
  unfold put at hm'
  split at hm'
  · cases hm'
  · cases hm'
    rw [get_set, if_neg]
    rintro ⟨rfl, _⟩
    exact hj h, fun u σ H Q Q' h q => h _ _ q⟩
theorem tgIn_tup {is vs : List Nat} {n : Nat} (h : ∀ i ∈ is, i ∈ vs) : TgIn (L2.gTup K n (tNames is)) (Py.gTup is) vs := by
  have key : ∀ (is : List Nat), (∀ i ∈ is, i ∈ vs) → ∀ us σ H Q, tNames is us σ H Q → tNames is us σ H fun σ2 H2 => Q σ2 H2 ∧ L2.wipe σ2 vs = L2.wipe σ vs := by
    intro is
    induction is with
    | nil => intro _ us σ H Q q; exact ⟨q.1, q.2, rfl⟩
    | cons i is ih =>
      intro h us σ H Q q
      obtain ⟨v, r, e, q⟩ := q
      refine ⟨v, r, e, ?_⟩
      have q' := ih (fun j hj => h j (List.mem_cons_of_mem _ hj)) r (σ.set i (some v)) H Q q
      have e2 : L2.wipe (σ.set i (some v)) vs = L2.wipe σ vs := wipe_set (h i List.mem_cons_self) _
      rw [e2] at q'
      exact q'
  have key2 : ∀ (is : List Nat), (∀ i ∈ is, i ∈ vs) → ∀ xs ρ ρ', gNames is xs ρ = some ρ' → ∀ j, j ∉ vs → get ρ' j = get ρ j := by
    intro is
    induction is with
    | nil => intro _ xs ρ ρ' hm j hj; cases xs with
      | nil => cases hm; rfl
      | cons x xs => cases hm
    | cons i is ih => intro h xs ρ ρ' hm j hj; cases xs with
      | nil => cases hm
      | cons x xs =>
        simp only [gNames, Option.bind_eq_some_iff] at hm
        obtain ⟨ρ1, e1, e2⟩ := hm
        rw [ih (fun j hj => h j (List.mem_cons_of_mem _ hj)) xs ρ1 ρ' e2 j hj]
        exact (tgIn_name (h i List.mem_cons_self)).b x ρ ρ1 e1 j hj
  have key3 : ∀ (is : List Nat) us σ H (Q Q' : L2.St → Hp → Prop), (∀ σ2 H2, Q σ2 H2 → Q' σ2 H2) → tNames is us σ H Q → tNames is us σ H Q' := by
    intro is
    induction is with
    | nil => intro us σ H Q Q' h q; exact ⟨q.1, h _ _ q.2⟩
    | cons i is ih =>
      intro us σ H Q Q' h q
      obtain ⟨v, r, e, q⟩ := q
      exact ⟨v, r, e, ih r _ H Q Q' h q⟩
  refine ⟨fun u σ H Q ⟨a, xs, e, hs, hl, q⟩ => ⟨a, xs, e, hs, hl, key is h xs σ H Q q⟩, fun v ρ ρ' hm j hj => ?_, fun u σ H Q Q' h' ⟨a, xs, e, hs, hl, q⟩ => ⟨a, xs, e, hs, hl, key3 is xs σ H Q Q' h' q⟩⟩
  unfold Py.gTup at hm
  split at hm
  · exact key2 is h _ ρ ρ' hm j hj
  · cases hm
/-- one object, which is nobody's, is laid or changed -/
theorem Step.at {D : Addr} {o : HO} (e : Ex Hf H) (f : Hf D = none) : Step (fun a => a = D) Hf H Hf (upd H D o) := by
  refine ⟨fun _ _ h => h, fun a u h => by rw [upd_ne (ne_of_none h f)]; exact e a u h, fun a u h n => by rw [upd_ne n]; exact h, fun _ _ _ _ => rfl, fun a u h => ?_⟩
  by_cases z : a = D
  · subst z; exact ⟨_, upd_same⟩
  · exact ⟨u, by rw [upd_ne z]; exact h⟩
/-- what a comprehension's turns leave of the names -/
def Nm (vs : List Nat) (ρ1 ρ2 : Env) : Prop := ρ2.length = ρ1.length ∧ ∀ j, j ∉ vs → (isOb (get ρ2 j) = true → isOb (get ρ1 j) = true) ∧ isRef (get ρ2 j) = isRef (get ρ1 j)
theorem own_wipe {vs : List Nat} (n : Nm vs ρ1 ρ2) {p : Addr} (h : Own (Py.wipe ρ2 vs) (L2.wipe σ vs) p) : Own (Py.wipe ρ1 vs) (L2.wipe σ vs) p := by
  obtain ⟨j, a, b⟩ := h
  refine ⟨j, ?_, b⟩
  rw [get_wipe] at a ⊢
  by_cases hj : j ∈ vs
  · rw [if_pos hj] at a; cases a
  · rw [if_neg hj] at a ⊢; exact (n.2 j hj).1 a
structure LcS (K : PySem.W.Frag) (Hf1 H1 : Hp) (ρ1 : Env) (σ : L2.St) (vs : List Nat) (D : Addr) (n : Nat) (done : List PV) (ρ2 : Env) (Hf2 H2 : Hp) : Prop where
  acc : ∃ us, H2 D = some (.lst us) ∧ DpAll K Hf2 us done
  few : done.length ≤ n
  fd : Hf2 D = none
  st : Step (Own (Py.wipe ρ1 vs) (L2.wipe σ vs)) Hf1 H1 Hf2 H2
  en : RepE K Hf2 H2 (Py.wipe ρ2 vs) (L2.wipe σ vs)
  nm : Nm vs ρ1 ρ2
theorem get_back (vs : List Nat) (j : Nat) (ρ0 : Env) : get (back ρ0 vs ρ) j = if j ∈ vs ∧ j < ρ.length then get ρ0 j else get ρ j := by
  have bl : ∀ vs : List Nat, (back ρ0 vs ρ).length = ρ.length := fun vs => by
    induction vs with
    | nil => rfl
    | cons v vs ih => unfold back; rw [List.length_set]; exact ih
  induction vs with
  | nil => simp [back]
  | cons v vs ih =>
    unfold back
    rw [get_set, ih, bl]
    by_cases h : v = j
    · subst h
      by_cases hl : v < ρ.length
      · simp [hl]
      · simp [hl]
    · rw [if_neg (fun z => h z.1)]
      simp only [List.mem_cons, Ne.symm h, false_or]
theorem back_len (vs : List Nat) (ρ0 : Env) : (back ρ0 vs ρ).length = ρ.length := by
  induction vs with
  | nil => rfl
  | cons v vs ih => unfold back; rw [List.length_set]; exact ih
/-- behind the comprehension -/
theorem lc_end {vs : List Nat} {D : Addr} {n : Nat} {done : List PV} (E1 : RepE K Hf1 H1 ρ1 σ) (hD : H1 D = none) (L : LcS K Hf1 H1 ρ1 σ vs D n done ρ2 Hf2 H2) :
    Bh K Hf1 H1 ρ1 σ Hf2 H2 (back ρ1 vs ρ2) ∧ RepR K Hf2 H2 H1 σ (.new (.lst done)) (.ref D) := by
  obtain ⟨us, h1, h2⟩ := L.acc
  have wsub : ∀ p, Own (Py.wipe ρ1 vs) (L2.wipe σ vs) p → ∃ j, j ∉ vs ∧ OwnAt ρ1 σ j p := fun p ⟨j, a, b⟩ => by
    rw [get_wipe] at a
    rw [slot_wipe] at b
    by_cases hj : j ∈ vs
    · rw [if_pos hj] at a; cases a
    · rw [if_neg hj] at a b; exact ⟨j, hj, a, b⟩
  have gb : ∀ j, get (back ρ1 vs ρ2) j = if j ∈ vs then get ρ1 j else get ρ2 j := fun j => by
    rw [get_back]
    by_cases hj : j ∈ vs
    · by_cases hl : j < ρ2.length
      · rw [if_pos ⟨hj, hl⟩, if_pos hj]
      · rw [if_neg (fun z => hl z.2), if_pos hj]
        have l1 : ¬ j < ρ1.length := by rw [← L.nm.1]; exact hl
        unfold get
        rw [List.getElem?_eq_none (by omega), List.getElem?_eq_none (by omega)]
    · rw [if_neg (fun z => hj z.1), if_neg hj]
  have ob : ∀ j, isOb (get (back ρ1 vs ρ2) j) = true → isOb (get ρ1 j) = true := fun j h => by
    rw [gb] at h
    by_cases hj : j ∈ vs
    · rw [if_pos hj] at h; exact h
    · rw [if_neg hj] at h; exact (L.nm.2 j hj).1 h
  refine ⟨⟨L.st.weak fun p hp => .inl (let ⟨j, _, h⟩ := wsub p hp; ⟨j, h⟩), ⟨?_, L.en.ff, fun j s e => ?_, fun j k p a b => E1.dis j k p ⟨ob j a.1, a.2⟩ ⟨ob k b.1, b.2⟩⟩, ⟨ob, fun j => ?_⟩⟩, ⟨D, rfl, hD, L.fd, us, h1, h2⟩⟩
  · rw [back_len, L.nm.1]; exact E1.len
  · rw [gb] at e
    by_cases hj : j ∈ vs
    · rw [if_pos hj] at e
      obtain ⟨u, a, b⟩ := E1.sl j s e
      refine ⟨u, a, b.step L.st fun p ho hu hp => ?_⟩
      obtain ⟨k, hk, ok⟩ := wsub p hp
      have : j = k := E1.dis j k p ⟨by rw [e]; exact ho, by rw [a, hu]⟩ ok
      exact hk (this ▸ hj)
    · rw [if_neg hj] at e
      have e' : get (Py.wipe ρ2 vs) j = some s := by rw [get_wipe, if_neg hj]; exact e
      obtain ⟨u, a, b⟩ := L.en.sl j s e'
      rw [slot_wipe, if_neg hj] at a
      exact ⟨u, a, b⟩
  · rw [gb]
    by_cases hj : j ∈ vs
    · rw [if_pos hj]
    · rw [if_neg hj]; exact (L.nm.2 j hj).2
theorem lc_turn {g : TG} {mg : MG} {tt : TT} {te : TE} {t : MT} {e : M} {vs : List Nat} {D : Addr} {n : Nat} {done ys : List PV} {x : PV} {u : V} {ρ3 : Env} (hg : SG K g mg) (hv : TgIn g mg vs) (ht : ST K tt t) (he : SE K te e) (hD : H1 D = none) (E1 : RepE K Hf1 H1 ρ1 σ)
    (hz : n < line) (L : LcS K Hf1 H1 ρ1 σ vs D n done ρ2 Hf2 H2) (hx : Dp K Hf2 u x) (hm : lcTurn mg vs t e x ρ2 = some (ys, ρ3)) {Nx : Hp → Prop} (hN : ∀ Hf3 H3, LcS K Hf1 H1 ρ1 σ vs D (n + 1) (done ++ ys) ρ3 Hf3 H3 → Nx H3) :
    g u (L2.wipe σ vs) H2 fun σ2 H3 => L2.wipe σ2 vs = L2.wipe σ vs ∧ tt σ2 H3 fun b H4 =>
      if b = true then te σ2 H4 fun y H5 => ∃ acc, H5 D = some (.lst acc) ∧ acc.length < sizeLine ∧ Nx (upd H5 D (.lst (acc ++ [y]))) else Nx H4 := by
  simp only [lcTurn, Option.bind_eq_some_iff] at hm
  obtain ⟨ρ4, e1, ⟨b, ρ5⟩, e2, e3⟩ := hm
  have ww : L2.wipe (L2.wipe σ vs) vs = L2.wipe σ vs := by
    apply List.ext_getElem?
    intro j
    rw [wipe_get?, wipe_length, wipe_get?]
    by_cases hj : j ∈ vs ∧ j < σ.length <;> simp [hj]
  have kn : ∀ q, Own (Py.wipe ρ2 vs) (L2.wipe σ vs) q → H2 q ≠ none := fun q hq z => by
    obtain ⟨⟨o, ho⟩, _⟩ := L.en.there hq
    rw [z] at ho; cases ho
  have g1 : g u (L2.wipe σ vs) H2 fun σ4 H3 => H3 = H2 ∧ ∃ Hf4, BhG K Hf2 H2 H2 (Py.wipe ρ2 vs) (L2.wipe σ vs) Hf4 ρ4 σ4 := hg (.val x) (Py.wipe ρ2 vs) ρ4 (L2.wipe σ vs) Hf2 H2 H2 u e1 L.en hx kn _ fun σ4 Hf4 B4 => ⟨rfl, Hf4, B4⟩
  refine hv.c u _ _ _ _ ?_ (hv.a u _ _ _ g1)
  rintro σ4 H3 ⟨⟨rfl, Hf4, B4⟩, w4⟩
  rw [ww] at w4
  refine ⟨w4, ?_⟩
  obtain ⟨us, hus, dus⟩ := L.acc
  -- the new list is none of the names' objects
  have own4 : ∀ p, Own ρ4 σ4 p → Own (Py.wipe ρ1 vs) (L2.wipe σ vs) p ∨ H1 p = none ∧ H3 p = none := fun p hp => by
    rcases B4.own p hp with z | z
    · exact .inl (own_wipe L.nm z)
    · exact .inr ⟨L.st.fresh z, z⟩
  have nD1 : ¬ Own (Py.wipe ρ1 vs) (L2.wipe σ vs) D := fun ⟨j, a, b⟩ => by
    rw [get_wipe] at a
    rw [slot_wipe] at b
    by_cases hj : j ∈ vs
    · rw [if_pos hj] at a; cases a
    · rw [if_neg hj] at a b
      obtain ⟨⟨o, ho⟩, _⟩ := E1.there ⟨j, a, b⟩
      rw [hD] at ho; cases ho
  have nD4 : ¬ Own ρ4 σ4 D := fun h => by
    rcases own4 D h with z | ⟨_, z⟩
    · exact nD1 z
    · rw [hus] at z; cases z
  have nm4 : ∀ j, j ∉ vs → get ρ4 j = get ρ2 j := fun j hj => by rw [hv.b x _ _ e1 j hj, get_wipe, if_neg hj]
  have len4 : ρ4.length = ρ1.length := by
    rw [B4.en.len, ← wipe_length σ4 vs, w4, wipe_length, ← E1.len]
  have st4 : Step (Own (Py.wipe ρ1 vs) (L2.wipe σ vs)) Hf1 H1 Hf4 H3 := L.st.trans B4.st fun p hp => by
    rcases hp with z | z
    · exact .inl (own_wipe L.nm z)
    · exact .inr (L.st.fresh z)
  have fd4 : Hf4 D = none := by rw [B4.st.nof D _ hus (fun z => by rcases z with z | z; exact nD1 (own_wipe L.nm z); rw [hus] at z; cases z)]; exact L.fd
  -- behind what was evaluated in the block
  have fin : ∀ {Hf5 H5 : Hp} {ρ5 : Env}, Bh K Hf4 H3 ρ4 σ4 Hf5 H5 ρ5 → Step (Own (Py.wipe ρ1 vs) (L2.wipe σ vs)) Hf1 H1 Hf5 H5 ∧ RepE K Hf5 H5 (Py.wipe ρ5 vs) (L2.wipe σ vs) ∧ Nm vs ρ1 ρ5 ∧ H5 D = some (.lst us) ∧ Hf5 D = none ∧ DpAll K Hf5 us done := fun {Hf5 H5 ρ5} B => by
    refine ⟨st4.trans B.st fun p hp => (own4 p hp).imp id (·.1), ?_, ⟨?_, fun j hj => ⟨fun h => ?_, ?_⟩⟩, B.st.keep D _ hus nD4, ?_, dps_mono B.st.ff _ _ (dps_mono B4.st.ff _ _ dus)⟩
    · have := B.en.wipe vs
      rw [w4] at this
      exact this
    · rw [B.en.len, ← B4.en.len]; exact len4
    · have h4 := B.kp.own j h
      rw [nm4 j hj] at h4
      exact (L.nm.2 j hj).1 h4
    · rw [B.kp.ref j, nm4 j hj]; exact (L.nm.2 j hj).2
    · rw [B.st.nof D _ hus nD4]; exact fd4
  refine ht ρ4 b ρ5 σ4 Hf4 H3 e2 B4.en _ fun Hf5 H5 S5 E5 k5 => ?_
  have B5 : Bh K Hf4 H3 ρ4 σ4 Hf5 H5 ρ5 := ⟨S5, E5, k5⟩
  cases b with
  | false =>
    simp only [Bool.false_eq_true, if_false] at e3 ⊢
    cases e3
    obtain ⟨f1, f2, f3, f4, f5, f6⟩ := fin B5
    rw [List.append_nil] at hN
    exact hN Hf5 H5 ⟨⟨us, f4, f6⟩, Nat.le_succ_of_le L.few, f5, f1, f2, f3⟩
  | true =>
    simp only [if_true, Option.bind_eq_some_iff, Option.map_eq_some_iff, Prod.mk.injEq] at e3 ⊢
    obtain ⟨⟨r, ρ6⟩, e4, ⟨v, ρ7⟩, e5, rfl, rfl⟩ := e3
    refine he ρ5 r ρ6 σ4 Hf5 H5 e4 E5 _ fun y Hf6 H6 S6 E6 R6 k6 => ?_
    have B6 : Bh K Hf5 H5 ρ5 σ4 Hf6 H6 ρ6 := ⟨S6, E6, k6⟩
    obtain ⟨Hf7, B7, d7⟩ := B6.frz E5 R6 e5
    obtain ⟨f1, f2, f3, f4, f5, f6⟩ := fin (B5.trans B7)
    have lu : us.length = done.length := dps_len f6
    have st := Step.at (o := .lst (us ++ [y])) f2.ff f5
    refine ⟨us, f4, by rw [← line_eq, lu]; exact Nat.lt_of_le_of_lt L.few hz, hN Hf7 _ ⟨⟨us ++ [y], upd_same, dps_app f6 (.cons d7 .nil)⟩, by rw [List.length_append]; exact Nat.succ_le_succ L.few, f5, f1.trans st fun p hp => .inr (by rw [hp]; exact hD), f2.step st fun p hp z => ?_, f3⟩⟩
    rw [z] at hp
    exact nD1 (own_wipe f3 hp)
theorem lcF_some {f : PV → Env → Option (List PV × Env)} {x : PV} {xs : List PV} {z : List PV × Env} (h : lcF f (x :: xs) ρ = some z) : ∃ ys ρ2 zs, f x ρ = some (ys, ρ2) ∧ lcF f xs ρ2 = some (zs, z.2) ∧ z.1 = ys ++ zs := by
  simp only [lcF, Option.bind_eq_some_iff, Option.map_eq_some_iff] at h
  obtain ⟨⟨ys, ρ2⟩, e1, ⟨zs, ρ3⟩, e2, rfl⟩ := h
  exact ⟨ys, ρ2, zs, e1, e2, rfl⟩
theorem se_lc {wi : TI} {g : TG} {tt : TT} {te : TE} {it : MI} {mg : MG} {t : MT} {e : M} (vs : List Nat) (hi : SI K wi it) (hg : SG K g mg) (hv : TgIn g mg vs) (ht : ST K tt t) (he : SE K te e) : SE K (tLc wi g tt te vs) (mLc it mg vs t e) := by
  intro ρ r ρ' σ Hf H hm E Q q
  simp only [mLc, Option.bind_eq_some_iff] at hm
  obtain ⟨⟨xs, ρ1⟩, e1, e2⟩ := hm
  split at e2
  · rename_i hz
    simp only [Option.map_eq_some_iff, Prod.mk.injEq] at e2
    obtain ⟨⟨total, ρe⟩, e3, rfl, rfl⟩ := e2
    refine hi ρ xs ρ1 σ Hf H e1 E _ fun J Hf1 H1 B1 w => ?_
    intro D hD
    have fD : Hf1 D = none := by
      cases z : Hf1 D with
      | none => rfl
      | some o => have := B1.en.ff D o z; rw [hD] at this; cases this
    have st0 := Step.at (o := .lst []) B1.en.ff fD
    have wsub : ∀ p, Own (Py.wipe ρ1 vs) (L2.wipe σ vs) p → Own ρ1 σ p := fun p ⟨j, a, b⟩ => by
      rw [get_wipe] at a
      rw [slot_wipe] at b
      by_cases hj : j ∈ vs
      · rw [if_pos hj] at a; cases a
      · rw [if_neg hj] at a b; exact ⟨j, a, b⟩
    refine ⟨fun i m H2 => m = xs.length - i ∧ i ≤ xs.length ∧ ∃ ρ2 Hf2 done rest, lcF (lcTurn mg vs t e) (xs.drop i) ρ2 = some (rest, ρe) ∧ total = done ++ rest ∧ LcS K Hf1 H1 ρ1 σ vs D i done ρ2 Hf2 H2,
      ⟨_, rfl, Nat.zero_le _, ρ1, Hf1, [], total, e3, rfl, ⟨⟨[], upd_same, .nil⟩, Nat.le_refl _, fD, st0.weak fun p hp => .inr (by rw [hp]; exact hD), ?_, rfl, fun j _ => ⟨id, rfl⟩⟩⟩, ?_⟩
    · refine (B1.en.wipe vs).step st0 fun p hp z => ?_
      obtain ⟨⟨o, ho⟩, _⟩ := B1.en.there (wsub p hp)
      rw [z, hD] at ho; cases ho
    · rintro i m H2 ⟨rfl, hi', ρ2, Hf2, done, rest, h1, rfl, L⟩
      obtain ⟨w1, w2⟩ := w Hf2 H2 (L.st.weak fun p hp => .inl (wsub p hp)) i
      cases hd : xs.drop i with
      | nil =>
        rw [hd] at h1
        cases h1
        have hle : xs.length ≤ i := by
          have := congrArg List.length hd
          rw [List.length_drop, List.length_nil] at this
          omega
        refine .inl ⟨w2 hle, ?_⟩
        obtain ⟨Be, Re⟩ := lc_end B1.en hD L
        rw [List.append_nil] at q
        have B := B1.trans Be
        exact q _ Hf2 H2 B.st B.en (Re.back fun p hp => B1.fresh hp) B.kp
      | cons x xr =>
        rw [hd] at h1
        obtain ⟨hx, hr⟩ := drop_get hd
        have hlt : i < xs.length := (List.getElem?_eq_some_iff.mp hx).1
        obtain ⟨go, yl⟩ := w1 x hx
        obtain ⟨ys, ρ3, zs, t1, t2, t3⟩ := lcF_some h1
        have t3' : rest = ys ++ zs := t3
        subst t3'
        refine .inr ⟨go, fun H' => ∃ Hf3, LcS K Hf1 H1 ρ1 σ vs D (i + 1) (done ++ ys) ρ3 Hf3 H', fun H' ⟨Hf3, L3⟩ => ⟨_, by omega, rfl, hlt, ρ3, Hf3, done ++ ys, zs, by rw [hr]; exact t2, by rw [List.append_assoc], L3⟩, fun u H3 hy => ?_⟩
        obtain ⟨rfl, du⟩ := yl u H3 hy
        exact lc_turn hg hv ht he hD B1.en (Nat.lt_of_lt_of_le hlt hz) L du t1 fun Hf3 H4 L3 => ⟨Hf3, L3⟩
  · cases e2
end
section
variable {X : Cx} {elt tg iter : Expr} {ifs : List Expr} {scope : Scope} {pos : Pos} {mi : MI} {mt : MT} {me : M} {x y : Str} {p : Pos}
/-- [elt for x in iter if ..] -/
theorem be_lcN (i : Nat) (own : List (Str × Nat)) (hc : X.calm = true) (hN : X.N.Nodup) (hi : BI X (.Name x p) iter mi) (ok : blkC X.N X.env.scope scope own = true) (hm : i ∈ own.map (·.2)) (hx : X.N[i]? = some x)
    (hg : ∀ (s : Shared) (H : Hp) (C : Addr) (cl : List (Str × Addr)) (fp : List Addr), PG (X.blk s H scope (compEnvC scope cl C X.env) fp) (.Name x p) (L2.gName i))
    (ht : ∀ (s : Shared) (H : Hp) (C : Addr) (cl : List (Str × Addr)) (fp : List Addr), BTs (X.blk s H scope (compEnvC scope cl C X.env) fp) ifs mt)
    (he : ∀ (s : Shared) (H : Hp) (C : Addr) (cl : List (Str × Addr)) (fp : List Addr), BE (X.blk s H scope (compEnvC scope cl C X.env) fp) elt me) (hs : ∀ x, foldedSetIterable iter X.env x = pure x := by intro _; rfl) :
    BE X (.ListComp elt [⟨.Name x p, iter, ifs, 0⟩] scope pos) (mLc mi (Py.gName i) (own.map (·.2)) mt me) := by
  obtain ⟨wi, h1, h2⟩ := hi
  exact ⟨_, pe_lc hc hN h1 (blkOk_by ok) hg (fun s H C cl fp => (ht s H C cl fp).can) (fun s H C cl fp => (he s H C cl fp).can) hs, se_lc _ h2 (sg_name i) (tgIn_name hm) st_rT se_rE⟩
theorem bs_setLcN (j : Nat) (i : Nat) (own : List (Str × Nat)) {py spos : Pos} (hc : X.calm = true) (hN : X.N.Nodup) (hj : X.N[j]? = some y) (hyl : X.env.scope.names.lookup y = some .local) (hi : BI X (.Name x p) iter mi) (ok : blkC X.N X.env.scope scope own = true) (hm : i ∈ own.map (·.2)) (hx : X.N[i]? = some x)
    (hsw : swapsWith (.ListComp elt [⟨.Name x p, iter, ifs, 0⟩] scope pos) (some (.Name y py)) spos.line X.env = pure true)
    (hg : ∀ (s : Shared) (H : Hp) (C : Addr) (cl : List (Str × Addr)) (fp : List Addr), PG (X.blk s H scope (compEnvC scope cl C X.env) fp) (.Name x p) (L2.gName i))
    (ht : ∀ (s : Shared) (H : Hp) (C : Addr) (cl : List (Str × Addr)) (fp : List Addr), BTs (X.blk s H scope (compEnvC scope cl C X.env) fp) ifs mt)
    (he : ∀ (s : Shared) (H : Hp) (C : Addr) (cl : List (Str × Addr)) (fp : List Addr), BE (X.blk s H scope (compEnvC scope cl C X.env) fp) elt me) (hs : ∀ x, foldedSetIterable iter X.env x = pure x := by intro _; rfl) :
    BS X (.Assign [.Name y py] (.ListComp elt [⟨.Name x p, iter, ifs, 0⟩] scope pos) spos) (sAsg (mLc mi (Py.gName i) (own.map (·.2)) mt me) (Py.gName j)) := by
  obtain ⟨wi, h1, h2⟩ := hi
  exact ⟨_, ps_setLc hc hN hj hyl hsw h1 (blkOk_by ok) hg (fun s H C cl fp => (ht s H C cl fp).can) (fun s H C cl fp => (he s H C cl fp).can) hs, ss_asg (se_lc _ h2 (sg_name i) (tgIn_name hm) st_rT se_rE) (sg_name j)⟩
theorem be_lcT (is : List Nat) (own : List (Str × Nat)) {ts : List Expr} {k : Nat} (hc : X.calm = true) (hN : X.N.Nodup) (hi : BI X (.Tuple ts k p) iter mi) (ok : blkC X.N X.env.scope scope own = true) (hm : ∀ i ∈ is, i ∈ own.map (·.2))
    (hg : ∀ (s : Shared) (H : Hp) (C : Addr) (cl : List (Str × Addr)) (fp : List Addr), PG (X.blk s H scope (compEnvC scope cl C X.env) fp) (.Tuple ts k p) (L2.gTup X.K is.length (tNames is)))
    (ht : ∀ (s : Shared) (H : Hp) (C : Addr) (cl : List (Str × Addr)) (fp : List Addr), BTs (X.blk s H scope (compEnvC scope cl C X.env) fp) ifs mt)
    (he : ∀ (s : Shared) (H : Hp) (C : Addr) (cl : List (Str × Addr)) (fp : List Addr), BE (X.blk s H scope (compEnvC scope cl C X.env) fp) elt me) (hs : ∀ x, foldedSetIterable iter X.env x = pure x := by intro _; rfl) :
    BE X (.ListComp elt [⟨.Tuple ts k p, iter, ifs, 0⟩] scope pos) (mLc mi (Py.gTup is) (own.map (·.2)) mt me) := by
  obtain ⟨wi, h1, h2⟩ := hi
  exact ⟨_, pe_lc hc hN h1 (blkOk_by ok) hg (fun s H C cl fp => (ht s H C cl fp).can) (fun s H C cl fp => (he s H C cl fp).can) hs, se_lc _ h2 (sg_tup rfl) (tgIn_tup hm) st_rT se_rE⟩
end
end Py
/-! Py7: defs and their calls. -/
namespace Py
open PySem PySem.Spec PyProof.Rows L2

/-- the objects handed on, behind the call -/
def OutsOk (K : PySem.W.Frag) (Hf H : Hp) : List Sl → List V → List Ob → Prop
  | [], [], [] => True
  | .ref _ :: as, v :: vs, o :: os => (∃ p, v = .ref p ∧ Hf p = none ∧ RepOb K Hf H p o) ∧ OutsOk K Hf H as vs os
  | .val _ :: as, _ :: vs, os => OutsOk K Hf H as vs os
  | _, _, _ => False
def notOwn : Sl → Bool
  | .own _ => false
  | _ => true
/-- what a def of this meaning promises -/
def spOf (K : PySem.W.Frag) (n : Nat) (d : Den) : Sp := fun vs H Q _ => vs.length = n ∧ ∃ (Hf : Hp) (as : List Sl) (r : R) (os : List Ob), d as = some (r, os) ∧ as.all notOwn = true ∧ RepE K Hf H (as.map some) (vs.map some) ∧
  ∀ u Hf' H', Step (Own (as.map some) (vs.map some)) Hf H Hf' H' → RepR K Hf' H' H [] r u → OutsOk K Hf' H' as vs os → Q u H'
theorem get_map (as : List Sl) (i : Nat) : get (as.map some) i = as[i]? := by
  unfold get
  rw [List.getElem?_map]
  cases as[i]? <;> rfl
theorem slot_map (vs : List V) (i : Nat) : slot (vs.map some) i = vs[i]? := by
  unfold slot
  rw [List.getElem?_map]
  cases vs[i]? <;> rfl
section
variable {K : PySem.W.Frag} {Hf H Hf' H' Hf1 H1 Hf2 H2 H0 : Hp} {ρ ρ' ρ1 ρ2 : Env} {σ σ' σ1 σ2 : L2.St} {O O' O1 : Addr → Prop} {X : Cx}
theorem get_start (n : Nat) (as : List Sl) (i : Nat) : get (startE n as) i = as[i]? := by
  unfold startE get
  by_cases h : i < as.length
  · rw [List.getElem?_append_left (by simpa using h), List.getElem?_map]
    cases as[i]? <;> rfl
  · rw [List.getElem?_append_right (by simpa using h), List.getElem?_eq_none (l := as) (by omega)]
    by_cases h2 : i - (as.map some).length < n - as.length
    · rw [List.getElem?_replicate, if_pos h2]; rfl
    · rw [List.getElem?_replicate, if_neg h2]; rfl
theorem slot_start (N : List Str) (vs : List V) (i : Nat) : slot (L2.start N vs) i = vs[i]? := by
  unfold L2.start slot
  by_cases h : i < vs.length
  · rw [List.getElem?_append_left (by simpa using h), List.getElem?_map]
    cases vs[i]? <;> rfl
  · rw [List.getElem?_append_right (by simpa using h), List.getElem?_eq_none (l := vs) (by omega)]
    by_cases h2 : i - (vs.map some).length < N.length - vs.length
    · rw [List.getElem?_replicate, if_pos h2]; rfl
    · rw [List.getElem?_replicate, if_neg h2]; rfl
theorem start_len {as : List Sl} {vs : List V} (N : List Str) (h : as.length = vs.length) : (startE N.length as).length = (L2.start N vs).length := by
  unfold startE L2.start
  simp [h]
theorem rep_start {as : List Sl} {vs : List V} (N : List Str) (E : RepE K Hf H (as.map some) (vs.map some)) : RepE K Hf H (startE N.length as) (L2.start N vs) ∧ ∀ i p, OwnAt (startE N.length as) (L2.start N vs) i p ↔ OwnAt (as.map some) (vs.map some) i p := by
  have hl : as.length = vs.length := by simpa using E.len
  have eq : ∀ i p, OwnAt (startE N.length as) (L2.start N vs) i p ↔ OwnAt (as.map some) (vs.map some) i p := fun i p => by
    unfold OwnAt
    rw [get_start, slot_start, get_map, slot_map]
  refine ⟨⟨start_len N hl, E.ff, fun i s e => ?_, fun i j p a b => E.dis i j p ((eq i p).mp a) ((eq j p).mp b)⟩, eq⟩
  rw [get_start, ← get_map] at e
  rw [slot_start, ← slot_map]
  exact E.sl i s e
theorem outs_ok : ∀ (as : List Sl) (vs : List V) (os : List Ob) (ρ' : Env) (σ' : L2.St), as.all notOwn = true → as.length = vs.length → outs as ρ' = some os → (∀ i s, get ρ' i = some s → ∃ u, slot σ' i = some u ∧ RepSl K Hf' H' s u) →
    (∀ i o, as[i]? = some (.ref o) → slot σ' i = vs[i]?) → OutsOk K Hf' H' as vs os
  | [], [], os, ρ', σ', _, _, h, _, _ => by cases h; trivial
  | [], _ :: _, _, _, _, _, hl, _, _, _ => by cases hl
  | _ :: _, [], _, _, _, _, hl, _, _, _ => by cases hl
  | .own o :: as, v :: vs, os, ρ', σ', ho, _, _, _, _ => by simp [notOwn] at ho
  | .val x :: as, v :: vs, os, ρ', σ', ho, hl, h, E, hs => by
    cases ρ' with
    | nil => cases h
    | cons s ρ' =>
      have h' : outs as ρ' = some os := h
      have e1 : ∀ i, get ρ' i = get (s :: ρ') (i + 1) := fun i => rfl
      have e2 : ∀ i, slot σ'.tail i = slot σ' (i + 1) := fun i => by cases σ' <;> simp [slot]
      refine outs_ok as vs os ρ' σ'.tail (by simpa [notOwn] using ho) (by simpa using hl) h' (fun i t e => ?_) fun i o e => ?_
      · rw [e1] at e
        rw [e2]
        exact E _ t e
      · rw [e2, hs (i + 1) o e]; rfl
  | .ref x :: as, v :: vs, os, ρ', σ', ho, hl, h, E, hs => by
    cases ρ' with
    | nil => cases h
    | cons s ρ' =>
      cases s with
      | none => cases h
      | some s =>
        cases s with
        | val w => cases h
        | own w => cases h
        | lck w => cases h
        | ref w =>
          have h' : (outs as ρ').map (w :: ·) = some os := h
          rw [Option.map_eq_some_iff] at h'
          obtain ⟨os', h1, rfl⟩ := h'
          have e1 : ∀ i, get ρ' i = get (some (.ref w) :: ρ') (i + 1) := fun i => rfl
          have e2 : ∀ i, slot σ'.tail i = slot σ' (i + 1) := fun i => by cases σ' <;> simp [slot]
          refine ⟨?_, outs_ok as vs os' ρ' σ'.tail (by simpa [notOwn] using ho) (by simpa using hl) h1 (fun i t e => ?_) fun i o e => ?_⟩
          · obtain ⟨u, s1, r1⟩ := E 0 (.ref w) rfl
            rw [hs 0 x rfl] at s1
            cases s1
            exact r1
          · rw [e1] at e
            rw [e2]
            exact E _ t e
          · rw [e2, hs (i + 1) o e]; rfl
theorem leave_ok {r r' : R} {u : V} (E : RepE K Hf' H' ρ' σ') (R1 : RepR K Hf' H' H σ' r u) (hl : leave r ρ' = some r') (nw : ∀ i o p, get ρ' i = some (.own o) → slot σ' i = some (.ref p) → H p = none) : RepR K Hf' H' H [] r' u := by
  cases r with
  | val v => cases hl; exact R1
  | new o => cases hl; exact R1
  | bor i =>
    have R1' : slot σ' i = some u := R1
    cases g : get ρ' i with
    | none => simp only [leave, g] at hl; cases hl
    | some s =>
      simp only [leave, g] at hl
      obtain ⟨u', h1, h2⟩ := E.sl i s g
      rw [R1'] at h1
      cases h1
      cases s with
      | val v => cases hl; exact h2
      | own o => cases hl; obtain ⟨p, rfl, f, rp⟩ := h2; exact ⟨p, rfl, nw i o p g R1', f, rp⟩
      | ref o => cases hl
      | lck kvs => cases hl
/-- what a body has at hand -/
structure Cok (X : Cx) (k : Nat) : Prop where
  calm : X.calm = true
  nd : X.N.Nodup
  pass : PassesOwn (model X.prog X.w) X.A X.env X.xe
  div : DivOk X
  units : X.A.units + 64 < cLine
  unitsD : X.A.units + 65 < cLine
  room : Room k X.A
/-- THE RULE for a def: its body's meaning is its own -/
theorem ok_of {P : Program} {w : World} {mg : Str → Option Value} {base : Heap} {x qual : Str} {st : Stmt} {f : Addr} {fd : FuncData} {N ps : List Str} {k : Nat} {m : SM} (F : Fun K x qual st f fd) (S : FnScope N ps (defScope st)) (hk : 40 ≤ k) (hs : base.NoSeer) (ht : P.given.tree = none)
    (hb : ∀ (cdv : Value) (A : Around) (outer : List PySem.Env) (s : Shared) (H : Hp) (E : XK), Cok (cxOf CX0 P w K mg base N qual (defScope st) f cdv A outer s H E).nox k → BSs (cxOf CX0 P w K mg base N qual (defScope st) f cdv A outer s H E).nox (defBody st) m) :
    FnOk P w K mg base CX0 (k + 1) f fd ps (spOf K ps.length (mkDen N.length m)) := by
  refine F.ok S (fun vs H Q E h => h.1) fun cdv A outer s H vs Q E hr h => ?_
  have hd := hr.dp
  have hu := hr.un
  obtain ⟨t, h1, h2⟩ := hb cdv A outer s H E ⟨rfl, S.nd, PassesOwn.never, ⟨hs, ht, by show (A.deeper (envOfC qual (defScope st) s.heap.objs.size f cdv)).depth + 100 < recursionLimit; omega, _, outer, rfl, S.gen, S.co, rfl, rfl⟩, by show (A.deeper (envOfC qual (defScope st) s.heap.objs.size f cdv)).units + 64 < cLine; omega, by show (A.deeper (envOfC qual (defScope st) s.heap.objs.size f cdv)).units + 65 < cLine; omega, hr⟩
  refine ⟨t, h1, ?_⟩
  obtain ⟨_, Hf, as, r, os, hd, ho, E0, q⟩ := h
  obtain ⟨E1, eq⟩ := rep_start N E0
  have ow : ∀ p, Own (startE N.length as) (L2.start N vs) p → Own (as.map some) (vs.map some) p := fun p ⟨i, h⟩ => ⟨i, (eq i p).mp h⟩
  have hl : as.length = vs.length := by simpa using E0.len
  unfold mkDen at hd
  simp only [Option.bind_eq_some_iff] at hd
  obtain ⟨⟨fl, ρ'⟩, e1, e2⟩ := hd
  have K' : (cxOf CX0 P w K mg base N qual (defScope st) f cdv A outer s H E).nox.K = K := rfl
  refine h2 (startE N.length as) fl ρ' (L2.start N vs) Hf H e1 E1 _ fun σ' Hf' H' B => ?_
  have refs : ∀ i o, as[i]? = some (.ref o) → isRef (get ρ' i) = true ∧ slot σ' i = vs[i]? := fun i o e => by
    obtain ⟨a, b⟩ := B.ref i
    have g : get (startE N.length as) i = some (.ref o) := by rw [get_start]; exact e
    rw [g] at a b
    exact ⟨a, (b rfl).trans (slot_start N vs i)⟩
  have fin : ∀ os', outs as ρ' = some os' → OutsOk K Hf' H' as vs os' := fun os' h => outs_ok as vs os' ρ' σ' ho hl h B.en.sl fun i o e => (refs i o e).2
  have st' : Step (Own (as.map some) (vs.map some)) Hf H Hf' H' := B.st.weak fun p hp => .inl (ow p hp)
  have nw : ∀ i o p, get ρ' i = some (.own o) → slot σ' i = some (.ref p) → H p = none := fun i o p g sl => by
    have oi : OwnAt ρ' σ' i p := ⟨by rw [g]; rfl, sl⟩
    rcases B.own p ⟨i, oi⟩ with z | z
    · obtain ⟨k, a, b⟩ := ow p z
      rw [get_map] at a
      cases hk : as[k]? with
      | none => rw [hk] at a; cases a
      | some s0 =>
        cases s0 with
        | val v => rw [hk] at a; cases a
        | own o0 =>
          have := List.all_eq_true.mp ho _ (List.mem_of_getElem? hk)
          cases this
        | lck o0 => rw [hk] at a; cases a
        | ref o0 =>
          obtain ⟨r1, r2⟩ := refs k o0 hk
          have sk : slot σ' k = some (.ref p) := by rw [r2, ← slot_map]; exact b
          have nl : isLck (get ρ' k) = false := by
            cases gk : get ρ' k with
            | none => rfl
            | some s =>
              cases s with
              | lck kvs =>
                exfalso
                obtain ⟨u1, a1, p1, e1, ws, od, f1, _⟩ := B.en.sl k _ gk
                rw [sk] at a1
                cases a1
                cases e1
                obtain ⟨u2, a2, p2, e2, f2, _⟩ := B.en.sl i _ g
                rw [sl] at a2
                cases a2
                cases e2
                rw [f2] at f1
                cases f1
              | _ => rfl
          have ok : OwnAt ρ' σ' k p := ⟨isRef_isOb r1 nl, sk⟩
          have : i = k := B.en.dis i k p oi ok
          subst this
          rw [g] at r1
          cases r1
    · exact z
  cases fl with
  | nx =>
    simp only [Option.map_eq_some_iff, Prod.mk.injEq] at e2
    obtain ⟨os', h3, rfl, rfl⟩ := e2
    exact q .non Hf' H' st' .non (fin _ h3)
  | rt r0 =>
    simp only [Option.bind_eq_some_iff, Option.map_eq_some_iff, Prod.mk.injEq] at e2
    obtain ⟨r', h4, os', h3, rfl, rfl⟩ := e2
    intro u R1
    exact q u Hf' H' st' (leave_ok B.en R1 h4 nw) (fin _ h3)
  | bk => cases e2
  | ct => cases e2

/-! ### calls -/
/-- the arguments, as they stand -/
def AgOk (K : PySem.W.Frag) (Hf : Hp) (ρ : Env) (σ : L2.St) : List Ag → List Sl → List V → Prop
  | [], [], [] => True
  | .v _ :: as, .val v :: ss, u :: us => Dp K Hf u v ∧ AgOk K Hf ρ σ as ss us
  | .r i :: as, .ref o :: ss, u :: us => slot σ i = some u ∧ obAt ρ i = some o ∧ AgOk K Hf ρ σ as ss us
  | _, _, _ => False
def SA (K : PySem.W.Frag) (ta : TA) (as : List Ag) : Prop := ∀ (ρ : Env) (ss : List Sl) (ρ' : Env) (σ : L2.St) (Hf H : Hp), agsEval as ρ = some (ss, ρ') → RepE K Hf H ρ σ → ∀ Q : List V → Hp → Prop,
  (∀ us Hf' H', Bh K Hf H ρ σ Hf' H' ρ' → AgOk K Hf' ρ' σ as ss us → Q us H') → ta σ H Q
structure BA (X : Cx) (es : List Expr) (as : List Ag) : Prop where
  ex : ∃ ta, PA X es ta ∧ SA X.K ta as
theorem sa_nil : SA K tNil [] := by
  intro ρ ss ρ' σ Hf H hm E Q q
  cases hm
  exact q [] Hf H (.refl E) trivial
theorem sa_v {te : TE} {tr : TA} {a : M} {as : List Ag} (ha : SE K te a) (hr : SA K tr as) : SA K (tCons te tr) (.v a :: as) := by
  intro ρ ss ρ' σ Hf H hm E Q q
  simp only [agsEval, Option.bind_eq_some_iff, Option.map_eq_some_iff, Prod.mk.injEq] at hm
  obtain ⟨⟨x, ρ1⟩, e1, ⟨v, ρ2⟩, e2, ⟨ss', ρ3⟩, e3, rfl, rfl⟩ := hm
  refine ha ρ x ρ1 σ Hf H e1 E _ fun u Hf1 H1 S1 E1 R1 k1 => ?_
  obtain ⟨Hf2, B2, d⟩ := (⟨S1, E1, k1⟩ : Bh K Hf H ρ σ Hf1 H1 ρ1).frz E R1 e2
  refine hr ρ2 ss' ρ3 σ Hf2 H1 e3 B2.en _ fun us Hf3 H3 B3 A3 => ?_
  exact q (u :: us) Hf3 H3 (B2.trans B3) ⟨dp_mono B3.st.ff _ _ d, A3⟩
theorem sa_r {tr : TA} {i : Nat} {as : List Ag} (hr : SA K tr as) : SA K (tCons (tVar i) tr) (.r i :: as) := by
  intro ρ ss ρ' σ Hf H hm E Q q
  simp only [agsEval, Option.bind_eq_some_iff, Option.map_eq_some_iff, Prod.mk.injEq] at hm
  obtain ⟨o0, e0, ⟨ss', ρ3⟩, e3, o, e4, rfl, rfl⟩ := hm
  obtain ⟨p, _, s1, _⟩ := obAt_ok E e0
  refine ⟨_, slot_at s1, ?_⟩
  refine hr ρ ss' ρ3 σ Hf H e3 E _ fun us Hf3 H3 B3 A3 => ?_
  exact q (.ref p :: us) Hf3 H3 B3 ⟨s1, e4, A3⟩
theorem AgOk.len : ∀ {as : List Ag} {ss : List Sl} {us : List V}, AgOk K Hf ρ σ as ss us → ss.length = us.length ∧ ss.all notOwn = true
  | [], [], [], _ => ⟨rfl, rfl⟩
  | .v _ :: as, .val v :: ss, u :: us, h => by obtain ⟨a, b⟩ := AgOk.len h.2; exact ⟨by simp [a], by simp [b, notOwn]⟩
  | .r i :: as, .ref o :: ss, u :: us, h => by obtain ⟨a, b⟩ := AgOk.len h.2.2; exact ⟨by simp [a], by simp [b, notOwn]⟩
  | [], _ :: _, _, h => by cases h
  | [], [], _ :: _, h => by cases h
  | .v _ :: _, [], _, h => by cases h
  | .v _ :: _, .own _ :: _, _, h => by cases h
  | .v _ :: _, .ref _ :: _, _, h => by cases h
  | .v _ :: _, .val _ :: _, [], h => by cases h
  | .r _ :: _, [], _, h => by cases h
  | .r _ :: _, .own _ :: _, _, h => by cases h
  | .r _ :: _, .val _ :: _, _, h => by cases h
  | .r _ :: _, .ref _ :: _, [], h => by cases h
/-- the k-th argument -/
theorem AgOk.at : ∀ {as : List Ag} {ss : List Sl} {us : List V}, AgOk K Hf ρ σ as ss us → ∀ (k : Nat) s, ss[k]? = some s → ∃ u, us[k]? = some u ∧ ((∃ v, s = .val v ∧ Dp K Hf u v) ∨ ∃ i o, s = .ref o ∧ as[k]? = some (Ag.r i) ∧ slot σ i = some u ∧ obAt ρ i = some o)
  | [], [], [], _, k, s, e => by simp at e
  | .v _ :: as, .val v :: ss, u :: us, h, 0, s, e => by cases e; exact ⟨u, rfl, .inl ⟨v, rfl, h.1⟩⟩
  | .r i :: as, .ref o :: ss, u :: us, h, 0, s, e => by cases e; exact ⟨u, rfl, .inr ⟨i, o, rfl, rfl, h.1, h.2.1⟩⟩
  | .v _ :: as, .val v :: ss, u :: us, h, k + 1, s, e => by
    obtain ⟨u', a, b⟩ := AgOk.at h.2 k s e
    exact ⟨u', a, b⟩
  | .r i :: as, .ref o :: ss, u :: us, h, k + 1, s, e => by
    obtain ⟨u', a, b⟩ := AgOk.at h.2.2 k s e
    exact ⟨u', a, b⟩
  | [], _ :: _, _, h, _, _, _ => by cases h
  | [], [], _ :: _, h, _, _, _ => by cases h
  | .v _ :: _, [], _, h, _, _, _ => by cases h
  | .v _ :: _, .own _ :: _, _, h, _, _, _ => by cases h
  | .v _ :: _, .ref _ :: _, _, h, _, _, _ => by cases h
  | .v _ :: _, .val _ :: _, [], h, _, _, _ => by cases h
  | .r _ :: _, [], _, h, _, _, _ => by cases h
  | .r _ :: _, .own _ :: _, _, h, _, _, _ => by cases h
  | .r _ :: _, .val _ :: _, _, h, _, _, _ => by cases h
  | .r _ :: _, .ref _ :: _, [], h, _, _, _ => by cases h
theorem refsOf_inj : ∀ {as : List Ag} {j k i : Nat}, (refsOf as).Nodup → as[j]? = some (Ag.r i) → as[k]? = some (Ag.r i) → j = k
  | [], _, _, _, _, h, _ => by simp at h
  | .v _ :: as, 0, _, _, _, h, _ => by simp at h
  | .v _ :: as, _ + 1, 0, _, _, _, h => by simp at h
  | .v _ :: as, j + 1, k + 1, i, n, h1, h2 => congrArg (· + 1) (refsOf_inj (as := as) (i := i) n (by simpa using h1) (by simpa using h2))
  | .r l :: as, 0, 0, i, n, h1, h2 => rfl
  | .r l :: as, 0, k + 1, i, n, h1, h2 => by
    have n' : l ∉ refsOf as ∧ (refsOf as).Nodup := List.nodup_cons.mp n
    have e : l = i := by simpa using h1
    have m : ∀ (as : List Ag) (k : Nat), as[k]? = some (Ag.r i) → i ∈ refsOf as := fun as => by
      induction as with
      | nil => intro k h; simp at h
      | cons a as ih =>
        intro k h
        cases k with
        | zero => cases a with
          | v m => simp at h
          | r l => have : l = i := by simpa using h
                   subst this; exact List.mem_cons_self
        | succ k => cases a with
          | v m => exact ih k (by simpa using h)
          | r l => exact List.mem_cons_of_mem _ (ih k (by simpa using h))
    exact absurd (m as k (by simpa using h2)) (e ▸ n'.1)
  | .r l :: as, j + 1, 0, i, n, h1, h2 => (refsOf_inj (as := .r l :: as) (j := 0) (k := j + 1) n h2 h1).symm
  | .r l :: as, j + 1, k + 1, i, n, h1, h2 => congrArg (· + 1) (refsOf_inj (as := as) (i := i) (List.nodup_cons.mp n).2 (by simpa using h1) (by simpa using h2))
  termination_by as j k => (as.length, j)
  decreasing_by all_goals simp_wf; all_goals omega
/-- the callee's view -/
theorem args_rep {as : List Ag} {ss : List Sl} {us : List V} (E : RepE K Hf H ρ σ) (h : AgOk K Hf ρ σ as ss us) (nd : (refsOf as).Nodup) : RepE K Hf H (ss.map some) (us.map some) ∧ ∀ p, Own (ss.map some) (us.map some) p → ∃ i k : Nat, as[k]? = some (Ag.r i) ∧ OwnAt ρ σ i p ∧ us[k]? = some (V.ref p) := by
  have at_ : ∀ k p, OwnAt (ss.map some) (us.map some) k p → ∃ i, as[k]? = some (Ag.r i) ∧ OwnAt ρ σ i p ∧ us[k]? = some (V.ref p) := fun k p ⟨a, b⟩ => by
    rw [get_map] at a
    rw [slot_map] at b
    cases hs : ss[k]? with
    | none => rw [hs] at a; cases a
    | some s =>
      obtain ⟨u, e1, e2⟩ := h.at k s hs
      rw [b] at e1
      cases e1
      rcases e2 with ⟨v, rfl, _⟩ | ⟨i, o, rfl, e3, e4, e5⟩
      · rw [hs] at a; cases a
      · obtain ⟨p', oi, s1, _⟩ := obAt_ok E e5
        rw [e4] at s1
        cases s1
        exact ⟨i, e3, oi, b⟩
  refine ⟨⟨by simpa using h.len.1, E.ff, fun k s e => ?_, fun j k p a b => ?_⟩, fun p ⟨k, a⟩ => ?_⟩
  · rw [get_map] at e
    rw [slot_map]
    obtain ⟨u, e1, e2⟩ := h.at k s e
    refine ⟨u, e1, ?_⟩
    rcases e2 with ⟨v, rfl, d⟩ | ⟨i, o, rfl, e3, e4, e5⟩
    · exact d
    · obtain ⟨p, oi, s1, f, r, _⟩ := obAt_ok E e5
      rw [e4] at s1
      cases s1
      exact ⟨p, rfl, f, r⟩
  · obtain ⟨i, h1, h2, _⟩ := at_ j p a
    obtain ⟨i', h3, h4, _⟩ := at_ k p b
    have : i = i' := E.dis i i' p h2 h4
    subst this
    exact refsOf_inj nd h1 h3
  · obtain ⟨i, h1, h2, h3⟩ := at_ k p a
    exact ⟨i, k, h1, h2, h3⟩
/-- what the objects are behind the call, by the names -/
theorem outs_by : ∀ {as : List Ag} {ss : List Sl} {us : List V} {os : List Ob}, AgOk K Hf ρ σ as ss us → OutsOk K Hf' H' ss us os → (refsOf as).length = os.length ∧ ∀ j o, (j, o) ∈ (refsOf as).zip os → ∃ p, slot σ j = some (.ref p) ∧ Hf' p = none ∧ RepOb K Hf' H' p o
  | [], [], [], [], _, _ => ⟨rfl, fun j o h => by simp [refsOf] at h⟩
  | .v _ :: as, .val v :: ss, u :: us, os, h, k => outs_by (as := as) h.2 k
  | .r i :: as, .ref o :: ss, u :: us, o' :: os, h, k => by
    obtain ⟨l, m⟩ := outs_by (as := as) h.2.2 k.2
    refine ⟨by simp [refsOf, l], fun j o2 hj => ?_⟩
    have hj' : (j, o2) ∈ (i, o') :: (refsOf as).zip os := hj
    rcases List.mem_cons.mp hj' with e | e
    · cases e
      obtain ⟨p, e1, f, r⟩ := k.1
      exact ⟨p, by rw [h.1, e1], f, r⟩
    · exact m j o2 e
  | [], _ :: _, _, _, h, _ => by cases h
  | [], [], _ :: _, _, h, _ => by cases h
  | [], [], [], _ :: _, _, k => by cases k
  | .v _ :: _, [], _, _, h, _ => by cases h
  | .v _ :: _, .own _ :: _, _, _, h, _ => by cases h
  | .v _ :: _, .ref _ :: _, _, _, h, _ => by cases h
  | .v _ :: _, .val _ :: _, [], _, h, _ => by cases h
  | .r _ :: _, [], _, _, h, _ => by cases h
  | .r _ :: _, .own _ :: _, _, _, h, _ => by cases h
  | .r _ :: _, .val _ :: _, _, _, h, _ => by cases h
  | .r _ :: _, .ref _ :: _, [], _, h, _ => by cases h
  | .r _ :: _, .ref _ :: _, _ :: _, [], _, k => by cases k
theorem setOb_len (i : Nat) (o : Ob) : (setOb ρ i o).length = ρ.length := by
  unfold setOb
  split <;> rw [List.length_set]
theorem setObs_get : ∀ (is : List Nat) (os : List Ob) (ρ : Env), is.Nodup → is.length = os.length → (∀ i ∈ is, i < ρ.length) → (setObs is os ρ).length = ρ.length ∧ (∀ j, j ∉ is → get (setObs is os ρ) j = get ρ j) ∧
    ∀ j o, (j, o) ∈ is.zip os → get (setObs is os ρ) j = if isRef (get ρ j) then some (.ref o) else some (.own o)
  | [], [], ρ, _, _, _ => ⟨rfl, fun _ _ => rfl, fun j o h => by simp at h⟩
  | [], _ :: _, _, _, h, _ => by cases h
  | _ :: _, [], _, _, h, _ => by cases h
  | i :: is, o :: os, ρ, nd, hl, hb => by
    obtain ⟨n1, n2⟩ := List.nodup_cons.mp nd
    have hi : i < ρ.length := hb i List.mem_cons_self
    obtain ⟨a, b, c⟩ := setObs_get is os (setOb ρ i o) n2 (by simpa using hl) fun k hk => by rw [setOb_len]; exact hb k (List.mem_cons_of_mem _ hk)
    refine ⟨a.trans (setOb_len i o), fun j hj => ?_, fun j o' h => ?_⟩
    · have h1 : j ∉ is := fun z => hj (List.mem_cons_of_mem _ z)
      have h2 : i ≠ j := fun z => hj (z ▸ List.mem_cons_self)
      show get (setObs is os (setOb ρ i o)) j = _
      rw [b j h1, get_setOb i j o hi, if_neg h2]
    · show get (setObs is os (setOb ρ i o)) j = _
      have h' : (j, o') ∈ (i, o) :: is.zip os := h
      rcases List.mem_cons.mp h' with e | e
      · cases e
        rw [b i n1, get_setOb i i o hi, if_pos rfl]
      · rw [c j o' e]
        have hij : i ≠ j := fun z => n1 (z ▸ (List.of_mem_zip e).1)
        rw [get_setOb i j o hi, if_neg hij]
theorem zip_mem : ∀ {is : List Nat} {os : List Ob} {j : Nat}, is.length = os.length → j ∈ is → ∃ o, (j, o) ∈ is.zip os
  | [], _, _, _, h => by cases h
  | _ :: _, [], _, h, _ => by cases h
  | i :: is, o :: os, j, hl, h => by
    rcases List.mem_cons.mp h with e | e
    · exact ⟨o, by rw [e]; exact List.mem_cons_self⟩
    · obtain ⟨o', h'⟩ := zip_mem (is := is) (os := os) (by simpa using hl) e
      exact ⟨o', List.mem_cons_of_mem _ h'⟩
theorem mem_refs : ∀ {as : List Ag} {i : Nat}, i ∈ refsOf as → ∃ k : Nat, as[k]? = some (Ag.r i)
  | [], _, h => by cases h
  | .v _ :: as, i, h => by obtain ⟨k, e⟩ := mem_refs (as := as) h; exact ⟨k + 1, by simpa using e⟩
  | .r l :: as, i, h => by
    have h' : i ∈ l :: refsOf as := h
    rcases List.mem_cons.mp h' with e | e
    · exact ⟨0, by simp [e]⟩
    · obtain ⟨k, e⟩ := mem_refs (as := as) e
      exact ⟨k + 1, by simpa using e⟩
theorem refs_mem : ∀ {as : List Ag} {i k : Nat}, as[k]? = some (Ag.r i) → i ∈ refsOf as
  | [], _, _, h => by simp at h
  | .v _ :: as, i, 0, h => by simp at h
  | .v _ :: as, i, k + 1, h => refs_mem (as := as) (k := k) (by simpa using h)
  | .r l :: as, i, 0, h => by have e : l = i := by simpa using h
                              exact e ▸ List.mem_cons_self
  | .r l :: as, i, k + 1, h => List.mem_cons_of_mem _ (refs_mem (as := as) (k := k) (by simpa using h))
theorem agOk_refs : ∀ {as : List Ag} {ss : List Sl} {us : List V}, AgOk K Hf ρ σ as ss us → ∀ i ∈ refsOf as, ∃ o, obAt ρ i = some o
  | [], [], [], _, i, h => by cases h
  | .v _ :: as, .val v :: ss, u :: us, h, i, hi => agOk_refs (as := as) h.2 i hi
  | .r l :: as, .ref o :: ss, u :: us, h, i, hi => by
    have hi' : i ∈ l :: refsOf as := hi
    rcases List.mem_cons.mp hi' with e | e
    · exact ⟨o, e ▸ h.2.1⟩
    · exact agOk_refs (as := as) h.2.2 i e
  | [], _ :: _, _, h, _, _ => by cases h
  | [], [], _ :: _, h, _, _ => by cases h
  | .v _ :: _, [], _, h, _, _ => by cases h
  | .v _ :: _, .own _ :: _, _, h, _, _ => by cases h
  | .v _ :: _, .ref _ :: _, _, h, _, _ => by cases h
  | .v _ :: _, .val _ :: _, [], h, _, _ => by cases h
  | .r _ :: _, [], _, h, _, _ => by cases h
  | .r _ :: _, .own _ :: _, _, h, _, _ => by cases h
  | .r _ :: _, .val _ :: _, _, h, _, _ => by cases h
  | .r _ :: _, .ref _ :: _, [], h, _, _ => by cases h
theorem se_call {ta : TA} {as : List Ag} {d : Den} {n : Nat} {E : XK} (hn : as.length = n) (ha : SA K ta as) : SE K (tCall (spOf K n d) [] E ta) (mCall d as) := by
  intro ρ r ρ' σ Hf H hm E0 Q q
  simp only [mCall, Option.bind_eq_some_iff] at hm
  obtain ⟨⟨ss, ρ1⟩, e1, e2⟩ := hm
  split at e2
  · rename_i nd
    simp only [Option.map_eq_some_iff, Prod.mk.injEq] at e2
    obtain ⟨⟨r', os⟩, e3, rfl, rfl⟩ := e2
    refine ha ρ ss ρ1 σ Hf H e1 E0 _ fun us Hf1 H1 B1 A1 => ?_
    have hle : ∀ {as : List Ag} {ss : List Sl} {us : List V}, AgOk K Hf1 ρ1 σ as ss us → us.length = as.length := by
      intro as
      induction as with
      | nil => intro ss us h; cases ss <;> cases us <;> first | rfl | cases h
      | cons a as ih =>
        intro ss us h
        cases ss with
        | nil => cases a <;> cases h
        | cons s ss =>
          cases us with
          | nil => cases a <;> cases s <;> cases h
          | cons u us =>
            cases a <;> cases s <;> first
              | exact congrArg (· + 1) (ih h.2)
              | exact congrArg (· + 1) (ih h.2.2)
              | cases h
    obtain ⟨E2, ow⟩ := args_rep B1.en A1 nd
    rw [List.append_nil]
    refine ⟨(hle A1).trans hn, Hf1, ss, r', os, e3, A1.len.2, E2, fun u Hf2 H2 S2 R2 O2 => ?_⟩
    obtain ⟨ol, ob⟩ := outs_by A1 O2
    have lt : ∀ i ∈ refsOf as, i < ρ1.length := fun i hi => by
      obtain ⟨o, h⟩ := agOk_refs A1 i hi
      obtain ⟨_, _, _, _, _, h⟩ := obAt_ok B1.en h
      exact h
    obtain ⟨l1, g1, g2⟩ := setObs_get (refsOf as) os ρ1 nd ol lt
    have isob : ∀ j, isOb (get (setObs (refsOf as) os ρ1) j) = true → isOb (get ρ1 j) = true := fun j h => by
      by_cases hj : j ∈ refsOf as
      · obtain ⟨o, ho⟩ := agOk_refs A1 j hj
        obtain ⟨_, oi, _⟩ := obAt_ok B1.en ho
        exact oi.1
      · rw [g1 j hj] at h; exact h
    have st : Step (Own ρ1 σ) Hf1 H1 Hf2 H2 := S2.weak fun p hp => by
      obtain ⟨i, k, _, h, _⟩ := ow p hp
      exact .inl ⟨i, h⟩
    have B2 : Bh K Hf1 H1 ρ1 σ Hf2 H2 (setObs (refsOf as) os ρ1) := by
      refine ⟨st, ⟨l1.trans B1.en.len, S2.fh, fun j s e => ?_, fun j k p a b => B1.en.dis j k p ⟨isob j a.1, a.2⟩ ⟨isob k b.1, b.2⟩⟩, ⟨isob, fun j => ?_⟩⟩
      · by_cases hj : j ∈ refsOf as
        · obtain ⟨o, hz⟩ := zip_mem ol hj
          obtain ⟨p, s1, f1, r1⟩ := ob j o hz
          rw [g2 j o hz] at e
          refine ⟨_, s1, ?_⟩
          split at e
          · cases e; exact ⟨p, rfl, f1, r1⟩
          · cases e; exact ⟨p, rfl, f1, r1⟩
        · rw [g1 j hj] at e
          obtain ⟨u', h1, h2⟩ := B1.en.sl j s e
          refine ⟨u', h1, h2.step S2 fun p ho hu hp => ?_⟩
          obtain ⟨i, k, hk, oi, _⟩ := ow p hp
          have : j = i := B1.en.dis j i p ⟨by rw [e]; exact ho, by rw [h1, hu]⟩ oi
          exact hj (this ▸ refs_mem hk)
      · by_cases hj : j ∈ refsOf as
        · obtain ⟨o, hz⟩ := zip_mem ol hj
          rw [g2 j o hz]
          cases hr : isRef (get ρ1 j) <;> simp [isRef]
        · rw [g1 j hj]
    have B := B1.trans B2
    exact q u Hf2 H2 B.st B.en (R2.any.back fun p hp => B1.fresh hp) B.kp
  · cases e2
end
section
variable {X : Cx} {e a : Expr} {es : List Expr} {m : M} {as : List Ag} {x y : Str} {p pos : Pos} {k n : Nat} {f : Addr} {fd : FuncData} {ps : List Str} {d : Den}
theorem ba_nil : BA X [] [] := ⟨_, pa_nil, sa_nil⟩
theorem ba_v (ha : BE X a m) (hr : BA X es as) (hs : starEach (a :: es) X.env = (false, eval a X.env) :: starEach es X.env := by rfl) : BA X (a :: es) (.v m :: as) := let ⟨t, h1, h2⟩ := ha; let ⟨u, h3, h4⟩ := hr; ⟨_, pa_cons h1 h3 hs, sa_v h2 h4⟩
theorem ba_r (i : Nat) (ho : PE X (.Name x p) (tVar i)) (hr : BA X es as) (hs : starEach (.Name x p :: es) X.env = (false, eval (.Name x p) X.env) :: starEach es X.env := by rfl) : BA X (.Name x p :: es) (.r i :: as) := let ⟨u, h3, h4⟩ := hr; ⟨_, pa_cons ho h3 hs, sa_r h4⟩
/-- f(e, ..) -/
theorem be_call (F : FnOk X.prog X.w X.K X.mg X.base CX0 k f fd ps (spOf X.K n d)) (hr : Room k X.A) (hg : Gl X x) (hm : X.mg x = some (.ref f)) (hk : PySem.W.keepIn X.K (.ref f) = true) (hb : Binds X.K fd ps []) (ha : BA X (e :: es) as) (hn : as.length = n := by rfl)
    (hdb : (x == ("__debug__" : Str)) = false := by decide) (he : starEach (e :: es) X.env = (false, eval e X.env) :: starEach es X.env := by rfl) (hpl : (backTo pos (starEach es X.env)).any (·.1) = false := by rfl) : BE X (.Call (.Name x p) (e :: es) [] pos) (mCall d as) := by
  obtain ⟨t, h1, h2⟩ := ha
  exact ⟨_, pe_call F hr hg hm hk hb .nil (pass0 (X := X)) h1 hdb he hpl, se_call hn h2⟩
end
/-- a def that is never come to -/
theorem ok_none {P : Program} {w : World} {K : PySem.W.Frag} {mg : Str → Option Value} {base : Heap} {k n : Nat} {f : Addr} {fd : FuncData} {ps : List Str} (hp : ps.length = n) : FnOk P w K mg base CX0 k f fd ps (spOf K n fun _ => none) :=
  ⟨fun vs H Q E h => h.1.trans hp.symm, fun A outer s H args us vs Q E hr he hb hv ⟨_, Hf, as, r, os, hd, _⟩ => nomatch hd⟩
end Py
/-! Py8: the law's end. -/
namespace Py
open PySem PySem.Spec PyProof.Rows L2

theorem dps_script (K : PySem.W.Frag) (H : Hp) (ns : List Int) : DpAll K H (ns.map V.int) (ns.map PyData.int) := dps_ints ns
/-- the script alone is tracked: the law's def, called -/
theorem law_core {P : Program} {w : World} {K : PySem.W.Frag} {mg mb : Str → Option Value} {k : Nat} {fa a : Addr} {fd : FuncData} {x : Str} {d : Den} {s₁ : Shared} {vs : List Value} {ns : List Int}
    (KX : K.In s₁.heap) (n1 : s₁.heap.Ns mainGlobals mg) (n2 : s₁.heap.Ns builtinsNs mb) (n3 : ∀ x : Str, x ≠ "__name__" → mb x = bootBuiltins x) (n4 : s₁.heap.NoLimit) (n5 : s₁.heap.NoSeer) (n6 : s₁.gens = #[])
    (ob : s₁.heap.get? a = some { cls := .type "list", data := .seq vs.toArray }) (hr : Room k callerA)
    (F : ∀ base : Heap, K.In base → base.Ns mainGlobals mg → base.NoSeer → FnOk P w K mg base CX0 k fa fd [x] (spOf K 1 d)) (bi : ∀ (s : Shared) (u : Value), BindsTo s fd ⟨[u], []⟩ [(x, u)])
    (pure : ∃ os, d [.val (.list (ns.map PyData.int))] = some (.val (.bool true), os)) (H : Hp) (hS : SqL K H a (ns.map V.int)) (hok : HOk P w H s₁.heap) (only : ∀ b u, H b = some u → b = a ∧ K.lookup a = none ∧ ∃ o xs, u = .frz o (.lst xs)) :
    codeAny (model P w) callerA (.call (.ref fa) ⟨[.ref a], []⟩) (fun r s' => r = .ok (.ret (.bool true)) ∧ OldK s₁.heap s'.heap ∧ s'.os = s₁.os ∧ AllBare s'.gens) s₁ := by
  have free : ∀ b, b ≠ a → H b = none := fun b h => by
    cases q : H b with
    | none => rfl
    | some u => exact absurd (only b u q).1 h
  have base_get : ∀ b o, b ≠ a → s₁.heap.get? b = some o → (hidT s₁.heap H).get? b = some o := fun b o h e => hidT_get e (free b h)
  have ns_get : ∀ b m, s₁.heap.Ns b m → (hidT s₁.heap H).Ns b m := by
    rintro b m ⟨o, es, ep, e, dd, r⟩
    refine ⟨o, es, ep, base_get b o (fun z => ?_) e, dd, r⟩
    rw [z, ob] at e
    cases e
    cases dd
  have kin : K.In (hidT s₁.heap H) := fun b o e => by
    by_cases h : b = a
    · subst h
      refine hidT_get (KX b o e) ?_
      cases q : H b with
      | none => rfl
      | some u => have := (only b u q).2.1; rw [e] at this; cases this
    · exact base_get b o h (KX b o e)
  have seer : (hidT s₁.heap H).NoSeer := by
    obtain ⟨⟨mc, c1, c2⟩, ⟨mm, m1, m2⟩, ⟨mb', b1, b2⟩, ⟨mg', bm, obm, g1, g2, g3, g4, g5⟩⟩ := n5
    refine ⟨⟨mc, ns_get _ _ c1, c2⟩, ⟨mm, ns_get _ _ m1, m2⟩, ⟨mb', ns_get _ _ b1, b2⟩, ⟨mg', bm, obm, ns_get _ _ g1, g2, base_get bm obm (fun z => ?_) g3, g4, g5⟩⟩
    rw [z, ob] at g3
    cases g3
    exact absurd (show Value.type "list" = Value.type "module" from g4) (by decide)
  have mod : Mod K mg (hidT s₁.heap H) := ⟨kin, ns_get _ _ n1, ⟨mb, ns_get _ _ n2, n3⟩, let ⟨mc, h1, h2⟩ := n4; ⟨mc, ns_get _ _ h1, h2⟩⟩
  have env : Env0 P w K mg (hidT s₁.heap H) callerA [] s₁ H := ⟨rfl, mod, fun b o e => of_hidT e, Nat.le_of_eq (hidT_size _ _), trivial, fun b hb => absurd hb List.not_mem_nil, hok, .of_eq n6⟩
  obtain ⟨os, hd⟩ := pure
  have args : RepE K H H ([Sl.val (.list (ns.map PyData.int))].map some) ([V.ref a].map some) := by
    refine ⟨rfl, fun _ _ h => h, fun i s e => ?_, fun i j p ha => ?_⟩
    · rw [get_map] at e
      rw [slot_map]
      cases i with
      | zero => cases e; exact ⟨_, rfl, .lst hS (dps_ints ns)⟩
      | succ i => cases e
    · have h1 := ha.1
      rw [get_map] at h1
      cases i with
      | zero => cases h1
      | succ i => cases h1
  have prom : spOf K 1 d [.ref a] H (fun v _ => v = .bl true) fun _ _ _ => False := ⟨rfl, H, _, _, os, hd, rfl, args, fun u Hf' H' _ R _ => by cases (show Dp K Hf' u (.bool true) from R); rfl⟩
  refine codeAny_mono ((F _ kin (ns_get _ _ n1) seer).run callerA [] s₁ H ⟨[.ref a], []⟩ [.ref a] [.ref a] _ _ hr env (bi s₁ (.ref a)) (.cons rfl .nil) prom) fun r s' h => ?_
  cases r with
  | error e => exact False.elim h
  | ok fl =>
    cases fl with
    | next => exact False.elim h
    | brk => exact False.elim h
    | cont => exact False.elim h
    | ret u =>
      obtain ⟨v, H', os', bare, un, hok', rv, q⟩ := h
      have q' : v = .bl true := q
      subst q'
      obtain rfl : u = Value.bool true := rv
      refine ⟨rfl, OldK.of_keep fun b o e => ?_, os', bare⟩
      cases z : H b with
      | none => exact un.keep b o e z (List.not_mem_nil) List.not_mem_nil
      | some u =>
        obtain ⟨_, _, o2, xs, rfl⟩ := only b u z
        have z1 := (hok b _ z).1
        have z2 := (hok' b _ (un.frzs b o2 _ z)).1
        rw [e] at z1
        cases z1
        exact z2
theorem law_py {P : Program} {w : World} {K : PySem.W.Frag} {mg mb : Str → Option Value} {k : Nat} {fa a : Addr} {fd : FuncData} {x : Str} {d : Den} {s₁ : Shared} {vs : List Value} {ns : List Int}
    (KX : K.In s₁.heap) (n1 : s₁.heap.Ns mainGlobals mg) (n2 : s₁.heap.Ns builtinsNs mb) (n3 : ∀ x : Str, x ≠ "__name__" → mb x = bootBuiltins x) (n4 : s₁.heap.NoLimit) (n5 : s₁.heap.NoSeer) (n6 : s₁.gens = #[])
    (ob : s₁.heap.get? a = some { cls := .type "list", data := .seq vs.toArray }) (hi : IntsAre vs ns) (hl : ns.length ≤ sizeLine) (hr : Room k callerA)
    (F : ∀ base : Heap, K.In base → base.Ns mainGlobals mg → base.NoSeer → FnOk P w K mg base CX0 k fa fd [x] (spOf K 1 d)) (bi : ∀ (s : Shared) (u : Value), BindsTo s fd ⟨[u], []⟩ [(x, u)])
    (pure : ∃ os, d [.val (.list (ns.map PyData.int))] = some (.val (.bool true), os)) :
    codeAny (model P w) callerA (.call (.ref fa) ⟨[.ref a], []⟩) (fun r s' => r = .ok (.ret (.bool true)) ∧ OldK s₁.heap s'.heap ∧ s'.os = s₁.os ∧ AllBare s'.gens) s₁ := by
  have rv := vals_ints hi
  have hlen : (ns.map V.int).length ≤ sizeLine := by rw [List.length_map]; exact hl
  cases hk : K.lookup a with
  | some o =>
    have e := KX a o hk
    rw [ob] at e
    cases e
    refine law_core KX n1 n2 n3 n4 n5 n6 ob hr F bi pure (fun _ => none) (.inr ⟨_, vs.toArray, _, hk, rfl, rfl, rfl, ?_, by simpa using rv⟩) (fun b u z => nomatch z) fun b u z => nomatch z
    have := rv.length
    rw [List.size_toArray, ← this]
    exact hlen
  | none =>
    refine law_core KX n1 n2 n3 n4 n5 n6 ob hr F bi pure (fun b => if b = a then some (.frz { cls := .type "list", data := .seq vs.toArray } (.lst (ns.map V.int))) else none) (.inl (.inr ⟨_, if_pos rfl⟩)) (fun b u z => ?_) fun b u z => ?_
    · by_cases hb : b = a
      · subst hb
        have z' := (if_pos rfl).symm.trans z
        cases z'
        exact ⟨ob, hlen, vs, _, rv, ob⟩
      · have z' := (if_neg hb).symm.trans z
        cases z'
    · by_cases hb : b = a
      · have z' := (if_pos hb).symm.trans z
        cases z'
        exact ⟨hb, hk, _, _, rfl⟩
      · have z' := (if_neg hb).symm.trans z
        cases z'
/-- the goal that k_head leaves, from the law's def -/
theorem walk_py {l : PySem.W.OpenLaw} {n k : Nat} {q : Program} {loose : List Str} {XP : (Str → Option Value) → Heap → Prop} {YP : World → Heap → Prop} {dr : DefRec} {K : Params → PySem.W.Frag} {x : Str} {d : Den}
    (hn : l.most = some n) (hn2 : n ≤ sizeLine) (hdf : dr.params.defaults = []) (hr : Room k callerA) (hq : importsNone q = true)
    (hY : ∀ (w : World) (h : Heap), YP w h → (K w.params).In h)
    (F : ∀ (w : World) (mg : Str → Option Value) (fa : Addr) (h : Heap), (K w.params).In h → h.Ns mainGlobals mg → mg dr.name = some (.ref fa) →
      ∃ fd : FuncData, (∀ (s : Shared) (u : Value), BindsTo s fd ⟨[u], []⟩ [(x, u)]) ∧
        ∀ base : Heap, (K w.params).In base → base.Ns mainGlobals mg → base.NoSeer → FnOk l.prog w (K w.params) mg base CX0 k fa fd [x] (spOf (K w.params) 1 d))
    (pure : ∀ ns : List Int, ns.length ≤ n → (∀ z ∈ ns, Builtin.Int.intBits z ≤ 1048576) → ∃ os, d [.val (.list (ns.map PyData.int))] = some (.val (.bool true), os)) :
    PySem.W.WalkO q loose XP YP l.row.toRowW dr [] (fun f vs => PySem.call f vs) := by
  refine Att.attach_callB hn hdf fun w s₀ s₁ mg mb fa o pm cd doc a vs ns G Y ho hd hcd hmg hobj hints hlen hbits hg => ?_
  have KX := hY w _ Y
  obtain ⟨fd, hb, hF⟩ := F w mg fa _ KX G.T.g hmg
  exact law_py KX G.T.g G.T.b G.T.builtins G.T.nolimit (G.T.seer hq) hg hobj hints (Nat.le_trans hlen hn2) hr hF hb (pure ns hlen hbits)
end Py
/-! Py9: words for the walk. -/
namespace Py
open PySem PySem.Spec PyProof.Rows L2
/-- a def of the text, as it stands behind the top -/
structure Df (K : PySem.W.Frag) (mg : Str → Option Value) (x : Str) (st : Stmt) where
  f : Addr
  fd : FuncData
  F : Fun K x x st f fd
  g : mg x = some (.ref f)
/-- a constant tuple -/
structure CT (K : PySem.W.Frag) (mg : Str → Option Value) (x : Str) (vs : List PV) where
  a : Addr
  m : mg x = some (.ref a)
  d : ∀ H : Hp, Dp K H (.ref a) (.tuple vs)
def ct_mk {K : PySem.W.Frag} {h : Heap} {mg : Str → Option Value} {x : Str} {i j : Int} {a : Addr} {t u : Tok} {od : Option Addr} {n : Nat} {sl : Array (Option Value)} (X : K.In h) (G : h.Ns mainGlobals mg) (q1 : PySem.W.nsIn K mainGlobals x = some (some (.ref a)))
    (q2 : K.lookup a = some ⟨.type "tuple", od, .seq #[.int i t, .int j u] n, sl⟩) : CT K mg x [.int i, .int j] :=
  ⟨a, PySem.W.mg_of X G q1, fun H => .tup (.inr ⟨_, _, _, q2, rfl, rfl, (by show 2 ≤ sizeLine; rw [sizeLine_eq]; decide), .cons (show RelV (.int i) _ from ⟨t, rfl⟩) (.cons (show RelV (.int j) _ from ⟨u, rfl⟩) .nil)⟩) (.cons (.int i) (.cons (.int j) .nil))⟩
theorem bt_len : bootBuiltins "len" = some (.builtin "len") := by decide +kernel
theorem bt_abs : bootBuiltins "abs" = some (.builtin "abs") := by decide +kernel
theorem bt_min : bootBuiltins "min" = some (.builtin "min") := by decide +kernel
theorem bt_max : bootBuiltins "max" = some (.builtin "max") := by decide +kernel
theorem bt_sum : bootBuiltins "sum" = some (.builtin "sum") := by decide +kernel
theorem bt_all : bootBuiltins "all" = some (.builtin "all") := by decide +kernel
theorem bt_any : bootBuiltins "any" = some (.builtin "any") := by decide +kernel
theorem bt_sorted : bootBuiltins "sorted" = some (.builtin "sorted") := by decide +kernel
theorem bt_isinstance : bootBuiltins "isinstance" = some (.builtin "isinstance") := by decide +kernel
theorem bt_int : bootBuiltins "int" = some (.type "int") := by decide +kernel
theorem bt_bool : bootBuiltins "bool" = some (.type "bool") := by decide +kernel
theorem bt_str : bootBuiltins "str" = some (.type "str") := by decide +kernel
theorem bt_tuple : bootBuiltins "tuple" = some (.type "tuple") := by decide +kernel
theorem bt_list : bootBuiltins "list" = some (.type "list") := by decide +kernel
theorem blk_at {N : List Str} {sc scope : Scope} {own : List (Str × Nat)} {X : Cx} (h1 : X.N = N) (h2 : X.env.scope = sc) (h : blkC N sc scope own = true) : blkC X.N X.env.scope scope own = true := by rw [h1, h2]; exact h
/-- the scope of a comprehension within another one -/
def relS (scope sc : Scope) : Scope := { scope with names := scope.names.map fun (n, k) => if (k == .free && sc.kind == .function && sc.names.lookup n == some .cell) then (n, .cell) else (n, k) }
theorem blk_in {N : List Str} {sc0 scope0 scope : Scope} {own : List (Str × Nat)} {X : Cx} {s : Shared} {H : Hp} {cl : List (Str × Addr)} {C : Addr} {fp : List Addr} (h1 : X.N = N) (h2 : X.env.scope = sc0) (h : blkC N (relS scope0 sc0) scope own = true) :
    blkC (X.blk s H scope0 (compEnvC scope0 cl C X.env) fp).N (X.blk s H scope0 (compEnvC scope0 cl C X.env) fp).env.scope scope own = true := by
  subst h1 h2
  exact h
theorem DivOk.blk {X : Cx} (D : DivOk X) {s : Shared} {H : Hp} {scope : Scope} {cenv : PySem.Env} {fp : List Addr} : DivOk (X.blk s H scope cenv fp) := ⟨D.seer, D.tree, D.deep, D.top⟩
section
variable {X : Cx} {elt iter : Expr} {ifs : List Expr} {scope : Scope} {pos : Pos} {mi : MI} {mt : MT} {me : M} {y : Str} {p : Pos}
theorem bs_setLcT (j : Nat) (is : List Nat) (own : List (Str × Nat)) {ts : List Expr} {k : Nat} {py spos : Pos} (hc : X.calm = true) (hN : X.N.Nodup) (hj : X.N[j]? = some y) (hyl : X.env.scope.names.lookup y = some .local) (hi : BI X (.Tuple ts k p) iter mi) (ok : blkC X.N X.env.scope scope own = true) (hm : ∀ i ∈ is, i ∈ own.map (·.2))
    (hsw : swapsWith (.ListComp elt [⟨.Tuple ts k p, iter, ifs, 0⟩] scope pos) (some (.Name y py)) spos.line X.env = pure true)
    (hg : ∀ (s : Shared) (H : Hp) (C : Addr) (cl : List (Str × Addr)) (fp : List Addr), PG (X.blk s H scope (compEnvC scope cl C X.env) fp) (.Tuple ts k p) (L2.gTup X.K is.length (tNames is)))
    (ht : ∀ (s : Shared) (H : Hp) (C : Addr) (cl : List (Str × Addr)) (fp : List Addr), BTs (X.blk s H scope (compEnvC scope cl C X.env) fp) ifs mt)
    (he : ∀ (s : Shared) (H : Hp) (C : Addr) (cl : List (Str × Addr)) (fp : List Addr), BE (X.blk s H scope (compEnvC scope cl C X.env) fp) elt me) (hs : ∀ x, foldedSetIterable iter X.env x = pure x := by intro _; rfl) :
    BS X (.Assign [.Name y py] (.ListComp elt [⟨.Tuple ts k p, iter, ifs, 0⟩] scope pos) spos) (sAsg (mLc mi (Py.gTup is) (own.map (·.2)) mt me) (Py.gName j)) := by
  obtain ⟨wi, h1, h2⟩ := hi
  exact ⟨_, ps_setLc hc hN hj hyl hsw h1 (blkOk_by ok) hg (fun s H C cl fp => (ht s H C cl fp).can) (fun s H C cl fp => (he s H C cl fp).can) hs, ss_asg (se_lc _ h2 (sg_tup rfl) (tgIn_tup hm) st_rT se_rE) (sg_name j)⟩
end
section
variable {K : PySem.W.Frag} {Hf H Hf' H' : Hp} {X : Cx}
theorem iadd_S : OpS K (fun x y H Q => rI0 (fun i j => .int (i + j)) x y H Q ∨ (∃ i j, x = .str i ∧ y = .str j ∧ i.length + j.length ≤ sizeLine ∧ Q (.str (i ++ j)) H)) fIAdd := fun Hf H c d x y z e hc hd e5 Q q => by
  unfold fIAdd at e5
  split at e5
  · cases e5; cases hc; cases hd; exact .inl ⟨_, _, rfl, rfl, old e (.int _) q⟩
  · split at e5
    · rename_i hz; cases e5; cases hc; cases hd; exact .inr ⟨_, _, rfl, rfl, by rw [← line_eq]; exact hz, old e (.str _) q⟩
    · cases e5
  · cases e5
theorem ob_iadd : OpB X (inplaceOp .Add) fIAdd := ⟨_, iop_add.or iop_add_str, iadd_S⟩
theorem ob_imul : OpB X (inplaceOp .Mult) fMulI := opB_int iop_mulB fun c d z h => by
  unfold fMulI at h
  split at h
  · split at h
    · rename_i hz; cases h; exact ⟨_, _, _, rfl, rfl, hz, rfl, fun _ => .int _⟩
    · cases h
  · cases h
theorem ob_idiv (D : DivOk X) : OpB X (inplaceOp .FloorDiv) fDiv := opB_int (iop_divB D) fun _ _ _ h => div_some h
/-! sorted, of ints -/
theorem pw_perm_eq : ∀ {xs ys : List Int}, xs.Perm ys → xs.Pairwise (· ≤ ·) → ys.Pairwise (· ≤ ·) → xs = ys := fun p h1 h2 =>
  List.Perm.eq_of_pairwise (fun a b _ _ h1 h2 => Int.le_antisymm h1 h2) h1 h2 p
theorem isort_perm (ns : List Int) : (isort ns).Perm ns := List.mergeSort_perm _ _
theorem isort_sorted (ns : List Int) : (isort ns).Pairwise (· ≤ ·) := by
  have h := List.pairwise_mergeSort (le := fun a b : Int => decide (a ≤ b)) (fun a b c h1 h2 => by simp only [decide_eq_true_eq] at *; omega) (fun a b => by simp only [Bool.or_eq_true, decide_eq_true_eq]; omega) ns
  exact h.imp fun z => by simpa using z
theorem c_sorted : C1 X (.builtin "sorted") fSorted := ⟨_, cr_sortedI, fun Hf H c x z e hc e5 Q q => by
  simp only [fSorted, Option.bind_eq_some_iff, Option.map_eq_some_iff] at e5
  obtain ⟨xs, h1, ns, h2, rfl⟩ := e5
  obtain ⟨a, us, rfl, hs, d⟩ := lst_ok e hc h1
  rw [ints_ok h2 d] at hs
  refine ⟨a, ns, rfl, hs, fun ns' p h3 h4 hp => ?_⟩
  rw [pw_perm_eq (h3.trans (isort_perm ns).symm) h4 (isort_sorted ns)]
  exact newL e (dps_ints _) q p hp⟩
end
end Py
/-! PyA0: further meanings. -/
namespace Py
open PySem
/-- is True, is False -/
def fIsB (neg : Bool) : Ct → Ct → Option R
  | .pv (.bool a), .pv (.bool b) => some (.val (.bool (neg ^^ (a == b))))
  | _, _ => none
def flatD : PV → Bool
  | .int _ => true
  | .str _ => true
  | _ => false
def inD (x : PV) (xs : List PV) : Bool := xs.any fun y => PyData.eqv y x
/-- x in a list or a tuple -/
def fIn (neg : Bool) (c d : Ct) : Option R := match c with
  | .pv x => d.seq?.bind fun xs => if flatD x = true ∧ xs.all flatD = true then some (.val (.bool (neg ^^ inD x xs))) else
    d.lst?.bind fun xs => if SeqAt.shaped x = true ∧ SeqAt.shaped (.list xs) = true then some (.val (.bool (neg ^^ inD x xs))) else none
  | _ => none
/-- list(range(n)), list(range(m, n)) -/
def mLstR1 (a : M) : M := fun ρ => (a ρ).bind fun x => (look x.1 x.2).bind fun c => (intOf c).bind fun n => if n ≤ line ∧ -(2 ^ 62) ≤ n then some (.new (.lst (rangeL 0 n.toNat)), x.2) else none
def mLstR2 (a b : M) : M := fun ρ => (a ρ).bind fun x => (look x.1 x.2).bind fun c => (intOf c).bind fun lo => (b x.2).bind fun y => (look y.1 y.2).bind fun d => (intOf d).bind fun hi =>
  if -(2 ^ 61) ≤ lo ∧ lo < 2 ^ 61 ∧ -(2 ^ 61) ≤ hi ∧ hi < 2 ^ 61 ∧ (hi - lo) ≤ line then some (.new (.lst (rangeL lo (hi - lo).toNat)), y.2) else none
/-- xs[e] op= a -/
def sAugIx (i : Nat) (e : M) (f : Ct → Ct → Option R) (a : M) : SM := fun ρ => (lstAt ρ i).bind fun _ => (e ρ).bind fun y => (look y.1 y.2).bind fun c => (intOf c).bind fun k => (lstAt y.2 i).bind fun xs => (atI xs k).bind fun v =>
  (a y.2).bind fun x => (look x.1 x.2).bind fun c2 => (f (.pv v) c2).bind fun z => match z with
    | .val w => (lstAt x.2 i).bind fun ys => (ixN ys.length k).map fun j => (.nx, setOb x.2 i (.lst (ys.set j w)))
    | _ => none
/-- xs[::-1] of a list -/
def fRevL (c : Ct) : Option R := c.lst?.map fun xs => .new (.lst xs.reverse)
def fRevT (c : Ct) : Option R := c.tup?.map fun xs => .val (.tuple xs.reverse)
/-- range(lo, hi, -1) -/
def rangeD (lo : Int) (n : Nat) : List PV := (List.range n).map fun (k : Nat) => .int (lo - (k : Int))
def iRngD (a b : M) : MI := fun ρ => (a ρ).bind fun x => (look x.1 x.2).bind fun c => (intOf c).bind fun lo => (b x.2).bind fun y => (look y.1 y.2).bind fun d => (intOf d).bind fun hi =>
  if -(2 ^ 61) ≤ lo ∧ lo < 2 ^ 61 ∧ -(2 ^ 61) ≤ hi ∧ hi < 2 ^ 61 ∧ (lo - hi) ≤ line then some (rangeD lo (lo - hi).toNat, y.2) else none
/-- xs.insert(e, v) -/
def mInsert (i : Nat) (e a : M) : M := fun ρ => (lstAt ρ i).bind fun _ => (e ρ).bind fun y => (look y.1 y.2).bind fun c => (intOf c).bind fun k => (a y.2).bind fun x => (frz x.1 x.2).bind fun v => (lstAt v.2 i).bind fun xs =>
  if 0 ≤ k ∧ k < 2 ^ 62 ∧ xs.length < line then some (.val .none, setOb v.2 i (.lst (xs.take k.toNat ++ [v.1] ++ xs.drop k.toNat))) else none
/-- xs.index(e) of flat items -/
def fIndex (c d : Ct) : Option R := match d with
  | .pv x => c.lst?.bind fun xs => if flatD x = true ∧ xs.all flatD = true then (xs.findIdx? fun y => PyData.eqv y x).map fun j => .val (.int (j : Nat)) else none
  | _ => none
/-! dicts -/
def dctAt (ρ : Env) (i : Nat) : Option (List (Key × PV)) := match obAt ρ i with
  | some (.dct kvs) => some kvs
  | _ => none
def keyC : Ct → Option Key
  | .pv v => keyOf v
  | _ => none
def fDget : Ct → Ct → Option R
  | .ob (.dct kvs), c => (keyC c).bind fun k => (dGet kvs k).map .val
  | _, _ => none
/-- k in d -/
def fDin (neg : Bool) : Ct → Ct → Option R
  | c, .ob (.dct kvs) => (keyC c).map fun k => .val (.bool (neg ^^ (dGet kvs k).isSome))
  | _, _ => none
/-- d.get(k, v) -/
def mDget2 (d k v : M) : M := fun ρ => (d ρ).bind fun x => (look x.1 x.2).bind fun _ => (k x.2).bind fun y => (look y.1 y.2).bind fun ck => (keyC ck).bind fun key => (v y.2).bind fun z => (look x.1 z.2).bind fun c => match c, z.1 with
  | .ob (.dct kvs), .val w => some (.val ((dGet kvs key).getD w), z.2)
  | _, _ => none
/-- d[k] = v -/
def sDput (i : Nat) (e a : M) : SM := fun ρ => (a ρ).bind fun x => (frz x.1 x.2).bind fun v => (dctAt v.2 i).bind fun _ => (e v.2).bind fun y => (look y.1 y.2).bind fun c => (keyC c).bind fun k => (dctAt y.2 i).bind fun kvs =>
  if kvs.length < line then some (.nx, setOb y.2 i (.dct (dPut kvs k v.1))) else none
end Py
namespace Py
open PySem
def mIndex (a b : M) : M := fun ρ => (a ρ).bind fun x => (look x.1 x.2).bind fun c0 => c0.lst?.bind fun _ => (b x.2).bind fun y => (look x.1 y.2).bind fun cx => (look y.1 y.2).bind fun cy => (fIndex cx cy).map fun z => (z, y.2)
end Py
/-! PyA: rules of the further meanings. -/
namespace Py
open PySem PySem.Spec PyProof.Rows L2
section
variable {K : PySem.W.Frag} {Hf H Hf' H' Hf1 H1 Hf2 H2 H0 : Hp} {ρ ρ' ρ1 ρ2 : Env} {σ σ' σ1 σ2 : L2.St} {O O' O1 : Addr → Prop} {X : Cx}
/-! is True -/
theorem isB_S {neg : Bool} : OpS K (fun x y H Q => ∃ a b : Bool, x = .bl a ∧ y = .bl b ∧ Q (.bl (neg ^^ (a == b))) H) (fIsB neg) := fun Hf H c d x y z e hc hd e5 Q q => by
  unfold fIsB at e5
  split at e5
  · cases e5; cases hc; cases hd; exact ⟨_, _, rfl, rfl, old e (.bl _) q⟩
  · cases e5
theorem beq_dec (a b : Bool) : (a == b) = decide (a = b) := by cases a <;> cases b <;> rfl
theorem op_isB : OpR X (compareOp .Is) (fun x y H Q => ∃ a b : Bool, x = .bl a ∧ y = .bl b ∧ Q (.bl (false ^^ (a == b))) H) := by
  intro pins s σ H x y v u Q I rx ry h
  obtain ⟨a, b, e1, e2, q⟩ := h
  refine op_is_bl pins s σ H x y v u Q I rx ry ⟨a, b, e1, e2, ?_⟩
  rwa [← beq_dec, ← Bool.false_xor (a == b)]
theorem op_isntB : OpR X (compareOp .IsNot) (fun x y H Q => ∃ a b : Bool, x = .bl a ∧ y = .bl b ∧ Q (.bl (true ^^ (a == b))) H) := by
  intro pins s σ H x y v u Q I rx ry h
  obtain ⟨a, b, e1, e2, q⟩ := h
  refine op_isnot_bl pins s σ H x y v u Q I rx ry ⟨a, b, e1, e2, ?_⟩
  rwa [← beq_dec, ← Bool.true_xor (a == b)]
theorem ob_isB : OpB X (compareOp .Is) (fIsB false) := ⟨_, op_isB, isB_S⟩
theorem ob_isntB : OpB X (compareOp .IsNot) (fIsB true) := ⟨_, op_isntB, isB_S⟩
/-! in -/
theorem flat_V {u : V} {v : PV} (d : Dp K Hf u v) (h : flatD v = true) : flatV u = true := by
  cases d with
  | int _ => rfl
  | str _ => rfl
  | _ => cases h
theorem flat_eq {u w : V} {v x : PV} (d : Dp K Hf u v) (d2 : Dp K Hf w x) (h : flatD v = true) (h2 : flatD x = true) : eqV u w = PyData.eqv v x := by
  cases d with
  | int i =>
    cases d2 with
    | int j => rfl
    | str _ => rfl
    | _ => cases h2
  | str i =>
    cases d2 with
    | int j => rfl
    | str _ => rfl
    | _ => cases h2
  | _ => cases h
theorem flat_all : ∀ {us : List V} {xs : List PV}, DpAll K Hf us xs → xs.all flatD = true → us.all flatV = true
  | _, _, .nil, _ => rfl
  | _, _, .cons d t, h => by
    rw [List.all_cons, Bool.and_eq_true] at h ⊢
    exact ⟨flat_V d h.1, flat_all t h.2⟩
theorem flat_in {w : V} {x : PV} (d2 : Dp K Hf w x) (h2 : flatD x = true) : ∀ {us : List V} {xs : List PV}, DpAll K Hf us xs → xs.all flatD = true → inV w us = inD x xs
  | _, _, .nil, _ => rfl
  | _, _, .cons d t, h => by
    rw [List.all_cons, Bool.and_eq_true] at h
    have := flat_in d2 h2 t h.2
    unfold inV inD at this ⊢
    rw [List.any_cons, List.any_cons, this, flat_eq d d2 h.1 h2]
theorem seq_ok {c : Ct} {xs : List PV} {u : V} (e : Ex Hf H) (hc : RepC K Hf H c u) (h : c.seq? = some xs) : ∃ a us, u = .ref a ∧ (SqL K H a us ∨ SqT K H a us) ∧ DpAll K Hf us xs := by
  unfold Ct.seq? at h
  split at h
  · cases h; cases hc with | lst hs ha => exact ⟨_, _, rfl, .inl (ex_l e hs), ha⟩
  · cases h; cases hc with | tup hs ha => exact ⟨_, _, rfl, .inr (ex_t e hs), ha⟩
  · cases h; obtain ⟨a, rfl, us, h1, d1⟩ := hc; exact ⟨_, _, rfl, .inl (SqL.of h1), d1⟩
  · cases h
theorem lst_dp {c : Ct} {xs : List PV} {u : V} (e : Ex Hf H) (hc : RepC K Hf H c u) (h : c.lst? = some xs) : Dp K H u (.list xs) := by
  obtain ⟨a, us, rfl, hs, ha⟩ := lst_ok e hc h
  exact .lst hs (dps_mono e _ _ ha)
theorem in_S {neg : Bool} : OpS K (fun x y H Q => rIn K neg x y H Q ∨ (∃ d ds, Dp K H x d ∧ Dp K H y (.list ds) ∧ SeqAt.shaped d = true ∧ SeqAt.shaped (.list ds) = true ∧ Q (.bl (neg ^^ (ds.any fun z => PyData.eqv z d))) H)) (fIn neg) := fun Hf H c d x y z e hc hd e5 Q q => by
  unfold fIn at e5
  split at e5
  · rename_i v
    simp only [Option.bind_eq_some_iff] at e5
    obtain ⟨xs, h1, h2⟩ := e5
    split at h2
    · rename_i hf
      cases h2
      obtain ⟨a, us, rfl, hs, da⟩ := seq_ok e hd h1
      refine .inl ⟨a, us, rfl, hs, flat_V (dp_mono e _ _ hc) hf.1, flat_all da hf.2, ?_⟩
      rw [flat_in hc hf.1 da hf.2]
      have eb : (if neg = true then !inD v xs else inD v xs) = (neg ^^ inD v xs) := by cases neg <;> simp
      rw [eb]
      exact old e (.bl _) q
    · simp only [Option.bind_eq_some_iff] at h2
      obtain ⟨ys, h3, h4⟩ := h2
      split at h4
      · rename_i hf
        cases h4
        exact .inr ⟨v, ys, dp_mono e _ _ hc, lst_dp e hd h3, hf.1, hf.2, old e (.bl _) q⟩
      · cases h4
  · cases e5
theorem op_inDx (hu : X.A.units + 65 < cLine) : OpR X (compareOp .In) (fun x y H Q => ∃ d ds, Dp X.K H x d ∧ Dp X.K H y (.list ds) ∧ SeqAt.shaped d = true ∧ SeqAt.shaped (.list ds) = true ∧ Q (.bl (false ^^ (ds.any fun z => PyData.eqv z d))) H) := by
  intro pins s σ H x y v u Q I rx ry h
  obtain ⟨d, ds, a1, a2, a3, a4, q⟩ := h
  exact op_inD hu pins s σ H x y v u Q I rx ry ⟨d, ds, a1, a2, a3, a4, by rwa [Bool.false_xor] at q⟩
theorem op_notInDx (hu : X.A.units + 65 < cLine) : OpR X (compareOp .NotIn) (fun x y H Q => ∃ d ds, Dp X.K H x d ∧ Dp X.K H y (.list ds) ∧ SeqAt.shaped d = true ∧ SeqAt.shaped (.list ds) = true ∧ Q (.bl (true ^^ (ds.any fun z => PyData.eqv z d))) H) := by
  intro pins s σ H x y v u Q I rx ry h
  obtain ⟨d, ds, a1, a2, a3, a4, q⟩ := h
  exact op_notInD hu pins s σ H x y v u Q I rx ry ⟨d, ds, a1, a2, a3, a4, by rwa [Bool.true_xor] at q⟩
theorem ob_in (hu : X.A.units + 65 < cLine) : OpB X (compareOp .In) (fIn false) := ⟨_, op_in_seq.or (op_inDx hu), in_S⟩
theorem ob_notIn (hu : X.A.units + 65 < cLine) : OpB X (compareOp .NotIn) (fIn true) := ⟨_, op_notIn_seq.or (op_notInDx hu), in_S⟩
/-! list(range(..)) -/
theorem dps_rng (lo : Int) (n : Nat) : DpAll K Hf ((List.range n).map fun i => V.int (lo + (i : Nat))) (rangeL lo n) := by
  unfold rangeL
  induction (List.range n) with
  | nil => exact .nil
  | cons a l ih => exact .cons (.int _) ih
theorem se_lstR1 {te : TE} {a : M} (ha : SE K te a) : SE K (tLstRg (tRg1 te)) (mLstR1 a) := by
  intro ρ r ρ' σ Hf H hm E Q q
  simp only [mLstR1, Option.bind_eq_some_iff] at hm
  obtain ⟨⟨x, ρ1⟩, e1, c, e2, n, e3, e4⟩ := hm
  split at e4
  · rename_i hz
    cases e4
    refine ha ρ x ρ1 σ Hf H e1 E _ fun u Hf1 H1 S1 E1 R1 k1 => ?_
    have B1 : Bh K Hf H ρ σ Hf1 H1 ρ1 := ⟨S1, E1, k1⟩
    have hl : (line : Int) = 16777216 := rfl
    refine ⟨n, intOf_some e3 (look_ok E1 R1 e2), ⟨by omega, by omega, by omega, by omega, by omega⟩, fun p hp => ?_⟩
    obtain ⟨S, fp⟩ := new_ob (o := .lst (rgV 0 n)) E1.ff hp
    have B2 := B1.more S
    refine q _ _ _ B2.st B2.en ⟨p, rfl, B1.fresh hp, fp, _, upd_same, ?_⟩ B2.kp
    unfold rgV
    rw [Int.sub_zero]
    exact dps_rng 0 n.toNat
  · cases e4
theorem se_lstR2 {te tf : TE} {a b : M} (ha : SE K te a) (hb : SE K tf b) : SE K (tLstRg (tRg2 te tf)) (mLstR2 a b) := by
  intro ρ r ρ' σ Hf H hm E Q q
  simp only [mLstR2, Option.bind_eq_some_iff] at hm
  obtain ⟨⟨x, ρ1⟩, e1, c, e2, n, e3, ⟨y, ρ2⟩, e4, d, e5, k, e6, e7⟩ := hm
  split at e7
  · rename_i hz
    cases e7
    refine ha ρ x ρ1 σ Hf H e1 E _ fun u Hf1 H1 S1 E1 R1 k1 => ?_
    have B1 : Bh K Hf H ρ σ Hf1 H1 ρ1 := ⟨S1, E1, k1⟩
    have eu := intOf_some e3 (look_ok E1 R1 e2)
    refine hb ρ1 y ρ2 σ Hf1 H1 e4 E1 _ fun w Hf2 H2 S2 E2 R2 k2 => ?_
    have B2 := B1.trans (⟨S2, E2, k2⟩ : Bh K Hf1 H1 ρ1 σ Hf2 H2 ρ2)
    have hl : (line : Int) = 16777216 := rfl
    refine ⟨n, k, eu, intOf_some e6 (look_ok E2 R2 e5), ⟨by omega, by omega, by omega, by omega, by omega⟩, fun p hp => ?_⟩
    obtain ⟨S, fp⟩ := new_ob (o := .lst (rgV n k)) E2.ff hp
    have B3 := B2.more S
    exact q _ _ _ B3.st B3.en ⟨p, rfl, B2.fresh hp, fp, _, upd_same, dps_rng n (k - n).toNat⟩ B3.kp
  · cases e7
end
section
variable {X : Cx} {a b : Expr} {ma mb : M} {p p' pos pos' : Pos}
theorem be_lstR1 (hc : X.calm = true) (hg : Gl X "list") (hm : X.mg "list" = none) (hg' : Gl X "range") (hm' : X.mg "range" = none) (ha : BE X a ma) (na : starEach [a] X.env = (false, eval a X.env) :: starEach [] X.env := by rfl)
    (na' : starEach [.Call (.Name "range" p') [a] [] pos'] X.env = (false, eval (.Call (.Name "range" p') [a] [] pos') X.env) :: starEach [] X.env := by rfl) : BE X (.Call (.Name "list" p) [.Call (.Name "range" p') [a] [] pos'] [] pos) (mLstR1 ma) := by
  obtain ⟨t, a1, a2⟩ := ha
  exact ⟨_, pe_listRg hc hg hm (prg_1 hg' hm' a1 na) na', se_lstR1 a2⟩
theorem be_lstR2 (hc : X.calm = true) (hg : Gl X "list") (hm : X.mg "list" = none) (hg' : Gl X "range") (hm' : X.mg "range" = none) (ha : BE X a ma) (hb : BE X b mb) (na : starEach [a, b] X.env = (false, eval a X.env) :: starEach [b] X.env := by rfl) (nb : starEach [b] X.env = (false, eval b X.env) :: starEach [] X.env := by rfl)
    (hp : (backTo pos' (starEach [b] X.env)).any (·.1) = false := by rfl)
    (na' : starEach [.Call (.Name "range" p') [a, b] [] pos'] X.env = (false, eval (.Call (.Name "range" p') [a, b] [] pos') X.env) :: starEach [] X.env := by rfl) : BE X (.Call (.Name "list" p) [.Call (.Name "range" p') [a, b] [] pos'] [] pos) (mLstR2 ma mb) := by
  obtain ⟨t, a1, a2⟩ := ha
  obtain ⟨u, b1, b2⟩ := hb
  exact ⟨_, pe_listRg hc hg hm (prg_2 hg' hm' a1 b1 na nb hp) na', se_lstR2 a2 b2⟩
end
end Py
/-! PyB: rules of the further meanings: stores, dicts. -/
namespace Py
open PySem PySem.Spec PyProof.Rows L2
section
variable {K : PySem.W.Frag} {Hf H Hf' H' Hf1 H1 Hf2 H2 H0 : Hp} {ρ ρ' ρ1 ρ2 : Env} {σ σ' σ1 σ2 : L2.St} {O O' O1 : Addr → Prop} {X : Cx}
theorem get_ixL : PGet X (rIxL X.K) := by
  intro pins s σ H x y v u Q I rx ry h
  obtain ⟨p, xs, i, z, rfl, rfl, hq, he, q⟩ := h
  cases rx
  obtain ⟨t, rfl⟩ := ry
  obtain ⟨its, r, pl, hz⟩ := I.list hq
  obtain ⟨j, h1, h2, h3, h4, h5⟩ := atI_get he
  obtain ⟨w, ew, rw'⟩ := r.get h2
  have hl := r.length
  have hn := line63
  have fin : EP X pins σ Q w s := ⟨z, H, I, rw', q⟩
  by_cases h0 : 0 ≤ i
  · have hj : i.toNat = j := by
      rw [seqIndex_of h0 h5] at h1
      exact Option.some.inj h1
    exact wpAny_getItem_list pl.isList h0 (by omega) (by rw [hj]; simpa using ew) fin
  · have hj : (i + (its.toArray.size : Int)).toNat = j := by
      rw [seqIndex_neg (by omega) h4] at h1
      rw [List.size_toArray, ← hl]
      exact Option.some.inj h1
    exact wpAny_getItem_list_neg pl.isList (by omega) (by rw [List.size_toArray] <;> omega) (by omega) (by rw [hj]; simpa using ew) fin
/-- xs[e] op= a -/
theorem ss_augIx {i : Nat} {te ti : TE} {a e : M} {r : R2} {f : Ct → Ct → Option R} (he : SE K ti e) (ha : SE K te a) (hr : OpS K r f) : SS K (tAugS (tVar i) ti te (rIxL K) r rSetL) (sAugIx i e f a) := by
  intro ρ fl ρ' σ Hf H hm E D q
  simp only [sAugIx, Option.bind_eq_some_iff] at hm
  obtain ⟨ys, h0, ⟨y, ρ1⟩, e1, c, e2, k, e3, xs, e4, v, e5, ⟨x, ρ2⟩, e6, c2, e7, z, e8, e9⟩ := hm
  cases z with
  | new o => cases e9
  | bor j => cases e9
  | val w =>
    simp only [Option.bind_eq_some_iff, Option.map_eq_some_iff, Prod.mk.injEq] at e9
    obtain ⟨zs, e10, j, e11, rfl, rfl⟩ := e9
    obtain ⟨p, o1, s1, f1, ⟨vs, hv, dv⟩, _⟩ := obAt_ok E (lstAt_ok E h0)
    refine ⟨_, slot_at s1, ?_⟩
    refine he ρ y ρ1 σ Hf H e1 E _ fun u Hf1 H1 S1 E1 R1 k1 => ?_
    have B1 : Bh K Hf H ρ σ Hf1 H1 ρ1 := ⟨S1, E1, k1⟩
    have eu := intOf_some e3 (look_ok E1 R1 e2)
    subst eu
    obtain ⟨p', o2, s2, f2, ⟨ws, hw, dw⟩, hi⟩ := obAt_ok E1 (lstAt_ok E1 e4)
    rw [s1] at s2
    cases s2
    obtain ⟨uv, g1, g2⟩ := at_ok dw e5
    refine ⟨p, ws, k, uv, rfl, rfl, SqL.of hw, g1, ?_⟩
    refine ha ρ1 x ρ2 σ Hf1 H1 e6 E1 _ fun u2 Hf2 H2 S2 E2 R2 k2 => ?_
    have B2 := B1.trans (⟨S2, E2, k2⟩ : Bh K Hf1 H1 ρ1 σ Hf2 H2 ρ2)
    refine hr Hf2 H2 (.pv v) c2 uv u2 _ E2.ff (dp_mono S2.ff _ _ g2) (look_ok E2 R2 e7) e8 _ fun t Hf3 H3 S3 R3 => ?_
    have B3 := B2.more S3
    obtain ⟨p', o3, s3, f3, ⟨ts, ht, dt⟩, hi3⟩ := obAt_ok B3.en (lstAt_ok B3.en e10)
    rw [s1] at s3
    cases s3
    have B4 := B3.trans (mut_ok (o := .lst zs) (o' := .lst (zs.set j w)) (ho := .lst (ts.set j t)) B3.en o3 hi3 ⟨_, upd_same, dps_set R3 _ dt⟩)
    exact ⟨p, ts, k, j, rfl, rfl, ht, by rw [dps_len dt]; exact e11, q σ Hf3 _ B4.s⟩
/-- range(lo, hi, -1) -/
theorem walk_d {lo : Int} {n : Nat} : Walk K (Itc lo (-1) n) (rangeD lo n) O Hf H := by
  intro Hf2 H2 S i
  unfold rangeD
  constructor
  · intro x hx
    rw [List.getElem?_map, Option.map_eq_some_iff] at hx
    obtain ⟨k, h1, rfl⟩ := hx
    obtain ⟨h2, h3⟩ := List.getElem?_eq_some_iff.mp h1
    rw [List.getElem_range] at h3
    subst h3
    rw [List.length_range] at h2
    refine ⟨h2, fun u H3 ⟨e1, e2⟩ => ⟨e1, ?_⟩⟩
    rw [e2, show lo + (i : Int) * -1 = lo - (i : Int) by omega]
    exact .int _
  · intro hi
    have h : n ≤ i := by simpa using hi
    exact h
theorem si_rngD {te tf tg : TE} {a b : M} (ha : SE K te a) (hb : SE K tf b) (hc : ∀ σ H Q, Q (.int (-1)) H → tg σ H Q) : SI K (L2.iRng3 (tCons te (tCons tf (tCons tg tNil)))) (Py.iRngD a b) := by
  intro ρ xs ρ' σ Hf H hm E R q
  simp only [Py.iRngD, Option.bind_eq_some_iff] at hm
  obtain ⟨⟨x, ρ1⟩, e1, c, e2, n, e3, ⟨y, ρ2⟩, e4, d, e5, k, e6, e7⟩ := hm
  split at e7
  · rename_i hz
    cases e7
    refine ha ρ x ρ1 σ Hf H e1 E _ fun u Hf1 H1 S1 E1 R1 k1 => ?_
    have B1 : Bh K Hf H ρ σ Hf1 H1 ρ1 := ⟨S1, E1, k1⟩
    have eu := intOf_some e3 (look_ok E1 R1 e2)
    refine hb ρ1 y ρ2 σ Hf1 H1 e4 E1 _ fun w Hf2 H2 S2 E2 R2 k2 => ?_
    have B2 := B1.trans (⟨S2, E2, k2⟩ : Bh K Hf1 H1 ρ1 σ Hf2 H2 ρ2)
    refine hc σ H2 _ ?_
    exact ⟨n, k, -1, (n - k).toNat, by rw [eu, intOf_some e6 (look_ok E2 R2 e5)], RgC.neg (by omega) (by omega) (by omega) (by omega), q _ Hf2 H2 B2 walk_d⟩
  · cases e7
/-- xs.insert(e, a) -/
theorem se_insert {i : Nat} {te ta : TE} {e a : M} (he : SE K te e) (ha : SE K ta a) : SE K (tBM K "list" (fun x vs H Q => ∃ (l : Addr) (xs : List V) (i : Int) (y : V), x = .ref l ∧ vs = [.int i, y] ∧ H l = some (.lst xs) ∧ xs.length < sizeLine ∧ 0 ≤ i ∧ i < 2 ^ 63 ∧
    Q .non (upd H l (.lst (xs.take i.toNat ++ [y] ++ xs.drop i.toNat)))) (tVar i) (tCons te (tCons ta tNil))) (mInsert i e a) := by
  intro ρ r ρ' σ Hf H hm E Q q
  simp only [mInsert, Option.bind_eq_some_iff] at hm
  obtain ⟨ys, h0, ⟨y, ρ1⟩, e1, c, e2, k, e3, ⟨x, ρ2⟩, e4, ⟨v, ρ3⟩, e5, xs, e6, e7⟩ := hm
  split at e7
  · rename_i hz
    cases e7
    obtain ⟨p, o1, s1, f1, ⟨vs, hv, dv⟩, _⟩ := obAt_ok E (lstAt_ok E h0)
    refine ⟨_, slot_at s1, .inl ⟨rfl, _, SqL.of hv⟩, ?_⟩
    refine he ρ y ρ1 σ Hf H e1 E _ fun u Hf1 H1 S1 E1 R1 k1 => ?_
    have B1 : Bh K Hf H ρ σ Hf1 H1 ρ1 := ⟨S1, E1, k1⟩
    have eu := intOf_some e3 (look_ok E1 R1 e2)
    refine ha ρ1 x ρ2 σ Hf1 H1 e4 E1 _ fun u2 Hf2 H2 S2 E2 R2 k2 => ?_
    have B2' : Bh K Hf1 H1 ρ1 σ Hf2 H2 ρ2 := ⟨S2, E2, k2⟩
    obtain ⟨Hf3, B3', d⟩ := B2'.frz E1 R2 e5
    have B3 := B1.trans B3'
    obtain ⟨p', o2, s2, f2, ⟨ws, hw, dw⟩, hi⟩ := obAt_ok B3.en (lstAt_ok B3.en e6)
    rw [s1] at s2
    cases s2
    have B4 := B3.trans (mut_ok (o := .lst xs) (o' := .lst (xs.take k.toNat ++ [v] ++ xs.drop k.toNat)) (ho := .lst (ws.take k.toNat ++ [u2] ++ ws.drop k.toNat)) B3.en o2 hi ⟨_, upd_same, dps_app (dps_app (dps_take _ dw) (.cons d .nil)) (dps_drop _ dw)⟩)
    exact ⟨p, ws, k, u2, rfl, by rw [eu], hw, by rw [dps_len dw, ← line_eq]; exact hz.2.2, hz.1, by omega, q _ _ _ B4.st B4.en .non B4.kp⟩
  · cases e7
end
section
variable {X : Cx} {a b e : Expr} {ma mb me : M} {x y : Str} {p p' apos pos pos' : Pos}
theorem bs_augIx (i : Nat) {op : Operator} {f : Ct → Ct → Option R} (ho : PE X (.Name x p) (tVar i)) (hop : OpB X (inplaceOp op) f) (he : BE X e me) (ha : BE X a ma)
    (hst : ∀ ov iv new, augStore e ov iv new = (do holding [new, ov, iv] (setItem ov iv new); release [new, ov, iv] []; pure .next) := by intros; rfl) (hs : PlainIx e := by intro _ _; rfl) : BS X (.AugAssign (.Subscript (.Name x p) e p') op a pos) (sAugIx i me f ma) := by
  obtain ⟨r, o1, o2⟩ := hop
  obtain ⟨t, a1, a2⟩ := ha
  obtain ⟨u, b1, b2⟩ := he
  exact ⟨_, ps_augS ho b1 get_ixL a1 (fun pins s σ H x y v u Q I rx ry q => o1 pins s σ H x y v u Q I rx ry q) set_list hst, ss_augIx b2 a2 o2⟩
end
end Py
/-! PyC: dicts. -/
namespace Py
open PySem PySem.Spec PyProof.Rows L2
section
variable {K : PySem.W.Frag} {Hf H Hf' H' Hf1 H1 Hf2 H2 H0 : Hp} {ρ ρ' ρ1 ρ2 : Env} {σ σ' σ1 σ2 : L2.St} {O O' O1 : Addr → Prop} {X : Cx}
theorem kvs_get : ∀ {ws : List (Key × V)} {kvs : List (Key × PV)} (k : Key), KvAll K Hf ws kvs → (∀ d, dGet kvs k = some d → ∃ u, valV ws k = some u ∧ Dp K Hf u d) ∧ (dGet kvs k = none → valV ws k = none)
  | _, _, k, .nil => ⟨(fun d h => by simp [dGet] at h), fun _ => rfl⟩
  | _, _, k, .cons (k := j) (v := v) (d := d) (ws := ws) (kvs := kvs) r t => by
    obtain ⟨h1, h2⟩ := kvs_get k t
    unfold dGet at h1 h2 ⊢
    by_cases e : j = k
    · rw [List.find?_cons_of_pos (by simpa using e)]
      refine ⟨fun d' h => ?_, fun h => by cases h⟩
      cases h
      exact ⟨v, valV_pos (p := (j, v)) e, r⟩
    · rw [List.find?_cons_of_neg (by simpa using e)]
      refine ⟨fun d' h => ?_, fun h => ?_⟩
      · rw [valV_neg (p := (j, v)) e]; exact h1 d' h
      · rw [valV_neg (p := (j, v)) e]; exact h2 h
theorem keyOf_ok {v : PV} {k : Key} {u : V} (h : keyOf v = some k) (d : Dp K Hf u v) : u = kV k := by
  unfold keyOf at h
  split at h
  · cases h; cases d; rfl
  · cases h; cases d; rfl
  · cases h
theorem keyC_ok {c : Ct} {k : Key} {u : V} (h : keyC c = some k) (r : RepC K Hf H c u) : u = kV k := by
  unfold keyC at h
  split at h
  · exact keyOf_ok h r
  · cases h
theorem dctAt_ok {i : Nat} {kvs : List (Key × PV)} (h : dctAt ρ i = some kvs) : obAt ρ i = some (.dct kvs) := by
  unfold dctAt at h
  split at h
  · cases h; assumption
  · cases h
theorem kvs_len : ∀ {ws : List (Key × V)} {kvs : List (Key × PV)}, KvAll K Hf ws kvs → ws.length = kvs.length
  | _, _, .nil => rfl
  | _, _, .cons _ t => by simp [kvs_len t]
theorem kvs_app : ∀ {ws ws2 : List (Key × V)} {kvs kvs2 : List (Key × PV)}, KvAll K Hf ws kvs → KvAll K Hf ws2 kvs2 → KvAll K Hf (ws ++ ws2) (kvs ++ kvs2)
  | _, _, _, _, .nil, t => t
  | _, _, _, _, .cons r s, t => .cons r (kvs_app s t)
theorem kvs_any (k : Key) : ∀ {ws : List (Key × V)} {kvs : List (Key × PV)}, KvAll K Hf ws kvs → (kvs.find? fun kv => decide (kv.1 = k)).isSome = (ws.any fun kv => decide (kv.1 = k))
  | _, _, .nil => rfl
  | _, _, .cons (k := j) (v := v) (d := d) r t => by
    rw [List.any_cons]
    by_cases e : j = k
    · rw [List.find?_cons_of_pos (by simpa using e)]; simp [e]
    · rw [List.find?_cons_of_neg (by simpa using e), kvs_any k t]; simp [e]
theorem kvs_map (k : Key) {v : PV} {u : V} (d0 : Dp K Hf u v) : ∀ {ws : List (Key × V)} {kvs : List (Key × PV)}, KvAll K Hf ws kvs → KvAll K Hf (ws.map fun kv => if kv.1 = k then (kv.1, u) else kv) (kvs.map fun kv => if kv.1 = k then (k, v) else kv)
  | _, _, .nil => .nil
  | _, _, .cons (k := j) (v := w) (d := d) r t => by
    rw [List.map_cons, List.map_cons]
    by_cases e : j = k
    · subst e
      rw [if_pos rfl, if_pos rfl]
      exact .cons d0 (kvs_map _ d0 t)
    · rw [if_neg e, if_neg e]
      exact .cons r (kvs_map _ d0 t)
theorem kvs_put {ws : List (Key × V)} {kvs : List (Key × PV)} (k : Key) {v : PV} {u : V} (r : KvAll K Hf ws kvs) (d : Dp K Hf u v) : KvAll K Hf (putK ws k u) (dPut kvs k v) := by
  unfold putK dPut
  rw [kvs_any k r]
  split
  · exact kvs_map k d r
  · exact kvs_app r (.cons d .nil)
/-- d[k] -/
theorem se_dget {td tk : TE} {a b : M} (ha : SE K td a) (hb : SE K tk b) : SE K (tDGet td tk) (mOp fDget a b) := by
  intro ρ r ρ' σ Hf H hm E Q q
  simp only [mOp, Option.bind_eq_some_iff, Option.map_eq_some_iff, Prod.mk.injEq] at hm
  obtain ⟨⟨x, ρ1⟩, e1, ⟨y, ρ2⟩, e2, cx, e3, cy, e4, z, e5, rfl, rfl⟩ := hm
  refine ha ρ x ρ1 σ Hf H e1 E _ fun u Hf1 H1 S1 E1 R1 k1 => ?_
  have B1 : Bh K Hf H ρ σ Hf1 H1 ρ1 := ⟨S1, E1, k1⟩
  refine hb ρ1 y ρ2 σ Hf1 H1 e2 E1 _ fun w Hf2 H2 S2 E2 R2 k2 => ?_
  have B2 : Bh K Hf1 H1 ρ1 σ Hf2 H2 ρ2 := ⟨S2, E2, k2⟩
  have R1' := B1.keepR E B2 R1
  have hx := look_ok E2 R1' e3
  have hy := look_ok E2 R2 e4
  have B3 := B1.trans B2
  unfold fDget at e5
  split at e5
  · simp only [Option.bind_eq_some_iff, Option.map_eq_some_iff] at e5
    obtain ⟨k, h1, d, h2, rfl⟩ := e5
    obtain ⟨p, rfl, ws, hw, kw⟩ := hx
    obtain ⟨t, g1, g2⟩ := (kvs_get k kw).1 d h2
    have ey := keyC_ok h1 hy
    subst ey
    exact ⟨p, t, rfl, by rw [← g1]; exact .inl ⟨_, _, hw, rfl, rfl⟩, q t Hf2 H2 B3.st B3.en g2 B3.kp⟩
  · cases e5
/-- k in d -/
theorem se_din {td tk : TE} {a b : M} (ha : SE K tk a) (hb : SE K td b) : SE K (tDIn tk td) (mOp (fDin false) a b) ∧ SE K (tDNotIn tk td) (mOp (fDin true) a b) := by
  constructor
  all_goals
    intro ρ r ρ' σ Hf H hm E Q q
    simp only [mOp, Option.bind_eq_some_iff, Option.map_eq_some_iff, Prod.mk.injEq] at hm
    obtain ⟨⟨x, ρ1⟩, e1, ⟨y, ρ2⟩, e2, cx, e3, cy, e4, z, e5, rfl, rfl⟩ := hm
    refine ha ρ x ρ1 σ Hf H e1 E _ fun u Hf1 H1 S1 E1 R1 k1 => ?_
    have B1 : Bh K Hf H ρ σ Hf1 H1 ρ1 := ⟨S1, E1, k1⟩
    refine hb ρ1 y ρ2 σ Hf1 H1 e2 E1 _ fun w Hf2 H2 S2 E2 R2 k2 => ?_
    have B2 : Bh K Hf1 H1 ρ1 σ Hf2 H2 ρ2 := ⟨S2, E2, k2⟩
    have R1' := B1.keepR E B2 R1
    have hx := look_ok E2 R1' e3
    have hy := look_ok E2 R2 e4
    have B3 := B1.trans B2
    unfold fDin at e5
    split at e5
    · simp only [Option.map_eq_some_iff] at e5
      obtain ⟨k, h1, rfl⟩ := e5
      obtain ⟨p, rfl, ws, hw, kw⟩ := hy
      have ey := keyC_ok h1 hx
      subst ey
      refine ⟨p, valV ws k, rfl, .inl ⟨_, _, hw, rfl, rfl⟩, ?_⟩
      rename_i kvs
      have es : (valV ws k).isSome = (dGet kvs k).isSome := by
        obtain ⟨g1, g2⟩ := kvs_get k kw
        cases hd : dGet kvs k with
        | none => rw [g2 hd]; rfl
        | some d => obtain ⟨u, h, _⟩ := g1 d hd; rw [h]; rfl
      rw [es]
      refine q _ Hf2 H2 B3.st B3.en ?_ B3.kp
      first
        | (rw [Bool.false_xor]; exact .bl _)
        | (rw [Bool.true_xor]; exact .bl _)
    · cases e5
/-- d[k] = v -/
theorem ss_dput {i : Nat} {te ti : TE} {a e : M} (ha : SE K te a) (he : SE K ti e) : SS K (sDPut (tVar i) ti te) (Py.sDput i e a) := by
  intro ρ f ρ' σ Hf H hm E D q
  simp only [Py.sDput, Option.bind_eq_some_iff] at hm
  obtain ⟨⟨x, ρ1⟩, e1, ⟨v, ρ2⟩, e2, ys, h0, ⟨y, ρ3⟩, e3, c, e4, k, e5, kvs, e6, e7⟩ := hm
  split at e7
  · rename_i hz
    cases e7
    refine ha ρ x ρ1 σ Hf H e1 E _ fun u Hf1 H1 S1 E1 R1 k1 => ?_
    have B1 : Bh K Hf H ρ σ Hf1 H1 ρ1 := ⟨S1, E1, k1⟩
    obtain ⟨Hf2, B2, d⟩ := B1.frz E R1 e2
    obtain ⟨p, o1, s1, f1, ⟨vs, hv, dv⟩, _⟩ := obAt_ok B2.en (dctAt_ok h0)
    refine ⟨_, slot_at s1, ?_⟩
    refine he ρ2 y ρ3 σ Hf2 H1 e3 B2.en _ fun w Hf3 H3 S3 E3 R3 k3 => ?_
    have B3' : Bh K Hf2 H1 ρ2 σ Hf3 H3 ρ3 := ⟨S3, E3, k3⟩
    have B3 := B2.trans B3'
    have ey := keyC_ok e5 (look_ok E3 R3 e4)
    subst ey
    obtain ⟨p', o2, s2, f2, ⟨ws, hw, kw⟩, hi⟩ := obAt_ok B3.en (dctAt_ok e6)
    rw [s1] at s2
    cases s2
    have d' := dp_mono S3.ff _ _ d
    have B4 := B3.trans (mut_ok (o := .dct kvs) (o' := .dct (dPut kvs k v)) (ho := .dK (putK ws k u)) B3.en o2 hi ⟨_, upd_same, kvs_put k kw d'⟩)
    exact ⟨p, _, rfl, DPut.k hw (by rw [kvs_len kw, ← line_eq]; exact hz), q σ Hf3 _ B4.s⟩
  · cases e7
end
section
variable {X : Cx} {a b e : Expr} {ma mb me : M} {x y : Str} {p p' apos pos pos' : Pos}
theorem be_dget (hu : X.A.units + 64 < cLine) (ha : BE X a ma) (hb : BE X b mb) (hs : NoSl b := by intro _ _; rfl) : BE X (.Subscript a b pos) (mOp fDget ma mb) := by
  obtain ⟨t, a1, a2⟩ := ha
  obtain ⟨u, b1, b2⟩ := hb
  exact ⟨_, pe_dget (by omega) a1 b1 hs, se_dget a2 b2⟩
theorem be_din (hu : X.A.units + 64 < cLine) (ha : BE X a ma) (hb : BE X b mb) (hm : behindInMarks .In b = false := by with_unfolding_all rfl) : BE X (.Compare a [.In] [b] pos) (mOp (fDin false) ma mb) := by
  obtain ⟨t, a1, a2⟩ := ha
  obtain ⟨u, b1, b2⟩ := hb
  exact ⟨_, pe_cmp (pc_din (by omega) a1 b1) hm, (se_din a2 b2).1⟩
theorem be_dnotIn (hu : X.A.units + 64 < cLine) (ha : BE X a ma) (hb : BE X b mb) (hm : behindInMarks .NotIn b = false := by with_unfolding_all rfl) : BE X (.Compare a [.NotIn] [b] pos) (mOp (fDin true) ma mb) := by
  obtain ⟨t, a1, a2⟩ := ha
  obtain ⟨u, b1, b2⟩ := hb
  exact ⟨_, pe_cmp (pc_dnotin (by omega) a1 b1) hm, (se_din a2 b2).2⟩
end
end Py
/-! PyD: methods, slices. -/
namespace Py
open PySem PySem.Spec PyProof.Rows L2
section
variable {K : PySem.W.Frag} {Hf H Hf' H' Hf1 H1 Hf2 H2 H0 : Hp} {ρ ρ' ρ1 ρ2 : Env} {σ σ' σ1 σ2 : L2.St} {O O' O1 : Addr → Prop} {X : Cx}
theorem find_first {xs : List PV} {p : PV → Bool} {j : Nat} (h : xs.findIdx? p = some j) : ∃ z, xs[j]? = some z ∧ p z = true ∧ ∀ m z', m < j → xs[m]? = some z' → p z' = false := by
  rw [List.findIdx?_eq_some_iff_getElem] at h
  obtain ⟨hl, h1, h2⟩ := h
  refine ⟨xs[j], by simp [hl], h1, fun m z' hm hz => ?_⟩
  obtain ⟨hm2, e⟩ := List.getElem?_eq_some_iff.mp hz
  have := h2 m hm
  rw [e] at this
  simpa using this
/-- xs.index(x) -/
theorem se_index {td tk : TE} {a b : M} (ha : SE K td a) (hb : SE K tk b) : SE K (tBM K "list" (rIndex K) td (tCons tk tNil)) (mIndex a b) := by
  intro ρ r ρ' σ Hf H hm E Q q
  simp only [mIndex, Option.bind_eq_some_iff, Option.map_eq_some_iff, Prod.mk.injEq] at hm
  obtain ⟨⟨x, ρ1⟩, e1, c0, f1, ys, f2, ⟨y, ρ2⟩, e2, cx, e3, cy, e4, z, e5, rfl, rfl⟩ := hm
  refine ha ρ x ρ1 σ Hf H e1 E _ fun u Hf1 H1 S1 E1 R1 k1 => ?_
  have B1 : Bh K Hf H ρ σ Hf1 H1 ρ1 := ⟨S1, E1, k1⟩
  obtain ⟨p0, us0, eu0, hs0, _⟩ := lst_ok E1.ff (look_ok E1 R1 f1) f2
  subst eu0
  refine ⟨.inl ⟨rfl, us0, hs0⟩, ?_⟩
  refine hb ρ1 y ρ2 σ Hf1 H1 e2 E1 _ fun w Hf2 H2 S2 E2 R2 k2 => ?_
  have B2 : Bh K Hf1 H1 ρ1 σ Hf2 H2 ρ2 := ⟨S2, E2, k2⟩
  have R1' := B1.keepR E B2 R1
  have hx := look_ok E2 R1' e3
  have hy := look_ok E2 R2 e4
  have B3 := B1.trans B2
  unfold fIndex at e5
  split at e5
  · rename_i v
    simp only [Option.bind_eq_some_iff] at e5
    obtain ⟨xs, h1, h2⟩ := e5
    split at h2
    · rename_i hf
      simp only [Option.map_eq_some_iff] at h2
      obtain ⟨j, h3, rfl⟩ := h2
      obtain ⟨p, us, ep, hs, da⟩ := lst_ok E2.ff hx h1
      obtain ⟨z, z1, z2, z3⟩ := find_first h3
      obtain ⟨t, t1, t2⟩ := dps_get da z1
      have fz : flatD z = true := List.all_eq_true.mp hf.2 z (List.mem_of_getElem? z1)
      refine ⟨p, us, w, j, t, ep, rfl, hs, flat_V hy hf.1, flat_all da hf.2, t1, by rw [flat_eq t2 hy fz hf.1]; exact z2, fun m z' hm hz => ?_, q _ Hf2 H2 B3.st B3.en (.int _) B3.kp⟩
      obtain ⟨d, d1, d2⟩ := dps_get' da hz
      have fd : flatD d = true := List.all_eq_true.mp hf.2 d (List.mem_of_getElem? d1)
      rw [flat_eq d2 hy fd hf.1]
      exact z3 m d hm d1
    · cases h2
  · cases e5
/-- xs[::-1] -/
theorem se_revL {te : TE} {a : M} (ha : SE K te a) : SE K (tRevL K te) (mUn fRevL a) := by
  intro ρ r ρ' σ Hf H hm E Q q
  simp only [mUn, Option.bind_eq_some_iff, Option.map_eq_some_iff, Prod.mk.injEq] at hm
  obtain ⟨⟨x, ρ1⟩, e1, c, e2, z, e3, rfl, rfl⟩ := hm
  refine ha ρ x ρ1 σ Hf H e1 E _ fun u Hf1 H1 S1 E1 R1 k1 => ?_
  have B1 : Bh K Hf H ρ σ Hf1 H1 ρ1 := ⟨S1, E1, k1⟩
  have hc := look_ok E1 R1 e2
  simp only [fRevL, Option.map_eq_some_iff] at e3
  obtain ⟨xs, h1, rfl⟩ := e3
  obtain ⟨p, us, ep, hs, da⟩ := lst_ok E1.ff hc h1
  refine ⟨p, us, ep, hs, fun t ht => ?_⟩
  obtain ⟨S, fp⟩ := new_ob (o := .lst us.reverse) E1.ff ht
  have B2 := B1.more S
  exact q _ _ _ B2.st B2.en ⟨t, rfl, B1.fresh ht, fp, _, upd_same, dps_rev da⟩ B2.kp
end
section
variable {X : Cx} {a b e : Expr} {ma mb me : M} {x y : Str} {p p' apos pos pos' : Pos}
theorem be_index (ha : BE X a ma) (hb : BE X b mb) (hbase : attributeBase a "index" X.env (eval a X.env) = eval a X.env := by rfl)
    (hfew : ((backTo pos (starEach [b] X.env)).all (fun x => !x.1) && (backToKw pos (keywordEach [] X.env)).all (fun x => x.1.isSome) && decide (([b] : List Expr).length + ([] : List Keyword).length + (if ([] : List Keyword).isEmpty then 0 else 1) < 30)) = true := by rfl)
    (hline : (apos.endLine == pos.line) = true := by rfl) (hs : starEach [b] X.env = (false, eval b X.env) :: starEach [] X.env := by rfl) (hp : (backTo pos (starEach [] X.env)).any (·.1) = false := by rfl) :
    BE X (.Call (.Attribute a "index" apos) [b] [] pos) (mIndex ma mb) := by
  obtain ⟨t, a1, a2⟩ := ha
  obtain ⟨u, b1, b2⟩ := hb
  exact ⟨_, pe_bm PySem.F.plainAttrs_list PySem.F.slot_list_index PySem.F.type_list_index mt_index a1 (pa_cons b1 pa_nil hs) hbase hfew hline hs hp, se_index a2 b2⟩
theorem be_insert (i : Nat) (ho : PE X (.Name x p) (tVar i)) (ha : BE X a ma) (hb : BE X b mb) (hbase : attributeBase (.Name x p) "insert" X.env (eval (.Name x p) X.env) = eval (.Name x p) X.env := by rfl)
    (hfew : ((backTo pos (starEach [a, b] X.env)).all (fun x => !x.1) && (backToKw pos (keywordEach [] X.env)).all (fun x => x.1.isSome) && decide (([a, b] : List Expr).length + ([] : List Keyword).length + (if ([] : List Keyword).isEmpty then 0 else 1) < 30)) = true := by rfl)
    (hline : (apos.endLine == pos.line) = true := by rfl) (hs : starEach [a, b] X.env = (false, eval a X.env) :: starEach [b] X.env := by rfl) (hs2 : starEach [b] X.env = (false, eval b X.env) :: starEach [] X.env := by rfl) (hp : (backTo pos (starEach [b] X.env)).any (·.1) = false := by rfl) :
    BE X (.Call (.Attribute (.Name x p) "insert" apos) [a, b] [] pos) (mInsert i ma mb) := by
  obtain ⟨t, a1, a2⟩ := ha
  obtain ⟨u, b1, b2⟩ := hb
  exact ⟨_, pe_bm PySem.F.plainAttrs_list PySem.F.slot_list_insert PySem.F.type_list_insert mt_insert ho (pa_cons a1 (pa_cons b1 pa_nil hs2) hs) hbase hfew hline hs hp, se_insert a2 b2⟩
theorem bs_dput (i : Nat) (hu : X.A.units + 64 < cLine) (ho : PE X (.Name x p) (tVar i)) (he : BE X e me) (ha : BE X a ma) (hs : swapsWith a (some (.Subscript (.Name x p) e p')) pos.line X.env = pure false := by rfl) :
    BS X (.Assign [.Subscript (.Name x p) e p'] a pos) (Py.sDput i me ma) := by
  obtain ⟨t, a1, a2⟩ := ha
  obtain ⟨u, b1, b2⟩ := he
  exact ⟨_, ps_dput (by omega) ho b1 a1 hs, ss_dput a2 b2⟩
theorem be_revL {k : Nat} {p1 p2 p3 : Pos} (ha : BE X a ma) : BE X (.Subscript a (.Slice none none (some (.UnaryOp .USub (.Constant (.int 1) k p1) p2)) p3) pos) (mUn fRevL ma) := let ⟨t, a1, a2⟩ := ha; ⟨_, pe_revL a1, se_revL a2⟩
theorem bi_rngD {tg : Expr} {k : Nat} {p1 p2 : Pos} (hg : Gl X "range") (hm : X.mg "range" = none) (ha : BE X a ma) (hb : BE X b mb)
    (hs : starEach [a, b, .UnaryOp .USub (.Constant (.int 1) k p1) p2] X.env = (false, eval a X.env) :: starEach [b, .UnaryOp .USub (.Constant (.int 1) k p1) p2] X.env := by rfl)
    (hs2 : starEach [b, .UnaryOp .USub (.Constant (.int 1) k p1) p2] X.env = (false, eval b X.env) :: starEach [.UnaryOp .USub (.Constant (.int 1) k p1) p2] X.env := by rfl)
    (hs3 : starEach [.UnaryOp .USub (.Constant (.int 1) k p1) p2] X.env = (false, eval (.UnaryOp .USub (.Constant (.int 1) k p1) p2) X.env) :: starEach [] X.env := by rfl)
    (hpl : (backTo pos (starEach [b, .UnaryOp .USub (.Constant (.int 1) k p1) p2] X.env)).any (·.1) = false := by rfl) :
    BI X tg (.Call (.Name "range" p) [a, b, .UnaryOp .USub (.Constant (.int 1) k p1) p2] [] pos) (Py.iRngD ma mb) := by
  obtain ⟨t, a1, a2⟩ := ha
  obtain ⟨u, b1, b2⟩ := hb
  have hst : PE X (.UnaryOp .USub (.Constant (.int 1) k p1) p2) (tUn (rU fun i => .int (-i)) (tC (.int 1))) := pe_un un_neg pe_int
  refine ⟨_, pi_range3 hg hm (pa_cons a1 (pa_cons b1 (pa_cons hst pa_nil hs3) hs2) hs) hs hpl, si_rngD a2 b2 fun σ H Q q => ⟨1, rfl, q⟩⟩
end
end Py
namespace Py
open PySem PySem.Spec PyProof.Rows L2
section
variable {X : Cx} {a b e : Expr} {ma mb me : M} {pos : Pos}
theorem bt_din (hu : X.A.units + 64 < cLine) (ha : BE X a ma) (hb : BE X b mb) (hm : behindInMarks .In b = false := by with_unfolding_all rfl) : BT X (.Compare a [.In] [b] pos) (mB (mOp (fDin false) ma mb)) := by
  obtain ⟨t, a1, a2⟩ := ha
  obtain ⟨u, b1, b2⟩ := hb
  exact ⟨_, pt_cmp (pc_din (by omega) a1 b1) hm, st_B (se_din a2 b2).1⟩
theorem bt_dnotIn (hu : X.A.units + 64 < cLine) (ha : BE X a ma) (hb : BE X b mb) (hm : behindInMarks .NotIn b = false := by with_unfolding_all rfl) : BT X (.Compare a [.NotIn] [b] pos) (mB (mOp (fDin true) ma mb)) := by
  obtain ⟨t, a1, a2⟩ := ha
  obtain ⟨u, b1, b2⟩ := hb
  exact ⟨_, pt_cmp (pc_dnotin (by omega) a1 b1) hm, st_B (se_din a2 b2).2⟩
end
end Py
/-! PyE: t[::-1] of a tuple. -/
namespace HT
open PySem PySem.Spec PyProof.Rows
variable {prog : Program} {w : World} {A : Around} {E : Value → Shared → Prop} {s : Shared}
theorem sliceApplied_rev {sl : Addr} {vl vu vs : Value} {n : Nat} {Q : Int × Int × Nat → Shared → Prop} (hs : s.heap.IsSliceOf sl vl vu vs) (pl : IsPart vl none) (pu : IsPart vu none) (ps : IsPart vs (some (-1)))
    (h : Q ((n : Int) - 1, -1, n) s) : wpAny (model prog w) A (Builtin.Slice.sliceApplied (.ref sl) (pure (n : Int))) Q E s := by
  obtain ⟨os, hos, hcs, hds⟩ := id hs
  unfold Builtin.Slice.sliceApplied Builtin.Slice.sliceFields
  refine wpAny_bind (wpAny_bind (wpAny_field hos hds (x := vl) rfl (wpAny_bind (wpAny_field hos hds (x := vu) rfl (wpAny_bind (wpAny_field hos hds (x := vs) rfl (wpAny_pure ?_)))))))
  refine wpAny_bind (slicePart_ ps ?_)
  show wpAny _ _ (if ((-1 : Int) == 0) = true then _ else _) _ _ s
  rw [if_neg (by decide)]
  refine wpAny_bind (slicePart_ pl (wpAny_bind (slicePart_ pu (wpAny_bind (wpAny_pure ?_)))))
  show wpAny _ _ (match Builtin.Slice.sliceAdjust none none (-1) (n : Int) with | (lo, hi) => pure (lo, (-1 : Int), Builtin.Slice.slicePlaces lo hi (-1))) _ _ s
  have e1 : Builtin.Slice.sliceAdjust none none (-1) (n : Int) = ((n : Int) - 1, -1) := rfl
  have e2 : Builtin.Slice.slicePlaces ((n : Int) - 1) (-1) (-1) = n := by
    unfold Builtin.Slice.slicePlaces
    rw [if_neg (by decide)]
    split
    · have : -(-1 : Int) = 1 := by decide
      rw [this, Int.ediv_one]
      omega
    · omega
  rw [e1]
  show wpAny _ _ (pure ((n : Int) - 1, (-1 : Int), Builtin.Slice.slicePlaces ((n : Int) - 1) (-1) (-1))) _ _ s
  rw [e2]
  exact wpAny_pure h
theorem pick_rev (xs : Array Value) : ((List.range xs.size).filterMap fun (m : Nat) => xs[(((xs.size : Nat) : Int) - 1 + (m : Int) * -1).toNat]?).toArray = xs.toList.reverse.toArray := by
  congr 1
  apply List.ext_getElem?
  have key : ∀ (l : List Nat), (∀ m ∈ l, m < xs.size) → (l.filterMap fun (m : Nat) => xs[(((xs.size : Nat) : Int) - 1 + (m : Int) * -1).toNat]?) = l.map fun m => xs.toList.reverse.getD m .none := by
    intro l
    induction l with
    | nil => intro _; rfl
    | cons a l ih =>
      intro h
      have ha := h a List.mem_cons_self
      have e : (((xs.size : Nat) : Int) - 1 + (a : Int) * -1).toNat = xs.size - 1 - a := by omega
      have hl : xs.size - 1 - a < xs.size := by omega
      rw [List.filterMap_cons, List.map_cons, ih fun m hm => h m (List.mem_cons_of_mem _ hm), e, Array.getElem?_eq_getElem hl]
      have e2 : xs.toList.reverse.getD a .none = xs[xs.size - 1 - a] := by
        rw [List.getD_eq_getElem?_getD, List.getElem?_reverse (by simpa using ha)]
        simp [hl]
      rw [e2]
  intro i
  rw [key _ fun m hm => List.mem_range.mp hm]
  by_cases hi : i < xs.size
  · rw [List.getElem?_map, List.getElem?_range hi, List.getElem?_eq_getElem (by simpa using hi)]
    simp [List.getD_eq_getElem?_getD, hi]
  · rw [List.getElem?_eq_none (by simpa using hi), List.getElem?_eq_none (by simpa using hi)]
theorem getItem_tuple_rev {t sl : Addr} {items : Array Value} {vl vu vs : Value} {Q : Value → Shared → Prop} (ht : IsTup s.heap t items) (hs : s.heap.IsSliceOf sl vl vu vs) (pl : IsPart vl none) (pu : IsPart vu none) (ps : IsPart vs (some (-1)))
    (h : Q (.ref s.heap.objs.size) { s with heap := s.heap.push { cls := .type "tuple", data := .seq items.toList.reverse.toArray } })
    (hsz : items.size ≤ sizeLine) : wpAny (model prog w) A (getItem (.ref t) (.ref sl)) Q E s := by
  have htake : sizeOk (.seq items.toList.reverse.toArray) := by
    show items.toList.reverse.toArray.size ≤ sizeLine
    simpa using hsz
  obtain ⟨os, hos, hcs, hds⟩ := id hs
  have hTs : s.TypeIs (.ref sl) "slice" := ⟨os, hos, hcs⟩
  unfold getItem
  try with_reducible refine wpAny_holding ?_
  first | refine wpAny_bind (wpAny_pure ?_) | skip
  refine wpAny_bind (wpAny_sequenceKey ht.typeIs (by decide) ?_)
  refine wpAny_bind (wpAny_callSpecial?_slot (name := Str.ofString "__getitem__") ht.typeIs PyProof.Rows.slot_tuple_getitem
    (wpAny_call_entry PyProof.Rows.slot_tuple_getitem ht.typeIs entry_tuple_getitem ?_ (args_tuple_getitem _ _)))
  show wpAny _ _ (Builtin.Tuple.tupleItemsOf (.ref t) >>= _) _ _ s
  refine wpAny_bind (tupleItemsOf_ ht ?_)
  refine wpAny_bind (wpAny_typeOf hTs ?_)
  rw [if_pos (by decide)]
  refine wpAny_bind (sliceApplied_rev hs pl pu ps ?_)
  have hno : ¬ ((((items.size : Int) - 1) == 0 && (-1 : Int) == 1 && items.size == items.size) = true) := by
    intro q
    rw [Bool.and_eq_true, Bool.and_eq_true] at q
    exact absurd (eq_of_beq q.1.2) (by decide)
  show wpAny _ _ (if (((items.size : Int) - 1) == 0 && (-1 : Int) == 1 && items.size == items.size) = true then _ else _) _ _ s
  rw [if_neg hno, pick_rev]
  first
    | exact wpAny_bind (m := Builtin.Tuple.tupleExact _) (wpAny_newObj_type (wpAny_pure ⟨_, rfl, wpAny_pure h⟩) htake)
    | exact wpAny_bind (m := Builtin.Tuple.tupleExact _) (wpAny_newObj_type (wpAny_bind (wpAny_pure (wpAny_pure ⟨_, rfl, wpAny_pure h⟩))) htake)
    | exact wpAny_bind (wpAny_bind (m := Builtin.Tuple.tupleExact _) (wpAny_newObj_type (wpAny_pure (wpAny_pure ⟨_, rfl, wpAny_pure h⟩)) htake))
    | exact wpAny_bind (wpAny_bind (m := Builtin.Tuple.tupleExact _) (wpAny_newObj_type (wpAny_pure ⟨_, rfl, wpAny_pure h⟩) htake))
end HT
namespace L2
open PySem PySem.Spec PyProof.Rows
variable {X : Cx}
def tRevT (K : PySem.W.Frag) (te : TE) : TE := fun σ H Q => te σ H fun x H1 => ∃ a xs, x = .ref a ∧ SqT K H1 a xs ∧ ∀ p, H1 p = none → Q (.ref p) (upd H1 p (.tup xs.reverse))
theorem pe_revT {e : Expr} {te : TE} {k : Nat} {p1 p2 p3 pos : Pos} (he : PE X e te) : PE X (.Subscript e (.Slice none none (some (.UnaryOp .USub (.Constant (.int 1) k p1) p2)) p3) pos) (tRevT X.K te) := by
  refine ⟨fun pins s σ H Q I h => ?_⟩
  refine Subscript_ (thn (he.run pins s σ H _ I h) fun v s1 ⟨x, H1, I1, r1, q1⟩ => ?_)
  obtain ⟨a, xs, ex, hx, q⟩ := q1
  subst ex
  cases r1
  have hst : PO X (some (.UnaryOp .USub (.Constant (.int 1) k p1) p2)) (tPart (tUn (rU fun i => .int (-i)) (tC (.int 1)))) := po_some (pe_un un_neg pe_int)
  refine wpAny_Slice (thn (po_none.run pins s1 σ H1 (fun o H2 => o = none ∧ H2 = H1) I1 ⟨rfl, rfl⟩) fun vl s2 ⟨l, H2, I2, pl, el, e2⟩ => ?_)
  subst el e2
  refine thn (po_none.run pins s2 σ H2 (fun o H3 => o = none ∧ H3 = H2) I2 ⟨rfl, rfl⟩) fun vu s3 ⟨u, H3, I3, pu, eu, e3⟩ => ?_
  subst eu e3
  refine thn (hst.run pins s3 σ H3 (fun o H4 => o = some (-1) ∧ H4 = H3) I3 ⟨1, rfl, -1, rfl, rfl, rfl⟩) fun vs s4 ⟨o, H4, I4, ps, eo, e4⟩ => ?_
  subst eo e4
  have I5 : Inv X pins σ H4 { s4 with heap := s4.heap.push { cls := .type "slice", data := .fields #[vl, vu, vs] } } := I4.kept (t' := s4.toks) fun b ob q => Heap.get?_push_of_some _ q
  obtain ⟨its, r, ht, hz⟩ := I5.tuple hx
  have hlen := r.length
  show wpAny (model X.prog X.w) X.A (subscriptTail e (.Slice none none (some (.UnaryOp .USub (.Constant (.int 1) k p1) p2)) p3) (.ref a) (.ref s4.heap.objs.size)) (EP X pins σ Q) X.xe { s4 with heap := s4.heap.push { cls := .type "slice", data := .fields #[vl, vu, vs] } }
  refine tail_any (ops := [.ref a, .ref s4.heap.objs.size]) ht.typeIs (PyProof.Rows.slot_tuple_getitem.lookup) ?_ (by with_unfolding_all rfl)
  refine HT.getItem_tuple_rev ht (Heap.IsSliceOf.new _ vl vu vs) pl pu ps ?_ (by rw [List.size_toArray]; omega)
  refine ⟨.ref _, _, I5.laid (t' := s4.toks) (o := .tup xs.reverse) (fun b ob q => Heap.get?_push_of_some _ q) (Nat.le_refl _) ?_, rfl, q _ (I5.hok.fresh (Nat.le_refl _))⟩
  exact ⟨by rw [List.length_reverse]; exact hz, its.reverse, r.reverse, IsTup.new _ _⟩
end L2
namespace Py
open PySem PySem.Spec PyProof.Rows L2
theorem tup_ok {K : PySem.W.Frag} {Hf H : Hp} {c : Ct} {xs : List PV} {u : V} (e : Ex Hf H) (hc : RepC K Hf H c u) (h : c.tup? = some xs) : ∃ a us, u = .ref a ∧ SqT K H a us ∧ DpAll K Hf us xs := by
  unfold Ct.tup? at h
  split at h
  · cases h; cases hc with | tup hs ha => exact ⟨_, _, rfl, ex_t e hs, ha⟩
  · cases h
theorem se_revT {K : PySem.W.Frag} {te : TE} {a : M} (ha : SE K te a) : SE K (tRevT K te) (mUn fRevT a) := by
  intro ρ r ρ' σ Hf H hm E Q q
  simp only [mUn, Option.bind_eq_some_iff, Option.map_eq_some_iff, Prod.mk.injEq] at hm
  obtain ⟨⟨x, ρ1⟩, e1, c, e2, z, e3, rfl, rfl⟩ := hm
  refine ha ρ x ρ1 σ Hf H e1 E _ fun u Hf1 H1 S1 E1 R1 k1 => ?_
  have B1 : Bh K Hf H ρ σ Hf1 H1 ρ1 := ⟨S1, E1, k1⟩
  have hc := look_ok E1 R1 e2
  simp only [fRevT, Option.map_eq_some_iff] at e3
  obtain ⟨xs, h1, rfl⟩ := e3
  obtain ⟨p, us, ep, hs, da⟩ := tup_ok E1.ff hc h1
  refine ⟨p, us, ep, hs, fun t ht => ?_⟩
  obtain ⟨S, d⟩ := new_tup E1.ff (dps_rev da) ht
  have B2 := B1.more S
  exact q _ _ _ B2.st B2.en d B2.kp
theorem be_revT {X : Cx} {a : Expr} {ma : M} {k : Nat} {p1 p2 p3 pos : Pos} (ha : BE X a ma) : BE X (.Subscript a (.Slice none none (some (.UnaryOp .USub (.Constant (.int 1) k p1) p2)) p3) pos) (mUn fRevT ma) := let ⟨t, a1, a2⟩ := ha; ⟨_, pe_revT a1, se_revT a2⟩
end Py
/-! PyF0: further meanings. -/
namespace Py
open PySem
def Ct.dat : Ct → Option PV
  | .pv v => some v
  | .ob (.lst xs) => some (.list xs)
  | _ => none
/-- == of lists -/
def fEqA (neg : Bool) (c d : Ct) : Option R := c.dat.bind fun x => d.dat.bind fun y => if SeqAt.shaped x = true ∧ SeqAt.shaped y = true then some (.val (.bool (neg ^^ PyData.eqv x y))) else none
end Py
/-! PyF: == of lists. -/
namespace Py
open PySem PySem.Spec PyProof.Rows L2
section
variable {K : PySem.W.Frag} {Hf H : Hp} {X : Cx}
theorem dat_ok {c : Ct} {x : PV} {u : V} (e : Ex Hf H) (hc : RepC K Hf H c u) (h : c.dat = some x) : Dp K H u x := by
  unfold Ct.dat at h
  split at h
  · cases h; exact dp_mono e _ _ hc
  · cases h; exact lst_dp e hc rfl
  · cases h
theorem eqA_S : OpS K (rEqD K) (fEqA false) := fun Hf H c d x y z e hc hd e5 Q q => by
  simp only [fEqA, Option.bind_eq_some_iff] at e5
  obtain ⟨v, h1, w, h2, h3⟩ := e5
  split at h3
  · rename_i hs
    cases h3
    refine ⟨v, w, dat_ok e hc h1, dat_ok e hd h2, hs.1, hs.2, ?_⟩
    rw [Bool.false_xor] at q
    exact old e (.bl _) q
  · cases h3
theorem neA_S : OpS K (rNeD K) (fEqA true) := fun Hf H c d x y z e hc hd e5 Q q => by
  simp only [fEqA, Option.bind_eq_some_iff] at e5
  obtain ⟨v, h1, w, h2, h3⟩ := e5
  split at h3
  · rename_i hs
    cases h3
    refine ⟨v, w, dat_ok e hc h1, dat_ok e hd h2, hs.1, hs.2, ?_⟩
    rw [Bool.true_xor] at q
    exact old e (.bl _) q
  · cases h3
theorem ob_eqA (hu : X.A.units + 64 < cLine) : OpB X (compareOp .Eq) (fEqA false) := ⟨_, op_eqD hu, eqA_S⟩
theorem ob_neA (hu : X.A.units + 64 < cLine) : OpB X (compareOp .NotEq) (fEqA true) := ⟨_, op_neD hu, neA_S⟩
end
end Py
/-! Q0: how a meaning is reckoned. -/
namespace Py
open PySem

/-- m, from ρ, gives a and ρ' of which Q holds -/
def Wp {α : Type} (m : Env → Option (α × Env)) (ρ : Env) (Q : α → Env → Prop) : Prop := ∃ a ρ', m ρ = some (a, ρ') ∧ Q a ρ'
/-- a def's value and the objects handed back -/
def Ret (d : Den) (as : List Sl) (Q : R → List Ob → Prop) : Prop := ∃ r os, d as = some (r, os) ∧ Q r os
def FinQ (as : List Sl) (f : Fl) (ρ : Env) (Q : R → List Ob → Prop) : Prop := match f with
  | .nx => ∃ os, outs as ρ = some os ∧ Q (.val .none) os
  | .rt r => ∃ r' os, leave r ρ = some r' ∧ outs as ρ = some os ∧ Q r' os
  | _ => False
section
variable {α : Type} {ρ ρ1 ρ2 : Env} {a b c : M} {t u : MT} {s s1 s2 : SM} {Q : R → Env → Prop} {QT : Bool → Env → Prop} {QS : Fl → Env → Prop} {QL : List PV → Env → Prop} {QA : List Sl → Env → Prop} {f g : Ct → Ct → Option R} {i j : Nat} {v : PV} {l : ML} {n : Nat} {as : List Sl} {QR : R → List Ob → Prop} {d : Den} {x y : R} {cx cy : Ct} {z : R}
theorem Wp.mono {m : Env → Option (α × Env)} {Q Q' : α → Env → Prop} (h : Wp m ρ Q) (k : ∀ a ρ', Q a ρ' → Q' a ρ') : Wp m ρ Q' := let ⟨a, r, e, q⟩ := h; ⟨a, r, e, k a r q⟩
theorem Ret.mono {Q Q' : R → List Ob → Prop} (h : Ret d as Q) (k : ∀ r os, Q r os → Q' r os) : Ret d as Q' := let ⟨a, r, e, q⟩ := h; ⟨a, r, e, k a r q⟩
theorem ret_mk {body : SM} (h : Wp body (startE n as) fun f ρ' => FinQ as f ρ' QR) : Ret (mkDen n body) as QR := by
  obtain ⟨f, ρ', e, q⟩ := h
  cases f with
  | nx => obtain ⟨os, e2, q⟩ := q; exact ⟨_, os, by simp [mkDen, e, e2], q⟩
  | rt r => obtain ⟨r', os, e2, e3, q⟩ := q; exact ⟨r', os, by simp [mkDen, e, e2, e3], q⟩
  | bk => exact q.elim
  | ct => exact q.elim
theorem fin_rt {r r' : R} {os : List Ob} (h1 : leave r ρ = some r') (h2 : outs as ρ = some os) (q : QR r' os) : FinQ as (.rt r) ρ QR := ⟨r', os, h1, h2, q⟩
theorem fin_nx {os : List Ob} (h2 : outs as ρ = some os) (q : QR (.val .none) os) : FinQ as .nx ρ QR := ⟨os, h2, q⟩

theorem wp_c (q : Q (.val v) ρ) : Wp (mC v) ρ Q := ⟨_, _, rfl, q⟩
theorem wp_varV {v : PV} (h : get ρ i = some (.val v)) (q : Q (.val v) ρ) : Wp (mVar i) ρ Q := ⟨_, _, by simp [mVar, h], q⟩
theorem wp_varO {o : Ob} (h : get ρ i = some (.own o)) (q : Q (.bor i) ρ) : Wp (mVar i) ρ Q := ⟨_, _, by simp [mVar, h], q⟩
theorem wp_varR {o : Ob} (h : get ρ i = some (.ref o)) (q : Q (.bor i) ρ) : Wp (mVar i) ρ Q := ⟨_, _, by simp [mVar, h], q⟩
/-- an operation at two results -/
def OpQ (f : Ct → Ct → Option R) (x y : R) (ρ : Env) (Q : R → Env → Prop) : Prop := ∃ cx cy z, look x ρ = some cx ∧ look y ρ = some cy ∧ f cx cy = some z ∧ Q z ρ
theorem opq (h1 : look x ρ = some cx) (h2 : look y ρ = some cy) (h3 : f cx cy = some z) (q : Q z ρ) : OpQ f x y ρ Q := ⟨cx, cy, z, h1, h2, h3, q⟩
theorem wp_op (h : Wp a ρ fun x ρ1 => Wp b ρ1 fun y ρ2 => OpQ f x y ρ2 Q) : Wp (mOp f a b) ρ Q := by
  obtain ⟨x, ρ1, e1, y, ρ2, e2, cx, cy, z, e3, e4, e5, q⟩ := h
  exact ⟨z, ρ2, by simp [mOp, e1, e2, e3, e4, e5], q⟩
def UnQ (f : Ct → Option R) (x : R) (ρ : Env) (Q : R → Env → Prop) : Prop := ∃ cx z, look x ρ = some cx ∧ f cx = some z ∧ Q z ρ
theorem unq {f : Ct → Option R} (h1 : look x ρ = some cx) (h3 : f cx = some z) (q : Q z ρ) : UnQ f x ρ Q := ⟨cx, z, h1, h3, q⟩
theorem wp_un {f : Ct → Option R} (h : Wp a ρ fun x ρ1 => UnQ f x ρ1 Q) : Wp (mUn f a) ρ Q := by
  obtain ⟨x, ρ1, e1, cx, z, e3, e5, q⟩ := h
  exact ⟨z, ρ1, by simp [mUn, e1, e3, e5], q⟩
theorem wp_B (h : Wp a ρ fun x ρ1 => ∃ b, look x ρ1 = some (.pv (.bool b)) ∧ QT b ρ1) : Wp (mB a) ρ QT := by
  obtain ⟨x, ρ1, e1, b, e3, q⟩ := h
  exact ⟨b, ρ1, by simp [mB, e1, e3, boolOf], q⟩
theorem wp_tru (h : Wp a ρ fun x ρ1 => ∃ cx b, look x ρ1 = some cx ∧ truOf cx = some b ∧ QT b ρ1) : Wp (mTru a) ρ QT := by
  obtain ⟨x, ρ1, e1, cx, b, e3, e4, q⟩ := h
  exact ⟨b, ρ1, by simp [mTru, e1, e3, e4], q⟩
theorem wp_and (h : Wp t ρ fun x ρ1 => (x = true → Wp u ρ1 QT) ∧ (x = false → QT false ρ1)) : Wp (mAnd t u) ρ QT := by
  obtain ⟨x, ρ1, e1, h1, h2⟩ := h
  cases x with
  | true => obtain ⟨y, ρ2, e2, q⟩ := h1 rfl; exact ⟨y, ρ2, by simp [mAnd, e1, e2], q⟩
  | false => exact ⟨false, ρ1, by simp [mAnd, e1], h2 rfl⟩
theorem wp_or (h : Wp t ρ fun x ρ1 => (x = true → QT true ρ1) ∧ (x = false → Wp u ρ1 QT)) : Wp (mOr t u) ρ QT := by
  obtain ⟨x, ρ1, e1, h1, h2⟩ := h
  cases x with
  | false => obtain ⟨y, ρ2, e2, q⟩ := h2 rfl; exact ⟨y, ρ2, by simp [mOr, e1, e2], q⟩
  | true => exact ⟨true, ρ1, by simp [mOr, e1], h1 rfl⟩
theorem wp_not (h : Wp t ρ fun x ρ1 => QT (!x) ρ1) : Wp (mNot t) ρ QT := by
  obtain ⟨x, ρ1, e1, q⟩ := h
  exact ⟨!x, ρ1, by simp [mNot, e1], q⟩
theorem wp_andV (h : Wp a ρ fun x ρ1 => ∃ k, look x ρ1 = some (.pv (.bool k)) ∧ (k = true → Wp b ρ1 Q) ∧ (k = false → Q (.val (.bool false)) ρ1)) : Wp (mAndV a b) ρ Q := by
  obtain ⟨x, ρ1, e1, k, e2, h1, h2⟩ := h
  cases k with
  | true => obtain ⟨y, ρ2, e3, q⟩ := h1 rfl; exact ⟨y, ρ2, by simp [mAndV, e1, e2, boolOf, e3], q⟩
  | false => exact ⟨_, ρ1, by simp [mAndV, e1, e2, boolOf], h2 rfl⟩
theorem wp_orV (h : Wp a ρ fun x ρ1 => ∃ k, look x ρ1 = some (.pv (.bool k)) ∧ (k = true → Q (.val (.bool true)) ρ1) ∧ (k = false → Wp b ρ1 Q)) : Wp (mOrV a b) ρ Q := by
  obtain ⟨x, ρ1, e1, k, e2, h1, h2⟩ := h
  cases k with
  | false => obtain ⟨y, ρ2, e3, q⟩ := h2 rfl; exact ⟨y, ρ2, by simp [mOrV, e1, e2, boolOf, e3], q⟩
  | true => exact ⟨_, ρ1, by simp [mOrV, e1, e2, boolOf], h1 rfl⟩
theorem wp_notV (h : Wp a ρ fun x ρ1 => ∃ k, look x ρ1 = some (.pv (.bool k)) ∧ Q (.val (.bool (!k))) ρ1) : Wp (mNotV a) ρ Q := by
  obtain ⟨x, ρ1, e1, k, e2, q⟩ := h
  exact ⟨_, ρ1, by simp [mNotV, e1, e2, boolOf], q⟩
theorem wp_ifE (h : Wp t ρ fun x ρ1 => (x = true → Wp a ρ1 Q) ∧ (x = false → Wp b ρ1 Q)) : Wp (mIfE t a b) ρ Q := by
  obtain ⟨x, ρ1, e1, h1, h2⟩ := h
  cases x with
  | true => obtain ⟨y, ρ2, e2, q⟩ := h1 rfl; exact ⟨y, ρ2, by simp [mIfE, e1, e2], q⟩
  | false => obtain ⟨y, ρ2, e2, q⟩ := h2 rfl; exact ⟨y, ρ2, by simp [mIfE, e1, e2], q⟩
theorem wp_chain (h : Wp a ρ fun x ρ1 => Wp b ρ1 fun y ρ2 => ∃ cx cy k, look x ρ2 = some cx ∧ look y ρ2 = some cy ∧ f cx cy = some (.val (.bool k)) ∧ (k = true → Wp c ρ2 fun w ρ3 => OpQ g y w ρ3 Q) ∧ (k = false → Q (.val (.bool false)) ρ2)) : Wp (mChain f g a b c) ρ Q := by
  obtain ⟨x, ρ1, e1, y, ρ2, e2, cx, cy, k, e3, e4, e5, h1, h2⟩ := h
  cases k with
  | true => obtain ⟨w, ρ3, e6, cy', cw, z, e7, e8, e9, q⟩ := h1 rfl; exact ⟨z, ρ3, by simp [mChain, e1, e2, e3, e4, e5, boolOf, show look (R.val (.bool true)) ρ2 = some (.pv (.bool true)) from rfl, e6, e7, e8, e9], q⟩
  | false => exact ⟨_, ρ2, by simp [mChain, e1, e2, e3, e4, e5, boolOf, show look (R.val (.bool false)) ρ2 = some (.pv (.bool false)) from rfl], h2 rfl⟩
/-- frozen -/
def FrzQ (x : R) (ρ : Env) (Q : PV → Env → Prop) : Prop := ∃ v ρ', frz x ρ = some (v, ρ') ∧ Q v ρ'
theorem frzq {Q : PV → Env → Prop} (h : frz x ρ = some (v, ρ1)) (q : Q v ρ1) : FrzQ x ρ Q := ⟨v, ρ1, h, q⟩
theorem frzV {Q : PV → Env → Prop} (q : Q v ρ) : FrzQ (.val v) ρ Q := ⟨v, ρ, rfl, q⟩
theorem frzN {Q : PV → Env → Prop} {xs : List PV} (q : Q (.list xs) ρ) : FrzQ (.new (.lst xs)) ρ Q := ⟨_, ρ, rfl, q⟩
theorem wp_frz (h : Wp a ρ fun x ρ1 => FrzQ x ρ1 fun v ρ2 => Q (.val v) ρ2) : Wp (mFrz a) ρ Q := by
  obtain ⟨x, ρ1, e1, v, ρ2, e2, q⟩ := h
  exact ⟨_, ρ2, by simp [mFrz, e1, e2], q⟩
theorem wp_lnil (q : QL [] ρ) : Wp lNil ρ QL := ⟨_, _, rfl, q⟩
theorem wp_lcons (h : Wp a ρ fun x ρ1 => FrzQ x ρ1 fun v ρ2 => Wp l ρ2 fun vs ρ3 => QL (v :: vs) ρ3) : Wp (lCons a l) ρ QL := by
  obtain ⟨x, ρ1, e1, v, ρ2, e2, vs, ρ3, e3, q⟩ := h
  exact ⟨_, ρ3, by simp [lCons, e1, e2, e3], q⟩
theorem wp_tup (h : Wp l ρ fun vs ρ1 => vs.length ≤ line ∧ Q (.val (.tuple vs)) ρ1) : Wp (mTup l) ρ Q := by
  obtain ⟨vs, ρ1, e1, hz, q⟩ := h
  exact ⟨_, ρ1, by simp [mTup, e1, hz], q⟩
theorem wp_lst (h : Wp l ρ fun vs ρ1 => vs.length ≤ line ∧ Q (.new (.lst vs)) ρ1) : Wp (mLst l) ρ Q := by
  obtain ⟨vs, ρ1, e1, hz, q⟩ := h
  exact ⟨_, ρ1, by simp [mLst, e1, hz], q⟩
theorem wp_sl {ml mh : MO} (h : Wp a ρ fun x ρ1 => Wp ml ρ1 fun i ρ2 => Wp mh ρ2 fun j ρ3 => UnQ (fSl i j) x ρ3 Q) : Wp (mSl a ml mh) ρ Q := by
  obtain ⟨x, ρ1, e1, i, ρ2, e2, j, ρ3, e3, cx, z, e4, e5, q⟩ := h
  exact ⟨z, ρ3, by simp [mSl, e1, e2, e3, e4, e5], q⟩
theorem wp_onone {Q : Option Int → Env → Prop} (q : Q none ρ) : Wp oNone ρ Q := ⟨_, _, rfl, q⟩
theorem wp_osome {Q : Option Int → Env → Prop} (h : Wp a ρ fun x ρ1 => ∃ i, look x ρ1 = some (.pv (.int i)) ∧ Q (some i) ρ1) : Wp (oSome a) ρ Q := by
  obtain ⟨x, ρ1, e1, i, e2, q⟩ := h
  exact ⟨_, ρ1, by simp [oSome, e1, e2, intOf], q⟩

/-! ### statements -/
theorem wp_next (q : QS .nx ρ) : Wp sNext ρ QS := ⟨_, _, rfl, q⟩
theorem wp_brk (q : QS .bk ρ) : Wp sBrk ρ QS := ⟨_, _, rfl, q⟩
theorem wp_cont (q : QS .ct ρ) : Wp sCont ρ QS := ⟨_, _, rfl, q⟩
/-- what is wanted behind the first of two statements -/
def SeqQ (s : SM) (Q : Fl → Env → Prop) (f : Fl) (ρ : Env) : Prop := match f with
  | .nx => Wp s ρ Q
  | f => Q f ρ
theorem wp_seq (h : Wp s1 ρ (SeqQ s2 QS)) : Wp (sSeq s1 s2) ρ QS := by
  obtain ⟨f, ρ1, e1, h⟩ := h
  cases f with
  | nx => obtain ⟨f2, ρ2, e2, q⟩ := h; exact ⟨f2, ρ2, by simp [sSeq, e1, e2], q⟩
  | rt r => exact ⟨_, ρ1, by simp [sSeq, e1], h⟩
  | bk => exact ⟨_, ρ1, by simp [sSeq, e1], h⟩
  | ct => exact ⟨_, ρ1, by simp [sSeq, e1], h⟩
theorem seq_nx (h : Wp s ρ QS) : SeqQ s QS .nx ρ := h
theorem seq_rt {r : R} (h : QS (.rt r) ρ) : SeqQ s QS (.rt r) ρ := h
theorem seq_bk (h : QS .bk ρ) : SeqQ s QS .bk ρ := h
theorem seq_ct (h : QS .ct ρ) : SeqQ s QS .ct ρ := h
theorem wp_ret (h : Wp a ρ fun x ρ1 => QS (.rt x) ρ1) : Wp (sRet a) ρ QS := by
  obtain ⟨x, ρ1, e1, q⟩ := h
  exact ⟨_, ρ1, by simp [sRet, e1], q⟩
theorem wp_retN (q : QS (.rt (.val .none)) ρ) : Wp sRetN ρ QS := ⟨_, _, rfl, q⟩
theorem wp_if (h : Wp t ρ fun x ρ1 => (x = true → Wp s1 ρ1 QS) ∧ (x = false → Wp s2 ρ1 QS)) : Wp (sIf t s1 s2) ρ QS := by
  obtain ⟨x, ρ1, e1, h1, h2⟩ := h
  cases x with
  | true => obtain ⟨y, ρ2, e2, q⟩ := h1 rfl; exact ⟨y, ρ2, by simp [sIf, e1, e2], q⟩
  | false => obtain ⟨y, ρ2, e2, q⟩ := h2 rfl; exact ⟨y, ρ2, by simp [sIf, e1, e2], q⟩
theorem wp_expr (h : Wp a ρ fun _ ρ1 => QS .nx ρ1) : Wp (sExpr a) ρ QS := by
  obtain ⟨x, ρ1, e1, q⟩ := h
  exact ⟨_, ρ1, by simp [sExpr, e1], q⟩
def PutQ (m : MG) (x : R) (ρ : Env) (Q : Env → Prop) : Prop := ∃ ρ', m x ρ = some ρ' ∧ Q ρ'
theorem putq {m : MG} {Q : Env → Prop} (h : m x ρ = some ρ1) (q : Q ρ1) : PutQ m x ρ Q := ⟨ρ1, h, q⟩
theorem wp_asg {m : MG} (h : Wp a ρ fun x ρ1 => PutQ m x ρ1 fun ρ2 => QS .nx ρ2) : Wp (sAsg a m) ρ QS := by
  obtain ⟨x, ρ1, e1, ρ2, e2, q⟩ := h
  exact ⟨_, ρ2, by simp [sAsg, e1, e2], q⟩
theorem wp_par (h : Wp a ρ fun x ρ1 => FrzQ x ρ1 fun v ρ2 => Wp b ρ2 fun y ρ3 => FrzQ y ρ3 fun w ρ4 => ∃ ρ5 ρ6, put i (some (.val v)) ρ4 = some ρ5 ∧ put j (some (.val w)) ρ5 = some ρ6 ∧ QS .nx ρ6) : Wp (sPar i j a b) ρ QS := by
  obtain ⟨x, ρ1, e1, v, ρ2, e2, y, ρ3, e3, w, ρ4, e4, ρ5, ρ6, e5, e6, q⟩ := h
  exact ⟨_, ρ6, by simp [sPar, e1, e2, e3, e4, e5, e6], q⟩
theorem wp_append {xs : List PV} (h0 : lstAt ρ i = some xs) (h : Wp a ρ fun x ρ1 => FrzQ x ρ1 fun v ρ2 => ∃ xs, lstAt ρ2 i = some xs ∧ xs.length < line ∧ Q (.val .none) (setOb ρ2 i (.lst (xs ++ [v])))) : Wp (mAppend i a) ρ Q := by
  obtain ⟨x, ρ1, e1, v, ρ2, e2, ys, e3, hz, q⟩ := h
  exact ⟨_, _, by simp [mAppend, h0, e1, e2, e3, hz], q⟩
theorem wp_pop {xs : List PV} (h0 : lstAt ρ i = some xs) (h1 : xs.getLast? = some v) (q : Q (.val v) (setOb ρ i (.lst xs.dropLast))) : Wp (mPop i) ρ Q := ⟨_, _, by simp [mPop, h0, h1], q⟩
theorem wp_reverse {xs : List PV} (h0 : lstAt ρ i = some xs) (q : Q (.val .none) (setOb ρ i (.lst xs.reverse))) : Wp (mReverse i) ρ Q := ⟨_, _, by simp [mReverse, h0], q⟩
theorem wp_popAt {xs : List PV} (h0 : lstAt ρ i = some xs) (h : Wp a ρ fun x ρ1 => ∃ k xs j v, look x ρ1 = some (.pv (.int k)) ∧ lstAt ρ1 i = some xs ∧ (-(2 ^ 62) < k ∧ k < 2 ^ 62) ∧ ixN xs.length k = some j ∧ xs[j]? = some v ∧ Q (.val v) (setOb ρ1 i (.lst (xs.eraseIdx j)))) : Wp (mPopAt i a) ρ Q := by
  obtain ⟨x, ρ1, e1, k, xs', j, v, e2, e3, hz, e4, e5, q⟩ := h
  exact ⟨_, _, by simp only [mPopAt, h0, e1, e2, e3, e4, e5, intOf, if_pos hz, Option.bind_some, Option.map_some], q⟩
theorem wp_setIx (h : Wp a ρ fun x ρ1 => FrzQ x ρ1 fun v ρ2 => ∃ ys, lstAt ρ2 i = some ys ∧ Wp b ρ2 fun y ρ3 => ∃ k xs j, look y ρ3 = some (.pv (.int k)) ∧ lstAt ρ3 i = some xs ∧ ixN xs.length k = some j ∧ QS .nx (setOb ρ3 i (.lst (xs.set j v)))) : Wp (sSetIx i b a) ρ QS := by
  obtain ⟨x, ρ1, e1, v, ρ2, e2, ys, e0, y, ρ3, e3, k, xs, j, e4, e5, e6, q⟩ := h
  exact ⟨_, _, by simp [sSetIx, e1, e2, e0, e3, e4, e5, e6, intOf], q⟩
theorem wp_aug {v : PV} (h0 : get ρ i = some (.val v)) (h : Wp a ρ fun x ρ1 => ∃ c w ρ2, look x ρ1 = some c ∧ f (.pv v) c = some (.val w) ∧ put i (some (.val w)) ρ1 = some ρ2 ∧ QS .nx ρ2) : Wp (sAug i f a) ρ QS := by
  obtain ⟨x, ρ1, e1, c, w, ρ2, e2, e3, e4, q⟩ := h
  exact ⟨_, ρ2, by simp [sAug, h0, e1, e2, e3, e4], q⟩
theorem wp_fgt {is : List Nat} (h : Wp s ρ fun f ρ1 => match f with | .rt r => QS (.rt r) ρ1 | f => QS f (forget is ρ1)) : Wp (sFgt is s) ρ QS := by
  obtain ⟨f, ρ1, e1, q⟩ := h
  cases f <;> exact ⟨_, _, by simp only [sFgt, e1, Option.map_some], q⟩
/-! calls -/
theorem wp_anil (q : QA [] ρ) : Wp (agsEval []) ρ QA := ⟨_, _, rfl, q⟩
theorem wp_av {r : List Ag} (h : Wp a ρ fun x ρ1 => FrzQ x ρ1 fun v ρ2 => Wp (agsEval r) ρ2 fun z ρ3 => QA (.val v :: z) ρ3) : Wp (agsEval (.v a :: r)) ρ QA := by
  obtain ⟨x, ρ1, e1, v, ρ2, e2, z, ρ3, e3, q⟩ := h
  exact ⟨_, ρ3, by simp [agsEval, e1, e2, e3], q⟩
theorem wp_ar {r : List Ag} {o : Ob} (h0 : obAt ρ i = some o) (h : Wp (agsEval r) ρ fun z ρ1 => ∃ o, obAt ρ1 i = some o ∧ QA (.ref o :: z) ρ1) : Wp (agsEval (.r i :: r)) ρ QA := by
  obtain ⟨z, ρ1, e1, o', e2, q⟩ := h
  exact ⟨_, ρ1, by simp [agsEval, h0, e1, e2], q⟩
theorem wp_call {ags : List Ag} (nd : (refsOf ags).Nodup) (h : Wp (agsEval ags) ρ fun ss ρ1 => Ret d ss fun r os => Q r (setObs (refsOf ags) os ρ1)) : Wp (mCall d ags) ρ Q := by
  obtain ⟨ss, ρ1, e1, r, os, e2, q⟩ := h
  exact ⟨r, _, by simp [mCall, e1, e2, nd], q⟩
/-! loops -/
/-- what is wanted behind a turn -/
def TurnQ (N : Env → Prop) (Q : Fl → Env → Prop) (f : Fl) (ρ : Env) : Prop := match f with
  | .nx => N ρ
  | .ct => N ρ
  | .bk => Q .nx ρ
  | .rt r => Q (.rt r) ρ
theorem wp_for {it : MI} {m : MG} (h : Wp it ρ fun xs ρ1 => Wp (loopF m s xs) ρ1 QS) : Wp (sFor it m s) ρ QS := by
  obtain ⟨xs, ρ1, e1, f, ρ2, e2, q⟩ := h
  exact ⟨f, ρ2, by simp [sFor, e1, e2], q⟩
/-- a loop by its invariant: P, of the items gone through -/
theorem wp_loop {α : Type} {m : MG} (fn : α → PV) (P : List α → Env → Prop) (ys : List α) (h0 : P [] ρ)
    (step : ∀ done y rest ρ, ys = done ++ y :: rest → P done ρ → PutQ m (.val (fn y)) ρ fun ρ1 => Wp s ρ1 (TurnQ (P (done ++ [y])) QS)) (hd : ∀ ρ, P ys ρ → QS .nx ρ) : Wp (loopF m s (ys.map fn)) ρ QS := by
  have key : ∀ (rest done : List α) (ρ : Env), ys = done ++ rest → P done ρ → Wp (loopF m s (rest.map fn)) ρ QS := by
    intro rest
    induction rest with
    | nil =>
      intro done ρ e p
      rw [List.append_nil] at e
      subst e
      exact ⟨_, _, rfl, hd ρ p⟩
    | cons y rest ih =>
      intro done ρ e p
      obtain ⟨ρ1, e1, f, ρ2, e2, q⟩ := step done y rest ρ e p
      have e' : ys = (done ++ [y]) ++ rest := by rw [e]; simp
      cases f with
      | nx => obtain ⟨f', ρ3, e3, q⟩ := ih _ ρ2 e' q; exact ⟨f', ρ3, by simp [loopF, e1, e2, e3], q⟩
      | ct => obtain ⟨f', ρ3, e3, q⟩ := ih _ ρ2 e' q; exact ⟨f', ρ3, by simp [loopF, e1, e2, e3], q⟩
      | bk => exact ⟨_, ρ2, by simp [loopF, e1, e2], q⟩
      | rt r => exact ⟨_, ρ2, by simp [loopF, e1, e2], q⟩
  exact key ys [] ρ rfl h0
theorem wp_seqI (h : Wp a ρ fun x ρ1 => ∃ xs, (x = .val (.list xs) ∨ x = .val (.tuple xs) ∨ x = .new (.lst xs)) ∧ QL xs ρ1) : Wp (iSeq a) ρ QL := by
  obtain ⟨x, ρ1, e1, xs, h, q⟩ := h
  rcases h with rfl | rfl | rfl <;> exact ⟨xs, ρ1, by simp [iSeq, e1], q⟩
theorem wp_rng1 (h : Wp a ρ fun x ρ1 => ∃ n, look x ρ1 = some (.pv (.int n)) ∧ (n ≤ line ∧ -(2 ^ 62) ≤ n) ∧ QL ((List.range n.toNat).map fun (k : Nat) => .int (k : Int)) ρ1) : Wp (iRng1 a) ρ QL := by
  obtain ⟨x, ρ1, e1, n, e2, hz, q⟩ := h
  refine ⟨rangeL 0 n.toNat, ρ1, by simp only [iRng1, e1, e2, intOf, Option.bind_some, if_pos hz], ?_⟩
  unfold rangeL
  simpa using q
theorem wp_rng2 (h : Wp a ρ fun x ρ1 => ∃ lo, look x ρ1 = some (.pv (.int lo)) ∧ Wp b ρ1 fun y ρ2 => ∃ hi, look y ρ2 = some (.pv (.int hi)) ∧ (-(2 ^ 61) ≤ lo ∧ lo < 2 ^ 61 ∧ -(2 ^ 61) ≤ hi ∧ hi < 2 ^ 61 ∧ (hi - lo) ≤ line) ∧ QL ((List.range (hi - lo).toNat).map fun (k : Nat) => .int (lo + (k : Int))) ρ2) : Wp (iRng2 a b) ρ QL := by
  obtain ⟨x, ρ1, e1, lo, e2, y, ρ2, e3, hi, e4, hz, q⟩ := h
  exact ⟨rangeL lo (hi - lo).toNat, ρ2, by simp only [iRng2, e1, e2, e3, e4, intOf, Option.bind_some, if_pos hz], q⟩
theorem whileF_mono {n : Nat} {x : Fl × Env} : ∀ {ρ : Env}, whileF t s n ρ = some x → ∀ k, whileF t s (n + k) ρ = some x := by
  induction n with
  | zero => intro ρ h; cases h
  | succ n ih =>
    intro ρ h k
    rw [Nat.add_right_comm]
    simp only [whileF, Option.bind_eq_some_iff] at h ⊢
    obtain ⟨⟨b, ρ1⟩, e1, h⟩ := h
    refine ⟨(b, ρ1), e1, ?_⟩
    cases b with
    | false => simpa using h
    | true =>
      simp only [if_true, Option.bind_eq_some_iff] at h ⊢
      obtain ⟨⟨f, ρ2⟩, e2, h⟩ := h
      refine ⟨(f, ρ2), e2, ?_⟩
      cases f with
      | nx => exact ih h k
      | ct => exact ih h k
      | bk => exact h
      | rt r => exact h
theorem while_of {n : Nat} {x : Fl × Env} (h : whileF t s n ρ = some x) : sWhile t s ρ = some x := by
  have ex : ∃ n, (whileF t s n ρ).isSome = true := ⟨n, by rw [h]; rfl⟩
  unfold sWhile
  rw [dif_pos ex]
  obtain ⟨y, hy⟩ := Option.isSome_iff_exists.mp ex.choose_spec
  have h1 := whileF_mono h ex.choose
  have h2 := whileF_mono hy n
  rw [Nat.add_comm] at h2
  rw [h1] at h2
  rw [hy, h2]
/-- a while by its invariant P and a measure -/
theorem wp_while {β : Type} (P : β → Env → Prop) (μ : β → Nat) (x0 : β) (h0 : P x0 ρ)
    (step : ∀ x ρ, P x ρ → Wp t ρ fun b ρ1 => (b = true → Wp s ρ1 (TurnQ (fun ρ2 => ∃ x', μ x' < μ x ∧ P x' ρ2) QS)) ∧ (b = false → QS .nx ρ1)) : Wp (sWhile t s) ρ QS := by
  have key : ∀ (n : Nat) (x : β) (ρ : Env), μ x < n → P x ρ → ∃ f ρ', whileF t s n ρ = some (f, ρ') ∧ QS f ρ' := by
    intro n
    induction n with
    | zero => intro x ρ h; omega
    | succ n ih =>
      intro x ρ hn p
      obtain ⟨b, ρ1, e1, h1, h2⟩ := step x ρ p
      cases b with
      | false => exact ⟨_, ρ1, by simp [whileF, e1], h2 rfl⟩
      | true =>
        obtain ⟨f, ρ2, e2, q⟩ := h1 rfl
        cases f with
        | nx => obtain ⟨x', l, p'⟩ := q; obtain ⟨f', ρ3, e3, q⟩ := ih x' ρ2 (by omega) p'; exact ⟨f', ρ3, by simp [whileF, e1, e2, e3], q⟩
        | ct => obtain ⟨x', l, p'⟩ := q; obtain ⟨f', ρ3, e3, q⟩ := ih x' ρ2 (by omega) p'; exact ⟨f', ρ3, by simp [whileF, e1, e2, e3], q⟩
        | bk => exact ⟨_, ρ2, by simp [whileF, e1, e2], q⟩
        | rt r => exact ⟨_, ρ2, by simp [whileF, e1, e2], q⟩
  obtain ⟨f, ρ', e, q⟩ := key (μ x0 + 1) x0 ρ (Nat.lt_succ_self _) h0
  exact ⟨f, ρ', while_of e, q⟩
/-! comprehensions -/
/-- a turn: the new list's next items ys -/
def LcQ (g : MG) (vs : List Nat) (t : MT) (e : M) (x : PV) (ρ : Env) (Q : List PV → Env → Prop) : Prop :=
  PutQ g (.val x) (wipe ρ vs) fun ρ1 => Wp t ρ1 fun b ρ2 => (b = true → Wp e ρ2 fun r ρ3 => FrzQ r ρ3 fun v ρ4 => Q [v] ρ4) ∧ (b = false → Q [] ρ2)
theorem wp_lc {α : Type} {it : MI} {g : MG} {vs : List Nat} {e : M} (fn : α → PV) (P : List α → List PV → Env → Prop)
    (h : Wp it ρ fun xs ρ1 => ∃ ys : List α, xs = ys.map fn ∧ ys.length ≤ line ∧ P [] [] ρ1 ∧ (∀ done y rest acc ρ, ys = done ++ y :: rest → P done acc ρ → LcQ g vs t e (fn y) ρ fun zs ρ2 => P (done ++ [y]) (acc ++ zs) ρ2) ∧ ∀ acc ρ, P ys acc ρ → Q (.new (.lst acc)) (back ρ1 vs ρ)) :
    Wp (mLc it g vs t e) ρ Q := by
  obtain ⟨xs, ρ1, e1, ys, rfl, hz, h0, step, hd⟩ := h
  have key : ∀ (rest done : List α) (acc : List PV) (ρ : Env), ys = done ++ rest → P done acc ρ → ∃ zs ρ', lcF (lcTurn g vs t e) (rest.map fn) ρ = some (zs, ρ') ∧ P ys (acc ++ zs) ρ' := by
    intro rest
    induction rest with
    | nil =>
      intro done acc ρ e p
      rw [List.append_nil] at e
      subst e
      exact ⟨[], ρ, rfl, by simpa using p⟩
    | cons y rest ih =>
      intro done acc ρ e p
      obtain ⟨ρ2, e2, b, ρ3, e3, h1, h2⟩ := step done y rest acc ρ e p
      have e' : ys = (done ++ [y]) ++ rest := by rw [e]; simp
      cases b with
      | true =>
        obtain ⟨r, ρ4, e4, v, ρ5, e5, q⟩ := h1 rfl
        obtain ⟨zs, ρ', e6, p'⟩ := ih _ _ ρ5 e' q
        exact ⟨v :: zs, ρ', by simp [lcF, lcTurn, e2, e3, e4, e5, e6], by simpa using p'⟩
      | false =>
        obtain ⟨zs, ρ', e6, p'⟩ := ih _ _ ρ3 e' (h2 rfl)
        exact ⟨zs, ρ', by simp [lcF, lcTurn, e2, e3, e6], by simpa using p'⟩
  obtain ⟨zs, ρ', e6, p'⟩ := key ys [] [] ρ1 rfl h0
  exact ⟨.new (.lst zs), back ρ1 vs ρ', by simp only [mLc, e1, Option.bind_some, List.length_map, if_pos hz, e6, Option.map_some], hd _ _ (by simpa using p')⟩
end
/-! ### operators -/
section
variable {a b : Int}
theorem ev_mul (h : mulOk a b = true) : fMul (.pv (.int a)) (.pv (.int b)) = some (.val (.int (a * b))) := by simp [fMul, h]
theorem ev_mulI (h : mulOk a b = true) : fMulI (.pv (.int a)) (.pv (.int b)) = some (.val (.int (a * b))) := by simp [fMulI, h]
theorem ev_div (h : b ≠ 0) : fDiv (.pv (.int a)) (.pv (.int b)) = some (.val (.int (a.fdiv b))) := by simp [fDiv, h]
theorem ev_mod (h : b ≠ 0) : fMod (.pv (.int a)) (.pv (.int b)) = some (.val (.int (a.fmod b))) := by simp [fMod, h]
theorem ev_pow (h : 0 ≤ b ∧ b ≤ 1000000 ∧ a.natAbs < 2 ^ 64) : fPow (.pv (.int a)) (.pv (.int b)) = some (.val (.int (a ^ b.toNat))) := by simp [fPow, h]
theorem ev_ix {c : Ct} {xs : List PV} {v : PV} (hc : c = .pv (.tuple xs) ∨ c = .pv (.list xs) ∨ c = .ob (.lst xs)) (h : atI xs a = some v) : fIx c (.pv (.int a)) = some (.val v) := by
  rcases hc with rfl | rfl | rfl <;> simp [fIx, h]
theorem atI_nat {xs : List PV} {j : Nat} {v : PV} (h : xs[j]? = some v) : atI xs (j : Int) = some v := by
  have hj : j < xs.length := (List.getElem?_eq_some_iff.mp h).1
  have : ixN xs.length (j : Int) = some j := by unfold ixN; rw [if_pos (by omega), if_pos (by omega)]; simp
  unfold atI
  rw [this]
  exact h
end
end Py
/-! Q1: rules of reckoning over a written environment. -/
namespace Py
open PySem
theorem get_z (s : Option Sl) (ρ : Env) : get (s :: ρ) 0 = s := rfl
theorem get_s (s : Option Sl) (ρ : Env) (i : Nat) : get (s :: ρ) (i + 1) = get ρ i := rfl
theorem set_z (s t : Option Sl) (ρ : Env) : List.set (s :: ρ) 0 t = t :: ρ := rfl
theorem set_s (s t : Option Sl) (ρ : Env) (i : Nat) : List.set (s :: ρ) (i + 1) t = s :: List.set ρ i t := rfl
inductive PutR : Nat → Option Sl → Env → Env → Prop
  | z {a s : Option Sl} {ρ : Env} (h : isRef a = false) : PutR 0 s (a :: ρ) (s :: ρ)
  | s {a s : Option Sl} {i : Nat} {ρ ρ' : Env} (h : PutR i s ρ ρ') : PutR (i + 1) s (a :: ρ) (a :: ρ')
theorem PutR.put {i s ρ ρ'} (h : PutR i s ρ ρ') : put i s ρ = some ρ' := by
  have : isRef (get ρ i) = false ∧ ρ.set i s = ρ' := by
    induction h with
    | z h => exact ⟨h, rfl⟩
    | s _ ih => exact ⟨ih.1, by rw [List.set_cons_succ, ih.2]⟩
  simp [Py.put, this.1, this.2]
theorem putqV {i : Nat} {v : PV} {ρ ρ' : Env} {Q : Env → Prop} (h : PutR i (some (.val v)) ρ ρ') (q : Q ρ') : PutQ (gName i) (.val v) ρ Q := ⟨ρ', h.put, q⟩
theorem putqN {i : Nat} {o : Ob} {ρ ρ' : Env} {Q : Env → Prop} (h : PutR i (some (.own o)) ρ ρ') (q : Q ρ') : PutQ (gName i) (.new o) ρ Q := ⟨ρ', h.put, q⟩
theorem putq2 {i j : Nat} {v w : PV} {ρ ρ1 ρ2 : Env} {Q : Env → Prop} (h : PutR i (some (.val v)) ρ ρ1) (h2 : PutR j (some (.val w)) ρ1 ρ2) (q : Q ρ2) : PutQ (gTup [i, j]) (.val (.tuple [v, w])) ρ Q := ⟨ρ2, by simp [gTup, gNames, h.put, h2.put], q⟩
theorem unB {a : M} {ρ : Env} {QT : Bool → Env → Prop} (h : Wp a ρ fun x ρ1 => ∃ b, x = .val (.bool b) ∧ QT b ρ1) : Wp (mB a) ρ QT :=
  wp_B (h.mono fun x _ ⟨b, e, q⟩ => ⟨b, by rw [e]; rfl, q⟩)
theorem wp_truB {a : M} {ρ : Env} {QT : Bool → Env → Prop} (h : Wp a ρ fun x ρ1 => ∃ b, x = .val (.bool b) ∧ QT b ρ1) : Wp (mTru a) ρ QT :=
  wp_tru (h.mono fun x _ ⟨b, e, q⟩ => ⟨.pv (.bool b), b, by rw [e]; rfl, rfl, q⟩)
theorem beq {b : Bool} {ρ : Env} {QT : Bool → Env → Prop} (q : QT b ρ) : ∃ c, (R.val (.bool b)) = .val (.bool c) ∧ QT c ρ := ⟨b, rfl, q⟩
theorem turn_nx {N : Env → Prop} {Q : Fl → Env → Prop} {ρ : Env} (h : N ρ) : TurnQ N Q .nx ρ := h
theorem turn_rt {N : Env → Prop} {Q : Fl → Env → Prop} {ρ : Env} {r : R} (h : Q (.rt r) ρ) : TurnQ N Q (.rt r) ρ := h
theorem branch {b : Bool} {A B : Prop} (h1 : b = true → A) (h2 : b = false → B) : (b = true → A) ∧ (b = false → B) := ⟨h1, h2⟩
theorem branchD {p : Prop} [Decidable p] {A B : Prop} (h1 : p → A) (h2 : ¬p → B) : (decide p = true → A) ∧ (decide p = false → B) := ⟨fun h => h1 (of_decide_eq_true h), fun h => h2 (of_decide_eq_false h)⟩
theorem branchN {b : Bool} {A B : Prop} (h1 : b = false → A) (h2 : b = true → B) : ((!b) = true → A) ∧ ((!b) = false → B) := ⟨fun h => h1 (by simpa using h), fun h => h2 (by simpa using h)⟩
theorem brT {b : Bool} {A B : Prop} (e : b = true) (h1 : A) : (b = true → A) ∧ (b = false → B) := ⟨fun _ => h1, fun h => (by rw [e] at h; cases h)⟩
theorem brF {b : Bool} {A B : Prop} (e : b = false) (h1 : B) : (b = true → A) ∧ (b = false → B) := ⟨fun h => (by rw [e] at h; cases h), fun _ => h1⟩
theorem ev_ltI {a b : Int} : fLt (.pv (.int a)) (.pv (.int b)) = some (.val (.bool (decide (a < b)))) := rfl
theorem ev_leI {a b : Int} : fLe (.pv (.int a)) (.pv (.int b)) = some (.val (.bool (decide (a ≤ b)))) := rfl
theorem ev_gtI {a b : Int} : fGt (.pv (.int a)) (.pv (.int b)) = some (.val (.bool (decide (b < a)))) := rfl
theorem ev_geI {a b : Int} : fGe (.pv (.int a)) (.pv (.int b)) = some (.val (.bool (decide (b ≤ a)))) := rfl
theorem ev_eqI {a b : Int} : fEq (.pv (.int a)) (.pv (.int b)) = some (.val (.bool (decide (a = b)))) := by simp [fEq, eqD]
theorem ev_neI {a b : Int} : fNe (.pv (.int a)) (.pv (.int b)) = some (.val (.bool (!decide (a = b)))) := by simp [fNe, eqD]

inductive StartR : Nat → List Sl → Env → Prop
  | z : StartR 0 [] []
  | p {n : Nat} {ρ : Env} (h : StartR n [] ρ) : StartR (n + 1) [] (none :: ρ)
  | a {n : Nat} {s : Sl} {as : List Sl} {ρ : Env} (h : StartR n as ρ) : StartR (n + 1) (s :: as) (some s :: ρ)
theorem StartR.eq {n as ρ} (h : StartR n as ρ) : startE n as = ρ := by
  induction h with
  | z => rfl
  | p _ ih => simp [startE] at ih ⊢; rw [List.replicate_succ, ih]
  | a _ ih => simp [startE] at ih ⊢; exact ih
theorem ret_mkR {n : Nat} {as : List Sl} {ρ : Env} {body : SM} {QR : R → List Ob → Prop} (h0 : StartR n as ρ) (h : Wp body ρ fun f ρ' => FinQ as f ρ' QR) : Ret (mkDen n body) as QR := ret_mk (h0.eq ▸ h)
/-- the objects behind a call -/
inductive SetR : Env → Nat → Ob → Env → Prop
  | o {ρ : Env} {o o' : Ob} : SetR (some (.own o) :: ρ) 0 o' (some (.own o') :: ρ)
  | r {ρ : Env} {o o' : Ob} : SetR (some (.ref o) :: ρ) 0 o' (some (.ref o') :: ρ)
  | s {a : Option Sl} {ρ ρ' : Env} {i : Nat} {o : Ob} (h : SetR ρ i o ρ') : SetR (a :: ρ) (i + 1) o (a :: ρ')
theorem SetR.eq {ρ i o ρ'} (h : SetR ρ i o ρ') : setOb ρ i o = ρ' := by
  induction h with
  | o => rfl
  | r => rfl
  | @s a ρ ρ' i o h ih =>
    rw [← ih]
    unfold setOb
    rw [get_s]
    split <;> rfl
theorem wp_popR {ρ ρ' : Env} {i : Nat} {v : PV} {Q : R → Env → Prop} {xs : List PV} (h0 : lstAt ρ i = some xs) (h1 : xs.getLast? = some v) (h2 : SetR ρ i (.lst xs.dropLast) ρ') (q : Q (.val v) ρ') : Wp (mPop i) ρ Q := wp_pop h0 h1 (h2.eq ▸ q)
def AppQ (i : Nat) (v : PV) (ρ : Env) (Q : R → Env → Prop) : Prop := ∃ xs ρ3, lstAt ρ i = some xs ∧ xs.length < line ∧ SetR ρ i (.lst (xs ++ [v])) ρ3 ∧ Q (.val .none) ρ3
theorem wp_appendR {a : M} {ρ : Env} {i : Nat} {Q : R → Env → Prop} {xs : List PV} (h0 : lstAt ρ i = some xs) (h : Wp a ρ fun x ρ1 => FrzQ x ρ1 fun v ρ2 => AppQ i v ρ2 Q) : Wp (mAppend i a) ρ Q := by
  refine wp_append h0 (h.mono fun x ρ1 ⟨v, ρ2, e, xs, ρ3, h1, h2, h3, q⟩ => ⟨v, ρ2, e, xs, h1, h2, ?_⟩)
  rw [h3.eq]; exact q
/-- a call with one object -/
def CallQ (is : List Nat) (r : R) (os : List Ob) (ρ : Env) (Q : R → Env → Prop) : Prop := Q r (setObs is os ρ)
theorem callq0 {r : R} {ρ : Env} {Q : R → Env → Prop} (q : Q r ρ) : CallQ [] r [] ρ Q := q
theorem callq1 {i : Nat} {o : Ob} {r : R} {ρ ρ' : Env} {Q : R → Env → Prop} (h : SetR ρ i o ρ') (q : Q r ρ') : CallQ [i] r [o] ρ Q := by
  show Q r (setOb ρ i o)
  rw [h.eq]; exact q
theorem callq2 {i j : Nat} {o p : Ob} {r : R} {ρ ρ1 ρ2 : Env} {Q : R → Env → Prop} (h : SetR ρ i o ρ1) (h2 : SetR ρ1 j p ρ2) (q : Q r ρ2) : CallQ [i, j] r [o, p] ρ Q := by
  show Q r (setOb (setOb ρ i o) j p)
  rw [h.eq, h2.eq]; exact q
inductive RefsR : List Ag → List Nat → Prop
  | nil : RefsR [] []
  | v {a : M} {r : List Ag} {is : List Nat} (h : RefsR r is) : RefsR (.v a :: r) is
  | r {i : Nat} {r : List Ag} {is : List Nat} (h : RefsR r is) : RefsR (.r i :: r) (i :: is)
theorem RefsR.eq {ags is} (h : RefsR ags is) : refsOf ags = is := by
  induction h with
  | nil => rfl
  | v _ ih => exact ih
  | r _ ih => exact congrArg _ ih
theorem wp_callR {d : Den} {ags : List Ag} {is : List Nat} {ρ : Env} {Q : R → Env → Prop} (e' : RefsR ags is) (nd : is.Nodup) (h : Wp (agsEval ags) ρ fun ss ρ1 => Ret d ss fun r os => CallQ is r os ρ1 Q) : Wp (mCall d ags) ρ Q := by
  have e := e'.eq
  subst e; exact wp_call nd h
/-- names forgotten -/
inductive FgtR : Nat → Env → Env → Prop
  | z {a : Option Sl} {ρ : Env} (h : isRef a = false) : FgtR 0 (a :: ρ) (none :: ρ)
  | k {o : Ob} {ρ : Env} : FgtR 0 (some (.ref o) :: ρ) (some (.ref o) :: ρ)
  | s {a : Option Sl} {i : Nat} {ρ ρ' : Env} (h : FgtR i ρ ρ') : FgtR (i + 1) (a :: ρ) (a :: ρ')
theorem FgtR.eq {i ρ ρ'} (h : FgtR i ρ ρ') : (if isRef (get ρ i) then ρ else ρ.set i none) = ρ' := by
  induction h with
  | z h => simp [get_z, h]
  | k => rfl
  | @s a i ρ ρ' h ih =>
    rw [get_s, set_s, ← ih]
    split <;> rfl
inductive FgtsR : List Nat → Env → Env → Prop
  | nil {ρ : Env} : FgtsR [] ρ ρ
  | cons {i : Nat} {r : List Nat} {ρ ρ1 ρ2 : Env} (h : FgtsR r ρ ρ1) (h2 : FgtR i ρ1 ρ2) : FgtsR (i :: r) ρ ρ2
theorem FgtsR.eq {is ρ ρ'} (h : FgtsR is ρ ρ') : forget is ρ = ρ' := by
  induction h with
  | nil => rfl
  | cons _ h2 ih => rw [← h2.eq, ← ih]; rfl
def FgtQ (is : List Nat) (QS : Fl → Env → Prop) (f : Fl) (ρ : Env) : Prop := match f with | .rt r => QS (.rt r) ρ | f => QS f (forget is ρ)
theorem wp_fgtR {is : List Nat} {s : SM} {ρ : Env} {QS : Fl → Env → Prop} (h : Wp s ρ (FgtQ is QS)) : Wp (sFgt is s) ρ QS := wp_fgt h
section
variable {is : List Nat} {ρ ρ' : Env} {QS : Fl → Env → Prop} {r : R}
theorem fgt_nx (h : FgtsR is ρ ρ') (q : QS .nx ρ') : FgtQ is QS .nx ρ := by show QS .nx (forget is ρ); rw [h.eq]; exact q
theorem fgt_bk (h : FgtsR is ρ ρ') (q : QS .bk ρ') : FgtQ is QS .bk ρ := by show QS .bk (forget is ρ); rw [h.eq]; exact q
theorem fgt_ct (h : FgtsR is ρ ρ') (q : QS .ct ρ') : FgtQ is QS .ct ρ := by show QS .ct (forget is ρ); rw [h.eq]; exact q
theorem fgt_rt (q : QS (.rt r) ρ) : FgtQ is QS (.rt r) ρ := q
theorem turn_ct {N : Env → Prop} {Q : Fl → Env → Prop} (h : N ρ) : TurnQ N Q .ct ρ := h
theorem turn_bk {N : Env → Prop} {Q : Fl → Env → Prop} (h : Q .nx ρ) : TurnQ N Q .bk ρ := h
end
/-- a loop over a row of values, by how many are gone through -/
theorem wp_loopK {m : MG} {s : SM} {ρ : Env} {QS : Fl → Env → Prop} {xs : List PV} (P : Nat → Env → Prop) (h0 : P 0 ρ)
    (step : ∀ k (hk : k < xs.length) ρ, P k ρ → PutQ m (.val xs[k]) ρ fun ρ1 => Wp s ρ1 (TurnQ (P (k + 1)) QS)) (hd : ∀ ρ, P xs.length ρ → QS .nx ρ) : Wp (loopF m s xs) ρ QS := by
  have := wp_loop (m := m) (s := s) (QS := QS) (ρ := ρ) (fun x : PV => x) (fun done ρ => P done.length ρ) xs h0 (fun done y rest ρ e p => ?_) hd
  · rwa [List.map_id''] at this; intro; rfl
  · have hk : done.length < xs.length := by rw [e]; simp
    have hy : xs[done.length] = y := by simp [e]
    have h := step done.length hk ρ p
    rw [hy] at h
    simpa using h
theorem wp_forN {a : M} {m : MG} {s : SM} {ρ : Env} {QS : Fl → Env → Prop} (P : Nat → Env → Prop) (n : Nat)
    (h : Wp a ρ fun x ρ1 => look x ρ1 = some (.pv (.int n)) ∧ n ≤ line ∧ P 0 ρ1) (step : ∀ k ρ, k < n → P k ρ → PutQ m (.val (.int k)) ρ fun ρ1 => Wp s ρ1 (TurnQ (P (k + 1)) QS)) (hd : ∀ ρ, P n ρ → QS .nx ρ) : Wp (sFor (iRng1 a) m s) ρ QS := by
  refine wp_for (wp_rng1 (h.mono fun x ρ1 ⟨e, hz, h0⟩ => ⟨n, e, ⟨by exact_mod_cast hz, by omega⟩, ?_⟩))
  refine wp_loopK P h0 (fun k hk ρ p => ?_) (fun ρ p => hd ρ ?_)
  · simp at hk
    simpa using step k ρ hk p
  · simpa using p
theorem wp_forL {it : M} {m : MG} {s : SM} {ρ : Env} {QS : Fl → Env → Prop} (P : Nat → Env → Prop)  (xs : List PV)
    (h : Wp it ρ fun x ρ1 => (x = .val (.list xs) ∨ x = .val (.tuple xs) ∨ x = .new (.lst xs)) ∧ P 0 ρ1) (step : ∀ k (hk : k < xs.length) ρ, P k ρ → PutQ m (.val xs[k]) ρ fun ρ1 => Wp s ρ1 (TurnQ (P (k + 1)) QS)) (hd : ∀ ρ, P xs.length ρ → QS .nx ρ) : Wp (sFor (iSeq it) m s) ρ QS := by
  refine wp_for (wp_seqI (h.mono fun x ρ1 ⟨e, h0⟩ => ⟨xs, e, ?_⟩))
  exact wp_loopK P h0 step hd
theorem mulOk_of {a b : Int} (m n : Nat) (ha : a.natAbs < 2 ^ m) (hb : b.natAbs < 2 ^ n) (h : m + n < 100000000 := by decide) : mulOk a b = true := by
  have h1 : a.natAbs.log2 ≤ m := by
    by_cases h0 : a.natAbs = 0
    · rw [h0]; simp
    · exact Nat.le_of_lt ((Nat.log2_lt h0).mpr ha)
  have h2 : b.natAbs.log2 ≤ n := by
    by_cases h0 : b.natAbs = 0
    · rw [h0]; simp
    · exact Nat.le_of_lt ((Nat.log2_lt h0).mpr hb)
  unfold mulOk
  exact decide_eq_true (by omega)
theorem parq {i j : Nat} {v w : PV} {ρ ρ1 ρ2 : Env} {Q : Env → Prop} (h : PutR i (some (.val v)) ρ ρ1) (h2 : PutR j (some (.val w)) ρ1 ρ2) (q : Q ρ2) : ∃ ρ5 ρ6, put i (some (.val v)) ρ = some ρ5 ∧ put j (some (.val w)) ρ5 = some ρ6 ∧ Q ρ6 := ⟨ρ1, ρ2, h.put, h2.put, q⟩
theorem ixN_nat {n j : Nat} (h : j < n) : ixN n (j : Int) = some j := by
  unfold ixN
  rw [if_pos (by omega), if_pos (by omega)]
  simp
def IxQ (i : Nat) (v : PV) (y : R) (ρ : Env) (Q : Env → Prop) : Prop := ∃ k xs j ρ4, look y ρ = some (.pv (.int k)) ∧ lstAt ρ i = some xs ∧ ixN xs.length k = some j ∧ SetR ρ i (.lst (xs.set j v)) ρ4 ∧ Q ρ4
theorem ixq {i j : Nat} {v : PV} {y : R} {ρ ρ4 : Env} {Q : Env → Prop} {xs : List PV} (h1 : look y ρ = some (.pv (.int (j : Int)))) (h2 : lstAt ρ i = some xs) (h3 : j < xs.length) (h4 : SetR ρ i (.lst (xs.set j v)) ρ4) (q : Q ρ4) : IxQ i v y ρ Q := ⟨_, _, _, _, h1, h2, ixN_nat h3, h4, q⟩
theorem wp_setIxR {a b : M} {ρ : Env} {i : Nat} {QS : Fl → Env → Prop} (h : Wp a ρ fun x ρ1 => FrzQ x ρ1 fun v ρ2 => ∃ ys, lstAt ρ2 i = some ys ∧ Wp b ρ2 fun y ρ3 => IxQ i v y ρ3 fun ρ4 => QS .nx ρ4) : Wp (sSetIx i b a) ρ QS := by
  refine wp_setIx (h.mono fun x ρ1 ⟨v, ρ2, e, ys, h1, h2⟩ => ⟨v, ρ2, e, ys, h1, h2.mono fun y ρ3 ⟨k, xs, j, ρ4, h3, h4, h5, h6, q⟩ => ⟨k, xs, j, h3, h4, h5, ?_⟩⟩)
  rw [h6.eq]; exact q
theorem wp_reverseR {ρ ρ' : Env} {i : Nat} {Q : R → Env → Prop} {xs : List PV} (h0 : lstAt ρ i = some xs) (h2 : SetR ρ i (.lst xs.reverse) ρ') (q : Q (.val .none) ρ') : Wp (mReverse i) ρ Q := wp_reverse h0 (h2.eq ▸ q)
/-- a comprehension over a list, no test -/
def ElQ (e : M) (ρ : Env) (Q : PV → Env → Prop) : Prop := Wp e ρ fun r ρ3 => FrzQ r ρ3 Q
theorem appq {ρ ρ3 : Env} {i : Nat} {xs : List PV} {v : PV} {Q : R → Env → Prop} (h1 : lstAt ρ i = some xs) (h2 : xs.length < line) (h3 : SetR ρ i (.lst (xs ++ [v])) ρ3) (q : Q (.val .none) ρ3) : AppQ i v ρ Q := ⟨xs, ρ3, h1, h2, h3, q⟩
theorem fmod_ix (i : Int) {n : Nat} (h : 0 < n) : ∃ j : Nat, i.fmod n = j ∧ j < n := by
  have h1 := Int.fmod_nonneg_of_pos i (b := n) (by omega)
  have h2 := Int.fmod_lt_of_pos i (b := n) (by omega)
  obtain ⟨j, hj⟩ := Int.eq_ofNat_of_zero_le h1
  exact ⟨j, hj, by omega⟩
/-- what holds behind a statement -/
theorem wp_mid {s s2 : SM} {ρ : Env} {QS : Fl → Env → Prop} (P : Env → Prop) (h1 : Wp s ρ fun f ρ' => f = Fl.nx ∧ P ρ') (h2 : ∀ ρ', P ρ' → Wp s2 ρ' QS) : Wp s ρ (SeqQ s2 QS) :=
  h1.mono fun f ρ' ⟨e, q⟩ => by rw [e]; exact h2 ρ' q
theorem mulB {a b : Int} {m n : Nat} (ha : Builtin.Int.intBits a ≤ m) (hb : Builtin.Int.intBits b ≤ n) (h : m + n < 100000000 := by decide) : mulOk a b = true :=
  mulOk_of m n (intBits_le_iff.mp ha) (intBits_le_iff.mp hb) h
theorem frzB {i : Nat} {o : Ob} {v : PV} {ρ ρ' : Env} {Q : PV → Env → Prop} (h : get ρ i = some (.own o)) (h2 : frzO o = some v) (h3 : PutR i (some (.val v)) ρ ρ') (q : Q v ρ') : FrzQ (.bor i) ρ Q := by
  refine ⟨v, ρ', ?_, q⟩
  have : isRef (get ρ i) = false ∧ ρ.set i (some (.val v)) = ρ' := by
    have e := h3.put
    simp only [put, h, isRef, Bool.false_eq_true, if_false] at e
    rw [h]
    exact ⟨rfl, Option.some.inj e⟩
  simp [frz, h, h2, this.2]
abbrev sOf (s : String) : Str := PySem.Str.ofString s
theorem ev_strT {s : Str} : fEq (.pv (.str s)) (.pv (.str s)) = some (.val (.bool true)) := by simp [fEq, eqD]
theorem ev_strF {s t : Str} (h : s ≠ t) : fEq (.pv (.str s)) (.pv (.str t)) = some (.val (.bool false)) := by simp [fEq, eqD, h]
theorem n1 : sOf "not" ≠ sOf "is" := by decide
theorem n2 : sOf "all" ≠ sOf "is" := by decide
theorem n3 : sOf "any" ≠ sOf "is" := by decide
theorem n4 : sOf "all" ≠ sOf "not" := by decide
theorem n5 : sOf "any" ≠ sOf "not" := by decide
theorem n6 : sOf "any" ≠ sOf "all" := by decide
theorem wp_test {t : MT} {ρ : Env} {QT : Bool → Env → Prop} (P : Bool → Prop) (h : Wp t ρ fun b ρ1 => ρ1 = ρ ∧ P b) (k : ∀ b, P b → QT b ρ) : Wp t ρ QT := h.mono fun b ρ1 ⟨e, p⟩ => by rw [e]; exact k b p
end Py
namespace D
open Py
noncomputable def b_divisor : SM :=
    (sRet (mOp fGcd (mVar 0) (mVar 1)))
noncomputable def d_divisor : Den := mkDen 2 b_divisor

noncomputable def b_fraction : SM :=
    (sSeq (sAsg (mCall d_divisor [.v (mVar 0), .v (mVar 1)]) (Py.gName 2))
    (sSeq (sIf (mB (mOp fLt (mVar 1) (mC (.int 0)))) (sAsg (mUn fNeg (mVar 2)) (Py.gName 2)) sNext)
    (sRet (mTup (lCons (mOp fDiv (mVar 0) (mVar 2)) (lCons (mOp fDiv (mVar 1) (mVar 2)) lNil))))))
noncomputable def d_fraction : Den := mkDen 3 b_fraction

noncomputable def b_plus : SM :=
    (sRet (mCall d_fraction [.v (mOp fAdd (mOp fMul (mOp fIx (mVar 0) (mC (.int 0))) (mOp fIx (mVar 1) (mC (.int 1)))) (mOp fMul (mOp fIx (mVar 1) (mC (.int 0))) (mOp fIx (mVar 0) (mC (.int 1))))), .v (mOp fMul (mOp fIx (mVar 0) (mC (.int 1))) (mOp fIx (mVar 1) (mC (.int 1))))]))
noncomputable def d_plus : Den := mkDen 2 b_plus

noncomputable def b_minus : SM :=
    (sRet (mCall d_fraction [.v (mOp fSub (mOp fMul (mOp fIx (mVar 0) (mC (.int 0))) (mOp fIx (mVar 1) (mC (.int 1)))) (mOp fMul (mOp fIx (mVar 1) (mC (.int 0))) (mOp fIx (mVar 0) (mC (.int 1))))), .v (mOp fMul (mOp fIx (mVar 0) (mC (.int 1))) (mOp fIx (mVar 1) (mC (.int 1))))]))
noncomputable def d_minus : Den := mkDen 2 b_minus

noncomputable def b_times : SM :=
    (sRet (mCall d_fraction [.v (mOp fMul (mOp fIx (mVar 0) (mC (.int 0))) (mOp fIx (mVar 1) (mC (.int 0)))), .v (mOp fMul (mOp fIx (mVar 0) (mC (.int 1))) (mOp fIx (mVar 1) (mC (.int 1))))]))
noncomputable def d_times : Den := mkDen 2 b_times

noncomputable def b_is_less : SM :=
    (sRet (mOp fLt (mOp fMul (mOp fIx (mVar 0) (mC (.int 0))) (mOp fIx (mVar 1) (mC (.int 1)))) (mOp fMul (mOp fIx (mVar 1) (mC (.int 0))) (mOp fIx (mVar 0) (mC (.int 1))))))
noncomputable def d_is_less : Den := mkDen 2 b_is_less

noncomputable def e1_law_draws : M :=
    (mUn fInt (mVar 8))
noncomputable def l2_law_draws : SM :=
    (sFgt [5, 6, 7] (sSeq (sAsg (mOp fMod (mVar 5) (mUn fLen (mVar 2))) (Py.gName 6))
    (sIf (mB (mOp fGe (mOp fIx (mVar 2) (mVar 6)) (mOp fPow (mC (.int 10)) (mC (.int 18))))) (sSeq (sExpr (mAppend 4 (mOp fMod (mUn fInt (mOp fIx (mVar 3) (mVar 6))) (mC (.int 1000)))))
    (sSetIx 3 (mVar 6) (mOp fDiv (mOp fIx (mVar 3) (mVar 6)) (mC (.int 1000))))) (sSeq (sAsg (mOp fMod (mUn fInt (mOp fAdd (mOp fAdd (mOp fMul (mOp fIx (mVar 2) (mVar 6)) (mC (.int 48271))) (mOp fMul (mVar 5) (mC (.int 69621)))) (mC (.int 11)))) (mC (.int 2147483647))) (Py.gName 7))
    (sExpr (mAppend 4 (mOp fMod (mUn fInt (mOp fAdd (mOp fAdd (mOp fMul (mVar 7) (mVar 7)) (mOp fMul (mC (.int 3)) (mVar 7))) (mVar 5))) (mC (.int 1000003)))))))))
noncomputable def b_law_draws : SM :=
    (sSeq (sAsg (mLc (iSeq (mFrz (mVar 0))) (Py.gName 8) [8] tYes e1_law_draws) (Py.gName 2))
    (sSeq (sIf (mB (mOp fEq (mUn fLen (mVar 2)) (mC (.int 0)))) (sExpr (mAppend 2 (mC (.int 0)))) sNext)
    (sSeq (sAsg (mUn fList (mVar 2)) (Py.gName 3))
    (sSeq (sAsg (mLst lNil) (Py.gName 4))
    (sSeq (sFor (Py.iRng1 (mVar 1)) (Py.gName 5) l2_law_draws)
    (sSeq (sExpr (mReverse 4))
    (sRet (mVar 4))))))))
noncomputable def d_law_draws : Den := mkDen 9 b_law_draws

noncomputable def b_law_take : SM :=
    (sSeq (sIf (mB (mOp fEq (mUn fLen (mVar 0)) (mC (.int 0)))) (sRet (mC (.int 0))) sNext)
    (sRet (mOp fMod (mUn fInt (mPop 0)) (mVar 1))))
noncomputable def d_law_take : Den := mkDen 2 b_law_take

noncomputable def b_law_cell : SM :=
    (sSeq (sIf (mB (mOp fEq (mUn fLen (mVar 0)) (mC (.int 0)))) (sRet (mC (.int 0))) sNext)
    (sRet (mUn fInt (mOp fIx (mVar 0) (mOp fMod (mUn fInt (mVar 1)) (mUn fLen (mVar 0)))))))
noncomputable def d_law_cell : Den := mkDen 2 b_law_cell

noncomputable def b_law_huge : SM :=
    (sSeq (sAsg (mOp fIx (mLst (lCons (mC (.int 1)) (lCons (mOp fPow (mC (.int 10)) (mC (.int 3))) (lCons (mOp fPow (mC (.int 10)) (mC (.int 9))) (lCons (mOp fPow (mC (.int 10)) (mC (.int 15))) (lCons (mOp fPow (mC (.int 10)) (mC (.int 21))) (lCons (mOp fPow (mC (.int 10)) (mC (.int 27))) lNil))))))) (mCall d_law_take [.r 1, .v (mC (.int 6))])) (Py.gName 2))
    (sSeq (sAsg (mOp fAdd (mCall d_law_cell [.v (mVar 0), .v (mCall d_law_take [.r 1, .v (mC (.int 63))])]) (mOp fMul (mOp fAdd (mC (.int 1)) (mCall d_law_take [.r 1, .v (mC (.int 999))])) (mVar 2))) (Py.gName 3))
    (sRet (mOp fMod (mUn fInt (mVar 3)) (mOp fPow (mC (.int 10)) (mC (.int 30)))))))
noncomputable def d_law_huge : Den := mkDen 4 b_law_huge

noncomputable def l1_law_divisor : SM :=
    (sFgt [] (sPar 0 1 (mVar 1) (mOp fMod (mUn fInt (mVar 0)) (mVar 1))))
noncomputable def t2_law_divisor : MT :=
    (mB (mOp fNe (mVar 1) (mC (.int 0))))
noncomputable def b_law_divisor : SM :=
    (sSeq (sAsg (mUn fAbs (mVar 0)) (Py.gName 0))
    (sSeq (sAsg (mUn fAbs (mVar 1)) (Py.gName 1))
    (sSeq (sFgt [1] (sWhile t2_law_divisor l1_law_divisor))
    (sRet (mVar 0)))))
noncomputable def d_law_divisor : Den := mkDen 2 b_law_divisor

noncomputable def b_law_ratio : SM :=
    (sSeq (sAsg (mCall d_law_divisor [.v (mVar 0), .v (mVar 1)]) (Py.gName 2))
    (sSeq (sIf (mB (mOp fLt (mVar 1) (mC (.int 0)))) (sAsg (mUn fNeg (mVar 2)) (Py.gName 2)) sNext)
    (sRet (mTup (lCons (mOp fDiv (mVar 0) (mVar 2)) (lCons (mOp fDiv (mVar 1) (mVar 2)) lNil))))))
noncomputable def d_law_ratio : Den := mkDen 3 b_law_ratio

noncomputable def b_law_plus : SM :=
    (sRet (mCall d_law_ratio [.v (mOp fAdd (mOp fMul (mOp fIx (mVar 0) (mC (.int 0))) (mOp fIx (mVar 1) (mC (.int 1)))) (mOp fMul (mOp fIx (mVar 1) (mC (.int 0))) (mOp fIx (mVar 0) (mC (.int 1))))), .v (mOp fMul (mOp fIx (mVar 0) (mC (.int 1))) (mOp fIx (mVar 1) (mC (.int 1))))]))
noncomputable def d_law_plus : Den := mkDen 2 b_law_plus

noncomputable def b_law_minus : SM :=
    (sRet (mCall d_law_ratio [.v (mOp fSub (mOp fMul (mOp fIx (mVar 0) (mC (.int 0))) (mOp fIx (mVar 1) (mC (.int 1)))) (mOp fMul (mOp fIx (mVar 1) (mC (.int 0))) (mOp fIx (mVar 0) (mC (.int 1))))), .v (mOp fMul (mOp fIx (mVar 0) (mC (.int 1))) (mOp fIx (mVar 1) (mC (.int 1))))]))
noncomputable def d_law_minus : Den := mkDen 2 b_law_minus

noncomputable def b_law_times : SM :=
    (sRet (mCall d_law_ratio [.v (mOp fMul (mOp fIx (mVar 0) (mC (.int 0))) (mOp fIx (mVar 1) (mC (.int 0)))), .v (mOp fMul (mOp fIx (mVar 0) (mC (.int 1))) (mOp fIx (mVar 1) (mC (.int 1))))]))
noncomputable def d_law_times : Den := mkDen 2 b_law_times

noncomputable def b_law_less : SM :=
    (sRet (mOp fLt (mOp fMul (mOp fIx (mVar 0) (mC (.int 0))) (mOp fIx (mVar 1) (mC (.int 1)))) (mOp fMul (mOp fIx (mVar 1) (mC (.int 0))) (mOp fIx (mVar 0) (mC (.int 1))))))
noncomputable def d_law_less : Den := mkDen 2 b_law_less

noncomputable def l1_law_same (self : Den) : SM :=
    (sFgt [2] (sIf (mNot (mTru (mCall self [.v (mOp fIx (mVar 0) (mVar 2)), .v (mOp fIx (mVar 1) (mVar 2))]))) (sRet (mC (.bool false))) sNext))
noncomputable def b_law_same (self : Den) : SM :=
    (sSeq (sIf (mB (mOp (fIs false) (mVar 1) (mC .none))) (sRet (mOp (fIs false) (mVar 0) (mC .none))) sNext)
    (sSeq (sIf (mTru (mUn (fIsi .bool) (mVar 1))) (sRet (mAndV (mUn (fIsi .bool) (mVar 0)) (mOp fEq (mVar 0) (mVar 1)))) sNext)
    (sSeq (sIf (mTru (mUn (fIsi .int) (mVar 1))) (sRet (mAndV (mUn (fIsi .int) (mVar 0)) (mAndV (mNotV (mUn (fIsi .bool) (mVar 0))) (mOp fEq (mVar 0) (mVar 1))))) sNext)
    (sSeq (sIf (mTru (mUn (fIsi .str) (mVar 1))) (sRet (mAndV (mUn (fIsi .str) (mVar 0)) (mOp fEq (mVar 0) (mVar 1)))) sNext)
    (sSeq (sIf (mOr (mNot (mTru (mUn (fIsi .tuple) (mVar 0)))) (mB (mOp fNe (mUn fLen (mVar 0)) (mUn fLen (mVar 1))))) (sRet (mC (.bool false))) sNext)
    (sSeq (sFor (Py.iRng1 (mUn fLen (mVar 1))) (Py.gName 2) (l1_law_same self))
    (sRet (mC (.bool true)))))))))
noncomputable def d_law_same : Nat → Den
  | 0 => fun _ => none
  | n + 1 => mkDen 3 (b_law_same (d_law_same n))

noncomputable def b_law_drawn : SM :=
    (sSeq (sAsg (mCall d_law_take [.r 1, .v (mC (.int 16))]) (Py.gName 2))
    (sSeq (sAsg (mOp fSub (mCall d_law_take [.r 1, .v (mC (.int 13))]) (mC (.int 6))) (Py.gName 3))
    (sSeq (sAsg (mOp fAdd (mC (.int 1)) (mCall d_law_take [.r 1, .v (mC (.int 6))])) (Py.gName 4))
    (sSeq (sIf (mB (mOp fLt (mVar 2) (mC (.int 8)))) (sAsg (mC (.int 1)) (Py.gName 4)) sNext)
    (sSeq (sIf (mB (mOp fEq (mVar 2) (mC (.int 15)))) (sAsg (mOp fDiv (mOp fMul (mVar 3) (mCall d_law_huge [.v (mVar 0), .r 1])) (mC (.int 7))) (Py.gName 3)) sNext)
    (sSeq (sIf (mOr (mB (mOp fEq (mVar 2) (mC (.int 14)))) (mB (mOp fEq (mVar 2) (mC (.int 15))))) (sAsg (mOp fAdd (mC (.int 1)) (mOp fDiv (mCall d_law_huge [.v (mVar 0), .r 1]) (mC (.int 2)))) (Py.gName 4)) sNext)
    (sRet (mCall d_law_ratio [.v (mVar 3), .v (mVar 4)]))))))))
noncomputable def d_law_drawn : Den := mkDen 5 b_law_drawn

noncomputable def l1_total : SM :=
    (sFgt [2] (sAsg (mCall d_plus [.v (mVar 1), .v (mVar 2)]) (Py.gName 1)))
noncomputable def b_total : SM :=
    (sSeq (sAsg (mC (.tuple [.int 0, .int 1])) (Py.gName 1))
    (sSeq (sFor (iSeq (mFrz (mVar 0))) (Py.gName 2) l1_total)
    (sRet (mVar 1))))
noncomputable def d_total : Den := mkDen 3 b_total

noncomputable def e1_product_sum : M :=
    (mCall d_times [.v (mOp fIx (mVar 0) (mVar 2)), .v (mOp fIx (mVar 1) (mVar 2))])
noncomputable def b_product_sum : SM :=
    (sRet (mCall d_total [.v (mLc (Py.iRng1 (mUn fLen (mVar 0))) (Py.gName 2) [2] tYes e1_product_sum)]))
noncomputable def d_product_sum : Den := mkDen 3 b_product_sum

noncomputable def e1_gains : M :=
    (mOp fIx (mVar 5) (mVar 4))
noncomputable def e2_gains : M :=
    (mCall d_product_sum [.v (mVar 1), .v (mLc (iSeq (mFrz (mVar 3))) (Py.gName 5) [5] tYes e1_gains)])
noncomputable def b_gains : SM :=
    (sSeq (sAsg (mVar 0) (Py.gTup [2, 3]))
    (sRet (mUn fTuple (mLc (Py.iRng1 (mVar 2)) (Py.gName 4) [4] tYes e2_gains))))
noncomputable def d_gains : Den := mkDen 6 b_gains

noncomputable def e1_worths : M :=
    (mCall d_product_sum [.v (mVar 1), .v (mVar 2)])
noncomputable def b_worths : SM :=
    (sRet (mUn fTuple (mLc (iSeq (mOp fIx (mVar 0) (mC (.int 1)))) (Py.gName 2) [2] tYes e1_worths)))
noncomputable def d_worths : Den := mkDen 3 b_worths

noncomputable def l1_law_dot : SM :=
    (sFgt [4] (sSeq (sAsg (mOp fAdd (mOp fMul (mOp fMul (mVar 2) (mOp fIx (mOp fIx (mVar 0) (mVar 4)) (mC (.int 1)))) (mOp fIx (mOp fIx (mVar 1) (mVar 4)) (mC (.int 1)))) (mOp fMul (mOp fMul (mOp fIx (mOp fIx (mVar 0) (mVar 4)) (mC (.int 0))) (mOp fIx (mOp fIx (mVar 1) (mVar 4)) (mC (.int 0)))) (mVar 3))) (Py.gName 2))
    (sSeq (sAsg (mOp fMul (mOp fMul (mVar 3) (mOp fIx (mOp fIx (mVar 0) (mVar 4)) (mC (.int 1)))) (mOp fIx (mOp fIx (mVar 1) (mVar 4)) (mC (.int 1)))) (Py.gName 3))
    (sIf (mB (mOp fGt (mVar 3) (mOp fPow (mC (.int 10)) (mC (.int 40))))) (sAsg (mCall d_law_ratio [.v (mVar 2), .v (mVar 3)]) (Py.gTup [2, 3])) sNext))))
noncomputable def b_law_dot : SM :=
    (sSeq (sAsg (mC (.int 0)) (Py.gName 2))
    (sSeq (sAsg (mC (.int 1)) (Py.gName 3))
    (sSeq (sFor (Py.iRng1 (mUn fLen (mVar 0))) (Py.gName 4) l1_law_dot)
    (sRet (mCall d_law_ratio [.v (mVar 2), .v (mVar 3)])))))
noncomputable def d_law_dot : Den := mkDen 5 b_law_dot

noncomputable def e1_law_gained : M :=
    (mOp fIx (mVar 4) (mVar 3))
noncomputable def e2_law_gained : M :=
    (mCall d_law_dot [.v (mVar 2), .v (mLc (iSeq (mFrz (mVar 1))) (Py.gName 4) [4] tYes e1_law_gained)])
noncomputable def b_law_gained : SM :=
    (sRet (mUn fTuple (mLc (Py.iRng1 (mVar 0)) (Py.gName 3) [3] tYes e2_law_gained)))
noncomputable def d_law_gained : Den := mkDen 5 b_law_gained

noncomputable def e1_law_drawn_table : M :=
    (mCall d_law_drawn [.v (mVar 0), .r 1])
noncomputable def e2_law_drawn_table : M :=
    (mUn fTuple (mLc (Py.iRng1 (mVar 2)) (Py.gName 5) [5] tYes e1_law_drawn_table))
noncomputable def b_law_drawn_table : SM :=
    (sRet (mUn fTuple (mLc (Py.iRng1 (mVar 3)) (Py.gName 4) [4] tYes e2_law_drawn_table)))
noncomputable def d_law_drawn_table : Den := mkDen 6 b_law_drawn_table

noncomputable def l1_law_drawn_stakes : SM :=
    (sFgt [4, 5] (sSeq (sAsg (mCall d_law_drawn [.v (mVar 0), .r 1]) (Py.gName 5))
    (sExpr (mAppend 3 (mTup (lCons (mUn fAbs (mOp fIx (mVar 5) (mC (.int 0)))) (lCons (mOp fIx (mVar 5) (mC (.int 1))) lNil)))))))
noncomputable def b_law_drawn_stakes : SM :=
    (sSeq (sAsg (mLst lNil) (Py.gName 3))
    (sSeq (sFor (Py.iRng1 (mVar 2)) (Py.gName 4) l1_law_drawn_stakes)
    (sRet (mUn fTuple (mVar 3)))))
noncomputable def d_law_drawn_stakes : Den := mkDen 6 b_law_drawn_stakes

noncomputable def e1_law_right_2 : M :=
    (mCall d_law_dot [.v (mVar 2), .v (mVar 3)])
noncomputable def b_law_right_2 : SM :=
    (sSeq (sIf (mNot (mTru (mCall (d_law_same 40) [.v (mCall d_gains [.v (mVar 0), .v (mVar 1)]), .v (mCall d_law_gained [.v (mOp fIx (mVar 0) (mC (.int 0))), .v (mOp fIx (mVar 0) (mC (.int 1))), .v (mVar 1)])]))) (sRet (mC (.bool false))) sNext)
    (sRet (mCall (d_law_same 40) [.v (mCall d_worths [.v (mVar 0), .v (mVar 2)]), .v (mUn fTuple (mLc (iSeq (mOp fIx (mVar 0) (mC (.int 1)))) (Py.gName 3) [3] tYes e1_law_right_2))])))
noncomputable def d_law_right_2 : Den := mkDen 4 b_law_right_2

noncomputable def b_is_fraction : SM :=
    (sRet (mAndV (mOp fGe (mOp fIx (mVar 0) (mC (.int 1))) (mC (.int 1))) (mOp fEq (mCall d_fraction [.v (mOp fIx (mVar 0) (mC (.int 0))), .v (mOp fIx (mVar 0) (mC (.int 1)))]) (mVar 0))))
noncomputable def d_is_fraction : Den := mkDen 1 b_is_fraction

noncomputable def e1_are_stakes : M :=
    (mCall d_is_fraction [.v (mVar 2)])
noncomputable def e2_are_stakes : M :=
    (mCall d_is_less [.v (mVar 2), .v (mC (.tuple [.int 0, .int 1]))])
noncomputable def b_are_stakes : SM :=
    (sSeq (sIf (mOr (mB (mOp fNe (mUn fLen (mVar 1)) (mUn fLen (mOp fIx (mVar 0) (mC (.int 1)))))) (mNot (mTru (mUn fAll (mLc (iSeq (mFrz (mVar 1))) (Py.gName 2) [2] tYes e1_are_stakes))))) (sRet (mC (.bool false))) sNext)
    (sRet (mNotV (mUn fAny (mLc (iSeq (mFrz (mVar 1))) (Py.gName 2) [2] tYes e2_are_stakes)))))
noncomputable def d_are_stakes : Den := mkDen 3 b_are_stakes

noncomputable def e1_judge_sure_bet : M :=
    (mCall d_is_less [.v (mC (.tuple [.int 0, .int 1])), .v (mVar 2)])
noncomputable def b_judge_sure_bet : SM :=
    (sRet (mAndV (mCall d_are_stakes [.v (mVar 0), .v (mVar 1)]) (mUn fAll (mLc (iSeq (mCall d_gains [.v (mVar 0), .v (mVar 1)])) (Py.gName 2) [2] tYes e1_judge_sure_bet))))
noncomputable def d_judge_sure_bet : Den := mkDen 3 b_judge_sure_bet

noncomputable def b_law_is_integer : SM :=
    (sRet (mAndV (mUn (fIsi .int) (mVar 0)) (mNotV (mUn (fIsi .bool) (mVar 0)))))
noncomputable def d_law_is_integer : Den := mkDen 1 b_law_is_integer

noncomputable def b_law_is_fraction : SM :=
    (sSeq (sIf (mOr (mNot (mTru (mUn (fIsi .tuple) (mVar 0)))) (mB (mOp fNe (mUn fLen (mVar 0)) (mC (.int 2))))) (sRet (mC (.bool false))) sNext)
    (sSeq (sIf (mOr (mNot (mTru (mCall d_law_is_integer [.v (mOp fIx (mVar 0) (mC (.int 0)))]))) (mOr (mNot (mTru (mCall d_law_is_integer [.v (mOp fIx (mVar 0) (mC (.int 1)))]))) (mB (mOp fLt (mOp fIx (mVar 0) (mC (.int 1))) (mC (.int 1)))))) (sRet (mC (.bool false))) sNext)
    (sRet (mOp fEq (mCall d_law_divisor [.v (mOp fIx (mVar 0) (mC (.int 0))), .v (mOp fIx (mVar 0) (mC (.int 1)))]) (mC (.int 1))))))
noncomputable def d_law_is_fraction : Den := mkDen 1 b_law_is_fraction

noncomputable def l1_law_is_row : SM :=
    (sFgt [2] (sIf (mNot (mTru (mCall d_law_is_fraction [.v (mVar 2)]))) (sRet (mC (.bool false))) sNext))
noncomputable def b_law_is_row : SM :=
    (sSeq (sIf (mOr (mNot (mTru (mUn (fIsi .tuple) (mVar 0)))) (mB (mOp fNe (mUn fLen (mVar 0)) (mVar 1)))) (sRet (mC (.bool false))) sNext)
    (sSeq (sFor (iSeq (mFrz (mVar 0))) (Py.gName 2) l1_law_is_row)
    (sRet (mC (.bool true)))))
noncomputable def d_law_is_row : Den := mkDen 3 b_law_is_row

noncomputable def l1_law_none_below : SM :=
    (sFgt [1] (sIf (mB (mOp fLt (mOp fIx (mVar 1) (mC (.int 0))) (mC (.int 0)))) (sRet (mC (.bool false))) sNext))
noncomputable def b_law_none_below : SM :=
    (sSeq (sFor (iSeq (mFrz (mVar 0))) (Py.gName 1) l1_law_none_below)
    (sRet (mC (.bool true))))
noncomputable def d_law_none_below : Den := mkDen 2 b_law_none_below

noncomputable def b_law_is_stakes : SM :=
    (sRet (mAndV (mCall d_law_is_row [.v (mVar 1), .v (mVar 0)]) (mCall d_law_none_below [.v (mVar 1)])))
noncomputable def d_law_is_stakes : Den := mkDen 2 b_law_is_stakes

noncomputable def l1_law_is_sure : SM :=
    (sFgt [3] (sIf (mB (mOp fLe (mOp fIx (mVar 3) (mC (.int 0))) (mC (.int 0)))) (sRet (mC (.bool false))) sNext))
noncomputable def b_law_is_sure : SM :=
    (sSeq (sIf (mNot (mTru (mCall d_law_is_stakes [.v (mUn fLen (mVar 1)), .v (mVar 2)]))) (sRet (mC (.bool false))) sNext)
    (sSeq (sFor (iSeq (mCall d_law_gained [.v (mVar 0), .v (mVar 1), .v (mVar 2)])) (Py.gName 3) l1_law_is_sure)
    (sRet (mC (.bool true)))))
noncomputable def d_law_is_sure : Den := mkDen 4 b_law_is_sure

noncomputable def b_law_is_chances : SM :=
    (sSeq (sIf (mOr (mNot (mTru (mCall d_law_is_row [.v (mVar 1), .v (mVar 0)]))) (mNot (mTru (mCall d_law_none_below [.v (mVar 1)])))) (sRet (mC (.bool false))) sNext)
    (sRet (mOp fEq (mCall d_law_dot [.v (mVar 1), .v (mOp fMul (mLst (lCons (mTup (lCons (mC (.int 1)) (lCons (mC (.int 1)) lNil))) lNil)) (mVar 0))]) (mTup (lCons (mC (.int 1)) (lCons (mC (.int 1)) lNil))))))
noncomputable def d_law_is_chances : Den := mkDen 2 b_law_is_chances

noncomputable def l1_law_is_fair : SM :=
    (sFgt [3] (sIf (mB (mOp fGt (mOp fIx (mCall d_law_dot [.v (mVar 2), .v (mVar 3)]) (mC (.int 0))) (mC (.int 0)))) (sRet (mC (.bool false))) sNext))
noncomputable def b_law_is_fair : SM :=
    (sSeq (sIf (mNot (mTru (mCall d_law_is_chances [.v (mVar 0), .v (mVar 2)]))) (sRet (mC (.bool false))) sNext)
    (sSeq (sFor (iSeq (mFrz (mVar 1))) (Py.gName 3) l1_law_is_fair)
    (sRet (mC (.bool true)))))
noncomputable def d_law_is_fair : Den := mkDen 4 b_law_is_fair

noncomputable def b_divided : SM :=
    (sRet (mCall d_fraction [.v (mOp fMul (mOp fIx (mVar 0) (mC (.int 0))) (mOp fIx (mVar 1) (mC (.int 1)))), .v (mOp fMul (mOp fIx (mVar 0) (mC (.int 1))) (mOp fIx (mVar 1) (mC (.int 0))))]))
noncomputable def d_divided : Den := mkDen 2 b_divided

noncomputable def e1_first_rows : M :=
    (mIfE (mB (mOp fEq (mVar 5) (mVar 3))) (mC (.tuple [.int 1, .int 1])) (mC (.tuple [.int 0, .int 1])))
noncomputable def l2_first_rows : SM :=
    (sFgt [3, 4] (sSeq (sAsg (mLc (Py.iRng1 (mUn fLen (mVar 0))) (Py.gName 5) [5] tYes e1_first_rows) (Py.gName 4))
    (sExpr (mAppend 2 (mOp fAdd (mOp fAdd (mUn fList (mOp fIx (mVar 0) (mVar 3))) (mVar 4)) (mLst (lCons (mOp fIx (mVar 1) (mVar 3)) lNil)))))))
noncomputable def b_first_rows : SM :=
    (sSeq (sAsg (mLst lNil) (Py.gName 2))
    (sSeq (sFor (Py.iRng1 (mUn fLen (mVar 0))) (Py.gName 3) l2_first_rows)
    (sRet (mVar 2))))
noncomputable def d_first_rows : Den := mkDen 6 b_first_rows

noncomputable def l1_entering : SM :=
    (sFgt [1] (sIf (mTru (mCall d_is_less [.v (mOp fIx (mVar 0) (mVar 1)), .v (mC (.tuple [.int 0, .int 1]))])) (sRet (mVar 1)) sNext))
noncomputable def b_entering : SM :=
    (sSeq (sFor (Py.iRng1 (mOp fSub (mUn fLen (mVar 0)) (mC (.int 1)))) (Py.gName 1) l1_entering)
    (sRet (mC .none)))
noncomputable def d_entering : Den := mkDen 2 b_entering

noncomputable def l1_leaving : SM :=
    (sFgt [4, 5] (sIf (mTru (mCall d_is_less [.v (mC (.tuple [.int 0, .int 1])), .v (mOp fIx (mOp fIx (mVar 0) (mVar 4)) (mVar 2))])) (sSeq (sAsg (mCall d_divided [.v (mOp fIx (mOp fIx (mVar 0) (mVar 4)) (mUn fNeg (mC (.int 1)))), .v (mOp fIx (mOp fIx (mVar 0) (mVar 4)) (mVar 2))]) (Py.gName 5))
    (sIf (mOr (mB (mOp (fIs false) (mVar 3) (mC .none))) (mOr (mTru (mCall d_is_less [.v (mVar 5), .v (mOp fIx (mVar 3) (mC (.int 0)))])) (mAnd (mB (mOp fEq (mVar 5) (mOp fIx (mVar 3) (mC (.int 0))))) (mB (mOp fLt (mOp fIx (mVar 1) (mVar 4)) (mOp fIx (mVar 3) (mC (.int 1)))))))) (sAsg (mTup (lCons (mVar 5) (lCons (mOp fIx (mVar 1) (mVar 4)) (lCons (mVar 4) lNil)))) (Py.gName 3)) sNext)) sNext))
noncomputable def b_leaving : SM :=
    (sSeq (sAsg (mC .none) (Py.gName 3))
    (sSeq (sFor (Py.iRng1 (mUn fLen (mVar 0))) (Py.gName 4) l1_leaving)
    (sRet (mIfE (mB (mOp (fIs false) (mVar 3) (mC .none))) (mC .none) (mOp fIx (mVar 3) (mC (.int 2)))))))
noncomputable def d_leaving : Den := mkDen 6 b_leaving

noncomputable def e1_without : M :=
    (mIfE (mB (mOp fEq (mVar 5) (mC (.tuple [.int 0, .int 1])))) (mC (.tuple [.int 0, .int 1])) (mCall d_times [.v (mVar 3), .v (mVar 5)]))
noncomputable def e2_without : M :=
    (mIfE (mB (mOp fEq (mOp fIx (mVar 4) (mVar 6)) (mC (.tuple [.int 0, .int 1])))) (mOp fIx (mVar 0) (mVar 6)) (mCall d_minus [.v (mOp fIx (mVar 0) (mVar 6)), .v (mOp fIx (mVar 4) (mVar 6))]))
noncomputable def b_without : SM :=
    (sSeq (sAsg (mOp fIx (mVar 0) (mVar 2)) (Py.gName 3))
    (sSeq (sIf (mB (mOp fEq (mVar 3) (mC (.tuple [.int 0, .int 1])))) (sRet (mVar 0)) sNext)
    (sSeq (sAsg (mLc (iSeq (mFrz (mVar 1))) (Py.gName 5) [5] tYes e1_without) (Py.gName 4))
    (sRet (mLc (Py.iRng1 (mUn fLen (mVar 0))) (Py.gName 6) [6] tYes e2_without)))))
noncomputable def d_without : Den := mkDen 7 b_without

noncomputable def e1_greatest_sum : M :=
    (mCall d_minus [.v (mC (.tuple [.int 0, .int 1])), .v (mVar 11)])
noncomputable def e2_greatest_sum : M :=
    (mOp fAdd (mVar 4) (mVar 9))
noncomputable def e3_greatest_sum : M :=
    (mCall d_divided [.v (mVar 12), .v (mOp fIx (mOp fIx (mVar 3) (mVar 9)) (mVar 7))])
noncomputable def e4_greatest_sum : M :=
    (mIfE (mB (mOp fEq (mVar 13) (mVar 9))) (mVar 10) (mCall d_without [.v (mOp fIx (mVar 3) (mVar 13)), .v (mVar 10), .v (mVar 7)]))
noncomputable def l5_greatest_sum : SM :=
    (sFgt [9, 10] (sSeq (sAsg (mCall d_leaving [.r 3, .r 6, .v (mVar 7)]) (Py.gName 9))
    (sSeq (sSetIx 3 (mVar 9) (mLc (iSeq (mOp fIx (mVar 3) (mVar 9))) (Py.gName 12) [12] tYes e3_greatest_sum))
    (sSeq (sAsg (mOp fIx (mVar 3) (mVar 9)) (Py.gName 10))
    (sSeq (sAsg (mLc (Py.iRng1 (mUn fLen (mVar 1))) (Py.gName 13) [13] tYes e4_greatest_sum) (Py.gName 3))
    (sSeq (sAsg (mCall d_without [.v (mVar 5), .v (mOp fIx (mVar 3) (mVar 9)), .v (mVar 7)]) (Py.gName 5))
    (sSeq (sSetIx 6 (mVar 9) (mVar 7))
    (sAsg (mCall d_entering [.v (mVar 5)]) (Py.gName 7)))))))))
noncomputable def t6_greatest_sum : MT :=
    (mB (mOp (fIs true) (mVar 7) (mC .none)))
noncomputable def l7_greatest_sum : SM :=
    (sFgt [9] (sIf (mB (mOp fLt (mOp fIx (mVar 6) (mVar 9)) (mVar 4))) (sSetIx 8 (mOp fIx (mVar 6) (mVar 9)) (mOp fIx (mOp fIx (mVar 3) (mVar 9)) (mUn fNeg (mC (.int 1))))) sNext))
noncomputable def b_greatest_sum : SM :=
    (sSeq (sAsg (mCall d_first_rows [.v (mVar 1), .v (mVar 2)]) (Py.gName 3))
    (sSeq (sAsg (mUn fLen (mVar 0)) (Py.gName 4))
    (sSeq (sAsg (mOp fAdd (mLc (iSeq (mFrz (mVar 0))) (Py.gName 11) [11] tYes e1_greatest_sum) (mOp fMul (mLst (lCons (mC (.tuple [.int 0, .int 1])) lNil)) (mOp fAdd (mUn fLen (mVar 1)) (mC (.int 1))))) (Py.gName 5))
    (sSeq (sAsg (mLc (Py.iRng1 (mUn fLen (mVar 1))) (Py.gName 9) [9] tYes e2_greatest_sum) (Py.gName 6))
    (sSeq (sAsg (mCall d_entering [.v (mVar 5)]) (Py.gName 7))
    (sSeq (sFgt [7] (sWhile t6_greatest_sum l5_greatest_sum))
    (sSeq (sAsg (mOp fMul (mLst (lCons (mC (.tuple [.int 0, .int 1])) lNil)) (mVar 4)) (Py.gName 8))
    (sSeq (sFor (Py.iRng1 (mUn fLen (mVar 1))) (Py.gName 9) l7_greatest_sum)
    (sRet (mTup (lCons (mOp fIx (mVar 5) (mUn fNeg (mC (.int 1)))) (lCons (mVar 8) (lCons (mSl (mVar 5) (oSome (mVar 4)) (oSome (mOp fAdd (mVar 4) (mUn fLen (mVar 1))))) lNil)))))))))))))
noncomputable def d_greatest_sum : Den := mkDen 14 b_greatest_sum

noncomputable def e1_less_gains : M :=
    (mCall d_minus [.v (mC (.tuple [.int 0, .int 1])), .v (mOp fIx (mVar 2) (mVar 1))])
noncomputable def b_less_gains : SM :=
    (sRet (mLc (iSeq (mOp fIx (mVar 0) (mC (.int 1)))) (Py.gName 2) [2] tYes e1_less_gains))
noncomputable def d_less_gains : Den := mkDen 3 b_less_gains

noncomputable def e1_surest : M :=
    (mOp fAdd (mLst (lCons (mC (.tuple [.int 1, .int 1])) lNil)) (mCall d_less_gains [.v (mVar 0), .v (mVar 7)]))
noncomputable def b_surest : SM :=
    (sSeq (sAsg (mVar 0) (Py.gTup [1, 2]))
    (sSeq (sAsg (mOp fAdd (mLc (Py.iRng1 (mVar 1)) (Py.gName 7) [7] tYes e1_surest) (mLst (lCons (mOp fAdd (mLst (lCons (mC (.tuple [.int 0, .int 1])) lNil)) (mOp fMul (mLst (lCons (mC (.tuple [.int 1, .int 1])) lNil)) (mUn fLen (mVar 2)))) lNil))) (Py.gName 3))
    (sSeq (sAsg (mCall d_greatest_sum [.v (mOp fAdd (mLst (lCons (mC (.tuple [.int 1, .int 1])) lNil)) (mOp fMul (mLst (lCons (mC (.tuple [.int 0, .int 1])) lNil)) (mUn fLen (mVar 2)))), .v (mVar 3), .v (mOp fAdd (mOp fMul (mLst (lCons (mC (.tuple [.int 0, .int 1])) lNil)) (mVar 1)) (mLst (lCons (mC (.tuple [.int 1, .int 1])) lNil)))]) (Py.gTup [4, 5, 6]))
    (sRet (mTup (lCons (mVar 4) (lCons (mUn fTuple (mSl (mVar 5) (oSome (mC (.int 1))) oNone)) (lCons (mSl (mVar 6) oNone (oSome (mVar 1))) lNil))))))))
noncomputable def d_surest : Den := mkDen 8 b_surest

noncomputable def e1_as_chances : M :=
    (mCall d_divided [.v (mVar 2), .v (mVar 1)])
noncomputable def b_as_chances : SM :=
    (sSeq (sAsg (mCall d_total [.v (mVar 0)]) (Py.gName 1))
    (sRet (mUn fTuple (mLc (iSeq (mFrz (mVar 0))) (Py.gName 2) [2] tYes e1_as_chances))))
noncomputable def d_as_chances : Den := mkDen 3 b_as_chances

noncomputable def b_has_sure_bet : SM :=
    (sRet (mCall d_is_less [.v (mC (.tuple [.int 0, .int 1])), .v (mOp fIx (mCall d_surest [.v (mVar 0)]) (mC (.int 0)))]))
noncomputable def d_has_sure_bet : Den := mkDen 1 b_has_sure_bet

noncomputable def b_sure_bet : SM :=
    (sSeq (sAsg (mCall d_surest [.v (mVar 0)]) (Py.gTup [1, 2, 3]))
    (sRet (mIfE (mTru (mCall d_is_less [.v (mC (.tuple [.int 0, .int 1])), .v (mVar 1)])) (mVar 2) (mC .none))))
noncomputable def d_sure_bet : Den := mkDen 4 b_sure_bet

noncomputable def b_fair_chances : SM :=
    (sSeq (sAsg (mCall d_surest [.v (mVar 0)]) (Py.gTup [1, 2, 3]))
    (sRet (mIfE (mTru (mCall d_is_less [.v (mC (.tuple [.int 0, .int 1])), .v (mVar 1)])) (mC .none) (mCall d_as_chances [.v (mVar 3)]))))
noncomputable def d_fair_chances : Den := mkDen 4 b_fair_chances

noncomputable def b_law_side : SM :=
    (sSeq (sAsg (mVar 0) (Py.gTup [1, 2]))
    (sSeq (sAsg (mCall d_has_sure_bet [.v (mVar 0)]) (Py.gName 3))
    (sSeq (sAsg (mCall d_sure_bet [.v (mVar 0)]) (Py.gName 4))
    (sSeq (sAsg (mCall d_fair_chances [.v (mVar 0)]) (Py.gName 5))
    (sSeq (sIf (mNot (mTru (mUn (fIsi .bool) (mVar 3)))) (sRet (mC .none)) sNext)
    (sSeq (sIf (mTru (mVar 3)) (sSeq (sIf (mOr (mB (mOp (fIs true) (mVar 5) (mC .none))) (mNot (mTru (mCall d_law_is_sure [.v (mVar 1), .v (mVar 2), .v (mVar 4)])))) (sRet (mC .none)) sNext)
    (sRet (mC (.bool true)))) sNext)
    (sSeq (sIf (mOr (mB (mOp (fIs true) (mVar 4) (mC .none))) (mNot (mTru (mCall d_law_is_fair [.v (mVar 1), .v (mVar 2), .v (mVar 5)])))) (sRet (mC .none)) sNext)
    (sRet (mC (.bool false))))))))))
noncomputable def d_law_side : Den := mkDen 6 b_law_side

noncomputable def b_law_k08 : SM :=
    (sSeq (sAsg (mCall d_law_draws [.v (mVar 0), .v (mC (.int 520))]) (Py.gName 1))
    (sSeq (sAsg (mOp fAdd (mC (.int 1)) (mCall d_law_take [.r 1, .v (mC (.int 5))])) (Py.gName 2))
    (sSeq (sAsg (mCall d_law_take [.r 1, .v (mC (.int 7))]) (Py.gName 3))
    (sSeq (sIf (mB (mOp fEq (mCall d_law_take [.r 1, .v (mC (.int 32))]) (mC (.int 5)))) (sSeq (sAsg (mC (.int 8)) (Py.gName 2))
    (sAsg (mC (.int 7)) (Py.gName 3))) sNext)
    (sSeq (sAsg (mTup (lCons (mVar 2) (lCons (mCall d_law_drawn_table [.v (mVar 0), .r 1, .v (mVar 2), .v (mVar 3)]) lNil))) (Py.gName 4))
    (sSeq (sAsg (mCall d_law_side [.v (mVar 4)]) (Py.gName 5))
    (sSeq (sIf (mB (mOp (fIs false) (mVar 5) (mC .none))) (sRet (mC (.bool false))) sNext)
    (sSeq (sAsg (mOp fAdd (mC (.int 1)) (mCall d_law_take [.r 1, .v (mC (.int 3))])) (Py.gName 6))
    (sSeq (sAsg (mOp fAdd (mC (.int 1)) (mCall d_law_take [.r 1, .v (mC (.int 1000))])) (Py.gName 7))
    (sSeq (sIf (mB (mOp fEq (mCall d_law_take [.r 1, .v (mC (.int 3))]) (mC (.int 1)))) (sAsg (mOp fAdd (mVar 7) (mOp fDiv (mCall d_law_huge [.v (mVar 0), .r 1]) (mOp fPow (mC (.int 10)) (mC (.int 18))))) (Py.gName 7)) sNext)
    (sSeq (sIf (mOr (mB (mOp (fIsB true) (mCall d_law_side [.v (mTup (lCons (mVar 6) (lCons (mTup lNil) lNil)))]) (mC (.bool false)))) (mB (mOp (fIsB true) (mCall d_law_side [.v (mTup (lCons (mVar 6) (lCons (mTup (lCons (mOp fMul (mTup (lCons (mTup (lCons (mC (.int 0)) (lCons (mC (.int 1)) lNil))) lNil)) (mVar 6)) lNil)) lNil)))]) (mC (.bool false))))) (sRet (mC (.bool false))) sNext)
    (sSeq (sIf (mB (mOp (fIsB true) (mCall d_law_side [.v (mTup (lCons (mVar 6) (lCons (mTup (lCons (mOp fMul (mTup (lCons (mTup (lCons (mC (.int 1)) (lCons (mVar 7) lNil))) lNil)) (mVar 6)) lNil)) lNil)))]) (mC (.bool true)))) (sRet (mC (.bool false))) sNext)
    (sSeq (sAsg (mOp fSub (mCall d_law_take [.r 1, .v (mC (.int 3))]) (mC (.int 1))) (Py.gName 8))
    (sSeq (sAsg (mOp fAdd (mOp fMul (mTup (lCons (mTup (lCons (mVar 7) (lCons (mC (.int 1)) lNil))) lNil)) (mOp fSub (mVar 6) (mC (.int 1)))) (mTup (lCons (mTup (lCons (mUn fNeg (mC (.int 1))) (lCons (mVar 7) lNil))) lNil))) (Py.gName 9))
    (sSeq (sAsg (mOp fAdd (mOp fMul (mTup (lCons (mTup (lCons (mOp fSub (mOp fMul (mUn fNeg (mVar 7)) (mVar 7)) (mVar 8)) (lCons (mC (.int 1)) lNil))) lNil)) (mOp fSub (mVar 6) (mC (.int 1)))) (mTup (lCons (mTup (lCons (mC (.int 1)) (lCons (mC (.int 1)) lNil))) lNil))) (Py.gName 10))
    (sSeq (sAsg (mOp fIx (mLst (lCons (mTup (lCons (mVar 9) (lCons (mVar 10) lNil))) (lCons (mTup (lCons (mVar 10) (lCons (mVar 9) lNil))) lNil))) (mCall d_law_take [.r 1, .v (mC (.int 2))])) (Py.gName 11))
    (sSeq (sIf (mB (mOp (fIsB true) (mCall d_law_side [.v (mTup (lCons (mVar 6) (lCons (mTup (lCons (mVar 9) lNil)) lNil)))]) (mC (.bool false)))) (sRet (mC (.bool false))) sNext)
    (sSeq (sIf (mOr (mB (mOp fEq (mVar 6) (mC (.int 1)))) (mB (mOp fEq (mVar 8) (mUn fNeg (mC (.int 1)))))) (sIf (mB (mOp (fIsB true) (mCall d_law_side [.v (mTup (lCons (mVar 6) (lCons (mVar 11) lNil)))]) (mC (.bool true)))) (sRet (mC (.bool false))) sNext) (sIf (mB (mOp (fIsB true) (mCall d_law_side [.v (mTup (lCons (mVar 6) (lCons (mVar 11) lNil)))]) (mC (.bool false)))) (sRet (mC (.bool false))) sNext))
    (sRet (mOp fEq (mCall d_law_side [.v (mVar 4)]) (mVar 5)))))))))))))))))))))
noncomputable def d_law_k08 : Den := mkDen 12 b_law_k08

noncomputable def b_law_size : SM :=
    (sSeq (sAsg (mCall d_law_take [.r 0, .v (mC (.int 6))]) (Py.gName 2))
    (sSeq (sAsg (mCall d_law_take [.r 0, .v (mC (.int 10))]) (Py.gName 3))
    (sSeq (sIf (mB (mOp fEq (mVar 3) (mC (.int 0)))) (sAsg (mOp fAdd (mVar 2) (mOp fMul (mOp fAdd (mC (.int 1)) (mCall d_law_take [.r 0, .v (mC (.int 1000))])) (mOp fIx (mLst (lCons (mOp fPow (mC (.int 10)) (mC (.int 3))) (lCons (mOp fPow (mC (.int 10)) (mC (.int 9))) (lCons (mOp fPow (mC (.int 10)) (mC (.int 18))) (lCons (mOp fPow (mC (.int 10)) (mC (.int 40))) lNil))))) (mCall d_law_take [.r 0, .v (mC (.int 4))])))) (Py.gName 2)) sNext)
    (sSeq (sIf (mB (mOp fEq (mVar 3) (mC (.int 1)))) (sAsg (mOp fAdd (mVar 2) (mUn fAbs (mCall d_law_cell [.v (mVar 1), .v (mCall d_law_take [.r 0, .v (mC (.int 63))])]))) (Py.gName 2)) sNext)
    (sRet (mVar 2))))))
noncomputable def d_law_size : Den := mkDen 4 b_law_size

noncomputable def l1_law_common : SM :=
    (sFgt [] (sPar 0 1 (mVar 1) (mOp fMod (mUn fInt (mVar 0)) (mVar 1))))
noncomputable def t2_law_common : MT :=
    (mB (mOp fGt (mVar 1) (mC (.int 0))))
noncomputable def b_law_common : SM :=
    (sSeq (sPar 0 1 (mUn fAbs (mVar 0)) (mUn fAbs (mVar 1)))
    (sSeq (sFgt [1] (sWhile t2_law_common l1_law_common))
    (sRet (mVar 0))))
noncomputable def d_law_common : Den := mkDen 2 b_law_common

noncomputable def b_law_fraction : SM :=
    (sSeq (sAsg (mCall d_law_common [.v (mVar 0), .v (mVar 1)]) (Py.gName 2))
    (sSeq (sIf (mB (mOp fLt (mVar 1) (mC (.int 0)))) (sAsg (mUn fNeg (mVar 2)) (Py.gName 2)) sNext)
    (sRet (mTup (lCons (mOp fDiv (mVar 0) (mVar 2)) (lCons (mOp fDiv (mVar 1) (mVar 2)) lNil))))))
noncomputable def d_law_fraction : Den := mkDen 3 b_law_fraction

end D
namespace Py
open PySem D
local macro_rules
  | `(tactic| walk_at "w") => `(tactic| with_reducible first
    | refine seq_nx ?_ | refine seq_rt ?_ | refine seq_bk ?_ | refine seq_ct ?_ | refine wp_seq ?_ | refine wp_asg ?_ | refine wp_next ?_ | refine wp_ret ?_ | refine wp_retN ?_ | refine wp_brk ?_ | refine wp_cont ?_ | refine wp_expr ?_ | refine wp_op ?_ | refine wp_un ?_ | refine wp_c ?_
    | refine unB ?_ | refine wp_truB ?_ | refine wp_and ?_ | refine wp_or ?_ | refine wp_not ?_ | refine wp_ifE ?_ | refine wp_tup ?_ | refine wp_lst ?_ | refine wp_lcons ?_ | refine wp_lnil ?_ | refine frzV ?_ | refine frzN ?_ | refine wp_frz ?_ | refine wp_sl ?_ | refine wp_onone ?_ | refine wp_osome ?_
    | refine wp_anil ?_ | refine wp_av ?_ | refine wp_andV ?_ | refine wp_orV ?_ | refine wp_notV ?_ | refine wp_fgtR ?_ | refine turn_nx ?_ | refine turn_rt ?_ | refine turn_bk ?_ | refine turn_ct ?_ | refine fgt_rt ?_ | refine wp_par ?_ | refine wp_chain ?_ | refine wp_seqI ?_)
local macro_rules
  | `(tactic| walk_at "put") => `(tactic| focus ((repeat apply PutR.s); exact PutR.z rfl))
local macro_rules
  | `(tactic| walk_at "set") => `(tactic| focus ((repeat apply SetR.s); first | exact SetR.o | exact SetR.r))
local macro_rules
  | `(tactic| walk_at "fgt") => `(tactic| focus (repeat first | exact FgtsR.nil | exact FgtR.k | exact FgtR.z rfl | apply FgtR.s | apply FgtsR.cons))
local macro_rules
  | `(tactic| walk_at "x") => `(tactic| first
    | ((with_reducible apply wp_varV); (focus exact rfl)) | ((with_reducible apply wp_varO); (focus exact rfl)) | ((with_reducible apply wp_varR); (focus exact rfl))
    | ((with_reducible apply opq); (focus exact rfl); (focus exact rfl); (focus (first | exact ev_eqI | exact ev_neI | exact ev_ltI | exact ev_leI | exact ev_gtI | exact ev_geI | exact rfl)))
    | ((with_reducible apply unq); (focus exact rfl); (focus exact rfl))
    | ((with_reducible first | apply putqV | apply putqN); walk_at "put")
    | ((with_reducible apply putq2); walk_at "put"; walk_at "put")
    | ((with_reducible apply parq); walk_at "put"; walk_at "put")
    | ((with_reducible apply wp_callR); (focus (repeat first | exact RefsR.nil | apply RefsR.v | apply RefsR.r)); (focus decide))
    | ((with_reducible apply wp_ar); (focus exact rfl))
    | ((with_reducible apply fin_rt); (focus exact rfl); (focus exact rfl))
    | ((with_reducible apply fin_nx); (focus exact rfl))
    | ((with_reducible apply wp_appendR); (focus exact rfl))
    | (with_reducible refine ⟨_, rfl, ?_⟩) | (with_reducible refine ⟨_, .inl rfl, ?_⟩) | (with_reducible refine ⟨_, .inr (.inl rfl), ?_⟩) | (with_reducible refine ⟨_, .inr (.inr rfl), ?_⟩)
    | (with_reducible apply callq0) | ((with_reducible apply frzB); (focus exact rfl); (focus exact rfl); walk_at "put")
    | ((with_reducible apply callq1); walk_at "set")
    | ((with_reducible apply callq2); walk_at "set"; walk_at "set")
    | ((with_reducible first | apply fgt_nx | apply fgt_bk | apply fgt_ct); walk_at "fgt")
    | ((with_reducible apply brT); (focus exact rfl)) | ((with_reducible apply brF); (focus exact rfl)))
local macro_rules
  | `(tactic| walk_at "r") => `(tactic| repeat first | walk_at "w" | walk_at "x")
local macro_rules
  | `(tactic| walk_at "ri") => `(tactic| repeat first | walk_at "w" | walk_at "x" | (with_reducible refine wp_if ?_))
local macro_rules
  | `(tactic| walk_at "app") => `(tactic| ((with_reducible apply appq); (focus exact rfl); (focus ((try simp only [List.length_map, List.length_nil, List.length_cons, List.length_append]); unfold line; omega)); walk_at "set"))
local macro_rules
  | `(tactic| walk_at "mul") => `(tactic| ((refine opq rfl rfl (ev_mul ?_) ?_); (focus (apply mulT <;> omega))))
local macro_rules
  | `(tactic| walk_at "rm") => `(tactic| repeat first | walk_at "w" | walk_at "x" | walk_at "mul")
local macro_rules
  | `(tactic| walk_at "len") => `(tactic| (refine And.intro ?_ ?_; (focus (simp [line]; done))))
def intsO (ns : List Int) : Ob := .lst (ns.map PyData.int)
theorem of_take {ds : List Int} {m : Int} (hm : 0 < m) {Q : R → List Ob → Prop} (k : ∀ x ds', 0 ≤ x → x < m → Q (.val (.int x)) [intsO ds']) : Ret d_law_take [.ref (intsO ds), .val (.int m)] Q := by
  refine ret_mkR (by repeat constructor) ?_
  unfold b_law_take
  walk_at "ri"
  refine branchD (fun h => ?_) fun h => ?_
  · walk_at "ri"
    exact k 0 ds (by omega) hm
  walk_at "ri"
  rcases List.eq_nil_or_concat ds with rfl | ⟨L, b, rfl⟩
  · exact absurd rfl h
  refine wp_popR (v := .int b) (xs := (L.concat b).map PyData.int) rfl (by simp) (SetR.r) ?_
  walk_at "ri"
  refine opq rfl rfl (ev_mod (by omega)) ?_
  walk_at "ri"
  have e : (List.map PyData.int (L.concat b)).dropLast = L.map PyData.int := by simp
  rw [e]
  exact k _ L (Int.fmod_nonneg_of_pos _ hm) (Int.fmod_lt_of_pos _ hm)
theorem of_cell {ns : List Int} {i : Int} {N : Nat} {Q : R → List Ob → Prop} (k : ∀ x, (x = 0 ∨ x ∈ ns) → Q (.val (.int x)) []) : Ret d_law_cell [.val (.list (ns.map PyData.int)), .val (.int i)] Q := by
  refine ret_mkR (by repeat constructor) ?_
  unfold b_law_cell
  walk_at "ri"
  refine branchD (fun h => ?_) fun h => ?_
  · walk_at "ri"
    exact k 0 (.inl rfl)
  walk_at "ri"
  have h' : ((ns.map PyData.int).length : Int) ≠ 0 := h
  refine opq rfl rfl (ev_mod h') ?_
  have h1 := Int.fmod_nonneg_of_pos i (b := (ns.map PyData.int).length) (by omega)
  have h2 := Int.fmod_lt_of_pos i (b := (ns.map PyData.int).length) (by omega)
  obtain ⟨j, hj⟩ := Int.eq_ofNat_of_zero_le h1
  rw [hj] at h2 ⊢
  rw [List.length_map] at h2
  have hj2 : j < ns.length := by omega
  refine opq rfl rfl (ev_ix (.inr (.inl rfl)) (atI_nat (v := .int ns[j]) (by simp [hj2]))) ?_
  walk_at "ri"
  exact k _ (.inr (List.getElem_mem _))

theorem of_divisor {a b : Int} {Q : R → List Ob → Prop} (k : Q (.val (.int (Int.gcd a b))) []) : Ret d_divisor [.val (.int a), .val (.int b)] Q := by
  refine ret_mkR (by repeat constructor) ?_
  unfold b_divisor
  walk_at "ri"
  exact k
theorem of_ldivisor {a b : Int} {Q : R → List Ob → Prop} (k : Q (.val (.int (Int.gcd a b))) []) : Ret d_law_divisor [.val (.int a), .val (.int b)] Q := by
  refine ret_mkR (by repeat constructor) ?_
  unfold b_law_divisor
  walk_at "ri"
  refine wp_while (fun (p : Nat × Nat) ρ => ρ = [some (.val (.int p.1)), some (.val (.int p.2))] ∧ Nat.gcd p.1 p.2 = Int.gcd a b) (fun p => p.2) (a.natAbs, b.natAbs) ⟨rfl, rfl⟩ ?_
  rintro ⟨x, y⟩ ρ ⟨rfl, hg⟩
  dsimp only at hg ⊢
  unfold t2_law_divisor l1_law_divisor
  walk_at "ri"
  refine branchN (fun h => ?_) fun h => ?_
  · have h := of_decide_eq_false h
    have hy : 0 < y := by omega
    walk_at "ri"
    refine opq rfl rfl (ev_mod h) ?_
    walk_at "ri"
    have e : (x : Int).fmod y = ((x % y : Nat) : Int) := by rw [Int.fmod_eq_emod_of_nonneg _ (by omega)]; simp
    refine ⟨(y, x % y), Nat.mod_lt _ hy, ?_, ?_⟩
    · rw [e]
    · rw [← hg, Nat.gcd_comm x y, Nat.gcd_rec y x, Nat.gcd_comm]
  · have h := of_decide_eq_true h
    have hy : y = 0 := by omega
    subst hy
    walk_at "ri"
    rw [Nat.gcd_zero_right] at hg
    rw [hg]
    exact k

/-- a pair as a value -/
def fr (p : Int × Int) : PV := .tuple [.int p.1, .int p.2]
/-- in lowest terms -/
def rat (n d : Int) : Int × Int := let c : Int := if d < 0 then -(Int.gcd n d : Int) else Int.gcd n d; (n.fdiv c, d.fdiv c)
theorem gcd_ne {n d : Int} (h : d ≠ 0) : (Int.gcd n d : Int) ≠ 0 := by
  intro e
  have : Int.gcd n d = 0 := by omega
  exact h (Int.gcd_eq_zero_iff.mp this).2
theorem of_ratio {n d : Int} (hd : d ≠ 0) {Q : R → List Ob → Prop} (k : Q (.val (fr (rat n d))) []) : Ret d_law_ratio [.val (.int n), .val (.int d)] Q := by
  have hg := gcd_ne (n := n) hd
  refine ret_mkR (by repeat constructor) ?_
  unfold b_law_ratio
  walk_at "ri"
  refine of_ldivisor ?_
  walk_at "ri"
  refine branchD (fun h => ?_) fun h => ?_
  · walk_at "ri"
    refine opq rfl rfl (ev_div (by omega)) ?_
    walk_at "ri"
    refine opq rfl rfl (ev_div (by omega)) ?_
    walk_at "ri"
    refine ⟨by simp [line], ?_⟩
    walk_at "ri"
    unfold rat at k
    rw [if_pos h] at k
    exact k
  · walk_at "ri"
    refine opq rfl rfl (ev_div (by omega)) ?_
    walk_at "ri"
    refine opq rfl rfl (ev_div (by omega)) ?_
    walk_at "ri"
    refine ⟨by simp [line], ?_⟩
    walk_at "ri"
    unfold rat at k
    rw [if_neg h] at k
    exact k
theorem of_fraction {n d : Int} (hd : d ≠ 0) {Q : R → List Ob → Prop} (k : Q (.val (fr (rat n d))) []) : Ret d_fraction [.val (.int n), .val (.int d)] Q := by
  have hg := gcd_ne (n := n) hd
  refine ret_mkR (by repeat constructor) ?_
  unfold b_fraction
  walk_at "ri"
  refine of_divisor ?_
  walk_at "ri"
  refine branchD (fun h => ?_) fun h => ?_
  · walk_at "ri"
    refine opq rfl rfl (ev_div (by omega)) ?_
    walk_at "ri"
    refine opq rfl rfl (ev_div (by omega)) ?_
    walk_at "ri"
    refine ⟨by simp [line], ?_⟩
    walk_at "ri"
    unfold rat at k
    rw [if_pos h] at k
    exact k
  · walk_at "ri"
    refine opq rfl rfl (ev_div (by omega)) ?_
    walk_at "ri"
    refine opq rfl rfl (ev_div (by omega)) ?_
    walk_at "ri"
    refine ⟨by simp [line], ?_⟩
    walk_at "ri"
    unfold rat at k
    rw [if_neg h] at k
    exact k
/-- within the line of a product -/
def Bd (n : Nat) (p : Int × Int) : Prop := p.1.natAbs < 2 ^ n ∧ p.2.natAbs < 2 ^ n
def okM (p q : Int × Int) : Prop := mulOk p.1 q.2 = true ∧ mulOk q.1 p.2 = true ∧ mulOk p.2 q.2 = true ∧ mulOk p.1 q.1 = true
theorem fr0 {p : Int × Int} : fIx (.pv (fr p)) (.pv (.int 0)) = some (.val (.int p.1)) := rfl
theorem fr1 {p : Int × Int} : fIx (.pv (fr p)) (.pv (.int 1)) = some (.val (.int p.2)) := rfl
def plusV (p q : Int × Int) : Int × Int := rat (p.1 * q.2 + q.1 * p.2) (p.2 * q.2)
def minusV (p q : Int × Int) : Int × Int := rat (p.1 * q.2 - q.1 * p.2) (p.2 * q.2)
def timesV (p q : Int × Int) : Int × Int := rat (p.1 * q.1) (p.2 * q.2)
def lessV (p q : Int × Int) : Bool := decide (p.1 * q.2 < q.1 * p.2)
local macro_rules
  | `(tactic| walk_at "m") => `(tactic| ((refine opq rfl rfl (ev_mul ?_) ?_); focus assumption))
local macro_rules
  | `(tactic| walk_at "q") => `(tactic| repeat first | walk_at "w" | walk_at "x" | walk_at "m")
section
variable {p q : Int × Int} {Q : R → List Ob → Prop}
theorem of_plus (hp : p.2 ≠ 0) (hq : q.2 ≠ 0) (h : okM p q) (k : Q (.val (fr (plusV p q))) []) : Ret d_plus [.val (fr p), .val (fr q)] Q := by
  obtain ⟨h1, h2, h3, h4⟩ := h
  refine ret_mkR (by repeat constructor) ?_
  unfold b_plus
  walk_at "q"
  refine of_fraction (Int.mul_ne_zero hp hq) ?_
  walk_at "ri"
  exact k
theorem of_minus (hp : p.2 ≠ 0) (hq : q.2 ≠ 0) (h : okM p q) (k : Q (.val (fr (minusV p q))) []) : Ret d_minus [.val (fr p), .val (fr q)] Q := by
  obtain ⟨h1, h2, h3, h4⟩ := h
  refine ret_mkR (by repeat constructor) ?_
  unfold b_minus
  walk_at "q"
  refine of_fraction (Int.mul_ne_zero hp hq) ?_
  walk_at "ri"
  exact k
theorem of_times (hp : p.2 ≠ 0) (hq : q.2 ≠ 0) (h : okM p q) (k : Q (.val (fr (timesV p q))) []) : Ret d_times [.val (fr p), .val (fr q)] Q := by
  obtain ⟨h1, h2, h3, h4⟩ := h
  refine ret_mkR (by repeat constructor) ?_
  unfold b_times
  walk_at "q"
  refine of_fraction (Int.mul_ne_zero hp hq) ?_
  walk_at "ri"
  exact k
theorem of_less (h : okM p q) (k : Q (.val (.bool (lessV p q))) []) : Ret d_is_less [.val (fr p), .val (fr q)] Q := by
  obtain ⟨h1, h2, h3, h4⟩ := h
  refine ret_mkR (by repeat constructor) ?_
  unfold b_is_less
  walk_at "q"
  exact k
theorem of_lplus (hp : p.2 ≠ 0) (hq : q.2 ≠ 0) (h : okM p q) (k : Q (.val (fr (plusV p q))) []) : Ret d_law_plus [.val (fr p), .val (fr q)] Q := by
  obtain ⟨h1, h2, h3, h4⟩ := h
  refine ret_mkR (by repeat constructor) ?_
  unfold b_law_plus
  walk_at "q"
  refine of_ratio (Int.mul_ne_zero hp hq) ?_
  walk_at "ri"
  exact k
theorem of_lminus (hp : p.2 ≠ 0) (hq : q.2 ≠ 0) (h : okM p q) (k : Q (.val (fr (minusV p q))) []) : Ret d_law_minus [.val (fr p), .val (fr q)] Q := by
  obtain ⟨h1, h2, h3, h4⟩ := h
  refine ret_mkR (by repeat constructor) ?_
  unfold b_law_minus
  walk_at "q"
  refine of_ratio (Int.mul_ne_zero hp hq) ?_
  walk_at "ri"
  exact k
theorem of_ltimes (hp : p.2 ≠ 0) (hq : q.2 ≠ 0) (h : okM p q) (k : Q (.val (fr (timesV p q))) []) : Ret d_law_times [.val (fr p), .val (fr q)] Q := by
  obtain ⟨h1, h2, h3, h4⟩ := h
  refine ret_mkR (by repeat constructor) ?_
  unfold b_law_times
  walk_at "q"
  refine of_ratio (Int.mul_ne_zero hp hq) ?_
  walk_at "ri"
  exact k
theorem of_lless (h : okM p q) (k : Q (.val (.bool (lessV p q))) []) : Ret d_law_less [.val (fr p), .val (fr q)] Q := by
  obtain ⟨h1, h2, h3, h4⟩ := h
  refine ret_mkR (by repeat constructor) ?_
  unfold b_law_less
  walk_at "q"
  exact k
end
/-! alike -/
inductive Plain : Nat → PV → Prop
  | none {n : Nat} : Plain (n + 1) .none
  | bool {n : Nat} {b : Bool} : Plain (n + 1) (.bool b)
  | int {n : Nat} {i : Int} : Plain (n + 1) (.int i)
  | str {n : Nat} {s : Str} : Plain (n + 1) (.str s)
  | tuple {n : Nat} {xs : List PV} (hl : xs.length ≤ line) (h : ∀ x, x ∈ xs → Plain n x) : Plain (n + 1) (.tuple xs)
theorem of_same {n : Nat} {v : PV} (hp : Plain n v) : ∀ {Q : R → List Ob → Prop} (k : Q (.val (.bool true)) []), Ret (d_law_same n) [.val v, .val v] Q := by
  induction hp with
  | none =>
    intro Q k
    unfold d_law_same
    refine ret_mkR (by repeat constructor) ?_
    unfold b_law_same
    walk_at "ri"
    exact k
  | @bool n b =>
    intro Q k
    unfold d_law_same
    refine ret_mkR (by repeat constructor) ?_
    unfold b_law_same
    walk_at "ri"
    have e : (false ^^ (b == b)) = true := by simp
    rw [e]
    exact k
  | @int n i =>
    intro Q k
    unfold d_law_same
    refine ret_mkR (by repeat constructor) ?_
    unfold b_law_same
    walk_at "ri"
    have e : decide (i = i) = true := by simp
    rw [e]
    exact k
  | @str n s =>
    intro Q k
    unfold d_law_same
    refine ret_mkR (by repeat constructor) ?_
    unfold b_law_same
    walk_at "ri"
    have e : (false ^^ decide (s = s)) = true := by simp
    rw [e]
    exact k
  | @tuple n xs hl h ih =>
    intro Q k
    unfold d_law_same
    refine ret_mkR (by repeat constructor) ?_
    unfold b_law_same
    walk_at "ri"
    refine brF (by simp) ?_
    walk_at "ri"
    refine wp_forN (fun k ρ => ρ = [some (.val (.tuple xs)), some (.val (.tuple xs)), none]) xs.length ?_ ?_ ?_
    · walk_at "ri"
      exact ⟨rfl, hl, rfl⟩
    · rintro j ρ hj rfl
      unfold l1_law_same
      walk_at "ri"
      refine opq rfl rfl (ev_ix (.inl rfl) (atI_nat (List.getElem?_eq_getElem hj))) ?_
      walk_at "ri"
      refine opq rfl rfl (ev_ix (.inl rfl) (atI_nat (List.getElem?_eq_getElem hj))) ?_
      walk_at "ri"
      refine ih _ (List.getElem_mem hj) ?_
      walk_at "ri"
      rfl
    · rintro ρ rfl
      walk_at "ri"
      exact k
theorem plain_fr {p : Int × Int} {n : Nat} : Plain (n + 2) (fr p) := .tuple (by simp [line]) fun x hx => by
  simp at hx
  rcases hx with rfl | rfl <;> exact .int
end Py
namespace Py
open PySem D
local macro_rules
  | `(tactic| walk_at "w") => `(tactic| with_reducible first
    | refine seq_nx ?_ | refine seq_rt ?_ | refine seq_bk ?_ | refine seq_ct ?_ | refine wp_seq ?_ | refine wp_asg ?_ | refine wp_next ?_ | refine wp_ret ?_ | refine wp_retN ?_ | refine wp_brk ?_ | refine wp_cont ?_ | refine wp_expr ?_ | refine wp_op ?_ | refine wp_un ?_ | refine wp_c ?_
    | refine unB ?_ | refine wp_truB ?_ | refine wp_and ?_ | refine wp_or ?_ | refine wp_not ?_ | refine wp_ifE ?_ | refine wp_tup ?_ | refine wp_lst ?_ | refine wp_lcons ?_ | refine wp_lnil ?_ | refine frzV ?_ | refine frzN ?_ | refine wp_frz ?_ | refine wp_sl ?_ | refine wp_onone ?_ | refine wp_osome ?_
    | refine wp_anil ?_ | refine wp_av ?_ | refine wp_andV ?_ | refine wp_orV ?_ | refine wp_notV ?_ | refine wp_fgtR ?_ | refine turn_nx ?_ | refine turn_rt ?_ | refine turn_bk ?_ | refine turn_ct ?_ | refine fgt_rt ?_ | refine wp_par ?_ | refine wp_chain ?_ | refine wp_seqI ?_)
local macro_rules
  | `(tactic| walk_at "put") => `(tactic| focus ((repeat apply PutR.s); exact PutR.z rfl))
local macro_rules
  | `(tactic| walk_at "set") => `(tactic| focus ((repeat apply SetR.s); first | exact SetR.o | exact SetR.r))
local macro_rules
  | `(tactic| walk_at "fgt") => `(tactic| focus (repeat first | exact FgtsR.nil | exact FgtR.k | exact FgtR.z rfl | apply FgtR.s | apply FgtsR.cons))
local macro_rules
  | `(tactic| walk_at "x") => `(tactic| first
    | ((with_reducible apply wp_varV); (focus exact rfl)) | ((with_reducible apply wp_varO); (focus exact rfl)) | ((with_reducible apply wp_varR); (focus exact rfl))
    | ((with_reducible apply opq); (focus exact rfl); (focus exact rfl); (focus (first | exact ev_eqI | exact ev_neI | exact ev_ltI | exact ev_leI | exact ev_gtI | exact ev_geI | exact rfl)))
    | ((with_reducible apply unq); (focus exact rfl); (focus exact rfl))
    | ((with_reducible first | apply putqV | apply putqN); walk_at "put")
    | ((with_reducible apply putq2); walk_at "put"; walk_at "put")
    | ((with_reducible apply parq); walk_at "put"; walk_at "put")
    | ((with_reducible apply wp_callR); (focus (repeat first | exact RefsR.nil | apply RefsR.v | apply RefsR.r)); (focus decide))
    | ((with_reducible apply wp_ar); (focus exact rfl))
    | ((with_reducible apply fin_rt); (focus exact rfl); (focus exact rfl))
    | ((with_reducible apply fin_nx); (focus exact rfl))
    | ((with_reducible apply wp_appendR); (focus exact rfl))
    | (with_reducible refine ⟨_, rfl, ?_⟩) | (with_reducible refine ⟨_, .inl rfl, ?_⟩) | (with_reducible refine ⟨_, .inr (.inl rfl), ?_⟩) | (with_reducible refine ⟨_, .inr (.inr rfl), ?_⟩)
    | (with_reducible apply callq0) | ((with_reducible apply frzB); (focus exact rfl); (focus exact rfl); walk_at "put")
    | ((with_reducible apply callq1); walk_at "set")
    | ((with_reducible apply callq2); walk_at "set"; walk_at "set")
    | ((with_reducible first | apply fgt_nx | apply fgt_bk | apply fgt_ct); walk_at "fgt")
    | ((with_reducible apply brT); (focus exact rfl)) | ((with_reducible apply brF); (focus exact rfl)))
local macro_rules
  | `(tactic| walk_at "r") => `(tactic| repeat first | walk_at "w" | walk_at "x")
local macro_rules
  | `(tactic| walk_at "ri") => `(tactic| repeat first | walk_at "w" | walk_at "x" | (with_reducible refine wp_if ?_))
local macro_rules
  | `(tactic| walk_at "app") => `(tactic| ((with_reducible apply appq); (focus exact rfl); (focus ((try simp only [List.length_map, List.length_nil, List.length_cons, List.length_append]); unfold line; omega)); walk_at "set"))
local macro_rules
  | `(tactic| walk_at "mul") => `(tactic| ((refine opq rfl rfl (ev_mul ?_) ?_); (focus (apply mulT <;> omega))))
local macro_rules
  | `(tactic| walk_at "rm") => `(tactic| repeat first | walk_at "w" | walk_at "x" | walk_at "mul")
local macro_rules
  | `(tactic| walk_at "len") => `(tactic| (refine And.intro ?_ ?_; (focus (simp [line]; done))))
theorem lenI {xs : List Int} : (List.map PyData.int xs).length = xs.length := List.length_map ..
theorem atI_int {xs : List Int} {j : Nat} (h : j < xs.length) : atI (xs.map PyData.int) (j : Int) = some (.int xs[j]) := atI_nat (by simp [h])
theorem of_draws {ns : List Int} (hb : ∀ z ∈ ns, Builtin.Int.intBits z ≤ 1048576) (hl : ns.length ≤ 63) {m : Nat} (hm : m ≤ 100000) {Q : R → List Ob → Prop} (k : ∀ ds, Q (.new (intsO ds)) []) : Ret d_law_draws [.val (.list (ns.map PyData.int)), .val (.int m)] Q := by
  refine ret_mkR (by repeat constructor) ?_
  unfold b_law_draws
  walk_at "ri"
  refine wp_lc PyData.int (fun done acc ρ => acc = done.map PyData.int ∧ ∃ s, ρ = [some (.val (.list (ns.map PyData.int))), some (.val (.int m)), none, none, none, none, none, none, s]) ?_
  walk_at "ri"
  refine ⟨by unfold line; omega, ⟨rfl, _, rfl⟩, ?_, ?_⟩
  · rintro done y rest acc _ e ⟨rfl, s, rfl⟩
    unfold LcQ
    dsimp only [wipe, set_s, set_z]
    walk_at "ri"
    refine ⟨true, _, rfl, ?_⟩
    refine brT rfl ?_
    unfold e1_law_draws
    walk_at "ri"
    exact ⟨by simp, _, rfl⟩
  rintro _ _ ⟨rfl, s, rfl⟩
  dsimp only [back, set_s, set_z, get_s, get_z]
  walk_at "r"
  refine wp_mid (fun ρ => ∃ cs : List Int, cs ≠ [] ∧ cs.length ≤ 63 ∧ (∀ z ∈ cs, Builtin.Int.intBits z ≤ 1048576) ∧ ρ = [some (.val (.list (ns.map PyData.int))), some (.val (.int m)), some (.own (intsO cs)), none, none, none, none, none, none]) ?_ ?_
  · walk_at "ri"
    refine branchD (fun h => ?_) fun h => ?_
    · walk_at "ri"
      have h0 : ns = [] := by simpa using h
      subst h0
      walk_at "app"
      walk_at "ri"
      exact ⟨rfl, [0], by simp, by simp, by simp; decide, rfl⟩
    · walk_at "ri"
      refine ⟨rfl, ns, fun h0 => h (by simp [h0]), hl, hb, rfl⟩
  rintro _ ⟨cs, hc0, hcl, hcb, rfl⟩
  walk_at "ri"
  have hn : 0 < cs.length := List.length_pos_iff.mpr hc0
  refine ⟨by simp [line], ?_⟩
  walk_at "ri"
  refine wp_forN (fun k ρ => ∃ rs ds : List Int, rs.length = cs.length ∧ ds.length = k ∧ ρ = [some (.val (.list (ns.map PyData.int))), some (.val (.int m)), some (.own (intsO cs)), some (.own (intsO rs)), some (.own (intsO ds)), none, none, none, none]) m ?_ ?_ ?_
  · walk_at "ri"
    exact ⟨rfl, by unfold line; omega, cs, [], rfl, rfl, rfl⟩
  · rintro k _ hk ⟨rs, ds, h1, h2, rfl⟩
    unfold l2_law_draws
    walk_at "ri"
    have hl0 : ((List.map PyData.int cs).length : Int) ≠ 0 := by simp; omega
    refine opq rfl rfl (ev_mod hl0) ?_
    obtain ⟨j, hj, hj2⟩ := fmod_ix (k : Int) (n := (List.map PyData.int cs).length) (by simp; omega)
    rw [hj]
    rw [lenI] at hj2
    walk_at "ri"
    refine opq rfl rfl (ev_ix (.inr (.inr rfl)) (atI_int hj2)) ?_
    walk_at "ri"
    have hj3 : j < rs.length := by omega
    refine branchD (fun h => ?_) fun h => ?_
    · walk_at "ri"
      refine opq rfl rfl (ev_ix (.inr (.inr rfl)) (atI_int hj3)) ?_
      walk_at "ri"
      walk_at "app"
      walk_at "ri"
      refine wp_setIxR ?_
      walk_at "ri"
      refine opq rfl rfl (ev_ix (.inr (.inr rfl)) (atI_int hj3)) ?_
      walk_at "ri"
      apply ixq (j := j) rfl rfl (by rw [lenI]; exact hj3)
      walk_at "set"
      walk_at "ri"
      refine ⟨rs.set j (rs[j].fdiv 1000), ds ++ [rs[j].fmod 1000], by simpa using h1, by simp [h2], ?_⟩
      simp [intsO]
    · walk_at "ri"
      refine opq rfl rfl (ev_ix (.inr (.inr rfl)) (atI_int hj2)) ?_
      walk_at "ri"
      refine opq rfl rfl (ev_mul ?_) ?_
      · exact mulB (n := 16) (hcb _ (List.getElem_mem hj2)) (by decide)
      walk_at "ri"
      refine opq rfl rfl (ev_mul ?_) ?_
      · exact mulOk_of 17 17 (by omega) (by decide)
      walk_at "ri"
      generalize hx : ((cs[j] * 48271 + k * 69621 + 11 : Int)).fmod 2147483647 = x
      have hx1 : 0 ≤ x := by rw [← hx]; exact Int.fmod_nonneg_of_pos _ (by decide)
      have hx2 : x < 2147483647 := by rw [← hx]; exact Int.fmod_lt_of_pos _ (by decide)
      walk_at "ri"
      refine opq rfl rfl (ev_mul (mulOk_of 31 31 (by omega) (by omega))) ?_
      walk_at "ri"
      refine opq rfl rfl (ev_mul (mulOk_of 31 31 (by decide) (by omega))) ?_
      walk_at "ri"
      walk_at "app"
      walk_at "ri"
      refine ⟨rs, ds ++ [(x * x + 3 * x + k).fmod 1000003], h1, by simp [h2], ?_⟩
      simp [intsO]
  · rintro _ ⟨rs, ds, h1, h2, rfl⟩
    walk_at "ri"
    refine wp_reverseR rfl (by walk_at "set") ?_
    walk_at "ri"
    have := k ds.reverse
    simpa [intsO] using this
end Py
namespace Py
open PySem D
local macro_rules
  | `(tactic| walk_at "w") => `(tactic| with_reducible first
    | refine seq_nx ?_ | refine seq_rt ?_ | refine seq_bk ?_ | refine seq_ct ?_ | refine wp_seq ?_ | refine wp_asg ?_ | refine wp_next ?_ | refine wp_ret ?_ | refine wp_retN ?_ | refine wp_brk ?_ | refine wp_cont ?_ | refine wp_expr ?_ | refine wp_op ?_ | refine wp_un ?_ | refine wp_c ?_
    | refine unB ?_ | refine wp_truB ?_ | refine wp_and ?_ | refine wp_or ?_ | refine wp_not ?_ | refine wp_ifE ?_ | refine wp_tup ?_ | refine wp_lst ?_ | refine wp_lcons ?_ | refine wp_lnil ?_ | refine frzV ?_ | refine frzN ?_ | refine wp_frz ?_ | refine wp_sl ?_ | refine wp_onone ?_ | refine wp_osome ?_
    | refine wp_anil ?_ | refine wp_av ?_ | refine wp_andV ?_ | refine wp_orV ?_ | refine wp_notV ?_ | refine wp_fgtR ?_ | refine turn_nx ?_ | refine turn_rt ?_ | refine turn_bk ?_ | refine turn_ct ?_ | refine fgt_rt ?_ | refine wp_par ?_ | refine wp_chain ?_ | refine wp_seqI ?_)
local macro_rules
  | `(tactic| walk_at "put") => `(tactic| focus ((repeat apply PutR.s); exact PutR.z rfl))
local macro_rules
  | `(tactic| walk_at "set") => `(tactic| focus ((repeat apply SetR.s); first | exact SetR.o | exact SetR.r))
local macro_rules
  | `(tactic| walk_at "fgt") => `(tactic| focus (repeat first | exact FgtsR.nil | exact FgtR.k | exact FgtR.z rfl | apply FgtR.s | apply FgtsR.cons))
local macro_rules
  | `(tactic| walk_at "x") => `(tactic| first
    | ((with_reducible apply wp_varV); (focus exact rfl)) | ((with_reducible apply wp_varO); (focus exact rfl)) | ((with_reducible apply wp_varR); (focus exact rfl))
    | ((with_reducible apply opq); (focus exact rfl); (focus exact rfl); (focus (first | exact ev_eqI | exact ev_neI | exact ev_ltI | exact ev_leI | exact ev_gtI | exact ev_geI | exact rfl)))
    | ((with_reducible apply unq); (focus exact rfl); (focus exact rfl))
    | ((with_reducible first | apply putqV | apply putqN); walk_at "put")
    | ((with_reducible apply putq2); walk_at "put"; walk_at "put")
    | ((with_reducible apply parq); walk_at "put"; walk_at "put")
    | ((with_reducible apply wp_callR); (focus (repeat first | exact RefsR.nil | apply RefsR.v | apply RefsR.r)); (focus decide))
    | ((with_reducible apply wp_ar); (focus exact rfl))
    | ((with_reducible apply fin_rt); (focus exact rfl); (focus exact rfl))
    | ((with_reducible apply fin_nx); (focus exact rfl))
    | ((with_reducible apply wp_appendR); (focus exact rfl))
    | (with_reducible refine ⟨_, rfl, ?_⟩) | (with_reducible refine ⟨_, .inl rfl, ?_⟩) | (with_reducible refine ⟨_, .inr (.inl rfl), ?_⟩) | (with_reducible refine ⟨_, .inr (.inr rfl), ?_⟩)
    | (with_reducible apply callq0) | ((with_reducible apply frzB); (focus exact rfl); (focus exact rfl); walk_at "put")
    | ((with_reducible apply callq1); walk_at "set")
    | ((with_reducible apply callq2); walk_at "set"; walk_at "set")
    | ((with_reducible first | apply fgt_nx | apply fgt_bk | apply fgt_ct); walk_at "fgt")
    | ((with_reducible apply brT); (focus exact rfl)) | ((with_reducible apply brF); (focus exact rfl)))
local macro_rules
  | `(tactic| walk_at "r") => `(tactic| repeat first | walk_at "w" | walk_at "x")
local macro_rules
  | `(tactic| walk_at "ri") => `(tactic| repeat first | walk_at "w" | walk_at "x" | (with_reducible refine wp_if ?_))
local macro_rules
  | `(tactic| walk_at "app") => `(tactic| ((with_reducible apply appq); (focus exact rfl); (focus ((try simp only [List.length_map, List.length_nil, List.length_cons, List.length_append]); unfold line; omega)); walk_at "set"))
local macro_rules
  | `(tactic| walk_at "mul") => `(tactic| ((refine opq rfl rfl (ev_mul ?_) ?_); (focus (apply mulT <;> omega))))
local macro_rules
  | `(tactic| walk_at "rm") => `(tactic| repeat first | walk_at "w" | walk_at "x" | walk_at "mul")
local macro_rules
  | `(tactic| walk_at "len") => `(tactic| (refine And.intro ?_ ?_; (focus (simp [line]; done))))
theorem of_huge {ns ds : List Int} {Q : R → List Ob → Prop} (k : ∀ (x : Int) (ds' : List Int), 0 ≤ x → x < 10 ^ 30 → Q (.val (.int x)) [intsO ds']) : Ret d_law_huge [.val (.list (ns.map PyData.int)), .ref (intsO ds)] Q := by
  refine ret_mkR (by repeat constructor) ?_
  unfold b_law_huge
  walk_at "r"
  refine ⟨by simp [line], ?_⟩
  walk_at "r"
  refine of_take (by decide) fun x ds hx1 hx2 => ?_
  walk_at "r"
  obtain ⟨p, hp, hp2⟩ : ∃ p : Int, atI [.int 1, .int (10 ^ Int.toNat 3), .int (10 ^ Int.toNat 9), .int (10 ^ Int.toNat 15), .int (10 ^ Int.toNat 21), .int (10 ^ Int.toNat 27)] x = some (.int p) ∧ p.natAbs < 2 ^ 100 := by
    have : x = 0 ∨ x = 1 ∨ x = 2 ∨ x = 3 ∨ x = 4 ∨ x = 5 := by omega
    rcases this with rfl | rfl | rfl | rfl | rfl | rfl <;> exact ⟨_, rfl, by decide⟩
  refine opq rfl rfl (ev_ix (.inr (.inr rfl)) hp) ?_
  walk_at "r"
  refine of_take (by decide) fun x ds hx1 hx2 => ?_
  walk_at "r"
  refine of_cell (N := 0) fun y _ => ?_
  walk_at "r"
  refine of_take (by decide) fun x ds hx1 hx2 => ?_
  walk_at "r"
  refine opq rfl rfl (ev_mul (mulOk_of 20 100 (by omega) hp2)) ?_
  walk_at "r"
  exact k _ _ (Int.fmod_nonneg_of_pos _ (by decide)) (Int.fmod_lt_of_pos _ (by decide))
/-- how great -/
theorem mulN {a b : Int} {A B : Nat} (ha : a.natAbs ≤ A) (hb : b.natAbs ≤ B) : (a * b).natAbs ≤ A * B := by rw [Int.natAbs_mul]; exact Nat.mul_le_mul ha hb
theorem mulOkN {a b : Int} (ha : a.natAbs ≤ 10 ^ 250) (hb : b.natAbs ≤ 10 ^ 250) : mulOk a b = true := mulOk_of 1000 1000 (Nat.lt_of_le_of_lt ha (by decide)) (Nat.lt_of_le_of_lt hb (by decide))
theorem fdiv_nat {a : Int} {b : Nat} : a.fdiv b = a / b := Int.fdiv_eq_ediv_of_nonneg _ (by omega)
theorem rat_spec {n d : Int} (hd : d ≠ 0) : ∃ c : Int, c ≠ 0 ∧ n = (rat n d).1 * c ∧ d = (rat n d).2 * c ∧ 0 < (rat n d).2 := by
  have hg := gcd_ne (n := n) hd
  have h1 : (Int.gcd n d : Int) ∣ n := Int.gcd_dvd_left ..
  have h2 : (Int.gcd n d : Int) ∣ d := Int.gcd_dvd_right ..
  obtain ⟨a, ha⟩ := h1
  obtain ⟨b, hb⟩ := h2
  generalize hG : (Int.gcd n d : Int) = g at *
  have hg0 : 0 < g := by omega
  unfold rat
  rw [hG]
  by_cases h : d < 0
  · simp only [if_pos h]
    have e1 : n = -g * -a := by rw [Int.neg_mul_neg]; exact ha
    have e2 : d = -g * -b := by rw [Int.neg_mul_neg]; exact hb
    rw [e1, e2, Int.mul_fdiv_cancel_left _ (by omega), Int.mul_fdiv_cancel_left _ (by omega)]
    refine ⟨-g, by omega, by rw [Int.mul_comm], by rw [Int.mul_comm], ?_⟩
    rw [hb] at h
    have : b < 0 := by
      apply Int.lt_of_not_ge
      intro h0
      have := Int.mul_nonneg (Int.le_of_lt hg0) h0
      omega
    omega
  · simp only [if_neg h]
    rw [ha, hb, Int.mul_fdiv_cancel_left _ (by omega), Int.mul_fdiv_cancel_left _ (by omega)]
    refine ⟨g, by omega, by rw [Int.mul_comm], by rw [Int.mul_comm], ?_⟩
    rw [hb] at h
    have hd0 : b ≠ 0 := by intro h0; rw [h0] at hb; simp at hb; exact hd hb
    apply Int.lt_of_not_ge
    intro h0
    have : b < 0 := by omega
    have := Int.mul_neg_of_pos_of_neg hg0 this
    omega
/-- a fraction that is not too great -/
def Gd (B : Nat) (p : Int × Int) : Prop := p.2 ≠ 0 ∧ p.1.natAbs ≤ B ∧ p.2.natAbs ≤ B
theorem gd_rat {n d : Int} {B : Nat} (hd : d ≠ 0) (h1 : n.natAbs ≤ B) (h2 : d.natAbs ≤ B) : Gd B (rat n d) := by
  obtain ⟨c, hc, e1, e2, e3⟩ := rat_spec (n := n) hd
  have hc1 : 1 ≤ c.natAbs := by omega
  have f1 := congrArg Int.natAbs e1
  have f2 := congrArg Int.natAbs e2
  rw [Int.natAbs_mul] at f1 f2
  refine ⟨by omega, ?_, ?_⟩
  · have := Nat.mul_le_mul (Nat.le_refl (rat n d).1.natAbs) hc1
    omega
  · have := Nat.mul_le_mul (Nat.le_refl (rat n d).2.natAbs) hc1
    omega
theorem okM_of {p q : Int × Int} (hp : Gd (10 ^ 250) p) (hq : Gd (10 ^ 250) q) : okM p q := ⟨mulOkN hp.2.1 hq.2.2, mulOkN hq.2.1 hp.2.2, mulOkN hp.2.2 hq.2.2, mulOkN hp.2.1 hq.2.1⟩
theorem Gd.mono {A B : Nat} {p : Int × Int} (h : Gd A p) (hab : A ≤ B) : Gd B p := ⟨h.1, Nat.le_trans h.2.1 hab, Nat.le_trans h.2.2 hab⟩
theorem of_drawn {ns ds : List Int} {Q : R → List Ob → Prop} (k : ∀ p ds', 0 < p.2 → Gd (10 ^ 40) p → Q (.val (fr p)) [intsO ds']) : Ret d_law_drawn [.val (.list (ns.map PyData.int)), .ref (intsO ds)] Q := by
  refine ret_mkR (by repeat constructor) ?_
  unfold b_law_drawn
  walk_at "r"
  refine of_take (by decide) fun kd ds hk1 hk2 => ?_
  walk_at "r"
  refine of_take (by decide) fun x ds hx1 hx2 => ?_
  walk_at "r"
  refine of_take (by decide) fun y ds hy1 hy2 => ?_
  walk_at "r"
  refine wp_mid (fun ρ => ∃ d : Int, 1 ≤ d ∧ d ≤ 10 ^ 30 ∧ ρ = [some (.val (.list (ns.map PyData.int))), some (.ref (intsO ds)), some (.val (.int kd)), some (.val (.int (x - 6))), some (.val (.int d))]) ?_ ?_
  · refine wp_if ?_
    walk_at "r"
    refine branchD (fun h => ?_) fun h => ?_
    · walk_at "r"
      exact ⟨rfl, 1, by decide, by decide, rfl⟩
    · walk_at "r"
      exact ⟨rfl, 1 + y, by omega, by omega, rfl⟩
  rintro _ ⟨d, hd1, hd2, rfl⟩
  walk_at "r"
  refine wp_mid (fun ρ => ∃ (n : Int) (ds : List Int), n.natAbs ≤ 10 ^ 40 ∧ ρ = [some (.val (.list (ns.map PyData.int))), some (.ref (intsO ds)), some (.val (.int kd)), some (.val (.int n)), some (.val (.int d))]) ?_ ?_
  · refine wp_if ?_
    walk_at "r"
    refine branchD (fun h => ?_) fun h => ?_
    · walk_at "r"
      refine of_huge fun z ds hz1 hz2 => ?_
      walk_at "r"
      refine opq rfl rfl (ev_mul (mulOkN (by omega) (by omega))) ?_
      walk_at "r"
      refine ⟨rfl, _, _, ?_, rfl⟩
      have := mulN (a := x - 6) (b := z) (A := 6) (B := 10 ^ 30) (by omega) (by omega)
      have e : ((x - 6) * z).fdiv 7 = ((x - 6) * z) / 7 := fdiv_nat (b := 7)
      rw [e]
      omega
    · walk_at "r"
      exact ⟨rfl, x - 6, ds, by omega, rfl⟩
  rintro _ ⟨n, ds, hn, rfl⟩
  walk_at "r"
  refine wp_mid (fun ρ => ∃ (d : Int) (ds : List Int), 1 ≤ d ∧ d ≤ 10 ^ 30 ∧ ρ = [some (.val (.list (ns.map PyData.int))), some (.ref (intsO ds)), some (.val (.int kd)), some (.val (.int n)), some (.val (.int d))]) ?_ ?_
  · have go : Wp (sAsg (mOp fAdd (mC (.int 1)) (mOp fDiv (mCall d_law_huge [.v (mVar 0), .r 1]) (mC (.int 2)))) (gName 4)) [some (.val (.list (ns.map PyData.int))), some (.ref (intsO ds)), some (.val (.int kd)), some (.val (.int n)), some (.val (.int d))] (fun f ρ => f = Fl.nx ∧ ∃ (d : Int) (ds : List Int), 1 ≤ d ∧ d ≤ 10 ^ 30 ∧ ρ = [some (.val (.list (ns.map PyData.int))), some (.ref (intsO ds)), some (.val (.int kd)), some (.val (.int n)), some (.val (.int d))]) := by
      walk_at "r"
      refine of_huge fun z ds hz1 hz2 => ?_
      walk_at "r"
      have e : z.fdiv 2 = z / 2 := fdiv_nat (b := 2)
      exact ⟨rfl, 1 + z.fdiv 2, ds, by omega, by omega, rfl⟩
    refine wp_if ?_
    walk_at "r"
    refine branchD (fun h => ?_) fun h => ?_
    · refine brT rfl go
    · walk_at "r"
      refine branchD (fun h => go) fun h => ?_
      walk_at "r"
      exact ⟨rfl, d, ds, hd1, hd2, rfl⟩
  rintro _ ⟨d, ds, hd1, hd2, rfl⟩
  walk_at "r"
  refine of_ratio (by omega) ?_
  walk_at "r"
  obtain ⟨c, h1, h2, h3, h4⟩ := rat_spec (n := n) (d := d) (by omega)
  exact k _ _ h4 (gd_rat (by omega) (by omega) (by omega))
end Py
namespace Py
open PySem D
local macro_rules
  | `(tactic| walk_at "w") => `(tactic| with_reducible first
    | refine seq_nx ?_ | refine seq_rt ?_ | refine seq_bk ?_ | refine seq_ct ?_ | refine wp_seq ?_ | refine wp_asg ?_ | refine wp_next ?_ | refine wp_ret ?_ | refine wp_retN ?_ | refine wp_brk ?_ | refine wp_cont ?_ | refine wp_expr ?_ | refine wp_op ?_ | refine wp_un ?_ | refine wp_c ?_
    | refine unB ?_ | refine wp_truB ?_ | refine wp_and ?_ | refine wp_or ?_ | refine wp_not ?_ | refine wp_ifE ?_ | refine wp_tup ?_ | refine wp_lst ?_ | refine wp_lcons ?_ | refine wp_lnil ?_ | refine frzV ?_ | refine frzN ?_ | refine wp_frz ?_ | refine wp_sl ?_ | refine wp_onone ?_ | refine wp_osome ?_
    | refine wp_anil ?_ | refine wp_av ?_ | refine wp_andV ?_ | refine wp_orV ?_ | refine wp_notV ?_ | refine wp_fgtR ?_ | refine turn_nx ?_ | refine turn_rt ?_ | refine turn_bk ?_ | refine turn_ct ?_ | refine fgt_rt ?_ | refine wp_par ?_ | refine wp_chain ?_ | refine wp_seqI ?_)
local macro_rules
  | `(tactic| walk_at "put") => `(tactic| focus ((repeat apply PutR.s); exact PutR.z rfl))
local macro_rules
  | `(tactic| walk_at "set") => `(tactic| focus ((repeat apply SetR.s); first | exact SetR.o | exact SetR.r))
local macro_rules
  | `(tactic| walk_at "fgt") => `(tactic| focus (repeat first | exact FgtsR.nil | exact FgtR.k | exact FgtR.z rfl | apply FgtR.s | apply FgtsR.cons))
local macro_rules
  | `(tactic| walk_at "x") => `(tactic| first
    | ((with_reducible apply wp_varV); (focus exact rfl)) | ((with_reducible apply wp_varO); (focus exact rfl)) | ((with_reducible apply wp_varR); (focus exact rfl))
    | ((with_reducible apply opq); (focus exact rfl); (focus exact rfl); (focus (first | exact ev_eqI | exact ev_neI | exact ev_ltI | exact ev_leI | exact ev_gtI | exact ev_geI | exact rfl)))
    | ((with_reducible apply unq); (focus exact rfl); (focus exact rfl))
    | ((with_reducible first | apply putqV | apply putqN); walk_at "put")
    | ((with_reducible apply putq2); walk_at "put"; walk_at "put")
    | ((with_reducible apply parq); walk_at "put"; walk_at "put")
    | ((with_reducible apply wp_callR); (focus (repeat first | exact RefsR.nil | apply RefsR.v | apply RefsR.r)); (focus decide))
    | ((with_reducible apply wp_ar); (focus exact rfl))
    | ((with_reducible apply fin_rt); (focus exact rfl); (focus exact rfl))
    | ((with_reducible apply fin_nx); (focus exact rfl))
    | ((with_reducible apply wp_appendR); (focus exact rfl))
    | (with_reducible refine ⟨_, rfl, ?_⟩) | (with_reducible refine ⟨_, .inl rfl, ?_⟩) | (with_reducible refine ⟨_, .inr (.inl rfl), ?_⟩) | (with_reducible refine ⟨_, .inr (.inr rfl), ?_⟩)
    | (with_reducible apply callq0) | ((with_reducible apply frzB); (focus exact rfl); (focus exact rfl); walk_at "put")
    | ((with_reducible apply callq1); walk_at "set")
    | ((with_reducible apply callq2); walk_at "set"; walk_at "set")
    | ((with_reducible first | apply fgt_nx | apply fgt_bk | apply fgt_ct); walk_at "fgt")
    | ((with_reducible apply brT); (focus exact rfl)) | ((with_reducible apply brF); (focus exact rfl)))
local macro_rules
  | `(tactic| walk_at "r") => `(tactic| repeat first | walk_at "w" | walk_at "x")
local macro_rules
  | `(tactic| walk_at "ri") => `(tactic| repeat first | walk_at "w" | walk_at "x" | (with_reducible refine wp_if ?_))
local macro_rules
  | `(tactic| walk_at "app") => `(tactic| ((with_reducible apply appq); (focus exact rfl); (focus ((try simp only [List.length_map, List.length_nil, List.length_cons, List.length_append]); unfold line; omega)); walk_at "set"))
local macro_rules
  | `(tactic| walk_at "mul") => `(tactic| ((refine opq rfl rfl (ev_mul ?_) ?_); (focus (apply mulT <;> omega))))
local macro_rules
  | `(tactic| walk_at "rm") => `(tactic| repeat first | walk_at "w" | walk_at "x" | walk_at "mul")
local macro_rules
  | `(tactic| walk_at "len") => `(tactic| (refine And.intro ?_ ?_; (focus (simp [line]; done))))
/-! numbers of the script's size -/
@[irreducible] def TT : Nat := 2 ^ 1048576
theorem tt_pos : 1 ≤ TT := by unfold TT; exact Nat.one_le_two_pow
theorem tt_of {z : Int} (h : Builtin.Int.intBits z ≤ 1048576) : z.natAbs ≤ TT := by unfold TT; exact Nat.le_of_lt (intBits_le_iff.mp h)
theorem tt_lt : 10 ^ 100 * TT < 2 ^ 1049000 := by
  unfold TT
  calc 10 ^ 100 * 2 ^ 1048576 < 2 ^ 424 * 2 ^ 1048576 := Nat.mul_lt_mul_of_pos_right (by decide) (Nat.two_pow_pos _)
    _ = 2 ^ 1049000 := by rw [← Nat.pow_add]
theorem mulT {a b : Int} (ha : a.natAbs ≤ 10 ^ 100 * TT) (hb : b.natAbs ≤ 10 ^ 100 * TT) : mulOk a b = true := mulOk_of 1049000 1049000 (Nat.lt_of_le_of_lt ha tt_lt) (Nat.lt_of_le_of_lt hb tt_lt)
theorem mulT2 {a b : Int} {x y : Int} (ha : a.natAbs ≤ (x * y).natAbs) (hx : x.natAbs ≤ 10 ^ 100 * TT) (hy : y.natAbs ≤ 10 ^ 100 * TT) (hb : b.natAbs ≤ 10 ^ 100 * TT) : mulOk a b = true := by
  have hx' := Nat.lt_of_le_of_lt hx tt_lt
  have hy' := Nat.lt_of_le_of_lt hy tt_lt
  refine mulOk_of 2098000 1049000 (Nat.lt_of_le_of_lt ha ?_) (Nat.lt_of_le_of_lt hb tt_lt)
  rw [Int.natAbs_mul]
  calc x.natAbs * y.natAbs < 2 ^ 1049000 * 2 ^ 1049000 := Nat.mul_lt_mul'' hx' hy'
    _ = 2 ^ 2098000 := by rw [← Nat.pow_add]
theorem of_size {ns ds : List Int} (hb : ∀ z ∈ ns, Builtin.Int.intBits z ≤ 1048576) {Q : R → List Ob → Prop} (k : ∀ (x : Int) ds', 0 ≤ x → x ≤ 10 ^ 45 + TT → Q (.val (.int x)) [intsO ds']) : Ret d_law_size [.ref (intsO ds), .val (.list (ns.map PyData.int))] Q := by
  refine ret_mkR (by repeat constructor) ?_
  unfold b_law_size
  walk_at "r"
  refine of_take (by decide) fun x ds hx1 hx2 => ?_
  walk_at "r"
  refine of_take (by decide) fun kd ds _ _ => ?_
  walk_at "r"
  refine wp_mid (fun ρ => ∃ (n : Int) (ds : List Int), 0 ≤ n ∧ n ≤ 10 ^ 44 ∧ ρ = [some (.ref (intsO ds)), some (.val (.list (ns.map PyData.int))), some (.val (.int n)), some (.val (.int kd))]) ?_ ?_
  · walk_at "ri"
    refine branchD (fun h => ?_) fun h => ?_
    · walk_at "r"
      refine of_take (by decide) fun y ds hy1 hy2 => ?_
      walk_at "r"
      walk_at "len"
      walk_at "r"
      refine of_take (by decide) fun i ds hi1 hi2 => ?_
      walk_at "r"
      obtain ⟨p, hp, hp1, hp2⟩ : ∃ p : Int, atI [.int (10 ^ Int.toNat 3), .int (10 ^ Int.toNat 9), .int (10 ^ Int.toNat 18), .int (10 ^ Int.toNat 40)] i = some (.int p) ∧ 0 ≤ p ∧ p ≤ 10 ^ 40 := by
        have : i = 0 ∨ i = 1 ∨ i = 2 ∨ i = 3 := by omega
        rcases this with rfl | rfl | rfl | rfl <;> exact ⟨_, rfl, by decide, by decide⟩
      refine opq rfl rfl (ev_ix (.inr (.inr rfl)) hp) ?_
      walk_at "r"
      refine opq rfl rfl (ev_mul (mulOkN (by omega) (by omega))) ?_
      walk_at "r"
      have e := mulN (a := 1 + y) (b := p) (A := 1000) (B := 10 ^ 40) (by omega) (by omega)
      have e2 := Int.mul_nonneg (a := 1 + y) (b := p) (by omega) hp1
      exact ⟨rfl, x + (1 + y) * p, ds, by omega, by omega, rfl⟩
    · walk_at "r"
      exact ⟨rfl, x, ds, by omega, by omega, rfl⟩
  rintro _ ⟨n, ds, hn1, hn2, rfl⟩
  walk_at "ri"
  refine branchD (fun h => ?_) fun h => ?_
  · walk_at "r"
    refine of_take (by decide) fun i ds hi1 hi2 => ?_
    walk_at "r"
    refine of_cell (N := 0) fun c hc => ?_
    walk_at "r"
    have hc2 : c.natAbs ≤ TT := by
      rcases hc with rfl | hc
      · exact Nat.le_trans (by decide) tt_pos
      · exact tt_of (hb c hc)
    exact k _ _ (by omega) (by omega)
  · walk_at "r"
    exact k _ _ (by omega) (by omega)
theorem of_common {a b : Int} {Q : R → List Ob → Prop} (k : Q (.val (.int (Int.gcd a b))) []) : Ret d_law_common [.val (.int a), .val (.int b)] Q := by
  refine ret_mkR (by repeat constructor) ?_
  unfold b_law_common
  walk_at "r"
  refine wp_while (fun (p : Nat × Nat) ρ => ρ = [some (.val (.int p.1)), some (.val (.int p.2))] ∧ Nat.gcd p.1 p.2 = Int.gcd a b) (fun p => p.2) (a.natAbs, b.natAbs) ⟨rfl, rfl⟩ ?_
  rintro ⟨x, y⟩ ρ ⟨rfl, hg⟩
  dsimp only at hg ⊢
  unfold t2_law_common l1_law_common
  walk_at "r"
  refine branchD (fun h => ?_) fun h => ?_
  · have hy : 0 < y := by omega
    walk_at "r"
    refine opq rfl rfl (ev_mod (by omega)) ?_
    walk_at "r"
    have e : (x : Int).fmod y = ((x % y : Nat) : Int) := by rw [Int.fmod_eq_emod_of_nonneg _ (by omega)]; simp
    refine ⟨(y, x % y), Nat.mod_lt _ hy, ?_, ?_⟩
    · rw [e]
    · rw [← hg, Nat.gcd_comm x y, Nat.gcd_rec y x, Nat.gcd_comm]
  · have hy : y = 0 := by omega
    subst hy
    walk_at "r"
    rw [Nat.gcd_zero_right] at hg
    rw [hg]
    exact k
theorem of_lfraction {n d : Int} (hd : d ≠ 0) {Q : R → List Ob → Prop} (k : Q (.val (fr (rat n d))) []) : Ret d_law_fraction [.val (.int n), .val (.int d)] Q := by
  have hg := gcd_ne (n := n) hd
  refine ret_mkR (by repeat constructor) ?_
  unfold b_law_fraction
  walk_at "r"
  refine of_common ?_
  walk_at "ri"
  refine branchD (fun h => ?_) fun h => ?_
  · walk_at "r"
    refine opq rfl rfl (ev_div (by omega)) ?_
    walk_at "r"
    refine opq rfl rfl (ev_div (by omega)) ?_
    walk_at "r"
    walk_at "len"
    walk_at "r"
    unfold rat at k
    rw [if_pos h] at k
    exact k
  · walk_at "r"
    refine opq rfl rfl (ev_div (by omega)) ?_
    walk_at "r"
    refine opq rfl rfl (ev_div (by omega)) ?_
    walk_at "r"
    walk_at "len"
    walk_at "r"
    unfold rat at k
    rw [if_neg h] at k
    exact k
/-! comprehensions and sums -/
theorem ints_map (xs : List Int) : ints? (xs.map PyData.int) = some xs := by
  unfold ints?
  induction xs with
  | nil => rfl
  | cons x xs ih => simp [List.mapM_cons, intV?, ih]
theorem ev_sum {xs : List Int} : fSum (.ob (.lst (xs.map PyData.int))) = some (.val (.int xs.sum)) := by simp [fSum, Ct.lst?, ints_map]
theorem cut_map {α β : Type} (f : α → β) (xs : List α) (lo hi : Option Int) : cut (xs.map f) lo hi = (cut xs lo hi).map f := by simp [cut, List.map_drop, List.map_take]
theorem cut_mem {α : Type} {xs : List α} {lo hi : Option Int} {x : α} (h : x ∈ cut xs lo hi) : x ∈ xs := List.mem_of_mem_drop (List.mem_of_mem_take h)

theorem lcqY {g : MG} {vs : List Nat} {e : M} {x : PV} {ρ ρ0 : Env} {Q : List PV → Env → Prop} (h0 : wipe ρ vs = ρ0) (h : PutQ g (.val x) ρ0 fun ρ1 => Wp e ρ1 fun r ρ3 => FrzQ r ρ3 fun v ρ4 => Q [v] ρ4) : LcQ g vs tYes e x ρ Q := by
  subst h0
  obtain ⟨ρ1, e1, q⟩ := h
  exact ⟨ρ1, e1, true, ρ1, rfl, fun _ => q, fun h => by cases h⟩
end Py
namespace Py
open PySem D
local macro_rules
  | `(tactic| walk_at "w") => `(tactic| with_reducible first
    | refine seq_nx ?_ | refine seq_rt ?_ | refine seq_bk ?_ | refine seq_ct ?_ | refine wp_seq ?_ | refine wp_asg ?_ | refine wp_next ?_ | refine wp_ret ?_ | refine wp_retN ?_ | refine wp_brk ?_ | refine wp_cont ?_ | refine wp_expr ?_ | refine wp_op ?_ | refine wp_un ?_ | refine wp_c ?_
    | refine unB ?_ | refine wp_truB ?_ | refine wp_and ?_ | refine wp_or ?_ | refine wp_not ?_ | refine wp_ifE ?_ | refine wp_tup ?_ | refine wp_lst ?_ | refine wp_lcons ?_ | refine wp_lnil ?_ | refine frzV ?_ | refine frzN ?_ | refine wp_frz ?_ | refine wp_sl ?_ | refine wp_onone ?_ | refine wp_osome ?_
    | refine wp_anil ?_ | refine wp_av ?_ | refine wp_andV ?_ | refine wp_orV ?_ | refine wp_notV ?_ | refine wp_fgtR ?_ | refine turn_nx ?_ | refine turn_rt ?_ | refine turn_bk ?_ | refine turn_ct ?_ | refine fgt_rt ?_ | refine wp_par ?_ | refine wp_chain ?_ | refine wp_seqI ?_)
local macro_rules
  | `(tactic| walk_at "put") => `(tactic| focus ((repeat apply PutR.s); first | exact PutR.z rfl | exact PutR.z (by assumption)))
local macro_rules
  | `(tactic| walk_at "set") => `(tactic| focus ((repeat apply SetR.s); first | exact SetR.o | exact SetR.r))
local macro_rules
  | `(tactic| walk_at "fgt") => `(tactic| focus (repeat first | exact FgtsR.nil | exact FgtR.k | exact FgtR.z rfl | apply FgtR.s | apply FgtsR.cons))
local macro_rules
  | `(tactic| walk_at "x") => `(tactic| first
    | ((with_reducible apply wp_varV); (focus exact rfl)) | ((with_reducible apply wp_varO); (focus exact rfl)) | ((with_reducible apply wp_varR); (focus exact rfl))
    | ((with_reducible apply opq); (focus exact rfl); (focus exact rfl); (focus (first | exact ev_eqI | exact ev_neI | exact ev_ltI | exact ev_leI | exact ev_gtI | exact ev_geI | exact ev_strT | exact ev_strF n1 | exact ev_strF n2 | exact ev_strF n3 | exact ev_strF n4 | exact ev_strF n5 | exact ev_strF n6 | exact rfl)))
    | ((with_reducible apply unq); (focus exact rfl); (focus exact rfl))
    | ((with_reducible first | apply putqV | apply putqN); walk_at "put")
    | ((with_reducible apply putq2); walk_at "put"; walk_at "put")
    | ((with_reducible apply parq); walk_at "put"; walk_at "put")
    | ((with_reducible apply wp_callR); (focus (repeat first | exact RefsR.nil | apply RefsR.v | apply RefsR.r)); (focus decide))
    | ((with_reducible apply wp_ar); (focus exact rfl))
    | ((with_reducible apply fin_rt); (focus exact rfl); (focus exact rfl))
    | ((with_reducible apply fin_nx); (focus exact rfl))
    | ((with_reducible apply wp_appendR); (focus exact rfl))
    | (with_reducible refine ⟨_, rfl, ?_⟩) | (with_reducible refine ⟨_, .inl rfl, ?_⟩) | (with_reducible refine ⟨_, .inr (.inl rfl), ?_⟩) | (with_reducible refine ⟨_, .inr (.inr rfl), ?_⟩)
    | (with_reducible apply callq0) | ((with_reducible apply frzB); (focus exact rfl); (focus exact rfl); walk_at "put")
    | ((with_reducible apply callq1); walk_at "set")
    | ((with_reducible apply callq2); walk_at "set"; walk_at "set")
    | ((with_reducible first | apply fgt_nx | apply fgt_bk | apply fgt_ct); walk_at "fgt")
    | ((with_reducible apply brT); (focus exact rfl)) | ((with_reducible apply brF); (focus exact rfl)))
local macro_rules
  | `(tactic| walk_at "r") => `(tactic| repeat first | walk_at "w" | walk_at "x")
local macro_rules
  | `(tactic| walk_at "ri") => `(tactic| repeat first | walk_at "w" | walk_at "x" | (with_reducible refine wp_if ?_))
local macro_rules
  | `(tactic| walk_at "app") => `(tactic| ((with_reducible apply appq); (focus exact rfl); (focus ((try simp only [List.length_map, List.length_nil, List.length_cons, List.length_append]); unfold line; omega)); walk_at "set"))
local macro_rules
  | `(tactic| walk_at "mul") => `(tactic| ((refine opq rfl rfl (ev_mul ?_) ?_); (focus (apply mulT <;> omega))))
local macro_rules
  | `(tactic| walk_at "rm") => `(tactic| repeat first | walk_at "w" | walk_at "x" | walk_at "mul")
local macro_rules
  | `(tactic| walk_at "len") => `(tactic| (refine And.intro ?_ ?_; (focus (simp [line]; done))))
local macro_rules
  | `(tactic| walk_at "rl") => `(tactic| repeat first | walk_at "w" | walk_at "x" | walk_at "len")
local macro_rules
  | `(tactic| walk_at "ril") => `(tactic| repeat first | walk_at "w" | walk_at "x" | walk_at "len" | (with_reducible refine wp_if ?_))
/-! fractions by their cross product -/
theorem rat_cop {n d : Int} (hd : d ≠ 0) : Int.gcd (rat n d).1 (rat n d).2 = 1 := by
  have hg := gcd_ne (n := n) hd
  have h1 : (Int.gcd n d : Int) ∣ n := Int.gcd_dvd_left ..
  have h2 : (Int.gcd n d : Int) ∣ d := Int.gcd_dvd_right ..
  obtain ⟨a, ha⟩ := h1
  obtain ⟨b, hb⟩ := h2
  have key : Int.gcd a b = 1 := by
    have e := congrArg (fun x : Int × Int => Int.gcd x.1 x.2) (show (n, d) = ((Int.gcd n d : Int) * a, (Int.gcd n d : Int) * b) from by rw [← ha, ← hb])
    simp only at e
    rw [Int.gcd_mul_left, Int.natAbs_natCast] at e
    have h0 : 0 < Int.gcd n d := by omega
    have e' : Int.gcd n d * 1 = Int.gcd n d * Int.gcd a b := by rw [Nat.mul_one]; exact e
    exact (Nat.eq_of_mul_eq_mul_left h0 e').symm
  unfold rat
  generalize (Int.gcd n d : Int) = g at *
  by_cases h : d < 0
  · simp only [if_pos h]
    have e1 : n = -g * -a := by rw [Int.neg_mul_neg]; exact ha
    have e2 : d = -g * -b := by rw [Int.neg_mul_neg]; exact hb
    rw [e1, e2, Int.mul_fdiv_cancel_left _ (by omega), Int.mul_fdiv_cancel_left _ (by omega), Int.neg_gcd, Int.gcd_neg]
    exact key
  · simp only [if_neg h]
    rw [ha, hb, Int.mul_fdiv_cancel_left _ (by omega), Int.mul_fdiv_cancel_left _ (by omega)]
    exact key
/-- in lowest terms -/
def Low (p : Int × Int) : Prop := 0 < p.2 ∧ Int.gcd p.1 p.2 = 1
theorem low_rat {n d : Int} (hd : d ≠ 0) : Low (rat n d) := by
  obtain ⟨c, _, _, _, h⟩ := rat_spec (n := n) hd
  exact ⟨h, rat_cop hd⟩
theorem low_eq {p q : Int × Int} (hp : Low p) (hq : Low q) (h : p.1 * q.2 = q.1 * p.2) : p = q := by
  obtain ⟨p1, p2⟩ := hp
  obtain ⟨q1, q2⟩ := hq
  have d1 : p.2.natAbs ∣ q.2.natAbs := by
    have : p.2.natAbs ∣ p.1.natAbs * q.2.natAbs := by
      rw [← Int.natAbs_mul, h, Int.natAbs_mul]
      exact Nat.dvd_mul_left ..
    exact Nat.Coprime.dvd_of_dvd_mul_left (Nat.Coprime.symm p2) this
  have d2 : q.2.natAbs ∣ p.2.natAbs := by
    have : q.2.natAbs ∣ q.1.natAbs * p.2.natAbs := by
      rw [← Int.natAbs_mul, ← h, Int.natAbs_mul]
      exact Nat.dvd_mul_left ..
    exact Nat.Coprime.dvd_of_dvd_mul_left (Nat.Coprime.symm q2) this
  have e := Nat.dvd_antisymm d1 d2
  have e2 : p.2 = q.2 := by omega
  rw [e2] at h
  have e1 := Int.eq_of_mul_eq_mul_right (by omega) h
  exact Prod.ext e1 e2
theorem rat_cross {n d : Int} (hd : d ≠ 0) : (rat n d).1 * d = n * (rat n d).2 := by
  obtain ⟨c, hc, h1, h2, h3⟩ := rat_spec (n := n) hd
  generalize rat n d = r at *
  rw [h1, h2]
  grind
theorem low_of {p : Int × Int} {n d : Int} (hp : Low p) (hd : d ≠ 0) (h : p.1 * d = n * p.2) : rat n d = p := by
  have hc := rat_cross (n := n) hd
  refine low_eq (low_rat hd) hp ?_
  apply Int.eq_of_mul_eq_mul_right hd
  generalize rat n d = r at *
  grind
/-- the sum of the products -/
def dotV (ps qs : List (Int × Int)) : Int × Int := (List.zipWith timesV ps qs).foldl plusV (0, 1)
theorem low_plus {p q : Int × Int} (hp : 0 < p.2) (hq : 0 < q.2) : Low (plusV p q) := low_rat (Int.mul_ne_zero (by omega) (by omega))
theorem low_times {p q : Int × Int} (hp : 0 < p.2) (hq : 0 < q.2) : Low (timesV p q) := low_rat (Int.mul_ne_zero (by omega) (by omega))

theorem rat_le {n d : Int} (hd : d ≠ 0) : (rat n d).1.natAbs ≤ n.natAbs ∧ (rat n d).2.natAbs ≤ d.natAbs := by
  obtain ⟨c, hc, e1, e2, e3⟩ := rat_spec (n := n) hd
  have hc1 : 1 ≤ c.natAbs := by omega
  have f1 := congrArg Int.natAbs e1
  have f2 := congrArg Int.natAbs e2
  rw [Int.natAbs_mul] at f1 f2
  have g1 := Nat.mul_le_mul (Nat.le_refl (rat n d).1.natAbs) hc1
  have g2 := Nat.mul_le_mul (Nat.le_refl (rat n d).2.natAbs) hc1
  omega
/-- numbers of m bits -/
def Bt (m : Nat) (p : Int × Int) : Prop := 0 < p.2 ∧ p.1.natAbs < 2 ^ m ∧ p.2.natAbs < 2 ^ m
theorem Bt.mono {m n : Nat} {p : Int × Int} (h : Bt m p) (hmn : m ≤ n) : Bt n p := ⟨h.1, Nat.lt_of_lt_of_le h.2.1 (Nat.pow_le_pow_right (by decide) hmn), Nat.lt_of_lt_of_le h.2.2 (Nat.pow_le_pow_right (by decide) hmn)⟩
theorem lt_mul {a b : Int} {m n : Nat} (ha : a.natAbs < 2 ^ m) (hb : b.natAbs < 2 ^ n) : (a * b).natAbs < 2 ^ (m + n) := by
  rw [Int.natAbs_mul, Nat.pow_add]
  exact Nat.mul_lt_mul'' ha hb
theorem lt_add {a b : Int} {m : Nat} (ha : a.natAbs < 2 ^ m) (hb : b.natAbs < 2 ^ m) : (a + b).natAbs < 2 ^ (m + 1) := by
  rw [Nat.pow_succ]
  omega
theorem bt_times {p q : Int × Int} {m n : Nat} (hp : Bt m p) (hq : Bt n q) : Bt (m + n) (timesV p q) := by
  have hd : p.2 * q.2 ≠ 0 := Int.mul_ne_zero (by have := hp.1; omega) (by have := hq.1; omega)
  obtain ⟨h1, h2⟩ := rat_le (n := p.1 * q.1) hd
  exact ⟨(low_rat hd).1, Nat.lt_of_le_of_lt h1 (lt_mul hp.2.1 hq.2.1), Nat.lt_of_le_of_lt h2 (lt_mul hp.2.2 hq.2.2)⟩
theorem bt_plus {p q : Int × Int} {m n : Nat} (hp : Bt m p) (hq : Bt n q) : Bt (m + n + 1) (plusV p q) := by
  have hd : p.2 * q.2 ≠ 0 := Int.mul_ne_zero (by have := hp.1; omega) (by have := hq.1; omega)
  obtain ⟨h1, h2⟩ := rat_le (n := p.1 * q.2 + q.1 * p.2) hd
  have e := lt_mul hq.2.1 hp.2.2
  rw [Nat.add_comm n m] at e
  exact ⟨(low_rat hd).1, Nat.lt_of_le_of_lt h1 (lt_add (lt_mul hp.2.1 hq.2.2) e), Nat.lt_of_lt_of_le (Nat.lt_of_le_of_lt h2 (lt_mul hp.2.2 hq.2.2)) (Nat.pow_le_pow_right (by decide) (by omega))⟩
theorem okM_bt {p q : Int × Int} {m n : Nat} (hp : Bt m p) (hq : Bt n q) (h : m + n < 100000000) : okM p q :=
  ⟨mulOk_of m n hp.2.1 hq.2.2 h, mulOk_of n m hq.2.1 hp.2.2 (by omega), mulOk_of m n hp.2.2 hq.2.2 h, mulOk_of m n hp.2.1 hq.2.1 h⟩
theorem sum_bt {xs : List (Int × Int)} (h : ∀ x ∈ xs, Bt 700 x) : Bt (701 * xs.length + 1) (xs.foldl plusV (0, 1)) := by
  have key : ∀ (xs : List (Int × Int)) (t : Int × Int) (m : Nat), (∀ x ∈ xs, Bt 700 x) → Bt m t → Bt (701 * xs.length + m) (xs.foldl plusV t) := by
    intro xs
    induction xs with
    | nil => intro t m _ ht; simpa using ht
    | cons x xs ih =>
      intro t m hx ht
      rw [List.foldl_cons]
      have h1 := ih (plusV t x) (m + 700 + 1) (fun y hy => hx y (List.mem_cons_of_mem _ hy)) (bt_plus ht (hx x List.mem_cons_self))
      exact h1.mono (by simp; omega)
  exact key xs (0, 1) 1 h ⟨by decide, by decide, by decide⟩
theorem of_total {xs : List (Int × Int)} (h : ∀ x ∈ xs, Bt 700 x) (hl : xs.length ≤ 1000) {Q : R → List Ob → Prop} (k : Q (.val (fr (xs.foldl plusV (0, 1)))) []) : Ret d_total [.val (.list (xs.map fr))] Q := by
  refine ret_mkR (by repeat constructor) ?_
  unfold b_total
  walk_at "r"
  refine wp_for ?_
  walk_at "r"
  refine wp_loop fr (fun done ρ => ρ = [some (.val (.list (xs.map fr))), some (.val (fr (done.foldl plusV (0, 1)))), none]) xs rfl ?_ ?_
  · rintro done y rest _ e rfl
    have hy := h y (by rw [e]; simp)
    have ht := sum_bt (xs := done) fun x hx => h x (by rw [e]; simp [hx])
    have hlen : done.length ≤ 1000 := by have := congrArg List.length e; simp at this; omega
    unfold l1_total
    walk_at "r"
    refine of_plus (by have := ht.1; omega) (by have := hy.1; omega) (okM_bt ht hy (by omega)) ?_
    walk_at "r"
    simp
  · rintro _ rfl
    walk_at "r"
    exact k
/-- two rows side by side -/
def Two (ps qs : List (Int × Int)) : Prop := ps.length = qs.length ∧ ps.length ≤ 100 ∧ (∀ p ∈ ps, Bt 350 p) ∧ ∀ q ∈ qs, Bt 350 q
theorem zip_take {ps qs : List (Int × Int)} {j : Nat} (h1 : j < ps.length) (h2 : j < qs.length) : List.zipWith timesV (ps.take (j + 1)) (qs.take (j + 1)) = List.zipWith timesV (ps.take j) (qs.take j) ++ [timesV ps[j] qs[j]] := by
  rw [List.take_succ_eq_append_getElem h1, List.take_succ_eq_append_getElem h2, List.zipWith_append (by simp; omega)]
  rfl
theorem zip_bt {ps qs : List (Int × Int)} (hp : ∀ p ∈ ps, Bt 350 p) (hq : ∀ q ∈ qs, Bt 350 q) : ∀ x ∈ List.zipWith timesV ps qs, Bt 700 x := by
  intro x hx
  obtain ⟨j, hj, rfl⟩ := List.getElem_of_mem hx
  rw [List.length_zipWith] at hj
  rw [List.getElem_zipWith]
  exact bt_times (hp _ (List.getElem_mem (by omega))) (hq _ (List.getElem_mem (by omega)))
def natI (k : Nat) : PV := .int (k : Int)
/-- a list or a tuple -/
def SqV (v : PV) (xs : List PV) : Prop := v = .list xs ∨ v = .tuple xs
theorem sq_ix {v : PV} {xs : List PV} (h : SqV v xs) {j : Nat} {x : PV} (hx : xs[j]? = some x) : fIx (.pv v) (.pv (.int (j : Int))) = some (.val x) := by
  rcases h with rfl | rfl
  · exact ev_ix (.inr (.inl rfl)) (atI_nat hx)
  · exact ev_ix (.inl rfl) (atI_nat hx)
theorem of_product_sum {ps qs : List (Int × Int)} {v w : PV} (hT : Two ps qs) (hv : SqV v (ps.map fr)) (hw : SqV w (qs.map fr)) {Q : R → List Ob → Prop} (k : Q (.val (fr (dotV ps qs))) []) : Ret d_product_sum [.val v, .val w] Q := by
  obtain ⟨h1, h2, h3, h4⟩ := hT
  refine ret_mkR (by repeat constructor) ?_
  unfold b_product_sum
  walk_at "r"
  refine wp_lc natI (fun done acc ρ => acc = (List.zipWith timesV (ps.take done.length) (qs.take done.length)).map fr ∧ ∃ u, ρ = [some (.val v), some (.val w), u]) ?_
  refine wp_rng1 ?_
  walk_at "r"
  have hlen : fLen (.pv v) = some (.val (.int ps.length)) := by
    rcases hv with rfl | rfl <;> simp [fLen]
  refine unq rfl hlen ?_
  refine ⟨_, rfl, ⟨by unfold line; omega, by omega⟩, List.range ps.length, rfl, by simp [line]; omega, ⟨rfl, _, rfl⟩, ?_, ?_⟩
  · rintro done y rest acc _ e ⟨rfl, u, rfl⟩
    have hy : y = done.length ∧ y < ps.length := by
      have e1 : (List.range ps.length)[done.length]? = some y := by rw [e]; simp
      rw [List.getElem?_range] at e1
      · cases e1
        refine ⟨rfl, ?_⟩
        have := congrArg List.length e
        simp at this
        omega
      · have := congrArg List.length e
        simp at this
        omega
    obtain ⟨hy1, hy2⟩ := hy
    have hy3 : y < qs.length := by omega
    refine lcqY rfl ?_
    dsimp only [wipe, set_s, set_z, natI]
    unfold e1_product_sum
    walk_at "r"
    refine opq rfl rfl (sq_ix hv (x := fr ps[y]) (by simp [hy2])) ?_
    walk_at "r"
    refine opq rfl rfl (sq_ix hw (x := fr qs[y]) (by simp [hy3])) ?_
    walk_at "r"
    have b1 := h3 _ (List.getElem_mem hy2)
    have b2 := h4 _ (List.getElem_mem hy3)
    refine of_times (by have := b1.1; omega) (by have := b2.1; omega) (okM_bt b1 b2 (by decide)) ?_
    walk_at "r"
    refine ⟨?_, _, rfl⟩
    rw [List.length_append, List.length_singleton, ← hy1, zip_take hy2 hy3]
    simp
  rintro _ _ ⟨rfl, u, rfl⟩
  dsimp only [back, set_s, set_z, get_s, get_z]
  rw [List.length_range, List.take_of_length_le (Nat.le_refl _), List.take_of_length_le (by omega)]
  walk_at "r"
  refine of_total (zip_bt h3 h4) (by simp; omega) ?_
  walk_at "r"
  exact k

theorem dot_step {t s p q r : Int × Int} {n d : Int} (ht : 0 < t.2) (hs : 0 < s.2) (h1 : r.1 * (t.2 * s.2) = (t.1 * s.2 + s.1 * t.2) * r.2) (h2 : s.1 * (p.2 * q.2) = p.1 * q.1 * s.2) (h3 : t.1 * d = n * t.2) :
    r.1 * (d * p.2 * q.2) = (n * p.2 * q.2 + p.1 * q.1 * d) * r.2 := by
  have hne : t.2 * s.2 ≠ 0 := Int.mul_ne_zero (by omega) (by omega)
  apply Int.eq_of_mul_eq_mul_right hne
  grind
theorem red_cross {g r : Int × Int} {n d : Int} (hd : d ≠ 0) (l : g.1 * d = n * g.2) (h : r.1 * d = n * r.2) : r.1 * g.2 = g.1 * r.2 := by
  apply Int.eq_of_mul_eq_mul_right hd
  grind
theorem of_law_dot {ps qs : List (Int × Int)} {v w : PV} (hT : Two ps qs) (hv : SqV v (ps.map fr)) (hw : SqV w (qs.map fr)) {Q : R → List Ob → Prop} (k : Q (.val (fr (dotV ps qs))) []) : Ret d_law_dot [.val v, .val w] Q := by
  obtain ⟨h1, h2, h3, h4⟩ := hT
  have hz := zip_bt h3 h4
  refine ret_mkR (by repeat constructor) ?_
  unfold b_law_dot
  walk_at "r"
  have hlen : fLen (.pv v) = some (.val (.int ps.length)) := by
    rcases hv with rfl | rfl <;> simp [fLen]
  have tkz : ∀ j, ∀ x ∈ List.zipWith timesV (ps.take j) (qs.take j), Bt 700 x := fun j => zip_bt (fun p hp => h3 p (List.mem_of_mem_take hp)) fun q hq => h4 q (List.mem_of_mem_take hq)
  refine wp_mid (fun ρ => ∃ n d : Int, 0 < d ∧ (dotV ps qs).1 * d = n * (dotV ps qs).2 ∧ ρ = [some (.val v), some (.val w), some (.val (.int n)), some (.val (.int d)), none]) ?_ ?_
  · refine wp_forN (fun j ρ => ∃ n d : Int, Bt (702 * j + 1) (n, d) ∧ ((List.zipWith timesV (ps.take j) (qs.take j)).foldl plusV (0, 1)).1 * d = n * ((List.zipWith timesV (ps.take j) (qs.take j)).foldl plusV (0, 1)).2 ∧ ρ = [some (.val v), some (.val w), some (.val (.int n)), some (.val (.int d)), none]) ps.length ?_ ?_ ?_
    · walk_at "r"
      refine unq rfl hlen ?_
      exact ⟨rfl, by unfold line; omega, 0, 1, ⟨by decide, by decide, by decide⟩, rfl, rfl⟩
    · rintro j _ hj ⟨n, d, ⟨b1, b2, b3⟩, hx, rfl⟩
      have hj2 : j < qs.length := by omega
      have p1 := h3 _ (List.getElem_mem hj)
      have p2 := h4 _ (List.getElem_mem hj2)
      have t0 := sum_bt (tkz j)
      have s0 := bt_times p1 p2
      have ez := zip_take hj hj2
      have hxP : ∀ {m : Nat}, fIx (.pv v) (.pv (.int (j : Int))) = some (.val (fr ps[j])) := fun {_} => sq_ix hv (by simp [hj])
      have hxQ : ∀ {m : Nat}, fIx (.pv w) (.pv (.int (j : Int))) = some (.val (fr qs[j])) := fun {_} => sq_ix hw (by simp [hj2])
      generalize (List.zipWith timesV (ps.take j) (qs.take j)) = zs at *
      have ef : (List.zipWith timesV (ps.take (j + 1)) (qs.take (j + 1))).foldl plusV (0, 1) = plusV (zs.foldl plusV (0, 1)) (timesV ps[j] qs[j]) := by rw [ez]; simp
      rw [ef]
      generalize zs.foldl plusV (0, 1) = t at *
      generalize ps[j] = p at *
      generalize qs[j] = q at *
      unfold l1_law_dot
      have m1 := lt_mul b2 p1.2.2
      have m2 := lt_mul m1 p2.2.2
      have m3 := lt_mul p1.2.1 p2.2.1
      have m4 := lt_mul m3 b3
      have m5 := lt_mul b3 p1.2.2
      have m6 := lt_mul m5 p2.2.2
      simp only at m1 m2 m3 m4 m5 m6 b1
      walk_at "r"
      refine opq rfl rfl (hxP (m := 0)) ?_
      walk_at "r"
      refine opq rfl rfl (ev_mul (mulOk_of _ _ b2 p1.2.2 (by omega))) ?_
      walk_at "r"
      refine opq rfl rfl (hxQ (m := 0)) ?_
      walk_at "r"
      refine opq rfl rfl (ev_mul (mulOk_of _ _ m1 p2.2.2 (by omega))) ?_
      walk_at "r"
      refine opq rfl rfl (hxP (m := 0)) ?_
      walk_at "r"
      refine opq rfl rfl (hxQ (m := 0)) ?_
      walk_at "r"
      refine opq rfl rfl (ev_mul (mulOk_of _ _ p1.2.1 p2.2.1 (by omega))) ?_
      walk_at "r"
      refine opq rfl rfl (ev_mul (mulOk_of _ _ m3 b3 (by omega))) ?_
      walk_at "r"
      refine opq rfl rfl (hxP (m := 0)) ?_
      walk_at "r"
      refine opq rfl rfl (ev_mul (mulOk_of _ _ b3 p1.2.2 (by omega))) ?_
      walk_at "r"
      refine opq rfl rfl (hxQ (m := 0)) ?_
      walk_at "r"
      refine opq rfl rfl (ev_mul (mulOk_of _ _ m5 p2.2.2 (by omega))) ?_
      have hd' : 0 < d * p.2 * q.2 := Int.mul_pos (Int.mul_pos b1 p1.1) p2.1
      have hn' : Bt (702 * (j + 1) + 1) (n * p.2 * q.2 + p.1 * q.1 * d, d * p.2 * q.2) := by
        have a1 : (p.1 * q.1 * d).natAbs < 2 ^ (702 * j + 1 + 350 + 350) := Nat.lt_of_lt_of_eq m4 (by congr 1; omega)
        have a2 := lt_add m2 a1
        exact ⟨hd', Nat.lt_of_lt_of_le a2 (Nat.pow_le_pow_right (by decide) (by omega)), Nat.lt_of_lt_of_le m6 (Nat.pow_le_pow_right (by decide) (by omega))⟩
      have hs1 : (timesV p q).1 * (p.2 * q.2) = p.1 * q.1 * (timesV p q).2 := rat_cross (Int.mul_ne_zero (by have := p1.1; omega) (by have := p2.1; omega))
      have hr1 : (plusV t (timesV p q)).1 * (t.2 * (timesV p q).2) = (t.1 * (timesV p q).2 + (timesV p q).1 * t.2) * (plusV t (timesV p q)).2 := rat_cross (Int.mul_ne_zero (by have := t0.1; omega) (by have := s0.1; omega))
      have hcr := dot_step t0.1 s0.1 hr1 hs1 hx
      generalize plusV t (timesV p q) = r at *
      generalize n * p.2 * q.2 + p.1 * q.1 * d = n' at *
      generalize d * p.2 * q.2 = d' at *
      walk_at "ri"
      refine branchD (fun h => ?_) fun h => ?_
      · walk_at "r"
        refine of_ratio (by omega) ?_
        walk_at "r"
        show PutQ _ (.val (.tuple [.int (rat n' d').1, .int (rat n' d').2])) _ _
        have l := rat_le (n := n') (d := d') (by omega)
        have l2 := (low_rat (n := n') (d := d') (by omega)).1
        have l3 := rat_cross (n := n') (d := d') (by omega)
        walk_at "r"
        refine ⟨(rat n' d').1, (rat n' d').2, ⟨l2, Nat.lt_of_le_of_lt l.1 hn'.2.1, Nat.lt_of_le_of_lt l.2 hn'.2.2⟩, ?_, rfl⟩
        exact red_cross (by omega) l3 hcr
      · walk_at "r"
        exact ⟨n', d', hn', hcr, rfl⟩
    · rintro _ ⟨n, d, ⟨b1, _, _⟩, hx, rfl⟩
      rw [List.take_of_length_le (Nat.le_refl _), List.take_of_length_le (by omega)] at hx
      exact ⟨rfl, n, d, b1, hx, rfl⟩
  rintro _ ⟨n, d, hd, hx, rfl⟩
  walk_at "r"
  refine of_ratio (by omega) ?_
  have hlow : Low (dotV ps qs) := by
    unfold dotV
    rcases List.eq_nil_or_concat (List.zipWith timesV ps qs) with e | ⟨L, b, e⟩
    · rw [e]; exact ⟨by decide, by decide⟩
    · rw [e, List.concat_eq_append, List.foldl_append]
      have hb : 0 < b.2 := (hz b (by rw [e]; simp)).1
      have hL := (sum_bt (xs := L) fun x hx => hz x (by rw [e]; simp [hx])).1
      exact low_plus hL hb
  rw [low_of hlow (by omega) hx]
  walk_at "r"
  exact k
end Py
namespace Py
open PySem D
local macro_rules
  | `(tactic| walk_at "w") => `(tactic| with_reducible first
    | refine seq_nx ?_ | refine seq_rt ?_ | refine seq_bk ?_ | refine seq_ct ?_ | refine wp_seq ?_ | refine wp_asg ?_ | refine wp_next ?_ | refine wp_ret ?_ | refine wp_retN ?_ | refine wp_brk ?_ | refine wp_cont ?_ | refine wp_expr ?_ | refine wp_op ?_ | refine wp_un ?_ | refine wp_c ?_
    | refine unB ?_ | refine wp_truB ?_ | refine wp_and ?_ | refine wp_or ?_ | refine wp_not ?_ | refine wp_ifE ?_ | refine wp_tup ?_ | refine wp_lst ?_ | refine wp_lcons ?_ | refine wp_lnil ?_ | refine frzV ?_ | refine frzN ?_ | refine wp_frz ?_ | refine wp_sl ?_ | refine wp_onone ?_ | refine wp_osome ?_
    | refine wp_anil ?_ | refine wp_av ?_ | refine wp_andV ?_ | refine wp_orV ?_ | refine wp_notV ?_ | refine wp_fgtR ?_ | refine turn_nx ?_ | refine turn_rt ?_ | refine turn_bk ?_ | refine turn_ct ?_ | refine fgt_rt ?_ | refine wp_par ?_ | refine wp_chain ?_ | refine wp_seqI ?_)
local macro_rules
  | `(tactic| walk_at "put") => `(tactic| focus ((repeat apply PutR.s); first | exact PutR.z rfl | exact PutR.z (by assumption)))
local macro_rules
  | `(tactic| walk_at "set") => `(tactic| focus ((repeat apply SetR.s); first | exact SetR.o | exact SetR.r))
local macro_rules
  | `(tactic| walk_at "fgt") => `(tactic| focus (repeat first | exact FgtsR.nil | exact FgtR.k | exact FgtR.z rfl | apply FgtR.s | apply FgtsR.cons))
local macro_rules
  | `(tactic| walk_at "x") => `(tactic| first
    | ((with_reducible apply wp_varV); (focus exact rfl)) | ((with_reducible apply wp_varO); (focus exact rfl)) | ((with_reducible apply wp_varR); (focus exact rfl))
    | ((with_reducible apply opq); (focus exact rfl); (focus exact rfl); (focus (first | exact ev_eqI | exact ev_neI | exact ev_ltI | exact ev_leI | exact ev_gtI | exact ev_geI | exact ev_strT | exact ev_strF n1 | exact ev_strF n2 | exact ev_strF n3 | exact ev_strF n4 | exact ev_strF n5 | exact ev_strF n6 | exact rfl)))
    | ((with_reducible apply unq); (focus exact rfl); (focus exact rfl))
    | ((with_reducible first | apply putqV | apply putqN); walk_at "put")
    | ((with_reducible apply putq2); walk_at "put"; walk_at "put")
    | ((with_reducible apply parq); walk_at "put"; walk_at "put")
    | ((with_reducible apply wp_callR); (focus (repeat first | exact RefsR.nil | apply RefsR.v | apply RefsR.r)); (focus decide))
    | ((with_reducible apply wp_ar); (focus exact rfl))
    | ((with_reducible apply fin_rt); (focus exact rfl); (focus exact rfl))
    | ((with_reducible apply fin_nx); (focus exact rfl))
    | ((with_reducible apply wp_appendR); (focus exact rfl))
    | (with_reducible refine ⟨_, rfl, ?_⟩) | (with_reducible refine ⟨_, .inl rfl, ?_⟩) | (with_reducible refine ⟨_, .inr (.inl rfl), ?_⟩) | (with_reducible refine ⟨_, .inr (.inr rfl), ?_⟩)
    | (with_reducible apply callq0) | ((with_reducible apply frzB); (focus exact rfl); (focus exact rfl); walk_at "put")
    | ((with_reducible apply callq1); walk_at "set")
    | ((with_reducible apply callq2); walk_at "set"; walk_at "set")
    | ((with_reducible first | apply fgt_nx | apply fgt_bk | apply fgt_ct); walk_at "fgt")
    | ((with_reducible apply brT); (focus exact rfl)) | ((with_reducible apply brF); (focus exact rfl)))
local macro_rules
  | `(tactic| walk_at "r") => `(tactic| repeat first | walk_at "w" | walk_at "x")
local macro_rules
  | `(tactic| walk_at "ri") => `(tactic| repeat first | walk_at "w" | walk_at "x" | (with_reducible refine wp_if ?_))
local macro_rules
  | `(tactic| walk_at "app") => `(tactic| ((with_reducible apply appq); (focus exact rfl); (focus ((try simp only [List.length_map, List.length_nil, List.length_cons, List.length_append]); unfold line; omega)); walk_at "set"))
local macro_rules
  | `(tactic| walk_at "mul") => `(tactic| ((refine opq rfl rfl (ev_mul ?_) ?_); (focus (apply mulT <;> omega))))
local macro_rules
  | `(tactic| walk_at "rm") => `(tactic| repeat first | walk_at "w" | walk_at "x" | walk_at "mul")
local macro_rules
  | `(tactic| walk_at "len") => `(tactic| (refine And.intro ?_ ?_; (focus (simp [line]; done))))
local macro_rules
  | `(tactic| walk_at "rl") => `(tactic| repeat first | walk_at "w" | walk_at "x" | walk_at "len")
local macro_rules
  | `(tactic| walk_at "ril") => `(tactic| repeat first | walk_at "w" | walk_at "x" | walk_at "len" | (with_reducible refine wp_if ?_))

/-! tables -/
def tupF (row : List (Int × Int)) : PV := .tuple (row.map fr)
/-- a table's bets: each of n fractions -/
def Tbl (n : Nat) (bets : List (List (Int × Int))) : Prop := bets.length ≤ 100 ∧ n ≤ 100 ∧ ∀ b ∈ bets, b.length = n ∧ ∀ p ∈ b, Bt 350 p
def tblV (n : Nat) (bets : List (List (Int × Int))) : PV := .tuple [.int n, .tuple (bets.map tupF)]
def Row (m : Nat) (row : List (Int × Int)) : Prop := row.length = m ∧ ∀ p ∈ row, Bt 350 p
def col (bets : List (List (Int × Int))) (k : Nat) : List (Int × Int) := bets.map fun b => b.getD k (0, 1)
def gainsV (n : Nat) (bets : List (List (Int × Int))) (st : List (Int × Int)) : List (Int × Int) := (List.range n).map fun k => dotV st (col bets k)
def worthsV (bets : List (List (Int × Int))) (ch : List (Int × Int)) : List (Int × Int) := bets.map fun b => dotV ch b
theorem col_ok {n : Nat} {bets : List (List (Int × Int))} (h : Tbl n bets) {k : Nat} (hk : k < n) : Row bets.length (col bets k) := by
  refine ⟨by simp [col], fun p hp => ?_⟩
  obtain ⟨b, hb, rfl⟩ := List.mem_map.mp hp
  obtain ⟨h1, h2⟩ := h.2.2 b hb
  have : k < b.length := by omega
  rw [List.getD_eq_getElem?_getD, List.getElem?_eq_getElem this]
  exact h2 _ (List.getElem_mem this)
theorem range_at {n : Nat} {done rest : List Nat} {y : Nat} (e : List.range n = done ++ y :: rest) : y < n := by
  have : y ∈ List.range n := by rw [e]; simp
  exact List.mem_range.mp this
section
variable {n : Nat} {bets : List (List (Int × Int))} {st ch : List (Int × Int)} {Q : R → List Ob → Prop}
theorem two_col (h : Tbl n bets) (hs : Row bets.length st) {k : Nat} (hk : k < n) : Two st (col bets k) := by
  obtain ⟨c1, c2⟩ := col_ok h hk
  exact ⟨by rw [hs.1, c1], by rw [hs.1]; exact h.1, hs.2, c2⟩
theorem of_gains (h : Tbl n bets) (hs : Row bets.length st) (k : Q (.val (tupF (gainsV n bets st))) []) : Ret d_gains [.val (tblV n bets), .val (tupF st)] Q := by
  obtain ⟨t1, t2, t3⟩ := h
  refine ret_mkR (by repeat constructor) ?_
  unfold b_gains tblV
  walk_at "r"
  refine wp_lc natI (fun done acc ρ => acc = (done.map fun k => dotV st (col bets k)).map fr ∧ ∃ u u2, ρ = [some (.val (.tuple [.int n, .tuple (bets.map tupF)])), some (.val (tupF st)), some (.val (.int n)), some (.val (.tuple (bets.map tupF))), u, u2]) ?_
  refine wp_rng1 ?_
  walk_at "r"
  refine ⟨⟨by unfold line; omega, by omega⟩, List.range n, rfl, by simp [line]; omega, ⟨rfl, _, _, rfl⟩, ?_, ?_⟩
  · rintro done y rest acc _ e ⟨rfl, u, u2, rfl⟩
    have hy := range_at e
    refine lcqY rfl ?_
    dsimp only [wipe, set_s, set_z, natI]
    unfold e2_gains
    walk_at "r"
    refine wp_lc tupF (fun done acc ρ => acc = (done.map fun b => b.getD y (0, 1)).map fr ∧ ∃ u, ρ = [some (.val (.tuple [.int n, .tuple (bets.map tupF)])), some (.val (tupF st)), some (.val (.int n)), some (.val (.tuple (bets.map tupF))), some (.val (.int y)), u]) ?_
    walk_at "r"
    refine ⟨by unfold line; omega, ⟨rfl, _, rfl⟩, ?_, ?_⟩
    · rintro done2 b rest2 acc2 _ e2 ⟨rfl, u3, rfl⟩
      obtain ⟨b1, b2⟩ := t3 b (by rw [e2]; simp)
      have hyb : y < b.length := by omega
      refine lcqY rfl ?_
      dsimp only [wipe, set_s, set_z]
      unfold e1_gains
      walk_at "r"
      refine opq rfl rfl (sq_ix (xs := b.map fr) (.inr rfl) (x := fr b[y]) (by simp [hyb])) ?_
      walk_at "r"
      exact ⟨by simp [hyb], _, rfl⟩
    rintro _ _ ⟨rfl, u3, rfl⟩
    dsimp only [back, set_s, set_z, get_s, get_z]
    walk_at "r"
    refine of_product_sum (ps := st) (qs := col bets y) (two_col ⟨t1, t2, t3⟩ hs hy) (.inr rfl) (.inl rfl) ?_
    walk_at "r"
    exact ⟨by simp, _, _, rfl⟩
  rintro _ _ ⟨rfl, u, u2, rfl⟩
  dsimp only [back, set_s, set_z, get_s, get_z]
  walk_at "r"
  exact k
theorem of_law_gained (h : Tbl n bets) (hs : Row bets.length st) (k : Q (.val (tupF (gainsV n bets st))) []) : Ret d_law_gained [.val (.int n), .val (.tuple (bets.map tupF)), .val (tupF st)] Q := by
  obtain ⟨t1, t2, t3⟩ := h
  refine ret_mkR (by repeat constructor) ?_
  unfold b_law_gained
  walk_at "r"
  refine wp_lc natI (fun done acc ρ => acc = (done.map fun k => dotV st (col bets k)).map fr ∧ ∃ u u2, ρ = [some (.val (.int n)), some (.val (.tuple (bets.map tupF))), some (.val (tupF st)), u, u2]) ?_
  refine wp_rng1 ?_
  walk_at "r"
  refine ⟨⟨by unfold line; omega, by omega⟩, List.range n, rfl, by simp [line]; omega, ⟨rfl, _, _, rfl⟩, ?_, ?_⟩
  · rintro done y rest acc _ e ⟨rfl, u, u2, rfl⟩
    have hy := range_at e
    refine lcqY rfl ?_
    dsimp only [wipe, set_s, set_z, natI]
    unfold e2_law_gained
    walk_at "r"
    refine wp_lc tupF (fun done acc ρ => acc = (done.map fun b => b.getD y (0, 1)).map fr ∧ ∃ u, ρ = [some (.val (.int n)), some (.val (.tuple (bets.map tupF))), some (.val (tupF st)), some (.val (.int y)), u]) ?_
    walk_at "r"
    refine ⟨by unfold line; omega, ⟨rfl, _, rfl⟩, ?_, ?_⟩
    · rintro done2 b rest2 acc2 _ e2 ⟨rfl, u3, rfl⟩
      obtain ⟨b1, b2⟩ := t3 b (by rw [e2]; simp)
      have hyb : y < b.length := by omega
      refine lcqY rfl ?_
      dsimp only [wipe, set_s, set_z]
      unfold e1_law_gained
      walk_at "r"
      refine opq rfl rfl (sq_ix (xs := b.map fr) (.inr rfl) (x := fr b[y]) (by simp [hyb])) ?_
      walk_at "r"
      exact ⟨by simp [hyb], _, rfl⟩
    rintro _ _ ⟨rfl, u3, rfl⟩
    dsimp only [back, set_s, set_z, get_s, get_z]
    walk_at "r"
    refine of_law_dot (ps := st) (qs := col bets y) (two_col ⟨t1, t2, t3⟩ hs hy) (.inr rfl) (.inl rfl) ?_
    walk_at "r"
    exact ⟨by simp, _, _, rfl⟩
  rintro _ _ ⟨rfl, u, u2, rfl⟩
  dsimp only [back, set_s, set_z, get_s, get_z]
  walk_at "r"
  exact k
theorem two_bet (h : Tbl n bets) (hc : Row n ch) {b : List (Int × Int)} (hb : b ∈ bets) : Two ch b := by
  obtain ⟨b1, b2⟩ := h.2.2 b hb
  exact ⟨by rw [hc.1, b1], by rw [hc.1]; exact h.2.1, hc.2, b2⟩
theorem of_worths (h : Tbl n bets) (hc : Row n ch) (k : Q (.val (tupF (worthsV bets ch))) []) : Ret d_worths [.val (tblV n bets), .val (tupF ch)] Q := by
  have h' := h
  obtain ⟨t1, t2, t3⟩ := h'
  refine ret_mkR (by repeat constructor) ?_
  unfold b_worths tblV
  walk_at "r"
  refine wp_lc tupF (fun done acc ρ => acc = (done.map fun b => dotV ch b).map fr ∧ ∃ u, ρ = [some (.val (.tuple [.int n, .tuple (bets.map tupF)])), some (.val (tupF ch)), u]) ?_
  walk_at "r"
  refine ⟨by unfold line; omega, ⟨rfl, _, rfl⟩, ?_, ?_⟩
  · rintro done b rest acc _ e ⟨rfl, u, rfl⟩
    refine lcqY rfl ?_
    dsimp only [wipe, set_s, set_z]
    unfold e1_worths
    walk_at "r"
    refine of_product_sum (ps := ch) (qs := b) (two_bet h hc (by rw [e]; simp)) (.inr rfl) (.inr rfl) ?_
    walk_at "r"
    exact ⟨by simp, _, rfl⟩
  rintro _ _ ⟨rfl, u, rfl⟩
  dsimp only [back, set_s, set_z, get_s, get_z]
  walk_at "r"
  exact k
theorem plain_tupF {row : List (Int × Int)} {m : Nat} (h : row.length ≤ 1000) : Plain (m + 3) (tupF row) := by
  refine .tuple (by unfold line; simp; omega) fun x hx => ?_
  obtain ⟨p, _, rfl⟩ := List.mem_map.mp hx
  exact plain_fr
theorem of_right05 (h : Tbl n bets) (hs : Row bets.length st) (hc : Row n ch) (k : Q (.val (.bool true)) []) : Ret d_law_right_2 [.val (tblV n bets), .val (tupF st), .val (tupF ch)] Q := by
  have h' := h
  obtain ⟨t1, t2, t3⟩ := h'
  refine ret_mkR (by repeat constructor) ?_
  unfold b_law_right_2
  walk_at "ri"
  refine of_gains h hs ?_
  walk_at "ri"
  refine of_law_gained h hs ?_
  walk_at "ri"
  refine of_same (plain_tupF (by simp [gainsV]; omega)) ?_
  walk_at "ri"
  refine of_worths h hc ?_
  walk_at "ri"
  refine wp_lc tupF (fun done acc ρ => acc = (done.map fun b => dotV ch b).map fr ∧ ∃ u, ρ = [some (.val (tblV n bets)), some (.val (tupF st)), some (.val (tupF ch)), u]) ?_
  walk_at "ri"
  refine ⟨by unfold line; omega, ⟨rfl, _, rfl⟩, ?_, ?_⟩
  · rintro done b rest acc _ e ⟨rfl, u, rfl⟩
    refine lcqY rfl ?_
    dsimp only [wipe, set_s, set_z]
    unfold e1_law_right_2
    walk_at "ri"
    refine of_law_dot (ps := ch) (qs := b) (two_bet h hc (by rw [e]; simp)) (.inr rfl) (.inr rfl) ?_
    walk_at "ri"
    exact ⟨by simp, _, rfl⟩
  rintro _ _ ⟨rfl, u, rfl⟩
  dsimp only [back, set_s, set_z, get_s, get_z]
  walk_at "ri"
  refine of_same (v := tupF (worthsV bets ch)) (plain_tupF (by simp [worthsV]; omega)) ?_
  walk_at "ri"
  exact k
end
theorem bt_gd {p : Int × Int} (h : 0 < p.2) (g : Gd (10 ^ 40) p) : Bt 350 p := ⟨h, Nat.lt_of_le_of_lt g.2.1 (by decide), Nat.lt_of_le_of_lt g.2.2 (by decide)⟩
theorem of_drawn_table {ns ds : List Int} {n m : Nat} (hn : n ≤ 100) (hm : m ≤ 100) {Q : R → List Ob → Prop} (k : ∀ bets ds', bets.length = m → Tbl n bets → Q (.val (.tuple (bets.map tupF))) [intsO ds']) :
    Ret d_law_drawn_table [.val (.list (ns.map PyData.int)), .ref (intsO ds), .val (.int n), .val (.int m)] Q := by
  refine ret_mkR (by repeat constructor) ?_
  unfold b_law_drawn_table
  walk_at "r"
  refine wp_lc natI (fun done acc ρ => ∃ (bs : List (List (Int × Int))) (ds : List Int) (u u2 : Option Sl), acc = bs.map tupF ∧ bs.length = done.length ∧ (∀ b ∈ bs, b.length = n ∧ ∀ p ∈ b, Bt 350 p) ∧ ρ = [some (.val (.list (ns.map PyData.int))), some (.ref (intsO ds)), some (.val (.int n)), some (.val (.int m)), u, u2]) ?_
  refine wp_rng1 ?_
  walk_at "r"
  refine ⟨⟨by unfold line; omega, by omega⟩, List.range m, rfl, by simp [line]; omega, ⟨[], ds, _, _, rfl, rfl, by simp, rfl⟩, ?_, ?_⟩
  · rintro done y rest acc _ e ⟨bs, ds, u, u2, rfl, q1, q2, rfl⟩
    refine lcqY rfl ?_
    dsimp only [wipe, set_s, set_z, natI]
    unfold e2_law_drawn_table
    walk_at "r"
    refine wp_lc natI (fun done acc ρ => ∃ (ps : List (Int × Int)) (ds : List Int) (u : Option Sl), acc = ps.map fr ∧ ps.length = done.length ∧ (∀ p ∈ ps, Bt 350 p) ∧ ρ = [some (.val (.list (ns.map PyData.int))), some (.ref (intsO ds)), some (.val (.int n)), some (.val (.int m)), some (.val (.int y)), u]) ?_
    refine wp_rng1 ?_
    walk_at "r"
    refine ⟨⟨by unfold line; omega, by omega⟩, List.range n, rfl, by simp [line]; omega, ⟨[], ds, _, rfl, rfl, by simp, rfl⟩, ?_, ?_⟩
    · rintro done2 y2 rest2 acc2 _ e2 ⟨ps, ds, u3, rfl, r1, r2, rfl⟩
      refine lcqY rfl ?_
      dsimp only [wipe, set_s, set_z, natI]
      unfold e1_law_drawn_table
      walk_at "r"
      refine of_drawn fun p ds hp1 hp2 => ?_
      walk_at "r"
      refine ⟨ps ++ [p], ds, _, by simp, by simp [r1], ?_, rfl⟩
      intro q hq
      rcases List.mem_append.mp hq with hq | hq
      · exact r2 q hq
      · rw [List.mem_singleton.mp hq]; exact bt_gd hp1 hp2
    rintro _ _ ⟨ps, ds, u3, rfl, r1, r2, rfl⟩
    rw [List.length_range] at r1
    dsimp only [back, set_s, set_z, get_s, get_z]
    walk_at "r"
    refine ⟨bs ++ [ps], ds, _, _, by simp [tupF], by simp [q1], ?_, rfl⟩
    intro q hq
    rcases List.mem_append.mp hq with hq | hq
    · exact q2 q hq
    · rw [List.mem_singleton.mp hq]; exact ⟨r1, r2⟩
  rintro _ _ ⟨bs, ds, u, u2, rfl, q1, q2, rfl⟩
  rw [List.length_range] at q1
  dsimp only [back, set_s, set_z, get_s, get_z]
  walk_at "r"
  exact k bs ds q1 ⟨by omega, hn, q2⟩
theorem of_drawn_stakes {ns ds : List Int} {m : Nat} (hm : m ≤ 100) {Q : R → List Ob → Prop} (k : ∀ st ds', Row m st → Q (.val (tupF st)) [intsO ds']) :
    Ret d_law_drawn_stakes [.val (.list (ns.map PyData.int)), .ref (intsO ds), .val (.int m)] Q := by
  refine ret_mkR (by repeat constructor) ?_
  unfold b_law_drawn_stakes
  walk_at "rl"
  refine wp_forN (fun k ρ => ∃ (st : List (Int × Int)) (ds : List Int), Row k st ∧ ρ = [some (.val (.list (ns.map PyData.int))), some (.ref (intsO ds)), some (.val (.int m)), some (.own (.lst (st.map fr))), none, none]) m ?_ ?_ ?_
  · walk_at "r"
    exact ⟨rfl, by unfold line; omega, [], ds, ⟨rfl, by simp⟩, rfl⟩
  · rintro j _ hj ⟨st, ds, ⟨r1, r2⟩, rfl⟩
    unfold l1_law_drawn_stakes
    walk_at "r"
    refine of_drawn fun p ds hp1 hp2 => ?_
    walk_at "rl"
    walk_at "app"
    walk_at "r"
    have hb := bt_gd hp1 hp2
    refine ⟨st ++ [((p.1.natAbs : Int), p.2)], ds, ⟨by simp [r1], ?_⟩, by simp [fr]⟩
    intro q hq
    rcases List.mem_append.mp hq with hq | hq
    · exact r2 q hq
    · rw [List.mem_singleton.mp hq]; exact ⟨hb.1, by show ((p.1.natAbs : Int)).natAbs < _; rw [Int.natAbs_natCast]; exact hb.2.1, hb.2.2⟩
  · rintro _ ⟨st, ds, hr, rfl⟩
    walk_at "r"
    exact k st ds hr
end Py
/-! QR: fractions as rational numbers. -/
namespace Py
open PySem D
def qv (p : Int × Int) : Rat := (p.1 : Rat) / (p.2 : Rat)
theorem ic_ne {a : Int} (h : a ≠ 0) : (a : Rat) ≠ 0 := fun z => h (Rat.intCast_eq_zero_iff.mp z)
theorem ic_pos {a : Int} (h : 0 < a) : (0 : Rat) < a := Rat.intCast_pos.mpr h
theorem qv_of {p : Int × Int} {n d : Int} (hp : p.2 ≠ 0) (hd : d ≠ 0) : qv p = (n : Rat) / d ↔ p.1 * d = n * p.2 := by
  have h1 := ic_ne hp
  have h2 := ic_ne hd
  unfold qv
  constructor
  · intro h
    have h3 : (p.1 : Rat) * d = n * p.2 := by grind
    have h4 : ((p.1 * d : Int) : Rat) = ((n * p.2 : Int) : Rat) := by rw [Rat.intCast_mul, Rat.intCast_mul, h3]
    exact Rat.intCast_inj.mp h4
  · intro h
    have h4 : ((p.1 * d : Int) : Rat) = ((n * p.2 : Int) : Rat) := by rw [h]
    rw [Rat.intCast_mul, Rat.intCast_mul] at h4
    grind
theorem Low.ne {p : Int × Int} (h : Low p) : p.2 ≠ 0 := by have := h.1; omega
theorem rat_ne {n d : Int} (hd : d ≠ 0) : (rat n d).2 ≠ 0 := (low_rat hd).ne
theorem qv_rat {n d : Int} (hd : d ≠ 0) : qv (rat n d) = (n : Rat) / d := (qv_of (rat_ne hd) hd).mpr (rat_cross hd)
theorem qv_plus {p q : Int × Int} (hp : p.2 ≠ 0) (hq : q.2 ≠ 0) : qv (plusV p q) = qv p + qv q := by
  unfold plusV
  rw [qv_rat (Int.mul_ne_zero hp hq)]
  have h1 := ic_ne hp
  have h2 := ic_ne hq
  unfold qv
  rw [Rat.intCast_add, Rat.intCast_mul, Rat.intCast_mul, Rat.intCast_mul]
  grind
theorem qv_minus {p q : Int × Int} (hp : p.2 ≠ 0) (hq : q.2 ≠ 0) : qv (minusV p q) = qv p - qv q := by
  unfold minusV
  rw [qv_rat (Int.mul_ne_zero hp hq)]
  have h1 := ic_ne hp
  have h2 := ic_ne hq
  unfold qv
  rw [Rat.intCast_sub, Rat.intCast_mul, Rat.intCast_mul, Rat.intCast_mul]
  grind
theorem qv_times {p q : Int × Int} (hp : p.2 ≠ 0) (hq : q.2 ≠ 0) : qv (timesV p q) = qv p * qv q := by
  unfold timesV
  rw [qv_rat (Int.mul_ne_zero hp hq)]
  have h1 := ic_ne hp
  have h2 := ic_ne hq
  unfold qv
  rw [Rat.intCast_mul, Rat.intCast_mul]
  grind
theorem low_minus {p q : Int × Int} (hp : 0 < p.2) (hq : 0 < q.2) : Low (minusV p q) := low_rat (Int.mul_ne_zero (by omega) (by omega))
theorem div_lt {a b c d : Int} (hb : 0 < b) (hd : 0 < d) : ((a : Rat) / b < (c : Rat) / d) ↔ a * d < c * b := by
  have h1 := ic_pos hb
  have h2 := ic_pos hd
  have e : ((a * d : Int) : Rat) < ((c * b : Int) : Rat) ↔ a * d < c * b := Rat.intCast_lt_intCast
  rw [← e, Rat.intCast_mul, Rat.intCast_mul, Rat.div_lt_iff h1]
  have : (c : Rat) / d * b = (c * b) / d := by grind
  rw [this, Rat.lt_div_iff h2]
theorem less_qv {p q : Int × Int} (hp : 0 < p.2) (hq : 0 < q.2) : lessV p q = decide (qv p < qv q) := by
  unfold lessV qv
  by_cases h : p.1 * q.2 < q.1 * p.2
  · rw [decide_eq_true h, decide_eq_true ((div_lt hp hq).mpr h)]
  · rw [decide_eq_false h, decide_eq_false (fun z => h ((div_lt hp hq).mp z))]
theorem low_qv {p q : Int × Int} (hp : Low p) (hq : Low q) (h : qv p = qv q) : p = q :=
  low_eq hp hq ((qv_of hp.ne hq.ne).mp h)
theorem low_rat_qv {p : Int × Int} {n d : Int} (hp : Low p) (hd : d ≠ 0) (h : qv p = (n : Rat) / d) : rat n d = p := low_of hp hd ((qv_of hp.ne hd).mp h)
theorem low_bd {p : Int × Int} {n d : Int} (hp : Low p) (hd : d ≠ 0) (h : qv p = (n : Rat) / d) : p.1.natAbs ≤ n.natAbs ∧ p.2.natAbs ≤ d.natAbs := by
  rw [← low_rat_qv hp hd h]
  exact rat_le hd
theorem qv_int {a : Int} : qv (a, 1) = a := by unfold qv; grind
end Py
/-! QI: how the further meanings are reckoned. -/
namespace Py
open PySem
theorem eqv_int {a b : Int} : PyData.eqv (.int a) (.int b) = decide (a = b) := by simp only [PyData.eqv]; rfl
theorem inD_ints {x : Int} {xs : List Int} : inD (.int x) (xs.map PyData.int) = decide (x ∈ xs) := by
  unfold inD
  induction xs with
  | nil => rfl
  | cons a xs ih =>
    rw [List.map_cons, List.any_cons, ih, eqv_int]
    by_cases h : a = x
    · subst h; simp
    · have h' : ¬ x = a := fun z => h z.symm
      simp [h, h']
theorem flat_ints {xs : List Int} : (xs.map PyData.int).all flatD = true := by
  induction xs with
  | nil => rfl
  | cons a xs ih => rw [List.map_cons, List.all_cons, ih]; rfl
theorem ev_inI {neg : Bool} {x : Int} {c : Ct} {xs : List Int} (h : c.seq? = some (xs.map PyData.int)) : fIn neg (.pv (.int x)) c = some (.val (.bool (neg ^^ decide (x ∈ xs)))) := by
  unfold fIn
  simp only [h, Option.bind_some]
  rw [if_pos ⟨rfl, flat_ints⟩, inD_ints]
theorem ev_in2 {x a b : Int} : fIn false (.pv (.int x)) (.pv (.tuple [.int a, .int b])) = some (.val (.bool (decide (x = a ∨ x = b)))) := by
  rw [ev_inI (xs := [a, b]) rfl]
  simp
theorem ev_in2n {x a b : Int} : fIn true (.pv (.int x)) (.pv (.tuple [.int a, .int b])) = some (.val (.bool (!decide (x = a ∨ x = b)))) := by
  rw [ev_inI (xs := [a, b]) rfl]
  simp
theorem ev_in4n {x a b c d : Int} : fIn true (.pv (.int x)) (.ob (.lst [.int a, .int b, .int c, .int d])) = some (.val (.bool (!decide (x = a ∨ x = b ∨ x = c ∨ x = d)))) := by
  rw [ev_inI (xs := [a, b, c, d]) rfl]
  simp
theorem ev_inF {x : Int} {c : Ct} {xs : List Int} (h : c.seq? = some (xs.map PyData.int)) : fIn false (.pv (.int x)) c = some (.val (.bool (decide (x ∈ xs)))) := by rw [ev_inI h, Bool.false_xor]
theorem ev_inT {x : Int} {c : Ct} {xs : List Int} (h : c.seq? = some (xs.map PyData.int)) : fIn true (.pv (.int x)) c = some (.val (.bool (!decide (x ∈ xs)))) := by rw [ev_inI h, Bool.true_xor]
theorem ev_isT {a : Bool} : fIsB false (.pv (.bool a)) (.pv (.bool true)) = some (.val (.bool a)) := by cases a <;> rfl
theorem ev_isF {a : Bool} : fIsB false (.pv (.bool a)) (.pv (.bool false)) = some (.val (.bool (!a))) := by cases a <;> rfl
theorem ev_isnT {a : Bool} : fIsB true (.pv (.bool a)) (.pv (.bool true)) = some (.val (.bool (!a))) := by cases a <;> rfl
theorem ev_isnF {a : Bool} : fIsB true (.pv (.bool a)) (.pv (.bool false)) = some (.val (.bool a)) := by cases a <;> rfl
theorem branchB {b : Bool} {A B : Prop} (h1 : b = true → A) (h2 : b = false → B) : (b = true → A) ∧ (b = false → B) := ⟨h1, h2⟩
theorem atI_last {xs : List PV} {x : PV} : atI (xs ++ [x]) (-1) = some x := by
  unfold atI ixN
  rw [if_neg (by decide), List.length_append, List.length_singleton, if_pos (by omega), show (-1 + ((xs.length + 1 : Nat) : Int)).toNat = xs.length by omega]
  simp
def tupI (xs : List Int) : PV := .tuple (xs.map PyData.int)
theorem plain_tupI {xs : List Int} {n : Nat} (h : xs.length ≤ line) : Plain (n + 2) (tupI xs) := .tuple (by simpa using h) fun x hx => by
  obtain ⟨i, _, rfl⟩ := List.mem_map.mp hx
  exact .int
theorem ev_addT {xs ys : List PV} (h : xs.length + ys.length ≤ line) : fAdd (.pv (.tuple xs)) (.pv (.tuple ys)) = some (.val (.tuple (xs ++ ys))) := if_pos h
theorem ev_addL {xs ys : List PV} (h : xs.length + ys.length ≤ line) : fAdd (.ob (.lst xs)) (.ob (.lst ys)) = some (.new (.lst (xs ++ ys))) := if_pos h
theorem putqB {i j : Nat} {o : Ob} {v : PV} {ρ ρ1 ρ2 : Env} {Q : Env → Prop} (h : get ρ j = some (.own o)) (h2 : frzO o = some v) (h3 : PutR j (some (.val v)) ρ ρ1) (h4 : PutR i (some (.val v)) ρ1 ρ2) (q : Q ρ2) : PutQ (gName i) (.bor j) ρ Q := by
  have e := h3.put
  simp only [put, h, isRef, Bool.false_eq_true, if_false] at e
  refine ⟨ρ2, ?_, q⟩
  simp only [gName, frz, h, h2, Option.map_some, Option.bind_some]
  rw [Option.some.inj e]
  exact h4.put
theorem pickI {xs : List Int} {i : Int} (h0 : 0 ≤ i) (h1 : i < xs.length) : ∃ w ∈ xs, atI (xs.map PyData.int) i = some (.int w) := by
  obtain ⟨j, rfl⟩ := Int.eq_ofNat_of_zero_le h0
  have hj : j < xs.length := by omega
  exact ⟨xs[j], List.getElem_mem hj, atI_int hj⟩
theorem wp_lstR1 {a : M} {ρ : Env} {Q : R → Env → Prop} (h : Wp a ρ fun x ρ1 => ∃ n : Int, look x ρ1 = some (.pv (.int n)) ∧ (n ≤ line ∧ -(2 ^ 62) ≤ n) ∧ Q (.new (.lst (rangeL 0 n.toNat))) ρ1) : Wp (mLstR1 a) ρ Q := by
  obtain ⟨x, ρ1, e1, n, e2, hz, q⟩ := h
  exact ⟨_, ρ1, by simp only [mLstR1, e1, e2, Option.bind_some, intOf, if_pos hz], q⟩
theorem wp_lstR2 {a b : M} {ρ : Env} {Q : R → Env → Prop} (h : Wp a ρ fun x ρ1 => ∃ lo : Int, look x ρ1 = some (.pv (.int lo)) ∧ Wp b ρ1 fun y ρ2 => ∃ hi : Int, look y ρ2 = some (.pv (.int hi)) ∧ (-(2 ^ 61) ≤ lo ∧ lo < 2 ^ 61 ∧ -(2 ^ 61) ≤ hi ∧ hi < 2 ^ 61 ∧ (hi - lo) ≤ line) ∧ Q (.new (.lst (rangeL lo (hi - lo).toNat))) ρ2) : Wp (mLstR2 a b) ρ Q := by
  obtain ⟨x, ρ1, e1, lo, e2, y, ρ2, e3, hi, e4, hz, q⟩ := h
  exact ⟨_, ρ2, by simp only [mLstR2, e1, e2, e3, e4, Option.bind_some, intOf, if_pos hz], q⟩
theorem rangeL_ints (lo : Int) (n : Nat) : rangeL lo n = ((List.range n).map fun (k : Nat) => lo + (k : Int)).map PyData.int := by simp [rangeL, Function.comp_def]
/-- xs[e] op= a -/
theorem wp_augIx {i : Nat} {e a : M} {f : Ct → Ct → Option R} {ρ : Env} {QS : Fl → Env → Prop} {ys : List PV} (h0 : lstAt ρ i = some ys) (h : Wp e ρ fun y ρ1 => ∃ k xs v, look y ρ1 = some (.pv (.int k)) ∧ lstAt ρ1 i = some xs ∧ atI xs k = some v ∧ Wp a ρ1 fun x ρ2 =>
    ∃ c w zs j ρ3, look x ρ2 = some c ∧ f (.pv v) c = some (.val w) ∧ lstAt ρ2 i = some zs ∧ ixN zs.length k = some j ∧ SetR ρ2 i (.lst (zs.set j w)) ρ3 ∧ QS .nx ρ3) : Wp (sAugIx i e f a) ρ QS := by
  obtain ⟨y, ρ1, e1, k, xs, v, e2, e3, e4, x, ρ2, e5, c, w, zs, j, ρ3, e6, e7, e8, e9, e10, q⟩ := h
  refine ⟨.nx, ρ3, ?_, q⟩
  rw [← e10.eq]
  simp [sAugIx, h0, e1, e2, e3, e4, e5, e6, e7, e8, e9, intOf]
/-- xs.index(e) -/
theorem wp_index {a b : M} {ρ : Env} {Q : R → Env → Prop} (h : Wp a ρ fun x ρ1 => ∃ c0 ys, look x ρ1 = some c0 ∧ c0.lst? = some ys ∧ Wp b ρ1 fun y ρ2 => OpQ fIndex x y ρ2 Q) : Wp (mIndex a b) ρ Q := by
  obtain ⟨x, ρ1, e1, c0, ys, e2, e3, y, ρ2, e4, cx, cy, z, e5, e6, e7, q⟩ := h
  exact ⟨z, ρ2, by simp [mIndex, e1, e2, e3, e4, e5, e6, e7], q⟩
end Py
namespace Py
open PySem D
local macro_rules
  | `(tactic| walk_at "w") => `(tactic| with_reducible first
    | refine seq_nx ?_ | refine seq_rt ?_ | refine seq_bk ?_ | refine seq_ct ?_ | refine wp_seq ?_ | refine wp_asg ?_ | refine wp_next ?_ | refine wp_ret ?_ | refine wp_retN ?_ | refine wp_brk ?_ | refine wp_cont ?_ | refine wp_expr ?_ | refine wp_op ?_ | refine wp_un ?_ | refine wp_c ?_
    | refine unB ?_ | refine wp_truB ?_ | refine wp_and ?_ | refine wp_or ?_ | refine wp_not ?_ | refine wp_ifE ?_ | refine wp_tup ?_ | refine wp_lst ?_ | refine wp_lcons ?_ | refine wp_lnil ?_ | refine frzV ?_ | refine frzN ?_ | refine wp_frz ?_ | refine wp_sl ?_ | refine wp_onone ?_ | refine wp_osome ?_
    | refine wp_anil ?_ | refine wp_av ?_ | refine wp_andV ?_ | refine wp_orV ?_ | refine wp_notV ?_ | refine wp_fgtR ?_ | refine turn_nx ?_ | refine turn_rt ?_ | refine turn_bk ?_ | refine turn_ct ?_ | refine fgt_rt ?_ | refine wp_par ?_ | refine wp_chain ?_ | refine wp_seqI ?_)
local macro_rules
  | `(tactic| walk_at "put") => `(tactic| focus ((repeat apply PutR.s); first | exact PutR.z rfl | exact PutR.z (by assumption)))
local macro_rules
  | `(tactic| walk_at "set") => `(tactic| focus ((repeat apply SetR.s); first | exact SetR.o | exact SetR.r))
local macro_rules
  | `(tactic| walk_at "fgt") => `(tactic| focus (repeat first | exact FgtsR.nil | exact FgtR.k | exact FgtR.z rfl | exact FgtR.z (by assumption) | apply FgtR.s | apply FgtsR.cons))
local macro_rules
  | `(tactic| walk_at "x") => `(tactic| first
    | ((with_reducible apply wp_varV); (focus exact rfl)) | ((with_reducible apply wp_varO); (focus exact rfl)) | ((with_reducible apply wp_varR); (focus exact rfl))
    | ((with_reducible apply opq); (focus exact rfl); (focus exact rfl); (focus (first | exact ev_eqI | exact ev_neI | exact ev_ltI | exact ev_leI | exact ev_gtI | exact ev_geI | exact ev_in2 | exact ev_in2n | exact ev_in4n | exact ev_isT | exact ev_isF | exact ev_isnT | exact ev_isnF | exact ev_strT | exact ev_strF n1 | exact ev_strF n2 | exact ev_strF n3 | exact ev_strF n4 | exact ev_strF n5 | exact ev_strF n6 | exact rfl)))
    | ((with_reducible apply unq); (focus exact rfl); (focus exact rfl))
    | ((with_reducible first | apply putqV | apply putqN); walk_at "put")
    | ((with_reducible apply putqB); (focus exact rfl); (focus exact rfl); walk_at "put"; walk_at "put")
    | ((with_reducible apply putq2); walk_at "put"; walk_at "put")
    | ((with_reducible apply parq); walk_at "put"; walk_at "put")
    | ((with_reducible apply wp_callR); (focus (repeat first | exact RefsR.nil | apply RefsR.v | apply RefsR.r)); (focus decide))
    | ((with_reducible apply wp_ar); (focus exact rfl))
    | ((with_reducible apply fin_rt); (focus exact rfl); (focus exact rfl))
    | ((with_reducible apply fin_nx); (focus exact rfl))
    | ((with_reducible apply wp_appendR); (focus exact rfl))
    | (with_reducible refine ⟨_, rfl, ?_⟩) | (with_reducible refine ⟨_, .inl rfl, ?_⟩) | (with_reducible refine ⟨_, .inr (.inl rfl), ?_⟩) | (with_reducible refine ⟨_, .inr (.inr rfl), ?_⟩)
    | (with_reducible apply callq0) | ((with_reducible apply frzB); (focus exact rfl); (focus exact rfl); walk_at "put")
    | ((with_reducible apply callq1); walk_at "set")
    | ((with_reducible apply callq2); walk_at "set"; walk_at "set")
    | ((with_reducible first | apply fgt_nx | apply fgt_bk | apply fgt_ct); walk_at "fgt")
    | ((with_reducible apply brT); (focus exact rfl)) | ((with_reducible apply brF); (focus exact rfl)))
local macro_rules
  | `(tactic| walk_at "r") => `(tactic| repeat first | walk_at "w" | walk_at "x")
local macro_rules
  | `(tactic| walk_at "ri") => `(tactic| repeat first | walk_at "w" | walk_at "x" | (with_reducible refine wp_if ?_))
local macro_rules
  | `(tactic| walk_at "app") => `(tactic| ((with_reducible apply appq); (focus exact rfl); (focus ((try simp only [List.length_map, List.length_nil, List.length_cons, List.length_append]); unfold line; omega)); walk_at "set"))
local macro_rules
  | `(tactic| walk_at "mul") => `(tactic| ((refine opq rfl rfl (ev_mul ?_) ?_); (focus (apply mulT <;> omega))))
local macro_rules
  | `(tactic| walk_at "rm") => `(tactic| repeat first | walk_at "w" | walk_at "x" | walk_at "mul")
local macro_rules
  | `(tactic| walk_at "len") => `(tactic| (refine And.intro ?_ ?_; (focus (simp [line]; done))))
local macro_rules
  | `(tactic| walk_at "rl") => `(tactic| repeat first | walk_at "w" | walk_at "x" | walk_at "len")
local macro_rules
  | `(tactic| walk_at "ril") => `(tactic| repeat first | walk_at "w" | walk_at "x" | walk_at "len" | (with_reducible refine wp_if ?_))
instance {p : Int × Int} : Decidable (Low p) := by unfold Low; infer_instance
theorem rat_low {p : Int × Int} (h : 1 ≤ p.2) : rat p.1 p.2 = p ↔ Low p := by
  constructor
  · intro e
    rw [← e]
    exact low_rat (by omega)
  · intro l
    exact low_of l (by omega) rfl
theorem eqvFr (p q : Int × Int) : PyData.eqv (fr p) (fr q) = decide (p = q) := by
  unfold fr
  simp only [PyData.eqv, PyData.eqvAll, Bool.and_true]
  by_cases c : p = q
  · subst c; simp
  · rw [decide_eq_false c]
    by_cases c1 : p.1 = q.1
    · have : p.2 ≠ q.2 := fun z => c (Prod.ext c1 z)
      simp [c1, this]
    · simp [c1]
theorem bools_mapA {α : Type} (ps : List α) (g : α → Bool) : bools? (ps.map fun p => PyData.bool (g p)) = some (ps.map g) := by
  induction ps with
  | nil => rfl
  | cons p ps ih =>
    simp only [bools?, List.map_cons, List.mapM_cons] at ih ⊢
    rw [ih]
    rfl
theorem ev_allA {α : Type} (ps : List α) (g : α → Bool) : fAll (.ob (.lst (ps.map fun p => .bool (g p)))) = some (.val (.bool (ps.all g))) := by
  simp only [fAll, Ct.lst?, Option.bind_some, bools_mapA, Option.map_some, List.all_map]
  rfl
theorem ev_anyA {α : Type} (ps : List α) (g : α → Bool) : fAny (.ob (.lst (ps.map fun p => .bool (g p)))) = some (.val (.bool (ps.any g))) := by
  simp only [fAny, Ct.lst?, Option.bind_some, bools_mapA, Option.map_some, List.any_map]
  rfl
def Okr (row : List (Int × Int)) : Prop := row.length ≤ 100 ∧ ∀ p ∈ row, Low p → Bt 350 p
def stakesB (m : Nat) (row : List (Int × Int)) : Bool := decide (row.length = m) && row.all (fun p => decide (Low p)) && row.all fun p => decide (0 ≤ p.1)
def sureB (n : Nat) (bets : List (List (Int × Int))) (row : List (Int × Int)) : Bool := stakesB bets.length row && (gainsV n bets row).all fun g => decide (0 < g.1)
section
variable {Q : R → List Ob → Prop} {ρ : Env} {n m : Nat} {bets : List (List (Int × Int))} {row : List (Int × Int)}
theorem of_is_fraction {p : Int × Int} (k : Q (.val (.bool (decide (Low p)))) []) : Ret d_is_fraction [.val (fr p)] Q := by
  refine ret_mkR (by repeat constructor) ?_
  unfold b_is_fraction
  walk_at "r"
  refine branchD (fun h => ?_) fun h => ?_
  · walk_at "r"
    refine of_fraction (by omega) ?_
    walk_at "r"
    rw [Bool.false_xor, eqvFr, show decide ((rat p.1 p.2) = p) = decide (Low p) from decide_eq_decide.mpr (rat_low h)]
    exact k
  · rw [show decide (Low p) = false from decide_eq_false fun l => h (by have := l.1; omega)] at k
    walk_at "r"
    exact k
theorem of_law_is_fraction {p : Int × Int} (k : Q (.val (.bool (decide (Low p)))) []) : Ret d_law_is_fraction [.val (fr p)] Q := by
  have is : ∀ {Q : R → List Ob → Prop} {z : Int}, Q (.val (.bool true)) [] → Ret d_law_is_integer [.val (.int z)] Q := by
    intro Q z k
    refine ret_mkR (by repeat constructor) ?_
    unfold b_law_is_integer
    walk_at "r"
    exact k
  refine ret_mkR (by repeat constructor) ?_
  unfold b_law_is_fraction
  walk_at "ril"
  refine is ?_
  walk_at "ril"
  refine is ?_
  walk_at "ril"
  refine ⟨fun h => ?_, fun h => ?_⟩
  · rw [show decide (Low p) = false from decide_eq_false fun l => by have := l.1; have := of_decide_eq_true h; omega] at k
    walk_at "ril"
    exact k
  · have h := of_decide_eq_false h
    walk_at "ril"
    refine of_ldivisor ?_
    walk_at "ril"
    rw [show decide ((Int.gcd p.1 p.2 : Int) = 1) = decide (Low p) from decide_eq_decide.mpr ⟨fun e => ⟨by omega, by omega⟩, fun l => by have := l.2; omega⟩]
    exact k
theorem of_is_row (hl : row.length ≤ line) (k : Q (.val (.bool (decide (row.length = m) && row.all fun p => decide (Low p)))) []) : Ret d_law_is_row [.val (tupF row), .val (.int m)] Q := by
  refine ret_mkR (by repeat constructor) ?_
  unfold b_law_is_row
  walk_at "ril"
  rw [List.length_map]
  refine ⟨fun h => ?_, fun h => ?_⟩
  · rw [decide_eq_false (show ¬ row.length = m from fun e => by rw [e] at h; simp at h), Bool.false_and] at k
    walk_at "ril"
    exact k
  · have he : row.length = m := by
      have : (row.length : Int) = m := by simpa using h
      omega
    rw [decide_eq_true he, Bool.true_and] at k
    walk_at "ril"
    refine wp_for (wp_seqI ?_)
    walk_at "ril"
    refine wp_loop fr (fun done ρ => (∀ p ∈ done, Low p) ∧ ρ = [some (.val (tupF row)), some (.val (.int m)), none]) row ⟨by simp, rfl⟩ ?_ ?_
    · rintro done p rest _ e ⟨hd, rfl⟩
      unfold l1_law_is_row
      walk_at "ril"
      refine of_law_is_fraction ?_
      walk_at "ril"
      refine ⟨fun h => ?_, fun h => ?_⟩
      · rw [show (row.all fun p => decide (Low p)) = false from by rw [e, List.all_append, List.all_cons]; simp at h; simp [h]] at k
        walk_at "ril"
        exact k
      · walk_at "ril"
        refine ⟨fun x hx => ?_, rfl⟩
        rcases List.mem_append.mp hx with hx | hx
        · exact hd x hx
        · rw [List.mem_singleton.mp hx]; simpa using h
    · rintro _ ⟨hd, rfl⟩
      rw [show (row.all fun p => decide (Low p)) = true from List.all_eq_true.mpr fun x hx => decide_eq_true (hd x hx)] at k
      walk_at "ril"
      exact k
theorem of_none_below (hl : row.length ≤ line) (k : Q (.val (.bool (row.all fun p => decide (0 ≤ p.1)))) []) : Ret d_law_none_below [.val (tupF row)] Q := by
  refine ret_mkR (by repeat constructor) ?_
  unfold b_law_none_below
  walk_at "ril"
  refine wp_for (wp_seqI ?_)
  walk_at "ril"
  refine wp_loop fr (fun done ρ => (∀ p ∈ done, 0 ≤ p.1) ∧ ρ = [some (.val (tupF row)), none]) row ⟨by simp, rfl⟩ ?_ ?_
  · rintro done p rest _ e ⟨hd, rfl⟩
    unfold l1_law_none_below
    walk_at "ril"
    refine ⟨fun h => ?_, fun h => ?_⟩
    · have h := of_decide_eq_true h
      rw [show (row.all fun p => decide (0 ≤ p.1)) = false from by rw [e, List.all_append, List.all_cons, decide_eq_false (show ¬ 0 ≤ p.1 by omega)]; simp] at k
      walk_at "ril"
      exact k
    · have h := of_decide_eq_false h
      walk_at "ril"
      refine ⟨fun x hx => ?_, rfl⟩
      rcases List.mem_append.mp hx with hx | hx
      · exact hd x hx
      · rw [List.mem_singleton.mp hx]; omega
  · rintro _ ⟨hd, rfl⟩
    rw [show (row.all fun p => decide (0 ≤ p.1)) = true from List.all_eq_true.mpr fun x hx => decide_eq_true (hd x hx)] at k
    walk_at "ril"
    exact k
theorem of_is_stakes (hl : row.length ≤ line) (k : Q (.val (.bool (stakesB m row))) []) : Ret d_law_is_stakes [.val (.int m), .val (tupF row)] Q := by
  refine ret_mkR (by repeat constructor) ?_
  unfold b_law_is_stakes
  walk_at "ril"
  refine of_is_row hl ?_
  walk_at "ril"
  refine ⟨fun h => ?_, fun h => ?_⟩
  · walk_at "ril"
    refine of_none_below hl ?_
    walk_at "ril"
    rw [show stakesB m row = row.all fun p => decide (0 ≤ p.1) from by unfold stakesB; rw [h, Bool.true_and]] at k
    exact k
  · rw [show stakesB m row = false from by unfold stakesB; rw [h, Bool.false_and]] at k
    walk_at "ril"
    exact k
theorem of_are_stakes (hn : bets.length ≤ line) (hr : Okr row) (k : Q (.val (.bool (stakesB bets.length row))) []) : Ret d_are_stakes [.val (tblV n bets), .val (tupF row)] Q := by
  refine ret_mkR (by repeat constructor) ?_
  unfold b_are_stakes
  walk_at "ril"
  have hl : row.length ≤ line := by have := hr.1; unfold line; omega
  rw [List.length_map, List.length_map]
  refine ⟨fun h => ?_, fun h => ?_⟩
  · rw [show stakesB bets.length row = false from by unfold stakesB; rw [decide_eq_false (show ¬ row.length = bets.length from fun e => by rw [e] at h; simp at h), Bool.false_and, Bool.false_and]] at k
    walk_at "ril"
    exact k
  · have he : row.length = bets.length := by
      have : (row.length : Int) = bets.length := by simpa using h
      omega
    have ek : stakesB bets.length row = ((row.all fun p => decide (Low p)) && row.all fun p => decide (0 ≤ p.1)) := by unfold stakesB; rw [decide_eq_true he, Bool.true_and]
    rw [ek] at k
    walk_at "ril"
    refine wp_lc fr (fun done acc ρ => acc = done.map (fun p => PyData.bool (decide (Low p))) ∧ ∃ u, isRef u = false ∧ ρ = [some (.val (tblV n bets)), some (.val (tupF row)), u]) ?_
    refine wp_seqI ?_
    walk_at "r"
    refine ⟨hl, ⟨rfl, none, rfl, rfl⟩, ?_, ?_⟩
    · rintro done p rest acc _ e ⟨rfl, u, hu, rfl⟩
      refine lcqY rfl ?_
      dsimp only [wipe, set_s, set_z]
      unfold e1_are_stakes
      walk_at "r"
      refine of_is_fraction ?_
      walk_at "r"
      exact ⟨by simp, _, rfl, rfl⟩
    rintro _ _ ⟨rfl, u, hu, rfl⟩
    dsimp only [back, set_s, set_z, get_s, get_z]
    refine unq rfl (ev_allA _ _) ?_
    walk_at "r"
    refine ⟨fun h => ?_, fun h => ?_⟩
    · rw [show (row.all fun p => decide (Low p)) = false from by simpa using h, Bool.false_and] at k
      walk_at "ril"
      exact k
    · have hlow : (row.all fun p => decide (Low p)) = true := by simpa using h
      rw [hlow, Bool.true_and] at k
      have hL : ∀ p ∈ row, Low p := fun p hp => of_decide_eq_true (List.all_eq_true.mp hlow p hp)
      walk_at "ril"
      refine wp_lc fr (fun done acc ρ => acc = done.map (fun p => PyData.bool (lessV p (0, 1))) ∧ ∃ u, isRef u = false ∧ ρ = [some (.val (tblV n bets)), some (.val (tupF row)), u]) ?_
      refine wp_seqI ?_
      walk_at "r"
      refine ⟨hl, ⟨rfl, _, ?_, rfl⟩, ?_, ?_⟩
      · first | rfl | exact hu
      · rintro done p rest acc _ e ⟨rfl, u, hu, rfl⟩
        have hb := hr.2 p (by rw [e]; simp) (hL p (by rw [e]; simp))
        refine lcqY rfl ?_
        dsimp only [wipe, set_s, set_z]
        unfold e2_are_stakes
        walk_at "r"
        refine of_less (q := (0, 1)) (okM_bt (n := 350) hb ⟨by decide, by decide, by decide⟩ (by decide)) ?_
        walk_at "r"
        exact ⟨by simp, _, rfl, rfl⟩
      rintro _ _ ⟨rfl, u2, hu2, rfl⟩
      dsimp only [back, set_s, set_z, get_s, get_z]
      refine unq rfl (ev_anyA _ _) ?_
      walk_at "r"
      rw [show (!row.any fun p => lessV p (0, 1)) = row.all fun p => decide (0 ≤ p.1) from by
        rw [List.not_any_eq_all_not]
        congr 1
        funext p
        unfold lessV
        rw [Int.mul_one, Int.zero_mul, ← decide_not]
        exact decide_eq_decide.mpr (by omega)]
      exact k
theorem okr_row (hr : Okr row) (h : stakesB bets.length row = true) : Row bets.length row := by
  unfold stakesB at h
  simp only [Bool.and_eq_true, decide_eq_true_eq, List.all_eq_true] at h
  exact ⟨h.1.1, fun p hp => hr.2 p hp (h.1.2 p hp)⟩
theorem gains_bt (h : Tbl n bets) (hs : Row bets.length row) : ∀ g ∈ gainsV n bets row, 0 < g.2 ∧ Bt 80000 g := fun g hg => by
  unfold gainsV at hg
  obtain ⟨j, hj, rfl⟩ := List.mem_map.mp hg
  have h2 := two_col h hs (List.mem_range.mp hj)
  have hb := sum_bt (zip_bt h2.2.2.1 h2.2.2.2)
  have hz : (List.zipWith timesV row (col bets j)).length ≤ 100 := by rw [List.length_zipWith]; have := h2.2.1; omega
  exact ⟨hb.1, hb.mono (by omega)⟩
theorem of_judge (h : Tbl n bets) (hr : Okr row) (k : Q (.val (.bool (sureB n bets row))) []) : Ret d_judge_sure_bet [.val (tblV n bets), .val (tupF row)] Q := by
  have hn := h.1
  refine ret_mkR (by repeat constructor) ?_
  unfold b_judge_sure_bet
  walk_at "ril"
  refine of_are_stakes (by unfold line; omega) hr ?_
  walk_at "ril"
  refine ⟨fun hs => ?_, fun hs => ?_⟩
  · rw [show sureB n bets row = (gainsV n bets row).all fun g => decide (0 < g.1) from by unfold sureB; rw [hs, Bool.true_and]] at k
    have hrow := okr_row hr hs
    have hg := gains_bt h hrow
    have hn2 := h.2.1
    walk_at "ril"
    refine wp_lc fr (fun done acc ρ => acc = done.map (fun p => PyData.bool (lessV (0, 1) p)) ∧ ∃ u, isRef u = false ∧ ρ = [some (.val (tblV n bets)), some (.val (tupF row)), u]) ?_
    refine wp_seqI ?_
    walk_at "r"
    refine of_gains h hrow ?_
    walk_at "r"
    refine ⟨by unfold gainsV; rw [List.length_map, List.length_range]; unfold line; omega, ⟨rfl, none, rfl, rfl⟩, ?_, ?_⟩
    · rintro done p rest acc _ e ⟨rfl, u, hu, rfl⟩
      have hb := (hg p (by rw [e]; simp)).2
      refine lcqY rfl ?_
      dsimp only [wipe, set_s, set_z]
      unfold e1_judge_sure_bet
      walk_at "r"
      refine of_less (p := (0, 1)) (okM_bt (m := 350) ⟨by decide, by decide, by decide⟩ hb (by decide)) ?_
      walk_at "r"
      exact ⟨by simp, _, rfl, rfl⟩
    rintro _ _ ⟨rfl, u2, hu2, rfl⟩
    dsimp only [back, set_s, set_z, get_s, get_z]
    refine unq rfl (ev_allA _ _) ?_
    rw [show ((gainsV n bets row).all fun p => lessV (0, 1) p) = (gainsV n bets row).all fun g => decide (0 < g.1) from by
      congr 1
      funext p
      unfold lessV
      simp]
    walk_at "r"
    exact k
  · rw [show sureB n bets row = false from by unfold sureB; rw [hs, Bool.false_and]] at k
    walk_at "ril"
    exact k
theorem of_law_is_sure (h : Tbl n bets) (hr : Okr row) (k : Q (.val (.bool (sureB n bets row))) []) : Ret d_law_is_sure [.val (.int n), .val (.tuple (bets.map tupF)), .val (tupF row)] Q := by
  have hn := h.1
  have hl : row.length ≤ line := by have := hr.1; unfold line; omega
  refine ret_mkR (by repeat constructor) ?_
  unfold b_law_is_sure
  walk_at "ril"
  rw [List.length_map]
  refine of_is_stakes hl ?_
  walk_at "ril"
  refine ⟨fun hs => ?_, fun hs => ?_⟩
  · rw [show sureB n bets row = false from by unfold sureB; rw [show stakesB bets.length row = false from by simpa using hs, Bool.false_and]] at k
    walk_at "ril"
    exact k
  · have hs : stakesB bets.length row = true := by simpa using hs
    rw [show sureB n bets row = (gainsV n bets row).all fun g => decide (0 < g.1) from by unfold sureB; rw [hs, Bool.true_and]] at k
    have hrow := okr_row hr hs
    walk_at "ril"
    refine wp_for (wp_seqI ?_)
    walk_at "ril"
    refine of_law_gained h hrow ?_
    walk_at "ril"
    refine wp_loop fr (fun done ρ => (∀ p ∈ done, 0 < p.1) ∧ ρ = [some (.val (.int n)), some (.val (.tuple (bets.map tupF))), some (.val (tupF row)), none]) (gainsV n bets row) ⟨by simp, rfl⟩ ?_ ?_
    · rintro done p rest _ e ⟨hd, rfl⟩
      unfold l1_law_is_sure
      walk_at "ril"
      refine ⟨fun h => ?_, fun h => ?_⟩
      · have h := of_decide_eq_true h
        rw [show ((gainsV n bets row).all fun g => decide (0 < g.1)) = false from by rw [e, List.all_append, List.all_cons, decide_eq_false (show ¬ 0 < p.1 by omega)]; simp] at k
        walk_at "ril"
        exact k
      · have h := of_decide_eq_false h
        walk_at "ril"
        refine ⟨fun x hx => ?_, rfl⟩
        rcases List.mem_append.mp hx with hx | hx
        · exact hd x hx
        · rw [List.mem_singleton.mp hx]; omega
    · rintro _ ⟨hd, rfl⟩
      rw [show ((gainsV n bets row).all fun g => decide (0 < g.1)) = true from List.all_eq_true.mpr fun x hx => decide_eq_true (hd x hx)] at k
      walk_at "ril"
      exact k
end
end Py
/-! QS1: tables of the simplex and Bland's rule, plain Rat. -/
namespace Smp
def sm : Nat → (Nat → Rat) → Rat
  | 0, _ => 0
  | n + 1, g => sm n g + g n
theorem sm_add (f g : Nat → Rat) : ∀ n, sm n (fun k => f k + g k) = sm n f + sm n g
  | 0 => by unfold sm; grind
  | n + 1 => by unfold sm; rw [sm_add f g n]; grind
theorem sm_mul (c : Rat) (f : Nat → Rat) : ∀ n, sm n (fun k => c * f k) = c * sm n f
  | 0 => by unfold sm; grind
  | n + 1 => by unfold sm; rw [sm_mul c f n]; grind
theorem sm_congr {f g : Nat → Rat} : ∀ {n}, (∀ k, k < n → f k = g k) → sm n f = sm n g
  | 0, _ => rfl
  | n + 1, h => by unfold sm; rw [sm_congr fun k hk => h k (by omega), h n (by omega)]
theorem sm_zero {f : Nat → Rat} : ∀ {n}, (∀ k, k < n → f k = 0) → sm n f = 0
  | 0, _ => rfl
  | n + 1, h => by unfold sm; rw [sm_zero fun k hk => h k (by omega), h n (by omega)]; grind
theorem sm_one {f : Nat → Rat} {i : Nat} : ∀ {n}, i < n → (∀ k, k < n → k ≠ i → f k = 0) → sm n f = f i
  | 0, h, _ => by omega
  | n + 1, h, hz => by
    unfold sm
    by_cases c : i = n
    · subst c
      rw [sm_zero fun k hk => hz k (by omega) (by omega)]
      grind
    · rw [sm_one (i := i) (by omega) fun k hk => hz k (by omega), hz n (by omega) (by omega)]
      grind
theorem sm_pos {f : Nat → Rat} : ∀ {n}, 0 < sm n f → ∃ k, k < n ∧ 0 < f k
  | 0, h => by unfold sm at h; grind
  | n + 1, h => by
    unfold sm at h
    by_cases c : 0 < f n
    · exact ⟨n, by omega, c⟩
    · obtain ⟨k, h1, h2⟩ := sm_pos (f := f) (n := n) (by grind)
      exact ⟨k, by omega, h2⟩
/-- a row that the rows make -/
def Lin (r : Nat) (T : Nat → Nat → Rat) (f : Nat → Rat) : Prop := ∃ μ : Nat → Rat, ∀ j, f j = sm r fun k => μ k * T k j
theorem lin_row {r : Nat} {T : Nat → Nat → Rat} {i : Nat} (h : i < r) : Lin r T (T i) := ⟨fun k => if k = i then 1 else 0, fun j => by
  rw [sm_one h fun k _ hk => by dsimp only; rw [if_neg hk]; grind]
  dsimp only
  rw [if_pos rfl]
  grind⟩
theorem lin_add {r : Nat} {T : Nat → Nat → Rat} {f g : Nat → Rat} (hf : Lin r T f) (hg : Lin r T g) : Lin r T fun j => f j + g j := by
  obtain ⟨μ, h1⟩ := hf
  obtain ⟨ν, h2⟩ := hg
  refine ⟨fun k => μ k + ν k, fun j => ?_⟩
  dsimp only
  rw [h1, h2, ← sm_add]
  exact sm_congr fun k _ => by grind
theorem lin_mul {r : Nat} {T : Nat → Nat → Rat} {f : Nat → Rat} (c : Rat) (hf : Lin r T f) : Lin r T fun j => c * f j := by
  obtain ⟨μ, h1⟩ := hf
  refine ⟨fun k => c * μ k, fun j => ?_⟩
  dsimp only
  rw [h1, ← sm_mul]
  exact sm_congr fun k _ => by grind
theorem lin_congr {r : Nat} {T : Nat → Nat → Rat} {f g : Nat → Rat} (h : ∀ j, f j = g j) (hf : Lin r T f) : Lin r T g := by
  obtain ⟨μ, h1⟩ := hf
  exact ⟨μ, fun j => by rw [← h j, h1]⟩
theorem lin_zero {r : Nat} {T : Nat → Nat → Rat} : Lin r T fun _ => 0 := ⟨fun _ => 0, fun j => (sm_zero fun k _ => by grind).symm⟩
theorem lin_trans {r : Nat} {T S : Nat → Nat → Rat} (h : ∀ i, i < r → Lin r S (T i)) {f : Nat → Rat} (hf : Lin r T f) : Lin r S f := by
  obtain ⟨μ, h1⟩ := hf
  have key : ∀ n, n ≤ r → Lin r S fun j => sm n fun k => μ k * T k j := by
    intro n
    induction n with
    | zero => intro _; exact lin_zero
    | succ n ih =>
      intro hn
      exact lin_congr (fun j => rfl) (lin_add (ih (by omega)) (lin_mul (μ n) (h n (by omega))))
  exact lin_congr (fun j => (h1 j).symm) (key r (Nat.le_refl _))
def pivT (T : Nat → Nat → Rat) (p s : Nat) : Nat → Nat → Rat := fun i j => if i = p then T p j / T p s else T i j - T i s * (T p j / T p s)
def pivL (T : Nat → Nat → Rat) (L : Nat → Rat) (p s : Nat) : Nat → Rat := fun j => L j - L s * (T p j / T p s)
def pivB (B : Nat → Nat) (p s : Nat) : Nat → Nat := fun i => if i = p then s else B i
theorem piv_lin {r : Nat} {T : Nat → Nat → Rat} {p s : Nat} (hp : p < r) : ∀ i, i < r → Lin r T (pivT T p s i) := fun i hi => by
  by_cases c : i = p
  · exact lin_congr (fun j => by unfold pivT; rw [if_pos c]; grind) (lin_mul (1 / T p s) (lin_row hp))
  · exact lin_congr (fun j => by unfold pivT; rw [if_neg c]; grind) (lin_add (lin_row hi) (lin_mul (-(T i s / T p s)) (lin_row hp)))
theorem lin_piv {r : Nat} {T : Nat → Nat → Rat} {p s : Nat} (hp : p < r) (h0 : T p s ≠ 0) : ∀ i, i < r → Lin r (pivT T p s) (T i) := fun i hi => by
  by_cases c : i = p
  · subst c
    exact lin_congr (fun j => by unfold pivT; rw [if_pos rfl]; grind) (lin_mul (T i s) (lin_row (T := pivT T i s) hp))
  · exact lin_congr (fun j => by unfold pivT; rw [if_neg c, if_pos rfl]; grind) (lin_add (lin_row (T := pivT T p s) hi) (lin_mul (T i s) (lin_row (T := pivT T p s) hp)))
/-- the basis columns of a table -/
structure Bas (r N : Nat) (T : Nat → Nat → Rat) (L : Nat → Rat) (B : Nat → Nat) : Prop where
  col : ∀ i k, i < r → k < r → T i (B k) = if i = k then 1 else 0
  zero : ∀ k, k < r → L (B k) = 0
  lt : ∀ k, k < r → B k < N
theorem Bas.coef {r N : Nat} {T : Nat → Nat → Rat} {L : Nat → Rat} {B : Nat → Nat} (h : Bas r N T L B) {f : Nat → Rat} (hf : Lin r T f) (j : Nat) : f j = sm r fun k => f (B k) * T k j := by
  obtain ⟨μ, h1⟩ := hf
  rw [h1]
  refine sm_congr fun k hk => ?_
  rw [h1, sm_one hk fun i hi hne => by rw [h.col i k hi hk, if_neg hne]; grind, h.col k k hk hk, if_pos rfl]
  grind
theorem Bas.piv {r N : Nat} {T : Nat → Nat → Rat} {L : Nat → Rat} {B : Nat → Nat} (h : Bas r N T L B) {p s : Nat} (hp : p < r) (hs : s < N) (h0 : T p s ≠ 0) : Bas r N (pivT T p s) (pivL T L p s) (pivB B p s) := by
  refine ⟨fun i k hi hk => ?_, fun k hk => ?_, fun k hk => ?_⟩
  · unfold pivT pivB
    by_cases ck : k = p
    · subst ck
      rw [if_pos rfl]
      by_cases ci : i = k
      · rw [if_pos ci, if_pos ci]; grind
      · rw [if_neg ci, if_neg ci]; grind
    · have e1 : T p (B k) = 0 := by rw [h.col p k hp hk, if_neg (fun z => ck z.symm)]
      rw [if_neg ck, e1]
      by_cases ci : i = p
      · subst ci
        rw [if_pos rfl, if_neg (show ¬ i = k from fun z => ck z.symm)]; grind
      · rw [if_neg ci, h.col i k hi hk]; grind
  · unfold pivL pivB
    by_cases ck : k = p
    · rw [if_pos ck]; grind
    · have e1 : T p (B k) = 0 := by rw [h.col p k hp hk, if_neg (fun z => ck z.symm)]
      rw [if_neg ck, h.zero k hk, e1]; grind
  · unfold pivB
    split
    · exact hs
    · exact h.lt k hk
end Smp
/-! QS2: Bland's rule ends. -/
namespace Smp
/-- a run of steps by Bland's rule -/
structure Run (r N k : Nat) (T : Nat → Nat → Nat → Rat) (L : Nat → Nat → Rat) (B : Nat → Nat → Nat) (p s : Nat → Nat) : Prop where
  bas : Bas r N (T 0) (L 0) (B 0)
  pr : ∀ t, t < k → p t < r
  sN : ∀ t, t < k → s t < N
  nT : ∀ t, t < k → T (t + 1) = pivT (T t) (p t) (s t)
  nL : ∀ t, t < k → L (t + 1) = pivL (T t) (L t) (p t) (s t)
  nB : ∀ t, t < k → B (t + 1) = pivB (B t) (p t) (s t)
  neg : ∀ t, t < k → L t (s t) < 0
  first : ∀ t, t < k → ∀ j, j < s t → 0 ≤ L t j
  pos : ∀ t, t < k → 0 < T t (p t) (s t)
  feas : ∀ t, t ≤ k → ∀ i, i < r → 0 ≤ T t i N
  leave : ∀ t, t < k → ∀ i, i < r → 0 < T t i (s t) → T t (p t) N = 0 → T t i N = 0 → B t (p t) ≤ B t i
section
variable {r N k : Nat} {T : Nat → Nat → Nat → Rat} {L : Nat → Nat → Rat} {B : Nat → Nat → Nat} {p s : Nat → Nat}
theorem Run.basAt (h : Run r N k T L B p s) : ∀ t, t ≤ k → Bas r N (T t) (L t) (B t)
  | 0, _ => h.bas
  | t + 1, ht => by
    have := (h.basAt t (by omega)).piv (h.pr t (by omega)) (h.sN t (by omega)) (by have := h.pos t (by omega); grind)
    rw [h.nT t (by omega), h.nL t (by omega), h.nB t (by omega)]
    exact this
theorem Run.ahead (h : Run r N k T L B p s) (t : Nat) : ∀ d, t + d ≤ k → (∀ i, i < r → Lin r (T t) (T (t + d) i)) ∧ (∀ i, i < r → Lin r (T (t + d)) (T t i)) ∧ Lin r (T t) fun j => L (t + d) j - L t j
  | 0, _ => ⟨fun i hi => lin_row hi, fun i hi => lin_row hi, lin_congr (fun j => by show (0 : Rat) = L (t + 0) j - L t j; rw [Nat.add_zero]; grind) lin_zero⟩
  | d + 1, hd => by
    obtain ⟨h1, h2, h3⟩ := h.ahead t d (by omega)
    have hp := h.pr (t + d) (by omega)
    have h0 : T (t + d) (p (t + d)) (s (t + d)) ≠ 0 := by have := h.pos (t + d) (by omega); grind
    have e1 : T (t + (d + 1)) = pivT (T (t + d)) (p (t + d)) (s (t + d)) := h.nT (t + d) (by omega)
    have e2 : L (t + (d + 1)) = pivL (T (t + d)) (L (t + d)) (p (t + d)) (s (t + d)) := h.nL (t + d) (by omega)
    rw [e1, e2]
    refine ⟨fun i hi => lin_trans h1 (piv_lin hp i hi), fun i hi => lin_trans (lin_piv hp h0) (h2 i hi), ?_⟩
    have h4 := lin_mul (-(L (t + d) (s (t + d)) / T (t + d) (p (t + d)) (s (t + d)))) (h1 _ hp)
    exact lin_congr (fun j => by unfold pivL; grind) (lin_add h3 h4)
theorem Run.lin (h : Run r N k T L B p s) {t u : Nat} (ht : t ≤ k) (hu : u ≤ k) : Lin r (T t) fun j => L u j - L t j := by
  rcases Nat.le_total t u with c | c
  · obtain ⟨d, rfl⟩ := Nat.exists_eq_add_of_le c
    exact (h.ahead t d hu).2.2
  · obtain ⟨d, rfl⟩ := Nat.exists_eq_add_of_le c
    obtain ⟨h1, h2, h3⟩ := h.ahead u d ht
    exact lin_congr (fun j => by grind) (lin_mul (-1) (lin_trans h2 h3))
/-- a column of the basis -/
def In (r : Nat) (B : Nat → Nat) (v : Nat) : Prop := ∃ i, i < r ∧ B i = v
theorem Run.inj (h : Run r N k T L B p s) {t : Nat} (ht : t ≤ k) {i j : Nat} (hi : i < r) (hj : j < r) (e : B t i = B t j) : i = j := by
  have hb := h.basAt t ht
  have h1 := hb.col i i hi hi
  rw [if_pos rfl, e, hb.col i j hi hj] at h1
  by_cases c : i = j
  · exact c
  · rw [if_neg c] at h1; grind
theorem Run.same (h : Run r N k T L B p s) (hc : ∀ v, In r (B 0) v → In r (B k) v) : ∀ j, L k j = L 0 j := fun j => by
  have h1 := h.bas.coef (h.lin (Nat.zero_le k) (Nat.le_refl k)) j
  rw [sm_zero fun i hi => by
    obtain ⟨i', h2, h3⟩ := hc (B 0 i) ⟨i, hi, rfl⟩
    rw [h.bas.zero i hi, ← h3, (h.basAt k (Nat.le_refl k)).zero i' h2]
    grind] at h1
  grind
theorem Run.up (h : Run r N k T L B p s) {t : Nat} (ht : t < k) : L (t + 1) N = L t N + (-(L t (s t))) * (T t (p t) N / T t (p t) (s t)) := by
  rw [h.nL t ht]
  unfold pivL
  grind
theorem Run.rat_nn (h : Run r N k T L B p s) {t : Nat} (ht : t < k) : 0 ≤ T t (p t) N / T t (p t) (s t) := by
  have h1 := h.pos t ht
  have h2 := h.feas t (by omega) (p t) (h.pr t ht)
  rw [Rat.div_def]
  exact Rat.mul_nonneg h2 (Rat.le_of_lt (Rat.inv_pos.mpr h1))
theorem Run.mono (h : Run r N k T L B p s) (t : Nat) : ∀ d, t + d ≤ k → L t N ≤ L (t + d) N
  | 0, _ => Rat.le_refl
  | d + 1, hd => by
    have h1 := h.mono t d (by omega)
    have h2 := h.up (t := t + d) (by omega)
    have h3 := Rat.mul_nonneg (show 0 ≤ -(L (t + d) (s (t + d))) by have := h.neg (t + d) (by omega); grind) (h.rat_nn (t := t + d) (by omega))
    rw [show t + (d + 1) = t + d + 1 by omega, h2]
    grind
theorem Run.deg (h : Run r N k T L B p s) (hc : ∀ v, In r (B 0) v → In r (B k) v) {t : Nat} (ht : t < k) : T t (p t) N = 0 := by
  have h1 := h.mono 0 t (by omega)
  have h2 := h.mono (t + 1) (k - (t + 1)) (by omega)
  rw [Nat.zero_add] at h1
  rw [show t + 1 + (k - (t + 1)) = k by omega, h.same hc] at h2
  have h3 := h.up ht
  have h4 := Rat.mul_nonneg (show 0 ≤ -(L t (s t)) by have := h.neg t ht; grind) (h.rat_nn ht)
  have h5 : -(L t (s t)) * (T t (p t) N / T t (p t) (s t)) = 0 := by grind
  have h6 := h.neg t ht
  have h7 := h.pos t ht
  rcases Rat.mul_eq_zero.mp h5 with c | c
  · grind
  · have : T t (p t) N = (T t (p t) N / T t (p t) (s t)) * T t (p t) (s t) := by
      have : T t (p t) (s t) ≠ 0 := by grind
      grind
    rw [this, c]
    grind
/-- the value of a column -/
def val (r N : Nat) (T : Nat → Nat → Rat) (B : Nat → Nat) (v : Nat) : Rat := sm r fun i => if B i = v then T i N else 0
theorem Run.val_step (h : Run r N k T L B p s) (hc : ∀ v, In r (B 0) v → In r (B k) v) {t : Nat} (ht : t < k) (v : Nat) : val r N (T (t + 1)) (B (t + 1)) v = val r N (T t) (B t) v := by
  have hd := h.deg hc ht
  unfold val
  refine sm_congr fun i hi => ?_
  rw [h.nT t ht, h.nB t ht]
  unfold pivT pivB
  by_cases c : i = p t
  · rw [if_pos c, if_pos c, hd, c, hd]
    split <;> split <;> grind
  · rw [if_neg c, if_neg c, hd]
    split <;> grind
theorem Run.val_all (h : Run r N k T L B p s) (hc : ∀ v, In r (B 0) v → In r (B k) v) (v : Nat) : ∀ t, t ≤ k → val r N (T t) (B t) v = val r N (T 0) (B 0) v
  | 0, _ => rfl
  | t + 1, ht => by rw [h.val_step hc (by omega), h.val_all hc v t (by omega)]
theorem val_out {T : Nat → Nat → Rat} {B : Nat → Nat} {v : Nat} (h : ¬ In r B v) : val r N T B v = 0 := by
  unfold val
  exact sm_zero fun i hi => if_neg fun e => h ⟨i, hi, e⟩
theorem Run.val_in (h : Run r N k T L B p s) {t i : Nat} (ht : t ≤ k) (hi : i < r) : val r N (T t) (B t) (B t i) = T t i N := by
  unfold val
  rw [sm_one hi fun j hj hne => if_neg fun e => hne (h.inj ht hj hi e), if_pos rfl]
theorem Run.zero_of (h : Run r N k T L B p s) (hc : ∀ v, In r (B 0) v → In r (B k) v) {t u i : Nat} (ht : t ≤ k) (hu : u ≤ k) (hi : i < r) (ho : ¬ In r (B u) (B t i)) : T t i N = 0 := by
  rw [← h.val_in ht hi, h.val_all hc _ t ht, ← h.val_all hc _ u hu, val_out ho]
theorem Run.enters (h : Run r N k T L B p s) (v t : Nat) : ∀ d, t + d ≤ k → ¬ In r (B t) v → In r (B (t + d)) v → ∃ e, e < k ∧ s e = v
  | 0, _, h1, h2 => absurd h2 h1
  | d + 1, hd, h1, h2 => by
    by_cases c : In r (B (t + d)) v
    · exact h.enters v t d (by omega) h1 c
    · obtain ⟨i, hi, e⟩ := h2
      rw [show t + (d + 1) = t + d + 1 by omega, h.nB (t + d) (by omega)] at e
      unfold pivB at e
      by_cases ci : i = p (t + d)
      · rw [if_pos ci] at e
        exact ⟨t + d, by omega, e⟩
      · rw [if_neg ci] at e
        exact absurd ⟨i, hi, e⟩ c
theorem Run.leaves (h : Run r N k T L B p s) (v t : Nat) : ∀ d, t + d ≤ k → In r (B t) v → ¬ In r (B (t + d)) v → ∃ e, e < k ∧ B e (p e) = v
  | 0, _, h1, h2 => absurd h1 h2
  | d + 1, hd, h1, h2 => by
    by_cases c : In r (B (t + d)) v
    · obtain ⟨i, hi, e⟩ := c
      by_cases ci : i = p (t + d)
      · exact ⟨t + d, by omega, by rw [← ci]; exact e⟩
      · refine absurd ⟨i, hi, ?_⟩ h2
        rw [show t + (d + 1) = t + d + 1 by omega, h.nB (t + d) (by omega)]
        unfold pivB
        rw [if_neg ci]
        exact e
    · exact h.leaves v t d (by omega) h1 c
theorem Run.out_s (h : Run r N k T L B p s) {t : Nat} (ht : t < k) : ¬ In r (B t) (s t) := fun ⟨i, hi, e⟩ => by
  have h1 := (h.basAt t (by omega)).zero i hi
  rw [e] at h1
  have := h.neg t ht
  grind
theorem Run.in_s (h : Run r N k T L B p s) {t : Nat} (ht : t < k) : In r (B (t + 1)) (s t) := ⟨p t, h.pr t ht, by rw [h.nB t ht]; unfold pivB; rw [if_pos rfl]⟩
theorem max_at (s : Nat → Nat) : ∀ k, 0 < k → ∃ e, e < k ∧ ∀ t, t < k → s t ≤ s e
  | 0, h => by omega
  | 1, _ => ⟨0, by omega, fun t ht => by rw [show t = 0 by omega]; exact Nat.le_refl _⟩
  | k + 2, _ => by
    obtain ⟨e, h1, h2⟩ := max_at s (k + 1) (by omega)
    by_cases c : s e ≤ s (k + 1)
    · refine ⟨k + 1, by omega, fun t ht => ?_⟩
      by_cases ct : t = k + 1
      · rw [ct]; exact Nat.le_refl _
      · have := h2 t (by omega); omega
    · refine ⟨e, by omega, fun t ht => ?_⟩
      by_cases ct : t = k + 1
      · rw [ct]; omega
      · exact h2 t (by omega)
/-- no basis comes twice -/
theorem Run.bland (h : Run r N k T L B p s) (hk : 0 < k) (hs : ∀ v, In r (B 0) v ↔ In r (B k) v) : False := by
  have hc : ∀ v, In r (B 0) v → In r (B k) v := fun v => (hs v).mp
  obtain ⟨e, he, hmax⟩ := max_at s k hk
  have m1 := h.out_s he
  have m2 := h.in_s he
  obtain ⟨l, hl, hlM⟩ : ∃ l, l < k ∧ B l (p l) = s e := by
    by_cases c : In r (B 0) (s e)
    · exact h.leaves (s e) 0 e (by omega) c (by rw [Nat.zero_add]; exact m1)
    · have c2 : ¬ In r (B k) (s e) := fun z => c ((hs _).mpr z)
      exact h.leaves (s e) (e + 1) (k - (e + 1)) (by omega) m2 (by rw [show e + 1 + (k - (e + 1)) = k by omega]; exact c2)
  have hpl := h.pr l hl
  have hsl : s l < s e := by
    have h1 := hmax l hl
    have h2 : s l ≠ s e := fun z => h.out_s hl ⟨p l, hpl, by rw [hlM, z]⟩
    omega
  have hb := h.basAt l (by omega)
  have key := hb.coef (h.lin (t := l) (u := e) (by omega) (by omega)) (s l)
  have k1 := h.neg l hl
  have k2 := h.first e he (s l) hsl
  obtain ⟨i, hi, hpos⟩ := sm_pos (f := fun i => (L e (B l i) - L l (B l i)) * T l i (s l)) (n := r) (by rw [← key]; grind)
  rw [hb.zero i hi] at hpos
  have hq : ¬ In r (B e) (B l i) := fun ⟨j, hj, ej⟩ => by
    have := (h.basAt e (by omega)).zero j hj
    rw [ej] at this
    rw [this] at hpos
    grind
  have hin : In r (B l) (B l i) := ⟨i, hi, rfl⟩
  obtain ⟨f, hf, hfe⟩ : ∃ f, f < k ∧ s f = B l i := by
    rcases Nat.lt_trichotomy e l with c | c | c
    · exact h.enters (B l i) e (l - e) (by omega) hq (by rw [show e + (l - e) = l by omega]; exact hin)
    · rw [c] at hq; exact absurd hin hq
    · by_cases c0 : In r (B 0) (B l i)
      · exact h.enters (B l i) e (k - e) (by omega) hq (by rw [show e + (k - e) = k by omega]; exact (hs _).mp c0)
      · exact h.enters (B l i) 0 l (by omega) c0 (by rw [Nat.zero_add]; exact hin)
  have hle := hmax f hf
  rw [hfe] at hle
  have hne : B l i ≠ s e := fun z => by
    have : i = p l := h.inj (t := l) (by omega) hi hpl (by rw [z, hlM])
    rw [this, hlM] at hpos
    have h1 := h.neg e he
    have h2 := h.pos l hl
    have h3 := Rat.mul_nonneg (show 0 ≤ -(L e (s e)) by grind) (Rat.le_of_lt h2)
    grind
  have h4 := h.first e he (B l i) (by omega)
  have h5 : 0 < T l i (s l) := by
    by_cases c : 0 < T l i (s l)
    · exact c
    · have := Rat.mul_nonneg h4 (show 0 ≤ -(T l i (s l)) by grind)
      grind
  have h6 := h.leave l hl i hi h5 (h.deg hc hl) (h.zero_of (t := l) (u := e) hc (by omega) (by omega) hi hq)
  rw [hlM] at h6
  omega
end
end Smp
/-! QS3: what the last table shows. -/
namespace Smp
theorem feas_piv {r N : Nat} {T : Nat → Nat → Rat} {p s : Nat} (hp : p < r) (h0 : 0 < T p s) (hf : ∀ i, i < r → 0 ≤ T i N) (hr : ∀ i, i < r → 0 < T i s → T p N / T p s ≤ T i N / T i s) : ∀ i, i < r → 0 ≤ pivT T p s i N := fun i hi => by
  have q : 0 ≤ T p N / T p s := by
    rw [Rat.div_def]
    exact Rat.mul_nonneg (hf p hp) (Rat.le_of_lt (Rat.inv_pos.mpr h0))
  unfold pivT
  by_cases c : i = p
  · rw [if_pos c]; exact q
  · rw [if_neg c]
    by_cases c2 : 0 < T i s
    · have h1 := hr i hi c2
      have h2 := Rat.mul_le_mul_of_nonneg_left h1 (Rat.le_of_lt c2)
      have h3 : T i s * (T i N / T i s) = T i N := by
        have : T i s ≠ 0 := by grind
        grind
      grind
    · have h2 := Rat.mul_nonneg (show 0 ≤ -(T i s) by grind) q
      have h3 := hf i hi
      grind
theorem sm_swap (f : Nat → Nat → Rat) (m : Nat) : ∀ n, sm n (fun i => sm m fun j => f i j) = sm m fun j => sm n fun i => f i j
  | 0 => by
    show (0 : Rat) = _
    exact (sm_zero fun _ _ => rfl).symm
  | n + 1 => by
    show sm n (fun i => sm m fun j => f i j) + (sm m fun j => f n j) = _
    rw [sm_swap f m n, ← sm_add]
    exact sm_congr fun j _ => rfl
theorem sm_nn {f : Nat → Rat} : ∀ {n}, (∀ k, k < n → 0 ≤ f k) → 0 ≤ sm n f
  | 0, _ => by unfold sm; grind
  | n + 1, h => by
    unfold sm
    have h1 := sm_nn (f := f) (n := n) fun k hk => h k (by omega)
    have h2 := h n (by omega)
    grind
/-- the values of the columns -/
def xs (r N : Nat) (T : Nat → Nat → Rat) (B : Nat → Nat) (j : Nat) : Rat := val r N T B j
theorem Bas.dot {r N : Nat} {T : Nat → Nat → Rat} {L : Nat → Rat} {B : Nat → Nat} (h : Bas r N T L B) {f : Nat → Rat} : sm N (fun j => f j * xs r N T B j) = sm r fun k => f (B k) * T k N := by
  have e : sm N (fun j => f j * xs r N T B j) = sm N fun j => sm r fun i => f j * (if B i = j then T i N else 0) := sm_congr fun j _ => by
    unfold xs val
    rw [← sm_mul]
  rw [e, sm_swap (fun j i => f j * (if B i = j then T i N else 0)) r N]
  refine sm_congr fun i hi => ?_
  rw [sm_one (i := B i) (h.lt i hi) fun j _ hne => by rw [if_neg fun z => hne z.symm]; grind, if_pos rfl]
theorem Bas.row {r N : Nat} {T : Nat → Nat → Rat} {L : Nat → Rat} {B : Nat → Nat} (h : Bas r N T L B) {f : Nat → Rat} (hf : Lin r T f) : sm N (fun j => f j * xs r N T B j) = f N := by
  rw [h.dot, ← h.coef hf N]
theorem Bas.line {r N : Nat} {T : Nat → Nat → Rat} {L : Nat → Rat} {B : Nat → Nat} (h : Bas r N T L B) : sm N (fun j => L j * xs r N T B j) = 0 := by
  rw [h.dot]
  exact sm_zero fun k hk => by rw [h.zero k hk]; grind
theorem xs_nn {r N : Nat} {T : Nat → Nat → Rat} {B : Nat → Nat} (hf : ∀ i, i < r → 0 ≤ T i N) (j : Nat) : 0 ≤ xs r N T B j := by
  unfold xs val
  refine sm_nn fun i hi => ?_
  split
  · exact hf i hi
  · exact Rat.le_refl
theorem sm_split (f : Nat → Rat) (m : Nat) : ∀ r, sm (m + r) f = sm m f + sm r fun k => f (m + k)
  | 0 => by show sm m f = sm m f + 0; grind
  | r + 1 => by
    show sm (m + r) f + f (m + r) = sm m f + (sm r (fun k => f (m + k)) + f (m + r))
    rw [sm_split f m r]
    grind
/-- the first table -/
structure First (m r : Nat) (A : Nat → Nat → Rat) (b w : Nat → Rat) (T0 : Nat → Nat → Rat) (L0 : Nat → Rat) : Prop where
  a : ∀ i j, i < r → j < m → T0 i j = A i j
  fill : ∀ i k, i < r → k < r → T0 i (m + k) = if i = k then 1 else 0
  b : ∀ i, i < r → T0 i (m + r) = b i
  w : ∀ j, j < m → L0 j = - w j
  z : ∀ k, k < r → L0 (m + k) = 0
  zN : L0 (m + r) = 0
theorem First.bas {m r : Nat} {A : Nat → Nat → Rat} {b w : Nat → Rat} {T0 : Nat → Nat → Rat} {L0 : Nat → Rat} (h : First m r A b w T0 L0) : Bas r (m + r) T0 L0 fun i => m + i :=
  ⟨fun i k hi hk => h.fill i k hi hk, fun k hk => h.z k hk, fun k hk => by omega⟩
theorem cert {m r : Nat} {A : Nat → Nat → Rat} {b w : Nat → Rat} {T0 : Nat → Nat → Rat} {L0 : Nat → Rat} (h0 : First m r A b w T0 L0) {T : Nat → Nat → Rat} {L : Nat → Rat} {B : Nat → Nat} (h : Bas r (m + r) T L B)
    (h1 : ∀ i, i < r → Lin r T (T0 i)) (h2 : Lin r T0 fun j => L j - L0 j) (h3 : Lin r T fun j => L j - L0 j) (hf : ∀ i, i < r → 0 ≤ T i (m + r)) (hL : ∀ j, j < m + r → 0 ≤ L j) :
    (∀ j, 0 ≤ xs r (m + r) T B j) ∧ (∀ i, i < r → sm m (fun j => A i j * xs r (m + r) T B j) ≤ b i) ∧ (∀ k, k < r → 0 ≤ L (m + k)) ∧ (∀ j, j < m → w j ≤ sm r fun k => L (m + k) * A k j) ∧
      sm m (fun j => w j * xs r (m + r) T B j) = L (m + r) ∧ (sm r fun k => L (m + k) * b k) = L (m + r) := by
  have hx := xs_nn (r := r) (N := m + r) (T := T) (B := B) hf
  have coef : ∀ j, L j - L0 j = sm r fun k => L (m + k) * T0 k j := fun j => by
    have e := h0.bas.coef h2 j
    rw [e]
    exact sm_congr fun k hk => by rw [h0.z k hk]; grind
  refine ⟨hx, fun i hi => ?_, fun k hk => hL _ (by omega), fun j hj => ?_, ?_, ?_⟩
  · have e := h.row (h1 i hi)
    rw [sm_split, h0.b i hi] at e
    have e2 : sm m (fun j => T0 i j * xs r (m + r) T B j) = sm m fun j => A i j * xs r (m + r) T B j := sm_congr fun j hj => by rw [h0.a i j hi hj]
    have e3 : 0 ≤ sm r fun k => T0 i (m + k) * xs r (m + r) T B (m + k) := sm_nn fun k hk => by
      rw [h0.fill i k hi hk]
      have := hx (m + k)
      split <;> grind
    rw [e2] at e
    grind
  · have e := coef j
    have e2 : (sm r fun k => L (m + k) * T0 k j) = sm r fun k => L (m + k) * A k j := sm_congr fun k hk => by rw [h0.a k j hk hj]
    rw [e2, h0.w j hj] at e
    have := hL j (by omega)
    grind
  · have e := h.row h3
    have e1 := h.line
    have e2 : sm (m + r) (fun j => (L j - L0 j) * xs r (m + r) T B j) = sm (m + r) (fun j => L j * xs r (m + r) T B j) + sm (m + r) fun j => (-1) * (L0 j * xs r (m + r) T B j) := by
      rw [← sm_add]
      exact sm_congr fun j _ => by grind
    rw [e2, e1, sm_mul, sm_split (fun j => L0 j * xs r (m + r) T B j), h0.zN] at e
    have e3 : (sm r fun k => L0 (m + k) * xs r (m + r) T B (m + k)) = 0 := sm_zero fun k hk => by rw [h0.z k hk]; grind
    have e4 : sm m (fun j => L0 j * xs r (m + r) T B j) = (-1) * sm m fun j => w j * xs r (m + r) T B j := by
      rw [← sm_mul]
      exact sm_congr fun j hj => by rw [h0.w j hj]; grind
    rw [e3, e4] at e
    grind
  · have e := coef (m + r)
    have e2 : (sm r fun k => L (m + k) * T0 k (m + r)) = sm r fun k => L (m + k) * b k := sm_congr fun k hk => by rw [h0.b k hk]
    rw [e2, h0.zN] at e
    grind
end Smp
/-! QS4: a bounded sum has a row that leaves. -/
namespace Smp
/-- the way along a column -/
def way (r : Nat) (T : Nat → Nat → Rat) (B : Nat → Nat) (s j : Nat) : Rat := (if j = s then 1 else 0) + sm r fun i => if B i = j then -(T i s) else 0
theorem Bas.wayDot {r N : Nat} {T : Nat → Nat → Rat} {L : Nat → Rat} {B : Nat → Nat} (h : Bas r N T L B) {s : Nat} (hs : s < N) (f : Nat → Rat) : sm N (fun j => f j * way r T B s j) = f s - sm r fun i => f (B i) * T i s := by
  have e : sm N (fun j => f j * way r T B s j) = sm N (fun j => f j * (if j = s then 1 else 0)) + sm N fun j => sm r fun i => f j * (if B i = j then -(T i s) else 0) := by
    rw [← sm_add]
    refine sm_congr fun j _ => ?_
    unfold way
    rw [sm_mul]
    grind
  rw [e, sm_one hs fun j _ hne => by rw [if_neg hne]; grind, if_pos rfl, sm_swap (fun j i => f j * (if B i = j then -(T i s) else 0)) r N]
  have e2 : (sm r fun i => sm N fun j => f j * (if B i = j then -(T i s) else 0)) = sm r fun i => (-1) * (f (B i) * T i s) := sm_congr fun i hi => by
    rw [sm_one (i := B i) (h.lt i hi) fun j _ hne => by rw [if_neg fun z => hne z.symm]; grind, if_pos rfl]
    grind
  rw [e2, sm_mul]
  grind
theorem leaves_some {m r : Nat} {A : Nat → Nat → Rat} {b w : Nat → Rat} {T0 : Nat → Nat → Rat} {L0 : Nat → Rat} (h0 : First m r A b w T0 L0) {T : Nat → Nat → Rat} {L : Nat → Rat} {B : Nat → Nat} (h : Bas r (m + r) T L B)
    (h1 : ∀ i, i < r → Lin r T (T0 i)) (h3 : Lin r T fun j => L j - L0 j) {s : Nat} (hs : s < m + r) (hn : L s < 0) {y : Nat → Rat} (hy : ∀ k, k < r → 0 ≤ y k) (hw : ∀ j, j < m → w j ≤ sm r fun k => y k * A k j) : ∃ i, i < r ∧ 0 < T i s := by
  by_cases c : ∃ i, i < r ∧ 0 < T i s
  · exact c
  exfalso
  have hT : ∀ i, i < r → 0 ≤ -(T i s) := fun i hi => by
    by_cases c2 : 0 < T i s
    · exact absurd ⟨i, hi, c2⟩ c
    · grind
  have hd : ∀ j, 0 ≤ way r T B s j := fun j => by
    have e := sm_nn (f := fun i => if B i = j then -(T i s) else 0) (n := r) fun i hi => by
      split
      · exact hT i hi
      · exact Rat.le_refl
    unfold way
    split <;> grind
  have e0 : ∀ f, Lin r T f → sm (m + r) (fun j => f j * way r T B s j) = 0 := fun f hf => by
    rw [h.wayDot hs, ← h.coef hf s]
    grind
  have eL : sm (m + r) (fun j => L j * way r T B s j) = L s := by
    rw [h.wayDot hs, sm_zero fun k hk => by rw [h.zero k hk]; grind]
    grind
  have e1 := e0 _ h3
  have e2 : sm (m + r) (fun j => (L j - L0 j) * way r T B s j) = sm (m + r) (fun j => L j * way r T B s j) + sm (m + r) fun j => (-1) * (L0 j * way r T B s j) := by
    rw [← sm_add]
    exact sm_congr fun j _ => by grind
  rw [e2, eL, sm_mul] at e1
  have e3 : (sm r fun k => y k * sm (m + r) fun j => T0 k j * way r T B s j) = 0 := sm_zero fun k hk => by rw [e0 _ (h1 k hk)]; grind
  have e4 : (sm r fun k => y k * sm (m + r) fun j => T0 k j * way r T B s j) = sm (m + r) fun j => (sm r fun k => y k * T0 k j) * way r T B s j := by
    have a : (sm r fun k => y k * sm (m + r) fun j => T0 k j * way r T B s j) = sm r fun k => sm (m + r) fun j => y k * (T0 k j * way r T B s j) := sm_congr fun k _ => (sm_mul _ _ _).symm
    rw [a, sm_swap (fun k j => y k * (T0 k j * way r T B s j)) (m + r) r]
    refine sm_congr fun j _ => ?_
    have b : (sm r fun k => y k * T0 k j) * way r T B s j = way r T B s j * sm r fun k => y k * T0 k j := by grind
    rw [b, ← sm_mul]
    exact sm_congr fun k _ => by grind
  have e5 : 0 ≤ sm (m + r) fun j => (L0 j + sm r fun k => y k * T0 k j) * way r T B s j := sm_nn fun j hj => by
    refine Rat.mul_nonneg ?_ (hd j)
    by_cases cj : j < m
    · have := hw j cj
      rw [h0.w j cj, show (sm r fun k => y k * T0 k j) = sm r fun k => y k * A k j from sm_congr fun k hk => by rw [h0.a k j hk cj]]
      grind
    · obtain ⟨k, rfl⟩ : ∃ k, j = m + k := ⟨j - m, by omega⟩
      have hk : k < r := by omega
      rw [h0.z k hk, sm_one (i := k) hk fun i hi hne => by rw [h0.fill i k hi hk, if_neg hne]; grind, h0.fill k k hk hk, if_pos rfl]
      have := hy k hk
      grind
  have e6 : sm (m + r) (fun j => (L0 j + sm r fun k => y k * T0 k j) * way r T B s j) = sm (m + r) (fun j => L0 j * way r T B s j) + sm (m + r) fun j => (sm r fun k => y k * T0 k j) * way r T B s j := by
    rw [← sm_add]
    exact sm_congr fun j _ => by grind
  rw [e6, ← e4, e3] at e5
  grind
end Smp
/-! QS5: a run is not longer than there are bases. -/
namespace Smp
section
variable {r N k : Nat} {T : Nat → Nat → Nat → Rat} {L : Nat → Nat → Rat} {B : Nat → Nat → Nat} {p s : Nat → Nat}
theorem Run.shift (h : Run r N k T L B p s) {u d : Nat} (hu : u + d ≤ k) : Run r N d (fun t => T (u + t)) (fun t => L (u + t)) (fun t => B (u + t)) (fun t => p (u + t)) (fun t => s (u + t)) where
  bas := h.basAt u (by omega)
  pr := fun t ht => h.pr _ (by omega)
  sN := fun t ht => h.sN _ (by omega)
  nT := fun t ht => h.nT (u + t) (by omega)
  nL := fun t ht => h.nL (u + t) (by omega)
  nB := fun t ht => h.nB (u + t) (by omega)
  neg := fun t ht => h.neg _ (by omega)
  first := fun t ht => h.first _ (by omega)
  pos := fun t ht => h.pos _ (by omega)
  feas := fun t ht => h.feas _ (by omega)
  leave := fun t ht => h.leave _ (by omega)
theorem Run.apart (h : Run r N k T L B p s) {u v : Nat} (huv : u < v) (hv : v ≤ k) (hs : ∀ j, In r (B u) j ↔ In r (B v) j) : False := by
  have := (h.shift (u := u) (d := v - u) (by omega)).bland (by omega) fun j => by
    show In r (B (u + 0)) j ↔ In r (B (u + (v - u))) j
    rw [Nat.add_zero, show u + (v - u) = v by omega]
    exact hs j
  exact this
end
/-- all rows of bits -/
def allB : Nat → List (List Bool)
  | 0 => [[]]
  | n + 1 => (allB n).map (true :: ·) ++ (allB n).map (false :: ·)
theorem allB_len : ∀ n, (allB n).length = 2 ^ n
  | 0 => rfl
  | n + 1 => by unfold allB; rw [List.length_append, List.length_map, List.length_map, allB_len n, Nat.pow_succ]; omega
theorem allB_mem : ∀ (n : Nat) (l : List Bool), l.length = n → l ∈ allB n
  | 0, [], _ => by simp [allB]
  | n + 1, b :: l, h => by
    have := allB_mem n l (by simpa using h)
    unfold allB
    cases b <;> simp [this]
theorem nodup_len {α : Type} [DecidableEq α] : ∀ {ks M : List α}, ks.Nodup → (∀ k ∈ ks, k ∈ M) → ks.length ≤ M.length
  | [], M, _, _ => by simp
  | a :: ks, M, hn, hm => by
    obtain ⟨h1, h2⟩ := List.nodup_cons.mp hn
    have ha := hm a List.mem_cons_self
    have := nodup_len (ks := ks) (M := M.erase a) h2 fun k hk => (List.mem_erase_of_ne (show k ≠ a from fun e => h1 (by rw [← e]; exact hk))).mpr (hm k (List.mem_cons_of_mem _ hk))
    rw [List.length_erase_of_mem ha] at this
    have hp := List.length_pos_of_mem ha
    rw [List.length_cons]
    omega
noncomputable def bits (r N : Nat) (B : Nat → Nat) : List Bool := by
  classical
  exact (List.range N).map fun j => decide (In r B j)
theorem bits_len (r N : Nat) (B : Nat → Nat) : (bits r N B).length = N := by unfold bits; simp
theorem bits_in {r N : Nat} {B C : Nat → Nat} (hB : ∀ i, i < r → B i < N) (hC : ∀ i, i < r → C i < N) (h : bits r N B = bits r N C) (j : Nat) : In r B j ↔ In r C j := by
  classical
  by_cases c : j < N
  · have e : (bits r N B)[j]? = (bits r N C)[j]? := by rw [h]
    unfold bits at e
    simp [c] at e
    exact e
  · exact ⟨fun ⟨i, hi, e⟩ => absurd (hB i hi) (by omega), fun ⟨i, hi, e⟩ => absurd (hC i hi) (by omega)⟩
/-- not longer than there are bases -/
theorem Run.short {r N k : Nat} {T : Nat → Nat → Nat → Rat} {L : Nat → Nat → Rat} {B : Nat → Nat → Nat} {p s : Nat → Nat} (h : Run r N k T L B p s) : k < 2 ^ N := by
  have hn : ((List.range (k + 1)).map fun t => bits r N (B t)).Nodup := by
    rw [List.nodup_iff_pairwise_ne, List.pairwise_map, List.pairwise_iff_getElem]
    intro i j hi hj hij e
    rw [List.length_range] at hi hj
    rw [List.getElem_range, List.getElem_range] at e
    exact h.apart hij (by omega) (bits_in (h.basAt i (by omega)).lt (h.basAt j (by omega)).lt e)
  have := nodup_len (M := allB N) hn fun l hl => by
    obtain ⟨t, _, rfl⟩ := List.mem_map.mp hl
    exact allB_mem N _ (bits_len _ _ _)
  rw [allB_len, List.length_map, List.length_range] at this
  omega
end Smp
/-! QS6: how many bits a table has. -/
namespace Smp
/-- a row with a common denominator, few bits -/
def Rep (N b : Nat) (f : Nat → Rat) : Prop := ∃ d : Int, d ≠ 0 ∧ d.natAbs < 2 ^ b ∧ ∀ j, j ≤ N → ∃ n : Int, n.natAbs < 2 ^ b ∧ f j = (n : Rat) / (d : Rat)
theorem ic0 {a : Int} (h : a ≠ 0) : (a : Rat) ≠ 0 := fun z => h (Rat.intCast_eq_zero_iff.mp z)
theorem rep_mono {N b c : Nat} {f : Nat → Rat} (h : Rep N b f) (hb : b ≤ c) : Rep N c f := by
  obtain ⟨d, h1, h2, h3⟩ := h
  have hp := Nat.pow_le_pow_right (n := 2) (by decide) hb
  exact ⟨d, h1, by omega, fun j hj => by
    obtain ⟨n, n1, n2⟩ := h3 j hj
    exact ⟨n, by omega, n2⟩⟩
theorem nmul {x y : Int} {b : Nat} (hx : x.natAbs < 2 ^ b) (hy : y.natAbs < 2 ^ b) : (x * y).natAbs < 2 ^ (2 * b) := by
  rw [Int.natAbs_mul, Nat.two_mul, Nat.pow_add]
  exact Nat.mul_lt_mul_of_lt_of_le hx (Nat.le_of_lt hy) (Nat.two_pow_pos b)
theorem rep_piv {N b : Nat} {f g : Nat → Rat} {s : Nat} (hs : s ≤ N) (hg : Rep N b g) (h0 : g s ≠ 0) : Rep N b fun j => g j / g s := by
  obtain ⟨d, h1, h2, h3⟩ := hg
  obtain ⟨n, n1, n2⟩ := h3 s hs
  have hd := ic0 h1
  have hn : n ≠ 0 := fun z => h0 (by rw [n2, z, Rat.intCast_zero]; grind)
  have hn' := ic0 hn
  refine ⟨n, hn, n1, fun j hj => ?_⟩
  obtain ⟨a, a1, a2⟩ := h3 j hj
  exact ⟨a, a1, by dsimp only; rw [a2, n2]; grind⟩
theorem rep_less {N b : Nat} {f g : Nat → Rat} {s : Nat} (hs : s ≤ N) (hf : Rep N b f) (hg : Rep N b g) (h0 : g s ≠ 0) : Rep N (2 * b + 1) fun j => f j - f s * (g j / g s) := by
  obtain ⟨d, h1, h2, h3⟩ := hg
  obtain ⟨n, n1, n2⟩ := h3 s hs
  obtain ⟨c, c1, c2, c3⟩ := hf
  obtain ⟨e, e1, e2⟩ := c3 s hs
  have hd := ic0 h1
  have hc := ic0 c1
  have hn : n ≠ 0 := fun z => h0 (by rw [n2, z, Rat.intCast_zero]; grind)
  have hn' := ic0 hn
  have hp : (2 : Nat) ^ (2 * b + 1) = 2 * 2 ^ (2 * b) := by rw [Nat.pow_succ]; omega
  refine ⟨c * n, Int.mul_ne_zero c1 hn, by have := nmul c2 n1; omega, fun j hj => ?_⟩
  obtain ⟨a, a1, a2⟩ := h3 j hj
  obtain ⟨x, x1, x2⟩ := c3 j hj
  refine ⟨x * n - e * a, by have := nmul x1 n1; have := nmul e1 a1; omega, ?_⟩
  dsimp only
  rw [a2, n2, x2, e2, Rat.intCast_sub, Rat.intCast_mul, Rat.intCast_mul, Rat.intCast_mul]
  grind
theorem rep_congr {N b : Nat} {f g : Nat → Rat} (h : ∀ j, f j = g j) (hf : Rep N b f) : Rep N b g := by
  obtain ⟨d, h1, h2, h3⟩ := hf
  exact ⟨d, h1, h2, fun j hj => by rw [← h j]; exact h3 j hj⟩
/-- a table that comes of the first one -/
structure Eqv (m r : Nat) (T0 : Nat → Nat → Rat) (L0 : Nat → Rat) (T : Nat → Nat → Rat) (L : Nat → Rat) (B : Nat → Nat) : Prop where
  bas : Bas r (m + r) T L B
  fro : ∀ i, i < r → Lin r T (T0 i)
  to : ∀ i, i < r → Lin r T0 (T i)
  lin : Lin r T fun j => L j - L0 j
theorem Eqv.piv {m r : Nat} {T0 : Nat → Nat → Rat} {L0 : Nat → Rat} {T : Nat → Nat → Rat} {L : Nat → Rat} {B : Nat → Nat} (h : Eqv m r T0 L0 T L B) {p s : Nat} (hp : p < r) (hs : s < m + r) (h0 : T p s ≠ 0) : Eqv m r T0 L0 (pivT T p s) (pivL T L p s) (pivB B p s) := by
  refine ⟨h.bas.piv hp hs h0, fun i hi => lin_trans (lin_piv hp h0) (h.fro i hi), fun i hi => lin_trans h.to (piv_lin hp i hi), ?_⟩
  refine lin_trans (lin_piv hp h0) ?_
  exact lin_congr (fun j => by unfold pivL; grind) (lin_add h.lin (lin_mul (-(L s / T p s)) (lin_row hp)))
def cn (m : Nat) (B : Nat → Nat) : Nat → Nat
  | 0 => 0
  | n + 1 => cn m B n + if B n < m then 1 else 0
theorem cn_zero {m : Nat} {B : Nat → Nat} : ∀ {n}, cn m B n = 0 → ∀ i, i < n → m ≤ B i
  | n + 1, h, i, hi => by
    unfold cn at h
    by_cases c : i = n
    · subst c
      by_cases d : B i < m
      · rw [if_pos d] at h; omega
      · omega
    · exact cn_zero (n := n) (by omega) i (by omega)
theorem cn_pos {m : Nat} {B : Nat → Nat} : ∀ {n}, 0 < cn m B n → ∃ i, i < n ∧ B i < m
  | 0, h => by unfold cn at h; omega
  | n + 1, h => by
    unfold cn at h
    by_cases d : B n < m
    · exact ⟨n, by omega, d⟩
    · rw [if_neg d] at h
      obtain ⟨i, h1, h2⟩ := cn_pos (n := n) (by omega)
      exact ⟨i, by omega, h2⟩
theorem cn_set {m : Nat} {B : Nat → Nat} {p u : Nat} (hu : m ≤ u) (hb : B p < m) : ∀ {n}, cn m (pivB B p u) n + (if p < n then 1 else 0) = cn m B n
  | 0 => rfl
  | n + 1 => by
    have ih := cn_set (m := m) (B := B) (p := p) (u := u) hu hb (n := n)
    unfold cn
    by_cases c : n = p
    · subst c
      have e : pivB B n u n = u := if_pos rfl
      rw [e, if_neg (show ¬ u < m by omega), if_pos (show n < n + 1 by omega), if_pos hb]
      rw [if_neg (show ¬ n < n by omega)] at ih
      omega
    · rw [show pivB B p u n = B n from if_neg c]
      by_cases d : p < n
      · rw [if_pos d] at ih
        rw [if_pos (show p < n + 1 by omega)]
        omega
      · rw [if_neg d] at ih
        rw [if_neg (show ¬ p < n + 1 by omega)]
        omega
def bq (b : Nat) : Nat → Nat
  | 0 => b
  | q + 1 => 2 * bq b q + 1
theorem rep_all {m r b : Nat} {A : Nat → Nat → Rat} {bb w : Nat → Rat} {T0 : Nat → Nat → Rat} {L0 : Nat → Rat} (h0 : First m r A bb w T0 L0) (hT : ∀ i, i < r → Rep (m + r) b (T0 i)) (hL : Rep (m + r) b L0) :
    ∀ (q : Nat) (T : Nat → Nat → Rat) (L : Nat → Rat) (B : Nat → Nat), Eqv m r T0 L0 T L B → cn m B r = q → (∀ i, i < r → Rep (m + r) (bq b q) (T i)) ∧ Rep (m + r) (bq b q) L
  | 0, T, L, B, h, hq => by
    have hB := cn_zero hq
    refine ⟨fun i hi => ?_, ?_⟩
    · have hbi := h.bas.lt i hi
      have hmi := hB i hi
      refine rep_congr (f := T0 (B i - m)) (fun j => ?_) (hT _ (by omega))
      rw [h.bas.coef (h.fro (B i - m) (by omega)) j, sm_one hi fun k hk hne => ?_]
      · have := h0.fill (B i - m) (B i - m) (by omega) (by omega)
        rw [show m + (B i - m) = B i by omega, if_pos rfl] at this
        rw [this]; grind
      · have hbk := h.bas.lt k hk
        have hmk := hB k hk
        have := h0.fill (B i - m) (B k - m) (by omega) (by omega)
        rw [show m + (B k - m) = B k by omega] at this
        rw [this, if_neg fun e => hne ?_]
        · grind
        · have e2 : B k = B i := by omega
          have c1 := h.bas.col k k hk hk
          have c2 := h.bas.col k i hk hi
          rw [← e2, c1, if_pos rfl] at c2
          by_cases z : k = i
          · exact z
          · rw [if_neg z] at c2; grind
    · refine rep_congr (f := L0) (fun j => ?_) hL
      have e := h.bas.coef h.lin j
      rw [sm_zero fun k hk => by
        have hbk := h.bas.lt k hk
        have hmk := hB k hk
        have := h0.z (B k - m) (by omega)
        rw [show m + (B k - m) = B k by omega] at this
        rw [this, h.bas.zero k hk]; grind] at e
      grind
  | q + 1, T, L, B, h, hq => by
    obtain ⟨p, hp, hb⟩ := cn_pos (m := m) (B := B) (n := r) (by omega)
    have hpp := h.bas.col p p hp hp
    rw [if_pos rfl] at hpp
    obtain ⟨u, hu, hne⟩ : ∃ u, u < r ∧ T p (m + u) ≠ 0 := by
      by_cases c : ∃ u, u < r ∧ T p (m + u) ≠ 0
      · exact c
      · exfalso
        have e := h0.bas.coef (h.to p hp) (B p)
        rw [sm_zero fun k hk => by
          by_cases z : T p (m + k) = 0
          · rw [z]; grind
          · exact absurd ⟨k, hk, z⟩ c] at e
        rw [hpp] at e
        grind
    have h' := h.piv hp (show m + u < m + r by omega) hne
    have hc := cn_set (m := m) (B := B) (p := p) (u := m + u) (by omega) hb (n := r)
    rw [if_pos hp] at hc
    obtain ⟨r1, r2⟩ := rep_all h0 hT hL q _ _ _ h' (by omega)
    have hs : B p ≤ m + r := by omega
    have k1 : pivT T p (m + u) p (B p) = 1 / T p (m + u) := by unfold pivT; rw [if_pos rfl, hpp]
    have k0 : pivT T p (m + u) p (B p) ≠ 0 := by rw [k1]; grind
    have k2 : ∀ j, pivT T p (m + u) p j = T p j / T p (m + u) := fun j => by unfold pivT; rw [if_pos rfl]
    refine ⟨fun i hi => ?_, ?_⟩
    · by_cases c : i = p
      · subst c
        refine rep_mono (b := bq b q) (rep_congr (fun j => ?_) (rep_piv (f := fun _ => 0) hs (r1 i hi) k0)) (by show bq b q ≤ 2 * bq b q + 1; omega)
        rw [k1, k2]
        grind
      · refine rep_congr (fun j => ?_) (rep_less hs (r1 i hi) (r1 p hp) k0)
        have z := h.bas.col i p hi hp
        rw [if_neg c] at z
        rw [k1, k2]
        unfold pivT
        rw [if_neg c, if_neg c, hpp, z]
        grind
    · refine rep_congr (fun j => ?_) (rep_less hs r2 (r1 p hp) k0)
      have z := h.bas.zero p hp
      rw [k1, k2]
      unfold pivL
      rw [hpp, z]
      grind
end Smp
/-! QS7: one denominator for all amounts and one for all prices. -/
namespace Smp
/-- times a factor it is an integer of few bits -/
def Itg (b : Nat) (x : Rat) : Prop := ∃ n : Int, n.natAbs < 2 ^ b ∧ x = (n : Rat)
theorem itg_mono {b c : Nat} {x : Rat} (h : Itg b x) (hb : b ≤ c) : Itg c x := by
  obtain ⟨n, h1, h2⟩ := h
  have hp := Nat.pow_le_pow_right (n := 2) (by decide) hb
  exact ⟨n, by omega, h2⟩
theorem itg_cross {b : Nat} {x y z w : Rat} (hx : Itg b x) (hy : Itg b y) (hz : Itg b z) (hw : Itg b w) : Itg (2 * b + 1) (x * y - z * w) := by
  obtain ⟨x, x1, rfl⟩ := hx
  obtain ⟨y, y1, rfl⟩ := hy
  obtain ⟨z, z1, rfl⟩ := hz
  obtain ⟨w, w1, rfl⟩ := hw
  have hp : (2 : Nat) ^ (2 * b + 1) = 2 * 2 ^ (2 * b) := by rw [Nat.pow_succ]; omega
  refine ⟨x * y - z * w, by have := nmul x1 y1; have := nmul z1 w1; omega, ?_⟩
  rw [Rat.intCast_sub, Rat.intCast_mul, Rat.intCast_mul]
theorem itg_mul {b : Nat} {x y : Rat} (hx : Itg b x) (hy : Itg b y) : Itg (2 * b + 1) (x * y) := by
  obtain ⟨x, x1, rfl⟩ := hx
  obtain ⟨y, y1, rfl⟩ := hy
  have hp : (2 : Nat) ^ (2 * b + 1) = 2 * 2 ^ (2 * b) := by rw [Nat.pow_succ]; omega
  refine ⟨x * y, by have := nmul x1 y1; omega, ?_⟩
  rw [Rat.intCast_mul]
theorem itg_congr {b : Nat} {x y : Rat} (h : x = y) (hx : Itg b x) : Itg b y := h ▸ hx
def fac (m : Nat) (d : Nat → Int) (B : Nat → Nat) (i : Nat) : Rat := if B i < m then 1 else ((d (B i - m) : Int) : Rat)
theorem com_all {m r b : Nat} {A : Nat → Nat → Rat} {bb w : Nat → Rat} {T0 : Nat → Nat → Rat} {L0 : Nat → Rat} {d : Nat → Int} {dL : Int} (h0 : First m r A bb w T0 L0) (hb1 : 1 ≤ b)
    (hd : ∀ i, i < r → d i ≠ 0) (hT : ∀ i, i < r → ∀ j, j ≤ m + r → Itg b (T0 i j * (d i : Rat))) (hdL : dL ≠ 0) (hL : ∀ j, j ≤ m + r → Itg b (L0 j * (dL : Rat))) :
    ∀ (q : Nat) (T : Nat → Nat → Rat) (L : Nat → Rat) (B : Nat → Nat), Eqv m r T0 L0 T L B → cn m B r = q →
      ∃ E : Int, E ≠ 0 ∧ E.natAbs < 2 ^ (bq b q) ∧ (∀ i, i < r → ∀ j, j ≤ m + r → Itg (bq b q) (T i j * fac m d B i * (E : Rat))) ∧ ∀ j, j ≤ m + r → Itg (bq b q) (L j * (dL : Rat) * (E : Rat))
  | 0, T, L, B, h, hq => by
    have hB := cn_zero hq
    refine ⟨1, by decide, Nat.one_lt_two_pow (by show b ≠ 0; omega), fun i hi j hj => ?_, fun j hj => ?_⟩
    · have hbi := h.bas.lt i hi
      have hmi := hB i hi
      refine itg_congr ?_ (hT (B i - m) (by omega) j hj)
      have e1 : T i j = T0 (B i - m) j := by
        rw [h.bas.coef (h.fro (B i - m) (by omega)) j, sm_one hi fun k hk hne => ?_]
        · have := h0.fill (B i - m) (B i - m) (by omega) (by omega)
          rw [show m + (B i - m) = B i by omega, if_pos rfl] at this
          rw [this]; grind
        · have hbk := h.bas.lt k hk
          have hmk := hB k hk
          have := h0.fill (B i - m) (B k - m) (by omega) (by omega)
          rw [show m + (B k - m) = B k by omega] at this
          rw [this, if_neg fun e => hne ?_]
          · grind
          · have e2 : B k = B i := by omega
            have c1 := h.bas.col k k hk hk
            have c2 := h.bas.col k i hk hi
            rw [← e2, c1, if_pos rfl] at c2
            by_cases z : k = i
            · exact z
            · rw [if_neg z] at c2; grind
      unfold fac
      rw [if_neg (by omega), e1]
      grind
    · refine itg_congr ?_ (hL j hj)
      have e := h.bas.coef h.lin j
      rw [sm_zero fun k hk => by
        have hbk := h.bas.lt k hk
        have hmk := hB k hk
        have := h0.z (B k - m) (by omega)
        rw [show m + (B k - m) = B k by omega] at this
        rw [this, h.bas.zero k hk]; grind] at e
      have : L j = L0 j := by grind
      rw [this]
      grind
  | q + 1, T, L, B, h, hq => by
    obtain ⟨p, hp, hb⟩ := cn_pos (m := m) (B := B) (n := r) (by omega)
    have hpp := h.bas.col p p hp hp
    rw [if_pos rfl] at hpp
    obtain ⟨u, hu, hne⟩ : ∃ u, u < r ∧ T p (m + u) ≠ 0 := by
      by_cases c : ∃ u, u < r ∧ T p (m + u) ≠ 0
      · exact c
      · exfalso
        have e := h0.bas.coef (h.to p hp) (B p)
        rw [sm_zero fun k hk => by
          by_cases z : T p (m + k) = 0
          · rw [z]; grind
          · exact absurd ⟨k, hk, z⟩ c] at e
        rw [hpp] at e
        grind
    have h' := h.piv hp (show m + u < m + r by omega) hne
    have hc := cn_set (m := m) (B := B) (p := p) (u := m + u) (by omega) hb (n := r)
    rw [if_pos hp] at hc
    obtain ⟨E, E1, E2, r1, r2⟩ := com_all h0 hb1 hd hT hdL hL q _ _ _ h' (by omega)
    have hs : B p ≤ m + r := by omega
    have k1 : pivT T p (m + u) p (B p) = 1 / T p (m + u) := by unfold pivT; rw [if_pos rfl, hpp]
    have k0 : pivT T p (m + u) p (B p) ≠ 0 := by rw [k1]; grind
    have k2 : ∀ j, pivT T p (m + u) p j = T p j / T p (m + u) := fun j => by unfold pivT; rw [if_pos rfl]
    have fp : fac m d (pivB B p (m + u)) p = ((d u : Int) : Rat) := by
      unfold fac pivB
      rw [if_pos rfl, if_neg (by omega), show m + u - m = u by omega]
    have du := ic0 (hd u hu)
    have E0 := ic0 E1
    have hP := r1 p hp (B p) hs
    rw [fp] at hP
    obtain ⟨P, P1, P2⟩ := hP
    have P0 : (P : Rat) ≠ 0 := by
      rw [← P2]
      have : pivT T p (m + u) p (B p) * (d u : Rat) ≠ 0 := fun z => by
        rcases Rat.mul_eq_zero.mp z with z | z
        · exact k0 z
        · exact du z
      intro z
      rcases Rat.mul_eq_zero.mp z with z | z
      · exact this z
      · exact E0 z
    have Pi : P ≠ 0 := fun z => P0 (by rw [z, Rat.intCast_zero])
    have cE : ((E * P : Int) : Rat) = (E : Rat) * (P : Rat) := Rat.intCast_mul ..
    have hPI : Itg (bq b q) (P : Rat) := ⟨P, P1, rfl⟩
    have hEI : Itg (bq b q) (E : Rat) := ⟨E, E2, rfl⟩
    have hpj : ∀ j, j ≤ m + r → Itg (bq b q) (T p j / T p (m + u) * (d u : Rat) * (E : Rat)) := fun j hj => by
      have := r1 p hp j hj
      rwa [fp, k2] at this
    refine ⟨E * P, Int.mul_ne_zero E1 Pi, ?_, fun i hi j hj => ?_, fun j hj => ?_⟩
    · have := nmul E2 P1
      have hpw : (2 : Nat) ^ (2 * bq b q + 1) = 2 * 2 ^ (2 * bq b q) := by rw [Nat.pow_succ]; omega
      show _ < 2 ^ (2 * bq b q + 1)
      omega
    · rw [cE]
      by_cases c : i = p
      · subst c
        have fi : fac m d B i = 1 := by unfold fac; rw [if_pos hb]
        rw [fi]
        refine itg_congr ?_ (itg_mul (hpj j hj) hEI)
        rw [← P2, k1]
        have hd0 : T i (m + u) ≠ 0 := hne
        grind
      · have fi : fac m d (pivB B p (m + u)) i = fac m d B i := by unfold fac pivB; rw [if_neg c]
        have x1 := r1 i hi j hj
        have x2 := r1 i hi (B p) hs
        rw [fi] at x1 x2
        have z := h.bas.col i p hi hp
        rw [if_neg c] at z
        refine itg_congr ?_ (itg_cross x1 hPI x2 (hpj j hj))
        have e1 : pivT T p (m + u) i j = T i j - T i (m + u) * (T p j / T p (m + u)) := by unfold pivT; rw [if_neg c]
        have e2 : pivT T p (m + u) i (B p) = - (T i (m + u) * (1 / T p (m + u))) := by unfold pivT; rw [if_neg c, hpp, z]; grind
        rw [← P2, k1, e1, e2]
        generalize fac m d B i = F
        have hd0 : T p (m + u) ≠ 0 := hne
        grind
    · rw [cE]
      have x1 := r2 j hj
      have x2 := r2 (B p) hs
      have z := h.bas.zero p hp
      refine itg_congr ?_ (itg_cross x1 hPI x2 (hpj j hj))
      have e1 : pivL T L p (m + u) j = L j - L (m + u) * (T p j / T p (m + u)) := rfl
      have e2 : pivL T L p (m + u) (B p) = - (L (m + u) * (1 / T p (m + u))) := by unfold pivL; rw [hpp, z]; grind
      rw [← P2, k1, e1, e2]
      have hd0 : T p (m + u) ≠ 0 := hne
      grind
theorem bq_eq (b : Nat) : ∀ q, bq b q + 1 = (b + 1) * 2 ^ q
  | 0 => by simp [bq]
  | q + 1 => by
    have := bq_eq b q
    rw [Nat.pow_succ, ← Nat.mul_assoc, ← this]
    show 2 * bq b q + 1 + 1 = _
    omega
theorem bq_mono {b p q : Nat} (h : p ≤ q) : bq b p ≤ bq b q := by
  have h1 := bq_eq b p
  have h2 := bq_eq b q
  have h3 := Nat.mul_le_mul_left (b + 1) (Nat.pow_le_pow_right (n := 2) (by decide) h)
  omega
theorem cn_le (m : Nat) (B : Nat → Nat) : ∀ n, cn m B n ≤ n
  | 0 => Nat.le_refl _
  | n + 1 => by
    have := cn_le m B n
    unfold cn
    split <;> omega
theorem cn_len (m : Nat) (B : Nat → Nat) : ∀ n, cn m B n = (((List.range n).filter fun i => decide (B i < m)).map B).length
  | 0 => rfl
  | n + 1 => by
    rw [List.range_succ, List.filter_append, List.map_append, List.length_append, ← cn_len m B n]
    show (cn m B n + if B n < m then 1 else 0) = _
    by_cases c : B n < m
    · simp [c]
    · simp [c]
theorem cn_lem {m r N : Nat} {T : Nat → Nat → Rat} {L : Nat → Rat} {B : Nat → Nat} (h : Bas r N T L B) : cn m B r ≤ m := by
  have key : (((List.range r).filter fun i => decide (B i < m)).map B).length ≤ (List.range m).length := by
    refine nodup_len ?_ fun k hk => ?_
    · refine List.Pairwise.map B (fun a b hab => hab) (List.Pairwise.imp_of_mem (R := fun a b => a ≠ b) (fun {a b} ha hb hab e => hab ?_) (List.Pairwise.filter _ (List.nodup_range)))
      have ha' := List.mem_range.mp (List.mem_filter.mp ha).1
      have hb' := List.mem_range.mp (List.mem_filter.mp hb).1
      have c1 := h.col a a ha' ha'
      have c2 := h.col a b ha' hb'
      rw [← e, c1, if_pos rfl] at c2
      by_cases z : a = b
      · exact z
      · rw [if_neg z] at c2; grind
    · obtain ⟨i, hi, rfl⟩ := List.mem_map.mp hk
      exact List.mem_range.mpr (of_decide_eq_true (List.mem_filter.mp hi).2)
  rw [← cn_len] at key
  simpa using key
end Smp
/-! QS8: the state of the loop and its history. -/
namespace Smp
def upd {α : Type} (f : Nat → α) (k : Nat) (x : α) : Nat → α := fun t => if t = k then x else f t
theorem upd_self {α : Type} (f : Nat → α) (k : Nat) (x : α) : upd f k x k = x := if_pos rfl
theorem upd_ne {α : Type} (f : Nat → α) (k : Nat) (x : α) {t : Nat} (h : t ≠ k) : upd f k x t = f t := if_neg h
/-- a state that a run of k steps led to -/
def At (m r : Nat) (T0 : Nat → Nat → Rat) (L0 : Nat → Rat) (k : Nat) (T : Nat → Nat → Rat) (L : Nat → Rat) (B : Nat → Nat) : Prop :=
  ∃ (Ts : Nat → Nat → Nat → Rat) (Ls : Nat → Nat → Rat) (Bs : Nat → Nat → Nat) (p s : Nat → Nat), Run r (m + r) k Ts Ls Bs p s ∧ Ts 0 = T0 ∧ Ls 0 = L0 ∧ Ts k = T ∧ Ls k = L ∧ Bs k = B
section
variable {m r k : Nat} {A : Nat → Nat → Rat} {bb w : Nat → Rat} {T0 T : Nat → Nat → Rat} {L0 L : Nat → Rat} {B : Nat → Nat}
theorem At.start (h0 : First m r A bb w T0 L0) (hb : ∀ i, i < r → 0 ≤ bb i) : At m r T0 L0 0 T0 L0 fun i => m + i :=
  ⟨fun _ => T0, fun _ => L0, fun _ i => m + i, fun _ => 0, fun _ => 0, {
    bas := h0.bas
    pr := fun t ht => by omega
    sN := fun t ht => by omega
    nT := fun t ht => by omega
    nL := fun t ht => by omega
    nB := fun t ht => by omega
    neg := fun t ht => by omega
    first := fun t ht => by omega
    pos := fun t ht => by omega
    feas := fun t ht i hi => by rw [h0.b i hi]; exact hb i hi
    leave := fun t ht => by omega }, rfl, rfl, rfl, rfl, rfl⟩
theorem At.short (h : At m r T0 L0 k T L B) : k < 2 ^ (m + r) := by
  obtain ⟨Ts, Ls, Bs, p, s, hr, _⟩ := h
  exact hr.short
theorem At.feas (h : At m r T0 L0 k T L B) : ∀ i, i < r → 0 ≤ T i (m + r) := by
  obtain ⟨Ts, Ls, Bs, p, s, hr, _, _, rfl, _⟩ := h
  exact fun i hi => hr.feas k (Nat.le_refl k) i hi
theorem At.eqv (h : At m r T0 L0 k T L B) : Eqv m r T0 L0 T L B := by
  obtain ⟨Ts, Ls, Bs, p, s, hr, rfl, rfl, rfl, rfl, rfl⟩ := h
  have h1 := hr.basAt k (Nat.le_refl k)
  obtain ⟨h2, h3, h4⟩ := hr.ahead 0 k (by omega)
  rw [Nat.zero_add] at h2 h3 h4
  exact ⟨h1, h3, h2, lin_trans h3 h4⟩
theorem At.step (h : At m r T0 L0 k T L B) {p s : Nat} (hs : s < m + r) (hn : L s < 0) (hf : ∀ j, j < s → 0 ≤ L j) (hp : p < r) (h0 : 0 < T p s)
    (hr : ∀ i, i < r → 0 < T i s → T p (m + r) / T p s ≤ T i (m + r) / T i s) (ht : ∀ i, i < r → 0 < T i s → T i (m + r) / T i s = T p (m + r) / T p s → B p ≤ B i) :
    At m r T0 L0 (k + 1) (pivT T p s) (pivL T L p s) (pivB B p s) := by
  have hfe := feas_piv (N := m + r) hp h0 h.feas hr
  obtain ⟨Ts, Ls, Bs, ps, ss, hR, e1, e2, rfl, rfl, rfl⟩ := h
  have up : ∀ {α : Type} (f : Nat → α) (x : α) (t : Nat), t ≤ k → upd f (k + 1) x t = f t := fun f x t ht => upd_ne f _ x (by omega)
  have uk : ∀ {α : Type} (f : Nat → α) (x : α), upd f (k + 1) x (k + 1) = x := fun f x => upd_self f _ x
  have vp : ∀ {α : Type} (f : Nat → α) (x : α) (t : Nat), t < k → upd f k x t = f t := fun f x t ht => upd_ne f _ x (by omega)
  have vk : ∀ {α : Type} (f : Nat → α) (x : α), upd f k x k = x := fun f x => upd_self f _ x
  refine ⟨upd Ts (k + 1) (pivT (Ts k) p s), upd Ls (k + 1) (pivL (Ts k) (Ls k) p s), upd Bs (k + 1) (pivB (Bs k) p s),
    upd ps k p, upd ss k s, ?_, ?_, ?_, ?_, ?_, ?_⟩
  · constructor
    · rw [up _ _ 0 (by omega), up _ _ 0 (by omega), up _ _ 0 (by omega)]; exact hR.bas
    · intro t ht'
      by_cases c : t = k
      · subst c; rw [vk]; exact hp
      · rw [vp _ _ t (by omega)]; exact hR.pr t (by omega)
    · intro t ht'
      by_cases c : t = k
      · subst c; rw [vk]; exact hs
      · rw [vp _ _ t (by omega)]; exact hR.sN t (by omega)
    · intro t ht'
      by_cases c : t = k
      · subst c; rw [uk, up _ _ t (by omega), vk, vk]
      · rw [up _ _ (t + 1) (by omega), up _ _ t (by omega), vp _ _ t (by omega), vp _ _ t (by omega)]; exact hR.nT t (by omega)
    · intro t ht'
      by_cases c : t = k
      · subst c; rw [uk, up _ _ t (by omega), up _ _ t (by omega), vk, vk]
      · rw [up _ _ (t + 1) (by omega), up _ _ t (by omega), up _ _ t (by omega), vp _ _ t (by omega), vp _ _ t (by omega)]; exact hR.nL t (by omega)
    · intro t ht'
      by_cases c : t = k
      · subst c; rw [uk, up _ _ t (by omega), vk, vk]
      · rw [up _ _ (t + 1) (by omega), up _ _ t (by omega), vp _ _ t (by omega), vp _ _ t (by omega)]; exact hR.nB t (by omega)
    · intro t ht'
      by_cases c : t = k
      · subst c; rw [up _ _ t (by omega), vk]; exact hn
      · rw [up _ _ t (by omega), vp _ _ t (by omega)]; exact hR.neg t (by omega)
    · intro t ht'
      by_cases c : t = k
      · subst c; rw [up _ _ t (by omega), vk]; exact hf
      · rw [up _ _ t (by omega), vp _ _ t (by omega)]; exact hR.first t (by omega)
    · intro t ht'
      by_cases c : t = k
      · subst c; rw [up _ _ t (by omega), vk, vk]; exact h0
      · rw [up _ _ t (by omega), vp _ _ t (by omega), vp _ _ t (by omega)]; exact hR.pos t (by omega)
    · intro t ht'
      by_cases c : t = k + 1
      · subst c; rw [uk]; exact hfe
      · rw [up _ _ t (by omega)]; exact hR.feas t (by omega)
    · intro t ht'
      by_cases c : t = k
      · subst c
        rw [up _ _ t (by omega), up _ _ t (by omega), vk, vk]
        intro i hi hpos z1 z2
        refine ht i hi hpos ?_
        rw [z1, z2]
        grind
      · rw [up _ _ t (by omega), up _ _ t (by omega), vp _ _ t (by omega), vp _ _ t (by omega)]; exact hR.leave t (by omega)
  · rw [up _ _ 0 (by omega)]; exact e1
  · rw [up _ _ 0 (by omega)]; exact e2
  · exact uk _ _
  · exact uk _ _
  · exact uk _ _
/-- the column that enters -/
def Ent (N : Nat) (L : Nat → Rat) (s : Nat) : Prop := s < N ∧ L s < 0 ∧ ∀ j, j < s → 0 ≤ L j
/-- the row that leaves, of the first n -/
def Lea (N : Nat) (T : Nat → Nat → Rat) (B : Nat → Nat) (s n p : Nat) : Prop := p < n ∧ 0 < T p s ∧ (∀ i, i < n → 0 < T i s → T p N / T p s ≤ T i N / T i s) ∧ ∀ i, i < n → 0 < T i s → T i N / T i s = T p N / T p s → B p ≤ B i
/-- what is asked of the numbers -/
structure Num (m r b Q c : Nat) (T0 : Nat → Nat → Rat) (L0 : Nat → Rat) (d : Nat → Int) (dL : Int) : Prop where
  b1 : 1 ≤ b
  d0 : ∀ i, i < r → d i ≠ 0
  dB : ∀ i, i < r → (d i).natAbs < 2 ^ b
  T : ∀ i, i < r → ∀ j, j ≤ m + r → Itg b (T0 i j * (d i : Rat))
  dL0 : dL ≠ 0
  dLB : dL.natAbs < 2 ^ b
  L : ∀ j, j ≤ m + r → Itg b (L0 j * (dL : Rat))
  q : m ≤ Q ∨ r ≤ Q
  c : bq b Q + b ≤ c
theorem itg_c {b c : Nat} {x : Rat} (h : Itg b x) (hb : b ≤ c) : Itg c x := itg_mono h hb
theorem num_all {b Q c : Nat} {d : Nat → Int} {dL : Int} (h0 : First m r A bb w T0 L0) (hn : Num m r b Q c T0 L0 d dL) (h : Eqv m r T0 L0 T L B) :
    ∃ E : Int, E ≠ 0 ∧ E.natAbs < 2 ^ (bq b Q) ∧ (∀ i, i < r → ∀ j, j ≤ m + r → Itg (bq b Q) (T i j * fac m d B i * (E : Rat))) ∧ ∀ j, j ≤ m + r → Itg (bq b Q) (L j * (dL : Rat) * (E : Rat)) := by
  obtain ⟨E, h1, h2, h3, h4⟩ := com_all h0 hn.b1 hn.d0 hn.T hn.dL0 hn.L _ T L B h rfl
  have hq : cn m B r ≤ Q := by
    rcases hn.q with z | z
    · exact Nat.le_trans (cn_lem h.bas) z
    · exact Nat.le_trans (cn_le m B r) z
  have hb := bq_mono (b := b) hq
  have hp := Nat.pow_le_pow_right (n := 2) (by decide) hb
  exact ⟨E, h1, by omega, fun i hi j hj => itg_mono (h3 i hi j hj) hb, fun j hj => itg_mono (h4 j hj) hb⟩
/-- few bits above and below -/
def Rb (c : Nat) (x : Rat) : Prop := ∃ (n d : Int), d ≠ 0 ∧ n.natAbs < 2 ^ c ∧ d.natAbs < 2 ^ c ∧ x * (d : Rat) = (n : Rat)
theorem num_bits {b Q c : Nat} {d : Nat → Int} {dL : Int} (h0 : First m r A bb w T0 L0) (hn : Num m r b Q c T0 L0 d dL) (h : Eqv m r T0 L0 T L B) :
    (∀ i, i < r → ∀ j, j ≤ m + r → Rb c (T i j)) ∧ ∀ j, j ≤ m + r → Rb c (L j) := by
  obtain ⟨E, h1, h2, h3, h4⟩ := num_all h0 hn h
  have hc := hn.c
  have p1 := Nat.pow_le_pow_right (n := 2) (by decide) (show bq b Q ≤ c by omega)
  have p2 := Nat.pow_le_pow_right (n := 2) (by decide) (show b + bq b Q ≤ c by omega)
  refine ⟨fun i hi j hj => ?_, fun j hj => ?_⟩
  · obtain ⟨n, n1, n2⟩ := h3 i hi j hj
    unfold fac at n2
    by_cases z : B i < m
    · rw [if_pos z] at n2
      exact ⟨n, E, h1, by omega, by omega, by rw [← n2]; grind⟩
    · rw [if_neg z] at n2
      have hbi := h.bas.lt i hi
      have d1 := hn.d0 (B i - m) (by omega)
      have d2 := hn.dB (B i - m) (by omega)
      refine ⟨n, d (B i - m) * E, Int.mul_ne_zero d1 h1, by omega, ?_, by rw [← n2, Rat.intCast_mul]; grind⟩
      rw [Int.natAbs_mul]
      refine Nat.lt_of_lt_of_le ?_ p2
      rw [Nat.pow_add]
      exact Nat.mul_lt_mul_of_lt_of_le d2 (Nat.le_of_lt h2) (Nat.two_pow_pos _)
  · obtain ⟨n, n1, n2⟩ := h4 j hj
    refine ⟨n, dL * E, Int.mul_ne_zero hn.dL0 h1, by omega, ?_, by rw [← n2, Rat.intCast_mul]; grind⟩
    rw [Int.natAbs_mul]
    refine Nat.lt_of_lt_of_le ?_ p2
    rw [Nat.pow_add]
    exact Nat.mul_lt_mul_of_lt_of_le hn.dLB (Nat.le_of_lt h2) (Nat.two_pow_pos _)
end
end Smp
namespace Py
open PySem D
local macro_rules
  | `(tactic| walk_at "w") => `(tactic| with_reducible first
    | refine seq_nx ?_ | refine seq_rt ?_ | refine seq_bk ?_ | refine seq_ct ?_ | refine wp_seq ?_ | refine wp_asg ?_ | refine wp_next ?_ | refine wp_ret ?_ | refine wp_retN ?_ | refine wp_brk ?_ | refine wp_cont ?_ | refine wp_expr ?_ | refine wp_op ?_ | refine wp_un ?_ | refine wp_c ?_
    | refine unB ?_ | refine wp_truB ?_ | refine wp_and ?_ | refine wp_or ?_ | refine wp_not ?_ | refine wp_ifE ?_ | refine wp_tup ?_ | refine wp_lst ?_ | refine wp_lcons ?_ | refine wp_lnil ?_ | refine frzV ?_ | refine frzN ?_ | refine wp_frz ?_ | refine wp_sl ?_ | refine wp_onone ?_ | refine wp_osome ?_
    | refine wp_anil ?_ | refine wp_av ?_ | refine wp_andV ?_ | refine wp_orV ?_ | refine wp_notV ?_ | refine wp_fgtR ?_ | refine turn_nx ?_ | refine turn_rt ?_ | refine turn_bk ?_ | refine turn_ct ?_ | refine fgt_rt ?_ | refine wp_par ?_ | refine wp_chain ?_ | refine wp_seqI ?_)
local macro_rules
  | `(tactic| walk_at "put") => `(tactic| focus ((repeat apply PutR.s); first | exact PutR.z rfl | exact PutR.z (by assumption)))
local macro_rules
  | `(tactic| walk_at "set") => `(tactic| focus ((repeat apply SetR.s); first | exact SetR.o | exact SetR.r))
local macro_rules
  | `(tactic| walk_at "fgt") => `(tactic| focus (repeat first | exact FgtsR.nil | exact FgtR.k | exact FgtR.z rfl | exact FgtR.z (by assumption) | apply FgtR.s | apply FgtsR.cons))
local macro_rules
  | `(tactic| walk_at "x") => `(tactic| first
    | ((with_reducible apply wp_varV); (focus exact rfl)) | ((with_reducible apply wp_varO); (focus exact rfl)) | ((with_reducible apply wp_varR); (focus exact rfl))
    | ((with_reducible apply opq); (focus exact rfl); (focus exact rfl); (focus (first | exact ev_eqI | exact ev_neI | exact ev_ltI | exact ev_leI | exact ev_gtI | exact ev_geI | exact ev_in2 | exact ev_in2n | exact ev_in4n | exact ev_isT | exact ev_isF | exact ev_isnT | exact ev_isnF | exact ev_strT | exact ev_strF n1 | exact ev_strF n2 | exact ev_strF n3 | exact ev_strF n4 | exact ev_strF n5 | exact ev_strF n6 | exact rfl)))
    | ((with_reducible apply unq); (focus exact rfl); (focus exact rfl))
    | ((with_reducible first | apply putqV | apply putqN); walk_at "put")
    | ((with_reducible apply putqB); (focus exact rfl); (focus exact rfl); walk_at "put"; walk_at "put")
    | ((with_reducible apply putq2); walk_at "put"; walk_at "put")
    | ((with_reducible apply parq); walk_at "put"; walk_at "put")
    | ((with_reducible apply wp_callR); (focus (repeat first | exact RefsR.nil | apply RefsR.v | apply RefsR.r)); (focus decide))
    | ((with_reducible apply wp_ar); (focus exact rfl))
    | ((with_reducible apply fin_rt); (focus exact rfl); (focus exact rfl))
    | ((with_reducible apply fin_nx); (focus exact rfl))
    | ((with_reducible apply wp_appendR); (focus exact rfl))
    | (with_reducible refine ⟨_, rfl, ?_⟩) | (with_reducible refine ⟨_, .inl rfl, ?_⟩) | (with_reducible refine ⟨_, .inr (.inl rfl), ?_⟩) | (with_reducible refine ⟨_, .inr (.inr rfl), ?_⟩)
    | (with_reducible apply callq0) | ((with_reducible apply frzB); (focus exact rfl); (focus exact rfl); walk_at "put")
    | ((with_reducible apply callq1); walk_at "set")
    | ((with_reducible apply callq2); walk_at "set"; walk_at "set")
    | ((with_reducible first | apply fgt_nx | apply fgt_bk | apply fgt_ct); walk_at "fgt")
    | ((with_reducible apply brT); (focus exact rfl)) | ((with_reducible apply brF); (focus exact rfl)))
local macro_rules
  | `(tactic| walk_at "r") => `(tactic| repeat first | walk_at "w" | walk_at "x")
local macro_rules
  | `(tactic| walk_at "ri") => `(tactic| repeat first | walk_at "w" | walk_at "x" | (with_reducible refine wp_if ?_))
local macro_rules
  | `(tactic| walk_at "app") => `(tactic| ((with_reducible apply appq); (focus exact rfl); (focus ((try simp only [List.length_map, List.length_nil, List.length_cons, List.length_append]); unfold line; omega)); walk_at "set"))
local macro_rules
  | `(tactic| walk_at "mul") => `(tactic| ((refine opq rfl rfl (ev_mul ?_) ?_); (focus (apply mulT <;> omega))))
local macro_rules
  | `(tactic| walk_at "rm") => `(tactic| repeat first | walk_at "w" | walk_at "x" | walk_at "mul")
local macro_rules
  | `(tactic| walk_at "len") => `(tactic| (refine And.intro ?_ ?_; (focus (simp [line]; done))))
local macro_rules
  | `(tactic| walk_at "rl") => `(tactic| repeat first | walk_at "w" | walk_at "x" | walk_at "len")
local macro_rules
  | `(tactic| walk_at "ril") => `(tactic| repeat first | walk_at "w" | walk_at "x" | walk_at "len" | (with_reducible refine wp_if ?_))
/-! QUa: numbers as Rat: arithmetic of the program by rational numbers. -/
/-- a rational number as a pair -/
def rq (x : Rat) : PV := fr (x.num, (x.den : Int))
theorem low_num (x : Rat) : Low (x.num, (x.den : Int)) := ⟨by show (0 : Int) < x.den; have := x.den_pos; omega, by
  show Int.gcd x.num x.den = 1
  have := x.reduced
  unfold Nat.Coprime at this
  rw [Int.gcd]
  simpa using this⟩
theorem qv_nd (x : Rat) : qv (x.num, (x.den : Int)) = x := by
  have h := Rat.num_divInt_den x
  rw [Rat.divInt_eq_div] at h
  exact h
theorem num_qv {p : Int × Int} (h : Low p) : ((qv p).num, ((qv p).den : Int)) = p := low_qv (low_num _) h (qv_nd _)
theorem fr_rq {p : Int × Int} (h : Low p) : fr p = rq (qv p) := by unfold rq; rw [num_qv h]
theorem fr_rq' {p : Int × Int} {x : Rat} (h : Low p) (e : qv p = x) : fr p = rq x := by rw [fr_rq h, e]
/-- bits above and below -/
def Bq (m : Nat) (x : Rat) : Prop := x.num.natAbs < 2 ^ m ∧ x.den < 2 ^ m
theorem Bq.mono {m n : Nat} {x : Rat} (h : Bq m x) (hmn : m ≤ n) : Bq n x := by
  have hp := Nat.pow_le_pow_right (n := 2) (by decide) hmn
  exact ⟨by have := h.1; omega, by have := h.2; omega⟩
theorem Bq.bt {m : Nat} {x : Rat} (h : Bq m x) : Bt m (x.num, (x.den : Int)) := ⟨(low_num x).1, h.1, by simpa using h.2⟩
theorem bq_of {m : Nat} {x : Rat} {n d : Int} (hd : d ≠ 0) (e : x * (d : Rat) = (n : Rat)) (h1 : n.natAbs < 2 ^ m) (h2 : d.natAbs < 2 ^ m) : Bq m x := by
  have hc := ic_ne hd
  have := low_bd (p := (x.num, (x.den : Int))) (n := n) (d := d) (low_num x) hd (by rw [qv_nd]; grind)
  refine ⟨by have := this.1; dsimp only at this; omega, ?_⟩
  have h3 := this.2
  dsimp only at h3
  rw [Int.natAbs_natCast] at h3
  omega
theorem bq_rb {m : Nat} {x : Rat} (h : Smp.Rb m x) : Bq m x := by
  obtain ⟨n, d, h1, h2, h3, h4⟩ := h
  exact bq_of h1 h4 h2 h3
theorem bq_qv {m : Nat} {p : Int × Int} (hl : Low p) (h : Bt m p) : Bq m (qv p) := by
  have e := num_qv hl
  have e1 : (qv p).num = p.1 := congrArg Prod.fst e
  have e2 : ((qv p).den : Int) = p.2 := congrArg Prod.snd e
  refine ⟨by rw [e1]; exact h.2.1, ?_⟩
  have := h.2.2
  rw [← e2, Int.natAbs_natCast] at this
  exact this
theorem bq_0 : Bq 1 0 := ⟨by decide, by decide⟩
theorem bq_1 : Bq 1 1 := ⟨by decide, by decide⟩
section
variable {x y : Rat} {m n : Nat}
theorem bq_val {p : Int × Int} {m : Nat} {x : Rat} (hl : Low p) (h : Bt m p) (e : qv p = x) : Bq m x := e ▸ bq_qv hl h
theorem bq_mul (hx : Bq m x) (hy : Bq n y) : Bq (m + n) (x * y) :=
  bq_val (low_times hx.bt.1 hy.bt.1) (bt_times hx.bt hy.bt) (by rw [qv_times (low_num x).ne (low_num y).ne, qv_nd, qv_nd])
theorem bq_add (hx : Bq m x) (hy : Bq n y) : Bq (m + n + 1) (x + y) :=
  bq_val (low_plus hx.bt.1 hy.bt.1) (bt_plus hx.bt hy.bt) (by rw [qv_plus (low_num x).ne (low_num y).ne, qv_nd, qv_nd])
theorem bq_neg (hx : Bq m x) : Bq m (-x) := by
  refine ⟨?_, ?_⟩
  · rw [Rat.neg_num, Int.natAbs_neg]; exact hx.1
  · rw [Rat.neg_den]; exact hx.2
theorem bq_sub (hx : Bq m x) (hy : Bq n y) : Bq (m + n + 1) (x - y) := by
  rw [Rat.sub_eq_add_neg]
  exact bq_add hx (bq_neg hy)
theorem bq_inv (hx : Bq m x) (h0 : x ≠ 0) : Bq m x⁻¹ := by
  have hn : x.num ≠ 0 := fun z => h0 (Rat.num_eq_zero.mp z)
  refine bq_of (n := x.den) (d := x.num) hn ?_ (by simpa using hx.2) hx.1
  have h1 : (x.num : Rat) = x * (x.den : Rat) := by
    have := qv_nd x
    unfold qv at this
    have hd : ((x.den : Int) : Rat) ≠ 0 := ic_ne (by have := x.den_pos; omega)
    have e : ((x.den : Int) : Rat) = (x.den : Rat) := rfl
    rw [← e]
    dsimp only at this
    grind
  rw [h1]
  have e : ((x.den : Int) : Rat) = (x.den : Rat) := rfl
  rw [e, ← Rat.mul_assoc, Rat.inv_mul_cancel x h0]
  grind
theorem bq_div (hx : Bq m x) (hy : Bq n y) (h0 : y ≠ 0) : Bq (m + n) (x / y) := by
  rw [Rat.div_def]
  exact bq_mul hx (bq_inv hy h0)
variable {Q : R → List Ob → Prop}
theorem of_plusQ (hx : Bq m x) (hy : Bq n y) (h : m + n < 100000000) (k : Q (.val (rq (x + y))) []) : Ret d_plus [.val (rq x), .val (rq y)] Q := by
  refine of_plus (low_num x).ne (low_num y).ne (okM_bt hx.bt hy.bt h) ?_
  rw [fr_rq' (low_plus hx.bt.1 hy.bt.1) (by rw [qv_plus (low_num x).ne (low_num y).ne, qv_nd, qv_nd])]
  exact k
theorem of_minusQ (hx : Bq m x) (hy : Bq n y) (h : m + n < 100000000) (k : Q (.val (rq (x - y))) []) : Ret d_minus [.val (rq x), .val (rq y)] Q := by
  refine of_minus (low_num x).ne (low_num y).ne (okM_bt hx.bt hy.bt h) ?_
  rw [fr_rq' (low_minus hx.bt.1 hy.bt.1) (by rw [qv_minus (low_num x).ne (low_num y).ne, qv_nd, qv_nd])]
  exact k
theorem of_timesQ (hx : Bq m x) (hy : Bq n y) (h : m + n < 100000000) (k : Q (.val (rq (x * y))) []) : Ret d_times [.val (rq x), .val (rq y)] Q := by
  refine of_times (low_num x).ne (low_num y).ne (okM_bt hx.bt hy.bt h) ?_
  rw [fr_rq' (low_times hx.bt.1 hy.bt.1) (by rw [qv_times (low_num x).ne (low_num y).ne, qv_nd, qv_nd])]
  exact k
theorem of_lplusQ (hx : Bq m x) (hy : Bq n y) (h : m + n < 100000000) (k : Q (.val (rq (x + y))) []) : Ret d_law_plus [.val (rq x), .val (rq y)] Q := by
  refine of_lplus (low_num x).ne (low_num y).ne (okM_bt hx.bt hy.bt h) ?_
  rw [fr_rq' (low_plus hx.bt.1 hy.bt.1) (by rw [qv_plus (low_num x).ne (low_num y).ne, qv_nd, qv_nd])]
  exact k
theorem of_lminusQ (hx : Bq m x) (hy : Bq n y) (h : m + n < 100000000) (k : Q (.val (rq (x - y))) []) : Ret d_law_minus [.val (rq x), .val (rq y)] Q := by
  refine of_lminus (low_num x).ne (low_num y).ne (okM_bt hx.bt hy.bt h) ?_
  rw [fr_rq' (low_minus hx.bt.1 hy.bt.1) (by rw [qv_minus (low_num x).ne (low_num y).ne, qv_nd, qv_nd])]
  exact k
theorem of_ltimesQ (hx : Bq m x) (hy : Bq n y) (h : m + n < 100000000) (k : Q (.val (rq (x * y))) []) : Ret d_law_times [.val (rq x), .val (rq y)] Q := by
  refine of_ltimes (low_num x).ne (low_num y).ne (okM_bt hx.bt hy.bt h) ?_
  rw [fr_rq' (low_times hx.bt.1 hy.bt.1) (by rw [qv_times (low_num x).ne (low_num y).ne, qv_nd, qv_nd])]
  exact k
theorem of_lessQ (hx : Bq m x) (hy : Bq n y) (h : m + n < 100000000) (k : Q (.val (.bool (decide (x < y)))) []) : Ret d_is_less [.val (rq x), .val (rq y)] Q := by
  refine of_less (okM_bt hx.bt hy.bt h) ?_
  rw [less_qv hx.bt.1 hy.bt.1, qv_nd, qv_nd]
  exact k
theorem of_llessQ (hx : Bq m x) (hy : Bq n y) (h : m + n < 100000000) (k : Q (.val (.bool (decide (x < y)))) []) : Ret d_law_less [.val (rq x), .val (rq y)] Q := by
  refine of_lless (okM_bt hx.bt hy.bt h) ?_
  rw [less_qv hx.bt.1 hy.bt.1, qv_nd, qv_nd]
  exact k
theorem of_dividedQ (hx : Bq m x) (hy : Bq n y) (h0 : y ≠ 0) (h : m + n < 100000000) (k : Q (.val (rq (x / y))) []) : Ret d_divided [.val (rq x), .val (rq y)] Q := by
  have hn : y.num ≠ 0 := fun z => h0 (Rat.num_eq_zero.mp z)
  refine ret_mkR (by repeat constructor) ?_
  unfold b_divided
  walk_at "r"
  refine opq rfl rfl (ev_mul (mulOk_of _ _ hx.bt.2.1 hy.bt.2.2 h)) ?_
  walk_at "r"
  refine opq rfl rfl (ev_mul (mulOk_of _ _ hx.bt.2.2 hy.bt.2.1 h)) ?_
  walk_at "r"
  have hd : (x.den : Int) * y.num ≠ 0 := Int.mul_ne_zero (by have := x.den_pos; omega) hn
  refine of_fraction hd ?_
  walk_at "r"
  have e : fr (rat (x.num * (y.den : Int)) ((x.den : Int) * y.num)) = rq (x / y) := by
    refine fr_rq' (low_rat hd) ?_
    rw [qv_rat hd]
    have e1 := qv_nd x
    have e2 := qv_nd y
    unfold qv at e1 e2
    dsimp only at e1 e2
    have a1 := ic_ne (a := (x.den : Int)) (by have := x.den_pos; omega)
    have a2 := ic_ne (a := (y.den : Int)) (by have := y.den_pos; omega)
    have a3 := ic_ne hn
    rw [Rat.intCast_mul, Rat.intCast_mul]
    generalize ((x.den : Int) : Rat) = xd at *
    generalize ((y.den : Int) : Rat) = yd at *
    generalize ((x.num : Int) : Rat) = xn at *
    generalize ((y.num : Int) : Rat) = yn at *
    rw [← e1, ← e2]
    grind
  show Q (.val (fr (rat (x.num * (y.den : Int)) ((x.den : Int) * y.num)))) []
  rw [e]
  exact k
end
theorem rq_inj {x y : Rat} (h : rq x = rq y) : x = y := by
  unfold rq fr at h
  simp only [PyData.tuple.injEq, List.cons.injEq, PyData.int.injEq, and_true] at h
  exact Rat.ext h.1 (by omega)
theorem ev_eqQ {x y : Rat} : fEq (.pv (rq x)) (.pv (rq y)) = some (.val (.bool (decide (x = y)))) := by
  have e : fEq (.pv (rq x)) (.pv (rq y)) = some (.val (.bool (false ^^ PyData.eqv (rq x) (rq y)))) := rfl
  rw [e, Bool.false_xor]
  unfold rq
  rw [eqvFr]
  congr 3
  refine decide_eq_decide.mpr ⟨fun h => ?_, fun h => by rw [h]⟩
  have h1 := congrArg Prod.fst h
  have h2 := congrArg Prod.snd h
  dsimp only at h1 h2
  exact Rat.ext h1 (by omega)
theorem ev_eqQ0 {x : Rat} : fEq (.pv (rq x)) (.pv (.tuple [.int 0, .int 1])) = some (.val (.bool (decide (x = 0)))) := ev_eqQ (y := 0)
theorem ev_eqQ1 {x : Rat} : fEq (.pv (rq x)) (.pv (.tuple [.int 1, .int 1])) = some (.val (.bool (decide (x = 1)))) := ev_eqQ (y := 1)
/-! rows -/
def rowP (n : Nat) (f : Nat → Rat) : List PV := (List.range n).map fun j => rq (f j)
theorem rowP_len {n : Nat} {f : Nat → Rat} : (rowP n f).length = n := by simp [rowP]
theorem rowP_at {n j : Nat} {f : Nat → Rat} (h : j < n) : (rowP n f)[j]? = some (rq (f j)) := by simp [rowP, h]
theorem rowP_congr {n : Nat} {f g : Nat → Rat} (h : ∀ j, j < n → f j = g j) : rowP n f = rowP n g := by
  unfold rowP
  exact List.map_congr_left fun j hj => by rw [h j (List.mem_range.mp hj)]
theorem rowP_app {m n : Nat} {f g : Nat → Rat} : rowP m f ++ rowP n g = rowP (m + n) fun j => if j < m then f j else g (j - m) := by
  unfold rowP
  rw [List.range_add, List.map_append, List.map_map]
  congr 1
  · exact List.map_congr_left fun j hj => by dsimp only; rw [if_pos (List.mem_range.mp hj)]
  · exact List.map_congr_left fun j _ => by
      show _ = rq (if m + j < m then f (m + j) else g (m + j - m))
      rw [if_neg (by omega), show m + j - m = j by omega]
theorem rowP_one {x : Rat} : [rq x] = rowP 1 fun _ => x := rfl
theorem rowP_map {n : Nat} {f : Nat → Rat} : (List.range n).map (fun j => rq (f j)) = rowP n f := rfl
theorem rowP_list {row : List (Int × Int)} (h : ∀ p ∈ row, Low p) : row.map fr = rowP row.length fun j => qv (row.getD j (0, 1)) := by
  unfold rowP
  refine List.ext_getElem (by simp) fun i h1 h2 => ?_
  rw [List.length_map] at h1
  rw [List.getElem_map, List.getElem_map, List.getElem_range]
  rw [fr_rq (h _ (List.getElem_mem h1))]
  simp [h1]
theorem rowP_snoc {n : Nat} {f : Nat → Rat} : rowP (n + 1) f = rowP n f ++ [rq (f n)] := by
  unfold rowP
  rw [List.range_succ, List.map_append]
  rfl
theorem rowP_set {n p : Nat} {f : Nat → Rat} {x : Rat} (hp : p < n) : (rowP n f).set p (rq x) = rowP n fun j => if j = p then x else f j := by
  refine List.ext_getElem (by simp [rowP]) fun i h1 h2 => ?_
  simp only [rowP, List.length_set, List.length_map, List.length_range] at h1
  rw [List.getElem_set]
  simp only [rowP, List.getElem_map, List.getElem_range]
  by_cases c : p = i
  · rw [if_pos c, if_pos c.symm]
  · rw [if_neg c, if_neg (fun z => c z.symm)]
theorem rowP_const {n : Nat} {x : Rat} : (List.replicate n [rq x]).flatten = rowP n fun _ => x := by
  unfold rowP
  refine List.ext_getElem (by simp) fun i h1 h2 => ?_
  simp
/-! comprehensions that leave the names alone -/
theorem set_set {ρ : Env} {i : Nat} {a b : Option Sl} : (List.set ρ i a).set i b = List.set ρ i b := by simp
theorem wp_lcK {i : Nat} {it : MI} {e : M} {ρ ρ1 : Env} {Q : R → Env → Prop} (xs : List PV) (hv : Nat → PV) (hi : i < ρ1.length) (hl : xs.length ≤ line)
    (h : Wp it ρ fun ys ρ' => ys = xs ∧ ρ' = ρ1)
    (step : ∀ k (hk : k < xs.length), Wp e (List.set ρ1 i (some (.val xs[k]))) fun r ρ3 => FrzQ r ρ3 fun v ρ4 => v = hv k ∧ ρ4 = List.set ρ1 i (some (.val xs[k])))
    (q : Q (.new (.lst ((List.range xs.length).map hv))) ρ1) : Wp (mLc it (gName i) [i] tYes e) ρ Q := by
  refine wp_lc (fun x : PV => x) (fun done acc ρ' => acc = (List.range done.length).map hv ∧ ∃ u, ρ' = List.set ρ1 i u) ?_
  refine h.mono fun ys ρ' ⟨e1, e2⟩ => ?_
  subst e1 e2
  refine ⟨ys, by simp, hl, ⟨rfl, get ρ' i, ?_⟩, ?_, ?_⟩
  · unfold get
    rw [List.getElem?_eq_getElem hi]
    simp
  · rintro done y rest acc _ e3 ⟨rfl, u, rfl⟩
    have hk : done.length < ys.length := by rw [e3]; simp
    have hy : ys[done.length] = y := by simp [e3]
    have hs := step done.length hk
    rw [hy] at hs
    refine lcqY (ρ0 := List.set ρ' i none) (by show (List.set ρ' i u).set i none = _; exact set_set) ?_
    have hg : get (List.set ρ' i none) i = none := by
      unfold get
      rw [List.getElem?_set_self hi]
      rfl
    refine ⟨List.set ρ' i (some (.val y)), ?_, hs.mono fun r ρ3 ⟨v, ρ4, e4, e5, e6⟩ => ⟨_, _, e4, ?_, some (.val y), e6⟩⟩
    · show put i (some (.val y)) (List.set ρ' i none) = _
      unfold put
      rw [hg]
      show some ((List.set ρ' i none).set i (some (.val y))) = _
      rw [set_set]
    · rw [List.length_append, List.length_singleton, List.range_succ, List.map_append, e5]
      rfl
  · rintro acc _ ⟨rfl, u, rfl⟩
    have eb : back ρ' [i] (List.set ρ' i u) = ρ' := by
      show (List.set ρ' i u).set i (get ρ' i) = ρ'
      rw [set_set]
      unfold get
      rw [List.getElem?_eq_getElem hi]
      simp
    rw [eb]
    exact q
theorem wp_lcN {i : Nat} {a e : M} {ρ ρ1 : Env} {Q : R → Env → Prop} (n : Nat) (hv : Nat → PV) (hi : i < ρ1.length) (hl : n ≤ line)
    (h : Wp a ρ fun x ρ' => look x ρ' = some (.pv (.int n)) ∧ ρ' = ρ1)
    (step : ∀ k, k < n → Wp e (List.set ρ1 i (some (.val (natI k)))) fun r ρ3 => FrzQ r ρ3 fun v ρ4 => v = hv k ∧ ρ4 = List.set ρ1 i (some (.val (natI k))))
    (q : Q (.new (.lst ((List.range n).map hv))) ρ1) : Wp (mLc (iRng1 a) (gName i) [i] tYes e) ρ Q := by
  have hz : ((List.range n).map fun (k : Nat) => PyData.int (k : Int)).length = n := by simp
  refine wp_lcK ((List.range n).map fun (k : Nat) => PyData.int (k : Int)) hv hi (by rw [hz]; exact hl) (wp_rng1 (h.mono fun x ρ' ⟨h1, h2⟩ => ⟨n, h1, ⟨by exact_mod_cast hl, by omega⟩, by simp, h2⟩)) (fun k hk => ?_) (by rw [hz]; exact q)
  have : ((List.range n).map fun (k : Nat) => PyData.int (k : Int))[k] = natI k := by simp [natI]
  rw [this]
  exact step k (by rw [hz] at hk; exact hk)
theorem wp_lcS {i : Nat} {a e : M} {ρ ρ1 : Env} {Q : R → Env → Prop} (xs : List PV) (hv : Nat → PV) (hi : i < ρ1.length) (hl : xs.length ≤ line)
    (h : Wp a ρ fun x ρ' => (x = .val (.list xs) ∨ x = .val (.tuple xs) ∨ x = .new (.lst xs)) ∧ ρ' = ρ1)
    (step : ∀ k (hk : k < xs.length), Wp e (List.set ρ1 i (some (.val xs[k]))) fun r ρ3 => FrzQ r ρ3 fun v ρ4 => v = hv k ∧ ρ4 = List.set ρ1 i (some (.val xs[k])))
    (q : Q (.new (.lst ((List.range xs.length).map hv))) ρ1) : Wp (mLc (iSeq a) (gName i) [i] tYes e) ρ Q :=
  wp_lcK xs hv hi hl (wp_seqI (h.mono fun x ρ' ⟨h1, h2⟩ => ⟨xs, h1, rfl, h2⟩)) step q
theorem wp_lcP {i : Nat} {a e : M} {ρ ρ1 : Env} {Q : R → Env → Prop} (n : Nat) (f : Nat → Rat) (hv : Nat → PV) (hi : i < ρ1.length) (hl : n ≤ line)
    (h : Wp a ρ fun x ρ' => (x = .val (.list (rowP n f)) ∨ x = .val (.tuple (rowP n f)) ∨ x = .new (.lst (rowP n f))) ∧ ρ' = ρ1)
    (step : ∀ k, k < n → Wp e (List.set ρ1 i (some (.val (rq (f k))))) fun r ρ3 => FrzQ r ρ3 fun v ρ4 => v = hv k ∧ ρ4 = List.set ρ1 i (some (.val (rq (f k)))))
    (q : Q (.new (.lst ((List.range n).map hv))) ρ1) : Wp (mLc (iSeq a) (gName i) [i] tYes e) ρ Q := by
  refine wp_lcS (rowP n f) hv hi (by rw [rowP_len]; exact hl) h (fun k hk => ?_) (by rw [rowP_len]; exact q)
  have e1 : (rowP n f)[k] = rq (f k) := by simp [rowP]
  rw [e1]
  exact step k (by rw [rowP_len] at hk; exact hk)
theorem frzq' {x : R} {ρ : Env} {v w : PV} {ρ1 : Env} (h : FrzQ x ρ fun v' ρ' => v' = v ∧ ρ' = ρ) (e : v = w) (e2 : ρ = ρ1) : FrzQ x ρ fun v' ρ' => v' = w ∧ ρ' = ρ1 := by subst e e2; exact h
/-- the tables -/
def tabP (r n : Nat) (T : Nat → Nat → Rat) : List PV := (List.range r).map fun i => .list (rowP n (T i))
def basP (r : Nat) (B : Nat → Nat) : List PV := (List.range r).map fun i => natI (B i)
theorem tabP_len {r n : Nat} {T : Nat → Nat → Rat} : (tabP r n T).length = r := by simp [tabP]
theorem basP_len {r : Nat} {B : Nat → Nat} : (basP r B).length = r := by simp [basP]
theorem tabP_at {r n i : Nat} {T : Nat → Nat → Rat} (h : i < r) : (tabP r n T)[i]? = some (.list (rowP n (T i))) := by simp [tabP, h]
theorem basP_at {r i : Nat} {B : Nat → Nat} (h : i < r) : (basP r B)[i]? = some (natI (B i)) := by simp [basP, h]
theorem tabP_snoc {r n : Nat} {T : Nat → Nat → Rat} : tabP (r + 1) n T = tabP r n T ++ [.list (rowP n (T r))] := by
  unfold tabP
  rw [List.range_succ, List.map_append]
  rfl
theorem tabP_set {r n p : Nat} {T : Nat → Nat → Rat} {f : Nat → Rat} : (tabP r n T).set p (.list (rowP n f)) = tabP r n fun i => if i = p then f else T i := by
  refine List.ext_getElem (by simp [tabP]) fun i h1 h2 => ?_
  rw [List.getElem_set]
  simp only [tabP, List.getElem_map, List.getElem_range]
  by_cases c : p = i
  · rw [if_pos c, if_pos c.symm]
  · rw [if_neg c, if_neg (fun z => c z.symm)]
theorem basP_set {r p s : Nat} {B : Nat → Nat} : (basP r B).set p (natI s) = basP r fun i => if i = p then s else B i := by
  refine List.ext_getElem (by simp [basP]) fun i h1 h2 => ?_
  rw [List.getElem_set]
  simp only [basP, List.getElem_map, List.getElem_range]
  by_cases c : p = i
  · rw [if_pos c, if_pos c.symm]
  · rw [if_neg c, if_neg (fun z => c z.symm)]
/-- the last item -/
theorem atI_m1 {xs : List PV} {n : Nat} {v : PV} (hl : xs.length = n + 1) (h : xs[n]? = some v) : atI xs (-1) = some v := by
  unfold atI ixN
  rw [if_neg (by decide), hl, if_pos (by omega), show (-1 + ((n + 1 : Nat) : Int)).toNat = n by omega]
  simpa using h
end Py
namespace Py
open PySem D
local macro_rules
  | `(tactic| walk_at "w") => `(tactic| with_reducible first
    | refine seq_nx ?_ | refine seq_rt ?_ | refine seq_bk ?_ | refine seq_ct ?_ | refine wp_seq ?_ | refine wp_asg ?_ | refine wp_next ?_ | refine wp_ret ?_ | refine wp_retN ?_ | refine wp_brk ?_ | refine wp_cont ?_ | refine wp_expr ?_ | refine wp_op ?_ | refine wp_un ?_ | refine wp_c ?_
    | refine unB ?_ | refine wp_truB ?_ | refine wp_and ?_ | refine wp_or ?_ | refine wp_not ?_ | refine wp_ifE ?_ | refine wp_tup ?_ | refine wp_lst ?_ | refine wp_lcons ?_ | refine wp_lnil ?_ | refine frzV ?_ | refine frzN ?_ | refine wp_frz ?_ | refine wp_sl ?_ | refine wp_onone ?_ | refine wp_osome ?_
    | refine wp_anil ?_ | refine wp_av ?_ | refine wp_andV ?_ | refine wp_orV ?_ | refine wp_notV ?_ | refine wp_fgtR ?_ | refine turn_nx ?_ | refine turn_rt ?_ | refine turn_bk ?_ | refine turn_ct ?_ | refine fgt_rt ?_ | refine wp_par ?_ | refine wp_chain ?_ | refine wp_seqI ?_)
local macro_rules
  | `(tactic| walk_at "put") => `(tactic| focus ((repeat apply PutR.s); first | exact PutR.z rfl | exact PutR.z (by assumption)))
local macro_rules
  | `(tactic| walk_at "set") => `(tactic| focus ((repeat apply SetR.s); first | exact SetR.o | exact SetR.r))
local macro_rules
  | `(tactic| walk_at "fgt") => `(tactic| focus (repeat first | exact FgtsR.nil | exact FgtR.k | exact FgtR.z rfl | exact FgtR.z (by assumption) | apply FgtR.s | apply FgtsR.cons))
local macro_rules
  | `(tactic| walk_at "x") => `(tactic| first
    | ((with_reducible apply wp_varV); (focus exact rfl)) | ((with_reducible apply wp_varO); (focus exact rfl)) | ((with_reducible apply wp_varR); (focus exact rfl))
    | ((with_reducible apply opq); (focus exact rfl); (focus exact rfl); (focus (first | exact ev_eqI | exact ev_neI | exact ev_ltI | exact ev_leI | exact ev_gtI | exact ev_geI | exact ev_in2 | exact ev_in2n | exact ev_in4n | exact ev_isT | exact ev_isF | exact ev_isnT | exact ev_isnF | exact ev_eqQ0 | exact ev_eqQ1 | exact ev_eqQ | exact ev_strT | exact ev_strF n1 | exact ev_strF n2 | exact ev_strF n3 | exact ev_strF n4 | exact ev_strF n5 | exact ev_strF n6 | exact rfl)))
    | ((with_reducible apply unq); (focus exact rfl); (focus exact rfl))
    | ((with_reducible first | apply putqV | apply putqN); walk_at "put")
    | ((with_reducible apply putqB); (focus exact rfl); (focus exact rfl); walk_at "put"; walk_at "put")
    | ((with_reducible apply putq2); walk_at "put"; walk_at "put")
    | ((with_reducible apply parq); walk_at "put"; walk_at "put")
    | ((with_reducible apply wp_callR); (focus (repeat first | exact RefsR.nil | apply RefsR.v | apply RefsR.r)); (focus decide))
    | ((with_reducible apply wp_ar); (focus exact rfl))
    | ((with_reducible apply fin_rt); (focus exact rfl); (focus exact rfl))
    | ((with_reducible apply fin_nx); (focus exact rfl))
    | ((with_reducible apply wp_appendR); (focus exact rfl))
    | (with_reducible refine ⟨_, rfl, ?_⟩) | (with_reducible refine ⟨_, .inl rfl, ?_⟩) | (with_reducible refine ⟨_, .inr (.inl rfl), ?_⟩) | (with_reducible refine ⟨_, .inr (.inr rfl), ?_⟩)
    | (with_reducible apply callq0) | ((with_reducible apply frzB); (focus exact rfl); (focus exact rfl); walk_at "put")
    | ((with_reducible apply callq1); walk_at "set")
    | ((with_reducible apply callq2); walk_at "set"; walk_at "set")
    | ((with_reducible first | apply fgt_nx | apply fgt_bk | apply fgt_ct); walk_at "fgt")
    | ((with_reducible apply brT); (focus exact rfl)) | ((with_reducible apply brF); (focus exact rfl)))
local macro_rules
  | `(tactic| walk_at "r") => `(tactic| repeat first | walk_at "w" | walk_at "x")
local macro_rules
  | `(tactic| walk_at "ri") => `(tactic| repeat first | walk_at "w" | walk_at "x" | (with_reducible refine wp_if ?_))
local macro_rules
  | `(tactic| walk_at "app") => `(tactic| ((with_reducible apply appq); (focus exact rfl); (focus ((try simp only [List.length_map, List.length_nil, List.length_cons, List.length_append]); unfold line; omega)); walk_at "set"))
local macro_rules
  | `(tactic| walk_at "mul") => `(tactic| ((refine opq rfl rfl (ev_mul ?_) ?_); (focus (apply mulT <;> omega))))
local macro_rules
  | `(tactic| walk_at "rm") => `(tactic| repeat first | walk_at "w" | walk_at "x" | walk_at "mul")
local macro_rules
  | `(tactic| walk_at "len") => `(tactic| (refine And.intro ?_ ?_; (focus (simp [line]; done))))
local macro_rules
  | `(tactic| walk_at "rl") => `(tactic| repeat first | walk_at "w" | walk_at "x" | walk_at "len")
local macro_rules
  | `(tactic| walk_at "ril") => `(tactic| repeat first | walk_at "w" | walk_at "x" | walk_at "len" | (with_reducible refine wp_if ?_))
/-! QUb: the walks of the simplex's parts. -/
section
variable {Q : R → List Ob → Prop} {m r : Nat}
/-- the first table's entries -/
def tab0 (m r : Nat) (A : Nat → Nat → Rat) (b : Nat → Rat) (i j : Nat) : Rat := if j < m then A i j else if j < m + r then (if j - m = i then 1 else 0) else b i
def lin0 (m : Nat) (w : Nat → Rat) (j : Nat) : Rat := if j < m then - w j else 0
theorem first0 (m r : Nat) (A : Nat → Nat → Rat) (b w : Nat → Rat) : Smp.First m r A b w (tab0 m r A b) (lin0 m w) where
  a := fun i j hi hj => by unfold tab0; rw [if_pos hj]
  fill := fun i k hi hk => by
    unfold tab0
    rw [if_neg (by omega), if_pos (by omega), show m + k - m = k by omega]
    by_cases c : k = i
    · rw [if_pos c, if_pos c.symm]
    · rw [if_neg c, if_neg fun z => c z.symm]
  b := fun i hi => by unfold tab0; rw [if_neg (by omega), if_neg (by omega)]
  w := fun j hj => by unfold lin0; rw [if_pos hj]
  z := fun k hk => by unfold lin0; rw [if_neg (by omega)]
  zN := by unfold lin0; rw [if_neg (by omega)]
theorem of_first_rows {A : Nat → Nat → Rat} {b : Nat → Rat} (hm : m ≤ 1000) (hr : r ≤ 1000) (k : Q (.new (.lst (tabP r (m + r + 1) (tab0 m r A b)))) []) :
    Ret d_first_rows [.val (.list (tabP r m A)), .val (.list (rowP r b))] Q := by
  have hln : (line : Nat) = 16777216 := rfl
  refine ret_mkR (by repeat constructor) ?_
  unfold b_first_rows
  walk_at "rl"
  refine wp_forN (fun i ρ => ρ = [some (.val (.list (tabP r m A))), some (.val (.list (rowP r b))), some (.own (.lst (tabP i (m + r + 1) (tab0 m r A b)))), none, none, none]) r ?_ ?_ ?_
  · walk_at "r"
    rw [tabP_len]
    exact ⟨rfl, by omega, rfl⟩
  · rintro i _ hi rfl
    unfold l2_first_rows
    walk_at "r"
    refine wp_lcN (ρ1 := [some (.val (.list (tabP r m A))), some (.val (.list (rowP r b))), some (.own (.lst (tabP i (m + r + 1) (tab0 m r A b)))), some (.val (natI i)), none, none]) r (fun k => rq (if k = i then 1 else 0)) (by simp) (by omega) ?_ ?_ ?_
    · walk_at "r"
      rw [tabP_len]
      exact ⟨rfl, rfl⟩
    · intro k hk
      dsimp only [set_s, set_z]
      unfold e1_first_rows
      unfold natI
      walk_at "r"
      refine branchD (fun h => ?_) fun h => ?_
      · walk_at "r"
        have h : k = i := by omega
        refine ⟨?_, rfl⟩
        rw [if_pos h]; rfl
      · walk_at "r"
        have h : ¬ k = i := by omega
        refine ⟨?_, rfl⟩
        rw [if_neg h]; rfl
    rw [rowP_map]
    walk_at "r"
    refine opq rfl rfl (ev_ix (.inr (.inl rfl)) (atI_nat (tabP_at hi))) ?_
    walk_at "r"
    refine opq rfl rfl (ev_addL (by rw [rowP_len, rowP_len]; omega)) ?_
    walk_at "r"
    refine opq rfl rfl (ev_ix (.inr (.inl rfl)) (atI_nat (rowP_at hi))) ?_
    walk_at "rl"
    refine opq rfl rfl (ev_addL (by rw [List.length_append, rowP_len, rowP_len]; simp; omega)) ?_
    walk_at "r"
    apply appq (xs := tabP i (m + r + 1) (tab0 m r A b)) rfl (by rw [tabP_len]; omega)
    walk_at "set"
    walk_at "r"
    have e : rowP m (A i) ++ rowP r (fun k => if k = i then 1 else 0) ++ [rq (b i)] = rowP (m + r + 1) (tab0 m r A b i) := by
      rw [rowP_app, rowP_one, rowP_app]
      refine rowP_congr fun j hj => ?_
      unfold tab0
      by_cases c1 : j < m
      · rw [if_pos (by omega), if_pos c1, if_pos c1]
      · by_cases c2 : j < m + r
        · rw [if_pos c2, if_neg c1, if_neg c1, if_pos c2]
        · rw [if_neg c2, if_neg c1, if_neg c2]
    rw [e, ← tabP_snoc]
  · rintro _ rfl
    walk_at "r"
    exact k
theorem of_entering {n : Nat} {L : Nat → Rat} {c : Nat} (hn : n ≤ 10000) (hb : ∀ j, j < n → Bq c (L j)) (hc : c < 90000000) (k1 : ∀ s, Smp.Ent n L s → Q (.val (.int (s : Int))) []) (k2 : (∀ j, j < n → 0 ≤ L j) → Q (.val .none) []) :
    Ret d_entering [.val (.list (rowP (n + 1) L))] Q := by
  have hln : (line : Nat) = 16777216 := rfl
  refine ret_mkR (by repeat constructor) ?_
  unfold b_entering
  walk_at "r"
  refine wp_forN (fun i ρ => (∀ j, j < i → 0 ≤ L j) ∧ ρ = [some (.val (.list (rowP (n + 1) L))), none]) n ?_ ?_ ?_
  · walk_at "r"
    rw [rowP_len]
    refine ⟨?_, by omega, fun j hj => by omega, rfl⟩
    show some (Ct.pv (.int (((n + 1 : Nat) : Int) - 1))) = _
    rw [show (((n + 1 : Nat) : Int) - 1) = (n : Int) by omega]
  · rintro i _ hi ⟨h0, rfl⟩
    unfold l1_entering
    walk_at "ri"
    refine opq rfl rfl (ev_ix (.inr (.inl rfl)) (atI_nat (rowP_at (by omega)))) ?_
    walk_at "ri"
    refine of_lessQ (y := 0) (hb i hi) bq_0 (by omega) ?_
    walk_at "ri"
    refine branchD (fun h => ?_) fun h => ?_
    · walk_at "ri"
      exact k1 i ⟨hi, h, h0⟩
    · walk_at "ri"
      refine ⟨fun j hj => ?_, rfl⟩
      by_cases cj : j = i
      · subst cj; exact Rat.not_lt.mp h
      · exact h0 j (by omega)
  · rintro _ ⟨h0, rfl⟩
    walk_at "r"
    exact k2 h0
theorem of_without {n s : Nat} {f g : Nat → Rat} {c : Nat} (hn : n ≤ 10000) (hf : ∀ j, j < n → Bq c (f j)) (hg : ∀ j, j < n → Bq c (g j)) (hc : c ≤ 33000000) (hs : s < n)
    (k1 : Q (.val (.list (rowP n fun j => f j - f s * g j))) []) (k2 : Q (.new (.lst (rowP n fun j => f j - f s * g j))) []) :
    Ret d_without [.val (.list (rowP n f)), .val (.list (rowP n g)), .val (.int (s : Int))] Q := by
  have hln : (line : Nat) = 16777216 := rfl
  refine ret_mkR (by repeat constructor) ?_
  unfold b_without
  walk_at "r"
  refine opq rfl rfl (ev_ix (.inr (.inl rfl)) (atI_nat (rowP_at hs))) ?_
  walk_at "ri"
  walk_at "ri"
  refine branchD (fun h => ?_) fun h => ?_
  · walk_at "ri"
    have e : rowP n f = rowP n fun j => f j - f s * g j := rowP_congr fun j hj => by rw [h]; grind
    rw [e]
    exact k1
  · walk_at "ri"
    refine wp_lcP (ρ1 := [some (.val (.list (rowP n f))), some (.val (.list (rowP n g))), some (.val (.int (s : Int))), some (.val (rq (f s))), none, none, none]) n g (fun j => rq (f s * g j)) (by simp) (by omega) ?_ ?_ ?_
    · walk_at "r"
      exact ⟨.inl rfl, rfl⟩
    · intro j hj
      dsimp only [set_s, set_z]
      unfold e1_without
      walk_at "r"
      walk_at "r"
      refine branchD (fun h2 => ?_) fun h2 => ?_
      · walk_at "r"
        refine ⟨?_, rfl⟩
        rw [h2, Rat.mul_zero]; rfl
      · walk_at "r"
        refine of_timesQ (hf s hs) (hg j hj) (by omega) ?_
        walk_at "r"
        exact ⟨rfl, rfl⟩
    rw [rowP_map]
    walk_at "r"
    refine wp_lcN (ρ1 := [some (.val (.list (rowP n f))), some (.val (.list (rowP n g))), some (.val (.int (s : Int))), some (.val (rq (f s))), some (.own (.lst (rowP n fun j => f s * g j))), none, none]) n (fun j => rq (f j - f s * g j)) (by simp) (by omega) ?_ ?_ ?_
    · walk_at "r"
      rw [rowP_len]
      exact ⟨rfl, rfl⟩
    · intro j hj
      dsimp only [set_s, set_z]
      unfold e2_without
      unfold natI
      walk_at "r"
      refine opq rfl rfl (ev_ix (.inr (.inr rfl)) (atI_nat (rowP_at hj))) ?_
      walk_at "r"
      walk_at "r"
      refine branchD (fun h2 => ?_) fun h2 => ?_
      · walk_at "r"
        refine opq rfl rfl (ev_ix (.inr (.inl rfl)) (atI_nat (rowP_at hj))) ?_
        walk_at "r"
        refine ⟨?_, rfl⟩
        rw [h2, Rat.sub_eq_add_neg, Rat.neg_zero, Rat.add_zero]
      · walk_at "r"
        refine opq rfl rfl (ev_ix (.inr (.inl rfl)) (atI_nat (rowP_at hj))) ?_
        walk_at "r"
        refine opq rfl rfl (ev_ix (.inr (.inr rfl)) (atI_nat (rowP_at hj))) ?_
        walk_at "r"
        refine of_minusQ (hf j hj) (bq_mul (hf s hs) (hg j hj)) (by omega) ?_
        walk_at "r"
        exact ⟨rfl, rfl⟩
    rw [rowP_map]
    walk_at "r"
    exact k2
end
end Py
namespace Py
open PySem D
local macro_rules
  | `(tactic| walk_at "w") => `(tactic| with_reducible first
    | refine seq_nx ?_ | refine seq_rt ?_ | refine seq_bk ?_ | refine seq_ct ?_ | refine wp_seq ?_ | refine wp_asg ?_ | refine wp_next ?_ | refine wp_ret ?_ | refine wp_retN ?_ | refine wp_brk ?_ | refine wp_cont ?_ | refine wp_expr ?_ | refine wp_op ?_ | refine wp_un ?_ | refine wp_c ?_
    | refine unB ?_ | refine wp_truB ?_ | refine wp_and ?_ | refine wp_or ?_ | refine wp_not ?_ | refine wp_ifE ?_ | refine wp_tup ?_ | refine wp_lst ?_ | refine wp_lcons ?_ | refine wp_lnil ?_ | refine frzV ?_ | refine frzN ?_ | refine wp_frz ?_ | refine wp_sl ?_ | refine wp_onone ?_ | refine wp_osome ?_
    | refine wp_anil ?_ | refine wp_av ?_ | refine wp_andV ?_ | refine wp_orV ?_ | refine wp_notV ?_ | refine wp_fgtR ?_ | refine turn_nx ?_ | refine turn_rt ?_ | refine turn_bk ?_ | refine turn_ct ?_ | refine fgt_rt ?_ | refine wp_par ?_ | refine wp_chain ?_ | refine wp_seqI ?_)
local macro_rules
  | `(tactic| walk_at "put") => `(tactic| focus ((repeat apply PutR.s); first | exact PutR.z rfl | exact PutR.z (by assumption)))
local macro_rules
  | `(tactic| walk_at "set") => `(tactic| focus ((repeat apply SetR.s); first | exact SetR.o | exact SetR.r))
local macro_rules
  | `(tactic| walk_at "fgt") => `(tactic| focus (repeat first | exact FgtsR.nil | exact FgtR.k | exact FgtR.z rfl | exact FgtR.z (by assumption) | apply FgtR.s | apply FgtsR.cons))
local macro_rules
  | `(tactic| walk_at "x") => `(tactic| first
    | ((with_reducible apply wp_varV); (focus exact rfl)) | ((with_reducible apply wp_varO); (focus exact rfl)) | ((with_reducible apply wp_varR); (focus exact rfl))
    | ((with_reducible apply opq); (focus exact rfl); (focus exact rfl); (focus (first | exact ev_eqI | exact ev_neI | exact ev_ltI | exact ev_leI | exact ev_gtI | exact ev_geI | exact ev_in2 | exact ev_in2n | exact ev_in4n | exact ev_isT | exact ev_isF | exact ev_isnT | exact ev_isnF | exact ev_eqQ0 | exact ev_eqQ1 | exact ev_eqQ | exact ev_strT | exact ev_strF n1 | exact ev_strF n2 | exact ev_strF n3 | exact ev_strF n4 | exact ev_strF n5 | exact ev_strF n6 | exact rfl)))
    | ((with_reducible apply unq); (focus exact rfl); (focus exact rfl))
    | ((with_reducible first | apply putqV | apply putqN); walk_at "put")
    | ((with_reducible apply putqB); (focus exact rfl); (focus exact rfl); walk_at "put"; walk_at "put")
    | ((with_reducible apply putq2); walk_at "put"; walk_at "put")
    | ((with_reducible apply parq); walk_at "put"; walk_at "put")
    | ((with_reducible apply wp_callR); (focus (repeat first | exact RefsR.nil | apply RefsR.v | apply RefsR.r)); (focus decide))
    | ((with_reducible apply wp_ar); (focus exact rfl))
    | ((with_reducible apply fin_rt); (focus exact rfl); (focus exact rfl))
    | ((with_reducible apply fin_nx); (focus exact rfl))
    | ((with_reducible apply wp_appendR); (focus exact rfl))
    | (with_reducible refine ⟨_, rfl, ?_⟩) | (with_reducible refine ⟨_, .inl rfl, ?_⟩) | (with_reducible refine ⟨_, .inr (.inl rfl), ?_⟩) | (with_reducible refine ⟨_, .inr (.inr rfl), ?_⟩)
    | (with_reducible apply callq0) | ((with_reducible apply frzB); (focus exact rfl); (focus exact rfl); walk_at "put")
    | ((with_reducible apply callq1); walk_at "set")
    | ((with_reducible apply callq2); walk_at "set"; walk_at "set")
    | ((with_reducible first | apply fgt_nx | apply fgt_bk | apply fgt_ct); walk_at "fgt")
    | ((with_reducible apply brT); (focus exact rfl)) | ((with_reducible apply brF); (focus exact rfl)))
local macro_rules
  | `(tactic| walk_at "r") => `(tactic| repeat first | walk_at "w" | walk_at "x")
local macro_rules
  | `(tactic| walk_at "ri") => `(tactic| repeat first | walk_at "w" | walk_at "x" | (with_reducible refine wp_if ?_))
local macro_rules
  | `(tactic| walk_at "app") => `(tactic| ((with_reducible apply appq); (focus exact rfl); (focus ((try simp only [List.length_map, List.length_nil, List.length_cons, List.length_append]); unfold line; omega)); walk_at "set"))
local macro_rules
  | `(tactic| walk_at "mul") => `(tactic| ((refine opq rfl rfl (ev_mul ?_) ?_); (focus (apply mulT <;> omega))))
local macro_rules
  | `(tactic| walk_at "rm") => `(tactic| repeat first | walk_at "w" | walk_at "x" | walk_at "mul")
local macro_rules
  | `(tactic| walk_at "len") => `(tactic| (refine And.intro ?_ ?_; (focus (simp [line]; done))))
local macro_rules
  | `(tactic| walk_at "rl") => `(tactic| repeat first | walk_at "w" | walk_at "x" | walk_at "len")
local macro_rules
  | `(tactic| walk_at "ril") => `(tactic| repeat first | walk_at "w" | walk_at "x" | walk_at "len" | (with_reducible refine wp_if ?_))
/-! QUc: the row that leaves. -/
section
variable {N s k p : Nat} {T : Nat → Nat → Rat} {B : Nat → Nat}
theorem lea_new (h : ∀ i, i < k → ¬ 0 < T i s) (h0 : 0 < T k s) : Smp.Lea N T B s (k + 1) k := by
  have e : ∀ i, i < k + 1 → 0 < T i s → i = k := fun i hi hp => by
    by_cases c : i = k
    · exact c
    · exact absurd hp (h i (by omega))
  exact ⟨by omega, h0, fun i hi hp => by rw [e i hi hp]; exact Rat.le_refl, fun i hi hp _ => by rw [e i hi hp]; exact Nat.le_refl _⟩
theorem lea_less (h : Smp.Lea N T B s k p) (h0 : 0 < T k s) (h1 : T k N / T k s < T p N / T p s) : Smp.Lea N T B s (k + 1) k := by
  obtain ⟨a1, a2, a3, a4⟩ := h
  refine ⟨by omega, h0, fun i hi hp => ?_, fun i hi hp e => ?_⟩
  · by_cases c : i = k
    · rw [c]; exact Rat.le_refl
    · have := a3 i (by omega) hp
      grind
  · by_cases c : i = k
    · rw [c]; exact Nat.le_refl _
    · have := a3 i (by omega) hp
      grind
theorem lea_tie (h : Smp.Lea N T B s k p) (h0 : 0 < T k s) (h1 : T k N / T k s = T p N / T p s) (h2 : B k < B p) : Smp.Lea N T B s (k + 1) k := by
  obtain ⟨a1, a2, a3, a4⟩ := h
  refine ⟨by omega, h0, fun i hi hp => ?_, fun i hi hp e => ?_⟩
  · by_cases c : i = k
    · rw [c]; exact Rat.le_refl
    · rw [h1]; exact a3 i (by omega) hp
  · by_cases c : i = k
    · rw [c]; exact Nat.le_refl _
    · have := a4 i (by omega) hp (by rw [e, h1])
      omega
theorem lea_keep (h : Smp.Lea N T B s k p) (h1 : 0 < T k s → ¬ T k N / T k s < T p N / T p s ∧ ¬ (T k N / T k s = T p N / T p s ∧ B k < B p)) : Smp.Lea N T B s (k + 1) p := by
  obtain ⟨a1, a2, a3, a4⟩ := h
  refine ⟨by omega, a2, fun i hi hp => ?_, fun i hi hp e => ?_⟩
  · by_cases c : i = k
    · subst c; exact Rat.not_lt.mp (h1 hp).1
    · exact a3 i (by omega) hp
  · by_cases c : i = k
    · subst c
      have := (h1 hp).2
      by_cases d : B i < B p
      · exact absurd ⟨e, d⟩ this
      · omega
    · exact a4 i (by omega) hp e
end
section
variable {Q : R → List Ob → Prop} {r N s c : Nat} {T : Nat → Nat → Rat} {B : Nat → Nat}
def BestV (N : Nat) (T : Nat → Nat → Rat) (B : Nat → Nat) (s k : Nat) (v : PV) : Prop := (v = .none ∧ ∀ i, i < k → ¬ 0 < T i s) ∨ ∃ p, v = .tuple [rq (T p N / T p s), natI (B p), natI p] ∧ Smp.Lea N T B s k p
theorem of_leaving (hr : r ≤ 10000) (hN : N ≤ 10000) (hs : s ≤ N) (hT : ∀ i, i < r → ∀ j, j ≤ N → Bq c (T i j)) (hc : c ≤ 20000000) (hex : ∃ i, i < r ∧ 0 < T i s)
    (k : ∀ p, Smp.Lea N T B s r p → Q (.val (natI p)) [.lst (tabP r (N + 1) T), .lst (basP r B)]) :
    Ret d_leaving [.ref (.lst (tabP r (N + 1) T)), .ref (.lst (basP r B)), .val (.int (s : Int))] Q := by
  have hln : (line : Nat) = 16777216 := rfl
  refine ret_mkR (by repeat constructor) ?_
  unfold b_leaving
  walk_at "r"
  refine wp_forN (fun i ρ => ∃ v, BestV N T B s i v ∧ ρ = [some (.ref (.lst (tabP r (N + 1) T))), some (.ref (.lst (basP r B))), some (.val (.int (s : Int))), some (.val v), none, none]) r ?_ ?_ ?_
  · walk_at "r"
    rw [tabP_len]
    exact ⟨rfl, by omega, _, .inl ⟨rfl, fun i hi => by omega⟩, rfl⟩
  · rintro i _ hi ⟨v, hv, rfl⟩
    unfold l1_leaving
    walk_at "ri"
    refine opq rfl rfl (ev_ix (.inr (.inr rfl)) (atI_nat (tabP_at hi))) ?_
    walk_at "ri"
    refine opq rfl rfl (ev_ix (.inr (.inl rfl)) (atI_nat (rowP_at (by omega)))) ?_
    walk_at "ri"
    refine of_lessQ (x := 0) bq_0 (hT i hi s hs) (by omega) ?_
    walk_at "ri"
    refine branchD (fun h0 => ?_) fun h0 => ?_
    · have h0' : T i s ≠ 0 := by grind
      walk_at "ri"
      refine opq rfl rfl (ev_ix (.inr (.inr rfl)) (atI_nat (tabP_at hi))) ?_
      walk_at "ri"
      refine opq rfl rfl (ev_ix (.inr (.inl rfl)) (atI_m1 rowP_len (rowP_at (by omega)))) ?_
      walk_at "ri"
      refine opq rfl rfl (ev_ix (.inr (.inr rfl)) (atI_nat (tabP_at hi))) ?_
      walk_at "ri"
      refine opq rfl rfl (ev_ix (.inr (.inl rfl)) (atI_nat (rowP_at (by omega)))) ?_
      walk_at "ri"
      refine of_dividedQ (hT i hi N (Nat.le_refl N)) (hT i hi s hs) h0' (by omega) ?_
      walk_at "ri"
      have hq := bq_div (hT i hi N (Nat.le_refl N)) (hT i hi s hs) h0'
      rcases hv with ⟨rfl, hv⟩ | ⟨p, rfl, hp⟩
      · walk_at "ri"
        walk_at "rl"
        refine opq rfl rfl (ev_ix (.inr (.inr rfl)) (atI_nat (basP_at hi))) ?_
        walk_at "rl"
        exact ⟨_, .inr ⟨i, rfl, lea_new hv h0⟩, rfl⟩
      · have hpN := hp.1
        have hp0 : T p s ≠ 0 := by have := hp.2.1; grind
        have hq2 := bq_div (hT p (by omega) N (Nat.le_refl N)) (hT p (by omega) s hs) hp0
        walk_at "ri"
        refine of_lessQ hq hq2 (by omega) ?_
        walk_at "ri"
        refine branchD (fun h1 => ?_) fun h1 => ?_
        · refine brT rfl ?_
          walk_at "rl"
          refine opq rfl rfl (ev_ix (.inr (.inr rfl)) (atI_nat (basP_at hi))) ?_
          walk_at "rl"
          exact ⟨_, .inr ⟨i, rfl, lea_less hp h0 h1⟩, rfl⟩
        · walk_at "ri"
          refine branchD (fun h2 => ?_) fun h2 => ?_
          · walk_at "ri"
            refine opq rfl rfl (ev_ix (.inr (.inr rfl)) (atI_nat (basP_at hi))) ?_
            unfold natI
            walk_at "ri"
            refine branchD (fun h3 => ?_) fun h3 => ?_
            · walk_at "rl"
              refine opq rfl rfl (ev_ix (.inr (.inr rfl)) (atI_nat (basP_at hi))) ?_
              walk_at "rl"
              exact ⟨_, .inr ⟨i, rfl, lea_tie hp h0 h2 (by omega)⟩, rfl⟩
            · walk_at "rl"
              exact ⟨_, .inr ⟨p, rfl, lea_keep hp fun _ => ⟨h1, fun z => h3 (by have := z.2; omega)⟩⟩, rfl⟩
          · refine brF rfl ?_
            walk_at "rl"
            exact ⟨_, .inr ⟨p, rfl, lea_keep hp fun _ => ⟨h1, fun z => h2 z.1⟩⟩, rfl⟩
    · walk_at "ri"
      refine ⟨_, ?_, rfl⟩
      rcases hv with ⟨rfl, hv⟩ | ⟨p, rfl, hp⟩
      · refine .inl ⟨rfl, fun j hj => ?_⟩
        by_cases cj : j = i
        · subst cj; exact h0
        · exact hv j (by omega)
      · exact .inr ⟨p, rfl, lea_keep hp fun z => absurd z h0⟩
  · rintro _ ⟨v, hv, rfl⟩
    rcases hv with ⟨rfl, hv⟩ | ⟨p, rfl, hp⟩
    · obtain ⟨i, hi, h0⟩ := hex
      exact absurd h0 (hv i hi)
    · walk_at "ri"
      exact k p hp
end
end Py
namespace Py
open PySem D
local macro_rules
  | `(tactic| walk_at "w") => `(tactic| with_reducible first
    | refine seq_nx ?_ | refine seq_rt ?_ | refine seq_bk ?_ | refine seq_ct ?_ | refine wp_seq ?_ | refine wp_asg ?_ | refine wp_next ?_ | refine wp_ret ?_ | refine wp_retN ?_ | refine wp_brk ?_ | refine wp_cont ?_ | refine wp_expr ?_ | refine wp_op ?_ | refine wp_un ?_ | refine wp_c ?_
    | refine unB ?_ | refine wp_truB ?_ | refine wp_and ?_ | refine wp_or ?_ | refine wp_not ?_ | refine wp_ifE ?_ | refine wp_tup ?_ | refine wp_lst ?_ | refine wp_lcons ?_ | refine wp_lnil ?_ | refine frzV ?_ | refine frzN ?_ | refine wp_frz ?_ | refine wp_sl ?_ | refine wp_onone ?_ | refine wp_osome ?_
    | refine wp_anil ?_ | refine wp_av ?_ | refine wp_andV ?_ | refine wp_orV ?_ | refine wp_notV ?_ | refine wp_fgtR ?_ | refine turn_nx ?_ | refine turn_rt ?_ | refine turn_bk ?_ | refine turn_ct ?_ | refine fgt_rt ?_ | refine wp_par ?_ | refine wp_chain ?_ | refine wp_seqI ?_)
local macro_rules
  | `(tactic| walk_at "put") => `(tactic| focus ((repeat apply PutR.s); first | exact PutR.z rfl | exact PutR.z (by assumption)))
local macro_rules
  | `(tactic| walk_at "set") => `(tactic| focus ((repeat apply SetR.s); first | exact SetR.o | exact SetR.r))
local macro_rules
  | `(tactic| walk_at "fgt") => `(tactic| focus (repeat first | exact FgtsR.nil | exact FgtR.k | exact FgtR.z rfl | exact FgtR.z (by assumption) | apply FgtR.s | apply FgtsR.cons))
local macro_rules
  | `(tactic| walk_at "x") => `(tactic| first
    | ((with_reducible apply wp_varV); (focus exact rfl)) | ((with_reducible apply wp_varO); (focus exact rfl)) | ((with_reducible apply wp_varR); (focus exact rfl))
    | ((with_reducible apply opq); (focus exact rfl); (focus exact rfl); (focus (first | exact ev_eqI | exact ev_neI | exact ev_ltI | exact ev_leI | exact ev_gtI | exact ev_geI | exact ev_in2 | exact ev_in2n | exact ev_in4n | exact ev_isT | exact ev_isF | exact ev_isnT | exact ev_isnF | exact ev_eqQ0 | exact ev_eqQ1 | exact ev_eqQ | exact ev_strT | exact ev_strF n1 | exact ev_strF n2 | exact ev_strF n3 | exact ev_strF n4 | exact ev_strF n5 | exact ev_strF n6 | exact rfl)))
    | ((with_reducible apply unq); (focus exact rfl); (focus exact rfl))
    | ((with_reducible first | apply putqV | apply putqN); walk_at "put")
    | ((with_reducible apply putqB); (focus exact rfl); (focus exact rfl); walk_at "put"; walk_at "put")
    | ((with_reducible apply putq2); walk_at "put"; walk_at "put")
    | ((with_reducible apply parq); walk_at "put"; walk_at "put")
    | ((with_reducible apply wp_callR); (focus (repeat first | exact RefsR.nil | apply RefsR.v | apply RefsR.r)); (focus decide))
    | ((with_reducible apply wp_ar); (focus exact rfl))
    | ((with_reducible apply fin_rt); (focus exact rfl); (focus exact rfl))
    | ((with_reducible apply fin_nx); (focus exact rfl))
    | ((with_reducible apply wp_appendR); (focus exact rfl))
    | (with_reducible refine ⟨_, rfl, ?_⟩) | (with_reducible refine ⟨_, .inl rfl, ?_⟩) | (with_reducible refine ⟨_, .inr (.inl rfl), ?_⟩) | (with_reducible refine ⟨_, .inr (.inr rfl), ?_⟩)
    | (with_reducible apply callq0) | ((with_reducible apply frzB); (focus exact rfl); (focus exact rfl); walk_at "put")
    | ((with_reducible apply callq1); walk_at "set")
    | ((with_reducible apply callq2); walk_at "set"; walk_at "set")
    | ((with_reducible first | apply fgt_nx | apply fgt_bk | apply fgt_ct); walk_at "fgt")
    | ((with_reducible apply brT); (focus exact rfl)) | ((with_reducible apply brF); (focus exact rfl)))
local macro_rules
  | `(tactic| walk_at "r") => `(tactic| repeat first | walk_at "w" | walk_at "x")
local macro_rules
  | `(tactic| walk_at "ri") => `(tactic| repeat first | walk_at "w" | walk_at "x" | (with_reducible refine wp_if ?_))
local macro_rules
  | `(tactic| walk_at "app") => `(tactic| ((with_reducible apply appq); (focus exact rfl); (focus ((try simp only [List.length_map, List.length_nil, List.length_cons, List.length_append]); unfold line; omega)); walk_at "set"))
local macro_rules
  | `(tactic| walk_at "mul") => `(tactic| ((refine opq rfl rfl (ev_mul ?_) ?_); (focus (apply mulT <;> omega))))
local macro_rules
  | `(tactic| walk_at "rm") => `(tactic| repeat first | walk_at "w" | walk_at "x" | walk_at "mul")
local macro_rules
  | `(tactic| walk_at "len") => `(tactic| (refine And.intro ?_ ?_; (focus (simp [line]; done))))
local macro_rules
  | `(tactic| walk_at "rl") => `(tactic| repeat first | walk_at "w" | walk_at "x" | walk_at "len")
local macro_rules
  | `(tactic| walk_at "ril") => `(tactic| repeat first | walk_at "w" | walk_at "x" | walk_at "len" | (with_reducible refine wp_if ?_))
/-! QUd: the greatest sum. -/
theorem cutP {m r : Nat} {L : Nat → Rat} : cut (rowP (m + r + 1) L) (some (m : Int)) (some ((m : Int) + (r : Int))) = rowP r fun k => L (m + k) := by
  unfold cut sIx
  simp only
  rw [if_neg (by omega), if_neg (by omega), rowP_len, show min (m : Int).toNat (m + r + 1) = m by omega, show min ((m : Int) + (r : Int)).toNat (m + r + 1) = m + r by omega, show m + r - m = r by omega]
  refine List.ext_getElem (by simp [rowP]; omega) fun i h1 h2 => ?_
  simp [rowP]
theorem bas_inj {r N : Nat} {T : Nat → Nat → Rat} {L : Nat → Rat} {B : Nat → Nat} (h : Smp.Bas r N T L B) {i j : Nat} (hi : i < r) (hj : j < r) (e : B i = B j) : i = j := by
  have h1 := h.col i i hi hi
  rw [if_pos rfl, e, h.col i j hi hj] at h1
  by_cases c : i = j
  · exact c
  · rw [if_neg c] at h1; grind
theorem ev_repQ {x : Rat} {k : Nat} (h : k ≤ line) : fMul (.ob (.lst [rq x])) (.pv (.int (k : Int))) = some (.new (.lst (rowP k fun _ => x))) := by
  have hln : (line : Nat) = 16777216 := rfl
  have e : fMul (.ob (.lst [rq x])) (.pv (.int (k : Int))) = if [rq x].length * (k : Int).toNat ≤ line ∧ (k : Int) < 2 ^ 62 ∧ -(2 ^ 62) < (k : Int) then some (.new (.lst (List.replicate (k : Int).toNat [rq x]).flatten)) else none := rfl
  rw [e, if_pos ⟨by simpa using h, by omega, by omega⟩, Int.toNat_natCast, rowP_const]
theorem ev_rep0 {k : Nat} (h : k ≤ line) : fMul (.ob (.lst [.tuple [.int 0, .int 1]])) (.pv (.int (k : Int))) = some (.new (.lst (rowP k fun _ => 0))) := ev_repQ (x := 0) h
theorem ev_rep1 {k : Nat} (h : k ≤ line) : fMul (.ob (.lst [.tuple [.int 1, .int 1]])) (.pv (.int (k : Int))) = some (.new (.lst (rowP k fun _ => 1))) := ev_repQ (x := 1) h
theorem ev_repN {k : Nat} (h : k ≤ line) : fMul (.ob (.lst [.none])) (.pv (.int (k : Int))) = some (.new (.lst (List.replicate k PyData.none))) := by
  have hln : (line : Nat) = 16777216 := rfl
  have e : fMul (.ob (.lst [.none])) (.pv (.int (k : Int))) = if [PyData.none].length * (k : Int).toNat ≤ line ∧ (k : Int) < 2 ^ 62 ∧ -(2 ^ 62) < (k : Int) then some (.new (.lst (List.replicate (k : Int).toNat [PyData.none]).flatten)) else none := rfl
  rw [e, if_pos ⟨by simpa using h, by omega, by omega⟩, Int.toNat_natCast]
  congr 3
  induction k with
  | zero => rfl
  | succ k ih => simp [List.replicate_succ]
theorem lin0_bits {m r : Nat} {w : Nat → Rat} {c j : Nat} (h : Bq c (lin0 m w j)) (hj : j < m) : Bq c (w j) := by
  unfold lin0 at h
  rw [if_pos hj] at h
  have := bq_neg h
  rwa [Rat.neg_neg] at this
/-- what the told sum, amounts and prices are -/
structure Cert (m r : Nat) (A : Nat → Nat → Rat) (b w : Nat → Rat) (g : Rat) (x y : Nat → Rat) : Prop where
  x0 : ∀ j, 0 ≤ x j
  row : ∀ i, i < r → Smp.sm m (fun j => A i j * x j) ≤ b i
  y0 : ∀ k, k < r → 0 ≤ y k
  col : ∀ j, j < m → w j ≤ Smp.sm r fun k => y k * A k j
  xw : Smp.sm m (fun j => w j * x j) = g
  yb : (Smp.sm r fun k => y k * b k) = g
/-- their common denominators -/
def Dens (m r n : Nat) (dL : Int) (g : Rat) (x y : Nat → Rat) : Prop := ∃ E : Int, E ≠ 0 ∧ E.natAbs < 2 ^ n ∧ (∀ j, j < m → Smp.Itg n (x j * (E : Rat))) ∧ (∀ k, k < r → Smp.Itg n (y k * (dL : Rat) * (E : Rat))) ∧ Smp.Itg n (g * (dL : Rat) * (E : Rat))
theorem at_cert {m r k n Qn c : Nat} {A : Nat → Nat → Rat} {b w : Nat → Rat} {T : Nat → Nat → Rat} {L : Nat → Rat} {B : Nat → Nat} {d : Nat → Int} {dL : Int} (h : Smp.At m r (tab0 m r A b) (lin0 m w) k T L B)
    (hn : Smp.Num m r n Qn c (tab0 m r A b) (lin0 m w) d dL) (hL : ∀ j, j < m + r → 0 ≤ L j) :
    Cert m r A b w (L (m + r)) (Smp.val r (m + r) T B) (fun k => L (m + k)) ∧ Dens m r (Smp.bq n Qn) dL (L (m + r)) (Smp.val r (m + r) T B) fun k => L (m + k) := by
  have h0 := first0 m r A b w
  have he := h.eqv
  have h2 : Smp.Lin r (tab0 m r A b) fun j => L j - lin0 m w j := Smp.lin_trans he.to he.lin
  obtain ⟨c1, c2, c3, c4, c5, c6⟩ := Smp.cert h0 he.bas he.fro h2 he.lin h.feas hL
  refine ⟨⟨c1, c2, c3, c4, c5, c6⟩, ?_⟩
  obtain ⟨E, e1, e2, e3, e4⟩ := Smp.num_all h0 hn he
  refine ⟨E, e1, e2, fun j hj => ?_, fun k hk => e4 (m + k) (by omega), e4 (m + r) (by omega)⟩
  unfold Smp.val
  by_cases ci : ∃ i, i < r ∧ B i = j
  · obtain ⟨i, hi, rfl⟩ := ci
    rw [Smp.sm_one hi fun k hk hne => if_neg fun e => hne (bas_inj he.bas hk hi e), if_pos rfl]
    have := e3 i hi (m + r) (Nat.le_refl _)
    unfold Smp.fac at this
    rw [if_pos hj, Rat.mul_one] at this
    exact this
  · rw [Smp.sm_zero fun k hk => if_neg fun e => ci ⟨k, hk, e⟩]
    exact ⟨0, Nat.two_pow_pos _, by rw [Rat.zero_mul, Rat.intCast_zero]⟩
theorem val_step {m r n N : Nat} {T : Nat → Nat → Rat} {L : Nat → Rat} {B : Nat → Nat} (h : Smp.Bas r N T L B) (hn : n < r) :
    (B n < m → (rowP m fun j => if j = B n then T n N else Smp.val n N T B j) = rowP m fun j => Smp.val (n + 1) N T B j) ∧ (¬ B n < m → rowP m (fun j => Smp.val n N T B j) = rowP m fun j => Smp.val (n + 1) N T B j) := by
  have e : ∀ j, Smp.val (n + 1) N T B j = Smp.val n N T B j + if B n = j then T n N else 0 := fun j => rfl
  refine ⟨fun hb => rowP_congr fun j hj => ?_, fun hb => rowP_congr fun j hj => ?_⟩
  · rw [e]
    by_cases c : j = B n
    · subst c
      rw [if_pos rfl, if_pos rfl, Smp.val_out fun ⟨i, hi, z⟩ => by have := bas_inj h (show i < r by omega) hn z; omega]
      grind
    · rw [if_neg c, if_neg fun z => c z.symm]
      grind
  · rw [e, if_neg fun z => hb (by omega)]
    grind
section
variable {Q : R → List Ob → Prop}
def ColV (N : Nat) (L : Nat → Rat) (v : PV) : Prop := (∃ s, v = .int ((s : Nat) : Int) ∧ Smp.Ent N L s) ∨ (v = .none ∧ ∀ j, j < N → 0 ≤ L j)
theorem of_greatest_sum {m r n Qn c : Nat} {A : Nat → Nat → Rat} {b w y : Nat → Rat} {d : Nat → Int} {dL : Int} (hm : m ≤ 1000) (hr : r ≤ 1000) (hnum : Smp.Num m r n Qn c (tab0 m r A b) (lin0 m w) d dL) (hc : c ≤ 16000000)
    (hb : ∀ i, i < r → 0 ≤ b i) (hy : ∀ k, k < r → 0 ≤ y k) (hw : ∀ j, j < m → w j ≤ Smp.sm r fun k => y k * A k j)
    (k : ∀ g x y, Cert m r A b w g x y → Dens m r (Smp.bq n Qn) dL g x y → Q (.val (.tuple [rq g, .list (rowP m x), .list (rowP r y)])) []) :
    Ret d_greatest_sum [.val (.list (rowP m w)), .val (.list (tabP r m A)), .val (.list (rowP r b))] Q := by
  have hln : (line : Nat) = 16777216 := rfl
  have h0 := first0 m r A b w
  have start := Smp.At.start h0 hb
  have bits : ∀ {k T L B}, Smp.At m r (tab0 m r A b) (lin0 m w) k T L B → (∀ i, i < r → ∀ j, j ≤ m + r → Bq c (T i j)) ∧ ∀ j, j ≤ m + r → Bq c (L j) := fun h => by
    obtain ⟨a1, a2⟩ := Smp.num_bits h0 hnum h.eqv
    exact ⟨fun i hi j hj => bq_rb (a1 i hi j hj), fun j hj => bq_rb (a2 j hj)⟩
  obtain ⟨b1, b2⟩ := bits start
  refine ret_mkR (by repeat constructor) ?_
  unfold b_greatest_sum
  walk_at "rl"
  refine of_first_rows hm hr ?_
  walk_at "rl"

  rw [rowP_len]
  refine wp_lcP (ρ1 := [some (.val (.list (rowP m w))), some (.val (.list (tabP r m A))), some (.val (.list (rowP r b))), some (.own (.lst (tabP r (m + r + 1) (tab0 m r A b)))), some (.val (.int (m : Int))), none, none, none, none, none, none, none, none, none]) m w (fun j => rq (- w j)) (by simp) (by omega) ?_ ?_ ?_
  · walk_at "r"
    exact ⟨.inl rfl, rfl⟩
  · intro j hj
    dsimp only [set_s, set_z]
    unfold e1_greatest_sum
    walk_at "r"
    refine of_minusQ (x := 0) bq_0 (lin0_bits (r := r) (b2 j (by omega)) hj) (by omega) ?_
    walk_at "r"
    refine ⟨?_, rfl⟩
    rw [show (0 : Rat) - w j = - w j by grind]
  rw [rowP_map]
  walk_at "rl"
  have ek : (((tabP r m A).length : Int) + 1) = ((r + 1 : Nat) : Int) := by rw [tabP_len]; omega
  rw [ek]
  refine opq rfl rfl (ev_rep0 (by omega)) ?_
  refine opq rfl rfl (ev_addL (by rw [rowP_len, rowP_len]; omega)) ?_
  have el : rowP m (fun j => - w j) ++ rowP (r + 1) (fun _ => 0) = rowP (m + r + 1) (lin0 m w) := by
    rw [rowP_app]
    exact rowP_congr fun j hj => rfl
  rw [el]
  walk_at "rl"
  refine wp_lcN (ρ1 := [some (.val (.list (rowP m w))), some (.val (.list (tabP r m A))), some (.val (.list (rowP r b))), some (.own (.lst (tabP r (m + r + 1) (tab0 m r A b)))), some (.val (.int (m : Int))), some (.own (.lst (rowP (m + r + 1) (lin0 m w)))), none, none, none, none, none, none, none, none]) r (fun i => natI (m + i)) (by simp) (by omega) ?_ ?_ ?_
  · walk_at "r"
    rw [tabP_len]
    exact ⟨rfl, rfl⟩
  · intro j hj
    dsimp only [set_s, set_z]
    unfold e2_greatest_sum
    unfold natI
    walk_at "r"
    exact ⟨rfl, rfl⟩
  rw [show ((List.range r).map fun i => natI (m + i)) = basP r fun i => m + i from rfl]
  walk_at "rl"
  have hloop : ∀ v, ColV (m + r) (lin0 m w) v → Wp (sFgt [7] (sWhile t6_greatest_sum l5_greatest_sum)) [some (.val (.list (rowP m w))), some (.val (.list (tabP r m A))), some (.val (.list (rowP r b))), some (.own (.lst (tabP r (m + r + 1) (tab0 m r A b)))), some (.val (.int (m : Int))), some (.val (.list (rowP (m + r + 1) (lin0 m w)))), some (.own (.lst (basP r fun i => m + i))), some (.val v), none, none, none, none, none, none] fun f ρ => f = .nx ∧ ∃ k T L B, Smp.At m r (tab0 m r A b) (lin0 m w) k T L B ∧ (∀ j, j < m + r → 0 ≤ L j) ∧ ρ = [some (.val (.list (rowP m w))), some (.val (.list (tabP r m A))), some (.val (.list (rowP r b))), some (.own (.lst (tabP r (m + r + 1) T))), some (.val (.int (m : Int))), some (.val (.list (rowP (m + r + 1) L))), some (.own (.lst (basP r B))), none, none, none, none, none, none, none] := by
    intro v hv
    walk_at "r"
    refine wp_while (fun (x : Nat × (Nat → Nat → Rat) × (Nat → Rat) × (Nat → Nat)) ρ => Smp.At m r (tab0 m r A b) (lin0 m w) x.1 x.2.1 x.2.2.1 x.2.2.2 ∧ ∃ v, ColV (m + r) x.2.2.1 v ∧ ρ = [some (.val (.list (rowP m w))), some (.val (.list (tabP r m A))), some (.val (.list (rowP r b))), some (.own (.lst (tabP r (m + r + 1) x.2.1))), some (.val (.int (m : Int))), some (.val (.list (rowP (m + r + 1) x.2.2.1))), some (.own (.lst (basP r x.2.2.2))), some (.val v), none, none, none, none, none, none]) (fun x => 2 ^ (m + r) - x.1) (0, tab0 m r A b, lin0 m w, fun i => m + i) ⟨start, v, hv, rfl⟩ ?_
    clear hv v
    rintro ⟨k, T, L, B⟩ _ ⟨hat, v, hv, rfl⟩
    dsimp only at hat hv ⊢
    unfold t6_greatest_sum
    rcases hv with ⟨s, rfl, hs⟩ | ⟨rfl, hL⟩
    · walk_at "r"
      unfold l5_greatest_sum
      obtain ⟨t1, t2⟩ := bits hat
      have he := hat.eqv
      have hex := Smp.leaves_some h0 he.bas he.fro he.lin hs.1 hs.2.1 hy hw
      walk_at "r"
      refine of_leaving (N := m + r) (c := c) (by omega) (by omega) (by have := hs.1; omega) t1 (by omega) hex fun p hp => ?_
      obtain ⟨p1, p2, p3, p4⟩ := hp
      have hp0 : T p s ≠ 0 := by grind
      have hnx := hat.step hs.1 hs.2.1 hs.2.2 p1 p2 p3 p4
      obtain ⟨n1, n2⟩ := bits hnx
      have hsm : s < m + r := hs.1
      walk_at "r"
      refine wp_setIxR ?_
      refine wp_lcP (ρ1 := [some (.val (.list (rowP m w))), some (.val (.list (tabP r m A))), some (.val (.list (rowP r b))), some (.own (.lst (tabP r (m + r + 1) T))), some (.val (.int (m : Int))), some (.val (.list (rowP (m + r + 1) L))), some (.own (.lst (basP r B))), some (.val (.int (s : Int))), none, some (.val (natI p)), none, none, none, none]) (m + r + 1) (T p) (fun j => rq (T p j / T p s)) (by simp) (by omega) ?_ ?_ ?_
      · walk_at "r"
        refine opq rfl rfl (ev_ix (.inr (.inr rfl)) (atI_nat (tabP_at p1))) ?_
        exact ⟨.inl rfl, rfl⟩
      · intro j hj
        dsimp only [set_s, set_z]
        unfold e3_greatest_sum
        walk_at "r"
        refine opq rfl rfl (ev_ix (.inr (.inr rfl)) (atI_nat (tabP_at p1))) ?_
        walk_at "r"
        refine opq rfl rfl (ev_ix (.inr (.inl rfl)) (atI_nat (rowP_at (by omega)))) ?_
        walk_at "r"
        refine of_dividedQ (t1 p p1 j (by omega)) (t1 p p1 s (by omega)) hp0 (by omega) ?_
        walk_at "r"
        exact ⟨rfl, rfl⟩
      rw [rowP_map]
      walk_at "r"
      apply ixq (j := p) rfl rfl (by rw [tabP_len]; exact p1)
      walk_at "set"
      rw [tabP_set]
      obtain ⟨T1, hT1⟩ : ∃ T1 : Nat → Nat → Rat, T1 = fun i => if i = p then (fun j => T p j / T p s) else T i := ⟨_, rfl⟩
      rw [← hT1]
      have e1 : T1 p = Smp.pivT T p s p := by rw [hT1]; dsimp only; rw [if_pos rfl]; funext j; unfold Smp.pivT; rw [if_pos rfl]
      have e2 : ∀ i, i ≠ p → T1 i = T i := fun i hi => by rw [hT1]; dsimp only; rw [if_neg hi]
      clear hT1
      have g1 : ∀ j, j < m + r + 1 → Bq c (T1 p j) := fun j hj => by rw [e1]; exact n1 p p1 j (by omega)
      have e3 : ∀ j, T1 p j = T p j / T p s := fun j => by rw [e1]; unfold Smp.pivT; rw [if_pos rfl]
      walk_at "r"
      refine opq rfl rfl (ev_ix (.inr (.inr rfl)) (atI_nat (tabP_at p1))) ?_
      walk_at "r"
      refine wp_lcN (ρ1 := [some (.val (.list (rowP m w))), some (.val (.list (tabP r m A))), some (.val (.list (rowP r b))), some (.own (.lst (tabP r (m + r + 1) T1))), some (.val (.int (m : Int))), some (.val (.list (rowP (m + r + 1) L))), some (.own (.lst (basP r B))), some (.val (.int (s : Int))), none, some (.val (natI p)), some (.val (.list (rowP (m + r + 1) (T1 p)))), none, none, none]) r (fun i => .list (rowP (m + r + 1) (Smp.pivT T p s i))) (by simp) (by omega) ?_ ?_ ?_
      · walk_at "r"
        rw [tabP_len]
        exact ⟨rfl, rfl⟩
      · intro i hi
        dsimp only [set_s, set_z]
        unfold e4_greatest_sum
        unfold natI
        walk_at "r"
        refine branchD (fun h => ?_) fun h => ?_
        · have h : i = p := by omega
          subst h
          walk_at "r"
          refine ⟨?_, rfl⟩
          rw [e1]
        · have h : i ≠ p := by omega
          walk_at "r"
          refine opq rfl rfl (ev_ix (.inr (.inr rfl)) (atI_nat (tabP_at hi))) ?_
          rw [e2 i h]
          walk_at "r"
          have ee : rowP (m + r + 1) (fun j => T i j - T i s * T1 p j) = rowP (m + r + 1) (Smp.pivT T p s i) := rowP_congr fun j hj => by rw [e3]; unfold Smp.pivT; rw [if_neg h]
          refine of_without (n := m + r + 1) (c := c) (by omega) (fun j hj => t1 i hi j (by omega)) g1 (by omega) (by omega) ?_ ?_
          · walk_at "r"
            exact ⟨by rw [ee], rfl⟩
          · walk_at "r"
            exact ⟨by rw [ee], rfl⟩
      rw [show ((List.range r).map fun i => PyData.list (rowP (m + r + 1) (Smp.pivT T p s i))) = tabP r (m + r + 1) (Smp.pivT T p s) from rfl]
      walk_at "r"
      refine opq rfl rfl (ev_ix (.inr (.inr rfl)) (atI_nat (tabP_at p1))) ?_
      walk_at "r"
      rw [← e1]
      have el2 : rowP (m + r + 1) (fun j => L j - L s * T1 p j) = rowP (m + r + 1) (Smp.pivL T L p s) := rowP_congr fun j hj => by rw [e3]; rfl
      have hx := hnx.short
      refine of_without (n := m + r + 1) (c := c) (by omega) (fun j hj => t2 j (by omega)) g1 (by omega) (by omega) ?_ ?_
      all_goals
        rw [el2]
        walk_at "r"
        refine wp_setIxR ?_
        walk_at "r"
        apply ixq (j := p) rfl rfl (by rw [basP_len]; exact p1)
        walk_at "set"
        rw [show PyData.int (s : Int) = natI s from rfl, basP_set]
        walk_at "r"
        refine of_entering (c := c) (by omega) (fun j hj => n2 j (by omega)) (by omega) (fun s' hs' => ?_) fun hL => ?_
        · walk_at "r"
          exact ⟨(k + 1, Smp.pivT T p s, Smp.pivL T L p s, Smp.pivB B p s), by show 2 ^ (m + r) - (k + 1) < 2 ^ (m + r) - k; omega, hnx, _, .inl ⟨s', rfl, hs'⟩, rfl⟩
        · walk_at "r"
          exact ⟨(k + 1, Smp.pivT T p s, Smp.pivL T L p s, Smp.pivB B p s), by show 2 ^ (m + r) - (k + 1) < 2 ^ (m + r) - k; omega, hnx, _, .inr ⟨rfl, hL⟩, rfl⟩
    · walk_at "r"
      exact ⟨rfl, k, T, L, B, hat, hL, rfl⟩
  have hrest : ∀ v, ColV (m + r) (lin0 m w) v → Wp (sSeq (sFgt [7] (sWhile t6_greatest_sum l5_greatest_sum))
    (sSeq (sAsg (mOp fMul (mLst (lCons (mC (.tuple [.int 0, .int 1])) lNil)) (mVar 4)) (Py.gName 8))
    (sSeq (sFor (Py.iRng1 (mUn fLen (mVar 1))) (Py.gName 9) l7_greatest_sum)
    (sRet (mTup (lCons (mOp fIx (mVar 5) (mUn fNeg (mC (.int 1)))) (lCons (mVar 8) (lCons (mSl (mVar 5) (oSome (mVar 4)) (oSome (mOp fAdd (mVar 4) (mUn fLen (mVar 1))))) lNil)))))))) [some (.val (.list (rowP m w))), some (.val (.list (tabP r m A))), some (.val (.list (rowP r b))), some (.own (.lst (tabP r (m + r + 1) (tab0 m r A b)))), some (.val (.int (m : Int))), some (.val (.list (rowP (m + r + 1) (lin0 m w)))), some (.own (.lst (basP r fun i => m + i))), some (.val v), none, none, none, none, none, none] fun f ρ' => FinQ [.val (.list (rowP m w)), .val (.list (tabP r m A)), .val (.list (rowP r b))] f ρ' Q := by
    intro v hv
    refine wp_seq (wp_mid _ (hloop v hv) ?_)
    rintro _ ⟨k', T, L, B, hat, hL, rfl⟩
    have he := hat.eqv
    walk_at "rl"
    refine opq rfl rfl (ev_rep0 (by omega)) ?_
    walk_at "rl"
    refine wp_forN (fun i ρ => ρ = [some (.val (.list (rowP m w))), some (.val (.list (tabP r m A))), some (.val (.list (rowP r b))), some (.own (.lst (tabP r (m + r + 1) T))), some (.val (.int (m : Int))), some (.val (.list (rowP (m + r + 1) L))), some (.own (.lst (basP r B))), none, some (.own (.lst (rowP m fun j => Smp.val i (m + r) T B j))), none, none, none, none, none]) r ?_ ?_ ?_
    · walk_at "r"
      rw [tabP_len]
      exact ⟨rfl, by omega, rfl⟩
    · rintro i _ hi rfl
      unfold l7_greatest_sum
      obtain ⟨s1, s2⟩ := val_step (m := m) he.bas hi
      walk_at "ri"
      refine opq rfl rfl (ev_ix (.inr (.inr rfl)) (atI_nat (basP_at hi))) ?_
      unfold natI
      walk_at "ri"
      refine branchD (fun h => ?_) fun h => ?_
      · walk_at "ri"
        refine wp_setIxR ?_
        walk_at "ri"
        refine opq rfl rfl (ev_ix (.inr (.inr rfl)) (atI_nat (tabP_at hi))) ?_
        walk_at "ri"
        refine opq rfl rfl (ev_ix (.inr (.inl rfl)) (atI_m1 rowP_len (rowP_at (by omega)))) ?_
        walk_at "ri"
        refine opq rfl rfl (ev_ix (.inr (.inr rfl)) (atI_nat (basP_at hi))) ?_
        apply ixq (j := B i) rfl rfl (by rw [rowP_len]; omega)
        walk_at "set"
        rw [rowP_set (by omega), s1 (by omega)]
        walk_at "ri"
        rfl
      · walk_at "ri"
        rw [s2 (by omega)]
    · rintro _ rfl
      walk_at "rl"
      refine opq rfl rfl (ev_ix (.inr (.inl rfl)) (atI_m1 rowP_len (rowP_at (by omega)))) ?_
      walk_at "rl"
      rw [tabP_len, cutP]
      walk_at "rl"
      obtain ⟨c1, c2⟩ := at_cert hat hnum hL
      exact k _ _ _ c1 c2
  refine of_entering (c := c) (by omega) (fun j hj => b2 j (by omega)) (by omega) (fun s hs => ?_) fun hL => ?_
  · with_reducible apply callq0
    with_reducible apply putqV
    walk_at "put"
    exact hrest _ (.inl ⟨s, rfl, hs⟩)
  · with_reducible apply callq0
    with_reducible apply putqV
    walk_at "put"
    exact hrest _ (.inr ⟨rfl, hL⟩)
end
end Py
namespace Py
open PySem D
local macro_rules
  | `(tactic| walk_at "w") => `(tactic| with_reducible first
    | refine seq_nx ?_ | refine seq_rt ?_ | refine seq_bk ?_ | refine seq_ct ?_ | refine wp_seq ?_ | refine wp_asg ?_ | refine wp_next ?_ | refine wp_ret ?_ | refine wp_retN ?_ | refine wp_brk ?_ | refine wp_cont ?_ | refine wp_expr ?_ | refine wp_op ?_ | refine wp_un ?_ | refine wp_c ?_
    | refine unB ?_ | refine wp_truB ?_ | refine wp_and ?_ | refine wp_or ?_ | refine wp_not ?_ | refine wp_ifE ?_ | refine wp_tup ?_ | refine wp_lst ?_ | refine wp_lcons ?_ | refine wp_lnil ?_ | refine frzV ?_ | refine frzN ?_ | refine wp_frz ?_ | refine wp_sl ?_ | refine wp_onone ?_ | refine wp_osome ?_
    | refine wp_anil ?_ | refine wp_av ?_ | refine wp_andV ?_ | refine wp_orV ?_ | refine wp_notV ?_ | refine wp_fgtR ?_ | refine turn_nx ?_ | refine turn_rt ?_ | refine turn_bk ?_ | refine turn_ct ?_ | refine fgt_rt ?_ | refine wp_par ?_ | refine wp_chain ?_ | refine wp_seqI ?_)
local macro_rules
  | `(tactic| walk_at "put") => `(tactic| focus ((repeat apply PutR.s); first | exact PutR.z rfl | exact PutR.z (by assumption)))
local macro_rules
  | `(tactic| walk_at "set") => `(tactic| focus ((repeat apply SetR.s); first | exact SetR.o | exact SetR.r))
local macro_rules
  | `(tactic| walk_at "fgt") => `(tactic| focus (repeat first | exact FgtsR.nil | exact FgtR.k | exact FgtR.z rfl | exact FgtR.z (by assumption) | apply FgtR.s | apply FgtsR.cons))
local macro_rules
  | `(tactic| walk_at "x") => `(tactic| first
    | ((with_reducible apply wp_varV); (focus exact rfl)) | ((with_reducible apply wp_varO); (focus exact rfl)) | ((with_reducible apply wp_varR); (focus exact rfl))
    | ((with_reducible apply opq); (focus exact rfl); (focus exact rfl); (focus (first | exact ev_eqI | exact ev_neI | exact ev_ltI | exact ev_leI | exact ev_gtI | exact ev_geI | exact ev_in2 | exact ev_in2n | exact ev_in4n | exact ev_isT | exact ev_isF | exact ev_isnT | exact ev_isnF | exact ev_eqQ0 | exact ev_eqQ1 | exact ev_eqQ | exact ev_strT | exact ev_strF n1 | exact ev_strF n2 | exact ev_strF n3 | exact ev_strF n4 | exact ev_strF n5 | exact ev_strF n6 | exact rfl)))
    | ((with_reducible apply unq); (focus exact rfl); (focus exact rfl))
    | ((with_reducible first | apply putqV | apply putqN); walk_at "put")
    | ((with_reducible apply putqB); (focus exact rfl); (focus exact rfl); walk_at "put"; walk_at "put")
    | ((with_reducible apply putq2); walk_at "put"; walk_at "put")
    | ((with_reducible apply parq); walk_at "put"; walk_at "put")
    | ((with_reducible apply wp_callR); (focus (repeat first | exact RefsR.nil | apply RefsR.v | apply RefsR.r)); (focus decide))
    | ((with_reducible apply wp_ar); (focus exact rfl))
    | ((with_reducible apply fin_rt); (focus exact rfl); (focus exact rfl))
    | ((with_reducible apply fin_nx); (focus exact rfl))
    | ((with_reducible apply wp_appendR); (focus exact rfl))
    | (with_reducible refine ⟨_, rfl, ?_⟩) | (with_reducible refine ⟨_, .inl rfl, ?_⟩) | (with_reducible refine ⟨_, .inr (.inl rfl), ?_⟩) | (with_reducible refine ⟨_, .inr (.inr rfl), ?_⟩)
    | (with_reducible apply callq0) | ((with_reducible apply frzB); (focus exact rfl); (focus exact rfl); walk_at "put")
    | ((with_reducible apply callq1); walk_at "set")
    | ((with_reducible apply callq2); walk_at "set"; walk_at "set")
    | ((with_reducible first | apply fgt_nx | apply fgt_bk | apply fgt_ct); walk_at "fgt")
    | ((with_reducible apply brT); (focus exact rfl)) | ((with_reducible apply brF); (focus exact rfl)))
local macro_rules
  | `(tactic| walk_at "r") => `(tactic| repeat first | walk_at "w" | walk_at "x")
local macro_rules
  | `(tactic| walk_at "ri") => `(tactic| repeat first | walk_at "w" | walk_at "x" | (with_reducible refine wp_if ?_))
local macro_rules
  | `(tactic| walk_at "app") => `(tactic| ((with_reducible apply appq); (focus exact rfl); (focus ((try simp only [List.length_map, List.length_nil, List.length_cons, List.length_append]); unfold line; omega)); walk_at "set"))
local macro_rules
  | `(tactic| walk_at "mul") => `(tactic| ((refine opq rfl rfl (ev_mul ?_) ?_); (focus (apply mulT <;> omega))))
local macro_rules
  | `(tactic| walk_at "rm") => `(tactic| repeat first | walk_at "w" | walk_at "x" | walk_at "mul")
local macro_rules
  | `(tactic| walk_at "len") => `(tactic| (refine And.intro ?_ ?_; (focus (simp [line]; done))))
local macro_rules
  | `(tactic| walk_at "rl") => `(tactic| repeat first | walk_at "w" | walk_at "x" | walk_at "len")
local macro_rules
  | `(tactic| walk_at "ril") => `(tactic| repeat first | walk_at "w" | walk_at "x" | walk_at "len" | (with_reducible refine wp_if ?_))
/-! QUe: tables in Rat, denominators of rows, and the surest stakes. -/
def betsP (M n : Nat) (G : Nat → Nat → Rat) : List PV := (List.range M).map fun t => .tuple (rowP n (G t))
abbrev tblP (n M : Nat) (G : Nat → Nat → Rat) : PV := .tuple [.int (n : Int), .tuple (betsP M n G)]
theorem betsP_len {M n : Nat} {G : Nat → Nat → Rat} : (betsP M n G).length = M := by simp [betsP]
theorem betsP_at {M n t : Nat} {G : Nat → Nat → Rat} (h : t < M) : (betsP M n G)[t]? = some (.tuple (rowP n (G t))) := by simp [betsP, h]
/-- the bets of a list -/
def gR (bets : List (List (Int × Int))) (t i : Nat) : Rat := qv ((bets.getD t []).getD i (0, 1))
theorem bets_gR {n : Nat} {bets : List (List (Int × Int))} (h : ∀ b ∈ bets, b.length = n ∧ ∀ p ∈ b, Low p) : bets.map tupF = betsP bets.length n (gR bets) := by
  unfold betsP
  refine List.ext_getElem (by simp) fun t h1 h2 => ?_
  rw [List.length_map] at h1
  rw [List.getElem_map, List.getElem_map, List.getElem_range]
  obtain ⟨e1, e2⟩ := h _ (List.getElem_mem h1)
  unfold tupF
  rw [rowP_list e2, e1]
  unfold gR
  simp [h1]
theorem tbl_gR {n : Nat} {bets : List (List (Int × Int))} (h : ∀ b ∈ bets, b.length = n ∧ ∀ p ∈ b, Low p) : tblV n bets = tblP n bets.length (gR bets) := by
  unfold tblV tblP
  rw [bets_gR h]
theorem sm_le {f g : Nat → Rat} : ∀ {n}, (∀ k, k < n → f k ≤ g k) → Smp.sm n f ≤ Smp.sm n g
  | 0, _ => Rat.le_refl
  | n + 1, h => by
    have h1 := sm_le (f := f) (g := g) (n := n) fun k hk => h k (by omega)
    have h2 := h n (by omega)
    unfold Smp.sm
    grind
theorem sm_ge {f : Nat → Rat} {k : Nat} : ∀ {n}, (∀ k, k < n → 0 ≤ f k) → k < n → f k ≤ Smp.sm n f
  | 0, _, h => by omega
  | n + 1, h, hk => by
    unfold Smp.sm
    by_cases c : k = n
    · subst c
      have := Smp.sm_nn (f := f) (n := k) fun j hj => h j (by omega)
      grind
    · have h1 := sm_ge (f := f) (k := k) (n := n) (fun j hj => h j (by omega)) (by omega)
      have h2 := h n (by omega)
      grind
theorem sm_succ {n : Nat} {f : Nat → Rat} : Smp.sm (n + 1) f = Smp.sm n f + f n := rfl
theorem sm_first {n : Nat} {f : Nat → Rat} : Smp.sm (1 + n) f = f 0 + Smp.sm n fun k => f (1 + k) := by
  rw [Smp.sm_split]
  show (0 : Rat) + f 0 + _ = _
  grind
theorem num_den (x : Rat) : x * ((x.den : Int) : Rat) = (x.num : Rat) := by
  have := qv_nd x
  unfold qv at this
  have hd : ((x.den : Int) : Rat) ≠ 0 := ic_ne (by have := x.den_pos; omega)
  dsimp only at this
  grind
/-- the product of denominators -/
def pden (f : Nat → Rat) : Nat → Int
  | 0 => 1
  | k + 1 => pden f k * ((f k).den : Int)
theorem lt_mul' {a b : Int} {m n : Nat} (ha : a.natAbs < 2 ^ m) (hb : b.natAbs < 2 ^ n) : (a * b).natAbs < 2 ^ (n + m) := by
  rw [Nat.add_comm]; exact lt_mul ha hb
theorem pden_bits {f : Nat → Rat} {β : Nat} : ∀ {M : Nat}, (∀ t, t < M → Bq β (f t)) → 0 < pden f M ∧ (pden f M).natAbs < 2 ^ (β * M + 1) ∧ ∀ t, t < M → Smp.Itg (β * M + 1) (f t * (pden f M : Rat))
  | 0, _ => ⟨by show (0 : Int) < 1; decide, by simp [pden], fun t ht => by omega⟩
  | M + 1, h => by
    obtain ⟨h1, h2, h3⟩ := pden_bits (f := f) (β := β) (M := M) fun t ht => h t (by omega)
    have hM := h M (by omega)
    have hd : 0 < ((f M).den : Int) := by have := (f M).den_pos; omega
    have hdb : ((f M).den : Int).natAbs < 2 ^ β := by simpa using hM.2
    have ep : β * (M + 1) + 1 = (β * M + 1) + β := by rw [Nat.mul_succ]; omega
    refine ⟨Int.mul_pos h1 hd, by rw [ep]; exact lt_mul h2 hdb, fun t ht => ?_⟩
    have e : ((pden f (M + 1) : Int) : Rat) = (pden f M : Rat) * ((f M).den : Int) := by
      show ((pden f M * ((f M).den : Int) : Int) : Rat) = _
      rw [Rat.intCast_mul]
    rw [e, ep]
    by_cases c : t = M
    · subst c
      refine ⟨(f t).num * pden f t, lt_mul' hM.1 h2, ?_⟩
      rw [Rat.intCast_mul, ← num_den]
      grind
    · obtain ⟨z, z1, z2⟩ := h3 t (by omega)
      refine ⟨z * ((f M).den : Int), lt_mul z1 hdb, ?_⟩
      rw [Rat.intCast_mul, ← z2]
      grind
/-- a common denominator -/
def Cd (N n : Nat) (f : Nat → Rat) : Prop := ∃ E : Int, E ≠ 0 ∧ E.natAbs < 2 ^ N ∧ ∀ k, k < n → Smp.Itg N (f k * (E : Rat))
theorem cd_bq {N n : Nat} {f : Nat → Rat} (h : Cd N n f) {k : Nat} (hk : k < n) : Bq N (f k) := by
  obtain ⟨E, h1, h2, h3⟩ := h
  obtain ⟨z, z1, z2⟩ := h3 k hk
  exact bq_of h1 z2 z1 h2
theorem cd_row {f : Nat → Rat} {β M : Nat} (h : ∀ t, t < M → Bq β (f t)) : Cd (β * M + 1) M f := by
  obtain ⟨h1, h2, h3⟩ := pden_bits h
  exact ⟨_, by omega, h2, h3⟩
theorem cd_mono {N N' n n' : Nat} {f : Nat → Rat} (h : Cd N n f) (hN : N ≤ N') (hn : n' ≤ n) : Cd N' n' f := by
  obtain ⟨E, h1, h2, h3⟩ := h
  have hp := Nat.pow_le_pow_right (n := 2) (by decide) hN
  exact ⟨E, h1, by omega, fun k hk => Smp.itg_mono (h3 k (by omega)) hN⟩
theorem itg_sum {N : Nat} {f : Nat → Rat} {E : Rat} : ∀ {k : Nat}, (∀ t, t < k → Smp.Itg N (f t * E)) → ∃ z : Int, z.natAbs ≤ k * 2 ^ N ∧ Smp.sm k f * E = (z : Rat)
  | 0, _ => ⟨0, by simp, by show (0 : Rat) * E = _; rw [Rat.zero_mul, Rat.intCast_zero]⟩
  | k + 1, h => by
    obtain ⟨z, z1, z2⟩ := itg_sum (f := f) (E := E) (k := k) fun t ht => h t (by omega)
    obtain ⟨y, y1, y2⟩ := h k (by omega)
    refine ⟨z + y, ?_, ?_⟩
    · rw [Nat.succ_mul]; omega
    · show (Smp.sm k f + f k) * E = _
      rw [Rat.add_mul, z2, y2, Rat.intCast_add]
theorem cd_sum {N n : Nat} {f : Nat → Rat} (h : Cd N n f) (hn : n ≤ 127) {k : Nat} (hk : k ≤ n) : Bq (N + 7) (Smp.sm k f) := by
  obtain ⟨E, h1, h2, h3⟩ := h
  obtain ⟨z, z1, z2⟩ := itg_sum (k := k) fun t ht => h3 t (by omega)
  have hp : (2 : Nat) ^ (N + 7) = 2 ^ N * 128 := by rw [Nat.pow_add]
  have h4 := Nat.mul_le_mul_right (2 ^ N) (show k ≤ 127 by omega)
  have := Nat.two_pow_pos N
  exact bq_of h1 z2 (by omega) (by omega)
theorem cd_mul {N N' n : Nat} {f g : Nat → Rat} (h : Cd N n f) (h' : Cd N' n g) : Cd (N + N') n fun k => f k * g k := by
  obtain ⟨E, h1, h2, h3⟩ := h
  obtain ⟨D, d1, d2, d3⟩ := h'
  refine ⟨E * D, Int.mul_ne_zero h1 d1, lt_mul h2 d2, fun k hk => ?_⟩
  obtain ⟨z, z1, z2⟩ := h3 k hk
  obtain ⟨y, y1, y2⟩ := d3 k hk
  refine ⟨z * y, lt_mul z1 y1, ?_⟩
  rw [Rat.intCast_mul, Rat.intCast_mul, ← z2, ← y2]
  grind
theorem cd_dot {N N' n : Nat} {f g : Nat → Rat} (h : Cd N n f) (h' : Cd N' n g) (hn : n ≤ 127) {k : Nat} (hk : k ≤ n) : Bq (N + N' + 7) (Smp.sm k fun t => f t * g t) := cd_sum (cd_mul h h') hn hk
section
variable {Q : R → List Ob → Prop} {n M : Nat} {G : Nat → Nat → Rat}
theorem of_less_gains {i β : Nat} (hM : M ≤ 1000) (hi : i < n) (hG : ∀ t, t < M → Bq β (G t i)) (hβ : β ≤ 1000000) (k : Q (.new (.lst (rowP M fun t => - G t i))) []) : Ret d_less_gains [.val (tblP n M G), .val (.int (i : Int))] Q := by
  have hln : (line : Nat) = 16777216 := rfl
  refine ret_mkR (by repeat constructor) ?_
  unfold b_less_gains
  walk_at "r"
  refine wp_lcS (ρ1 := [some (.val (tblP n M G)), some (.val (.int (i : Int))), none]) (betsP M n G) (fun t => rq (- G t i)) (by simp) (by rw [betsP_len]; omega) ?_ ?_ ?_
  · walk_at "r"
    exact ⟨.inr (.inl rfl), rfl⟩
  · intro t ht
    rw [betsP_len] at ht
    have e : (betsP M n G)[t] = .tuple (rowP n (G t)) := by simp [betsP]
    rw [e]
    dsimp only [set_s, set_z]
    unfold e1_less_gains
    walk_at "r"
    refine opq rfl rfl (ev_ix (.inl rfl) (atI_nat (rowP_at hi))) ?_
    walk_at "r"
    refine of_minusQ (x := 0) bq_0 (hG t ht) (by omega) ?_
    walk_at "r"
    refine ⟨?_, rfl⟩
    rw [show (0 : Rat) - G t i = - G t i by grind]
  rw [betsP_len, rowP_map]
  walk_at "r"
  exact k
/-- what the surest stakes show -/
structure SurestC (n M : Nat) (G : Nat → Nat → Rat) (g : Rat) (x y : Nat → Rat) : Prop where
  g0 : 0 ≤ g
  x0 : ∀ t, 0 ≤ x t
  gain : ∀ i, i < n → g ≤ Smp.sm M fun t => x t * G t i
  y0 : ∀ i, i < n → 0 ≤ y i
  y1 : 1 ≤ Smp.sm n y
  worth : ∀ t, t < M → (Smp.sm n fun i => y i * G t i) ≤ g
def sA (n : Nat) (G : Nat → Nat → Rat) (i j : Nat) : Rat := if i < n then (if j = 0 then 1 else - G (j - 1) i) else if j = 0 then 0 else 1
def sb (n i : Nat) : Rat := if i < n then 0 else 1
def sw (j : Nat) : Rat := if j = 0 then 1 else 0
theorem sm_neg {f : Nat → Rat} {n : Nat} : Smp.sm n (fun k => - f k) = - Smp.sm n f := by
  have := Smp.sm_mul (-1) f n
  rw [Smp.sm_congr (g := fun k => -1 * f k) fun k _ => by grind, this]
  grind
theorem surest_cert {g : Rat} {x y : Nat → Rat} (h : Cert (1 + M) (n + 1) (sA n G) (sb n) sw g x y) : SurestC n M G g (fun t => x (1 + t)) y := by
  have hg : x 0 = g := by
    rw [← h.xw, Smp.sm_one (i := 0) (by omega) fun k _ hk => by unfold sw; rw [if_neg hk, Rat.zero_mul]]
    unfold sw
    rw [if_pos rfl, Rat.one_mul]
  have hy : y n = g := by
    rw [← h.yb, sm_succ, Smp.sm_zero fun k hk => by unfold sb; rw [if_pos hk, Rat.mul_zero]]
    unfold sb
    rw [if_neg (by omega)]
    grind
  refine ⟨hg ▸ h.x0 0, fun t => h.x0 _, fun i hi => ?_, fun i hi => h.y0 i (by omega), ?_, fun t ht => ?_⟩
  · have h1 := h.row i (by omega)
    rw [sm_first] at h1
    have e1 : sA n G i 0 * x 0 = g := by unfold sA; rw [if_pos hi, if_pos rfl, hg, Rat.one_mul]
    have e2 : (Smp.sm M fun k => sA n G i (1 + k) * x (1 + k)) = - Smp.sm M fun t => x (1 + t) * G t i := by
      rw [← sm_neg]
      refine Smp.sm_congr fun k _ => ?_
      unfold sA
      rw [if_pos hi, if_neg (by omega), show 1 + k - 1 = k by omega]
      grind
    rw [e1, e2] at h1
    unfold sb at h1
    rw [if_pos hi] at h1
    grind
  · have h1 := h.col 0 (by omega)
    rw [sm_succ] at h1
    have e1 : (Smp.sm n fun k => y k * sA n G k 0) = Smp.sm n y := Smp.sm_congr fun k hk => by unfold sA; rw [if_pos hk, if_pos rfl, Rat.mul_one]
    have e2 : y n * sA n G n 0 = 0 := by unfold sA; rw [if_neg (by omega), if_pos rfl, Rat.mul_zero]
    rw [e1, e2] at h1
    unfold sw at h1
    rw [if_pos rfl] at h1
    grind
  · have h1 := h.col (1 + t) (by omega)
    rw [sm_succ] at h1
    have e1 : (Smp.sm n fun k => y k * sA n G k (1 + t)) = - Smp.sm n fun k => y k * G t k := by
      rw [← sm_neg]
      refine Smp.sm_congr fun k hk => ?_
      unfold sA
      rw [if_pos hk, if_neg (by omega), show 1 + t - 1 = t by omega]
      grind
    have e2 : y n * sA n G n (1 + t) = g := by unfold sA; rw [if_neg (by omega), if_neg (by omega), hy, Rat.mul_one]
    rw [e1, e2] at h1
    unfold sw at h1
    rw [if_neg (by omega)] at h1
    grind
def sd (n M : Nat) (G : Nat → Nat → Rat) (i : Nat) : Int := if i < n then pden (fun t => G t i) M else 1
theorem itg01 {N : Nat} {x : Rat} {D : Int} (h : x = 0 ∨ x = 1 ∨ x = -1) (hD : D.natAbs < 2 ^ N) : Smp.Itg N (x * (D : Rat)) := by
  rcases h with rfl | rfl | rfl
  · exact ⟨0, Nat.two_pow_pos _, by rw [Rat.zero_mul, Rat.intCast_zero]⟩
  · exact ⟨D, hD, by rw [Rat.one_mul]⟩
  · exact ⟨-D, by rwa [Int.natAbs_neg], by rw [Rat.intCast_neg]; grind⟩
theorem itg_neg {N : Nat} {x : Rat} (h : Smp.Itg N x) : Smp.Itg N (-x) := by
  obtain ⟨z, z1, rfl⟩ := h
  exact ⟨-z, by rwa [Int.natAbs_neg], by rw [Rat.intCast_neg]⟩
theorem surest_num {β Qn : Nat} (hG : ∀ t, t < M → ∀ i, i < n → Bq β (G t i)) (hQ : 1 + M ≤ Qn ∨ n + 1 ≤ Qn) :
    Smp.Num (1 + M) (n + 1) (β * M + 1) Qn (Smp.bq (β * M + 1) Qn + (β * M + 1)) (tab0 (1 + M) (n + 1) (sA n G) (sb n)) (lin0 (1 + M) sw) (sd n M G) 1 := by
  have hd : ∀ i, sd n M G i ≠ 0 ∧ (sd n M G i).natAbs < 2 ^ (β * M + 1) := fun i => by
    unfold sd
    by_cases c : i < n
    · rw [if_pos c]
      obtain ⟨h1, h2, h3⟩ := pden_bits (f := fun t => G t i) (M := M) fun t ht => hG t ht i c
      exact ⟨by omega, h2⟩
    · rw [if_neg c]
      exact ⟨by decide, Nat.one_lt_two_pow (by omega)⟩
  refine ⟨by omega, fun i _ => (hd i).1, fun i _ => (hd i).2, fun i hi j hj => ?_, by decide, Nat.one_lt_two_pow (by omega), fun j hj => ?_, hQ, Nat.le_refl _⟩
  · have h1 : ∀ x : Rat, (x = 0 ∨ x = 1 ∨ x = -1) → Smp.Itg (β * M + 1) (x * (sd n M G i : Rat)) := fun x hx => itg01 hx (hd i).2
    unfold tab0
    by_cases c1 : j < 1 + M
    · rw [if_pos c1]
      unfold sA
      by_cases c2 : i < n
      · rw [if_pos c2]
        by_cases c3 : j = 0
        · rw [if_pos c3]; exact h1 1 (.inr (.inl rfl))
        · rw [if_neg c3]
          obtain ⟨h2, h3, h4⟩ := pden_bits (f := fun t => G t i) (M := M) fun t ht => hG t ht i c2
          unfold sd
          rw [if_pos c2]
          refine Smp.itg_congr ?_ (itg_neg (h4 (j - 1) (by omega)))
          grind
      · rw [if_neg c2]
        by_cases c3 : j = 0
        · rw [if_pos c3]; exact h1 0 (.inl rfl)
        · rw [if_neg c3]; exact h1 1 (.inr (.inl rfl))
    · rw [if_neg c1]
      by_cases c2 : j < 1 + M + (n + 1)
      · rw [if_pos c2]
        split
        · exact h1 1 (.inr (.inl rfl))
        · exact h1 0 (.inl rfl)
      · rw [if_neg c2]
        unfold sb
        split
        · exact h1 0 (.inl rfl)
        · exact h1 1 (.inr (.inl rfl))
  · refine itg01 ?_ (Nat.one_lt_two_pow (by omega))
    unfold lin0 sw
    split
    · split
      · exact .inr (.inr rfl)
      · exact .inl (by grind)
    · exact .inl rfl
theorem surest_bound (hn : 1 ≤ n) : ∃ y : Nat → Rat, (∀ k, k < n + 1 → 0 ≤ y k) ∧ ∀ j, j < 1 + M → sw j ≤ Smp.sm (n + 1) fun k => y k * sA n G k j := by
  obtain ⟨S, hS⟩ : ∃ S : Rat, S = Smp.sm M fun t => if 0 ≤ G t 0 then G t 0 else 0 := ⟨_, rfl⟩
  have hnn : ∀ t, t < M → 0 ≤ (if 0 ≤ G t 0 then G t 0 else 0 : Rat) := fun t _ => by split <;> first | assumption | exact Rat.le_refl
  have hS0 : 0 ≤ S := by rw [hS]; exact Smp.sm_nn hnn
  refine ⟨fun k => if k = 0 then 1 else if k = n then S else 0, fun k hk => ?_, fun j hj => ?_⟩
  · dsimp only
    split
    · decide
    · split
      · exact hS0
      · exact Rat.le_refl
  · rw [sm_succ, Smp.sm_one (i := 0) (by omega) fun k hk hk0 => by dsimp only; rw [if_neg hk0, if_neg (by omega), Rat.zero_mul]]
    dsimp only
    rw [if_pos rfl, if_neg (show ¬ n = 0 by omega), if_pos rfl]
    unfold sA sw
    rw [if_pos (show 0 < n by omega), if_neg (show ¬ n < n by omega)]
    by_cases c : j = 0
    · rw [if_pos c, if_pos c, if_pos c]; grind
    · rw [if_neg c, if_neg c, if_neg c]
      have h1 := sm_ge (f := fun t => if 0 ≤ G t 0 then G t 0 else 0) (k := j - 1) (n := M) hnn (by omega)
      rw [← hS] at h1
      by_cases c2 : 0 ≤ G (j - 1) 0
      · rw [if_pos c2] at h1; grind
      · rw [if_neg c2] at h1; grind
theorem cut_tail {k : Nat} {f : Nat → Rat} : cut (rowP (1 + k) f) (some 1) none = rowP k fun t => f (1 + t) := by
  unfold cut sIx
  simp only
  rw [if_neg (by omega), rowP_len, show min (1 : Int).toNat (1 + k) = 1 by show min 1 (1 + k) = 1; omega]
  refine List.ext_getElem (by simp [rowP]) fun i h1 h2 => ?_
  simp [rowP, Nat.add_comm]
theorem cut_head {m k : Nat} {f : Nat → Rat} : cut (rowP (m + k) f) none (some (m : Int)) = rowP m f := by
  unfold cut sIx
  simp only
  rw [if_neg (by omega), rowP_len, show min (m : Int).toNat (m + k) = m by omega]
  refine List.ext_getElem (by simp [rowP]) fun i h1 h2 => ?_
  simp [rowP]
theorem putq3U {i j k : Nat} {u v w : PV} {ρ ρ1 ρ2 ρ3 : Env} {Q : Env → Prop} (h : PutR i (some (.val u)) ρ ρ1) (h2 : PutR j (some (.val v)) ρ1 ρ2) (h3 : PutR k (some (.val w)) ρ2 ρ3) (q : Q ρ3) : PutQ (gTup [i, j, k]) (.val (.tuple [u, v, w])) ρ Q := ⟨ρ3, by simp [gTup, gNames, h.put, h2.put, h3.put], q⟩
/-- the denominators of stakes and of prices -/
structure SurestD (N n M : Nat) (g : Rat) (x y : Nat → Rat) : Prop where
  x : Cd N M x
  y : Cd N n y
  g : Bq N g
theorem of_surest {β Qn : Nat} (hn1 : 1 ≤ n) (hn : n ≤ 100) (hM : M ≤ 100) (hG : ∀ t, t < M → ∀ i, i < n → Bq β (G t i)) (hβ : β ≤ 1000000) (hQ : 1 + M ≤ Qn ∨ n + 1 ≤ Qn) (hc : Smp.bq (β * M + 1) Qn + (β * M + 1) ≤ 16000000)
    (k : ∀ g x y, SurestC n M G g x y → SurestD (Smp.bq (β * M + 1) Qn) n M g x y → Q (.val (.tuple [rq g, .tuple (rowP M x), .list (rowP n y)])) []) : Ret d_surest [.val (tblP n M G)] Q := by
  have hln : (line : Nat) = 16777216 := rfl
  refine ret_mkR (by repeat constructor) ?_
  unfold b_surest
  walk_at "rl"
  refine wp_lcN (ρ1 := [some (.val (tblP n M G)), some (.val (.int (n : Int))), some (.val (.tuple (betsP M n G))), none, none, none, none, none]) n (fun i => .list (rowP (1 + M) (sA n G i))) (by simp) (by omega) ?_ ?_ ?_
  · walk_at "r"
    exact ⟨rfl, rfl⟩
  · intro i hi
    dsimp only [set_s, set_z]
    unfold e1_surest natI
    walk_at "rl"
    refine of_less_gains (by omega) hi (fun t ht => hG t ht i hi) hβ ?_
    walk_at "rl"
    refine opq rfl rfl (ev_addL (by rw [rowP_len]; simp; omega)) ?_
    walk_at "rl"
    refine ⟨?_, rfl⟩
    congr 1
    rw [show [PyData.tuple [.int 1, .int 1]] = rowP 1 fun _ => 1 from rfl, rowP_app]
    refine rowP_congr fun j hj => ?_
    unfold sA
    rw [if_pos hi]
    by_cases c : j = 0
    · rw [if_pos c, if_pos (by omega)]
    · rw [if_neg c, if_neg (by omega)]
  walk_at "rl"
  rw [betsP_len]
  refine opq rfl rfl (ev_rep1 (by omega)) ?_
  refine opq rfl rfl (ev_addL (by rw [rowP_len]; simp; omega)) ?_
  walk_at "rl"
  refine opq rfl rfl (ev_addL (by simp; omega)) ?_
  have et : ((List.range n).map fun i => PyData.list (rowP (1 + M) (sA n G i))) ++ [.list ([PyData.tuple [.int 0, .int 1]] ++ rowP M fun _ => 1)] = tabP (n + 1) (1 + M) (sA n G) := by
    rw [tabP_snoc]
    congr 3
    rw [show [PyData.tuple [.int 0, .int 1]] = rowP 1 fun _ => 0 from rfl, rowP_app]
    refine rowP_congr fun j hj => ?_
    unfold sA
    rw [if_neg (show ¬ n < n by omega)]
    by_cases c : j = 0
    · rw [if_pos c, if_pos (by omega)]
    · rw [if_neg c, if_neg (by omega)]
  rw [et]
  walk_at "rl"
  rw [betsP_len]
  refine opq rfl rfl (ev_rep0 (by omega)) ?_
  refine opq rfl rfl (ev_addL (by rw [rowP_len]; simp; omega)) ?_
  have ew : [PyData.tuple [.int 1, .int 1]] ++ (rowP M fun _ => 0) = rowP (1 + M) sw := by
    rw [show [PyData.tuple [.int 1, .int 1]] = rowP 1 fun _ => 1 from rfl, rowP_app]
    refine rowP_congr fun j hj => ?_
    unfold sw
    by_cases c : j = 0
    · rw [if_pos c, if_pos (by omega)]
    · rw [if_neg c, if_neg (by omega)]
  rw [ew]
  walk_at "rl"
  refine opq rfl rfl (ev_rep0 (by omega)) ?_
  walk_at "rl"
  refine opq rfl rfl (ev_addL (by rw [rowP_len]; simp; omega)) ?_
  have eb : (rowP n fun _ => 0) ++ [PyData.tuple [.int 1, .int 1]] = rowP (n + 1) (sb n) := by
    rw [rowP_snoc]
    have e1 : sb n n = 1 := by unfold sb; rw [if_neg (by omega)]
    rw [e1, rowP_congr (f := sb n) (g := fun _ => 0) fun j hj => by unfold sb; rw [if_pos hj]]
    rfl
  rw [eb]
  walk_at "rl"
  obtain ⟨y, hy1, hy2⟩ := surest_bound (n := n) (M := M) (G := G) hn1
  refine of_greatest_sum (y := y) (by omega) (by omega) (surest_num hG hQ) hc (fun i _ => by unfold sb; split <;> decide) hy1 hy2 fun g x y hcert hden => ?_
  walk_at "rl"
  apply putq3U
  walk_at "put"
  walk_at "put"
  walk_at "put"
  walk_at "rl"
  rw [cut_tail]
  walk_at "rl"
  rw [cut_head]
  walk_at "rl"
  obtain ⟨E, e1, e2, e3, e4, e5⟩ := hden
  have one : ∀ z : Rat, z * ((1 : Int) : Rat) = z := fun z => by rw [Rat.intCast_one, Rat.mul_one]
  refine k g _ y (surest_cert hcert) ⟨⟨E, e1, e2, fun t ht => e3 (1 + t) (by omega)⟩, ⟨E, e1, e2, fun i hi => ?_⟩, ?_⟩
  · have := e4 i (by omega)
    rwa [one] at this
  · rw [one] at e5
    obtain ⟨z, z1, z2⟩ := e5
    exact bq_of e1 z2 z1 e2
end
end Py
namespace Py
open PySem D
local macro_rules
  | `(tactic| walk_at "w") => `(tactic| with_reducible first
    | refine seq_nx ?_ | refine seq_rt ?_ | refine seq_bk ?_ | refine seq_ct ?_ | refine wp_seq ?_ | refine wp_asg ?_ | refine wp_next ?_ | refine wp_ret ?_ | refine wp_retN ?_ | refine wp_brk ?_ | refine wp_cont ?_ | refine wp_expr ?_ | refine wp_op ?_ | refine wp_un ?_ | refine wp_c ?_
    | refine unB ?_ | refine wp_truB ?_ | refine wp_and ?_ | refine wp_or ?_ | refine wp_not ?_ | refine wp_ifE ?_ | refine wp_tup ?_ | refine wp_lst ?_ | refine wp_lcons ?_ | refine wp_lnil ?_ | refine frzV ?_ | refine frzN ?_ | refine wp_frz ?_ | refine wp_sl ?_ | refine wp_onone ?_ | refine wp_osome ?_
    | refine wp_anil ?_ | refine wp_av ?_ | refine wp_andV ?_ | refine wp_orV ?_ | refine wp_notV ?_ | refine wp_fgtR ?_ | refine turn_nx ?_ | refine turn_rt ?_ | refine turn_bk ?_ | refine turn_ct ?_ | refine fgt_rt ?_ | refine wp_par ?_ | refine wp_chain ?_ | refine wp_seqI ?_)
local macro_rules
  | `(tactic| walk_at "put") => `(tactic| focus ((repeat apply PutR.s); first | exact PutR.z rfl | exact PutR.z (by assumption)))
local macro_rules
  | `(tactic| walk_at "set") => `(tactic| focus ((repeat apply SetR.s); first | exact SetR.o | exact SetR.r))
local macro_rules
  | `(tactic| walk_at "fgt") => `(tactic| focus (repeat first | exact FgtsR.nil | exact FgtR.k | exact FgtR.z rfl | exact FgtR.z (by assumption) | apply FgtR.s | apply FgtsR.cons))
local macro_rules
  | `(tactic| walk_at "x") => `(tactic| first
    | ((with_reducible apply wp_varV); (focus exact rfl)) | ((with_reducible apply wp_varO); (focus exact rfl)) | ((with_reducible apply wp_varR); (focus exact rfl))
    | ((with_reducible apply opq); (focus exact rfl); (focus exact rfl); (focus (first | exact ev_eqI | exact ev_neI | exact ev_ltI | exact ev_leI | exact ev_gtI | exact ev_geI | exact ev_in2 | exact ev_in2n | exact ev_in4n | exact ev_isT | exact ev_isF | exact ev_isnT | exact ev_isnF | exact ev_eqQ0 | exact ev_eqQ1 | exact ev_eqQ | exact ev_strT | exact ev_strF n1 | exact ev_strF n2 | exact ev_strF n3 | exact ev_strF n4 | exact ev_strF n5 | exact ev_strF n6 | exact rfl)))
    | ((with_reducible apply unq); (focus exact rfl); (focus exact rfl))
    | ((with_reducible first | apply putqV | apply putqN); walk_at "put")
    | ((with_reducible apply putqB); (focus exact rfl); (focus exact rfl); walk_at "put"; walk_at "put")
    | ((with_reducible apply putq2); walk_at "put"; walk_at "put")
    | ((with_reducible apply parq); walk_at "put"; walk_at "put")
    | ((with_reducible apply wp_callR); (focus (repeat first | exact RefsR.nil | apply RefsR.v | apply RefsR.r)); (focus decide))
    | ((with_reducible apply wp_ar); (focus exact rfl))
    | ((with_reducible apply fin_rt); (focus exact rfl); (focus exact rfl))
    | ((with_reducible apply fin_nx); (focus exact rfl))
    | ((with_reducible apply wp_appendR); (focus exact rfl))
    | (with_reducible refine ⟨_, rfl, ?_⟩) | (with_reducible refine ⟨_, .inl rfl, ?_⟩) | (with_reducible refine ⟨_, .inr (.inl rfl), ?_⟩) | (with_reducible refine ⟨_, .inr (.inr rfl), ?_⟩)
    | (with_reducible apply callq0) | ((with_reducible apply frzB); (focus exact rfl); (focus exact rfl); walk_at "put")
    | ((with_reducible apply callq1); walk_at "set")
    | ((with_reducible apply callq2); walk_at "set"; walk_at "set")
    | ((with_reducible first | apply fgt_nx | apply fgt_bk | apply fgt_ct); walk_at "fgt")
    | ((with_reducible apply brT); (focus exact rfl)) | ((with_reducible apply brF); (focus exact rfl)))
local macro_rules
  | `(tactic| walk_at "r") => `(tactic| repeat first | walk_at "w" | walk_at "x")
local macro_rules
  | `(tactic| walk_at "ri") => `(tactic| repeat first | walk_at "w" | walk_at "x" | (with_reducible refine wp_if ?_))
local macro_rules
  | `(tactic| walk_at "app") => `(tactic| ((with_reducible apply appq); (focus exact rfl); (focus ((try simp only [List.length_map, List.length_nil, List.length_cons, List.length_append]); unfold line; omega)); walk_at "set"))
local macro_rules
  | `(tactic| walk_at "mul") => `(tactic| ((refine opq rfl rfl (ev_mul ?_) ?_); (focus (apply mulT <;> omega))))
local macro_rules
  | `(tactic| walk_at "rm") => `(tactic| repeat first | walk_at "w" | walk_at "x" | walk_at "mul")
local macro_rules
  | `(tactic| walk_at "len") => `(tactic| (refine And.intro ?_ ?_; (focus (simp [line]; done))))
local macro_rules
  | `(tactic| walk_at "rl") => `(tactic| repeat first | walk_at "w" | walk_at "x" | walk_at "len")
local macro_rules
  | `(tactic| walk_at "ril") => `(tactic| repeat first | walk_at "w" | walk_at "x" | walk_at "len" | (with_reducible refine wp_if ?_))
/-! QUf: sums and judges of the laws in Rat; sure bets. -/
theorem rq_i0 {x : Rat} : fIx (.pv (rq x)) (.pv (.int 0)) = some (.val (.int x.num)) := rfl
theorem rq_i1 {x : Rat} : fIx (.pv (rq x)) (.pv (.int 1)) = some (.val (.int (x.den : Int))) := rfl
theorem rat_rq {x : Rat} {n d : Int} (hd : d ≠ 0) (h : x * (d : Rat) = (n : Rat)) : fr (rat n d) = rq x := by
  refine fr_rq' (low_rat hd) ?_
  rw [qv_rat hd, ← h]
  have := ic_ne hd
  grind
theorem rat_pr {x : Rat} {n d : Int} (hd : d ≠ 0) (h : x * (d : Rat) = (n : Rat)) : rat n d = (x.num, (x.den : Int)) := by
  refine low_qv (low_rat hd) (low_num x) ?_
  rw [qv_nd, qv_rat hd, ← h]
  have := ic_ne hd
  grind
def rowN (n : Nat) (f : Nat → Rat) : List (Int × Int) := (List.range n).map fun j => ((f j).num, ((f j).den : Int))
theorem rowN_fr {n : Nat} {f : Nat → Rat} : (rowN n f).map fr = rowP n f := by unfold rowN rowP; rw [List.map_map]; rfl
theorem tup_rowN {n : Nat} {f : Nat → Rat} : tupF (rowN n f) = .tuple (rowP n f) := by unfold tupF; rw [rowN_fr]
theorem rowN_len {n : Nat} {f : Nat → Rat} : (rowN n f).length = n := by simp [rowN]
theorem num_nn {x : Rat} : 0 ≤ x.num ↔ 0 ≤ x := Rat.num_nonneg
theorem stakesB_rowN {n : Nat} {f : Nat → Rat} (h : ∀ j, j < n → 0 ≤ f j) : stakesB n (rowN n f) = true := by
  unfold stakesB
  rw [decide_eq_true rowN_len, Bool.true_and, Bool.and_eq_true]
  refine ⟨List.all_eq_true.mpr fun p hp => ?_, List.all_eq_true.mpr fun p hp => ?_⟩
  · obtain ⟨j, hj, rfl⟩ := List.mem_map.mp hp
    exact decide_eq_true (low_num _)
  · obtain ⟨j, hj, rfl⟩ := List.mem_map.mp hp
    exact decide_eq_true (num_nn.mpr (h j (List.mem_range.mp hj)))
theorem len_seq {v : PV} {xs : List PV} (h : SqV v xs) : fLen (.pv v) = some (.val (.int xs.length)) := by
  rcases h with rfl | rfl <;> rfl
section
variable {Q : R → List Ob → Prop} {n M Z a c : Nat} {f g : Nat → Rat} {v w : PV}
theorem of_totalQ (hn : n ≤ 1000) (hv : v = .list (rowP n f)) (hS : ∀ k, k ≤ n → Bq Z (Smp.sm k f)) (hf : ∀ t, t < n → Bq a (f t)) (hz : Z + a < 100000000) (k : Q (.val (rq (Smp.sm n f))) []) : Ret d_total [.val v] Q := by
  have hln : (line : Nat) = 16777216 := rfl
  subst hv
  refine ret_mkR (by repeat constructor) ?_
  unfold b_total
  walk_at "r"
  refine wp_forL (fun j ρ => ρ = [some (.val (.list (rowP n f))), some (.val (rq (Smp.sm j f))), none]) (rowP n f) ?_ ?_ ?_
  · walk_at "r"
    exact ⟨.inl rfl, rfl⟩
  · rintro j hj _ rfl
    rw [rowP_len] at hj
    have e : (rowP n f)[j] = rq (f j) := by simp [rowP]
    rw [e]
    unfold l1_total
    walk_at "r"
    refine of_plusQ (hS j (by omega)) (hf j hj) hz ?_
    walk_at "r"
    rfl
  · rintro _ rfl
    rw [rowP_len]
    walk_at "r"
    exact k
theorem of_product_sumQ (hn : n ≤ 1000) (hv : SqV v (rowP n f)) (hw : SqV w (rowP n g)) (hS : ∀ k, k ≤ n → Bq Z (Smp.sm k fun t => f t * g t)) (hf : ∀ t, t < n → Bq a (f t)) (hg : ∀ t, t < n → Bq c (g t)) (hz : Z + a + c < 100000000)
    (k : Q (.val (rq (Smp.sm n fun t => f t * g t))) []) : Ret d_product_sum [.val v, .val w] Q := by
  have hln : (line : Nat) = 16777216 := rfl
  refine ret_mkR (by repeat constructor) ?_
  unfold b_product_sum
  walk_at "r"
  refine wp_lcN (ρ1 := [some (.val v), some (.val w), none]) n (fun t => rq (f t * g t)) (by simp) (by omega) ?_ ?_ ?_
  · walk_at "r"
    refine unq rfl (len_seq hv) ?_
    rw [rowP_len]
    exact ⟨rfl, rfl⟩
  · intro t ht
    dsimp only [set_s, set_z]
    unfold e1_product_sum natI
    walk_at "r"
    refine opq rfl rfl (sq_ix hv (rowP_at ht)) ?_
    walk_at "r"
    refine opq rfl rfl (sq_ix hw (rowP_at ht)) ?_
    walk_at "r"
    refine of_timesQ (hf t ht) (hg t ht) (by omega) ?_
    walk_at "r"
    exact ⟨rfl, rfl⟩
  rw [rowP_map]
  walk_at "r"
  refine of_totalQ hn rfl hS (fun t ht => bq_mul (hf t ht) (hg t ht)) (by omega) ?_
  walk_at "r"
  exact k
theorem dot_num {S x y : Rat} {n d : Int} (h : S * (d : Rat) = (n : Rat)) :
    (S + x * y) * ((d * (x.den : Int) * (y.den : Int) : Int) : Rat) = ((n * (x.den : Int) * (y.den : Int) + x.num * y.num * d : Int) : Rat) := by
  have h1 := num_den x
  have h2 := num_den y
  rw [Rat.intCast_add, Rat.intCast_mul, Rat.intCast_mul, Rat.intCast_mul, Rat.intCast_mul, Rat.intCast_mul, Rat.intCast_mul, ← h, ← h1, ← h2]
  grind
theorem of_law_dotQ (hn : n ≤ 1000) (hv : SqV v (rowP n f)) (hw : SqV w (rowP n g)) (hS : ∀ k, k ≤ n → Bq Z (Smp.sm k fun t => f t * g t)) (hf : ∀ t, t < n → Bq a (f t)) (hg : ∀ t, t < n → Bq c (g t)) (hz : Z + a + c < 99999000)
    (k : Q (.val (rq (Smp.sm n fun t => f t * g t))) []) : Ret d_law_dot [.val v, .val w] Q := by
  have hln : (line : Nat) = 16777216 := rfl
  refine ret_mkR (by repeat constructor) ?_
  unfold b_law_dot
  walk_at "r"
  refine wp_forN (fun j ρ => ∃ m d : Int, 0 < d ∧ m.natAbs < 2 ^ (Z + 134) ∧ d.natAbs < 2 ^ (Z + 134) ∧ (Smp.sm j fun t => f t * g t) * (d : Rat) = (m : Rat) ∧ ρ = [some (.val v), some (.val w), some (.val (.int m)), some (.val (.int d)), none]) n ?_ ?_ ?_
  · walk_at "r"
    refine unq rfl (len_seq hv) ?_
    rw [rowP_len]
    exact ⟨rfl, by omega, 0, 1, by decide, Nat.two_pow_pos _, Nat.one_lt_two_pow (by omega), by show (0 : Rat) * _ = _; rw [Rat.zero_mul, Rat.intCast_zero], rfl⟩
  · rintro j _ hj ⟨m, d, hd, hm, hdb, hS1, rfl⟩
    have p1 := (hf j hj).bt
    have p2 := (hg j hj).bt
    have hxP : fIx (.pv v) (.pv (.int (j : Int))) = some (.val (rq (f j))) := sq_ix hv (rowP_at hj)
    have hxQ : fIx (.pv w) (.pv (.int (j : Int))) = some (.val (rq (g j))) := sq_ix hw (rowP_at hj)
    have hS2 := hS (j + 1) (by omega)
    have e := dot_num (x := f j) (y := g j) hS1
    have eS : (Smp.sm (j + 1) fun t => f t * g t) = (Smp.sm j fun t => f t * g t) + f j * g j := rfl
    rw [← eS] at e
    have m1 := lt_mul hm p1.2.2
    have m2 := lt_mul m1 p2.2.2
    have m3 := lt_mul p1.2.1 p2.2.1
    have m5 := lt_mul hdb p1.2.2
    unfold l1_law_dot
    walk_at "r"
    refine opq rfl rfl hxP ?_
    walk_at "r"
    refine opq rfl rfl (ev_mul (mulOk_of _ _ hm p1.2.2 (by omega))) ?_
    walk_at "r"
    refine opq rfl rfl hxQ ?_
    walk_at "r"
    refine opq rfl rfl (ev_mul (mulOk_of _ _ m1 p2.2.2 (by omega))) ?_
    walk_at "r"
    refine opq rfl rfl hxP ?_
    walk_at "r"
    refine opq rfl rfl hxQ ?_
    walk_at "r"
    refine opq rfl rfl (ev_mul (mulOk_of _ _ p1.2.1 p2.2.1 (by omega))) ?_
    walk_at "r"
    refine opq rfl rfl (ev_mul (mulOk_of _ _ m3 hdb (by omega))) ?_
    walk_at "r"
    refine opq rfl rfl hxP ?_
    walk_at "r"
    refine opq rfl rfl (ev_mul (mulOk_of _ _ hdb p1.2.2 (by omega))) ?_
    walk_at "r"
    refine opq rfl rfl hxQ ?_
    walk_at "r"
    refine opq rfl rfl (ev_mul (mulOk_of _ _ m5 p2.2.2 (by omega))) ?_
    have hd' : 0 < d * ((f j).den : Int) * ((g j).den : Int) := Int.mul_pos (Int.mul_pos hd p1.1) p2.1
    dsimp only
    generalize (Smp.sm (j + 1) fun t => f t * g t) = S at *
    generalize m * ((f j).den : Int) * ((g j).den : Int) + (f j).num * (g j).num * d = n' at *
    generalize d * ((f j).den : Int) * ((g j).den : Int) = d' at *
    clear m1 m2 m3 m5
    have hp : (2 : Nat) ^ Z ≤ 2 ^ (Z + 134) := Nat.pow_le_pow_right (by decide) (by omega)
    walk_at "ri"
    refine branchD (fun h => ?_) fun h => ?_
    · walk_at "r"
      refine of_ratio (by omega) ?_
      walk_at "r"
      rw [rat_pr (by omega) e]
      show PutQ _ (.val (.tuple [.int S.num, .int (S.den : Int)])) _ _
      walk_at "r"
      refine ⟨S.num, S.den, (low_num S).1, by have := hS2.1; omega, by have := hS2.2; rw [Int.natAbs_natCast]; omega, num_den S, rfl⟩
    · have e40 : (10 : Int) ^ Int.toNat 40 = ((10 ^ 40 : Nat) : Int) := by decide
      rw [e40] at h
      walk_at "r"
      refine ⟨n', d', hd', ?_, ?_, e, rfl⟩
      · have hdl : d'.natAbs ≤ 10 ^ 40 := by omega
        have hz1 : n' * (S.den : Int) = S.num * d' := by
          have e2 : ((n' * (S.den : Int) : Int) : Rat) = ((S.num * d' : Int) : Rat) := by
            rw [Rat.intCast_mul, Rat.intCast_mul, ← e, ← num_den S]; grind
          exact Rat.intCast_inj.mp e2
        have hz2 : n'.natAbs ≤ (n' * (S.den : Int)).natAbs := by
          rw [Int.natAbs_mul, Int.natAbs_natCast]
          exact Nat.le_mul_of_pos_right _ S.den_pos
        rw [hz1, Int.natAbs_mul] at hz2
        have hz3 : S.num.natAbs * d'.natAbs < 2 ^ Z * 2 ^ 134 := Nat.mul_lt_mul_of_lt_of_le hS2.1 (Nat.le_trans hdl (by decide)) (Nat.two_pow_pos _)
        rw [Nat.pow_add]
        omega
      · have hdl : d'.natAbs ≤ 10 ^ 40 := by omega
        have h3 : (10 : Nat) ^ 40 < 2 ^ 134 := by decide
        have h4 : (2 : Nat) ^ 134 ≤ 2 ^ (Z + 134) := Nat.pow_le_pow_right (by decide) (by omega)
        generalize (10 : Nat) ^ 40 = A at *
        generalize (2 : Nat) ^ 134 = B at *
        omega
  · rintro _ ⟨m, d, hd, hm, hdb, hS1, rfl⟩
    walk_at "r"
    refine of_ratio (by omega) ?_
    walk_at "r"
    rw [rat_rq (by omega) hS1]
    exact k
end
end Py
namespace Py
open PySem D
local macro_rules
  | `(tactic| walk_at "w") => `(tactic| with_reducible first
    | refine seq_nx ?_ | refine seq_rt ?_ | refine seq_bk ?_ | refine seq_ct ?_ | refine wp_seq ?_ | refine wp_asg ?_ | refine wp_next ?_ | refine wp_ret ?_ | refine wp_retN ?_ | refine wp_brk ?_ | refine wp_cont ?_ | refine wp_expr ?_ | refine wp_op ?_ | refine wp_un ?_ | refine wp_c ?_
    | refine unB ?_ | refine wp_truB ?_ | refine wp_and ?_ | refine wp_or ?_ | refine wp_not ?_ | refine wp_ifE ?_ | refine wp_tup ?_ | refine wp_lst ?_ | refine wp_lcons ?_ | refine wp_lnil ?_ | refine frzV ?_ | refine frzN ?_ | refine wp_frz ?_ | refine wp_sl ?_ | refine wp_onone ?_ | refine wp_osome ?_
    | refine wp_anil ?_ | refine wp_av ?_ | refine wp_andV ?_ | refine wp_orV ?_ | refine wp_notV ?_ | refine wp_fgtR ?_ | refine turn_nx ?_ | refine turn_rt ?_ | refine turn_bk ?_ | refine turn_ct ?_ | refine fgt_rt ?_ | refine wp_par ?_ | refine wp_chain ?_ | refine wp_seqI ?_)
local macro_rules
  | `(tactic| walk_at "put") => `(tactic| focus ((repeat apply PutR.s); first | exact PutR.z rfl | exact PutR.z (by assumption)))
local macro_rules
  | `(tactic| walk_at "set") => `(tactic| focus ((repeat apply SetR.s); first | exact SetR.o | exact SetR.r))
local macro_rules
  | `(tactic| walk_at "fgt") => `(tactic| focus (repeat first | exact FgtsR.nil | exact FgtR.k | exact FgtR.z rfl | exact FgtR.z (by assumption) | apply FgtR.s | apply FgtsR.cons))
local macro_rules
  | `(tactic| walk_at "x") => `(tactic| first
    | ((with_reducible apply wp_varV); (focus exact rfl)) | ((with_reducible apply wp_varO); (focus exact rfl)) | ((with_reducible apply wp_varR); (focus exact rfl))
    | ((with_reducible apply opq); (focus exact rfl); (focus exact rfl); (focus (first | exact ev_eqI | exact ev_neI | exact ev_ltI | exact ev_leI | exact ev_gtI | exact ev_geI | exact ev_in2 | exact ev_in2n | exact ev_in4n | exact ev_isT | exact ev_isF | exact ev_isnT | exact ev_isnF | exact ev_eqQ0 | exact ev_eqQ1 | exact ev_eqQ | exact ev_strT | exact ev_strF n1 | exact ev_strF n2 | exact ev_strF n3 | exact ev_strF n4 | exact ev_strF n5 | exact ev_strF n6 | exact rfl)))
    | ((with_reducible apply unq); (focus exact rfl); (focus exact rfl))
    | ((with_reducible first | apply putqV | apply putqN); walk_at "put")
    | ((with_reducible apply putqB); (focus exact rfl); (focus exact rfl); walk_at "put"; walk_at "put")
    | ((with_reducible apply putq2); walk_at "put"; walk_at "put")
    | ((with_reducible apply parq); walk_at "put"; walk_at "put")
    | ((with_reducible apply wp_callR); (focus (repeat first | exact RefsR.nil | apply RefsR.v | apply RefsR.r)); (focus decide))
    | ((with_reducible apply wp_ar); (focus exact rfl))
    | ((with_reducible apply fin_rt); (focus exact rfl); (focus exact rfl))
    | ((with_reducible apply fin_nx); (focus exact rfl))
    | ((with_reducible apply wp_appendR); (focus exact rfl))
    | (with_reducible refine ⟨_, rfl, ?_⟩) | (with_reducible refine ⟨_, .inl rfl, ?_⟩) | (with_reducible refine ⟨_, .inr (.inl rfl), ?_⟩) | (with_reducible refine ⟨_, .inr (.inr rfl), ?_⟩)
    | (with_reducible apply callq0) | ((with_reducible apply frzB); (focus exact rfl); (focus exact rfl); walk_at "put")
    | ((with_reducible apply callq1); walk_at "set")
    | ((with_reducible apply callq2); walk_at "set"; walk_at "set")
    | ((with_reducible first | apply fgt_nx | apply fgt_bk | apply fgt_ct); walk_at "fgt")
    | ((with_reducible apply brT); (focus exact rfl)) | ((with_reducible apply brF); (focus exact rfl)))
local macro_rules
  | `(tactic| walk_at "r") => `(tactic| repeat first | walk_at "w" | walk_at "x")
local macro_rules
  | `(tactic| walk_at "ri") => `(tactic| repeat first | walk_at "w" | walk_at "x" | (with_reducible refine wp_if ?_))
local macro_rules
  | `(tactic| walk_at "app") => `(tactic| ((with_reducible apply appq); (focus exact rfl); (focus ((try simp only [List.length_map, List.length_nil, List.length_cons, List.length_append]); unfold line; omega)); walk_at "set"))
local macro_rules
  | `(tactic| walk_at "mul") => `(tactic| ((refine opq rfl rfl (ev_mul ?_) ?_); (focus (apply mulT <;> omega))))
local macro_rules
  | `(tactic| walk_at "rm") => `(tactic| repeat first | walk_at "w" | walk_at "x" | walk_at "mul")
local macro_rules
  | `(tactic| walk_at "len") => `(tactic| (refine And.intro ?_ ?_; (focus (simp [line]; done))))
local macro_rules
  | `(tactic| walk_at "rl") => `(tactic| repeat first | walk_at "w" | walk_at "x" | walk_at "len")
local macro_rules
  | `(tactic| walk_at "ril") => `(tactic| repeat first | walk_at "w" | walk_at "x" | walk_at "len" | (with_reducible refine wp_if ?_))
/-! QUg: sure bets and fair chances told. -/
def Sure (n M : Nat) (G : Nat → Nat → Rat) : Prop := ∃ x : Nat → Rat, (∀ t, t < M → 0 ≤ x t) ∧ ∀ i, i < n → 0 < Smp.sm M fun t => x t * G t i
structure Fair (n M : Nat) (G : Nat → Nat → Rat) (c : Nat → Rat) : Prop where
  nn : ∀ i, i < n → 0 ≤ c i
  one : Smp.sm n c = 1
  worth : ∀ t, t < M → (Smp.sm n fun i => c i * G t i) ≤ 0
theorem sm_mulr {f : Nat → Rat} {n : Nat} {z : Rat} : Smp.sm n (fun k => f k * z) = Smp.sm n f * z := by
  rw [Rat.mul_comm, ← Smp.sm_mul]
  exact Smp.sm_congr fun k _ => Rat.mul_comm ..
/-- the worth of what stakes gain -/
theorem swap_worth {n M : Nat} {G : Nat → Nat → Rat} {x c : Nat → Rat} : (Smp.sm n fun i => c i * Smp.sm M fun t => x t * G t i) = Smp.sm M fun t => x t * Smp.sm n fun i => c i * G t i := by
  have e1 : (Smp.sm n fun i => c i * Smp.sm M fun t => x t * G t i) = Smp.sm n fun i => Smp.sm M fun t => c i * (x t * G t i) := Smp.sm_congr fun i _ => (Smp.sm_mul ..).symm
  have e2 : (Smp.sm M fun t => x t * Smp.sm n fun i => c i * G t i) = Smp.sm M fun t => Smp.sm n fun i => x t * (c i * G t i) := Smp.sm_congr fun t _ => (Smp.sm_mul ..).symm
  rw [e1, e2, Smp.sm_swap]
  exact Smp.sm_congr fun t _ => Smp.sm_congr fun i _ => by grind
theorem sm_pos_of {f : Nat → Rat} {n k : Nat} (h : ∀ j, j < n → 0 ≤ f j) (hk : k < n) (hp : 0 < f k) : 0 < Smp.sm n f := by
  have := sm_ge h hk
  grind
theorem sm_one_pos {c : Nat → Rat} {n : Nat} (h : 0 < Smp.sm n c) : ∃ k, k < n ∧ 0 < c k := Smp.sm_pos h
section
variable {n M : Nat} {G : Nat → Nat → Rat}
theorem sure_fair {c : Nat → Rat} (h : Sure n M G) (h2 : Fair n M G c) : False := by
  obtain ⟨x, x0, x1⟩ := h
  obtain ⟨c0, c1, c2⟩ := h2
  obtain ⟨k, hk, hp⟩ := sm_one_pos (c := c) (n := n) (by rw [c1]; decide)
  have h3 : 0 < Smp.sm n fun i => c i * Smp.sm M fun t => x t * G t i :=
    sm_pos_of (fun j hj => Rat.mul_nonneg (c0 j hj) (Rat.le_of_lt (x1 j hj))) hk (Rat.mul_pos hp (x1 k hk))
  rw [swap_worth] at h3
  obtain ⟨t, ht, h4⟩ := Smp.sm_pos h3
  have h5 := Rat.mul_nonneg (x0 t ht) (show 0 ≤ -(Smp.sm n fun i => c i * G t i) by have := c2 t ht; grind)
  grind
theorem SurestC.sure {g : Rat} {x y : Nat → Rat} (h : SurestC n M G g x y) (hg : 0 < g) : Sure n M G := ⟨x, fun t _ => h.x0 t, fun i hi => by have := h.gain i hi; grind⟩
theorem SurestC.fair {g : Rat} {x y : Nat → Rat} (h : SurestC n M G g x y) (hg : ¬ 0 < g) : Fair n M G fun k => y k / Smp.sm n y := by
  have hS := h.y1
  have hS0 : Smp.sm n y ≠ 0 := by grind
  have hi : 0 < (Smp.sm n y)⁻¹ := Rat.inv_pos.mpr (by grind)
  have eq : ∀ k, y k / Smp.sm n y = y k * (Smp.sm n y)⁻¹ := fun k => Rat.div_def ..
  refine ⟨fun i hi2 => ?_, ?_, fun t ht => ?_⟩
  · rw [eq]; exact Rat.mul_nonneg (h.y0 i hi2) (Rat.le_of_lt hi)
  · rw [Smp.sm_congr fun k _ => eq k, sm_mulr, Rat.mul_inv_cancel _ hS0]
  · have h1 := h.worth t ht
    have e : (Smp.sm n fun i => y i / Smp.sm n y * G t i) = (Smp.sm n fun i => y i * G t i) * (Smp.sm n y)⁻¹ := by
      rw [← sm_mulr]
      exact Smp.sm_congr fun k _ => by rw [eq]; grind
    rw [e]
    have h2 := Rat.mul_nonneg (show 0 ≤ -(Smp.sm n fun i => y i * G t i) by grind) (Rat.le_of_lt hi)
    grind
theorem SurestC.iff {g : Rat} {x y : Nat → Rat} (h : SurestC n M G g x y) : 0 < g ↔ Sure n M G := by
  refine ⟨h.sure, fun hs => ?_⟩
  by_cases c : 0 < g
  · exact c
  · exact (sure_fair hs (h.fair c)).elim
noncomputable def sureQ (n M : Nat) (G : Nat → Nat → Rat) : Bool := @decide (Sure n M G) (Classical.propDecidable _)
theorem sureQ_t (h : Sure n M G) : sureQ n M G = true := by unfold sureQ; exact @decide_eq_true _ (Classical.propDecidable _) h
theorem sureQ_f (h : ¬ Sure n M G) : sureQ n M G = false := by unfold sureQ; exact @decide_eq_false _ (Classical.propDecidable _) h
theorem sureQ_g {g : Rat} {x y : Nat → Rat} (h : SurestC n M G g x y) : decide (0 < g) = sureQ n M G := by
  by_cases c : 0 < g
  · rw [decide_eq_true c, sureQ_t (h.sure c)]
  · rw [decide_eq_false c, sureQ_f fun z => c (h.iff.mpr z)]
variable {Q : R → List Ob → Prop} {β Qn N : Nat}
theorem cd_parts {y : Nat → Rat} (hn : n ≤ 127) (h : Cd N n y) (hS : Smp.sm n y ≠ 0) : Cd (N + 7) n fun k => y k / Smp.sm n y := by
  obtain ⟨E, h1, h2, h3⟩ := h
  obtain ⟨z, z1, z2⟩ := itg_sum (k := n) h3
  have hp : (2 : Nat) ^ (N + 7) = 2 ^ N * 128 := by rw [Nat.pow_add]
  have h4 := Nat.mul_le_mul_right (2 ^ N) (show n ≤ 127 by omega)
  have h5 := Nat.two_pow_pos N
  have hE := ic_ne h1
  refine ⟨z, fun e => ?_, by omega, fun k hk => ?_⟩
  · rw [e, Rat.intCast_zero] at z2
    rcases Rat.mul_eq_zero.mp z2 with a | a
    · exact hS a
    · exact hE a
  · refine Smp.itg_congr ?_ (Smp.itg_mono (h3 k hk) (show N ≤ N + 7 by omega))
    rw [← z2]
    grind
theorem of_as_chances {y : Nat → Rat} (hn : n ≤ 100) (hy : Cd N n y) (hS : Smp.sm n y ≠ 0) (hN : N ≤ 40000000) (k : Q (.val (.tuple (rowP n fun k => y k / Smp.sm n y))) []) : Ret d_as_chances [.val (.list (rowP n y))] Q := by
  have hln : (line : Nat) = 16777216 := rfl
  refine ret_mkR (by repeat constructor) ?_
  unfold b_as_chances
  walk_at "r"
  refine of_totalQ (Z := N + 7) (a := N) (by omega) rfl (fun k hk => cd_sum hy (by omega) hk) (fun t ht => cd_bq hy ht) (by omega) ?_
  walk_at "r"
  refine wp_lcP (ρ1 := [some (.val (.list (rowP n y))), some (.val (rq (Smp.sm n y))), none]) n y (fun k => rq (y k / Smp.sm n y)) (by simp) (by omega) ?_ ?_ ?_
  · walk_at "r"
    exact ⟨.inl rfl, rfl⟩
  · intro j hj
    dsimp only [set_s, set_z]
    unfold e1_as_chances
    walk_at "r"
    refine of_dividedQ (cd_bq hy hj) (cd_sum hy (by omega) (Nat.le_refl n)) hS (by omega) ?_
    walk_at "r"
    exact ⟨rfl, rfl⟩
  rw [rowP_map]
  walk_at "r"
  exact k
/-- what is asked of a table -/
structure TabOk (n M β Qn : Nat) (G : Nat → Nat → Rat) : Prop where
  n1 : 1 ≤ n
  n2 : n ≤ 100
  m2 : M ≤ 100
  G : ∀ t, t < M → ∀ i, i < n → Bq β (G t i)
  b : β ≤ 1000000
  q : 1 + M ≤ Qn ∨ n + 1 ≤ Qn
  c : Smp.bq (β * M + 1) Qn + (β * M + 1) ≤ 16000000
abbrev NN (M β Qn : Nat) : Nat := Smp.bq (β * M + 1) Qn
theorem of_has_sure_bet (h : TabOk n M β Qn G) (k : Q (.val (.bool (sureQ n M G))) []) : Ret d_has_sure_bet [.val (tblP n M G)] Q := by
  refine ret_mkR (by repeat constructor) ?_
  unfold b_has_sure_bet
  walk_at "r"
  refine of_surest h.n1 h.n2 h.m2 h.G h.b h.q h.c fun g x y hc hd => ?_
  walk_at "r"
  refine of_lessQ (x := 0) bq_0 hd.g (by have := h.c; omega) ?_
  walk_at "r"
  rw [sureQ_g hc]
  exact k
theorem of_sure_bet (h : TabOk n M β Qn G) (k1 : Sure n M G → ∀ x, (∀ t, 0 ≤ x t) → (∀ i, i < n → 0 < Smp.sm M fun t => x t * G t i) → Cd (NN M β Qn) M x → Q (.val (.tuple (rowP M x))) []) (k2 : ¬ Sure n M G → Q (.val .none) []) : Ret d_sure_bet [.val (tblP n M G)] Q := by
  refine ret_mkR (by repeat constructor) ?_
  unfold b_sure_bet
  walk_at "r"
  refine of_surest h.n1 h.n2 h.m2 h.G h.b h.q h.c fun g x y hc hd => ?_
  walk_at "r"
  apply putq3U
  walk_at "put"
  walk_at "put"
  walk_at "put"
  walk_at "r"
  refine of_lessQ (x := 0) bq_0 hd.g (by have := h.c; omega) ?_
  walk_at "r"
  refine branchD (fun hg => ?_) fun hg => ?_
  · walk_at "r"
    exact k1 (hc.sure hg) x hc.x0 (fun i hi => by have := hc.gain i hi; grind) hd.x
  · walk_at "r"
    exact k2 fun z => hg (hc.iff.mpr z)
theorem of_fair_chances (h : TabOk n M β Qn G) (k1 : Sure n M G → Q (.val .none) []) (k2 : ¬ Sure n M G → ∀ c, Fair n M G c → Cd (NN M β Qn + 7) n c → Q (.val (.tuple (rowP n c))) []) : Ret d_fair_chances [.val (tblP n M G)] Q := by
  refine ret_mkR (by repeat constructor) ?_
  unfold b_fair_chances
  walk_at "r"
  refine of_surest h.n1 h.n2 h.m2 h.G h.b h.q h.c fun g x y hc hd => ?_
  walk_at "r"
  apply putq3U
  walk_at "put"
  walk_at "put"
  walk_at "put"
  walk_at "r"
  refine of_lessQ (x := 0) bq_0 hd.g (by have := h.c; omega) ?_
  walk_at "r"
  refine branchD (fun hg => ?_) fun hg => ?_
  · walk_at "r"
    exact k1 (hc.sure hg)
  · have hS : Smp.sm n y ≠ 0 := by have := hc.y1; grind
    walk_at "r"
    refine of_as_chances h.n2 hd.y hS (by have := h.c; omega) ?_
    walk_at "r"
    exact k2 (fun z => hg (hc.iff.mpr z)) _ (hc.fair hg) (cd_parts (by have := h.n2; omega) hd.y hS)
/-! the law's judges -/
theorem col_cd (hG : ∀ t, t < M → ∀ i, i < n → Bq β (G t i)) {i : Nat} (hi : i < n) : Cd (β * M + 1) M fun t => G t i := cd_row fun t ht => hG t ht i hi
theorem row_cd (hG : ∀ t, t < M → ∀ i, i < n → Bq β (G t i)) {t : Nat} (ht : t < M) : Cd (β * n + 1) n (G t) := cd_row fun i hi => hG t ht i hi
theorem of_law_gainedQ {x : Nat → Rat} (hn : n ≤ 100) (hM : M ≤ 100) (hG : ∀ t, t < M → ∀ i, i < n → Bq β (G t i)) (hx : Cd N M x) (hz : N + (β * M + 1) + 7 + N + β < 99999000) (k : Q (.val (.tuple (rowP n fun i => Smp.sm M fun t => x t * G t i))) []) :
    Ret d_law_gained [.val (.int (n : Int)), .val (.tuple (betsP M n G)), .val (.tuple (rowP M x))] Q := by
  have hln : (line : Nat) = 16777216 := rfl
  refine ret_mkR (by repeat constructor) ?_
  unfold b_law_gained
  walk_at "r"
  refine wp_lcN (ρ1 := [some (.val (.int (n : Int))), some (.val (.tuple (betsP M n G))), some (.val (.tuple (rowP M x))), none, none]) n (fun i => rq (Smp.sm M fun t => x t * G t i)) (by simp) (by omega) ?_ ?_ ?_
  · walk_at "r"
    exact ⟨rfl, rfl⟩
  · intro i hi
    dsimp only [set_s, set_z]
    unfold e2_law_gained natI
    walk_at "r"
    refine wp_lcS (ρ1 := [some (.val (.int (n : Int))), some (.val (.tuple (betsP M n G))), some (.val (.tuple (rowP M x))), some (.val (.int (i : Int))), none]) (betsP M n G) (fun t => rq (G t i)) (by simp) (by rw [betsP_len]; omega) ?_ ?_ ?_
    · walk_at "r"
      exact ⟨.inr (.inl rfl), rfl⟩
    · intro t ht
      rw [betsP_len] at ht
      have e : (betsP M n G)[t] = .tuple (rowP n (G t)) := by simp [betsP]
      rw [e]
      dsimp only [set_s, set_z]
      unfold e1_law_gained
      walk_at "r"
      refine opq rfl rfl (ev_ix (.inl rfl) (atI_nat (rowP_at hi))) ?_
      walk_at "r"
      exact ⟨rfl, rfl⟩
    rw [betsP_len, rowP_map]
    walk_at "r"
    refine of_law_dotQ (f := x) (g := fun t => G t i) (by omega) (.inr rfl) (.inl rfl) (fun j hj => cd_dot hx (col_cd hG hi) (by omega) hj) (fun t ht => cd_bq hx ht) (fun t ht => hG t ht i hi) hz ?_
    walk_at "r"
    exact ⟨rfl, rfl⟩
  rw [rowP_map]
  walk_at "r"
  exact k
theorem num_pos {x : Rat} : 0 < x.num ↔ 0 < x := by
  constructor
  · intro h
    have h1 := num_nn.mp (Int.le_of_lt h)
    by_cases c : 0 < x
    · exact c
    · have e : x = 0 := by grind
      rw [e] at h; exact absurd h (by decide)
  · intro h
    have h1 := num_nn.mpr (Rat.le_of_lt h)
    rcases Int.lt_or_eq_of_le h1 with c | c
    · exact c
    · have := Rat.num_eq_zero.mp c.symm
      rw [this] at h
      exact absurd h (by decide)
theorem of_law_is_sureQ {x : Nat → Rat} (hn : n ≤ 100) (hM : M ≤ 100) (hG : ∀ t, t < M → ∀ i, i < n → Bq β (G t i)) (hx : Cd N M x) (hz : N + (β * M + 1) + 7 + N + β < 99999000) (x0 : ∀ t, t < M → 0 ≤ x t) (x1 : ∀ i, i < n → 0 < Smp.sm M fun t => x t * G t i)
    (k : Q (.val (.bool true)) []) : Ret d_law_is_sure [.val (.int (n : Int)), .val (.tuple (betsP M n G)), .val (.tuple (rowP M x))] Q := by
  have hln : (line : Nat) = 16777216 := rfl
  refine ret_mkR (by repeat constructor) ?_
  unfold b_law_is_sure
  walk_at "ri"
  rw [betsP_len, ← tup_rowN]
  refine of_is_stakes (m := M) (by rw [rowN_len]; omega) ?_
  rw [stakesB_rowN x0]
  walk_at "ri"
  rw [tup_rowN]
  refine wp_forL (fun j ρ => ρ = [some (.val (.int (n : Int))), some (.val (.tuple (betsP M n G))), some (.val (.tuple (rowP M x))), none]) (rowP n fun i => Smp.sm M fun t => x t * G t i) ?_ ?_ ?_
  · walk_at "r"
    refine of_law_gainedQ hn hM hG hx hz ?_
    walk_at "r"
    exact ⟨.inr (.inl rfl), rfl⟩
  · rintro i hi _ rfl
    rw [rowP_len] at hi
    have e : (rowP n fun i => Smp.sm M fun t => x t * G t i)[i]'(by rw [rowP_len]; exact hi) = rq (Smp.sm M fun t => x t * G t i) := by simp [rowP]
    rw [e]
    unfold l1_law_is_sure
    have hp := num_pos.mpr (x1 i hi)
    walk_at "ri"
    refine brF (decide_eq_false (by omega)) ?_
    walk_at "ri"
    rfl
  · rintro _ rfl
    walk_at "r"
    exact k
theorem of_law_is_chancesQ {c : Nat → Rat} (hn : n ≤ 100) (hc : Cd N n c) (hz : 2 * N < 99998000) (c0 : ∀ i, i < n → 0 ≤ c i) (c1 : Smp.sm n c = 1) (k : Q (.val (.bool true)) []) : Ret d_law_is_chances [.val (.int (n : Int)), .val (.tuple (rowP n c))] Q := by
  have hln : (line : Nat) = 16777216 := rfl
  have hs := stakesB_rowN c0
  unfold stakesB at hs
  rw [Bool.and_eq_true] at hs
  refine ret_mkR (by repeat constructor) ?_
  unfold b_law_is_chances
  walk_at "ri"
  rw [← tup_rowN]
  refine of_is_row (m := n) (by rw [rowN_len]; omega) ?_
  rw [hs.1]
  walk_at "ri"
  refine of_none_below (by rw [rowN_len]; omega) ?_
  rw [hs.2]
  walk_at "ri"
  rw [tup_rowN]
  walk_at "rl"
  refine opq rfl rfl (ev_rep1 (by omega)) ?_
  walk_at "rl"
  have e1 : ∀ k, (Smp.sm k fun t => c t * 1) = Smp.sm k c := fun k => Smp.sm_congr fun t _ => Rat.mul_one _
  refine of_law_dotQ (Z := N + 7) (a := N) (c := 1) (f := c) (g := fun _ => 1) (by omega) (.inr rfl) (.inl rfl) (fun j hj => by rw [e1]; exact cd_sum hc (by omega) hj) (fun t ht => cd_bq hc ht) (fun t ht => bq_1) (by omega) ?_
  walk_at "rl"
  rw [e1, c1, decide_eq_true rfl]
  exact k
theorem of_law_is_fairQ {c : Nat → Rat} (hn : n ≤ 100) (hM : M ≤ 100) (hG : ∀ t, t < M → ∀ i, i < n → Bq β (G t i)) (hc : Cd N n c) (hz : N + (β * n + 1) + 7 + N + β < 99998000) (h : Fair n M G c) (k : Q (.val (.bool true)) []) : Ret d_law_is_fair [.val (.int (n : Int)), .val (.tuple (betsP M n G)), .val (.tuple (rowP n c))] Q := by
  have hln : (line : Nat) = 16777216 := rfl
  refine ret_mkR (by repeat constructor) ?_
  unfold b_law_is_fair
  walk_at "ri"
  refine of_law_is_chancesQ hn hc (by omega) h.nn h.one ?_
  walk_at "ri"
  refine wp_forL (fun j ρ => ρ = [some (.val (.int (n : Int))), some (.val (.tuple (betsP M n G))), some (.val (.tuple (rowP n c))), none]) (betsP M n G) ?_ ?_ ?_
  · walk_at "r"
    exact ⟨.inr (.inl rfl), rfl⟩
  · rintro t ht _ rfl
    rw [betsP_len] at ht
    have e : (betsP M n G)[t]'(by rw [betsP_len]; exact ht) = .tuple (rowP n (G t)) := by simp [betsP]
    rw [e]
    unfold l1_law_is_fair
    walk_at "ri"
    refine of_law_dotQ (f := c) (g := G t) (by omega) (.inr rfl) (.inr rfl) (fun j hj => cd_dot hc (row_cd hG ht) (by omega) hj) (fun i hi => cd_bq hc hi) (fun i hi => hG t ht i hi) (by omega) ?_
    walk_at "ri"
    have hw := h.worth t ht
    refine brF (decide_eq_false fun z => ?_) ?_
    · have := num_pos.mp (show 0 < (Smp.sm n fun i => c i * G t i).num by omega)
      grind
    walk_at "ri"
    rfl
  · rintro _ rfl
    walk_at "r"
    exact k
/-- each side is shown -/
theorem of_law_side (h : TabOk n M β Qn G) (hz1 : NN M β Qn + (β * M + 1) + 7 + NN M β Qn + β < 99999000) (hz2 : NN M β Qn + 7 + (β * n + 1) + 7 + (NN M β Qn + 7) + β < 99998000) (k : Q (.val (.bool (sureQ n M G))) []) : Ret d_law_side [.val (tblP n M G)] Q := by
  refine ret_mkR (by repeat constructor) ?_
  unfold b_law_side
  walk_at "ri"
  refine of_has_sure_bet h ?_
  walk_at "ri"
  by_cases hs : Sure n M G
  · rw [sureQ_t hs] at k
    rw [sureQ_t hs]
    refine of_sure_bet h (fun _ x x0 x1 hx => ?_) fun z => absurd hs z
    walk_at "ri"
    refine of_fair_chances h (fun _ => ?_) fun z => absurd hs z
    walk_at "ri"
    refine of_law_is_sureQ h.n2 h.m2 h.G hx hz1 (fun t _ => x0 t) x1 ?_
    walk_at "ri"
    exact k
  · rw [sureQ_f hs] at k
    rw [sureQ_f hs]
    refine of_sure_bet h (fun z => absurd z hs) fun _ => ?_
    walk_at "ri"
    refine of_fair_chances h (fun z => absurd z hs) fun _ c hc hd => ?_
    walk_at "ri"
    refine of_law_is_fairQ h.n2 h.m2 h.G hd hz2 hc ?_
    walk_at "ri"
    exact k
end
end Py
namespace Py
open PySem D
local macro_rules
  | `(tactic| walk_at "w") => `(tactic| with_reducible first
    | refine seq_nx ?_ | refine seq_rt ?_ | refine seq_bk ?_ | refine seq_ct ?_ | refine wp_seq ?_ | refine wp_asg ?_ | refine wp_next ?_ | refine wp_ret ?_ | refine wp_retN ?_ | refine wp_brk ?_ | refine wp_cont ?_ | refine wp_expr ?_ | refine wp_op ?_ | refine wp_un ?_ | refine wp_c ?_
    | refine unB ?_ | refine wp_truB ?_ | refine wp_and ?_ | refine wp_or ?_ | refine wp_not ?_ | refine wp_ifE ?_ | refine wp_tup ?_ | refine wp_lst ?_ | refine wp_lcons ?_ | refine wp_lnil ?_ | refine frzV ?_ | refine frzN ?_ | refine wp_frz ?_ | refine wp_sl ?_ | refine wp_onone ?_ | refine wp_osome ?_
    | refine wp_anil ?_ | refine wp_av ?_ | refine wp_andV ?_ | refine wp_orV ?_ | refine wp_notV ?_ | refine wp_fgtR ?_ | refine turn_nx ?_ | refine turn_rt ?_ | refine turn_bk ?_ | refine turn_ct ?_ | refine fgt_rt ?_ | refine wp_par ?_ | refine wp_chain ?_ | refine wp_seqI ?_)
local macro_rules
  | `(tactic| walk_at "put") => `(tactic| focus ((repeat apply PutR.s); first | exact PutR.z rfl | exact PutR.z (by assumption)))
local macro_rules
  | `(tactic| walk_at "set") => `(tactic| focus ((repeat apply SetR.s); first | exact SetR.o | exact SetR.r))
local macro_rules
  | `(tactic| walk_at "fgt") => `(tactic| focus (repeat first | exact FgtsR.nil | exact FgtR.k | exact FgtR.z rfl | exact FgtR.z (by assumption) | apply FgtR.s | apply FgtsR.cons))
local macro_rules
  | `(tactic| walk_at "x") => `(tactic| first
    | ((with_reducible apply wp_varV); (focus exact rfl)) | ((with_reducible apply wp_varO); (focus exact rfl)) | ((with_reducible apply wp_varR); (focus exact rfl))
    | ((with_reducible apply opq); (focus exact rfl); (focus exact rfl); (focus (first | exact ev_eqI | exact ev_neI | exact ev_ltI | exact ev_leI | exact ev_gtI | exact ev_geI | exact ev_in2 | exact ev_in2n | exact ev_in4n | exact ev_isT | exact ev_isF | exact ev_isnT | exact ev_isnF | exact ev_eqQ0 | exact ev_eqQ1 | exact ev_eqQ | exact ev_strT | exact ev_strF n1 | exact ev_strF n2 | exact ev_strF n3 | exact ev_strF n4 | exact ev_strF n5 | exact ev_strF n6 | exact rfl)))
    | ((with_reducible apply unq); (focus exact rfl); (focus exact rfl))
    | ((with_reducible first | apply putqV | apply putqN); walk_at "put")
    | ((with_reducible apply putqB); (focus exact rfl); (focus exact rfl); walk_at "put"; walk_at "put")
    | ((with_reducible apply putq2); walk_at "put"; walk_at "put")
    | ((with_reducible apply parq); walk_at "put"; walk_at "put")
    | ((with_reducible apply wp_callR); (focus (repeat first | exact RefsR.nil | apply RefsR.v | apply RefsR.r)); (focus decide))
    | ((with_reducible apply wp_ar); (focus exact rfl))
    | ((with_reducible apply fin_rt); (focus exact rfl); (focus exact rfl))
    | ((with_reducible apply fin_nx); (focus exact rfl))
    | ((with_reducible apply wp_appendR); (focus exact rfl))
    | (with_reducible refine ⟨_, rfl, ?_⟩) | (with_reducible refine ⟨_, .inl rfl, ?_⟩) | (with_reducible refine ⟨_, .inr (.inl rfl), ?_⟩) | (with_reducible refine ⟨_, .inr (.inr rfl), ?_⟩)
    | (with_reducible apply callq0) | ((with_reducible apply frzB); (focus exact rfl); (focus exact rfl); walk_at "put")
    | ((with_reducible apply callq1); walk_at "set")
    | ((with_reducible apply callq2); walk_at "set"; walk_at "set")
    | ((with_reducible first | apply fgt_nx | apply fgt_bk | apply fgt_ct); walk_at "fgt")
    | ((with_reducible apply brT); (focus exact rfl)) | ((with_reducible apply brF); (focus exact rfl)))
local macro_rules
  | `(tactic| walk_at "r") => `(tactic| repeat first | walk_at "w" | walk_at "x")
local macro_rules
  | `(tactic| walk_at "ri") => `(tactic| repeat first | walk_at "w" | walk_at "x" | (with_reducible refine wp_if ?_))
local macro_rules
  | `(tactic| walk_at "app") => `(tactic| ((with_reducible apply appq); (focus exact rfl); (focus ((try simp only [List.length_map, List.length_nil, List.length_cons, List.length_append]); unfold line; omega)); walk_at "set"))
local macro_rules
  | `(tactic| walk_at "mul") => `(tactic| ((refine opq rfl rfl (ev_mul ?_) ?_); (focus (apply mulT <;> omega))))
local macro_rules
  | `(tactic| walk_at "rm") => `(tactic| repeat first | walk_at "w" | walk_at "x" | walk_at "mul")
local macro_rules
  | `(tactic| walk_at "len") => `(tactic| (refine And.intro ?_ ?_; (focus (simp [line]; done))))
local macro_rules
  | `(tactic| walk_at "rl") => `(tactic| repeat first | walk_at "w" | walk_at "x" | walk_at "len")
local macro_rules
  | `(tactic| walk_at "ril") => `(tactic| repeat first | walk_at "w" | walk_at "x" | walk_at "len" | (with_reducible refine wp_if ?_))
/-! QUh: drawn tables in Rat; small tables. -/
theorem rqI {z : Int} : PyData.tuple [.int z, .int 1] = rq (z : Rat) := by
  have : Low (z, 1) := ⟨Int.one_pos, by simp⟩
  exact fr_rq' this qv_int
theorem rqF {n d : Int} (h : Low (n, d)) : PyData.tuple [.int n, .int d] = rq ((n : Rat) / d) := fr_rq' h rfl
theorem map_rq (ps : List Rat) : ps.map rq = rowP ps.length fun j => ps.getD j 0 := by
  unfold rowP
  refine List.ext_getElem (by simp) fun i h1 h2 => ?_
  rw [List.length_map] at h1
  simp [h1]
theorem ev_mulTQ {x : Rat} {k : Nat} (h : k ≤ 1000) : fMul (.pv (.tuple [rq x])) (.pv (.int (k : Int))) = some (.val (.tuple (rowP k fun _ => x))) := by
  have e : fMul (.pv (.tuple [rq x])) (.pv (.int (k : Int))) = if -(2 ^ 62) < (k : Int) ∧ (k : Int) ≤ 1000 ∧ [rq x].length ≤ 1000 then some (.val (.tuple (List.replicate (k : Int).toNat [rq x]).flatten)) else none := rfl
  rw [e, if_pos ⟨by omega, by omega, by simp⟩, Int.toNat_natCast, rowP_const]
theorem ev_addTP {m n : Nat} {f g : Nat → Rat} (h : m + n ≤ 1000000) : fAdd (.pv (.tuple (rowP m f))) (.pv (.tuple (rowP n g))) = some (.val (.tuple (rowP (m + n) fun j => if j < m then f j else g (j - m)))) := by
  have hln : (line : Nat) = 16777216 := rfl
  rw [ev_addT (by rw [rowP_len, rowP_len]; omega), rowP_app]
theorem Bq.lit {m : Nat} {x : Rat} (n d : Int) (hd : d ≠ 0) (e : x * (d : Rat) = (n : Rat)) (h1 : n.natAbs < 2 ^ m) (h2 : d.natAbs < 2 ^ m) : Bq m x := bq_of hd e h1 h2
theorem bq_int {m : Nat} {z : Int} (hm : 1 ≤ m) (h : z.natAbs < 2 ^ m) : Bq m (z : Rat) := bq_of (n := z) (d := 1) (by decide) (by rw [Rat.intCast_one, Rat.mul_one]) h (Nat.one_lt_two_pow (by omega))
section
variable {n M : Nat} {G : Nat → Nat → Rat}
theorem fair_unit {k : Nat} (hk : k < n) (h : ∀ t, t < M → G t k ≤ 0) : Fair n M G fun i => if i = k then 1 else 0 := by
  refine ⟨fun i _ => ?_, ?_, fun t ht => ?_⟩
  · split <;> decide
  · rw [Smp.sm_one hk fun j _ hj => if_neg hj, if_pos rfl]
  · rw [Smp.sm_one hk fun j _ hj => by rw [if_neg hj, Rat.zero_mul]]
    rw [if_pos rfl, Rat.one_mul]
    exact h t ht
theorem not_sure {c : Nat → Rat} (h : Fair n M G c) : ¬ Sure n M G := fun z => sure_fair z h
variable {ns ds : List Int} {Q : R → List Ob → Prop}
theorem of_drawnQ (k : ∀ (x : Rat) ds', Bq 350 x → Q (.val (rq x)) [intsO ds']) : Ret d_law_drawn [.val (.list (ns.map PyData.int)), .ref (intsO ds)] Q := by
  refine ret_mkR (by repeat constructor) ?_
  unfold b_law_drawn
  walk_at "r"
  refine of_take (by decide) fun kd ds hk1 hk2 => ?_
  walk_at "r"
  refine of_take (by decide) fun x ds hx1 hx2 => ?_
  walk_at "r"
  refine of_take (by decide) fun y ds hy1 hy2 => ?_
  walk_at "r"
  refine wp_mid (fun ρ => ∃ d : Int, 1 ≤ d ∧ d ≤ 10 ^ 30 ∧ ρ = [some (.val (.list (ns.map PyData.int))), some (.ref (intsO ds)), some (.val (.int kd)), some (.val (.int (x - 6))), some (.val (.int d))]) ?_ ?_
  · refine wp_if ?_
    walk_at "r"
    refine branchD (fun h => ?_) fun h => ?_
    · walk_at "r"
      exact ⟨rfl, 1, by decide, by decide, rfl⟩
    · walk_at "r"
      exact ⟨rfl, 1 + y, by omega, by omega, rfl⟩
  rintro _ ⟨d, hd1, hd2, rfl⟩
  walk_at "r"
  refine wp_mid (fun ρ => ∃ (n : Int) (ds : List Int), n.natAbs ≤ 10 ^ 40 ∧ ρ = [some (.val (.list (ns.map PyData.int))), some (.ref (intsO ds)), some (.val (.int kd)), some (.val (.int n)), some (.val (.int d))]) ?_ ?_
  · refine wp_if ?_
    walk_at "r"
    refine branchD (fun h => ?_) fun h => ?_
    · walk_at "r"
      refine of_huge fun z ds hz1 hz2 => ?_
      walk_at "r"
      refine opq rfl rfl (ev_mul (mulOkN (by omega) (by omega))) ?_
      walk_at "r"
      refine ⟨rfl, _, _, ?_, rfl⟩
      have := mulN (a := x - 6) (b := z) (A := 6) (B := 10 ^ 30) (by omega) (by omega)
      have e : ((x - 6) * z).fdiv 7 = ((x - 6) * z) / 7 := fdiv_nat (b := 7)
      rw [e]
      omega
    · walk_at "r"
      exact ⟨rfl, x - 6, ds, by omega, rfl⟩
  rintro _ ⟨n, ds, hn, rfl⟩
  walk_at "r"
  refine wp_mid (fun ρ => ∃ (d : Int) (ds : List Int), 1 ≤ d ∧ d ≤ 10 ^ 30 ∧ ρ = [some (.val (.list (ns.map PyData.int))), some (.ref (intsO ds)), some (.val (.int kd)), some (.val (.int n)), some (.val (.int d))]) ?_ ?_
  · have go : Wp (sAsg (mOp fAdd (mC (.int 1)) (mOp fDiv (mCall d_law_huge [.v (mVar 0), .r 1]) (mC (.int 2)))) (gName 4)) [some (.val (.list (ns.map PyData.int))), some (.ref (intsO ds)), some (.val (.int kd)), some (.val (.int n)), some (.val (.int d))] (fun f ρ => f = Fl.nx ∧ ∃ (d : Int) (ds : List Int), 1 ≤ d ∧ d ≤ 10 ^ 30 ∧ ρ = [some (.val (.list (ns.map PyData.int))), some (.ref (intsO ds)), some (.val (.int kd)), some (.val (.int n)), some (.val (.int d))]) := by
      walk_at "r"
      refine of_huge fun z ds hz1 hz2 => ?_
      walk_at "r"
      have e : z.fdiv 2 = z / 2 := fdiv_nat (b := 2)
      exact ⟨rfl, 1 + z.fdiv 2, ds, by omega, by omega, rfl⟩
    refine wp_if ?_
    walk_at "r"
    refine branchD (fun h => ?_) fun h => ?_
    · refine brT rfl go
    · walk_at "r"
      refine branchD (fun h => go) fun h => ?_
      walk_at "r"
      exact ⟨rfl, d, ds, hd1, hd2, rfl⟩
  rintro _ ⟨d, ds, hd1, hd2, rfl⟩
  walk_at "r"
  refine of_ratio (by omega) ?_
  walk_at "r"
  have hd0 : d ≠ 0 := by omega
  have e2 : fr (rat n d) = rq (qv (rat n d)) := fr_rq (low_rat hd0)
  rw [e2]
  refine k _ _ (bq_qv (low_rat hd0) (bt_gd (low_rat hd0).1 (gd_rat hd0 (by omega) (by omega))))
theorem of_drawn_tableQ (hn : n ≤ 100) (hm : M ≤ 100) (k : ∀ G ds', (∀ t, t < M → ∀ i, i < n → Bq 350 (G t i)) → Q (.val (.tuple (betsP M n G))) [intsO ds']) :
    Ret d_law_drawn_table [.val (.list (ns.map PyData.int)), .ref (intsO ds), .val (.int (n : Int)), .val (.int (M : Int))] Q := by
  have hln : (line : Nat) = 16777216 := rfl
  refine ret_mkR (by repeat constructor) ?_
  unfold b_law_drawn_table
  walk_at "r"
  refine wp_lc natI (fun done acc ρ => ∃ (bs : List (Nat → Rat)) (ds : List Int) (u u2 : Option Sl), acc = bs.map (fun f => .tuple (rowP n f)) ∧ bs.length = done.length ∧ (∀ b ∈ bs, ∀ i, i < n → Bq 350 (b i)) ∧ ρ = [some (.val (.list (ns.map PyData.int))), some (.ref (intsO ds)), some (.val (.int n)), some (.val (.int M)), u, u2]) ?_
  refine wp_rng1 ?_
  walk_at "r"
  refine ⟨⟨by unfold line; omega, by omega⟩, List.range M, rfl, by simp [line]; omega, ⟨[], ds, _, _, rfl, rfl, by simp, rfl⟩, ?_, ?_⟩
  · rintro done y rest acc _ e ⟨bs, ds, u, u2, rfl, q1, q2, rfl⟩
    refine lcqY rfl ?_
    dsimp only [wipe, set_s, set_z, natI]
    unfold e2_law_drawn_table
    walk_at "r"
    refine wp_lc natI (fun done acc ρ => ∃ (ps : List Rat) (ds : List Int) (u : Option Sl), acc = ps.map rq ∧ ps.length = done.length ∧ (∀ p ∈ ps, Bq 350 p) ∧ ρ = [some (.val (.list (ns.map PyData.int))), some (.ref (intsO ds)), some (.val (.int n)), some (.val (.int M)), some (.val (.int y)), u]) ?_
    refine wp_rng1 ?_
    walk_at "r"
    refine ⟨⟨by unfold line; omega, by omega⟩, List.range n, rfl, by simp [line]; omega, ⟨[], ds, _, rfl, rfl, by simp, rfl⟩, ?_, ?_⟩
    · rintro done2 y2 rest2 acc2 _ e2 ⟨ps, ds, u3, rfl, r1, r2, rfl⟩
      refine lcqY rfl ?_
      dsimp only [wipe, set_s, set_z, natI]
      unfold e1_law_drawn_table
      walk_at "r"
      refine of_drawnQ fun p ds hp => ?_
      walk_at "r"
      refine ⟨ps ++ [p], ds, _, by simp, by simp [r1], ?_, rfl⟩
      intro q hq
      rcases List.mem_append.mp hq with hq | hq
      · exact r2 q hq
      · rw [List.mem_singleton.mp hq]; exact hp
    rintro _ _ ⟨ps, ds, u3, rfl, r1, r2, rfl⟩
    rw [List.length_range] at r1
    dsimp only [back, set_s, set_z, get_s, get_z]
    walk_at "r"
    rw [map_rq, r1]
    refine ⟨bs ++ [fun j => ps.getD j 0], ds, _, _, by simp, by simp [q1], ?_, rfl⟩
    intro q hq
    rcases List.mem_append.mp hq with hq | hq
    · exact q2 q hq
    · rw [List.mem_singleton.mp hq]
      intro i hi
      dsimp only
      rw [show ps.getD i 0 = ps[i]'(by omega) by simp [show i < ps.length by omega]]
      exact r2 _ (List.getElem_mem _)
  rintro _ _ ⟨bs, ds, u, u2, rfl, q1, q2, rfl⟩
  rw [List.length_range] at q1
  dsimp only [back, set_s, set_z, get_s, get_z]
  walk_at "r"
  have e : bs.map (fun f => PyData.tuple (rowP n f)) = betsP M n fun t => bs.getD t fun _ => 0 := by
    unfold betsP
    refine List.ext_getElem (by simp [q1]) fun i h1 h2 => ?_
    rw [List.length_map] at h1
    simp [h1]
  rw [e]
  refine k _ ds fun t ht i hi => ?_
  rw [show bs.getD t (fun _ => 0) = bs[t]'(by omega) by simp [show t < bs.length by omega]]
  exact q2 _ (List.getElem_mem _) i hi
end
end Py
namespace Py
open PySem D
local macro_rules
  | `(tactic| walk_at "w") => `(tactic| with_reducible first
    | refine seq_nx ?_ | refine seq_rt ?_ | refine seq_bk ?_ | refine seq_ct ?_ | refine wp_seq ?_ | refine wp_asg ?_ | refine wp_next ?_ | refine wp_ret ?_ | refine wp_retN ?_ | refine wp_brk ?_ | refine wp_cont ?_ | refine wp_expr ?_ | refine wp_op ?_ | refine wp_un ?_ | refine wp_c ?_
    | refine unB ?_ | refine wp_truB ?_ | refine wp_and ?_ | refine wp_or ?_ | refine wp_not ?_ | refine wp_ifE ?_ | refine wp_tup ?_ | refine wp_lst ?_ | refine wp_lcons ?_ | refine wp_lnil ?_ | refine frzV ?_ | refine frzN ?_ | refine wp_frz ?_ | refine wp_sl ?_ | refine wp_onone ?_ | refine wp_osome ?_
    | refine wp_anil ?_ | refine wp_av ?_ | refine wp_andV ?_ | refine wp_orV ?_ | refine wp_notV ?_ | refine wp_fgtR ?_ | refine turn_nx ?_ | refine turn_rt ?_ | refine turn_bk ?_ | refine turn_ct ?_ | refine fgt_rt ?_ | refine wp_par ?_ | refine wp_chain ?_ | refine wp_seqI ?_)
local macro_rules
  | `(tactic| walk_at "put") => `(tactic| focus ((repeat apply PutR.s); first | exact PutR.z rfl | exact PutR.z (by assumption)))
local macro_rules
  | `(tactic| walk_at "set") => `(tactic| focus ((repeat apply SetR.s); first | exact SetR.o | exact SetR.r))
local macro_rules
  | `(tactic| walk_at "fgt") => `(tactic| focus (repeat first | exact FgtsR.nil | exact FgtR.k | exact FgtR.z rfl | exact FgtR.z (by assumption) | apply FgtR.s | apply FgtsR.cons))
local macro_rules
  | `(tactic| walk_at "x") => `(tactic| first
    | ((with_reducible apply wp_varV); (focus exact rfl)) | ((with_reducible apply wp_varO); (focus exact rfl)) | ((with_reducible apply wp_varR); (focus exact rfl))
    | ((with_reducible apply opq); (focus exact rfl); (focus exact rfl); (focus (first | exact ev_eqI | exact ev_neI | exact ev_ltI | exact ev_leI | exact ev_gtI | exact ev_geI | exact ev_in2 | exact ev_in2n | exact ev_in4n | exact ev_isT | exact ev_isF | exact ev_isnT | exact ev_isnF | exact ev_eqQ0 | exact ev_eqQ1 | exact ev_eqQ | exact ev_strT | exact ev_strF n1 | exact ev_strF n2 | exact ev_strF n3 | exact ev_strF n4 | exact ev_strF n5 | exact ev_strF n6 | exact rfl)))
    | ((with_reducible apply unq); (focus exact rfl); (focus exact rfl))
    | ((with_reducible first | apply putqV | apply putqN); walk_at "put")
    | ((with_reducible apply putqB); (focus exact rfl); (focus exact rfl); walk_at "put"; walk_at "put")
    | ((with_reducible apply putq2); walk_at "put"; walk_at "put")
    | ((with_reducible apply parq); walk_at "put"; walk_at "put")
    | ((with_reducible apply wp_callR); (focus (repeat first | exact RefsR.nil | apply RefsR.v | apply RefsR.r)); (focus decide))
    | ((with_reducible apply wp_ar); (focus exact rfl))
    | ((with_reducible apply fin_rt); (focus exact rfl); (focus exact rfl))
    | ((with_reducible apply fin_nx); (focus exact rfl))
    | ((with_reducible apply wp_appendR); (focus exact rfl))
    | (with_reducible refine ⟨_, rfl, ?_⟩) | (with_reducible refine ⟨_, .inl rfl, ?_⟩) | (with_reducible refine ⟨_, .inr (.inl rfl), ?_⟩) | (with_reducible refine ⟨_, .inr (.inr rfl), ?_⟩)
    | (with_reducible apply callq0) | ((with_reducible apply frzB); (focus exact rfl); (focus exact rfl); walk_at "put")
    | ((with_reducible apply callq1); walk_at "set")
    | ((with_reducible apply callq2); walk_at "set"; walk_at "set")
    | ((with_reducible first | apply fgt_nx | apply fgt_bk | apply fgt_ct); walk_at "fgt")
    | ((with_reducible apply brT); (focus exact rfl)) | ((with_reducible apply brF); (focus exact rfl)))
local macro_rules
  | `(tactic| walk_at "r") => `(tactic| repeat first | walk_at "w" | walk_at "x")
local macro_rules
  | `(tactic| walk_at "ri") => `(tactic| repeat first | walk_at "w" | walk_at "x" | (with_reducible refine wp_if ?_))
local macro_rules
  | `(tactic| walk_at "app") => `(tactic| ((with_reducible apply appq); (focus exact rfl); (focus ((try simp only [List.length_map, List.length_nil, List.length_cons, List.length_append]); unfold line; omega)); walk_at "set"))
local macro_rules
  | `(tactic| walk_at "mul") => `(tactic| ((refine opq rfl rfl (ev_mul ?_) ?_); (focus (apply mulT <;> omega))))
local macro_rules
  | `(tactic| walk_at "rm") => `(tactic| repeat first | walk_at "w" | walk_at "x" | walk_at "mul")
local macro_rules
  | `(tactic| walk_at "len") => `(tactic| (refine And.intro ?_ ?_; (focus (simp [line]; done))))
local macro_rules
  | `(tactic| walk_at "rl") => `(tactic| repeat first | walk_at "w" | walk_at "x" | walk_at "len")
local macro_rules
  | `(tactic| walk_at "ril") => `(tactic| repeat first | walk_at "w" | walk_at "x" | walk_at "len" | (with_reducible refine wp_if ?_))
/-! Q_k08 -/
section
variable {f M : Nat} {G : Nat → Nat → Rat} {Q : R → List Ob → Prop}
theorem side_small (hf : f ≤ 2) (hM : M ≤ 2) (hG : ∀ t, t < M → ∀ i, i < f + 1 → Bq 100 (G t i)) (k : Q (.val (.bool (sureQ (f + 1) M G))) []) : Ret d_law_side [.val (tblP (f + 1) M G)] Q := by
  have hq := Smp.bq_eq (100 * M + 1) 4
  have h4 : (2 : Nat) ^ 4 = 16 := rfl
  rw [h4] at hq
  have hn : NN M 100 4 = Smp.bq (100 * M + 1) 4 := rfl
  refine of_law_side (β := 100) (Qn := 4) ⟨by omega, by omega, by omega, hG, by decide, .inr (by omega), by omega⟩ ?_ ?_ k
  · omega
  · rw [hn]
    have : 100 * (f + 1) ≤ 300 := by omega
    omega
theorem side_big {n : Nat} (hn1 : 1 ≤ n) (hn : n ≤ 8) (hM : M ≤ 7) (hG : ∀ t, t < M → ∀ i, i < n → Bq 350 (G t i)) (k : Q (.val (.bool (sureQ n M G))) []) : Ret d_law_side [.val (tblP n M G)] Q := by
  have hq := Smp.bq_eq (350 * M + 1) 8
  have h4 : (2 : Nat) ^ 8 = 256 := rfl
  rw [h4] at hq
  have hnn : NN M 350 8 = Smp.bq (350 * M + 1) 8 := rfl
  refine of_law_side (β := 350) (Qn := 8) ⟨by omega, by omega, by omega, hG, by decide, .inl (by omega), by omega⟩ ?_ ?_ k
  · omega
  · rw [hnn]
    omega
def row2 (f : Nat) (a b : Rat) (j : Nat) : Rat := if j < f then a else b
theorem row2_add {f : Nat} {a b : Rat} (hf : f ≤ 1000) : fAdd (.pv (.tuple (rowP f fun _ => a))) (.pv (.tuple [rq b])) = some (.val (.tuple (rowP (f + 1) (row2 f a b)))) := by
  rw [show [rq b] = rowP 1 fun _ => b from rfl, ev_addTP (by omega)]
  rfl
theorem sm_row2 {f : Nat} {a b : Rat} {h : Nat → Rat} : Smp.sm (f + 1) (fun j => h j * row2 f a b j) = a * Smp.sm f h + b * h f := by
  rw [sm_succ, Smp.sm_congr (g := fun j => a * h j) fun j hj => by unfold row2; rw [if_pos hj, Rat.mul_comm], Smp.sm_mul]
  unfold row2
  rw [if_neg (by omega)]
  grind
theorem one_not {g : Rat} (hg : 0 < g) : ¬ Sure (f + 1) 1 fun _ => row2 f g (-(1 / g)) := by
  refine not_sure (c := fun i => if i = f then 1 else 0) (fair_unit (by omega) fun t _ => ?_)
  unfold row2
  rw [if_neg (by omega)]
  have : 0 < 1 / g := by rw [Rat.div_def, Rat.one_mul]; exact Rat.inv_pos.mpr hg
  grind
def two (a b : Nat → Rat) (t : Nat) : Nat → Rat := if t = 0 then a else b
theorem sm_two {x y : Rat} {a b : Nat → Rat} {i : Nat} : (Smp.sm 2 fun t => (if t = 0 then x else y) * two a b t i) = x * a i + y * b i := by
  show (0 + (if 0 = 0 then x else y) * two a b 0 i) + (if 1 = 0 then x else y) * two a b 1 i = _
  unfold two
  rw [if_pos rfl, if_pos rfl, if_neg (by decide), if_neg (by decide)]
  grind
theorem sure_two {n : Nat} {a b : Nat → Rat} (x y : Rat) (hx : 0 ≤ x) (hy : 0 ≤ y) (h : ∀ i, i < n → 0 < x * a i + y * b i) : Sure n 2 (two a b) ∧ Sure n 2 (two b a) := by
  refine ⟨⟨fun t => if t = 0 then x else y, fun t _ => ?_, fun i hi => ?_⟩, ⟨fun t => if t = 0 then y else x, fun t _ => ?_, fun i hi => ?_⟩⟩
  · dsimp only; split <;> assumption
  · rw [sm_two]; exact h i hi
  · dsimp only; split <;> assumption
  · rw [sm_two, Rat.add_comm]; exact h i hi
theorem not_two {n : Nat} {a b c : Nat → Rat} (h0 : ∀ i, i < n → 0 ≤ c i) (h1 : Smp.sm n c = 1) (ha : (Smp.sm n fun i => c i * a i) ≤ 0) (hb : (Smp.sm n fun i => c i * b i) ≤ 0) : ¬ Sure n 2 (two a b) ∧ ¬ Sure n 2 (two b a) := by
  refine ⟨not_sure (c := c) ⟨h0, h1, fun t ht => ?_⟩, not_sure (c := c) ⟨h0, h1, fun t ht => ?_⟩⟩
  · unfold two; split <;> assumption
  · unfold two; split <;> assumption
theorem two_sure {g s : Rat} (hg : 1 ≤ g) (h : f = 0 ∨ s = -1) : Sure (f + 1) 2 (two (row2 f g (-(1 / g))) (row2 f (-(g * g) - s) 1)) ∧ Sure (f + 1) 2 (two (row2 f (-(g * g) - s) 1) (row2 f g (-(1 / g)))) := by
  have hgg : g * (1 / g) = 1 := by have : g ≠ 0 := by grind
                                   grind
  have hi : 0 < 1 / g := by rw [Rat.div_def, Rat.one_mul]; exact Rat.inv_pos.mpr (by grind)
  rcases h with rfl | rfl
  · refine sure_two 0 1 (by decide) (by decide) fun i hi => ?_
    unfold row2
    rw [if_neg (by omega), if_neg (by omega)]
    grind
  · have h2 : 1 ≤ g * g := by
      have := Rat.mul_nonneg (show 0 ≤ g - 1 by grind) (show 0 ≤ g + 1 by grind)
      grind
    refine sure_two (2 * (g * g) - 1) (2 * g) (by grind) (by grind) fun i hi2 => ?_
    unfold row2
    by_cases c : i < f
    · rw [if_pos c, if_pos c]
      grind
    · rw [if_neg c, if_neg c]
      have : (2 * (g * g) - 1) * -(1 / g) + 2 * g * 1 = 1 / g := by grind
      rw [this]
      exact hi
theorem two_not {g s : Rat} (hg : 1 ≤ g) (hf : 1 ≤ f) (hs : 0 ≤ s) : ¬ Sure (f + 1) 2 (two (row2 f g (-(1 / g))) (row2 f (-(g * g) - s) 1)) ∧ ¬ Sure (f + 1) 2 (two (row2 f (-(g * g) - s) 1) (row2 f g (-(1 / g)))) := by
  have hgg : g * (1 / g) = 1 := by have : g ≠ 0 := by grind
                                   grind
  have h2 : 1 ≤ g * g := by
    have := Rat.mul_nonneg (show 0 ≤ g - 1 by grind) (show 0 ≤ g + 1 by grind)
    grind
  obtain ⟨d, hd⟩ : ∃ d, d = 1 / (1 + g * g) := ⟨_, rfl⟩
  have hd0 : 0 < d := by rw [hd, Rat.div_def, Rat.one_mul]; exact Rat.inv_pos.mpr (by grind)
  have hd1 : d + g * g * d = 1 := by
    have : 1 + g * g ≠ 0 := by grind
    rw [hd]; grind
  have hgd := Rat.mul_nonneg (show 0 ≤ g * g by grind) (Rat.le_of_lt hd0)
  obtain ⟨c, hc⟩ : ∃ c : Nat → Rat, c = fun i => if i = 0 then d else if i = f then g * g * d else 0 := ⟨_, rfl⟩
  have c0 : c 0 = d := by rw [hc]; exact if_pos rfl
  have cf : c f = g * g * d := by rw [hc]; dsimp only; rw [if_neg (by omega), if_pos rfl]
  have cs : Smp.sm f c = d := by
    rw [Smp.sm_one (i := 0) (by omega) fun k hk hk0 => by rw [hc]; dsimp only; rw [if_neg hk0, if_neg (by omega)], c0]
  refine not_two (c := c) (fun i _ => ?_) ?_ ?_ ?_
  · rw [hc]; dsimp only
    split
    · exact Rat.le_of_lt hd0
    · split
      · exact hgd
      · exact Rat.le_refl
  · rw [sm_succ, cs, cf]; exact hd1
  · rw [sm_row2, cs, cf]
    clear hd
    generalize 1 / g = u at *
    have : g * d + -u * (g * g * d) = 0 := by grind
    rw [this]
    exact Rat.le_refl
  · rw [sm_row2, cs, cf]
    have := Rat.mul_nonneg hs (Rat.le_of_lt hd0)
    grind
end
theorem Law_k08_holds (ns : List Int) (hl : ns.length ≤ 63) (hb : ∀ z ∈ ns, Builtin.Int.intBits z ≤ 1048576) : ∃ os, d_law_k08 [.val (.list (ns.map PyData.int))] = some (.val (.bool true), os) := by
  suffices h : Ret d_law_k08 [.val (.list (ns.map PyData.int))] fun r _ => r = .val (.bool true) by
    obtain ⟨r, os, e, q⟩ := h
    exact ⟨os, by rw [e, q]⟩
  refine ret_mkR (by repeat constructor) ?_
  unfold b_law_k08
  walk_at "rl"
  refine of_draws (m := 520) hb hl (by decide) fun ds => ?_
  walk_at "rl"
  refine of_take (by decide) fun n0 ds hn1 hn2 => ?_
  walk_at "rl"
  refine of_take (by decide) fun m0 ds hm1 hm2 => ?_
  walk_at "rl"
  refine wp_mid (fun ρ => ∃ (n many : Nat) (ds : List Int), 1 ≤ n ∧ n ≤ 8 ∧ many ≤ 7 ∧ ρ = [some (.val (.list (ns.map PyData.int))), some (.own (intsO ds)), some (.val (.int n)), some (.val (.int many)), none, none, none, none, none, none, none, none]) ?_ ?_
  · walk_at "ril"
    refine of_take (by decide) fun x ds _ _ => ?_
    walk_at "ril"
    obtain ⟨n0, rfl⟩ := Int.eq_ofNat_of_zero_le hn1
    obtain ⟨m0, rfl⟩ := Int.eq_ofNat_of_zero_le hm1
    refine branchD (fun _ => ?_) fun _ => ?_
    · walk_at "ril"
      exact ⟨8, 7, ds, by decide, by decide, by decide, rfl⟩
    · walk_at "ril"
      rw [show (1 : Int) + (n0 : Int) = ((n0 + 1 : Nat) : Int) by omega]
      exact ⟨n0 + 1, m0, ds, by omega, by omega, by omega, rfl⟩
  rintro _ ⟨n, M, ds, hn1, hn2, hM, rfl⟩
  walk_at "rl"
  refine of_drawn_tableQ (by omega) (by omega) fun G ds hG => ?_
  walk_at "rl"
  refine side_big hn1 hn2 hM hG ?_
  walk_at "ril"
  refine of_take (by decide) fun f ds hf1 hf2 => ?_
  obtain ⟨f, rfl⟩ := Int.eq_ofNat_of_zero_le hf1
  walk_at "rl"
  rw [show (1 : Int) + (f : Int) = ((f + 1 : Nat) : Int) by omega]
  refine of_take (by decide) fun g ds hg1 hg2 => ?_
  walk_at "rl"
  refine wp_mid (fun ρ => ∃ (g : Nat) (ds : List Int), 1 ≤ g ∧ g ≤ 10 ^ 13 ∧ ρ = [some (.val (.list (ns.map PyData.int))), some (.own (intsO ds)), some (.val (.int n)), some (.val (.int M)), some (.val (tblP n M G)), some (.val (.bool (sureQ n M G))), some (.val (.int ((f + 1 : Nat) : Int))), some (.val (.int g)), none, none, none, none]) ?_ ?_
  · walk_at "ril"
    refine of_take (by decide) fun x ds _ _ => ?_
    walk_at "ril"
    obtain ⟨g, rfl⟩ := Int.eq_ofNat_of_zero_le hg1
    refine branchD (fun _ => ?_) fun _ => ?_
    · walk_at "ril"
      refine of_huge fun z ds hz1 hz2 => ?_
      obtain ⟨z, rfl⟩ := Int.eq_ofNat_of_zero_le hz1
      walk_at "ril"
      have e18 : (10 : Int) ^ Int.toNat 18 = ((10 ^ 18 : Nat) : Int) := by decide
      have e : (1 + (g : Int) + (z : Int).fdiv (10 ^ Int.toNat 18)) = ((1 + g + z / 10 ^ 18 : Nat) : Int) := by
        rw [e18, fdiv_nat]
        omega
      rw [e]
      exact ⟨1 + g + z / 10 ^ 18, ds, by omega, by omega, rfl⟩
    · walk_at "ril"
      rw [show (1 : Int) + (g : Int) = ((g + 1 : Nat) : Int) by omega]
      exact ⟨g + 1, ds, by omega, by omega, rfl⟩
  clear hg1 hg2 g
  rintro _ ⟨g, ds, hg1, hg2, rfl⟩
  have hf : f ≤ 2 := by omega
  have hgi : (1 : Int) ≤ (g : Int) := by omega
  have hgr : (1 : Rat) ≤ ((g : Int) : Rat) := by
    have := Rat.intCast_le_intCast.mpr hgi
    rwa [Rat.intCast_one] at this
  have hgb : (g : Int).natAbs < 2 ^ 45 := Nat.lt_of_le_of_lt (by simpa using hg2) (by decide)
  have low1 : Low (1, (g : Int)) := ⟨by show (0 : Int) < g; omega, by simp⟩
  have lowm : Low (-1, (g : Int)) := ⟨by show (0 : Int) < g; omega, by simp⟩
  have s0 : ¬ Sure (f + 1) 0 fun _ _ => 0 := not_sure (fair_unit (k := 0) (by omega) fun t ht => by omega)
  have s1 : ¬ Sure (f + 1) 1 fun _ _ => 0 := not_sure (fair_unit (k := 0) (by omega) fun t ht => Rat.le_refl)
  have hgp : 0 < (((1 : Int) : Rat) / ((g : Int) : Rat)) := by
    rw [Rat.intCast_one, Rat.div_def, Rat.one_mul]; exact Rat.inv_pos.mpr (by grind)
  have s2 : Sure (f + 1) 1 fun _ _ => (((1 : Int) : Rat) / ((g : Int) : Rat)) := ⟨fun _ => 1, fun _ _ => by show (0 : Rat) ≤ 1; decide, fun i _ => by
    show 0 < 0 + 1 * (((1 : Int) : Rat) / ((g : Int) : Rat))
    grind⟩
  have bg : Bq 100 (((1 : Int) : Rat) / ((g : Int) : Rat)) := bq_of (n := 1) (d := g) (by omega) (by have := ic_ne (a := (g : Int)) (by omega); grind) (by decide) (Nat.lt_of_lt_of_le hgb (by decide))
  walk_at "ril"
  refine side_small (M := 0) (G := fun _ _ => 0) hf (by decide) (fun t ht => by omega) ?_
  rw [sureQ_f s0]
  walk_at "ril"
  refine opq rfl rfl (ev_mulTQ (x := 0) (k := f + 1) (by omega)) ?_
  walk_at "ril"
  refine side_small (M := 1) (G := fun _ _ => 0) hf (by decide) (fun t ht i hi => bq_0.mono (by decide)) ?_
  rw [sureQ_f s1]
  walk_at "ril"
  rw [rqF low1]
  refine opq rfl rfl (ev_mulTQ (k := f + 1) (by omega)) ?_
  walk_at "ril"
  refine side_small (M := 1) (G := fun _ _ => (((1 : Int) : Rat) / ((g : Int) : Rat))) hf (by decide) (fun t ht i hi => bg) ?_
  rw [sureQ_t s2]
  walk_at "ril"
  refine of_take (by decide) fun st ds hst1 hst2 => ?_
  walk_at "ril"
  have ef : ((f + 1 : Nat) : Int) - 1 = (f : Int) := by omega
  rw [ef, rqI]
  refine opq rfl rfl (ev_mulTQ (k := f) (by omega)) ?_
  walk_at "ril"
  have em : (((-1 : Int) : Rat) / ((g : Int) : Rat)) = -(1 / ((g : Int) : Rat)) := by
    rw [Rat.intCast_neg, Rat.intCast_one, Rat.div_def, Rat.div_def]
    grind
  have b2 : Bq 100 (-(1 / ((g : Int) : Rat))) := by
    have := bq_neg bg
    rwa [Rat.intCast_one] at this
  have b1 : Bq 100 ((g : Int) : Rat) := bq_int (by decide) (Nat.lt_of_lt_of_le hgb (by decide))
  rw [show PyData.tuple [.int (-1), .int (g : Int)] = rq (-(1 / ((g : Int) : Rat))) by rw [rqF lowm, em]]
  refine opq rfl rfl (row2_add (by omega)) ?_
  walk_at "ril"
  have mg := lt_mul (a := -(g : Int)) (b := (g : Int)) (m := 45) (n := 45) (by rw [Int.natAbs_neg]; exact hgb) hgb
  refine opq rfl rfl (ev_mul (mulOk_of 45 45 (by rw [Int.natAbs_neg]; exact hgb) hgb)) ?_
  walk_at "ril"
  rw [ef, rqI]
  refine opq rfl rfl (ev_mulTQ (k := f) (by omega)) ?_
  walk_at "ril"
  have es : ((-(g : Int) * (g : Int) - (st - 1) : Int) : Rat) = -(((g : Int) : Rat) * ((g : Int) : Rat)) - ((st - 1 : Int) : Rat) := by
    rw [Rat.intCast_sub, Rat.intCast_mul, Rat.intCast_neg]
    grind
  have b3 : Bq 100 (-(((g : Int) : Rat) * ((g : Int) : Rat)) - ((st - 1 : Int) : Rat)) := by
    rw [← es]
    refine bq_int (by decide) ?_
    have : (2 : Nat) ^ 100 = 2 ^ (45 + 45) * 1024 := by decide
    omega
  rw [es, rqI]
  refine opq rfl rfl (row2_add (by omega)) ?_
  rw [Rat.intCast_one]
  walk_at "ril"
  refine of_take (by decide) fun x ds hx1 hx2 => ?_
  walk_at "ril"
  have hone := one_not (f := f) (g := ((g : Int) : Rat)) (by grind)
  have hs2 := two_sure (f := f) (g := ((g : Int) : Rat)) (s := ((st - 1 : Int) : Rat)) hgr
  have hnt := two_not (f := f) (g := ((g : Int) : Rat)) (s := ((st - 1 : Int) : Rat)) hgr
  have c1 : ∀ i, i < f + 1 → Bq 100 (row2 f ((g : Int) : Rat) (-(1 / ((g : Int) : Rat))) i) := fun i _ => by unfold row2; split <;> assumption
  have c2 : ∀ i, i < f + 1 → Bq 100 (row2 f (-(((g : Int) : Rat) * ((g : Int) : Rat)) - ((st - 1 : Int) : Rat)) 1 i) := fun i _ => by unfold row2; split <;> first | assumption | exact bq_1.mono (by decide)
  generalize row2 f ((g : Int) : Rat) (-(1 / ((g : Int) : Rat))) = r1 at *
  generalize row2 f (-(((g : Int) : Rat) * ((g : Int) : Rat)) - ((st - 1 : Int) : Rat)) 1 = r2 at *
  obtain ⟨a, b, hix, ha, hb2, hss, hnn⟩ : ∃ a b : Nat → Rat, atI [.tuple [.tuple (rowP (f + 1) r1), .tuple (rowP (f + 1) r2)], .tuple [.tuple (rowP (f + 1) r2), .tuple (rowP (f + 1) r1)]] x = some (.tuple (betsP 2 (f + 1) (two a b))) ∧
      (∀ i, i < f + 1 → Bq 100 (a i)) ∧ (∀ i, i < f + 1 → Bq 100 (b i)) ∧ (f = 0 ∨ ((st - 1 : Int) : Rat) = -1 → Sure (f + 1) 2 (two a b)) ∧ (1 ≤ f → 0 ≤ ((st - 1 : Int) : Rat) → ¬ Sure (f + 1) 2 (two a b)) := by
    have : x = 0 ∨ x = 1 := by omega
    rcases this with rfl | rfl
    · exact ⟨r1, r2, rfl, c1, c2, fun h => (hs2 h).1, fun h h' => (hnt h h').1⟩
    · exact ⟨r2, r1, rfl, c2, c1, fun h => (hs2 h).2, fun h h' => (hnt h h').2⟩
  refine opq rfl rfl (ev_ix (.inr (.inr rfl)) hix) ?_
  walk_at "ril"
  refine side_small (M := 1) (G := fun _ => r1) hf (by decide) (fun t ht i hi => c1 i hi) ?_
  rw [sureQ_f hone]
  walk_at "ril"
  have cG : ∀ t, t < 2 → ∀ i, i < f + 1 → Bq 100 (two a b t i) := fun t ht i hi => by unfold two; split <;> first | exact ha i hi | exact hb2 i hi
  have step1 : st - 1 = -1 → ((st - 1 : Int) : Rat) = -1 := fun h => by rw [h, Rat.intCast_neg, Rat.intCast_one]
  have fin : ∀ {b : Bool}, (false ^^ (b == b)) = true := fun {b} => by cases b <;> rfl
  have yes : Sure (f + 1) 2 (two a b) → Ret d_law_side [.val (tblP (f + 1) 2 (two a b))] fun r os => r = .val (.bool true) ∧ os = [] := fun h => by
    refine side_small hf (by decide) cG ?_
    rw [sureQ_t h]
    exact ⟨rfl, rfl⟩
  refine branchD (fun h => ?_) fun h => ?_
  · walk_at "ril"
    refine (yes (hss (.inl (by omega)))).mono ?_
    rintro _ _ ⟨rfl, rfl⟩
    walk_at "ril"
    refine side_big hn1 hn2 hM hG ?_
    walk_at "ril"
    rw [fin]
  · walk_at "ril"
    refine branchD (fun h2 => ?_) fun h2 => ?_
    · walk_at "ril"
      refine (yes (hss (.inr (step1 h2)))).mono ?_
      rintro _ _ ⟨rfl, rfl⟩
      walk_at "ril"
      refine side_big hn1 hn2 hM hG ?_
      walk_at "ril"
      rw [fin]
    · walk_at "ril"
      refine side_small hf (by decide) cG ?_
      have hz : 0 ≤ ((st - 1 : Int) : Rat) := by
        have := Rat.intCast_le_intCast.mpr (show (0 : Int) ≤ st - 1 by omega)
        rwa [Rat.intCast_zero] at this
      rw [sureQ_f (hnn (by omega) hz)]
      walk_at "ril"
      refine side_big hn1 hn2 hM hG ?_
      walk_at "ril"
      rw [fin]
end Py
theorem Law_k08.holds : ∀ ns : List Int, ns.length ≤ 63 → (∀ z ∈ ns, PySem.Builtin.Int.intBits z ≤ 1048576) → ∃ os, D.d_law_k08 [.val (.list (ns.map PySem.PyData.int))] = some (.val (.bool true), os) := Py.Law_k08_holds
/-! the walk (printed by gen.py) -/
namespace Law_k08
open PySem PySem.Spec PyProof.Rows L2 Py D
def topS (i : Nat) : Stmt := PySem.Challenge.pw_nosurebet_k08_told_stakes_and_chances.main.body.getD i (.Pass ⟨0, 0, 0, 0⟩)
section
variable {P : Program} {w : World} {K : PySem.W.Frag} {mg : Str → Option Value} {base : Heap}
abbrev s_divisor : Stmt := topS 4
theorem sc_divisor : FnScope ["one", "other"] ["one", "other"] (defScope s_divisor) := ⟨rfl, rfl, rfl, by decide +kernel, rfl, by decide +kernel, by decide +kernel⟩
theorem bi_divisor (D : Df K mg "divisor" s_divisor) : Binds K D.fd ["one", "other"] [] := D.F.binds (ps := ["one", "other"]) fun _ _ _ _ _ _ us hl => match us, hl with | [_, _], _ => rfl
theorem ok_divisor (hs : base.NoSeer) (ht : P.given.tree = none) (D_divisor : Df K mg "divisor" s_divisor) (v_gcd : mg "gcd" = some (.builtin "math.gcd")) : FnOk P w K mg base CX0 (41) D_divisor.f D_divisor.fd ["one", "other"] (spOf K 2 d_divisor) :=
  ok_of D_divisor.F sc_divisor (by decide) hs ht fun cdv A outer s H E c =>
    (bss_one (bs_ret (be_gcd rfl v_gcd (be_var 0) (be_var 1))))
abbrev s_fraction : Stmt := topS 5
theorem sc_fraction : FnScope ["n", "d", "common"] ["n", "d"] (defScope s_fraction) := ⟨rfl, rfl, rfl, by decide +kernel, rfl, by decide +kernel, by decide +kernel⟩
theorem bi_fraction (D : Df K mg "fraction" s_fraction) : Binds K D.fd ["n", "d"] [] := D.F.binds (ps := ["n", "d"]) fun _ _ _ _ _ _ us hl => match us, hl with | [_, _], _ => rfl
theorem ok_fraction (hs : base.NoSeer) (ht : P.given.tree = none) (D_fraction : Df K mg "fraction" s_fraction) (D_divisor : Df K mg "divisor" s_divisor) (G_divisor : FnOk P w K mg base CX0 (41) D_divisor.f D_divisor.fd ["one", "other"] (spOf K 2 d_divisor)) : FnOk P w K mg base CX0 (42) D_fraction.f D_fraction.fd ["n", "d"] (spOf K 2 d_fraction) :=
  ok_of D_fraction.F sc_fraction (by decide) hs ht fun cdv A outer s H E c =>
    (bss_cons (bs_set 2 c.nd (be_call G_divisor (c.room.mono (by omega)) rfl D_divisor.g D_divisor.F.kp (bi_divisor D_divisor) (ba_v (be_var 0) (ba_v (be_var 1) ba_nil))))
    (bss_cons (bs_if (bt_cmp ob_lt (be_var 1) be_int) (bss_one (bs_set 2 c.nd (be_neg (be_var 2)))) bss_nil)
    (bss_one (bs_ret (be_tup (bl_cons (be_op (ob_div c.div) (be_var 0) (be_var 2)) (bl_cons (be_op (ob_div c.div) (be_var 1) (be_var 2)) bl_nil)))))))
abbrev s_plus : Stmt := topS 6
theorem sc_plus : FnScope ["one", "other"] ["one", "other"] (defScope s_plus) := ⟨rfl, rfl, rfl, by decide +kernel, rfl, by decide +kernel, by decide +kernel⟩
theorem bi_plus (D : Df K mg "plus" s_plus) : Binds K D.fd ["one", "other"] [] := D.F.binds (ps := ["one", "other"]) fun _ _ _ _ _ _ us hl => match us, hl with | [_, _], _ => rfl
theorem ok_plus (hs : base.NoSeer) (ht : P.given.tree = none) (D_plus : Df K mg "plus" s_plus) (D_fraction : Df K mg "fraction" s_fraction) (G_fraction : FnOk P w K mg base CX0 (42) D_fraction.f D_fraction.fd ["n", "d"] (spOf K 2 d_fraction)) : FnOk P w K mg base CX0 (43) D_plus.f D_plus.fd ["one", "other"] (spOf K 2 d_plus) :=
  ok_of D_plus.F sc_plus (by decide) hs ht fun cdv A outer s H E c =>
    (bss_one (bs_ret (be_call G_fraction (c.room.mono (by omega)) rfl D_fraction.g D_fraction.F.kp (bi_fraction D_fraction) (ba_v (be_op ob_add (be_op ob_mul (be_ix (be_var 0) be_int) (be_ix (be_var 1) be_int)) (be_op ob_mul (be_ix (be_var 1) be_int) (be_ix (be_var 0) be_int))) (ba_v (be_op ob_mul (be_ix (be_var 0) be_int) (be_ix (be_var 1) be_int)) ba_nil)))))
abbrev s_minus : Stmt := topS 7
theorem sc_minus : FnScope ["one", "other"] ["one", "other"] (defScope s_minus) := ⟨rfl, rfl, rfl, by decide +kernel, rfl, by decide +kernel, by decide +kernel⟩
theorem bi_minus (D : Df K mg "minus" s_minus) : Binds K D.fd ["one", "other"] [] := D.F.binds (ps := ["one", "other"]) fun _ _ _ _ _ _ us hl => match us, hl with | [_, _], _ => rfl
theorem ok_minus (hs : base.NoSeer) (ht : P.given.tree = none) (D_minus : Df K mg "minus" s_minus) (D_fraction : Df K mg "fraction" s_fraction) (G_fraction : FnOk P w K mg base CX0 (42) D_fraction.f D_fraction.fd ["n", "d"] (spOf K 2 d_fraction)) : FnOk P w K mg base CX0 (43) D_minus.f D_minus.fd ["one", "other"] (spOf K 2 d_minus) :=
  ok_of D_minus.F sc_minus (by decide) hs ht fun cdv A outer s H E c =>
    (bss_one (bs_ret (be_call G_fraction (c.room.mono (by omega)) rfl D_fraction.g D_fraction.F.kp (bi_fraction D_fraction) (ba_v (be_op ob_sub (be_op ob_mul (be_ix (be_var 0) be_int) (be_ix (be_var 1) be_int)) (be_op ob_mul (be_ix (be_var 1) be_int) (be_ix (be_var 0) be_int))) (ba_v (be_op ob_mul (be_ix (be_var 0) be_int) (be_ix (be_var 1) be_int)) ba_nil)))))
abbrev s_times : Stmt := topS 8
theorem sc_times : FnScope ["one", "other"] ["one", "other"] (defScope s_times) := ⟨rfl, rfl, rfl, by decide +kernel, rfl, by decide +kernel, by decide +kernel⟩
theorem bi_times (D : Df K mg "times" s_times) : Binds K D.fd ["one", "other"] [] := D.F.binds (ps := ["one", "other"]) fun _ _ _ _ _ _ us hl => match us, hl with | [_, _], _ => rfl
theorem ok_times (hs : base.NoSeer) (ht : P.given.tree = none) (D_times : Df K mg "times" s_times) (D_fraction : Df K mg "fraction" s_fraction) (G_fraction : FnOk P w K mg base CX0 (42) D_fraction.f D_fraction.fd ["n", "d"] (spOf K 2 d_fraction)) : FnOk P w K mg base CX0 (43) D_times.f D_times.fd ["one", "other"] (spOf K 2 d_times) :=
  ok_of D_times.F sc_times (by decide) hs ht fun cdv A outer s H E c =>
    (bss_one (bs_ret (be_call G_fraction (c.room.mono (by omega)) rfl D_fraction.g D_fraction.F.kp (bi_fraction D_fraction) (ba_v (be_op ob_mul (be_ix (be_var 0) be_int) (be_ix (be_var 1) be_int)) (ba_v (be_op ob_mul (be_ix (be_var 0) be_int) (be_ix (be_var 1) be_int)) ba_nil)))))
abbrev s_divided : Stmt := topS 9
theorem sc_divided : FnScope ["one", "other"] ["one", "other"] (defScope s_divided) := ⟨rfl, rfl, rfl, by decide +kernel, rfl, by decide +kernel, by decide +kernel⟩
theorem bi_divided (D : Df K mg "divided" s_divided) : Binds K D.fd ["one", "other"] [] := D.F.binds (ps := ["one", "other"]) fun _ _ _ _ _ _ us hl => match us, hl with | [_, _], _ => rfl
theorem ok_divided (hs : base.NoSeer) (ht : P.given.tree = none) (D_divided : Df K mg "divided" s_divided) (D_fraction : Df K mg "fraction" s_fraction) (G_fraction : FnOk P w K mg base CX0 (42) D_fraction.f D_fraction.fd ["n", "d"] (spOf K 2 d_fraction)) : FnOk P w K mg base CX0 (43) D_divided.f D_divided.fd ["one", "other"] (spOf K 2 d_divided) :=
  ok_of D_divided.F sc_divided (by decide) hs ht fun cdv A outer s H E c =>
    (bss_one (bs_ret (be_call G_fraction (c.room.mono (by omega)) rfl D_fraction.g D_fraction.F.kp (bi_fraction D_fraction) (ba_v (be_op ob_mul (be_ix (be_var 0) be_int) (be_ix (be_var 1) be_int)) (ba_v (be_op ob_mul (be_ix (be_var 0) be_int) (be_ix (be_var 1) be_int)) ba_nil)))))
abbrev s_is_less : Stmt := topS 10
theorem sc_is_less : FnScope ["one", "other"] ["one", "other"] (defScope s_is_less) := ⟨rfl, rfl, rfl, by decide +kernel, rfl, by decide +kernel, by decide +kernel⟩
theorem bi_is_less (D : Df K mg "is_less" s_is_less) : Binds K D.fd ["one", "other"] [] := D.F.binds (ps := ["one", "other"]) fun _ _ _ _ _ _ us hl => match us, hl with | [_, _], _ => rfl
theorem ok_is_less (hs : base.NoSeer) (ht : P.given.tree = none) (D_is_less : Df K mg "is_less" s_is_less) : FnOk P w K mg base CX0 (41) D_is_less.f D_is_less.fd ["one", "other"] (spOf K 2 d_is_less) :=
  ok_of D_is_less.F sc_is_less (by decide) hs ht fun cdv A outer s H E c =>
    (bss_one (bs_ret (be_cmp ob_lt (be_op ob_mul (be_ix (be_var 0) be_int) (be_ix (be_var 1) be_int)) (be_op ob_mul (be_ix (be_var 1) be_int) (be_ix (be_var 0) be_int)))))
abbrev s_total : Stmt := topS 11
theorem sc_total : FnScope ["some", "found", "one"] ["some"] (defScope s_total) := ⟨rfl, rfl, rfl, by decide +kernel, rfl, by decide +kernel, by decide +kernel⟩
theorem bi_total (D : Df K mg "total" s_total) : Binds K D.fd ["some"] [] := D.F.binds (ps := ["some"]) fun _ _ _ _ _ _ us hl => match us, hl with | [_], _ => rfl
theorem ok_total (hs : base.NoSeer) (ht : P.given.tree = none) (D_total : Df K mg "total" s_total) (D_plus : Df K mg "plus" s_plus) (G_plus : FnOk P w K mg base CX0 (43) D_plus.f D_plus.fd ["one", "other"] (spOf K 2 d_plus)) (TNOTHING : CT K mg "NOTHING" [.int 0, .int 1]) : FnOk P w K mg base CX0 (44) D_total.f D_total.fd ["some"] (spOf K 1 d_total) :=
  ok_of D_total.F sc_total (by decide) hs ht fun cdv A outer s H E c =>
    (bss_cons (bs_set 1 c.nd (be_glob rfl TNOTHING.m TNOTHING.d))
    (bss_cons (bs_for c.pass c.calm (bi_seq (be_frz (be_var 0))) (bg_name 2 c.nd) (bss_fgt [2] (bss_one (bs_set 1 c.nd (be_call G_plus (c.room.mono (by omega)) rfl D_plus.g D_plus.F.kp (bi_plus D_plus) (ba_v (be_var 1) (ba_v (be_var 2) ba_nil)))))))
    (bss_one (bs_ret (be_var 1)))))
abbrev s_first_rows : Stmt := topS 13
theorem sc_first_rows : FnScope ["rows", "bounds", "found", "at", "fillers", "other"] ["rows", "bounds"] (defScope s_first_rows) := ⟨rfl, rfl, rfl, by decide +kernel, rfl, by decide +kernel, by decide +kernel⟩
theorem bi_first_rows (D : Df K mg "first_rows" s_first_rows) : Binds K D.fd ["rows", "bounds"] [] := D.F.binds (ps := ["rows", "bounds"]) fun _ _ _ _ _ _ us hl => match us, hl with | [_, _], _ => rfl
theorem ok_first_rows (hs : base.NoSeer) (ht : P.given.tree = none) (D_first_rows : Df K mg "first_rows" s_first_rows) (n_len : mg "len" = none) (n_list : mg "list" = none) (n_range : mg "range" = none) (TNOTHING : CT K mg "NOTHING" [.int 0, .int 1]) (TONE : CT K mg "ONE" [.int 1, .int 1]) : FnOk P w K mg base CX0 (41) D_first_rows.f D_first_rows.fd ["rows", "bounds"] (spOf K 2 d_first_rows) :=
  ok_of D_first_rows.F sc_first_rows (by decide) hs ht fun cdv A outer s H E c =>
    (bss_cons (bs_set 2 c.nd (be_lst bl_nil))
    (bss_cons (bs_for c.pass c.calm (bi_rng1 rfl n_range (be_b1 c_len rfl n_len bt_len (be_var 0))) (bg_name 3 c.nd) (bss_fgt [3, 4] (bss_cons (bs_setLcN 4 5 [("other", 5)] c.calm c.nd rfl rfl (bi_rng1 rfl n_range (be_b1 c_len rfl n_len bt_len (be_var 0))) (blk_at (N := ["rows", "bounds", "found", "at", "fillers", "other"]) (sc := defScope s_first_rows) rfl rfl (by decide +kernel)) (by decide) rfl (sw_true rfl rfl rfl (by decide +kernel)) (fun _ _ _ _ _ => pg_name (i := 5) c.nd rfl (.inl rfl)) (fun _ _ _ _ _ => bts_nil) (fun _ _ _ _ _ => (be_if (bt_cmp (ob_eq c.units) (be_var 5) (be_var 3)) (be_glob rfl TONE.m TONE.d) (be_glob rfl TNOTHING.m TNOTHING.d))))
    (bss_one (bs_expr (be_append 2 (pv 2) (be_op ob_add (be_op ob_add (be_t1 c_list rfl n_list bt_list (be_ix (be_var 0) (be_var 3))) (be_var 4)) (be_lst (bl_cons (be_ix (be_var 1) (be_var 3)) bl_nil)))))))))
    (bss_one (bs_ret (be_var 2)))))
abbrev s_entering : Stmt := topS 14
theorem sc_entering : FnScope ["line", "column"] ["line"] (defScope s_entering) := ⟨rfl, rfl, rfl, by decide +kernel, rfl, by decide +kernel, by decide +kernel⟩
theorem bi_entering (D : Df K mg "entering" s_entering) : Binds K D.fd ["line"] [] := D.F.binds (ps := ["line"]) fun _ _ _ _ _ _ us hl => match us, hl with | [_], _ => rfl
theorem ok_entering (hs : base.NoSeer) (ht : P.given.tree = none) (D_entering : Df K mg "entering" s_entering) (D_is_less : Df K mg "is_less" s_is_less) (G_is_less : FnOk P w K mg base CX0 (41) D_is_less.f D_is_less.fd ["one", "other"] (spOf K 2 d_is_less)) (n_len : mg "len" = none) (n_range : mg "range" = none) (TNOTHING : CT K mg "NOTHING" [.int 0, .int 1]) : FnOk P w K mg base CX0 (42) D_entering.f D_entering.fd ["line"] (spOf K 1 d_entering) :=
  ok_of D_entering.F sc_entering (by decide) hs ht fun cdv A outer s H E c =>
    (bss_cons (bs_for c.pass c.calm (bi_rng1 rfl n_range (be_op ob_sub (be_b1 c_len rfl n_len bt_len (be_var 0)) be_int)) (bg_name 1 c.nd) (bss_fgt [1] (bss_one (bs_if (bt_tru (be_call G_is_less (c.room.mono (by omega)) rfl D_is_less.g D_is_less.F.kp (bi_is_less D_is_less) (ba_v (be_ix (be_var 0) (be_var 1)) (ba_v (be_glob rfl TNOTHING.m TNOTHING.d) ba_nil)))) (bss_one (bs_ret (be_var 1))) bss_nil))))
    (bss_one (bs_ret be_non)))
abbrev s_leaving : Stmt := topS 15
theorem sc_leaving : FnScope ["rows", "basis", "column", "best", "at", "rest"] ["rows", "basis", "column"] (defScope s_leaving) := ⟨rfl, rfl, rfl, by decide +kernel, rfl, by decide +kernel, by decide +kernel⟩
theorem bi_leaving (D : Df K mg "leaving" s_leaving) : Binds K D.fd ["rows", "basis", "column"] [] := D.F.binds (ps := ["rows", "basis", "column"]) fun _ _ _ _ _ _ us hl => match us, hl with | [_, _, _], _ => rfl
theorem ok_leaving (hs : base.NoSeer) (ht : P.given.tree = none) (D_leaving : Df K mg "leaving" s_leaving) (D_is_less : Df K mg "is_less" s_is_less) (G_is_less : FnOk P w K mg base CX0 (41) D_is_less.f D_is_less.fd ["one", "other"] (spOf K 2 d_is_less)) (D_divided : Df K mg "divided" s_divided) (G_divided : FnOk P w K mg base CX0 (43) D_divided.f D_divided.fd ["one", "other"] (spOf K 2 d_divided)) (n_len : mg "len" = none) (n_range : mg "range" = none) (TNOTHING : CT K mg "NOTHING" [.int 0, .int 1]) : FnOk P w K mg base CX0 (44) D_leaving.f D_leaving.fd ["rows", "basis", "column"] (spOf K 3 d_leaving) :=
  ok_of D_leaving.F sc_leaving (by decide) hs ht fun cdv A outer s H E c =>
    (bss_cons (bs_set 3 c.nd be_non)
    (bss_cons (bs_for c.pass c.calm (bi_rng1 rfl n_range (be_b1 c_len rfl n_len bt_len (be_var 0))) (bg_name 4 c.nd) (bss_fgt [4, 5] (bss_one (bs_if (bt_tru (be_call G_is_less (c.room.mono (by omega)) rfl D_is_less.g D_is_less.F.kp (bi_is_less D_is_less) (ba_v (be_glob rfl TNOTHING.m TNOTHING.d) (ba_v (be_ix (be_ix (be_var 0) (be_var 4)) (be_var 2)) ba_nil)))) (bss_cons (bs_set 5 c.nd (be_call G_divided (c.room.mono (by omega)) rfl D_divided.g D_divided.F.kp (bi_divided D_divided) (ba_v (be_ix (be_ix (be_var 0) (be_var 4)) (be_neg be_int)) (ba_v (be_ix (be_ix (be_var 0) (be_var 4)) (be_var 2)) ba_nil))))
    (bss_one (bs_if (bt_w (bw_or (bt_cmp ob_is (be_var 3) be_non) (bw_or (bt_tru (be_call G_is_less (c.room.mono (by omega)) rfl D_is_less.g D_is_less.F.kp (bi_is_less D_is_less) (ba_v (be_var 5) (ba_v (be_ix (be_var 3) be_int) ba_nil)))) (bw_or1 (bt_w (bw_and (bt_cmp (ob_eq c.units) (be_var 5) (be_ix (be_var 3) be_int)) (bw_and1 (bt_cmp ob_lt (be_ix (be_var 1) (be_var 4)) (be_ix (be_var 3) be_int))))))))) (bss_one (bs_set 3 c.nd (be_tup (bl_cons (be_var 5) (bl_cons (be_ix (be_var 1) (be_var 4)) (bl_cons (be_var 4) bl_nil)))))) bss_nil))) bss_nil))))
    (bss_one (bs_ret (be_if (bt_cmp ob_is (be_var 3) be_non) be_non (be_ix (be_var 3) be_int))))))
abbrev s_without : Stmt := topS 16
theorem sc_without : FnScope ["row", "other", "column", "factor", "less", "item", "at"] ["row", "other", "column"] (defScope s_without) := ⟨rfl, rfl, rfl, by decide +kernel, rfl, by decide +kernel, by decide +kernel⟩
theorem bi_without (D : Df K mg "without" s_without) : Binds K D.fd ["row", "other", "column"] [] := D.F.binds (ps := ["row", "other", "column"]) fun _ _ _ _ _ _ us hl => match us, hl with | [_, _, _], _ => rfl
theorem ok_without (hs : base.NoSeer) (ht : P.given.tree = none) (D_without : Df K mg "without" s_without) (D_times : Df K mg "times" s_times) (G_times : FnOk P w K mg base CX0 (43) D_times.f D_times.fd ["one", "other"] (spOf K 2 d_times)) (D_minus : Df K mg "minus" s_minus) (G_minus : FnOk P w K mg base CX0 (43) D_minus.f D_minus.fd ["one", "other"] (spOf K 2 d_minus)) (n_len : mg "len" = none) (n_range : mg "range" = none) (TNOTHING : CT K mg "NOTHING" [.int 0, .int 1]) : FnOk P w K mg base CX0 (44) D_without.f D_without.fd ["row", "other", "column"] (spOf K 3 d_without) :=
  ok_of D_without.F sc_without (by decide) hs ht fun cdv A outer s H E c =>
    (bss_cons (bs_set 3 c.nd (be_ix (be_var 0) (be_var 2)))
    (bss_cons (bs_if (bt_cmp (ob_eq c.units) (be_var 3) (be_glob rfl TNOTHING.m TNOTHING.d)) (bss_one (bs_ret (be_var 0))) bss_nil)
    (bss_cons (bs_set 4 c.nd (be_lcN 5 [("item", 5)] c.calm c.nd (bi_seq (be_frz (be_var 1))) (blk_at (N := ["row", "other", "column", "factor", "less", "item", "at"]) (sc := defScope s_without) rfl rfl (by decide +kernel)) (by decide) rfl (fun _ _ _ _ _ => pg_name (i := 5) c.nd rfl (.inl rfl)) (fun _ _ _ _ _ => bts_nil) (fun _ _ _ _ _ => (be_if (bt_cmp (ob_eq c.units) (be_var 5) (be_glob rfl TNOTHING.m TNOTHING.d)) (be_glob rfl TNOTHING.m TNOTHING.d) (be_call G_times (c.room.mono (by omega)) rfl D_times.g D_times.F.kp (bi_times D_times) (ba_v (be_var 3) (ba_v (be_var 5) ba_nil)))))))
    (bss_one (bs_ret (be_lcN 6 [("at", 6)] c.calm c.nd (bi_rng1 rfl n_range (be_b1 c_len rfl n_len bt_len (be_var 0))) (blk_at (N := ["row", "other", "column", "factor", "less", "item", "at"]) (sc := defScope s_without) rfl rfl (by decide +kernel)) (by decide) rfl (fun _ _ _ _ _ => pg_name (i := 6) c.nd rfl (.inl rfl)) (fun _ _ _ _ _ => bts_nil) (fun _ _ _ _ _ => (be_if (bt_cmp (ob_eq c.units) (be_ix (be_var 4) (be_var 6)) (be_glob rfl TNOTHING.m TNOTHING.d)) (be_ix (be_var 0) (be_var 6)) (be_call G_minus (c.room.mono (by omega)) rfl D_minus.g D_minus.F.kp (bi_minus D_minus) (ba_v (be_ix (be_var 0) (be_var 6)) (ba_v (be_ix (be_var 4) (be_var 6)) ba_nil)))))))))))
abbrev s_greatest_sum : Stmt := topS 17
theorem sc_greatest_sum : FnScope ["weights", "rows", "bounds", "table", "many", "line", "basis", "column", "amounts", "at", "pivot", "weight", "item", "other"] ["weights", "rows", "bounds"] (defScope s_greatest_sum) := ⟨rfl, rfl, rfl, by decide +kernel, rfl, by decide +kernel, by decide +kernel⟩
theorem bi_greatest_sum (D : Df K mg "greatest_sum" s_greatest_sum) : Binds K D.fd ["weights", "rows", "bounds"] [] := D.F.binds (ps := ["weights", "rows", "bounds"]) fun _ _ _ _ _ _ us hl => match us, hl with | [_, _, _], _ => rfl
theorem ok_greatest_sum (hs : base.NoSeer) (ht : P.given.tree = none) (D_greatest_sum : Df K mg "greatest_sum" s_greatest_sum) (D_first_rows : Df K mg "first_rows" s_first_rows) (G_first_rows : FnOk P w K mg base CX0 (41) D_first_rows.f D_first_rows.fd ["rows", "bounds"] (spOf K 2 d_first_rows)) (D_entering : Df K mg "entering" s_entering) (G_entering : FnOk P w K mg base CX0 (42) D_entering.f D_entering.fd ["line"] (spOf K 1 d_entering)) (D_leaving : Df K mg "leaving" s_leaving) (G_leaving : FnOk P w K mg base CX0 (44) D_leaving.f D_leaving.fd ["rows", "basis", "column"] (spOf K 3 d_leaving)) (D_without : Df K mg "without" s_without) (G_without : FnOk P w K mg base CX0 (44) D_without.f D_without.fd ["row", "other", "column"] (spOf K 3 d_without)) (D_minus : Df K mg "minus" s_minus) (G_minus : FnOk P w K mg base CX0 (43) D_minus.f D_minus.fd ["one", "other"] (spOf K 2 d_minus)) (D_divided : Df K mg "divided" s_divided) (G_divided : FnOk P w K mg base CX0 (43) D_divided.f D_divided.fd ["one", "other"] (spOf K 2 d_divided)) (n_len : mg "len" = none) (n_range : mg "range" = none) (TNOTHING : CT K mg "NOTHING" [.int 0, .int 1]) : FnOk P w K mg base CX0 (45) D_greatest_sum.f D_greatest_sum.fd ["weights", "rows", "bounds"] (spOf K 3 d_greatest_sum) :=
  ok_of D_greatest_sum.F sc_greatest_sum (by decide) hs ht fun cdv A outer s H E c =>
    (bss_cons (bs_set 3 c.nd (be_call G_first_rows (c.room.mono (by omega)) rfl D_first_rows.g D_first_rows.F.kp (bi_first_rows D_first_rows) (ba_v (be_var 1) (ba_v (be_var 2) ba_nil))))
    (bss_cons (bs_set 4 c.nd (be_b1 c_len rfl n_len bt_len (be_var 0)))
    (bss_cons (bs_set 5 c.nd (be_op ob_add (be_lcN 11 [("weight", 11)] c.calm c.nd (bi_seq (be_frz (be_var 0))) (blk_at (N := ["weights", "rows", "bounds", "table", "many", "line", "basis", "column", "amounts", "at", "pivot", "weight", "item", "other"]) (sc := defScope s_greatest_sum) rfl rfl (by decide +kernel)) (by decide) rfl (fun _ _ _ _ _ => pg_name (i := 11) c.nd rfl (.inl rfl)) (fun _ _ _ _ _ => bts_nil) (fun _ _ _ _ _ => (be_call G_minus (c.room.mono (by omega)) rfl D_minus.g D_minus.F.kp (bi_minus D_minus) (ba_v (be_glob rfl TNOTHING.m TNOTHING.d) (ba_v (be_var 11) ba_nil))))) (be_op ob_mul (be_lst (bl_cons (be_glob rfl TNOTHING.m TNOTHING.d) bl_nil)) (be_op ob_add (be_b1 c_len rfl n_len bt_len (be_var 1)) be_int))))
    (bss_cons (bs_setLcN 6 9 [("at", 9)] c.calm c.nd rfl rfl (bi_rng1 rfl n_range (be_b1 c_len rfl n_len bt_len (be_var 1))) (blk_at (N := ["weights", "rows", "bounds", "table", "many", "line", "basis", "column", "amounts", "at", "pivot", "weight", "item", "other"]) (sc := defScope s_greatest_sum) rfl rfl (by decide +kernel)) (by decide) rfl (sw_true rfl rfl rfl (by decide +kernel)) (fun _ _ _ _ _ => pg_name (i := 9) c.nd rfl (.inl rfl)) (fun _ _ _ _ _ => bts_nil) (fun _ _ _ _ _ => (be_op ob_add (be_var 4) (be_var 9))))
    (bss_cons (bs_set 7 c.nd (be_call G_entering (c.room.mono (by omega)) rfl D_entering.g D_entering.F.kp (bi_entering D_entering) (ba_v (be_var 5) ba_nil)))
    (bss_cons (bs_fgt [7] (bs_while c.pass (bt_cmp ob_isNot (be_var 7) be_non) (bss_fgt [9, 10] (bss_cons (bs_set 9 c.nd (be_call G_leaving (c.room.mono (by omega)) rfl D_leaving.g D_leaving.F.kp (bi_leaving D_leaving) (ba_r 3 (pv 3) (ba_r 6 (pv 6) (ba_v (be_var 7) ba_nil)))))
    (bss_cons (bs_setIx 3 (pv 3) (be_var 9) (be_lcN 12 [("item", 12)] c.calm c.nd (bi_seq (be_ix (be_var 3) (be_var 9))) (blk_at (N := ["weights", "rows", "bounds", "table", "many", "line", "basis", "column", "amounts", "at", "pivot", "weight", "item", "other"]) (sc := defScope s_greatest_sum) rfl rfl (by decide +kernel)) (by decide) rfl (fun _ _ _ _ _ => pg_name (i := 12) c.nd rfl (.inl rfl)) (fun _ _ _ _ _ => bts_nil) (fun _ _ _ _ _ => (be_call G_divided (c.room.mono (by omega)) rfl D_divided.g D_divided.F.kp (bi_divided D_divided) (ba_v (be_var 12) (ba_v (be_ix (be_ix (be_var 3) (be_var 9)) (be_var 7)) ba_nil))))))
    (bss_cons (bs_set 10 c.nd (be_ix (be_var 3) (be_var 9)))
    (bss_cons (bs_set 3 c.nd (be_lcN 13 [("other", 13)] c.calm c.nd (bi_rng1 rfl n_range (be_b1 c_len rfl n_len bt_len (be_var 1))) (blk_at (N := ["weights", "rows", "bounds", "table", "many", "line", "basis", "column", "amounts", "at", "pivot", "weight", "item", "other"]) (sc := defScope s_greatest_sum) rfl rfl (by decide +kernel)) (by decide) rfl (fun _ _ _ _ _ => pg_name (i := 13) c.nd rfl (.inl rfl)) (fun _ _ _ _ _ => bts_nil) (fun _ _ _ _ _ => (be_if (bt_cmp (ob_eq c.units) (be_var 13) (be_var 9)) (be_var 10) (be_call G_without (c.room.mono (by omega)) rfl D_without.g D_without.F.kp (bi_without D_without) (ba_v (be_ix (be_var 3) (be_var 13)) (ba_v (be_var 10) (ba_v (be_var 7) ba_nil))))))))
    (bss_cons (bs_set 5 c.nd (be_call G_without (c.room.mono (by omega)) rfl D_without.g D_without.F.kp (bi_without D_without) (ba_v (be_var 5) (ba_v (be_ix (be_var 3) (be_var 9)) (ba_v (be_var 7) ba_nil)))))
    (bss_cons (bs_setIx 6 (pv 6) (be_var 9) (be_var 7))
    (bss_one (bs_set 7 c.nd (be_call G_entering (c.room.mono (by omega)) rfl D_entering.g D_entering.F.kp (bi_entering D_entering) (ba_v (be_var 5) ba_nil)))))))))))))
    (bss_cons (bs_set 8 c.nd (be_op ob_mul (be_lst (bl_cons (be_glob rfl TNOTHING.m TNOTHING.d) bl_nil)) (be_var 4)))
    (bss_cons (bs_for c.pass c.calm (bi_rng1 rfl n_range (be_b1 c_len rfl n_len bt_len (be_var 1))) (bg_name 9 c.nd) (bss_fgt [9] (bss_one (bs_if (bt_cmp ob_lt (be_ix (be_var 6) (be_var 9)) (be_var 4)) (bss_one (bs_setIx 8 (pv 8) (be_ix (be_var 6) (be_var 9)) (be_ix (be_ix (be_var 3) (be_var 9)) (be_neg be_int)))) bss_nil))))
    (bss_one (bs_ret (be_tup (bl_cons (be_ix (be_var 5) (be_neg be_int)) (bl_cons (be_var 8) (bl_cons (be_sl (be_var 5) (bo_some (be_var 4)) (bo_some (be_op ob_add (be_var 4) (be_b1 c_len rfl n_len bt_len (be_var 1))))) bl_nil))))))))))))))
abbrev s_less_gains : Stmt := topS 19
theorem sc_less_gains : FnScope ["table", "outcome", "bet"] ["table", "outcome"] (defScope s_less_gains) := ⟨rfl, rfl, rfl, by decide +kernel, rfl, by decide +kernel, by decide +kernel⟩
theorem bi_less_gains (D : Df K mg "less_gains" s_less_gains) : Binds K D.fd ["table", "outcome"] [] := D.F.binds (ps := ["table", "outcome"]) fun _ _ _ _ _ _ us hl => match us, hl with | [_, _], _ => rfl
theorem ok_less_gains (hs : base.NoSeer) (ht : P.given.tree = none) (D_less_gains : Df K mg "less_gains" s_less_gains) (D_minus : Df K mg "minus" s_minus) (G_minus : FnOk P w K mg base CX0 (43) D_minus.f D_minus.fd ["one", "other"] (spOf K 2 d_minus)) (TNOTHING : CT K mg "NOTHING" [.int 0, .int 1]) : FnOk P w K mg base CX0 (44) D_less_gains.f D_less_gains.fd ["table", "outcome"] (spOf K 2 d_less_gains) :=
  ok_of D_less_gains.F sc_less_gains (by decide) hs ht fun cdv A outer s H E c =>
    (bss_one (bs_ret (be_lcN 2 [("bet", 2)] c.calm c.nd (bi_seq (be_ix (be_var 0) be_int)) (blk_at (N := ["table", "outcome", "bet"]) (sc := defScope s_less_gains) rfl rfl (by decide +kernel)) (by decide) rfl (fun _ _ _ _ _ => pg_name (i := 2) c.nd rfl (.inl rfl)) (fun _ _ _ _ _ => bts_nil) (fun _ _ _ _ _ => (be_call G_minus (c.room.mono (by omega)) rfl D_minus.g D_minus.F.kp (bi_minus D_minus) (ba_v (be_glob rfl TNOTHING.m TNOTHING.d) (ba_v (be_ix (be_var 2) (be_var 1)) ba_nil)))))))
abbrev s_surest : Stmt := topS 20
theorem sc_surest : FnScope ["table", "n", "bets", "rows", "gain", "amounts", "prices", "outcome"] ["table"] (defScope s_surest) := ⟨rfl, rfl, rfl, by decide +kernel, rfl, by decide +kernel, by decide +kernel⟩
theorem bi_surest (D : Df K mg "surest" s_surest) : Binds K D.fd ["table"] [] := D.F.binds (ps := ["table"]) fun _ _ _ _ _ _ us hl => match us, hl with | [_], _ => rfl
theorem ok_surest (hs : base.NoSeer) (ht : P.given.tree = none) (D_surest : Df K mg "surest" s_surest) (D_greatest_sum : Df K mg "greatest_sum" s_greatest_sum) (G_greatest_sum : FnOk P w K mg base CX0 (45) D_greatest_sum.f D_greatest_sum.fd ["weights", "rows", "bounds"] (spOf K 3 d_greatest_sum)) (D_less_gains : Df K mg "less_gains" s_less_gains) (G_less_gains : FnOk P w K mg base CX0 (44) D_less_gains.f D_less_gains.fd ["table", "outcome"] (spOf K 2 d_less_gains)) (n_len : mg "len" = none) (n_range : mg "range" = none) (n_tuple : mg "tuple" = none) (TNOTHING : CT K mg "NOTHING" [.int 0, .int 1]) (TONE : CT K mg "ONE" [.int 1, .int 1]) : FnOk P w K mg base CX0 (46) D_surest.f D_surest.fd ["table"] (spOf K 1 d_surest) :=
  ok_of D_surest.F sc_surest (by decide) hs ht fun cdv A outer s H E c =>
    (bss_cons (bs_asg (be_var 0) (bg_tup c.calm (bgs_cons 1 c.nd (bgs_cons 2 c.nd bgs_nil))))
    (bss_cons (bs_set 3 c.nd (be_op ob_add (be_lcN 7 [("outcome", 7)] c.calm c.nd (bi_rng1 rfl n_range (be_var 1)) (blk_at (N := ["table", "n", "bets", "rows", "gain", "amounts", "prices", "outcome"]) (sc := defScope s_surest) rfl rfl (by decide +kernel)) (by decide) rfl (fun _ _ _ _ _ => pg_name (i := 7) c.nd rfl (.inl rfl)) (fun _ _ _ _ _ => bts_nil) (fun _ _ _ _ _ => (be_op ob_add (be_lst (bl_cons (be_glob rfl TONE.m TONE.d) bl_nil)) (be_call G_less_gains (c.room.mono (by omega)) rfl D_less_gains.g D_less_gains.F.kp (bi_less_gains D_less_gains) (ba_v (be_var 0) (ba_v (be_var 7) ba_nil)))))) (be_lst (bl_cons (be_op ob_add (be_lst (bl_cons (be_glob rfl TNOTHING.m TNOTHING.d) bl_nil)) (be_op ob_mul (be_lst (bl_cons (be_glob rfl TONE.m TONE.d) bl_nil)) (be_b1 c_len rfl n_len bt_len (be_var 2)))) bl_nil))))
    (bss_cons (bs_asg (be_call G_greatest_sum (c.room.mono (by omega)) rfl D_greatest_sum.g D_greatest_sum.F.kp (bi_greatest_sum D_greatest_sum) (ba_v (be_op ob_add (be_lst (bl_cons (be_glob rfl TONE.m TONE.d) bl_nil)) (be_op ob_mul (be_lst (bl_cons (be_glob rfl TNOTHING.m TNOTHING.d) bl_nil)) (be_b1 c_len rfl n_len bt_len (be_var 2)))) (ba_v (be_var 3) (ba_v (be_op ob_add (be_op ob_mul (be_lst (bl_cons (be_glob rfl TNOTHING.m TNOTHING.d) bl_nil)) (be_var 1)) (be_lst (bl_cons (be_glob rfl TONE.m TONE.d) bl_nil))) ba_nil)))) (bg_tup c.calm (bgs_cons 4 c.nd (bgs_cons 5 c.nd (bgs_cons 6 c.nd bgs_nil)))))
    (bss_one (bs_ret (be_tup (bl_cons (be_var 4) (bl_cons (be_t1 c_tuple rfl n_tuple bt_tuple (be_sl (be_var 5) (bo_some be_int) bo_none)) (bl_cons (be_sl (be_var 6) bo_none (bo_some (be_var 1))) bl_nil)))))))))
abbrev s_as_chances : Stmt := topS 21
theorem sc_as_chances : FnScope ["prices", "whole_sum", "price"] ["prices"] (defScope s_as_chances) := ⟨rfl, rfl, rfl, by decide +kernel, rfl, by decide +kernel, by decide +kernel⟩
theorem bi_as_chances (D : Df K mg "as_chances" s_as_chances) : Binds K D.fd ["prices"] [] := D.F.binds (ps := ["prices"]) fun _ _ _ _ _ _ us hl => match us, hl with | [_], _ => rfl
theorem ok_as_chances (hs : base.NoSeer) (ht : P.given.tree = none) (D_as_chances : Df K mg "as_chances" s_as_chances) (D_total : Df K mg "total" s_total) (G_total : FnOk P w K mg base CX0 (44) D_total.f D_total.fd ["some"] (spOf K 1 d_total)) (D_divided : Df K mg "divided" s_divided) (G_divided : FnOk P w K mg base CX0 (43) D_divided.f D_divided.fd ["one", "other"] (spOf K 2 d_divided)) (n_tuple : mg "tuple" = none) : FnOk P w K mg base CX0 (45) D_as_chances.f D_as_chances.fd ["prices"] (spOf K 1 d_as_chances) :=
  ok_of D_as_chances.F sc_as_chances (by decide) hs ht fun cdv A outer s H E c =>
    (bss_cons (bs_set 1 c.nd (be_call G_total (c.room.mono (by omega)) rfl D_total.g D_total.F.kp (bi_total D_total) (ba_v (be_var 0) ba_nil)))
    (bss_one (bs_ret (be_t1 c_tuple rfl n_tuple bt_tuple (be_lcN 2 [("price", 2)] c.calm c.nd (bi_seq (be_frz (be_var 0))) (blk_at (N := ["prices", "whole_sum", "price"]) (sc := defScope s_as_chances) rfl rfl (by decide +kernel)) (by decide) rfl (fun _ _ _ _ _ => pg_name (i := 2) c.nd rfl (.inl rfl)) (fun _ _ _ _ _ => bts_nil) (fun _ _ _ _ _ => (be_call G_divided (c.room.mono (by omega)) rfl D_divided.g D_divided.F.kp (bi_divided D_divided) (ba_v (be_var 2) (ba_v (be_var 1) ba_nil)))))))))
abbrev s_has_sure_bet : Stmt := topS 22
theorem sc_has_sure_bet : FnScope ["table"] ["table"] (defScope s_has_sure_bet) := ⟨rfl, rfl, rfl, by decide +kernel, rfl, by decide +kernel, by decide +kernel⟩
theorem bi_has_sure_bet (D : Df K mg "has_sure_bet" s_has_sure_bet) : Binds K D.fd ["table"] [] := D.F.binds (ps := ["table"]) fun _ _ _ _ _ _ us hl => match us, hl with | [_], _ => rfl
theorem ok_has_sure_bet (hs : base.NoSeer) (ht : P.given.tree = none) (D_has_sure_bet : Df K mg "has_sure_bet" s_has_sure_bet) (D_is_less : Df K mg "is_less" s_is_less) (G_is_less : FnOk P w K mg base CX0 (41) D_is_less.f D_is_less.fd ["one", "other"] (spOf K 2 d_is_less)) (D_surest : Df K mg "surest" s_surest) (G_surest : FnOk P w K mg base CX0 (46) D_surest.f D_surest.fd ["table"] (spOf K 1 d_surest)) (TNOTHING : CT K mg "NOTHING" [.int 0, .int 1]) : FnOk P w K mg base CX0 (47) D_has_sure_bet.f D_has_sure_bet.fd ["table"] (spOf K 1 d_has_sure_bet) :=
  ok_of D_has_sure_bet.F sc_has_sure_bet (by decide) hs ht fun cdv A outer s H E c =>
    (bss_one (bs_ret (be_call G_is_less (c.room.mono (by omega)) rfl D_is_less.g D_is_less.F.kp (bi_is_less D_is_less) (ba_v (be_glob rfl TNOTHING.m TNOTHING.d) (ba_v (be_ix (be_call G_surest (c.room.mono (by omega)) rfl D_surest.g D_surest.F.kp (bi_surest D_surest) (ba_v (be_var 0) ba_nil)) be_int) ba_nil)))))
abbrev s_sure_bet : Stmt := topS 23
theorem sc_sure_bet : FnScope ["table", "gain", "stakes", "prices"] ["table"] (defScope s_sure_bet) := ⟨rfl, rfl, rfl, by decide +kernel, rfl, by decide +kernel, by decide +kernel⟩
theorem bi_sure_bet (D : Df K mg "sure_bet" s_sure_bet) : Binds K D.fd ["table"] [] := D.F.binds (ps := ["table"]) fun _ _ _ _ _ _ us hl => match us, hl with | [_], _ => rfl
theorem ok_sure_bet (hs : base.NoSeer) (ht : P.given.tree = none) (D_sure_bet : Df K mg "sure_bet" s_sure_bet) (D_surest : Df K mg "surest" s_surest) (G_surest : FnOk P w K mg base CX0 (46) D_surest.f D_surest.fd ["table"] (spOf K 1 d_surest)) (D_is_less : Df K mg "is_less" s_is_less) (G_is_less : FnOk P w K mg base CX0 (41) D_is_less.f D_is_less.fd ["one", "other"] (spOf K 2 d_is_less)) (TNOTHING : CT K mg "NOTHING" [.int 0, .int 1]) : FnOk P w K mg base CX0 (47) D_sure_bet.f D_sure_bet.fd ["table"] (spOf K 1 d_sure_bet) :=
  ok_of D_sure_bet.F sc_sure_bet (by decide) hs ht fun cdv A outer s H E c =>
    (bss_cons (bs_asg (be_call G_surest (c.room.mono (by omega)) rfl D_surest.g D_surest.F.kp (bi_surest D_surest) (ba_v (be_var 0) ba_nil)) (bg_tup c.calm (bgs_cons 1 c.nd (bgs_cons 2 c.nd (bgs_cons 3 c.nd bgs_nil)))))
    (bss_one (bs_ret (be_if (bt_tru (be_call G_is_less (c.room.mono (by omega)) rfl D_is_less.g D_is_less.F.kp (bi_is_less D_is_less) (ba_v (be_glob rfl TNOTHING.m TNOTHING.d) (ba_v (be_var 1) ba_nil)))) (be_var 2) be_non))))
abbrev s_fair_chances : Stmt := topS 24
theorem sc_fair_chances : FnScope ["table", "gain", "stakes", "prices"] ["table"] (defScope s_fair_chances) := ⟨rfl, rfl, rfl, by decide +kernel, rfl, by decide +kernel, by decide +kernel⟩
theorem bi_fair_chances (D : Df K mg "fair_chances" s_fair_chances) : Binds K D.fd ["table"] [] := D.F.binds (ps := ["table"]) fun _ _ _ _ _ _ us hl => match us, hl with | [_], _ => rfl
theorem ok_fair_chances (hs : base.NoSeer) (ht : P.given.tree = none) (D_fair_chances : Df K mg "fair_chances" s_fair_chances) (D_surest : Df K mg "surest" s_surest) (G_surest : FnOk P w K mg base CX0 (46) D_surest.f D_surest.fd ["table"] (spOf K 1 d_surest)) (D_is_less : Df K mg "is_less" s_is_less) (G_is_less : FnOk P w K mg base CX0 (41) D_is_less.f D_is_less.fd ["one", "other"] (spOf K 2 d_is_less)) (D_as_chances : Df K mg "as_chances" s_as_chances) (G_as_chances : FnOk P w K mg base CX0 (45) D_as_chances.f D_as_chances.fd ["prices"] (spOf K 1 d_as_chances)) (TNOTHING : CT K mg "NOTHING" [.int 0, .int 1]) : FnOk P w K mg base CX0 (47) D_fair_chances.f D_fair_chances.fd ["table"] (spOf K 1 d_fair_chances) :=
  ok_of D_fair_chances.F sc_fair_chances (by decide) hs ht fun cdv A outer s H E c =>
    (bss_cons (bs_asg (be_call G_surest (c.room.mono (by omega)) rfl D_surest.g D_surest.F.kp (bi_surest D_surest) (ba_v (be_var 0) ba_nil)) (bg_tup c.calm (bgs_cons 1 c.nd (bgs_cons 2 c.nd (bgs_cons 3 c.nd bgs_nil)))))
    (bss_one (bs_ret (be_if (bt_tru (be_call G_is_less (c.room.mono (by omega)) rfl D_is_less.g D_is_less.F.kp (bi_is_less D_is_less) (ba_v (be_glob rfl TNOTHING.m TNOTHING.d) (ba_v (be_var 1) ba_nil)))) be_non (be_call G_as_chances (c.room.mono (by omega)) rfl D_as_chances.g D_as_chances.F.kp (bi_as_chances D_as_chances) (ba_v (be_var 3) ba_nil))))))
abbrev s_law_draws : Stmt := topS 26
theorem sc_law_draws : FnScope ["script", "many", "cells", "rest", "draws", "k", "at", "once", "cell"] ["script", "many"] (defScope s_law_draws) := ⟨rfl, rfl, rfl, by decide +kernel, rfl, by decide +kernel, by decide +kernel⟩
theorem bi_law_draws (D : Df K mg "_law_draws" s_law_draws) : Binds K D.fd ["script", "many"] [] := D.F.binds (ps := ["script", "many"]) fun _ _ _ _ _ _ us hl => match us, hl with | [_, _], _ => rfl
theorem ok_law_draws (hs : base.NoSeer) (ht : P.given.tree = none) (D_law_draws : Df K mg "_law_draws" s_law_draws) (n_int : mg "int" = none) (n_len : mg "len" = none) (n_list : mg "list" = none) (n_range : mg "range" = none) : FnOk P w K mg base CX0 (41) D_law_draws.f D_law_draws.fd ["script", "many"] (spOf K 2 d_law_draws) :=
  ok_of D_law_draws.F sc_law_draws (by decide) hs ht fun cdv A outer s H E c =>
    (bss_cons (bs_setLcN 2 8 [("cell", 8)] c.calm c.nd rfl rfl (bi_seq (be_frz (be_var 0))) (blk_at (N := ["script", "many", "cells", "rest", "draws", "k", "at", "once", "cell"]) (sc := defScope s_law_draws) rfl rfl (by decide +kernel)) (by decide) rfl (sw_true rfl rfl rfl (by decide +kernel)) (fun _ _ _ _ _ => pg_name (i := 8) c.nd rfl (.inl rfl)) (fun _ _ _ _ _ => bts_nil) (fun _ _ _ _ _ => (be_t1 c_int rfl n_int bt_int (be_var 8))))
    (bss_cons (bs_if (bt_cmp (ob_eq c.units) (be_b1 c_len rfl n_len bt_len (be_var 2)) be_int) (bss_one (bs_expr (be_append 2 (pv 2) be_int))) bss_nil)
    (bss_cons (bs_set 3 c.nd (be_t1 c_list rfl n_list bt_list (be_var 2)))
    (bss_cons (bs_set 4 c.nd (be_lst bl_nil))
    (bss_cons (bs_for c.pass c.calm (bi_rng1 rfl n_range (be_var 1)) (bg_name 5 c.nd) (bss_fgt [5, 6, 7] (bss_cons (bs_set 6 c.nd (be_op ob_mod (be_var 5) (be_b1 c_len rfl n_len bt_len (be_var 2))))
    (bss_one (bs_if (bt_cmp ob_ge (be_ix (be_var 2) (be_var 6)) (be_op ob_pow be_int be_int)) (bss_cons (bs_expr (be_append 4 (pv 4) (be_op ob_mod (be_t1 c_int rfl n_int bt_int (be_ix (be_var 3) (be_var 6))) be_int)))
    (bss_one (bs_setIx 3 (pv 3) (be_var 6) (be_op (ob_div c.div) (be_ix (be_var 3) (be_var 6)) be_int)))) (bss_cons (bs_set 7 c.nd (be_op ob_mod (be_t1 c_int rfl n_int bt_int (be_op ob_add (be_op ob_add (be_op ob_mul (be_ix (be_var 2) (be_var 6)) be_int) (be_op ob_mul (be_var 5) be_int)) be_int)) be_int))
    (bss_one (bs_expr (be_append 4 (pv 4) (be_op ob_mod (be_t1 c_int rfl n_int bt_int (be_op ob_add (be_op ob_add (be_op ob_mul (be_var 7) (be_var 7)) (be_op ob_mul be_int (be_var 7))) (be_var 5))) be_int))))))))))
    (bss_cons (bs_expr (be_reverse 4 (pv 4)))
    (bss_one (bs_ret (be_var 4)))))))))
abbrev s_law_take : Stmt := topS 27
theorem sc_law_take : FnScope ["draws", "many"] ["draws", "many"] (defScope s_law_take) := ⟨rfl, rfl, rfl, by decide +kernel, rfl, by decide +kernel, by decide +kernel⟩
theorem bi_law_take (D : Df K mg "_law_take" s_law_take) : Binds K D.fd ["draws", "many"] [] := D.F.binds (ps := ["draws", "many"]) fun _ _ _ _ _ _ us hl => match us, hl with | [_, _], _ => rfl
theorem ok_law_take (hs : base.NoSeer) (ht : P.given.tree = none) (D_law_take : Df K mg "_law_take" s_law_take) (n_int : mg "int" = none) (n_len : mg "len" = none) : FnOk P w K mg base CX0 (41) D_law_take.f D_law_take.fd ["draws", "many"] (spOf K 2 d_law_take) :=
  ok_of D_law_take.F sc_law_take (by decide) hs ht fun cdv A outer s H E c =>
    (bss_cons (bs_if (bt_cmp (ob_eq c.units) (be_b1 c_len rfl n_len bt_len (be_var 0)) be_int) (bss_one (bs_ret be_int)) bss_nil)
    (bss_one (bs_ret (be_op ob_mod (be_t1 c_int rfl n_int bt_int (be_pop 0 (pv 0))) (be_var 1)))))
abbrev s_law_cell : Stmt := topS 28
theorem sc_law_cell : FnScope ["script", "at"] ["script", "at"] (defScope s_law_cell) := ⟨rfl, rfl, rfl, by decide +kernel, rfl, by decide +kernel, by decide +kernel⟩
theorem bi_law_cell (D : Df K mg "_law_cell" s_law_cell) : Binds K D.fd ["script", "at"] [] := D.F.binds (ps := ["script", "at"]) fun _ _ _ _ _ _ us hl => match us, hl with | [_, _], _ => rfl
theorem ok_law_cell (hs : base.NoSeer) (ht : P.given.tree = none) (D_law_cell : Df K mg "_law_cell" s_law_cell) (n_int : mg "int" = none) (n_len : mg "len" = none) : FnOk P w K mg base CX0 (41) D_law_cell.f D_law_cell.fd ["script", "at"] (spOf K 2 d_law_cell) :=
  ok_of D_law_cell.F sc_law_cell (by decide) hs ht fun cdv A outer s H E c =>
    (bss_cons (bs_if (bt_cmp (ob_eq c.units) (be_b1 c_len rfl n_len bt_len (be_var 0)) be_int) (bss_one (bs_ret be_int)) bss_nil)
    (bss_one (bs_ret (be_t1 c_int rfl n_int bt_int (be_ix (be_var 0) (be_op ob_mod (be_t1 c_int rfl n_int bt_int (be_var 1)) (be_b1 c_len rfl n_len bt_len (be_var 0))))))))
abbrev s_law_huge : Stmt := topS 29
theorem sc_law_huge : FnScope ["script", "draws", "power", "number"] ["script", "draws"] (defScope s_law_huge) := ⟨rfl, rfl, rfl, by decide +kernel, rfl, by decide +kernel, by decide +kernel⟩
theorem bi_law_huge (D : Df K mg "_law_huge" s_law_huge) : Binds K D.fd ["script", "draws"] [] := D.F.binds (ps := ["script", "draws"]) fun _ _ _ _ _ _ us hl => match us, hl with | [_, _], _ => rfl
theorem ok_law_huge (hs : base.NoSeer) (ht : P.given.tree = none) (D_law_huge : Df K mg "_law_huge" s_law_huge) (D_law_take : Df K mg "_law_take" s_law_take) (G_law_take : FnOk P w K mg base CX0 (41) D_law_take.f D_law_take.fd ["draws", "many"] (spOf K 2 d_law_take)) (D_law_cell : Df K mg "_law_cell" s_law_cell) (G_law_cell : FnOk P w K mg base CX0 (41) D_law_cell.f D_law_cell.fd ["script", "at"] (spOf K 2 d_law_cell)) (n_int : mg "int" = none) : FnOk P w K mg base CX0 (42) D_law_huge.f D_law_huge.fd ["script", "draws"] (spOf K 2 d_law_huge) :=
  ok_of D_law_huge.F sc_law_huge (by decide) hs ht fun cdv A outer s H E c =>
    (bss_cons (bs_set 2 c.nd (be_ix (be_lst (bl_cons be_int (bl_cons (be_op ob_pow be_int be_int) (bl_cons (be_op ob_pow be_int be_int) (bl_cons (be_op ob_pow be_int be_int) (bl_cons (be_op ob_pow be_int be_int) (bl_cons (be_op ob_pow be_int be_int) bl_nil))))))) (be_call G_law_take (c.room.mono (by omega)) rfl D_law_take.g D_law_take.F.kp (bi_law_take D_law_take) (ba_r 1 (pv 1) (ba_v be_int ba_nil)))))
    (bss_cons (bs_set 3 c.nd (be_op ob_add (be_call G_law_cell (c.room.mono (by omega)) rfl D_law_cell.g D_law_cell.F.kp (bi_law_cell D_law_cell) (ba_v (be_var 0) (ba_v (be_call G_law_take (c.room.mono (by omega)) rfl D_law_take.g D_law_take.F.kp (bi_law_take D_law_take) (ba_r 1 (pv 1) (ba_v be_int ba_nil))) ba_nil))) (be_op ob_mul (be_op ob_add be_int (be_call G_law_take (c.room.mono (by omega)) rfl D_law_take.g D_law_take.F.kp (bi_law_take D_law_take) (ba_r 1 (pv 1) (ba_v be_int ba_nil)))) (be_var 2))))
    (bss_one (bs_ret (be_op ob_mod (be_t1 c_int rfl n_int bt_int (be_var 3)) (be_op ob_pow be_int be_int))))))
abbrev s_law_divisor : Stmt := topS 30
theorem sc_law_divisor : FnScope ["one", "other"] ["one", "other"] (defScope s_law_divisor) := ⟨rfl, rfl, rfl, by decide +kernel, rfl, by decide +kernel, by decide +kernel⟩
theorem bi_law_divisor (D : Df K mg "_law_divisor" s_law_divisor) : Binds K D.fd ["one", "other"] [] := D.F.binds (ps := ["one", "other"]) fun _ _ _ _ _ _ us hl => match us, hl with | [_, _], _ => rfl
theorem ok_law_divisor (hs : base.NoSeer) (ht : P.given.tree = none) (D_law_divisor : Df K mg "_law_divisor" s_law_divisor) (n_abs : mg "abs" = none) (n_int : mg "int" = none) : FnOk P w K mg base CX0 (41) D_law_divisor.f D_law_divisor.fd ["one", "other"] (spOf K 2 d_law_divisor) :=
  ok_of D_law_divisor.F sc_law_divisor (by decide) hs ht fun cdv A outer s H E c =>
    (bss_cons (bs_set 0 c.nd (be_b1 c_abs rfl n_abs bt_abs (be_var 0)))
    (bss_cons (bs_set 1 c.nd (be_b1 c_abs rfl n_abs bt_abs (be_var 1)))
    (bss_cons (bs_fgt [1] (bs_while c.pass (bt_cmp (ob_ne c.units) (be_var 1) be_int) (bss_fgt [] (bss_one (bs_par 0 1 c.calm c.nd (be_var 1) (be_op ob_mod (be_t1 c_int rfl n_int bt_int (be_var 0)) (be_var 1)))))))
    (bss_one (bs_ret (be_var 0))))))
abbrev s_law_ratio : Stmt := topS 31
theorem sc_law_ratio : FnScope ["n", "d", "common"] ["n", "d"] (defScope s_law_ratio) := ⟨rfl, rfl, rfl, by decide +kernel, rfl, by decide +kernel, by decide +kernel⟩
theorem bi_law_ratio (D : Df K mg "_law_ratio" s_law_ratio) : Binds K D.fd ["n", "d"] [] := D.F.binds (ps := ["n", "d"]) fun _ _ _ _ _ _ us hl => match us, hl with | [_, _], _ => rfl
theorem ok_law_ratio (hs : base.NoSeer) (ht : P.given.tree = none) (D_law_ratio : Df K mg "_law_ratio" s_law_ratio) (D_law_divisor : Df K mg "_law_divisor" s_law_divisor) (G_law_divisor : FnOk P w K mg base CX0 (41) D_law_divisor.f D_law_divisor.fd ["one", "other"] (spOf K 2 d_law_divisor)) : FnOk P w K mg base CX0 (42) D_law_ratio.f D_law_ratio.fd ["n", "d"] (spOf K 2 d_law_ratio) :=
  ok_of D_law_ratio.F sc_law_ratio (by decide) hs ht fun cdv A outer s H E c =>
    (bss_cons (bs_set 2 c.nd (be_call G_law_divisor (c.room.mono (by omega)) rfl D_law_divisor.g D_law_divisor.F.kp (bi_law_divisor D_law_divisor) (ba_v (be_var 0) (ba_v (be_var 1) ba_nil))))
    (bss_cons (bs_if (bt_cmp ob_lt (be_var 1) be_int) (bss_one (bs_set 2 c.nd (be_neg (be_var 2)))) bss_nil)
    (bss_one (bs_ret (be_tup (bl_cons (be_op (ob_div c.div) (be_var 0) (be_var 2)) (bl_cons (be_op (ob_div c.div) (be_var 1) (be_var 2)) bl_nil)))))))
abbrev s_law_dot : Stmt := topS 32
theorem sc_law_dot : FnScope ["some", "others", "n", "d", "k"] ["some", "others"] (defScope s_law_dot) := ⟨rfl, rfl, rfl, by decide +kernel, rfl, by decide +kernel, by decide +kernel⟩
theorem bi_law_dot (D : Df K mg "_law_dot" s_law_dot) : Binds K D.fd ["some", "others"] [] := D.F.binds (ps := ["some", "others"]) fun _ _ _ _ _ _ us hl => match us, hl with | [_, _], _ => rfl
theorem ok_law_dot (hs : base.NoSeer) (ht : P.given.tree = none) (D_law_dot : Df K mg "_law_dot" s_law_dot) (D_law_ratio : Df K mg "_law_ratio" s_law_ratio) (G_law_ratio : FnOk P w K mg base CX0 (42) D_law_ratio.f D_law_ratio.fd ["n", "d"] (spOf K 2 d_law_ratio)) (n_len : mg "len" = none) (n_range : mg "range" = none) : FnOk P w K mg base CX0 (43) D_law_dot.f D_law_dot.fd ["some", "others"] (spOf K 2 d_law_dot) :=
  ok_of D_law_dot.F sc_law_dot (by decide) hs ht fun cdv A outer s H E c =>
    (bss_cons (bs_set 2 c.nd be_int)
    (bss_cons (bs_set 3 c.nd be_int)
    (bss_cons (bs_for c.pass c.calm (bi_rng1 rfl n_range (be_b1 c_len rfl n_len bt_len (be_var 0))) (bg_name 4 c.nd) (bss_fgt [4] (bss_cons (bs_set 2 c.nd (be_op ob_add (be_op ob_mul (be_op ob_mul (be_var 2) (be_ix (be_ix (be_var 0) (be_var 4)) be_int)) (be_ix (be_ix (be_var 1) (be_var 4)) be_int)) (be_op ob_mul (be_op ob_mul (be_ix (be_ix (be_var 0) (be_var 4)) be_int) (be_ix (be_ix (be_var 1) (be_var 4)) be_int)) (be_var 3))))
    (bss_cons (bs_set 3 c.nd (be_op ob_mul (be_op ob_mul (be_var 3) (be_ix (be_ix (be_var 0) (be_var 4)) be_int)) (be_ix (be_ix (be_var 1) (be_var 4)) be_int)))
    (bss_one (bs_if (bt_cmp ob_gt (be_var 3) (be_op ob_pow be_int be_int)) (bss_one (bs_asg (be_call G_law_ratio (c.room.mono (by omega)) rfl D_law_ratio.g D_law_ratio.F.kp (bi_law_ratio D_law_ratio) (ba_v (be_var 2) (ba_v (be_var 3) ba_nil))) (bg_tup c.calm (bgs_cons 2 c.nd (bgs_cons 3 c.nd bgs_nil))))) bss_nil))))))
    (bss_one (bs_ret (be_call G_law_ratio (c.room.mono (by omega)) rfl D_law_ratio.g D_law_ratio.F.kp (bi_law_ratio D_law_ratio) (ba_v (be_var 2) (ba_v (be_var 3) ba_nil))))))))
abbrev s_law_is_integer : Stmt := topS 33
theorem sc_law_is_integer : FnScope ["actual"] ["actual"] (defScope s_law_is_integer) := ⟨rfl, rfl, rfl, by decide +kernel, rfl, by decide +kernel, by decide +kernel⟩
theorem bi_law_is_integer (D : Df K mg "_law_is_integer" s_law_is_integer) : Binds K D.fd ["actual"] [] := D.F.binds (ps := ["actual"]) fun _ _ _ _ _ _ us hl => match us, hl with | [_], _ => rfl
theorem ok_law_is_integer (hs : base.NoSeer) (ht : P.given.tree = none) (D_law_is_integer : Df K mg "_law_is_integer" s_law_is_integer) (n_bool : mg "bool" = none) (n_int : mg "int" = none) (n_isinstance : mg "isinstance" = none) : FnOk P w K mg base CX0 (41) D_law_is_integer.f D_law_is_integer.fd ["actual"] (spOf K 1 d_law_is_integer) :=
  ok_of D_law_is_integer.F sc_law_is_integer (by decide) hs ht fun cdv A outer s H E c =>
    (bss_one (bs_ret (be_and (be_isi .int rfl n_isinstance bt_isinstance rfl n_int bt_int (be_var 0)) (be_one (be_not (be_isi .bool rfl n_isinstance bt_isinstance rfl n_bool bt_bool (be_var 0)))))))
abbrev s_law_is_fraction : Stmt := topS 34
theorem sc_law_is_fraction : FnScope ["pair"] ["pair"] (defScope s_law_is_fraction) := ⟨rfl, rfl, rfl, by decide +kernel, rfl, by decide +kernel, by decide +kernel⟩
theorem bi_law_is_fraction (D : Df K mg "_law_is_fraction" s_law_is_fraction) : Binds K D.fd ["pair"] [] := D.F.binds (ps := ["pair"]) fun _ _ _ _ _ _ us hl => match us, hl with | [_], _ => rfl
theorem ok_law_is_fraction (hs : base.NoSeer) (ht : P.given.tree = none) (D_law_is_fraction : Df K mg "_law_is_fraction" s_law_is_fraction) (D_law_divisor : Df K mg "_law_divisor" s_law_divisor) (G_law_divisor : FnOk P w K mg base CX0 (41) D_law_divisor.f D_law_divisor.fd ["one", "other"] (spOf K 2 d_law_divisor)) (D_law_is_integer : Df K mg "_law_is_integer" s_law_is_integer) (G_law_is_integer : FnOk P w K mg base CX0 (41) D_law_is_integer.f D_law_is_integer.fd ["actual"] (spOf K 1 d_law_is_integer)) (n_isinstance : mg "isinstance" = none) (n_len : mg "len" = none) (n_tuple : mg "tuple" = none) : FnOk P w K mg base CX0 (42) D_law_is_fraction.f D_law_is_fraction.fd ["pair"] (spOf K 1 d_law_is_fraction) :=
  ok_of D_law_is_fraction.F sc_law_is_fraction (by decide) hs ht fun cdv A outer s H E c =>
    (bss_cons (bs_if (bt_w (bw_or (bt_not (bt_tru (be_isi .tuple rfl n_isinstance bt_isinstance rfl n_tuple bt_tuple (be_var 0)))) (bw_or1 (bt_cmp (ob_ne c.units) (be_b1 c_len rfl n_len bt_len (be_var 0)) be_int)))) (bss_one (bs_ret be_bl)) bss_nil)
    (bss_cons (bs_if (bt_w (bw_or (bt_not (bt_tru (be_call G_law_is_integer (c.room.mono (by omega)) rfl D_law_is_integer.g D_law_is_integer.F.kp (bi_law_is_integer D_law_is_integer) (ba_v (be_ix (be_var 0) be_int) ba_nil)))) (bw_or (bt_not (bt_tru (be_call G_law_is_integer (c.room.mono (by omega)) rfl D_law_is_integer.g D_law_is_integer.F.kp (bi_law_is_integer D_law_is_integer) (ba_v (be_ix (be_var 0) be_int) ba_nil)))) (bw_or1 (bt_cmp ob_lt (be_ix (be_var 0) be_int) be_int))))) (bss_one (bs_ret be_bl)) bss_nil)
    (bss_one (bs_ret (be_cmp (ob_eq c.units) (be_call G_law_divisor (c.room.mono (by omega)) rfl D_law_divisor.g D_law_divisor.F.kp (bi_law_divisor D_law_divisor) (ba_v (be_ix (be_var 0) be_int) (ba_v (be_ix (be_var 0) be_int) ba_nil))) be_int)))))
abbrev s_law_is_row : Stmt := topS 35
theorem sc_law_is_row : FnScope ["row", "many", "pair"] ["row", "many"] (defScope s_law_is_row) := ⟨rfl, rfl, rfl, by decide +kernel, rfl, by decide +kernel, by decide +kernel⟩
theorem bi_law_is_row (D : Df K mg "_law_is_row" s_law_is_row) : Binds K D.fd ["row", "many"] [] := D.F.binds (ps := ["row", "many"]) fun _ _ _ _ _ _ us hl => match us, hl with | [_, _], _ => rfl
theorem ok_law_is_row (hs : base.NoSeer) (ht : P.given.tree = none) (D_law_is_row : Df K mg "_law_is_row" s_law_is_row) (D_law_is_fraction : Df K mg "_law_is_fraction" s_law_is_fraction) (G_law_is_fraction : FnOk P w K mg base CX0 (42) D_law_is_fraction.f D_law_is_fraction.fd ["pair"] (spOf K 1 d_law_is_fraction)) (n_isinstance : mg "isinstance" = none) (n_len : mg "len" = none) (n_tuple : mg "tuple" = none) : FnOk P w K mg base CX0 (43) D_law_is_row.f D_law_is_row.fd ["row", "many"] (spOf K 2 d_law_is_row) :=
  ok_of D_law_is_row.F sc_law_is_row (by decide) hs ht fun cdv A outer s H E c =>
    (bss_cons (bs_if (bt_w (bw_or (bt_not (bt_tru (be_isi .tuple rfl n_isinstance bt_isinstance rfl n_tuple bt_tuple (be_var 0)))) (bw_or1 (bt_cmp (ob_ne c.units) (be_b1 c_len rfl n_len bt_len (be_var 0)) (be_var 1))))) (bss_one (bs_ret be_bl)) bss_nil)
    (bss_cons (bs_for c.pass c.calm (bi_seq (be_frz (be_var 0))) (bg_name 2 c.nd) (bss_fgt [2] (bss_one (bs_if (bt_not (bt_tru (be_call G_law_is_fraction (c.room.mono (by omega)) rfl D_law_is_fraction.g D_law_is_fraction.F.kp (bi_law_is_fraction D_law_is_fraction) (ba_v (be_var 2) ba_nil)))) (bss_one (bs_ret be_bl)) bss_nil))))
    (bss_one (bs_ret be_bl))))
abbrev s_law_none_below : Stmt := topS 36
theorem sc_law_none_below : FnScope ["row", "pair"] ["row"] (defScope s_law_none_below) := ⟨rfl, rfl, rfl, by decide +kernel, rfl, by decide +kernel, by decide +kernel⟩
theorem bi_law_none_below (D : Df K mg "_law_none_below" s_law_none_below) : Binds K D.fd ["row"] [] := D.F.binds (ps := ["row"]) fun _ _ _ _ _ _ us hl => match us, hl with | [_], _ => rfl
theorem ok_law_none_below (hs : base.NoSeer) (ht : P.given.tree = none) (D_law_none_below : Df K mg "_law_none_below" s_law_none_below) : FnOk P w K mg base CX0 (41) D_law_none_below.f D_law_none_below.fd ["row"] (spOf K 1 d_law_none_below) :=
  ok_of D_law_none_below.F sc_law_none_below (by decide) hs ht fun cdv A outer s H E c =>
    (bss_cons (bs_for c.pass c.calm (bi_seq (be_frz (be_var 0))) (bg_name 1 c.nd) (bss_fgt [1] (bss_one (bs_if (bt_cmp ob_lt (be_ix (be_var 1) be_int) be_int) (bss_one (bs_ret be_bl)) bss_nil))))
    (bss_one (bs_ret be_bl)))
abbrev s_law_gained : Stmt := topS 37
theorem sc_law_gained : FnScope ["n", "bets", "stakes", "outcome", "bet"] ["n", "bets", "stakes"] (defScope s_law_gained) := ⟨rfl, rfl, rfl, by decide +kernel, rfl, by decide +kernel, by decide +kernel⟩
theorem bi_law_gained (D : Df K mg "_law_gained" s_law_gained) : Binds K D.fd ["n", "bets", "stakes"] [] := D.F.binds (ps := ["n", "bets", "stakes"]) fun _ _ _ _ _ _ us hl => match us, hl with | [_, _, _], _ => rfl
theorem ok_law_gained (hs : base.NoSeer) (ht : P.given.tree = none) (D_law_gained : Df K mg "_law_gained" s_law_gained) (D_law_dot : Df K mg "_law_dot" s_law_dot) (G_law_dot : FnOk P w K mg base CX0 (43) D_law_dot.f D_law_dot.fd ["some", "others"] (spOf K 2 d_law_dot)) (n_range : mg "range" = none) (n_tuple : mg "tuple" = none) : FnOk P w K mg base CX0 (44) D_law_gained.f D_law_gained.fd ["n", "bets", "stakes"] (spOf K 3 d_law_gained) :=
  ok_of D_law_gained.F sc_law_gained (by decide) hs ht fun cdv A outer s H E c =>
    (bss_one (bs_ret (be_t1 c_tuple rfl n_tuple bt_tuple (be_lcN 3 [("outcome", 3)] c.calm c.nd (bi_rng1 rfl n_range (be_var 0)) (blk_at (N := ["n", "bets", "stakes", "outcome", "bet"]) (sc := defScope s_law_gained) rfl rfl (by decide +kernel)) (by decide) rfl (fun _ _ _ _ _ => pg_name (i := 3) c.nd rfl (.inr rfl)) (fun _ _ _ _ _ => bts_nil) (fun _ _ _ _ _ => (be_call G_law_dot (c.room.mono (by omega)) rfl D_law_dot.g D_law_dot.F.kp (bi_law_dot D_law_dot) (ba_v (be_var 2) (ba_v (be_lcN 4 [("bet", 4)] c.calm c.nd (bi_seq (be_frz (be_var 1))) (blk_in (N := ["n", "bets", "stakes", "outcome", "bet"]) (sc0 := defScope s_law_gained) rfl rfl (by decide +kernel)) (by decide) rfl (fun _ _ _ _ _ => pg_name (i := 4) c.nd rfl (.inl rfl)) (fun _ _ _ _ _ => bts_nil) (fun _ _ _ _ _ => (be_ix (be_var 4) (be_var 3)))) ba_nil))))))))
abbrev s_law_is_stakes : Stmt := topS 38
theorem sc_law_is_stakes : FnScope ["many", "stakes"] ["many", "stakes"] (defScope s_law_is_stakes) := ⟨rfl, rfl, rfl, by decide +kernel, rfl, by decide +kernel, by decide +kernel⟩
theorem bi_law_is_stakes (D : Df K mg "_law_is_stakes" s_law_is_stakes) : Binds K D.fd ["many", "stakes"] [] := D.F.binds (ps := ["many", "stakes"]) fun _ _ _ _ _ _ us hl => match us, hl with | [_, _], _ => rfl
theorem ok_law_is_stakes (hs : base.NoSeer) (ht : P.given.tree = none) (D_law_is_stakes : Df K mg "_law_is_stakes" s_law_is_stakes) (D_law_is_row : Df K mg "_law_is_row" s_law_is_row) (G_law_is_row : FnOk P w K mg base CX0 (43) D_law_is_row.f D_law_is_row.fd ["row", "many"] (spOf K 2 d_law_is_row)) (D_law_none_below : Df K mg "_law_none_below" s_law_none_below) (G_law_none_below : FnOk P w K mg base CX0 (41) D_law_none_below.f D_law_none_below.fd ["row"] (spOf K 1 d_law_none_below)) : FnOk P w K mg base CX0 (44) D_law_is_stakes.f D_law_is_stakes.fd ["many", "stakes"] (spOf K 2 d_law_is_stakes) :=
  ok_of D_law_is_stakes.F sc_law_is_stakes (by decide) hs ht fun cdv A outer s H E c =>
    (bss_one (bs_ret (be_and (be_call G_law_is_row (c.room.mono (by omega)) rfl D_law_is_row.g D_law_is_row.F.kp (bi_law_is_row D_law_is_row) (ba_v (be_var 1) (ba_v (be_var 0) ba_nil))) (be_one (be_call G_law_none_below (c.room.mono (by omega)) rfl D_law_none_below.g D_law_none_below.F.kp (bi_law_none_below D_law_none_below) (ba_v (be_var 1) ba_nil))))))
abbrev s_law_is_sure : Stmt := topS 39
theorem sc_law_is_sure : FnScope ["n", "bets", "stakes", "gain"] ["n", "bets", "stakes"] (defScope s_law_is_sure) := ⟨rfl, rfl, rfl, by decide +kernel, rfl, by decide +kernel, by decide +kernel⟩
theorem bi_law_is_sure (D : Df K mg "_law_is_sure" s_law_is_sure) : Binds K D.fd ["n", "bets", "stakes"] [] := D.F.binds (ps := ["n", "bets", "stakes"]) fun _ _ _ _ _ _ us hl => match us, hl with | [_, _, _], _ => rfl
theorem ok_law_is_sure (hs : base.NoSeer) (ht : P.given.tree = none) (D_law_is_sure : Df K mg "_law_is_sure" s_law_is_sure) (D_law_gained : Df K mg "_law_gained" s_law_gained) (G_law_gained : FnOk P w K mg base CX0 (44) D_law_gained.f D_law_gained.fd ["n", "bets", "stakes"] (spOf K 3 d_law_gained)) (D_law_is_stakes : Df K mg "_law_is_stakes" s_law_is_stakes) (G_law_is_stakes : FnOk P w K mg base CX0 (44) D_law_is_stakes.f D_law_is_stakes.fd ["many", "stakes"] (spOf K 2 d_law_is_stakes)) (n_len : mg "len" = none) : FnOk P w K mg base CX0 (45) D_law_is_sure.f D_law_is_sure.fd ["n", "bets", "stakes"] (spOf K 3 d_law_is_sure) :=
  ok_of D_law_is_sure.F sc_law_is_sure (by decide) hs ht fun cdv A outer s H E c =>
    (bss_cons (bs_if (bt_not (bt_tru (be_call G_law_is_stakes (c.room.mono (by omega)) rfl D_law_is_stakes.g D_law_is_stakes.F.kp (bi_law_is_stakes D_law_is_stakes) (ba_v (be_b1 c_len rfl n_len bt_len (be_var 1)) (ba_v (be_var 2) ba_nil))))) (bss_one (bs_ret be_bl)) bss_nil)
    (bss_cons (bs_for c.pass c.calm (bi_seq (be_call G_law_gained (c.room.mono (by omega)) rfl D_law_gained.g D_law_gained.F.kp (bi_law_gained D_law_gained) (ba_v (be_var 0) (ba_v (be_var 1) (ba_v (be_var 2) ba_nil))))) (bg_name 3 c.nd) (bss_fgt [3] (bss_one (bs_if (bt_cmp ob_le (be_ix (be_var 3) be_int) be_int) (bss_one (bs_ret be_bl)) bss_nil))))
    (bss_one (bs_ret be_bl))))
abbrev s_law_is_chances : Stmt := topS 40
theorem sc_law_is_chances : FnScope ["n", "chances"] ["n", "chances"] (defScope s_law_is_chances) := ⟨rfl, rfl, rfl, by decide +kernel, rfl, by decide +kernel, by decide +kernel⟩
theorem bi_law_is_chances (D : Df K mg "_law_is_chances" s_law_is_chances) : Binds K D.fd ["n", "chances"] [] := D.F.binds (ps := ["n", "chances"]) fun _ _ _ _ _ _ us hl => match us, hl with | [_, _], _ => rfl
theorem ok_law_is_chances (hs : base.NoSeer) (ht : P.given.tree = none) (D_law_is_chances : Df K mg "_law_is_chances" s_law_is_chances) (D_law_dot : Df K mg "_law_dot" s_law_dot) (G_law_dot : FnOk P w K mg base CX0 (43) D_law_dot.f D_law_dot.fd ["some", "others"] (spOf K 2 d_law_dot)) (D_law_is_row : Df K mg "_law_is_row" s_law_is_row) (G_law_is_row : FnOk P w K mg base CX0 (43) D_law_is_row.f D_law_is_row.fd ["row", "many"] (spOf K 2 d_law_is_row)) (D_law_none_below : Df K mg "_law_none_below" s_law_none_below) (G_law_none_below : FnOk P w K mg base CX0 (41) D_law_none_below.f D_law_none_below.fd ["row"] (spOf K 1 d_law_none_below)) : FnOk P w K mg base CX0 (44) D_law_is_chances.f D_law_is_chances.fd ["n", "chances"] (spOf K 2 d_law_is_chances) :=
  ok_of D_law_is_chances.F sc_law_is_chances (by decide) hs ht fun cdv A outer s H E c =>
    (bss_cons (bs_if (bt_w (bw_or (bt_not (bt_tru (be_call G_law_is_row (c.room.mono (by omega)) rfl D_law_is_row.g D_law_is_row.F.kp (bi_law_is_row D_law_is_row) (ba_v (be_var 1) (ba_v (be_var 0) ba_nil))))) (bw_or1 (bt_not (bt_tru (be_call G_law_none_below (c.room.mono (by omega)) rfl D_law_none_below.g D_law_none_below.F.kp (bi_law_none_below D_law_none_below) (ba_v (be_var 1) ba_nil))))))) (bss_one (bs_ret be_bl)) bss_nil)
    (bss_one (bs_ret (be_cmp (ob_eq c.units) (be_call G_law_dot (c.room.mono (by omega)) rfl D_law_dot.g D_law_dot.F.kp (bi_law_dot D_law_dot) (ba_v (be_var 1) (ba_v (be_op ob_mul (be_lst (bl_cons (be_tup (bl_cons be_int (bl_cons be_int bl_nil))) bl_nil)) (be_var 0)) ba_nil))) (be_tup (bl_cons be_int (bl_cons be_int bl_nil)))))))
abbrev s_law_is_fair : Stmt := topS 41
theorem sc_law_is_fair : FnScope ["n", "bets", "chances", "bet"] ["n", "bets", "chances"] (defScope s_law_is_fair) := ⟨rfl, rfl, rfl, by decide +kernel, rfl, by decide +kernel, by decide +kernel⟩
theorem bi_law_is_fair (D : Df K mg "_law_is_fair" s_law_is_fair) : Binds K D.fd ["n", "bets", "chances"] [] := D.F.binds (ps := ["n", "bets", "chances"]) fun _ _ _ _ _ _ us hl => match us, hl with | [_, _, _], _ => rfl
theorem ok_law_is_fair (hs : base.NoSeer) (ht : P.given.tree = none) (D_law_is_fair : Df K mg "_law_is_fair" s_law_is_fair) (D_law_is_chances : Df K mg "_law_is_chances" s_law_is_chances) (G_law_is_chances : FnOk P w K mg base CX0 (44) D_law_is_chances.f D_law_is_chances.fd ["n", "chances"] (spOf K 2 d_law_is_chances)) (D_law_dot : Df K mg "_law_dot" s_law_dot) (G_law_dot : FnOk P w K mg base CX0 (43) D_law_dot.f D_law_dot.fd ["some", "others"] (spOf K 2 d_law_dot)) : FnOk P w K mg base CX0 (45) D_law_is_fair.f D_law_is_fair.fd ["n", "bets", "chances"] (spOf K 3 d_law_is_fair) :=
  ok_of D_law_is_fair.F sc_law_is_fair (by decide) hs ht fun cdv A outer s H E c =>
    (bss_cons (bs_if (bt_not (bt_tru (be_call G_law_is_chances (c.room.mono (by omega)) rfl D_law_is_chances.g D_law_is_chances.F.kp (bi_law_is_chances D_law_is_chances) (ba_v (be_var 0) (ba_v (be_var 2) ba_nil))))) (bss_one (bs_ret be_bl)) bss_nil)
    (bss_cons (bs_for c.pass c.calm (bi_seq (be_frz (be_var 1))) (bg_name 3 c.nd) (bss_fgt [3] (bss_one (bs_if (bt_cmp ob_gt (be_ix (be_call G_law_dot (c.room.mono (by omega)) rfl D_law_dot.g D_law_dot.F.kp (bi_law_dot D_law_dot) (ba_v (be_var 2) (ba_v (be_var 3) ba_nil))) be_int) be_int) (bss_one (bs_ret be_bl)) bss_nil))))
    (bss_one (bs_ret be_bl))))
abbrev s_law_drawn : Stmt := topS 42
theorem sc_law_drawn : FnScope ["script", "draws", "kind", "n", "d"] ["script", "draws"] (defScope s_law_drawn) := ⟨rfl, rfl, rfl, by decide +kernel, rfl, by decide +kernel, by decide +kernel⟩
theorem bi_law_drawn (D : Df K mg "_law_drawn" s_law_drawn) : Binds K D.fd ["script", "draws"] [] := D.F.binds (ps := ["script", "draws"]) fun _ _ _ _ _ _ us hl => match us, hl with | [_, _], _ => rfl
theorem ok_law_drawn (hs : base.NoSeer) (ht : P.given.tree = none) (D_law_drawn : Df K mg "_law_drawn" s_law_drawn) (D_law_take : Df K mg "_law_take" s_law_take) (G_law_take : FnOk P w K mg base CX0 (41) D_law_take.f D_law_take.fd ["draws", "many"] (spOf K 2 d_law_take)) (D_law_ratio : Df K mg "_law_ratio" s_law_ratio) (G_law_ratio : FnOk P w K mg base CX0 (42) D_law_ratio.f D_law_ratio.fd ["n", "d"] (spOf K 2 d_law_ratio)) (D_law_huge : Df K mg "_law_huge" s_law_huge) (G_law_huge : FnOk P w K mg base CX0 (42) D_law_huge.f D_law_huge.fd ["script", "draws"] (spOf K 2 d_law_huge)) : FnOk P w K mg base CX0 (43) D_law_drawn.f D_law_drawn.fd ["script", "draws"] (spOf K 2 d_law_drawn) :=
  ok_of D_law_drawn.F sc_law_drawn (by decide) hs ht fun cdv A outer s H E c =>
    (bss_cons (bs_set 2 c.nd (be_call G_law_take (c.room.mono (by omega)) rfl D_law_take.g D_law_take.F.kp (bi_law_take D_law_take) (ba_r 1 (pv 1) (ba_v be_int ba_nil))))
    (bss_cons (bs_set 3 c.nd (be_op ob_sub (be_call G_law_take (c.room.mono (by omega)) rfl D_law_take.g D_law_take.F.kp (bi_law_take D_law_take) (ba_r 1 (pv 1) (ba_v be_int ba_nil))) be_int))
    (bss_cons (bs_set 4 c.nd (be_op ob_add be_int (be_call G_law_take (c.room.mono (by omega)) rfl D_law_take.g D_law_take.F.kp (bi_law_take D_law_take) (ba_r 1 (pv 1) (ba_v be_int ba_nil)))))
    (bss_cons (bs_if (bt_cmp ob_lt (be_var 2) be_int) (bss_one (bs_set 4 c.nd be_int)) bss_nil)
    (bss_cons (bs_if (bt_cmp (ob_eq c.units) (be_var 2) be_int) (bss_one (bs_set 3 c.nd (be_op (ob_div c.div) (be_op ob_mul (be_var 3) (be_call G_law_huge (c.room.mono (by omega)) rfl D_law_huge.g D_law_huge.F.kp (bi_law_huge D_law_huge) (ba_v (be_var 0) (ba_r 1 (pv 1) ba_nil)))) be_int))) bss_nil)
    (bss_cons (bs_if (bt_w (bw_or (bt_cmp (ob_eq c.units) (be_var 2) be_int) (bw_or1 (bt_cmp (ob_eq c.units) (be_var 2) be_int)))) (bss_one (bs_set 4 c.nd (be_op ob_add be_int (be_op (ob_div c.div) (be_call G_law_huge (c.room.mono (by omega)) rfl D_law_huge.g D_law_huge.F.kp (bi_law_huge D_law_huge) (ba_v (be_var 0) (ba_r 1 (pv 1) ba_nil))) be_int)))) bss_nil)
    (bss_one (bs_ret (be_call G_law_ratio (c.room.mono (by omega)) rfl D_law_ratio.g D_law_ratio.F.kp (bi_law_ratio D_law_ratio) (ba_v (be_var 3) (ba_v (be_var 4) ba_nil)))))))))))
abbrev s_law_drawn_table : Stmt := topS 43
theorem sc_law_drawn_table : FnScope ["script", "draws", "n", "many", "k", "outcome"] ["script", "draws", "n", "many"] (defScope s_law_drawn_table) := ⟨rfl, rfl, rfl, by decide +kernel, rfl, by decide +kernel, by decide +kernel⟩
theorem bi_law_drawn_table (D : Df K mg "_law_drawn_table" s_law_drawn_table) : Binds K D.fd ["script", "draws", "n", "many"] [] := D.F.binds (ps := ["script", "draws", "n", "many"]) fun _ _ _ _ _ _ us hl => match us, hl with | [_, _, _, _], _ => rfl
theorem ok_law_drawn_table (hs : base.NoSeer) (ht : P.given.tree = none) (D_law_drawn_table : Df K mg "_law_drawn_table" s_law_drawn_table) (D_law_drawn : Df K mg "_law_drawn" s_law_drawn) (G_law_drawn : FnOk P w K mg base CX0 (43) D_law_drawn.f D_law_drawn.fd ["script", "draws"] (spOf K 2 d_law_drawn)) (n_range : mg "range" = none) (n_tuple : mg "tuple" = none) : FnOk P w K mg base CX0 (44) D_law_drawn_table.f D_law_drawn_table.fd ["script", "draws", "n", "many"] (spOf K 4 d_law_drawn_table) :=
  ok_of D_law_drawn_table.F sc_law_drawn_table (by decide) hs ht fun cdv A outer s H E c =>
    (bss_one (bs_ret (be_t1 c_tuple rfl n_tuple bt_tuple (be_lcN 4 [("k", 4)] c.calm c.nd (bi_rng1 rfl n_range (be_var 3)) (blk_at (N := ["script", "draws", "n", "many", "k", "outcome"]) (sc := defScope s_law_drawn_table) rfl rfl (by decide +kernel)) (by decide) rfl (fun _ _ _ _ _ => pg_name (i := 4) c.nd rfl (.inl rfl)) (fun _ _ _ _ _ => bts_nil) (fun _ _ _ _ _ => (be_t1 c_tuple rfl n_tuple bt_tuple (be_lcN 5 [("outcome", 5)] c.calm c.nd (bi_rng1 rfl n_range (be_var 2)) (blk_in (N := ["script", "draws", "n", "many", "k", "outcome"]) (sc0 := defScope s_law_drawn_table) rfl rfl (by decide +kernel)) (by decide) rfl (fun _ _ _ _ _ => pg_name (i := 5) c.nd rfl (.inl rfl)) (fun _ _ _ _ _ => bts_nil) (fun _ _ _ _ _ => (be_call G_law_drawn (c.room.mono (by omega)) rfl D_law_drawn.g D_law_drawn.F.kp (bi_law_drawn D_law_drawn) (ba_v (be_var 0) (ba_r 1 (pv 1) ba_nil)))))))))))
abbrev s_law_side : Stmt := topS 44
theorem sc_law_side : FnScope ["table", "n", "bets", "told", "stakes", "chances"] ["table"] (defScope s_law_side) := ⟨rfl, rfl, rfl, by decide +kernel, rfl, by decide +kernel, by decide +kernel⟩
theorem bi_law_side (D : Df K mg "_law_side" s_law_side) : Binds K D.fd ["table"] [] := D.F.binds (ps := ["table"]) fun _ _ _ _ _ _ us hl => match us, hl with | [_], _ => rfl
theorem ok_law_side (hs : base.NoSeer) (ht : P.given.tree = none) (D_law_side : Df K mg "_law_side" s_law_side) (D_has_sure_bet : Df K mg "has_sure_bet" s_has_sure_bet) (G_has_sure_bet : FnOk P w K mg base CX0 (47) D_has_sure_bet.f D_has_sure_bet.fd ["table"] (spOf K 1 d_has_sure_bet)) (D_sure_bet : Df K mg "sure_bet" s_sure_bet) (G_sure_bet : FnOk P w K mg base CX0 (47) D_sure_bet.f D_sure_bet.fd ["table"] (spOf K 1 d_sure_bet)) (D_fair_chances : Df K mg "fair_chances" s_fair_chances) (G_fair_chances : FnOk P w K mg base CX0 (47) D_fair_chances.f D_fair_chances.fd ["table"] (spOf K 1 d_fair_chances)) (D_law_is_fair : Df K mg "_law_is_fair" s_law_is_fair) (G_law_is_fair : FnOk P w K mg base CX0 (45) D_law_is_fair.f D_law_is_fair.fd ["n", "bets", "chances"] (spOf K 3 d_law_is_fair)) (D_law_is_sure : Df K mg "_law_is_sure" s_law_is_sure) (G_law_is_sure : FnOk P w K mg base CX0 (45) D_law_is_sure.f D_law_is_sure.fd ["n", "bets", "stakes"] (spOf K 3 d_law_is_sure)) (n_bool : mg "bool" = none) (n_isinstance : mg "isinstance" = none) : FnOk P w K mg base CX0 (48) D_law_side.f D_law_side.fd ["table"] (spOf K 1 d_law_side) :=
  ok_of D_law_side.F sc_law_side (by decide) hs ht fun cdv A outer s H E c =>
    (bss_cons (bs_asg (be_var 0) (bg_tup c.calm (bgs_cons 1 c.nd (bgs_cons 2 c.nd bgs_nil))))
    (bss_cons (bs_set 3 c.nd (be_call G_has_sure_bet (c.room.mono (by omega)) rfl D_has_sure_bet.g D_has_sure_bet.F.kp (bi_has_sure_bet D_has_sure_bet) (ba_v (be_var 0) ba_nil)))
    (bss_cons (bs_set 4 c.nd (be_call G_sure_bet (c.room.mono (by omega)) rfl D_sure_bet.g D_sure_bet.F.kp (bi_sure_bet D_sure_bet) (ba_v (be_var 0) ba_nil)))
    (bss_cons (bs_set 5 c.nd (be_call G_fair_chances (c.room.mono (by omega)) rfl D_fair_chances.g D_fair_chances.F.kp (bi_fair_chances D_fair_chances) (ba_v (be_var 0) ba_nil)))
    (bss_cons (bs_if (bt_not (bt_tru (be_isi .bool rfl n_isinstance bt_isinstance rfl n_bool bt_bool (be_var 3)))) (bss_one (bs_ret be_non)) bss_nil)
    (bss_cons (bs_if (bt_tru (be_var 3)) (bss_cons (bs_if (bt_w (bw_or (bt_cmp ob_isNot (be_var 5) be_non) (bw_or1 (bt_not (bt_tru (be_call G_law_is_sure (c.room.mono (by omega)) rfl D_law_is_sure.g D_law_is_sure.F.kp (bi_law_is_sure D_law_is_sure) (ba_v (be_var 1) (ba_v (be_var 2) (ba_v (be_var 4) ba_nil))))))))) (bss_one (bs_ret be_non)) bss_nil)
    (bss_one (bs_ret be_bl))) bss_nil)
    (bss_cons (bs_if (bt_w (bw_or (bt_cmp ob_isNot (be_var 4) be_non) (bw_or1 (bt_not (bt_tru (be_call G_law_is_fair (c.room.mono (by omega)) rfl D_law_is_fair.g D_law_is_fair.F.kp (bi_law_is_fair D_law_is_fair) (ba_v (be_var 1) (ba_v (be_var 2) (ba_v (be_var 5) ba_nil))))))))) (bss_one (bs_ret be_non)) bss_nil)
    (bss_one (bs_ret be_bl)))))))))
abbrev s_law_k08 : Stmt := topS 45
theorem sc_law_k08 : FnScope ["script", "draws", "n", "many", "table", "side", "few", "gain", "step", "one", "other", "bets"] ["script"] (defScope s_law_k08) := ⟨rfl, rfl, rfl, by decide +kernel, rfl, by decide +kernel, by decide +kernel⟩
theorem bi_law_k08 (D : Df K mg "law" s_law_k08) : Binds K D.fd ["script"] [] := D.F.binds (ps := ["script"]) fun _ _ _ _ _ _ us hl => match us, hl with | [_], _ => rfl
theorem ok_law_k08 (hs : base.NoSeer) (ht : P.given.tree = none) (D_law_k08 : Df K mg "law" s_law_k08) (D_law_draws : Df K mg "_law_draws" s_law_draws) (G_law_draws : FnOk P w K mg base CX0 (41) D_law_draws.f D_law_draws.fd ["script", "many"] (spOf K 2 d_law_draws)) (D_law_take : Df K mg "_law_take" s_law_take) (G_law_take : FnOk P w K mg base CX0 (41) D_law_take.f D_law_take.fd ["draws", "many"] (spOf K 2 d_law_take)) (D_law_side : Df K mg "_law_side" s_law_side) (G_law_side : FnOk P w K mg base CX0 (48) D_law_side.f D_law_side.fd ["table"] (spOf K 1 d_law_side)) (D_law_drawn_table : Df K mg "_law_drawn_table" s_law_drawn_table) (G_law_drawn_table : FnOk P w K mg base CX0 (44) D_law_drawn_table.f D_law_drawn_table.fd ["script", "draws", "n", "many"] (spOf K 4 d_law_drawn_table)) (D_law_huge : Df K mg "_law_huge" s_law_huge) (G_law_huge : FnOk P w K mg base CX0 (42) D_law_huge.f D_law_huge.fd ["script", "draws"] (spOf K 2 d_law_huge)) : FnOk P w K mg base CX0 (49) D_law_k08.f D_law_k08.fd ["script"] (spOf K 1 d_law_k08) :=
  ok_of D_law_k08.F sc_law_k08 (by decide) hs ht fun cdv A outer s H E c =>
    (bss_cons (bs_set 1 c.nd (be_call G_law_draws (c.room.mono (by omega)) rfl D_law_draws.g D_law_draws.F.kp (bi_law_draws D_law_draws) (ba_v (be_var 0) (ba_v be_int ba_nil))))
    (bss_cons (bs_set 2 c.nd (be_op ob_add be_int (be_call G_law_take (c.room.mono (by omega)) rfl D_law_take.g D_law_take.F.kp (bi_law_take D_law_take) (ba_r 1 (pv 1) (ba_v be_int ba_nil)))))
    (bss_cons (bs_set 3 c.nd (be_call G_law_take (c.room.mono (by omega)) rfl D_law_take.g D_law_take.F.kp (bi_law_take D_law_take) (ba_r 1 (pv 1) (ba_v be_int ba_nil))))
    (bss_cons (bs_if (bt_cmp (ob_eq c.units) (be_call G_law_take (c.room.mono (by omega)) rfl D_law_take.g D_law_take.F.kp (bi_law_take D_law_take) (ba_r 1 (pv 1) (ba_v be_int ba_nil))) be_int) (bss_cons (bs_set 2 c.nd be_int)
    (bss_one (bs_set 3 c.nd be_int))) bss_nil)
    (bss_cons (bs_set 4 c.nd (be_tup (bl_cons (be_var 2) (bl_cons (be_call G_law_drawn_table (c.room.mono (by omega)) rfl D_law_drawn_table.g D_law_drawn_table.F.kp (bi_law_drawn_table D_law_drawn_table) (ba_v (be_var 0) (ba_r 1 (pv 1) (ba_v (be_var 2) (ba_v (be_var 3) ba_nil))))) bl_nil))))
    (bss_cons (bs_set 5 c.nd (be_call G_law_side (c.room.mono (by omega)) rfl D_law_side.g D_law_side.F.kp (bi_law_side D_law_side) (ba_v (be_var 4) ba_nil)))
    (bss_cons (bs_if (bt_cmp ob_is (be_var 5) be_non) (bss_one (bs_ret be_bl)) bss_nil)
    (bss_cons (bs_set 6 c.nd (be_op ob_add be_int (be_call G_law_take (c.room.mono (by omega)) rfl D_law_take.g D_law_take.F.kp (bi_law_take D_law_take) (ba_r 1 (pv 1) (ba_v be_int ba_nil)))))
    (bss_cons (bs_set 7 c.nd (be_op ob_add be_int (be_call G_law_take (c.room.mono (by omega)) rfl D_law_take.g D_law_take.F.kp (bi_law_take D_law_take) (ba_r 1 (pv 1) (ba_v be_int ba_nil)))))
    (bss_cons (bs_if (bt_cmp (ob_eq c.units) (be_call G_law_take (c.room.mono (by omega)) rfl D_law_take.g D_law_take.F.kp (bi_law_take D_law_take) (ba_r 1 (pv 1) (ba_v be_int ba_nil))) be_int) (bss_one (bs_set 7 c.nd (be_op ob_add (be_var 7) (be_op (ob_div c.div) (be_call G_law_huge (c.room.mono (by omega)) rfl D_law_huge.g D_law_huge.F.kp (bi_law_huge D_law_huge) (ba_v (be_var 0) (ba_r 1 (pv 1) ba_nil))) (be_op ob_pow be_int be_int))))) bss_nil)
    (bss_cons (bs_if (bt_w (bw_or (bt_cmp ob_isntB (be_call G_law_side (c.room.mono (by omega)) rfl D_law_side.g D_law_side.F.kp (bi_law_side D_law_side) (ba_v (be_tup (bl_cons (be_var 6) (bl_cons (be_tup bl_nil) bl_nil))) ba_nil)) be_bl) (bw_or1 (bt_cmp ob_isntB (be_call G_law_side (c.room.mono (by omega)) rfl D_law_side.g D_law_side.F.kp (bi_law_side D_law_side) (ba_v (be_tup (bl_cons (be_var 6) (bl_cons (be_tup (bl_cons (be_op ob_mul (be_tup (bl_cons (be_tup (bl_cons be_int (bl_cons be_int bl_nil))) bl_nil)) (be_var 6)) bl_nil)) bl_nil))) ba_nil)) be_bl)))) (bss_one (bs_ret be_bl)) bss_nil)
    (bss_cons (bs_if (bt_cmp ob_isntB (be_call G_law_side (c.room.mono (by omega)) rfl D_law_side.g D_law_side.F.kp (bi_law_side D_law_side) (ba_v (be_tup (bl_cons (be_var 6) (bl_cons (be_tup (bl_cons (be_op ob_mul (be_tup (bl_cons (be_tup (bl_cons be_int (bl_cons (be_var 7) bl_nil))) bl_nil)) (be_var 6)) bl_nil)) bl_nil))) ba_nil)) be_bl) (bss_one (bs_ret be_bl)) bss_nil)
    (bss_cons (bs_set 8 c.nd (be_op ob_sub (be_call G_law_take (c.room.mono (by omega)) rfl D_law_take.g D_law_take.F.kp (bi_law_take D_law_take) (ba_r 1 (pv 1) (ba_v be_int ba_nil))) be_int))
    (bss_cons (bs_set 9 c.nd (be_op ob_add (be_op ob_mul (be_tup (bl_cons (be_tup (bl_cons (be_var 7) (bl_cons be_int bl_nil))) bl_nil)) (be_op ob_sub (be_var 6) be_int)) (be_tup (bl_cons (be_tup (bl_cons (be_neg be_int) (bl_cons (be_var 7) bl_nil))) bl_nil))))
    (bss_cons (bs_set 10 c.nd (be_op ob_add (be_op ob_mul (be_tup (bl_cons (be_tup (bl_cons (be_op ob_sub (be_op ob_mul (be_neg (be_var 7)) (be_var 7)) (be_var 8)) (bl_cons be_int bl_nil))) bl_nil)) (be_op ob_sub (be_var 6) be_int)) (be_tup (bl_cons (be_tup (bl_cons be_int (bl_cons be_int bl_nil))) bl_nil))))
    (bss_cons (bs_set 11 c.nd (be_ix (be_lst (bl_cons (be_tup (bl_cons (be_var 9) (bl_cons (be_var 10) bl_nil))) (bl_cons (be_tup (bl_cons (be_var 10) (bl_cons (be_var 9) bl_nil))) bl_nil))) (be_call G_law_take (c.room.mono (by omega)) rfl D_law_take.g D_law_take.F.kp (bi_law_take D_law_take) (ba_r 1 (pv 1) (ba_v be_int ba_nil)))))
    (bss_cons (bs_if (bt_cmp ob_isntB (be_call G_law_side (c.room.mono (by omega)) rfl D_law_side.g D_law_side.F.kp (bi_law_side D_law_side) (ba_v (be_tup (bl_cons (be_var 6) (bl_cons (be_tup (bl_cons (be_var 9) bl_nil)) bl_nil))) ba_nil)) be_bl) (bss_one (bs_ret be_bl)) bss_nil)
    (bss_cons (bs_if (bt_w (bw_or (bt_cmp (ob_eq c.units) (be_var 6) be_int) (bw_or1 (bt_cmp (ob_eq c.units) (be_var 8) (be_neg be_int))))) (bss_one (bs_if (bt_cmp ob_isntB (be_call G_law_side (c.room.mono (by omega)) rfl D_law_side.g D_law_side.F.kp (bi_law_side D_law_side) (ba_v (be_tup (bl_cons (be_var 6) (bl_cons (be_var 11) bl_nil))) ba_nil)) be_bl) (bss_one (bs_ret be_bl)) bss_nil)) (bss_one (bs_if (bt_cmp ob_isntB (be_call G_law_side (c.room.mono (by omega)) rfl D_law_side.g D_law_side.F.kp (bi_law_side D_law_side) (ba_v (be_tup (bl_cons (be_var 6) (bl_cons (be_var 11) bl_nil))) ba_nil)) be_bl) (bss_one (bs_ret be_bl)) bss_nil)))
    (bss_one (bs_ret (be_cmp (ob_eq c.units) (be_call G_law_side (c.room.mono (by omega)) rfl D_law_side.g D_law_side.F.kp (bi_law_side D_law_side) (ba_v (be_var 4) ba_nil)) (be_var 5))))))))))))))))))))))
end
theorem all_mk {l : PySem.W.OpenLaw} {w : World} {K : PySem.W.Frag} {h : Heap} {mg : Str → Option Value} {fa f0 f1 f2 f3 f4 f5 f6 f7 f8 f9 f10 f11 f12 f13 f14 f15 f16 f17 f18 f19 f20 f21 f22 f23 f24 f25 f26 f27 f28 f29 f30 f31 f32 f33 f34 f35 f36 f37 f38 : Addr} {od0 an0 od1 an1 od2 an2 od3 an3 od4 an4 od5 an5 od6 an6 od7 an7 od8 an8 od9 an9 od10 an10 od11 an11 od12 an12 od13 an13 od14 an14 od15 an15 od16 an16 od17 an17 od18 an18 od19 an19 od20 an20 od21 an21 od22 an22 od23 an23 od24 an24 od25 an25 od26 an26 od27 an27 od28 an28 od29 an29 od30 an30 od31 an31 od32 an32 od33 an33 od34 an34 od35 an35 od36 an36 od37 an37 od38 an38 : Option Addr} {sl0 sl1 sl2 sl3 sl4 sl5 sl6 sl7 sl8 sl9 sl10 sl11 sl12 sl13 sl14 sl15 sl16 sl17 sl18 sl19 sl20 sl21 sl22 sl23 sl24 sl25 sl26 sl27 sl28 sl29 sl30 sl31 sl32 sl33 sl34 sl35 sl36 sl37 sl38 : Array (Option Value)} {oc0 kV0 dc0 pm0 cd0 ct0 oc1 kV1 dc1 pm1 cd1 ct1 oc2 kV2 dc2 pm2 cd2 ct2 oc3 kV3 dc3 pm3 cd3 ct3 oc4 kV4 dc4 pm4 cd4 ct4 oc5 kV5 dc5 pm5 cd5 ct5 oc6 kV6 dc6 pm6 cd6 ct6 oc7 kV7 dc7 pm7 cd7 ct7 oc8 kV8 dc8 pm8 cd8 ct8 oc9 kV9 dc9 pm9 cd9 ct9 oc10 kV10 dc10 pm10 cd10 ct10 oc11 kV11 dc11 pm11 cd11 ct11 oc12 kV12 dc12 pm12 cd12 ct12 oc13 kV13 dc13 pm13 cd13 ct13 oc14 kV14 dc14 pm14 cd14 ct14 oc15 kV15 dc15 pm15 cd15 ct15 oc16 kV16 dc16 pm16 cd16 ct16 oc17 kV17 dc17 pm17 cd17 ct17 oc18 kV18 dc18 pm18 cd18 ct18 oc19 kV19 dc19 pm19 cd19 ct19 oc20 kV20 dc20 pm20 cd20 ct20 oc21 kV21 dc21 pm21 cd21 ct21 oc22 kV22 dc22 pm22 cd22 ct22 oc23 kV23 dc23 pm23 cd23 ct23 oc24 kV24 dc24 pm24 cd24 ct24 oc25 kV25 dc25 pm25 cd25 ct25 oc26 kV26 dc26 pm26 cd26 ct26 oc27 kV27 dc27 pm27 cd27 ct27 oc28 kV28 dc28 pm28 cd28 ct28 oc29 kV29 dc29 pm29 cd29 ct29 oc30 kV30 dc30 pm30 cd30 ct30 oc31 kV31 dc31 pm31 cd31 ct31 oc32 kV32 dc32 pm32 cd32 ct32 oc33 kV33 dc33 pm33 cd33 ct33 oc34 kV34 dc34 pm34 cd34 ct34 oc35 kV35 dc35 pm35 cd35 ct35 oc36 kV36 dc36 pm36 cd36 ct36 oc37 kV37 dc37 pm37 cd37 ct37 oc38 kV38 dc38 pm38 cd38 ct38 : Value} {ca_NOTHING : Addr} {ct_NOTHING cu_NOTHING : Tok} {co_NOTHING : Option Addr} {cn_NOTHING : Nat} {cs_NOTHING : Array (Option Value)} {ca_ONE : Addr} {ct_ONE cu_ONE : Tok} {co_ONE : Option Addr} {cn_ONE : Nat} {cs_ONE : Array (Option Value)} (ht : l.prog.given.tree = none) (X : K.In h) (G : h.Ns mainGlobals mg) (hfa : mg "law" = some (.ref fa)) (a0 : PySem.W.nsIn K mainGlobals "divisor" = some (some (.ref f0))) (l0 : K.lookup f0 = some ⟨oc0, od0, .func (PySem.W.fnOf "divisor" "divisor" (defArgs s_divisor) (defBody s_divisor) (defScope s_divisor) .none kV0 dc0 pm0 an0 cd0 ct0), sl0⟩) (c0 : PySem.W.codeIn K cd0 "divisor" = true) (k0 : PySem.W.keepIn K (.ref f0) = true) (a1 : PySem.W.nsIn K mainGlobals "fraction" = some (some (.ref f1))) (l1 : K.lookup f1 = some ⟨oc1, od1, .func (PySem.W.fnOf "fraction" "fraction" (defArgs s_fraction) (defBody s_fraction) (defScope s_fraction) .none kV1 dc1 pm1 an1 cd1 ct1), sl1⟩) (c1 : PySem.W.codeIn K cd1 "fraction" = true) (k1 : PySem.W.keepIn K (.ref f1) = true) (a2 : PySem.W.nsIn K mainGlobals "plus" = some (some (.ref f2))) (l2 : K.lookup f2 = some ⟨oc2, od2, .func (PySem.W.fnOf "plus" "plus" (defArgs s_plus) (defBody s_plus) (defScope s_plus) .none kV2 dc2 pm2 an2 cd2 ct2), sl2⟩) (c2 : PySem.W.codeIn K cd2 "plus" = true) (k2 : PySem.W.keepIn K (.ref f2) = true) (a3 : PySem.W.nsIn K mainGlobals "minus" = some (some (.ref f3))) (l3 : K.lookup f3 = some ⟨oc3, od3, .func (PySem.W.fnOf "minus" "minus" (defArgs s_minus) (defBody s_minus) (defScope s_minus) .none kV3 dc3 pm3 an3 cd3 ct3), sl3⟩) (c3 : PySem.W.codeIn K cd3 "minus" = true) (k3 : PySem.W.keepIn K (.ref f3) = true) (a4 : PySem.W.nsIn K mainGlobals "times" = some (some (.ref f4))) (l4 : K.lookup f4 = some ⟨oc4, od4, .func (PySem.W.fnOf "times" "times" (defArgs s_times) (defBody s_times) (defScope s_times) .none kV4 dc4 pm4 an4 cd4 ct4), sl4⟩) (c4 : PySem.W.codeIn K cd4 "times" = true) (k4 : PySem.W.keepIn K (.ref f4) = true) (a5 : PySem.W.nsIn K mainGlobals "divided" = some (some (.ref f5))) (l5 : K.lookup f5 = some ⟨oc5, od5, .func (PySem.W.fnOf "divided" "divided" (defArgs s_divided) (defBody s_divided) (defScope s_divided) .none kV5 dc5 pm5 an5 cd5 ct5), sl5⟩) (c5 : PySem.W.codeIn K cd5 "divided" = true) (k5 : PySem.W.keepIn K (.ref f5) = true) (a6 : PySem.W.nsIn K mainGlobals "is_less" = some (some (.ref f6))) (l6 : K.lookup f6 = some ⟨oc6, od6, .func (PySem.W.fnOf "is_less" "is_less" (defArgs s_is_less) (defBody s_is_less) (defScope s_is_less) .none kV6 dc6 pm6 an6 cd6 ct6), sl6⟩) (c6 : PySem.W.codeIn K cd6 "is_less" = true) (k6 : PySem.W.keepIn K (.ref f6) = true) (a7 : PySem.W.nsIn K mainGlobals "total" = some (some (.ref f7))) (l7 : K.lookup f7 = some ⟨oc7, od7, .func (PySem.W.fnOf "total" "total" (defArgs s_total) (defBody s_total) (defScope s_total) .none kV7 dc7 pm7 an7 cd7 ct7), sl7⟩) (c7 : PySem.W.codeIn K cd7 "total" = true) (k7 : PySem.W.keepIn K (.ref f7) = true) (a8 : PySem.W.nsIn K mainGlobals "first_rows" = some (some (.ref f8))) (l8 : K.lookup f8 = some ⟨oc8, od8, .func (PySem.W.fnOf "first_rows" "first_rows" (defArgs s_first_rows) (defBody s_first_rows) (defScope s_first_rows) .none kV8 dc8 pm8 an8 cd8 ct8), sl8⟩) (c8 : PySem.W.codeIn K cd8 "first_rows" = true) (k8 : PySem.W.keepIn K (.ref f8) = true) (a9 : PySem.W.nsIn K mainGlobals "entering" = some (some (.ref f9))) (l9 : K.lookup f9 = some ⟨oc9, od9, .func (PySem.W.fnOf "entering" "entering" (defArgs s_entering) (defBody s_entering) (defScope s_entering) .none kV9 dc9 pm9 an9 cd9 ct9), sl9⟩) (c9 : PySem.W.codeIn K cd9 "entering" = true) (k9 : PySem.W.keepIn K (.ref f9) = true) (a10 : PySem.W.nsIn K mainGlobals "leaving" = some (some (.ref f10))) (l10 : K.lookup f10 = some ⟨oc10, od10, .func (PySem.W.fnOf "leaving" "leaving" (defArgs s_leaving) (defBody s_leaving) (defScope s_leaving) .none kV10 dc10 pm10 an10 cd10 ct10), sl10⟩) (c10 : PySem.W.codeIn K cd10 "leaving" = true) (k10 : PySem.W.keepIn K (.ref f10) = true) (a11 : PySem.W.nsIn K mainGlobals "without" = some (some (.ref f11))) (l11 : K.lookup f11 = some ⟨oc11, od11, .func (PySem.W.fnOf "without" "without" (defArgs s_without) (defBody s_without) (defScope s_without) .none kV11 dc11 pm11 an11 cd11 ct11), sl11⟩) (c11 : PySem.W.codeIn K cd11 "without" = true) (k11 : PySem.W.keepIn K (.ref f11) = true) (a12 : PySem.W.nsIn K mainGlobals "greatest_sum" = some (some (.ref f12))) (l12 : K.lookup f12 = some ⟨oc12, od12, .func (PySem.W.fnOf "greatest_sum" "greatest_sum" (defArgs s_greatest_sum) (defBody s_greatest_sum) (defScope s_greatest_sum) .none kV12 dc12 pm12 an12 cd12 ct12), sl12⟩) (c12 : PySem.W.codeIn K cd12 "greatest_sum" = true) (k12 : PySem.W.keepIn K (.ref f12) = true) (a13 : PySem.W.nsIn K mainGlobals "less_gains" = some (some (.ref f13))) (l13 : K.lookup f13 = some ⟨oc13, od13, .func (PySem.W.fnOf "less_gains" "less_gains" (defArgs s_less_gains) (defBody s_less_gains) (defScope s_less_gains) .none kV13 dc13 pm13 an13 cd13 ct13), sl13⟩) (c13 : PySem.W.codeIn K cd13 "less_gains" = true) (k13 : PySem.W.keepIn K (.ref f13) = true) (a14 : PySem.W.nsIn K mainGlobals "surest" = some (some (.ref f14))) (l14 : K.lookup f14 = some ⟨oc14, od14, .func (PySem.W.fnOf "surest" "surest" (defArgs s_surest) (defBody s_surest) (defScope s_surest) .none kV14 dc14 pm14 an14 cd14 ct14), sl14⟩) (c14 : PySem.W.codeIn K cd14 "surest" = true) (k14 : PySem.W.keepIn K (.ref f14) = true) (a15 : PySem.W.nsIn K mainGlobals "as_chances" = some (some (.ref f15))) (l15 : K.lookup f15 = some ⟨oc15, od15, .func (PySem.W.fnOf "as_chances" "as_chances" (defArgs s_as_chances) (defBody s_as_chances) (defScope s_as_chances) .none kV15 dc15 pm15 an15 cd15 ct15), sl15⟩) (c15 : PySem.W.codeIn K cd15 "as_chances" = true) (k15 : PySem.W.keepIn K (.ref f15) = true) (a16 : PySem.W.nsIn K mainGlobals "has_sure_bet" = some (some (.ref f16))) (l16 : K.lookup f16 = some ⟨oc16, od16, .func (PySem.W.fnOf "has_sure_bet" "has_sure_bet" (defArgs s_has_sure_bet) (defBody s_has_sure_bet) (defScope s_has_sure_bet) .none kV16 dc16 pm16 an16 cd16 ct16), sl16⟩) (c16 : PySem.W.codeIn K cd16 "has_sure_bet" = true) (k16 : PySem.W.keepIn K (.ref f16) = true) (a17 : PySem.W.nsIn K mainGlobals "sure_bet" = some (some (.ref f17))) (l17 : K.lookup f17 = some ⟨oc17, od17, .func (PySem.W.fnOf "sure_bet" "sure_bet" (defArgs s_sure_bet) (defBody s_sure_bet) (defScope s_sure_bet) .none kV17 dc17 pm17 an17 cd17 ct17), sl17⟩) (c17 : PySem.W.codeIn K cd17 "sure_bet" = true) (k17 : PySem.W.keepIn K (.ref f17) = true) (a18 : PySem.W.nsIn K mainGlobals "fair_chances" = some (some (.ref f18))) (l18 : K.lookup f18 = some ⟨oc18, od18, .func (PySem.W.fnOf "fair_chances" "fair_chances" (defArgs s_fair_chances) (defBody s_fair_chances) (defScope s_fair_chances) .none kV18 dc18 pm18 an18 cd18 ct18), sl18⟩) (c18 : PySem.W.codeIn K cd18 "fair_chances" = true) (k18 : PySem.W.keepIn K (.ref f18) = true) (a19 : PySem.W.nsIn K mainGlobals "_law_draws" = some (some (.ref f19))) (l19 : K.lookup f19 = some ⟨oc19, od19, .func (PySem.W.fnOf "_law_draws" "_law_draws" (defArgs s_law_draws) (defBody s_law_draws) (defScope s_law_draws) .none kV19 dc19 pm19 an19 cd19 ct19), sl19⟩) (c19 : PySem.W.codeIn K cd19 "_law_draws" = true) (k19 : PySem.W.keepIn K (.ref f19) = true) (a20 : PySem.W.nsIn K mainGlobals "_law_take" = some (some (.ref f20))) (l20 : K.lookup f20 = some ⟨oc20, od20, .func (PySem.W.fnOf "_law_take" "_law_take" (defArgs s_law_take) (defBody s_law_take) (defScope s_law_take) .none kV20 dc20 pm20 an20 cd20 ct20), sl20⟩) (c20 : PySem.W.codeIn K cd20 "_law_take" = true) (k20 : PySem.W.keepIn K (.ref f20) = true) (a21 : PySem.W.nsIn K mainGlobals "_law_cell" = some (some (.ref f21))) (l21 : K.lookup f21 = some ⟨oc21, od21, .func (PySem.W.fnOf "_law_cell" "_law_cell" (defArgs s_law_cell) (defBody s_law_cell) (defScope s_law_cell) .none kV21 dc21 pm21 an21 cd21 ct21), sl21⟩) (c21 : PySem.W.codeIn K cd21 "_law_cell" = true) (k21 : PySem.W.keepIn K (.ref f21) = true) (a22 : PySem.W.nsIn K mainGlobals "_law_huge" = some (some (.ref f22))) (l22 : K.lookup f22 = some ⟨oc22, od22, .func (PySem.W.fnOf "_law_huge" "_law_huge" (defArgs s_law_huge) (defBody s_law_huge) (defScope s_law_huge) .none kV22 dc22 pm22 an22 cd22 ct22), sl22⟩) (c22 : PySem.W.codeIn K cd22 "_law_huge" = true) (k22 : PySem.W.keepIn K (.ref f22) = true) (a23 : PySem.W.nsIn K mainGlobals "_law_divisor" = some (some (.ref f23))) (l23 : K.lookup f23 = some ⟨oc23, od23, .func (PySem.W.fnOf "_law_divisor" "_law_divisor" (defArgs s_law_divisor) (defBody s_law_divisor) (defScope s_law_divisor) .none kV23 dc23 pm23 an23 cd23 ct23), sl23⟩) (c23 : PySem.W.codeIn K cd23 "_law_divisor" = true) (k23 : PySem.W.keepIn K (.ref f23) = true) (a24 : PySem.W.nsIn K mainGlobals "_law_ratio" = some (some (.ref f24))) (l24 : K.lookup f24 = some ⟨oc24, od24, .func (PySem.W.fnOf "_law_ratio" "_law_ratio" (defArgs s_law_ratio) (defBody s_law_ratio) (defScope s_law_ratio) .none kV24 dc24 pm24 an24 cd24 ct24), sl24⟩) (c24 : PySem.W.codeIn K cd24 "_law_ratio" = true) (k24 : PySem.W.keepIn K (.ref f24) = true) (a25 : PySem.W.nsIn K mainGlobals "_law_dot" = some (some (.ref f25))) (l25 : K.lookup f25 = some ⟨oc25, od25, .func (PySem.W.fnOf "_law_dot" "_law_dot" (defArgs s_law_dot) (defBody s_law_dot) (defScope s_law_dot) .none kV25 dc25 pm25 an25 cd25 ct25), sl25⟩) (c25 : PySem.W.codeIn K cd25 "_law_dot" = true) (k25 : PySem.W.keepIn K (.ref f25) = true) (a26 : PySem.W.nsIn K mainGlobals "_law_is_integer" = some (some (.ref f26))) (l26 : K.lookup f26 = some ⟨oc26, od26, .func (PySem.W.fnOf "_law_is_integer" "_law_is_integer" (defArgs s_law_is_integer) (defBody s_law_is_integer) (defScope s_law_is_integer) .none kV26 dc26 pm26 an26 cd26 ct26), sl26⟩) (c26 : PySem.W.codeIn K cd26 "_law_is_integer" = true) (k26 : PySem.W.keepIn K (.ref f26) = true) (a27 : PySem.W.nsIn K mainGlobals "_law_is_fraction" = some (some (.ref f27))) (l27 : K.lookup f27 = some ⟨oc27, od27, .func (PySem.W.fnOf "_law_is_fraction" "_law_is_fraction" (defArgs s_law_is_fraction) (defBody s_law_is_fraction) (defScope s_law_is_fraction) .none kV27 dc27 pm27 an27 cd27 ct27), sl27⟩) (c27 : PySem.W.codeIn K cd27 "_law_is_fraction" = true) (k27 : PySem.W.keepIn K (.ref f27) = true) (a28 : PySem.W.nsIn K mainGlobals "_law_is_row" = some (some (.ref f28))) (l28 : K.lookup f28 = some ⟨oc28, od28, .func (PySem.W.fnOf "_law_is_row" "_law_is_row" (defArgs s_law_is_row) (defBody s_law_is_row) (defScope s_law_is_row) .none kV28 dc28 pm28 an28 cd28 ct28), sl28⟩) (c28 : PySem.W.codeIn K cd28 "_law_is_row" = true) (k28 : PySem.W.keepIn K (.ref f28) = true) (a29 : PySem.W.nsIn K mainGlobals "_law_none_below" = some (some (.ref f29))) (l29 : K.lookup f29 = some ⟨oc29, od29, .func (PySem.W.fnOf "_law_none_below" "_law_none_below" (defArgs s_law_none_below) (defBody s_law_none_below) (defScope s_law_none_below) .none kV29 dc29 pm29 an29 cd29 ct29), sl29⟩) (c29 : PySem.W.codeIn K cd29 "_law_none_below" = true) (k29 : PySem.W.keepIn K (.ref f29) = true) (a30 : PySem.W.nsIn K mainGlobals "_law_gained" = some (some (.ref f30))) (l30 : K.lookup f30 = some ⟨oc30, od30, .func (PySem.W.fnOf "_law_gained" "_law_gained" (defArgs s_law_gained) (defBody s_law_gained) (defScope s_law_gained) .none kV30 dc30 pm30 an30 cd30 ct30), sl30⟩) (c30 : PySem.W.codeIn K cd30 "_law_gained" = true) (k30 : PySem.W.keepIn K (.ref f30) = true) (a31 : PySem.W.nsIn K mainGlobals "_law_is_stakes" = some (some (.ref f31))) (l31 : K.lookup f31 = some ⟨oc31, od31, .func (PySem.W.fnOf "_law_is_stakes" "_law_is_stakes" (defArgs s_law_is_stakes) (defBody s_law_is_stakes) (defScope s_law_is_stakes) .none kV31 dc31 pm31 an31 cd31 ct31), sl31⟩) (c31 : PySem.W.codeIn K cd31 "_law_is_stakes" = true) (k31 : PySem.W.keepIn K (.ref f31) = true) (a32 : PySem.W.nsIn K mainGlobals "_law_is_sure" = some (some (.ref f32))) (l32 : K.lookup f32 = some ⟨oc32, od32, .func (PySem.W.fnOf "_law_is_sure" "_law_is_sure" (defArgs s_law_is_sure) (defBody s_law_is_sure) (defScope s_law_is_sure) .none kV32 dc32 pm32 an32 cd32 ct32), sl32⟩) (c32 : PySem.W.codeIn K cd32 "_law_is_sure" = true) (k32 : PySem.W.keepIn K (.ref f32) = true) (a33 : PySem.W.nsIn K mainGlobals "_law_is_chances" = some (some (.ref f33))) (l33 : K.lookup f33 = some ⟨oc33, od33, .func (PySem.W.fnOf "_law_is_chances" "_law_is_chances" (defArgs s_law_is_chances) (defBody s_law_is_chances) (defScope s_law_is_chances) .none kV33 dc33 pm33 an33 cd33 ct33), sl33⟩) (c33 : PySem.W.codeIn K cd33 "_law_is_chances" = true) (k33 : PySem.W.keepIn K (.ref f33) = true) (a34 : PySem.W.nsIn K mainGlobals "_law_is_fair" = some (some (.ref f34))) (l34 : K.lookup f34 = some ⟨oc34, od34, .func (PySem.W.fnOf "_law_is_fair" "_law_is_fair" (defArgs s_law_is_fair) (defBody s_law_is_fair) (defScope s_law_is_fair) .none kV34 dc34 pm34 an34 cd34 ct34), sl34⟩) (c34 : PySem.W.codeIn K cd34 "_law_is_fair" = true) (k34 : PySem.W.keepIn K (.ref f34) = true) (a35 : PySem.W.nsIn K mainGlobals "_law_drawn" = some (some (.ref f35))) (l35 : K.lookup f35 = some ⟨oc35, od35, .func (PySem.W.fnOf "_law_drawn" "_law_drawn" (defArgs s_law_drawn) (defBody s_law_drawn) (defScope s_law_drawn) .none kV35 dc35 pm35 an35 cd35 ct35), sl35⟩) (c35 : PySem.W.codeIn K cd35 "_law_drawn" = true) (k35 : PySem.W.keepIn K (.ref f35) = true) (a36 : PySem.W.nsIn K mainGlobals "_law_drawn_table" = some (some (.ref f36))) (l36 : K.lookup f36 = some ⟨oc36, od36, .func (PySem.W.fnOf "_law_drawn_table" "_law_drawn_table" (defArgs s_law_drawn_table) (defBody s_law_drawn_table) (defScope s_law_drawn_table) .none kV36 dc36 pm36 an36 cd36 ct36), sl36⟩) (c36 : PySem.W.codeIn K cd36 "_law_drawn_table" = true) (k36 : PySem.W.keepIn K (.ref f36) = true) (a37 : PySem.W.nsIn K mainGlobals "_law_side" = some (some (.ref f37))) (l37 : K.lookup f37 = some ⟨oc37, od37, .func (PySem.W.fnOf "_law_side" "_law_side" (defArgs s_law_side) (defBody s_law_side) (defScope s_law_side) .none kV37 dc37 pm37 an37 cd37 ct37), sl37⟩) (c37 : PySem.W.codeIn K cd37 "_law_side" = true) (k37 : PySem.W.keepIn K (.ref f37) = true) (a38 : PySem.W.nsIn K mainGlobals "law" = some (some (.ref f38))) (l38 : K.lookup f38 = some ⟨oc38, od38, .func (PySem.W.fnOf "law" "law" (defArgs s_law_k08) (defBody s_law_k08) (defScope s_law_k08) .none kV38 dc38 pm38 an38 cd38 ct38), sl38⟩) (c38 : PySem.W.codeIn K cd38 "law" = true) (k38 : PySem.W.keepIn K (.ref f38) = true) (z_abs : PySem.W.nsIn K mainGlobals "abs" = some none) (z_bool : PySem.W.nsIn K mainGlobals "bool" = some none) (z_int : PySem.W.nsIn K mainGlobals "int" = some none) (z_isinstance : PySem.W.nsIn K mainGlobals "isinstance" = some none) (z_len : PySem.W.nsIn K mainGlobals "len" = some none) (z_list : PySem.W.nsIn K mainGlobals "list" = some none) (z_range : PySem.W.nsIn K mainGlobals "range" = some none) (z_tuple : PySem.W.nsIn K mainGlobals "tuple" = some none) (y_gcd : PySem.W.nsIn K mainGlobals "gcd" = some (some (.builtin "math.gcd"))) (q_NOTHING : PySem.W.nsIn K mainGlobals "NOTHING" = some (some (.ref ca_NOTHING))) (r_NOTHING : K.lookup ca_NOTHING = some ⟨.type "tuple", co_NOTHING, .seq #[.int 0 ct_NOTHING, .int 1 cu_NOTHING] cn_NOTHING, cs_NOTHING⟩) (q_ONE : PySem.W.nsIn K mainGlobals "ONE" = some (some (.ref ca_ONE))) (r_ONE : K.lookup ca_ONE = some ⟨.type "tuple", co_ONE, .seq #[.int 1 ct_ONE, .int 1 cu_ONE] cn_ONE, cs_ONE⟩) :
    ∃ fd : FuncData, (∀ (s : Shared) (v : Value), BindsTo s fd ⟨[v], []⟩ [("script", v)]) ∧ ∀ base : Heap, K.In base → base.Ns mainGlobals mg → base.NoSeer → FnOk l.prog w K mg base CX0 49 fa fd ["script"] (spOf K 1 d_law_k08) := by
  have e := hfa.symm.trans (PySem.W.mg_of X G a38)
  cases e
  let D_divisor : Df K mg "divisor" s_divisor := ⟨f0, _, fun_mk l0 c0 k0, PySem.W.mg_of X G a0⟩
  let D_fraction : Df K mg "fraction" s_fraction := ⟨f1, _, fun_mk l1 c1 k1, PySem.W.mg_of X G a1⟩
  let D_plus : Df K mg "plus" s_plus := ⟨f2, _, fun_mk l2 c2 k2, PySem.W.mg_of X G a2⟩
  let D_minus : Df K mg "minus" s_minus := ⟨f3, _, fun_mk l3 c3 k3, PySem.W.mg_of X G a3⟩
  let D_times : Df K mg "times" s_times := ⟨f4, _, fun_mk l4 c4 k4, PySem.W.mg_of X G a4⟩
  let D_divided : Df K mg "divided" s_divided := ⟨f5, _, fun_mk l5 c5 k5, PySem.W.mg_of X G a5⟩
  let D_is_less : Df K mg "is_less" s_is_less := ⟨f6, _, fun_mk l6 c6 k6, PySem.W.mg_of X G a6⟩
  let D_total : Df K mg "total" s_total := ⟨f7, _, fun_mk l7 c7 k7, PySem.W.mg_of X G a7⟩
  let D_first_rows : Df K mg "first_rows" s_first_rows := ⟨f8, _, fun_mk l8 c8 k8, PySem.W.mg_of X G a8⟩
  let D_entering : Df K mg "entering" s_entering := ⟨f9, _, fun_mk l9 c9 k9, PySem.W.mg_of X G a9⟩
  let D_leaving : Df K mg "leaving" s_leaving := ⟨f10, _, fun_mk l10 c10 k10, PySem.W.mg_of X G a10⟩
  let D_without : Df K mg "without" s_without := ⟨f11, _, fun_mk l11 c11 k11, PySem.W.mg_of X G a11⟩
  let D_greatest_sum : Df K mg "greatest_sum" s_greatest_sum := ⟨f12, _, fun_mk l12 c12 k12, PySem.W.mg_of X G a12⟩
  let D_less_gains : Df K mg "less_gains" s_less_gains := ⟨f13, _, fun_mk l13 c13 k13, PySem.W.mg_of X G a13⟩
  let D_surest : Df K mg "surest" s_surest := ⟨f14, _, fun_mk l14 c14 k14, PySem.W.mg_of X G a14⟩
  let D_as_chances : Df K mg "as_chances" s_as_chances := ⟨f15, _, fun_mk l15 c15 k15, PySem.W.mg_of X G a15⟩
  let D_has_sure_bet : Df K mg "has_sure_bet" s_has_sure_bet := ⟨f16, _, fun_mk l16 c16 k16, PySem.W.mg_of X G a16⟩
  let D_sure_bet : Df K mg "sure_bet" s_sure_bet := ⟨f17, _, fun_mk l17 c17 k17, PySem.W.mg_of X G a17⟩
  let D_fair_chances : Df K mg "fair_chances" s_fair_chances := ⟨f18, _, fun_mk l18 c18 k18, PySem.W.mg_of X G a18⟩
  let D_law_draws : Df K mg "_law_draws" s_law_draws := ⟨f19, _, fun_mk l19 c19 k19, PySem.W.mg_of X G a19⟩
  let D_law_take : Df K mg "_law_take" s_law_take := ⟨f20, _, fun_mk l20 c20 k20, PySem.W.mg_of X G a20⟩
  let D_law_cell : Df K mg "_law_cell" s_law_cell := ⟨f21, _, fun_mk l21 c21 k21, PySem.W.mg_of X G a21⟩
  let D_law_huge : Df K mg "_law_huge" s_law_huge := ⟨f22, _, fun_mk l22 c22 k22, PySem.W.mg_of X G a22⟩
  let D_law_divisor : Df K mg "_law_divisor" s_law_divisor := ⟨f23, _, fun_mk l23 c23 k23, PySem.W.mg_of X G a23⟩
  let D_law_ratio : Df K mg "_law_ratio" s_law_ratio := ⟨f24, _, fun_mk l24 c24 k24, PySem.W.mg_of X G a24⟩
  let D_law_dot : Df K mg "_law_dot" s_law_dot := ⟨f25, _, fun_mk l25 c25 k25, PySem.W.mg_of X G a25⟩
  let D_law_is_integer : Df K mg "_law_is_integer" s_law_is_integer := ⟨f26, _, fun_mk l26 c26 k26, PySem.W.mg_of X G a26⟩
  let D_law_is_fraction : Df K mg "_law_is_fraction" s_law_is_fraction := ⟨f27, _, fun_mk l27 c27 k27, PySem.W.mg_of X G a27⟩
  let D_law_is_row : Df K mg "_law_is_row" s_law_is_row := ⟨f28, _, fun_mk l28 c28 k28, PySem.W.mg_of X G a28⟩
  let D_law_none_below : Df K mg "_law_none_below" s_law_none_below := ⟨f29, _, fun_mk l29 c29 k29, PySem.W.mg_of X G a29⟩
  let D_law_gained : Df K mg "_law_gained" s_law_gained := ⟨f30, _, fun_mk l30 c30 k30, PySem.W.mg_of X G a30⟩
  let D_law_is_stakes : Df K mg "_law_is_stakes" s_law_is_stakes := ⟨f31, _, fun_mk l31 c31 k31, PySem.W.mg_of X G a31⟩
  let D_law_is_sure : Df K mg "_law_is_sure" s_law_is_sure := ⟨f32, _, fun_mk l32 c32 k32, PySem.W.mg_of X G a32⟩
  let D_law_is_chances : Df K mg "_law_is_chances" s_law_is_chances := ⟨f33, _, fun_mk l33 c33 k33, PySem.W.mg_of X G a33⟩
  let D_law_is_fair : Df K mg "_law_is_fair" s_law_is_fair := ⟨f34, _, fun_mk l34 c34 k34, PySem.W.mg_of X G a34⟩
  let D_law_drawn : Df K mg "_law_drawn" s_law_drawn := ⟨f35, _, fun_mk l35 c35 k35, PySem.W.mg_of X G a35⟩
  let D_law_drawn_table : Df K mg "_law_drawn_table" s_law_drawn_table := ⟨f36, _, fun_mk l36 c36 k36, PySem.W.mg_of X G a36⟩
  let D_law_side : Df K mg "_law_side" s_law_side := ⟨f37, _, fun_mk l37 c37 k37, PySem.W.mg_of X G a37⟩
  let D_law_k08 : Df K mg "law" s_law_k08 := ⟨fa, _, fun_mk l38 c38 k38, PySem.W.mg_of X G a38⟩
  have n_abs := PySem.W.mg_none_of X G z_abs
  have n_bool := PySem.W.mg_none_of X G z_bool
  have n_int := PySem.W.mg_none_of X G z_int
  have n_isinstance := PySem.W.mg_none_of X G z_isinstance
  have n_len := PySem.W.mg_none_of X G z_len
  have n_list := PySem.W.mg_none_of X G z_list
  have n_range := PySem.W.mg_none_of X G z_range
  have n_tuple := PySem.W.mg_none_of X G z_tuple
  have v_gcd := PySem.W.mg_of X G y_gcd
  let TNOTHING := ct_mk X G q_NOTHING r_NOTHING
  let TONE := ct_mk X G q_ONE r_ONE
  refine ⟨D_law_k08.fd, fun s v => .of_eq rfl, fun base _ _ hs => ?_⟩
  have G_divisor := ok_divisor (P := l.prog) (w := w) (base := base) hs ht D_divisor v_gcd
  have G_fraction := ok_fraction (P := l.prog) (w := w) (base := base) hs ht D_fraction D_divisor G_divisor
  have G_plus := ok_plus (P := l.prog) (w := w) (base := base) hs ht D_plus D_fraction G_fraction
  have G_minus := ok_minus (P := l.prog) (w := w) (base := base) hs ht D_minus D_fraction G_fraction
  have G_times := ok_times (P := l.prog) (w := w) (base := base) hs ht D_times D_fraction G_fraction
  have G_divided := ok_divided (P := l.prog) (w := w) (base := base) hs ht D_divided D_fraction G_fraction
  have G_is_less := ok_is_less (P := l.prog) (w := w) (base := base) hs ht D_is_less
  have G_total := ok_total (P := l.prog) (w := w) (base := base) hs ht D_total D_plus G_plus TNOTHING
  have G_first_rows := ok_first_rows (P := l.prog) (w := w) (base := base) hs ht D_first_rows n_len n_list n_range TNOTHING TONE
  have G_entering := ok_entering (P := l.prog) (w := w) (base := base) hs ht D_entering D_is_less G_is_less n_len n_range TNOTHING
  have G_leaving := ok_leaving (P := l.prog) (w := w) (base := base) hs ht D_leaving D_is_less G_is_less D_divided G_divided n_len n_range TNOTHING
  have G_without := ok_without (P := l.prog) (w := w) (base := base) hs ht D_without D_times G_times D_minus G_minus n_len n_range TNOTHING
  have G_greatest_sum := ok_greatest_sum (P := l.prog) (w := w) (base := base) hs ht D_greatest_sum D_first_rows G_first_rows D_entering G_entering D_leaving G_leaving D_without G_without D_minus G_minus D_divided G_divided n_len n_range TNOTHING
  have G_less_gains := ok_less_gains (P := l.prog) (w := w) (base := base) hs ht D_less_gains D_minus G_minus TNOTHING
  have G_surest := ok_surest (P := l.prog) (w := w) (base := base) hs ht D_surest D_greatest_sum G_greatest_sum D_less_gains G_less_gains n_len n_range n_tuple TNOTHING TONE
  have G_as_chances := ok_as_chances (P := l.prog) (w := w) (base := base) hs ht D_as_chances D_total G_total D_divided G_divided n_tuple
  have G_has_sure_bet := ok_has_sure_bet (P := l.prog) (w := w) (base := base) hs ht D_has_sure_bet D_is_less G_is_less D_surest G_surest TNOTHING
  have G_sure_bet := ok_sure_bet (P := l.prog) (w := w) (base := base) hs ht D_sure_bet D_surest G_surest D_is_less G_is_less TNOTHING
  have G_fair_chances := ok_fair_chances (P := l.prog) (w := w) (base := base) hs ht D_fair_chances D_surest G_surest D_is_less G_is_less D_as_chances G_as_chances TNOTHING
  have G_law_draws := ok_law_draws (P := l.prog) (w := w) (base := base) hs ht D_law_draws n_int n_len n_list n_range
  have G_law_take := ok_law_take (P := l.prog) (w := w) (base := base) hs ht D_law_take n_int n_len
  have G_law_cell := ok_law_cell (P := l.prog) (w := w) (base := base) hs ht D_law_cell n_int n_len
  have G_law_huge := ok_law_huge (P := l.prog) (w := w) (base := base) hs ht D_law_huge D_law_take G_law_take D_law_cell G_law_cell n_int
  have G_law_divisor := ok_law_divisor (P := l.prog) (w := w) (base := base) hs ht D_law_divisor n_abs n_int
  have G_law_ratio := ok_law_ratio (P := l.prog) (w := w) (base := base) hs ht D_law_ratio D_law_divisor G_law_divisor
  have G_law_dot := ok_law_dot (P := l.prog) (w := w) (base := base) hs ht D_law_dot D_law_ratio G_law_ratio n_len n_range
  have G_law_is_integer := ok_law_is_integer (P := l.prog) (w := w) (base := base) hs ht D_law_is_integer n_bool n_int n_isinstance
  have G_law_is_fraction := ok_law_is_fraction (P := l.prog) (w := w) (base := base) hs ht D_law_is_fraction D_law_divisor G_law_divisor D_law_is_integer G_law_is_integer n_isinstance n_len n_tuple
  have G_law_is_row := ok_law_is_row (P := l.prog) (w := w) (base := base) hs ht D_law_is_row D_law_is_fraction G_law_is_fraction n_isinstance n_len n_tuple
  have G_law_none_below := ok_law_none_below (P := l.prog) (w := w) (base := base) hs ht D_law_none_below
  have G_law_gained := ok_law_gained (P := l.prog) (w := w) (base := base) hs ht D_law_gained D_law_dot G_law_dot n_range n_tuple
  have G_law_is_stakes := ok_law_is_stakes (P := l.prog) (w := w) (base := base) hs ht D_law_is_stakes D_law_is_row G_law_is_row D_law_none_below G_law_none_below
  have G_law_is_sure := ok_law_is_sure (P := l.prog) (w := w) (base := base) hs ht D_law_is_sure D_law_gained G_law_gained D_law_is_stakes G_law_is_stakes n_len
  have G_law_is_chances := ok_law_is_chances (P := l.prog) (w := w) (base := base) hs ht D_law_is_chances D_law_dot G_law_dot D_law_is_row G_law_is_row D_law_none_below G_law_none_below
  have G_law_is_fair := ok_law_is_fair (P := l.prog) (w := w) (base := base) hs ht D_law_is_fair D_law_is_chances G_law_is_chances D_law_dot G_law_dot
  have G_law_drawn := ok_law_drawn (P := l.prog) (w := w) (base := base) hs ht D_law_drawn D_law_take G_law_take D_law_ratio G_law_ratio D_law_huge G_law_huge
  have G_law_drawn_table := ok_law_drawn_table (P := l.prog) (w := w) (base := base) hs ht D_law_drawn_table D_law_drawn G_law_drawn n_range n_tuple
  have G_law_side := ok_law_side (P := l.prog) (w := w) (base := base) hs ht D_law_side D_has_sure_bet G_has_sure_bet D_sure_bet G_sure_bet D_fair_chances G_fair_chances D_law_is_fair G_law_is_fair D_law_is_sure G_law_is_sure n_bool n_isinstance
  exact ok_law_k08 (P := l.prog) (w := w) (base := base) hs ht D_law_k08 D_law_draws G_law_draws D_law_take G_law_take D_law_side G_law_side D_law_drawn_table G_law_drawn_table D_law_huge G_law_huge
end Law_k08
open PySem PySem.W PyProof.Rows
set_option maxHeartbeats 0 in
theorem PySem.Challenge.cw_nosurebet_k08_told_stakes_and_chances_holds : PySem.Challenge.rw_nosurebet_k08_told_stakes_and_chances.Holds := by
  w_on; o_law; k_head; (case hw => w_witness2)
  k_fill
  refine Py.walk_py (l := PySem.Challenge.rw_nosurebet_k08_told_stakes_and_chances) (n := 63) (k := 49) (x := "script") (d := D.d_law_k08) rfl (by decide) rfl ⟨rfl, by decide, by decide⟩ (by rfl) (fun w h Y => PySem.W.kIn_of Y) ?F Law_k08.holds
  case F =>
    intro w mg fa h KX G hmg
    refine' Law_k08.all_mk rfl KX G hmg ?a0 ?l0 ?c0 ?k0 ?a1 ?l1 ?c1 ?k1 ?a2 ?l2 ?c2 ?k2 ?a3 ?l3 ?c3 ?k3 ?a4 ?l4 ?c4 ?k4 ?a5 ?l5 ?c5 ?k5 ?a6 ?l6 ?c6 ?k6 ?a7 ?l7 ?c7 ?k7 ?a8 ?l8 ?c8 ?k8 ?a9 ?l9 ?c9 ?k9 ?a10 ?l10 ?c10 ?k10 ?a11 ?l11 ?c11 ?k11 ?a12 ?l12 ?c12 ?k12 ?a13 ?l13 ?c13 ?k13 ?a14 ?l14 ?c14 ?k14 ?a15 ?l15 ?c15 ?k15 ?a16 ?l16 ?c16 ?k16 ?a17 ?l17 ?c17 ?k17 ?a18 ?l18 ?c18 ?k18 ?a19 ?l19 ?c19 ?k19 ?a20 ?l20 ?c20 ?k20 ?a21 ?l21 ?c21 ?k21 ?a22 ?l22 ?c22 ?k22 ?a23 ?l23 ?c23 ?k23 ?a24 ?l24 ?c24 ?k24 ?a25 ?l25 ?c25 ?k25 ?a26 ?l26 ?c26 ?k26 ?a27 ?l27 ?c27 ?k27 ?a28 ?l28 ?c28 ?k28 ?a29 ?l29 ?c29 ?k29 ?a30 ?l30 ?c30 ?k30 ?a31 ?l31 ?c31 ?k31 ?a32 ?l32 ?c32 ?k32 ?a33 ?l33 ?c33 ?k33 ?a34 ?l34 ?c34 ?k34 ?a35 ?l35 ?c35 ?k35 ?a36 ?l36 ?c36 ?k36 ?a37 ?l37 ?c37 ?k37 ?a38 ?l38 ?c38 ?k38 ?z_abs ?z_bool ?z_int ?z_isinstance ?z_len ?z_list ?z_range ?z_tuple ?y_gcd ?q_NOTHING ?r_NOTHING ?q_ONE ?r_ONE
    (case a0 => k_is); (case l0 => k_is); (case c0 => k_is); (case k0 => k_is); (case a1 => k_is); (case l1 => k_is); (case c1 => k_is); (case k1 => k_is); (case a2 => k_is); (case l2 => k_is); (case c2 => k_is); (case k2 => k_is); (case a3 => k_is); (case l3 => k_is); (case c3 => k_is); (case k3 => k_is); (case a4 => k_is); (case l4 => k_is); (case c4 => k_is); (case k4 => k_is); (case a5 => k_is); (case l5 => k_is); (case c5 => k_is); (case k5 => k_is); (case a6 => k_is); (case l6 => k_is); (case c6 => k_is); (case k6 => k_is); (case a7 => k_is); (case l7 => k_is); (case c7 => k_is); (case k7 => k_is); (case a8 => k_is); (case l8 => k_is); (case c8 => k_is); (case k8 => k_is); (case a9 => k_is); (case l9 => k_is); (case c9 => k_is); (case k9 => k_is); (case a10 => k_is); (case l10 => k_is); (case c10 => k_is); (case k10 => k_is); (case a11 => k_is); (case l11 => k_is); (case c11 => k_is); (case k11 => k_is); (case a12 => k_is); (case l12 => k_is); (case c12 => k_is); (case k12 => k_is); (case a13 => k_is); (case l13 => k_is); (case c13 => k_is); (case k13 => k_is); (case a14 => k_is); (case l14 => k_is); (case c14 => k_is); (case k14 => k_is); (case a15 => k_is); (case l15 => k_is); (case c15 => k_is); (case k15 => k_is); (case a16 => k_is); (case l16 => k_is); (case c16 => k_is); (case k16 => k_is); (case a17 => k_is); (case l17 => k_is); (case c17 => k_is); (case k17 => k_is); (case a18 => k_is); (case l18 => k_is); (case c18 => k_is); (case k18 => k_is); (case a19 => k_is); (case l19 => k_is); (case c19 => k_is); (case k19 => k_is); (case a20 => k_is); (case l20 => k_is); (case c20 => k_is); (case k20 => k_is); (case a21 => k_is); (case l21 => k_is); (case c21 => k_is); (case k21 => k_is); (case a22 => k_is); (case l22 => k_is); (case c22 => k_is); (case k22 => k_is); (case a23 => k_is); (case l23 => k_is); (case c23 => k_is); (case k23 => k_is); (case a24 => k_is); (case l24 => k_is); (case c24 => k_is); (case k24 => k_is); (case a25 => k_is); (case l25 => k_is); (case c25 => k_is); (case k25 => k_is); (case a26 => k_is); (case l26 => k_is); (case c26 => k_is); (case k26 => k_is); (case a27 => k_is); (case l27 => k_is); (case c27 => k_is); (case k27 => k_is); (case a28 => k_is); (case l28 => k_is); (case c28 => k_is); (case k28 => k_is); (case a29 => k_is); (case l29 => k_is); (case c29 => k_is); (case k29 => k_is); (case a30 => k_is); (case l30 => k_is); (case c30 => k_is); (case k30 => k_is); (case a31 => k_is); (case l31 => k_is); (case c31 => k_is); (case k31 => k_is); (case a32 => k_is); (case l32 => k_is); (case c32 => k_is); (case k32 => k_is); (case a33 => k_is); (case l33 => k_is); (case c33 => k_is); (case k33 => k_is); (case a34 => k_is); (case l34 => k_is); (case c34 => k_is); (case k34 => k_is); (case a35 => k_is); (case l35 => k_is); (case c35 => k_is); (case k35 => k_is); (case a36 => k_is); (case l36 => k_is); (case c36 => k_is); (case k36 => k_is); (case a37 => k_is); (case l37 => k_is); (case c37 => k_is); (case k37 => k_is); (case a38 => k_is); (case l38 => k_is); (case c38 => k_is); (case k38 => k_is); (case z_abs => k_is); (case z_bool => k_is); (case z_int => k_is); (case z_isinstance => k_is); (case z_len => k_is); (case z_list => k_is); (case z_range => k_is); (case z_tuple => k_is); (case y_gcd => k_is); (case q_NOTHING => k_is); (case r_NOTHING => k_is); (case q_ONE => k_is); (case r_ONE => k_is)
