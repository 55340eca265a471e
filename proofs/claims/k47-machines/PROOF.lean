import PyProof.Rows.All
import PyProof.Rows.Walk
import PyProof.EqLayable
import HandS.ForMost
import HandS.EndBits
import HandS.Gcd
import HandS.Wide
import HandS.IsInst
import HandS.TupAny
import HandS.SortInts
import HandS.TupMul
import HandS.TupLe
import HandS.Deep
import HandS.Iter
import HandS.Style
import HandS.Conv
import HandS.Small
import HandS.More
import HandS.Dict
import KE.IntBitsLaws
import PySem.Challenge.RW_nosurebet_k47_whole_machines_make_their
set_option Elab.async false
set_option linter.all false
set_option maxRecDepth 100000
set_option maxHeartbeats 2000000
/-! Py0: slots and the meanings of the pieces of a text, without a heap. Values are PyData. -/
namespace Py
open PySem

abbrev PV := PyData
abbrev Key := Sum Int Str

/-- what may be changed -/
inductive Ob where
  | lst (xs : List PV) | dct (kvs : List (Key × PV))
/-- what a name holds: a value, an object of its own, a caller's object -/
inductive Sl where
  | val (v : PV) | own (o : Ob) | ref (o : Ob) | lck (kvs : List (Key × PV))
/-- what an expression gives: a value, a new object, the object of a name -/
inductive R where
  | val (v : PV) | new (o : Ob) | bor (i : Nat)
/-- what a result holds when it is looked at -/
inductive Ct where
  | pv (v : PV) | ob (o : Ob)

abbrev Env := List (Option Sl)
abbrev M := Env → Option (R × Env)
abbrev MT := Env → Option (Bool × Env)
inductive Fl where
  | nx | rt (r : R) | bk | ct
abbrev SM := Env → Option (Fl × Env)
/-- a target, a row of targets -/
abbrev MG := R → Env → Option Env
/-- what a for walks: the items, and the environment while it walks -/
abbrev MI := Env → Option (List PV × Env)
abbrev ML := Env → Option (List PV × Env)

def line : Nat := 16777216

def Ct.lst? : Ct → Option (List PV)
  | .pv (.list xs) => some xs
  | .ob (.lst xs) => some xs
  | _ => none
def Ct.tup? : Ct → Option (List PV)
  | .pv (.tuple xs) => some xs
  | _ => none
def Ct.seq? : Ct → Option (List PV)
  | .pv (.list xs) => some xs
  | .pv (.tuple xs) => some xs
  | .ob (.lst xs) => some xs
  | _ => none
def Sl.ct : Sl → Ct
  | .val v => .pv v
  | .own o => .ob o
  | .ref o => .ob o
  | .lck kvs => .ob (.dct kvs)
def get (ρ : Env) (i : Nat) : Option Sl := (ρ[i]?).getD none
def look : R → Env → Option Ct
  | .val v, _ => some (.pv v)
  | .new o, _ => some (.ob o)
  | .bor i, ρ => (get ρ i).map Sl.ct
/-- made a value that is never changed again -/
def frzO : Ob → Option PV
  | .lst xs => some (.list xs)
  | .dct _ => none
def frz : R → Env → Option (PV × Env)
  | .val v, ρ => some (v, ρ)
  | .new o, ρ => (frzO o).map fun v => (v, ρ)
  | .bor i, ρ => match get ρ i with
    | some (.val v) => some (v, ρ)
    | some (.own o) => (frzO o).map fun v => (v, ρ.set i (some (.val v)))
    | _ => none
def isRef : Option Sl → Bool
  | some (.ref _) => true
  | some (.lck _) => true
  | _ => false
/-- stored at a name that holds no caller's object -/
def put (i : Nat) (s : Option Sl) (ρ : Env) : Option Env := if isRef (get ρ i) then none else some (ρ.set i s)
def forget : List Nat → Env → Env
  | [], ρ => ρ
  | i :: r, ρ => if isRef (get (forget r ρ) i) then forget r ρ else (forget r ρ).set i none

/-! ### expressions -/
def mC (v : PV) : M := fun ρ => some (.val v, ρ)
def mVar (i : Nat) : M := fun ρ => match get ρ i with
  | some (.val v) => some (.val v, ρ)
  | some (.own _) => some (.bor i, ρ)
  | some (.ref _) => some (.bor i, ρ)
  | some (.lck _) => some (.bor i, ρ)
  | none => none
def mOp (f : Ct → Ct → Option R) (a b : M) : M := fun ρ =>
  (a ρ).bind fun x => (b x.2).bind fun y => (look x.1 y.2).bind fun cx => (look y.1 y.2).bind fun cy => (f cx cy).map fun z => (z, y.2)
def mUn (f : Ct → Option R) (a : M) : M := fun ρ =>
  (a ρ).bind fun x => (look x.1 x.2).bind fun cx => (f cx).map fun z => (z, x.2)
def boolOf : Ct → Option Bool
  | .pv (.bool b) => some b
  | _ => none
/-- a test by its value, a bool -/
def mB (a : M) : MT := fun ρ => (a ρ).bind fun x => (look x.1 x.2).bind fun cx => (boolOf cx).map fun b => (b, x.2)
def truOf : Ct → Option Bool
  | .pv .none => some false
  | .pv (.bool b) => some b
  | .pv (.int i) => some (i != 0)
  | .pv (.tuple xs) => some !xs.isEmpty
  | .pv (.list xs) => some !xs.isEmpty
  | .ob (.lst xs) => some !xs.isEmpty
  | _ => none
/-- a test by its value's truth -/
def mTru (a : M) : MT := fun ρ => (a ρ).bind fun x => (look x.1 x.2).bind fun cx => (truOf cx).map fun b => (b, x.2)
def mAnd (a b : MT) : MT := fun ρ => (a ρ).bind fun x => if x.1 then b x.2 else some (false, x.2)
def mOr (a b : MT) : MT := fun ρ => (a ρ).bind fun x => if x.1 then some (true, x.2) else b x.2
def mNot (a : MT) : MT := fun ρ => (a ρ).bind fun x => some (!x.1, x.2)
/-- and, or, not as values (of bools) -/
def mAndV (a b : M) : M := fun ρ => (a ρ).bind fun x => (look x.1 x.2).bind fun cx => (boolOf cx).bind fun k => if k then b x.2 else some (.val (.bool false), x.2)
def mOrV (a b : M) : M := fun ρ => (a ρ).bind fun x => (look x.1 x.2).bind fun cx => (boolOf cx).bind fun k => if k then some (.val (.bool true), x.2) else b x.2
def mNotV (a : M) : M := fun ρ => (a ρ).bind fun x => (look x.1 x.2).bind fun cx => (boolOf cx).bind fun k => some (.val (.bool (!k)), x.2)
def mIfE (t : MT) (a b : M) : M := fun ρ => (t ρ).bind fun x => if x.1 then a x.2 else b x.2
/-- a op b op' c, of values -/
def mChain (f g : Ct → Ct → Option R) (a b c : M) : M := fun ρ =>
  (a ρ).bind fun x => (b x.2).bind fun y => (look x.1 y.2).bind fun cx => (look y.1 y.2).bind fun cy => (f cx cy).bind fun z => (look z y.2).bind fun cz => (boolOf cz).bind fun k =>
    if k then (c y.2).bind fun w => (look y.1 w.2).bind fun cy => (look w.1 w.2).bind fun cw => (g cy cw).map fun z => (z, w.2) else some (.val (.bool false), y.2)
/-- a name's list given away as a value -/
def mFrz (a : M) : M := fun ρ => (a ρ).bind fun x => (frz x.1 x.2).map fun v => (.val v.1, v.2)
def lNil : ML := fun ρ => some ([], ρ)
def lCons (a : M) (r : ML) : ML := fun ρ => (a ρ).bind fun x => (frz x.1 x.2).bind fun v => (r v.2).map fun vs => (v.1 :: vs.1, vs.2)
def mTup (l : ML) : M := fun ρ => (l ρ).bind fun vs => if vs.1.length ≤ line then some (.val (.tuple vs.1), vs.2) else none
def mLst (l : ML) : M := fun ρ => (l ρ).bind fun vs => if vs.1.length ≤ line then some (.new (.lst vs.1), vs.2) else none
def mDct0 : M := fun ρ => some (.new (.dct []), ρ)

/-! ### operators by content -/
def fAdd : Ct → Ct → Option R
  | .pv (.int a), .pv (.int b) => some (.val (.int (a + b)))
  | .pv (.str a), .pv (.str b) => if a.length + b.length ≤ line then some (.val (.str (a ++ b))) else none
  | .pv (.tuple xs), .pv (.tuple ys) => if xs.length + ys.length ≤ line then some (.val (.tuple (xs ++ ys))) else none
  | .ob (.lst xs), .ob (.lst ys) => if xs.length + ys.length ≤ line then some (.new (.lst (xs ++ ys))) else none
  | _, _ => none
def fSub : Ct → Ct → Option R
  | .pv (.int a), .pv (.int b) => some (.val (.int (a - b)))
  | _, _ => none
/-- the bits of both factors together within the line -/
def mulOk (a b : Int) : Bool := decide (a.natAbs.log2 + b.natAbs.log2 < 100000000)
def fMul : Ct → Ct → Option R
  | .pv (.int a), .pv (.int b) => if mulOk a b then some (.val (.int (a * b))) else none
  | .pv (.tuple xs), .pv (.int k) => if -(2 ^ 62) < k ∧ k ≤ 1000 ∧ xs.length ≤ 1000 then some (.val (.tuple (List.replicate k.toNat xs).flatten)) else none
  | .ob (.lst xs), .pv (.int k) => if xs.length * k.toNat ≤ line ∧ k < 2 ^ 62 ∧ -(2 ^ 62) < k then some (.new (.lst (List.replicate k.toNat xs).flatten)) else none
  | _, _ => none
def fDiv : Ct → Ct → Option R
  | .pv (.int a), .pv (.int b) => if b = 0 then none else some (.val (.int (a.fdiv b)))
  | _, _ => none
def fMod : Ct → Ct → Option R
  | .pv (.int a), .pv (.int b) => if b = 0 then none else some (.val (.int (a.fmod b)))
  | _, _ => none
def fPow : Ct → Ct → Option R
  | .pv (.int a), .pv (.int b) => if 0 ≤ b ∧ b ≤ 1000000 ∧ a.natAbs < 2 ^ 64 then some (.val (.int (a ^ b.toNat))) else none
  | _, _ => none
def fNeg : Ct → Option R
  | .pv (.int a) => some (.val (.int (-a)))
  | _ => none
def cI (p : Int → Int → Bool) : Ct → Ct → Option R
  | .pv (.int a), .pv (.int b) => some (.val (.bool (p a b)))
  | _, _ => none
def fLt := cI fun a b => decide (a < b)
def fLe := cI fun a b => decide (a ≤ b)
def fGt := cI fun a b => decide (b < a)
def fGe := cI fun a b => decide (b ≤ a)
def eqD (neg : Bool) : Ct → Ct → Option R
  | .pv (.int a), .pv (.int b) => some (.val (.bool (neg ^^ decide (a = b))))
  | .pv (.bool a), .pv (.bool b) => some (.val (.bool (neg ^^ (a == b))))
  | .pv (.str a), .pv (.str b) => some (.val (.bool (neg ^^ decide (a = b))))
  | .pv d, .pv e => if SeqAt.shaped d = true ∧ SeqAt.shaped e = true then some (.val (.bool (neg ^^ PyData.eqv d e))) else none
  | _, _ => none
def fEq := eqD false
def fNe := eqD true
def isNone : PV → Bool
  | .none => true
  | _ => false
/-- is None (the right side None) -/
def fIs (neg : Bool) : Ct → Ct → Option R
  | .pv v, .pv .none => some (.val (.bool (neg ^^ isNone v)))
  | .ob _, .pv .none => some (.val (.bool neg))
  | _, _ => none
/-- the place of an index -/
def ixN (n : Nat) (i : Int) : Option Nat := if 0 ≤ i then (if i < n then some i.toNat else none) else if -(n : Int) ≤ i then some (i + n).toNat else none
def atI (xs : List PV) (i : Int) : Option PV := (ixN xs.length i).bind fun j => xs[j]?
def keyOf : PV → Option Key
  | .int i => some (.inl i)
  | .str x => some (.inr x)
  | _ => none
def dGet (kvs : List (Key × PV)) (k : Key) : Option PV := (kvs.find? fun kv => decide (kv.1 = k)).map (·.2)
def dPut (kvs : List (Key × PV)) (k : Key) (v : PV) : List (Key × PV) :=
  if (kvs.find? fun kv => decide (kv.1 = k)).isSome then kvs.map fun kv => if kv.1 = k then (k, v) else kv else kvs ++ [(k, v)]
def fIx : Ct → Ct → Option R
  | .pv (.tuple xs), .pv (.int i) => (atI xs i).map .val
  | .pv (.list xs), .pv (.int i) => (atI xs i).map .val
  | .ob (.lst xs), .pv (.int i) => (atI xs i).map .val
  | .pv (.str x), .pv (.int i) => if x.length ≤ line then ((ixN x.length i).bind fun j => x.cps[j]?).map fun c => .val (.str ⟨#[c]⟩) else none
  | _, _ => none
/-! slices -/
def sIx (n d : Nat) : Option Int → Nat
  | none => d
  | some i => if i < 0 then (i + n).toNat else min i.toNat n
def cut {α : Type} (xs : List α) (lo hi : Option Int) : List α := (xs.drop (sIx xs.length 0 lo)).take (sIx xs.length xs.length hi - sIx xs.length 0 lo)
abbrev MO := Env → Option (Option Int × Env)
def oNone : MO := fun ρ => some (none, ρ)
def intOf : Ct → Option Int
  | .pv (.int i) => some i
  | _ => none
def oSome (a : M) : MO := fun ρ => (a ρ).bind fun x => (look x.1 x.2).bind fun c => (intOf c).map fun i => (some i, x.2)
def fSl (lo hi : Option Int) : Ct → Option R
  | .pv (.tuple xs) => some (.val (.tuple (cut xs lo hi)))
  | .pv (.list xs) => some (.new (.lst (cut xs lo hi)))
  | .ob (.lst xs) => some (.new (.lst (cut xs lo hi)))
  | _ => none
def mSl (a : M) (l h : MO) : M := fun ρ => (a ρ).bind fun x => (l x.2).bind fun i => (h i.2).bind fun j => (look x.1 j.2).bind fun c => (fSl i.1 j.1 c).map fun z => (z, j.2)

/-! ### built-ins by content -/
def fLen : Ct → Option R
  | .pv (.tuple xs) => some (.val (.int xs.length))
  | .pv (.list xs) => some (.val (.int xs.length))
  | .pv (.str x) => if x.length ≤ line then some (.val (.int x.length)) else none
  | .ob (.lst xs) => some (.val (.int xs.length))
  | _ => none
def fInt : Ct → Option R
  | .pv (.int i) => some (.val (.int i))
  | .pv (.bool b) => some (.val (.int (if b then 1 else 0)))
  | _ => none
def fAbs : Ct → Option R
  | .pv (.int i) => some (.val (.int i.natAbs))
  | _ => none
def fMin2 : Ct → Ct → Option R
  | .pv (.int i), .pv (.int j) => some (.val (.int (if j < i then j else i)))
  | _, _ => none
def fMax2 : Ct → Ct → Option R
  | .pv (.int i), .pv (.int j) => some (.val (.int (if j > i then j else i)))
  | _, _ => none
def fGcd : Ct → Ct → Option R
  | .pv (.int i), .pv (.int j) => some (.val (.int (Int.gcd i j)))
  | _, _ => none
def fTuple : Ct → Option R
  | .pv (.tuple xs) => some (.val (.tuple xs))
  | .pv (.list xs) => some (.val (.tuple xs))
  | .ob (.lst xs) => some (.val (.tuple xs))
  | _ => none
def fList : Ct → Option R
  | .pv (.tuple xs) => some (.new (.lst xs))
  | .pv (.list xs) => some (.new (.lst xs))
  | .ob (.lst xs) => some (.new (.lst xs))
  | _ => none
def intV? : PV → Option Int
  | .int i => some i
  | _ => none
def boolV? : PV → Option Bool
  | .bool b => some b
  | _ => none
def ints? (xs : List PV) : Option (List Int) := xs.mapM intV?
def bools? (xs : List PV) : Option (List Bool) := xs.mapM boolV?
def fSum (c : Ct) : Option R := c.lst?.bind fun xs => (ints? xs).map fun ns => .val (.int ns.sum)
def fAll (c : Ct) : Option R := c.lst?.bind fun xs => (bools? xs).map fun bs => .val (.bool (bs.all id))
def fAny (c : Ct) : Option R := c.lst?.bind fun xs => (bools? xs).map fun bs => .val (.bool (bs.any id))
def maxL : List Int → Int
  | [] => 0
  | x :: r => r.foldl max x
def minL : List Int → Int
  | [] => 0
  | x :: r => r.foldl min x
def fMax (c : Ct) : Option R := c.lst?.bind fun xs => (ints? xs).bind fun ns => if ns = [] then none else some (.val (.int (maxL ns)))
def fMin (c : Ct) : Option R := c.lst?.bind fun xs => (ints? xs).bind fun ns => if ns = [] then none else some (.val (.int (minL ns)))
def isort (ns : List Int) : List Int := ns.mergeSort fun a b => decide (a ≤ b)
def fSorted (c : Ct) : Option R := c.lst?.bind fun xs => (ints? xs).map fun ns => .new (.lst ((isort ns).map .int))
/-- += of ints and texts -/
def fIAdd : Ct → Ct → Option R
  | .pv (.int a), .pv (.int b) => some (.val (.int (a + b)))
  | .pv (.str a), .pv (.str b) => if a.length + b.length ≤ line then some (.val (.str (a ++ b))) else none
  | _, _ => none
def fMulI : Ct → Ct → Option R
  | .pv (.int a), .pv (.int b) => if mulOk a b then some (.val (.int (a * b))) else none
  | _, _ => none
/-- the types that isinstance is asked of -/
inductive Ty where
  | bool | int | str | tuple
def isTy : Ty → PV → Bool
  | .bool, .bool _ => true
  | .int, .int _ => true
  | .int, .bool _ => true
  | .str, .str _ => true
  | .tuple, .tuple _ => true
  | _, _ => false
def fIsi (t : Ty) : Ct → Option R
  | .pv v => some (.val (.bool (isTy t v)))
  | .ob (.lst _) => some (.val (.bool false))
  | .ob (.dct _) => none

/-! ### statements -/
def sNext : SM := fun ρ => some (.nx, ρ)
def sSeq (a b : SM) : SM := fun ρ => (a ρ).bind fun x => match x.1 with
  | .nx => b x.2
  | f => some (f, x.2)
def sBrk : SM := fun ρ => some (.bk, ρ)
def sCont : SM := fun ρ => some (.ct, ρ)
def sRet (a : M) : SM := fun ρ => (a ρ).map fun x => (.rt x.1, x.2)
def sRetN : SM := fun ρ => some (.rt (.val .none), ρ)
def sIf (t : MT) (a b : SM) : SM := fun ρ => (t ρ).bind fun x => if x.1 then a x.2 else b x.2
def sExpr (a : M) : SM := fun ρ => (a ρ).map fun x => (.nx, x.2)
/-- what a name holds behind a store: a list of another name becomes a value of both -/
def gName (i : Nat) : MG := fun r ρ => match r with
  | .val v => put i (some (.val v)) ρ
  | .new o => put i (some (.own o)) ρ
  | .bor j => (frz (.bor j) ρ).bind fun v => put i (some (.val v.1)) v.2
def gNames : List Nat → List PV → Env → Option Env
  | [], [], ρ => some ρ
  | i :: is, v :: vs, ρ => (put i (some (.val v)) ρ).bind fun ρ1 => gNames is vs ρ1
  | _, _, _ => none
/-- a, b = t (a tuple) -/
def gTup (is : List Nat) : MG := fun r ρ => match r with
  | .val (.tuple xs) => gNames is xs ρ
  | _ => none
def sAsg (a : M) (g : MG) : SM := fun ρ => (a ρ).bind fun x => (g x.1 x.2).map fun ρ' => (.nx, ρ')
def sPar (i j : Nat) (a b : M) : SM := fun ρ => (a ρ).bind fun x => (frz x.1 x.2).bind fun v => (b v.2).bind fun y => (frz y.1 y.2).bind fun w =>
  (put i (some (.val v.1)) w.2).bind fun ρ1 => (put j (some (.val w.1)) ρ1).map fun ρ2 => (.nx, ρ2)
/-- an object of a name -/
def obAt (ρ : Env) (i : Nat) : Option Ob := match get ρ i with
  | some (.own o) => some o
  | some (.ref o) => some o
  | _ => none
def lstAt (ρ : Env) (i : Nat) : Option (List PV) := match obAt ρ i with
  | some (.lst xs) => some xs
  | _ => none
def setOb (ρ : Env) (i : Nat) (o : Ob) : Env := match get ρ i with
  | some (.ref _) => ρ.set i (some (.ref o))
  | some (.lck _) => ρ.set i (some (.ref o))
  | _ => ρ.set i (some (.own o))
/-- xs.append(e) -/
def mAppend (i : Nat) (a : M) : M := fun ρ => (lstAt ρ i).bind fun _ => (a ρ).bind fun x => (frz x.1 x.2).bind fun v => (lstAt v.2 i).bind fun xs =>
  if xs.length < line then some (.val .none, setOb v.2 i (.lst (xs ++ [v.1]))) else none
/-- xs.pop() -/
def mPop (i : Nat) : M := fun ρ => (lstAt ρ i).bind fun xs => (xs.getLast?).map fun v => (.val v, setOb ρ i (.lst xs.dropLast))
/-- xs.pop(e) -/
def mPopAt (i : Nat) (a : M) : M := fun ρ => (lstAt ρ i).bind fun _ => (a ρ).bind fun x => (look x.1 x.2).bind fun c => (intOf c).bind fun k => (lstAt x.2 i).bind fun xs =>
  if -(2 ^ 62) < k ∧ k < 2 ^ 62 then (ixN xs.length k).bind fun j => (xs[j]?).map fun v => (.val v, setOb x.2 i (.lst (xs.eraseIdx j))) else none
/-- xs.reverse() -/
def mReverse (i : Nat) : M := fun ρ => (lstAt ρ i).map fun xs => (.val .none, setOb ρ i (.lst xs.reverse))
/-- xs[e] = v -/
def sSetIx (i : Nat) (e : M) (a : M) : SM := fun ρ => (a ρ).bind fun x => (frz x.1 x.2).bind fun v => (lstAt v.2 i).bind fun _ => (e v.2).bind fun y => (look y.1 y.2).bind fun c => (intOf c).bind fun k => (lstAt y.2 i).bind fun xs =>
  (ixN xs.length k).map fun j => (.nx, setOb y.2 i (.lst (xs.set j v.1)))
/-- name op= e, of values -/
def sAug (i : Nat) (f : Ct → Ct → Option R) (a : M) : SM := fun ρ => (get ρ i).bind fun s => match s with
  | .val v => (a ρ).bind fun x => (look x.1 x.2).bind fun c => (f (.pv v) c).bind fun z => match z with
    | .val w => (put i (some (.val w)) x.2).map fun ρ' => (.nx, ρ')
    | _ => none
  | _ => none
/-- xs += e, a list -/
def sAugL (i : Nat) (a : M) : SM := fun ρ => (lstAt ρ i).bind fun _ => (a ρ).bind fun x => match x.1 with
  | .new (.lst ys) => (lstAt x.2 i).bind fun xs => if xs.length + ys.length ≤ line then some (.nx, setOb x.2 i (.lst (xs ++ ys))) else none
  | _ => none

/-! ### loops -/
def iSeq (a : M) : MI := fun ρ => (a ρ).bind fun x => match x.1 with
  | .val (.list xs) => some (xs, x.2)
  | .val (.tuple xs) => some (xs, x.2)
  | .new (.lst xs) => some (xs, x.2)
  | _ => none
/-- a name's own list, which the body doesn't see -/
def iHide (i : Nat) : MI := fun ρ => (lstAt ρ i).map fun xs => (xs, ρ.set i none)
def rangeL (lo : Int) (n : Nat) : List PV := (List.range n).map fun (k : Nat) => .int (lo + (k : Int))
def iRng1 (a : M) : MI := fun ρ => (a ρ).bind fun x => (look x.1 x.2).bind fun c => (intOf c).bind fun n => if n ≤ line ∧ -(2 ^ 62) ≤ n then some (rangeL 0 n.toNat, x.2) else none
def iRng2 (a b : M) : MI := fun ρ => (a ρ).bind fun x => (look x.1 x.2).bind fun c => (intOf c).bind fun lo => (b x.2).bind fun y => (look y.1 y.2).bind fun d => (intOf d).bind fun hi =>
  if -(2 ^ 61) ≤ lo ∧ lo < 2 ^ 61 ∧ -(2 ^ 61) ≤ hi ∧ hi < 2 ^ 61 ∧ (hi - lo) ≤ line then some (rangeL lo (hi - lo).toNat, y.2) else none
def loopF (g : MG) (b : SM) : List PV → SM
  | [], ρ => some (.nx, ρ)
  | x :: xs, ρ => (g (.val x) ρ).bind fun ρ1 => (b ρ1).bind fun y => match y.1 with
    | .nx => loopF g b xs y.2
    | .ct => loopF g b xs y.2
    | .bk => some (.nx, y.2)
    | .rt r => some (.rt r, y.2)
def sFor (it : MI) (g : MG) (b : SM) : SM := fun ρ => (it ρ).bind fun xs => loopF g b xs.1 xs.2
/-- for over a name's own list: the name holds it again behind the loop -/
def sForH (i : Nat) (g : MG) (b : SM) : SM := fun ρ => (get ρ i).bind fun s => (iHide i ρ).bind fun xs => (loopF g b xs.1 xs.2).bind fun y => match get y.2 i with
  | none => some (y.1, y.2.set i (some s))
  | _ => none
def whileF (t : MT) (b : SM) : Nat → SM
  | 0, _ => none
  | n + 1, ρ => (t ρ).bind fun x => if x.1 then (b x.2).bind fun y => match y.1 with
      | .nx => whileF t b n y.2
      | .ct => whileF t b n y.2
      | .bk => some (.nx, y.2)
      | .rt r => some (.rt r, y.2)
    else some (.nx, x.2)
open Classical in
noncomputable def sWhile (t : MT) (b : SM) : SM := fun ρ => if h : ∃ n, (whileF t b n ρ).isSome = true then whileF t b h.choose ρ else none
/-- names that are not read any more -/
def sFgt (is : List Nat) (a : SM) : SM := fun ρ => (a ρ).map fun x => match x.1 with
  | .rt r => (.rt r, x.2)
  | f => (f, forget is x.2)

/-! ### comprehensions -/
def wipe (ρ : Env) : List Nat → Env
  | [] => ρ
  | i :: r => (wipe ρ r).set i none
def back (ρ0 : Env) : List Nat → Env → Env
  | [], ρ => ρ
  | i :: r, ρ => (back ρ0 r ρ).set i (get ρ0 i)
def lcF (f : PV → Env → Option (List PV × Env)) : List PV → Env → Option (List PV × Env)
  | [], ρ => some ([], ρ)
  | x :: xs, ρ => (f x ρ).bind fun y => (lcF f xs y.2).map fun z => (y.1 ++ z.1, z.2)
def tYes : MT := fun ρ => some (true, ρ)
def lcTurn (g : MG) (vs : List Nat) (t : MT) (e : M) (x : PV) (ρ : Env) : Option (List PV × Env) :=
  (g (.val x) (wipe ρ vs)).bind fun ρ1 => (t ρ1).bind fun b => if b.1 then (e b.2).bind fun r => (frz r.1 r.2).map fun v => ([v.1], v.2) else some ([], b.2)
def mLc (it : MI) (g : MG) (vs : List Nat) (t : MT) (e : M) : M := fun ρ => (it ρ).bind fun xs => if xs.1.length ≤ line then
  (lcF (lcTurn g vs t e) xs.1 xs.2).map fun y => (.new (.lst y.1), back xs.2 vs y.2) else none

/-! ### defs -/
abbrev Den := List Sl → Option (R × List Ob)
def leave : R → Env → Option R
  | .val v, _ => some (.val v)
  | .new o, _ => some (.new o)
  | .bor i, ρ => match get ρ i with
    | some (.val v) => some (.val v)
    | some (.own o) => some (.new o)
    | _ => none
/-- the callers' objects behind the call -/
def outs : List Sl → Env → Option (List Ob)
  | [], _ => some []
  | .ref _ :: as, some (.ref o) :: ρ => (outs as ρ).map (o :: ·)
  | .ref _ :: _, _ => none
  | .val _ :: as, _ :: ρ => outs as ρ
  | _, _ => none
def startE (n : Nat) (as : List Sl) : Env := as.map some ++ List.replicate (n - as.length) none
def mkDen (n : Nat) (body : SM) : Den := fun as => (body (startE n as)).bind fun x => match x.1 with
  | .nx => (outs as x.2).map fun os => (.val .none, os)
  | .rt r => (leave r x.2).bind fun r' => (outs as x.2).map fun os => (r', os)
  | _ => none
/-- an argument: a value, or a name's object handed on -/
inductive Ag where
  | v (a : M) | r (i : Nat)
def agsEval : List Ag → Env → Option (List Sl × Env)
  | [], ρ => some ([], ρ)
  | .v a :: r, ρ => (a ρ).bind fun x => (frz x.1 x.2).bind fun v => (agsEval r v.2).map fun z => (.val v.1 :: z.1, z.2)
  | .r i :: r, ρ => (obAt ρ i).bind fun _ => (agsEval r ρ).bind fun z => (obAt z.2 i).map fun o => (.ref o :: z.1, z.2)
def refsOf : List Ag → List Nat
  | [] => []
  | .v _ :: r => refsOf r
  | .r i :: r => i :: refsOf r
def setObs : List Nat → List Ob → Env → Env
  | i :: is, o :: os, ρ => setObs is os (setOb ρ i o)
  | _, _, ρ => ρ
def mCall (d : Den) (as : List Ag) : M := fun ρ => (agsEval as ρ).bind fun z => if (refsOf as).Nodup then (d z.1).map fun y => (y.1, setObs (refsOf as) y.2 z.2) else none
end Py
/-! Py1: what binds the meanings of Py0 to the readings of the hand layer. -/
namespace Py
open PySem PySem.Spec PyProof.Rows L2

abbrev Ex (H H' : Hp) : Prop := ∀ a o, H a = some o → H' a = some o
theorem ex_rd {H H' : Hp} {a : Addr} {u : HO} (e : Ex H H') (h : Rd H a u) : Rd H' a u := by
  rcases h with h | ⟨o, h⟩
  · exact .inl (e a _ h)
  · exact .inr ⟨o, e a _ h⟩
theorem ex_l {K : PySem.W.Frag} {H H' : Hp} {a : Addr} {xs : List V} (e : Ex H H') (h : SqL K H a xs) : SqL K H' a xs := by
  rcases h with h | h
  · exact .inl (ex_rd e h)
  · exact .inr h
theorem ex_t {K : PySem.W.Frag} {H H' : Hp} {a : Addr} {xs : List V} (e : Ex H H') (h : SqT K H a xs) : SqT K H' a xs := by
  rcases h with h | h
  · exact .inl (ex_rd e h)
  · exact .inr h
mutual
theorem dp_mono {K : PySem.W.Frag} {H H' : Hp} (e : Ex H H') : ∀ (d : PyData) (v : V), Dp K H v d → Dp K H' v d
  | .none, _, h => by cases h; exact .non
  | .bool b, _, h => by cases h; exact .bl b
  | .int i, _, h => by cases h; exact .int i
  | .str x, _, h => by cases h; exact .str x
  | .list ds, _, h => by
    cases h with
    | lst hs ha => exact .lst (ex_l e hs) (dps_mono e ds _ ha)
  | .tuple ds, _, h => by
    cases h with
    | tup hs ha => exact .tup (ex_t e hs) (dps_mono e ds _ ha)
  | .dict _, _, h => by cases h
theorem dps_mono {K : PySem.W.Frag} {H H' : Hp} (e : Ex H H') : ∀ (ds : List PyData) (vs : List V), DpAll K H vs ds → DpAll K H' vs ds
  | [], _, h => by cases h; exact .nil
  | d :: ds, _, h => by
    cases h with
    | cons h1 h2 => exact .cons (dp_mono e d _ h1) (dps_mono e ds _ h2)
end
section
variable {K : PySem.W.Frag} {H H' : Hp}
theorem dps_len : ∀ {vs : List V} {ds : List PyData}, DpAll K H vs ds → vs.length = ds.length
  | _, _, .nil => rfl
  | _, _, .cons _ t => by simp [dps_len t]
theorem dps_get : ∀ {vs : List V} {ds : List PyData} {i : Nat} {d : PyData}, DpAll K H vs ds → ds[i]? = some d → ∃ v, vs[i]? = some v ∧ Dp K H v d
  | _, _, _, _, .nil, e => by simp at e
  | _, _, 0, _, .cons r _, e => by simp at e; subst e; exact ⟨_, rfl, r⟩
  | _, _, i + 1, d, .cons _ t, e => by
    obtain ⟨v, h1, h2⟩ := dps_get (i := i) (d := d) t (by simpa using e)
    exact ⟨v, by simpa using h1, h2⟩
theorem dps_app : ∀ {vs ws : List V} {ds es : List PyData}, DpAll K H vs ds → DpAll K H ws es → DpAll K H (vs ++ ws) (ds ++ es)
  | _, _, _, _, .nil, s => s
  | _, _, _, _, .cons r t, s => .cons r (dps_app t s)
theorem dps_take : ∀ {vs : List V} {ds : List PyData} (n : Nat), DpAll K H vs ds → DpAll K H (vs.take n) (ds.take n)
  | _, _, 0, _ => .nil
  | _, _, _ + 1, .nil => .nil
  | _, _, n + 1, .cons r t => .cons r (dps_take n t)
theorem dps_drop : ∀ {vs : List V} {ds : List PyData} (n : Nat), DpAll K H vs ds → DpAll K H (vs.drop n) (ds.drop n)
  | _, _, 0, r => r
  | _, _, _ + 1, .nil => .nil
  | _, _, n + 1, .cons _ t => dps_drop n t
theorem dps_set {v : V} {d : PyData} (r : Dp K H v d) : ∀ {vs : List V} {ds : List PyData} (i : Nat), DpAll K H vs ds → DpAll K H (vs.set i v) (ds.set i d)
  | _, _, _, .nil => .nil
  | _, _, 0, .cons _ t => .cons r t
  | _, _, i + 1, .cons q t => .cons q (dps_set r i t)
theorem dps_rev : ∀ {vs : List V} {ds : List PyData}, DpAll K H vs ds → DpAll K H vs.reverse ds.reverse
  | _, _, .nil => .nil
  | _, _, .cons r t => by
    rw [List.reverse_cons, List.reverse_cons]
    exact dps_app (dps_rev t) (.cons r .nil)
theorem dps_dropLast {vs : List V} {ds : List PyData} (h : DpAll K H vs ds) : DpAll K H vs.dropLast ds.dropLast := by
  rw [List.dropLast_eq_take, List.dropLast_eq_take, dps_len h]
  exact dps_take _ h
theorem dps_rep {vs : List V} {ds : List PyData} (h : DpAll K H vs ds) : ∀ k : Nat, DpAll K H (List.replicate k vs).flatten (List.replicate k ds).flatten
  | 0 => .nil
  | k + 1 => by
    rw [List.replicate_succ, List.replicate_succ, List.flatten_cons, List.flatten_cons]
    exact dps_app h (dps_rep h k)
end
/-- a dict's pairs -/
inductive KvAll (K : PySem.W.Frag) (H : Hp) : List (Key × V) → List (Key × PV) → Prop
  | nil : KvAll K H [] []
  | cons {k : Key} {v : V} {d : PV} {ws : List (Key × V)} {kvs : List (Key × PV)} : Dp K H v d → KvAll K H ws kvs → KvAll K H ((k, v) :: ws) ((k, d) :: kvs)
theorem kvs_mono {K : PySem.W.Frag} {H H' : Hp} (e : Ex H H') : ∀ {ws : List (Key × V)} {kvs : List (Key × PV)}, KvAll K H ws kvs → KvAll K H' ws kvs
  | _, _, .nil => .nil
  | _, _, .cons r t => .cons (dp_mono e _ _ r) (kvs_mono e t)

/-! ### what a slot stands for -/
def slot (σ : L2.St) (i : Nat) : Option V := (σ[i]?).getD none
def RepOb (K : PySem.W.Frag) (Hf H : Hp) (p : Addr) : Ob → Prop
  | .lst xs => ∃ vs, H p = some (.lst vs) ∧ DpAll K Hf vs xs
  | .dct kvs => ∃ ws, H p = some (.dK ws) ∧ KvAll K Hf ws kvs
def RepSl (K : PySem.W.Frag) (Hf H : Hp) : Sl → V → Prop
  | .val v, u => Dp K Hf u v
  | .own o, u => ∃ p, u = .ref p ∧ Hf p = none ∧ RepOb K Hf H p o
  | .ref o, u => ∃ p, u = .ref p ∧ Hf p = none ∧ RepOb K Hf H p o
  | .lck kvs, u => ∃ p, u = .ref p ∧ ∃ ws od, Hf p = some (.frz od (.dK ws)) ∧ KvAll K Hf ws kvs
def isOb : Option Sl → Bool
  | some (.own _) => true
  | some (.ref _) => true
  | _ => false
def OwnAt (ρ : Env) (σ : L2.St) (i : Nat) (p : Addr) : Prop := isOb (get ρ i) = true ∧ slot σ i = some (.ref p)
def Own (ρ : Env) (σ : L2.St) (p : Addr) : Prop := ∃ i, OwnAt ρ σ i p
structure RepE (K : PySem.W.Frag) (Hf H : Hp) (ρ : Env) (σ : L2.St) : Prop where
  len : ρ.length = σ.length
  ff : Ex Hf H
  sl : ∀ i s, get ρ i = some s → ∃ u, slot σ i = some u ∧ RepSl K Hf H s u
  dis : ∀ i j p, OwnAt ρ σ i p → OwnAt ρ σ j p → i = j
structure Step (O : Addr → Prop) (Hf H Hf' H' : Hp) : Prop where
  ff : Ex Hf Hf'
  fh : Ex Hf' H'
  keep : ∀ a o, H a = some o → ¬ O a → H' a = some o
  nof : ∀ a o, H a = some o → ¬ O a → Hf' a = Hf a
  dom : ∀ a o, H a = some o → ∃ o', H' a = some o'
/-- what is read of an object: a dict may be locked -/
def RepCo (K : PySem.W.Frag) (Hf H : Hp) (p : Addr) : Ob → Prop
  | .lst xs => ∃ vs, H p = some (.lst vs) ∧ DpAll K Hf vs xs
  | .dct kvs => ∃ ws, Rd H p (.dK ws) ∧ KvAll K Hf ws kvs
theorem RepOb.co {K : PySem.W.Frag} {Hf H : Hp} {p : Addr} {o : Ob} (h : RepOb K Hf H p o) : RepCo K Hf H p o := by
  cases o with
  | lst xs => exact h
  | dct kvs => obtain ⟨ws, a, b⟩ := h; exact ⟨ws, .inl a, b⟩
def RepC (K : PySem.W.Frag) (Hf H : Hp) : Ct → V → Prop
  | .pv v, u => Dp K Hf u v
  | .ob o, u => ∃ p, u = .ref p ∧ RepCo K Hf H p o
/-- H0: the heap in which a new object was not there -/
def RepR (K : PySem.W.Frag) (Hf H H0 : Hp) (σ : L2.St) : R → V → Prop
  | .val v, u => Dp K Hf u v
  | .new o, u => ∃ p, u = .ref p ∧ H0 p = none ∧ Hf p = none ∧ RepOb K Hf H p o
  | .bor i, u => slot σ i = some u
/-- what an expression may do to the names -/
structure Kp (ρ ρ' : Env) : Prop where
  own : ∀ i, isOb (get ρ' i) = true → isOb (get ρ i) = true
  ref : ∀ i, isRef (get ρ' i) = isRef (get ρ i)

section
variable {K : PySem.W.Frag} {Hf H Hf' H' Hf1 H1 Hf2 H2 H0 : Hp} {ρ ρ' ρ1 ρ2 : Env} {σ σ' : L2.St} {O O' O1 : Addr → Prop}

theorem get_set (ρ : Env) (i j : Nat) (s : Option Sl) : get (ρ.set i s) j = if i = j ∧ i < ρ.length then s else get ρ j := by
  unfold get
  by_cases h : i = j
  · subst h
    by_cases hl : i < ρ.length
    · rw [if_pos ⟨rfl, hl⟩, List.getElem?_set_self hl]; rfl
    · rw [if_neg (fun z => hl z.2), List.getElem?_eq_none (by simpa using hl), List.getElem?_eq_none (by simpa using hl)]
  · rw [if_neg (fun z => h z.1), List.getElem?_set_ne h]
theorem slot_set (σ : L2.St) (i j : Nat) (s : Option V) : slot (σ.set i s) j = if i = j ∧ i < σ.length then s else slot σ j := by
  unfold slot
  by_cases h : i = j
  · subst h
    by_cases hl : i < σ.length
    · rw [if_pos ⟨rfl, hl⟩, List.getElem?_set_self hl]; rfl
    · rw [if_neg (fun z => hl z.2), List.getElem?_eq_none (by simpa using hl), List.getElem?_eq_none (by simpa using hl)]
  · rw [if_neg (fun z => h z.1), List.getElem?_set_ne h]
theorem slot_at {i : Nat} {u : V} (h : slot σ i = some u) : σ[i]? = some (some u) := by
  unfold slot at h
  cases q : σ[i]? with
  | none => rw [q] at h; cases h
  | some x => rw [q] at h; exact congrArg some h

theorem Step.refl (e : Ex Hf H) : Step O Hf H Hf H := ⟨fun _ _ h => h, e, fun _ _ h _ => h, fun _ _ _ _ => rfl, fun _ o h => ⟨o, h⟩⟩
theorem Step.trans (a : Step O Hf H Hf1 H1) (b : Step O1 Hf1 H1 Hf2 H2) (h : ∀ p, O1 p → O p ∨ H p = none) : Step O Hf H Hf2 H2 := by
  have no : ∀ p o, H p = some o → ¬ O p → ¬ O1 p := fun p o e n z => by
    rcases h p z with q | q
    · exact n q
    · rw [e] at q; cases q
  refine ⟨fun p o e => b.ff p o (a.ff p o e), b.fh, fun p o e n => b.keep p o (a.keep p o e n) (no p o e n), fun p o e n => (b.nof p o (a.keep p o e n) (no p o e n)).trans (a.nof p o e n), fun p o e => ?_⟩
  obtain ⟨o', e'⟩ := a.dom p o e
  exact b.dom p o' e'
theorem Step.weak (a : Step O Hf H Hf1 H1) (h : ∀ p, O p → O1 p ∨ H p = none) : Step O1 Hf H Hf1 H1 := by
  have no : ∀ p o, H p = some o → ¬ O1 p → ¬ O p := fun p o e n z => by
    rcases h p z with q | q
    · exact n q
    · rw [e] at q; cases q
  exact ⟨a.ff, a.fh, fun p o e n => a.keep p o e (no p o e n), fun p o e n => a.nof p o e (no p o e n), a.dom⟩
theorem Step.fresh (a : Step O Hf H Hf1 H1) {p : Addr} (h : H1 p = none) : H p = none := by
  cases q : H p with
  | none => rfl
  | some o =>
    obtain ⟨o', e⟩ := a.dom p o q
    rw [h] at e; cases e

theorem RepOb.there {p : Addr} {o : Ob} (h : RepOb K Hf H p o) : ∃ x, H p = some x := by
  cases o with
  | lst xs => obtain ⟨_, e, _⟩ := h; exact ⟨_, e⟩
  | dct xs => obtain ⟨_, e, _⟩ := h; exact ⟨_, e⟩
theorem RepOb.step {p : Addr} {o : Ob} (h : RepOb K Hf H p o) (a : Step O Hf H Hf1 H1) (n : ¬ O p) : RepOb K Hf1 H1 p o := by
  cases o with
  | lst xs => obtain ⟨vs, e, d⟩ := h; exact ⟨vs, a.keep p _ e n, dps_mono a.ff _ _ d⟩
  | dct xs => obtain ⟨vs, e, d⟩ := h; exact ⟨vs, a.keep p _ e n, kvs_mono a.ff d⟩
theorem RepSl.step {s : Sl} {u : V} (h : RepSl K Hf H s u) (a : Step O Hf H Hf1 H1) (n : ∀ p, isOb (some s) = true → u = .ref p → ¬ O p) : RepSl K Hf1 H1 s u := by
  cases s with
  | val v => exact dp_mono a.ff _ _ h
  | own o =>
    obtain ⟨p, e, f, r⟩ := h
    obtain ⟨x, hx⟩ := r.there
    exact ⟨p, e, by rw [a.nof p x hx (n p rfl e)]; exact f, r.step a (n p rfl e)⟩
  | ref o =>
    obtain ⟨p, e, f, r⟩ := h
    obtain ⟨x, hx⟩ := r.there
    exact ⟨p, e, by rw [a.nof p x hx (n p rfl e)]; exact f, r.step a (n p rfl e)⟩
  | lck kvs => obtain ⟨p, e, ws, od, f, r⟩ := h; exact ⟨p, e, ws, od, a.ff p _ f, kvs_mono a.ff r⟩
/-- the names stand behind a step that touches none of their objects -/
theorem RepE.step (E : RepE K Hf H ρ σ) (a : Step O Hf H Hf1 H1) (n : ∀ p, Own ρ σ p → ¬ O p) : RepE K Hf1 H1 ρ σ := by
  refine ⟨E.len, a.fh, fun i s e => ?_, E.dis⟩
  obtain ⟨u, h1, h2⟩ := E.sl i s e
  refine ⟨u, h1, h2.step a fun p ho hu => n p ⟨i, ?_, ?_⟩⟩
  · rw [e]; exact ho
  · rw [h1, hu]
theorem RepE.there (E : RepE K Hf H ρ σ) {p : Addr} (h : Own ρ σ p) : (∃ x, H p = some x) ∧ Hf p = none := by
  obtain ⟨i, h1, h2⟩ := h
  cases q : get ρ i with
  | none => rw [q] at h1; cases h1
  | some s =>
    obtain ⟨u, h3, h4⟩ := E.sl i s q
    rw [h2] at h3; cases h3
    rw [q] at h1
    cases s with
    | val v => cases h1
    | own o => obtain ⟨p', e, f, r⟩ := h4; cases e; exact ⟨r.there, f⟩
    | ref o => obtain ⟨p', e, f, r⟩ := h4; cases e; exact ⟨r.there, f⟩
    | lck kvs => cases h1
theorem Kp.refl : Kp ρ ρ := ⟨fun _ h => h, fun _ => rfl⟩
theorem Kp.trans (a : Kp ρ ρ1) (b : Kp ρ1 ρ2) : Kp ρ ρ2 := ⟨fun i h => a.own i (b.own i h), fun i => (b.ref i).trans (a.ref i)⟩
theorem Kp.sub (a : Kp ρ ρ1) {p : Addr} (h : Own ρ1 σ p) : Own ρ σ p := by
  obtain ⟨i, h1, h2⟩ := h
  exact ⟨i, a.own i h1, h2⟩
theorem RepR.step {r : R} {u : V} (h : RepR K Hf H H0 σ r u) (a : Step O Hf H Hf1 H1) (n : ∀ p, O p → H0 p ≠ none) : RepR K Hf1 H1 H0 σ r u := by
  cases r with
  | val v => exact dp_mono a.ff _ _ h
  | new o =>
    obtain ⟨p, e, z, f, r⟩ := h
    obtain ⟨x, hx⟩ := r.there
    have np : ¬ O p := fun q => n p q z
    exact ⟨p, e, z, by rw [a.nof p x hx np]; exact f, r.step a np⟩
  | bor i => exact h
theorem RepR.back {r : R} {u : V} (h : RepR K Hf H H1 σ r u) (z : ∀ p, H1 p = none → H0 p = none) : RepR K Hf H H0 σ r u := by
  cases r with
  | val v => exact h
  | new o => obtain ⟨p, e, q, f, r⟩ := h; exact ⟨p, e, z p q, f, r⟩
  | bor i => exact h
theorem look_ok {r : R} {u : V} {c : Ct} (E : RepE K Hf H ρ σ) (h : RepR K Hf H H0 σ r u) (l : look r ρ = some c) : RepC K Hf H c u := by
  cases r with
  | val v => cases l; exact h
  | new o => cases l; obtain ⟨p, e, _, _, r⟩ := h; exact ⟨p, e, r.co⟩
  | bor i =>
    have l' : (get ρ i).map Sl.ct = some c := l
    cases q : get ρ i with
    | none => rw [q] at l'; cases l'
    | some s =>
      rw [q] at l'
      cases l'
      obtain ⟨u', h3, h4⟩ := E.sl i s q
      have h' : slot σ i = some u := h
      rw [h'] at h3; cases h3
      cases s with
      | val v => exact h4
      | own o => obtain ⟨p, e, _, r⟩ := h4; exact ⟨p, e, r.co⟩
      | ref o => obtain ⟨p, e, _, r⟩ := h4; exact ⟨p, e, r.co⟩
      | lck kvs => obtain ⟨p, e, ws, od, f, r⟩ := h4; exact ⟨p, e, ws, .inr ⟨od, E.ff p _ f⟩, r⟩
def isLck : Option Sl → Bool
  | some (.lck _) => true
  | _ => false
theorem isRef_isOb {s : Option Sl} (h : isRef s = true) (n : isLck s = false) : isOb s = true := by
  cases s with
  | none => cases h
  | some s => cases s <;> first | rfl | (cases h; done) | (simp [isLck] at n; done)
/-- a list that was nobody's, or a name's own, becomes a value -/
theorem frz_list {p : Addr} {xs : List PV} (e : Ex Hf H) (f : Hf p = none) (r : RepOb K Hf H p (.lst xs)) (hO : O p) :
    ∃ Hf', Step O Hf H Hf' H ∧ Dp K Hf' (.ref p) (.list xs) ∧ (∀ q, q ≠ p → Hf' q = Hf q) := by
  obtain ⟨vs, hv, d⟩ := r
  have ex : Ex Hf (upd Hf p (.lst vs)) := fun a o h => by
    rw [upd_ne (ne_of_none h f)]; exact h
  refine ⟨upd Hf p (.lst vs), ⟨ex, fun a o h => ?_, fun _ _ h _ => h, fun a o h n => ?_, fun _ o h => ⟨o, h⟩⟩, .lst (SqL.of upd_same) (dps_mono ex _ _ d), fun q hq => upd_ne hq⟩
  · by_cases ha : a = p
    · subst ha; rw [upd_same] at h; cases h; exact hv
    · rw [upd_ne ha] at h; exact e a o h
  · exact upd_ne fun z => n (z ▸ hO)
theorem frz_ok {r : R} {u : V} {v : PV} (E : RepE K Hf H ρ σ) (h : RepR K Hf H H0 σ r u) (no : ∀ q, Own ρ σ q → H0 q ≠ none) (l : frz r ρ = some (v, ρ')) :
    ∃ Hf', Step (fun p => Own ρ σ p ∨ H0 p = none) Hf H Hf' H ∧ RepE K Hf' H ρ' σ ∧ Dp K Hf' u v ∧ Kp ρ ρ' := by
  cases r with
  | val w => cases l; exact ⟨Hf, .refl E.ff, E, h, .refl⟩
  | new o =>
    obtain ⟨p, e, z, f, r⟩ := h
    subst e
    cases o with
    | dct kvs => cases l
    | lst xs =>
      cases l
      obtain ⟨Hf', S, d, hq⟩ := frz_list (O := fun p => p = p ∧ (Own ρ σ p ∨ H0 p = none)) E.ff f r ⟨rfl, .inr z⟩
      refine ⟨Hf', S.weak fun q hq => .inl hq.2, ⟨E.len, S.fh, fun i s e => ?_, E.dis⟩, d, .refl⟩
      obtain ⟨u, h1, h2⟩ := E.sl i s e
      refine ⟨u, h1, ?_⟩
      cases s with
      | val w => exact dp_mono S.ff _ _ h2
      | own o =>
        obtain ⟨q, e1, f1, r1⟩ := h2
        have nq : q ≠ p := fun y => no q ⟨i, by rw [e]; rfl, by rw [h1, e1]⟩ (y ▸ z)
        refine ⟨q, e1, by rw [hq q nq]; exact f1, ?_⟩
        cases o with
        | lst ys => obtain ⟨vs, a, b⟩ := r1; exact ⟨vs, a, dps_mono S.ff _ _ b⟩
        | dct ys => obtain ⟨vs, a, b⟩ := r1; exact ⟨vs, a, kvs_mono S.ff b⟩
      | ref o =>
        obtain ⟨q, e1, f1, r1⟩ := h2
        have nq : q ≠ p := fun y => no q ⟨i, by rw [e]; rfl, by rw [h1, e1]⟩ (y ▸ z)
        refine ⟨q, e1, by rw [hq q nq]; exact f1, ?_⟩
        cases o with
        | lst ys => obtain ⟨vs, a, b⟩ := r1; exact ⟨vs, a, dps_mono S.ff _ _ b⟩
        | dct ys => obtain ⟨vs, a, b⟩ := r1; exact ⟨vs, a, kvs_mono S.ff b⟩
      | lck kvs => obtain ⟨q, e1, ws, od, f, r⟩ := h2; exact ⟨q, e1, ws, od, S.ff q _ f, kvs_mono S.ff r⟩
  | bor i =>
    have h' : slot σ i = some u := h
    cases q : get ρ i with
    | none => simp only [frz, q] at l; cases l
    | some s =>
      obtain ⟨u', h3, h4⟩ := E.sl i s q
      rw [h'] at h3; cases h3
      cases s with
      | val w =>
        simp only [frz, q] at l
        cases l
        exact ⟨Hf, .refl E.ff, E, h4, .refl⟩
      | ref o => simp only [frz, q] at l; cases l
      | lck kvs => simp only [frz, q] at l; cases l
      | own o =>
        cases o with
        | dct kvs => simp only [frz, q, frzO] at l; cases l
        | lst xs =>
          simp only [frz, q, frzO, Option.map_some] at l
          cases l
          obtain ⟨p, e, f, r⟩ := h4
          subst e
          have oi : OwnAt ρ σ i p := ⟨by rw [q]; rfl, h'⟩
          obtain ⟨Hf', S, d, hq⟩ := frz_list (O := fun p => Own ρ σ p ∨ H0 p = none) E.ff f r (.inl ⟨i, oi⟩)
          have oth : ∀ j, OwnAt (ρ.set i (some (.val (.list xs)))) σ j p → False := fun j ⟨a, b⟩ => by
            rw [get_set] at a
            split at a
            · cases a
            · rename_i nn
              have ej := E.dis i j p oi ⟨a, b⟩
              subst ej
              refine nn ⟨rfl, ?_⟩
              have := (List.getElem?_eq_some_iff.mp (slot_at h')).1
              rw [E.len]; exact this
          have sub : ∀ j p', OwnAt (ρ.set i (some (.val (.list xs)))) σ j p' → OwnAt ρ σ j p' := fun j p' ⟨a, b⟩ => ⟨by
            rw [get_set] at a
            split at a
            · cases a
            · exact a, b⟩
          refine ⟨Hf', S, ⟨by rw [List.length_set]; exact E.len, S.fh, fun j s e => ?_, fun j k p' a b => E.dis j k p' (sub j p' a) (sub k p' b)⟩, d, ⟨fun j a => ?_, fun j => ?_⟩⟩
          · rw [get_set] at e
            split at e
            · rename_i hh
              cases e
              obtain ⟨rfl, _⟩ := hh
              exact ⟨_, h', d⟩
            · rename_i nn
              obtain ⟨u, h1, h2⟩ := E.sl j s e
              refine ⟨u, h1, ?_⟩
              cases s with
              | val w => exact dp_mono S.ff _ _ h2
              | own o =>
                obtain ⟨q', e1, f1, r1⟩ := h2
                have nq : q' ≠ p := fun y => oth j ⟨by rw [get_set, if_neg nn, e]; rfl, by rw [h1, e1, y]⟩
                refine ⟨q', e1, by rw [hq q' nq]; exact f1, ?_⟩
                cases o with
                | lst ys => obtain ⟨vs, a, b⟩ := r1; exact ⟨vs, a, dps_mono S.ff _ _ b⟩
                | dct ys => obtain ⟨vs, a, b⟩ := r1; exact ⟨vs, a, kvs_mono S.ff b⟩
              | ref o =>
                obtain ⟨q', e1, f1, r1⟩ := h2
                have nq : q' ≠ p := fun y => oth j ⟨by rw [get_set, if_neg nn, e]; rfl, by rw [h1, e1, y]⟩
                refine ⟨q', e1, by rw [hq q' nq]; exact f1, ?_⟩
                cases o with
                | lst ys => obtain ⟨vs, a, b⟩ := r1; exact ⟨vs, a, dps_mono S.ff _ _ b⟩
                | dct ys => obtain ⟨vs, a, b⟩ := r1; exact ⟨vs, a, kvs_mono S.ff b⟩
              | lck kvs => obtain ⟨q', e1, ws, od, f, r⟩ := h2; exact ⟨q', e1, ws, od, S.ff q' _ f, kvs_mono S.ff r⟩
          · rw [get_set] at a
            split at a
            · cases a
            · exact a
          · rw [get_set]
            split
            · rename_i hh
              obtain ⟨rfl, _⟩ := hh
              rw [q]; rfl
            · rfl
end
end Py
/-! Py2: expressions. -/
namespace Py
open PySem PySem.Spec PyProof.Rows L2

def Nobody : Addr → Prop := fun _ => False
/-- the sound meaning of a reading -/
def SE (K : PySem.W.Frag) (te : TE) (m : M) : Prop := ∀ (ρ : Env) (r : R) (ρ' : Env) (σ : L2.St) (Hf H : Hp), m ρ = some (r, ρ') → RepE K Hf H ρ σ → ∀ Q : VK,
  (∀ u Hf' H', Step (Own ρ σ) Hf H Hf' H' → RepE K Hf' H' ρ' σ → RepR K Hf' H' H σ r u → Kp ρ ρ' → Q u H') → te σ H Q
def ST (K : PySem.W.Frag) (tt : TT) (m : MT) : Prop := ∀ (ρ : Env) (b : Bool) (ρ' : Env) (σ : L2.St) (Hf H : Hp), m ρ = some (b, ρ') → RepE K Hf H ρ σ → ∀ Q : Bool → Hp → Prop,
  (∀ Hf' H', Step (Own ρ σ) Hf H Hf' H' → RepE K Hf' H' ρ' σ → Kp ρ ρ' → Q b H') → tt σ H Q
def SLs (K : PySem.W.Frag) (ta : TA) (m : ML) : Prop := ∀ (ρ : Env) (vs : List PV) (ρ' : Env) (σ : L2.St) (Hf H : Hp), m ρ = some (vs, ρ') → RepE K Hf H ρ σ → ∀ Q : List V → Hp → Prop,
  (∀ us Hf' H', Step (Own ρ σ) Hf H Hf' H' → RepE K Hf' H' ρ' σ → DpAll K Hf' us vs → Kp ρ ρ' → Q us H') → ta σ H Q
structure BE (X : Cx) (e : Expr) (m : M) : Prop where
  ex : ∃ te, PE X e te ∧ SE X.K te m
structure BT (X : Cx) (e : Expr) (m : MT) : Prop where
  ex : ∃ tt, PT X e tt ∧ ST X.K tt m
structure BW (X : Cx) (e : Expr) (m : MT) : Prop where
  ex : ∃ tt, PW X e tt ∧ ST X.K tt m
structure BL (X : Cx) (es : List Expr) (m : ML) : Prop where
  ex : ∃ ta, PA X es ta ∧ SLs X.K ta m
/-- a two-place operation by contents -/
def OpS (K : PySem.W.Frag) (r : R2) (f : Ct → Ct → Option R) : Prop := ∀ (Hf H : Hp) (c d : Ct) (x y : V) (z : R), Ex Hf H → RepC K Hf H c x → RepC K Hf H d y → f c d = some z → ∀ Q : VK,
  (∀ u Hf' H', Step Nobody Hf H Hf' H' → RepR K Hf' H' H [] z u → Q u H') → r x y H Q
structure OpB (X : Cx) (fn : Value → Value → Sem Value) (f : Ct → Ct → Option R) : Prop where
  ex : ∃ r, OpR X fn r ∧ OpS X.K r f
def UnS (K : PySem.W.Frag) (r : V → Hp → VK → Prop) (f : Ct → Option R) : Prop := ∀ (Hf H : Hp) (c : Ct) (x : V) (z : R), Ex Hf H → RepC K Hf H c x → f c = some z → ∀ Q : VK,
  (∀ u Hf' H', Step Nobody Hf H Hf' H' → RepR K Hf' H' H [] z u → Q u H') → r x H Q

section
variable {K : PySem.W.Frag} {Hf H Hf' H' Hf1 H1 Hf2 H2 H0 : Hp} {ρ ρ' ρ1 ρ2 : Env} {σ σ' : L2.St} {O O' O1 : Addr → Prop}
theorem RepR.any {r : R} {u : V} (h : RepR K Hf H H0 [] r u) : RepR K Hf H H0 σ r u := by
  cases r with
  | val v => exact h
  | new o => exact h
  | bor i =>
    have h' : slot [] i = some u := h
    simp [slot] at h'
/-- behind a: what holds there, for what comes behind it -/
structure Bh (K : PySem.W.Frag) (Hf H : Hp) (ρ : Env) (σ : L2.St) (Hf1 H1 : Hp) (ρ1 : Env) : Prop where
  st : Step (Own ρ σ) Hf H Hf1 H1
  en : RepE K Hf1 H1 ρ1 σ
  kp : Kp ρ ρ1
theorem Bh.refl (E : RepE K Hf H ρ σ) : Bh K Hf H ρ σ Hf H ρ := ⟨.refl E.ff, E, .refl⟩
theorem Bh.trans (a : Bh K Hf H ρ σ Hf1 H1 ρ1) (b : Bh K Hf1 H1 ρ1 σ Hf2 H2 ρ2) : Bh K Hf H ρ σ Hf2 H2 ρ2 :=
  ⟨a.st.trans b.st fun p h => .inl (a.kp.sub h), b.en, a.kp.trans b.kp⟩
/-- a step that touches nobody's object -/
theorem Bh.more (a : Bh K Hf H ρ σ Hf1 H1 ρ1) (b : Step Nobody Hf1 H1 Hf2 H2) : Bh K Hf H ρ σ Hf2 H2 ρ1 :=
  ⟨a.st.trans b fun p h => h.elim, a.en.step b fun _ _ h => h, a.kp⟩
theorem Bh.fresh (a : Bh K Hf H ρ σ Hf1 H1 ρ1) {p : Addr} (h : H1 p = none) : H p = none := a.st.fresh h
theorem Bh.no (a : Bh K Hf H ρ σ Hf1 H1 ρ1) (E : RepE K Hf H ρ σ) : ∀ q, Own ρ1 σ q → H q ≠ none := fun q h z => by
  obtain ⟨⟨x, hx⟩, _⟩ := E.there (a.kp.sub h)
  rw [z] at hx; cases hx
/-- an older result, behind what came behind it -/
theorem Bh.keepR (a : Bh K Hf H ρ σ Hf1 H1 ρ1) (E : RepE K Hf H ρ σ) (b : Bh K Hf1 H1 ρ1 σ Hf2 H2 ρ2) {r : R} {u : V} (h : RepR K Hf1 H1 H σ r u) : RepR K Hf2 H2 H σ r u :=
  h.step b.st fun p hp => a.no E p hp
theorem Bh.frz (a : Bh K Hf H ρ σ Hf1 H1 ρ1) (E : RepE K Hf H ρ σ) {r : R} {u : V} {v : PV} (h : RepR K Hf1 H1 H σ r u) (l : Py.frz r ρ1 = some (v, ρ2)) : ∃ Hf2, Bh K Hf H ρ σ Hf2 H1 ρ2 ∧ Dp K Hf2 u v := by
  obtain ⟨Hf2, S, E2, d, k⟩ := frz_ok a.en h (a.no E) l
  refine ⟨Hf2, ⟨a.st.trans S fun p hp => ?_, E2, a.kp.trans k⟩, d⟩
  rcases hp with hp | hp
  · exact .inl (a.kp.sub hp)
  · exact .inr hp

/-! ### the pieces -/
theorem se_c {v : PV} {u : V} (h : ∀ Hf, Dp K Hf u v) : SE K (tC u) (mC v) := by
  intro ρ r ρ' σ Hf H hm E Q q
  cases hm
  exact q u Hf H (.refl E.ff) E (h Hf) .refl
theorem se_var (i : Nat) : SE K (tVar i) (mVar i) := by
  intro ρ r ρ' σ Hf H hm E Q q
  unfold mVar at hm
  cases g : get ρ i with
  | none => rw [g] at hm; cases hm
  | some s =>
    rw [g] at hm
    obtain ⟨u, h1, h2⟩ := E.sl i s g
    refine ⟨u, slot_at h1, ?_⟩
    cases s with
    | val v => cases hm; exact q u Hf H (.refl E.ff) E h2 .refl
    | own o => cases hm; exact q u Hf H (.refl E.ff) E h1 .refl
    | ref o => cases hm; exact q u Hf H (.refl E.ff) E h1 .refl
    | lck kvs => cases hm; exact q u Hf H (.refl E.ff) E h1 .refl
theorem se_op {ta tb : TE} {a b : M} {r : R2} {f : Ct → Ct → Option R} (ha : SE K ta a) (hb : SE K tb b) (hr : OpS K r f) : SE K (tOp r ta tb) (mOp f a b) := by
  intro ρ r' ρ' σ Hf H hm E Q q
  simp only [mOp, Option.bind_eq_some_iff, Option.map_eq_some_iff, Prod.mk.injEq] at hm
  obtain ⟨⟨x, ρ1⟩, e1, ⟨y, ρ2⟩, e2, c, e3, d, e4, z, e5, rfl, rfl⟩ := hm
  refine ha ρ x ρ1 σ Hf H e1 E _ fun u Hf1 H1 S1 E1 R1 k1 => ?_
  have B1 : Bh K Hf H ρ σ Hf1 H1 ρ1 := ⟨S1, E1, k1⟩
  refine hb ρ1 y ρ2 σ Hf1 H1 e2 E1 _ fun w Hf2 H2 S2 E2 R2 k2 => ?_
  have B2 : Bh K Hf1 H1 ρ1 σ Hf2 H2 ρ2 := ⟨S2, E2, k2⟩
  have R1' := B1.keepR E B2 R1
  refine hr Hf2 H2 c d u w z E2.ff (look_ok E2 R1' e3) (look_ok E2 R2 e4) e5 _ fun t Hf3 H3 S3 R3 => ?_
  have B3 := (B1.trans B2).more S3
  exact q t Hf3 H3 B3.st B3.en (R3.any.back fun p hp => (B1.trans B2).fresh hp) B3.kp
theorem se_un {ta : TE} {a : M} {r : V → Hp → VK → Prop} {f : Ct → Option R} (ha : SE K ta a) (hr : UnS K r f) : SE K (tUn r ta) (mUn f a) := by
  intro ρ r' ρ' σ Hf H hm E Q q
  simp only [mUn, Option.bind_eq_some_iff, Option.map_eq_some_iff, Prod.mk.injEq] at hm
  obtain ⟨⟨x, ρ1⟩, e1, c, e3, z, e5, rfl, rfl⟩ := hm
  refine ha ρ x ρ1 σ Hf H e1 E _ fun u Hf1 H1 S1 E1 R1 k1 => ?_
  have B1 : Bh K Hf H ρ σ Hf1 H1 ρ1 := ⟨S1, E1, k1⟩
  refine hr Hf1 H1 c u z E1.ff (look_ok E1 R1 e3) e5 _ fun t Hf3 H3 S3 R3 => ?_
  have B3 := B1.more S3
  exact q t Hf3 H3 B3.st B3.en (R3.any.back fun p hp => B1.fresh hp) B3.kp
theorem boolOf_some {c : Ct} {b : Bool} (h : boolOf c = some b) : c = .pv (.bool b) := by
  unfold boolOf at h
  split at h
  · cases h; rfl
  · cases h
theorem rep_bool {b : Bool} {u : V} (h : RepC K Hf H (.pv (.bool b)) u) : u = .bl b := by cases h; rfl
theorem st_B {ta : TE} {a : M} (ha : SE K ta a) : ST K (tTest ta) (mB a) := by
  intro ρ b ρ' σ Hf H hm E Q q
  simp only [mB, Option.bind_eq_some_iff, Option.map_eq_some_iff, Prod.mk.injEq] at hm
  obtain ⟨⟨x, ρ1⟩, e1, c, e3, z, e5, rfl, rfl⟩ := hm
  refine ha ρ x ρ1 σ Hf H e1 E _ fun u Hf1 H1 S1 E1 R1 k1 => ?_
  have hc := look_ok E1 R1 e3
  rw [boolOf_some e5] at hc
  exact ⟨z, rep_bool hc, q Hf1 H1 S1 E1 k1⟩
theorem dps_isEmpty {us : List V} {vs : List PV} (h : DpAll K H us vs) : (!us.isEmpty) = !vs.isEmpty := by cases h <;> rfl
theorem tru_of {c : Ct} {b : Bool} {u : V} (e : Ex Hf H) (h : truOf c = some b) (r : RepC K Hf H c u) : TruV K u H b := by
  cases c with
  | pv v =>
    cases v with
    | none => cases h; cases r; exact rfl
    | bool b => cases h; cases r; exact rfl
    | int i => cases h; cases r; exact rfl
    | str x => cases h
    | list xs => cases h; cases r with | lst hs ha => exact .inl ⟨_, ex_l e hs, (dps_isEmpty ha).symm⟩
    | tuple xs => cases h; cases r with | tup hs ha => exact .inr (.inl ⟨_, ex_t e hs, (dps_isEmpty ha).symm⟩)
    | dict kvs => cases h
  | ob o =>
    obtain ⟨p, rfl, r⟩ := r
    cases o with
    | lst xs => cases h; obtain ⟨vs, e1, d⟩ := r; exact .inl ⟨_, SqL.of e1, (dps_isEmpty d).symm⟩
    | dct xs => cases h
theorem st_tru {ta : TE} {a : M} (ha : SE K ta a) : ST K (fun σ H Q => ta σ H fun x H' => ∃ k, TruV K x H' k ∧ Q k H') (mTru a) := by
  intro ρ b ρ' σ Hf H hm E Q q
  simp only [mTru, Option.bind_eq_some_iff, Option.map_eq_some_iff, Prod.mk.injEq] at hm
  obtain ⟨⟨x, ρ1⟩, e1, c, e3, z, e5, rfl, rfl⟩ := hm
  refine ha ρ x ρ1 σ Hf H e1 E _ fun u Hf1 H1 S1 E1 R1 k1 => ?_
  exact ⟨z, tru_of E1.ff e5 (look_ok E1 R1 e3), q Hf1 H1 S1 E1 k1⟩
theorem st_or {ta tb : TT} {a b : MT} (ha : ST K ta a) (hb : ST K tb b) : ST K (tOr ta tb) (mOr a b) := by
  intro ρ z ρ' σ Hf H hm E Q q
  simp only [mOr, Option.bind_eq_some_iff] at hm
  obtain ⟨⟨x, ρ1⟩, e1, e2⟩ := hm
  refine ha ρ x ρ1 σ Hf H e1 E _ fun Hf1 H1 S1 E1 k1 => ?_
  have B1 : Bh K Hf H ρ σ Hf1 H1 ρ1 := ⟨S1, E1, k1⟩
  cases x with
  | false =>
    simp only [Bool.false_eq_true, if_false] at e2 ⊢
    refine hb ρ1 z ρ' σ Hf1 H1 e2 E1 _ fun Hf2 H2 S2 E2 k2 => ?_
    have B2 := B1.trans (⟨S2, E2, k2⟩ : Bh K Hf1 H1 ρ1 σ Hf2 H2 ρ')
    exact q Hf2 H2 B2.st B2.en B2.kp
  | true =>
    simp only [if_true] at e2 ⊢
    cases e2
    exact q Hf1 H1 S1 E1 k1
theorem st_not {ta : TT} {a : MT} (ha : ST K ta a) : ST K (tNot ta) (mNot a) := by
  intro ρ z ρ' σ Hf H hm E Q q
  simp only [mNot, Option.bind_eq_some_iff, Option.some.injEq, Prod.mk.injEq] at hm
  obtain ⟨⟨x, ρ1⟩, e1, rfl, rfl⟩ := hm
  exact ha ρ x ρ1 σ Hf H e1 E _ fun Hf1 H1 S1 E1 k1 => q Hf1 H1 S1 E1 k1
theorem se_andV {ta tb : TE} {a b : M} (ha : SE K ta a) (hb : SE K tb b) : SE K (tAndV ta tb) (mAndV a b) := by
  intro ρ z ρ' σ Hf H hm E Q q
  simp only [mAndV, Option.bind_eq_some_iff] at hm
  obtain ⟨⟨x, ρ1⟩, e1, c, e2, k, e3, e4⟩ := hm
  refine ha ρ x ρ1 σ Hf H e1 E _ fun u Hf1 H1 S1 E1 R1 k1 => ?_
  have B1 : Bh K Hf H ρ σ Hf1 H1 ρ1 := ⟨S1, E1, k1⟩
  have hc := look_ok E1 R1 e2
  rw [boolOf_some e3] at hc
  refine ⟨k, rep_bool hc, ?_⟩
  cases k with
  | true =>
    simp only [if_true] at e4 ⊢
    refine hb ρ1 z ρ' σ Hf1 H1 e4 E1 _ fun w Hf2 H2 S2 E2 R2 k2 => ?_
    have B2 := B1.trans (⟨S2, E2, k2⟩ : Bh K Hf1 H1 ρ1 σ Hf2 H2 ρ')
    exact q w Hf2 H2 B2.st B2.en (R2.back fun p hp => B1.fresh hp) B2.kp
  | false =>
    simp only [Bool.false_eq_true, if_false] at e4 ⊢
    cases e4
    exact q _ Hf1 H1 S1 E1 (.bl false) k1
theorem se_orV {ta tb : TE} {a b : M} (ha : SE K ta a) (hb : SE K tb b) : SE K (tOrV ta tb) (mOrV a b) := by
  intro ρ z ρ' σ Hf H hm E Q q
  simp only [mOrV, Option.bind_eq_some_iff] at hm
  obtain ⟨⟨x, ρ1⟩, e1, c, e2, k, e3, e4⟩ := hm
  refine ha ρ x ρ1 σ Hf H e1 E _ fun u Hf1 H1 S1 E1 R1 k1 => ?_
  have B1 : Bh K Hf H ρ σ Hf1 H1 ρ1 := ⟨S1, E1, k1⟩
  have hc := look_ok E1 R1 e2
  rw [boolOf_some e3] at hc
  refine ⟨k, rep_bool hc, ?_⟩
  cases k with
  | false =>
    simp only [Bool.false_eq_true, if_false] at e4 ⊢
    refine hb ρ1 z ρ' σ Hf1 H1 e4 E1 _ fun w Hf2 H2 S2 E2 R2 k2 => ?_
    have B2 := B1.trans (⟨S2, E2, k2⟩ : Bh K Hf1 H1 ρ1 σ Hf2 H2 ρ')
    exact q w Hf2 H2 B2.st B2.en (R2.back fun p hp => B1.fresh hp) B2.kp
  | true =>
    simp only [if_true] at e4 ⊢
    cases e4
    exact q _ Hf1 H1 S1 E1 (.bl true) k1
theorem se_notV {ta : TE} {a : M} (ha : SE K ta a) : SE K (tNotV ta) (mNotV a) := by
  intro ρ z ρ' σ Hf H hm E Q q
  simp only [mNotV, Option.bind_eq_some_iff, Option.some.injEq, Prod.mk.injEq] at hm
  obtain ⟨⟨x, ρ1⟩, e1, c, e2, k, e3, rfl, rfl⟩ := hm
  refine ha ρ x ρ1 σ Hf H e1 E _ fun u Hf1 H1 S1 E1 R1 k1 => ?_
  have hc := look_ok E1 R1 e2
  rw [boolOf_some e3] at hc
  exact ⟨k, rep_bool hc, q _ Hf1 H1 S1 E1 (.bl (!k)) k1⟩
theorem se_if {tt : TT} {ta tb : TE} {t : MT} {a b : M} (ht : ST K tt t) (ha : SE K ta a) (hb : SE K tb b) : SE K (tIf tt ta tb) (mIfE t a b) := by
  intro ρ z ρ' σ Hf H hm E Q q
  simp only [mIfE, Option.bind_eq_some_iff] at hm
  obtain ⟨⟨x, ρ1⟩, e1, e2⟩ := hm
  refine ht ρ x ρ1 σ Hf H e1 E _ fun Hf1 H1 S1 E1 k1 => ?_
  have B1 : Bh K Hf H ρ σ Hf1 H1 ρ1 := ⟨S1, E1, k1⟩
  cases x with
  | true =>
    simp only [if_true] at e2 ⊢
    refine ha ρ1 z ρ' σ Hf1 H1 e2 E1 _ fun w Hf2 H2 S2 E2 R2 k2 => ?_
    have B2 := B1.trans (⟨S2, E2, k2⟩ : Bh K Hf1 H1 ρ1 σ Hf2 H2 ρ')
    exact q w Hf2 H2 B2.st B2.en (R2.back fun p hp => B1.fresh hp) B2.kp
  | false =>
    simp only [Bool.false_eq_true, if_false] at e2 ⊢
    refine hb ρ1 z ρ' σ Hf1 H1 e2 E1 _ fun w Hf2 H2 S2 E2 R2 k2 => ?_
    have B2 := B1.trans (⟨S2, E2, k2⟩ : Bh K Hf1 H1 ρ1 σ Hf2 H2 ρ')
    exact q w Hf2 H2 B2.st B2.en (R2.back fun p hp => B1.fresh hp) B2.kp
theorem se_chain {ta tb tc : TE} {a b c : M} {r r' : R2} {f g : Ct → Ct → Option R} (ha : SE K ta a) (hb : SE K tb b) (hc : SE K tc c) (hr : OpS K r f) (hr' : OpS K r' g) : SE K (tChain r r' ta tb tc) (mChain f g a b c) := by
  intro ρ z ρ' σ Hf H hm E Q q
  simp only [mChain, Option.bind_eq_some_iff] at hm
  obtain ⟨⟨x, ρ1⟩, e1, ⟨y, ρ2⟩, e2, c1, e3, c2, e4, z1, e5, cz, e6, k, e7, e8⟩ := hm
  refine ha ρ x ρ1 σ Hf H e1 E _ fun u Hf1 H1 S1 E1 R1 k1 => ?_
  have B1 : Bh K Hf H ρ σ Hf1 H1 ρ1 := ⟨S1, E1, k1⟩
  refine hb ρ1 y ρ2 σ Hf1 H1 e2 E1 _ fun w Hf2 H2 S2 E2 R2 k2 => ?_
  have B2 : Bh K Hf1 H1 ρ1 σ Hf2 H2 ρ2 := ⟨S2, E2, k2⟩
  have R1' := B1.keepR E B2 R1
  refine hr Hf2 H2 c1 c2 u w z1 E2.ff (look_ok E2 R1' e3) (look_ok E2 R2 e4) e5 _ fun t Hf3 H3 S3 R3 => ?_
  have B3 := (B1.trans B2).more S3
  have hz := look_ok (σ := σ) B3.en (R3.any.back fun p hp => hp) e6
  rw [boolOf_some e7] at hz
  refine ⟨k, rep_bool hz, ?_⟩
  have R2' : RepR K Hf3 H3 H σ y w := (R2.back fun p hp => B1.fresh hp).step S3 fun p h => h.elim
  cases k with
  | true =>
    simp only [if_true, Option.bind_eq_some_iff, Option.map_eq_some_iff, Prod.mk.injEq] at e8 ⊢
    obtain ⟨⟨w2, ρ3⟩, d1, c3, d2, c4, d3, z2, d4, rfl, rfl⟩ := e8
    refine hc ρ2 w2 ρ3 σ Hf3 H3 d1 B3.en _ fun w' Hf4 H4 S4 E4 R4 k4 => ?_
    have B4 : Bh K Hf3 H3 ρ2 σ Hf4 H4 ρ3 := ⟨S4, E4, k4⟩
    have R2'' := B3.keepR E B4 R2'
    refine hr' Hf4 H4 c3 c4 w w' z2 E4.ff (look_ok E4 R2'' d2) (look_ok E4 R4 d3) d4 _ fun t' Hf5 H5 S5 R5 => ?_
    have B5 := (B3.trans B4).more S5
    exact q t' Hf5 H5 B5.st B5.en (R5.any.back fun p hp => (B3.trans B4).fresh hp) B5.kp
  | false =>
    simp only [Bool.false_eq_true, if_false] at e8 ⊢
    cases e8
    exact q _ Hf3 H3 B3.st B3.en (.bl false) B3.kp
theorem sl_nil : SLs K tNil lNil := by
  intro ρ vs ρ' σ Hf H hm E Q q
  cases hm
  exact q [] Hf H (.refl E.ff) E .nil .refl
theorem sl_cons {ta : TE} {tr : TA} {a : M} {r : ML} (ha : SE K ta a) (hr : SLs K tr r) : SLs K (tCons ta tr) (lCons a r) := by
  intro ρ vs ρ' σ Hf H hm E Q q
  simp only [lCons, Option.bind_eq_some_iff, Option.map_eq_some_iff, Prod.mk.injEq] at hm
  obtain ⟨⟨x, ρ1⟩, e1, ⟨v, ρ2⟩, e2, ⟨vs', ρ3⟩, e3, rfl, rfl⟩ := hm
  refine ha ρ x ρ1 σ Hf H e1 E _ fun u Hf1 H1 S1 E1 R1 k1 => ?_
  have B1 : Bh K Hf H ρ σ Hf1 H1 ρ1 := ⟨S1, E1, k1⟩
  obtain ⟨Hf2, B2, d⟩ := B1.frz E R1 e2
  refine hr ρ2 vs' ρ3 σ Hf2 H1 e3 B2.en _ fun us Hf3 H3 S3 E3 D3 k3 => ?_
  have B3 := B2.trans (⟨S3, E3, k3⟩ : Bh K Hf2 H1 ρ2 σ Hf3 H3 ρ3)
  exact q (u :: us) Hf3 H3 B3.st B3.en (.cons (dp_mono S3.ff _ _ d) D3) B3.kp
theorem line_eq : line = sizeLine := by rw [sizeLine_eq]; rfl
/-- a new tuple, a new list -/
theorem new_tup {us : List V} {vs : List PV} (e : Ex Hf H) (d : DpAll K Hf us vs) {p : Addr} (hp : H p = none) : Step Nobody Hf H (upd Hf p (.tup us)) (upd H p (.tup us)) ∧ Dp K (upd Hf p (.tup us)) (.ref p) (.tuple vs) := by
  have fp : Hf p = none := by
    cases z : Hf p with
    | none => rfl
    | some o => have := e p o z; rw [hp] at this; cases this
  have ex : Ex Hf (upd Hf p (.tup us)) := fun a o h => by rw [upd_ne (ne_of_none h fp)]; exact h
  refine ⟨⟨ex, fun a o h => ?_, fun a o h _ => by rw [upd_ne (ne_of_none h hp)]; exact h, fun a o h _ => upd_ne (ne_of_none h hp), fun a o h => ⟨o, by rw [upd_ne (ne_of_none h hp)]; exact h⟩⟩, .tup (SqT.of upd_same) (dps_mono ex _ _ d)⟩
  by_cases ha : a = p
  · subst ha; rw [upd_same] at h ⊢; exact h
  · rw [upd_ne ha] at h ⊢; exact e a o h
theorem new_ob {o : HO} (e : Ex Hf H) {p : Addr} (hp : H p = none) : Step Nobody Hf H Hf (upd H p o) ∧ Hf p = none := by
  have fp : Hf p = none := by
    cases z : Hf p with
    | none => rfl
    | some o => have := e p o z; rw [hp] at this; cases this
  exact ⟨⟨fun _ _ h => h, fun a o h => by rw [upd_ne (ne_of_none h fp)]; exact e a o h, fun a o h _ => by rw [upd_ne (ne_of_none h hp)]; exact h, fun _ _ _ _ => rfl, fun a o h => ⟨o, by rw [upd_ne (ne_of_none h hp)]; exact h⟩⟩, fp⟩
theorem se_tup {ta : TA} {l : ML} (hl : SLs K ta l) : SE K (tTup ta) (mTup l) := by
  intro ρ z ρ' σ Hf H hm E Q q
  simp only [mTup, Option.bind_eq_some_iff] at hm
  obtain ⟨⟨vs, ρ1⟩, e1, e2⟩ := hm
  split at e2
  · rename_i hz
    cases e2
    refine hl ρ vs ρ1 σ Hf H e1 E _ fun us Hf1 H1 S1 E1 D1 k1 => ?_
    have B1 : Bh K Hf H ρ σ Hf1 H1 ρ1 := ⟨S1, E1, k1⟩
    refine ⟨by rw [dps_len D1, ← line_eq]; exact hz, fun p hp => ?_⟩
    obtain ⟨S, d⟩ := new_tup E1.ff D1 hp
    have B2 := B1.more S
    exact q _ _ _ B2.st B2.en d B2.kp
  · cases e2
theorem se_lst {ta : TA} {l : ML} (hl : SLs K ta l) : SE K (tLst ta) (mLst l) := by
  intro ρ z ρ' σ Hf H hm E Q q
  simp only [mLst, Option.bind_eq_some_iff] at hm
  obtain ⟨⟨vs, ρ1⟩, e1, e2⟩ := hm
  split at e2
  · rename_i hz
    cases e2
    refine hl ρ vs ρ1 σ Hf H e1 E _ fun us Hf1 H1 S1 E1 D1 k1 => ?_
    have B1 : Bh K Hf H ρ σ Hf1 H1 ρ1 := ⟨S1, E1, k1⟩
    refine ⟨by rw [dps_len D1, ← line_eq]; exact hz, fun p hp => ?_⟩
    obtain ⟨S, fp⟩ := new_ob (o := .lst us) E1.ff hp
    have B2 := B1.more S
    exact q _ _ _ B2.st B2.en ⟨p, rfl, B1.fresh hp, fp, us, upd_same, D1⟩ B2.kp
  · cases e2
end

/-! ### the rules a derivation is made of -/
section
variable {X : Cx} {a b c : Expr} {ma mb mc : M} {ta tb : MT} {pos : Pos}
theorem be_var (i : Nat) {x : Str} {pos : Pos} (hN : X.N[i]? = some x := by rfl) (hv : Vis X.env.scope x := by first | exact Or.inl rfl | exact Or.inr (Or.inl rfl) | exact Or.inr (Or.inr rfl)) (hd : (x == ("__debug__" : Str)) = false := by decide)
    (hcd : (x == ("__classdict__" : Str)) = false := by decide) : BE X (.Name x pos) (mVar i) := ⟨_, pe_var hN hv hd hcd, se_var i⟩
theorem be_int {i j pos} : BE X (.Constant (.int i) j pos) (mC (.int i)) := ⟨_, pe_int, se_c fun _ => .int i⟩
theorem be_bl {b j pos} : BE X (.Constant (.bool b) j pos) (mC (.bool b)) := ⟨_, pe_bl, se_c fun _ => .bl b⟩
theorem be_non {j pos} : BE X (.Constant .none j pos) (mC .none) := ⟨_, pe_non, se_c fun _ => .non⟩
theorem be_op {op : Operator} {f : Ct → Ct → Option R} (ho : OpB X (binaryOp op) f) (ha : BE X a ma) (hb : BE X b mb) : BE X (.BinOp a op b pos) (mOp f ma mb) := by
  obtain ⟨r, h1, h2⟩ := ho
  obtain ⟨t1, a1, a2⟩ := ha
  obtain ⟨t2, b1, b2⟩ := hb
  exact ⟨_, pe_op h1 a1 b1, se_op a2 b2 h2⟩
theorem be_cmp {op : CmpOp} {f : Ct → Ct → Option R} (ho : OpB X (compareOp op) f) (ha : BE X a ma) (hb : BE X b mb) (hm : behindInMarks op b = false := by first | exact nomark _ | with_unfolding_all rfl) : BE X (.Compare a [op] [b] pos) (mOp f ma mb) := by
  obtain ⟨r, h1, h2⟩ := ho
  obtain ⟨t1, a1, a2⟩ := ha
  obtain ⟨t2, b1, b2⟩ := hb
  exact ⟨_, pe_cmpR h1 a1 b1 hm, se_op a2 b2 h2⟩
theorem bt_cmp {op : CmpOp} {f : Ct → Ct → Option R} (ho : OpB X (compareOp op) f) (ha : BE X a ma) (hb : BE X b mb) (hm : behindInMarks op b = false := by first | exact nomark _ | with_unfolding_all rfl) : BT X (.Compare a [op] [b] pos) (mB (mOp f ma mb)) := by
  obtain ⟨r, h1, h2⟩ := ho
  obtain ⟨t1, a1, a2⟩ := ha
  obtain ⟨t2, b1, b2⟩ := hb
  exact ⟨_, pt_cmpR h1 a1 b1 hm, st_B (se_op a2 b2 h2)⟩
theorem bt_chain {op op' : CmpOp} {f g : Ct → Ct → Option R} (ho : OpB X (compareOp op) f) (ho' : OpB X (compareOp op') g) (ha : BE X a ma) (hb : BE X b mb) (hc : BE X c mc) (hm : lastMarks [op, op'] [b, c] = false := by with_unfolding_all rfl) :
    BT X (.Compare a [op, op'] [b, c] pos) (mB (mChain f g ma mb mc)) := by
  obtain ⟨r, h1, h2⟩ := ho
  obtain ⟨r', h1', h2'⟩ := ho'
  obtain ⟨t1, a1, a2⟩ := ha
  obtain ⟨t2, b1, b2⟩ := hb
  obtain ⟨t3, c1, c2⟩ := hc
  exact ⟨_, pt_chain h1 h1' a1 b1 c1 hm, st_B (se_chain a2 b2 c2 h2 h2')⟩
/-- a test that is its value's truth -/
theorem bt_tru (ha : BE X a ma) (he : ∀ whole, isTrue a X.env whole = (do let v ← whole; standAt a.pos; holding [v] (truthy v)) := by intro _; rfl) : BT X a (mTru ma) := by
  obtain ⟨t, a1, a2⟩ := ha
  exact ⟨_, pt_truth a1 he, st_tru a2⟩
variable {rest : List Expr} {tr : MT}
theorem bw_or1 (ha : BT X a ta) : BW X (.BoolOp .Or [a] pos) ta := let ⟨t, h1, h2⟩ := ha; ⟨t, pw_or1 h1, h2⟩
theorem bw_or (ha : BT X a ta) (hb : BW X (.BoolOp .Or (b :: rest) pos) tr) : BW X (.BoolOp .Or (a :: b :: rest) pos) (mOr ta tr) := let ⟨t, h1, h2⟩ := ha; let ⟨u, h3, h4⟩ := hb; ⟨_, pw_or h1 h3, st_or h2 h4⟩
theorem bt_w (ha : BW X a ta) : BT X a ta := let ⟨t, h1, h2⟩ := ha; ⟨t, h1.pt, h2⟩
theorem bt_not (ha : BT X a ta) : BT X (.UnaryOp .Not a pos) (mNot ta) := let ⟨t, h1, h2⟩ := ha; ⟨_, pt_not h1, st_not h2⟩
theorem be_one {op} (ha : BE X a ma) : BE X (.BoolOp op [a] pos) ma := let ⟨t, h1, h2⟩ := ha; ⟨_, pe_one h1, h2⟩
theorem be_and (ha : BE X a ma) (hb : BE X (.BoolOp .And (b :: rest) pos) mb) : BE X (.BoolOp .And (a :: b :: rest) pos) (mAndV ma mb) := let ⟨t, h1, h2⟩ := ha; let ⟨u, h3, h4⟩ := hb; ⟨_, pe_and h1 h3, se_andV h2 h4⟩
theorem be_or (ha : BE X a ma) (hb : BE X (.BoolOp .Or (b :: rest) pos) mb) : BE X (.BoolOp .Or (a :: b :: rest) pos) (mOrV ma mb) := let ⟨t, h1, h2⟩ := ha; let ⟨u, h3, h4⟩ := hb; ⟨_, pe_or h1 h3, se_orV h2 h4⟩
theorem be_not (ha : BE X a ma) : BE X (.UnaryOp .Not a pos) (mNotV ma) := let ⟨t, h1, h2⟩ := ha; ⟨_, pe_not h1, se_notV h2⟩
theorem be_if (hc : BT X c ta) (ha : BE X a ma) (hb : BE X b mb) : BE X (.IfExp c a b pos) (mIfE ta ma mb) := let ⟨t, h1, h2⟩ := hc; let ⟨u, h3, h4⟩ := ha; let ⟨w, h5, h6⟩ := hb; ⟨_, pe_ifExp h1 h3 h5, se_if h2 h4 h6⟩
variable {es : List Expr} {ml : ML}
theorem bl_nil : BL X [] lNil := ⟨_, pa_nil, sl_nil⟩
theorem bl_cons (ha : BE X a ma) (hr : BL X es ml) (hs : starEach (a :: es) X.env = (false, eval a X.env) :: starEach es X.env := by rfl) : BL X (a :: es) (lCons ma ml) := let ⟨t, h1, h2⟩ := ha; let ⟨u, h3, h4⟩ := hr; ⟨_, pa_cons h1 h3 hs, sl_cons h2 h4⟩
theorem be_tup {k} (h : BL X es ml) : BE X (.Tuple es k pos) (mTup ml) := let ⟨t, h1, h2⟩ := h; ⟨_, pe_tup h1, se_tup h2⟩
theorem be_lst (h : BL X es ml) : BE X (.List es pos) (mLst ml) := let ⟨t, h1, h2⟩ := h; ⟨_, pe_lst h1, se_lst h2⟩
end
end Py
namespace L2
open PySem PySem.Spec PyProof.Rows
theorem tuple_mulS (l : Addr) (items : Array Value) (n : Nat) (dd : Option Addr) (sl : Array (Option Value)) (x : Int) (u : Tok) (c0 : (decide (x < -(2 ^ 63)) || decide (x ≥ 2 ^ 63)) = false) (c1 : (items.isEmpty || x == 1) = true) :
    Meets (Builtin.«tuple.__mul__» ⟨[.ref l, .int x u], []⟩) (fun _ R s => s.heap.get? l = some { cls := .type "tuple", dict := dd, data := .seq items n, slots := sl } ∧ R (.ok (.ret (.ref l))) s) :=
  .of_wp fun prog w A R s h => by
    obtain ⟨hp, g, d, tk, os⟩ := s
    obtain ⟨hl, h⟩ := h
    have f1 := AutoSeq1.idx_int
    wp_walk using wpAny_loadPart' hl
    repeat (first
      | (refine wpAny_ite_false (decide_eq_false (by rw [c0]; exact Bool.false_ne_true)) ?_; wp_walk using wpAny_loadPart' hl)
      | (refine wpAny_ite_true (decide_eq_true c1) ?_; wp_walk using wpAny_loadPart' hl))
    exact ⟨_, rfl, h⟩
theorem tuple_mulE (l : Addr) (items : Array Value) (n : Nat) (dd : Option Addr) (sl : Array (Option Value)) (x : Int) (u : Tok) (c0 : (decide (x < -(2 ^ 63)) || decide (x ≥ 2 ^ 63)) = false) (c1 : (items.isEmpty || x == 1) = false) (c2 : (decide (x ≤ 0) || items.isEmpty) = true) :
    Meets (Builtin.«tuple.__mul__» ⟨[.ref l, .int x u], []⟩) (fun _ R s => s.heap.get? l = some { cls := .type "tuple", dict := dd, data := .seq items n, slots := sl } ∧
      R (.ok (.ret (Value.ref s.heap.objs.size))) { s with heap := s.heap.push { cls := Value.type "tuple", data := Data.seq #[] }, toks := s.toks }) :=
  .of_wp fun prog w A R s h => by
    obtain ⟨hp, g, d, tk, os⟩ := s
    obtain ⟨hl, h⟩ := h
    have f1 := AutoSeq1.idx_int
    wp_walk using wpAny_loadPart' hl
    repeat (first
      | (refine wpAny_ite_false (decide_eq_false (by rw [c0]; exact Bool.false_ne_true)) ?_; wp_walk using wpAny_loadPart' hl)
      | (refine wpAny_ite_false (decide_eq_false (by rw [c1]; exact Bool.false_ne_true)) ?_; wp_walk using wpAny_loadPart' hl)
      | (refine wpAny_ite_true (decide_eq_true c2) ?_; wp_walk using wpAny_loadPart' hl))
    exact ⟨_, rfl, h⟩
def rRepS (K : PySem.W.Frag) : R2 := fun x y H Q => ∃ l k xs, x = .ref l ∧ y = .int k ∧ SqT K H l xs ∧ (xs = [] ∨ k = 1) ∧ -(2 ^ 62) < k ∧ k ≤ 1000 ∧ Q (.ref l) H
def rRepE (K : PySem.W.Frag) : R2 := fun x y H Q => ∃ l k xs, x = .ref l ∧ y = .int k ∧ SqT K H l xs ∧ xs ≠ [] ∧ -(2 ^ 62) < k ∧ k ≤ 0 ∧ ∀ p, H p = none → Q (.ref p) (upd H p (.tup []))
theorem op_repS {X : Cx} : OpR X (binaryOp .Mult) (rRepS X.K) := by
  intro pins s σ H x y v u Q I rx ry h
  obtain ⟨l, k, xs, rfl, rfl, hT, hne, h1, h2, q⟩ := h
  cases rx
  obtain ⟨t, rfl⟩ := ry
  obtain ⟨its, r, ⟨⟨cls, dd, data, sl⟩, ho, hc, n, hd⟩, hs⟩ := I.tuple hT
  simp only at hc hd
  subst hc hd
  have c0 : (decide (k < -(2 ^ 63)) || decide (k ≥ 2 ^ 63)) = false := by
    rw [decide_eq_false (by omega), decide_eq_false (by omega)] <;> rfl
  have c1 : (its.toArray.isEmpty || k == 1) = true := by
    rcases hne with e | e
    · subst e
      have : its = [] := List.eq_nil_of_length_eq_zero (by rw [← r.length]; rfl)
      subst this
      rfl
    · subst e
      simp
  refine wpAny_binaryOp_repeat_ref (T := "tuple") (U := "int") (by decide) ⟨_, ho, rfl⟩ (fun s' => typeIs_int s' k t) noFill_tuple_mul F.fills_int_mul F.slot_int_rmul repeat_tuple F.slot_int_index.lookup
    (call_meets F.slot_int_rmul (typeIs_int s k t) F.entry_int_rmul (F.args_int_rmul_2 _ _) (int_rmul_tuple k t l its.toArray n dd sl)
      ⟨ho, rfl, ⟨_, ho, rfl⟩, call_meets F.slot_tuple_mul ⟨_, ho, rfl⟩ F.entry_tuple_mul (F.args_tuple_mul_2 _ _) (tuple_mulS l its.toArray n dd sl k t c0 c1) ⟨ho, ?_⟩⟩)
  exact ⟨.ref l, H, I, rfl, q⟩
theorem op_repE {X : Cx} : OpR X (binaryOp .Mult) (rRepE X.K) := by
  intro pins s σ H x y v u Q I rx ry h
  obtain ⟨l, k, xs, rfl, rfl, hT, hne, h1, h2, q⟩ := h
  cases rx
  obtain ⟨t, rfl⟩ := ry
  obtain ⟨its, r, ⟨⟨cls, dd, data, sl⟩, ho, hc, n, hd⟩, hs⟩ := I.tuple hT
  simp only at hc hd
  subst hc hd
  have hle : its.length = xs.length := r.length.symm
  have hn : its ≠ [] := fun e => hne (by
    rw [e] at hle
    exact List.eq_nil_of_length_eq_zero hle.symm)
  have hi : its.toArray.isEmpty = false := by
    cases its with
    | nil => exact absurd rfl hn
    | cons a b => rfl
  have c0 : (decide (k < -(2 ^ 63)) || decide (k ≥ 2 ^ 63)) = false := by
    rw [decide_eq_false (by omega), decide_eq_false (by omega)] <;> rfl
  have c1 : (its.toArray.isEmpty || k == 1) = false := by
    rw [hi, Bool.false_or]
    exact beq_eq_false_iff_ne.mpr (by omega)
  have c2 : (decide (k ≤ 0) || its.toArray.isEmpty) = true := by
    rw [decide_eq_true h2]
    rfl
  refine wpAny_binaryOp_repeat_ref (T := "tuple") (U := "int") (by decide) ⟨_, ho, rfl⟩ (fun s' => typeIs_int s' k t) noFill_tuple_mul F.fills_int_mul F.slot_int_rmul repeat_tuple F.slot_int_index.lookup
    (call_meets F.slot_int_rmul (typeIs_int s k t) F.entry_int_rmul (F.args_int_rmul_2 _ _) (int_rmul_tuple k t l its.toArray n dd sl)
      ⟨ho, rfl, ⟨_, ho, rfl⟩, call_meets F.slot_tuple_mul ⟨_, ho, rfl⟩ F.entry_tuple_mul (F.args_tuple_mul_2 _ _) (tuple_mulE l its.toArray n dd sl k t c0 c1 c2) ⟨ho, ?_⟩⟩)
  refine ⟨.ref s.heap.objs.size, _, I.laid (t' := s.toks) (o := .tup []) (fun b ob q => Heap.get?_push_of_some _ q) (Nat.le_refl _) ?_, rfl, q _ (I.hok.fresh (Nat.le_refl _))⟩
  exact ⟨by rw [sizeLine_eq]; exact Nat.zero_le _, [], .nil, IsTup.new _ _⟩
end L2
/-! Py3: operators and built-ins by contents. -/
namespace Py
open PySem PySem.Spec PyProof.Rows L2

/-- a division of any size has room -/
structure DivOk (X : Cx) : Prop where
  seer : X.base.NoSeer
  tree : X.prog.given.tree = none
  deep : X.A.depth + Builtin.pylongFrames < recursionLimit
  top : ∃ env l, X.stack = env :: l ∧ env.scope.isGenerator = false ∧ env.scope.isCoroutine = false ∧ env.builtins = builtinsNs ∧ env.globals = mainGlobals
theorem DivOk.room {X : Cx} (D : DivOk X) {pins : List (Addr × Obj)} {σ : L2.St} {H : Hp} {s : Shared} (I : Inv X pins σ H s) : PylongRoom (model X.prog X.w) X.A s := by
  obtain ⟨env, l, e, h1, h2, h3, h4⟩ := D.top
  exact PylongRoom.of I.nolimit D.deep (SeerAt.of (D.seer.keeps I.bk) D.tree (by rw [I.ok.frames, e]) h1 h2 h3 h4)

section
variable {K : PySem.W.Frag} {Hf H Hf' H' : Hp} {X : Cx}
/-- a value that is there already -/
theorem old {v : PV} {u : V} {Q : VK} (e : Ex Hf H) (d : Dp K Hf u v) (q : ∀ u Hf' H', Step Nobody Hf H Hf' H' → RepR K Hf' H' H [] (.val v) u → Q u H') : Q u H := q u Hf H (.refl e) d
theorem newL {us : List V} {vs : List PV} {Q : VK} (e : Ex Hf H) (d : DpAll K Hf us vs) (q : ∀ u Hf' H', Step Nobody Hf H Hf' H' → RepR K Hf' H' H [] (.new (.lst vs)) u → Q u H') : ∀ p, H p = none → Q (.ref p) (upd H p (.lst us)) := fun p hp => by
  obtain ⟨S, fp⟩ := new_ob (o := .lst us) e hp
  exact q _ _ _ S ⟨p, rfl, hp, fp, us, upd_same, d⟩
theorem newT {us : List V} {vs : List PV} {Q : VK} (e : Ex Hf H) (d : DpAll K Hf us vs) (q : ∀ u Hf' H', Step Nobody Hf H Hf' H' → RepR K Hf' H' H [] (.val (.tuple vs)) u → Q u H') : ∀ p, H p = none → Q (.ref p) (upd H p (.tup us)) := fun p hp => by
  obtain ⟨S, d'⟩ := new_tup e d hp
  exact q _ _ _ S d'
theorem opB_int : ∀ {fn : Value → Value → Sem Value} {C : Int → Int → Prop} {g : Int → Int → V} {f : Ct → Ct → Option R}, OpR X fn (rI C g) →
    (∀ c d z, f c d = some z → ∃ i j v, c = .pv (.int i) ∧ d = .pv (.int j) ∧ C i j ∧ z = .val v ∧ ∀ Hf, Dp X.K Hf (g i j) v) → OpB X fn f := fun h hf => ⟨_, h, fun Hf H c d x y z e hc hd e5 Q q => by
  obtain ⟨i, j, v, rfl, rfl, hC, rfl, hv⟩ := hf c d z e5
  cases hc
  cases hd
  exact ⟨i, j, rfl, rfl, hC, old e (hv Hf) q⟩⟩
theorem opB_int0 {fn : Value → Value → Sem Value} {g : Int → Int → V} {f : Ct → Ct → Option R} (h : OpR X fn (rI0 g))
    (hf : ∀ c d z, f c d = some z → ∃ i j v, c = .pv (.int i) ∧ d = .pv (.int j) ∧ z = .val v ∧ ∀ Hf, Dp X.K Hf (g i j) v) : OpB X fn f := ⟨_, h, fun Hf H c d x y z e hc hd e5 Q q => by
  obtain ⟨i, j, v, rfl, rfl, rfl, hv⟩ := hf c d z e5
  cases hc
  cases hd
  exact ⟨i, j, rfl, rfl, old e (hv Hf) q⟩⟩
theorem cI_some {p : Int → Int → Bool} {c d : Ct} {z : R} (h : cI p c d = some z) : ∃ i j v, c = .pv (.int i) ∧ d = .pv (.int j) ∧ z = .val v ∧ ∀ Hf, Dp K Hf (.bl (p i j)) v := by
  unfold cI at h
  split at h
  · cases h; exact ⟨_, _, _, rfl, rfl, rfl, fun _ => .bl _⟩
  · cases h
theorem ob_lt : OpB X (compareOp .Lt) fLt := opB_int0 op_lt fun _ _ _ h => cI_some h
theorem ob_le : OpB X (compareOp .LtE) fLe := opB_int0 op_le fun _ _ _ h => cI_some h
theorem ob_gt : OpB X (compareOp .Gt) fGt := opB_int0 op_gt fun _ _ _ h => cI_some h
theorem ob_ge : OpB X (compareOp .GtE) fGe := opB_int0 op_ge fun _ _ _ h => cI_some h
theorem ob_sub : OpB X (binaryOp .Sub) fSub := opB_int0 op_sub fun c d z h => by
  unfold fSub at h
  split at h
  · cases h; exact ⟨_, _, _, rfl, rfl, rfl, fun _ => .int _⟩
  · cases h
theorem ob_isub : OpB X (inplaceOp .Sub) fSub := opB_int0 iop_sub fun c d z h => by
  unfold fSub at h
  split at h
  · cases h; exact ⟨_, _, _, rfl, rfl, rfl, fun _ => .int _⟩
  · cases h
def rAddAll (K : PySem.W.Frag) : R2 := fun x y H Q => rI0 (fun i j => .int (i + j)) x y H Q ∨ (∃ i j, x = .str i ∧ y = .str j ∧ i.length + j.length ≤ sizeLine ∧ Q (.str (i ++ j)) H) ∨ rCatA K x y H Q ∨ rCat x y H Q
theorem add_all {fn : Value → Value → Sem Value} (h1 : OpR X fn (rI0 fun i j => .int (i + j))) (h2 : OpR X fn (fun x y H Q => ∃ i j, x = .str i ∧ y = .str j ∧ i.length + j.length ≤ sizeLine ∧ Q (.str (i ++ j)) H)) (h3 : OpR X fn (rCatA X.K)) (h4 : OpR X fn rCat) :
    OpR X fn (rAddAll X.K) := h1.or (h2.or (h3.or h4))
theorem add_S : OpS K (rAddAll K) fAdd := fun Hf H c d x y z e hc hd e5 Q q => by
  unfold fAdd at e5
  split at e5
  · cases e5; cases hc; cases hd; exact .inl ⟨_, _, rfl, rfl, old e (.int _) q⟩
  · split at e5
    · rename_i hz; cases e5; cases hc; cases hd; exact .inr (.inl ⟨_, _, rfl, rfl, by rw [← line_eq]; exact hz, old e (.str _) q⟩)
    · cases e5
  · rename_i xs ys
    split at e5
    · rename_i hz
      cases e5
      cases hc with
      | @tup a us _ hs ha =>
        cases hd with
        | @tup b ws _ hs2 hb =>
          refine .inr (.inr (.inl ⟨a, b, us, ws, rfl, rfl, ex_t e hs, ex_t e hs2, by rw [dps_len ha, dps_len hb, ← line_eq]; exact hz, fun h0 => ?_, fun _ h0 => ?_, fun _ _ => newT e (dps_app ha hb) q⟩))
          · have e0 : xs = [] := List.eq_nil_of_length_eq_zero (by rw [← dps_len ha, h0]; rfl)
            rw [e0] at q
            exact old e (.tup hs2 hb) q
          · have e0 : ys = [] := List.eq_nil_of_length_eq_zero (by rw [← dps_len hb, h0]; rfl)
            rw [e0, List.append_nil] at q
            exact old e (.tup hs ha) q
    · cases e5
  · rename_i xs ys
    split at e5
    · rename_i hz
      cases e5
      obtain ⟨a, rfl, us, h1, d1⟩ := hc
      obtain ⟨b, rfl, ws, h2, d2⟩ := hd
      exact .inr (.inr (.inr ⟨a, b, us, ws, rfl, rfl, h1, h2, by rw [dps_len d1, dps_len d2, ← line_eq]; exact hz, newL e (dps_app d1 d2) q⟩))
    · cases e5
  all_goals cases e5
theorem ob_add : OpB X (binaryOp .Add) fAdd := ⟨_, add_all op_add op_add_str op_catA op_cat, add_S⟩
theorem mulOk_ok {i j : Int} (h : mulOk i j = true) : IntMulOk i j := by
  have h' : i.natAbs.log2 + j.natAbs.log2 < 100000000 := of_decide_eq_true h
  have b : ∀ x : Int, Builtin.Int.intBits x ≤ x.natAbs.log2 + 1 := fun x => by
    unfold Builtin.Int.intBits
    split <;> omega
  have h1 := b i
  have h2 := b j
  have e : bitsLine = 134217728 := by decide
  unfold IntMulOk
  intro z
  have z2 := (Bool.and_eq_true_iff.mp z).2
  unfold Builtin.Int.intTooBig at z2
  have z3 := of_decide_eq_true z2
  rw [e] at z3
  omega
theorem op_mulB : OpR X (binaryOp .Mult) (rI (fun i j => mulOk i j = true) fun i j => .int (i * j)) := opI fun _ _ _ _ _ _ _ hc q => mul_int q (mulOk_ok hc)
theorem iop_mulB : OpR X (inplaceOp .Mult) (rI (fun i j => mulOk i j = true) fun i j => .int (i * j)) := opI fun _ _ _ _ _ _ _ hc q => imul_int q (mulOk_ok hc)
theorem mul_S : OpS K (fun x y H Q => rI (fun i j => mulOk i j = true) (fun i j => .int (i * j)) x y H Q ∨ rRep x y H Q ∨ rRepT K x y H Q ∨ rRepS K x y H Q ∨ rRepE K x y H Q) fMul := fun Hf H c d x y z e hc hd e5 Q q => by
  unfold fMul at e5
  split at e5
  · split at e5
    · rename_i hz; cases e5; cases hc; cases hd; exact .inl ⟨_, _, rfl, rfl, hz, old e (.int _) q⟩
    · cases e5
  · rename_i xs k
    split at e5
    · rename_i hz
      cases e5
      cases hd
      have hc' := hc
      cases hc with
      | @tup a us _ hs ha =>
        by_cases h1 : xs = [] ∨ k = 1
        · have eq : (List.replicate k.toNat xs).flatten = xs := by
            rcases h1 with h1 | h1
            · subst h1; simp
            · subst h1; simp
          rw [eq] at q
          refine .inr (.inr (.inr (.inl ⟨a, k, us, rfl, rfl, ex_t e hs, ?_, hz.1, hz.2.1, old e hc' q⟩)))
          rcases h1 with h1 | h1
          · left
            subst h1
            exact List.eq_nil_of_length_eq_zero (by rw [dps_len ha]; rfl)
          · exact .inr h1
        · have hne : us ≠ [] := fun z => h1 (.inl (List.eq_nil_of_length_eq_zero (by rw [← dps_len ha, z]; rfl)))
          by_cases h2 : 2 ≤ k
          · exact .inr (.inr (.inl ⟨a, k, us, rfl, rfl, ex_t e hs, hne, h2, hz.2.1, by rw [dps_len ha]; exact hz.2.2, newT e (dps_rep ha _) q⟩))
          · have h3 : k ≤ 0 := by
              have : k ≠ 1 := fun e => h1 (.inr e)
              omega
            have eq : (List.replicate k.toNat xs).flatten = [] := by
              have : k.toNat = 0 := by omega
              rw [this]; rfl
            rw [eq] at q
            exact .inr (.inr (.inr (.inr ⟨a, k, us, rfl, rfl, ex_t e hs, hne, hz.1, h3, newT e .nil q⟩)))
    · cases e5
  · rename_i xs k
    split at e5
    · rename_i hz
      cases e5
      obtain ⟨a, rfl, us, h1, d1⟩ := hc
      cases hd
      exact .inr (.inl ⟨a, k, us, rfl, rfl, h1, by omega, by omega, by rw [dps_len d1, ← line_eq]; exact hz.1, newL e (dps_rep d1 _) q⟩)
    · cases e5
  all_goals cases e5
theorem ob_mul : OpB X (binaryOp .Mult) fMul := ⟨_, op_mulB.or (op_rep.or (op_repT.or (op_repS.or op_repE))), mul_S⟩
theorem op_divB (D : DivOk X) : OpR X (binaryOp .FloorDiv) (rI (fun _ j => j ≠ 0) fun i j => .int (i.fdiv j)) := by
  intro pins s σ H x y v u Q I rx ry h
  obtain ⟨i, j, rfl, rfl, hc, q⟩ := h
  obtain ⟨t, rfl⟩ := rx
  obtain ⟨t', rfl⟩ := ry
  exact floordiv_int hc ⟨.int (i.fdiv j), H, I.tok _, ⟨_, rfl⟩, q⟩ (.inr (D.room I))
theorem iop_divB (D : DivOk X) : OpR X (inplaceOp .FloorDiv) (rI (fun _ j => j ≠ 0) fun i j => .int (i.fdiv j)) := by
  intro pins s σ H x y v u Q I rx ry h
  obtain ⟨i, j, rfl, rfl, hc, q⟩ := h
  obtain ⟨t, rfl⟩ := rx
  obtain ⟨t', rfl⟩ := ry
  exact ifloordiv_int hc ⟨.int (i.fdiv j), H, I.tok _, ⟨_, rfl⟩, q⟩ (.inr (D.room I))
theorem div_some {c d : Ct} {z : R} (h : fDiv c d = some z) : ∃ i j v, c = .pv (.int i) ∧ d = .pv (.int j) ∧ j ≠ 0 ∧ z = .val v ∧ ∀ Hf, Dp K Hf (.int (i.fdiv j)) v := by
  unfold fDiv at h
  split at h
  · split at h
    · cases h
    · rename_i hj; cases h; exact ⟨_, _, _, rfl, rfl, hj, rfl, fun _ => .int _⟩
  · cases h
theorem ob_div (D : DivOk X) : OpB X (binaryOp .FloorDiv) fDiv := opB_int (op_divB D) fun _ _ _ h => div_some h
theorem ob_mod : OpB X (binaryOp .Mod) fMod := opB_int op_modN fun c d z h => by
  unfold fMod at h
  split at h
  · split at h
    · cases h
    · rename_i hj; cases h; exact ⟨_, _, _, rfl, rfl, hj, rfl, fun _ => .int _⟩
  · cases h
theorem ob_pow : OpB X (binaryOp .Pow) fPow := opB_int op_pow fun c d z h => by
  unfold fPow at h
  split at h
  · split at h
    · rename_i hj; cases h; exact ⟨_, _, _, rfl, rfl, hj, rfl, fun _ => .int _⟩
    · cases h
  · cases h
/-! ### == -/
theorem eqD_S {neg : Bool} : OpS K (fun x y H Q => (if neg then rNe else rEq) x y H Q ∨ (if neg then rNeD K else rEqD K) x y H Q) (eqD neg) := fun Hf H c d x y z e hc hd e5 Q q => by
  unfold eqD at e5
  have sc : ∀ {a b : V} {k : Bool}, scal a b = true → decide (a = b) = k → (∀ u Hf' H', Step Nobody Hf H Hf' H' → RepR K Hf' H' H [] (.val (.bool (neg ^^ k))) u → Q u H') → (if neg then rNe else rEq) a b H Q := fun {a b k} h1 h2 q => by
    cases neg with
    | true => exact ⟨h1, by rw [h2]; have := old e (.bl (true ^^ k)) q; simpa using this⟩
    | false => exact ⟨h1, by rw [h2]; have := old e (.bl (false ^^ k)) q; simpa using this⟩
  split at e5
  · cases e5; cases hc; cases hd; exact .inl (sc rfl (by simp) q)
  · cases e5; cases hc; cases hd; exact .inl (sc rfl dec_bl q)
  · cases e5; cases hc; cases hd; exact .inl (sc rfl (by simp) q)
  · split at e5
    · rename_i hz
      cases e5
      refine .inr ?_
      cases neg with
      | true => exact ⟨_, _, dp_mono e _ _ hc, dp_mono e _ _ hd, hz.1, hz.2, by have := old e (.bl _) q; simpa using this⟩
      | false => exact ⟨_, _, dp_mono e _ _ hc, dp_mono e _ _ hd, hz.1, hz.2, by have := old e (.bl _) q; simpa using this⟩
    · cases e5
  · cases e5
theorem ob_eq (hu : X.A.units + 64 < cLine) : OpB X (compareOp .Eq) fEq := ⟨_, op_eq.or (op_eqD hu), eqD_S (neg := false)⟩
theorem ob_ne (hu : X.A.units + 64 < cLine) : OpB X (compareOp .NotEq) fNe := ⟨_, op_ne.or (op_neD hu), eqD_S (neg := true)⟩
theorem isNone_of {v : PV} {u : V} (d : Dp K Hf u v) : decide (u = .non) = isNone v := by
  cases d <;> rfl
theorem is_S {neg : Bool} : OpS K (fun x y H Q => y = .non ∧ Q (.bl (neg ^^ decide (x = .non))) H) (fIs neg) := fun Hf H c d x y z e hc hd e5 Q q => by
  unfold fIs at e5
  split at e5
  · cases e5
    cases hd
    refine ⟨rfl, ?_⟩
    rw [isNone_of hc]
    exact old e (.bl _) q
  · cases e5
    cases hd
    obtain ⟨p, rfl, _⟩ := hc
    refine ⟨rfl, ?_⟩
    have := old e (.bl neg) q
    simpa using this
  · cases e5
theorem ob_is : OpB X (compareOp .Is) (fIs false) := by
  refine ⟨_, ?_, is_S⟩
  have h := op_isN (X := X)
  intro pins s σ H x y v u Q I rx ry hq
  exact h pins s σ H x y v u Q I rx ry ⟨hq.1, by simpa using hq.2⟩
/-! ### one place -/
theorem be_neg {a : Expr} {ma : M} {pos : Pos} (ha : BE X a ma) : BE X (.UnaryOp .USub a pos) (mUn fNeg ma) := by
  obtain ⟨t, h1, h2⟩ := ha
  refine ⟨_, pe_un un_neg h1, se_un h2 fun Hf H c x z e hc e5 Q q => ?_⟩
  unfold fNeg at e5
  split at e5
  · cases e5; cases hc; exact ⟨_, rfl, old e (.int _) q⟩
  · cases e5
/-- a built-in of one argument -/
theorem se_call1 {te : TE} {m : M} {r : List V → Hp → VK → Prop} {f : Ct → Option R} (ha : SE K te m) (hr : UnS K (fun x H Q => r [x] H Q) f) : SE K (tCB r (tCons te tNil)) (mUn f m) := se_un ha hr
theorem se_call2 {te tu : TE} {m n : M} {r : List V → Hp → VK → Prop} {f : Ct → Ct → Option R} (ha : SE K te m) (hb : SE K tu n) (hr : OpS K (fun x y H Q => r [x, y] H Q) f) : SE K (tCB r (tCons te (tCons tu tNil))) (mOp f m n) := se_op ha hb hr
structure C1 (X : Cx) (f : Value) (g : Ct → Option R) : Prop where
  ex : ∃ r, CallR X f r ∧ UnS X.K (fun x H Q => r [x] H Q) g
structure C2 (X : Cx) (f : Value) (g : Ct → Ct → Option R) : Prop where
  ex : ∃ r, CallR X f r ∧ OpS X.K (fun x y H Q => r [x, y] H Q) g
variable {a b : Expr} {ma mb : M} {x : Str} {p pos : Pos} {id : String} {g : Ct → Option R} {g2 : Ct → Ct → Option R}
theorem be_b1 (hc : C1 X (.builtin id) g) (hg : Gl X x) (hm : X.mg x = none) (hv : bootBuiltins x = some (.builtin id)) (ha : BE X a ma) (hn : x ≠ "__name__" := by decide) (hdb : (x == ("__debug__" : Str)) = false := by decide)
    (hs : starEach [a] X.env = (false, eval a X.env) :: starEach [] X.env := by rfl) (hp : (backTo pos (starEach [] X.env)).any (·.1) = false := by rfl) : BE X (.Call (.Name x p) [a] [] pos) (mUn g ma) := by
  obtain ⟨r, h1, h2⟩ := hc
  obtain ⟨t, a1, a2⟩ := ha
  exact ⟨_, pe_callB h1 hg hm hv (pa_cons a1 pa_nil hs) hn hdb hs hp, se_call1 a2 h2⟩
theorem be_t1 {T : String} (hc : C1 X (.type T) g) (hg : Gl X x) (hm : X.mg x = none) (hv : bootBuiltins x = some (.type T)) (ha : BE X a ma) (hn : x ≠ "__name__" := by decide) (hdb : (x == ("__debug__" : Str)) = false := by decide)
    (hs : starEach [a] X.env = (false, eval a X.env) :: starEach [] X.env := by rfl) (hp : (backTo pos (starEach [] X.env)).any (·.1) = false := by rfl) : BE X (.Call (.Name x p) [a] [] pos) (mUn g ma) := by
  obtain ⟨r, h1, h2⟩ := hc
  obtain ⟨t, a1, a2⟩ := ha
  exact ⟨_, pe_callTy h1 hg hm hv (pa_cons a1 pa_nil hs) hn hdb hs hp, se_call1 a2 h2⟩
/-- gcd, imported -/
theorem be_gcd (hg : Gl X x) (hm : X.mg x = some (.builtin "math.gcd")) (ha : BE X a ma) (hb : BE X b mb) (hdb : (x == ("__debug__" : Str)) = false := by decide)
    (hs : starEach [a, b] X.env = (false, eval a X.env) :: starEach [b] X.env := by rfl) (hs2 : starEach [b] X.env = (false, eval b X.env) :: starEach [] X.env := by rfl) (hp : (backTo pos (starEach [b] X.env)).any (·.1) = false := by rfl) : BE X (.Call (.Name x p) [a, b] [] pos) (mOp fGcd ma mb) := by
  obtain ⟨t, a1, a2⟩ := ha
  obtain ⟨u, b1, b2⟩ := hb
  refine ⟨_, pe_callBfun cr_gcd hg hm (pa_cons a1 (pa_cons b1 pa_nil hs2) hs) hdb hs hp, se_call2 a2 b2 fun Hf H c d x y z e hc hd e5 Q q => ?_⟩
  unfold fGcd at e5
  split at e5
  · cases e5; cases hc; cases hd; exact ⟨_, _, rfl, old e (.int _) q⟩
  · cases e5

theorem c_len : C1 X (.builtin "len") fLen := ⟨_, call_len, fun Hf H c x z e hc e5 Q q => by
  unfold fLen at e5
  split at e5
  · cases e5; cases hc with | tup hs ha => exact ⟨_, _, rfl, .inr ⟨_, ex_t e hs, rfl⟩, by rw [dps_len ha]; exact old e (.int _) q⟩
  · cases e5; cases hc with | lst hs ha => exact ⟨_, _, rfl, .inl ⟨_, ex_l e hs, rfl⟩, by rw [dps_len ha]; exact old e (.int _) q⟩
  · split at e5
    · rename_i hz; cases e5; cases hc; exact ⟨_, _, rfl, ⟨by rw [← line_eq]; exact hz, rfl⟩, old e (.int _) q⟩
    · cases e5
  · cases e5; obtain ⟨a, rfl, us, h1, d1⟩ := hc; exact ⟨_, _, rfl, .inl ⟨_, SqL.of h1, rfl⟩, by rw [dps_len d1]; exact old e (.int _) q⟩
  · cases e5⟩
theorem c_int : C1 X (.type "int") fInt := ⟨_, call_int1, fun Hf H c x z e hc e5 Q q => by
  unfold fInt at e5
  split at e5
  · cases e5; cases hc; exact .inl ⟨_, rfl, old e (.int _) q⟩
  · cases e5; cases hc; exact .inr ⟨_, rfl, old e (.int _) q⟩
  · cases e5⟩
theorem abs_if (i : Int) : (if i < 0 then -i else i) = (i.natAbs : Int) := by split <;> omega
theorem c_abs : C1 X (.builtin "abs") fAbs := ⟨_, call_abs, fun Hf H c x z e hc e5 Q q => by
  unfold fAbs at e5
  split at e5
  · cases e5; cases hc; exact ⟨_, rfl, by rw [abs_if]; exact old e (.int _) q⟩
  · cases e5⟩
theorem c_tuple : C1 X (.type "tuple") fTuple := ⟨_, call_tuple_of, fun Hf H c x z e hc e5 Q q => by
  unfold fTuple at e5
  split at e5
  · cases e5; cases hc with | tup hs ha => exact ⟨_, _, rfl, .inr ⟨ex_t e hs, old e (.tup hs ha) q⟩⟩
  · cases e5; cases hc with | lst hs ha => exact ⟨_, _, rfl, .inl ⟨ex_l e hs, newT e ha q⟩⟩
  · cases e5; obtain ⟨a, rfl, us, h1, d1⟩ := hc; exact ⟨_, _, rfl, .inl ⟨SqL.of h1, newT e d1 q⟩⟩
  · cases e5⟩
theorem c_list : C1 X (.type "list") fList := ⟨_, call_list_of, fun Hf H c x z e hc e5 Q q => by
  unfold fList at e5
  split at e5
  · cases e5; cases hc with | tup hs ha => exact ⟨_, _, rfl, .inr (ex_t e hs), newL e ha q⟩
  · cases e5; cases hc with | lst hs ha => exact ⟨_, _, rfl, .inl (ex_l e hs), newL e ha q⟩
  · cases e5; obtain ⟨a, rfl, us, h1, d1⟩ := hc; exact ⟨_, _, rfl, .inl (SqL.of h1), newL e d1 q⟩
  · cases e5⟩
/-! lists of ints, of bools -/
theorem lst_ok {c : Ct} {xs : List PV} {u : V} (e : Ex Hf H) (hc : RepC K Hf H c u) (h : c.lst? = some xs) : ∃ a us, u = .ref a ∧ SqL K H a us ∧ DpAll K Hf us xs := by
  unfold Ct.lst? at h
  split at h
  · cases h; cases hc with | lst hs ha => exact ⟨_, _, rfl, ex_l e hs, ha⟩
  · cases h; obtain ⟨a, rfl, us, h1, d1⟩ := hc; exact ⟨_, _, rfl, SqL.of h1, d1⟩
  · cases h
theorem ints_ok : ∀ {xs : List PV} {ns : List Int} {us : List V}, ints? xs = some ns → DpAll K Hf us xs → us = ns.map V.int
  | [], ns, us, h, d => by cases d; simp [ints?] at h; subst h; rfl
  | x :: xs, ns, us, h, d => by
    simp only [ints?, List.mapM_cons, Option.bind_eq_bind, Option.bind_eq_some_iff, Option.pure_def, Option.some.injEq] at h
    obtain ⟨n, h1, ms, h2, rfl⟩ := h
    cases d with
    | cons d1 d2 =>
      unfold intV? at h1
      split at h1
      · cases h1; cases d1; rw [ints_ok (ns := ms) h2 d2]; rfl
      · cases h1
theorem dps_ints : ∀ ns : List Int, DpAll K Hf (ns.map V.int) (ns.map PyData.int)
  | [] => .nil
  | n :: ns => .cons (.int n) (dps_ints ns)
theorem c_sum (hc : X.calm = true) : C1 X (.builtin "sum") fSum := ⟨_, cr_sum hc, fun Hf H c x z e hc e5 Q q => by
  simp only [fSum, Option.bind_eq_some_iff, Option.map_eq_some_iff] at e5
  obtain ⟨xs, h1, ns, h2, rfl⟩ := e5
  obtain ⟨a, us, rfl, hs, d⟩ := lst_ok e hc h1
  rw [ints_ok h2 d] at hs
  exact ⟨a, ns, rfl, hs, old e (.int _) q⟩⟩
/-! isinstance -/
def Ty.nm : Ty → String
  | .bool => "bool" | .int => "int" | .str => "str" | .tuple => "tuple"
theorem ty_tup {a : Addr} {us : List V} (h : SqT K H a us) : TyX K H (.ref a) (.type "tuple") := by
  rcases h with (h | ⟨o, h⟩) | ⟨o, its, n, h1, h2, _⟩
  · exact .base (.tup h)
  · exact .fTuple h
  · exact .kTuple h1 h2
theorem ty_lst {a : Addr} {us : List V} (h : SqL K H a us) : TyX K H (.ref a) (.type "list") := by
  rcases h with (h | ⟨o, h⟩) | ⟨o, its, n, h1, h2, _⟩
  · exact .base (.lst h)
  · exact .base (.frz h)
  · exact .kList h1 h2
def tyNm : PV → String
  | .none => "NoneType" | .bool _ => "bool" | .int _ => "int" | .str _ => "str" | .list _ => "list" | .tuple _ => "tuple" | .dict _ => "dict"
theorem kit_v (t : Ty) (v : PV) : PySem.W.kitOne K (.type (tyNm v)) (.type t.nm) = some (isTy t v) := by
  cases t <;> cases v <;> (refine kit_ty ?_; dsimp only [tyNm, Ty.nm, isTy]; decide +kernel)
theorem kit_l (t : Ty) : PySem.W.kitOne K (.type "list") (.type t.nm) = some false := by cases t <;> exact kit_ty (by decide +kernel)
theorem ty_v {v : PV} {u : V} (d : Dp K H u v) : TyX K H u (.type (tyNm v)) := by
  cases d with
  | non => exact .base .non
  | bl b => exact .base (.bl b)
  | int i => exact .base (.int i)
  | str x => exact .base (.str x)
  | lst h _ => exact ty_lst h
  | tup h _ => exact ty_tup h
theorem isi_S {t : Ty} : UnS K (fun x H Q => rIsi K [x, .ty t.nm] H Q) (fIsi t) := fun Hf H c x z e hc e5 Q q => by
  unfold fIsi at e5
  split at e5
  · cases e5
    exact ⟨x, _, _, _, _, rfl, .ty _, ty_v (dp_mono e _ _ hc), kit_v t _, old e (.bl _) q⟩
  · cases e5
    obtain ⟨p, rfl, vs, h1, _⟩ := hc
    exact ⟨_, _, _, _, _, rfl, .ty _, .base (.lst h1), kit_l t, old e (.bl _) q⟩
  · cases e5
/-- isinstance(e, T) -/
theorem be_isi (t : Ty) {y : Str} {p' : Pos} (hg : Gl X x) (hm : X.mg x = none) (hv : bootBuiltins x = some (.builtin "isinstance")) (hg' : Gl X y) (hm' : X.mg y = none) (hv' : bootBuiltins y = some (.type t.nm)) (ha : BE X a ma) (hn : x ≠ "__name__" := by decide) (hdb : (x == ("__debug__" : Str)) = false := by decide)
    (hn' : y ≠ "__name__" := by decide) (hdb' : (y == ("__debug__" : Str)) = false := by decide)
    (hs : starEach [a, .Name y p'] X.env = (false, eval a X.env) :: starEach [.Name y p'] X.env := by rfl) (hs2 : starEach [.Name y p'] X.env = (false, eval (.Name y p') X.env) :: starEach [] X.env := by rfl) (hp : (backTo pos (starEach [.Name y p'] X.env)).any (·.1) = false := by rfl) :
    BE X (.Call (.Name x p) [a, .Name y p'] [] pos) (mUn (fIsi t) ma) := by
  obtain ⟨te, a1, a2⟩ := ha
  exact ⟨_, pe_callB call_isi hg hm hv (pa_cons a1 (pa_cons (pe_bltn (v := .ty t.nm) hg' hm' hv' rfl hn' hdb') pa_nil hs2) hs) hn hdb hs hp, se_un a2 isi_S⟩

/-! ### items, slices -/
theorem ixN_eq (n : Nat) (i : Int) : ixN n i = L2.ixN n i := rfl
theorem at_ok {xs : List PV} {us : List V} {i : Int} {v : PV} (d : DpAll K Hf us xs) (h : atI xs i = some v) : ∃ u, L2.atI us i = some u ∧ Dp K Hf u v := by
  unfold atI at h
  rw [Option.bind_eq_some_iff] at h
  obtain ⟨j, h1, h2⟩ := h
  obtain ⟨u, h3, h4⟩ := dps_get d h2
  refine ⟨u, ?_, h4⟩
  unfold L2.atI
  rw [dps_len d, ← ixN_eq, h1]
  exact h3
theorem ix_S : OpS K (rIx K) fIx := fun Hf H c d x y z e hc hd e5 Q q => by
  unfold fIx at e5
  split at e5
  · rw [Option.map_eq_some_iff] at e5
    obtain ⟨v, h1, rfl⟩ := e5
    cases hd
    cases hc with
    | tup hs ha =>
      obtain ⟨u, h2, h3⟩ := at_ok ha h1
      exact .inr (.inl ⟨_, _, _, u, rfl, rfl, ex_t e hs, h2, old e h3 q⟩)
  · rw [Option.map_eq_some_iff] at e5
    obtain ⟨v, h1, rfl⟩ := e5
    cases hd
    cases hc with
    | lst hs ha =>
      obtain ⟨u, h2, h3⟩ := at_ok ha h1
      exact .inl ⟨_, _, _, u, rfl, rfl, ex_l e hs, h2, old e h3 q⟩
  · rw [Option.map_eq_some_iff] at e5
    obtain ⟨v, h1, rfl⟩ := e5
    cases hd
    obtain ⟨p, rfl, us, h4, ha⟩ := hc
    obtain ⟨u, h2, h3⟩ := at_ok ha h1
    exact .inl ⟨_, _, _, u, rfl, rfl, SqL.of h4, h2, old e h3 q⟩
  · split at e5
    · rename_i hz
      rw [Option.map_eq_some_iff] at e5
      obtain ⟨v, h1, rfl⟩ := e5
      cases hc
      cases hd
      refine .inr (.inr ⟨_, _, v, rfl, rfl, by rw [← line_eq]; exact hz, ?_, old e (.str _) q⟩)
      unfold L2.atI
      rw [Option.bind_eq_some_iff] at h1 ⊢
      obtain ⟨j, h2, h3⟩ := h1
      exact ⟨j, h2, by simpa using h3⟩
    · cases e5
  · cases e5
theorem be_ix (ha : BE X a ma) (hb : BE X b mb) (hs : PlainIx b := by intro _ _; rfl) : BE X (.Subscript a b pos) (mOp fIx ma mb) := by
  obtain ⟨t, a1, a2⟩ := ha
  obtain ⟨u, b1, b2⟩ := hb
  exact ⟨_, pe_ix ix_seq a1 b1 hs, se_op a2 b2 ix_S⟩
structure BO (X : Cx) (e : Option Expr) (m : MO) : Prop where
  ex : ∃ t, PO X e t ∧ ∀ (ρ : Env) (r : Option Int) (ρ' : Env) (σ : L2.St) (Hf H : Hp), m ρ = some (r, ρ') → RepE X.K Hf H ρ σ → ∀ Q : Option Int → Hp → Prop,
    (∀ Hf' H', Step (Own ρ σ) Hf H Hf' H' → RepE X.K Hf' H' ρ' σ → Kp ρ ρ' → Q r H') → t σ H Q
theorem bo_none : BO X none oNone := ⟨_, po_none, fun ρ r ρ' σ Hf H hm E Q q => by cases hm; exact q Hf H (.refl E.ff) E .refl⟩
theorem bo_some (ha : BE X a ma) : BO X (some a) (oSome ma) := by
  obtain ⟨t, a1, a2⟩ := ha
  refine ⟨_, po_some a1, fun ρ r ρ' σ Hf H hm E Q q => ?_⟩
  simp only [oSome, Option.bind_eq_some_iff, Option.map_eq_some_iff, Prod.mk.injEq] at hm
  obtain ⟨⟨x, ρ1⟩, e1, c, e3, i, e5, rfl, rfl⟩ := hm
  refine a2 ρ x ρ1 σ Hf H e1 E _ fun u Hf1 H1 S1 E1 R1 k1 => ?_
  have hc := look_ok E1 R1 e3
  unfold intOf at e5
  split at e5
  · cases e5; cases hc; exact ⟨i, rfl, q Hf1 H1 S1 E1 k1⟩
  · cases e5
theorem cut_ok {xs : List PV} {us : List V} {lo hi : Option Int} (d : DpAll K Hf us xs) : DpAll K Hf (cutV us lo hi) (cut xs lo hi) := by
  unfold cut cutV
  rw [dps_len d]
  have e1 : ∀ n d o, sIx n d o = HT.sIx n d o := fun n d o => by cases o <;> rfl
  rw [e1, e1]
  exact dps_take _ (dps_drop _ d)
theorem sl_S {lo hi : Option Int} : UnS K (fun x H Q => rSlL K x lo hi H Q ∨ rSlA K x lo hi H Q) (fSl lo hi) := fun Hf H c x z e hc e5 Q q => by
  unfold fSl at e5
  split at e5
  · rename_i xs
    cases e5
    cases hc with
    | @tup a us _ hs ha =>
      refine .inr ⟨a, us, rfl, ex_t e hs, fun ⟨h1, h2⟩ => ?_, fun _ => newT e (cut_ok ha) q⟩
      have e1 : cut xs lo hi = xs := by
        have e1 : ∀ n d o, sIx n d o = HT.sIx n d o := fun n d o => by cases o <;> rfl
        unfold cut
        rw [e1, e1, ← dps_len ha, h1, h2, dps_len ha]
        simp
      rw [e1] at q
      exact old e (.tup hs ha) q
  · cases e5
    cases hc with
    | lst hs ha => exact .inl ⟨_, _, rfl, ex_l e hs, newL e (cut_ok ha) q⟩
  · cases e5
    obtain ⟨p, rfl, us, h4, ha⟩ := hc
    exact .inl ⟨_, _, rfl, SqL.of h4, newL e (cut_ok ha) q⟩
  · cases e5
theorem be_sl {lo hi : Option Expr} {ml mh : MO} {p2 : Pos} (ha : BE X a ma) (hl : BO X lo ml) (hh : BO X hi mh) : BE X (.Subscript a (.Slice lo hi none p2) pos) (mSl ma ml mh) := by
  obtain ⟨t, a1, a2⟩ := ha
  obtain ⟨tl, l1, l2⟩ := hl
  obtain ⟨th, h1, h2⟩ := hh
  refine ⟨_, pe_slice (sl_list.or sl_tupA) a1 l1 h1, fun ρ r ρ' σ Hf H hm E Q q => ?_⟩
  simp only [mSl, Option.bind_eq_some_iff, Option.map_eq_some_iff, Prod.mk.injEq] at hm
  obtain ⟨⟨x, ρ1⟩, e1, ⟨i, ρ2⟩, e2, ⟨j, ρ3⟩, e3, c, e4, z, e5, rfl, rfl⟩ := hm
  refine a2 ρ x ρ1 σ Hf H e1 E _ fun u Hf1 H1 S1 E1 R1 k1 => ?_
  have B1 : Bh X.K Hf H ρ σ Hf1 H1 ρ1 := ⟨S1, E1, k1⟩
  refine l2 ρ1 i ρ2 σ Hf1 H1 e2 E1 _ fun Hf2 H2 S2 E2 k2 => ?_
  have B2 : Bh X.K Hf1 H1 ρ1 σ Hf2 H2 ρ2 := ⟨S2, E2, k2⟩
  refine h2 ρ2 j ρ3 σ Hf2 H2 e3 E2 _ fun Hf3 H3 S3 E3 k3 => ?_
  have B3 : Bh X.K Hf2 H2 ρ2 σ Hf3 H3 ρ3 := ⟨S3, E3, k3⟩
  have R1' := B1.keepR E (B2.trans B3) R1
  refine sl_S Hf3 H3 c u z E3.ff (look_ok E3 R1' e4) e5 _ fun t Hf4 H4 S4 R4 => ?_
  have B4 := (B1.trans (B2.trans B3)).more S4
  exact q t Hf4 H4 B4.st B4.en (R4.any.back fun p hp => (B1.trans (B2.trans B3)).fresh hp) B4.kp
end
end Py
/-! Py4: what changes a name's object; statements. -/
namespace Py
open PySem PySem.Spec PyProof.Rows L2

section
variable {K : PySem.W.Frag} {Hf H Hf' H' Hf1 H1 Hf2 H2 H0 : Hp} {ρ ρ' ρ1 ρ2 : Env} {σ σ' σ1 σ2 : L2.St} {O O' O1 : Addr → Prop} {X : Cx}
theorem obAt_ok {i : Nat} {o : Ob} (E : RepE K Hf H ρ σ) (h : obAt ρ i = some o) : ∃ p, OwnAt ρ σ i p ∧ slot σ i = some (.ref p) ∧ Hf p = none ∧ RepOb K Hf H p o ∧ i < ρ.length := by
  unfold obAt at h
  cases g : get ρ i with
  | none => rw [g] at h; cases h
  | some s =>
    have hi : i < ρ.length := by
      by_cases hl : i < ρ.length
      · exact hl
      · unfold get at g
        rw [List.getElem?_eq_none (by omega)] at g
        cases g
    obtain ⟨u, h1, h2⟩ := E.sl i s g
    cases s with
    | val v => rw [g] at h; cases h
    | own o' => rw [g] at h; cases h; obtain ⟨p, rfl, f, r⟩ := h2; exact ⟨p, ⟨by rw [g]; rfl, h1⟩, h1, f, r, hi⟩
    | ref o' => rw [g] at h; cases h; obtain ⟨p, rfl, f, r⟩ := h2; exact ⟨p, ⟨by rw [g]; rfl, h1⟩, h1, f, r, hi⟩
    | lck kvs => rw [g] at h; cases h
theorem lstAt_ok {i : Nat} {xs : List PV} (E : RepE K Hf H ρ σ) (h : lstAt ρ i = some xs) : obAt ρ i = some (.lst xs) := by
  unfold lstAt at h
  split at h
  · cases h; assumption
  · cases h
theorem get_setOb (i j : Nat) (o : Ob) (hi : i < ρ.length) : get (setOb ρ i o) j = if i = j then (if isRef (get ρ i) then some (.ref o) else some (.own o)) else get ρ j := by
  unfold setOb
  cases g : get ρ i with
  | none => dsimp only; rw [get_set]; by_cases h : i = j <;> simp [h, hi, isRef] <;> (intro z; omega)
  | some s =>
    cases s <;> (dsimp only; rw [get_set]; by_cases h : i = j <;> simp [h, hi, isRef] <;> (intro z; omega))
/-- a name's object is changed -/
theorem mut_ok {i : Nat} {o o' : Ob} {p : Addr} {ho : HO} (E : RepE K Hf H ρ σ) (ha : OwnAt ρ σ i p) (hi : i < ρ.length) (r : RepOb K Hf (upd H p ho) p o') :
    Bh K Hf H ρ σ Hf (upd H p ho) (setOb ρ i o') := by
  obtain ⟨⟨x, hx⟩, fp⟩ := E.there ⟨i, ha⟩
  have ob : ∀ j, isOb (get (setOb ρ i o') j) = true → isOb (get ρ j) = true := fun j h => by
    rw [get_setOb i j o' hi] at h
    by_cases e : i = j
    · rw [← e]; exact ha.1
    · rw [if_neg e] at h; exact h
  refine ⟨⟨fun _ _ h => h, fun a o h => ?_, fun a o h n => ?_, fun _ _ _ _ => rfl, fun a o h => ?_⟩, ⟨?_, fun a o h => ?_, fun j s h => ?_, fun j k q a b => E.dis j k q ⟨ob j a.1, a.2⟩ ⟨ob k b.1, b.2⟩⟩, ⟨ob, fun j => ?_⟩⟩
  · rw [upd_ne (ne_of_none h fp)]; exact E.ff a o h
  · rw [upd_ne (fun z => n ⟨i, by rw [z]; exact ha⟩)]; exact h
  · by_cases e : a = p
    · subst e; exact ⟨_, upd_same⟩
    · exact ⟨o, by rw [upd_ne e]; exact h⟩
  · unfold setOb; split <;> rw [List.length_set] <;> exact E.len
  · rw [upd_ne (ne_of_none h fp)]; exact E.ff a o h
  · rw [get_setOb i j o' hi] at h
    by_cases e : i = j
    · subst e
      rw [if_pos rfl] at h
      refine ⟨_, ha.2, ?_⟩
      split at h
      · cases h; exact ⟨p, rfl, fp, r⟩
      · cases h; exact ⟨p, rfl, fp, r⟩
    · rw [if_neg e] at h
      obtain ⟨u, h1, h2⟩ := E.sl j s h
      refine ⟨u, h1, ?_⟩
      have np : ∀ q, u = .ref q → isOb (some s) = true → q ≠ p := fun q hu hb z => e (E.dis i j p ha ⟨by rw [h]; exact hb, by rw [h1, hu, z]⟩)
      cases s with
      | val v => exact h2
      | own o2 =>
        obtain ⟨q, e1, f1, r1⟩ := h2
        refine ⟨q, e1, f1, ?_⟩
        cases o2 with
        | lst ys => obtain ⟨vs, a, b⟩ := r1; exact ⟨vs, by rw [upd_ne (np q e1 rfl)]; exact a, b⟩
        | dct ys => obtain ⟨vs, a, b⟩ := r1; exact ⟨vs, by rw [upd_ne (np q e1 rfl)]; exact a, b⟩
      | ref o2 =>
        obtain ⟨q, e1, f1, r1⟩ := h2
        refine ⟨q, e1, f1, ?_⟩
        cases o2 with
        | lst ys => obtain ⟨vs, a, b⟩ := r1; exact ⟨vs, by rw [upd_ne (np q e1 rfl)]; exact a, b⟩
        | dct ys => obtain ⟨vs, a, b⟩ := r1; exact ⟨vs, by rw [upd_ne (np q e1 rfl)]; exact a, b⟩
      | lck kvs => exact h2
  · rw [get_setOb i j o' hi]
    by_cases e : i = j
    · subst e
      rw [if_pos rfl]
      cases hr : isRef (get ρ i) <;> simp [isRef]
    · rw [if_neg e]
/-! ### methods of a name's list -/
theorem se_append {i : Nat} {te : TE} {a : M} (ha : SE K te a) : SE K (tBM K "list" rAppend (tVar i) (tCons te tNil)) (mAppend i a) := by
  intro ρ r ρ' σ Hf H hm E Q q
  simp only [mAppend, Option.bind_eq_some_iff] at hm
  obtain ⟨ys, h0, ⟨x, ρ1⟩, e1, ⟨v, ρ2⟩, e2, xs, e3, e4⟩ := hm
  split at e4
  · rename_i hz
    cases e4
    obtain ⟨p, o1, s1, f1, ⟨vs, hv, dv⟩, _⟩ := obAt_ok E (lstAt_ok E h0)
    refine ⟨_, slot_at s1, .inl ⟨rfl, _, SqL.of hv⟩, ?_⟩
    refine ha ρ x ρ1 σ Hf H e1 E _ fun u Hf1 H1 S1 E1 R1 k1 => ?_
    have B1 : Bh K Hf H ρ σ Hf1 H1 ρ1 := ⟨S1, E1, k1⟩
    obtain ⟨Hf2, B2, d⟩ := B1.frz E R1 e2
    obtain ⟨p', o2, s2, f2, ⟨ws, hw, dw⟩, hi⟩ := obAt_ok B2.en (lstAt_ok B2.en e3)
    rw [s1] at s2
    cases s2
    have B3 := mut_ok (o := .lst xs) (o' := .lst (xs ++ [v])) (ho := .lst (ws ++ [u])) B2.en o2 hi ⟨_, upd_same, dps_app dw (.cons d .nil)⟩
    have B4 := B2.trans B3
    exact ⟨p, ws, u, rfl, rfl, hw, by rw [dps_len dw, ← line_eq]; exact hz, q _ _ _ B4.st B4.en .non B4.kp⟩
  · cases e4
theorem se_pop {i : Nat} : SE K (tBM0 K "list" rPop (tVar i)) (mPop i) := by
  intro ρ r ρ' σ Hf H hm E Q q
  simp only [mPop, Option.bind_eq_some_iff, Option.map_eq_some_iff, Prod.mk.injEq] at hm
  obtain ⟨xs, h0, v, e1, rfl, rfl⟩ := hm
  obtain ⟨p, o1, s1, f1, ⟨vs, hv, dv⟩, hi⟩ := obAt_ok E (lstAt_ok E h0)
  rw [List.getLast?_eq_getElem?] at e1
  obtain ⟨u, h1, h2⟩ := dps_get dv e1
  rw [← dps_len dv] at h1
  have B := mut_ok (o := .lst xs) (o' := .lst xs.dropLast) (ho := .lst vs.dropLast) E o1 hi ⟨_, upd_same, dps_dropLast dv⟩
  exact ⟨_, slot_at s1, .inl ⟨rfl, _, SqL.of hv⟩, p, vs, u, rfl, rfl, hv, h1, q _ _ _ B.st B.en h2 B.kp⟩
theorem se_reverse {i : Nat} : SE K (tBM0 K "list" rReverse (tVar i)) (mReverse i) := by
  intro ρ r ρ' σ Hf H hm E Q q
  simp only [mReverse, Option.map_eq_some_iff, Prod.mk.injEq] at hm
  obtain ⟨xs, h0, rfl, rfl⟩ := hm
  obtain ⟨p, o1, s1, f1, ⟨vs, hv, dv⟩, hi⟩ := obAt_ok E (lstAt_ok E h0)
  have B := mut_ok (o := .lst xs) (o' := .lst xs.reverse) (ho := .lst vs.reverse) E o1 hi ⟨_, upd_same, dps_rev dv⟩
  exact ⟨_, slot_at s1, .inl ⟨rfl, _, SqL.of hv⟩, p, vs, rfl, rfl, hv, q _ _ _ B.st B.en .non B.kp⟩
variable {a b : Expr} {ma mb : M} {x : Str} {p pos apos : Pos}
theorem be_append (i : Nat) (ho : PE X (.Name x p) (tVar i)) (ha : BE X a ma) (hbase : attributeBase (.Name x p) "append" X.env (eval (.Name x p) X.env) = eval (.Name x p) X.env := by rfl)
    (hfew : ((backTo pos (starEach [a] X.env)).all (fun x => !x.1) && (backToKw pos (keywordEach [] X.env)).all (fun x => x.1.isSome) && decide (([a] : List Expr).length + ([] : List Keyword).length + (if ([] : List Keyword).isEmpty then 0 else 1) < 30)) = true := by rfl)
    (hline : (apos.endLine == pos.line) = true := by rfl) (hs : starEach [a] X.env = (false, eval a X.env) :: starEach [] X.env := by rfl) (hp : (backTo pos (starEach [] X.env)).any (·.1) = false := by rfl) :
    BE X (.Call (.Attribute (.Name x p) "append" apos) [a] [] pos) (mAppend i ma) := by
  obtain ⟨t, a1, a2⟩ := ha
  exact ⟨_, pe_bm PySem.F.plainAttrs_list PySem.F.slot_list_append PySem.F.type_list_append mt_append ho (pa_cons a1 pa_nil hs) hbase hfew hline hs hp, se_append a2⟩
theorem be_pop (i : Nat) (ho : PE X (.Name x p) (tVar i)) (hbase : attributeBase (.Name x p) "pop" X.env (eval (.Name x p) X.env) = eval (.Name x p) X.env := by rfl) (hline : (apos.endLine == pos.line) = true := by rfl) :
    BE X (.Call (.Attribute (.Name x p) "pop" apos) [] [] pos) (mPop i) :=
  ⟨_, pe_bm0 PySem.F.plainAttrs_list PySem.F.slot_list_pop PySem.F.type_list_pop mt_pop ho hbase hline, se_pop⟩
theorem be_reverse (i : Nat) (ho : PE X (.Name x p) (tVar i)) (hbase : attributeBase (.Name x p) "reverse" X.env (eval (.Name x p) X.env) = eval (.Name x p) X.env := by rfl) (hline : (apos.endLine == pos.line) = true := by rfl) :
    BE X (.Call (.Attribute (.Name x p) "reverse" apos) [] [] pos) (mReverse i) :=
  ⟨_, pe_bm0 PySem.F.plainAttrs_list PySem.F.slot_list_reverse PySem.F.type_list_reverse mt_reverse ho hbase hline, se_reverse⟩
theorem be_frz (ha : BE X a ma) : BE X a (mFrz ma) := by
  obtain ⟨t, a1, a2⟩ := ha
  refine ⟨t, a1, fun ρ r ρ' σ Hf H hm E Q q => ?_⟩
  simp only [mFrz, Option.bind_eq_some_iff, Option.map_eq_some_iff, Prod.mk.injEq] at hm
  obtain ⟨⟨x, ρ1⟩, e1, ⟨v, ρ2⟩, e2, rfl, rfl⟩ := hm
  refine a2 ρ x ρ1 σ Hf H e1 E _ fun u Hf1 H1 S1 E1 R1 k1 => ?_
  obtain ⟨Hf2, B2, d⟩ := (⟨S1, E1, k1⟩ : Bh X.K Hf H ρ σ Hf1 H1 ρ1).frz E R1 e2
  exact q u Hf2 H1 B2.st B2.en d B2.kp
/-- a constant tuple of the module -/
theorem be_glob {vs : List PV} {g : Addr} (hg : Gl X x) (hm : X.mg x = some (.ref g)) (hd : ∀ H : Hp, Dp X.K H (.ref g) (.tuple vs)) (hdb : (x == ("__debug__" : Str)) = false := by decide) : BE X (.Name x pos) (mC (.tuple vs)) :=
  ⟨_, pe_glob (v := .ref g) hg hm rfl hdb, se_c hd⟩
theorem be_dct0 : BE X (.Dict [] [] pos) mDct0 := ⟨_, pe_dnewK, fun ρ r ρ' σ Hf H hm E Q q => by
  cases hm
  intro p hp
  obtain ⟨S, fp⟩ := new_ob (o := .dK []) E.ff hp
  have B := (Bh.refl E).more S
  exact q _ _ _ B.st B.en ⟨p, rfl, hp, fp, [], upd_same, .nil⟩ B.kp⟩
end

/-! ### statements -/
structure BhS (K : PySem.W.Frag) (Hf H : Hp) (ρ : Env) (σ : L2.St) (Hf1 H1 : Hp) (ρ1 : Env) (σ1 : L2.St) : Prop where
  st : Step (Own ρ σ) Hf H Hf1 H1
  en : RepE K Hf1 H1 ρ1 σ1
  own : ∀ p, Own ρ1 σ1 p → Own ρ σ p ∨ H p = none
  ref : ∀ i, isRef (get ρ1 i) = isRef (get ρ i) ∧ (isRef (get ρ i) = true → slot σ1 i = slot σ i)
def FlR (K : PySem.W.Frag) (D : Ends) (f : Fl) (Hf H H0 : Hp) (σ : L2.St) : Prop := match f with
  | .nx => D.nx σ H
  | .bk => D.bk σ H
  | .ct => D.ct σ H
  | .rt r => ∀ u, RepR K Hf H H0 σ r u → D.rt u H
def SS (K : PySem.W.Frag) (ts : TS) (m : SM) : Prop := ∀ (ρ : Env) (f : Fl) (ρ' : Env) (σ : L2.St) (Hf H : Hp), m ρ = some (f, ρ') → RepE K Hf H ρ σ → ∀ D : Ends,
  (∀ σ' Hf' H', BhS K Hf H ρ σ Hf' H' ρ' σ' → FlR K D f Hf' H' H σ') → ts D σ H
structure BS (X : Cx) (st : Stmt) (m : SM) : Prop where
  ex : ∃ t, PS X st t ∧ SS X.K t m
structure BSs (X : Cx) (st : List Stmt) (m : SM) : Prop where
  ex : ∃ t, PSs X st t ∧ SS X.K t m
/-- a target: nothing in the heap changes -/
structure BhG (K : PySem.W.Frag) (Hf H H0 : Hp) (ρ : Env) (σ : L2.St) (Hf1 : Hp) (ρ1 : Env) (σ1 : L2.St) : Prop where
  st : Step (fun p => Own ρ σ p ∨ H0 p = none) Hf H Hf1 H
  en : RepE K Hf1 H ρ1 σ1
  own : ∀ p, Own ρ1 σ1 p → Own ρ σ p ∨ H0 p = none
  ref : ∀ i, isRef (get ρ1 i) = isRef (get ρ i) ∧ (isRef (get ρ i) = true → slot σ1 i = slot σ i)
def SG (K : PySem.W.Frag) (g : TG) (m : MG) : Prop := ∀ (r : R) (ρ ρ' : Env) (σ : L2.St) (Hf H H0 : Hp) (u : V), m r ρ = some ρ' → RepE K Hf H ρ σ → RepR K Hf H H0 σ r u → (∀ q, Own ρ σ q → H0 q ≠ none) → ∀ Q : L2.St → Hp → Prop,
  (∀ σ' Hf', BhG K Hf H H0 ρ σ Hf' ρ' σ' → Q σ' H) → g u σ H Q
structure BG (X : Cx) (tg : Expr) (m : MG) : Prop where
  ex : ∃ g, PG X tg g ∧ SG X.K g m

section
variable {K : PySem.W.Frag} {Hf H Hf' H' Hf1 H1 Hf2 H2 H0 : Hp} {ρ ρ' ρ1 ρ2 : Env} {σ σ' σ1 σ2 : L2.St} {O O' O1 : Addr → Prop} {X : Cx}
theorem Bh.s (a : Bh K Hf H ρ σ Hf1 H1 ρ1) : BhS K Hf H ρ σ Hf1 H1 ρ1 σ := ⟨a.st, a.en, fun _ h => .inl (a.kp.sub h), fun i => ⟨a.kp.ref i, fun _ => rfl⟩⟩
theorem BhS.refl (E : RepE K Hf H ρ σ) : BhS K Hf H ρ σ Hf H ρ σ := (Bh.refl E).s
theorem BhS.trans (a : BhS K Hf H ρ σ Hf1 H1 ρ1 σ1) (b : BhS K Hf1 H1 ρ1 σ1 Hf2 H2 ρ2 σ2) : BhS K Hf H ρ σ Hf2 H2 ρ2 σ2 := by
  refine ⟨a.st.trans b.st a.own, b.en, fun p h => ?_, fun i => ?_⟩
  · rcases b.own p h with z | z
    · exact a.own p z
    · exact .inr (a.st.fresh z)
  · obtain ⟨x1, x2⟩ := a.ref i
    obtain ⟨y1, y2⟩ := b.ref i
    exact ⟨y1.trans x1, fun h => (y2 (x1.trans h)).trans (x2 h)⟩
theorem BhS.fresh (a : BhS K Hf H ρ σ Hf1 H1 ρ1 σ1) {p : Addr} (h : H1 p = none) : H p = none := a.st.fresh h
theorem Bh.g (a : Bh K Hf H ρ σ Hf1 H1 ρ1) (b : BhG K Hf1 H1 H ρ1 σ Hf2 ρ2 σ2) : BhS K Hf H ρ σ Hf2 H1 ρ2 σ2 := by
  refine ⟨a.st.trans b.st fun p h => ?_, b.en, fun p h => ?_, fun i => ?_⟩
  · rcases h with h | h
    · exact .inl (a.kp.sub h)
    · exact .inr h
  · rcases b.own p h with z | z
    · exact .inl (a.kp.sub z)
    · exact .inr z
  · obtain ⟨y1, y2⟩ := b.ref i
    exact ⟨y1.trans (a.kp.ref i), fun h => y2 ((a.kp.ref i).trans h)⟩
theorem FlR.back {D : Ends} {f : Fl} (h : FlR K D f Hf H H0 σ) (z : ∀ p, H1 p = none → H0 p = none) : FlR K D f Hf H H1 σ := by
  cases f with
  | nx => exact h
  | bk => exact h
  | ct => exact h
  | rt r => exact fun u hu => h u (hu.back z)
/-- a value, or a new object, at a name -/
theorem put_ok {i : Nat} {s : Sl} {u : V} (E : RepE K Hf H ρ σ) (h : put i (some s) ρ = some ρ') (r : RepSl K Hf H s u) (n : ∀ p, isOb (some s) = true → u = .ref p → ¬ Own ρ σ p) :
    RepE K Hf H ρ' (σ.set i (some u)) ∧ (∀ p, Own ρ' (σ.set i (some u)) p → Own ρ σ p ∨ (isOb (some s) = true ∧ u = .ref p)) ∧ (∀ j, (isRef (get ρ' j) = true → isRef (some s) = true) ∨ isRef (get ρ' j) = isRef (get ρ j)) ∧
      (∀ j, isRef (some s) = false → isRef (get ρ' j) = isRef (get ρ j) ∧ (isRef (get ρ j) = true → slot (σ.set i (some u)) j = slot σ j)) := by
  unfold put at h
  split at h
  · cases h
  · rename_i nr
    cases h
    have hg : ∀ j, get (ρ.set i (some s)) j = if i = j ∧ i < ρ.length then some s else get ρ j := fun j => get_set ρ i j (some s)
    have hs : ∀ j, slot (σ.set i (some u)) j = if i = j ∧ i < σ.length then some u else slot σ j := fun j => slot_set σ i j (some u)
    have ow : ∀ j p, OwnAt (ρ.set i (some s)) (σ.set i (some u)) j p → (i = j ∧ i < ρ.length ∧ isOb (some s) = true ∧ u = .ref p) ∨ (OwnAt ρ σ j p ∧ ¬ (i = j ∧ i < ρ.length)) := fun j p ⟨a, b⟩ => by
      rw [hg] at a
      rw [hs, ← E.len] at b
      by_cases c : i = j ∧ i < ρ.length
      · rw [if_pos c] at a b
        cases b
        exact .inl ⟨c.1, c.2, a, rfl⟩
      · rw [if_neg c] at a b
        exact .inr ⟨⟨a, b⟩, c⟩
    refine ⟨⟨by rw [List.length_set, List.length_set]; exact E.len, E.ff, fun j t e => ?_, fun j k p a b => ?_⟩, fun p ⟨j, a⟩ => ?_, fun j => ?_, fun j hr => ⟨?_, fun hj => ?_⟩⟩
    · rw [hg] at e
      rw [hs, ← E.len]
      by_cases c : i = j ∧ i < ρ.length
      · rw [if_pos c] at e ⊢
        cases e
        exact ⟨u, rfl, r⟩
      · rw [if_neg c] at e ⊢
        exact E.sl j t e
    · rcases ow j p a with ⟨e1, l1, b1, u1⟩ | ⟨a1, c1⟩ <;> rcases ow k p b with ⟨e2, l2, b2, u2⟩ | ⟨a2, c2⟩
      · omega
      · exact absurd ⟨k, a2⟩ (n p b1 u1)
      · exact absurd ⟨j, a1⟩ (n p b2 u2)
      · exact E.dis j k p a1 a2
    · rcases ow j p a with ⟨e1, l1, b1, u1⟩ | ⟨a1, c1⟩
      · exact .inr ⟨b1, u1⟩
      · exact .inl ⟨j, a1⟩
    · rw [hg]
      by_cases c : i = j ∧ i < ρ.length
      · rw [if_pos c]; exact .inl fun z => z
      · rw [if_neg c]; exact .inr rfl
    · rw [hg]
      by_cases c : i = j ∧ i < ρ.length
      · rw [if_pos c, hr, ← c.1]; simpa using nr
      · rw [if_neg c]
    · rw [hs]
      have c : ¬ (i = j ∧ i < σ.length) := fun c => by
        rw [← c.1] at hj
        rw [hj] at nr
        exact nr rfl
      rw [if_neg c]
theorem sg_name (i : Nat) : SG K (L2.gName i) (Py.gName i) := by
  intro r ρ ρ' σ Hf H H0 u hm E R no Q q
  cases r with
  | val v =>
    obtain ⟨E1, h1, _, h3⟩ := put_ok (u := u) E hm R fun p h => nomatch h
    exact q _ Hf ⟨.refl E.ff, E1, fun p hp => (h1 p hp).imp id (fun z => nomatch z.1), fun j => h3 j rfl⟩
  | new o =>
    obtain ⟨p, rfl, z, f, r⟩ := R
    have np : ¬ Own ρ σ p := fun h => no p h z
    obtain ⟨E1, h1, _, h3⟩ := put_ok (s := .own o) (u := .ref p) E hm ⟨p, rfl, f, r⟩ fun p' _ h => by cases h; exact np
    exact q _ Hf ⟨.refl E.ff, E1, fun p' hp => (h1 p' hp).imp id fun z' => by cases z'.2; exact z, fun j => h3 j rfl⟩
  | bor j =>
    have hm' : (frz (.bor j) ρ).bind (fun v => put i (some (.val v.1)) v.2) = some ρ' := hm
    rw [Option.bind_eq_some_iff] at hm'
    obtain ⟨⟨v, ρ1⟩, e1, e2⟩ := hm'
    obtain ⟨Hf1, S, E1, d, k⟩ := frz_ok E R no e1
    obtain ⟨E2, h1, _, h3⟩ := put_ok (s := .val v) (u := u) E1 e2 d fun p h => nomatch h
    exact q _ Hf1 ⟨S, E2, fun p hp => (h1 p hp).elim (fun z => .inl (k.sub z)) (fun z => nomatch z.1), fun l => ⟨((h3 l rfl).1).trans (k.ref l), fun hl => (h3 l rfl).2 ((k.ref l).trans hl)⟩⟩
theorem bg_name (i : Nat) {x : Str} {pos : Pos} (hN : X.N.Nodup) (hi : X.N[i]? = some x := by rfl) (hx : Loc X.env.scope x := by first | exact Or.inl rfl | exact Or.inr rfl) (hf : X.fn x = true ∨ X.env.scope.names.lookup x = some .local := by first | exact .inl rfl | exact .inr rfl | assumption) : BG X (.Name x pos) (Py.gName i) :=
  ⟨_, pg_name hN hi hx hf, sg_name i⟩
end
end Py
/-! Py5: statements, loops, comprehensions. -/
namespace Py
open PySem PySem.Spec PyProof.Rows L2

section
variable {K : PySem.W.Frag} {Hf H Hf' H' Hf1 H1 Hf2 H2 H0 : Hp} {ρ ρ' ρ1 ρ2 : Env} {σ σ' σ1 σ2 : L2.St} {O O' O1 : Addr → Prop} {X : Cx}
theorem ss_next : SS K tNext sNext := by
  intro ρ f ρ' σ Hf H hm E D q
  cases hm
  exact q σ Hf H (.refl E)
theorem ss_brk : SS K tBreak sBrk := by
  intro ρ f ρ' σ Hf H hm E D q
  cases hm
  exact q σ Hf H (.refl E)
theorem ss_seq {t u : TS} {a b : SM} (ha : SS K t a) (hb : SS K u b) : SS K (tSeq t u) (sSeq a b) := by
  intro ρ f ρ' σ Hf H hm E D q
  simp only [sSeq, Option.bind_eq_some_iff] at hm
  obtain ⟨⟨f1, ρ1⟩, e1, e2⟩ := hm
  refine ha ρ f1 ρ1 σ Hf H e1 E _ fun σ1 Hf1 H1 B1 => ?_
  cases f1 with
  | nx =>
    refine hb ρ1 f ρ' σ1 Hf1 H1 e2 B1.en D fun σ2 Hf2 H2 B2 => ?_
    exact (q σ2 Hf2 H2 (B1.trans B2)).back fun p hp => B1.fresh hp
  | bk => cases e2; exact q σ1 Hf1 H1 B1
  | ct => cases e2; exact q σ1 Hf1 H1 B1
  | rt r => cases e2; exact q σ1 Hf1 H1 B1
theorem ss_if {tt : TT} {t u : TS} {c : MT} {a b : SM} (hc : ST K tt c) (ha : SS K t a) (hb : SS K u b) : SS K (tIfS tt t u) (sIf c a b) := by
  intro ρ f ρ' σ Hf H hm E D q
  simp only [sIf, Option.bind_eq_some_iff] at hm
  obtain ⟨⟨x, ρ1⟩, e1, e2⟩ := hm
  refine hc ρ x ρ1 σ Hf H e1 E _ fun Hf1 H1 S1 E1 k1 => ?_
  have B1 : Bh K Hf H ρ σ Hf1 H1 ρ1 := ⟨S1, E1, k1⟩
  cases x with
  | true =>
    simp only [if_true] at e2 ⊢
    exact ha ρ1 f ρ' σ Hf1 H1 e2 E1 D fun σ2 Hf2 H2 B2 => (q σ2 Hf2 H2 (B1.s.trans B2)).back fun p hp => B1.fresh hp
  | false =>
    simp only [Bool.false_eq_true, if_false] at e2 ⊢
    exact hb ρ1 f ρ' σ Hf1 H1 e2 E1 D fun σ2 Hf2 H2 B2 => (q σ2 Hf2 H2 (B1.s.trans B2)).back fun p hp => B1.fresh hp
theorem ss_ret {te : TE} {a : M} (ha : SE K te a) : SS K (tRet te) (sRet a) := by
  intro ρ f ρ' σ Hf H hm E D q
  simp only [sRet, Option.map_eq_some_iff, Prod.mk.injEq] at hm
  obtain ⟨⟨x, ρ1⟩, e1, rfl, rfl⟩ := hm
  exact ha ρ x ρ1 σ Hf H e1 E _ fun u Hf1 H1 S1 E1 R1 k1 => q σ Hf1 H1 (⟨S1, E1, k1⟩ : Bh K Hf H ρ σ Hf1 H1 ρ1).s u R1
theorem ss_expr {te : TE} {a : M} (ha : SE K te a) : SS K (tDrop te) (sExpr a) := by
  intro ρ f ρ' σ Hf H hm E D q
  simp only [sExpr, Option.map_eq_some_iff, Prod.mk.injEq] at hm
  obtain ⟨⟨x, ρ1⟩, e1, rfl, rfl⟩ := hm
  exact ha ρ x ρ1 σ Hf H e1 E _ fun u Hf1 H1 S1 E1 R1 k1 => q σ Hf1 H1 (⟨S1, E1, k1⟩ : Bh K Hf H ρ σ Hf1 H1 ρ1).s
theorem ss_asg {te : TE} {g : TG} {a : M} {m : MG} (ha : SE K te a) (hg : SG K g m) : SS K (tAsg te g) (sAsg a m) := by
  intro ρ f ρ' σ Hf H hm E D q
  simp only [sAsg, Option.bind_eq_some_iff, Option.map_eq_some_iff, Prod.mk.injEq] at hm
  obtain ⟨⟨x, ρ1⟩, e1, ρ2, e2, rfl, rfl⟩ := hm
  refine ha ρ x ρ1 σ Hf H e1 E _ fun u Hf1 H1 S1 E1 R1 k1 => ?_
  have B1 : Bh K Hf H ρ σ Hf1 H1 ρ1 := ⟨S1, E1, k1⟩
  exact hg x ρ1 ρ2 σ Hf1 H1 H u e2 E1 R1 (B1.no E) _ fun σ2 Hf2 B2 => q σ2 Hf2 H1 (B1.g B2)
/-- several names, a tuple's items -/
def tNames : List Nat → TGs
  | [] => gNil
  | i :: is => gCons (L2.gName i) (tNames is)
theorem names_ok : ∀ (is : List Nat) (vs : List PV) (us : List V) (ρ ρ' : Env) (σ : L2.St), gNames is vs ρ = some ρ' → RepE K Hf H ρ σ → DpAll K Hf us vs → ∀ Q : L2.St → Hp → Prop,
    (∀ σ', BhG K Hf H H0 ρ σ Hf ρ' σ' → Q σ' H) → tNames is us σ H Q := by
  intro is
  induction is with
  | nil =>
    intro vs us ρ ρ' σ hm E d Q q
    cases vs with
    | nil => cases hm; cases d; exact ⟨rfl, q σ ⟨.refl E.ff, E, fun _ h => .inl h, fun _ => ⟨rfl, fun _ => rfl⟩⟩⟩
    | cons v vs => cases hm
  | cons i is ih =>
    intro vs us ρ ρ' σ hm E d Q q
    cases vs with
    | nil => cases hm
    | cons v vs =>
      simp only [gNames, Option.bind_eq_some_iff] at hm
      obtain ⟨ρ1, e1, e2⟩ := hm
      cases d with
      | @cons u us' _ _ d1 d2 =>
        obtain ⟨E1, h1, _, h3⟩ := put_ok (s := .val v) (u := u) E e1 d1 fun p h => nomatch h
        refine ⟨u, us', rfl, ?_⟩
        refine ih vs us' ρ1 ρ' _ e2 E1 d2 Q fun σ' B => q σ' ⟨.refl E.ff, B.en, fun p hp => ?_, fun j => ?_⟩
        · rcases B.own p hp with z | z
          · exact (h1 p z).imp id fun z => nomatch z.1
          · exact .inr z
        · obtain ⟨y1, y2⟩ := B.ref j
          obtain ⟨x1, x2⟩ := h3 j rfl
          exact ⟨y1.trans x1, fun h => (y2 (x1.trans h)).trans (x2 h)⟩
theorem sg_tup {is : List Nat} {n : Nat} (hn : is.length = n) : SG K (L2.gTup K n (tNames is)) (Py.gTup is) := by
  intro r ρ ρ' σ Hf H H0 u hm E R no Q q
  unfold Py.gTup at hm
  split at hm
  · rename_i xs
    have R' : Dp K Hf u (.tuple xs) := R
    cases R' with
    | @tup a us _ hs ha =>
      have hl : ∀ (is : List Nat) (xs : List PV) (ρ ρ' : Env), gNames is xs ρ = some ρ' → is.length = xs.length := by
        intro is
        induction is with
        | nil => intro xs ρ ρ' h; cases xs with
          | nil => rfl
          | cons x xs => cases h
        | cons i is ih => intro xs ρ ρ' h; cases xs with
          | nil => cases h
          | cons x xs =>
            simp only [gNames, Option.bind_eq_some_iff] at h
            obtain ⟨ρ1, _, e2⟩ := h
            rw [List.length_cons, List.length_cons, ih xs ρ1 ρ' e2]
      exact ⟨a, us, rfl, ex_t E.ff hs, by rw [dps_len ha, ← hl is xs ρ ρ' hm, hn], names_ok is xs us ρ ρ' σ hm E ha Q fun σ' B => q σ' Hf B⟩
  · cases hm
/-- a, b = x, y -/
def parPut (i j : Nat) (x y : R) (ρ : Env) : Option Env := (Py.gName i x ρ).bind fun ρ1 => Py.gName j y ρ1
theorem ss_par {i j : Nat} {ta tb : TE} {a b : M} (ha : SE K ta a) (hb : SE K tb b) : SS K (tPar i j (tCons ta (tCons tb tNil))) (sPar i j a b) := by
  intro ρ f ρ' σ Hf H hm E D q
  simp only [sPar, Option.bind_eq_some_iff, Option.map_eq_some_iff, Prod.mk.injEq] at hm
  obtain ⟨⟨x, ρ1⟩, e1, ⟨v, ρ2⟩, e2, ⟨y, ρ3⟩, e3, ⟨w, ρ4⟩, e4, ρ5, e5, ρ6, e6, rfl, rfl⟩ := hm
  refine ha ρ x ρ1 σ Hf H e1 E _ fun u Hf1 H1 S1 E1 R1 k1 => ?_
  have B1 : Bh K Hf H ρ σ Hf1 H1 ρ1 := ⟨S1, E1, k1⟩
  obtain ⟨Hf2, B2, d⟩ := B1.frz E R1 e2
  refine hb ρ2 y ρ3 σ Hf2 H1 e3 B2.en _ fun u2 Hf3 H3 S3 E3 R3 k3 => ?_
  have B3' : Bh K Hf2 H1 ρ2 σ Hf3 H3 ρ3 := ⟨S3, E3, k3⟩
  obtain ⟨Hf4, B4', d4⟩ := B3'.frz B2.en R3 e4
  have B4 := B2.trans B4'
  have d' := dp_mono B4'.st.ff _ _ d
  obtain ⟨E5, h1, _, h3⟩ := put_ok (s := .val v) (u := u) B4.en e5 d' fun p h => nomatch h
  obtain ⟨E6, h4, _, h6⟩ := put_ok (s := .val w) (u := u2) E5 e6 d4 fun p h => nomatch h
  refine ⟨u, u2, rfl, q _ Hf4 H3 ⟨B4.st, E6, fun p hp => ?_, fun l => ?_⟩⟩
  · rcases h4 p hp with z | z
    · rcases h1 p z with z | z
      · exact .inl (B4.kp.sub z)
      · cases z.1
    · cases z.1
  · obtain ⟨a1, a2⟩ := h3 l rfl
    obtain ⟨b1, b2⟩ := h6 l rfl
    have c := B4.kp.ref l
    exact ⟨b1.trans (a1.trans c), fun h => (b2 (a1.trans (c.trans h))).trans (a2 (c.trans h))⟩
/-- xs[e] = v -/
theorem ss_setIx {i : Nat} {te ti : TE} {a e : M} (ha : SE K te a) (he : SE K ti e) : SS K (tAsg te (gSub (tVar i) ti rSetL)) (sSetIx i e a) := by
  intro ρ f ρ' σ Hf H hm E D q
  simp only [sSetIx, Option.bind_eq_some_iff, Option.map_eq_some_iff, Prod.mk.injEq] at hm
  obtain ⟨⟨x, ρ1⟩, e1, ⟨v, ρ2⟩, e2, ys, h0, ⟨y, ρ3⟩, e3, c, e4, k, e5, xs, e6, j, e7, rfl, rfl⟩ := hm
  refine ha ρ x ρ1 σ Hf H e1 E _ fun u Hf1 H1 S1 E1 R1 k1 => ?_
  have B1 : Bh K Hf H ρ σ Hf1 H1 ρ1 := ⟨S1, E1, k1⟩
  obtain ⟨Hf2, B2, d⟩ := B1.frz E R1 e2
  obtain ⟨p, o1, s1, f1, ⟨vs, hv, dv⟩, _⟩ := obAt_ok B2.en (lstAt_ok B2.en h0)
  refine ⟨_, slot_at s1, ?_⟩
  refine he ρ2 y ρ3 σ Hf2 H1 e3 B2.en _ fun w Hf3 H3 S3 E3 R3 k3 => ?_
  have B3' : Bh K Hf2 H1 ρ2 σ Hf3 H3 ρ3 := ⟨S3, E3, k3⟩
  have B3 := B2.trans B3'
  have hc := look_ok E3 R3 e4
  unfold intOf at e5
  split at e5
  · cases e5
    cases hc
    obtain ⟨p', o2, s2, f2, ⟨ws, hw, dw⟩, hi⟩ := obAt_ok B3.en (lstAt_ok B3.en e6)
    rw [s1] at s2
    cases s2
    have d' := dp_mono S3.ff _ _ d
    have B4 := B3.trans (mut_ok (o := .lst xs) (o' := .lst (xs.set j v)) (ho := .lst (ws.set j u)) B3.en o2 hi ⟨_, upd_same, dps_set d' _ dw⟩)
    exact ⟨p, ws, k, j, rfl, rfl, hw, by rw [dps_len dw]; exact e7, q σ Hf3 _ B4.s⟩
  · cases e5
theorem ss_fgt {t : TS} {a : SM} (is : List Nat) (ha : SS K t a) : SS K t (sFgt is a) := by
  intro ρ f ρ' σ Hf H hm E D q
  simp only [sFgt, Option.map_eq_some_iff] at hm
  obtain ⟨⟨f1, ρ1⟩, e1, e2⟩ := hm
  refine ha ρ f1 ρ1 σ Hf H e1 E D fun σ' Hf' H' B => ?_
  have e3 : (f = f1 ∧ ρ' = ρ1) ∨ (f = f1 ∧ ρ' = forget is ρ1) := by
    cases f1 <;> (cases e2; first | exact .inl ⟨rfl, rfl⟩ | exact .inr ⟨rfl, rfl⟩)
  rcases e3 with ⟨rfl, rfl⟩ | ⟨rfl, rfl⟩
  · exact q σ' Hf' H' B
  refine q σ' Hf' H' ?_
  have key : ∀ is : List Nat, (forget is ρ1).length = ρ1.length ∧ (∀ j, get (forget is ρ1) j = get ρ1 j ∨ (get (forget is ρ1) j = none ∧ isRef (get ρ1 j) = false)) := by
    intro is
    induction is with
    | nil => exact ⟨rfl, fun _ => .inl rfl⟩
    | cons i is ih =>
      obtain ⟨h1, h2⟩ := ih
      unfold forget
      split
      · exact ⟨h1, h2⟩
      · rename_i nr
        refine ⟨by rw [List.length_set]; exact h1, fun j => ?_⟩
        rw [get_set]
        split
        · rename_i c
          refine .inr ⟨rfl, ?_⟩
          rw [c.1] at nr
          rcases h2 j with z | z
          · rw [z] at nr; simpa using nr
          · exact z.2
        · exact h2 j
  obtain ⟨kl, kg⟩ := key is
  have sub : ∀ j p, OwnAt (forget is ρ1) σ' j p → OwnAt ρ1 σ' j p := fun j p ⟨x, y⟩ => by
    refine ⟨?_, y⟩
    rcases kg j with z | z
    · rw [z] at x; exact x
    · rw [z.1] at x
      cases x
  refine ⟨B.st, ⟨kl.trans B.en.len, B.en.ff, fun j s e => ?_, fun j k p x y => B.en.dis j k p (sub j p x) (sub k p y)⟩, fun p ⟨j, x⟩ => B.own p ⟨j, sub j p x⟩, fun j => ⟨?_, (B.ref j).2⟩⟩
  · rcases kg j with z | z
    · rw [z] at e; exact B.en.sl j s e
    · rw [z.1] at e; cases e
  · rw [← (B.ref j).1]
    rcases kg j with z | z
    · rw [z]
    · rw [z.1, z.2]; rfl
/-- name op= e, of values -/
theorem ss_aug {i : Nat} {te : TE} {a : M} {r : R2} {f : Ct → Ct → Option R} (ha : SE K te a) (hr : OpS K r f) : SS K (tAug i te r) (sAug i f a) := by
  intro ρ fl ρ' σ Hf H hm E D q
  simp only [sAug, Option.bind_eq_some_iff] at hm
  obtain ⟨s, e0, e1⟩ := hm
  obtain ⟨u0, s0, r0⟩ := E.sl i s e0
  cases s with
  | own o => cases e1
  | ref o => cases e1
  | lck kvs => cases e1
  | val v =>
    simp only [Option.bind_eq_some_iff] at e1
    obtain ⟨⟨x, ρ1⟩, e2, c, e3, z, e4, e5⟩ := e1
    refine ⟨u0, slot_at s0, ?_⟩
    refine ha ρ x ρ1 σ Hf H e2 E _ fun u Hf1 H1 S1 E1 R1 k1 => ?_
    have B1 : Bh K Hf H ρ σ Hf1 H1 ρ1 := ⟨S1, E1, k1⟩
    refine hr Hf1 H1 (.pv v) c u0 u z E1.ff (dp_mono S1.ff _ _ r0) (look_ok E1 R1 e3) e4 _ fun w Hf2 H2 S2 R2 => ?_
    have B2 := B1.more S2
    cases z with
    | val z =>
      simp only [Option.map_eq_some_iff, Prod.mk.injEq] at e5
      obtain ⟨ρ2, e6, rfl, rfl⟩ := e5
      obtain ⟨E3, h1, _, h3⟩ := put_ok (s := .val z) (u := w) B2.en e6 R2 fun p h => nomatch h
      refine q _ Hf2 H2 ⟨B2.st, E3, fun p hp => ?_, fun l => ?_⟩
      · rcases h1 p hp with z | z
        · exact .inl (B2.kp.sub z)
        · cases z.1
      · obtain ⟨a1, a2⟩ := h3 l rfl
        have c := B2.kp.ref l
        exact ⟨a1.trans c, fun h => a2 (c.trans h)⟩
    | new o => cases e5
    | bor j => cases e5

/-! ### what a for walks -/
def Walk (K : PySem.W.Frag) (J : It) (xs : List PV) (O : Addr → Prop) (Hf H : Hp) : Prop := ∀ Hf2 H2, Step O Hf H Hf2 H2 → ∀ i : Nat,
  (∀ x, xs[i]? = some x → J.go i H2 ∧ ∀ u H3, J.yld i H2 u H3 → H3 = H2 ∧ Dp K Hf2 u x) ∧ (xs.length ≤ i → J.stop i H2)
def SI (K : PySem.W.Frag) (wi : TI) (m : MI) : Prop := ∀ (ρ : Env) (xs : List PV) (ρ' : Env) (σ : L2.St) (Hf H : Hp), m ρ = some (xs, ρ') → RepE K Hf H ρ σ → ∀ R : It → Hp → Prop,
  (∀ J Hf' H', Bh K Hf H ρ σ Hf' H' ρ' → Walk K J xs (Own ρ' σ) Hf' H' → R J H') → wi σ H R
structure BI (X : Cx) (tg e : Expr) (m : MI) : Prop where
  ex : ∃ wi, PI X tg e wi ∧ SI X.K wi m
/-- a list or a tuple -/
def iSq (K : PySem.W.Frag) (tl : TE) : TI := fun σ H R => tl σ H fun x H1 => ∃ a, x = .ref a ∧ (((∃ xs, SqL K H1 a xs) ∧ R (Itl K a) H1) ∨ ((∃ xs, SqT K H1 a xs) ∧ R (Itt K a) H1))
theorem pi_sq {tg l : Expr} {tl : TE} (hl : PE X l tl) : PI X tg l (iSq X.K tl) := by
  constructor
  intro pins s σ H R I h
  refine thn (hl.run pins s σ H _ I h) ?_
  rintro v s1 ⟨x, Ha, Ia, rx, a, rfl, hc⟩
  cases rx
  have old : ∀ o : Obj, Inv X pins σ Ha { s1 with heap := s1.heap.push o } := fun o => Ia.kept (t' := s1.toks) (fun _ _ z => Heap.get?_push_of_some _ z)
  have fp : ∀ b ∈ [s1.heap.objs.size], FpOk X pins Ha b := by
    intro b hb
    rw [List.mem_singleton.mp hb]
    exact Ia.fpOk (Nat.le_refl _) (Ia.hok.fresh (Nat.le_refl _))
  rcases hc with ⟨⟨xs, hq⟩, q⟩ | ⟨⟨xs, hq⟩, q⟩
  · obtain ⟨its, _, pl, _⟩ := Ia.list hq
    exact wpAny_pyIter_list pl.isList ⟨_, [_], _, _, Ha, rfl, old _, turn_list a _, ⟨_, Heap.get?_push_size _ rfl, rfl, rfl⟩, fp, q⟩
  · obtain ⟨its, _, pl, _⟩ := Ia.tuple hq
    exact wpAny_pyIter_tuple (show s1.heap.IsTuple a its.toArray from pl) ⟨_, [_], _, _, Ha, rfl, old _, turn_tuple a _, ⟨_, Heap.get?_push_size _ rfl, rfl, rfl⟩, fp, q⟩
/-- how a list at a is walked -/
theorem walk_l {a : Addr} {us : List V} {xs : List PV} (keep : ∀ Hf2 H2, Step O Hf H Hf2 H2 → SqL K H2 a us) (d : DpAll K Hf us xs) : Walk K (Itl K a) xs O Hf H := by
  intro Hf2 H2 S i
  refine ⟨fun x hx => ?_, fun hi => ⟨us, keep _ _ S, by rw [dps_len d]; exact hi⟩⟩
  obtain ⟨u, h1, h2⟩ := dps_get d hx
  refine ⟨⟨us, u, keep _ _ S, h1⟩, fun u' H3 ⟨e, y⟩ => ⟨e, ?_⟩⟩
  have h3 := y us (keep _ _ S)
  rw [h1] at h3
  cases h3
  exact dp_mono S.ff _ _ h2
theorem walk_t {a : Addr} {us : List V} {xs : List PV} (keep : ∀ Hf2 H2, Step O Hf H Hf2 H2 → SqT K H2 a us) (d : DpAll K Hf us xs) : Walk K (Itt K a) xs O Hf H := by
  intro Hf2 H2 S i
  refine ⟨fun x hx => ?_, fun hi => ⟨us, keep _ _ S, by rw [dps_len d]; exact hi⟩⟩
  obtain ⟨u, h1, h2⟩ := dps_get d hx
  refine ⟨⟨us, u, keep _ _ S, h1⟩, fun u' H3 ⟨e, y⟩ => ⟨e, ?_⟩⟩
  have h3 := y us (keep _ _ S)
  rw [h1] at h3
  cases h3
  exact dp_mono S.ff _ _ h2
theorem si_seq {te : TE} {a : M} (ha : SE K te a) : SI K (iSq K te) (iSeq a) := by
  intro ρ xs ρ' σ Hf H hm E R q
  simp only [iSeq, Option.bind_eq_some_iff] at hm
  obtain ⟨⟨x, ρ1⟩, e1, e2⟩ := hm
  refine ha ρ x ρ1 σ Hf H e1 E _ fun u Hf1 H1 S1 E1 R1 k1 => ?_
  have B1 : Bh K Hf H ρ σ Hf1 H1 ρ1 := ⟨S1, E1, k1⟩
  cases x with
  | val v =>
    have R1' : Dp K Hf1 u v := R1
    cases v with
    | list ys =>
      cases e2
      cases R1' with
      | lst hs d => exact ⟨_, rfl, .inl ⟨⟨_, ex_l E1.ff hs⟩, q _ Hf1 H1 B1 (walk_l (fun Hf2 H2 S => ex_l S.fh (ex_l S.ff hs)) d)⟩⟩
    | tuple ys =>
      cases e2
      cases R1' with
      | tup hs d => exact ⟨_, rfl, .inr ⟨⟨_, ex_t E1.ff hs⟩, q _ Hf1 H1 B1 (walk_t (fun Hf2 H2 S => ex_t S.fh (ex_t S.ff hs)) d)⟩⟩
    | none => cases e2
    | bool b => cases e2
    | int i => cases e2
    | str y => cases e2
    | dict y => cases e2
  | new o =>
    cases o with
    | lst ys =>
      cases e2
      obtain ⟨p, rfl, z, f, us, hu, d⟩ := R1
      exact ⟨p, rfl, .inl ⟨⟨us, SqL.of hu⟩, q _ Hf1 H1 B1 (walk_l (fun Hf2 H2 S => SqL.of (S.keep p _ hu fun w => B1.no E p w z)) d)⟩⟩
    | dct ys => cases e2
  | bor i => cases e2
theorem walk_r {lo : Int} {n : Nat} : Walk K (Itr lo n) (rangeL lo n) O Hf H := by
  intro Hf2 H2 S i
  unfold rangeL
  constructor
  · intro x hx
    rw [List.getElem?_map, Option.map_eq_some_iff] at hx
    obtain ⟨k, h1, rfl⟩ := hx
    obtain ⟨h2, h3⟩ := List.getElem?_eq_some_iff.mp h1
    rw [List.getElem_range] at h3
    subst h3
    rw [List.length_range] at h2
    exact ⟨h2, fun u H3 ⟨e1, e2⟩ => ⟨e1, by rw [e2]; exact .int _⟩⟩
  · intro hi
    have h : n ≤ i := by simpa using hi
    exact h
theorem intOf_some {c : Ct} {i : Int} {u : V} (h : intOf c = some i) (r : RepC K Hf H c u) : u = .int i := by
  unfold intOf at h
  split at h
  · cases h; cases r; rfl
  · cases h
theorem si_rng1 {te : TE} {a : M} (ha : SE K te a) : SI K (L2.iRng1 (tCons te tNil)) (Py.iRng1 a) := by
  intro ρ xs ρ' σ Hf H hm E R q
  simp only [Py.iRng1, Option.bind_eq_some_iff] at hm
  obtain ⟨⟨x, ρ1⟩, e1, c, e2, n, e3, e4⟩ := hm
  split at e4
  · rename_i hz
    cases e4
    refine ha ρ x ρ1 σ Hf H e1 E _ fun u Hf1 H1 S1 E1 R1 k1 => ?_
    have B1 : Bh K Hf H ρ σ Hf1 H1 ρ1 := ⟨S1, E1, k1⟩
    have hl : (line : Int) = 16777216 := rfl
    exact ⟨n, by rw [intOf_some e3 (look_ok E1 R1 e2)], by omega, by omega, q _ Hf1 H1 B1 walk_r⟩
  · cases e4
theorem si_rng2 {te tf : TE} {a b : M} (ha : SE K te a) (hb : SE K tf b) : SI K (L2.iRng2 (tCons te (tCons tf tNil))) (Py.iRng2 a b) := by
  intro ρ xs ρ' σ Hf H hm E R q
  simp only [Py.iRng2, Option.bind_eq_some_iff] at hm
  obtain ⟨⟨x, ρ1⟩, e1, c, e2, n, e3, ⟨y, ρ2⟩, e4, d, e5, k, e6, e7⟩ := hm
  split at e7
  · rename_i hz
    cases e7
    refine ha ρ x ρ1 σ Hf H e1 E _ fun u Hf1 H1 S1 E1 R1 k1 => ?_
    have B1 : Bh K Hf H ρ σ Hf1 H1 ρ1 := ⟨S1, E1, k1⟩
    have eu := intOf_some e3 (look_ok E1 R1 e2)
    refine hb ρ1 y ρ2 σ Hf1 H1 e4 E1 _ fun w Hf2 H2 S2 E2 R2 k2 => ?_
    have B2 := B1.trans (⟨S2, E2, k2⟩ : Bh K Hf1 H1 ρ1 σ Hf2 H2 ρ2)
    exact ⟨n, k, by rw [eu, intOf_some e6 (look_ok E2 R2 e5)], ⟨by omega, by omega, by omega, by omega⟩, q _ Hf2 H2 B2 walk_r⟩
  · cases e7
theorem drop_get {α : Type} {xs : List α} {i : Nat} {x : α} {r : List α} (h : xs.drop i = x :: r) : xs[i]? = some x ∧ xs.drop (i + 1) = r := by
  have h1 : (xs.drop i)[0]? = some x := by rw [h]; rfl
  rw [List.getElem?_drop, Nat.add_zero] at h1
  refine ⟨h1, ?_⟩
  rw [← List.drop_drop, h]
  rfl
/-- the loop: f, ρ' its end -/
theorem loop_ok {J : It} {xs : List PV} {g : TG} {mg : MG} {tb : TS} {b : SM} {f : Fl} {D : Ends} (hg : SG K g mg) (hb : SS K tb b) (E1 : RepE K Hf1 H1 ρ1 σ) (w : Walk K J xs (Own ρ1 σ) Hf1 H1) (hl : loopF mg b xs ρ1 = some (f, ρ'))
    (q : ∀ σ' Hf' H', BhS K Hf1 H1 ρ1 σ Hf' H' ρ' σ' → FlR K D f Hf' H' H1 σ') :
    ∃ W : Nat → Nat → L2.St → Hp → Prop, (∃ m, W 0 m σ H1) ∧ ∀ i m σ H, W i m σ H → (J.stop i H ∧ D.nx σ H) ∨
      (J.go i H ∧ ∃ N : L2.St → Hp → Prop, (∀ σ' H', N σ' H' → ∃ m', m' < m ∧ W (i + 1) m' σ' H') ∧ ∀ x H', J.yld i H x H' → g x σ H' fun σ2 H2 => tb { D with nx := N, ct := N, bk := D.nx } σ2 H2) := by
  refine ⟨fun i m σ2 H2 => m = xs.length - i ∧ i ≤ xs.length ∧ ∃ ρ2 Hf2, loopF mg b (xs.drop i) ρ2 = some (f, ρ') ∧ BhS K Hf1 H1 ρ1 σ Hf2 H2 ρ2 σ2, ⟨_, rfl, Nat.zero_le _, ρ1, Hf1, hl, .refl E1⟩, ?_⟩
  rintro i m σ2 H2 ⟨rfl, hi, ρ2, Hf2, e, B⟩
  obtain ⟨w1, w2⟩ := w Hf2 H2 B.st i
  cases hd : xs.drop i with
  | nil =>
    rw [hd] at e
    cases e
    have hle : xs.length ≤ i := by
      have := congrArg List.length hd
      rw [List.length_drop, List.length_nil] at this
      omega
    exact .inl ⟨w2 hle, q σ2 Hf2 H2 B⟩
  | cons x r =>
    rw [hd] at e
    obtain ⟨hx, hr⟩ := drop_get hd
    have hlt : i < xs.length := (List.getElem?_eq_some_iff.mp hx).1
    obtain ⟨go, yl⟩ := w1 x hx
    simp only [loopF, Option.bind_eq_some_iff] at e
    obtain ⟨ρ3, e1, ⟨fb, ρ4⟩, e2, e3⟩ := e
    refine .inr ⟨go, fun σ' H' => ∃ ρ5 Hf5, loopF mg b (xs.drop (i + 1)) ρ5 = some (f, ρ') ∧ BhS K Hf1 H1 ρ1 σ Hf5 H' ρ5 σ', fun σ' H' ⟨ρ5, Hf5, h1, h2⟩ => ⟨_, by omega, rfl, hlt, ρ5, Hf5, h1, h2⟩, fun u H3 hy => ?_⟩
    obtain ⟨rfl, du⟩ := yl u H3 hy
    refine hg (.val x) ρ2 ρ3 σ2 Hf2 H3 H3 u e1 B.en du (fun p hp => by obtain ⟨⟨o, ho⟩, _⟩ := B.en.there hp; rw [ho]; exact fun z => nomatch z) _ fun σ3 Hf3 B3 => ?_
    have B3' : BhS K Hf1 H1 ρ1 σ Hf3 H3 ρ3 σ3 := B.trans ((Bh.refl B.en).g B3)
    refine hb ρ3 fb ρ4 σ3 Hf3 H3 e2 B3.en _ fun σ4 Hf4 H4 B4 => ?_
    have B4' := B3'.trans B4
    cases fb with
    | nx => exact ⟨ρ4, Hf4, by rw [hr]; exact e3, B4'⟩
    | ct => exact ⟨ρ4, Hf4, by rw [hr]; exact e3, B4'⟩
    | bk => cases e3; exact q σ4 Hf4 H4 B4'
    | rt r' => cases e3; exact (q σ4 Hf4 H4 B4').back fun p hp => B3'.fresh hp
theorem ss_for {wi : TI} {g : TG} {tb : TS} {it : MI} {mg : MG} {b : SM} (hi : SI K wi it) (hg : SG K g mg) (hb : SS K tb b) : SS K (tFor wi g tb) (sFor it mg b) := by
  intro ρ f ρ' σ Hf H hm E D q
  simp only [sFor, Option.bind_eq_some_iff] at hm
  obtain ⟨⟨xs, ρ1⟩, e1, e2⟩ := hm
  refine hi ρ xs ρ1 σ Hf H e1 E _ fun J Hf1 H1 B1 w => ?_
  exact loop_ok hg hb B1.en w e2 fun σ' Hf' H' B => (q σ' Hf' H' (B1.s.trans B)).back fun p hp => B1.fresh hp
theorem whileF_some {t : MT} {b : SM} {x : Fl × Env} (h : sWhile t b ρ = some x) : ∃ n, whileF t b n ρ = some x := by
  unfold sWhile at h
  split at h
  · rename_i c; exact ⟨_, h⟩
  · cases h
theorem ss_while {tt : TT} {tb : TS} {t : MT} {b : SM} (ht : ST K tt t) (hb : SS K tb b) : SS K (tWhile tt tb) (sWhile t b) := by
  intro ρ f ρ' σ Hf H hm E D q
  obtain ⟨n, hn⟩ := whileF_some hm
  refine ⟨fun m σ2 H2 => ∃ ρ2 Hf2, whileF t b m ρ2 = some (f, ρ') ∧ BhS K Hf H ρ σ Hf2 H2 ρ2 σ2, ⟨n, ρ, Hf, hn, .refl E⟩, ?_⟩
  rintro m σ2 H2 ⟨ρ2, Hf2, e, B⟩
  cases m with
  | zero => cases e
  | succ m =>
    simp only [whileF, Option.bind_eq_some_iff] at e
    obtain ⟨⟨x, ρ3⟩, e1, e2⟩ := e
    refine ht ρ2 x ρ3 σ2 Hf2 H2 e1 B.en _ fun Hf3 H3 S3 E3 k3 => ?_
    have B3 := B.trans (⟨S3, E3, k3⟩ : Bh K Hf2 H2 ρ2 σ2 Hf3 H3 ρ3).s
    cases x with
    | false =>
      simp only [Bool.false_eq_true, if_false] at e2 ⊢
      cases e2
      exact q σ2 Hf3 H3 B3
    | true =>
      simp only [if_true, Option.bind_eq_some_iff] at e2 ⊢
      obtain ⟨⟨fb, ρ4⟩, e3, e4⟩ := e2
      refine ⟨fun σ' H' => ∃ ρ5 Hf5, whileF t b m ρ5 = some (f, ρ') ∧ BhS K Hf H ρ σ Hf5 H' ρ5 σ', fun σ' H' h => ⟨m, Nat.lt_succ_self _, h⟩, ?_⟩
      refine hb ρ3 fb ρ4 σ2 Hf3 H3 e3 E3 _ fun σ4 Hf4 H4 B4 => ?_
      have B4' := B3.trans B4
      cases fb with
      | nx => exact ⟨ρ4, Hf4, e4, B4'⟩
      | ct => exact ⟨ρ4, Hf4, e4, B4'⟩
      | bk => cases e4; exact q σ4 Hf4 H4 B4'
      | rt r' => cases e4; exact (q σ4 Hf4 H4 B4').back fun p hp => B3.fresh hp
end

/-! ### the rules -/
section
variable {X : Cx} {a b c : Expr} {ma mb mc : M} {mt : MT} {m n : SM} {st : Stmt} {sts sts2 : List Stmt} {x y : Str} {p p' pos : Pos} {mi : MI} {g : MG}
theorem bss_nil : BSs X [] sNext := ⟨_, pss_nil, ss_next⟩
theorem bss_one (h : BS X st m) : BSs X [st] m := let ⟨t, h1, h2⟩ := h; ⟨_, pss_one h1, h2⟩
theorem bss_cons (h : BS X st m) (hr : BSs X sts n) : BSs X (st :: sts) (sSeq m n) := let ⟨t, h1, h2⟩ := h; let ⟨u, h3, h4⟩ := hr; ⟨_, pss_cons h1 h3, ss_seq h2 h4⟩
theorem bss_fgt (is : List Nat) (h : BSs X sts m) : BSs X sts (sFgt is m) := let ⟨t, h1, h2⟩ := h; ⟨_, h1, ss_fgt is h2⟩
theorem bs_fgt (is : List Nat) (h : BS X st m) : BS X st (sFgt is m) := let ⟨t, h1, h2⟩ := h; ⟨_, h1, ss_fgt is h2⟩
theorem bs_brk : BS X (.Break pos) sBrk := ⟨_, ps_break, ss_brk⟩
theorem bs_if (hc : BT X c mt) (ha : BSs X sts m) (hb : BSs X sts2 n) : BS X (.If c sts sts2 pos) (sIf mt m n) := let ⟨t, h1, h2⟩ := hc; let ⟨u, h3, h4⟩ := ha; let ⟨w, h5, h6⟩ := hb; ⟨_, ps_if h1 h3 h5, ss_if h2 h4 h6⟩
theorem bs_ret (ha : BE X a ma) : BS X (.Return (some a) pos) (sRet ma) := let ⟨t, h1, h2⟩ := ha; ⟨_, ps_ret h1, ss_ret h2⟩
theorem bs_expr (ha : BE X a ma) (hs : swapsWith a none pos.line X.env = pure false := by rfl) : BS X (.Expr a pos) (sExpr ma) := let ⟨t, h1, h2⟩ := ha; ⟨_, ps_expr h1 hs, ss_expr h2⟩
theorem bs_set (i : Nat) (hN : X.N.Nodup) (ha : BE X a ma) (hi : X.N[i]? = some x := by rfl) (hx : Loc X.env.scope x := by first | exact Or.inl rfl | exact Or.inr rfl) (hs : swapsWith a (some (.Name x p')) pos.line X.env = pure false := by rfl)
    (hf : X.fn x = true ∨ X.env.scope.names.lookup x = some .local := by first | exact .inl rfl | exact .inr rfl | assumption) : BS X (.Assign [.Name x p'] a pos) (sAsg ma (Py.gName i)) :=
  let ⟨t, h1, h2⟩ := ha; ⟨_, ps_set hN hi hx h1 hs hf, ss_asg h2 (sg_name i)⟩
theorem bs_asg {tg : Expr} (ha : BE X a ma) (hg : BG X tg g) (hs : swapsWithSole [tg] a pos.line X.env = pure false := by rfl) (hw : swappedStores [tg] a X.env = pure none := by rfl) (h1 : (assignEach [tg] X.env).map (·.2) = [assign tg X.env] := by rfl) : BS X (.Assign [tg] a pos) (sAsg ma g) :=
  let ⟨t, a1, a2⟩ := ha; let ⟨u, g1, g2⟩ := hg; ⟨_, ps_asg a1 g1 hs hw h1, ss_asg a2 g2⟩
theorem bs_par (i j : Nat) {k k2 pt pt2} (hc : X.calm = true) (hN : X.N.Nodup) (ha : BE X a ma) (hb : BE X b mb) (hij : i ≠ j := by decide) (hi : X.N[i]? = some x := by rfl) (hj : X.N[j]? = some y := by rfl) (hx : X.env.scope.names.lookup x = some .local := by rfl) (hy : X.env.scope.names.lookup y = some .local := by rfl)
    (h1 : starEach [a, b] X.env = (false, eval a X.env) :: starEach [b] X.env := by rfl) (h2 : starEach [b] X.env = (false, eval b X.env) :: starEach [] X.env := by rfl)
    (hw : swappedStores [.Tuple [.Name x p, .Name y p'] k pt] (.Tuple [a, b] k2 pt2) X.env = pure (some [x, y]) := by rfl) (hs : swapsWithSole [.Tuple [.Name x p, .Name y p'] k pt] (.Tuple [a, b] k2 pt2) pos.line X.env = pure false := by rfl) :
    BS X (.Assign [.Tuple [.Name x p, .Name y p'] k pt] (.Tuple [a, b] k2 pt2) pos) (sPar i j ma mb) := by
  obtain ⟨t, a1, a2⟩ := ha
  obtain ⟨u, b1, b2⟩ := hb
  exact ⟨_, ps_par hc hN hi hj hij hx hy (pa_cons a1 (pa_cons b1 pa_nil h2) h1) hw hs, ss_par a2 b2⟩
theorem bs_setIx (i : Nat) {e : Expr} {me : M} (ho : PE X (.Name x p) (tVar i)) (he : BE X e me) (ha : BE X a ma) (hs : swapsWithSole [.Subscript (.Name x p) e p'] a pos.line X.env = pure false := by rfl) (hw : swappedStores [.Subscript (.Name x p) e p'] a X.env = pure none := by rfl)
    (h1 : (assignEach [.Subscript (.Name x p) e p'] X.env).map (·.2) = [assign (.Subscript (.Name x p) e p') X.env] := by rfl)
    (hq : ∀ v, assign (.Subscript (.Name x p) e p') X.env v = (do
      let ov ← holding [v] (eval (.Name x p) X.env)
      let iv ← holding [v, ov] (eval e X.env)
      standAt p'
      holding [v, ov, iv] (setItem ov iv v)
      release [v, ov, iv] []) := by intro _; rfl) : BS X (.Assign [.Subscript (.Name x p) e p'] a pos) (sSetIx i me ma) := by
  obtain ⟨t, a1, a2⟩ := ha
  obtain ⟨u, b1, b2⟩ := he
  exact ⟨_, ps_asg a1 (pg_sub ho b1 set_list hq) hs hw h1, ss_setIx a2 b2⟩
theorem bs_aug (i : Nat) {op : Operator} {f : Ct → Ct → Option R} (hN : X.N.Nodup) (ho : OpB X (inplaceOp op) f) (ha : BE X a ma) (hi : X.N[i]? = some x := by rfl) (hx : Loc X.env.scope x := by first | exact Or.inl rfl | exact Or.inr rfl)
    (hf : X.fn x = true ∨ X.env.scope.names.lookup x = some .local := by first | exact .inl rfl | exact .inr rfl | assumption) : BS X (.AugAssign (.Name x p') op a pos) (sAug i f ma) := by
  obtain ⟨r, o1, o2⟩ := ho
  obtain ⟨t, a1, a2⟩ := ha
  exact ⟨_, ps_aug hN hi hx a1 (fun pins s σ H x y v u Q I rx ry q => o1 pins s σ H x y v u Q I rx ry q) hf, ss_aug a2 o2⟩
structure BGs (X : Cx) (ts : List Expr) (is : List Nat) : Prop where
  ex : PGs X ts (tNames is)
theorem bgs_nil : BGs X [] [] := ⟨pgs_nil⟩
theorem bgs_cons (i : Nat) {ts : List Expr} {is : List Nat} (hN : X.N.Nodup) (hr : BGs X ts is) (hi : X.N[i]? = some x := by rfl) (hx : Loc X.env.scope x := by first | exact Or.inl rfl | exact Or.inr rfl) (hf : X.fn x = true ∨ X.env.scope.names.lookup x = some .local := by first | exact .inl rfl | exact .inr rfl | assumption)
    (hs : (assignEach (.Name x p :: ts) X.env).map (·.2) = assign (.Name x p) X.env :: (assignEach ts X.env).map (·.2) := by rfl) : BGs X (.Name x p :: ts) (i :: is) := ⟨pgs_cons (pg_name hN hi hx hf) hr.ex hs⟩
theorem bg_tup {ts : List Expr} {is : List Nat} {k : Nat} (hc : X.calm = true) (h : BGs X ts is) (hn : (assignEach ts X.env).length = is.length := by rfl) (hst : (assignEach ts X.env).findIdx? (·.1) = none := by rfl) : BG X (.Tuple ts k pos) (Py.gTup is) :=
  ⟨_, pg_tup hc h.ex hn hst, sg_tup rfl⟩
theorem bi_seq {tg : Expr} (ha : BE X a ma) : BI X tg a (iSeq ma) := let ⟨t, h1, h2⟩ := ha; ⟨_, pi_sq h1, si_seq h2⟩
theorem bi_rng1 {tg : Expr} (hg : Gl X "range") (hm : X.mg "range" = none) (ha : BE X a ma) (hs : starEach [a] X.env = [(false, eval a X.env)] := by rfl) (hs' : starEach [a] X.env = (false, eval a X.env) :: starEach [] X.env := by rfl) : BI X tg (.Call (.Name "range" p) [a] [] pos) (Py.iRng1 ma) :=
  let ⟨t, h1, h2⟩ := ha; ⟨_, pi_range1 hg hm (pa_cons h1 pa_nil hs') hs, si_rng1 h2⟩
theorem bi_rng2 {tg : Expr} (hg : Gl X "range") (hm : X.mg "range" = none) (ha : BE X a ma) (hb : BE X b mb) (hs : starEach [a, b] X.env = [(false, eval a X.env), (false, eval b X.env)] := by rfl) (hs2 : starEach [b] X.env = [(false, eval b X.env)] := by rfl)
    (h3 : starEach [a, b] X.env = (false, eval a X.env) :: starEach [b] X.env := by rfl) (h4 : starEach [b] X.env = (false, eval b X.env) :: starEach [] X.env := by rfl) : BI X tg (.Call (.Name "range" p) [a, b] [] pos) (Py.iRng2 ma mb) :=
  let ⟨t, h1, h2⟩ := ha; let ⟨u, h5, h6⟩ := hb; ⟨_, pi_range2 hg hm (pa_cons h1 (pa_cons h5 pa_nil h4) h3) hs hs2, si_rng2 h2 h6⟩
theorem bs_for {tg : Expr} (hp : PassesOwn (model X.prog X.w) X.A X.env X.xe) (hc : X.calm = true) (hi : BI X tg a mi) (hg : BG X tg g) (hb : BSs X sts m) (hs : ∀ x, foldedSetIterable a X.env x = pure x := by intro _; rfl) : BS X (.For tg a sts [] pos) (sFor mi g m) :=
  let ⟨t, h1, h2⟩ := hi; let ⟨u, h3, h4⟩ := hg; let ⟨w, h5, h6⟩ := hb; ⟨_, ps_for hp hc h1 h3 h5 hs, ss_for h2 h4 h6⟩
theorem bs_while (hp : PassesOwn (model X.prog X.w) X.A X.env X.xe) (hc : BT X c mt) (hb : BSs X sts m) : BS X (.While c sts [] pos) (sWhile mt m) :=
  let ⟨t, h1, h2⟩ := hc; let ⟨w, h5, h6⟩ := hb; ⟨_, ps_while hp h1 h5, ss_while h2 h6⟩
end
end Py
/-! Py6: comprehensions; defs and their calls. -/
namespace Py
open PySem PySem.Spec PyProof.Rows L2

/-- the reading that a meaning has of itself -/
def rE (K : PySem.W.Frag) (m : M) : TE := fun σ H Q => ∃ (ρ : Env) (r : R) (ρ' : Env) (Hf : Hp), m ρ = some (r, ρ') ∧ RepE K Hf H ρ σ ∧ ∀ u Hf' H', Step (Own ρ σ) Hf H Hf' H' → RepE K Hf' H' ρ' σ → RepR K Hf' H' H σ r u → Kp ρ ρ' → Q u H'
def rT (K : PySem.W.Frag) (m : MT) : TT := fun σ H Q => ∃ (ρ : Env) (b : Bool) (ρ' : Env) (Hf : Hp), m ρ = some (b, ρ') ∧ RepE K Hf H ρ σ ∧ ∀ Hf' H', Step (Own ρ σ) Hf H Hf' H' → RepE K Hf' H' ρ' σ → Kp ρ ρ' → Q b H'
theorem se_rE {K : PySem.W.Frag} {m : M} : SE K (rE K m) m := fun ρ r ρ' σ Hf H hm E Q q => ⟨ρ, r, ρ', Hf, hm, E, q⟩
theorem st_rT {K : PySem.W.Frag} {m : MT} : ST K (rT K m) m := fun ρ r ρ' σ Hf H hm E Q q => ⟨ρ, r, ρ', Hf, hm, E, q⟩
theorem BE.can {X : Cx} {e : Expr} {m : M} (h : BE X e m) : PE X e (rE X.K m) := by
  obtain ⟨te, h1, h2⟩ := h
  exact ⟨fun pins s σ H Q I ⟨ρ, r, ρ', Hf, hm, E, q⟩ => h1.run pins s σ H Q I (h2 ρ r ρ' σ Hf H hm E Q q)⟩
theorem BT.can {X : Cx} {e : Expr} {m : MT} (h : BT X e m) : PT X e (rT X.K m) := by
  obtain ⟨te, h1, h2⟩ := h
  exact ⟨fun pins s σ H Q I ⟨ρ, r, ρ', Hf, hm, E, q⟩ => h1.run pins s σ H Q I (h2 ρ r ρ' σ Hf H hm E Q q)⟩
structure BTs (X : Cx) (ifs : List Expr) (m : MT) : Prop where
  ex : ∃ tt, PTs X ifs tt ∧ ST X.K tt m
theorem bts_nil {X : Cx} : BTs X [] tYes := ⟨_, pts_nil, fun ρ r ρ' σ Hf H hm E Q q => by cases hm; exact q Hf H (.refl E.ff) E .refl⟩
theorem bts_one {X : Cx} {c : Expr} {m : MT} (h : BT X c m) : BTs X [c] m := let ⟨t, h1, h2⟩ := h; ⟨_, pts_one h1, h2⟩
theorem BTs.can {X : Cx} {e : List Expr} {m : MT} (h : BTs X e m) : PTs X e (rT X.K m) := by
  obtain ⟨te, h1, h2⟩ := h
  exact ⟨fun pins s σ H Q I ⟨ρ, r, ρ', Hf, hm, E, q⟩ => h1.run pins s σ H Q I (h2 ρ r ρ' σ Hf H hm E Q q)⟩

section
variable {K : PySem.W.Frag} {Hf H Hf' H' Hf1 H1 Hf2 H2 H0 : Hp} {ρ ρ' ρ1 ρ2 : Env} {σ σ' σ1 σ2 : L2.St} {O O' O1 : Addr → Prop} {X : Cx}
theorem get_wipe (vs : List Nat) (j : Nat) : get (Py.wipe ρ vs) j = if j ∈ vs then none else get ρ j := by
  induction vs with
  | nil => simp [Py.wipe]
  | cons v vs ih =>
    unfold Py.wipe
    rw [get_set, ih]
    by_cases h : v = j
    · subst h
      by_cases hl : v < (Py.wipe ρ vs).length
      · simp [hl]
      · rw [if_neg (fun z => hl z.2)]
        have : get ρ v = none := by
          have wl : ∀ vs : List Nat, (Py.wipe ρ vs).length = ρ.length := fun vs => by
            induction vs with
            | nil => rfl
            | cons w ws ih => unfold Py.wipe; rw [List.length_set]; exact ih
          rw [wl] at hl
          unfold get
          rw [List.getElem?_eq_none (by omega)]
          rfl
        simp [this]
    · rw [if_neg (fun z => h z.1)]
      simp only [List.mem_cons]
      by_cases hj : j ∈ vs
      · simp [hj]
      · simp [hj, Ne.symm h]
theorem wipe_len (vs : List Nat) : (Py.wipe ρ vs).length = ρ.length := by
  induction vs with
  | nil => rfl
  | cons w ws ih => unfold Py.wipe; rw [List.length_set]; exact ih
theorem slot_wipe (vs : List Nat) (j : Nat) : slot (L2.wipe σ vs) j = if j ∈ vs then none else slot σ j := by
  induction vs with
  | nil => simp [L2.wipe]
  | cons v vs ih =>
    unfold L2.wipe
    rw [slot_set, ih]
    by_cases h : v = j
    · subst h
      by_cases hl : v < (L2.wipe σ vs).length
      · simp [hl]
      · rw [if_neg (fun z => hl z.2)]
        have : slot σ v = none := by
          rw [wipe_length] at hl
          unfold slot
          rw [List.getElem?_eq_none (by omega)]
          rfl
        simp [this]
    · rw [if_neg (fun z => h z.1)]
      simp only [List.mem_cons]
      by_cases hj : j ∈ vs
      · simp [hj]
      · simp [hj, Ne.symm h]
theorem RepE.wipe (E : RepE K Hf H ρ σ) (vs : List Nat) : RepE K Hf H (Py.wipe ρ vs) (L2.wipe σ vs) := by
  have sub : ∀ j p, OwnAt (Py.wipe ρ vs) (L2.wipe σ vs) j p → OwnAt ρ σ j p := fun j p ⟨a, b⟩ => by
    rw [get_wipe] at a
    rw [slot_wipe] at b
    by_cases hj : j ∈ vs
    · rw [if_pos hj] at a; cases a
    · rw [if_neg hj] at a b; exact ⟨a, b⟩
  refine ⟨by rw [wipe_len, wipe_length]; exact E.len, E.ff, fun j s e => ?_, fun j k p a b => E.dis j k p (sub j p a) (sub k p b)⟩
  rw [get_wipe] at e
  rw [slot_wipe]
  by_cases hj : j ∈ vs
  · rw [if_pos hj] at e; cases e
  · rw [if_neg hj] at e ⊢; exact E.sl j s e
theorem wipe_get? (σ : L2.St) (vs : List Nat) (j : Nat) : (L2.wipe σ vs)[j]? = if j ∈ vs ∧ j < σ.length then some none else σ[j]? := by
  induction vs with
  | nil => simp [L2.wipe]
  | cons v vs ih =>
    unfold L2.wipe
    by_cases h : v = j
    · subst h
      by_cases hl : v < σ.length
      · rw [List.getElem?_set_self (by rw [wipe_length]; exact hl)]; simp [hl]
      · rw [List.getElem?_eq_none (by rw [List.length_set, wipe_length]; omega)]; simp [hl]
    · rw [List.getElem?_set_ne h, ih]
      simp [Ne.symm h]
/-- a target of a comprehension: it stores at the block's own names alone -/
structure TgIn (g : TG) (mg : MG) (vs : List Nat) : Prop where
  a : ∀ u σ H Q, g u σ H Q → g u σ H fun σ2 H2 => Q σ2 H2 ∧ L2.wipe σ2 vs = L2.wipe σ vs
  b : ∀ v ρ ρ', mg (.val v) ρ = some ρ' → ∀ j, j ∉ vs → get ρ' j = get ρ j
  c : ∀ u σ H (Q Q' : L2.St → Hp → Prop), (∀ σ2 H2, Q σ2 H2 → Q' σ2 H2) → g u σ H Q → g u σ H Q'
theorem wipe_set {vs : List Nat} {i : Nat} (h : i ∈ vs) (x : Option V) : L2.wipe (σ.set i x) vs = L2.wipe σ vs := by
  apply List.ext_getElem?
  intro j
  rw [wipe_get?, wipe_get?, List.length_set]
  by_cases hj : j ∈ vs ∧ j < σ.length
  · rw [if_pos hj, if_pos hj]
  · rw [if_neg hj, if_neg hj]
    by_cases e : i = j
    · subst e
      have : ¬ i < σ.length := fun z => hj ⟨h, z⟩
      rw [List.getElem?_eq_none (by rw [List.length_set]; omega), List.getElem?_eq_none (by omega)]
    · rw [List.getElem?_set_ne e]
theorem tgIn_name {i : Nat} {vs : List Nat} (h : i ∈ vs) : TgIn (L2.gName i) (Py.gName i) vs := ⟨fun u σ H Q q => ⟨q, wipe_set h _⟩, fun v ρ ρ' hm j hj => by
  have hm' : put i (some (.val v)) ρ = some ρ' := hm
  unfold put at hm'
  split at hm'
  · cases hm'
  · cases hm'
    rw [get_set, if_neg]
    rintro ⟨rfl, _⟩
    exact hj h, fun u σ H Q Q' h q => h _ _ q⟩
/-- one object, which is nobody's, is laid or changed -/
theorem Step.at {D : Addr} {o : HO} (e : Ex Hf H) (f : Hf D = none) : Step (fun a => a = D) Hf H Hf (upd H D o) := by
  refine ⟨fun _ _ h => h, fun a u h => by rw [upd_ne (ne_of_none h f)]; exact e a u h, fun a u h n => by rw [upd_ne n]; exact h, fun _ _ _ _ => rfl, fun a u h => ?_⟩
  by_cases z : a = D
  · subst z; exact ⟨_, upd_same⟩
  · exact ⟨u, by rw [upd_ne z]; exact h⟩
/-- what a comprehension's turns leave of the names -/
def Nm (vs : List Nat) (ρ1 ρ2 : Env) : Prop := ρ2.length = ρ1.length ∧ ∀ j, j ∉ vs → (isOb (get ρ2 j) = true → isOb (get ρ1 j) = true) ∧ isRef (get ρ2 j) = isRef (get ρ1 j)
theorem own_wipe {vs : List Nat} (n : Nm vs ρ1 ρ2) {p : Addr} (h : Own (Py.wipe ρ2 vs) (L2.wipe σ vs) p) : Own (Py.wipe ρ1 vs) (L2.wipe σ vs) p := by
  obtain ⟨j, a, b⟩ := h
  refine ⟨j, ?_, b⟩
  rw [get_wipe] at a ⊢
  by_cases hj : j ∈ vs
  · rw [if_pos hj] at a; cases a
  · rw [if_neg hj] at a ⊢; exact (n.2 j hj).1 a
structure LcS (K : PySem.W.Frag) (Hf1 H1 : Hp) (ρ1 : Env) (σ : L2.St) (vs : List Nat) (D : Addr) (n : Nat) (done : List PV) (ρ2 : Env) (Hf2 H2 : Hp) : Prop where
  acc : ∃ us, H2 D = some (.lst us) ∧ DpAll K Hf2 us done
  few : done.length ≤ n
  fd : Hf2 D = none
  st : Step (Own (Py.wipe ρ1 vs) (L2.wipe σ vs)) Hf1 H1 Hf2 H2
  en : RepE K Hf2 H2 (Py.wipe ρ2 vs) (L2.wipe σ vs)
  nm : Nm vs ρ1 ρ2
theorem get_back (vs : List Nat) (j : Nat) (ρ0 : Env) : get (back ρ0 vs ρ) j = if j ∈ vs ∧ j < ρ.length then get ρ0 j else get ρ j := by
  have bl : ∀ vs : List Nat, (back ρ0 vs ρ).length = ρ.length := fun vs => by
    induction vs with
    | nil => rfl
    | cons v vs ih => unfold back; rw [List.length_set]; exact ih
  induction vs with
  | nil => simp [back]
  | cons v vs ih =>
    unfold back
    rw [get_set, ih, bl]
    by_cases h : v = j
    · subst h
      by_cases hl : v < ρ.length
      · simp [hl]
      · simp [hl]
    · rw [if_neg (fun z => h z.1)]
      simp only [List.mem_cons, Ne.symm h, false_or]
theorem back_len (vs : List Nat) (ρ0 : Env) : (back ρ0 vs ρ).length = ρ.length := by
  induction vs with
  | nil => rfl
  | cons v vs ih => unfold back; rw [List.length_set]; exact ih
/-- behind the comprehension -/
theorem lc_end {vs : List Nat} {D : Addr} {n : Nat} {done : List PV} (E1 : RepE K Hf1 H1 ρ1 σ) (hD : H1 D = none) (L : LcS K Hf1 H1 ρ1 σ vs D n done ρ2 Hf2 H2) :
    Bh K Hf1 H1 ρ1 σ Hf2 H2 (back ρ1 vs ρ2) ∧ RepR K Hf2 H2 H1 σ (.new (.lst done)) (.ref D) := by
  obtain ⟨us, h1, h2⟩ := L.acc
  have wsub : ∀ p, Own (Py.wipe ρ1 vs) (L2.wipe σ vs) p → ∃ j, j ∉ vs ∧ OwnAt ρ1 σ j p := fun p ⟨j, a, b⟩ => by
    rw [get_wipe] at a
    rw [slot_wipe] at b
    by_cases hj : j ∈ vs
    · rw [if_pos hj] at a; cases a
    · rw [if_neg hj] at a b; exact ⟨j, hj, a, b⟩
  have gb : ∀ j, get (back ρ1 vs ρ2) j = if j ∈ vs then get ρ1 j else get ρ2 j := fun j => by
    rw [get_back]
    by_cases hj : j ∈ vs
    · by_cases hl : j < ρ2.length
      · rw [if_pos ⟨hj, hl⟩, if_pos hj]
      · rw [if_neg (fun z => hl z.2), if_pos hj]
        have l1 : ¬ j < ρ1.length := by rw [← L.nm.1]; exact hl
        unfold get
        rw [List.getElem?_eq_none (by omega), List.getElem?_eq_none (by omega)]
    · rw [if_neg (fun z => hj z.1), if_neg hj]
  have ob : ∀ j, isOb (get (back ρ1 vs ρ2) j) = true → isOb (get ρ1 j) = true := fun j h => by
    rw [gb] at h
    by_cases hj : j ∈ vs
    · rw [if_pos hj] at h; exact h
    · rw [if_neg hj] at h; exact (L.nm.2 j hj).1 h
  refine ⟨⟨L.st.weak fun p hp => .inl (let ⟨j, _, h⟩ := wsub p hp; ⟨j, h⟩), ⟨?_, L.en.ff, fun j s e => ?_, fun j k p a b => E1.dis j k p ⟨ob j a.1, a.2⟩ ⟨ob k b.1, b.2⟩⟩, ⟨ob, fun j => ?_⟩⟩, ⟨D, rfl, hD, L.fd, us, h1, h2⟩⟩
  · rw [back_len, L.nm.1]; exact E1.len
  · rw [gb] at e
    by_cases hj : j ∈ vs
    · rw [if_pos hj] at e
      obtain ⟨u, a, b⟩ := E1.sl j s e
      refine ⟨u, a, b.step L.st fun p ho hu hp => ?_⟩
      obtain ⟨k, hk, ok⟩ := wsub p hp
      have : j = k := E1.dis j k p ⟨by rw [e]; exact ho, by rw [a, hu]⟩ ok
      exact hk (this ▸ hj)
    · rw [if_neg hj] at e
      have e' : get (Py.wipe ρ2 vs) j = some s := by rw [get_wipe, if_neg hj]; exact e
      obtain ⟨u, a, b⟩ := L.en.sl j s e'
      rw [slot_wipe, if_neg hj] at a
      exact ⟨u, a, b⟩
  · rw [gb]
    by_cases hj : j ∈ vs
    · rw [if_pos hj]
    · rw [if_neg hj]; exact (L.nm.2 j hj).2
theorem lc_turn {g : TG} {mg : MG} {tt : TT} {te : TE} {t : MT} {e : M} {vs : List Nat} {D : Addr} {n : Nat} {done ys : List PV} {x : PV} {u : V} {ρ3 : Env} (hg : SG K g mg) (hv : TgIn g mg vs) (ht : ST K tt t) (he : SE K te e) (hD : H1 D = none) (E1 : RepE K Hf1 H1 ρ1 σ)
    (hz : n < line) (L : LcS K Hf1 H1 ρ1 σ vs D n done ρ2 Hf2 H2) (hx : Dp K Hf2 u x) (hm : lcTurn mg vs t e x ρ2 = some (ys, ρ3)) {Nx : Hp → Prop} (hN : ∀ Hf3 H3, LcS K Hf1 H1 ρ1 σ vs D (n + 1) (done ++ ys) ρ3 Hf3 H3 → Nx H3) :
    g u (L2.wipe σ vs) H2 fun σ2 H3 => L2.wipe σ2 vs = L2.wipe σ vs ∧ tt σ2 H3 fun b H4 =>
      if b = true then te σ2 H4 fun y H5 => ∃ acc, H5 D = some (.lst acc) ∧ acc.length < sizeLine ∧ Nx (upd H5 D (.lst (acc ++ [y]))) else Nx H4 := by
  simp only [lcTurn, Option.bind_eq_some_iff] at hm
  obtain ⟨ρ4, e1, ⟨b, ρ5⟩, e2, e3⟩ := hm
  have ww : L2.wipe (L2.wipe σ vs) vs = L2.wipe σ vs := by
    apply List.ext_getElem?
    intro j
    rw [wipe_get?, wipe_length, wipe_get?]
    by_cases hj : j ∈ vs ∧ j < σ.length <;> simp [hj]
  have kn : ∀ q, Own (Py.wipe ρ2 vs) (L2.wipe σ vs) q → H2 q ≠ none := fun q hq z => by
    obtain ⟨⟨o, ho⟩, _⟩ := L.en.there hq
    rw [z] at ho; cases ho
  have g1 : g u (L2.wipe σ vs) H2 fun σ4 H3 => H3 = H2 ∧ ∃ Hf4, BhG K Hf2 H2 H2 (Py.wipe ρ2 vs) (L2.wipe σ vs) Hf4 ρ4 σ4 := hg (.val x) (Py.wipe ρ2 vs) ρ4 (L2.wipe σ vs) Hf2 H2 H2 u e1 L.en hx kn _ fun σ4 Hf4 B4 => ⟨rfl, Hf4, B4⟩
  refine hv.c u _ _ _ _ ?_ (hv.a u _ _ _ g1)
  rintro σ4 H3 ⟨⟨rfl, Hf4, B4⟩, w4⟩
  rw [ww] at w4
  refine ⟨w4, ?_⟩
  obtain ⟨us, hus, dus⟩ := L.acc
  -- the new list is none of the names' objects
  have own4 : ∀ p, Own ρ4 σ4 p → Own (Py.wipe ρ1 vs) (L2.wipe σ vs) p ∨ H1 p = none ∧ H3 p = none := fun p hp => by
    rcases B4.own p hp with z | z
    · exact .inl (own_wipe L.nm z)
    · exact .inr ⟨L.st.fresh z, z⟩
  have nD1 : ¬ Own (Py.wipe ρ1 vs) (L2.wipe σ vs) D := fun ⟨j, a, b⟩ => by
    rw [get_wipe] at a
    rw [slot_wipe] at b
    by_cases hj : j ∈ vs
    · rw [if_pos hj] at a; cases a
    · rw [if_neg hj] at a b
      obtain ⟨⟨o, ho⟩, _⟩ := E1.there ⟨j, a, b⟩
      rw [hD] at ho; cases ho
  have nD4 : ¬ Own ρ4 σ4 D := fun h => by
    rcases own4 D h with z | ⟨_, z⟩
    · exact nD1 z
    · rw [hus] at z; cases z
  have nm4 : ∀ j, j ∉ vs → get ρ4 j = get ρ2 j := fun j hj => by rw [hv.b x _ _ e1 j hj, get_wipe, if_neg hj]
  have len4 : ρ4.length = ρ1.length := by
    rw [B4.en.len, ← wipe_length σ4 vs, w4, wipe_length, ← E1.len]
  have st4 : Step (Own (Py.wipe ρ1 vs) (L2.wipe σ vs)) Hf1 H1 Hf4 H3 := L.st.trans B4.st fun p hp => by
    rcases hp with z | z
    · exact .inl (own_wipe L.nm z)
    · exact .inr (L.st.fresh z)
  have fd4 : Hf4 D = none := by rw [B4.st.nof D _ hus (fun z => by rcases z with z | z; exact nD1 (own_wipe L.nm z); rw [hus] at z; cases z)]; exact L.fd
  -- behind what was evaluated in the block
  have fin : ∀ {Hf5 H5 : Hp} {ρ5 : Env}, Bh K Hf4 H3 ρ4 σ4 Hf5 H5 ρ5 → Step (Own (Py.wipe ρ1 vs) (L2.wipe σ vs)) Hf1 H1 Hf5 H5 ∧ RepE K Hf5 H5 (Py.wipe ρ5 vs) (L2.wipe σ vs) ∧ Nm vs ρ1 ρ5 ∧ H5 D = some (.lst us) ∧ Hf5 D = none ∧ DpAll K Hf5 us done := fun {Hf5 H5 ρ5} B => by
    refine ⟨st4.trans B.st fun p hp => (own4 p hp).imp id (·.1), ?_, ⟨?_, fun j hj => ⟨fun h => ?_, ?_⟩⟩, B.st.keep D _ hus nD4, ?_, dps_mono B.st.ff _ _ (dps_mono B4.st.ff _ _ dus)⟩
    · have := B.en.wipe vs
      rw [w4] at this
      exact this
    · rw [B.en.len, ← B4.en.len]; exact len4
    · have h4 := B.kp.own j h
      rw [nm4 j hj] at h4
      exact (L.nm.2 j hj).1 h4
    · rw [B.kp.ref j, nm4 j hj]; exact (L.nm.2 j hj).2
    · rw [B.st.nof D _ hus nD4]; exact fd4
  refine ht ρ4 b ρ5 σ4 Hf4 H3 e2 B4.en _ fun Hf5 H5 S5 E5 k5 => ?_
  have B5 : Bh K Hf4 H3 ρ4 σ4 Hf5 H5 ρ5 := ⟨S5, E5, k5⟩
  cases b with
  | false =>
    simp only [Bool.false_eq_true, if_false] at e3 ⊢
    cases e3
    obtain ⟨f1, f2, f3, f4, f5, f6⟩ := fin B5
    rw [List.append_nil] at hN
    exact hN Hf5 H5 ⟨⟨us, f4, f6⟩, Nat.le_succ_of_le L.few, f5, f1, f2, f3⟩
  | true =>
    simp only [if_true, Option.bind_eq_some_iff, Option.map_eq_some_iff, Prod.mk.injEq] at e3 ⊢
    obtain ⟨⟨r, ρ6⟩, e4, ⟨v, ρ7⟩, e5, rfl, rfl⟩ := e3
    refine he ρ5 r ρ6 σ4 Hf5 H5 e4 E5 _ fun y Hf6 H6 S6 E6 R6 k6 => ?_
    have B6 : Bh K Hf5 H5 ρ5 σ4 Hf6 H6 ρ6 := ⟨S6, E6, k6⟩
    obtain ⟨Hf7, B7, d7⟩ := B6.frz E5 R6 e5
    obtain ⟨f1, f2, f3, f4, f5, f6⟩ := fin (B5.trans B7)
    have lu : us.length = done.length := dps_len f6
    have st := Step.at (o := .lst (us ++ [y])) f2.ff f5
    refine ⟨us, f4, by rw [← line_eq, lu]; exact Nat.lt_of_le_of_lt L.few hz, hN Hf7 _ ⟨⟨us ++ [y], upd_same, dps_app f6 (.cons d7 .nil)⟩, by rw [List.length_append]; exact Nat.succ_le_succ L.few, f5, f1.trans st fun p hp => .inr (by rw [hp]; exact hD), f2.step st fun p hp z => ?_, f3⟩⟩
    rw [z] at hp
    exact nD1 (own_wipe f3 hp)
theorem lcF_some {f : PV → Env → Option (List PV × Env)} {x : PV} {xs : List PV} {z : List PV × Env} (h : lcF f (x :: xs) ρ = some z) : ∃ ys ρ2 zs, f x ρ = some (ys, ρ2) ∧ lcF f xs ρ2 = some (zs, z.2) ∧ z.1 = ys ++ zs := by
  simp only [lcF, Option.bind_eq_some_iff, Option.map_eq_some_iff] at h
  obtain ⟨⟨ys, ρ2⟩, e1, ⟨zs, ρ3⟩, e2, rfl⟩ := h
  exact ⟨ys, ρ2, zs, e1, e2, rfl⟩
theorem se_lc {wi : TI} {g : TG} {tt : TT} {te : TE} {it : MI} {mg : MG} {t : MT} {e : M} (vs : List Nat) (hi : SI K wi it) (hg : SG K g mg) (hv : TgIn g mg vs) (ht : ST K tt t) (he : SE K te e) : SE K (tLc wi g tt te vs) (mLc it mg vs t e) := by
  intro ρ r ρ' σ Hf H hm E Q q
  simp only [mLc, Option.bind_eq_some_iff] at hm
  obtain ⟨⟨xs, ρ1⟩, e1, e2⟩ := hm
  split at e2
  · rename_i hz
    simp only [Option.map_eq_some_iff, Prod.mk.injEq] at e2
    obtain ⟨⟨total, ρe⟩, e3, rfl, rfl⟩ := e2
    refine hi ρ xs ρ1 σ Hf H e1 E _ fun J Hf1 H1 B1 w => ?_
    intro D hD
    have fD : Hf1 D = none := by
      cases z : Hf1 D with
      | none => rfl
      | some o => have := B1.en.ff D o z; rw [hD] at this; cases this
    have st0 := Step.at (o := .lst []) B1.en.ff fD
    have wsub : ∀ p, Own (Py.wipe ρ1 vs) (L2.wipe σ vs) p → Own ρ1 σ p := fun p ⟨j, a, b⟩ => by
      rw [get_wipe] at a
      rw [slot_wipe] at b
      by_cases hj : j ∈ vs
      · rw [if_pos hj] at a; cases a
      · rw [if_neg hj] at a b; exact ⟨j, a, b⟩
    refine ⟨fun i m H2 => m = xs.length - i ∧ i ≤ xs.length ∧ ∃ ρ2 Hf2 done rest, lcF (lcTurn mg vs t e) (xs.drop i) ρ2 = some (rest, ρe) ∧ total = done ++ rest ∧ LcS K Hf1 H1 ρ1 σ vs D i done ρ2 Hf2 H2,
      ⟨_, rfl, Nat.zero_le _, ρ1, Hf1, [], total, e3, rfl, ⟨⟨[], upd_same, .nil⟩, Nat.le_refl _, fD, st0.weak fun p hp => .inr (by rw [hp]; exact hD), ?_, rfl, fun j _ => ⟨id, rfl⟩⟩⟩, ?_⟩
    · refine (B1.en.wipe vs).step st0 fun p hp z => ?_
      obtain ⟨⟨o, ho⟩, _⟩ := B1.en.there (wsub p hp)
      rw [z, hD] at ho; cases ho
    · rintro i m H2 ⟨rfl, hi', ρ2, Hf2, done, rest, h1, rfl, L⟩
      obtain ⟨w1, w2⟩ := w Hf2 H2 (L.st.weak fun p hp => .inl (wsub p hp)) i
      cases hd : xs.drop i with
      | nil =>
        rw [hd] at h1
        cases h1
        have hle : xs.length ≤ i := by
          have := congrArg List.length hd
          rw [List.length_drop, List.length_nil] at this
          omega
        refine .inl ⟨w2 hle, ?_⟩
        obtain ⟨Be, Re⟩ := lc_end B1.en hD L
        rw [List.append_nil] at q
        have B := B1.trans Be
        exact q _ Hf2 H2 B.st B.en (Re.back fun p hp => B1.fresh hp) B.kp
      | cons x xr =>
        rw [hd] at h1
        obtain ⟨hx, hr⟩ := drop_get hd
        have hlt : i < xs.length := (List.getElem?_eq_some_iff.mp hx).1
        obtain ⟨go, yl⟩ := w1 x hx
        obtain ⟨ys, ρ3, zs, t1, t2, t3⟩ := lcF_some h1
        have t3' : rest = ys ++ zs := t3
        subst t3'
        refine .inr ⟨go, fun H' => ∃ Hf3, LcS K Hf1 H1 ρ1 σ vs D (i + 1) (done ++ ys) ρ3 Hf3 H', fun H' ⟨Hf3, L3⟩ => ⟨_, by omega, rfl, hlt, ρ3, Hf3, done ++ ys, zs, by rw [hr]; exact t2, by rw [List.append_assoc], L3⟩, fun u H3 hy => ?_⟩
        obtain ⟨rfl, du⟩ := yl u H3 hy
        exact lc_turn hg hv ht he hD B1.en (Nat.lt_of_lt_of_le hlt hz) L du t1 fun Hf3 H4 L3 => ⟨Hf3, L3⟩
  · cases e2
end
section
variable {X : Cx} {elt tg iter : Expr} {ifs : List Expr} {scope : Scope} {pos : Pos} {mi : MI} {mt : MT} {me : M} {x y : Str} {p : Pos}
/-- [elt for x in iter if ..] -/
theorem be_lcN (i : Nat) (own : List (Str × Nat)) (hc : X.calm = true) (hN : X.N.Nodup) (hi : BI X (.Name x p) iter mi) (ok : blkC X.N X.env.scope scope own = true) (hm : i ∈ own.map (·.2)) (hx : X.N[i]? = some x)
    (hg : ∀ (s : Shared) (H : Hp) (C : Addr) (cl : List (Str × Addr)) (fp : List Addr), PG (X.blk s H scope (compEnvC scope cl C X.env) fp) (.Name x p) (L2.gName i))
    (ht : ∀ (s : Shared) (H : Hp) (C : Addr) (cl : List (Str × Addr)) (fp : List Addr), BTs (X.blk s H scope (compEnvC scope cl C X.env) fp) ifs mt)
    (he : ∀ (s : Shared) (H : Hp) (C : Addr) (cl : List (Str × Addr)) (fp : List Addr), BE (X.blk s H scope (compEnvC scope cl C X.env) fp) elt me) (hs : ∀ x, foldedSetIterable iter X.env x = pure x := by intro _; rfl) :
    BE X (.ListComp elt [⟨.Name x p, iter, ifs, 0⟩] scope pos) (mLc mi (Py.gName i) (own.map (·.2)) mt me) := by
  obtain ⟨wi, h1, h2⟩ := hi
  exact ⟨_, pe_lc hc hN h1 (blkOk_by ok) hg (fun s H C cl fp => (ht s H C cl fp).can) (fun s H C cl fp => (he s H C cl fp).can) hs, se_lc _ h2 (sg_name i) (tgIn_name hm) st_rT se_rE⟩
theorem bs_setLcN (j : Nat) (i : Nat) (own : List (Str × Nat)) {py spos : Pos} (hc : X.calm = true) (hN : X.N.Nodup) (hj : X.N[j]? = some y) (hyl : X.env.scope.names.lookup y = some .local) (hi : BI X (.Name x p) iter mi) (ok : blkC X.N X.env.scope scope own = true) (hm : i ∈ own.map (·.2)) (hx : X.N[i]? = some x)
    (hsw : swapsWith (.ListComp elt [⟨.Name x p, iter, ifs, 0⟩] scope pos) (some (.Name y py)) spos.line X.env = pure true)
    (hg : ∀ (s : Shared) (H : Hp) (C : Addr) (cl : List (Str × Addr)) (fp : List Addr), PG (X.blk s H scope (compEnvC scope cl C X.env) fp) (.Name x p) (L2.gName i))
    (ht : ∀ (s : Shared) (H : Hp) (C : Addr) (cl : List (Str × Addr)) (fp : List Addr), BTs (X.blk s H scope (compEnvC scope cl C X.env) fp) ifs mt)
    (he : ∀ (s : Shared) (H : Hp) (C : Addr) (cl : List (Str × Addr)) (fp : List Addr), BE (X.blk s H scope (compEnvC scope cl C X.env) fp) elt me) (hs : ∀ x, foldedSetIterable iter X.env x = pure x := by intro _; rfl) :
    BS X (.Assign [.Name y py] (.ListComp elt [⟨.Name x p, iter, ifs, 0⟩] scope pos) spos) (sAsg (mLc mi (Py.gName i) (own.map (·.2)) mt me) (Py.gName j)) := by
  obtain ⟨wi, h1, h2⟩ := hi
  exact ⟨_, ps_setLc hc hN hj hyl hsw h1 (blkOk_by ok) hg (fun s H C cl fp => (ht s H C cl fp).can) (fun s H C cl fp => (he s H C cl fp).can) hs, ss_asg (se_lc _ h2 (sg_name i) (tgIn_name hm) st_rT se_rE) (sg_name j)⟩
end
end Py
/-! Py7: defs and their calls. -/
namespace Py
open PySem PySem.Spec PyProof.Rows L2

/-- the objects handed on, behind the call -/
def OutsOk (K : PySem.W.Frag) (Hf H : Hp) : List Sl → List V → List Ob → Prop
  | [], [], [] => True
  | .ref _ :: as, v :: vs, o :: os => (∃ p, v = .ref p ∧ Hf p = none ∧ RepOb K Hf H p o) ∧ OutsOk K Hf H as vs os
  | .val _ :: as, _ :: vs, os => OutsOk K Hf H as vs os
  | _, _, _ => False
def notOwn : Sl → Bool
  | .own _ => false
  | _ => true
/-- what a def of this meaning promises -/
def spOf (K : PySem.W.Frag) (n : Nat) (d : Den) : Sp := fun vs H Q _ => vs.length = n ∧ ∃ (Hf : Hp) (as : List Sl) (r : R) (os : List Ob), d as = some (r, os) ∧ as.all notOwn = true ∧ RepE K Hf H (as.map some) (vs.map some) ∧
  ∀ u Hf' H', Step (Own (as.map some) (vs.map some)) Hf H Hf' H' → RepR K Hf' H' H [] r u → OutsOk K Hf' H' as vs os → Q u H'
theorem get_map (as : List Sl) (i : Nat) : get (as.map some) i = as[i]? := by
  unfold get
  rw [List.getElem?_map]
  cases as[i]? <;> rfl
theorem slot_map (vs : List V) (i : Nat) : slot (vs.map some) i = vs[i]? := by
  unfold slot
  rw [List.getElem?_map]
  cases vs[i]? <;> rfl
section
variable {K : PySem.W.Frag} {Hf H Hf' H' Hf1 H1 Hf2 H2 H0 : Hp} {ρ ρ' ρ1 ρ2 : Env} {σ σ' σ1 σ2 : L2.St} {O O' O1 : Addr → Prop} {X : Cx}
theorem get_start (n : Nat) (as : List Sl) (i : Nat) : get (startE n as) i = as[i]? := by
  unfold startE get
  by_cases h : i < as.length
  · rw [List.getElem?_append_left (by simpa using h), List.getElem?_map]
    cases as[i]? <;> rfl
  · rw [List.getElem?_append_right (by simpa using h), List.getElem?_eq_none (l := as) (by omega)]
    by_cases h2 : i - (as.map some).length < n - as.length
    · rw [List.getElem?_replicate, if_pos h2]; rfl
    · rw [List.getElem?_replicate, if_neg h2]; rfl
theorem slot_start (N : List Str) (vs : List V) (i : Nat) : slot (L2.start N vs) i = vs[i]? := by
  unfold L2.start slot
  by_cases h : i < vs.length
  · rw [List.getElem?_append_left (by simpa using h), List.getElem?_map]
    cases vs[i]? <;> rfl
  · rw [List.getElem?_append_right (by simpa using h), List.getElem?_eq_none (l := vs) (by omega)]
    by_cases h2 : i - (vs.map some).length < N.length - vs.length
    · rw [List.getElem?_replicate, if_pos h2]; rfl
    · rw [List.getElem?_replicate, if_neg h2]; rfl
theorem start_len {as : List Sl} {vs : List V} (N : List Str) (h : as.length = vs.length) : (startE N.length as).length = (L2.start N vs).length := by
  unfold startE L2.start
  simp [h]
theorem rep_start {as : List Sl} {vs : List V} (N : List Str) (E : RepE K Hf H (as.map some) (vs.map some)) : RepE K Hf H (startE N.length as) (L2.start N vs) ∧ ∀ i p, OwnAt (startE N.length as) (L2.start N vs) i p ↔ OwnAt (as.map some) (vs.map some) i p := by
  have hl : as.length = vs.length := by simpa using E.len
  have eq : ∀ i p, OwnAt (startE N.length as) (L2.start N vs) i p ↔ OwnAt (as.map some) (vs.map some) i p := fun i p => by
    unfold OwnAt
    rw [get_start, slot_start, get_map, slot_map]
  refine ⟨⟨start_len N hl, E.ff, fun i s e => ?_, fun i j p a b => E.dis i j p ((eq i p).mp a) ((eq j p).mp b)⟩, eq⟩
  rw [get_start, ← get_map] at e
  rw [slot_start, ← slot_map]
  exact E.sl i s e
theorem outs_ok : ∀ (as : List Sl) (vs : List V) (os : List Ob) (ρ' : Env) (σ' : L2.St), as.all notOwn = true → as.length = vs.length → outs as ρ' = some os → (∀ i s, get ρ' i = some s → ∃ u, slot σ' i = some u ∧ RepSl K Hf' H' s u) →
    (∀ i o, as[i]? = some (.ref o) → slot σ' i = vs[i]?) → OutsOk K Hf' H' as vs os
  | [], [], os, ρ', σ', _, _, h, _, _ => by cases h; trivial
  | [], _ :: _, _, _, _, _, hl, _, _, _ => by cases hl
  | _ :: _, [], _, _, _, _, hl, _, _, _ => by cases hl
  | .own o :: as, v :: vs, os, ρ', σ', ho, _, _, _, _ => by simp [notOwn] at ho
  | .val x :: as, v :: vs, os, ρ', σ', ho, hl, h, E, hs => by
    cases ρ' with
    | nil => cases h
    | cons s ρ' =>
      have h' : outs as ρ' = some os := h
      have e1 : ∀ i, get ρ' i = get (s :: ρ') (i + 1) := fun i => rfl
      have e2 : ∀ i, slot σ'.tail i = slot σ' (i + 1) := fun i => by cases σ' <;> simp [slot]
      refine outs_ok as vs os ρ' σ'.tail (by simpa [notOwn] using ho) (by simpa using hl) h' (fun i t e => ?_) fun i o e => ?_
      · rw [e1] at e
        rw [e2]
        exact E _ t e
      · rw [e2, hs (i + 1) o e]; rfl
  | .ref x :: as, v :: vs, os, ρ', σ', ho, hl, h, E, hs => by
    cases ρ' with
    | nil => cases h
    | cons s ρ' =>
      cases s with
      | none => cases h
      | some s =>
        cases s with
        | val w => cases h
        | own w => cases h
        | lck w => cases h
        | ref w =>
          have h' : (outs as ρ').map (w :: ·) = some os := h
          rw [Option.map_eq_some_iff] at h'
          obtain ⟨os', h1, rfl⟩ := h'
          have e1 : ∀ i, get ρ' i = get (some (.ref w) :: ρ') (i + 1) := fun i => rfl
          have e2 : ∀ i, slot σ'.tail i = slot σ' (i + 1) := fun i => by cases σ' <;> simp [slot]
          refine ⟨?_, outs_ok as vs os' ρ' σ'.tail (by simpa [notOwn] using ho) (by simpa using hl) h1 (fun i t e => ?_) fun i o e => ?_⟩
          · obtain ⟨u, s1, r1⟩ := E 0 (.ref w) rfl
            rw [hs 0 x rfl] at s1
            cases s1
            exact r1
          · rw [e1] at e
            rw [e2]
            exact E _ t e
          · rw [e2, hs (i + 1) o e]; rfl
theorem leave_ok {r r' : R} {u : V} (E : RepE K Hf' H' ρ' σ') (R1 : RepR K Hf' H' H σ' r u) (hl : leave r ρ' = some r') (nw : ∀ i o p, get ρ' i = some (.own o) → slot σ' i = some (.ref p) → H p = none) : RepR K Hf' H' H [] r' u := by
  cases r with
  | val v => cases hl; exact R1
  | new o => cases hl; exact R1
  | bor i =>
    have R1' : slot σ' i = some u := R1
    cases g : get ρ' i with
    | none => simp only [leave, g] at hl; cases hl
    | some s =>
      simp only [leave, g] at hl
      obtain ⟨u', h1, h2⟩ := E.sl i s g
      rw [R1'] at h1
      cases h1
      cases s with
      | val v => cases hl; exact h2
      | own o => cases hl; obtain ⟨p, rfl, f, rp⟩ := h2; exact ⟨p, rfl, nw i o p g R1', f, rp⟩
      | ref o => cases hl
      | lck kvs => cases hl
/-- what a body has at hand -/
structure Cok (X : Cx) (k : Nat) : Prop where
  calm : X.calm = true
  nd : X.N.Nodup
  pass : PassesOwn (model X.prog X.w) X.A X.env X.xe
  div : DivOk X
  units : X.A.units + 64 < cLine
  unitsD : X.A.units + 65 < cLine
  room : Room k X.A
/-- THE RULE for a def: its body's meaning is its own -/
theorem ok_of {P : Program} {w : World} {mg : Str → Option Value} {base : Heap} {x qual : Str} {st : Stmt} {f : Addr} {fd : FuncData} {N ps : List Str} {k : Nat} {m : SM} (F : Fun K x qual st f fd) (S : FnScope N ps (defScope st)) (hk : 40 ≤ k) (hs : base.NoSeer) (ht : P.given.tree = none)
    (hb : ∀ (cdv : Value) (A : Around) (outer : List PySem.Env) (s : Shared) (H : Hp) (E : XK), Cok (cxOf CX0 P w K mg base N qual (defScope st) f cdv A outer s H E).nox k → BSs (cxOf CX0 P w K mg base N qual (defScope st) f cdv A outer s H E).nox (defBody st) m) :
    FnOk P w K mg base CX0 (k + 1) f fd ps (spOf K ps.length (mkDen N.length m)) := by
  refine F.ok S (fun vs H Q E h => h.1) fun cdv A outer s H vs Q E hr h => ?_
  have hd := hr.dp
  have hu := hr.un
  obtain ⟨t, h1, h2⟩ := hb cdv A outer s H E ⟨rfl, S.nd, PassesOwn.never, ⟨hs, ht, by show (A.deeper (envOfC qual (defScope st) s.heap.objs.size f cdv)).depth + 100 < recursionLimit; omega, _, outer, rfl, S.gen, S.co, rfl, rfl⟩, by show (A.deeper (envOfC qual (defScope st) s.heap.objs.size f cdv)).units + 64 < cLine; omega, by show (A.deeper (envOfC qual (defScope st) s.heap.objs.size f cdv)).units + 65 < cLine; omega, hr⟩
  refine ⟨t, h1, ?_⟩
  obtain ⟨_, Hf, as, r, os, hd, ho, E0, q⟩ := h
  obtain ⟨E1, eq⟩ := rep_start N E0
  have ow : ∀ p, Own (startE N.length as) (L2.start N vs) p → Own (as.map some) (vs.map some) p := fun p ⟨i, h⟩ => ⟨i, (eq i p).mp h⟩
  have hl : as.length = vs.length := by simpa using E0.len
  unfold mkDen at hd
  simp only [Option.bind_eq_some_iff] at hd
  obtain ⟨⟨fl, ρ'⟩, e1, e2⟩ := hd
  have K' : (cxOf CX0 P w K mg base N qual (defScope st) f cdv A outer s H E).nox.K = K := rfl
  refine h2 (startE N.length as) fl ρ' (L2.start N vs) Hf H e1 E1 _ fun σ' Hf' H' B => ?_
  have refs : ∀ i o, as[i]? = some (.ref o) → isRef (get ρ' i) = true ∧ slot σ' i = vs[i]? := fun i o e => by
    obtain ⟨a, b⟩ := B.ref i
    have g : get (startE N.length as) i = some (.ref o) := by rw [get_start]; exact e
    rw [g] at a b
    exact ⟨a, (b rfl).trans (slot_start N vs i)⟩
  have fin : ∀ os', outs as ρ' = some os' → OutsOk K Hf' H' as vs os' := fun os' h => outs_ok as vs os' ρ' σ' ho hl h B.en.sl fun i o e => (refs i o e).2
  have st' : Step (Own (as.map some) (vs.map some)) Hf H Hf' H' := B.st.weak fun p hp => .inl (ow p hp)
  have nw : ∀ i o p, get ρ' i = some (.own o) → slot σ' i = some (.ref p) → H p = none := fun i o p g sl => by
    have oi : OwnAt ρ' σ' i p := ⟨by rw [g]; rfl, sl⟩
    rcases B.own p ⟨i, oi⟩ with z | z
    · obtain ⟨k, a, b⟩ := ow p z
      rw [get_map] at a
      cases hk : as[k]? with
      | none => rw [hk] at a; cases a
      | some s0 =>
        cases s0 with
        | val v => rw [hk] at a; cases a
        | own o0 =>
          have := List.all_eq_true.mp ho _ (List.mem_of_getElem? hk)
          cases this
        | lck o0 => rw [hk] at a; cases a
        | ref o0 =>
          obtain ⟨r1, r2⟩ := refs k o0 hk
          have sk : slot σ' k = some (.ref p) := by rw [r2, ← slot_map]; exact b
          have nl : isLck (get ρ' k) = false := by
            cases gk : get ρ' k with
            | none => rfl
            | some s =>
              cases s with
              | lck kvs =>
                exfalso
                obtain ⟨u1, a1, p1, e1, ws, od, f1, _⟩ := B.en.sl k _ gk
                rw [sk] at a1
                cases a1
                cases e1
                obtain ⟨u2, a2, p2, e2, f2, _⟩ := B.en.sl i _ g
                rw [sl] at a2
                cases a2
                cases e2
                rw [f2] at f1
                cases f1
              | _ => rfl
          have ok : OwnAt ρ' σ' k p := ⟨isRef_isOb r1 nl, sk⟩
          have : i = k := B.en.dis i k p oi ok
          subst this
          rw [g] at r1
          cases r1
    · exact z
  cases fl with
  | nx =>
    simp only [Option.map_eq_some_iff, Prod.mk.injEq] at e2
    obtain ⟨os', h3, rfl, rfl⟩ := e2
    exact q .non Hf' H' st' .non (fin _ h3)
  | rt r0 =>
    simp only [Option.bind_eq_some_iff, Option.map_eq_some_iff, Prod.mk.injEq] at e2
    obtain ⟨r', h4, os', h3, rfl, rfl⟩ := e2
    intro u R1
    exact q u Hf' H' st' (leave_ok B.en R1 h4 nw) (fin _ h3)
  | bk => cases e2
  | ct => cases e2

/-! ### calls -/
/-- the arguments, as they stand -/
def AgOk (K : PySem.W.Frag) (Hf : Hp) (ρ : Env) (σ : L2.St) : List Ag → List Sl → List V → Prop
  | [], [], [] => True
  | .v _ :: as, .val v :: ss, u :: us => Dp K Hf u v ∧ AgOk K Hf ρ σ as ss us
  | .r i :: as, .ref o :: ss, u :: us => slot σ i = some u ∧ obAt ρ i = some o ∧ AgOk K Hf ρ σ as ss us
  | _, _, _ => False
def SA (K : PySem.W.Frag) (ta : TA) (as : List Ag) : Prop := ∀ (ρ : Env) (ss : List Sl) (ρ' : Env) (σ : L2.St) (Hf H : Hp), agsEval as ρ = some (ss, ρ') → RepE K Hf H ρ σ → ∀ Q : List V → Hp → Prop,
  (∀ us Hf' H', Bh K Hf H ρ σ Hf' H' ρ' → AgOk K Hf' ρ' σ as ss us → Q us H') → ta σ H Q
structure BA (X : Cx) (es : List Expr) (as : List Ag) : Prop where
  ex : ∃ ta, PA X es ta ∧ SA X.K ta as
theorem sa_nil : SA K tNil [] := by
  intro ρ ss ρ' σ Hf H hm E Q q
  cases hm
  exact q [] Hf H (.refl E) trivial
theorem sa_v {te : TE} {tr : TA} {a : M} {as : List Ag} (ha : SE K te a) (hr : SA K tr as) : SA K (tCons te tr) (.v a :: as) := by
  intro ρ ss ρ' σ Hf H hm E Q q
  simp only [agsEval, Option.bind_eq_some_iff, Option.map_eq_some_iff, Prod.mk.injEq] at hm
  obtain ⟨⟨x, ρ1⟩, e1, ⟨v, ρ2⟩, e2, ⟨ss', ρ3⟩, e3, rfl, rfl⟩ := hm
  refine ha ρ x ρ1 σ Hf H e1 E _ fun u Hf1 H1 S1 E1 R1 k1 => ?_
  obtain ⟨Hf2, B2, d⟩ := (⟨S1, E1, k1⟩ : Bh K Hf H ρ σ Hf1 H1 ρ1).frz E R1 e2
  refine hr ρ2 ss' ρ3 σ Hf2 H1 e3 B2.en _ fun us Hf3 H3 B3 A3 => ?_
  exact q (u :: us) Hf3 H3 (B2.trans B3) ⟨dp_mono B3.st.ff _ _ d, A3⟩
theorem sa_r {tr : TA} {i : Nat} {as : List Ag} (hr : SA K tr as) : SA K (tCons (tVar i) tr) (.r i :: as) := by
  intro ρ ss ρ' σ Hf H hm E Q q
  simp only [agsEval, Option.bind_eq_some_iff, Option.map_eq_some_iff, Prod.mk.injEq] at hm
  obtain ⟨o0, e0, ⟨ss', ρ3⟩, e3, o, e4, rfl, rfl⟩ := hm
  obtain ⟨p, _, s1, _⟩ := obAt_ok E e0
  refine ⟨_, slot_at s1, ?_⟩
  refine hr ρ ss' ρ3 σ Hf H e3 E _ fun us Hf3 H3 B3 A3 => ?_
  exact q (.ref p :: us) Hf3 H3 B3 ⟨s1, e4, A3⟩
theorem AgOk.len : ∀ {as : List Ag} {ss : List Sl} {us : List V}, AgOk K Hf ρ σ as ss us → ss.length = us.length ∧ ss.all notOwn = true
  | [], [], [], _ => ⟨rfl, rfl⟩
  | .v _ :: as, .val v :: ss, u :: us, h => by obtain ⟨a, b⟩ := AgOk.len h.2; exact ⟨by simp [a], by simp [b, notOwn]⟩
  | .r i :: as, .ref o :: ss, u :: us, h => by obtain ⟨a, b⟩ := AgOk.len h.2.2; exact ⟨by simp [a], by simp [b, notOwn]⟩
  | [], _ :: _, _, h => by cases h
  | [], [], _ :: _, h => by cases h
  | .v _ :: _, [], _, h => by cases h
  | .v _ :: _, .own _ :: _, _, h => by cases h
  | .v _ :: _, .ref _ :: _, _, h => by cases h
  | .v _ :: _, .val _ :: _, [], h => by cases h
  | .r _ :: _, [], _, h => by cases h
  | .r _ :: _, .own _ :: _, _, h => by cases h
  | .r _ :: _, .val _ :: _, _, h => by cases h
  | .r _ :: _, .ref _ :: _, [], h => by cases h
/-- the k-th argument -/
theorem AgOk.at : ∀ {as : List Ag} {ss : List Sl} {us : List V}, AgOk K Hf ρ σ as ss us → ∀ (k : Nat) s, ss[k]? = some s → ∃ u, us[k]? = some u ∧ ((∃ v, s = .val v ∧ Dp K Hf u v) ∨ ∃ i o, s = .ref o ∧ as[k]? = some (Ag.r i) ∧ slot σ i = some u ∧ obAt ρ i = some o)
  | [], [], [], _, k, s, e => by simp at e
  | .v _ :: as, .val v :: ss, u :: us, h, 0, s, e => by cases e; exact ⟨u, rfl, .inl ⟨v, rfl, h.1⟩⟩
  | .r i :: as, .ref o :: ss, u :: us, h, 0, s, e => by cases e; exact ⟨u, rfl, .inr ⟨i, o, rfl, rfl, h.1, h.2.1⟩⟩
  | .v _ :: as, .val v :: ss, u :: us, h, k + 1, s, e => by
    obtain ⟨u', a, b⟩ := AgOk.at h.2 k s e
    exact ⟨u', a, b⟩
  | .r i :: as, .ref o :: ss, u :: us, h, k + 1, s, e => by
    obtain ⟨u', a, b⟩ := AgOk.at h.2.2 k s e
    exact ⟨u', a, b⟩
  | [], _ :: _, _, h, _, _, _ => by cases h
  | [], [], _ :: _, h, _, _, _ => by cases h
  | .v _ :: _, [], _, h, _, _, _ => by cases h
  | .v _ :: _, .own _ :: _, _, h, _, _, _ => by cases h
  | .v _ :: _, .ref _ :: _, _, h, _, _, _ => by cases h
  | .v _ :: _, .val _ :: _, [], h, _, _, _ => by cases h
  | .r _ :: _, [], _, h, _, _, _ => by cases h
  | .r _ :: _, .own _ :: _, _, h, _, _, _ => by cases h
  | .r _ :: _, .val _ :: _, _, h, _, _, _ => by cases h
  | .r _ :: _, .ref _ :: _, [], h, _, _, _ => by cases h
theorem refsOf_inj : ∀ {as : List Ag} {j k i : Nat}, (refsOf as).Nodup → as[j]? = some (Ag.r i) → as[k]? = some (Ag.r i) → j = k
  | [], _, _, _, _, h, _ => by simp at h
  | .v _ :: as, 0, _, _, _, h, _ => by simp at h
  | .v _ :: as, _ + 1, 0, _, _, _, h => by simp at h
  | .v _ :: as, j + 1, k + 1, i, n, h1, h2 => congrArg (· + 1) (refsOf_inj (as := as) (i := i) n (by simpa using h1) (by simpa using h2))
  | .r l :: as, 0, 0, i, n, h1, h2 => rfl
  | .r l :: as, 0, k + 1, i, n, h1, h2 => by
    have n' : l ∉ refsOf as ∧ (refsOf as).Nodup := List.nodup_cons.mp n
    have e : l = i := by simpa using h1
    have m : ∀ (as : List Ag) (k : Nat), as[k]? = some (Ag.r i) → i ∈ refsOf as := fun as => by
      induction as with
      | nil => intro k h; simp at h
      | cons a as ih =>
        intro k h
        cases k with
        | zero => cases a with
          | v m => simp at h
          | r l => have : l = i := by simpa using h
                   subst this; exact List.mem_cons_self
        | succ k => cases a with
          | v m => exact ih k (by simpa using h)
          | r l => exact List.mem_cons_of_mem _ (ih k (by simpa using h))
    exact absurd (m as k (by simpa using h2)) (e ▸ n'.1)
  | .r l :: as, j + 1, 0, i, n, h1, h2 => (refsOf_inj (as := .r l :: as) (j := 0) (k := j + 1) n h2 h1).symm
  | .r l :: as, j + 1, k + 1, i, n, h1, h2 => congrArg (· + 1) (refsOf_inj (as := as) (i := i) (List.nodup_cons.mp n).2 (by simpa using h1) (by simpa using h2))
  termination_by as j k => (as.length, j)
  decreasing_by all_goals simp_wf; all_goals omega
/-- the callee's view -/
theorem args_rep {as : List Ag} {ss : List Sl} {us : List V} (E : RepE K Hf H ρ σ) (h : AgOk K Hf ρ σ as ss us) (nd : (refsOf as).Nodup) : RepE K Hf H (ss.map some) (us.map some) ∧ ∀ p, Own (ss.map some) (us.map some) p → ∃ i k : Nat, as[k]? = some (Ag.r i) ∧ OwnAt ρ σ i p ∧ us[k]? = some (V.ref p) := by
  have at_ : ∀ k p, OwnAt (ss.map some) (us.map some) k p → ∃ i, as[k]? = some (Ag.r i) ∧ OwnAt ρ σ i p ∧ us[k]? = some (V.ref p) := fun k p ⟨a, b⟩ => by
    rw [get_map] at a
    rw [slot_map] at b
    cases hs : ss[k]? with
    | none => rw [hs] at a; cases a
    | some s =>
      obtain ⟨u, e1, e2⟩ := h.at k s hs
      rw [b] at e1
      cases e1
      rcases e2 with ⟨v, rfl, _⟩ | ⟨i, o, rfl, e3, e4, e5⟩
      · rw [hs] at a; cases a
      · obtain ⟨p', oi, s1, _⟩ := obAt_ok E e5
        rw [e4] at s1
        cases s1
        exact ⟨i, e3, oi, b⟩
  refine ⟨⟨by simpa using h.len.1, E.ff, fun k s e => ?_, fun j k p a b => ?_⟩, fun p ⟨k, a⟩ => ?_⟩
  · rw [get_map] at e
    rw [slot_map]
    obtain ⟨u, e1, e2⟩ := h.at k s e
    refine ⟨u, e1, ?_⟩
    rcases e2 with ⟨v, rfl, d⟩ | ⟨i, o, rfl, e3, e4, e5⟩
    · exact d
    · obtain ⟨p, oi, s1, f, r, _⟩ := obAt_ok E e5
      rw [e4] at s1
      cases s1
      exact ⟨p, rfl, f, r⟩
  · obtain ⟨i, h1, h2, _⟩ := at_ j p a
    obtain ⟨i', h3, h4, _⟩ := at_ k p b
    have : i = i' := E.dis i i' p h2 h4
    subst this
    exact refsOf_inj nd h1 h3
  · obtain ⟨i, h1, h2, h3⟩ := at_ k p a
    exact ⟨i, k, h1, h2, h3⟩
/-- what the objects are behind the call, by the names -/
theorem outs_by : ∀ {as : List Ag} {ss : List Sl} {us : List V} {os : List Ob}, AgOk K Hf ρ σ as ss us → OutsOk K Hf' H' ss us os → (refsOf as).length = os.length ∧ ∀ j o, (j, o) ∈ (refsOf as).zip os → ∃ p, slot σ j = some (.ref p) ∧ Hf' p = none ∧ RepOb K Hf' H' p o
  | [], [], [], [], _, _ => ⟨rfl, fun j o h => by simp [refsOf] at h⟩
  | .v _ :: as, .val v :: ss, u :: us, os, h, k => outs_by (as := as) h.2 k
  | .r i :: as, .ref o :: ss, u :: us, o' :: os, h, k => by
    obtain ⟨l, m⟩ := outs_by (as := as) h.2.2 k.2
    refine ⟨by simp [refsOf, l], fun j o2 hj => ?_⟩
    have hj' : (j, o2) ∈ (i, o') :: (refsOf as).zip os := hj
    rcases List.mem_cons.mp hj' with e | e
    · cases e
      obtain ⟨p, e1, f, r⟩ := k.1
      exact ⟨p, by rw [h.1, e1], f, r⟩
    · exact m j o2 e
  | [], _ :: _, _, _, h, _ => by cases h
  | [], [], _ :: _, _, h, _ => by cases h
  | [], [], [], _ :: _, _, k => by cases k
  | .v _ :: _, [], _, _, h, _ => by cases h
  | .v _ :: _, .own _ :: _, _, _, h, _ => by cases h
  | .v _ :: _, .ref _ :: _, _, _, h, _ => by cases h
  | .v _ :: _, .val _ :: _, [], _, h, _ => by cases h
  | .r _ :: _, [], _, _, h, _ => by cases h
  | .r _ :: _, .own _ :: _, _, _, h, _ => by cases h
  | .r _ :: _, .val _ :: _, _, _, h, _ => by cases h
  | .r _ :: _, .ref _ :: _, [], _, h, _ => by cases h
  | .r _ :: _, .ref _ :: _, _ :: _, [], _, k => by cases k
theorem setOb_len (i : Nat) (o : Ob) : (setOb ρ i o).length = ρ.length := by
  unfold setOb
  split <;> rw [List.length_set]
theorem setObs_get : ∀ (is : List Nat) (os : List Ob) (ρ : Env), is.Nodup → is.length = os.length → (∀ i ∈ is, i < ρ.length) → (setObs is os ρ).length = ρ.length ∧ (∀ j, j ∉ is → get (setObs is os ρ) j = get ρ j) ∧
    ∀ j o, (j, o) ∈ is.zip os → get (setObs is os ρ) j = if isRef (get ρ j) then some (.ref o) else some (.own o)
  | [], [], ρ, _, _, _ => ⟨rfl, fun _ _ => rfl, fun j o h => by simp at h⟩
  | [], _ :: _, _, _, h, _ => by cases h
  | _ :: _, [], _, _, h, _ => by cases h
  | i :: is, o :: os, ρ, nd, hl, hb => by
    obtain ⟨n1, n2⟩ := List.nodup_cons.mp nd
    have hi : i < ρ.length := hb i List.mem_cons_self
    obtain ⟨a, b, c⟩ := setObs_get is os (setOb ρ i o) n2 (by simpa using hl) fun k hk => by rw [setOb_len]; exact hb k (List.mem_cons_of_mem _ hk)
    refine ⟨a.trans (setOb_len i o), fun j hj => ?_, fun j o' h => ?_⟩
    · have h1 : j ∉ is := fun z => hj (List.mem_cons_of_mem _ z)
      have h2 : i ≠ j := fun z => hj (z ▸ List.mem_cons_self)
      show get (setObs is os (setOb ρ i o)) j = _
      rw [b j h1, get_setOb i j o hi, if_neg h2]
    · show get (setObs is os (setOb ρ i o)) j = _
      have h' : (j, o') ∈ (i, o) :: is.zip os := h
      rcases List.mem_cons.mp h' with e | e
      · cases e
        rw [b i n1, get_setOb i i o hi, if_pos rfl]
      · rw [c j o' e]
        have hij : i ≠ j := fun z => n1 (z ▸ (List.of_mem_zip e).1)
        rw [get_setOb i j o hi, if_neg hij]
theorem zip_mem : ∀ {is : List Nat} {os : List Ob} {j : Nat}, is.length = os.length → j ∈ is → ∃ o, (j, o) ∈ is.zip os
  | [], _, _, _, h => by cases h
  | _ :: _, [], _, h, _ => by cases h
  | i :: is, o :: os, j, hl, h => by
    rcases List.mem_cons.mp h with e | e
    · exact ⟨o, by rw [e]; exact List.mem_cons_self⟩
    · obtain ⟨o', h'⟩ := zip_mem (is := is) (os := os) (by simpa using hl) e
      exact ⟨o', List.mem_cons_of_mem _ h'⟩
theorem refs_mem : ∀ {as : List Ag} {i k : Nat}, as[k]? = some (Ag.r i) → i ∈ refsOf as
  | [], _, _, h => by simp at h
  | .v _ :: as, i, 0, h => by simp at h
  | .v _ :: as, i, k + 1, h => refs_mem (as := as) (k := k) (by simpa using h)
  | .r l :: as, i, 0, h => by have e : l = i := by simpa using h
                              exact e ▸ List.mem_cons_self
  | .r l :: as, i, k + 1, h => List.mem_cons_of_mem _ (refs_mem (as := as) (k := k) (by simpa using h))
theorem agOk_refs : ∀ {as : List Ag} {ss : List Sl} {us : List V}, AgOk K Hf ρ σ as ss us → ∀ i ∈ refsOf as, ∃ o, obAt ρ i = some o
  | [], [], [], _, i, h => by cases h
  | .v _ :: as, .val v :: ss, u :: us, h, i, hi => agOk_refs (as := as) h.2 i hi
  | .r l :: as, .ref o :: ss, u :: us, h, i, hi => by
    have hi' : i ∈ l :: refsOf as := hi
    rcases List.mem_cons.mp hi' with e | e
    · exact ⟨o, e ▸ h.2.1⟩
    · exact agOk_refs (as := as) h.2.2 i e
  | [], _ :: _, _, h, _, _ => by cases h
  | [], [], _ :: _, h, _, _ => by cases h
  | .v _ :: _, [], _, h, _, _ => by cases h
  | .v _ :: _, .own _ :: _, _, h, _, _ => by cases h
  | .v _ :: _, .ref _ :: _, _, h, _, _ => by cases h
  | .v _ :: _, .val _ :: _, [], h, _, _ => by cases h
  | .r _ :: _, [], _, h, _, _ => by cases h
  | .r _ :: _, .own _ :: _, _, h, _, _ => by cases h
  | .r _ :: _, .val _ :: _, _, h, _, _ => by cases h
  | .r _ :: _, .ref _ :: _, [], h, _, _ => by cases h
theorem se_call {ta : TA} {as : List Ag} {d : Den} {n : Nat} {E : XK} (hn : as.length = n) (ha : SA K ta as) : SE K (tCall (spOf K n d) [] E ta) (mCall d as) := by
  intro ρ r ρ' σ Hf H hm E0 Q q
  simp only [mCall, Option.bind_eq_some_iff] at hm
  obtain ⟨⟨ss, ρ1⟩, e1, e2⟩ := hm
  split at e2
  · rename_i nd
    simp only [Option.map_eq_some_iff, Prod.mk.injEq] at e2
    obtain ⟨⟨r', os⟩, e3, rfl, rfl⟩ := e2
    refine ha ρ ss ρ1 σ Hf H e1 E0 _ fun us Hf1 H1 B1 A1 => ?_
    have hle : ∀ {as : List Ag} {ss : List Sl} {us : List V}, AgOk K Hf1 ρ1 σ as ss us → us.length = as.length := by
      intro as
      induction as with
      | nil => intro ss us h; cases ss <;> cases us <;> first | rfl | cases h
      | cons a as ih =>
        intro ss us h
        cases ss with
        | nil => cases a <;> cases h
        | cons s ss =>
          cases us with
          | nil => cases a <;> cases s <;> cases h
          | cons u us =>
            cases a <;> cases s <;> first
              | exact congrArg (· + 1) (ih h.2)
              | exact congrArg (· + 1) (ih h.2.2)
              | cases h
    obtain ⟨E2, ow⟩ := args_rep B1.en A1 nd
    rw [List.append_nil]
    refine ⟨(hle A1).trans hn, Hf1, ss, r', os, e3, A1.len.2, E2, fun u Hf2 H2 S2 R2 O2 => ?_⟩
    obtain ⟨ol, ob⟩ := outs_by A1 O2
    have lt : ∀ i ∈ refsOf as, i < ρ1.length := fun i hi => by
      obtain ⟨o, h⟩ := agOk_refs A1 i hi
      obtain ⟨_, _, _, _, _, h⟩ := obAt_ok B1.en h
      exact h
    obtain ⟨l1, g1, g2⟩ := setObs_get (refsOf as) os ρ1 nd ol lt
    have isob : ∀ j, isOb (get (setObs (refsOf as) os ρ1) j) = true → isOb (get ρ1 j) = true := fun j h => by
      by_cases hj : j ∈ refsOf as
      · obtain ⟨o, ho⟩ := agOk_refs A1 j hj
        obtain ⟨_, oi, _⟩ := obAt_ok B1.en ho
        exact oi.1
      · rw [g1 j hj] at h; exact h
    have st : Step (Own ρ1 σ) Hf1 H1 Hf2 H2 := S2.weak fun p hp => by
      obtain ⟨i, k, _, h, _⟩ := ow p hp
      exact .inl ⟨i, h⟩
    have B2 : Bh K Hf1 H1 ρ1 σ Hf2 H2 (setObs (refsOf as) os ρ1) := by
      refine ⟨st, ⟨l1.trans B1.en.len, S2.fh, fun j s e => ?_, fun j k p a b => B1.en.dis j k p ⟨isob j a.1, a.2⟩ ⟨isob k b.1, b.2⟩⟩, ⟨isob, fun j => ?_⟩⟩
      · by_cases hj : j ∈ refsOf as
        · obtain ⟨o, hz⟩ := zip_mem ol hj
          obtain ⟨p, s1, f1, r1⟩ := ob j o hz
          rw [g2 j o hz] at e
          refine ⟨_, s1, ?_⟩
          split at e
          · cases e; exact ⟨p, rfl, f1, r1⟩
          · cases e; exact ⟨p, rfl, f1, r1⟩
        · rw [g1 j hj] at e
          obtain ⟨u', h1, h2⟩ := B1.en.sl j s e
          refine ⟨u', h1, h2.step S2 fun p ho hu hp => ?_⟩
          obtain ⟨i, k, hk, oi, _⟩ := ow p hp
          have : j = i := B1.en.dis j i p ⟨by rw [e]; exact ho, by rw [h1, hu]⟩ oi
          exact hj (this ▸ refs_mem hk)
      · by_cases hj : j ∈ refsOf as
        · obtain ⟨o, hz⟩ := zip_mem ol hj
          rw [g2 j o hz]
          cases hr : isRef (get ρ1 j) <;> simp [isRef]
        · rw [g1 j hj]
    have B := B1.trans B2
    exact q u Hf2 H2 B.st B.en (R2.any.back fun p hp => B1.fresh hp) B.kp
  · cases e2
end
section
variable {X : Cx} {e a : Expr} {es : List Expr} {m : M} {as : List Ag} {x y : Str} {p pos : Pos} {k n : Nat} {f : Addr} {fd : FuncData} {ps : List Str} {d : Den}
theorem ba_nil : BA X [] [] := ⟨_, pa_nil, sa_nil⟩
theorem ba_v (ha : BE X a m) (hr : BA X es as) (hs : starEach (a :: es) X.env = (false, eval a X.env) :: starEach es X.env := by rfl) : BA X (a :: es) (.v m :: as) := let ⟨t, h1, h2⟩ := ha; let ⟨u, h3, h4⟩ := hr; ⟨_, pa_cons h1 h3 hs, sa_v h2 h4⟩
theorem ba_r (i : Nat) (ho : PE X (.Name x p) (tVar i)) (hr : BA X es as) (hs : starEach (.Name x p :: es) X.env = (false, eval (.Name x p) X.env) :: starEach es X.env := by rfl) : BA X (.Name x p :: es) (.r i :: as) := let ⟨u, h3, h4⟩ := hr; ⟨_, pa_cons ho h3 hs, sa_r h4⟩
/-- f(e, ..) -/
theorem be_call (F : FnOk X.prog X.w X.K X.mg X.base CX0 k f fd ps (spOf X.K n d)) (hr : Room k X.A) (hg : Gl X x) (hm : X.mg x = some (.ref f)) (hk : PySem.W.keepIn X.K (.ref f) = true) (hb : Binds X.K fd ps []) (ha : BA X (e :: es) as) (hn : as.length = n := by rfl)
    (hdb : (x == ("__debug__" : Str)) = false := by decide) (he : starEach (e :: es) X.env = (false, eval e X.env) :: starEach es X.env := by rfl) (hpl : (backTo pos (starEach es X.env)).any (·.1) = false := by rfl) : BE X (.Call (.Name x p) (e :: es) [] pos) (mCall d as) := by
  obtain ⟨t, h1, h2⟩ := ha
  exact ⟨_, pe_call F hr hg hm hk hb .nil (pass0 (X := X)) h1 hdb he hpl, se_call hn h2⟩
end
/-- a def that is never come to -/
theorem ok_none {P : Program} {w : World} {K : PySem.W.Frag} {mg : Str → Option Value} {base : Heap} {k n : Nat} {f : Addr} {fd : FuncData} {ps : List Str} (hp : ps.length = n) : FnOk P w K mg base CX0 k f fd ps (spOf K n fun _ => none) :=
  ⟨fun vs H Q E h => h.1.trans hp.symm, fun A outer s H args us vs Q E hr he hb hv ⟨_, Hf, as, r, os, hd, _⟩ => nomatch hd⟩
end Py
/-! Py8: the law's end. -/
namespace Py
open PySem PySem.Spec PyProof.Rows L2

/-- the script alone is tracked: the law's def, called -/
theorem law_core {P : Program} {w : World} {K : PySem.W.Frag} {mg mb : Str → Option Value} {k : Nat} {fa a : Addr} {fd : FuncData} {x : Str} {d : Den} {s₁ : Shared} {vs : List Value} {ns : List Int}
    (KX : K.In s₁.heap) (n1 : s₁.heap.Ns mainGlobals mg) (n2 : s₁.heap.Ns builtinsNs mb) (n3 : ∀ x : Str, x ≠ "__name__" → mb x = bootBuiltins x) (n4 : s₁.heap.NoLimit) (n5 : s₁.heap.NoSeer) (n6 : s₁.gens = #[])
    (ob : s₁.heap.get? a = some { cls := .type "list", data := .seq vs.toArray }) (hr : Room k callerA)
    (F : ∀ base : Heap, K.In base → base.Ns mainGlobals mg → base.NoSeer → FnOk P w K mg base CX0 k fa fd [x] (spOf K 1 d)) (bi : ∀ (s : Shared) (u : Value), BindsTo s fd ⟨[u], []⟩ [(x, u)])
    (pure : ∃ os, d [.val (.list (ns.map PyData.int))] = some (.val (.bool true), os)) (H : Hp) (hS : SqL K H a (ns.map V.int)) (hok : HOk P w H s₁.heap) (only : ∀ b u, H b = some u → b = a ∧ K.lookup a = none ∧ ∃ o xs, u = .frz o (.lst xs)) :
    codeAny (model P w) callerA (.call (.ref fa) ⟨[.ref a], []⟩) (fun r s' => r = .ok (.ret (.bool true)) ∧ OldK s₁.heap s'.heap ∧ s'.os = s₁.os ∧ AllBare s'.gens) s₁ := by
  have free : ∀ b, b ≠ a → H b = none := fun b h => by
    cases q : H b with
    | none => rfl
    | some u => exact absurd (only b u q).1 h
  have base_get : ∀ b o, b ≠ a → s₁.heap.get? b = some o → (hidT s₁.heap H).get? b = some o := fun b o h e => hidT_get e (free b h)
  have ns_get : ∀ b m, s₁.heap.Ns b m → (hidT s₁.heap H).Ns b m := by
    rintro b m ⟨o, es, ep, e, dd, r⟩
    refine ⟨o, es, ep, base_get b o (fun z => ?_) e, dd, r⟩
    rw [z, ob] at e
    cases e
    cases dd
  have kin : K.In (hidT s₁.heap H) := fun b o e => by
    by_cases h : b = a
    · subst h
      refine hidT_get (KX b o e) ?_
      cases q : H b with
      | none => rfl
      | some u => have := (only b u q).2.1; rw [e] at this; cases this
    · exact base_get b o h (KX b o e)
  have seer : (hidT s₁.heap H).NoSeer := by
    obtain ⟨⟨mc, c1, c2⟩, ⟨mm, m1, m2⟩, ⟨mb', b1, b2⟩, ⟨mg', bm, obm, g1, g2, g3, g4, g5⟩⟩ := n5
    refine ⟨⟨mc, ns_get _ _ c1, c2⟩, ⟨mm, ns_get _ _ m1, m2⟩, ⟨mb', ns_get _ _ b1, b2⟩, ⟨mg', bm, obm, ns_get _ _ g1, g2, base_get bm obm (fun z => ?_) g3, g4, g5⟩⟩
    rw [z, ob] at g3
    cases g3
    exact absurd (show Value.type "list" = Value.type "module" from g4) (by decide)
  have mod : Mod K mg (hidT s₁.heap H) := ⟨kin, ns_get _ _ n1, ⟨mb, ns_get _ _ n2, n3⟩, let ⟨mc, h1, h2⟩ := n4; ⟨mc, ns_get _ _ h1, h2⟩⟩
  have env : Env0 P w K mg (hidT s₁.heap H) callerA [] s₁ H := ⟨rfl, mod, fun b o e => of_hidT e, Nat.le_of_eq (hidT_size _ _), trivial, fun b hb => absurd hb List.not_mem_nil, hok, .of_eq n6⟩
  obtain ⟨os, hd⟩ := pure
  have args : RepE K H H ([Sl.val (.list (ns.map PyData.int))].map some) ([V.ref a].map some) := by
    refine ⟨rfl, fun _ _ h => h, fun i s e => ?_, fun i j p ha => ?_⟩
    · rw [get_map] at e
      rw [slot_map]
      cases i with
      | zero => cases e; exact ⟨_, rfl, .lst hS (dps_ints ns)⟩
      | succ i => cases e
    · have h1 := ha.1
      rw [get_map] at h1
      cases i with
      | zero => cases h1
      | succ i => cases h1
  have prom : spOf K 1 d [.ref a] H (fun v _ => v = .bl true) fun _ _ _ => False := ⟨rfl, H, _, _, os, hd, rfl, args, fun u Hf' H' _ R _ => by cases (show Dp K Hf' u (.bool true) from R); rfl⟩
  refine codeAny_mono ((F _ kin (ns_get _ _ n1) seer).run callerA [] s₁ H ⟨[.ref a], []⟩ [.ref a] [.ref a] _ _ hr env (bi s₁ (.ref a)) (.cons rfl .nil) prom) fun r s' h => ?_
  cases r with
  | error e => exact False.elim h
  | ok fl =>
    cases fl with
    | next => exact False.elim h
    | brk => exact False.elim h
    | cont => exact False.elim h
    | ret u =>
      obtain ⟨v, H', os', bare, un, hok', rv, q⟩ := h
      have q' : v = .bl true := q
      subst q'
      obtain rfl : u = Value.bool true := rv
      refine ⟨rfl, OldK.of_keep fun b o e => ?_, os', bare⟩
      cases z : H b with
      | none => exact un.keep b o e z (List.not_mem_nil) List.not_mem_nil
      | some u =>
        obtain ⟨_, _, o2, xs, rfl⟩ := only b u z
        have z1 := (hok b _ z).1
        have z2 := (hok' b _ (un.frzs b o2 _ z)).1
        rw [e] at z1
        cases z1
        exact z2
theorem law_py {P : Program} {w : World} {K : PySem.W.Frag} {mg mb : Str → Option Value} {k : Nat} {fa a : Addr} {fd : FuncData} {x : Str} {d : Den} {s₁ : Shared} {vs : List Value} {ns : List Int}
    (KX : K.In s₁.heap) (n1 : s₁.heap.Ns mainGlobals mg) (n2 : s₁.heap.Ns builtinsNs mb) (n3 : ∀ x : Str, x ≠ "__name__" → mb x = bootBuiltins x) (n4 : s₁.heap.NoLimit) (n5 : s₁.heap.NoSeer) (n6 : s₁.gens = #[])
    (ob : s₁.heap.get? a = some { cls := .type "list", data := .seq vs.toArray }) (hi : IntsAre vs ns) (hl : ns.length ≤ sizeLine) (hr : Room k callerA)
    (F : ∀ base : Heap, K.In base → base.Ns mainGlobals mg → base.NoSeer → FnOk P w K mg base CX0 k fa fd [x] (spOf K 1 d)) (bi : ∀ (s : Shared) (u : Value), BindsTo s fd ⟨[u], []⟩ [(x, u)])
    (pure : ∃ os, d [.val (.list (ns.map PyData.int))] = some (.val (.bool true), os)) :
    codeAny (model P w) callerA (.call (.ref fa) ⟨[.ref a], []⟩) (fun r s' => r = .ok (.ret (.bool true)) ∧ OldK s₁.heap s'.heap ∧ s'.os = s₁.os ∧ AllBare s'.gens) s₁ := by
  have rv := vals_ints hi
  have hlen : (ns.map V.int).length ≤ sizeLine := by rw [List.length_map]; exact hl
  cases hk : K.lookup a with
  | some o =>
    have e := KX a o hk
    rw [ob] at e
    cases e
    refine law_core KX n1 n2 n3 n4 n5 n6 ob hr F bi pure (fun _ => none) (.inr ⟨_, vs.toArray, _, hk, rfl, rfl, rfl, ?_, by simpa using rv⟩) (fun b u z => nomatch z) fun b u z => nomatch z
    have := rv.length
    rw [List.size_toArray, ← this]
    exact hlen
  | none =>
    refine law_core KX n1 n2 n3 n4 n5 n6 ob hr F bi pure (fun b => if b = a then some (.frz { cls := .type "list", data := .seq vs.toArray } (.lst (ns.map V.int))) else none) (.inl (.inr ⟨_, if_pos rfl⟩)) (fun b u z => ?_) fun b u z => ?_
    · by_cases hb : b = a
      · subst hb
        have z' := (if_pos rfl).symm.trans z
        cases z'
        exact ⟨ob, hlen, vs, _, rv, ob⟩
      · have z' := (if_neg hb).symm.trans z
        cases z'
    · by_cases hb : b = a
      · have z' := (if_pos hb).symm.trans z
        cases z'
        exact ⟨hb, hk, _, _, rfl⟩
      · have z' := (if_neg hb).symm.trans z
        cases z'
/-- the goal that k_head leaves, from the law's def -/
theorem walk_py {l : PySem.W.OpenLaw} {n k : Nat} {q : Program} {loose : List Str} {XP : (Str → Option Value) → Heap → Prop} {YP : World → Heap → Prop} {dr : DefRec} {K : Params → PySem.W.Frag} {x : Str} {d : Den}
    (hn : l.most = some n) (hn2 : n ≤ sizeLine) (hdf : dr.params.defaults = []) (hr : Room k callerA) (hq : importsNone q = true)
    (hY : ∀ (w : World) (h : Heap), YP w h → (K w.params).In h)
    (F : ∀ (w : World) (mg : Str → Option Value) (fa : Addr) (h : Heap), (K w.params).In h → h.Ns mainGlobals mg → mg dr.name = some (.ref fa) →
      ∃ fd : FuncData, (∀ (s : Shared) (u : Value), BindsTo s fd ⟨[u], []⟩ [(x, u)]) ∧
        ∀ base : Heap, (K w.params).In base → base.Ns mainGlobals mg → base.NoSeer → FnOk l.prog w (K w.params) mg base CX0 k fa fd [x] (spOf (K w.params) 1 d))
    (pure : ∀ ns : List Int, ns.length ≤ n → (∀ z ∈ ns, Builtin.Int.intBits z ≤ 1048576) → ∃ os, d [.val (.list (ns.map PyData.int))] = some (.val (.bool true), os)) :
    PySem.W.WalkO q loose XP YP l.row.toRowW dr [] (fun f vs => PySem.call f vs) := by
  refine Att.attach_callB hn hdf fun w s₀ s₁ mg mb fa o pm cd doc a vs ns G Y ho hd hcd hmg hobj hints hlen hbits hg => ?_
  have KX := hY w _ Y
  obtain ⟨fd, hb, hF⟩ := F w mg fa _ KX G.T.g hmg
  exact law_py KX G.T.g G.T.b G.T.builtins G.T.nolimit (G.T.seer hq) hg hobj hints (Nat.le_trans hlen hn2) hr hF hb (pure ns hlen hbits)
end Py
/-! Py9: words for the walk. -/
namespace Py
open PySem PySem.Spec PyProof.Rows L2
/-- a def of the text, as it stands behind the top -/
structure Df (K : PySem.W.Frag) (mg : Str → Option Value) (x : Str) (st : Stmt) where
  f : Addr
  fd : FuncData
  F : Fun K x x st f fd
  g : mg x = some (.ref f)
/-- a constant tuple -/
structure CT (K : PySem.W.Frag) (mg : Str → Option Value) (x : Str) (vs : List PV) where
  a : Addr
  m : mg x = some (.ref a)
  d : ∀ H : Hp, Dp K H (.ref a) (.tuple vs)
def ct_mk {K : PySem.W.Frag} {h : Heap} {mg : Str → Option Value} {x : Str} {i j : Int} {a : Addr} {t u : Tok} {od : Option Addr} {n : Nat} {sl : Array (Option Value)} (X : K.In h) (G : h.Ns mainGlobals mg) (q1 : PySem.W.nsIn K mainGlobals x = some (some (.ref a)))
    (q2 : K.lookup a = some ⟨.type "tuple", od, .seq #[.int i t, .int j u] n, sl⟩) : CT K mg x [.int i, .int j] :=
  ⟨a, PySem.W.mg_of X G q1, fun H => .tup (.inr ⟨_, _, _, q2, rfl, rfl, (by show 2 ≤ sizeLine; rw [sizeLine_eq]; decide), .cons (show RelV (.int i) _ from ⟨t, rfl⟩) (.cons (show RelV (.int j) _ from ⟨u, rfl⟩) .nil)⟩) (.cons (.int i) (.cons (.int j) .nil))⟩
theorem bt_len : bootBuiltins "len" = some (.builtin "len") := by decide +kernel
theorem bt_abs : bootBuiltins "abs" = some (.builtin "abs") := by decide +kernel
theorem bt_sum : bootBuiltins "sum" = some (.builtin "sum") := by decide +kernel
theorem bt_sorted : bootBuiltins "sorted" = some (.builtin "sorted") := by decide +kernel
theorem bt_isinstance : bootBuiltins "isinstance" = some (.builtin "isinstance") := by decide +kernel
theorem bt_int : bootBuiltins "int" = some (.type "int") := by decide +kernel
theorem bt_bool : bootBuiltins "bool" = some (.type "bool") := by decide +kernel
theorem bt_str : bootBuiltins "str" = some (.type "str") := by decide +kernel
theorem bt_tuple : bootBuiltins "tuple" = some (.type "tuple") := by decide +kernel
theorem bt_list : bootBuiltins "list" = some (.type "list") := by decide +kernel
theorem blk_at {N : List Str} {sc scope : Scope} {own : List (Str × Nat)} {X : Cx} (h1 : X.N = N) (h2 : X.env.scope = sc) (h : blkC N sc scope own = true) : blkC X.N X.env.scope scope own = true := by rw [h1, h2]; exact h
/-- the scope of a comprehension within another one -/
def relS (scope sc : Scope) : Scope := { scope with names := scope.names.map fun (n, k) => if (k == .free && sc.kind == .function && sc.names.lookup n == some .cell) then (n, .cell) else (n, k) }
theorem DivOk.blk {X : Cx} (D : DivOk X) {s : Shared} {H : Hp} {scope : Scope} {cenv : PySem.Env} {fp : List Addr} : DivOk (X.blk s H scope cenv fp) := ⟨D.seer, D.tree, D.deep, D.top⟩
section
variable {X : Cx} {elt iter : Expr} {ifs : List Expr} {scope : Scope} {pos : Pos} {mi : MI} {mt : MT} {me : M} {y : Str} {p : Pos}
end
section
variable {K : PySem.W.Frag} {Hf H Hf' H' : Hp} {X : Cx}
theorem ob_imul : OpB X (inplaceOp .Mult) fMulI := opB_int iop_mulB fun c d z h => by
  unfold fMulI at h
  split at h
  · split at h
    · rename_i hz; cases h; exact ⟨_, _, _, rfl, rfl, hz, rfl, fun _ => .int _⟩
    · cases h
  · cases h
theorem ob_idiv (D : DivOk X) : OpB X (inplaceOp .FloorDiv) fDiv := opB_int (iop_divB D) fun _ _ _ h => div_some h
/-! sorted, of ints -/
theorem pw_perm_eq : ∀ {xs ys : List Int}, xs.Perm ys → xs.Pairwise (· ≤ ·) → ys.Pairwise (· ≤ ·) → xs = ys := fun p h1 h2 =>
  List.Perm.eq_of_pairwise (fun a b _ _ h1 h2 => Int.le_antisymm h1 h2) h1 h2 p
theorem isort_perm (ns : List Int) : (isort ns).Perm ns := List.mergeSort_perm _ _
theorem isort_sorted (ns : List Int) : (isort ns).Pairwise (· ≤ ·) := by
  have h := List.pairwise_mergeSort (le := fun a b : Int => decide (a ≤ b)) (fun a b c h1 h2 => by simp only [decide_eq_true_eq] at *; omega) (fun a b => by simp only [Bool.or_eq_true, decide_eq_true_eq]; omega) ns
  exact h.imp fun z => by simpa using z
theorem c_sorted : C1 X (.builtin "sorted") fSorted := ⟨_, cr_sortedI, fun Hf H c x z e hc e5 Q q => by
  simp only [fSorted, Option.bind_eq_some_iff, Option.map_eq_some_iff] at e5
  obtain ⟨xs, h1, ns, h2, rfl⟩ := e5
  obtain ⟨a, us, rfl, hs, d⟩ := lst_ok e hc h1
  rw [ints_ok h2 d] at hs
  refine ⟨a, ns, rfl, hs, fun ns' p h3 h4 hp => ?_⟩
  rw [pw_perm_eq (h3.trans (isort_perm ns).symm) h4 (isort_sorted ns)]
  exact newL e (dps_ints _) q p hp⟩
end
end Py
/-! PyA0: further meanings. -/
namespace Py
open PySem
/-- is True, is False -/
def fIsB (neg : Bool) : Ct → Ct → Option R
  | .pv (.bool a), .pv (.bool b) => some (.val (.bool (neg ^^ (a == b))))
  | _, _ => none
def flatD : PV → Bool
  | .int _ => true
  | .str _ => true
  | _ => false
def inD (x : PV) (xs : List PV) : Bool := xs.any fun y => PyData.eqv y x
/-- x in a list or a tuple -/
def fIn (neg : Bool) (c d : Ct) : Option R := match c with
  | .pv x => d.seq?.bind fun xs => if flatD x = true ∧ xs.all flatD = true then some (.val (.bool (neg ^^ inD x xs))) else
    d.lst?.bind fun xs => if SeqAt.shaped x = true ∧ SeqAt.shaped (.list xs) = true then some (.val (.bool (neg ^^ inD x xs))) else none
  | _ => none
/-- list(range(n)), list(range(m, n)) -/
def mLstR1 (a : M) : M := fun ρ => (a ρ).bind fun x => (look x.1 x.2).bind fun c => (intOf c).bind fun n => if n ≤ line ∧ -(2 ^ 62) ≤ n then some (.new (.lst (rangeL 0 n.toNat)), x.2) else none
def mLstR2 (a b : M) : M := fun ρ => (a ρ).bind fun x => (look x.1 x.2).bind fun c => (intOf c).bind fun lo => (b x.2).bind fun y => (look y.1 y.2).bind fun d => (intOf d).bind fun hi =>
  if -(2 ^ 61) ≤ lo ∧ lo < 2 ^ 61 ∧ -(2 ^ 61) ≤ hi ∧ hi < 2 ^ 61 ∧ (hi - lo) ≤ line then some (.new (.lst (rangeL lo (hi - lo).toNat)), y.2) else none
/-- xs[e] op= a -/
def sAugIx (i : Nat) (e : M) (f : Ct → Ct → Option R) (a : M) : SM := fun ρ => (lstAt ρ i).bind fun _ => (e ρ).bind fun y => (look y.1 y.2).bind fun c => (intOf c).bind fun k => (lstAt y.2 i).bind fun xs => (atI xs k).bind fun v =>
  (a y.2).bind fun x => (look x.1 x.2).bind fun c2 => (f (.pv v) c2).bind fun z => match z with
    | .val w => (lstAt x.2 i).bind fun ys => (ixN ys.length k).map fun j => (.nx, setOb x.2 i (.lst (ys.set j w)))
    | _ => none
/-- xs[::-1] of a list -/
def fRevL (c : Ct) : Option R := c.lst?.map fun xs => .new (.lst xs.reverse)
def fRevT (c : Ct) : Option R := c.tup?.map fun xs => .val (.tuple xs.reverse)
/-- range(lo, hi, -1) -/
def rangeD (lo : Int) (n : Nat) : List PV := (List.range n).map fun (k : Nat) => .int (lo - (k : Int))
def iRngD (a b : M) : MI := fun ρ => (a ρ).bind fun x => (look x.1 x.2).bind fun c => (intOf c).bind fun lo => (b x.2).bind fun y => (look y.1 y.2).bind fun d => (intOf d).bind fun hi =>
  if -(2 ^ 61) ≤ lo ∧ lo < 2 ^ 61 ∧ -(2 ^ 61) ≤ hi ∧ hi < 2 ^ 61 ∧ (lo - hi) ≤ line then some (rangeD lo (lo - hi).toNat, y.2) else none
/-- xs.insert(e, v) -/
def mInsert (i : Nat) (e a : M) : M := fun ρ => (lstAt ρ i).bind fun _ => (e ρ).bind fun y => (look y.1 y.2).bind fun c => (intOf c).bind fun k => (a y.2).bind fun x => (frz x.1 x.2).bind fun v => (lstAt v.2 i).bind fun xs =>
  if 0 ≤ k ∧ k < 2 ^ 62 ∧ xs.length < line then some (.val .none, setOb v.2 i (.lst (xs.take k.toNat ++ [v.1] ++ xs.drop k.toNat))) else none
/-- xs.index(e) of flat items -/
def fIndex (c d : Ct) : Option R := match d with
  | .pv x => c.lst?.bind fun xs => if flatD x = true ∧ xs.all flatD = true then (xs.findIdx? fun y => PyData.eqv y x).map fun j => .val (.int (j : Nat)) else none
  | _ => none
/-! dicts -/
def dctAt (ρ : Env) (i : Nat) : Option (List (Key × PV)) := match obAt ρ i with
  | some (.dct kvs) => some kvs
  | _ => none
def keyC : Ct → Option Key
  | .pv v => keyOf v
  | _ => none
def fDget : Ct → Ct → Option R
  | .ob (.dct kvs), c => (keyC c).bind fun k => (dGet kvs k).map .val
  | _, _ => none
/-- k in d -/
def fDin (neg : Bool) : Ct → Ct → Option R
  | c, .ob (.dct kvs) => (keyC c).map fun k => .val (.bool (neg ^^ (dGet kvs k).isSome))
  | _, _ => none
/-- d.get(k, v) -/
def mDget2 (d k v : M) : M := fun ρ => (d ρ).bind fun x => (look x.1 x.2).bind fun _ => (k x.2).bind fun y => (look y.1 y.2).bind fun ck => (keyC ck).bind fun key => (v y.2).bind fun z => (look x.1 z.2).bind fun c => match c, z.1 with
  | .ob (.dct kvs), .val w => some (.val ((dGet kvs key).getD w), z.2)
  | _, _ => none
/-- d[k] = v -/
def sDput (i : Nat) (e a : M) : SM := fun ρ => (a ρ).bind fun x => (frz x.1 x.2).bind fun v => (dctAt v.2 i).bind fun _ => (e v.2).bind fun y => (look y.1 y.2).bind fun c => (keyC c).bind fun k => (dctAt y.2 i).bind fun kvs =>
  if kvs.length < line then some (.nx, setOb y.2 i (.dct (dPut kvs k v.1))) else none
end Py
namespace Py
open PySem
def mIndex (a b : M) : M := fun ρ => (a ρ).bind fun x => (look x.1 x.2).bind fun c0 => c0.lst?.bind fun _ => (b x.2).bind fun y => (look x.1 y.2).bind fun cx => (look y.1 y.2).bind fun cy => (fIndex cx cy).map fun z => (z, y.2)
end Py
/-! PyA: rules of the further meanings. -/
namespace Py
open PySem PySem.Spec PyProof.Rows L2
section
variable {K : PySem.W.Frag} {Hf H Hf' H' Hf1 H1 Hf2 H2 H0 : Hp} {ρ ρ' ρ1 ρ2 : Env} {σ σ' σ1 σ2 : L2.St} {O O' O1 : Addr → Prop} {X : Cx}
/-! is True -/
/-! in -/
/-! list(range(..)) -/
end
section
variable {X : Cx} {a b : Expr} {ma mb : M} {p p' pos pos' : Pos}
end
end Py
/-! PyB: rules of the further meanings: stores, dicts. -/
namespace Py
open PySem PySem.Spec PyProof.Rows L2
section
variable {K : PySem.W.Frag} {Hf H Hf' H' Hf1 H1 Hf2 H2 H0 : Hp} {ρ ρ' ρ1 ρ2 : Env} {σ σ' σ1 σ2 : L2.St} {O O' O1 : Addr → Prop} {X : Cx}
end
section
variable {X : Cx} {a b e : Expr} {ma mb me : M} {x y : Str} {p p' apos pos pos' : Pos}
end
end Py
/-! PyC: dicts. -/
namespace Py
open PySem PySem.Spec PyProof.Rows L2
section
variable {K : PySem.W.Frag} {Hf H Hf' H' Hf1 H1 Hf2 H2 H0 : Hp} {ρ ρ' ρ1 ρ2 : Env} {σ σ' σ1 σ2 : L2.St} {O O' O1 : Addr → Prop} {X : Cx}
theorem kvs_get : ∀ {ws : List (Key × V)} {kvs : List (Key × PV)} (k : Key), KvAll K Hf ws kvs → (∀ d, dGet kvs k = some d → ∃ u, valV ws k = some u ∧ Dp K Hf u d) ∧ (dGet kvs k = none → valV ws k = none)
  | _, _, k, .nil => ⟨(fun d h => by simp [dGet] at h), fun _ => rfl⟩
  | _, _, k, .cons (k := j) (v := v) (d := d) (ws := ws) (kvs := kvs) r t => by
    obtain ⟨h1, h2⟩ := kvs_get k t
    unfold dGet at h1 h2 ⊢
    by_cases e : j = k
    · rw [List.find?_cons_of_pos (by simpa using e)]
      refine ⟨fun d' h => ?_, fun h => by cases h⟩
      cases h
      exact ⟨v, valV_pos (p := (j, v)) e, r⟩
    · rw [List.find?_cons_of_neg (by simpa using e)]
      refine ⟨fun d' h => ?_, fun h => ?_⟩
      · rw [valV_neg (p := (j, v)) e]; exact h1 d' h
      · rw [valV_neg (p := (j, v)) e]; exact h2 h
theorem keyOf_ok {v : PV} {k : Key} {u : V} (h : keyOf v = some k) (d : Dp K Hf u v) : u = kV k := by
  unfold keyOf at h
  split at h
  · cases h; cases d; rfl
  · cases h; cases d; rfl
  · cases h
theorem keyC_ok {c : Ct} {k : Key} {u : V} (h : keyC c = some k) (r : RepC K Hf H c u) : u = kV k := by
  unfold keyC at h
  split at h
  · exact keyOf_ok h r
  · cases h
theorem dctAt_ok {i : Nat} {kvs : List (Key × PV)} (h : dctAt ρ i = some kvs) : obAt ρ i = some (.dct kvs) := by
  unfold dctAt at h
  split at h
  · cases h; assumption
  · cases h
theorem kvs_len : ∀ {ws : List (Key × V)} {kvs : List (Key × PV)}, KvAll K Hf ws kvs → ws.length = kvs.length
  | _, _, .nil => rfl
  | _, _, .cons _ t => by simp [kvs_len t]
theorem kvs_app : ∀ {ws ws2 : List (Key × V)} {kvs kvs2 : List (Key × PV)}, KvAll K Hf ws kvs → KvAll K Hf ws2 kvs2 → KvAll K Hf (ws ++ ws2) (kvs ++ kvs2)
  | _, _, _, _, .nil, t => t
  | _, _, _, _, .cons r s, t => .cons r (kvs_app s t)
theorem kvs_any (k : Key) : ∀ {ws : List (Key × V)} {kvs : List (Key × PV)}, KvAll K Hf ws kvs → (kvs.find? fun kv => decide (kv.1 = k)).isSome = (ws.any fun kv => decide (kv.1 = k))
  | _, _, .nil => rfl
  | _, _, .cons (k := j) (v := v) (d := d) r t => by
    rw [List.any_cons]
    by_cases e : j = k
    · rw [List.find?_cons_of_pos (by simpa using e)]; simp [e]
    · rw [List.find?_cons_of_neg (by simpa using e), kvs_any k t]; simp [e]
theorem kvs_map (k : Key) {v : PV} {u : V} (d0 : Dp K Hf u v) : ∀ {ws : List (Key × V)} {kvs : List (Key × PV)}, KvAll K Hf ws kvs → KvAll K Hf (ws.map fun kv => if kv.1 = k then (kv.1, u) else kv) (kvs.map fun kv => if kv.1 = k then (k, v) else kv)
  | _, _, .nil => .nil
  | _, _, .cons (k := j) (v := w) (d := d) r t => by
    rw [List.map_cons, List.map_cons]
    by_cases e : j = k
    · subst e
      rw [if_pos rfl, if_pos rfl]
      exact .cons d0 (kvs_map _ d0 t)
    · rw [if_neg e, if_neg e]
      exact .cons r (kvs_map _ d0 t)
theorem kvs_put {ws : List (Key × V)} {kvs : List (Key × PV)} (k : Key) {v : PV} {u : V} (r : KvAll K Hf ws kvs) (d : Dp K Hf u v) : KvAll K Hf (putK ws k u) (dPut kvs k v) := by
  unfold putK dPut
  rw [kvs_any k r]
  split
  · exact kvs_map k d r
  · exact kvs_app r (.cons d .nil)
/-- d[k] -/
theorem se_dget {td tk : TE} {a b : M} (ha : SE K td a) (hb : SE K tk b) : SE K (tDGet td tk) (mOp fDget a b) := by
  intro ρ r ρ' σ Hf H hm E Q q
  simp only [mOp, Option.bind_eq_some_iff, Option.map_eq_some_iff, Prod.mk.injEq] at hm
  obtain ⟨⟨x, ρ1⟩, e1, ⟨y, ρ2⟩, e2, cx, e3, cy, e4, z, e5, rfl, rfl⟩ := hm
  refine ha ρ x ρ1 σ Hf H e1 E _ fun u Hf1 H1 S1 E1 R1 k1 => ?_
  have B1 : Bh K Hf H ρ σ Hf1 H1 ρ1 := ⟨S1, E1, k1⟩
  refine hb ρ1 y ρ2 σ Hf1 H1 e2 E1 _ fun w Hf2 H2 S2 E2 R2 k2 => ?_
  have B2 : Bh K Hf1 H1 ρ1 σ Hf2 H2 ρ2 := ⟨S2, E2, k2⟩
  have R1' := B1.keepR E B2 R1
  have hx := look_ok E2 R1' e3
  have hy := look_ok E2 R2 e4
  have B3 := B1.trans B2
  unfold fDget at e5
  split at e5
  · simp only [Option.bind_eq_some_iff, Option.map_eq_some_iff] at e5
    obtain ⟨k, h1, d, h2, rfl⟩ := e5
    obtain ⟨p, rfl, ws, hw, kw⟩ := hx
    obtain ⟨t, g1, g2⟩ := (kvs_get k kw).1 d h2
    have ey := keyC_ok h1 hy
    subst ey
    exact ⟨p, t, rfl, by rw [← g1]; exact .inl ⟨_, _, hw, rfl, rfl⟩, q t Hf2 H2 B3.st B3.en g2 B3.kp⟩
  · cases e5
/-- k in d -/
theorem se_din {td tk : TE} {a b : M} (ha : SE K tk a) (hb : SE K td b) : SE K (tDIn tk td) (mOp (fDin false) a b) ∧ SE K (tDNotIn tk td) (mOp (fDin true) a b) := by
  constructor
  all_goals
    intro ρ r ρ' σ Hf H hm E Q q
    simp only [mOp, Option.bind_eq_some_iff, Option.map_eq_some_iff, Prod.mk.injEq] at hm
    obtain ⟨⟨x, ρ1⟩, e1, ⟨y, ρ2⟩, e2, cx, e3, cy, e4, z, e5, rfl, rfl⟩ := hm
    refine ha ρ x ρ1 σ Hf H e1 E _ fun u Hf1 H1 S1 E1 R1 k1 => ?_
    have B1 : Bh K Hf H ρ σ Hf1 H1 ρ1 := ⟨S1, E1, k1⟩
    refine hb ρ1 y ρ2 σ Hf1 H1 e2 E1 _ fun w Hf2 H2 S2 E2 R2 k2 => ?_
    have B2 : Bh K Hf1 H1 ρ1 σ Hf2 H2 ρ2 := ⟨S2, E2, k2⟩
    have R1' := B1.keepR E B2 R1
    have hx := look_ok E2 R1' e3
    have hy := look_ok E2 R2 e4
    have B3 := B1.trans B2
    unfold fDin at e5
    split at e5
    · simp only [Option.map_eq_some_iff] at e5
      obtain ⟨k, h1, rfl⟩ := e5
      obtain ⟨p, rfl, ws, hw, kw⟩ := hy
      have ey := keyC_ok h1 hx
      subst ey
      refine ⟨p, valV ws k, rfl, .inl ⟨_, _, hw, rfl, rfl⟩, ?_⟩
      rename_i kvs
      have es : (valV ws k).isSome = (dGet kvs k).isSome := by
        obtain ⟨g1, g2⟩ := kvs_get k kw
        cases hd : dGet kvs k with
        | none => rw [g2 hd]; rfl
        | some d => obtain ⟨u, h, _⟩ := g1 d hd; rw [h]; rfl
      rw [es]
      refine q _ Hf2 H2 B3.st B3.en ?_ B3.kp
      first
        | (rw [Bool.false_xor]; exact .bl _)
        | (rw [Bool.true_xor]; exact .bl _)
    · cases e5
/-- d[k] = v -/
theorem ss_dput {i : Nat} {te ti : TE} {a e : M} (ha : SE K te a) (he : SE K ti e) : SS K (sDPut (tVar i) ti te) (Py.sDput i e a) := by
  intro ρ f ρ' σ Hf H hm E D q
  simp only [Py.sDput, Option.bind_eq_some_iff] at hm
  obtain ⟨⟨x, ρ1⟩, e1, ⟨v, ρ2⟩, e2, ys, h0, ⟨y, ρ3⟩, e3, c, e4, k, e5, kvs, e6, e7⟩ := hm
  split at e7
  · rename_i hz
    cases e7
    refine ha ρ x ρ1 σ Hf H e1 E _ fun u Hf1 H1 S1 E1 R1 k1 => ?_
    have B1 : Bh K Hf H ρ σ Hf1 H1 ρ1 := ⟨S1, E1, k1⟩
    obtain ⟨Hf2, B2, d⟩ := B1.frz E R1 e2
    obtain ⟨p, o1, s1, f1, ⟨vs, hv, dv⟩, _⟩ := obAt_ok B2.en (dctAt_ok h0)
    refine ⟨_, slot_at s1, ?_⟩
    refine he ρ2 y ρ3 σ Hf2 H1 e3 B2.en _ fun w Hf3 H3 S3 E3 R3 k3 => ?_
    have B3' : Bh K Hf2 H1 ρ2 σ Hf3 H3 ρ3 := ⟨S3, E3, k3⟩
    have B3 := B2.trans B3'
    have ey := keyC_ok e5 (look_ok E3 R3 e4)
    subst ey
    obtain ⟨p', o2, s2, f2, ⟨ws, hw, kw⟩, hi⟩ := obAt_ok B3.en (dctAt_ok e6)
    rw [s1] at s2
    cases s2
    have d' := dp_mono S3.ff _ _ d
    have B4 := B3.trans (mut_ok (o := .dct kvs) (o' := .dct (dPut kvs k v)) (ho := .dK (putK ws k u)) B3.en o2 hi ⟨_, upd_same, kvs_put k kw d'⟩)
    exact ⟨p, _, rfl, DPut.k hw (by rw [kvs_len kw, ← line_eq]; exact hz), q σ Hf3 _ B4.s⟩
  · cases e7
end
section
variable {X : Cx} {a b e : Expr} {ma mb me : M} {x y : Str} {p p' apos pos pos' : Pos}
theorem be_dget (hu : X.A.units + 64 < cLine) (ha : BE X a ma) (hb : BE X b mb) (hs : NoSl b := by intro _ _; rfl) : BE X (.Subscript a b pos) (mOp fDget ma mb) := by
  obtain ⟨t, a1, a2⟩ := ha
  obtain ⟨u, b1, b2⟩ := hb
  exact ⟨_, pe_dget (by omega) a1 b1 hs, se_dget a2 b2⟩
end
end Py
/-! PyD: methods, slices. -/
namespace Py
open PySem PySem.Spec PyProof.Rows L2
section
variable {K : PySem.W.Frag} {Hf H Hf' H' Hf1 H1 Hf2 H2 H0 : Hp} {ρ ρ' ρ1 ρ2 : Env} {σ σ' σ1 σ2 : L2.St} {O O' O1 : Addr → Prop} {X : Cx}
end
section
variable {X : Cx} {a b e : Expr} {ma mb me : M} {x y : Str} {p p' apos pos pos' : Pos}
theorem bs_dput (i : Nat) (hu : X.A.units + 64 < cLine) (ho : PE X (.Name x p) (tVar i)) (he : BE X e me) (ha : BE X a ma) (hs : swapsWith a (some (.Subscript (.Name x p) e p')) pos.line X.env = pure false := by rfl) :
    BS X (.Assign [.Subscript (.Name x p) e p'] a pos) (Py.sDput i me ma) := by
  obtain ⟨t, a1, a2⟩ := ha
  obtain ⟨u, b1, b2⟩ := he
  exact ⟨_, ps_dput (by omega) ho b1 a1 hs, ss_dput a2 b2⟩
end
end Py
namespace Py
open PySem PySem.Spec PyProof.Rows L2
section
variable {X : Cx} {a b e : Expr} {ma mb me : M} {pos : Pos}
theorem bt_din (hu : X.A.units + 64 < cLine) (ha : BE X a ma) (hb : BE X b mb) (hm : behindInMarks .In b = false := by with_unfolding_all rfl) : BT X (.Compare a [.In] [b] pos) (mB (mOp (fDin false) ma mb)) := by
  obtain ⟨t, a1, a2⟩ := ha
  obtain ⟨u, b1, b2⟩ := hb
  exact ⟨_, pt_cmp (pc_din (by omega) a1 b1) hm, st_B (se_din a2 b2).1⟩
theorem bt_dnotIn (hu : X.A.units + 64 < cLine) (ha : BE X a ma) (hb : BE X b mb) (hm : behindInMarks .NotIn b = false := by with_unfolding_all rfl) : BT X (.Compare a [.NotIn] [b] pos) (mB (mOp (fDin true) ma mb)) := by
  obtain ⟨t, a1, a2⟩ := ha
  obtain ⟨u, b1, b2⟩ := hb
  exact ⟨_, pt_cmp (pc_dnotin (by omega) a1 b1) hm, st_B (se_din a2 b2).2⟩
end
end Py
/-! PyE: t[::-1] of a tuple. -/
namespace HT
open PySem PySem.Spec PyProof.Rows
variable {prog : Program} {w : World} {A : Around} {E : Value → Shared → Prop} {s : Shared}
end HT
namespace L2
open PySem PySem.Spec PyProof.Rows
variable {X : Cx}
def tRevT (K : PySem.W.Frag) (te : TE) : TE := fun σ H Q => te σ H fun x H1 => ∃ a xs, x = .ref a ∧ SqT K H1 a xs ∧ ∀ p, H1 p = none → Q (.ref p) (upd H1 p (.tup xs.reverse))
end L2
namespace Py
open PySem PySem.Spec PyProof.Rows L2
end Py
/-! PyF0: further meanings. -/
namespace Py
open PySem
def Ct.dat : Ct → Option PV
  | .pv v => some v
  | .ob (.lst xs) => some (.list xs)
  | _ => none
/-- == of lists -/
def fEqA (neg : Bool) (c d : Ct) : Option R := c.dat.bind fun x => d.dat.bind fun y => if SeqAt.shaped x = true ∧ SeqAt.shaped y = true then some (.val (.bool (neg ^^ PyData.eqv x y))) else none
end Py
/-! PyF: == of lists. -/
namespace Py
open PySem PySem.Spec PyProof.Rows L2
section
variable {K : PySem.W.Frag} {Hf H : Hp} {X : Cx}
end
end Py
/-! Q0: how a meaning is reckoned. -/
namespace Py
open PySem

/-- m, from ρ, gives a and ρ' of which Q holds -/
def Wp {α : Type} (m : Env → Option (α × Env)) (ρ : Env) (Q : α → Env → Prop) : Prop := ∃ a ρ', m ρ = some (a, ρ') ∧ Q a ρ'
/-- a def's value and the objects handed back -/
def Ret (d : Den) (as : List Sl) (Q : R → List Ob → Prop) : Prop := ∃ r os, d as = some (r, os) ∧ Q r os
def FinQ (as : List Sl) (f : Fl) (ρ : Env) (Q : R → List Ob → Prop) : Prop := match f with
  | .nx => ∃ os, outs as ρ = some os ∧ Q (.val .none) os
  | .rt r => ∃ r' os, leave r ρ = some r' ∧ outs as ρ = some os ∧ Q r' os
  | _ => False
section
variable {α : Type} {ρ ρ1 ρ2 : Env} {a b c : M} {t u : MT} {s s1 s2 : SM} {Q : R → Env → Prop} {QT : Bool → Env → Prop} {QS : Fl → Env → Prop} {QL : List PV → Env → Prop} {QA : List Sl → Env → Prop} {f g : Ct → Ct → Option R} {i j : Nat} {v : PV} {l : ML} {n : Nat} {as : List Sl} {QR : R → List Ob → Prop} {d : Den} {x y : R} {cx cy : Ct} {z : R}
theorem Wp.mono {m : Env → Option (α × Env)} {Q Q' : α → Env → Prop} (h : Wp m ρ Q) (k : ∀ a ρ', Q a ρ' → Q' a ρ') : Wp m ρ Q' := let ⟨a, r, e, q⟩ := h; ⟨a, r, e, k a r q⟩
theorem Ret.mono {Q Q' : R → List Ob → Prop} (h : Ret d as Q) (k : ∀ r os, Q r os → Q' r os) : Ret d as Q' := let ⟨a, r, e, q⟩ := h; ⟨a, r, e, k a r q⟩
theorem ret_mk {body : SM} (h : Wp body (startE n as) fun f ρ' => FinQ as f ρ' QR) : Ret (mkDen n body) as QR := by
  obtain ⟨f, ρ', e, q⟩ := h
  cases f with
  | nx => obtain ⟨os, e2, q⟩ := q; exact ⟨_, os, by simp [mkDen, e, e2], q⟩
  | rt r => obtain ⟨r', os, e2, e3, q⟩ := q; exact ⟨r', os, by simp [mkDen, e, e2, e3], q⟩
  | bk => exact q.elim
  | ct => exact q.elim
theorem fin_rt {r r' : R} {os : List Ob} (h1 : leave r ρ = some r') (h2 : outs as ρ = some os) (q : QR r' os) : FinQ as (.rt r) ρ QR := ⟨r', os, h1, h2, q⟩
theorem fin_nx {os : List Ob} (h2 : outs as ρ = some os) (q : QR (.val .none) os) : FinQ as .nx ρ QR := ⟨os, h2, q⟩

theorem wp_c (q : Q (.val v) ρ) : Wp (mC v) ρ Q := ⟨_, _, rfl, q⟩
theorem wp_varV {v : PV} (h : get ρ i = some (.val v)) (q : Q (.val v) ρ) : Wp (mVar i) ρ Q := ⟨_, _, by simp [mVar, h], q⟩
theorem wp_varO {o : Ob} (h : get ρ i = some (.own o)) (q : Q (.bor i) ρ) : Wp (mVar i) ρ Q := ⟨_, _, by simp [mVar, h], q⟩
theorem wp_varR {o : Ob} (h : get ρ i = some (.ref o)) (q : Q (.bor i) ρ) : Wp (mVar i) ρ Q := ⟨_, _, by simp [mVar, h], q⟩
/-- an operation at two results -/
def OpQ (f : Ct → Ct → Option R) (x y : R) (ρ : Env) (Q : R → Env → Prop) : Prop := ∃ cx cy z, look x ρ = some cx ∧ look y ρ = some cy ∧ f cx cy = some z ∧ Q z ρ
theorem opq (h1 : look x ρ = some cx) (h2 : look y ρ = some cy) (h3 : f cx cy = some z) (q : Q z ρ) : OpQ f x y ρ Q := ⟨cx, cy, z, h1, h2, h3, q⟩
theorem wp_op (h : Wp a ρ fun x ρ1 => Wp b ρ1 fun y ρ2 => OpQ f x y ρ2 Q) : Wp (mOp f a b) ρ Q := by
  obtain ⟨x, ρ1, e1, y, ρ2, e2, cx, cy, z, e3, e4, e5, q⟩ := h
  exact ⟨z, ρ2, by simp [mOp, e1, e2, e3, e4, e5], q⟩
def UnQ (f : Ct → Option R) (x : R) (ρ : Env) (Q : R → Env → Prop) : Prop := ∃ cx z, look x ρ = some cx ∧ f cx = some z ∧ Q z ρ
theorem unq {f : Ct → Option R} (h1 : look x ρ = some cx) (h3 : f cx = some z) (q : Q z ρ) : UnQ f x ρ Q := ⟨cx, z, h1, h3, q⟩
theorem wp_un {f : Ct → Option R} (h : Wp a ρ fun x ρ1 => UnQ f x ρ1 Q) : Wp (mUn f a) ρ Q := by
  obtain ⟨x, ρ1, e1, cx, z, e3, e5, q⟩ := h
  exact ⟨z, ρ1, by simp [mUn, e1, e3, e5], q⟩
theorem wp_B (h : Wp a ρ fun x ρ1 => ∃ b, look x ρ1 = some (.pv (.bool b)) ∧ QT b ρ1) : Wp (mB a) ρ QT := by
  obtain ⟨x, ρ1, e1, b, e3, q⟩ := h
  exact ⟨b, ρ1, by simp [mB, e1, e3, boolOf], q⟩
theorem wp_tru (h : Wp a ρ fun x ρ1 => ∃ cx b, look x ρ1 = some cx ∧ truOf cx = some b ∧ QT b ρ1) : Wp (mTru a) ρ QT := by
  obtain ⟨x, ρ1, e1, cx, b, e3, e4, q⟩ := h
  exact ⟨b, ρ1, by simp [mTru, e1, e3, e4], q⟩
theorem wp_and (h : Wp t ρ fun x ρ1 => (x = true → Wp u ρ1 QT) ∧ (x = false → QT false ρ1)) : Wp (mAnd t u) ρ QT := by
  obtain ⟨x, ρ1, e1, h1, h2⟩ := h
  cases x with
  | true => obtain ⟨y, ρ2, e2, q⟩ := h1 rfl; exact ⟨y, ρ2, by simp [mAnd, e1, e2], q⟩
  | false => exact ⟨false, ρ1, by simp [mAnd, e1], h2 rfl⟩
theorem wp_or (h : Wp t ρ fun x ρ1 => (x = true → QT true ρ1) ∧ (x = false → Wp u ρ1 QT)) : Wp (mOr t u) ρ QT := by
  obtain ⟨x, ρ1, e1, h1, h2⟩ := h
  cases x with
  | false => obtain ⟨y, ρ2, e2, q⟩ := h2 rfl; exact ⟨y, ρ2, by simp [mOr, e1, e2], q⟩
  | true => exact ⟨true, ρ1, by simp [mOr, e1], h1 rfl⟩
theorem wp_not (h : Wp t ρ fun x ρ1 => QT (!x) ρ1) : Wp (mNot t) ρ QT := by
  obtain ⟨x, ρ1, e1, q⟩ := h
  exact ⟨!x, ρ1, by simp [mNot, e1], q⟩
theorem wp_andV (h : Wp a ρ fun x ρ1 => ∃ k, look x ρ1 = some (.pv (.bool k)) ∧ (k = true → Wp b ρ1 Q) ∧ (k = false → Q (.val (.bool false)) ρ1)) : Wp (mAndV a b) ρ Q := by
  obtain ⟨x, ρ1, e1, k, e2, h1, h2⟩ := h
  cases k with
  | true => obtain ⟨y, ρ2, e3, q⟩ := h1 rfl; exact ⟨y, ρ2, by simp [mAndV, e1, e2, boolOf, e3], q⟩
  | false => exact ⟨_, ρ1, by simp [mAndV, e1, e2, boolOf], h2 rfl⟩
theorem wp_orV (h : Wp a ρ fun x ρ1 => ∃ k, look x ρ1 = some (.pv (.bool k)) ∧ (k = true → Q (.val (.bool true)) ρ1) ∧ (k = false → Wp b ρ1 Q)) : Wp (mOrV a b) ρ Q := by
  obtain ⟨x, ρ1, e1, k, e2, h1, h2⟩ := h
  cases k with
  | false => obtain ⟨y, ρ2, e3, q⟩ := h2 rfl; exact ⟨y, ρ2, by simp [mOrV, e1, e2, boolOf, e3], q⟩
  | true => exact ⟨_, ρ1, by simp [mOrV, e1, e2, boolOf], h1 rfl⟩
theorem wp_notV (h : Wp a ρ fun x ρ1 => ∃ k, look x ρ1 = some (.pv (.bool k)) ∧ Q (.val (.bool (!k))) ρ1) : Wp (mNotV a) ρ Q := by
  obtain ⟨x, ρ1, e1, k, e2, q⟩ := h
  exact ⟨_, ρ1, by simp [mNotV, e1, e2, boolOf], q⟩
theorem wp_ifE (h : Wp t ρ fun x ρ1 => (x = true → Wp a ρ1 Q) ∧ (x = false → Wp b ρ1 Q)) : Wp (mIfE t a b) ρ Q := by
  obtain ⟨x, ρ1, e1, h1, h2⟩ := h
  cases x with
  | true => obtain ⟨y, ρ2, e2, q⟩ := h1 rfl; exact ⟨y, ρ2, by simp [mIfE, e1, e2], q⟩
  | false => obtain ⟨y, ρ2, e2, q⟩ := h2 rfl; exact ⟨y, ρ2, by simp [mIfE, e1, e2], q⟩
theorem wp_chain (h : Wp a ρ fun x ρ1 => Wp b ρ1 fun y ρ2 => ∃ cx cy k, look x ρ2 = some cx ∧ look y ρ2 = some cy ∧ f cx cy = some (.val (.bool k)) ∧ (k = true → Wp c ρ2 fun w ρ3 => OpQ g y w ρ3 Q) ∧ (k = false → Q (.val (.bool false)) ρ2)) : Wp (mChain f g a b c) ρ Q := by
  obtain ⟨x, ρ1, e1, y, ρ2, e2, cx, cy, k, e3, e4, e5, h1, h2⟩ := h
  cases k with
  | true => obtain ⟨w, ρ3, e6, cy', cw, z, e7, e8, e9, q⟩ := h1 rfl; exact ⟨z, ρ3, by simp [mChain, e1, e2, e3, e4, e5, boolOf, show look (R.val (.bool true)) ρ2 = some (.pv (.bool true)) from rfl, e6, e7, e8, e9], q⟩
  | false => exact ⟨_, ρ2, by simp [mChain, e1, e2, e3, e4, e5, boolOf, show look (R.val (.bool false)) ρ2 = some (.pv (.bool false)) from rfl], h2 rfl⟩
/-- frozen -/
def FrzQ (x : R) (ρ : Env) (Q : PV → Env → Prop) : Prop := ∃ v ρ', frz x ρ = some (v, ρ') ∧ Q v ρ'
theorem frzV {Q : PV → Env → Prop} (q : Q v ρ) : FrzQ (.val v) ρ Q := ⟨v, ρ, rfl, q⟩
theorem frzN {Q : PV → Env → Prop} {xs : List PV} (q : Q (.list xs) ρ) : FrzQ (.new (.lst xs)) ρ Q := ⟨_, ρ, rfl, q⟩
theorem wp_frz (h : Wp a ρ fun x ρ1 => FrzQ x ρ1 fun v ρ2 => Q (.val v) ρ2) : Wp (mFrz a) ρ Q := by
  obtain ⟨x, ρ1, e1, v, ρ2, e2, q⟩ := h
  exact ⟨_, ρ2, by simp [mFrz, e1, e2], q⟩
theorem wp_lnil (q : QL [] ρ) : Wp lNil ρ QL := ⟨_, _, rfl, q⟩
theorem wp_lcons (h : Wp a ρ fun x ρ1 => FrzQ x ρ1 fun v ρ2 => Wp l ρ2 fun vs ρ3 => QL (v :: vs) ρ3) : Wp (lCons a l) ρ QL := by
  obtain ⟨x, ρ1, e1, v, ρ2, e2, vs, ρ3, e3, q⟩ := h
  exact ⟨_, ρ3, by simp [lCons, e1, e2, e3], q⟩
theorem wp_tup (h : Wp l ρ fun vs ρ1 => vs.length ≤ line ∧ Q (.val (.tuple vs)) ρ1) : Wp (mTup l) ρ Q := by
  obtain ⟨vs, ρ1, e1, hz, q⟩ := h
  exact ⟨_, ρ1, by simp [mTup, e1, hz], q⟩
theorem wp_lst (h : Wp l ρ fun vs ρ1 => vs.length ≤ line ∧ Q (.new (.lst vs)) ρ1) : Wp (mLst l) ρ Q := by
  obtain ⟨vs, ρ1, e1, hz, q⟩ := h
  exact ⟨_, ρ1, by simp [mLst, e1, hz], q⟩
theorem wp_sl {ml mh : MO} (h : Wp a ρ fun x ρ1 => Wp ml ρ1 fun i ρ2 => Wp mh ρ2 fun j ρ3 => UnQ (fSl i j) x ρ3 Q) : Wp (mSl a ml mh) ρ Q := by
  obtain ⟨x, ρ1, e1, i, ρ2, e2, j, ρ3, e3, cx, z, e4, e5, q⟩ := h
  exact ⟨z, ρ3, by simp [mSl, e1, e2, e3, e4, e5], q⟩
theorem wp_onone {Q : Option Int → Env → Prop} (q : Q none ρ) : Wp oNone ρ Q := ⟨_, _, rfl, q⟩
theorem wp_osome {Q : Option Int → Env → Prop} (h : Wp a ρ fun x ρ1 => ∃ i, look x ρ1 = some (.pv (.int i)) ∧ Q (some i) ρ1) : Wp (oSome a) ρ Q := by
  obtain ⟨x, ρ1, e1, i, e2, q⟩ := h
  exact ⟨_, ρ1, by simp [oSome, e1, e2, intOf], q⟩

/-! ### statements -/
theorem wp_next (q : QS .nx ρ) : Wp sNext ρ QS := ⟨_, _, rfl, q⟩
theorem wp_brk (q : QS .bk ρ) : Wp sBrk ρ QS := ⟨_, _, rfl, q⟩
theorem wp_cont (q : QS .ct ρ) : Wp sCont ρ QS := ⟨_, _, rfl, q⟩
/-- what is wanted behind the first of two statements -/
def SeqQ (s : SM) (Q : Fl → Env → Prop) (f : Fl) (ρ : Env) : Prop := match f with
  | .nx => Wp s ρ Q
  | f => Q f ρ
theorem wp_seq (h : Wp s1 ρ (SeqQ s2 QS)) : Wp (sSeq s1 s2) ρ QS := by
  obtain ⟨f, ρ1, e1, h⟩ := h
  cases f with
  | nx => obtain ⟨f2, ρ2, e2, q⟩ := h; exact ⟨f2, ρ2, by simp [sSeq, e1, e2], q⟩
  | rt r => exact ⟨_, ρ1, by simp [sSeq, e1], h⟩
  | bk => exact ⟨_, ρ1, by simp [sSeq, e1], h⟩
  | ct => exact ⟨_, ρ1, by simp [sSeq, e1], h⟩
theorem seq_nx (h : Wp s ρ QS) : SeqQ s QS .nx ρ := h
theorem seq_rt {r : R} (h : QS (.rt r) ρ) : SeqQ s QS (.rt r) ρ := h
theorem seq_bk (h : QS .bk ρ) : SeqQ s QS .bk ρ := h
theorem seq_ct (h : QS .ct ρ) : SeqQ s QS .ct ρ := h
theorem wp_ret (h : Wp a ρ fun x ρ1 => QS (.rt x) ρ1) : Wp (sRet a) ρ QS := by
  obtain ⟨x, ρ1, e1, q⟩ := h
  exact ⟨_, ρ1, by simp [sRet, e1], q⟩
theorem wp_retN (q : QS (.rt (.val .none)) ρ) : Wp sRetN ρ QS := ⟨_, _, rfl, q⟩
theorem wp_if (h : Wp t ρ fun x ρ1 => (x = true → Wp s1 ρ1 QS) ∧ (x = false → Wp s2 ρ1 QS)) : Wp (sIf t s1 s2) ρ QS := by
  obtain ⟨x, ρ1, e1, h1, h2⟩ := h
  cases x with
  | true => obtain ⟨y, ρ2, e2, q⟩ := h1 rfl; exact ⟨y, ρ2, by simp [sIf, e1, e2], q⟩
  | false => obtain ⟨y, ρ2, e2, q⟩ := h2 rfl; exact ⟨y, ρ2, by simp [sIf, e1, e2], q⟩
theorem wp_expr (h : Wp a ρ fun _ ρ1 => QS .nx ρ1) : Wp (sExpr a) ρ QS := by
  obtain ⟨x, ρ1, e1, q⟩ := h
  exact ⟨_, ρ1, by simp [sExpr, e1], q⟩
def PutQ (m : MG) (x : R) (ρ : Env) (Q : Env → Prop) : Prop := ∃ ρ', m x ρ = some ρ' ∧ Q ρ'
theorem wp_asg {m : MG} (h : Wp a ρ fun x ρ1 => PutQ m x ρ1 fun ρ2 => QS .nx ρ2) : Wp (sAsg a m) ρ QS := by
  obtain ⟨x, ρ1, e1, ρ2, e2, q⟩ := h
  exact ⟨_, ρ2, by simp [sAsg, e1, e2], q⟩
theorem wp_par (h : Wp a ρ fun x ρ1 => FrzQ x ρ1 fun v ρ2 => Wp b ρ2 fun y ρ3 => FrzQ y ρ3 fun w ρ4 => ∃ ρ5 ρ6, put i (some (.val v)) ρ4 = some ρ5 ∧ put j (some (.val w)) ρ5 = some ρ6 ∧ QS .nx ρ6) : Wp (sPar i j a b) ρ QS := by
  obtain ⟨x, ρ1, e1, v, ρ2, e2, y, ρ3, e3, w, ρ4, e4, ρ5, ρ6, e5, e6, q⟩ := h
  exact ⟨_, ρ6, by simp [sPar, e1, e2, e3, e4, e5, e6], q⟩
theorem wp_append {xs : List PV} (h0 : lstAt ρ i = some xs) (h : Wp a ρ fun x ρ1 => FrzQ x ρ1 fun v ρ2 => ∃ xs, lstAt ρ2 i = some xs ∧ xs.length < line ∧ Q (.val .none) (setOb ρ2 i (.lst (xs ++ [v])))) : Wp (mAppend i a) ρ Q := by
  obtain ⟨x, ρ1, e1, v, ρ2, e2, ys, e3, hz, q⟩ := h
  exact ⟨_, _, by simp [mAppend, h0, e1, e2, e3, hz], q⟩
theorem wp_pop {xs : List PV} (h0 : lstAt ρ i = some xs) (h1 : xs.getLast? = some v) (q : Q (.val v) (setOb ρ i (.lst xs.dropLast))) : Wp (mPop i) ρ Q := ⟨_, _, by simp [mPop, h0, h1], q⟩
theorem wp_reverse {xs : List PV} (h0 : lstAt ρ i = some xs) (q : Q (.val .none) (setOb ρ i (.lst xs.reverse))) : Wp (mReverse i) ρ Q := ⟨_, _, by simp [mReverse, h0], q⟩
theorem wp_setIx (h : Wp a ρ fun x ρ1 => FrzQ x ρ1 fun v ρ2 => ∃ ys, lstAt ρ2 i = some ys ∧ Wp b ρ2 fun y ρ3 => ∃ k xs j, look y ρ3 = some (.pv (.int k)) ∧ lstAt ρ3 i = some xs ∧ ixN xs.length k = some j ∧ QS .nx (setOb ρ3 i (.lst (xs.set j v)))) : Wp (sSetIx i b a) ρ QS := by
  obtain ⟨x, ρ1, e1, v, ρ2, e2, ys, e0, y, ρ3, e3, k, xs, j, e4, e5, e6, q⟩ := h
  exact ⟨_, _, by simp [sSetIx, e1, e2, e0, e3, e4, e5, e6, intOf], q⟩
theorem wp_aug {v : PV} (h0 : get ρ i = some (.val v)) (h : Wp a ρ fun x ρ1 => ∃ c w ρ2, look x ρ1 = some c ∧ f (.pv v) c = some (.val w) ∧ put i (some (.val w)) ρ1 = some ρ2 ∧ QS .nx ρ2) : Wp (sAug i f a) ρ QS := by
  obtain ⟨x, ρ1, e1, c, w, ρ2, e2, e3, e4, q⟩ := h
  exact ⟨_, ρ2, by simp [sAug, h0, e1, e2, e3, e4], q⟩
theorem wp_fgt {is : List Nat} (h : Wp s ρ fun f ρ1 => match f with | .rt r => QS (.rt r) ρ1 | f => QS f (forget is ρ1)) : Wp (sFgt is s) ρ QS := by
  obtain ⟨f, ρ1, e1, q⟩ := h
  cases f <;> exact ⟨_, _, by simp only [sFgt, e1, Option.map_some], q⟩
/-! calls -/
theorem wp_anil (q : QA [] ρ) : Wp (agsEval []) ρ QA := ⟨_, _, rfl, q⟩
theorem wp_av {r : List Ag} (h : Wp a ρ fun x ρ1 => FrzQ x ρ1 fun v ρ2 => Wp (agsEval r) ρ2 fun z ρ3 => QA (.val v :: z) ρ3) : Wp (agsEval (.v a :: r)) ρ QA := by
  obtain ⟨x, ρ1, e1, v, ρ2, e2, z, ρ3, e3, q⟩ := h
  exact ⟨_, ρ3, by simp [agsEval, e1, e2, e3], q⟩
theorem wp_ar {r : List Ag} {o : Ob} (h0 : obAt ρ i = some o) (h : Wp (agsEval r) ρ fun z ρ1 => ∃ o, obAt ρ1 i = some o ∧ QA (.ref o :: z) ρ1) : Wp (agsEval (.r i :: r)) ρ QA := by
  obtain ⟨z, ρ1, e1, o', e2, q⟩ := h
  exact ⟨_, ρ1, by simp [agsEval, h0, e1, e2], q⟩
theorem wp_call {ags : List Ag} (nd : (refsOf ags).Nodup) (h : Wp (agsEval ags) ρ fun ss ρ1 => Ret d ss fun r os => Q r (setObs (refsOf ags) os ρ1)) : Wp (mCall d ags) ρ Q := by
  obtain ⟨ss, ρ1, e1, r, os, e2, q⟩ := h
  exact ⟨r, _, by simp [mCall, e1, e2, nd], q⟩
/-! loops -/
/-- what is wanted behind a turn -/
def TurnQ (N : Env → Prop) (Q : Fl → Env → Prop) (f : Fl) (ρ : Env) : Prop := match f with
  | .nx => N ρ
  | .ct => N ρ
  | .bk => Q .nx ρ
  | .rt r => Q (.rt r) ρ
theorem wp_for {it : MI} {m : MG} (h : Wp it ρ fun xs ρ1 => Wp (loopF m s xs) ρ1 QS) : Wp (sFor it m s) ρ QS := by
  obtain ⟨xs, ρ1, e1, f, ρ2, e2, q⟩ := h
  exact ⟨f, ρ2, by simp [sFor, e1, e2], q⟩
/-- a loop by its invariant: P, of the items gone through -/
theorem wp_loop {α : Type} {m : MG} (fn : α → PV) (P : List α → Env → Prop) (ys : List α) (h0 : P [] ρ)
    (step : ∀ done y rest ρ, ys = done ++ y :: rest → P done ρ → PutQ m (.val (fn y)) ρ fun ρ1 => Wp s ρ1 (TurnQ (P (done ++ [y])) QS)) (hd : ∀ ρ, P ys ρ → QS .nx ρ) : Wp (loopF m s (ys.map fn)) ρ QS := by
  have key : ∀ (rest done : List α) (ρ : Env), ys = done ++ rest → P done ρ → Wp (loopF m s (rest.map fn)) ρ QS := by
    intro rest
    induction rest with
    | nil =>
      intro done ρ e p
      rw [List.append_nil] at e
      subst e
      exact ⟨_, _, rfl, hd ρ p⟩
    | cons y rest ih =>
      intro done ρ e p
      obtain ⟨ρ1, e1, f, ρ2, e2, q⟩ := step done y rest ρ e p
      have e' : ys = (done ++ [y]) ++ rest := by rw [e]; simp
      cases f with
      | nx => obtain ⟨f', ρ3, e3, q⟩ := ih _ ρ2 e' q; exact ⟨f', ρ3, by simp [loopF, e1, e2, e3], q⟩
      | ct => obtain ⟨f', ρ3, e3, q⟩ := ih _ ρ2 e' q; exact ⟨f', ρ3, by simp [loopF, e1, e2, e3], q⟩
      | bk => exact ⟨_, ρ2, by simp [loopF, e1, e2], q⟩
      | rt r => exact ⟨_, ρ2, by simp [loopF, e1, e2], q⟩
  exact key ys [] ρ rfl h0
theorem wp_seqI (h : Wp a ρ fun x ρ1 => ∃ xs, (x = .val (.list xs) ∨ x = .val (.tuple xs) ∨ x = .new (.lst xs)) ∧ QL xs ρ1) : Wp (iSeq a) ρ QL := by
  obtain ⟨x, ρ1, e1, xs, h, q⟩ := h
  rcases h with rfl | rfl | rfl <;> exact ⟨xs, ρ1, by simp [iSeq, e1], q⟩
theorem wp_rng1 (h : Wp a ρ fun x ρ1 => ∃ n, look x ρ1 = some (.pv (.int n)) ∧ (n ≤ line ∧ -(2 ^ 62) ≤ n) ∧ QL ((List.range n.toNat).map fun (k : Nat) => .int (k : Int)) ρ1) : Wp (iRng1 a) ρ QL := by
  obtain ⟨x, ρ1, e1, n, e2, hz, q⟩ := h
  refine ⟨rangeL 0 n.toNat, ρ1, by simp only [iRng1, e1, e2, intOf, Option.bind_some, if_pos hz], ?_⟩
  unfold rangeL
  simpa using q
theorem wp_rng2 (h : Wp a ρ fun x ρ1 => ∃ lo, look x ρ1 = some (.pv (.int lo)) ∧ Wp b ρ1 fun y ρ2 => ∃ hi, look y ρ2 = some (.pv (.int hi)) ∧ (-(2 ^ 61) ≤ lo ∧ lo < 2 ^ 61 ∧ -(2 ^ 61) ≤ hi ∧ hi < 2 ^ 61 ∧ (hi - lo) ≤ line) ∧ QL ((List.range (hi - lo).toNat).map fun (k : Nat) => .int (lo + (k : Int))) ρ2) : Wp (iRng2 a b) ρ QL := by
  obtain ⟨x, ρ1, e1, lo, e2, y, ρ2, e3, hi, e4, hz, q⟩ := h
  exact ⟨rangeL lo (hi - lo).toNat, ρ2, by simp only [iRng2, e1, e2, e3, e4, intOf, Option.bind_some, if_pos hz], q⟩
theorem whileF_mono {n : Nat} {x : Fl × Env} : ∀ {ρ : Env}, whileF t s n ρ = some x → ∀ k, whileF t s (n + k) ρ = some x := by
  induction n with
  | zero => intro ρ h; cases h
  | succ n ih =>
    intro ρ h k
    rw [Nat.add_right_comm]
    simp only [whileF, Option.bind_eq_some_iff] at h ⊢
    obtain ⟨⟨b, ρ1⟩, e1, h⟩ := h
    refine ⟨(b, ρ1), e1, ?_⟩
    cases b with
    | false => simpa using h
    | true =>
      simp only [if_true, Option.bind_eq_some_iff] at h ⊢
      obtain ⟨⟨f, ρ2⟩, e2, h⟩ := h
      refine ⟨(f, ρ2), e2, ?_⟩
      cases f with
      | nx => exact ih h k
      | ct => exact ih h k
      | bk => exact h
      | rt r => exact h
theorem while_of {n : Nat} {x : Fl × Env} (h : whileF t s n ρ = some x) : sWhile t s ρ = some x := by
  have ex : ∃ n, (whileF t s n ρ).isSome = true := ⟨n, by rw [h]; rfl⟩
  unfold sWhile
  rw [dif_pos ex]
  obtain ⟨y, hy⟩ := Option.isSome_iff_exists.mp ex.choose_spec
  have h1 := whileF_mono h ex.choose
  have h2 := whileF_mono hy n
  rw [Nat.add_comm] at h2
  rw [h1] at h2
  rw [hy, h2]
/-- a while by its invariant P and a measure -/
theorem wp_while {β : Type} (P : β → Env → Prop) (μ : β → Nat) (x0 : β) (h0 : P x0 ρ)
    (step : ∀ x ρ, P x ρ → Wp t ρ fun b ρ1 => (b = true → Wp s ρ1 (TurnQ (fun ρ2 => ∃ x', μ x' < μ x ∧ P x' ρ2) QS)) ∧ (b = false → QS .nx ρ1)) : Wp (sWhile t s) ρ QS := by
  have key : ∀ (n : Nat) (x : β) (ρ : Env), μ x < n → P x ρ → ∃ f ρ', whileF t s n ρ = some (f, ρ') ∧ QS f ρ' := by
    intro n
    induction n with
    | zero => intro x ρ h; omega
    | succ n ih =>
      intro x ρ hn p
      obtain ⟨b, ρ1, e1, h1, h2⟩ := step x ρ p
      cases b with
      | false => exact ⟨_, ρ1, by simp [whileF, e1], h2 rfl⟩
      | true =>
        obtain ⟨f, ρ2, e2, q⟩ := h1 rfl
        cases f with
        | nx => obtain ⟨x', l, p'⟩ := q; obtain ⟨f', ρ3, e3, q⟩ := ih x' ρ2 (by omega) p'; exact ⟨f', ρ3, by simp [whileF, e1, e2, e3], q⟩
        | ct => obtain ⟨x', l, p'⟩ := q; obtain ⟨f', ρ3, e3, q⟩ := ih x' ρ2 (by omega) p'; exact ⟨f', ρ3, by simp [whileF, e1, e2, e3], q⟩
        | bk => exact ⟨_, ρ2, by simp [whileF, e1, e2], q⟩
        | rt r => exact ⟨_, ρ2, by simp [whileF, e1, e2], q⟩
  obtain ⟨f, ρ', e, q⟩ := key (μ x0 + 1) x0 ρ (Nat.lt_succ_self _) h0
  exact ⟨f, ρ', while_of e, q⟩
/-! comprehensions -/
/-- a turn: the new list's next items ys -/
def LcQ (g : MG) (vs : List Nat) (t : MT) (e : M) (x : PV) (ρ : Env) (Q : List PV → Env → Prop) : Prop :=
  PutQ g (.val x) (wipe ρ vs) fun ρ1 => Wp t ρ1 fun b ρ2 => (b = true → Wp e ρ2 fun r ρ3 => FrzQ r ρ3 fun v ρ4 => Q [v] ρ4) ∧ (b = false → Q [] ρ2)
theorem wp_lc {α : Type} {it : MI} {g : MG} {vs : List Nat} {e : M} (fn : α → PV) (P : List α → List PV → Env → Prop)
    (h : Wp it ρ fun xs ρ1 => ∃ ys : List α, xs = ys.map fn ∧ ys.length ≤ line ∧ P [] [] ρ1 ∧ (∀ done y rest acc ρ, ys = done ++ y :: rest → P done acc ρ → LcQ g vs t e (fn y) ρ fun zs ρ2 => P (done ++ [y]) (acc ++ zs) ρ2) ∧ ∀ acc ρ, P ys acc ρ → Q (.new (.lst acc)) (back ρ1 vs ρ)) :
    Wp (mLc it g vs t e) ρ Q := by
  obtain ⟨xs, ρ1, e1, ys, rfl, hz, h0, step, hd⟩ := h
  have key : ∀ (rest done : List α) (acc : List PV) (ρ : Env), ys = done ++ rest → P done acc ρ → ∃ zs ρ', lcF (lcTurn g vs t e) (rest.map fn) ρ = some (zs, ρ') ∧ P ys (acc ++ zs) ρ' := by
    intro rest
    induction rest with
    | nil =>
      intro done acc ρ e p
      rw [List.append_nil] at e
      subst e
      exact ⟨[], ρ, rfl, by simpa using p⟩
    | cons y rest ih =>
      intro done acc ρ e p
      obtain ⟨ρ2, e2, b, ρ3, e3, h1, h2⟩ := step done y rest acc ρ e p
      have e' : ys = (done ++ [y]) ++ rest := by rw [e]; simp
      cases b with
      | true =>
        obtain ⟨r, ρ4, e4, v, ρ5, e5, q⟩ := h1 rfl
        obtain ⟨zs, ρ', e6, p'⟩ := ih _ _ ρ5 e' q
        exact ⟨v :: zs, ρ', by simp [lcF, lcTurn, e2, e3, e4, e5, e6], by simpa using p'⟩
      | false =>
        obtain ⟨zs, ρ', e6, p'⟩ := ih _ _ ρ3 e' (h2 rfl)
        exact ⟨zs, ρ', by simp [lcF, lcTurn, e2, e3, e6], by simpa using p'⟩
  obtain ⟨zs, ρ', e6, p'⟩ := key ys [] [] ρ1 rfl h0
  exact ⟨.new (.lst zs), back ρ1 vs ρ', by simp only [mLc, e1, Option.bind_some, List.length_map, if_pos hz, e6, Option.map_some], hd _ _ (by simpa using p')⟩
end
/-! ### operators -/
section
variable {a b : Int}
theorem ev_mul (h : mulOk a b = true) : fMul (.pv (.int a)) (.pv (.int b)) = some (.val (.int (a * b))) := by simp [fMul, h]
theorem ev_mulI (h : mulOk a b = true) : fMulI (.pv (.int a)) (.pv (.int b)) = some (.val (.int (a * b))) := by simp [fMulI, h]
theorem ev_div (h : b ≠ 0) : fDiv (.pv (.int a)) (.pv (.int b)) = some (.val (.int (a.fdiv b))) := by simp [fDiv, h]
theorem ev_mod (h : b ≠ 0) : fMod (.pv (.int a)) (.pv (.int b)) = some (.val (.int (a.fmod b))) := by simp [fMod, h]
theorem ev_ix {c : Ct} {xs : List PV} {v : PV} (hc : c = .pv (.tuple xs) ∨ c = .pv (.list xs) ∨ c = .ob (.lst xs)) (h : atI xs a = some v) : fIx c (.pv (.int a)) = some (.val v) := by
  rcases hc with rfl | rfl | rfl <;> simp [fIx, h]
theorem atI_nat {xs : List PV} {j : Nat} {v : PV} (h : xs[j]? = some v) : atI xs (j : Int) = some v := by
  have hj : j < xs.length := (List.getElem?_eq_some_iff.mp h).1
  have : ixN xs.length (j : Int) = some j := by unfold ixN; rw [if_pos (by omega), if_pos (by omega)]; simp
  unfold atI
  rw [this]
  exact h
end
end Py
/-! Q1: rules of reckoning over a written environment. -/
namespace Py
open PySem
theorem get_z (s : Option Sl) (ρ : Env) : get (s :: ρ) 0 = s := rfl
theorem get_s (s : Option Sl) (ρ : Env) (i : Nat) : get (s :: ρ) (i + 1) = get ρ i := rfl
theorem set_z (s t : Option Sl) (ρ : Env) : List.set (s :: ρ) 0 t = t :: ρ := rfl
theorem set_s (s t : Option Sl) (ρ : Env) (i : Nat) : List.set (s :: ρ) (i + 1) t = s :: List.set ρ i t := rfl
inductive PutR : Nat → Option Sl → Env → Env → Prop
  | z {a s : Option Sl} {ρ : Env} (h : isRef a = false) : PutR 0 s (a :: ρ) (s :: ρ)
  | s {a s : Option Sl} {i : Nat} {ρ ρ' : Env} (h : PutR i s ρ ρ') : PutR (i + 1) s (a :: ρ) (a :: ρ')
theorem PutR.put {i s ρ ρ'} (h : PutR i s ρ ρ') : put i s ρ = some ρ' := by
  have : isRef (get ρ i) = false ∧ ρ.set i s = ρ' := by
    induction h with
    | z h => exact ⟨h, rfl⟩
    | s _ ih => exact ⟨ih.1, by rw [List.set_cons_succ, ih.2]⟩
  simp [Py.put, this.1, this.2]
theorem putqV {i : Nat} {v : PV} {ρ ρ' : Env} {Q : Env → Prop} (h : PutR i (some (.val v)) ρ ρ') (q : Q ρ') : PutQ (gName i) (.val v) ρ Q := ⟨ρ', h.put, q⟩
theorem putqN {i : Nat} {o : Ob} {ρ ρ' : Env} {Q : Env → Prop} (h : PutR i (some (.own o)) ρ ρ') (q : Q ρ') : PutQ (gName i) (.new o) ρ Q := ⟨ρ', h.put, q⟩
theorem putq2 {i j : Nat} {v w : PV} {ρ ρ1 ρ2 : Env} {Q : Env → Prop} (h : PutR i (some (.val v)) ρ ρ1) (h2 : PutR j (some (.val w)) ρ1 ρ2) (q : Q ρ2) : PutQ (gTup [i, j]) (.val (.tuple [v, w])) ρ Q := ⟨ρ2, by simp [gTup, gNames, h.put, h2.put], q⟩
theorem unB {a : M} {ρ : Env} {QT : Bool → Env → Prop} (h : Wp a ρ fun x ρ1 => ∃ b, x = .val (.bool b) ∧ QT b ρ1) : Wp (mB a) ρ QT :=
  wp_B (h.mono fun x _ ⟨b, e, q⟩ => ⟨b, by rw [e]; rfl, q⟩)
theorem wp_truB {a : M} {ρ : Env} {QT : Bool → Env → Prop} (h : Wp a ρ fun x ρ1 => ∃ b, x = .val (.bool b) ∧ QT b ρ1) : Wp (mTru a) ρ QT :=
  wp_tru (h.mono fun x _ ⟨b, e, q⟩ => ⟨.pv (.bool b), b, by rw [e]; rfl, rfl, q⟩)
theorem turn_nx {N : Env → Prop} {Q : Fl → Env → Prop} {ρ : Env} (h : N ρ) : TurnQ N Q .nx ρ := h
theorem turn_rt {N : Env → Prop} {Q : Fl → Env → Prop} {ρ : Env} {r : R} (h : Q (.rt r) ρ) : TurnQ N Q (.rt r) ρ := h
theorem branchD {p : Prop} [Decidable p] {A B : Prop} (h1 : p → A) (h2 : ¬p → B) : (decide p = true → A) ∧ (decide p = false → B) := ⟨fun h => h1 (of_decide_eq_true h), fun h => h2 (of_decide_eq_false h)⟩
theorem branchN {b : Bool} {A B : Prop} (h1 : b = false → A) (h2 : b = true → B) : ((!b) = true → A) ∧ ((!b) = false → B) := ⟨fun h => h1 (by simpa using h), fun h => h2 (by simpa using h)⟩
theorem brT {b : Bool} {A B : Prop} (e : b = true) (h1 : A) : (b = true → A) ∧ (b = false → B) := ⟨fun _ => h1, fun h => (by rw [e] at h; cases h)⟩
theorem brF {b : Bool} {A B : Prop} (e : b = false) (h1 : B) : (b = true → A) ∧ (b = false → B) := ⟨fun h => (by rw [e] at h; cases h), fun _ => h1⟩
theorem ev_ltI {a b : Int} : fLt (.pv (.int a)) (.pv (.int b)) = some (.val (.bool (decide (a < b)))) := rfl
theorem ev_leI {a b : Int} : fLe (.pv (.int a)) (.pv (.int b)) = some (.val (.bool (decide (a ≤ b)))) := rfl
theorem ev_gtI {a b : Int} : fGt (.pv (.int a)) (.pv (.int b)) = some (.val (.bool (decide (b < a)))) := rfl
theorem ev_geI {a b : Int} : fGe (.pv (.int a)) (.pv (.int b)) = some (.val (.bool (decide (b ≤ a)))) := rfl
theorem ev_eqI {a b : Int} : fEq (.pv (.int a)) (.pv (.int b)) = some (.val (.bool (decide (a = b)))) := by simp [fEq, eqD]
theorem ev_neI {a b : Int} : fNe (.pv (.int a)) (.pv (.int b)) = some (.val (.bool (!decide (a = b)))) := by simp [fNe, eqD]

inductive StartR : Nat → List Sl → Env → Prop
  | z : StartR 0 [] []
  | p {n : Nat} {ρ : Env} (h : StartR n [] ρ) : StartR (n + 1) [] (none :: ρ)
  | a {n : Nat} {s : Sl} {as : List Sl} {ρ : Env} (h : StartR n as ρ) : StartR (n + 1) (s :: as) (some s :: ρ)
theorem StartR.eq {n as ρ} (h : StartR n as ρ) : startE n as = ρ := by
  induction h with
  | z => rfl
  | p _ ih => simp [startE] at ih ⊢; rw [List.replicate_succ, ih]
  | a _ ih => simp [startE] at ih ⊢; exact ih
theorem ret_mkR {n : Nat} {as : List Sl} {ρ : Env} {body : SM} {QR : R → List Ob → Prop} (h0 : StartR n as ρ) (h : Wp body ρ fun f ρ' => FinQ as f ρ' QR) : Ret (mkDen n body) as QR := ret_mk (h0.eq ▸ h)
/-- the objects behind a call -/
inductive SetR : Env → Nat → Ob → Env → Prop
  | o {ρ : Env} {o o' : Ob} : SetR (some (.own o) :: ρ) 0 o' (some (.own o') :: ρ)
  | r {ρ : Env} {o o' : Ob} : SetR (some (.ref o) :: ρ) 0 o' (some (.ref o') :: ρ)
  | s {a : Option Sl} {ρ ρ' : Env} {i : Nat} {o : Ob} (h : SetR ρ i o ρ') : SetR (a :: ρ) (i + 1) o (a :: ρ')
theorem SetR.eq {ρ i o ρ'} (h : SetR ρ i o ρ') : setOb ρ i o = ρ' := by
  induction h with
  | o => rfl
  | r => rfl
  | @s a ρ ρ' i o h ih =>
    rw [← ih]
    unfold setOb
    rw [get_s]
    split <;> rfl
theorem wp_popR {ρ ρ' : Env} {i : Nat} {v : PV} {Q : R → Env → Prop} {xs : List PV} (h0 : lstAt ρ i = some xs) (h1 : xs.getLast? = some v) (h2 : SetR ρ i (.lst xs.dropLast) ρ') (q : Q (.val v) ρ') : Wp (mPop i) ρ Q := wp_pop h0 h1 (h2.eq ▸ q)
def AppQ (i : Nat) (v : PV) (ρ : Env) (Q : R → Env → Prop) : Prop := ∃ xs ρ3, lstAt ρ i = some xs ∧ xs.length < line ∧ SetR ρ i (.lst (xs ++ [v])) ρ3 ∧ Q (.val .none) ρ3
theorem wp_appendR {a : M} {ρ : Env} {i : Nat} {Q : R → Env → Prop} {xs : List PV} (h0 : lstAt ρ i = some xs) (h : Wp a ρ fun x ρ1 => FrzQ x ρ1 fun v ρ2 => AppQ i v ρ2 Q) : Wp (mAppend i a) ρ Q := by
  refine wp_append h0 (h.mono fun x ρ1 ⟨v, ρ2, e, xs, ρ3, h1, h2, h3, q⟩ => ⟨v, ρ2, e, xs, h1, h2, ?_⟩)
  rw [h3.eq]; exact q
/-- a call with one object -/
def CallQ (is : List Nat) (r : R) (os : List Ob) (ρ : Env) (Q : R → Env → Prop) : Prop := Q r (setObs is os ρ)
theorem callq0 {r : R} {ρ : Env} {Q : R → Env → Prop} (q : Q r ρ) : CallQ [] r [] ρ Q := q
theorem callq1 {i : Nat} {o : Ob} {r : R} {ρ ρ' : Env} {Q : R → Env → Prop} (h : SetR ρ i o ρ') (q : Q r ρ') : CallQ [i] r [o] ρ Q := by
  show Q r (setOb ρ i o)
  rw [h.eq]; exact q
theorem callq2 {i j : Nat} {o p : Ob} {r : R} {ρ ρ1 ρ2 : Env} {Q : R → Env → Prop} (h : SetR ρ i o ρ1) (h2 : SetR ρ1 j p ρ2) (q : Q r ρ2) : CallQ [i, j] r [o, p] ρ Q := by
  show Q r (setOb (setOb ρ i o) j p)
  rw [h.eq, h2.eq]; exact q
inductive RefsR : List Ag → List Nat → Prop
  | nil : RefsR [] []
  | v {a : M} {r : List Ag} {is : List Nat} (h : RefsR r is) : RefsR (.v a :: r) is
  | r {i : Nat} {r : List Ag} {is : List Nat} (h : RefsR r is) : RefsR (.r i :: r) (i :: is)
theorem RefsR.eq {ags is} (h : RefsR ags is) : refsOf ags = is := by
  induction h with
  | nil => rfl
  | v _ ih => exact ih
  | r _ ih => exact congrArg _ ih
theorem wp_callR {d : Den} {ags : List Ag} {is : List Nat} {ρ : Env} {Q : R → Env → Prop} (e' : RefsR ags is) (nd : is.Nodup) (h : Wp (agsEval ags) ρ fun ss ρ1 => Ret d ss fun r os => CallQ is r os ρ1 Q) : Wp (mCall d ags) ρ Q := by
  have e := e'.eq
  subst e; exact wp_call nd h
/-- names forgotten -/
inductive FgtR : Nat → Env → Env → Prop
  | z {a : Option Sl} {ρ : Env} (h : isRef a = false) : FgtR 0 (a :: ρ) (none :: ρ)
  | k {o : Ob} {ρ : Env} : FgtR 0 (some (.ref o) :: ρ) (some (.ref o) :: ρ)
  | s {a : Option Sl} {i : Nat} {ρ ρ' : Env} (h : FgtR i ρ ρ') : FgtR (i + 1) (a :: ρ) (a :: ρ')
theorem FgtR.eq {i ρ ρ'} (h : FgtR i ρ ρ') : (if isRef (get ρ i) then ρ else ρ.set i none) = ρ' := by
  induction h with
  | z h => simp [get_z, h]
  | k => rfl
  | @s a i ρ ρ' h ih =>
    rw [get_s, set_s, ← ih]
    split <;> rfl
inductive FgtsR : List Nat → Env → Env → Prop
  | nil {ρ : Env} : FgtsR [] ρ ρ
  | cons {i : Nat} {r : List Nat} {ρ ρ1 ρ2 : Env} (h : FgtsR r ρ ρ1) (h2 : FgtR i ρ1 ρ2) : FgtsR (i :: r) ρ ρ2
theorem FgtsR.eq {is ρ ρ'} (h : FgtsR is ρ ρ') : forget is ρ = ρ' := by
  induction h with
  | nil => rfl
  | cons _ h2 ih => rw [← h2.eq, ← ih]; rfl
def FgtQ (is : List Nat) (QS : Fl → Env → Prop) (f : Fl) (ρ : Env) : Prop := match f with | .rt r => QS (.rt r) ρ | f => QS f (forget is ρ)
theorem wp_fgtR {is : List Nat} {s : SM} {ρ : Env} {QS : Fl → Env → Prop} (h : Wp s ρ (FgtQ is QS)) : Wp (sFgt is s) ρ QS := wp_fgt h
section
variable {is : List Nat} {ρ ρ' : Env} {QS : Fl → Env → Prop} {r : R}
theorem fgt_nx (h : FgtsR is ρ ρ') (q : QS .nx ρ') : FgtQ is QS .nx ρ := by show QS .nx (forget is ρ); rw [h.eq]; exact q
theorem fgt_bk (h : FgtsR is ρ ρ') (q : QS .bk ρ') : FgtQ is QS .bk ρ := by show QS .bk (forget is ρ); rw [h.eq]; exact q
theorem fgt_ct (h : FgtsR is ρ ρ') (q : QS .ct ρ') : FgtQ is QS .ct ρ := by show QS .ct (forget is ρ); rw [h.eq]; exact q
theorem fgt_rt (q : QS (.rt r) ρ) : FgtQ is QS (.rt r) ρ := q
theorem turn_ct {N : Env → Prop} {Q : Fl → Env → Prop} (h : N ρ) : TurnQ N Q .ct ρ := h
theorem turn_bk {N : Env → Prop} {Q : Fl → Env → Prop} (h : Q .nx ρ) : TurnQ N Q .bk ρ := h
end
/-- a loop over a row of values, by how many are gone through -/
theorem wp_loopK {m : MG} {s : SM} {ρ : Env} {QS : Fl → Env → Prop} {xs : List PV} (P : Nat → Env → Prop) (h0 : P 0 ρ)
    (step : ∀ k (hk : k < xs.length) ρ, P k ρ → PutQ m (.val xs[k]) ρ fun ρ1 => Wp s ρ1 (TurnQ (P (k + 1)) QS)) (hd : ∀ ρ, P xs.length ρ → QS .nx ρ) : Wp (loopF m s xs) ρ QS := by
  have := wp_loop (m := m) (s := s) (QS := QS) (ρ := ρ) (fun x : PV => x) (fun done ρ => P done.length ρ) xs h0 (fun done y rest ρ e p => ?_) hd
  · rwa [List.map_id''] at this; intro; rfl
  · have hk : done.length < xs.length := by rw [e]; simp
    have hy : xs[done.length] = y := by simp [e]
    have h := step done.length hk ρ p
    rw [hy] at h
    simpa using h
theorem wp_forN {a : M} {m : MG} {s : SM} {ρ : Env} {QS : Fl → Env → Prop} (P : Nat → Env → Prop) (n : Nat)
    (h : Wp a ρ fun x ρ1 => look x ρ1 = some (.pv (.int n)) ∧ n ≤ line ∧ P 0 ρ1) (step : ∀ k ρ, k < n → P k ρ → PutQ m (.val (.int k)) ρ fun ρ1 => Wp s ρ1 (TurnQ (P (k + 1)) QS)) (hd : ∀ ρ, P n ρ → QS .nx ρ) : Wp (sFor (iRng1 a) m s) ρ QS := by
  refine wp_for (wp_rng1 (h.mono fun x ρ1 ⟨e, hz, h0⟩ => ⟨n, e, ⟨by exact_mod_cast hz, by omega⟩, ?_⟩))
  refine wp_loopK P h0 (fun k hk ρ p => ?_) (fun ρ p => hd ρ ?_)
  · simp at hk
    simpa using step k ρ hk p
  · simpa using p
theorem wp_forL {it : M} {m : MG} {s : SM} {ρ : Env} {QS : Fl → Env → Prop} (P : Nat → Env → Prop)  (xs : List PV)
    (h : Wp it ρ fun x ρ1 => (x = .val (.list xs) ∨ x = .val (.tuple xs) ∨ x = .new (.lst xs)) ∧ P 0 ρ1) (step : ∀ k (hk : k < xs.length) ρ, P k ρ → PutQ m (.val xs[k]) ρ fun ρ1 => Wp s ρ1 (TurnQ (P (k + 1)) QS)) (hd : ∀ ρ, P xs.length ρ → QS .nx ρ) : Wp (sFor (iSeq it) m s) ρ QS := by
  refine wp_for (wp_seqI (h.mono fun x ρ1 ⟨e, h0⟩ => ⟨xs, e, ?_⟩))
  exact wp_loopK P h0 step hd
theorem mulOk_of {a b : Int} (m n : Nat) (ha : a.natAbs < 2 ^ m) (hb : b.natAbs < 2 ^ n) (h : m + n < 100000000 := by decide) : mulOk a b = true := by
  have h1 : a.natAbs.log2 ≤ m := by
    by_cases h0 : a.natAbs = 0
    · rw [h0]; simp
    · exact Nat.le_of_lt ((Nat.log2_lt h0).mpr ha)
  have h2 : b.natAbs.log2 ≤ n := by
    by_cases h0 : b.natAbs = 0
    · rw [h0]; simp
    · exact Nat.le_of_lt ((Nat.log2_lt h0).mpr hb)
  unfold mulOk
  exact decide_eq_true (by omega)
theorem parq {i j : Nat} {v w : PV} {ρ ρ1 ρ2 : Env} {Q : Env → Prop} (h : PutR i (some (.val v)) ρ ρ1) (h2 : PutR j (some (.val w)) ρ1 ρ2) (q : Q ρ2) : ∃ ρ5 ρ6, put i (some (.val v)) ρ = some ρ5 ∧ put j (some (.val w)) ρ5 = some ρ6 ∧ Q ρ6 := ⟨ρ1, ρ2, h.put, h2.put, q⟩
theorem ixN_nat {n j : Nat} (h : j < n) : ixN n (j : Int) = some j := by
  unfold ixN
  rw [if_pos (by omega), if_pos (by omega)]
  simp
def IxQ (i : Nat) (v : PV) (y : R) (ρ : Env) (Q : Env → Prop) : Prop := ∃ k xs j ρ4, look y ρ = some (.pv (.int k)) ∧ lstAt ρ i = some xs ∧ ixN xs.length k = some j ∧ SetR ρ i (.lst (xs.set j v)) ρ4 ∧ Q ρ4
theorem ixq {i j : Nat} {v : PV} {y : R} {ρ ρ4 : Env} {Q : Env → Prop} {xs : List PV} (h1 : look y ρ = some (.pv (.int (j : Int)))) (h2 : lstAt ρ i = some xs) (h3 : j < xs.length) (h4 : SetR ρ i (.lst (xs.set j v)) ρ4) (q : Q ρ4) : IxQ i v y ρ Q := ⟨_, _, _, _, h1, h2, ixN_nat h3, h4, q⟩
theorem wp_setIxR {a b : M} {ρ : Env} {i : Nat} {QS : Fl → Env → Prop} (h : Wp a ρ fun x ρ1 => FrzQ x ρ1 fun v ρ2 => ∃ ys, lstAt ρ2 i = some ys ∧ Wp b ρ2 fun y ρ3 => IxQ i v y ρ3 fun ρ4 => QS .nx ρ4) : Wp (sSetIx i b a) ρ QS := by
  refine wp_setIx (h.mono fun x ρ1 ⟨v, ρ2, e, ys, h1, h2⟩ => ⟨v, ρ2, e, ys, h1, h2.mono fun y ρ3 ⟨k, xs, j, ρ4, h3, h4, h5, h6, q⟩ => ⟨k, xs, j, h3, h4, h5, ?_⟩⟩)
  rw [h6.eq]; exact q
theorem wp_reverseR {ρ ρ' : Env} {i : Nat} {Q : R → Env → Prop} {xs : List PV} (h0 : lstAt ρ i = some xs) (h2 : SetR ρ i (.lst xs.reverse) ρ') (q : Q (.val .none) ρ') : Wp (mReverse i) ρ Q := wp_reverse h0 (h2.eq ▸ q)
/-- a comprehension over a list, no test -/
def ElQ (e : M) (ρ : Env) (Q : PV → Env → Prop) : Prop := Wp e ρ fun r ρ3 => FrzQ r ρ3 Q
theorem appq {ρ ρ3 : Env} {i : Nat} {xs : List PV} {v : PV} {Q : R → Env → Prop} (h1 : lstAt ρ i = some xs) (h2 : xs.length < line) (h3 : SetR ρ i (.lst (xs ++ [v])) ρ3) (q : Q (.val .none) ρ3) : AppQ i v ρ Q := ⟨xs, ρ3, h1, h2, h3, q⟩
theorem fmod_ix (i : Int) {n : Nat} (h : 0 < n) : ∃ j : Nat, i.fmod n = j ∧ j < n := by
  have h1 := Int.fmod_nonneg_of_pos i (b := n) (by omega)
  have h2 := Int.fmod_lt_of_pos i (b := n) (by omega)
  obtain ⟨j, hj⟩ := Int.eq_ofNat_of_zero_le h1
  exact ⟨j, hj, by omega⟩
/-- what holds behind a statement -/
theorem wp_mid {s s2 : SM} {ρ : Env} {QS : Fl → Env → Prop} (P : Env → Prop) (h1 : Wp s ρ fun f ρ' => f = Fl.nx ∧ P ρ') (h2 : ∀ ρ', P ρ' → Wp s2 ρ' QS) : Wp s ρ (SeqQ s2 QS) :=
  h1.mono fun f ρ' ⟨e, q⟩ => by rw [e]; exact h2 ρ' q
theorem mulB {a b : Int} {m n : Nat} (ha : Builtin.Int.intBits a ≤ m) (hb : Builtin.Int.intBits b ≤ n) (h : m + n < 100000000 := by decide) : mulOk a b = true :=
  mulOk_of m n (intBits_le_iff.mp ha) (intBits_le_iff.mp hb) h
theorem frzB {i : Nat} {o : Ob} {v : PV} {ρ ρ' : Env} {Q : PV → Env → Prop} (h : get ρ i = some (.own o)) (h2 : frzO o = some v) (h3 : PutR i (some (.val v)) ρ ρ') (q : Q v ρ') : FrzQ (.bor i) ρ Q := by
  refine ⟨v, ρ', ?_, q⟩
  have : isRef (get ρ i) = false ∧ ρ.set i (some (.val v)) = ρ' := by
    have e := h3.put
    simp only [put, h, isRef, Bool.false_eq_true, if_false] at e
    rw [h]
    exact ⟨rfl, Option.some.inj e⟩
  simp [frz, h, h2, this.2]
abbrev sOf (s : String) : Str := PySem.Str.ofString s
theorem ev_strT {s : Str} : fEq (.pv (.str s)) (.pv (.str s)) = some (.val (.bool true)) := by simp [fEq, eqD]
theorem ev_strF {s t : Str} (h : s ≠ t) : fEq (.pv (.str s)) (.pv (.str t)) = some (.val (.bool false)) := by simp [fEq, eqD, h]
theorem n1 : sOf "not" ≠ sOf "is" := by decide
theorem n2 : sOf "all" ≠ sOf "is" := by decide
theorem n3 : sOf "any" ≠ sOf "is" := by decide
theorem n4 : sOf "all" ≠ sOf "not" := by decide
theorem n5 : sOf "any" ≠ sOf "not" := by decide
theorem n6 : sOf "any" ≠ sOf "all" := by decide
end Py
namespace D
open Py
noncomputable def b_divisor : SM :=
    (sRet (mOp fGcd (mVar 0) (mVar 1)))
noncomputable def d_divisor : Den := mkDen 2 b_divisor

noncomputable def b_fraction : SM :=
    (sSeq (sAsg (mCall d_divisor [.v (mVar 0), .v (mVar 1)]) (Py.gName 2))
    (sSeq (sIf (mB (mOp fLt (mVar 1) (mC (.int 0)))) (sAsg (mUn fNeg (mVar 2)) (Py.gName 2)) sNext)
    (sRet (mTup (lCons (mOp fDiv (mVar 0) (mVar 2)) (lCons (mOp fDiv (mVar 1) (mVar 2)) lNil))))))
noncomputable def d_fraction : Den := mkDen 3 b_fraction

noncomputable def b_plus : SM :=
    (sRet (mCall d_fraction [.v (mOp fAdd (mOp fMul (mOp fIx (mVar 0) (mC (.int 0))) (mOp fIx (mVar 1) (mC (.int 1)))) (mOp fMul (mOp fIx (mVar 1) (mC (.int 0))) (mOp fIx (mVar 0) (mC (.int 1))))), .v (mOp fMul (mOp fIx (mVar 0) (mC (.int 1))) (mOp fIx (mVar 1) (mC (.int 1))))]))
noncomputable def d_plus : Den := mkDen 2 b_plus

noncomputable def b_minus : SM :=
    (sRet (mCall d_fraction [.v (mOp fSub (mOp fMul (mOp fIx (mVar 0) (mC (.int 0))) (mOp fIx (mVar 1) (mC (.int 1)))) (mOp fMul (mOp fIx (mVar 1) (mC (.int 0))) (mOp fIx (mVar 0) (mC (.int 1))))), .v (mOp fMul (mOp fIx (mVar 0) (mC (.int 1))) (mOp fIx (mVar 1) (mC (.int 1))))]))
noncomputable def d_minus : Den := mkDen 2 b_minus

noncomputable def b_times : SM :=
    (sRet (mCall d_fraction [.v (mOp fMul (mOp fIx (mVar 0) (mC (.int 0))) (mOp fIx (mVar 1) (mC (.int 0)))), .v (mOp fMul (mOp fIx (mVar 0) (mC (.int 1))) (mOp fIx (mVar 1) (mC (.int 1))))]))
noncomputable def d_times : Den := mkDen 2 b_times

noncomputable def b_is_less : SM :=
    (sRet (mOp fLt (mOp fMul (mOp fIx (mVar 0) (mC (.int 0))) (mOp fIx (mVar 1) (mC (.int 1)))) (mOp fMul (mOp fIx (mVar 1) (mC (.int 0))) (mOp fIx (mVar 0) (mC (.int 1))))))
noncomputable def d_is_less : Den := mkDen 2 b_is_less

noncomputable def e1_law_draws : M :=
    (mUn fInt (mVar 8))
noncomputable def l2_law_draws : SM :=
    (sFgt [5, 6, 7] (sSeq (sAsg (mOp fMod (mVar 5) (mUn fLen (mVar 2))) (Py.gName 6))
    (sIf (mB (mOp fGe (mOp fIx (mVar 2) (mVar 6)) (mOp fPow (mC (.int 10)) (mC (.int 18))))) (sSeq (sExpr (mAppend 4 (mOp fMod (mUn fInt (mOp fIx (mVar 3) (mVar 6))) (mC (.int 1000)))))
    (sSetIx 3 (mVar 6) (mOp fDiv (mOp fIx (mVar 3) (mVar 6)) (mC (.int 1000))))) (sSeq (sAsg (mOp fMod (mUn fInt (mOp fAdd (mOp fAdd (mOp fMul (mOp fIx (mVar 2) (mVar 6)) (mC (.int 48271))) (mOp fMul (mVar 5) (mC (.int 69621)))) (mC (.int 11)))) (mC (.int 2147483647))) (Py.gName 7))
    (sExpr (mAppend 4 (mOp fMod (mUn fInt (mOp fAdd (mOp fAdd (mOp fMul (mVar 7) (mVar 7)) (mOp fMul (mC (.int 3)) (mVar 7))) (mVar 5))) (mC (.int 1000003)))))))))
noncomputable def b_law_draws : SM :=
    (sSeq (sAsg (mLc (iSeq (mFrz (mVar 0))) (Py.gName 8) [8] tYes e1_law_draws) (Py.gName 2))
    (sSeq (sIf (mB (mOp fEq (mUn fLen (mVar 2)) (mC (.int 0)))) (sExpr (mAppend 2 (mC (.int 0)))) sNext)
    (sSeq (sAsg (mUn fList (mVar 2)) (Py.gName 3))
    (sSeq (sAsg (mLst lNil) (Py.gName 4))
    (sSeq (sFor (Py.iRng1 (mVar 1)) (Py.gName 5) l2_law_draws)
    (sSeq (sExpr (mReverse 4))
    (sRet (mVar 4))))))))
noncomputable def d_law_draws : Den := mkDen 9 b_law_draws

noncomputable def b_law_take : SM :=
    (sSeq (sIf (mB (mOp fEq (mUn fLen (mVar 0)) (mC (.int 0)))) (sRet (mC (.int 0))) sNext)
    (sRet (mOp fMod (mUn fInt (mPop 0)) (mVar 1))))
noncomputable def d_law_take : Den := mkDen 2 b_law_take

noncomputable def b_law_cell : SM :=
    (sSeq (sIf (mB (mOp fEq (mUn fLen (mVar 0)) (mC (.int 0)))) (sRet (mC (.int 0))) sNext)
    (sRet (mUn fInt (mOp fIx (mVar 0) (mOp fMod (mUn fInt (mVar 1)) (mUn fLen (mVar 0)))))))
noncomputable def d_law_cell : Den := mkDen 2 b_law_cell

noncomputable def b_law_huge : SM :=
    (sSeq (sAsg (mOp fIx (mLst (lCons (mC (.int 1)) (lCons (mOp fPow (mC (.int 10)) (mC (.int 3))) (lCons (mOp fPow (mC (.int 10)) (mC (.int 9))) (lCons (mOp fPow (mC (.int 10)) (mC (.int 15))) (lCons (mOp fPow (mC (.int 10)) (mC (.int 21))) (lCons (mOp fPow (mC (.int 10)) (mC (.int 27))) lNil))))))) (mCall d_law_take [.r 1, .v (mC (.int 6))])) (Py.gName 2))
    (sSeq (sAsg (mOp fAdd (mCall d_law_cell [.v (mVar 0), .v (mCall d_law_take [.r 1, .v (mC (.int 63))])]) (mOp fMul (mOp fAdd (mC (.int 1)) (mCall d_law_take [.r 1, .v (mC (.int 999))])) (mVar 2))) (Py.gName 3))
    (sRet (mOp fMod (mUn fInt (mVar 3)) (mOp fPow (mC (.int 10)) (mC (.int 30)))))))
noncomputable def d_law_huge : Den := mkDen 4 b_law_huge

noncomputable def l1_law_divisor : SM :=
    (sFgt [] (sPar 0 1 (mVar 1) (mOp fMod (mUn fInt (mVar 0)) (mVar 1))))
noncomputable def t2_law_divisor : MT :=
    (mB (mOp fNe (mVar 1) (mC (.int 0))))
noncomputable def b_law_divisor : SM :=
    (sSeq (sAsg (mUn fAbs (mVar 0)) (Py.gName 0))
    (sSeq (sAsg (mUn fAbs (mVar 1)) (Py.gName 1))
    (sSeq (sFgt [1] (sWhile t2_law_divisor l1_law_divisor))
    (sRet (mVar 0)))))
noncomputable def d_law_divisor : Den := mkDen 2 b_law_divisor

noncomputable def b_law_ratio : SM :=
    (sSeq (sAsg (mCall d_law_divisor [.v (mVar 0), .v (mVar 1)]) (Py.gName 2))
    (sSeq (sIf (mB (mOp fLt (mVar 1) (mC (.int 0)))) (sAsg (mUn fNeg (mVar 2)) (Py.gName 2)) sNext)
    (sRet (mTup (lCons (mOp fDiv (mVar 0) (mVar 2)) (lCons (mOp fDiv (mVar 1) (mVar 2)) lNil))))))
noncomputable def d_law_ratio : Den := mkDen 3 b_law_ratio

noncomputable def b_law_plus : SM :=
    (sRet (mCall d_law_ratio [.v (mOp fAdd (mOp fMul (mOp fIx (mVar 0) (mC (.int 0))) (mOp fIx (mVar 1) (mC (.int 1)))) (mOp fMul (mOp fIx (mVar 1) (mC (.int 0))) (mOp fIx (mVar 0) (mC (.int 1))))), .v (mOp fMul (mOp fIx (mVar 0) (mC (.int 1))) (mOp fIx (mVar 1) (mC (.int 1))))]))
noncomputable def d_law_plus : Den := mkDen 2 b_law_plus

noncomputable def b_law_minus : SM :=
    (sRet (mCall d_law_ratio [.v (mOp fSub (mOp fMul (mOp fIx (mVar 0) (mC (.int 0))) (mOp fIx (mVar 1) (mC (.int 1)))) (mOp fMul (mOp fIx (mVar 1) (mC (.int 0))) (mOp fIx (mVar 0) (mC (.int 1))))), .v (mOp fMul (mOp fIx (mVar 0) (mC (.int 1))) (mOp fIx (mVar 1) (mC (.int 1))))]))
noncomputable def d_law_minus : Den := mkDen 2 b_law_minus

noncomputable def b_law_times : SM :=
    (sRet (mCall d_law_ratio [.v (mOp fMul (mOp fIx (mVar 0) (mC (.int 0))) (mOp fIx (mVar 1) (mC (.int 0)))), .v (mOp fMul (mOp fIx (mVar 0) (mC (.int 1))) (mOp fIx (mVar 1) (mC (.int 1))))]))
noncomputable def d_law_times : Den := mkDen 2 b_law_times

noncomputable def b_law_less : SM :=
    (sRet (mOp fLt (mOp fMul (mOp fIx (mVar 0) (mC (.int 0))) (mOp fIx (mVar 1) (mC (.int 1)))) (mOp fMul (mOp fIx (mVar 1) (mC (.int 0))) (mOp fIx (mVar 0) (mC (.int 1))))))
noncomputable def d_law_less : Den := mkDen 2 b_law_less

noncomputable def l1_law_same (self : Den) : SM :=
    (sFgt [2] (sIf (mNot (mTru (mCall self [.v (mOp fIx (mVar 0) (mVar 2)), .v (mOp fIx (mVar 1) (mVar 2))]))) (sRet (mC (.bool false))) sNext))
noncomputable def b_law_same (self : Den) : SM :=
    (sSeq (sIf (mB (mOp (fIs false) (mVar 1) (mC .none))) (sRet (mOp (fIs false) (mVar 0) (mC .none))) sNext)
    (sSeq (sIf (mTru (mUn (fIsi .bool) (mVar 1))) (sRet (mAndV (mUn (fIsi .bool) (mVar 0)) (mOp fEq (mVar 0) (mVar 1)))) sNext)
    (sSeq (sIf (mTru (mUn (fIsi .int) (mVar 1))) (sRet (mAndV (mUn (fIsi .int) (mVar 0)) (mAndV (mNotV (mUn (fIsi .bool) (mVar 0))) (mOp fEq (mVar 0) (mVar 1))))) sNext)
    (sSeq (sIf (mTru (mUn (fIsi .str) (mVar 1))) (sRet (mAndV (mUn (fIsi .str) (mVar 0)) (mOp fEq (mVar 0) (mVar 1)))) sNext)
    (sSeq (sIf (mOr (mNot (mTru (mUn (fIsi .tuple) (mVar 0)))) (mB (mOp fNe (mUn fLen (mVar 0)) (mUn fLen (mVar 1))))) (sRet (mC (.bool false))) sNext)
    (sSeq (sFor (Py.iRng1 (mUn fLen (mVar 1))) (Py.gName 2) (l1_law_same self))
    (sRet (mC (.bool true)))))))))
noncomputable def d_law_same : Nat → Den
  | 0 => fun _ => none
  | n + 1 => mkDen 3 (b_law_same (d_law_same n))

noncomputable def b_law_drawn : SM :=
    (sSeq (sAsg (mCall d_law_take [.r 1, .v (mC (.int 16))]) (Py.gName 2))
    (sSeq (sAsg (mOp fSub (mCall d_law_take [.r 1, .v (mC (.int 13))]) (mC (.int 6))) (Py.gName 3))
    (sSeq (sAsg (mOp fAdd (mC (.int 1)) (mCall d_law_take [.r 1, .v (mC (.int 6))])) (Py.gName 4))
    (sSeq (sIf (mB (mOp fLt (mVar 2) (mC (.int 8)))) (sAsg (mC (.int 1)) (Py.gName 4)) sNext)
    (sSeq (sIf (mB (mOp fEq (mVar 2) (mC (.int 15)))) (sAsg (mOp fDiv (mOp fMul (mVar 3) (mCall d_law_huge [.v (mVar 0), .r 1])) (mC (.int 7))) (Py.gName 3)) sNext)
    (sSeq (sIf (mOr (mB (mOp fEq (mVar 2) (mC (.int 14)))) (mB (mOp fEq (mVar 2) (mC (.int 15))))) (sAsg (mOp fAdd (mC (.int 1)) (mOp fDiv (mCall d_law_huge [.v (mVar 0), .r 1]) (mC (.int 2)))) (Py.gName 4)) sNext)
    (sRet (mCall d_law_ratio [.v (mVar 3), .v (mVar 4)]))))))))
noncomputable def d_law_drawn : Den := mkDen 5 b_law_drawn

noncomputable def l1_total : SM :=
    (sFgt [2] (sAsg (mCall d_plus [.v (mVar 1), .v (mVar 2)]) (Py.gName 1)))
noncomputable def b_total : SM :=
    (sSeq (sAsg (mC (.tuple [.int 0, .int 1])) (Py.gName 1))
    (sSeq (sFor (iSeq (mFrz (mVar 0))) (Py.gName 2) l1_total)
    (sRet (mVar 1))))
noncomputable def d_total : Den := mkDen 3 b_total

noncomputable def e1_product_sum : M :=
    (mCall d_times [.v (mOp fIx (mVar 0) (mVar 2)), .v (mOp fIx (mVar 1) (mVar 2))])
noncomputable def b_product_sum : SM :=
    (sRet (mCall d_total [.v (mLc (Py.iRng1 (mUn fLen (mVar 0))) (Py.gName 2) [2] tYes e1_product_sum)]))
noncomputable def d_product_sum : Den := mkDen 3 b_product_sum

noncomputable def l1_law_dot : SM :=
    (sFgt [4] (sSeq (sAsg (mOp fAdd (mOp fMul (mOp fMul (mVar 2) (mOp fIx (mOp fIx (mVar 0) (mVar 4)) (mC (.int 1)))) (mOp fIx (mOp fIx (mVar 1) (mVar 4)) (mC (.int 1)))) (mOp fMul (mOp fMul (mOp fIx (mOp fIx (mVar 0) (mVar 4)) (mC (.int 0))) (mOp fIx (mOp fIx (mVar 1) (mVar 4)) (mC (.int 0)))) (mVar 3))) (Py.gName 2))
    (sSeq (sAsg (mOp fMul (mOp fMul (mVar 3) (mOp fIx (mOp fIx (mVar 0) (mVar 4)) (mC (.int 1)))) (mOp fIx (mOp fIx (mVar 1) (mVar 4)) (mC (.int 1)))) (Py.gName 3))
    (sIf (mB (mOp fGt (mVar 3) (mOp fPow (mC (.int 10)) (mC (.int 40))))) (sAsg (mCall d_law_ratio [.v (mVar 2), .v (mVar 3)]) (Py.gTup [2, 3])) sNext))))
noncomputable def b_law_dot : SM :=
    (sSeq (sAsg (mC (.int 0)) (Py.gName 2))
    (sSeq (sAsg (mC (.int 1)) (Py.gName 3))
    (sSeq (sFor (Py.iRng1 (mUn fLen (mVar 0))) (Py.gName 4) l1_law_dot)
    (sRet (mCall d_law_ratio [.v (mVar 2), .v (mVar 3)])))))
noncomputable def d_law_dot : Den := mkDen 5 b_law_dot

noncomputable def b_divided : SM :=
    (sRet (mCall d_fraction [.v (mOp fMul (mOp fIx (mVar 0) (mC (.int 0))) (mOp fIx (mVar 1) (mC (.int 1)))), .v (mOp fMul (mOp fIx (mVar 0) (mC (.int 1))) (mOp fIx (mVar 1) (mC (.int 0))))]))
noncomputable def d_divided : Den := mkDen 2 b_divided

noncomputable def b_law_size : SM :=
    (sSeq (sAsg (mCall d_law_take [.r 0, .v (mC (.int 6))]) (Py.gName 2))
    (sSeq (sAsg (mCall d_law_take [.r 0, .v (mC (.int 10))]) (Py.gName 3))
    (sSeq (sIf (mB (mOp fEq (mVar 3) (mC (.int 0)))) (sAsg (mOp fAdd (mVar 2) (mOp fMul (mOp fAdd (mC (.int 1)) (mCall d_law_take [.r 0, .v (mC (.int 1000))])) (mOp fIx (mLst (lCons (mOp fPow (mC (.int 10)) (mC (.int 3))) (lCons (mOp fPow (mC (.int 10)) (mC (.int 9))) (lCons (mOp fPow (mC (.int 10)) (mC (.int 18))) (lCons (mOp fPow (mC (.int 10)) (mC (.int 40))) lNil))))) (mCall d_law_take [.r 0, .v (mC (.int 4))])))) (Py.gName 2)) sNext)
    (sSeq (sIf (mB (mOp fEq (mVar 3) (mC (.int 1)))) (sAsg (mOp fAdd (mVar 2) (mUn fAbs (mCall d_law_cell [.v (mVar 1), .v (mCall d_law_take [.r 0, .v (mC (.int 63))])]))) (Py.gName 2)) sNext)
    (sRet (mVar 2))))))
noncomputable def d_law_size : Den := mkDen 4 b_law_size

noncomputable def l1_law_common : SM :=
    (sFgt [] (sPar 0 1 (mVar 1) (mOp fMod (mUn fInt (mVar 0)) (mVar 1))))
noncomputable def t2_law_common : MT :=
    (mB (mOp fGt (mVar 1) (mC (.int 0))))
noncomputable def b_law_common : SM :=
    (sSeq (sPar 0 1 (mUn fAbs (mVar 0)) (mUn fAbs (mVar 1)))
    (sSeq (sFgt [1] (sWhile t2_law_common l1_law_common))
    (sRet (mVar 0))))
noncomputable def d_law_common : Den := mkDen 2 b_law_common

noncomputable def b_law_fraction : SM :=
    (sSeq (sAsg (mCall d_law_common [.v (mVar 0), .v (mVar 1)]) (Py.gName 2))
    (sSeq (sIf (mB (mOp fLt (mVar 1) (mC (.int 0)))) (sAsg (mUn fNeg (mVar 2)) (Py.gName 2)) sNext)
    (sRet (mTup (lCons (mOp fDiv (mVar 0) (mVar 2)) (lCons (mOp fDiv (mVar 1) (mVar 2)) lNil))))))
noncomputable def d_law_fraction : Den := mkDen 3 b_law_fraction

noncomputable def l1_rest_of_power : SM :=
    (sFgt [] (sSeq (sIf (mB (mOp fEq (mOp fMod (mVar 0) (mC (.int 2))) (mC (.int 1)))) (sAsg (mOp fMod (mOp fMul (mVar 2) (mVar 3)) (mVar 1)) (Py.gName 2)) sNext)
    (sSeq (sAsg (mOp fMod (mOp fMul (mVar 3) (mVar 3)) (mVar 1)) (Py.gName 3))
    (sAug 0 fDiv (mC (.int 2))))))
noncomputable def t2_rest_of_power : MT :=
    (mB (mOp fGt (mVar 0) (mC (.int 0))))
noncomputable def b_rest_of_power : SM :=
    (sSeq (sAsg (mOp fMod (mC (.int 1)) (mVar 1)) (Py.gName 2))
    (sSeq (sAsg (mOp fMod (mC (.int 2)) (mVar 1)) (Py.gName 3))
    (sSeq (sFgt [0, 3] (sWhile t2_rest_of_power l1_rest_of_power))
    (sRet (mVar 2)))))
noncomputable def d_rest_of_power : Den := mkDen 4 b_rest_of_power

noncomputable def b_digit : SM :=
    (sSeq (sAsg (mVar 0) (Py.gTup [2, 3]))
    (sRet (mOp fDiv (mOp fMod (mOp fMul (mVar 2) (mCall d_rest_of_power [.v (mVar 1), .v (mOp fMul (mC (.int 2)) (mVar 3))])) (mOp fMul (mC (.int 2)) (mVar 3))) (mVar 3))))
noncomputable def d_digit : Den := mkDen 4 b_digit

noncomputable def l1_law_rests : SM :=
    (sFgt [5] (sSeq (sIf (mB (mOp (fDin false) (mVar 4) (mVar 3))) sBrk sNext)
    (sSeq (Py.sDput 3 (mVar 4) (mVar 5))
    (sSeq (sExpr (mAppend 2 (mVar 4)))
    (sAsg (mOp fMod (mUn fInt (mOp fMul (mC (.int 2)) (mVar 4))) (mVar 1)) (Py.gName 4))))))
noncomputable def b_law_rests : SM :=
    (sSeq (sAsg (mLst lNil) (Py.gName 2))
    (sSeq (sAsg mDct0 (Py.gName 3))
    (sSeq (sAsg (mVar 0) (Py.gName 4))
    (sSeq (sFor (Py.iRng1 (mOp fAdd (mVar 1) (mC (.int 1)))) (Py.gName 5) l1_law_rests)
    (sRet (mTup (lCons (mVar 2) (lCons (mOp fDget (mVar 3) (mVar 4)) lNil))))))))
noncomputable def d_law_rests : Den := mkDen 6 b_law_rests

noncomputable def b_law_denominator : SM :=
    (sSeq (sAsg (mCall d_law_take [.r 0, .v (mC (.int 8))]) (Py.gName 1))
    (sSeq (sIf (mB (mOp fLt (mVar 1) (mC (.int 4)))) (sRet (mOp fAdd (mC (.int 1)) (mCall d_law_take [.r 0, .v (mC (.int 24))]))) sNext)
    (sSeq (sIf (mB (mOp fEq (mVar 1) (mC (.int 4)))) (sRet (mOp fIx (mLst (lCons (mC (.int 2)) (lCons (mC (.int 4)) (lCons (mC (.int 8)) (lCons (mC (.int 16)) (lCons (mC (.int 64)) (lCons (mC (.int 256)) (lCons (mC (.int 1024)) (lCons (mC (.int 1000)) lNil))))))))) (mCall d_law_take [.r 0, .v (mC (.int 8))]))) sNext)
    (sSeq (sIf (mB (mOp fEq (mVar 1) (mC (.int 5)))) (sRet (mOp fIx (mLst (lCons (mC (.int 1999)) (lCons (mC (.int 1997)) (lCons (mC (.int 2000)) (lCons (mC (.int 1987)) (lCons (mC (.int 1023)) (lCons (mC (.int 1536)) (lCons (mC (.int 31)) (lCons (mC (.int 17)) lNil))))))))) (mCall d_law_take [.r 0, .v (mC (.int 8))]))) sNext)
    (sRet (mOp fAdd (mC (.int 1)) (mCall d_law_take [.r 0, .v (mOp fIx (mLst (lCons (mC (.int 100)) (lCons (mC (.int 100)) (lCons (mC (.int 2000)) lNil)))) (mCall d_law_take [.r 0, .v (mC (.int 3))]))])))))))
noncomputable def d_law_denominator : Den := mkDen 2 b_law_denominator

noncomputable def e1_law_chances_2 : M :=
    (mCall d_law_take [.r 0, .v (mOp fAdd (mVar 1) (mC (.int 1)))])
noncomputable def e2_law_chances_2 : M :=
    (mCall d_law_fraction [.v (mOp fSub (mOp fIx (mVar 3) (mOp fAdd (mVar 4) (mC (.int 1)))) (mOp fIx (mVar 3) (mVar 4))), .v (mVar 1)])
noncomputable def b_law_chances_2 : SM :=
    (sSeq (sAsg (mUn fSorted (mLc (Py.iRng1 (mOp fSub (mVar 2) (mC (.int 1)))) (Py.gName 4) [4] tYes e1_law_chances_2)) (Py.gName 3))
    (sSeq (sAsg (mOp fAdd (mOp fAdd (mLst (lCons (mC (.int 0)) lNil)) (mVar 3)) (mLst (lCons (mVar 1) lNil))) (Py.gName 3))
    (sRet (mUn fTuple (mLc (Py.iRng1 (mVar 2)) (Py.gName 4) [4] tYes e2_law_chances_2)))))
noncomputable def d_law_chances_2 : Den := mkDen 5 b_law_chances_2

noncomputable def l1_digits_with_turn : SM :=
    (sFgt [] (sSeq (Py.sDput 4 (mVar 3) (mUn fLen (mVar 5)))
    (sSeq (sExpr (mAppend 5 (mOp fDiv (mOp fMul (mC (.int 2)) (mVar 3)) (mVar 2))))
    (sAsg (mOp fMod (mOp fMul (mC (.int 2)) (mVar 3)) (mVar 2)) (Py.gName 3)))))
noncomputable def t2_digits_with_turn : MT :=
    (mB (mOp (fDin true) (mVar 3) (mVar 4)))
noncomputable def b_digits_with_turn : SM :=
    (sSeq (sAsg (mVar 0) (Py.gTup [1, 2]))
    (sSeq (sAsg (mVar 1) (Py.gName 3))
    (sSeq (sAsg mDct0 (Py.gName 4))
    (sSeq (sAsg (mLst lNil) (Py.gName 5))
    (sSeq (sWhile t2_digits_with_turn l1_digits_with_turn)
    (sRet (mTup (lCons (mVar 5) (lCons (mOp fDget (mVar 4) (mVar 3)) lNil)))))))))
noncomputable def d_digits_with_turn : Den := mkDen 6 b_digits_with_turn

noncomputable def b_turns_of : SM :=
    (sSeq (sAsg (mCall d_plus [.v (mVar 1), .v (mCall d_fraction [.v (mOp fMul (mVar 2) (mOp fIx (mVar 0) (mC (.int 0)))), .v (mOp fIx (mVar 0) (mC (.int 1)))])]) (Py.gName 6))
    (sSeq (sAsg (mCall d_fraction [.v (mOp fMul (mOp fIx (mVar 6) (mC (.int 0))) (mVar 4)), .v (mOp fMul (mOp fIx (mVar 6) (mC (.int 1))) (mOp fSub (mVar 4) (mC (.int 1))))]) (Py.gName 7))
    (sSeq (sAsg (mCall d_fraction [.v (mOp fMul (mOp fMul (mOp fIx (mVar 0) (mC (.int 0))) (mVar 3)) (mVar 4)), .v (mOp fMul (mOp fMul (mOp fIx (mVar 0) (mC (.int 1))) (mOp fSub (mVar 4) (mC (.int 1)))) (mOp fSub (mVar 4) (mC (.int 1))))]) (Py.gName 8))
    (sSeq (sAsg (mCall d_plus [.v (mVar 7), .v (mVar 8)]) (Py.gName 9))
    (sRet (mCall d_fraction [.v (mOp fIx (mVar 9) (mC (.int 0))), .v (mOp fMul (mOp fIx (mVar 9) (mC (.int 1))) (mVar 5))]))))))
noncomputable def d_turns_of : Den := mkDen 10 b_turns_of

noncomputable def l1_sum_of_digits_k44 : SM :=
    (sFgt [5] (sSeq (sAug 4 fMulI (mC (.int 2)))
    (sAsg (mOp fAdd (mOp fMul (mC (.int 2)) (mVar 3)) (mOp fMul (mOp fAdd (mVar 5) (mC (.int 1))) (mOp fIx (mVar 1) (mVar 5)))) (Py.gName 3))))
noncomputable def l2_sum_of_digits_k44 : SM :=
    (sFgt [5] (sSeq (sAug 8 fMulI (mC (.int 2)))
    (sSeq (sAsg (mOp fAdd (mOp fMul (mC (.int 2)) (mVar 6)) (mOp fIx (mVar 1) (mVar 5))) (Py.gName 6))
    (sAsg (mOp fAdd (mOp fMul (mC (.int 2)) (mVar 7)) (mOp fMul (mOp fSub (mOp fAdd (mVar 5) (mC (.int 1))) (mVar 2)) (mOp fIx (mVar 1) (mVar 5)))) (Py.gName 7)))))
noncomputable def b_sum_of_digits_k44 : SM :=
    (sSeq (sAsg (mCall d_digits_with_turn [.v (mVar 0)]) (Py.gTup [1, 2]))
    (sSeq (sAsg (mTup (lCons (mC (.int 0)) (lCons (mC (.int 1)) lNil))) (Py.gTup [3, 4]))
    (sSeq (sFor (Py.iRng1 (mVar 2)) (Py.gName 5) l1_sum_of_digits_k44)
    (sSeq (sAsg (mTup (lCons (mC (.int 0)) (lCons (mC (.int 0)) (lCons (mC (.int 1)) lNil)))) (Py.gTup [6, 7, 8]))
    (sSeq (sFor (Py.iRng2 (mVar 2) (mUn fLen (mVar 1))) (Py.gName 5) l2_sum_of_digits_k44)
    (sSeq (sAsg (mCall d_turns_of [.v (mCall d_fraction [.v (mVar 6), .v (mVar 8)]), .v (mCall d_fraction [.v (mVar 7), .v (mVar 8)]), .v (mVar 2), .v (mOp fSub (mUn fLen (mVar 1)) (mVar 2)), .v (mVar 8), .v (mVar 4)]) (Py.gName 9))
    (sRet (mCall d_plus [.v (mCall d_fraction [.v (mVar 3), .v (mVar 4)]), .v (mVar 9)]))))))))
noncomputable def d_sum_of_digits_k44 : Den := mkDen 10 b_sum_of_digits_k44

noncomputable def l1_fewest_tosses_k44 : SM :=
    (sFgt [2] (sIf (mB (mOp fNe (mVar 2) (mC (.tuple [.int 1, .int 1])))) (sAsg (mCall d_plus [.v (mVar 1), .v (mCall d_sum_of_digits_k44 [.v (mVar 2)])]) (Py.gName 1)) sNext))
noncomputable def b_fewest_tosses_k44 : SM :=
    (sSeq (sAsg (mC (.tuple [.int 0, .int 1])) (Py.gName 1))
    (sSeq (sFor (iSeq (mFrz (mVar 0))) (Py.gName 2) l1_fewest_tosses_k44)
    (sRet (mVar 1))))
noncomputable def d_fewest_tosses_k44 : Den := mkDen 3 b_fewest_tosses_k44

noncomputable def l1_law_mean_k44 : SM :=
    (sFgt [6] (sSeq (sAsg (mOp fAdd (mOp fMul (mC (.int 2)) (mVar 4)) (mOp fIx (mVar 2) (mVar 6))) (Py.gName 4))
    (sAsg (mOp fMul (mC (.int 2)) (mVar 5)) (Py.gName 5))))
noncomputable def l2_law_mean_k44 : SM :=
    (sFgt [6] (sSeq (sAsg (mOp fAdd (mOp fMul (mC (.int 2)) (mVar 7)) (mOp fIx (mVar 2) (mVar 6))) (Py.gName 7))
    (sAsg (mOp fMul (mC (.int 2)) (mVar 8)) (Py.gName 8))))
noncomputable def b_law_mean_k44 : SM :=
    (sSeq (sAsg (mCall d_law_rests [.v (mVar 0), .v (mVar 1)]) (Py.gTup [2, 3]))
    (sSeq (sAsg (mC (.int 0)) (Py.gName 4))
    (sSeq (sAsg (mC (.int 1)) (Py.gName 5))
    (sSeq (sFor (Py.iRng1 (mVar 3)) (Py.gName 6) l1_law_mean_k44)
    (sSeq (sAsg (mC (.int 0)) (Py.gName 7))
    (sSeq (sAsg (mC (.int 1)) (Py.gName 8))
    (sSeq (sFor (Py.iRng2 (mVar 3) (mUn fLen (mVar 2))) (Py.gName 6) l2_law_mean_k44)
    (sRet (mTup (lCons (mOp fMul (mC (.int 2)) (mOp fAdd (mOp fMul (mVar 4) (mOp fSub (mVar 8) (mC (.int 1)))) (mVar 7))) (lCons (mOp fMul (mOp fMul (mVar 1) (mVar 5)) (mOp fSub (mVar 8) (mC (.int 1)))) lNil)))))))))))
noncomputable def d_law_mean_k44 : Den := mkDen 9 b_law_mean_k44

noncomputable def l1_law_is_sum : SM :=
    (sFgt [2] (sIf (mOr (mNot (mTru (mUn (fIsi .int) (mVar 2)))) (mTru (mUn (fIsi .bool) (mVar 2)))) (sRet (mC (.bool false))) sNext))
noncomputable def l2_law_is_sum : SM :=
    (sFgt [5, 6] (sIf (mB (mOp fEq (mVar 6) (mVar 4))) (sAsg (mOp fAdd (mVar 3) (mVar 5)) (Py.gName 3)) (sSeq (sAsg (mOp fAdd (mOp fMul (mVar 3) (mVar 6)) (mOp fMul (mVar 5) (mVar 4))) (Py.gName 3))
    (sAsg (mOp fMul (mVar 4) (mVar 6)) (Py.gName 4)))))
noncomputable def b_law_is_sum : SM :=
    (sSeq (sIf (mOr (mNot (mTru (mUn (fIsi .tuple) (mVar 0)))) (mB (mOp fNe (mUn fLen (mVar 0)) (mC (.int 2))))) (sRet (mC (.bool false))) sNext)
    (sSeq (sFor (iSeq (mFrz (mVar 0))) (Py.gName 2) l1_law_is_sum)
    (sSeq (sAsg (mC (.int 0)) (Py.gName 3))
    (sSeq (sAsg (mC (.int 1)) (Py.gName 4))
    (sSeq (sFor (iSeq (mFrz (mVar 1))) (Py.gTup [5, 6]) l2_law_is_sum)
    (sRet (mAndV (mOp fGt (mOp fIx (mVar 0) (mC (.int 1))) (mC (.int 0))) (mAndV (mOp fEq (mOp fMul (mOp fIx (mVar 0) (mC (.int 0))) (mVar 4)) (mOp fMul (mVar 3) (mOp fIx (mVar 0) (mC (.int 1))))) (mOp fEq (mCall d_law_common [.v (mOp fIx (mVar 0) (mC (.int 0))), .v (mOp fIx (mVar 0) (mC (.int 1)))]) (mC (.int 1)))))))))))
noncomputable def d_law_is_sum : Den := mkDen 7 b_law_is_sum

noncomputable def l1_law_right_k44_2 : SM :=
    (sFgt [2, 3] (sIf (mB (mOp fLt (mVar 2) (mVar 3))) (sExpr (mAppend 1 (mCall d_law_mean_k44 [.v (mVar 2), .v (mVar 3)]))) sNext))
noncomputable def b_law_right_k44_2 : SM :=
    (sSeq (sAsg (mLst lNil) (Py.gName 1))
    (sSeq (sFor (iSeq (mFrz (mVar 0))) (Py.gTup [2, 3]) l1_law_right_k44_2)
    (sRet (mCall d_law_is_sum [.v (mCall d_fewest_tosses_k44 [.v (mVar 0)]), .v (mVar 1)]))))
noncomputable def d_law_right_k44_2 : Den := mkDen 4 b_law_right_k44_2

noncomputable def e1_stops : M :=
    (mVar 3)
noncomputable def t2_stops : MT :=
    (mB (mOp fEq (mOp fIx (mVar 0) (mVar 3)) (mC (.tuple [.int 1, .int 1]))))
noncomputable def e3_stops : M :=
    (mVar 3)
noncomputable def t4_stops : MT :=
    (mB (mOp fNe (mOp fIx (mVar 0) (mVar 3)) (mC (.tuple [.int 1, .int 1]))))
noncomputable def e5_stops : M :=
    (mVar 3)
noncomputable def t6_stops : MT :=
    (mB (mOp fEq (mCall d_digit [.v (mOp fIx (mVar 0) (mVar 3)), .v (mVar 1)]) (mC (.int 1))))
noncomputable def b_stops : SM :=
    (sSeq (sIf (mB (mOp fEq (mVar 1) (mC (.int 0)))) (sRet (mLc (Py.iRng1 (mUn fLen (mVar 0))) (Py.gName 3) [3] t2_stops e1_stops)) sNext)
    (sSeq (sAsg (mLc (Py.iRng1 (mUn fLen (mVar 0))) (Py.gName 3) [3] t4_stops e3_stops) (Py.gName 2))
    (sRet (mLc (iSeq (mFrz (mVar 2))) (Py.gName 3) [3] t6_stops e5_stops))))
noncomputable def d_stops : Den := mkDen 4 b_stops

noncomputable def l1_toss : SM :=
    (sFgt [3, 4] (sSeq (sAsg (mIfE (mB (mOp fEq (mVar 3) (mC (.int 0)))) (mVar 2) (mOp fAdd (mOp fMul (mC (.int 2)) (mVar 2)) (mOp fIx (mVar 1) (mOp fSub (mVar 3) (mC (.int 1)))))) (Py.gName 2))
    (sSeq (sAsg (mCall d_stops [.v (mVar 0), .v (mVar 3)]) (Py.gName 4))
    (sSeq (sIf (mB (mOp fLt (mVar 2) (mUn fLen (mVar 4)))) (sRet (mTup (lCons (mOp fIx (mVar 4) (mVar 2)) (lCons (mVar 3) lNil)))) sNext)
    (sAug 2 fSub (mUn fLen (mVar 4)))))))
noncomputable def b_toss : SM :=
    (sSeq (sAsg (mC (.int 0)) (Py.gName 2))
    (sSeq (sFgt [2] (sFor (Py.iRng1 (mOp fAdd (mUn fLen (mVar 1)) (mC (.int 1)))) (Py.gName 3) l1_toss))
    (sRet (mC .none))))
noncomputable def d_toss : Den := mkDen 5 b_toss

noncomputable def l1_power_of_two : SM :=
    (sFgt [2] (sAug 1 fMulI (mC (.int 2))))
noncomputable def b_power_of_two : SM :=
    (sSeq (sAsg (mC (.int 1)) (Py.gName 1))
    (sSeq (sFor (Py.iRng1 (mVar 0)) (Py.gName 2) l1_power_of_two)
    (sRet (mVar 1))))
noncomputable def d_power_of_two : Den := mkDen 3 b_power_of_two

noncomputable def l1_still_going : SM :=
    (sFgt [3] (sAsg (mOp fSub (mOp fMul (mC (.int 2)) (mVar 2)) (mUn fLen (mCall d_stops [.v (mVar 0), .v (mVar 3)]))) (Py.gName 2)))
noncomputable def b_still_going : SM :=
    (sSeq (sAsg (mOp fSub (mC (.int 1)) (mUn fLen (mCall d_stops [.v (mVar 0), .v (mC (.int 0))]))) (Py.gName 2))
    (sSeq (sFor (Py.iRng2 (mC (.int 1)) (mOp fAdd (mVar 1) (mC (.int 1)))) (Py.gName 3) l1_still_going)
    (sRet (mVar 2))))
noncomputable def d_still_going : Den := mkDen 4 b_still_going

noncomputable def b_chance_within : SM :=
    (sSeq (sAsg (mOp fIx (mVar 0) (mVar 1)) (Py.gTup [3, 4]))
    (sSeq (sAsg (mCall d_power_of_two [.v (mVar 2)]) (Py.gName 5))
    (sRet (mCall d_fraction [.v (mOp fDiv (mOp fMul (mVar 3) (mVar 5)) (mVar 4)), .v (mVar 5)]))))
noncomputable def d_chance_within : Den := mkDen 6 b_chance_within

noncomputable def l1_law_power : SM :=
    (sFgt [2] (sAsg (mOp fMul (mC (.int 2)) (mVar 1)) (Py.gName 1)))
noncomputable def b_law_power : SM :=
    (sSeq (sAsg (mC (.int 1)) (Py.gName 1))
    (sSeq (sFor (Py.iRng1 (mVar 0)) (Py.gName 2) l1_law_power)
    (sRet (mVar 1))))
noncomputable def d_law_power : Den := mkDen 3 b_law_power

noncomputable def l1_law_rows_k47 : SM :=
    (sFgt [4] (sSeq (sExpr (mAppend 3 (mOp fAdd (mVar 4) (mTup (lCons (mC (.int 0)) lNil)))))
    (sExpr (mAppend 3 (mOp fAdd (mVar 4) (mTup (lCons (mC (.int 1)) lNil)))))))
noncomputable def l2_law_rows_k47 : SM :=
    (sFgt [2, 3, 4] (sSeq (sAsg (mLst lNil) (Py.gName 3))
    (sSeq (sFor (iSeq (mFrz (mVar 1))) (Py.gName 4) l1_law_rows_k47)
    (sAsg (mVar 3) (Py.gName 1)))))
noncomputable def b_law_rows_k47 : SM :=
    (sSeq (sAsg (mLst (lCons (mTup lNil) lNil)) (Py.gName 1))
    (sSeq (sFor (Py.iRng1 (mVar 0)) (Py.gName 2) l2_law_rows_k47)
    (sRet (mVar 1))))
noncomputable def d_law_rows_k47 : Den := mkDen 5 b_law_rows_k47

noncomputable def l1_law_is_stop : SM :=
    (sFgt [3] (sIf (mOr (mNot (mTru (mUn (fIsi .int) (mVar 3)))) (mTru (mUn (fIsi .bool) (mVar 3)))) (sRet (mC (.bool false))) sNext))
noncomputable def b_law_is_stop : SM :=
    (sSeq (sIf (mOr (mNot (mTru (mUn (fIsi .tuple) (mVar 2)))) (mB (mOp fNe (mUn fLen (mVar 2)) (mC (.int 2))))) (sRet (mC (.bool false))) sNext)
    (sSeq (sFor (iSeq (mFrz (mVar 2))) (Py.gName 3) l1_law_is_stop)
    (sSeq (sAsg (mVar 2) (Py.gTup [4, 5]))
    (sSeq (sIf (mOr (mNot (mB (mChain fLe fLt (mC (.int 0)) (mVar 4) (mUn fLen (mVar 0))))) (mNot (mB (mChain fLe fLe (mC (.int 0)) (mVar 5) (mUn fLen (mVar 1)))))) (sRet (mC (.bool false))) sNext)
    (sSeq (sIf (mNot (mTru (mCall (d_law_same 40) [.v (mCall d_toss [.v (mVar 0), .v (mSl (mVar 1) oNone (oSome (mVar 5)))]), .v (mTup (lCons (mVar 4) (lCons (mVar 5) lNil)))]))) (sRet (mC (.bool false))) sNext)
    (sRet (mOrV (mOp fEq (mVar 5) (mC (.int 0))) (mOp (fIs false) (mCall d_toss [.v (mVar 0), .v (mSl (mVar 1) oNone (oSome (mOp fSub (mVar 5) (mC (.int 1)))))]) (mC .none)))))))))
noncomputable def d_law_is_stop : Den := mkDen 6 b_law_is_stop

noncomputable def l1_law_counts_are_right : SM :=
    (sFgt [4, 5, 6, 7] (sSeq (sAsg (mOp fIx (mVar 0) (mVar 4)) (Py.gTup [5, 6]))
    (sSeq (sAsg (mOp fSub (mOp fMul (mVar 5) (mVar 2)) (mOp fMul (mOp fIx (mVar 1) (mVar 4)) (mVar 6))) (Py.gName 7))
    (sSeq (sIf (mOr (mB (mOp fLt (mVar 7) (mC (.int 0)))) (mB (mOp fGe (mVar 7) (mVar 6)))) (sRet (mC (.bool false))) sNext)
    (sIf (mNot (mTru (mCall (d_law_same 40) [.v (mCall d_chance_within [.v (mVar 0), .v (mVar 4), .v (mVar 3)]), .v (mCall d_law_fraction [.v (mOp fIx (mVar 1) (mVar 4)), .v (mVar 2)])]))) (sRet (mC (.bool false))) sNext)))))
noncomputable def b_law_counts_are_right : SM :=
    (sSeq (sFor (Py.iRng1 (mUn fLen (mVar 0))) (Py.gName 4) l1_law_counts_are_right)
    (sRet (mCall (d_law_same 40) [.v (mCall d_still_going [.v (mVar 0), .v (mVar 3)]), .v (mOp fSub (mVar 2) (mUn fSum (mVar 1)))])))
noncomputable def d_law_counts_are_right : Den := mkDen 8 b_law_counts_are_right

noncomputable def e1_law_right_k47_2 : M :=
    (mC (.int 0))
noncomputable def l2_law_right_k47_2 : SM :=
    (sFgt [4, 9] (sSeq (sAsg (mCall d_toss [.v (mVar 0), .v (mVar 4)]) (Py.gName 9))
    (sIf (mB (mOp (fIs false) (mVar 9) (mC .none))) (sAsg (mOp fAdd (mVar 3) (mVar 1)) (Py.gName 3)) (sIf (mNot (mTru (mCall d_law_is_stop [.v (mVar 0), .v (mVar 4), .v (mVar 9)]))) (sRet (mC (.bool false))) (sSeq (sSetIx 2 (mOp fIx (mVar 9) (mC (.int 0))) (mOp fAdd (mOp fIx (mVar 2) (mOp fIx (mVar 9) (mC (.int 0)))) (mC (.int 1))))
    (sAsg (mOp fAdd (mVar 3) (mOp fIx (mVar 9) (mC (.int 1)))) (Py.gName 3)))))))
noncomputable def l3_law_right_k47_2 : SM :=
    (sFgt [8, 10, 11, 12] (sSeq (sAsg (mOp fIx (mVar 0) (mVar 8)) (Py.gTup [10, 11]))
    (sIf (mB (mOp fLt (mVar 10) (mVar 11))) (sSeq (sAsg (mCall d_law_mean_k44 [.v (mOp fMod (mUn fInt (mOp fMul (mVar 10) (mVar 5))) (mVar 11)), .v (mVar 11)]) (Py.gName 12))
    (sExpr (mAppend 7 (mTup (lCons (mOp fIx (mVar 12) (mC (.int 0))) (lCons (mOp fMul (mOp fIx (mVar 12) (mC (.int 1))) (mVar 5)) lNil)))))) sNext)))
noncomputable def b_law_right_k47_2 : SM :=
    (sSeq (sAsg (mLc (iSeq (mFrz (mVar 0))) (Py.gName 13) [13] tYes e1_law_right_k47_2) (Py.gName 2))
    (sSeq (sAsg (mC (.int 0)) (Py.gName 3))
    (sSeq (sFor (iSeq (mCall d_law_rows_k47 [.v (mVar 1)])) (Py.gName 4) l2_law_right_k47_2)
    (sSeq (sAsg (mUn fLen (mCall d_law_rows_k47 [.v (mVar 1)])) (Py.gName 5))
    (sSeq (sIf (mNot (mTru (mCall d_law_counts_are_right [.v (mVar 0), .v (mVar 2), .v (mVar 5), .v (mVar 1)]))) (sRet (mC (.bool false))) sNext)
    (sSeq (sAsg (mCall d_fewest_tosses_k44 [.v (mVar 0)]) (Py.gName 6))
    (sSeq (sAsg (mLst (lCons (mTup (lCons (mVar 3) (lCons (mVar 5) lNil))) lNil)) (Py.gName 7))
    (sSeq (sFor (Py.iRng1 (mUn fLen (mVar 0))) (Py.gName 8) l3_law_right_k47_2)
    (sRet (mAndV (mCall d_law_is_sum [.v (mVar 6), .v (mVar 7)]) (mOp fGe (mOp fMul (mOp fIx (mVar 6) (mC (.int 0))) (mVar 5)) (mOp fMul (mVar 3) (mOp fIx (mVar 6) (mC (.int 1)))))))))))))))
noncomputable def d_law_right_k47_2 : Den := mkDen 14 b_law_right_k47_2

noncomputable def b_law_k47_2 : SM :=
    (sSeq (sAsg (mCall d_law_draws [.v (mVar 0), .v (mC (.int 60))]) (Py.gName 1))
    (sSeq (sAsg (mOp fAdd (mC (.int 1)) (mCall d_law_take [.r 1, .v (mOp fIx (mLst (lCons (mC (.int 3)) (lCons (mC (.int 4)) (lCons (mC (.int 10)) lNil)))) (mCall d_law_take [.r 1, .v (mC (.int 3))]))])) (Py.gName 2))
    (sSeq (sAsg (mCall d_law_chances_2 [.r 1, .v (mCall d_law_denominator [.r 1]), .v (mVar 2)]) (Py.gName 3))
    (sSeq (sAsg (mCall d_law_take [.r 1, .v (mOp fSub (mC (.int 7)) (mOp fMul (mC (.int 2)) (mUn fInt (mOp fGt (mVar 2) (mC (.int 4))))))]) (Py.gName 4))
    (sSeq (sIf (mNot (mTru (mCall d_law_right_k47_2 [.v (mVar 3), .v (mVar 4)]))) (sRet (mC (.bool false))) sNext)
    (sRet (mAndV (mCall d_law_right_k47_2 [.v (mTup (lCons (mTup (lCons (mC (.int 1)) (lCons (mC (.int 3)) lNil))) (lCons (mTup (lCons (mC (.int 0)) (lCons (mC (.int 1)) lNil))) (lCons (mTup (lCons (mC (.int 2)) (lCons (mC (.int 3)) lNil))) lNil)))), .v (mC (.int 3))]) (mCall d_law_right_k47_2 [.v (mTup (lCons (mTup (lCons (mC (.int 1)) (lCons (mC (.int 1)) lNil))) lNil)), .v (mC (.int 1))]))))))))
noncomputable def d_law_k47_2 : Den := mkDen 5 b_law_k47_2

noncomputable def l1_law_ends : SM :=
    (sFgt [4, 5, 6] (sSeq (sAsg (mCall d_law_take [.r 0, .v (mUn fLen (mVar 3))]) (Py.gName 5))
    (sSeq (sIf (mB (mOp fEq (mCall d_law_take [.r 0, .v (mC (.int 3))]) (mC (.int 0)))) (sAsg (mOp fSub (mUn fLen (mVar 3)) (mC (.int 1))) (Py.gName 5)) sNext)
    (sIf (mB (mOp fLt (mOp fIx (mVar 3) (mVar 5)) (mVar 2))) (sSeq (sAsg (mOp fAdd (mPopAt 3 (mVar 5)) (mC (.int 1))) (Py.gName 6))
    (sAsg (mOp fAdd (mVar 3) (mLst (lCons (mVar 6) (lCons (mVar 6) lNil)))) (Py.gName 3))) sNext))))
noncomputable def b_law_ends : SM :=
    (sSeq (sAsg (mLst (lCons (mC (.int 0)) lNil)) (Py.gName 3))
    (sSeq (sFor (Py.iRng1 (mVar 1)) (Py.gName 4) l1_law_ends)
    (sRet (mVar 3))))
noncomputable def d_law_ends : Den := mkDen 7 b_law_ends

noncomputable def e1_law_parts_k48 : M :=
    (mC (.int 0))
noncomputable def l2_law_parts_k48 : SM :=
    (sFgt [5, 6] (sSeq (sAsg (mCall d_law_take [.r 0, .v (mVar 2)]) (Py.gName 6))
    (sSeq (sIf (mAnd (mB (mOp fGt (mVar 5) (mC (.int 0)))) (mB (mOp fLt (mCall d_law_take [.r 0, .v (mC (.int 4))]) (mVar 3)))) (sAsg (mVar 2) (Py.gName 6)) sNext)
    (sSetIx 4 (mVar 6) (mOp fAdd (mOp fIx (mVar 4) (mVar 6)) (mOp fDiv (mC (.int 1024)) (mOp fIx (mLst (lCons (mC (.int 1)) (lCons (mC (.int 2)) (lCons (mC (.int 4)) (lCons (mC (.int 8)) (lCons (mC (.int 16)) (lCons (mC (.int 32)) (lCons (mC (.int 64)) (lCons (mC (.int 128)) (lCons (mC (.int 256)) (lCons (mC (.int 512)) (lCons (mC (.int 1024)) lNil)))))))))))) (mOp fIx (mVar 1) (mVar 5)))))))))
noncomputable def b_law_parts_k48 : SM :=
    (sSeq (sAsg (mLc (Py.iRng1 (mOp fAdd (mVar 2) (mC (.int 1)))) (Py.gName 5) [5] tYes e1_law_parts_k48) (Py.gName 4))
    (sSeq (sFor (Py.iRng1 (mUn fLen (mVar 1))) (Py.gName 5) l2_law_parts_k48)
    (sRet (mVar 4))))
noncomputable def d_law_parts_k48 : Den := mkDen 7 b_law_parts_k48

noncomputable def l1_law_mean_of : SM :=
    (sFgt [3] (sAsg (mOp fAdd (mVar 2) (mOp fMul (mVar 3) (mOp fDiv (mC (.int 1024)) (mOp fIx (mLst (lCons (mC (.int 1)) (lCons (mC (.int 2)) (lCons (mC (.int 4)) (lCons (mC (.int 8)) (lCons (mC (.int 16)) (lCons (mC (.int 32)) (lCons (mC (.int 64)) (lCons (mC (.int 128)) (lCons (mC (.int 256)) (lCons (mC (.int 512)) (lCons (mC (.int 1024)) lNil)))))))))))) (mVar 3))))) (Py.gName 2)))
noncomputable def b_law_mean_of : SM :=
    (sSeq (sAsg (mC (.int 0)) (Py.gName 2))
    (sSeq (sFor (iSeq (mFrz (mVar 0))) (Py.gName 3) l1_law_mean_of)
    (sRet (mTup (lCons (mVar 2) (lCons (mUn fSum (mSl (mVar 1) oNone (oSome (mUn fNeg (mC (.int 1)))))) lNil))))))
noncomputable def d_law_mean_of : Den := mkDen 4 b_law_mean_of

noncomputable def l1_law_least_ends : SM :=
    (sFgt [3, 4] (sSeq (sAsg (mOp fDiv (mC (.int 1024)) (mOp fIx (mLst (lCons (mC (.int 1)) (lCons (mC (.int 2)) (lCons (mC (.int 4)) (lCons (mC (.int 8)) (lCons (mC (.int 16)) (lCons (mC (.int 32)) (lCons (mC (.int 64)) (lCons (mC (.int 128)) (lCons (mC (.int 256)) (lCons (mC (.int 512)) (lCons (mC (.int 1024)) lNil)))))))))))) (mVar 3))) (Py.gName 4))
    (sIf (mB (mOp fGe (mVar 2) (mVar 4))) (sSeq (sExpr (mAppend 1 (mVar 3)))
    (sAsg (mOp fSub (mVar 2) (mVar 4)) (Py.gName 2))) sNext)))
noncomputable def l2_law_least_ends : SM :=
    (sFgt [2, 3, 4] (sFgt [2] (sFor (Py.iRng1 (mC (.int 11))) (Py.gName 3) l1_law_least_ends)))
noncomputable def b_law_least_ends : SM :=
    (sSeq (sAsg (mLst lNil) (Py.gName 1))
    (sSeq (sFor (iSeq (mFrz (mVar 0))) (Py.gName 2) l2_law_least_ends)
    (sRet (mVar 1))))
noncomputable def d_law_least_ends : Den := mkDen 5 b_law_least_ends

noncomputable def l1_timid_k55 : SM :=
    (sFgt [6] (sAug 5 fMulI (mVar 3)))
noncomputable def l2_timid_k55 : SM :=
    (sFgt [6] (sSeq (sAug 8 fIAdd (mVar 5))
    (sSeq (sAug 7 fIAdd (mIfE (mB (mOp fLt (mVar 6) (mVar 2))) (mVar 5) (mC (.int 0))))
    (sAsg (mOp fDiv (mOp fMul (mVar 5) (mVar 4)) (mVar 3)) (Py.gName 5)))))
noncomputable def b_timid_k55 : SM :=
    (sSeq (sIf (mOr (mB (mOp fEq (mVar 0) (mC (.tuple [.int 0, .int 1])))) (mB (mOp (fIn false) (mVar 2) (mTup (lCons (mC (.int 0)) (lCons (mVar 1) lNil)))))) (sRet (mIfE (mB (mOp fEq (mVar 2) (mVar 1))) (mC (.tuple [.int 1, .int 1])) (mC (.tuple [.int 0, .int 1])))) sNext)
    (sSeq (sPar 3 4 (mOp fIx (mVar 0) (mC (.int 0))) (mOp fSub (mOp fIx (mVar 0) (mC (.int 1))) (mOp fIx (mVar 0) (mC (.int 0)))))
    (sSeq (sAsg (mC (.int 1)) (Py.gName 5))
    (sSeq (sFor (Py.iRng1 (mOp fSub (mVar 1) (mC (.int 1)))) (Py.gName 6) l1_timid_k55)
    (sSeq (sAsg (mTup (lCons (mC (.int 0)) (lCons (mC (.int 0)) lNil))) (Py.gTup [7, 8]))
    (sSeq (sFgt [5] (sFor (Py.iRng1 (mVar 1)) (Py.gName 6) l2_timid_k55))
    (sRet (mCall d_fraction [.v (mVar 7), .v (mVar 8)]))))))))
noncomputable def d_timid_k55 : Den := mkDen 9 b_timid_k55

noncomputable def l1_law_powers : SM :=
    (sFgt [3] (sExpr (mAppend 2 (mOp fMul (mOp fIx (mVar 2) (mUn fNeg (mC (.int 1)))) (mVar 0)))))
noncomputable def b_law_powers : SM :=
    (sSeq (sAsg (mLst (lCons (mC (.int 1)) lNil)) (Py.gName 2))
    (sSeq (sFor (Py.iRng1 (mVar 1)) (Py.gName 3) l1_law_powers)
    (sRet (mVar 2))))
noncomputable def d_law_powers : Den := mkDen 4 b_law_powers

noncomputable def b_law_timid : SM :=
    (sSeq (sAsg (mOp fIx (mVar 0) (mC (.int 0))) (Py.gName 5))
    (sSeq (sAsg (mOp fSub (mOp fIx (mVar 0) (mC (.int 1))) (mOp fIx (mVar 0) (mC (.int 0)))) (Py.gName 6))
    (sSeq (sIf (mB (mOp fEq (mVar 5) (mVar 6))) (sRet (mCall d_law_fraction [.v (mVar 2), .v (mVar 1)])) sNext)
    (sSeq (sAsg (mCall d_law_common [.v (mVar 2), .v (mVar 1)]) (Py.gName 7))
    (sSeq (sAsg (mOp fSub (mOp fIx (mVar 3) (mVar 7)) (mOp fIx (mVar 4) (mVar 7))) (Py.gName 8))
    (sSeq (sAsg (mOp fMul (mOp fIx (mVar 3) (mOp fSub (mVar 1) (mVar 2))) (mOp fDiv (mOp fSub (mOp fIx (mVar 3) (mVar 2)) (mOp fIx (mVar 4) (mVar 2))) (mVar 8))) (Py.gName 9))
    (sRet (mTup (lCons (mVar 9) (lCons (mOp fDiv (mOp fSub (mOp fIx (mVar 3) (mVar 1)) (mOp fIx (mVar 4) (mVar 1))) (mVar 8)) lNil))))))))))
noncomputable def d_law_timid : Den := mkDen 10 b_law_timid

noncomputable def b_bold_next : SM :=
    (sSeq (sAsg (mOp fMin2 (mVar 1) (mOp fSub (mVar 0) (mVar 1))) (Py.gName 2))
    (sRet (mTup (lCons (mOp fAdd (mVar 1) (mVar 2)) (lCons (mOp fSub (mVar 1) (mVar 2)) lNil)))))
noncomputable def d_bold_next : Den := mkDen 3 b_bold_next

noncomputable def b_with_turns : SM :=
    (sSeq (sPar 3 4 (mCall d_fraction [.v (mOp fIx (mVar 2) (mC (.int 0))), .v (mOp fIx (mVar 2) (mC (.int 2)))]) (mCall d_fraction [.v (mOp fIx (mVar 2) (mC (.int 1))), .v (mOp fIx (mVar 2) (mC (.int 2)))]))
    (sRet (mCall d_plus [.v (mVar 3), .v (mCall d_divided [.v (mCall d_minus [.v (mVar 0), .v (mVar 3)]), .v (mCall d_minus [.v (mC (.tuple [.int 1, .int 1])), .v (mCall d_divided [.v (mVar 1), .v (mVar 4)])])])])))
noncomputable def d_with_turns : Den := mkDen 5 b_with_turns

noncomputable def l1_bold : SM :=
    (sFgt [8, 9] (sSeq (Py.sDput 3 (mVar 7) (mTup (lCons (mVar 4) (lCons (mVar 5) (lCons (mVar 6) lNil)))))
    (sSeq (sAsg (mCall d_bold_next [.v (mVar 1), .v (mVar 7)]) (Py.gTup [8, 9]))
    (sSeq (sPar 4 6 (mOp fMul (mVar 4) (mOp fIx (mVar 0) (mC (.int 1)))) (mOp fMul (mVar 6) (mOp fIx (mVar 0) (mC (.int 1)))))
    (sIf (mB (mOp fEq (mVar 8) (mVar 1))) (sSeq (sAug 4 fIAdd (mOp fMul (mVar 5) (mOp fIx (mVar 0) (mC (.int 0)))))
    (sPar 7 5 (mVar 9) (mOp fMul (mVar 5) (mOp fSub (mOp fIx (mVar 0) (mC (.int 1))) (mOp fIx (mVar 0) (mC (.int 0))))))) (sPar 7 5 (mVar 8) (mOp fMul (mVar 5) (mOp fIx (mVar 0) (mC (.int 0))))))))))
noncomputable def t2_bold : MT :=
    (mAnd (mB (mOp (fDin true) (mVar 7) (mVar 3))) (mB (mOp (fIn true) (mVar 7) (mTup (lCons (mC (.int 0)) (lCons (mVar 1) lNil))))))
noncomputable def b_bold : SM :=
    (sSeq (sIf (mOr (mB (mOp (fIn false) (mVar 2) (mTup (lCons (mC (.int 0)) (lCons (mVar 1) lNil))))) (mB (mOp fEq (mVar 0) (mC (.tuple [.int 1, .int 1]))))) (sRet (mIfE (mB (mOp fEq (mVar 2) (mC (.int 0)))) (mC (.tuple [.int 0, .int 1])) (mC (.tuple [.int 1, .int 1])))) sNext)
    (sSeq (sAsg mDct0 (Py.gName 3))
    (sSeq (sAsg (mTup (lCons (mC (.int 0)) (lCons (mC (.int 1)) (lCons (mC (.int 1)) lNil)))) (Py.gTup [4, 5, 6]))
    (sSeq (sAsg (mVar 2) (Py.gName 7))
    (sSeq (sWhile t2_bold l1_bold)
    (sSeq (sIf (mOr (mB (mOp (fIn false) (mVar 7) (mTup (lCons (mC (.int 0)) (lCons (mVar 1) lNil))))) (mB (mOp fEq (mVar 5) (mC (.int 0))))) (sRet (mCall d_fraction [.v (mOp fAdd (mVar 4) (mIfE (mB (mOp fEq (mVar 7) (mVar 1))) (mVar 5) (mC (.int 0)))), .v (mVar 6)])) sNext)
    (sRet (mCall d_with_turns [.v (mCall d_fraction [.v (mVar 4), .v (mVar 6)]), .v (mCall d_fraction [.v (mVar 5), .v (mVar 6)]), .v (mOp fDget (mVar 3) (mVar 7))]))))))))
noncomputable def d_bold : Den := mkDen 10 b_bold

noncomputable def l1_law_path : SM :=
    (sFgt [3, 4, 5] (sSeq (sAsg (mOp fIx (mVar 2) (mUn fNeg (mC (.int 1)))) (Py.gName 4))
    (sSeq (sIf (mOr (mB (mOp fEq (mVar 4) (mC (.int 0)))) (mB (mOp fEq (mVar 4) (mVar 0)))) (sRet (mTup (lCons (mVar 2) (lCons (mC .none) lNil)))) sNext)
    (sSeq (sAsg (mOp fMul (mC (.int 2)) (mVar 4)) (Py.gName 5))
    (sSeq (sIf (mB (mOp fGe (mVar 5) (mVar 0))) (sAsg (mOp fSub (mOp fMul (mC (.int 2)) (mVar 4)) (mVar 0)) (Py.gName 5)) sNext)
    (sSeq (sIf (mB (mOp (fIn false) (mVar 5) (mVar 2))) (sRet (mTup (lCons (mOp fAdd (mVar 2) (mLst (lCons (mVar 5) lNil))) (lCons (mIndex (mVar 2) (mVar 5)) lNil)))) sNext)
    (sExpr (mAppend 2 (mVar 5)))))))))
noncomputable def b_law_path : SM :=
    (sSeq (sAsg (mLst (lCons (mVar 1) lNil)) (Py.gName 2))
    (sSeq (sFor (Py.iRng1 (mOp fAdd (mVar 0) (mC (.int 1)))) (Py.gName 3) l1_law_path)
    (sRet (mTup (lCons (mVar 2) (lCons (mC .none) lNil))))))
noncomputable def d_law_path : Den := mkDen 6 b_law_path

end D
namespace Py
open PySem D
local macro_rules
  | `(tactic| walk_at "w") => `(tactic| with_reducible first
    | refine seq_nx ?_ | refine seq_rt ?_ | refine seq_bk ?_ | refine seq_ct ?_ | refine wp_seq ?_ | refine wp_asg ?_ | refine wp_next ?_ | refine wp_ret ?_ | refine wp_retN ?_ | refine wp_brk ?_ | refine wp_cont ?_ | refine wp_expr ?_ | refine wp_op ?_ | refine wp_un ?_ | refine wp_c ?_
    | refine unB ?_ | refine wp_truB ?_ | refine wp_and ?_ | refine wp_or ?_ | refine wp_not ?_ | refine wp_ifE ?_ | refine wp_tup ?_ | refine wp_lst ?_ | refine wp_lcons ?_ | refine wp_lnil ?_ | refine frzV ?_ | refine frzN ?_ | refine wp_frz ?_ | refine wp_sl ?_ | refine wp_onone ?_ | refine wp_osome ?_
    | refine wp_anil ?_ | refine wp_av ?_ | refine wp_andV ?_ | refine wp_orV ?_ | refine wp_notV ?_ | refine wp_fgtR ?_ | refine turn_nx ?_ | refine turn_rt ?_ | refine turn_bk ?_ | refine turn_ct ?_ | refine fgt_rt ?_ | refine wp_par ?_ | refine wp_chain ?_ | refine wp_seqI ?_)
local macro_rules
  | `(tactic| walk_at "put") => `(tactic| focus ((repeat apply PutR.s); exact PutR.z rfl))
local macro_rules
  | `(tactic| walk_at "set") => `(tactic| focus ((repeat apply SetR.s); first | exact SetR.o | exact SetR.r))
local macro_rules
  | `(tactic| walk_at "fgt") => `(tactic| focus (repeat first | exact FgtsR.nil | exact FgtR.k | exact FgtR.z rfl | apply FgtR.s | apply FgtsR.cons))
local macro_rules
  | `(tactic| walk_at "x") => `(tactic| first
    | ((with_reducible apply wp_varV); (focus exact rfl)) | ((with_reducible apply wp_varO); (focus exact rfl)) | ((with_reducible apply wp_varR); (focus exact rfl))
    | ((with_reducible apply opq); (focus exact rfl); (focus exact rfl); (focus (first | exact ev_eqI | exact ev_neI | exact ev_ltI | exact ev_leI | exact ev_gtI | exact ev_geI | exact rfl)))
    | ((with_reducible apply unq); (focus exact rfl); (focus exact rfl))
    | ((with_reducible first | apply putqV | apply putqN); walk_at "put")
    | ((with_reducible apply putq2); walk_at "put"; walk_at "put")
    | ((with_reducible apply parq); walk_at "put"; walk_at "put")
    | ((with_reducible apply wp_callR); (focus (repeat first | exact RefsR.nil | apply RefsR.v | apply RefsR.r)); (focus decide))
    | ((with_reducible apply wp_ar); (focus exact rfl))
    | ((with_reducible apply fin_rt); (focus exact rfl); (focus exact rfl))
    | ((with_reducible apply fin_nx); (focus exact rfl))
    | ((with_reducible apply wp_appendR); (focus exact rfl))
    | (with_reducible refine ⟨_, rfl, ?_⟩) | (with_reducible refine ⟨_, .inl rfl, ?_⟩) | (with_reducible refine ⟨_, .inr (.inl rfl), ?_⟩) | (with_reducible refine ⟨_, .inr (.inr rfl), ?_⟩)
    | (with_reducible apply callq0) | ((with_reducible apply frzB); (focus exact rfl); (focus exact rfl); walk_at "put")
    | ((with_reducible apply callq1); walk_at "set")
    | ((with_reducible apply callq2); walk_at "set"; walk_at "set")
    | ((with_reducible first | apply fgt_nx | apply fgt_bk | apply fgt_ct); walk_at "fgt")
    | ((with_reducible apply brT); (focus exact rfl)) | ((with_reducible apply brF); (focus exact rfl)))
local macro_rules
  | `(tactic| walk_at "r") => `(tactic| repeat first | walk_at "w" | walk_at "x")
local macro_rules
  | `(tactic| walk_at "ri") => `(tactic| repeat first | walk_at "w" | walk_at "x" | (with_reducible refine wp_if ?_))
local macro_rules
  | `(tactic| walk_at "app") => `(tactic| ((with_reducible apply appq); (focus exact rfl); (focus ((try simp only [List.length_map, List.length_nil, List.length_cons, List.length_append]); unfold line; omega)); walk_at "set"))
local macro_rules
  | `(tactic| walk_at "mul") => `(tactic| ((refine opq rfl rfl (ev_mul ?_) ?_); (focus (apply mulT <;> omega))))
local macro_rules
  | `(tactic| walk_at "rm") => `(tactic| repeat first | walk_at "w" | walk_at "x" | walk_at "mul")
local macro_rules
  | `(tactic| walk_at "len") => `(tactic| (refine And.intro ?_ ?_; (focus (simp [line]; done))))
def intsO (ns : List Int) : Ob := .lst (ns.map PyData.int)
theorem of_take {ds : List Int} {m : Int} (hm : 0 < m) {Q : R → List Ob → Prop} (k : ∀ x ds', 0 ≤ x → x < m → Q (.val (.int x)) [intsO ds']) : Ret d_law_take [.ref (intsO ds), .val (.int m)] Q := by
  refine ret_mkR (by repeat constructor) ?_
  unfold b_law_take
  walk_at "ri"
  refine branchD (fun h => ?_) fun h => ?_
  · walk_at "ri"
    exact k 0 ds (by omega) hm
  walk_at "ri"
  rcases List.eq_nil_or_concat ds with rfl | ⟨L, b, rfl⟩
  · exact absurd rfl h
  refine wp_popR (v := .int b) (xs := (L.concat b).map PyData.int) rfl (by simp) (SetR.r) ?_
  walk_at "ri"
  refine opq rfl rfl (ev_mod (by omega)) ?_
  walk_at "ri"
  have e : (List.map PyData.int (L.concat b)).dropLast = L.map PyData.int := by simp
  rw [e]
  exact k _ L (Int.fmod_nonneg_of_pos _ hm) (Int.fmod_lt_of_pos _ hm)
theorem of_divisor {a b : Int} {Q : R → List Ob → Prop} (k : Q (.val (.int (Int.gcd a b))) []) : Ret d_divisor [.val (.int a), .val (.int b)] Q := by
  refine ret_mkR (by repeat constructor) ?_
  unfold b_divisor
  walk_at "ri"
  exact k
/-- a pair as a value -/
def fr (p : Int × Int) : PV := .tuple [.int p.1, .int p.2]
/-- in lowest terms -/
def rat (n d : Int) : Int × Int := let c : Int := if d < 0 then -(Int.gcd n d : Int) else Int.gcd n d; (n.fdiv c, d.fdiv c)
theorem gcd_ne {n d : Int} (h : d ≠ 0) : (Int.gcd n d : Int) ≠ 0 := by
  intro e
  have : Int.gcd n d = 0 := by omega
  exact h (Int.gcd_eq_zero_iff.mp this).2
theorem of_fraction {n d : Int} (hd : d ≠ 0) {Q : R → List Ob → Prop} (k : Q (.val (fr (rat n d))) []) : Ret d_fraction [.val (.int n), .val (.int d)] Q := by
  have hg := gcd_ne (n := n) hd
  refine ret_mkR (by repeat constructor) ?_
  unfold b_fraction
  walk_at "ri"
  refine of_divisor ?_
  walk_at "ri"
  refine branchD (fun h => ?_) fun h => ?_
  · walk_at "ri"
    refine opq rfl rfl (ev_div (by omega)) ?_
    walk_at "ri"
    refine opq rfl rfl (ev_div (by omega)) ?_
    walk_at "ri"
    refine ⟨by simp [line], ?_⟩
    walk_at "ri"
    unfold rat at k
    rw [if_pos h] at k
    exact k
  · walk_at "ri"
    refine opq rfl rfl (ev_div (by omega)) ?_
    walk_at "ri"
    refine opq rfl rfl (ev_div (by omega)) ?_
    walk_at "ri"
    refine ⟨by simp [line], ?_⟩
    walk_at "ri"
    unfold rat at k
    rw [if_neg h] at k
    exact k
/-- within the line of a product -/
def Bd (n : Nat) (p : Int × Int) : Prop := p.1.natAbs < 2 ^ n ∧ p.2.natAbs < 2 ^ n
def okM (p q : Int × Int) : Prop := mulOk p.1 q.2 = true ∧ mulOk q.1 p.2 = true ∧ mulOk p.2 q.2 = true ∧ mulOk p.1 q.1 = true
def plusV (p q : Int × Int) : Int × Int := rat (p.1 * q.2 + q.1 * p.2) (p.2 * q.2)
def minusV (p q : Int × Int) : Int × Int := rat (p.1 * q.2 - q.1 * p.2) (p.2 * q.2)
def timesV (p q : Int × Int) : Int × Int := rat (p.1 * q.1) (p.2 * q.2)
def lessV (p q : Int × Int) : Bool := decide (p.1 * q.2 < q.1 * p.2)
local macro_rules
  | `(tactic| walk_at "m") => `(tactic| ((refine opq rfl rfl (ev_mul ?_) ?_); focus assumption))
local macro_rules
  | `(tactic| walk_at "q") => `(tactic| repeat first | walk_at "w" | walk_at "x" | walk_at "m")
section
variable {p q : Int × Int} {Q : R → List Ob → Prop}
theorem of_plus (hp : p.2 ≠ 0) (hq : q.2 ≠ 0) (h : okM p q) (k : Q (.val (fr (plusV p q))) []) : Ret d_plus [.val (fr p), .val (fr q)] Q := by
  obtain ⟨h1, h2, h3, h4⟩ := h
  refine ret_mkR (by repeat constructor) ?_
  unfold b_plus
  walk_at "q"
  refine of_fraction (Int.mul_ne_zero hp hq) ?_
  walk_at "ri"
  exact k
end
/-! alike -/
inductive Plain : Nat → PV → Prop
  | none {n : Nat} : Plain (n + 1) .none
  | bool {n : Nat} {b : Bool} : Plain (n + 1) (.bool b)
  | int {n : Nat} {i : Int} : Plain (n + 1) (.int i)
  | str {n : Nat} {s : Str} : Plain (n + 1) (.str s)
  | tuple {n : Nat} {xs : List PV} (hl : xs.length ≤ line) (h : ∀ x, x ∈ xs → Plain n x) : Plain (n + 1) (.tuple xs)
theorem of_same {n : Nat} {v : PV} (hp : Plain n v) : ∀ {Q : R → List Ob → Prop} (k : Q (.val (.bool true)) []), Ret (d_law_same n) [.val v, .val v] Q := by
  induction hp with
  | none =>
    intro Q k
    unfold d_law_same
    refine ret_mkR (by repeat constructor) ?_
    unfold b_law_same
    walk_at "ri"
    exact k
  | @bool n b =>
    intro Q k
    unfold d_law_same
    refine ret_mkR (by repeat constructor) ?_
    unfold b_law_same
    walk_at "ri"
    have e : (false ^^ (b == b)) = true := by simp
    rw [e]
    exact k
  | @int n i =>
    intro Q k
    unfold d_law_same
    refine ret_mkR (by repeat constructor) ?_
    unfold b_law_same
    walk_at "ri"
    have e : decide (i = i) = true := by simp
    rw [e]
    exact k
  | @str n s =>
    intro Q k
    unfold d_law_same
    refine ret_mkR (by repeat constructor) ?_
    unfold b_law_same
    walk_at "ri"
    have e : (false ^^ decide (s = s)) = true := by simp
    rw [e]
    exact k
  | @tuple n xs hl h ih =>
    intro Q k
    unfold d_law_same
    refine ret_mkR (by repeat constructor) ?_
    unfold b_law_same
    walk_at "ri"
    refine brF (by simp) ?_
    walk_at "ri"
    refine wp_forN (fun k ρ => ρ = [some (.val (.tuple xs)), some (.val (.tuple xs)), none]) xs.length ?_ ?_ ?_
    · walk_at "ri"
      exact ⟨rfl, hl, rfl⟩
    · rintro j ρ hj rfl
      unfold l1_law_same
      walk_at "ri"
      refine opq rfl rfl (ev_ix (.inl rfl) (atI_nat (List.getElem?_eq_getElem hj))) ?_
      walk_at "ri"
      refine opq rfl rfl (ev_ix (.inl rfl) (atI_nat (List.getElem?_eq_getElem hj))) ?_
      walk_at "ri"
      refine ih _ (List.getElem_mem hj) ?_
      walk_at "ri"
      rfl
    · rintro ρ rfl
      walk_at "ri"
      exact k
theorem plain_fr {p : Int × Int} {n : Nat} : Plain (n + 2) (fr p) := .tuple (by simp [line]) fun x hx => by
  simp at hx
  rcases hx with rfl | rfl <;> exact .int
end Py
namespace Py
open PySem D
local macro_rules
  | `(tactic| walk_at "w") => `(tactic| with_reducible first
    | refine seq_nx ?_ | refine seq_rt ?_ | refine seq_bk ?_ | refine seq_ct ?_ | refine wp_seq ?_ | refine wp_asg ?_ | refine wp_next ?_ | refine wp_ret ?_ | refine wp_retN ?_ | refine wp_brk ?_ | refine wp_cont ?_ | refine wp_expr ?_ | refine wp_op ?_ | refine wp_un ?_ | refine wp_c ?_
    | refine unB ?_ | refine wp_truB ?_ | refine wp_and ?_ | refine wp_or ?_ | refine wp_not ?_ | refine wp_ifE ?_ | refine wp_tup ?_ | refine wp_lst ?_ | refine wp_lcons ?_ | refine wp_lnil ?_ | refine frzV ?_ | refine frzN ?_ | refine wp_frz ?_ | refine wp_sl ?_ | refine wp_onone ?_ | refine wp_osome ?_
    | refine wp_anil ?_ | refine wp_av ?_ | refine wp_andV ?_ | refine wp_orV ?_ | refine wp_notV ?_ | refine wp_fgtR ?_ | refine turn_nx ?_ | refine turn_rt ?_ | refine turn_bk ?_ | refine turn_ct ?_ | refine fgt_rt ?_ | refine wp_par ?_ | refine wp_chain ?_ | refine wp_seqI ?_)
local macro_rules
  | `(tactic| walk_at "put") => `(tactic| focus ((repeat apply PutR.s); exact PutR.z rfl))
local macro_rules
  | `(tactic| walk_at "set") => `(tactic| focus ((repeat apply SetR.s); first | exact SetR.o | exact SetR.r))
local macro_rules
  | `(tactic| walk_at "fgt") => `(tactic| focus (repeat first | exact FgtsR.nil | exact FgtR.k | exact FgtR.z rfl | apply FgtR.s | apply FgtsR.cons))
local macro_rules
  | `(tactic| walk_at "x") => `(tactic| first
    | ((with_reducible apply wp_varV); (focus exact rfl)) | ((with_reducible apply wp_varO); (focus exact rfl)) | ((with_reducible apply wp_varR); (focus exact rfl))
    | ((with_reducible apply opq); (focus exact rfl); (focus exact rfl); (focus (first | exact ev_eqI | exact ev_neI | exact ev_ltI | exact ev_leI | exact ev_gtI | exact ev_geI | exact rfl)))
    | ((with_reducible apply unq); (focus exact rfl); (focus exact rfl))
    | ((with_reducible first | apply putqV | apply putqN); walk_at "put")
    | ((with_reducible apply putq2); walk_at "put"; walk_at "put")
    | ((with_reducible apply parq); walk_at "put"; walk_at "put")
    | ((with_reducible apply wp_callR); (focus (repeat first | exact RefsR.nil | apply RefsR.v | apply RefsR.r)); (focus decide))
    | ((with_reducible apply wp_ar); (focus exact rfl))
    | ((with_reducible apply fin_rt); (focus exact rfl); (focus exact rfl))
    | ((with_reducible apply fin_nx); (focus exact rfl))
    | ((with_reducible apply wp_appendR); (focus exact rfl))
    | (with_reducible refine ⟨_, rfl, ?_⟩) | (with_reducible refine ⟨_, .inl rfl, ?_⟩) | (with_reducible refine ⟨_, .inr (.inl rfl), ?_⟩) | (with_reducible refine ⟨_, .inr (.inr rfl), ?_⟩)
    | (with_reducible apply callq0) | ((with_reducible apply frzB); (focus exact rfl); (focus exact rfl); walk_at "put")
    | ((with_reducible apply callq1); walk_at "set")
    | ((with_reducible apply callq2); walk_at "set"; walk_at "set")
    | ((with_reducible first | apply fgt_nx | apply fgt_bk | apply fgt_ct); walk_at "fgt")
    | ((with_reducible apply brT); (focus exact rfl)) | ((with_reducible apply brF); (focus exact rfl)))
local macro_rules
  | `(tactic| walk_at "r") => `(tactic| repeat first | walk_at "w" | walk_at "x")
local macro_rules
  | `(tactic| walk_at "ri") => `(tactic| repeat first | walk_at "w" | walk_at "x" | (with_reducible refine wp_if ?_))
local macro_rules
  | `(tactic| walk_at "app") => `(tactic| ((with_reducible apply appq); (focus exact rfl); (focus ((try simp only [List.length_map, List.length_nil, List.length_cons, List.length_append]); unfold line; omega)); walk_at "set"))
local macro_rules
  | `(tactic| walk_at "mul") => `(tactic| ((refine opq rfl rfl (ev_mul ?_) ?_); (focus (apply mulT <;> omega))))
local macro_rules
  | `(tactic| walk_at "rm") => `(tactic| repeat first | walk_at "w" | walk_at "x" | walk_at "mul")
local macro_rules
  | `(tactic| walk_at "len") => `(tactic| (refine And.intro ?_ ?_; (focus (simp [line]; done))))
theorem lenI {xs : List Int} : (List.map PyData.int xs).length = xs.length := List.length_map ..
theorem atI_int {xs : List Int} {j : Nat} (h : j < xs.length) : atI (xs.map PyData.int) (j : Int) = some (.int xs[j]) := atI_nat (by simp [h])
theorem of_draws {ns : List Int} (hb : ∀ z ∈ ns, Builtin.Int.intBits z ≤ 1048576) (hl : ns.length ≤ 63) {m : Nat} (hm : m ≤ 100000) {Q : R → List Ob → Prop} (k : ∀ ds, Q (.new (intsO ds)) []) : Ret d_law_draws [.val (.list (ns.map PyData.int)), .val (.int m)] Q := by
  refine ret_mkR (by repeat constructor) ?_
  unfold b_law_draws
  walk_at "ri"
  refine wp_lc PyData.int (fun done acc ρ => acc = done.map PyData.int ∧ ∃ s, ρ = [some (.val (.list (ns.map PyData.int))), some (.val (.int m)), none, none, none, none, none, none, s]) ?_
  walk_at "ri"
  refine ⟨by unfold line; omega, ⟨rfl, _, rfl⟩, ?_, ?_⟩
  · rintro done y rest acc _ e ⟨rfl, s, rfl⟩
    unfold LcQ
    dsimp only [wipe, set_s, set_z]
    walk_at "ri"
    refine ⟨true, _, rfl, ?_⟩
    refine brT rfl ?_
    unfold e1_law_draws
    walk_at "ri"
    exact ⟨by simp, _, rfl⟩
  rintro _ _ ⟨rfl, s, rfl⟩
  dsimp only [back, set_s, set_z, get_s, get_z]
  walk_at "r"
  refine wp_mid (fun ρ => ∃ cs : List Int, cs ≠ [] ∧ cs.length ≤ 63 ∧ (∀ z ∈ cs, Builtin.Int.intBits z ≤ 1048576) ∧ ρ = [some (.val (.list (ns.map PyData.int))), some (.val (.int m)), some (.own (intsO cs)), none, none, none, none, none, none]) ?_ ?_
  · walk_at "ri"
    refine branchD (fun h => ?_) fun h => ?_
    · walk_at "ri"
      have h0 : ns = [] := by simpa using h
      subst h0
      walk_at "app"
      walk_at "ri"
      exact ⟨rfl, [0], by simp, by simp, by simp; decide, rfl⟩
    · walk_at "ri"
      refine ⟨rfl, ns, fun h0 => h (by simp [h0]), hl, hb, rfl⟩
  rintro _ ⟨cs, hc0, hcl, hcb, rfl⟩
  walk_at "ri"
  have hn : 0 < cs.length := List.length_pos_iff.mpr hc0
  refine ⟨by simp [line], ?_⟩
  walk_at "ri"
  refine wp_forN (fun k ρ => ∃ rs ds : List Int, rs.length = cs.length ∧ ds.length = k ∧ ρ = [some (.val (.list (ns.map PyData.int))), some (.val (.int m)), some (.own (intsO cs)), some (.own (intsO rs)), some (.own (intsO ds)), none, none, none, none]) m ?_ ?_ ?_
  · walk_at "ri"
    exact ⟨rfl, by unfold line; omega, cs, [], rfl, rfl, rfl⟩
  · rintro k _ hk ⟨rs, ds, h1, h2, rfl⟩
    unfold l2_law_draws
    walk_at "ri"
    have hl0 : ((List.map PyData.int cs).length : Int) ≠ 0 := by simp; omega
    refine opq rfl rfl (ev_mod hl0) ?_
    obtain ⟨j, hj, hj2⟩ := fmod_ix (k : Int) (n := (List.map PyData.int cs).length) (by simp; omega)
    rw [hj]
    rw [lenI] at hj2
    walk_at "ri"
    refine opq rfl rfl (ev_ix (.inr (.inr rfl)) (atI_int hj2)) ?_
    walk_at "ri"
    have hj3 : j < rs.length := by omega
    refine branchD (fun h => ?_) fun h => ?_
    · walk_at "ri"
      refine opq rfl rfl (ev_ix (.inr (.inr rfl)) (atI_int hj3)) ?_
      walk_at "ri"
      walk_at "app"
      walk_at "ri"
      refine wp_setIxR ?_
      walk_at "ri"
      refine opq rfl rfl (ev_ix (.inr (.inr rfl)) (atI_int hj3)) ?_
      walk_at "ri"
      apply ixq (j := j) rfl rfl (by rw [lenI]; exact hj3)
      walk_at "set"
      walk_at "ri"
      refine ⟨rs.set j (rs[j].fdiv 1000), ds ++ [rs[j].fmod 1000], by simpa using h1, by simp [h2], ?_⟩
      simp [intsO]
    · walk_at "ri"
      refine opq rfl rfl (ev_ix (.inr (.inr rfl)) (atI_int hj2)) ?_
      walk_at "ri"
      refine opq rfl rfl (ev_mul ?_) ?_
      · exact mulB (n := 16) (hcb _ (List.getElem_mem hj2)) (by decide)
      walk_at "ri"
      refine opq rfl rfl (ev_mul ?_) ?_
      · exact mulOk_of 17 17 (by omega) (by decide)
      walk_at "ri"
      generalize hx : ((cs[j] * 48271 + k * 69621 + 11 : Int)).fmod 2147483647 = x
      have hx1 : 0 ≤ x := by rw [← hx]; exact Int.fmod_nonneg_of_pos _ (by decide)
      have hx2 : x < 2147483647 := by rw [← hx]; exact Int.fmod_lt_of_pos _ (by decide)
      walk_at "ri"
      refine opq rfl rfl (ev_mul (mulOk_of 31 31 (by omega) (by omega))) ?_
      walk_at "ri"
      refine opq rfl rfl (ev_mul (mulOk_of 31 31 (by decide) (by omega))) ?_
      walk_at "ri"
      walk_at "app"
      walk_at "ri"
      refine ⟨rs, ds ++ [(x * x + 3 * x + k).fmod 1000003], h1, by simp [h2], ?_⟩
      simp [intsO]
  · rintro _ ⟨rs, ds, h1, h2, rfl⟩
    walk_at "ri"
    refine wp_reverseR rfl (by walk_at "set") ?_
    walk_at "ri"
    have := k ds.reverse
    simpa [intsO] using this
end Py
namespace Py
open PySem D
local macro_rules
  | `(tactic| walk_at "w") => `(tactic| with_reducible first
    | refine seq_nx ?_ | refine seq_rt ?_ | refine seq_bk ?_ | refine seq_ct ?_ | refine wp_seq ?_ | refine wp_asg ?_ | refine wp_next ?_ | refine wp_ret ?_ | refine wp_retN ?_ | refine wp_brk ?_ | refine wp_cont ?_ | refine wp_expr ?_ | refine wp_op ?_ | refine wp_un ?_ | refine wp_c ?_
    | refine unB ?_ | refine wp_truB ?_ | refine wp_and ?_ | refine wp_or ?_ | refine wp_not ?_ | refine wp_ifE ?_ | refine wp_tup ?_ | refine wp_lst ?_ | refine wp_lcons ?_ | refine wp_lnil ?_ | refine frzV ?_ | refine frzN ?_ | refine wp_frz ?_ | refine wp_sl ?_ | refine wp_onone ?_ | refine wp_osome ?_
    | refine wp_anil ?_ | refine wp_av ?_ | refine wp_andV ?_ | refine wp_orV ?_ | refine wp_notV ?_ | refine wp_fgtR ?_ | refine turn_nx ?_ | refine turn_rt ?_ | refine turn_bk ?_ | refine turn_ct ?_ | refine fgt_rt ?_ | refine wp_par ?_ | refine wp_chain ?_ | refine wp_seqI ?_)
local macro_rules
  | `(tactic| walk_at "put") => `(tactic| focus ((repeat apply PutR.s); exact PutR.z rfl))
local macro_rules
  | `(tactic| walk_at "set") => `(tactic| focus ((repeat apply SetR.s); first | exact SetR.o | exact SetR.r))
local macro_rules
  | `(tactic| walk_at "fgt") => `(tactic| focus (repeat first | exact FgtsR.nil | exact FgtR.k | exact FgtR.z rfl | apply FgtR.s | apply FgtsR.cons))
local macro_rules
  | `(tactic| walk_at "x") => `(tactic| first
    | ((with_reducible apply wp_varV); (focus exact rfl)) | ((with_reducible apply wp_varO); (focus exact rfl)) | ((with_reducible apply wp_varR); (focus exact rfl))
    | ((with_reducible apply opq); (focus exact rfl); (focus exact rfl); (focus (first | exact ev_eqI | exact ev_neI | exact ev_ltI | exact ev_leI | exact ev_gtI | exact ev_geI | exact rfl)))
    | ((with_reducible apply unq); (focus exact rfl); (focus exact rfl))
    | ((with_reducible first | apply putqV | apply putqN); walk_at "put")
    | ((with_reducible apply putq2); walk_at "put"; walk_at "put")
    | ((with_reducible apply parq); walk_at "put"; walk_at "put")
    | ((with_reducible apply wp_callR); (focus (repeat first | exact RefsR.nil | apply RefsR.v | apply RefsR.r)); (focus decide))
    | ((with_reducible apply wp_ar); (focus exact rfl))
    | ((with_reducible apply fin_rt); (focus exact rfl); (focus exact rfl))
    | ((with_reducible apply fin_nx); (focus exact rfl))
    | ((with_reducible apply wp_appendR); (focus exact rfl))
    | (with_reducible refine ⟨_, rfl, ?_⟩) | (with_reducible refine ⟨_, .inl rfl, ?_⟩) | (with_reducible refine ⟨_, .inr (.inl rfl), ?_⟩) | (with_reducible refine ⟨_, .inr (.inr rfl), ?_⟩)
    | (with_reducible apply callq0) | ((with_reducible apply frzB); (focus exact rfl); (focus exact rfl); walk_at "put")
    | ((with_reducible apply callq1); walk_at "set")
    | ((with_reducible apply callq2); walk_at "set"; walk_at "set")
    | ((with_reducible first | apply fgt_nx | apply fgt_bk | apply fgt_ct); walk_at "fgt")
    | ((with_reducible apply brT); (focus exact rfl)) | ((with_reducible apply brF); (focus exact rfl)))
local macro_rules
  | `(tactic| walk_at "r") => `(tactic| repeat first | walk_at "w" | walk_at "x")
local macro_rules
  | `(tactic| walk_at "ri") => `(tactic| repeat first | walk_at "w" | walk_at "x" | (with_reducible refine wp_if ?_))
local macro_rules
  | `(tactic| walk_at "app") => `(tactic| ((with_reducible apply appq); (focus exact rfl); (focus ((try simp only [List.length_map, List.length_nil, List.length_cons, List.length_append]); unfold line; omega)); walk_at "set"))
local macro_rules
  | `(tactic| walk_at "mul") => `(tactic| ((refine opq rfl rfl (ev_mul ?_) ?_); (focus (apply mulT <;> omega))))
local macro_rules
  | `(tactic| walk_at "rm") => `(tactic| repeat first | walk_at "w" | walk_at "x" | walk_at "mul")
local macro_rules
  | `(tactic| walk_at "len") => `(tactic| (refine And.intro ?_ ?_; (focus (simp [line]; done))))
theorem mulOkN {a b : Int} (ha : a.natAbs ≤ 10 ^ 250) (hb : b.natAbs ≤ 10 ^ 250) : mulOk a b = true := mulOk_of 1000 1000 (Nat.lt_of_le_of_lt ha (by decide)) (Nat.lt_of_le_of_lt hb (by decide))
theorem rat_spec {n d : Int} (hd : d ≠ 0) : ∃ c : Int, c ≠ 0 ∧ n = (rat n d).1 * c ∧ d = (rat n d).2 * c ∧ 0 < (rat n d).2 := by
  have hg := gcd_ne (n := n) hd
  have h1 : (Int.gcd n d : Int) ∣ n := Int.gcd_dvd_left ..
  have h2 : (Int.gcd n d : Int) ∣ d := Int.gcd_dvd_right ..
  obtain ⟨a, ha⟩ := h1
  obtain ⟨b, hb⟩ := h2
  generalize hG : (Int.gcd n d : Int) = g at *
  have hg0 : 0 < g := by omega
  unfold rat
  rw [hG]
  by_cases h : d < 0
  · simp only [if_pos h]
    have e1 : n = -g * -a := by rw [Int.neg_mul_neg]; exact ha
    have e2 : d = -g * -b := by rw [Int.neg_mul_neg]; exact hb
    rw [e1, e2, Int.mul_fdiv_cancel_left _ (by omega), Int.mul_fdiv_cancel_left _ (by omega)]
    refine ⟨-g, by omega, by rw [Int.mul_comm], by rw [Int.mul_comm], ?_⟩
    rw [hb] at h
    have : b < 0 := by
      apply Int.lt_of_not_ge
      intro h0
      have := Int.mul_nonneg (Int.le_of_lt hg0) h0
      omega
    omega
  · simp only [if_neg h]
    rw [ha, hb, Int.mul_fdiv_cancel_left _ (by omega), Int.mul_fdiv_cancel_left _ (by omega)]
    refine ⟨g, by omega, by rw [Int.mul_comm], by rw [Int.mul_comm], ?_⟩
    rw [hb] at h
    have hd0 : b ≠ 0 := by intro h0; rw [h0] at hb; simp at hb; exact hd hb
    apply Int.lt_of_not_ge
    intro h0
    have : b < 0 := by omega
    have := Int.mul_neg_of_pos_of_neg hg0 this
    omega
/-- a fraction that is not too great -/
def Gd (B : Nat) (p : Int × Int) : Prop := p.2 ≠ 0 ∧ p.1.natAbs ≤ B ∧ p.2.natAbs ≤ B
theorem Gd.mono {A B : Nat} {p : Int × Int} (h : Gd A p) (hab : A ≤ B) : Gd B p := ⟨h.1, Nat.le_trans h.2.1 hab, Nat.le_trans h.2.2 hab⟩
end Py
namespace Py
open PySem D
local macro_rules
  | `(tactic| walk_at "w") => `(tactic| with_reducible first
    | refine seq_nx ?_ | refine seq_rt ?_ | refine seq_bk ?_ | refine seq_ct ?_ | refine wp_seq ?_ | refine wp_asg ?_ | refine wp_next ?_ | refine wp_ret ?_ | refine wp_retN ?_ | refine wp_brk ?_ | refine wp_cont ?_ | refine wp_expr ?_ | refine wp_op ?_ | refine wp_un ?_ | refine wp_c ?_
    | refine unB ?_ | refine wp_truB ?_ | refine wp_and ?_ | refine wp_or ?_ | refine wp_not ?_ | refine wp_ifE ?_ | refine wp_tup ?_ | refine wp_lst ?_ | refine wp_lcons ?_ | refine wp_lnil ?_ | refine frzV ?_ | refine frzN ?_ | refine wp_frz ?_ | refine wp_sl ?_ | refine wp_onone ?_ | refine wp_osome ?_
    | refine wp_anil ?_ | refine wp_av ?_ | refine wp_andV ?_ | refine wp_orV ?_ | refine wp_notV ?_ | refine wp_fgtR ?_ | refine turn_nx ?_ | refine turn_rt ?_ | refine turn_bk ?_ | refine turn_ct ?_ | refine fgt_rt ?_ | refine wp_par ?_ | refine wp_chain ?_ | refine wp_seqI ?_)
local macro_rules
  | `(tactic| walk_at "put") => `(tactic| focus ((repeat apply PutR.s); exact PutR.z rfl))
local macro_rules
  | `(tactic| walk_at "set") => `(tactic| focus ((repeat apply SetR.s); first | exact SetR.o | exact SetR.r))
local macro_rules
  | `(tactic| walk_at "fgt") => `(tactic| focus (repeat first | exact FgtsR.nil | exact FgtR.k | exact FgtR.z rfl | apply FgtR.s | apply FgtsR.cons))
local macro_rules
  | `(tactic| walk_at "x") => `(tactic| first
    | ((with_reducible apply wp_varV); (focus exact rfl)) | ((with_reducible apply wp_varO); (focus exact rfl)) | ((with_reducible apply wp_varR); (focus exact rfl))
    | ((with_reducible apply opq); (focus exact rfl); (focus exact rfl); (focus (first | exact ev_eqI | exact ev_neI | exact ev_ltI | exact ev_leI | exact ev_gtI | exact ev_geI | exact rfl)))
    | ((with_reducible apply unq); (focus exact rfl); (focus exact rfl))
    | ((with_reducible first | apply putqV | apply putqN); walk_at "put")
    | ((with_reducible apply putq2); walk_at "put"; walk_at "put")
    | ((with_reducible apply parq); walk_at "put"; walk_at "put")
    | ((with_reducible apply wp_callR); (focus (repeat first | exact RefsR.nil | apply RefsR.v | apply RefsR.r)); (focus decide))
    | ((with_reducible apply wp_ar); (focus exact rfl))
    | ((with_reducible apply fin_rt); (focus exact rfl); (focus exact rfl))
    | ((with_reducible apply fin_nx); (focus exact rfl))
    | ((with_reducible apply wp_appendR); (focus exact rfl))
    | (with_reducible refine ⟨_, rfl, ?_⟩) | (with_reducible refine ⟨_, .inl rfl, ?_⟩) | (with_reducible refine ⟨_, .inr (.inl rfl), ?_⟩) | (with_reducible refine ⟨_, .inr (.inr rfl), ?_⟩)
    | (with_reducible apply callq0) | ((with_reducible apply frzB); (focus exact rfl); (focus exact rfl); walk_at "put")
    | ((with_reducible apply callq1); walk_at "set")
    | ((with_reducible apply callq2); walk_at "set"; walk_at "set")
    | ((with_reducible first | apply fgt_nx | apply fgt_bk | apply fgt_ct); walk_at "fgt")
    | ((with_reducible apply brT); (focus exact rfl)) | ((with_reducible apply brF); (focus exact rfl)))
local macro_rules
  | `(tactic| walk_at "r") => `(tactic| repeat first | walk_at "w" | walk_at "x")
local macro_rules
  | `(tactic| walk_at "ri") => `(tactic| repeat first | walk_at "w" | walk_at "x" | (with_reducible refine wp_if ?_))
local macro_rules
  | `(tactic| walk_at "app") => `(tactic| ((with_reducible apply appq); (focus exact rfl); (focus ((try simp only [List.length_map, List.length_nil, List.length_cons, List.length_append]); unfold line; omega)); walk_at "set"))
local macro_rules
  | `(tactic| walk_at "mul") => `(tactic| ((refine opq rfl rfl (ev_mul ?_) ?_); (focus (apply mulT <;> omega))))
local macro_rules
  | `(tactic| walk_at "rm") => `(tactic| repeat first | walk_at "w" | walk_at "x" | walk_at "mul")
local macro_rules
  | `(tactic| walk_at "len") => `(tactic| (refine And.intro ?_ ?_; (focus (simp [line]; done))))
/-! numbers of the script's size -/
@[irreducible] def TT : Nat := 2 ^ 1048576
theorem tt_lt : 10 ^ 100 * TT < 2 ^ 1049000 := by
  unfold TT
  calc 10 ^ 100 * 2 ^ 1048576 < 2 ^ 424 * 2 ^ 1048576 := Nat.mul_lt_mul_of_pos_right (by decide) (Nat.two_pow_pos _)
    _ = 2 ^ 1049000 := by rw [← Nat.pow_add]
theorem mulT {a b : Int} (ha : a.natAbs ≤ 10 ^ 100 * TT) (hb : b.natAbs ≤ 10 ^ 100 * TT) : mulOk a b = true := mulOk_of 1049000 1049000 (Nat.lt_of_le_of_lt ha tt_lt) (Nat.lt_of_le_of_lt hb tt_lt)
theorem of_common {a b : Int} {Q : R → List Ob → Prop} (k : Q (.val (.int (Int.gcd a b))) []) : Ret d_law_common [.val (.int a), .val (.int b)] Q := by
  refine ret_mkR (by repeat constructor) ?_
  unfold b_law_common
  walk_at "r"
  refine wp_while (fun (p : Nat × Nat) ρ => ρ = [some (.val (.int p.1)), some (.val (.int p.2))] ∧ Nat.gcd p.1 p.2 = Int.gcd a b) (fun p => p.2) (a.natAbs, b.natAbs) ⟨rfl, rfl⟩ ?_
  rintro ⟨x, y⟩ ρ ⟨rfl, hg⟩
  dsimp only at hg ⊢
  unfold t2_law_common l1_law_common
  walk_at "r"
  refine branchD (fun h => ?_) fun h => ?_
  · have hy : 0 < y := by omega
    walk_at "r"
    refine opq rfl rfl (ev_mod (by omega)) ?_
    walk_at "r"
    have e : (x : Int).fmod y = ((x % y : Nat) : Int) := by rw [Int.fmod_eq_emod_of_nonneg _ (by omega)]; simp
    refine ⟨(y, x % y), Nat.mod_lt _ hy, ?_, ?_⟩
    · rw [e]
    · rw [← hg, Nat.gcd_comm x y, Nat.gcd_rec y x, Nat.gcd_comm]
  · have hy : y = 0 := by omega
    subst hy
    walk_at "r"
    rw [Nat.gcd_zero_right] at hg
    rw [hg]
    exact k
theorem of_lfraction {n d : Int} (hd : d ≠ 0) {Q : R → List Ob → Prop} (k : Q (.val (fr (rat n d))) []) : Ret d_law_fraction [.val (.int n), .val (.int d)] Q := by
  have hg := gcd_ne (n := n) hd
  refine ret_mkR (by repeat constructor) ?_
  unfold b_law_fraction
  walk_at "r"
  refine of_common ?_
  walk_at "ri"
  refine branchD (fun h => ?_) fun h => ?_
  · walk_at "r"
    refine opq rfl rfl (ev_div (by omega)) ?_
    walk_at "r"
    refine opq rfl rfl (ev_div (by omega)) ?_
    walk_at "r"
    walk_at "len"
    walk_at "r"
    unfold rat at k
    rw [if_pos h] at k
    exact k
  · walk_at "r"
    refine opq rfl rfl (ev_div (by omega)) ?_
    walk_at "r"
    refine opq rfl rfl (ev_div (by omega)) ?_
    walk_at "r"
    walk_at "len"
    walk_at "r"
    unfold rat at k
    rw [if_neg h] at k
    exact k
/-! comprehensions and sums -/
theorem ints_map (xs : List Int) : ints? (xs.map PyData.int) = some xs := by
  unfold ints?
  induction xs with
  | nil => rfl
  | cons x xs ih => simp [List.mapM_cons, intV?, ih]
theorem lcqY {g : MG} {vs : List Nat} {e : M} {x : PV} {ρ ρ0 : Env} {Q : List PV → Env → Prop} (h0 : wipe ρ vs = ρ0) (h : PutQ g (.val x) ρ0 fun ρ1 => Wp e ρ1 fun r ρ3 => FrzQ r ρ3 fun v ρ4 => Q [v] ρ4) : LcQ g vs tYes e x ρ Q := by
  subst h0
  obtain ⟨ρ1, e1, q⟩ := h
  exact ⟨ρ1, e1, true, ρ1, rfl, fun _ => q, fun h => by cases h⟩
end Py
namespace Py
open PySem D
local macro_rules
  | `(tactic| walk_at "w") => `(tactic| with_reducible first
    | refine seq_nx ?_ | refine seq_rt ?_ | refine seq_bk ?_ | refine seq_ct ?_ | refine wp_seq ?_ | refine wp_asg ?_ | refine wp_next ?_ | refine wp_ret ?_ | refine wp_retN ?_ | refine wp_brk ?_ | refine wp_cont ?_ | refine wp_expr ?_ | refine wp_op ?_ | refine wp_un ?_ | refine wp_c ?_
    | refine unB ?_ | refine wp_truB ?_ | refine wp_and ?_ | refine wp_or ?_ | refine wp_not ?_ | refine wp_ifE ?_ | refine wp_tup ?_ | refine wp_lst ?_ | refine wp_lcons ?_ | refine wp_lnil ?_ | refine frzV ?_ | refine frzN ?_ | refine wp_frz ?_ | refine wp_sl ?_ | refine wp_onone ?_ | refine wp_osome ?_
    | refine wp_anil ?_ | refine wp_av ?_ | refine wp_andV ?_ | refine wp_orV ?_ | refine wp_notV ?_ | refine wp_fgtR ?_ | refine turn_nx ?_ | refine turn_rt ?_ | refine turn_bk ?_ | refine turn_ct ?_ | refine fgt_rt ?_ | refine wp_par ?_ | refine wp_chain ?_ | refine wp_seqI ?_)
local macro_rules
  | `(tactic| walk_at "put") => `(tactic| focus ((repeat apply PutR.s); first | exact PutR.z rfl | exact PutR.z (by assumption)))
local macro_rules
  | `(tactic| walk_at "set") => `(tactic| focus ((repeat apply SetR.s); first | exact SetR.o | exact SetR.r))
local macro_rules
  | `(tactic| walk_at "fgt") => `(tactic| focus (repeat first | exact FgtsR.nil | exact FgtR.k | exact FgtR.z rfl | apply FgtR.s | apply FgtsR.cons))
local macro_rules
  | `(tactic| walk_at "x") => `(tactic| first
    | ((with_reducible apply wp_varV); (focus exact rfl)) | ((with_reducible apply wp_varO); (focus exact rfl)) | ((with_reducible apply wp_varR); (focus exact rfl))
    | ((with_reducible apply opq); (focus exact rfl); (focus exact rfl); (focus (first | exact ev_eqI | exact ev_neI | exact ev_ltI | exact ev_leI | exact ev_gtI | exact ev_geI | exact ev_strT | exact ev_strF n1 | exact ev_strF n2 | exact ev_strF n3 | exact ev_strF n4 | exact ev_strF n5 | exact ev_strF n6 | exact rfl)))
    | ((with_reducible apply unq); (focus exact rfl); (focus exact rfl))
    | ((with_reducible first | apply putqV | apply putqN); walk_at "put")
    | ((with_reducible apply putq2); walk_at "put"; walk_at "put")
    | ((with_reducible apply parq); walk_at "put"; walk_at "put")
    | ((with_reducible apply wp_callR); (focus (repeat first | exact RefsR.nil | apply RefsR.v | apply RefsR.r)); (focus decide))
    | ((with_reducible apply wp_ar); (focus exact rfl))
    | ((with_reducible apply fin_rt); (focus exact rfl); (focus exact rfl))
    | ((with_reducible apply fin_nx); (focus exact rfl))
    | ((with_reducible apply wp_appendR); (focus exact rfl))
    | (with_reducible refine ⟨_, rfl, ?_⟩) | (with_reducible refine ⟨_, .inl rfl, ?_⟩) | (with_reducible refine ⟨_, .inr (.inl rfl), ?_⟩) | (with_reducible refine ⟨_, .inr (.inr rfl), ?_⟩)
    | (with_reducible apply callq0) | ((with_reducible apply frzB); (focus exact rfl); (focus exact rfl); walk_at "put")
    | ((with_reducible apply callq1); walk_at "set")
    | ((with_reducible apply callq2); walk_at "set"; walk_at "set")
    | ((with_reducible first | apply fgt_nx | apply fgt_bk | apply fgt_ct); walk_at "fgt")
    | ((with_reducible apply brT); (focus exact rfl)) | ((with_reducible apply brF); (focus exact rfl)))
local macro_rules
  | `(tactic| walk_at "r") => `(tactic| repeat first | walk_at "w" | walk_at "x")
local macro_rules
  | `(tactic| walk_at "ri") => `(tactic| repeat first | walk_at "w" | walk_at "x" | (with_reducible refine wp_if ?_))
local macro_rules
  | `(tactic| walk_at "app") => `(tactic| ((with_reducible apply appq); (focus exact rfl); (focus ((try simp only [List.length_map, List.length_nil, List.length_cons, List.length_append]); unfold line; omega)); walk_at "set"))
local macro_rules
  | `(tactic| walk_at "mul") => `(tactic| ((refine opq rfl rfl (ev_mul ?_) ?_); (focus (apply mulT <;> omega))))
local macro_rules
  | `(tactic| walk_at "rm") => `(tactic| repeat first | walk_at "w" | walk_at "x" | walk_at "mul")
local macro_rules
  | `(tactic| walk_at "len") => `(tactic| (refine And.intro ?_ ?_; (focus (simp [line]; done))))
local macro_rules
  | `(tactic| walk_at "rl") => `(tactic| repeat first | walk_at "w" | walk_at "x" | walk_at "len")
local macro_rules
  | `(tactic| walk_at "ril") => `(tactic| repeat first | walk_at "w" | walk_at "x" | walk_at "len" | (with_reducible refine wp_if ?_))
/-! fractions by their cross product -/
theorem rat_cop {n d : Int} (hd : d ≠ 0) : Int.gcd (rat n d).1 (rat n d).2 = 1 := by
  have hg := gcd_ne (n := n) hd
  have h1 : (Int.gcd n d : Int) ∣ n := Int.gcd_dvd_left ..
  have h2 : (Int.gcd n d : Int) ∣ d := Int.gcd_dvd_right ..
  obtain ⟨a, ha⟩ := h1
  obtain ⟨b, hb⟩ := h2
  have key : Int.gcd a b = 1 := by
    have e := congrArg (fun x : Int × Int => Int.gcd x.1 x.2) (show (n, d) = ((Int.gcd n d : Int) * a, (Int.gcd n d : Int) * b) from by rw [← ha, ← hb])
    simp only at e
    rw [Int.gcd_mul_left, Int.natAbs_natCast] at e
    have h0 : 0 < Int.gcd n d := by omega
    have e' : Int.gcd n d * 1 = Int.gcd n d * Int.gcd a b := by rw [Nat.mul_one]; exact e
    exact (Nat.eq_of_mul_eq_mul_left h0 e').symm
  unfold rat
  generalize (Int.gcd n d : Int) = g at *
  by_cases h : d < 0
  · simp only [if_pos h]
    have e1 : n = -g * -a := by rw [Int.neg_mul_neg]; exact ha
    have e2 : d = -g * -b := by rw [Int.neg_mul_neg]; exact hb
    rw [e1, e2, Int.mul_fdiv_cancel_left _ (by omega), Int.mul_fdiv_cancel_left _ (by omega), Int.neg_gcd, Int.gcd_neg]
    exact key
  · simp only [if_neg h]
    rw [ha, hb, Int.mul_fdiv_cancel_left _ (by omega), Int.mul_fdiv_cancel_left _ (by omega)]
    exact key
/-- in lowest terms -/
def Low (p : Int × Int) : Prop := 0 < p.2 ∧ Int.gcd p.1 p.2 = 1
theorem low_rat {n d : Int} (hd : d ≠ 0) : Low (rat n d) := by
  obtain ⟨c, _, _, _, h⟩ := rat_spec (n := n) hd
  exact ⟨h, rat_cop hd⟩
theorem rat_cross {n d : Int} (hd : d ≠ 0) : (rat n d).1 * d = n * (rat n d).2 := by
  obtain ⟨c, hc, h1, h2, h3⟩ := rat_spec (n := n) hd
  generalize rat n d = r at *
  rw [h1, h2]
  grind
/-- the sum of the products -/
def dotV (ps qs : List (Int × Int)) : Int × Int := (List.zipWith timesV ps qs).foldl plusV (0, 1)
theorem low_plus {p q : Int × Int} (hp : 0 < p.2) (hq : 0 < q.2) : Low (plusV p q) := low_rat (Int.mul_ne_zero (by omega) (by omega))
theorem rat_le {n d : Int} (hd : d ≠ 0) : (rat n d).1.natAbs ≤ n.natAbs ∧ (rat n d).2.natAbs ≤ d.natAbs := by
  obtain ⟨c, hc, e1, e2, e3⟩ := rat_spec (n := n) hd
  have hc1 : 1 ≤ c.natAbs := by omega
  have f1 := congrArg Int.natAbs e1
  have f2 := congrArg Int.natAbs e2
  rw [Int.natAbs_mul] at f1 f2
  have g1 := Nat.mul_le_mul (Nat.le_refl (rat n d).1.natAbs) hc1
  have g2 := Nat.mul_le_mul (Nat.le_refl (rat n d).2.natAbs) hc1
  omega
/-- numbers of m bits -/
def Bt (m : Nat) (p : Int × Int) : Prop := 0 < p.2 ∧ p.1.natAbs < 2 ^ m ∧ p.2.natAbs < 2 ^ m
theorem Bt.mono {m n : Nat} {p : Int × Int} (h : Bt m p) (hmn : m ≤ n) : Bt n p := ⟨h.1, Nat.lt_of_lt_of_le h.2.1 (Nat.pow_le_pow_right (by decide) hmn), Nat.lt_of_lt_of_le h.2.2 (Nat.pow_le_pow_right (by decide) hmn)⟩
theorem lt_mul {a b : Int} {m n : Nat} (ha : a.natAbs < 2 ^ m) (hb : b.natAbs < 2 ^ n) : (a * b).natAbs < 2 ^ (m + n) := by
  rw [Int.natAbs_mul, Nat.pow_add]
  exact Nat.mul_lt_mul'' ha hb
theorem lt_add {a b : Int} {m : Nat} (ha : a.natAbs < 2 ^ m) (hb : b.natAbs < 2 ^ m) : (a + b).natAbs < 2 ^ (m + 1) := by
  rw [Nat.pow_succ]
  omega
theorem bt_plus {p q : Int × Int} {m n : Nat} (hp : Bt m p) (hq : Bt n q) : Bt (m + n + 1) (plusV p q) := by
  have hd : p.2 * q.2 ≠ 0 := Int.mul_ne_zero (by have := hp.1; omega) (by have := hq.1; omega)
  obtain ⟨h1, h2⟩ := rat_le (n := p.1 * q.2 + q.1 * p.2) hd
  have e := lt_mul hq.2.1 hp.2.2
  rw [Nat.add_comm n m] at e
  exact ⟨(low_rat hd).1, Nat.lt_of_le_of_lt h1 (lt_add (lt_mul hp.2.1 hq.2.2) e), Nat.lt_of_lt_of_le (Nat.lt_of_le_of_lt h2 (lt_mul hp.2.2 hq.2.2)) (Nat.pow_le_pow_right (by decide) (by omega))⟩
theorem okM_bt {p q : Int × Int} {m n : Nat} (hp : Bt m p) (hq : Bt n q) (h : m + n < 100000000) : okM p q :=
  ⟨mulOk_of m n hp.2.1 hq.2.2 h, mulOk_of n m hq.2.1 hp.2.2 (by omega), mulOk_of m n hp.2.2 hq.2.2 h, mulOk_of m n hp.2.1 hq.2.1 h⟩
/-- two rows side by side -/
def Two (ps qs : List (Int × Int)) : Prop := ps.length = qs.length ∧ ps.length ≤ 100 ∧ (∀ p ∈ ps, Bt 350 p) ∧ ∀ q ∈ qs, Bt 350 q
def natI (k : Nat) : PV := .int (k : Int)
/-- a list or a tuple -/
def SqV (v : PV) (xs : List PV) : Prop := v = .list xs ∨ v = .tuple xs
end Py
/-! QR: fractions as rational numbers. -/
namespace Py
open PySem D
def qv (p : Int × Int) : Rat := (p.1 : Rat) / (p.2 : Rat)
theorem ic_ne {a : Int} (h : a ≠ 0) : (a : Rat) ≠ 0 := fun z => h (Rat.intCast_eq_zero_iff.mp z)
theorem ic_pos {a : Int} (h : 0 < a) : (0 : Rat) < a := Rat.intCast_pos.mpr h
theorem qv_of {p : Int × Int} {n d : Int} (hp : p.2 ≠ 0) (hd : d ≠ 0) : qv p = (n : Rat) / d ↔ p.1 * d = n * p.2 := by
  have h1 := ic_ne hp
  have h2 := ic_ne hd
  unfold qv
  constructor
  · intro h
    have h3 : (p.1 : Rat) * d = n * p.2 := by grind
    have h4 : ((p.1 * d : Int) : Rat) = ((n * p.2 : Int) : Rat) := by rw [Rat.intCast_mul, Rat.intCast_mul, h3]
    exact Rat.intCast_inj.mp h4
  · intro h
    have h4 : ((p.1 * d : Int) : Rat) = ((n * p.2 : Int) : Rat) := by rw [h]
    rw [Rat.intCast_mul, Rat.intCast_mul] at h4
    grind
theorem Low.ne {p : Int × Int} (h : Low p) : p.2 ≠ 0 := by have := h.1; omega
theorem rat_ne {n d : Int} (hd : d ≠ 0) : (rat n d).2 ≠ 0 := (low_rat hd).ne
theorem qv_rat {n d : Int} (hd : d ≠ 0) : qv (rat n d) = (n : Rat) / d := (qv_of (rat_ne hd) hd).mpr (rat_cross hd)
theorem qv_plus {p q : Int × Int} (hp : p.2 ≠ 0) (hq : q.2 ≠ 0) : qv (plusV p q) = qv p + qv q := by
  unfold plusV
  rw [qv_rat (Int.mul_ne_zero hp hq)]
  have h1 := ic_ne hp
  have h2 := ic_ne hq
  unfold qv
  rw [Rat.intCast_add, Rat.intCast_mul, Rat.intCast_mul, Rat.intCast_mul]
  grind
end Py
/-! QI: how the further meanings are reckoned. -/
namespace Py
open PySem
theorem eqv_int {a b : Int} : PyData.eqv (.int a) (.int b) = decide (a = b) := by simp only [PyData.eqv]; rfl
theorem inD_ints {x : Int} {xs : List Int} : inD (.int x) (xs.map PyData.int) = decide (x ∈ xs) := by
  unfold inD
  induction xs with
  | nil => rfl
  | cons a xs ih =>
    rw [List.map_cons, List.any_cons, ih, eqv_int]
    by_cases h : a = x
    · subst h; simp
    · have h' : ¬ x = a := fun z => h z.symm
      simp [h, h']
theorem flat_ints {xs : List Int} : (xs.map PyData.int).all flatD = true := by
  induction xs with
  | nil => rfl
  | cons a xs ih => rw [List.map_cons, List.all_cons, ih]; rfl
theorem ev_inI {neg : Bool} {x : Int} {c : Ct} {xs : List Int} (h : c.seq? = some (xs.map PyData.int)) : fIn neg (.pv (.int x)) c = some (.val (.bool (neg ^^ decide (x ∈ xs)))) := by
  unfold fIn
  simp only [h, Option.bind_some]
  rw [if_pos ⟨rfl, flat_ints⟩, inD_ints]
theorem ev_in2 {x a b : Int} : fIn false (.pv (.int x)) (.pv (.tuple [.int a, .int b])) = some (.val (.bool (decide (x = a ∨ x = b)))) := by
  rw [ev_inI (xs := [a, b]) rfl]
  simp
theorem ev_in2n {x a b : Int} : fIn true (.pv (.int x)) (.pv (.tuple [.int a, .int b])) = some (.val (.bool (!decide (x = a ∨ x = b)))) := by
  rw [ev_inI (xs := [a, b]) rfl]
  simp
theorem ev_in4n {x a b c d : Int} : fIn true (.pv (.int x)) (.ob (.lst [.int a, .int b, .int c, .int d])) = some (.val (.bool (!decide (x = a ∨ x = b ∨ x = c ∨ x = d)))) := by
  rw [ev_inI (xs := [a, b, c, d]) rfl]
  simp
theorem ev_isT {a : Bool} : fIsB false (.pv (.bool a)) (.pv (.bool true)) = some (.val (.bool a)) := by cases a <;> rfl
theorem ev_isF {a : Bool} : fIsB false (.pv (.bool a)) (.pv (.bool false)) = some (.val (.bool (!a))) := by cases a <;> rfl
theorem ev_isnT {a : Bool} : fIsB true (.pv (.bool a)) (.pv (.bool true)) = some (.val (.bool (!a))) := by cases a <;> rfl
theorem ev_isnF {a : Bool} : fIsB true (.pv (.bool a)) (.pv (.bool false)) = some (.val (.bool a)) := by cases a <;> rfl
theorem branchB {b : Bool} {A B : Prop} (h1 : b = true → A) (h2 : b = false → B) : (b = true → A) ∧ (b = false → B) := ⟨h1, h2⟩
def tupI (xs : List Int) : PV := .tuple (xs.map PyData.int)
theorem ev_addT {xs ys : List PV} (h : xs.length + ys.length ≤ line) : fAdd (.pv (.tuple xs)) (.pv (.tuple ys)) = some (.val (.tuple (xs ++ ys))) := if_pos h
theorem ev_addL {xs ys : List PV} (h : xs.length + ys.length ≤ line) : fAdd (.ob (.lst xs)) (.ob (.lst ys)) = some (.new (.lst (xs ++ ys))) := if_pos h
theorem putqB {i j : Nat} {o : Ob} {v : PV} {ρ ρ1 ρ2 : Env} {Q : Env → Prop} (h : get ρ j = some (.own o)) (h2 : frzO o = some v) (h3 : PutR j (some (.val v)) ρ ρ1) (h4 : PutR i (some (.val v)) ρ1 ρ2) (q : Q ρ2) : PutQ (gName i) (.bor j) ρ Q := by
  have e := h3.put
  simp only [put, h, isRef, Bool.false_eq_true, if_false] at e
  refine ⟨ρ2, ?_, q⟩
  simp only [gName, frz, h, h2, Option.map_some, Option.bind_some]
  rw [Option.some.inj e]
  exact h4.put
theorem pickI {xs : List Int} {i : Int} (h0 : 0 ≤ i) (h1 : i < xs.length) : ∃ w ∈ xs, atI (xs.map PyData.int) i = some (.int w) := by
  obtain ⟨j, rfl⟩ := Int.eq_ofNat_of_zero_le h0
  have hj : j < xs.length := by omega
  exact ⟨xs[j], List.getElem_mem hj, atI_int hj⟩
end Py
namespace Py
open PySem D
local macro_rules
  | `(tactic| walk_at "w") => `(tactic| with_reducible first
    | refine seq_nx ?_ | refine seq_rt ?_ | refine seq_bk ?_ | refine seq_ct ?_ | refine wp_seq ?_ | refine wp_asg ?_ | refine wp_next ?_ | refine wp_ret ?_ | refine wp_retN ?_ | refine wp_brk ?_ | refine wp_cont ?_ | refine wp_expr ?_ | refine wp_op ?_ | refine wp_un ?_ | refine wp_c ?_
    | refine unB ?_ | refine wp_truB ?_ | refine wp_and ?_ | refine wp_or ?_ | refine wp_not ?_ | refine wp_ifE ?_ | refine wp_tup ?_ | refine wp_lst ?_ | refine wp_lcons ?_ | refine wp_lnil ?_ | refine frzV ?_ | refine frzN ?_ | refine wp_frz ?_ | refine wp_sl ?_ | refine wp_onone ?_ | refine wp_osome ?_
    | refine wp_anil ?_ | refine wp_av ?_ | refine wp_andV ?_ | refine wp_orV ?_ | refine wp_notV ?_ | refine wp_fgtR ?_ | refine turn_nx ?_ | refine turn_rt ?_ | refine turn_bk ?_ | refine turn_ct ?_ | refine fgt_rt ?_ | refine wp_par ?_ | refine wp_chain ?_ | refine wp_seqI ?_)
local macro_rules
  | `(tactic| walk_at "put") => `(tactic| focus ((repeat apply PutR.s); first | exact PutR.z rfl | exact PutR.z (by assumption)))
local macro_rules
  | `(tactic| walk_at "set") => `(tactic| focus ((repeat apply SetR.s); first | exact SetR.o | exact SetR.r))
local macro_rules
  | `(tactic| walk_at "fgt") => `(tactic| focus (repeat first | exact FgtsR.nil | exact FgtR.k | exact FgtR.z rfl | exact FgtR.z (by assumption) | apply FgtR.s | apply FgtsR.cons))
local macro_rules
  | `(tactic| walk_at "x") => `(tactic| first
    | ((with_reducible apply wp_varV); (focus exact rfl)) | ((with_reducible apply wp_varO); (focus exact rfl)) | ((with_reducible apply wp_varR); (focus exact rfl))
    | ((with_reducible apply opq); (focus exact rfl); (focus exact rfl); (focus (first | exact ev_eqI | exact ev_neI | exact ev_ltI | exact ev_leI | exact ev_gtI | exact ev_geI | exact ev_in2 | exact ev_in2n | exact ev_in4n | exact ev_isT | exact ev_isF | exact ev_isnT | exact ev_isnF | exact ev_strT | exact ev_strF n1 | exact ev_strF n2 | exact ev_strF n3 | exact ev_strF n4 | exact ev_strF n5 | exact ev_strF n6 | exact rfl)))
    | ((with_reducible apply unq); (focus exact rfl); (focus exact rfl))
    | ((with_reducible first | apply putqV | apply putqN); walk_at "put")
    | ((with_reducible apply putqB); (focus exact rfl); (focus exact rfl); walk_at "put"; walk_at "put")
    | ((with_reducible apply putq2); walk_at "put"; walk_at "put")
    | ((with_reducible apply parq); walk_at "put"; walk_at "put")
    | ((with_reducible apply wp_callR); (focus (repeat first | exact RefsR.nil | apply RefsR.v | apply RefsR.r)); (focus decide))
    | ((with_reducible apply wp_ar); (focus exact rfl))
    | ((with_reducible apply fin_rt); (focus exact rfl); (focus exact rfl))
    | ((with_reducible apply fin_nx); (focus exact rfl))
    | ((with_reducible apply wp_appendR); (focus exact rfl))
    | (with_reducible refine ⟨_, rfl, ?_⟩) | (with_reducible refine ⟨_, .inl rfl, ?_⟩) | (with_reducible refine ⟨_, .inr (.inl rfl), ?_⟩) | (with_reducible refine ⟨_, .inr (.inr rfl), ?_⟩)
    | (with_reducible apply callq0) | ((with_reducible apply frzB); (focus exact rfl); (focus exact rfl); walk_at "put")
    | ((with_reducible apply callq1); walk_at "set")
    | ((with_reducible apply callq2); walk_at "set"; walk_at "set")
    | ((with_reducible first | apply fgt_nx | apply fgt_bk | apply fgt_ct); walk_at "fgt")
    | ((with_reducible apply brT); (focus exact rfl)) | ((with_reducible apply brF); (focus exact rfl)))
local macro_rules
  | `(tactic| walk_at "r") => `(tactic| repeat first | walk_at "w" | walk_at "x")
local macro_rules
  | `(tactic| walk_at "ri") => `(tactic| repeat first | walk_at "w" | walk_at "x" | (with_reducible refine wp_if ?_))
local macro_rules
  | `(tactic| walk_at "app") => `(tactic| ((with_reducible apply appq); (focus exact rfl); (focus ((try simp only [List.length_map, List.length_nil, List.length_cons, List.length_append]); unfold line; omega)); walk_at "set"))
local macro_rules
  | `(tactic| walk_at "mul") => `(tactic| ((refine opq rfl rfl (ev_mul ?_) ?_); (focus (apply mulT <;> omega))))
local macro_rules
  | `(tactic| walk_at "rm") => `(tactic| repeat first | walk_at "w" | walk_at "x" | walk_at "mul")
local macro_rules
  | `(tactic| walk_at "len") => `(tactic| (refine And.intro ?_ ?_; (focus (simp [line]; done))))
local macro_rules
  | `(tactic| walk_at "rl") => `(tactic| repeat first | walk_at "w" | walk_at "x" | walk_at "len")
local macro_rules
  | `(tactic| walk_at "ril") => `(tactic| repeat first | walk_at "w" | walk_at "x" | walk_at "len" | (with_reducible refine wp_if ?_))
/-! coins: digits -/
theorem nmod (a b : Nat) : (a : Int).fmod (b : Int) = ((a % b : Nat) : Int) := by
  rw [Int.fmod_eq_emod_of_nonneg _ (by omega)]; simp
theorem ndiv (a b : Nat) : (a : Int).fdiv (b : Int) = ((a / b : Nat) : Int) := by
  rw [Int.fdiv_eq_ediv_of_nonneg _ (by omega)]; simp
def restV (n d j : Nat) : Nat := n * 2 ^ j % d
def digV (n d k : Nat) : Nat := n * 2 ^ k % (2 * d) / d
def flV (n d k : Nat) : Nat := n * 2 ^ k / d
theorem restV_succ (n d j : Nat) : restV n d (j + 1) = 2 * restV n d j % d := by
  unfold restV
  rw [Nat.pow_succ, ← Nat.mul_assoc, Nat.mul_comm (n * 2 ^ j) 2, Nat.mul_mod 2 (n * 2 ^ j % d), Nat.mod_mod, ← Nat.mul_mod]
theorem digV_succ (n d j : Nat) : digV n d (j + 1) = 2 * restV n d j / d := by
  unfold digV restV
  rw [Nat.pow_succ, ← Nat.mul_assoc, Nat.mul_comm (n * 2 ^ j) 2, Nat.mul_mod_mul_left]
theorem flV_succ {n d : Nat} (hd : 0 < d) (j : Nat) : flV n d (j + 1) = 2 * flV n d j + digV n d (j + 1) := by
  rw [digV_succ]
  unfold flV restV
  rw [Nat.pow_succ, ← Nat.mul_assoc, Nat.mul_comm (n * 2 ^ j) 2]
  generalize n * 2 ^ j = x
  have h := Nat.div_add_mod x d
  generalize x / d = q at *
  generalize x % d = r at *
  rw [← h, Nat.mul_add, ← Nat.mul_assoc, Nat.mul_comm 2 d, Nat.mul_assoc, Nat.add_comm, Nat.add_mul_div_left _ _ hd]
  omega
theorem digV_le {n d k : Nat} (hd : 0 < d) : digV n d k ≤ 1 := by
  unfold digV
  have : n * 2 ^ k % (2 * d) < 2 * d := Nat.mod_lt _ (by omega)
  exact Nat.le_of_lt_succ ((Nat.div_lt_iff_lt_mul hd).mpr this)
theorem pigeon : ∀ (d : Nat) (f : Nat → Nat), (∀ i, i ≤ d → f i < d) → ∃ i j, i < j ∧ j ≤ d ∧ f i = f j
  | 0, f, h => absurd (h 0 (Nat.le_refl 0)) (by omega)
  | d + 1, f, h => by
    by_cases c : ∃ i, i ≤ d ∧ f i = f (d + 1)
    · obtain ⟨i, h1, h2⟩ := c
      exact ⟨i, d + 1, by omega, Nat.le_refl _, h2⟩
    · have hne : ∀ i, i ≤ d → f i ≠ f (d + 1) := fun i hi z => c ⟨i, hi, z⟩
      have hv := h (d + 1) (Nat.le_refl _)
      obtain ⟨i, j, h1, h2, h3⟩ := pigeon d (fun i => if f i = d then f (d + 1) else f i) fun i hi => by
        have hi' := h i (by omega)
        have := hne i hi
        split <;> omega
      refine ⟨i, j, h1, by omega, ?_⟩
      have a := hne i (by omega)
      have b := hne j h2
      split at h3 <;> split at h3 <;> omega
/-- the rests of n by d up to where they come round -/
structure Rests (n d : Nat) (rs : List Nat) (b : Nat) : Prop where
  hb : b < rs.length
  len : rs.length ≤ d + 1
  at' : ∀ j (h : j < rs.length), rs[j] = restV n d j
  turn : restV n d rs.length = restV n d b
  dist : ∀ i j, i < j → j < rs.length → restV n d i ≠ restV n d j
theorem Rests.per {n d b : Nat} {rs : List Nat} (h : Rests n d rs b) (m : Nat) : restV n d (rs.length + m) = restV n d (b + m) := by
  induction m with
  | zero => exact h.turn
  | succ m ih => rw [← Nat.add_assoc, ← Nat.add_assoc, restV_succ, restV_succ, ih]
theorem Rests.mod {n d b : Nat} {rs : List Nat} (h : Rests n d rs b) (m : Nat) : restV n d (b + m) = restV n d (b + m % (rs.length - b)) := by
  have hT : 0 < rs.length - b := by have := h.hb; omega
  induction m using Nat.strongRecOn with
  | ind m ih =>
    by_cases c : m < rs.length - b
    · rw [Nat.mod_eq_of_lt c]
    · have h1 := h.per (m - (rs.length - b))
      have e1 : rs.length + (m - (rs.length - b)) = b + m := by have := h.hb; omega
      rw [e1] at h1
      rw [h1, ih (m - (rs.length - b)) (by omega)]
      congr 2
      exact (Nat.mod_eq_sub_mod (by omega)).symm
def natI' (k : Nat) : PV := .int (k : Int)
theorem range_at'' {n : Nat} {done rest : List Nat} {y : Nat} (e : List.range n = done ++ y :: rest) : y < n := by
  have : y ∈ List.range n := by rw [e]; simp
  exact List.mem_range.mp this
theorem range_pos {n : Nat} {done rest : List Nat} {y : Nat} (e : List.range n = done ++ y :: rest) : done.length = y := by
  have h := congrArg (·[done.length]?) e
  have hl : done.length < n := by have := congrArg List.length e; simp at this; omega
  simp [hl] at h
  exact h
def natL (ns : List Nat) : List PV := ns.map natJ
  where natJ (k : Nat) : PV := .int (k : Int)
section
variable {Q : R → List Ob → Prop} {ns ds : List Int}
theorem nat_mulOk {a b : Nat} (ha : a ≤ 10 ^ 100) (hb : b ≤ 10 ^ 100) : mulOk (a : Int) (b : Int) = true := mulOkN (by omega) (by omega)
theorem of_rest_of_power {k m : Nat} (hm1 : 1 ≤ m) (hm : m ≤ 10 ^ 50) (q : Q (.val (.int ((2 ^ k % m : Nat) : Int))) []) : Ret d_rest_of_power [.val (.int k), .val (.int m)] Q := by
  refine ret_mkR (by repeat constructor) ?_
  unfold b_rest_of_power
  walk_at "r"
  refine opq rfl rfl (ev_mod (by omega)) ?_
  walk_at "r"
  refine opq rfl rfl (ev_mod (by omega)) ?_
  walk_at "r"
  refine wp_while (fun (p : Nat × Nat × Nat) ρ => p.2.1 < m ∧ p.2.2 < m ∧ p.2.1 * p.2.2 ^ p.1 % m = 2 ^ k % m ∧ ρ = [some (.val (.int p.1)), some (.val (.int m)), some (.val (.int p.2.1)), some (.val (.int p.2.2))]) (fun p => p.1) (k, 1 % m, 2 % m) ⟨Nat.mod_lt _ (by omega), Nat.mod_lt _ (by omega), by
    show 1 % m * (2 % m) ^ k % m = 2 ^ k % m
    rw [Nat.mul_mod, Nat.mod_mod, ← Nat.pow_mod, ← Nat.mul_mod, Nat.one_mul], ?_⟩ ?_
  · have e1 := nmod 1 m
    have e2 := nmod 2 m
    simp only [Int.natCast_one] at e1
    rw [show ((2 : Nat) : Int) = 2 from rfl] at e2
    rw [e1, e2]
  rintro ⟨k', f, s⟩ ρ ⟨h1, h2, h3, rfl⟩
  dsimp only at h1 h2 h3 ⊢
  unfold t2_rest_of_power l1_rest_of_power
  walk_at "r"
  refine branchD (fun h => ?_) fun h => ?_
  · have hk : 0 < k' := by omega
    have pw : s ^ k' = s ^ (k' % 2) * (s * s) ^ (k' / 2) := by
      rw [← Nat.pow_two, ← Nat.pow_mul, ← Nat.pow_add]
      congr 1
      omega
    have sq : ∀ f' : Nat, (f' * (s * s % m) ^ (k' / 2)) % m = (f' * (s * s) ^ (k' / 2)) % m := fun f' => by
      rw [Nat.mul_mod, ← Nat.pow_mod, ← Nat.mul_mod]
    walk_at "r"
    refine wp_mid (fun ρ => ∃ f' : Nat, f' < m ∧ f' * (s * s) ^ (k' / 2) % m = 2 ^ k % m ∧ ρ = [some (.val (.int k')), some (.val (.int m)), some (.val (.int f')), some (.val (.int s))]) ?_ ?_
    · walk_at "ri"
      rw [show (k' : Int).fmod 2 = ((k' % 2 : Nat) : Int) from nmod k' 2]
      refine branchD (fun hc => ?_) fun hc => ?_
      · have hc' : k' % 2 = 1 := by omega
        walk_at "r"
        refine opq rfl rfl (ev_mul (nat_mulOk (by omega) (by omega))) ?_
        walk_at "r"
        refine opq rfl rfl (ev_mod (by omega)) ?_
        walk_at "r"
        refine ⟨rfl, f * s % m, Nat.mod_lt _ (by omega), ?_, by rw [← Int.natCast_mul, nmod]⟩
        rw [← h3, pw, hc', Nat.pow_one, Nat.mul_mod, Nat.mod_mod, ← Nat.mul_mod, Nat.mul_assoc]
      · have hc' : k' % 2 = 0 := by omega
        walk_at "r"
        refine ⟨rfl, f, h1, ?_, rfl⟩
        rw [← h3, pw, hc', Nat.pow_zero, Nat.one_mul]
    rintro _ ⟨f', f1, f2, rfl⟩
    walk_at "r"
    refine opq rfl rfl (ev_mul (nat_mulOk (by omega) (by omega))) ?_
    walk_at "r"
    refine opq rfl rfl (ev_mod (by omega)) ?_
    walk_at "r"
    refine wp_aug rfl ?_
    walk_at "r"
    refine ⟨_, .int ((k' / 2 : Nat) : Int), _, rfl, by simp only [fDiv]; rw [if_neg (by decide), show (2 : Int) = ((2 : Nat) : Int) from rfl, ndiv], PutR.put (PutR.z rfl), ?_⟩
    walk_at "r"
    refine ⟨(k' / 2, f', s * s % m), by show k' / 2 < k'; omega, f1, Nat.mod_lt _ (by omega), ?_, by rw [← Int.natCast_mul, nmod]⟩
    dsimp only
    rw [sq, f2]
  · have hk : k' = 0 := by omega
    subst hk
    rw [Nat.pow_zero, Nat.mul_one, Nat.mod_eq_of_lt h1] at h3
    walk_at "r"
    rw [h3]
    exact q
theorem of_digit {n d k : Nat} (hd : 1 ≤ d) (hd2 : d ≤ 10 ^ 40) (hn : n ≤ 10 ^ 40) (q : Q (.val (.int (digV n d k : Nat))) []) : Ret d_digit [.val (fr (n, d)), .val (.int k)] Q := by
  refine ret_mkR (by repeat constructor) ?_
  unfold b_digit fr
  walk_at "r"
  refine opq rfl rfl (ev_mul (mulOkN (by decide) (by omega))) ?_
  walk_at "r"
  rw [show (2 : Int) * (d : Int) = ((2 * d : Nat) : Int) by omega]
  refine of_rest_of_power (by omega) (by omega) ?_
  have hr : 2 ^ k % (2 * d) < 2 * d := Nat.mod_lt _ (by omega)
  walk_at "r"
  refine opq rfl rfl (ev_mul (nat_mulOk (by omega) (by omega))) ?_
  walk_at "r"
  refine opq rfl rfl (ev_mul (mulOkN (by decide) (by omega))) ?_
  walk_at "r"
  refine opq rfl rfl (ev_mod (by omega)) ?_
  walk_at "r"
  refine opq rfl rfl (ev_div (by omega)) ?_
  walk_at "r"
  have e : (((n : Int) * ((2 ^ k % (2 * d) : Nat) : Int)).fmod (2 * (d : Int))).fdiv (d : Int) = ((digV n d k : Nat) : Int) := by
    rw [show (2 : Int) * (d : Int) = ((2 * d : Nat) : Int) by omega, ← Int.natCast_mul, nmod, ndiv]
    unfold digV
    rw [Nat.mul_mod n (2 ^ k % (2 * d)), Nat.mod_mod, ← Nat.mul_mod]
  rw [e]
  exact q
theorem dGet_mem {kvs : List (Key × PV)} {k : Key} {v : PV} (h : dGet kvs k = some v) : (k, v) ∈ kvs := by
  unfold dGet at h
  rw [Option.map_eq_some_iff] at h
  obtain ⟨⟨k', v'⟩, h1, rfl⟩ := h
  have h2 := List.find?_some h1
  have h3 := List.mem_of_find?_eq_some h1
  simp only [decide_eq_true_eq] at h2
  subst h2
  exact h3
theorem dGet_none {kvs : List (Key × PV)} {k : Key} (h : dGet kvs k = none) : ∀ kv ∈ kvs, kv.1 ≠ k := by
  unfold dGet at h
  rw [Option.map_eq_none_iff, List.find?_eq_none] at h
  intro kv hkv z
  have := h kv hkv
  simp [z] at this
theorem ev_dget {kvs : List (Key × PV)} {i : Int} {v : PV} (h : dGet kvs (.inl i) = some v) : fDget (.ob (.dct kvs)) (.pv (.int i)) = some (.val v) := by
  show (dGet kvs (.inl i)).map R.val = _
  rw [h]; rfl
theorem wp_dct0 {ρ : Env} {Q : R → Env → Prop} (q : Q (.new (.dct [])) ρ) : Wp mDct0 ρ Q := ⟨_, _, rfl, q⟩
theorem dPut_new {kvs : List (Key × PV)} {k : Key} {v : PV} (h : dGet kvs k = none) : dPut kvs k v = kvs ++ [(k, v)] := by
  unfold dGet at h
  rw [Option.map_eq_none_iff] at h
  unfold dPut
  rw [h]
  rfl
theorem wp_dput {i : Nat} {e a : M} {ρ : Env} {QS : Fl → Env → Prop} (h : Wp a ρ fun x ρ1 => FrzQ x ρ1 fun v ρ2 => ∃ kvs0, dctAt ρ2 i = some kvs0 ∧ Wp e ρ2 fun y ρ3 => ∃ c k kvs ρ4, look y ρ3 = some c ∧ keyC c = some k ∧ dctAt ρ3 i = some kvs ∧ kvs.length < line ∧ SetR ρ3 i (.dct (dPut kvs k v)) ρ4 ∧ QS .nx ρ4) : Wp (Py.sDput i e a) ρ QS := by
  obtain ⟨x, ρ1, e1, v, ρ2, e2, kvs0, e3, y, ρ3, e4, c, k, kvs, ρ4, e5, e6, e7, e8, e9, q⟩ := h
  refine ⟨.nx, ρ4, ?_, q⟩
  rw [← e9.eq]
  simp [Py.sDput, e1, e2, e3, e4, e5, e6, e7, e8]
def placesV (n d k : Nat) : List (Key × PV) := (List.range k).map fun j => (.inl ((restV n d j : Nat) : Int), .int (j : Int))
theorem places_get {n d k r : Nat} {v : PV} (h : dGet (placesV n d k) (.inl (r : Int)) = some v) : ∃ j, j < k ∧ restV n d j = r ∧ v = .int (j : Int) := by
  have := dGet_mem h
  unfold placesV at this
  obtain ⟨j, h1, h2⟩ := List.mem_map.mp this
  injection h2 with h3 h4
  injection h3 with h5
  exact ⟨j, List.mem_range.mp h1, by omega, h4.symm⟩
theorem places_none {n d k r : Nat} (h : dGet (placesV n d k) (.inl (r : Int)) = none) : ∀ j, j < k → restV n d j ≠ r := fun j hj z => by
  refine dGet_none h (.inl ((restV n d j : Nat) : Int), .int (j : Int)) ?_ (by rw [z])
  exact List.mem_map.mpr ⟨j, List.mem_range.mpr hj, rfl⟩
theorem places_put {n d k : Nat} (h : dGet (placesV n d k) (.inl ((restV n d k : Nat) : Int)) = none) : dPut (placesV n d k) (.inl ((restV n d k : Nat) : Int)) (.int (k : Int)) = placesV n d (k + 1) := by
  rw [dPut_new h]
  unfold placesV
  rw [List.range_succ, List.map_append]
  rfl
def restsV (n d k : Nat) : List Nat := (List.range k).map (restV n d)
def nI (k : Nat) : PV := .int (k : Int)
theorem restV0 {n d : Nat} (h : n < d) : restV n d 0 = n := by unfold restV; rw [Nat.pow_zero, Nat.mul_one, Nat.mod_eq_of_lt h]
theorem of_law_rests {n d : Nat} (hn : n < d) (hd : d ≤ 100000) (k : ∀ rs b, Rests n d rs b → Q (.val (.tuple [.list (rs.map nI), .int b])) []) : Ret d_law_rests [.val (.int n), .val (.int d)] Q := by
  refine ret_mkR (by repeat constructor) ?_
  unfold b_law_rests
  walk_at "rl"
  refine wp_dct0 ?_
  walk_at "r"
  refine wp_for ?_
  refine wp_rng1 ?_
  walk_at "r"
  refine ⟨⟨by unfold line; omega, by omega⟩, ?_⟩
  rw [show ((d : Int) + 1).toNat = d + 1 by omega]
  refine wp_loop natI' (fun done ρ => (∀ i j, i < j → j < done.length → restV n d i ≠ restV n d j) ∧ ρ = [some (.val (.int n)), some (.val (.int d)), some (.own (.lst ((restsV n d done.length).map nI))), some (.own (.dct (placesV n d done.length))), some (.val (.int (restV n d done.length : Nat))), none]) (List.range (d + 1)) ⟨by simp, by rw [List.length_nil, restV0 hn]; rfl⟩ ?_ ?_
  · rintro done y rest _ e ⟨p1, rfl⟩
    have hy : done.length = y := range_pos e
    have hyd : y < d + 1 := range_at'' e
    rw [hy] at p1 ⊢
    have hlt : ∀ j, restV n d j < d := fun j => Nat.mod_lt _ (by omega)
    unfold l1_law_rests
    dsimp only [natI']
    walk_at "ri"
    cases hg : dGet (placesV n d y) (.inl ((restV n d y : Nat) : Int)) with
    | some v =>
      obtain ⟨b, hb, hb2, rfl⟩ := places_get hg
      walk_at "ri"
      refine opq rfl rfl (ev_dget hg) ?_
      walk_at "rl"
      exact k (restsV n d y) b ⟨by simpa [restsV] using hb, by simp [restsV]; omega, fun i hi => by simp [restsV], by simpa [restsV] using hb2.symm, fun i j hij hj => p1 i j hij (by simpa [restsV] using hj)⟩
    | none =>
      have hno := places_none hg
      walk_at "ri"
      refine wp_dput ?_
      walk_at "r"
      refine ⟨_, _, placesV n d y, _, rfl, rfl, rfl, by simp [placesV, line]; omega, by walk_at "set", ?_⟩
      rw [places_put hg]
      walk_at "r"
      refine appq rfl (by simp [restsV, line]; omega) (by walk_at "set") ?_
      have h2 := hlt y
      walk_at "r"
      refine opq rfl rfl (ev_mul (mulOkN (by decide) (by omega))) ?_
      walk_at "r"
      refine opq rfl rfl (ev_mod (by omega)) ?_
      walk_at "r"
      rw [List.length_append, List.length_singleton, hy]
      refine ⟨fun i j hij hj => ?_, ?_⟩
      · by_cases c : j < y
        · exact p1 i j hij c
        · have : j = y := by omega
          subst this
          exact hno i hij
      · rw [restV_succ, show (2 : Int) * ((restV n d y : Nat) : Int) = ((2 * restV n d y : Nat) : Int) by omega, nmod]
        unfold restsV
        rw [List.range_succ, List.map_append, List.map_append]
        rfl
  · rintro _ ⟨p1, rfl⟩
    rw [List.length_range] at p1
    obtain ⟨i, j, h1, h2, h3⟩ := pigeon d (restV n d) fun i _ => Nat.mod_lt _ (by omega)
    exact absurd h3 (p1 i j h1 (by omega))
end
end Py
namespace Py
open PySem D
local macro_rules
  | `(tactic| walk_at "w") => `(tactic| with_reducible first
    | refine seq_nx ?_ | refine seq_rt ?_ | refine seq_bk ?_ | refine seq_ct ?_ | refine wp_seq ?_ | refine wp_asg ?_ | refine wp_next ?_ | refine wp_ret ?_ | refine wp_retN ?_ | refine wp_brk ?_ | refine wp_cont ?_ | refine wp_expr ?_ | refine wp_op ?_ | refine wp_un ?_ | refine wp_c ?_
    | refine unB ?_ | refine wp_truB ?_ | refine wp_and ?_ | refine wp_or ?_ | refine wp_not ?_ | refine wp_ifE ?_ | refine wp_tup ?_ | refine wp_lst ?_ | refine wp_lcons ?_ | refine wp_lnil ?_ | refine frzV ?_ | refine frzN ?_ | refine wp_frz ?_ | refine wp_sl ?_ | refine wp_onone ?_ | refine wp_osome ?_
    | refine wp_anil ?_ | refine wp_av ?_ | refine wp_andV ?_ | refine wp_orV ?_ | refine wp_notV ?_ | refine wp_fgtR ?_ | refine turn_nx ?_ | refine turn_rt ?_ | refine turn_bk ?_ | refine turn_ct ?_ | refine fgt_rt ?_ | refine wp_par ?_ | refine wp_chain ?_ | refine wp_seqI ?_)
local macro_rules
  | `(tactic| walk_at "put") => `(tactic| focus ((repeat apply PutR.s); first | exact PutR.z rfl | exact PutR.z (by assumption)))
local macro_rules
  | `(tactic| walk_at "set") => `(tactic| focus ((repeat apply SetR.s); first | exact SetR.o | exact SetR.r))
local macro_rules
  | `(tactic| walk_at "fgt") => `(tactic| focus (repeat first | exact FgtsR.nil | exact FgtR.k | exact FgtR.z rfl | exact FgtR.z (by assumption) | apply FgtR.s | apply FgtsR.cons))
local macro_rules
  | `(tactic| walk_at "x") => `(tactic| first
    | ((with_reducible apply wp_varV); (focus exact rfl)) | ((with_reducible apply wp_varO); (focus exact rfl)) | ((with_reducible apply wp_varR); (focus exact rfl))
    | ((with_reducible apply opq); (focus exact rfl); (focus exact rfl); (focus (first | exact ev_eqI | exact ev_neI | exact ev_ltI | exact ev_leI | exact ev_gtI | exact ev_geI | exact ev_in2 | exact ev_in2n | exact ev_in4n | exact ev_isT | exact ev_isF | exact ev_isnT | exact ev_isnF | exact ev_strT | exact ev_strF n1 | exact ev_strF n2 | exact ev_strF n3 | exact ev_strF n4 | exact ev_strF n5 | exact ev_strF n6 | exact rfl)))
    | ((with_reducible apply unq); (focus exact rfl); (focus exact rfl))
    | ((with_reducible first | apply putqV | apply putqN); walk_at "put")
    | ((with_reducible apply putqB); (focus exact rfl); (focus exact rfl); walk_at "put"; walk_at "put")
    | ((with_reducible apply putq2); walk_at "put"; walk_at "put")
    | ((with_reducible apply parq); walk_at "put"; walk_at "put")
    | ((with_reducible apply wp_callR); (focus (repeat first | exact RefsR.nil | apply RefsR.v | apply RefsR.r)); (focus decide))
    | ((with_reducible apply wp_ar); (focus exact rfl))
    | ((with_reducible apply fin_rt); (focus exact rfl); (focus exact rfl))
    | ((with_reducible apply fin_nx); (focus exact rfl))
    | ((with_reducible apply wp_appendR); (focus exact rfl))
    | (with_reducible refine ⟨_, rfl, ?_⟩) | (with_reducible refine ⟨_, .inl rfl, ?_⟩) | (with_reducible refine ⟨_, .inr (.inl rfl), ?_⟩) | (with_reducible refine ⟨_, .inr (.inr rfl), ?_⟩)
    | (with_reducible apply callq0) | ((with_reducible apply frzB); (focus exact rfl); (focus exact rfl); walk_at "put")
    | ((with_reducible apply callq1); walk_at "set")
    | ((with_reducible apply callq2); walk_at "set"; walk_at "set")
    | ((with_reducible first | apply fgt_nx | apply fgt_bk | apply fgt_ct); walk_at "fgt")
    | ((with_reducible apply brT); (focus exact rfl)) | ((with_reducible apply brF); (focus exact rfl)))
local macro_rules
  | `(tactic| walk_at "r") => `(tactic| repeat first | walk_at "w" | walk_at "x")
local macro_rules
  | `(tactic| walk_at "ri") => `(tactic| repeat first | walk_at "w" | walk_at "x" | (with_reducible refine wp_if ?_))
local macro_rules
  | `(tactic| walk_at "app") => `(tactic| ((with_reducible apply appq); (focus exact rfl); (focus ((try simp only [List.length_map, List.length_nil, List.length_cons, List.length_append]); unfold line; omega)); walk_at "set"))
local macro_rules
  | `(tactic| walk_at "mul") => `(tactic| ((refine opq rfl rfl (ev_mul ?_) ?_); (focus (apply mulT <;> omega))))
local macro_rules
  | `(tactic| walk_at "rm") => `(tactic| repeat first | walk_at "w" | walk_at "x" | walk_at "mul")
local macro_rules
  | `(tactic| walk_at "len") => `(tactic| (refine And.intro ?_ ?_; (focus (simp [line]; done))))
local macro_rules
  | `(tactic| walk_at "rl") => `(tactic| repeat first | walk_at "w" | walk_at "x" | walk_at "len")
local macro_rules
  | `(tactic| walk_at "ril") => `(tactic| repeat first | walk_at "w" | walk_at "x" | walk_at "len" | (with_reducible refine wp_if ?_))
/-! coins: chances together 1 -/
abbrev NN := Nat × Nat
def frN (c : NN) : PV := fr ((c.1 : Int), (c.2 : Int))
def red (D p : Nat) : NN := (p / Nat.gcd p D, D / Nat.gcd p D)
structure Chs (cs : List NN) : Prop where
  ex : ∃ (D : Nat) (ps : List Nat), 1 ≤ D ∧ D ≤ 2000 ∧ ps.sum = D ∧ cs = ps.map (red D)
  len : cs.length ≤ 20
theorem rat_nat {p D : Nat} (hD : 0 < D) : rat (p : Int) (D : Int) = (((red D p).1 : Int), ((red D p).2 : Int)) := by
  unfold rat red
  rw [if_neg (by omega), Int.gcd_natCast_natCast]
  show ((p : Int).fdiv (Nat.gcd p D : Nat), (D : Int).fdiv (Nat.gcd p D : Nat)) = _
  rw [ndiv, ndiv]
theorem le_nsum {ps : List Nat} {p : Nat} (h : p ∈ ps) : p ≤ ps.sum := by
  induction ps with
  | nil => cases h
  | cons a ps ih =>
    rw [List.sum_cons]
    rcases List.mem_cons.mp h with rfl | h
    · omega
    · have := ih h; omega
theorem red_ok {D p : Nat} (hD : 0 < D) (hp : p ≤ D) : (red D p).1 ≤ (red D p).2 ∧ 1 ≤ (red D p).2 ∧ (red D p).2 ≤ D ∧ ((red D p).1 = (red D p).2 → red D p = (1, 1)) := by
  have hg : 0 < Nat.gcd p D := Nat.gcd_pos_of_pos_right _ hD
  have h1 : D = Nat.gcd p D * (D / Nat.gcd p D) := (Nat.mul_div_cancel' (Nat.gcd_dvd_right p D)).symm
  have h2 : p = Nat.gcd p D * (p / Nat.gcd p D) := (Nat.mul_div_cancel' (Nat.gcd_dvd_left p D)).symm
  have h3 : 0 < D / Nat.gcd p D := Nat.div_pos (Nat.le_of_dvd hD (Nat.gcd_dvd_right p D)) hg
  refine ⟨Nat.div_le_div_right hp, h3, Nat.div_le_self _ _, fun e => ?_⟩
  have e' : p / Nat.gcd p D = D / Nat.gcd p D := e
  have : p = D := by rw [h1, ← e', ← h2]
  subst this
  unfold red
  rw [Nat.gcd_self, Nat.div_self hD]
theorem Chs.at' {cs : List NN} (h : Chs cs) {c : NN} (hc : c ∈ cs) : c.1 ≤ c.2 ∧ 1 ≤ c.2 ∧ c.2 ≤ 2000 ∧ (c.1 = c.2 → c = (1, 1)) := by
  obtain ⟨D, ps, h1, h2, h3, rfl⟩ := h.ex
  obtain ⟨p, hp, rfl⟩ := List.mem_map.mp hc
  obtain ⟨a, b, c, d⟩ := red_ok (D := D) (p := p) (by omega) (by have := le_nsum hp; omega)
  exact ⟨a, b, by omega, d⟩
theorem flV_red {D p : Nat} (hD : 0 < D) (k : Nat) : flV (red D p).1 (red D p).2 k = flV p D k := by
  have hg : 0 < Nat.gcd p D := Nat.gcd_pos_of_pos_right _ hD
  have h1 : D = Nat.gcd p D * (D / Nat.gcd p D) := (Nat.mul_div_cancel' (Nat.gcd_dvd_right p D)).symm
  have h2 : p = Nat.gcd p D * (p / Nat.gcd p D) := (Nat.mul_div_cancel' (Nat.gcd_dvd_left p D)).symm
  unfold flV red
  show p / Nat.gcd p D * 2 ^ k / (D / Nat.gcd p D) = p * 2 ^ k / D
  generalize Nat.gcd p D = g at *
  generalize p / g = a at *
  generalize D / g = b at *
  subst h1 h2
  rw [Nat.mul_assoc, Nat.mul_div_mul_left _ _ hg]
def sumFl (cs : List NN) (k : Nat) : Nat := (cs.map fun c => flV c.1 c.2 k).sum
theorem sumFl_le {cs : List NN} (h : Chs cs) (k : Nat) : sumFl cs k ≤ 2 ^ k := by
  obtain ⟨D, ps, h1, h2, h3, rfl⟩ := h.ex
  unfold sumFl
  rw [List.map_map]
  have e : (List.map ((fun c : NN => flV c.1 c.2 k) ∘ red D) ps) = ps.map fun p => p * 2 ^ k / D := by
    apply List.map_congr_left
    intro p _
    exact flV_red (by omega) k
  rw [e]
  have key : ∀ ps : List Nat, (ps.map fun p => p * 2 ^ k / D).sum * D ≤ ps.sum * 2 ^ k := fun ps => by
    induction ps with
    | nil => simp
    | cons a ps ih =>
      rw [List.map_cons, List.sum_cons, List.sum_cons, Nat.add_mul, Nat.add_mul]
      exact Nat.add_le_add (Nat.div_mul_le_self _ _) ih
  have := key ps
  rw [h3, Nat.mul_comm D] at this
  exact Nat.le_of_mul_le_mul_right this (by omega)
/-- the told machine stops with this outcome at toss k -/
def stp (c : NN) (k : Nat) : Bool := if k = 0 then decide (c = (1, 1)) else !decide (c = (1, 1)) && decide (digV c.1 c.2 k = 1)
def stopsL (cs : List NN) (k : Nat) : List Nat := (List.range cs.length).filter fun i => stp (cs.getD i (0, 1)) k
theorem stops_len (cs : List NN) (k : Nat) : (stopsL cs k).length = cs.countP (stp · k) := by
  unfold stopsL
  rw [← List.countP_eq_length_filter]
  have : (List.range cs.length).map (fun i => cs.getD i (0, 1)) = cs := by
    apply List.ext_getElem?
    intro i
    rw [List.getElem?_map]
    by_cases h : i < cs.length
    · rw [List.getElem?_range h]
      simp [List.getD_eq_getElem?_getD, h]
    · rw [List.getElem?_eq_none (by simpa using h), List.getElem?_eq_none (by omega)]; rfl
  conv => rhs; rw [← this]
  rw [List.countP_map]
  rfl
theorem fl0 {c : NN} (h : c.1 ≤ c.2 ∧ 1 ≤ c.2 ∧ c.2 ≤ 2000 ∧ (c.1 = c.2 → c = (1, 1))) : flV c.1 c.2 0 = if stp c 0 then 1 else 0 := by
  obtain ⟨h1, h2, h3, h4⟩ := h
  unfold flV stp
  rw [Nat.pow_zero, Nat.mul_one]
  simp only [if_true, decide_eq_true_eq]
  by_cases e : c = (1, 1)
  · rw [if_pos e, e]; rfl
  · rw [if_neg e]
    have : c.1 ≠ c.2 := fun z => e (h4 z)
    exact Nat.div_eq_of_lt (by omega)
theorem flS {c : NN} (h : c.1 ≤ c.2 ∧ 1 ≤ c.2 ∧ c.2 ≤ 2000 ∧ (c.1 = c.2 → c = (1, 1))) (k : Nat) : flV c.1 c.2 (k + 1) = 2 * flV c.1 c.2 k + if stp c (k + 1) then 1 else 0 := by
  obtain ⟨h1, h2, h3, h4⟩ := h
  rw [flV_succ (by omega)]
  congr 1
  unfold stp
  rw [if_neg (Nat.succ_ne_zero k)]
  by_cases e : c = (1, 1)
  · rw [e, digV_succ]
    unfold restV
    simp [Nat.mod_one]
  · have hd := digV_le (n := c.1) (k := k + 1) (show 0 < c.2 by omega)
    rw [decide_eq_false e, Bool.not_false, Bool.true_and]
    by_cases e2 : digV c.1 c.2 (k + 1) = 1
    · rw [e2]; rfl
    · rw [decide_eq_false e2]
      simp only [Bool.false_eq_true, if_false]
      omega
theorem sumFl_stops {cs : List NN} (h : ∀ c ∈ cs, c.1 ≤ c.2 ∧ 1 ≤ c.2 ∧ c.2 ≤ 2000 ∧ (c.1 = c.2 → c = (1, 1))) : sumFl cs 0 = (stopsL cs 0).length ∧ ∀ k, sumFl cs (k + 1) = 2 * sumFl cs k + (stopsL cs (k + 1)).length := by
  constructor
  · rw [stops_len]
    unfold sumFl
    induction cs with
    | nil => rfl
    | cons c cs ih =>
      rw [List.map_cons, List.sum_cons, List.countP_cons, ih fun x hx => h x (List.mem_cons_of_mem _ hx), fl0 (h c List.mem_cons_self)]
      omega
  · intro k
    rw [stops_len]
    unfold sumFl
    induction cs with
    | nil => rfl
    | cons c cs ih =>
      have := ih fun x hx => h x (List.mem_cons_of_mem _ hx)
      rw [List.map_cons, List.sum_cons, List.map_cons, List.sum_cons, List.countP_cons, this, flS (h c List.mem_cons_self)]
      omega
section
variable {Q : R → List Ob → Prop} {ns ds : List Int}
theorem ev_eqFr {p q : Int × Int} : fEq (.pv (fr p)) (.pv (fr q)) = some (.val (.bool (decide (p = q)))) := by
  have hs : ∀ p : Int × Int, SeqAt.shaped (fr p) = true := fun p => rfl
  have he : PyData.eqv (fr p) (fr q) = decide (p = q) := by
    unfold fr
    simp only [PyData.eqv, PyData.eqvAll, Bool.and_true]
    by_cases c : p = q
    · subst c; simp
    · rw [decide_eq_false c]
      by_cases c1 : p.1 = q.1
      · have : p.2 ≠ q.2 := fun z => c (Prod.ext c1 z)
        simp [c1, this]
      · simp [c1]
  show (if SeqAt.shaped (fr p) = true ∧ SeqAt.shaped (fr q) = true then some (R.val (.bool (false ^^ PyData.eqv (fr p) (fr q)))) else none) = _
  rw [if_pos ⟨hs p, hs q⟩, he, Bool.false_xor]
theorem ev_neFr {p q : Int × Int} : fNe (.pv (fr p)) (.pv (fr q)) = some (.val (.bool (!decide (p = q)))) := by
  have h := ev_eqFr (p := p) (q := q)
  have hs : ∀ p : Int × Int, SeqAt.shaped (fr p) = true := fun p => rfl
  have h1 : fEq (.pv (fr p)) (.pv (fr q)) = some (R.val (.bool (false ^^ PyData.eqv (fr p) (fr q)))) := by
    show (if SeqAt.shaped (fr p) = true ∧ SeqAt.shaped (fr q) = true then some (R.val (.bool (false ^^ PyData.eqv (fr p) (fr q)))) else none) = _
    rw [if_pos ⟨hs p, hs q⟩]
  rw [h1] at h
  injection h with h; injection h with h; injection h with h
  rw [Bool.false_xor] at h
  show (if SeqAt.shaped (fr p) = true ∧ SeqAt.shaped (fr q) = true then some (R.val (.bool (true ^^ PyData.eqv (fr p) (fr q)))) else none) = _
  rw [if_pos ⟨hs p, hs q⟩, h, Bool.true_xor]
theorem eone (c : NN) : decide (((c.1 : Int), (c.2 : Int)) = (1, 1)) = decide (c = (1, 1)) := by
  by_cases e : c = (1, 1)
  · subst e; rfl
  · rw [decide_eq_false e, decide_eq_false (fun z => e (by injection z with z1 z2; exact Prod.ext (by omega) (by omega)))]
theorem ev_eqOne {c : NN} : fEq (.pv (frN c)) (.pv (.tuple [.int 1, .int 1])) = some (.val (.bool (decide (c = (1, 1))))) := by rw [← eone]; exact ev_eqFr (q := (1, 1))
theorem ev_neOne {c : NN} : fNe (.pv (frN c)) (.pv (.tuple [.int 1, .int 1])) = some (.val (.bool (!decide (c = (1, 1))))) := by rw [← eone]; exact ev_neFr (q := (1, 1))
end
local macro_rules
  | `(tactic| walk_at "w") => `(tactic| with_reducible first
    | refine seq_nx ?_ | refine seq_rt ?_ | refine seq_bk ?_ | refine seq_ct ?_ | refine wp_seq ?_ | refine wp_asg ?_ | refine wp_next ?_ | refine wp_ret ?_ | refine wp_retN ?_ | refine wp_brk ?_ | refine wp_cont ?_ | refine wp_expr ?_ | refine wp_op ?_ | refine wp_un ?_ | refine wp_c ?_
    | refine unB ?_ | refine wp_truB ?_ | refine wp_and ?_ | refine wp_or ?_ | refine wp_not ?_ | refine wp_ifE ?_ | refine wp_tup ?_ | refine wp_lst ?_ | refine wp_lcons ?_ | refine wp_lnil ?_ | refine frzV ?_ | refine frzN ?_ | refine wp_frz ?_ | refine wp_sl ?_ | refine wp_onone ?_ | refine wp_osome ?_
    | refine wp_anil ?_ | refine wp_av ?_ | refine wp_andV ?_ | refine wp_orV ?_ | refine wp_notV ?_ | refine wp_fgtR ?_ | refine turn_nx ?_ | refine turn_rt ?_ | refine turn_bk ?_ | refine turn_ct ?_ | refine fgt_rt ?_ | refine wp_par ?_ | refine wp_chain ?_ | refine wp_seqI ?_)
local macro_rules
  | `(tactic| walk_at "put") => `(tactic| focus ((repeat apply PutR.s); first | exact PutR.z rfl | exact PutR.z (by assumption)))
local macro_rules
  | `(tactic| walk_at "set") => `(tactic| focus ((repeat apply SetR.s); first | exact SetR.o | exact SetR.r))
local macro_rules
  | `(tactic| walk_at "fgt") => `(tactic| focus (repeat first | exact FgtsR.nil | exact FgtR.k | exact FgtR.z rfl | exact FgtR.z (by assumption) | apply FgtR.s | apply FgtsR.cons))
local macro_rules
  | `(tactic| walk_at "x") => `(tactic| first
    | ((with_reducible apply wp_varV); (focus exact rfl)) | ((with_reducible apply wp_varO); (focus exact rfl)) | ((with_reducible apply wp_varR); (focus exact rfl))
    | ((with_reducible apply opq); (focus exact rfl); (focus exact rfl); (focus (first | exact ev_eqI | exact ev_neI | exact ev_ltI | exact ev_leI | exact ev_gtI | exact ev_geI | exact ev_eqOne | exact ev_neOne | exact ev_in2 | exact ev_in2n | exact ev_in4n | exact ev_isT | exact ev_isF | exact ev_isnT | exact ev_isnF | exact ev_strT | exact ev_strF n1 | exact ev_strF n2 | exact ev_strF n3 | exact ev_strF n4 | exact ev_strF n5 | exact ev_strF n6 | exact rfl)))
    | ((with_reducible apply unq); (focus exact rfl); (focus exact rfl))
    | ((with_reducible first | apply putqV | apply putqN); walk_at "put")
    | ((with_reducible apply putqB); (focus exact rfl); (focus exact rfl); walk_at "put"; walk_at "put")
    | ((with_reducible apply putq2); walk_at "put"; walk_at "put")
    | ((with_reducible apply parq); walk_at "put"; walk_at "put")
    | ((with_reducible apply wp_callR); (focus (repeat first | exact RefsR.nil | apply RefsR.v | apply RefsR.r)); (focus decide))
    | ((with_reducible apply wp_ar); (focus exact rfl))
    | ((with_reducible apply fin_rt); (focus exact rfl); (focus exact rfl))
    | ((with_reducible apply fin_nx); (focus exact rfl))
    | ((with_reducible apply wp_appendR); (focus exact rfl))
    | (with_reducible refine ⟨_, rfl, ?_⟩) | (with_reducible refine ⟨_, .inl rfl, ?_⟩) | (with_reducible refine ⟨_, .inr (.inl rfl), ?_⟩) | (with_reducible refine ⟨_, .inr (.inr rfl), ?_⟩)
    | (with_reducible apply callq0) | ((with_reducible apply frzB); (focus exact rfl); (focus exact rfl); walk_at "put")
    | ((with_reducible apply callq1); walk_at "set")
    | ((with_reducible apply callq2); walk_at "set"; walk_at "set")
    | ((with_reducible first | apply fgt_nx | apply fgt_bk | apply fgt_ct); walk_at "fgt")
    | ((with_reducible apply brT); (focus exact rfl)) | ((with_reducible apply brF); (focus exact rfl)))
local macro_rules
  | `(tactic| walk_at "r") => `(tactic| repeat first | walk_at "w" | walk_at "x")
local macro_rules
  | `(tactic| walk_at "ri") => `(tactic| repeat first | walk_at "w" | walk_at "x" | (with_reducible refine wp_if ?_))
local macro_rules
  | `(tactic| walk_at "app") => `(tactic| ((with_reducible apply appq); (focus exact rfl); (focus ((try simp only [List.length_map, List.length_nil, List.length_cons, List.length_append]); unfold line; omega)); walk_at "set"))
local macro_rules
  | `(tactic| walk_at "mul") => `(tactic| ((refine opq rfl rfl (ev_mul ?_) ?_); (focus (apply mulT <;> omega))))
local macro_rules
  | `(tactic| walk_at "rm") => `(tactic| repeat first | walk_at "w" | walk_at "x" | walk_at "mul")
local macro_rules
  | `(tactic| walk_at "len") => `(tactic| (refine And.intro ?_ ?_; (focus (simp [line]; done))))
local macro_rules
  | `(tactic| walk_at "rl") => `(tactic| repeat first | walk_at "w" | walk_at "x" | walk_at "len")
local macro_rules
  | `(tactic| walk_at "ril") => `(tactic| repeat first | walk_at "w" | walk_at "x" | walk_at "len" | (with_reducible refine wp_if ?_))
section
variable {Q : R → List Ob → Prop} {ns ds : List Int}
theorem psort_perm' (ns : List Int) : (isort ns).Perm ns := List.mergeSort_perm _ _
theorem psort_pw' (ns : List Int) : (isort ns).Pairwise (· ≤ ·) := by
  have h := List.pairwise_mergeSort (le := fun a b : Int => decide (a ≤ b)) (fun a b c h1 h2 => by simp only [decide_eq_true_eq] at *; omega) (fun a b => by simp only [Bool.or_eq_true, decide_eq_true_eq]; omega) ns
  exact h.imp (fun z => of_decide_eq_true z)
theorem ev_sorted' {xs : List Int} : fSorted (.ob (.lst (xs.map PyData.int))) = some (.new (.lst ((isort xs).map PyData.int))) := by simp [fSorted, Ct.lst?, ints_map]
def chsV (cs : List NN) : PV := .tuple (cs.map frN)
theorem ch_at {cs : List NN} {i : Nat} (h : i < cs.length) : fIx (.pv (chsV cs)) (.pv (.int (i : Int))) = some (.val (frN cs[i])) := ev_ix (.inl rfl) (atI_nat (by simp [h]))
theorem tel {C : List Int} : ∀ m, m < C.length → ((List.range m).map fun k => C.getD (k + 1) 0 - C.getD k 0).sum = C.getD m 0 - C.getD 0 0 := by
  intro m
  induction m with
  | zero => intro _; simp
  | succ m ih =>
    intro h
    rw [List.range_succ, List.map_append, List.sum_append, ih (by omega)]
    simp
    omega
theorem of_coin_chances {d many : Nat} (hd : 1 ≤ d) (hd2 : d ≤ 2000) (hm1 : 1 ≤ many) (hm : many ≤ 20) (k : ∀ cs ds', Chs cs → cs.length = many → Q (.val (chsV cs)) [intsO ds']) : Ret d_law_chances_2 [.ref (intsO ds), .val (.int d), .val (.int many)] Q := by
  refine ret_mkR (by repeat constructor) ?_
  unfold b_law_chances_2
  walk_at "r"
  refine wp_lc natI' (fun done acc ρ => ∃ (xs ds : List Int) (u : Option Sl), isRef u = false ∧ acc = xs.map PyData.int ∧ xs.length = done.length ∧ (∀ x ∈ xs, 0 ≤ x ∧ x ≤ d) ∧ ρ = [some (.ref (intsO ds)), some (.val (.int d)), some (.val (.int many)), none, u]) ?_
  refine wp_rng1 ?_
  walk_at "r"
  rw [show ((many : Int) - 1).toNat = many - 1 by omega]
  refine ⟨⟨by unfold line; omega, by omega⟩, List.range (many - 1), rfl, by simp [line]; omega, ⟨[], ds, none, rfl, rfl, rfl, by simp, rfl⟩, ?_, ?_⟩
  · rintro done y rest acc _ e ⟨xs, ds, u, hu, rfl, x1, x2, rfl⟩
    refine lcqY rfl ?_
    dsimp only [wipe, set_s, set_z, natI']
    unfold e1_law_chances_2
    walk_at "r"
    refine of_take (by omega) fun x ds hx1 hx2 => ?_
    walk_at "r"
    refine ⟨xs ++ [x], ds, _, rfl, by simp, by simp [x1], fun z hz => ?_, rfl⟩
    rcases List.mem_append.mp hz with hz | hz
    · exact x2 z hz
    · rw [List.mem_singleton.mp hz]; omega
  rintro _ _ ⟨xs, ds, u, hu, rfl, x1, x2, rfl⟩
  dsimp only [back, set_s, set_z, get_s, get_z]
  rw [List.length_range] at x1
  walk_at "r"
  refine unq rfl ev_sorted' ?_
  have sl : (isort xs).length = xs.length := (psort_perm' _).length_eq
  have sm : ∀ x ∈ isort xs, 0 ≤ x ∧ x ≤ d := fun x hx => x2 x ((psort_perm' _).mem_iff.mp hx)
  have sp := psort_pw' xs
  generalize isort xs = srt at *
  walk_at "rl"
  refine opq rfl rfl (ev_addL (by simp [line]; omega)) ?_
  walk_at "rl"
  refine opq rfl rfl (ev_addL (by simp [line]; omega)) ?_
  walk_at "r"
  obtain ⟨C, hC⟩ : ∃ C : List Int, C = [0] ++ srt ++ [(d : Int)] := ⟨_, rfl⟩
  have eC : [PyData.int 0] ++ srt.map PyData.int ++ [PyData.int d] = C.map PyData.int := by rw [hC]; simp
  have lC : C.length = many + 1 := by rw [hC]; simp; omega
  have pC : C.Pairwise (· ≤ ·) := by
    rw [hC, List.pairwise_append]
    refine ⟨?_, by simp, fun a ha b hb => ?_⟩
    · rw [List.singleton_append, List.pairwise_cons]
      exact ⟨fun a ha => (sm a ha).1, sp⟩
    · rw [List.mem_singleton.mp hb]
      rcases List.mem_append.mp ha with ha | ha
      · rw [List.mem_singleton.mp ha]; omega
      · exact (sm a ha).2
  have c0 : C.getD 0 0 = 0 := by rw [hC]; rfl
  have cm : C.getD many 0 = d := by
    rw [hC, List.getD_eq_getElem?_getD, List.getElem?_append_right (by simp; omega)]
    have : many - ([0] ++ srt).length = 0 := by simp; omega
    rw [this]; rfl
  rw [eC]
  clear hC eC
  have step : ∀ k, k < many → 0 ≤ C.getD (k + 1) 0 - C.getD k 0 := fun k hk => by
    have h1 : k < C.length := by omega
    have h2 : k + 1 < C.length := by omega
    have := List.pairwise_iff_getElem.mp pC k (k + 1) h1 h2 (by omega)
    simp only [List.getD_eq_getElem?_getD, List.getElem?_eq_getElem h1, List.getElem?_eq_getElem h2, Option.getD_some]
    omega
  refine wp_lc natI' (fun done acc ρ => acc = (done.map fun k => red d (C.getD (k + 1) 0 - C.getD k 0).toNat).map frN ∧ ∃ u, isRef u = false ∧ ρ = [some (.ref (intsO ds)), some (.val (.int d)), some (.val (.int many)), some (.own (.lst (C.map PyData.int))), u]) ?_
  refine wp_rng1 ?_
  walk_at "r"
  rw [show ((many : Nat) : Int).toNat = many by omega]
  refine ⟨⟨by unfold line; omega, by omega⟩, List.range many, rfl, by simp [line]; omega, ⟨rfl, none, rfl, rfl⟩, ?_, ?_⟩
  · rintro done y rest acc _ e ⟨rfl, u, hu, rfl⟩
    have hy := range_at'' e
    have h1 : y < C.length := by omega
    have h2 : y + 1 < C.length := by omega
    have hst := step y hy
    refine lcqY rfl ?_
    dsimp only [wipe, set_s, set_z, natI']
    unfold e2_law_chances_2
    walk_at "r"
    rw [show (y : Int) + 1 = ((y + 1 : Nat) : Int) by omega]
    refine opq rfl rfl (ev_ix (.inr (.inr rfl)) (atI_int h2)) ?_
    walk_at "r"
    refine opq rfl rfl (ev_ix (.inr (.inr rfl)) (atI_int h1)) ?_
    walk_at "r"
    have e1 : C[y + 1] - C[y] = (((C.getD (y + 1) 0 - C.getD y 0).toNat : Nat) : Int) := by
      rw [Int.toNat_of_nonneg hst]
      simp only [List.getD_eq_getElem?_getD, List.getElem?_eq_getElem h1, List.getElem?_eq_getElem h2, Option.getD_some]
    rw [e1]
    refine of_lfraction (by omega) ?_
    rw [rat_nat (by omega)]
    walk_at "r"
    exact ⟨by simp [frN], _, rfl, rfl⟩
  rintro _ _ ⟨rfl, u, hu, rfl⟩
  dsimp only [back, set_s, set_z, get_s, get_z]
  walk_at "r"
  refine k ((List.range many).map fun k => red d (C.getD (k + 1) 0 - C.getD k 0).toNat) ds ⟨⟨d, (List.range many).map fun k => (C.getD (k + 1) 0 - C.getD k 0).toNat, hd, hd2, ?_, by rw [List.map_map]; rfl⟩, by simp; omega⟩ (by simp)
  have ht := tel (C := C) many (by omega)
  rw [c0, cm] at ht
  have key : ∀ m, m ≤ many → ((((List.range m).map fun k => (C.getD (k + 1) 0 - C.getD k 0).toNat).sum : Nat) : Int) = ((List.range m).map fun k => C.getD (k + 1) 0 - C.getD k 0).sum := by
    intro m
    induction m with
    | zero => intro _; rfl
    | succ m ih =>
      intro h
      rw [List.range_succ, List.map_append, List.map_append, List.sum_append, List.sum_append, Int.natCast_add, ih (by omega)]
      have := step m (by omega)
      simp only [List.map_cons, List.map_nil, List.sum_cons, List.sum_nil]
      omega
  have := key many (Nat.le_refl _)
  rw [ht] at this
  omega
theorem of_stops {cs : List NN} (hl : cs.length ≤ 20) (h : ∀ c ∈ cs, 1 ≤ c.2 ∧ c.2 ≤ 2000 ∧ c.1 ≤ 2000) {k : Nat} (q : Q (.new (.lst ((stopsL cs k).map nI))) []) : Ret d_stops [.val (chsV cs), .val (.int k)] Q := by
  refine ret_mkR (by repeat constructor) ?_
  unfold b_stops
  walk_at "ri"
  refine branchD (fun hk => ?_) fun hk => ?_
  · have hk : k = 0 := by omega
    subst hk
    walk_at "r"
    refine wp_lc natI' (fun done acc ρ => acc = (done.filter fun i => stp (cs.getD i (0, 1)) 0).map nI ∧ ∃ u, isRef u = false ∧ ρ = [some (.val (chsV cs)), some (.val (.int (0 : Nat))), none, u]) ?_
    refine wp_rng1 ?_
    walk_at "r"
    rw [List.length_map, show ((cs.length : Nat) : Int).toNat = cs.length by omega]
    refine ⟨⟨by unfold line; omega, by omega⟩, List.range cs.length, rfl, by simp [line]; omega, ⟨rfl, none, rfl, rfl⟩, ?_, ?_⟩
    · rintro done y rest acc _ e ⟨rfl, u, hu, rfl⟩
      have hy := range_at'' e
      have e0 : cs.getD y (0, 1) = cs[y] := by rw [List.getD_eq_getElem?_getD, List.getElem?_eq_getElem hy]; rfl
      unfold LcQ
      dsimp only [wipe, set_s, set_z, natI']
      unfold t2_stops e1_stops
      walk_at "r"
      refine opq rfl rfl (ch_at hy) ?_
      walk_at "r"
      refine branchD (fun hc => ?_) fun hc => ?_
      · walk_at "r"
        refine ⟨?_, _, rfl, rfl⟩
        rw [List.filter_append, List.map_append, List.filter_cons_of_pos (by rw [e0]; simp [stp, hc])]
        rfl
      · walk_at "r"
        refine ⟨?_, _, rfl, rfl⟩
        rw [List.filter_append, List.map_append, List.filter_cons_of_neg (by rw [e0]; simp [stp, hc])]
        rfl
    rintro _ _ ⟨rfl, u, hu, rfl⟩
    dsimp only [back, set_s, set_z, get_s, get_z]
    walk_at "r"
    exact q
  · walk_at "r"
    refine wp_lc natI' (fun done acc ρ => acc = (done.filter fun i => !decide (cs.getD i (0, 1) = (1, 1))).map nI ∧ ∃ u, isRef u = false ∧ ρ = [some (.val (chsV cs)), some (.val (.int k)), none, u]) ?_
    refine wp_rng1 ?_
    walk_at "r"
    rw [List.length_map, show ((cs.length : Nat) : Int).toNat = cs.length by omega]
    refine ⟨⟨by unfold line; omega, by omega⟩, List.range cs.length, rfl, by simp [line]; omega, ⟨rfl, none, rfl, rfl⟩, ?_, ?_⟩
    · rintro done y rest acc _ e ⟨rfl, u, hu, rfl⟩
      have hy := range_at'' e
      have e0 : cs.getD y (0, 1) = cs[y] := by rw [List.getD_eq_getElem?_getD, List.getElem?_eq_getElem hy]; rfl
      unfold LcQ
      dsimp only [wipe, set_s, set_z, natI']
      unfold t4_stops e3_stops
      walk_at "r"
      refine opq rfl rfl (ch_at hy) ?_
      walk_at "r"
      refine branchN (fun hc => ?_) fun hc => ?_
      · walk_at "r"
        refine ⟨?_, _, rfl, rfl⟩
        rw [List.filter_append, List.map_append, List.filter_cons_of_pos (by rw [e0, hc]; rfl)]
        rfl
      · walk_at "r"
        refine ⟨?_, _, rfl, rfl⟩
        rw [List.filter_append, List.map_append, List.filter_cons_of_neg (by rw [e0, hc]; simp)]
        rfl
    rintro _ _ ⟨rfl, u, hu, rfl⟩
    dsimp only [back, set_s, set_z, get_s, get_z]
    have hL : ((List.range cs.length).filter fun i => !decide (cs.getD i (0, 1) = (1, 1))).length ≤ cs.length := by
      have := List.length_filter_le (fun i => !decide (cs.getD i (0, 1) = (1, 1))) (List.range cs.length)
      simpa using this
    have hm : ∀ y ∈ ((List.range cs.length).filter fun i => !decide (cs.getD i (0, 1) = (1, 1))), y < cs.length := fun y hy => List.mem_range.mp (List.mem_filter.mp hy).1
    walk_at "r"
    refine wp_lc nI (fun done acc ρ => acc = (done.filter fun i => decide (digV (cs.getD i (0, 1)).1 (cs.getD i (0, 1)).2 k = 1)).map nI ∧ ∃ u, isRef u = false ∧ ρ = [some (.val (chsV cs)), some (.val (.int k)), some (.val (.list (((List.range cs.length).filter fun i => !decide (cs.getD i (0, 1) = (1, 1))).map nI))), u]) ?_
    walk_at "r"
    refine ⟨by unfold line; omega, ⟨rfl, none, rfl, rfl⟩, ?_, ?_⟩
    · rintro done y rest acc _ e ⟨rfl, u, hu, rfl⟩
      have hy : y < cs.length := hm y (by rw [e]; simp)
      have e0 : cs.getD y (0, 1) = cs[y] := by rw [List.getD_eq_getElem?_getD, List.getElem?_eq_getElem hy]; rfl
      obtain ⟨a1, a2, a3⟩ := h _ (List.getElem_mem hy)
      unfold LcQ
      dsimp only [wipe, set_s, set_z, nI]
      unfold t6_stops e5_stops
      walk_at "r"
      refine opq rfl rfl (ch_at hy) ?_
      walk_at "r"
      refine of_digit (n := cs[y].1) (d := cs[y].2) a1 (by omega) (by omega) ?_
      walk_at "r"
      refine branchD (fun hc => ?_) fun hc => ?_
      · walk_at "r"
        refine ⟨?_, _, rfl, rfl⟩
        rw [List.filter_append, List.map_append, List.filter_cons_of_pos (by rw [e0]; simp; omega)]
        rfl
      · walk_at "r"
        refine ⟨?_, _, rfl, rfl⟩
        rw [List.filter_append, List.map_append, List.filter_cons_of_neg (by rw [e0]; simp; omega)]
        rfl
    rintro _ _ ⟨rfl, u, hu, rfl⟩
    dsimp only [back, set_s, set_z, get_s, get_z]
    walk_at "r"
    have : stopsL cs k = ((List.range cs.length).filter fun i => !decide (cs.getD i (0, 1) = (1, 1))).filter fun i => decide (digV (cs.getD i (0, 1)).1 (cs.getD i (0, 1)).2 k = 1) := by
      unfold stopsL
      rw [List.filter_filter]
      apply List.filter_congr
      intro i _
      unfold stp
      rw [if_neg (show ¬ k = 0 from fun z => hk (by omega)), Bool.and_comm]
    rw [← this]
    exact q
end
end Py
namespace Py
open PySem D
local macro_rules
  | `(tactic| walk_at "w") => `(tactic| with_reducible first
    | refine seq_nx ?_ | refine seq_rt ?_ | refine seq_bk ?_ | refine seq_ct ?_ | refine wp_seq ?_ | refine wp_asg ?_ | refine wp_next ?_ | refine wp_ret ?_ | refine wp_retN ?_ | refine wp_brk ?_ | refine wp_cont ?_ | refine wp_expr ?_ | refine wp_op ?_ | refine wp_un ?_ | refine wp_c ?_
    | refine unB ?_ | refine wp_truB ?_ | refine wp_and ?_ | refine wp_or ?_ | refine wp_not ?_ | refine wp_ifE ?_ | refine wp_tup ?_ | refine wp_lst ?_ | refine wp_lcons ?_ | refine wp_lnil ?_ | refine frzV ?_ | refine frzN ?_ | refine wp_frz ?_ | refine wp_sl ?_ | refine wp_onone ?_ | refine wp_osome ?_
    | refine wp_anil ?_ | refine wp_av ?_ | refine wp_andV ?_ | refine wp_orV ?_ | refine wp_notV ?_ | refine wp_fgtR ?_ | refine turn_nx ?_ | refine turn_rt ?_ | refine turn_bk ?_ | refine turn_ct ?_ | refine fgt_rt ?_ | refine wp_par ?_ | refine wp_chain ?_ | refine wp_seqI ?_)
local macro_rules
  | `(tactic| walk_at "put") => `(tactic| focus ((repeat apply PutR.s); first | exact PutR.z rfl | exact PutR.z (by assumption)))
local macro_rules
  | `(tactic| walk_at "set") => `(tactic| focus ((repeat apply SetR.s); first | exact SetR.o | exact SetR.r))
local macro_rules
  | `(tactic| walk_at "fgt") => `(tactic| focus (repeat first | exact FgtsR.nil | exact FgtR.k | exact FgtR.z rfl | exact FgtR.z (by assumption) | apply FgtR.s | apply FgtsR.cons))
local macro_rules
  | `(tactic| walk_at "x") => `(tactic| first
    | ((with_reducible apply wp_varV); (focus exact rfl)) | ((with_reducible apply wp_varO); (focus exact rfl)) | ((with_reducible apply wp_varR); (focus exact rfl))
    | ((with_reducible apply opq); (focus exact rfl); (focus exact rfl); (focus (first | exact ev_eqI | exact ev_neI | exact ev_ltI | exact ev_leI | exact ev_gtI | exact ev_geI | exact ev_in2 | exact ev_in2n | exact ev_in4n | exact ev_isT | exact ev_isF | exact ev_isnT | exact ev_isnF | exact ev_strT | exact ev_strF n1 | exact ev_strF n2 | exact ev_strF n3 | exact ev_strF n4 | exact ev_strF n5 | exact ev_strF n6 | exact rfl)))
    | ((with_reducible apply unq); (focus exact rfl); (focus exact rfl))
    | ((with_reducible first | apply putqV | apply putqN); walk_at "put")
    | ((with_reducible apply putqB); (focus exact rfl); (focus exact rfl); walk_at "put"; walk_at "put")
    | ((with_reducible apply putq2); walk_at "put"; walk_at "put")
    | ((with_reducible apply parq); walk_at "put"; walk_at "put")
    | ((with_reducible apply wp_callR); (focus (repeat first | exact RefsR.nil | apply RefsR.v | apply RefsR.r)); (focus decide))
    | ((with_reducible apply wp_ar); (focus exact rfl))
    | ((with_reducible apply fin_rt); (focus exact rfl); (focus exact rfl))
    | ((with_reducible apply fin_nx); (focus exact rfl))
    | ((with_reducible apply wp_appendR); (focus exact rfl))
    | (with_reducible refine ⟨_, rfl, ?_⟩) | (with_reducible refine ⟨_, .inl rfl, ?_⟩) | (with_reducible refine ⟨_, .inr (.inl rfl), ?_⟩) | (with_reducible refine ⟨_, .inr (.inr rfl), ?_⟩)
    | (with_reducible apply callq0) | ((with_reducible apply frzB); (focus exact rfl); (focus exact rfl); walk_at "put")
    | ((with_reducible apply callq1); walk_at "set")
    | ((with_reducible apply callq2); walk_at "set"; walk_at "set")
    | ((with_reducible first | apply fgt_nx | apply fgt_bk | apply fgt_ct); walk_at "fgt")
    | ((with_reducible apply brT); (focus exact rfl)) | ((with_reducible apply brF); (focus exact rfl)))
local macro_rules
  | `(tactic| walk_at "r") => `(tactic| repeat first | walk_at "w" | walk_at "x")
local macro_rules
  | `(tactic| walk_at "ri") => `(tactic| repeat first | walk_at "w" | walk_at "x" | (with_reducible refine wp_if ?_))
local macro_rules
  | `(tactic| walk_at "app") => `(tactic| ((with_reducible apply appq); (focus exact rfl); (focus ((try simp only [List.length_map, List.length_nil, List.length_cons, List.length_append]); unfold line; omega)); walk_at "set"))
local macro_rules
  | `(tactic| walk_at "mul") => `(tactic| ((refine opq rfl rfl (ev_mul ?_) ?_); (focus (apply mulT <;> omega))))
local macro_rules
  | `(tactic| walk_at "rm") => `(tactic| repeat first | walk_at "w" | walk_at "x" | walk_at "mul")
local macro_rules
  | `(tactic| walk_at "len") => `(tactic| (refine And.intro ?_ ?_; (focus (simp [line]; done))))
local macro_rules
  | `(tactic| walk_at "rl") => `(tactic| repeat first | walk_at "w" | walk_at "x" | walk_at "len")
local macro_rules
  | `(tactic| walk_at "ril") => `(tactic| repeat first | walk_at "w" | walk_at "x" | walk_at "len" | (with_reducible refine wp_if ?_))
section
variable {Q : R → List Ob → Prop} {ns ds : List Int}
theorem of_denominator (k : ∀ (d : Nat) ds', 1 ≤ d → d ≤ 2000 → Q (.val (.int d)) [intsO ds']) : Ret d_law_denominator [.ref (intsO ds)] Q := by
  refine ret_mkR (by repeat constructor) ?_
  unfold b_law_denominator
  walk_at "r"
  refine of_take (by decide) fun kd ds _ _ => ?_
  walk_at "ri"
  refine branchD (fun h => ?_) fun h => ?_
  · walk_at "r"
    refine of_take (by decide) fun x ds hx1 hx2 => ?_
    obtain ⟨x, rfl⟩ := Int.eq_ofNat_of_zero_le hx1
    walk_at "r"
    rw [show (1 : Int) + x = ((x + 1 : Nat) : Int) by omega]
    exact k _ ds (by omega) (by omega)
  walk_at "ri"
  refine branchD (fun h => ?_) fun h => ?_
  · walk_at "rl"
    refine of_take (by decide) fun i ds hi1 hi2 => ?_
    walk_at "r"
    obtain ⟨w, hm, hw⟩ := pickI (xs := [2, 4, 8, 16, 64, 256, 1024, 1000]) hi1 hi2
    simp only [List.mem_cons, List.not_mem_nil, or_false] at hm
    obtain ⟨w, rfl⟩ := Int.eq_ofNat_of_zero_le (show 0 ≤ w by omega)
    refine opq rfl rfl (ev_ix (.inr (.inr rfl)) hw) ?_
    walk_at "r"
    exact k w ds (by omega) (by omega)
  walk_at "ri"
  refine branchD (fun h => ?_) fun h => ?_
  · walk_at "rl"
    refine of_take (by decide) fun i ds hi1 hi2 => ?_
    walk_at "r"
    obtain ⟨w, hm, hw⟩ := pickI (xs := [1999, 1997, 2000, 1987, 1023, 1536, 31, 17]) hi1 hi2
    simp only [List.mem_cons, List.not_mem_nil, or_false] at hm
    obtain ⟨w, rfl⟩ := Int.eq_ofNat_of_zero_le (show 0 ≤ w by omega)
    refine opq rfl rfl (ev_ix (.inr (.inr rfl)) hw) ?_
    walk_at "r"
    exact k w ds (by omega) (by omega)
  walk_at "rl"
  refine of_take (by decide) fun i ds hi1 hi2 => ?_
  walk_at "r"
  obtain ⟨w, hm, hw⟩ := pickI (xs := [100, 100, 2000]) hi1 hi2
  simp only [List.mem_cons, List.not_mem_nil, or_false] at hm
  refine opq rfl rfl (ev_ix (.inr (.inr rfl)) hw) ?_
  walk_at "r"
  refine of_take (by omega) fun x ds hx1 hx2 => ?_
  obtain ⟨x, rfl⟩ := Int.eq_ofNat_of_zero_le hx1
  walk_at "r"
  rw [show (1 : Int) + x = ((x + 1 : Nat) : Int) by omega]
  exact k _ ds (by omega) (by omega)
end
end Py
namespace Py
open PySem D
local macro_rules
  | `(tactic| walk_at "w") => `(tactic| with_reducible first
    | refine seq_nx ?_ | refine seq_rt ?_ | refine seq_bk ?_ | refine seq_ct ?_ | refine wp_seq ?_ | refine wp_asg ?_ | refine wp_next ?_ | refine wp_ret ?_ | refine wp_retN ?_ | refine wp_brk ?_ | refine wp_cont ?_ | refine wp_expr ?_ | refine wp_op ?_ | refine wp_un ?_ | refine wp_c ?_
    | refine unB ?_ | refine wp_truB ?_ | refine wp_and ?_ | refine wp_or ?_ | refine wp_not ?_ | refine wp_ifE ?_ | refine wp_tup ?_ | refine wp_lst ?_ | refine wp_lcons ?_ | refine wp_lnil ?_ | refine frzV ?_ | refine frzN ?_ | refine wp_frz ?_ | refine wp_sl ?_ | refine wp_onone ?_ | refine wp_osome ?_
    | refine wp_anil ?_ | refine wp_av ?_ | refine wp_andV ?_ | refine wp_orV ?_ | refine wp_notV ?_ | refine wp_fgtR ?_ | refine turn_nx ?_ | refine turn_rt ?_ | refine turn_bk ?_ | refine turn_ct ?_ | refine fgt_rt ?_ | refine wp_par ?_ | refine wp_chain ?_ | refine wp_seqI ?_)
local macro_rules
  | `(tactic| walk_at "put") => `(tactic| focus ((repeat apply PutR.s); first | exact PutR.z rfl | exact PutR.z (by assumption)))
local macro_rules
  | `(tactic| walk_at "set") => `(tactic| focus ((repeat apply SetR.s); first | exact SetR.o | exact SetR.r))
local macro_rules
  | `(tactic| walk_at "fgt") => `(tactic| focus (repeat first | exact FgtsR.nil | exact FgtR.k | exact FgtR.z rfl | exact FgtR.z (by assumption) | apply FgtR.s | apply FgtsR.cons))
local macro_rules
  | `(tactic| walk_at "x") => `(tactic| first
    | ((with_reducible apply wp_varV); (focus exact rfl)) | ((with_reducible apply wp_varO); (focus exact rfl)) | ((with_reducible apply wp_varR); (focus exact rfl))
    | ((with_reducible apply opq); (focus exact rfl); (focus exact rfl); (focus (first | exact ev_eqI | exact ev_neI | exact ev_ltI | exact ev_leI | exact ev_gtI | exact ev_geI | exact ev_eqOne | exact ev_neOne | exact ev_in2 | exact ev_in2n | exact ev_in4n | exact ev_isT | exact ev_isF | exact ev_isnT | exact ev_isnF | exact ev_strT | exact ev_strF n1 | exact ev_strF n2 | exact ev_strF n3 | exact ev_strF n4 | exact ev_strF n5 | exact ev_strF n6 | exact rfl)))
    | ((with_reducible apply unq); (focus exact rfl); (focus exact rfl))
    | ((with_reducible first | apply putqV | apply putqN); walk_at "put")
    | ((with_reducible apply putqB); (focus exact rfl); (focus exact rfl); walk_at "put"; walk_at "put")
    | ((with_reducible apply putq2); walk_at "put"; walk_at "put")
    | ((with_reducible apply parq); walk_at "put"; walk_at "put")
    | ((with_reducible apply wp_callR); (focus (repeat first | exact RefsR.nil | apply RefsR.v | apply RefsR.r)); (focus decide))
    | ((with_reducible apply wp_ar); (focus exact rfl))
    | ((with_reducible apply fin_rt); (focus exact rfl); (focus exact rfl))
    | ((with_reducible apply fin_nx); (focus exact rfl))
    | ((with_reducible apply wp_appendR); (focus exact rfl))
    | (with_reducible refine ⟨_, rfl, ?_⟩) | (with_reducible refine ⟨_, .inl rfl, ?_⟩) | (with_reducible refine ⟨_, .inr (.inl rfl), ?_⟩) | (with_reducible refine ⟨_, .inr (.inr rfl), ?_⟩)
    | (with_reducible apply callq0) | ((with_reducible apply frzB); (focus exact rfl); (focus exact rfl); walk_at "put")
    | ((with_reducible apply callq1); walk_at "set")
    | ((with_reducible apply callq2); walk_at "set"; walk_at "set")
    | ((with_reducible first | apply fgt_nx | apply fgt_bk | apply fgt_ct); walk_at "fgt")
    | ((with_reducible apply brT); (focus exact rfl)) | ((with_reducible apply brF); (focus exact rfl)))
local macro_rules
  | `(tactic| walk_at "r") => `(tactic| repeat first | walk_at "w" | walk_at "x")
local macro_rules
  | `(tactic| walk_at "ri") => `(tactic| repeat first | walk_at "w" | walk_at "x" | (with_reducible refine wp_if ?_))
local macro_rules
  | `(tactic| walk_at "app") => `(tactic| ((with_reducible apply appq); (focus exact rfl); (focus ((try simp only [List.length_map, List.length_nil, List.length_cons, List.length_append]); unfold line; omega)); walk_at "set"))
local macro_rules
  | `(tactic| walk_at "mul") => `(tactic| ((refine opq rfl rfl (ev_mul ?_) ?_); (focus (apply mulT <;> omega))))
local macro_rules
  | `(tactic| walk_at "rm") => `(tactic| repeat first | walk_at "w" | walk_at "x" | walk_at "mul")
local macro_rules
  | `(tactic| walk_at "len") => `(tactic| (refine And.intro ?_ ?_; (focus (simp [line]; done))))
local macro_rules
  | `(tactic| walk_at "rl") => `(tactic| repeat first | walk_at "w" | walk_at "x" | walk_at "len")
local macro_rules
  | `(tactic| walk_at "ril") => `(tactic| repeat first | walk_at "w" | walk_at "x" | walk_at "len" | (with_reducible refine wp_if ?_))
section
variable {Q : R → List Ob → Prop} {ns ds : List Int}
theorem p400 : (2 : Nat) ^ 400 ≤ 10 ^ 200 := by decide
theorem pw2 {k : Nat} (h : k ≤ 400) : (2 : Nat) ^ k ≤ 10 ^ 200 := Nat.le_trans (Nat.pow_le_pow_right (by decide) h) p400
def Ok (cs : List NN) : Prop := cs.length ≤ 20 ∧ ∀ c ∈ cs, c.1 ≤ c.2 ∧ 1 ≤ c.2 ∧ c.2 ≤ 2000 ∧ (c.1 = c.2 → c = (1, 1))
theorem Chs.ok {cs : List NN} (h : Chs cs) : Ok cs := ⟨h.len, fun c hc => h.at' hc⟩
theorem sumFl_bd {cs : List NN} (h : Ok cs) (k : Nat) : sumFl cs k ≤ 20 * 2 ^ k := by
  have key : ∀ cs : List NN, (∀ c ∈ cs, c.1 ≤ c.2 ∧ 1 ≤ c.2 ∧ c.2 ≤ 2000 ∧ (c.1 = c.2 → c = (1, 1))) → sumFl cs k ≤ cs.length * 2 ^ k := fun cs h => by
    unfold sumFl
    induction cs with
    | nil => simp
    | cons c cs ih =>
      have := ih fun x hx => h x (List.mem_cons_of_mem _ hx)
      obtain ⟨h1, h2, _, _⟩ := h c List.mem_cons_self
      have hf : flV c.1 c.2 k ≤ 2 ^ k := by
        unfold flV
        exact Nat.div_le_of_le_mul (Nat.mul_le_mul_right _ h1)
      rw [List.map_cons, List.sum_cons, List.length_cons, Nat.add_mul]
      omega
  exact Nat.le_trans (key cs h.2) (Nat.mul_le_mul_right _ h.1)
theorem of_still_going {cs : List NN} (h : Ok cs) {k : Nat} (hk : k ≤ 400) (q : Q (.val (.int ((2 ^ k : Nat) - (sumFl cs k : Nat)))) []) : Ret d_still_going [.val (chsV cs), .val (.int k)] Q := by
  have h3 : ∀ c ∈ cs, 1 ≤ c.2 ∧ c.2 ≤ 2000 ∧ c.1 ≤ 2000 := fun c hc => by have := h.2 c hc; omega
  obtain ⟨s0, s1⟩ := sumFl_stops h.2
  refine ret_mkR (by repeat constructor) ?_
  unfold b_still_going
  walk_at "r"
  refine of_stops (k := 0) h.1 h3 ?_
  walk_at "r"
  rw [List.length_map, ← s0]
  refine wp_for ?_
  refine wp_rng2 ?_
  walk_at "r"
  rw [show ((k : Int) + 1 - 1).toNat = k by omega]
  refine ⟨⟨by decide, by decide, by omega, by omega, by unfold line; omega⟩, ?_⟩
  refine wp_loop (fun (k : Nat) => PyData.int (1 + (k : Int))) (fun done ρ => ρ = [some (.val (chsV cs)), some (.val (.int k)), some (.val (.int ((2 ^ done.length : Nat) - (sumFl cs done.length : Nat)))), none]) (List.range k) rfl ?_ ?_
  · rintro done y rest _ e rfl
    have hy := range_pos e
    have hyk := range_at'' e
    rw [hy]
    have hp := pw2 (k := y) (by omega)
    have hs := sumFl_bd h y
    have hst := s1 y
    rw [List.length_append, List.length_singleton, hy]
    generalize he : sumFl cs y = S at *
    unfold l1_still_going
    walk_at "r"
    have hpg : ∃ p : Nat, p = 2 ^ y ∧ p ≤ 10 ^ 200 := ⟨_, rfl, hp⟩
    obtain ⟨p, hp1, hp2⟩ := hpg
    rw [← hp1] at hs ⊢
    refine opq rfl rfl (ev_mul (mulOkN (by decide) (by omega))) ?_
    walk_at "r"
    rw [show (1 : Int) + (y : Int) = ((y + 1 : Nat) : Int) by omega]
    refine of_stops (k := y + 1) h.1 h3 ?_
    walk_at "r"
    rw [List.length_map, hst, Nat.pow_succ, ← hp1, show (2 : Int) * ((p : Int) - (S : Int)) - ((stopsL cs (y + 1)).length : Int) = ((p * 2 : Nat) : Int) - ((2 * S + (stopsL cs (y + 1)).length : Nat) : Int) by omega]
  · rintro _ rfl
    walk_at "r"
    rw [List.length_range]
    exact q
theorem of_power_of_two {k : Nat} (hk : k ≤ 400) (q : Q (.val (.int ((2 ^ k : Nat) : Int))) []) : Ret d_power_of_two [.val (.int k)] Q := by
  refine ret_mkR (by repeat constructor) ?_
  unfold b_power_of_two
  walk_at "r"
  refine wp_forN (fun j ρ => ρ = [some (.val (.int k)), some (.val (.int ((2 ^ j : Nat) : Int))), none]) k ?_ ?_ ?_
  · walk_at "r"
    exact ⟨rfl, by unfold line; omega, rfl⟩
  · rintro j _ hj rfl
    have hp := pw2 (k := j) (by omega)
    have hpg : ∃ p : Nat, p = 2 ^ j ∧ p ≤ 10 ^ 200 := ⟨_, rfl, hp⟩
    obtain ⟨p, hp1, hp2⟩ := hpg
    rw [Nat.pow_succ, ← hp1]
    unfold l1_power_of_two
    walk_at "r"
    refine wp_aug rfl ?_
    walk_at "r"
    refine ⟨_, .int ((p * 2 : Nat) : Int), _, rfl, ev_mulI (mulOkN (by omega) (by decide)), PutR.put (PutR.s (PutR.z rfl)), ?_⟩
    walk_at "r"
    rfl
  · rintro _ rfl
    walk_at "r"
    exact q
theorem of_chance_within {cs : List NN} (h : Ok cs) {i k : Nat} (hi : i < cs.length) (hk : k ≤ 400) (q : Q (.val (fr (rat (flV cs[i].1 cs[i].2 k : Nat) (2 ^ k : Nat)))) []) : Ret d_chance_within [.val (chsV cs), .val (.int i), .val (.int k)] Q := by
  have hc := h.2 _ (List.getElem_mem hi)
  have hp := pw2 hk
  refine ret_mkR (by repeat constructor) ?_
  unfold b_chance_within
  walk_at "r"
  refine opq rfl rfl (ch_at hi) ?_
  generalize cs[i] = c at *
  show PutQ _ (.val (.tuple [.int c.1, .int c.2])) _ _
  walk_at "r"
  refine of_power_of_two hk ?_
  walk_at "r"
  have h0 : 0 < 2 ^ k := Nat.two_pow_pos k
  unfold flV at q
  generalize 2 ^ k = p at *
  refine opq rfl rfl (ev_mul (mulOkN (by omega) (by omega))) ?_
  walk_at "r"
  refine opq rfl rfl (ev_div (by omega)) ?_
  rw [← Int.natCast_mul, ndiv]
  walk_at "r"
  refine of_fraction (by omega) ?_
  walk_at "r"
  exact q
end
end Py
namespace Py
open PySem D
local macro_rules
  | `(tactic| walk_at "w") => `(tactic| with_reducible first
    | refine seq_nx ?_ | refine seq_rt ?_ | refine seq_bk ?_ | refine seq_ct ?_ | refine wp_seq ?_ | refine wp_asg ?_ | refine wp_next ?_ | refine wp_ret ?_ | refine wp_retN ?_ | refine wp_brk ?_ | refine wp_cont ?_ | refine wp_expr ?_ | refine wp_op ?_ | refine wp_un ?_ | refine wp_c ?_
    | refine unB ?_ | refine wp_truB ?_ | refine wp_and ?_ | refine wp_or ?_ | refine wp_not ?_ | refine wp_ifE ?_ | refine wp_tup ?_ | refine wp_lst ?_ | refine wp_lcons ?_ | refine wp_lnil ?_ | refine frzV ?_ | refine frzN ?_ | refine wp_frz ?_ | refine wp_sl ?_ | refine wp_onone ?_ | refine wp_osome ?_
    | refine wp_anil ?_ | refine wp_av ?_ | refine wp_andV ?_ | refine wp_orV ?_ | refine wp_notV ?_ | refine wp_fgtR ?_ | refine turn_nx ?_ | refine turn_rt ?_ | refine turn_bk ?_ | refine turn_ct ?_ | refine fgt_rt ?_ | refine wp_par ?_ | refine wp_chain ?_ | refine wp_seqI ?_)
local macro_rules
  | `(tactic| walk_at "put") => `(tactic| focus ((repeat apply PutR.s); first | exact PutR.z rfl | exact PutR.z (by assumption)))
local macro_rules
  | `(tactic| walk_at "set") => `(tactic| focus ((repeat apply SetR.s); first | exact SetR.o | exact SetR.r))
local macro_rules
  | `(tactic| walk_at "fgt") => `(tactic| focus (repeat first | exact FgtsR.nil | exact FgtR.k | exact FgtR.z rfl | exact FgtR.z (by assumption) | apply FgtR.s | apply FgtsR.cons))
local macro_rules
  | `(tactic| walk_at "x") => `(tactic| first
    | ((with_reducible apply wp_varV); (focus exact rfl)) | ((with_reducible apply wp_varO); (focus exact rfl)) | ((with_reducible apply wp_varR); (focus exact rfl))
    | ((with_reducible apply opq); (focus exact rfl); (focus exact rfl); (focus (first | exact ev_eqI | exact ev_neI | exact ev_ltI | exact ev_leI | exact ev_gtI | exact ev_geI | exact ev_eqOne | exact ev_neOne | exact ev_in2 | exact ev_in2n | exact ev_in4n | exact ev_isT | exact ev_isF | exact ev_isnT | exact ev_isnF | exact ev_strT | exact ev_strF n1 | exact ev_strF n2 | exact ev_strF n3 | exact ev_strF n4 | exact ev_strF n5 | exact ev_strF n6 | exact rfl)))
    | ((with_reducible apply unq); (focus exact rfl); (focus exact rfl))
    | ((with_reducible first | apply putqV | apply putqN); walk_at "put")
    | ((with_reducible apply putqB); (focus exact rfl); (focus exact rfl); walk_at "put"; walk_at "put")
    | ((with_reducible apply putq2); walk_at "put"; walk_at "put")
    | ((with_reducible apply parq); walk_at "put"; walk_at "put")
    | ((with_reducible apply wp_callR); (focus (repeat first | exact RefsR.nil | apply RefsR.v | apply RefsR.r)); (focus decide))
    | ((with_reducible apply wp_ar); (focus exact rfl))
    | ((with_reducible apply fin_rt); (focus exact rfl); (focus exact rfl))
    | ((with_reducible apply fin_nx); (focus exact rfl))
    | ((with_reducible apply wp_appendR); (focus exact rfl))
    | (with_reducible refine ⟨_, rfl, ?_⟩) | (with_reducible refine ⟨_, .inl rfl, ?_⟩) | (with_reducible refine ⟨_, .inr (.inl rfl), ?_⟩) | (with_reducible refine ⟨_, .inr (.inr rfl), ?_⟩)
    | (with_reducible apply callq0) | ((with_reducible apply frzB); (focus exact rfl); (focus exact rfl); walk_at "put")
    | ((with_reducible apply callq1); walk_at "set")
    | ((with_reducible apply callq2); walk_at "set"; walk_at "set")
    | ((with_reducible first | apply fgt_nx | apply fgt_bk | apply fgt_ct); walk_at "fgt")
    | ((with_reducible apply brT); (focus exact rfl)) | ((with_reducible apply brF); (focus exact rfl)))
local macro_rules
  | `(tactic| walk_at "r") => `(tactic| repeat first | walk_at "w" | walk_at "x")
local macro_rules
  | `(tactic| walk_at "ri") => `(tactic| repeat first | walk_at "w" | walk_at "x" | (with_reducible refine wp_if ?_))
local macro_rules
  | `(tactic| walk_at "app") => `(tactic| ((with_reducible apply appq); (focus exact rfl); (focus ((try simp only [List.length_map, List.length_nil, List.length_cons, List.length_append]); unfold line; omega)); walk_at "set"))
local macro_rules
  | `(tactic| walk_at "mul") => `(tactic| ((refine opq rfl rfl (ev_mul ?_) ?_); (focus (apply mulT <;> omega))))
local macro_rules
  | `(tactic| walk_at "rm") => `(tactic| repeat first | walk_at "w" | walk_at "x" | walk_at "mul")
local macro_rules
  | `(tactic| walk_at "len") => `(tactic| (refine And.intro ?_ ?_; (focus (simp [line]; done))))
local macro_rules
  | `(tactic| walk_at "rl") => `(tactic| repeat first | walk_at "w" | walk_at "x" | walk_at "len")
local macro_rules
  | `(tactic| walk_at "ril") => `(tactic| repeat first | walk_at "w" | walk_at "x" | walk_at "len" | (with_reducible refine wp_if ?_))
/-! coins: the mean number of tosses -/
def digsV (n d L : Nat) : List Nat := (List.range L).map fun j => digV n d (j + 1)
def Wv (n d b : Nat) : Nat → Nat
  | 0 => 0
  | k + 1 => 2 * Wv n d b k + (k + 1) * digV n d (b + k + 1)
def Sv (n d b : Nat) : Nat → Nat
  | 0 => 0
  | k + 1 => 2 * Sv n d b k + digV n d (b + k + 1)
def Av (n d b : Nat) : Nat → Nat
  | 0 => 0
  | k + 1 => 2 * Av n d b k + restV n d (b + k)
theorem dig_rest (n d j : Nat) : digV n d (j + 1) * d + restV n d (j + 1) = 2 * restV n d j := by
  rw [digV_succ, restV_succ, Nat.mul_comm]
  exact Nat.div_add_mod _ _
theorem W_eq (n d b k : Nat) : Wv n d b k * d + k * restV n d (b + k) = 2 * Av n d b k := by
  induction k with
  | zero => simp [Wv, Av]
  | succ k ih =>
    have h := dig_rest n d (b + k)
    rw [show b + (k + 1) = b + k + 1 by omega]
    unfold Wv Av
    generalize restV n d (b + k) = r at *
    generalize restV n d (b + k + 1) = r' at *
    generalize digV n d (b + k + 1) = D at *
    generalize Wv n d b k = W at *
    generalize Av n d b k = A at *
    grind
theorem S_eq (n d b k : Nat) : Sv n d b k * d + restV n d (b + k) = 2 ^ k * restV n d b := by
  induction k with
  | zero => simp [Sv]
  | succ k ih =>
    have h := dig_rest n d (b + k)
    rw [show b + (k + 1) = b + k + 1 by omega, Nat.pow_succ]
    unfold Sv
    generalize restV n d (b + k) = r at *
    generalize restV n d (b + k + 1) = r' at *
    generalize digV n d (b + k + 1) = D at *
    generalize Sv n d b k = W at *
    generalize restV n d b = A at *
    generalize 2 ^ k = P at *
    grind
theorem A_lt {n d : Nat} (hd : 0 < d) (b k : Nat) : Av n d b k + d ≤ d * 2 ^ k := by
  induction k with
  | zero => simp [Av]
  | succ k ih =>
    have h : restV n d (b + k) < d := Nat.mod_lt _ hd
    rw [Nat.pow_succ, ← Nat.mul_assoc]
    unfold Av
    generalize d * 2 ^ k = P at *
    omega
theorem W_le {n d : Nat} (hd : 0 < d) (b k : Nat) : Wv n d b k ≤ 2 * (d * 2 ^ k) := by
  have h1 := W_eq n d b k
  have h2 := A_lt (n := n) hd b k
  have h3 : Wv n d b k ≤ Wv n d b k * d := Nat.le_mul_of_pos_right _ hd
  omega
theorem S_le {n d : Nat} (hd : 0 < d) (b k : Nat) : Sv n d b k ≤ d * 2 ^ k := by
  have h1 := S_eq n d b k
  have h3 : Sv n d b k ≤ Sv n d b k * d := Nat.le_mul_of_pos_right _ hd
  have h : restV n d b < d := Nat.mod_lt _ hd
  have h4 : 2 ^ k * restV n d b ≤ d * 2 ^ k := by rw [Nat.mul_comm]; exact Nat.mul_le_mul_right _ (by omega)
  omega
/-- the first coming round of the rests -/
structure Turn (n d L b : Nat) : Prop where
  hb : b < L
  len : L ≤ d
  turn : restV n d L = restV n d b
  dist : ∀ i j, i < j → j < L → restV n d i ≠ restV n d j
theorem Turn.uniq {n d L b L' b' : Nat} (h : Turn n d L b) (h' : Turn n d L' b') : L = L' ∧ b = b' := by
  have e : L = L' := by
    rcases Nat.lt_trichotomy L L' with c | c | c
    · exact absurd h.turn.symm (h'.dist b L h.hb c)
    · exact c
    · exact absurd h'.turn.symm (h.dist b' L' h'.hb c)
  subst e
  refine ⟨rfl, ?_⟩
  have := h.turn.symm.trans h'.turn
  rcases Nat.lt_trichotomy b b' with c | c | c
  · exact absurd this (h.dist b b' c h'.hb)
  · exact c
  · exact absurd this.symm (h.dist b' b c h.hb)
theorem dist_len {n d L : Nat} (hd : 0 < d) (h : ∀ i j, i < j → j < L → restV n d i ≠ restV n d j) : L ≤ d := by
  apply Nat.le_of_not_lt
  intro c
  obtain ⟨i, j, h1, h2, h3⟩ := pigeon d (restV n d) fun i _ => Nat.mod_lt _ hd
  exact h i j h1 (by omega) h3
theorem Rests.fst {n d b : Nat} {rs : List Nat} (hd : 0 < d) (h : Rests n d rs b) : Turn n d rs.length b := ⟨h.hb, dist_len hd h.dist, h.turn, h.dist⟩
section
variable {Q : R → List Ob → Prop} {ns ds : List Int}
theorem of_digits_with_turn {n d : Nat} (hn : n < d) (hd : d ≤ 100000) (k : ∀ L b, Turn n d L b → Q (.val (.tuple [.list ((digsV n d L).map nI), .int b])) []) : Ret d_digits_with_turn [.val (fr (n, d))] Q := by
  refine ret_mkR (by repeat constructor) ?_
  unfold b_digits_with_turn fr
  walk_at "r"
  refine wp_dct0 ?_
  walk_at "rl"
  have hlt : ∀ j, restV n d j < d := fun j => Nat.mod_lt _ (by omega)
  refine wp_while (fun (k : Nat) ρ => (∀ i j, i < j → j < k → restV n d i ≠ restV n d j) ∧ ρ = [some (.val (.tuple [.int n, .int d])), some (.val (.int n)), some (.val (.int d)), some (.val (.int (restV n d k : Nat))), some (.own (.dct (placesV n d k))), some (.own (.lst ((digsV n d k).map nI)))]) (fun k => d - k) 0 ⟨by omega, by rw [restV0 hn]; rfl⟩ ?_
  rintro k' ρ ⟨p1, rfl⟩
  have hk : k' ≤ d := dist_len (by omega) p1
  unfold t2_digits_with_turn l1_digits_with_turn
  walk_at "r"
  cases hg : dGet (placesV n d k') (.inl ((restV n d k' : Nat) : Int)) with
  | some v =>
    obtain ⟨b, hb, hb2, rfl⟩ := places_get hg
    refine ⟨fun z => (by cases z), fun _ => ?_⟩
    walk_at "r"
    refine opq rfl rfl (ev_dget hg) ?_
    walk_at "rl"
    exact k k' b ⟨hb, hk, hb2.symm, p1⟩
  | none =>
    have hno := places_none hg
    refine ⟨fun _ => ?_, fun z => (by cases z)⟩
    have hdist : ∀ i j, i < j → j < k' + 1 → restV n d i ≠ restV n d j := fun i j hij hj => by
      by_cases c : j < k'
      · exact p1 i j hij c
      · have : j = k' := by omega
        subst this
        exact hno i hij
    have hk2 : k' + 1 ≤ d := dist_len (by omega) hdist
    walk_at "r"
    refine wp_dput ?_
    walk_at "r"
    refine ⟨_, _, placesV n d k', _, rfl, rfl, rfl, by simp [placesV, line]; omega, by walk_at "set", ?_⟩
    rw [show (((digsV n d k').map nI).length : Int) = (k' : Int) by simp [digsV], places_put hg]
    have h2 := hlt k'
    walk_at "r"
    refine opq rfl rfl (ev_mul (mulOkN (by decide) (by omega))) ?_
    walk_at "r"
    refine opq rfl rfl (ev_div (by omega)) ?_
    walk_at "r"
    refine appq rfl (by simp [digsV, line]; omega) (by walk_at "set") ?_
    walk_at "r"
    refine opq rfl rfl (ev_mul (mulOkN (by decide) (by omega))) ?_
    walk_at "r"
    refine opq rfl rfl (ev_mod (by omega)) ?_
    walk_at "r"
    refine ⟨k' + 1, by omega, hdist, ?_⟩
    rw [restV_succ, show (2 : Int) * ((restV n d k' : Nat) : Int) = ((2 * restV n d k' : Nat) : Int) by omega, nmod, ndiv, ← digV_succ]
    unfold digsV
    rw [List.range_succ, List.map_append, List.map_append]
    rfl
end
end Py
namespace Py
open PySem D
local macro_rules
  | `(tactic| walk_at "w") => `(tactic| with_reducible first
    | refine seq_nx ?_ | refine seq_rt ?_ | refine seq_bk ?_ | refine seq_ct ?_ | refine wp_seq ?_ | refine wp_asg ?_ | refine wp_next ?_ | refine wp_ret ?_ | refine wp_retN ?_ | refine wp_brk ?_ | refine wp_cont ?_ | refine wp_expr ?_ | refine wp_op ?_ | refine wp_un ?_ | refine wp_c ?_
    | refine unB ?_ | refine wp_truB ?_ | refine wp_and ?_ | refine wp_or ?_ | refine wp_not ?_ | refine wp_ifE ?_ | refine wp_tup ?_ | refine wp_lst ?_ | refine wp_lcons ?_ | refine wp_lnil ?_ | refine frzV ?_ | refine frzN ?_ | refine wp_frz ?_ | refine wp_sl ?_ | refine wp_onone ?_ | refine wp_osome ?_
    | refine wp_anil ?_ | refine wp_av ?_ | refine wp_andV ?_ | refine wp_orV ?_ | refine wp_notV ?_ | refine wp_fgtR ?_ | refine turn_nx ?_ | refine turn_rt ?_ | refine turn_bk ?_ | refine turn_ct ?_ | refine fgt_rt ?_ | refine wp_par ?_ | refine wp_chain ?_ | refine wp_seqI ?_)
local macro_rules
  | `(tactic| walk_at "put") => `(tactic| focus ((repeat apply PutR.s); first | exact PutR.z rfl | exact PutR.z (by assumption)))
local macro_rules
  | `(tactic| walk_at "set") => `(tactic| focus ((repeat apply SetR.s); first | exact SetR.o | exact SetR.r))
local macro_rules
  | `(tactic| walk_at "fgt") => `(tactic| focus (repeat first | exact FgtsR.nil | exact FgtR.k | exact FgtR.z rfl | exact FgtR.z (by assumption) | apply FgtR.s | apply FgtsR.cons))
local macro_rules
  | `(tactic| walk_at "x") => `(tactic| first
    | ((with_reducible apply wp_varV); (focus exact rfl)) | ((with_reducible apply wp_varO); (focus exact rfl)) | ((with_reducible apply wp_varR); (focus exact rfl))
    | ((with_reducible apply opq); (focus exact rfl); (focus exact rfl); (focus (first | exact ev_eqI | exact ev_neI | exact ev_ltI | exact ev_leI | exact ev_gtI | exact ev_geI | exact ev_eqOne | exact ev_neOne | exact ev_in2 | exact ev_in2n | exact ev_in4n | exact ev_isT | exact ev_isF | exact ev_isnT | exact ev_isnF | exact ev_strT | exact ev_strF n1 | exact ev_strF n2 | exact ev_strF n3 | exact ev_strF n4 | exact ev_strF n5 | exact ev_strF n6 | exact rfl)))
    | ((with_reducible apply unq); (focus exact rfl); (focus exact rfl))
    | ((with_reducible first | apply putqV | apply putqN); walk_at "put")
    | ((with_reducible apply putqB); (focus exact rfl); (focus exact rfl); walk_at "put"; walk_at "put")
    | ((with_reducible apply putq2); walk_at "put"; walk_at "put")
    | ((with_reducible apply parq); walk_at "put"; walk_at "put")
    | ((with_reducible apply wp_callR); (focus (repeat first | exact RefsR.nil | apply RefsR.v | apply RefsR.r)); (focus decide))
    | ((with_reducible apply wp_ar); (focus exact rfl))
    | ((with_reducible apply fin_rt); (focus exact rfl); (focus exact rfl))
    | ((with_reducible apply fin_nx); (focus exact rfl))
    | ((with_reducible apply wp_appendR); (focus exact rfl))
    | (with_reducible refine ⟨_, rfl, ?_⟩) | (with_reducible refine ⟨_, .inl rfl, ?_⟩) | (with_reducible refine ⟨_, .inr (.inl rfl), ?_⟩) | (with_reducible refine ⟨_, .inr (.inr rfl), ?_⟩)
    | (with_reducible apply callq0) | ((with_reducible apply frzB); (focus exact rfl); (focus exact rfl); walk_at "put")
    | ((with_reducible apply callq1); walk_at "set")
    | ((with_reducible apply callq2); walk_at "set"; walk_at "set")
    | ((with_reducible first | apply fgt_nx | apply fgt_bk | apply fgt_ct); walk_at "fgt")
    | ((with_reducible apply brT); (focus exact rfl)) | ((with_reducible apply brF); (focus exact rfl)))
local macro_rules
  | `(tactic| walk_at "r") => `(tactic| repeat first | walk_at "w" | walk_at "x")
local macro_rules
  | `(tactic| walk_at "ri") => `(tactic| repeat first | walk_at "w" | walk_at "x" | (with_reducible refine wp_if ?_))
local macro_rules
  | `(tactic| walk_at "app") => `(tactic| ((with_reducible apply appq); (focus exact rfl); (focus ((try simp only [List.length_map, List.length_nil, List.length_cons, List.length_append]); unfold line; omega)); walk_at "set"))
local macro_rules
  | `(tactic| walk_at "mul") => `(tactic| ((refine opq rfl rfl (ev_mul ?_) ?_); (focus (apply mulT <;> omega))))
local macro_rules
  | `(tactic| walk_at "rm") => `(tactic| repeat first | walk_at "w" | walk_at "x" | walk_at "mul")
local macro_rules
  | `(tactic| walk_at "len") => `(tactic| (refine And.intro ?_ ?_; (focus (simp [line]; done))))
local macro_rules
  | `(tactic| walk_at "rl") => `(tactic| repeat first | walk_at "w" | walk_at "x" | walk_at "len")
local macro_rules
  | `(tactic| walk_at "ril") => `(tactic| repeat first | walk_at "w" | walk_at "x" | walk_at "len" | (with_reducible refine wp_if ?_))
theorem pow_bd {d k x : Nat} (hd : d ≤ 2000) (hk : k ≤ 2000) (h : x ≤ 2 * (d * 2 ^ k)) : x < 2 ^ 2100 := by
  have h1 : 2 ^ k ≤ 2 ^ 2000 := Nat.pow_le_pow_right (by decide) hk
  have h2 : 2 * (d * 2 ^ k) ≤ 2 * (2000 * 2 ^ 2000) := Nat.mul_le_mul_left _ (Nat.mul_le_mul hd h1)
  have h3 : 2 * (2000 * 2 ^ 2000) < 2 ^ 2100 := by
    have : 2 ^ 2100 = 2 ^ 100 * 2 ^ 2000 := by rw [← Nat.pow_add]
    rw [this, ← Nat.mul_assoc]
    exact Nat.mul_lt_mul_of_pos_right (by decide) (Nat.two_pow_pos _)
  omega
theorem A_succ (n d b k : Nat) : Av n d b (k + 1) = 2 * Av n d b k + restV n d (b + k) := rfl
theorem W_succ (n d b k : Nat) : Wv n d b (k + 1) = 2 * Wv n d b k + (k + 1) * digV n d (b + k + 1) := rfl
theorem S_succ (n d b k : Nat) : Sv n d b (k + 1) = 2 * Sv n d b k + digV n d (b + k + 1) := rfl
theorem abs_nat {x m : Nat} (h : x < 2 ^ m) : (x : Int).natAbs < 2 ^ m := by rw [Int.natAbs_natCast]; exact h
def meanN (n d L b : Nat) : Int := 2 * ((Av n d 0 b : Int) * (((2 ^ (L - b) : Nat) : Int) - 1) + (Av n d b (L - b) : Int))
def meanD (n d L b : Nat) : Int := (d : Int) * ((2 ^ b : Nat) : Int) * (((2 ^ (L - b) : Nat) : Int) - 1)
theorem rests_at {n d b : Nat} {rs : List Nat} (h : Rests n d rs b) {j : Nat} (hj : j < rs.length) : atI (rs.map nI) (j : Int) = some (nI (restV n d j)) := by
  refine atI_nat ?_
  simp [hj, h.at' j hj]
theorem digs_at {n d L j : Nat} (hj : j < L) : atI ((digsV n d L).map nI) (j : Int) = some (nI (digV n d (j + 1))) := by
  refine atI_nat ?_
  simp [digsV, hj]
section
variable {Q : R → List Ob → Prop} {ns ds : List Int}
theorem of_law_mean {n d : Nat} (hn : n < d) (hd : d ≤ 2000) (k : ∀ L b, Turn n d L b → Q (.val (fr (meanN n d L b, meanD n d L b))) []) : Ret d_law_mean_k44 [.val (.int n), .val (.int d)] Q := by
  have hd0 : 0 < d := by omega
  refine ret_mkR (by repeat constructor) ?_
  unfold b_law_mean_k44
  walk_at "r"
  refine of_law_rests hn (by omega) fun rs b hr => ?_
  have ht := hr.fst hd0
  have hb := hr.hb
  have hL := ht.len
  walk_at "r"
  refine wp_mid (fun ρ => ρ = [some (.val (.int n)), some (.val (.int d)), some (.val (.list (rs.map nI))), some (.val (.int b)), some (.val (.int (Av n d 0 b : Nat))), some (.val (.int (2 ^ b : Nat))), none, none, none]) ?_ ?_
  · refine wp_forN (fun j ρ => ρ = [some (.val (.int n)), some (.val (.int d)), some (.val (.list (rs.map nI))), some (.val (.int b)), some (.val (.int (Av n d 0 j : Nat))), some (.val (.int (2 ^ j : Nat))), none, none, none]) b ?_ ?_ ?_
    · walk_at "r"
      exact ⟨rfl, by unfold line; omega, rfl⟩
    · rintro j _ hj rfl
      have hA := A_lt (n := n) hd0 0 j
      have h1 := pow_bd (x := Av n d 0 j) (k := j) hd (by omega) (by omega)
      have h2 := pow_bd (d := 1) (x := 2 ^ j) (k := j) (by omega) (by omega) (by omega)
      unfold l1_law_mean_k44
      walk_at "r"
      refine opq rfl rfl (ev_mul (mulOk_of 2 2100 (by decide) (abs_nat h1))) ?_
      walk_at "r"
      refine opq rfl rfl (ev_ix (.inr (.inl rfl)) (rests_at hr (by omega))) ?_
      walk_at "r"
      refine opq rfl rfl (ev_mul (mulOk_of 2 2100 (by decide) (abs_nat h2))) ?_
      walk_at "r"
      rw [Nat.pow_succ, A_succ, Nat.zero_add]
      simp only [Int.natCast_add, Int.natCast_mul]
      rw [Int.mul_comm _ ((2 : Nat) : Int)]
      rfl
    · rintro _ rfl
      exact ⟨rfl, rfl⟩
  rintro _ rfl
  walk_at "r"
  obtain ⟨T, hT⟩ : ∃ T, T = rs.length - b := ⟨_, rfl⟩
  refine wp_mid (fun ρ => ρ = [some (.val (.int n)), some (.val (.int d)), some (.val (.list (rs.map nI))), some (.val (.int b)), some (.val (.int (Av n d 0 b : Nat))), some (.val (.int (2 ^ b : Nat))), none, some (.val (.int (Av n d b T : Nat))), some (.val (.int (2 ^ T : Nat)))]) ?_ ?_
  · refine wp_for ?_
    refine wp_rng2 ?_
    walk_at "r"
    rw [List.length_map, show ((rs.length : Nat) : Int) - b = ((T : Nat) : Int) by omega]
    refine ⟨⟨by omega, by omega, by omega, by omega, by unfold line; omega⟩, ?_⟩
    refine wp_loop (fun (j : Nat) => PyData.int ((b : Int) + (j : Int))) (fun done ρ => ρ = [some (.val (.int n)), some (.val (.int d)), some (.val (.list (rs.map nI))), some (.val (.int b)), some (.val (.int (Av n d 0 b : Nat))), some (.val (.int (2 ^ b : Nat))), none, some (.val (.int (Av n d b done.length : Nat))), some (.val (.int (2 ^ done.length : Nat)))]) (List.range T) rfl ?_ ?_
    · rintro done y rest _ e rfl
      have hy := range_at'' e
      have hp := range_pos e
      rw [List.length_append, List.length_singleton, hp]
      have hA := A_lt (n := n) hd0 b y
      have h1 := pow_bd (x := Av n d b y) (k := y) hd (by omega) (by omega)
      have h2 := pow_bd (d := 1) (x := 2 ^ y) (k := y) (by omega) (by omega) (by omega)
      unfold l2_law_mean_k44
      walk_at "r"
      refine opq rfl rfl (ev_mul (mulOk_of 2 2100 (by decide) (abs_nat h1))) ?_
      walk_at "r"
      rw [show (b : Int) + y = ((b + y : Nat) : Int) by omega]
      refine opq rfl rfl (ev_ix (.inr (.inl rfl)) (rests_at hr (by omega))) ?_
      walk_at "r"
      refine opq rfl rfl (ev_mul (mulOk_of 2 2100 (by decide) (abs_nat h2))) ?_
      walk_at "r"
      rw [Nat.pow_succ, A_succ]
      simp only [Int.natCast_add, Int.natCast_mul]
      rw [Int.mul_comm _ ((2 : Nat) : Int)]
      rfl
    · rintro _ rfl
      rw [List.length_range]
      exact ⟨rfl, rfl⟩
  rintro _ rfl
  have hA1 := A_lt (n := n) hd0 0 b
  have hA2 := A_lt (n := n) hd0 b T
  have h1 := pow_bd (x := Av n d 0 b) (k := b) hd (by omega) (by omega)
  have h2 := pow_bd (x := Av n d b T) (k := T) hd (by omega) (by omega)
  have h3 := pow_bd (d := 1) (x := 2 ^ T) (k := T) (by omega) (by omega) (by omega)
  have h4 := pow_bd (d := 1) (x := 2 ^ b) (k := b) (by omega) (by omega) (by omega)
  have h5 : 0 < 2 ^ T := Nat.two_pow_pos T
  have m1 : (((2 ^ T : Nat) : Int) - 1).natAbs < 2 ^ 2100 := by
    generalize 2 ^ 2100 = Z at *
    omega
  have m2 := lt_mul (abs_nat h1) m1
  have m3 := lt_add (m := 2100 + 2100) m2 (Nat.lt_of_lt_of_le (abs_nat h2) (Nat.pow_le_pow_right (by decide) (by decide)))
  have m0 : ((d : Nat) : Int).natAbs < 2 ^ 11 := by omega
  have m4 := lt_mul m0 (abs_nat h4)
  walk_at "r"
  refine opq rfl rfl (ev_mul (mulOk_of _ _ (abs_nat h1) m1)) ?_
  walk_at "r"
  refine opq rfl rfl (ev_mul (mulOk_of 2 _ (by decide) m3)) ?_
  walk_at "r"
  refine opq rfl rfl (ev_mul (mulOk_of _ _ m0 (abs_nat h4))) ?_
  walk_at "r"
  refine opq rfl rfl (ev_mul (mulOk_of _ _ m4 m1)) ?_
  walk_at "rl"
  have := k _ _ ht
  unfold meanN meanD at this
  rw [hT]
  exact this
end
end Py
namespace Py
open PySem D
local macro_rules
  | `(tactic| walk_at "w") => `(tactic| with_reducible first
    | refine seq_nx ?_ | refine seq_rt ?_ | refine seq_bk ?_ | refine seq_ct ?_ | refine wp_seq ?_ | refine wp_asg ?_ | refine wp_next ?_ | refine wp_ret ?_ | refine wp_retN ?_ | refine wp_brk ?_ | refine wp_cont ?_ | refine wp_expr ?_ | refine wp_op ?_ | refine wp_un ?_ | refine wp_c ?_
    | refine unB ?_ | refine wp_truB ?_ | refine wp_and ?_ | refine wp_or ?_ | refine wp_not ?_ | refine wp_ifE ?_ | refine wp_tup ?_ | refine wp_lst ?_ | refine wp_lcons ?_ | refine wp_lnil ?_ | refine frzV ?_ | refine frzN ?_ | refine wp_frz ?_ | refine wp_sl ?_ | refine wp_onone ?_ | refine wp_osome ?_
    | refine wp_anil ?_ | refine wp_av ?_ | refine wp_andV ?_ | refine wp_orV ?_ | refine wp_notV ?_ | refine wp_fgtR ?_ | refine turn_nx ?_ | refine turn_rt ?_ | refine turn_bk ?_ | refine turn_ct ?_ | refine fgt_rt ?_ | refine wp_par ?_ | refine wp_chain ?_ | refine wp_seqI ?_)
local macro_rules
  | `(tactic| walk_at "put") => `(tactic| focus ((repeat apply PutR.s); first | exact PutR.z rfl | exact PutR.z (by assumption)))
local macro_rules
  | `(tactic| walk_at "set") => `(tactic| focus ((repeat apply SetR.s); first | exact SetR.o | exact SetR.r))
local macro_rules
  | `(tactic| walk_at "fgt") => `(tactic| focus (repeat first | exact FgtsR.nil | exact FgtR.k | exact FgtR.z rfl | exact FgtR.z (by assumption) | apply FgtR.s | apply FgtsR.cons))
local macro_rules
  | `(tactic| walk_at "x") => `(tactic| first
    | ((with_reducible apply wp_varV); (focus exact rfl)) | ((with_reducible apply wp_varO); (focus exact rfl)) | ((with_reducible apply wp_varR); (focus exact rfl))
    | ((with_reducible apply opq); (focus exact rfl); (focus exact rfl); (focus (first | exact ev_eqI | exact ev_neI | exact ev_ltI | exact ev_leI | exact ev_gtI | exact ev_geI | exact ev_eqOne | exact ev_neOne | exact ev_in2 | exact ev_in2n | exact ev_in4n | exact ev_isT | exact ev_isF | exact ev_isnT | exact ev_isnF | exact ev_strT | exact ev_strF n1 | exact ev_strF n2 | exact ev_strF n3 | exact ev_strF n4 | exact ev_strF n5 | exact ev_strF n6 | exact rfl)))
    | ((with_reducible apply unq); (focus exact rfl); (focus exact rfl))
    | ((with_reducible first | apply putqV | apply putqN); walk_at "put")
    | ((with_reducible apply putqB); (focus exact rfl); (focus exact rfl); walk_at "put"; walk_at "put")
    | ((with_reducible apply putq2); walk_at "put"; walk_at "put")
    | ((with_reducible apply parq); walk_at "put"; walk_at "put")
    | ((with_reducible apply wp_callR); (focus (repeat first | exact RefsR.nil | apply RefsR.v | apply RefsR.r)); (focus decide))
    | ((with_reducible apply wp_ar); (focus exact rfl))
    | ((with_reducible apply fin_rt); (focus exact rfl); (focus exact rfl))
    | ((with_reducible apply fin_nx); (focus exact rfl))
    | ((with_reducible apply wp_appendR); (focus exact rfl))
    | (with_reducible refine ⟨_, rfl, ?_⟩) | (with_reducible refine ⟨_, .inl rfl, ?_⟩) | (with_reducible refine ⟨_, .inr (.inl rfl), ?_⟩) | (with_reducible refine ⟨_, .inr (.inr rfl), ?_⟩)
    | (with_reducible apply callq0) | ((with_reducible apply frzB); (focus exact rfl); (focus exact rfl); walk_at "put")
    | ((with_reducible apply callq1); walk_at "set")
    | ((with_reducible apply callq2); walk_at "set"; walk_at "set")
    | ((with_reducible first | apply fgt_nx | apply fgt_bk | apply fgt_ct); walk_at "fgt")
    | ((with_reducible apply brT); (focus exact rfl)) | ((with_reducible apply brF); (focus exact rfl)))
local macro_rules
  | `(tactic| walk_at "r") => `(tactic| repeat first | walk_at "w" | walk_at "x")
local macro_rules
  | `(tactic| walk_at "ri") => `(tactic| repeat first | walk_at "w" | walk_at "x" | (with_reducible refine wp_if ?_))
local macro_rules
  | `(tactic| walk_at "app") => `(tactic| ((with_reducible apply appq); (focus exact rfl); (focus ((try simp only [List.length_map, List.length_nil, List.length_cons, List.length_append]); unfold line; omega)); walk_at "set"))
local macro_rules
  | `(tactic| walk_at "mul") => `(tactic| ((refine opq rfl rfl (ev_mul ?_) ?_); (focus (apply mulT <;> omega))))
local macro_rules
  | `(tactic| walk_at "rm") => `(tactic| repeat first | walk_at "w" | walk_at "x" | walk_at "mul")
local macro_rules
  | `(tactic| walk_at "len") => `(tactic| (refine And.intro ?_ ?_; (focus (simp [line]; done))))
local macro_rules
  | `(tactic| walk_at "rl") => `(tactic| repeat first | walk_at "w" | walk_at "x" | walk_at "len")
local macro_rules
  | `(tactic| walk_at "ril") => `(tactic| repeat first | walk_at "w" | walk_at "x" | walk_at "len" | (with_reducible refine wp_if ?_))
theorem bt_rat {n d : Int} {m : Nat} (hd : 0 < d) (h1 : n.natAbs < 2 ^ m) (h2 : d.natAbs < 2 ^ m) : Bt m (rat n d) := by
  have h := rat_le (n := n) (d := d) (by omega)
  exact ⟨(low_rat (by omega)).1, by omega, by omega⟩
theorem up_lt {x m n : Nat} (h : x < 2 ^ m) (hmn : m ≤ n) : x < 2 ^ n := Nat.lt_of_lt_of_le h (Nat.pow_le_pow_right (by decide) hmn)
theorem Bt.ne {m : Nat} {p : Int × Int} (h : Bt m p) : p.2 ≠ 0 := by have := h.1; omega
theorem mean_id {F A b r d S W O T P B : Rat} (hd : d ≠ 0) (hP : P ≠ 0) (hP1 : P - 1 ≠ 0) (hB : B ≠ 0) (h1 : F * d + b * r = 2 * A) (h2 : W * d + T * r = 2 * O) (h3 : S * d + r = P * r) :
    F / B + ((W / P + b * (S / P)) * P / (P - 1) + S / P * T * P / ((P - 1) * (P - 1))) / B = 2 * (A * (P - 1) + O) / (d * B * (P - 1)) := by
  have e1 : F = (2 * A - b * r) / d := by grind
  have e2 : W = (2 * O - T * r) / d := by grind
  have e3 : S = (P - 1) * r / d := by grind
  have e4 : (W / P + b * (S / P)) * P / (P - 1) = W / (P - 1) + b * (r / d) := by grind
  have e5 : S / P * T * P / ((P - 1) * (P - 1)) = r / d * T / (P - 1) := by grind
  rw [e4, e5, e1, e2]
  clear e1 e2 e3 e4 e5 h1 h2 h3
  generalize P - 1 = u at *
  have a1 : d * B * u ≠ 0 := by
    intro z
    rcases Rat.mul_eq_zero.mp z with z | z
    · rcases Rat.mul_eq_zero.mp z with z | z
      · exact hd z
      · exact hB z
    · exact hP1 z
  have a2 : (2 * A - b * r) / d / B = (2 * A - b * r) * u / (d * B * u) := by grind
  have a3 : ((2 * O - T * r) / d / u + b * (r / d) + r / d * T / u) = (2 * O + b * r * u) / (d * u) := by grind
  have a4 : (2 * O + b * r * u) / (d * u) / B = (2 * O + b * r * u) / (d * B * u) := by grind
  rw [a2, a3, a4]
  grind
theorem putq3 {i j l : Nat} {v w x : PV} {ρ ρ1 ρ2 ρ3 : Env} {Q : Env → Prop} (h : PutR i (some (.val v)) ρ ρ1) (h2 : PutR j (some (.val w)) ρ1 ρ2) (h3 : PutR l (some (.val x)) ρ2 ρ3) (q : Q ρ3) : PutQ (gTup [i, j, l]) (.val (.tuple [v, w, x])) ρ Q := ⟨ρ3, by simp [gTup, gNames, h.put, h2.put, h3.put], q⟩
section
variable {Q : R → List Ob → Prop} {ns ds : List Int}
theorem of_turns_of {p q : Int × Int} (hp : Bt 2100 p) (hq : Bt 2100 q) {b T P B : Nat} (hb : b ≤ 2000) (hT : T ≤ 2000) (hP : 2 ≤ P) (hP2 : P < 2 ^ 2100) (hB : 0 < B) (hB2 : B < 2 ^ 2100)
    (k : ∀ r, Bt 30000 r → qv r = ((qv q + (b : Rat) * qv p) * (P : Rat) / ((P : Rat) - 1) + qv p * (T : Rat) * (P : Rat) / (((P : Rat) - 1) * ((P : Rat) - 1))) / (B : Rat) → Q (.val (fr r)) []) :
    Ret d_turns_of [.val (fr p), .val (fr q), .val (.int b), .val (.int T), .val (.int P), .val (.int B)] Q := by
  have b11 : ((b : Nat) : Int).natAbs < 2 ^ 11 := by omega
  have T11 : ((T : Nat) : Int).natAbs < 2 ^ 11 := by omega
  have PB := abs_nat hP2
  have BB := abs_nat hB2
  have P1 : ((P : Int) - 1).natAbs < 2 ^ 2100 := by
    generalize 2 ^ 2100 = Z at *
    omega
  have P0 : 0 < (P : Int) - 1 := by omega
  refine ret_mkR (by repeat constructor) ?_
  unfold b_turns_of
  walk_at "r"
  refine opq rfl rfl (ev_mul (mulOk_of _ _ b11 hp.2.1)) ?_
  walk_at "r"
  refine of_fraction hp.ne ?_
  walk_at "r"
  have t1 : Bt (11 + 2100) (rat ((b : Int) * p.1) p.2) := bt_rat hp.1 (lt_mul b11 hp.2.1) (up_lt hp.2.2 (by decide))
  refine of_plus hq.ne t1.ne (okM_bt hq t1 (by decide)) ?_
  have t6 : Bt (2100 + (11 + 2100) + 1) (plusV q (rat ((b : Int) * p.1) p.2)) := bt_plus hq t1
  have v6 : qv (plusV q (rat ((b : Int) * p.1) p.2)) = qv q + (b : Rat) * qv p := by
    rw [qv_plus hq.ne t1.ne, qv_rat hp.ne]
    unfold qv
    rw [Rat.intCast_mul, Rat.intCast_natCast]
    grind
  generalize plusV q (rat ((b : Int) * p.1) p.2) = r6 at *
  walk_at "r"
  refine opq rfl rfl (ev_mul (mulOk_of _ _ t6.2.1 PB)) ?_
  walk_at "r"
  refine opq rfl rfl (ev_mul (mulOk_of _ _ t6.2.2 P1)) ?_
  walk_at "r"
  have n7 : 0 < r6.2 * ((P : Int) - 1) := Int.mul_pos t6.1 P0
  refine of_fraction (by omega) ?_
  have t7 : Bt (2100 + (11 + 2100) + 1 + 2100) (rat (r6.1 * (P : Int)) (r6.2 * ((P : Int) - 1))) := bt_rat n7 (lt_mul t6.2.1 PB) (lt_mul t6.2.2 P1)
  have r61 := ic_ne t6.ne
  have rP1 := ic_ne (show (P : Int) - 1 ≠ 0 by omega)
  have v7 : qv (rat (r6.1 * (P : Int)) (r6.2 * ((P : Int) - 1))) = qv r6 * (P : Rat) / ((P : Rat) - 1) := by
    rw [qv_rat (by omega)]
    unfold qv
    rw [Rat.intCast_mul, Rat.intCast_mul, Rat.intCast_sub, Rat.intCast_natCast] at *
    rw [show ((1 : Int) : Rat) = 1 from rfl] at *
    grind
  generalize rat (r6.1 * (P : Int)) (r6.2 * ((P : Int) - 1)) = r7 at *
  walk_at "r"
  refine opq rfl rfl (ev_mul (mulOk_of _ _ hp.2.1 T11)) ?_
  walk_at "r"
  refine opq rfl rfl (ev_mul (mulOk_of _ _ (lt_mul hp.2.1 T11) PB)) ?_
  walk_at "r"
  refine opq rfl rfl (ev_mul (mulOk_of _ _ hp.2.2 P1)) ?_
  walk_at "r"
  refine opq rfl rfl (ev_mul (mulOk_of _ _ (lt_mul hp.2.2 P1) P1)) ?_
  walk_at "r"
  have n8 : 0 < p.2 * ((P : Int) - 1) * ((P : Int) - 1) := Int.mul_pos (Int.mul_pos hp.1 P0) P0
  refine of_fraction (by omega) ?_
  have t8 : Bt (2100 + 2100 + 2100) (rat (p.1 * (T : Int) * (P : Int)) (p.2 * ((P : Int) - 1) * ((P : Int) - 1))) := bt_rat n8 (up_lt (lt_mul (lt_mul hp.2.1 T11) PB) (by decide)) (lt_mul (lt_mul hp.2.2 P1) P1)
  have rp := ic_ne hp.ne
  have v8 : qv (rat (p.1 * (T : Int) * (P : Int)) (p.2 * ((P : Int) - 1) * ((P : Int) - 1))) = qv p * (T : Rat) * (P : Rat) / (((P : Rat) - 1) * ((P : Rat) - 1)) := by
    rw [qv_rat (by omega)]
    unfold qv
    rw [Rat.intCast_mul, Rat.intCast_mul, Rat.intCast_mul, Rat.intCast_mul, Rat.intCast_sub, Rat.intCast_natCast, Rat.intCast_natCast] at *
    rw [show ((1 : Int) : Rat) = 1 from rfl] at *
    grind
  generalize rat (p.1 * (T : Int) * (P : Int)) (p.2 * ((P : Int) - 1) * ((P : Int) - 1)) = r8 at *
  walk_at "r"
  refine of_plus t7.ne t8.ne (okM_bt t7 t8 (by decide)) ?_
  have t9 := bt_plus t7 t8
  have v9 := qv_plus t7.ne t8.ne
  generalize plusV r7 r8 = r9 at *
  walk_at "r"
  refine opq rfl rfl (ev_mul (mulOk_of _ _ t9.2.2 BB)) ?_
  walk_at "r"
  have n10 : 0 < r9.2 * (B : Int) := Int.mul_pos t9.1 (by omega)
  refine of_fraction (by omega) ?_
  walk_at "r"
  refine k _ (bt_rat n10 (up_lt t9.2.1 (by decide)) (up_lt (lt_mul t9.2.2 BB) (by decide))) ?_
  rw [← v6, ← v7, ← v8, ← v9, qv_rat (by omega)]
  have r91 := ic_ne t9.ne
  have rB := ic_ne (show (B : Int) ≠ 0 by omega)
  unfold qv
  rw [Rat.intCast_mul, Rat.intCast_natCast] at *
  grind
theorem of_sum_of_digits {n d : Nat} (hn : n < d) (hd : d ≤ 2000) (k : ∀ r L b, Turn n d L b → Bt 40000 r → Low r → qv r = (meanN n d L b : Rat) / (meanD n d L b : Rat) → Q (.val (fr r)) []) : Ret d_sum_of_digits_k44 [.val (fr (n, d))] Q := by
  have hd0 : 0 < d := by omega
  refine ret_mkR (by repeat constructor) ?_
  unfold b_sum_of_digits_k44
  walk_at "r"
  refine of_digits_with_turn hn (by omega) fun L b ht => ?_
  have hb := ht.hb
  have hL := ht.len
  walk_at "rl"
  refine wp_mid (fun ρ => ρ = [some (.val (fr (n, d))), some (.val (.list ((digsV n d L).map nI))), some (.val (.int b)), some (.val (.int (Wv n d 0 b : Nat))), some (.val (.int (2 ^ b : Nat))), none, none, none, none, none]) ?_ ?_
  · refine wp_forN (fun j ρ => ρ = [some (.val (fr (n, d))), some (.val (.list ((digsV n d L).map nI))), some (.val (.int b)), some (.val (.int (Wv n d 0 j : Nat))), some (.val (.int (2 ^ j : Nat))), none, none, none, none, none]) b ?_ ?_ ?_
    · walk_at "r"
      exact ⟨rfl, by unfold line; omega, rfl⟩
    · rintro j _ hj rfl
      have hW := W_le (n := n) hd0 0 j
      have h1 := pow_bd (x := Wv n d 0 j) (k := j) hd (by omega) hW
      have h2 := pow_bd (d := 1) (x := 2 ^ j) (k := j) (by omega) (by omega) (by omega)
      have h3 : digV n d (j + 1) ≤ 1 := digV_le hd0
      unfold l1_sum_of_digits_k44
      walk_at "r"
      refine wp_aug rfl ?_
      walk_at "r"
      refine ⟨_, .int ((2 ^ (j + 1) : Nat) : Int), _, rfl, ?_, PutR.put (PutR.s (PutR.s (PutR.s (PutR.s (PutR.z rfl))))), ?_⟩
      · rw [ev_mulI (mulOk_of _ 2 (abs_nat h2) (by decide)), Nat.pow_succ, Int.natCast_mul]
        rfl
      walk_at "r"
      refine opq rfl rfl (ev_mul (mulOk_of 2 _ (by decide) (abs_nat h1))) ?_
      walk_at "r"
      refine opq rfl rfl (ev_ix (.inr (.inl rfl)) (digs_at (by omega))) ?_
      walk_at "r"
      refine opq rfl rfl (ev_mul (mulOk_of 20 20 (by omega) (by omega))) ?_
      walk_at "r"
      rw [W_succ, Nat.zero_add]
      simp only [Int.natCast_add, Int.natCast_mul]
      rfl
    · rintro _ rfl
      exact ⟨rfl, rfl⟩
  rintro _ rfl
  walk_at "rl"
  refine putq3 (by walk_at "put") (by walk_at "put") (by walk_at "put") ?_
  walk_at "r"
  obtain ⟨T, hT⟩ : ∃ T, T = L - b := ⟨_, rfl⟩
  refine wp_mid (fun ρ => ρ = [some (.val (fr (n, d))), some (.val (.list ((digsV n d L).map nI))), some (.val (.int b)), some (.val (.int (Wv n d 0 b : Nat))), some (.val (.int (2 ^ b : Nat))), none, some (.val (.int (Sv n d b T : Nat))), some (.val (.int (Wv n d b T : Nat))), some (.val (.int (2 ^ T : Nat))), none]) ?_ ?_
  · refine wp_for ?_
    refine wp_rng2 ?_
    walk_at "r"
    rw [show (((digsV n d L).map nI).length : Int) - (b : Int) = ((T : Nat) : Int) by simp [digsV]; omega, show (((digsV n d L).map nI).length : Int) = (L : Int) by simp [digsV]]
    refine ⟨⟨by omega, by omega, by omega, by omega, by unfold line; omega⟩, ?_⟩
    refine wp_loop (fun (j : Nat) => PyData.int ((b : Int) + (j : Int))) (fun done ρ => ρ = [some (.val (fr (n, d))), some (.val (.list ((digsV n d L).map nI))), some (.val (.int b)), some (.val (.int (Wv n d 0 b : Nat))), some (.val (.int (2 ^ b : Nat))), none, some (.val (.int (Sv n d b done.length : Nat))), some (.val (.int (Wv n d b done.length : Nat))), some (.val (.int (2 ^ done.length : Nat))), none]) (List.range T) rfl ?_ ?_
    · rintro done y rest _ e rfl
      have hy := range_at'' e
      have hp := range_pos e
      rw [List.length_append, List.length_singleton, hp]
      have hW := W_le (n := n) hd0 b y
      have hS := S_le (n := n) hd0 b y
      have h1 := pow_bd (x := Wv n d b y) (k := y) hd (by omega) hW
      have h2 := pow_bd (d := 1) (x := 2 ^ y) (k := y) (by omega) (by omega) (by omega)
      have h3 := pow_bd (x := Sv n d b y) (k := y) hd (by omega) (by omega)
      have h4 : digV n d (b + y + 1) ≤ 1 := digV_le hd0
      unfold l2_sum_of_digits_k44
      walk_at "r"
      refine wp_aug rfl ?_
      walk_at "r"
      refine ⟨_, .int ((2 ^ (y + 1) : Nat) : Int), _, rfl, ?_, PutR.put (PutR.s (PutR.s (PutR.s (PutR.s (PutR.s (PutR.s (PutR.s (PutR.s (PutR.z rfl))))))))), ?_⟩
      · rw [ev_mulI (mulOk_of _ 2 (abs_nat h2) (by decide)), Nat.pow_succ, Int.natCast_mul]
        rfl
      walk_at "r"
      refine opq rfl rfl (ev_mul (mulOk_of 2 _ (by decide) (abs_nat h3))) ?_
      walk_at "r"
      rw [show (b : Int) + y = ((b + y : Nat) : Int) by omega]
      refine opq rfl rfl (ev_ix (.inr (.inl rfl)) (digs_at (by omega))) ?_
      walk_at "r"
      refine opq rfl rfl (ev_mul (mulOk_of 2 _ (by decide) (abs_nat h1))) ?_
      walk_at "r"
      refine opq rfl rfl (ev_ix (.inr (.inl rfl)) (digs_at (by omega))) ?_
      walk_at "r"
      refine opq rfl rfl (ev_mul (mulOk_of 20 20 (by omega) (by omega))) ?_
      walk_at "r"
      rw [W_succ, S_succ, show ((b + y : Nat) : Int) + 1 - (b : Int) = ((y + 1 : Nat) : Int) by omega]
      simp only [Int.natCast_add, Int.natCast_mul]
      rfl
    · rintro _ rfl
      rw [List.length_range]
      exact ⟨rfl, rfl⟩
  rintro _ rfl
  have hW1 := W_le (n := n) hd0 0 b
  have hW2 := W_le (n := n) hd0 b T
  have hS2 := S_le (n := n) hd0 b T
  have g1 := pow_bd (x := Wv n d 0 b) (k := b) hd (by omega) hW1
  have g2 := pow_bd (x := Wv n d b T) (k := T) hd (by omega) hW2
  have g3 := pow_bd (x := Sv n d b T) (k := T) hd (by omega) (by omega)
  have g4 := pow_bd (d := 1) (x := 2 ^ T) (k := T) (by omega) (by omega) (by omega)
  have g5 := pow_bd (d := 1) (x := 2 ^ b) (k := b) (by omega) (by omega) (by omega)
  have T2 : 2 ≤ 2 ^ T := by
    have := Nat.pow_le_pow_right (show 0 < 2 by decide) (show 1 ≤ T by omega)
    omega
  have B1 : 0 < 2 ^ b := Nat.two_pow_pos b
  have i1 := W_eq n d 0 b
  have i2 := W_eq n d b T
  have i3 := S_eq n d b T
  rw [show b + T = L by omega, ht.turn] at i2 i3
  rw [Nat.zero_add] at i1
  have hm : ∀ r, Bt 40000 r → Low r → qv r = (meanN n d L b : Rat) / (meanD n d L b : Rat) → Q (.val (fr r)) [] := fun r => k r L b ht
  unfold meanN meanD at hm
  rw [← hT] at hm
  have hbL : b ≤ 2000 := by omega
  have hTL : T ≤ 2000 := by omega
  have eT : (((digsV n d L).map nI).length : Int) - (b : Int) = ((T : Nat) : Int) := by simp [digsV]; omega
  generalize Wv n d 0 b = F at *
  generalize Wv n d b T = W at *
  generalize Sv n d b T = S at *
  generalize Av n d 0 b = A at *
  generalize Av n d b T = O at *
  generalize restV n d b = rr at *
  generalize 2 ^ T = P at *
  generalize 2 ^ b = B at *
  walk_at "r"
  refine of_fraction (by omega) ?_
  walk_at "r"
  refine of_fraction (by omega) ?_
  walk_at "r"
  rw [eT]
  have tS : Bt 2100 (rat (S : Int) (P : Int)) := bt_rat (by omega) (abs_nat g3) (abs_nat g4)
  have tW : Bt 2100 (rat (W : Int) (P : Int)) := bt_rat (by omega) (abs_nat g2) (abs_nat g4)
  refine of_turns_of tS tW hbL hTL T2 g4 B1 g5 fun r hr er => ?_
  walk_at "r"
  refine of_fraction (by omega) ?_
  walk_at "r"
  have tF : Bt 2100 (rat (F : Int) (B : Int)) := bt_rat (by omega) (abs_nat g1) (abs_nat g5)
  refine of_plus tF.ne hr.ne (okM_bt tF hr (by decide)) ?_
  walk_at "r"
  refine hm _ ((bt_plus tF hr).mono (by decide)) (low_plus tF.1 hr.1) ?_
  rw [qv_plus tF.ne hr.ne, er, qv_rat (by omega), qv_rat (by omega), qv_rat (by omega)]
  have c1 : (F : Rat) * d + b * rr = 2 * A := by exact_mod_cast congrArg (fun n : Nat => (n : Rat)) i1
  have c2 : (W : Rat) * d + T * rr = 2 * O := by exact_mod_cast congrArg (fun n : Nat => (n : Rat)) i2
  have c3 : (S : Rat) * d + rr = P * rr := by exact_mod_cast congrArg (fun n : Nat => (n : Rat)) i3
  have rd := ic_ne (show (d : Int) ≠ 0 by omega)
  have rP := ic_ne (show (P : Int) ≠ 0 by omega)
  have rB := ic_ne (show (B : Int) ≠ 0 by omega)
  have rP1 := ic_ne (show (P : Int) - 1 ≠ 0 by omega)
  simp only [Rat.intCast_mul, Rat.intCast_add, Rat.intCast_sub, Rat.intCast_natCast] at *
  exact mean_id rd rP rP1 rB c1 c2 c3
end
end Py
namespace Py
open PySem D
local macro_rules
  | `(tactic| walk_at "w") => `(tactic| with_reducible first
    | refine seq_nx ?_ | refine seq_rt ?_ | refine seq_bk ?_ | refine seq_ct ?_ | refine wp_seq ?_ | refine wp_asg ?_ | refine wp_next ?_ | refine wp_ret ?_ | refine wp_retN ?_ | refine wp_brk ?_ | refine wp_cont ?_ | refine wp_expr ?_ | refine wp_op ?_ | refine wp_un ?_ | refine wp_c ?_
    | refine unB ?_ | refine wp_truB ?_ | refine wp_and ?_ | refine wp_or ?_ | refine wp_not ?_ | refine wp_ifE ?_ | refine wp_tup ?_ | refine wp_lst ?_ | refine wp_lcons ?_ | refine wp_lnil ?_ | refine frzV ?_ | refine frzN ?_ | refine wp_frz ?_ | refine wp_sl ?_ | refine wp_onone ?_ | refine wp_osome ?_
    | refine wp_anil ?_ | refine wp_av ?_ | refine wp_andV ?_ | refine wp_orV ?_ | refine wp_notV ?_ | refine wp_fgtR ?_ | refine turn_nx ?_ | refine turn_rt ?_ | refine turn_bk ?_ | refine turn_ct ?_ | refine fgt_rt ?_ | refine wp_par ?_ | refine wp_chain ?_ | refine wp_seqI ?_)
local macro_rules
  | `(tactic| walk_at "put") => `(tactic| focus ((repeat apply PutR.s); first | exact PutR.z rfl | exact PutR.z (by assumption)))
local macro_rules
  | `(tactic| walk_at "set") => `(tactic| focus ((repeat apply SetR.s); first | exact SetR.o | exact SetR.r))
local macro_rules
  | `(tactic| walk_at "fgt") => `(tactic| focus (repeat first | exact FgtsR.nil | exact FgtR.k | exact FgtR.z rfl | exact FgtR.z (by assumption) | apply FgtR.s | apply FgtsR.cons))
local macro_rules
  | `(tactic| walk_at "x") => `(tactic| first
    | ((with_reducible apply wp_varV); (focus exact rfl)) | ((with_reducible apply wp_varO); (focus exact rfl)) | ((with_reducible apply wp_varR); (focus exact rfl))
    | ((with_reducible apply opq); (focus exact rfl); (focus exact rfl); (focus (first | exact ev_eqI | exact ev_neI | exact ev_ltI | exact ev_leI | exact ev_gtI | exact ev_geI | exact ev_eqOne | exact ev_neOne | exact ev_in2 | exact ev_in2n | exact ev_in4n | exact ev_isT | exact ev_isF | exact ev_isnT | exact ev_isnF | exact ev_strT | exact ev_strF n1 | exact ev_strF n2 | exact ev_strF n3 | exact ev_strF n4 | exact ev_strF n5 | exact ev_strF n6 | exact rfl)))
    | ((with_reducible apply unq); (focus exact rfl); (focus exact rfl))
    | ((with_reducible first | apply putqV | apply putqN); walk_at "put")
    | ((with_reducible apply putqB); (focus exact rfl); (focus exact rfl); walk_at "put"; walk_at "put")
    | ((with_reducible apply putq2); walk_at "put"; walk_at "put")
    | ((with_reducible apply parq); walk_at "put"; walk_at "put")
    | ((with_reducible apply wp_callR); (focus (repeat first | exact RefsR.nil | apply RefsR.v | apply RefsR.r)); (focus decide))
    | ((with_reducible apply wp_ar); (focus exact rfl))
    | ((with_reducible apply fin_rt); (focus exact rfl); (focus exact rfl))
    | ((with_reducible apply fin_nx); (focus exact rfl))
    | ((with_reducible apply wp_appendR); (focus exact rfl))
    | (with_reducible refine ⟨_, rfl, ?_⟩) | (with_reducible refine ⟨_, .inl rfl, ?_⟩) | (with_reducible refine ⟨_, .inr (.inl rfl), ?_⟩) | (with_reducible refine ⟨_, .inr (.inr rfl), ?_⟩)
    | (with_reducible apply callq0) | ((with_reducible apply frzB); (focus exact rfl); (focus exact rfl); walk_at "put")
    | ((with_reducible apply callq1); walk_at "set")
    | ((with_reducible apply callq2); walk_at "set"; walk_at "set")
    | ((with_reducible first | apply fgt_nx | apply fgt_bk | apply fgt_ct); walk_at "fgt")
    | ((with_reducible apply brT); (focus exact rfl)) | ((with_reducible apply brF); (focus exact rfl)))
local macro_rules
  | `(tactic| walk_at "r") => `(tactic| repeat first | walk_at "w" | walk_at "x")
local macro_rules
  | `(tactic| walk_at "ri") => `(tactic| repeat first | walk_at "w" | walk_at "x" | (with_reducible refine wp_if ?_))
local macro_rules
  | `(tactic| walk_at "app") => `(tactic| ((with_reducible apply appq); (focus exact rfl); (focus ((try simp only [List.length_map, List.length_nil, List.length_cons, List.length_append]); unfold line; omega)); walk_at "set"))
local macro_rules
  | `(tactic| walk_at "mul") => `(tactic| ((refine opq rfl rfl (ev_mul ?_) ?_); (focus (apply mulT <;> omega))))
local macro_rules
  | `(tactic| walk_at "rm") => `(tactic| repeat first | walk_at "w" | walk_at "x" | walk_at "mul")
local macro_rules
  | `(tactic| walk_at "len") => `(tactic| (refine And.intro ?_ ?_; (focus (simp [line]; done))))
local macro_rules
  | `(tactic| walk_at "rl") => `(tactic| repeat first | walk_at "w" | walk_at "x" | walk_at "len")
local macro_rules
  | `(tactic| walk_at "ril") => `(tactic| repeat first | walk_at "w" | walk_at "x" | walk_at "len" | (with_reducible refine wp_if ?_))
noncomputable def meanQ (n d : Nat) : Rat := by
  classical exact if h : ∃ x : Nat × Nat, Turn n d x.1 x.2 then (meanN n d h.choose.1 h.choose.2 : Rat) / (meanD n d h.choose.1 h.choose.2 : Rat) else 0
theorem meanQ_eq {n d L b : Nat} (h : Turn n d L b) : meanQ n d = (meanN n d L b : Rat) / (meanD n d L b : Rat) := by
  unfold meanQ
  have hx : ∃ x : Nat × Nat, Turn n d x.1 x.2 := ⟨(L, b), h⟩
  rw [dif_pos hx]
  obtain ⟨h1, h2⟩ := hx.choose_spec.uniq h
  rw [h1, h2]
noncomputable def mq (c : NN) : Rat := if c = (1, 1) then 0 else meanQ c.1 c.2
noncomputable def sumQ : List NN → Rat
  | [] => 0
  | c :: cs => mq c + sumQ cs
theorem sumQ_append (xs ys : List NN) : sumQ (xs ++ ys) = sumQ xs + sumQ ys := by
  induction xs with
  | nil => simp [sumQ, Rat.zero_add]
  | cons x xs ih => simp [sumQ, ih, Rat.add_assoc]
def sumP : List (Int × Int) → Rat
  | [] => 0
  | p :: ps => qv p + sumP ps
theorem sumP_append (xs ys : List (Int × Int)) : sumP (xs ++ ys) = sumP xs + sumP ys := by
  induction xs with
  | nil => simp [sumP, Rat.zero_add]
  | cons x xs ih => simp [sumP, ih, Rat.add_assoc]
theorem meanD_pos {n d L b : Nat} (h : Turn n d L b) : 0 < meanD n d L b := by
  have h1 := h.hb
  have h2 := h.len
  have h3 : 0 < 2 ^ b := Nat.two_pow_pos b
  have h4 := Nat.pow_le_pow_right (show 0 < 2 by decide) (show 1 ≤ L - b by omega)
  unfold meanD
  exact Int.mul_pos (Int.mul_pos (by omega) (by omega)) (by omega)
def Okd (c : NN) : Prop := c.1 ≤ c.2 ∧ 1 ≤ c.2 ∧ c.2 ≤ 2000 ∧ (c.1 = c.2 → c = (1, 1))
theorem Okd.lt {c : NN} (h : Okd c) (hc : c ≠ (1, 1)) : c.1 < c.2 := by
  obtain ⟨h1, h2, h3, h4⟩ := h
  rcases Nat.lt_or_ge c.1 c.2 with g | g
  · exact g
  · exact absurd (h4 (by omega)) hc
section
variable {Q : R → List Ob → Prop} {ns ds : List Int}
theorem of_fewest_tosses {cs : List NN} (hl : cs.length ≤ 20) (h : ∀ c ∈ cs, Okd c) (k : ∀ r, Bt 900000 r → Low r → qv r = sumQ cs → Q (.val (fr r)) []) : Ret d_fewest_tosses_k44 [.val (chsV cs)] Q := by
  refine ret_mkR (by repeat constructor) ?_
  unfold b_fewest_tosses_k44
  walk_at "r"
  refine wp_mid (fun ρ => ∃ r, Bt (1 + 40001 * cs.length) r ∧ Low r ∧ qv r = sumQ cs ∧ ρ = [some (.val (chsV cs)), some (.val (fr r)), none]) ?_ ?_
  · refine wp_for ?_
    walk_at "r"
    refine wp_loop frN (fun done ρ => ∃ r, Bt (1 + 40001 * done.length) r ∧ Low r ∧ qv r = sumQ done ∧ ρ = [some (.val (chsV cs)), some (.val (fr r)), none]) cs ⟨(0, 1), ⟨by decide, by decide, by decide⟩, ⟨by decide, by decide⟩, by simp [sumQ, qv]; grind, rfl⟩ ?_ ?_
    · rintro done c rest _ e ⟨r, r1, r2, r3, rfl⟩
      have hc := h c (by rw [e]; simp)
      have hdl : done.length ≤ 20 := by have := congrArg List.length e; simp at this; omega
      unfold l1_fewest_tosses_k44
      walk_at "ri"
      refine branchN (fun hc1 => ?_) fun hc1 => ?_
      · have hc1 := of_decide_eq_false hc1
        walk_at "r"
        have hlt := hc.lt hc1
        refine of_sum_of_digits hlt hc.2.2.1 fun s L b ht s1 s2 s3 => ?_
        walk_at "r"
        refine of_plus r1.ne s1.ne (okM_bt r1 s1 (by omega)) ?_
        walk_at "r"
        refine ⟨_, (bt_plus r1 s1).mono ?_, low_plus r1.1 s1.1, ?_, rfl⟩
        · rw [List.length_append, List.length_singleton]; omega
        · rw [qv_plus r1.ne s1.ne, sumQ_append, r3, s3]
          simp only [sumQ, mq, if_neg hc1, meanQ_eq ht, Rat.add_zero]
      · have hc1 := of_decide_eq_true hc1
        walk_at "r"
        refine ⟨r, r1.mono ?_, r2, ?_, rfl⟩
        · rw [List.length_append, List.length_singleton]; omega
        · rw [sumQ_append, r3, hc1]
          simp only [sumQ, mq, if_true, Rat.add_zero]
    · rintro _ ⟨r, r1, r2, r3, rfl⟩
      exact ⟨rfl, r, r1, r2, r3, rfl⟩
  rintro _ ⟨r, r1, r2, r3, rfl⟩
  walk_at "r"
  exact k r (r1.mono (by omega)) r2 r3
theorem of_is_sum {r : Int × Int} (hr : Low r) (hb : Bt 900000 r) {ps : List (Int × Int)} (hl : ps.length ≤ 20) (hps : ∀ p ∈ ps, Bt 8000 p) (e : qv r = sumP ps) (q : Q (.val (.bool true)) []) : Ret d_law_is_sum [.val (fr r), .val (.list (ps.map fr))] Q := by
  refine ret_mkR (by repeat constructor) ?_
  unfold b_law_is_sum fr
  walk_at "ri"
  refine wp_mid (fun ρ => ρ = [some (.val (.tuple [.int r.1, .int r.2])), some (.val (.list (ps.map fr))), none, none, none, none, none]) ?_ ?_
  · refine wp_for ?_
    walk_at "r"
    refine wp_loop (fun z : Int => PyData.int z) (fun done ρ => ρ = [some (.val (.tuple [.int r.1, .int r.2])), some (.val (.list (ps.map fr))), none, none, none, none, none]) [r.1, r.2] rfl ?_ ?_
    · rintro done c rest _ _ rfl
      unfold l1_law_is_sum
      walk_at "ri"
      rfl
    · rintro _ rfl
      exact ⟨rfl, rfl⟩
  rintro _ rfl
  walk_at "r"
  refine wp_mid (fun ρ => ∃ t b : Int, Bt (1 + 8001 * ps.length) (t, b) ∧ qv (t, b) = sumP ps ∧ ρ = [some (.val (.tuple [.int r.1, .int r.2])), some (.val (.list (ps.map fr))), none, some (.val (.int t)), some (.val (.int b)), none, none]) ?_ ?_
  · refine wp_for ?_
    walk_at "r"
    refine wp_loop fr (fun done ρ => ∃ t b : Int, Bt (1 + 8001 * done.length) (t, b) ∧ qv (t, b) = sumP done ∧ ρ = [some (.val (.tuple [.int r.1, .int r.2])), some (.val (.list (ps.map fr))), none, some (.val (.int t)), some (.val (.int b)), none, none]) ps ⟨0, 1, ⟨by decide, by decide, by decide⟩, by simp [sumP, qv]; grind, rfl⟩ ?_ ?_
    · rintro done p rest _ e' ⟨t, b, h1, h2, rfl⟩
      have hp := hps p (by rw [e']; simp)
      have hdl : done.length ≤ 20 := by have := congrArg List.length e'; simp at this; omega
      have hb' := ic_ne h1.ne
      have hp' := ic_ne hp.ne
      have ln : (done ++ [p]).length = done.length + 1 := by simp
      unfold l2_law_is_sum
      show PutQ _ (.val (.tuple [.int p.1, .int p.2])) _ _
      walk_at "ri"
      refine branchD (fun hc => ?_) fun hc => ?_
      · walk_at "r"
        refine ⟨t + p.1, b, ⟨h1.1, ?_, ?_⟩, ?_, rfl⟩
        · refine Nat.lt_of_lt_of_le (lt_add (m := 1 + 8001 * done.length + 8000) (up_lt h1.2.1 (by omega)) (up_lt hp.2.1 (by omega))) (Nat.pow_le_pow_right (by decide) (by omega))
        · exact up_lt h1.2.2 (by omega)
        · rw [sumP_append, ← h2]
          simp only [sumP, qv]
          rw [hc] at *
          rw [Rat.intCast_add]
          grind
      · walk_at "r"
        refine opq rfl rfl (ev_mul (mulOk_of _ _ h1.2.1 hp.2.2 (by omega))) ?_
        walk_at "r"
        refine opq rfl rfl (ev_mul (mulOk_of _ _ hp.2.1 h1.2.2 (by omega))) ?_
        walk_at "r"
        refine opq rfl rfl (ev_mul (mulOk_of _ _ h1.2.2 hp.2.2 (by omega))) ?_
        walk_at "r"
        refine ⟨t * p.2 + p.1 * b, b * p.2, ⟨Int.mul_pos h1.1 hp.1, ?_, ?_⟩, ?_, rfl⟩
        · refine Nat.lt_of_lt_of_le (lt_add (m := 1 + 8001 * done.length + 8000) (lt_mul h1.2.1 hp.2.2) ?_) (Nat.pow_le_pow_right (by decide) (by omega))
          rw [Int.mul_comm]
          exact lt_mul h1.2.2 hp.2.1
        · exact Nat.lt_of_lt_of_le (lt_mul h1.2.2 hp.2.2) (Nat.pow_le_pow_right (by decide) (by omega))
        · rw [sumP_append, ← h2]
          simp only [sumP, qv]
          rw [Rat.intCast_add, Rat.intCast_mul, Rat.intCast_mul, Rat.intCast_mul]
          grind
    · rintro _ ⟨t, b, h1, h2, rfl⟩
      exact ⟨rfl, t, b, h1, h2, rfl⟩
  rintro _ ⟨t, b, h1, h2, rfl⟩
  walk_at "r"
  have hr0 := hr.1
  have cross : r.1 * b = t * r.2 := (qv_of hr.ne h1.ne).mp (e.trans h2.symm)
  refine branchB (fun _ => ?_) fun z => absurd z (by simp [hr0])
  walk_at "r"
  refine opq rfl rfl (ev_mul (mulOk_of _ _ hb.2.1 h1.2.2 (by omega))) ?_
  walk_at "r"
  refine opq rfl rfl (ev_mul (mulOk_of _ _ h1.2.1 hb.2.2 (by omega))) ?_
  walk_at "r"
  refine branchB (fun _ => ?_) fun z => absurd z (by simp [cross])
  walk_at "r"
  refine of_common ?_
  walk_at "r"
  rw [decide_eq_true (by rw [hr.2]; rfl)]
  exact q
end
end Py
namespace Py
open PySem D
/-! bold play: the plain law -/
def fac (w l g r : Nat) : Nat := if 2 * r < g then w else l
def hit (w g r : Nat) : Nat := if 2 * r < g then 0 else w
def bV (w l g y : Nat) : Nat → Nat
  | 0 => 1
  | j + 1 => bV w l g y j * fac w l g (restV y g j)
def aV (w l g y : Nat) : Nat → Nat
  | 0 => 0
  | j + 1 => aV w l g y j * (w + l) + bV w l g y j * hit w g (restV y g j)
theorem bV_succ (w l g y j : Nat) : bV w l g y (j + 1) = bV w l g y j * fac w l g (restV y g j) := rfl
theorem aV_succ (w l g y j : Nat) : aV w l g y (j + 1) = aV w l g y j * (w + l) + bV w l g y j * hit w g (restV y g j) := rfl
/-- the chances of bold play -/
structure Sol (w l g : Nat) (f : Nat → Rat) : Prop where
  zero : f 0 = 0
  step : ∀ r, r < g → ((w + l : Nat) : Rat) * f r = (hit w g r : Rat) + (fac w l g r : Rat) * f (2 * r % g)
theorem Sol.run {w l g : Nat} {f : Nat → Rat} (h : Sol w l g f) {y : Nat} (hy : y < g) (j : Nat) : (((w + l) ^ j : Nat) : Rat) * f y = (aV w l g y j : Rat) + (bV w l g y j : Rat) * f (restV y g j) := by
  induction j with
  | zero => rw [restV0 hy]; simp [aV, bV, Rat.zero_add]
  | succ j ih =>
    have hs := h.step (restV y g j) (Nat.mod_lt _ (by omega))
    rw [← restV_succ] at hs
    rw [aV_succ, bV_succ, Nat.pow_succ]
    simp only [Rat.natCast_mul, Rat.natCast_add] at *
    generalize f (restV y g j) = x at *
    generalize f (restV y g (j + 1)) = x' at *
    generalize (((w + l) ^ j : Nat) : Rat) = C at *
    generalize (hit w g (restV y g j) : Rat) = H at *
    generalize (fac w l g (restV y g j) : Rat) = F at *
    generalize (aV w l g y j : Rat) = a at *
    generalize (bV w l g y j : Rat) = b at *
    generalize (w : Rat) = W at *
    generalize (l : Rat) = L at *
    generalize f y = y0 at *
    grind
theorem nc_ne {a : Nat} (h : 0 < a) : (a : Rat) ≠ 0 := by
  have := ic_ne (a := (a : Int)) (by omega)
  rwa [Rat.intCast_natCast] at this
theorem sub_ne {a b : Nat} (h : a < b) : (b : Rat) - (a : Rat) ≠ 0 := by
  have := ic_ne (a := (b : Int) - (a : Int)) (by omega)
  rwa [Rat.intCast_sub, Rat.intCast_natCast, Rat.intCast_natCast] at this
noncomputable def perQ (w l g N y : Nat) : Rat := if y = 0 then 0 else (aV w l g y N : Rat) / ((((w + l) ^ N : Nat) : Rat) - (bV w l g y N : Rat))
end Py
namespace Py
open PySem D
/-! timid play: the plain law -/
def pk (w l g k : Nat) : Nat := w ^ (g - 1 - k) * l ^ k
def Ps (w l g : Nat) : Nat → Nat
  | 0 => 0
  | m + 1 => Ps w l g m + pk w l g m
/-- the chance of timid play by the law's own formula -/
def timN (w l g m : Nat) : Int := (w : Int) ^ (g - m) * (((w : Int) ^ m - (l : Int) ^ m) / ((w : Int) ^ Nat.gcd m g - (l : Int) ^ Nat.gcd m g))
def timD (w l g m : Nat) : Int := ((w : Int) ^ g - (l : Int) ^ g) / ((w : Int) ^ Nat.gcd m g - (l : Int) ^ Nat.gcd m g)
end Py
namespace Py
open PySem D
local macro_rules
  | `(tactic| walk_at "w") => `(tactic| with_reducible first
    | refine seq_nx ?_ | refine seq_rt ?_ | refine seq_bk ?_ | refine seq_ct ?_ | refine wp_seq ?_ | refine wp_asg ?_ | refine wp_next ?_ | refine wp_ret ?_ | refine wp_retN ?_ | refine wp_brk ?_ | refine wp_cont ?_ | refine wp_expr ?_ | refine wp_op ?_ | refine wp_un ?_ | refine wp_c ?_
    | refine unB ?_ | refine wp_truB ?_ | refine wp_and ?_ | refine wp_or ?_ | refine wp_not ?_ | refine wp_ifE ?_ | refine wp_tup ?_ | refine wp_lst ?_ | refine wp_lcons ?_ | refine wp_lnil ?_ | refine frzV ?_ | refine frzN ?_ | refine wp_frz ?_ | refine wp_sl ?_ | refine wp_onone ?_ | refine wp_osome ?_
    | refine wp_anil ?_ | refine wp_av ?_ | refine wp_andV ?_ | refine wp_orV ?_ | refine wp_notV ?_ | refine wp_fgtR ?_ | refine turn_nx ?_ | refine turn_rt ?_ | refine turn_bk ?_ | refine turn_ct ?_ | refine fgt_rt ?_ | refine wp_par ?_ | refine wp_chain ?_ | refine wp_seqI ?_)
local macro_rules
  | `(tactic| walk_at "put") => `(tactic| focus ((repeat apply PutR.s); first | exact PutR.z rfl | exact PutR.z (by assumption)))
local macro_rules
  | `(tactic| walk_at "set") => `(tactic| focus ((repeat apply SetR.s); first | exact SetR.o | exact SetR.r))
local macro_rules
  | `(tactic| walk_at "fgt") => `(tactic| focus (repeat first | exact FgtsR.nil | exact FgtR.k | exact FgtR.z rfl | exact FgtR.z (by assumption) | apply FgtR.s | apply FgtsR.cons))
local macro_rules
  | `(tactic| walk_at "x") => `(tactic| first
    | ((with_reducible apply wp_varV); (focus exact rfl)) | ((with_reducible apply wp_varO); (focus exact rfl)) | ((with_reducible apply wp_varR); (focus exact rfl))
    | ((with_reducible apply opq); (focus exact rfl); (focus exact rfl); (focus (first | exact ev_eqI | exact ev_neI | exact ev_ltI | exact ev_leI | exact ev_gtI | exact ev_geI | exact ev_eqOne | exact ev_neOne | exact ev_in2 | exact ev_in2n | exact ev_in4n | exact ev_isT | exact ev_isF | exact ev_isnT | exact ev_isnF | exact ev_strT | exact ev_strF n1 | exact ev_strF n2 | exact ev_strF n3 | exact ev_strF n4 | exact ev_strF n5 | exact ev_strF n6 | exact rfl)))
    | ((with_reducible apply unq); (focus exact rfl); (focus exact rfl))
    | ((with_reducible first | apply putqV | apply putqN); walk_at "put")
    | ((with_reducible apply putqB); (focus exact rfl); (focus exact rfl); walk_at "put"; walk_at "put")
    | ((with_reducible apply putq2); walk_at "put"; walk_at "put")
    | ((with_reducible apply parq); walk_at "put"; walk_at "put")
    | ((with_reducible apply wp_callR); (focus (repeat first | exact RefsR.nil | apply RefsR.v | apply RefsR.r)); (focus decide))
    | ((with_reducible apply wp_ar); (focus exact rfl))
    | ((with_reducible apply fin_rt); (focus exact rfl); (focus exact rfl))
    | ((with_reducible apply fin_nx); (focus exact rfl))
    | ((with_reducible apply wp_appendR); (focus exact rfl))
    | (with_reducible refine ⟨_, rfl, ?_⟩) | (with_reducible refine ⟨_, .inl rfl, ?_⟩) | (with_reducible refine ⟨_, .inr (.inl rfl), ?_⟩) | (with_reducible refine ⟨_, .inr (.inr rfl), ?_⟩)
    | (with_reducible apply callq0) | ((with_reducible apply frzB); (focus exact rfl); (focus exact rfl); walk_at "put")
    | ((with_reducible apply callq1); walk_at "set")
    | ((with_reducible apply callq2); walk_at "set"; walk_at "set")
    | ((with_reducible first | apply fgt_nx | apply fgt_bk | apply fgt_ct); walk_at "fgt")
    | ((with_reducible apply brT); (focus exact rfl)) | ((with_reducible apply brF); (focus exact rfl)))
local macro_rules
  | `(tactic| walk_at "r") => `(tactic| repeat first | walk_at "w" | walk_at "x")
local macro_rules
  | `(tactic| walk_at "ri") => `(tactic| repeat first | walk_at "w" | walk_at "x" | (with_reducible refine wp_if ?_))
local macro_rules
  | `(tactic| walk_at "app") => `(tactic| ((with_reducible apply appq); (focus exact rfl); (focus ((try simp only [List.length_map, List.length_nil, List.length_cons, List.length_append]); unfold line; omega)); walk_at "set"))
local macro_rules
  | `(tactic| walk_at "mul") => `(tactic| ((refine opq rfl rfl (ev_mul ?_) ?_); (focus (apply mulT <;> omega))))
local macro_rules
  | `(tactic| walk_at "rm") => `(tactic| repeat first | walk_at "w" | walk_at "x" | walk_at "mul")
local macro_rules
  | `(tactic| walk_at "len") => `(tactic| (refine And.intro ?_ ?_; (focus (simp [line]; done))))
local macro_rules
  | `(tactic| walk_at "rl") => `(tactic| repeat first | walk_at "w" | walk_at "x" | walk_at "len")
local macro_rules
  | `(tactic| walk_at "ril") => `(tactic| repeat first | walk_at "w" | walk_at "x" | walk_at "len" | (with_reducible refine wp_if ?_))
/-- a chance (won, all) -/
structure Cc (c : NN) : Prop where
  le : c.1 ≤ c.2
  pos : 1 ≤ c.2
  cop : Nat.gcd c.1 c.2 = 1
  bd : c.2 ≤ 10 ^ 30
theorem Cc.wl {c : NN} (h : Cc c) : Nat.gcd c.1 (c.2 - c.1) = 1 := by rw [Nat.gcd_sub_self_right h.le]; exact h.cop
theorem Cc.zero {c : NN} (h : Cc c) (h0 : c.1 = 0) : c = (0, 1) := by
  have := h.cop
  rw [h0, Nat.gcd_zero_left] at this
  exact Prod.ext h0 this
theorem Cc.some {c : NN} (h : Cc c) : 0 < c.1 ∨ 0 < c.2 - c.1 := by have := h.pos; omega
noncomputable def timQ (c : NN) (g m : Nat) : Rat := (Ps c.1 (c.2 - c.1) g m : Rat) / (Ps c.1 (c.2 - c.1) g g : Rat)
theorem eone' (c : NN) (a b : Nat) : decide (((c.1 : Int), (c.2 : Int)) = ((a : Int), (b : Int))) = decide (c = (a, b)) := by
  by_cases e : c = (a, b)
  · subst e; simp
  · rw [decide_eq_false e, decide_eq_false (fun z => e (by injection z with z1 z2; exact Prod.ext (by omega) (by omega)))]
theorem ev_eqZero {c : NN} : fEq (.pv (frN c)) (.pv (.tuple [.int 0, .int 1])) = some (.val (.bool (decide (c = (0, 1))))) := by rw [← eone' c 0 1]; exact ev_eqFr (q := (0, 1))
local macro_rules
  | `(tactic| walk_at "rz") => `(tactic| repeat first | walk_at "w" | ((with_reducible apply opq); (focus exact rfl); (focus exact rfl); (focus exact ev_eqZero)) | walk_at "x" | (with_reducible refine wp_if ?_))
section
variable {Q : R → List Ob → Prop} {ns ds : List Int}
end
end Py
namespace Py
open PySem D
local macro_rules
  | `(tactic| walk_at "w") => `(tactic| with_reducible first
    | refine seq_nx ?_ | refine seq_rt ?_ | refine seq_bk ?_ | refine seq_ct ?_ | refine wp_seq ?_ | refine wp_asg ?_ | refine wp_next ?_ | refine wp_ret ?_ | refine wp_retN ?_ | refine wp_brk ?_ | refine wp_cont ?_ | refine wp_expr ?_ | refine wp_op ?_ | refine wp_un ?_ | refine wp_c ?_
    | refine unB ?_ | refine wp_truB ?_ | refine wp_and ?_ | refine wp_or ?_ | refine wp_not ?_ | refine wp_ifE ?_ | refine wp_tup ?_ | refine wp_lst ?_ | refine wp_lcons ?_ | refine wp_lnil ?_ | refine frzV ?_ | refine frzN ?_ | refine wp_frz ?_ | refine wp_sl ?_ | refine wp_onone ?_ | refine wp_osome ?_
    | refine wp_anil ?_ | refine wp_av ?_ | refine wp_andV ?_ | refine wp_orV ?_ | refine wp_notV ?_ | refine wp_fgtR ?_ | refine turn_nx ?_ | refine turn_rt ?_ | refine turn_bk ?_ | refine turn_ct ?_ | refine fgt_rt ?_ | refine wp_par ?_ | refine wp_chain ?_ | refine wp_seqI ?_)
local macro_rules
  | `(tactic| walk_at "put") => `(tactic| focus ((repeat apply PutR.s); first | exact PutR.z rfl | exact PutR.z (by assumption)))
local macro_rules
  | `(tactic| walk_at "set") => `(tactic| focus ((repeat apply SetR.s); first | exact SetR.o | exact SetR.r))
local macro_rules
  | `(tactic| walk_at "fgt") => `(tactic| focus (repeat first | exact FgtsR.nil | exact FgtR.k | exact FgtR.z rfl | exact FgtR.z (by assumption) | apply FgtR.s | apply FgtsR.cons))
local macro_rules
  | `(tactic| walk_at "x") => `(tactic| first
    | ((with_reducible apply wp_varV); (focus exact rfl)) | ((with_reducible apply wp_varO); (focus exact rfl)) | ((with_reducible apply wp_varR); (focus exact rfl))
    | ((with_reducible apply opq); (focus exact rfl); (focus exact rfl); (focus (first | exact ev_eqI | exact ev_neI | exact ev_ltI | exact ev_leI | exact ev_gtI | exact ev_geI | exact ev_eqOne | exact ev_neOne | exact ev_in2 | exact ev_in2n | exact ev_in4n | exact ev_isT | exact ev_isF | exact ev_isnT | exact ev_isnF | exact ev_strT | exact ev_strF n1 | exact ev_strF n2 | exact ev_strF n3 | exact ev_strF n4 | exact ev_strF n5 | exact ev_strF n6 | exact rfl)))
    | ((with_reducible apply unq); (focus exact rfl); (focus exact rfl))
    | ((with_reducible first | apply putqV | apply putqN); walk_at "put")
    | ((with_reducible apply putqB); (focus exact rfl); (focus exact rfl); walk_at "put"; walk_at "put")
    | ((with_reducible apply putq2); walk_at "put"; walk_at "put")
    | ((with_reducible apply parq); walk_at "put"; walk_at "put")
    | ((with_reducible apply wp_callR); (focus (repeat first | exact RefsR.nil | apply RefsR.v | apply RefsR.r)); (focus decide))
    | ((with_reducible apply wp_ar); (focus exact rfl))
    | ((with_reducible apply fin_rt); (focus exact rfl); (focus exact rfl))
    | ((with_reducible apply fin_nx); (focus exact rfl))
    | ((with_reducible apply wp_appendR); (focus exact rfl))
    | (with_reducible refine ⟨_, rfl, ?_⟩) | (with_reducible refine ⟨_, .inl rfl, ?_⟩) | (with_reducible refine ⟨_, .inr (.inl rfl), ?_⟩) | (with_reducible refine ⟨_, .inr (.inr rfl), ?_⟩)
    | (with_reducible apply callq0) | ((with_reducible apply frzB); (focus exact rfl); (focus exact rfl); walk_at "put")
    | ((with_reducible apply callq1); walk_at "set")
    | ((with_reducible apply callq2); walk_at "set"; walk_at "set")
    | ((with_reducible first | apply fgt_nx | apply fgt_bk | apply fgt_ct); walk_at "fgt")
    | ((with_reducible apply brT); (focus exact rfl)) | ((with_reducible apply brF); (focus exact rfl)))
local macro_rules
  | `(tactic| walk_at "r") => `(tactic| repeat first | walk_at "w" | walk_at "x")
local macro_rules
  | `(tactic| walk_at "ri") => `(tactic| repeat first | walk_at "w" | walk_at "x" | (with_reducible refine wp_if ?_))
local macro_rules
  | `(tactic| walk_at "app") => `(tactic| ((with_reducible apply appq); (focus exact rfl); (focus ((try simp only [List.length_map, List.length_nil, List.length_cons, List.length_append]); unfold line; omega)); walk_at "set"))
local macro_rules
  | `(tactic| walk_at "mul") => `(tactic| ((refine opq rfl rfl (ev_mul ?_) ?_); (focus (apply mulT <;> omega))))
local macro_rules
  | `(tactic| walk_at "rm") => `(tactic| repeat first | walk_at "w" | walk_at "x" | walk_at "mul")
local macro_rules
  | `(tactic| walk_at "len") => `(tactic| (refine And.intro ?_ ?_; (focus (simp [line]; done))))
local macro_rules
  | `(tactic| walk_at "rl") => `(tactic| repeat first | walk_at "w" | walk_at "x" | walk_at "len")
local macro_rules
  | `(tactic| walk_at "ril") => `(tactic| repeat first | walk_at "w" | walk_at "x" | walk_at "len" | (with_reducible refine wp_if ?_))
def placesB (w l g m k : Nat) : List (Key × PV) := (List.range k).map fun j => (.inl ((restV m g j : Nat) : Int), .tuple [.int (aV w l g m j : Nat), .int (bV w l g m j : Nat), .int ((w + l) ^ j : Nat)])
/-- the chance of bold play with this much money -/
noncomputable def fG (f : Nat → Rat) (g m : Nat) : Rat := if m = g then 1 else f m
section
variable {Q : R → List Ob → Prop} {ns ds : List Int}
end
end Py
namespace Py
open PySem D
local macro_rules
  | `(tactic| walk_at "w") => `(tactic| with_reducible first
    | refine seq_nx ?_ | refine seq_rt ?_ | refine seq_bk ?_ | refine seq_ct ?_ | refine wp_seq ?_ | refine wp_asg ?_ | refine wp_next ?_ | refine wp_ret ?_ | refine wp_retN ?_ | refine wp_brk ?_ | refine wp_cont ?_ | refine wp_expr ?_ | refine wp_op ?_ | refine wp_un ?_ | refine wp_c ?_
    | refine unB ?_ | refine wp_truB ?_ | refine wp_and ?_ | refine wp_or ?_ | refine wp_not ?_ | refine wp_ifE ?_ | refine wp_tup ?_ | refine wp_lst ?_ | refine wp_lcons ?_ | refine wp_lnil ?_ | refine frzV ?_ | refine frzN ?_ | refine wp_frz ?_ | refine wp_sl ?_ | refine wp_onone ?_ | refine wp_osome ?_
    | refine wp_anil ?_ | refine wp_av ?_ | refine wp_andV ?_ | refine wp_orV ?_ | refine wp_notV ?_ | refine wp_fgtR ?_ | refine turn_nx ?_ | refine turn_rt ?_ | refine turn_bk ?_ | refine turn_ct ?_ | refine fgt_rt ?_ | refine wp_par ?_ | refine wp_chain ?_ | refine wp_seqI ?_)
local macro_rules
  | `(tactic| walk_at "put") => `(tactic| focus ((repeat apply PutR.s); first | exact PutR.z rfl | exact PutR.z (by assumption)))
local macro_rules
  | `(tactic| walk_at "set") => `(tactic| focus ((repeat apply SetR.s); first | exact SetR.o | exact SetR.r))
local macro_rules
  | `(tactic| walk_at "fgt") => `(tactic| focus (repeat first | exact FgtsR.nil | exact FgtR.k | exact FgtR.z rfl | exact FgtR.z (by assumption) | apply FgtR.s | apply FgtsR.cons))
local macro_rules
  | `(tactic| walk_at "x") => `(tactic| first
    | ((with_reducible apply wp_varV); (focus exact rfl)) | ((with_reducible apply wp_varO); (focus exact rfl)) | ((with_reducible apply wp_varR); (focus exact rfl))
    | ((with_reducible apply opq); (focus exact rfl); (focus exact rfl); (focus (first | exact ev_eqI | exact ev_neI | exact ev_ltI | exact ev_leI | exact ev_gtI | exact ev_geI | exact ev_eqOne | exact ev_neOne | exact ev_in2 | exact ev_in2n | exact ev_in4n | exact ev_isT | exact ev_isF | exact ev_isnT | exact ev_isnF | exact ev_strT | exact ev_strF n1 | exact ev_strF n2 | exact ev_strF n3 | exact ev_strF n4 | exact ev_strF n5 | exact ev_strF n6 | exact rfl)))
    | ((with_reducible apply unq); (focus exact rfl); (focus exact rfl))
    | ((with_reducible first | apply putqV | apply putqN); walk_at "put")
    | ((with_reducible apply putqB); (focus exact rfl); (focus exact rfl); walk_at "put"; walk_at "put")
    | ((with_reducible apply putq2); walk_at "put"; walk_at "put")
    | ((with_reducible apply parq); walk_at "put"; walk_at "put")
    | ((with_reducible apply wp_callR); (focus (repeat first | exact RefsR.nil | apply RefsR.v | apply RefsR.r)); (focus decide))
    | ((with_reducible apply wp_ar); (focus exact rfl))
    | ((with_reducible apply fin_rt); (focus exact rfl); (focus exact rfl))
    | ((with_reducible apply fin_nx); (focus exact rfl))
    | ((with_reducible apply wp_appendR); (focus exact rfl))
    | (with_reducible refine ⟨_, rfl, ?_⟩) | (with_reducible refine ⟨_, .inl rfl, ?_⟩) | (with_reducible refine ⟨_, .inr (.inl rfl), ?_⟩) | (with_reducible refine ⟨_, .inr (.inr rfl), ?_⟩)
    | (with_reducible apply callq0) | ((with_reducible apply frzB); (focus exact rfl); (focus exact rfl); walk_at "put")
    | ((with_reducible apply callq1); walk_at "set")
    | ((with_reducible apply callq2); walk_at "set"; walk_at "set")
    | ((with_reducible first | apply fgt_nx | apply fgt_bk | apply fgt_ct); walk_at "fgt")
    | ((with_reducible apply brT); (focus exact rfl)) | ((with_reducible apply brF); (focus exact rfl)))
local macro_rules
  | `(tactic| walk_at "r") => `(tactic| repeat first | walk_at "w" | walk_at "x")
local macro_rules
  | `(tactic| walk_at "ri") => `(tactic| repeat first | walk_at "w" | walk_at "x" | (with_reducible refine wp_if ?_))
local macro_rules
  | `(tactic| walk_at "app") => `(tactic| ((with_reducible apply appq); (focus exact rfl); (focus ((try simp only [List.length_map, List.length_nil, List.length_cons, List.length_append]); unfold line; omega)); walk_at "set"))
local macro_rules
  | `(tactic| walk_at "mul") => `(tactic| ((refine opq rfl rfl (ev_mul ?_) ?_); (focus (apply mulT <;> omega))))
local macro_rules
  | `(tactic| walk_at "rm") => `(tactic| repeat first | walk_at "w" | walk_at "x" | walk_at "mul")
local macro_rules
  | `(tactic| walk_at "len") => `(tactic| (refine And.intro ?_ ?_; (focus (simp [line]; done))))
local macro_rules
  | `(tactic| walk_at "rl") => `(tactic| repeat first | walk_at "w" | walk_at "x" | walk_at "len")
local macro_rules
  | `(tactic| walk_at "ril") => `(tactic| repeat first | walk_at "w" | walk_at "x" | walk_at "len" | (with_reducible refine wp_if ?_))
def powL (w g : Nat) : List Nat := (List.range (g + 1)).map (w ^ ·)
section
variable {Q : R → List Ob → Prop} {ns ds : List Int}
end
end Py
namespace Py
open PySem D
local macro_rules
  | `(tactic| walk_at "w") => `(tactic| with_reducible first
    | refine seq_nx ?_ | refine seq_rt ?_ | refine seq_bk ?_ | refine seq_ct ?_ | refine wp_seq ?_ | refine wp_asg ?_ | refine wp_next ?_ | refine wp_ret ?_ | refine wp_retN ?_ | refine wp_brk ?_ | refine wp_cont ?_ | refine wp_expr ?_ | refine wp_op ?_ | refine wp_un ?_ | refine wp_c ?_
    | refine unB ?_ | refine wp_truB ?_ | refine wp_and ?_ | refine wp_or ?_ | refine wp_not ?_ | refine wp_ifE ?_ | refine wp_tup ?_ | refine wp_lst ?_ | refine wp_lcons ?_ | refine wp_lnil ?_ | refine frzV ?_ | refine frzN ?_ | refine wp_frz ?_ | refine wp_sl ?_ | refine wp_onone ?_ | refine wp_osome ?_
    | refine wp_anil ?_ | refine wp_av ?_ | refine wp_andV ?_ | refine wp_orV ?_ | refine wp_notV ?_ | refine wp_fgtR ?_ | refine turn_nx ?_ | refine turn_rt ?_ | refine turn_bk ?_ | refine turn_ct ?_ | refine fgt_rt ?_ | refine wp_par ?_ | refine wp_chain ?_ | refine wp_seqI ?_)
local macro_rules
  | `(tactic| walk_at "put") => `(tactic| focus ((repeat apply PutR.s); first | exact PutR.z rfl | exact PutR.z (by assumption)))
local macro_rules
  | `(tactic| walk_at "set") => `(tactic| focus ((repeat apply SetR.s); first | exact SetR.o | exact SetR.r))
local macro_rules
  | `(tactic| walk_at "fgt") => `(tactic| focus (repeat first | exact FgtsR.nil | exact FgtR.k | exact FgtR.z rfl | exact FgtR.z (by assumption) | apply FgtR.s | apply FgtsR.cons))
local macro_rules
  | `(tactic| walk_at "x") => `(tactic| first
    | ((with_reducible apply wp_varV); (focus exact rfl)) | ((with_reducible apply wp_varO); (focus exact rfl)) | ((with_reducible apply wp_varR); (focus exact rfl))
    | ((with_reducible apply opq); (focus exact rfl); (focus exact rfl); (focus (first | exact ev_eqI | exact ev_neI | exact ev_ltI | exact ev_leI | exact ev_gtI | exact ev_geI | exact ev_eqOne | exact ev_neOne | exact ev_in2 | exact ev_in2n | exact ev_in4n | exact ev_isT | exact ev_isF | exact ev_isnT | exact ev_isnF | exact ev_strT | exact ev_strF n1 | exact ev_strF n2 | exact ev_strF n3 | exact ev_strF n4 | exact ev_strF n5 | exact ev_strF n6 | exact rfl)))
    | ((with_reducible apply unq); (focus exact rfl); (focus exact rfl))
    | ((with_reducible first | apply putqV | apply putqN); walk_at "put")
    | ((with_reducible apply putqB); (focus exact rfl); (focus exact rfl); walk_at "put"; walk_at "put")
    | ((with_reducible apply putq2); walk_at "put"; walk_at "put")
    | ((with_reducible apply parq); walk_at "put"; walk_at "put")
    | ((with_reducible apply wp_callR); (focus (repeat first | exact RefsR.nil | apply RefsR.v | apply RefsR.r)); (focus decide))
    | ((with_reducible apply wp_ar); (focus exact rfl))
    | ((with_reducible apply fin_rt); (focus exact rfl); (focus exact rfl))
    | ((with_reducible apply fin_nx); (focus exact rfl))
    | ((with_reducible apply wp_appendR); (focus exact rfl))
    | (with_reducible refine ⟨_, rfl, ?_⟩) | (with_reducible refine ⟨_, .inl rfl, ?_⟩) | (with_reducible refine ⟨_, .inr (.inl rfl), ?_⟩) | (with_reducible refine ⟨_, .inr (.inr rfl), ?_⟩)
    | (with_reducible apply callq0) | ((with_reducible apply frzB); (focus exact rfl); (focus exact rfl); walk_at "put")
    | ((with_reducible apply callq1); walk_at "set")
    | ((with_reducible apply callq2); walk_at "set"; walk_at "set")
    | ((with_reducible first | apply fgt_nx | apply fgt_bk | apply fgt_ct); walk_at "fgt")
    | ((with_reducible apply brT); (focus exact rfl)) | ((with_reducible apply brF); (focus exact rfl)))
local macro_rules
  | `(tactic| walk_at "r") => `(tactic| repeat first | walk_at "w" | walk_at "x")
local macro_rules
  | `(tactic| walk_at "ri") => `(tactic| repeat first | walk_at "w" | walk_at "x" | (with_reducible refine wp_if ?_))
local macro_rules
  | `(tactic| walk_at "app") => `(tactic| ((with_reducible apply appq); (focus exact rfl); (focus ((try simp only [List.length_map, List.length_nil, List.length_cons, List.length_append]); unfold line; omega)); walk_at "set"))
local macro_rules
  | `(tactic| walk_at "mul") => `(tactic| ((refine opq rfl rfl (ev_mul ?_) ?_); (focus (apply mulT <;> omega))))
local macro_rules
  | `(tactic| walk_at "rm") => `(tactic| repeat first | walk_at "w" | walk_at "x" | walk_at "mul")
local macro_rules
  | `(tactic| walk_at "len") => `(tactic| (refine And.intro ?_ ?_; (focus (simp [line]; done))))
local macro_rules
  | `(tactic| walk_at "rl") => `(tactic| repeat first | walk_at "w" | walk_at "x" | walk_at "len")
local macro_rules
  | `(tactic| walk_at "ril") => `(tactic| repeat first | walk_at "w" | walk_at "x" | walk_at "len" | (with_reducible refine wp_if ?_))
section
variable {Q : R → List Ob → Prop} {ns ds : List Int}
end
end Py
namespace Py
open PySem D
local macro_rules
  | `(tactic| walk_at "w") => `(tactic| with_reducible first
    | refine seq_nx ?_ | refine seq_rt ?_ | refine seq_bk ?_ | refine seq_ct ?_ | refine wp_seq ?_ | refine wp_asg ?_ | refine wp_next ?_ | refine wp_ret ?_ | refine wp_retN ?_ | refine wp_brk ?_ | refine wp_cont ?_ | refine wp_expr ?_ | refine wp_op ?_ | refine wp_un ?_ | refine wp_c ?_
    | refine unB ?_ | refine wp_truB ?_ | refine wp_and ?_ | refine wp_or ?_ | refine wp_not ?_ | refine wp_ifE ?_ | refine wp_tup ?_ | refine wp_lst ?_ | refine wp_lcons ?_ | refine wp_lnil ?_ | refine frzV ?_ | refine frzN ?_ | refine wp_frz ?_ | refine wp_sl ?_ | refine wp_onone ?_ | refine wp_osome ?_
    | refine wp_anil ?_ | refine wp_av ?_ | refine wp_andV ?_ | refine wp_orV ?_ | refine wp_notV ?_ | refine wp_fgtR ?_ | refine turn_nx ?_ | refine turn_rt ?_ | refine turn_bk ?_ | refine turn_ct ?_ | refine fgt_rt ?_ | refine wp_par ?_ | refine wp_chain ?_ | refine wp_seqI ?_)
local macro_rules
  | `(tactic| walk_at "put") => `(tactic| focus ((repeat apply PutR.s); first | exact PutR.z rfl | exact PutR.z (by assumption)))
local macro_rules
  | `(tactic| walk_at "set") => `(tactic| focus ((repeat apply SetR.s); first | exact SetR.o | exact SetR.r))
local macro_rules
  | `(tactic| walk_at "fgt") => `(tactic| focus (repeat first | exact FgtsR.nil | exact FgtR.k | exact FgtR.z rfl | exact FgtR.z (by assumption) | apply FgtR.s | apply FgtsR.cons))
local macro_rules
  | `(tactic| walk_at "x") => `(tactic| first
    | ((with_reducible apply wp_varV); (focus exact rfl)) | ((with_reducible apply wp_varO); (focus exact rfl)) | ((with_reducible apply wp_varR); (focus exact rfl))
    | ((with_reducible apply opq); (focus exact rfl); (focus exact rfl); (focus (first | exact ev_eqI | exact ev_neI | exact ev_ltI | exact ev_leI | exact ev_gtI | exact ev_geI | exact ev_eqOne | exact ev_neOne | exact ev_in2 | exact ev_in2n | exact ev_in4n | exact ev_isT | exact ev_isF | exact ev_isnT | exact ev_isnF | exact ev_strT | exact ev_strF n1 | exact ev_strF n2 | exact ev_strF n3 | exact ev_strF n4 | exact ev_strF n5 | exact ev_strF n6 | exact rfl)))
    | ((with_reducible apply unq); (focus exact rfl); (focus exact rfl))
    | ((with_reducible first | apply putqV | apply putqN); walk_at "put")
    | ((with_reducible apply putqB); (focus exact rfl); (focus exact rfl); walk_at "put"; walk_at "put")
    | ((with_reducible apply putq2); walk_at "put"; walk_at "put")
    | ((with_reducible apply parq); walk_at "put"; walk_at "put")
    | ((with_reducible apply wp_callR); (focus (repeat first | exact RefsR.nil | apply RefsR.v | apply RefsR.r)); (focus decide))
    | ((with_reducible apply wp_ar); (focus exact rfl))
    | ((with_reducible apply fin_rt); (focus exact rfl); (focus exact rfl))
    | ((with_reducible apply fin_nx); (focus exact rfl))
    | ((with_reducible apply wp_appendR); (focus exact rfl))
    | (with_reducible refine ⟨_, rfl, ?_⟩) | (with_reducible refine ⟨_, .inl rfl, ?_⟩) | (with_reducible refine ⟨_, .inr (.inl rfl), ?_⟩) | (with_reducible refine ⟨_, .inr (.inr rfl), ?_⟩)
    | (with_reducible apply callq0) | ((with_reducible apply frzB); (focus exact rfl); (focus exact rfl); walk_at "put")
    | ((with_reducible apply callq1); walk_at "set")
    | ((with_reducible apply callq2); walk_at "set"; walk_at "set")
    | ((with_reducible first | apply fgt_nx | apply fgt_bk | apply fgt_ct); walk_at "fgt")
    | ((with_reducible apply brT); (focus exact rfl)) | ((with_reducible apply brF); (focus exact rfl)))
local macro_rules
  | `(tactic| walk_at "r") => `(tactic| repeat first | walk_at "w" | walk_at "x")
local macro_rules
  | `(tactic| walk_at "ri") => `(tactic| repeat first | walk_at "w" | walk_at "x" | (with_reducible refine wp_if ?_))
local macro_rules
  | `(tactic| walk_at "app") => `(tactic| ((with_reducible apply appq); (focus exact rfl); (focus ((try simp only [List.length_map, List.length_nil, List.length_cons, List.length_append]); unfold line; omega)); walk_at "set"))
local macro_rules
  | `(tactic| walk_at "mul") => `(tactic| ((refine opq rfl rfl (ev_mul ?_) ?_); (focus (apply mulT <;> omega))))
local macro_rules
  | `(tactic| walk_at "rm") => `(tactic| repeat first | walk_at "w" | walk_at "x" | walk_at "mul")
local macro_rules
  | `(tactic| walk_at "len") => `(tactic| (refine And.intro ?_ ?_; (focus (simp [line]; done))))
local macro_rules
  | `(tactic| walk_at "rl") => `(tactic| repeat first | walk_at "w" | walk_at "x" | walk_at "len")
local macro_rules
  | `(tactic| walk_at "ril") => `(tactic| repeat first | walk_at "w" | walk_at "x" | walk_at "len" | (with_reducible refine wp_if ?_))
section
variable {Q : R → List Ob → Prop} {ns ds : List Int}
end
end Py
namespace Py
open PySem D
/-! no better play: the plain law -/
/-- the chances of bold play as a function on 0 .. G -/
structure Bold (p q : Rat) (G : Nat) (F : Nat → Rat) : Prop where
  lo : ∀ r, 2 * r ≤ G → F r = p * F (2 * r)
  hi : ∀ r, G ≤ 2 * r → r ≤ G → F r = p + q * F (2 * r - G)
  zero : F 0 = 0
  one : F G = 1
def dlt (p q : Rat) (F : Nat → Rat) (x y : Nat) : Rat := F ((x + y) / 2) - p * F y - q * F x
def pairs (G : Nat) : List (Nat × Nat) := ((List.range (G + 1)).flatMap fun x => (List.range (G + 1)).map fun y => (x, y)).filter fun z => decide (z.1 ≤ z.2 ∧ (z.1 + z.2) % 2 = 0)
end Py
namespace Py
open PySem D
/-- what a told table has: the chances, and no stake that makes them better -/
structure Best (c : NN) (g : Nat) (F : Nat → Rat) : Prop where
  sup : ∀ m s, s ≤ m → m + s ≤ g → (c.1 : Rat) * F (m + s) + ((c.2 - c.1 : Nat) : Rat) * F (m - s) ≤ (c.2 : Rat) * F m
  nn : ∀ m, m ≤ g → 0 ≤ F m
  one : ∀ m, m ≤ g → F m ≤ 1
  bot : F 0 = 0
  top : F g = 1
theorem rat_cancel {D x y : Rat} (hD : 0 < D) (h : D * x ≤ D * y) : x ≤ y := by
  apply Decidable.byContradiction
  intro z
  have : 0 < x - y := by grind
  have := Rat.mul_pos hD this
  grind
theorem nc_pos {a : Nat} (h : 0 < a) : (0 : Rat) < a := by
  have := ic_pos (a := (a : Int)) (by omega)
  rwa [Rat.intCast_natCast] at this
theorem nc_nn (a : Nat) : (0 : Rat) ≤ a := by
  rcases Nat.eq_zero_or_pos a with h | h
  · subst h; exact Rat.le_refl
  · have := nc_pos h; grind
theorem nc_le {a b : Nat} (h : a ≤ b) : (a : Rat) ≤ b := by
  obtain ⟨k, rfl⟩ : ∃ k, b = a + k := ⟨b - a, by omega⟩
  have := nc_nn k
  rw [Rat.natCast_add]
  grind
end Py
namespace Py
open PySem D
/-! the mean number of tosses: plain law -/
theorem arch {x : Rat} {C K0 : Nat} (h : ∀ K, K0 ≤ K → x * ((2 ^ K : Nat) : Rat) ≤ (C : Rat)) : x ≤ 0 := by
  apply Decidable.byContradiction
  intro z
  have hx : 0 < x := by grind
  have hn : 0 < x.num := by
    have h1 := Rat.num_nonneg.mpr (show 0 ≤ x by grind)
    have h2 : x.num ≠ 0 := fun z => by
      have := Rat.num_eq_zero.mp z
      grind
    omega
  have hd : 0 < x.den := x.den_pos
  have e : x * (x.den : Rat) = (x.num : Rat) := by
    have h1 := Rat.num_divInt_den x
    rw [Rat.divInt_eq_div, Rat.intCast_natCast] at h1
    have h2 := nc_ne hd
    have : x * (x.den : Rat) = (x.num : Rat) / (x.den : Rat) * (x.den : Rat) := by rw [h1]
    rw [this]
    grind
  obtain ⟨K, hK⟩ : ∃ K, K = K0 + C * x.den := ⟨_, rfl⟩
  have h1 := h K (by omega)
  have h2 : C * x.den < 2 ^ K := Nat.lt_of_le_of_lt (by omega) (Nat.lt_two_pow_self (n := K))
  have h3 : ((C * x.den : Nat) : Rat) < ((2 ^ K : Nat) : Rat) := by
    have := nc_le (show C * x.den + 1 ≤ 2 ^ K by omega)
    rw [Rat.natCast_add] at this
    have e1 : ((1 : Nat) : Rat) = 1 := rfl
    rw [e1] at this
    grind
  have h4 : (1 : Rat) ≤ (x.num : Rat) := by
    have : ((1 : Int) : Rat) ≤ (x.num : Rat) := Rat.intCast_le_intCast.mpr hn
    simpa using this
  have hdr := nc_nn x.den
  have h5 := Rat.mul_le_mul_of_nonneg_left h1 hdr
  have hp := nc_nn (2 ^ K)
  have h6 := Rat.mul_le_mul_of_nonneg_left h4 hp
  rw [Rat.natCast_mul] at h3
  generalize ((2 ^ K : Nat) : Rat) = P at *
  have e3 : (x.den : Rat) * (x * P) = P * (x * x.den) := by grind
  rw [e3, e] at h5
  grind
theorem Av_add (n d b j : Nat) : ∀ k, Av n d b (j + k) = Av n d b j * 2 ^ k + Av n d (b + j) k
  | 0 => by simp [Av]
  | k + 1 => by
    rw [← Nat.add_assoc, A_succ, A_succ, Av_add n d b j k, Nat.pow_succ, Nat.add_assoc b j k]
    grind
theorem Av_per {n d b L : Nat} (h : Turn n d L b) (k : Nat) : ∀ m, Av n d (b + m * (L - b)) k = Av n d b k := by
  have hb := h.hb
  have hr : ∀ i, restV n d (L + i) = restV n d (b + i) := fun i => by
    induction i with
    | zero => exact h.turn
    | succ i ih => rw [← Nat.add_assoc, ← Nat.add_assoc, restV_succ, restV_succ, ih]
  have one : ∀ c, b ≤ c → Av n d (c + (L - b)) k = Av n d c k := fun c hc => by
    induction k with
    | zero => rfl
    | succ k ih =>
      rw [A_succ, A_succ, ih]
      congr 1
      have := hr (c - b + k)
      rw [show L + (c - b + k) = c + (L - b) + k by omega, show b + (c - b + k) = c + k by omega] at this
      exact this
  intro m
  induction m with
  | zero => simp
  | succ m ih =>
    rw [Nat.succ_mul, ← Nat.add_assoc, one _ (by omega), ih]
/-- v is the mean number of tosses that n/d asks for -/
def IsMean (n d : Nat) (v : Rat) : Prop := ∃ K0, ∀ K, K0 ≤ K → ((2 * Av n d 0 K : Nat) : Rat) ≤ v * ((d * 2 ^ K : Nat) : Rat) ∧ v * ((d * 2 ^ K : Nat) : Rat) ≤ ((2 * (Av n d 0 K + d) : Nat) : Rat)
theorem IsMean.le {n n1 n2 d : Nat} {v v1 v2 : Rat} (hd : 0 < d) (h : IsMean n d v) (h1 : IsMean n1 d v1) (h2 : IsMean n2 d v2) (e : ∀ K, Av n d 0 K ≤ Av n1 d 0 K + Av n2 d 0 K) : v ≤ v1 + v2 := by
  obtain ⟨K0, h⟩ := h
  obtain ⟨K1, h1⟩ := h1
  obtain ⟨K2, h2⟩ := h2
  have key : v - (v1 + v2) ≤ 0 := by
    refine arch (C := 2) (K0 := K0 + K1 + K2) fun K hK => ?_
    have a := (h K (by omega)).2
    have b1 := (h1 K (by omega)).1
    have b2 := (h2 K (by omega)).1
    have c := nc_le (show 2 * (Av n d 0 K + d) ≤ 2 * Av n1 d 0 K + 2 * Av n2 d 0 K + 2 * d by have := e K; omega)
    have hdr := nc_pos hd
    simp only [Rat.natCast_add, Rat.natCast_mul] at *
    refine rat_cancel hdr ?_
    have e2 : ((2 : Nat) : Rat) = 2 := rfl
    rw [e2] at *
    generalize ((2 ^ K : Nat) : Rat) = P at *
    generalize (Av n d 0 K : Rat) = A at *
    generalize (Av n1 d 0 K : Rat) = A1 at *
    generalize (Av n2 d 0 K : Rat) = A2 at *
    grind
  grind
theorem Av_zero (d : Nat) : ∀ K, Av 0 d 0 K = 0
  | 0 => rfl
  | K + 1 => by rw [A_succ, Av_zero d K]; simp [restV]
theorem alg0 {A D B P : Rat} (hD : D ≠ 0) (hB : B ≠ 0) : (2 * A / (D * B) + P / B) * (D * B) = 2 * A + P * D := by grind
theorem IsMean.uniq {n d : Nat} {v w : Rat} (hd : 0 < d) (h : IsMean n d v) (h' : IsMean n d w) : v = w := by
  have z : IsMean 0 d 0 := ⟨0, fun K _ => by
    rw [Av_zero d K]
    have := nc_nn (2 * (0 + d))
    simp only [Rat.zero_mul]
    refine ⟨by simp, this⟩⟩
  have a := IsMean.le hd h h' z fun K => by omega
  have b := IsMean.le hd h' h z fun K => by omega
  exact Rat.le_antisymm (by grind) (by grind)
theorem Turn.mean {n d L b : Nat} (h : Turn n d L b) : IsMean n d ((meanN n d L b : Rat) / (meanD n d L b : Rat)) := by
  have hb := h.hb
  have hL := h.len
  have hd : 0 < d := by omega
  obtain ⟨T, hT⟩ : ∃ T, T = L - b := ⟨_, rfl⟩
  have hT1 : 1 ≤ T := by omega
  have hO := A_lt (n := n) hd b T
  have hP2 : 2 ≤ 2 ^ T := by
    have := Nat.pow_le_pow_right (show 0 < 2 by decide) hT1
    omega
  have hdr := nc_ne hd
  have hPr := sub_ne (show 1 < 2 ^ T by omega)
  have hPn := nc_ne (show 0 < 2 ^ T by omega)
  have hBn := nc_ne (Nat.two_pow_pos b)
  have e1' : ((1 : Nat) : Rat) = 1 := rfl
  rw [e1'] at hPr
  -- P: the mean from where the rests come round
  obtain ⟨P, hPd⟩ : ∃ P : Rat, P = 2 * (Av n d b T : Rat) / ((d : Rat) * (((2 ^ T : Nat) : Rat) - 1)) := ⟨_, rfl⟩
  have ev : (meanN n d L b : Rat) / (meanD n d L b : Rat) = 2 * (Av n d 0 b : Rat) / ((d : Rat) * ((2 ^ b : Nat) : Rat)) + P / ((2 ^ b : Nat) : Rat) := by
    unfold meanN meanD
    rw [← hT, hPd]
    simp only [Rat.intCast_mul, Rat.intCast_add, Rat.intCast_sub, Rat.intCast_natCast]
    have e2 : ((2 : Int) : Rat) = 2 := rfl
    have e3 : ((1 : Int) : Rat) = 1 := rfl
    rw [e2, e3]
    generalize ((2 ^ T : Nat) : Rat) = X at *
    generalize ((2 ^ b : Nat) : Rat) = B at *
    generalize (Av n d 0 b : Rat) = A at *
    generalize (Av n d b T : Rat) = O at *
    generalize (d : Rat) = D at *
    clear hPd
    generalize hu : X - 1 = u at *
    have a1 : 2 * (A * u + O) / (D * B * u) = (2 * A * u + 2 * O) / (D * B * u) := by grind
    rw [a1]
    grind
  have hP1 : P * ((d : Rat) * (((2 ^ T : Nat) : Rat) - 1)) = 2 * (Av n d b T : Rat) := by
    rw [hPd]
    generalize ((2 ^ T : Nat) : Rat) - 1 = u at *
    grind
  have hstep : ∀ m, ((meanN n d L b : Rat) / (meanD n d L b : Rat)) * ((d * 2 ^ (b + m * T) : Nat) : Rat) = 2 * (Av n d 0 (b + m * T) : Rat) + P * (d : Rat) := by
    intro m
    induction m with
    | zero =>
      rw [ev]
      simp only [Nat.zero_mul, Nat.add_zero, Rat.natCast_mul]
      exact alg0 hdr hBn
    | succ m ih =>
      have e4 : b + (m + 1) * T = (b + m * T) + T := by rw [Nat.succ_mul]; omega
      have ea := Av_add n d 0 (b + m * T) T
      rw [Nat.zero_add] at ea
      have ep := Av_per h T m
      rw [← hT] at ep
      rw [ep] at ea
      rw [e4, ea, Nat.pow_add]
      simp only [Rat.natCast_mul, Rat.natCast_add] at *
      generalize ((2 ^ T : Nat) : Rat) = X at *
      generalize ((2 ^ (b + m * T) : Nat) : Rat) = Y at *
      generalize (Av n d 0 (b + m * T) : Rat) = A at *
      generalize (Av n d b T : Rat) = O at *
      generalize (meanN n d L b : Rat) / (meanD n d L b : Rat) = v at *
      generalize (d : Rat) = D at *
      have : v * (D * (Y * X)) = v * (D * Y) * X := by grind
      rw [this, ih]
      grind
  have hPpos : 0 ≤ P * (d : Rat) ∧ P * (d : Rat) ≤ 2 * (d : Rat) := by
    have o1 := nc_nn (Av n d b T)
    have o2 := nc_le hO
    have hu : 0 < ((2 ^ T : Nat) : Rat) - 1 := by
      have := nc_le hP2
      have e2 : ((2 : Nat) : Rat) = 2 := rfl
      rw [e2] at this
      grind
    simp only [Rat.natCast_mul, Rat.natCast_add] at *
    generalize ((2 ^ T : Nat) : Rat) = X at *
    constructor
    · refine rat_cancel hu ?_
      grind
    · refine rat_cancel hu ?_
      grind
  refine ⟨0, fun K _ => ?_⟩
  obtain ⟨m, hm⟩ : ∃ m, K ≤ b + m * T := ⟨K, Nat.le_trans (Nat.le_mul_of_pos_right K hT1) (by omega)⟩
  obtain ⟨k, hk⟩ : ∃ k, b + m * T = K + k := ⟨b + m * T - K, by omega⟩
  have hs := hstep m
  rw [hk] at hs
  have ea := Av_add n d 0 K k
  rw [Nat.zero_add] at ea
  have ek := A_lt (n := n) hd K k
  have l1 := nc_le ek
  have l2 := nc_nn (Av n d K k)
  have kp := nc_pos (Nat.two_pow_pos k)
  rw [ea, Nat.pow_add] at hs
  have e2 : ((2 : Nat) : Rat) = 2 := rfl
  simp only [Rat.natCast_mul, Rat.natCast_add, e2] at *
  generalize (meanN n d L b : Rat) / (meanD n d L b : Rat) = v at *
  generalize ((2 ^ k : Nat) : Rat) = Y at *
  generalize ((2 ^ K : Nat) : Rat) = Z at *
  generalize (Av n d 0 K : Rat) = A at *
  generalize (Av n d K k : Rat) = A2 at *
  generalize (d : Rat) = D at *
  have hv : v * (D * Z) * Y = 2 * (A * Y + A2) + P * D := by rw [← hs]; grind
  constructor
  · refine rat_cancel kp ?_
    grind
  · refine rat_cancel kp ?_
    grind
end Py
namespace Py
open PySem D
theorem least_nat {P : Nat → Prop} : ∀ n, P n → ∃ m, P m ∧ ∀ k, k < m → ¬ P k := by
  intro n
  induction n using Nat.strongRecOn with
  | ind n ih =>
    intro h
    by_cases c : ∃ k, k < n ∧ P k
    · obtain ⟨k, h1, h2⟩ := c
      exact ih k h1 h2
    · exact ⟨n, h, fun k hk hp => c ⟨k, hk, hp⟩⟩
theorem turn_ex {n d : Nat} (hd : 0 < d) : ∃ L b, Turn n d L b := by
  obtain ⟨i, j, h1, h2, h3⟩ := pigeon d (restV n d) fun i _ => Nat.mod_lt _ hd
  obtain ⟨L, ⟨b, hb, he⟩, hmin⟩ := least_nat (P := fun L => ∃ b, b < L ∧ restV n d L = restV n d b) j ⟨i, h1, h3.symm⟩
  have hdist : ∀ i j, i < j → j < L → restV n d i ≠ restV n d j := fun i j hij hj z => hmin j hj ⟨i, hij, z.symm⟩
  exact ⟨L, b, hb, dist_len hd hdist, he, hdist⟩
theorem mq_mean {c : NN} (h : Okd c) : IsMean c.1 c.2 (mq c) := by
  have hd : 0 < c.2 := h.2.1
  by_cases h1 : c = (1, 1)
  · rw [h1]
    unfold mq
    rw [if_pos rfl]
    refine ⟨0, fun K _ => ?_⟩
    have : ∀ K, Av 1 1 0 K = 0 := fun K => by
      induction K with
      | zero => rfl
      | succ K ih => rw [A_succ, ih]; simp [restV, Nat.mod_one]
    rw [this K, Rat.zero_mul]
    exact ⟨by simp, nc_nn _⟩
  · obtain ⟨L, b, ht⟩ := turn_ex (n := c.1) hd
    unfold mq
    rw [if_neg h1, meanQ_eq ht]
    exact ht.mean
theorem IsMean.zero (d : Nat) : IsMean 0 d 0 := ⟨0, fun K _ => by
  rw [Av_zero d K, Rat.zero_mul]
  exact ⟨by simp, nc_nn _⟩⟩
end Py
namespace Py
open PySem D
/-! machines: plain law -/
def wt (e : Nat) : Nat := 2 ^ (10 - e)
def sumR (xs : List Rat) : Rat := xs.foldr (· + ·) 0
abbrev Ends := List (Nat × Nat)
/-- what the ends of an outcome come to, of 1024 -/
def part (E : Ends) (i : Nat) : Nat := (E.map fun e => if e.2 = i then wt e.1 else 0).sum
noncomputable def tm (i N W p : Nat) (M : Rat) (e : Nat × Nat) : Nat × Rat := (if e.2 = i then wt e.1 * W else if e.2 = N then wt e.1 * p else 0, (if e.2 = i then (e.1 : Rat) * ((wt e.1 : Rat) / 1024) else 0) + (if e.2 = N then (M + (e.1 : Rat) * ((p : Rat) / (W : Rat))) * ((wt e.1 : Rat) / 1024) else 0))
end Py
namespace Py
open PySem D
/-! the greedy parts of a number of 1024 -/
/-- what a number comes to by its greedy parts from place k on: the sum of place times weight -/
def greed : Nat → Nat → Nat → Nat
  | 0, _, _ => 0
  | n + 1, k, p => if wt k ≤ p then k * wt k + greed n (k + 1) (p - wt k) else greed n (k + 1) p
end Py
namespace Py
open PySem D
local macro_rules
  | `(tactic| walk_at "w") => `(tactic| with_reducible first
    | refine seq_nx ?_ | refine seq_rt ?_ | refine seq_bk ?_ | refine seq_ct ?_ | refine wp_seq ?_ | refine wp_asg ?_ | refine wp_next ?_ | refine wp_ret ?_ | refine wp_retN ?_ | refine wp_brk ?_ | refine wp_cont ?_ | refine wp_expr ?_ | refine wp_op ?_ | refine wp_un ?_ | refine wp_c ?_
    | refine unB ?_ | refine wp_truB ?_ | refine wp_and ?_ | refine wp_or ?_ | refine wp_not ?_ | refine wp_ifE ?_ | refine wp_tup ?_ | refine wp_lst ?_ | refine wp_lcons ?_ | refine wp_lnil ?_ | refine frzV ?_ | refine frzN ?_ | refine wp_frz ?_ | refine wp_sl ?_ | refine wp_onone ?_ | refine wp_osome ?_
    | refine wp_anil ?_ | refine wp_av ?_ | refine wp_andV ?_ | refine wp_orV ?_ | refine wp_notV ?_ | refine wp_fgtR ?_ | refine turn_nx ?_ | refine turn_rt ?_ | refine turn_bk ?_ | refine turn_ct ?_ | refine fgt_rt ?_ | refine wp_par ?_ | refine wp_chain ?_ | refine wp_seqI ?_)
local macro_rules
  | `(tactic| walk_at "put") => `(tactic| focus ((repeat apply PutR.s); first | exact PutR.z rfl | exact PutR.z (by assumption)))
local macro_rules
  | `(tactic| walk_at "set") => `(tactic| focus ((repeat apply SetR.s); first | exact SetR.o | exact SetR.r))
local macro_rules
  | `(tactic| walk_at "fgt") => `(tactic| focus (repeat first | exact FgtsR.nil | exact FgtR.k | exact FgtR.z rfl | exact FgtR.z (by assumption) | apply FgtR.s | apply FgtsR.cons))
local macro_rules
  | `(tactic| walk_at "x") => `(tactic| first
    | ((with_reducible apply wp_varV); (focus exact rfl)) | ((with_reducible apply wp_varO); (focus exact rfl)) | ((with_reducible apply wp_varR); (focus exact rfl))
    | ((with_reducible apply opq); (focus exact rfl); (focus exact rfl); (focus (first | exact ev_eqI | exact ev_neI | exact ev_ltI | exact ev_leI | exact ev_gtI | exact ev_geI | exact ev_eqOne | exact ev_neOne | exact ev_in2 | exact ev_in2n | exact ev_in4n | exact ev_isT | exact ev_isF | exact ev_isnT | exact ev_isnF | exact ev_strT | exact ev_strF n1 | exact ev_strF n2 | exact ev_strF n3 | exact ev_strF n4 | exact ev_strF n5 | exact ev_strF n6 | exact rfl)))
    | ((with_reducible apply unq); (focus exact rfl); (focus exact rfl))
    | ((with_reducible first | apply putqV | apply putqN); walk_at "put")
    | ((with_reducible apply putqB); (focus exact rfl); (focus exact rfl); walk_at "put"; walk_at "put")
    | ((with_reducible apply putq2); walk_at "put"; walk_at "put")
    | ((with_reducible apply parq); walk_at "put"; walk_at "put")
    | ((with_reducible apply wp_callR); (focus (repeat first | exact RefsR.nil | apply RefsR.v | apply RefsR.r)); (focus decide))
    | ((with_reducible apply wp_ar); (focus exact rfl))
    | ((with_reducible apply fin_rt); (focus exact rfl); (focus exact rfl))
    | ((with_reducible apply fin_nx); (focus exact rfl))
    | ((with_reducible apply wp_appendR); (focus exact rfl))
    | (with_reducible refine ⟨_, rfl, ?_⟩) | (with_reducible refine ⟨_, .inl rfl, ?_⟩) | (with_reducible refine ⟨_, .inr (.inl rfl), ?_⟩) | (with_reducible refine ⟨_, .inr (.inr rfl), ?_⟩)
    | (with_reducible apply callq0) | ((with_reducible apply frzB); (focus exact rfl); (focus exact rfl); walk_at "put")
    | ((with_reducible apply callq1); walk_at "set")
    | ((with_reducible apply callq2); walk_at "set"; walk_at "set")
    | ((with_reducible first | apply fgt_nx | apply fgt_bk | apply fgt_ct); walk_at "fgt")
    | ((with_reducible apply brT); (focus exact rfl)) | ((with_reducible apply brF); (focus exact rfl)))
local macro_rules
  | `(tactic| walk_at "r") => `(tactic| repeat first | walk_at "w" | walk_at "x")
local macro_rules
  | `(tactic| walk_at "ri") => `(tactic| repeat first | walk_at "w" | walk_at "x" | (with_reducible refine wp_if ?_))
local macro_rules
  | `(tactic| walk_at "app") => `(tactic| ((with_reducible apply appq); (focus exact rfl); (focus ((try simp only [List.length_map, List.length_nil, List.length_cons, List.length_append]); unfold line; omega)); walk_at "set"))
local macro_rules
  | `(tactic| walk_at "mul") => `(tactic| ((refine opq rfl rfl (ev_mul ?_) ?_); (focus (apply mulT <;> omega))))
local macro_rules
  | `(tactic| walk_at "rm") => `(tactic| repeat first | walk_at "w" | walk_at "x" | walk_at "mul")
local macro_rules
  | `(tactic| walk_at "len") => `(tactic| (refine And.intro ?_ ?_; (focus (simp [line]; done))))
local macro_rules
  | `(tactic| walk_at "rl") => `(tactic| repeat first | walk_at "w" | walk_at "x" | walk_at "len")
local macro_rules
  | `(tactic| walk_at "ril") => `(tactic| repeat first | walk_at "w" | walk_at "x" | walk_at "len" | (with_reducible refine wp_if ?_))
theorem wt_half {e : Nat} (h : e < 10) : wt e = 2 * wt (e + 1) := by
  unfold wt
  rw [show 10 - e = (10 - (e + 1)) + 1 by omega, Nat.pow_succ]
  omega
/-- the depths of a machine's ends -/
structure Deps (T k : Nat) (L : List Nat) : Prop where
  ne : L ≠ []
  le : ∀ e ∈ L, e ≤ T
  sum : (L.map wt).sum = 1024
  len : L.length ≤ k + 1
theorem sum_erase {L : List Nat} {j : Nat} (hj : j < L.length) : (L.map wt).sum = wt L[j] + ((L.eraseIdx j).map wt).sum := by
  have e : L = L.take j ++ L[j] :: L.drop (j + 1) := by rw [List.getElem_cons_drop, List.take_append_drop]
  rw [List.eraseIdx_eq_take_drop_succ]
  conv => lhs; rw [e]
  rw [List.map_append, List.map_append, List.sum_append, List.sum_append, List.map_cons, List.sum_cons]
  omega
theorem Deps.split {T k : Nat} {L : List Nat} (h : Deps T k L) (hT : T ≤ 10) {j : Nat} (hj : j < L.length) (hlt : L[j] < T) : Deps T (k + 1) (L.eraseIdx j ++ [L[j] + 1, L[j] + 1]) := by
  refine ⟨by simp, fun e he => ?_, ?_, ?_⟩
  · rcases List.mem_append.mp he with he | he
    · exact h.le e (List.mem_of_mem_eraseIdx he)
    · simp only [List.mem_cons, List.not_mem_nil, or_false] at he
      omega
  · have hs := sum_erase hj
    rw [h.sum] at hs
    rw [List.map_append, List.sum_append]
    simp only [List.map_cons, List.map_nil, List.sum_cons, List.sum_nil]
    have := wt_half (e := L[j]) (by omega)
    omega
  · have := h.len
    rw [List.length_append, List.length_eraseIdx_of_lt hj]
    simp
    omega
section
variable {Q : R → List Ob → Prop} {ns ds : List Int}
end
end Py
namespace Py
open PySem D
local macro_rules
  | `(tactic| walk_at "w") => `(tactic| with_reducible first
    | refine seq_nx ?_ | refine seq_rt ?_ | refine seq_bk ?_ | refine seq_ct ?_ | refine wp_seq ?_ | refine wp_asg ?_ | refine wp_next ?_ | refine wp_ret ?_ | refine wp_retN ?_ | refine wp_brk ?_ | refine wp_cont ?_ | refine wp_expr ?_ | refine wp_op ?_ | refine wp_un ?_ | refine wp_c ?_
    | refine unB ?_ | refine wp_truB ?_ | refine wp_and ?_ | refine wp_or ?_ | refine wp_not ?_ | refine wp_ifE ?_ | refine wp_tup ?_ | refine wp_lst ?_ | refine wp_lcons ?_ | refine wp_lnil ?_ | refine frzV ?_ | refine frzN ?_ | refine wp_frz ?_ | refine wp_sl ?_ | refine wp_onone ?_ | refine wp_osome ?_
    | refine wp_anil ?_ | refine wp_av ?_ | refine wp_andV ?_ | refine wp_orV ?_ | refine wp_notV ?_ | refine wp_fgtR ?_ | refine turn_nx ?_ | refine turn_rt ?_ | refine turn_bk ?_ | refine turn_ct ?_ | refine fgt_rt ?_ | refine wp_par ?_ | refine wp_chain ?_ | refine wp_seqI ?_)
local macro_rules
  | `(tactic| walk_at "put") => `(tactic| focus ((repeat apply PutR.s); first | exact PutR.z rfl | exact PutR.z (by assumption)))
local macro_rules
  | `(tactic| walk_at "set") => `(tactic| focus ((repeat apply SetR.s); first | exact SetR.o | exact SetR.r))
local macro_rules
  | `(tactic| walk_at "fgt") => `(tactic| focus (repeat first | exact FgtsR.nil | exact FgtR.k | exact FgtR.z rfl | exact FgtR.z (by assumption) | apply FgtR.s | apply FgtsR.cons))
local macro_rules
  | `(tactic| walk_at "x") => `(tactic| first
    | ((with_reducible apply wp_varV); (focus exact rfl)) | ((with_reducible apply wp_varO); (focus exact rfl)) | ((with_reducible apply wp_varR); (focus exact rfl))
    | ((with_reducible apply opq); (focus exact rfl); (focus exact rfl); (focus (first | exact ev_eqI | exact ev_neI | exact ev_ltI | exact ev_leI | exact ev_gtI | exact ev_geI | exact ev_eqOne | exact ev_neOne | exact ev_in2 | exact ev_in2n | exact ev_in4n | exact ev_isT | exact ev_isF | exact ev_isnT | exact ev_isnF | exact ev_strT | exact ev_strF n1 | exact ev_strF n2 | exact ev_strF n3 | exact ev_strF n4 | exact ev_strF n5 | exact ev_strF n6 | exact rfl)))
    | ((with_reducible apply unq); (focus exact rfl); (focus exact rfl))
    | ((with_reducible first | apply putqV | apply putqN); walk_at "put")
    | ((with_reducible apply putqB); (focus exact rfl); (focus exact rfl); walk_at "put"; walk_at "put")
    | ((with_reducible apply putq2); walk_at "put"; walk_at "put")
    | ((with_reducible apply parq); walk_at "put"; walk_at "put")
    | ((with_reducible apply wp_callR); (focus (repeat first | exact RefsR.nil | apply RefsR.v | apply RefsR.r)); (focus decide))
    | ((with_reducible apply wp_ar); (focus exact rfl))
    | ((with_reducible apply fin_rt); (focus exact rfl); (focus exact rfl))
    | ((with_reducible apply fin_nx); (focus exact rfl))
    | ((with_reducible apply wp_appendR); (focus exact rfl))
    | (with_reducible refine ⟨_, rfl, ?_⟩) | (with_reducible refine ⟨_, .inl rfl, ?_⟩) | (with_reducible refine ⟨_, .inr (.inl rfl), ?_⟩) | (with_reducible refine ⟨_, .inr (.inr rfl), ?_⟩)
    | (with_reducible apply callq0) | ((with_reducible apply frzB); (focus exact rfl); (focus exact rfl); walk_at "put")
    | ((with_reducible apply callq1); walk_at "set")
    | ((with_reducible apply callq2); walk_at "set"; walk_at "set")
    | ((with_reducible first | apply fgt_nx | apply fgt_bk | apply fgt_ct); walk_at "fgt")
    | ((with_reducible apply brT); (focus exact rfl)) | ((with_reducible apply brF); (focus exact rfl)))
local macro_rules
  | `(tactic| walk_at "r") => `(tactic| repeat first | walk_at "w" | walk_at "x")
local macro_rules
  | `(tactic| walk_at "ri") => `(tactic| repeat first | walk_at "w" | walk_at "x" | (with_reducible refine wp_if ?_))
local macro_rules
  | `(tactic| walk_at "app") => `(tactic| ((with_reducible apply appq); (focus exact rfl); (focus ((try simp only [List.length_map, List.length_nil, List.length_cons, List.length_append]); unfold line; omega)); walk_at "set"))
local macro_rules
  | `(tactic| walk_at "mul") => `(tactic| ((refine opq rfl rfl (ev_mul ?_) ?_); (focus (apply mulT <;> omega))))
local macro_rules
  | `(tactic| walk_at "rm") => `(tactic| repeat first | walk_at "w" | walk_at "x" | walk_at "mul")
local macro_rules
  | `(tactic| walk_at "len") => `(tactic| (refine And.intro ?_ ?_; (focus (simp [line]; done))))
local macro_rules
  | `(tactic| walk_at "rl") => `(tactic| repeat first | walk_at "w" | walk_at "x" | walk_at "len")
local macro_rules
  | `(tactic| walk_at "ril") => `(tactic| repeat first | walk_at "w" | walk_at "x" | walk_at "len" | (with_reducible refine wp_if ?_))
def partsV (E : Ends) (N : Nat) : List Nat := (List.range (N + 1)).map (part E)
theorem nat_sum : ∀ P : List Nat, (P.map fun (n : Nat) => (n : Int)).sum = ((P.sum : Nat) : Int)
  | [] => rfl
  | a :: P => by rw [List.map_cons, List.sum_cons, List.sum_cons, nat_sum P, Int.natCast_add]
/-- the ends of a machine -/
structure Mach (N : Nat) (L : List Nat) (E : Ends) : Prop where
  dep : E.map (·.1) = L
  out : ∀ e ∈ E, e.2 ≤ N
  fst : ∀ e, E[0]? = some e → e.2 < N
section
variable {Q : R → List Ob → Prop} {ns ds : List Int}
end
end Py
namespace Py
open PySem D
local macro_rules
  | `(tactic| walk_at "w") => `(tactic| with_reducible first
    | refine seq_nx ?_ | refine seq_rt ?_ | refine seq_bk ?_ | refine seq_ct ?_ | refine wp_seq ?_ | refine wp_asg ?_ | refine wp_next ?_ | refine wp_ret ?_ | refine wp_retN ?_ | refine wp_brk ?_ | refine wp_cont ?_ | refine wp_expr ?_ | refine wp_op ?_ | refine wp_un ?_ | refine wp_c ?_
    | refine unB ?_ | refine wp_truB ?_ | refine wp_and ?_ | refine wp_or ?_ | refine wp_not ?_ | refine wp_ifE ?_ | refine wp_tup ?_ | refine wp_lst ?_ | refine wp_lcons ?_ | refine wp_lnil ?_ | refine frzV ?_ | refine frzN ?_ | refine wp_frz ?_ | refine wp_sl ?_ | refine wp_onone ?_ | refine wp_osome ?_
    | refine wp_anil ?_ | refine wp_av ?_ | refine wp_andV ?_ | refine wp_orV ?_ | refine wp_notV ?_ | refine wp_fgtR ?_ | refine turn_nx ?_ | refine turn_rt ?_ | refine turn_bk ?_ | refine turn_ct ?_ | refine fgt_rt ?_ | refine wp_par ?_ | refine wp_chain ?_ | refine wp_seqI ?_)
local macro_rules
  | `(tactic| walk_at "put") => `(tactic| focus ((repeat apply PutR.s); first | exact PutR.z rfl | exact PutR.z (by assumption)))
local macro_rules
  | `(tactic| walk_at "set") => `(tactic| focus ((repeat apply SetR.s); first | exact SetR.o | exact SetR.r))
local macro_rules
  | `(tactic| walk_at "fgt") => `(tactic| focus (repeat first | exact FgtsR.nil | exact FgtR.k | exact FgtR.z rfl | exact FgtR.z (by assumption) | apply FgtR.s | apply FgtsR.cons))
local macro_rules
  | `(tactic| walk_at "x") => `(tactic| first
    | ((with_reducible apply wp_varV); (focus exact rfl)) | ((with_reducible apply wp_varO); (focus exact rfl)) | ((with_reducible apply wp_varR); (focus exact rfl))
    | ((with_reducible apply opq); (focus exact rfl); (focus exact rfl); (focus (first | exact ev_eqI | exact ev_neI | exact ev_ltI | exact ev_leI | exact ev_gtI | exact ev_geI | exact ev_eqOne | exact ev_neOne | exact ev_in2 | exact ev_in2n | exact ev_in4n | exact ev_isT | exact ev_isF | exact ev_isnT | exact ev_isnF | exact ev_strT | exact ev_strF n1 | exact ev_strF n2 | exact ev_strF n3 | exact ev_strF n4 | exact ev_strF n5 | exact ev_strF n6 | exact rfl)))
    | ((with_reducible apply unq); (focus exact rfl); (focus exact rfl))
    | ((with_reducible first | apply putqV | apply putqN); walk_at "put")
    | ((with_reducible apply putqB); (focus exact rfl); (focus exact rfl); walk_at "put"; walk_at "put")
    | ((with_reducible apply putq2); walk_at "put"; walk_at "put")
    | ((with_reducible apply parq); walk_at "put"; walk_at "put")
    | ((with_reducible apply wp_callR); (focus (repeat first | exact RefsR.nil | apply RefsR.v | apply RefsR.r)); (focus decide))
    | ((with_reducible apply wp_ar); (focus exact rfl))
    | ((with_reducible apply fin_rt); (focus exact rfl); (focus exact rfl))
    | ((with_reducible apply fin_nx); (focus exact rfl))
    | ((with_reducible apply wp_appendR); (focus exact rfl))
    | (with_reducible refine ⟨_, rfl, ?_⟩) | (with_reducible refine ⟨_, .inl rfl, ?_⟩) | (with_reducible refine ⟨_, .inr (.inl rfl), ?_⟩) | (with_reducible refine ⟨_, .inr (.inr rfl), ?_⟩)
    | (with_reducible apply callq0) | ((with_reducible apply frzB); (focus exact rfl); (focus exact rfl); walk_at "put")
    | ((with_reducible apply callq1); walk_at "set")
    | ((with_reducible apply callq2); walk_at "set"; walk_at "set")
    | ((with_reducible first | apply fgt_nx | apply fgt_bk | apply fgt_ct); walk_at "fgt")
    | ((with_reducible apply brT); (focus exact rfl)) | ((with_reducible apply brF); (focus exact rfl)))
local macro_rules
  | `(tactic| walk_at "r") => `(tactic| repeat first | walk_at "w" | walk_at "x")
local macro_rules
  | `(tactic| walk_at "ri") => `(tactic| repeat first | walk_at "w" | walk_at "x" | (with_reducible refine wp_if ?_))
local macro_rules
  | `(tactic| walk_at "app") => `(tactic| ((with_reducible apply appq); (focus exact rfl); (focus ((try simp only [List.length_map, List.length_nil, List.length_cons, List.length_append]); unfold line; omega)); walk_at "set"))
local macro_rules
  | `(tactic| walk_at "mul") => `(tactic| ((refine opq rfl rfl (ev_mul ?_) ?_); (focus (apply mulT <;> omega))))
local macro_rules
  | `(tactic| walk_at "rm") => `(tactic| repeat first | walk_at "w" | walk_at "x" | walk_at "mul")
local macro_rules
  | `(tactic| walk_at "len") => `(tactic| (refine And.intro ?_ ?_; (focus (simp [line]; done))))
local macro_rules
  | `(tactic| walk_at "rl") => `(tactic| repeat first | walk_at "w" | walk_at "x" | walk_at "len")
local macro_rules
  | `(tactic| walk_at "ril") => `(tactic| repeat first | walk_at "w" | walk_at "x" | walk_at "len" | (with_reducible refine wp_if ?_))
section
variable {Q : R → List Ob → Prop} {ns ds : List Int}
end
end Py
namespace Py
open PySem D
local macro_rules
  | `(tactic| walk_at "w") => `(tactic| with_reducible first
    | refine seq_nx ?_ | refine seq_rt ?_ | refine seq_bk ?_ | refine seq_ct ?_ | refine wp_seq ?_ | refine wp_asg ?_ | refine wp_next ?_ | refine wp_ret ?_ | refine wp_retN ?_ | refine wp_brk ?_ | refine wp_cont ?_ | refine wp_expr ?_ | refine wp_op ?_ | refine wp_un ?_ | refine wp_c ?_
    | refine unB ?_ | refine wp_truB ?_ | refine wp_and ?_ | refine wp_or ?_ | refine wp_not ?_ | refine wp_ifE ?_ | refine wp_tup ?_ | refine wp_lst ?_ | refine wp_lcons ?_ | refine wp_lnil ?_ | refine frzV ?_ | refine frzN ?_ | refine wp_frz ?_ | refine wp_sl ?_ | refine wp_onone ?_ | refine wp_osome ?_
    | refine wp_anil ?_ | refine wp_av ?_ | refine wp_andV ?_ | refine wp_orV ?_ | refine wp_notV ?_ | refine wp_fgtR ?_ | refine turn_nx ?_ | refine turn_rt ?_ | refine turn_bk ?_ | refine turn_ct ?_ | refine fgt_rt ?_ | refine wp_par ?_ | refine wp_chain ?_ | refine wp_seqI ?_)
local macro_rules
  | `(tactic| walk_at "put") => `(tactic| focus ((repeat apply PutR.s); first | exact PutR.z rfl | exact PutR.z (by assumption)))
local macro_rules
  | `(tactic| walk_at "set") => `(tactic| focus ((repeat apply SetR.s); first | exact SetR.o | exact SetR.r))
local macro_rules
  | `(tactic| walk_at "fgt") => `(tactic| focus (repeat first | exact FgtsR.nil | exact FgtR.k | exact FgtR.z rfl | exact FgtR.z (by assumption) | apply FgtR.s | apply FgtsR.cons))
local macro_rules
  | `(tactic| walk_at "x") => `(tactic| first
    | ((with_reducible apply wp_varV); (focus exact rfl)) | ((with_reducible apply wp_varO); (focus exact rfl)) | ((with_reducible apply wp_varR); (focus exact rfl))
    | ((with_reducible apply opq); (focus exact rfl); (focus exact rfl); (focus (first | exact ev_eqI | exact ev_neI | exact ev_ltI | exact ev_leI | exact ev_gtI | exact ev_geI | exact ev_in2 | exact ev_in2n | exact ev_in4n | exact ev_isT | exact ev_isF | exact ev_isnT | exact ev_isnF | exact ev_eqQ0 | exact ev_eqQ1 | exact ev_eqQ | exact ev_neQ | exact ev_strT | exact ev_strF n1 | exact ev_strF n2 | exact ev_strF n3 | exact ev_strF n4 | exact ev_strF n5 | exact ev_strF n6 | exact rfl)))
    | ((with_reducible apply unq); (focus exact rfl); (focus exact rfl))
    | ((with_reducible first | apply putqV | apply putqN); walk_at "put")
    | ((with_reducible apply putqB); (focus exact rfl); (focus exact rfl); walk_at "put"; walk_at "put")
    | ((with_reducible apply putq2); walk_at "put"; walk_at "put")
    | ((with_reducible apply parq); walk_at "put"; walk_at "put")
    | ((with_reducible apply wp_callR); (focus (repeat first | exact RefsR.nil | apply RefsR.v | apply RefsR.r)); (focus decide))
    | ((with_reducible apply wp_ar); (focus exact rfl))
    | ((with_reducible apply fin_rt); (focus exact rfl); (focus exact rfl))
    | ((with_reducible apply fin_nx); (focus exact rfl))
    | ((with_reducible apply wp_appendR); (focus exact rfl))
    | (with_reducible refine ⟨_, rfl, ?_⟩) | (with_reducible refine ⟨_, .inl rfl, ?_⟩) | (with_reducible refine ⟨_, .inr (.inl rfl), ?_⟩) | (with_reducible refine ⟨_, .inr (.inr rfl), ?_⟩)
    | (with_reducible apply callq0) | ((with_reducible apply frzB); (focus exact rfl); (focus exact rfl); walk_at "put")
    | ((with_reducible apply callq1); walk_at "set")
    | ((with_reducible apply callq2); walk_at "set"; walk_at "set")
    | ((with_reducible first | apply fgt_nx | apply fgt_bk | apply fgt_ct); walk_at "fgt")
    | ((with_reducible apply brT); (focus exact rfl)) | ((with_reducible apply brF); (focus exact rfl)))
local macro_rules
  | `(tactic| walk_at "r") => `(tactic| repeat first | walk_at "w" | walk_at "x")
local macro_rules
  | `(tactic| walk_at "ri") => `(tactic| repeat first | walk_at "w" | walk_at "x" | (with_reducible refine wp_if ?_))
local macro_rules
  | `(tactic| walk_at "app") => `(tactic| ((with_reducible apply appq); (focus exact rfl); (focus ((try simp only [List.length_map, List.length_nil, List.length_cons, List.length_append]); unfold line; omega)); walk_at "set"))
local macro_rules
  | `(tactic| walk_at "mul") => `(tactic| ((refine opq rfl rfl (ev_mul ?_) ?_); (focus (apply mulT <;> omega))))
local macro_rules
  | `(tactic| walk_at "rm") => `(tactic| repeat first | walk_at "w" | walk_at "x" | walk_at "mul")
local macro_rules
  | `(tactic| walk_at "len") => `(tactic| (refine And.intro ?_ ?_; (focus (simp [line]; done))))
local macro_rules
  | `(tactic| walk_at "rl") => `(tactic| repeat first | walk_at "w" | walk_at "x" | walk_at "len")
local macro_rules
  | `(tactic| walk_at "ril") => `(tactic| repeat first | walk_at "w" | walk_at "x" | walk_at "len" | (with_reducible refine wp_if ?_))
/-! QIa: rows of tosses, and what the told machine does at them (plain). -/
def sL (cs : List NN) (j : Nat) : Nat := (stopsL cs j).length
def gL (cs : List NN) (j : Nat) : Nat := 2 ^ j - sumFl cs j
def goT (cs : List NN) : Nat → Nat → List Nat → Option (Nat × Nat)
  | _, _, [] => none
  | j, p, b :: t => if 2 * p + b < sL cs (j + 1) then some ((stopsL cs (j + 1)).getD (2 * p + b) 0, j + 1) else goT cs (j + 1) (2 * p + b - sL cs (j + 1)) t
def tossF (cs : List NN) (row : List Nat) : Option (Nat × Nat) := if 0 < sL cs 0 then some ((stopsL cs 0).getD 0 0, 0) else goT cs 0 0 row
def rowsA : Nat → List (List Nat)
  | 0 => [[]]
  | m + 1 => (rowsA m).flatMap fun r => [r ++ [0], r ++ [1]]
theorem rowsA_succ : ∀ m, rowsA (m + 1) = (rowsA m).map (0 :: ·) ++ (rowsA m).map (1 :: ·)
  | 0 => rfl
  | m + 1 => by
    have key : ∀ (c : Nat) (l : List (List Nat)), (l.map (c :: ·)).flatMap (fun r => [r ++ [0], r ++ [1]]) = (l.flatMap fun r => [r ++ [0], r ++ [1]]).map (c :: ·) := fun c l => by
      induction l with
      | nil => rfl
      | cons x l ih => rw [List.map_cons, List.flatMap_cons, List.flatMap_cons, ih, List.map_append]; rfl
    show (rowsA (m + 1)).flatMap _ = _
    conv => lhs; rw [rowsA_succ m]
    rw [List.flatMap_append, key, key]
    rfl
theorem rowsA_len : ∀ m, (rowsA m).length = 2 ^ m
  | 0 => rfl
  | m + 1 => by rw [rowsA_succ, List.length_append, List.length_map, List.length_map, rowsA_len m, Nat.pow_succ]; omega
theorem rowsA_mem : ∀ {m : Nat} {r : List Nat}, r ∈ rowsA m → r.length = m ∧ ∀ b ∈ r, b ≤ 1
  | 0, r, h => by cases List.mem_singleton.mp h; exact ⟨rfl, by simp⟩
  | m + 1, r, h => by
    rw [rowsA_succ] at h
    rcases List.mem_append.mp h with h | h
    · obtain ⟨t, ht, rfl⟩ := List.mem_map.mp h
      obtain ⟨h1, h2⟩ := rowsA_mem ht
      exact ⟨by simp [h1], fun b hb => by rcases List.mem_cons.mp hb with rfl | hb; decide; exact h2 b hb⟩
    · obtain ⟨t, ht, rfl⟩ := List.mem_map.mp h
      obtain ⟨h1, h2⟩ := rowsA_mem ht
      exact ⟨by simp [h1], fun b hb => by rcases List.mem_cons.mp hb with rfl | hb; decide; exact h2 b hb⟩
/-- a sum over the rows -/
def sR (f : List Nat → Nat) (m : Nat) : Nat := ((rowsA m).map f).sum
/-- a sum over numbers -/
def sN (f : Nat → Nat) : Nat → Nat
  | 0 => 0
  | n + 1 => sN f n + f n
theorem sR_succ (f : List Nat → Nat) (m : Nat) : sR f (m + 1) = sR (fun t => f (0 :: t)) m + sR (fun t => f (1 :: t)) m := by
  unfold sR
  rw [rowsA_succ, List.map_append, List.sum_append, List.map_map, List.map_map]
  rfl
theorem sR_const (c : Nat) (m : Nat) : sR (fun _ => c) m = 2 ^ m * c := by
  unfold sR
  rw [← rowsA_len m]
  induction rowsA m with
  | nil => simp
  | cons x l ih => rw [List.map_cons, List.sum_cons, ih, List.length_cons, Nat.add_mul]; omega
theorem sR_congr {f g : List Nat → Nat} {m : Nat} (h : ∀ t ∈ rowsA m, f t = g t) : sR f m = sR g m := by
  unfold sR
  rw [List.map_congr_left h]
theorem sN_congr {f g : Nat → Nat} : ∀ {n : Nat}, (∀ p, p < n → f p = g p) → sN f n = sN g n
  | 0, _ => rfl
  | n + 1, h => by rw [sN, sN, sN_congr fun p hp => h p (by omega), h n (by omega)]
theorem sN_two (f : Nat → Nat) : ∀ n, sN (fun p => f (2 * p) + f (2 * p + 1)) n = sN f (2 * n)
  | 0 => rfl
  | n + 1 => by
    rw [sN, sN_two f n, show 2 * (n + 1) = 2 * n + 1 + 1 by omega, sN, sN]
    omega
theorem sN_add (f : Nat → Nat) (a : Nat) : ∀ b, sN f (a + b) = sN f a + sN (fun p => f (a + p)) b
  | 0 => rfl
  | b + 1 => by rw [← Nat.add_assoc, sN, sN, sN_add f a b]; omega
theorem sN_mul (f : Nat → Nat) (c : Nat) : ∀ n, sN (fun p => c * f p) n = c * sN f n
  | 0 => rfl
  | n + 1 => by rw [sN, sN, sN_mul f c n, Nat.mul_add]
theorem sN_const (c : Nat) : ∀ n, sN (fun _ => c) n = n * c
  | 0 => by simp [sN]
  | n + 1 => by rw [sN, sN_const c n, Nat.add_mul]; omega
/-- the machine's step, summed -/
theorem go_step {cs : List NN} {j m s g g' : Nat} (hs : s = sL cs (j + 1)) (hg : g' + s = 2 * g) (F : Option (Nat × Nat) → Nat) :
    sN (fun p => sR (fun t => F (goT cs j p t)) (m + 1)) g = 2 ^ m * sN (fun q => F (some ((stopsL cs (j + 1)).getD q 0, j + 1))) s + sN (fun p => sR (fun t => F (goT cs (j + 1) p t)) m) g' := by
  have h1 : sN (fun p => sR (fun t => F (goT cs j p t)) (m + 1)) g = sN (fun q => sR (fun t => F (if q < sL cs (j + 1) then some ((stopsL cs (j + 1)).getD q 0, j + 1) else goT cs (j + 1) (q - sL cs (j + 1)) t)) m) (2 * g) := by
    rw [← sN_two]
    exact sN_congr fun p _ => by rw [sR_succ]; rfl
  rw [h1, ← hg, Nat.add_comm g' s, sN_add, ← hs, ← sN_mul]
  congr 1
  · refine sN_congr fun q hq => ?_
    rw [← sR_const]
    exact sR_congr fun t _ => by rw [if_pos hq]
  · refine sN_congr fun q hq => sR_congr fun t _ => ?_
    rw [if_neg (by omega), show s + q - s = q by omega]
def cntO (i : Nat) : Option (Nat × Nat) → Nat
  | none => 0
  | some o => if o.1 = i then 1 else 0
def rdO (k : Nat) : Option (Nat × Nat) → Nat
  | none => k
  | some o => o.2
theorem sN_count (l : List Nat) (i : Nat) : sN (fun q => if l.getD q 0 = i then 1 else 0) l.length = l.count i := by
  have key : ∀ r : List Nat, sN (fun q => if r.reverse.getD q 0 = i then 1 else 0) r.length = r.reverse.count i := fun r => by
    induction r with
    | nil => rfl
    | cons x r ih =>
      rw [List.length_cons, sN, List.reverse_cons, List.count_append, ← ih]
      congr 1
      · refine sN_congr fun q hq => ?_
        rw [show (r.reverse ++ [x]).getD q 0 = r.reverse.getD q 0 by simp [List.getElem?_append_left (show q < r.reverse.length by simpa using hq)]]
      · rw [show (r.reverse ++ [x]).getD r.length 0 = x by simp]
        by_cases c : x = i
        · subst c; simp
        · rw [if_neg c]; simp [c]
  have := key l.reverse
  rwa [List.reverse_reverse, List.length_reverse] at this
structure Mc (cs : List NN) : Prop where
  ok : ∀ c ∈ cs, c.1 ≤ c.2 ∧ 1 ≤ c.2 ∧ c.2 ≤ 2000 ∧ (c.1 = c.2 → c = (1, 1))
  one : ∀ k, sumFl cs k ≤ 2 ^ k
section
variable {cs : List NN} {i k : Nat}
theorem Mc.g0 (h : Mc cs) : gL cs 0 + sL cs 0 = 1 := by
  have h1 := (sumFl_stops h.ok).1
  have h2 := h.one 0
  unfold gL sL
  omega
theorem Mc.gS (h : Mc cs) (j : Nat) : gL cs (j + 1) + sL cs (j + 1) = 2 * gL cs j := by
  have h1 := (sumFl_stops h.ok).2 j
  have h2 := h.one j
  have h3 := h.one (j + 1)
  unfold gL sL
  rw [Nat.pow_succ] at h3 ⊢
  omega
theorem stops_count (hi : i < cs.length) (j : Nat) : (stopsL cs j).count i = if stp (cs.getD i (0, 1)) j then 1 else 0 := by
  unfold stopsL
  by_cases c : stp (cs.getD i (0, 1)) j = true
  · rw [if_pos c, List.count_filter (by simpa using c)]
    rw [List.nodup_range.count, if_pos (List.mem_range.mpr hi)]
  · rw [if_neg c]
    refine List.count_eq_zero.mpr fun z => c ?_
    exact (List.mem_filter.mp z).2
theorem fl_go (h : Mc cs) (hi : i < cs.length) : ∀ m j, flV (cs.getD i (0, 1)).1 (cs.getD i (0, 1)).2 (j + m) = 2 ^ m * flV (cs.getD i (0, 1)).1 (cs.getD i (0, 1)).2 j + sN (fun p => sR (fun t => cntO i (goT cs j p t)) m) (gL cs j)
  | 0, j => by
    have : sN (fun p => sR (fun t => cntO i (goT cs j p t)) 0) (gL cs j) = 0 := by
      have : ∀ g, sN (fun p => sR (fun t => cntO i (goT cs j p t)) 0) g = 0 := fun g => by
        rw [show (fun p => sR (fun t => cntO i (goT cs j p t)) 0) = fun _ => 0 from rfl, sN_const, Nat.mul_zero]
      exact this _
    rw [this]
    simp
  | m + 1, j => by
    have hc : cs.getD i (0, 1) ∈ cs := by
      rw [show cs.getD i (0, 1) = cs[i] by simp [hi]]
      exact List.getElem_mem hi
    rw [go_step rfl (h.gS j), show j + (m + 1) = j + 1 + m by omega, fl_go h hi m (j + 1), flS (h.ok _ hc) j, ← stops_count hi]
    have e : sN (fun q => cntO i (some ((stopsL cs (j + 1)).getD q 0, j + 1))) (sL cs (j + 1)) = (stopsL cs (j + 1)).count i := sN_count _ _
    rw [e, Nat.pow_succ, Nat.mul_add]
    have : 2 ^ m * (2 * flV (cs.getD i (0, 1)).1 (cs.getD i (0, 1)).2 j) = 2 ^ m * 2 * flV (cs.getD i (0, 1)).1 (cs.getD i (0, 1)).2 j := by rw [Nat.mul_assoc]
    omega
/-- how often the outcome comes, of all rows of k tosses -/
theorem toss_count (h : Mc cs) (hi : i < cs.length) (k : Nat) : sR (fun t => cntO i (tossF cs t)) k = flV (cs.getD i (0, 1)).1 (cs.getD i (0, 1)).2 k := by
  have hg := h.g0
  have hf := fl_go h hi k 0
  have hc : cs.getD i (0, 1) ∈ cs := by
    rw [show cs.getD i (0, 1) = cs[i] by simp [hi]]
    exact List.getElem_mem hi
  have h0 := fl0 (h.ok _ hc)
  rw [← stops_count hi] at h0
  rw [Nat.zero_add, h0] at hf
  rw [hf]
  by_cases c : 0 < sL cs 0
  · have e1 : sL cs 0 = 1 := by omega
    have e2 : gL cs 0 = 0 := by omega
    rw [e2]
    have e3 : sR (fun t => cntO i (tossF cs t)) k = 2 ^ k * cntO i (some ((stopsL cs 0).getD 0 0, 0)) := by
      rw [← sR_const]
      exact sR_congr fun t _ => by unfold tossF; rw [if_pos c]
    rw [e3]
    have e4 := sN_count (stopsL cs 0) i
    unfold sL at e1
    rw [e1] at e4
    rw [← e4]
    simp [sN, cntO]
  · have e1 : sL cs 0 = 0 := by omega
    have e2 : gL cs 0 = 1 := by omega
    rw [e2]
    unfold sL at e1
    rw [List.length_eq_zero_iff.mp e1]
    simp only [List.count_nil, Nat.mul_zero, Nat.zero_add, sN]
    exact sR_congr fun t _ => by unfold tossF; rw [if_neg c]
def eF (cs : List NN) : Nat → Nat → Nat
  | _, 0 => 0
  | j, m + 1 => 2 ^ (m + 1) * gL cs j + eF cs (j + 1) m
theorem eF_end (cs : List NN) : ∀ m j, eF cs j (m + 1) = 2 * eF cs j m + 2 * gL cs (j + m)
  | 0, j => by simp [eF]
  | m + 1, j => by
    rw [eF, eF_end cs m (j + 1), show j + 1 + m = j + (m + 1) by omega]
    conv => rhs; rw [eF]
    rw [Nat.pow_succ 2 (m + 1), Nat.mul_add, ← Nat.mul_assoc 2 (2 ^ (m + 1)), Nat.mul_comm 2 (2 ^ (m + 1))]
    omega
theorem rd_go (h : Mc cs) : ∀ m j, sN (fun p => sR (fun t => rdO (j + m) (goT cs j p t)) m) (gL cs j) = 2 ^ m * (j * gL cs j) + eF cs j m
  | 0, j => by
    rw [sN_congr (g := fun _ => j) fun p _ => by simp [sR, rowsA, goT, rdO], sN_const, eF, Nat.pow_zero, Nat.one_mul, Nat.mul_comm]
    rfl
  | m + 1, j => by
    rw [go_step rfl (h.gS j), show j + (m + 1) = j + 1 + m by omega, rd_go h m (j + 1)]
    have e : sN (fun q => rdO (j + 1 + m) (some ((stopsL cs (j + 1)).getD q 0, j + 1))) (sL cs (j + 1)) = sL cs (j + 1) * (j + 1) := sN_const _ _
    rw [e, eF]
    have hg := h.gS j
    have e2 : 2 ^ m * (sL cs (j + 1) * (j + 1)) + 2 ^ m * ((j + 1) * gL cs (j + 1)) = 2 ^ m * ((j + 1) * (2 * gL cs j)) := by
      rw [← hg, ← Nat.mul_add, Nat.mul_comm (sL cs (j + 1)), ← Nat.mul_add, Nat.add_comm (sL cs (j + 1))]
    have e3 : 2 ^ m * ((j + 1) * (2 * gL cs j)) = 2 ^ (m + 1) * (j * gL cs j) + 2 ^ (m + 1) * gL cs j := by
      rw [Nat.pow_succ]
      grind
    omega
/-- the tosses read in all rows of k -/
theorem toss_read (h : Mc cs) (k : Nat) : sR (fun t => rdO k (tossF cs t)) k = eF cs 0 k := by
  have hg := h.g0
  have hr := rd_go h k 0
  rw [Nat.zero_add, Nat.zero_mul, Nat.mul_zero, Nat.zero_add] at hr
  rw [← hr]
  by_cases c : 0 < sL cs 0
  · have e2 : gL cs 0 = 0 := by omega
    rw [e2]
    rw [sR_congr (g := fun _ => 0) fun t _ => by unfold tossF; rw [if_pos c]; rfl, sR_const]
    rfl
  · have e2 : gL cs 0 = 1 := by omega
    rw [e2]
    simp only [sN, Nat.zero_add]
    exact sR_congr fun t _ => by unfold tossF; rw [if_neg c]
end
end Py
namespace Py
open PySem D
local macro_rules
  | `(tactic| walk_at "w") => `(tactic| with_reducible first
    | refine seq_nx ?_ | refine seq_rt ?_ | refine seq_bk ?_ | refine seq_ct ?_ | refine wp_seq ?_ | refine wp_asg ?_ | refine wp_next ?_ | refine wp_ret ?_ | refine wp_retN ?_ | refine wp_brk ?_ | refine wp_cont ?_ | refine wp_expr ?_ | refine wp_op ?_ | refine wp_un ?_ | refine wp_c ?_
    | refine unB ?_ | refine wp_truB ?_ | refine wp_and ?_ | refine wp_or ?_ | refine wp_not ?_ | refine wp_ifE ?_ | refine wp_tup ?_ | refine wp_lst ?_ | refine wp_lcons ?_ | refine wp_lnil ?_ | refine frzV ?_ | refine frzN ?_ | refine wp_frz ?_ | refine wp_sl ?_ | refine wp_onone ?_ | refine wp_osome ?_
    | refine wp_anil ?_ | refine wp_av ?_ | refine wp_andV ?_ | refine wp_orV ?_ | refine wp_notV ?_ | refine wp_fgtR ?_ | refine turn_nx ?_ | refine turn_rt ?_ | refine turn_bk ?_ | refine turn_ct ?_ | refine fgt_rt ?_ | refine wp_par ?_ | refine wp_chain ?_ | refine wp_seqI ?_)
local macro_rules
  | `(tactic| walk_at "put") => `(tactic| focus ((repeat apply PutR.s); first | exact PutR.z rfl | exact PutR.z (by assumption)))
local macro_rules
  | `(tactic| walk_at "set") => `(tactic| focus ((repeat apply SetR.s); first | exact SetR.o | exact SetR.r))
local macro_rules
  | `(tactic| walk_at "fgt") => `(tactic| focus (repeat first | exact FgtsR.nil | exact FgtR.k | exact FgtR.z rfl | exact FgtR.z (by assumption) | apply FgtR.s | apply FgtsR.cons))
local macro_rules
  | `(tactic| walk_at "x") => `(tactic| first
    | ((with_reducible apply wp_varV); (focus exact rfl)) | ((with_reducible apply wp_varO); (focus exact rfl)) | ((with_reducible apply wp_varR); (focus exact rfl))
    | ((with_reducible apply opq); (focus exact rfl); (focus exact rfl); (focus (first | exact ev_eqI | exact ev_neI | exact ev_ltI | exact ev_leI | exact ev_gtI | exact ev_geI | exact ev_eqOne | exact ev_neOne | exact ev_in2 | exact ev_in2n | exact ev_in4n | exact ev_isT | exact ev_isF | exact ev_isnT | exact ev_isnF | exact ev_strT | exact ev_strF n1 | exact ev_strF n2 | exact ev_strF n3 | exact ev_strF n4 | exact ev_strF n5 | exact ev_strF n6 | exact rfl)))
    | ((with_reducible apply unq); (focus exact rfl); (focus exact rfl))
    | ((with_reducible first | apply putqV | apply putqN); walk_at "put")
    | ((with_reducible apply putqB); (focus exact rfl); (focus exact rfl); walk_at "put"; walk_at "put")
    | ((with_reducible apply putq2); walk_at "put"; walk_at "put")
    | ((with_reducible apply parq); walk_at "put"; walk_at "put")
    | ((with_reducible apply wp_callR); (focus (repeat first | exact RefsR.nil | apply RefsR.v | apply RefsR.r)); (focus decide))
    | ((with_reducible apply wp_ar); (focus exact rfl))
    | ((with_reducible apply fin_rt); (focus exact rfl); (focus exact rfl))
    | ((with_reducible apply fin_nx); (focus exact rfl))
    | ((with_reducible apply wp_appendR); (focus exact rfl))
    | (with_reducible refine ⟨_, rfl, ?_⟩) | (with_reducible refine ⟨_, .inl rfl, ?_⟩) | (with_reducible refine ⟨_, .inr (.inl rfl), ?_⟩) | (with_reducible refine ⟨_, .inr (.inr rfl), ?_⟩)
    | (with_reducible apply callq0) | ((with_reducible apply frzB); (focus exact rfl); (focus exact rfl); walk_at "put")
    | ((with_reducible apply callq1); walk_at "set")
    | ((with_reducible apply callq2); walk_at "set"; walk_at "set")
    | ((with_reducible first | apply fgt_nx | apply fgt_bk | apply fgt_ct); walk_at "fgt")
    | ((with_reducible apply brT); (focus exact rfl)) | ((with_reducible apply brF); (focus exact rfl)))
local macro_rules
  | `(tactic| walk_at "r") => `(tactic| repeat first | walk_at "w" | walk_at "x")
local macro_rules
  | `(tactic| walk_at "ri") => `(tactic| repeat first | walk_at "w" | walk_at "x" | (with_reducible refine wp_if ?_))
local macro_rules
  | `(tactic| walk_at "app") => `(tactic| ((with_reducible apply appq); (focus exact rfl); (focus ((try simp only [List.length_map, List.length_nil, List.length_cons, List.length_append]); unfold line; omega)); walk_at "set"))
local macro_rules
  | `(tactic| walk_at "mul") => `(tactic| ((refine opq rfl rfl (ev_mul ?_) ?_); (focus (apply mulT <;> omega))))
local macro_rules
  | `(tactic| walk_at "rm") => `(tactic| repeat first | walk_at "w" | walk_at "x" | walk_at "mul")
local macro_rules
  | `(tactic| walk_at "len") => `(tactic| (refine And.intro ?_ ?_; (focus (simp [line]; done))))
local macro_rules
  | `(tactic| walk_at "rl") => `(tactic| repeat first | walk_at "w" | walk_at "x" | walk_at "len")
local macro_rules
  | `(tactic| walk_at "ril") => `(tactic| repeat first | walk_at "w" | walk_at "x" | walk_at "len" | (with_reducible refine wp_if ?_))
/-! QIb: toss, and the rows. -/
def ogV : Option (Nat × Nat) → PV
  | none => .none
  | some o => .tuple [nI o.1, nI o.2]
section
variable {Q : R → List Ob → Prop} {cs : List NN} {row : List Nat}
theorem of_toss (h : Ok cs) (hr : ∀ b ∈ row, b ≤ 1) (hl : row.length ≤ 1000) (q : Q (.val (ogV (tossF cs row))) []) : Ret d_toss [.val (chsV cs), .val (.tuple (row.map nI))] Q := by
  have hln : (line : Nat) = 16777216 := rfl
  have h3 : ∀ c ∈ cs, 1 ≤ c.2 ∧ c.2 ≤ 2000 ∧ c.1 ≤ 2000 := fun c hc => by have := h.2 c hc; omega
  refine ret_mkR (by repeat constructor) ?_
  unfold b_toss
  walk_at "r"
  refine wp_forN (fun k ρ => ∃ p : Nat, ρ = [some (.val (chsV cs)), some (.val (.tuple (row.map nI))), some (.val (.int (p : Int))), none, none] ∧ (k = 0 → p = 0) ∧ (0 < k → tossF cs row = goT cs (k - 1) p (row.drop (k - 1))) ∧ p < 2 ^ k) (row.length + 1) ?_ ?_ ?_
  · walk_at "r"
    rw [List.length_map]
    exact ⟨rfl, by omega, 0, rfl, fun _ => rfl, fun z => by omega, by decide⟩
  · rintro k _ hk ⟨p, rfl, hp0, hp1, hp2⟩
    unfold l1_toss
    cases k with
    | zero =>
      obtain rfl := hp0 rfl
      walk_at "ri"
      refine of_stops (k := 0) h.1 h3 ?_
      walk_at "ri"
      rw [List.length_map]
      refine branchD (fun h0 => ?_) fun h0 => ?_
      · have h1 : 0 < sL cs 0 := by unfold sL; omega
        have e : tossF cs row = some ((stopsL cs 0).getD 0 0, 0) := by unfold tossF; rw [if_pos h1]
        rw [e] at q
        walk_at "ri"
        refine opq rfl rfl (ev_ix (.inr (.inr rfl)) (atI_nat (v := nI ((stopsL cs 0).getD 0 0)) ?_)) ?_
        · unfold sL at h1
          simp [h1]
        walk_at "rl"
        exact q
      · have h1 : ¬ 0 < sL cs 0 := by unfold sL; omega
        walk_at "ri"
        refine wp_aug rfl ?_
        walk_at "ri"
        refine ⟨_, _, _, rfl, rfl, rfl, ?_⟩
        walk_at "ri"
        rw [List.length_map]
        refine ⟨0, ?_, fun z => by omega, fun _ => by unfold tossF; rw [if_neg h1]; rfl, by decide⟩
        rw [show ((0 : Nat) : Int) - ((stopsL cs 0).length : Int) = ((0 : Nat) : Int) by unfold sL at h1; omega]
    | succ j =>
      have e1 := hp1 (by omega)
      rw [Nat.add_sub_cancel] at e1
      walk_at "ri"
      have hj : j < row.length := by omega
      have hb := hr _ (List.getElem_mem hj)
      have hpb : p < 2 ^ (j + 1) := hp2
      refine opq rfl rfl (ev_mul (mulOk_of 2 (j + 1) (by decide) (by rw [Int.natAbs_natCast]; exact hpb) (by omega))) ?_
      walk_at "ri"
      rw [show ((j + 1 : Nat) : Int) - 1 = (j : Int) by omega]
      refine opq rfl rfl (ev_ix (.inl rfl) (atI_nat (v := nI row[j]) (by simp [hj]))) ?_
      walk_at "ri"
      refine of_stops (k := j + 1) h.1 h3 ?_
      walk_at "ri"
      rw [List.length_map]
      rw [List.drop_eq_getElem_cons hj, goT] at e1
      rw [show (2 : Int) * (p : Int) + (row[j] : Int) = ((2 * p + row[j] : Nat) : Int) by omega]
      have hpw : 2 * p + row[j] < 2 ^ (j + 1 + 1) := by rw [Nat.pow_succ]; omega
      generalize 2 * p + row[j] = z at *
      refine branchD (fun h0 => ?_) fun h0 => ?_
      · have h1 : z < sL cs (j + 1) := by unfold sL; omega
        rw [if_pos h1] at e1
        rw [e1] at q
        walk_at "ri"
        refine opq rfl rfl (ev_ix (.inr (.inr rfl)) (atI_nat (v := nI ((stopsL cs (j + 1)).getD z 0)) ?_)) ?_
        · unfold sL at h1
          simp [h1]
        walk_at "rl"
        exact q
      · have h1 : ¬ z < sL cs (j + 1) := by unfold sL; omega
        rw [if_neg h1] at e1
        walk_at "ri"
        refine wp_aug rfl ?_
        walk_at "ri"
        refine ⟨_, _, _, rfl, rfl, rfl, ?_⟩
        walk_at "ri"
        rw [List.length_map]
        refine ⟨z - sL cs (j + 1), ?_, fun z => by omega, fun _ => e1, by omega⟩
        rw [show (z : Int) - ((stopsL cs (j + 1)).length : Int) = ((z - sL cs (j + 1) : Nat) : Int) by unfold sL at h1 ⊢; omega]
  · rintro _ ⟨p, rfl, _, hp1, _⟩
    have e1 := hp1 (by omega)
    rw [Nat.add_sub_cancel, List.drop_length] at e1
    rw [e1] at q
    walk_at "r"
    exact q
end
end Py
namespace Py
open PySem D
local macro_rules
  | `(tactic| walk_at "w") => `(tactic| with_reducible first
    | refine seq_nx ?_ | refine seq_rt ?_ | refine seq_bk ?_ | refine seq_ct ?_ | refine wp_seq ?_ | refine wp_asg ?_ | refine wp_next ?_ | refine wp_ret ?_ | refine wp_retN ?_ | refine wp_brk ?_ | refine wp_cont ?_ | refine wp_expr ?_ | refine wp_op ?_ | refine wp_un ?_ | refine wp_c ?_
    | refine unB ?_ | refine wp_truB ?_ | refine wp_and ?_ | refine wp_or ?_ | refine wp_not ?_ | refine wp_ifE ?_ | refine wp_tup ?_ | refine wp_lst ?_ | refine wp_lcons ?_ | refine wp_lnil ?_ | refine frzV ?_ | refine frzN ?_ | refine wp_frz ?_ | refine wp_sl ?_ | refine wp_onone ?_ | refine wp_osome ?_
    | refine wp_anil ?_ | refine wp_av ?_ | refine wp_andV ?_ | refine wp_orV ?_ | refine wp_notV ?_ | refine wp_fgtR ?_ | refine turn_nx ?_ | refine turn_rt ?_ | refine turn_bk ?_ | refine turn_ct ?_ | refine fgt_rt ?_ | refine wp_par ?_ | refine wp_chain ?_ | refine wp_seqI ?_)
local macro_rules
  | `(tactic| walk_at "put") => `(tactic| focus ((repeat apply PutR.s); first | exact PutR.z rfl | exact PutR.z (by assumption)))
local macro_rules
  | `(tactic| walk_at "set") => `(tactic| focus ((repeat apply SetR.s); first | exact SetR.o | exact SetR.r))
local macro_rules
  | `(tactic| walk_at "fgt") => `(tactic| focus (repeat first | exact FgtsR.nil | exact FgtR.k | exact FgtR.z rfl | exact FgtR.z (by assumption) | apply FgtR.s | apply FgtsR.cons))
local macro_rules
  | `(tactic| walk_at "x") => `(tactic| first
    | ((with_reducible apply wp_varV); (focus exact rfl)) | ((with_reducible apply wp_varO); (focus exact rfl)) | ((with_reducible apply wp_varR); (focus exact rfl))
    | ((with_reducible apply opq); (focus exact rfl); (focus exact rfl); (focus (first | exact ev_eqI | exact ev_neI | exact ev_ltI | exact ev_leI | exact ev_gtI | exact ev_geI | exact ev_eqOne | exact ev_neOne | exact ev_in2 | exact ev_in2n | exact ev_in4n | exact ev_isT | exact ev_isF | exact ev_isnT | exact ev_isnF | exact ev_strT | exact ev_strF n1 | exact ev_strF n2 | exact ev_strF n3 | exact ev_strF n4 | exact ev_strF n5 | exact ev_strF n6 | exact rfl)))
    | ((with_reducible apply unq); (focus exact rfl); (focus exact rfl))
    | ((with_reducible first | apply putqV | apply putqN); walk_at "put")
    | ((with_reducible apply putqB); (focus exact rfl); (focus exact rfl); walk_at "put"; walk_at "put")
    | ((with_reducible apply putq2); walk_at "put"; walk_at "put")
    | ((with_reducible apply parq); walk_at "put"; walk_at "put")
    | ((with_reducible apply wp_callR); (focus (repeat first | exact RefsR.nil | apply RefsR.v | apply RefsR.r)); (focus decide))
    | ((with_reducible apply wp_ar); (focus exact rfl))
    | ((with_reducible apply fin_rt); (focus exact rfl); (focus exact rfl))
    | ((with_reducible apply fin_nx); (focus exact rfl))
    | ((with_reducible apply wp_appendR); (focus exact rfl))
    | (with_reducible refine ⟨_, rfl, ?_⟩) | (with_reducible refine ⟨_, .inl rfl, ?_⟩) | (with_reducible refine ⟨_, .inr (.inl rfl), ?_⟩) | (with_reducible refine ⟨_, .inr (.inr rfl), ?_⟩)
    | (with_reducible apply callq0) | ((with_reducible apply frzB); (focus exact rfl); (focus exact rfl); walk_at "put")
    | ((with_reducible apply callq1); walk_at "set")
    | ((with_reducible apply callq2); walk_at "set"; walk_at "set")
    | ((with_reducible first | apply fgt_nx | apply fgt_bk | apply fgt_ct); walk_at "fgt")
    | ((with_reducible apply brT); (focus exact rfl)) | ((with_reducible apply brF); (focus exact rfl)))
local macro_rules
  | `(tactic| walk_at "r") => `(tactic| repeat first | walk_at "w" | walk_at "x")
local macro_rules
  | `(tactic| walk_at "ri") => `(tactic| repeat first | walk_at "w" | walk_at "x" | (with_reducible refine wp_if ?_))
local macro_rules
  | `(tactic| walk_at "app") => `(tactic| ((with_reducible apply appq); (focus exact rfl); (focus ((try simp only [List.length_map, List.length_nil, List.length_cons, List.length_append]); unfold line; omega)); walk_at "set"))
local macro_rules
  | `(tactic| walk_at "mul") => `(tactic| ((refine opq rfl rfl (ev_mul ?_) ?_); (focus (apply mulT <;> omega))))
local macro_rules
  | `(tactic| walk_at "rm") => `(tactic| repeat first | walk_at "w" | walk_at "x" | walk_at "mul")
local macro_rules
  | `(tactic| walk_at "len") => `(tactic| (refine And.intro ?_ ?_; (focus (simp [line]; done))))
local macro_rules
  | `(tactic| walk_at "rl") => `(tactic| repeat first | walk_at "w" | walk_at "x" | walk_at "len")
local macro_rules
  | `(tactic| walk_at "ril") => `(tactic| repeat first | walk_at "w" | walk_at "x" | walk_at "len" | (with_reducible refine wp_if ?_))
/-! QIc: the rows of tosses; a row at which the machine stops. -/
theorem go_some {cs : List NN} {o j : Nat} : ∀ {t : List Nat} {i p : Nat}, goT cs i p t = some (o, j) → i < j ∧ j ≤ i + t.length ∧ o ∈ stopsL cs j ∧ goT cs i p (t.take (j - i)) = some (o, j) ∧ goT cs i p (t.take (j - 1 - i)) = none
  | [], i, p, h => by cases h
  | b :: t, i, p, h => by
    rw [goT] at h
    by_cases c : 2 * p + b < sL cs (i + 1)
    · rw [if_pos c] at h
      cases h
      refine ⟨by omega, by simp, ?_, ?_, ?_⟩
      · unfold sL at c
        rw [show (stopsL cs (i + 1)).getD (2 * p + b) 0 = (stopsL cs (i + 1))[2 * p + b] by simp [c]]
        exact List.getElem_mem _
      · rw [show i + 1 - i = 0 + 1 by omega, List.take_succ_cons, goT, if_pos c]
      · rw [show i + 1 - 1 - i = 0 by omega]; rfl
    · rw [if_neg c] at h
      obtain ⟨h1, h2, h3, h4, h5⟩ := go_some h
      refine ⟨by omega, by rw [List.length_cons]; omega, h3, ?_, ?_⟩
      · rw [show j - i = (j - (i + 1)) + 1 by omega, List.take_succ_cons, goT, if_neg c]
        exact h4
      · rw [show j - 1 - i = (j - 1 - (i + 1)) + 1 by omega, List.take_succ_cons, goT, if_neg c]
        exact h5
theorem toss_some {cs : List NN} {row : List Nat} {o j : Nat} (h : tossF cs row = some (o, j)) : j ≤ row.length ∧ o ∈ stopsL cs j ∧ tossF cs (row.take j) = some (o, j) ∧ (0 < j → tossF cs (row.take (j - 1)) = none) := by
  unfold tossF at h ⊢
  by_cases c : 0 < sL cs 0
  · rw [if_pos c] at h ⊢
    cases h
    refine ⟨Nat.zero_le _, ?_, rfl, fun z => by omega⟩
    unfold sL at c
    rw [show (stopsL cs 0).getD 0 0 = (stopsL cs 0)[0] by simp [c]]
    exact List.getElem_mem _
  · rw [if_neg c] at h ⊢
    rw [if_neg c]
    obtain ⟨h1, h2, h3, h4, h5⟩ := go_some h
    exact ⟨by omega, h3, h4, fun _ => h5⟩
theorem stops_lt {cs : List NN} {o j : Nat} (h : o ∈ stopsL cs j) : o < cs.length := List.mem_range.mp (List.mem_filter.mp h).1
abbrev tN (r : List Nat) : PV := .tuple (r.map nI)
section
variable {Q : R → List Ob → Prop} {cs : List NN} {row : List Nat}
def RowsU (u : Option Sl) (j : Nat) : Prop := u = some (.own (.lst ((rowsA j).map tN))) ∨ u = some (.val (.list ((rowsA j).map tN)))
theorem of_rows47 {k : Nat} (hk : k ≤ 10) (q1 : Q (.new (.lst ((rowsA k).map tN))) []) (q2 : Q (.val (.list ((rowsA k).map tN))) []) : Ret d_law_rows_k47 [.val (.int k)] Q := by
  have hln : (line : Nat) = 16777216 := rfl
  refine ret_mkR (by repeat constructor) ?_
  unfold b_law_rows_k47
  walk_at "rl"
  refine wp_forN (fun j ρ => ∃ u : Option Sl, RowsU u j ∧ ρ = [some (.val (.int k)), u, none, none, none]) k ?_ ?_ ?_
  · walk_at "rl"
    exact ⟨rfl, by omega, _, .inl rfl, rfl⟩
  · rintro j _ hj ⟨u, hu, rfl⟩
    have hl : (rowsA j).length ≤ 1024 := by
      rw [rowsA_len]
      exact Nat.pow_le_pow_right (n := 2) (by decide) (show j ≤ 10 by omega)
    unfold l2_law_rows_k47
    walk_at "rl"
    refine wp_forL (fun i ρ => ρ = [some (.val (.int k)), some (.val (.list ((rowsA j).map tN))), some (.val (.int (j : Int))), some (.own (.lst ((((rowsA j).take i).flatMap fun r => [r ++ [0], r ++ [1]]).map tN))), none]) ((rowsA j).map tN) ?_ ?_ ?_
    · rcases hu with rfl | rfl
      · walk_at "rl"
        first | rfl | exact ⟨.inl rfl, rfl⟩
      · walk_at "rl"
        first | rfl | exact ⟨.inl rfl, rfl⟩
    · rintro i hi _ rfl
      rw [List.length_map] at hi
      have e : ((rowsA j).map tN)[i]'(by rw [List.length_map]; exact hi) = tN (rowsA j)[i] := by simp
      have hr := rowsA_mem (List.getElem_mem hi)
      rw [e]
      have hfl : (((rowsA j).take i).flatMap fun r => [r ++ [0], r ++ [1]]).length ≤ 2048 := by
        have e0 : ∀ l : List (List Nat), (l.flatMap fun r => [r ++ [0], r ++ [1]]).length = 2 * l.length := fun l => by
          induction l with
          | nil => rfl
          | cons x l ih => rw [List.flatMap_cons, List.length_append, ih, List.length_cons]; simp; omega
        rw [e0, List.length_take]
        omega
      rw [List.take_add_one, show (rowsA j)[i]? = some (rowsA j)[i] by simp [hi], List.flatMap_append]
      generalize (rowsA j)[i] = r at *
      generalize ((rowsA j).take i).flatMap (fun r => [r ++ [0], r ++ [1]]) = A at *
      unfold l1_law_rows_k47
      walk_at "rl"
      refine opq rfl rfl (ev_addT (by simp; omega)) ?_
      walk_at "rl"
      apply appq (xs := A.map tN) rfl (by rw [List.length_map]; omega)
      walk_at "set"
      walk_at "rl"
      refine opq rfl rfl (ev_addT (by simp; omega)) ?_
      walk_at "rl"
      apply appq (xs := A.map tN ++ [.tuple (r.map nI ++ [.int 0])]) rfl (by rw [List.length_append, List.length_map]; simp; omega)
      walk_at "set"
      walk_at "rl"
      simp [nI, tN]
    · rintro _ rfl
      rw [List.length_map, List.take_length]
      walk_at "rl"
      exact ⟨_, .inr rfl, rfl⟩
  · rintro _ ⟨u, hu, rfl⟩
    rcases hu with rfl | rfl
    · walk_at "rl"
      exact q1
    · walk_at "rl"
      exact q2
theorem cutT {xs : List PV} {a : Nat} (h : a ≤ xs.length) : cut xs none (some (a : Int)) = xs.take a := by
  unfold cut
  simp only [sIx, if_neg (show ¬ ((a : Int) < 0) by omega), Int.toNat_natCast, List.drop_zero, Nat.sub_zero]
  rw [Nat.min_eq_left h]
theorem plain_og : ∀ x : Option (Nat × Nat), Plain 40 (ogV x)
  | none => .none
  | some o => .tuple (n := 39) (by show 2 ≤ line; decide) fun x hx => by
    rcases List.mem_cons.mp hx with rfl | hx
    · exact .int
    · rw [List.mem_singleton.mp hx]; exact .int
theorem of_is_stop {o j : Nat} (h : Ok cs) (hr : ∀ b ∈ row, b ≤ 1) (hl : row.length ≤ 1000) (ht : tossF cs row = some (o, j)) (q : Q (.val (.bool true)) []) : Ret d_law_is_stop [.val (chsV cs), .val (tN row), .val (ogV (some (o, j)))] Q := by
  have hln : (line : Nat) = 16777216 := rfl
  obtain ⟨h1, h2, h3, h4⟩ := toss_some ht
  have ho := stops_lt h2
  have hls : cs.length ≤ 20 := h.1
  rw [show ogV (some (o, j)) = .tuple [.int (o : Int), .int (j : Int)] from rfl]
  refine ret_mkR (by repeat constructor) ?_
  unfold b_law_is_stop
  walk_at "ri"
  refine wp_forL (fun _ ρ => ρ = [some (.val (chsV cs)), some (.val (tN row)), some (.val (.tuple [.int (o : Int), .int (j : Int)])), none, none, none]) [nI o, nI j] ?_ ?_ ?_
  · walk_at "ri"
    first | rfl | exact ⟨.inr (.inl rfl), rfl⟩
  · rintro i hi _ rfl
    obtain ⟨z, hz⟩ : ∃ z : Int, [nI o, nI j][i] = .int z := by
      match i, hi with
      | 0, _ => exact ⟨_, rfl⟩
      | 1, _ => exact ⟨_, rfl⟩
    rw [hz]
    unfold l1_law_is_stop
    walk_at "ri"
    rfl
  rintro _ rfl
  walk_at "ri"
  refine ⟨_, _, true, rfl, rfl, by rw [ev_leI, decide_eq_true (by omega)], fun _ => ?_, fun z => Bool.noConfusion z⟩
  walk_at "ri"
  rw [List.length_map]
  rw [decide_eq_true (show (o : Int) < (cs.length : Int) by omega)]
  walk_at "ri"
  refine ⟨_, _, true, rfl, rfl, by rw [ev_leI, decide_eq_true (by omega)], fun _ => ?_, fun z => Bool.noConfusion z⟩
  walk_at "ri"
  rw [List.length_map]
  rw [decide_eq_true (show (j : Int) ≤ (row.length : Int) by omega)]
  walk_at "ri"
  rw [cutT (by rw [List.length_map]; exact h1), ← List.map_take]
  refine of_toss h (fun b hb => hr b (List.mem_of_mem_take hb)) (by rw [List.length_take]; omega) ?_
  rw [h3]
  walk_at "ril"
  refine of_same (plain_og (some (o, j))) ?_
  walk_at "ri"
  refine branchD (fun h7 => ?_) fun h7 => ?_
  · walk_at "ri"
    exact q
  · walk_at "ri"
    have hj : 0 < j := by omega
    rw [show (j : Int) - 1 = ((j - 1 : Nat) : Int) by omega, cutT (by rw [List.length_map]; omega), ← List.map_take]
    refine of_toss h (fun b hb => hr b (List.mem_of_mem_take hb)) (by rw [List.length_take]; omega) ?_
    rw [h4 hj]
    walk_at "ri"
    exact q
end
end Py
namespace Py
open PySem D
local macro_rules
  | `(tactic| walk_at "w") => `(tactic| with_reducible first
    | refine seq_nx ?_ | refine seq_rt ?_ | refine seq_bk ?_ | refine seq_ct ?_ | refine wp_seq ?_ | refine wp_asg ?_ | refine wp_next ?_ | refine wp_ret ?_ | refine wp_retN ?_ | refine wp_brk ?_ | refine wp_cont ?_ | refine wp_expr ?_ | refine wp_op ?_ | refine wp_un ?_ | refine wp_c ?_
    | refine unB ?_ | refine wp_truB ?_ | refine wp_and ?_ | refine wp_or ?_ | refine wp_not ?_ | refine wp_ifE ?_ | refine wp_tup ?_ | refine wp_lst ?_ | refine wp_lcons ?_ | refine wp_lnil ?_ | refine frzV ?_ | refine frzN ?_ | refine wp_frz ?_ | refine wp_sl ?_ | refine wp_onone ?_ | refine wp_osome ?_
    | refine wp_anil ?_ | refine wp_av ?_ | refine wp_andV ?_ | refine wp_orV ?_ | refine wp_notV ?_ | refine wp_fgtR ?_ | refine turn_nx ?_ | refine turn_rt ?_ | refine turn_bk ?_ | refine turn_ct ?_ | refine fgt_rt ?_ | refine wp_par ?_ | refine wp_chain ?_ | refine wp_seqI ?_)
local macro_rules
  | `(tactic| walk_at "put") => `(tactic| focus ((repeat apply PutR.s); first | exact PutR.z rfl | exact PutR.z (by assumption)))
local macro_rules
  | `(tactic| walk_at "set") => `(tactic| focus ((repeat apply SetR.s); first | exact SetR.o | exact SetR.r))
local macro_rules
  | `(tactic| walk_at "fgt") => `(tactic| focus (repeat first | exact FgtsR.nil | exact FgtR.k | exact FgtR.z rfl | exact FgtR.z (by assumption) | apply FgtR.s | apply FgtsR.cons))
local macro_rules
  | `(tactic| walk_at "x") => `(tactic| first
    | ((with_reducible apply wp_varV); (focus exact rfl)) | ((with_reducible apply wp_varO); (focus exact rfl)) | ((with_reducible apply wp_varR); (focus exact rfl))
    | ((with_reducible apply opq); (focus exact rfl); (focus exact rfl); (focus (first | exact ev_eqI | exact ev_neI | exact ev_ltI | exact ev_leI | exact ev_gtI | exact ev_geI | exact ev_eqOne | exact ev_neOne | exact ev_in2 | exact ev_in2n | exact ev_in4n | exact ev_isT | exact ev_isF | exact ev_isnT | exact ev_isnF | exact ev_strT | exact ev_strF n1 | exact ev_strF n2 | exact ev_strF n3 | exact ev_strF n4 | exact ev_strF n5 | exact ev_strF n6 | exact rfl)))
    | ((with_reducible apply unq); (focus exact rfl); (focus exact rfl))
    | ((with_reducible first | apply putqV | apply putqN); walk_at "put")
    | ((with_reducible apply putqB); (focus exact rfl); (focus exact rfl); walk_at "put"; walk_at "put")
    | ((with_reducible apply putq2); walk_at "put"; walk_at "put")
    | ((with_reducible apply parq); walk_at "put"; walk_at "put")
    | ((with_reducible apply wp_callR); (focus (repeat first | exact RefsR.nil | apply RefsR.v | apply RefsR.r)); (focus decide))
    | ((with_reducible apply wp_ar); (focus exact rfl))
    | ((with_reducible apply fin_rt); (focus exact rfl); (focus exact rfl))
    | ((with_reducible apply fin_nx); (focus exact rfl))
    | ((with_reducible apply wp_appendR); (focus exact rfl))
    | (with_reducible refine ⟨_, rfl, ?_⟩) | (with_reducible refine ⟨_, .inl rfl, ?_⟩) | (with_reducible refine ⟨_, .inr (.inl rfl), ?_⟩) | (with_reducible refine ⟨_, .inr (.inr rfl), ?_⟩)
    | (with_reducible apply callq0) | ((with_reducible apply frzB); (focus exact rfl); (focus exact rfl); walk_at "put")
    | ((with_reducible apply callq1); walk_at "set")
    | ((with_reducible apply callq2); walk_at "set"; walk_at "set")
    | ((with_reducible first | apply fgt_nx | apply fgt_bk | apply fgt_ct); walk_at "fgt")
    | ((with_reducible apply brT); (focus exact rfl)) | ((with_reducible apply brF); (focus exact rfl)))
local macro_rules
  | `(tactic| walk_at "r") => `(tactic| repeat first | walk_at "w" | walk_at "x")
local macro_rules
  | `(tactic| walk_at "ri") => `(tactic| repeat first | walk_at "w" | walk_at "x" | (with_reducible refine wp_if ?_))
local macro_rules
  | `(tactic| walk_at "app") => `(tactic| ((with_reducible apply appq); (focus exact rfl); (focus ((try simp only [List.length_map, List.length_nil, List.length_cons, List.length_append]); unfold line; omega)); walk_at "set"))
local macro_rules
  | `(tactic| walk_at "mul") => `(tactic| ((refine opq rfl rfl (ev_mul ?_) ?_); (focus (apply mulT <;> omega))))
local macro_rules
  | `(tactic| walk_at "rm") => `(tactic| repeat first | walk_at "w" | walk_at "x" | walk_at "mul")
local macro_rules
  | `(tactic| walk_at "len") => `(tactic| (refine And.intro ?_ ?_; (focus (simp [line]; done))))
local macro_rules
  | `(tactic| walk_at "rl") => `(tactic| repeat first | walk_at "w" | walk_at "x" | walk_at "len")
local macro_rules
  | `(tactic| walk_at "ril") => `(tactic| repeat first | walk_at "w" | walk_at "x" | walk_at "len" | (with_reducible refine wp_if ?_))
/-! QId: the mean, split behind k tosses. -/
def rS (f : NN → Rat) : List NN → Rat
  | [] => 0
  | c :: cs => f c + rS f cs
theorem rS_congr {f g : NN → Rat} : ∀ {cs : List NN}, (∀ c ∈ cs, f c = g c) → rS f cs = rS g cs
  | [], _ => rfl
  | c :: cs, h => by rw [rS, rS, h c List.mem_cons_self, rS_congr fun x hx => h x (List.mem_cons_of_mem _ hx)]
theorem rS_add (f g : NN → Rat) : ∀ cs, rS (fun c => f c + g c) cs = rS f cs + rS g cs
  | [] => by simp only [rS]; grind
  | c :: cs => by rw [rS, rS, rS, rS_add f g cs]; grind
theorem rS_mul (f : NN → Rat) (z : Rat) : ∀ cs, rS (fun c => f c * z) cs = rS f cs * z
  | [] => by simp only [rS]; grind
  | c :: cs => by rw [rS, rS, rS_mul f z cs]; grind
theorem rS_nn {f : NN → Rat} : ∀ {cs : List NN}, (∀ c ∈ cs, 0 ≤ f c) → 0 ≤ rS f cs
  | [], _ => Rat.le_refl
  | c :: cs, h => by
    have h1 := h c List.mem_cons_self
    have h2 := rS_nn (f := f) (cs := cs) fun x hx => h x (List.mem_cons_of_mem _ hx)
    rw [rS]
    grind
theorem sumQ_rS : ∀ cs, sumQ cs = rS mq cs
  | [] => rfl
  | c :: cs => by rw [sumQ, rS, sumQ_rS cs]
theorem nat_pos {d : Nat} (h : 0 < d) : (0 : Rat) < (d : Rat) := by exact_mod_cast h
theorem rS_one {cs : List NN} (h : Chs cs) : rS (fun c => (c.1 : Rat) / (c.2 : Rat)) cs = 1 := by
  obtain ⟨D, ps, h1, h2, h3, rfl⟩ := h.ex
  have hD := nat_pos (show 0 < D by omega)
  have key : ∀ ps : List Nat, rS (fun c => (c.1 : Rat) / (c.2 : Rat)) (ps.map (red D)) = ((ps.sum : Nat) : Rat) / (D : Rat) := fun ps => by
    induction ps with
    | nil => simp [rS]; grind
    | cons p ps ih =>
      rw [List.map_cons, rS, ih, List.sum_cons]
      have hg : 0 < Nat.gcd p D := Nat.gcd_pos_of_pos_right _ (by omega)
      have e1 : D = Nat.gcd p D * (D / Nat.gcd p D) := (Nat.mul_div_cancel' (Nat.gcd_dvd_right p D)).symm
      have e2 : p = Nat.gcd p D * (p / Nat.gcd p D) := (Nat.mul_div_cancel' (Nat.gcd_dvd_left p D)).symm
      have h3 : 0 < D / Nat.gcd p D := Nat.div_pos (Nat.le_of_dvd (by omega) (Nat.gcd_dvd_right p D)) hg
      unfold red
      show ((p / Nat.gcd p D : Nat) : Rat) / ((D / Nat.gcd p D : Nat) : Rat) + _ = _
      generalize Nat.gcd p D = g at *
      generalize p / g = a at *
      generalize D / g = b at *
      have f1 : (D : Rat) = (g : Rat) * (b : Rat) := by rw [e1]; exact_mod_cast rfl
      have f2 : (p : Rat) = (g : Rat) * (a : Rat) := by rw [e2]; exact_mod_cast rfl
      have hg' := nat_pos hg
      have hb' := nat_pos h3
      have f3 : ((p + ps.sum : Nat) : Rat) = (p : Rat) + ((ps.sum : Nat) : Rat) := by exact_mod_cast rfl
      rw [f3, f1, f2]
      have : (g : Rat) ≠ 0 := by grind
      have : (b : Rat) ≠ 0 := by grind
      grind
  rw [key, h3]
  grind
theorem fl_sum (cs : List NN) (k : Nat) : ((sumFl cs k : Nat) : Rat) = rS (fun c => ((flV c.1 c.2 k : Nat) : Rat)) cs := by
  unfold sumFl
  induction cs with
  | nil => simp [rS]
  | cons c cs ih =>
    rw [List.map_cons, List.sum_cons, rS, ← ih]
    exact_mod_cast rfl
theorem rest_sum {cs : List NN} (h : Chs cs) (k : Nat) : rS (fun c => ((restV c.1 c.2 k : Nat) : Rat) / (c.2 : Rat)) cs = ((gL cs k : Nat) : Rat) := by
  have h1 : rS (fun c => (c.1 : Rat) / (c.2 : Rat) * ((2 ^ k : Nat) : Rat)) cs = rS (fun c => ((flV c.1 c.2 k : Nat) : Rat) + ((restV c.1 c.2 k : Nat) : Rat) / (c.2 : Rat)) cs := rS_congr fun c hc => by
    have hd := nat_pos (show 0 < c.2 by have := (h.at' hc).2.1; omega)
    have e : ((c.2 * flV c.1 c.2 k + restV c.1 c.2 k : Nat) : Rat) = ((c.1 * 2 ^ k : Nat) : Rat) := by
      congr 1
      exact Nat.div_add_mod _ _
    have e1 : ((c.2 * flV c.1 c.2 k + restV c.1 c.2 k : Nat) : Rat) = (c.2 : Rat) * ((flV c.1 c.2 k : Nat) : Rat) + ((restV c.1 c.2 k : Nat) : Rat) := by exact_mod_cast rfl
    have e2 : ((c.1 * 2 ^ k : Nat) : Rat) = (c.1 : Rat) * ((2 ^ k : Nat) : Rat) := by exact_mod_cast rfl
    rw [e1, e2] at e
    have : (c.2 : Rat) ≠ 0 := by grind
    grind
  rw [rS_mul, rS_one h, rS_add, ← fl_sum] at h1
  have h2 := sumFl_le h k
  have e : gL cs k + sumFl cs k = 2 ^ k := by unfold gL; omega
  have e' : ((gL cs k : Nat) : Rat) + ((sumFl cs k : Nat) : Rat) = ((2 ^ k : Nat) : Rat) := by rw [← e]; exact_mod_cast rfl
  grind
theorem A_sum {cs : List NN} (h : Chs cs) : ∀ k, rS (fun c => ((2 * Av c.1 c.2 0 k : Nat) : Rat) / (c.2 : Rat)) cs = ((eF cs 0 k : Nat) : Rat)
  | 0 => by
    rw [rS_congr (g := fun _ => 0) fun c _ => by simp [Av]; rw [Rat.div_def, Rat.zero_mul]]
    have : ∀ cs : List NN, rS (fun _ => (0 : Rat)) cs = 0 := fun cs => by
      induction cs with
      | nil => rfl
      | cons c cs ih => rw [rS, ih, Rat.zero_add]
    rw [this]
    simp [eF]
  | k + 1 => by
    have h1 : rS (fun c => ((2 * Av c.1 c.2 0 (k + 1) : Nat) : Rat) / (c.2 : Rat)) cs = rS (fun c => ((2 * Av c.1 c.2 0 k : Nat) : Rat) / (c.2 : Rat) * 2 + ((restV c.1 c.2 k : Nat) : Rat) / (c.2 : Rat) * 2) cs := rS_congr fun c hc => by
      rw [A_succ, Nat.zero_add]
      have e1 : ((2 * (2 * Av c.1 c.2 0 k + restV c.1 c.2 k) : Nat) : Rat) = ((2 * Av c.1 c.2 0 k : Nat) : Rat) * 2 + ((restV c.1 c.2 k : Nat) : Rat) * 2 := by
        rw [show 2 * (2 * Av c.1 c.2 0 k + restV c.1 c.2 k) = 2 * Av c.1 c.2 0 k * 2 + restV c.1 c.2 k * 2 by omega]
        exact_mod_cast rfl
      rw [e1]
      grind
    rw [h1, rS_add, rS_mul, rS_mul, A_sum h k, rest_sum h k, eF_end, Nat.zero_add]
    have e1 : ((2 * eF cs 0 k + 2 * gL cs k : Nat) : Rat) = 2 * ((eF cs 0 k : Nat) : Rat) + 2 * ((gL cs k : Nat) : Rat) := by exact_mod_cast rfl
    rw [e1]
    grind
theorem rest_rest (n d k j : Nat) : restV (restV n d k) d j = restV n d (k + j) := by
  unfold restV
  rw [Nat.pow_add, ← Nat.mul_assoc, Nat.mul_mod (n * 2 ^ k % d), Nat.mod_mod, ← Nat.mul_mod]
theorem Av_rest (n d k : Nat) : ∀ j, Av n d k j = Av (restV n d k) d 0 j
  | 0 => rfl
  | j + 1 => by rw [A_succ, A_succ, Av_rest n d k j, Nat.zero_add, rest_rest]
theorem IsMean.split {n d k : Nat} {w : Rat} (hd : 0 < d) (h : IsMean (restV n d k) d w) : IsMean n d (((2 * Av n d 0 k : Nat) : Rat) / ((d : Rat) * ((2 ^ k : Nat) : Rat)) + w / ((2 ^ k : Nat) : Rat)) := by
  obtain ⟨K0, hK⟩ := h
  refine ⟨k + K0, fun K hK2 => ?_⟩
  obtain ⟨j, rfl⟩ : ∃ j, K = k + j := ⟨K - k, by omega⟩
  obtain ⟨h1, h2⟩ := hK j (by omega)
  have ea := Av_add n d 0 k j
  rw [Nat.zero_add, Av_rest n d k j] at ea
  have hd' := nat_pos hd
  have hp' := nat_pos (Nat.two_pow_pos k)
  have e1 : (((2 * Av n d 0 k : Nat) : Rat) / ((d : Rat) * ((2 ^ k : Nat) : Rat)) + w / ((2 ^ k : Nat) : Rat)) * ((d * 2 ^ (k + j) : Nat) : Rat) = ((2 * Av n d 0 k * 2 ^ j : Nat) : Rat) + w * ((d * 2 ^ j : Nat) : Rat) := by
    have f1 : ((d * 2 ^ (k + j) : Nat) : Rat) = (d : Rat) * (((2 ^ k : Nat) : Rat) * ((2 ^ j : Nat) : Rat)) := by rw [Nat.pow_add]; exact_mod_cast rfl
    have f2 : ((2 * Av n d 0 k * 2 ^ j : Nat) : Rat) = ((2 * Av n d 0 k : Nat) : Rat) * ((2 ^ j : Nat) : Rat) := by exact_mod_cast rfl
    have f3 : ((d * 2 ^ j : Nat) : Rat) = (d : Rat) * ((2 ^ j : Nat) : Rat) := by exact_mod_cast rfl
    rw [f1, f2, f3]
    generalize ((2 ^ k : Nat) : Rat) = P at *
    have : (d : Rat) ≠ 0 := by grind
    have : P ≠ 0 := by grind
    grind
  rw [e1, ea]
  have e2 : ((2 * (Av n d 0 k * 2 ^ j + Av (restV n d k) d 0 j) : Nat) : Rat) = ((2 * Av n d 0 k * 2 ^ j : Nat) : Rat) + ((2 * Av (restV n d k) d 0 j : Nat) : Rat) := by
    rw [Nat.mul_add, ← Nat.mul_assoc]
    exact_mod_cast rfl
  have e3 : ((2 * (Av n d 0 k * 2 ^ j + Av (restV n d k) d 0 j + d) : Nat) : Rat) = ((2 * Av n d 0 k * 2 ^ j : Nat) : Rat) + ((2 * (Av (restV n d k) d 0 j + d) : Nat) : Rat) := by
    rw [Nat.add_assoc, Nat.mul_add, ← Nat.mul_assoc]
    exact_mod_cast rfl
  rw [e2, e3]
  grind
theorem IsMean.nn {n d : Nat} {v : Rat} (hd : 0 < d) (h : IsMean n d v) : 0 ≤ v := by
  obtain ⟨K0, hK⟩ := h
  have h1 := (hK K0 (Nat.le_refl _)).1
  have h2 : (0 : Rat) ≤ ((2 * Av n d 0 K0 : Nat) : Rat) := by exact_mod_cast Nat.zero_le _
  have h3 := nat_pos (show 0 < d * 2 ^ K0 from Nat.mul_pos hd (Nat.two_pow_pos _))
  refine Rat.not_lt.mp fun z => ?_
  have := Rat.mul_pos (show 0 < -v by grind) h3
  grind
noncomputable def wq (k : Nat) (c : NN) : Rat := if c = (1, 1) then 0 else mq (restV c.1 c.2 k, c.2)
theorem mq_split {c : NN} (h : Okd c) (k : Nat) : mq c = ((2 * Av c.1 c.2 0 k : Nat) : Rat) / (c.2 : Rat) * ((2 ^ k : Nat) : Rat)⁻¹ + wq k c * ((2 ^ k : Nat) : Rat)⁻¹ := by
  have hd : 0 < c.2 := h.2.1
  have hp' := nat_pos (Nat.two_pow_pos k)
  have hd' := nat_pos hd
  by_cases e : c = (1, 1)
  · subst e
    have hA : ∀ k, Av 1 1 0 k = 0 := fun k => by
      induction k with
      | zero => rfl
      | succ k ih => rw [A_succ, ih]; simp [restV, Nat.mod_one]
    unfold wq mq
    rw [if_pos rfl, if_pos rfl, hA]
    simp
    rw [Rat.div_def, Rat.zero_mul, Rat.zero_mul, Rat.zero_add]
  · have hr : restV c.1 c.2 k < c.2 := Nat.mod_lt _ hd
    have ho : Okd (restV c.1 c.2 k, c.2) := ⟨Nat.le_of_lt hr, h.2.1, h.2.2.1, fun z => by
      have z : restV c.1 c.2 k = c.2 := z
      omega⟩
    have h1 := (mq_mean ho).split (n := c.1) (d := c.2) (k := k) hd
    rw [(mq_mean h).uniq hd h1]
    unfold wq
    rw [if_neg e]
    generalize ((2 ^ k : Nat) : Rat) = P at *
    have : (c.2 : Rat) ≠ 0 := by grind
    have : P ≠ 0 := by grind
    rw [Rat.div_def, Rat.div_def, Rat.div_def, Rat.inv_mul_rev]
    grind
theorem wq_nn {c : NN} (h : Okd c) (k : Nat) : 0 ≤ wq k c := by
  unfold wq
  by_cases e : c = (1, 1)
  · rw [if_pos e]; exact Rat.le_refl
  · rw [if_neg e]
    have hr : restV c.1 c.2 k < c.2 := Nat.mod_lt _ h.2.1
    have ho : Okd (restV c.1 c.2 k, c.2) := ⟨Nat.le_of_lt hr, h.2.1, h.2.2.1, fun z => by
      have z : restV c.1 c.2 k = c.2 := z
      omega⟩
    exact (mq_mean ho).nn h.2.1
theorem mean_all {cs : List NN} (h : Chs cs) (k : Nat) : sumQ cs = ((eF cs 0 k : Nat) : Rat) * ((2 ^ k : Nat) : Rat)⁻¹ + rS (fun c => wq k c * ((2 ^ k : Nat) : Rat)⁻¹) cs := by
  rw [sumQ_rS, rS_congr fun c hc => mq_split (h.at' hc) k, rS_add, rS_mul, A_sum h]
end Py
namespace Py
open PySem D
local macro_rules
  | `(tactic| walk_at "w") => `(tactic| with_reducible first
    | refine seq_nx ?_ | refine seq_rt ?_ | refine seq_bk ?_ | refine seq_ct ?_ | refine wp_seq ?_ | refine wp_asg ?_ | refine wp_next ?_ | refine wp_ret ?_ | refine wp_retN ?_ | refine wp_brk ?_ | refine wp_cont ?_ | refine wp_expr ?_ | refine wp_op ?_ | refine wp_un ?_ | refine wp_c ?_
    | refine unB ?_ | refine wp_truB ?_ | refine wp_and ?_ | refine wp_or ?_ | refine wp_not ?_ | refine wp_ifE ?_ | refine wp_tup ?_ | refine wp_lst ?_ | refine wp_lcons ?_ | refine wp_lnil ?_ | refine frzV ?_ | refine frzN ?_ | refine wp_frz ?_ | refine wp_sl ?_ | refine wp_onone ?_ | refine wp_osome ?_
    | refine wp_anil ?_ | refine wp_av ?_ | refine wp_andV ?_ | refine wp_orV ?_ | refine wp_notV ?_ | refine wp_fgtR ?_ | refine turn_nx ?_ | refine turn_rt ?_ | refine turn_bk ?_ | refine turn_ct ?_ | refine fgt_rt ?_ | refine wp_par ?_ | refine wp_chain ?_ | refine wp_seqI ?_)
local macro_rules
  | `(tactic| walk_at "put") => `(tactic| focus ((repeat apply PutR.s); first | exact PutR.z rfl | exact PutR.z (by assumption)))
local macro_rules
  | `(tactic| walk_at "set") => `(tactic| focus ((repeat apply SetR.s); first | exact SetR.o | exact SetR.r))
local macro_rules
  | `(tactic| walk_at "fgt") => `(tactic| focus (repeat first | exact FgtsR.nil | exact FgtR.k | exact FgtR.z rfl | exact FgtR.z (by assumption) | apply FgtR.s | apply FgtsR.cons))
local macro_rules
  | `(tactic| walk_at "x") => `(tactic| first
    | ((with_reducible apply wp_varV); (focus exact rfl)) | ((with_reducible apply wp_varO); (focus exact rfl)) | ((with_reducible apply wp_varR); (focus exact rfl))
    | ((with_reducible apply opq); (focus exact rfl); (focus exact rfl); (focus (first | exact ev_eqI | exact ev_neI | exact ev_ltI | exact ev_leI | exact ev_gtI | exact ev_geI | exact ev_eqOne | exact ev_neOne | exact ev_in2 | exact ev_in2n | exact ev_in4n | exact ev_isT | exact ev_isF | exact ev_isnT | exact ev_isnF | exact ev_strT | exact ev_strF n1 | exact ev_strF n2 | exact ev_strF n3 | exact ev_strF n4 | exact ev_strF n5 | exact ev_strF n6 | exact rfl)))
    | ((with_reducible apply unq); (focus exact rfl); (focus exact rfl))
    | ((with_reducible first | apply putqV | apply putqN); walk_at "put")
    | ((with_reducible apply putqB); (focus exact rfl); (focus exact rfl); walk_at "put"; walk_at "put")
    | ((with_reducible apply putq2); walk_at "put"; walk_at "put")
    | ((with_reducible apply parq); walk_at "put"; walk_at "put")
    | ((with_reducible apply wp_callR); (focus (repeat first | exact RefsR.nil | apply RefsR.v | apply RefsR.r)); (focus decide))
    | ((with_reducible apply wp_ar); (focus exact rfl))
    | ((with_reducible apply fin_rt); (focus exact rfl); (focus exact rfl))
    | ((with_reducible apply fin_nx); (focus exact rfl))
    | ((with_reducible apply wp_appendR); (focus exact rfl))
    | (with_reducible refine ⟨_, rfl, ?_⟩) | (with_reducible refine ⟨_, .inl rfl, ?_⟩) | (with_reducible refine ⟨_, .inr (.inl rfl), ?_⟩) | (with_reducible refine ⟨_, .inr (.inr rfl), ?_⟩)
    | (with_reducible apply callq0) | ((with_reducible apply frzB); (focus exact rfl); (focus exact rfl); walk_at "put")
    | ((with_reducible apply callq1); walk_at "set")
    | ((with_reducible apply callq2); walk_at "set"; walk_at "set")
    | ((with_reducible first | apply fgt_nx | apply fgt_bk | apply fgt_ct); walk_at "fgt")
    | ((with_reducible apply brT); (focus exact rfl)) | ((with_reducible apply brF); (focus exact rfl)))
local macro_rules
  | `(tactic| walk_at "r") => `(tactic| repeat first | walk_at "w" | walk_at "x")
local macro_rules
  | `(tactic| walk_at "ri") => `(tactic| repeat first | walk_at "w" | walk_at "x" | (with_reducible refine wp_if ?_))
local macro_rules
  | `(tactic| walk_at "app") => `(tactic| ((with_reducible apply appq); (focus exact rfl); (focus ((try simp only [List.length_map, List.length_nil, List.length_cons, List.length_append]); unfold line; omega)); walk_at "set"))
local macro_rules
  | `(tactic| walk_at "mul") => `(tactic| ((refine opq rfl rfl (ev_mul ?_) ?_); (focus (apply mulT <;> omega))))
local macro_rules
  | `(tactic| walk_at "rm") => `(tactic| repeat first | walk_at "w" | walk_at "x" | walk_at "mul")
local macro_rules
  | `(tactic| walk_at "len") => `(tactic| (refine And.intro ?_ ?_; (focus (simp [line]; done))))
local macro_rules
  | `(tactic| walk_at "rl") => `(tactic| repeat first | walk_at "w" | walk_at "x" | walk_at "len")
local macro_rules
  | `(tactic| walk_at "ril") => `(tactic| repeat first | walk_at "w" | walk_at "x" | walk_at "len" | (with_reducible refine wp_if ?_))
/-! QIe: k47's counts. -/
theorem mean_bt2 {n d L b : Nat} (h : Turn n d L b) (hd : d ≤ 2000) : Bt 4300 (meanN n d L b, meanD n d L b) := by
  have hb := h.hb
  have hL := h.len
  have hd0 : 0 < d := by omega
  refine ⟨meanD_pos h, ?_, ?_⟩
  all_goals
    have hA1 := A_lt (n := n) hd0 0 b
    have hA2 := A_lt (n := n) hd0 b (L - b)
    have h1 := pow_bd (x := Av n d 0 b) (k := b) hd (by omega) (by omega)
    have h2 := pow_bd (x := Av n d b (L - b)) (k := L - b) hd (by omega) (by omega)
    have h3 := pow_bd (d := 1) (x := 2 ^ (L - b)) (k := L - b) (by omega) (by omega) (by omega)
    have h4 := pow_bd (d := 1) (x := 2 ^ b) (k := b) (by omega) (by omega) (by omega)
    have h5 : 0 < 2 ^ (L - b) := Nat.two_pow_pos _
    have m1 : (((2 ^ (L - b) : Nat) : Int) - 1).natAbs < 2 ^ 2100 := by
      generalize 2 ^ 2100 = Z at *
      omega
    have m2 := lt_mul (abs_nat h1) m1
    have m3 := lt_add (m := 2100 + 2100) m2 (Nat.lt_of_lt_of_le (abs_nat h2) (Nat.pow_le_pow_right (by decide) (by decide)))
    have m0 : ((d : Nat) : Int).natAbs < 2 ^ 11 := by omega
    have m4 := lt_mul (lt_mul m0 (abs_nat h4)) m1
    have m5 := lt_mul (a := 2) (m := 2) (by decide) m3
  · exact Nat.lt_of_lt_of_le m5 (Nat.pow_le_pow_right (by decide) (by decide))
  · exact Nat.lt_of_lt_of_le m4 (Nat.pow_le_pow_right (by decide) (by decide))
theorem gL_le (cs : List NN) (j : Nat) : gL cs j ≤ 2 ^ j := Nat.sub_le _ _
theorem eF_le (cs : List NN) : ∀ m j, eF cs j m ≤ m * 2 ^ (j + m)
  | 0, j => by simp [eF]
  | m + 1, j => by
    have h1 := eF_le cs m (j + 1)
    have h2 := Nat.mul_le_mul_left (2 ^ (m + 1)) (gL_le cs j)
    rw [← Nat.pow_add] at h2
    rw [eF, show j + (m + 1) = j + 1 + m by omega, Nat.add_mul]
    rw [show m + 1 + j = j + 1 + m by omega] at h2
    omega
def flL (cs : List NN) (k : Nat) : List Nat := (List.range cs.length).map fun i => flV (cs.getD i (0, 1)).1 (cs.getD i (0, 1)).2 k
theorem flL_sum (cs : List NN) (k : Nat) : (flL cs k).sum = sumFl cs k := by
  unfold flL sumFl
  congr 1
  refine List.ext_getElem (by simp) fun i h1 h2 => ?_
  simp at h2
  simp [h2]
section
variable {Q : R → List Ob → Prop} {cs : List NN} {row : List Nat} {k : Nat}
theorem flL_at {j : Nat} (hj : j < cs.length) : atI ((flL cs k).map nI) (j : Int) = some (nI (flV cs[j].1 cs[j].2 k)) := by
  refine atI_nat ?_
  unfold flL
  simp [hj]
theorem ev_sumC {xs : List Int} : fSum (.pv (.list (xs.map PyData.int))) = some (.val (.int xs.sum)) := by simp [fSum, Ct.lst?, ints_map]
theorem of_counts (h : Chs cs) (hk : k ≤ 10) (q : Q (.val (.bool true)) []) : Ret d_law_counts_are_right [.val (chsV cs), .val (.list ((flL cs k).map nI)), .val (.int ((2 ^ k : Nat) : Int)), .val (.int k)] Q := by
  have ho := h.ok
  have hle := sumFl_le h k
  have h0 : 0 < 2 ^ k := Nat.two_pow_pos k
  have hp : 2 ^ k ≤ 1024 := Nat.pow_le_pow_right (n := 2) (by decide) hk
  have hlen := h.len
  obtain ⟨P, hP⟩ : ∃ P, P = 2 ^ k := ⟨_, rfl⟩
  refine ret_mkR (by repeat constructor) ?_
  unfold b_law_counts_are_right
  walk_at "r"
  refine wp_forN (fun j ρ => ρ = [some (.val (chsV cs)), some (.val (.list ((flL cs k).map nI))), some (.val (.int ((2 ^ k : Nat) : Int))), some (.val (.int k)), none, none, none, none]) cs.length ?_ ?_ ?_
  · walk_at "r"
    rw [List.length_map]
    exact ⟨rfl, by unfold line; omega, rfl⟩
  · rintro j _ hj rfl
    have hc := ho.2 _ (List.getElem_mem hj)
    have hdm := Nat.div_add_mod (cs[j].1 * 2 ^ k) cs[j].2
    have hml := Nat.mod_lt (cs[j].1 * 2 ^ k) (show 0 < cs[j].2 by omega)
    have hfl : flV cs[j].1 cs[j].2 k ≤ 2 ^ k := by
      unfold flV
      exact Nat.div_le_of_le_mul (Nat.mul_le_mul_right _ hc.1)
    have hfe : cs[j].1 * 2 ^ k / cs[j].2 = flV cs[j].1 cs[j].2 k := rfl
    rw [hfe] at hdm
    unfold l1_law_counts_are_right
    walk_at "r"
    refine opq rfl rfl (ch_at hj) ?_
    show PutQ _ (.val (.tuple [.int cs[j].1, .int cs[j].2])) _ _
    walk_at "r"
    rw [← hP] at hp hdm hfl ⊢
    refine opq rfl rfl (ev_mul (mulOkN (by omega) (by omega))) ?_
    walk_at "r"
    refine opq rfl rfl (ev_ix (.inr (.inl rfl)) (flL_at hj)) ?_
    walk_at "r"
    refine opq rfl rfl (ev_mul (mulOkN (by omega) (by omega))) ?_
    walk_at "ri"
    have hx : (cs[j].1 : Int) * (P : Int) - (flV cs[j].1 cs[j].2 k : Int) * (cs[j].2 : Int) = ((cs[j].1 * P % cs[j].2 : Nat) : Int) := by
      have e := congrArg (fun n : Nat => (n : Int)) hdm
      simp only [Int.natCast_add, Int.natCast_mul] at e
      rw [Int.mul_comm (cs[j].2 : Int)] at e
      rw [← e]
      omega
    rw [← hP] at hml
    rw [hx]
    rw [decide_eq_false (by omega)]
    refine ⟨fun z => Bool.noConfusion z, fun _ => ?_⟩
    walk_at "ri"
    rw [decide_eq_false (by omega)]
    refine ⟨fun z => Bool.noConfusion z, fun _ => ?_⟩
    walk_at "ri"
    refine of_chance_within ho hj (by omega) ?_
    walk_at "ri"
    refine opq rfl rfl (ev_ix (.inr (.inl rfl)) (flL_at hj)) ?_
    walk_at "ri"
    refine of_lfraction (by omega) ?_
    walk_at "ri"
    rw [hP]
    refine of_same (v := fr (rat (flV cs[j].1 cs[j].2 k : Nat) (2 ^ k : Nat))) plain_fr ?_
    walk_at "ri"
    rfl
  · rintro _ rfl
    walk_at "r"
    refine of_still_going ho (by omega) ?_
    walk_at "r"
    rw [show (flL cs k).map nI = ((flL cs k).map fun (n : Nat) => (n : Int)).map PyData.int by rw [List.map_map]; rfl]
    refine unq rfl ev_sumC ?_
    rw [nat_sum, flL_sum]
    walk_at "r"
    refine of_same (v := .int _) .int ?_
    walk_at "r"
    exact q
end
end Py
namespace Py
open PySem D
local macro_rules
  | `(tactic| walk_at "w") => `(tactic| with_reducible first
    | refine seq_nx ?_ | refine seq_rt ?_ | refine seq_bk ?_ | refine seq_ct ?_ | refine wp_seq ?_ | refine wp_asg ?_ | refine wp_next ?_ | refine wp_ret ?_ | refine wp_retN ?_ | refine wp_brk ?_ | refine wp_cont ?_ | refine wp_expr ?_ | refine wp_op ?_ | refine wp_un ?_ | refine wp_c ?_
    | refine unB ?_ | refine wp_truB ?_ | refine wp_and ?_ | refine wp_or ?_ | refine wp_not ?_ | refine wp_ifE ?_ | refine wp_tup ?_ | refine wp_lst ?_ | refine wp_lcons ?_ | refine wp_lnil ?_ | refine frzV ?_ | refine frzN ?_ | refine wp_frz ?_ | refine wp_sl ?_ | refine wp_onone ?_ | refine wp_osome ?_
    | refine wp_anil ?_ | refine wp_av ?_ | refine wp_andV ?_ | refine wp_orV ?_ | refine wp_notV ?_ | refine wp_fgtR ?_ | refine turn_nx ?_ | refine turn_rt ?_ | refine turn_bk ?_ | refine turn_ct ?_ | refine fgt_rt ?_ | refine wp_par ?_ | refine wp_chain ?_ | refine wp_seqI ?_)
local macro_rules
  | `(tactic| walk_at "put") => `(tactic| focus ((repeat apply PutR.s); first | exact PutR.z rfl | exact PutR.z (by assumption)))
local macro_rules
  | `(tactic| walk_at "set") => `(tactic| focus ((repeat apply SetR.s); first | exact SetR.o | exact SetR.r))
local macro_rules
  | `(tactic| walk_at "fgt") => `(tactic| focus (repeat first | exact FgtsR.nil | exact FgtR.k | exact FgtR.z rfl | exact FgtR.z (by assumption) | apply FgtR.s | apply FgtsR.cons))
local macro_rules
  | `(tactic| walk_at "x") => `(tactic| first
    | ((with_reducible apply wp_varV); (focus exact rfl)) | ((with_reducible apply wp_varO); (focus exact rfl)) | ((with_reducible apply wp_varR); (focus exact rfl))
    | ((with_reducible apply opq); (focus exact rfl); (focus exact rfl); (focus (first | exact ev_eqI | exact ev_neI | exact ev_ltI | exact ev_leI | exact ev_gtI | exact ev_geI | exact ev_eqOne | exact ev_neOne | exact ev_in2 | exact ev_in2n | exact ev_in4n | exact ev_isT | exact ev_isF | exact ev_isnT | exact ev_isnF | exact ev_strT | exact ev_strF n1 | exact ev_strF n2 | exact ev_strF n3 | exact ev_strF n4 | exact ev_strF n5 | exact ev_strF n6 | exact rfl)))
    | ((with_reducible apply unq); (focus exact rfl); (focus exact rfl))
    | ((with_reducible first | apply putqV | apply putqN); walk_at "put")
    | ((with_reducible apply putqB); (focus exact rfl); (focus exact rfl); walk_at "put"; walk_at "put")
    | ((with_reducible apply putq2); walk_at "put"; walk_at "put")
    | ((with_reducible apply parq); walk_at "put"; walk_at "put")
    | ((with_reducible apply wp_callR); (focus (repeat first | exact RefsR.nil | apply RefsR.v | apply RefsR.r)); (focus decide))
    | ((with_reducible apply wp_ar); (focus exact rfl))
    | ((with_reducible apply fin_rt); (focus exact rfl); (focus exact rfl))
    | ((with_reducible apply fin_nx); (focus exact rfl))
    | ((with_reducible apply wp_appendR); (focus exact rfl))
    | (with_reducible refine ⟨_, rfl, ?_⟩) | (with_reducible refine ⟨_, .inl rfl, ?_⟩) | (with_reducible refine ⟨_, .inr (.inl rfl), ?_⟩) | (with_reducible refine ⟨_, .inr (.inr rfl), ?_⟩)
    | (with_reducible apply callq0) | ((with_reducible apply frzB); (focus exact rfl); (focus exact rfl); walk_at "put")
    | ((with_reducible apply callq1); walk_at "set")
    | ((with_reducible apply callq2); walk_at "set"; walk_at "set")
    | ((with_reducible first | apply fgt_nx | apply fgt_bk | apply fgt_ct); walk_at "fgt")
    | ((with_reducible apply brT); (focus exact rfl)) | ((with_reducible apply brF); (focus exact rfl)))
local macro_rules
  | `(tactic| walk_at "r") => `(tactic| repeat first | walk_at "w" | walk_at "x")
local macro_rules
  | `(tactic| walk_at "ri") => `(tactic| repeat first | walk_at "w" | walk_at "x" | (with_reducible refine wp_if ?_))
local macro_rules
  | `(tactic| walk_at "app") => `(tactic| ((with_reducible apply appq); (focus exact rfl); (focus ((try simp only [List.length_map, List.length_nil, List.length_cons, List.length_append]); unfold line; omega)); walk_at "set"))
local macro_rules
  | `(tactic| walk_at "mul") => `(tactic| ((refine opq rfl rfl (ev_mul ?_) ?_); (focus (apply mulT <;> omega))))
local macro_rules
  | `(tactic| walk_at "rm") => `(tactic| repeat first | walk_at "w" | walk_at "x" | walk_at "mul")
local macro_rules
  | `(tactic| walk_at "len") => `(tactic| (refine And.intro ?_ ?_; (focus (simp [line]; done))))
local macro_rules
  | `(tactic| walk_at "rl") => `(tactic| repeat first | walk_at "w" | walk_at "x" | walk_at "len")
local macro_rules
  | `(tactic| walk_at "ril") => `(tactic| repeat first | walk_at "w" | walk_at "x" | walk_at "len" | (with_reducible refine wp_if ?_))
/-! QIf: k47's machine at all rows. -/
section
theorem set_set7 {ρ : Env} {i : Nat} {a b : Option Sl} : (List.set ρ i a).set i b = List.set ρ i b := by simp
theorem wp_lcK7 {i : Nat} {it : MI} {e : M} {ρ ρ1 : Env} {Q : R → Env → Prop} (xs : List PV) (hv : Nat → PV) (hi : i < ρ1.length) (hl : xs.length ≤ line)
    (h : Wp it ρ fun ys ρ' => ys = xs ∧ ρ' = ρ1)
    (step : ∀ k (hk : k < xs.length), Wp e (List.set ρ1 i (some (.val xs[k]))) fun r ρ3 => FrzQ r ρ3 fun v ρ4 => v = hv k ∧ ρ4 = List.set ρ1 i (some (.val xs[k])))
    (q : Q (.new (.lst ((List.range xs.length).map hv))) ρ1) : Wp (mLc it (gName i) [i] tYes e) ρ Q := by
  refine wp_lc (fun x : PV => x) (fun done acc ρ' => acc = (List.range done.length).map hv ∧ ∃ u, ρ' = List.set ρ1 i u) ?_
  refine h.mono fun ys ρ' ⟨e1, e2⟩ => ?_
  subst e1 e2
  refine ⟨ys, by simp, hl, ⟨rfl, get ρ' i, ?_⟩, ?_, ?_⟩
  · unfold get
    rw [List.getElem?_eq_getElem hi]
    simp
  · rintro done y rest acc _ e3 ⟨rfl, u, rfl⟩
    have hk : done.length < ys.length := by rw [e3]; simp
    have hy : ys[done.length] = y := by simp [e3]
    have hs := step done.length hk
    rw [hy] at hs
    refine lcqY (ρ0 := List.set ρ' i none) (by show (List.set ρ' i u).set i none = _; exact set_set7) ?_
    have hg : get (List.set ρ' i none) i = none := by
      unfold get
      rw [List.getElem?_set_self hi]
      rfl
    refine ⟨List.set ρ' i (some (.val y)), ?_, hs.mono fun r ρ3 ⟨v, ρ4, e4, e5, e6⟩ => ⟨_, _, e4, ?_, some (.val y), e6⟩⟩
    · show put i (some (.val y)) (List.set ρ' i none) = _
      unfold put
      rw [hg]
      show some ((List.set ρ' i none).set i (some (.val y))) = _
      rw [set_set7]
    · rw [List.length_append, List.length_singleton, List.range_succ, List.map_append, e5]
      rfl
  · rintro acc _ ⟨rfl, u, rfl⟩
    have eb : back ρ' [i] (List.set ρ' i u) = ρ' := by
      show (List.set ρ' i u).set i (get ρ' i) = ρ'
      rw [set_set7]
      unfold get
      rw [List.getElem?_eq_getElem hi]
      simp
    rw [eb]
    exact q
theorem wp_lcS7 {i : Nat} {a e : M} {ρ ρ1 : Env} {Q : R → Env → Prop} (xs : List PV) (hv : Nat → PV) (hi : i < ρ1.length) (hl : xs.length ≤ line)
    (h : Wp a ρ fun x ρ' => (x = .val (.list xs) ∨ x = .val (.tuple xs) ∨ x = .new (.lst xs)) ∧ ρ' = ρ1)
    (step : ∀ k (hk : k < xs.length), Wp e (List.set ρ1 i (some (.val xs[k]))) fun r ρ3 => FrzQ r ρ3 fun v ρ4 => v = hv k ∧ ρ4 = List.set ρ1 i (some (.val xs[k])))
    (q : Q (.new (.lst ((List.range xs.length).map hv))) ρ1) : Wp (mLc (iSeq a) (gName i) [i] tYes e) ρ Q :=
  wp_lcK7 xs hv hi hl (wp_seqI (h.mono fun x ρ' ⟨h1, h2⟩ => ⟨xs, h1, rfl, h2⟩)) step q
end
section
variable {Q : R → List Ob → Prop} {cs : List NN} {row : List Nat} {k : Nat}
theorem set_cnt {n o j : Nat} {f : Nat → Nat} (ho : o < n) : ((List.range n).map fun i => nI (f i)).set o (.int ((f o : Int) + 1)) = (List.range n).map fun i => nI (f i + cntO i (some (o, j))) := by
  refine List.ext_getElem (by simp) fun i h1 h2 => ?_
  rw [List.getElem_set]
  by_cases c : o = i
  · subst c
    rw [if_pos rfl]
    simp [cntO, nI]
  · rw [if_neg c]
    simp [cntO, nI, c]
theorem cnt_at {n o : Nat} {f : Nat → Nat} (ho : o < n) : atI ((List.range n).map fun i => nI (f i)) (o : Int) = some (nI (f o)) := atI_nat (by simp [ho])
def rowsS (f : List Nat → Nat) (l : List (List Nat)) : Nat := (l.map f).sum
theorem rowsS_take {f : List Nat → Nat} {l : List (List Nat)} {v : Nat} (h : v < l.length) : rowsS f (l.take (v + 1)) = rowsS f (l.take v) + f l[v] := by
  unfold rowsS
  rw [List.take_succ_eq_append_getElem h, List.map_append, List.sum_append]
  simp
theorem rS_app (f : NN → Rat) (ds : List NN) : ∀ cs : List NN, rS f (cs ++ ds) = rS f cs + rS f ds
  | [] => by rw [List.nil_append]; simp only [rS]; grind
  | c :: cs => by rw [List.cons_append, rS, rS, rS_app f ds cs]; grind
theorem rS_take {f : NN → Rat} {cs : List NN} {j : Nat} (h : j < cs.length) : rS f (cs.take (j + 1)) = rS f (cs.take j) + f cs[j] := by
  rw [List.take_succ_eq_append_getElem h, rS_app]
  simp only [rS]
  grind
theorem of_right47 (h : Chs cs) (hl : cs.length ≤ 10) (hk : k ≤ 6) (q : Q (.val (.bool true)) []) : Ret d_law_right_k47_2 [.val (chsV cs), .val (.int k)] Q := by
  have ho := h.ok
  have hm : Mc cs := ⟨ho.2, sumFl_le h⟩
  have hln : (line : Nat) = 16777216 := rfl
  have hp : 2 ^ k ≤ 64 := Nat.pow_le_pow_right (n := 2) (by decide) hk
  have hp0 : 0 < 2 ^ k := Nat.two_pow_pos k
  refine ret_mkR (by repeat constructor) ?_
  unfold b_law_right_k47_2
  walk_at "rl"
  refine wp_lcS7 (ρ1 := [some (.val (chsV cs)), some (.val (.int k)), none, none, none, none, none, none, none, none, none, none, none, none]) (cs.map frN) (fun _ => nI 0) (by simp) (by rw [List.length_map]; omega) ?_ ?_ ?_
  · walk_at "rl"
    first | rfl | exact ⟨.inr (.inl rfl), rfl⟩
  · intro t ht
    dsimp only [set_s, set_z]
    unfold e1_law_right_k47_2
    walk_at "rl"
    first | rfl | exact ⟨rfl, rfl⟩
  rw [List.length_map]
  walk_at "rl"
  have hrl := rowsA_len k
  refine wp_mid (fun ρ => ρ = [some (.val (chsV cs)), some (.val (.int k)), some (.own (.lst ((flL cs k).map nI))), some (.val (.int ((eF cs 0 k : Nat) : Int))), none, none, none, none, none, none, none, none, none, none]) ?_ ?_
  · have main : ∀ {it : M}, (∀ (P : R → Env → Prop), (∀ x : R, (x = .val (.list ((rowsA k).map tN)) ∨ x = .val (.tuple ((rowsA k).map tN)) ∨ x = .new (.lst ((rowsA k).map tN))) → P x [some (.val (chsV cs)), some (.val (.int k)), some (.own (.lst ((List.range cs.length).map fun _ => nI 0))), some (.val (.int 0)), none, none, none, none, none, none, none, none, none, none]) → Wp it [some (.val (chsV cs)), some (.val (.int k)), some (.own (.lst ((List.range cs.length).map fun _ => nI 0))), some (.val (.int 0)), none, none, none, none, none, none, none, none, none, none] P) → Wp (sFor (iSeq it) (gName 4) l2_law_right_k47_2) [some (.val (chsV cs)), some (.val (.int k)), some (.own (.lst ((List.range cs.length).map fun _ => nI 0))), some (.val (.int 0)), none, none, none, none, none, none, none, none, none, none] fun f ρ => f = .nx ∧ ρ = [some (.val (chsV cs)), some (.val (.int k)), some (.own (.lst ((flL cs k).map nI))), some (.val (.int ((eF cs 0 k : Nat) : Int))), none, none, none, none, none, none, none, none, none, none] := by
      intro it hit
      refine wp_forL (fun v ρ => ρ = [some (.val (chsV cs)), some (.val (.int k)), some (.own (.lst ((List.range cs.length).map fun i => nI (rowsS (fun t => cntO i (tossF cs t)) ((rowsA k).take v))))), some (.val (.int ((rowsS (fun t => rdO k (tossF cs t)) ((rowsA k).take v) : Nat) : Int))), none, none, none, none, none, none, none, none, none, none]) ((rowsA k).map tN) ?_ ?_ ?_
      · exact hit _ fun x hx => ⟨hx, rfl⟩
      · rintro v hv _ rfl
        rw [List.length_map] at hv
        have e : ((rowsA k).map tN)[v]'(by rw [List.length_map]; exact hv) = tN (rowsA k)[v] := by simp
        obtain ⟨hr1, hr2⟩ := rowsA_mem (List.getElem_mem hv)
        rw [e, rowsS_take hv]
        simp only [rowsS_take hv]
        generalize (rowsA k)[v] = row at *
        generalize hfc : (fun i => rowsS (fun t => cntO i (tossF cs t)) ((rowsA k).take v)) = fc
        have hfc' : ∀ i, rowsS (fun t => cntO i (tossF cs t)) ((rowsA k).take v) = fc i := fun i => by rw [← hfc]
        simp only [hfc']
        generalize rowsS (fun t => rdO k (tossF cs t)) ((rowsA k).take v) = rd
        unfold l2_law_right_k47_2
        walk_at "ril"
        refine of_toss ho hr2 (by omega) ?_
        cases et : tossF cs row with
        | none =>
          walk_at "ril"
          show _ = _
          rfl
        | some oj =>
          obtain ⟨o, j⟩ := oj
          obtain ⟨g1, g2, _, _⟩ := toss_some et
          have ho' := stops_lt g2
          walk_at "ril"
          refine of_is_stop ho hr2 (by omega) et ?_
          rw [show ogV (some (o, j)) = .tuple [.int (o : Int), .int (j : Int)] from rfl]
          walk_at "ril"
          refine wp_setIxR ?_
          walk_at "ril"
          refine opq rfl rfl (ev_ix (.inr (.inr rfl)) (cnt_at ho')) ?_
          walk_at "ril"
          apply ixq (j := o) rfl rfl (by simpa using ho')
          walk_at "set"
          rw [set_cnt (j := j) ho']
          walk_at "ril"
          rfl
      · rintro _ rfl
        refine ⟨rfl, ?_⟩
        rw [List.length_map, List.take_length]
        have e1 : ((List.range cs.length).map fun i => nI (rowsS (fun t => cntO i (tossF cs t)) (rowsA k))) = (flL cs k).map nI := by
          unfold flL
          rw [List.map_map]
          exact List.map_congr_left fun i hi => congrArg nI (toss_count hm (List.mem_range.mp hi) k)
        have e2 : rowsS (fun t => rdO k (tossF cs t)) (rowsA k) = eF cs 0 k := toss_read hm k
        rw [e1, e2]
    refine main fun P hP => ?_
    walk_at "rl"
    refine of_rows47 (by omega) ?_ ?_
    · walk_at "rl"
      exact hP _ (.inr (.inr rfl))
    · walk_at "rl"
      exact hP _ (.inl rfl)
  rintro _ rfl
  refine seq_nx ?_
  refine wp_seq ?_
  refine wp_mid (fun ρ => ρ = [some (.val (chsV cs)), some (.val (.int k)), some (.own (.lst ((flL cs k).map nI))), some (.val (.int ((eF cs 0 k : Nat) : Int))), none, some (.val (.int ((2 ^ k : Nat) : Int))), none, none, none, none, none, none, none, none]) ?_ ?_
  · walk_at "rl"
    refine of_rows47 (by omega) ?_ ?_
    · walk_at "rl"
      rw [List.length_map, hrl]
    · walk_at "rl"
      rw [List.length_map, hrl]
  rintro _ rfl
  walk_at "ril"
  refine of_counts h (by omega) ?_
  walk_at "ril"
  refine of_fewest_tosses (by omega) (fun c hc => h.at' hc) fun r r1 r2 r3 => ?_
  walk_at "ril"
  obtain ⟨T, hT⟩ : ∃ T, T = eF cs 0 k := ⟨_, rfl⟩
  have hTb : T ≤ 384 := by
    have h1 := eF_le cs k 0
    rw [Nat.zero_add] at h1
    have := Nat.mul_le_mul hk hp
    omega
  have hall := mean_all h k
  rw [← hT] at hall ⊢
  obtain ⟨P, hP⟩ : ∃ P, P = 2 ^ k := ⟨_, rfl⟩
  rw [← hP] at hp hp0 hall ⊢
  refine wp_forN (fun j ρ => ∃ ps : List (Int × Int), ps.length ≤ j + 1 ∧ (∀ p ∈ ps, Bt 8000 p) ∧ sumP ps = (T : Rat) * (P : Rat)⁻¹ + rS (fun c => wq k c * (P : Rat)⁻¹) (cs.take j) ∧ ρ = [some (.val (chsV cs)), some (.val (.int k)), some (.val (.list ((flL cs k).map nI))), some (.val (.int (T : Int))), none, some (.val (.int (P : Int))), some (.val (fr r)), some (.own (.lst (ps.map fr))), none, none, none, none, none, none]) cs.length ?_ ?_ ?_
  · walk_at "rl"
    rw [List.length_map]
    refine ⟨rfl, by omega, [((T : Int), (P : Int))], by simp, fun p hp' => ?_, ?_, rfl⟩
    · rw [List.mem_singleton.mp hp']
      exact (show Bt 10 ((T : Int), (P : Int)) from ⟨by show (0 : Int) < (P : Int); omega, by show (T : Int).natAbs < 2 ^ 10; omega, by show (P : Int).natAbs < 2 ^ 10; omega⟩).mono (by decide)
    · simp only [sumP, List.take_zero, rS]
      rw [show qv ((T : Int), (P : Int)) = (T : Rat) * (P : Rat)⁻¹ from Rat.div_def ..]
  · rintro j _ hj ⟨ps, p1, p2, p3, rfl⟩
    have hc := ho.2 _ (List.getElem_mem hj)
    unfold l3_law_right_k47_2
    walk_at "rl"
    refine opq rfl rfl (ch_at hj) ?_
    show PutQ _ (.val (.tuple [.int cs[j].1, .int cs[j].2])) _ _
    walk_at "ril"
    refine branchD (fun hlt => ?_) fun hlt => ?_
    · have hne : cs[j] ≠ (1, 1) := fun z => by rw [z] at hlt; exact absurd hlt (by decide)
      walk_at "ril"
      refine opq rfl rfl (ev_mul (mulOkN (by omega) (by omega))) ?_
      walk_at "ril"
      refine opq rfl rfl (ev_mod (by omega)) ?_
      rw [← Int.natCast_mul, nmod]
      have hre : cs[j].1 * P % cs[j].2 = restV cs[j].1 cs[j].2 k := by rw [hP]; rfl
      rw [hre]
      have hrl2 : restV cs[j].1 cs[j].2 k < cs[j].2 := Nat.mod_lt _ (by omega)
      walk_at "ril"
      refine of_law_mean hrl2 hc.2.2.1 fun L b ht => ?_
      have hmb := mean_bt2 ht hc.2.2.1
      unfold fr
      walk_at "ril"
      refine opq rfl rfl (ev_mul (mulOk_of 4300 7 hmb.2.2 (by omega))) ?_
      walk_at "ril"
      refine appq (xs := ps.map fr) rfl (by rw [List.length_map]; omega) (by walk_at "set") ?_
      walk_at "ril"
      refine ⟨ps ++ [(meanN (restV cs[j].1 cs[j].2 k) cs[j].2 L b, meanD (restV cs[j].1 cs[j].2 k) cs[j].2 L b * (P : Int))], by simp; omega, fun p hp' => ?_, ?_, by rw [List.map_append]; rfl⟩
      · rcases List.mem_append.mp hp' with hp' | hp'
        · exact p2 p hp'
        · rw [List.mem_singleton.mp hp']
          refine ⟨Int.mul_pos hmb.1 (by omega), ?_, ?_⟩
          · exact Nat.lt_of_lt_of_le hmb.2.1 (Nat.pow_le_pow_right (by decide) (by decide))
          · exact Nat.lt_of_lt_of_le (lt_mul hmb.2.2 (show ((P : Nat) : Int).natAbs < 2 ^ 7 by omega)) (Nat.pow_le_pow_right (by decide) (by decide))
      · rw [sumP_append, p3, rS_take hj]
        have hw : wq k cs[j] = (meanN (restV cs[j].1 cs[j].2 k) cs[j].2 L b : Rat) / (meanD (restV cs[j].1 cs[j].2 k) cs[j].2 L b : Rat) := by
          unfold wq mq
          rw [if_neg hne, if_neg (fun z => by
            have z1 := congrArg Prod.fst z
            have z2 := congrArg Prod.snd z
            dsimp only at z1 z2
            omega), ← meanQ_eq ht]
        rw [hw]
        have hD : ((meanD (restV cs[j].1 cs[j].2 k) cs[j].2 L b : Int) : Rat) ≠ 0 := ic_ne (by have := hmb.1; omega)
        have hPr : ((P : Nat) : Rat) ≠ 0 := by have := nat_pos hp0; grind
        simp only [sumP, qv]
        rw [Rat.intCast_mul, show (((P : Nat) : Int) : Rat) = ((P : Nat) : Rat) from rfl]
        rw [Rat.div_def, Rat.div_def, Rat.inv_mul_rev]
        grind
    · have hne : cs[j] = (1, 1) := hc.2.2.2 (by omega)
      walk_at "ril"
      refine ⟨ps, by omega, p2, ?_, rfl⟩
      rw [p3, rS_take hj]
      unfold wq
      rw [if_pos hne]
      grind
  rintro _ ⟨ps, p1, p2, p3, rfl⟩
  rw [List.take_length, ← hall] at p3
  walk_at "ril"
  refine of_is_sum r2 r1 (by omega) p2 (r3.trans p3.symm) ?_
  walk_at "ril"
  refine opq rfl rfl (ev_mul (mulOk_of 900000 7 r1.2.1 (by omega))) ?_
  walk_at "ril"
  refine opq rfl rfl (ev_mul (mulOk_of 10 900000 (by omega) r1.2.2)) ?_
  walk_at "ril"
  have hnn : 0 ≤ rS (fun c => wq k c * (P : Rat)⁻¹) cs := rS_nn fun c hc => Rat.mul_nonneg (wq_nn (h.at' hc) k) (Rat.le_of_lt (Rat.inv_pos.mpr (nat_pos hp0)))
  have hle : (T : Int) * r.2 ≤ r.1 * (P : Int) := by
    have h2 : (0 : Rat) < (r.2 : Rat) := by exact_mod_cast r1.1
    have h3 := nat_pos hp0
    have h4 : (T : Rat) * (P : Rat)⁻¹ ≤ qv r := by rw [r3, hall]; grind
    unfold qv at h4
    have h5 : (T : Rat) * (r.2 : Rat) ≤ (r.1 : Rat) * (P : Rat) := by
      have h6 := Rat.mul_nonneg (show 0 ≤ (r.1 : Rat) / (r.2 : Rat) - (T : Rat) * (P : Rat)⁻¹ by grind) (Rat.le_of_lt (Rat.mul_pos h2 h3))
      have h7 : ((r.1 : Rat) / (r.2 : Rat) - (T : Rat) * (P : Rat)⁻¹) * ((r.2 : Rat) * (P : Rat)) = (r.1 : Rat) * (P : Rat) - (T : Rat) * (r.2 : Rat) := by
        have : (r.2 : Rat) ≠ 0 := by grind
        have : (P : Rat) ≠ 0 := by grind
        grind
      grind
    have e1 : (T : Rat) * (r.2 : Rat) = (((T : Int) * r.2 : Int) : Rat) := by rw [Rat.intCast_mul]; rfl
    have e2 : (r.1 : Rat) * (P : Rat) = ((r.1 * (P : Int) : Int) : Rat) := by rw [Rat.intCast_mul]; rfl
    rw [e1, e2] at h5
    exact Rat.intCast_le_intCast.mp h5
  rw [decide_eq_true hle]
  exact q
end
end Py
namespace Py
open PySem D
local macro_rules
  | `(tactic| walk_at "w") => `(tactic| with_reducible first
    | refine seq_nx ?_ | refine seq_rt ?_ | refine seq_bk ?_ | refine seq_ct ?_ | refine wp_seq ?_ | refine wp_asg ?_ | refine wp_next ?_ | refine wp_ret ?_ | refine wp_retN ?_ | refine wp_brk ?_ | refine wp_cont ?_ | refine wp_expr ?_ | refine wp_op ?_ | refine wp_un ?_ | refine wp_c ?_
    | refine unB ?_ | refine wp_truB ?_ | refine wp_and ?_ | refine wp_or ?_ | refine wp_not ?_ | refine wp_ifE ?_ | refine wp_tup ?_ | refine wp_lst ?_ | refine wp_lcons ?_ | refine wp_lnil ?_ | refine frzV ?_ | refine frzN ?_ | refine wp_frz ?_ | refine wp_sl ?_ | refine wp_onone ?_ | refine wp_osome ?_
    | refine wp_anil ?_ | refine wp_av ?_ | refine wp_andV ?_ | refine wp_orV ?_ | refine wp_notV ?_ | refine wp_fgtR ?_ | refine turn_nx ?_ | refine turn_rt ?_ | refine turn_bk ?_ | refine turn_ct ?_ | refine fgt_rt ?_ | refine wp_par ?_ | refine wp_chain ?_ | refine wp_seqI ?_)
local macro_rules
  | `(tactic| walk_at "put") => `(tactic| focus ((repeat apply PutR.s); first | exact PutR.z rfl | exact PutR.z (by assumption)))
local macro_rules
  | `(tactic| walk_at "set") => `(tactic| focus ((repeat apply SetR.s); first | exact SetR.o | exact SetR.r))
local macro_rules
  | `(tactic| walk_at "fgt") => `(tactic| focus (repeat first | exact FgtsR.nil | exact FgtR.k | exact FgtR.z rfl | exact FgtR.z (by assumption) | apply FgtR.s | apply FgtsR.cons))
local macro_rules
  | `(tactic| walk_at "x") => `(tactic| first
    | ((with_reducible apply wp_varV); (focus exact rfl)) | ((with_reducible apply wp_varO); (focus exact rfl)) | ((with_reducible apply wp_varR); (focus exact rfl))
    | ((with_reducible apply opq); (focus exact rfl); (focus exact rfl); (focus (first | exact ev_eqI | exact ev_neI | exact ev_ltI | exact ev_leI | exact ev_gtI | exact ev_geI | exact ev_eqOne | exact ev_neOne | exact ev_in2 | exact ev_in2n | exact ev_in4n | exact ev_isT | exact ev_isF | exact ev_isnT | exact ev_isnF | exact ev_strT | exact ev_strF n1 | exact ev_strF n2 | exact ev_strF n3 | exact ev_strF n4 | exact ev_strF n5 | exact ev_strF n6 | exact rfl)))
    | ((with_reducible apply unq); (focus exact rfl); (focus exact rfl))
    | ((with_reducible first | apply putqV | apply putqN); walk_at "put")
    | ((with_reducible apply putqB); (focus exact rfl); (focus exact rfl); walk_at "put"; walk_at "put")
    | ((with_reducible apply putq2); walk_at "put"; walk_at "put")
    | ((with_reducible apply parq); walk_at "put"; walk_at "put")
    | ((with_reducible apply wp_callR); (focus (repeat first | exact RefsR.nil | apply RefsR.v | apply RefsR.r)); (focus decide))
    | ((with_reducible apply wp_ar); (focus exact rfl))
    | ((with_reducible apply fin_rt); (focus exact rfl); (focus exact rfl))
    | ((with_reducible apply fin_nx); (focus exact rfl))
    | ((with_reducible apply wp_appendR); (focus exact rfl))
    | (with_reducible refine ⟨_, rfl, ?_⟩) | (with_reducible refine ⟨_, .inl rfl, ?_⟩) | (with_reducible refine ⟨_, .inr (.inl rfl), ?_⟩) | (with_reducible refine ⟨_, .inr (.inr rfl), ?_⟩)
    | (with_reducible apply callq0) | ((with_reducible apply frzB); (focus exact rfl); (focus exact rfl); walk_at "put")
    | ((with_reducible apply callq1); walk_at "set")
    | ((with_reducible apply callq2); walk_at "set"; walk_at "set")
    | ((with_reducible first | apply fgt_nx | apply fgt_bk | apply fgt_ct); walk_at "fgt")
    | ((with_reducible apply brT); (focus exact rfl)) | ((with_reducible apply brF); (focus exact rfl)))
local macro_rules
  | `(tactic| walk_at "r") => `(tactic| repeat first | walk_at "w" | walk_at "x")
local macro_rules
  | `(tactic| walk_at "ri") => `(tactic| repeat first | walk_at "w" | walk_at "x" | (with_reducible refine wp_if ?_))
local macro_rules
  | `(tactic| walk_at "app") => `(tactic| ((with_reducible apply appq); (focus exact rfl); (focus ((try simp only [List.length_map, List.length_nil, List.length_cons, List.length_append]); unfold line; omega)); walk_at "set"))
local macro_rules
  | `(tactic| walk_at "mul") => `(tactic| ((refine opq rfl rfl (ev_mul ?_) ?_); (focus (apply mulT <;> omega))))
local macro_rules
  | `(tactic| walk_at "rm") => `(tactic| repeat first | walk_at "w" | walk_at "x" | walk_at "mul")
local macro_rules
  | `(tactic| walk_at "len") => `(tactic| (refine And.intro ?_ ?_; (focus (simp [line]; done))))
local macro_rules
  | `(tactic| walk_at "rl") => `(tactic| repeat first | walk_at "w" | walk_at "x" | walk_at "len")
local macro_rules
  | `(tactic| walk_at "ril") => `(tactic| repeat first | walk_at "w" | walk_at "x" | walk_at "len" | (with_reducible refine wp_if ?_))
/-! Q_k47 -/
theorem chs_lit7 {cs : List NN} {D : Nat} {ps : List Nat} (h1 : 1 ≤ D) (h2 : D ≤ 2000) (h3 : ps.sum = D) (h4 : cs = ps.map (red D)) (h5 : cs.length ≤ 20) : Chs cs := ⟨⟨D, ps, h1, h2, h3, h4⟩, h5⟩
theorem Law_k47_holds (ns : List Int) (hl : ns.length ≤ 63) (hb : ∀ z ∈ ns, PySem.Builtin.Int.intBits z ≤ 1048576) : ∃ os, d_law_k47_2 [.val (.list (ns.map PyData.int))] = some (.val (.bool true), os) := by
  suffices h : Ret d_law_k47_2 [.val (.list (ns.map PyData.int))] fun r _ => r = .val (.bool true) by
    obtain ⟨r, os, e, q⟩ := h
    exact ⟨os, by rw [e, q]⟩
  refine ret_mkR (by repeat constructor) ?_
  unfold b_law_k47_2
  walk_at "r"
  refine of_draws (m := 60) hb hl (by decide) fun ds => ?_
  walk_at "rl"
  refine of_take (by decide) fun i ds hi1 hi2 => ?_
  walk_at "r"
  obtain ⟨w, hm, hw⟩ := pickI (xs := [3, 4, 10]) hi1 hi2
  simp only [List.mem_cons, List.not_mem_nil, or_false] at hm
  refine opq rfl rfl (ev_ix (.inr (.inr rfl)) hw) ?_
  walk_at "r"
  refine of_take (by omega) fun m ds hm1 hm2 => ?_
  obtain ⟨m, rfl⟩ := Int.eq_ofNat_of_zero_le hm1
  walk_at "r"
  refine of_denominator fun d ds hd1 hd2 => ?_
  walk_at "rl"
  rw [show (1 : Int) + m = ((m + 1 : Nat) : Int) by omega]
  refine of_coin_chances hd1 hd2 (by omega) (by omega) fun cs ds hcs hcl => ?_
  walk_at "rl"
  obtain ⟨e, he, he0, he1⟩ : ∃ e : Int, e = (if decide ((4 : Int) < ((m + 1 : Nat) : Int)) = true then 1 else 0) ∧ 0 ≤ e ∧ e ≤ 1 := ⟨_, rfl, by split <;> omega, by split <;> omega⟩
  rw [← he]
  refine opq rfl rfl (ev_mul (mulOk_of 2 1 (by decide) (by omega))) ?_
  walk_at "rl"
  refine of_take (by omega) fun k ds hk1 hk2 => ?_
  obtain ⟨k, rfl⟩ := Int.eq_ofNat_of_zero_le hk1
  walk_at "ril"
  refine of_right47 hcs (by omega) (by omega) ?_
  walk_at "ril"
  refine of_right47 (cs := [(1, 3), (0, 1), (2, 3)]) (k := 3) (chs_lit7 (D := 3) (ps := [1, 0, 2]) (by decide) (by decide) rfl (by decide) (by decide)) (by decide) (by decide) ?_
  walk_at "ril"
  refine of_right47 (cs := [(1, 1)]) (k := 1) (chs_lit7 (D := 1) (ps := [1]) (by decide) (by decide) rfl (by decide) (by decide)) (by decide) (by decide) ?_
  walk_at "ril"
  rfl
end Py
theorem Law_k47.holds : ∀ ns : List Int, ns.length ≤ 63 → (∀ z ∈ ns, PySem.Builtin.Int.intBits z ≤ 1048576) → ∃ os, D.d_law_k47_2 [.val (.list (ns.map PySem.PyData.int))] = some (.val (.bool true), os) := Py.Law_k47_holds
/-! the walk (printed by gen.py) -/
namespace Law_k47
open PySem PySem.Spec PyProof.Rows L2 Py D
def topS (i : Nat) : Stmt := PySem.Challenge.pw_nosurebet_k47_whole_machines_make_their.main.body.getD i (.Pass ⟨0, 0, 0, 0⟩)
section
variable {P : Program} {w : World} {K : PySem.W.Frag} {mg : Str → Option Value} {base : Heap}
abbrev s_divisor : Stmt := topS 4
theorem sc_divisor : FnScope ["one", "other"] ["one", "other"] (defScope s_divisor) := ⟨rfl, rfl, rfl, by decide +kernel, rfl, by decide +kernel, by decide +kernel⟩
theorem bi_divisor (D : Df K mg "divisor" s_divisor) : Binds K D.fd ["one", "other"] [] := D.F.binds (ps := ["one", "other"]) fun _ _ _ _ _ _ us hl => match us, hl with | [_, _], _ => rfl
theorem ok_divisor (hs : base.NoSeer) (ht : P.given.tree = none) (D_divisor : Df K mg "divisor" s_divisor) (v_gcd : mg "gcd" = some (.builtin "math.gcd")) : FnOk P w K mg base CX0 (41) D_divisor.f D_divisor.fd ["one", "other"] (spOf K 2 d_divisor) :=
  ok_of D_divisor.F sc_divisor (by decide) hs ht fun cdv A outer s H E c =>
    (bss_one (bs_ret (be_gcd rfl v_gcd (be_var 0) (be_var 1))))
abbrev s_fraction : Stmt := topS 5
theorem sc_fraction : FnScope ["n", "d", "common"] ["n", "d"] (defScope s_fraction) := ⟨rfl, rfl, rfl, by decide +kernel, rfl, by decide +kernel, by decide +kernel⟩
theorem bi_fraction (D : Df K mg "fraction" s_fraction) : Binds K D.fd ["n", "d"] [] := D.F.binds (ps := ["n", "d"]) fun _ _ _ _ _ _ us hl => match us, hl with | [_, _], _ => rfl
theorem ok_fraction (hs : base.NoSeer) (ht : P.given.tree = none) (D_fraction : Df K mg "fraction" s_fraction) (D_divisor : Df K mg "divisor" s_divisor) (G_divisor : FnOk P w K mg base CX0 (41) D_divisor.f D_divisor.fd ["one", "other"] (spOf K 2 d_divisor)) : FnOk P w K mg base CX0 (42) D_fraction.f D_fraction.fd ["n", "d"] (spOf K 2 d_fraction) :=
  ok_of D_fraction.F sc_fraction (by decide) hs ht fun cdv A outer s H E c =>
    (bss_cons (bs_set 2 c.nd (be_call G_divisor (c.room.mono (by omega)) rfl D_divisor.g D_divisor.F.kp (bi_divisor D_divisor) (ba_v (be_var 0) (ba_v (be_var 1) ba_nil))))
    (bss_cons (bs_if (bt_cmp ob_lt (be_var 1) be_int) (bss_one (bs_set 2 c.nd (be_neg (be_var 2)))) bss_nil)
    (bss_one (bs_ret (be_tup (bl_cons (be_op (ob_div c.div) (be_var 0) (be_var 2)) (bl_cons (be_op (ob_div c.div) (be_var 1) (be_var 2)) bl_nil)))))))
abbrev s_plus : Stmt := topS 6
theorem sc_plus : FnScope ["one", "other"] ["one", "other"] (defScope s_plus) := ⟨rfl, rfl, rfl, by decide +kernel, rfl, by decide +kernel, by decide +kernel⟩
theorem bi_plus (D : Df K mg "plus" s_plus) : Binds K D.fd ["one", "other"] [] := D.F.binds (ps := ["one", "other"]) fun _ _ _ _ _ _ us hl => match us, hl with | [_, _], _ => rfl
theorem ok_plus (hs : base.NoSeer) (ht : P.given.tree = none) (D_plus : Df K mg "plus" s_plus) (D_fraction : Df K mg "fraction" s_fraction) (G_fraction : FnOk P w K mg base CX0 (42) D_fraction.f D_fraction.fd ["n", "d"] (spOf K 2 d_fraction)) : FnOk P w K mg base CX0 (43) D_plus.f D_plus.fd ["one", "other"] (spOf K 2 d_plus) :=
  ok_of D_plus.F sc_plus (by decide) hs ht fun cdv A outer s H E c =>
    (bss_one (bs_ret (be_call G_fraction (c.room.mono (by omega)) rfl D_fraction.g D_fraction.F.kp (bi_fraction D_fraction) (ba_v (be_op ob_add (be_op ob_mul (be_ix (be_var 0) be_int) (be_ix (be_var 1) be_int)) (be_op ob_mul (be_ix (be_var 1) be_int) (be_ix (be_var 0) be_int))) (ba_v (be_op ob_mul (be_ix (be_var 0) be_int) (be_ix (be_var 1) be_int)) ba_nil)))))
abbrev s_power_of_two : Stmt := topS 8
theorem sc_power_of_two : FnScope ["k", "found", "step"] ["k"] (defScope s_power_of_two) := ⟨rfl, rfl, rfl, by decide +kernel, rfl, by decide +kernel, by decide +kernel⟩
theorem bi_power_of_two (D : Df K mg "power_of_two" s_power_of_two) : Binds K D.fd ["k"] [] := D.F.binds (ps := ["k"]) fun _ _ _ _ _ _ us hl => match us, hl with | [_], _ => rfl
theorem ok_power_of_two (hs : base.NoSeer) (ht : P.given.tree = none) (D_power_of_two : Df K mg "power_of_two" s_power_of_two) (n_range : mg "range" = none) : FnOk P w K mg base CX0 (41) D_power_of_two.f D_power_of_two.fd ["k"] (spOf K 1 d_power_of_two) :=
  ok_of D_power_of_two.F sc_power_of_two (by decide) hs ht fun cdv A outer s H E c =>
    (bss_cons (bs_set 1 c.nd be_int)
    (bss_cons (bs_for c.pass c.calm (bi_rng1 rfl n_range (be_var 0)) (bg_name 2 c.nd) (bss_fgt [2] (bss_one (bs_aug 1 c.nd ob_imul be_int))))
    (bss_one (bs_ret (be_var 1)))))
abbrev s_rest_of_power : Stmt := topS 9
theorem sc_rest_of_power : FnScope ["k", "modulus", "found", "square"] ["k", "modulus"] (defScope s_rest_of_power) := ⟨rfl, rfl, rfl, by decide +kernel, rfl, by decide +kernel, by decide +kernel⟩
theorem bi_rest_of_power (D : Df K mg "rest_of_power" s_rest_of_power) : Binds K D.fd ["k", "modulus"] [] := D.F.binds (ps := ["k", "modulus"]) fun _ _ _ _ _ _ us hl => match us, hl with | [_, _], _ => rfl
theorem ok_rest_of_power (hs : base.NoSeer) (ht : P.given.tree = none) (D_rest_of_power : Df K mg "rest_of_power" s_rest_of_power) : FnOk P w K mg base CX0 (41) D_rest_of_power.f D_rest_of_power.fd ["k", "modulus"] (spOf K 2 d_rest_of_power) :=
  ok_of D_rest_of_power.F sc_rest_of_power (by decide) hs ht fun cdv A outer s H E c =>
    (bss_cons (bs_set 2 c.nd (be_op ob_mod be_int (be_var 1)))
    (bss_cons (bs_set 3 c.nd (be_op ob_mod be_int (be_var 1)))
    (bss_cons (bs_fgt [0, 3] (bs_while c.pass (bt_cmp ob_gt (be_var 0) be_int) (bss_fgt [] (bss_cons (bs_if (bt_cmp (ob_eq c.units) (be_op ob_mod (be_var 0) be_int) be_int) (bss_one (bs_set 2 c.nd (be_op ob_mod (be_op ob_mul (be_var 2) (be_var 3)) (be_var 1)))) bss_nil)
    (bss_cons (bs_set 3 c.nd (be_op ob_mod (be_op ob_mul (be_var 3) (be_var 3)) (be_var 1)))
    (bss_one (bs_aug 0 c.nd (ob_idiv c.div) be_int)))))))
    (bss_one (bs_ret (be_var 2))))))
abbrev s_digit : Stmt := topS 10
theorem sc_digit : FnScope ["chance", "k", "n", "d"] ["chance", "k"] (defScope s_digit) := ⟨rfl, rfl, rfl, by decide +kernel, rfl, by decide +kernel, by decide +kernel⟩
theorem bi_digit (D : Df K mg "digit" s_digit) : Binds K D.fd ["chance", "k"] [] := D.F.binds (ps := ["chance", "k"]) fun _ _ _ _ _ _ us hl => match us, hl with | [_, _], _ => rfl
theorem ok_digit (hs : base.NoSeer) (ht : P.given.tree = none) (D_digit : Df K mg "digit" s_digit) (D_rest_of_power : Df K mg "rest_of_power" s_rest_of_power) (G_rest_of_power : FnOk P w K mg base CX0 (41) D_rest_of_power.f D_rest_of_power.fd ["k", "modulus"] (spOf K 2 d_rest_of_power)) : FnOk P w K mg base CX0 (42) D_digit.f D_digit.fd ["chance", "k"] (spOf K 2 d_digit) :=
  ok_of D_digit.F sc_digit (by decide) hs ht fun cdv A outer s H E c =>
    (bss_cons (bs_asg (be_var 0) (bg_tup c.calm (bgs_cons 2 c.nd (bgs_cons 3 c.nd bgs_nil))))
    (bss_one (bs_ret (be_op (ob_div c.div) (be_op ob_mod (be_op ob_mul (be_var 2) (be_call G_rest_of_power (c.room.mono (by omega)) rfl D_rest_of_power.g D_rest_of_power.F.kp (bi_rest_of_power D_rest_of_power) (ba_v (be_var 1) (ba_v (be_op ob_mul be_int (be_var 3)) ba_nil)))) (be_op ob_mul be_int (be_var 3))) (be_var 3)))))
abbrev s_digits_with_turn : Stmt := topS 11
theorem sc_digits_with_turn : FnScope ["chance", "n", "d", "rest", "seen", "digits"] ["chance"] (defScope s_digits_with_turn) := ⟨rfl, rfl, rfl, by decide +kernel, rfl, by decide +kernel, by decide +kernel⟩
theorem bi_digits_with_turn (D : Df K mg "digits_with_turn" s_digits_with_turn) : Binds K D.fd ["chance"] [] := D.F.binds (ps := ["chance"]) fun _ _ _ _ _ _ us hl => match us, hl with | [_], _ => rfl
theorem ok_digits_with_turn (hs : base.NoSeer) (ht : P.given.tree = none) (D_digits_with_turn : Df K mg "digits_with_turn" s_digits_with_turn) (n_len : mg "len" = none) : FnOk P w K mg base CX0 (41) D_digits_with_turn.f D_digits_with_turn.fd ["chance"] (spOf K 1 d_digits_with_turn) :=
  ok_of D_digits_with_turn.F sc_digits_with_turn (by decide) hs ht fun cdv A outer s H E c =>
    (bss_cons (bs_asg (be_var 0) (bg_tup c.calm (bgs_cons 1 c.nd (bgs_cons 2 c.nd bgs_nil))))
    (bss_cons (bs_set 3 c.nd (be_var 1))
    (bss_cons (bs_set 4 c.nd be_dct0)
    (bss_cons (bs_set 5 c.nd (be_lst bl_nil))
    (bss_cons (bs_while c.pass (bt_dnotIn c.units (be_var 3) (be_var 4)) (bss_fgt [] (bss_cons (bs_dput 4 c.units (pv 4) (be_var 3) (be_b1 c_len rfl n_len bt_len (be_var 5)))
    (bss_cons (bs_expr (be_append 5 (pv 5) (be_op (ob_div c.div) (be_op ob_mul be_int (be_var 3)) (be_var 2))))
    (bss_one (bs_set 3 c.nd (be_op ob_mod (be_op ob_mul be_int (be_var 3)) (be_var 2))))))))
    (bss_one (bs_ret (be_tup (bl_cons (be_var 5) (bl_cons (be_dget c.units (be_var 4) (be_var 3)) bl_nil))))))))))
abbrev s_turns_of : Stmt := topS 13
theorem sc_turns_of : FnScope ["some", "weighted", "begin", "many", "turn", "power", "once", "all_once", "later", "both"] ["some", "weighted", "begin", "many", "turn", "power"] (defScope s_turns_of) := ⟨rfl, rfl, rfl, by decide +kernel, rfl, by decide +kernel, by decide +kernel⟩
theorem bi_turns_of (D : Df K mg "turns_of" s_turns_of) : Binds K D.fd ["some", "weighted", "begin", "many", "turn", "power"] [] := D.F.binds (ps := ["some", "weighted", "begin", "many", "turn", "power"]) fun _ _ _ _ _ _ us hl => match us, hl with | [_, _, _, _, _, _], _ => rfl
theorem ok_turns_of (hs : base.NoSeer) (ht : P.given.tree = none) (D_turns_of : Df K mg "turns_of" s_turns_of) (D_plus : Df K mg "plus" s_plus) (G_plus : FnOk P w K mg base CX0 (43) D_plus.f D_plus.fd ["one", "other"] (spOf K 2 d_plus)) (D_fraction : Df K mg "fraction" s_fraction) (G_fraction : FnOk P w K mg base CX0 (42) D_fraction.f D_fraction.fd ["n", "d"] (spOf K 2 d_fraction)) : FnOk P w K mg base CX0 (44) D_turns_of.f D_turns_of.fd ["some", "weighted", "begin", "many", "turn", "power"] (spOf K 6 d_turns_of) :=
  ok_of D_turns_of.F sc_turns_of (by decide) hs ht fun cdv A outer s H E c =>
    (bss_cons (bs_set 6 c.nd (be_call G_plus (c.room.mono (by omega)) rfl D_plus.g D_plus.F.kp (bi_plus D_plus) (ba_v (be_var 1) (ba_v (be_call G_fraction (c.room.mono (by omega)) rfl D_fraction.g D_fraction.F.kp (bi_fraction D_fraction) (ba_v (be_op ob_mul (be_var 2) (be_ix (be_var 0) be_int)) (ba_v (be_ix (be_var 0) be_int) ba_nil))) ba_nil))))
    (bss_cons (bs_set 7 c.nd (be_call G_fraction (c.room.mono (by omega)) rfl D_fraction.g D_fraction.F.kp (bi_fraction D_fraction) (ba_v (be_op ob_mul (be_ix (be_var 6) be_int) (be_var 4)) (ba_v (be_op ob_mul (be_ix (be_var 6) be_int) (be_op ob_sub (be_var 4) be_int)) ba_nil))))
    (bss_cons (bs_set 8 c.nd (be_call G_fraction (c.room.mono (by omega)) rfl D_fraction.g D_fraction.F.kp (bi_fraction D_fraction) (ba_v (be_op ob_mul (be_op ob_mul (be_ix (be_var 0) be_int) (be_var 3)) (be_var 4)) (ba_v (be_op ob_mul (be_op ob_mul (be_ix (be_var 0) be_int) (be_op ob_sub (be_var 4) be_int)) (be_op ob_sub (be_var 4) be_int)) ba_nil))))
    (bss_cons (bs_set 9 c.nd (be_call G_plus (c.room.mono (by omega)) rfl D_plus.g D_plus.F.kp (bi_plus D_plus) (ba_v (be_var 7) (ba_v (be_var 8) ba_nil))))
    (bss_one (bs_ret (be_call G_fraction (c.room.mono (by omega)) rfl D_fraction.g D_fraction.F.kp (bi_fraction D_fraction) (ba_v (be_ix (be_var 9) be_int) (ba_v (be_op ob_mul (be_ix (be_var 9) be_int) (be_var 5)) ba_nil)))))))))
abbrev s_sum_of_digits_k44 : Stmt := topS 12
theorem sc_sum_of_digits_k44 : FnScope ["chance", "digits", "begin", "found", "power", "at", "some", "weighted", "turn", "later"] ["chance"] (defScope s_sum_of_digits_k44) := ⟨rfl, rfl, rfl, by decide +kernel, rfl, by decide +kernel, by decide +kernel⟩
theorem bi_sum_of_digits_k44 (D : Df K mg "sum_of_digits" s_sum_of_digits_k44) : Binds K D.fd ["chance"] [] := D.F.binds (ps := ["chance"]) fun _ _ _ _ _ _ us hl => match us, hl with | [_], _ => rfl
theorem ok_sum_of_digits_k44 (hs : base.NoSeer) (ht : P.given.tree = none) (D_sum_of_digits_k44 : Df K mg "sum_of_digits" s_sum_of_digits_k44) (D_digits_with_turn : Df K mg "digits_with_turn" s_digits_with_turn) (G_digits_with_turn : FnOk P w K mg base CX0 (41) D_digits_with_turn.f D_digits_with_turn.fd ["chance"] (spOf K 1 d_digits_with_turn)) (D_turns_of : Df K mg "turns_of" s_turns_of) (G_turns_of : FnOk P w K mg base CX0 (44) D_turns_of.f D_turns_of.fd ["some", "weighted", "begin", "many", "turn", "power"] (spOf K 6 d_turns_of)) (D_plus : Df K mg "plus" s_plus) (G_plus : FnOk P w K mg base CX0 (43) D_plus.f D_plus.fd ["one", "other"] (spOf K 2 d_plus)) (D_fraction : Df K mg "fraction" s_fraction) (G_fraction : FnOk P w K mg base CX0 (42) D_fraction.f D_fraction.fd ["n", "d"] (spOf K 2 d_fraction)) (n_len : mg "len" = none) (n_range : mg "range" = none) : FnOk P w K mg base CX0 (45) D_sum_of_digits_k44.f D_sum_of_digits_k44.fd ["chance"] (spOf K 1 d_sum_of_digits_k44) :=
  ok_of D_sum_of_digits_k44.F sc_sum_of_digits_k44 (by decide) hs ht fun cdv A outer s H E c =>
    (bss_cons (bs_asg (be_call G_digits_with_turn (c.room.mono (by omega)) rfl D_digits_with_turn.g D_digits_with_turn.F.kp (bi_digits_with_turn D_digits_with_turn) (ba_v (be_var 0) ba_nil)) (bg_tup c.calm (bgs_cons 1 c.nd (bgs_cons 2 c.nd bgs_nil))))
    (bss_cons (bs_asg (be_tup (bl_cons be_int (bl_cons be_int bl_nil))) (bg_tup c.calm (bgs_cons 3 c.nd (bgs_cons 4 c.nd bgs_nil))))
    (bss_cons (bs_for c.pass c.calm (bi_rng1 rfl n_range (be_var 2)) (bg_name 5 c.nd) (bss_fgt [5] (bss_cons (bs_aug 4 c.nd ob_imul be_int)
    (bss_one (bs_set 3 c.nd (be_op ob_add (be_op ob_mul be_int (be_var 3)) (be_op ob_mul (be_op ob_add (be_var 5) be_int) (be_ix (be_var 1) (be_var 5)))))))))
    (bss_cons (bs_asg (be_tup (bl_cons be_int (bl_cons be_int (bl_cons be_int bl_nil)))) (bg_tup c.calm (bgs_cons 6 c.nd (bgs_cons 7 c.nd (bgs_cons 8 c.nd bgs_nil)))))
    (bss_cons (bs_for c.pass c.calm (bi_rng2 rfl n_range (be_var 2) (be_b1 c_len rfl n_len bt_len (be_var 1))) (bg_name 5 c.nd) (bss_fgt [5] (bss_cons (bs_aug 8 c.nd ob_imul be_int)
    (bss_cons (bs_set 6 c.nd (be_op ob_add (be_op ob_mul be_int (be_var 6)) (be_ix (be_var 1) (be_var 5))))
    (bss_one (bs_set 7 c.nd (be_op ob_add (be_op ob_mul be_int (be_var 7)) (be_op ob_mul (be_op ob_sub (be_op ob_add (be_var 5) be_int) (be_var 2)) (be_ix (be_var 1) (be_var 5))))))))))
    (bss_cons (bs_set 9 c.nd (be_call G_turns_of (c.room.mono (by omega)) rfl D_turns_of.g D_turns_of.F.kp (bi_turns_of D_turns_of) (ba_v (be_call G_fraction (c.room.mono (by omega)) rfl D_fraction.g D_fraction.F.kp (bi_fraction D_fraction) (ba_v (be_var 6) (ba_v (be_var 8) ba_nil))) (ba_v (be_call G_fraction (c.room.mono (by omega)) rfl D_fraction.g D_fraction.F.kp (bi_fraction D_fraction) (ba_v (be_var 7) (ba_v (be_var 8) ba_nil))) (ba_v (be_var 2) (ba_v (be_op ob_sub (be_b1 c_len rfl n_len bt_len (be_var 1)) (be_var 2)) (ba_v (be_var 8) (ba_v (be_var 4) ba_nil))))))))
    (bss_one (bs_ret (be_call G_plus (c.room.mono (by omega)) rfl D_plus.g D_plus.F.kp (bi_plus D_plus) (ba_v (be_call G_fraction (c.room.mono (by omega)) rfl D_fraction.g D_fraction.F.kp (bi_fraction D_fraction) (ba_v (be_var 3) (ba_v (be_var 4) ba_nil))) (ba_v (be_var 9) ba_nil)))))))))))
abbrev s_fewest_tosses_k44 : Stmt := topS 14
theorem sc_fewest_tosses_k44 : FnScope ["chances", "found", "chance"] ["chances"] (defScope s_fewest_tosses_k44) := ⟨rfl, rfl, rfl, by decide +kernel, rfl, by decide +kernel, by decide +kernel⟩
theorem bi_fewest_tosses_k44 (D : Df K mg "fewest_tosses" s_fewest_tosses_k44) : Binds K D.fd ["chances"] [] := D.F.binds (ps := ["chances"]) fun _ _ _ _ _ _ us hl => match us, hl with | [_], _ => rfl
theorem ok_fewest_tosses_k44 (hs : base.NoSeer) (ht : P.given.tree = none) (D_fewest_tosses_k44 : Df K mg "fewest_tosses" s_fewest_tosses_k44) (D_plus : Df K mg "plus" s_plus) (G_plus : FnOk P w K mg base CX0 (43) D_plus.f D_plus.fd ["one", "other"] (spOf K 2 d_plus)) (D_sum_of_digits_k44 : Df K mg "sum_of_digits" s_sum_of_digits_k44) (G_sum_of_digits_k44 : FnOk P w K mg base CX0 (45) D_sum_of_digits_k44.f D_sum_of_digits_k44.fd ["chance"] (spOf K 1 d_sum_of_digits_k44)) (TNOTHING : CT K mg "NOTHING" [.int 0, .int 1]) (TONE : CT K mg "ONE" [.int 1, .int 1]) : FnOk P w K mg base CX0 (46) D_fewest_tosses_k44.f D_fewest_tosses_k44.fd ["chances"] (spOf K 1 d_fewest_tosses_k44) :=
  ok_of D_fewest_tosses_k44.F sc_fewest_tosses_k44 (by decide) hs ht fun cdv A outer s H E c =>
    (bss_cons (bs_set 1 c.nd (be_glob rfl TNOTHING.m TNOTHING.d))
    (bss_cons (bs_for c.pass c.calm (bi_seq (be_frz (be_var 0))) (bg_name 2 c.nd) (bss_fgt [2] (bss_one (bs_if (bt_cmp (ob_ne c.units) (be_var 2) (be_glob rfl TONE.m TONE.d)) (bss_one (bs_set 1 c.nd (be_call G_plus (c.room.mono (by omega)) rfl D_plus.g D_plus.F.kp (bi_plus D_plus) (ba_v (be_var 1) (ba_v (be_call G_sum_of_digits_k44 (c.room.mono (by omega)) rfl D_sum_of_digits_k44.g D_sum_of_digits_k44.F.kp (bi_sum_of_digits_k44 D_sum_of_digits_k44) (ba_v (be_var 2) ba_nil)) ba_nil))))) bss_nil))))
    (bss_one (bs_ret (be_var 1)))))
abbrev s_stops : Stmt := topS 15
theorem sc_stops : FnScope ["chances", "k", "less", "outcome"] ["chances", "k"] (defScope s_stops) := ⟨rfl, rfl, rfl, by decide +kernel, rfl, by decide +kernel, by decide +kernel⟩
theorem bi_stops (D : Df K mg "stops" s_stops) : Binds K D.fd ["chances", "k"] [] := D.F.binds (ps := ["chances", "k"]) fun _ _ _ _ _ _ us hl => match us, hl with | [_, _], _ => rfl
theorem ok_stops (hs : base.NoSeer) (ht : P.given.tree = none) (D_stops : Df K mg "stops" s_stops) (D_digit : Df K mg "digit" s_digit) (G_digit : FnOk P w K mg base CX0 (42) D_digit.f D_digit.fd ["chance", "k"] (spOf K 2 d_digit)) (n_len : mg "len" = none) (n_range : mg "range" = none) (TONE : CT K mg "ONE" [.int 1, .int 1]) : FnOk P w K mg base CX0 (43) D_stops.f D_stops.fd ["chances", "k"] (spOf K 2 d_stops) :=
  ok_of D_stops.F sc_stops (by decide) hs ht fun cdv A outer s H E c =>
    (bss_cons (bs_if (bt_cmp (ob_eq c.units) (be_var 1) be_int) (bss_one (bs_ret (be_lcN 3 [("outcome", 3)] c.calm c.nd (bi_rng1 rfl n_range (be_b1 c_len rfl n_len bt_len (be_var 0))) (blk_at (N := ["chances", "k", "less", "outcome"]) (sc := defScope s_stops) rfl rfl (by decide +kernel)) (by decide) rfl (fun _ _ _ _ _ => pg_name (i := 3) c.nd rfl (.inl rfl)) (fun _ _ _ _ _ => (bts_one (bt_cmp (ob_eq c.units) (be_ix (be_var 0) (be_var 3)) (be_glob rfl TONE.m TONE.d)))) (fun _ _ _ _ _ => (be_var 3))))) bss_nil)
    (bss_cons (bs_setLcN 2 3 [("outcome", 3)] c.calm c.nd rfl rfl (bi_rng1 rfl n_range (be_b1 c_len rfl n_len bt_len (be_var 0))) (blk_at (N := ["chances", "k", "less", "outcome"]) (sc := defScope s_stops) rfl rfl (by decide +kernel)) (by decide) rfl (sw_true rfl rfl rfl (by decide +kernel)) (fun _ _ _ _ _ => pg_name (i := 3) c.nd rfl (.inl rfl)) (fun _ _ _ _ _ => (bts_one (bt_cmp (ob_ne c.units) (be_ix (be_var 0) (be_var 3)) (be_glob rfl TONE.m TONE.d)))) (fun _ _ _ _ _ => (be_var 3)))
    (bss_one (bs_ret (be_lcN 3 [("outcome", 3)] c.calm c.nd (bi_seq (be_frz (be_var 2))) (blk_at (N := ["chances", "k", "less", "outcome"]) (sc := defScope s_stops) rfl rfl (by decide +kernel)) (by decide) rfl (fun _ _ _ _ _ => pg_name (i := 3) c.nd rfl (.inl rfl)) (fun _ _ _ _ _ => (bts_one (bt_cmp (ob_eq c.units) (be_call G_digit (c.room.mono (by omega)) rfl D_digit.g D_digit.F.kp (bi_digit D_digit) (ba_v (be_ix (be_var 0) (be_var 3)) (ba_v (be_var 1) ba_nil))) be_int))) (fun _ _ _ _ _ => (be_var 3)))))))
abbrev s_toss : Stmt := topS 16
theorem sc_toss : FnScope ["chances", "tosses", "place", "k", "there"] ["chances", "tosses"] (defScope s_toss) := ⟨rfl, rfl, rfl, by decide +kernel, rfl, by decide +kernel, by decide +kernel⟩
theorem bi_toss (D : Df K mg "toss" s_toss) : Binds K D.fd ["chances", "tosses"] [] := D.F.binds (ps := ["chances", "tosses"]) fun _ _ _ _ _ _ us hl => match us, hl with | [_, _], _ => rfl
theorem ok_toss (hs : base.NoSeer) (ht : P.given.tree = none) (D_toss : Df K mg "toss" s_toss) (D_stops : Df K mg "stops" s_stops) (G_stops : FnOk P w K mg base CX0 (43) D_stops.f D_stops.fd ["chances", "k"] (spOf K 2 d_stops)) (n_len : mg "len" = none) (n_range : mg "range" = none) : FnOk P w K mg base CX0 (44) D_toss.f D_toss.fd ["chances", "tosses"] (spOf K 2 d_toss) :=
  ok_of D_toss.F sc_toss (by decide) hs ht fun cdv A outer s H E c =>
    (bss_cons (bs_set 2 c.nd be_int)
    (bss_cons (bs_fgt [2] (bs_for c.pass c.calm (bi_rng1 rfl n_range (be_op ob_add (be_b1 c_len rfl n_len bt_len (be_var 1)) be_int)) (bg_name 3 c.nd) (bss_fgt [3, 4] (bss_cons (bs_set 2 c.nd (be_if (bt_cmp (ob_eq c.units) (be_var 3) be_int) (be_var 2) (be_op ob_add (be_op ob_mul be_int (be_var 2)) (be_ix (be_var 1) (be_op ob_sub (be_var 3) be_int)))))
    (bss_cons (bs_set 4 c.nd (be_call G_stops (c.room.mono (by omega)) rfl D_stops.g D_stops.F.kp (bi_stops D_stops) (ba_v (be_var 0) (ba_v (be_var 3) ba_nil))))
    (bss_cons (bs_if (bt_cmp ob_lt (be_var 2) (be_b1 c_len rfl n_len bt_len (be_var 4))) (bss_one (bs_ret (be_tup (bl_cons (be_ix (be_var 4) (be_var 2)) (bl_cons (be_var 3) bl_nil))))) bss_nil)
    (bss_one (bs_aug 2 c.nd ob_isub (be_b1 c_len rfl n_len bt_len (be_var 4))))))))))
    (bss_one (bs_ret be_non))))
abbrev s_still_going : Stmt := topS 17
theorem sc_still_going : FnScope ["chances", "k", "found", "step"] ["chances", "k"] (defScope s_still_going) := ⟨rfl, rfl, rfl, by decide +kernel, rfl, by decide +kernel, by decide +kernel⟩
theorem bi_still_going (D : Df K mg "still_going" s_still_going) : Binds K D.fd ["chances", "k"] [] := D.F.binds (ps := ["chances", "k"]) fun _ _ _ _ _ _ us hl => match us, hl with | [_, _], _ => rfl
theorem ok_still_going (hs : base.NoSeer) (ht : P.given.tree = none) (D_still_going : Df K mg "still_going" s_still_going) (D_stops : Df K mg "stops" s_stops) (G_stops : FnOk P w K mg base CX0 (43) D_stops.f D_stops.fd ["chances", "k"] (spOf K 2 d_stops)) (n_len : mg "len" = none) (n_range : mg "range" = none) : FnOk P w K mg base CX0 (44) D_still_going.f D_still_going.fd ["chances", "k"] (spOf K 2 d_still_going) :=
  ok_of D_still_going.F sc_still_going (by decide) hs ht fun cdv A outer s H E c =>
    (bss_cons (bs_set 2 c.nd (be_op ob_sub be_int (be_b1 c_len rfl n_len bt_len (be_call G_stops (c.room.mono (by omega)) rfl D_stops.g D_stops.F.kp (bi_stops D_stops) (ba_v (be_var 0) (ba_v be_int ba_nil))))))
    (bss_cons (bs_for c.pass c.calm (bi_rng2 rfl n_range be_int (be_op ob_add (be_var 1) be_int)) (bg_name 3 c.nd) (bss_fgt [3] (bss_one (bs_set 2 c.nd (be_op ob_sub (be_op ob_mul be_int (be_var 2)) (be_b1 c_len rfl n_len bt_len (be_call G_stops (c.room.mono (by omega)) rfl D_stops.g D_stops.F.kp (bi_stops D_stops) (ba_v (be_var 0) (ba_v (be_var 3) ba_nil)))))))))
    (bss_one (bs_ret (be_var 2)))))
abbrev s_chance_within : Stmt := topS 18
theorem sc_chance_within : FnScope ["chances", "outcome", "k", "n", "d", "power"] ["chances", "outcome", "k"] (defScope s_chance_within) := ⟨rfl, rfl, rfl, by decide +kernel, rfl, by decide +kernel, by decide +kernel⟩
theorem bi_chance_within (D : Df K mg "chance_within" s_chance_within) : Binds K D.fd ["chances", "outcome", "k"] [] := D.F.binds (ps := ["chances", "outcome", "k"]) fun _ _ _ _ _ _ us hl => match us, hl with | [_, _, _], _ => rfl
theorem ok_chance_within (hs : base.NoSeer) (ht : P.given.tree = none) (D_chance_within : Df K mg "chance_within" s_chance_within) (D_power_of_two : Df K mg "power_of_two" s_power_of_two) (G_power_of_two : FnOk P w K mg base CX0 (41) D_power_of_two.f D_power_of_two.fd ["k"] (spOf K 1 d_power_of_two)) (D_fraction : Df K mg "fraction" s_fraction) (G_fraction : FnOk P w K mg base CX0 (42) D_fraction.f D_fraction.fd ["n", "d"] (spOf K 2 d_fraction)) : FnOk P w K mg base CX0 (43) D_chance_within.f D_chance_within.fd ["chances", "outcome", "k"] (spOf K 3 d_chance_within) :=
  ok_of D_chance_within.F sc_chance_within (by decide) hs ht fun cdv A outer s H E c =>
    (bss_cons (bs_asg (be_ix (be_var 0) (be_var 1)) (bg_tup c.calm (bgs_cons 3 c.nd (bgs_cons 4 c.nd bgs_nil))))
    (bss_cons (bs_set 5 c.nd (be_call G_power_of_two (c.room.mono (by omega)) rfl D_power_of_two.g D_power_of_two.F.kp (bi_power_of_two D_power_of_two) (ba_v (be_var 2) ba_nil)))
    (bss_one (bs_ret (be_call G_fraction (c.room.mono (by omega)) rfl D_fraction.g D_fraction.F.kp (bi_fraction D_fraction) (ba_v (be_op (ob_div c.div) (be_op ob_mul (be_var 3) (be_var 5)) (be_var 4)) (ba_v (be_var 5) ba_nil)))))))
abbrev s_law_draws : Stmt := topS 20
theorem sc_law_draws : FnScope ["script", "many", "cells", "rest", "draws", "k", "at", "once", "cell"] ["script", "many"] (defScope s_law_draws) := ⟨rfl, rfl, rfl, by decide +kernel, rfl, by decide +kernel, by decide +kernel⟩
theorem bi_law_draws (D : Df K mg "_law_draws" s_law_draws) : Binds K D.fd ["script", "many"] [] := D.F.binds (ps := ["script", "many"]) fun _ _ _ _ _ _ us hl => match us, hl with | [_, _], _ => rfl
theorem ok_law_draws (hs : base.NoSeer) (ht : P.given.tree = none) (D_law_draws : Df K mg "_law_draws" s_law_draws) (n_int : mg "int" = none) (n_len : mg "len" = none) (n_list : mg "list" = none) (n_range : mg "range" = none) : FnOk P w K mg base CX0 (41) D_law_draws.f D_law_draws.fd ["script", "many"] (spOf K 2 d_law_draws) :=
  ok_of D_law_draws.F sc_law_draws (by decide) hs ht fun cdv A outer s H E c =>
    (bss_cons (bs_setLcN 2 8 [("cell", 8)] c.calm c.nd rfl rfl (bi_seq (be_frz (be_var 0))) (blk_at (N := ["script", "many", "cells", "rest", "draws", "k", "at", "once", "cell"]) (sc := defScope s_law_draws) rfl rfl (by decide +kernel)) (by decide) rfl (sw_true rfl rfl rfl (by decide +kernel)) (fun _ _ _ _ _ => pg_name (i := 8) c.nd rfl (.inl rfl)) (fun _ _ _ _ _ => bts_nil) (fun _ _ _ _ _ => (be_t1 c_int rfl n_int bt_int (be_var 8))))
    (bss_cons (bs_if (bt_cmp (ob_eq c.units) (be_b1 c_len rfl n_len bt_len (be_var 2)) be_int) (bss_one (bs_expr (be_append 2 (pv 2) be_int))) bss_nil)
    (bss_cons (bs_set 3 c.nd (be_t1 c_list rfl n_list bt_list (be_var 2)))
    (bss_cons (bs_set 4 c.nd (be_lst bl_nil))
    (bss_cons (bs_for c.pass c.calm (bi_rng1 rfl n_range (be_var 1)) (bg_name 5 c.nd) (bss_fgt [5, 6, 7] (bss_cons (bs_set 6 c.nd (be_op ob_mod (be_var 5) (be_b1 c_len rfl n_len bt_len (be_var 2))))
    (bss_one (bs_if (bt_cmp ob_ge (be_ix (be_var 2) (be_var 6)) (be_op ob_pow be_int be_int)) (bss_cons (bs_expr (be_append 4 (pv 4) (be_op ob_mod (be_t1 c_int rfl n_int bt_int (be_ix (be_var 3) (be_var 6))) be_int)))
    (bss_one (bs_setIx 3 (pv 3) (be_var 6) (be_op (ob_div c.div) (be_ix (be_var 3) (be_var 6)) be_int)))) (bss_cons (bs_set 7 c.nd (be_op ob_mod (be_t1 c_int rfl n_int bt_int (be_op ob_add (be_op ob_add (be_op ob_mul (be_ix (be_var 2) (be_var 6)) be_int) (be_op ob_mul (be_var 5) be_int)) be_int)) be_int))
    (bss_one (bs_expr (be_append 4 (pv 4) (be_op ob_mod (be_t1 c_int rfl n_int bt_int (be_op ob_add (be_op ob_add (be_op ob_mul (be_var 7) (be_var 7)) (be_op ob_mul be_int (be_var 7))) (be_var 5))) be_int))))))))))
    (bss_cons (bs_expr (be_reverse 4 (pv 4)))
    (bss_one (bs_ret (be_var 4)))))))))
abbrev s_law_take : Stmt := topS 21
theorem sc_law_take : FnScope ["draws", "many"] ["draws", "many"] (defScope s_law_take) := ⟨rfl, rfl, rfl, by decide +kernel, rfl, by decide +kernel, by decide +kernel⟩
theorem bi_law_take (D : Df K mg "_law_take" s_law_take) : Binds K D.fd ["draws", "many"] [] := D.F.binds (ps := ["draws", "many"]) fun _ _ _ _ _ _ us hl => match us, hl with | [_, _], _ => rfl
theorem ok_law_take (hs : base.NoSeer) (ht : P.given.tree = none) (D_law_take : Df K mg "_law_take" s_law_take) (n_int : mg "int" = none) (n_len : mg "len" = none) : FnOk P w K mg base CX0 (41) D_law_take.f D_law_take.fd ["draws", "many"] (spOf K 2 d_law_take) :=
  ok_of D_law_take.F sc_law_take (by decide) hs ht fun cdv A outer s H E c =>
    (bss_cons (bs_if (bt_cmp (ob_eq c.units) (be_b1 c_len rfl n_len bt_len (be_var 0)) be_int) (bss_one (bs_ret be_int)) bss_nil)
    (bss_one (bs_ret (be_op ob_mod (be_t1 c_int rfl n_int bt_int (be_pop 0 (pv 0))) (be_var 1)))))
abbrev s_law_same : Stmt := topS 22
theorem sc_law_same : FnScope ["actual", "due", "k"] ["actual", "due"] (defScope s_law_same) := ⟨rfl, rfl, rfl, by decide +kernel, rfl, by decide +kernel, by decide +kernel⟩
theorem bi_law_same (D : Df K mg "_law_same" s_law_same) : Binds K D.fd ["actual", "due"] [] := D.F.binds (ps := ["actual", "due"]) fun _ _ _ _ _ _ us hl => match us, hl with | [_, _], _ => rfl
theorem ok_law_same (hs : base.NoSeer) (ht : P.given.tree = none) (D_law_same : Df K mg "_law_same" s_law_same) (n_bool : mg "bool" = none) (n_int : mg "int" = none) (n_isinstance : mg "isinstance" = none) (n_len : mg "len" = none) (n_range : mg "range" = none) (n_str : mg "str" = none) (n_tuple : mg "tuple" = none) : ∀ n : Nat, FnOk P w K mg base CX0 (40 + n) D_law_same.f D_law_same.fd ["actual", "due"] (spOf K 2 (d_law_same n))
  | 0 => ok_none rfl
  | n + 1 => by
    have G_law_same := ok_law_same hs ht D_law_same n_bool n_int n_isinstance n_len n_range n_str n_tuple n
    exact ok_of (k := 40 + n) D_law_same.F sc_law_same (by omega) hs ht fun cdv A outer s H E c =>
    (bss_cons (bs_if (bt_cmp ob_is (be_var 1) be_non) (bss_one (bs_ret (be_cmp ob_is (be_var 0) be_non))) bss_nil)
    (bss_cons (bs_if (bt_tru (be_isi .bool rfl n_isinstance bt_isinstance rfl n_bool bt_bool (be_var 1))) (bss_one (bs_ret (be_and (be_isi .bool rfl n_isinstance bt_isinstance rfl n_bool bt_bool (be_var 0)) (be_one (be_cmp (ob_eq c.units) (be_var 0) (be_var 1)))))) bss_nil)
    (bss_cons (bs_if (bt_tru (be_isi .int rfl n_isinstance bt_isinstance rfl n_int bt_int (be_var 1))) (bss_one (bs_ret (be_and (be_isi .int rfl n_isinstance bt_isinstance rfl n_int bt_int (be_var 0)) (be_and (be_not (be_isi .bool rfl n_isinstance bt_isinstance rfl n_bool bt_bool (be_var 0))) (be_one (be_cmp (ob_eq c.units) (be_var 0) (be_var 1))))))) bss_nil)
    (bss_cons (bs_if (bt_tru (be_isi .str rfl n_isinstance bt_isinstance rfl n_str bt_str (be_var 1))) (bss_one (bs_ret (be_and (be_isi .str rfl n_isinstance bt_isinstance rfl n_str bt_str (be_var 0)) (be_one (be_cmp (ob_eq c.units) (be_var 0) (be_var 1)))))) bss_nil)
    (bss_cons (bs_if (bt_w (bw_or (bt_not (bt_tru (be_isi .tuple rfl n_isinstance bt_isinstance rfl n_tuple bt_tuple (be_var 0)))) (bw_or1 (bt_cmp (ob_ne c.units) (be_b1 c_len rfl n_len bt_len (be_var 0)) (be_b1 c_len rfl n_len bt_len (be_var 1)))))) (bss_one (bs_ret be_bl)) bss_nil)
    (bss_cons (bs_for c.pass c.calm (bi_rng1 rfl n_range (be_b1 c_len rfl n_len bt_len (be_var 1))) (bg_name 2 c.nd) (bss_fgt [2] (bss_one (bs_if (bt_not (bt_tru (be_call G_law_same c.room rfl D_law_same.g D_law_same.F.kp (bi_law_same D_law_same) (ba_v (be_ix (be_var 0) (be_var 2)) (ba_v (be_ix (be_var 1) (be_var 2)) ba_nil))))) (bss_one (bs_ret be_bl)) bss_nil))))
    (bss_one (bs_ret be_bl))))))))
abbrev s_law_common : Stmt := topS 23
theorem sc_law_common : FnScope ["one", "other"] ["one", "other"] (defScope s_law_common) := ⟨rfl, rfl, rfl, by decide +kernel, rfl, by decide +kernel, by decide +kernel⟩
theorem bi_law_common (D : Df K mg "_law_common" s_law_common) : Binds K D.fd ["one", "other"] [] := D.F.binds (ps := ["one", "other"]) fun _ _ _ _ _ _ us hl => match us, hl with | [_, _], _ => rfl
theorem ok_law_common (hs : base.NoSeer) (ht : P.given.tree = none) (D_law_common : Df K mg "_law_common" s_law_common) (n_abs : mg "abs" = none) (n_int : mg "int" = none) : FnOk P w K mg base CX0 (41) D_law_common.f D_law_common.fd ["one", "other"] (spOf K 2 d_law_common) :=
  ok_of D_law_common.F sc_law_common (by decide) hs ht fun cdv A outer s H E c =>
    (bss_cons (bs_par 0 1 c.calm c.nd (be_b1 c_abs rfl n_abs bt_abs (be_var 0)) (be_b1 c_abs rfl n_abs bt_abs (be_var 1)))
    (bss_cons (bs_fgt [1] (bs_while c.pass (bt_cmp ob_gt (be_var 1) be_int) (bss_fgt [] (bss_one (bs_par 0 1 c.calm c.nd (be_var 1) (be_op ob_mod (be_t1 c_int rfl n_int bt_int (be_var 0)) (be_var 1)))))))
    (bss_one (bs_ret (be_var 0)))))
abbrev s_law_fraction : Stmt := topS 24
theorem sc_law_fraction : FnScope ["n", "d", "common"] ["n", "d"] (defScope s_law_fraction) := ⟨rfl, rfl, rfl, by decide +kernel, rfl, by decide +kernel, by decide +kernel⟩
theorem bi_law_fraction (D : Df K mg "_law_fraction" s_law_fraction) : Binds K D.fd ["n", "d"] [] := D.F.binds (ps := ["n", "d"]) fun _ _ _ _ _ _ us hl => match us, hl with | [_, _], _ => rfl
theorem ok_law_fraction (hs : base.NoSeer) (ht : P.given.tree = none) (D_law_fraction : Df K mg "_law_fraction" s_law_fraction) (D_law_common : Df K mg "_law_common" s_law_common) (G_law_common : FnOk P w K mg base CX0 (41) D_law_common.f D_law_common.fd ["one", "other"] (spOf K 2 d_law_common)) : FnOk P w K mg base CX0 (42) D_law_fraction.f D_law_fraction.fd ["n", "d"] (spOf K 2 d_law_fraction) :=
  ok_of D_law_fraction.F sc_law_fraction (by decide) hs ht fun cdv A outer s H E c =>
    (bss_cons (bs_set 2 c.nd (be_call G_law_common (c.room.mono (by omega)) rfl D_law_common.g D_law_common.F.kp (bi_law_common D_law_common) (ba_v (be_var 0) (ba_v (be_var 1) ba_nil))))
    (bss_cons (bs_if (bt_cmp ob_lt (be_var 1) be_int) (bss_one (bs_set 2 c.nd (be_neg (be_var 2)))) bss_nil)
    (bss_one (bs_ret (be_tup (bl_cons (be_op (ob_div c.div) (be_var 0) (be_var 2)) (bl_cons (be_op (ob_div c.div) (be_var 1) (be_var 2)) bl_nil)))))))
abbrev s_law_rests : Stmt := topS 25
theorem sc_law_rests : FnScope ["n", "d", "found", "places", "rest", "k"] ["n", "d"] (defScope s_law_rests) := ⟨rfl, rfl, rfl, by decide +kernel, rfl, by decide +kernel, by decide +kernel⟩
theorem bi_law_rests (D : Df K mg "_law_rests" s_law_rests) : Binds K D.fd ["n", "d"] [] := D.F.binds (ps := ["n", "d"]) fun _ _ _ _ _ _ us hl => match us, hl with | [_, _], _ => rfl
theorem ok_law_rests (hs : base.NoSeer) (ht : P.given.tree = none) (D_law_rests : Df K mg "_law_rests" s_law_rests) (n_int : mg "int" = none) (n_range : mg "range" = none) : FnOk P w K mg base CX0 (41) D_law_rests.f D_law_rests.fd ["n", "d"] (spOf K 2 d_law_rests) :=
  ok_of D_law_rests.F sc_law_rests (by decide) hs ht fun cdv A outer s H E c =>
    (bss_cons (bs_set 2 c.nd (be_lst bl_nil))
    (bss_cons (bs_set 3 c.nd be_dct0)
    (bss_cons (bs_set 4 c.nd (be_var 0))
    (bss_cons (bs_for c.pass c.calm (bi_rng1 rfl n_range (be_op ob_add (be_var 1) be_int)) (bg_name 5 c.nd) (bss_fgt [5] (bss_cons (bs_if (bt_din c.units (be_var 4) (be_var 3)) (bss_one bs_brk) bss_nil)
    (bss_cons (bs_dput 3 c.units (pv 3) (be_var 4) (be_var 5))
    (bss_cons (bs_expr (be_append 2 (pv 2) (be_var 4)))
    (bss_one (bs_set 4 c.nd (be_op ob_mod (be_t1 c_int rfl n_int bt_int (be_op ob_mul be_int (be_var 4))) (be_var 1)))))))))
    (bss_one (bs_ret (be_tup (bl_cons (be_var 2) (bl_cons (be_dget c.units (be_var 3) (be_var 4)) bl_nil)))))))))
abbrev s_law_denominator : Stmt := topS 26
theorem sc_law_denominator : FnScope ["draws", "kind"] ["draws"] (defScope s_law_denominator) := ⟨rfl, rfl, rfl, by decide +kernel, rfl, by decide +kernel, by decide +kernel⟩
theorem bi_law_denominator (D : Df K mg "_law_denominator" s_law_denominator) : Binds K D.fd ["draws"] [] := D.F.binds (ps := ["draws"]) fun _ _ _ _ _ _ us hl => match us, hl with | [_], _ => rfl
theorem ok_law_denominator (hs : base.NoSeer) (ht : P.given.tree = none) (D_law_denominator : Df K mg "_law_denominator" s_law_denominator) (D_law_take : Df K mg "_law_take" s_law_take) (G_law_take : FnOk P w K mg base CX0 (41) D_law_take.f D_law_take.fd ["draws", "many"] (spOf K 2 d_law_take)) : FnOk P w K mg base CX0 (42) D_law_denominator.f D_law_denominator.fd ["draws"] (spOf K 1 d_law_denominator) :=
  ok_of D_law_denominator.F sc_law_denominator (by decide) hs ht fun cdv A outer s H E c =>
    (bss_cons (bs_set 1 c.nd (be_call G_law_take (c.room.mono (by omega)) rfl D_law_take.g D_law_take.F.kp (bi_law_take D_law_take) (ba_r 0 (pv 0) (ba_v be_int ba_nil))))
    (bss_cons (bs_if (bt_cmp ob_lt (be_var 1) be_int) (bss_one (bs_ret (be_op ob_add be_int (be_call G_law_take (c.room.mono (by omega)) rfl D_law_take.g D_law_take.F.kp (bi_law_take D_law_take) (ba_r 0 (pv 0) (ba_v be_int ba_nil)))))) bss_nil)
    (bss_cons (bs_if (bt_cmp (ob_eq c.units) (be_var 1) be_int) (bss_one (bs_ret (be_ix (be_lst (bl_cons be_int (bl_cons be_int (bl_cons be_int (bl_cons be_int (bl_cons be_int (bl_cons be_int (bl_cons be_int (bl_cons be_int bl_nil))))))))) (be_call G_law_take (c.room.mono (by omega)) rfl D_law_take.g D_law_take.F.kp (bi_law_take D_law_take) (ba_r 0 (pv 0) (ba_v be_int ba_nil)))))) bss_nil)
    (bss_cons (bs_if (bt_cmp (ob_eq c.units) (be_var 1) be_int) (bss_one (bs_ret (be_ix (be_lst (bl_cons be_int (bl_cons be_int (bl_cons be_int (bl_cons be_int (bl_cons be_int (bl_cons be_int (bl_cons be_int (bl_cons be_int bl_nil))))))))) (be_call G_law_take (c.room.mono (by omega)) rfl D_law_take.g D_law_take.F.kp (bi_law_take D_law_take) (ba_r 0 (pv 0) (ba_v be_int ba_nil)))))) bss_nil)
    (bss_one (bs_ret (be_op ob_add be_int (be_call G_law_take (c.room.mono (by omega)) rfl D_law_take.g D_law_take.F.kp (bi_law_take D_law_take) (ba_r 0 (pv 0) (ba_v (be_ix (be_lst (bl_cons be_int (bl_cons be_int (bl_cons be_int bl_nil)))) (be_call G_law_take (c.room.mono (by omega)) rfl D_law_take.g D_law_take.F.kp (bi_law_take D_law_take) (ba_r 0 (pv 0) (ba_v be_int ba_nil)))) ba_nil))))))))))
abbrev s_law_chances_2 : Stmt := topS 27
theorem sc_law_chances_2 : FnScope ["draws", "d", "many", "cuts", "k"] ["draws", "d", "many"] (defScope s_law_chances_2) := ⟨rfl, rfl, rfl, by decide +kernel, rfl, by decide +kernel, by decide +kernel⟩
theorem bi_law_chances_2 (D : Df K mg "_law_chances" s_law_chances_2) : Binds K D.fd ["draws", "d", "many"] [] := D.F.binds (ps := ["draws", "d", "many"]) fun _ _ _ _ _ _ us hl => match us, hl with | [_, _, _], _ => rfl
theorem ok_law_chances_2 (hs : base.NoSeer) (ht : P.given.tree = none) (D_law_chances_2 : Df K mg "_law_chances" s_law_chances_2) (D_law_take : Df K mg "_law_take" s_law_take) (G_law_take : FnOk P w K mg base CX0 (41) D_law_take.f D_law_take.fd ["draws", "many"] (spOf K 2 d_law_take)) (D_law_fraction : Df K mg "_law_fraction" s_law_fraction) (G_law_fraction : FnOk P w K mg base CX0 (42) D_law_fraction.f D_law_fraction.fd ["n", "d"] (spOf K 2 d_law_fraction)) (n_range : mg "range" = none) (n_sorted : mg "sorted" = none) (n_tuple : mg "tuple" = none) : FnOk P w K mg base CX0 (43) D_law_chances_2.f D_law_chances_2.fd ["draws", "d", "many"] (spOf K 3 d_law_chances_2) :=
  ok_of D_law_chances_2.F sc_law_chances_2 (by decide) hs ht fun cdv A outer s H E c =>
    (bss_cons (bs_set 3 c.nd (be_b1 c_sorted rfl n_sorted bt_sorted (be_lcN 4 [("k", 4)] c.calm c.nd (bi_rng1 rfl n_range (be_op ob_sub (be_var 2) be_int)) (blk_at (N := ["draws", "d", "many", "cuts", "k"]) (sc := defScope s_law_chances_2) rfl rfl (by decide +kernel)) (by decide) rfl (fun _ _ _ _ _ => pg_name (i := 4) c.nd rfl (.inl rfl)) (fun _ _ _ _ _ => bts_nil) (fun _ _ _ _ _ => (be_call G_law_take (c.room.mono (by omega)) rfl D_law_take.g D_law_take.F.kp (bi_law_take D_law_take) (ba_r 0 (pv 0) (ba_v (be_op ob_add (be_var 1) be_int) ba_nil)))))))
    (bss_cons (bs_set 3 c.nd (be_op ob_add (be_op ob_add (be_lst (bl_cons be_int bl_nil)) (be_var 3)) (be_lst (bl_cons (be_var 1) bl_nil))))
    (bss_one (bs_ret (be_t1 c_tuple rfl n_tuple bt_tuple (be_lcN 4 [("k", 4)] c.calm c.nd (bi_rng1 rfl n_range (be_var 2)) (blk_at (N := ["draws", "d", "many", "cuts", "k"]) (sc := defScope s_law_chances_2) rfl rfl (by decide +kernel)) (by decide) rfl (fun _ _ _ _ _ => pg_name (i := 4) c.nd rfl (.inl rfl)) (fun _ _ _ _ _ => bts_nil) (fun _ _ _ _ _ => (be_call G_law_fraction (c.room.mono (by omega)) rfl D_law_fraction.g D_law_fraction.F.kp (bi_law_fraction D_law_fraction) (ba_v (be_op ob_sub (be_ix (be_var 3) (be_op ob_add (be_var 4) be_int)) (be_ix (be_var 3) (be_var 4))) (ba_v (be_var 1) ba_nil))))))))))
abbrev s_law_mean_k44 : Stmt := topS 28
theorem sc_law_mean_k44 : FnScope ["n", "d", "rests", "begin", "ahead", "power", "at", "once", "turn"] ["n", "d"] (defScope s_law_mean_k44) := ⟨rfl, rfl, rfl, by decide +kernel, rfl, by decide +kernel, by decide +kernel⟩
theorem bi_law_mean_k44 (D : Df K mg "_law_mean" s_law_mean_k44) : Binds K D.fd ["n", "d"] [] := D.F.binds (ps := ["n", "d"]) fun _ _ _ _ _ _ us hl => match us, hl with | [_, _], _ => rfl
theorem ok_law_mean_k44 (hs : base.NoSeer) (ht : P.given.tree = none) (D_law_mean_k44 : Df K mg "_law_mean" s_law_mean_k44) (D_law_rests : Df K mg "_law_rests" s_law_rests) (G_law_rests : FnOk P w K mg base CX0 (41) D_law_rests.f D_law_rests.fd ["n", "d"] (spOf K 2 d_law_rests)) (n_len : mg "len" = none) (n_range : mg "range" = none) : FnOk P w K mg base CX0 (42) D_law_mean_k44.f D_law_mean_k44.fd ["n", "d"] (spOf K 2 d_law_mean_k44) :=
  ok_of D_law_mean_k44.F sc_law_mean_k44 (by decide) hs ht fun cdv A outer s H E c =>
    (bss_cons (bs_asg (be_call G_law_rests (c.room.mono (by omega)) rfl D_law_rests.g D_law_rests.F.kp (bi_law_rests D_law_rests) (ba_v (be_var 0) (ba_v (be_var 1) ba_nil))) (bg_tup c.calm (bgs_cons 2 c.nd (bgs_cons 3 c.nd bgs_nil))))
    (bss_cons (bs_set 4 c.nd be_int)
    (bss_cons (bs_set 5 c.nd be_int)
    (bss_cons (bs_for c.pass c.calm (bi_rng1 rfl n_range (be_var 3)) (bg_name 6 c.nd) (bss_fgt [6] (bss_cons (bs_set 4 c.nd (be_op ob_add (be_op ob_mul be_int (be_var 4)) (be_ix (be_var 2) (be_var 6))))
    (bss_one (bs_set 5 c.nd (be_op ob_mul be_int (be_var 5)))))))
    (bss_cons (bs_set 7 c.nd be_int)
    (bss_cons (bs_set 8 c.nd be_int)
    (bss_cons (bs_for c.pass c.calm (bi_rng2 rfl n_range (be_var 3) (be_b1 c_len rfl n_len bt_len (be_var 2))) (bg_name 6 c.nd) (bss_fgt [6] (bss_cons (bs_set 7 c.nd (be_op ob_add (be_op ob_mul be_int (be_var 7)) (be_ix (be_var 2) (be_var 6))))
    (bss_one (bs_set 8 c.nd (be_op ob_mul be_int (be_var 8)))))))
    (bss_one (bs_ret (be_tup (bl_cons (be_op ob_mul be_int (be_op ob_add (be_op ob_mul (be_var 4) (be_op ob_sub (be_var 8) be_int)) (be_var 7))) (bl_cons (be_op ob_mul (be_op ob_mul (be_var 1) (be_var 5)) (be_op ob_sub (be_var 8) be_int)) bl_nil))))))))))))
abbrev s_law_is_sum : Stmt := topS 29
theorem sc_law_is_sum : FnScope ["told", "parts", "number", "n", "d", "top", "bottom"] ["told", "parts"] (defScope s_law_is_sum) := ⟨rfl, rfl, rfl, by decide +kernel, rfl, by decide +kernel, by decide +kernel⟩
theorem bi_law_is_sum (D : Df K mg "_law_is_sum" s_law_is_sum) : Binds K D.fd ["told", "parts"] [] := D.F.binds (ps := ["told", "parts"]) fun _ _ _ _ _ _ us hl => match us, hl with | [_, _], _ => rfl
theorem ok_law_is_sum (hs : base.NoSeer) (ht : P.given.tree = none) (D_law_is_sum : Df K mg "_law_is_sum" s_law_is_sum) (D_law_common : Df K mg "_law_common" s_law_common) (G_law_common : FnOk P w K mg base CX0 (41) D_law_common.f D_law_common.fd ["one", "other"] (spOf K 2 d_law_common)) (n_bool : mg "bool" = none) (n_int : mg "int" = none) (n_isinstance : mg "isinstance" = none) (n_len : mg "len" = none) (n_tuple : mg "tuple" = none) : FnOk P w K mg base CX0 (42) D_law_is_sum.f D_law_is_sum.fd ["told", "parts"] (spOf K 2 d_law_is_sum) :=
  ok_of D_law_is_sum.F sc_law_is_sum (by decide) hs ht fun cdv A outer s H E c =>
    (bss_cons (bs_if (bt_w (bw_or (bt_not (bt_tru (be_isi .tuple rfl n_isinstance bt_isinstance rfl n_tuple bt_tuple (be_var 0)))) (bw_or1 (bt_cmp (ob_ne c.units) (be_b1 c_len rfl n_len bt_len (be_var 0)) be_int)))) (bss_one (bs_ret be_bl)) bss_nil)
    (bss_cons (bs_for c.pass c.calm (bi_seq (be_frz (be_var 0))) (bg_name 2 c.nd) (bss_fgt [2] (bss_one (bs_if (bt_w (bw_or (bt_not (bt_tru (be_isi .int rfl n_isinstance bt_isinstance rfl n_int bt_int (be_var 2)))) (bw_or1 (bt_tru (be_isi .bool rfl n_isinstance bt_isinstance rfl n_bool bt_bool (be_var 2)))))) (bss_one (bs_ret be_bl)) bss_nil))))
    (bss_cons (bs_set 3 c.nd be_int)
    (bss_cons (bs_set 4 c.nd be_int)
    (bss_cons (bs_for c.pass c.calm (bi_seq (be_frz (be_var 1))) (bg_tup c.calm (bgs_cons 5 c.nd (bgs_cons 6 c.nd bgs_nil))) (bss_fgt [5, 6] (bss_one (bs_if (bt_cmp (ob_eq c.units) (be_var 6) (be_var 4)) (bss_one (bs_set 3 c.nd (be_op ob_add (be_var 3) (be_var 5)))) (bss_cons (bs_set 3 c.nd (be_op ob_add (be_op ob_mul (be_var 3) (be_var 6)) (be_op ob_mul (be_var 5) (be_var 4))))
    (bss_one (bs_set 4 c.nd (be_op ob_mul (be_var 4) (be_var 6)))))))))
    (bss_one (bs_ret (be_and (be_cmp ob_gt (be_ix (be_var 0) be_int) be_int) (be_and (be_cmp (ob_eq c.units) (be_op ob_mul (be_ix (be_var 0) be_int) (be_var 4)) (be_op ob_mul (be_var 3) (be_ix (be_var 0) be_int))) (be_one (be_cmp (ob_eq c.units) (be_call G_law_common (c.room.mono (by omega)) rfl D_law_common.g D_law_common.F.kp (bi_law_common D_law_common) (ba_v (be_ix (be_var 0) be_int) (ba_v (be_ix (be_var 0) be_int) ba_nil))) be_int)))))))))))
abbrev s_law_rows_k47 : Stmt := topS 30
theorem sc_law_rows_k47 : FnScope ["many", "rows", "k", "longer", "row"] ["many"] (defScope s_law_rows_k47) := ⟨rfl, rfl, rfl, by decide +kernel, rfl, by decide +kernel, by decide +kernel⟩
theorem bi_law_rows_k47 (D : Df K mg "_law_rows" s_law_rows_k47) : Binds K D.fd ["many"] [] := D.F.binds (ps := ["many"]) fun _ _ _ _ _ _ us hl => match us, hl with | [_], _ => rfl
theorem ok_law_rows_k47 (hs : base.NoSeer) (ht : P.given.tree = none) (D_law_rows_k47 : Df K mg "_law_rows" s_law_rows_k47) (n_range : mg "range" = none) : FnOk P w K mg base CX0 (41) D_law_rows_k47.f D_law_rows_k47.fd ["many"] (spOf K 1 d_law_rows_k47) :=
  ok_of D_law_rows_k47.F sc_law_rows_k47 (by decide) hs ht fun cdv A outer s H E c =>
    (bss_cons (bs_set 1 c.nd (be_lst (bl_cons (be_tup bl_nil) bl_nil)))
    (bss_cons (bs_for c.pass c.calm (bi_rng1 rfl n_range (be_var 0)) (bg_name 2 c.nd) (bss_fgt [2, 3, 4] (bss_cons (bs_set 3 c.nd (be_lst bl_nil))
    (bss_cons (bs_for c.pass c.calm (bi_seq (be_frz (be_var 1))) (bg_name 4 c.nd) (bss_fgt [4] (bss_cons (bs_expr (be_append 3 (pv 3) (be_op ob_add (be_var 4) (be_tup (bl_cons be_int bl_nil)))))
    (bss_one (bs_expr (be_append 3 (pv 3) (be_op ob_add (be_var 4) (be_tup (bl_cons be_int bl_nil)))))))))
    (bss_one (bs_set 1 c.nd (be_var 3)))))))
    (bss_one (bs_ret (be_var 1)))))
abbrev s_law_is_stop : Stmt := topS 31
theorem sc_law_is_stop : FnScope ["chances", "row", "told", "number", "outcome", "many"] ["chances", "row", "told"] (defScope s_law_is_stop) := ⟨rfl, rfl, rfl, by decide +kernel, rfl, by decide +kernel, by decide +kernel⟩
theorem bi_law_is_stop (D : Df K mg "_law_is_stop" s_law_is_stop) : Binds K D.fd ["chances", "row", "told"] [] := D.F.binds (ps := ["chances", "row", "told"]) fun _ _ _ _ _ _ us hl => match us, hl with | [_, _, _], _ => rfl
theorem ok_law_is_stop (hs : base.NoSeer) (ht : P.given.tree = none) (D_law_is_stop : Df K mg "_law_is_stop" s_law_is_stop) (D_law_same : Df K mg "_law_same" s_law_same) (G_law_same : FnOk P w K mg base CX0 (80) D_law_same.f D_law_same.fd ["actual", "due"] (spOf K 2 (d_law_same 40))) (D_toss : Df K mg "toss" s_toss) (G_toss : FnOk P w K mg base CX0 (44) D_toss.f D_toss.fd ["chances", "tosses"] (spOf K 2 d_toss)) (n_bool : mg "bool" = none) (n_int : mg "int" = none) (n_isinstance : mg "isinstance" = none) (n_len : mg "len" = none) (n_tuple : mg "tuple" = none) : FnOk P w K mg base CX0 (81) D_law_is_stop.f D_law_is_stop.fd ["chances", "row", "told"] (spOf K 3 d_law_is_stop) :=
  ok_of D_law_is_stop.F sc_law_is_stop (by decide) hs ht fun cdv A outer s H E c =>
    (bss_cons (bs_if (bt_w (bw_or (bt_not (bt_tru (be_isi .tuple rfl n_isinstance bt_isinstance rfl n_tuple bt_tuple (be_var 2)))) (bw_or1 (bt_cmp (ob_ne c.units) (be_b1 c_len rfl n_len bt_len (be_var 2)) be_int)))) (bss_one (bs_ret be_bl)) bss_nil)
    (bss_cons (bs_for c.pass c.calm (bi_seq (be_frz (be_var 2))) (bg_name 3 c.nd) (bss_fgt [3] (bss_one (bs_if (bt_w (bw_or (bt_not (bt_tru (be_isi .int rfl n_isinstance bt_isinstance rfl n_int bt_int (be_var 3)))) (bw_or1 (bt_tru (be_isi .bool rfl n_isinstance bt_isinstance rfl n_bool bt_bool (be_var 3)))))) (bss_one (bs_ret be_bl)) bss_nil))))
    (bss_cons (bs_asg (be_var 2) (bg_tup c.calm (bgs_cons 4 c.nd (bgs_cons 5 c.nd bgs_nil))))
    (bss_cons (bs_if (bt_w (bw_or (bt_not (bt_chain ob_le ob_lt be_int (be_var 4) (be_b1 c_len rfl n_len bt_len (be_var 0)))) (bw_or1 (bt_not (bt_chain ob_le ob_le be_int (be_var 5) (be_b1 c_len rfl n_len bt_len (be_var 1))))))) (bss_one (bs_ret be_bl)) bss_nil)
    (bss_cons (bs_if (bt_not (bt_tru (be_call G_law_same (c.room.mono (by omega)) rfl D_law_same.g D_law_same.F.kp (bi_law_same D_law_same) (ba_v (be_call G_toss (c.room.mono (by omega)) rfl D_toss.g D_toss.F.kp (bi_toss D_toss) (ba_v (be_var 0) (ba_v (be_sl (be_var 1) bo_none (bo_some (be_var 5))) ba_nil))) (ba_v (be_tup (bl_cons (be_var 4) (bl_cons (be_var 5) bl_nil))) ba_nil))))) (bss_one (bs_ret be_bl)) bss_nil)
    (bss_one (bs_ret (be_or (be_cmp (ob_eq c.units) (be_var 5) be_int) (be_one (be_cmp ob_is (be_call G_toss (c.room.mono (by omega)) rfl D_toss.g D_toss.F.kp (bi_toss D_toss) (ba_v (be_var 0) (ba_v (be_sl (be_var 1) bo_none (bo_some (be_op ob_sub (be_var 5) be_int))) ba_nil))) be_non))))))))))
abbrev s_law_counts_are_right : Stmt := topS 32
theorem sc_law_counts_are_right : FnScope ["chances", "counts", "power", "k", "outcome", "n", "d", "lacking"] ["chances", "counts", "power", "k"] (defScope s_law_counts_are_right) := ⟨rfl, rfl, rfl, by decide +kernel, rfl, by decide +kernel, by decide +kernel⟩
theorem bi_law_counts_are_right (D : Df K mg "_law_counts_are_right" s_law_counts_are_right) : Binds K D.fd ["chances", "counts", "power", "k"] [] := D.F.binds (ps := ["chances", "counts", "power", "k"]) fun _ _ _ _ _ _ us hl => match us, hl with | [_, _, _, _], _ => rfl
theorem ok_law_counts_are_right (hs : base.NoSeer) (ht : P.given.tree = none) (D_law_counts_are_right : Df K mg "_law_counts_are_right" s_law_counts_are_right) (D_law_same : Df K mg "_law_same" s_law_same) (G_law_same : FnOk P w K mg base CX0 (80) D_law_same.f D_law_same.fd ["actual", "due"] (spOf K 2 (d_law_same 40))) (D_still_going : Df K mg "still_going" s_still_going) (G_still_going : FnOk P w K mg base CX0 (44) D_still_going.f D_still_going.fd ["chances", "k"] (spOf K 2 d_still_going)) (D_chance_within : Df K mg "chance_within" s_chance_within) (G_chance_within : FnOk P w K mg base CX0 (43) D_chance_within.f D_chance_within.fd ["chances", "outcome", "k"] (spOf K 3 d_chance_within)) (D_law_fraction : Df K mg "_law_fraction" s_law_fraction) (G_law_fraction : FnOk P w K mg base CX0 (42) D_law_fraction.f D_law_fraction.fd ["n", "d"] (spOf K 2 d_law_fraction)) (n_len : mg "len" = none) (n_range : mg "range" = none) (n_sum : mg "sum" = none) : FnOk P w K mg base CX0 (81) D_law_counts_are_right.f D_law_counts_are_right.fd ["chances", "counts", "power", "k"] (spOf K 4 d_law_counts_are_right) :=
  ok_of D_law_counts_are_right.F sc_law_counts_are_right (by decide) hs ht fun cdv A outer s H E c =>
    (bss_cons (bs_for c.pass c.calm (bi_rng1 rfl n_range (be_b1 c_len rfl n_len bt_len (be_var 0))) (bg_name 4 c.nd) (bss_fgt [4, 5, 6, 7] (bss_cons (bs_asg (be_ix (be_var 0) (be_var 4)) (bg_tup c.calm (bgs_cons 5 c.nd (bgs_cons 6 c.nd bgs_nil))))
    (bss_cons (bs_set 7 c.nd (be_op ob_sub (be_op ob_mul (be_var 5) (be_var 2)) (be_op ob_mul (be_ix (be_var 1) (be_var 4)) (be_var 6))))
    (bss_cons (bs_if (bt_w (bw_or (bt_cmp ob_lt (be_var 7) be_int) (bw_or1 (bt_cmp ob_ge (be_var 7) (be_var 6))))) (bss_one (bs_ret be_bl)) bss_nil)
    (bss_one (bs_if (bt_not (bt_tru (be_call G_law_same (c.room.mono (by omega)) rfl D_law_same.g D_law_same.F.kp (bi_law_same D_law_same) (ba_v (be_call G_chance_within (c.room.mono (by omega)) rfl D_chance_within.g D_chance_within.F.kp (bi_chance_within D_chance_within) (ba_v (be_var 0) (ba_v (be_var 4) (ba_v (be_var 3) ba_nil)))) (ba_v (be_call G_law_fraction (c.room.mono (by omega)) rfl D_law_fraction.g D_law_fraction.F.kp (bi_law_fraction D_law_fraction) (ba_v (be_ix (be_var 1) (be_var 4)) (ba_v (be_var 2) ba_nil))) ba_nil))))) (bss_one (bs_ret be_bl)) bss_nil)))))))
    (bss_one (bs_ret (be_call G_law_same (c.room.mono (by omega)) rfl D_law_same.g D_law_same.F.kp (bi_law_same D_law_same) (ba_v (be_call G_still_going (c.room.mono (by omega)) rfl D_still_going.g D_still_going.F.kp (bi_still_going D_still_going) (ba_v (be_var 0) (ba_v (be_var 3) ba_nil))) (ba_v (be_op ob_sub (be_var 2) (be_b1 (c_sum c.calm) rfl n_sum bt_sum (be_var 1))) ba_nil))))))
abbrev s_law_right_k47_2 : Stmt := topS 33
theorem sc_law_right_k47_2 : FnScope ["chances", "k", "counts", "tosses_read", "row", "power", "fewest", "parts", "outcome", "told", "n", "d", "mean", "chance"] ["chances", "k"] (defScope s_law_right_k47_2) := ⟨rfl, rfl, rfl, by decide +kernel, rfl, by decide +kernel, by decide +kernel⟩
theorem bi_law_right_k47_2 (D : Df K mg "_law_right" s_law_right_k47_2) : Binds K D.fd ["chances", "k"] [] := D.F.binds (ps := ["chances", "k"]) fun _ _ _ _ _ _ us hl => match us, hl with | [_, _], _ => rfl
theorem ok_law_right_k47_2 (hs : base.NoSeer) (ht : P.given.tree = none) (D_law_right_k47_2 : Df K mg "_law_right" s_law_right_k47_2) (D_law_rows_k47 : Df K mg "_law_rows" s_law_rows_k47) (G_law_rows_k47 : FnOk P w K mg base CX0 (41) D_law_rows_k47.f D_law_rows_k47.fd ["many"] (spOf K 1 d_law_rows_k47)) (D_fewest_tosses_k44 : Df K mg "fewest_tosses" s_fewest_tosses_k44) (G_fewest_tosses_k44 : FnOk P w K mg base CX0 (46) D_fewest_tosses_k44.f D_fewest_tosses_k44.fd ["chances"] (spOf K 1 d_fewest_tosses_k44)) (D_toss : Df K mg "toss" s_toss) (G_toss : FnOk P w K mg base CX0 (44) D_toss.f D_toss.fd ["chances", "tosses"] (spOf K 2 d_toss)) (D_law_counts_are_right : Df K mg "_law_counts_are_right" s_law_counts_are_right) (G_law_counts_are_right : FnOk P w K mg base CX0 (81) D_law_counts_are_right.f D_law_counts_are_right.fd ["chances", "counts", "power", "k"] (spOf K 4 d_law_counts_are_right)) (D_law_is_sum : Df K mg "_law_is_sum" s_law_is_sum) (G_law_is_sum : FnOk P w K mg base CX0 (42) D_law_is_sum.f D_law_is_sum.fd ["told", "parts"] (spOf K 2 d_law_is_sum)) (D_law_mean_k44 : Df K mg "_law_mean" s_law_mean_k44) (G_law_mean_k44 : FnOk P w K mg base CX0 (42) D_law_mean_k44.f D_law_mean_k44.fd ["n", "d"] (spOf K 2 d_law_mean_k44)) (D_law_is_stop : Df K mg "_law_is_stop" s_law_is_stop) (G_law_is_stop : FnOk P w K mg base CX0 (81) D_law_is_stop.f D_law_is_stop.fd ["chances", "row", "told"] (spOf K 3 d_law_is_stop)) (n_int : mg "int" = none) (n_len : mg "len" = none) (n_range : mg "range" = none) : FnOk P w K mg base CX0 (82) D_law_right_k47_2.f D_law_right_k47_2.fd ["chances", "k"] (spOf K 2 d_law_right_k47_2) :=
  ok_of D_law_right_k47_2.F sc_law_right_k47_2 (by decide) hs ht fun cdv A outer s H E c =>
    (bss_cons (bs_setLcN 2 13 [("chance", 13)] c.calm c.nd rfl rfl (bi_seq (be_frz (be_var 0))) (blk_at (N := ["chances", "k", "counts", "tosses_read", "row", "power", "fewest", "parts", "outcome", "told", "n", "d", "mean", "chance"]) (sc := defScope s_law_right_k47_2) rfl rfl (by decide +kernel)) (by decide) rfl (sw_true rfl rfl rfl (by decide +kernel)) (fun _ _ _ _ _ => pg_name (i := 13) c.nd rfl (.inl rfl)) (fun _ _ _ _ _ => bts_nil) (fun _ _ _ _ _ => be_int))
    (bss_cons (bs_set 3 c.nd be_int)
    (bss_cons (bs_for c.pass c.calm (bi_seq (be_call G_law_rows_k47 (c.room.mono (by omega)) rfl D_law_rows_k47.g D_law_rows_k47.F.kp (bi_law_rows_k47 D_law_rows_k47) (ba_v (be_var 1) ba_nil))) (bg_name 4 c.nd) (bss_fgt [4, 9] (bss_cons (bs_set 9 c.nd (be_call G_toss (c.room.mono (by omega)) rfl D_toss.g D_toss.F.kp (bi_toss D_toss) (ba_v (be_var 0) (ba_v (be_var 4) ba_nil))))
    (bss_one (bs_if (bt_cmp ob_is (be_var 9) be_non) (bss_one (bs_set 3 c.nd (be_op ob_add (be_var 3) (be_var 1)))) (bss_one (bs_if (bt_not (bt_tru (be_call G_law_is_stop (c.room.mono (by omega)) rfl D_law_is_stop.g D_law_is_stop.F.kp (bi_law_is_stop D_law_is_stop) (ba_v (be_var 0) (ba_v (be_var 4) (ba_v (be_var 9) ba_nil)))))) (bss_one (bs_ret be_bl)) (bss_cons (bs_setIx 2 (pv 2) (be_ix (be_var 9) be_int) (be_op ob_add (be_ix (be_var 2) (be_ix (be_var 9) be_int)) be_int))
    (bss_one (bs_set 3 c.nd (be_op ob_add (be_var 3) (be_ix (be_var 9) be_int))))))))))))
    (bss_cons (bs_set 5 c.nd (be_b1 c_len rfl n_len bt_len (be_call G_law_rows_k47 (c.room.mono (by omega)) rfl D_law_rows_k47.g D_law_rows_k47.F.kp (bi_law_rows_k47 D_law_rows_k47) (ba_v (be_var 1) ba_nil))))
    (bss_cons (bs_if (bt_not (bt_tru (be_call G_law_counts_are_right (c.room.mono (by omega)) rfl D_law_counts_are_right.g D_law_counts_are_right.F.kp (bi_law_counts_are_right D_law_counts_are_right) (ba_v (be_var 0) (ba_v (be_var 2) (ba_v (be_var 5) (ba_v (be_var 1) ba_nil))))))) (bss_one (bs_ret be_bl)) bss_nil)
    (bss_cons (bs_set 6 c.nd (be_call G_fewest_tosses_k44 (c.room.mono (by omega)) rfl D_fewest_tosses_k44.g D_fewest_tosses_k44.F.kp (bi_fewest_tosses_k44 D_fewest_tosses_k44) (ba_v (be_var 0) ba_nil)))
    (bss_cons (bs_set 7 c.nd (be_lst (bl_cons (be_tup (bl_cons (be_var 3) (bl_cons (be_var 5) bl_nil))) bl_nil)))
    (bss_cons (bs_for c.pass c.calm (bi_rng1 rfl n_range (be_b1 c_len rfl n_len bt_len (be_var 0))) (bg_name 8 c.nd) (bss_fgt [8, 10, 11, 12] (bss_cons (bs_asg (be_ix (be_var 0) (be_var 8)) (bg_tup c.calm (bgs_cons 10 c.nd (bgs_cons 11 c.nd bgs_nil))))
    (bss_one (bs_if (bt_cmp ob_lt (be_var 10) (be_var 11)) (bss_cons (bs_set 12 c.nd (be_call G_law_mean_k44 (c.room.mono (by omega)) rfl D_law_mean_k44.g D_law_mean_k44.F.kp (bi_law_mean_k44 D_law_mean_k44) (ba_v (be_op ob_mod (be_t1 c_int rfl n_int bt_int (be_op ob_mul (be_var 10) (be_var 5))) (be_var 11)) (ba_v (be_var 11) ba_nil))))
    (bss_one (bs_expr (be_append 7 (pv 7) (be_tup (bl_cons (be_ix (be_var 12) be_int) (bl_cons (be_op ob_mul (be_ix (be_var 12) be_int) (be_var 5)) bl_nil))))))) bss_nil)))))
    (bss_one (bs_ret (be_and (be_call G_law_is_sum (c.room.mono (by omega)) rfl D_law_is_sum.g D_law_is_sum.F.kp (bi_law_is_sum D_law_is_sum) (ba_v (be_var 6) (ba_v (be_var 7) ba_nil))) (be_one (be_cmp ob_ge (be_op ob_mul (be_ix (be_var 6) be_int) (be_var 5)) (be_op ob_mul (be_var 3) (be_ix (be_var 6) be_int)))))))))))))))
abbrev s_law_k47_2 : Stmt := topS 34
theorem sc_law_k47_2 : FnScope ["script", "draws", "many", "chances", "k"] ["script"] (defScope s_law_k47_2) := ⟨rfl, rfl, rfl, by decide +kernel, rfl, by decide +kernel, by decide +kernel⟩
theorem ok_law_k47_2 (hs : base.NoSeer) (ht : P.given.tree = none) (D_law_k47_2 : Df K mg "law" s_law_k47_2) (D_law_draws : Df K mg "_law_draws" s_law_draws) (G_law_draws : FnOk P w K mg base CX0 (41) D_law_draws.f D_law_draws.fd ["script", "many"] (spOf K 2 d_law_draws)) (D_law_chances_2 : Df K mg "_law_chances" s_law_chances_2) (G_law_chances_2 : FnOk P w K mg base CX0 (43) D_law_chances_2.f D_law_chances_2.fd ["draws", "d", "many"] (spOf K 3 d_law_chances_2)) (D_law_take : Df K mg "_law_take" s_law_take) (G_law_take : FnOk P w K mg base CX0 (41) D_law_take.f D_law_take.fd ["draws", "many"] (spOf K 2 d_law_take)) (D_law_denominator : Df K mg "_law_denominator" s_law_denominator) (G_law_denominator : FnOk P w K mg base CX0 (42) D_law_denominator.f D_law_denominator.fd ["draws"] (spOf K 1 d_law_denominator)) (D_law_right_k47_2 : Df K mg "_law_right" s_law_right_k47_2) (G_law_right_k47_2 : FnOk P w K mg base CX0 (82) D_law_right_k47_2.f D_law_right_k47_2.fd ["chances", "k"] (spOf K 2 d_law_right_k47_2)) (n_int : mg "int" = none) : FnOk P w K mg base CX0 (83) D_law_k47_2.f D_law_k47_2.fd ["script"] (spOf K 1 d_law_k47_2) :=
  ok_of D_law_k47_2.F sc_law_k47_2 (by decide) hs ht fun cdv A outer s H E c =>
    (bss_cons (bs_set 1 c.nd (be_call G_law_draws (c.room.mono (by omega)) rfl D_law_draws.g D_law_draws.F.kp (bi_law_draws D_law_draws) (ba_v (be_var 0) (ba_v be_int ba_nil))))
    (bss_cons (bs_set 2 c.nd (be_op ob_add be_int (be_call G_law_take (c.room.mono (by omega)) rfl D_law_take.g D_law_take.F.kp (bi_law_take D_law_take) (ba_r 1 (pv 1) (ba_v (be_ix (be_lst (bl_cons be_int (bl_cons be_int (bl_cons be_int bl_nil)))) (be_call G_law_take (c.room.mono (by omega)) rfl D_law_take.g D_law_take.F.kp (bi_law_take D_law_take) (ba_r 1 (pv 1) (ba_v be_int ba_nil)))) ba_nil)))))
    (bss_cons (bs_set 3 c.nd (be_call G_law_chances_2 (c.room.mono (by omega)) rfl D_law_chances_2.g D_law_chances_2.F.kp (bi_law_chances_2 D_law_chances_2) (ba_r 1 (pv 1) (ba_v (be_call G_law_denominator (c.room.mono (by omega)) rfl D_law_denominator.g D_law_denominator.F.kp (bi_law_denominator D_law_denominator) (ba_r 1 (pv 1) ba_nil)) (ba_v (be_var 2) ba_nil)))))
    (bss_cons (bs_set 4 c.nd (be_call G_law_take (c.room.mono (by omega)) rfl D_law_take.g D_law_take.F.kp (bi_law_take D_law_take) (ba_r 1 (pv 1) (ba_v (be_op ob_sub be_int (be_op ob_mul be_int (be_t1 c_int rfl n_int bt_int (be_cmp ob_gt (be_var 2) be_int)))) ba_nil))))
    (bss_cons (bs_if (bt_not (bt_tru (be_call G_law_right_k47_2 (c.room.mono (by omega)) rfl D_law_right_k47_2.g D_law_right_k47_2.F.kp (bi_law_right_k47_2 D_law_right_k47_2) (ba_v (be_var 3) (ba_v (be_var 4) ba_nil))))) (bss_one (bs_ret be_bl)) bss_nil)
    (bss_one (bs_ret (be_and (be_call G_law_right_k47_2 (c.room.mono (by omega)) rfl D_law_right_k47_2.g D_law_right_k47_2.F.kp (bi_law_right_k47_2 D_law_right_k47_2) (ba_v (be_tup (bl_cons (be_tup (bl_cons be_int (bl_cons be_int bl_nil))) (bl_cons (be_tup (bl_cons be_int (bl_cons be_int bl_nil))) (bl_cons (be_tup (bl_cons be_int (bl_cons be_int bl_nil))) bl_nil)))) (ba_v be_int ba_nil))) (be_one (be_call G_law_right_k47_2 (c.room.mono (by omega)) rfl D_law_right_k47_2.g D_law_right_k47_2.F.kp (bi_law_right_k47_2 D_law_right_k47_2) (ba_v (be_tup (bl_cons (be_tup (bl_cons be_int (bl_cons be_int bl_nil))) bl_nil)) (ba_v be_int ba_nil))))))))))))
end
theorem all_mk {l : PySem.W.OpenLaw} {w : World} {K : PySem.W.Frag} {h : Heap} {mg : Str → Option Value} {fa f0 f1 f2 f3 f4 f5 f6 f7 f8 f9 f10 f11 f12 f13 f14 f15 f16 f17 f18 f19 f20 f21 f22 f23 f24 f25 f26 f27 f28 : Addr} {od0 an0 od1 an1 od2 an2 od3 an3 od4 an4 od5 an5 od6 an6 od7 an7 od8 an8 od9 an9 od10 an10 od11 an11 od12 an12 od13 an13 od14 an14 od15 an15 od16 an16 od17 an17 od18 an18 od19 an19 od20 an20 od21 an21 od22 an22 od23 an23 od24 an24 od25 an25 od26 an26 od27 an27 od28 an28 : Option Addr} {sl0 sl1 sl2 sl3 sl4 sl5 sl6 sl7 sl8 sl9 sl10 sl11 sl12 sl13 sl14 sl15 sl16 sl17 sl18 sl19 sl20 sl21 sl22 sl23 sl24 sl25 sl26 sl27 sl28 : Array (Option Value)} {oc0 kV0 dc0 pm0 cd0 ct0 oc1 kV1 dc1 pm1 cd1 ct1 oc2 kV2 dc2 pm2 cd2 ct2 oc3 kV3 dc3 pm3 cd3 ct3 oc4 kV4 dc4 pm4 cd4 ct4 oc5 kV5 dc5 pm5 cd5 ct5 oc6 kV6 dc6 pm6 cd6 ct6 oc7 kV7 dc7 pm7 cd7 ct7 oc8 kV8 dc8 pm8 cd8 ct8 oc9 kV9 dc9 pm9 cd9 ct9 oc10 kV10 dc10 pm10 cd10 ct10 oc11 kV11 dc11 pm11 cd11 ct11 oc12 kV12 dc12 pm12 cd12 ct12 oc13 kV13 dc13 pm13 cd13 ct13 oc14 kV14 dc14 pm14 cd14 ct14 oc15 kV15 dc15 pm15 cd15 ct15 oc16 kV16 dc16 pm16 cd16 ct16 oc17 kV17 dc17 pm17 cd17 ct17 oc18 kV18 dc18 pm18 cd18 ct18 oc19 kV19 dc19 pm19 cd19 ct19 oc20 kV20 dc20 pm20 cd20 ct20 oc21 kV21 dc21 pm21 cd21 ct21 oc22 kV22 dc22 pm22 cd22 ct22 oc23 kV23 dc23 pm23 cd23 ct23 oc24 kV24 dc24 pm24 cd24 ct24 oc25 kV25 dc25 pm25 cd25 ct25 oc26 kV26 dc26 pm26 cd26 ct26 oc27 kV27 dc27 pm27 cd27 ct27 oc28 kV28 dc28 pm28 cd28 ct28 : Value} {ca_NOTHING : Addr} {ct_NOTHING cu_NOTHING : Tok} {co_NOTHING : Option Addr} {cn_NOTHING : Nat} {cs_NOTHING : Array (Option Value)} {ca_ONE : Addr} {ct_ONE cu_ONE : Tok} {co_ONE : Option Addr} {cn_ONE : Nat} {cs_ONE : Array (Option Value)} (ht : l.prog.given.tree = none) (X : K.In h) (G : h.Ns mainGlobals mg) (hfa : mg "law" = some (.ref fa)) (a0 : PySem.W.nsIn K mainGlobals "divisor" = some (some (.ref f0))) (l0 : K.lookup f0 = some ⟨oc0, od0, .func (PySem.W.fnOf "divisor" "divisor" (defArgs s_divisor) (defBody s_divisor) (defScope s_divisor) .none kV0 dc0 pm0 an0 cd0 ct0), sl0⟩) (c0 : PySem.W.codeIn K cd0 "divisor" = true) (k0 : PySem.W.keepIn K (.ref f0) = true) (a1 : PySem.W.nsIn K mainGlobals "fraction" = some (some (.ref f1))) (l1 : K.lookup f1 = some ⟨oc1, od1, .func (PySem.W.fnOf "fraction" "fraction" (defArgs s_fraction) (defBody s_fraction) (defScope s_fraction) .none kV1 dc1 pm1 an1 cd1 ct1), sl1⟩) (c1 : PySem.W.codeIn K cd1 "fraction" = true) (k1 : PySem.W.keepIn K (.ref f1) = true) (a2 : PySem.W.nsIn K mainGlobals "plus" = some (some (.ref f2))) (l2 : K.lookup f2 = some ⟨oc2, od2, .func (PySem.W.fnOf "plus" "plus" (defArgs s_plus) (defBody s_plus) (defScope s_plus) .none kV2 dc2 pm2 an2 cd2 ct2), sl2⟩) (c2 : PySem.W.codeIn K cd2 "plus" = true) (k2 : PySem.W.keepIn K (.ref f2) = true) (a3 : PySem.W.nsIn K mainGlobals "power_of_two" = some (some (.ref f3))) (l3 : K.lookup f3 = some ⟨oc3, od3, .func (PySem.W.fnOf "power_of_two" "power_of_two" (defArgs s_power_of_two) (defBody s_power_of_two) (defScope s_power_of_two) .none kV3 dc3 pm3 an3 cd3 ct3), sl3⟩) (c3 : PySem.W.codeIn K cd3 "power_of_two" = true) (k3 : PySem.W.keepIn K (.ref f3) = true) (a4 : PySem.W.nsIn K mainGlobals "rest_of_power" = some (some (.ref f4))) (l4 : K.lookup f4 = some ⟨oc4, od4, .func (PySem.W.fnOf "rest_of_power" "rest_of_power" (defArgs s_rest_of_power) (defBody s_rest_of_power) (defScope s_rest_of_power) .none kV4 dc4 pm4 an4 cd4 ct4), sl4⟩) (c4 : PySem.W.codeIn K cd4 "rest_of_power" = true) (k4 : PySem.W.keepIn K (.ref f4) = true) (a5 : PySem.W.nsIn K mainGlobals "digit" = some (some (.ref f5))) (l5 : K.lookup f5 = some ⟨oc5, od5, .func (PySem.W.fnOf "digit" "digit" (defArgs s_digit) (defBody s_digit) (defScope s_digit) .none kV5 dc5 pm5 an5 cd5 ct5), sl5⟩) (c5 : PySem.W.codeIn K cd5 "digit" = true) (k5 : PySem.W.keepIn K (.ref f5) = true) (a6 : PySem.W.nsIn K mainGlobals "digits_with_turn" = some (some (.ref f6))) (l6 : K.lookup f6 = some ⟨oc6, od6, .func (PySem.W.fnOf "digits_with_turn" "digits_with_turn" (defArgs s_digits_with_turn) (defBody s_digits_with_turn) (defScope s_digits_with_turn) .none kV6 dc6 pm6 an6 cd6 ct6), sl6⟩) (c6 : PySem.W.codeIn K cd6 "digits_with_turn" = true) (k6 : PySem.W.keepIn K (.ref f6) = true) (a7 : PySem.W.nsIn K mainGlobals "turns_of" = some (some (.ref f7))) (l7 : K.lookup f7 = some ⟨oc7, od7, .func (PySem.W.fnOf "turns_of" "turns_of" (defArgs s_turns_of) (defBody s_turns_of) (defScope s_turns_of) .none kV7 dc7 pm7 an7 cd7 ct7), sl7⟩) (c7 : PySem.W.codeIn K cd7 "turns_of" = true) (k7 : PySem.W.keepIn K (.ref f7) = true) (a8 : PySem.W.nsIn K mainGlobals "sum_of_digits" = some (some (.ref f8))) (l8 : K.lookup f8 = some ⟨oc8, od8, .func (PySem.W.fnOf "sum_of_digits" "sum_of_digits" (defArgs s_sum_of_digits_k44) (defBody s_sum_of_digits_k44) (defScope s_sum_of_digits_k44) .none kV8 dc8 pm8 an8 cd8 ct8), sl8⟩) (c8 : PySem.W.codeIn K cd8 "sum_of_digits" = true) (k8 : PySem.W.keepIn K (.ref f8) = true) (a9 : PySem.W.nsIn K mainGlobals "fewest_tosses" = some (some (.ref f9))) (l9 : K.lookup f9 = some ⟨oc9, od9, .func (PySem.W.fnOf "fewest_tosses" "fewest_tosses" (defArgs s_fewest_tosses_k44) (defBody s_fewest_tosses_k44) (defScope s_fewest_tosses_k44) .none kV9 dc9 pm9 an9 cd9 ct9), sl9⟩) (c9 : PySem.W.codeIn K cd9 "fewest_tosses" = true) (k9 : PySem.W.keepIn K (.ref f9) = true) (a10 : PySem.W.nsIn K mainGlobals "stops" = some (some (.ref f10))) (l10 : K.lookup f10 = some ⟨oc10, od10, .func (PySem.W.fnOf "stops" "stops" (defArgs s_stops) (defBody s_stops) (defScope s_stops) .none kV10 dc10 pm10 an10 cd10 ct10), sl10⟩) (c10 : PySem.W.codeIn K cd10 "stops" = true) (k10 : PySem.W.keepIn K (.ref f10) = true) (a11 : PySem.W.nsIn K mainGlobals "toss" = some (some (.ref f11))) (l11 : K.lookup f11 = some ⟨oc11, od11, .func (PySem.W.fnOf "toss" "toss" (defArgs s_toss) (defBody s_toss) (defScope s_toss) .none kV11 dc11 pm11 an11 cd11 ct11), sl11⟩) (c11 : PySem.W.codeIn K cd11 "toss" = true) (k11 : PySem.W.keepIn K (.ref f11) = true) (a12 : PySem.W.nsIn K mainGlobals "still_going" = some (some (.ref f12))) (l12 : K.lookup f12 = some ⟨oc12, od12, .func (PySem.W.fnOf "still_going" "still_going" (defArgs s_still_going) (defBody s_still_going) (defScope s_still_going) .none kV12 dc12 pm12 an12 cd12 ct12), sl12⟩) (c12 : PySem.W.codeIn K cd12 "still_going" = true) (k12 : PySem.W.keepIn K (.ref f12) = true) (a13 : PySem.W.nsIn K mainGlobals "chance_within" = some (some (.ref f13))) (l13 : K.lookup f13 = some ⟨oc13, od13, .func (PySem.W.fnOf "chance_within" "chance_within" (defArgs s_chance_within) (defBody s_chance_within) (defScope s_chance_within) .none kV13 dc13 pm13 an13 cd13 ct13), sl13⟩) (c13 : PySem.W.codeIn K cd13 "chance_within" = true) (k13 : PySem.W.keepIn K (.ref f13) = true) (a14 : PySem.W.nsIn K mainGlobals "_law_draws" = some (some (.ref f14))) (l14 : K.lookup f14 = some ⟨oc14, od14, .func (PySem.W.fnOf "_law_draws" "_law_draws" (defArgs s_law_draws) (defBody s_law_draws) (defScope s_law_draws) .none kV14 dc14 pm14 an14 cd14 ct14), sl14⟩) (c14 : PySem.W.codeIn K cd14 "_law_draws" = true) (k14 : PySem.W.keepIn K (.ref f14) = true) (a15 : PySem.W.nsIn K mainGlobals "_law_take" = some (some (.ref f15))) (l15 : K.lookup f15 = some ⟨oc15, od15, .func (PySem.W.fnOf "_law_take" "_law_take" (defArgs s_law_take) (defBody s_law_take) (defScope s_law_take) .none kV15 dc15 pm15 an15 cd15 ct15), sl15⟩) (c15 : PySem.W.codeIn K cd15 "_law_take" = true) (k15 : PySem.W.keepIn K (.ref f15) = true) (a16 : PySem.W.nsIn K mainGlobals "_law_same" = some (some (.ref f16))) (l16 : K.lookup f16 = some ⟨oc16, od16, .func (PySem.W.fnOf "_law_same" "_law_same" (defArgs s_law_same) (defBody s_law_same) (defScope s_law_same) .none kV16 dc16 pm16 an16 cd16 ct16), sl16⟩) (c16 : PySem.W.codeIn K cd16 "_law_same" = true) (k16 : PySem.W.keepIn K (.ref f16) = true) (a17 : PySem.W.nsIn K mainGlobals "_law_common" = some (some (.ref f17))) (l17 : K.lookup f17 = some ⟨oc17, od17, .func (PySem.W.fnOf "_law_common" "_law_common" (defArgs s_law_common) (defBody s_law_common) (defScope s_law_common) .none kV17 dc17 pm17 an17 cd17 ct17), sl17⟩) (c17 : PySem.W.codeIn K cd17 "_law_common" = true) (k17 : PySem.W.keepIn K (.ref f17) = true) (a18 : PySem.W.nsIn K mainGlobals "_law_fraction" = some (some (.ref f18))) (l18 : K.lookup f18 = some ⟨oc18, od18, .func (PySem.W.fnOf "_law_fraction" "_law_fraction" (defArgs s_law_fraction) (defBody s_law_fraction) (defScope s_law_fraction) .none kV18 dc18 pm18 an18 cd18 ct18), sl18⟩) (c18 : PySem.W.codeIn K cd18 "_law_fraction" = true) (k18 : PySem.W.keepIn K (.ref f18) = true) (a19 : PySem.W.nsIn K mainGlobals "_law_rests" = some (some (.ref f19))) (l19 : K.lookup f19 = some ⟨oc19, od19, .func (PySem.W.fnOf "_law_rests" "_law_rests" (defArgs s_law_rests) (defBody s_law_rests) (defScope s_law_rests) .none kV19 dc19 pm19 an19 cd19 ct19), sl19⟩) (c19 : PySem.W.codeIn K cd19 "_law_rests" = true) (k19 : PySem.W.keepIn K (.ref f19) = true) (a20 : PySem.W.nsIn K mainGlobals "_law_denominator" = some (some (.ref f20))) (l20 : K.lookup f20 = some ⟨oc20, od20, .func (PySem.W.fnOf "_law_denominator" "_law_denominator" (defArgs s_law_denominator) (defBody s_law_denominator) (defScope s_law_denominator) .none kV20 dc20 pm20 an20 cd20 ct20), sl20⟩) (c20 : PySem.W.codeIn K cd20 "_law_denominator" = true) (k20 : PySem.W.keepIn K (.ref f20) = true) (a21 : PySem.W.nsIn K mainGlobals "_law_chances" = some (some (.ref f21))) (l21 : K.lookup f21 = some ⟨oc21, od21, .func (PySem.W.fnOf "_law_chances" "_law_chances" (defArgs s_law_chances_2) (defBody s_law_chances_2) (defScope s_law_chances_2) .none kV21 dc21 pm21 an21 cd21 ct21), sl21⟩) (c21 : PySem.W.codeIn K cd21 "_law_chances" = true) (k21 : PySem.W.keepIn K (.ref f21) = true) (a22 : PySem.W.nsIn K mainGlobals "_law_mean" = some (some (.ref f22))) (l22 : K.lookup f22 = some ⟨oc22, od22, .func (PySem.W.fnOf "_law_mean" "_law_mean" (defArgs s_law_mean_k44) (defBody s_law_mean_k44) (defScope s_law_mean_k44) .none kV22 dc22 pm22 an22 cd22 ct22), sl22⟩) (c22 : PySem.W.codeIn K cd22 "_law_mean" = true) (k22 : PySem.W.keepIn K (.ref f22) = true) (a23 : PySem.W.nsIn K mainGlobals "_law_is_sum" = some (some (.ref f23))) (l23 : K.lookup f23 = some ⟨oc23, od23, .func (PySem.W.fnOf "_law_is_sum" "_law_is_sum" (defArgs s_law_is_sum) (defBody s_law_is_sum) (defScope s_law_is_sum) .none kV23 dc23 pm23 an23 cd23 ct23), sl23⟩) (c23 : PySem.W.codeIn K cd23 "_law_is_sum" = true) (k23 : PySem.W.keepIn K (.ref f23) = true) (a24 : PySem.W.nsIn K mainGlobals "_law_rows" = some (some (.ref f24))) (l24 : K.lookup f24 = some ⟨oc24, od24, .func (PySem.W.fnOf "_law_rows" "_law_rows" (defArgs s_law_rows_k47) (defBody s_law_rows_k47) (defScope s_law_rows_k47) .none kV24 dc24 pm24 an24 cd24 ct24), sl24⟩) (c24 : PySem.W.codeIn K cd24 "_law_rows" = true) (k24 : PySem.W.keepIn K (.ref f24) = true) (a25 : PySem.W.nsIn K mainGlobals "_law_is_stop" = some (some (.ref f25))) (l25 : K.lookup f25 = some ⟨oc25, od25, .func (PySem.W.fnOf "_law_is_stop" "_law_is_stop" (defArgs s_law_is_stop) (defBody s_law_is_stop) (defScope s_law_is_stop) .none kV25 dc25 pm25 an25 cd25 ct25), sl25⟩) (c25 : PySem.W.codeIn K cd25 "_law_is_stop" = true) (k25 : PySem.W.keepIn K (.ref f25) = true) (a26 : PySem.W.nsIn K mainGlobals "_law_counts_are_right" = some (some (.ref f26))) (l26 : K.lookup f26 = some ⟨oc26, od26, .func (PySem.W.fnOf "_law_counts_are_right" "_law_counts_are_right" (defArgs s_law_counts_are_right) (defBody s_law_counts_are_right) (defScope s_law_counts_are_right) .none kV26 dc26 pm26 an26 cd26 ct26), sl26⟩) (c26 : PySem.W.codeIn K cd26 "_law_counts_are_right" = true) (k26 : PySem.W.keepIn K (.ref f26) = true) (a27 : PySem.W.nsIn K mainGlobals "_law_right" = some (some (.ref f27))) (l27 : K.lookup f27 = some ⟨oc27, od27, .func (PySem.W.fnOf "_law_right" "_law_right" (defArgs s_law_right_k47_2) (defBody s_law_right_k47_2) (defScope s_law_right_k47_2) .none kV27 dc27 pm27 an27 cd27 ct27), sl27⟩) (c27 : PySem.W.codeIn K cd27 "_law_right" = true) (k27 : PySem.W.keepIn K (.ref f27) = true) (a28 : PySem.W.nsIn K mainGlobals "law" = some (some (.ref f28))) (l28 : K.lookup f28 = some ⟨oc28, od28, .func (PySem.W.fnOf "law" "law" (defArgs s_law_k47_2) (defBody s_law_k47_2) (defScope s_law_k47_2) .none kV28 dc28 pm28 an28 cd28 ct28), sl28⟩) (c28 : PySem.W.codeIn K cd28 "law" = true) (k28 : PySem.W.keepIn K (.ref f28) = true) (z_abs : PySem.W.nsIn K mainGlobals "abs" = some none) (z_bool : PySem.W.nsIn K mainGlobals "bool" = some none) (z_int : PySem.W.nsIn K mainGlobals "int" = some none) (z_isinstance : PySem.W.nsIn K mainGlobals "isinstance" = some none) (z_len : PySem.W.nsIn K mainGlobals "len" = some none) (z_list : PySem.W.nsIn K mainGlobals "list" = some none) (z_range : PySem.W.nsIn K mainGlobals "range" = some none) (z_sorted : PySem.W.nsIn K mainGlobals "sorted" = some none) (z_str : PySem.W.nsIn K mainGlobals "str" = some none) (z_sum : PySem.W.nsIn K mainGlobals "sum" = some none) (z_tuple : PySem.W.nsIn K mainGlobals "tuple" = some none) (y_gcd : PySem.W.nsIn K mainGlobals "gcd" = some (some (.builtin "math.gcd"))) (q_NOTHING : PySem.W.nsIn K mainGlobals "NOTHING" = some (some (.ref ca_NOTHING))) (r_NOTHING : K.lookup ca_NOTHING = some ⟨.type "tuple", co_NOTHING, .seq #[.int 0 ct_NOTHING, .int 1 cu_NOTHING] cn_NOTHING, cs_NOTHING⟩) (q_ONE : PySem.W.nsIn K mainGlobals "ONE" = some (some (.ref ca_ONE))) (r_ONE : K.lookup ca_ONE = some ⟨.type "tuple", co_ONE, .seq #[.int 1 ct_ONE, .int 1 cu_ONE] cn_ONE, cs_ONE⟩) :
    ∃ fd : FuncData, (∀ (s : Shared) (v : Value), BindsTo s fd ⟨[v], []⟩ [("script", v)]) ∧ ∀ base : Heap, K.In base → base.Ns mainGlobals mg → base.NoSeer → FnOk l.prog w K mg base CX0 83 fa fd ["script"] (spOf K 1 d_law_k47_2) := by
  have e := hfa.symm.trans (PySem.W.mg_of X G a28)
  cases e
  let D_divisor : Df K mg "divisor" s_divisor := ⟨f0, _, fun_mk l0 c0 k0, PySem.W.mg_of X G a0⟩
  let D_fraction : Df K mg "fraction" s_fraction := ⟨f1, _, fun_mk l1 c1 k1, PySem.W.mg_of X G a1⟩
  let D_plus : Df K mg "plus" s_plus := ⟨f2, _, fun_mk l2 c2 k2, PySem.W.mg_of X G a2⟩
  let D_power_of_two : Df K mg "power_of_two" s_power_of_two := ⟨f3, _, fun_mk l3 c3 k3, PySem.W.mg_of X G a3⟩
  let D_rest_of_power : Df K mg "rest_of_power" s_rest_of_power := ⟨f4, _, fun_mk l4 c4 k4, PySem.W.mg_of X G a4⟩
  let D_digit : Df K mg "digit" s_digit := ⟨f5, _, fun_mk l5 c5 k5, PySem.W.mg_of X G a5⟩
  let D_digits_with_turn : Df K mg "digits_with_turn" s_digits_with_turn := ⟨f6, _, fun_mk l6 c6 k6, PySem.W.mg_of X G a6⟩
  let D_turns_of : Df K mg "turns_of" s_turns_of := ⟨f7, _, fun_mk l7 c7 k7, PySem.W.mg_of X G a7⟩
  let D_sum_of_digits_k44 : Df K mg "sum_of_digits" s_sum_of_digits_k44 := ⟨f8, _, fun_mk l8 c8 k8, PySem.W.mg_of X G a8⟩
  let D_fewest_tosses_k44 : Df K mg "fewest_tosses" s_fewest_tosses_k44 := ⟨f9, _, fun_mk l9 c9 k9, PySem.W.mg_of X G a9⟩
  let D_stops : Df K mg "stops" s_stops := ⟨f10, _, fun_mk l10 c10 k10, PySem.W.mg_of X G a10⟩
  let D_toss : Df K mg "toss" s_toss := ⟨f11, _, fun_mk l11 c11 k11, PySem.W.mg_of X G a11⟩
  let D_still_going : Df K mg "still_going" s_still_going := ⟨f12, _, fun_mk l12 c12 k12, PySem.W.mg_of X G a12⟩
  let D_chance_within : Df K mg "chance_within" s_chance_within := ⟨f13, _, fun_mk l13 c13 k13, PySem.W.mg_of X G a13⟩
  let D_law_draws : Df K mg "_law_draws" s_law_draws := ⟨f14, _, fun_mk l14 c14 k14, PySem.W.mg_of X G a14⟩
  let D_law_take : Df K mg "_law_take" s_law_take := ⟨f15, _, fun_mk l15 c15 k15, PySem.W.mg_of X G a15⟩
  let D_law_same : Df K mg "_law_same" s_law_same := ⟨f16, _, fun_mk l16 c16 k16, PySem.W.mg_of X G a16⟩
  let D_law_common : Df K mg "_law_common" s_law_common := ⟨f17, _, fun_mk l17 c17 k17, PySem.W.mg_of X G a17⟩
  let D_law_fraction : Df K mg "_law_fraction" s_law_fraction := ⟨f18, _, fun_mk l18 c18 k18, PySem.W.mg_of X G a18⟩
  let D_law_rests : Df K mg "_law_rests" s_law_rests := ⟨f19, _, fun_mk l19 c19 k19, PySem.W.mg_of X G a19⟩
  let D_law_denominator : Df K mg "_law_denominator" s_law_denominator := ⟨f20, _, fun_mk l20 c20 k20, PySem.W.mg_of X G a20⟩
  let D_law_chances_2 : Df K mg "_law_chances" s_law_chances_2 := ⟨f21, _, fun_mk l21 c21 k21, PySem.W.mg_of X G a21⟩
  let D_law_mean_k44 : Df K mg "_law_mean" s_law_mean_k44 := ⟨f22, _, fun_mk l22 c22 k22, PySem.W.mg_of X G a22⟩
  let D_law_is_sum : Df K mg "_law_is_sum" s_law_is_sum := ⟨f23, _, fun_mk l23 c23 k23, PySem.W.mg_of X G a23⟩
  let D_law_rows_k47 : Df K mg "_law_rows" s_law_rows_k47 := ⟨f24, _, fun_mk l24 c24 k24, PySem.W.mg_of X G a24⟩
  let D_law_is_stop : Df K mg "_law_is_stop" s_law_is_stop := ⟨f25, _, fun_mk l25 c25 k25, PySem.W.mg_of X G a25⟩
  let D_law_counts_are_right : Df K mg "_law_counts_are_right" s_law_counts_are_right := ⟨f26, _, fun_mk l26 c26 k26, PySem.W.mg_of X G a26⟩
  let D_law_right_k47_2 : Df K mg "_law_right" s_law_right_k47_2 := ⟨f27, _, fun_mk l27 c27 k27, PySem.W.mg_of X G a27⟩
  let D_law_k47_2 : Df K mg "law" s_law_k47_2 := ⟨fa, _, fun_mk l28 c28 k28, PySem.W.mg_of X G a28⟩
  have n_abs := PySem.W.mg_none_of X G z_abs
  have n_bool := PySem.W.mg_none_of X G z_bool
  have n_int := PySem.W.mg_none_of X G z_int
  have n_isinstance := PySem.W.mg_none_of X G z_isinstance
  have n_len := PySem.W.mg_none_of X G z_len
  have n_list := PySem.W.mg_none_of X G z_list
  have n_range := PySem.W.mg_none_of X G z_range
  have n_sorted := PySem.W.mg_none_of X G z_sorted
  have n_str := PySem.W.mg_none_of X G z_str
  have n_sum := PySem.W.mg_none_of X G z_sum
  have n_tuple := PySem.W.mg_none_of X G z_tuple
  have v_gcd := PySem.W.mg_of X G y_gcd
  let TNOTHING := ct_mk X G q_NOTHING r_NOTHING
  let TONE := ct_mk X G q_ONE r_ONE
  refine ⟨D_law_k47_2.fd, fun s v => .of_eq rfl, fun base _ _ hs => ?_⟩
  have G_divisor := ok_divisor (P := l.prog) (w := w) (base := base) hs ht D_divisor v_gcd
  have G_fraction := ok_fraction (P := l.prog) (w := w) (base := base) hs ht D_fraction D_divisor G_divisor
  have G_plus := ok_plus (P := l.prog) (w := w) (base := base) hs ht D_plus D_fraction G_fraction
  have G_power_of_two := ok_power_of_two (P := l.prog) (w := w) (base := base) hs ht D_power_of_two n_range
  have G_rest_of_power := ok_rest_of_power (P := l.prog) (w := w) (base := base) hs ht D_rest_of_power
  have G_digit := ok_digit (P := l.prog) (w := w) (base := base) hs ht D_digit D_rest_of_power G_rest_of_power
  have G_digits_with_turn := ok_digits_with_turn (P := l.prog) (w := w) (base := base) hs ht D_digits_with_turn n_len
  have G_turns_of := ok_turns_of (P := l.prog) (w := w) (base := base) hs ht D_turns_of D_plus G_plus D_fraction G_fraction
  have G_sum_of_digits_k44 := ok_sum_of_digits_k44 (P := l.prog) (w := w) (base := base) hs ht D_sum_of_digits_k44 D_digits_with_turn G_digits_with_turn D_turns_of G_turns_of D_plus G_plus D_fraction G_fraction n_len n_range
  have G_fewest_tosses_k44 := ok_fewest_tosses_k44 (P := l.prog) (w := w) (base := base) hs ht D_fewest_tosses_k44 D_plus G_plus D_sum_of_digits_k44 G_sum_of_digits_k44 TNOTHING TONE
  have G_stops := ok_stops (P := l.prog) (w := w) (base := base) hs ht D_stops D_digit G_digit n_len n_range TONE
  have G_toss := ok_toss (P := l.prog) (w := w) (base := base) hs ht D_toss D_stops G_stops n_len n_range
  have G_still_going := ok_still_going (P := l.prog) (w := w) (base := base) hs ht D_still_going D_stops G_stops n_len n_range
  have G_chance_within := ok_chance_within (P := l.prog) (w := w) (base := base) hs ht D_chance_within D_power_of_two G_power_of_two D_fraction G_fraction
  have G_law_draws := ok_law_draws (P := l.prog) (w := w) (base := base) hs ht D_law_draws n_int n_len n_list n_range
  have G_law_take := ok_law_take (P := l.prog) (w := w) (base := base) hs ht D_law_take n_int n_len
  have G_law_same := ok_law_same (P := l.prog) (w := w) (base := base) hs ht D_law_same n_bool n_int n_isinstance n_len n_range n_str n_tuple 40
  have G_law_common := ok_law_common (P := l.prog) (w := w) (base := base) hs ht D_law_common n_abs n_int
  have G_law_fraction := ok_law_fraction (P := l.prog) (w := w) (base := base) hs ht D_law_fraction D_law_common G_law_common
  have G_law_rests := ok_law_rests (P := l.prog) (w := w) (base := base) hs ht D_law_rests n_int n_range
  have G_law_denominator := ok_law_denominator (P := l.prog) (w := w) (base := base) hs ht D_law_denominator D_law_take G_law_take
  have G_law_chances_2 := ok_law_chances_2 (P := l.prog) (w := w) (base := base) hs ht D_law_chances_2 D_law_take G_law_take D_law_fraction G_law_fraction n_range n_sorted n_tuple
  have G_law_mean_k44 := ok_law_mean_k44 (P := l.prog) (w := w) (base := base) hs ht D_law_mean_k44 D_law_rests G_law_rests n_len n_range
  have G_law_is_sum := ok_law_is_sum (P := l.prog) (w := w) (base := base) hs ht D_law_is_sum D_law_common G_law_common n_bool n_int n_isinstance n_len n_tuple
  have G_law_rows_k47 := ok_law_rows_k47 (P := l.prog) (w := w) (base := base) hs ht D_law_rows_k47 n_range
  have G_law_is_stop := ok_law_is_stop (P := l.prog) (w := w) (base := base) hs ht D_law_is_stop D_law_same G_law_same D_toss G_toss n_bool n_int n_isinstance n_len n_tuple
  have G_law_counts_are_right := ok_law_counts_are_right (P := l.prog) (w := w) (base := base) hs ht D_law_counts_are_right D_law_same G_law_same D_still_going G_still_going D_chance_within G_chance_within D_law_fraction G_law_fraction n_len n_range n_sum
  have G_law_right_k47_2 := ok_law_right_k47_2 (P := l.prog) (w := w) (base := base) hs ht D_law_right_k47_2 D_law_rows_k47 G_law_rows_k47 D_fewest_tosses_k44 G_fewest_tosses_k44 D_toss G_toss D_law_counts_are_right G_law_counts_are_right D_law_is_sum G_law_is_sum D_law_mean_k44 G_law_mean_k44 D_law_is_stop G_law_is_stop n_int n_len n_range
  exact ok_law_k47_2 (P := l.prog) (w := w) (base := base) hs ht D_law_k47_2 D_law_draws G_law_draws D_law_chances_2 G_law_chances_2 D_law_take G_law_take D_law_denominator G_law_denominator D_law_right_k47_2 G_law_right_k47_2 n_int
end Law_k47
open PySem PySem.W PyProof.Rows
set_option maxHeartbeats 0 in
theorem PySem.Challenge.cw_nosurebet_k47_whole_machines_make_their_holds : PySem.Challenge.rw_nosurebet_k47_whole_machines_make_their.Holds := by
  w_on; o_law; k_head; (case hw => w_witness2)
  k_fill
  refine Py.walk_py (l := PySem.Challenge.rw_nosurebet_k47_whole_machines_make_their) (n := 63) (k := 83) (x := "script") (d := D.d_law_k47_2) rfl (by decide) rfl ⟨rfl, by decide, by decide⟩ (by rfl) (fun w h Y => PySem.W.kIn_of Y) ?F Law_k47.holds
  case F =>
    intro w mg fa h KX G hmg
    refine' Law_k47.all_mk rfl KX G hmg ?a0 ?l0 ?c0 ?k0 ?a1 ?l1 ?c1 ?k1 ?a2 ?l2 ?c2 ?k2 ?a3 ?l3 ?c3 ?k3 ?a4 ?l4 ?c4 ?k4 ?a5 ?l5 ?c5 ?k5 ?a6 ?l6 ?c6 ?k6 ?a7 ?l7 ?c7 ?k7 ?a8 ?l8 ?c8 ?k8 ?a9 ?l9 ?c9 ?k9 ?a10 ?l10 ?c10 ?k10 ?a11 ?l11 ?c11 ?k11 ?a12 ?l12 ?c12 ?k12 ?a13 ?l13 ?c13 ?k13 ?a14 ?l14 ?c14 ?k14 ?a15 ?l15 ?c15 ?k15 ?a16 ?l16 ?c16 ?k16 ?a17 ?l17 ?c17 ?k17 ?a18 ?l18 ?c18 ?k18 ?a19 ?l19 ?c19 ?k19 ?a20 ?l20 ?c20 ?k20 ?a21 ?l21 ?c21 ?k21 ?a22 ?l22 ?c22 ?k22 ?a23 ?l23 ?c23 ?k23 ?a24 ?l24 ?c24 ?k24 ?a25 ?l25 ?c25 ?k25 ?a26 ?l26 ?c26 ?k26 ?a27 ?l27 ?c27 ?k27 ?a28 ?l28 ?c28 ?k28 ?z_abs ?z_bool ?z_int ?z_isinstance ?z_len ?z_list ?z_range ?z_sorted ?z_str ?z_sum ?z_tuple ?y_gcd ?q_NOTHING ?r_NOTHING ?q_ONE ?r_ONE
    (case a0 => k_is); (case l0 => k_is); (case c0 => k_is); (case k0 => k_is); (case a1 => k_is); (case l1 => k_is); (case c1 => k_is); (case k1 => k_is); (case a2 => k_is); (case l2 => k_is); (case c2 => k_is); (case k2 => k_is); (case a3 => k_is); (case l3 => k_is); (case c3 => k_is); (case k3 => k_is); (case a4 => k_is); (case l4 => k_is); (case c4 => k_is); (case k4 => k_is); (case a5 => k_is); (case l5 => k_is); (case c5 => k_is); (case k5 => k_is); (case a6 => k_is); (case l6 => k_is); (case c6 => k_is); (case k6 => k_is); (case a7 => k_is); (case l7 => k_is); (case c7 => k_is); (case k7 => k_is); (case a8 => k_is); (case l8 => k_is); (case c8 => k_is); (case k8 => k_is); (case a9 => k_is); (case l9 => k_is); (case c9 => k_is); (case k9 => k_is); (case a10 => k_is); (case l10 => k_is); (case c10 => k_is); (case k10 => k_is); (case a11 => k_is); (case l11 => k_is); (case c11 => k_is); (case k11 => k_is); (case a12 => k_is); (case l12 => k_is); (case c12 => k_is); (case k12 => k_is); (case a13 => k_is); (case l13 => k_is); (case c13 => k_is); (case k13 => k_is); (case a14 => k_is); (case l14 => k_is); (case c14 => k_is); (case k14 => k_is); (case a15 => k_is); (case l15 => k_is); (case c15 => k_is); (case k15 => k_is); (case a16 => k_is); (case l16 => k_is); (case c16 => k_is); (case k16 => k_is); (case a17 => k_is); (case l17 => k_is); (case c17 => k_is); (case k17 => k_is); (case a18 => k_is); (case l18 => k_is); (case c18 => k_is); (case k18 => k_is); (case a19 => k_is); (case l19 => k_is); (case c19 => k_is); (case k19 => k_is); (case a20 => k_is); (case l20 => k_is); (case c20 => k_is); (case k20 => k_is); (case a21 => k_is); (case l21 => k_is); (case c21 => k_is); (case k21 => k_is); (case a22 => k_is); (case l22 => k_is); (case c22 => k_is); (case k22 => k_is); (case a23 => k_is); (case l23 => k_is); (case c23 => k_is); (case k23 => k_is); (case a24 => k_is); (case l24 => k_is); (case c24 => k_is); (case k24 => k_is); (case a25 => k_is); (case l25 => k_is); (case c25 => k_is); (case k25 => k_is); (case a26 => k_is); (case l26 => k_is); (case c26 => k_is); (case k26 => k_is); (case a27 => k_is); (case l27 => k_is); (case c27 => k_is); (case k27 => k_is); (case a28 => k_is); (case l28 => k_is); (case c28 => k_is); (case k28 => k_is); (case z_abs => k_is); (case z_bool => k_is); (case z_int => k_is); (case z_isinstance => k_is); (case z_len => k_is); (case z_list => k_is); (case z_range => k_is); (case z_sorted => k_is); (case z_str => k_is); (case z_sum => k_is); (case z_tuple => k_is); (case y_gcd => k_is); (case q_NOTHING => k_is); (case r_NOTHING => k_is); (case q_ONE => k_is); (case r_ONE => k_is)
