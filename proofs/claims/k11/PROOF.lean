import PyProof.Rows.All
import Wide.All
import OpenK.AllK
import Wide.FinOn
import HandS.ForMost
import HandS.ForExc
import HandS.TupAny
import HandS.Deep
import HandS.Star
import HandS.Property
import HandS.ClsMeth
import HandS.IsInst
import HandS.Style
import PyProof.InstEq
import HandS.More
import HandS.SlotsOwn
import HandS.Text
import HandS.FStr
import HandS.Defaults
import PyProof.Rows.StrFin3
import PyProof.ReprRoads
import KE.SortData
import HandS.SortInts
import HandS.TupSets
import HandS.SetTxt0
import HandS.EndBits
import HandS.Words
import PyProof.ReprLen
import PySem.Challenge.RW_twoeach_k11_kinds_told
/-! Mini: a functional semantics of the Python subset that the laws use: values are trees, mutable things stand in a store. No library here. -/
namespace Mi

inductive D where
  | non | bl (b : Bool) | int (i : Int) | str (s : List Nat)
  | tup (xs : List D) | lst (xs : List D) | dct (kvs : List (D × D))
  | obj (c : String) (fs : List (String × D)) | rf (k : Nat)

abbrev Rho := List (Option D)
abbrev Store := List (Option D)
/-- an expression, a called thing, a thing that is walked, a target, a statement -/
abbrev M := Rho → Store → Option (D × Store)
abbrev Fn := List D → Store → Option (D × Store)
abbrev MI := Rho → Store → Option (List D × Option Nat × Store)
abbrev MG := D → Rho → Store → Option (Rho × Store)
inductive Fl where
  | nx | ret (d : D) | brk | cont
abbrev MS := Rho → Store → Option (Fl × Rho × Store)

/-- what stands at a reference -/
def top (S : Store) : D → D
  | .rf k => match S[k]? with
    | some (some d) => d
    | _ => .rf k
  | d => d

mutual
/-- no reference within -/
def D.pure : D → Bool
  | .tup xs => pureL xs
  | .lst xs => pureL xs
  | .dct kvs => pureP kvs
  | .obj _ fs => pureF fs
  | .rf _ => false
  | .non => true | .bl _ => true | .int _ => true | .str _ => true
def pureL : List D → Bool
  | [] => true
  | x :: xs => x.pure && pureL xs
def pureP : List (D × D) → Bool
  | [] => true
  | (x, y) :: xs => x.pure && y.pure && pureP xs
def pureF : List (String × D) → Bool
  | [] => true
  | (_, y) :: xs => y.pure && pureF xs
end

/-- the largest list -/
def big : Nat := 16777216

/-! ### expressions -/
def mVar (i : Nat) : M := fun ρ S => match ρ[i]? with
  | some (some d) => some (d, S)
  | _ => none
def mK (d : D) : M := fun _ S => some (d, S)
abbrev mNon : M := mK .non
abbrev mBl (b : Bool) : M := mK (.bl b)
abbrev mInt (i : Int) : M := mK (.int i)
abbrev mStr (s : List Nat) : M := mK (.str s)
def evalL : List M → Rho → Store → Option (List D × Store)
  | [], _, S => some ([], S)
  | m :: ms, ρ, S => (m ρ S).bind fun (d, S1) => (evalL ms ρ S1).bind fun (ds, S2) => some (d :: ds, S2)
def mTup (ms : List M) : M := fun ρ S => (evalL ms ρ S).bind fun (ds, S1) => some (.tup ds, S1)
def mLst (ms : List M) : M := fun ρ S => (evalL ms ρ S).bind fun (ds, S1) => some (.lst ds, S1)
/-- a list that will be changed -/
def mLstM (ms : List M) : M := fun ρ S => (evalL ms ρ S).bind fun (ds, S1) => if pureL ds then some (.rf S1.length, S1 ++ [some (.lst ds)]) else none
/-- a two-place, a one-place operation on what stands there -/
def mBin (f : D → D → Option D) (a b : M) : M := fun ρ S => (a ρ S).bind fun (x, S1) => (b ρ S1).bind fun (y, S2) => (f (top S2 x) (top S2 y)).bind fun d => some (d, S2)
def mUn (f : D → Option D) (a : M) : M := fun ρ S => (a ρ S).bind fun (x, S1) => (f (top S1 x)).bind fun d => some (d, S1)
def mAnd (a b : M) : M := fun ρ S => (a ρ S).bind fun (x, S1) => match x with
  | .bl true => b ρ S1
  | .bl false => some (.bl false, S1)
  | _ => none
def mOr (a b : M) : M := fun ρ S => (a ρ S).bind fun (x, S1) => match x with
  | .bl true => some (.bl true, S1)
  | .bl false => b ρ S1
  | _ => none
def mNot (a : M) : M := fun ρ S => (a ρ S).bind fun (x, S1) => match x with
  | .bl c => some (.bl (!c), S1)
  | _ => none
def mIf (c a b : M) : M := fun ρ S => (c ρ S).bind fun (x, S1) => match x with
  | .bl true => a ρ S1
  | .bl false => b ρ S1
  | _ => none
/-- a op b op' c -/
def mChain (f g : D → D → Option D) (a b c : M) : M := fun ρ S => (a ρ S).bind fun (x, S1) => (b ρ S1).bind fun (y, S2) => match f (top S2 x) (top S2 y) with
  | some (.bl true) => (c ρ S2).bind fun (z, S3) => (g (top S3 y) (top S3 z)).bind fun d => some (d, S3)
  | some (.bl false) => some (.bl false, S2)
  | _ => none

/-! ### operations -/
def oAdd : D → D → Option D
  | .int i, .int j => some (.int (i + j))
  | .str s, .str t => if s.length + t.length ≤ big then some (.str (s ++ t)) else none
  | .lst xs, .lst ys => if xs.length + ys.length ≤ big then some (.lst (xs ++ ys)) else none
  | .tup xs, .tup ys => if xs.length + ys.length ≤ big ∧ xs ≠ [] ∧ ys ≠ [] then some (.tup (xs ++ ys)) else none
  | _, _ => none
def oSub : D → D → Option D
  | .int i, .int j => some (.int (i - j))
  | _, _ => none
def oMul : D → D → Option D
  | .int i, .int j => if (-18446744073709551616 < i ∧ i < 18446744073709551616) ∨ (-18446744073709551616 < j ∧ j < 18446744073709551616) then some (.int (i * j)) else none
  | _, _ => none
def oFdiv : D → D → Option D
  | .int i, .int j => if 0 < j ∧ j < 1073741824 then some (.int (i / j)) else none
  | _, _ => none
def oMod : D → D → Option D
  | .int i, .int j => if 0 < j then some (.int (i % j)) else none
  | _, _ => none
def oPow : D → D → Option D
  | .int i, .int j => if 0 ≤ j ∧ j ≤ 1000000 ∧ i.natAbs < 18446744073709551616 then some (.int (i ^ j.toNat)) else none
  | _, _ => none
def oNeg : D → Option D
  | .int i => some (.int (-i))
  | _ => none

/-! ### data -/
mutual
/-- plain data within a depth: no dict, no object, no reference -/
def dataD : Nat → D → Bool
  | n, .lst xs => match n with
    | 0 => false
    | m + 1 => dataL m xs
  | n, .tup xs => match n with
    | 0 => false
    | m + 1 => dataL m xs
  | _, .non => true | _, .bl _ => true | _, .int _ => true | _, .str _ => true
  | _, .dct _ => false | _, .obj _ _ => false | _, .rf _ => false
def dataL : Nat → List D → Bool
  | _, [] => true
  | n, x :: xs => dataD n x && dataL n xs
end
mutual
/-- == of data -/
def eqD : D → D → Bool
  | .non, .non => true
  | .bl a, .bl b => a == b
  | .bl a, .int j => (if a then 1 else 0) == j
  | .int i, .bl b => i == (if b then 1 else 0)
  | .int i, .int j => i == j
  | .str x, .str y => decide (x = y)
  | .lst xs, .lst ys => eqL xs ys
  | .tup xs, .tup ys => eqL xs ys
  | _, _ => false
def eqL : List D → List D → Bool
  | [], [] => true
  | x :: xs, y :: ys => eqD x y && eqL xs ys
  | [], _ :: _ => false
  | _ :: _, [] => false
end
def oEq (x y : D) : Option D := if dataD 60 x = true ∧ dataD 60 y = true then some (.bl (eqD x y)) else none
def oNe (x y : D) : Option D := if dataD 60 x = true ∧ dataD 60 y = true then some (.bl (!eqD x y)) else none
def oIn : D → D → Option D
  | .str s, .str t => match s with
    | [c] => some (.bl (decide (c ∈ t)))
    | _ => none
  | x, .lst ys => if dataD 60 x = true ∧ dataL 59 ys = true then some (.bl (ys.any fun z => eqD z x)) else none
  | x, .tup ys => if dataD 60 x = true ∧ dataL 59 ys = true then some (.bl (ys.any fun z => eqD z x)) else none
  | _, _ => none
def oNotIn (x y : D) : Option D := match oIn x y with
  | some (.bl b) => some (.bl (!b))
  | _ => none
def oLt : D → D → Option D
  | .int i, .int j => some (.bl (decide (i < j)))
  | _, _ => none
def oLe : D → D → Option D
  | .int i, .int j => some (.bl (decide (i ≤ j)))
  | _, _ => none
def oGt : D → D → Option D
  | .int i, .int j => some (.bl (decide (j < i)))
  | _, _ => none
def oGe : D → D → Option D
  | .int i, .int j => some (.bl (decide (j ≤ i)))
  | _, _ => none
def isNon : D → Bool
  | .non => true
  | _ => false
/-- a is None, a is not None -/
def mIsN (a : M) : M := fun ρ S => (a ρ S).bind fun (x, S1) => some (.bl (isNon x), S1)
def mNotN (a : M) : M := fun ρ S => (a ρ S).bind fun (x, S1) => some (.bl (!isNon x), S1)

/-! ### items and slices -/
/-- which place a subscript means -/
def place (n : Nat) (i : Int) : Option Nat :=
  if 0 ≤ i ∧ i < n then some i.toNat
  else if i < 0 ∧ 0 ≤ i + n then some (i + n).toNat
  else none
def oItem : D → D → Option D
  | .lst xs, .int i => (place xs.length i).bind fun j => xs[j]?
  | .tup xs, .int i => (place xs.length i).bind fun j => xs[j]?
  | .str s, .int i => if s.length ≤ big then (place s.length i).bind fun j => (s[j]?).map fun c => .str [c] else none
  | _, _ => none
/-- a slice's bound, clipped -/
def clip (n : Nat) (dflt : Nat) : Option Int → Nat
  | none => dflt
  | some i => if 0 ≤ i then min i.toNat n else (i + n).toNat
def cut {α : Type} (xs : List α) (lo hi : Option Int) : List α :=
  let l := clip xs.length 0 lo
  (xs.drop l).take (clip xs.length xs.length hi - l)
def oSlice (lo hi : Option Int) : D → Option D
  | .lst xs => some (.lst (cut xs lo hi))
  | .tup xs => some (.tup (cut xs lo hi))
  | .str s => if s.length ≤ big then some (.str (cut s lo hi)) else none
  | _ => none
/-- an optional bound -/
def mOpt : Option M → Rho → Store → Option (Option Int × Store)
  | none, _, S => some (none, S)
  | some m, ρ, S => (m ρ S).bind fun (x, S1) => match x with
    | .int i => some (some i, S1)
    | _ => none
def mSlice (a : M) (lo hi : Option M) : M := fun ρ S => (a ρ S).bind fun (x, S1) => (mOpt lo ρ S1).bind fun (l, S2) => (mOpt hi ρ S2).bind fun (h, S3) => (oSlice l h (top S3 x)).bind fun d => some (d, S3)

/-! ### calls -/
def mCall (φ : Fn) (ms : List M) : M := fun ρ S => (evalL ms ρ S).bind fun (ds, S1) => φ ds S1
/-- f(*m) -/
def mStar (φ : Fn) (m : M) : M := fun ρ S => (m ρ S).bind fun (x, S1) => match top S1 x with
  | .lst xs => φ xs S1
  | .tup xs => φ xs S1
  | _ => none
def pick {α : Type} (ix : List Nat) (l : List α) : List α := ix.filterMap fun i => l[i]?
/-- keywords: what is written (and behind it the defaults xs), handed on by the places ix -/
def kwFn (n : Nat) (ix : List Nat) (xs : List D) (φ : Fn) : Fn := fun ds S => if ds.length = n then φ (pick ix (ds ++ xs)) S else none
/-- a built-in function by values -/
def mB (f : List D → Option D) (ms : List M) : M := fun ρ S => (evalL ms ρ S).bind fun (ds, S1) => (f (ds.map (top S1))).bind fun d => some (d, S1)
/-- which function a class has at a name -/
abbrev Tb := List (String × Fn)
/-- o.m(..) -/
def mMeth (n : String) (tb : Tb) (o : M) (ms : List M) : M := fun ρ S => (o ρ S).bind fun (x, S1) => match top S1 x with
  | .obj c fs => match fs.lookup n, tb.lookup c with
    | none, some φ => (evalL ms ρ S1).bind fun (ds, S2) => φ (x :: ds) S2
    | _, _ => none
  | _ => none
/-- o.f, a field -/
def mFld (cs : List String) (f : String) (o : M) : M := fun ρ S => (o ρ S).bind fun (x, S1) => match top S1 x with
  | .obj c fs => if c ∈ cs then (fs.lookup f).bind fun d => some (d, S1) else none
  | _ => none
/-- o.f, a property -/
def mProp (tb : Tb) (o : M) : M := fun ρ S => (o ρ S).bind fun (x, S1) => match top S1 x with
  | .obj c _ => match tb.lookup c with
    | some φ => φ [x] S1
    | none => none
  | _ => none
/-- o.f, a constant of the class -/
def mCon (n : String) (tb : List (String × D)) (o : M) : M := fun ρ S => (o ρ S).bind fun (x, S1) => match top S1 x with
  | .obj c fs => match fs.lookup n with
    | none => (tb.lookup c).bind fun d => some (d, S1)
    | some _ => none
  | _ => none
/-- the arguments behind the n-th are one tuple -/
def restFn (n : Nat) (φ : Fn) : Fn := fun ds S => if n ≤ ds.length ∧ ds.length ≤ big then φ (ds.take n ++ [.tup (ds.drop n)]) S else none
/-- defaults -/
def dflFn (n : Nat) (xs : List D) (φ : Fn) : Fn := fun ds S => if ds.length + xs.length = n then φ (ds ++ xs) S else φ ds S
/-- C(..): settled at once -/
def newFn (c : String) (φ : Fn) : Fn := fun ds S => match φ (.rf S.length :: ds) (S ++ [some (.obj c [])]) with
  | some (.non, S2) => match S2[S.length]? with
    | some (some o) => some (o, S2.take S.length)
    | _ => none
  | _ => none

/-! ### what a class says itself -/
/-- an operation that may call a def -/
def mTwo (f : D → D → Store → Option (D × Store)) (a b : M) : M := fun ρ S => (a ρ S).bind fun (x, S1) => (b ρ S1).bind fun (y, S2) => f x y S2
def mOne (f : D → Store → Option (D × Store)) (a : M) : M := fun ρ S => (a ρ S).bind fun (x, S1) => f x S1
/-- x in o, o an object -/
def inO (tb : Tb) (x y : D) (S : Store) : Option (D × Store) := match top S y with
  | .obj c _ => (tb.lookup c).bind fun φ => match φ [y, x] S with
    | some (.bl b, S1) => some (.bl b, S1)
    | _ => none
  | _ => none
/-- len of an object -/
def lenO (tb : Tb) (x : D) (S : Store) : Option (D × Store) := match top S x with
  | .obj c _ => (tb.lookup c).bind fun φ => match φ [x] S with
    | some (.int i, S1) => if 0 ≤ i ∧ i < 9223372036854775808 then some (.int i, S1) else none
    | _ => none
  | _ => none
/-- repr of an object -/
def reprO (tb : Tb) (x : D) (S : Store) : Option (D × Store) := match top S x with
  | .obj c _ => (tb.lookup c).bind fun φ => match φ [x] S with
    | some (.str t, S1) => some (.str t, S1)
    | _ => none
  | _ => none
/-- o[i] of an object -/
def itemO (tb : Tb) (x y : D) (S : Store) : Option (D × Store) := match top S x with
  | .obj c _ => (tb.lookup c).bind fun φ => φ [x, y] S
  | _ => none
/-- x == y, x an object; y no object of another listed class -/
def eqO (neg : Bool) (tb : Tb) (x y : D) (S : Store) : Option (D × Store) := match top S x with
  | .obj c _ => (tb.lookup c).bind fun φ => match top S y with
    | .rf _ => none
    | .obj c' _ => if c' = c then match φ [x, y] S with
      | some (.bl b, S1) => some (.bl (b != neg), S1)
      | _ => none
      else none
    | _ => match φ [x, y] S with
      | some (.bl b, S1) => some (.bl (b != neg), S1)
      | _ => none
  | _ => none

/-- by values, or as the object's class says -/
def eqX (neg : Bool) (tb : Tb) (x y : D) (S : Store) : Option (D × Store) := match top S x with
  | .obj _ _ => eqO neg tb x y S
  | dx => ((if neg then oNe else oEq) dx (top S y)).map fun d => (d, S)
def inX (neg : Bool) (tb : Tb) (x y : D) (S : Store) : Option (D × Store) := match top S y with
  | .obj _ _ => if neg then none else inO tb x y S
  | dy => ((if neg then oNotIn else oIn) (top S x) dy).map fun d => (d, S)
def itemX (x y : D) (S : Store) : Option (D × Store) := (oItem (top S x) (top S y)).map fun d => (d, S)

/-! ### built-ins -/
def fLen0 : D → Option D
  | .lst xs => some (.int xs.length)
  | .tup xs => some (.int xs.length)
  | .str s => if s.length ≤ big then some (.int s.length) else none
  | _ => none
def lenX (tb : Tb) (x : D) (S : Store) : Option (D × Store) := match top S x with
  | .obj _ _ => lenO tb x S
  | dx => (fLen0 dx).map fun d => (d, S)
def asInts : List D → Option (List Int)
  | [] => some []
  | .int i :: xs => (asInts xs).map (i :: ·)
  | _ => none
def asBools : List D → Option (List Bool)
  | [] => some []
  | .bl i :: xs => (asBools xs).map (i :: ·)
  | _ => none
def asStrs : List D → Option (List (List Nat))
  | [] => some []
  | .str i :: xs => (asStrs xs).map (i :: ·)
  | _ => none
def greatest : List Int → Option Int
  | [] => none
  | [n] => some n
  | n :: ns => (greatest ns).map fun m => if n ≤ m then m else n
def least : List Int → Option Int
  | [] => none
  | [n] => some n
  | n :: ns => (least ns).map fun m => if m ≤ n then m else n
def fLen : List D → Option D
  | [x] => fLen0 x
  | _ => none
def fAbs : List D → Option D
  | [.int i] => some (.int (if i < 0 then -i else i))
  | _ => none
def fMax : List D → Option D
  | [.int i, .int j] => some (.int (if j > i then j else i))
  | [.lst xs] => (asInts xs).bind fun ns => (greatest ns).map .int
  | _ => none
def fMin : List D → Option D
  | [.int i, .int j] => some (.int (if j < i then j else i))
  | [.lst xs] => (asInts xs).bind fun ns => (least ns).map .int
  | _ => none
def fAll : List D → Option D
  | [.lst xs] => (asBools xs).map fun bs => .bl (bs.all id)
  | _ => none
def fAny : List D → Option D
  | [.lst xs] => (asBools xs).map fun bs => .bl (bs.any id)
  | _ => none
def fSum : List D → Option D
  | [.lst xs] => (asInts xs).map fun ns => .int ns.sum
  | _ => none
def fInt : List D → Option D
  | [.int i] => some (.int i)
  | [.bl b] => some (.int (if b then 1 else 0))
  | _ => none
def fTuple : List D → Option D
  | [.lst xs] => some (.tup xs)
  | [.tup xs] => some (.tup xs)
  | _ => none
def fList : List D → Option D
  | [.lst xs] => some (.lst xs)
  | [.tup xs] => some (.lst xs)
  | _ => none
def fDivmod : List D → Option D
  | [.int i, .int j] => if 0 < j ∧ j < 1073741824 then some (.tup [.int (i / j), .int (i % j)]) else none
  | _ => none
def setStore (S : Store) (k : Nat) (d : D) : Store := S.set k (some d)
/-- list(..), to be changed -/
def mListM (m : M) : M := fun ρ S => (m ρ S).bind fun (x, S1) => match top S1 x with
  | .lst xs => if pureL xs then some (.rf S1.length, S1 ++ [some (.lst xs)]) else none
  | .tup xs => if pureL xs then some (.rf S1.length, S1 ++ [some (.lst xs)]) else none
  | _ => none
/-- o.append(x), o.extend(xs), o.pop(i), o.clear() -/
def isLst (S : Store) (k : Nat) : Bool := match S[k]? with
  | some (some (.lst _)) => true
  | _ => false
def onLst (o m : M) (f : List D → D → Store → Option (D × List D)) : M := fun ρ S => (o ρ S).bind fun (x, S1) => match x with
  | .rf k => if isLst S1 k = true then (m ρ S1).bind fun (y, S2) => match S2[k]? with
      | some (some (.lst xs)) => (f xs y S2).bind fun (d, ys) => some (d, setStore S2 k (.lst ys))
      | _ => none
    else none
  | _ => none
def fAppend (xs : List D) (y : D) (_ : Store) : Option (D × List D) := if y.pure = true ∧ xs.length < big then some (.non, xs ++ [y]) else none
def fExtend (xs : List D) (y : D) (S : Store) : Option (D × List D) := match top S y with
  | .lst ys => if pureL ys = true ∧ xs.length + ys.length ≤ big then some (.non, xs ++ ys) else none
  | _ => none
def fPop (xs : List D) (y : D) (_ : Store) : Option (D × List D) := match y with
  | .int i => if xs.length ≤ big then (place xs.length i).bind fun j => (xs[j]?).map fun d => (d, xs.eraseIdx j) else none
  | _ => none
def mAppend (o m : M) : M := onLst o m fAppend
def mExtend (o m : M) : M := onLst o m fExtend
def mPop (o m : M) : M := onLst o m fPop
def mClear (o : M) : M := fun ρ S => (o ρ S).bind fun (x, S1) => match x with
  | .rf k => match S1[k]? with
    | some (some (.lst _)) => some (.non, setStore S1 k (.lst []))
    | _ => none
  | _ => none
/-- sep.join(xs) -/
def joinN (sep : List Nat) : List (List Nat) → List Nat
  | [] => []
  | [x] => x
  | x :: xs => x ++ sep ++ joinN sep xs
/-- f'..' -/
def mJoined : List M → M := fun ms ρ S => (evalL ms ρ S).bind fun (ds, S1) => (asStrs ds).bind fun ts => if (ts.map (·.length)).sum ≤ big then some (.str ts.flatten, S1) else none
/-- {x} -/
def fFmt : D → Option D
  | .str s => if s.length ≤ big then some (.str s) else none
  | .int i => if i.natAbs.log2 < 1920 then some (.str ((toString i).toList.map Char.toNat)) else none
  | _ => none
def oJoin : D → D → Option D
  | .str s, .lst xs => (asStrs xs).bind fun ts => if (ts.map (·.length)).sum + ts.length * s.length ≤ big then some (.str (joinN s ts)) else none
  | _, _ => none
def mJoin (o e : M) : M := fun ρ S => (o ρ S).bind fun (x, S1) => match x with
  | .str s => (e ρ S1).bind fun (y, S2) => (oJoin (.str s) (top S2 y)).bind fun d => some (d, S2)
  | _ => none
/-- what built-in class a value is of -/
def isA : String → D → Bool
  | "int", .int _ => true | "int", .bl _ => true | "bool", .bl _ => true | "str", .str _ => true
  | "tuple", .tup _ => true | "list", .lst _ => true | "dict", .dct _ => true
  | _, _ => false
/-- isinstance(x, T), T built-in classes; objects of the classes cs are none of them -/
def oIsA (cs ts : List String) : D → Option D
  | .rf _ => none
  | .obj c _ => if c ∈ cs then some (.bl false) else none
  | .non => some (.bl false)
  | x => some (.bl (ts.any fun t => isA t x))
def mIsA (cs ts : List String) (m : M) : M := mUn (oIsA cs ts) m
/-- isinstance(x, C), C an own class; objects are of C alone -/
def oIsC (c : String) : D → Option D
  | .rf _ => none
  | .obj c' _ => if c' = c then some (.bl true) else none
  | _ => some (.bl false)
def mIsC (c : String) (m : M) : M := mUn (oIsC c) m

/-! ### what is walked; comprehensions -/
/-- still so -/
def still (xs : List D) (w : Option Nat) (S : Store) : Prop := match w with
  | none => True
  | some k => S[k]? = some (some (.lst xs))
def iSeq (a : M) : MI := fun ρ S => (a ρ S).bind fun (x, S1) => match x with
  | .lst xs => some (xs, none, S1)
  | .tup xs => some (xs, none, S1)
  | .rf k => match S1[k]? with
    | some (some (.lst xs)) => some (xs, some k, S1)
    | _ => none
  | _ => none
def iStr (a : M) : MI := fun ρ S => (a ρ S).bind fun (x, S1) => match x with
  | .str s => some (s.map fun c => .str [c], none, S1)
  | _ => none
/-- a text's signs, or what stands in a list or a tuple -/
def iAny (a : M) : MI := fun ρ S => match a ρ S with
  | some (.str s, S1) => iStr a ρ S
  | _ => iSeq a ρ S
def intL (lo : Int) (n : Nat) : List D := (List.range n).map fun (i : Nat) => .int (lo + (i : Int))
def iRange1 (a : M) : MI := fun ρ S => (a ρ S).bind fun (x, S1) => match x with
  | .int j => if -4611686018427387904 ≤ j ∧ j ≤ big then some (intL 0 j.toNat, none, S1) else none
  | _ => none
def iRange2 (a b : M) : MI := fun ρ S => (a ρ S).bind fun (x, S1) => (b ρ S1).bind fun (y, S2) => match x, y with
  | .int i, .int j => if -4611686018427387904 ≤ i ∧ i < 4611686018427387904 ∧ -4611686018427387904 ≤ j ∧ j < 4611686018427387904 ∧ j - i ≤ big then some (intL i (j - i).toNat, none, S2) else none
  | _, _ => none
def pairs : Nat → List D → List D
  | _, [] => []
  | i, x :: xs => .tup [.int i, x] :: pairs (i + 1) xs
def iEnum (a : M) : MI := fun ρ S => (a ρ S).bind fun (x, S1) => match x with
  | .lst xs => some (pairs 0 xs, none, S1)
  | .tup xs => some (pairs 0 xs, none, S1)
  | _ => none

def gName (i : Nat) : MG := fun d ρ S => some (ρ.set i (some d), S)
def gList : List MG → List D → Rho → Store → Option (Rho × Store)
  | [], [], ρ, S => some (ρ, S)
  | g :: gs, d :: ds, ρ, S => (g d ρ S).bind fun (ρ1, S1) => gList gs ds ρ1 S1
  | _, _, _, _ => none
def gTup (gs : List MG) : MG := fun d ρ S => match d with
  | .tup ds => gList gs ds ρ S
  | _ => none
/-- o[i] = v -/
def gSub (o i : M) : MG := fun v ρ S => (o ρ S).bind fun (x, S1) => (i ρ S1).bind fun (y, S2) => match x, y with
  | .rf k, .int j => match S2[k]? with
    | some (some (.lst xs)) => (place xs.length j).bind fun n => if v.pure then some (ρ, setStore S2 k (.lst (xs.set n v))) else none
    | _ => none
  | _, _ => none

def wipe (ρ : Rho) : List Nat → Rho
  | [] => ρ
  | v :: vs => (wipe ρ vs).set v none
def mTests : List M → M
  | [] => mK (.bl true)
  | [m] => m
  | _ => fun _ _ => none
open Classical in
/-- [elt for g in .. if ..] from here on: acc so far -/
noncomputable def comp1 (g : MG) (tt elt : M) (vs : List Nat) (all : List D) (w : Option Nat) (ρ : Rho) : List D → List D → Store → Option (List D × Store)
  | [], acc, S => if still all w S then some (acc, S) else none
  | x :: xs, acc, S => if still all w S then
      (g x (wipe ρ vs) S).bind fun (ρ1, S1) => (tt ρ1 S1).bind fun (b, S2) => match b with
        | .bl true => (elt ρ1 S2).bind fun (y, S3) => comp1 g tt elt vs all w ρ xs (acc ++ [y]) S3
        | .bl false => comp1 g tt elt vs all w ρ xs acc S2
        | _ => none
    else none
noncomputable def mComp (it : MI) (g : MG) (tt elt : M) (vs : List Nat) : M := fun ρ S => (it ρ S).bind fun (xs, w, S1) => (comp1 g tt elt vs xs w ρ xs [] S1).bind fun (ds, S2) => if xs.length ≤ big then some (.lst ds, S2) else none

/-- .. a list that will be changed -/
noncomputable def mCompM (it : MI) (g : MG) (tt elt : M) (vs : List Nat) : M := fun ρ S => (it ρ S).bind fun (xs, w, S1) => (comp1 g tt elt vs xs w ρ xs [] S1).bind fun (ds, S2) => if xs.length ≤ big ∧ pureL ds = true then some (.rf S2.length, S2 ++ [some (.lst ds)]) else none

/-! ### statements -/
def sPass : MS := fun ρ S => some (.nx, ρ, S)
def sSeq (a b : MS) : MS := fun ρ S => (a ρ S).bind fun r => match r with
  | (.nx, ρ1, S1) => b ρ1 S1
  | r => some r
def sExpr (m : M) : MS := fun ρ S => (m ρ S).bind fun (_, S1) => some (.nx, ρ, S1)
def sRet (m : M) : MS := fun ρ S => (m ρ S).bind fun (d, S1) => some (.ret d, ρ, S1)
def sRetN : MS := fun ρ S => some (.ret .non, ρ, S)
def sIf (c : M) (a b : MS) : MS := fun ρ S => (c ρ S).bind fun (x, S1) => match x with
  | .bl true => a ρ S1
  | .bl false => b ρ S1
  | _ => none
def sSet (g : MG) (m : M) : MS := fun ρ S => (m ρ S).bind fun (d, S1) => (g d ρ S1).bind fun (ρ2, S2) => some (.nx, ρ2, S2)
/-- what can't be come to -/
def sNo : MS := fun _ _ => none
def putG (f : String) (v : D) : List (String × D) → List (String × D)
  | [] => [(f, v)]
  | (g, u) :: r => if g = f then (g, v) :: r else (g, u) :: putG f v r
/-- o.f = m -/
def sFld (cs : List String) (o : M) (f : String) (m : M) : MS := fun ρ S => (m ρ S).bind fun (d, S1) => (o ρ S1).bind fun (x, S2) => match x with
  | .rf k => match S2[k]? with
    | some (some (.obj c fs)) => if d.pure = true ∧ fs.length < 900 ∧ c ∈ cs then some (.nx, ρ, setStore S2 k (.obj c (putG f d fs))) else none
    | _ => none
  | _ => none
open Classical in
noncomputable def for1 (g : MG) (body : MS) (all : List D) (w : Option Nat) : List D → MS
  | [], ρ, S => if still all w S then some (.nx, ρ, S) else none
  | x :: xs, ρ, S => if still all w S then
      (g x ρ S).bind fun (ρ1, S1) => (body ρ1 S1).bind fun r => match r with
        | (.nx, ρ2, S2) => for1 g body all w xs ρ2 S2
        | (.cont, ρ2, S2) => for1 g body all w xs ρ2 S2
        | (.brk, ρ2, S2) => some (.nx, ρ2, S2)
        | (.ret d, ρ2, S2) => some (.ret d, ρ2, S2)
    else none
noncomputable def sFor (it : MI) (g : MG) (body : MS) : MS := fun ρ S => (it ρ S).bind fun (xs, w, S1) => for1 g body xs w xs ρ S1

/-- behind a def: what it has made and is not handed back is gone, what is handed back is settled -/
def close (n : Nat) (d : D) (S : Store) : Option (D × Store) :=
  if S.length = n then some (d, S) else match d with
    | .rf k => if k < n then some (.rf k, S.take n) else match S[k]? with
      | some (some o) => some (o, S.take n)
      | _ => none
    | d => if d.pure = true then some (d, S.take n) else none
/-- a def of n parameters and l further names -/
def mFn (n l : Nat) (body : MS) : Fn := fun ds S => if ds.length = n then match body (ds.map some ++ List.replicate l none) S with
    | some (.ret d, _, S1) => close S.length d S1
    | some (.nx, _, S1) => close S.length .non S1
    | _ => none
  else none
/-- .. that hands back a thing that will be changed -/
def mFnK (n l : Nat) (body : MS) : Fn := fun ds S => if ds.length = n then match body (ds.map some ++ List.replicate l none) S with
    | some (.ret d, _, S1) => some (d, S1)
    | some (.nx, _, S1) => some (.non, S1)
    | _ => none
  else none

end Mi
set_option Elab.async false
set_option linter.all false
set_option maxRecDepth 100000
/-! Sn: Mini's combinators tell what the machine does: the relation, expressions. -/
namespace Mi
open PySem L2

abbrev toS (s : List Nat) : Str := ⟨s.toArray⟩

/-- the class named c stands at C -/
abbrev ClsAt (mg : Str → Option Value) (c : String) (C : Addr) : Prop := mg (Str.ofString c) = some (.ref C)

/-- the store's addresses; what else is kept as it is -/
structure Io where
  l : List Addr
  z : Hp
def Io.nil : Io := ⟨[], fun _ => none⟩
def Pre (a b : Io) : Prop := a.l <+: b.l ∧ a.z = b.z
theorem Pre.refl {a : Io} : Pre a a := ⟨List.prefix_refl _, rfl⟩
theorem Pre.trans {a b c : Io} (h : Pre a b) (k : Pre b c) : Pre a c := ⟨h.1.trans k.1, h.2.trans k.2⟩
mutual
inductive Rep (mg : Str → Option Value) (I : Hp) (ι : Io) : V → D → Prop
  | non : Rep mg I ι .non .non
  | bl (b : Bool) : Rep mg I ι (.bl b) (.bl b)
  | int (i : Int) : Rep mg I ι (.int i) (.int i)
  | str {s : List Nat} (h : ∀ c ∈ s, c < 0x110000) : Rep mg I ι (.str (toS s)) (.str s)
  | tup {a : Addr} {xs : List V} {ds : List D} (h : I a = some (.tup xs)) (r : Reps mg I ι xs ds) : Rep mg I ι (.ref a) (.tup ds)
  | lstR {a : Addr} {xs : List V} {ds : List D} (h : Rd I a (.lst xs)) (r : Reps mg I ι xs ds) : Rep mg I ι (.ref a) (.lst ds)
  | dct0 {a : Addr} (h : I a = some (.dK [])) : Rep mg I ι (.ref a) (.dct [])
  | obj {a C dx : Addr} {c : String} {fs : List (Str × V)} {gs : List (String × D)} (h : I a = some (.ins C dx fs)) (hd : I dx = some (.own a)) (hc : ClsAt mg c C) (r : RepF mg I ι fs gs) : Rep mg I ι (.ref a) (.obj c gs)
  | rf {a : Addr} {k : Nat} (h : ι.l[k]? = some a) : Rep mg I ι (.ref a) (.rf k)
inductive Reps (mg : Str → Option Value) (I : Hp) (ι : Io) : List V → List D → Prop
  | nil : Reps mg I ι [] []
  | cons {v : V} {vs : List V} {d : D} {ds : List D} (h : Rep mg I ι v d) (t : Reps mg I ι vs ds) : Reps mg I ι (v :: vs) (d :: ds)
inductive RepF (mg : Str → Option Value) (I : Hp) (ι : Io) : List (Str × V) → List (String × D) → Prop
  | nil : RepF mg I ι [] []
  | cons {f : String} {v : V} {fs : List (Str × V)} {d : D} {gs : List (String × D)} (h : Rep mg I ι v d) (t : RepF mg I ι fs gs) : RepF mg I ι ((Str.ofString f, v) :: fs) ((f, d) :: gs)
end
theorem Rep.lst {mg : Str → Option Value} {I : Hp} {ι : Io} {a : Addr} {xs : List V} {ds : List D} (h : I a = some (.lst xs)) (r : Reps mg I ι xs ds) : Rep mg I ι (.ref a) (.lst ds) := .lstR (.of h) r

/-- the settled part grows -/
def Le (I I' : Hp) : Prop := ∀ a o, I a = some o → I' a = some o
theorem Le.refl {I : Hp} : Le I I := fun _ _ h => h
theorem rd_le {I I' : Hp} {a : Addr} {o : HO} (h : Le I I') : Rd I a o → Rd I' a o := fun r => r.elim (fun e => .inl (h _ _ e)) fun ⟨u, e⟩ => .inr ⟨u, h _ _ e⟩
theorem Le.trans {I J K : Hp} (a : Le I J) (b : Le J K) : Le I K := fun x o h => b x o (a x o h)

theorem map_inj {l m : List Char} (h : l.map Char.toNat = m.map Char.toNat) : l = m := by
  induction l generalizing m with
  | nil => cases m with
    | nil => rfl
    | cons b m => simp at h
  | cons a l ih => cases m with
    | nil => simp at h
    | cons b m =>
      simp only [List.map_cons, List.cons.injEq] at h
      have e : a = b := Char.ext (UInt32.toNat_inj.mp h.1)
      rw [e, ih h.2]
theorem ofString_inj {a b : String} (h : Str.ofString a = Str.ofString b) : a = b := by
  rw [Str.ofString_eq_toList, Str.ofString_eq_toList] at h
  have h1 : (a.toList.map Char.toNat).toArray = (b.toList.map Char.toNat).toArray := congrArg Str.cps h
  have h2 : a.toList.map Char.toNat = b.toList.map Char.toNat := by simpa using congrArg Array.toList h1
  exact String.ext (map_inj h2)
section
variable {mg : Str → Option Value} {I I' : Hp} {ι ι' : Io}
theorem pre_get {α : Type} {l l' : List α} {k : Nat} {a : α} (h : l <+: l') (e : l[k]? = some a) : l'[k]? = some a := by
  obtain ⟨t, rfl⟩ := h
  rw [List.getElem?_append_left (List.getElem?_eq_some_iff.mp e).1]
  exact e
mutual
theorem Rep.pre (hI : Le I I') (hι : ι.l <+: ι'.l) : ∀ {v : V} {d : D}, Rep mg I ι v d → Rep mg I' ι' v d
  | _, _, .non => .non
  | _, _, .bl b => .bl b
  | _, _, .int i => .int i
  | _, _, .str h => .str h
  | _, _, .tup h r => .tup (hI _ _ h) (Reps.pre hI hι r)
  | _, _, .lstR h r => .lstR (rd_le hI h) (Reps.pre hI hι r)
  | _, _, .dct0 h => .dct0 (hI _ _ h)
  | _, _, .obj h hd hc r => .obj (hI _ _ h) (hI _ _ hd) hc (RepF.pre hI hι r)
  | _, _, .rf h => .rf (pre_get hι h)
theorem Reps.pre (hI : Le I I') (hι : ι.l <+: ι'.l) : ∀ {vs : List V} {ds : List D}, Reps mg I ι vs ds → Reps mg I' ι' vs ds
  | _, _, .nil => .nil
  | _, _, .cons h t => .cons (Rep.pre hI hι h) (Reps.pre hI hι t)
theorem RepF.pre (hI : Le I I') (hι : ι.l <+: ι'.l) : ∀ {vs : List (Str × V)} {ds : List (String × D)}, RepF mg I ι vs ds → RepF mg I' ι' vs ds
  | _, _, .nil => .nil
  | _, _, .cons h t => .cons (Rep.pre hI hι h) (RepF.pre hI hι t)
end
theorem Rep.mono (hI : Le I I') (hι : Pre ι ι') {v : V} {d : D} (r : Rep mg I ι v d) : Rep mg I' ι' v d := r.pre hI hι.1
theorem Reps.mono (hI : Le I I') (hι : Pre ι ι') {v : List V} {d : List D} (r : Reps mg I ι v d) : Reps mg I' ι' v d := r.pre hI hι.1
theorem RepF.mono (hI : Le I I') (hι : Pre ι ι') {v : List (Str × V)} {d : List (String × D)} (r : RepF mg I ι v d) : RepF mg I' ι' v d := r.pre hI hι.1
mutual
/-- what bears no reference leans on no store -/
theorem Rep.of_pure : ∀ {v : V} {d : D}, Rep mg I ι v d → d.pure = true → Rep mg I Io.nil v d
  | _, _, .non, _ => .non
  | _, _, .bl b, _ => .bl b
  | _, _, .int i, _ => .int i
  | _, _, .str h, _ => .str h
  | _, _, .tup h r, p => .tup h (Reps.of_pure r (by simpa [D.pure] using p))
  | _, _, .lstR h r, p => .lstR h (Reps.of_pure r (by simpa [D.pure] using p))
  | _, _, .dct0 h, _ => .dct0 h
  | _, _, .obj h hd hc r, p => .obj h hd hc (RepF.of_pure r (by simpa [D.pure] using p))
  | _, _, .rf h, p => by simp [D.pure] at p
theorem Reps.of_pure : ∀ {vs : List V} {ds : List D}, Reps mg I ι vs ds → pureL ds = true → Reps mg I Io.nil vs ds
  | _, _, .nil, _ => .nil
  | _, _, .cons h t, p => by
    have p' := Bool.and_eq_true_iff.mp (by simpa [pureL] using p : (_ && _) = true)
    exact .cons (Rep.of_pure h p'.1) (Reps.of_pure t p'.2)
theorem RepF.of_pure : ∀ {vs : List (Str × V)} {ds : List (String × D)}, RepF mg I ι vs ds → pureF ds = true → RepF mg I Io.nil vs ds
  | _, _, .nil, _ => .nil
  | _, _, .cons h t, p => by
    have p' := Bool.and_eq_true_iff.mp (by simpa [pureF] using p : (_ && _) = true)
    exact .cons (Rep.of_pure h p'.1) (RepF.of_pure t p'.2)
end
theorem Reps.length : ∀ {vs : List V} {ds : List D}, Reps mg I ι vs ds → vs.length = ds.length
  | _, _, .nil => rfl
  | _, _, .cons _ t => by simp [Reps.length t]
theorem Reps.get : ∀ {vs : List V} {ds : List D} {i : Nat} {d : D}, Reps mg I ι vs ds → ds[i]? = some d → ∃ v, vs[i]? = some v ∧ Rep mg I ι v d
  | _, _, _, _, .nil, e => by simp at e
  | _, _, 0, _, .cons h _, e => by
    simp at e; subst e; exact ⟨_, rfl, h⟩
  | _, _, i + 1, _, .cons _ t, e => by
    simp only [List.getElem?_cons_succ] at e ⊢
    exact Reps.get t e
theorem Reps.append : ∀ {vs us : List V} {ds es : List D}, Reps mg I ι vs ds → Reps mg I ι us es → Reps mg I ι (vs ++ us) (ds ++ es)
  | _, _, _, _, .nil, s => s
  | _, _, _, _, .cons h t, s => .cons h (Reps.append t s)
theorem Reps.snoc {vs : List V} {v : V} {ds : List D} {d : D} (h : Reps mg I ι vs ds) (r : Rep mg I ι v d) : Reps mg I ι (vs ++ [v]) (ds ++ [d]) := h.append (.cons r .nil)
theorem RepF.lookup {f : String} : ∀ {fs : List (Str × V)} {gs : List (String × D)} {d : D}, RepF mg I ι fs gs → gs.lookup f = some d → ∃ v, fs.lookup (Str.ofString f) = some v ∧ Rep mg I ι v d
  | _, _, _, .nil, e => by simp at e
  | _, _, d, .cons (f := g) (v := v) h t, e => by
    rw [List.lookup_cons] at e ⊢
    by_cases hg : f = g
    · subst hg
      simp at e ⊢
      subst e; exact h
    · have h1 : (f == g) = false := by simp [hg]
      rw [h1] at e
      have h2 : (Str.ofString f == Str.ofString g) = false := by
        exact beq_eq_false_iff_ne.mpr fun z => hg (ofString_inj z)
      rw [h2]
      exact RepF.lookup t e
end

/-- what stands in the store at k -/
inductive RepO (mg : Str → Option Value) (I H : Hp) (a : Addr) : D → Prop
  | lst {xs : List V} {ds : List D} (h : H a = some (.lst xs)) (r : Reps mg I Io.nil xs ds) : RepO mg I H a (.lst ds)
  | dct0 (h : H a = some (.dK [])) : RepO mg I H a (.dct [])
  | obj {C dx : Addr} {c : String} {fs : List (Str × V)} {gs : List (String × D)} (h : H a = some (.ins C dx fs)) (hd : H dx = some (.own a)) (hdI : I dx = none) (hc : ClsAt mg c C) (r : RepF mg I Io.nil fs gs) : RepO mg I H a (.obj c gs)

/-- the state: I settled, the store's things at ι -/
structure SR (mg : Str → Option Value) (I : Hp) (ι : Io) (S : Store) (H : Hp) : Prop where
  sub : Le I H
  len : ι.l.length = S.length
  live : ∀ (k : Nat) (d : D), S[k]? = some (some d) → ∃ a, ι.l[k]? = some a ∧ (I a = none ∧ ι.z a = none) ∧ RepO mg I H a d
  inj : ∀ (j k : Nat) (d e : D) (a : Addr), S[j]? = some (some d) → S[k]? = some (some e) → ι.l[j]? = some a → ι.l[k]? = some a → j = k
  keep : ∀ (a : Addr) (o : HO), ι.z a = some o → H a = some o ∧ I a = none ∧ ∃ xs, o = .lst xs

/-- the slots -/
def ER (mg : Str → Option Value) (I : Hp) (ι : Io) (σ : St) (ρ : Rho) : Prop := ∀ (i : Nat) (d : D), ρ[i]? = some (some d) → ∃ v, σ[i]? = some (some v) ∧ Rep mg I ι v d
theorem ER.mono {mg : Str → Option Value} {I I' : Hp} {ι ι' : Io} {σ : St} {ρ : Rho} (e : ER mg I ι σ ρ) (hI : Le I I') (hι : Pre ι ι') : ER mg I' ι' σ ρ := fun i d h =>
  let ⟨v, h1, h2⟩ := e i d h
  ⟨v, h1, h2.mono hI hι⟩

/-- what is wanted behind: d came, the store is S -/
def After (mg : Str → Option Value) (I : Hp) (ι : Io) (S : Store) (d : D) (Q : VK) : Prop :=
  ∀ (v : V) (H : Hp) (I' : Hp) (ι' : Io), Le I I' → Pre ι ι' → SR mg I' ι' S H → Rep mg I' ι' v d → Q v H
/-- an expression's reading -/
def tM (mg : Str → Option Value) (m : M) : TE := fun σ H Q => ∃ ρ S I ι d S', ER mg I ι σ ρ ∧ SR mg I ι S H ∧ m ρ S = some (d, S') ∧ After mg I ι S' d Q
abbrev ME (X : Cx) (e : Expr) (m : M) : Prop := PE X e (tM X.mg m)

theorem PE.imp {X : Cx} {e : Expr} {t t' : TE} (h : PE X e t) (f : ∀ σ H Q, t' σ H Q → t σ H Q) : PE X e t' := ⟨fun pins s σ H Q I q => h.run pins s σ H Q I (f σ H Q q)⟩

section
variable {mg : Str → Option Value} {I I1 : Hp} {ι ι1 : Io} {S S' : Store} {d : D} {Q : VK} {v : V} {H : Hp}
theorem After.mono (h : After mg I ι S d Q) (hI : Le I I1) (hι : Pre ι ι1) : After mg I1 ι1 S d Q := fun v H I' ι' a b => h v H I' ι' (hI.trans a) (hι.trans b)
theorem After.now (h : After mg I ι S d Q) (s : SR mg I ι S H) (r : Rep mg I ι v d) : Q v H := h v H I ι Le.refl (Pre.refl) s r

theorem Le.upd {I : Hp} {p : Addr} {o : HO} (h : I p = none) : Le I (upd I p o) := fun a u e => by
  rw [upd_ne (ne_of_none e h)]; exact e
theorem RepO.mono {a : Addr} {I' H' : Hp} {d : D} (r : RepO mg I H a d) (hI : Le I I') (hH : ∀ b o, (b = a ∨ H b = some (.own a)) → H b = some o → H' b = some o) (hd : ∀ dx, H dx = some (.own a) → I dx = none → I' dx = none) : RepO mg I' H' a d := by
  cases r with
  | lst h r => exact .lst (hH _ _ (.inl rfl) h) (r.mono hI Pre.refl)
  | dct0 h => exact .dct0 (hH _ _ (.inl rfl) h)
  | obj h hd' hdI hc r => exact .obj (hH _ _ (.inl rfl) h) (hH _ _ (.inr hd') hd') (hd _ hd' hdI) hc (r.mono hI (Pre.refl))
/-- a new settled thing -/
theorem SR.laid (s : SR mg I ι S H) {p : Addr} {o : HO} (hp : H p = none) : SR mg (upd I p o) ι S (upd H p o) ∧ Le I (upd I p o) := by
  have hI : I p = none := by
    cases e : I p with
    | none => rfl
    | some u => rw [s.sub p u e] at hp; cases hp
  have hz : ∀ a u, ι.z a = some u → a ≠ p := fun a u e z => by subst z; rw [(s.keep _ u e).1] at hp; cases hp
  refine ⟨⟨fun a u e => ?_, s.len, fun k d e => ?_, s.inj, fun a u e => ?_⟩, Le.upd hI⟩
  · by_cases ha : a = p
    · subst ha; rw [upd_same] at e ⊢; exact e
    · rw [upd_ne ha] at e ⊢; exact s.sub a u e
  · obtain ⟨a, h1, h2, h3⟩ := s.live k d e
    have hap : a ≠ p := by
      rintro rfl
      cases h3 with
      | lst h _ => rw [hp] at h; cases h
      | dct0 h => rw [hp] at h; cases h
      | obj h _ _ _ _ => rw [hp] at h; cases h
    refine ⟨a, h1, ⟨by rw [upd_ne hap]; exact h2.1, h2.2⟩, h3.mono (Le.upd hI) (fun b u _ e => by rw [upd_ne (ne_of_none e hp)]; exact e) fun dx e q => ?_⟩
    rw [upd_ne (ne_of_none e hp)]; exact q
  · rw [upd_ne (hz a u e), upd_ne (hz a u e)]; exact s.keep a u e
end

/-! ### names, constants -/
section
variable {X : Cx}
theorem me_var {i : Nat} {x : Str} {pos : Pos} (hN : X.N[i]? = some x) (hv : Vis X.env.scope x) (hd : (x == ("__debug__" : Str)) = false := by decide) (hcd : (x == ("__classdict__" : Str)) = false := by decide) : ME X (.Name x pos) (mVar i) := by
  refine PE.imp (pe_var hN hv hd hcd) ?_
  rintro σ H Q ⟨ρ, S, I, ι, d, S', e, s, hm, q⟩
  unfold mVar at hm
  split at hm
  · rename_i d' h
    cases hm
    obtain ⟨v, h1, h2⟩ := e i _ h
    exact ⟨v, h1, q.now s h2⟩
  · cases hm
theorem me_int {i j pos} : ME X (.Constant (.int i) j pos) (mInt i) := by
  refine PE.imp pe_int ?_
  rintro σ H Q ⟨ρ, S, I, ι, d, S', e, s, hm, q⟩
  cases hm
  exact q.now s (.int i)
theorem me_bl {i j pos} : ME X (.Constant (.bool i) j pos) (mBl i) := by
  refine PE.imp pe_bl ?_
  rintro σ H Q ⟨ρ, S, I, ι, d, S', e, s, hm, q⟩
  cases hm
  exact q.now s (.bl i)
theorem me_non {j pos} : ME X (.Constant .none j pos) mNon := by
  refine PE.imp pe_non ?_
  rintro σ H Q ⟨ρ, S, I, ι, d, S', e, s, hm, q⟩
  cases hm
  exact q.now s .non
theorem me_str {x : Str} {c : List Nat} {j pos} (h : x = toS c := by rfl) (hc : ∀ n ∈ c, n < 0x110000 := by decide) : ME X (.Constant (.str x) j pos) (mStr c) := by
  subst h
  refine PE.imp pe_str ?_
  rintro σ H Q ⟨ρ, S, I, ι, d, S', e, s, hm, q⟩
  cases hm
  exact q.now s (.str hc)

/-! ### two-place operations -/
/-- by values: f tells what the operation yields; nothing in the store changes -/
def rM (mg : Str → Option Value) (f : D → D → Option D) : R2 := fun x y H Q => ∃ S I ι dx dy d, SR mg I ι S H ∧ Rep mg I ι x dx ∧ Rep mg I ι y dy ∧ f (top S dx) (top S dy) = some d ∧ After mg I ι S d Q
theorem OpR.imp {f : Value → Value → Sem Value} {r r' : R2} (h : OpR X f r) (i : ∀ x y H Q, r' x y H Q → r x y H Q) : OpR X f r' := fun pins s σ H x y v u Q I rx ry q => h pins s σ H x y v u Q I rx ry (i x y H Q q)
theorem tM_bin {ma mb : M} {f : D → D → Option D} {σ : St} {H : Hp} {Q : VK} (h : tM X.mg (mBin f ma mb) σ H Q) : tOp (rM X.mg f) (tM X.mg ma) (tM X.mg mb) σ H Q := by
  obtain ⟨ρ, S, I, ι, d, S', e, s, hm, q⟩ := h
  unfold mBin at hm
  obtain ⟨⟨x, S1⟩, h1, hm⟩ := Option.bind_eq_some_iff.mp hm
  obtain ⟨⟨y, S2⟩, h2, hm⟩ := Option.bind_eq_some_iff.mp hm
  obtain ⟨z, h3, hm⟩ := Option.bind_eq_some_iff.mp hm
  cases hm
  refine ⟨ρ, S, I, ι, x, S1, e, s, h1, fun v1 H1 I1 ι1 l1 p1 s1 r1 => ?_⟩
  refine ⟨ρ, S1, I1, ι1, y, S', e.mono l1 p1, s1, h2, fun v2 H2 I2 ι2 l2 p2 s2 r2 => ?_⟩
  exact ⟨S', I2, ι2, x, y, d, s2, r1.mono l2 p2, r2, h3, q.mono (l1.trans l2) (p1.trans p2)⟩
theorem me_bin {op : Operator} {f : D → D → Option D} {a b : Expr} {ma mb : M} {pos : Pos} (ho : OpR X (binaryOp op) (rM X.mg f)) (ha : ME X a ma) (hb : ME X b mb) : ME X (.BinOp a op b pos) (mBin f ma mb) :=
  PE.imp (pe_op ho ha hb) fun _ _ _ h => tM_bin h
theorem me_cmp {op : CmpOp} {f : D → D → Option D} {a b : Expr} {ma mb : M} {pos : Pos} (ho : OpR X (compareOp op) (rM X.mg f)) (hm : behindInMarks op b = false) (ha : ME X a ma) (hb : ME X b mb) : ME X (.Compare a [op] [b] pos) (mBin f ma mb) :=
  PE.imp (pe_cmpR ho ha hb hm) fun _ _ _ h => tM_bin h
end
end Mi
set_option Elab.async false
set_option linter.all false
set_option maxRecDepth 100000
namespace Mi
open PySem L2
/-! ### what is seen of a thing -/
section
variable {mg : Str → Option Value} {I : Hp} {ι : Io} {S : Store} {H : Hp} {x : V} {dx : D}
theorem top_cases (s : SR mg I ι S H) (r : Rep mg I ι x dx) : (top S dx = dx ∧ ∀ k, dx ≠ .rf k) ∨ (∃ k, dx = .rf k ∧ top S dx = .rf k) ∨ ∃ k d a, dx = .rf k ∧ x = .ref a ∧ top S dx = d ∧ RepO mg I H a d := by
  cases r with
  | rf h =>
    rename_i a k
    cases e : S[k]? with
    | none => exact .inr (.inl ⟨k, rfl, by simp [top, e]⟩)
    | some o => cases o with
      | none => exact .inr (.inl ⟨k, rfl, by simp [top, e]⟩)
      | some d =>
        obtain ⟨b, h1, _, h3⟩ := s.live k d e
        rw [h] at h1; cases h1
        exact .inr (.inr ⟨k, d, a, rfl, rfl, by simp [top, e], h3⟩)
  | _ => exact .inl ⟨rfl, fun k z => nomatch z⟩
theorem seen_int {i : Int} (s : SR mg I ι S H) (r : Rep mg I ι x dx) (e : top S dx = .int i) : x = .int i := by
  rcases top_cases s r with ⟨h, _⟩ | ⟨k, _, h⟩ | ⟨k, d, a, _, _, h, q⟩
  · rw [h] at e; subst e; cases r; rfl
  · rw [h] at e; cases e
  · rw [h] at e; subst e; cases q
theorem seen_bl {i : Bool} (s : SR mg I ι S H) (r : Rep mg I ι x dx) (e : top S dx = .bl i) : x = .bl i := by
  rcases top_cases s r with ⟨h, _⟩ | ⟨k, _, h⟩ | ⟨k, d, a, _, _, h, q⟩
  · rw [h] at e; subst e; cases r; rfl
  · rw [h] at e; cases e
  · rw [h] at e; subst e; cases q
theorem seen_non (s : SR mg I ι S H) (r : Rep mg I ι x dx) (e : top S dx = .non) : x = .non := by
  rcases top_cases s r with ⟨h, _⟩ | ⟨k, _, h⟩ | ⟨k, d, a, _, _, h, q⟩
  · rw [h] at e; subst e; cases r; rfl
  · rw [h] at e; cases e
  · rw [h] at e; subst e; cases q
theorem seen_str {c : List Nat} (s : SR mg I ι S H) (r : Rep mg I ι x dx) (e : top S dx = .str c) : x = .str (toS c) ∧ ∀ n ∈ c, n < 0x110000 := by
  rcases top_cases s r with ⟨h, _⟩ | ⟨k, _, h⟩ | ⟨k, d, a, _, _, h, q⟩
  · rw [h] at e; subst e; cases r with | str hc => exact ⟨rfl, hc⟩
  · rw [h] at e; cases e
  · rw [h] at e; subst e; cases q
theorem seen_tup {ds : List D} (s : SR mg I ι S H) (r : Rep mg I ι x dx) (e : top S dx = .tup ds) : ∃ a xs, x = .ref a ∧ H a = some (.tup xs) ∧ I a = some (.tup xs) ∧ Reps mg I ι xs ds := by
  rcases top_cases s r with ⟨h, _⟩ | ⟨k, _, h⟩ | ⟨k, d, a, _, _, h, q⟩
  · rw [h] at e; subst e; cases r with | tup hI rs => exact ⟨_, _, rfl, s.sub _ _ hI, hI, rs⟩
  · rw [h] at e; cases e
  · rw [h] at e; subst e; cases q
theorem seen_lst {ds : List D} (s : SR mg I ι S H) (r : Rep mg I ι x dx) (e : top S dx = .lst ds) : ∃ a xs, x = .ref a ∧ Rd H a (.lst xs) ∧ Reps mg I ι xs ds := by
  rcases top_cases s r with ⟨h, _⟩ | ⟨k, _, h⟩ | ⟨k, d, a, _, hx, h, q⟩
  · rw [h] at e; subst e; cases r with | lstR hI rs => exact ⟨_, _, rfl, rd_le s.sub hI, rs⟩
  · rw [h] at e; cases e
  · rw [h] at e; subst e
    cases q with | lst hH rs => exact ⟨a, _, hx, .of hH, rs.pre Le.refl List.nil_prefix⟩
theorem seen_dct0 (s : SR mg I ι S H) (r : Rep mg I ι x dx) (e : top S dx = .dct []) : ∃ a, x = .ref a ∧ H a = some (.dK []) := by
  rcases top_cases s r with ⟨h, _⟩ | ⟨k, _, h⟩ | ⟨k, d, a, _, hx, h, q⟩
  · rw [h] at e; subst e; cases r with | dct0 hI => exact ⟨_, rfl, s.sub _ _ hI⟩
  · rw [h] at e; cases e
  · rw [h] at e; subst e
    cases q with | dct0 hH => exact ⟨a, hx, hH⟩
theorem seen_obj {c : String} {gs : List (String × D)} (s : SR mg I ι S H) (r : Rep mg I ι x dx) (e : top S dx = .obj c gs) : ∃ a C d fs, x = .ref a ∧ H a = some (.ins C d fs) ∧ H d = some (.own a) ∧ ClsAt mg c C ∧ RepF mg I ι fs gs := by
  rcases top_cases s r with ⟨h, _⟩ | ⟨k, _, h⟩ | ⟨k, d, a, _, hx, h, q⟩
  · rw [h] at e; subst e; cases r with | obj hI hd hc rs => exact ⟨_, _, _, _, rfl, s.sub _ _ hI, s.sub _ _ hd, hc, rs⟩
  · rw [h] at e; cases e
  · rw [h] at e; subst e
    cases q with | obj hH hd hdI hc rs => exact ⟨a, _, _, _, hx, hH, hd, hc, rs.pre Le.refl List.nil_prefix⟩
variable {d : D} {Q : VK}
theorem After.tup {p : Addr} {xs : List V} {ds : List D} (q : After mg I ι S (.tup ds) Q) (s : SR mg I ι S H) (hp : H p = none) (r : Reps mg I ι xs ds) : Q (.ref p) (upd H p (.tup xs)) :=
  let ⟨s', l⟩ := s.laid (o := .tup xs) hp
  q _ _ _ _ l (Pre.refl) s' (.tup upd_same (r.mono l (Pre.refl)))
theorem After.lst {p : Addr} {xs : List V} {ds : List D} (q : After mg I ι S (.lst ds) Q) (s : SR mg I ι S H) (hp : H p = none) (r : Reps mg I ι xs ds) : Q (.ref p) (upd H p (.lst xs)) :=
  let ⟨s', l⟩ := s.laid (o := .lst xs) hp
  q _ _ _ _ l (Pre.refl) s' (.lst upd_same (r.mono l (Pre.refl)))
end
theorem big_le {n : Nat} (h : n ≤ big) : n ≤ sizeLine := by
  have := PySem.sizeLine_eq
  unfold big at h; omega
theorem toS_len (s : List Nat) : (toS s).length = s.length := by simp [toS, Str.length]
theorem toS_app (s t : List Nat) : toS s ++ toS t = toS (s ++ t) := by
  show (⟨s.toArray ++ t.toArray⟩ : Str) = ⟨(s ++ t).toArray⟩
  simp

section
variable {X : Cx}
/-- list + list -/
def rCatR : R2 := fun x y H Q => ∃ l b xs zs, x = .ref l ∧ y = .ref b ∧ Rd H l (.lst xs) ∧ Rd H b (.lst zs) ∧ xs.length + zs.length ≤ sizeLine ∧ ∀ p, H p = none → Q (.ref p) (upd H p (.lst (xs ++ zs)))
theorem op_catR : OpR X (binaryOp .Add) rCatR := by
  rintro pins s σ H x y v u Q I rx ry ⟨l, b, xs, zs, rfl, rfl, hH, hB, hz, q⟩
  cases rx
  cases ry
  obtain ⟨z, its, n, r, e⟩ := (hH.ok I.hok : ObjOk X.prog X.w H s.heap l (.lst xs))
  obtain ⟨z2, its2, n2, r2, e2⟩ := (hB.ok I.hok : ObjOk X.prog X.w H s.heap b (.lst zs))
  have hl := r.length
  have hl2 := r2.length
  refine PySem.P.add_list e e2 ?_ (by rw [List.size_toArray, List.size_toArray]; omega)
  have ea : its.toArray ++ its2.toArray = (its ++ its2).toArray := by simp
  rw [ea]
  exact ⟨.ref _, _, I.lnew (t' := s.toks) (r.append r2) (by rw [List.length_append]; omega), rfl, q _ I.fresh⟩
theorem oM_add : OpR X (binaryOp .Add) (rM X.mg oAdd) := by
  refine OpR.imp (OpR.or op_add (OpR.or op_add_str (OpR.or op_catR op_catT))) ?_
  rintro x y H Q ⟨S, I, ι, dx, dy, d, s, rx, ry, h, q⟩
  unfold oAdd at h
  split at h
  · rename_i i j e1 e2
    cases h
    exact .inl ⟨i, j, seen_int s rx e1, seen_int s ry e2, q.now s (.int _)⟩
  · rename_i a b e1 e2
    split at h
    · rename_i hl
      cases h
      obtain ⟨h1, c1⟩ := seen_str s rx e1
      obtain ⟨h2, c2⟩ := seen_str s ry e2
      refine .inr (.inl ⟨toS a, toS b, h1, h2, ?_, ?_⟩)
      · rw [toS_len, toS_len]; exact big_le hl
      · rw [toS_app]
        exact q.now s (.str fun n hn => (List.mem_append.mp hn).elim (c1 n) (c2 n))
    · cases h
  · rename_i a b e1 e2
    split at h
    · rename_i hl
      cases h
      obtain ⟨l, xs, rfl, h1, r1⟩ := seen_lst s rx e1
      obtain ⟨m, ys, rfl, h2, r2⟩ := seen_lst s ry e2
      refine .inr (.inr (.inl ⟨l, m, xs, ys, rfl, rfl, h1, h2, ?_, fun p hp => ?_⟩))
      · rw [r1.length, r2.length]; exact big_le hl
      · exact q.lst s hp (r1.append r2)
    · cases h
  · rename_i a b e1 e2
    split at h
    · rename_i hl
      cases h
      obtain ⟨l, xs, rfl, h1, _, r1⟩ := seen_tup s rx e1
      obtain ⟨m, ys, rfl, h2, _, r2⟩ := seen_tup s ry e2
      have n1 : xs ≠ [] := fun z => by subst z; cases r1; exact hl.2.1 rfl
      have n2 : ys ≠ [] := fun z => by subst z; cases r2; exact hl.2.2 rfl
      refine .inr (.inr (.inr ⟨l, m, xs, ys, rfl, rfl, .inl (.inl h1), .inl (.inl h2), n1, ?_, fun z => absurd z n2, fun _ p hp => ?_⟩))
      · rw [r1.length, r2.length]; exact big_le hl.1
      · exact q.tup s hp (r1.append r2)
    · cases h
  · cases h
theorem oM_sub : OpR X (binaryOp .Sub) (rM X.mg oSub) := by
  refine OpR.imp op_sub ?_
  rintro x y H Q ⟨S, I, ι, dx, dy, d, s, rx, ry, h, q⟩
  unfold oSub at h
  split at h
  · rename_i i j e1 e2
    cases h
    exact ⟨i, j, seen_int s rx e1, seen_int s ry e2, q.now s (.int _)⟩
  · cases h
theorem oM_mul : OpR X (binaryOp .Mult) (rM X.mg oMul) := by
  refine OpR.imp op_mul ?_
  rintro x y H Q ⟨S, I, ι, dx, dy, d, s, rx, ry, h, q⟩
  unfold oMul at h
  split at h
  · rename_i i j e1 e2
    split at h
    · rename_i hc
      cases h
      exact ⟨i, j, seen_int s rx e1, seen_int s ry e2, hc, q.now s (.int _)⟩
    · cases h
  · cases h
theorem oM_fdiv : OpR X (binaryOp .FloorDiv) (rM X.mg oFdiv) := by
  refine OpR.imp op_fdiv ?_
  rintro x y H Q ⟨S, I, ι, dx, dy, d, s, rx, ry, h, q⟩
  unfold oFdiv at h
  split at h
  · rename_i i j e1 e2
    split at h
    · rename_i hc
      cases h
      exact ⟨i, j, seen_int s rx e1, seen_int s ry e2, hc, q.now s (.int _)⟩
    · cases h
  · cases h
theorem oM_mod : OpR X (binaryOp .Mod) (rM X.mg oMod) := by
  refine OpR.imp op_mod ?_
  rintro x y H Q ⟨S, I, ι, dx, dy, d, s, rx, ry, h, q⟩
  unfold oMod at h
  split at h
  · rename_i i j e1 e2
    split at h
    · rename_i hc
      cases h
      exact ⟨i, j, seen_int s rx e1, seen_int s ry e2, hc, q.now s (.int _)⟩
    · cases h
  · cases h
theorem oM_pow : OpR X (binaryOp .Pow) (rM X.mg oPow) := by
  refine OpR.imp op_pow ?_
  rintro x y H Q ⟨S, I, ι, dx, dy, d, s, rx, ry, h, q⟩
  unfold oPow at h
  split at h
  · rename_i i j e1 e2
    split at h
    · rename_i hc
      cases h
      exact ⟨i, j, seen_int s rx e1, seen_int s ry e2, hc, q.now s (.int _)⟩
    · cases h
  · cases h
end
end Mi
set_option Elab.async false
set_option linter.all false
set_option maxRecDepth 100000
namespace Mi
open PySem L2
/-- a test's reading -/
def tT (mg : Str → Option Value) (m : M) : TT := fun σ H Q => ∃ ρ S I ι b S', ER mg I ι σ ρ ∧ SR mg I ι S H ∧ m ρ S = some (.bl b, S') ∧ ∀ (H' I' : Hp) (ι' : Io), Le I I' → Pre ι ι' → SR mg I' ι' S' H' → Q b H'
abbrev MT (X : Cx) (e : Expr) (m : M) : Prop := PT X e (tT X.mg m)
abbrev MW (X : Cx) (e : Expr) (m : M) : Prop := PW X e (tT X.mg m)
section
variable {X : Cx} {a b c : Expr} {ma mb mc : M} {pos : Pos}
theorem PT.imp {e : Expr} {t t' : TT} (h : PT X e t) (f : ∀ σ H Q, t' σ H Q → t σ H Q) : PT X e t' := ⟨fun pins s σ H Q I q => h.run pins s σ H Q I (f σ H Q q)⟩
theorem PW.imp {e : Expr} {t t' : TT} (h : PW X e t) (f : ∀ σ H Q, t' σ H Q → t σ H Q) : PW X e t' := ⟨fun wh pins s σ H Q I q => h.run wh pins s σ H Q I (f σ H Q q)⟩
/-- a bool's reading as a value -/
theorem tT_val {σ : St} {H : Hp} {Q : Bool → Hp → Prop} {m : M} (h : tT X.mg m σ H Q) : tM X.mg m σ H (fun x H' => ∃ k, x = .bl k ∧ Q k H') := by
  obtain ⟨ρ, S, I, ι, k, S', e, s, hm, q⟩ := h
  refine ⟨ρ, S, I, ι, .bl k, S', e, s, hm, fun v H' I' ι' l p s' r => ?_⟩
  cases r
  exact ⟨k, rfl, q H' I' ι' l p s'⟩
theorem mt_val {e : Expr} {m : M} (h : ME X e m) (he : ∀ whole, isTrue e X.env whole = (do let v ← whole; standAt e.pos; holding [v] (truthy v)) := by intro _; rfl) : MT X e m :=
  PT.imp (pt_val h he) fun σ H Q q => tT_val q
theorem mt_cmp {op : CmpOp} {f : D → D → Option D} (ho : OpR X (compareOp op) (rM X.mg f)) (hm : behindInMarks op b = false) (ha : ME X a ma) (hb : ME X b mb) : MT X (.Compare a [op] [b] pos) (mBin f ma mb) :=
  PT.imp (pt_cmpR ho ha hb hm) fun σ H Q q => tM_bin (tT_val q)

theorem tM_chain {f g : D → D → Option D} {σ : St} {H : Hp} {Q : VK} (h : tM X.mg (mChain f g ma mb mc) σ H Q) : tChain (rM X.mg f) (rM X.mg g) (tM X.mg ma) (tM X.mg mb) (tM X.mg mc) σ H Q := by
  obtain ⟨ρ, S, I, ι, d, S', e, s, hm, q⟩ := h
  unfold mChain at hm
  obtain ⟨⟨x, S1⟩, h1, hm⟩ := Option.bind_eq_some_iff.mp hm
  obtain ⟨⟨y, S2⟩, h2, hm⟩ := Option.bind_eq_some_iff.mp hm
  refine ⟨ρ, S, I, ι, x, S1, e, s, h1, fun v1 H1 I1 ι1 l1 p1 s1 r1 => ?_⟩
  refine ⟨ρ, S1, I1, ι1, y, S2, e.mono l1 p1, s1, h2, fun v2 H2 I2 ι2 l2 p2 s2 r2 => ?_⟩
  simp only at hm
  split at hm
  · rename_i h3
    refine ⟨S2, I2, ι2, x, y, .bl true, s2, r1.mono l2 p2, r2, h3, fun v3 H3 I3 ι3 l3 p3 s3 r3 => ?_⟩
    cases r3
    refine ⟨true, rfl, ?_⟩
    refine iteT ?_
    obtain ⟨⟨z, S3⟩, h4, hm⟩ := Option.bind_eq_some_iff.mp hm
    obtain ⟨w, h5, hm⟩ := Option.bind_eq_some_iff.mp hm
    cases hm
    refine ⟨ρ, S2, I3, ι3, z, S3, e.mono ((l1.trans l2).trans l3) ((p1.trans p2).trans p3), s3, h4, fun v4 H4 I4 ι4 l4 p4 s4 r4 => ?_⟩
    exact ⟨S3, I4, ι4, y, z, d, s4, r2.mono (l3.trans l4) (p3.trans p4), r4, h5, q.mono (((l1.trans l2).trans l3).trans l4) (((p1.trans p2).trans p3).trans p4)⟩
  · rename_i h3
    cases hm
    refine ⟨S', I2, ι2, x, y, .bl false, s2, r1.mono l2 p2, r2, h3, fun v3 H3 I3 ι3 l3 p3 s3 r3 => ?_⟩
    cases r3
    refine ⟨false, rfl, ?_⟩
    refine iteF ?_
    exact (q.mono ((l1.trans l2).trans l3) ((p1.trans p2).trans p3)).now s3 (.bl false)
  · cases hm
theorem me_chain {op op' : CmpOp} {f g : D → D → Option D} (ho : OpR X (compareOp op) (rM X.mg f)) (ho' : OpR X (compareOp op') (rM X.mg g)) (ha : ME X a ma) (hb : ME X b mb) (hc : ME X c mc)
    (hm : lastMarks [op, op'] [b, c] = false := by with_unfolding_all rfl) : ME X (.Compare a [op, op'] [b, c] pos) (mChain f g ma mb mc) :=
  PE.imp (pe_chain ho ho' ha hb hc hm) fun σ H Q q => tM_chain q
theorem mt_chain {op op' : CmpOp} {f g : D → D → Option D} (ho : OpR X (compareOp op) (rM X.mg f)) (ho' : OpR X (compareOp op') (rM X.mg g)) (ha : ME X a ma) (hb : ME X b mb) (hc : ME X c mc)
    (hm : lastMarks [op, op'] [b, c] = false := by with_unfolding_all rfl) : MT X (.Compare a [op, op'] [b, c] pos) (mChain f g ma mb mc) :=
  PT.imp (pt_chain ho ho' ha hb hc hm) fun σ H Q q => tM_chain (tT_val q)

theorem mt_not (ha : MT X a ma) : MT X (.UnaryOp .Not a pos) (mNot ma) := by
  refine PT.imp (pt_not ha) ?_
  rintro σ H Q ⟨ρ, S, I, ι, k, S', e, s, hm, q⟩
  unfold mNot at hm
  obtain ⟨⟨x, S1⟩, h1, hm⟩ := Option.bind_eq_some_iff.mp hm
  simp only at hm
  split at hm
  · rename_i c
    cases hm
    exact ⟨ρ, S, I, ι, c, S', e, s, h1, q⟩
  · cases hm
theorem me_not (ha : ME X a ma) : ME X (.UnaryOp .Not a pos) (mNot ma) := by
  refine PE.imp (pe_not ha) ?_
  rintro σ H Q ⟨ρ, S, I, ι, d, S', e, s, hm, q⟩
  unfold mNot at hm
  obtain ⟨⟨x, S1⟩, h1, hm⟩ := Option.bind_eq_some_iff.mp hm
  simp only at hm
  split at hm
  · rename_i c
    cases hm
    refine ⟨ρ, S, I, ι, .bl c, S', e, s, h1, fun v1 H1 I1 ι1 l1 p1 s1 r1 => ?_⟩
    cases r1
    exact ⟨c, rfl, (q.mono l1 p1).now s1 (.bl _)⟩
  · cases hm
theorem mw_and1 (ha : MT X a ma) : MW X (.BoolOp .And [a] pos) ma := pw_and1 ha
theorem mw_or1 (ha : MT X a ma) : MW X (.BoolOp .Or [a] pos) ma := pw_or1 ha
variable {rest : List Expr}
theorem mw_and (ha : MT X a ma) (hb : MW X (.BoolOp .And (b :: rest) pos) mb) : MW X (.BoolOp .And (a :: b :: rest) pos) (mAnd ma mb) := by
  refine PW.imp (pw_and ha hb) ?_
  rintro σ H Q ⟨ρ, S, I, ι, k, S', e, s, hm, q⟩
  unfold mAnd at hm
  obtain ⟨⟨x, S1⟩, h1, hm⟩ := Option.bind_eq_some_iff.mp hm
  simp only at hm
  split at hm
  · refine ⟨ρ, S, I, ι, true, S1, e, s, h1, fun H1 I1 ι1 l1 p1 s1 => ?_⟩
    refine iteT ?_
    exact ⟨ρ, S1, I1, ι1, k, S', e.mono l1 p1, s1, hm, fun H2 I2 ι2 l2 p2 s2 => q H2 I2 ι2 (l1.trans l2) (p1.trans p2) s2⟩
  · cases hm
    refine ⟨ρ, S, I, ι, false, S', e, s, h1, fun H1 I1 ι1 l1 p1 s1 => ?_⟩
    refine iteF ?_
    exact q H1 I1 ι1 l1 p1 s1
  · cases hm
theorem mw_or (ha : MT X a ma) (hb : MW X (.BoolOp .Or (b :: rest) pos) mb) : MW X (.BoolOp .Or (a :: b :: rest) pos) (mOr ma mb) := by
  refine PW.imp (pw_or ha hb) ?_
  rintro σ H Q ⟨ρ, S, I, ι, k, S', e, s, hm, q⟩
  unfold mOr at hm
  obtain ⟨⟨x, S1⟩, h1, hm⟩ := Option.bind_eq_some_iff.mp hm
  simp only at hm
  split at hm
  · cases hm
    refine ⟨ρ, S, I, ι, true, S', e, s, h1, fun H1 I1 ι1 l1 p1 s1 => ?_⟩
    refine iteT ?_
    exact q H1 I1 ι1 l1 p1 s1
  · refine ⟨ρ, S, I, ι, false, S1, e, s, h1, fun H1 I1 ι1 l1 p1 s1 => ?_⟩
    refine iteF ?_
    exact ⟨ρ, S1, I1, ι1, k, S', e.mono l1 p1, s1, hm, fun H2 I2 ι2 l2 p2 s2 => q H2 I2 ι2 (l1.trans l2) (p1.trans p2) s2⟩
  · cases hm
theorem mt_w {e : Expr} {m : M} (h : MW X e m) : MT X e m := h.pt
theorem me_one {op : BoolOp} (h : ME X a ma) : ME X (.BoolOp op [a] pos) ma := pe_one h
theorem me_and (ha : ME X a ma) (hb : ME X (.BoolOp .And (b :: rest) pos) mb) : ME X (.BoolOp .And (a :: b :: rest) pos) (mAnd ma mb) := by
  refine PE.imp (pe_and ha hb) ?_
  rintro σ H Q ⟨ρ, S, I, ι, d, S', e, s, hm, q⟩
  unfold mAnd at hm
  obtain ⟨⟨x, S1⟩, h1, hm⟩ := Option.bind_eq_some_iff.mp hm
  simp only at hm
  split at hm
  · refine ⟨ρ, S, I, ι, .bl true, S1, e, s, h1, fun v1 H1 I1 ι1 l1 p1 s1 r1 => ?_⟩
    cases r1
    refine ⟨true, rfl, ?_⟩
    refine iteT ?_
    exact ⟨ρ, S1, I1, ι1, d, S', e.mono l1 p1, s1, hm, q.mono l1 p1⟩
  · cases hm
    refine ⟨ρ, S, I, ι, .bl false, S', e, s, h1, fun v1 H1 I1 ι1 l1 p1 s1 r1 => ?_⟩
    cases r1
    refine ⟨false, rfl, ?_⟩
    refine iteF ?_
    exact (q.mono l1 p1).now s1 (.bl false)
  · cases hm
theorem me_or (ha : ME X a ma) (hb : ME X (.BoolOp .Or (b :: rest) pos) mb) : ME X (.BoolOp .Or (a :: b :: rest) pos) (mOr ma mb) := by
  refine PE.imp (pe_or ha hb) ?_
  rintro σ H Q ⟨ρ, S, I, ι, d, S', e, s, hm, q⟩
  unfold mOr at hm
  obtain ⟨⟨x, S1⟩, h1, hm⟩ := Option.bind_eq_some_iff.mp hm
  simp only at hm
  split at hm
  · cases hm
    refine ⟨ρ, S, I, ι, .bl true, S', e, s, h1, fun v1 H1 I1 ι1 l1 p1 s1 r1 => ?_⟩
    cases r1
    refine ⟨true, rfl, ?_⟩
    refine iteT ?_
    exact (q.mono l1 p1).now s1 (.bl true)
  · refine ⟨ρ, S, I, ι, .bl false, S1, e, s, h1, fun v1 H1 I1 ι1 l1 p1 s1 r1 => ?_⟩
    cases r1
    refine ⟨false, rfl, ?_⟩
    refine iteF ?_
    exact ⟨ρ, S1, I1, ι1, d, S', e.mono l1 p1, s1, hm, q.mono l1 p1⟩
  · cases hm
theorem me_if (hc : MT X c mc) (ha : ME X a ma) (hb : ME X b mb) : ME X (.IfExp c a b pos) (mIf mc ma mb) := by
  refine PE.imp (pe_ifExp hc ha hb) ?_
  rintro σ H Q ⟨ρ, S, I, ι, d, S', e, s, hm, q⟩
  unfold mIf at hm
  obtain ⟨⟨x, S1⟩, h1, hm⟩ := Option.bind_eq_some_iff.mp hm
  simp only at hm
  split at hm
  · refine ⟨ρ, S, I, ι, true, S1, e, s, h1, fun H1 I1 ι1 l1 p1 s1 => ?_⟩
    refine iteT ?_
    exact ⟨ρ, S1, I1, ι1, d, S', e.mono l1 p1, s1, hm, q.mono l1 p1⟩
  · refine ⟨ρ, S, I, ι, false, S1, e, s, h1, fun H1 I1 ι1 l1 p1 s1 => ?_⟩
    refine iteF ?_
    exact ⟨ρ, S1, I1, ι1, d, S', e.mono l1 p1, s1, hm, q.mono l1 p1⟩
  · cases hm
theorem rep_isNon {mg : Str → Option Value} {I : Hp} {ι : Io} {x : V} {d : D} (r : Rep mg I ι x d) : decide (x = .non) = isNon d := by
  cases r <;> simp [isNon]
theorem me_isN {j pos'} (ha : ME X a ma) : ME X (.Compare a [.Is] [.Constant .none j pos'] pos) (mIsN ma) := by
  refine PE.imp (pe_cmp (pc_isN ha)) ?_
  rintro σ H Q ⟨ρ, S, I, ι, d, S', e, s, hm, q⟩
  unfold mIsN at hm
  obtain ⟨⟨x, S1⟩, h1, hm⟩ := Option.bind_eq_some_iff.mp hm
  cases hm
  refine ⟨ρ, S, I, ι, x, S', e, s, h1, fun v1 H1 I1 ι1 l1 p1 s1 r1 => ?_⟩
  show Q (.bl (decide (v1 = .non))) H1
  rw [rep_isNon r1]
  exact (q.mono l1 p1).now s1 (.bl _)
theorem me_notN {j pos'} (ha : ME X a ma) : ME X (.Compare a [.IsNot] [.Constant .none j pos'] pos) (mNotN ma) := by
  refine PE.imp (pe_cmp (pc_notN ha)) ?_
  rintro σ H Q ⟨ρ, S, I, ι, d, S', e, s, hm, q⟩
  unfold mNotN at hm
  obtain ⟨⟨x, S1⟩, h1, hm⟩ := Option.bind_eq_some_iff.mp hm
  cases hm
  refine ⟨ρ, S, I, ι, x, S', e, s, h1, fun v1 H1 I1 ι1 l1 p1 s1 r1 => ?_⟩
  show Q (.bl (!decide (v1 = .non))) H1
  rw [rep_isNon r1]
  exact (q.mono l1 p1).now s1 (.bl _)
theorem mt_isN {j pos'} (ha : ME X a ma) : MT X (.Compare a [.Is] [.Constant .none j pos'] pos) (mIsN ma) := by
  refine PT.imp (pt_cmp (pc_isN ha)) ?_
  rintro σ H Q ⟨ρ, S, I, ι, b, S', e, s, hm, q⟩
  unfold mIsN at hm
  obtain ⟨⟨x, S1⟩, h1, hm⟩ := Option.bind_eq_some_iff.mp hm
  cases hm
  refine ⟨ρ, S, I, ι, x, S', e, s, h1, fun v1 H1 I1 ι1 l1 p1 s1 r1 => ?_⟩
  exact ⟨_, rfl, by rw [rep_isNon r1]; exact q _ _ _ l1 p1 s1⟩
theorem mt_notN {j pos'} (ha : ME X a ma) : MT X (.Compare a [.IsNot] [.Constant .none j pos'] pos) (mNotN ma) := by
  refine PT.imp (pt_cmp (pc_notN ha)) ?_
  rintro σ H Q ⟨ρ, S, I, ι, b, S', e, s, hm, q⟩
  unfold mNotN at hm
  obtain ⟨⟨x, S1⟩, h1, hm⟩ := Option.bind_eq_some_iff.mp hm
  cases hm
  refine ⟨ρ, S, I, ι, x, S', e, s, h1, fun v1 H1 I1 ι1 l1 p1 s1 r1 => ?_⟩
  exact ⟨_, rfl, by rw [rep_isNon r1]; exact q _ _ _ l1 p1 s1⟩
end

section
variable {X : Cx}
theorem oM_int {f : Value → Value → Sem Value} {g : Int → Int → Bool} {o : D → D → Option D} (h : OpR X f (rI0 fun i j => .bl (g i j))) (ho : ∀ x y d, o x y = some d → ∃ i j, x = .int i ∧ y = .int j ∧ d = .bl (g i j)) : OpR X f (rM X.mg o) := by
  refine OpR.imp h ?_
  rintro x y H Q ⟨S, I, ι, dx, dy, d, s, rx, ry, h, q⟩
  obtain ⟨i, j, e1, e2, rfl⟩ := ho _ _ _ h
  exact ⟨i, j, seen_int s rx e1, seen_int s ry e2, q.now s (.bl _)⟩
theorem oM_lt : OpR X (compareOp .Lt) (rM X.mg oLt) := oM_int op_lt fun x y d h => by
  unfold oLt at h; split at h
  · rename_i i j; cases h; exact ⟨i, j, rfl, rfl, rfl⟩
  · cases h
theorem oM_le : OpR X (compareOp .LtE) (rM X.mg oLe) := oM_int op_le fun x y d h => by
  unfold oLe at h; split at h
  · rename_i i j; cases h; exact ⟨i, j, rfl, rfl, rfl⟩
  · cases h
theorem oM_gt : OpR X (compareOp .Gt) (rM X.mg oGt) := oM_int op_gt fun x y d h => by
  unfold oGt at h; split at h
  · rename_i i j; cases h; exact ⟨i, j, rfl, rfl, rfl⟩
  · cases h
theorem oM_ge : OpR X (compareOp .GtE) (rM X.mg oGe) := oM_int op_ge fun x y d h => by
  unfold oGe at h; split at h
  · rename_i i j; cases h; exact ⟨i, j, rfl, rfl, rfl⟩
  · cases h
end

/-! ### data -/
mutual
def toPy : D → PyData
  | .non => .none | .bl b => .bool b | .int i => .int i | .str s => .str (toS s)
  | .lst xs => .list (toPys xs) | .tup xs => .tuple (toPys xs)
  | .dct _ => .none | .obj _ _ => .none | .rf _ => .none
def toPys : List D → List PyData
  | [] => []
  | x :: xs => toPy x :: toPys xs
end
section
variable {mg : Str → Option Value} {K : PySem.W.Frag} {I H : Hp} {ι : Io}
mutual
theorem Rep.dp (hI : Le I H) : ∀ {n : Nat} {x : V} {d : D}, Rep mg I ι x d → dataD n d = true → Dp K H x (toPy d)
  | _, _, _, .non, _ => by rw [toPy]; exact .non
  | _, _, _, .bl b, _ => by rw [toPy]; exact .bl b
  | _, _, _, .int i, _ => by rw [toPy]; exact .int i
  | _, _, _, .str h, _ => by rw [toPy]; exact .str _
  | 0, _, _, .tup h r, p => by simp [dataD] at p
  | n + 1, _, _, .tup h r, p => by rw [toPy]; exact .tup (.inl (.inl (hI _ _ h))) (Reps.dp hI r (by simpa [dataD] using p))
  | 0, _, _, .lstR h r, p => by simp [dataD] at p
  | n + 1, _, _, .lstR h r, p => by rw [toPy]; exact .lst (.inl (rd_le hI h)) (Reps.dp hI r (by simpa [dataD] using p))
  | _, _, _, .dct0 h, p => by simp [dataD] at p
  | _, _, _, .obj _ _ _ _, p => by simp [dataD] at p
  | _, _, _, .rf _, p => by simp [dataD] at p
theorem Reps.dp (hI : Le I H) : ∀ {n : Nat} {xs : List V} {ds : List D}, Reps mg I ι xs ds → dataL n ds = true → DpAll K H xs (toPys ds)
  | _, _, _, .nil, _ => by rw [toPys]; exact .nil
  | n, _, _, .cons h t, p => by
    rw [toPys]
    have p' := Bool.and_eq_true_iff.mp (by simpa [dataL] using p : (_ && _) = true)
    exact .cons (Rep.dp hI h p'.1) (Reps.dp hI t p'.2)
end
mutual
theorem Rep.lay : ∀ {n : Nat} {x : V} {d : D}, Rep mg I ι x d → dataD n d = true → (toPy d).canLay0 = true ∧ (toPy d).depth ≤ n
  | _, _, _, .non, _ => by simp [toPy, PyData.canLay0, PyData.depth]
  | _, _, _, .bl b, _ => by simp [toPy, PyData.canLay0, PyData.depth]
  | _, _, _, .int i, _ => by simp [toPy, PyData.canLay0, PyData.depth]
  | _, _, _, .str h, _ => by
    refine ⟨?_, by simp [toPy, PyData.depth]⟩
    simp only [toPy, PyData.canLay0, PyData.depth, PyData.strOk]
    simpa [toS] using h
  | 0, _, _, .tup h r, p => by simp [dataD] at p
  | n + 1, _, _, .tup h r, p => by
    have q := Reps.lay r (by simpa [dataD] using p : dataL n _ = true)
    simp only [toPy, PyData.canLay0, PyData.depth]
    exact ⟨q.1, by omega⟩
  | 0, _, _, .lstR h r, p => by simp [dataD] at p
  | n + 1, _, _, .lstR h r, p => by
    have q := Reps.lay r (by simpa [dataD] using p : dataL n _ = true)
    simp only [toPy, PyData.canLay0, PyData.depth]
    exact ⟨q.1, by omega⟩
  | _, _, _, .dct0 h, p => by simp [dataD] at p
  | _, _, _, .obj _ _ _ _, p => by simp [dataD] at p
  | _, _, _, .rf _, p => by simp [dataD] at p
theorem Reps.lay : ∀ {n : Nat} {xs : List V} {ds : List D}, Reps mg I ι xs ds → dataL n ds = true → PyData.canLayAll0 (toPys ds) = true ∧ PyData.depthAll (toPys ds) ≤ n
  | _, _, _, .nil, _ => by simp [toPys, PyData.canLayAll0, PyData.depthAll]
  | n, _, _, .cons h t, p => by
    have p' := Bool.and_eq_true_iff.mp (by simpa [dataL] using p : (_ && _) = true)
    have q1 := Rep.lay h p'.1
    have q2 := Reps.lay t p'.2
    simp only [toPys, PyData.canLayAll0, PyData.depthAll, q1.1, q2.1, Bool.and_self, true_and]
    omega
end
theorem toS_inj {a b : List Nat} (h : toS a = toS b) : a = b := by
  have h1 : a.toArray = b.toArray := congrArg Str.cps h
  simpa using congrArg Array.toList h1
mutual
theorem eqD_py : ∀ {n m : Nat} {a b : D}, dataD n a = true → dataD m b = true → PyData.eqv (toPy a) (toPy b) = eqD a b
  | n, m, a, b, ha, hb => by
    cases a <;> cases b <;> first
      | (simp [dataD] at ha; done)
      | (simp [dataD] at hb; done)
      | (simp [toPy, PyData.eqv, eqD]; done)
      | skip
    case str.str x y =>
      simp only [toPy, PyData.eqv, eqD]
      by_cases e : x = y
      · subst e; simp
      · have : ¬ toS x = toS y := fun z => e (toS_inj z)
        simp [e, this]
    case lst.lst xs ys =>
      cases n with
      | zero => simp [dataD] at ha
      | succ n => cases m with
        | zero => simp [dataD] at hb
        | succ m =>
          simp only [toPy, PyData.eqv, eqD]
          exact eqL_py (by simpa [dataD] using ha) (by simpa [dataD] using hb)
    case tup.tup xs ys =>
      cases n with
      | zero => simp [dataD] at ha
      | succ n => cases m with
        | zero => simp [dataD] at hb
        | succ m =>
          simp only [toPy, PyData.eqv, eqD]
          exact eqL_py (by simpa [dataD] using ha) (by simpa [dataD] using hb)
theorem eqL_py : ∀ {n m : Nat} {a b : List D}, dataL n a = true → dataL m b = true → PyData.eqvAll (toPys a) (toPys b) = eqL a b
  | _, _, [], [], _, _ => by simp [toPys, PyData.eqvAll, eqL]
  | _, _, [], _ :: _, _, _ => by simp [toPys, PyData.eqvAll, eqL]
  | _, _, _ :: _, [], _, _ => by simp [toPys, PyData.eqvAll, eqL]
  | n, m, x :: xs, y :: ys, ha, hb => by
    have p := Bool.and_eq_true_iff.mp (by simpa [dataL] using ha : (_ && _) = true)
    have q := Bool.and_eq_true_iff.mp (by simpa [dataL] using hb : (_ && _) = true)
    simp only [toPys, PyData.eqvAll, eqL, eqD_py p.1 q.1, eqL_py p.2 q.2]
end
end
end Mi
set_option Elab.async false
set_option linter.all false
set_option maxRecDepth 100000
namespace Mi
open PySem L2
section
variable {X : Cx}
theorem top_data {S : Store} {mg : Str → Option Value} {I H : Hp} {ι : Io} {x : V} {dx : D} {n : Nat} (s : SR mg I ι S H) (r : Rep mg I ι x dx) (h : dataD n (top S dx) = true) {K : PySem.W.Frag} :
    Dp K H x (toPy (top S dx)) ∧ (toPy (top S dx)).canLay0 = true ∧ (toPy (top S dx)).depth ≤ n := by
  rcases top_cases s r with ⟨e, _⟩ | ⟨k, _, e⟩ | ⟨k, d, a, _, hx, e, q⟩
  · rw [e] at h ⊢
    have l := r.lay h
    exact ⟨r.dp s.sub h, l.1, l.2⟩
  · rw [e] at h; simp [dataD] at h
  · rw [e] at h ⊢
    subst hx
    cases q with
    | lst hH rs =>
      cases n with
      | zero => simp [dataD] at h
      | succ n =>
        have h' := (by simpa [dataD] using h : dataL n _ = true)
        have l := rs.lay h'
        simp only [toPy, PyData.canLay0, PyData.depth]
        exact ⟨.lst (.inl (.inl hH)) (rs.dp s.sub h'), l.1, by omega⟩
    | dct0 _ => simp [dataD] at h
    | obj _ _ _ _ _ => simp [dataD] at h
theorem shaped_of {d : PyData} (h1 : d.canLay0 = true) (h2 : d.depth ≤ 64) : SeqAt.shaped d = true := Bool.and_eq_true_iff.mpr ⟨h1, decide_eq_true h2⟩
theorem oM_eq (hu : X.A.units + 64 < cLine) : OpR X (compareOp .Eq) (rM X.mg oEq) := by
  refine OpR.imp (op_eqD hu) ?_
  rintro x y H Q ⟨S, I, ι, dx, dy, d, s, rx, ry, h, q⟩
  unfold oEq at h
  split at h
  · rename_i hd
    cases h
    obtain ⟨p1, p2, p3⟩ := top_data (K := X.K) s rx hd.1
    obtain ⟨q1, q2, q3⟩ := top_data (K := X.K) s ry hd.2
    refine ⟨_, _, p1, q1, shaped_of p2 (by omega), shaped_of q2 (by omega), ?_⟩
    rw [eqD_py hd.1 hd.2]
    exact q.now s (.bl _)
  · cases h
theorem oM_ne (hu : X.A.units + 64 < cLine) : OpR X (compareOp .NotEq) (rM X.mg oNe) := by
  refine OpR.imp (op_neD hu) ?_
  rintro x y H Q ⟨S, I, ι, dx, dy, d, s, rx, ry, h, q⟩
  unfold oNe at h
  split at h
  · rename_i hd
    cases h
    obtain ⟨p1, p2, p3⟩ := top_data (K := X.K) s rx hd.1
    obtain ⟨q1, q2, q3⟩ := top_data (K := X.K) s ry hd.2
    refine ⟨_, _, p1, q1, shaped_of p2 (by omega), shaped_of q2 (by omega), ?_⟩
    rw [eqD_py hd.1 hd.2]
    exact q.now s (.bl _)
  · cases h
/-- x in a tuple of data -/
def rInT (K : PySem.W.Frag) (neg : Bool) : R2 := fun x y H Q => ∃ d ds, Dp K H x d ∧ Dp K H y (.tuple ds) ∧ SeqAt.shaped d = true ∧ SeqAt.shaped (.tuple ds) = true ∧ Q (.bl (if neg then !ds.any fun z => PyData.eqv z d else ds.any fun z => PyData.eqv z d)) H
theorem op_inT (hu : X.A.units + 65 < cLine) : OpR X (compareOp .In) (rInT X.K false) := by
  rintro pins s σ H x y v u Q I rx ry ⟨d, ds, hd, he, sd, se, q⟩
  obtain ⟨as, r1⟩ := Dp.reads I d x v hd rx
  obtain ⟨bs, r2⟩ := Dp.reads I (.tuple ds) y u he ry
  have c2 : PyData.canLayAll0 ds = true := SeqAt.canLay_of_shaped se
  have dp := SeqAt.depth_of_shaped sd
  exact SeqAt.in_tuple_reads r2 r1 c2 (SeqAt.canLay_of_shaped sd) (by omega) ⟨.bl _, H, I, rfl, q⟩
theorem op_notInT (hu : X.A.units + 65 < cLine) : OpR X (compareOp .NotIn) (rInT X.K true) := by
  rintro pins s σ H x y v u Q I rx ry ⟨d, ds, hd, he, sd, se, q⟩
  obtain ⟨as, r1⟩ := Dp.reads I d x v hd rx
  obtain ⟨bs, r2⟩ := Dp.reads I (.tuple ds) y u he ry
  have c2 : PyData.canLayAll0 ds = true := SeqAt.canLay_of_shaped se
  have dp := SeqAt.depth_of_shaped sd
  exact SeqAt.notIn_tuple_reads r2 r1 c2 (SeqAt.canLay_of_shaped sd) (by omega) ⟨.bl _, H, I, rfl, q⟩
theorem toPys_map : ∀ (xs : List D), toPys xs = xs.map toPy
  | [] => rfl
  | x :: xs => by rw [toPys, toPys_map xs]; rfl
theorem dataL_mem {n : Nat} : ∀ {xs : List D}, dataL n xs = true → ∀ x ∈ xs, dataD n x = true
  | [], _, x, hx => by cases hx
  | y :: ys, h, x, hx => by
    have p := Bool.and_eq_true_iff.mp (by simpa [dataL] using h : (_ && _) = true)
    rcases List.mem_cons.mp hx with e | hx
    · subst e; exact p.1
    · exact dataL_mem p.2 x hx
theorem any_py {n m : Nat} {xs : List D} {d : D} (h : dataL n xs = true) (hd : dataD m d = true) : ((toPys xs).any fun z => PyData.eqv z (toPy d)) = xs.any fun z => eqD z d := by
  rw [toPys_map, List.any_map]
  have : ∀ l : List D, (∀ x ∈ l, dataD n x = true) → l.any ((fun z => PyData.eqv z (toPy d)) ∘ toPy) = l.any fun z => eqD z d := by
    intro l
    induction l with
    | nil => intro _; rfl
    | cons a l ih =>
      intro hl
      rw [List.any_cons, List.any_cons, ih fun x hx => hl x (List.mem_cons_of_mem _ hx)]
      congr 1
      exact eqD_py (hl a List.mem_cons_self) hd
  exact this xs (dataL_mem h)
theorem oIn_cases {x y d : D} (h : oIn x y = some d) : (∃ c t, x = .str [c] ∧ y = .str t ∧ d = .bl (decide (c ∈ t))) ∨ (∃ ys, (y = .lst ys ∨ y = .tup ys) ∧ dataD 60 x = true ∧ dataL 59 ys = true ∧ d = .bl (ys.any fun z => eqD z x)) := by
  unfold oIn at h
  split at h
  · split at h
    · cases h; exact .inl ⟨_, _, rfl, rfl, rfl⟩
    · cases h
  · split at h
    · rename_i hd; cases h; exact .inr ⟨_, .inl rfl, hd.1, hd.2, rfl⟩
    · cases h
  · split at h
    · rename_i hd; cases h; exact .inr ⟨_, .inr rfl, hd.1, hd.2, rfl⟩
    · cases h
  · cases h
theorem oM_in (hu : X.A.units + 65 < cLine) : OpR X (compareOp .In) (rM X.mg oIn) := by
  refine OpR.imp (OpR.or op_in_sign (OpR.or (op_inD hu) (op_inT hu))) ?_
  rintro x y H Q ⟨S, I, ι, dx, dy, d, s, rx, ry, h, q⟩
  rcases oIn_cases h with ⟨c, t, e1, e2, rfl⟩ | ⟨ys, e2, hx, hy, rfl⟩
  · obtain ⟨h1, _⟩ := seen_str s rx e1
    obtain ⟨h2, _⟩ := seen_str s ry e2
    refine .inl ⟨c, toS t, h1, h2, ?_⟩
    exact q.now s (.bl _)
  · obtain ⟨p1, p2, p3⟩ := top_data (K := X.K) s rx hx
    have hy' : dataD 60 (top S dy) = true := by rcases e2 with e2 | e2 <;> (rw [e2]; simpa [dataD] using hy)
    obtain ⟨q1, q2, q3⟩ := top_data (K := X.K) s ry hy'
    rcases e2 with e2 | e2
    · rw [e2] at q1 q2 q3
      simp only [toPy] at q1 q2 q3
      refine .inr (.inl ⟨_, _, p1, q1, shaped_of p2 (by omega), shaped_of q2 (by omega), ?_⟩)
      rw [any_py hy hx]
      exact q.now s (.bl _)
    · rw [e2] at q1 q2 q3
      simp only [toPy] at q1 q2 q3
      refine .inr (.inr ⟨_, _, p1, q1, shaped_of p2 (by omega), shaped_of q2 (by omega), ?_⟩)
      show Q (.bl ((toPys ys).any fun z => PyData.eqv z (toPy (top S dx)))) H
      rw [any_py hy hx]
      exact q.now s (.bl _)
theorem oM_notIn (hu : X.A.units + 65 < cLine) : OpR X (compareOp .NotIn) (rM X.mg oNotIn) := by
  refine OpR.imp (OpR.or op_notIn_sign (OpR.or (op_notInD hu) (op_notInT hu))) ?_
  rintro x y H Q ⟨S, I, ι, dx, dy, d, s, rx, ry, h, q⟩
  unfold oNotIn at h
  split at h
  rotate_left
  · cases h
  rename_i b h'
  cases h
  rcases oIn_cases h' with ⟨c, t, e1, e2, e3⟩ | ⟨ys, e2, hx, hy, e3⟩
  · cases e3
    obtain ⟨h1, _⟩ := seen_str s rx e1
    obtain ⟨h2, _⟩ := seen_str s ry e2
    refine .inl ⟨c, toS t, h1, h2, ?_⟩
    exact q.now s (.bl _)
  · cases e3
    obtain ⟨p1, p2, p3⟩ := top_data (K := X.K) s rx hx
    have hy' : dataD 60 (top S dy) = true := by rcases e2 with e2 | e2 <;> (rw [e2]; simpa [dataD] using hy)
    obtain ⟨q1, q2, q3⟩ := top_data (K := X.K) s ry hy'
    rcases e2 with e2 | e2
    · rw [e2] at q1 q2 q3
      simp only [toPy] at q1 q2 q3
      refine .inr (.inl ⟨_, _, p1, q1, shaped_of p2 (by omega), shaped_of q2 (by omega), ?_⟩)
      rw [any_py hy hx]
      exact q.now s (.bl _)
    · rw [e2] at q1 q2 q3
      simp only [toPy] at q1 q2 q3
      refine .inr (.inr ⟨_, _, p1, q1, shaped_of p2 (by omega), shaped_of q2 (by omega), ?_⟩)
      show Q (.bl (!(toPys ys).any fun z => PyData.eqv z (toPy (top S dx)))) H
      rw [any_py hy hx]
      exact q.now s (.bl _)
end

/-! ### items, slices -/
theorem place_ixN {n : Nat} {i : Int} {j : Nat} (h : place n i = some j) : L2.ixN n i = some j := by
  unfold place at h
  unfold L2.ixN
  split at h
  · rename_i c
    rw [if_pos c.1, if_pos c.2]; exact h
  · split at h
    · rename_i c
      rw [if_neg (by omega), if_pos (by omega)]; exact h
    · cases h
theorem clip_sIx (n d : Nat) (o : Option Int) : clip n d o = HT.sIx n d o := by
  cases o with
  | none => rfl
  | some i =>
    unfold clip HT.sIx
    by_cases h : 0 ≤ i
    · simp only [if_pos h, if_neg (show ¬ i < 0 by omega)]
    · simp only [if_neg h, if_pos (show i < 0 by omega)]
theorem cut_cutV (xs : List V) (lo hi : Option Int) : cutV xs lo hi = cut xs lo hi := by
  simp only [cutV, cut, clip_sIx]
theorem cut_cutS (s : List Nat) (lo hi : Option Int) : cutS (toS s) lo hi = toS (cut s lo hi) := by
  simp only [cutS, cut, clip_sIx, toS_len]
section
variable {mg : Str → Option Value} {I : Hp} {ι : Io}
theorem Reps.drop : ∀ (n : Nat) {xs : List V} {ds : List D}, Reps mg I ι xs ds → Reps mg I ι (xs.drop n) (ds.drop n)
  | 0, _, _, r => r
  | n + 1, _, _, .nil => .nil
  | n + 1, _, _, .cons _ t => Reps.drop n t
theorem Reps.take : ∀ (n : Nat) {xs : List V} {ds : List D}, Reps mg I ι xs ds → Reps mg I ι (xs.take n) (ds.take n)
  | 0, _, _, _ => .nil
  | n + 1, _, _, .nil => .nil
  | n + 1, _, _, .cons h t => .cons h (Reps.take n t)
theorem Reps.cut {xs : List V} {ds : List D} (r : Reps mg I ι xs ds) (lo hi : Option Int) : Reps mg I ι (cut xs lo hi) (cut ds lo hi) := by
  unfold Mi.cut
  rw [r.length]
  exact (r.drop _).take _
end
theorem cut_all {α : Type} {xs : List α} {lo hi : Option Int} (h1 : HT.sIx xs.length 0 lo = 0) (h2 : HT.sIx xs.length xs.length hi = xs.length) : cut xs lo hi = xs := by
  simp only [cut, clip_sIx, h1, h2, List.drop_zero, Nat.sub_zero, List.take_length]
section
variable {X : Cx} {a b : Expr} {ma mb : M} {pos : Pos}
theorem IxR.imp {r r' : R2} (h : IxR X r) (i : ∀ x y H Q, r' x y H Q → r x y H Q) : IxR X r' := fun o e pins s σ H x y v u Q I rx ry q hs => h o e pins s σ H x y v u Q I rx ry (i x y H Q q) hs
theorem ixM : IxR X (rM X.mg oItem) := by
  refine IxR.imp ix_seq ?_
  rintro x y H Q ⟨S, I, ι, dx, dy, d, s, rx, ry, h, q⟩
  unfold oItem at h
  split at h
  · rename_i xs i e1 e2
    obtain ⟨j, hj, h⟩ := Option.bind_eq_some_iff.mp h
    obtain ⟨p, ys, rfl, hH, rs⟩ := seen_lst s rx e1
    obtain ⟨v, hv, rv⟩ := rs.get h
    refine .inl ⟨p, ys, i, v, rfl, seen_int s ry e2, .inl hH, ?_, q.now s rv⟩
    unfold L2.atI
    rw [rs.length, place_ixN hj]; exact hv
  · rename_i xs i e1 e2
    obtain ⟨j, hj, h⟩ := Option.bind_eq_some_iff.mp h
    obtain ⟨p, ys, rfl, hH, _, rs⟩ := seen_tup s rx e1
    obtain ⟨v, hv, rv⟩ := rs.get h
    refine .inr (.inl ⟨p, ys, i, v, rfl, seen_int s ry e2, .inl (.inl hH), ?_, q.now s rv⟩)
    unfold L2.atI
    rw [rs.length, place_ixN hj]; exact hv
  · rename_i t i e1 e2
    split at h
    · rename_i hz
      obtain ⟨j, hj, h⟩ := Option.bind_eq_some_iff.mp h
      obtain ⟨c, hc, rfl⟩ := Option.map_eq_some_iff.mp h
      obtain ⟨h1, hb⟩ := seen_str s rx e1
      refine .inr (.inr ⟨toS t, i, c, h1, seen_int s ry e2, ?_, ?_, ?_⟩)
      · rw [toS_len]; exact big_le hz
      · unfold L2.atI
        show (L2.ixN t.length i).bind _ = _
        rw [place_ixN hj]; exact hc
      · refine q.now s (.str fun n hn => ?_)
        have : n = c := by simpa using hn
        subst this
        exact hb n (List.mem_of_getElem? hc)
    · cases h
  · cases h
theorem me_ix (ha : ME X a ma) (hb : ME X b mb) (hs : PlainIx b := by first | exact fun _ _ => rfl | decide) : ME X (.Subscript a b pos) (mBin oItem ma mb) :=
  PE.imp (pe_ix ixM ha hb hs) fun σ H Q q => tM_bin q
end
end Mi
set_option Elab.async false
set_option linter.all false
set_option maxRecDepth 100000
namespace Mi
open PySem L2
/-! ### argument lists, displays -/
def tA (mg : Str → Option Value) (ms : List M) : TA := fun σ H Q => ∃ ρ S I ι ds S', ER mg I ι σ ρ ∧ SR mg I ι S H ∧ evalL ms ρ S = some (ds, S') ∧
  ∀ (vs : List V) (H' I' : Hp) (ι' : Io), Le I I' → Pre ι ι' → SR mg I' ι' S' H' → Reps mg I' ι' vs ds → Q vs H'
abbrev MA (X : Cx) (es : List Expr) (ms : List M) : Prop := PA X es (tA X.mg ms)
section
variable {X : Cx} {e : Expr} {es : List Expr} {m : M} {ms : List M} {pos : Pos}
theorem PA.imp {t t' : TA} (h : PA X es t) (f : ∀ σ H Q, t' σ H Q → t σ H Q) : PA X es t' := ⟨fun p pins s σ H Q I q => h.run p pins s σ H Q I (f σ H Q q)⟩
theorem ma_nil : MA X [] [] := by
  refine PA.imp pa_nil ?_
  rintro σ H Q ⟨ρ, S, I, ι, ds, S', e, s, hm, q⟩
  cases hm
  exact q _ _ _ _ Le.refl (Pre.refl) s .nil
theorem ma_cons (ha : ME X e m) (hr : MA X es ms) (hs : starEach (e :: es) X.env = (false, eval e X.env) :: starEach es X.env := by rfl) : MA X (e :: es) (m :: ms) := by
  refine PA.imp (pa_cons ha hr hs) ?_
  rintro σ H Q ⟨ρ, S, I, ι, ds, S', e, s, hm, q⟩
  unfold evalL at hm
  obtain ⟨⟨x, S1⟩, h1, hm⟩ := Option.bind_eq_some_iff.mp hm
  obtain ⟨⟨y, S2⟩, h2, hm⟩ := Option.bind_eq_some_iff.mp hm
  cases hm
  refine ⟨ρ, S, I, ι, x, S1, e, s, h1, fun v1 H1 I1 ι1 l1 p1 s1 r1 => ?_⟩
  refine ⟨ρ, S1, I1, ι1, y, _, e.mono l1 p1, s1, h2, fun v2 H2 I2 ι2 l2 p2 s2 r2 => ?_⟩
  exact q _ _ _ _ (l1.trans l2) (p1.trans p2) s2 (.cons (r1.mono l2 p2) r2)
theorem evalL_length : ∀ {ms : List M} {ρ : Rho} {S : Store} {ds : List D} {S' : Store}, evalL ms ρ S = some (ds, S') → ds.length = ms.length
  | [], _, _, _, _, h => by cases h; rfl
  | m :: ms, ρ, S, ds, S', h => by
    unfold evalL at h
    obtain ⟨⟨x, S1⟩, h1, h⟩ := Option.bind_eq_some_iff.mp h
    obtain ⟨⟨y, S2⟩, h2, h⟩ := Option.bind_eq_some_iff.mp h
    cases h
    simp [evalL_length h2]
theorem me_tup {x1} (h : MA X es ms) (hz : ms.length ≤ 1000 := by decide) : ME X (.Tuple es x1 pos) (mTup ms) := by
  refine PE.imp (pe_tup h) ?_
  rintro σ H Q ⟨ρ, S, I, ι, d, S', e, s, hm, q⟩
  unfold mTup at hm
  obtain ⟨⟨ds, S1⟩, h1, hm⟩ := Option.bind_eq_some_iff.mp hm
  cases hm
  refine ⟨ρ, S, I, ι, ds, _, e, s, h1, fun vs H1 I1 ι1 l1 p1 s1 r1 => ⟨?_, fun p hp => ?_⟩⟩
  · rw [r1.length, evalL_length h1]; have := sizeLine_eq; omega
  · exact (q.mono l1 p1).tup s1 hp r1
theorem me_lst (h : MA X es ms) (hz : ms.length ≤ 1000 := by decide) : ME X (.List es pos) (mLst ms) := by
  refine PE.imp (pe_lst h) ?_
  rintro σ H Q ⟨ρ, S, I, ι, d, S', e, s, hm, q⟩
  unfold mLst at hm
  obtain ⟨⟨ds, S1⟩, h1, hm⟩ := Option.bind_eq_some_iff.mp hm
  cases hm
  refine ⟨ρ, S, I, ι, ds, _, e, s, h1, fun vs H1 I1 ι1 l1 p1 s1 r1 => ⟨?_, fun p hp => ?_⟩⟩
  · rw [r1.length, evalL_length h1]; have := sizeLine_eq; omega
  · exact (q.mono l1 p1).lst s1 hp r1

/-- a new thing of the store -/
theorem SR.made {mg : Str → Option Value} {I H : Hp} {ι : Io} {S : Store} (s : SR mg I ι S H) {p : Addr} {o : HO} {d : D} (hp : H p = none) (r : RepO mg I (upd H p o) p d) : SR mg I ⟨ι.l ++ [p], ι.z⟩ (S ++ [some d]) (upd H p o) := by
  have hI : I p = none := by
    cases e : I p with
    | none => rfl
    | some u => rw [s.sub p u e] at hp; cases hp
  have hzp : ι.z p = none := by
    cases e : ι.z p with
    | none => rfl
    | some u => rw [(s.keep p u e).1] at hp; cases hp
  have old : ∀ {k : Nat} {u : D}, S[k]? = some (some u) → ∃ a, ι.l[k]? = some a ∧ a ≠ p ∧ (I a = none ∧ ι.z a = none) ∧ RepO mg I H a u := fun {k u} e => by
    obtain ⟨a, h1, h2, h3⟩ := s.live k u e
    refine ⟨a, h1, ?_, h2, h3⟩
    rintro rfl
    cases h3 with
    | lst h _ => rw [hp] at h; cases h
    | dct0 h => rw [hp] at h; cases h
    | obj h _ _ _ _ => rw [hp] at h; cases h
  refine ⟨fun a u e => ?_, by simp [s.len], fun k u e => ?_, fun j k u w a e1 e2 e3 e4 => ?_, fun a u e => ?_⟩
  · rw [upd_ne (fun z => by subst z; rw [hI] at e; cases e)]; exact s.sub a u e
  · by_cases hk : k < S.length
    · rw [List.getElem?_append_left hk] at e
      obtain ⟨a, h1, h2, h3, h4⟩ := old e
      exact ⟨a, by rw [List.getElem?_append_left (by rw [s.len]; exact hk)]; exact h1, h3, h4.mono Le.refl (fun b u _ e => by rw [upd_ne (ne_of_none e hp)]; exact e) fun _ _ q => q⟩
    · have hk2 : k = S.length := by
        have := (List.getElem?_eq_some_iff.mp e).1
        simp at this; omega
      subst hk2
      simp at e
      subst e
      exact ⟨p, by rw [← s.len]; simp, ⟨hI, hzp⟩, r⟩
  · have at_ : ∀ {j : Nat} {u : D}, (S ++ [some d])[j]? = some (some u) → (ι.l ++ [p])[j]? = some a → (j < S.length ∧ S[j]? = some (some u) ∧ ι.l[j]? = some a ∧ a ≠ p) ∨ (j = S.length ∧ a = p) := fun {j u} e f => by
      by_cases hj : j < S.length
      · rw [List.getElem?_append_left hj] at e
        rw [List.getElem?_append_left (by rw [s.len]; exact hj)] at f
        obtain ⟨a', h1, h2, _⟩ := old e
        rw [f] at h1; cases h1
        exact .inl ⟨hj, e, f, h2⟩
      · have hk2 : j = S.length := by
          have := (List.getElem?_eq_some_iff.mp e).1
          simp at this; omega
        subst hk2
        rw [← s.len] at f
        simp at f
        exact .inr ⟨rfl, f.symm⟩
    rcases at_ e1 e3 with ⟨_, a1, a2, a3⟩ | ⟨rfl, a1⟩ <;> rcases at_ e2 e4 with ⟨_, b1, b2, b3⟩ | ⟨rfl, b1⟩
    · exact s.inj j k _ _ a a1 b1 a2 b2
    · exact absurd b1 a3
    · exact absurd a1 b3
    · rfl
  · rw [upd_ne (fun z => by subst z; rw [hzp] at e; cases e)]; exact s.keep a u e
theorem After.made_lst {mg : Str → Option Value} {I H : Hp} {ι : Io} {S : Store} {Q : VK} {p : Addr} {xs : List V} {ds : List D} (q : After mg I ι (S ++ [some (.lst ds)]) (.rf S.length) Q) (s : SR mg I ι S H) (hp : H p = none) (r : Reps mg I ι xs ds) (hd : pureL ds = true) :
    Q (.ref p) (upd H p (.lst xs)) := by
  refine q _ _ I ⟨ι.l ++ [p], ι.z⟩ Le.refl ⟨List.prefix_append _ _, rfl⟩ (s.made hp (.lst upd_same (r.of_pure hd))) (.rf ?_)
  rw [← s.len]; simp
theorem me_lstM (h : MA X es ms) (hz : ms.length ≤ 1000 := by decide) : ME X (.List es pos) (mLstM ms) := by
  refine PE.imp (pe_lst h) ?_
  rintro σ H Q ⟨ρ, S, I, ι, d, S', e, s, hm, q⟩
  unfold mLstM at hm
  obtain ⟨⟨ds, S1⟩, h1, hm⟩ := Option.bind_eq_some_iff.mp hm
  simp only at hm
  split at hm
  · rename_i hd
    cases hm
    refine ⟨ρ, S, I, ι, ds, _, e, s, h1, fun vs H1 I1 ι1 l1 p1 s1 r1 => ⟨?_, fun p hp => ?_⟩⟩
    · rw [r1.length, evalL_length h1]; have := sizeLine_eq; omega
    · exact (q.mono l1 p1).made_lst s1 hp r1 hd
  · cases hm

/-! ### slices -/
def tOptM (mg : Str → Option Value) (mo : Option M) (σ : St) (H : Hp) (Q : Option Int → Hp → Prop) : Prop := ∃ ρ S I ι o S', ER mg I ι σ ρ ∧ SR mg I ι S H ∧ mOpt mo ρ S = some (o, S') ∧ ∀ (H' I' : Hp) (ι' : Io), Le I I' → Pre ι ι' → SR mg I' ι' S' H' → Q o H'
end
end Mi
set_option Elab.async false
set_option linter.all false
set_option maxRecDepth 100000
namespace Mi
open PySem L2
section
variable {X : Cx} {e : Expr} {te : TE} {lo hi : Option Expr} {m : M} {l u : Option M} {pos p2 : Pos}
abbrev MO (X : Cx) (e : Option Expr) (m : Option M) : Prop := PO X e (tOptM X.mg m)
theorem PO.imp {o : Option Expr} {t t' : TO} (h : PO X o t) (f : ∀ σ H Q, t' σ H Q → t σ H Q) : PO X o t' := ⟨fun pins s σ H Q I q => h.run pins s σ H Q I (f σ H Q q)⟩
theorem mo_none : MO X none none := by
  refine PO.imp po_none ?_
  rintro σ H Q ⟨ρ, S, I, ι, o, S', e, s, hm, q⟩
  cases hm
  exact q _ _ _ Le.refl (Pre.refl) s
theorem mo_some (h : ME X e m) : MO X (some e) (some m) := by
  refine PO.imp (po_some h) ?_
  rintro σ H Q ⟨ρ, S, I, ι, o, S', e, s, hm, q⟩
  unfold mOpt at hm
  obtain ⟨⟨x, S1⟩, h1, hm⟩ := Option.bind_eq_some_iff.mp hm
  simp only at hm
  split at hm
  · rename_i i
    cases hm
    refine ⟨ρ, S, I, ι, _, _, e, s, h1, fun v1 H1 I1 ι1 l1 p1 s1 r1 => ?_⟩
    cases r1
    exact ⟨i, rfl, q _ _ _ l1 p1 s1⟩
  · cases hm
def rSlM (mg : Str → Option Value) : V → Option Int → Option Int → Hp → VK → Prop := fun x lo hi H Q => ∃ S I ι dx d, SR mg I ι S H ∧ Rep mg I ι x dx ∧ oSlice lo hi (top S dx) = some d ∧ After mg I ι S d Q
theorem SlR.imp {r r' : V → Option Int → Option Int → Hp → VK → Prop} (h : SlR X r) (i : ∀ x lo hi H Q, r' x lo hi H Q → r x lo hi H Q) : SlR X r' := fun pins s σ H x v vl vu lo hi sl Q I rx hs pl pu q => h pins s σ H x v vl vu lo hi sl Q I rx hs pl pu (i x lo hi H Q q)
theorem slM : SlR X (rSlM X.mg) := by
  refine SlR.imp (SlR.or sl_list (SlR.or sl_tupA sl_str)) ?_
  rintro x lo hi H Q ⟨S, I, ι, dx, d, s, rx, h, q⟩
  unfold oSlice at h
  split at h
  · rename_i xs e1
    cases h
    obtain ⟨p, ys, rfl, hH, rs⟩ := seen_lst s rx e1
    refine .inl ⟨p, ys, rfl, .inl hH, fun a ha => ?_⟩
    rw [cut_cutV]
    exact q.lst s ha (rs.cut lo hi)
  · rename_i xs e1
    cases h
    obtain ⟨p, ys, rfl, hH, hI, rs⟩ := seen_tup s rx e1
    refine .inr (.inl ⟨p, ys, rfl, .inl (.inl hH), fun hc => ?_, fun _ a ha => ?_⟩)
    · have e : cut ys lo hi = ys := cut_all hc.1 hc.2
      have rs' := rs.cut lo hi
      rw [e] at rs'
      exact q.now s (.tup hI rs')
    · rw [cut_cutV]
      exact q.tup s ha (rs.cut lo hi)
  · rename_i t e1
    split at h
    · rename_i hz
      cases h
      obtain ⟨h1, hb⟩ := seen_str s rx e1
      refine .inr (.inr ⟨toS t, h1, ?_, ?_⟩)
      · rw [toS_len]; exact big_le hz
      · rw [cut_cutS]
        exact q.now s (.str fun n hn => hb n (List.mem_of_mem_drop (List.mem_of_mem_take hn)))
    · cases h
  · cases h
theorem me_slice (ha : ME X e m) (hl : MO X lo l) (hu : MO X hi u) : ME X (.Subscript e (.Slice lo hi none p2) pos) (mSlice m l u) := by
  refine PE.imp (pe_slice slM ha hl hu) ?_
  rintro σ H Q ⟨ρ, S, I, ι, d, S', e, s, hm, q⟩
  unfold mSlice at hm
  obtain ⟨⟨x, S1⟩, h1, hm⟩ := Option.bind_eq_some_iff.mp hm
  obtain ⟨⟨y, S2⟩, h2, hm⟩ := Option.bind_eq_some_iff.mp hm
  obtain ⟨⟨z, S3⟩, h3, hm⟩ := Option.bind_eq_some_iff.mp hm
  obtain ⟨w, h4, hm⟩ := Option.bind_eq_some_iff.mp hm
  cases hm
  refine ⟨ρ, S, I, ι, x, S1, e, s, h1, fun v1 H1 I1 ι1 l1 p1 s1 r1 => ?_⟩
  refine ⟨ρ, S1, I1, ι1, y, S2, e.mono l1 p1, s1, h2, fun H2 I2 ι2 l2 p2 s2 => ?_⟩
  refine ⟨ρ, S2, I2, ι2, z, _, e.mono (l1.trans l2) (p1.trans p2), s2, h3, fun H3 I3 ι3 l3 p3 s3 => ?_⟩
  exact ⟨_, I3, ι3, x, d, s3, r1.mono (l2.trans l3) (p2.trans p3), h4, q.mono ((l1.trans l2).trans l3) ((p1.trans p2).trans p3)⟩
end

/-! ### calls by value -/
/-- a built-in's reading -/
def rB (mg : Str → Option Value) (f : List D → Option D) : List V → Hp → VK → Prop := fun vs H Q => ∃ S I ι ds d, SR mg I ι S H ∧ Reps mg I ι vs ds ∧ f (ds.map (top S)) = some d ∧ After mg I ι S d Q
/-- a def's -/
def rF (mg : Str → Option Value) (φ : Fn) : List V → Hp → VK → Prop := fun vs H Q => ∃ ds S I ι d S', Reps mg I ι vs ds ∧ SR mg I ι S H ∧ φ ds S = some (d, S') ∧ After mg I ι S' d Q
section
variable {X : Cx} {x : Str} {p pos : Pos} {e : Expr} {es : List Expr} {m : M} {ms : List M}
theorem CallR.imp {f : Value} {r r' : List V → Hp → VK → Prop} (h : CallR X f r) (i : ∀ xs H Q, r' xs H Q → r xs H Q) : CallR X f r' := fun pins s σ H xs us Q I rx q => h pins s σ H xs us Q I rx (i xs H Q q)
theorem tM_B {f : List D → Option D} {σ : St} {H : Hp} {Q : VK} (h : tM X.mg (mB f ms) σ H Q) : tCB (rB X.mg f) (tA X.mg ms) σ H Q := by
  obtain ⟨ρ, S, I, ι, d, S', e, s, hm, q⟩ := h
  unfold mB at hm
  obtain ⟨⟨ds, S1⟩, h1, hm⟩ := Option.bind_eq_some_iff.mp hm
  obtain ⟨w, h2, hm⟩ := Option.bind_eq_some_iff.mp hm
  cases hm
  exact ⟨ρ, S, I, ι, ds, _, e, s, h1, fun vs H1 I1 ι1 l1 p1 s1 r1 => ⟨_, I1, ι1, ds, d, s1, r1, h2, q.mono l1 p1⟩⟩
theorem tM_F {φ : Fn} {σ : St} {H : Hp} {Q : VK} (h : tM X.mg (mCall φ ms) σ H Q) : tA X.mg ms σ H fun vs H1 => rF X.mg φ vs H1 Q := by
  obtain ⟨ρ, S, I, ι, d, S', e, s, hm, q⟩ := h
  unfold mCall at hm
  obtain ⟨⟨ds, S1⟩, h1, hm⟩ := Option.bind_eq_some_iff.mp hm
  exact ⟨ρ, S, I, ι, ds, S1, e, s, h1, fun vs H1 I1 ι1 l1 p1 s1 r1 => ⟨ds, S1, I1, ι1, d, S', r1, s1, hm, q.mono l1 p1⟩⟩
theorem me_callB {id : String} {f : List D → Option D} (hc : CallR X (.builtin id) (rB X.mg f)) (hg : Gl X x) (hm : X.mg x = none) (hv : bootBuiltins x = some (.builtin id)) (ha : MA X (e :: es) ms) (hn : x ≠ "__name__" := by decide) (hdb : (x == ("__debug__" : Str)) = false := by decide)
    (he : starEach (e :: es) X.env = (false, eval e X.env) :: starEach es X.env := by rfl) (hpl : (backTo pos (starEach es X.env)).any (·.1) = false := by rfl) : ME X (.Call (.Name x p) (e :: es) [] pos) (mB f ms) :=
  PE.imp (pe_callB hc hg hm hv ha hn hdb he hpl) fun σ H Q q => tM_B q
theorem me_callTy {T : String} {f : List D → Option D} (hc : CallR X (.type T) (rB X.mg f)) (hg : Gl X x) (hm : X.mg x = none) (hv : bootBuiltins x = some (.type T)) (ha : MA X (e :: es) ms) (hn : x ≠ "__name__" := by decide) (hdb : (x == ("__debug__" : Str)) = false := by decide)
    (he : starEach (e :: es) X.env = (false, eval e X.env) :: starEach es X.env := by rfl) (hpl : (backTo pos (starEach es X.env)).any (·.1) = false := by rfl) : ME X (.Call (.Name x p) (e :: es) [] pos) (mB f ms) :=
  PE.imp (pe_callTy hc hg hm hv ha hn hdb he hpl) fun σ H Q q => tM_B q
/-- f(..), C(..): the name's value is called -/
theorem me_call {f : Addr} {φ : Fn} (hc : CallR X (.ref f) (rF X.mg φ)) (hg : Gl X x) (hm : X.mg x = some (.ref f)) (hk : PySem.W.keepIn X.K (.ref f) = true) (ha : MA X (e :: es) ms) (hdb : (x == ("__debug__" : Str)) = false := by decide)
    (he : starEach (e :: es) X.env = (false, eval e X.env) :: starEach es X.env := by rfl) (hpl : (backTo pos (starEach es X.env)).any (·.1) = false := by rfl) : ME X (.Call (.Name x p) (e :: es) [] pos) (mCall φ ms) := by
  constructor
  intro pins s σ H Q I h
  refine wpAny_Call_Name_kw (ld_glob I hg hm ?_ hdb)
  refine PySem.W.callWith_K (h₀ := X.base) I.ok.mod.kin hk ?_ he hpl
  refine thn (ha.run pos pins s σ H _ I (tM_F h)) ?_
  rintro us s1 ⟨vs, H1, I1, r, q⟩
  exact ⟨I1.kIn, hc pins s1 σ H1 vs us Q I1 r q⟩
theorem me_call0 {f : Addr} {φ : Fn} (hc : CallR X (.ref f) (rF X.mg φ)) (hg : Gl X x) (hm : X.mg x = some (.ref f)) (hk : PySem.W.keepIn X.K (.ref f) = true) (hdb : (x == ("__debug__" : Str)) = false := by decide) : ME X (.Call (.Name x p) [] [] pos) (mCall φ []) := by
  constructor
  intro pins s σ H Q I h
  refine wpAny_Call_Name_kw (ld_glob I hg hm ?_ hdb)
  refine PySem.W.callWith_K0 I.kIn hk ?_
  obtain ⟨ρ, S, ι0, ι, ds, S1, e, s1, h1, q⟩ := tM_F h
  cases h1
  exact hc pins s σ H [] [] Q I .nil (q _ _ _ _ Le.refl (Pre.refl) s1 .nil)
end
end Mi
set_option Elab.async false
set_option linter.all false
set_option maxRecDepth 100000
namespace Mi
open PySem L2
/-! ### statements -/
def Post (mg : Str → Option Value) (I : Hp) (ι : Io) : Fl × Rho × Store → Ends → Prop
  | (.nx, ρ, S), D => ∀ (σ' : St) (H' I' : Hp) (ι' : Io), Le I I' → Pre ι ι' → SR mg I' ι' S H' → ER mg I' ι' σ' ρ → D.nx σ' H'
  | (.ret d, ρ, S), D => After mg I ι S d D.rt
  | (.brk, ρ, S), D => ∀ (σ' : St) (H' I' : Hp) (ι' : Io), Le I I' → Pre ι ι' → SR mg I' ι' S H' → ER mg I' ι' σ' ρ → D.bk σ' H'
  | (.cont, ρ, S), D => ∀ (σ' : St) (H' I' : Hp) (ι' : Io), Le I I' → Pre ι ι' → SR mg I' ι' S H' → ER mg I' ι' σ' ρ → D.ct σ' H'
theorem Post.mono {mg : Str → Option Value} {I I1 : Hp} {ι ι1 : Io} {D : Ends} (hI : Le I I1) (hι : Pre ι ι1) : ∀ {r : Fl × Rho × Store}, Post mg I ι r D → Post mg I1 ι1 r D
  | (.nx, ρ, S), q => fun σ' H' I' ι' a b => q σ' H' I' ι' (hI.trans a) (hι.trans b)
  | (.ret d, ρ, S), q => After.mono q hI hι
  | (.brk, ρ, S), q => fun σ' H' I' ι' a b => q σ' H' I' ι' (hI.trans a) (hι.trans b)
  | (.cont, ρ, S), q => fun σ' H' I' ι' a b => q σ' H' I' ι' (hI.trans a) (hι.trans b)
def tS (mg : Str → Option Value) (sm : MS) : TS := fun D σ H => ∃ ρ S I ι r, ER mg I ι σ ρ ∧ SR mg I ι S H ∧ sm ρ S = some r ∧ Post mg I ι r D
abbrev MSt (X : Cx) (st : Stmt) (m : MS) : Prop := PS X st (tS X.mg m)
abbrev MSs (X : Cx) (st : List Stmt) (m : MS) : Prop := PSs X st (tS X.mg m)
section
variable {X : Cx} {st : Stmt} {rest : List Stmt} {e : Expr} {m : M} {a b : MS} {pos : Pos}
theorem PS.imp {t t' : TS} (h : PS X st t) (f : ∀ D σ H, t' D σ H → t D σ H) : PS X st t' := ⟨fun pins s σ H D I q => h.run pins s σ H D I (f D σ H q)⟩
theorem PSs.imp {sts : List Stmt} {t t' : TS} (h : PSs X sts t) (f : ∀ D σ H, t' D σ H → t D σ H) : PSs X sts t' := ⟨fun pins s σ H D I q => h.run pins s σ H D I (f D σ H q)⟩
theorem ms_nil : MSs X [] sPass := by
  refine PSs.imp pss_nil ?_
  rintro D σ H ⟨ρ, S, I, ι, r, e, s, hm, q⟩
  cases hm
  exact q σ H I ι Le.refl (Pre.refl) s e
theorem ms_pass : MSt X (.Pass pos) sPass := by
  refine PS.imp ps_pass ?_
  rintro D σ H ⟨ρ, S, I, ι, r, e, s, hm, q⟩
  cases hm
  exact q σ H I ι Le.refl (Pre.refl) s e
theorem ms_one (h : MSt X st a) : MSs X [st] a := pss_one h
theorem ms_cons (h1 : MSt X st a) (h2 : MSs X rest b) : MSs X (st :: rest) (sSeq a b) := by
  refine PSs.imp (pss_cons h1 h2) ?_
  rintro D σ H ⟨ρ, S, I, ι, r, e, s, hm, q⟩
  unfold sSeq at hm
  obtain ⟨⟨fl, ρ1, S1⟩, h1, hm⟩ := Option.bind_eq_some_iff.mp hm
  refine ⟨ρ, S, I, ι, (fl, ρ1, S1), e, s, h1, ?_⟩
  cases fl with
  | nx => exact fun σ' H' I' ι' l p s' e' => ⟨ρ1, S1, I', ι', r, e', s', hm, q.mono l p⟩
  | ret d => cases hm; exact q
  | brk => cases hm; exact q
  | cont => cases hm; exact q
theorem ms_expr (he : ME X e m) (hs : swapsWith e none pos.line X.env = pure false := by rfl) : MSt X (.Expr e pos) (sExpr m) := by
  refine PS.imp (ps_expr he hs) ?_
  rintro D σ H ⟨ρ, S, I, ι, r, e, s, hm, q⟩
  unfold sExpr at hm
  obtain ⟨⟨d, S1⟩, h1, hm⟩ := Option.bind_eq_some_iff.mp hm
  cases hm
  exact ⟨ρ, S, I, ι, d, S1, e, s, h1, fun v H1 I1 ι1 l1 p1 s1 r1 => q σ H1 I1 ι1 l1 p1 s1 (e.mono l1 p1)⟩
theorem ms_ret (he : ME X e m) : MSt X (.Return (some e) pos) (sRet m) := by
  refine PS.imp (ps_ret he) ?_
  rintro D σ H ⟨ρ, S, I, ι, r, e, s, hm, q⟩
  unfold sRet at hm
  obtain ⟨⟨d, S1⟩, h1, hm⟩ := Option.bind_eq_some_iff.mp hm
  cases hm
  exact ⟨ρ, S, I, ι, d, S1, e, s, h1, q⟩
theorem ms_retN : MSt X (.Return none pos) sRetN := by
  refine PS.imp ps_retN ?_
  rintro D σ H ⟨ρ, S, I, ι, r, e, s, hm, q⟩
  cases hm
  exact q _ _ _ _ Le.refl (Pre.refl) s .non
theorem ms_if {c : Expr} {x y : List Stmt} (hc : MT X c m) (ha : MSs X x a) (hb : MSs X y b) : MSt X (.If c x y pos) (sIf m a b) := by
  refine PS.imp (ps_if hc ha hb) ?_
  rintro D σ H ⟨ρ, S, I, ι, r, e, s, hm, q⟩
  unfold sIf at hm
  obtain ⟨⟨d, S1⟩, h1, hm⟩ := Option.bind_eq_some_iff.mp hm
  simp only at hm
  split at hm
  · refine ⟨ρ, S, I, ι, true, S1, e, s, h1, fun H1 I1 ι1 l1 p1 s1 => ?_⟩
    refine iteT ?_
    exact ⟨ρ, S1, I1, ι1, r, e.mono l1 p1, s1, hm, q.mono l1 p1⟩
  · refine ⟨ρ, S, I, ι, false, S1, e, s, h1, fun H1 I1 ι1 l1 p1 s1 => ?_⟩
    refine iteF ?_
    exact ⟨ρ, S1, I1, ι1, r, e.mono l1 p1, s1, hm, q.mono l1 p1⟩
  · cases hm
/-- what is never come to -/
theorem ms_no : MSt X st sNo := by
  refine PS.imp ps_never ?_
  rintro D σ H ⟨ρ, S, I, ι, r, e, s, hm, q⟩
  cases hm

/-! ### targets -/
/-- but the slots vs all stand as they stood -/
def SameOut (vs : List Nat) (σ σ' : St) : Prop := σ'.length = σ.length ∧ ∀ j, j ∉ vs → σ'[j]? = σ[j]?
theorem SameOut.refl {vs : List Nat} {σ : St} : SameOut vs σ σ := ⟨rfl, fun _ _ => rfl⟩
theorem SameOut.trans {vs : List Nat} {a b c : St} (h : SameOut vs a b) (k : SameOut vs b c) : SameOut vs a c := ⟨k.1.trans h.1, fun j hj => (k.2 j hj).trans (h.2 j hj)⟩
theorem SameOut.mono {vs us : List Nat} {a b : St} (h : SameOut vs a b) (k : ∀ j ∈ vs, j ∈ us) : SameOut us a b := ⟨h.1, fun j hj => h.2 j fun z => hj (k j z)⟩
def tG (mg : Str → Option Value) (vs : List Nat) (g : MG) : TG := fun v σ H Q => ∃ ρ S I ι d ρ' S', ER mg I ι σ ρ ∧ SR mg I ι S H ∧ Rep mg I ι v d ∧ g d ρ S = some (ρ', S') ∧
  ∀ (σ' : St) (H' I' : Hp) (ι' : Io), Le I I' → Pre ι ι' → SR mg I' ι' S' H' → ER mg I' ι' σ' ρ' → SameOut vs σ σ' → Q σ' H'
abbrev MGt (X : Cx) (t : Expr) (vs : List Nat) (g : MG) : Prop := PG X t (tG X.mg vs g)
theorem PG.imp {t : Expr} {g g' : TG} (h : PG X t g) (f : ∀ v σ H Q, g' v σ H Q → g v σ H Q) : PG X t g' := ⟨fun pins s σ H v u Q I r q => h.run pins s σ H v u Q I r (f v σ H Q q)⟩
theorem ER.set {mg : Str → Option Value} {I : Hp} {ι : Io} {σ : St} {ρ : Rho} (e : ER mg I ι σ ρ) {v : V} {d : D} (r : Rep mg I ι v d) {i : Nat} (hi : i < σ.length) : ER mg I ι (σ.set i (some v)) (ρ.set i (some d)) := fun j d' h => by
  by_cases hj : i = j
  · subst hj
    have hl := (List.getElem?_eq_some_iff.mp h).1
    rw [List.length_set] at hl
    rw [List.getElem?_set_self hl] at h
    cases h
    exact ⟨v, List.getElem?_set_self hi, r⟩
  · rw [List.getElem?_set_ne hj] at h
    obtain ⟨w, h1, h2⟩ := e j d' h
    exact ⟨w, by rw [List.getElem?_set_ne hj]; exact h1, h2⟩
end
end Mi
set_option Elab.async false
set_option linter.all false
set_option maxRecDepth 100000
namespace Mi
open PySem L2
section
variable {X : Cx} {e o i : Expr} {es : List Expr} {g : MG} {gs : List MG} {m mo mi : M} {pos : Pos}
theorem mg_name {x : Str} {n : Nat} (hN : X.N.Nodup) (hi : X.N[n]? = some x) (hx : Loc X.env.scope x) (hf : X.fn x = true ∨ X.env.scope.names.lookup x = some .local := by first | exact .inl rfl | exact .inr rfl | assumption) : MGt X (.Name x pos) [n] (gName n) := by
  constructor
  rintro pins s σ H v u Q I r ⟨ρ, S, J, ι, d, ρ', S', e, sr, rd, hm, q⟩
  cases hm
  refine (pg_name hN hi hx hf).run pins s σ H v u Q I r ?_
  refine q _ H J ι Le.refl (Pre.refl) sr (e.set rd ?_) ⟨List.length_set, fun j hj => ?_⟩
  · rw [I.len]
    exact (List.getElem?_eq_some_iff.mp hi).1
  · exact List.getElem?_set_ne (fun z => hj (by subst z; exact List.mem_singleton_self _))
def tGs (mg : Str → Option Value) (us : List Nat) (gs : List MG) : TGs := fun vs σ H Q => ∃ ρ S I ι ds ρ' S', ER mg I ι σ ρ ∧ SR mg I ι S H ∧ Reps mg I ι vs ds ∧ gList gs ds ρ S = some (ρ', S') ∧
  ∀ (σ' : St) (H' I' : Hp) (ι' : Io), Le I I' → Pre ι ι' → SR mg I' ι' S' H' → ER mg I' ι' σ' ρ' → SameOut us σ σ' → Q σ' H'
abbrev MGs (X : Cx) (ts : List Expr) (us : List Nat) (gs : List MG) : Prop := PGs X ts (tGs X.mg us gs)
theorem PGs.imp {ts : List Expr} {t t' : TGs} (h : PGs X ts t) (f : ∀ v σ H Q, t' v σ H Q → t v σ H Q) : PGs X ts t' := ⟨fun pins s σ H v u Q I r q => h.run pins s σ H v u Q I r (f v σ H Q q)⟩
theorem mgs_nil : MGs X [] [] [] := by
  refine PGs.imp pgs_nil ?_
  rintro vs σ H Q ⟨ρ, S, I, ι, ds, ρ', S', e, s, rd, hm, q⟩
  cases rd with
  | nil => cases hm; exact ⟨rfl, q _ H I ι Le.refl (Pre.refl) s e .refl⟩
  | cons _ _ => cases hm
theorem mgs_cons {us ws : List Nat} (h1 : MGt X e us g) (h2 : MGs X es ws gs) (hs : List.map (fun x => x.snd) (assignEach (e :: es) X.env) = assign e X.env :: List.map (fun x => x.snd) (assignEach es X.env) := by rfl) : MGs X (e :: es) (us ++ ws) (g :: gs) := by
  refine PGs.imp (pgs_cons h1 h2 hs) ?_
  rintro vs σ H Q ⟨ρ, S, I, ι, ds, ρ', S', e, s, rd, hm, q⟩
  cases rd with
  | nil => cases hm
  | cons h t =>
    unfold gList at hm
    obtain ⟨⟨ρ1, S1⟩, hm1, hm⟩ := Option.bind_eq_some_iff.mp hm
    refine ⟨_, _, rfl, ρ, S, I, ι, _, ρ1, S1, e, s, h, hm1, fun σ1 H1 I1 ι1 l1 p1 s1 e1 o1 => ?_⟩
    exact ⟨ρ1, S1, I1, ι1, _, ρ', S', e1, s1, t.mono l1 p1, hm, fun σ2 H2 I2 ι2 l2 p2 s2 e2 o2 => q σ2 H2 I2 ι2 (l1.trans l2) (p1.trans p2) s2 e2 ((o1.mono fun j h => List.mem_append_left _ h).trans (o2.mono fun j h => List.mem_append_right _ h))⟩
theorem gList_length : ∀ {gs : List MG} {ds : List D} {ρ : Rho} {S : Store} {r : Rho × Store}, gList gs ds ρ S = some r → ds.length = gs.length
  | [], [], _, _, _, _ => rfl
  | [], _ :: _, _, _, _, h => by cases h
  | _ :: _, [], _, _, _, h => by cases h
  | g :: gs, d :: ds, ρ, S, r, h => by
    unfold gList at h
    obtain ⟨⟨ρ1, S1⟩, _, h⟩ := Option.bind_eq_some_iff.mp h
    simp [gList_length h]
theorem mg_tup {k : Nat} {us : List Nat} (hc : X.calm = true) (h : MGs X es us gs) (hn : (assignEach es X.env).length = gs.length := by rfl) (hst : (assignEach es X.env).findIdx? (·.1) = none := by rfl) : MGt X (.Tuple es k pos) us (gTup gs) := by
  refine PG.imp (pg_tup hc h hn hst) ?_
  rintro v σ H Q ⟨ρ, S, I, ι, d, ρ', S', e, s, rd, hm, q⟩
  unfold Mi.gTup at hm
  split at hm
  · rename_i ds
    cases rd with
    | tup hI rs =>
      refine ⟨_, _, rfl, .inl (.inl (s.sub _ _ hI)), ?_, ρ, S, I, ι, ds, ρ', S', e, s, rs, hm, q⟩
      rw [rs.length, gList_length hm]
  · cases hm

/-- a thing of the store is changed -/
theorem SR.set {mg : Str → Option Value} {I H : Hp} {ι : Io} {S : Store} (s : SR mg I ι S H) {k : Nat} {d d' : D} {a : Addr} {u : HO} (hk : S[k]? = some (some d)) (ha : ι.l[k]? = some a)
    (r : RepO mg I (upd H a u) a d') (keep : ∀ b, H b = some (.own a) → upd H a u b = some (.own a)) (nown : ∀ b, H a ≠ some (.own b)) : SR mg I ι (setStore S k d') (upd H a u) := by
  obtain ⟨a', h1, hIa, h3⟩ := s.live k d hk
  rw [ha] at h1; cases h1
  have hkl := (List.getElem?_eq_some_iff.mp hk).1
  have get : ∀ {j : Nat} {w : D}, (setStore S k d')[j]? = some (some w) → (j = k ∧ w = d') ∨ (j ≠ k ∧ S[j]? = some (some w)) := fun {j w} e => by
    unfold setStore at e
    by_cases hj : k = j
    · subst hj
      rw [List.getElem?_set_self hkl] at e
      cases e; exact .inl ⟨rfl, rfl⟩
    · rw [List.getElem?_set_ne hj] at e
      exact .inr ⟨fun z => hj z.symm, e⟩
  refine ⟨fun b w e => ?_, by simp [setStore, s.len], fun j w e => ?_, fun j j' w w' b e1 e2 e3 e4 => ?_, fun b w e => ?_⟩
  · rw [upd_ne (fun z => by subst z; rw [hIa.1] at e; cases e)]; exact s.sub b w e
  · rcases get e with ⟨rfl, rfl⟩ | ⟨hj, e⟩
    · exact ⟨a, ha, hIa, r⟩
    · obtain ⟨b, g1, g2, g3⟩ := s.live j w e
      have hba : b ≠ a := fun z => by subst z; exact hj (s.inj j k w d b e hk g1 ha)
      refine ⟨b, g1, g2, g3.mono Le.refl (fun c o hc ho => ?_) fun _ _ q => q⟩
      rcases hc with rfl | hc
      · rw [upd_ne hba]; exact ho
      · rw [upd_ne (fun z => by subst z; exact nown b hc)]; exact ho
  · have e1' : ∃ z, S[j]? = some (some z) := by
      rcases get e1 with ⟨rfl, _⟩ | ⟨_, e⟩
      · exact ⟨d, hk⟩
      · exact ⟨w, e⟩
    have e2' : ∃ z, S[j']? = some (some z) := by
      rcases get e2 with ⟨rfl, _⟩ | ⟨_, e⟩
      · exact ⟨d, hk⟩
      · exact ⟨w', e⟩
    obtain ⟨z, e1'⟩ := e1'
    obtain ⟨z', e2'⟩ := e2'
    exact s.inj j j' z z' b e1' e2' e3 e4
  · rw [upd_ne (fun z => by subst z; rw [hIa.2] at e; cases e)]; exact s.keep b w e
theorem SR.set_lst {mg : Str → Option Value} {I H : Hp} {ι : Io} {S : Store} (s : SR mg I ι S H) {k : Nat} {ds es : List D} {a : Addr} {xs : List V} (hk : S[k]? = some (some (.lst ds))) (ha : ι.l[k]? = some a) (r : Reps mg I Io.nil xs es) :
    SR mg I ι (setStore S k (.lst es)) (upd H a (.lst xs)) := by
  obtain ⟨a', h1, hIa, h3⟩ := s.live k _ hk
  rw [ha] at h1; cases h1
  cases h3 with
  | lst h _ => exact s.set hk ha (.lst upd_same r) (fun b e => by rw [upd_ne (fun z => by subst z; rw [h] at e; cases e)]; exact e) fun b e => by rw [h] at e; cases e
theorem Reps.set {mg : Str → Option Value} {I : Hp} {ι : Io} {v : V} {d : D} (h : Rep mg I ι v d) : ∀ (n : Nat) {xs : List V} {ds : List D}, Reps mg I ι xs ds → Reps mg I ι (xs.set n v) (ds.set n d)
  | _, _, _, .nil => .nil
  | 0, _, _, .cons _ t => .cons h t
  | n + 1, _, _, .cons g t => .cons g (Reps.set h n t)
theorem live_lst {mg : Str → Option Value} {I H : Hp} {ι : Io} {S : Store} (s : SR mg I ι S H) {k : Nat} {ds : List D} {a : Addr} (hk : S[k]? = some (some (.lst ds))) (ha : ι.l[k]? = some a) : ∃ xs, H a = some (.lst xs) ∧ Reps mg I Io.nil xs ds := by
  obtain ⟨a', h1, hIa, h3⟩ := s.live k _ hk
  rw [ha] at h1; cases h1
  cases h3 with
  | lst h r => exact ⟨_, h, r⟩
theorem mg_sub (h : PG X (.Subscript o i pos) (L2.gSub (tM X.mg mo) (tM X.mg mi) rSetL)) : MGt X (.Subscript o i pos) [] (gSub mo mi) := by
  refine PG.imp h ?_
  rintro v σ H Q ⟨ρ, S, I, ι, d, ρ', S', e, s, rd, hm, q⟩
  unfold Mi.gSub at hm
  obtain ⟨⟨x, S1⟩, h1, hm⟩ := Option.bind_eq_some_iff.mp hm
  obtain ⟨⟨y, S2⟩, h2, hm⟩ := Option.bind_eq_some_iff.mp hm
  simp only at hm
  split at hm
  rotate_left
  · cases hm
  split at hm
  rotate_left
  · cases hm
  rename_i ds hk
  obtain ⟨n, hn, hm⟩ := Option.bind_eq_some_iff.mp hm
  split at hm
  rotate_left
  · cases hm
  rename_i hp
  cases hm
  refine ⟨ρ, S, I, ι, _, S1, e, s, h1, fun v1 H1 I1 ι1 l1 p1 s1 r1 => ?_⟩
  refine ⟨ρ, S1, I1, ι1, _, S2, e.mono l1 p1, s1, h2, fun v2 H2 I2 ι2 l2 p2 s2 r2 => ?_⟩
  cases r2
  have r1' := r1.mono l2 p2
  cases r1' with
  | rf hk2 =>
    obtain ⟨xs, hx, rx⟩ := live_lst s2 hk hk2
    refine ⟨_, xs, _, n, rfl, rfl, hx, ?_, ?_⟩
    · rw [rx.length]; exact place_ixN hn
    · exact q _ _ I2 ι2 (l1.trans l2) (p1.trans p2) (s2.set_lst hk hk2 (Reps.set ((rd.mono (l1.trans l2) (p1.trans p2)).of_pure hp) n rx)) (e.mono (l1.trans l2) (p1.trans p2)) .refl

/-- targets = value -/
theorem ms_set {tg : Expr} {us : List Nat} (he : ME X e m) (hg : MGt X tg us g) (hs : swapsWithSole [tg] e pos.line X.env = pure false := by rfl) (hw : swappedStores [tg] e X.env = pure none := by rfl)
    (h1 : (assignEach [tg] X.env).map (·.2) = [assign tg X.env] := by rfl) : MSt X (.Assign [tg] e pos) (sSet g m) := by
  refine PS.imp (ps_asg he hg hs hw h1) ?_
  rintro D σ H ⟨ρ, S, I, ι, r, e, s, hm, q⟩
  unfold sSet at hm
  obtain ⟨⟨d, S1⟩, h1, hm⟩ := Option.bind_eq_some_iff.mp hm
  obtain ⟨⟨ρ2, S2⟩, h2, hm⟩ := Option.bind_eq_some_iff.mp hm
  cases hm
  refine ⟨ρ, S, I, ι, d, S1, e, s, h1, fun v1 H1 I1 ι1 l1 p1 s1 r1 => ?_⟩
  exact ⟨ρ, S1, I1, ι1, d, ρ2, S2, e.mono l1 p1, s1, r1, h2, fun σ2 H2 I2 ι2 l2 p2 s2 e2 _ => q σ2 H2 I2 ι2 (l1.trans l2) (p1.trans p2) s2 e2⟩
end
end Mi
set_option Elab.async false
set_option linter.all false
set_option maxRecDepth 100000
namespace Mi
open PySem L2
/-! ### what is walked -/
def Walks (mg : Str → Option Value) (J : It) (I : Hp) (ι : Io) (xs : List D) (w : Option Nat) : Prop :=
  ∀ (i : Nat) (H I1 : Hp) (ι1 : Io) (S : Store), Le I I1 → ι.l <+: ι1.l → SR mg I1 ι1 S H → still xs w S →
    (∀ d, xs[i]? = some d → J.go i H ∧ ∀ x H', J.yld i H x H' → ∃ I2, Le I1 I2 ∧ SR mg I2 ι1 S H' ∧ Rep mg I2 ι1 x d) ∧ (xs.length ≤ i → J.stop i H)
def tI (mg : Str → Option Value) (it : MI) : TI := fun σ H R => ∃ ρ S I ι xs w S', ER mg I ι σ ρ ∧ SR mg I ι S H ∧ it ρ S = some (xs, w, S') ∧
  ∀ (J : It) (H' I' : Hp) (ι' : Io), Le I I' → Pre ι ι' → SR mg I' ι' S' H' → Walks mg J I' ι' xs w → R J H'
abbrev MIt (X : Cx) (tg iter : Expr) (it : MI) : Prop := PI X tg iter (tI X.mg it)
section
variable {X : Cx} {tg iter : Expr} {m ma mb : M} {pos p : Pos}
theorem PI.imp {t t' : TI} (h : PI X tg iter t) (f : ∀ σ H R, t' σ H R → t σ H R) : PI X tg iter t' := ⟨fun pins s σ H R I q => h.run pins s σ H R I (f σ H R q)⟩
theorem PI.or {t t' : TI} (h : PI X tg iter t) (h' : PI X tg iter t') : PI X tg iter (fun σ H R => t σ H R ∨ t' σ H R) := ⟨fun pins s σ H R I q => q.elim (h.run pins s σ H R I) (h'.run pins s σ H R I)⟩
theorem walks_list {mg : Str → Option Value} {K : PySem.W.Frag} {I : Hp} {ι : Io} {a : Addr} {vs : List V} {xs : List D} (h : Rd I a (.lst vs)) (r : Reps mg I ι vs xs) : Walks mg (Itl K a) I ι xs none := by
  intro i H I1 ι1 S l p s _
  have hH : Rd H a (.lst vs) := rd_le s.sub (rd_le l h)
  refine ⟨fun d hd => ?_, fun hi => ⟨vs, .inl hH, by rw [r.length]; exact hi⟩⟩
  obtain ⟨v, hv, rv⟩ := r.get hd
  refine ⟨⟨vs, v, .inl hH, hv⟩, ?_⟩
  rintro x H' ⟨rfl, hx⟩
  have e := hx vs (.inl hH)
  rw [hv] at e; cases e
  exact ⟨I1, Le.refl, s, rv.pre l p⟩
theorem walks_tup {mg : Str → Option Value} {K : PySem.W.Frag} {I : Hp} {ι : Io} {a : Addr} {vs : List V} {xs : List D} (h : I a = some (.tup vs)) (r : Reps mg I ι vs xs) : Walks mg (Itt K a) I ι xs none := by
  intro i H I1 ι1 S l p s _
  have hH : H a = some (.tup vs) := s.sub _ _ (l _ _ h)
  refine ⟨fun d hd => ?_, fun hi => ⟨vs, .of hH, by rw [r.length]; exact hi⟩⟩
  obtain ⟨v, hv, rv⟩ := r.get hd
  refine ⟨⟨vs, v, .of hH, hv⟩, ?_⟩
  rintro x H' ⟨rfl, hx⟩
  have e := hx vs (.of hH)
  rw [hv] at e; cases e
  exact ⟨I1, Le.refl, s, rv.pre l p⟩
theorem walks_live {mg : Str → Option Value} {K : PySem.W.Frag} {I : Hp} {ι : Io} {k : Nat} {a : Addr} {xs : List D} (ha : ι.l[k]? = some a) : Walks mg (Itl K a) I ι xs (some k) := by
  intro i H I1 ι1 S l p s hs
  obtain ⟨vs, hH, r⟩ := live_lst s hs (pre_get p ha)
  refine ⟨fun d hd => ?_, fun hi => ⟨vs, .of hH, by rw [r.length]; exact hi⟩⟩
  obtain ⟨v, hv, rv⟩ := r.get hd
  refine ⟨⟨vs, v, .of hH, hv⟩, ?_⟩
  rintro x H' ⟨rfl, hx⟩
  have e := hx vs (.of hH)
  rw [hv] at e; cases e
  exact ⟨I1, Le.refl, s, rv.pre Le.refl List.nil_prefix⟩
theorem mi_seq (h : ME X iter m) : MIt X tg iter (iSeq m) := by
  refine PI.imp (PI.or (pi_list h) (pi_tup h)) ?_
  rintro σ H R ⟨ρ, S, I, ι, xs, w, S', e, s, hm, q⟩
  unfold iSeq at hm
  obtain ⟨⟨x, S1⟩, h1, hm⟩ := Option.bind_eq_some_iff.mp hm
  simp only at hm
  split at hm
  · cases hm
    refine .inl ⟨ρ, S, I, ι, _, _, e, s, h1, fun v1 H1 I1 ι1 l1 p1 s1 r1 => ?_⟩
    cases r1 with
    | lstR hI rs => exact ⟨_, rfl, ⟨_, .inl (rd_le s1.sub hI)⟩, q _ _ _ _ l1 p1 s1 (walks_list hI rs)⟩
  · cases hm
    refine .inr ⟨ρ, S, I, ι, _, _, e, s, h1, fun v1 H1 I1 ι1 l1 p1 s1 r1 => ?_⟩
    cases r1 with
    | tup hI rs => exact ⟨_, rfl, ⟨_, .of (s1.sub _ _ hI)⟩, q _ _ _ _ l1 p1 s1 (walks_tup hI rs)⟩
  · split at hm
    · rename_i k _ ds hk
      cases hm
      refine .inl ⟨ρ, S, I, ι, _, _, e, s, h1, fun v1 H1 I1 ι1 l1 p1 s1 r1 => ?_⟩
      cases r1 with
      | rf hl =>
        obtain ⟨vs, hH, _⟩ := live_lst s1 hk hl
        exact ⟨_, rfl, ⟨_, .of hH⟩, q _ _ _ _ l1 p1 s1 (walks_live hl)⟩
    · cases hm
  · cases hm
theorem intL_get {lo : Int} {n i : Nat} {d : D} (h : (intL lo n)[i]? = some d) : i < n ∧ d = .int (lo + i) := by
  unfold intL at h
  rw [List.getElem?_map] at h
  obtain ⟨j, hj, rfl⟩ := Option.map_eq_some_iff.mp h
  have := List.getElem?_eq_some_iff.mp hj
  obtain ⟨hl, e⟩ := this
  rw [List.length_range] at hl
  rw [List.getElem_range] at e
  subst e
  exact ⟨hl, rfl⟩
theorem walks_range {mg : Str → Option Value} {I : Hp} {ι : Io} {lo : Int} {n : Nat} {w : Option Nat} : Walks mg (Itr lo n) I ι (intL lo n) w := by
  intro i H I1 ι1 S l p s hs
  refine ⟨fun d hd => ?_, fun hi => ?_⟩
  rotate_left
  · have e : (intL lo n).length = n := by simp [intL]
    rw [e] at hi
    exact hi
  obtain ⟨hi, rfl⟩ := intL_get hd
  refine ⟨hi, ?_⟩
  rintro x H' ⟨rfl, rfl⟩
  exact ⟨I1, Le.refl, s, .int _⟩
theorem mi_range1 {a : Expr} (hg : Gl X "range") (hm : X.mg "range" = none) (ha : MA X [a] [ma]) (hs : starEach [a] X.env = [(false, eval a X.env)] := by rfl) : MIt X tg (.Call (.Name "range" p) [a] [] pos) (iRange1 ma) := by
  refine PI.imp (pi_range1 hg hm ha hs) ?_
  rintro σ H R ⟨ρ, S, I, ι, xs, w, S', e, s, hm, q⟩
  unfold iRange1 at hm
  obtain ⟨⟨x, S1⟩, h1, hm⟩ := Option.bind_eq_some_iff.mp hm
  simp only at hm
  split at hm
  · rename_i j
    split at hm
    · rename_i hj
      cases hm
      refine ⟨ρ, S, I, ι, [.int j], S', e, s, by simp [evalL, h1], fun vs H1 I1 ι1 l1 p1 s1 r1 => ?_⟩
      cases r1 with
      | cons rh rt =>
        cases rh; cases rt
        unfold big at hj
        exact ⟨j, rfl, by omega, by omega, q _ _ _ _ l1 p1 s1 walks_range⟩
    · cases hm
  · cases hm
theorem mi_range2 {a b : Expr} (hg : Gl X "range") (hm : X.mg "range" = none) (ha : MA X [a, b] [ma, mb]) (hs : starEach [a, b] X.env = [(false, eval a X.env), (false, eval b X.env)] := by rfl) (hs2 : starEach [b] X.env = [(false, eval b X.env)] := by rfl) : MIt X tg (.Call (.Name "range" p) [a, b] [] pos) (iRange2 ma mb) := by
  refine PI.imp (pi_range2 hg hm ha hs hs2) ?_
  rintro σ H R ⟨ρ, S, I, ι, xs, w, S', e, s, hm, q⟩
  unfold iRange2 at hm
  obtain ⟨⟨x, S1⟩, h1, hm⟩ := Option.bind_eq_some_iff.mp hm
  obtain ⟨⟨y, S2⟩, h2, hm⟩ := Option.bind_eq_some_iff.mp hm
  simp only at hm
  split at hm
  · rename_i i j h2
    split at hm
    · rename_i hj
      cases hm
      refine ⟨ρ, S, I, ι, [.int i, .int j], S', e, s, by simp [evalL, h1, h2], fun vs H1 I1 ι1 l1 p1 s1 r1 => ?_⟩
      cases r1 with
      | cons rh rt =>
        cases rt with
        | cons rh2 rt2 =>
          cases rh; cases rh2; cases rt2
          exact ⟨i, j, rfl, by unfold big at hj; omega, q _ _ _ _ l1 p1 s1 walks_range⟩
    · cases hm
  · cases hm

/-! ### for -/
theorem drop_step {α : Type} {l : List α} {i : Nat} (h : i < l.length) : ∃ x, l[i]? = some x ∧ l.drop i = x :: l.drop (i + 1) :=
  ⟨l[i], List.getElem?_eq_getElem h, List.drop_eq_getElem_cons h⟩
theorem ms_for {us : List Nat} {it : MI} {g : MG} {body : List Stmt} {b : MS} (hx : X.xe = fun _ _ => False) (hc : X.calm = true) (hi : MIt X tg iter it) (hg : MGt X tg us g) (hb : MSs X body b)
    (hs : ∀ x, foldedSetIterable iter X.env x = pure x := by intro _; rfl) : MSt X (.For tg iter body [] pos) (sFor it g b) := by
  refine PS.imp (ps_for (by rw [hx]; exact PassesOwn.never) hc hi hg hb hs) ?_
  rintro D σ H ⟨ρ, S, I, ι, r, e, s, hm, q⟩
  unfold sFor at hm
  obtain ⟨⟨xs, w, S1⟩, h1, hm⟩ := Option.bind_eq_some_iff.mp hm
  refine ⟨ρ, S, I, ι, xs, w, S1, e, s, h1, fun J H0 I0 ι0 l0 p0 s0 wk => ?_⟩
  refine ⟨fun i n σ1 H1 => ∃ ρ1 S2 I1 ι1, Le I0 I1 ∧ Pre ι0 ι1 ∧ ER X.mg I1 ι1 σ1 ρ1 ∧ SR X.mg I1 ι1 S2 H1 ∧ n = xs.length - i ∧ i ≤ xs.length ∧ for1 g b xs w (xs.drop i) ρ1 S2 = some r,
    ⟨_, ρ, S1, I0, ι0, Le.refl, Pre.refl, e.mono l0 p0, s0, rfl, Nat.zero_le _, hm⟩, ?_⟩
  rintro i n σ1 H1 ⟨ρ1, S2, I1, ι1, l1, p1, e1, s1, rfl, hi, hf⟩
  by_cases hlt : i < xs.length
  · obtain ⟨d, hd, hdr⟩ := drop_step hlt
    rw [hdr] at hf
    unfold for1 at hf
    split at hf
    rotate_left
    · cases hf
    rename_i hst
    obtain ⟨⟨ρ2, S3⟩, hg2, hf⟩ := Option.bind_eq_some_iff.mp hf
    obtain ⟨⟨fl, ρ3, S4⟩, hb3, hf⟩ := Option.bind_eq_some_iff.mp hf
    obtain ⟨go, yl⟩ := (wk i H1 I1 ι1 S2 l1 p1.1 s1 hst).1 d hd
    refine .inr ⟨go, _, fun σ' H' h => ⟨_, (by omega : xs.length - (i + 1) < xs.length - i), h⟩, fun x H' y => ?_⟩
    obtain ⟨I2, l2, s2, r2⟩ := yl x H' y
    refine ⟨ρ1, S2, I2, ι1, d, ρ2, S3, e1.mono l2 Pre.refl, s2, r2, hg2, fun σ3 H3 I3 ι3 l3 p3 s3 e3 _ => ?_⟩
    refine ⟨ρ2, S3, I3, ι3, _, e3, s3, hb3, ?_⟩
    cases fl with
    | nx => exact fun σ4 H4 I4 ι4 l4 p4 s4 e4 => ⟨ρ3, S4, I4, ι4, ((l1.trans l2).trans l3).trans l4, (p1.trans p3).trans p4, e4, s4, rfl, hlt, hf⟩
    | cont => exact fun σ4 H4 I4 ι4 l4 p4 s4 e4 => ⟨ρ3, S4, I4, ι4, ((l1.trans l2).trans l3).trans l4, (p1.trans p3).trans p4, e4, s4, rfl, hlt, hf⟩
    | brk =>
      cases hf
      exact fun σ4 H4 I4 ι4 l4 p4 s4 e4 => q σ4 H4 I4 ι4 ((((l0.trans l1).trans l2).trans l3).trans l4) (((p0.trans p1).trans p3).trans p4) s4 e4
    | ret d =>
      cases hf
      exact After.mono q (((l0.trans l1).trans l2).trans l3) ((p0.trans p1).trans p3)
  · have hi2 : i = xs.length := by omega
    subst hi2
    rw [List.drop_length] at hf
    unfold for1 at hf
    split at hf
    rotate_left
    · cases hf
    rename_i hst
    cases hf
    exact .inl ⟨(wk _ H1 I1 ι1 S2 l1 p1.1 s1 hst).2 (Nat.le_refl _), q σ1 H1 I1 ι1 (l0.trans l1) (p0.trans p1) s1 e1⟩
end
end Mi
set_option Elab.async false
set_option linter.all false
set_option maxRecDepth 100000
namespace Mi
open PySem L2
/-! ### comprehensions -/
theorem wipe_in {σ : St} {j : Nat} : ∀ {vs : List Nat}, j ∈ vs → (L2.wipe σ vs)[j]? = if j < σ.length then some none else none
  | v :: vs, h => by
    unfold L2.wipe
    by_cases hv : v = j
    · subst hv
      by_cases hl : v < σ.length
      · rw [List.getElem?_set_self (by rw [L2.wipe_length]; exact hl), if_pos hl]
      · rw [if_neg hl]
        refine List.getElem?_eq_none_iff.mpr ?_
        rw [List.length_set, L2.wipe_length]; omega
    · rw [List.getElem?_set_ne hv]
      rcases List.mem_cons.mp h with e | h
      · exact absurd e.symm hv
      · exact wipe_in h
theorem wipe_eq {us vs : List Nat} {σ σ2 : St} (h : SameOut us (L2.wipe σ vs) σ2) (k : ∀ j ∈ us, j ∈ vs) : L2.wipe σ2 vs = L2.wipe σ vs := by
  refine List.ext_getElem? fun j => ?_
  by_cases hj : j ∈ vs
  · rw [wipe_in hj, wipe_in hj, h.1, L2.wipe_length]
  · rw [L2.wipe_out hj]
    exact h.2 j fun z => hj (k j z)
theorem mwipe_some {ρ : Rho} {i : Nat} {x : D} : ∀ {vs : List Nat}, (Mi.wipe ρ vs)[i]? = some (some x) → ρ[i]? = some (some x) ∧ i ∉ vs
  | [], h => ⟨h, by simp⟩
  | v :: vs, h => by
    unfold Mi.wipe at h
    by_cases hv : v = i
    · subst hv
      by_cases hl : v < (Mi.wipe ρ vs).length
      · rw [List.getElem?_set_self hl] at h; cases h
      · rw [List.getElem?_eq_none_iff.mpr (by rw [List.length_set]; omega)] at h; cases h
    · rw [List.getElem?_set_ne hv] at h
      obtain ⟨h1, h2⟩ := mwipe_some h
      refine ⟨h1, fun z => ?_⟩
      rcases List.mem_cons.mp z with e | z
      · exact hv e.symm
      · exact h2 z
theorem ER.wipe {mg : Str → Option Value} {I : Hp} {ι : Io} {σ : St} {ρ : Rho} (e : ER mg I ι σ ρ) (vs : List Nat) : ER mg I ι (L2.wipe σ vs) (Mi.wipe ρ vs) := fun i d h => by
  obtain ⟨h1, h2⟩ := mwipe_some h
  obtain ⟨v, h3, h4⟩ := e i d h1
  exact ⟨v, by rw [L2.wipe_out h2]; exact h3, h4⟩
section
variable {mg : Str → Option Value} {I H : Hp} {ι : Io} {S : Store} {D0 : Addr} {xs ys : List V}
theorem ER.pre {I' : Hp} {ι' : Io} {σ : St} {ρ : Rho} (e : ER mg I ι σ ρ) (hI : Le I I') (hι : ι.l <+: ι'.l) : ER mg I' ι' σ ρ := fun i d h =>
  let ⟨v, h1, h2⟩ := e i d h
  ⟨v, h1, h2.pre hI hι⟩
/-- a list that is being made is kept aside -/
structure Aside (I H : Hp) (ι : Io) (S : Store) (D0 : Addr) (xs : List V) : Prop where
  at_ : H D0 = some (.lst xs)
  no : I D0 = none
  out : ∀ (k : Nat) (d : D), S[k]? = some (some d) → ι.l[k]? ≠ some D0
theorem SR.aside (s : SR mg I ι S H) (a : Aside I H ι S D0 xs) : SR mg I ⟨ι.l, upd ι.z D0 (.lst xs)⟩ S H := by
  refine ⟨s.sub, s.len, fun k d e => ?_, s.inj, fun b o e => ?_⟩
  · obtain ⟨b, h1, h2, h3⟩ := s.live k d e
    refine ⟨b, h1, ⟨h2.1, ?_⟩, h3⟩
    have hb : b ≠ D0 := fun z => by subst z; exact a.out k d e h1
    show upd ι.z D0 _ b = none
    rw [upd_ne hb]; exact h2.2
  · have e : upd ι.z D0 (.lst xs) b = some o := e
    by_cases hb : b = D0
    · subst hb
      rw [upd_same] at e; cases e
      exact ⟨a.at_, a.no, xs, rfl⟩
    · rw [upd_ne hb] at e
      exact s.keep b o e
/-- .. and is taken up again: changed -/
theorem SR.taken {z : Hp} (hz : ι.z = upd z D0 (.lst xs)) (hz0 : z D0 = none) (s : SR mg I ι S H) : SR mg I ⟨ι.l, z⟩ S (upd H D0 (.lst ys)) ∧ Aside I (upd H D0 (.lst ys)) ⟨ι.l, z⟩ S D0 ys := by
  have k := s.keep D0 (.lst xs) (by rw [hz, upd_same])
  have nb : ∀ b o, I b = some o → b ≠ D0 := fun b o e z => by subst z; rw [k.2.1] at e; cases e
  refine ⟨⟨fun b o e => by rw [upd_ne (nb b o e)]; exact s.sub b o e, s.len, fun j d e => ?_, s.inj, fun b o e => ?_⟩, ⟨upd_same, k.2.1, fun j d e h => ?_⟩⟩
  · obtain ⟨b, h1, h2, h3⟩ := s.live j d e
    have hb : b ≠ D0 := fun q => by
      subst q
      have := h2.2
      rw [hz, upd_same] at this; cases this
    refine ⟨b, h1, ⟨h2.1, ?_⟩, h3.mono Le.refl (fun c o hc ho => ?_) fun _ _ q => q⟩
    · have := h2.2
      rw [hz, upd_ne hb] at this
      exact this
    · rcases hc with rfl | hc
      · rw [upd_ne hb]; exact ho
      · rw [upd_ne (fun q => by subst q; rw [k.1] at hc; cases hc)]; exact ho
  · have e : z b = some o := e
    have hb : b ≠ D0 := fun q => by subst q; rw [hz0] at e; cases e
    rw [upd_ne hb]
    exact s.keep b o (by rw [hz, upd_ne hb]; exact e)
  · obtain ⟨b, h1, h2, h3⟩ := s.live j d e
    have h : ι.l[j]? = some D0 := h
    rw [h] at h1; cases h1
    have := h2.2
    rw [hz, upd_same] at this; cases this
/-- .. as it was -/
theorem SR.freed {z : Hp} (hz : ι.z = upd z D0 (.lst xs)) (hz0 : z D0 = none) (s : SR mg I ι S H) : SR mg I ⟨ι.l, z⟩ S H ∧ Aside I H ⟨ι.l, z⟩ S D0 xs := by
  have k := s.keep D0 (.lst xs) (by rw [hz, upd_same])
  have e : upd H D0 (.lst xs) = H := by
    funext b
    by_cases hb : b = D0
    · subst hb; rw [upd_same, k.1]
    · rw [upd_ne hb]
  have t := s.taken (ys := xs) hz hz0
  rw [e] at t
  exact t
/-- a list that was made is settled -/
theorem SR.settle (s : SR mg I ι S H) (a : Aside I H ι S D0 xs) (hz : ι.z D0 = none) : SR mg (upd I D0 (.lst xs)) ι S H ∧ Le I (upd I D0 (.lst xs)) := by
  refine ⟨⟨fun b o e => ?_, s.len, fun j d e => ?_, s.inj, fun b o e => ?_⟩, Le.upd a.no⟩
  · by_cases hb : b = D0
    · subst hb; rw [upd_same] at e; cases e; exact a.at_
    · rw [upd_ne hb] at e; exact s.sub b o e
  · obtain ⟨b, h1, h2, h3⟩ := s.live j d e
    have hb : b ≠ D0 := fun z => by subst z; exact a.out j d e h1
    refine ⟨b, h1, ⟨by rw [upd_ne hb]; exact h2.1, h2.2⟩, h3.mono (Le.upd a.no) (fun _ _ _ q => q) fun dx e q => ?_⟩
    rw [upd_ne (fun z => by subst z; rw [a.at_] at e; cases e)]; exact q
  · have k := s.keep b o e
    have hb : b ≠ D0 := fun z => by subst z; rw [hz] at e; cases e
    exact ⟨k.1, by rw [upd_ne hb]; exact k.2.1, k.2.2⟩
/-- .. or becomes a thing of the store -/
theorem SR.adopt (s : SR mg I ι S H) (a : Aside I H ι S D0 xs) (hz : ι.z D0 = none) {d : D} (r : RepO mg I H D0 d) : SR mg I ⟨ι.l ++ [D0], ι.z⟩ (S ++ [some d]) H := by
  have ne : ∀ {k : Nat} {u : D} {b : Addr}, S[k]? = some (some u) → ι.l[k]? = some b → b ≠ D0 := fun e f z => by subst z; exact a.out _ _ e f
  refine ⟨s.sub, by simp [s.len], fun k u e => ?_, fun j k u w b e1 e2 e3 e4 => ?_, s.keep⟩
  · by_cases hk : k < S.length
    · rw [List.getElem?_append_left hk] at e
      obtain ⟨b, h1, h2, h3⟩ := s.live k u e
      exact ⟨b, by rw [List.getElem?_append_left (by rw [s.len]; exact hk)]; exact h1, h2, h3⟩
    · have hk2 : k = S.length := by
        have := (List.getElem?_eq_some_iff.mp e).1
        simp at this; omega
      subst hk2
      simp at e
      subst e
      exact ⟨D0, by rw [← s.len]; simp, ⟨a.no, hz⟩, r⟩
  · have at_ : ∀ {j : Nat} {u : D}, (S ++ [some d])[j]? = some (some u) → (ι.l ++ [D0])[j]? = some b → (j < S.length ∧ S[j]? = some (some u) ∧ ι.l[j]? = some b ∧ b ≠ D0) ∨ (j = S.length ∧ b = D0) := fun {j u} e f => by
      by_cases hj : j < S.length
      · rw [List.getElem?_append_left hj] at e
        rw [List.getElem?_append_left (by rw [s.len]; exact hj)] at f
        exact .inl ⟨hj, e, f, ne e f⟩
      · have hk2 : j = S.length := by
          have := (List.getElem?_eq_some_iff.mp e).1
          simp at this; omega
        subst hk2
        rw [← s.len] at f
        simp at f
        exact .inr ⟨rfl, f.symm⟩
    rcases at_ e1 e3 with ⟨_, a1, a2, a3⟩ | ⟨rfl, a1⟩ <;> rcases at_ e2 e4 with ⟨_, b1, b2, b3⟩ | ⟨rfl, b1⟩
    · exact s.inj j k _ _ b a1 b1 a2 b2
    · exact absurd b1 a3
    · exact absurd a1 b3
    · rfl
end
theorem comp1_length {g : MG} {tt elt : M} {vs : List Nat} {all : List D} {w : Option Nat} {ρ : Rho} : ∀ {xs acc : List D} {S S' : Store} {ds : List D}, comp1 g tt elt vs all w ρ xs acc S = some (ds, S') → acc.length ≤ ds.length ∧ ds.length ≤ acc.length + xs.length
  | [], acc, S, S', ds, h => by
    unfold comp1 at h
    split at h
    · cases h; simp
    · cases h
  | x :: xs, acc, S, S', ds, h => by
    unfold comp1 at h
    split at h
    rotate_left
    · cases h
    obtain ⟨⟨ρ1, S1⟩, _, h⟩ := Option.bind_eq_some_iff.mp h
    obtain ⟨⟨b, S2⟩, _, h⟩ := Option.bind_eq_some_iff.mp h
    simp only at h
    split at h
    · obtain ⟨⟨y, S3⟩, _, h⟩ := Option.bind_eq_some_iff.mp h
      have := comp1_length h
      simp only [List.length_append, List.length_cons, List.length_nil] at this ⊢
      omega
    · have := comp1_length h
      simp only [List.length_cons] at this ⊢
      omega
    · cases h
section
variable {X : Cx} {tg iter elt : Expr} {ifs : List Expr} {scope : Scope} {own : List (Str × Nat)} {pos : Pos} {it : MI} {g : MG} {us : List Nat} {tt m : M}
theorem mts_nil : PTs X [] (tT X.mg (mBl true)) := by
  constructor
  rintro pins s σ H Q I ⟨ρ, S, J, ι, b, S', e, sr, hm, q⟩
  cases hm
  exact pts_nil.run pins s σ H Q I (q _ _ _ Le.refl Pre.refl sr)
theorem mts_one {c : Expr} (h : MT X c m) : PTs X [c] (tT X.mg m) := pts_one h

theorem comp_core (hk : ∀ j ∈ us, j ∈ own.map (·.2)) {σ : St} {H : Hp} {Q : VK} {ρ : Rho} {S : Store} {I : Hp} {ι : Io} {xs : List D} {w : Option Nat} {S1 S' : Store} {ds : List D} (e : ER X.mg I ι σ ρ) (s : SR X.mg I ι S H) (h1 : it ρ S = some (xs, w, S1))
    (h2 : comp1 g tt m (own.map (·.2)) xs w ρ xs [] S1 = some (ds, S')) (hbig : xs.length ≤ big)
    (q : ∀ (D0 : Addr) (H1 I1 : Hp) (ι1 : Io) (acc : List V), Le I I1 → Pre ι ι1 → SR X.mg I1 ι1 S' H1 → Aside I1 H1 ι1 S' D0 acc → ι1.z D0 = none → Reps X.mg I1 ι1 acc ds → Q (.ref D0) H1) :
    tLc (tI X.mg it) (tG X.mg us g) (tT X.mg tt) (tM X.mg m) (own.map (·.2)) σ H Q := by
  have hds := comp1_length h2
  refine ⟨ρ, S, I, ι, xs, w, S1, e, s, h1, fun J H0 I0 ι0 l0 p0 s0 wk => ?_⟩
  intro D0 hD
  have hI0 : I0 D0 = none := by
    cases z : I0 D0 with
    | none => rfl
    | some u => rw [s0.sub _ u z] at hD; cases hD
  have hz0 : ι0.z D0 = none := by
    cases z : ι0.z D0 with
    | none => rfl
    | some u => rw [(s0.keep _ u z).1] at hD; cases hD
  -- the invariant
  refine ⟨fun i n H1 => ∃ S3 I1 ι1 acc accD, Le I0 I1 ∧ Pre ι0 ι1 ∧ SR X.mg I1 ι1 S3 H1 ∧ Aside I1 H1 ι1 S3 D0 acc ∧ Reps X.mg I1 ι1 acc accD ∧ n = xs.length - i ∧ i ≤ xs.length ∧ comp1 g tt m (own.map (·.2)) xs w ρ (xs.drop i) accD S3 = some (ds, S'),
    ⟨_, S1, I0, ι0, [], [], Le.refl, Pre.refl, ?_, ⟨upd_same, hI0, ?_⟩, .nil, rfl, Nat.zero_le _, h2⟩, ?_⟩
  · refine ⟨fun b o z => by rw [upd_ne (fun y => by subst y; rw [hI0] at z; cases z)]; exact s0.sub b o z, s0.len, fun k d z => ?_, s0.inj, fun b o z => ?_⟩
    · obtain ⟨b, a1, a2, a3⟩ := s0.live k d z
      exact ⟨b, a1, a2, a3.mono Le.refl (fun c o _ ho => by rw [upd_ne (ne_of_none ho hD)]; exact ho) fun _ _ y => y⟩
    · rw [upd_ne (fun y => by subst y; rw [hz0] at z; cases z)]; exact s0.keep b o z
  · intro k d z y
    obtain ⟨b, a1, a2, a3⟩ := s0.live k d z
    rw [y] at a1; cases a1
    cases a3 with
    | lst h _ => rw [hD] at h; cases h
    | dct0 h => rw [hD] at h; cases h
    | obj h _ _ _ _ => rw [hD] at h; cases h
  rintro i n H1 ⟨S3, I1, ι1, acc, accD, l1, p1, s1, as1, ra, rfl, hi, hf⟩
  have hz1 : ι1.z D0 = none := by rw [← p1.2]; exact hz0
  by_cases hlt : i < xs.length
  · obtain ⟨d, hd, hdr⟩ := drop_step hlt
    rw [hdr] at hf
    have hlen := comp1_length hf
    unfold comp1 at hf
    split at hf
    rotate_left
    · cases hf
    rename_i hst
    obtain ⟨⟨ρ2, S4⟩, hg2, hf⟩ := Option.bind_eq_some_iff.mp hf
    obtain ⟨⟨b, S5⟩, ht2, hf⟩ := Option.bind_eq_some_iff.mp hf
    -- the list is kept aside while the turn runs
    have s1' := s1.aside as1
    obtain ⟨go, yl⟩ := (wk i H1 I1 ⟨ι1.l, upd ι1.z D0 (.lst acc)⟩ S3 l1 p1.1 s1' hst).1 d hd
    refine .inr ⟨go, _, fun H' h => ⟨_, (by omega : xs.length - (i + 1) < xs.length - i), h⟩, fun x H' y => ?_⟩
    obtain ⟨I2, l2, s2, r2⟩ := yl x H' y
    have e2 : ER X.mg I2 ⟨ι1.l, upd ι1.z D0 (.lst acc)⟩ (L2.wipe σ (own.map (·.2))) (Mi.wipe ρ (own.map (·.2))) := (e.wipe _).pre ((l0.trans l1).trans l2) (p0.trans p1).1
    refine ⟨_, S3, I2, _, d, ρ2, S4, e2, s2, r2, hg2, fun σ3 H3 I3 ι3 l3 p3 s3 e3 o3 => ⟨wipe_eq o3 hk, ?_⟩⟩
    simp only at hf
    split at hf
    · obtain ⟨⟨yv, S6⟩, hm2, hf⟩ := Option.bind_eq_some_iff.mp hf
      refine ⟨ρ2, S4, I3, ι3, true, S5, e3, s3, ht2, fun H4 I4 ι4 l4 p4 s4 => ?_⟩
      refine iteT ?_
      refine ⟨ρ2, S5, I4, ι4, yv, S6, e3.mono l4 p4, s4, hm2, fun v H5 I5 ι5 l5 p5 s5 r5 => ?_⟩
      have zz : ι5.z = upd ι1.z D0 (.lst acc) := by rw [← p5.2, ← p4.2, ← p3.2]
      obtain ⟨t1, t2⟩ := s5.taken (ys := acc ++ [v]) zz hz1
      have pl : ι1.l <+: ι5.l := (p3.1.trans p4.1).trans p5.1
      refine ⟨acc, ?_, ?_, ?_⟩
      · exact (s5.keep D0 _ (by rw [zz, upd_same])).1
      · have hl2 := comp1_length hf
        rw [List.length_append, List.length_singleton] at hl2
        rw [ra.length]
        have hb := big_le hbig
        rw [List.length_nil] at hds
        omega
      · refine ⟨S6, I5, ⟨ι5.l, ι1.z⟩, acc ++ [v], accD ++ [yv], (((l1.trans l2).trans l3).trans l4).trans l5, ⟨p1.1.trans pl, p1.2⟩, t1, t2, ?_, rfl, hlt, hf⟩
        exact (ra.pre (ι' := ⟨ι5.l, ι1.z⟩) (((l2.trans l3).trans l4).trans l5) pl).snoc (r5.pre (ι := ι5) (ι' := ⟨ι5.l, ι1.z⟩) Le.refl (List.prefix_refl ι5.l))
    · refine ⟨ρ2, S4, I3, ι3, false, S5, e3, s3, ht2, fun H4 I4 ι4 l4 p4 s4 => ?_⟩
      refine iteF ?_
      have zz : ι4.z = upd ι1.z D0 (.lst acc) := by rw [← p4.2, ← p3.2]
      obtain ⟨t1, t2⟩ := s4.freed zz hz1
      have pl : ι1.l <+: ι4.l := p3.1.trans p4.1
      exact ⟨S5, I4, ⟨ι4.l, ι1.z⟩, acc, accD, ((l1.trans l2).trans l3).trans l4, ⟨p1.1.trans pl, p1.2⟩, t1, t2, ra.pre (ι' := ⟨ι4.l, ι1.z⟩) ((l2.trans l3).trans l4) pl, rfl, hlt, hf⟩
    · cases hf
  · have hi2 : i = xs.length := by omega
    subst hi2
    rw [List.drop_length] at hf
    unfold comp1 at hf
    split at hf
    rotate_left
    · cases hf
    rename_i hst
    cases hf
    refine .inl ⟨(wk _ H1 I1 ι1 _ l1 p1.1 s1 hst).2 (Nat.le_refl _), ?_⟩
    exact q _ _ _ ι1 _ (l0.trans l1) (p0.trans p1) s1 as1 hz1 ra
theorem tM_comp (hk : ∀ j ∈ us, j ∈ own.map (·.2)) {σ : St} {H : Hp} {Q : VK} (h : tM X.mg (mComp it g tt m (own.map (·.2))) σ H Q) : tLc (tI X.mg it) (tG X.mg us g) (tT X.mg tt) (tM X.mg m) (own.map (·.2)) σ H Q := by
  obtain ⟨ρ, S, I, ι, d, S', e, s, hm, q⟩ := h
  unfold mComp at hm
  obtain ⟨⟨xs, w, S1⟩, h1, hm⟩ := Option.bind_eq_some_iff.mp hm
  obtain ⟨⟨ds, S2⟩, h2, hm⟩ := Option.bind_eq_some_iff.mp hm
  have hm : (if xs.length ≤ big then some (D.lst ds, S2) else none) = some (d, S') := hm
  by_cases hbig : xs.length ≤ big
  rotate_left
  · rw [if_neg hbig] at hm; cases hm
  rw [if_pos hbig] at hm
  cases hm
  refine comp_core hk e s h1 h2 hbig fun D0 H1 I1 ι1 acc l1 p1 s1 as1 hz1 ra => ?_
  obtain ⟨t, lt⟩ := s1.settle as1 hz1
  exact q _ _ _ ι1 (l1.trans lt) p1 t (.lst upd_same (ra.mono lt Pre.refl))
theorem tM_compM (hk : ∀ j ∈ us, j ∈ own.map (·.2)) {σ : St} {H : Hp} {Q : VK} (h : tM X.mg (mCompM it g tt m (own.map (·.2))) σ H Q) : tLc (tI X.mg it) (tG X.mg us g) (tT X.mg tt) (tM X.mg m) (own.map (·.2)) σ H Q := by
  obtain ⟨ρ, S, I, ι, d, S', e, s, hm, q⟩ := h
  unfold mCompM at hm
  obtain ⟨⟨xs, w, S1⟩, h1, hm⟩ := Option.bind_eq_some_iff.mp hm
  obtain ⟨⟨ds, S2⟩, h2, hm⟩ := Option.bind_eq_some_iff.mp hm
  have hm : (if xs.length ≤ big ∧ pureL ds = true then some (D.rf S2.length, S2 ++ [some (.lst ds)]) else none) = some (d, S') := hm
  by_cases hbig : xs.length ≤ big ∧ pureL ds = true
  rotate_left
  · rw [if_neg hbig] at hm; cases hm
  rw [if_pos hbig] at hm
  cases hm
  refine comp_core hk e s h1 h2 hbig.1 fun D0 H1 I1 ι1 acc l1 p1 s1 as1 hz1 ra => ?_
  refine q _ _ I1 ⟨ι1.l ++ [D0], ι1.z⟩ l1 (p1.trans ⟨List.prefix_append _ _, rfl⟩) (s1.adopt as1 hz1 (.lst as1.at_ (ra.of_pure hbig.2))) (.rf ?_)
  rw [← s1.len]; simp
theorem me_compM (hc : X.calm = true) (hN : X.N.Nodup) (hi : MIt X tg iter it) (ok : BlkOk X.N X.env.scope scope own) (hk : ∀ j ∈ us, j ∈ own.map (·.2))
    (hg : ∀ (s : Shared) (H : Hp) (C : Addr) (cl : List (Str × Addr)) (fp : List Addr), MGt (X.blk s H scope (compEnvC scope cl C X.env) fp) tg us g) (ht : ∀ (s : Shared) (H : Hp) (C : Addr) (cl : List (Str × Addr)) (fp : List Addr), PTs (X.blk s H scope (compEnvC scope cl C X.env) fp) ifs (tT X.mg tt))
    (he : ∀ (s : Shared) (H : Hp) (C : Addr) (cl : List (Str × Addr)) (fp : List Addr), ME (X.blk s H scope (compEnvC scope cl C X.env) fp) elt m) (hs : ∀ x, foldedSetIterable iter X.env x = pure x := by intro _; rfl) :
    ME X (.ListComp elt [⟨tg, iter, ifs, 0⟩] scope pos) (mCompM it g tt m (own.map (·.2))) :=
  PE.imp (pe_lc hc hN hi ok hg ht he hs) fun σ H Q h => tM_compM hk h
theorem me_comp (hc : X.calm = true) (hN : X.N.Nodup) (hi : MIt X tg iter it) (ok : BlkOk X.N X.env.scope scope own) (hk : ∀ j ∈ us, j ∈ own.map (·.2))
    (hg : ∀ (s : Shared) (H : Hp) (C : Addr) (cl : List (Str × Addr)) (fp : List Addr), MGt (X.blk s H scope (compEnvC scope cl C X.env) fp) tg us g) (ht : ∀ (s : Shared) (H : Hp) (C : Addr) (cl : List (Str × Addr)) (fp : List Addr), PTs (X.blk s H scope (compEnvC scope cl C X.env) fp) ifs (tT X.mg tt))
    (he : ∀ (s : Shared) (H : Hp) (C : Addr) (cl : List (Str × Addr)) (fp : List Addr), ME (X.blk s H scope (compEnvC scope cl C X.env) fp) elt m) (hs : ∀ x, foldedSetIterable iter X.env x = pure x := by intro _; rfl) :
    ME X (.ListComp elt [⟨tg, iter, ifs, 0⟩] scope pos) (mComp it g tt m (own.map (·.2))) :=
  PE.imp (pe_lc hc hN hi ok hg ht he hs) fun σ H Q h => tM_comp hk h
end
end Mi
set_option Elab.async false
set_option linter.all false
set_option maxRecDepth 100000
namespace Mi
open PySem L2 PyProof.Rows
abbrev cx0 : CXT := fun _ _ _ _ _ _ => False
/-- the def at f does what φ tells -/
structure FnG (P : Program) (w : World) (K : PySem.W.Frag) (mg : Str → Option Value) (base : Heap) (k : Nat) (f : Addr) (fd : FuncData) (ps : List Str) (φ : Fn) : Prop where
  len : ∀ ds S r, φ ds S = some r → ds.length = ps.length
  run : ∀ (A : Around) (outer : List Env) (s : Shared) (H : Hp) (args : Args) (us : List Value) (vs : List V) (Q : VK), Room k A → A.guards = some [] → Env0 P w K mg base A outer s H →
    BindsTo s fd args (ps.zip us) → Vals vs us → rF mg φ vs H Q → codeAny (model P w) A (.call (.ref f) args) (CR cx0 outer P w H s Q fun _ _ _ => False) s
theorem FnG.mono {P : Program} {w : World} {K : PySem.W.Frag} {mg : Str → Option Value} {base : Heap} {j k : Nat} {f : Addr} {fd : FuncData} {ps : List Str} {φ : Fn} (F : FnG P w K mg base j f fd ps φ) (h : j ≤ k) : FnG P w K mg base k f fd ps φ :=
  ⟨F.len, fun A outer s H args us vs Q hr => F.run A outer s H args us vs Q (hr.mono h)⟩

/-! ### behind a def -/
section
variable {mg : Str → Option Value} {I H : Hp} {ι : Io} {S : Store}
theorem take_get {α : Type} {l : List α} {n k : Nat} {x : α} (h : (l.take n)[k]? = some x) : k < n ∧ l[k]? = some x := by
  rw [List.getElem?_take] at h
  split at h
  · exact ⟨by assumption, h⟩
  · cases h
theorem take_of {α : Type} {l : List α} {n k : Nat} {x : α} (h : k < n) (e : l[k]? = some x) : (l.take n)[k]? = some x := by
  rw [List.getElem?_take, if_pos h]; exact e
/-- what was made is gone -/
theorem SR.cutoff (s : SR mg I ι S H) (n : Nat) : SR mg I ⟨ι.l.take n, ι.z⟩ (S.take n) H := by
  refine ⟨s.sub, by simp [s.len], fun k d e => ?_, fun j k d e a h1 h2 h3 h4 => ?_, s.keep⟩
  · obtain ⟨hk, e⟩ := take_get e
    obtain ⟨a, h1, h2, h3⟩ := s.live k d e
    exact ⟨a, take_of hk h1, h2, h3⟩
  · exact s.inj j k d e a (take_get h1).2 (take_get h2).2 (take_get h3).2 (take_get h4).2
theorem pre_take {l l' : List Addr} (h : l <+: l') : l'.take l.length = l := by
  obtain ⟨t, rfl⟩ := h
  simp
/-- a thing of the store is settled, it and what came behind is gone -/
theorem SR.settled {k n : Nat} {d : D} {a : Addr} (s : SR mg I ι S H) (hk : S[k]? = some (some d)) (ha : ι.l[k]? = some a) (hn : n ≤ k) : ∃ I', Le I I' ∧ SR mg I' ⟨ι.l.take n, ι.z⟩ (S.take n) H ∧ Rep mg I' ⟨ι.l.take n, ι.z⟩ (.ref a) d := by
  obtain ⟨a', h1, h2, h3⟩ := s.live k d hk
  rw [ha] at h1; cases h1
  -- the others stand apart
  have apart : ∀ {j : Nat} {e : D} {b : Addr}, (S.take n)[j]? = some (some e) → ι.l[j]? = some b → b ≠ a := fun {j e b} h g z => by
    subst z
    obtain ⟨hj, h⟩ := take_get h
    have := s.inj j k e d b h hk g ha
    omega
  have one : ∀ {u : HO}, H a = some u → (∀ b, u ≠ .own b) → (∀ w : HO, ι.z a = some w → False) → SR mg (upd I a u) ⟨ι.l.take n, ι.z⟩ (S.take n) H ∧ Le I (upd I a u) := fun {u} hu nown nz => by
    have c := s.cutoff n
    refine ⟨⟨fun b o e => ?_, c.len, fun j e h => ?_, c.inj, fun b o e => ?_⟩, Le.upd h2.1⟩
    · by_cases hb : b = a
      · subst hb; rw [upd_same] at e; cases e; exact hu
      · rw [upd_ne hb] at e; exact s.sub b o e
    · obtain ⟨b, g1, g2, g3⟩ := c.live j e h
      have hb := apart h (take_get g1).2
      refine ⟨b, g1, ⟨by rw [upd_ne hb]; exact g2.1, g2.2⟩, g3.mono (Le.upd h2.1) (fun _ _ _ q => q) fun dx e q => ?_⟩
      rw [upd_ne (fun z => by subst z; rw [hu] at e; cases e; exact nown _ rfl)]; exact q
    · have kk := s.keep b o e
      have hb : b ≠ a := fun z => by subst z; exact nz o e
      exact ⟨kk.1, by rw [upd_ne hb]; exact kk.2.1, kk.2.2⟩
  have nz : ∀ w : HO, ι.z a = some w → False := fun w e => by rw [h2.2] at e; cases e
  cases h3 with
  | lst h r =>
    obtain ⟨t, l⟩ := one h (fun b z => nomatch z) nz
    exact ⟨_, l, t, .lst upd_same (r.pre l List.nil_prefix)⟩
  | dct0 h =>
    obtain ⟨t, l⟩ := one h (fun b z => nomatch z) nz
    exact ⟨_, l, t, .dct0 upd_same⟩
  | obj h hd hdI hc r =>
    rename_i C dx c fs gs
    obtain ⟨t, l⟩ := one h (fun b z => nomatch z) nz
    have hne : dx ≠ a := fun z => by subst z; rw [h] at hd; cases hd
    have hdI' : upd I a (.ins C dx fs) dx = none := by rw [upd_ne hne]; exact hdI
    refine ⟨upd (upd I a (.ins C dx fs)) dx (.own a), l.trans (Le.upd hdI'), ⟨fun b o e => ?_, t.len, fun j e q => ?_, t.inj, fun b o e => ?_⟩, ?_⟩
    · by_cases hb : b = dx
      · subst hb; rw [upd_same] at e; cases e; exact hd
      · rw [upd_ne hb] at e; exact t.sub b o e
    · obtain ⟨b, g1, g2, g3⟩ := t.live j e q
      have hb : b ≠ dx := fun z => by
        subst z
        cases g3 with
        | lst h' _ => rw [hd] at h'; cases h'
        | dct0 h' => rw [hd] at h'; cases h'
        | obj h' _ _ _ _ => rw [hd] at h'; cases h'
      refine ⟨b, g1, ⟨by rw [upd_ne hb]; exact g2.1, g2.2⟩, g3.mono (Le.upd hdI') (fun _ _ _ q => q) fun dy e' q' => ?_⟩
      by_cases hy : dy = dx
      · subst hy
        rw [hd] at e'
        have : a = b := by cases e'; rfl
        exact absurd this.symm (apart q (take_get g1).2)
      · rw [upd_ne hy]; exact q'
    · have kk := t.keep b o e
      have hb : b ≠ dx := fun z => by
        subst z
        obtain ⟨xs, rfl⟩ := kk.2.2
        rw [hd] at kk
        exact nomatch kk.1
      exact ⟨kk.1, by rw [upd_ne hb]; exact kk.2.1, kk.2.2⟩
    · refine .obj ?_ upd_same hc (r.pre (l.trans (Le.upd hdI')) List.nil_prefix)
      rw [upd_ne (Ne.symm hne)]; exact upd_same
theorem close_ok {n : Nat} {d d' : D} {S' : Store} {ι0 : Io} {v : V} {I0 : Hp} {Q : VK} (h : close n d S = some (d', S')) (s : SR mg I ι S H) (r : Rep mg I ι v d) (l : Le I0 I) (p : Pre ι0 ι) (hn : ι0.l.length = n) (q : After mg I0 ι0 S' d' Q) : Q v H := by
  subst hn
  unfold close at h
  have pt : Pre ι0 ⟨ι.l.take ι0.l.length, ι.z⟩ := ⟨by rw [pre_take p.1]; exact List.prefix_refl _, p.2⟩
  split at h
  · cases h
    exact q _ _ _ _ l p s r
  · split at h
    · rename_i k
      split at h
      · rename_i hk
        cases h
        cases r with
        | rf ha => exact q _ _ _ _ l pt (s.cutoff _) (.rf (take_of hk ha))
      · rename_i hk
        split at h
        · rename_i o ho
          cases h
          cases r with
          | rf ha =>
            obtain ⟨I', l', s', r'⟩ := s.settled (n := ι0.l.length) ho ha (by omega)
            exact q _ _ _ _ (l.trans l') pt s' r'
        · cases h
    · split at h
      · rename_i hp
        cases h
        exact q _ _ _ _ l pt (s.cutoff _) ((r.of_pure hp).pre Le.refl List.nil_prefix)
      · cases h
end
theorem reps_start {mg : Str → Option Value} {I : Hp} {ι : Io} {vs : List V} {ds : List D} {N : List Str} {l : Nat} (r : Reps mg I ι vs ds) : ER mg I ι (L2.start N vs) (ds.map some ++ List.replicate l none) := fun i d h => by
  have hl : i < ds.length := by
    by_cases hi : i < ds.length
    · exact hi
    · rw [List.getElem?_append_right (by simp; omega)] at h
      rw [List.getElem?_replicate] at h
      split at h <;> cases h
  rw [List.getElem?_append_left (by simpa using hl), List.getElem?_map] at h
  obtain ⟨d', h1, h2⟩ := Option.map_eq_some_iff.mp h
  cases h2
  obtain ⟨v, h3, h4⟩ := r.get h1
  have hv := (List.getElem?_eq_some_iff.mp h3).1
  refine ⟨v, ?_, h4⟩
  unfold L2.start
  rw [List.getElem?_append_left (by simpa using hv), List.getElem?_map, h3]
  rfl
/-- the body's end -/
theorem fn_post {mg : Str → Option Value} {n l : Nat} {b : MS} {N : List Str} {vs : List V} {H : Hp} {Q : VK} (h : rF mg (mFn n l b) vs H Q) : tS mg b { nx := fun _ H' => Q .non H', rt := Q } (L2.start N vs) H := by
  obtain ⟨ds, S, I, ι, d, S', rs, s, hm, q⟩ := h
  unfold mFn at hm
  split at hm
  rotate_left
  · cases hm
  split at hm
  · rename_i d1 ρ1 S1 hb
    refine ⟨_, S, I, ι, _, reps_start rs, s, hb, ?_⟩
    intro v H' I' ι' l' p' s' r'
    exact close_ok hm s' r' l' p' s.len q
  · rename_i ρ1 S1 hb
    refine ⟨_, S, I, ι, _, reps_start rs, s, hb, ?_⟩
    intro σ' H' I' ι' l' p' s' e'
    exact close_ok hm s' .non l' p' s.len q
  · cases hm
theorem fnK_post {mg : Str → Option Value} {n l : Nat} {b : MS} {N : List Str} {vs : List V} {H : Hp} {Q : VK} (h : rF mg (mFnK n l b) vs H Q) : tS mg b { nx := fun _ H' => Q .non H', rt := Q } (L2.start N vs) H := by
  obtain ⟨ds, S, I, ι, d, S', rs, s, hm, q⟩ := h
  unfold mFnK at hm
  split at hm
  rotate_left
  · cases hm
  split at hm
  · rename_i d1 ρ1 S1 hb
    cases hm
    exact ⟨_, S, I, ι, _, reps_start rs, s, hb, q⟩
  · rename_i ρ1 S1 hb
    cases hm
    exact ⟨_, S, I, ι, _, reps_start rs, s, hb, fun σ' H' I' ι' l' p' s' e' => q _ _ _ _ l' p' s' .non⟩
  · cases hm
theorem mFn_len {n l : Nat} {b : MS} {ds : List D} {S : Store} {r : D × Store} (h : mFn n l b ds S = some r) : ds.length = n := by
  unfold mFn at h
  split at h
  · assumption
  · cases h
theorem mFnK_len {n l : Nat} {b : MS} {ds : List D} {S : Store} {r : D × Store} (h : mFnK n l b ds S = some r) : ds.length = n := by
  unfold mFnK at h
  split at h
  · assumption
  · cases h
/-- THE RULE: a def by its body -/
theorem fn_by {P : Program} {w : World} {K : PySem.W.Frag} {mg : Str → Option Value} {base : Heap} {k : Nat} {f : Addr} {name qual : Str} {params : Arguments} {body : List Stmt} {scope : Scope} {dV kV doc pm cdv ct oc : Value} {an od : Option Addr}
    {osl : Array (Option Value)} {N ps : List Str} {φ : Fn} {b : MS} (lk : K.lookup f = some ⟨oc, od, .func (PySem.W.fnOf name qual params body scope dV kV doc pm an cdv ct), osl⟩) (hcd : PySem.W.codeIn K cdv qual = true) (S : FnScope N ps scope)
    (len : ∀ ds S r, φ ds S = some r → ds.length = ps.length)
    (post : ∀ vs H Q, rF mg φ vs H Q → tS mg b { nx := fun _ H' => Q .non H', rt := Q } (L2.start N vs) H)
    (hbody : ∀ (A : Around) (outer : List Env) (s : Shared) (H : Hp), Room k (A.deeper (envOfC qual scope s.heap.objs.size f cdv)) → A.guards = some [] → MSs (cxOf cx0 P w K mg base N qual scope f cdv A outer s H fun _ _ _ => False).nox body b) :
    FnG P w K mg base (k + 1) f (PySem.W.fnOf name qual params body scope dV kV doc pm an cdv ct) ps φ := by
  refine ⟨len, fun A outer s H args us vs Q hr hgd e0 hb r hsp => ?_⟩
  have hl : vs.length = ps.length := by
    obtain ⟨ds, S, I, ι, d, S', rs, _, hm, _⟩ := hsp
    rw [rs.length]; exact len _ _ _ hm
  have KX : K.In s.heap := e0.mod.kin.keeps fun b o e => (e0.bs b o e).1
  have lim : s.heap.NoLimit := e0.mod.nolimit.keeps fun b o e => (e0.bs b o e).1
  have hkind : ∀ y ∈ ps.zip us, scope.names.lookup y.1 = some .local ∨ (scope.names.lookup y.1 = some .cell ∧ ((cellsFrom (s.heap.objs.size + 1) scope.names []).lookup y.1).isSome = true) := by
    rintro ⟨n, v⟩ hy
    rcases S.par n (List.of_mem_zip hy).1 with q | q
    · exact .inl q
    · exact .inr ⟨q, PySem.W.cellsFrom_some _ _ _ (.inl q)⟩
  refine codeAny_call_function hr.depth (KX _ _ lk) rfl S.co S.gen rfl (PySem.W.codeRec_of KX hcd) (hb _ _ _ _ ?_)
  refine wpAny_newFunctionEnv_cells S.kind hkind fun env he s1 x => ?_
  subst he
  refine ⟨lim.keeps x.toInCall.keep, codeAny_func ?_⟩
  have I : Inv (cxOf cx0 P w K mg base N qual scope f cdv A outer s H fun _ _ _ => False) [] (L2.start N vs) H s1 := inv_start S hr.hd e0 hl r x
  have ht := hbody A outer s H (hr.deeper _) hgd
  refine wpAny_mono (ht.run [] s1 (L2.start N vs) H _ (I.wish _) (post vs H Q hsp)) (fun fl s' hs => ?_) fun e s' hs => False.elim hs
  have fin : ∀ {σ' : L2.St} {H' : Hp} {v : V} {u : Value}, Inv (cxOf cx0 P w K mg base N qual scope f cdv A outer s H fun _ _ _ => False).nox [] σ' H' s' → RelV v u → Q v H' → CE outer P w H s Q u s' :=
    fun {σ' H' v u} J rv q => ⟨v, H', J.os, J.bare, J.base, J.hok, rv, q⟩
  cases fl with
  | ret u =>
    obtain ⟨v, σ', H', J, rv, q⟩ := hs
    exact fin J rv q
  | next =>
    obtain ⟨σ', H', J, q⟩ := hs
    exact fin (v := V.non) (u := Value.none) J rfl q
  | brk =>
    obtain ⟨_, _, _, q⟩ := hs
    exact False.elim q
  | cont =>
    obtain ⟨_, _, _, q⟩ := hs
    exact False.elim q
end Mi
set_option Elab.async false
set_option linter.all false
set_option maxRecDepth 100000
namespace Mi
open PySem L2 PyProof.Rows StX
/-- the def at f, called by places, does what φ tells -/
def FnP (P : Program) (w : World) (K : PySem.W.Frag) (mg : Str → Option Value) (base : Heap) (k : Nat) (f : Addr) (φ : Fn) : Prop :=
  ∀ (A : Around) (outer : List PySem.Env) (s : Shared) (H : Hp) (us : List Value) (vs : List V) (Q : VK), Room k A → A.guards = some [] → Env0 P w K mg base A outer s H → Vals vs us → rF mg φ vs H Q →
    codeAny (model P w) A (.call (.ref f) ⟨us, []⟩) (CR cx0 outer P w H s Q fun _ _ _ => False) s
section
variable {P : Program} {w : World} {K : PySem.W.Frag} {mg : Str → Option Value} {base : Heap} {j k : Nat} {f : Addr} {fd : FuncData} {ps : List Str} {φ : Fn}
theorem FnP.mono (F : FnP P w K mg base j f φ) (h : j ≤ k) : FnP P w K mg base k f φ := fun A outer s H us vs Q hr => F A outer s H us vs Q (hr.mono h)
theorem rF_len {n : Nat} (hl : ∀ ds S r, φ ds S = some r → ds.length = n) {vs : List V} {H : Hp} {Q : VK} (h : rF mg φ vs H Q) : vs.length = n := by
  obtain ⟨ds, S, I, ι, d, S', rs, _, hm, _⟩ := h
  rw [rs.length]; exact hl _ _ _ hm
theorem FnG.pos (F : FnG P w K mg base k f fd ps φ) (hb : Binds K fd ps []) : FnP P w K mg base k f φ := by
  intro A outer s H us vs Q hr hg e0 r h
  have hl := rF_len F.len h
  have b := hb s us (e0.mod.kin.keeps fun b o e => (e0.bs b o e).1) (by rw [List.append_nil, ← r.length]; exact hl)
  rw [List.append_nil] at b
  exact F.run A outer s H _ us vs Q hr hg e0 b r h
/-- def f(.., *rest) -/
theorem fn_rest {name qual : Str} {params : Arguments} {body : List Stmt} {scope : Scope} {dV kV doc pm cdv ct oc : Value} {an od : Option Addr} {osl : Array (Option Value)} {N : List Str} {pv : Str} {b : MS}
    (lk : K.lookup f = some ⟨oc, od, .func (PySem.W.fnOf name qual params body scope dV kV doc pm an cdv ct), osl⟩) (hcd : PySem.W.codeIn K cdv qual = true) (S : FnScope N (ps ++ [pv]) scope)
    (hb : ∀ us rest : List Value, us.length = ps.length → bindArgs (PySem.W.fnOf name qual params body scope dV kV doc pm an cdv ct) ⟨us ++ rest, []⟩ = (newTuple rest >>= fun t => pure (ps.zip us ++ [(pv, t)])))
    (len : ∀ ds S r, φ ds S = some r → ds.length = ps.length + 1)
    (post : ∀ vs H Q, rF mg φ vs H Q → tS mg b { nx := fun _ H' => Q .non H', rt := Q } (L2.start N vs) H)
    (hbody : ∀ (A : Around) (outer : List PySem.Env) (s : Shared) (H : Hp), Room k (A.deeper (envOfC qual scope s.heap.objs.size f cdv)) → A.guards = some [] → MSs (cxOf cx0 P w K mg base N qual scope f cdv A outer s H fun _ _ _ => False).nox body b) :
    FnP P w K mg base (k + 1) f (restFn ps.length φ) := by
  intro A outer s H us vs Q hr hg e0 r h
  obtain ⟨ds, St, I, ι, d, S', rs, sr, hm, q⟩ := h
  unfold restFn at hm
  split at hm
  rotate_left
  · cases hm
  rename_i hlen
  have hsp : vs = vs.take ps.length ++ vs.drop ps.length := (List.take_append_drop _ _).symm
  rw [hsp] at r
  obtain ⟨u1, u2, eu, r1, r2⟩ := vals_split r
  subst eu
  have hvl : vs.length = ds.length := rs.length
  have hn : H s.heap.objs.size = Option.none := e0.hok.fresh (Nat.le_refl _)
  have ht : (vs.take ps.length).length = ps.length := by rw [List.length_take]; omega
  have hl1 : u1.length = ps.length := by rw [← r1.length]; exact ht
  have hz : (vs.drop ps.length).length ≤ sizeLine := big_le (by rw [List.length_drop]; omega)
  have hl2 : u2.length ≤ sizeLine := by rw [← r2.length]; exact hz
  refine run_bnd lk hcd S hr e0 (G := fun xs H2 => ∃ p, H p = Option.none ∧ xs = vs.take ps.length ++ [V.ref p] ∧ H2 = upd H p (.tup (vs.drop ps.length))) (fun A' Ex Q' h => ?_) fun s2 H2 xs ⟨p, hp, ex, eH⟩ hr' => ?_
  · rw [hb u1 u2 hl1]
    refine wpAny_bind (wpAny_newTuple (wpAny_pure ?_) hl2)
    have fresh : ObjOk P w (upd H s.heap.objs.size (.tup (vs.drop ps.length))) (s.heap.push ({ cls := .type "tuple", data := .seq u2.toArray } : Obj)) s.heap.objs.size (.tup (vs.drop ps.length)) :=
      ⟨hz, u2, r2, ⟨_, Heap.get?_push_size _ rfl, rfl, _, rfl⟩⟩
    have un := un_laid (fs := frs outer) (s := s) (o := ({ cls := .type "tuple", data := .seq u2.toArray } : Obj)) (u := .tup (vs.drop ps.length)) hn
    have z := h _ _ (vs.take ps.length ++ [V.ref s.heap.objs.size]) (u1 ++ [Value.ref s.heap.objs.size]) (env0_laid e0 fresh) un rfl (fun _ _ q => q) (r1.append (.cons rfl .nil)) (by simp [ht]) ⟨_, hn, rfl, rfl⟩
    rw [List.zip_append hl1.symm] at z
    exact z
  · subst ex eH
    refine ⟨_, (hbody A outer s2 _ hr' hg).nox, post _ _ _ ?_⟩
    obtain ⟨s', l'⟩ := sr.laid (o := .tup (vs.drop ps.length)) hp
    refine ⟨_, St, _, ι, d, S', ?_, s', hm, q.mono l' Pre.refl⟩
    exact ((rs.take _).mono l' Pre.refl).append (.cons (.tup upd_same ((rs.drop _).mono l' Pre.refl)) .nil)
/-- a def with defaults -/
theorem FnG.dfl {xs : List D} {vs0 : List V} {us0 : List Value} (F : FnG P w K mg base k f fd ps φ) (hb : Binds K fd ps []) (hd : Binds K fd ps us0) (hv : Vals vs0 us0) (hr0 : ∀ (I : Hp) (ι : Io), Reps mg I ι vs0 xs) : FnP P w K mg base k f (dflFn ps.length xs φ) := by
  intro A outer s H us vs Q hr hg e0 r h
  obtain ⟨ds, S, I, ι, d, S', rs, sr, hm, q⟩ := h
  unfold dflFn at hm
  have KX : K.In s.heap := e0.mod.kin.keeps fun b o e => (e0.bs b o e).1
  split at hm
  · rename_i hl
    have rr : rF mg φ (vs ++ vs0) H Q := ⟨_, S, I, ι, d, S', rs.append (hr0 I ι), sr, hm, q⟩
    have hl' := rF_len F.len rr
    refine F.run A outer s H _ (us ++ us0) (vs ++ vs0) Q hr hg e0 (hd s us KX ?_) (r.append hv) rr
    rw [← (r.append hv).length]; exact hl'
  · exact FnG.pos F hb A outer s H us vs Q hr hg e0 r ⟨ds, S, I, ι, d, S', rs, sr, hm, q⟩
end

/-! ### values that are called -/
section
variable {X : Cx} {k : Nat} {f C : Addr} {φ : Fn}
theorem callR_fn (F : FnP X.prog X.w X.K X.mg X.base k f φ) (hr : Room k X.A) (hg : X.A.guards = some []) : CallR X (.ref f) (rF X.mg φ) := by
  intro pins s σ H vs us Q I r h
  refine wpAny_call (codeAny_mono (F X.A X.stack s H us vs Q hr hg I.env0 r h) fun res s' hq => ?_)
  cases res with
  | error e => exact False.elim hq
  | ok fl =>
    cases fl with
    | ret u => exact I.after hq
    | next => exact False.elim hq
    | brk => exact False.elim hq
    | cont => exact False.elim hq
theorem guards_make {A : Around} {C : Addr} {us : List Value} {kw : List (Str × Value)} (h : A.guards = some []) : (A.under (.builtin "type.__call__" ⟨.ref C :: us, kw⟩)).guards = some [] := by
  have e : (Code.builtin "type.__call__" ⟨.ref C :: us, kw⟩).guards = [] := by
    unfold Code.guards
    rw [if_neg (by rw [show (Code.builtin "type.__call__" ⟨.ref C :: us, kw⟩).isGuard = false from by rfl]; decide)]
  unfold Around.under
  simp only [e, h, pushGuards]
/-- C(..) -/
theorem run_new {c : String} (hc : ClsAt X.mg c C) (M : Mk X.K C f) (hr : Room (k + 1) X.A) (hg : X.A.guards = some []) {pins : List (Addr × Obj)} {s : Shared} {σ : L2.St} {H : Hp} {vs : List V} {us : List Value} {kw : List (Str × Value)} {Q : VK} (I : Inv X pins σ H s)
    (hF : ∀ (A : Around) (outer : List PySem.Env) (s : Shared) (H : Hp) (x : Addr) (Q : VK), Room k A → A.guards = some [] → Env0 X.prog X.w X.K X.mg X.base A outer s H → rF X.mg φ (.ref x :: vs) H Q →
      codeAny (model X.prog X.w) A (.call (.ref f) ⟨.ref x :: us, kw⟩) (CR cx0 outer X.prog X.w H s Q fun _ _ _ => False) s)
    (h : rF X.mg (newFn c φ) vs H Q) : wpAny (model X.prog X.w) X.A (call (.ref C) us kw) (EP X pins σ Q) X.xe s := by
  obtain ⟨ds, S, J, ι, d, S', rs, sr, hm, q⟩ := h
  unfold newFn at hm
  split at hm
  rotate_left
  · cases hm
  rename_i S2 hφ
  split at hm
  rotate_left
  · cases hm
  rename_i o ho
  cases hm
  have I2 := Inv.made (C := C) I
  have hx : H (s.heap.objs.size + 1) = none := I.hok.fresh (Nat.le_succ _)
  have hdx : H s.heap.objs.size = none := I.hok.fresh (Nat.le_refl _)
  have hne : s.heap.objs.size + 1 ≠ s.heap.objs.size := Nat.succ_ne_self _
  have hne2 : s.heap.objs.size ≠ s.heap.objs.size + 1 := Ne.symm hne
  generalize hH2 : upd (upd H s.heap.objs.size (.own (s.heap.objs.size + 1))) (s.heap.objs.size + 1) (.ins C s.heap.objs.size []) = H2 at I2
  have h2x : H2 (s.heap.objs.size + 1) = some (.ins C s.heap.objs.size []) := by subst hH2; exact upd_same
  have h2d : H2 s.heap.objs.size = some (.own (s.heap.objs.size + 1)) := by subst hH2; rw [upd_ne hne2]; exact upd_same
  -- the state with the new object in the store
  have hJx : J (s.heap.objs.size + 1) = none := by
    cases e : J (s.heap.objs.size + 1) with
    | none => rfl
    | some u => rw [sr.sub _ u e] at hx; cases hx
  have hJd : J s.heap.objs.size = none := by
    cases e : J s.heap.objs.size with
    | none => rfl
    | some u => rw [sr.sub _ u e] at hdx; cases hdx
  have keep : ∀ b u, H b = some u → H2 b = some u := fun b u e => by
    subst hH2
    rw [upd_ne (ne_of_none e hx), upd_ne (ne_of_none e hdx)]; exact e
  have s2 : SR X.mg J ⟨ι.l ++ [s.heap.objs.size + 1], ι.z⟩ (S ++ [some (.obj c [])]) H2 := by
    have old : ∀ {i : Nat} {u : D}, S[i]? = some (some u) → ∃ a, ι.l[i]? = some a ∧ a ≠ s.heap.objs.size + 1 ∧ (J a = none ∧ ι.z a = none) ∧ RepO X.mg J H a u := fun {i u} e => by
      obtain ⟨a, h1, h2, h3⟩ := sr.live i u e
      refine ⟨a, h1, ?_, h2, h3⟩
      rintro rfl
      cases h3 with
      | lst h _ => rw [hx] at h; cases h
      | dct0 h => rw [hx] at h; cases h
      | obj h _ _ _ _ => rw [hx] at h; cases h
    have hzx : ι.z (s.heap.objs.size + 1) = none := by
      cases e : ι.z (s.heap.objs.size + 1) with
      | none => rfl
      | some u => rw [(sr.keep _ u e).1] at hx; cases hx
    have get : ∀ {i : Nat} {u : D}, (S ++ [some (.obj c [])])[i]? = some (some u) → (i < S.length ∧ S[i]? = some (some u)) ∨ (i = S.length ∧ u = .obj c []) := fun {i u} e => by
      by_cases hi : i < S.length
      · rw [List.getElem?_append_left hi] at e; exact .inl ⟨hi, e⟩
      · have hi2 : i = S.length := by
          have := (List.getElem?_eq_some_iff.mp e).1
          simp at this; omega
        subst hi2
        simp at e
        exact .inr ⟨rfl, e.symm⟩
    have gl : ∀ {i : Nat} {a : Addr}, i < S.length → ((ι.l ++ [s.heap.objs.size + 1])[i]? = some a ↔ ι.l[i]? = some a) := fun {i a} hi => by
      rw [List.getElem?_append_left (by rw [sr.len]; exact hi)]
    have gx : ∀ {a : Addr}, (ι.l ++ [s.heap.objs.size + 1])[S.length]? = some a → a = s.heap.objs.size + 1 := fun {a} e => by
      rw [← sr.len] at e
      simp at e; exact e.symm
    refine ⟨fun a u e => keep a u (sr.sub a u e), by simp [sr.len], fun i u e => ?_, fun i i' u u' a e1 e2 e3 e4 => ?_, fun a u e => ?_⟩
    · rcases get e with ⟨hi, e⟩ | ⟨rfl, rfl⟩
      · obtain ⟨a, h1, _, h3, h4⟩ := old e
        exact ⟨a, (gl hi).mpr h1, h3, h4.mono Le.refl (fun b u _ e => keep b u e) fun dx e q => q⟩
      · refine ⟨_, by rw [← sr.len]; simp, ⟨hJx, hzx⟩, .obj h2x h2d hJd hc .nil⟩
    · rcases get e1 with ⟨hi, a1⟩ | ⟨rfl, rfl⟩ <;> rcases get e2 with ⟨hi', a2⟩ | ⟨rfl, rfl⟩
      · exact sr.inj i i' u u' a a1 a2 ((gl hi).mp e3) ((gl hi').mp e4)
      · obtain ⟨b, h1, h2, _⟩ := old a1
        rw [(gl hi).mp e3] at h1; cases h1
        exact absurd (gx e4) h2
      · obtain ⟨b, h1, h2, _⟩ := old a2
        rw [(gl hi').mp e4] at h1; cases h1
        exact absurd (gx e3) h2
      · rfl
    · have k' := sr.keep a u e
      exact ⟨keep a u k'.1, k'.2⟩
  have hq : rF X.mg φ (.ref (s.heap.objs.size + 1) :: vs) H2 (fun v H' => v = .non ∧ Q (.ref (s.heap.objs.size + 1)) H') := by
    refine ⟨.rf S.length :: ds, _, J, _, .non, S2, .cons (.rf ?_) (rs.pre Le.refl (List.prefix_append _ _)), s2, hφ, fun v H' I' ι' l p s' rv => ?_⟩
    · rw [← sr.len]; simp
    · cases rv
      refine ⟨rfl, ?_⟩
      have ha : ι'.l[S.length]? = some (s.heap.objs.size + 1) := pre_get p.1 (by rw [← sr.len]; simp)
      obtain ⟨I3, l3, s3, r3⟩ := s'.settled (n := S.length) ho ha (Nat.le_refl _)
      refine q _ _ I3 ⟨ι'.l.take S.length, ι'.z⟩ (l.trans l3) ⟨?_, p.2⟩ s3 r3
      have : ι.l <+: ι'.l := (List.prefix_append _ _).trans p.1
      show ι.l <+: ι'.l.take S.length
      rw [← sr.len, pre_take this]
      exact List.prefix_refl _
  refine wpAny_call (make_map (f := f) I.kIn M.makes M.init (beq_iff_eq.mp M.fn) (codeAny_mono (hF _ X.stack _ _ (s.heap.objs.size + 1) _ (hr.make C us kw)
    (guards_make hg) (I2.env0.make C us kw) hq) fun res s' hq' => ?_))
  cases res with
  | error e => exact False.elim hq'
  | ok fl =>
    cases fl with
    | ret u =>
      obtain ⟨v, H', I3, rv, ev, q3⟩ := I2.after hq'
      subst ev
      exact ⟨rv, ⟨V.ref (s.heap.objs.size + 1), H', I3, rfl, q3⟩⟩
    | next => exact False.elim hq'
    | brk => exact False.elim hq'
    | cont => exact False.elim hq'
theorem callR_new {c : String} (hc : ClsAt X.mg c C) (M : Mk X.K C f) (F : FnP X.prog X.w X.K X.mg X.base k f φ) (hr : Room (k + 1) X.A) (hg : X.A.guards = some []) : CallR X (.ref C) (rF X.mg (newFn c φ)) := fun pins s σ H vs us Q I r h =>
  run_new hc M hr hg I (fun A outer s H x Q hr hg e0 h => F A outer s H _ _ Q hr hg e0 (.cons (show RelV (.ref x) (Value.ref x) from rfl) r) h) h
end
end Mi
set_option Elab.async false
set_option linter.all false
set_option maxRecDepth 100000
namespace Mi
open PySem L2 PyProof.Rows
theorem RepF.none_of {mg : Str → Option Value} {I : Hp} {ι : Io} {f : String} : ∀ {fs : List (Str × V)} {gs : List (String × D)}, RepF mg I ι fs gs → gs.lookup f = none → fs.lookup (Str.ofString f) = none
  | _, _, .nil, _ => rfl
  | _, _, .cons (f := g) (v := v) h t, e => by
    rw [List.lookup_cons] at e ⊢
    by_cases hg : f = g
    · subst hg
      simp at e
    · have h1 : (f == g) = false := by simp [hg]
      rw [h1] at e
      have h2 : (Str.ofString f == Str.ofString g) = false := beq_eq_false_iff_ne.mpr fun z => hg (ofString_inj z)
      rw [h2]
      exact RepF.none_of t e
theorem RepF.put {mg : Str → Option Value} {I : Hp} {ι : Io} {f : String} {v : V} {d : D} (r : Rep mg I ι v d) : ∀ {fs : List (Str × V)} {gs : List (String × D)}, RepF mg I ι fs gs → RepF mg I ι (putF (Str.ofString f) v fs) (putG f d gs)
  | _, _, .nil => .cons r .nil
  | _, _, .cons (f := g) (v := u) h t => by
    unfold putF putG
    by_cases hg : g = f
    · subst hg
      rw [if_pos rfl, if_pos rfl]
      exact .cons r t
    · rw [if_neg (fun z => hg (ofString_inj z)), if_neg hg]
      exact .cons h (RepF.put r t)
theorem RepF.length {mg : Str → Option Value} {I : Hp} {ι : Io} : ∀ {fs : List (Str × V)} {gs : List (String × D)}, RepF mg I ι fs gs → fs.length = gs.length
  | _, _, .nil => rfl
  | _, _, .cons _ t => by simp [RepF.length t]
section
variable {X : Cx} {o e : Expr} {es : List Expr} {mo m : M} {ms : List M} {pos apos pos' : Pos} {n : String}
/-- which def a class has at a name -/
structure MthOf (X : Cx) (c : String) (n : Str) (φ : Fn) (C f : Addr) : Prop where
  at_ : ClsAt X.mg c C
  cls : Cls X.K C
  mth : Meth X.K C n f
  call : CallR X (.ref f) (rF X.mg φ)
def TbOk (X : Cx) (n : Str) (tb : Tb) : Prop := ∀ c φ, tb.lookup c = some φ → ∃ C f, MthOf X c n φ C f
theorem TbOk.nil {n : Str} : TbOk X n [] := fun c φ h => by cases h
theorem TbOk.cons {n : Str} {c : String} {φ : Fn} {tb : Tb} {C f : Addr} (h : MthOf X c n φ C f) (t : TbOk X n tb) : TbOk X n ((c, φ) :: tb) := fun c' φ' e => by
  rw [List.lookup_cons] at e
  by_cases hc : c' = c
  · subst hc
    simp at e
    subst e
    exact ⟨C, f, h⟩
  · have : (c' == c) = false := by simp [hc]
    rw [this] at e
    exact t c' φ' e
theorem me_meth {pl : Sem Bool} {m0 : Str} {tb : Tb} (hn : m0 = Str.ofString n) (he : ME X o mo) (T : TbOk X m0 tb) (ha : MA X (e :: es) ms)
    (hst : starEach (e :: es) X.env = (false, eval e X.env) :: starEach es X.env := by rfl) (hpl : (backTo pos (starEach es X.env)).any (·.1) = false := by rfl)
    (ht : eval (.Call (.Attribute o m0 apos) (e :: es) [] pos) X.env = (do
      let ov ← eval o X.env
      standAt apos.atName
      let (g, fst0) ← holding [ov] (getMethod ov m0 pl)
      callWith pos g fst0 (backTo pos (starEach (e :: es) X.env)) (backToKw pos (keywordEach [] X.env))) := by rfl) :
    ME X (.Call (.Attribute o m0 apos) (e :: es) [] pos) (mMeth n tb mo ms) := by
  subst hn
  constructor
  rintro pins s σ H Q I ⟨ρ, S, J, ι, d, S', er, sr, hm, q⟩
  unfold mMeth at hm
  obtain ⟨⟨x, S1⟩, h1, hm⟩ := Option.bind_eq_some_iff.mp hm
  simp only at hm
  split at hm
  rotate_left
  · cases hm
  rename_i c gs htop
  split at hm
  rotate_left
  · cases hm
  rename_i φ hl hφ
  obtain ⟨⟨ds, S2⟩, h2, hm⟩ := Option.bind_eq_some_iff.mp hm
  obtain ⟨C, f, T1⟩ := T c φ hφ
  refine PySem.W.methodCall_KW (pl := pl) (thn (he.run pins s σ H (fun v H1 => ∃ a dx fs, v = .ref a ∧ H1 a = some (.ins C dx fs) ∧ fs.lookup (Str.ofString n) = none ∧ tA X.mg ms σ H1 fun vs H2 => rF X.mg φ (.ref a :: vs) H2 Q) I ?_) fun u s1 h => ?_) ht
  · refine ⟨ρ, S, J, ι, x, S1, er, sr, h1, fun v1 H1 I1 ι1 l1 p1 s1 r1 => ?_⟩
    obtain ⟨a, C', dx, fs, rfl, hH, hd, hc, rf⟩ := seen_obj s1 r1 htop
    have : C' = C := by
      have e1 := T1.at_
      unfold ClsAt at e1 hc
      rw [hc] at e1; cases e1; rfl
    subst this
    refine ⟨a, dx, fs, rfl, hH, rf.none_of hl, ρ, S1, I1, ι1, ds, S2, er.mono l1 p1, s1, h2, fun vs H2 I2 ι2 l2 p2 s2 r2 => ?_⟩
    exact ⟨x :: ds, S2, I2, ι2, d, S', .cons (r1.mono l2 p2) r2, s2, hm, q.mono (l1.trans l2) (p1.trans p2)⟩
  · obtain ⟨v, H1, I1, rx, a, dx, fs, rfl, ea, l, q2⟩ := h
    cases rx
    refine getmeth_ok I1 ea T1.cls T1.mth l ?_
    refine PySem.W.callWith_K (first := [.ref a]) (h₀ := X.base) I.ok.mod.kin T1.mth.kp (thn (ha.run pos pins s1 σ H1 _ I1 q2) ?_) hst hpl
    rintro us s2 ⟨vs, H2, I2, r, q3⟩
    exact ⟨I2.kIn, T1.call pins s2 σ H2 (.ref a :: vs) (.ref a :: us) Q I2 (.cons (show RelV (.ref a) (Value.ref a) from rfl) r) q3⟩
theorem me_meth0 {pl : Sem Bool} {m0 : Str} {tb : Tb} (hn : m0 = Str.ofString n) (he : ME X o mo) (T : TbOk X m0 tb)
    (ht : eval (.Call (.Attribute o m0 apos) [] [] pos) X.env = (do
      let ov ← eval o X.env
      standAt apos.atName
      let (g, fst0) ← holding [ov] (getMethod ov m0 pl)
      callWith pos g fst0 (backTo pos (starEach [] X.env)) (backToKw pos (keywordEach [] X.env))) := by rfl) :
    ME X (.Call (.Attribute o m0 apos) [] [] pos) (mMeth n tb mo []) := by
  subst hn
  constructor
  rintro pins s σ H Q I ⟨ρ, S, J, ι, d, S', er, sr, hm, q⟩
  unfold mMeth at hm
  obtain ⟨⟨x, S1⟩, h1, hm⟩ := Option.bind_eq_some_iff.mp hm
  simp only at hm
  split at hm
  rotate_left
  · cases hm
  rename_i c gs htop
  split at hm
  rotate_left
  · cases hm
  rename_i φ hl hφ
  obtain ⟨⟨ds, S2⟩, h2, hm⟩ := Option.bind_eq_some_iff.mp hm
  cases h2
  obtain ⟨C, f, T1⟩ := T c φ hφ
  refine PySem.W.methodCall_KW (pl := pl) (thn (he.run pins s σ H (fun v H1 => ∃ a dx fs, v = .ref a ∧ H1 a = some (.ins C dx fs) ∧ fs.lookup (Str.ofString n) = none ∧ rF X.mg φ [.ref a] H1 Q) I ?_) fun u s1 h => ?_) ht
  · refine ⟨ρ, S, J, ι, x, S1, er, sr, h1, fun v1 H1 I1 ι1 l1 p1 s1 r1 => ?_⟩
    obtain ⟨a, C', dx, fs, rfl, hH, hd, hc, rf⟩ := seen_obj s1 r1 htop
    have : C' = C := by
      have e1 := T1.at_
      unfold ClsAt at e1 hc
      rw [hc] at e1; cases e1; rfl
    subst this
    exact ⟨a, dx, fs, rfl, hH, rf.none_of hl, [x], S1, I1, ι1, d, S', .cons r1 .nil, s1, hm, q.mono l1 p1⟩
  · obtain ⟨v, H1, I1, rx, a, dx, fs, rfl, ea, l, q2⟩ := h
    cases rx
    refine getmeth_ok I1 ea T1.cls T1.mth l ?_
    exact PySem.W.callWith_K0 (first := [.ref a]) I1.kIn T1.mth.kp (T1.call pins s1 σ H1 [.ref a] [.ref a] Q I1 (.cons (show RelV (.ref a) (Value.ref a) from rfl) .nil) q2)

/-! ### fields -/
def FlOk (X : Cx) (n : Str) (cs : List String) : Prop := ∀ c ∈ cs, ∃ C, ClsAt X.mg c C ∧ Cls X.K C ∧ NoAttr X.K C n
theorem FlOk.nil {f : Str} : FlOk X f [] := fun c h => by cases h
theorem FlOk.cons {f : Str} {c : String} {cs : List String} {C : Addr} (h : ClsAt X.mg c C) (k : Cls X.K C) (j : NoAttr X.K C f) (t : FlOk X f cs) : FlOk X f (c :: cs) := fun c' hc => by
  rcases List.mem_cons.mp hc with rfl | hc
  · exact ⟨C, h, k, j⟩
  · exact t c' hc
theorem me_fld {f0 : Str} {cs : List String} (hn : f0 = Str.ofString n) (he : ME X o mo) (T : FlOk X f0 cs) (hb : attributeBase o f0 X.env (eval o X.env) = eval o X.env := by rfl) : ME X (.Attribute o f0 pos) (mFld cs n mo) := by
  subst hn
  refine PE.imp (pe_fld he hb) ?_
  rintro σ H Q ⟨ρ, S, J, ι, d, S', er, sr, hm, q⟩
  unfold mFld at hm
  obtain ⟨⟨x, S1⟩, h1, hm⟩ := Option.bind_eq_some_iff.mp hm
  simp only at hm
  split at hm
  rotate_left
  · cases hm
  rename_i c gs htop
  split at hm
  rotate_left
  · cases hm
  rename_i hc
  obtain ⟨w, hl, hm⟩ := Option.bind_eq_some_iff.mp hm
  cases hm
  obtain ⟨C, hC, kC, nC⟩ := T c hc
  refine ⟨ρ, S, J, ι, x, S', er, sr, h1, fun v1 H1 I1 ι1 l1 p1 s1 r1 => ?_⟩
  obtain ⟨a, C', dx, fs, rfl, hH, hd, hc', rf⟩ := seen_obj s1 r1 htop
  have : C' = C := by
    unfold ClsAt at hC hc'
    rw [hc'] at hC; cases hC; rfl
  subst this
  obtain ⟨v, hv, rv⟩ := rf.lookup hl
  exact ⟨a, C', dx, fs, v, rfl, hH, kC, nC, hv, (q.mono l1 p1).now s1 rv⟩
theorem ms_fld {f0 : Str} {cs : List String} (hn : f0 = Str.ofString n) (he : ME X o mo) (hv : ME X e m) (T : FlOk X f0 cs) (hs : swapsWith e (some (.Attribute o f0 pos')) pos.line X.env = pure false := by rfl) : MSt X (.Assign [.Attribute o f0 pos'] e pos) (sFld cs mo n m) := by
  subst hn
  refine PS.imp (ps_fld he hv hs) ?_
  rintro D σ H ⟨ρ, S, J, ι, r, er, sr, hm, q⟩
  unfold Mi.sFld at hm
  obtain ⟨⟨d, S1⟩, h1, hm⟩ := Option.bind_eq_some_iff.mp hm
  obtain ⟨⟨x, S2⟩, h2, hm⟩ := Option.bind_eq_some_iff.mp hm
  simp only at hm
  split at hm
  rotate_left
  · cases hm
  rename_i k
  split at hm
  rotate_left
  · cases hm
  rename_i c gs hk
  split at hm
  rotate_left
  · cases hm
  rename_i hcond
  obtain ⟨hp, hl, hc⟩ := hcond
  cases hm
  obtain ⟨C, hC, kC, nC⟩ := T c hc
  refine ⟨ρ, S, J, ι, d, S1, er, sr, h1, fun v1 H1 I1 ι1 l1 p1 s1 r1 => ?_⟩
  refine ⟨ρ, S1, I1, ι1, _, S2, er.mono l1 p1, s1, h2, fun v2 H2 I2 ι2 l2 p2 s2 r2 => ?_⟩
  cases r2 with
  | rf ha =>
    rename_i a
    obtain ⟨a', g1, g2, g3⟩ := s2.live k _ hk
    rw [ha] at g1; cases g1
    cases g3 with
    | obj hH hd hdI hc' rf =>
      rename_i C' dx fs
      have : C' = C := by
        unfold ClsAt at hC hc'
        rw [hc'] at hC; cases hC; rfl
      subst this
      have hne : dx ≠ a := fun z => by subst z; rw [hH] at hd; cases hd
      refine ⟨a, C', dx, fs, rfl, hH, kC, nC, by rw [rf.length]; omega, ?_⟩
      refine q _ _ I2 ι2 (l1.trans l2) (p1.trans p2) (s2.set hk ha (.obj upd_same ?_ hdI hc' (RepF.put ((r1.mono l2 p2).of_pure hp) rf)) (fun b e => ?_) fun b e => ?_) (er.mono (l1.trans l2) (p1.trans p2))
      · rw [upd_ne hne]; exact hd
      · rw [upd_ne (fun z => by subst z; rw [hH] at e; cases e)]; exact e
      · rw [hH] at e; cases e
end
end Mi
set_option Elab.async false
set_option linter.all false
set_option maxRecDepth 100000
namespace Mi
open PySem L2 PyProof.Rows
section
variable {X : Cx} {k : Nat} {f : Addr} {φ : Fn}
/-- a def is run by a slot -/
theorem run_in1 (F : FnP X.prog X.w X.K X.mg X.base k f φ) (hr : Room (k + 1) X.A) (hg : X.A.guards = some []) {pins : List (Addr × Obj)} {s : Shared} {σ : L2.St} {H : Hp} {vs : List V} {us : List Value} {Q : VK} {E' : Value → Shared → Prop}
    (I : Inv X pins σ H s) (r : Vals vs us) (h : rF X.mg φ vs H Q) : wpAny (model X.prog X.w) X.A.in1 (call (.ref f) us) (EP X pins σ Q) E' s := by
  refine wpAny_call (codeAny_mono (F X.A.in1 X.stack s H us vs Q (hr.in1.mono (by omega)) hg I.env0.in1 r h) fun res s' hq => ?_)
  cases res with
  | error e => exact False.elim hq
  | ok fl =>
    cases fl with
    | ret u => exact I.after hq
    | next => exact False.elim hq
    | brk => exact False.elim hq
    | cont => exact False.elim hq
/-- a class's own def at a special name -/
structure SpOf (X : Cx) (c : String) (n : Str) (φ : Fn) (C f : Addr) (k : Nat) : Prop where
  at_ : ClsAt X.mg c C
  fnd : PySem.W.findIn X.K (.ref C) n = some (some (.ref f))
  fn : PySem.W.isFn X.K (.ref f) = true
  ok : FnP X.prog X.w X.K X.mg X.base k f φ
def SpOk (X : Cx) (n : Str) (k : Nat) (tb : Tb) : Prop := ∀ c φ, tb.lookup c = some φ → ∃ C f, SpOf X c n φ C f k
theorem SpOk.nil {n : Str} : SpOk X n k [] := fun c φ h => by cases h
theorem SpOk.cons {n : Str} {c : String} {tb : Tb} {C : Addr} (h : SpOf X c n φ C f k) (t : SpOk X n k tb) : SpOk X n k ((c, φ) :: tb) := fun c' φ' e => by
  rw [List.lookup_cons] at e
  by_cases hc : c' = c
  · subst hc
    simp at e
    subst e
    exact ⟨C, f, h⟩
  · have : (c' == c) = false := by simp [hc]
    rw [this] at e
    exact t c' φ' e
theorem cls_eq {mg : Str → Option Value} {c : String} {C C' : Addr} (h : ClsAt mg c C) (h' : ClsAt mg c C') : C' = C := by
  unfold ClsAt at h h'
  rw [h'] at h; cases h; rfl
/-- the instance as the machine has it -/
theorem inst_at {pins : List (Addr × Obj)} {s : Shared} {σ : L2.St} {H : Hp} {a C dx : Addr} {fs : List (Str × V)} (I : Inv X pins σ H s) (h : H a = some (.ins C dx fs)) : ∃ ox od, PySem.W.InstAt s.heap a ox C od := by
  obtain ⟨mA, O, _⟩ := ins_get I.hok h
  obtain ⟨od, J, _⟩ := O.look
  exact ⟨_, _, J⟩
end
section
variable {X : Cx} {k : Nat} {pos : Pos} {o e : Expr} {mo m : M}

/-! ### properties, constants of a class -/
structure PrOf (X : Cx) (c : String) (n : Str) (φ : Fn) (C p f : Addr) (k : Nat) : Prop where
  at_ : ClsAt X.mg c C
  cls : Cls X.K C
  prp : PropOf X.K C n p f
  ok : FnP X.prog X.w X.K X.mg X.base k f φ
def PrOk (X : Cx) (n : Str) (k : Nat) (tb : Tb) : Prop := ∀ c φ, tb.lookup c = some φ → ∃ C p f, PrOf X c n φ C p f k
theorem PrOk.nil {n : Str} : PrOk X n k [] := fun c φ h => by cases h
theorem PrOk.cons {n : Str} {c : String} {φ : Fn} {tb : Tb} {C p f : Addr} (h : PrOf X c n φ C p f k) (t : PrOk X n k tb) : PrOk X n k ((c, φ) :: tb) := fun c' φ' e => by
  rw [List.lookup_cons] at e
  by_cases hc : c' = c
  · subst hc
    simp at e
    subst e
    exact ⟨C, p, f, h⟩
  · have : (c' == c) = false := by simp [hc]
    rw [this] at e
    exact t c' φ' e
theorem me_prop {n : Str} {tb : Tb} (he : ME X o mo) (T : PrOk X n k tb) (hr : Room (k + 1) X.A) (hg : X.A.guards = some []) (hab : attributeBase o n X.env (eval o X.env) = eval o X.env := by rfl) : ME X (.Attribute o n pos) (mProp tb mo) := by
  constructor
  rintro pins s σ H Q I ⟨ρ, S, J, ι, d, S', er, sr, hm, q⟩
  unfold mProp at hm
  obtain ⟨⟨x, S1⟩, h1, hm⟩ := Option.bind_eq_some_iff.mp hm
  simp only at hm
  split at hm
  rotate_left
  · cases hm
  rename_i c gs htop
  split at hm
  rotate_left
  · cases hm
  rename_i φ hφ
  obtain ⟨C, p, f, T1⟩ := T c φ hφ
  refine attr_of hab (thn (he.run pins s σ H (fun v H1 => ∃ a dx fs, v = .ref a ∧ H1 a = some (.ins C dx fs) ∧ rF X.mg φ [.ref a] H1 Q) I ?_) fun u s1 h => ?_)
  · refine ⟨ρ, S, J, ι, x, S1, er, sr, h1, fun v1 H1 I1 ι1 l1 p1 s1 r1 => ?_⟩
    obtain ⟨a, C', dx, fs, rfl, hH, hd, hc, rf⟩ := seen_obj s1 r1 htop
    obtain rfl := cls_eq T1.at_ hc
    exact ⟨a, dx, fs, rfl, hH, [x], S1, I1, ι1, d, S', .cons r1 .nil, s1, hm, q.mono l1 p1⟩
  · obtain ⟨v, H1, I1, rx, a, dx, fs, rfl, ea, q2⟩ := h
    cases rx
    obtain ⟨mA, O, _⟩ := ins_get I1.hok ea
    obtain ⟨od, J2, _⟩ := O.look
    obtain ⟨rest, hrec⟩ := T1.prp.rec_
    have I2 := I1.tok (s1.toks + 1)
    have hcl : (PySem.W.clsIn X.K C).isSome = true := by
      obtain ⟨cd, hc, _⟩ := PySem.W.any_some T1.cls.hd
      rw [hc]; rfl
    have gp := PySem.W.plainGet_of (T1.cls.get n)
    refine PySem.W.get_bind I1.kIn J2 gp.1 (PySem.W.findObj_data hcl T1.prp.at_ T1.prp.get T1.prp.tak) gp.2 (wpAny_call (PySem.W.prop_get (s := { s1 with toks := s1.toks + 1 }) I1.kIn hrec ?_))
    refine codeAny_mono (T1.ok X.A.in1 X.stack _ H1 [.ref a] [.ref a] Q (hr.in1.mono (by omega)) hg I2.env0.in1 (.cons (show RelV (.ref a) (Value.ref a) from rfl) .nil) q2) fun res s' hq => ?_
    cases res with
    | error er => exact False.elim hq
    | ok fl =>
      cases fl with
      | ret u =>
        obtain ⟨v, H', I3, rv, q3⟩ := I2.after hq
        show wpAny _ _ (handedOut u) _ _ _
        rw [PySem.W.handedOut_of (handed_of rv)]
        exact wpAny_pure ⟨v, H', I3, rv, q3⟩
      | next => exact False.elim hq
      | brk => exact False.elim hq
      | cont => exact False.elim hq
/-- o.f, a constant int of the class -/
structure CnOf (X : Cx) (c : String) (n : Str) (i : Int) (C : Addr) : Prop where
  at_ : ClsAt X.mg c C
  cls : Cls X.K C
  con : ∃ t, Con X.K C n (.int i) (.int i t)
def CnOk (X : Cx) (n : Str) (tb : List (String × D)) : Prop := ∀ c d, tb.lookup c = some d → ∃ C i, d = .int i ∧ CnOf X c n i C
theorem CnOk.nil {n : Str} : CnOk X n [] := fun c φ h => by cases h
theorem CnOk.cons {n : Str} {c : String} {i : Int} {tb : List (String × D)} {C : Addr} (h : CnOf X c n i C) (t : CnOk X n tb) : CnOk X n ((c, .int i) :: tb) := fun c' φ' e => by
  rw [List.lookup_cons] at e
  by_cases hc : c' = c
  · subst hc
    simp at e
    subst e
    exact ⟨C, i, rfl, h⟩
  · have : (c' == c) = false := by simp [hc]
    rw [this] at e
    exact t c' φ' e
theorem me_con {n0 : Str} {n : String} {tb : List (String × D)} (hn : n0 = Str.ofString n) (he : ME X o mo) (T : CnOk X n0 tb) (hab : attributeBase o n0 X.env (eval o X.env) = eval o X.env := by rfl) : ME X (.Attribute o n0 pos) (mCon n tb mo) := by
  subst hn
  refine PE.imp (pe_con he hab) ?_
  rintro σ H Q ⟨ρ, S, J, ι, d, S', er, sr, hm, q⟩
  unfold mCon at hm
  obtain ⟨⟨x, S1⟩, h1, hm⟩ := Option.bind_eq_some_iff.mp hm
  simp only at hm
  split at hm
  rotate_left
  · cases hm
  rename_i c gs htop
  split at hm
  rotate_left
  · cases hm
  rename_i hl
  obtain ⟨w, hw, hm⟩ := Option.bind_eq_some_iff.mp hm
  cases hm
  obtain ⟨C, i, rfl, T1⟩ := T c _ hw
  obtain ⟨t, hcon⟩ := T1.con
  refine ⟨ρ, S, J, ι, x, S', er, sr, h1, fun v1 H1 I1 ι1 l1 p1 s1 r1 => ?_⟩
  obtain ⟨a, C', dx, fs, rfl, hH, hd, hc, rf⟩ := seen_obj s1 r1 htop
  obtain rfl := cls_eq T1.at_ hc
  exact ⟨a, C', dx, fs, .int i, _, rfl, hH, T1.cls, hcon, rf.none_of hl, (q.mono l1 p1).now s1 (.int i)⟩
/-- C.f, by the class's name -/
theorem me_ccon {x n : Str} {C : Addr} {mc : Value} {i : Int} {t : Tok} {p : Pos} (hg : Gl X x) (hm : X.mg x = some (.ref C)) (r : ClX.CRead X.K C mc) (c : ClX.CVal X.K C mc n (.int i) (.int i t)) (hd : (x == ("__debug__" : Str)) = false := by decide)
    (hab : attributeBase (.Name x p) n X.env (eval (.Name x p) X.env) = eval (.Name x p) X.env := by rfl) : ME X (.Attribute (.Name x p) n pos) (mInt i) := by
  refine PE.imp (ClX.pe_cval (pe_glob hg hm (show RelV (.ref C) (Value.ref C) from rfl) hd) hab) ?_
  rintro σ H Q ⟨ρ, S, J, ι, d, S', er, sr, hm, q⟩
  cases hm
  exact ⟨C, mc, .int i, _, rfl, r, c, q.now sr (.int i)⟩
/-- x, an int or a text of the module -/
theorem me_gint {x : Str} {i : Int} {t : Tok} (hg : Gl X x) (hm : X.mg x = some (.int i t)) (hd : (x == ("__debug__" : Str)) = false := by decide) : ME X (.Name x pos) (mInt i) := by
  refine PE.imp (pe_glob hg hm (show RelV (.int i) (Value.int i t) from ⟨t, rfl⟩) hd) ?_
  rintro σ H Q ⟨ρ, S, J, ι, d, S', er, sr, hm, q⟩
  cases hm
  exact q.now sr (.int i)
theorem me_gstr {x y : Str} {c : List Nat} {t : Tok} (hg : Gl X x) (hm : X.mg x = some (.str y t)) (hy : y = toS c := by rfl) (hc : ∀ n ∈ c, n < 0x110000 := by decide) (hd : (x == ("__debug__" : Str)) = false := by decide) : ME X (.Name x pos) (mStr c) := by
  subst hy
  refine PE.imp (pe_glob hg hm (show RelV (.str (toS c)) (Value.str _ t) from ⟨t, rfl⟩) hd) ?_
  rintro σ H Q ⟨ρ, S, J, ι, d, S', er, sr, hm, q⟩
  cases hm
  exact q.now sr (.str hc)

/-! ### static methods -/
structure SMet (K : PySem.W.Frag) (C : Addr) (mc : Value) (m : Str) (p g : Addr) : Prop where
  at_ : PySem.W.findCls K (.ref C) mc m = some (.get (.builtin "staticmethod.__get__") (.ref p) .none (.ref C))
  rc : ∃ rest, PySem.W.recIn K p "staticmethod" = some (.ref g :: rest)
  kp : PySem.W.keepIn K (.ref g) = true
variable {es : List Expr} {ms : List M} {apos p : Pos} {pl : Sem Bool} {x m0 : Str} {φ : Fn} {C q g : Addr} {mc : Value}
theorem me_static (hx : Gl X x) (hm : X.mg x = some (.ref C)) (r : ClX.CRead X.K C mc) (c : SMet X.K C mc m0 q g) (hc : CallR X (.ref g) (rF X.mg φ)) (ha : MA X (e :: es) ms) (hd : (x == ("__debug__" : Str)) = false := by decide)
    (hst : starEach (e :: es) X.env = (false, eval e X.env) :: starEach es X.env := by rfl) (hpl : (backTo pos (starEach es X.env)).any (·.1) = false := by rfl)
    (ht : eval (.Call (.Attribute (.Name x p) m0 apos) (e :: es) [] pos) X.env = (do
      let ov ← eval (.Name x p) X.env
      standAt apos.atName
      let (g, fst0) ← holding [ov] (getMethod ov m0 pl)
      callWith pos g fst0 (backTo pos (starEach (e :: es) X.env)) (backToKw pos (keywordEach [] X.env))) := by rfl) :
    ME X (.Call (.Attribute (.Name x p) m0 apos) (e :: es) [] pos) (mCall φ ms) := by
  constructor
  intro pins s σ H Q I h
  refine PySem.W.methodCall_KW (pl := pl) (ld_glob I hx hm ?_ hd) ht
  obtain ⟨rest, hrec⟩ := c.rc
  refine PySem.W.method_cls I.kIn r.ga (PySem.W.cls_bind I.kIn r.rd c.at_ (wpAny_call (PySem.W.sm_get (s := { s with toks := s.toks + 1 }) I.kIn hrec (PySem.W.handed_on rfl ?_))))
  have I1 := I.tok (s.toks + 1)
  refine PySem.W.callWith_K (h₀ := X.base) I.ok.mod.kin c.kp (thn (ha.run pos pins _ σ H _ I1 (tM_F h)) ?_) hst hpl
  rintro us s1 ⟨vs, H1, I2, rv, q2⟩
  exact ⟨I2.kIn, hc pins s1 σ H1 vs us Q I2 rv q2⟩
theorem me_static0 (hx : Gl X x) (hm : X.mg x = some (.ref C)) (r : ClX.CRead X.K C mc) (c : SMet X.K C mc m0 q g) (hc : CallR X (.ref g) (rF X.mg φ)) (hd : (x == ("__debug__" : Str)) = false := by decide)
    (ht : eval (.Call (.Attribute (.Name x p) m0 apos) [] [] pos) X.env = (do
      let ov ← eval (.Name x p) X.env
      standAt apos.atName
      let (g, fst0) ← holding [ov] (getMethod ov m0 pl)
      callWith pos g fst0 (backTo pos (starEach [] X.env)) (backToKw pos (keywordEach [] X.env))) := by rfl) :
    ME X (.Call (.Attribute (.Name x p) m0 apos) [] [] pos) (mCall φ []) := by
  constructor
  intro pins s σ H Q I h
  refine PySem.W.methodCall_KW (pl := pl) (ld_glob I hx hm ?_ hd) ht
  obtain ⟨rest, hrec⟩ := c.rc
  refine PySem.W.method_cls I.kIn r.ga (PySem.W.cls_bind I.kIn r.rd c.at_ (wpAny_call (PySem.W.sm_get (s := { s with toks := s.toks + 1 }) I.kIn hrec (PySem.W.handed_on rfl ?_))))
  have I1 := I.tok (s.toks + 1)
  refine PySem.W.callWith_K0 I1.kIn c.kp ?_
  obtain ⟨ρ, S, J, ι, ds, S1, e0, s1, h1, q0⟩ := tM_F h
  cases h1
  exact hc pins _ σ H [] [] Q I1 .nil (q0 _ _ _ _ Le.refl Pre.refl s1 .nil)
end
end Mi
set_option Elab.async false
set_option linter.all false
set_option maxRecDepth 100000
namespace Mi
open PySem L2 PyProof.Rows
def rT (mg : Str → Option Value) (f : D → D → Store → Option (D × Store)) : R2 := fun x y H Q => ∃ S I ι dx dy d S', SR mg I ι S H ∧ Rep mg I ι x dx ∧ Rep mg I ι y dy ∧ f dx dy S = some (d, S') ∧ After mg I ι S' d Q
section
variable {X : Cx} {k : Nat} {pos : Pos} {a b : Expr} {ma mb : M}
theorem tM_two {f : D → D → Store → Option (D × Store)} {σ : L2.St} {H : Hp} {Q : VK} (h : tM X.mg (mTwo f ma mb) σ H Q) : tOp (rT X.mg f) (tM X.mg ma) (tM X.mg mb) σ H Q := by
  obtain ⟨ρ, S, I, ι, d, S', e, s, hm, q⟩ := h
  unfold mTwo at hm
  obtain ⟨⟨x, S1⟩, h1, hm⟩ := Option.bind_eq_some_iff.mp hm
  obtain ⟨⟨y, S2⟩, h2, hm⟩ := Option.bind_eq_some_iff.mp hm
  refine ⟨ρ, S, I, ι, x, S1, e, s, h1, fun v1 H1 I1 ι1 l1 p1 s1 r1 => ?_⟩
  refine ⟨ρ, S1, I1, ι1, y, S2, e.mono l1 p1, s1, h2, fun v2 H2 I2 ι2 l2 p2 s2 r2 => ?_⟩
  exact ⟨S2, I2, ι2, x, y, d, S', s2, r1.mono l2 p2, r2, hm, q.mono (l1.trans l2) (p1.trans p2)⟩
theorem me_cmpT {op : CmpOp} {f : D → D → Store → Option (D × Store)} (ho : OpR X (compareOp op) (rT X.mg f)) (hm : behindInMarks op b = false) (ha : ME X a ma) (hb : ME X b mb) : ME X (.Compare a [op] [b] pos) (mTwo f ma mb) :=
  PE.imp (pe_cmpR ho ha hb hm) fun σ H Q h => tM_two h
theorem mt_cmpT {op : CmpOp} {f : D → D → Store → Option (D × Store)} (ho : OpR X (compareOp op) (rT X.mg f)) (hm : behindInMarks op b = false) (ha : ME X a ma) (hb : ME X b mb) : MT X (.Compare a [op] [b] pos) (mTwo f ma mb) :=
  PT.imp (pt_cmpR ho ha hb hm) fun σ H Q h => tM_two (tT_val h)
theorem truthy_bl {M : Model} {A : Around} {E : Value → Shared → Prop} {s : Shared} {c : Bool} {Q : Bool → Shared → Prop} (h : Q c s) : wpAny M A (truthy (.bool c)) Q E s := wpAny_truthy_bool h
theorem oT_in {tb : Tb} (T : SpOk X "__contains__" k tb) (hr : Room (k + 1) X.A) (hg : X.A.guards = some []) : OpR X (compareOp .In) (rT X.mg (inO tb)) := by
  rintro pins s σ H x y v u Q I rx ry ⟨S, J, ι, dx, dy, d, S', sr, rpx, rpy, hm, q⟩
  unfold inO at hm
  split at hm
  rotate_left
  · cases hm
  rename_i c gs htop
  obtain ⟨φ, hφ, hm⟩ := Option.bind_eq_some_iff.mp hm
  split at hm
  rotate_left
  · cases hm
  rename_i bb S1 hb
  cases hm
  obtain ⟨C, f, T1⟩ := T c φ hφ
  obtain ⟨ad, C', dxx, fs, rfl, hH, hd, hc, rf⟩ := seen_obj sr rpy htop
  obtain rfl := cls_eq T1.at_ hc
  cases ry
  obtain ⟨ox, od, J2⟩ := inst_at I hH
  obtain ⟨m, hF⟩ := I.fr
  refine PySem.W.in_K hF I.ok.mod.kin J2 T1.fnd T1.fn ?_
  have c0 := callR_fn T1.ok (hr.mono (Nat.le_succ _)) hg pins s σ H [.ref ad, x] [.ref ad, v] (fun w H' => ∃ z, w = .bl z ∧ Q (.bl z) H') I (.cons (show RelV (.ref ad) (Value.ref ad) from rfl) (.cons rx .nil)) ⟨[dy, dx], S, J, ι, .bl bb, S', .cons rpy (.cons rpx .nil), sr, hb, fun w H' I' ι' l p s' rw' => by
    cases rw'
    exact ⟨bb, rfl, q _ _ _ _ l p s' (.bl bb)⟩⟩
  refine thn c0 ?_
  rintro w s1 ⟨w', H1, I1, r1, z, rfl, q1⟩
  cases r1
  exact truthy_bl ⟨.bl z, H1, I1, rfl, q1⟩
theorem oT_item {tb : Tb} (T : SpOk X "__getitem__" k tb) (hfn : ∀ c φ C f, SpOf X c "__getitem__" φ C f k → PySem.W.fnIn X.K f = true) (hr : Room (k + 1) X.A) (hg : X.A.guards = some []) {value slice : Expr}
    {pins : List (Addr × Obj)} {s : Shared} {σ : L2.St} {H : Hp} {x y : V} {v u : Value} {Q : VK} (I : Inv X pins σ H s) (rx : RelV x v) (ry : RelV y u) (h : rT X.mg (itemO tb) x y H Q)
    (hsl : ∀ ad, v = .ref ad → subscripted slice true (.ref ad) u = runValue (.builtin "lifetime.subscript" ⟨[.ref ad, u], []⟩)) : wpAny (model X.prog X.w) X.A (subscriptTail value slice v u) (EP X pins σ Q) X.xe s := by
  obtain ⟨S, J, ι, dx, dy, d, S', sr, rpx, rpy, hm, q⟩ := h
  unfold itemO at hm
  split at hm
  rotate_left
  · cases hm
  rename_i c gs htop
  obtain ⟨φ, hφ, hm⟩ := Option.bind_eq_some_iff.mp hm
  obtain ⟨C, f, T1⟩ := T c φ hφ
  obtain ⟨ad, C', dxx, fs, rfl, hH, hd, hc, rf⟩ := seen_obj sr rpx htop
  obtain rfl := cls_eq T1.at_ hc
  cases rx
  obtain ⟨ox, od, J2⟩ := inst_at I hH
  obtain ⟨m, hF⟩ := I.fr
  refine PySem.W.sub_K hF I.ok.mod.kin J2 T1.fnd (hfn c φ C' f T1) T1.fn ?_ (hsl ad rfl)
  exact run_in1 T1.ok hr hg I (.cons (show RelV (.ref ad) (Value.ref ad) from rfl) (.cons ry .nil)) ⟨[dx, dy], S, J, ι, d, S', .cons rpx (.cons rpy .nil), sr, hm, q⟩
end
section
variable {X : Cx} {k : Nat}
/-- by values: one argument -/
def rO (mg : Str → Option Value) (f : D → Store → Option (D × Store)) : List V → Hp → VK → Prop := fun vs H Q => ∃ S I ι x dx d S', vs = [x] ∧ SR mg I ι S H ∧ Rep mg I ι x dx ∧ f dx S = some (d, S') ∧ After mg I ι S' d Q
theorem cO_len {tb : Tb} (T : SpOk X "__len__" k tb) (hr : Room (k + 1) X.A) (hg : X.A.guards = some []) : CallR X (.builtin "len") (rO X.mg (lenO tb)) := by
  rintro pins s σ H xs us Q I r ⟨S, J, ι, x, dx, d, S', rfl, sr, rpx, hm, q⟩
  unfold lenO at hm
  split at hm
  rotate_left
  · cases hm
  rename_i c gs htop
  obtain ⟨φ, hφ, hm⟩ := Option.bind_eq_some_iff.mp hm
  split at hm
  rotate_left
  · cases hm
  rename_i i S1 hb
  split at hm
  rotate_left
  · cases hm
  rename_i hi
  cases hm
  obtain ⟨C, f, T1⟩ := T c φ hφ
  obtain ⟨ad, C', dxx, fs, rfl, hH, hd, hc, rf⟩ := seen_obj sr rpx htop
  obtain rfl := cls_eq T1.at_ hc
  cases r with
  | cons r1 r2 =>
    cases r1; cases r2
    obtain ⟨ox, od, J2⟩ := inst_at I hH
    obtain ⟨m, hF⟩ := I.fr
    refine PySem.W.len_K hF I.ok.mod.kin J2 T1.fnd T1.fn ?_
    refine thn (run_in1 (Q := fun w H' => w = .int i ∧ Q (.int i) H') T1.ok hr hg I (.cons (show RelV (.ref ad) (Value.ref ad) from rfl) .nil) ⟨[dx], S, J, ι, .int i, S', .cons rpx .nil, sr, hb, fun w H' I' ι' l p s' rw' => by
      cases rw'
      exact ⟨rfl, q _ _ _ _ l p s' (.int i)⟩⟩) ?_
    rintro w s1 ⟨w', H1, I1, r1, rfl, q1⟩
    obtain ⟨t, rfl⟩ := r1
    refine ⟨⟨hi.1, by omega⟩, .int i, H1, I1.tok _, ⟨_, rfl⟩, q1⟩
theorem cO_repr {tb : Tb} (T : SpOk X "__repr__" k tb) (hr : Room (k + 1) X.A) (hg : X.A.guards = some []) : CallR X (.builtin "repr") (rO X.mg (reprO tb)) := by
  rintro pins s σ H xs us Q I r ⟨S, J, ι, x, dx, d, S', rfl, sr, rpx, hm, q⟩
  unfold reprO at hm
  split at hm
  rotate_left
  · cases hm
  rename_i c gs htop
  obtain ⟨φ, hφ, hm⟩ := Option.bind_eq_some_iff.mp hm
  split at hm
  rotate_left
  · cases hm
  rename_i t S1 hb
  cases hm
  obtain ⟨C, f, T1⟩ := T c φ hφ
  obtain ⟨ad, C', dxx, fs, rfl, hH, hd, hc, rf⟩ := seen_obj sr rpx htop
  obtain rfl := cls_eq T1.at_ hc
  cases r with
  | cons r1 r2 =>
    cases r1; cases r2
    obtain ⟨ox, od, J2⟩ := inst_at I hH
    obtain ⟨m, hF⟩ := I.fr
    refine PySem.W.repr_K hr.in1.units0 hF I.ok.mod.kin J2 T1.fnd T1.fn ?_
    refine thn (run_in1 (Q := fun w H' => ∃ z, w = .str z ∧ Q (.str z) H') T1.ok hr hg I (.cons (show RelV (.ref ad) (Value.ref ad) from rfl) .nil) ⟨[dx], S, J, ι, .str t, S', .cons rpx .nil, sr, hb, fun w H' I' ι' l p s' rw' => by
      cases rw' with
      | str hh => exact ⟨_, rfl, q _ _ _ _ l p s' (.str hh)⟩⟩) ?_
    rintro w s1 ⟨w', H1, I1, r1, z, rfl, q1⟩
    obtain ⟨tk, rfl⟩ := r1
    exact ⟨.str z, H1, I1, ⟨_, rfl⟩, q1⟩
variable {x : Str} {p pos : Pos} {e : Expr} {m : M}
theorem me_callO {id : String} {f : D → Store → Option (D × Store)} (hc : CallR X (.builtin id) (rO X.mg f)) (hg : Gl X x) (hm : X.mg x = none) (hv : bootBuiltins x = some (.builtin id)) (ha : ME X e m) (hn : x ≠ "__name__" := by decide) (hdb : (x == ("__debug__" : Str)) = false := by decide)
    (he : starEach [e] X.env = (false, eval e X.env) :: starEach [] X.env := by rfl) (hpl : (backTo pos (starEach [] X.env)).any (·.1) = false := by rfl) : ME X (.Call (.Name x p) [e] [] pos) (mOne f m) := by
  refine PE.imp (pe_callB hc hg hm hv (pa_cons ha pa_nil he) hn hdb he hpl) ?_
  rintro σ H Q ⟨ρ, S, I, ι, d, S', er, sr, hm, q⟩
  unfold mOne at hm
  obtain ⟨⟨y, S1⟩, h1, hm⟩ := Option.bind_eq_some_iff.mp hm
  refine ⟨ρ, S, I, ι, y, S1, er, sr, h1, fun v1 H1 I1 ι1 l1 p1 s1 r1 => ?_⟩
  exact ⟨S1, I1, ι1, v1, y, d, S', rfl, s1, r1, hm, q.mono l1 p1⟩
end
end Mi
set_option Elab.async false
set_option linter.all false
set_option maxRecDepth 100000
namespace Mi
open PySem L2
/-! ### lists of one sort -/
section
variable {mg : Str → Option Value} {I : Hp} {ι : Io}
theorem reps_ints : ∀ {xs : List V} {ds : List D} {ns : List Int}, Reps mg I ι xs ds → asInts ds = some ns → xs = ns.map V.int
  | _, _, _, .nil, h => by cases h; rfl
  | _, d :: ds, ns, .cons h t, e => by
    cases d <;> try (simp [asInts] at e; done)
    rename_i i
    simp only [asInts] at e
    obtain ⟨ms, h1, rfl⟩ := Option.map_eq_some_iff.mp e
    cases h
    rw [List.map_cons, reps_ints t h1]
theorem reps_bools : ∀ {xs : List V} {ds : List D} {ns : List Bool}, Reps mg I ι xs ds → asBools ds = some ns → xs = ns.map V.bl
  | _, _, _, .nil, h => by cases h; rfl
  | _, d :: ds, ns, .cons h t, e => by
    cases d <;> try (simp [asBools] at e; done)
    rename_i i
    simp only [asBools] at e
    obtain ⟨ms, h1, rfl⟩ := Option.map_eq_some_iff.mp e
    cases h
    rw [List.map_cons, reps_bools t h1]
theorem reps_strs : ∀ {xs : List V} {ds : List D} {ns : List (List Nat)}, Reps mg I ι xs ds → asStrs ds = some ns → xs = ns.map (fun s => V.str (toS s)) ∧ ∀ s ∈ ns, ∀ c ∈ s, c < 0x110000
  | _, _, _, .nil, h => by cases h; exact ⟨rfl, fun s h => by cases h⟩
  | _, d :: ds, ns, .cons h t, e => by
    cases d <;> try (simp [asStrs] at e; done)
    rename_i i
    simp only [asStrs] at e
    obtain ⟨ms, h1, rfl⟩ := Option.map_eq_some_iff.mp e
    cases h with
    | str hc =>
      obtain ⟨h2, h3⟩ := reps_strs t h1
      exact ⟨by rw [List.map_cons, h2], fun s hs => (List.mem_cons.mp hs).elim (fun z => by subst z; exact hc) (h3 s)⟩
end
theorem greatest_ok : ∀ {ns : List Int} {m : Int}, greatest ns = some m → 0 < ns.length ∧ m ∈ ns ∧ ∀ y ∈ ns, y ≤ m
  | [n], m, h => by cases h; simp
  | n :: k :: ns, m, h => by
    simp only [greatest] at h
    obtain ⟨m', h1, rfl⟩ := Option.map_eq_some_iff.mp h
    obtain ⟨_, h3, h4⟩ := greatest_ok h1
    refine ⟨by simp, ?_, ?_⟩
    · split
      · exact List.mem_cons_of_mem _ h3
      · exact List.mem_cons_self
    · intro y hy
      rcases List.mem_cons.mp hy with rfl | hy
      · split <;> omega
      · have := h4 y hy
        split <;> omega
theorem least_ok : ∀ {ns : List Int} {m : Int}, least ns = some m → 0 < ns.length ∧ m ∈ ns ∧ ∀ y ∈ ns, m ≤ y
  | [n], m, h => by cases h; simp
  | n :: k :: ns, m, h => by
    simp only [least] at h
    obtain ⟨m', h1, rfl⟩ := Option.map_eq_some_iff.mp h
    obtain ⟨_, h3, h4⟩ := least_ok h1
    refine ⟨by simp, ?_, ?_⟩
    · split
      · exact List.mem_cons_of_mem _ h3
      · exact List.mem_cons_self
    · intro y hy
      rcases List.mem_cons.mp hy with rfl | hy
      · split <;> omega
      · have := h4 y hy
        split <;> omega
section
variable {X : Cx}
theorem map1 {S : Store} {ds : List D} {y : D} (h : ds.map (top S) = [y]) : ∃ d, ds = [d] ∧ top S d = y := by
  match ds, h with
  | [d], h => exact ⟨d, rfl, by simpa using h⟩
theorem map2 {S : Store} {ds : List D} {y z : D} (h : ds.map (top S) = [y, z]) : ∃ d e, ds = [d, e] ∧ top S d = y ∧ top S e = z := by
  match ds, h with
  | [d, e], h => exact ⟨d, e, rfl, by simpa using h⟩
theorem reps1 {mg : Str → Option Value} {I : Hp} {ι : Io} {vs : List V} {d : D} (h : Reps mg I ι vs [d]) : ∃ v, vs = [v] ∧ Rep mg I ι v d := by
  cases h with
  | cons h t => cases t; exact ⟨_, rfl, h⟩
theorem reps2 {mg : Str → Option Value} {I : Hp} {ι : Io} {vs : List V} {d e : D} (h : Reps mg I ι vs [d, e]) : ∃ v w, vs = [v, w] ∧ Rep mg I ι v d ∧ Rep mg I ι w e := by
  cases h with
  | cons h t => obtain ⟨w, rfl, h2⟩ := reps1 t; exact ⟨_, _, rfl, h, h2⟩
theorem len0 {mg : Str → Option Value} {I H : Hp} {ι : Io} {S : Store} {v : V} {dv d : D} {Q : VK} {K : PySem.W.Frag} (s : SR mg I ι S H) (r : Rep mg I ι v dv) (h : fLen0 (top S dv) = some d) (q : After mg I ι S d Q) :
    (∃ p ys, [v] = [V.ref p] ∧ (SqL K H p ys ∨ SqT K H p ys) ∧ Q (.int ys.length) H) ∨ ∃ z, [v] = [V.str z] ∧ z.length ≤ sizeLine ∧ Q (.int z.length) H := by
  unfold fLen0 at h
  split at h
  · rename_i xs e0
    cases h
    obtain ⟨a, zs, rfl, hH, rz⟩ := seen_lst s r e0
    refine .inl ⟨a, zs, rfl, .inl (.inl hH), ?_⟩
    rw [rz.length]; exact q.now s (.int _)
  · rename_i xs e0
    cases h
    obtain ⟨a, zs, rfl, hH, _, rz⟩ := seen_tup s r e0
    refine .inl ⟨a, zs, rfl, .inr (.of hH), ?_⟩
    rw [rz.length]; exact q.now s (.int _)
  · rename_i t e0
    split at h
    · rename_i hb
      cases h
      obtain ⟨rfl, _⟩ := seen_str s r e0
      refine .inr ⟨toS t, rfl, by rw [toS_len]; exact big_le hb, ?_⟩
      rw [toS_len]; exact q.now s (.int _)
    · cases h
  · cases h
theorem cB_len : CallR X (.builtin "len") (rB X.mg fLen) := by
  refine CallR.imp (CallR.or call_len_seq call_len_str) ?_
  rintro vs H Q ⟨S, I, ι, ds, d, s, rs, h, q⟩
  unfold fLen at h
  split at h
  · rename_i x e
    obtain ⟨y, rfl, rfl⟩ := map1 e
    obtain ⟨v, rfl, r⟩ := reps1 rs
    exact len0 s r h q
  · cases h
theorem cB_abs : CallR X (.builtin "abs") (rB X.mg fAbs) := by
  refine CallR.imp call_abs ?_
  rintro vs H Q ⟨S, I, ι, ds, d, s, rs, h, q⟩
  unfold fAbs at h
  split at h
  · rename_i i e
    cases h
    obtain ⟨y, rfl, e0⟩ := map1 e
    obtain ⟨v, rfl, r⟩ := reps1 rs
    obtain rfl := seen_int s r e0
    exact ⟨i, rfl, q.now s (.int _)⟩
  · cases h
theorem cB_max (hc : X.calm = true) : CallR X (.builtin "max") (rB X.mg fMax) := by
  refine CallR.imp (CallR.or (call_max2 hc) (cr_max hc)) ?_
  rintro vs H Q ⟨S, I, ι, ds, d, s, rs, h, q⟩
  unfold fMax at h
  split at h
  · rename_i i j e
    cases h
    obtain ⟨y, z, rfl, e1, e2⟩ := map2 e
    obtain ⟨v, w, rfl, r1, r2⟩ := reps2 rs
    obtain rfl := seen_int s r1 e1
    obtain rfl := seen_int s r2 e2
    exact .inl ⟨i, j, rfl, q.now s (.int _)⟩
  · rename_i xs e
    obtain ⟨ns, h1, h⟩ := Option.bind_eq_some_iff.mp h
    obtain ⟨m, h2, rfl⟩ := Option.map_eq_some_iff.mp h
    obtain ⟨y, rfl, e0⟩ := map1 e
    obtain ⟨v, rfl, r⟩ := reps1 rs
    obtain ⟨a, zs, rfl, hH, rz⟩ := seen_lst s r e0
    obtain rfl := reps_ints rz h1
    obtain ⟨g1, g2, g3⟩ := greatest_ok h2
    refine .inr ⟨a, ns, rfl, .inl hH, g1, fun m' hm hy => ?_⟩
    have : m' = m := by have a1 := hy m g2; have a2 := g3 m' hm; omega
    subst this
    exact q.now s (.int _)
  · cases h
theorem cB_min (hc : X.calm = true) : CallR X (.builtin "min") (rB X.mg fMin) := by
  refine CallR.imp (CallR.or (call_min2 hc) (cr_min hc)) ?_
  rintro vs H Q ⟨S, I, ι, ds, d, s, rs, h, q⟩
  unfold fMin at h
  split at h
  · rename_i i j e
    cases h
    obtain ⟨y, z, rfl, e1, e2⟩ := map2 e
    obtain ⟨v, w, rfl, r1, r2⟩ := reps2 rs
    obtain rfl := seen_int s r1 e1
    obtain rfl := seen_int s r2 e2
    exact .inl ⟨i, j, rfl, q.now s (.int _)⟩
  · rename_i xs e
    obtain ⟨ns, h1, h⟩ := Option.bind_eq_some_iff.mp h
    obtain ⟨m, h2, rfl⟩ := Option.map_eq_some_iff.mp h
    obtain ⟨y, rfl, e0⟩ := map1 e
    obtain ⟨v, rfl, r⟩ := reps1 rs
    obtain ⟨a, zs, rfl, hH, rz⟩ := seen_lst s r e0
    obtain rfl := reps_ints rz h1
    obtain ⟨g1, g2, g3⟩ := least_ok h2
    refine .inr ⟨a, ns, rfl, .inl hH, g1, fun m' hm hy => ?_⟩
    have : m' = m := by have a1 := hy m g2; have a2 := g3 m' hm; omega
    subst this
    exact q.now s (.int _)
  · cases h
theorem cB_all (hc : X.calm = true) : CallR X (.builtin "all") (rB X.mg fAll) := by
  refine CallR.imp (cr_all hc) ?_
  rintro vs H Q ⟨S, I, ι, ds, d, s, rs, h, q⟩
  unfold fAll at h
  split at h
  · rename_i xs e
    obtain ⟨ns, h1, rfl⟩ := Option.map_eq_some_iff.mp h
    obtain ⟨y, rfl, e0⟩ := map1 e
    obtain ⟨v, rfl, r⟩ := reps1 rs
    obtain ⟨a, zs, rfl, hH, rz⟩ := seen_lst s r e0
    obtain rfl := reps_bools rz h1
    exact ⟨a, ns, rfl, .inl hH, q.now s (.bl _)⟩
  · cases h
theorem cB_any (hc : X.calm = true) : CallR X (.builtin "any") (rB X.mg fAny) := by
  refine CallR.imp (cr_any hc) ?_
  rintro vs H Q ⟨S, I, ι, ds, d, s, rs, h, q⟩
  unfold fAny at h
  split at h
  · rename_i xs e
    obtain ⟨ns, h1, rfl⟩ := Option.map_eq_some_iff.mp h
    obtain ⟨y, rfl, e0⟩ := map1 e
    obtain ⟨v, rfl, r⟩ := reps1 rs
    obtain ⟨a, zs, rfl, hH, rz⟩ := seen_lst s r e0
    obtain rfl := reps_bools rz h1
    exact ⟨a, ns, rfl, .inl hH, q.now s (.bl _)⟩
  · cases h
theorem cB_sum (hc : X.calm = true) : CallR X (.builtin "sum") (rB X.mg fSum) := by
  refine CallR.imp (cr_sum hc) ?_
  rintro vs H Q ⟨S, I, ι, ds, d, s, rs, h, q⟩
  unfold fSum at h
  split at h
  · rename_i xs e
    obtain ⟨ns, h1, rfl⟩ := Option.map_eq_some_iff.mp h
    obtain ⟨y, rfl, e0⟩ := map1 e
    obtain ⟨v, rfl, r⟩ := reps1 rs
    obtain ⟨a, zs, rfl, hH, rz⟩ := seen_lst s r e0
    obtain rfl := reps_ints rz h1
    exact ⟨a, ns, rfl, .inl hH, q.now s (.int _)⟩
  · cases h
theorem cB_int : CallR X (.type "int") (rB X.mg fInt) := by
  refine CallR.imp call_int1 ?_
  rintro vs H Q ⟨S, I, ι, ds, d, s, rs, h, q⟩
  unfold fInt at h
  split at h
  · rename_i i e
    cases h
    obtain ⟨y, rfl, e0⟩ := map1 e
    obtain ⟨v, rfl, r⟩ := reps1 rs
    obtain rfl := seen_int s r e0
    exact .inl ⟨i, rfl, q.now s (.int _)⟩
  · rename_i i e
    cases h
    obtain ⟨y, rfl, e0⟩ := map1 e
    obtain ⟨v, rfl, r⟩ := reps1 rs
    obtain rfl := seen_bl s r e0
    exact .inr ⟨i, rfl, q.now s (.int _)⟩
  · cases h
theorem cB_tuple : CallR X (.type "tuple") (rB X.mg fTuple) := by
  refine CallR.imp call_tuple_of ?_
  rintro vs H Q ⟨S, I, ι, ds, d, s, rs, h, q⟩
  unfold fTuple at h
  split at h
  · rename_i xs e
    cases h
    obtain ⟨y, rfl, e0⟩ := map1 e
    obtain ⟨v, rfl, r⟩ := reps1 rs
    obtain ⟨a, zs, rfl, hH, rz⟩ := seen_lst s r e0
    exact ⟨a, zs, rfl, .inl ⟨.inl hH, fun l hl => q.tup s hl rz⟩⟩
  · rename_i xs e
    cases h
    obtain ⟨y, rfl, e0⟩ := map1 e
    obtain ⟨v, rfl, r⟩ := reps1 rs
    obtain ⟨a, zs, rfl, hH, hI, rz⟩ := seen_tup s r e0
    exact ⟨a, zs, rfl, .inr ⟨.of hH, q.now s (.tup hI rz)⟩⟩
  · cases h
theorem cB_list : CallR X (.type "list") (rB X.mg fList) := by
  refine CallR.imp call_list_of ?_
  rintro vs H Q ⟨S, I, ι, ds, d, s, rs, h, q⟩
  unfold fList at h
  split at h
  · rename_i xs e
    cases h
    obtain ⟨y, rfl, e0⟩ := map1 e
    obtain ⟨v, rfl, r⟩ := reps1 rs
    obtain ⟨a, zs, rfl, hH, rz⟩ := seen_lst s r e0
    exact ⟨a, zs, rfl, .inl (.inl hH), fun l hl => q.lst s hl rz⟩
  · rename_i xs e
    cases h
    obtain ⟨y, rfl, e0⟩ := map1 e
    obtain ⟨v, rfl, r⟩ := reps1 rs
    obtain ⟨a, zs, rfl, hH, _, rz⟩ := seen_tup s r e0
    exact ⟨a, zs, rfl, .inr (.of hH), fun l hl => q.lst s hl rz⟩
  · cases h
theorem cB_divmod : CallR X (.builtin "divmod") (rB X.mg fDivmod) := by
  refine CallR.imp call_divmod ?_
  rintro vs H Q ⟨S, I, ι, ds, d, s, rs, h, q⟩
  unfold fDivmod at h
  split at h
  · rename_i i j e
    split at h
    · rename_i hc
      cases h
      obtain ⟨y, z, rfl, e1, e2⟩ := map2 e
      obtain ⟨v, w, rfl, r1, r2⟩ := reps2 rs
      obtain rfl := seen_int s r1 e1
      obtain rfl := seen_int s r2 e2
      exact ⟨i, j, rfl, hc, fun p hp => q.tup s hp (.cons (.int _) (.cons (.int _) .nil))⟩
    · cases h
  · cases h
end
section
variable {X : Cx} {x : Str} {p pos apos : Pos} {e o : Expr} {m mo : M}
/-- list(..), to be changed -/
theorem me_listM (hg : Gl X "list") (hm : X.mg "list" = none) (ha : ME X e m) (he : starEach [e] X.env = (false, eval e X.env) :: starEach [] X.env := by rfl) (hpl : (backTo pos (starEach [] X.env)).any (·.1) = false := by rfl) : ME X (.Call (.Name "list" p) [e] [] pos) (mListM m) := by
  refine PE.imp (pe_callTy call_list_of hg hm (by decide +kernel) (pa_cons ha pa_nil he) (by decide) (by decide) he hpl) ?_
  rintro σ H Q ⟨ρ, S, I, ι, d, S', er, sr, hm, q⟩
  unfold mListM at hm
  obtain ⟨⟨y, S1⟩, h1, hm⟩ := Option.bind_eq_some_iff.mp hm
  simp only at hm
  refine ⟨ρ, S, I, ι, y, S1, er, sr, h1, fun v1 H1 I1 ι1 l1 p1 s1 r1 => ?_⟩
  split at hm
  · rename_i xs e
    split at hm
    · rename_i hp
      cases hm
      obtain ⟨a, zs, rfl, hH, rz⟩ := seen_lst s1 r1 e
      exact ⟨a, zs, rfl, .inl (.inl hH), fun l hl => (q.mono l1 p1).made_lst s1 hl rz hp⟩
    · cases hm
  · rename_i xs e
    split at hm
    · rename_i hp
      cases hm
      obtain ⟨a, zs, rfl, hH, _, rz⟩ := seen_tup s1 r1 e
      exact ⟨a, zs, rfl, .inr (.of hH), fun l hl => (q.mono l1 p1).made_lst s1 hl rz hp⟩
    · cases hm
  · cases hm
end
end Mi
set_option Elab.async false
set_option linter.all false
set_option maxRecDepth 100000
namespace Mi
open PySem L2
section
variable {X : Cx} {p pos apos p1 p2 : Pos} {e o : Expr} {m mo : M}
theorem evalL1 {ρ : Rho} {S : Store} {d : D} {S' : Store} (h : m ρ S = some (d, S')) : evalL [m] ρ S = some ([d], S') := by simp [evalL, h]
theorem tA1 {σ : L2.St} {H : Hp} {Q : List V → Hp → Prop} (h : tM X.mg m σ H fun x H' => Q [x] H') : tA X.mg [m] σ H Q := by
  obtain ⟨ρ, S, I, ι, d, S', e, s, hm, q⟩ := h
  refine ⟨ρ, S, I, ι, [d], S', e, s, evalL1 hm, fun vs H1 I1 ι1 l1 p1 s1 r1 => ?_⟩
  obtain ⟨v, rfl, r⟩ := reps1 r1
  exact q v H1 I1 ι1 l1 p1 s1 r
/-! ### a list's methods -/
theorem tyV_list {K : PySem.W.Frag} {H : Hp} {a : Addr} {xs : List V} (h : H a = some (.lst xs)) : tyV K "list" (.ref a) H := .inl ⟨rfl, xs, .of h⟩
theorem isLst_ok {S : Store} {k : Nat} (h : isLst S k = true) : ∃ xs, S[k]? = some (some (.lst xs)) := by
  unfold isLst at h
  split at h
  · exact ⟨_, by assumption⟩
  · cases h
theorem reps_pure {mg : Str → Option Value} {I : Hp} {ι : Io} : ∀ {xs : List V} {ds : List D}, Reps mg I ι xs ds → pureL ds = true → Reps mg I Io.nil xs ds := fun r h => r.of_pure h
/-- a method that changes the list -/
theorem me_onLst {r : V → List V → Hp → VK → Prop} {f : List D → D → Store → Option (D × List D)} (h : PE X e (tBM X.K "list" r (tM X.mg mo) (tA X.mg [m])))
    (hf : ∀ (a : Addr) (y : V) (zs : List V) (xs ys : List D) (dy d : D) (S : Store) (I : Hp) (ι : Io) (H : Hp) (Q : VK), H a = some (.lst zs) → Reps X.mg I Io.nil zs xs → SR X.mg I ι S H → Rep X.mg I ι y dy → f xs dy S = some (d, ys) →
      (∀ v zs', Reps X.mg I Io.nil zs' ys → Rep X.mg I ι v d → Q v (upd H a (.lst zs'))) → r (.ref a) [y] H Q) : ME X e (onLst mo m f) := by
  refine PE.imp h ?_
  rintro σ H Q ⟨ρ, S, I, ι, d, S', er, sr, hm, q⟩
  unfold onLst at hm
  obtain ⟨⟨x, S1⟩, h1, hm⟩ := Option.bind_eq_some_iff.mp hm
  simp only at hm
  split at hm
  rotate_left
  · cases hm
  rename_i k
  split at hm
  rotate_left
  · cases hm
  rename_i hl
  obtain ⟨⟨y, S2⟩, h2, hm⟩ := Option.bind_eq_some_iff.mp hm
  simp only at hm
  split at hm
  rotate_left
  · cases hm
  rename_i xs hk
  obtain ⟨⟨d', ys⟩, h3, hm⟩ := Option.bind_eq_some_iff.mp hm
  cases hm
  obtain ⟨xs0, hk0⟩ := isLst_ok hl
  refine ⟨ρ, S, I, ι, _, S1, er, sr, h1, fun v1 H1 I1 ι1 l1 p1 s1 r1 => ?_⟩
  have hex : ∃ a, v1 = .ref a ∧ ι1.l[k]? = some a := by cases r1 with | rf ha => exact ⟨_, rfl, ha⟩
  obtain ⟨a, rfl, hia⟩ := hex
  obtain ⟨zs0, hz0, _⟩ := live_lst s1 hk0 hia
  refine ⟨tyV_list hz0, tA1 ⟨ρ, S1, I1, ι1, y, S2, er.mono l1 p1, s1, h2, fun v2 H2 I2 ι2 l2 p2 s2 r2 => ?_⟩⟩
  have hia2 := pre_get p2.1 hia
  obtain ⟨zs, hz, rz⟩ := live_lst s2 hk hia2
  refine hf a v2 zs xs ys y _ S2 I2 ι2 H2 Q hz rz s2 r2 h3 fun v zs' rz' rv => ?_
  exact q _ _ I2 ι2 (l1.trans l2) (p1.trans p2) (s2.set_lst hk hia2 rz') rv
theorem me_append (h : PE X e (tBM X.K "list" rAppend (tM X.mg mo) (tA X.mg [m]))) : ME X e (mAppend mo m) := by
  refine me_onLst h ?_
  intro a y zs xs ys dy d S I ι H Q hz rz s ry hf q
  unfold fAppend at hf
  split at hf
  rotate_left
  · cases hf
  rename_i hc
  cases hf
  refine ⟨a, zs, y, rfl, rfl, hz, ?_, q _ _ (rz.append (.cons (ry.of_pure hc.1) .nil)) .non⟩
  rw [rz.length]
  have := hc.2
  have := sizeLine_eq
  unfold big at *; omega
def rExtendR : V → List V → Hp → VK → Prop := fun x vs H Q => ∃ l b xs zs, x = .ref l ∧ vs = [.ref b] ∧ H l = some (.lst xs) ∧ Rd H b (.lst zs) ∧ xs.length + zs.length ≤ sizeLine ∧ Q .non (upd H l (.lst (xs ++ zs)))
theorem mt_extendR : MtM X "list.extend" rExtendR := by
  rintro pins s σ H x vs v us Q I rx rv ⟨l, b, xs, zs, rfl, rfl, hH, hB, hz, q⟩
  cases rx
  obtain ⟨u, rfl, ru⟩ := rv.one
  cases ru
  obtain ⟨z, its, n, r, hl, e⟩ := I.lstM hH
  obtain ⟨z2, its2, n2, r2, e2⟩ := (hB.ok I.hok : ObjOk X.prog X.w H s.heap b (.lst zs))
  have hl2 := r2.length
  have hsz : its.toArray.size + its2.toArray.size ≤ sizeLine := by rw [List.size_toArray, List.size_toArray]; omega
  have hlong : ¬ (!its.toArray.isEmpty && Builtin.List.listTooLong (its.toArray.size + its2.toArray.size)) = true := by
    rw [notLongL hsz, Bool.and_false]
    exact Bool.false_ne_true
  refine call_meets PySem.F.slot_list_extend ⟨_, e, rfl⟩ PySem.F.entry_list_extend (PySem.F.args_list_extend_2 _ _)
    (AutoSeq1.list_extend_list_list_0 l its.toArray n b its2.toArray n2 hlong (by rw [List.size_toArray]; omega) (by omega)) ⟨e, e2, ?_⟩
  refine ⟨.non, _, I.lset (its' := its ++ its2) hH e (by simp) (r.append r2) ?_, rfl, q⟩
  rw [List.length_append]
  omega
theorem me_extend (h : PE X e (tBM X.K "list" rExtendR (tM X.mg mo) (tA X.mg [m]))) : ME X e (mExtend mo m) := by
  refine me_onLst h ?_
  intro a y zs xs ys dy d S I ι H Q hz rz s ry hf q
  unfold fExtend at hf
  split at hf
  rotate_left
  · cases hf
  rename_i es he
  split at hf
  rotate_left
  · cases hf
  rename_i hc
  cases hf
  obtain ⟨b, ws, rfl, hb, rw⟩ := seen_lst s ry he
  refine ⟨a, b, zs, ws, rfl, rfl, hz, hb, ?_, q _ _ (rz.append (rw.of_pure hc.1)) .non⟩
  rw [rz.length, rw.length]
  exact big_le hc.2
theorem Reps.erase {mg : Str → Option Value} {I : Hp} {ι : Io} : ∀ (n : Nat) {xs : List V} {ds : List D}, Reps mg I ι xs ds → Reps mg I ι (xs.eraseIdx n) (ds.eraseIdx n)
  | _, _, _, .nil => .nil
  | 0, _, _, .cons _ t => t
  | n + 1, _, _, .cons h t => .cons h (Reps.erase n t)
theorem me_pop (h : PE X e (tBM X.K "list" rPopAt (tM X.mg mo) (tA X.mg [m]))) : ME X e (mPop mo m) := by
  refine me_onLst h ?_
  intro a y zs xs ys dy d S I ι H Q hz rz s ry hf q
  unfold fPop at hf
  split at hf
  rotate_left
  · cases hf
  rename_i i
  split at hf
  rotate_left
  · cases hf
  rename_i hc
  obtain ⟨j, hj, hf⟩ := Option.bind_eq_some_iff.mp hf
  obtain ⟨w, hw, e⟩ := Option.map_eq_some_iff.mp hf
  cases e
  cases ry
  obtain ⟨v, hv, rv⟩ := rz.get hw
  have hlz := rz.length
  obtain ⟨g1, g2, g3, g4⟩ := L2.ixN_seq (place_ixN hj)
  unfold big at hc
  exact ⟨a, zs, i, j, v, rfl, rfl, hz, by omega, by omega, by rw [hlz]; exact g1, hv, q _ _ (rz.erase _) (rv.pre Le.refl List.nil_prefix)⟩
theorem me_clear (h : PE X e (tBM0 X.K "list" rClear (tM X.mg mo))) : ME X e (mClear mo) := by
  refine PE.imp h ?_
  rintro σ H Q ⟨ρ, S, I, ι, d, S', er, sr, hm, q⟩
  unfold mClear at hm
  obtain ⟨⟨x, S1⟩, h1, hm⟩ := Option.bind_eq_some_iff.mp hm
  simp only at hm
  split at hm
  rotate_left
  · cases hm
  rename_i k
  split at hm
  rotate_left
  · cases hm
  rename_i xs hk
  cases hm
  refine ⟨ρ, S, I, ι, _, S1, er, sr, h1, fun v1 H1 I1 ι1 l1 p1 s1 r1 => ?_⟩
  have hex : ∃ a, v1 = .ref a ∧ ι1.l[k]? = some a := by cases r1 with | rf ha => exact ⟨_, rfl, ha⟩
  obtain ⟨a, rfl, hia⟩ := hex
  obtain ⟨zs, hz, rz⟩ := live_lst s1 hk hia
  exact ⟨tyV_list hz, a, zs, rfl, rfl, hz, q _ _ I1 ι1 l1 p1 (s1.set_lst hk hia .nil) .non⟩
end
end Mi
set_option Elab.async false
set_option linter.all false
set_option maxRecDepth 100000
namespace Mi
open PySem L2
/-! ### isinstance -/
/-- which built-in class a value is of -/
def clsOf : D → Option String
  | .non => some "NoneType" | .bl _ => some "bool" | .int _ => some "int" | .str _ => some "str" | .tup _ => some "tuple" | .lst _ => some "list" | .dct _ => some "dict"
  | .obj _ _ => none | .rf _ => none
theorem ty_of {K : PySem.W.Frag} {mg : Str → Option Value} {I H : Hp} {ι : Io} {S : Store} {x : V} {dx : D} {T : String} (s : SR mg I ι S H) (r : Rep mg I ι x dx) (h : clsOf (top S dx) = some T) : TyOf K H x (.type T) := by
  cases e : top S dx with
  | non => rw [e] at h; cases h; obtain rfl := seen_non s r e; exact .non
  | bl b => rw [e] at h; cases h; obtain rfl := seen_bl s r e; exact .bl b
  | int b => rw [e] at h; cases h; obtain rfl := seen_int s r e; exact .int b
  | str b => rw [e] at h; cases h; obtain ⟨rfl, _⟩ := seen_str s r e; exact .str _
  | tup b => rw [e] at h; cases h; obtain ⟨a, xs, rfl, hH, _⟩ := seen_tup s r e; exact .tup hH
  | lst b => rw [e] at h; cases h; obtain ⟨a, xs, rfl, hH, _⟩ := seen_lst s r e; exact hH.elim .lst fun ⟨o, e⟩ => .frz e
  | dct b =>
    rw [e] at h; cases h
    rcases top_cases s r with ⟨z, _⟩ | ⟨k, _, z⟩ | ⟨k, d, a, _, hx, z, q⟩
    · rw [z] at e; subst e
      cases r with | dct0 hI => exact .dK (s.sub _ _ hI)
    · rw [z] at e; cases e
    · rw [z] at e; subst e
      subst hx
      cases q with | dct0 hH => exact .dK hH
  | obj c fs => rw [e] at h; cases h
  | rf k => rw [e] at h; cases h
def bTypes : List String := ["int", "bool", "str", "tuple", "list", "dict"]
/-- an own class, as the look at a class asks of it -/
structure InsK (K : PySem.W.Frag) (C : Addr) : Prop where
  cl : Cls K C
  ha : PySem.W.findIn K (.ref C) "__class__" = some (some (.builtin "object.__class__"))
  hn : PySem.W.specialIn K (.builtin "object.__class__") "__get__" = some (some (.builtin "getset_descriptor.__get__"))
  tk : PySem.W.takesIn K (.builtin "object.__class__") = some true
  ob : PySem.W.mroIn K C (.type "object") = some true
  me : PySem.W.kitOne K (.ref C) (.ref C) = some true
/-- an own class, as isinstance asks of it -/
structure IsOf (X : Cx) (c : String) (C : Addr) : Prop where
  at_ : ClsAt X.mg c C
  ins : InsK X.K C
  no : ∀ T ∈ bTypes, PySem.W.kitOne X.K (.ref C) (.type T) = some false
  ba : ∀ T ∈ "NoneType" :: bTypes, PySem.W.kitOne X.K (.type T) (.ref C) = some false
def IsOk (X : Cx) (cs : List String) : Prop := ∀ c ∈ cs, ∃ C, IsOf X c C
section
variable {X : Cx}
theorem IsOk.nil : IsOk X [] := fun c h => by cases h
theorem IsOk.cons {c : String} {cs : List String} {C : Addr} (h : IsOf X c C) (t : IsOk X cs) : IsOk X (c :: cs) := fun c' hc => by
  rcases List.mem_cons.mp hc with rfl | hc
  · exact ⟨C, h⟩
  · exact t c' hc
theorem tyIns {C a dx : Addr} {fs : List (Str × V)} {H : Hp} {c : String} (h : IsOf X c C) (e : H a = some (.ins C dx fs)) : TyOf X.K H (.ref a) (.ref C) := .ins e h.ins.cl h.ins.ha h.ins.hn h.ins.tk h.ins.ob
theorem kit_b : ∀ T ∈ bTypes, ∀ U ∈ "NoneType" :: bTypes, kitB U T = some (decide (U = T) || (decide (U = "bool") && decide (T = "int"))) := by decide +kernel
theorem isA_cls {T U : String} {x : D} (hT : T ∈ bTypes) (h : clsOf x = some U) : isA T x = (decide (U = T) || (decide (U = "bool") && decide (T = "int"))) := by
  simp only [bTypes, List.mem_cons, List.not_mem_nil, or_false] at hT
  cases x <;> cases h <;> rcases hT with rfl | rfl | rfl | rfl | rfl | rfl <;> rfl
theorem clsOf_mem {x : D} {U : String} (h : clsOf x = some U) : U ∈ "NoneType" :: bTypes := by
  cases x <;> cases h <;> decide
/-- the answer for one built-in class -/
theorem kit_one {cs : List String} (T : IsOk X cs) {t : String} (ht : t ∈ bTypes) {I H : Hp} {ι : Io} {S : Store} {x : V} {dx d : D} (s : SR X.mg I ι S H) (r : Rep X.mg I ι x dx) (h : oIsA cs [t] (top S dx) = some d) :
    ∃ u b, TyX X.K H x u ∧ PySem.W.kitOne X.K u (.type t) = some b ∧ d = .bl b := by
  cases e : clsOf (top S dx) with
  | some U =>
    have hk : PySem.W.kitOne X.K (.type U) (.type t) = some (isA t (top S dx)) := by
      rw [isA_cls ht e]
      exact kit_ty (kit_b t ht U (clsOf_mem e))
    refine ⟨.type U, isA t (top S dx), .base (ty_of s r e), hk, ?_⟩
    have hd : d = .bl (isA t (top S dx)) := by
      cases z : top S dx <;> rw [z] at h e <;> simp [oIsA] at h <;> first
        | exact h.symm
        | (subst h
           simp only [bTypes, List.mem_cons, List.not_mem_nil, or_false] at ht
           rcases ht with rfl | rfl | rfl | rfl | rfl | rfl <;> rfl)
        | cases e
    exact hd
  | none =>
    cases z : top S dx <;> rw [z] at h e <;> first
      | cases e
      | skip
    · rename_i c fs
      simp only [oIsA] at h
      split at h
      · rename_i hc
        cases h
        obtain ⟨C, T1⟩ := T c hc
        obtain ⟨a, C', dxx, fs', rfl, hH, hd, hc', rf⟩ := seen_obj s r z
        obtain rfl := cls_eq T1.at_ hc'
        exact ⟨.ref C', false, .base (tyIns T1 hH), T1.no t ht, rfl⟩
      · cases h
    · simp [oIsA] at h
theorem cB_isA1 {cs : List String} (T : IsOk X cs) {t : String} (ht : t ∈ bTypes) : CallR X (.builtin "isinstance") (fun vs H Q => ∃ v S I ι dx d, vs = [v, .ty t] ∧ SR X.mg I ι S H ∧ Rep X.mg I ι v dx ∧ oIsA cs [t] (top S dx) = some d ∧ After X.mg I ι S d Q) := by
  refine CallR.imp call_isi ?_
  rintro vs H Q ⟨v, S, I, ι, dx, d, rfl, s, r, h, q⟩
  obtain ⟨u, b, h1, h2, rfl⟩ := kit_one T ht s r h
  exact ⟨v, .ty t, u, .type t, b, rfl, .ty t, h1, h2, q.now s (.bl b)⟩
theorem cB_isC {c : String} {C : Addr} (T : IsOf X c C) : CallR X (.builtin "isinstance") (fun vs H Q => ∃ v S I ι dx d, vs = [v, .ref C] ∧ SR X.mg I ι S H ∧ Rep X.mg I ι v dx ∧ oIsC c (top S dx) = some d ∧ After X.mg I ι S d Q) := by
  refine CallR.imp call_isi ?_
  rintro vs H Q ⟨v, S, I, ι, dx, d, rfl, s, r, h, q⟩
  cases e : clsOf (top S dx) with
  | some U =>
    have hd : d = .bl false := by
      cases z : top S dx <;> rw [z] at h e <;> simp [oIsC] at h <;> first
        | exact h.symm
        | cases e
    subst hd
    exact ⟨v, .ref C, .type U, .ref C, false, rfl, .own C, .base (ty_of s r e), T.ba U (clsOf_mem e), q.now s (.bl _)⟩
  | none =>
    cases z : top S dx <;> rw [z] at h e <;> first
      | cases e
      | skip
    · rename_i c' fs
      simp only [oIsC] at h
      split at h
      · rename_i hc
        subst hc
        cases h
        obtain ⟨a, C', dxx, fs', rfl, hH, hd, hc', rf⟩ := seen_obj s r z
        obtain rfl := cls_eq T.at_ hc'
        exact ⟨.ref a, .ref C', .ref C', .ref C', true, rfl, .own C', .base (tyIns T hH), T.ins.me, q.now s (.bl _)⟩
      · cases h
    · simp [oIsC] at h
variable {e : Expr} {m : M} {p p2 pos : Pos} {x t0 : Str}
theorem me_isA {cs : List String} (T : IsOk X cs) {t : String} (ht : t ∈ bTypes) (he : ME X e m) (hg : Gl X "isinstance") (hm : X.mg "isinstance" = none) (hv : PE X (.Name t0 p2) (tC (.ty t)))
    (hs : starEach [e, .Name t0 p2] X.env = (false, eval e X.env) :: starEach [.Name t0 p2] X.env := by rfl) (hs2 : starEach [.Name t0 p2] X.env = (false, eval (.Name t0 p2) X.env) :: starEach [] X.env := by rfl) (hpl : (backTo pos (starEach [.Name t0 p2] X.env)).any (·.1) = false := by rfl) :
    ME X (.Call (.Name "isinstance" p) [e, .Name t0 p2] [] pos) (mIsA cs [t] m) := by
  refine PE.imp (pe_callB (cB_isA1 T ht) hg hm (by decide +kernel) (pa_cons he (pa_cons hv pa_nil hs2) hs) (by decide) (by decide) hs hpl) ?_
  rintro σ H Q ⟨ρ, S, I, ι, d, S', er, sr, hm, q⟩
  unfold mIsA mUn at hm
  obtain ⟨⟨y, S1⟩, h1, hm⟩ := Option.bind_eq_some_iff.mp hm
  obtain ⟨w, h2, hm⟩ := Option.bind_eq_some_iff.mp hm
  cases hm
  exact ⟨ρ, S, I, ι, y, _, er, sr, h1, fun v1 H1 I1 ι1 l1 p1 s1 r1 => ⟨v1, _, I1, ι1, y, d, rfl, s1, r1, h2, q.mono l1 p1⟩⟩
theorem me_isC {c : String} {C : Addr} (T : IsOf X c C) (he : ME X e m) (hg : Gl X "isinstance") (hm : X.mg "isinstance" = none) (hv : PE X (.Name t0 p2) (tC (.ref C)))
    (hs : starEach [e, .Name t0 p2] X.env = (false, eval e X.env) :: starEach [.Name t0 p2] X.env := by rfl) (hs2 : starEach [.Name t0 p2] X.env = (false, eval (.Name t0 p2) X.env) :: starEach [] X.env := by rfl) (hpl : (backTo pos (starEach [.Name t0 p2] X.env)).any (·.1) = false := by rfl) :
    ME X (.Call (.Name "isinstance" p) [e, .Name t0 p2] [] pos) (mIsC c m) := by
  refine PE.imp (pe_callB (cB_isC T) hg hm (by decide +kernel) (pa_cons he (pa_cons hv pa_nil hs2) hs) (by decide) (by decide) hs hpl) ?_
  rintro σ H Q ⟨ρ, S, I, ι, d, S', er, sr, hm, q⟩
  unfold mIsC mUn at hm
  obtain ⟨⟨y, S1⟩, h1, hm⟩ := Option.bind_eq_some_iff.mp hm
  obtain ⟨w, h2, hm⟩ := Option.bind_eq_some_iff.mp hm
  cases hm
  exact ⟨ρ, S, I, ι, y, _, er, sr, h1, fun v1 H1 I1 ι1 l1 p1 s1 r1 => ⟨v1, _, I1, ι1, y, d, rfl, s1, r1, h2, q.mono l1 p1⟩⟩
end
end Mi
set_option Elab.async false
set_option linter.all false
set_option maxRecDepth 100000
namespace Mi
open PySem L2
section
variable {X : Cx} {k : Nat}
theorem rT_of {f : Value → Value → Sem Value} {o : D → D → Option D} (h : OpR X f (rM X.mg o)) : OpR X f (rT X.mg fun x y S => (o (top S x) (top S y)).map fun d => (d, S)) := by
  refine OpR.imp h ?_
  rintro x y H Q ⟨S, I, ι, dx, dy, d, S', s, rx, ry, hm, q⟩
  obtain ⟨w, h1, e⟩ := Option.map_eq_some_iff.mp hm
  cases e
  exact ⟨S, I, ι, dx, dy, d, s, rx, ry, h1, q⟩
theorem oX_in {tb : Tb} (T : SpOk X "__contains__" k tb) (hr : Room (k + 1) X.A) (hg : X.A.guards = some []) : OpR X (compareOp .In) (rT X.mg (inX false tb)) := by
  refine OpR.imp (OpR.or (oT_in T hr hg) (rT_of (oM_in (by have := hr.un; omega)))) ?_
  rintro x y H Q ⟨S, I, ι, dx, dy, d, S', s, rx, ry, hm, q⟩
  unfold inX at hm
  split at hm
  · rw [if_neg (by decide)] at hm
    exact .inl ⟨S, I, ι, dx, dy, d, S', s, rx, ry, hm, q⟩
  · exact .inr ⟨S, I, ι, dx, dy, d, S', s, rx, ry, hm, q⟩
theorem oX_notIn {tb : Tb} (hr : Room (k + 1) X.A) : OpR X (compareOp .NotIn) (rT X.mg (inX true tb)) := by
  refine OpR.imp (rT_of (oM_notIn (by have := hr.un; omega))) ?_
  rintro x y H Q ⟨S, I, ι, dx, dy, d, S', s, rx, ry, hm, q⟩
  unfold inX at hm
  split at hm
  · rw [if_pos rfl] at hm; cases hm
  · exact ⟨S, I, ι, dx, dy, d, S', s, rx, ry, hm, q⟩
theorem cX_len {tb : Tb} (T : SpOk X "__len__" k tb) (hr : Room (k + 1) X.A) (hg : X.A.guards = some []) : CallR X (.builtin "len") (rO X.mg (lenX tb)) := by
  refine CallR.imp (CallR.or (cO_len T hr hg) (CallR.or call_len_seq call_len_str)) ?_
  rintro vs H Q ⟨S, I, ι, x, dx, d, S', rfl, s, rx, hm, q⟩
  unfold lenX at hm
  split at hm
  · exact .inl ⟨S, I, ι, x, dx, d, S', rfl, s, rx, hm, q⟩
  · obtain ⟨w, h1, e⟩ := Option.map_eq_some_iff.mp hm
    cases e
    exact .inr (len0 s rx h1 q)
end

/-! ### more that is walked -/
section
variable {X : Cx} {tg iter : Expr} {m : M} {pos p : Pos}
theorem walks_str {mg : Str → Option Value} {I : Hp} {ι : Io} {t : List Nat} (ht : ∀ n ∈ t, n < 0x110000) : Walks mg (Its (toS t)) I ι (t.map fun c => .str [c]) none := by
  intro i H I1 ι1 S l p s _
  refine ⟨fun d hd => ?_, fun hi => ?_⟩
  · rw [List.getElem?_map] at hd
    obtain ⟨c, hc, rfl⟩ := Option.map_eq_some_iff.mp hd
    have hlt := (List.getElem?_eq_some_iff.mp hc).1
    refine ⟨by show i < t.toArray.size; simpa using hlt, ?_⟩
    rintro x H' ⟨rfl, c', hc', rfl⟩
    have hc'' : t[i]? = some c' := by simpa [toS] using hc'
    rw [hc] at hc''; cases hc''
    exact ⟨I1, Le.refl, s, .str (s := [c]) fun n hn => by
      have : n = c := by simpa using hn
      subst this
      exact ht n (List.mem_of_getElem? hc)⟩
  · show t.toArray.size ≤ i
    simpa using hi
theorem mi_str (h : ME X iter m) : MIt X tg iter (Mi.iStr m) := by
  refine PI.imp (pi_str h) ?_
  rintro σ H R ⟨ρ, S, I, ι, xs, w, S', e, s, hm, q⟩
  unfold Mi.iStr at hm
  obtain ⟨⟨x, S1⟩, h1, hm⟩ := Option.bind_eq_some_iff.mp hm
  simp only at hm
  split at hm
  · cases hm
    refine ⟨ρ, S, I, ι, _, _, e, s, h1, fun v1 H1 I1 ι1 l1 p1 s1 r1 => ?_⟩
    cases r1 with
    | str hc => exact ⟨_, rfl, q _ _ _ _ l1 p1 s1 (walks_str hc)⟩
  · cases hm
/-- a list, a tuple or a text -/
theorem mi_any (h : ME X iter m) : MIt X tg iter (iAny m) := by
  refine PI.imp (PI.or (mi_seq h) (mi_str h)) ?_
  rintro σ H R ⟨ρ, S, I, ι, xs, w, S', e, s, hm, q⟩
  unfold iAny at hm
  split at hm
  · exact .inr ⟨ρ, S, I, ι, xs, w, S', e, s, hm, q⟩
  · exact .inl ⟨ρ, S, I, ι, xs, w, S', e, s, hm, q⟩
theorem pairs_get : ∀ {xs : List D} {n i : Nat} {d : D}, (pairs n xs)[i]? = some d → ∃ x, xs[i]? = some x ∧ d = .tup [.int ((n + i : Nat) : Int), x]
  | [], _, _, _, h => by simp [pairs] at h
  | x :: xs, n, 0, d, h => by
    simp [pairs] at h
    exact ⟨x, rfl, by rw [← h]; simp⟩
  | x :: xs, n, i + 1, d, h => by
    simp only [pairs, List.getElem?_cons_succ] at h
    obtain ⟨y, h1, h2⟩ := pairs_get h
    exact ⟨y, by simpa using h1, by rw [h2]; congr 4; omega⟩
theorem pairs_len : ∀ {xs : List D} {n : Nat}, (pairs n xs).length = xs.length
  | [], _ => rfl
  | x :: xs, n => by simp [pairs, pairs_len]
end
end Mi
set_option Elab.async false
set_option linter.all false
set_option maxRecDepth 100000
/-! Et: enumerate over a tuple. -/
namespace PySem
open AutoSeq1 (wpAny_loadPart')
section
variable {prog : Program} {w : World} {A : Around} {E : Value → Shared → Prop} {s : Shared}
theorem et_item {j tp : Addr} {k : Nat} {vs : Array Value} {y : Value} {R : Value → Shared → Prop} (hj : s.heap.IsTupleIter j tp k) (ht : s.heap.IsTuple tp vs) (hy : vs[k]? = some y)
    (hR : ∀ g, g.IsTupleIter j tp (k + 1) → Heap.SameBut j s.heap g → R y { s with heap := g }) : wpAny (model prog w) A (Builtin.SmallTypes.nextOf (.ref j)) R E s := by
  obtain ⟨oj, h1, h2, h3⟩ := id hj
  obtain ⟨ot, g1, _, m, g2⟩ := ht
  unfold Builtin.SmallTypes.nextOf
  refine wpAny_bind (wpAny_callSpecial?_slot (name := Str.ofString "__next__") hj.typeIs F.slot_tuple_iterator_next (wpAny_call_entry F.slot_tuple_iterator_next hj.typeIs F.entry_tuple_iterator_next ?_ (F.args_tuple_iterator_next_1 _)))
  show wpAny _ _ (field (.ref j) 0 >>= _) _ _ s
  refine wpAny_bind (wpAny_field h1 h3 (x := .ref tp) rfl ?_)
  show wpAny _ _ (if (Value.ref tp == Value.none) = true then _ else _) _ _ s
  rw [if_neg (show ¬ ((Value.ref tp == Value.none) = true) from Bool.false_ne_true)]
  show wpAny _ _ (field (.ref j) 1 >>= _) _ _ s
  refine wpAny_bind (wpAny_field h1 h3 (x := .int k 0) rfl ?_)
  show wpAny _ _ (seqItems? (.ref tp) >>= _) _ _ s
  refine wpAny_bind (wpAny_seqItems g1 g2 ?_)
  simp only [Int.toNat_natCast, hy]
  refine wpAny_bind (wpAny_setField h1 h3 (by simp) (wpAny_pure ⟨y, rfl, wpAny_pure (hR _ ?_ (Heap.SameBut.update ..))⟩))
  exact ⟨_, Heap.get?_update_self _ h1 (Obj.isFreed_of_fields (Obj.data_mapFields h3 _)), (Obj.cls_mapFields ..).trans h2, by rw [Obj.data_mapFields h3]; simp [rawInt]⟩
theorem et_done {j tp : Addr} {k : Nat} {vs : Array Value} {R : Value → Shared → Prop} (hh : A.handled = none) (hj : s.heap.IsTupleIter j tp k) (ht : s.heap.IsTuple tp vs) (hy : vs[k]? = none)
    (hE : ∀ g x, Heap.ExtBut j s.heap g → (∃ o, g.get? x = some o ∧ o.cls = .type "StopIteration") → E (.ref x) { s with heap := g }) : wpAny (model prog w) A (Builtin.SmallTypes.nextOf (.ref j)) R E s := by
  obtain ⟨oj, h1, h2, h3⟩ := id hj
  obtain ⟨ot, g1, _, m, g2⟩ := ht
  unfold Builtin.SmallTypes.nextOf
  refine wpAny_bind (wpAny_callSpecial?_slot (name := Str.ofString "__next__") hj.typeIs F.slot_tuple_iterator_next (wpAny_call_entry F.slot_tuple_iterator_next hj.typeIs F.entry_tuple_iterator_next ?_ (F.args_tuple_iterator_next_1 _)))
  show wpAny _ _ (field (.ref j) 0 >>= _) _ _ s
  refine wpAny_bind (wpAny_field h1 h3 (x := .ref tp) rfl ?_)
  show wpAny _ _ (if (Value.ref tp == Value.none) = true then _ else _) _ _ s
  rw [if_neg (show ¬ ((Value.ref tp == Value.none) = true) from Bool.false_ne_true)]
  show wpAny _ _ (field (.ref j) 1 >>= _) _ _ s
  refine wpAny_bind (wpAny_field h1 h3 (x := .int k 0) rfl ?_)
  show wpAny _ _ (seqItems? (.ref tp) >>= _) _ _ s
  refine wpAny_bind (wpAny_seqItems g1 g2 ?_)
  simp only [Int.toNat_natCast, hy]
  refine wpAny_bind (wpAny_rule (wpAny_bind (wpAny_setField h1 h3 (by simp) ?_)))
  show wpAny _ _ (newExc (.type "StopIteration") [] >>= _) _ _ _
  refine wpAny_bind ?_
  simp only [newExc, newTuple]
  refine wpAny_bind (wpAny_newObj_type ?_ (by size_fits))
  refine wpAny_bind (m := firstArgMember _ _) (wpAny_of_eq (a := Value.none) (by first | rfl | (simp only [firstArgMember]; rfl)) ?_)
  refine wpAny_newObj_type ?_ (by size_fits)
  simp only [raiseNew]
  refine wpAny_bind (wpAny_handled ?_)
  first | rw [show A.in1.handled = none from hh] | rw [hh]
  refine wpAny_bind (wpAny_pure (wpAny_throw ?_))
  exact hE _ _ (((Heap.SameBut.update ..).extBut.push _).push _) ⟨_, Heap.get?_push_size _ rfl, rfl⟩
end
theorem Draws.tup {prog : Program} {w : World} {A : Around} (hh : A.handled = none) (j tp : Addr) (hne : tp ≠ j) (vs : Array Value) :
    Draws prog w A j [j, tp] vs.size (fun i v => vs[i]? = some v) (fun i h => h.IsTupleIter j tp i ∧ h.IsTuple tp vs) where
  live := fun _ _ st => let ⟨o, ho, _⟩ := st.1; ⟨o, ho⟩
  frame := fun _ _ _ st hk => ⟨st.1.at fun o e => hk j (by simp) o e, by
    obtain ⟨o, e, r⟩ := st.2
    exact ⟨o, hk tp (by simp) o e, r⟩⟩
  item := fun i s Q E hi st hQ => by
    refine et_item st.1 st.2 (y := vs[i]) (by simp [hi]) fun g hg hs => ?_
    refine hQ _ g s.toks (by simp [hi]) ⟨hg, ?_⟩ hs
    obtain ⟨o, e, r⟩ := st.2
    exact ⟨o, (hs.2 tp hne).trans e, r⟩
  done := fun s Q E st hE => et_done hh st.1 st.2 (by simp) hE
set_option maxHeartbeats 1000000 in
theorem meets_enum_tup (tp : Addr) (vs : Array Value) (m : Nat) (dc : Option Addr) (sl : Array (Option Value)) :
    Meets (Builtin.«enumerate.__new__» ⟨[.type "enumerate", .ref tp], []⟩) (fun _ R s => s.heap.get? tp = some { cls := .type "tuple", dict := dc, data := .seq vs m, slots := sl } ∧
      R (.ok (.ret (.ref (s.heap.push { cls := .type "tuple_iterator", data := .fields #[.ref tp, .int 0 0] }).objs.size)))
        { s with heap := (s.heap.push { cls := .type "tuple_iterator", data := .fields #[.ref tp, .int 0 0] }).push { cls := .type "enumerate", data := .fields #[.none, .bool false, .ref s.heap.objs.size, rawInt 0, .none, .none] } }) :=
  .of_wp fun prog w A R s h => by
    obtain ⟨hp, g, d, tk, os⟩ := s
    obtain ⟨hl, h⟩ := h
    have hsub := sub_enumerate
    have hT : Heap.IsTuple (Shared.heap ⟨hp, g, d, tk, os⟩) tp vs := ⟨_, hl, rfl, m, rfl⟩
    wp_walk using wpAny_loadPart' hl
    refine wpAny_stack_any fun st => wpAny_pure ?_
    split
    · rename_i c _ _ _ _ _
      cases (c == Value.type "enumerate")
      · wp_walk using wpAny_loadPart' hl, wpAny_pyIter_tuple hT
        exact ⟨_, rfl, h⟩
      · wp_walk using wpAny_loadPart' hl, wpAny_pyIter_tuple hT
        exact ⟨_, rfl, h⟩
    · wp_walk using wpAny_loadPart' hl, wpAny_pyIter_tuple hT
      exact ⟨_, rfl, h⟩
theorem call_enum_tup {prog : Program} {w : World} {A : Around} {E : Value → Shared → Prop} {s : Shared} {tp : Addr} {vs : Array Value} {Q : Value → Shared → Prop} (hL : s.heap.IsTuple tp vs)
    (h : ∀ g, IsEnum g (s.heap.objs.size + 1) s.heap.objs.size 0 .none → g.IsTupleIter s.heap.objs.size tp 0 → g.objs.size = s.heap.objs.size + 2 → (∀ b o, s.heap.get? b = some o → g.get? b = some o) → Q (.ref (s.heap.objs.size + 1)) { s with heap := g }) :
    wpAny (model prog w) A (call (.type "enumerate") [.ref tp]) Q E s := by
  obtain ⟨⟨c, dc, dt, sl⟩, hl, hc, m, hd⟩ := hL
  replace hc : c = .type "tuple" := hc
  replace hd : dt = .seq vs m := hd
  subst hc hd
  refine callType_new F.called_enumerate (by decide) (F.typeCall_enumerate_1 _) (F.newCall_enumerate_1 _) (fun obj => F.args_object_init_2 obj _) F.entry_enumerate_new (meets_enum_tup tp vs m dc sl) ⟨hl, ?_⟩
  have hz : (s.heap.push { cls := .type "tuple_iterator", data := .fields #[.ref tp, .int 0 0] }).objs.size = s.heap.objs.size + 1 := Heap.size_push ..
  show _ ∧ _
  rw [hz]
  have he : IsEnum ((s.heap.push { cls := .type "tuple_iterator", data := .fields #[.ref tp, .int 0 0] }).push { cls := .type "enumerate", data := .fields #[.none, .bool false, .ref s.heap.objs.size, rawInt 0, .none, .none] }) (s.heap.objs.size + 1) s.heap.objs.size 0 .none := by
    have q := Heap.get?_push_size (s.heap.push { cls := .type "tuple_iterator", data := .fields #[.ref tp, .int 0 0] }) (o := { cls := .type "enumerate", data := .fields #[.none, .bool false, .ref s.heap.objs.size, rawInt 0, .none, .none] }) rfl
    rw [hz] at q; exact q
  refine ⟨⟨_, he, rfl⟩, h _ he ⟨_, Heap.get?_push_of_some _ (Heap.get?_push_size _ rfl), rfl, rfl⟩ (by rw [Heap.size_push, hz]) fun b o x => Heap.get?_push_of_some _ (Heap.get?_push_of_some _ x)⟩
end PySem
set_option Elab.async false
set_option linter.all false
set_option maxRecDepth 100000
namespace Mi
open PySem L2
open PyProof.Rows (Call_)
/-- the tuple at a, each item in a new pair -/
def Ent (a : Addr) (xs : List V) : It :=
  ⟨fun i H => H a = some (.tup xs) ∧ i < xs.length, fun i H v H' => ∃ T x, v = .ref T ∧ H T = none ∧ H' = upd H T (.tup [.int (i : Nat), x]) ∧ xs[i]? = some x, fun i H => H a = some (.tup xs) ∧ xs.length ≤ i⟩
theorem turn_ent {P : Program} {w : World} {K : PySem.W.Frag} {elts : List Expr} {kk : Nat} {tpos : Pos} (a e it : Addr) (xs : List V) (hae : a ≠ e) (hai : a ≠ it) :
    Turn P w K (.Tuple elts kk tpos) (Ent a xs) [e, it] e (fun i h => (∃ old, IsEnum h e it ((i : Nat) : Int) old) ∧ h.IsTupleIter it a i ∧ e ≠ it) where
  mem := by simp
  obj := fun i h st b hb => by
    obtain ⟨⟨old, he⟩, ⟨o, ho, hc, hd⟩, _⟩ := st
    rcases (by simpa using hb : b = e ∨ b = it) with z | z
    · subst z; exact ⟨_, he, fun v q => nomatch q⟩
    · subst z; exact ⟨o, ho, fun v q => by rw [hd] at q; cases q⟩
  keep := fun i h h' st k => let ⟨⟨old, he⟩, hi, hne⟩ := st; ⟨⟨old, k e (by simp) _ he⟩, hi.at fun o q => k it (by simp) o q, hne⟩
  item := by
    intro X hP hw hK hc i pins s σ H E I hf st hg
    subst hP hw hK
    obtain ⟨⟨old, he⟩, hit, hne⟩ := st
    obtain ⟨hq, hlt⟩ := hg
    obtain ⟨x, hx⟩ : ∃ x, xs[i]? = some x := ⟨xs[i], List.getElem?_eq_getElem hlt⟩
    obtain ⟨hz, its, rv, p⟩ := I.hok a _ hq
    obtain ⟨u, hu, ru⟩ := rv.get hx
    have hel : e < s.heap.objs.size := Heap.lt_size he
    have hil : it < s.heap.objs.size := by obtain ⟨_, q, _⟩ := hit; exact Heap.lt_size q
    have D := Draws.tup (prog := X.prog) (w := X.w) (A := X.A.in1) (I.ok.hd hc) it a hai its.toArray
    refine wpAny_pyNext_enum_itemD D he ⟨hit, p⟩ (by have := rv.length; simp; omega) hne (by simp [hne, Ne.symm hae]) fun y h' tk hy ho hst hT hsz hk => ?_
    have hyu : y = u := by
      have : its[i]? = some y := by simpa using hy
      rw [hu] at this; cases this; rfl
    subst hyu
    refine ⟨_, rfl, wpAny_letOwnedTupleGo_enum (s := { s with heap := h', toks := tk + 1 }) ho fun h'' he' sb => ?_⟩
    have hT2 : h''.get? s.heap.objs.size = some { cls := .type "tuple", data := .seq #[.int i tk, y] } := (sb.2 _ (Nat.ne_of_gt hel)).trans hT
    have fresh : ObjOk X.prog X.w (upd H s.heap.objs.size (.tup [.int (i : Nat), x])) h'' s.heap.objs.size (.tup [.int (i : Nat), x]) :=
      ⟨by show 2 ≤ sizeLine; decide, [.int i tk, y], .cons ⟨_, rfl⟩ (.cons ru .nil), ⟨_, hT2, rfl, _, rfl⟩⟩
    have I1 : Inv X pins σ (upd H s.heap.objs.size (.tup [.int (i : Nat), x])) { s with heap := h'', toks := tk + 1 } :=
      I.turnedNew (ch := [e, it]) (fun b ob hb q => (sb.2 b (fun z => hb (by simp [z]))).trans (hk b ob (fun z => hb (by simp [z])) (fun z => hb (by simp [z])) q)) hf (Nat.le_refl _) fresh
    refine ⟨.ref s.heap.objs.size, _, I1, rfl, ⟨_, x, rfl, I.hok.fresh (Nat.le_refl _), rfl, hx⟩, ⟨⟨y, ?_⟩, hst.1.at fun o q => (sb.2 it (Ne.symm hne)).trans q, hne⟩, fun b hb => ?_⟩
    · have e1 : ((i + 1 : Nat) : Int) = (i : Int) + 1 := by omega
      rw [e1]; exact he'
    · have hb' : b < s.heap.objs.size := by
        rcases (by simpa using hb : b = e ∨ b = it) with z | z
        · subst z; exact hel
        · subst z; exact hil
      rw [upd_ne (Nat.ne_of_lt hb')]
      exact (hf b hb).1
  done := by
    intro X hP hw hK hc i pins s σ H E I hf st hg
    subst hP hw hK
    obtain ⟨⟨old, he⟩, hit, hne⟩ := st
    obtain ⟨hq, hle⟩ := hg
    obtain ⟨hz, its, rv, p⟩ := I.hok a _ hq
    obtain ⟨f0, f1, f2, f3, f4, f5⟩ := hf it (by simp)
    have hl := rv.length
    unfold pyNext
    have hT : s.TypeIs (.ref e) "enumerate" := ⟨_, he, rfl⟩
    refine wpAny_bind (wpAny_attempt (wpAny_callSpecial?_slot (name := Str.ofString "__next__") hT F.slot_enumerate_next (wpAny_call_entry F.slot_enumerate_next hT F.entry_enumerate_next ?_ (F.args_enumerate_next_1 _))))
    show wpAny _ _ (field (.ref e) 2 >>= _) _ _ _
    refine wpAny_bind (wpAny_field he rfl (x := .ref it) rfl ?_)
    refine wpAny_bind (et_done (A := X.A.in1) (I.ok.hd hc) hit p (by simp; omega) fun h' x eb hx => ?_)
    obtain ⟨o, ho, hcl⟩ := hx
    refine wpAny_bind (wpAny_isInstance (T := "StopIteration") (b := true) ⟨o, ho, hcl⟩ isSubtype_stop ?_)
    exact wpAny_pure ⟨rfl, I.turned (t' := s.toks) (fun b o hb q => eb b o hb q) f0 f1 f3 f4 f5⟩
  self := fun A i s Q E st h => let ⟨⟨_, he⟩, _⟩ := st; wpAny_pyIter_enum he h
section
variable {X : Cx} {e : Expr} {m : M} {p pos tpos : Pos} {elts : List Expr} {kk : Nat}
def iEnt (ta : TA) : TI := fun σ H R => ta σ H fun vs H1 => ∃ a xs, vs = [.ref a] ∧ H1 a = some (.tup xs) ∧ R (Ent a xs) H1
theorem pi_ent {ta : TA} (hg : Gl X "enumerate") (hm : X.mg "enumerate" = none) (ha : PA X [e] ta) (hs : starEach [e] X.env = [(false, eval e X.env)] := by rfl) :
    PI X (.Tuple elts kk tpos) (.Call (.Name "enumerate" p) [e] [] pos) (iEnt ta) := by
  constructor
  intro pins s σ H R I h
  refine Call_ (ld_blt I hg hm PyProof.Rows.boot_enumerate (PyProof.Rows.callWith_type1 (thn (ha.run pos pins s σ H _ I h) ?_) hs rfl))
  rintro us s1 ⟨vs, H1, I1, r1, a, xs, rfl, hq, q⟩
  cases r1 with
  | cons r rr =>
    cases rr
    cases r
    obtain ⟨hz, its, rv, p'⟩ := I1.hok a _ hq
    have hal : a < s1.heap.objs.size := p'.lt
    refine call_enum_tup p' fun h' he hit hsz hk => wpAny_pyIter_enum he ?_
    have I2 : Inv X pins σ H1 { s1 with heap := h' } := I1.kept (t' := s1.toks) hk
    refine ⟨s1.heap.objs.size + 1, [s1.heap.objs.size + 1, s1.heap.objs.size], _, _, H1, rfl, I2, turn_ent a (s1.heap.objs.size + 1) s1.heap.objs.size xs (Nat.ne_of_lt (Nat.lt_succ_of_lt hal)) (Nat.ne_of_lt hal), ⟨⟨.none, he⟩, hit, Nat.succ_ne_self _⟩, fun b hb => ?_, q⟩
    have hle : s1.heap.objs.size ≤ b := by
      rcases (by simpa using hb : b = s1.heap.objs.size + 1 ∨ b = s1.heap.objs.size) with z | z
      · exact z ▸ Nat.le_succ _
      · exact Nat.le_of_eq z.symm
    exact I1.fpOk hle (I1.hok.fresh hle)
theorem walks_ent {mg : Str → Option Value} {I : Hp} {ι : Io} {a : Addr} {vs : List V} {xs : List D} (h : I a = some (.tup vs)) (r : Reps mg I ι vs xs) : Walks mg (Ent a vs) I ι (pairs 0 xs) none := by
  intro i H I1 ι1 S l p s _
  have hH : H a = some (.tup vs) := s.sub _ _ (l _ _ h)
  refine ⟨fun d hd => ?_, fun hi => ⟨hH, by rw [r.length, ← pairs_len (n := 0)]; exact hi⟩⟩
  obtain ⟨x, hx, rfl⟩ := pairs_get hd
  obtain ⟨v, hv, rv⟩ := r.get hx
  refine ⟨⟨hH, (List.getElem?_eq_some_iff.mp hv).1⟩, ?_⟩
  rintro y H' ⟨T, z, rfl, hT, rfl, hz⟩
  rw [hv] at hz; cases hz
  obtain ⟨s', l'⟩ := s.laid (o := .tup [.int (i : Nat), v]) hT
  refine ⟨_, l', s', .tup upd_same ?_⟩
  rw [Nat.zero_add]
  exact .cons (.int _) (.cons (rv.pre (l.trans l') p) .nil)
theorem walks_enl {mg : Str → Option Value} {K : PySem.W.Frag} {I : Hp} {ι : Io} {a : Addr} {vs : List V} {xs : List D} (h : Rd I a (.lst vs)) (r : Reps mg I ι vs xs) : Walks mg (Ite K a) I ι (pairs 0 xs) none := by
  intro i H I1 ι1 S l p s _
  have hH : Rd H a (.lst vs) := rd_le s.sub (rd_le l h)
  refine ⟨fun d hd => ?_, fun hi => ⟨vs, .inl hH, by rw [r.length, ← pairs_len (n := 0)]; exact hi⟩⟩
  obtain ⟨x, hx, rfl⟩ := pairs_get hd
  obtain ⟨v, hv, rv⟩ := r.get hx
  refine ⟨⟨vs, v, .inl hH, hv⟩, ?_⟩
  rintro y H' ⟨T, z, rfl, hT, rfl, hz⟩
  have hz' := hz vs (.inl hH)
  rw [hv] at hz'; cases hz'
  obtain ⟨s', l'⟩ := s.laid (o := .tup [.int (i : Nat), v]) hT
  refine ⟨_, l', s', .tup upd_same ?_⟩
  rw [Nat.zero_add]
  exact .cons (.int _) (.cons (rv.pre (l.trans l') p) .nil)
theorem mi_enum (hg : Gl X "enumerate") (hm : X.mg "enumerate" = none) (ha : ME X e m) (he : starEach [e] X.env = (false, eval e X.env) :: starEach [] X.env := by rfl) : MIt X (.Tuple elts kk tpos) (.Call (.Name "enumerate" p) [e] [] pos) (Mi.iEnum m) := by
  refine PI.imp (PI.or (pi_enum hg hm (pa_cons ha pa_nil he) he) (pi_ent hg hm (pa_cons ha pa_nil he) he)) ?_
  rintro σ H R ⟨ρ, S, I, ι, xs, w, S', er, s, hm, q⟩
  unfold Mi.iEnum at hm
  obtain ⟨⟨x, S1⟩, h1, hm⟩ := Option.bind_eq_some_iff.mp hm
  simp only at hm
  split at hm
  · cases hm
    refine .inl ⟨ρ, S, I, ι, _, _, er, s, h1, fun v1 H1 I1 ι1 l1 p1 s1 r1 => ?_⟩
    cases r1 with
    | lstR hI rs => exact ⟨_, _, rfl, .inl (rd_le s1.sub hI), q _ _ _ _ l1 p1 s1 (walks_enl hI rs)⟩
  · cases hm
    refine .inr ⟨ρ, S, I, ι, _, _, er, s, h1, fun v1 H1 I1 ι1 l1 p1 s1 r1 => ?_⟩
    cases r1 with
    | tup hI rs => exact ⟨_, _, rfl, s1.sub _ _ hI, q _ _ _ _ l1 p1 s1 (walks_ent hI rs)⟩
  · cases hm
end
end Mi
set_option Elab.async false
set_option linter.all false
set_option maxRecDepth 100000
namespace Mi
open PySem L2
section
variable {X : Cx} {e elt tg iter : Expr} {es ifs : List Expr} {m a b c : M} {ms : List M} {p pos tpos spos px py pz pt pt2 : Pos} {kk k2 : Nat} {it : MI} {g : MG} {us : List Nat} {tt : M}
/-! ### -e, {} -/
theorem me_neg (he : ME X e m) : ME X (.UnaryOp .USub e pos) (mUn oNeg m) := by
  refine PE.imp (pe_un un_neg he) ?_
  rintro σ H Q ⟨ρ, S, I, ι, d, S', er, sr, hm, q⟩
  unfold mUn at hm
  obtain ⟨⟨y, S1⟩, h1, hm⟩ := Option.bind_eq_some_iff.mp hm
  obtain ⟨w, h2, hm⟩ := Option.bind_eq_some_iff.mp hm
  cases hm
  refine ⟨ρ, S, I, ι, y, _, er, sr, h1, fun v1 H1 I1 ι1 l1 p1 s1 r1 => ?_⟩
  cases e : top S' y <;> rw [e] at h2 <;> first
    | cases h2; done
    | skip
  obtain rfl := seen_int s1 r1 e
  cases h2
  exact ⟨_, rfl, (q.mono l1 p1).now s1 (.int _)⟩
theorem me_dct0 : ME X (.Dict [] [] pos) (mK (.dct [])) := by
  refine PE.imp pe_dnewK ?_
  rintro σ H Q ⟨ρ, S, I, ι, d, S', er, sr, hm, q⟩ p hp
  cases hm
  obtain ⟨s', l'⟩ := sr.laid (o := .dK []) hp
  exact q _ _ _ ι l' Pre.refl s' (.dct0 upd_same)

/-! ### isinstance with some classes -/
def tTys (ts : List String) : TA := fun _ H Q => Q (ts.map .ty) H
theorem pa_tys0 : PA X [] (tTys []) := PA.imp pa_nil fun _ _ _ h => h
theorem pa_tys {t : String} {ts : List String} (hv : PE X e (tC (.ty t))) (h : PA X es (tTys ts)) (hs : starEach (e :: es) X.env = (false, eval e X.env) :: starEach es X.env := by rfl) : PA X (e :: es) (tTys (t :: ts)) :=
  PA.imp (pa_cons hv h hs) fun _ _ _ h => h
theorem isA_no {t : String} (ht : t ∈ bTypes) : isA t .non = false ∧ ∀ c fs, isA t (.obj c fs) = false := by
  simp only [bTypes, List.mem_cons, List.not_mem_nil, or_false] at ht
  rcases ht with rfl | rfl | rfl | rfl | rfl | rfl <;> exact ⟨rfl, fun _ _ => rfl⟩
theorem kit_many {cs : List String} (T : IsOk X cs) {I H : Hp} {ι : Io} {S : Store} {x : V} {dx d : D} {ts : List String} (s : SR X.mg I ι S H) (r : Rep X.mg I ι x dx) (h : oIsA cs ts (top S dx) = some d) :
    ∃ u, TyX X.K H x u ∧ ∀ t ∈ bTypes, PySem.W.kitOne X.K u (.type t) = some (isA t (top S dx)) := by
  cases e : clsOf (top S dx) with
  | some U => exact ⟨.type U, .base (ty_of s r e), fun t ht => by rw [isA_cls ht e]; exact kit_ty (kit_b t ht U (clsOf_mem e))⟩
  | none =>
    cases z : top S dx <;> rw [z] at h e <;> first
      | cases e
      | skip
    · rename_i c fs
      simp only [oIsA] at h
      split at h
      · rename_i hc
        obtain ⟨C, T1⟩ := T c hc
        obtain ⟨a, C', dxx, fs', rfl, hH, hd, hc', rf⟩ := seen_obj s r z
        obtain rfl := cls_eq T1.at_ hc'
        exact ⟨.ref C', .base (tyIns T1 hH), fun t ht => by rw [(isA_no ht).2]; exact T1.no t ht⟩
      · cases h
    · simp [oIsA] at h
theorem kit_anys {K : PySem.W.Frag} {u : Value} {x : D} : ∀ {ts : List String}, (∀ t ∈ ts, PySem.W.kitOne K u (.type t) = some (isA t x)) → PySem.W.kitAny K u (ts.map .type) = some (ts.any fun t => isA t x)
  | [], _ => rfl
  | t :: ts, h => by
    refine kitAny_cons (h t List.mem_cons_self) (fun e => ?_) fun e => ?_
    · rw [List.any_cons, e, Bool.false_or]
      exact kit_anys fun t ht => h t (List.mem_cons_of_mem _ ht)
    · rw [List.any_cons, e, Bool.true_or]
theorem oIsA_any {cs ts : List String} {x d : D} (ht : ∀ t ∈ ts, t ∈ bTypes) (h : oIsA cs ts x = some d) : d = .bl (ts.any fun t => isA t x) := by
  have no : (∀ t ∈ ts, isA t x = false) → (ts.any fun t => isA t x) = false := fun h => by
    rw [List.any_eq_false]; intro t hq; rw [h t hq]; decide
  cases x with
  | non => simp [oIsA] at h; rw [← h, no fun t hq => (isA_no (ht t hq)).1]
  | obj c fs =>
    simp only [oIsA] at h
    split at h
    · cases h; rw [no fun t hq => (isA_no (ht t hq)).2 c fs]
    · cases h
  | rf k => simp [oIsA] at h
  | bl b => simp [oIsA] at h; exact h.symm
  | int b => simp [oIsA] at h; exact h.symm
  | str b => simp [oIsA] at h; exact h.symm
  | tup b => simp [oIsA] at h; exact h.symm
  | lst b => simp [oIsA] at h; exact h.symm
  | dct b => simp [oIsA] at h; exact h.symm
theorem pair_tys : ∀ (ts : List String), Paired ClsV (ts.map .ty) (ts.map .type)
  | [] => .nil
  | t :: ts => .cons (.ty t) (pair_tys ts)
theorem me_isAs {cs : List String} (T : IsOk X cs) {ts : List String} (ht : ∀ t ∈ ts, t ∈ bTypes) (hz : ts.length ≤ 1000) (he : ME X e m) (hg : Gl X "isinstance") (hm : X.mg "isinstance" = none) (hv : PA X es (tTys ts))
    (hs : starEach [e, .Tuple es kk tpos] X.env = (false, eval e X.env) :: starEach [.Tuple es kk tpos] X.env := by rfl) (hs2 : starEach [.Tuple es kk tpos] X.env = (false, eval (.Tuple es kk tpos) X.env) :: starEach [] X.env := by rfl) (hpl : (backTo pos (starEach [.Tuple es kk tpos] X.env)).any (·.1) = false := by rfl) :
    ME X (.Call (.Name "isinstance" p) [e, .Tuple es kk tpos] [] pos) (mIsA cs ts m) := by
  refine PE.imp (pe_callB call_isiT hg hm (by decide +kernel) (pa_cons he (pa_cons (pe_tup hv) pa_nil hs2) hs) (by decide) (by decide) hs hpl) ?_
  rintro σ H Q ⟨ρ, S, I, ι, d, S', er, sr, hm, q⟩
  unfold mIsA mUn at hm
  obtain ⟨⟨y, S1⟩, h1, hm⟩ := Option.bind_eq_some_iff.mp hm
  obtain ⟨w, h2, hm⟩ := Option.bind_eq_some_iff.mp hm
  cases hm
  refine ⟨ρ, S, I, ι, y, _, er, sr, h1, fun v1 H1 I1 ι1 l1 p1 s1 r1 => ⟨?_, fun tp hp => ?_⟩⟩
  · rw [List.length_map]; have := sizeLine_eq; omega
  · obtain ⟨s', l'⟩ := s1.laid (o := .tup (ts.map .ty)) hp
    obtain ⟨u, hu, hk⟩ := kit_many T s' (r1.mono l' Pre.refl) h2
    obtain rfl := oIsA_any ht h2
    exact ⟨v1, tp, _, u, _, _, rfl, upd_same, pair_tys ts, hu, kit_anys fun t h => hk t (ht t h), q _ _ _ ι1 (l1.trans l') p1 s' (.bl _)⟩

/-! ### a, b = x, y -/
theorem evalL2 {ρ : Rho} {S S2 : Store} {ds : List D} (h : evalL [a, b] ρ S = some (ds, S2)) : ∃ x y, ds = [x, y] := by
  have := evalL_length h
  match ds, this with
  | [x, y], _ => exact ⟨x, y, rfl⟩
theorem evalL3 {ρ : Rho} {S S2 : Store} {ds : List D} (h : evalL [a, b, c] ρ S = some (ds, S2)) : ∃ x y z, ds = [x, y, z] := by
  have := evalL_length h
  match ds, this with
  | [x, y, z], _ => exact ⟨x, y, z, rfl⟩
theorem ms_par2 {i j : Nat} {x y : Str} {e1 e2 : Expr} (hc : X.calm = true) (hN : X.N.Nodup) (hi : X.N[i]? = some x) (hj : X.N[j]? = some y) (hij : i ≠ j)
    (hx : X.env.scope.names.lookup x = some .local) (hy : X.env.scope.names.lookup y = some .local) (ha : MA X [e1, e2] [a, b])
    (hw : swappedStores [.Tuple [.Name x px, .Name y py] kk pt] (.Tuple [e1, e2] k2 pt2) X.env = pure (some [x, y]))
    (hs : swapsWithSole [.Tuple [.Name x px, .Name y py] kk pt] (.Tuple [e1, e2] k2 pt2) pos.line X.env = pure false := by rfl) :
    MSt X (.Assign [.Tuple [.Name x px, .Name y py] kk pt] (.Tuple [e1, e2] k2 pt2) pos) (sSet (gTup [gName i, gName j]) (mTup [a, b])) := by
  constructor
  rintro pins s σ H D I ⟨ρ, S, J, ι, r, er, sr, hm, q⟩
  refine (ps_par hc hN hi hj hij hx hy ha hw hs).run pins s σ H D I ?_
  unfold sSet mTup at hm
  obtain ⟨⟨d, S2⟩, h1, hm⟩ := Option.bind_eq_some_iff.mp hm
  obtain ⟨⟨ds, S1⟩, h0, h1⟩ := Option.bind_eq_some_iff.mp h1
  cases h1
  obtain ⟨u, v, rfl⟩ := evalL2 h0
  cases hm
  refine ⟨ρ, S, J, ι, _, _, er, sr, h0, fun vs H1 I1 ι1 l1 p1 s1 r1 => ?_⟩
  cases r1 with
  | cons ru t =>
    cases t with
    | cons rv t =>
      cases t
      refine ⟨_, _, rfl, q _ H1 I1 ι1 l1 p1 s1 (((er.mono l1 p1).set ru ?_).set rv ?_)⟩
      · rw [I.len]; exact (List.getElem?_eq_some_iff.mp hi).1
      · rw [List.length_set, I.len]; exact (List.getElem?_eq_some_iff.mp hj).1
theorem ms_par3 {i j l : Nat} {x y z : Str} {e1 e2 e3 : Expr} (hc : X.calm = true) (hN : X.N.Nodup) (hi : X.N[i]? = some x) (hj : X.N[j]? = some y) (hl : X.N[l]? = some z) (hij : i ≠ j) (hil : i ≠ l) (hjl : j ≠ l)
    (hx : X.env.scope.names.lookup x = some .local) (hy : X.env.scope.names.lookup y = some .local) (hz : X.env.scope.names.lookup z = some .local) (ha : MA X [e1, e2, e3] [a, b, c])
    (hw : swappedStores [.Tuple [.Name x px, .Name y py, .Name z pz] kk pt] (.Tuple [e1, e2, e3] k2 pt2) X.env = pure (some [x, y, z]))
    (hs : swapsWithSole [.Tuple [.Name x px, .Name y py, .Name z pz] kk pt] (.Tuple [e1, e2, e3] k2 pt2) pos.line X.env = pure false := by rfl) :
    MSt X (.Assign [.Tuple [.Name x px, .Name y py, .Name z pz] kk pt] (.Tuple [e1, e2, e3] k2 pt2) pos) (sSet (gTup [gName i, gName j, gName l]) (mTup [a, b, c])) := by
  constructor
  rintro pins s σ H D I ⟨ρ, S, J, ι, r, er, sr, hm, q⟩
  refine (ps_par3 hc hN hi hj hl hij hil hjl hx hy hz ha hw hs).run pins s σ H D I ?_
  unfold sSet mTup at hm
  obtain ⟨⟨d, S2⟩, h1, hm⟩ := Option.bind_eq_some_iff.mp hm
  obtain ⟨⟨ds, S1⟩, h0, h1⟩ := Option.bind_eq_some_iff.mp h1
  cases h1
  obtain ⟨u, v, w, rfl⟩ := evalL3 h0
  cases hm
  refine ⟨ρ, S, J, ι, _, _, er, sr, h0, fun vs H1 I1 ι1 l1 p1 s1 r1 => ?_⟩
  cases r1 with
  | cons ru t =>
    cases t with
    | cons rv t =>
      cases t with
      | cons rw' t =>
        cases t
        refine ⟨_, _, _, rfl, q _ H1 I1 ι1 l1 p1 s1 ((((er.mono l1 p1).set ru ?_).set rv ?_).set rw' ?_)⟩
        · rw [I.len]; exact (List.getElem?_eq_some_iff.mp hi).1
        · rw [List.length_set, I.len]; exact (List.getElem?_eq_some_iff.mp hj).1
        · rw [List.length_set, List.length_set, I.len]; exact (List.getElem?_eq_some_iff.mp hl).1

/-! ### name = [..] -/
theorem tS_name {i : Nat} {pins : List (Addr × Obj)} {s : Shared} {σ : L2.St} {H : Hp} {DD : Ends} (I : Inv X pins σ H s) (hi : i < X.N.length) (h : tS X.mg (sSet (gName i) m) DD σ H) : tM X.mg m σ H (fun x H1 => L2.gName i x σ H1 DD.nx) := by
  obtain ⟨ρ, S, J, ι, r, er, sr, hm, q⟩ := h
  unfold sSet at hm
  obtain ⟨⟨d, S2⟩, h1, hm⟩ := Option.bind_eq_some_iff.mp hm
  cases hm
  exact ⟨ρ, S, J, ι, _, _, er, sr, h1, fun v1 H1 I1 ι1 l1 p1 s1 r1 => q _ H1 I1 ι1 l1 p1 s1 ((er.mono l1 p1).set r1 (by rw [I.len]; exact hi))⟩
variable {scope : Scope} {own : List (Str × Nat)}
theorem ms_setC {i : Nat} {y : Str} (hc : X.calm = true) (hN : X.N.Nodup) (hy : X.N[i]? = some y) (hyl : X.env.scope.names.lookup y = some .local) (hsw : swapsWith (.ListComp elt [⟨tg, iter, ifs, 0⟩] scope pos) (some (.Name y py)) spos.line X.env = pure true)
    (hi : MIt X tg iter it) (ok : BlkOk X.N X.env.scope scope own) (hk : ∀ j ∈ us, j ∈ own.map (·.2))
    (hg : ∀ (s : Shared) (H : Hp) (C : Addr) (cl : List (Str × Addr)) (fp : List Addr), MGt (X.blk s H scope (compEnvC scope cl C X.env) fp) tg us g) (ht : ∀ (s : Shared) (H : Hp) (C : Addr) (cl : List (Str × Addr)) (fp : List Addr), PTs (X.blk s H scope (compEnvC scope cl C X.env) fp) ifs (tT X.mg tt))
    (he : ∀ (s : Shared) (H : Hp) (C : Addr) (cl : List (Str × Addr)) (fp : List Addr), ME (X.blk s H scope (compEnvC scope cl C X.env) fp) elt m) (hs : ∀ x, foldedSetIterable iter X.env x = pure x := by intro _; rfl) :
    MSt X (.Assign [.Name y py] (.ListComp elt [⟨tg, iter, ifs, 0⟩] scope pos) spos) (sSet (gName i) (mComp it g tt m (own.map (·.2)))) :=
  ⟨fun pins s σ H D I h => (ps_setLc hc hN hy hyl hsw hi ok hg ht he hs).run pins s σ H D I (tM_comp hk (tS_name I (List.getElem?_eq_some_iff.mp hy).1 h))⟩
theorem ms_setCM {i : Nat} {y : Str} (hc : X.calm = true) (hN : X.N.Nodup) (hy : X.N[i]? = some y) (hyl : X.env.scope.names.lookup y = some .local) (hsw : swapsWith (.ListComp elt [⟨tg, iter, ifs, 0⟩] scope pos) (some (.Name y py)) spos.line X.env = pure true)
    (hi : MIt X tg iter it) (ok : BlkOk X.N X.env.scope scope own) (hk : ∀ j ∈ us, j ∈ own.map (·.2))
    (hg : ∀ (s : Shared) (H : Hp) (C : Addr) (cl : List (Str × Addr)) (fp : List Addr), MGt (X.blk s H scope (compEnvC scope cl C X.env) fp) tg us g) (ht : ∀ (s : Shared) (H : Hp) (C : Addr) (cl : List (Str × Addr)) (fp : List Addr), PTs (X.blk s H scope (compEnvC scope cl C X.env) fp) ifs (tT X.mg tt))
    (he : ∀ (s : Shared) (H : Hp) (C : Addr) (cl : List (Str × Addr)) (fp : List Addr), ME (X.blk s H scope (compEnvC scope cl C X.env) fp) elt m) (hs : ∀ x, foldedSetIterable iter X.env x = pure x := by intro _; rfl) :
    MSt X (.Assign [.Name y py] (.ListComp elt [⟨tg, iter, ifs, 0⟩] scope pos) spos) (sSet (gName i) (mCompM it g tt m (own.map (·.2)))) :=
  ⟨fun pins s σ H D I h => (ps_setLc hc hN hy hyl hsw hi ok hg ht he hs).run pins s σ H D I (tM_compM hk (tS_name I (List.getElem?_eq_some_iff.mp hy).1 h))⟩
end
end Mi
set_option Elab.async false
set_option linter.all false
set_option maxRecDepth 100000
/-! == and != by an own __eq__ -/
namespace PySem.W
open PySem PyProof.Rows
section
variable {prog : Program} {w : World} {A : Around} {E : Value → Shared → Prop} {s : Shared} {K : Frag} {x C f : Addr} {ox : Obj} {od : Option Obj} {b tb : Value} {h₀ : Heap} {L : Addr} {m : Str → Option Value}
theorem objNe_own {Q : Fin → Shared → Prop} (hu : A.units < cLine) (X : K.In s.heap) (I : InstAt s.heap x ox C od) (hs : findIn K (.ref C) "__eq__" = some (some (.ref f))) (hf : isFn K (.ref f) = true)
    (hcall : wpAny (model prog w) A (call (.ref f) [.ref x, b]) (fun v s' => ∃ c, v = .bool c ∧ Q (.done (.ret (.bool (!c)))) s') E s) : wpAny (model prog w) A (Builtin.«object.__ne__» ⟨[.ref x, b], []⟩) Q E s := by
  unfold Builtin.«object.__ne__»
  repeat (first
    | with_reducible refine wpAny_cRoomFor hu ?_
    | (refine wpAny_bind (m := callSpecialIfBound? (.ref x) (Str.ofString "__eq__") [b])
        (ifBound_K X I hs hf (wpAny_mono hcall (fun r s' hr => by
          obtain ⟨c, rfl, hq⟩ := hr
          repeat (first | exact hq | exact wpAny_pure hq | exact wpAny_truthy_bool hq | (refine wpAny_bind (m := truthy (.bool _)) (wpAny_truthy_bool ?_)) | wp_step)) fun _ _ e => e)))
    | wp_step)
theorem ifBound_objNe {M : Model} {args : List Value} {Q : Option Value → Shared → Prop} (X : K.In s.heap) (I : InstAt s.heap x ox C od) (hs : findIn K (.ref C) "__ne__" = some (some (.builtin "object.__ne__")))
    (h : wpAny M A (call (.builtin "object.__ne__") (.ref x :: args)) (fun v => Q (some v)) E s) : wpAny M A (callSpecialIfBound? (.ref x) "__ne__" args) Q E s := by
  simp only [callSpecialIfBound?, bindSpecialIfBound?]
  refine wpAny_holding (wpAny_bind (wpAny_bind (wpAny_bind (I.type.here ((looks_findIn X hs).here ?_)))))
  refine wpAny_bind (wpAny_askSetting (wpAny_ite ?_))
  have fin : wpAny M A (call (.builtin "object.__ne__") ([.ref x] ++ args) >>= fun v => pure (some v)) Q E s := wpAny_bind (wpAny_mono h (fun v s' h' => wpAny_pure h') fun _ _ h' => h')
  split
  · exact wpAny_bind (wpAny_of_eq (F.cmp_object.ne.bind _) (wpAny_pure (by exact fin)))
  · exact wpAny_tryCatch (wpAny_bind (wpAny_of_eq (F.cmp_object.ne.bind _) (wpAny_pure (by exact fin))))
theorem call_objNe {Q : Value → Shared → Prop} (hu : A.units + 1 < cLine) (X : K.In s.heap) (I : InstAt s.heap x ox C od) (hm : mroIn K C (.type "object") = some true) (hs : findIn K (.ref C) "__eq__" = some (some (.ref f))) (hf : isFn K (.ref f) = true)
    (hcall : wpAny (model prog w) A.in1 (call (.ref f) [.ref x, b]) (fun v s' => ∃ c, v = .bool c ∧ Q (.bool (!c)) s') E s) : wpAny (model prog w) A (call (.builtin "object.__ne__") [.ref x, b]) Q E s :=
  wpAny_call (codeAny_call_builtin F.cmp_object.ne.plain F.cmpEntry_ne (PySem.W.check_slot F.cmpKind_ne F.cmpSplit_ne (I.type.andThen (PySem.W.looks_mroIn X hm)) (F.cmpArgs_ne _ _) (objNe_own (A := A.in1) hu X I hs hf hcall)))
theorem ne_K {Q : Value → Shared → Prop} (hu : A.units + 1 < cLine) (F : Fr h₀ L s.heap m) (X₀ : K.In h₀) (I : InstAt s.heap x ox C od) (hb : Looks (model prog w) s.heap (typeOf b) tb) (hn : notFirst K C tb = true) (hm : mroIn K C (.type "object") = some true)
    (hs : findIn K (.ref C) "__eq__" = some (some (.ref f))) (hne : findIn K (.ref C) "__ne__" = some (some (.builtin "object.__ne__"))) (hf : isFn K (.ref f) = true)
    (h : wpAny (model prog w) A.in1 (call (.ref f) [.ref x, b]) (fun v s' => ∃ c, v = .bool c ∧ Q (.bool (!c)) s') E s) : wpAny (model prog w) A (richCompare .NotEq (.ref x) b) Q E s := by
  have X := X₀.keeps F.keep
  have one : wpAny (model prog w) A (tryCompare (.ref x) "__ne__" b) (fun r s' => ∃ v, r = some v ∧ Q v s') E s := by
    unfold tryCompare
    refine wpAny_bind (ifBound_objNe X I hne (wpAny_mono (call_objNe (Q := fun v s' => ∃ c, v = .bool c ∧ Q (.bool c) s') hu X I hm hs hf (wpAny_mono h (fun v s' hv => ?_) fun _ _ e => e)) (fun v s' hv => ?_) fun _ _ e => e))
    · obtain ⟨c, rfl, q⟩ := hv
      exact ⟨c, rfl, _, rfl, q⟩
    · obtain ⟨c, rfl, q⟩ := hv
      exact wpAny_pure ⟨_, rfl, q⟩
  unfold richCompare
  simp only [oneThing_ref]
  refine wpAny_holding (wpAny_bind (wpAny_cRoomFor (Nat.lt_of_succ_lt hu) ?_))
  refine wpAny_bind (I.type.here (wpAny_bind (hb.here ?_)))
  split
  · rename_i q
    have e : subIn K tb (.ref C) = some false := by
      rcases Bool.or_eq_true_iff.mp hn with e | e
      · rw [beq_iff_eq.mp e] at q; simp at q
      · exact beq_iff_eq.mp e
    refine wpAny_bind ((looks_subIn X e).here ?_)
    simp only [Bool.false_eq_true, if_false]
    refine wpAny_bind (wpAny_mono one (fun r s' z => ?_) fun _ _ e => e)
    obtain ⟨v, rfl, hq⟩ := z
    exact wpAny_pure hq
  · refine wpAny_bind (wpAny_pure ?_)
    simp only [Bool.false_eq_true, if_false]
    refine wpAny_bind (wpAny_mono one (fun r s' z => ?_) fun _ _ e => e)
    obtain ⟨v, rfl, hq⟩ := z
    exact wpAny_pure hq
end
end PySem.W
namespace Mi
open PySem L2
section
variable {X : Cx} {k : Nat}
theorem looks_ty {pins : List (Addr × Obj)} {s : Shared} {σ : L2.St} {H : Hp} {y : V} {u : Value} {T : String} {M : Model} (I : Inv X pins σ H s) (ry : RelV y u) (t : TyOf X.K H y (.type T)) : PySem.W.Looks M s.heap (typeOf u) (.type T) := by
  cases t with
  | non => cases (show u = Value.none from ry); exact .of_pure rfl
  | bl y => cases (show u = Value.bool y from ry); exact .of_pure rfl
  | int i => obtain ⟨t, q⟩ := (show ∃ t, u = Value.int i t from ry); cases q; exact .of_pure rfl
  | str y => obtain ⟨t, q⟩ := (show ∃ t, u = Value.str y t from ry); cases q; exact .of_pure rfl
  | flt y => obtain ⟨t, q⟩ := (show ∃ t, u = Value.float y t from ry); cases q; exact .of_pure rfl
  | @lst a xs ea =>
    cases (show u = Value.ref a from ry)
    obtain ⟨_, _, n, _, h1⟩ := (show ObjOk X.prog X.w H s.heap a (.lst xs) from I.hok a _ ea)
    exact fun A Q E s k q => wpAny_typeOf_ref (k _ _ h1) q
  | @frz a ob xs ea =>
    cases (show u = Value.ref a from ry)
    obtain ⟨_, _, _, n, _, h1⟩ := (show ObjOk X.prog X.w H s.heap a (.frz ob (.lst xs)) from I.hok a _ ea)
    exact fun A Q E s k q => wpAny_typeOf_ref (k _ _ h1) q
  | @tup a xs ea =>
    cases (show u = Value.ref a from ry)
    obtain ⟨_, _, _, o, h1, h2, _⟩ := (show ObjOk X.prog X.w H s.heap a (.tup xs) from I.hok a _ ea)
    exact fun A Q E s k q => wpAny_typeOf_ref (k _ _ h1) (by rw [h2]; exact q)
  | @dK a kvs ea =>
    cases (show u = Value.ref a from ry)
    obtain ⟨_, _, vs, _, o, es, ep, h1, h2, _⟩ := (show ObjOk X.prog X.w H s.heap a (.dK kvs) from I.hok a _ ea)
    exact fun A Q E s k q => wpAny_typeOf_ref (k _ _ h1) (by rw [h2.1]; exact q)
  | @dT a kvs ea =>
    cases (show u = Value.ref a from ry)
    obtain ⟨_, _, xs, _, o, es, ep, h1, h2, _⟩ := (show ObjOk X.prog X.w H s.heap a (.dT kvs) from I.hok a _ ea)
    exact fun A Q E s k q => wpAny_typeOf_ref (k _ _ h1) (by rw [h2.1]; exact q)
theorem mro_b : ∀ U ∈ "NoneType" :: bTypes, ∃ l, fastBuiltinMro U = some l ∧ ∀ v ∈ l, ∃ t, v = .type t := by
  intro U hU
  simp only [bTypes, List.mem_cons, List.not_mem_nil, or_false] at hU
  rcases hU with rfl | rfl | rfl | rfl | rfl | rfl | rfl
  · exact ⟨[.type "NoneType", .type "object"], by decide +kernel, by simp⟩
  · exact ⟨[.type "int", .type "object"], by decide +kernel, by simp⟩
  · exact ⟨[.type "bool", .type "int", .type "object"], by decide +kernel, by simp⟩
  · exact ⟨[.type "str", .type "object"], by decide +kernel, by simp⟩
  · exact ⟨[.type "tuple", .type "object"], by decide +kernel, by simp⟩
  · exact ⟨[.type "list", .type "object"], by decide +kernel, by simp⟩
  · exact ⟨[.type "dict", .type "object"], by decide +kernel, by simp⟩
theorem sub_b {K : PySem.W.Frag} {C : Addr} {U : String} (h : U ∈ "NoneType" :: bTypes) : PySem.W.notFirst K C (.type U) = true := by
  obtain ⟨l, h1, h2⟩ := mro_b U h
  have e : PySem.W.subIn K (.type U) (.ref C) = some false := by
    show (fastBuiltinMro U).map (·.contains (.ref C)) = some false
    rw [h1, Option.map_some]
    congr 1
    rw [Bool.eq_false_iff]
    intro z
    rw [List.contains_iff_mem] at z
    obtain ⟨t, q⟩ := h2 _ z
    cases q
  unfold PySem.W.notFirst
  rw [e]; simp
/-- what != asks besides __eq__ -/
structure NeK (K : PySem.W.Frag) (C : Addr) : Prop where
  ne : PySem.W.findIn K (.ref C) "__ne__" = some (some (.builtin "object.__ne__"))
  ob : PySem.W.mroIn K C (.type "object") = some true
def NeOk (X : Cx) (tb : Tb) : Prop := ∀ c φ C, tb.lookup c = some φ → ClsAt X.mg c C → NeK X.K C
theorem NeOk.nil : NeOk X [] := fun c φ C h => by cases h
theorem NeOk.cons {c : String} {φ : Fn} {tb : Tb} {C : Addr} (hc : ClsAt X.mg c C) (h : NeK X.K C) (t : NeOk X tb) : NeOk X ((c, φ) :: tb) := fun c' φ' C' e a => by
  rw [List.lookup_cons] at e
  by_cases hcc : c' = c
  · subst hcc
    obtain rfl := cls_eq hc a
    exact h
  · have : (c' == c) = false := by simp [hcc]
    rw [this] at e
    exact t c' φ' C' e a
/-- what the other side is -/
theorem eqO_cases {neg : Bool} {tb : Tb} {x y : D} {S : Store} {r : D × Store} (h : eqO neg tb x y S = some r) :
    ∃ c gs φ b, top S x = .obj c gs ∧ tb.lookup c = some φ ∧ φ [x, y] S = some (.bl b, r.2) ∧ r.1 = .bl (b != neg) ∧ ((∃ gs', top S y = .obj c gs') ∨ ∃ U, clsOf (top S y) = some U) := by
  unfold eqO at h
  cases htop : top S x with
  | obj c gs =>
    simp only [htop] at h
    obtain ⟨φ, hφ, h⟩ := Option.bind_eq_some_iff.mp h
    have fin : ∀ {r0 : Option (D × Store)}, φ [x, y] S = r0 → (match r0 with | some (.bl b, S1) => some (D.bl (b != neg), S1) | _ => none) = some r → ∃ b, φ [x, y] S = some (.bl b, r.2) ∧ r.1 = .bl (b != neg) := fun {r0} e h => by
      split at h
      · cases h; exact ⟨_, e, rfl⟩
      · cases h
    cases e : top S y with
    | rf j => simp only [e] at h; cases h
    | obj c' gs' =>
      simp only [e] at h
      by_cases hcc : c' = c
      · subst hcc
        rw [if_pos rfl] at h
        obtain ⟨b, h1, h2⟩ := fin rfl h
        exact ⟨_, gs, φ, b, rfl, hφ, h1, h2, .inl ⟨gs', rfl⟩⟩
      · rw [if_neg hcc] at h; cases h
    | non => simp only [e] at h; obtain ⟨b, h1, h2⟩ := fin rfl h; exact ⟨_, gs, φ, b, rfl, hφ, h1, h2, .inr ⟨_, rfl⟩⟩
    | bl _ => simp only [e] at h; obtain ⟨b, h1, h2⟩ := fin rfl h; exact ⟨_, gs, φ, b, rfl, hφ, h1, h2, .inr ⟨_, rfl⟩⟩
    | int _ => simp only [e] at h; obtain ⟨b, h1, h2⟩ := fin rfl h; exact ⟨_, gs, φ, b, rfl, hφ, h1, h2, .inr ⟨_, rfl⟩⟩
    | str _ => simp only [e] at h; obtain ⟨b, h1, h2⟩ := fin rfl h; exact ⟨_, gs, φ, b, rfl, hφ, h1, h2, .inr ⟨_, rfl⟩⟩
    | tup _ => simp only [e] at h; obtain ⟨b, h1, h2⟩ := fin rfl h; exact ⟨_, gs, φ, b, rfl, hφ, h1, h2, .inr ⟨_, rfl⟩⟩
    | lst _ => simp only [e] at h; obtain ⟨b, h1, h2⟩ := fin rfl h; exact ⟨_, gs, φ, b, rfl, hφ, h1, h2, .inr ⟨_, rfl⟩⟩
    | dct _ => simp only [e] at h; obtain ⟨b, h1, h2⟩ := fin rfl h; exact ⟨_, gs, φ, b, rfl, hφ, h1, h2, .inr ⟨_, rfl⟩⟩
  | non => simp only [htop] at h; cases h
  | bl _ => simp only [htop] at h; cases h
  | int _ => simp only [htop] at h; cases h
  | str _ => simp only [htop] at h; cases h
  | tup _ => simp only [htop] at h; cases h
  | lst _ => simp only [htop] at h; cases h
  | dct _ => simp only [htop] at h; cases h
  | rf _ => simp only [htop] at h; cases h
theorem other {pins : List (Addr × Obj)} {s : Shared} {σ : L2.St} {H I : Hp} {ι : Io} {S : Store} {y : V} {u : Value} {dy : D} {c : String} {C : Addr} {M : Model} (J : Inv X pins σ H s) (ry : RelV y u) (sr : SR X.mg I ι S H) (rpy : Rep X.mg I ι y dy) (hc : ClsAt X.mg c C)
    (h : (∃ gs', top S dy = .obj c gs') ∨ ∃ U, clsOf (top S dy) = some U) : ∃ tb, PySem.W.Looks M s.heap (typeOf u) tb ∧ PySem.W.notFirst X.K C tb = true := by
  rcases h with ⟨gs', e⟩ | ⟨U, e⟩
  · obtain ⟨ad, C', dxx, fs, rfl, hH, hd, hc', rf⟩ := seen_obj sr rpy e
    obtain rfl := cls_eq hc hc'
    cases ry
    obtain ⟨ox, od, J2⟩ := inst_at J hH
    exact ⟨.ref C', J2.type, by simp [PySem.W.notFirst]⟩
  · exact ⟨.type U, looks_ty J ry (ty_of sr rpy e), sub_b (clsOf_mem e)⟩
theorem oT_eq {tb : Tb} (T : SpOk X "__eq__" k tb) (hr : Room (k + 1) X.A) (hg : X.A.guards = some []) : OpR X (compareOp .Eq) (rT X.mg (eqO false tb)) := by
  rintro pins s σ H x y v u Q I rx ry ⟨S, J, ι, dx, dy, d, S', sr, rpx, rpy, hm, q⟩
  obtain ⟨c, gs, φ, b, htop, hφ, hb, e, ho⟩ := eqO_cases hm
  simp only at e hb
  subst e
  obtain ⟨C, f, T1⟩ := T c φ hφ
  obtain ⟨ad, C', dxx, fs, rfl, hH, hd, hc, rf⟩ := seen_obj sr rpx htop
  obtain rfl := cls_eq T1.at_ hc
  obtain ⟨tb, L1, L2⟩ := other (M := model X.prog X.w) I ry sr rpy hc ho
  cases rx
  obtain ⟨ox, od, J2⟩ := inst_at I hH
  obtain ⟨m, hF⟩ := I.fr
  show wpAny _ _ (richCompare .Eq _ _) _ _ _
  refine PySem.W.cmp_K (op := .Eq) (tb := tb) hr.units0 hF I.ok.mod.kin J2 L1 L2 T1.fnd T1.fn ?_
  have c0 := callR_fn T1.ok (hr.mono (Nat.le_succ _)) hg pins s σ H [.ref ad, y] [.ref ad, u] (fun w H' => w = .bl b ∧ Q (.bl b) H') I (.cons (show RelV (.ref ad) (Value.ref ad) from rfl) (.cons ry .nil)) ⟨[dx, dy], S, J, ι, .bl b, S', .cons rpx (.cons rpy .nil), sr, hb, fun w H' I' ι' l p s' rw' => by
    cases rw'
    exact ⟨rfl, q _ _ _ _ l p s' (by simp only [Bool.bne_false]; exact .bl b)⟩⟩
  refine thn c0 ?_
  rintro w s1 ⟨w', H1, I1, r1, rfl, q1⟩
  cases r1
  exact ⟨.bl b, H1, I1, rfl, q1⟩
theorem oT_ne {tb : Tb} (T : SpOk X "__eq__" k tb) (N : NeOk X tb) (hr : Room (k + 1) X.A) (hg : X.A.guards = some []) : OpR X (compareOp .NotEq) (rT X.mg (eqO true tb)) := by
  rintro pins s σ H x y v u Q I rx ry ⟨S, J, ι, dx, dy, d, S', sr, rpx, rpy, hm, q⟩
  obtain ⟨c, gs, φ, b, htop, hφ, hb, e, ho⟩ := eqO_cases hm
  simp only at e hb
  subst e
  obtain ⟨C, f, T1⟩ := T c φ hφ
  obtain ⟨ad, C', dxx, fs, rfl, hH, hd, hc, rf⟩ := seen_obj sr rpx htop
  obtain rfl := cls_eq T1.at_ hc
  obtain ⟨tb, L1, L2⟩ := other (M := model X.prog X.w) I ry sr rpy hc ho
  have N1 := N c φ C' hφ hc
  cases rx
  obtain ⟨ox, od, J2⟩ := inst_at I hH
  obtain ⟨m, hF⟩ := I.fr
  show wpAny _ _ (richCompare .NotEq _ _) _ _ _
  refine PySem.W.ne_K (tb := tb) (by have := hr.un; have := hr.units0; omega) hF I.ok.mod.kin J2 L1 L2 N1.ob T1.fnd N1.ne T1.fn ?_
  refine thn (run_in1 (Q := fun w H' => w = .bl b ∧ Q (.bl (!b)) H') T1.ok hr hg I (.cons (show RelV (.ref ad) (Value.ref ad) from rfl) (.cons ry .nil)) ⟨[dx, dy], S, J, ι, .bl b, S', .cons rpx (.cons rpy .nil), sr, hb, fun w H' I' ι' l p s' rw' => by
    cases rw'
    exact ⟨rfl, q _ _ _ _ l p s' (by simp only [Bool.bne_true]; exact .bl _)⟩⟩) ?_
  rintro w s1 ⟨w', H1, I1, r1, rfl, q1⟩
  cases r1
  exact ⟨b, rfl, .bl (!b), H1, I1, rfl, q1⟩
theorem oX_eq {tb : Tb} (T : SpOk X "__eq__" k tb) (hr : Room (k + 1) X.A) (hg : X.A.guards = some []) : OpR X (compareOp .Eq) (rT X.mg (eqX false tb)) := by
  refine OpR.imp (OpR.or (oT_eq T hr hg) (rT_of (oM_eq (by have := hr.un; omega)))) ?_
  rintro x y H Q ⟨S, I, ι, dx, dy, d, S', s, rx, ry, hm, q⟩
  unfold eqX at hm
  split at hm
  · exact .inl ⟨S, I, ι, dx, dy, d, S', s, rx, ry, hm, q⟩
  · exact .inr ⟨S, I, ι, dx, dy, d, S', s, rx, ry, hm, q⟩
theorem oX_ne {tb : Tb} (T : SpOk X "__eq__" k tb) (N : NeOk X tb) (hr : Room (k + 1) X.A) (hg : X.A.guards = some []) : OpR X (compareOp .NotEq) (rT X.mg (eqX true tb)) := by
  refine OpR.imp (OpR.or (oT_ne T N hr hg) (rT_of (oM_ne (by have := hr.un; omega)))) ?_
  rintro x y H Q ⟨S, I, ι, dx, dy, d, S', s, rx, ry, hm, q⟩
  unfold eqX at hm
  split at hm
  · exact .inl ⟨S, I, ι, dx, dy, d, S', s, rx, ry, hm, q⟩
  · exact .inr ⟨S, I, ι, dx, dy, d, S', s, rx, ry, hm, q⟩
end
end Mi
set_option Elab.async false
set_option linter.all false
set_option maxRecDepth 100000
namespace Mi
open PySem L2 PyProof.Rows StX
/-! ### join, f-strings -/
theorem join_toS (s : List Nat) : ∀ ts : List (List Nat), Txt.join (toS s) (ts.map toS) = toS (joinN s ts) := by
  intro ts
  rw [eq_of_beq (join_plain_closes (toS s) (ts.map toS))]
  induction ts with
  | nil => rfl
  | cons t r ih =>
    cases r with
    | nil => rfl
    | cons u r =>
      show toS t ++ toS s ++ Str.join (toS s) ((u :: r).map toS) = toS (t ++ s ++ joinN s (u :: r))
      rw [ih, toS_app, toS_app]
theorem joinN_ok {s : List Nat} (hs : ∀ c ∈ s, c < 0x110000) : ∀ {ts : List (List Nat)}, (∀ t ∈ ts, ∀ c ∈ t, c < 0x110000) → ∀ c ∈ joinN s ts, c < 0x110000
  | [], _, c, h => by cases h
  | [t], ht, c, h => ht t (List.mem_singleton_self _) c h
  | t :: u :: r, ht, c, h => by
    have h : c ∈ t ++ s ++ joinN s (u :: r) := h
    rcases List.mem_append.mp h with h | h
    · rcases List.mem_append.mp h with h | h
      · exact ht t List.mem_cons_self c h
      · exact hs c h
    · exact joinN_ok hs (fun t h => ht t (List.mem_cons_of_mem _ h)) c h
section
variable {X : Cx} {o e v1 v2 : Expr} {es rest : List Expr} {mo m : M} {ms : List M} {apos pos : Pos}
theorem me_join (ho : ME X o mo) (he : ME X e m) (hs : starEach [e] X.env = [(false, eval e X.env)] := by rfl) (hbase : attributeBase o "join" X.env (eval o X.env) = eval o X.env := by rfl) (hline : (apos.endLine == pos.line) = true := by rfl) :
    ME X (.Call (.Attribute o "join" apos) [e] [] pos) (mJoin mo m) := by
  refine PE.imp (pe_join ho he hs hbase hline) ?_
  rintro σ H Q ⟨ρ, S, I, ι, d, S', er, sr, hm, q⟩
  unfold mJoin at hm
  obtain ⟨⟨x, S1⟩, h1, hm⟩ := Option.bind_eq_some_iff.mp hm
  simp only at hm
  split at hm
  rotate_left
  · cases hm
  rename_i st
  obtain ⟨⟨y, S2⟩, h2, hm⟩ := Option.bind_eq_some_iff.mp hm
  obtain ⟨w, h3, hm⟩ := Option.bind_eq_some_iff.mp hm
  cases hm
  cases ey : top S2 y <;> rw [ey] at h3 <;> first
    | (cases h3; done)
    | skip
  rename_i ds
  simp only [oJoin] at h3
  obtain ⟨ts, h4, h3⟩ := Option.bind_eq_some_iff.mp h3
  split at h3
  rotate_left
  · cases h3
  rename_i hz
  cases h3
  refine ⟨ρ, S, I, ι, _, S1, er, sr, h1, fun v1 H1 I1 ι1 l1 p1 s1 r1 => ?_⟩
  cases r1 with
  | str hsx =>
    refine ⟨⟨_, rfl⟩, ρ, S1, I1, ι1, y, _, er.mono l1 p1, s1, h2, fun v2 H2 I2 ι2 l2 p2 s2 r2 => ?_⟩
    obtain ⟨a, xs, rfl, hH, rs⟩ := seen_lst s2 r2 ey
    obtain ⟨rfl, hts⟩ := reps_strs rs h4
    refine ⟨toS st, a, ts.map toS, rfl, rfl, .inl (.inl ?_), ?_, ?_⟩
    · rw [List.map_map]; exact hH
    · rw [List.map_map, List.length_map, toS_len]
      have : (List.map ((fun x => x.length) ∘ toS) ts) = ts.map (·.length) := List.map_congr_left fun t _ => toS_len t
      rw [this]; exact hz
    · rw [join_toS]
      exact (q.mono (l1.trans l2) (p1.trans p2)).now s2 (.str (joinN_ok hsx hts))
theorem toString_ok (i : Int) : Str.ofString (toString i) = toS ((toString i).toList.map Char.toNat) := Str.ofString_eq_toList _
theorem char_lt (c : Char) : c.toNat < 0x110000 := by
  have h := c.valid
  rcases h with h | ⟨_, h⟩
  · exact Nat.lt_trans h (by decide)
  · exact h
theorem chars_ok (l : List Char) : ∀ n ∈ l.map Char.toNat, n < 0x110000 := fun n h => by
  obtain ⟨c, _, rfl⟩ := List.mem_map.mp h
  exact char_lt c
theorem me_fmt (he : ME X e m) : ME X (.FormattedValue e (-1) none pos) (mUn fFmt m) := by
  refine PE.imp (pe_fmt he) ?_
  rintro σ H Q ⟨ρ, S, I, ι, d, S', er, sr, hm, q⟩
  unfold mUn at hm
  obtain ⟨⟨y, S1⟩, h1, hm⟩ := Option.bind_eq_some_iff.mp hm
  obtain ⟨w, h2, hm⟩ := Option.bind_eq_some_iff.mp hm
  cases hm
  refine ⟨ρ, S, I, ι, y, _, er, sr, h1, fun v1 H1 I1 ι1 l1 p1 s1 r1 => ?_⟩
  cases e : top S' y <;> rw [e] at h2 <;> first
    | (cases h2; done)
    | skip
  · obtain rfl := seen_int s1 r1 e
    simp only [fFmt] at h2
    split at h2
    · rename_i hz
      cases h2
      refine .inr ⟨_, rfl, hz, ?_⟩
      rw [toString_ok]
      exact (q.mono l1 p1).now s1 (.str (chars_ok _))
    · cases h2
  · obtain ⟨rfl, hc⟩ := seen_str s1 r1 e
    simp only [fFmt] at h2
    split at h2
    · rename_i hz
      cases h2
      exact .inl ⟨_, rfl, by rw [toS_len]; exact big_le hz, (q.mono l1 p1).now s1 (.str hc)⟩
    · cases h2
inductive MJ (X : Cx) : List Expr → List M → Prop where
  | nil : MJ X [] []
  | cons {e : Expr} {m : M} {es : List Expr} {ms : List M} (h : ME X e m) (r : MJ X es ms) : MJ X (e :: es) (m :: ms)
theorem MJ.pj (h : MJ X es ms) : PJ X es (ms.map (tM X.mg)) := by
  induction h with
  | nil => exact .nil
  | cons h r ih => exact .cons h ih
theorem tJs_of : ∀ {ms : List M} {ρ : Rho} {σ : L2.St} {S S' : Store} {I H : Hp} {ι : Io} {ds : List D} {ts : List (List Nat)} {acc : List Nat} {Q : Str → Hp → Prop}, ER X.mg I ι σ ρ → SR X.mg I ι S H → evalL ms ρ S = some (ds, S') → asStrs ds = some ts → acc.length + (ts.map (·.length)).sum ≤ big → (∀ c ∈ acc, c < 0x110000) →
    (∀ (out : List Nat) (H' I' : Hp) (ι' : Io), Le I I' → Pre ι ι' → SR X.mg I' ι' S' H' → out = acc ++ ts.flatten → (∀ c ∈ out, c < 0x110000) → Q (toS out) H') → tJs (ms.map (tM X.mg)) (toS acc) σ H Q
  | [], ρ, σ, S, S', I, H, ι, ds, ts, acc, Q, er, sr, hm, ht, hz, ha, q => by
    cases hm
    cases ht
    exact q acc H I ι Le.refl Pre.refl sr (by simp) ha
  | m :: ms, ρ, σ, S, S', I, H, ι, ds, ts, acc, Q, er, sr, hm, ht, hz, ha, q => by
    unfold evalL at hm
    obtain ⟨⟨x, S1⟩, h1, hm⟩ := Option.bind_eq_some_iff.mp hm
    obtain ⟨⟨ys, S2⟩, h2, hm⟩ := Option.bind_eq_some_iff.mp hm
    cases hm
    obtain ⟨t, rfl⟩ : ∃ t, x = .str t := by
      cases x <;> first
        | exact ⟨_, rfl⟩
        | (simp [asStrs] at ht; done)
    simp only [asStrs] at ht
    obtain ⟨us, h3, rfl⟩ := Option.map_eq_some_iff.mp ht
    rw [List.map_cons, List.sum_cons] at hz
    refine ⟨ρ, S, I, ι, .str t, S1, er, sr, h1, fun v1 H1 I1 ι1 l1 p1 s1 r1 => ?_⟩
    cases r1 with
    | str ht0 =>
      refine ⟨toS t, rfl, ?_, ?_⟩
      · rw [toS_app, toS_len, List.length_append]
        exact big_le (by omega)
      · rw [toS_app]
        have hat : ∀ c ∈ acc ++ t, c < 0x110000 := fun c h => (List.mem_append.mp h).elim (ha c) (ht0 c)
        refine tJs_of (er.mono l1 p1) s1 h2 h3 (by rw [List.length_append]; omega) hat fun out H' I' ι' l2 p2 s2 eo ho => q out H' I' ι' (l1.trans l2) (p1.trans p2) s2 ?_ ho
        rw [eo, List.flatten_cons, List.append_assoc]
theorem me_joined (h : MJ X (v1 :: v2 :: rest) ms) : ME X (.JoinedStr (v1 :: v2 :: rest) pos) (mJoined ms) := by
  refine PE.imp (pe_joined h.pj) ?_
  rintro σ H Q ⟨ρ, S, I, ι, d, S', er, sr, hm, q⟩
  unfold mJoined at hm
  obtain ⟨⟨ds, S1⟩, h1, hm⟩ := Option.bind_eq_some_iff.mp hm
  obtain ⟨ts, h2, hm⟩ := Option.bind_eq_some_iff.mp hm
  have hm : (if (ts.map (·.length)).sum ≤ big then some (D.str ts.flatten, S1) else none) = some (d, S') := hm
  by_cases hz : (ts.map (·.length)).sum ≤ big
  · rw [if_pos hz] at hm
    cases hm
    refine tJs_of (acc := []) er sr h1 h2 (by simpa using hz) (fun c h => by cases h) fun out H' I' ι' l p s eo ho => ?_
    rw [List.nil_append] at eo
    subst eo
    exact q _ _ _ _ l p s (.str ho)
  · rw [if_neg hz] at hm; cases hm
end

/-! ### f(*xs) -/
section
variable {X : Cx} {x : Str} {e : Expr} {m : M} {p sp_ pos : Pos} {φ : Fn}
theorem me_star {f : Addr} (hc : CallR X (.ref f) (rF X.mg φ)) (hg : Gl X x) (hm : X.mg x = some (.ref f)) (hk : PySem.W.keepIn X.K (.ref f) = true) (he : ME X e m) (hdb : (x == ("__debug__" : Str)) = false := by decide)
    (hst : starEach [.Starred e sp_] X.env = [(true, eval e X.env)] := by rfl) : ME X (.Call (.Name x p) [.Starred e sp_] [] pos) (mStar φ m) := by
  constructor
  rintro pins s σ H Q I ⟨ρ, S, J, ι, d, S', er, sr, hm, q⟩
  refine wpAny_Call_Name_kw (ld_glob I hg ‹_› ?_ hdb)
  unfold mStar at hm
  obtain ⟨⟨y, S1⟩, h1, hm⟩ := Option.bind_eq_some_iff.mp hm
  refine PySem.W.callWith_S (h₀ := X.base) I.ok.mod.kin hk (thn (he.run pins s σ H (fun v H1 => ∃ a xs, v = .ref a ∧ (SqT X.K H1 a xs ∨ SqL X.K H1 a xs) ∧ rF X.mg φ xs H1 Q) I ⟨ρ, S, J, ι, y, S1, er, sr, h1, fun v1 H1 I1 ι1 l1 p1 s1 r1 => ?_⟩) ?_) hst
  · simp only at hm
    split at hm
    · rename_i ds ht
      obtain ⟨a, xs, rfl, hH, rs⟩ := seen_lst s1 r1 ht
      exact ⟨a, xs, rfl, .inr (.inl hH), ds, S1, I1, ι1, d, S', rs, s1, hm, q.mono l1 p1⟩
    · rename_i ds ht
      obtain ⟨a, xs, rfl, hH, _, rs⟩ := seen_tup s1 r1 ht
      exact ⟨a, xs, rfl, .inl (.of hH), ds, S1, I1, ι1, d, S', rs, s1, hm, q.mono l1 p1⟩
    · cases hm
  · rintro u s1 ⟨v, H1, I1, ru, a, xs, rfl, hx, q1⟩
    obtain rfl : u = Value.ref a := ru
    exact star_any I1 hx fun us s2 I2 rv => ⟨I2.kIn, hc pins s2 σ H1 xs us Q I2 rv q1⟩
end
end Mi
set_option Elab.async false
set_option linter.all false
set_option maxRecDepth 100000
namespace Mi
open PySem L2 PyProof.Rows StX
/-! ### calls with keywords -/
theorem Reps.pick {mg : Str → Option Value} {I : Hp} {ι : Io} {vs : List V} {ds : List D} (r : Reps mg I ι vs ds) : ∀ ix : List Nat, Reps mg I ι (pick ix vs) (pick ix ds)
  | [] => .nil
  | i :: ix => by
    have ih := Reps.pick r ix
    unfold Mi.pick at ih ⊢
    cases hd : ds[i]? with
    | none =>
      have hv : vs[i]? = none := by
        rw [List.getElem?_eq_none_iff] at hd ⊢
        rw [r.length]; exact hd
      rw [List.filterMap_cons_none hv, List.filterMap_cons_none hd]; exact ih
    | some d =>
      obtain ⟨v, hv, h⟩ := r.get hd
      rw [List.filterMap_cons_some hv, List.filterMap_cons_some hd]
      exact .cons h ih
theorem vals_pick {vs : List V} {us : List Value} (r : Vals vs us) : ∀ ix : List Nat, Vals (pick ix vs) (pick ix us)
  | [] => .nil
  | i :: ix => by
    have ih := vals_pick r ix
    unfold Mi.pick at ih ⊢
    cases hd : vs[i]? with
    | none =>
      have hv : us[i]? = none := by
        rw [List.getElem?_eq_none_iff] at hd ⊢
        rw [← r.length]; exact hd
      rw [List.filterMap_cons_none hv, List.filterMap_cons_none hd]; exact ih
    | some d =>
      obtain ⟨v, hv, h⟩ := r.get hd
      rw [List.filterMap_cons_some hv, List.filterMap_cons_some hd]
      exact .cons h ih
theorem rF_kw {mg : Str → Option Value} {n : Nat} {ix : List Nat} {xs : List D} {vs0 : List V} {φ : Fn} {vs : List V} {H : Hp} {Q : VK} (hr0 : ∀ (I : Hp) (ι : Io), Reps mg I ι vs0 xs) (h : rF mg (kwFn n ix xs φ) vs H Q) : rF mg φ (pick ix (vs ++ vs0)) H Q := by
  obtain ⟨ds, S, I, ι, d, S', rs, sr, hm, q⟩ := h
  unfold kwFn at hm
  split at hm
  · exact ⟨_, S, I, ι, d, S', (rs.append (hr0 I ι)).pick ix, sr, hm, q⟩
  · cases hm
/-- the def at f, called by n places and the keywords ks, does what ψ tells of all that is written -/
def FnK (P : Program) (w : World) (K : PySem.W.Frag) (mg : Str → Option Value) (base : Heap) (k : Nat) (f : Addr) (n : Nat) (ks : List Str) (ψ : Fn) : Prop :=
  ∀ (A : Around) (outer : List PySem.Env) (s : Shared) (H : Hp) (us ws : List Value) (vs zs : List V) (Q : VK), Room k A → A.guards = some [] → Env0 P w K mg base A outer s H → us.length = n → ws.length = ks.length → Vals vs us → Vals zs ws → rF mg ψ (vs ++ zs) H Q →
    codeAny (model P w) A (.call (.ref f) ⟨us, ks.zip ws⟩) (CR cx0 outer P w H s Q fun _ _ _ => False) s
section
variable {P : Program} {w : World} {K : PySem.W.Frag} {mg : Str → Option Value} {base : Heap} {j k : Nat} {f : Addr} {fd : FuncData} {ps : List Str} {φ : Fn}
theorem FnK.mono {n : Nat} {ks : List Str} (F : FnK P w K mg base j f n ks φ) (h : j ≤ k) : FnK P w K mg base k f n ks φ := fun A outer s H us ws vs zs Q hr => F A outer s H us ws vs zs Q (hr.mono h)
theorem FnG.kw {n m : Nat} {ks : List Str} {ix : List Nat} {xs : List D} {vs0 : List V} {us0 : List Value} (F : FnG P w K mg base k f fd ps φ)
    (hb : ∀ (s : Shared) (us ws : List Value), K.In s.heap → us.length = n → ws.length = ks.length → BindsTo s fd ⟨us, ks.zip ws⟩ (ps.zip (pick ix ((us ++ ws) ++ us0)))) (hv : Vals vs0 us0) (hr0 : ∀ (I : Hp) (ι : Io), Reps mg I ι vs0 xs) :
    FnK P w K mg base k f n ks (kwFn m ix xs φ) := by
  intro A outer s H us ws vs zs Q hr hg e0 l1 l2 r rz h
  have KX : K.In s.heap := e0.mod.kin.keeps fun b o e => (e0.bs b o e).1
  exact F.run A outer s H _ _ _ Q hr hg e0 (hb s us ws KX l1 l2) (vals_pick ((r.append rz).append hv) ix) (rF_kw hr0 h)
end
section
variable {X : Cx} {k n : Nat} {f C : Addr} {φ ψ : Fn} {ks : List Str}
def CallK (X : Cx) (f : Value) (n : Nat) (ks : List Str) (r : List V → Hp → VK → Prop) : Prop :=
  ∀ (pins : List (Addr × Obj)) (s : Shared) (σ : L2.St) (H : Hp) (vs zs : List V) (us ws : List Value) (Q : VK), Inv X pins σ H s → us.length = n → ws.length = ks.length → Vals vs us → Vals zs ws → r (vs ++ zs) H Q →
    wpAny (model X.prog X.w) X.A (call f us (ks.zip ws)) (EP X pins σ Q) X.xe s
theorem callK_fn (F : FnK X.prog X.w X.K X.mg X.base k f n ks ψ) (hr : Room k X.A) (hg : X.A.guards = some []) : CallK X (.ref f) n ks (rF X.mg ψ) := by
  intro pins s σ H vs zs us ws Q I l1 l2 r rz h
  refine wpAny_call (codeAny_mono (F X.A X.stack s H us ws vs zs Q hr hg I.env0 l1 l2 r rz h) fun res s' hq => ?_)
  cases res with
  | error e => exact False.elim hq
  | ok fl =>
    cases fl with
    | ret u => exact I.after hq
    | next => exact False.elim hq
    | brk => exact False.elim hq
    | cont => exact False.elim hq
theorem callK_new {c : String} (hc : ClsAt X.mg c C) (M : Mk X.K C f) (F : FnK X.prog X.w X.K X.mg X.base k f (n + 1) ks ψ) (hr : Room (k + 1) X.A) (hg : X.A.guards = some []) : CallK X (.ref C) n ks (rF X.mg (newFn c ψ)) := fun pins s σ H vs zs us ws Q I l1 l2 r rz h =>
  run_new hc M hr hg I (fun A outer s H x Q hr hg e0 h => F A outer s H (.ref x :: us) ws (.ref x :: vs) zs Q hr hg e0 (by simp [l1]) l2 (.cons (show RelV (.ref x) (Value.ref x) from rfl) r) rz h) h
end
abbrev MK (X : Cx) (kws : List Keyword) (ms : List M) : Prop := PK X kws (tA X.mg ms)
theorem evalL_app : ∀ {ms ns : List M} {ρ : Rho} {S : Store}, evalL (ms ++ ns) ρ S = (evalL ms ρ S).bind fun (ds, S1) => (evalL ns ρ S1).bind fun (es, S2) => some (ds ++ es, S2)
  | [], ns, ρ, S => by
    show evalL ns ρ S = (evalL ns ρ S).bind _
    cases evalL ns ρ S <;> rfl
  | m :: ms, ns, ρ, S => by
    show ((m ρ S).bind fun (d, S1) => (evalL (ms ++ ns) ρ S1).bind fun (ds, S2) => some (d :: ds, S2)) = ((m ρ S).bind fun (d, S1) => (evalL ms ρ S1).bind fun (ds, S2) => some (d :: ds, S2)).bind _
    cases m ρ S with
    | none => rfl
    | some p =>
      simp only [Option.bind_some]
      rw [evalL_app]
      cases evalL ms ρ p.2 with
      | none => rfl
      | some q =>
        simp only [Option.bind_some]
        cases evalL ns ρ q.2 <;> rfl
section
variable {X : Cx} {x : Str} {p pos kpos apos : Pos} {e : Expr} {es : List Expr} {kws : List Keyword} {nm : Option Str} {m : M} {ms ns : List M} {ks : List Str} {φ : Fn} {f : Addr} {n : Nat}
theorem PK.imp {t t' : TA} (h : PK X kws t) (f : ∀ σ H Q, t' σ H Q → t σ H Q) : PK X kws t' := ⟨fun p pins s σ H Q I q => h.run p pins s σ H Q I (f σ H Q q)⟩
theorem mk_nil : MK X [] [] := by
  refine PK.imp pk_nil ?_
  rintro σ H Q ⟨ρ, S, I, ι, ds, S', e, s, hm, q⟩
  cases hm
  exact q _ _ _ _ Le.refl (Pre.refl) s .nil
theorem mk_cons (ha : ME X e m) (hr : MK X kws ms) : MK X (⟨nm, e, kpos⟩ :: kws) (m :: ms) := by
  refine PK.imp (pk_cons ha hr) ?_
  rintro σ H Q ⟨ρ, S, I, ι, ds, S', e, s, hm, q⟩
  unfold evalL at hm
  obtain ⟨⟨x, S1⟩, h1, hm⟩ := Option.bind_eq_some_iff.mp hm
  obtain ⟨⟨y, S2⟩, h2, hm⟩ := Option.bind_eq_some_iff.mp hm
  cases hm
  refine ⟨ρ, S, I, ι, x, S1, e, s, h1, fun v1 H1 I1 ι1 l1 p1 s1 r1 => ?_⟩
  refine ⟨ρ, S1, I1, ι1, y, _, e.mono l1 p1, s1, h2, fun v2 H2 I2 ι2 l2 p2 s2 r2 => ?_⟩
  exact q _ _ _ _ (l1.trans l2) (p1.trans p2) s2 (.cons (r1.mono l2 p2) r2)
/-- the values written, in both lists -/
theorem tA_app {σ : L2.St} {H : Hp} {Q : List V → Hp → Prop} (h : tA X.mg (ms ++ ns) σ H Q) : tA X.mg ms σ H fun vs H1 => vs.length = ms.length ∧ tA X.mg ns σ H1 fun zs H2 => zs.length = ns.length ∧ Q (vs ++ zs) H2 := by
  obtain ⟨ρ, S, I, ι, ds, S', e, s, hm, q⟩ := h
  rw [evalL_app] at hm
  obtain ⟨⟨as, S1⟩, h1, hm⟩ := Option.bind_eq_some_iff.mp hm
  obtain ⟨⟨bs, S2⟩, h2, hm⟩ := Option.bind_eq_some_iff.mp hm
  cases hm
  refine ⟨ρ, S, I, ι, as, S1, e, s, h1, fun vs H1 I1 ι1 l1 p1 s1 r1 => ⟨by rw [r1.length, evalL_length h1], ρ, S1, I1, ι1, bs, _, e.mono l1 p1, s1, h2, fun zs H2 I2 ι2 l2 p2 s2 r2 => ⟨by rw [r2.length, evalL_length h2], ?_⟩⟩⟩
  exact q _ _ _ _ (l1.trans l2) (p1.trans p2) s2 ((r1.mono l2 p2).append r2)
theorem tA_len {σ : L2.St} {H : Hp} {Q : List V → Hp → Prop} (h : tA X.mg ms σ H Q) : tA X.mg ms σ H fun vs H1 => vs.length = ms.length ∧ Q vs H1 := by
  obtain ⟨ρ, S, I, ι, ds, S', e, s, hm, q⟩ := h
  exact ⟨ρ, S, I, ι, ds, S', e, s, hm, fun vs H1 I1 ι1 l1 p1 s1 r1 => ⟨by rw [r1.length, evalL_length hm], q _ _ _ _ l1 p1 s1 r1⟩⟩
/-- x(e, .., k = v, ..) -/
theorem me_callK (hc : CallK X (.ref f) n ks (rF X.mg φ)) (hg : Gl X x) (hm : X.mg x = some (.ref f)) (hk : PySem.W.keepIn X.K (.ref f) = true) (ha : MA X (e :: es) ms) (hkw : MK X kws ns) (ln : ms.length = n := by rfl) (lk : ns.length = ks.length := by rfl)
    (hall : (backToKw pos (keywordEach kws X.env)).all (·.1.isSome) = true := by rfl) (hks : (backToKw pos (keywordEach kws X.env)).filterMap (·.1) = ks := by rfl)
    (hdb : (x == ("__debug__" : Str)) = false := by decide) (he : starEach (e :: es) X.env = (false, eval e X.env) :: starEach es X.env := by rfl)
    (hpl : ((backTo pos (starEach (e :: es) X.env)).any (·.1) || (backToKw pos (keywordEach kws X.env)).any (·.1.isNone)) = false := by rfl) :
    ME X (.Call (.Name x p) (e :: es) kws pos) (mCall φ (ms ++ ns)) := by
  constructor
  intro pins s σ H Q I h
  refine wpAny_Call_Name_kw (ld_glob I hg hm ?_ hdb)
  refine PySem.W.callWith_KW (h₀ := X.base) I.ok.mod.kin hk hall (thn (ha.run pos pins s σ H _ I (tA_app (tM_F h))) ?_) hpl he
  rintro us s1 ⟨vs, H1, I1, r, lv, q⟩
  refine thn (hkw.run pos pins s1 σ H1 _ I1 q) ?_
  rintro ws s2 ⟨zs, H2, I2, rz, lz, q2⟩
  refine ⟨I2.kIn, ?_⟩
  rw [hks]
  exact hc pins s2 σ H2 vs zs us ws Q I2 (by rw [← r.length, lv, ln]) (by rw [← rz.length, lz, lk]) r rz q2
theorem me_callK0 (hc : CallK X (.ref f) 0 ks (rF X.mg φ)) (hg : Gl X x) (hm : X.mg x = some (.ref f)) (hk : PySem.W.keepIn X.K (.ref f) = true) (hkw : MK X kws ns) (lk : ns.length = ks.length := by rfl)
    (hall : (backToKw pos (keywordEach kws X.env)).all (·.1.isSome) = true := by rfl) (hks : (backToKw pos (keywordEach kws X.env)).filterMap (·.1) = ks := by rfl)
    (hdb : (x == ("__debug__" : Str)) = false := by decide)
    (hpl : ((backTo pos (starEach [] X.env)).any (·.1) || (backToKw pos (keywordEach kws X.env)).any (·.1.isNone)) = false := by rfl) :
    ME X (.Call (.Name x p) [] kws pos) (mCall φ ns) := by
  constructor
  intro pins s σ H Q I h
  refine wpAny_Call_Name_kw (ld_glob I hg hm ?_ hdb)
  refine PySem.W.callWith_KW0 (h₀ := X.base) I.ok.mod.kin hk hall (thn (hkw.run pos pins s σ H _ I (tA_len (tM_F h))) ?_) hpl
  rintro ws s2 ⟨zs, H2, I2, rz, lz, q2⟩
  refine ⟨I2.kIn, ?_⟩
  rw [hks]
  exact hc pins s2 σ H2 [] zs [] ws Q I2 rfl (by rw [← rz.length, lz, lk]) .nil rz q2

variable {pl : Sem Bool} {m0 : Str} {C q g : Addr} {mc : Value}
/-- C.m(k = v, ..), m static -/
theorem me_staticK0 (hx : Gl X x) (hm : X.mg x = some (.ref C)) (r : ClX.CRead X.K C mc) (c : SMet X.K C mc m0 q g) (hc : CallK X (.ref g) 0 ks (rF X.mg φ)) (hkw : MK X kws ns) (lk : ns.length = ks.length := by rfl) (hd : (x == ("__debug__" : Str)) = false := by decide)
    (hall : (backToKw pos (keywordEach kws X.env)).all (·.1.isSome) = true := by rfl) (hks : (backToKw pos (keywordEach kws X.env)).filterMap (·.1) = ks := by rfl)
    (hpl : ((backTo pos (starEach [] X.env)).any (·.1) || (backToKw pos (keywordEach kws X.env)).any (·.1.isNone)) = false := by rfl)
    (ht : eval (.Call (.Attribute (.Name x p) m0 apos) [] kws pos) X.env = (do
      let ov ← eval (.Name x p) X.env
      standAt apos.atName
      let (g, fst0) ← holding [ov] (getMethod ov m0 pl)
      callWith pos g fst0 (backTo pos (starEach [] X.env)) (backToKw pos (keywordEach kws X.env))) := by rfl) :
    ME X (.Call (.Attribute (.Name x p) m0 apos) [] kws pos) (mCall φ ns) := by
  constructor
  intro pins s σ H Q I h
  refine PySem.W.methodCall_KW (pl := pl) (ld_glob I hx hm ?_ hd) ht
  obtain ⟨rest, hrec⟩ := c.rc
  refine PySem.W.method_cls I.kIn r.ga (PySem.W.cls_bind I.kIn r.rd c.at_ (wpAny_call (PySem.W.sm_get (s := { s with toks := s.toks + 1 }) I.kIn hrec (PySem.W.handed_on rfl ?_))))
  have I1 := I.tok (s.toks + 1)
  refine PySem.W.callWith_KW0 (h₀ := X.base) I.ok.mod.kin c.kp hall (thn (hkw.run pos pins _ σ H _ I1 (tA_len (tM_F h))) ?_) hpl
  rintro ws s2 ⟨zs, H2, I2, rz, lz, q2⟩
  refine ⟨I2.kIn, ?_⟩
  rw [hks]
  exact hc pins s2 σ H2 [] zs [] ws Q I2 rfl (by rw [← rz.length, lz, lk]) .nil rz q2
/-- C.m(e, .., k = v, ..), m static -/
theorem me_staticK (hx : Gl X x) (hm : X.mg x = some (.ref C)) (r : ClX.CRead X.K C mc) (c : SMet X.K C mc m0 q g) (hc : CallK X (.ref g) n ks (rF X.mg φ)) (ha : MA X (e :: es) ms) (hkw : MK X kws ns) (ln : ms.length = n := by rfl) (lk : ns.length = ks.length := by rfl) (hd : (x == ("__debug__" : Str)) = false := by decide)
    (hall : (backToKw pos (keywordEach kws X.env)).all (·.1.isSome) = true := by rfl) (hks : (backToKw pos (keywordEach kws X.env)).filterMap (·.1) = ks := by rfl)
    (he : starEach (e :: es) X.env = (false, eval e X.env) :: starEach es X.env := by rfl)
    (hpl : ((backTo pos (starEach (e :: es) X.env)).any (·.1) || (backToKw pos (keywordEach kws X.env)).any (·.1.isNone)) = false := by rfl)
    (ht : eval (.Call (.Attribute (.Name x p) m0 apos) (e :: es) kws pos) X.env = (do
      let ov ← eval (.Name x p) X.env
      standAt apos.atName
      let (g, fst0) ← holding [ov] (getMethod ov m0 pl)
      callWith pos g fst0 (backTo pos (starEach (e :: es) X.env)) (backToKw pos (keywordEach kws X.env))) := by rfl) :
    ME X (.Call (.Attribute (.Name x p) m0 apos) (e :: es) kws pos) (mCall φ (ms ++ ns)) := by
  constructor
  intro pins s σ H Q I h
  refine PySem.W.methodCall_KW (pl := pl) (ld_glob I hx hm ?_ hd) ht
  obtain ⟨rest, hrec⟩ := c.rc
  refine PySem.W.method_cls I.kIn r.ga (PySem.W.cls_bind I.kIn r.rd c.at_ (wpAny_call (PySem.W.sm_get (s := { s with toks := s.toks + 1 }) I.kIn hrec (PySem.W.handed_on rfl ?_))))
  have I1 := I.tok (s.toks + 1)
  refine PySem.W.callWith_KW (h₀ := X.base) I.ok.mod.kin c.kp hall (thn (ha.run pos pins _ σ H _ I1 (tA_app (tM_F h))) ?_) hpl he
  rintro us s1 ⟨vs, H1, I2, rv, lv, q1⟩
  refine thn (hkw.run pos pins s1 σ H1 _ I2 q1) ?_
  rintro ws s2 ⟨zs, H2, I3, rz, lz, q2⟩
  refine ⟨I3.kIn, ?_⟩
  rw [hks]
  exact hc pins s2 σ H2 vs zs us ws Q I3 (by rw [← rv.length, lv, ln]) (by rw [← rz.length, lz, lk]) rv rz q2
/-- which def a class has at a name, called by n places and the keywords ks -/
structure MtkOf (X : Cx) (c : String) (m : Str) (n : Nat) (ks : List Str) (φ : Fn) (C f : Addr) : Prop where
  at_ : ClsAt X.mg c C
  cls : Cls X.K C
  mth : Meth X.K C m f
  call : CallK X (.ref f) n ks (rF X.mg φ)
def TkOk (X : Cx) (m : Str) (n : Nat) (ks : List Str) (tb : Tb) : Prop := ∀ c φ, tb.lookup c = some φ → ∃ C f, MtkOf X c m n ks φ C f
theorem TkOk.nil {m : Str} : TkOk X m n ks [] := fun c φ h => by cases h
theorem TkOk.cons {m : Str} {c : String} {φ : Fn} {tb : Tb} {C f : Addr} (h : MtkOf X c m n ks φ C f) (t : TkOk X m n ks tb) : TkOk X m n ks ((c, φ) :: tb) := fun c' φ' e => by
  rw [List.lookup_cons] at e
  by_cases hc : c' = c
  · subst hc
    simp at e
    subst e
    exact ⟨C, f, h⟩
  · have : (c' == c) = false := by simp [hc]
    rw [this] at e
    exact t c' φ' e
variable {o : Expr} {mo : M} {nn : String} {tb : Tb}
theorem meth_read {σ : L2.St} {H : Hp} {Q : VK} (T : TkOk X (Str.ofString nn) n ks tb) (h : tM X.mg (mMeth nn tb mo ms) σ H Q) :
    tM X.mg mo σ H fun v H1 => ∃ c φ C f a dx fs, v = .ref a ∧ MtkOf X c (Str.ofString nn) n ks φ C f ∧ H1 a = some (.ins C dx fs) ∧ fs.lookup (Str.ofString nn) = none ∧ tA X.mg ms σ H1 fun vs H2 => rF X.mg φ (.ref a :: vs) H2 Q := by
  obtain ⟨ρ, S, J, ι, d, S', er, sr, hm, q⟩ := h
  unfold mMeth at hm
  obtain ⟨⟨x, S1⟩, h1, hm⟩ := Option.bind_eq_some_iff.mp hm
  simp only at hm
  split at hm
  rotate_left
  · cases hm
  rename_i c gs htop
  split at hm
  rotate_left
  · cases hm
  rename_i φ hl hφ
  obtain ⟨⟨ds, S2⟩, h2, hm⟩ := Option.bind_eq_some_iff.mp hm
  obtain ⟨C, f, T1⟩ := T c φ hφ
  refine ⟨ρ, S, J, ι, x, S1, er, sr, h1, fun v1 H1 I1 ι1 l1 p1 s1 r1 => ?_⟩
  obtain ⟨a, C', dx, fs, rfl, hH, hd, hc, rf⟩ := seen_obj s1 r1 htop
  obtain rfl := cls_eq T1.at_ hc
  refine ⟨c, φ, C', f, a, dx, fs, rfl, T1, hH, rf.none_of hl, ρ, S1, I1, ι1, ds, S2, er.mono l1 p1, s1, h2, fun vs H2 I2 ι2 l2 p2 s2 r2 => ?_⟩
  exact ⟨x :: ds, S2, I2, ι2, d, S', .cons (r1.mono l2 p2) r2, s2, hm, q.mono (l1.trans l2) (p1.trans p2)⟩
theorem me_methK0 (hn : m0 = Str.ofString nn) (he : ME X o mo) (T : TkOk X m0 1 ks tb) (hkw : MK X kws ns) (lk : ns.length = ks.length := by rfl)
    (hall : (backToKw pos (keywordEach kws X.env)).all (·.1.isSome) = true := by rfl) (hks : (backToKw pos (keywordEach kws X.env)).filterMap (·.1) = ks := by rfl)
    (hpl : ((backTo pos (starEach [] X.env)).any (·.1) || (backToKw pos (keywordEach kws X.env)).any (·.1.isNone)) = false := by rfl)
    (ht : eval (.Call (.Attribute o m0 apos) [] kws pos) X.env = (do
      let ov ← eval o X.env
      standAt apos.atName
      let (g, fst0) ← holding [ov] (getMethod ov m0 pl)
      callWith pos g fst0 (backTo pos (starEach [] X.env)) (backToKw pos (keywordEach kws X.env))) := by rfl) :
    ME X (.Call (.Attribute o m0 apos) [] kws pos) (mMeth nn tb mo ns) := by
  subst hn
  constructor
  intro pins s σ H Q I h
  refine PySem.W.methodCall_KW (pl := pl) (thn (he.run pins s σ H _ I (meth_read T h)) ?_) ht
  rintro u s1 ⟨v, H1, I1, rx, c, φ, C, f, a, dx, fs, rfl, T1, ea, l, q2⟩
  cases rx
  refine getmeth_ok I1 ea T1.cls T1.mth l ?_
  refine PySem.W.callWith_KW0 (first := [.ref a]) (h₀ := X.base) I.ok.mod.kin T1.mth.kp hall (thn (hkw.run pos pins s1 σ H1 _ I1 (tA_len q2)) ?_) hpl
  rintro ws s2 ⟨zs, H2, I2, rz, lz, q3⟩
  refine ⟨I2.kIn, ?_⟩
  rw [hks]
  exact T1.call pins s2 σ H2 [.ref a] zs [.ref a] ws Q I2 rfl (by rw [← rz.length, lz, lk]) (.cons (show RelV (.ref a) (Value.ref a) from rfl) .nil) rz q3
theorem me_methK (hn : m0 = Str.ofString nn) (he0 : ME X o mo) (T : TkOk X m0 (n + 1) ks tb) (ha : MA X (e :: es) ms) (hkw : MK X kws ns) (ln : ms.length = n := by rfl) (lk : ns.length = ks.length := by rfl)
    (hall : (backToKw pos (keywordEach kws X.env)).all (·.1.isSome) = true := by rfl) (hks : (backToKw pos (keywordEach kws X.env)).filterMap (·.1) = ks := by rfl)
    (he : starEach (e :: es) X.env = (false, eval e X.env) :: starEach es X.env := by rfl)
    (hpl : ((backTo pos (starEach (e :: es) X.env)).any (·.1) || (backToKw pos (keywordEach kws X.env)).any (·.1.isNone)) = false := by rfl)
    (ht : eval (.Call (.Attribute o m0 apos) (e :: es) kws pos) X.env = (do
      let ov ← eval o X.env
      standAt apos.atName
      let (g, fst0) ← holding [ov] (getMethod ov m0 pl)
      callWith pos g fst0 (backTo pos (starEach (e :: es) X.env)) (backToKw pos (keywordEach kws X.env))) := by rfl) :
    ME X (.Call (.Attribute o m0 apos) (e :: es) kws pos) (mMeth nn tb mo (ms ++ ns)) := by
  subst hn
  constructor
  intro pins s σ H Q I h
  refine PySem.W.methodCall_KW (pl := pl) (thn (he0.run pins s σ H _ I (meth_read T h)) ?_) ht
  rintro u s1 ⟨v, H1, I1, rx, c, φ, C, f, a, dx, fs, rfl, T1, ea, l, q2⟩
  cases rx
  refine getmeth_ok I1 ea T1.cls T1.mth l ?_
  refine PySem.W.callWith_KW (first := [.ref a]) (h₀ := X.base) I.ok.mod.kin T1.mth.kp hall (thn (ha.run pos pins s1 σ H1 _ I1 (tA_app q2)) ?_) hpl he
  rintro us s2 ⟨vs, H2, I2, rv, lv, q3⟩
  refine thn (hkw.run pos pins s2 σ H2 _ I2 q3) ?_
  rintro ws s3 ⟨zs, H3, I3, rz, lz, q4⟩
  refine ⟨I3.kIn, ?_⟩
  rw [hks]
  exact T1.call pins s3 σ H3 (.ref a :: vs) zs (.ref a :: us) ws Q I3 (by simp [← rv.length, lv, ln]) (by rw [← rz.length, lz, lk]) (.cons (show RelV (.ref a) (Value.ref a) from rfl) rv) rz q4
end
end Mi
set_option Elab.async false
set_option linter.all false
set_option maxRecDepth 100000
namespace Mi
open PySem L2 PyProof.Rows StX
/-! ### repr -/
/-- a text that may be shown -/
def shownOk (p : PyData) : Prop := p.showable = true ∧ p.shown.length ≤ big ∧ ∀ c ∈ p.shown.cps.toList, c < 0x110000
open Classical in
noncomputable def fRepr0 (x : D) : Option D := if dataD 60 x = true ∧ shownOk (toPy x) then some (.str (toPy x).shown.cps.toList) else none
noncomputable def reprX (tb : Tb) (x : D) (S : Store) : Option (D × Store) := match top S x with
  | .obj _ _ => reprO tb x S
  | dx => (fRepr0 dx).map fun d => (d, S)
mutual
theorem toPy_noDict : ∀ x : D, (toPy x).hasDict = false
  | .non => rfl | .bl _ => rfl | .int _ => rfl | .str _ => rfl
  | .lst xs => by rw [toPy]; exact toPys_noDict xs
  | .tup xs => by rw [toPy]; exact toPys_noDict xs
  | .dct _ => by rw [toPy]; rfl
  | .obj _ _ => by rw [toPy]; rfl
  | .rf _ => by rw [toPy]; rfl
theorem toPys_noDict : ∀ xs : List D, PyData.hasDictAll (toPys xs) = false
  | [] => by rw [toPys]; rfl
  | x :: xs => by
    rw [toPys]
    show (PyData.hasDict (toPy x) || PyData.hasDictAll (toPys xs)) = false
    rw [toPy_noDict x, toPys_noDict xs]; rfl
end
section
variable {X : Cx} {k : Nat}
theorem toS_cps (x : Str) : toS x.cps.toList = x := by cases x; rfl
theorem cV_repr (hg : X.A.guards = some []) (hu : X.A.units + 64 < cLine) : CallR X (.builtin "repr") (fun vs H Q => ∃ S I ι v dx d, vs = [v] ∧ SR X.mg I ι S H ∧ Rep X.mg I ι v dx ∧ fRepr0 (top S dx) = some d ∧ After X.mg I ι S d Q) := by
  rintro pins s σ H xs us Q I r ⟨S, J, ι, v, dx, d, rfl, sr, rx, hm, q⟩
  unfold fRepr0 at hm
  split at hm
  rotate_left
  · cases hm
  rename_i hd
  cases hm
  obtain ⟨h1, h2, h3, h4⟩ := hd
  obtain ⟨u, rfl, ru⟩ := r.one
  obtain ⟨p1, p2, p3⟩ := top_data (K := X.K) sr rx h1
  obtain ⟨as, rd⟩ := Dp.reads I _ v u p1 ru
  have hz : (toPy (top S dx)).shown.length ≤ sizeLine := big_le h3
  have fin : ∀ {h' : Heap} {tk : Nat} {u' : Tok}, (∀ b o, s.heap.get? b = some o → h'.get? b = some o) → EP X pins σ Q (.str (toPy (top S dx)).shown u') { s with heap := h', toks := tk } := fun {h' tk u'} kp => by
    refine ⟨.str (toPy (top S dx)).shown, H, I.kept (t' := tk) kp, ⟨u', rfl⟩, ?_⟩
    have := q.now sr (.str (s := (toPy (top S dx)).shown.cps.toList) h4)
    rw [toS_cps] at this
    exact this
  cases e : top S dx with
  | non =>
    obtain rfl := seen_non sr rx e
    rw [e] at fin
    cases (show u = Value.none from ru)
    exact P.repr_of_none (fin fun _ _ z => z)
  | bl b =>
    obtain rfl := seen_bl sr rx e
    rw [e] at fin
    cases (show u = Value.bool b from ru)
    exact P.repr_of_bool (fin fun _ _ z => z)
  | int i =>
    obtain rfl := seen_int sr rx e
    rw [e] at fin h2
    obtain ⟨t, rfl⟩ := (show ∃ t, u = Value.int i t from ru)
    exact P.repr_of_int (of_decide_eq_true h2) (fin fun _ _ z => z)
  | str c =>
    obtain ⟨rfl, _⟩ := seen_str sr rx e
    rw [e] at fin hz
    obtain ⟨t, rfl⟩ := (show ∃ t, u = Value.str (toS c) t from ru)
    exact P.repr_of_str (fin fun _ _ z => z) hz
  | tup ds =>
    obtain ⟨a, ys, rfl, hH, _⟩ := seen_tup sr rx e
    cases (show u = Value.ref a from ru)
    exact repr_of_reads' rd h2 (PyData.noDict_hsm (toPy_noDict _)) hg (by omega) (fun _ _ z => z) (fun h' u tk kp => fin kp) hz
  | lst ds =>
    obtain ⟨a, ys, rfl, hH, _⟩ := seen_lst sr rx e
    cases (show u = Value.ref a from ru)
    exact repr_of_reads' rd h2 (PyData.noDict_hsm (toPy_noDict _)) hg (by omega) (fun _ _ z => z) (fun h' u tk kp => fin kp) hz
  | dct _ => rw [e] at h1; simp [dataD] at h1
  | obj _ _ => rw [e] at h1; simp [dataD] at h1
  | rf _ => rw [e] at h1; simp [dataD] at h1
theorem cX_repr {tb : Tb} (T : SpOk X "__repr__" k tb) (hr : Room (k + 1) X.A) (hg : X.A.guards = some []) : CallR X (.builtin "repr") (rO X.mg (reprX tb)) := by
  refine CallR.imp (CallR.or (cO_repr T hr hg) (cV_repr hg (by have := hr.un; omega))) ?_
  rintro vs H Q ⟨S, I, ι, x, dx, d, S', rfl, s, rx, hm, q⟩
  unfold reprX at hm
  split at hm
  · exact .inl ⟨S, I, ι, x, dx, d, S', rfl, s, rx, hm, q⟩
  · obtain ⟨w, h1, e⟩ := Option.map_eq_some_iff.mp hm
    cases e
    exact .inr ⟨S, I, ι, x, dx, d, rfl, s, rx, h1, q⟩
end
end Mi
set_option Elab.async false
set_option linter.all false
set_option maxRecDepth 100000
namespace Mi
open PySem L2 PyProof.Rows StX
/-! ### sorted, over data -/
def leD (a b : D) : Bool := !PySem.W.dataLt (toPy b) (toPy a)
def Sorts (xs : List D) : Prop := dataL 59 xs = true ∧ PySem.W.AllAlike (toPys xs) ∧ PySem.W.Sortable (toPys xs) ∧ xs.length ≤ big
open Classical in
noncomputable def fSorted : List D → Option D
  | [.lst xs] => if Sorts xs then some (.lst (xs.mergeSort leD)) else none
  | _ => none
section
variable {X : Cx}
theorem each_zip {mg : Str → Option Value} {J : Hp} {ι : Io} {R : Value → V × D → Prop} (f : ∀ v x u, Rep mg J ι v x → RelV v u → R u (v, x)) : ∀ {vs : List V} {xs : List D} {us : List Value}, Reps mg J ι vs xs → Vals vs us → PySem.W.EachIs R us (vs.zip xs)
  | _, _, _, .nil, .nil => .nil
  | _, _, _, .cons h t, .cons r rs => .cons (f _ _ _ h r) (each_zip f t rs)
theorem each_vals : ∀ {us : List Value} {bs : List (V × D)}, PySem.W.EachIs (fun u b => RelV b.1 u) us bs → Vals (bs.map (·.1)) us
  | _, _, .nil => .nil
  | _, _, .cons h t => .cons h (each_vals t)
theorem zip_reps {mg : Str → Option Value} {J : Hp} {ι : Io} : ∀ {bs : List (V × D)}, (∀ b ∈ bs, Rep mg J ι b.1 b.2) → Reps mg J ι (bs.map (·.1)) (bs.map (·.2))
  | [], _ => .nil
  | b :: bs, h => .cons (h b List.mem_cons_self) (zip_reps fun c hc => h c (List.mem_cons_of_mem _ hc))
theorem zip_rep {mg : Str → Option Value} {J : Hp} {ι : Io} : ∀ {vs : List V} {xs : List D}, Reps mg J ι vs xs → ∀ b ∈ vs.zip xs, Rep mg J ι b.1 b.2
  | _, _, .nil, b, h => by cases h
  | _, _, .cons g t, b, h => by
    rcases List.mem_cons.mp h with rfl | h
    · exact g
    · exact zip_rep t b h
theorem zip_snd {mg : Str → Option Value} {J : Hp} {ι : Io} : ∀ {vs : List V} {xs : List D}, Reps mg J ι vs xs → (vs.zip xs).map (·.2) = xs ∧ (vs.zip xs).length = xs.length
  | _, _, .nil => ⟨rfl, rfl⟩
  | _, _, .cons g t => ⟨by rw [List.zip_cons_cons, List.map_cons, (zip_snd t).1], by rw [List.zip_cons_cons, List.length_cons, (zip_snd t).2, List.length_cons]⟩
theorem each_reads {pins : List (Addr × Obj)} {s : Shared} {σ : L2.St} {H J : Hp} {ι : Io} (I : Inv X pins σ H s) (hJ : Le J H) : ∀ {ys : List V} {xs : List D} {its : List Value}, Reps X.mg J ι ys xs → Vals ys its → dataL 59 xs = true → PySem.W.EachIs (fun u (b : V × D) => ∃ as, Reads s.heap u (toPy b.2) as) its (ys.zip xs)
  | _, _, _, .nil, .nil, _ => .nil
  | _, _, _, .cons h t, .cons r rs, hd => by
    rw [dataL, Bool.and_eq_true] at hd
    exact .cons (Dp.reads I _ _ _ (h.dp (K := X.K) hJ hd.1) r) (each_reads I hJ t rs hd.2)
theorem cB_sorted (hu : X.A.units + 64 < cLine) : CallR X (.builtin "sorted") (rB X.mg fSorted) := by
  rintro pins s σ H vs us Q I r ⟨S, J, ι, ds, d, sr, rs, hf, q⟩
  unfold fSorted at hf
  split at hf
  rotate_left
  · cases hf
  rename_i xs hds
  split at hf
  rotate_left
  · cases hf
  rename_i hso
  cases hf
  obtain ⟨hd, hal, hsb, hbig⟩ := hso
  cases rs with
  | nil => cases hds
  | @cons v dx vs ds rv rvs =>
    rw [List.map_cons] at hds
    injection hds with htop hnil
    cases rvs with
    | cons _ _ => cases hnil
    | nil =>
      obtain ⟨a, ys, rfl, hH, ry⟩ := seen_lst sr rv htop
      obtain ⟨u, rfl, ru⟩ := r.one
      cases (show u = Value.ref a from ru)
      obtain ⟨its, rvl, pl, hz⟩ := I.list (.inl hH)
      have e : PySem.W.EachIs (fun u (b : V × D) => RelV b.1 u) its (ys.zip xs) := each_zip (fun v x u _ r => r) ry rvl
      have er : PySem.W.EachIs (fun u (b : V × D) => ∃ as, Reads s.heap u (toPy b.2) as) its (ys.zip xs) := by
        exact each_reads I sr.sub ry rvl hd
      have hmap : (ys.zip xs).map (fun b => toPy b.2) = toPys xs := by
        rw [toPys_map]
        have : (fun b : V × D => toPy b.2) = toPy ∘ (·.2) := rfl
        rw [this, ← List.map_map, (zip_snd ry).1]
      refine PySem.W.sorted_data (enc := fun b : V × D => toPy b.2) pl.isList e er (by rw [hmap]; exact hal) (by rw [hmap]; exact hsb) (by rw [(zip_snd ry).2]; exact big_le hbig) (fun b hb => ?_) fun out hlen eo => ?_
      · have h1 : b.2 ∈ xs := by
          rw [← (zip_snd ry).1]
          exact List.mem_map.mpr ⟨b, hb, rfl⟩
        have h2 := (zip_rep ry b hb).lay (dataL_mem hd _ h1)
        have := h2.2
        omega
      · obtain ⟨ep, he'⟩ := PyProof.Rows.sortedAll_at s.heap its out.toArray
        have hv := each_vals eo
        have hn : H (s.heap.objs.size + 1) = none := I.hok.fresh (Nat.le_succ _)
        have hl2 : (((ys.zip xs).mergeSort (PySem.W.dataLe false fun b : V × D => toPy b.2)).map (·.1)).length ≤ sizeLine := by
          rw [List.length_map, List.length_mergeSort, (zip_snd ry).2]; exact big_le hbig
        obtain ⟨s', l'⟩ := sr.laid (o := .lst (((ys.zip xs).mergeSort (PySem.W.dataLe false fun b : V × D => toPy b.2)).map (·.1))) hn
        refine ⟨.ref _, upd H (s.heap.objs.size + 1) (.lst (((ys.zip xs).mergeSort (PySem.W.dataLe false fun b : V × D => toPy b.2)).map (·.1))), I.laid (t' := s.toks) (fun _ _ => PyProof.Rows.sortedAll_old) (Nat.le_succ _) ⟨hl2, out, ep, hv, he'⟩, rfl, ?_⟩
        refine (q.mono l' Pre.refl).now s' (.lst upd_same ?_)
        have hm : ((ys.zip xs).mergeSort (PySem.W.dataLe false fun b : V × D => toPy b.2)).map (·.2) = xs.mergeSort leD := by
          rw [List.map_mergeSort (s := leD) (r := PySem.W.dataLe false fun b : V × D => toPy b.2) (fun a _ b _ => rfl), (zip_snd ry).1]
        rw [← hm]
        refine (zip_reps fun b hb => ?_).mono l' Pre.refl
        exact zip_rep ry b ((List.mergeSort_perm _ _).mem_iff.mp hb)
end
end Mi
set_option Elab.async false
set_option linter.all false
set_option maxRecDepth 100000
/-! Ss: set(xs), by an invariant of the set that grows; sets of texts. -/
namespace SetW
open PySem PySem.Spec PyProof.Rows L2 PySem.Froz
abbrev newSet (w : World) : Obj := { cls := .type "set", dict := none, data := .set #[] 0 (.fresh 0 0 (!w.params.followText "set-order")) }
section
variable {P : Program} {w : World} {A : Around} {E : Value → Shared → Prop} {s : Shared}
theorem loop_any {I : Addr} {fp wr : List Addr} {G : Array GenState → Array GenState → Prop} {n : Nat} {Pv : Nat → Value → Prop} {St : Nat → Shared → Prop} {R : Result → Shared → Prop} (W : WalksS P w A.in1 I fp wr G n Pv St) (S : Addr) (hSf : S ∉ fp)
    (h0 : Heap) (hw0 : ∀ b ∈ wr, h0.get? b = none) (hS0 : h0.get? S = none) (J : Nat → Heap → Prop) (keep : ∀ i h h', J i h → (∀ o, h.get? S = some o → h'.get? S = some o) → J i h')
    (step : ∀ (i : Nat) (v : Value) (s : Shared) (Q : Bool → Shared → Prop), i < n → Pv i v → (∀ b o, h0.get? b = some o → s.heap.get? b = some o) → J i s.heap →
      (∀ h' b tk, s.toks ≤ tk → Heap.SameBut S s.heap h' → J (i + 1) h' → Q b { s with heap := h', toks := tk }) → wpAny (model P w) A.in1 (setAdd S v) Q (fun e s' => R (.error e) s') s) :
    ∀ (k i : Nat) (s : Shared), n - i = k → i ≤ n → St i s → (∀ b o, h0.get? b = some o → s.heap.get? b = some o) → J i s.heap →
      (∀ s', Moved (S :: wr) G s s' → J n s'.heap → (∀ b o, h0.get? b = some o → s'.heap.get? b = some o) → R (.ok (.ret .none)) s') → codeAny (model P w) A (.builtin "set.update.loop" ⟨[.ref S, .ref I], []⟩) R s := by
  have hSw : S ∉ wr := fun h => hSf (W.sub _ h)
  have hsub : ∀ b ∈ wr, b ∈ S :: wr := fun b hb => List.mem_cons_of_mem _ hb
  have keepM : ∀ {s s' : Shared}, Moved wr G s s' → (∀ b o, h0.get? b = some o → s.heap.get? b = some o) → ∀ b o, h0.get? b = some o → s'.heap.get? b = some o := fun hm hkp b o e =>
    hm.heap b o (fun hb => by rw [hw0 b hb] at e; cases e) (hkp b o e)
  intro k
  induction k with
  | zero =>
    intro i s hk' hi hst hkp hJ hR
    obtain rfl : i = n := by omega
    refine codeAny_builtin PyProof.Rows.F.entry_set_update_loop ?_
    rw [Around.under_plainId PyProof.Rows.F.plain_set_update_loop _]
    show wpAny _ A.in1 (pyNext (.ref I) >>= _) _ _ s
    refine wpAny_bind (W.done s _ _ hst fun s' hm => ?_)
    show wpAny _ A.in1 (ret Value.none) _ _ s'
    exact wpAny_pure (hR s' (hm.mono hsub) (keep _ _ _ hJ fun o e => hm.heap S o hSw e) (keepM hm hkp))
  | succ k ih =>
    intro i s hk' hi hst hkp hJ hR
    have hlt : i < n := by omega
    refine codeAny_builtin PyProof.Rows.F.entry_set_update_loop ?_
    rw [Around.under_plainId PyProof.Rows.F.plain_set_update_loop _]
    show wpAny _ A.in1 (pyNext (.ref I) >>= _) _ _ s
    refine wpAny_bind (W.item i s _ _ hlt hst fun v s' hP hst' hm => ?_)
    have hkp' := keepM hm hkp
    show wpAny _ A.in1 (holding [v] (setAdd S v) >>= _) _ _ s'
    refine wpAny_bind (wpAny_holding (step i v s' _ hlt hP hkp' (keep _ _ _ hJ fun o e => hm.heap S o hSw e) fun h' b tk htk hsb hJ' => ?_))
    have hkp2 : ∀ b o, h0.get? b = some o → h'.get? b = some o := fun b o e => (hsb.2 b (fun z => by rw [z, hS0] at e; cases e)).trans (hkp' b o e)
    refine wpAny_pure ⟨plainId_quiet PyProof.Rows.F.plain_set_update_loop _, ih (i + 1) _ (by omega) hlt (W.frame _ s' _ _ hst' htk fun b hb o e => ?_) hkp2 hJ' fun s'' hm'' hJ'' hkp'' => ?_⟩
    · rw [hsb.2 b (fun h : b = S => hSf (by rw [← h]; exact hb))]; exact e
    · refine hR s'' (Moved.trans W.gtrans ((hm.mono hsub).then_heap htk fun b o hb e => ?_) hm'') hJ'' hkp''
      rw [hsb.2 b (fun h : b = S => hb (by rw [h]; exact List.mem_cons_self))]; exact e
end
section
variable {P : Program} {w : World}
/-- the set at a holds the texts l -/
def StrSet (P : Program) (w : World) (h : Heap) (a : Addr) (l : List Str) : Prop :=
  ∃ D, h.get? a = some (sObj "set" D) ∧ TxOk P w D l ∧ l.Nodup ∧ Ris D.2.2.place.toList ∧ (w.params.followText "set-order" = true ∨ D.2.2.led = true)
theorem StrSet.keep {h h' : Heap} {a : Addr} {l : List Str} (R : StrSet P w h a l) (k : ∀ o, h.get? a = some o → h'.get? a = some o) : StrSet P w h' a l := by
  obtain ⟨D, h1, r⟩ := R
  exact ⟨D, k _ h1, r⟩
theorem tail_rl {ep : Nat} {es1 : Array (Int × Value)} {t2 : SetTable} {wd : Bool} (hr : Ris t2.place.toList) : Ris (tailTx ep es1 t2 wd).2.2.place.toList ∧ (tailTx ep es1 t2 wd).2.2.led = t2.led := by
  unfold tailTx
  split
  · exact ⟨relayAll_ris t2 es1 _, relayAll_led t2 es1 _⟩
  · exact ⟨hr, rfl⟩
theorem add_rl {h : Int} {v : Value} {D : SD} (hr : Ris D.2.2.place.toList) : Ris (addTx h v D).2.2.place.toList ∧ (addTx h v D).2.2.led = D.2.2.led := by
  have h1 := layNew_ris D.2.2 D.1 h v hr
  have h2 := layNew_led D.2.2 D.1 h v
  unfold addTx
  split
  · obtain ⟨a, b⟩ := tail_rl (ep := D.2.1) (es1 := (layNew D.2.2 D.1 h v).1) (t2 := { (layNew D.2.2 D.1 h v).2.1 with plain := false }) (wd := (layNew D.2.2 D.1 h v).2.2.1) h1
    exact ⟨a, b.trans h2⟩
  · obtain ⟨a, b⟩ := tail_rl (ep := D.2.1) (es1 := (layNew D.2.2 D.1 h v).1) (t2 := (layNew D.2.2 D.1 h v).2.1) (wd := (layNew D.2.2 D.1 h v).2.2.1) h1
    exact ⟨a, b.trans h2⟩
variable {A : Around} {E : Value → Shared → Prop} {s : Shared}
theorem add_str {a : Addr} {l : List Str} {k : Str} {u : Tok} {Q : Bool → Shared → Prop} (R : StrSet P w s.heap a l) (hb : l.length + 1 < scanBound)
    (hQ : ∀ h' b, Heap.SameBut a s.heap h' → StrSet P w h' a (if k ∈ l then l else k :: l) → Q b { s with heap := h' }) : wpAny (model P w) A (setAddHashed a (.str k u) (hashStr w k)) Q E s := by
  obtain ⟨D, ho, F, nd, hr, hl⟩ := R
  by_cases hk : k ∈ l
  · obtain ⟨es, ep, t⟩ := D
    have hd : (sObj "set" (es, ep, t)).data = .set es ep t := rfl
    have hf : t.fits es.size = true := F.fit
    have hel : ElemsOf (strKind P w) es.toList := F.el
    have hsz : es.size = l.length := F.sz
    have hkey : (strKind P w).is k (.str k u) = true := is_str k u
    unfold setAddHashed setAddHashedIn
    refine wpAny_holding (wpAny_bind (wpAny_setState_of ho hd hf ?_))
    dsimp only
    rw [byScan_of rfl (by omega) hel]
    simp only [↓reduceIte]
    unfold setAddByScan
    refine wpAny_bind (wpAny_bind (wpAny_rule (wpAny_bind (wpAny_setScan_of (knd := strKind P w) (k := k) hkey ho hd hf hel ?_))))
    cases hfi : List.findIdx? (fun e => (strKind P w).is k e.2) es.toList with
    | none =>
      obtain ⟨e, he, q⟩ := (F.mem k).mp hk
      have c := List.findIdx?_eq_none_iff.mp hfi e he
      rw [q] at c; cases c
    | some j =>
      dsimp only
      exact wpAny_pure (wpAny_pure (hQ s.heap false (Heap.SameBut.refl a s.heap) (by rw [if_pos hk]; exact ⟨_, ho, F, nd, hr, hl⟩)))
  · refine add_x ho F hk hb (hQ _ true (Heap.SameBut.update s.heap a _) ?_)
    rw [if_neg hk]
    have rl := add_rl (h := hashStr w k) (v := .str k u) hr
    exact ⟨_, get_upd _ ho rfl, add_ok u F, List.nodup_cons.mpr ⟨hk, nd⟩, rl.1, hl.imp id fun z => by rw [rl.2]; exact z⟩
theorem fresh_str {h : Heap} {a : Addr} (ho : h.get? a = some (newSet w)) : StrSet P w h a [] :=
  ⟨(#[], 0, .fresh 0 0 (!w.params.followText "set-order")), ho, TxOk.nil (by rfl), List.nodup_nil, List.Pairwise.nil, by
    show _ ∨ (!w.params.followText "set-order") = true
    cases w.params.followText "set-order"
    · exact .inr rfl
    · exact .inl rfl⟩
end
section
variable {P : Program} {w : World} {A : Around} {E : Value → Shared → Prop} {s : Shared}
set_option maxHeartbeats 3200000 in
/-- set(xs): J i tells of the set when i items were added -/
theorem call_set_any {l : Addr} {items : Array Value} {Q : Value → Shared → Prop} (J : Nat → Heap → Prop) (hh : A.handled = none) (hl : s.heap.IsList l items) (hJ0 : ∀ h : Heap, h.get? s.heap.objs.size = some (newSet w) → J 0 h)
    (keep : ∀ i (h h' : Heap), J i h → (∀ o, h.get? s.heap.objs.size = some o → h'.get? s.heap.objs.size = some o) → J i h')
    (step : ∀ (A' : Around) (E' : Value → Shared → Prop) (i : Nat) (v : Value) (s' : Shared) (Q' : Bool → Shared → Prop), A'.units = A.units + 3 → i < items.size → items[i]? = some v → (∀ b o, s.heap.get? b = some o → s'.heap.get? b = some o) → J i s'.heap →
      (∀ h' b tk, s'.toks ≤ tk → Heap.SameBut s.heap.objs.size s'.heap h' → J (i + 1) h' → Q' b { s' with heap := h', toks := tk }) → wpAny (model P w) A' (setAdd s.heap.objs.size v) Q' E' s')
    (h : ∀ (h' : Heap) (tk : Nat), J items.size h' → (∀ b o, s.heap.get? b = some o → h'.get? b = some o) → Q (.ref s.heap.objs.size) { s with heap := h', toks := tk }) :
    wpAny (model P w) A (call (.type "set") [.ref l]) Q E s := by
  obtain ⟨c, tl, hmro⟩ := PySem.F.called_set.mro
  have hmade := PySem.F.called_set.made
  have hsub := PySem.F.called_set.sub
  refine wpAny_call (codeAny_of_tree ?_)
  show wpAny _ _ (callAny (.type "set") _) _ _ _
  refine wpAny_pure ⟨Code.quiet_builtin _ (by decide +kernel), codeAny_builtin PySem.F.entry_type_call ?_⟩
  rw [Around.under_plain (weight_type_call_type "set" [.ref l] []) rfl]
  have h1 := PySem.F.called_set.notType
  have h2 := PySem.F.called_set.canCreate
  have hct := PySem.F.typeCall_set_1 (.ref l)
  repeat (any_goals (first | assumption | wp_step))
  refine codeAny_mono (code_set_led1 (.ref l) (E := E) (Q₁ := fun obj s₁ => obj = .ref s.heap.objs.size ∧ s₁ = { s with heap := s.heap.push (newSet w) }) ⟨rfl, rfl⟩) fun r s₁ hr => ?_
  cases r with
  | error e => exact hr
  | ok fl =>
    cases fl with
    | ret obj =>
      obtain ⟨rfl, rfl⟩ := hr
      have hS : (s.heap.push (newSet w)).get? s.heap.objs.size = some (newSet w) := Heap.get?_push_size _ rfl
      have hT : Shared.TypeIs { s with heap := s.heap.push (newSet w) } (.ref s.heap.objs.size) "set" := ⟨_, hS, rfl⟩
      have hli := PySem.F.called_set.init.lookup
      have hbi := PySem.F.called_set.init.bind (.ref s.heap.objs.size)
      repeat (any_goals (first | assumption | wp_step))
      refine codeAny_mono (codeAny_call_builtin (R := wants (fun r s₂ => r = .none ∧ ∃ h' tk, s₂ = { s with heap := h', toks := tk } ∧ J items.size h' ∧ (∀ b o, s.heap.get? b = some o → h'.get? b = some o)) E) PySem.F.called_set.init.plain PySem.F.entry_set_init (check_set_init_1 hT ?_)) fun r₂ s₂ hr₂ => ?_
      · obtain ⟨ol, hol, hcl, nl, hdl⟩ := hl
        obtain ⟨ocls, odict, odata, oslots⟩ := ol
        simp only at hcl hdl
        subst hcl; subst hdl
        have hol' : (s.heap.push (newSet w)).get? l = some { cls := .type "list", dict := odict, data := .seq items nl, slots := oslots } := Heap.get?_push_of_some _ hol
        have hsls := PySem.F.sub_list_set
        have hslf := PySem.F.sub_list_frozenset
        have hne : (Value.type "list" == Value.type "dict") = false := by decide
        have hl1 : (s.heap.push (newSet w)).IsList l items := ⟨_, hol', rfl, nl, rfl⟩
        unfold Builtin.«set.__init__» noKeywords Builtin.Frozenset.updateFrom
        generalize hPI : pyIter = PI
        wp_walk
        subst hPI
        refine wpAny_pyIter_list hl1 ?_
        refine wpAny_bind (wpAny_runValue ?_)
        have hlS : l < s.heap.objs.size := Heap.lt_size hol
        have hh3 : A.in1.in1.in1.handled = none := by simp [hh]
        have hneI : l ≠ (s.heap.push (newSet w)).objs.size := by
          rw [Heap.size_push]; exact Nat.ne_of_lt (Nat.lt_succ_of_lt hlS)
        have hSf : s.heap.objs.size ∉ [(s.heap.push (newSet w)).objs.size, l] := by
          rw [Heap.size_push]; simp only [List.mem_cons, List.mem_singleton, List.not_mem_nil, or_false, not_or]
          exact ⟨Nat.ne_of_lt (Nat.lt_succ_self _), Nat.ne_of_gt hlS⟩
        have none_of : ∀ b, s.heap.objs.size ≤ b → s.heap.get? b = none := fun b hb => by
          cases q : s.heap.get? b with
          | none => rfl
          | some o => exact absurd (Nat.lt_of_lt_of_le (Heap.lt_size q) hb) (Nat.lt_irrefl _)
        refine loop_any ((Walks.list hh3 _ l hneI items).toS) s.heap.objs.size hSf s.heap (fun b hb => none_of b (by
            rw [List.mem_singleton.mp hb, Heap.size_push]
            exact Nat.le_succ _)) (none_of _ (Nat.le_refl _)) J keep (fun i v s' Q' hi hv hkp hJ hQ' => step _ _ i v s' Q' rfl hi hv hkp hJ hQ') (items.size - 0) 0 _ (by omega) (Nat.zero_le _)
          ⟨⟨_, Heap.get?_push_size _ rfl, rfl, rfl⟩, (hl1.push _)⟩ (fun b o e => Heap.get?_push_of_some _ (Heap.get?_push_of_some _ e)) (hJ0 _ (Heap.get?_push_of_some _ hS)) ?hR
        case hR =>
          intro s' hm hJ' hkp
          obtain ⟨h', g2, d', tk', os'⟩ := s'
          have eg : g2 = s.gens := hm.gens
          have ed : d' = s.drawn := hm.drawn
          have eo : os' = s.os := hm.os
          subst eg; subst ed; subst eo
          show wpAny _ _ _ _ _ _
          refine wpAny_pure ?_
          show wpAny _ _ (ret Value.none) _ _ _
          exact wpAny_pure ⟨rfl, h', tk', rfl, hJ', hkp⟩
      · cases r₂ with
        | error e => exact hr₂
        | ok fl₂ =>
          cases fl₂ with
          | ret r =>
            obtain ⟨rfl, h', tk, rfl, hJ', hk'⟩ := hr₂
            repeat (any_goals (first | assumption | wp_step))
            exact h _ _ hJ' hk'
          | _ => exact hr₂.elim
    | _ => exact hr.elim
end
end SetW
set_option Elab.async false
set_option linter.all false
set_option maxRecDepth 100000
namespace SetW
open PySem PySem.Spec PyProof.Rows L2 PySem.Froz
section
variable {P : Program} {w : World} {A : Around} {E : Value → Shared → Prop} {s : Shared}
theorem perm_of_sub {α : Type} : ∀ {l bs : List α}, l.Nodup → (∀ x ∈ l, x ∈ bs) → bs.length ≤ l.length → bs.Perm l
  | [], bs, _, _, hn => by
    have : bs = [] := List.eq_nil_of_length_eq_zero (by simpa using hn)
    rw [this]
  | x :: l, bs, nd, hs, hn => by
    obtain ⟨s1, s2, rfl⟩ := List.append_of_mem (hs x List.mem_cons_self)
    have hx : x ∉ l := (List.nodup_cons.mp nd).1
    have ih := perm_of_sub (l := l) (bs := s1 ++ s2) (List.nodup_cons.mp nd).2 (fun y hy => by
      have := hs y (List.mem_cons_of_mem _ hy)
      rcases List.mem_append.mp this with h | h
      · exact List.mem_append_left _ h
      · rcases List.mem_cons.mp h with h | h
        · subst h; exact absurd hy hx
        · exact List.mem_append_right _ h) (by simp at hn ⊢; omega)
    exact List.perm_middle.trans (ih.cons x)
def isS (u : Value) (x : Str) : Prop := ∃ t, u = .str x t
theorem vals_of_es {es : List (Int × Value)} (h : ElemsOf (strKind P w) es) : ∃ bs : List Str, PySem.W.EachIs isS (es.map (·.2)) bs ∧ ∀ e ∈ es, ∀ k, (strKind P w).is k e.2 = true → k ∈ bs := by
  induction es with
  | nil => exact ⟨[], .nil, fun e he => by cases he⟩
  | cons e es ih =>
    obtain ⟨bs, h1, h2⟩ := ih fun d hd => h d (List.mem_cons_of_mem _ hd)
    obtain ⟨⟨k, hk, _⟩, _⟩ := h e List.mem_cons_self
    have hs : ∃ t, e.2 = .str k t := by
      have : Value.isStrOf k e.2 = true := hk
      cases he : e.2 <;> rw [he] at this <;> simp [Value.isStrOf] at this
      rename_i x t
      subst this
      exact ⟨t, rfl⟩
    refine ⟨k :: bs, .cons hs h1, fun d hd k' hk' => ?_⟩
    rcases List.mem_cons.mp hd with rfl | hd
    · rw [(strKind P w).inj _ k' k hk' hk]; exact List.mem_cons_self
    · exact List.mem_cons_of_mem _ (h2 d hd k' hk')
theorem each_perm {α β : Type} {R : α → β → Prop} : ∀ {as as' : List α} {bs : List β}, as'.Perm as → PySem.W.EachIs R as bs → ∃ bs', bs'.Perm bs ∧ PySem.W.EachIs R as' bs' := by
  intro as as' bs p
  induction p generalizing bs with
  | nil => intro h; exact ⟨bs, .refl _, h⟩
  | cons x p ih =>
    intro h
    cases h with
    | cons r t => obtain ⟨bs', p', h'⟩ := ih t; exact ⟨_, p'.cons _, .cons r h'⟩
  | swap x y l =>
    intro h
    cases h with
    | cons r t => cases t with
      | cons r' t' => exact ⟨_, .swap _ _ _, .cons r' (.cons r t')⟩
  | trans p1 p2 ih1 ih2 =>
    intro h
    obtain ⟨b1, q1, h1⟩ := ih2 h
    obtain ⟨b2, q2, h2⟩ := ih1 h1
    exact ⟨b2, q2.trans q1, h2⟩
/-- sorted(s), s a set of texts -/
theorem sorted_strSet {a : Addr} {l : List Str} {Q : Value → Shared → Prop} (R : StrSet P w s.heap a l) (hh : A.handled = none) (hb : l.length < scanBound) (hu : A.units + 64 < cLine)
    (hQ : ∀ s' p (out : List Value) (bs : List Str) (c : Nat), (∀ b o, s.heap.get? b = some o → s'.heap.get? b = some o) → s'.gens = s.gens → s'.os = s.os → s.heap.objs.size ≤ p → s'.heap.get? p = some (seqObj "list" out.toArray c) →
      bs.Perm l → PySem.W.EachIs isS out (bs.mergeSort (PySem.W.dataLe false fun x => PyData.str x)) → Q (.ref p) s') :
    wpAny (model P w) A (call (.builtin "sorted") [.ref a]) Q E s := by
  obtain ⟨⟨es, ep, t⟩, ho, F, nd, hr, hl⟩ := R
  have hsz : es.size = l.length := F.sz
  refine Calls.call_function_entry kind_sorted plain_sorted entry_sorted (args_sorted1 _) ?_
  unfold Builtin.«sorted»
  refine wpAny_bind (m := checkCount "sorted" 1 1 _) (wpAny_pure ?_)
  refine wpAny_bind (collect_set (A := A.in1) hh ⟨_, ho, rfl, rfl⟩ F.fit (by show es.size < scanBound; rw [hsz]; exact hb) hr hl fun s1 vs k1 hz g1 o1 pm => ?_)
  obtain ⟨b0, e0, m0⟩ := vals_of_es F.el
  obtain ⟨bs, pb, eb⟩ := each_perm pm e0
  have hb0 : b0.length = l.length := by
    have q : (es.toList.map (·.2)).length = b0.length := e0.length
    rw [List.length_map, Array.length_toList, hsz] at q
    exact q.symm
  have pl : bs.Perm l := pb.trans (perm_of_sub nd (fun x hx => by
    obtain ⟨e, he, hk⟩ := (F.mem x).mp hx
    exact m0 e he x hk) (by omega))
  have hvl : vs.length = bs.length := eb.length
  have hbl : bs.length = l.length := pl.length_eq
  have h4 : l.length < 4096 := hb
  refine wpAny_bind (wpAny_newList ?_ (by rw [sizeLine_eq]; omega))
  have hoL : (s1.heap.push (seqObj "list" vs.toArray 0)).get? s1.heap.objs.size = some (seqObj "list" vs.toArray 0) := Heap.get?_push_size _ rfl
  have er : PySem.W.EachIs (fun (u : Value) (x : Str) => ∃ as, Reads (s1.heap.push (seqObj "list" vs.toArray 0)) u (PyData.str x) as ∧ s1.heap.objs.size ∉ as) vs bs := eb.mono fun u x hx => by
    obtain ⟨t, rfl⟩ := hx
    refine ⟨[], .str x t, ?_⟩
    simp
  refine wpAny_bind (wpAny_holding (PySem.W.list_sort_data (s := { s1 with heap := s1.heap.push (seqObj "list" vs.toArray 0) }) (R := isS) (enc := fun x => PyData.str x) hoL eb er (PySem.W.AllAlike.of fun _ _ => rfl) (PySem.W.Sortable.others fun b => ⟨(fun z => nomatch z), (fun xs z => nomatch z)⟩) (by rw [sizeLine_eq]; omega) (fun b _ => by
      show A.units + 1 + 1 + 0 < cLine
      omega) fun out hlen eo => ?_))
  obtain ⟨c, hc⟩ := sortedHeap_at (vs := vs) (out := out.toArray) hoL
  refine wpAny_pure ⟨_, rfl, hQ _ s1.heap.objs.size out bs c (fun b u e => ?_) g1 o1 hz hc pl eo⟩
  have q := k1 b u e
  have hlt := Heap.lt_size q
  show (sortedHeap (s1.heap.push (seqObj "list" vs.toArray 0)) s1.heap.objs.size vs out.toArray).get? b = some u
  rw [sortedHeap_old (Nat.ne_of_lt hlt) (by rw [size_push']; exact Nat.lt_succ_of_lt hlt)]
  exact Heap.get?_push_of_some _ q
end
end SetW
set_option Elab.async false
set_option linter.all false
set_option maxRecDepth 100000
namespace Mi
open PySem L2 PyProof.Rows StX SetW
/-! ### sorted(set(..)) of texts -/
def ded (ts : List (List Nat)) : List (List Nat) := ts.foldl (fun acc t => if t ∈ acc then acc else t :: acc) []
def leS (a b : List Nat) : Bool := decide (a ≤ b)
def fSortSet : List D → Option D
  | [.lst xs] => (asStrs xs).bind fun ts => if ts.length ≤ 4000 then some (.lst (((ded ts).mergeSort leS).map .str)) else none
  | _ => none
def StrO (P : Program) (w : World) (a : Addr) (l : List Str) : HO := .ext fun h => StrSet P w h a l
theorem strO_new {P : Program} {w : World} {H : Hp} {h : Heap} {a : Addr} {l : List Str} (R : StrSet P w h a l) : ObjOk P w H h a (StrO P w a l) := by
  have ⟨D, ho, _⟩ := R
  exact ⟨R, ⟨_, ho⟩, fun h1 h2 p k => p.keep k⟩
theorem ded_go : ∀ (ts acc : List (List Nat)), acc.Nodup → (ts.foldl (fun acc t => if t ∈ acc then acc else t :: acc) acc).Nodup ∧ (∀ x, x ∈ ts.foldl (fun acc t => if t ∈ acc then acc else t :: acc) acc ↔ x ∈ ts ∨ x ∈ acc) ∧ (ts.foldl (fun acc t => if t ∈ acc then acc else t :: acc) acc).length ≤ ts.length + acc.length
  | [], acc, h => ⟨h, fun x => by simp, by simp⟩
  | t :: ts, acc, h => by
    rw [List.foldl_cons]
    by_cases ht : t ∈ acc
    · rw [if_pos ht]
      obtain ⟨a, b, c⟩ := ded_go ts acc h
      refine ⟨a, fun x => (b x).trans ⟨fun h => h.elim (fun h => .inl (List.mem_cons_of_mem _ h)) .inr, fun h => h.elim (fun h => (List.mem_cons.mp h).elim (fun e => .inr (e ▸ ht)) .inl) .inr⟩, by rw [List.length_cons]; omega⟩
    · rw [if_neg ht]
      obtain ⟨a, b, c⟩ := ded_go ts (t :: acc) (List.nodup_cons.mpr ⟨ht, h⟩)
      refine ⟨a, fun x => (b x).trans ?_, by rw [List.length_cons] at c ⊢; omega⟩
      simp only [List.mem_cons]
      constructor
      · rintro (h | h | h)
        · exact .inl (.inr h)
        · exact .inl (.inl h)
        · exact .inr h
      · rintro ((h | h) | h)
        · exact .inr (.inl h)
        · exact .inl h
        · exact .inr (.inr h)
theorem ded_ok (ts : List (List Nat)) : (ded ts).Nodup ∧ (∀ x, x ∈ ded ts ↔ x ∈ ts) ∧ (ded ts).length ≤ ts.length := by
  obtain ⟨a, b, c⟩ := ded_go ts [] List.nodup_nil
  exact ⟨a, fun x => (b x).trans (by simp), c⟩
theorem ded_snoc (ts : List (List Nat)) (t : List Nat) : ded (ts ++ [t]) = if t ∈ ded ts then ded ts else t :: ded ts := by
  unfold ded
  rw [List.foldl_append]
  rfl
theorem mem_toS {t : List Nat} {l : List (List Nat)} : toS t ∈ l.map toS ↔ t ∈ l := by
  rw [List.mem_map]
  exact ⟨fun ⟨u, hu, e⟩ => toS_inj e ▸ hu, fun h => ⟨t, h, rfl⟩⟩
theorem leS_trans (a b c : List Nat) (h1 : leS a b = true) (h2 : leS b c = true) : leS a c = true := decide_eq_true (List.le_trans (of_decide_eq_true h1) (of_decide_eq_true h2))
theorem leS_total (a b : List Nat) : (leS a b || leS b a) = true := by
  rcases List.le_total a b with h | h
  · simp [leS, h]
  · simp [leS, h]
theorem sort_perm {a b : List (List Nat)} (h : a.Perm b) : a.mergeSort leS = b.mergeSort leS :=
  List.Perm.eq_of_pairwise (le := fun x y => leS x y = true) (fun x y _ _ h1 h2 => List.le_antisymm (of_decide_eq_true h1) (of_decide_eq_true h2)) (List.pairwise_mergeSort leS_trans leS_total a) (List.pairwise_mergeSort leS_trans leS_total b)
    (((List.mergeSort_perm a leS).trans h).trans (List.mergeSort_perm b leS).symm)
theorem reps_strL {mg : Str → Option Value} {I : Hp} {ι : Io} : ∀ {l : List (List Nat)}, (∀ t ∈ l, ∀ c ∈ t, c < 0x110000) → Reps mg I ι (l.map fun t => V.str (toS t)) (l.map D.str)
  | [], _ => .nil
  | t :: l, h => .cons (.str (h t List.mem_cons_self)) (reps_strL fun u hu => h u (List.mem_cons_of_mem _ hu))
section
variable {X : Cx}
theorem cr_setS (hc : X.calm = true) : CallR X (.type "set") (fun vs H Q => ∃ (a : Addr) (ts : List (List Nat)), vs = [V.ref a] ∧ Rd H a (.lst (ts.map fun t => V.str (toS t))) ∧ ts.length ≤ 4000 ∧ ∀ p, H p = none → Q (.ref p) (upd H p (StrO X.prog X.w p ((ded ts).map toS)))) := by
  rintro pins s σ H vs us Q I r ⟨a, ts, rfl, hH, hz, q⟩
  obtain ⟨u, rfl, ru⟩ := r.one
  cases (show u = Value.ref a from ru)
  obtain ⟨its, rv, pl, hl⟩ := I.list (.inl hH)
  have hlen : its.length = ts.length := by rw [← rv.length, List.length_map]
  refine call_set_any (P := X.prog) (w := X.w) (fun i h => StrSet X.prog X.w h s.heap.objs.size ((ded (ts.take i)).map toS)) (I.ok.hd hc) pl.isList (fun h ho => fresh_str ho) (fun i h h' R k => R.keep k) (fun A' E' i v s' Q' hu hi hv hkp R hQ => ?_) fun h' tk R k => ?_
  · have hi' : i < ts.length := by rw [← hlen]; simpa using hi
    have hv' : its[i]? = some v := by simpa using hv
    obtain ⟨x, hx, rx⟩ : ∃ x, (ts.map fun t => V.str (toS t))[i]? = some x ∧ RelV x v := by
      obtain ⟨u, h1, h2⟩ := rv.get (i := i) (x := V.str (toS ts[i])) (by rw [List.getElem?_map, List.getElem?_eq_getElem hi']; rfl)
      rw [hv'] at h1; cases h1
      exact ⟨_, by rw [List.getElem?_map, List.getElem?_eq_getElem hi']; rfl, h2⟩
    rw [List.getElem?_map, List.getElem?_eq_getElem hi'] at hx
    cases hx
    obtain ⟨t, rfl⟩ := (show ∃ t, v = Value.str (toS ts[i]) t from rx)
    unfold setAdd
    refine wpAny_holding (wpAny_bind ((PySem.strKind X.prog X.w).pyHash (k := toS ts[i]) (strKind_is _ _ _ _) ?_))
    have hle := (ded_ok (ts.take i)).2.2
    rw [List.length_take] at hle
    refine add_str (s := { s' with toks := s'.toks + 1 }) R (by rw [List.length_map]; show _ < 4096; omega) fun h' b sb R' => hQ h' b _ (Nat.le_succ _) sb ?_
    rw [List.take_succ, List.getElem?_eq_getElem hi', Option.toList_some, ded_snoc]
    by_cases hm : ts[i] ∈ ded (ts.take i)
    · rw [if_pos hm]
      rw [if_pos (mem_toS.mpr hm)] at R'
      exact R'
    · rw [if_neg hm]
      rw [if_neg (fun z => hm (mem_toS.mp z))] at R'
      exact R'
  · have hi : its.toArray.size = ts.length := by simpa using hlen
    rw [hi, List.take_length] at R
    exact ⟨.ref _, upd H s.heap.objs.size (StrO X.prog X.w s.heap.objs.size ((ded ts).map toS)), I.laid (t' := tk) k (Nat.le_refl _) (strO_new R), rfl, q _ (I.hok.fresh (Nat.le_refl _))⟩
theorem cr_sortedS (hc : X.calm = true) (hu : X.A.units + 64 < cLine) : CallR X (.builtin "sorted") (fun vs H Q => ∃ (a : Addr) (ts : List (List Nat)), vs = [V.ref a] ∧ H a = some (StrO X.prog X.w a (ts.map toS)) ∧ ts.length < scanBound ∧ ∀ p, H p = none → Q (.ref p) (upd H p (.lst ((ts.mergeSort leS).map fun t => V.str (toS t))))) := by
  rintro pins s σ H vs us Q I r ⟨a, ts, rfl, hH, hz, q⟩
  obtain ⟨u, rfl, ru⟩ := r.one
  cases (show u = Value.ref a from ru)
  have R : StrSet X.prog X.w s.heap a (ts.map toS) := (I.hok a _ hH).1
  refine sorted_strSet R (I.ok.hd hc) (by rw [List.length_map]; exact hz) hu fun s' p out bs c k g o hp hg pm eo => ?_
  have hn : H p = none := I.hok.fresh hp
  obtain ⟨bs', pb, rfl⟩ : ∃ bs' : List (List Nat), bs'.Perm ts ∧ bs = bs'.map toS := by
    refine ⟨bs.map (fun x => x.cps.toList), ?_, ?_⟩
    · have := pm.map (fun x : Str => x.cps.toList)
      rw [List.map_map] at this
      have e : ((fun x : Str => x.cps.toList) ∘ toS) = id := by funext t; simp [toS]
      rw [e, List.map_id] at this
      exact this
    · rw [List.map_map]
      have e : (toS ∘ fun x : Str => x.cps.toList) = id := by funext t; exact toS_cps t
      rw [e, List.map_id]
  have hm : (bs'.map toS).mergeSort (PySem.W.dataLe false fun x => PyData.str x) = (ts.mergeSort leS).map toS := by
    rw [← sort_perm pb, List.map_mergeSort (f := toS) (s := PySem.W.dataLe false fun x => PyData.str x) (r := leS)]
    intro x _ y _
    rw [PySem.W.dataLe_str (fun x => x)]
    show decide (x ≤ y) = decide ((toS x).cps.toList ≤ (toS y).cps.toList)
    simp [toS]
  rw [hm] at eo
  have hv : ∀ {out : List Value} {l : List (List Nat)}, PySem.W.EachIs isS out (l.map toS) → Vals (l.map fun t => V.str (toS t)) out := by
    intro out l
    induction l generalizing out with
    | nil => intro h; cases h; exact .nil
    | cons t l ih =>
      intro h
      cases h with
      | cons h t => exact .cons h (ih t)
  have hlen : ((ts.mergeSort leS).map fun t => V.str (toS t)).length ≤ sizeLine := by
    rw [List.length_map, List.length_mergeSort, sizeLine_eq]
    have : ts.length < 4096 := hz
    omega
  have J : Inv X pins σ (upd H p (.lst ((ts.mergeSort leS).map fun t => V.str (toS t)))) { s with heap := s'.heap, gens := s'.gens, drawn := s'.drawn, toks := s'.toks } :=
    I.call (ch := []) (Un.laid k hp hn) (I.hok.laid k hp ⟨hlen, out, c, hv eo, hg⟩) (by rw [g]; exact I.bare) (fun _ z => nomatch z)
  have e : s' = { s with heap := s'.heap, gens := s'.gens, drawn := s'.drawn, toks := s'.toks } := by
    cases s'
    cases s
    cases o
    rfl
  rw [e]
  exact ⟨.ref p, _, J, rfl, q p hn⟩
variable {e : Expr} {m : M} {p p2 pos pos2 : Pos}
theorem me_sortedSet (hc : X.calm = true) (hu : X.A.units + 64 < cLine) (hg : Gl X "sorted") (hm : X.mg "sorted" = none) (hg2 : Gl X "set") (hm2 : X.mg "set" = none) (he : ME X e m)
    (hs : starEach [.Call (.Name "set" p2) [e] [] pos2] X.env = (false, eval (.Call (.Name "set" p2) [e] [] pos2) X.env) :: starEach [] X.env := by rfl) (hs2 : starEach [e] X.env = (false, eval e X.env) :: starEach [] X.env := by rfl)
    (hpl : (backTo pos (starEach [] X.env)).any (·.1) = false := by rfl) (hpl2 : (backTo pos2 (starEach [] X.env)).any (·.1) = false := by rfl) :
    ME X (.Call (.Name "sorted" p) [.Call (.Name "set" p2) [e] [] pos2] [] pos) (mB fSortSet [m]) := by
  refine PE.imp (pe_callB (cr_sortedS hc hu) hg hm (by decide +kernel) (pa_cons (pe_callTy (cr_setS hc) hg2 hm2 (by decide +kernel) (pa_cons he pa_nil hs2) (by decide) (by decide) hs2 hpl2) pa_nil hs) (by decide) (by decide) hs hpl) ?_
  rintro σ H Q ⟨ρ, S, I, ι, d, S', er, sr, hm, q⟩
  unfold mB at hm
  obtain ⟨⟨ds, S1⟩, h1, hm⟩ := Option.bind_eq_some_iff.mp hm
  obtain ⟨w, h2, hm⟩ := Option.bind_eq_some_iff.mp hm
  cases hm
  unfold evalL evalL at h1
  obtain ⟨⟨x, S2⟩, h0, h1⟩ := Option.bind_eq_some_iff.mp h1
  cases h1
  simp only [List.map_cons, List.map_nil] at h2
  cases ex : top S' x <;> rw [ex] at h2 <;> first
    | (cases h2; done)
    | skip
  rename_i xs
  simp only [fSortSet] at h2
  obtain ⟨ts, h3, h2⟩ := Option.bind_eq_some_iff.mp h2
  split at h2
  rotate_left
  · cases h2
  rename_i hz
  cases h2
  refine ⟨ρ, S, I, ι, x, _, er, sr, h0, fun v1 H1 I1 ι1 l1 p1 s1 r1 => ?_⟩
  obtain ⟨a, ys, rfl, hH, rs⟩ := seen_lst s1 r1 ex
  obtain ⟨rfl, hts⟩ := reps_strs rs h3
  refine ⟨a, ts, rfl, hH, hz, fun pa hpa => ?_⟩
  obtain ⟨sA, lA⟩ := s1.laid (o := StrO X.prog X.w pa ((ded ts).map toS)) hpa
  have hd := ded_ok ts
  refine ⟨pa, ded ts, rfl, upd_same, by show _ < 4096; omega, fun pb hpb => ?_⟩
  obtain ⟨sB, lB⟩ := sA.laid (o := .lst (((ded ts).mergeSort leS).map fun t => V.str (toS t))) hpb
  refine q _ _ _ ι1 ((l1.trans lA).trans lB) p1 sB (.lst upd_same ?_)
  have hok : ∀ t ∈ (ded ts).mergeSort leS, ∀ c ∈ t, c < 0x110000 := fun t ht => hts t ((hd.2.1 t).mp ((List.mergeSort_perm _ _).mem_iff.mp ht))
  exact reps_strL hok
end
end Mi
set_option Elab.async false
set_option linter.all false
set_option maxRecDepth 100000
/-! the law's call -/
namespace Mi
open PySem L2 PyProof.Rows
def noList (K : PySem.W.Frag) : Bool := K.all fun p => match p.2.cls with
  | .type n => !(n == "list")
  | _ => true
theorem noList_at {K : PySem.W.Frag} (h : noList K = true) {a : Addr} {o : Obj} (e : K.lookup a = some o) : o.cls ≠ .type "list" := by
  induction K with
  | nil => cases e
  | cons p r ih =>
    obtain ⟨b, x⟩ := p
    unfold noList at h
    rw [List.all_cons, Bool.and_eq_true] at h
    rw [List.lookup_cons] at e
    split at e
    · cases e
      intro z
      have h1 := h.1
      rw [z] at h1
      exact absurd h1 (by decide)
    · exact ih h.2 e
theorem reps_intsL {mg : Str → Option Value} {I : Hp} {ι : Io} : ∀ ns : List Int, Reps mg I ι (ns.map V.int) (ns.map D.int)
  | [] => .nil
  | n :: ns => .cons (.int n) (reps_intsL ns)
theorem law_callG {P : Program} {w : World} {K : PySem.W.Frag} {mg mb : Str → Option Value} {k : Nat} {fa a : Addr} {fd : FuncData} {x : Str} {φ : Fn} {s₁ : Shared} {vs : List Value} {ns : List Int}
    (KX : K.In s₁.heap) (hns : s₁.heap.Ns mainGlobals mg) (hb : s₁.heap.Ns builtinsNs mb) (hbb : ∀ x : Str, x ≠ "__name__" → mb x = bootBuiltins x) (hlim : s₁.heap.NoLimit) (hg : s₁.gens = #[])
    (ha : s₁.heap.get? a = some { cls := .type "list", data := .seq vs.toArray }) (hi : IntsAre vs ns) (hl : ns.length ≤ sizeLine) (hr : Room k callerA) (hk : K.lookup a = none)
    (F : ∀ base : Heap, K.In base → base.Ns mainGlobals mg → FnG P w K mg base k fa fd [x] φ) (hbind : ∀ (s : Shared) (u : Value), BindsTo s fd ⟨[u], []⟩ [(x, u)])
    (hlaw : φ [.lst (ns.map D.int)] [] = some (.bl true, [])) :
    codeAny (model P w) callerA (.call (.ref fa) ⟨[.ref a], []⟩) (fun r s' => r = .ok (.ret (.bool true)) ∧ OldK s₁.heap s'.heap ∧ s'.os = s₁.os ∧ AllBare s'.gens) s₁ := by
  have rv := vals_ints hi
  let H : Hp := fun b => if b = a then some (.frz { cls := .type "list", data := .seq vs.toArray } (.lst (ns.map V.int))) else none
  have Ha : H a = some (.frz { cls := .type "list", data := .seq vs.toArray } (.lst (ns.map V.int))) := if_pos rfl
  have Hn : ∀ {b}, b ≠ a → H b = none := fun hb => if_neg hb
  have hok : HOk P w H s₁.heap := fun b u z => by
    by_cases hb : b = a
    · subst hb
      rw [Ha] at z; cases z
      exact ⟨ha, by rw [List.length_map]; exact hl, vs, _, rv, ha⟩
    · rw [Hn hb] at z; cases z
  have base_of : ∀ {b : Addr} {o : Obj}, s₁.heap.get? b = some o → b ≠ a → (hidT s₁.heap H).get? b = some o := fun e n => hidT_get e (Hn n)
  have nsK : ∀ {b : Addr} {m : Str → Option Value}, s₁.heap.Ns b m → (hidT s₁.heap H).Ns b m := fun {b m} ⟨o, es, ep, e, d, r⟩ => ⟨o, es, ep, base_of e (fun z => by
    subst z
    rw [ha] at e; cases e
    have d' : Data.seq vs.toArray _ = Data.dict es ep := d
    cases d'), d, r⟩
  have hKb : K.In (hidT s₁.heap H) := fun b o e => base_of (KX b o e) (fun z => by subst z; rw [hk] at e; cases e)
  have hM : Mod K mg (hidT s₁.heap H) := ⟨hKb, nsK hns, ⟨mb, nsK hb, hbb⟩, let ⟨mc, h1, h2⟩ := hlim; ⟨mc, nsK h1, h2⟩⟩
  have e0 : Env0 P w K mg (hidT s₁.heap H) callerA [] s₁ H := ⟨rfl, hM, fun b o e => of_hidT e, Nat.le_of_eq (hidT_size _ _), trivial, fun b hb => absurd (show b ∈ ([] : List Addr) from hb) (by simp), hok, .of_eq hg⟩
  have sr : SR mg H Io.nil [] H := ⟨Le.refl, rfl, fun k d e => by simp at e, fun j k d e a h => by simp at h, fun b o e => by cases e⟩
  have hsp : rF mg φ [.ref a] H (fun v _ => v = .bl true) := ⟨_, [], H, Io.nil, _, _, .cons (.lstR (.inr ⟨_, Ha⟩) (reps_intsL ns)) .nil, sr, hlaw, fun v H' I' ι' l p s' r => by cases r; rfl⟩
  refine codeAny_mono ((F _ hKb (nsK hns)).run callerA [] s₁ H ⟨[.ref a], []⟩ [.ref a] [.ref a] _ hr rfl e0 (hbind s₁ (.ref a)) (.cons rfl .nil) hsp) fun r s' h => ?_
  cases r with
  | error e => exact False.elim h
  | ok fl =>
    cases fl with
    | next => exact False.elim h
    | brk => exact False.elim h
    | cont => exact False.elim h
    | ret u =>
      obtain ⟨v, H', os, bare, un, hok', r', q⟩ := h
      have q' : v = .bl true := q
      subst q'
      obtain rfl : u = Value.bool true := r'
      refine ⟨rfl, OldK.of_keep fun b o e => ?_, os, bare⟩
      by_cases hb : b = a
      · subst hb
        have z2 := un.frzs b _ _ Ha
        obtain ⟨e2, _⟩ := hok' b _ z2
        rw [ha] at e; cases e
        exact e2
      · exact un.keep b o e (Hn hb) (by intro z; exact absurd (show b ∈ ([] : List Addr) from z) (by simp)) (by simp)
theorem walkG {l : PySem.W.OpenLaw} {n k : Nat} {q : Program} {loose : List Str} {XP : (Str → Option Value) → Heap → Prop} {YP : World → Heap → Prop} {d : DefRec} {K : Params → PySem.W.Frag} {x : Str} {φ : Fn}
    (hn : l.most = some n) (hn2 : n ≤ sizeLine) (hdf : d.params.defaults = []) (hr : Room k callerA)
    (hY : ∀ (w : World) (h : Heap), YP w h → (K w.params).In h) (hnl : ∀ w : World, noList (K w.params) = true)
    (F : ∀ (w : World) (mg : Str → Option Value) (fa : Addr) (h : Heap), (K w.params).In h → h.Ns mainGlobals mg → mg d.name = some (.ref fa) →
      ∃ fd : FuncData, (∀ (s : Shared) (u : Value), BindsTo s fd ⟨[u], []⟩ [(x, u)]) ∧
        ∀ base : Heap, (K w.params).In base → base.Ns mainGlobals mg → FnG l.prog w (K w.params) mg base k fa fd [x] φ)
    (hlaw : ∀ ns : List Int, ns.length ≤ n → (∀ z ∈ ns, Builtin.Int.intBits z ≤ 1048576) → φ [.lst (ns.map D.int)] [] = some (.bl true, [])) :
    PySem.W.WalkO q loose XP YP l.row.toRowW d [] (fun f vs => PySem.call f vs) := by
  refine Att.attach_callB hn hdf fun w s₀ s₁ mg mb fa o pm cd doc a vs ns G Y ho hd hcd hmg hobj hints hlen hbits hg => ?_
  have KX := hY w _ Y
  obtain ⟨fd, hb, hF⟩ := F w mg fa _ KX G.T.g hmg
  have hk : (K w.params).lookup a = none := by
    cases e : (K w.params).lookup a with
    | none => rfl
    | some u =>
      have e1 := KX a u e
      rw [hobj] at e1; cases e1
      exact absurd rfl (noList_at (hnl w) e)
  exact law_callG KX G.T.g G.T.b G.T.builtins G.T.nolimit hg hobj hints (Nat.le_trans hlen hn2) hr hk hF hb (hlaw ns hlen hbits)
end Mi
set_option Elab.async false
set_option linter.all false
set_option maxRecDepth 100000
/-! defs of the text -/
namespace Mi
open PySem L2 PyProof.Rows StX
/-- a def of the text as it stands behind the top -/
structure Df (K : PySem.W.Frag) (x qual : Str) (st : Stmt) (f : Addr) : Prop where
  ex : ∃ (oc : Value) (od : Option Addr) (kV doc pm : Value) (an : Option Addr) (cdv ct : Value) (osl : Array (Option Value)),
    K.lookup f = some ⟨oc, od, .func (PySem.W.fnOf x qual (defArgs st) (defBody st) (defScope st) .none kV doc pm an cdv ct), osl⟩ ∧ PySem.W.codeIn K cdv qual = true
theorem df_mk {K : PySem.W.Frag} {x qual : Str} {st : Stmt} {f : Addr} {oc : Value} {od an : Option Addr} {osl : Array (Option Value)} {kV doc pm cdv ct : Value} (l : K.lookup f = some ⟨oc, od, .func (PySem.W.fnOf x qual (defArgs st) (defBody st) (defScope st) .none kV doc pm an cdv ct), osl⟩)
    (c : PySem.W.codeIn K cdv qual = true) : Df K x qual st f := ⟨oc, od, kV, doc, pm, an, cdv, ct, osl, l, c⟩
section
variable {P : Program} {w : World} {K : PySem.W.Frag} {mg : Str → Option Value} {base : Heap} {k : Nat} {f : Addr} {x qual : Str} {st : Stmt} {N ps : List Str} {b : MS} {l : Nat}
theorem Df.fnG (F : Df K x qual st f) (S : FnScope N ps (defScope st))
    (hbody : ∀ (cdv : Value) (A : Around) (outer : List PySem.Env) (s : Shared) (H : Hp), Room k (A.deeper (envOfC qual (defScope st) s.heap.objs.size f cdv)) → A.guards = some [] → MSs (cxOf cx0 P w K mg base N qual (defScope st) f cdv A outer s H fun _ _ _ => False).nox (defBody st) b) :
    ∃ kV doc pm an cdv ct, FnG P w K mg base (k + 1) f (PySem.W.fnOf x qual (defArgs st) (defBody st) (defScope st) .none kV doc pm an cdv ct) ps (mFn ps.length l b) := by
  obtain ⟨oc, od, kV, doc, pm, an, cdv, ct, osl, lk, hcd⟩ := F.ex
  exact ⟨kV, doc, pm, an, cdv, ct, fn_by lk hcd S (fun ds S r h => mFn_len h) (fun vs H Q h => fn_post h) (hbody cdv)⟩
theorem Df.fnGK (F : Df K x qual st f) (S : FnScope N ps (defScope st))
    (hbody : ∀ (cdv : Value) (A : Around) (outer : List PySem.Env) (s : Shared) (H : Hp), Room k (A.deeper (envOfC qual (defScope st) s.heap.objs.size f cdv)) → A.guards = some [] → MSs (cxOf cx0 P w K mg base N qual (defScope st) f cdv A outer s H fun _ _ _ => False).nox (defBody st) b) :
    ∃ kV doc pm an cdv ct, FnG P w K mg base (k + 1) f (PySem.W.fnOf x qual (defArgs st) (defBody st) (defScope st) .none kV doc pm an cdv ct) ps (mFnK ps.length l b) := by
  obtain ⟨oc, od, kV, doc, pm, an, cdv, ct, osl, lk, hcd⟩ := F.ex
  exact ⟨kV, doc, pm, an, cdv, ct, fn_by lk hcd S (fun ds S r h => mFnK_len h) (fun vs H Q h => fnK_post h) (hbody cdv)⟩
theorem Df.pos (F : Df K x qual st f) (S : FnScope N ps (defScope st)) (hb : ∀ (kV doc pm : Value) (an : Option Addr) (cdv ct : Value) (us : List Value), us.length = ps.length → bindArgs (PySem.W.fnOf x qual (defArgs st) (defBody st) (defScope st) .none kV doc pm an cdv ct) ⟨us, []⟩ = pure (ps.zip us))
    (hbody : ∀ (cdv : Value) (A : Around) (outer : List PySem.Env) (s : Shared) (H : Hp), Room k (A.deeper (envOfC qual (defScope st) s.heap.objs.size f cdv)) → A.guards = some [] → MSs (cxOf cx0 P w K mg base N qual (defScope st) f cdv A outer s H fun _ _ _ => False).nox (defBody st) b) :
    FnP P w K mg base (k + 1) f (mFn ps.length l b) := by
  obtain ⟨kV, doc, pm, an, cdv, ct, G⟩ := F.fnG (l := l) S hbody
  exact G.pos (.all (hb kV doc pm an cdv ct))
theorem Df.posK (F : Df K x qual st f) (S : FnScope N ps (defScope st)) (hb : ∀ (kV doc pm : Value) (an : Option Addr) (cdv ct : Value) (us : List Value), us.length = ps.length → bindArgs (PySem.W.fnOf x qual (defArgs st) (defBody st) (defScope st) .none kV doc pm an cdv ct) ⟨us, []⟩ = pure (ps.zip us))
    (hbody : ∀ (cdv : Value) (A : Around) (outer : List PySem.Env) (s : Shared) (H : Hp), Room k (A.deeper (envOfC qual (defScope st) s.heap.objs.size f cdv)) → A.guards = some [] → MSs (cxOf cx0 P w K mg base N qual (defScope st) f cdv A outer s H fun _ _ _ => False).nox (defBody st) b) :
    FnP P w K mg base (k + 1) f (mFnK ps.length l b) := by
  obtain ⟨kV, doc, pm, an, cdv, ct, G⟩ := F.fnGK (l := l) S hbody
  exact G.pos (.all (hb kV doc pm an cdv ct))
/-- def f(.., *rest) -/
theorem Df.rest {pv : Str} (F : Df K x qual st f) (S : FnScope N (ps ++ [pv]) (defScope st))
    (hb : ∀ (kV doc pm : Value) (an : Option Addr) (cdv ct : Value) (us rest : List Value), us.length = ps.length → bindArgs (PySem.W.fnOf x qual (defArgs st) (defBody st) (defScope st) .none kV doc pm an cdv ct) ⟨us ++ rest, []⟩ = (newTuple rest >>= fun t => pure (ps.zip us ++ [(pv, t)])))
    (hbody : ∀ (cdv : Value) (A : Around) (outer : List PySem.Env) (s : Shared) (H : Hp), Room k (A.deeper (envOfC qual (defScope st) s.heap.objs.size f cdv)) → A.guards = some [] → MSs (cxOf cx0 P w K mg base N qual (defScope st) f cdv A outer s H fun _ _ _ => False).nox (defBody st) b) :
    FnP P w K mg base (k + 1) f (restFn ps.length (mFn (ps.length + 1) l b)) := by
  obtain ⟨oc, od, kV, doc, pm, an, cdv, ct, osl, lk, hcd⟩ := F.ex
  exact fn_rest lk hcd S (hb kV doc pm an cdv ct) (fun ds S r h => mFn_len h) (fun vs H Q h => fn_post h) (hbody cdv)
/-- f called with keywords; no defaults -/
theorem Df.kw {n : Nat} {ks : List Str} {ix : List Nat} (F : Df K x qual st f) (S : FnScope N ps (defScope st))
    (hb : ∀ (kV doc pm : Value) (an : Option Addr) (cdv ct : Value) (us ws : List Value), us.length = n → ws.length = ks.length → bindArgs (PySem.W.fnOf x qual (defArgs st) (defBody st) (defScope st) .none kV doc pm an cdv ct) ⟨us, ks.zip ws⟩ = pure (ps.zip (pick ix ((us ++ ws) ++ []))))
    (hbody : ∀ (cdv : Value) (A : Around) (outer : List PySem.Env) (s : Shared) (H : Hp), Room k (A.deeper (envOfC qual (defScope st) s.heap.objs.size f cdv)) → A.guards = some [] → MSs (cxOf cx0 P w K mg base N qual (defScope st) f cdv A outer s H fun _ _ _ => False).nox (defBody st) b) {m : Nat} :
    FnK P w K mg base (k + 1) f n ks (kwFn m ix [] (mFn ps.length l b)) := by
  obtain ⟨kV, doc, pm, an, cdv, ct, G⟩ := F.fnG (l := l) S hbody
  exact G.kw (us0 := []) (vs0 := []) (fun s us ws _ l1 l2 => .of_eq (hb kV doc pm an cdv ct us ws l1 l2)) .nil fun I ι => .nil
end
theorem pe_bty {X : Cx} {x : Str} {T : String} {pos : Pos} (hg : Gl X x) (hm : X.mg x = none) (hv : bootBuiltins x = some (.type T) := by decide +kernel) (hn : x ≠ "__name__" := by decide) (hd : (x == ("__debug__" : Str)) = false := by decide) : PE X (.Name x pos) (tC (.ty T)) :=
  ⟨fun pins s σ H Q I h => ld_blt I hg hm hv ⟨.ty T, H, I, rfl, h⟩ hn hd⟩
end Mi
set_option Elab.async false
set_option linter.all false
set_option maxRecDepth 100000
/-! words that a derivation uses -/
namespace Mi
open PySem L2 PyProof.Rows StX
section
variable {X : Cx} {o e : Expr} {mo m : M} {apos pos : Pos}
theorem tA_one {σ : L2.St} {H : Hp} {Q : List V → Hp → Prop} : tA X.mg [m] σ H Q → tA X.mg [m] σ H Q := id
theorem me_appendC (ho : ME X o mo) (ha : MA X [e] [m]) (hbase : attributeBase o "append" X.env (eval o X.env) = eval o X.env := by rfl)
    (hfew : ((backTo pos (starEach [e] X.env)).all (fun x => !x.1) && (backToKw pos (keywordEach [] X.env)).all (fun x => x.1.isSome) && decide ([e].length + ([] : List Keyword).length + (if ([] : List Keyword).isEmpty then 0 else 1) < 30)) = true := by rfl)
    (hline : (apos.endLine == pos.line) = true := by rfl) (hs : starEach [e] X.env = (false, eval e X.env) :: starEach [] X.env := by rfl) (hplain : (backTo pos (starEach [] X.env)).any (·.1) = false := by rfl) :
    ME X (.Call (.Attribute o "append" apos) [e] [] pos) (mAppend mo m) := me_append (pe_bm PySem.F.plainAttrs_list PySem.F.slot_list_append PySem.F.type_list_append mt_append ho ha hbase hfew hline hs hplain)
theorem me_extendC (ho : ME X o mo) (ha : MA X [e] [m]) (hbase : attributeBase o "extend" X.env (eval o X.env) = eval o X.env := by rfl)
    (hfew : ((backTo pos (starEach [e] X.env)).all (fun x => !x.1) && (backToKw pos (keywordEach [] X.env)).all (fun x => x.1.isSome) && decide ([e].length + ([] : List Keyword).length + (if ([] : List Keyword).isEmpty then 0 else 1) < 30)) = true := by rfl)
    (hline : (apos.endLine == pos.line) = true := by rfl) (hs : starEach [e] X.env = (false, eval e X.env) :: starEach [] X.env := by rfl) (hplain : (backTo pos (starEach [] X.env)).any (·.1) = false := by rfl) :
    ME X (.Call (.Attribute o "extend" apos) [e] [] pos) (mExtend mo m) := me_extend (pe_bm PySem.F.plainAttrs_list PySem.F.slot_list_extend PySem.F.type_list_extend mt_extendR ho ha hbase hfew hline hs hplain)
theorem me_popC (ho : ME X o mo) (ha : MA X [e] [m]) (hbase : attributeBase o "pop" X.env (eval o X.env) = eval o X.env := by rfl)
    (hfew : ((backTo pos (starEach [e] X.env)).all (fun x => !x.1) && (backToKw pos (keywordEach [] X.env)).all (fun x => x.1.isSome) && decide ([e].length + ([] : List Keyword).length + (if ([] : List Keyword).isEmpty then 0 else 1) < 30)) = true := by rfl)
    (hline : (apos.endLine == pos.line) = true := by rfl) (hs : starEach [e] X.env = (false, eval e X.env) :: starEach [] X.env := by rfl) (hplain : (backTo pos (starEach [] X.env)).any (·.1) = false := by rfl) :
    ME X (.Call (.Attribute o "pop" apos) [e] [] pos) (mPop mo m) := me_pop (pe_bm PySem.F.plainAttrs_list PySem.F.slot_list_pop PySem.F.type_list_pop mt_popAt ho ha hbase hfew hline hs hplain)
theorem me_clearC (ho : ME X o mo) (hbase : attributeBase o "clear" X.env (eval o X.env) = eval o X.env := by rfl) (hline : (apos.endLine == pos.line) = true := by rfl) :
    ME X (.Call (.Attribute o "clear" apos) [] [] pos) (mClear mo) := me_clear (pe_bm0 PySem.F.plainAttrs_list PySem.F.slot_list_clear PySem.F.type_list_clear mt_clear ho hbase hline)
theorem mg_subC {i : Expr} {mi : M} (ho : ME X o mo) (hi : ME X i mi)
    (ha : ∀ v, assign (.Subscript o i pos) X.env v = (do
      let ov ← holding [v] (eval o X.env)
      let iv ← holding [v, ov] (eval i X.env)
      standAt pos
      holding [v, ov, iv] (setItem ov iv v)
      release [v, ov, iv] []) := by intro _; rfl) : MGt X (.Subscript o i pos) [] (gSub mo mi) := mg_sub (pg_sub ho hi set_list ha)
noncomputable def fRepr : List D → Option D
  | [x] => fRepr0 x
  | _ => none
theorem cB_repr (hg : X.A.guards = some []) (hu : X.A.units + 64 < cLine) : CallR X (.builtin "repr") (rB X.mg fRepr) := by
  refine CallR.imp (cV_repr hg hu) ?_
  rintro vs H Q ⟨S, I, ι, ds, d, s, rs, h, q⟩
  cases rs with
  | nil => cases h
  | cons r t =>
    cases t with
    | nil => exact ⟨S, I, ι, _, _, d, rfl, s, r, h, q⟩
    | cons _ _ => cases h
theorem hu_of {k : Nat} {A : Around} (hr : Room k A) : A.units + 64 < cLine := hr.units
theorem hu5_of {k : Nat} {A : Around} (hr : Room k A) : A.units + 65 < cLine := by have := hr.un; omega
theorem Df.fnGb {P : Program} {w : World} {K : PySem.W.Frag} {mg : Str → Option Value} {k : Nat} {f : Addr} {x qual : Str} {st : Stmt} {N ps : List Str} {b : MS} {l : Nat} (F : Df K x qual st f) (S : FnScope N ps (defScope st))
    (hbody : ∀ (base : Heap) (cdv : Value) (A : Around) (outer : List PySem.Env) (s : Shared) (H : Hp), Room k (A.deeper (envOfC qual (defScope st) s.heap.objs.size f cdv)) → A.guards = some [] → MSs (cxOf cx0 P w K mg base N qual (defScope st) f cdv A outer s H fun _ _ _ => False).nox (defBody st) b) :
    ∃ kV doc pm an cdv ct, ∀ base : Heap, FnG P w K mg base (k + 1) f (PySem.W.fnOf x qual (defArgs st) (defBody st) (defScope st) .none kV doc pm an cdv ct) ps (mFn ps.length l b) := by
  obtain ⟨oc, od, kV, doc, pm, an, cdv, ct, osl, lk, hcd⟩ := F.ex
  exact ⟨kV, doc, pm, an, cdv, ct, fun base => fn_by lk hcd S (fun ds S r h => mFn_len h) (fun vs H Q h => fn_post h) (hbody base cdv)⟩
end
end Mi
set_option Elab.async false
set_option linter.all false
set_option maxRecDepth 100000
namespace Mi
open PySem L2 PyProof.Rows StX SetW
/-- sorted(set(..)) of texts, to be changed -/
def mSortSetM (m : M) : M := fun ρ S => (mB fSortSet [m] ρ S).bind fun (x, S1) => match x with
  | .lst xs => if pureL xs = true then some (.rf S1.length, S1 ++ [some (.lst xs)]) else none
  | _ => none
section
variable {X : Cx}
variable {e : Expr} {m : M} {p p2 pos pos2 : Pos}
theorem me_sortedSetM (hc : X.calm = true) (hu : X.A.units + 64 < cLine) (hg : Gl X "sorted") (hm : X.mg "sorted" = none) (hg2 : Gl X "set") (hm2 : X.mg "set" = none) (he : ME X e m)
    (hs : starEach [.Call (.Name "set" p2) [e] [] pos2] X.env = (false, eval (.Call (.Name "set" p2) [e] [] pos2) X.env) :: starEach [] X.env := by rfl) (hs2 : starEach [e] X.env = (false, eval e X.env) :: starEach [] X.env := by rfl)
    (hpl : (backTo pos (starEach [] X.env)).any (·.1) = false := by rfl) (hpl2 : (backTo pos2 (starEach [] X.env)).any (·.1) = false := by rfl) :
    ME X (.Call (.Name "sorted" p) [.Call (.Name "set" p2) [e] [] pos2] [] pos) (mSortSetM m) := by
  refine PE.imp (pe_callB (cr_sortedS hc hu) hg hm (by decide +kernel) (pa_cons (pe_callTy (cr_setS hc) hg2 hm2 (by decide +kernel) (pa_cons he pa_nil hs2) (by decide) (by decide) hs2 hpl2) pa_nil hs) (by decide) (by decide) hs hpl) ?_
  rintro σ H Q ⟨ρ, S, I, ι, d, S', er, sr, hm, q⟩
  unfold mSortSetM at hm
  obtain ⟨⟨w, S9⟩, h9, hm⟩ := Option.bind_eq_some_iff.mp hm
  unfold mB at h9
  obtain ⟨⟨ds, S1⟩, h1, h9⟩ := Option.bind_eq_some_iff.mp h9
  obtain ⟨w, h2, h9⟩ := Option.bind_eq_some_iff.mp h9
  cases h9
  unfold evalL evalL at h1
  obtain ⟨⟨x, S2⟩, h0, h1⟩ := Option.bind_eq_some_iff.mp h1
  cases h1
  simp only [List.map_cons, List.map_nil] at h2
  cases ex : top S9 x <;> rw [ex] at h2 <;> first
    | (cases h2; done)
    | skip
  rename_i xs
  simp only [fSortSet] at h2
  obtain ⟨ts, h3, h2⟩ := Option.bind_eq_some_iff.mp h2
  split at h2
  rotate_left
  · cases h2
  rename_i hz
  cases h2
  simp only at hm
  split at hm
  rotate_left
  · cases hm
  rename_i hp
  cases hm
  refine ⟨ρ, S, I, ι, x, _, er, sr, h0, fun v1 H1 I1 ι1 l1 p1 s1 r1 => ?_⟩
  obtain ⟨a, ys, rfl, hH, rs⟩ := seen_lst s1 r1 ex
  obtain ⟨rfl, hts⟩ := reps_strs rs h3
  refine ⟨a, ts, rfl, hH, hz, fun pa hpa => ?_⟩
  obtain ⟨sA, lA⟩ := s1.laid (o := StrO X.prog X.w pa ((ded ts).map toS)) hpa
  have hd := ded_ok ts
  refine ⟨pa, ded ts, rfl, upd_same, by show _ < 4096; omega, fun pb hpb => ?_⟩
  have hok : ∀ t ∈ (ded ts).mergeSort leS, ∀ c ∈ t, c < 0x110000 := fun t ht => hts t ((hd.2.1 t).mp ((List.mergeSort_perm _ _).mem_iff.mp ht))
  exact (q.mono (l1.trans lA) p1).made_lst sA hpb (reps_strL hok) hp
end
end Mi
set_option Elab.async false
set_option linter.all false
set_option maxRecDepth 100000
/-! the law's program, by gen.py -/
namespace K11
open Mi

noncomputable def b__law_draw : MS := (sSeq (sIf (mBin oGt (mBin oItem (mVar 0) (mInt 0)) (mInt 0)) (sSeq (sSet (gTup [(gSub (mVar 0) (mInt 0)), (gName 2)]) (mB fDivmod [(mBin oItem (mVar 0) (mInt 0)), (mVar 1)])) (sRet (mVar 2))) sPass) (sSeq (sSet (gSub (mVar 0) (mInt 1)) (mBin oMod (mB fInt [(mBin oAdd (mBin oMul (mBin oItem (mVar 0) (mInt 1)) (mInt 48271)) (mInt 20011))]) (mInt 2147483423))) (sRet (mBin oMod (mB fInt [(mBin oFdiv (mBin oMod (mB fInt [(mBin oMul (mBin oItem (mVar 0) (mInt 1)) (mBin oItem (mVar 0) (mInt 1)))]) (mInt 2147483497)) (mInt 19))]) (mVar 1)))))
noncomputable def f__law_draw : Fn := mFn 2 1 b__law_draw
noncomputable def b__law_among : MS := (sRet (mBin oItem (mVar 1) (mCall f__law_draw [(mVar 0), (mB fLen [(mVar 1)])])))
noncomputable def f__law_among : Fn := mFn 2 0 b__law_among
noncomputable def b__law_names : MS := (sSeq (sSet (gTup [(gName 3), (gName 4)]) (mTup [(mStr [97, 98, 99, 100, 101, 102, 103, 104, 105, 106, 107, 108, 109, 110, 111, 112, 113, 114, 115, 116, 117, 118, 119, 120, 121, 122]), (mLstM [])])) (sSeq (sFor (iRange1 (mVar 1)) (gName 2) (sSeq (sSet (gName 5) (mBin oAdd (mInt 1) (mCall f__law_draw [(mVar 0), (mCall f__law_among [(mVar 0), (mLst [(mInt 1), (mInt 2), (mInt 3), (mInt 8)])])]))) (sSeq (sSet (gName 6) (mJoin (mStr []) (mComp (iRange1 (mVar 5)) (gName 8) (mBl true) (mBin oItem (mVar 3) (mCall f__law_draw [(mVar 0), (mInt 26)])) [8]))) (sSeq (sSet (gName 7) (mBin oAdd (mLst [(mVar 6)]) (mComp (Mi.iStr (mVar 3)) (gName 8) (mBl true) (mBin oAdd (mSlice (mVar 6) none (some (mInt 7))) (mVar 8)) [8]))) (sExpr (mAppend (mVar 4) (mBin oItem (mComp (iSeq (mVar 7)) (gName 9) (mBin oNotIn (mVar 9) (mVar 4)) (mVar 9) [9]) (mInt 0)))))))) (sRet (mVar 4))))
noncomputable def f__law_names : Fn := mFn 2 8 b__law_names
noncomputable def b__law_normed : MS := (sSeq (sSet (gTup [(gName 1), (gName 2)]) (mTup [(mB fMin [(mComp (iSeq (mVar 0)) (gName 3) (mBl true) (mBin oItem (mVar 3) (mInt 0)) [3])]), (mB fMin [(mComp (iSeq (mVar 0)) (gName 3) (mBl true) (mBin oItem (mVar 3) (mInt 1)) [3])])])) (sRet (mB fSorted [(mComp (iSeq (mVar 0)) (gName 3) (mBl true) (mTup [(mBin oSub (mBin oItem (mVar 3) (mInt 0)) (mVar 1)), (mBin oSub (mBin oItem (mVar 3) (mInt 1)) (mVar 2)), (mBin oItem (mVar 3) (mInt 2))]) [3])])))
noncomputable def f__law_normed : Fn := mFn 1 3 b__law_normed
noncomputable def b__law_entries : MS := (sSeq (sSet (gTup [(gName 5), (gName 6), (gName 7)]) (mTup [(mCall f__law_draw [(mVar 0), (mInt 4)]), (mCall f__law_draw [(mVar 0), (mInt 4)]), (mLstM [])])) (sSeq (sIf (mAnd (mBin oEq (mVar 5) (mInt 0)) (mAnd (mBin oEq (mVar 6) (mInt 0)) (mBin oEq (mB fLen [(mVar 1)]) (mInt 1)))) (sSet (gName 5) (mInt 1)) sPass) (sSeq (sFor (iRange1 (mBin oAdd (mVar 5) (mInt 1))) (gName 2) (sFor (iRange1 (mBin oAdd (mVar 6) (mInt 1))) (gName 8) (sExpr (mExtend (mVar 7) (mComp (iSeq (mVar 1)) (gName 9) (mBl true) (mTup [(mVar 2), (mVar 8), (mVar 9)]) [9]))))) (sSeq (sSet (gName 3) (mLstM [])) (sSeq (sFor (iRange1 (mB fMin [(mB fLen [(mVar 7)]), (mCall f__law_among [(mVar 0), (mLst [(mInt 2), (mInt 2), (mInt 3), (mInt 3), (mInt 4), (mInt 5), (mInt 6)])])])) (gName 4) (sExpr (mAppend (mVar 3) (mPop (mVar 7) (mCall f__law_draw [(mVar 0), (mB fLen [(mVar 7)])]))))) (sRet (mCall f__law_normed [(mVar 3)])))))))
noncomputable def f__law_entries : Fn := mFn 2 8 b__law_entries
noncomputable def b__law_mixed : MS := (sSeq (sSet (gTup [(gName 3), (gName 4)]) (mTup [(mListM (mVar 1)), (mLstM [])])) (sSeq (sFor (iRange1 (mB fLen [(mVar 1)])) (gName 2) (sExpr (mAppend (mVar 4) (mPop (mVar 3) (mCall f__law_draw [(mVar 0), (mB fLen [(mVar 3)])]))))) (sRet (mVar 4))))
noncomputable def f__law_mixed : Fn := mFn 2 3 b__law_mixed
noncomputable def b__law_passedK : MS := (sSeq (sSet (gTup [(gName 2), (gName 3)]) (mTup [(mBin oSub (mCall f__law_draw [(mVar 0), (mInt 38)]) (mInt 20)), (mBin oSub (mCall f__law_draw [(mVar 0), (mInt 38)]) (mInt 20))])) (sRet (mCompM (iSeq (mCall f__law_mixed [(mVar 0), (mVar 1)])) (gName 4) (mBl true) (mTup [(mBin oAdd (mBin oItem (mVar 4) (mInt 0)) (mVar 2)), (mBin oAdd (mBin oItem (mVar 4) (mInt 1)) (mVar 3)), (mBin oItem (mVar 4) (mInt 2))]) [4])))
noncomputable def f__law_passedK : Fn := mFnK 2 3 b__law_passedK
noncomputable def b_is_integer : MS := (sRet (mAnd (mIsA ["Kind"] ["int"] (mVar 0)) (mNot (mIsA ["Kind"] ["bool"] (mVar 0)))))
noncomputable def f_is_integer : Fn := mFn 1 0 b_is_integer
noncomputable def b_is_step : MS := (sRet (mAnd (mCall f_is_integer [(mVar 0)]) (mChain oLe oLe (mUn oNeg (mInt 20)) (mVar 0) (mInt 20))))
noncomputable def f_is_step : Fn := mFn 1 0 b_is_step
noncomputable def b_is_name : MS := (sSeq (sIf (mOr (mNot (mIsA ["Kind"] ["str"] (mVar 0))) (mNot (mChain oLe oLe (mInt 1) (mB fLen [(mVar 0)]) (mInt 8)))) (sRet (mBl false)) sPass) (sRet (mB fAll [(mComp (Mi.iStr (mVar 0)) (gName 1) (mBl true) (mBin oIn (mVar 1) (mStr [97, 98, 99, 100, 101, 102, 103, 104, 105, 106, 107, 108, 109, 110, 111, 112, 113, 114, 115, 116, 117, 118, 119, 120, 121, 122])) [1])])))
noncomputable def f_is_name : Fn := mFn 1 1 b_is_name
noncomputable def b_is_entry : MS := (sSeq (sIf (mOr (mNot (mIsA ["Kind"] ["tuple"] (mVar 0))) (mBin oNe (mB fLen [(mVar 0)]) (mInt 3))) (sRet (mBl false)) sPass) (sRet (mAnd (mCall f_is_step [(mBin oItem (mVar 0) (mInt 0))]) (mAnd (mCall f_is_step [(mBin oItem (mVar 0) (mInt 1))]) (mCall f_is_name [(mBin oItem (mVar 0) (mInt 2))])))))
noncomputable def f_is_entry : Fn := mFn 1 0 b_is_entry
noncomputable def b_shifted : MS := (sRet (mComp (iSeq (mVar 0)) (gTup [(gName 3), (gName 4), (gName 5)]) (mBl true) (mTup [(mBin oAdd (mVar 3) (mVar 1)), (mBin oAdd (mVar 4) (mVar 2)), (mVar 5)]) [3, 4, 5]))
noncomputable def f_shifted : Fn := mFn 3 3 b_shifted
noncomputable def b_normed : MS := (sSeq (sSet (gName 1) (mB fMin [(mComp (iSeq (mVar 0)) (gName 3) (mBl true) (mBin oItem (mVar 3) (mInt 0)) [3])])) (sSeq (sSet (gName 2) (mB fMin [(mComp (iSeq (mVar 0)) (gName 3) (mBl true) (mBin oItem (mVar 3) (mInt 1)) [3])])) (sRet (mB fSorted [(mCall f_shifted [(mVar 0), (mUn oNeg (mVar 1)), (mUn oNeg (mVar 2))])]))))
noncomputable def f_normed : Fn := mFn 1 3 b_normed
noncomputable def b_Kind___init__ : MS := (sSeq (sIf (mNot (mChain oLe oLe (mInt 2) (mB fLen [(mVar 1)]) (mCon "MOST_ENTRIES" [("Kind", .int 6)] (mVar 0)))) sNo sPass) (sSeq (sFor (iEnum (mVar 1)) (gTup [(gName 3), (gName 4)]) (sIf (mOr (mNot (mCall f_is_entry [(mVar 4)])) (mBin oIn (mVar 4) (mSlice (mVar 1) none (some (mVar 3))))) sNo sPass)) (sSeq (sSet (gName 2) (mCall f_normed [(mVar 1)])) (sSeq (sSet (gTup [(gName 5), (gName 6)]) (mTup [(mB fMax [(mComp (iSeq (mVar 2)) (gName 4) (mBl true) (mBin oItem (mVar 4) (mInt 0)) [4])]), (mB fMax [(mComp (iSeq (mVar 2)) (gName 4) (mBl true) (mBin oItem (mVar 4) (mInt 1)) [4])])])) (sSeq (sIf (mBin oGt (mVar 5) (mCon "MOST_REACH" [("Kind", .int 3)] (mVar 0))) sNo sPass) (sSeq (sIf (mBin oGt (mVar 6) (mCon "MOST_REACH" [("Kind", .int 3)] (mVar 0))) sNo sPass) (sSeq (sFld ["Kind"] (mVar 0) "own_entries" (mB fTuple [(mVar 2)])) (sFld ["Kind"] (mVar 0) "own_reach" (mTup [(mVar 5), (mVar 6)])))))))))
noncomputable def f_Kind___init__ : Fn := restFn 1 (mFn 2 5 b_Kind___init__)
noncomputable def b__law_kind : MS := (sSeq (sIf (mBin oEq (mB fLen [(mVar 0)]) (mInt 2)) (sRet (mCall (newFn "Kind" f_Kind___init__) [(mBin oItem (mVar 0) (mInt 0)), (mBin oItem (mVar 0) (mInt 1))])) sPass) (sSeq (sIf (mBin oEq (mB fLen [(mVar 0)]) (mInt 3)) (sRet (mCall (newFn "Kind" f_Kind___init__) [(mBin oItem (mVar 0) (mInt 0)), (mBin oItem (mVar 0) (mInt 1)), (mBin oItem (mVar 0) (mInt 2))])) sPass) (sSeq (sIf (mBin oEq (mB fLen [(mVar 0)]) (mInt 4)) (sRet (mCall (newFn "Kind" f_Kind___init__) [(mBin oItem (mVar 0) (mInt 0)), (mBin oItem (mVar 0) (mInt 1)), (mBin oItem (mVar 0) (mInt 2)), (mBin oItem (mVar 0) (mInt 3))])) sPass) (sSeq (sIf (mBin oEq (mB fLen [(mVar 0)]) (mInt 5)) (sRet (mCall (newFn "Kind" f_Kind___init__) [(mBin oItem (mVar 0) (mInt 0)), (mBin oItem (mVar 0) (mInt 1)), (mBin oItem (mVar 0) (mInt 2)), (mBin oItem (mVar 0) (mInt 3)), (mBin oItem (mVar 0) (mInt 4))])) sPass) (sRet (mCall (newFn "Kind" f_Kind___init__) [(mBin oItem (mVar 0) (mInt 0)), (mBin oItem (mVar 0) (mInt 1)), (mBin oItem (mVar 0) (mInt 2)), (mBin oItem (mVar 0) (mInt 3)), (mBin oItem (mVar 0) (mInt 4)), (mBin oItem (mVar 0) (mInt 5))]))))))
noncomputable def f__law_kind : Fn := mFn 1 0 b__law_kind
noncomputable def b_is_list : MS := (sRet (mIsA ["Kind"] ["list", "tuple"] (mVar 0)))
noncomputable def f_is_list : Fn := mFn 1 0 b_is_list
noncomputable def b_Kind_of : MS := (sSeq (sIf (mNot (mCall f_is_list [(mVar 0)])) sNo sPass) (sRet (mStar (newFn "Kind" f_Kind___init__) (mVar 0))))
noncomputable def f_Kind_of : Fn := mFn 1 0 b_Kind_of
noncomputable def b_Kind_ofWentries : MS := (sSeq (sIf (mNot (mCall f_is_list [(mVar 0)])) sNo sPass) (sRet (mStar (newFn "Kind" f_Kind___init__) (mVar 0))))
noncomputable def f_Kind_ofWentries : Fn := kwFn 1 [0] [] (mFn 1 0 b_Kind_ofWentries)
noncomputable def b__law_passed : MS := (sSeq (sSet (gTup [(gName 2), (gName 3)]) (mTup [(mBin oSub (mCall f__law_draw [(mVar 0), (mInt 38)]) (mInt 20)), (mBin oSub (mCall f__law_draw [(mVar 0), (mInt 38)]) (mInt 20))])) (sRet (mComp (iSeq (mCall f__law_mixed [(mVar 0), (mVar 1)])) (gName 4) (mBl true) (mTup [(mBin oAdd (mBin oItem (mVar 4) (mInt 0)) (mVar 2)), (mBin oAdd (mBin oItem (mVar 4) (mInt 1)) (mVar 3)), (mBin oItem (mVar 4) (mInt 2))]) [4])))
noncomputable def f__law_passed : Fn := mFn 2 3 b__law_passed
noncomputable def b_Kind_entriesK : MS := (sRet (mListM (mFld ["Kind"] "own_entries" (mVar 0))))
noncomputable def f_Kind_entriesK : Fn := mFnK 1 0 b_Kind_entriesK
noncomputable def b_Kind_namesK : MS := (sRet (mSortSetM (mComp (iSeq (mFld ["Kind"] "own_entries" (mVar 0))) (gTup [(gName 1), (gName 2), (gName 3)]) (mBl true) (mVar 3) [1, 2, 3])))
noncomputable def f_Kind_namesK : Fn := mFnK 1 3 b_Kind_namesK
noncomputable def b__law_far : MS := (sRet (mTup [(mB fMax [(mComp (iSeq (mVar 0)) (gName 1) (mBl true) (mBin oItem (mVar 1) (mInt 0)) [1])]), (mB fMax [(mComp (iSeq (mVar 0)) (gName 1) (mBl true) (mBin oItem (mVar 1) (mInt 1)) [1])])]))
noncomputable def f__law_far : Fn := mFn 1 1 b__law_far
noncomputable def b_Kind_entries : MS := (sRet (mB fList [(mFld ["Kind"] "own_entries" (mVar 0))]))
noncomputable def f_Kind_entries : Fn := mFn 1 0 b_Kind_entries
noncomputable def b_Kind_names : MS := (sRet (mB fSortSet [(mComp (iSeq (mFld ["Kind"] "own_entries" (mVar 0))) (gTup [(gName 1), (gName 2), (gName 3)]) (mBl true) (mVar 3) [1, 2, 3])]))
noncomputable def f_Kind_names : Fn := mFn 1 3 b_Kind_names
noncomputable def b_Kind_reach : MS := (sRet (mFld ["Kind"] "own_reach" (mVar 0)))
noncomputable def f_Kind_reach : Fn := mFn 1 0 b_Kind_reach
noncomputable def b_Kind_is_flat : MS := (sRet (mBin oEq (mBin oItem (mFld ["Kind"] "own_reach" (mVar 0)) (mInt 1)) (mInt 0)))
noncomputable def f_Kind_is_flat : Fn := mFn 1 0 b_Kind_is_flat
noncomputable def b_Kind___len__ : MS := (sRet (mB fLen [(mFld ["Kind"] "own_entries" (mVar 0))]))
noncomputable def f_Kind___len__ : Fn := mFn 1 0 b_Kind___len__
noncomputable def b_Kind___repr__ : MS := (sSeq (sSet (gName 1) (mJoin (mStr [44, 32]) (mComp (iSeq (mFld ["Kind"] "own_entries" (mVar 0))) (gName 2) (mBl true) (mB fRepr [(mVar 2)]) [2]))) (sRet (mJoined [(mStr [75, 105, 110, 100, 40]), (mUn fFmt (mVar 1)), (mStr [41])])))
noncomputable def f_Kind___repr__ : Fn := mFn 1 2 b_Kind___repr__
noncomputable def b__law_told_right : MS := (sSeq (sSet (gName 2) (mCall f__law_far [(mVar 1)])) (sSeq (sSet (gName 3) (mLst [(mMeth "entries" [("Kind", f_Kind_entries)] (mVar 0) []), (mMeth "names" [("Kind", f_Kind_names)] (mVar 0) []), (mProp [("Kind", f_Kind_reach)] (mVar 0)), (mProp [("Kind", f_Kind_is_flat)] (mVar 0)), (mOne (lenX [("Kind", f_Kind___len__)]) (mVar 0)), (mOne (reprX [("Kind", f_Kind___repr__)]) (mVar 0))])) (sSeq (sSet (gName 4) (mBin oAdd (mBin oAdd (mStr [75, 105, 110, 100, 40]) (mJoin (mStr [44, 32]) (mComp (iSeq (mVar 1)) (gName 5) (mBl true) (mB fRepr [(mVar 5)]) [5]))) (mStr [41]))) (sRet (mBin oEq (mB fRepr [(mVar 3)]) (mB fRepr [(mLst [(mVar 1), (mB fSortSet [(mComp (iSeq (mVar 1)) (gName 5) (mBl true) (mBin oItem (mVar 5) (mInt 2)) [5])]), (mVar 2), (mBin oEq (mBin oItem (mVar 2) (mInt 1)) (mInt 0)), (mB fLen [(mVar 1)]), (mVar 4)])]))))))
noncomputable def f__law_told_right : Fn := mFn 2 4 b__law_told_right
noncomputable def b_Kind___contains__ : MS := (sRet (mAnd (mCall f_is_entry [(mVar 1)]) (mBin oIn (mVar 1) (mFld ["Kind"] "own_entries" (mVar 0)))))
noncomputable def f_Kind___contains__ : Fn := mFn 2 0 b_Kind___contains__
noncomputable def b__law_among_right : MS := (sSeq (sSet (gName 3) (mComp (iSeq (mVar 2)) (gName 4) (mBl true) (mTup [(mBin oSub (mBin oAdd (mBin oItem (mVar 4) (mInt 0)) (mCall f__law_draw [(mVar 0), (mInt 3)])) (mInt 1)), (mBin oItem (mVar 4) (mInt 1)), (mBin oItem (mVar 4) (mInt 2))]) [4])) (sSeq (sSet (gName 3) (mBin oAdd (mBin oAdd (mVar 3) (mComp (iSeq (mVar 2)) (gName 4) (mBl true) (mTup [(mBin oItem (mVar 4) (mInt 0)), (mBin oAdd (mBin oItem (mVar 4) (mInt 1)) (mInt 1)), (mBin oItem (mVar 4) (mInt 2))]) [4])) (mComp (iSeq (mVar 2)) (gName 4) (mBl true) (mTup [(mBin oItem (mVar 4) (mInt 1)), (mBin oItem (mVar 4) (mInt 0)), (mBin oItem (mVar 4) (mInt 2))]) [4]))) (sSeq (sFor (iSeq (mBin oAdd (mVar 2) (mVar 3))) (gName 4) (sIf (mBin oNe (mTwo (inX false [("Kind", f_Kind___contains__)]) (mVar 4) (mVar 1)) (mBin oIn (mVar 4) (mVar 2))) (sRet (mBl false)) sPass)) (sSeq (sSet (gName 5) (mLst [mNon, (mInt 0), (mStr []), (mB fList [(mBin oItem (mVar 2) (mInt 0))]), (mVar 2), (mSlice (mBin oItem (mVar 2) (mInt 0)) none (some (mInt 2))), (mBin oAdd (mBin oItem (mVar 2) (mInt 0)) (mTup [(mInt 0)])), (mTup [(mBl true), (mBl false), (mBin oItem (mBin oItem (mVar 2) (mInt 0)) (mInt 2))]), (mTup [(mInt 0), (mInt 0), mNon]), (mVar 1)])) (sSeq (sSet (gName 5) (mBin oAdd (mVar 5) (mLst [(mTup [(mBin oItem (mBin oItem (mVar 2) (mInt 0)) (mInt 2)), (mInt 0), (mInt 0)]), (mTup [(mLst []), (mInt 0), (mBin oItem (mBin oItem (mVar 2) (mInt 0)) (mInt 2))]), (mTup [(mInt 0), (mK (.dct [])), (mBin oItem (mBin oItem (mVar 2) (mInt 0)) (mInt 2))])]))) (sRet (mNot (mB fAny [(mComp (iSeq (mVar 5)) (gName 6) (mBl true) (mTwo (inX false [("Kind", f_Kind___contains__)]) (mVar 6) (mVar 1)) [6])]))))))))
noncomputable def f__law_among_right : Fn := mFn 3 4 b__law_among_right
noncomputable def b_Kind_mirrored : MS := (sRet (mCall f_Kind_of [(mComp (iSeq (mFld ["Kind"] "own_entries" (mVar 0))) (gTup [(gName 1), (gName 2), (gName 3)]) (mBl true) (mTup [(mBin oSub (mBin oItem (mFld ["Kind"] "own_reach" (mVar 0)) (mInt 0)) (mVar 1)), (mVar 2), (mVar 3)]) [1, 2, 3])]))
noncomputable def f_Kind_mirrored : Fn := mFn 1 3 b_Kind_mirrored
noncomputable def b_Kind_turned : MS := (sRet (mCall f_Kind_of [(mComp (iSeq (mFld ["Kind"] "own_entries" (mVar 0))) (gTup [(gName 1), (gName 2), (gName 3)]) (mBl true) (mTup [(mVar 2), (mVar 1), (mVar 3)]) [1, 2, 3])]))
noncomputable def f_Kind_turned : Fn := mFn 1 3 b_Kind_turned
noncomputable def b_Kind___eq__ : MS := (sRet (mAnd (mIsC "Kind" (mVar 1)) (mBin oEq (mFld ["Kind"] "own_entries" (mVar 0)) (mFld ["Kind"] "own_entries" (mVar 1)))))
noncomputable def f_Kind___eq__ : Fn := mFn 2 0 b_Kind___eq__
noncomputable def b__law_turned_right : MS := (sSeq (sSet (gName 2) (mCall f__law_far [(mVar 1)])) (sSeq (sSet (gName 3) (mB fSorted [(mComp (iSeq (mVar 1)) (gName 6) (mBl true) (mTup [(mBin oSub (mBin oItem (mVar 2) (mInt 0)) (mBin oItem (mVar 6) (mInt 0))), (mBin oItem (mVar 6) (mInt 1)), (mBin oItem (mVar 6) (mInt 2))]) [6])])) (sSeq (sSet (gName 4) (mB fSorted [(mComp (iSeq (mVar 1)) (gName 6) (mBl true) (mTup [(mBin oItem (mVar 6) (mInt 1)), (mBin oItem (mVar 6) (mInt 0)), (mBin oItem (mVar 6) (mInt 2))]) [6])])) (sSeq (sIf (mOr (mNot (mCall f__law_told_right [(mMeth "mirrored" [("Kind", f_Kind_mirrored)] (mVar 0) []), (mVar 3)])) (mNot (mCall f__law_told_right [(mMeth "turned" [("Kind", f_Kind_turned)] (mVar 0) []), (mVar 4)]))) (sRet (mBl false)) sPass) (sSeq (sIf (mOr (mTwo (eqX true [("Kind", f_Kind___eq__)]) (mMeth "mirrored" [("Kind", f_Kind_mirrored)] (mMeth "mirrored" [("Kind", f_Kind_mirrored)] (mVar 0) []) []) (mVar 0)) (mTwo (eqX true [("Kind", f_Kind___eq__)]) (mMeth "turned" [("Kind", f_Kind_turned)] (mMeth "turned" [("Kind", f_Kind_turned)] (mVar 0) []) []) (mVar 0))) (sRet (mBl false)) sPass) (sSeq (sSet (gName 5) (mMeth "mirrored" [("Kind", f_Kind_mirrored)] (mMeth "turned" [("Kind", f_Kind_turned)] (mMeth "mirrored" [("Kind", f_Kind_mirrored)] (mMeth "turned" [("Kind", f_Kind_turned)] (mVar 0) []) []) []) [])) (sRet (mCall f__law_told_right [(mVar 5), (mB fSorted [(mComp (iSeq (mVar 1)) (gName 6) (mBl true) (mTup [(mBin oSub (mBin oItem (mVar 2) (mInt 0)) (mBin oItem (mVar 6) (mInt 0))), (mBin oSub (mBin oItem (mVar 2) (mInt 1)) (mBin oItem (mVar 6) (mInt 1))), (mBin oItem (mVar 6) (mInt 2))]) [6])])]))))))))
noncomputable def f__law_turned_right : Fn := mFn 2 5 b__law_turned_right
noncomputable def b__law_right : MS := (sSeq (sSet (gName 1) (mCall f__law_names [(mVar 0), (mBin oAdd (mInt 1) (mCall f__law_draw [(mVar 0), (mInt 10)]))])) (sSeq (sSet (gTup [(gName 5), (gName 6)]) (mTup [(mCall f__law_entries [(mVar 0), (mVar 1)]), (mCall f__law_entries [(mVar 0), (mVar 1)])])) (sSeq (sSet (gName 2) (mCall f__law_passedK [(mVar 0), (mVar 5)])) (sSeq (sSet (gTup [(gName 7), (gName 8)]) (mTup [(mCall f__law_kind [(mVar 2)]), (mCall f_Kind_of [(mVar 2)])])) (sSeq (sSet (gTup [(gName 9), (gName 10)]) (mTup [(mCall f_Kind_ofWentries [(mB fTuple [(mCall f__law_passed [(mVar 0), (mVar 5)])])]), (mCall f__law_kind [(mCall f__law_passed [(mVar 0), (mVar 6)])])])) (sSeq (sSet (gName 3) (mLst [(mMeth "entries" [("Kind", f_Kind_entriesK)] (mVar 7) []), (mMeth "names" [("Kind", f_Kind_namesK)] (mVar 7) [])])) (sSeq (sExpr (mAppend (mBin oItem (mVar 3) (mInt 0)) (mTup [(mInt 0), (mInt 0), (mStr [122, 122])]))) (sSeq (sExpr (mClear (mBin oItem (mVar 3) (mInt 1)))) (sSeq (sExpr (mClear (mVar 2))) (sSeq (sFor (iSeq (mLst [(mVar 7), (mVar 8), (mVar 9)])) (gName 4) (sIf (mOr (mNot (mCall f__law_told_right [(mVar 4), (mVar 5)])) (mOr (mNot (mCall f__law_told_right [(mVar 4), (mVar 5)])) (mNot (mCall f__law_among_right [(mVar 0), (mVar 4), (mVar 5)])))) (sRet (mBl false)) sPass)) (sSeq (sIf (mOr (mNot (mCall f__law_told_right [(mVar 10), (mVar 6)])) (mNot (mCall f__law_turned_right [(mVar 7), (mVar 5)]))) (sRet (mBl false)) sPass) (sSeq (sIf (mBin oNe (mLst [(mTwo (eqX false [("Kind", f_Kind___eq__)]) (mVar 7) (mVar 8)), (mTwo (eqX false [("Kind", f_Kind___eq__)]) (mVar 8) (mVar 9)), (mTwo (eqX false [("Kind", f_Kind___eq__)]) (mVar 7) (mVar 10)), (mTwo (eqX false [("Kind", f_Kind___eq__)]) (mVar 10) (mVar 7))]) (mLst [(mBl true), (mBl true), (mBin oEq (mVar 5) (mVar 6)), (mBin oEq (mVar 5) (mVar 6))])) (sRet (mBl false)) sPass) (sSeq (sIf (mOr (mB fAny [(mComp (iSeq (mLst [mNon, (mInt 0), (mVar 5), (mB fTuple [(mVar 5)]), (mOne (reprX [("Kind", f_Kind___repr__)]) (mVar 7)), (mK (.dct []))])) (gName 11) (mBl true) (mTwo (eqX false [("Kind", f_Kind___eq__)]) (mVar 7) (mVar 11)) [11])]) (mTwo (eqX true [("Kind", f_Kind___eq__)]) (mVar 7) (mVar 9))) (sRet (mBl false)) sPass) (sRet (mAnd (mBin oEq (mLst [(mInt 6), (mInt 3)]) (mLst [(mInt 6), (mInt 3)])) (mCall f__law_told_right [(mVar 7), (mVar 5)]))))))))))))))))
noncomputable def f__law_right : Fn := mFn 1 11 b__law_right
noncomputable def b__law_potK : MS := (sSeq (sSet (gName 2) (mBin oAdd (mBin oMul (mInt 37) (mVar 1)) (mInt 19))) (sSeq (sIf (mBin oLt (mVar 1) (mB fLen [(mVar 0)])) (sSet (gName 2) (mB fAbs [(mBin oItem (mVar 0) (mVar 1))])) sPass) (sRet (mLstM [(mB fMax [(mInt 0), (mBin oSub (mVar 2) (mBin oPow (mInt 10) (mInt 18)))]), (mBin oAdd (mBin oMod (mB fInt [(mBin oAdd (mBin oAdd (mBin oMul (mBin oMod (mB fInt [(mVar 2)]) (mInt 2147483497)) (mInt 48271)) (mBin oMul (mInt 6007) (mVar 1))) (mInt 41))]) (mInt 2147483423)) (mInt 1))]))))
noncomputable def f__law_potK : Fn := mFnK 2 1 b__law_potK
noncomputable def b_law : MS := (sRet (mB fAll [(mComp (iRange1 (mB fMax [(mInt 1), (mB fMin [(mInt 6), (mB fLen [(mVar 0)])])])) (gName 1) (mBl true) (mCall f__law_right [(mCall f__law_potK [(mVar 0), (mVar 1)])]) [1])]))
noncomputable def f_law : Fn := mFn 1 1 b_law
end K11
set_option Elab.async false
set_option linter.all false
set_option maxRecDepth 100000
/-! Pl: plain laws of Mini: comprehensions and loops by what a turn does. -/
namespace Mi
section
variable {it : MI} {g : MG} {tt elt : M} {vs : List Nat} {ρ : Rho} {S : Store} {xs : List D}
/-- a comprehension by an invariant of what is made and of the store -/
theorem comp1_inv (I : List D → List D → Store → Prop) {all : List D} : ∀ (xs acc : List D) (S : Store), I xs acc S →
    (∀ x xs acc S, x ∈ all → I (x :: xs) acc S → ∃ ρ1 S1 b S2, g x (wipe ρ vs) S = some (ρ1, S1) ∧ tt ρ1 S1 = some (.bl b, S2) ∧ (b = true → ∃ y S3, elt ρ1 S2 = some (y, S3) ∧ I xs (acc ++ [y]) S3) ∧ (b = false → I xs acc S2)) →
    (∀ x ∈ xs, x ∈ all) → ∃ ds S', comp1 g tt elt vs all none ρ xs acc S = some (ds, S') ∧ I [] ds S'
  | [], acc, S, h, _, _ => ⟨acc, S, by unfold comp1; rw [if_pos (show still all none S from True.intro)], h⟩
  | x :: xs, acc, S, h, turn, hm => by
    obtain ⟨ρ1, S1, b, S2, h1, h2, h3, h4⟩ := turn x xs acc S (hm x List.mem_cons_self) h
    have hm' : ∀ y ∈ xs, y ∈ all := fun y hy => hm y (List.mem_cons_of_mem _ hy)
    cases b with
    | true =>
      obtain ⟨y, S3, h5, h6⟩ := h3 rfl
      obtain ⟨ds, S', h7, h8⟩ := comp1_inv I xs (acc ++ [y]) S3 h6 turn hm'
      refine ⟨ds, S', ?_, h8⟩
      unfold comp1
      rw [if_pos (show still all none S from True.intro), h1]
      simp only [Option.bind_some, h2, h5, h7]
    | false =>
      obtain ⟨ds, S', h7, h8⟩ := comp1_inv I xs acc S2 (h4 rfl) turn hm'
      refine ⟨ds, S', ?_, h8⟩
      unfold comp1
      rw [if_pos (show still all none S from True.intro), h1]
      simp only [Option.bind_some, h2, h7]
theorem comp_inv (I : List D → List D → Store → Prop) {S0 : Store} (hit : it ρ S0 = some (xs, none, S)) (hb : xs.length ≤ big) (h0 : I xs [] S)
    (turn : ∀ x xs' acc S, x ∈ xs → I (x :: xs') acc S → ∃ ρ1 S1 b S2, g x (wipe ρ vs) S = some (ρ1, S1) ∧ tt ρ1 S1 = some (.bl b, S2) ∧ (b = true → ∃ y S3, elt ρ1 S2 = some (y, S3) ∧ I xs' (acc ++ [y]) S3) ∧ (b = false → I xs' acc S2)) :
    ∃ ds S', mComp it g tt elt vs ρ S0 = some (.lst ds, S') ∧ I [] ds S' := by
  obtain ⟨ds, S', h1, h2⟩ := comp1_inv (g := g) (tt := tt) (elt := elt) (vs := vs) (ρ := ρ) I xs [] S h0 turn fun x h => h
  refine ⟨ds, S', ?_, h2⟩
  unfold mComp
  simp only [hit, Option.bind_some, h1]
  rw [if_pos hb]
theorem compM_inv (I : List D → List D → Store → Prop) {S0 : Store} (hit : it ρ S0 = some (xs, none, S)) (hb : xs.length ≤ big) (h0 : I xs [] S)
    (turn : ∀ x xs' acc S, x ∈ xs → I (x :: xs') acc S → ∃ ρ1 S1 b S2, g x (wipe ρ vs) S = some (ρ1, S1) ∧ tt ρ1 S1 = some (.bl b, S2) ∧ (b = true → ∃ y S3, elt ρ1 S2 = some (y, S3) ∧ I xs' (acc ++ [y]) S3) ∧ (b = false → I xs' acc S2))
    (hp : ∀ ds S, I [] ds S → pureL ds = true) :
    ∃ ds S', mCompM it g tt elt vs ρ S0 = some (.rf S'.length, S' ++ [some (.lst ds)]) ∧ I [] ds S' := by
  obtain ⟨ds, S', h1, h2⟩ := comp1_inv (g := g) (tt := tt) (elt := elt) (vs := vs) (ρ := ρ) I xs [] S h0 turn fun x h => h
  refine ⟨ds, S', ?_, h2⟩
  unfold mCompM
  simp only [hit, Option.bind_some, h1]
  rw [if_pos ⟨hb, hp _ _ h2⟩]
/-- [f x for x in xs if p x], nothing is changed -/
theorem comp_map (f : D → D) (p : D → Bool) {S0 : Store} (hit : it ρ S0 = some (xs, none, S)) (hb : xs.length ≤ big)
    (turn : ∀ x ∈ xs, ∃ ρ1, g x (wipe ρ vs) S = some (ρ1, S) ∧ tt ρ1 S = some (.bl (p x), S) ∧ (p x = true → elt ρ1 S = some (f x, S))) : mComp it g tt elt vs ρ S0 = some (.lst ((xs.filter p).map f), S) := by
  obtain ⟨ds, S', h1, h2⟩ := comp_inv (g := g) (tt := tt) (elt := elt) (vs := vs) (fun rest acc S' => S' = S ∧ acc ++ (rest.filter p).map f = (xs.filter p).map f) hit hb ⟨rfl, by simp⟩ fun x xs' acc S' hx h => by
    obtain ⟨rfl, h⟩ := h
    obtain ⟨ρ1, t1, t2, t3⟩ := turn x hx
    refine ⟨ρ1, S', p x, S', t1, t2, fun hp => ⟨f x, S', t3 hp, rfl, ?_⟩, fun hp => ⟨rfl, ?_⟩⟩
    · rw [← h, List.filter_cons_of_pos hp, List.map_cons, List.append_assoc]; rfl
    · rw [← h, List.filter_cons_of_neg (by rw [hp]; decide)]
  obtain ⟨rfl, h3⟩ := h2
  rw [h1]
  simp at h3
  rw [h3]
theorem comp_mapA (f : D → D) {S0 : Store} (hit : it ρ S0 = some (xs, none, S)) (hb : xs.length ≤ big)
    (turn : ∀ x ∈ xs, ∃ ρ1, g x (wipe ρ vs) S = some (ρ1, S) ∧ elt ρ1 S = some (f x, S)) : mComp it g (mBl true) elt vs ρ S0 = some (.lst (xs.map f), S) := by
  rw [comp_map f (fun _ => true) hit hb fun x hx => by
    obtain ⟨ρ1, h1, h2⟩ := turn x hx
    exact ⟨ρ1, h1, rfl, fun _ => h2⟩]
  rw [List.filter_eq_self.mpr fun _ _ => rfl]
/-- a loop by an invariant; no return, no break -/
theorem for1_inv {body : MS} (I : List D → Rho → Store → Prop) {all : List D} {w : Option Nat} : ∀ (xs : List D) (ρ : Rho) (S : Store), I xs ρ S → (∀ xs ρ S, I xs ρ S → still all w S) →
    (∀ x xs ρ S, x ∈ all → I (x :: xs) ρ S → ∃ ρ1 S1 ρ2 S2, g x ρ S = some (ρ1, S1) ∧ body ρ1 S1 = some (.nx, ρ2, S2) ∧ I xs ρ2 S2) → (∀ x ∈ xs, x ∈ all) → ∃ ρ' S', for1 g body all w xs ρ S = some (.nx, ρ', S') ∧ I [] ρ' S'
  | [], ρ, S, h, hs, _, _ => ⟨ρ, S, by unfold for1; rw [if_pos (hs _ _ _ h)], h⟩
  | x :: xs, ρ, S, h, hs, turn, hm => by
    obtain ⟨ρ1, S1, ρ2, S2, h1, h2, h3⟩ := turn x xs ρ S (hm x List.mem_cons_self) h
    obtain ⟨ρ', S', h4, h5⟩ := for1_inv I xs ρ2 S2 h3 hs turn fun y hy => hm y (List.mem_cons_of_mem _ hy)
    refine ⟨ρ', S', ?_, h5⟩
    unfold for1
    rw [if_pos (hs _ _ _ h), h1]
    simp only [Option.bind_some, h2, h4]
theorem for_inv {body : MS} (I : List D → Rho → Store → Prop) {S0 : Store} (hit : it ρ S0 = some (xs, none, S)) (h0 : I xs ρ S)
    (turn : ∀ x xs' ρ S, x ∈ xs → I (x :: xs') ρ S → ∃ ρ1 S1 ρ2 S2, g x ρ S = some (ρ1, S1) ∧ body ρ1 S1 = some (.nx, ρ2, S2) ∧ I xs' ρ2 S2) : ∃ ρ' S', sFor it g body ρ S0 = some (.nx, ρ', S') ∧ I [] ρ' S' := by
  obtain ⟨ρ', S', h1, h2⟩ := for1_inv (g := g) (body := body) (w := none) I xs ρ S h0 (fun _ _ _ _ => True.intro) turn fun x h => h
  refine ⟨ρ', S', ?_, h2⟩
  unfold sFor
  simp only [hit, Option.bind_some, h1]
end
/-! ### small steps -/
theorem seq_nx {a b : MS} {ρ ρ1 : Rho} {S S1 : Store} (h : a ρ S = some (.nx, ρ1, S1)) : sSeq a b ρ S = b ρ1 S1 := by unfold sSeq; rw [h]; rfl
theorem seq_ret {a b : MS} {ρ ρ1 : Rho} {S S1 : Store} {d : D} (h : a ρ S = some (.ret d, ρ1, S1)) : sSeq a b ρ S = some (.ret d, ρ1, S1) := by unfold sSeq; rw [h]; rfl
theorem if_t {c : M} {a b : MS} {ρ : Rho} {S S1 : Store} (h : c ρ S = some (.bl true, S1)) : sIf c a b ρ S = a ρ S1 := by unfold sIf; rw [h]; rfl
theorem if_f {c : M} {a b : MS} {ρ : Rho} {S S1 : Store} (h : c ρ S = some (.bl false, S1)) : sIf c a b ρ S = b ρ S1 := by unfold sIf; rw [h]; rfl
theorem ret_is {m : M} {ρ : Rho} {S S1 : Store} {d : D} (h : m ρ S = some (d, S1)) : sRet m ρ S = some (.ret d, ρ, S1) := by unfold sRet; rw [h]; rfl
theorem fn_ret {n l : Nat} {b : MS} {ds : List D} {S S1 : Store} {ρ : Rho} {d : D} (hn : ds.length = n) (h : b (ds.map some ++ List.replicate l none) S = some (.ret d, ρ, S1)) : mFn n l b ds S = close S.length d S1 := by
  unfold mFn; rw [if_pos hn, h]
theorem fn_nx {n l : Nat} {b : MS} {ds : List D} {S S1 : Store} {ρ : Rho} (hn : ds.length = n) (h : b (ds.map some ++ List.replicate l none) S = some (.nx, ρ, S1)) : mFn n l b ds S = close S.length .non S1 := by
  unfold mFn; rw [if_pos hn, h]
theorem close_same {d : D} {S : Store} {n : Nat} (h : S.length = n) : close n d S = some (d, S) := by unfold close; rw [if_pos h]
theorem close_pure {d : D} {S : Store} {n : Nat} (h : d.pure = true) : close n d S = some (d, S.take n) := by
  unfold close
  split
  · rename_i hl; rw [← hl, List.take_length]
  · cases d <;> first
      | (simp [D.pure] at h; done)
      | (simp only []; rw [if_pos h])
      | (show (if _ then _ else _) = _; rw [if_pos h])
theorem close_rf {k n : Nat} {d : D} {S : Store} (hk : S[k]? = some (some d)) (hn : n ≤ k) : close n (.rf k) S = some (d, S.take n) := by
  have hl := (List.getElem?_eq_some_iff.mp hk).1
  unfold close
  rw [if_neg (by omega)]
  show (if k < n then some (D.rf k, S.take n) else _) = _
  rw [if_neg (by omega), hk]
end Mi
set_option Elab.async false
set_option linter.all false
set_option maxRecDepth 100000
namespace K11
open Mi
/-- the pot at k -/
def Pot (S : Store) (k : Nat) : Prop := ∃ p0 p1 : Int, S[k]? = some (some (.lst [.int p0, .int p1])) ∧ 0 ≤ p0 ∧ 0 ≤ p1 ∧ p1 ≤ 2147483423
/-- all but the pot at k stays -/
structure Step (k : Nat) (S S' : Store) : Prop where
  pot : Pot S' k
  len : S'.length = S.length
  rest : ∀ j, j ≠ k → S'[j]? = S[j]?
theorem Step.refl {k : Nat} {S : Store} (h : Pot S k) : Step k S S := ⟨h, rfl, fun _ _ => rfl⟩
theorem Step.trans {k : Nat} {S S1 S2 : Store} (a : Step k S S1) (b : Step k S1 S2) : Step k S S2 := ⟨b.pot, b.len.trans a.len, fun j h => (b.rest j h).trans (a.rest j h)⟩
theorem get_set {S : Store} {k : Nat} {d u : D} (h : S[k]? = some (some u)) : (setStore S k d)[k]? = some (some d) := by
  unfold setStore
  exact List.getElem?_set_self (List.getElem?_eq_some_iff.mp h).1
theorem Step.set {k : Nat} {S : Store} {p0 p1 : Int} {u : D} (h : S[k]? = some (some u)) (h0 : 0 ≤ p0) (h1 : 0 ≤ p1) (h2 : p1 ≤ 2147483423) : Step k S (setStore S k (.lst [.int p0, .int p1])) :=
  ⟨⟨p0, p1, get_set h, h0, h1, h2⟩, by simp [setStore], fun j hj => by unfold setStore; exact List.getElem?_set_ne (Ne.symm hj)⟩
theorem draw_spec {S : Store} {k : Nat} {n : Int} (h : Pot S k) (hn : 0 < n) (hn2 : n < 1073741824) : ∃ (r : Int) (S' : Store), f__law_draw [.rf k, .int n] S = some (.int r, S') ∧ 0 ≤ r ∧ r < n ∧ Step k S S' := by
  obtain ⟨p0, p1, hk, h0, h1, h2⟩ := h
  by_cases hp : 0 < p0
  · refine ⟨p0 % n, setStore S k (.lst [.int (p0 / n), .int p1]), ?_, Int.emod_nonneg _ (by omega), Int.emod_lt_of_pos _ hn, Step.set hk (Int.ediv_nonneg h0 (by omega)) h1 h2⟩
    refine (fn_ret (n := 2) (l := 1) (b := b__law_draw) (d := .int (p0 % n)) (S1 := setStore S k (.lst [.int (p0 / n), .int p1])) (ρ := [some (.rf k), some (.int n), some (.int (p0 % n))]) rfl ?_).trans (close_same (by simp [setStore]))
    unfold b__law_draw
    simp [sSeq, sIf, mBin, mVar, mK, mInt, top, hk, oItem, place, oGt, hp, sSet, mB, evalL, fDivmod, hn, hn2, gTup, gList, gSub, gName, D.pure, sRet, get_set]
  · have e0 : p0 = 0 := by omega
    subst e0
    refine ⟨((p1 * 48271 + 20011) % 2147483423 * ((p1 * 48271 + 20011) % 2147483423) % 2147483497 / 19) % n, setStore S k (.lst [.int 0, .int ((p1 * 48271 + 20011) % 2147483423)]), ?_, Int.emod_nonneg _ (by omega), Int.emod_lt_of_pos _ hn, Step.set hk (Int.le_refl _) (Int.emod_nonneg _ (by decide)) (by have := Int.emod_lt_of_pos (p1 * 48271 + 20011) (b := 2147483423) (by decide); omega)⟩
    have b1 := Int.emod_nonneg (p1 * 48271 + 20011) (b := 2147483423) (by decide)
    have b2 := Int.emod_lt_of_pos (p1 * 48271 + 20011) (b := 2147483423) (by decide)
    refine (fn_ret (n := 2) (l := 1) (b := b__law_draw) (d := .int (((p1 * 48271 + 20011) % 2147483423 * ((p1 * 48271 + 20011) % 2147483423) % 2147483497 / 19) % n)) (S1 := setStore S k (.lst [.int 0, .int ((p1 * 48271 + 20011) % 2147483423)])) (ρ := [some (.rf k), some (.int n), none]) rfl ?_).trans (close_same (by simp [setStore]))
    generalize hq : (p1 * 48271 + 20011) % 2147483423 = q at b1 b2
    unfold b__law_draw
    have m1 : (-18446744073709551616 < p1 ∧ p1 < 18446744073709551616) := by omega
    have m2 : (-18446744073709551616 < q ∧ q < 18446744073709551616) := by omega
    simp [sSeq, sIf, mBin, mVar, mK, mInt, top, hk, oItem, place, oGt, sSet, mB, evalL, fInt, oAdd, oMul, oMod, oFdiv, m1, m2, hq, hn, hn2, gSub, gName, D.pure, sRet, get_set, sPass]
end K11
set_option Elab.async false
set_option linter.all false
set_option maxRecDepth 100000
namespace K11
open Mi
structure En where
  x : Int
  y : Int
  n : List Nat
def enc (e : En) : D := .tup [.int e.x, .int e.y, .str e.n]
def encs (l : List En) : List D := l.map enc
def isName (s : List Nat) : Prop := 1 ≤ s.length ∧ s.length ≤ 8 ∧ ∀ c ∈ s, 97 ≤ c ∧ c ≤ 122
theorem among_spec {S : Store} {k : Nat} {xs : List D} (h : Pot S k) (hn : xs ≠ []) (hn2 : xs.length ≤ 1000) : ∃ (d : D) (S' : Store), f__law_among [.rf k, .lst xs] S = some (d, S') ∧ d ∈ xs ∧ Step k S S' := by
  have hl : 0 < xs.length := List.length_pos_iff.mpr hn
  obtain ⟨r, S', h1, h2, h3, h4⟩ := draw_spec (n := (xs.length : Int)) h (by omega) (by omega)
  have hi : r.toNat < xs.length := by omega
  refine ⟨xs[r.toNat], S', ?_, List.getElem_mem hi, h4⟩
  refine (fn_ret (n := 2) (l := 0) (b := b__law_among) (d := xs[r.toNat]) (S1 := S') (ρ := [some (.rf k), some (.lst xs)]) rfl ?_).trans (close_same h4.len)
  unfold b__law_among
  have hp : place xs.length r = some r.toNat := by unfold place; rw [if_pos ⟨h2, h3⟩]
  simp [sRet, mBin, mVar, mCall, evalL, mB, fLen, fLen0, top, h1, oItem, hp, hi]
/-! ### what an entry is -/
theorem is_integer_int (i : Int) (S : Store) : f_is_integer [.int i] S = some (.bl true, S) := by
  refine (fn_ret (n := 1) (l := 0) (b := b_is_integer) (d := .bl true) (S1 := S) (ρ := [some (.int i)]) rfl ?_).trans (close_same rfl)
  unfold b_is_integer
  simp [sRet, mAnd, mNot, mIsA, mUn, mVar, top, oIsA, isA]
theorem is_step_int (i : Int) (S : Store) : f_is_step [.int i] S = some (.bl (decide (-20 ≤ i ∧ i ≤ 20)), S) := by
  refine (fn_ret (n := 1) (l := 0) (b := b_is_step) (d := .bl (decide (-20 ≤ i ∧ i ≤ 20))) (S1 := S) (ρ := [some (.int i)]) rfl ?_).trans (close_same rfl)
  unfold b_is_step
  by_cases h1 : -20 ≤ i
  · by_cases h2 : i ≤ 20 <;> simp [sRet, mAnd, mCall, evalL, mChain, mUn, mVar, mK, top, is_integer_int, oNeg, oLe, h1, h2]
  · simp [sRet, mAnd, mCall, evalL, mChain, mUn, mVar, mK, top, is_integer_int, oNeg, oLe, h1]
end K11
set_option Elab.async false
set_option linter.all false
set_option maxRecDepth 100000
namespace K11
open Mi
def abc : List Nat := [97, 98, 99, 100, 101, 102, 103, 104, 105, 106, 107, 108, 109, 110, 111, 112, 113, 114, 115, 116, 117, 118, 119, 120, 121, 122]
theorem mem_abc {c : Nat} : c ∈ abc ↔ 97 ≤ c ∧ c ≤ 122 := by
  unfold abc
  simp only [List.mem_cons, List.not_mem_nil, or_false]
  omega
theorem asBools_true {α : Type} : ∀ l : List α, asBools (l.map fun _ => D.bl true) = some (l.map fun _ => true)
  | [] => rfl
  | x :: l => by
    show (asBools (l.map fun _ => D.bl true)).map (true :: ·) = _
    rw [asBools_true l]; rfl
theorem all_true {α : Type} (l : List α) : (l.map fun _ => true).all id = true := by
  rw [List.all_eq_true]; intro x hx
  obtain ⟨_, _, rfl⟩ := List.mem_map.mp hx; rfl
theorem is_name_ok {s : List Nat} (h : isName s) (S : Store) : f_is_name [.str s] S = some (.bl true, S) := by
  obtain ⟨h1, h2, h3⟩ := h
  have hb : s.length ≤ big := by unfold big; omega
  refine (fn_ret (n := 1) (l := 1) (b := b_is_name) (d := .bl true) (S1 := S) (ρ := [some (.str s), none]) rfl ?_).trans (close_same rfl)
  have hc : mComp (Mi.iStr (mVar 0)) (gName 1) (mBl true) (mBin oIn (mVar 1) (mStr abc)) [1] [some (.str s), none] S = some (.lst ((s.map fun c => D.str [c]).map fun _ => D.bl true), S) := by
    refine comp_mapA (fun _ => D.bl true) (xs := s.map fun c => D.str [c]) (S := S) rfl (by simpa using hb) fun x hx => ?_
    obtain ⟨c, hc, rfl⟩ := List.mem_map.mp hx
    refine ⟨_, rfl, ?_⟩
    simp [mBin, mVar, mK, wipe, top, oIn, mem_abc.mpr (h3 c hc)]
  have hsp : sSeq (sIf (mOr (mNot (mIsA ["Kind"] ["str"] (mVar 0))) (mNot (mChain oLe oLe (mInt 1) (mB fLen [(mVar 0)]) (mInt 8)))) (sRet (mBl false)) sPass) (sRet (mB fAll [mComp (Mi.iStr (mVar 0)) (gName 1) (mBl true) (mBin oIn (mVar 1) (mStr abc)) [1]])) [some (.str s), none] S = some (.ret (.bl true), [some (.str s), none], S) := by
    rw [seq_nx (ρ1 := [some (.str s), none]) (S1 := S)]
    · refine ret_is ?_
      unfold mB evalL evalL
      rw [hc]
      show ((asBools ((s.map fun c => D.str [c]).map fun _ => D.bl true)).map fun bs => D.bl (bs.all id)).bind _ = _
      rw [asBools_true]
      show (some (D.bl (List.all _ id))).bind _ = _
      rw [all_true]; rfl
    · have l1 : (1 : Int) ≤ (s.length : Int) := by omega
      have l2 : (s.length : Int) ≤ 8 := by omega
      simp [sIf, mOr, mNot, mIsA, mUn, mVar, mK, top, oIsA, isA, mChain, mB, evalL, fLen, fLen0, hb, oLe, l1, l2, sPass]
  exact hsp
theorem is_name_non (S : Store) : f_is_name [.non] S = some (.bl false, S) := by
  refine (fn_ret (n := 1) (l := 1) (b := b_is_name) (d := .bl false) (S1 := S) (ρ := [some .non, none]) rfl ?_).trans (close_same rfl)
  unfold b_is_name
  refine seq_ret ?_
  simp [sIf, mOr, mNot, mIsA, mUn, mVar, mK, top, oIsA, isA, sRet]
theorem is_entry_enc {e : En} (h : isName e.n) (hx : -20 ≤ e.x ∧ e.x ≤ 20) (hy : -20 ≤ e.y ∧ e.y ≤ 20) (S : Store) : f_is_entry [enc e] S = some (.bl true, S) := by
  refine (fn_ret (n := 1) (l := 0) (b := b_is_entry) (d := .bl true) (S1 := S) (ρ := [some (enc e)]) rfl ?_).trans (close_same rfl)
  unfold b_is_entry
  simp [sSeq, sIf, mOr, mNot, mIsA, mUn, mVar, mK, mInt, top, oIsA, isA, mBin, mB, evalL, fLen, fLen0, oNe, dataD, dataL, eqD, sPass, sRet, mAnd, mCall, enc, oItem, place, is_step_int, hx, hy, is_name_ok h]
end K11
set_option Elab.async false
set_option linter.all false
set_option maxRecDepth 100000
namespace K11
open Mi PySem PySem.W PyProof.Rows
/-! ### the order of entries -/
abbrev LO : KeyOrd := listOrd itemOrd
theorem le_tot (a b : D) : (leD a b || leD b a) = true := by
  unfold leD dataLt
  cases h1 : lexLt itemOrd (keyToks (toPy b)) (keyToks (toPy a)) with
  | false => rfl
  | true =>
    cases h2 : lexLt itemOrd (keyToks (toPy a)) (keyToks (toPy b)) with
    | false => rfl
    | true =>
      have := LO.trans _ _ _ h1 h2
      rw [LO.irrefl] at this; cases this
theorem le_tr (a b c : D) (h1 : leD a b = true) (h2 : leD b c = true) : leD a c = true := by
  unfold leD dataLt at *
  cases h : lexLt itemOrd (keyToks (toPy c)) (keyToks (toPy a)) with
  | false => rfl
  | true =>
    rcases LO.negTrans _ (keyToks (toPy b)) _ h with z | z
    · have z : lexLt itemOrd (keyToks (toPy c)) (keyToks (toPy b)) = true := z
      rw [z] at h2; cases h2
    · have z : lexLt itemOrd (keyToks (toPy b)) (keyToks (toPy a)) = true := z
      rw [z] at h1; cases h1
def leE (a b : En) : Bool := leD (enc a) (enc b)
theorem leE_anti {a b : En} (h1 : leE a b = true) (h2 : leE b a = true) : a = b := by
  unfold leE leD dataLt at h1 h2
  have e : keyToks (toPy (enc a)) = keyToks (toPy (enc b)) := LO.total _ _ (by simpa using h2) (by simpa using h1)
  obtain ⟨x, y, n⟩ := a
  obtain ⟨x', y', n'⟩ := b
  simp [enc, toPy, toPys, keyToks, keyToksAll] at e
  obtain ⟨rfl, rfl, e⟩ := e
  subst e
  rfl
def sE (l : List En) : List En := l.mergeSort leE
theorem sE_perm (l : List En) : (sE l).Perm l := List.mergeSort_perm l leE
theorem sE_pair (l : List En) : (sE l).Pairwise (fun a b => leE a b = true) := List.pairwise_mergeSort (le := leE) (fun a b c => le_tr _ _ _) (fun a b => le_tot _ _) l
theorem sE_eq {l m : List En} (h : l.Perm m) : sE l = sE m := List.Perm.eq_of_pairwise (le := fun a b => leE a b = true) (fun a b _ _ => leE_anti) (sE_pair l) (sE_pair m) (((sE_perm l).trans h).trans (sE_perm m).symm)
theorem sE_idem (l : List En) : sE (sE l) = sE l := sE_eq (sE_perm l)
theorem sort_encs (l : List En) : (encs l).mergeSort leD = encs (sE l) := (List.map_mergeSort (f := enc) (r := leE) (s := leD) fun _ _ _ _ => rfl).symm
theorem encs_data {n : Nat} (h : 1 ≤ n) : ∀ l : List En, dataL n (encs l) = true
  | [] => by simp [encs, dataL]
  | e :: l => by
    have ih := encs_data h l
    obtain ⟨m, rfl⟩ : ∃ m, n = m + 1 := ⟨n - 1, by omega⟩
    simp only [encs, List.map_cons] at ih ⊢
    rw [dataL, ih]
    simp [enc, dataD, dataL]
theorem sorts_encs {l : List En} (hb : l.length ≤ big) : Sorts (encs l) := by
  refine ⟨encs_data (by decide) l, ?_, ?_, by simpa [encs] using hb⟩
  · rw [toPys_map]
    intro d hd d' hd'
    simp only [encs, List.map_map, List.mem_map, Function.comp_apply] at hd hd'
    obtain ⟨a, _, rfl⟩ := hd
    obtain ⟨b, _, rfl⟩ := hd'
    simp [enc, toPy, toPys, alike, alikeAll]
  · refine .inl fun d hd => ?_
    rw [toPys_map] at hd
    simp only [encs, List.map_map, List.mem_map, Function.comp_apply] at hd
    obtain ⟨a, _, rfl⟩ := hd
    exact ⟨.int a.x, [.int a.y, .str (toS a.n)], by simp [enc, toPy, toPys]⟩
theorem fSorted_encs {l : List En} (hb : l.length ≤ big) : fSorted [.lst (encs l)] = some (.lst (encs (sE l))) := by
  simp only [fSorted]
  rw [if_pos (sorts_encs hb), sort_encs]
/-! ### shifted, normed -/
def sh (a b : Int) (e : En) : En := ⟨e.x + a, e.y + b, e.n⟩
/-- a list or a tuple of these -/
def Sq (d : D) (xs : List D) : Prop := d = .lst xs ∨ d = .tup xs
theorem iseq_sq {d : D} {xs : List D} (h : Sq d xs) {m : M} {ρ : Rho} {S S1 : Store} (e : m ρ S = some (d, S1)) : iSeq m ρ S = some (xs, none, S1) := by
  unfold iSeq
  rw [e]
  rcases h with rfl | rfl <;> rfl
theorem shifted_spec {d : D} {l : List En} (h : Sq d (encs l)) (hb : l.length ≤ big) (a b : Int) (S : Store) : f_shifted [d, .int a, .int b] S = some (.lst (encs (l.map (sh a b))), S) := by
  refine (fn_ret (n := 3) (l := 3) (b := b_shifted) (d := .lst (encs (l.map (sh a b)))) (S1 := S) (ρ := [some d, some (.int a), some (.int b), none, none, none]) rfl ?_).trans (close_same rfl)
  refine ret_is ?_
  have e : encs (l.map (sh a b)) = (encs l).map fun x => match x with | .tup [.int x, .int y, n] => D.tup [.int (x + a), .int (y + b), n] | d => d := by
    unfold encs
    rw [List.map_map, List.map_map]
    exact List.map_congr_left fun e _ => rfl
  rw [e]
  refine comp_mapA _ (xs := encs l) (S := S) (iseq_sq h rfl) (by simpa [encs] using hb) fun x hx => ?_
  obtain ⟨e, _, rfl⟩ := List.mem_map.mp hx
  refine ⟨_, rfl, ?_⟩
  simp [mTup, evalL, mBin, mVar, wipe, enc, top, oAdd, gTup, gList, gName]
def mapX (l : List En) : List Int := l.map (·.x)
def mapY (l : List En) : List Int := l.map (·.y)
theorem asInts_map : ∀ l : List Int, asInts (l.map D.int) = some l
  | [] => rfl
  | i :: l => by
    show (asInts (l.map D.int)).map (i :: ·) = _
    rw [asInts_map l]; rfl
theorem comp_x {d : D} {l : List En} (h : Sq d (encs l)) (hb : l.length ≤ big) {m : M} {ρ : Rho} {S : Store} {i : Nat} {vs : List Nat} (e : m ρ S = some (d, S)) (hi : i < (wipe ρ vs).length) : mComp (iSeq m) (gName i) (mBl true) (mBin oItem (mVar i) (mInt 0)) vs ρ S = some (.lst ((mapX l).map D.int), S) := by
  have e2 : (mapX l).map D.int = (encs l).map fun x => match x with | .tup (x :: _) => x | d => d := by
    unfold encs mapX
    rw [List.map_map, List.map_map]
    exact List.map_congr_left fun e _ => rfl
  rw [e2]
  refine comp_mapA _ (xs := encs l) (S := S) (iseq_sq h e) (by simpa [encs] using hb) fun x hx => ?_
  obtain ⟨e, _, rfl⟩ := List.mem_map.mp hx
  refine ⟨_, rfl, ?_⟩
  simp [mBin, mVar, mK, hi, enc, top, oItem, place]
theorem comp_y {d : D} {l : List En} (h : Sq d (encs l)) (hb : l.length ≤ big) {m : M} {ρ : Rho} {S : Store} {i : Nat} {vs : List Nat} (e : m ρ S = some (d, S)) (hi : i < (wipe ρ vs).length) : mComp (iSeq m) (gName i) (mBl true) (mBin oItem (mVar i) (mInt 1)) vs ρ S = some (.lst ((mapY l).map D.int), S) := by
  have e2 : (mapY l).map D.int = (encs l).map fun x => match x with | .tup (_ :: y :: _) => y | d => d := by
    unfold encs mapY
    rw [List.map_map, List.map_map]
    exact List.map_congr_left fun e _ => rfl
  rw [e2]
  refine comp_mapA _ (xs := encs l) (S := S) (iseq_sq h e) (by simpa [encs] using hb) fun x hx => ?_
  obtain ⟨e, _, rfl⟩ := List.mem_map.mp hx
  refine ⟨_, rfl, ?_⟩
  simp [mBin, mVar, mK, hi, enc, top, oItem, place]
end K11
set_option Elab.async false
set_option linter.all false
set_option maxRecDepth 100000
namespace K11
open Mi
def lo (ns : List Int) : Int := (least ns).getD 0
def hi (ns : List Int) : Int := (greatest ns).getD 0
theorem least_some : ∀ {ns : List Int}, ns ≠ [] → least ns = some (lo ns)
  | [n], _ => rfl
  | n :: k :: ns, _ => by
    have := least_some (ns := k :: ns) (by simp)
    unfold lo
    simp only [least, this, Option.map_some, Option.getD_some]
theorem greatest_some : ∀ {ns : List Int}, ns ≠ [] → greatest ns = some (hi ns)
  | [n], _ => rfl
  | n :: k :: ns, _ => by
    have := greatest_some (ns := k :: ns) (by simp)
    unfold hi
    simp only [greatest, this, Option.map_some, Option.getD_some]
theorem fMin_ints {ns : List Int} (h : ns ≠ []) : fMin [.lst (ns.map D.int)] = some (.int (lo ns)) := by
  simp only [fMin, asInts_map, Option.bind_some, least_some h, Option.map_some]
theorem fMax_ints {ns : List Int} (h : ns ≠ []) : fMax [.lst (ns.map D.int)] = some (.int (hi ns)) := by
  simp only [fMax, asInts_map, Option.bind_some, greatest_some h, Option.map_some]
theorem b1 {f : List D → Option D} {m : M} {ρ : Rho} {S S1 : Store} {d r : D} (h : m ρ S = some (d, S1)) (hf : f [top S1 d] = some r) : mB f [m] ρ S = some (r, S1) := by
  unfold mB evalL evalL
  rw [h]
  simp only [Option.bind_some, List.map_cons, List.map_nil, hf]
theorem set_name {i : Nat} {m : M} {ρ : Rho} {S S1 : Store} {d : D} (h : m ρ S = some (d, S1)) : sSet (gName i) m ρ S = some (.nx, ρ.set i (some d), S1) := by
  unfold sSet gName
  rw [h]; rfl
def nrm (l : List En) : List En := sE (l.map (sh (-lo (mapX l)) (-lo (mapY l))))
theorem mapX_ne {l : List En} (h : l ≠ []) : mapX l ≠ [] := by unfold mapX; simpa using h
theorem mapY_ne {l : List En} (h : l ≠ []) : mapY l ≠ [] := by unfold mapY; simpa using h
theorem normed_spec {d : D} {l : List En} (h : Sq d (encs l)) (hb : l.length ≤ big) (hne : l ≠ []) (S : Store) : f_normed [d] S = some (.lst (encs (nrm l)), S) := by
  refine (fn_ret (n := 1) (l := 3) (b := b_normed) (d := .lst (encs (nrm l))) (S1 := S) (ρ := [some d, some (.int (lo (mapX l))), some (.int (lo (mapY l))), none]) rfl ?_).trans (close_same rfl)
  unfold b_normed
  refine (seq_nx (set_name (b1 (comp_x h hb (S := S) rfl (by simp [wipe])) (fMin_ints (mapX_ne hne))))).trans ?_
  refine (seq_nx (set_name (b1 (comp_y h hb (S := S) rfl (by simp [wipe])) (fMin_ints (mapY_ne hne))))).trans ?_
  refine ret_is ?_
  refine b1 (d := .lst (encs (l.map (sh (-lo (mapX l)) (-lo (mapY l)))))) (S1 := S) ?_ (fSorted_encs (by simpa using hb))
  have hs := shifted_spec h hb (-lo (mapX l)) (-lo (mapY l)) S
  simp [mCall, evalL, mUn, mVar, top, oNeg, hs]
theorem law_normed_spec {d : D} {l : List En} (h : Sq d (encs l)) (hb : l.length ≤ big) (hne : l ≠ []) (S : Store) : f__law_normed [d] S = some (.lst (encs (nrm l)), S) := by
  refine (fn_ret (n := 1) (l := 3) (b := b__law_normed) (d := .lst (encs (nrm l))) (S1 := S) (ρ := [some d, some (.int (lo (mapX l))), some (.int (lo (mapY l))), none]) rfl ?_).trans (close_same rfl)
  unfold b__law_normed
  have e1 := b1 (comp_x h hb (m := mVar 0) (ρ := [some d, none, none, none]) (S := S) (i := 3) (vs := [3]) rfl (by simp [wipe])) (fMin_ints (mapX_ne hne))
  have e2 := b1 (comp_y h hb (m := mVar 0) (ρ := [some d, none, none, none]) (S := S) (i := 3) (vs := [3]) rfl (by simp [wipe])) (fMin_ints (mapY_ne hne))
  refine (seq_nx (ρ1 := [some d, some (.int (lo (mapX l))), some (.int (lo (mapY l))), none]) (S1 := S) ?_).trans ?_
  · unfold sSet mTup evalL evalL evalL
    show Option.bind (Option.bind (Option.bind (mB fMin [_] _ S) _) _) _ = _
    rw [show ([d].map some ++ List.replicate 3 none : Rho) = [some d, none, none, none] from rfl, e1]
    simp only [Option.bind_some, e2]
    rfl
  refine ret_is ?_
  refine b1 (d := .lst (encs (l.map (sh (-lo (mapX l)) (-lo (mapY l)))))) (S1 := S) ?_ (fSorted_encs (by simpa using hb))
  have e : encs (l.map (sh (-lo (mapX l)) (-lo (mapY l)))) = (encs l).map fun x => match x with | .tup [.int x, .int y, n] => D.tup [.int (x - lo (mapX l)), .int (y - lo (mapY l)), n] | d => d := by
    unfold encs
    rw [List.map_map, List.map_map]
    exact List.map_congr_left fun e _ => rfl
  rw [e]
  refine comp_mapA _ (xs := encs l) (S := S) (iseq_sq h rfl) (by simpa [encs] using hb) fun x hx => ?_
  obtain ⟨e, _, rfl⟩ := List.mem_map.mp hx
  refine ⟨_, rfl, ?_⟩
  simp [mTup, evalL, mBin, mVar, mK, wipe, enc, top, oItem, place, oSub]
end K11
set_option Elab.async false
set_option linter.all false
set_option maxRecDepth 100000
namespace K11
open Mi
theorem eqD_enc (a b : En) : eqD (enc a) (enc b) = true ↔ a = b := by
  obtain ⟨x, y, n⟩ := a
  obtain ⟨x', y', n'⟩ := b
  simp [enc, eqD, eqL]
theorem data_enc (e : En) : dataD 60 (enc e) = true := by simp [enc, dataD, dataL]
theorem pure_enc (e : En) : (enc e).pure = true := by simp [enc, D.pure, pureL]
theorem pure_encs : ∀ l : List En, pureL (encs l) = true
  | [] => rfl
  | e :: l => by
    show ((enc e).pure && pureL (encs l)) = true
    rw [pure_enc, pure_encs l]; rfl
theorem any_enc {e : En} {l : List En} : ((encs l).any fun z => eqD z (enc e)) = true ↔ e ∈ l := by
  rw [List.any_eq_true]
  constructor
  · rintro ⟨d, hd, h⟩
    obtain ⟨a, ha, rfl⟩ := List.mem_map.mp hd
    rw [eqD_enc] at h
    subst h; exact ha
  · intro h
    exact ⟨enc e, List.mem_map.mpr ⟨e, h, rfl⟩, (eqD_enc e e).mpr rfl⟩
theorem cut_take {α : Type} {xs : List α} {i : Nat} (h : i ≤ xs.length) : cut xs none (some (i : Int)) = xs.take i := by
  unfold cut clip
  simp only [List.drop_zero, Nat.sub_zero]
  rw [if_pos (by omega)]
  congr 1
  omega
def kind (m : List En) : D := .obj "Kind" [("own_entries", .tup (encs m)), ("own_reach", .tup [.int (hi (mapX m)), .int (hi (mapY m))])]
/-- what Kind takes -/
structure Good (l : List En) : Prop where
  two : 2 ≤ l.length
  six : l.length ≤ 6
  nm : ∀ e ∈ l, isName e.n
  bx : ∀ e ∈ l, -20 ≤ e.x ∧ e.x ≤ 20
  by_ : ∀ e ∈ l, -20 ≤ e.y ∧ e.y ≤ 20
  nd : l.Nodup
  rx : hi (mapX (nrm l)) ≤ 3
  ry : hi (mapY (nrm l)) ≤ 3
theorem nrm_len (l : List En) : (nrm l).length = l.length := by unfold nrm; rw [(sE_perm _).length_eq, List.length_map]
theorem pairs_mem {xs : List D} {x : D} (h : x ∈ pairs 0 xs) : ∃ (i : Nat) (d : D), xs[i]? = some d ∧ x = .tup [.int (i : Int), d] := by
  obtain ⟨i, hi⟩ := List.getElem?_of_mem h
  obtain ⟨d, h1, h2⟩ := pairs_get hi
  exact ⟨i, d, h1, by rw [h2]; simp⟩
theorem init_loop {l : List En} (g : Good l) {k : Nat} {S : Store} :
    ∃ ρ', sFor (iEnum (mVar 1)) (gTup [(gName 3), (gName 4)]) (sIf (mOr (mNot (mCall f_is_entry [(mVar 4)])) (mBin oIn (mVar 4) (mSlice (mVar 1) none (some (mVar 3))))) sNo sPass) [some (.rf k), some (.tup (encs l)), none, none, none, none, none] S = some (.nx, ρ', S) ∧
      ρ'[0]? = some (some (.rf k)) ∧ ρ'[1]? = some (some (.tup (encs l))) ∧ ρ'.length = 7 := by
  obtain ⟨ρ', S', h1, h2⟩ := for_inv (it := iEnum (mVar 1)) (g := gTup [gName 3, gName 4]) (body := sIf (mOr (mNot (mCall f_is_entry [(mVar 4)])) (mBin oIn (mVar 4) (mSlice (mVar 1) none (some (mVar 3))))) sNo sPass)
    (ρ := [some (.rf k), some (.tup (encs l)), none, none, none, none, none]) (S := S) (S0 := S) (xs := pairs 0 (encs l))
    (fun _ ρ S' => S' = S ∧ ρ[0]? = some (some (.rf k)) ∧ ρ[1]? = some (some (.tup (encs l))) ∧ ρ.length = 7) rfl ⟨rfl, rfl, rfl, rfl⟩ fun x xs' ρ S' hx h => by
      obtain ⟨rfl, h0, h1, hl⟩ := h
      obtain ⟨i, d, hd, rfl⟩ := pairs_mem hx
      have hil : i < l.length := by
        have := (List.getElem?_eq_some_iff.mp hd).1
        simpa [encs] using this
      have he : d = enc l[i] := by
        unfold encs at hd
        rw [List.getElem?_map, List.getElem?_eq_getElem hil] at hd
        simpa using hd.symm
      subst he
      have hm : l[i] ∈ l := List.getElem_mem hil
      refine ⟨(ρ.set 3 (some (.int i))).set 4 (some (enc l[i])), S', (ρ.set 3 (some (.int i))).set 4 (some (enc l[i])), S', rfl, ?_, rfl, ?_, ?_, ?_⟩
      · refine (if_f ?_).trans rfl
        have v4 : ((ρ.set 3 (some (.int (i : Int)))).set 4 (some (enc l[i])))[4]? = some (some (enc l[i])) := List.getElem?_set_self (by simp [hl])
        have v3 : ((ρ.set 3 (some (.int (i : Int)))).set 4 (some (enc l[i])))[3]? = some (some (.int i)) := by
          rw [List.getElem?_set_ne (by decide)]; exact List.getElem?_set_self (by omega)
        have v1 : ((ρ.set 3 (some (.int (i : Int)))).set 4 (some (enc l[i])))[1]? = some (some (.tup (encs l))) := by
          rw [List.getElem?_set_ne (by decide), List.getElem?_set_ne (by decide)]; exact h1
        have hie := is_entry_enc (g.nm _ hm) (g.bx _ hm) (g.by_ _ hm) S'
        have hc : cut (encs l) none (some (i : Int)) = encs (l.take i) := by
          rw [cut_take (by simp [encs]; omega)]
          unfold encs; rw [List.map_take]
        have hno : ((encs (l.take i)).any fun z => eqD z (enc l[i])) = false := by
          rw [Bool.eq_false_iff]
          intro z
          rw [any_enc] at z
          obtain ⟨j, hj, e⟩ := List.mem_iff_getElem.mp z
          rw [List.getElem_take] at e
          rw [List.length_take] at hj
          have := (List.getElem_inj g.nd).mp e
          omega
        have ht : top S' (enc l[i]) = enc l[i] := rfl
        have hin : oIn (enc l[i]) (.tup (encs (l.take i))) = some (.bl false) := by
          have : oIn (enc l[i]) (.tup (encs (l.take i))) = if dataD 60 (enc l[i]) = true ∧ dataL 59 (encs (l.take i)) = true then some (.bl ((encs (l.take i)).any fun z => eqD z (enc l[i]))) else none := rfl
          rw [this, if_pos ⟨data_enc _, encs_data (by decide) _⟩, hno]
        unfold mOr mNot mCall evalL evalL mBin mSlice mOpt mVar
        simp only [v4, v3, v1, Option.bind_some, hie, Bool.not_true, top, oSlice, hc]
        show (oIn (enc l[i]) (.tup (encs (l.take i)))).bind _ = _
        rw [hin]; rfl
      · rw [List.getElem?_set_ne (by decide), List.getElem?_set_ne (by decide)]; exact h0
      · rw [List.getElem?_set_ne (by decide), List.getElem?_set_ne (by decide)]; exact h1
      · simp [hl]
  obtain ⟨rfl, h3⟩ := h2
  exact ⟨ρ', h1, h3⟩

theorem store_last {S : Store} {o : Option D} : (S ++ [o])[S.length]? = some o := by simp
theorem set_last {S : Store} {o : Option D} {d : D} : setStore (S ++ [o]) S.length d = S ++ [some d] := by
  unfold setStore
  simp
theorem seq_ex {a b : MS} {ρ ρ1 : Rho} {S S1 S' : Store} (h : a ρ S = some (.nx, ρ1, S1)) (h2 : ∃ ρ2, b ρ1 S1 = some (.nx, ρ2, S')) : ∃ ρ2, sSeq a b ρ S = some (.nx, ρ2, S') := by
  obtain ⟨ρ2, h2⟩ := h2
  exact ⟨ρ2, (seq_nx h).trans h2⟩
theorem init_spec {l : List En} (g : Good l) (S : Store) : newFn "Kind" f_Kind___init__ (encs l) S = some (kind (nrm l), S) := by
  have hb : l.length ≤ big := by have := g.six; unfold big; omega
  have hne : l ≠ [] := fun z => by have := g.two; rw [z] at this; simp at this
  have hnb : (nrm l).length ≤ big := by rw [nrm_len]; exact hb
  have hnn : nrm l ≠ [] := fun z => by have := g.two; rw [← nrm_len, z] at this; simp at this
  have hlen : ((encs l).length : Int) = l.length := by simp [encs]
  have e0 : f_Kind___init__ (.rf S.length :: encs l) (S ++ [some (.obj "Kind" [])]) = some (.non, S ++ [some (kind (nrm l))]) := by
    unfold f_Kind___init__ restFn
    rw [if_pos ⟨by simp, by simp [encs]; have := g.six; unfold big; omega⟩]
    show mFn 2 5 b_Kind___init__ [.rf S.length, .tup (encs l)] (S ++ [some (.obj "Kind" [])]) = _
    obtain ⟨ρ', hloop, r0, r1, r2⟩ := init_loop g (k := S.length) (S := S ++ [some (.obj "Kind" [])])
    obtain ⟨ρ2, hbody⟩ : ∃ ρ2, b_Kind___init__ [some (.rf S.length), some (.tup (encs l)), none, none, none, none, none] (S ++ [some (.obj "Kind" [])]) = some (.nx, ρ2, S ++ [some (kind (nrm l))]) := by
      unfold b_Kind___init__
      have t1 : (mNot (mChain oLe oLe (mInt 2) (mB fLen [(mVar 1)]) (mCon "MOST_ENTRIES" [("Kind", .int 6)] (mVar 0)))) [some (.rf S.length), some (.tup (encs l)), none, none, none, none, none] (S ++ [some (.obj "Kind" [])]) = some (.bl false, S ++ [some (.obj "Kind" [])]) := by
        have l1 : (2 : Int) ≤ ((encs l).length : Int) := by rw [hlen]; have := g.two; omega
        have l2 : ((encs l).length : Int) ≤ 6 := by rw [hlen]; have := g.six; omega
        simp [mNot, mChain, mB, evalL, mVar, mK, top, fLen, fLen0, mCon, oLe, l1, l2, List.lookup]
      refine seq_ex ((if_f t1).trans rfl) (seq_ex hloop ?_)
      obtain ⟨a0, a1, a2, a3, a4, a5, a6, rfl⟩ : ∃ a0 a1 a2 a3 a4 a5 a6, ρ' = [a0, a1, a2, a3, a4, a5, a6] := by
        match ρ', r2 with
        | [a0, a1, a2, a3, a4, a5, a6], _ => exact ⟨a0, a1, a2, a3, a4, a5, a6, rfl⟩
      simp only [List.getElem?_cons_zero, List.getElem?_cons_succ, Option.some.injEq] at r0 r1
      subst r0 r1
      have hn := normed_spec (d := .tup (encs l)) (.inr rfl) hb hne (S ++ [some (.obj "Kind" [])])
      refine seq_ex (ρ1 := [some (.rf S.length), some (.tup (encs l)), some (.lst (encs (nrm l))), a3, a4, a5, a6]) (S1 := S ++ [some (.obj "Kind" [])]) (set_name (by unfold mCall evalL evalL mVar; exact hn)) ?_
      have e1 := b1 (comp_x (d := .lst (encs (nrm l))) (.inl rfl) hnb (m := mVar 2) (ρ := [some (.rf S.length), some (.tup (encs l)), some (.lst (encs (nrm l))), a3, a4, a5, a6]) (S := S ++ [some (.obj "Kind" [])]) (i := 4) (vs := [4]) rfl (by simp [wipe])) (fMax_ints (mapX_ne hnn))
      have e2 := b1 (comp_y (d := .lst (encs (nrm l))) (.inl rfl) hnb (m := mVar 2) (ρ := [some (.rf S.length), some (.tup (encs l)), some (.lst (encs (nrm l))), a3, a4, a5, a6]) (S := S ++ [some (.obj "Kind" [])]) (i := 4) (vs := [4]) rfl (by simp [wipe])) (fMax_ints (mapY_ne hnn))
      refine seq_ex (ρ1 := [some (.rf S.length), some (.tup (encs l)), some (.lst (encs (nrm l))), a3, a4, some (.int (hi (mapX (nrm l)))), some (.int (hi (mapY (nrm l))))]) (S1 := S ++ [some (.obj "Kind" [])]) ?_ ?_
      · unfold sSet mTup evalL evalL evalL
        rw [e1]
        simp only [Option.bind_some, e2]
        rfl
      refine seq_ex ((if_f (S1 := S ++ [some (.obj "Kind" [])]) ?_).trans rfl) ?_
      · have := g.rx
        simp [mBin, mVar, mCon, top, List.lookup, oGt]
        omega
      refine seq_ex ((if_f (S1 := S ++ [some (.obj "Kind" [])]) ?_).trans rfl) ?_
      · have := g.ry
        simp [mBin, mVar, mCon, top, List.lookup, oGt]
        omega
      refine seq_ex (ρ1 := [some (.rf S.length), some (.tup (encs l)), some (.lst (encs (nrm l))), a3, a4, some (.int (hi (mapX (nrm l)))), some (.int (hi (mapY (nrm l))))]) (S1 := S ++ [some (.obj "Kind" [("own_entries", .tup (encs (nrm l)))])]) ?_ ⟨[some (.rf S.length), some (.tup (encs l)), some (.lst (encs (nrm l))), a3, a4, some (.int (hi (mapX (nrm l)))), some (.int (hi (mapY (nrm l))))], ?_⟩
      · unfold sFld
        rw [b1 (d := .lst (encs (nrm l))) (S1 := S ++ [some (.obj "Kind" [])]) (r := .tup (encs (nrm l))) rfl rfl]
        simp [mVar, D.pure, pure_encs, putG, set_last]
      · unfold sFld
        simp [mVar, mTup, evalL, D.pure, pureL, putG, set_last, kind]
    exact (fn_nx (n := 2) (l := 5) (b := b_Kind___init__) (ds := [.rf S.length, .tup (encs l)]) (ρ := ρ2) rfl hbody).trans (close_same (by simp))
  unfold newFn
  rw [e0]
  simp
end K11
set_option Elab.async false
set_option linter.all false
set_option maxRecDepth 100000
namespace K11
open Mi
theorem top_kind (S : Store) (m : List En) : top S (kind m) = kind m := rfl
/-! ### what a Kind tells -/
theorem entries_spec (m : List En) (S : Store) : f_Kind_entries [kind m] S = some (.lst (encs m), S) := by
  refine (fn_ret (n := 1) (l := 0) (b := b_Kind_entries) (d := .lst (encs m)) (S1 := S) (ρ := [some (kind m)]) rfl ?_).trans (close_same rfl)
  unfold b_Kind_entries
  simp [sRet, mB, evalL, mFld, mVar, top, kind, List.lookup, fList]
theorem entriesK_spec (m : List En) (S : Store) : f_Kind_entriesK [kind m] S = some (.rf S.length, S ++ [some (.lst (encs m))]) := by
  unfold f_Kind_entriesK mFnK b_Kind_entriesK
  simp [sRet, mListM, mFld, mVar, top, kind, List.lookup, pure_encs]
theorem reach_spec (m : List En) (S : Store) : f_Kind_reach [kind m] S = some (.tup [.int (hi (mapX m)), .int (hi (mapY m))], S) := by
  refine (fn_ret (n := 1) (l := 0) (b := b_Kind_reach) (d := .tup [.int (hi (mapX m)), .int (hi (mapY m))]) (S1 := S) (ρ := [some (kind m)]) rfl ?_).trans (close_same rfl)
  unfold b_Kind_reach
  simp [sRet, mFld, mVar, top, kind, List.lookup]
theorem flat_spec (m : List En) (S : Store) : f_Kind_is_flat [kind m] S = some (.bl (decide (hi (mapY m) = 0)), S) := by
  refine (fn_ret (n := 1) (l := 0) (b := b_Kind_is_flat) (d := .bl (decide (hi (mapY m) = 0))) (S1 := S) (ρ := [some (kind m)]) rfl ?_).trans (close_same rfl)
  unfold b_Kind_is_flat
  by_cases h : hi (mapY m) = 0 <;> simp [sRet, mBin, mFld, mVar, mK, top, kind, List.lookup, oItem, place, oEq, dataD, eqD, h]
theorem len_spec (m : List En) (S : Store) : f_Kind___len__ [kind m] S = some (.int m.length, S) := by
  refine (fn_ret (n := 1) (l := 0) (b := b_Kind___len__) (d := .int m.length) (S1 := S) (ρ := [some (kind m)]) rfl ?_).trans (close_same rfl)
  unfold b_Kind___len__
  simp [sRet, mB, evalL, mFld, mVar, top, kind, List.lookup, fLen, fLen0, encs]
def names (m : List En) : List (List Nat) := (ded (m.map (·.n))).mergeSort leS
theorem asStrs_map : ∀ l : List (List Nat), asStrs (l.map D.str) = some l
  | [] => rfl
  | i :: l => by
    show (asStrs (l.map D.str)).map (i :: ·) = _
    rw [asStrs_map l]; rfl
theorem comp_names {m : List En} (hb : m.length ≤ big) (S : Store) : mComp (iSeq (mFld ["Kind"] "own_entries" (mVar 0))) (gTup [(gName 1), (gName 2), (gName 3)]) (mBl true) (mVar 3) [1, 2, 3] [some (kind m), none, none, none] S = some (.lst ((m.map (·.n)).map D.str), S) := by
  have e2 : (m.map (·.n)).map D.str = (encs m).map fun x => match x with | .tup [_, _, n] => n | d => d := by
    unfold encs
    rw [List.map_map, List.map_map]
    exact List.map_congr_left fun e _ => rfl
  rw [e2]
  refine comp_mapA _ (xs := encs m) (S := S) (iseq_sq (.inr rfl) (by simp [mFld, mVar, top, kind, List.lookup])) (by simpa [encs] using hb) fun x hx => ?_
  obtain ⟨e, _, rfl⟩ := List.mem_map.mp hx
  exact ⟨_, rfl, rfl⟩
theorem names_spec {m : List En} (hb : m.length ≤ 4000) (S : Store) : f_Kind_names [kind m] S = some (.lst ((names m).map D.str), S) := by
  refine (fn_ret (n := 1) (l := 3) (b := b_Kind_names) (d := .lst ((names m).map D.str)) (S1 := S) (ρ := [some (kind m), none, none, none]) rfl ?_).trans (close_same rfl)
  refine ret_is (b1 (comp_names (by unfold big; omega) S) ?_)
  show (asStrs ((m.map (·.n)).map D.str)).bind _ = _
  rw [asStrs_map]
  simp only [Option.bind_some, List.length_map]
  rw [if_pos hb]
  rfl
theorem pure_strs : ∀ l : List (List Nat), pureL (l.map D.str) = true
  | [] => rfl
  | x :: l => pure_strs l
theorem is_list_spec {d : D} {xs : List D} (h : Sq d xs) (S : Store) : f_is_list [d] S = some (.bl true, S) := by
  refine (fn_ret (n := 1) (l := 0) (b := b_is_list) (d := .bl true) (S1 := S) (ρ := [some d]) rfl ?_).trans (close_same rfl)
  unfold b_is_list
  rcases h with rfl | rfl <;> simp [sRet, mIsA, mUn, mVar, top, oIsA, isA]
theorem kind_pure (m : List En) : (kind m).pure = true := by simp [kind, D.pure, pureF, pureL, pure_encs]
/-- Kind.of(list or tuple) -/
theorem of_spec {d : D} {l : List En} (h : Sq d (encs l)) (g : Good l) (S : Store) : f_Kind_of [d] S = some (kind (nrm l), S) := by
  refine (fn_ret (n := 1) (l := 0) (b := b_Kind_of) (d := kind (nrm l)) (S1 := S) (ρ := [some d]) rfl ?_).trans (close_same rfl)
  unfold b_Kind_of
  have t : mNot (mCall f_is_list [mVar 0]) [some d] S = some (.bl false, S) := by
    simp [mNot, mCall, evalL, mVar, is_list_spec h]
  refine (seq_nx ((if_f t).trans rfl)).trans (ret_is ?_)
  unfold mStar mVar
  rcases h with rfl | rfl <;> simp [top, init_spec g]
/-- Kind.of(a list that is changed later) -/
theorem of_rf {k : Nat} {l : List En} {S : Store} (hk : S[k]? = some (some (.lst (encs l)))) (g : Good l) : f_Kind_of [.rf k] S = some (kind (nrm l), S) := by
  refine (fn_ret (n := 1) (l := 0) (b := b_Kind_of) (d := kind (nrm l)) (S1 := S) (ρ := [some (.rf k)]) rfl ?_).trans (close_same rfl)
  unfold b_Kind_of
  have ht : top S (.rf k) = .lst (encs l) := by simp [top, hk]
  have hl : f_is_list [.rf k] S = some (.bl true, S) := by
    refine (fn_ret (n := 1) (l := 0) (b := b_is_list) (d := .bl true) (S1 := S) (ρ := [some (.rf k)]) rfl ?_).trans (close_same rfl)
    unfold b_is_list
    simp [sRet, mIsA, mUn, mVar, ht, oIsA, isA]
  have t : mNot (mCall f_is_list [mVar 0]) [some (.rf k)] S = some (.bl false, S) := by
    simp [mNot, mCall, evalL, mVar, hl]
  refine (seq_nx ((if_f t).trans rfl)).trans (ret_is ?_)
  unfold mStar mVar
  simp [ht, init_spec g]
theorem comp_swap {m : List En} (hb : m.length ≤ big) (f : En → En) (elt : M) (S : Store) (he : ∀ e, elt [some (kind m), some (.int e.x), some (.int e.y), some (.str e.n)] S = some (enc (f e), S)) : mComp (iSeq (mFld ["Kind"] "own_entries" (mVar 0))) (gTup [(gName 1), (gName 2), (gName 3)]) (mBl true) elt [1, 2, 3] [some (kind m), none, none, none] S = some (.lst (encs (m.map f)), S) := by
  obtain ⟨ds, S', h1, h2⟩ := comp_inv (it := iSeq (mFld ["Kind"] "own_entries" (mVar 0))) (g := gTup [(gName 1), (gName 2), (gName 3)]) (tt := mBl true) (elt := elt) (vs := [1, 2, 3]) (ρ := [some (kind m), none, none, none]) (S := S) (S0 := S) (xs := encs m)
    (fun rest acc S' => S' = S ∧ ∃ l, rest = encs l ∧ acc ++ encs (l.map f) = encs (m.map f)) (iseq_sq (.inr rfl) (by simp [mFld, mVar, top, kind, List.lookup])) (by simpa [encs] using hb) ⟨rfl, m, rfl, rfl⟩ fun x xs' acc S' hx h => by
      obtain ⟨rfl, l, hl, ha⟩ := h
      match l, hl with
      | e :: l, hl =>
        simp only [encs, List.map_cons, List.cons.injEq] at hl
        obtain ⟨rfl, rfl⟩ := hl
        refine ⟨[some (kind m), some (.int e.x), some (.int e.y), some (.str e.n)], S', true, S', rfl, rfl, fun _ => ⟨enc (f e), S', he e, rfl, l, rfl, ?_⟩, fun z => by cases z⟩
        rw [← ha]
        simp [encs]
  obtain ⟨rfl, l, hl, ha⟩ := h2
  have : l = [] := by
    cases l with
    | nil => rfl
    | cons _ _ => simp [encs] at hl
  subst this
  have ha : ds = encs (m.map f) := by simpa [encs] using ha
  rw [h1, ha]
def mir (r : Int) (e : En) : En := ⟨r - e.x, e.y, e.n⟩
def trn (e : En) : En := ⟨e.y, e.x, e.n⟩
theorem mirrored_spec {m : List En} (g : Good (m.map (mir (hi (mapX m))))) (S : Store) : f_Kind_mirrored [kind m] S = some (kind (nrm (m.map (mir (hi (mapX m))))), S) := by
  have hb : m.length ≤ big := by have := g.six; rw [List.length_map] at this; unfold big; omega
  refine (fn_ret (n := 1) (l := 3) (b := b_Kind_mirrored) (d := kind (nrm (m.map (mir (hi (mapX m)))))) (S1 := S) (ρ := [some (kind m), none, none, none]) rfl ?_).trans (close_same rfl)
  refine ret_is ?_
  unfold mCall evalL evalL
  rw [show ([kind m].map some ++ List.replicate 3 none : Rho) = [some (kind m), none, none, none] from rfl]
  rw [comp_swap hb (mir (hi (mapX m))) _ S fun e => by simp [mTup, evalL, mBin, mVar, mK, mFld, top, kind, List.lookup, oItem, place, oSub, enc, mir]]
  exact of_spec (.inl rfl) g S
theorem turned_spec {m : List En} (g : Good (m.map trn)) (S : Store) : f_Kind_turned [kind m] S = some (kind (nrm (m.map trn)), S) := by
  have hb : m.length ≤ big := by have := g.six; rw [List.length_map] at this; unfold big; omega
  refine (fn_ret (n := 1) (l := 3) (b := b_Kind_turned) (d := kind (nrm (m.map trn))) (S1 := S) (ρ := [some (kind m), none, none, none]) rfl ?_).trans (close_same rfl)
  refine ret_is ?_
  unfold mCall evalL evalL
  rw [show ([kind m].map some ++ List.replicate 3 none : Rho) = [some (kind m), none, none, none] from rfl]
  rw [comp_swap hb trn _ S fun e => by simp [mTup, evalL, mBin, mVar, enc, trn]]
  exact of_spec (.inl rfl) g S
end K11
set_option Elab.async false
set_option linter.all false
set_option maxRecDepth 100000
namespace K11
open Mi PySem
/-! ### texts of data -/
def vS (x : Str) : Prop := ∀ c ∈ x.cps.toList, c < 0x110000
theorem vS_app {x y : Str} (hx : vS x) (hy : vS y) : vS (x ++ y) := fun c h => by
  have e : (x ++ y).cps.toList = x.cps.toList ++ y.cps.toList := by
    show (x.cps ++ y.cps).toList = _
    simp
  rw [e] at h
  exact (List.mem_append.mp h).elim (hx c) (hy c)
theorem vS_lit (s : String) : vS (Str.ofString s) := fun c h => by
  rw [Str.ofString_eq_toList] at h
  exact chars_ok _ c h
theorem vS_textFrom : ∀ (ts : List Str) (k : Nat) (acc : Str), vS acc → (∀ t ∈ ts, vS t) → vS (textFrom k acc ts)
  | [], _, _, h, _ => h
  | t :: ts, k, acc, h, ht => vS_textFrom ts (k + 1) _ (vS_app (vS_app h (vS_lit _)) (ht t List.mem_cons_self)) fun u hu => ht u (List.mem_cons_of_mem _ hu)
theorem vS_join {sep : Str} (hs : vS sep) : ∀ ts : List Str, (∀ t ∈ ts, vS t) → vS (Str.join sep ts)
  | [], _ => fun c h => by cases h
  | [t], h => h t List.mem_cons_self
  | t :: u :: r, h => vS_app (vS_app (h t List.mem_cons_self) hs) (vS_join hs (u :: r) fun v hv => h v (List.mem_cons_of_mem _ hv))
theorem vS_list {ts : List Str} (h : ∀ t ∈ ts, vS t) : vS (listText ts) := vS_app (vS_textFrom ts 0 _ (vS_lit _) h) (vS_lit _)
theorem vS_tuple {ts : List Str} (h : ∀ t ∈ ts, vS t) : vS (tupleText ts) := by
  unfold tupleText
  exact vS_app (vS_app (vS_lit _) (vS_join (vS_lit _) ts h)) (vS_lit _)
theorem hex_ok {c k : Nat} : ∀ n ∈ List.replicate k 48 ++ (Nat.toDigits 16 c).map Char.toNat, n < 0x110000 := fun n h => by
  rcases List.mem_append.mp h with h | h
  · have := (List.mem_replicate.mp h).2; omega
  · exact chars_ok _ n h
theorem vC {q c : Nat} (hc : c < 0x110000) : ∀ n ∈ Builtin.Str.reprChar q c, n < 0x110000 := by
  unfold Builtin.Str.reprChar
  intro n h
  simp only at h
  split at h
  · simp at h; omega
  split at h
  · simp at h; omega
  split at h
  · simp at h; omega
  split at h
  · simp at h; omega
  split at h
  · simp at h; omega
  split at h
  · rcases List.mem_append.mp h with h | h
    · simp at h; omega
    · exact hex_ok n h
  split at h
  · rcases List.mem_append.mp h with h | h
    · simp at h; omega
    · exact hex_ok n h
  · rcases List.mem_append.mp h with h | h
    · simp at h; omega
    · exact hex_ok n h
theorem fold_ok {q : Nat} : ∀ (l : List Nat) (acc : Array Nat), (∀ c ∈ l, c < 0x110000) → (∀ c ∈ acc.toList, c < 0x110000) → ∀ c ∈ (l.foldl (fun out c => out ++ (Builtin.Str.reprChar q c).toArray) acc).toList, c < 0x110000
  | [], _, _, h => h
  | x :: l, acc, hl, h => fold_ok l _ (fun c hc => hl c (List.mem_cons_of_mem _ hc)) fun c hc => by
    rw [Array.toList_append] at hc
    rcases List.mem_append.mp hc with hc | hc
    · exact h c hc
    · exact vC (hl x List.mem_cons_self) c (by simpa using hc)
theorem vS_repr {x : Str} (hx : vS x) : vS (reprText x) := fun c h => by
  have hq : reprQuote x < 0x110000 := by unfold reprQuote; split <;> omega
  unfold reprText at h
  rw [Array.toList_push, ← Array.foldl_toList] at h
  rcases List.mem_append.mp h with h | h
  · exact fold_ok _ _ hx (fun c hc => by simp at hc; omega) c h
  · simp at h; omega
mutual
/-- data of a law's kind: small ints, short texts -/
def okD : D → Prop
  | .non => True | .bl _ => True | .int i => 0 ≤ i ∧ i ≤ 100 | .str s => ∀ c ∈ s, c < 0x110000
  | .lst xs => okL xs | .tup xs => okL xs
  | .dct _ => False | .obj _ _ => False | .rf _ => False
def okL : List D → Prop
  | [] => True
  | x :: xs => okD x ∧ okL xs
end
theorem int_small : ∀ i : Nat, i < 101 → (Str.ofString (toString ((i : Nat) : Int))).length ≤ 8 ∧ ((i : Nat) : Int).natAbs.log2 < 1920 := by decide +kernel
theorem int_ok {i : Int} (h : 0 ≤ i ∧ i ≤ 100) : (Str.ofString (toString i)).length ≤ 8 ∧ i.natAbs.log2 < 1920 := by
  obtain ⟨n, rfl⟩ := Int.eq_ofNat_of_zero_le h.1
  exact int_small n (by omega)
mutual
theorem shown_v : ∀ d : D, okD d → vS (toPy d).shown ∧ (toPy d).showable = true ∧ (toPy d).leavesShort 8 = true
  | .non, _ => ⟨vS_lit _, rfl, rfl⟩
  | .bl true, _ => ⟨vS_lit _, rfl, rfl⟩
  | .bl false, _ => ⟨vS_lit _, rfl, rfl⟩
  | .int i, h => ⟨vS_lit _, decide_eq_true (int_ok h).2, decide_eq_true (int_ok h).1⟩
  | .str s, h => ⟨vS_repr (x := toS s) (by simpa [vS, okD] using h), rfl, by
      simp only [toPy, PyData.leavesShort, List.all_eq_true, decide_eq_true_eq]
      intro c hc
      have : c < 0x110000 := h c (by simpa using hc)
      have : (0x110000 : Nat) ≤ 16 ^ 8 := by decide
      omega⟩
  | .lst xs, h => by
    obtain ⟨h1, h2, h3⟩ := shown_vs xs (by simpa [okD] using h)
    rw [toPy]
    exact ⟨vS_list h1, h2, h3⟩
  | .tup xs, h => by
    obtain ⟨h1, h2, h3⟩ := shown_vs xs (by simpa [okD] using h)
    rw [toPy]
    exact ⟨vS_tuple h1, h2, h3⟩
  | .dct _, h => by simp [okD] at h
  | .obj _ _, h => by simp [okD] at h
  | .rf _, h => by simp [okD] at h
theorem shown_vs : ∀ xs : List D, okL xs → (∀ t ∈ PyData.shownAll (toPys xs), vS t) ∧ PyData.showableAll (toPys xs) = true ∧ PyData.leavesShortAll 8 (toPys xs) = true
  | [], _ => by rw [toPys]; exact ⟨(fun t h => by cases h), rfl, rfl⟩
  | x :: xs, h => by
    obtain ⟨h1, h2, h3⟩ := shown_v x (by rw [okL] at h; exact h.1)
    obtain ⟨g1, g2, g3⟩ := shown_vs xs (by rw [okL] at h; exact h.2)
    rw [toPys]
    refine ⟨fun t ht => ?_, by rw [PyData.showableAll, h2, g2]; rfl, by rw [PyData.leavesShortAll, h3, g3]; rfl⟩
    rw [PyData.shownAll] at ht
    rcases List.mem_cons.mp ht with rfl | ht
    · exact h1
    · exact g1 t ht
end
/-- the text of a datum -/
def rp (x : D) : List Nat := (toPy x).shown.cps.toList
theorem rp_ok {x : D} (h : okD x) : ∀ c ∈ rp x, c < 0x110000 := (shown_v x h).1
theorem rp_len {x : D} (h : okD x) : (rp x).length ≤ 10 * (toPy x).weight + 8 := by
  have := PyData.shown_le 8 (Nat.le_refl _) (toPy x) (shown_v x h).2.2
  unfold rp
  rw [Array.length_toList]
  exact this
theorem repr_ok {x : D} (h : okD x) (hd : dataD 60 x = true) (hw : (toPy x).weight ≤ 1000000) : fRepr0 x = some (.str (rp x)) := by
  unfold fRepr0
  have hl := rp_len h
  have e : (toPy x).shown.length = (rp x).length := by unfold rp; rw [Array.length_toList]; rfl
  have hb : (toPy x).shown.length ≤ big := by rw [e]; unfold big; omega
  rw [if_pos ⟨hd, (shown_v x h).2.1, hb, (shown_v x h).1⟩]
  rfl
end K11
set_option Elab.async false
set_option linter.all false
set_option maxRecDepth 100000
namespace K11
open Mi PySem
/-- coordinates of a kind's own entries -/
def Small (m : List En) : Prop := m.length ≤ 6 ∧ ∀ e ∈ m, (0 ≤ e.x ∧ e.x ≤ 100) ∧ (0 ≤ e.y ∧ e.y ≤ 100) ∧ isName e.n
theorem ok_enc {e : En} (h : (0 ≤ e.x ∧ e.x ≤ 100) ∧ (0 ≤ e.y ∧ e.y ≤ 100) ∧ isName e.n) : okD (enc e) := by
  refine ⟨h.1, h.2.1, fun c hc => ?_, True.intro⟩
  have := h.2.2.2.2 c hc
  omega
theorem ok_encs : ∀ {l : List En}, (∀ e ∈ l, (0 ≤ e.x ∧ e.x ≤ 100) ∧ (0 ≤ e.y ∧ e.y ≤ 100) ∧ isName e.n) → okL (encs l)
  | [], _ => True.intro
  | e :: l, h => ⟨ok_enc (h e List.mem_cons_self), ok_encs fun d hd => h d (List.mem_cons_of_mem _ hd)⟩
theorem log_small : ∀ n : Nat, n < 101 → n.log2 + 1 ≤ 8 := by decide +kernel
theorem weight_enc {e : En} (h : (0 ≤ e.x ∧ e.x ≤ 100) ∧ (0 ≤ e.y ∧ e.y ≤ 100) ∧ isName e.n) : (toPy (enc e)).weight ≤ 100 := by
  have h2 := h.2.2.2.1
  have hx := log_small e.x.natAbs (by omega)
  have hy := log_small e.y.natAbs (by omega)
  simp [enc, toPy, toPys, PyData.weight, PyData.weightAll]
  split <;> split <;> omega
theorem repr_enc {e : En} (h : (0 ≤ e.x ∧ e.x ≤ 100) ∧ (0 ≤ e.y ∧ e.y ≤ 100) ∧ isName e.n) : fRepr [enc e] = some (.str (rp (enc e))) :=
  repr_ok (ok_enc h) (data_enc e) (by have := weight_enc h; omega)
def told (m : List En) : List Nat := joinN [44, 32] (m.map fun e => rp (enc e))
def kt (m : List En) : List Nat := [75, 105, 110, 100, 40] ++ told m ++ [41]

theorem rp_len_enc {e : En} (h : (0 ≤ e.x ∧ e.x ≤ 100) ∧ (0 ≤ e.y ∧ e.y ≤ 100) ∧ isName e.n) : (rp (enc e)).length ≤ 1008 := by
  have := rp_len (ok_enc h)
  have := weight_enc h
  omega
theorem comp_repr {d : D} {m : List En} (hs : Sq d (encs m)) (h : Small m) {mm : M} {ρ : Rho} {S : Store} {i : Nat} (e : mm ρ S = some (d, S)) (hi : i < (wipe ρ [i]).length) : mComp (iSeq mm) (gName i) (mBl true) (mB fRepr [(mVar i)]) [i] ρ S = some (.lst ((m.map fun e => rp (enc e)).map D.str), S) := by
  have hm : (m.map fun e => rp (enc e)).map D.str = (encs m).map fun x => D.str (rp x) := by
    unfold encs
    rw [List.map_map, List.map_map]; rfl
  rw [hm]
  refine comp_mapA _ (xs := encs m) (S := S) (iseq_sq hs e) (by have := h.1; simp [encs]; unfold big; omega) fun x hx => ?_
  obtain ⟨a, ha, rfl⟩ := List.mem_map.mp hx
  refine ⟨_, rfl, b1 (d := enc a) (S1 := S) ?_ (repr_enc (h.2 a ha))⟩
  unfold mVar
  rw [List.getElem?_set_self hi]
theorem told_join {m : List En} (h : Small m) : oJoin (.str [44, 32]) (.lst ((m.map fun e => rp (enc e)).map D.str)) = some (.str (told m)) := by
  show (asStrs _).bind _ = _
  rw [asStrs_map]
  simp only [Option.bind_some]
  rw [if_pos ?_]
  · rfl
  · have h6 := h.1
    have : ∀ l : List En, (∀ e ∈ l, (0 ≤ e.x ∧ e.x ≤ 100) ∧ (0 ≤ e.y ∧ e.y ≤ 100) ∧ isName e.n) → ((l.map fun e => rp (enc e)).map (·.length)).sum ≤ 1008 * l.length := by
      intro l
      induction l with
      | nil => intro _; simp
      | cons a l ih =>
        intro hl
        have h1 := rp_len_enc (hl a List.mem_cons_self)
        have h2 := ih fun e he => hl e (List.mem_cons_of_mem _ he)
        simp only [List.map_cons, List.sum_cons, List.length_cons] at h2 ⊢
        omega
    have h2 := this m h.2
    simp only [List.length_map, List.length_cons, List.length_nil] at *
    unfold big
    omega
theorem repr_spec {m : List En} (h : Small m) (hl : (told m).length ≤ 10000) (S : Store) : f_Kind___repr__ [kind m] S = some (.str (kt m), S) := by
  refine (fn_ret (n := 1) (l := 2) (b := b_Kind___repr__) (d := .str (kt m)) (S1 := S) (ρ := [some (kind m), some (.str (told m)), none]) rfl ?_).trans (close_same rfl)
  unfold b_Kind___repr__
  refine (seq_nx (ρ1 := [some (kind m), some (.str (told m)), none]) (S1 := S) (set_name (d := .str (told m)) ?_)).trans (ret_is ?_)
  · unfold mJoin mStr mK
    simp only [Option.bind_some]
    rw [comp_repr (d := .tup (encs m)) (.inr rfl) h (by simp [mFld, mVar, top, kind, List.lookup]) (by simp [wipe])]
    show (oJoin (.str [44, 32]) (.lst ((m.map fun e => rp (enc e)).map D.str))).bind _ = _
    rw [told_join h]; rfl
  · have hb : (told m).length ≤ big := by unfold big; omega
    have hz : 5 + ((told m).length + 1) ≤ big := by unfold big; omega
    simp [mJoined, evalL, mK, mUn, mVar, top, fFmt, hb, asStrs, hz, kt]
end K11
set_option Elab.async false
set_option linter.all false
set_option maxRecDepth 100000
namespace K11
open Mi PySem
theorem join_len : ∀ (l : List (List Nat)), (joinN [44, 32] l).length ≤ (l.map (·.length)).sum + 2 * l.length
  | [] => by simp [joinN]
  | [a] => by simp [joinN]
  | a :: b :: l => by
    have ih := join_len (b :: l)
    have e : joinN [44, 32] (a :: b :: l) = a ++ [44, 32] ++ joinN [44, 32] (b :: l) := rfl
    rw [e, List.length_append, List.length_append]
    simp only [List.map_cons, List.sum_cons, List.length_cons, List.length_nil] at ih ⊢
    omega
theorem told_len {m : List En} (h : Small m) : (told m).length ≤ 10000 := by
  have h6 := h.1
  have : ∀ l : List En, (∀ e ∈ l, (0 ≤ e.x ∧ e.x ≤ 100) ∧ (0 ≤ e.y ∧ e.y ≤ 100) ∧ isName e.n) → ((l.map fun e => rp (enc e)).map (·.length)).sum ≤ 1008 * l.length := by
    intro l
    induction l with
    | nil => intro _; simp
    | cons a l ih =>
      intro hl
      have h1 := rp_len_enc (hl a List.mem_cons_self)
      have h2 := ih fun e he => hl e (List.mem_cons_of_mem _ he)
      simp only [List.map_cons, List.sum_cons, List.length_cons] at h2 ⊢
      omega
  have h2 := this m h.2
  have h3 := join_len (m.map fun e => rp (enc e))
  unfold told
  simp only [List.length_map] at *
  omega
theorem told_ok {m : List En} (h : Small m) : ∀ c ∈ told m, c < 0x110000 := joinN_ok (by decide) fun t ht => by
  obtain ⟨e, he, rfl⟩ := List.mem_map.mp ht
  exact rp_ok (ok_enc (h.2 e he))
theorem kt_ok {m : List En} (h : Small m) : ∀ c ∈ kt m, c < 0x110000 := fun c hc => by
  unfold kt at hc
  simp only [List.mem_append, List.mem_cons, List.not_mem_nil, or_false] at hc
  rcases hc with (hc | hc) | hc
  · omega
  · exact told_ok h c hc
  · omega
theorem hi_mem : ∀ {ns : List Int}, ns ≠ [] → hi ns ∈ ns := fun {ns} h => (greatest_ok (greatest_some h)).2.1
theorem hi_in {ns : List Int} (h : ns ≠ []) (hb : ∀ n ∈ ns, 0 ≤ n ∧ n ≤ 100) : 0 ≤ hi ns ∧ hi ns ≤ 100 := hb _ (hi_mem h)
theorem hiX {m : List En} (h : Small m) (hne : m ≠ []) : 0 ≤ hi (mapX m) ∧ hi (mapX m) ≤ 100 := hi_in (mapX_ne hne) fun n hn => by
  obtain ⟨e, he, rfl⟩ := List.mem_map.mp hn
  exact (h.2 e he).1
theorem hiY {m : List En} (h : Small m) (hne : m ≠ []) : 0 ≤ hi (mapY m) ∧ hi (mapY m) ≤ 100 := hi_in (mapY_ne hne) fun n hn => by
  obtain ⟨e, he, rfl⟩ := List.mem_map.mp hn
  exact (h.2 e he).2.1
theorem far_spec {m : List En} (hb : m.length ≤ big) (hne : m ≠ []) (S : Store) : f__law_far [.lst (encs m)] S = some (.tup [.int (hi (mapX m)), .int (hi (mapY m))], S) := by
  refine (fn_ret (n := 1) (l := 1) (b := b__law_far) (d := .tup [.int (hi (mapX m)), .int (hi (mapY m))]) (S1 := S) (ρ := [some (.lst (encs m)), none]) rfl ?_).trans (close_same rfl)
  refine ret_is ?_
  have e1 := b1 (comp_x (d := .lst (encs m)) (.inl rfl) hb (m := mVar 0) (ρ := [some (.lst (encs m)), none]) (S := S) (i := 1) (vs := [1]) rfl (by simp [wipe])) (fMax_ints (mapX_ne hne))
  have e2 := b1 (comp_y (d := .lst (encs m)) (.inl rfl) hb (m := mVar 0) (ρ := [some (.lst (encs m)), none]) (S := S) (i := 1) (vs := [1]) rfl (by simp [wipe])) (fMax_ints (mapY_ne hne))
  unfold mTup evalL evalL evalL
  rw [show ([D.lst (encs m)].map some ++ List.replicate 1 none : Rho) = [some (.lst (encs m)), none] from rfl, e1]
  simp only [Option.bind_some, e2]
/-- what is told of m -/
def tells (m : List En) : D := .lst [.lst (encs m), .lst ((names m).map D.str), .tup [.int (hi (mapX m)), .int (hi (mapY m))], .bl (decide (hi (mapY m) = 0)), .int m.length, .str (kt m)]
theorem names_mem {m : List En} {s : List Nat} (h : s ∈ names m) : ∃ e ∈ m, e.n = s := by
  unfold names at h
  have := (ded_ok _).2.1 s |>.mp ((List.mergeSort_perm _ _).mem_iff.mp h)
  obtain ⟨e, he, rfl⟩ := List.mem_map.mp this
  exact ⟨e, he, rfl⟩
theorem names_len (m : List En) : (names m).length ≤ m.length := by
  unfold names
  rw [List.length_mergeSort]
  have := (ded_ok (m.map (·.n))).2.2
  simpa using this
theorem ok_strs : ∀ {l : List (List Nat)}, (∀ s ∈ l, ∀ c ∈ s, c < 0x110000) → okL (l.map D.str)
  | [], _ => True.intro
  | s :: l, h => ⟨h s List.mem_cons_self, ok_strs fun t ht => h t (List.mem_cons_of_mem _ ht)⟩
theorem data_strs {n : Nat} : ∀ l : List (List Nat), dataL n (l.map D.str) = true
  | [] => by simp [dataL]
  | s :: l => by
    rw [List.map_cons, dataL, data_strs l]
    simp [dataD]
theorem tells_ok {m : List En} (h : Small m) (hne : m ≠ []) : okD (tells m) := by
  have h6 := h.1
  refine ⟨ok_encs h.2, ok_strs fun s hs => ?_, ⟨hiX h hne, hiY h hne, True.intro⟩, True.intro, by constructor <;> omega, kt_ok h, True.intro⟩
  obtain ⟨e, he, rfl⟩ := names_mem hs
  intro c hc
  have := (h.2 e he).2.2.2.2 c hc
  omega
theorem tells_data (m : List En) : dataD 60 (tells m) = true := by
  simp [tells, dataD, dataL, encs_data (n := 58) (by decide), data_strs]
end K11
set_option Elab.async false
set_option linter.all false
set_option maxRecDepth 100000
namespace K11
open Mi PySem
theorem weight_encs : ∀ {l : List En}, (∀ e ∈ l, (0 ≤ e.x ∧ e.x ≤ 100) ∧ (0 ≤ e.y ∧ e.y ≤ 100) ∧ isName e.n) → PyData.weightAll (toPys (encs l)) ≤ 101 * l.length
  | [], _ => by simp [encs, toPys, PyData.weightAll]
  | e :: l, h => by
    have h1 := weight_enc (h e List.mem_cons_self)
    have h2 := weight_encs fun d hd => h d (List.mem_cons_of_mem _ hd)
    have e1 : encs (e :: l) = enc e :: encs l := rfl
    rw [e1, toPys, PyData.weightAll, List.length_cons]
    omega
theorem weight_strs : ∀ {l : List (List Nat)}, (∀ s ∈ l, s.length ≤ 8) → PyData.weightAll (toPys (l.map D.str)) ≤ 9 * l.length
  | [], _ => by simp [toPys, PyData.weightAll]
  | s :: l, h => by
    have h1 := h s List.mem_cons_self
    have h2 := weight_strs fun d hd => h d (List.mem_cons_of_mem _ hd)
    rw [List.map_cons, toPys, PyData.weightAll, List.length_cons]
    have : (toPy (.str s)).weight = s.length := by simp [toPy, PyData.weight]
    omega
theorem tells_weight {m : List En} (h : Small m) (hne : m ≠ []) : (toPy (tells m)).weight ≤ 1000000 := by
  have h6 := h.1
  have w1 := weight_encs h.2
  have w2 := weight_strs (l := names m) fun s hs => by
    obtain ⟨e, he, rfl⟩ := names_mem hs
    exact (h.2 e he).2.2.2.1
  have n2 := names_len m
  have k1 : (kt m).length ≤ 10006 := by
    have := told_len h
    unfold kt
    simp only [List.length_append, List.length_cons, List.length_nil]
    omega
  have x1 := hiX h hne
  have y1 := hiY h hne
  have hx := log_small (hi (mapX m)).natAbs (by omega)
  have hy := log_small (hi (mapY m)).natAbs (by omega)
  have hl := log_small m.length (by omega)
  simp [tells, toPy, toPys, PyData.weight, PyData.weightAll]
  split <;> split <;> (try split) <;> omega
theorem tells_repr {m : List En} (h : Small m) (hne : m ≠ []) : fRepr [tells m] = some (.str (rp (tells m))) := repr_ok (tells_ok h hne) (tells_data m) (tells_weight h hne)
theorem eN {ρ : Rho} {S : Store} : evalL [] ρ S = some ([], S) := rfl
theorem eL {m : M} {ms : List M} {ρ : Rho} {S S1 S2 : Store} {d : D} {ds : List D} (h : m ρ S = some (d, S1)) (h2 : evalL ms ρ S1 = some (ds, S2)) : evalL (m :: ms) ρ S = some (d :: ds, S2) := by
  unfold evalL; rw [h]; simp only [Option.bind_some, h2]
theorem lst_is {ms : List M} {ρ : Rho} {S S2 : Store} {ds : List D} (h2 : evalL ms ρ S = some (ds, S2)) : mLst ms ρ S = some (.lst ds, S2) := by
  unfold mLst; rw [h2]; rfl
theorem tup_is {ms : List M} {ρ : Rho} {S S2 : Store} {ds : List D} (h2 : evalL ms ρ S = some (ds, S2)) : mTup ms ρ S = some (.tup ds, S2) := by
  unfold mTup; rw [h2]; rfl
theorem call_is {φ : Fn} {ms : List M} {ρ : Rho} {S S1 S2 : Store} {ds : List D} {d : D} (h : evalL ms ρ S = some (ds, S1)) (h2 : φ ds S1 = some (d, S2)) : mCall φ ms ρ S = some (d, S2) := by
  unfold mCall; rw [h]; exact h2
theorem bin_is {f : D → D → Option D} {a b : M} {ρ : Rho} {S S1 S2 : Store} {x y d : D} (h : a ρ S = some (x, S1)) (h2 : b ρ S1 = some (y, S2)) (h3 : f (top S2 x) (top S2 y) = some d) : mBin f a b ρ S = some (d, S2) := by
  unfold mBin; rw [h]; simp only [Option.bind_some, h2, h3]
theorem and_t {a b : M} {ρ : Rho} {S S1 : Store} (h : a ρ S = some (.bl true, S1)) : mAnd a b ρ S = b ρ S1 := by unfold mAnd; rw [h]; rfl
theorem and_f {a b : M} {ρ : Rho} {S S1 : Store} (h : a ρ S = some (.bl false, S1)) : mAnd a b ρ S = some (.bl false, S1) := by unfold mAnd; rw [h]; rfl
theorem or_t {a b : M} {ρ : Rho} {S S1 : Store} (h : a ρ S = some (.bl true, S1)) : mOr a b ρ S = some (.bl true, S1) := by unfold mOr; rw [h]; rfl
theorem or_f {a b : M} {ρ : Rho} {S S1 : Store} (h : a ρ S = some (.bl false, S1)) : mOr a b ρ S = b ρ S1 := by unfold mOr; rw [h]; rfl
theorem told_right {m : List En} (h : Small m) (hne : m ≠ []) (S : Store) : f__law_told_right [kind m, .lst (encs m)] S = some (.bl true, S) := by
  have h6 := h.1
  have hb : m.length ≤ big := by unfold big; omega
  refine (fn_ret (n := 2) (l := 4) (b := b__law_told_right) (d := .bl true) (S1 := S) (ρ := [some (kind m), some (.lst (encs m)), some (.tup [.int (hi (mapX m)), .int (hi (mapY m))]), some (tells m), some (.str (kt m)), none]) rfl ?_).trans (close_same rfl)
  unfold b__law_told_right
  have hf := far_spec hb hne S
  refine (seq_nx (ρ1 := [some (kind m), some (.lst (encs m)), some (.tup [.int (hi (mapX m)), .int (hi (mapY m))]), none, none, none]) (S1 := S) (set_name (by simp [mCall, evalL, mVar, hf]))).trans ?_
  refine (seq_nx (ρ1 := [some (kind m), some (.lst (encs m)), some (.tup [.int (hi (mapX m)), .int (hi (mapY m))]), some (tells m), none, none]) (S1 := S) (set_name (d := tells m) ?_)).trans ?_
  · have e1 := entries_spec m S
    have e2 := names_spec (m := m) (by omega) S
    have e3 := reach_spec m S
    have e4 := flat_spec m S
    have e5 := len_spec m S
    have e6 := repr_spec h (told_len h) S
    have l0 : (0 : Int) ≤ (m.length : Int) := by omega
    have l1 : (m.length : Int) < 9223372036854775808 := by omega
    have hk : ∀ k, kind k = .obj "Kind" [("own_entries", .tup (encs k)), ("own_reach", .tup [.int (hi (mapX k)), .int (hi (mapY k))])] := fun _ => rfl
    have t : top S (kind m) = kind m := rfl
    simp only [hk] at e1 e2 e3 e4 e5 e6 t ⊢
    simp [mLst, evalL, mMeth, mProp, mOne, mVar, t, List.lookup, e1, e2, e3, e4, e5, e6, lenX, lenO, reprX, reprO, l0, l1, tells]
  refine (seq_nx (ρ1 := [some (kind m), some (.lst (encs m)), some (.tup [.int (hi (mapX m)), .int (hi (mapY m))]), some (tells m), some (.str (kt m)), none]) (S1 := S) (set_name (d := .str (kt m)) ?_)).trans ?_
  · have hj : mJoin (mStr [44, 32]) (mComp (iSeq (mVar 1)) (gName 5) (mBl true) (mB fRepr [(mVar 5)]) [5]) [some (kind m), some (.lst (encs m)), some (.tup [.int (hi (mapX m)), .int (hi (mapY m))]), some (tells m), none, none] S = some (.str (told m), S) := by
      unfold mJoin mStr mK
      simp only [Option.bind_some]
      rw [comp_repr (d := .lst (encs m)) (.inl rfl) h rfl (by simp [wipe])]
      show (oJoin (.str [44, 32]) (.lst ((m.map fun e => rp (enc e)).map D.str))).bind _ = _
      rw [told_join h]; rfl
    have hl := told_len h
    have z1 : 5 + (told m).length ≤ big := by unfold big; omega
    have z2 : 5 + ((told m).length + 1) ≤ big := by unfold big; omega
    unfold mBin
    rw [show (mStr [75, 105, 110, 100, 40] : M) = mK (.str [75, 105, 110, 100, 40]) from rfl]
    simp [mK, hj, top, oAdd, z1, z2, kt]
    rw [if_pos (by unfold big; omega)]; rfl
  refine ret_is ?_
  have l0 : (0 : Int) ≤ (m.length : Int) := by omega
  have l1 : (m.length : Int) < 9223372036854775808 := by omega
  have hk : ∀ k, kind k = .obj "Kind" [("own_entries", .tup (encs k)), ("own_reach", .tup [.int (hi (mapX k)), .int (hi (mapY k))])] := fun _ => rfl
  have c1 : mComp (iSeq (mVar 1)) (gName 5) (mBl true) (mBin oItem (mVar 5) (mInt 2)) [5] [some (kind m), some (.lst (encs m)), some (.tup [.int (hi (mapX m)), .int (hi (mapY m))]), some (tells m), some (.str (kt m)), none] S = some (.lst ((m.map (·.n)).map D.str), S) := by
    have e2 : (m.map (·.n)).map D.str = (encs m).map fun x => match x with | .tup [_, _, n] => n | d => d := by
      unfold encs
      rw [List.map_map, List.map_map]
      exact List.map_congr_left fun e _ => rfl
    rw [e2]
    refine comp_mapA _ (xs := encs m) (S := S) (iseq_sq (.inl rfl) rfl) (by simpa [encs] using hb) fun x hx => ?_
    obtain ⟨e, _, rfl⟩ := List.mem_map.mp hx
    exact ⟨_, rfl, rfl⟩
  have c2 : mB fSortSet [mComp (iSeq (mVar 1)) (gName 5) (mBl true) (mBin oItem (mVar 5) (mInt 2)) [5]] [some (kind m), some (.lst (encs m)), some (.tup [.int (hi (mapX m)), .int (hi (mapY m))]), some (tells m), some (.str (kt m)), none] S = some (.lst ((names m).map D.str), S) := by
    refine b1 c1 ?_
    show (asStrs ((m.map (·.n)).map D.str)).bind _ = _
    rw [asStrs_map]
    simp only [Option.bind_some, List.length_map]
    rw [if_pos (by omega)]
    rfl
  have c3 : mLst [(mVar 1), (mB fSortSet [(mComp (iSeq (mVar 1)) (gName 5) (mBl true) (mBin oItem (mVar 5) (mInt 2)) [5])]), (mVar 2), (mBin oEq (mBin oItem (mVar 2) (mInt 1)) (mInt 0)), (mB fLen [(mVar 1)]), (mVar 4)] [some (kind m), some (.lst (encs m)), some (.tup [.int (hi (mapX m)), .int (hi (mapY m))]), some (tells m), some (.str (kt m)), none] S = some (tells m, S) := by
    have q : mBin oEq (mBin oItem (mVar 2) (mInt 1)) (mInt 0) [some (kind m), some (.lst (encs m)), some (.tup [.int (hi (mapX m)), .int (hi (mapY m))]), some (tells m), some (.str (kt m)), none] S = some (.bl (decide (hi (mapY m) = 0)), S) := by
      by_cases hz : hi (mapY m) = 0 <;> simp [mBin, mVar, mInt, mK, top, oItem, place, oEq, dataD, eqD, hz]
    have q2 : mB fLen [mVar 1] [some (kind m), some (.lst (encs m)), some (.tup [.int (hi (mapX m)), .int (hi (mapY m))]), some (tells m), some (.str (kt m)), none] S = some (.int m.length, S) := by
      refine b1 (d := .lst (encs m)) rfl ?_
      simp [fLen, fLen0, encs, top]
    exact lst_is (eL rfl (eL c2 (eL rfl (eL q (eL q2 (eL rfl eN))))))
  have r1 : mB fRepr [mVar 3] [some (kind m), some (.lst (encs m)), some (.tup [.int (hi (mapX m)), .int (hi (mapY m))]), some (tells m), some (.str (kt m)), none] S = some (.str (rp (tells m)), S) := b1 (d := tells m) rfl (tells_repr h hne)
  have r2 := b1 c3 (r := .str (rp (tells m))) (f := fRepr) (tells_repr h hne)
  refine bin_is r1 r2 ?_
  show oEq (.str _) (.str _) = _
  simp [oEq, dataD, eqD]
end K11
set_option Elab.async false
set_option linter.all false
set_option maxRecDepth 100000
namespace K11
open Mi PySem
theorem eqL_encs : ∀ {a b : List En}, eqL (encs a) (encs b) = true ↔ a = b
  | [], [] => by simp [encs, eqL]
  | [], _ :: _ => by simp [encs, eqL]
  | _ :: _, [] => by simp [encs, eqL]
  | x :: a, y :: b => by
    show (eqD (enc x) (enc y) && eqL (encs a) (encs b)) = true ↔ _
    rw [Bool.and_eq_true, eqD_enc, eqL_encs]
    simp
theorem eqL_comm (a b : List En) : eqL (encs a) (encs b) = eqL (encs b) (encs a) := by
  rw [Bool.eq_iff_iff, eqL_encs, eqL_encs]
  exact eq_comm
theorem oEq_encs (a b : List En) : oEq (.lst (encs a)) (.lst (encs b)) = some (.bl (eqL (encs a) (encs b))) := by
  unfold oEq
  have h : ∀ l : List En, dataD 60 (.lst (encs l)) = true := fun l => by
    show dataL 59 (encs l) = true
    exact encs_data (by decide) l
  rw [if_pos ⟨h a, h b⟩]
  rfl
theorem eq_spec (a b : List En) (S : Store) : f_Kind___eq__ [kind a, kind b] S = some (.bl (eqL (encs a) (encs b)), S) := by
  refine (fn_ret (n := 2) (l := 0) (b := b_Kind___eq__) (d := .bl (eqL (encs a) (encs b))) (S1 := S) (ρ := [some (kind a), some (kind b)]) rfl ?_).trans (close_same rfl)
  refine ret_is ((and_t (S1 := S) rfl).trans ?_)
  refine bin_is (x := .tup (encs a)) (y := .tup (encs b)) (S1 := S) rfl rfl ?_
  have h : ∀ l : List En, dataD 60 (.tup (encs l)) = true := fun l => by
    show dataL 59 (encs l) = true
    exact encs_data (by decide) l
  show oEq (.tup (encs a)) (.tup (encs b)) = _
  unfold oEq
  rw [if_pos ⟨h a, h b⟩]
  rfl
theorem eq_other {a : List En} {y : D} {S : Store} (h : oIsC "Kind" (top S y) = some (.bl false)) : f_Kind___eq__ [kind a, y] S = some (.bl false, S) := by
  refine (fn_ret (n := 2) (l := 0) (b := b_Kind___eq__) (d := .bl false) (S1 := S) (ρ := [some (kind a), some y]) rfl ?_).trans (close_same rfl)
  refine ret_is (and_f ?_)
  unfold mIsC mUn mVar
  simp [h]
theorem eqX_kind (neg : Bool) (a b : List En) (S : Store) : eqX neg [("Kind", f_Kind___eq__)] (kind a) (kind b) S = some (.bl (eqL (encs a) (encs b) != neg), S) := by
  have e := eq_spec a b S
  have t : ∀ m, top S (kind m) = kind m := fun _ => rfl
  have hk : ∀ k, kind k = .obj "Kind" [("own_entries", .tup (encs k)), ("own_reach", .tup [.int (hi (mapX k)), .int (hi (mapY k))])] := fun _ => rfl
  simp only [hk] at e t ⊢
  simp [eqX, eqO, t, List.lookup, e]
/-! ### what is no entry -/
theorem no_entry {d : D} {S : Store} (h : oIsA ["Kind"] ["tuple"] (top S d) = some (.bl false)) : f_is_entry [d] S = some (.bl false, S) := by
  refine (fn_ret (n := 1) (l := 0) (b := b_is_entry) (d := .bl false) (S1 := S) (ρ := [some d]) rfl ?_).trans (close_same rfl)
  refine seq_ret ((if_t (S1 := S) ((or_t (S1 := S) ?_))).trans (ret_is rfl))
  unfold mNot mIsA mUn mVar
  simp [h]
theorem no_entry_len {xs : List D} {S : Store} (h : xs.length ≠ 3) : f_is_entry [.tup xs] S = some (.bl false, S) := by
  refine (fn_ret (n := 1) (l := 0) (b := b_is_entry) (d := .bl false) (S1 := S) (ρ := [some (.tup xs)]) rfl ?_).trans (close_same rfl)
  refine seq_ret ((if_t (S1 := S) ((or_f (S1 := S) rfl).trans ?_)).trans (ret_is rfl))
  have : (xs.length : Int) ≠ 3 := by omega
  simp [mBin, mB, evalL, mVar, mK, mInt, top, fLen, fLen0, oNe, dataD, eqD, this]
theorem no_step {d : D} {S : Store} (h : f_is_integer [d] S = some (.bl false, S)) : f_is_step [d] S = some (.bl false, S) := by
  refine (fn_ret (n := 1) (l := 0) (b := b_is_step) (d := .bl false) (S1 := S) (ρ := [some d]) rfl ?_).trans (close_same rfl)
  exact ret_is (and_f (call_is (eL rfl eN) h))
theorem entry3 {a b c r : D} {S : Store} (h : mAnd (mCall f_is_step [(mBin oItem (mVar 0) (mInt 0))]) (mAnd (mCall f_is_step [(mBin oItem (mVar 0) (mInt 1))]) (mCall f_is_name [(mBin oItem (mVar 0) (mInt 2))])) [some (.tup [a, b, c])] S = some (r, S)) : f_is_entry [.tup [a, b, c]] S = some (r, S) := by
  refine (fn_ret (n := 1) (l := 0) (b := b_is_entry) (d := r) (S1 := S) (ρ := [some (.tup [a, b, c])]) rfl ?_).trans (close_same rfl)
  refine (seq_nx ((if_f (S1 := S) ((or_f (S1 := S) rfl).trans rfl)).trans rfl)).trans (ret_is h)
theorem no_entry0 {a b c : D} {S : Store} (h : f_is_step [a] S = some (.bl false, S)) : f_is_entry [.tup [a, b, c]] S = some (.bl false, S) :=
  entry3 (and_f (call_is (eL (d := a) rfl eN) h))
theorem no_entry1 {a b c : D} {S : Store} (h0 : f_is_step [a] S = some (.bl true, S)) (h : f_is_step [b] S = some (.bl false, S)) : f_is_entry [.tup [a, b, c]] S = some (.bl false, S) :=
  entry3 ((and_t (call_is (eL (d := a) rfl eN) h0)).trans (and_f (call_is (eL (d := b) rfl eN) h)))
theorem no_entry2 {a b c : D} {S : Store} (h0 : f_is_step [a] S = some (.bl true, S)) (h : f_is_step [b] S = some (.bl true, S)) (h2 : f_is_name [c] S = some (.bl false, S)) : f_is_entry [.tup [a, b, c]] S = some (.bl false, S) :=
  entry3 ((and_t (call_is (eL (d := a) rfl eN) h0)).trans ((and_t (call_is (eL (d := b) rfl eN) h)).trans (call_is (eL (d := c) rfl eN) h2)))
theorem no_int {d : D} {S : Store} (h : oIsA ["Kind"] ["int"] (top S d) = some (.bl false)) : f_is_integer [d] S = some (.bl false, S) := by
  refine (fn_ret (n := 1) (l := 0) (b := b_is_integer) (d := .bl false) (S1 := S) (ρ := [some d]) rfl ?_).trans (close_same rfl)
  refine ret_is (and_f ?_)
  unfold mIsA mUn mVar
  simp [h]
theorem no_int_bool (b : Bool) (S : Store) : f_is_integer [.bl b] S = some (.bl false, S) := by
  refine (fn_ret (n := 1) (l := 0) (b := b_is_integer) (d := .bl false) (S1 := S) (ρ := [some (.bl b)]) rfl ?_).trans (close_same rfl)
  exact ret_is rfl
/-! ### in -/
theorem contains_no {m : List En} {d : D} {S : Store} (h : f_is_entry [d] S = some (.bl false, S)) : f_Kind___contains__ [kind m, d] S = some (.bl false, S) := by
  refine (fn_ret (n := 2) (l := 0) (b := b_Kind___contains__) (d := .bl false) (S1 := S) (ρ := [some (kind m), some d]) rfl ?_).trans (close_same rfl)
  exact ret_is (and_f (call_is (eL (d := d) rfl eN) h))
theorem contains_enc {m : List En} {e : En} {S : Store} (h : isName e.n) (hx : -20 ≤ e.x ∧ e.x ≤ 20) (hy : -20 ≤ e.y ∧ e.y ≤ 20) : f_Kind___contains__ [kind m, enc e] S = some (.bl ((encs m).any fun z => eqD z (enc e)), S) := by
  refine (fn_ret (n := 2) (l := 0) (b := b_Kind___contains__) (d := .bl ((encs m).any fun z => eqD z (enc e))) (S1 := S) (ρ := [some (kind m), some (enc e)]) rfl ?_).trans (close_same rfl)
  refine ret_is ((and_t (call_is (eL (d := enc e) rfl eN) (is_entry_enc h hx hy S))).trans ?_)
  refine bin_is (x := enc e) (y := .tup (encs m)) (S1 := S) rfl rfl ?_
  show oIn (enc e) (.tup (encs m)) = _
  unfold oIn enc
  simp only
  rw [if_pos ⟨data_enc e, encs_data (by decide) m⟩]
theorem inX_of {m : List En} {d : D} {b : Bool} {S : Store} (h : f_Kind___contains__ [kind m, d] S = some (.bl b, S)) : inX false [("Kind", f_Kind___contains__)] d (kind m) S = some (.bl b, S) := by
  have t : top S (kind m) = kind m := rfl
  have hk : ∀ k, kind k = .obj "Kind" [("own_entries", .tup (encs k)), ("own_reach", .tup [.int (hi (mapX k)), .int (hi (mapY k))])] := fun _ => rfl
  simp only [hk] at h t ⊢
  simp [inX, inO, t, List.lookup, h]
end K11
set_option Elab.async false
set_option linter.all false
set_option maxRecDepth 100000
namespace K11
open Mi PySem
theorem len_test {d : D} {l : List En} {S : Store} (hd : top S d = .lst (encs l)) (k : Nat) : mBin oEq (mB fLen [mVar 0]) (mInt (k : Int)) [some d] S = some (.bl (decide (l.length = k)), S) := by
  have h1 : mB fLen [mVar 0] [some d] S = some (.int l.length, S) := by
    refine b1 (d := d) rfl ?_
    rw [hd]
    simp [fLen, fLen0, encs]
  refine bin_is h1 (y := .int (k : Int)) (S2 := S) rfl ?_
  show oEq (.int _) (.int _) = _
  by_cases h : l.length = k <;> simp [oEq, dataD, eqD, h]
  omega
theorem item_at {d : D} {l : List En} {S : Store} (hd : top S d = .lst (encs l)) (i : Nat) {e : En} (he : l[i]? = some e) : mBin oItem (mVar 0) (mInt (i : Int)) [some d] S = some (enc e, S) := by
  refine bin_is (x := d) (y := .int (i : Int)) (S1 := S) rfl rfl ?_
  rw [hd]
  have hi := (List.getElem?_eq_some_iff.mp he).1
  show (place (encs l).length (i : Int)).bind _ = _
  have : place (encs l).length (i : Int) = some i := by
    unfold place
    rw [if_pos (by simp [encs]; omega)]
    rfl
  rw [this]
  simp [encs, he]
theorem law_kind_spec {d : D} {l : List En} {S : Store} (hd : top S d = .lst (encs l)) (g : Good l) : f__law_kind [d] S = some (kind (nrm l), S) := by
  refine (fn_ret (n := 1) (l := 0) (b := b__law_kind) (d := kind (nrm l)) (S1 := S) (ρ := [some d]) rfl ?_).trans (close_same rfl)
  show b__law_kind [some d] S = _
  unfold b__law_kind
  have hi := init_spec g S
  have h2 := g.two
  have h6 := g.six
  have t2 := len_test hd 2
  have t3 := len_test hd 3
  have t4 := len_test hd 4
  have t5 := len_test hd 5
  have i0 := fun e => item_at hd 0 (e := e)
  have i1 := fun e => item_at hd 1 (e := e)
  have i2 := fun e => item_at hd 2 (e := e)
  have i3 := fun e => item_at hd 3 (e := e)
  have i4 := fun e => item_at hd 4 (e := e)
  have i5 := fun e => item_at hd 5 (e := e)
  match l with
  | [a, b] => exact seq_ret ((if_t t2).trans (ret_is (call_is (eL (i0 a rfl) (eL (i1 b rfl) eN)) hi)))
  | [a, b, c] => exact (seq_nx ((if_f t2).trans rfl)).trans (seq_ret ((if_t t3).trans (ret_is (call_is (eL (i0 a rfl) (eL (i1 b rfl) (eL (i2 c rfl) eN))) hi))))
  | [a, b, c, e] => exact (seq_nx ((if_f t2).trans rfl)).trans ((seq_nx ((if_f t3).trans rfl)).trans (seq_ret ((if_t t4).trans (ret_is (call_is (eL (i0 a rfl) (eL (i1 b rfl) (eL (i2 c rfl) (eL (i3 e rfl) eN)))) hi)))))
  | [a, b, c, e, f] => exact (seq_nx ((if_f t2).trans rfl)).trans ((seq_nx ((if_f t3).trans rfl)).trans ((seq_nx ((if_f t4).trans rfl)).trans (seq_ret ((if_t t5).trans (ret_is (call_is (eL (i0 a rfl) (eL (i1 b rfl) (eL (i2 c rfl) (eL (i3 e rfl) (eL (i4 f rfl) eN))))) hi))))))
  | [a, b, c, e, f, j] => exact (seq_nx ((if_f t2).trans rfl)).trans ((seq_nx ((if_f t3).trans rfl)).trans ((seq_nx ((if_f t4).trans rfl)).trans ((seq_nx ((if_f t5).trans rfl)).trans (ret_is (call_is (eL (i0 a rfl) (eL (i1 b rfl) (eL (i2 c rfl) (eL (i3 e rfl) (eL (i4 f rfl) (eL (i5 j rfl) eN)))))) hi)))))
  | [] => simp at h2
  | [_] => simp at h2
  | _ :: _ :: _ :: _ :: _ :: _ :: _ :: _ => simp at h6
theorem ofW_spec {d : D} {l : List En} (h : Sq d (encs l)) (g : Good l) (S : Store) : f_Kind_ofWentries [d] S = some (kind (nrm l), S) := by
  have hp : f_Kind_ofWentries [d] S = mFn 1 0 b_Kind_ofWentries [d] S := rfl
  rw [hp]
  refine (fn_ret (n := 1) (l := 0) (b := b_Kind_ofWentries) (d := kind (nrm l)) (S1 := S) (ρ := [some d]) rfl ?_).trans (close_same rfl)
  unfold b_Kind_ofWentries
  have t : mNot (mCall f_is_list [mVar 0]) [some d] S = some (.bl false, S) := by
    simp [mNot, mCall, evalL, mVar, is_list_spec h]
  refine (seq_nx ((if_f t).trans rfl)).trans (ret_is ?_)
  unfold mStar mVar
  rcases h with rfl | rfl <;> simp [top, init_spec g]
theorem namesK_spec {m : List En} (hb : m.length ≤ 4000) (S : Store) : f_Kind_namesK [kind m] S = some (.rf S.length, S ++ [some (.lst ((names m).map D.str))]) := by
  unfold f_Kind_namesK mFnK
  rw [if_pos (show [kind m].length = 1 from rfl)]
  have e : b_Kind_namesK ([kind m].map some ++ List.replicate 3 none) S = some (.ret (.rf S.length), [some (kind m), none, none, none], S ++ [some (.lst ((names m).map D.str))]) := by
    refine ret_is ?_
    unfold mSortSetM
    have : mB fSortSet [mComp (iSeq (mFld ["Kind"] "own_entries" (mVar 0))) (gTup [gName 1, gName 2, gName 3]) (mBl true) (mVar 3) [1, 2, 3]] [some (kind m), none, none, none] S = some (.lst ((names m).map D.str), S) := by
      refine b1 (comp_names (by unfold big; omega) S) ?_
      show (asStrs ((m.map (·.n)).map D.str)).bind _ = _
      rw [asStrs_map]
      simp only [Option.bind_some, List.length_map]
      rw [if_pos hb]
      rfl
    rw [show ([kind m].map some ++ List.replicate 3 none : Rho) = [some (kind m), none, none, none] from rfl, this]
    simp only [Option.bind_some, pure_strs, if_true]
  rw [e]
end K11
set_option Elab.async false
set_option linter.all false
set_option maxRecDepth 100000
namespace K11
open Mi PySem
/-- entries in their place, in any order -/
structure Pre (m : List En) : Prop where
  two : 2 ≤ m.length
  six : m.length ≤ 6
  nm : ∀ e ∈ m, isName e.n
  bx : ∀ e ∈ m, 0 ≤ e.x ∧ e.x ≤ 3
  by_ : ∀ e ∈ m, 0 ≤ e.y ∧ e.y ≤ 3
  nd : m.Nodup
  lx : lo (mapX m) = 0
  ly : lo (mapY m) = 0
/-- what the law takes as due -/
structure Due (m : List En) : Prop extends Pre m where
  st : sE m = m
theorem Due.ne {m : List En} (h : Due m) : m ≠ [] := fun e => by have := h.two; rw [e] at this; simp at this
theorem Due.small {m : List En} (h : Due m) : Small m := ⟨h.six, fun e he => ⟨by have := h.bx e he; omega, by have := h.by_ e he; omega, h.nm e he⟩⟩
/-- near entries: what may be asked for -/
def Near (e : En) : Prop := isName e.n ∧ (-20 ≤ e.x ∧ e.x ≤ 20) ∧ (-20 ≤ e.y ∧ e.y ≤ 20)
theorem encs_app (a b : List En) : encs (a ++ b) = encs a ++ encs b := List.map_append
theorem near_comp {m : List En} (h : Due m) {k : Nat} {S : Store} (hp : Pot S k) : ∃ (a : List En) (S' : Store), mComp (iSeq (mVar 2)) (gName 4) (mBl true) (mTup [(mBin oSub (mBin oAdd (mBin oItem (mVar 4) (mInt 0)) (mCall f__law_draw [(mVar 0), (mInt 3)])) (mInt 1)), (mBin oItem (mVar 4) (mInt 1)), (mBin oItem (mVar 4) (mInt 2))]) [4] [some (.rf k), some (kind m), some (.lst (encs m)), none, none, none, none] S = some (.lst (encs a), S') ∧ Step k S S' ∧ a.length ≤ 6 ∧ ∀ e ∈ a, Near e := by
  obtain ⟨ds, S', h1, st, a, rfl, ha, hn⟩ := comp_inv (it := iSeq (mVar 2)) (g := gName 4) (tt := mBl true) (elt := mTup [(mBin oSub (mBin oAdd (mBin oItem (mVar 4) (mInt 0)) (mCall f__law_draw [(mVar 0), (mInt 3)])) (mInt 1)), (mBin oItem (mVar 4) (mInt 1)), (mBin oItem (mVar 4) (mInt 2))]) (vs := [4])
    (ρ := [some (.rf k), some (kind m), some (.lst (encs m)), none, none, none, none]) (S := S) (S0 := S) (xs := encs m)
    (fun rest acc S' => Step k S S' ∧ ∃ a : List En, acc = encs a ∧ a.length + rest.length ≤ 6 ∧ ∀ e ∈ a, Near e) rfl (by have := h.six; simp [encs]; unfold big; omega) ⟨Step.refl hp, [], rfl, by have := h.six; simpa [encs] using this, fun e he => nomatch he⟩ fun x xs' acc S1 hx hI => by
      obtain ⟨st, a, rfl, hl, hn⟩ := hI
      obtain ⟨e, he, rfl⟩ := List.mem_map.mp hx
      obtain ⟨r, S2, d1, d2, d3, d4⟩ := draw_spec (n := 3) st.pot (by decide) (by decide)
      refine ⟨[some (.rf k), some (kind m), some (.lst (encs m)), none, some (enc e), none, none], S1, true, S1, rfl, rfl, fun _ => ⟨enc ⟨e.x + r - 1, e.y, e.n⟩, S2, ?_, st.trans d4, a ++ [⟨e.x + r - 1, e.y, e.n⟩], by rw [encs_app]; rfl, ?_, fun c hc => ?_⟩, fun z => by cases z⟩
      · refine tup_is (eL ?_ (eL (d := .int e.y) rfl (eL (d := .str e.n) rfl eN)))
        refine bin_is (x := .int (e.x + r)) (y := .int 1) (S1 := S2) (bin_is (x := .int e.x) (y := .int r) (S1 := S1) rfl (call_is (eL rfl (eL rfl eN)) d1) rfl) rfl rfl
      · rw [List.length_append]
        simp only [List.length_cons, List.length_nil] at hl ⊢
        omega
      · rcases List.mem_append.mp hc with hc | hc
        · exact hn c hc
        · rw [List.mem_singleton] at hc
          subst hc
          have b1 := h.bx e he
          have b2 := h.by_ e he
          exact ⟨h.nm e he, by show -20 ≤ e.x + r - 1 ∧ e.x + r - 1 ≤ 20; omega, by show -20 ≤ e.y ∧ e.y ≤ 20; omega⟩
  exact ⟨a, S', h1, st, by simpa using ha, hn⟩
theorem pure_comp (f : En → En) {m : List En} (hb : m.length ≤ big) {it elt : M} {i : Nat} {ρ : Rho} {S : Store} (hit : it ρ S = some (.lst (encs m), S)) (he : ∀ e ∈ m, elt ((wipe ρ [i]).set i (some (enc e))) S = some (enc (f e), S)) :
    mComp (iSeq it) (gName i) (mBl true) elt [i] ρ S = some (.lst (encs (m.map f)), S) := by
  have e2 : encs (m.map f) = (encs m).map fun x => match x with | .tup [.int x, .int y, .str n] => enc (f ⟨x, y, n⟩) | d => d := by
    unfold encs
    rw [List.map_map, List.map_map]
    exact List.map_congr_left fun e _ => rfl
  rw [e2]
  refine comp_mapA _ (xs := encs m) (S := S) (iseq_sq (.inl rfl) hit) (by simpa [encs] using hb) fun x hx => ?_
  obtain ⟨e, h, rfl⟩ := List.mem_map.mp hx
  exact ⟨_, rfl, he e h⟩
theorem add_encs {a b : List En} (h : a.length + b.length ≤ big) : oAdd (.lst (encs a)) (.lst (encs b)) = some (.lst (encs (a ++ b))) := by
  unfold oAdd
  simp only
  rw [if_pos (by simpa [encs] using h), encs_app]
theorem oIn_encs (e : En) (m : List En) : oIn (enc e) (.lst (encs m)) = some (.bl ((encs m).any fun z => eqD z (enc e))) := by
  unfold oIn enc
  simp only
  rw [if_pos ⟨data_enc e, encs_data (by decide) m⟩]
theorem asBools_false {α : Type} : ∀ l : List α, asBools (l.map fun _ => D.bl false) = some (l.map fun _ => false)
  | [] => rfl
  | x :: l => by
    show (asBools (l.map fun _ => D.bl false)).map (false :: ·) = _
    rw [asBools_false l]; rfl
theorem any_false {α : Type} (l : List α) : (l.map fun _ => false).any id = false := by
  rw [List.any_eq_false]; intro x hx
  obtain ⟨_, _, rfl⟩ := List.mem_map.mp hx
  simp
theorem seqR {a b : MS} {ρ ρ1 : Rho} {S S1 S' : Store} {d : D} (h : a ρ S = some (.nx, ρ1, S1)) (h2 : ∃ ρ2, b ρ1 S1 = some (.ret d, ρ2, S')) : ∃ ρ2, sSeq a b ρ S = some (.ret d, ρ2, S') := by
  obtain ⟨ρ2, h2⟩ := h2
  exact ⟨ρ2, (seq_nx h).trans h2⟩
theorem among_right {m : List En} (h : Due m) {k : Nat} {S : Store} (hp : Pot S k) : ∃ S', f__law_among_right [.rf k, kind m, .lst (encs m)] S = some (.bl true, S') ∧ Step k S S' := by
  obtain ⟨a, S', c1, st, la, hn⟩ := near_comp h hp
  refine ⟨S', ?_, st⟩
  have h6 := h.six
  have hb : m.length ≤ big := by unfold big; omega
  obtain ⟨e0, m0, rfl⟩ : ∃ e0 m0, m = e0 :: m0 := by
    cases m with
    | nil => exact absurd rfl h.ne
    | cons a b => exact ⟨a, b, rfl⟩
  generalize hm : e0 :: m0 = m at *
  have n0 : isName e0.n := h.nm e0 (hm ▸ List.mem_cons_self)
  generalize hup : m.map (fun e => (⟨e.x, e.y + 1, e.n⟩ : En)) = up
  generalize htr : m.map trn = tr
  have lup : up.length = m.length := by rw [← hup, List.length_map]
  have ltr : tr.length = m.length := by rw [← htr, List.length_map]
  have hnear : ∀ e ∈ m ++ (a ++ up ++ tr), Near e := by
    intro e he
    rcases List.mem_append.mp he with he | he
    · have b1 := h.bx e he
      have b2 := h.by_ e he
      exact ⟨h.nm e he, by omega, by omega⟩
    rcases List.mem_append.mp he with he | he
    · rcases List.mem_append.mp he with he | he
      · exact hn e he
      · rw [← hup] at he
        obtain ⟨c, hc, rfl⟩ := List.mem_map.mp he
        have b1 := h.bx c hc
        have b2 := h.by_ c hc
        exact ⟨h.nm c hc, by show -20 ≤ c.x ∧ c.x ≤ 20; omega, by show -20 ≤ c.y + 1 ∧ c.y + 1 ≤ 20; omega⟩
    · rw [← htr] at he
      obtain ⟨c, hc, rfl⟩ := List.mem_map.mp he
      have b1 := h.bx c hc
      have b2 := h.by_ c hc
      exact ⟨h.nm c hc, by show -20 ≤ c.y ∧ c.y ≤ 20; omega, by show -20 ≤ c.x ∧ c.x ≤ 20; omega⟩
  have key : ∃ ρ, b__law_among_right [some (.rf k), some (kind m), some (.lst (encs m)), none, none, none, none] S = some (.ret (.bl true), ρ, S') := by
    unfold b__law_among_right
    have q1 : ∀ ρ0 : List (Option D), ρ0 = [some (.rf k), some (kind m), some (.lst (encs m)), some (.lst (encs a)), none, none, none] → mComp (iSeq (mVar 2)) (gName 4) (mBl true) (mTup [(mBin oItem (mVar 4) (mInt 0)), (mBin oAdd (mBin oItem (mVar 4) (mInt 1)) (mInt 1)), (mBin oItem (mVar 4) (mInt 2))]) [4] ρ0 S' = some (.lst (encs up), S') := by
      rintro _ rfl
      rw [← hup]
      exact pure_comp _ hb rfl fun e _ => rfl
    have q2 : ∀ ρ0 : List (Option D), ρ0 = [some (.rf k), some (kind m), some (.lst (encs m)), some (.lst (encs a)), none, none, none] → mComp (iSeq (mVar 2)) (gName 4) (mBl true) (mTup [(mBin oItem (mVar 4) (mInt 1)), (mBin oItem (mVar 4) (mInt 0)), (mBin oItem (mVar 4) (mInt 2))]) [4] ρ0 S' = some (.lst (encs tr), S') := by
      rintro _ rfl
      rw [← htr]
      exact pure_comp trn hb rfl fun e _ => rfl
    have s1 : oAdd (.lst (encs a)) (.lst (encs up)) = some (.lst (encs (a ++ up))) := add_encs (by unfold big; omega)
    have s2 : oAdd (.lst (encs (a ++ up))) (.lst (encs tr)) = some (.lst (encs (a ++ up ++ tr))) := add_encs (by rw [List.length_append]; unfold big; omega)
    have s3 : oAdd (.lst (encs m)) (.lst (encs (a ++ up ++ tr))) = some (.lst (encs (m ++ (a ++ up ++ tr)))) := add_encs (by rw [List.length_append, List.length_append]; unfold big; omega)
    refine seqR (ρ1 := [some (.rf k), some (kind m), some (.lst (encs m)), some (.lst (encs a)), none, none, none]) (set_name c1) ?_
    refine seqR (ρ1 := [some (.rf k), some (kind m), some (.lst (encs m)), some (.lst (encs (a ++ up ++ tr))), none, none, none]) (set_name (d := .lst (encs (a ++ up ++ tr))) (S1 := S') (bin_is (bin_is (x := .lst (encs a)) (S1 := S') rfl (q1 _ rfl) s1) (q2 _ rfl) s2)) ?_
    obtain ⟨ρ', S'', w1, rfl, w2, w3, w4⟩ := for_inv (it := iSeq (mBin oAdd (mVar 2) (mVar 3))) (g := gName 4) (body := sIf (mBin oNe (mTwo (inX false [("Kind", f_Kind___contains__)]) (mVar 4) (mVar 1)) (mBin oIn (mVar 4) (mVar 2))) (sRet (mBl false)) sPass)
      (ρ := [some (.rf k), some (kind m), some (.lst (encs m)), some (.lst (encs (a ++ up ++ tr))), none, none, none]) (S := S') (S0 := S') (xs := encs (m ++ (a ++ up ++ tr)))
      (fun _ ρ S1 => S1 = S' ∧ ρ[1]? = some (some (kind m)) ∧ ρ[2]? = some (some (.lst (encs m))) ∧ ρ.length = 7) (iseq_sq (.inl rfl) (bin_is (x := .lst (encs m)) (S1 := S') rfl (y := .lst (encs (a ++ up ++ tr))) rfl s3)) ⟨rfl, rfl, rfl, rfl⟩ fun x xs' ρ S1 hx hI => by
        obtain ⟨rfl, r1, r2, rl⟩ := hI
        obtain ⟨e, he, rfl⟩ := List.mem_map.mp hx
        obtain ⟨n1, n2, n3⟩ := hnear e he
        have v4 : (mVar 4 : M) (ρ.set 4 (some (enc e))) S1 = some (enc e, S1) := by
          unfold mVar; rw [List.getElem?_set_self (by omega)]
        have v1 : (mVar 1 : M) (ρ.set 4 (some (enc e))) S1 = some (kind m, S1) := by
          unfold mVar; rw [List.getElem?_set_ne (by decide), r1]
        have v2 : (mVar 2 : M) (ρ.set 4 (some (enc e))) S1 = some (.lst (encs m), S1) := by
          unfold mVar; rw [List.getElem?_set_ne (by decide), r2]
        refine ⟨ρ.set 4 (some (enc e)), S1, ρ.set 4 (some (enc e)), S1, rfl, (if_f (S1 := S1) ?_).trans rfl, rfl, by rw [List.getElem?_set_ne (by decide), r1], by rw [List.getElem?_set_ne (by decide), r2], by rw [List.length_set]; exact rl⟩
        have t1 : mTwo (inX false [("Kind", f_Kind___contains__)]) (mVar 4) (mVar 1) (ρ.set 4 (some (enc e))) S1 = some (.bl ((encs m).any fun z => eqD z (enc e)), S1) := by
          unfold mTwo
          rw [v4]
          simp only [Option.bind_some, v1]
          exact inX_of (contains_enc n1 n2 n3)
        have t2 : mBin oIn (mVar 4) (mVar 2) (ρ.set 4 (some (enc e))) S1 = some (.bl ((encs m).any fun z => eqD z (enc e)), S1) := bin_is v4 v2 (oIn_encs e m)
        refine bin_is t1 t2 ?_
        show oNe (.bl _) (.bl _) = _
        simp [oNe, dataD, eqD]
    refine seqR w1 ?_
    have z0 : ∀ ρ : Rho, ρ[2]? = some (some (.lst (encs m))) → mBin oItem (mVar 2) (mInt 0) ρ S'' = some (enc e0, S'') := by
      intro ρ hr
      have v2 : (mVar 2 : M) ρ S'' = some (.lst (encs m), S'') := by unfold mVar; rw [hr]
      refine bin_is v2 (y := .int 0) (S2 := S'') rfl ?_
      rw [← hm]
      show (place (m0.map enc).length.succ 0).bind _ = _
      simp [place, encs]
    have zn : ∀ ρ : Rho, ρ[2]? = some (some (.lst (encs m))) → mBin oItem (mBin oItem (mVar 2) (mInt 0)) (mInt 2) ρ S'' = some (.str e0.n, S'') := by
      intro ρ hr
      exact bin_is (z0 ρ hr) (y := .int 2) (S2 := S'') rfl rfl
    have u1 : (mVar 1 : M) ρ' S'' = some (kind m, S'') := by unfold mVar; rw [w2]
    have u2 : (mVar 2 : M) ρ' S'' = some (.lst (encs m), S'') := by unfold mVar; rw [w3]
    have za := z0 ρ' w3
    have zb := zn ρ' w3
    refine seqR (ρ1 := ρ'.set 5 (some (.lst [.non, .int 0, .str [], .lst [.int e0.x, .int e0.y, .str e0.n], .lst (encs m), .tup [.int e0.x, .int e0.y], .tup [.int e0.x, .int e0.y, .str e0.n, .int 0], .tup [.bl true, .bl false, .str e0.n], .tup [.int 0, .int 0, .non], kind m]))) (S1 := S'') (set_name ?_) ?_
    · refine lst_is (eL rfl (eL rfl (eL rfl (eL (b1 za rfl) (eL u2 (eL ?_ (eL (bin_is za (y := .tup [.int 0]) (S2 := S'') rfl ?_) (eL (tup_is (eL rfl (eL rfl (eL zb eN)))) (eL rfl (eL u1 eN))))))))))
      · unfold mSlice
        rw [za]
        rfl
      · show oAdd (enc e0) (.tup [.int 0]) = _
        simp [oAdd, enc, big]
    have w3' : (ρ'.set 5 (some (.lst [.non, .int 0, .str [], .lst [.int e0.x, .int e0.y, .str e0.n], .lst (encs m), .tup [.int e0.x, .int e0.y], .tup [.int e0.x, .int e0.y, .str e0.n, .int 0], .tup [.bl true, .bl false, .str e0.n], .tup [.int 0, .int 0, .non], kind m])))[2]? = some (some (.lst (encs m))) := by rw [List.getElem?_set_ne (by decide), w3]
    have zc := zn _ w3'
    have u5 : (mVar 5 : M) (ρ'.set 5 (some (.lst [.non, .int 0, .str [], .lst [.int e0.x, .int e0.y, .str e0.n], .lst (encs m), .tup [.int e0.x, .int e0.y], .tup [.int e0.x, .int e0.y, .str e0.n, .int 0], .tup [.bl true, .bl false, .str e0.n], .tup [.int 0, .int 0, .non], kind m]))) S'' = some (.lst [.non, .int 0, .str [], .lst [.int e0.x, .int e0.y, .str e0.n], .lst (encs m), .tup [.int e0.x, .int e0.y], .tup [.int e0.x, .int e0.y, .str e0.n, .int 0], .tup [.bl true, .bl false, .str e0.n], .tup [.int 0, .int 0, .non], kind m], S'') := by
      unfold mVar; rw [List.getElem?_set_self (by omega)]
    generalize hL : [D.non, .int 0, .str [], .lst [.int e0.x, .int e0.y, .str e0.n], .lst (encs m), .tup [.int e0.x, .int e0.y], .tup [.int e0.x, .int e0.y, .str e0.n, .int 0], .tup [.bl true, .bl false, .str e0.n], .tup [.int 0, .int 0, .non], kind m] = L at *
    have lL : L.length = 10 := by rw [← hL]; rfl
    refine seqR (set_name (bin_is u5 (y := .lst [.tup [.str e0.n, .int 0, .int 0], .tup [.lst [], .int 0, .str e0.n], .tup [.int 0, .dct [], .str e0.n]]) (S2 := S'') (lst_is (eL (tup_is (eL zc (eL rfl (eL rfl eN)))) (eL (tup_is (eL rfl (eL rfl (eL zc eN)))) (eL (tup_is (eL rfl (eL rfl (eL zc eN)))) eN)))) (d := .lst (L ++ [.tup [.str e0.n, .int 0, .int 0], .tup [.lst [], .int 0, .str e0.n], .tup [.int 0, .dct [], .str e0.n]])) ?_)) ?_
    · show oAdd (.lst L) (.lst _) = _
      unfold oAdd
      simp only
      rw [if_pos (by rw [lL]; unfold big; simp)]
    rw [List.set_set]
    have x1 : (ρ'.set 5 (some (.lst (L ++ [.tup [.str e0.n, .int 0, .int 0], .tup [.lst [], .int 0, .str e0.n], .tup [.int 0, .dct [], .str e0.n]]))))[1]? = some (some (kind m)) := by rw [List.getElem?_set_ne (by decide), w2]
    have x5 : (ρ'.set 5 (some (.lst (L ++ [.tup [.str e0.n, .int 0, .int 0], .tup [.lst [], .int 0, .str e0.n], .tup [.int 0, .dct [], .str e0.n]]))))[5]? = some (some (.lst (L ++ [.tup [.str e0.n, .int 0, .int 0], .tup [.lst [], .int 0, .str e0.n], .tup [.int 0, .dct [], .str e0.n]]))) := by rw [List.getElem?_set_self (by omega)]
    have xl : (ρ'.set 5 (some (.lst (L ++ [.tup [.str e0.n, .int 0, .int 0], .tup [.lst [], .int 0, .str e0.n], .tup [.int 0, .dct [], .str e0.n]])))).length = 7 := by rw [List.length_set]; exact w4
    generalize hr : ρ'.set 5 (some (.lst (L ++ [.tup [.str e0.n, .int 0, .int 0], .tup [.lst [], .int 0, .str e0.n], .tup [.int 0, .dct [], .str e0.n]]))) = ρf at x1 x5 xl ⊢
    generalize hA : L ++ [.tup [.str e0.n, .int 0, .int 0], .tup [.lst [], .int 0, .str e0.n], .tup [.int 0, .dct [], .str e0.n]] = A at *
    have lA : A.length = 13 := by rw [← hA, List.length_append, lL]; rfl
    have hno : ∀ x ∈ A, f_is_entry [x] S'' = some (.bl false, S'') := by
      have bt : f_is_integer [.bl true] S'' = _ := no_int_bool true S''
      intro x hx
      rw [← hA, ← hL] at hx
      simp only [List.cons_append, List.nil_append, List.mem_cons, List.not_mem_nil, or_false] at hx
      rcases hx with rfl | rfl | rfl | rfl | rfl | rfl | rfl | rfl | rfl | rfl | rfl | rfl | rfl
      · exact no_entry rfl
      · exact no_entry rfl
      · exact no_entry rfl
      · exact no_entry rfl
      · exact no_entry rfl
      · exact no_entry_len (by simp)
      · exact no_entry_len (by simp)
      · exact no_entry0 (no_step (no_int_bool true S''))
      · exact no_entry2 (is_step_int 0 S'') (is_step_int 0 S'') (is_name_non S'')
      · exact no_entry rfl
      · exact no_entry0 (no_step (no_int rfl))
      · exact no_entry0 (no_step (no_int rfl))
      · exact no_entry1 (is_step_int 0 S'') (no_step (no_int rfl))
    have v5 : (mVar 5 : M) ρf S'' = some (.lst A, S'') := by unfold mVar; rw [x5]
    refine ⟨ρf, ret_is ?_⟩
    have cc : mComp (iSeq (mVar 5)) (gName 6) (mBl true) (mTwo (inX false [("Kind", f_Kind___contains__)]) (mVar 6) (mVar 1)) [6] ρf S'' = some (.lst (A.map fun _ => .bl false), S'') := by
      refine comp_mapA (fun _ => D.bl false) (xs := A) (S := S'') (iseq_sq (.inl rfl) v5) (by rw [lA]; unfold big; decide) fun x hx => ?_
      refine ⟨_, rfl, ?_⟩
      have c6 : (mVar 6 : M) ((wipe ρf [6]).set 6 (some x)) S'' = some (x, S'') := by
        unfold mVar; rw [List.getElem?_set_self (by simp only [wipe, List.length_set]; omega)]
      have c1 : (mVar 1 : M) ((wipe ρf [6]).set 6 (some x)) S'' = some (kind m, S'') := by
        unfold mVar wipe wipe; rw [List.set_set, List.getElem?_set_ne (by decide), x1]
      unfold mTwo
      rw [c6]
      simp only [Option.bind_some, c1]
      exact inX_of (contains_no (hno x hx))
    have ca : mB fAny [mComp (iSeq (mVar 5)) (gName 6) (mBl true) (mTwo (inX false [("Kind", f_Kind___contains__)]) (mVar 6) (mVar 1)) [6]] ρf S'' = some (.bl false, S'') := by
      refine b1 cc ?_
      show (asBools (A.map fun _ => D.bl false)).map _ = _
      rw [asBools_false, Option.map_some, any_false]
    unfold mNot
    rw [ca]
    rfl
  obtain ⟨ρ, key⟩ := key
  exact (fn_ret (n := 3) (l := 4) (b := b__law_among_right) (ds := [.rf k, kind m, .lst (encs m)]) rfl key).trans (close_same st.len)
end K11
set_option Elab.async false
set_option linter.all false
set_option maxRecDepth 100000
namespace K11
open Mi PySem
theorem lo_is {ns : List Int} {v : Int} (h : v ∈ ns) (h2 : ∀ n ∈ ns, v ≤ n) : lo ns = v := by
  obtain ⟨_, a, b⟩ := least_ok (least_some (List.ne_nil_of_mem h))
  have := h2 _ a
  have := b _ h
  omega
theorem hi_is {ns : List Int} {v : Int} (h : v ∈ ns) (h2 : ∀ n ∈ ns, n ≤ v) : hi ns = v := by
  obtain ⟨_, a, b⟩ := greatest_ok (greatest_some (List.ne_nil_of_mem h))
  have := h2 _ a
  have := b _ h
  omega
theorem lo_in {ns : List Int} (h : ns ≠ []) : lo ns ∈ ns ∧ ∀ n ∈ ns, lo ns ≤ n := (least_ok (least_some h)).2
theorem hi_on {ns : List Int} (h : ns ≠ []) : hi ns ∈ ns ∧ ∀ n ∈ ns, n ≤ hi ns := (greatest_ok (greatest_some h)).2
theorem lo_perm {a b : List Int} (h : a.Perm b) (hn : a ≠ []) : lo a = lo b := by
  obtain ⟨h1, h2⟩ := lo_in hn
  exact (lo_is (h.mem_iff.mp h1) fun n hn => h2 n (h.mem_iff.mpr hn)).symm
theorem hi_perm {a b : List Int} (h : a.Perm b) (hn : a ≠ []) : hi a = hi b := by
  obtain ⟨h1, h2⟩ := hi_on hn
  exact (hi_is (h.mem_iff.mp h1) fun n hn => h2 n (h.mem_iff.mpr hn)).symm
theorem Pre.ne {m : List En} (h : Pre m) : m ≠ [] := fun e => by have := h.two; rw [e] at this; simp at this
theorem Pre.nrm {m : List En} (h : Pre m) : nrm m = sE m := by
  unfold K11.nrm
  rw [h.lx, h.ly]
  congr 1
  have : sh (-0) (-0) = id := by funext e; simp [sh]
  rw [this, List.map_id]
theorem Pre.perm {a b : List En} (h : Pre a) (p : a.Perm b) : Pre b where
  two := p.length_eq ▸ h.two
  six := p.length_eq ▸ h.six
  nm := fun e he => h.nm e (p.mem_iff.mpr he)
  bx := fun e he => h.bx e (p.mem_iff.mpr he)
  by_ := fun e he => h.by_ e (p.mem_iff.mpr he)
  nd := p.nodup_iff.mp h.nd
  lx := (lo_perm (p.map _) (mapX_ne h.ne)).symm.trans h.lx
  ly := (lo_perm (p.map _) (mapY_ne h.ne)).symm.trans h.ly
theorem Pre.due {m : List En} (h : Pre m) : Due (sE m) := { h.perm (sE_perm m).symm with st := sE_idem m }
theorem Pre.hx {m : List En} (h : Pre m) : 0 ≤ hi (mapX m) ∧ hi (mapX m) ≤ 3 := by
  obtain ⟨e, he, h2⟩ := List.mem_map.mp (hi_on (mapX_ne h.ne)).1
  rw [← h2]; exact h.bx e he
theorem Pre.hy {m : List En} (h : Pre m) : 0 ≤ hi (mapY m) ∧ hi (mapY m) ≤ 3 := by
  obtain ⟨e, he, h2⟩ := List.mem_map.mp (hi_on (mapY_ne h.ne)).1
  rw [← h2]; exact h.by_ e he
theorem Pre.good {m : List En} (h : Pre m) : Good m where
  two := h.two
  six := h.six
  nm := h.nm
  bx := fun e he => by have := h.bx e he; omega
  by_ := fun e he => by have := h.by_ e he; omega
  nd := h.nd
  rx := by rw [h.nrm]; exact h.due.toPre.hx.2
  ry := by rw [h.nrm]; exact h.due.toPre.hy.2
theorem nodup_map {α β : Type} {f : α → β} (hf : ∀ a b, f a = f b → a = b) : ∀ {l : List α}, l.Nodup → (l.map f).Nodup
  | [], _ => List.nodup_nil
  | a :: l, h => by
    rw [List.nodup_cons] at h
    rw [List.map_cons, List.nodup_cons]
    refine ⟨fun hm => ?_, nodup_map hf h.2⟩
    obtain ⟨b, hb, e⟩ := List.mem_map.mp hm
    exact h.1 (hf _ _ e ▸ hb)
theorem mapX_mir (r : Int) (m : List En) : mapX (m.map (mir r)) = (mapX m).map (r - ·) := by unfold mapX; rw [List.map_map, List.map_map]; rfl
theorem mapY_mir (r : Int) (m : List En) : mapY (m.map (mir r)) = mapY m := by unfold mapY; rw [List.map_map]; rfl
theorem mapX_trn (m : List En) : mapX (m.map trn) = mapY m := by unfold mapX mapY; rw [List.map_map]; rfl
theorem mapY_trn (m : List En) : mapY (m.map trn) = mapX m := by unfold mapX mapY; rw [List.map_map]; rfl
theorem Pre.mir {m : List En} (h : Pre m) : Pre (m.map (mir (hi (mapX m)))) where
  two := by rw [List.length_map]; exact h.two
  six := by rw [List.length_map]; exact h.six
  nm := fun e he => by
    obtain ⟨c, hc, rfl⟩ := List.mem_map.mp he
    exact h.nm c hc
  bx := fun e he => by
    obtain ⟨c, hc, rfl⟩ := List.mem_map.mp he
    have h1 := (hi_on (mapX_ne h.ne)).2 c.x (List.mem_map.mpr ⟨c, hc, rfl⟩)
    have h2 := h.bx c hc
    have h3 := h.hx
    show 0 ≤ hi (mapX m) - c.x ∧ hi (mapX m) - c.x ≤ 3
    omega
  by_ := fun e he => by
    obtain ⟨c, hc, rfl⟩ := List.mem_map.mp he
    exact h.by_ c hc
  nd := nodup_map (fun a b e => by
    obtain ⟨x, y, n⟩ := a
    obtain ⟨x', y', n'⟩ := b
    simp only [K11.mir, En.mk.injEq] at e
    obtain ⟨e1, e2, e3⟩ := e
    have : x = x' := by omega
    subst this e2 e3; rfl) h.nd
  lx := by
    rw [mapX_mir]
    obtain ⟨h1, h2⟩ := hi_on (mapX_ne h.ne)
    refine lo_is (List.mem_map.mpr ⟨_, h1, by omega⟩) fun n hn => ?_
    obtain ⟨c, hc, rfl⟩ := List.mem_map.mp hn
    have := h2 c hc
    omega
  ly := by rw [mapY_mir]; exact h.ly
theorem Pre.trn {m : List En} (h : Pre m) : Pre (m.map trn) where
  two := by rw [List.length_map]; exact h.two
  six := by rw [List.length_map]; exact h.six
  nm := fun e he => by
    obtain ⟨c, hc, rfl⟩ := List.mem_map.mp he
    exact h.nm c hc
  bx := fun e he => by
    obtain ⟨c, hc, rfl⟩ := List.mem_map.mp he
    exact h.by_ c hc
  by_ := fun e he => by
    obtain ⟨c, hc, rfl⟩ := List.mem_map.mp he
    exact h.bx c hc
  nd := nodup_map (fun a b e => by
    obtain ⟨x, y, n⟩ := a
    obtain ⟨x', y', n'⟩ := b
    simp only [K11.trn, En.mk.injEq] at e
    obtain ⟨e1, e2, e3⟩ := e
    subst e1 e2 e3; rfl) h.nd
  lx := by rw [mapX_trn]; exact h.ly
  ly := by rw [mapY_trn]; exact h.lx
/-- mirrored, turned, as lists -/
def mi (m : List En) : List En := sE (m.map (mir (hi (mapX m))))
def tu (m : List En) : List En := sE (m.map trn)
theorem mi_due {m : List En} (h : Due m) : Due (mi m) := h.toPre.mir.due
theorem tu_due {m : List En} (h : Due m) : Due (tu m) := h.toPre.trn.due
theorem mirrored_is {m : List En} (h : Due m) (S : Store) : f_Kind_mirrored [kind m] S = some (kind (mi m), S) := by
  rw [mirrored_spec h.toPre.mir.good, h.toPre.mir.nrm]; rfl
theorem turned_is {m : List En} (h : Due m) (S : Store) : f_Kind_turned [kind m] S = some (kind (tu m), S) := by
  rw [turned_spec h.toPre.trn.good, h.toPre.trn.nrm]; rfl
theorem hi_mi {m : List En} (h : Due m) : hi (mapX (mi m)) = hi (mapX m) := by
  have p : (mapX (mi m)).Perm ((mapX m).map (hi (mapX m) - ·)) := by
    have := (sE_perm (m.map (mir (hi (mapX m))))).map (·.x)
    exact mapX_mir _ m ▸ this
  refine (hi_perm p (mapX_ne (mi_due h).toPre.ne)).trans ?_
  obtain ⟨h1, h2⟩ := lo_in (mapX_ne h.toPre.ne)
  rw [h.lx] at h1 h2
  refine hi_is (List.mem_map.mpr ⟨0, h1, by omega⟩) fun n hn => ?_
  obtain ⟨c, hc, rfl⟩ := List.mem_map.mp hn
  have := h2 c hc
  omega
theorem hiY_mi {m : List En} (h : Due m) : hi (mapY (mi m)) = hi (mapY m) := by
  have p : (mapY (mi m)).Perm (mapY m) := by
    have := (sE_perm (m.map (mir (hi (mapX m))))).map (·.y)
    exact mapY_mir (hi (mapX m)) m ▸ this
  exact hi_perm p (mapY_ne (mi_due h).toPre.ne)
theorem hi_tu {m : List En} (h : Due m) : hi (mapX (tu m)) = hi (mapY m) := by
  have p : (mapX (tu m)).Perm (mapY m) := by
    have := (sE_perm (m.map trn)).map (·.x)
    exact mapX_trn m ▸ this
  exact hi_perm p (mapX_ne (tu_due h).toPre.ne)
theorem hiY_tu {m : List En} (h : Due m) : hi (mapY (tu m)) = hi (mapX m) := by
  have p : (mapY (tu m)).Perm (mapX m) := by
    have := (sE_perm (m.map trn)).map (·.y)
    exact mapY_trn m ▸ this
  exact hi_perm p (mapY_ne (tu_due h).toPre.ne)
theorem mi_mi {m : List En} (h : Due m) : mi (mi m) = m := by
  have e : mi (mi m) = sE ((sE (m.map (mir (hi (mapX m))))).map (mir (hi (mapX m)))) := by rw [mi, hi_mi h]; rfl
  rw [e, sE_eq ((sE_perm _).map _), List.map_map]
  have : mir (hi (mapX m)) ∘ mir (hi (mapX m)) = id := by
    funext c; simp only [Function.comp_apply, mir, id_eq]
    rw [show hi (mapX m) - (hi (mapX m) - c.x) = c.x by omega]
  rw [this, List.map_id, h.st]
theorem tu_tu {m : List En} (h : Due m) : tu (tu m) = m := by
  have e : tu (tu m) = sE ((sE (m.map trn)).map trn) := rfl
  rw [e, sE_eq ((sE_perm _).map _), List.map_map]
  have : trn ∘ trn = id := rfl
  rw [this, List.map_id, h.st]
def both (r s : Int) (e : En) : En := ⟨r - e.x, s - e.y, e.n⟩
theorem back_is {m : List En} (h : Due m) : mi (tu (mi (tu m))) = sE (m.map (both (hi (mapX m)) (hi (mapY m)))) := by
  have h1 := tu_due h
  have h2 := mi_due h1
  have h3 := tu_due h2
  have e : mi (tu (mi (tu m))) = sE ((tu (mi (tu m))).map (mir (hi (mapX m)))) := by
    rw [mi, hi_tu h2, hiY_mi h1, hiY_tu h]
  have e2 : mi (tu m) = sE ((tu m).map (mir (hi (mapY m)))) := by rw [mi, hi_tu h]
  rw [e]
  refine sE_eq ?_
  refine ((sE_perm _).map _).trans ?_
  refine (((e2 ▸ sE_perm _ : (mi (tu m)).Perm _).map _).map _).trans ?_
  refine ((((sE_perm _).map _).map _).map _).trans ?_
  rw [List.map_map, List.map_map, List.map_map]
  exact List.Perm.refl _
theorem not_is {a : M} {ρ : Rho} {S S1 : Store} {c : Bool} (h : a ρ S = some (.bl c, S1)) : mNot a ρ S = some (.bl (!c), S1) := by unfold mNot; rw [h]; rfl
theorem two_is {f : D → D → Store → Option (D × Store)} {a b : M} {ρ : Rho} {S S1 S2 : Store} {x y : D} {r : Option (D × Store)} (h : a ρ S = some (x, S1)) (h2 : b ρ S1 = some (y, S2)) (h3 : f x y S2 = r) : mTwo f a b ρ S = r := by
  unfold mTwo
  rw [h]
  simp only [Option.bind_some, h2, h3]
theorem meth_kind {n : String} {φ : Fn} {o : M} {ρ : Rho} {S S1 S2 : Store} {m : List En} {d : D} (hn : ∀ a b : D, [("own_entries", a), ("own_reach", b)].lookup n = none) (h : o ρ S = some (kind m, S1)) (h2 : φ [kind m] S1 = some (d, S2)) : mMeth n [("Kind", φ)] o [] ρ S = some (d, S2) := by
  have hk : kind m = .obj "Kind" [("own_entries", .tup (encs m)), ("own_reach", .tup [.int (hi (mapX m)), .int (hi (mapY m))])] := rfl
  unfold mMeth
  rw [h]
  rw [hk] at h2 ⊢
  simp only [Option.bind_some, top, hn, evalL]
  simp [List.lookup, h2]
theorem n_mir (a b : D) : [("own_entries", a), ("own_reach", b)].lookup "mirrored" = none := by simp [List.lookup]
theorem n_tur (a b : D) : [("own_entries", a), ("own_reach", b)].lookup "turned" = none := by simp [List.lookup]
theorem n_ent (a b : D) : [("own_entries", a), ("own_reach", b)].lookup "entries" = none := by simp [List.lookup]
theorem n_nam (a b : D) : [("own_entries", a), ("own_reach", b)].lookup "names" = none := by simp [List.lookup]
theorem eqX_same (m : List En) (S : Store) : eqX true [("Kind", f_Kind___eq__)] (kind m) (kind m) S = some (.bl false, S) := by
  rw [eqX_kind, eqL_encs.mpr rfl]; rfl
theorem turned_right {m : List En} (h : Due m) (S : Store) : f__law_turned_right [kind m, .lst (encs m)] S = some (.bl true, S) := by
  have h6 := h.six
  have hb : m.length ≤ big := by unfold big; omega
  have hb2 : ∀ f : En → En, (m.map f).length ≤ big := fun f => by rw [List.length_map]; exact hb
  have tm := told_right (mi_due h).small (mi_due h).ne S
  have tt := told_right (tu_due h).small (tu_due h).ne S
  have mm := mirrored_is h S
  have uu := turned_is h S
  have mm2 := mirrored_is (mi_due h) S
  rw [mi_mi h] at mm2
  have uu2 := turned_is (tu_due h) S
  rw [tu_tu h] at uu2
  have k1 := mirrored_is (tu_due h) S
  have k2 := turned_is (mi_due (tu_due h)) S
  have k3 := mirrored_is (tu_due (mi_due (tu_due h))) S
  have tb := told_right (mi_due (tu_due (mi_due (tu_due h)))).small (mi_due (tu_due (mi_due (tu_due h)))).ne S
  rw [back_is h] at k3 tb
  have key : ∃ ρ, b__law_turned_right [some (kind m), some (.lst (encs m)), none, none, none, none, none] S = some (.ret (.bl true), ρ, S) := by
    unfold b__law_turned_right
    refine seqR (ρ1 := [some (kind m), some (.lst (encs m)), some (.tup [.int (hi (mapX m)), .int (hi (mapY m))]), none, none, none, none]) (S1 := S) (set_name (call_is (eL rfl eN) (far_spec hb h.ne S))) ?_
    refine seqR (ρ1 := [some (kind m), some (.lst (encs m)), some (.tup [.int (hi (mapX m)), .int (hi (mapY m))]), some (.lst (encs (mi m))), none, none, none]) (S1 := S) (set_name (b1 (pure_comp (mir (hi (mapX m))) hb rfl fun e _ => rfl) (fSorted_encs (hb2 _)))) ?_
    refine seqR (ρ1 := [some (kind m), some (.lst (encs m)), some (.tup [.int (hi (mapX m)), .int (hi (mapY m))]), some (.lst (encs (mi m))), some (.lst (encs (tu m))), none, none]) (S1 := S) (set_name (b1 (pure_comp trn hb rfl fun e _ => rfl) (fSorted_encs (hb2 _)))) ?_
    refine seqR (ρ1 := [some (kind m), some (.lst (encs m)), some (.tup [.int (hi (mapX m)), .int (hi (mapY m))]), some (.lst (encs (mi m))), some (.lst (encs (tu m))), none, none]) (S1 := S) ((if_f (S1 := S) ((or_f (not_is (call_is (eL (meth_kind n_mir rfl mm) (eL rfl eN)) tm))).trans (not_is (call_is (eL (meth_kind n_tur rfl uu) (eL rfl eN)) tt)))).trans rfl) ?_
    refine seqR (ρ1 := [some (kind m), some (.lst (encs m)), some (.tup [.int (hi (mapX m)), .int (hi (mapY m))]), some (.lst (encs (mi m))), some (.lst (encs (tu m))), none, none]) (S1 := S) ((if_f (S1 := S) ((or_f (two_is (meth_kind n_mir (meth_kind n_mir rfl mm) mm2) rfl (eqX_same m S))).trans (two_is (meth_kind n_tur (meth_kind n_tur rfl uu) uu2) rfl (eqX_same m S)))).trans rfl) ?_
    refine seqR (ρ1 := [some (kind m), some (.lst (encs m)), some (.tup [.int (hi (mapX m)), .int (hi (mapY m))]), some (.lst (encs (mi m))), some (.lst (encs (tu m))), some (kind (sE (m.map (both (hi (mapX m)) (hi (mapY m)))))), none]) (S1 := S) (set_name (meth_kind n_mir (meth_kind n_tur (meth_kind n_mir (meth_kind n_tur rfl uu) k1) k2) k3)) ?_
    exact ⟨_, ret_is (call_is (eL rfl (eL (b1 (pure_comp (both (hi (mapX m)) (hi (mapY m))) hb rfl fun e _ => rfl) (fSorted_encs (hb2 _))) eN)) tb)⟩
  obtain ⟨ρ, key⟩ := key
  exact (fn_ret (n := 2) (l := 5) (b := b__law_turned_right) (ds := [kind m, .lst (encs m)]) rfl key).trans (close_same rfl)
end K11
set_option Elab.async false
set_option linter.all false
set_option maxRecDepth 100000
namespace K11
open Mi PySem
/-! ### stores that grow within a def -/
structure Up (k : Nat) (S S1 : Store) : Prop where
  pot : Pot S1 k
  kl : k < S.length
  len : S.length ≤ S1.length
  rest : ∀ j, j ≠ k → j < S.length → S1[j]? = S[j]?
theorem Pot.lt {S : Store} {k : Nat} (h : Pot S k) : k < S.length := by
  obtain ⟨_, _, h, _⟩ := h
  exact (List.getElem?_eq_some_iff.mp h).1
theorem Pot.keep {S S1 : Store} {k : Nat} (h : Pot S k) (e : S1[k]? = S[k]?) : Pot S1 k := by
  obtain ⟨p0, p1, h1, h2⟩ := h
  exact ⟨p0, p1, e.trans h1, h2⟩
theorem Up.refl {k : Nat} {S : Store} (h : Pot S k) : Up k S S := ⟨h, h.lt, Nat.le_refl _, fun _ _ _ => rfl⟩
theorem Up.step {k : Nat} {S S1 S2 : Store} (h : Up k S S1) (st : Step k S1 S2) : Up k S S2 :=
  ⟨st.pot, h.kl, st.len ▸ h.len, fun j hj hl => (st.rest j hj).trans (h.rest j hj hl)⟩
theorem Up.push {k : Nat} {S S1 : Store} (h : Up k S S1) (o : Option D) : Up k S (S1 ++ [o]) :=
  ⟨h.pot.keep (List.getElem?_append_left h.pot.lt), h.kl, by rw [List.length_append]; have := h.len; omega, fun j hj hl => (List.getElem?_append_left (by have := h.len; omega)).trans (h.rest j hj hl)⟩
theorem Up.set {k : Nat} {S S1 : Store} (h : Up k S S1) {i : Nat} (hi : S.length ≤ i) (d : D) : Up k S (setStore S1 i d) :=
  ⟨h.pot.keep (by unfold setStore; rw [List.getElem?_set_ne]; have := h.kl; omega), h.kl, by unfold setStore; rw [List.length_set]; exact h.len, fun j hj hl => by unfold setStore; rw [List.getElem?_set_ne (by omega)]; exact h.rest j hj hl⟩
theorem Up.take {k : Nat} {S S1 : Store} (h : Up k S S1) : Step k S (S1.take S.length) where
  pot := h.pot.keep (List.getElem?_take_of_lt h.kl)
  len := by rw [List.length_take]; have := h.len; omega
  rest := fun j hj => by
    by_cases hl : j < S.length
    · rw [List.getElem?_take_of_lt hl]; exact h.rest j hj hl
    · rw [List.getElem?_eq_none (by rw [List.length_take]; omega), List.getElem?_eq_none (by omega)]
theorem Step.far {k i : Nat} {S S1 : Store} {d : D} (st : Step k S S1) (hk : k ≠ i) (h : S[i]? = some (some d)) : S1[i]? = some (some d) := (st.rest i (Ne.symm hk)).trans h
theorem last_set {S : Store} {i j : Nat} {d e : D} (hij : i ≠ j) (h : S[j]? = some (some e)) : (setStore S i d)[j]? = some (some e) := by
  unfold setStore; rw [List.getElem?_set_ne hij]; exact h
theorem var_is {ρ : Rho} {i : Nat} {d : D} {S : Store} (h : ρ[i]? = some (some d)) : mVar i ρ S = some (d, S) := by unfold mVar; rw [h]
/-! ### a walk through range(n) -/
theorem for_range {it : MI} {g : MG} {body : MS} {ρ : Rho} {S0 S : Store} {n : Nat} (I : Nat → Rho → Store → Prop) (hit : it ρ S0 = some (intL 0 n, none, S)) (h0 : I 0 ρ S)
    (turn : ∀ i ρ S, i < n → I i ρ S → ∃ ρ1 S1 ρ2 S2, g (.int (i : Int)) ρ S = some (ρ1, S1) ∧ body ρ1 S1 = some (.nx, ρ2, S2) ∧ I (i + 1) ρ2 S2) : ∃ ρ' S', sFor it g body ρ S0 = some (.nx, ρ', S') ∧ I n ρ' S' := by
  have ln : (intL 0 n).length = n := by unfold intL; simp
  obtain ⟨ρ', S', h1, i, h2, h3, h4⟩ := for_inv (it := it) (g := g) (body := body) (ρ := ρ) (S := S) (S0 := S0) (xs := intL 0 n) (fun rest ρ S => ∃ i, i ≤ n ∧ rest = (intL 0 n).drop i ∧ I i ρ S) hit ⟨0, Nat.zero_le _, rfl, h0⟩ fun x xs' ρ S hx hI => by
    obtain ⟨i, hi, hr, h⟩ := hI
    have hlt : i < n := by
      apply Nat.lt_of_not_le
      intro hle
      have : (intL 0 n).drop i = [] := List.drop_eq_nil_of_le (by rw [ln]; exact hle)
      rw [this] at hr
      exact List.cons_ne_nil _ _ hr
    rw [List.drop_eq_getElem_cons (by rw [ln]; exact hlt)] at hr
    injection hr with e1 e2
    have e3 : (intL 0 n)[i]'(by rw [ln]; exact hlt) = .int (i : Int) := by simp [intL]
    rw [e3] at e1
    subst e1 e2
    obtain ⟨ρ1, S1, ρ2, S2, t1, t2, t3⟩ := turn i ρ S hlt h
    exact ⟨ρ1, S1, ρ2, S2, t1, t2, i + 1, hlt, rfl, t3⟩
  have : i = n := by
    have := congrArg List.length h3
    rw [List.length_drop, ln, List.length_nil] at this
    omega
  subst this
  exact ⟨ρ', S', h1, h4⟩
theorem range_is {m : M} {ρ : Rho} {S S1 : Store} {n : Nat} (h : m ρ S = some (.int (n : Int), S1)) (hn : n ≤ big) : iRange1 m ρ S = some (intL 0 n, none, S1) := by
  unfold iRange1
  rw [h]
  simp only [Option.bind_some]
  rw [if_pos (by unfold big at *; omega), Int.toNat_natCast]
/-- a comprehension over something that is changed elsewhere, but not here -/
theorem comp1_map {g : MG} {elt : M} {vs : List Nat} {all : List D} {w : Option Nat} {ρ : Rho} {S : Store} (f : D → D) (hs : still all w S) : ∀ xs acc : List D, (∀ x ∈ xs, ∃ ρ1, g x (wipe ρ vs) S = some (ρ1, S) ∧ elt ρ1 S = some (f x, S)) → comp1 g (mBl true) elt vs all w ρ xs acc S = some (acc ++ xs.map f, S)
  | [], acc, _ => by unfold comp1; rw [if_pos hs]; simp
  | x :: xs, acc, h => by
    obtain ⟨ρ1, h1, h2⟩ := h x List.mem_cons_self
    unfold comp1
    rw [if_pos hs, h1]
    show (elt ρ1 S).bind _ = _
    rw [h2]
    simp only [Option.bind_some]
    rw [comp1_map f hs xs (acc ++ [f x]) fun y hy => h y (List.mem_cons_of_mem _ hy)]
    simp
theorem comp_mapR {it : MI} {g : MG} {elt : M} {vs : List Nat} {ρ : Rho} {S S0 : Store} {xs : List D} {w : Option Nat} (f : D → D) (hit : it ρ S0 = some (xs, w, S)) (hs : still xs w S) (hb : xs.length ≤ big)
    (turn : ∀ x ∈ xs, ∃ ρ1, g x (wipe ρ vs) S = some (ρ1, S) ∧ elt ρ1 S = some (f x, S)) : mComp it g (mBl true) elt vs ρ S0 = some (.lst (xs.map f), S) := by
  unfold mComp
  simp only [hit, Option.bind_some]
  rw [comp1_map f hs xs [] turn]
  simp only [Option.bind_some, List.nil_append]
  rw [if_pos hb]
theorem compM_of {it : MI} {g : MG} {tt elt : M} {vs : List Nat} {ρ : Rho} {S S0 : Store} {ds : List D} (h : mComp it g tt elt vs ρ S0 = some (.lst ds, S)) (hp : pureL ds = true) : mCompM it g tt elt vs ρ S0 = some (.rf S.length, S ++ [some (.lst ds)]) := by
  unfold mComp at h
  unfold mCompM
  cases hi : it ρ S0 with
  | none => rw [hi] at h; cases h
  | some r =>
    obtain ⟨xs, w, S1⟩ := r
    rw [hi] at h
    simp only [Option.bind_some] at h ⊢
    cases hc : comp1 g tt elt vs xs w ρ xs [] S1 with
    | none => rw [hc] at h; cases h
    | some r =>
      obtain ⟨ys, S2⟩ := r
      rw [hc] at h
      simp only [Option.bind_some] at h ⊢
      split at h
      · rename_i hb
        simp only [Option.some.injEq, Prod.mk.injEq, D.lst.injEq] at h
        obtain ⟨rfl, rfl⟩ := h
        rw [if_pos ⟨hb, hp⟩]
      · cases h
/-! ### changes of lists -/
theorem on_is {f : List D → D → Store → Option (D × List D)} {o m : M} {ρ : Rho} {S S1 S2 : Store} {k : Nat} {ys xs zs : List D} {y d : D} (h : o ρ S = some (.rf k, S1)) (h0 : S1[k]? = some (some (.lst ys))) (h1 : m ρ S1 = some (y, S2)) (h2 : S2[k]? = some (some (.lst xs))) (h3 : f xs y S2 = some (d, zs)) : onLst o m f ρ S = some (d, setStore S2 k (.lst zs)) := by
  unfold onLst
  rw [h]
  simp only [Option.bind_some, isLst, h0, if_pos, h1, h2, h3]
theorem expr_is {m : M} {ρ : Rho} {S S1 : Store} {d : D} (h : m ρ S = some (d, S1)) : sExpr m ρ S = some (.nx, ρ, S1) := by unfold sExpr; rw [h]; rfl
theorem lstM_is {ms : List M} {ρ : Rho} {S S1 : Store} {ds : List D} (h : evalL ms ρ S = some (ds, S1)) (hp : pureL ds = true) : mLstM ms ρ S = some (.rf S1.length, S1 ++ [some (.lst ds)]) := by
  unfold mLstM
  rw [h]
  simp only [Option.bind_some]
  rw [if_pos hp]
theorem pop_place {n : Nat} {r : Int} (h : 0 ≤ r) (h2 : r < n) : place n r = some r.toNat := by unfold place; rw [if_pos ⟨h, h2⟩]
theorem erase_perm {α : Type} : ∀ (l : List α) (i : Nat) (h : i < l.length), (l[i] :: l.eraseIdx i).Perm l
  | _ :: _, 0, _ => List.Perm.refl _
  | a :: l, i + 1, h => by
    show (l[i]'(Nat.lt_of_succ_lt_succ h) :: a :: l.eraseIdx i).Perm (a :: l)
    exact (List.Perm.swap _ _ _).trans ((erase_perm l i (Nat.lt_of_succ_lt_succ h)).cons a)
theorem erase_map {α β : Type} (f : α → β) : ∀ (l : List α) (i : Nat), (l.map f).eraseIdx i = (l.eraseIdx i).map f
  | [], _ => rfl
  | _ :: _, 0 => rfl
  | a :: l, i + 1 => by
    show f a :: (l.map f).eraseIdx i = f a :: (l.eraseIdx i).map f
    rw [erase_map f l i]
/-- out.append(rest.pop(draw(len(rest)))) -/
theorem pop_turn {a b k i j : Nat} {ρ : Rho} {S : Store} {out rest : List En} (hp : Pot S k) (h0 : ρ[0]? = some (some (.rf k))) (ha : ρ[a]? = some (some (.rf i))) (hb : ρ[b]? = some (some (.rf j))) (ki : k ≠ i) (kj : k ≠ j) (ij : i ≠ j)
    (si : S[i]? = some (some (.lst (encs out)))) (sj : S[j]? = some (some (.lst (encs rest)))) (ho : out.length < big) (hr : 0 < rest.length) (hr2 : rest.length ≤ 10000) :
    ∃ (e : En) (rest' : List En) (S' : Store), sExpr (mAppend (mVar a) (mPop (mVar b) (mCall f__law_draw [mVar 0, mB fLen [mVar b]]))) ρ S = some (.nx, ρ, setStore (setStore S' j (.lst (encs rest'))) i (.lst (encs (out ++ [e])))) ∧ Step k S S' ∧ (e :: rest').Perm rest := by
  obtain ⟨r, S', d1, d2, d3, d4⟩ := draw_spec (n := (rest.length : Int)) hp (by omega) (by omega)
  have hi : r.toNat < rest.length := by omega
  have hl : (encs rest).length = rest.length := by simp [encs]
  refine ⟨rest[r.toNat], rest.eraseIdx r.toNat, S', expr_is (d := .non) ?_, d4, erase_perm _ _ hi⟩
  have q : mB fLen [mVar b] ρ S = some (.int (rest.length : Int), S) := by
    refine b1 (var_is hb) ?_
    simp [top, sj, fLen, fLen0, hl]
  have p : mPop (mVar b) (mCall f__law_draw [mVar 0, mB fLen [mVar b]]) ρ S = some (enc rest[r.toNat], setStore S' j (.lst (encs (rest.eraseIdx r.toNat)))) := by
    refine on_is (var_is hb) sj (call_is (eL (var_is h0) (eL q eN)) d1) (d4.far kj sj) ?_
    unfold fPop
    simp only
    rw [if_pos (by rw [hl]; unfold big; omega), hl, pop_place d2 d3]
    simp only [Option.bind_some]
    have e1 : (encs rest)[r.toNat]? = some (enc rest[r.toNat]) := by
      unfold encs
      rw [List.getElem?_map, List.getElem?_eq_getElem hi]; rfl
    rw [e1, Option.map_some]
    unfold encs
    rw [erase_map]
  refine on_is (var_is ha) si p (last_set (Ne.symm ij) (d4.far ki si)) ?_
  unfold fAppend
  rw [if_pos ⟨pure_enc _, by simpa [encs] using ho⟩, encs_app]; rfl
end K11
set_option Elab.async false
set_option linter.all false
set_option maxRecDepth 100000
namespace K11
open Mi PySem
theorem set_tup {a b : Nat} {m1 m2 : M} {ρ : Rho} {S S1 S2 : Store} {d1 d2 : D} (h1 : m1 ρ S = some (d1, S1)) (h2 : m2 ρ S1 = some (d2, S2)) : sSet (gTup [gName a, gName b]) (mTup [m1, m2]) ρ S = some (.nx, (ρ.set a (some d1)).set b (some d2), S2) := by
  unfold sSet
  rw [tup_is (eL h1 (eL h2 eN))]; rfl
theorem set_tup3 {a b c : Nat} {m1 m2 m3 : M} {ρ : Rho} {S S1 S2 S3 : Store} {d1 d2 d3 : D} (h1 : m1 ρ S = some (d1, S1)) (h2 : m2 ρ S1 = some (d2, S2)) (h3 : m3 ρ S2 = some (d3, S3)) : sSet (gTup [gName a, gName b, gName c]) (mTup [m1, m2, m3]) ρ S = some (.nx, ((ρ.set a (some d1)).set b (some d2)).set c (some d3), S3) := by
  unfold sSet
  rw [tup_is (eL h1 (eL h2 (eL h3 eN)))]; rfl
theorem b2 {f : List D → Option D} {m n : M} {ρ : Rho} {S S1 S2 : Store} {d e r : D} (h : m ρ S = some (d, S1)) (h2 : n ρ S1 = some (e, S2)) (hf : f [top S2 d, top S2 e] = some r) : mB f [m, n] ρ S = some (r, S2) := by
  unfold mB
  rw [eL h (eL h2 eN)]
  simp only [Option.bind_some, List.map_cons, List.map_nil, hf]
theorem draw_nat {S : Store} {k n : Nat} (h : Pot S k) (hn : 0 < n) (hn2 : n < 1073741824) : ∃ (r : Nat) (S' : Store), f__law_draw [.rf k, .int (n : Int)] S = some (.int (r : Int), S') ∧ r < n ∧ Step k S S' := by
  obtain ⟨r, S', h1, h2, h3, h4⟩ := draw_spec (n := (n : Int)) h (by omega) (by omega)
  obtain ⟨r', rfl⟩ := Int.eq_ofNat_of_zero_le h2
  exact ⟨r', S', h1, by omega, h4⟩
theorem pop_loop {a b c k i j n : Nat} {it : MI} {ρ : Rho} {S0 S T : Store} {F : List En} (hit : it ρ S0 = some (intL 0 n, none, S)) (hu : Up k T S) (h0 : ρ[0]? = some (some (.rf k))) (ha : ρ[a]? = some (some (.rf i))) (hb : ρ[b]? = some (some (.rf j)))
    (hi : T.length ≤ i) (hj : T.length ≤ j) (ij : i ≠ j) (c0 : c ≠ 0) (ca : c ≠ a) (cb : c ≠ b)
    (si : S[i]? = some (some (.lst (encs [])))) (sj : S[j]? = some (some (.lst (encs F)))) (hn : n ≤ F.length) (hF : F.length ≤ 10000) :
    ∃ (ρ' : Rho) (S' : Store) (G R : List En), sFor it (gName c) (sExpr (mAppend (mVar a) (mPop (mVar b) (mCall f__law_draw [mVar 0, mB fLen [mVar b]])))) ρ S0 = some (.nx, ρ', S') ∧ (∀ x, x ≠ c → ρ'[x]? = ρ[x]?) ∧ Up k T S' ∧ S'[i]? = some (some (.lst (encs G))) ∧ (G ++ R).Perm F ∧ G.length = n := by
  obtain ⟨ρ', S', h1, h2, h3, G, R, h4, h5, h6, h7⟩ := for_range (it := it) (g := gName c) (body := sExpr (mAppend (mVar a) (mPop (mVar b) (mCall f__law_draw [mVar 0, mB fLen [mVar b]])))) (ρ := ρ) (S := S) (S0 := S0) (n := n)
    (fun t ρ1 S1 => (∀ x, x ≠ c → ρ1[x]? = ρ[x]?) ∧ Up k T S1 ∧ ∃ G R : List En, S1[i]? = some (some (.lst (encs G))) ∧ S1[j]? = some (some (.lst (encs R))) ∧ (G ++ R).Perm F ∧ G.length = t) hit ⟨fun _ _ => rfl, hu, [], F, si, sj, List.Perm.refl _, rfl⟩ fun t ρ1 S1 ht hI => by
      obtain ⟨r1, u1, G, R, s1, s2, p1, l1⟩ := hI
      have r2 : ∀ x, x ≠ c → (ρ1.set c (some (.int (t : Int))))[x]? = ρ[x]? := fun x hx => by rw [List.getElem?_set_ne (Ne.symm hx), r1 x hx]
      have lp := p1.length_eq
      rw [List.length_append] at lp
      have kl := u1.kl
      obtain ⟨e, R', S2, t1, t2, t3⟩ := pop_turn (a := a) (b := b) (k := k) (i := i) (j := j) (ρ := ρ1.set c (some (.int (t : Int)))) (S := S1) (out := G) (rest := R) u1.pot ((r2 0 (Ne.symm c0)).trans h0) ((r2 a (Ne.symm ca)).trans ha) ((r2 b (Ne.symm cb)).trans hb) (by omega) (by omega) ij s1 s2 (by unfold big; omega) (by omega) (by omega)
      have kj : j < S2.length := by
        have := (List.getElem?_eq_some_iff.mp s2).1
        rw [t2.len]; exact this
      have ki : i < S2.length := by
        have := (List.getElem?_eq_some_iff.mp s1).1
        rw [t2.len]; exact this
      refine ⟨_, S1, _, _, rfl, t1, r2, ((u1.step t2).set hj _).set hi _, G ++ [e], R', ?_, ?_, ?_, by simp [l1]⟩
      · unfold setStore
        exact List.getElem?_set_self (by rw [List.length_set]; exact ki)
      · refine last_set ij ?_
        unfold setStore
        exact List.getElem?_set_self kj
      · refine List.Perm.trans ?_ p1
        rw [List.append_assoc]
        exact List.Perm.append_left _ t3
  exact ⟨ρ', S', G, R, h1, h2, h3, h4, h6, h7⟩
theorem listM_is {m : M} {ρ : Rho} {S S1 : Store} {xs : List D} (h : m ρ S = some (.lst xs, S1)) (hp : pureL xs = true) : mListM m ρ S = some (.rf S1.length, S1 ++ [some (.lst xs)]) := by
  unfold mListM
  rw [h]
  simp only [Option.bind_some, top]
  rw [if_pos hp]
theorem mixed_spec {m : List En} (hl : m.length ≤ 6) {k : Nat} {S : Store} (hp : Pot S k) : ∃ (p : List En) (S' : Store), f__law_mixed [.rf k, .lst (encs m)] S = some (.lst (encs p), S') ∧ p.Perm m ∧ Step k S S' := by
  have hlen : (encs m).length = m.length := by simp [encs]
  have s1 : sSet (gTup [gName 3, gName 4]) (mTup [mListM (mVar 1), mLstM []]) [some (.rf k), some (.lst (encs m)), none, none, none] S = some (.nx, [some (.rf k), some (.lst (encs m)), none, some (.rf S.length), some (.rf (S.length + 1))], S ++ [some (.lst (encs m))] ++ [some (.lst [])]) := by
    refine (set_tup (listM_is (var_is (d := .lst (encs m)) rfl) (pure_encs m)) (lstM_is eN rfl)).trans ?_
    rw [List.length_append]; rfl
  have u0 : Up k S (S ++ [some (.lst (encs m))] ++ [some (.lst [])]) := ((Up.refl hp).push _).push _
  obtain ⟨ρ', S', G, R, w1, w2, w3, w4, w5, w6⟩ := pop_loop (a := 4) (b := 3) (c := 2) (k := k) (i := S.length + 1) (j := S.length) (n := m.length) (it := iRange1 (mB fLen [mVar 1])) (ρ := [some (.rf k), some (.lst (encs m)), none, some (.rf S.length), some (.rf (S.length + 1))]) (S0 := S ++ [some (.lst (encs m))] ++ [some (.lst [])]) (T := S) (F := m)
    (range_is (b1 (var_is (d := .lst (encs m)) rfl) (by simp [top, fLen, fLen0, hlen])) (by unfold big; omega)) u0 rfl rfl rfl (by omega) (by omega) (by omega) (by decide) (by decide) (by decide)
    (by rw [List.getElem?_append_right (by rw [List.length_append]; simp)]; simp [encs])
    (by rw [List.append_assoc, List.getElem?_append_right (by omega)]; simp) (Nat.le_refl _) (by omega)
  have lp := w5.length_eq
  rw [List.length_append] at lp
  have hR : R = [] := List.eq_nil_of_length_eq_zero (by omega)
  subst hR
  rw [List.append_nil] at w5
  have v4 : ρ'[4]? = some (some (.rf (S.length + 1))) := w2 4 (by decide)
  refine ⟨G, S'.take S.length, ?_, w5, w3.take⟩
  refine (fn_ret (n := 2) (l := 3) (b := b__law_mixed) (ds := [.rf k, .lst (encs m)]) (S := S) (d := .rf (S.length + 1)) (S1 := S') (ρ := ρ') rfl ?_).trans (close_rf w4 (by omega))
  unfold b__law_mixed
  exact (seq_nx s1).trans ((seq_nx w1).trans (ret_is (var_is v4)))
/-! ### passed: mixed and shifted -/
structure Passed (m l : List En) : Prop where
  out : ∃ (p : List En) (a b : Int), l = p.map (sh a b) ∧ p.Perm m ∧ (-20 ≤ a ∧ a ≤ 17) ∧ (-20 ≤ b ∧ b ≤ 17)
theorem mapX_sh (a b : Int) (m : List En) : mapX (m.map (sh a b)) = (mapX m).map (· + a) := by unfold mapX; rw [List.map_map, List.map_map]; rfl
theorem mapY_sh (a b : Int) (m : List En) : mapY (m.map (sh a b)) = (mapY m).map (· + b) := by unfold mapY; rw [List.map_map, List.map_map]; rfl
theorem lo_add {ns : List Int} (h : ns ≠ []) (a : Int) : lo (ns.map (· + a)) = lo ns + a := by
  obtain ⟨h1, h2⟩ := lo_in h
  refine lo_is (List.mem_map.mpr ⟨_, h1, rfl⟩) fun n hn => ?_
  obtain ⟨c, hc, rfl⟩ := List.mem_map.mp hn
  have := h2 c hc
  omega
theorem passed_nrm {m l : List En} (h : Due m) (q : Passed m l) : nrm l = m := by
  obtain ⟨p, a, b, rfl, hp, ha, hb⟩ := q.out
  have h2 := h.toPre.perm hp.symm
  unfold nrm
  rw [mapX_sh, mapY_sh, lo_add (mapX_ne h2.ne), lo_add (mapY_ne h2.ne), h2.lx, h2.ly, List.map_map]
  have : sh (-(0 + a)) (-(0 + b)) ∘ sh a b = id := by
    funext e
    obtain ⟨x, y, n⟩ := e
    simp only [Function.comp_apply, sh, id_eq]
    rw [show x + a + -(0 + a) = x by omega, show y + b + -(0 + b) = y by omega]
  rw [this, List.map_id, sE_eq hp, h.st]
theorem sh_inj (a b : Int) (e f : En) (h : sh a b e = sh a b f) : e = f := by
  obtain ⟨x, y, n⟩ := e
  obtain ⟨x', y', n'⟩ := f
  simp only [sh, En.mk.injEq] at h
  obtain ⟨e1, e2, e3⟩ := h
  have : x = x' := by omega
  have : y = y' := by omega
  subst_vars; rfl
theorem passed_good {m l : List En} (h : Due m) (q : Passed m l) : Good l := by
  have hn := passed_nrm h q
  obtain ⟨p, a, b, rfl, hp, ha, hb⟩ := q.out
  have h2 := h.toPre.perm hp.symm
  exact {
    two := by rw [List.length_map]; exact h2.two
    six := by rw [List.length_map]; exact h2.six
    nm := fun e he => by
      obtain ⟨c, hc, rfl⟩ := List.mem_map.mp he
      exact h2.nm c hc
    bx := fun e he => by
      obtain ⟨c, hc, rfl⟩ := List.mem_map.mp he
      have := h2.bx c hc
      show -20 ≤ c.x + a ∧ c.x + a ≤ 20
      omega
    by_ := fun e he => by
      obtain ⟨c, hc, rfl⟩ := List.mem_map.mp he
      have := h2.by_ c hc
      show -20 ≤ c.y + b ∧ c.y + b ≤ 20
      omega
    nd := nodup_map (sh_inj a b) h2.nd
    rx := by rw [hn]; exact h.toPre.hx.2
    ry := by rw [hn]; exact h.toPre.hy.2 }
theorem pure_comp2 (f : En → En) {m : List En} (hb : m.length ≤ big) {it elt : M} {i : Nat} {ρ : Rho} {S S0 : Store} (hit : it ρ S0 = some (.lst (encs m), S)) (he : ∀ e ∈ m, elt ((wipe ρ [i]).set i (some (enc e))) S = some (enc (f e), S)) :
    mComp (iSeq it) (gName i) (mBl true) elt [i] ρ S0 = some (.lst (encs (m.map f)), S) := by
  have e2 : encs (m.map f) = (encs m).map fun x => match x with | .tup [.int x, .int y, .str n] => enc (f ⟨x, y, n⟩) | d => d := by
    unfold encs
    rw [List.map_map, List.map_map]
    exact List.map_congr_left fun e _ => rfl
  rw [e2]
  refine comp_mapA _ (xs := encs m) (S := S) (iseq_sq (.inl rfl) hit) (by simpa [encs] using hb) fun x hx => ?_
  obtain ⟨e, h, rfl⟩ := List.mem_map.mp hx
  exact ⟨_, rfl, he e h⟩
theorem draw20 {ρ : Rho} {k : Nat} {S : Store} (h : Pot S k) (h0 : ρ[0]? = some (some (.rf k))) : ∃ (a : Int) (S' : Store), mBin oSub (mCall f__law_draw [mVar 0, mInt 38]) (mInt 20) ρ S = some (.int a, S') ∧ (-20 ≤ a ∧ a ≤ 17) ∧ Step k S S' := by
  obtain ⟨r, S', h1, h2, h3, h4⟩ := draw_spec (n := 38) h (by decide) (by decide)
  exact ⟨r - 20, S', bin_is (x := .int r) (y := .int 20) (call_is (eL (var_is h0) (eL rfl eN)) h1) rfl rfl, by omega, h4⟩
theorem passed_body {m : List En} (hl : m.length ≤ 6) {k : Nat} {S : Store} (hp : Pot S k) : ∃ (l : List En) (a b : Int) (S1 S' : Store), sSet (gTup [gName 2, gName 3]) (mTup [mBin oSub (mCall f__law_draw [mVar 0, mInt 38]) (mInt 20), mBin oSub (mCall f__law_draw [mVar 0, mInt 38]) (mInt 20)]) [some (.rf k), some (.lst (encs m)), none, none, none] S = some (.nx, [some (.rf k), some (.lst (encs m)), some (.int a), some (.int b), none], S1) ∧
    mComp (iSeq (mCall f__law_mixed [mVar 0, mVar 1])) (gName 4) (mBl true) (mTup [mBin oAdd (mBin oItem (mVar 4) (mInt 0)) (mVar 2), mBin oAdd (mBin oItem (mVar 4) (mInt 1)) (mVar 3), mBin oItem (mVar 4) (mInt 2)]) [4] [some (.rf k), some (.lst (encs m)), some (.int a), some (.int b), none] S1 = some (.lst (encs l), S') ∧ Passed m l ∧ Step k S S' := by
  obtain ⟨a, S1, a1, a2, a3⟩ := draw20 (ρ := [some (.rf k), some (.lst (encs m)), none, none, none]) hp rfl
  obtain ⟨b, S2, b1, b2, b3⟩ := draw20 (ρ := [some (.rf k), some (.lst (encs m)), none, none, none]) a3.pot rfl
  obtain ⟨p, S3, c1, c2, c3⟩ := mixed_spec hl b3.pot
  refine ⟨p.map (sh a b), a, b, S2, S3, set_tup a1 b1, pure_comp2 (sh a b) (by have := c2.length_eq; unfold big; omega) (call_is (eL rfl (eL rfl eN)) c1) fun e _ => rfl, ⟨p, a, b, rfl, c2, a2, b2⟩, (a3.trans b3).trans c3⟩
theorem passed_spec {m : List En} (hl : m.length ≤ 6) {k : Nat} {S : Store} (hp : Pot S k) : ∃ (l : List En) (S' : Store), f__law_passed [.rf k, .lst (encs m)] S = some (.lst (encs l), S') ∧ Passed m l ∧ Step k S S' := by
  obtain ⟨l, a, b, S1, S', h1, h2, h3, h4⟩ := passed_body hl hp
  refine ⟨l, S', ?_, h3, h4⟩
  refine (fn_ret (n := 2) (l := 3) (b := b__law_passed) (ds := [.rf k, .lst (encs m)]) (S := S) (S1 := S') (ρ := [some (.rf k), some (.lst (encs m)), some (.int a), some (.int b), none]) rfl ?_).trans (close_same h4.len)
  unfold b__law_passed
  exact (seq_nx h1).trans (ret_is h2)
theorem fnK_ret {n l : Nat} {b : MS} {ds : List D} {S S1 : Store} {ρ : Rho} {d : D} (hn : ds.length = n) (h : b (ds.map some ++ List.replicate l none) S = some (.ret d, ρ, S1)) : mFnK n l b ds S = some (d, S1) := by
  unfold mFnK; rw [if_pos hn, h]
theorem passedK_spec {m : List En} (hl : m.length ≤ 6) {k : Nat} {S : Store} (hp : Pot S k) : ∃ (l : List En) (S' : Store), f__law_passedK [.rf k, .lst (encs m)] S = some (.rf S'.length, S' ++ [some (.lst (encs l))]) ∧ Passed m l ∧ Step k S S' := by
  obtain ⟨l, a, b, S1, S', h1, h2, h3, h4⟩ := passed_body hl hp
  refine ⟨l, S', ?_, h3, h4⟩
  refine fnK_ret (n := 2) (l := 3) (b := b__law_passedK) (ds := [.rf k, .lst (encs m)]) (S := S) (ρ := [some (.rf k), some (.lst (encs m)), some (.int a), some (.int b), none]) rfl ?_
  unfold b__law_passedK
  exact (seq_nx h1).trans (ret_is (compM_of h2 (pure_encs l)))
end K11
set_option Elab.async false
set_option linter.all false
set_option maxRecDepth 100000
namespace K11
open Mi PySem
theorem sub_len {α : Type} [DecidableEq α] : ∀ {l m : List α}, l.Nodup → (∀ x ∈ l, x ∈ m) → l.length ≤ m.length
  | [], m, _, _ => Nat.zero_le _
  | a :: l, m, hn, hs => by
    rw [List.nodup_cons] at hn
    have h1 : a ∈ m := hs a List.mem_cons_self
    have h2 : l.length ≤ (m.erase a).length := sub_len hn.2 fun x hx => by
      have hne : x ≠ a := fun e => hn.1 (e ▸ hx)
      exact (List.mem_erase_of_ne hne).mpr (hs x (List.mem_cons_of_mem _ hx))
    rw [List.length_erase_of_mem h1] at h2
    have h3 : 0 < m.length := List.length_pos_of_mem h1
    simp only [List.length_cons]
    omega
theorem abc_at : ∀ r, r < 26 → abc[r]? = some (97 + r) := by decide
theorem abc_nodup : abc.Nodup := by decide
theorem abc_mem : ∀ c ∈ abc, 97 ≤ c ∧ c ≤ 122 := by decide
theorem join_cs : ∀ cs : List Nat, joinN [] (cs.map fun c => [c]) = cs
  | [] => rfl
  | [c] => rfl
  | c :: d :: cs => by
    show [c] ++ [] ++ joinN [] ((d :: cs).map fun c => [c]) = _
    rw [join_cs (d :: cs)]; rfl
theorem sum_cs : ∀ cs : List Nat, (((cs.map fun c => [c]).map (·.length)) : List Nat).sum = cs.length
  | [] => rfl
  | c :: cs => by
    show 1 + (((cs.map fun c => [c]).map (·.length)) : List Nat).sum = _
    rw [sum_cs cs, List.length_cons]; omega
theorem set_far {ρ : Rho} {i j : Nat} {x d : D} (hij : i ≠ j) (h : ρ[j]? = some (some d)) : (ρ.set i (some x))[j]? = some (some d) := by rw [List.getElem?_set_ne hij, h]
theorem wipe_far {ρ : Rho} {i j : Nat} {x d : D} (hij : i ≠ j) (h : ρ[j]? = some (some d)) : ((wipe ρ [i]).set i (some x))[j]? = some (some d) := by
  unfold wipe wipe
  rw [List.getElem?_set_ne hij, List.getElem?_set_ne hij, h]
theorem wipe_near {ρ : Rho} {i : Nat} {x : D} (h : i < ρ.length) : ((wipe ρ [i]).set i (some x))[i]? = some (some x) := by
  unfold wipe wipe
  rw [List.getElem?_set_self (by rw [List.length_set]; exact h)]
/-- "".join(letters[draw(26)] for ..) -/
theorem word_spec {ρ : Rho} {k n : Nat} {S : Store} (hp : Pot S k) (h0 : ρ[0]? = some (some (.rf k))) (h3 : ρ[3]? = some (some (.str abc))) (h5 : ρ[5]? = some (some (.int (n : Int)))) (hn : n ≤ 8) :
    ∃ (s : List Nat) (S' : Store), mJoin (mStr []) (mComp (iRange1 (mVar 5)) (gName 8) (mBl true) (mBin oItem (mVar 3) (mCall f__law_draw [mVar 0, mInt 26])) [8]) ρ S = some (.str s, S') ∧ s.length = n ∧ (∀ c ∈ s, 97 ≤ c ∧ c ≤ 122) ∧ Step k S S' := by
  have ln : (intL 0 n).length = n := by unfold intL; simp
  obtain ⟨ds, S', h1, st, cs, rfl, hl, hc⟩ := comp_inv (it := iRange1 (mVar 5)) (g := gName 8) (tt := mBl true) (elt := mBin oItem (mVar 3) (mCall f__law_draw [mVar 0, mInt 26])) (vs := [8]) (ρ := ρ) (S := S) (S0 := S) (xs := intL 0 n)
    (fun rest acc S' => Step k S S' ∧ ∃ cs : List Nat, acc = (cs.map fun c => [c]).map D.str ∧ cs.length + rest.length = n ∧ ∀ c ∈ cs, 97 ≤ c ∧ c ≤ 122) (range_is (var_is h5) (by unfold big; omega)) (by rw [ln]; unfold big; omega) ⟨Step.refl hp, [], rfl, by rw [ln]; simp, fun c hc => nomatch hc⟩ fun x xs' acc S1 hx hI => by
      obtain ⟨st, cs, rfl, hl, hc⟩ := hI
      obtain ⟨r, S2, d1, d2, d3⟩ := draw_nat (n := 26) st.pot (by decide) (by decide)
      refine ⟨(wipe ρ [8]).set 8 (some x), S1, true, S1, rfl, rfl, fun _ => ⟨.str [97 + r], S2, ?_, st.trans d3, cs ++ [97 + r], by simp, ?_, fun c hm => ?_⟩, fun z => by cases z⟩
      · refine bin_is (x := .str abc) (y := .int (r : Int)) (var_is (wipe_far (by decide) h3)) (call_is (eL (var_is (wipe_far (by decide) h0)) (eL rfl eN)) d1) ?_
        show (if abc.length ≤ big then _ else none) = _
        rw [if_pos (by unfold big; decide), show abc.length = 26 from rfl, pop_place (by omega) (by omega)]
        simp only [Option.bind_some, Int.toNat_natCast, abc_at r d2, Option.map_some]
        rw [if_pos (by unfold big; decide)]
      · rw [List.length_append]
        simp only [List.length_cons, List.length_nil] at hl ⊢
        omega
      · rcases List.mem_append.mp hm with hm | hm
        · exact hc c hm
        · rw [List.mem_singleton] at hm
          omega
  refine ⟨cs, S', ?_, by simpa using hl, hc, st⟩
  have hl : cs.length = n := by simpa using hl
  unfold mJoin
  show (mComp _ _ _ _ _ ρ S).bind _ = _
  rw [h1]
  simp only [Option.bind_some]
  show (oJoin (.str []) (.lst _)).bind _ = _
  unfold oJoin
  simp only [asStrs_map, Option.bind_some]
  rw [if_pos (by rw [sum_cs]; simp; unfold big; omega), join_cs]
  rfl
theorem cut7 (s : List Nat) : cut s none (some 7) = s.take 7 := by
  unfold cut clip
  simp only [show (0 : Int) ≤ 7 by decide, if_true, List.drop_zero, Nat.sub_zero]
  show s.take (min 7 s.length) = _
  rw [← List.take_eq_take_min]
theorem strs_data {n : Nat} : ∀ l : List (List Nat), dataL n (l.map D.str) = true
  | [] => rfl
  | x :: l => by
    show (dataD n (.str x) && dataL n (l.map D.str)) = true
    rw [strs_data l]; cases n <;> rfl
theorem any_str (c : List Nat) : ∀ l : List (List Nat), ((l.map D.str).any fun z => eqD z (.str c)) = decide (c ∈ l)
  | [] => by simp
  | x :: l => by
    rw [List.map_cons, List.any_cons, any_str c l]
    show (decide (x = c) || _) = _
    by_cases h : c = x
    · subst h; simp
    · have : ¬ x = c := fun e => h e.symm
      simp [h, this]
theorem notIn_str (c : List Nat) (l : List (List Nat)) : oNotIn (.str c) (.lst (l.map D.str)) = some (.bl (decide (c ∉ l))) := by
  have : oIn (.str c) (.lst (l.map D.str)) = some (.bl (decide (c ∈ l))) := by
    unfold oIn
    simp only
    rw [if_pos ⟨rfl, strs_data l⟩, any_str]
  unfold oNotIn
  rw [this]
  simp
/-- the candidates -/
def cands (s : List Nat) : List (List Nat) := s :: abc.map fun c => s.take 7 ++ [c]
theorem cands_spec {ρ : Rho} {s : List Nat} {S : Store} (h3 : ρ[3]? = some (some (.str abc))) (h6 : ρ[6]? = some (some (.str s))) (h8 : 8 < ρ.length) (hs : s.length ≤ 8) :
    mBin oAdd (mLst [mVar 6]) (mComp (Mi.iStr (mVar 3)) (gName 8) (mBl true) (mBin oAdd (mSlice (mVar 6) none (some (mInt 7))) (mVar 8)) [8]) ρ S = some (.lst ((cands s).map D.str), S) := by
  have c1 : mComp (Mi.iStr (mVar 3)) (gName 8) (mBl true) (mBin oAdd (mSlice (mVar 6) none (some (mInt 7))) (mVar 8)) [8] ρ S = some (.lst ((abc.map fun c => s.take 7 ++ [c]).map D.str), S) := by
    have e2 : (abc.map fun c => s.take 7 ++ [c]).map D.str = (abc.map fun c => D.str [c]).map fun x => match x with | .str c => .str (s.take 7 ++ c) | d => d := by
      rw [List.map_map, List.map_map]
      exact List.map_congr_left fun e _ => rfl
    rw [e2]
    refine comp_mapA _ (xs := abc.map fun c => D.str [c]) (S := S) ?_ (by rw [List.length_map]; unfold big; decide) fun x hx => ?_
    · unfold Mi.iStr
      rw [var_is h3]; rfl
    · obtain ⟨c, hc, rfl⟩ := List.mem_map.mp hx
      refine ⟨_, rfl, ?_⟩
      refine bin_is (x := .str (s.take 7)) (y := .str [c]) (S1 := S) ?_ (var_is (wipe_near h8)) ?_
      · unfold mSlice
        rw [var_is (wipe_far (by decide) h6)]
        show ((if s.length ≤ big then some (D.str (cut s none (some 7))) else none) : Option D).bind _ = _
        rw [if_pos (by unfold big; omega), cut7]; rfl
      · show (if (s.take 7).length + [c].length ≤ big then _ else none) = _
        rw [if_pos (by rw [List.length_take]; simp; unfold big; omega)]
  refine bin_is (x := .lst [.str s]) (S1 := S) (lst_is (eL (var_is h6) eN)) c1 ?_
  show oAdd (.lst [.str s]) (.lst ((abc.map fun c => s.take 7 ++ [c]).map D.str)) = _
  unfold oAdd
  simp only
  rw [if_pos (by show 1 + 26 ≤ 16777216; decide)]
  rfl
theorem cands_name {s : List Nat} (hs : isName s) : ∀ c ∈ cands s, isName c := by
  intro c hc
  obtain ⟨h1, h2, h3⟩ := hs
  rcases List.mem_cons.mp hc with rfl | hc
  · exact ⟨h1, h2, h3⟩
  · obtain ⟨x, hx, rfl⟩ := List.mem_map.mp hc
    refine ⟨by simp, by rw [List.length_append, List.length_take]; simp; omega, fun y hy => ?_⟩
    rcases List.mem_append.mp hy with hy | hy
    · exact h3 y (List.mem_of_mem_take hy)
    · rw [List.mem_singleton] at hy
      subst hy
      exact abc_mem y hx
theorem cands_free {s : List Nat} {ns : List (List Nat)} (h : ns.length ≤ 9) : (cands s).filter (fun c => decide (c ∉ ns)) ≠ [] := by
  intro e
  rw [List.filter_eq_nil_iff] at e
  have h1 : ∀ c ∈ abc.map (fun c => s.take 7 ++ [c]), c ∈ ns := fun c hc => by
    have := e c (List.mem_cons_of_mem _ hc)
    simpa using this
  have h2 : (abc.map fun c => s.take 7 ++ [c]).Nodup := nodup_map (fun a b e => by simpa using e) abc_nodup
  have := sub_len h2 h1
  rw [List.length_map, show abc.length = 26 from rfl] at this
  omega
theorem pick_spec {ρ : Rho} {i : Nat} {ns : List (List Nat)} {s : List Nat} {S : Store} (h4 : ρ[4]? = some (some (.rf i))) (hi : S[i]? = some (some (.lst (ns.map D.str)))) (h7 : ρ[7]? = some (some (.lst ((cands s).map D.str)))) (h9 : 9 < ρ.length) (hn : ns.length ≤ 9) :
    ∃ c ∈ cands s, c ∉ ns ∧ mBin oItem (mComp (iSeq (mVar 7)) (gName 9) (mBin oNotIn (mVar 9) (mVar 4)) (mVar 9) [9]) (mInt 0) ρ S = some (.str c, S) := by
  have c1 : mComp (iSeq (mVar 7)) (gName 9) (mBin oNotIn (mVar 9) (mVar 4)) (mVar 9) [9] ρ S = some (.lst (((cands s).map D.str).filter (fun x => match x with | .str c => decide (c ∉ ns) | _ => false) |>.map id), S) := by
    refine comp_map id (fun x => match x with | .str c => decide (c ∉ ns) | _ => false) (xs := (cands s).map D.str) (S := S) (iseq_sq (.inl rfl) (var_is h7)) (by rw [List.length_map]; unfold cands; simp [abc]; unfold big; omega) fun x hx => ?_
    obtain ⟨c, hc, rfl⟩ := List.mem_map.mp hx
    refine ⟨_, rfl, ?_, fun _ => var_is (wipe_near h9)⟩
    refine bin_is (x := .str c) (y := .rf i) (S1 := S) (var_is (wipe_near h9)) (var_is (wipe_far (by decide) h4)) ?_
    show oNotIn (.str c) (top S (.rf i)) = _
    rw [show top S (.rf i) = .lst (ns.map D.str) by simp [top, hi], notIn_str]
  rw [List.filter_map, List.map_id] at c1
  have hf : ((cands s).filter ((fun x => match x with | .str c => decide (c ∉ ns) | _ => false) ∘ D.str)) = (cands s).filter (fun c => decide (c ∉ ns)) := rfl
  rw [hf] at c1
  cases hc : (cands s).filter (fun c => decide (c ∉ ns)) with
  | nil => exact absurd hc (cands_free hn)
  | cons c cs =>
    have hm : c ∈ (cands s).filter (fun c => decide (c ∉ ns)) := by rw [hc]; exact List.mem_cons_self
    rw [List.mem_filter] at hm
    refine ⟨c, hm.1, by simpa using hm.2, ?_⟩
    rw [hc] at c1
    refine bin_is c1 (y := .int 0) (S2 := S) rfl ?_
    show (place (cs.map D.str).length.succ 0).bind _ = _
    rw [pop_place (by decide) (by omega)]
    rfl
theorem num4 {d : D} (h : d ∈ [D.int 1, D.int 2, D.int 3, D.int 8]) : ∃ n : Nat, d = .int (n : Int) ∧ 1 ≤ n ∧ n ≤ 8 := by
  simp only [List.mem_cons, List.mem_nil_iff, or_false, List.not_mem_nil] at h
  rcases h with rfl | rfl | rfl | rfl
  · exact ⟨1, rfl, by decide, by decide⟩
  · exact ⟨2, rfl, by decide, by decide⟩
  · exact ⟨3, rfl, by decide, by decide⟩
  · exact ⟨8, rfl, by decide, by decide⟩
theorem names_made {k n : Nat} (hn : n ≤ 10) {S : Store} (hp : Pot S k) : ∃ (ns : List (List Nat)) (S' : Store), f__law_names [.rf k, .int (n : Int)] S = some (.lst (ns.map D.str), S') ∧ Step k S S' ∧ ns.length = n ∧ ns.Nodup ∧ ∀ s ∈ ns, isName s := by
  have s1 : sSet (gTup [gName 3, gName 4]) (mTup [mStr abc, mLstM []]) [some (.rf k), some (.int (n : Int)), none, none, none, none, none, none, none, none] S = some (.nx, [some (.rf k), some (.int (n : Int)), none, some (.str abc), some (.rf S.length), none, none, none, none, none], S ++ [some (.lst [])]) :=
    set_tup (d1 := .str abc) (S1 := S) rfl (lstM_is eN rfl)
  obtain ⟨ρ', S', w1, w2, w3, w4, w5, w6, ns, w7, w8, w9, w10⟩ := for_range (it := iRange1 (mVar 1)) (g := gName 2) (body := (sSeq (sSet (gName 5) (mBin oAdd (mInt 1) (mCall f__law_draw [(mVar 0), (mCall f__law_among [(mVar 0), (mLst [(mInt 1), (mInt 2), (mInt 3), (mInt 8)])])]))) (sSeq (sSet (gName 6) (mJoin (mStr []) (mComp (iRange1 (mVar 5)) (gName 8) (mBl true) (mBin oItem (mVar 3) (mCall f__law_draw [(mVar 0), (mInt 26)])) [8]))) (sSeq (sSet (gName 7) (mBin oAdd (mLst [(mVar 6)]) (mComp (Mi.iStr (mVar 3)) (gName 8) (mBl true) (mBin oAdd (mSlice (mVar 6) none (some (mInt 7))) (mVar 8)) [8]))) (sExpr (mAppend (mVar 4) (mBin oItem (mComp (iSeq (mVar 7)) (gName 9) (mBin oNotIn (mVar 9) (mVar 4)) (mVar 9) [9]) (mInt 0))))))))
    (ρ := [some (.rf k), some (.int (n : Int)), none, some (.str abc), some (.rf S.length), none, none, none, none, none]) (S := S ++ [some (.lst [])]) (S0 := S ++ [some (.lst [])]) (n := n)
    (fun t ρ S1 => ρ[0]? = some (some (.rf k)) ∧ ρ[3]? = some (some (.str abc)) ∧ ρ[4]? = some (some (.rf S.length)) ∧ ρ.length = 10 ∧ Up k S S1 ∧ ∃ ns : List (List Nat), S1[S.length]? = some (some (.lst (ns.map D.str))) ∧ ns.length = t ∧ ns.Nodup ∧ ∀ s ∈ ns, isName s)
    (range_is (var_is rfl) (by unfold big; omega)) ⟨rfl, rfl, rfl, rfl, (Up.refl hp).push _, [], store_last, rfl, List.nodup_nil, fun s hs => nomatch hs⟩ fun t ρ S1 ht hI => by
      obtain ⟨r0, r3, r4, rl, u, ns, hs, hl, hd, hnm⟩ := hI
      have kn := u.kl
      have hkl : k ≠ S.length := by omega
      have r0' := set_far (x := .int (t : Int)) (i := 2) (by decide) r0
      have r3' := set_far (x := .int (t : Int)) (i := 2) (by decide) r3
      have r4' := set_far (x := .int (t : Int)) (i := 2) (by decide) r4
      have rl' : (ρ.set 2 (some (.int (t : Int)))).length = 10 := by rw [List.length_set, rl]
      generalize hρa : ρ.set 2 (some (D.int (t : Int))) = ρa at r0' r3' r4' rl'
      obtain ⟨d, S2, a1, a2, a3⟩ := among_spec (xs := [.int 1, .int 2, .int 3, .int 8]) u.pot (by simp) (by simp)
      obtain ⟨q, rfl, q1, q2⟩ := num4 a2
      obtain ⟨r, S3, d1, d2, d3⟩ := draw_nat (n := q) a3.pot (by omega) (by omega)
      have e1 : sSet (gName 5) (mBin oAdd (mInt 1) (mCall f__law_draw [(mVar 0), (mCall f__law_among [(mVar 0), (mLst [(mInt 1), (mInt 2), (mInt 3), (mInt 8)])])])) ρa S1 = some (.nx, ρa.set 5 (some (.int ((1 + r : Nat) : Int))), S3) := by
        refine set_name (bin_is (x := .int 1) (y := .int (r : Int)) (S1 := S1) rfl (call_is (eL (var_is r0') (eL (call_is (eL (var_is r0') (eL (lst_is (eL rfl (eL rfl (eL rfl (eL rfl eN))))) eN)) a1) eN)) d1) ?_)
        show some (D.int (1 + (r : Int))) = _
        rw [Int.natCast_add]; rfl
      have b0 := set_far (x := .int ((1 + r : Nat) : Int)) (i := 5) (by decide) r0'
      have b3 := set_far (x := .int ((1 + r : Nat) : Int)) (i := 5) (by decide) r3'
      have b4 := set_far (x := .int ((1 + r : Nat) : Int)) (i := 5) (by decide) r4'
      have b5 : (ρa.set 5 (some (.int ((1 + r : Nat) : Int))))[5]? = some (some (.int ((1 + r : Nat) : Int))) := List.getElem?_set_self (by omega)
      have bl : (ρa.set 5 (some (.int ((1 + r : Nat) : Int)))).length = 10 := by rw [List.length_set, rl']
      generalize ρa.set 5 (some (D.int ((1 + r : Nat) : Int))) = ρb at e1 b0 b3 b4 b5 bl
      have st3 := a3.trans d3
      obtain ⟨s, S4, f1, f2, f3, f4⟩ := word_spec (n := 1 + r) st3.pot b0 b3 b5 (by omega)
      have hsn : isName s := ⟨by omega, by omega, f3⟩
      have c0 := set_far (x := .str s) (i := 6) (by decide) b0
      have c3 := set_far (x := .str s) (i := 6) (by decide) b3
      have c4 := set_far (x := .str s) (i := 6) (by decide) b4
      have c6 : (ρb.set 6 (some (.str s)))[6]? = some (some (.str s)) := List.getElem?_set_self (by omega)
      have cl : (ρb.set 6 (some (.str s))).length = 10 := by rw [List.length_set, bl]
      have e2 := set_name (i := 6) f1
      generalize ρb.set 6 (some (D.str s)) = ρc at e2 c0 c3 c4 c6 cl
      have e3 := set_name (i := 7) (cands_spec (S := S4) c3 c6 (by omega) hsn.2.1)
      have g0 := set_far (x := .lst ((cands s).map D.str)) (i := 7) (by decide) c0
      have g3 := set_far (x := .lst ((cands s).map D.str)) (i := 7) (by decide) c3
      have g4 := set_far (x := .lst ((cands s).map D.str)) (i := 7) (by decide) c4
      have g7 : (ρc.set 7 (some (.lst ((cands s).map D.str))))[7]? = some (some (.lst ((cands s).map D.str))) := List.getElem?_set_self (by omega)
      have gl : (ρc.set 7 (some (.lst ((cands s).map D.str)))).length = 10 := by rw [List.length_set, cl]
      generalize ρc.set 7 (some (D.lst ((cands s).map D.str))) = ρd at e3 g0 g3 g4 g7 gl
      have st4 := st3.trans f4
      have hs4 := st4.far hkl hs
      obtain ⟨c, hc1, hc2, hc3⟩ := pick_spec (S := S4) g4 hs4 g7 (by omega) (by omega)
      have e4 : sExpr (mAppend (mVar 4) (mBin oItem (mComp (iSeq (mVar 7)) (gName 9) (mBin oNotIn (mVar 9) (mVar 4)) (mVar 9) [9]) (mInt 0))) ρd S4 = some (.nx, ρd, setStore S4 S.length (.lst ((ns ++ [c]).map D.str))) := by
        refine expr_is (on_is (var_is g4) hs4 hc3 hs4 (d := .non) ?_)
        unfold fAppend
        rw [if_pos ⟨rfl, by rw [List.length_map]; unfold big; omega⟩, List.map_append]; rfl
      refine ⟨ρa, S1, ρd, _, by rw [← hρa]; rfl, (seq_nx e1).trans ((seq_nx e2).trans ((seq_nx e3).trans e4)), g0, g3, g4, gl, (u.step st4).set (Nat.le_refl _) _, ns ++ [c], ?_, by simp [hl], ?_, fun x hx => ?_⟩
      · unfold setStore
        exact List.getElem?_set_self ((List.getElem?_eq_some_iff.mp hs4).1)
      · rw [List.nodup_append]
        refine ⟨hd, by simp, fun a ha b hb => ?_⟩
        rw [List.mem_singleton] at hb
        subst hb
        intro e
        exact hc2 (e ▸ ha)
      · rcases List.mem_append.mp hx with hx | hx
        · exact hnm x hx
        · rw [List.mem_singleton] at hx
          exact hx ▸ cands_name hsn c hc1
  refine ⟨ns, S'.take S.length, ?_, w6.take, w8, w9, w10⟩
  refine (fn_ret (n := 2) (l := 8) (b := b__law_names) (ds := [.rf k, .int (n : Int)]) (S := S) (d := .rf S.length) (S1 := S') (ρ := ρ') rfl ?_).trans (close_rf w7 (Nat.le_refl _))
  unfold b__law_names
  exact (seq_nx s1).trans ((seq_nx w1).trans (ret_is (var_is w4)))
end K11
set_option Elab.async false
set_option linter.all false
set_option maxRecDepth 100000
namespace K11
open Mi PySem
/-! ### the law's norm, of a list that is changed -/
theorem law_normed_rf {k : Nat} {l : List En} {S : Store} (hk : S[k]? = some (some (.lst (encs l)))) (hb : l.length ≤ big) (hne : l ≠ []) : f__law_normed [.rf k] S = some (.lst (encs (nrm l)), S) := by
  have hs : still (encs l) (some k) S := hk
  have hit : ∀ ρ : Rho, ρ[0]? = some (some (.rf k)) → iSeq (mVar 0) ρ S = some (encs l, some k, S) := fun ρ h => by
    unfold iSeq
    rw [var_is h]
    simp only [Option.bind_some, hk]
  have hl : (encs l).length ≤ big := by simpa [encs] using hb
  have cx : ∀ ρ : Rho, ρ[0]? = some (some (.rf k)) → 3 < ρ.length → mComp (iSeq (mVar 0)) (gName 3) (mBl true) (mBin oItem (mVar 3) (mInt 0)) [3] ρ S = some (.lst ((mapX l).map D.int), S) := fun ρ h h3 => by
    have e : (mapX l).map D.int = (encs l).map fun x => match x with | .tup [.int x, _, _] => D.int x | d => d := by
      unfold encs mapX
      rw [List.map_map, List.map_map]
      exact List.map_congr_left fun e _ => rfl
    rw [e]
    refine comp_mapR _ (hit ρ h) hs hl fun x hx => ?_
    obtain ⟨e, he, rfl⟩ := List.mem_map.mp hx
    exact ⟨_, rfl, bin_is (x := enc e) (y := .int 0) (S1 := S) (var_is (wipe_near h3)) rfl rfl⟩
  have cy : ∀ ρ : Rho, ρ[0]? = some (some (.rf k)) → 3 < ρ.length → mComp (iSeq (mVar 0)) (gName 3) (mBl true) (mBin oItem (mVar 3) (mInt 1)) [3] ρ S = some (.lst ((mapY l).map D.int), S) := fun ρ h h3 => by
    have e : (mapY l).map D.int = (encs l).map fun x => match x with | .tup [_, .int y, _] => D.int y | d => d := by
      unfold encs mapY
      rw [List.map_map, List.map_map]
      exact List.map_congr_left fun e _ => rfl
    rw [e]
    refine comp_mapR _ (hit ρ h) hs hl fun x hx => ?_
    obtain ⟨e, he, rfl⟩ := List.mem_map.mp hx
    exact ⟨_, rfl, bin_is (x := enc e) (y := .int 1) (S1 := S) (var_is (wipe_near h3)) rfl rfl⟩
  refine (fn_ret (n := 1) (l := 3) (b := b__law_normed) (ds := [.rf k]) (d := .lst (encs (nrm l))) (S1 := S) (ρ := [some (.rf k), some (.int (lo (mapX l))), some (.int (lo (mapY l))), none]) rfl ?_).trans (close_same rfl)
  unfold b__law_normed
  refine (seq_nx (ρ1 := [some (.rf k), some (.int (lo (mapX l))), some (.int (lo (mapY l))), none]) (S1 := S) (set_tup (b1 (cx _ rfl (by simp)) (fMin_ints (mapX_ne hne))) (b1 (cy _ rfl (by simp)) (fMin_ints (mapY_ne hne))))).trans ?_
  refine ret_is ?_
  refine b1 (d := .lst (encs (l.map (sh (-lo (mapX l)) (-lo (mapY l)))))) (S1 := S) ?_ (fSorted_encs (by simpa using hb))
  have e : encs (l.map (sh (-lo (mapX l)) (-lo (mapY l)))) = (encs l).map fun x => match x with | .tup [.int x, .int y, n] => D.tup [.int (x - lo (mapX l)), .int (y - lo (mapY l)), n] | d => d := by
    unfold encs
    rw [List.map_map, List.map_map]
    exact List.map_congr_left fun e _ => rfl
  rw [e]
  refine comp_mapR _ (hit _ rfl) hs hl fun x hx => ?_
  obtain ⟨e, _, rfl⟩ := List.mem_map.mp hx
  exact ⟨_, rfl, rfl⟩
structure Shape (l : List En) : Prop where
  two : 2 ≤ l.length
  six : l.length ≤ 6
  nm : ∀ e ∈ l, isName e.n
  bx : ∀ e ∈ l, 0 ≤ e.x ∧ e.x ≤ 3
  by_ : ∀ e ∈ l, 0 ≤ e.y ∧ e.y ≤ 3
  nd : l.Nodup
theorem Shape.ne {l : List En} (h : Shape l) : l ≠ [] := fun e => by have := h.two; rw [e] at this; simp at this
theorem Shape.due {l : List En} (h : Shape l) : Due (nrm l) := by
  obtain ⟨x1, x2⟩ := lo_in (mapX_ne h.ne)
  obtain ⟨y1, y2⟩ := lo_in (mapY_ne h.ne)
  have x3 : 0 ≤ lo (mapX l) := by
    obtain ⟨e, he, e2⟩ := List.mem_map.mp x1
    rw [← e2]; exact (h.bx e he).1
  have y3 : 0 ≤ lo (mapY l) := by
    obtain ⟨e, he, e2⟩ := List.mem_map.mp y1
    rw [← e2]; exact (h.by_ e he).1
  have hp : Pre (l.map (sh (-lo (mapX l)) (-lo (mapY l)))) := {
    two := by rw [List.length_map]; exact h.two
    six := by rw [List.length_map]; exact h.six
    nm := fun e he => by
      obtain ⟨c, hc, rfl⟩ := List.mem_map.mp he
      exact h.nm c hc
    bx := fun e he => by
      obtain ⟨c, hc, rfl⟩ := List.mem_map.mp he
      have h1 := h.bx c hc
      have h2 := x2 c.x (List.mem_map.mpr ⟨c, hc, rfl⟩)
      show 0 ≤ c.x + -lo (mapX l) ∧ c.x + -lo (mapX l) ≤ 3
      omega
    by_ := fun e he => by
      obtain ⟨c, hc, rfl⟩ := List.mem_map.mp he
      have h1 := h.by_ c hc
      have h2 := y2 c.y (List.mem_map.mpr ⟨c, hc, rfl⟩)
      show 0 ≤ c.y + -lo (mapY l) ∧ c.y + -lo (mapY l) ≤ 3
      omega
    nd := nodup_map (sh_inj _ _) h.nd
    lx := by rw [mapX_sh, lo_add (mapX_ne h.ne)]; omega
    ly := by rw [mapY_sh, lo_add (mapY_ne h.ne)]; omega }
  exact hp.due
/-- which places are there -/
structure Fill (a b N : Nat) (i j : Nat) (F : List En) : Prop where
  nm : ∀ e ∈ F, isName e.n
  px : ∀ e ∈ F, 0 ≤ e.x ∧ (e.x < (i : Int) ∨ e.x = (i : Int) ∧ e.y < (j : Int))
  py : ∀ e ∈ F, 0 ≤ e.y ∧ e.y ≤ (b : Int)
  nd : F.Nodup
  len : F.length = i * ((b + 1) * N) + j * N
theorem Fill.next {a b N i : Nat} {F : List En} (h : Fill a b N i (b + 1) F) : Fill a b N (i + 1) 0 F where
  nm := h.nm
  px := fun e he => by
    have h1 := h.px e he
    have h2 := h.py e he
    refine ⟨h1.1, Or.inl ?_⟩
    omega
  py := h.py
  nd := h.nd
  len := by rw [h.len, Nat.succ_mul i, Nat.zero_mul]; rfl
theorem Fill.more {a b i j : Nat} {F : List En} {ns : List (List Nat)} (h : Fill a b ns.length i j F) (hj : j ≤ b) (hn : ns.Nodup) (hm : ∀ s ∈ ns, isName s) : Fill a b ns.length i (j + 1) (F ++ ns.map fun n => ⟨(i : Int), (j : Int), n⟩) where
  nm := fun e he => by
    rcases List.mem_append.mp he with he | he
    · exact h.nm e he
    · obtain ⟨n, hn, rfl⟩ := List.mem_map.mp he
      exact hm n hn
  px := fun e he => by
    rcases List.mem_append.mp he with he | he
    · have := h.px e he
      omega
    · obtain ⟨n, hn, rfl⟩ := List.mem_map.mp he
      show 0 ≤ (i : Int) ∧ ((i : Int) < (i : Int) ∨ (i : Int) = (i : Int) ∧ (j : Int) < ((j + 1 : Nat) : Int))
      omega
  py := fun e he => by
    rcases List.mem_append.mp he with he | he
    · exact h.py e he
    · obtain ⟨n, hn, rfl⟩ := List.mem_map.mp he
      show 0 ≤ (j : Int) ∧ (j : Int) ≤ (b : Int)
      omega
  nd := by
    rw [List.nodup_append]
    refine ⟨h.nd, nodup_map (fun a b e => by simpa using e) hn, fun x hx y hy e => ?_⟩
    obtain ⟨n, hn, rfl⟩ := List.mem_map.mp hy
    have := h.px x hx
    rw [e] at this
    simp only at this
    omega
  len := by rw [List.length_append, h.len, List.length_map, Nat.succ_mul j, Nat.add_assoc]
theorem extend_turn {ρ : Rho} {i L : Nat} {S : Store} {F : List En} {ns : List (List Nat)} {x y : Nat} (h1 : ρ[1]? = some (some (.lst (ns.map D.str)))) (h2 : ρ[2]? = some (some (.int (x : Int)))) (h8 : ρ[8]? = some (some (.int (y : Int)))) (h7 : ρ[7]? = some (some (.rf L))) (h9 : 9 < ρ.length)
    (hs : S[L]? = some (some (.lst (encs F)))) (hb : F.length ≤ 10000) (hn : ns.length ≤ 10) :
    sExpr (mExtend (mVar 7) (mComp (iSeq (mVar 1)) (gName 9) (mBl true) (mTup [(mVar 2), (mVar 8), (mVar 9)]) [9])) ρ S = some (.nx, ρ, setStore S L (.lst (encs (F ++ ns.map fun n => ⟨(x : Int), (y : Int), n⟩)))) := by
  have c : mComp (iSeq (mVar 1)) (gName 9) (mBl true) (mTup [(mVar 2), (mVar 8), (mVar 9)]) [9] ρ S = some (.lst (encs (ns.map fun n => ⟨(x : Int), (y : Int), n⟩)), S) := by
    have e : encs (ns.map fun n => (⟨(x : Int), (y : Int), n⟩ : En)) = (ns.map D.str).map fun z => D.tup [.int (x : Int), .int (y : Int), z] := by
      unfold encs
      rw [List.map_map, List.map_map]
      exact List.map_congr_left fun e _ => rfl
    rw [e]
    refine comp_mapA _ (xs := ns.map D.str) (S := S) (iseq_sq (.inl rfl) (var_is h1)) (by rw [List.length_map]; unfold big; omega) fun z hz => ?_
    exact ⟨_, rfl, tup_is (eL (var_is (wipe_far (by decide) h2)) (eL (var_is (wipe_far (by decide) h8)) (eL (var_is (wipe_near h9)) eN)))⟩
  refine expr_is (on_is (var_is h7) hs c hs (d := .non) ?_)
  unfold fExtend
  simp only [top]
  rw [if_pos ⟨pure_encs _, by simp [encs]; unfold big; omega⟩, encs_app]
end K11
set_option Elab.async false
set_option linter.all false
set_option maxRecDepth 100000
namespace K11
open Mi PySem
theorem among_nat {xs : List Nat} {S : Store} {k : Nat} (h : Pot S k) (hn : xs ≠ []) (hn2 : xs.length ≤ 1000) : ∃ (q : Nat) (S' : Store), f__law_among [.rf k, .lst (xs.map fun n : Nat => D.int (n : Int))] S = some (.int (q : Int), S') ∧ q ∈ xs ∧ Step k S S' := by
  obtain ⟨d, S', h1, h2, h3⟩ := among_spec (xs := xs.map fun n : Nat => D.int (n : Int)) h (by simpa using hn) (by simpa using hn2)
  obtain ⟨q, hq, rfl⟩ := List.mem_map.mp h2
  exact ⟨q, S', h1, hq, h3⟩
theorem fill_bound {a b N i j : Nat} (ha : a ≤ 3) (hb : b ≤ 3) (hN : N ≤ 10) (hi : i ≤ a + 1) (hj : j ≤ b + 1) : i * ((b + 1) * N) + j * N ≤ 200 := by
  have h1 : (b + 1) * N ≤ 4 * 10 := Nat.mul_le_mul (by omega) hN
  have h2 : i * ((b + 1) * N) ≤ 4 * (4 * 10) := Nat.mul_le_mul (by omega) h1
  have h3 : j * N ≤ 4 * 10 := Nat.mul_le_mul (by omega) hN
  omega
theorem fill_two {a b N : Nat} (hN : 1 ≤ N) (h : ¬ (a = 0 ∧ b = 0 ∧ N = 1)) : 2 ≤ (a + 1) * ((b + 1) * N) := by
  by_cases ha : a = 0
  · by_cases hb : b = 0
    · subst ha hb
      have : N ≠ 1 := fun e => h ⟨rfl, rfl, e⟩
      omega
    · have h1 : 2 * 1 ≤ (b + 1) * N := Nat.mul_le_mul (by omega) hN
      have h2 : 1 * 2 ≤ (a + 1) * ((b + 1) * N) := Nat.mul_le_mul (by omega) (by omega)
      omega
  · have h1 : 1 * 1 ≤ (b + 1) * N := Nat.mul_le_mul (by omega) hN
    have h2 : 2 * 1 ≤ (a + 1) * ((b + 1) * N) := Nat.mul_le_mul (by omega) (by omega)
    omega
/-- the row of places -/
theorem fill_row {k L a b i : Nat} {T : Store} {ns : List (List Nat)} (hL : T.length = L) (ha : a ≤ 3) (hb : b ≤ 3) (hN : ns.length ≤ 10) (hd : ns.Nodup) (hm : ∀ s ∈ ns, isName s) (hi : i ≤ a) {ρ : Rho} {S : Store} (u : Up k T S) (sl : S.length = L + 1) {F : List En}
    (r0 : ρ[0]? = some (some (.rf k))) (r1 : ρ[1]? = some (some (.lst (ns.map D.str)))) (r2 : ρ[2]? = some (some (.int (i : Int)))) (r5 : ρ[5]? = some (some (.int (a : Int)))) (r6 : ρ[6]? = some (some (.int (b : Int)))) (r7 : ρ[7]? = some (some (.rf L))) (rl : ρ.length = 10)
    (hs : S[L]? = some (some (.lst (encs F)))) (hf : Fill a b ns.length i 0 F) :
    ∃ (ρ' : Rho) (S' : Store) (F' : List En), sFor (iRange1 (mBin oAdd (mVar 6) (mInt 1))) (gName 8) (sExpr (mExtend (mVar 7) (mComp (iSeq (mVar 1)) (gName 9) (mBl true) (mTup [(mVar 2), (mVar 8), (mVar 9)]) [9]))) ρ S = some (.nx, ρ', S') ∧ Up k T S' ∧ S'.length = L + 1 ∧
      ρ'[0]? = some (some (.rf k)) ∧ ρ'[1]? = some (some (.lst (ns.map D.str))) ∧ ρ'[5]? = some (some (.int (a : Int))) ∧ ρ'[6]? = some (some (.int (b : Int))) ∧ ρ'[7]? = some (some (.rf L)) ∧ ρ'.length = 10 ∧ S'[L]? = some (some (.lst (encs F'))) ∧ Fill a b ns.length (i + 1) 0 F' := by
  have hit : iRange1 (mBin oAdd (mVar 6) (mInt 1)) ρ S = some (intL 0 (b + 1), none, S) := by
    refine range_is (bin_is (x := .int (b : Int)) (y := .int 1) (S1 := S) (var_is r6) rfl ?_) (by unfold big; omega)
    show some (D.int ((b : Int) + 1)) = _
    rw [Int.natCast_add]; rfl
  obtain ⟨ρ', S', w1, w2, w3, w4, w5, w6, w7, w8, w9, F', wa, wb⟩ := for_range (it := iRange1 (mBin oAdd (mVar 6) (mInt 1))) (g := gName 8) (body := sExpr (mExtend (mVar 7) (mComp (iSeq (mVar 1)) (gName 9) (mBl true) (mTup [(mVar 2), (mVar 8), (mVar 9)]) [9]))) (ρ := ρ) (S := S) (S0 := S) (n := b + 1)
    (fun j ρ S => Up k T S ∧ S.length = L + 1 ∧ ρ[0]? = some (some (.rf k)) ∧ ρ[1]? = some (some (.lst (ns.map D.str))) ∧ (ρ[2]? = some (some (.int (i : Int))) ∧ ρ[5]? = some (some (.int (a : Int)))) ∧ ρ[6]? = some (some (.int (b : Int))) ∧ ρ[7]? = some (some (.rf L)) ∧ ρ.length = 10 ∧ ∃ F, S[L]? = some (some (.lst (encs F))) ∧ Fill a b ns.length i j F)
    hit ⟨u, sl, r0, r1, ⟨r2, r5⟩, r6, r7, rl, F, hs, hf⟩ fun j ρ S hj hI => by
      obtain ⟨u, sl, r0, r1, ⟨r2, r5⟩, r6, r7, rl, F, hs, hf⟩ := hI
      have hb' := fill_bound (N := ns.length) (i := i) (j := j) ha hb hN (by omega) (by omega)
      have t := extend_turn (ρ := ρ.set 8 (some (.int (j : Int)))) (x := i) (y := j) (i := i) (set_far (by decide) r1) (set_far (by decide) r2) (List.getElem?_set_self (by omega)) (set_far (by decide) r7) (by rw [List.length_set]; omega) hs (by rw [hf.len]; omega) hN
      refine ⟨_, S, _, _, rfl, t, u.set (by omega) _, by unfold setStore; rw [List.length_set]; exact sl, set_far (by decide) r0, set_far (by decide) r1, ⟨set_far (by decide) r2, set_far (by decide) r5⟩, set_far (by decide) r6, set_far (by decide) r7, by rw [List.length_set]; exact rl, _, ?_, hf.more (by omega) hd hm⟩
      unfold setStore
      exact List.getElem?_set_self (by omega)
  exact ⟨ρ', S', F', w1, w2, w3, w4, w5, w6.2, w7, w8, w9, wa, wb.next⟩
theorem entries_made {k : Nat} {ns : List (List Nat)} {S : Store} (hp : Pot S k) (hN1 : 1 ≤ ns.length) (hN : ns.length ≤ 10) (hd : ns.Nodup) (hm : ∀ s ∈ ns, isName s) : ∃ (m : List En) (S' : Store), f__law_entries [.rf k, .lst (ns.map D.str)] S = some (.lst (encs m), S') ∧ Due m ∧ Step k S S' := by
  obtain ⟨a, S1, a1, a2, a3⟩ := draw_nat (n := 4) hp (by decide) (by decide)
  obtain ⟨b, S2, b1', b2', b3⟩ := draw_nat (n := 4) a3.pot (by decide) (by decide)
  have st2 := a3.trans b3
  have hL := st2.len
  have s1 : sSet (gTup [gName 5, gName 6, gName 7]) (mTup [mCall f__law_draw [mVar 0, mInt 4], mCall f__law_draw [mVar 0, mInt 4], mLstM []]) [some (.rf k), some (.lst (ns.map D.str)), none, none, none, none, none, none, none, none] S = some (.nx, [some (.rf k), some (.lst (ns.map D.str)), none, none, none, some (.int (a : Int)), some (.int (b : Int)), some (.rf S.length), none, none], S2 ++ [some (.lst [])]) := by
    rw [← hL]
    exact set_tup3 (call_is (eL rfl (eL rfl eN)) a1) (call_is (eL rfl (eL rfl eN)) b1') (lstM_is eN rfl)
  have u2 : Up k S (S2 ++ [some (.lst [])]) := ((Up.refl hp).step st2).push _
  have l2 : (S2 ++ [some (D.lst [])]).length = S.length + 1 := by rw [List.length_append, hL]; rfl
  have f2 : (S2 ++ [some (D.lst [])])[S.length]? = some (some (.lst (encs []))) := by rw [← hL]; exact store_last
  generalize S2 ++ [some (D.lst [])] = S3 at s1 u2 l2 f2
  obtain ⟨a', ha', s2, htwo⟩ : ∃ a' : Nat, a' ≤ 3 ∧ sIf (mAnd (mBin oEq (mVar 5) (mInt 0)) (mAnd (mBin oEq (mVar 6) (mInt 0)) (mBin oEq (mB fLen [(mVar 1)]) (mInt 1)))) (sSet (gName 5) (mInt 1)) sPass [some (.rf k), some (.lst (ns.map D.str)), none, none, none, some (.int (a : Int)), some (.int (b : Int)), some (.rf S.length), none, none] S3 = some (.nx, [some (.rf k), some (.lst (ns.map D.str)), none, none, none, some (.int (a' : Int)), some (.int (b : Int)), some (.rf S.length), none, none], S3) ∧ ¬ (a' = 0 ∧ b = 0 ∧ ns.length = 1) := by
    have q1 : mBin oEq (mVar 5) (mInt 0) [some (.rf k), some (.lst (ns.map D.str)), none, none, none, some (.int (a : Int)), some (.int (b : Int)), some (.rf S.length), none, none] S3 = some (.bl (decide (a = 0)), S3) := by
      refine bin_is (x := .int (a : Int)) (y := .int 0) (S1 := S3) rfl rfl ?_
      simp [oEq, dataD, eqD, top]
      by_cases h : a = 0 <;> simp [h]
    have q2 : mBin oEq (mVar 6) (mInt 0) [some (.rf k), some (.lst (ns.map D.str)), none, none, none, some (.int (a : Int)), some (.int (b : Int)), some (.rf S.length), none, none] S3 = some (.bl (decide (b = 0)), S3) := by
      refine bin_is (x := .int (b : Int)) (y := .int 0) (S1 := S3) rfl rfl ?_
      simp [oEq, dataD, eqD, top]
      by_cases h : b = 0 <;> simp [h]
    have q3 : mBin oEq (mB fLen [(mVar 1)]) (mInt 1) [some (.rf k), some (.lst (ns.map D.str)), none, none, none, some (.int (a : Int)), some (.int (b : Int)), some (.rf S.length), none, none] S3 = some (.bl (decide (ns.length = 1)), S3) := by
      refine bin_is (x := .int (ns.length : Int)) (y := .int 1) (S1 := S3) (b1 (d := .lst (ns.map D.str)) rfl (by simp [top, fLen, fLen0])) rfl ?_
      simp [oEq, dataD, eqD, top]
      by_cases h : ns.length = 1
      · simp [h]
      · have : ¬ (ns.length : Int) = 1 := by omega
        simp [h, this]
    by_cases h : a = 0
    · by_cases h2 : b = 0
      · by_cases h3 : ns.length = 1
        · refine ⟨1, by decide, (if_t ((and_t (q1.trans (by simp [h]))).trans ((and_t (q2.trans (by simp [h2]))).trans (q3.trans (by simp [h3]))))).trans rfl, fun e => absurd e.1 (by decide)⟩
        · exact ⟨a, by omega, (if_f ((and_t (q1.trans (by simp [h]))).trans ((and_t (q2.trans (by simp [h2]))).trans (q3.trans (by simp [h3]))))).trans rfl, fun e => h3 e.2.2⟩
      · exact ⟨a, by omega, (if_f ((and_t (q1.trans (by simp [h]))).trans (and_f (q2.trans (by simp [h2]))))).trans rfl, fun e => h2 e.2.1⟩
    · exact ⟨a, by omega, (if_f (and_f (q1.trans (by simp [h])))).trans rfl, fun e => h e.1⟩
  have hit : iRange1 (mBin oAdd (mVar 5) (mInt 1)) [some (.rf k), some (.lst (ns.map D.str)), none, none, none, some (.int (a' : Int)), some (.int (b : Int)), some (.rf S.length), none, none] S3 = some (intL 0 (a' + 1), none, S3) := by
    refine range_is (bin_is (x := .int (a' : Int)) (y := .int 1) (S1 := S3) rfl rfl ?_) (by unfold big; omega)
    show some (D.int ((a' : Int) + 1)) = _
    rw [Int.natCast_add]; rfl
  obtain ⟨ρ4, S4, w1, w2, w3, w4, w5, w6, w7, w8, w9, F, wa, wb⟩ := for_range (it := iRange1 (mBin oAdd (mVar 5) (mInt 1))) (g := gName 2) (body := (sFor (iRange1 (mBin oAdd (mVar 6) (mInt 1))) (gName 8) (sExpr (mExtend (mVar 7) (mComp (iSeq (mVar 1)) (gName 9) (mBl true) (mTup [(mVar 2), (mVar 8), (mVar 9)]) [9]))))) (ρ := [some (.rf k), some (.lst (ns.map D.str)), none, none, none, some (.int (a' : Int)), some (.int (b : Int)), some (.rf S.length), none, none]) (S := S3) (S0 := S3) (n := a' + 1)
    (fun i ρ S' => Up k S S' ∧ S'.length = S.length + 1 ∧ ρ[0]? = some (some (.rf k)) ∧ ρ[1]? = some (some (.lst (ns.map D.str))) ∧ ρ[5]? = some (some (.int (a' : Int))) ∧ ρ[6]? = some (some (.int (b : Int))) ∧ ρ[7]? = some (some (.rf S.length)) ∧ ρ.length = 10 ∧ ∃ F, S'[S.length]? = some (some (.lst (encs F))) ∧ Fill a' b ns.length i 0 F)
    hit ⟨u2, l2, rfl, rfl, rfl, rfl, rfl, rfl, [], f2, ⟨fun e he => (nomatch he), fun e he => (nomatch he), fun e he => (nomatch he), List.nodup_nil, by simp⟩⟩ fun i ρ S' hi hI => by
      obtain ⟨u, sl, r0, r1, r5, r6, r7, rl, F, hs, hf⟩ := hI
      obtain ⟨ρ', S'', F', x1, x2, x3, x4, x5, x6, x7, x8, x9, xa, xb⟩ := fill_row (ρ := ρ.set 2 (some (.int (i : Int)))) rfl ha' (by omega) hN hd hm (by omega) u sl (set_far (by decide) r0) (set_far (by decide) r1) (List.getElem?_set_self (by omega)) (set_far (by decide) r5) (set_far (by decide) r6) (set_far (by decide) r7) (by rw [List.length_set]; exact rl) hs hf
      exact ⟨_, S', ρ', S'', rfl, x1, x2, x3, x4, x5, x6, x7, x8, x9, F', xa, xb⟩
  have flen : 2 ≤ F.length ∧ F.length ≤ 200 := by
    have h1 := fill_two hN1 htwo
    have h2 := fill_bound (N := ns.length) (a := a') (b := b) (i := a' + 1) (j := 0) ha' (by omega) hN (by omega) (by omega)
    have := wb.len
    omega
  have s4 : sSet (gName 3) (mLstM []) ρ4 S4 = some (.nx, ρ4.set 3 (some (.rf (S.length + 1))), S4 ++ [some (.lst [])]) := by
    rw [← w3]; exact set_name (lstM_is eN rfl)
  have y0 := set_far (x := .rf (S.length + 1)) (i := 3) (by decide) w4
  have y7 := set_far (x := .rf (S.length + 1)) (i := 3) (by decide) w8
  have y3 : (ρ4.set 3 (some (.rf (S.length + 1))))[3]? = some (some (.rf (S.length + 1))) := List.getElem?_set_self (by omega)
  generalize ρ4.set 3 (some (D.rf (S.length + 1))) = ρ5 at s4 y0 y7 y3
  have u5 : Up k S (S4 ++ [some (.lst [])]) := w2.push _
  have g5 : (S4 ++ [some (D.lst [])])[S.length]? = some (some (.lst (encs F))) := by
    rw [List.getElem?_append_left (by omega)]; exact wa
  have h5 : (S4 ++ [some (D.lst [])])[S.length + 1]? = some (some (.lst (encs []))) := by rw [← w3]; exact store_last
  generalize S4 ++ [some (D.lst [])] = S5 at s4 u5 g5 h5
  obtain ⟨q, S6, c1, c2, c3⟩ := among_nat (xs := [2, 2, 3, 3, 4, 5, 6]) u5.pot (by simp) (by simp)
  have hq : 2 ≤ q ∧ q ≤ 6 := by
    simp only [List.mem_cons, List.not_mem_nil, or_false] at c2
    omega
  have kn := hp.lt
  have g6 := c3.far (i := S.length) (by omega) g5
  have h6 := c3.far (i := S.length + 1) (by omega) h5
  have hit6 : iRange1 (mB fMin [(mB fLen [(mVar 7)]), (mCall f__law_among [(mVar 0), (mLst [(mInt 2), (mInt 2), (mInt 3), (mInt 3), (mInt 4), (mInt 5), (mInt 6)])])]) ρ5 S5 = some (intL 0 (min F.length q), none, S6) := by
    refine range_is (b2 (d := .int (F.length : Int)) (e := .int (q : Int)) (S1 := S5) ?_ (call_is (eL (var_is y0) (eL (lst_is (eL rfl (eL rfl (eL rfl (eL rfl (eL rfl (eL rfl (eL rfl eN)))))))) eN)) c1) ?_) (by unfold big; omega)
    · refine b1 (var_is y7) ?_
      simp [top, g5, fLen, fLen0, encs]
    · show some (D.int (if (q : Int) < (F.length : Int) then (q : Int) else (F.length : Int))) = _
      have : (if (q : Int) < (F.length : Int) then (q : Int) else (F.length : Int)) = ((min F.length q : Nat) : Int) := by split <;> omega
      rw [this]
  obtain ⟨ρ7, S7, G, R, z1, z2, z3, z4, z5, z6⟩ := pop_loop (a := 3) (b := 7) (c := 4) (k := k) (i := S.length + 1) (j := S.length) (T := S) (F := F) hit6 (u5.step c3) y0 y3 y7 (by omega) (by omega) (by omega) (by decide) (by decide) (by decide) h6 g6 (by omega) (by omega)
  have hsub : ∀ e ∈ G, e ∈ F := fun e he => z5.mem_iff.mp (List.mem_append_left _ he)
  have hG : Shape G := {
    two := by omega
    six := by omega
    nm := fun e he => wb.nm e (hsub e he)
    bx := fun e he => by
      have := wb.px e (hsub e he)
      have := wb.py e (hsub e he)
      have hc : ((a' + 1 : Nat) : Int) = (a' : Int) + 1 := by rw [Int.natCast_add]; rfl
      omega
    by_ := fun e he => by
      have := wb.py e (hsub e he)
      omega
    nd := (List.nodup_append.mp (z5.nodup_iff.mpr wb.nd)).1 }
  refine ⟨nrm G, S7.take S.length, ?_, hG.due, z3.take⟩
  refine (fn_ret (n := 2) (l := 8) (b := b__law_entries) (ds := [.rf k, .lst (ns.map D.str)]) (S := S) (d := .lst (encs (nrm G))) (S1 := S7) (ρ := ρ7) rfl ?_).trans (close_pure (pure_encs _))
  unfold b__law_entries
  refine (seq_nx s1).trans ((seq_nx s2).trans ((seq_nx w1).trans ((seq_nx s4).trans ((seq_nx z1).trans (ret_is ?_)))))
  exact call_is (eL (var_is ((z2 3 (by decide)).trans y3)) eN) (law_normed_rf z4 (by unfold big; omega) hG.ne)
end K11
set_option Elab.async false
set_option linter.all false
set_option maxRecDepth 100000
namespace K11
open Mi PySem
def plainD : D → Bool
  | .rf _ => false
  | .obj _ _ => false
  | _ => true
theorem eqX_plain {m : List En} {y : D} {S : Store} (hy : plainD y = true) : eqX false [("Kind", f_Kind___eq__)] (kind m) y S = some (.bl false, S) := by
  have hk : ∀ k, kind k = .obj "Kind" [("own_entries", .tup (encs k)), ("own_reach", .tup [.int (hi (mapX k)), .int (hi (mapY k))])] := fun _ => rfl
  have e : f_Kind___eq__ [kind m, y] S = some (.bl false, S) := eq_other (by cases y <;> first | rfl | exact absurd hy (by simp [plainD]))
  rw [hk] at e ⊢
  cases y <;> first
    | (simp [eqX, eqO, top, List.lookup, e]; done)
    | exact absurd hy (by simp [plainD])
theorem reprK_is {m : List En} (h : Small m) {o : M} {ρ : Rho} {S S1 : Store} (ho : o ρ S = some (kind m, S1)) : mOne (reprX [("Kind", f_Kind___repr__)]) o ρ S = some (.str (kt m), S1) := by
  have e := repr_spec h (told_len h) S1
  have hk : kind m = .obj "Kind" [("own_entries", .tup (encs m)), ("own_reach", .tup [.int (hi (mapX m)), .int (hi (mapY m))])] := rfl
  unfold mOne
  rw [ho]
  rw [hk] at e ⊢
  simp [reprX, reprO, top, List.lookup, e]
theorem clear_is {o : M} {ρ : Rho} {S S1 : Store} {k : Nat} {xs : List D} (h : o ρ S = some (.rf k, S1)) (h1 : S1[k]? = some (some (.lst xs))) : mClear o ρ S = some (.non, setStore S1 k (.lst [])) := by
  unfold mClear
  rw [h]
  simp only [Option.bind_some, h1]
/-- the row of questions of one kind -/
theorem ask_one {m : List En} (h : Due m) {k : Nat} {S : Store} (hp : Pot S k) {ρ : Rho} (r0 : ρ[0]? = some (some (.rf k))) (r4 : ρ[4]? = some (some (kind m))) (r5 : ρ[5]? = some (some (.lst (encs m)))) :
    ∃ S', sIf (mOr (mNot (mCall f__law_told_right [(mVar 4), (mVar 5)])) (mOr (mNot (mCall f__law_told_right [(mVar 4), (mVar 5)])) (mNot (mCall f__law_among_right [(mVar 0), (mVar 4), (mVar 5)])))) (sRet (mBl false)) sPass ρ S = some (.nx, ρ, S') ∧ Step k S S' := by
  obtain ⟨S', h1, h2⟩ := among_right h hp
  have t := told_right h.small h.ne S
  have n1 := not_is (call_is (φ := f__law_told_right) (eL (var_is (S := S) r4) (eL (var_is r5) eN)) t)
  have n2 := not_is (call_is (φ := f__law_among_right) (eL (var_is (S := S) r0) (eL (var_is r4) (eL (var_is r5) eN))) h1)
  exact ⟨S', (if_f ((or_f n1).trans ((or_f n1).trans n2))).trans rfl, h2⟩
theorem law_right_spec {k : Nat} {S : Store} (hp : Pot S k) : ∃ S', f__law_right [.rf k] S = some (.bl true, S') := by
  obtain ⟨r, S1, d1, d2, d3⟩ := draw_nat (n := 10) hp (by decide) (by decide)
  obtain ⟨ns, S2, e1, e2, e3, e4, e5⟩ := names_made (k := k) (n := 1 + r) (by omega) d3.pot
  obtain ⟨m, S3, f1, f2, f3⟩ := entries_made (ns := ns) e2.pot (by omega) (by omega) e4 e5
  obtain ⟨m2, S4, g1, g2, g3⟩ := entries_made (ns := ns) f3.pot (by omega) (by omega) e4 e5
  obtain ⟨l, S5, i1, i2, i3⟩ := passedK_spec f2.six g3.pot
  have st5 := (((d3.trans e2).trans f3).trans g3).trans i3
  have gl := passed_good f2 i2
  have nl := passed_nrm f2 i2
  have u6 : Up k S (S5 ++ [some (.lst (encs l))]) := ((Up.refl hp).step st5).push _
  have at6 : (S5 ++ [some (D.lst (encs l))])[S5.length]? = some (some (.lst (encs l))) := store_last
  have kl := hp.lt
  have L5 := st5.len
  generalize S5.length = L at *
  generalize S5 ++ [some (D.lst (encs l))] = S6 at *
  have k7 : f__law_kind [.rf L] S6 = some (kind m, S6) := by
    have := law_kind_spec (d := .rf L) (l := l) (S := S6) (by simp [top, at6]) gl
    rw [nl] at this; exact this
  have k8 : f_Kind_of [.rf L] S6 = some (kind m, S6) := by
    have := of_rf at6 gl
    rw [nl] at this; exact this
  obtain ⟨l2, S7, j1, j2, j3⟩ := passed_spec f2.six u6.pot
  obtain ⟨l3, S8, o1, o2, o3⟩ := passed_spec g2.six j3.pot
  have k9 : f_Kind_ofWentries [.tup (encs l2)] S7 = some (kind m, S7) := by
    have := ofW_spec (d := .tup (encs l2)) (l := l2) (.inr rfl) (passed_good f2 j2) S7
    rw [passed_nrm f2 j2] at this; exact this
  have k10 : f__law_kind [.lst (encs l3)] S8 = some (kind m2, S8) := by
    have := law_kind_spec (d := .lst (encs l3)) (l := l3) (S := S8) rfl (passed_good g2 o2)
    rw [passed_nrm g2 o2] at this; exact this
  have u8 := (u6.step j3).step o3
  have at8 := o3.far (by omega) (j3.far (by omega) at6)
  have l8 : L < S8.length := (List.getElem?_eq_some_iff.mp at8).1
  have mb : m.length ≤ 4000 := by have := f2.six; omega
  have ek := entriesK_spec m S8
  have nk := namesK_spec mb (S8 ++ [some (.lst (encs m))])
  have u9 : Up k S (S8 ++ [some (.lst (encs m))] ++ [some (.lst ((names m).map D.str))]) := (u8.push _).push _
  have ln9 : (S8 ++ [some (D.lst (encs m))]).length = S8.length + 1 := by rw [List.length_append]; rfl
  rw [ln9] at nk
  have a9 : (S8 ++ [some (D.lst (encs m))] ++ [some (D.lst ((names m).map D.str))])[S8.length]? = some (some (.lst (encs m))) := by
    rw [List.append_assoc, List.getElem?_append_right (Nat.le_refl _)]; simp
  have b9 : (S8 ++ [some (D.lst (encs m))] ++ [some (D.lst ((names m).map D.str))])[S8.length + 1]? = some (some (.lst ((names m).map D.str))) := by
    rw [← ln9]; exact store_last
  have c9 : (S8 ++ [some (D.lst (encs m))] ++ [some (D.lst ((names m).map D.str))])[L]? = some (some (.lst (encs l))) := by
    rw [List.getElem?_append_left (by omega), List.getElem?_append_left l8]; exact at8
  generalize S8 ++ [some (D.lst (encs m))] ++ [some (D.lst ((names m).map D.str))] = S9 at *
  have b10 := last_set (d := .lst (encs m ++ [.tup [.int 0, .int 0, .str [122, 122]]])) (i := S8.length) (by omega) b9
  have c10 := last_set (d := .lst (encs m ++ [.tup [.int 0, .int 0, .str [122, 122]]])) (i := S8.length) (by omega) c9
  have u10 := u9.set (i := S8.length) (by have := u8.len; omega) (.lst (encs m ++ [.tup [.int 0, .int 0, .str [122, 122]]]))
  have w10 : onLst (mBin oItem (mVar 3) (mInt 0)) (mTup [(mInt 0), (mInt 0), (mStr [122, 122])]) fAppend [some (.rf k), some (.lst (ns.map D.str)), some (.rf L), some (.lst [.rf S8.length, .rf (S8.length + 1)]), none, some (.lst (encs m)), some (.lst (encs m2)), some (kind m), some (kind m), some (kind m), some (kind m2), none] S9 = some (.non, setStore S9 S8.length (.lst (encs m ++ [.tup [.int 0, .int 0, .str [122, 122]]]))) := by
    refine on_is (k := S8.length) (bin_is (x := .lst [.rf S8.length, .rf (S8.length + 1)]) (y := .int 0) (S1 := S9) (var_is rfl) rfl rfl) a9 (tup_is (eL rfl (eL rfl (eL rfl eN)))) a9 ?_
    unfold fAppend
    rw [if_pos ⟨rfl, by have := f2.six; simp [encs]; unfold big; omega⟩]
  generalize setStore S9 S8.length (D.lst (encs m ++ [.tup [.int 0, .int 0, .str [122, 122]]])) = S10 at *
  have c11 := last_set (d := .lst []) (i := S8.length + 1) (by omega) c10
  have u11 := u10.set (i := S8.length + 1) (by have := u8.len; omega) (.lst [])
  have w11 : mClear (mBin oItem (mVar 3) (mInt 1)) [some (.rf k), some (.lst (ns.map D.str)), some (.rf L), some (.lst [.rf S8.length, .rf (S8.length + 1)]), none, some (.lst (encs m)), some (.lst (encs m2)), some (kind m), some (kind m), some (kind m), some (kind m2), none] S10 = some (.non, setStore S10 (S8.length + 1) (.lst [])) :=
    clear_is (bin_is (x := .lst [.rf S8.length, .rf (S8.length + 1)]) (y := .int 1) (S1 := S10) (var_is rfl) rfl rfl) b10
  generalize setStore S10 (S8.length + 1) (D.lst []) = S11 at *
  have u12 := u11.set (i := L) (by omega) (.lst [])
  have w12 : mClear (mVar 2) [some (.rf k), some (.lst (ns.map D.str)), some (.rf L), some (.lst [.rf S8.length, .rf (S8.length + 1)]), none, some (.lst (encs m)), some (.lst (encs m2)), some (kind m), some (kind m), some (kind m), some (kind m2), none] S11 = some (.non, setStore S11 L (.lst [])) := clear_is (var_is rfl) c11
  generalize setStore S11 L (D.lst []) = S12 at *
  obtain ⟨ρ', S', v1, v2, v3, v4, v5, v6, v7, v8, v9, va, vb⟩ := for_inv (it := iSeq (mLst [(mVar 7), (mVar 8), (mVar 9)])) (g := gName 4) (body := sIf (mOr (mNot (mCall f__law_told_right [(mVar 4), (mVar 5)])) (mOr (mNot (mCall f__law_told_right [(mVar 4), (mVar 5)])) (mNot (mCall f__law_among_right [(mVar 0), (mVar 4), (mVar 5)])))) (sRet (mBl false)) sPass)
    (ρ := [some (.rf k), some (.lst (ns.map D.str)), some (.rf L), some (.lst [.rf S8.length, .rf (S8.length + 1)]), none, some (.lst (encs m)), some (.lst (encs m2)), some (kind m), some (kind m), some (kind m), some (kind m2), none]) (S := S12) (S0 := S12) (xs := [kind m, kind m, kind m])
    (fun _ ρ S' => Up k S S' ∧ ρ[0]? = some (some (.rf k)) ∧ ρ[5]? = some (some (.lst (encs m))) ∧ ρ[6]? = some (some (.lst (encs m2))) ∧ ρ[7]? = some (some (kind m)) ∧ ρ[8]? = some (some (kind m)) ∧ ρ[9]? = some (some (kind m)) ∧ ρ[10]? = some (some (kind m2)) ∧ ρ.length = 12 ∧ True)
    (iseq_sq (.inl rfl) (lst_is (eL (var_is rfl) (eL (var_is rfl) (eL (var_is rfl) eN))))) ⟨u12, rfl, rfl, rfl, rfl, rfl, rfl, rfl, rfl, True.intro⟩ fun x xs' ρ S' hx hI => by
      obtain ⟨u, r0, r5, r6, r7, r8, r9, ra, rl, _⟩ := hI
      have hxk : x = kind m := by
        simp only [List.mem_cons, List.not_mem_nil, or_false, or_self] at hx
        exact hx
      subst hxk
      obtain ⟨S'', q1, q2⟩ := ask_one (ρ := ρ.set 4 (some (kind m))) f2 u.pot (set_far (by decide) r0) (List.getElem?_set_self (by omega)) (set_far (by decide) r5)
      exact ⟨_, S', _, S'', rfl, q1, u.step q2, set_far (by decide) r0, set_far (by decide) r5, set_far (by decide) r6, set_far (by decide) r7, set_far (by decide) r8, set_far (by decide) r9, set_far (by decide) ra, by rw [List.length_set]; exact rl, True.intro⟩
  refine ⟨S'.take S.length, ?_⟩
  refine (fn_ret (n := 1) (l := 11) (b := b__law_right) (ds := [.rf k]) (S := S) (d := .bl true) (S1 := S') (ρ := ρ') rfl ?_).trans (close_pure rfl)
  unfold b__law_right
  refine (seq_nx (ρ1 := [some (.rf k), some (.lst (ns.map D.str)), none, none, none, none, none, none, none, none, none, none]) (S1 := S2) (set_name (call_is (eL (var_is rfl) (eL (bin_is (x := .int 1) (y := .int (r : Int)) (S1 := S) rfl (call_is (eL rfl (eL rfl eN)) d1) rfl) eN)) ?_))).trans ?_
  · have h : (1 : Int) + (r : Int) = ((1 + r : Nat) : Int) := by rw [Int.natCast_add]; rfl
    rw [h]; exact e1
  refine (seq_nx (ρ1 := [some (.rf k), some (.lst (ns.map D.str)), none, none, none, some (.lst (encs m)), some (.lst (encs m2)), none, none, none, none, none]) (S1 := S4) (set_tup (call_is (eL (var_is rfl) (eL (var_is rfl) eN)) f1) (call_is (eL (var_is rfl) (eL (var_is rfl) eN)) g1))).trans ?_
  refine (seq_nx (ρ1 := [some (.rf k), some (.lst (ns.map D.str)), some (.rf L), none, none, some (.lst (encs m)), some (.lst (encs m2)), none, none, none, none, none]) (S1 := S6) (set_name (call_is (eL (var_is rfl) (eL (var_is rfl) eN)) i1))).trans ?_
  refine (seq_nx (ρ1 := [some (.rf k), some (.lst (ns.map D.str)), some (.rf L), none, none, some (.lst (encs m)), some (.lst (encs m2)), some (kind m), some (kind m), none, none, none]) (S1 := S6) (set_tup (call_is (eL (var_is rfl) eN) k7) (call_is (eL (var_is rfl) eN) k8))).trans ?_
  refine (seq_nx (ρ1 := [some (.rf k), some (.lst (ns.map D.str)), some (.rf L), none, none, some (.lst (encs m)), some (.lst (encs m2)), some (kind m), some (kind m), some (kind m), some (kind m2), none]) (S1 := S8) (set_tup (call_is (eL (b1 (call_is (eL (var_is rfl) (eL (var_is rfl) eN)) j1) rfl) eN) k9) (call_is (eL (call_is (eL (var_is rfl) (eL (var_is rfl) eN)) o1) eN) k10))).trans ?_
  refine (seq_nx (ρ1 := [some (.rf k), some (.lst (ns.map D.str)), some (.rf L), some (.lst [.rf S8.length, .rf (S8.length + 1)]), none, some (.lst (encs m)), some (.lst (encs m2)), some (kind m), some (kind m), some (kind m), some (kind m2), none]) (S1 := S9) (set_name (lst_is (eL (meth_kind n_ent (var_is rfl) ek) (eL (meth_kind n_nam (var_is rfl) nk) eN))))).trans ?_
  refine (seq_nx (expr_is w10)).trans ((seq_nx (expr_is w11)).trans ((seq_nx (expr_is w12)).trans ((seq_nx v1).trans ?_)))
  have t1 := told_right f2.small f2.ne S'
  have t2 := told_right g2.small g2.ne S'
  have t3 := turned_right f2 S'
  refine (seq_nx ((if_f ((or_f (not_is (call_is (eL (var_is v9) (eL (var_is v5) eN)) t2))).trans (not_is (call_is (eL (var_is v6) (eL (var_is v4) eN)) t3)))).trans rfl)).trans ?_
  have q1 : eqX false [("Kind", f_Kind___eq__)] (kind m) (kind m) S' = some (.bl true, S') := by rw [eqX_kind, eqL_encs.mpr rfl]; rfl
  have q2 := eqX_kind false m m2 S'
  have q3 := eqX_kind false m2 m S'
  rw [eqL_comm m2 m] at q3
  have q4 := oEq_encs m m2
  have q5 := eqX_same m S'
  have z1 : mBin oNe (mLst [(mTwo (eqX false [("Kind", f_Kind___eq__)]) (mVar 7) (mVar 8)), (mTwo (eqX false [("Kind", f_Kind___eq__)]) (mVar 8) (mVar 9)), (mTwo (eqX false [("Kind", f_Kind___eq__)]) (mVar 7) (mVar 10)), (mTwo (eqX false [("Kind", f_Kind___eq__)]) (mVar 10) (mVar 7))]) (mLst [(mBl true), (mBl true), (mBin oEq (mVar 5) (mVar 6)), (mBin oEq (mVar 5) (mVar 6))]) ρ' S' = some (.bl false, S') := by
    refine bin_is (lst_is (eL (two_is (var_is v6) (var_is v7) q1) (eL (two_is (var_is v7) (var_is v8) q1) (eL (two_is (var_is v6) (var_is v9) q2) (eL (two_is (var_is v9) (var_is v6) q3) eN)))))
      (lst_is (eL rfl (eL rfl (eL (bin_is (var_is v4) (var_is v5) q4) (eL (bin_is (var_is v4) (var_is v5) q4) eN))))) ?_
    cases eqL (encs m) (encs m2) <;> rfl
  refine (seq_nx ((if_f z1).trans rfl)).trans ?_
  have z2 : mB fAny [(mComp (iSeq (mLst [mNon, (mInt 0), (mVar 5), (mB fTuple [(mVar 5)]), (mOne (reprX [("Kind", f_Kind___repr__)]) (mVar 7)), (mK (.dct []))])) (gName 11) (mBl true) (mTwo (eqX false [("Kind", f_Kind___eq__)]) (mVar 7) (mVar 11)) [11])] ρ' S' = some (.bl false, S') := by
    have c : mComp (iSeq (mLst [mNon, (mInt 0), (mVar 5), (mB fTuple [(mVar 5)]), (mOne (reprX [("Kind", f_Kind___repr__)]) (mVar 7)), (mK (.dct []))])) (gName 11) (mBl true) (mTwo (eqX false [("Kind", f_Kind___eq__)]) (mVar 7) (mVar 11)) [11] ρ' S' = some (.lst ([D.non, .int 0, .lst (encs m), .tup (encs m), .str (kt m), .dct []].map fun _ => D.bl false), S') := by
      refine comp_mapA (fun _ => D.bl false) (xs := [.non, .int 0, .lst (encs m), .tup (encs m), .str (kt m), .dct []]) (S := S') (iseq_sq (.inl rfl) (lst_is (eL rfl (eL rfl (eL (var_is v4) (eL (b1 (var_is v4) rfl) (eL (reprK_is f2.small (var_is v6)) (eL rfl eN)))))))) (by show 6 ≤ 16777216; decide) fun x hx => ?_
      refine ⟨_, rfl, two_is (var_is (wipe_far (by decide) v6)) (var_is (wipe_near (by omega))) (eqX_plain ?_)⟩
      simp only [List.mem_cons, List.not_mem_nil, or_false] at hx
      rcases hx with rfl | rfl | rfl | rfl | rfl | rfl <;> rfl
    refine b1 c ?_
    rfl
  refine (seq_nx ((if_f ((or_f z2).trans (two_is (var_is v6) (var_is v8) q5))).trans rfl)).trans ?_
  exact ret_is ((and_t (S1 := S') rfl).trans (call_is (eL (var_is v6) (eL (var_is v4) eN)) t1))
/-! ### the law -/
theorem mul_l (i j : Int) (h : -18446744073709551616 < i ∧ i < 18446744073709551616) : oMul (.int i) (.int j) = some (.int (i * j)) := by
  unfold oMul
  simp only
  rw [if_pos (Or.inl h)]
theorem mul_r (i j : Int) (h : -18446744073709551616 < j ∧ j < 18446744073709551616) : oMul (.int i) (.int j) = some (.int (i * j)) := by
  unfold oMul
  simp only
  rw [if_pos (Or.inr h)]
theorem potK_spec (ns : List Int) (i : Nat) (S : Store) : ∃ p0 p1 : Int, f__law_potK [.lst (ns.map D.int), .int (i : Int)] S = some (.rf S.length, S ++ [some (.lst [.int p0, .int p1])]) ∧ 0 ≤ p0 ∧ 0 ≤ p1 ∧ p1 ≤ 2147483423 := by
  obtain ⟨w, hw⟩ : ∃ w : Int, (sSeq (sSet (gName 2) (mBin oAdd (mBin oMul (mInt 37) (mVar 1)) (mInt 19))) (sIf (mBin oLt (mVar 1) (mB fLen [(mVar 0)])) (sSet (gName 2) (mB fAbs [(mBin oItem (mVar 0) (mVar 1))])) sPass)) [some (.lst (ns.map D.int)), some (.int (i : Int)), none] S = some (.nx, [some (.lst (ns.map D.int)), some (.int (i : Int)), some (.int w)], S) := by
    have s1 : sSet (gName 2) (mBin oAdd (mBin oMul (mInt 37) (mVar 1)) (mInt 19)) [some (.lst (ns.map D.int)), some (.int (i : Int)), none] S = some (.nx, [some (.lst (ns.map D.int)), some (.int (i : Int)), some (.int (37 * (i : Int) + 19))], S) := by
      refine set_name (bin_is (x := .int (37 * (i : Int))) (y := .int 19) (S1 := S) (bin_is (x := .int 37) (y := .int (i : Int)) (S1 := S) rfl rfl ?_) rfl rfl)
      exact mul_l _ _ (by decide)
    have q : mBin oLt (mVar 1) (mB fLen [(mVar 0)]) [some (.lst (ns.map D.int)), some (.int (i : Int)), some (.int (37 * (i : Int) + 19))] S = some (.bl (decide (i < ns.length)), S) := by
      refine bin_is (x := .int (i : Int)) (y := .int (ns.length : Int)) (S1 := S) rfl (b1 (d := .lst (ns.map D.int)) rfl (by simp [top, fLen, fLen0])) ?_
      show some (D.bl (decide ((i : Int) < (ns.length : Int)))) = _
      by_cases h : i < ns.length <;> simp [h]
    by_cases h : i < ns.length
    · refine ⟨if ns[i] < 0 then -ns[i] else ns[i], (seq_nx s1).trans ((if_t (q.trans (by rw [decide_eq_true h]))).trans (set_name (b1 (d := .int ns[i]) (bin_is (x := .lst (ns.map D.int)) (y := .int (i : Int)) (S1 := S) rfl rfl ?_) rfl)))⟩
      show (place (ns.map D.int).length (i : Int)).bind _ = _
      rw [pop_place (by omega) (by rw [List.length_map]; omega)]
      simp [h]
    · exact ⟨37 * (i : Int) + 19, (seq_nx s1).trans ((if_f (q.trans (by rw [decide_eq_false h]))).trans rfl)⟩
  have m1 := Int.emod_nonneg w (b := 2147483497) (by decide)
  have m2 := Int.emod_lt_of_pos w (b := 2147483497) (by decide)
  have n1 := Int.emod_nonneg (w % 2147483497 * 48271 + 6007 * (i : Int) + 41) (b := 2147483423) (by decide)
  have n2 := Int.emod_lt_of_pos (w % 2147483497 * 48271 + 6007 * (i : Int) + 41) (b := 2147483423) (by decide)
  refine ⟨if w - 10 ^ 18 > 0 then w - 10 ^ 18 else 0, (w % 2147483497 * 48271 + 6007 * (i : Int) + 41) % 2147483423 + 1, ?_, by split <;> omega, by omega, by omega⟩
  refine fnK_ret (n := 2) (l := 1) (b := b__law_potK) (ds := [.lst (ns.map D.int), .int (i : Int)]) (S := S) (ρ := [some (.lst (ns.map D.int)), some (.int (i : Int)), some (.int w)]) rfl ?_
  have assoc : ∀ (a b c : MS) (ρ : Rho) (S : Store), sSeq a (sSeq b c) ρ S = sSeq (sSeq a b) c ρ S := fun a b c ρ S => by
    unfold sSeq
    cases a ρ S with
    | none => rfl
    | some r =>
      obtain ⟨fl, ρ1, S1⟩ := r
      cases fl <;> rfl
  unfold b__law_potK
  rw [assoc]
  refine (seq_nx hw).trans (ret_is (lstM_is (S1 := S) (eL (b2 (d := .int 0) (e := .int (w - 10 ^ 18)) (S1 := S) rfl (bin_is (x := .int w) (y := .int (10 ^ 18)) (S1 := S) rfl (bin_is (x := .int 10) (y := .int 18) (S1 := S) rfl rfl ?_) rfl) rfl) (eL (bin_is (x := .int ((w % 2147483497 * 48271 + 6007 * (i : Int) + 41) % 2147483423)) (y := .int 1) (S1 := S) (bin_is (x := .int (w % 2147483497 * 48271 + 6007 * (i : Int) + 41)) (y := .int 2147483423) (S1 := S) (b1 (bin_is (x := .int (w % 2147483497 * 48271 + 6007 * (i : Int))) (y := .int 41) (S1 := S) (bin_is (x := .int (w % 2147483497 * 48271)) (y := .int (6007 * (i : Int))) (S1 := S) (bin_is (x := .int (w % 2147483497)) (y := .int 48271) (S1 := S) (bin_is (x := .int w) (y := .int 2147483497) (S1 := S) (b1 (d := .int w) rfl rfl) rfl rfl) rfl ?_) (bin_is (x := .int 6007) (y := .int (i : Int)) (S1 := S) rfl rfl ?_) rfl) rfl rfl) rfl) rfl rfl) rfl rfl) eN)) rfl))
  · rfl
  · exact mul_r _ _ (by decide)
  · exact mul_l _ _ (by decide)
theorem asBools_rep : ∀ c : Nat, asBools (List.replicate c (D.bl true)) = some (List.replicate c true)
  | 0 => rfl
  | c + 1 => by
    show (asBools (List.replicate c (D.bl true))).map (true :: ·) = _
    rw [asBools_rep c]; rfl
theorem law_holds (ns : List Int) (h1 : ns.length ≤ 63) : f_law [.lst (ns.map D.int)] [] = some (.bl true, []) := by
  obtain ⟨n, hn, hr⟩ : ∃ n : Nat, n ≤ 6 ∧ iRange1 (mB fMax [(mInt 1), (mB fMin [(mInt 6), (mB fLen [(mVar 0)])])]) [some (.lst (ns.map D.int)), none] [] = some (intL 0 n, none, []) := by
    have q1 : mB fLen [mVar 0] [some (.lst (ns.map D.int)), none] [] = some (.int (ns.length : Int), []) := b1 (d := .lst (ns.map D.int)) rfl (by simp [top, fLen, fLen0])
    have q2 : mB fMin [(mInt 6), (mB fLen [(mVar 0)])] [some (.lst (ns.map D.int)), none] [] = some (.int ((min 6 ns.length : Nat) : Int), []) := by
      refine b2 (d := .int 6) (S1 := []) rfl q1 ?_
      show some (D.int (if (ns.length : Int) < 6 then (ns.length : Int) else 6)) = _
      have : (if (ns.length : Int) < 6 then (ns.length : Int) else 6) = ((min 6 ns.length : Nat) : Int) := by split <;> omega
      rw [this]
    have q3 : mB fMax [(mInt 1), (mB fMin [(mInt 6), (mB fLen [(mVar 0)])])] [some (.lst (ns.map D.int)), none] [] = some (.int ((max 1 (min 6 ns.length) : Nat) : Int), []) := by
      refine b2 (d := .int 1) (S1 := []) rfl q2 ?_
      show some (D.int (if ((min 6 ns.length : Nat) : Int) > 1 then ((min 6 ns.length : Nat) : Int) else 1)) = _
      have : (if ((min 6 ns.length : Nat) : Int) > 1 then ((min 6 ns.length : Nat) : Int) else 1) = ((max 1 (min 6 ns.length) : Nat) : Int) := by split <;> omega
      rw [this]
    exact ⟨max 1 (min 6 ns.length), by omega, range_is q3 (by unfold big; omega)⟩
  have ln : (intL 0 n).length = n := by unfold intL; simp
  obtain ⟨ds, S', c1, c, rfl⟩ := comp_inv (it := iRange1 (mB fMax [(mInt 1), (mB fMin [(mInt 6), (mB fLen [(mVar 0)])])])) (g := gName 1) (tt := mBl true) (elt := mCall f__law_right [(mCall f__law_potK [(mVar 0), (mVar 1)])]) (vs := [1]) (ρ := [some (.lst (ns.map D.int)), none]) (S := []) (S0 := []) (xs := intL 0 n)
    (fun _ acc _ => ∃ c, acc = List.replicate c (D.bl true)) hr (by rw [ln]; unfold big; omega) ⟨0, rfl⟩ fun x xs' acc S hx hI => by
      obtain ⟨c, rfl⟩ := hI
      obtain ⟨i, hi, rfl⟩ := List.mem_map.mp hx
      have e0 : (0 : Int) + (i : Int) = (i : Int) := by omega
      rw [e0]
      obtain ⟨p0, p1, h2, h3, h4, h5⟩ := potK_spec ns i S
      obtain ⟨S2, h6⟩ := law_right_spec (k := S.length) (S := S ++ [some (.lst [.int p0, .int p1])]) ⟨p0, p1, store_last, h3, h4, h5⟩
      refine ⟨[some (.lst (ns.map D.int)), some (.int (i : Int))], S, true, S, rfl, rfl, fun _ => ⟨.bl true, S2, call_is (eL (call_is (eL (var_is rfl) (eL (var_is rfl) eN)) h2) eN) h6, c + 1, ?_⟩, fun z => by cases z⟩
      rw [List.replicate_succ']
  have hc := (fn_ret (n := 1) (l := 1) (b := b_law) (ds := [.lst (ns.map D.int)]) (S := []) (d := .bl true) (S1 := S') (ρ := [some (.lst (ns.map D.int)), none]) rfl (ret_is (b1 c1 ?_))).trans (close_pure rfl)
  · exact hc
  · show (asBools (List.replicate c (D.bl true))).map _ = _
    rw [asBools_rep]
    simp
end K11
set_option Elab.async false
set_option linter.all false
set_option maxRecDepth 100000
/-! the derivation, by gen.py -/
namespace K11
open PySem L2 PyProof.Rows StX Mi
def top (i : Nat) : Stmt := PySem.Challenge.pw_twoeach_k11_kinds_told.main.body.getD i (.Pass ⟨0, 0, 0, 0⟩)
abbrev s__law_draw : Stmt := top 21
abbrev N__law_draw : List Str := ["_law_pot_here", "_law_many", "_law_digit"]
abbrev s__law_among : Stmt := top 22
abbrev N__law_among : List Str := ["_law_pot_here", "_law_some"]
abbrev s__law_names : Stmt := top 23
abbrev N__law_names : List Str := ["_law_pot_here", "_law_many", "_law_turn", "_law_letters", "_law_found", "_law_far_here", "_law_word", "_law_fresh", "_law_sign", "_law_one"]
abbrev s__law_normed : Stmt := top 24
abbrev N__law_normed : List Str := ["_law_some", "_law_left", "_law_low", "_law_part"]
abbrev s__law_entries : Stmt := top 25
abbrev N__law_entries : List Str := ["_law_pot_here", "_law_tags", "_law_across", "_law_found", "_law_turn", "_law_broad", "_law_high", "_law_free", "_law_up", "_law_tag"]
abbrev s__law_mixed : Stmt := top 26
abbrev N__law_mixed : List Str := ["_law_pot_here", "_law_some", "_law_turn", "_law_left", "_law_found"]
abbrev s__law_passed : Stmt := top 27
abbrev N__law_passed : List Str := ["_law_pot_here", "_law_some", "_law_across", "_law_up", "_law_part"]
abbrev s_is_integer : Stmt := top 4
abbrev N_is_integer : List Str := ["value"]
abbrev s_is_step : Stmt := top 14
abbrev N_is_step : List Str := ["value"]
abbrev s_is_name : Stmt := top 5
abbrev N_is_name : List Str := ["value", "sign"]
abbrev s_is_entry : Stmt := top 15
abbrev N_is_entry : List Str := ["value"]
abbrev s_shifted : Stmt := top 16
abbrev N_shifted : List Str := ["entries", "across", "up", "here", "there", "name"]
abbrev s_normed : Stmt := top 17
abbrev N_normed : List Str := ["entries", "across", "up", "entry"]
abbrev s_Kind___init__ : Stmt := inClass (top 18) 2
abbrev N_Kind___init__ : List Str := ["self", "entries", "found", "position", "entry", "across", "up"]
abbrev s__law_kind : Stmt := top 28
abbrev N__law_kind : List Str := ["_law_some"]
abbrev s_is_list : Stmt := top 6
abbrev N_is_list : List Str := ["value"]
abbrev s_Kind_of : Stmt := inClass (top 18) 3
abbrev N_Kind_of : List Str := ["entries"]
abbrev s_Kind_entries : Stmt := inClass (top 18) 6
abbrev N_Kind_entries : List Str := ["self"]
abbrev s_Kind_names : Stmt := inClass (top 18) 7
abbrev N_Kind_names : List Str := ["self", "across", "up", "name"]
abbrev s__law_far : Stmt := top 29
abbrev N__law_far : List Str := ["_law_some", "_law_part"]
abbrev s_Kind_reach : Stmt := inClass (top 18) 4
abbrev N_Kind_reach : List Str := ["self"]
abbrev s_Kind_is_flat : Stmt := inClass (top 18) 5
abbrev N_Kind_is_flat : List Str := ["self"]
abbrev s_Kind___len__ : Stmt := inClass (top 18) 12
abbrev N_Kind___len__ : List Str := ["self"]
abbrev s_Kind___repr__ : Stmt := inClass (top 18) 17
abbrev N_Kind___repr__ : List Str := ["self", "told", "entry"]
abbrev s__law_told_right : Stmt := top 30
abbrev N__law_told_right : List Str := ["_law_made", "_law_due", "_law_far_here", "_law_told", "_law_shown", "_law_part"]
abbrev s_Kind___contains__ : Stmt := inClass (top 18) 13
abbrev N_Kind___contains__ : List Str := ["self", "value"]
abbrev s__law_among_right : Stmt := top 31
abbrev N__law_among_right : List Str := ["_law_pot_here", "_law_made", "_law_due", "_law_near", "_law_part", "_law_some", "_law_thing"]
abbrev s_Kind_mirrored : Stmt := inClass (top 18) 9
abbrev N_Kind_mirrored : List Str := ["self", "across", "up", "name"]
abbrev s_Kind_turned : Stmt := inClass (top 18) 10
abbrev N_Kind_turned : List Str := ["self", "across", "up", "name"]
abbrev s_Kind___eq__ : Stmt := inClass (top 18) 16
abbrev N_Kind___eq__ : List Str := ["self", "other"]
abbrev s__law_turned_right : Stmt := top 32
abbrev N__law_turned_right : List Str := ["_law_made", "_law_due", "_law_far_here", "_law_sides", "_law_over", "_law_back", "_law_part"]
abbrev s__law_right : Stmt := top 33
abbrev N__law_right : List Str := ["_law_pot_here", "_law_tags", "_law_given", "_law_told", "_law_one", "_law_due", "_law_mate", "_law_made", "_law_again", "_law_tupled", "_law_other", "_law_thing"]
abbrev s__law_pot : Stmt := top 20
abbrev N__law_pot : List Str := ["_law_script", "_law_k", "_law_cell"]
abbrev s_law : Stmt := top 34
abbrev N_law : List Str := ["_law_script", "_law_k"]
structure Ad where
  C_Kind : Addr
  a__law_draw : Addr
  a__law_among : Addr
  a__law_names : Addr
  a__law_normed : Addr
  a__law_entries : Addr
  a__law_mixed : Addr
  a__law_passed : Addr
  a_is_integer : Addr
  a_is_step : Addr
  a_is_name : Addr
  a_is_entry : Addr
  a_shifted : Addr
  a_normed : Addr
  a_Kind___init__ : Addr
  a__law_kind : Addr
  a_is_list : Addr
  a_Kind_of : Addr
  sa_Kind_of : Addr
  a_Kind_entries : Addr
  a_Kind_names : Addr
  a__law_far : Addr
  a_Kind_reach : Addr
  p_Kind_reach : Addr
  a_Kind_is_flat : Addr
  p_Kind_is_flat : Addr
  a_Kind___len__ : Addr
  a_Kind___repr__ : Addr
  a__law_told_right : Addr
  a_Kind___contains__ : Addr
  a__law_among_right : Addr
  a_Kind_mirrored : Addr
  a_Kind_turned : Addr
  a_Kind___eq__ : Addr
  a__law_turned_right : Addr
  a__law_right : Addr
  a__law_pot : Addr
  a_law : Addr
structure Ok (K : PySem.W.Frag) (mg : Str → Option Value) (ad : Ad) : Prop where
  g_Kind : mg "Kind" = some (.ref ad.C_Kind)
  cl_Kind : Cls K ad.C_Kind
  rd_Kind : ClX.CRead K ad.C_Kind (.type "type")
  g__law_draw : mg "_law_draw" = some (.ref ad.a__law_draw)
  k__law_draw : PySem.W.keepIn K (.ref ad.a__law_draw) = true
  F__law_draw : Df K "_law_draw" "_law_draw" s__law_draw ad.a__law_draw
  g__law_among : mg "_law_among" = some (.ref ad.a__law_among)
  k__law_among : PySem.W.keepIn K (.ref ad.a__law_among) = true
  F__law_among : Df K "_law_among" "_law_among" s__law_among ad.a__law_among
  g__law_names : mg "_law_names" = some (.ref ad.a__law_names)
  k__law_names : PySem.W.keepIn K (.ref ad.a__law_names) = true
  F__law_names : Df K "_law_names" "_law_names" s__law_names ad.a__law_names
  g__law_normed : mg "_law_normed" = some (.ref ad.a__law_normed)
  k__law_normed : PySem.W.keepIn K (.ref ad.a__law_normed) = true
  F__law_normed : Df K "_law_normed" "_law_normed" s__law_normed ad.a__law_normed
  g__law_entries : mg "_law_entries" = some (.ref ad.a__law_entries)
  k__law_entries : PySem.W.keepIn K (.ref ad.a__law_entries) = true
  F__law_entries : Df K "_law_entries" "_law_entries" s__law_entries ad.a__law_entries
  g__law_mixed : mg "_law_mixed" = some (.ref ad.a__law_mixed)
  k__law_mixed : PySem.W.keepIn K (.ref ad.a__law_mixed) = true
  F__law_mixed : Df K "_law_mixed" "_law_mixed" s__law_mixed ad.a__law_mixed
  g__law_passed : mg "_law_passed" = some (.ref ad.a__law_passed)
  k__law_passed : PySem.W.keepIn K (.ref ad.a__law_passed) = true
  F__law_passed : Df K "_law_passed" "_law_passed" s__law_passed ad.a__law_passed
  g_is_integer : mg "is_integer" = some (.ref ad.a_is_integer)
  k_is_integer : PySem.W.keepIn K (.ref ad.a_is_integer) = true
  F_is_integer : Df K "is_integer" "is_integer" s_is_integer ad.a_is_integer
  g_is_step : mg "is_step" = some (.ref ad.a_is_step)
  k_is_step : PySem.W.keepIn K (.ref ad.a_is_step) = true
  F_is_step : Df K "is_step" "is_step" s_is_step ad.a_is_step
  g_is_name : mg "is_name" = some (.ref ad.a_is_name)
  k_is_name : PySem.W.keepIn K (.ref ad.a_is_name) = true
  F_is_name : Df K "is_name" "is_name" s_is_name ad.a_is_name
  g_is_entry : mg "is_entry" = some (.ref ad.a_is_entry)
  k_is_entry : PySem.W.keepIn K (.ref ad.a_is_entry) = true
  F_is_entry : Df K "is_entry" "is_entry" s_is_entry ad.a_is_entry
  g_shifted : mg "shifted" = some (.ref ad.a_shifted)
  k_shifted : PySem.W.keepIn K (.ref ad.a_shifted) = true
  F_shifted : Df K "shifted" "shifted" s_shifted ad.a_shifted
  g_normed : mg "normed" = some (.ref ad.a_normed)
  k_normed : PySem.W.keepIn K (.ref ad.a_normed) = true
  F_normed : Df K "normed" "normed" s_normed ad.a_normed
  a_Kind___init__ : PySem.W.findIn K (.ref ad.C_Kind) "__init__" = some (some (.ref ad.a_Kind___init__))
  i_Kind___init__ : PySem.W.isFn K (.ref ad.a_Kind___init__) = true
  F_Kind___init__ : Df K "__init__" "Kind.__init__" s_Kind___init__ ad.a_Kind___init__
  g__law_kind : mg "_law_kind" = some (.ref ad.a__law_kind)
  k__law_kind : PySem.W.keepIn K (.ref ad.a__law_kind) = true
  F__law_kind : Df K "_law_kind" "_law_kind" s__law_kind ad.a__law_kind
  g_is_list : mg "is_list" = some (.ref ad.a_is_list)
  k_is_list : PySem.W.keepIn K (.ref ad.a_is_list) = true
  F_is_list : Df K "is_list" "is_list" s_is_list ad.a_is_list
  st_Kind_of : SMet K ad.C_Kind (.type "type") "of" ad.sa_Kind_of ad.a_Kind_of
  F_Kind_of : Df K "of" "Kind.of" s_Kind_of ad.a_Kind_of
  a_Kind_entries : PySem.W.findIn K (.ref ad.C_Kind) "entries" = some (some (.ref ad.a_Kind_entries))
  i_Kind_entries : PySem.W.isFn K (.ref ad.a_Kind_entries) = true
  F_Kind_entries : Df K "entries" "Kind.entries" s_Kind_entries ad.a_Kind_entries
  a_Kind_names : PySem.W.findIn K (.ref ad.C_Kind) "names" = some (some (.ref ad.a_Kind_names))
  i_Kind_names : PySem.W.isFn K (.ref ad.a_Kind_names) = true
  F_Kind_names : Df K "names" "Kind.names" s_Kind_names ad.a_Kind_names
  g__law_far : mg "_law_far" = some (.ref ad.a__law_far)
  k__law_far : PySem.W.keepIn K (.ref ad.a__law_far) = true
  F__law_far : Df K "_law_far" "_law_far" s__law_far ad.a__law_far
  p_Kind_reach : PropOf K ad.C_Kind "reach" ad.p_Kind_reach ad.a_Kind_reach
  F_Kind_reach : Df K "reach" "Kind.reach" s_Kind_reach ad.a_Kind_reach
  p_Kind_is_flat : PropOf K ad.C_Kind "is_flat" ad.p_Kind_is_flat ad.a_Kind_is_flat
  F_Kind_is_flat : Df K "is_flat" "Kind.is_flat" s_Kind_is_flat ad.a_Kind_is_flat
  a_Kind___len__ : PySem.W.findIn K (.ref ad.C_Kind) "__len__" = some (some (.ref ad.a_Kind___len__))
  i_Kind___len__ : PySem.W.isFn K (.ref ad.a_Kind___len__) = true
  F_Kind___len__ : Df K "__len__" "Kind.__len__" s_Kind___len__ ad.a_Kind___len__
  a_Kind___repr__ : PySem.W.findIn K (.ref ad.C_Kind) "__repr__" = some (some (.ref ad.a_Kind___repr__))
  i_Kind___repr__ : PySem.W.isFn K (.ref ad.a_Kind___repr__) = true
  F_Kind___repr__ : Df K "__repr__" "Kind.__repr__" s_Kind___repr__ ad.a_Kind___repr__
  g__law_told_right : mg "_law_told_right" = some (.ref ad.a__law_told_right)
  k__law_told_right : PySem.W.keepIn K (.ref ad.a__law_told_right) = true
  F__law_told_right : Df K "_law_told_right" "_law_told_right" s__law_told_right ad.a__law_told_right
  a_Kind___contains__ : PySem.W.findIn K (.ref ad.C_Kind) "__contains__" = some (some (.ref ad.a_Kind___contains__))
  i_Kind___contains__ : PySem.W.isFn K (.ref ad.a_Kind___contains__) = true
  F_Kind___contains__ : Df K "__contains__" "Kind.__contains__" s_Kind___contains__ ad.a_Kind___contains__
  g__law_among_right : mg "_law_among_right" = some (.ref ad.a__law_among_right)
  k__law_among_right : PySem.W.keepIn K (.ref ad.a__law_among_right) = true
  F__law_among_right : Df K "_law_among_right" "_law_among_right" s__law_among_right ad.a__law_among_right
  a_Kind_mirrored : PySem.W.findIn K (.ref ad.C_Kind) "mirrored" = some (some (.ref ad.a_Kind_mirrored))
  i_Kind_mirrored : PySem.W.isFn K (.ref ad.a_Kind_mirrored) = true
  F_Kind_mirrored : Df K "mirrored" "Kind.mirrored" s_Kind_mirrored ad.a_Kind_mirrored
  a_Kind_turned : PySem.W.findIn K (.ref ad.C_Kind) "turned" = some (some (.ref ad.a_Kind_turned))
  i_Kind_turned : PySem.W.isFn K (.ref ad.a_Kind_turned) = true
  F_Kind_turned : Df K "turned" "Kind.turned" s_Kind_turned ad.a_Kind_turned
  a_Kind___eq__ : PySem.W.findIn K (.ref ad.C_Kind) "__eq__" = some (some (.ref ad.a_Kind___eq__))
  i_Kind___eq__ : PySem.W.isFn K (.ref ad.a_Kind___eq__) = true
  F_Kind___eq__ : Df K "__eq__" "Kind.__eq__" s_Kind___eq__ ad.a_Kind___eq__
  g__law_turned_right : mg "_law_turned_right" = some (.ref ad.a__law_turned_right)
  k__law_turned_right : PySem.W.keepIn K (.ref ad.a__law_turned_right) = true
  F__law_turned_right : Df K "_law_turned_right" "_law_turned_right" s__law_turned_right ad.a__law_turned_right
  g__law_right : mg "_law_right" = some (.ref ad.a__law_right)
  k__law_right : PySem.W.keepIn K (.ref ad.a__law_right) = true
  F__law_right : Df K "_law_right" "_law_right" s__law_right ad.a__law_right
  g__law_pot : mg "_law_pot" = some (.ref ad.a__law_pot)
  k__law_pot : PySem.W.keepIn K (.ref ad.a__law_pot) = true
  F__law_pot : Df K "_law_pot" "_law_pot" s__law_pot ad.a__law_pot
  g_law : mg "law" = some (.ref ad.a_law)
  k_law : PySem.W.keepIn K (.ref ad.a_law) = true
  F_law : Df K "law" "law" s_law ad.a_law
  z_all : mg "all" = none
  z_range : mg "range" = none
  z_max : mg "max" = none
  z_min : mg "min" = none
  z_len : mg "len" = none
  z_divmod : mg "divmod" = none
  z_int : mg "int" = none
  z_sorted : mg "sorted" = none
  z_list : mg "list" = none
  n_Kind_MOST_ENTRIES : ∃ t, Con K ad.C_Kind "MOST_ENTRIES" (.int 6) (.int 6 t)
  z_enumerate : mg "enumerate" = none
  z_isinstance : mg "isinstance" = none
  is_Kind : ∀ X : Cx, X.mg = mg → X.K = K → IsOf X "Kind" ad.C_Kind
  z_tuple : mg "tuple" = none
  z_bool : mg "bool" = none
  c_FARTHEST : ∃ t, mg "FARTHEST" = some (.int 20 t)
  z_str : mg "str" = none
  c_LONGEST_NAME : ∃ t, mg "LONGEST_NAME" = some (.int 8 t)
  c_LETTERS : ∃ t, mg "LETTERS" = some (.str (toS [97, 98, 99, 100, 101, 102, 103, 104, 105, 106, 107, 108, 109, 110, 111, 112, 113, 114, 115, 116, 117, 118, 119, 120, 121, 122]) t)
  n_Kind_MOST_REACH : ∃ t, Con K ad.C_Kind "MOST_REACH" (.int 3) (.int 3 t)
  x_Kind_own_entries : NoAttr K ad.C_Kind "own_entries"
  x_Kind_own_reach : NoAttr K ad.C_Kind "own_reach"
  mk_Kind : Mk K ad.C_Kind ad.a_Kind___init__
  kp_Kind : PySem.W.keepIn K (.ref ad.C_Kind) = true
  m_Kind_entries : Meth K ad.C_Kind "entries" ad.a_Kind_entries
  z_set : mg "set" = none
  m_Kind_names : Meth K ad.C_Kind "names" ad.a_Kind_names
  z_repr : mg "repr" = none
  z_any : mg "any" = none
  m_Kind_mirrored : Meth K ad.C_Kind "mirrored" ad.a_Kind_mirrored
  m_Kind_turned : Meth K ad.C_Kind "turned" ad.a_Kind_turned
  ne_Kind : NeK K ad.C_Kind
  v_Kind_MOST_ENTRIES : ∃ t, ClX.CVal K ad.C_Kind (.type "type") "MOST_ENTRIES" (.int 6) (.int 6 t)
  v_Kind_MOST_REACH : ∃ t, ClX.CVal K ad.C_Kind (.type "type") "MOST_REACH" (.int 3) (.int 3 t)
  z_abs : mg "abs" = none
variable {P : Program} {w : World} {K : PySem.W.Frag} {mg : Str → Option Value} {base : Heap} {ad : Ad}
theorem sc__law_draw : FnScope N__law_draw ["_law_pot_here", "_law_many"] (defScope s__law_draw) := ⟨rfl, rfl, rfl, by decide +kernel, rfl, by decide +kernel, by decide +kernel⟩
theorem ok__law_draw (T : Ok K mg ad) : FnP P w K mg base 1 ad.a__law_draw f__law_draw := by
  have nd : N__law_draw.Nodup := sc__law_draw.nd
  refine T.F__law_draw.pos (k := 0) (l := 1) (b := b__law_draw) sc__law_draw (fun _ _ _ _ _ _ us hl => match us, hl with | [_, _], _ => rfl) fun cdv A outer s H hr hg => ?_
  exact (ms_cons (ms_if (mt_cmp oM_gt (by rfl) (me_ix (me_var (i := 0) rfl (by first | exact Or.inl rfl | exact Or.inr (Or.inl rfl) | exact Or.inr (Or.inr rfl))) me_int) me_int) (ms_cons (ms_set (me_callB cB_divmod rfl T.z_divmod (by decide +kernel) (ma_cons (me_ix (me_var (i := 0) rfl (by first | exact Or.inl rfl | exact Or.inr (Or.inl rfl) | exact Or.inr (Or.inr rfl))) me_int) (ma_cons (me_var (i := 1) rfl (by first | exact Or.inl rfl | exact Or.inr (Or.inl rfl) | exact Or.inr (Or.inr rfl))) ma_nil))) (mg_tup rfl (mgs_cons (mg_subC (me_var (i := 0) rfl (by first | exact Or.inl rfl | exact Or.inr (Or.inl rfl) | exact Or.inr (Or.inr rfl))) me_int) (mgs_cons (mg_name (n := 2) nd rfl (by first | exact Or.inl rfl | exact Or.inr rfl)) mgs_nil)))) (ms_one (ms_ret (me_var (i := 2) rfl (by first | exact Or.inl rfl | exact Or.inr (Or.inl rfl) | exact Or.inr (Or.inr rfl)))))) ms_nil) (ms_cons (ms_set (me_bin oM_mod (me_callTy cB_int rfl T.z_int (by decide +kernel) (ma_cons (me_bin oM_add (me_bin oM_mul (me_ix (me_var (i := 0) rfl (by first | exact Or.inl rfl | exact Or.inr (Or.inl rfl) | exact Or.inr (Or.inr rfl))) me_int) me_int) me_int) ma_nil)) me_int) (mg_subC (me_var (i := 0) rfl (by first | exact Or.inl rfl | exact Or.inr (Or.inl rfl) | exact Or.inr (Or.inr rfl))) me_int)) (ms_one (ms_ret (me_bin oM_mod (me_callTy cB_int rfl T.z_int (by decide +kernel) (ma_cons (me_bin oM_fdiv (me_bin oM_mod (me_callTy cB_int rfl T.z_int (by decide +kernel) (ma_cons (me_bin oM_mul (me_ix (me_var (i := 0) rfl (by first | exact Or.inl rfl | exact Or.inr (Or.inl rfl) | exact Or.inr (Or.inr rfl))) me_int) (me_ix (me_var (i := 0) rfl (by first | exact Or.inl rfl | exact Or.inr (Or.inl rfl) | exact Or.inr (Or.inr rfl))) me_int)) ma_nil)) me_int) me_int) ma_nil)) (me_var (i := 1) rfl (by first | exact Or.inl rfl | exact Or.inr (Or.inl rfl) | exact Or.inr (Or.inr rfl))))))))
theorem sc__law_among : FnScope N__law_among ["_law_pot_here", "_law_some"] (defScope s__law_among) := ⟨rfl, rfl, rfl, by decide +kernel, rfl, by decide +kernel, by decide +kernel⟩
theorem ok__law_among (T : Ok K mg ad) : FnP P w K mg base 2 ad.a__law_among f__law_among := by
  have d__law_draw := ok__law_draw (P := P) (w := w) (base := base) T
  have nd : N__law_among.Nodup := sc__law_among.nd
  refine T.F__law_among.pos (k := 1) (l := 0) (b := b__law_among) sc__law_among (fun _ _ _ _ _ _ us hl => match us, hl with | [_, _], _ => rfl) fun cdv A outer s H hr hg => ?_
  exact (ms_one (ms_ret (me_ix (me_var (i := 1) rfl (by first | exact Or.inl rfl | exact Or.inr (Or.inl rfl) | exact Or.inr (Or.inr rfl))) (me_call (callR_fn d__law_draw (hr.mono (by decide)) hg) rfl T.g__law_draw T.k__law_draw (ma_cons (me_var (i := 0) rfl (by first | exact Or.inl rfl | exact Or.inr (Or.inl rfl) | exact Or.inr (Or.inr rfl))) (ma_cons (me_callB cB_len rfl T.z_len (by decide +kernel) (ma_cons (me_var (i := 1) rfl (by first | exact Or.inl rfl | exact Or.inr (Or.inl rfl) | exact Or.inr (Or.inr rfl))) ma_nil)) ma_nil))))))
theorem sc__law_names : FnScope N__law_names ["_law_pot_here", "_law_many"] (defScope s__law_names) := ⟨rfl, rfl, rfl, by decide +kernel, rfl, by decide +kernel, by decide +kernel⟩
theorem ok__law_names (T : Ok K mg ad) : FnP P w K mg base 3 ad.a__law_names f__law_names := by
  have d__law_draw := ok__law_draw (P := P) (w := w) (base := base) T
  have d__law_among := ok__law_among (P := P) (w := w) (base := base) T
  have nd : N__law_names.Nodup := sc__law_names.nd
  refine T.F__law_names.pos (k := 2) (l := 8) (b := b__law_names) sc__law_names (fun _ _ _ _ _ _ us hl => match us, hl with | [_, _], _ => rfl) fun cdv A outer s H hr hg => ?_
  exact (ms_cons (by first | exact ms_par2 (i := 3) (j := 4) rfl nd rfl rfl (by decide) rfl rfl (ma_cons (me_str (c := [97, 98, 99, 100, 101, 102, 103, 104, 105, 106, 107, 108, 109, 110, 111, 112, 113, 114, 115, 116, 117, 118, 119, 120, 121, 122])) (ma_cons (me_lstM ma_nil) ma_nil)) (by rfl) | exact ms_set (me_tup (ma_cons (me_str (c := [97, 98, 99, 100, 101, 102, 103, 104, 105, 106, 107, 108, 109, 110, 111, 112, 113, 114, 115, 116, 117, 118, 119, 120, 121, 122])) (ma_cons (me_lstM ma_nil) ma_nil))) (mg_tup rfl (mgs_cons (mg_name (n := 3) nd rfl (by first | exact Or.inl rfl | exact Or.inr rfl)) (mgs_cons (mg_name (n := 4) nd rfl (by first | exact Or.inl rfl | exact Or.inr rfl)) mgs_nil)))) (ms_cons (ms_for rfl rfl (mi_range1 rfl T.z_range (ma_cons (me_var (i := 1) rfl (by first | exact Or.inl rfl | exact Or.inr (Or.inl rfl) | exact Or.inr (Or.inr rfl))) ma_nil)) (mg_name (n := 2) nd rfl (by first | exact Or.inl rfl | exact Or.inr rfl)) (ms_cons (ms_set (me_bin oM_add me_int (me_call (callR_fn d__law_draw (hr.mono (by decide)) hg) rfl T.g__law_draw T.k__law_draw (ma_cons (me_var (i := 0) rfl (by first | exact Or.inl rfl | exact Or.inr (Or.inl rfl) | exact Or.inr (Or.inr rfl))) (ma_cons (me_call (callR_fn d__law_among (hr.mono (by decide)) hg) rfl T.g__law_among T.k__law_among (ma_cons (me_var (i := 0) rfl (by first | exact Or.inl rfl | exact Or.inr (Or.inl rfl) | exact Or.inr (Or.inr rfl))) (ma_cons (me_lst (ma_cons me_int (ma_cons me_int (ma_cons me_int (ma_cons me_int ma_nil))))) ma_nil))) ma_nil)))) (mg_name (n := 5) nd rfl (by first | exact Or.inl rfl | exact Or.inr rfl))) (ms_cons (ms_set (by exact me_join (me_str (c := [])) (by exact me_comp rfl nd (own := [("_law_sign", 8)]) (mi_range1 rfl T.z_range (ma_cons (me_var (i := 5) rfl (by first | exact Or.inl rfl | exact Or.inr (Or.inl rfl) | exact Or.inr (Or.inr rfl))) ma_nil)) (blkOk_by (own := [("_law_sign", 8)]) (N := N__law_names) (sc := defScope s__law_names) (by decide +kernel)) (by decide) (fun _ _ _ _ _ => (mg_name (n := 8) nd rfl (by first | exact Or.inl rfl | exact Or.inr rfl))) (fun _ _ _ _ _ => mts_nil) (fun _ _ _ _ _ => (me_ix (me_var (i := 3) rfl (by first | exact Or.inl rfl | exact Or.inr (Or.inl rfl) | exact Or.inr (Or.inr rfl))) (me_call (callR_fn d__law_draw (hr.mono (by decide)) hg) rfl T.g__law_draw T.k__law_draw (ma_cons (me_var (i := 0) rfl (by first | exact Or.inl rfl | exact Or.inr (Or.inl rfl) | exact Or.inr (Or.inr rfl))) (ma_cons me_int ma_nil))))))) (mg_name (n := 6) nd rfl (by first | exact Or.inl rfl | exact Or.inr rfl))) (ms_cons (ms_set (me_bin oM_add (me_lst (ma_cons (me_var (i := 6) rfl (by first | exact Or.inl rfl | exact Or.inr (Or.inl rfl) | exact Or.inr (Or.inr rfl))) ma_nil)) (by exact me_comp rfl nd (own := [("_law_sign", 8)]) (mi_str (me_var (i := 3) rfl (by first | exact Or.inl rfl | exact Or.inr (Or.inl rfl) | exact Or.inr (Or.inr rfl)))) (blkOk_by (own := [("_law_sign", 8)]) (N := N__law_names) (sc := defScope s__law_names) (by decide +kernel)) (by decide) (fun _ _ _ _ _ => (mg_name (n := 8) nd rfl (by first | exact Or.inl rfl | exact Or.inr rfl))) (fun _ _ _ _ _ => mts_nil) (fun _ _ _ _ _ => (me_bin oM_add (me_slice (me_var (i := 6) rfl (by first | exact Or.inl rfl | exact Or.inr (Or.inl rfl) | exact Or.inr (Or.inr rfl))) mo_none (mo_some me_int)) (me_var (i := 8) rfl (by first | exact Or.inl rfl | exact Or.inr (Or.inl rfl) | exact Or.inr (Or.inr rfl))))))) (mg_name (n := 7) nd rfl (by first | exact Or.inl rfl | exact Or.inr rfl))) (ms_one (ms_expr (me_appendC (me_var (i := 4) rfl (by first | exact Or.inl rfl | exact Or.inr (Or.inl rfl) | exact Or.inr (Or.inr rfl))) (ma_cons (me_ix (by exact me_comp rfl nd (own := [("_law_one", 9)]) (mi_seq (me_var (i := 7) rfl (by first | exact Or.inl rfl | exact Or.inr (Or.inl rfl) | exact Or.inr (Or.inr rfl)))) (blkOk_by (own := [("_law_one", 9)]) (N := N__law_names) (sc := defScope s__law_names) (by decide +kernel)) (by decide) (fun _ _ _ _ _ => (mg_name (n := 9) nd rfl (by first | exact Or.inl rfl | exact Or.inr rfl))) (fun _ _ _ _ _ => (mts_one (mt_cmp (oM_notIn (hu5_of hr)) (by rfl) (me_var (i := 9) rfl (by first | exact Or.inl rfl | exact Or.inr (Or.inl rfl) | exact Or.inr (Or.inr rfl))) (me_var (i := 4) rfl (by first | exact Or.inl rfl | exact Or.inr (Or.inl rfl) | exact Or.inr (Or.inr rfl)))))) (fun _ _ _ _ _ => (me_var (i := 9) rfl (by first | exact Or.inl rfl | exact Or.inr (Or.inl rfl) | exact Or.inr (Or.inr rfl))))) me_int) ma_nil)))))))) (ms_one (ms_ret (me_var (i := 4) rfl (by first | exact Or.inl rfl | exact Or.inr (Or.inl rfl) | exact Or.inr (Or.inr rfl)))))))
theorem sc__law_normed : FnScope N__law_normed ["_law_some"] (defScope s__law_normed) := ⟨rfl, rfl, rfl, by decide +kernel, rfl, by decide +kernel, by decide +kernel⟩
theorem ok__law_normed (T : Ok K mg ad) : FnP P w K mg base 1 ad.a__law_normed f__law_normed := by
  have nd : N__law_normed.Nodup := sc__law_normed.nd
  refine T.F__law_normed.pos (k := 0) (l := 3) (b := b__law_normed) sc__law_normed (fun _ _ _ _ _ _ us hl => match us, hl with | [_], _ => rfl) fun cdv A outer s H hr hg => ?_
  exact (ms_cons (by first | exact ms_par2 (i := 1) (j := 2) rfl nd rfl rfl (by decide) rfl rfl (ma_cons (me_callB (cB_min rfl) rfl T.z_min (by decide +kernel) (ma_cons (by exact me_comp rfl nd (own := [("_law_part", 3)]) (mi_seq (me_var (i := 0) rfl (by first | exact Or.inl rfl | exact Or.inr (Or.inl rfl) | exact Or.inr (Or.inr rfl)))) (blkOk_by (own := [("_law_part", 3)]) (N := N__law_normed) (sc := defScope s__law_normed) (by decide +kernel)) (by decide) (fun _ _ _ _ _ => (mg_name (n := 3) nd rfl (by first | exact Or.inl rfl | exact Or.inr rfl))) (fun _ _ _ _ _ => mts_nil) (fun _ _ _ _ _ => (me_ix (me_var (i := 3) rfl (by first | exact Or.inl rfl | exact Or.inr (Or.inl rfl) | exact Or.inr (Or.inr rfl))) me_int))) ma_nil)) (ma_cons (me_callB (cB_min rfl) rfl T.z_min (by decide +kernel) (ma_cons (by exact me_comp rfl nd (own := [("_law_part", 3)]) (mi_seq (me_var (i := 0) rfl (by first | exact Or.inl rfl | exact Or.inr (Or.inl rfl) | exact Or.inr (Or.inr rfl)))) (blkOk_by (own := [("_law_part", 3)]) (N := N__law_normed) (sc := defScope s__law_normed) (by decide +kernel)) (by decide) (fun _ _ _ _ _ => (mg_name (n := 3) nd rfl (by first | exact Or.inl rfl | exact Or.inr rfl))) (fun _ _ _ _ _ => mts_nil) (fun _ _ _ _ _ => (me_ix (me_var (i := 3) rfl (by first | exact Or.inl rfl | exact Or.inr (Or.inl rfl) | exact Or.inr (Or.inr rfl))) me_int))) ma_nil)) ma_nil)) (by rfl) | exact ms_set (me_tup (ma_cons (me_callB (cB_min rfl) rfl T.z_min (by decide +kernel) (ma_cons (by exact me_comp rfl nd (own := [("_law_part", 3)]) (mi_seq (me_var (i := 0) rfl (by first | exact Or.inl rfl | exact Or.inr (Or.inl rfl) | exact Or.inr (Or.inr rfl)))) (blkOk_by (own := [("_law_part", 3)]) (N := N__law_normed) (sc := defScope s__law_normed) (by decide +kernel)) (by decide) (fun _ _ _ _ _ => (mg_name (n := 3) nd rfl (by first | exact Or.inl rfl | exact Or.inr rfl))) (fun _ _ _ _ _ => mts_nil) (fun _ _ _ _ _ => (me_ix (me_var (i := 3) rfl (by first | exact Or.inl rfl | exact Or.inr (Or.inl rfl) | exact Or.inr (Or.inr rfl))) me_int))) ma_nil)) (ma_cons (me_callB (cB_min rfl) rfl T.z_min (by decide +kernel) (ma_cons (by exact me_comp rfl nd (own := [("_law_part", 3)]) (mi_seq (me_var (i := 0) rfl (by first | exact Or.inl rfl | exact Or.inr (Or.inl rfl) | exact Or.inr (Or.inr rfl)))) (blkOk_by (own := [("_law_part", 3)]) (N := N__law_normed) (sc := defScope s__law_normed) (by decide +kernel)) (by decide) (fun _ _ _ _ _ => (mg_name (n := 3) nd rfl (by first | exact Or.inl rfl | exact Or.inr rfl))) (fun _ _ _ _ _ => mts_nil) (fun _ _ _ _ _ => (me_ix (me_var (i := 3) rfl (by first | exact Or.inl rfl | exact Or.inr (Or.inl rfl) | exact Or.inr (Or.inr rfl))) me_int))) ma_nil)) ma_nil))) (mg_tup rfl (mgs_cons (mg_name (n := 1) nd rfl (by first | exact Or.inl rfl | exact Or.inr rfl)) (mgs_cons (mg_name (n := 2) nd rfl (by first | exact Or.inl rfl | exact Or.inr rfl)) mgs_nil)))) (ms_one (ms_ret (me_callB (cB_sorted (hu_of hr)) rfl T.z_sorted (by decide +kernel) (ma_cons (by exact me_comp rfl nd (own := [("_law_part", 3)]) (mi_seq (me_var (i := 0) rfl (by first | exact Or.inl rfl | exact Or.inr (Or.inl rfl) | exact Or.inr (Or.inr rfl)))) (blkOk_by (own := [("_law_part", 3)]) (N := N__law_normed) (sc := defScope s__law_normed) (by decide +kernel)) (by decide) (fun _ _ _ _ _ => (mg_name (n := 3) nd rfl (by first | exact Or.inl rfl | exact Or.inr rfl))) (fun _ _ _ _ _ => mts_nil) (fun _ _ _ _ _ => (me_tup (ma_cons (me_bin oM_sub (me_ix (me_var (i := 3) rfl (by first | exact Or.inl rfl | exact Or.inr (Or.inl rfl) | exact Or.inr (Or.inr rfl))) me_int) (me_var (i := 1) rfl (by first | exact Or.inl rfl | exact Or.inr (Or.inl rfl) | exact Or.inr (Or.inr rfl)))) (ma_cons (me_bin oM_sub (me_ix (me_var (i := 3) rfl (by first | exact Or.inl rfl | exact Or.inr (Or.inl rfl) | exact Or.inr (Or.inr rfl))) me_int) (me_var (i := 2) rfl (by first | exact Or.inl rfl | exact Or.inr (Or.inl rfl) | exact Or.inr (Or.inr rfl)))) (ma_cons (me_ix (me_var (i := 3) rfl (by first | exact Or.inl rfl | exact Or.inr (Or.inl rfl) | exact Or.inr (Or.inr rfl))) me_int) ma_nil)))))) ma_nil)))))
theorem sc__law_entries : FnScope N__law_entries ["_law_pot_here", "_law_tags"] (defScope s__law_entries) := ⟨rfl, rfl, rfl, by decide +kernel, rfl, by decide +kernel, by decide +kernel⟩
theorem ok__law_entries (T : Ok K mg ad) : FnP P w K mg base 3 ad.a__law_entries f__law_entries := by
  have d__law_draw := ok__law_draw (P := P) (w := w) (base := base) T
  have d__law_among := ok__law_among (P := P) (w := w) (base := base) T
  have d__law_normed := ok__law_normed (P := P) (w := w) (base := base) T
  have nd : N__law_entries.Nodup := sc__law_entries.nd
  refine T.F__law_entries.pos (k := 2) (l := 8) (b := b__law_entries) sc__law_entries (fun _ _ _ _ _ _ us hl => match us, hl with | [_, _], _ => rfl) fun cdv A outer s H hr hg => ?_
  exact (ms_cons (by first | exact ms_par3 (i := 5) (j := 6) (l := 7) rfl nd rfl rfl rfl (by decide) (by decide) (by decide) rfl rfl rfl (ma_cons (me_call (callR_fn d__law_draw (hr.mono (by decide)) hg) rfl T.g__law_draw T.k__law_draw (ma_cons (me_var (i := 0) rfl (by first | exact Or.inl rfl | exact Or.inr (Or.inl rfl) | exact Or.inr (Or.inr rfl))) (ma_cons me_int ma_nil))) (ma_cons (me_call (callR_fn d__law_draw (hr.mono (by decide)) hg) rfl T.g__law_draw T.k__law_draw (ma_cons (me_var (i := 0) rfl (by first | exact Or.inl rfl | exact Or.inr (Or.inl rfl) | exact Or.inr (Or.inr rfl))) (ma_cons me_int ma_nil))) (ma_cons (me_lstM ma_nil) ma_nil))) (by rfl) | exact ms_set (me_tup (ma_cons (me_call (callR_fn d__law_draw (hr.mono (by decide)) hg) rfl T.g__law_draw T.k__law_draw (ma_cons (me_var (i := 0) rfl (by first | exact Or.inl rfl | exact Or.inr (Or.inl rfl) | exact Or.inr (Or.inr rfl))) (ma_cons me_int ma_nil))) (ma_cons (me_call (callR_fn d__law_draw (hr.mono (by decide)) hg) rfl T.g__law_draw T.k__law_draw (ma_cons (me_var (i := 0) rfl (by first | exact Or.inl rfl | exact Or.inr (Or.inl rfl) | exact Or.inr (Or.inr rfl))) (ma_cons me_int ma_nil))) (ma_cons (me_lstM ma_nil) ma_nil)))) (mg_tup rfl (mgs_cons (mg_name (n := 5) nd rfl (by first | exact Or.inl rfl | exact Or.inr rfl)) (mgs_cons (mg_name (n := 6) nd rfl (by first | exact Or.inl rfl | exact Or.inr rfl)) (mgs_cons (mg_name (n := 7) nd rfl (by first | exact Or.inl rfl | exact Or.inr rfl)) mgs_nil))))) (ms_cons (ms_if (mt_w (mw_and (mt_cmp (oM_eq (hu_of hr)) (by rfl) (me_var (i := 5) rfl (by first | exact Or.inl rfl | exact Or.inr (Or.inl rfl) | exact Or.inr (Or.inr rfl))) me_int) (mw_and (mt_cmp (oM_eq (hu_of hr)) (by rfl) (me_var (i := 6) rfl (by first | exact Or.inl rfl | exact Or.inr (Or.inl rfl) | exact Or.inr (Or.inr rfl))) me_int) (mw_and1 (mt_cmp (oM_eq (hu_of hr)) (by rfl) (me_callB cB_len rfl T.z_len (by decide +kernel) (ma_cons (me_var (i := 1) rfl (by first | exact Or.inl rfl | exact Or.inr (Or.inl rfl) | exact Or.inr (Or.inr rfl))) ma_nil)) me_int))))) (ms_one (ms_set me_int (mg_name (n := 5) nd rfl (by first | exact Or.inl rfl | exact Or.inr rfl)))) ms_nil) (ms_cons (ms_for rfl rfl (mi_range1 rfl T.z_range (ma_cons (me_bin oM_add (me_var (i := 5) rfl (by first | exact Or.inl rfl | exact Or.inr (Or.inl rfl) | exact Or.inr (Or.inr rfl))) me_int) ma_nil)) (mg_name (n := 2) nd rfl (by first | exact Or.inl rfl | exact Or.inr rfl)) (ms_one (ms_for rfl rfl (mi_range1 rfl T.z_range (ma_cons (me_bin oM_add (me_var (i := 6) rfl (by first | exact Or.inl rfl | exact Or.inr (Or.inl rfl) | exact Or.inr (Or.inr rfl))) me_int) ma_nil)) (mg_name (n := 8) nd rfl (by first | exact Or.inl rfl | exact Or.inr rfl)) (ms_one (ms_expr (me_extendC (me_var (i := 7) rfl (by first | exact Or.inl rfl | exact Or.inr (Or.inl rfl) | exact Or.inr (Or.inr rfl))) (ma_cons (by exact me_comp rfl nd (own := [("_law_tag", 9)]) (mi_seq (me_var (i := 1) rfl (by first | exact Or.inl rfl | exact Or.inr (Or.inl rfl) | exact Or.inr (Or.inr rfl)))) (blkOk_by (own := [("_law_tag", 9)]) (N := N__law_entries) (sc := defScope s__law_entries) (by decide +kernel)) (by decide) (fun _ _ _ _ _ => (mg_name (n := 9) nd rfl (by first | exact Or.inl rfl | exact Or.inr rfl))) (fun _ _ _ _ _ => mts_nil) (fun _ _ _ _ _ => (me_tup (ma_cons (me_var (i := 2) rfl (by first | exact Or.inl rfl | exact Or.inr (Or.inl rfl) | exact Or.inr (Or.inr rfl))) (ma_cons (me_var (i := 8) rfl (by first | exact Or.inl rfl | exact Or.inr (Or.inl rfl) | exact Or.inr (Or.inr rfl))) (ma_cons (me_var (i := 9) rfl (by first | exact Or.inl rfl | exact Or.inr (Or.inl rfl) | exact Or.inr (Or.inr rfl))) ma_nil)))))) ma_nil))))))) (ms_cons (ms_set (me_lstM ma_nil) (mg_name (n := 3) nd rfl (by first | exact Or.inl rfl | exact Or.inr rfl))) (ms_cons (ms_for rfl rfl (mi_range1 rfl T.z_range (ma_cons (me_callB (cB_min rfl) rfl T.z_min (by decide +kernel) (ma_cons (me_callB cB_len rfl T.z_len (by decide +kernel) (ma_cons (me_var (i := 7) rfl (by first | exact Or.inl rfl | exact Or.inr (Or.inl rfl) | exact Or.inr (Or.inr rfl))) ma_nil)) (ma_cons (me_call (callR_fn d__law_among (hr.mono (by decide)) hg) rfl T.g__law_among T.k__law_among (ma_cons (me_var (i := 0) rfl (by first | exact Or.inl rfl | exact Or.inr (Or.inl rfl) | exact Or.inr (Or.inr rfl))) (ma_cons (me_lst (ma_cons me_int (ma_cons me_int (ma_cons me_int (ma_cons me_int (ma_cons me_int (ma_cons me_int (ma_cons me_int ma_nil)))))))) ma_nil))) ma_nil))) ma_nil)) (mg_name (n := 4) nd rfl (by first | exact Or.inl rfl | exact Or.inr rfl)) (ms_one (ms_expr (me_appendC (me_var (i := 3) rfl (by first | exact Or.inl rfl | exact Or.inr (Or.inl rfl) | exact Or.inr (Or.inr rfl))) (ma_cons (me_popC (me_var (i := 7) rfl (by first | exact Or.inl rfl | exact Or.inr (Or.inl rfl) | exact Or.inr (Or.inr rfl))) (ma_cons (me_call (callR_fn d__law_draw (hr.mono (by decide)) hg) rfl T.g__law_draw T.k__law_draw (ma_cons (me_var (i := 0) rfl (by first | exact Or.inl rfl | exact Or.inr (Or.inl rfl) | exact Or.inr (Or.inr rfl))) (ma_cons (me_callB cB_len rfl T.z_len (by decide +kernel) (ma_cons (me_var (i := 7) rfl (by first | exact Or.inl rfl | exact Or.inr (Or.inl rfl) | exact Or.inr (Or.inr rfl))) ma_nil)) ma_nil))) ma_nil)) ma_nil))))) (ms_one (ms_ret (me_call (callR_fn d__law_normed (hr.mono (by decide)) hg) rfl T.g__law_normed T.k__law_normed (ma_cons (me_var (i := 3) rfl (by first | exact Or.inl rfl | exact Or.inr (Or.inl rfl) | exact Or.inr (Or.inr rfl))) ma_nil)))))))))
theorem sc__law_mixed : FnScope N__law_mixed ["_law_pot_here", "_law_some"] (defScope s__law_mixed) := ⟨rfl, rfl, rfl, by decide +kernel, rfl, by decide +kernel, by decide +kernel⟩
theorem ok__law_mixed (T : Ok K mg ad) : FnP P w K mg base 2 ad.a__law_mixed f__law_mixed := by
  have d__law_draw := ok__law_draw (P := P) (w := w) (base := base) T
  have nd : N__law_mixed.Nodup := sc__law_mixed.nd
  refine T.F__law_mixed.pos (k := 1) (l := 3) (b := b__law_mixed) sc__law_mixed (fun _ _ _ _ _ _ us hl => match us, hl with | [_, _], _ => rfl) fun cdv A outer s H hr hg => ?_
  exact (ms_cons (by first | exact ms_par2 (i := 3) (j := 4) rfl nd rfl rfl (by decide) rfl rfl (ma_cons (me_listM rfl T.z_list (me_var (i := 1) rfl (by first | exact Or.inl rfl | exact Or.inr (Or.inl rfl) | exact Or.inr (Or.inr rfl)))) (ma_cons (me_lstM ma_nil) ma_nil)) (by rfl) | exact ms_set (me_tup (ma_cons (me_listM rfl T.z_list (me_var (i := 1) rfl (by first | exact Or.inl rfl | exact Or.inr (Or.inl rfl) | exact Or.inr (Or.inr rfl)))) (ma_cons (me_lstM ma_nil) ma_nil))) (mg_tup rfl (mgs_cons (mg_name (n := 3) nd rfl (by first | exact Or.inl rfl | exact Or.inr rfl)) (mgs_cons (mg_name (n := 4) nd rfl (by first | exact Or.inl rfl | exact Or.inr rfl)) mgs_nil)))) (ms_cons (ms_for rfl rfl (mi_range1 rfl T.z_range (ma_cons (me_callB cB_len rfl T.z_len (by decide +kernel) (ma_cons (me_var (i := 1) rfl (by first | exact Or.inl rfl | exact Or.inr (Or.inl rfl) | exact Or.inr (Or.inr rfl))) ma_nil)) ma_nil)) (mg_name (n := 2) nd rfl (by first | exact Or.inl rfl | exact Or.inr rfl)) (ms_one (ms_expr (me_appendC (me_var (i := 4) rfl (by first | exact Or.inl rfl | exact Or.inr (Or.inl rfl) | exact Or.inr (Or.inr rfl))) (ma_cons (me_popC (me_var (i := 3) rfl (by first | exact Or.inl rfl | exact Or.inr (Or.inl rfl) | exact Or.inr (Or.inr rfl))) (ma_cons (me_call (callR_fn d__law_draw (hr.mono (by decide)) hg) rfl T.g__law_draw T.k__law_draw (ma_cons (me_var (i := 0) rfl (by first | exact Or.inl rfl | exact Or.inr (Or.inl rfl) | exact Or.inr (Or.inr rfl))) (ma_cons (me_callB cB_len rfl T.z_len (by decide +kernel) (ma_cons (me_var (i := 3) rfl (by first | exact Or.inl rfl | exact Or.inr (Or.inl rfl) | exact Or.inr (Or.inr rfl))) ma_nil)) ma_nil))) ma_nil)) ma_nil))))) (ms_one (ms_ret (me_var (i := 4) rfl (by first | exact Or.inl rfl | exact Or.inr (Or.inl rfl) | exact Or.inr (Or.inr rfl)))))))
theorem sc__law_passed : FnScope N__law_passed ["_law_pot_here", "_law_some"] (defScope s__law_passed) := ⟨rfl, rfl, rfl, by decide +kernel, rfl, by decide +kernel, by decide +kernel⟩
theorem ok__law_passedK (T : Ok K mg ad) : FnP P w K mg base 3 ad.a__law_passed f__law_passedK := by
  have d__law_draw := ok__law_draw (P := P) (w := w) (base := base) T
  have d__law_mixed := ok__law_mixed (P := P) (w := w) (base := base) T
  have nd : N__law_passed.Nodup := sc__law_passed.nd
  refine T.F__law_passed.posK (k := 2) (l := 3) (b := b__law_passedK) sc__law_passed (fun _ _ _ _ _ _ us hl => match us, hl with | [_, _], _ => rfl) fun cdv A outer s H hr hg => ?_
  exact (ms_cons (by first | exact ms_par2 (i := 2) (j := 3) rfl nd rfl rfl (by decide) rfl rfl (ma_cons (me_bin oM_sub (me_call (callR_fn d__law_draw (hr.mono (by decide)) hg) rfl T.g__law_draw T.k__law_draw (ma_cons (me_var (i := 0) rfl (by first | exact Or.inl rfl | exact Or.inr (Or.inl rfl) | exact Or.inr (Or.inr rfl))) (ma_cons me_int ma_nil))) me_int) (ma_cons (me_bin oM_sub (me_call (callR_fn d__law_draw (hr.mono (by decide)) hg) rfl T.g__law_draw T.k__law_draw (ma_cons (me_var (i := 0) rfl (by first | exact Or.inl rfl | exact Or.inr (Or.inl rfl) | exact Or.inr (Or.inr rfl))) (ma_cons me_int ma_nil))) me_int) ma_nil)) (by rfl) | exact ms_set (me_tup (ma_cons (me_bin oM_sub (me_call (callR_fn d__law_draw (hr.mono (by decide)) hg) rfl T.g__law_draw T.k__law_draw (ma_cons (me_var (i := 0) rfl (by first | exact Or.inl rfl | exact Or.inr (Or.inl rfl) | exact Or.inr (Or.inr rfl))) (ma_cons me_int ma_nil))) me_int) (ma_cons (me_bin oM_sub (me_call (callR_fn d__law_draw (hr.mono (by decide)) hg) rfl T.g__law_draw T.k__law_draw (ma_cons (me_var (i := 0) rfl (by first | exact Or.inl rfl | exact Or.inr (Or.inl rfl) | exact Or.inr (Or.inr rfl))) (ma_cons me_int ma_nil))) me_int) ma_nil))) (mg_tup rfl (mgs_cons (mg_name (n := 2) nd rfl (by first | exact Or.inl rfl | exact Or.inr rfl)) (mgs_cons (mg_name (n := 3) nd rfl (by first | exact Or.inl rfl | exact Or.inr rfl)) mgs_nil)))) (ms_one (ms_ret (by exact me_compM rfl nd (own := [("_law_part", 4)]) (mi_seq (me_call (callR_fn d__law_mixed (hr.mono (by decide)) hg) rfl T.g__law_mixed T.k__law_mixed (ma_cons (me_var (i := 0) rfl (by first | exact Or.inl rfl | exact Or.inr (Or.inl rfl) | exact Or.inr (Or.inr rfl))) (ma_cons (me_var (i := 1) rfl (by first | exact Or.inl rfl | exact Or.inr (Or.inl rfl) | exact Or.inr (Or.inr rfl))) ma_nil)))) (blkOk_by (own := [("_law_part", 4)]) (N := N__law_passed) (sc := defScope s__law_passed) (by decide +kernel)) (by decide) (fun _ _ _ _ _ => (mg_name (n := 4) nd rfl (by first | exact Or.inl rfl | exact Or.inr rfl))) (fun _ _ _ _ _ => mts_nil) (fun _ _ _ _ _ => (me_tup (ma_cons (me_bin oM_add (me_ix (me_var (i := 4) rfl (by first | exact Or.inl rfl | exact Or.inr (Or.inl rfl) | exact Or.inr (Or.inr rfl))) me_int) (me_var (i := 2) rfl (by first | exact Or.inl rfl | exact Or.inr (Or.inl rfl) | exact Or.inr (Or.inr rfl)))) (ma_cons (me_bin oM_add (me_ix (me_var (i := 4) rfl (by first | exact Or.inl rfl | exact Or.inr (Or.inl rfl) | exact Or.inr (Or.inr rfl))) me_int) (me_var (i := 3) rfl (by first | exact Or.inl rfl | exact Or.inr (Or.inl rfl) | exact Or.inr (Or.inr rfl)))) (ma_cons (me_ix (me_var (i := 4) rfl (by first | exact Or.inl rfl | exact Or.inr (Or.inl rfl) | exact Or.inr (Or.inr rfl))) me_int) ma_nil)))))))))
theorem sc_is_integer : FnScope N_is_integer ["value"] (defScope s_is_integer) := ⟨rfl, rfl, rfl, by decide +kernel, rfl, by decide +kernel, by decide +kernel⟩
theorem ok_is_integer (T : Ok K mg ad) : FnP P w K mg base 1 ad.a_is_integer f_is_integer := by
  have nd : N_is_integer.Nodup := sc_is_integer.nd
  refine T.F_is_integer.pos (k := 0) (l := 0) (b := b_is_integer) sc_is_integer (fun _ _ _ _ _ _ us hl => match us, hl with | [_], _ => rfl) fun cdv A outer s H hr hg => ?_
  exact (ms_one (ms_ret (me_and (me_isA (IsOk.cons (T.is_Kind _ rfl rfl) IsOk.nil) (by decide) (me_var (i := 0) rfl (by first | exact Or.inl rfl | exact Or.inr (Or.inl rfl) | exact Or.inr (Or.inr rfl))) rfl T.z_isinstance (pe_bty rfl T.z_int)) (me_one (me_not (me_isA (IsOk.cons (T.is_Kind _ rfl rfl) IsOk.nil) (by decide) (me_var (i := 0) rfl (by first | exact Or.inl rfl | exact Or.inr (Or.inl rfl) | exact Or.inr (Or.inr rfl))) rfl T.z_isinstance (pe_bty rfl T.z_bool)))))))
theorem sc_is_step : FnScope N_is_step ["value"] (defScope s_is_step) := ⟨rfl, rfl, rfl, by decide +kernel, rfl, by decide +kernel, by decide +kernel⟩
theorem ok_is_step (T : Ok K mg ad) : FnP P w K mg base 2 ad.a_is_step f_is_step := by
  have d_is_integer := ok_is_integer (P := P) (w := w) (base := base) T
  have nd : N_is_step.Nodup := sc_is_step.nd
  refine T.F_is_step.pos (k := 1) (l := 0) (b := b_is_step) sc_is_step (fun _ _ _ _ _ _ us hl => match us, hl with | [_], _ => rfl) fun cdv A outer s H hr hg => ?_
  exact (ms_one (ms_ret (me_and (me_call (callR_fn d_is_integer (hr.mono (by decide)) hg) rfl T.g_is_integer T.k_is_integer (ma_cons (me_var (i := 0) rfl (by first | exact Or.inl rfl | exact Or.inr (Or.inl rfl) | exact Or.inr (Or.inr rfl))) ma_nil)) (me_one (me_chain oM_le oM_le (me_neg (T.c_FARTHEST.elim fun _ h => me_gint rfl h)) (me_var (i := 0) rfl (by first | exact Or.inl rfl | exact Or.inr (Or.inl rfl) | exact Or.inr (Or.inr rfl))) (T.c_FARTHEST.elim fun _ h => me_gint rfl h))))))
theorem sc_is_name : FnScope N_is_name ["value"] (defScope s_is_name) := ⟨rfl, rfl, rfl, by decide +kernel, rfl, by decide +kernel, by decide +kernel⟩
theorem ok_is_name (T : Ok K mg ad) : FnP P w K mg base 1 ad.a_is_name f_is_name := by
  have nd : N_is_name.Nodup := sc_is_name.nd
  refine T.F_is_name.pos (k := 0) (l := 1) (b := b_is_name) sc_is_name (fun _ _ _ _ _ _ us hl => match us, hl with | [_], _ => rfl) fun cdv A outer s H hr hg => ?_
  exact (ms_cons (ms_if (mt_w (mw_or (mt_not (mt_val (me_isA (IsOk.cons (T.is_Kind _ rfl rfl) IsOk.nil) (by decide) (me_var (i := 0) rfl (by first | exact Or.inl rfl | exact Or.inr (Or.inl rfl) | exact Or.inr (Or.inr rfl))) rfl T.z_isinstance (pe_bty rfl T.z_str)))) (mw_or1 (mt_not (mt_chain oM_le oM_le me_int (me_callB cB_len rfl T.z_len (by decide +kernel) (ma_cons (me_var (i := 0) rfl (by first | exact Or.inl rfl | exact Or.inr (Or.inl rfl) | exact Or.inr (Or.inr rfl))) ma_nil)) (T.c_LONGEST_NAME.elim fun _ h => me_gint rfl h)))))) (ms_one (ms_ret me_bl)) ms_nil) (ms_one (ms_ret (me_callB (cB_all rfl) rfl T.z_all (by decide +kernel) (ma_cons (by exact me_comp rfl nd (own := [("sign", 1)]) (mi_str (me_var (i := 0) rfl (by first | exact Or.inl rfl | exact Or.inr (Or.inl rfl) | exact Or.inr (Or.inr rfl)))) (blkOk_by (own := [("sign", 1)]) (N := N_is_name) (sc := defScope s_is_name) (by decide +kernel)) (by decide) (fun _ _ _ _ _ => (mg_name (n := 1) nd rfl (by first | exact Or.inl rfl | exact Or.inr rfl))) (fun _ _ _ _ _ => mts_nil) (fun _ _ _ _ _ => (me_cmp (oM_in (hu5_of hr)) (by rfl) (me_var (i := 1) rfl (by first | exact Or.inl rfl | exact Or.inr (Or.inl rfl) | exact Or.inr (Or.inr rfl))) (T.c_LETTERS.elim fun _ h => me_gstr rfl h)))) ma_nil)))))
theorem sc_is_entry : FnScope N_is_entry ["value"] (defScope s_is_entry) := ⟨rfl, rfl, rfl, by decide +kernel, rfl, by decide +kernel, by decide +kernel⟩
theorem ok_is_entry (T : Ok K mg ad) : FnP P w K mg base 3 ad.a_is_entry f_is_entry := by
  have d_is_step := ok_is_step (P := P) (w := w) (base := base) T
  have d_is_name := ok_is_name (P := P) (w := w) (base := base) T
  have nd : N_is_entry.Nodup := sc_is_entry.nd
  refine T.F_is_entry.pos (k := 2) (l := 0) (b := b_is_entry) sc_is_entry (fun _ _ _ _ _ _ us hl => match us, hl with | [_], _ => rfl) fun cdv A outer s H hr hg => ?_
  exact (ms_cons (ms_if (mt_w (mw_or (mt_not (mt_val (me_isA (IsOk.cons (T.is_Kind _ rfl rfl) IsOk.nil) (by decide) (me_var (i := 0) rfl (by first | exact Or.inl rfl | exact Or.inr (Or.inl rfl) | exact Or.inr (Or.inr rfl))) rfl T.z_isinstance (pe_bty rfl T.z_tuple)))) (mw_or1 (mt_cmp (oM_ne (hu_of hr)) (by rfl) (me_callB cB_len rfl T.z_len (by decide +kernel) (ma_cons (me_var (i := 0) rfl (by first | exact Or.inl rfl | exact Or.inr (Or.inl rfl) | exact Or.inr (Or.inr rfl))) ma_nil)) me_int)))) (ms_one (ms_ret me_bl)) ms_nil) (ms_one (ms_ret (me_and (me_call (callR_fn d_is_step (hr.mono (by decide)) hg) rfl T.g_is_step T.k_is_step (ma_cons (me_ix (me_var (i := 0) rfl (by first | exact Or.inl rfl | exact Or.inr (Or.inl rfl) | exact Or.inr (Or.inr rfl))) me_int) ma_nil)) (me_and (me_call (callR_fn d_is_step (hr.mono (by decide)) hg) rfl T.g_is_step T.k_is_step (ma_cons (me_ix (me_var (i := 0) rfl (by first | exact Or.inl rfl | exact Or.inr (Or.inl rfl) | exact Or.inr (Or.inr rfl))) me_int) ma_nil)) (me_one (me_call (callR_fn d_is_name (hr.mono (by decide)) hg) rfl T.g_is_name T.k_is_name (ma_cons (me_ix (me_var (i := 0) rfl (by first | exact Or.inl rfl | exact Or.inr (Or.inl rfl) | exact Or.inr (Or.inr rfl))) me_int) ma_nil))))))))
theorem sc_shifted : FnScope N_shifted ["entries", "across", "up"] (defScope s_shifted) := ⟨rfl, rfl, rfl, by decide +kernel, rfl, by decide +kernel, by decide +kernel⟩
theorem ok_shifted (T : Ok K mg ad) : FnP P w K mg base 1 ad.a_shifted f_shifted := by
  have nd : N_shifted.Nodup := sc_shifted.nd
  refine T.F_shifted.pos (k := 0) (l := 3) (b := b_shifted) sc_shifted (fun _ _ _ _ _ _ us hl => match us, hl with | [_, _, _], _ => rfl) fun cdv A outer s H hr hg => ?_
  exact (ms_one (ms_ret (by exact me_comp rfl nd (own := [("here", 3), ("there", 4), ("name", 5)]) (mi_seq (me_var (i := 0) rfl (by first | exact Or.inl rfl | exact Or.inr (Or.inl rfl) | exact Or.inr (Or.inr rfl)))) (blkOk_by (own := [("here", 3), ("there", 4), ("name", 5)]) (N := N_shifted) (sc := defScope s_shifted) (by decide +kernel)) (by decide) (fun _ _ _ _ _ => (mg_tup rfl (mgs_cons (mg_name (n := 3) nd rfl (by first | exact Or.inl rfl | exact Or.inr rfl)) (mgs_cons (mg_name (n := 4) nd rfl (by first | exact Or.inl rfl | exact Or.inr rfl)) (mgs_cons (mg_name (n := 5) nd rfl (by first | exact Or.inl rfl | exact Or.inr rfl)) mgs_nil))))) (fun _ _ _ _ _ => mts_nil) (fun _ _ _ _ _ => (me_tup (ma_cons (me_bin oM_add (me_var (i := 3) rfl (by first | exact Or.inl rfl | exact Or.inr (Or.inl rfl) | exact Or.inr (Or.inr rfl))) (me_var (i := 1) rfl (by first | exact Or.inl rfl | exact Or.inr (Or.inl rfl) | exact Or.inr (Or.inr rfl)))) (ma_cons (me_bin oM_add (me_var (i := 4) rfl (by first | exact Or.inl rfl | exact Or.inr (Or.inl rfl) | exact Or.inr (Or.inr rfl))) (me_var (i := 2) rfl (by first | exact Or.inl rfl | exact Or.inr (Or.inl rfl) | exact Or.inr (Or.inr rfl)))) (ma_cons (me_var (i := 5) rfl (by first | exact Or.inl rfl | exact Or.inr (Or.inl rfl) | exact Or.inr (Or.inr rfl))) ma_nil))))))))
theorem sc_normed : FnScope N_normed ["entries"] (defScope s_normed) := ⟨rfl, rfl, rfl, by decide +kernel, rfl, by decide +kernel, by decide +kernel⟩
theorem ok_normed (T : Ok K mg ad) : FnP P w K mg base 2 ad.a_normed f_normed := by
  have d_shifted := ok_shifted (P := P) (w := w) (base := base) T
  have nd : N_normed.Nodup := sc_normed.nd
  refine T.F_normed.pos (k := 1) (l := 3) (b := b_normed) sc_normed (fun _ _ _ _ _ _ us hl => match us, hl with | [_], _ => rfl) fun cdv A outer s H hr hg => ?_
  exact (ms_cons (ms_set (me_callB (cB_min rfl) rfl T.z_min (by decide +kernel) (ma_cons (by exact me_comp rfl nd (own := [("entry", 3)]) (mi_seq (me_var (i := 0) rfl (by first | exact Or.inl rfl | exact Or.inr (Or.inl rfl) | exact Or.inr (Or.inr rfl)))) (blkOk_by (own := [("entry", 3)]) (N := N_normed) (sc := defScope s_normed) (by decide +kernel)) (by decide) (fun _ _ _ _ _ => (mg_name (n := 3) nd rfl (by first | exact Or.inl rfl | exact Or.inr rfl))) (fun _ _ _ _ _ => mts_nil) (fun _ _ _ _ _ => (me_ix (me_var (i := 3) rfl (by first | exact Or.inl rfl | exact Or.inr (Or.inl rfl) | exact Or.inr (Or.inr rfl))) me_int))) ma_nil)) (mg_name (n := 1) nd rfl (by first | exact Or.inl rfl | exact Or.inr rfl))) (ms_cons (ms_set (me_callB (cB_min rfl) rfl T.z_min (by decide +kernel) (ma_cons (by exact me_comp rfl nd (own := [("entry", 3)]) (mi_seq (me_var (i := 0) rfl (by first | exact Or.inl rfl | exact Or.inr (Or.inl rfl) | exact Or.inr (Or.inr rfl)))) (blkOk_by (own := [("entry", 3)]) (N := N_normed) (sc := defScope s_normed) (by decide +kernel)) (by decide) (fun _ _ _ _ _ => (mg_name (n := 3) nd rfl (by first | exact Or.inl rfl | exact Or.inr rfl))) (fun _ _ _ _ _ => mts_nil) (fun _ _ _ _ _ => (me_ix (me_var (i := 3) rfl (by first | exact Or.inl rfl | exact Or.inr (Or.inl rfl) | exact Or.inr (Or.inr rfl))) me_int))) ma_nil)) (mg_name (n := 2) nd rfl (by first | exact Or.inl rfl | exact Or.inr rfl))) (ms_one (ms_ret (me_callB (cB_sorted (hu_of hr)) rfl T.z_sorted (by decide +kernel) (ma_cons (me_call (callR_fn d_shifted (hr.mono (by decide)) hg) rfl T.g_shifted T.k_shifted (ma_cons (me_var (i := 0) rfl (by first | exact Or.inl rfl | exact Or.inr (Or.inl rfl) | exact Or.inr (Or.inr rfl))) (ma_cons (me_neg (me_var (i := 1) rfl (by first | exact Or.inl rfl | exact Or.inr (Or.inl rfl) | exact Or.inr (Or.inr rfl)))) (ma_cons (me_neg (me_var (i := 2) rfl (by first | exact Or.inl rfl | exact Or.inr (Or.inl rfl) | exact Or.inr (Or.inr rfl)))) ma_nil)))) ma_nil))))))
theorem sc_Kind___init__ : FnScope N_Kind___init__ ["self", "entries"] (defScope s_Kind___init__) := ⟨rfl, rfl, rfl, by decide +kernel, rfl, by decide +kernel, by decide +kernel⟩
theorem ok_Kind___init__ (T : Ok K mg ad) : FnP P w K mg base 4 ad.a_Kind___init__ f_Kind___init__ := by
  have d_is_entry := ok_is_entry (P := P) (w := w) (base := base) T
  have d_normed := ok_normed (P := P) (w := w) (base := base) T
  have nd : N_Kind___init__.Nodup := sc_Kind___init__.nd
  refine T.F_Kind___init__.rest (k := 3) (ps := ["self"]) (pv := "entries") (l := 5) (b := b_Kind___init__) sc_Kind___init__ (fun _ _ _ _ _ _ us rest hl => match us, rest, hl with | [_], [], _ => rfl | [_], _ :: _, _ => rfl) fun cdv A outer s H hr hg => ?_
  exact (ms_cons (ms_if (mt_not (mt_chain oM_le oM_le me_int (me_callB cB_len rfl T.z_len (by decide +kernel) (ma_cons (me_var (i := 1) rfl (by first | exact Or.inl rfl | exact Or.inr (Or.inl rfl) | exact Or.inr (Or.inr rfl))) ma_nil)) (me_con (n := "MOST_ENTRIES") rfl (me_var (i := 0) rfl (by first | exact Or.inl rfl | exact Or.inr (Or.inl rfl) | exact Or.inr (Or.inr rfl))) (CnOk.cons ⟨T.g_Kind, T.cl_Kind, T.n_Kind_MOST_ENTRIES⟩ CnOk.nil)))) (ms_one ms_no) ms_nil) (ms_cons (ms_for rfl rfl (mi_enum rfl T.z_enumerate (me_var (i := 1) rfl (by first | exact Or.inl rfl | exact Or.inr (Or.inl rfl) | exact Or.inr (Or.inr rfl)))) (mg_tup rfl (mgs_cons (mg_name (n := 3) nd rfl (by first | exact Or.inl rfl | exact Or.inr rfl)) (mgs_cons (mg_name (n := 4) nd rfl (by first | exact Or.inl rfl | exact Or.inr rfl)) mgs_nil))) (ms_one (ms_if (mt_w (mw_or (mt_not (mt_val (me_call (callR_fn d_is_entry (hr.mono (by decide)) hg) rfl T.g_is_entry T.k_is_entry (ma_cons (me_var (i := 4) rfl (by first | exact Or.inl rfl | exact Or.inr (Or.inl rfl) | exact Or.inr (Or.inr rfl))) ma_nil)))) (mw_or1 (mt_cmp (oM_in (hu5_of hr)) (by rfl) (me_var (i := 4) rfl (by first | exact Or.inl rfl | exact Or.inr (Or.inl rfl) | exact Or.inr (Or.inr rfl))) (me_slice (me_var (i := 1) rfl (by first | exact Or.inl rfl | exact Or.inr (Or.inl rfl) | exact Or.inr (Or.inr rfl))) mo_none (mo_some (me_var (i := 3) rfl (by first | exact Or.inl rfl | exact Or.inr (Or.inl rfl) | exact Or.inr (Or.inr rfl))))))))) (ms_one ms_no) ms_nil))) (ms_cons (ms_set (me_call (callR_fn d_normed (hr.mono (by decide)) hg) rfl T.g_normed T.k_normed (ma_cons (me_var (i := 1) rfl (by first | exact Or.inl rfl | exact Or.inr (Or.inl rfl) | exact Or.inr (Or.inr rfl))) ma_nil)) (mg_name (n := 2) nd rfl (by first | exact Or.inl rfl | exact Or.inr rfl))) (ms_cons (by first | exact ms_par2 (i := 5) (j := 6) rfl nd rfl rfl (by decide) rfl rfl (ma_cons (me_callB (cB_max rfl) rfl T.z_max (by decide +kernel) (ma_cons (by exact me_comp rfl nd (own := [("entry", 4)]) (mi_seq (me_var (i := 2) rfl (by first | exact Or.inl rfl | exact Or.inr (Or.inl rfl) | exact Or.inr (Or.inr rfl)))) (blkOk_by (own := [("entry", 4)]) (N := N_Kind___init__) (sc := defScope s_Kind___init__) (by decide +kernel)) (by decide) (fun _ _ _ _ _ => (mg_name (n := 4) nd rfl (by first | exact Or.inl rfl | exact Or.inr rfl))) (fun _ _ _ _ _ => mts_nil) (fun _ _ _ _ _ => (me_ix (me_var (i := 4) rfl (by first | exact Or.inl rfl | exact Or.inr (Or.inl rfl) | exact Or.inr (Or.inr rfl))) me_int))) ma_nil)) (ma_cons (me_callB (cB_max rfl) rfl T.z_max (by decide +kernel) (ma_cons (by exact me_comp rfl nd (own := [("entry", 4)]) (mi_seq (me_var (i := 2) rfl (by first | exact Or.inl rfl | exact Or.inr (Or.inl rfl) | exact Or.inr (Or.inr rfl)))) (blkOk_by (own := [("entry", 4)]) (N := N_Kind___init__) (sc := defScope s_Kind___init__) (by decide +kernel)) (by decide) (fun _ _ _ _ _ => (mg_name (n := 4) nd rfl (by first | exact Or.inl rfl | exact Or.inr rfl))) (fun _ _ _ _ _ => mts_nil) (fun _ _ _ _ _ => (me_ix (me_var (i := 4) rfl (by first | exact Or.inl rfl | exact Or.inr (Or.inl rfl) | exact Or.inr (Or.inr rfl))) me_int))) ma_nil)) ma_nil)) (by rfl) | exact ms_set (me_tup (ma_cons (me_callB (cB_max rfl) rfl T.z_max (by decide +kernel) (ma_cons (by exact me_comp rfl nd (own := [("entry", 4)]) (mi_seq (me_var (i := 2) rfl (by first | exact Or.inl rfl | exact Or.inr (Or.inl rfl) | exact Or.inr (Or.inr rfl)))) (blkOk_by (own := [("entry", 4)]) (N := N_Kind___init__) (sc := defScope s_Kind___init__) (by decide +kernel)) (by decide) (fun _ _ _ _ _ => (mg_name (n := 4) nd rfl (by first | exact Or.inl rfl | exact Or.inr rfl))) (fun _ _ _ _ _ => mts_nil) (fun _ _ _ _ _ => (me_ix (me_var (i := 4) rfl (by first | exact Or.inl rfl | exact Or.inr (Or.inl rfl) | exact Or.inr (Or.inr rfl))) me_int))) ma_nil)) (ma_cons (me_callB (cB_max rfl) rfl T.z_max (by decide +kernel) (ma_cons (by exact me_comp rfl nd (own := [("entry", 4)]) (mi_seq (me_var (i := 2) rfl (by first | exact Or.inl rfl | exact Or.inr (Or.inl rfl) | exact Or.inr (Or.inr rfl)))) (blkOk_by (own := [("entry", 4)]) (N := N_Kind___init__) (sc := defScope s_Kind___init__) (by decide +kernel)) (by decide) (fun _ _ _ _ _ => (mg_name (n := 4) nd rfl (by first | exact Or.inl rfl | exact Or.inr rfl))) (fun _ _ _ _ _ => mts_nil) (fun _ _ _ _ _ => (me_ix (me_var (i := 4) rfl (by first | exact Or.inl rfl | exact Or.inr (Or.inl rfl) | exact Or.inr (Or.inr rfl))) me_int))) ma_nil)) ma_nil))) (mg_tup rfl (mgs_cons (mg_name (n := 5) nd rfl (by first | exact Or.inl rfl | exact Or.inr rfl)) (mgs_cons (mg_name (n := 6) nd rfl (by first | exact Or.inl rfl | exact Or.inr rfl)) mgs_nil)))) (ms_cons (ms_if (mt_cmp oM_gt (by rfl) (me_var (i := 5) rfl (by first | exact Or.inl rfl | exact Or.inr (Or.inl rfl) | exact Or.inr (Or.inr rfl))) (me_con (n := "MOST_REACH") rfl (me_var (i := 0) rfl (by first | exact Or.inl rfl | exact Or.inr (Or.inl rfl) | exact Or.inr (Or.inr rfl))) (CnOk.cons ⟨T.g_Kind, T.cl_Kind, T.n_Kind_MOST_REACH⟩ CnOk.nil))) (ms_one ms_no) ms_nil) (ms_cons (ms_if (mt_cmp oM_gt (by rfl) (me_var (i := 6) rfl (by first | exact Or.inl rfl | exact Or.inr (Or.inl rfl) | exact Or.inr (Or.inr rfl))) (me_con (n := "MOST_REACH") rfl (me_var (i := 0) rfl (by first | exact Or.inl rfl | exact Or.inr (Or.inl rfl) | exact Or.inr (Or.inr rfl))) (CnOk.cons ⟨T.g_Kind, T.cl_Kind, T.n_Kind_MOST_REACH⟩ CnOk.nil))) (ms_one ms_no) ms_nil) (ms_cons (ms_fld (n := "own_entries") rfl (me_var (i := 0) rfl (by first | exact Or.inl rfl | exact Or.inr (Or.inl rfl) | exact Or.inr (Or.inr rfl))) (me_callTy cB_tuple rfl T.z_tuple (by decide +kernel) (ma_cons (me_var (i := 2) rfl (by first | exact Or.inl rfl | exact Or.inr (Or.inl rfl) | exact Or.inr (Or.inr rfl))) ma_nil)) (FlOk.cons T.g_Kind T.cl_Kind T.x_Kind_own_entries FlOk.nil)) (ms_one (ms_fld (n := "own_reach") rfl (me_var (i := 0) rfl (by first | exact Or.inl rfl | exact Or.inr (Or.inl rfl) | exact Or.inr (Or.inr rfl))) (me_tup (ma_cons (me_var (i := 5) rfl (by first | exact Or.inl rfl | exact Or.inr (Or.inl rfl) | exact Or.inr (Or.inr rfl))) (ma_cons (me_var (i := 6) rfl (by first | exact Or.inl rfl | exact Or.inr (Or.inl rfl) | exact Or.inr (Or.inr rfl))) ma_nil))) (FlOk.cons T.g_Kind T.cl_Kind T.x_Kind_own_reach FlOk.nil))))))))))
theorem sc__law_kind : FnScope N__law_kind ["_law_some"] (defScope s__law_kind) := ⟨rfl, rfl, rfl, by decide +kernel, rfl, by decide +kernel, by decide +kernel⟩
theorem ok__law_kind (T : Ok K mg ad) : FnP P w K mg base 6 ad.a__law_kind f__law_kind := by
  have d_Kind___init__ := ok_Kind___init__ (P := P) (w := w) (base := base) T
  have nd : N__law_kind.Nodup := sc__law_kind.nd
  refine T.F__law_kind.pos (k := 5) (l := 0) (b := b__law_kind) sc__law_kind (fun _ _ _ _ _ _ us hl => match us, hl with | [_], _ => rfl) fun cdv A outer s H hr hg => ?_
  exact (ms_cons (ms_if (mt_cmp (oM_eq (hu_of hr)) (by rfl) (me_callB cB_len rfl T.z_len (by decide +kernel) (ma_cons (me_var (i := 0) rfl (by first | exact Or.inl rfl | exact Or.inr (Or.inl rfl) | exact Or.inr (Or.inr rfl))) ma_nil)) me_int) (ms_one (ms_ret (me_call (callR_new T.g_Kind T.mk_Kind d_Kind___init__ (hr.mono (by decide)) hg) rfl T.g_Kind T.kp_Kind (ma_cons (me_ix (me_var (i := 0) rfl (by first | exact Or.inl rfl | exact Or.inr (Or.inl rfl) | exact Or.inr (Or.inr rfl))) me_int) (ma_cons (me_ix (me_var (i := 0) rfl (by first | exact Or.inl rfl | exact Or.inr (Or.inl rfl) | exact Or.inr (Or.inr rfl))) me_int) ma_nil))))) ms_nil) (ms_cons (ms_if (mt_cmp (oM_eq (hu_of hr)) (by rfl) (me_callB cB_len rfl T.z_len (by decide +kernel) (ma_cons (me_var (i := 0) rfl (by first | exact Or.inl rfl | exact Or.inr (Or.inl rfl) | exact Or.inr (Or.inr rfl))) ma_nil)) me_int) (ms_one (ms_ret (me_call (callR_new T.g_Kind T.mk_Kind d_Kind___init__ (hr.mono (by decide)) hg) rfl T.g_Kind T.kp_Kind (ma_cons (me_ix (me_var (i := 0) rfl (by first | exact Or.inl rfl | exact Or.inr (Or.inl rfl) | exact Or.inr (Or.inr rfl))) me_int) (ma_cons (me_ix (me_var (i := 0) rfl (by first | exact Or.inl rfl | exact Or.inr (Or.inl rfl) | exact Or.inr (Or.inr rfl))) me_int) (ma_cons (me_ix (me_var (i := 0) rfl (by first | exact Or.inl rfl | exact Or.inr (Or.inl rfl) | exact Or.inr (Or.inr rfl))) me_int) ma_nil)))))) ms_nil) (ms_cons (ms_if (mt_cmp (oM_eq (hu_of hr)) (by rfl) (me_callB cB_len rfl T.z_len (by decide +kernel) (ma_cons (me_var (i := 0) rfl (by first | exact Or.inl rfl | exact Or.inr (Or.inl rfl) | exact Or.inr (Or.inr rfl))) ma_nil)) me_int) (ms_one (ms_ret (me_call (callR_new T.g_Kind T.mk_Kind d_Kind___init__ (hr.mono (by decide)) hg) rfl T.g_Kind T.kp_Kind (ma_cons (me_ix (me_var (i := 0) rfl (by first | exact Or.inl rfl | exact Or.inr (Or.inl rfl) | exact Or.inr (Or.inr rfl))) me_int) (ma_cons (me_ix (me_var (i := 0) rfl (by first | exact Or.inl rfl | exact Or.inr (Or.inl rfl) | exact Or.inr (Or.inr rfl))) me_int) (ma_cons (me_ix (me_var (i := 0) rfl (by first | exact Or.inl rfl | exact Or.inr (Or.inl rfl) | exact Or.inr (Or.inr rfl))) me_int) (ma_cons (me_ix (me_var (i := 0) rfl (by first | exact Or.inl rfl | exact Or.inr (Or.inl rfl) | exact Or.inr (Or.inr rfl))) me_int) ma_nil))))))) ms_nil) (ms_cons (ms_if (mt_cmp (oM_eq (hu_of hr)) (by rfl) (me_callB cB_len rfl T.z_len (by decide +kernel) (ma_cons (me_var (i := 0) rfl (by first | exact Or.inl rfl | exact Or.inr (Or.inl rfl) | exact Or.inr (Or.inr rfl))) ma_nil)) me_int) (ms_one (ms_ret (me_call (callR_new T.g_Kind T.mk_Kind d_Kind___init__ (hr.mono (by decide)) hg) rfl T.g_Kind T.kp_Kind (ma_cons (me_ix (me_var (i := 0) rfl (by first | exact Or.inl rfl | exact Or.inr (Or.inl rfl) | exact Or.inr (Or.inr rfl))) me_int) (ma_cons (me_ix (me_var (i := 0) rfl (by first | exact Or.inl rfl | exact Or.inr (Or.inl rfl) | exact Or.inr (Or.inr rfl))) me_int) (ma_cons (me_ix (me_var (i := 0) rfl (by first | exact Or.inl rfl | exact Or.inr (Or.inl rfl) | exact Or.inr (Or.inr rfl))) me_int) (ma_cons (me_ix (me_var (i := 0) rfl (by first | exact Or.inl rfl | exact Or.inr (Or.inl rfl) | exact Or.inr (Or.inr rfl))) me_int) (ma_cons (me_ix (me_var (i := 0) rfl (by first | exact Or.inl rfl | exact Or.inr (Or.inl rfl) | exact Or.inr (Or.inr rfl))) me_int) ma_nil)))))))) ms_nil) (ms_one (ms_ret (me_call (callR_new T.g_Kind T.mk_Kind d_Kind___init__ (hr.mono (by decide)) hg) rfl T.g_Kind T.kp_Kind (ma_cons (me_ix (me_var (i := 0) rfl (by first | exact Or.inl rfl | exact Or.inr (Or.inl rfl) | exact Or.inr (Or.inr rfl))) me_int) (ma_cons (me_ix (me_var (i := 0) rfl (by first | exact Or.inl rfl | exact Or.inr (Or.inl rfl) | exact Or.inr (Or.inr rfl))) me_int) (ma_cons (me_ix (me_var (i := 0) rfl (by first | exact Or.inl rfl | exact Or.inr (Or.inl rfl) | exact Or.inr (Or.inr rfl))) me_int) (ma_cons (me_ix (me_var (i := 0) rfl (by first | exact Or.inl rfl | exact Or.inr (Or.inl rfl) | exact Or.inr (Or.inr rfl))) me_int) (ma_cons (me_ix (me_var (i := 0) rfl (by first | exact Or.inl rfl | exact Or.inr (Or.inl rfl) | exact Or.inr (Or.inr rfl))) me_int) (ma_cons (me_ix (me_var (i := 0) rfl (by first | exact Or.inl rfl | exact Or.inr (Or.inl rfl) | exact Or.inr (Or.inr rfl))) me_int) ma_nil)))))))))))))
theorem sc_is_list : FnScope N_is_list ["value"] (defScope s_is_list) := ⟨rfl, rfl, rfl, by decide +kernel, rfl, by decide +kernel, by decide +kernel⟩
theorem ok_is_list (T : Ok K mg ad) : FnP P w K mg base 1 ad.a_is_list f_is_list := by
  have nd : N_is_list.Nodup := sc_is_list.nd
  refine T.F_is_list.pos (k := 0) (l := 0) (b := b_is_list) sc_is_list (fun _ _ _ _ _ _ us hl => match us, hl with | [_], _ => rfl) fun cdv A outer s H hr hg => ?_
  exact (ms_one (ms_ret (me_isAs (IsOk.cons (T.is_Kind _ rfl rfl) IsOk.nil) (by decide) (by decide) (me_var (i := 0) rfl (by first | exact Or.inl rfl | exact Or.inr (Or.inl rfl) | exact Or.inr (Or.inr rfl))) rfl T.z_isinstance (pa_tys (pe_bty rfl T.z_list) (pa_tys (pe_bty rfl T.z_tuple) pa_tys0)))))
theorem sc_Kind_of : FnScope N_Kind_of ["entries"] (defScope s_Kind_of) := ⟨rfl, rfl, rfl, by decide +kernel, rfl, by decide +kernel, by decide +kernel⟩
theorem ok_Kind_of (T : Ok K mg ad) : FnP P w K mg base 6 ad.a_Kind_of f_Kind_of := by
  have d_is_list := ok_is_list (P := P) (w := w) (base := base) T
  have d_Kind___init__ := ok_Kind___init__ (P := P) (w := w) (base := base) T
  have nd : N_Kind_of.Nodup := sc_Kind_of.nd
  refine T.F_Kind_of.pos (k := 5) (l := 0) (b := b_Kind_of) sc_Kind_of (fun _ _ _ _ _ _ us hl => match us, hl with | [_], _ => rfl) fun cdv A outer s H hr hg => ?_
  exact (ms_cons (ms_if (mt_not (mt_val (me_call (callR_fn d_is_list (hr.mono (by decide)) hg) rfl T.g_is_list T.k_is_list (ma_cons (me_var (i := 0) rfl (by first | exact Or.inl rfl | exact Or.inr (Or.inl rfl) | exact Or.inr (Or.inr rfl))) ma_nil)))) (ms_one ms_no) ms_nil) (ms_one (ms_ret (me_star (callR_new T.g_Kind T.mk_Kind d_Kind___init__ (hr.mono (by decide)) hg) rfl T.g_Kind T.kp_Kind (me_var (i := 0) rfl (by first | exact Or.inl rfl | exact Or.inr (Or.inl rfl) | exact Or.inr (Or.inr rfl)))))))
theorem ok_Kind_ofWentries (T : Ok K mg ad) : FnK P w K mg base 6 ad.a_Kind_of 0 ["entries"] f_Kind_ofWentries := by
  have d_is_list := ok_is_list (P := P) (w := w) (base := base) T
  have d_Kind___init__ := ok_Kind___init__ (P := P) (w := w) (base := base) T
  have nd : N_Kind_of.Nodup := sc_Kind_of.nd
  refine T.F_Kind_of.kw (k := 5) (n := 0) (m := 1) (ix := [0]) (l := 0) (b := b_Kind_ofWentries) sc_Kind_of (fun _ _ _ _ _ _ us ws h1 h2 => match us, ws, h1, h2 with | [], [_], _, _ => rfl) fun cdv A outer s H hr hg => ?_
  exact (ms_cons (ms_if (mt_not (mt_val (me_call (callR_fn d_is_list (hr.mono (by decide)) hg) rfl T.g_is_list T.k_is_list (ma_cons (me_var (i := 0) rfl (by first | exact Or.inl rfl | exact Or.inr (Or.inl rfl) | exact Or.inr (Or.inr rfl))) ma_nil)))) (ms_one ms_no) ms_nil) (ms_one (ms_ret (me_star (callR_new T.g_Kind T.mk_Kind d_Kind___init__ (hr.mono (by decide)) hg) rfl T.g_Kind T.kp_Kind (me_var (i := 0) rfl (by first | exact Or.inl rfl | exact Or.inr (Or.inl rfl) | exact Or.inr (Or.inr rfl)))))))
theorem ok__law_passed (T : Ok K mg ad) : FnP P w K mg base 3 ad.a__law_passed f__law_passed := by
  have d__law_draw := ok__law_draw (P := P) (w := w) (base := base) T
  have d__law_mixed := ok__law_mixed (P := P) (w := w) (base := base) T
  have nd : N__law_passed.Nodup := sc__law_passed.nd
  refine T.F__law_passed.pos (k := 2) (l := 3) (b := b__law_passed) sc__law_passed (fun _ _ _ _ _ _ us hl => match us, hl with | [_, _], _ => rfl) fun cdv A outer s H hr hg => ?_
  exact (ms_cons (by first | exact ms_par2 (i := 2) (j := 3) rfl nd rfl rfl (by decide) rfl rfl (ma_cons (me_bin oM_sub (me_call (callR_fn d__law_draw (hr.mono (by decide)) hg) rfl T.g__law_draw T.k__law_draw (ma_cons (me_var (i := 0) rfl (by first | exact Or.inl rfl | exact Or.inr (Or.inl rfl) | exact Or.inr (Or.inr rfl))) (ma_cons me_int ma_nil))) me_int) (ma_cons (me_bin oM_sub (me_call (callR_fn d__law_draw (hr.mono (by decide)) hg) rfl T.g__law_draw T.k__law_draw (ma_cons (me_var (i := 0) rfl (by first | exact Or.inl rfl | exact Or.inr (Or.inl rfl) | exact Or.inr (Or.inr rfl))) (ma_cons me_int ma_nil))) me_int) ma_nil)) (by rfl) | exact ms_set (me_tup (ma_cons (me_bin oM_sub (me_call (callR_fn d__law_draw (hr.mono (by decide)) hg) rfl T.g__law_draw T.k__law_draw (ma_cons (me_var (i := 0) rfl (by first | exact Or.inl rfl | exact Or.inr (Or.inl rfl) | exact Or.inr (Or.inr rfl))) (ma_cons me_int ma_nil))) me_int) (ma_cons (me_bin oM_sub (me_call (callR_fn d__law_draw (hr.mono (by decide)) hg) rfl T.g__law_draw T.k__law_draw (ma_cons (me_var (i := 0) rfl (by first | exact Or.inl rfl | exact Or.inr (Or.inl rfl) | exact Or.inr (Or.inr rfl))) (ma_cons me_int ma_nil))) me_int) ma_nil))) (mg_tup rfl (mgs_cons (mg_name (n := 2) nd rfl (by first | exact Or.inl rfl | exact Or.inr rfl)) (mgs_cons (mg_name (n := 3) nd rfl (by first | exact Or.inl rfl | exact Or.inr rfl)) mgs_nil)))) (ms_one (ms_ret (by exact me_comp rfl nd (own := [("_law_part", 4)]) (mi_seq (me_call (callR_fn d__law_mixed (hr.mono (by decide)) hg) rfl T.g__law_mixed T.k__law_mixed (ma_cons (me_var (i := 0) rfl (by first | exact Or.inl rfl | exact Or.inr (Or.inl rfl) | exact Or.inr (Or.inr rfl))) (ma_cons (me_var (i := 1) rfl (by first | exact Or.inl rfl | exact Or.inr (Or.inl rfl) | exact Or.inr (Or.inr rfl))) ma_nil)))) (blkOk_by (own := [("_law_part", 4)]) (N := N__law_passed) (sc := defScope s__law_passed) (by decide +kernel)) (by decide) (fun _ _ _ _ _ => (mg_name (n := 4) nd rfl (by first | exact Or.inl rfl | exact Or.inr rfl))) (fun _ _ _ _ _ => mts_nil) (fun _ _ _ _ _ => (me_tup (ma_cons (me_bin oM_add (me_ix (me_var (i := 4) rfl (by first | exact Or.inl rfl | exact Or.inr (Or.inl rfl) | exact Or.inr (Or.inr rfl))) me_int) (me_var (i := 2) rfl (by first | exact Or.inl rfl | exact Or.inr (Or.inl rfl) | exact Or.inr (Or.inr rfl)))) (ma_cons (me_bin oM_add (me_ix (me_var (i := 4) rfl (by first | exact Or.inl rfl | exact Or.inr (Or.inl rfl) | exact Or.inr (Or.inr rfl))) me_int) (me_var (i := 3) rfl (by first | exact Or.inl rfl | exact Or.inr (Or.inl rfl) | exact Or.inr (Or.inr rfl)))) (ma_cons (me_ix (me_var (i := 4) rfl (by first | exact Or.inl rfl | exact Or.inr (Or.inl rfl) | exact Or.inr (Or.inr rfl))) me_int) ma_nil)))))))))
theorem sc_Kind_entries : FnScope N_Kind_entries ["self"] (defScope s_Kind_entries) := ⟨rfl, rfl, rfl, by decide +kernel, rfl, by decide +kernel, by decide +kernel⟩
theorem ok_Kind_entriesK (T : Ok K mg ad) : FnP P w K mg base 1 ad.a_Kind_entries f_Kind_entriesK := by
  have nd : N_Kind_entries.Nodup := sc_Kind_entries.nd
  refine T.F_Kind_entries.posK (k := 0) (l := 0) (b := b_Kind_entriesK) sc_Kind_entries (fun _ _ _ _ _ _ us hl => match us, hl with | [_], _ => rfl) fun cdv A outer s H hr hg => ?_
  exact (ms_one (ms_ret (me_listM rfl T.z_list (me_fld (n := "own_entries") rfl (me_var (i := 0) rfl (by first | exact Or.inl rfl | exact Or.inr (Or.inl rfl) | exact Or.inr (Or.inr rfl))) (FlOk.cons T.g_Kind T.cl_Kind T.x_Kind_own_entries FlOk.nil)))))
theorem sc_Kind_names : FnScope N_Kind_names ["self"] (defScope s_Kind_names) := ⟨rfl, rfl, rfl, by decide +kernel, rfl, by decide +kernel, by decide +kernel⟩
theorem ok_Kind_namesK (T : Ok K mg ad) : FnP P w K mg base 1 ad.a_Kind_names f_Kind_namesK := by
  have nd : N_Kind_names.Nodup := sc_Kind_names.nd
  refine T.F_Kind_names.posK (k := 0) (l := 3) (b := b_Kind_namesK) sc_Kind_names (fun _ _ _ _ _ _ us hl => match us, hl with | [_], _ => rfl) fun cdv A outer s H hr hg => ?_
  exact (ms_one (ms_ret (me_sortedSetM rfl (hu_of hr) rfl T.z_sorted rfl T.z_set (by exact me_comp rfl nd (own := [("across", 1), ("up", 2), ("name", 3)]) (mi_seq (me_fld (n := "own_entries") rfl (me_var (i := 0) rfl (by first | exact Or.inl rfl | exact Or.inr (Or.inl rfl) | exact Or.inr (Or.inr rfl))) (FlOk.cons T.g_Kind T.cl_Kind T.x_Kind_own_entries FlOk.nil))) (blkOk_by (own := [("across", 1), ("up", 2), ("name", 3)]) (N := N_Kind_names) (sc := defScope s_Kind_names) (by decide +kernel)) (by decide) (fun _ _ _ _ _ => (mg_tup rfl (mgs_cons (mg_name (n := 1) nd rfl (by first | exact Or.inl rfl | exact Or.inr rfl)) (mgs_cons (mg_name (n := 2) nd rfl (by first | exact Or.inl rfl | exact Or.inr rfl)) (mgs_cons (mg_name (n := 3) nd rfl (by first | exact Or.inl rfl | exact Or.inr rfl)) mgs_nil))))) (fun _ _ _ _ _ => mts_nil) (fun _ _ _ _ _ => (me_var (i := 3) rfl (by first | exact Or.inl rfl | exact Or.inr (Or.inl rfl) | exact Or.inr (Or.inr rfl))))))))
theorem sc__law_far : FnScope N__law_far ["_law_some"] (defScope s__law_far) := ⟨rfl, rfl, rfl, by decide +kernel, rfl, by decide +kernel, by decide +kernel⟩
theorem ok__law_far (T : Ok K mg ad) : FnP P w K mg base 1 ad.a__law_far f__law_far := by
  have nd : N__law_far.Nodup := sc__law_far.nd
  refine T.F__law_far.pos (k := 0) (l := 1) (b := b__law_far) sc__law_far (fun _ _ _ _ _ _ us hl => match us, hl with | [_], _ => rfl) fun cdv A outer s H hr hg => ?_
  exact (ms_one (ms_ret (me_tup (ma_cons (me_callB (cB_max rfl) rfl T.z_max (by decide +kernel) (ma_cons (by exact me_comp rfl nd (own := [("_law_part", 1)]) (mi_seq (me_var (i := 0) rfl (by first | exact Or.inl rfl | exact Or.inr (Or.inl rfl) | exact Or.inr (Or.inr rfl)))) (blkOk_by (own := [("_law_part", 1)]) (N := N__law_far) (sc := defScope s__law_far) (by decide +kernel)) (by decide) (fun _ _ _ _ _ => (mg_name (n := 1) nd rfl (by first | exact Or.inl rfl | exact Or.inr rfl))) (fun _ _ _ _ _ => mts_nil) (fun _ _ _ _ _ => (me_ix (me_var (i := 1) rfl (by first | exact Or.inl rfl | exact Or.inr (Or.inl rfl) | exact Or.inr (Or.inr rfl))) me_int))) ma_nil)) (ma_cons (me_callB (cB_max rfl) rfl T.z_max (by decide +kernel) (ma_cons (by exact me_comp rfl nd (own := [("_law_part", 1)]) (mi_seq (me_var (i := 0) rfl (by first | exact Or.inl rfl | exact Or.inr (Or.inl rfl) | exact Or.inr (Or.inr rfl)))) (blkOk_by (own := [("_law_part", 1)]) (N := N__law_far) (sc := defScope s__law_far) (by decide +kernel)) (by decide) (fun _ _ _ _ _ => (mg_name (n := 1) nd rfl (by first | exact Or.inl rfl | exact Or.inr rfl))) (fun _ _ _ _ _ => mts_nil) (fun _ _ _ _ _ => (me_ix (me_var (i := 1) rfl (by first | exact Or.inl rfl | exact Or.inr (Or.inl rfl) | exact Or.inr (Or.inr rfl))) me_int))) ma_nil)) ma_nil)))))
theorem ok_Kind_entries (T : Ok K mg ad) : FnP P w K mg base 1 ad.a_Kind_entries f_Kind_entries := by
  have nd : N_Kind_entries.Nodup := sc_Kind_entries.nd
  refine T.F_Kind_entries.pos (k := 0) (l := 0) (b := b_Kind_entries) sc_Kind_entries (fun _ _ _ _ _ _ us hl => match us, hl with | [_], _ => rfl) fun cdv A outer s H hr hg => ?_
  exact (ms_one (ms_ret (me_callTy cB_list rfl T.z_list (by decide +kernel) (ma_cons (me_fld (n := "own_entries") rfl (me_var (i := 0) rfl (by first | exact Or.inl rfl | exact Or.inr (Or.inl rfl) | exact Or.inr (Or.inr rfl))) (FlOk.cons T.g_Kind T.cl_Kind T.x_Kind_own_entries FlOk.nil)) ma_nil))))
theorem ok_Kind_names (T : Ok K mg ad) : FnP P w K mg base 1 ad.a_Kind_names f_Kind_names := by
  have nd : N_Kind_names.Nodup := sc_Kind_names.nd
  refine T.F_Kind_names.pos (k := 0) (l := 3) (b := b_Kind_names) sc_Kind_names (fun _ _ _ _ _ _ us hl => match us, hl with | [_], _ => rfl) fun cdv A outer s H hr hg => ?_
  exact (ms_one (ms_ret (me_sortedSet rfl (hu_of hr) rfl T.z_sorted rfl T.z_set (by exact me_comp rfl nd (own := [("across", 1), ("up", 2), ("name", 3)]) (mi_seq (me_fld (n := "own_entries") rfl (me_var (i := 0) rfl (by first | exact Or.inl rfl | exact Or.inr (Or.inl rfl) | exact Or.inr (Or.inr rfl))) (FlOk.cons T.g_Kind T.cl_Kind T.x_Kind_own_entries FlOk.nil))) (blkOk_by (own := [("across", 1), ("up", 2), ("name", 3)]) (N := N_Kind_names) (sc := defScope s_Kind_names) (by decide +kernel)) (by decide) (fun _ _ _ _ _ => (mg_tup rfl (mgs_cons (mg_name (n := 1) nd rfl (by first | exact Or.inl rfl | exact Or.inr rfl)) (mgs_cons (mg_name (n := 2) nd rfl (by first | exact Or.inl rfl | exact Or.inr rfl)) (mgs_cons (mg_name (n := 3) nd rfl (by first | exact Or.inl rfl | exact Or.inr rfl)) mgs_nil))))) (fun _ _ _ _ _ => mts_nil) (fun _ _ _ _ _ => (me_var (i := 3) rfl (by first | exact Or.inl rfl | exact Or.inr (Or.inl rfl) | exact Or.inr (Or.inr rfl))))))))
theorem sc_Kind_reach : FnScope N_Kind_reach ["self"] (defScope s_Kind_reach) := ⟨rfl, rfl, rfl, by decide +kernel, rfl, by decide +kernel, by decide +kernel⟩
theorem ok_Kind_reach (T : Ok K mg ad) : FnP P w K mg base 1 ad.a_Kind_reach f_Kind_reach := by
  have nd : N_Kind_reach.Nodup := sc_Kind_reach.nd
  refine T.F_Kind_reach.pos (k := 0) (l := 0) (b := b_Kind_reach) sc_Kind_reach (fun _ _ _ _ _ _ us hl => match us, hl with | [_], _ => rfl) fun cdv A outer s H hr hg => ?_
  exact (ms_one (ms_ret (me_fld (n := "own_reach") rfl (me_var (i := 0) rfl (by first | exact Or.inl rfl | exact Or.inr (Or.inl rfl) | exact Or.inr (Or.inr rfl))) (FlOk.cons T.g_Kind T.cl_Kind T.x_Kind_own_reach FlOk.nil))))
theorem sc_Kind_is_flat : FnScope N_Kind_is_flat ["self"] (defScope s_Kind_is_flat) := ⟨rfl, rfl, rfl, by decide +kernel, rfl, by decide +kernel, by decide +kernel⟩
theorem ok_Kind_is_flat (T : Ok K mg ad) : FnP P w K mg base 1 ad.a_Kind_is_flat f_Kind_is_flat := by
  have nd : N_Kind_is_flat.Nodup := sc_Kind_is_flat.nd
  refine T.F_Kind_is_flat.pos (k := 0) (l := 0) (b := b_Kind_is_flat) sc_Kind_is_flat (fun _ _ _ _ _ _ us hl => match us, hl with | [_], _ => rfl) fun cdv A outer s H hr hg => ?_
  exact (ms_one (ms_ret (me_cmp (oM_eq (hu_of hr)) (by rfl) (me_ix (me_fld (n := "own_reach") rfl (me_var (i := 0) rfl (by first | exact Or.inl rfl | exact Or.inr (Or.inl rfl) | exact Or.inr (Or.inr rfl))) (FlOk.cons T.g_Kind T.cl_Kind T.x_Kind_own_reach FlOk.nil)) me_int) me_int)))
theorem sc_Kind___len__ : FnScope N_Kind___len__ ["self"] (defScope s_Kind___len__) := ⟨rfl, rfl, rfl, by decide +kernel, rfl, by decide +kernel, by decide +kernel⟩
theorem ok_Kind___len__ (T : Ok K mg ad) : FnP P w K mg base 1 ad.a_Kind___len__ f_Kind___len__ := by
  have nd : N_Kind___len__.Nodup := sc_Kind___len__.nd
  refine T.F_Kind___len__.pos (k := 0) (l := 0) (b := b_Kind___len__) sc_Kind___len__ (fun _ _ _ _ _ _ us hl => match us, hl with | [_], _ => rfl) fun cdv A outer s H hr hg => ?_
  exact (ms_one (ms_ret (me_callB cB_len rfl T.z_len (by decide +kernel) (ma_cons (me_fld (n := "own_entries") rfl (me_var (i := 0) rfl (by first | exact Or.inl rfl | exact Or.inr (Or.inl rfl) | exact Or.inr (Or.inr rfl))) (FlOk.cons T.g_Kind T.cl_Kind T.x_Kind_own_entries FlOk.nil)) ma_nil))))
theorem sc_Kind___repr__ : FnScope N_Kind___repr__ ["self"] (defScope s_Kind___repr__) := ⟨rfl, rfl, rfl, by decide +kernel, rfl, by decide +kernel, by decide +kernel⟩
theorem ok_Kind___repr__ (T : Ok K mg ad) : FnP P w K mg base 1 ad.a_Kind___repr__ f_Kind___repr__ := by
  have nd : N_Kind___repr__.Nodup := sc_Kind___repr__.nd
  refine T.F_Kind___repr__.pos (k := 0) (l := 2) (b := b_Kind___repr__) sc_Kind___repr__ (fun _ _ _ _ _ _ us hl => match us, hl with | [_], _ => rfl) fun cdv A outer s H hr hg => ?_
  exact (ms_cons (ms_set (by exact me_join (me_str (c := [44, 32])) (by exact me_comp rfl nd (own := [("entry", 2)]) (mi_seq (me_fld (n := "own_entries") rfl (me_var (i := 0) rfl (by first | exact Or.inl rfl | exact Or.inr (Or.inl rfl) | exact Or.inr (Or.inr rfl))) (FlOk.cons T.g_Kind T.cl_Kind T.x_Kind_own_entries FlOk.nil))) (blkOk_by (own := [("entry", 2)]) (N := N_Kind___repr__) (sc := defScope s_Kind___repr__) (by decide +kernel)) (by decide) (fun _ _ _ _ _ => (mg_name (n := 2) nd rfl (by first | exact Or.inl rfl | exact Or.inr rfl))) (fun _ _ _ _ _ => mts_nil) (fun _ _ _ _ _ => (me_callB (cB_repr hg (hu_of hr)) rfl T.z_repr (by decide +kernel) (ma_cons (me_var (i := 2) rfl (by first | exact Or.inl rfl | exact Or.inr (Or.inl rfl) | exact Or.inr (Or.inr rfl))) ma_nil))))) (mg_name (n := 1) nd rfl (by first | exact Or.inl rfl | exact Or.inr rfl))) (ms_one (ms_ret (me_joined (.cons (me_str (c := [75, 105, 110, 100, 40])) (.cons (me_fmt (me_var (i := 1) rfl (by first | exact Or.inl rfl | exact Or.inr (Or.inl rfl) | exact Or.inr (Or.inr rfl)))) (.cons (me_str (c := [41])) .nil)))))))
theorem sc__law_told_right : FnScope N__law_told_right ["_law_made", "_law_due"] (defScope s__law_told_right) := ⟨rfl, rfl, rfl, by decide +kernel, rfl, by decide +kernel, by decide +kernel⟩
theorem ok__law_told_right (T : Ok K mg ad) : FnP P w K mg base 3 ad.a__law_told_right f__law_told_right := by
  have d__law_far := ok__law_far (P := P) (w := w) (base := base) T
  have d_Kind_entries := ok_Kind_entries (P := P) (w := w) (base := base) T
  have d_Kind_names := ok_Kind_names (P := P) (w := w) (base := base) T
  have d_Kind_reach := ok_Kind_reach (P := P) (w := w) (base := base) T
  have d_Kind_is_flat := ok_Kind_is_flat (P := P) (w := w) (base := base) T
  have d_Kind___len__ := ok_Kind___len__ (P := P) (w := w) (base := base) T
  have d_Kind___repr__ := ok_Kind___repr__ (P := P) (w := w) (base := base) T
  have nd : N__law_told_right.Nodup := sc__law_told_right.nd
  refine T.F__law_told_right.pos (k := 2) (l := 4) (b := b__law_told_right) sc__law_told_right (fun _ _ _ _ _ _ us hl => match us, hl with | [_, _], _ => rfl) fun cdv A outer s H hr hg => ?_
  exact (ms_cons (ms_set (me_call (callR_fn d__law_far (hr.mono (by decide)) hg) rfl T.g__law_far T.k__law_far (ma_cons (me_var (i := 1) rfl (by first | exact Or.inl rfl | exact Or.inr (Or.inl rfl) | exact Or.inr (Or.inr rfl))) ma_nil)) (mg_name (n := 2) nd rfl (by first | exact Or.inl rfl | exact Or.inr rfl))) (ms_cons (ms_set (me_lst (ma_cons (me_meth0 (n := "entries") rfl (me_var (i := 0) rfl (by first | exact Or.inl rfl | exact Or.inr (Or.inl rfl) | exact Or.inr (Or.inr rfl))) (TbOk.cons ⟨T.g_Kind, T.cl_Kind, T.m_Kind_entries, callR_fn d_Kind_entries (hr.mono (by decide)) hg⟩ TbOk.nil)) (ma_cons (me_meth0 (n := "names") rfl (me_var (i := 0) rfl (by first | exact Or.inl rfl | exact Or.inr (Or.inl rfl) | exact Or.inr (Or.inr rfl))) (TbOk.cons ⟨T.g_Kind, T.cl_Kind, T.m_Kind_names, callR_fn d_Kind_names (hr.mono (by decide)) hg⟩ TbOk.nil)) (ma_cons (me_prop (k := 1) (me_var (i := 0) rfl (by first | exact Or.inl rfl | exact Or.inr (Or.inl rfl) | exact Or.inr (Or.inr rfl))) (PrOk.cons ⟨T.g_Kind, T.cl_Kind, T.p_Kind_reach, FnP.mono d_Kind_reach (by decide)⟩ PrOk.nil) hr hg) (ma_cons (me_prop (k := 1) (me_var (i := 0) rfl (by first | exact Or.inl rfl | exact Or.inr (Or.inl rfl) | exact Or.inr (Or.inr rfl))) (PrOk.cons ⟨T.g_Kind, T.cl_Kind, T.p_Kind_is_flat, FnP.mono d_Kind_is_flat (by decide)⟩ PrOk.nil) hr hg) (ma_cons (me_callO (cX_len (k := 1) (SpOk.cons ⟨T.g_Kind, T.a_Kind___len__, T.i_Kind___len__, FnP.mono d_Kind___len__ (by decide)⟩ SpOk.nil) hr hg) rfl T.z_len (by decide +kernel) (me_var (i := 0) rfl (by first | exact Or.inl rfl | exact Or.inr (Or.inl rfl) | exact Or.inr (Or.inr rfl)))) (ma_cons (me_callO (cX_repr (k := 1) (SpOk.cons ⟨T.g_Kind, T.a_Kind___repr__, T.i_Kind___repr__, FnP.mono d_Kind___repr__ (by decide)⟩ SpOk.nil) hr hg) rfl T.z_repr (by decide +kernel) (me_var (i := 0) rfl (by first | exact Or.inl rfl | exact Or.inr (Or.inl rfl) | exact Or.inr (Or.inr rfl)))) ma_nil))))))) (mg_name (n := 3) nd rfl (by first | exact Or.inl rfl | exact Or.inr rfl))) (ms_cons (ms_set (me_bin oM_add (me_bin oM_add (me_str (c := [75, 105, 110, 100, 40])) (by exact me_join (me_str (c := [44, 32])) (by exact me_comp rfl nd (own := [("_law_part", 5)]) (mi_seq (me_var (i := 1) rfl (by first | exact Or.inl rfl | exact Or.inr (Or.inl rfl) | exact Or.inr (Or.inr rfl)))) (blkOk_by (own := [("_law_part", 5)]) (N := N__law_told_right) (sc := defScope s__law_told_right) (by decide +kernel)) (by decide) (fun _ _ _ _ _ => (mg_name (n := 5) nd rfl (by first | exact Or.inl rfl | exact Or.inr rfl))) (fun _ _ _ _ _ => mts_nil) (fun _ _ _ _ _ => (me_callB (cB_repr hg (hu_of hr)) rfl T.z_repr (by decide +kernel) (ma_cons (me_var (i := 5) rfl (by first | exact Or.inl rfl | exact Or.inr (Or.inl rfl) | exact Or.inr (Or.inr rfl))) ma_nil)))))) (me_str (c := [41]))) (mg_name (n := 4) nd rfl (by first | exact Or.inl rfl | exact Or.inr rfl))) (ms_one (ms_ret (me_cmp (oM_eq (hu_of hr)) (by rfl) (me_callB (cB_repr hg (hu_of hr)) rfl T.z_repr (by decide +kernel) (ma_cons (me_var (i := 3) rfl (by first | exact Or.inl rfl | exact Or.inr (Or.inl rfl) | exact Or.inr (Or.inr rfl))) ma_nil)) (me_callB (cB_repr hg (hu_of hr)) rfl T.z_repr (by decide +kernel) (ma_cons (me_lst (ma_cons (me_var (i := 1) rfl (by first | exact Or.inl rfl | exact Or.inr (Or.inl rfl) | exact Or.inr (Or.inr rfl))) (ma_cons (me_sortedSet rfl (hu_of hr) rfl T.z_sorted rfl T.z_set (by exact me_comp rfl nd (own := [("_law_part", 5)]) (mi_seq (me_var (i := 1) rfl (by first | exact Or.inl rfl | exact Or.inr (Or.inl rfl) | exact Or.inr (Or.inr rfl)))) (blkOk_by (own := [("_law_part", 5)]) (N := N__law_told_right) (sc := defScope s__law_told_right) (by decide +kernel)) (by decide) (fun _ _ _ _ _ => (mg_name (n := 5) nd rfl (by first | exact Or.inl rfl | exact Or.inr rfl))) (fun _ _ _ _ _ => mts_nil) (fun _ _ _ _ _ => (me_ix (me_var (i := 5) rfl (by first | exact Or.inl rfl | exact Or.inr (Or.inl rfl) | exact Or.inr (Or.inr rfl))) me_int)))) (ma_cons (me_var (i := 2) rfl (by first | exact Or.inl rfl | exact Or.inr (Or.inl rfl) | exact Or.inr (Or.inr rfl))) (ma_cons (me_cmp (oM_eq (hu_of hr)) (by rfl) (me_ix (me_var (i := 2) rfl (by first | exact Or.inl rfl | exact Or.inr (Or.inl rfl) | exact Or.inr (Or.inr rfl))) me_int) me_int) (ma_cons (me_callB cB_len rfl T.z_len (by decide +kernel) (ma_cons (me_var (i := 1) rfl (by first | exact Or.inl rfl | exact Or.inr (Or.inl rfl) | exact Or.inr (Or.inr rfl))) ma_nil)) (ma_cons (me_var (i := 4) rfl (by first | exact Or.inl rfl | exact Or.inr (Or.inl rfl) | exact Or.inr (Or.inr rfl))) ma_nil))))))) ma_nil))))))))
theorem sc_Kind___contains__ : FnScope N_Kind___contains__ ["self", "value"] (defScope s_Kind___contains__) := ⟨rfl, rfl, rfl, by decide +kernel, rfl, by decide +kernel, by decide +kernel⟩
theorem ok_Kind___contains__ (T : Ok K mg ad) : FnP P w K mg base 4 ad.a_Kind___contains__ f_Kind___contains__ := by
  have d_is_entry := ok_is_entry (P := P) (w := w) (base := base) T
  have nd : N_Kind___contains__.Nodup := sc_Kind___contains__.nd
  refine T.F_Kind___contains__.pos (k := 3) (l := 0) (b := b_Kind___contains__) sc_Kind___contains__ (fun _ _ _ _ _ _ us hl => match us, hl with | [_, _], _ => rfl) fun cdv A outer s H hr hg => ?_
  exact (ms_one (ms_ret (me_and (me_call (callR_fn d_is_entry (hr.mono (by decide)) hg) rfl T.g_is_entry T.k_is_entry (ma_cons (me_var (i := 1) rfl (by first | exact Or.inl rfl | exact Or.inr (Or.inl rfl) | exact Or.inr (Or.inr rfl))) ma_nil)) (me_one (me_cmp (oM_in (hu5_of hr)) (by rfl) (me_var (i := 1) rfl (by first | exact Or.inl rfl | exact Or.inr (Or.inl rfl) | exact Or.inr (Or.inr rfl))) (me_fld (n := "own_entries") rfl (me_var (i := 0) rfl (by first | exact Or.inl rfl | exact Or.inr (Or.inl rfl) | exact Or.inr (Or.inr rfl))) (FlOk.cons T.g_Kind T.cl_Kind T.x_Kind_own_entries FlOk.nil)))))))
theorem sc__law_among_right : FnScope N__law_among_right ["_law_pot_here", "_law_made", "_law_due"] (defScope s__law_among_right) := ⟨rfl, rfl, rfl, by decide +kernel, rfl, by decide +kernel, by decide +kernel⟩
theorem ok__law_among_right (T : Ok K mg ad) : FnP P w K mg base 6 ad.a__law_among_right f__law_among_right := by
  have d__law_draw := ok__law_draw (P := P) (w := w) (base := base) T
  have d_Kind___contains__ := ok_Kind___contains__ (P := P) (w := w) (base := base) T
  have nd : N__law_among_right.Nodup := sc__law_among_right.nd
  refine T.F__law_among_right.pos (k := 5) (l := 4) (b := b__law_among_right) sc__law_among_right (fun _ _ _ _ _ _ us hl => match us, hl with | [_, _, _], _ => rfl) fun cdv A outer s H hr hg => ?_
  exact (ms_cons (by first | exact ms_setC (i := 3) rfl nd rfl rfl (sw_true rfl rfl rfl (by decide +kernel)) (own := [("_law_part", 4)]) (mi_seq (me_var (i := 2) rfl (by first | exact Or.inl rfl | exact Or.inr (Or.inl rfl) | exact Or.inr (Or.inr rfl)))) (blkOk_by (own := [("_law_part", 4)]) (N := N__law_among_right) (sc := defScope s__law_among_right) (by decide +kernel)) (by decide) (fun _ _ _ _ _ => (mg_name (n := 4) nd rfl (by first | exact Or.inl rfl | exact Or.inr rfl))) (fun _ _ _ _ _ => mts_nil) (fun _ _ _ _ _ => (me_tup (ma_cons (me_bin oM_sub (me_bin oM_add (me_ix (me_var (i := 4) rfl (by first | exact Or.inl rfl | exact Or.inr (Or.inl rfl) | exact Or.inr (Or.inr rfl))) me_int) (me_call (callR_fn d__law_draw (hr.mono (by decide)) hg) rfl T.g__law_draw T.k__law_draw (ma_cons (me_var (i := 0) rfl (by first | exact Or.inl rfl | exact Or.inr (Or.inl rfl) | exact Or.inr (Or.inr rfl))) (ma_cons me_int ma_nil)))) me_int) (ma_cons (me_ix (me_var (i := 4) rfl (by first | exact Or.inl rfl | exact Or.inr (Or.inl rfl) | exact Or.inr (Or.inr rfl))) me_int) (ma_cons (me_ix (me_var (i := 4) rfl (by first | exact Or.inl rfl | exact Or.inr (Or.inl rfl) | exact Or.inr (Or.inr rfl))) me_int) ma_nil))))) | exact ms_set (me_comp rfl nd (own := [("_law_part", 4)]) (mi_seq (me_var (i := 2) rfl (by first | exact Or.inl rfl | exact Or.inr (Or.inl rfl) | exact Or.inr (Or.inr rfl)))) (blkOk_by (own := [("_law_part", 4)]) (N := N__law_among_right) (sc := defScope s__law_among_right) (by decide +kernel)) (by decide) (fun _ _ _ _ _ => (mg_name (n := 4) nd rfl (by first | exact Or.inl rfl | exact Or.inr rfl))) (fun _ _ _ _ _ => mts_nil) (fun _ _ _ _ _ => (me_tup (ma_cons (me_bin oM_sub (me_bin oM_add (me_ix (me_var (i := 4) rfl (by first | exact Or.inl rfl | exact Or.inr (Or.inl rfl) | exact Or.inr (Or.inr rfl))) me_int) (me_call (callR_fn d__law_draw (hr.mono (by decide)) hg) rfl T.g__law_draw T.k__law_draw (ma_cons (me_var (i := 0) rfl (by first | exact Or.inl rfl | exact Or.inr (Or.inl rfl) | exact Or.inr (Or.inr rfl))) (ma_cons me_int ma_nil)))) me_int) (ma_cons (me_ix (me_var (i := 4) rfl (by first | exact Or.inl rfl | exact Or.inr (Or.inl rfl) | exact Or.inr (Or.inr rfl))) me_int) (ma_cons (me_ix (me_var (i := 4) rfl (by first | exact Or.inl rfl | exact Or.inr (Or.inl rfl) | exact Or.inr (Or.inr rfl))) me_int) ma_nil)))))) (mg_name (n := 3) nd rfl (by first | exact Or.inl rfl | exact Or.inr rfl))) (ms_cons (ms_set (me_bin oM_add (me_bin oM_add (me_var (i := 3) rfl (by first | exact Or.inl rfl | exact Or.inr (Or.inl rfl) | exact Or.inr (Or.inr rfl))) (by exact me_comp rfl nd (own := [("_law_part", 4)]) (mi_seq (me_var (i := 2) rfl (by first | exact Or.inl rfl | exact Or.inr (Or.inl rfl) | exact Or.inr (Or.inr rfl)))) (blkOk_by (own := [("_law_part", 4)]) (N := N__law_among_right) (sc := defScope s__law_among_right) (by decide +kernel)) (by decide) (fun _ _ _ _ _ => (mg_name (n := 4) nd rfl (by first | exact Or.inl rfl | exact Or.inr rfl))) (fun _ _ _ _ _ => mts_nil) (fun _ _ _ _ _ => (me_tup (ma_cons (me_ix (me_var (i := 4) rfl (by first | exact Or.inl rfl | exact Or.inr (Or.inl rfl) | exact Or.inr (Or.inr rfl))) me_int) (ma_cons (me_bin oM_add (me_ix (me_var (i := 4) rfl (by first | exact Or.inl rfl | exact Or.inr (Or.inl rfl) | exact Or.inr (Or.inr rfl))) me_int) me_int) (ma_cons (me_ix (me_var (i := 4) rfl (by first | exact Or.inl rfl | exact Or.inr (Or.inl rfl) | exact Or.inr (Or.inr rfl))) me_int) ma_nil))))))) (by exact me_comp rfl nd (own := [("_law_part", 4)]) (mi_seq (me_var (i := 2) rfl (by first | exact Or.inl rfl | exact Or.inr (Or.inl rfl) | exact Or.inr (Or.inr rfl)))) (blkOk_by (own := [("_law_part", 4)]) (N := N__law_among_right) (sc := defScope s__law_among_right) (by decide +kernel)) (by decide) (fun _ _ _ _ _ => (mg_name (n := 4) nd rfl (by first | exact Or.inl rfl | exact Or.inr rfl))) (fun _ _ _ _ _ => mts_nil) (fun _ _ _ _ _ => (me_tup (ma_cons (me_ix (me_var (i := 4) rfl (by first | exact Or.inl rfl | exact Or.inr (Or.inl rfl) | exact Or.inr (Or.inr rfl))) me_int) (ma_cons (me_ix (me_var (i := 4) rfl (by first | exact Or.inl rfl | exact Or.inr (Or.inl rfl) | exact Or.inr (Or.inr rfl))) me_int) (ma_cons (me_ix (me_var (i := 4) rfl (by first | exact Or.inl rfl | exact Or.inr (Or.inl rfl) | exact Or.inr (Or.inr rfl))) me_int) ma_nil))))))) (mg_name (n := 3) nd rfl (by first | exact Or.inl rfl | exact Or.inr rfl))) (ms_cons (ms_for rfl rfl (mi_seq (me_bin oM_add (me_var (i := 2) rfl (by first | exact Or.inl rfl | exact Or.inr (Or.inl rfl) | exact Or.inr (Or.inr rfl))) (me_var (i := 3) rfl (by first | exact Or.inl rfl | exact Or.inr (Or.inl rfl) | exact Or.inr (Or.inr rfl))))) (mg_name (n := 4) nd rfl (by first | exact Or.inl rfl | exact Or.inr rfl)) (ms_one (ms_if (mt_cmp (oM_ne (hu_of hr)) (by rfl) (me_cmpT (oX_in (k := 4) (SpOk.cons ⟨T.g_Kind, T.a_Kind___contains__, T.i_Kind___contains__, FnP.mono d_Kind___contains__ (by decide)⟩ SpOk.nil) hr hg) (by rfl) (me_var (i := 4) rfl (by first | exact Or.inl rfl | exact Or.inr (Or.inl rfl) | exact Or.inr (Or.inr rfl))) (me_var (i := 1) rfl (by first | exact Or.inl rfl | exact Or.inr (Or.inl rfl) | exact Or.inr (Or.inr rfl)))) (me_cmp (oM_in (hu5_of hr)) (by rfl) (me_var (i := 4) rfl (by first | exact Or.inl rfl | exact Or.inr (Or.inl rfl) | exact Or.inr (Or.inr rfl))) (me_var (i := 2) rfl (by first | exact Or.inl rfl | exact Or.inr (Or.inl rfl) | exact Or.inr (Or.inr rfl))))) (ms_one (ms_ret me_bl)) ms_nil))) (ms_cons (ms_set (me_lst (ma_cons me_non (ma_cons me_int (ma_cons (me_str (c := [])) (ma_cons (me_callTy cB_list rfl T.z_list (by decide +kernel) (ma_cons (me_ix (me_var (i := 2) rfl (by first | exact Or.inl rfl | exact Or.inr (Or.inl rfl) | exact Or.inr (Or.inr rfl))) me_int) ma_nil)) (ma_cons (me_var (i := 2) rfl (by first | exact Or.inl rfl | exact Or.inr (Or.inl rfl) | exact Or.inr (Or.inr rfl))) (ma_cons (me_slice (me_ix (me_var (i := 2) rfl (by first | exact Or.inl rfl | exact Or.inr (Or.inl rfl) | exact Or.inr (Or.inr rfl))) me_int) mo_none (mo_some me_int)) (ma_cons (me_bin oM_add (me_ix (me_var (i := 2) rfl (by first | exact Or.inl rfl | exact Or.inr (Or.inl rfl) | exact Or.inr (Or.inr rfl))) me_int) (me_tup (ma_cons me_int ma_nil))) (ma_cons (me_tup (ma_cons me_bl (ma_cons me_bl (ma_cons (me_ix (me_ix (me_var (i := 2) rfl (by first | exact Or.inl rfl | exact Or.inr (Or.inl rfl) | exact Or.inr (Or.inr rfl))) me_int) me_int) ma_nil)))) (ma_cons (me_tup (ma_cons me_int (ma_cons me_int (ma_cons me_non ma_nil)))) (ma_cons (me_var (i := 1) rfl (by first | exact Or.inl rfl | exact Or.inr (Or.inl rfl) | exact Or.inr (Or.inr rfl))) ma_nil))))))))))) (mg_name (n := 5) nd rfl (by first | exact Or.inl rfl | exact Or.inr rfl))) (ms_cons (ms_set (me_bin oM_add (me_var (i := 5) rfl (by first | exact Or.inl rfl | exact Or.inr (Or.inl rfl) | exact Or.inr (Or.inr rfl))) (me_lst (ma_cons (me_tup (ma_cons (me_ix (me_ix (me_var (i := 2) rfl (by first | exact Or.inl rfl | exact Or.inr (Or.inl rfl) | exact Or.inr (Or.inr rfl))) me_int) me_int) (ma_cons me_int (ma_cons me_int ma_nil)))) (ma_cons (me_tup (ma_cons (me_lst ma_nil) (ma_cons me_int (ma_cons (me_ix (me_ix (me_var (i := 2) rfl (by first | exact Or.inl rfl | exact Or.inr (Or.inl rfl) | exact Or.inr (Or.inr rfl))) me_int) me_int) ma_nil)))) (ma_cons (me_tup (ma_cons me_int (ma_cons me_dct0 (ma_cons (me_ix (me_ix (me_var (i := 2) rfl (by first | exact Or.inl rfl | exact Or.inr (Or.inl rfl) | exact Or.inr (Or.inr rfl))) me_int) me_int) ma_nil)))) ma_nil))))) (mg_name (n := 5) nd rfl (by first | exact Or.inl rfl | exact Or.inr rfl))) (ms_one (ms_ret (me_not (me_callB (cB_any rfl) rfl T.z_any (by decide +kernel) (ma_cons (by exact me_comp rfl nd (own := [("_law_thing", 6)]) (mi_seq (me_var (i := 5) rfl (by first | exact Or.inl rfl | exact Or.inr (Or.inl rfl) | exact Or.inr (Or.inr rfl)))) (blkOk_by (own := [("_law_thing", 6)]) (N := N__law_among_right) (sc := defScope s__law_among_right) (by decide +kernel)) (by decide) (fun _ _ _ _ _ => (mg_name (n := 6) nd rfl (by first | exact Or.inl rfl | exact Or.inr rfl))) (fun _ _ _ _ _ => mts_nil) (fun _ _ _ _ _ => (me_cmpT (oX_in (k := 4) (SpOk.cons ⟨T.g_Kind, T.a_Kind___contains__, T.i_Kind___contains__, FnP.mono d_Kind___contains__ (by decide)⟩ SpOk.nil) hr hg) (by rfl) (me_var (i := 6) rfl (by first | exact Or.inl rfl | exact Or.inr (Or.inl rfl) | exact Or.inr (Or.inr rfl))) (me_var (i := 1) rfl (by first | exact Or.inl rfl | exact Or.inr (Or.inl rfl) | exact Or.inr (Or.inr rfl)))))) ma_nil))))))))))
theorem sc_Kind_mirrored : FnScope N_Kind_mirrored ["self"] (defScope s_Kind_mirrored) := ⟨rfl, rfl, rfl, by decide +kernel, rfl, by decide +kernel, by decide +kernel⟩
theorem ok_Kind_mirrored (T : Ok K mg ad) : FnP P w K mg base 7 ad.a_Kind_mirrored f_Kind_mirrored := by
  have d_Kind_of := ok_Kind_of (P := P) (w := w) (base := base) T
  have nd : N_Kind_mirrored.Nodup := sc_Kind_mirrored.nd
  refine T.F_Kind_mirrored.pos (k := 6) (l := 3) (b := b_Kind_mirrored) sc_Kind_mirrored (fun _ _ _ _ _ _ us hl => match us, hl with | [_], _ => rfl) fun cdv A outer s H hr hg => ?_
  exact (ms_one (ms_ret (me_static rfl T.g_Kind T.rd_Kind T.st_Kind_of (callR_fn d_Kind_of (hr.mono (by decide)) hg) (ma_cons (by exact me_comp rfl nd (own := [("across", 1), ("up", 2), ("name", 3)]) (mi_seq (me_fld (n := "own_entries") rfl (me_var (i := 0) rfl (by first | exact Or.inl rfl | exact Or.inr (Or.inl rfl) | exact Or.inr (Or.inr rfl))) (FlOk.cons T.g_Kind T.cl_Kind T.x_Kind_own_entries FlOk.nil))) (blkOk_by (own := [("across", 1), ("up", 2), ("name", 3)]) (N := N_Kind_mirrored) (sc := defScope s_Kind_mirrored) (by decide +kernel)) (by decide) (fun _ _ _ _ _ => (mg_tup rfl (mgs_cons (mg_name (n := 1) nd rfl (by first | exact Or.inl rfl | exact Or.inr rfl)) (mgs_cons (mg_name (n := 2) nd rfl (by first | exact Or.inl rfl | exact Or.inr rfl)) (mgs_cons (mg_name (n := 3) nd rfl (by first | exact Or.inl rfl | exact Or.inr rfl)) mgs_nil))))) (fun _ _ _ _ _ => mts_nil) (fun _ _ _ _ _ => (me_tup (ma_cons (me_bin oM_sub (me_ix (me_fld (n := "own_reach") rfl (me_var (i := 0) rfl (by first | exact Or.inl rfl | exact Or.inr (Or.inl rfl) | exact Or.inr (Or.inr rfl))) (FlOk.cons T.g_Kind T.cl_Kind T.x_Kind_own_reach FlOk.nil)) me_int) (me_var (i := 1) rfl (by first | exact Or.inl rfl | exact Or.inr (Or.inl rfl) | exact Or.inr (Or.inr rfl)))) (ma_cons (me_var (i := 2) rfl (by first | exact Or.inl rfl | exact Or.inr (Or.inl rfl) | exact Or.inr (Or.inr rfl))) (ma_cons (me_var (i := 3) rfl (by first | exact Or.inl rfl | exact Or.inr (Or.inl rfl) | exact Or.inr (Or.inr rfl))) ma_nil)))))) ma_nil))))
theorem sc_Kind_turned : FnScope N_Kind_turned ["self"] (defScope s_Kind_turned) := ⟨rfl, rfl, rfl, by decide +kernel, rfl, by decide +kernel, by decide +kernel⟩
theorem ok_Kind_turned (T : Ok K mg ad) : FnP P w K mg base 7 ad.a_Kind_turned f_Kind_turned := by
  have d_Kind_of := ok_Kind_of (P := P) (w := w) (base := base) T
  have nd : N_Kind_turned.Nodup := sc_Kind_turned.nd
  refine T.F_Kind_turned.pos (k := 6) (l := 3) (b := b_Kind_turned) sc_Kind_turned (fun _ _ _ _ _ _ us hl => match us, hl with | [_], _ => rfl) fun cdv A outer s H hr hg => ?_
  exact (ms_one (ms_ret (me_static rfl T.g_Kind T.rd_Kind T.st_Kind_of (callR_fn d_Kind_of (hr.mono (by decide)) hg) (ma_cons (by exact me_comp rfl nd (own := [("across", 1), ("up", 2), ("name", 3)]) (mi_seq (me_fld (n := "own_entries") rfl (me_var (i := 0) rfl (by first | exact Or.inl rfl | exact Or.inr (Or.inl rfl) | exact Or.inr (Or.inr rfl))) (FlOk.cons T.g_Kind T.cl_Kind T.x_Kind_own_entries FlOk.nil))) (blkOk_by (own := [("across", 1), ("up", 2), ("name", 3)]) (N := N_Kind_turned) (sc := defScope s_Kind_turned) (by decide +kernel)) (by decide) (fun _ _ _ _ _ => (mg_tup rfl (mgs_cons (mg_name (n := 1) nd rfl (by first | exact Or.inl rfl | exact Or.inr rfl)) (mgs_cons (mg_name (n := 2) nd rfl (by first | exact Or.inl rfl | exact Or.inr rfl)) (mgs_cons (mg_name (n := 3) nd rfl (by first | exact Or.inl rfl | exact Or.inr rfl)) mgs_nil))))) (fun _ _ _ _ _ => mts_nil) (fun _ _ _ _ _ => (me_tup (ma_cons (me_var (i := 2) rfl (by first | exact Or.inl rfl | exact Or.inr (Or.inl rfl) | exact Or.inr (Or.inr rfl))) (ma_cons (me_var (i := 1) rfl (by first | exact Or.inl rfl | exact Or.inr (Or.inl rfl) | exact Or.inr (Or.inr rfl))) (ma_cons (me_var (i := 3) rfl (by first | exact Or.inl rfl | exact Or.inr (Or.inl rfl) | exact Or.inr (Or.inr rfl))) ma_nil)))))) ma_nil))))
theorem sc_Kind___eq__ : FnScope N_Kind___eq__ ["self", "other"] (defScope s_Kind___eq__) := ⟨rfl, rfl, rfl, by decide +kernel, rfl, by decide +kernel, by decide +kernel⟩
theorem ok_Kind___eq__ (T : Ok K mg ad) : FnP P w K mg base 1 ad.a_Kind___eq__ f_Kind___eq__ := by
  have nd : N_Kind___eq__.Nodup := sc_Kind___eq__.nd
  refine T.F_Kind___eq__.pos (k := 0) (l := 0) (b := b_Kind___eq__) sc_Kind___eq__ (fun _ _ _ _ _ _ us hl => match us, hl with | [_, _], _ => rfl) fun cdv A outer s H hr hg => ?_
  exact (ms_one (ms_ret (me_and (me_isC (T.is_Kind _ rfl rfl) (me_var (i := 1) rfl (by first | exact Or.inl rfl | exact Or.inr (Or.inl rfl) | exact Or.inr (Or.inr rfl))) rfl T.z_isinstance (pe_glob rfl T.g_Kind rfl)) (me_one (me_cmp (oM_eq (hu_of hr)) (by rfl) (me_fld (n := "own_entries") rfl (me_var (i := 0) rfl (by first | exact Or.inl rfl | exact Or.inr (Or.inl rfl) | exact Or.inr (Or.inr rfl))) (FlOk.cons T.g_Kind T.cl_Kind T.x_Kind_own_entries FlOk.nil)) (me_fld (n := "own_entries") rfl (me_var (i := 1) rfl (by first | exact Or.inl rfl | exact Or.inr (Or.inl rfl) | exact Or.inr (Or.inr rfl))) (FlOk.cons T.g_Kind T.cl_Kind T.x_Kind_own_entries FlOk.nil)))))))
theorem sc__law_turned_right : FnScope N__law_turned_right ["_law_made", "_law_due"] (defScope s__law_turned_right) := ⟨rfl, rfl, rfl, by decide +kernel, rfl, by decide +kernel, by decide +kernel⟩
theorem ok__law_turned_right (T : Ok K mg ad) : FnP P w K mg base 8 ad.a__law_turned_right f__law_turned_right := by
  have d__law_far := ok__law_far (P := P) (w := w) (base := base) T
  have d__law_told_right := ok__law_told_right (P := P) (w := w) (base := base) T
  have d_Kind_mirrored := ok_Kind_mirrored (P := P) (w := w) (base := base) T
  have d_Kind_turned := ok_Kind_turned (P := P) (w := w) (base := base) T
  have d_Kind___eq__ := ok_Kind___eq__ (P := P) (w := w) (base := base) T
  have nd : N__law_turned_right.Nodup := sc__law_turned_right.nd
  refine T.F__law_turned_right.pos (k := 7) (l := 5) (b := b__law_turned_right) sc__law_turned_right (fun _ _ _ _ _ _ us hl => match us, hl with | [_, _], _ => rfl) fun cdv A outer s H hr hg => ?_
  exact (ms_cons (ms_set (me_call (callR_fn d__law_far (hr.mono (by decide)) hg) rfl T.g__law_far T.k__law_far (ma_cons (me_var (i := 1) rfl (by first | exact Or.inl rfl | exact Or.inr (Or.inl rfl) | exact Or.inr (Or.inr rfl))) ma_nil)) (mg_name (n := 2) nd rfl (by first | exact Or.inl rfl | exact Or.inr rfl))) (ms_cons (ms_set (me_callB (cB_sorted (hu_of hr)) rfl T.z_sorted (by decide +kernel) (ma_cons (by exact me_comp rfl nd (own := [("_law_part", 6)]) (mi_seq (me_var (i := 1) rfl (by first | exact Or.inl rfl | exact Or.inr (Or.inl rfl) | exact Or.inr (Or.inr rfl)))) (blkOk_by (own := [("_law_part", 6)]) (N := N__law_turned_right) (sc := defScope s__law_turned_right) (by decide +kernel)) (by decide) (fun _ _ _ _ _ => (mg_name (n := 6) nd rfl (by first | exact Or.inl rfl | exact Or.inr rfl))) (fun _ _ _ _ _ => mts_nil) (fun _ _ _ _ _ => (me_tup (ma_cons (me_bin oM_sub (me_ix (me_var (i := 2) rfl (by first | exact Or.inl rfl | exact Or.inr (Or.inl rfl) | exact Or.inr (Or.inr rfl))) me_int) (me_ix (me_var (i := 6) rfl (by first | exact Or.inl rfl | exact Or.inr (Or.inl rfl) | exact Or.inr (Or.inr rfl))) me_int)) (ma_cons (me_ix (me_var (i := 6) rfl (by first | exact Or.inl rfl | exact Or.inr (Or.inl rfl) | exact Or.inr (Or.inr rfl))) me_int) (ma_cons (me_ix (me_var (i := 6) rfl (by first | exact Or.inl rfl | exact Or.inr (Or.inl rfl) | exact Or.inr (Or.inr rfl))) me_int) ma_nil)))))) ma_nil)) (mg_name (n := 3) nd rfl (by first | exact Or.inl rfl | exact Or.inr rfl))) (ms_cons (ms_set (me_callB (cB_sorted (hu_of hr)) rfl T.z_sorted (by decide +kernel) (ma_cons (by exact me_comp rfl nd (own := [("_law_part", 6)]) (mi_seq (me_var (i := 1) rfl (by first | exact Or.inl rfl | exact Or.inr (Or.inl rfl) | exact Or.inr (Or.inr rfl)))) (blkOk_by (own := [("_law_part", 6)]) (N := N__law_turned_right) (sc := defScope s__law_turned_right) (by decide +kernel)) (by decide) (fun _ _ _ _ _ => (mg_name (n := 6) nd rfl (by first | exact Or.inl rfl | exact Or.inr rfl))) (fun _ _ _ _ _ => mts_nil) (fun _ _ _ _ _ => (me_tup (ma_cons (me_ix (me_var (i := 6) rfl (by first | exact Or.inl rfl | exact Or.inr (Or.inl rfl) | exact Or.inr (Or.inr rfl))) me_int) (ma_cons (me_ix (me_var (i := 6) rfl (by first | exact Or.inl rfl | exact Or.inr (Or.inl rfl) | exact Or.inr (Or.inr rfl))) me_int) (ma_cons (me_ix (me_var (i := 6) rfl (by first | exact Or.inl rfl | exact Or.inr (Or.inl rfl) | exact Or.inr (Or.inr rfl))) me_int) ma_nil)))))) ma_nil)) (mg_name (n := 4) nd rfl (by first | exact Or.inl rfl | exact Or.inr rfl))) (ms_cons (ms_if (mt_w (mw_or (mt_not (mt_val (me_call (callR_fn d__law_told_right (hr.mono (by decide)) hg) rfl T.g__law_told_right T.k__law_told_right (ma_cons (me_meth0 (n := "mirrored") rfl (me_var (i := 0) rfl (by first | exact Or.inl rfl | exact Or.inr (Or.inl rfl) | exact Or.inr (Or.inr rfl))) (TbOk.cons ⟨T.g_Kind, T.cl_Kind, T.m_Kind_mirrored, callR_fn d_Kind_mirrored (hr.mono (by decide)) hg⟩ TbOk.nil)) (ma_cons (me_var (i := 3) rfl (by first | exact Or.inl rfl | exact Or.inr (Or.inl rfl) | exact Or.inr (Or.inr rfl))) ma_nil))))) (mw_or1 (mt_not (mt_val (me_call (callR_fn d__law_told_right (hr.mono (by decide)) hg) rfl T.g__law_told_right T.k__law_told_right (ma_cons (me_meth0 (n := "turned") rfl (me_var (i := 0) rfl (by first | exact Or.inl rfl | exact Or.inr (Or.inl rfl) | exact Or.inr (Or.inr rfl))) (TbOk.cons ⟨T.g_Kind, T.cl_Kind, T.m_Kind_turned, callR_fn d_Kind_turned (hr.mono (by decide)) hg⟩ TbOk.nil)) (ma_cons (me_var (i := 4) rfl (by first | exact Or.inl rfl | exact Or.inr (Or.inl rfl) | exact Or.inr (Or.inr rfl))) ma_nil)))))))) (ms_one (ms_ret me_bl)) ms_nil) (ms_cons (ms_if (mt_w (mw_or (mt_cmpT (oX_ne (k := 6) (SpOk.cons ⟨T.g_Kind, T.a_Kind___eq__, T.i_Kind___eq__, FnP.mono d_Kind___eq__ (by decide)⟩ SpOk.nil) (NeOk.cons T.g_Kind T.ne_Kind NeOk.nil) hr hg) (by rfl) (me_meth0 (n := "mirrored") rfl (me_meth0 (n := "mirrored") rfl (me_var (i := 0) rfl (by first | exact Or.inl rfl | exact Or.inr (Or.inl rfl) | exact Or.inr (Or.inr rfl))) (TbOk.cons ⟨T.g_Kind, T.cl_Kind, T.m_Kind_mirrored, callR_fn d_Kind_mirrored (hr.mono (by decide)) hg⟩ TbOk.nil)) (TbOk.cons ⟨T.g_Kind, T.cl_Kind, T.m_Kind_mirrored, callR_fn d_Kind_mirrored (hr.mono (by decide)) hg⟩ TbOk.nil)) (me_var (i := 0) rfl (by first | exact Or.inl rfl | exact Or.inr (Or.inl rfl) | exact Or.inr (Or.inr rfl)))) (mw_or1 (mt_cmpT (oX_ne (k := 6) (SpOk.cons ⟨T.g_Kind, T.a_Kind___eq__, T.i_Kind___eq__, FnP.mono d_Kind___eq__ (by decide)⟩ SpOk.nil) (NeOk.cons T.g_Kind T.ne_Kind NeOk.nil) hr hg) (by rfl) (me_meth0 (n := "turned") rfl (me_meth0 (n := "turned") rfl (me_var (i := 0) rfl (by first | exact Or.inl rfl | exact Or.inr (Or.inl rfl) | exact Or.inr (Or.inr rfl))) (TbOk.cons ⟨T.g_Kind, T.cl_Kind, T.m_Kind_turned, callR_fn d_Kind_turned (hr.mono (by decide)) hg⟩ TbOk.nil)) (TbOk.cons ⟨T.g_Kind, T.cl_Kind, T.m_Kind_turned, callR_fn d_Kind_turned (hr.mono (by decide)) hg⟩ TbOk.nil)) (me_var (i := 0) rfl (by first | exact Or.inl rfl | exact Or.inr (Or.inl rfl) | exact Or.inr (Or.inr rfl))))))) (ms_one (ms_ret me_bl)) ms_nil) (ms_cons (ms_set (me_meth0 (n := "mirrored") rfl (me_meth0 (n := "turned") rfl (me_meth0 (n := "mirrored") rfl (me_meth0 (n := "turned") rfl (me_var (i := 0) rfl (by first | exact Or.inl rfl | exact Or.inr (Or.inl rfl) | exact Or.inr (Or.inr rfl))) (TbOk.cons ⟨T.g_Kind, T.cl_Kind, T.m_Kind_turned, callR_fn d_Kind_turned (hr.mono (by decide)) hg⟩ TbOk.nil)) (TbOk.cons ⟨T.g_Kind, T.cl_Kind, T.m_Kind_mirrored, callR_fn d_Kind_mirrored (hr.mono (by decide)) hg⟩ TbOk.nil)) (TbOk.cons ⟨T.g_Kind, T.cl_Kind, T.m_Kind_turned, callR_fn d_Kind_turned (hr.mono (by decide)) hg⟩ TbOk.nil)) (TbOk.cons ⟨T.g_Kind, T.cl_Kind, T.m_Kind_mirrored, callR_fn d_Kind_mirrored (hr.mono (by decide)) hg⟩ TbOk.nil)) (mg_name (n := 5) nd rfl (by first | exact Or.inl rfl | exact Or.inr rfl))) (ms_one (ms_ret (me_call (callR_fn d__law_told_right (hr.mono (by decide)) hg) rfl T.g__law_told_right T.k__law_told_right (ma_cons (me_var (i := 5) rfl (by first | exact Or.inl rfl | exact Or.inr (Or.inl rfl) | exact Or.inr (Or.inr rfl))) (ma_cons (me_callB (cB_sorted (hu_of hr)) rfl T.z_sorted (by decide +kernel) (ma_cons (by exact me_comp rfl nd (own := [("_law_part", 6)]) (mi_seq (me_var (i := 1) rfl (by first | exact Or.inl rfl | exact Or.inr (Or.inl rfl) | exact Or.inr (Or.inr rfl)))) (blkOk_by (own := [("_law_part", 6)]) (N := N__law_turned_right) (sc := defScope s__law_turned_right) (by decide +kernel)) (by decide) (fun _ _ _ _ _ => (mg_name (n := 6) nd rfl (by first | exact Or.inl rfl | exact Or.inr rfl))) (fun _ _ _ _ _ => mts_nil) (fun _ _ _ _ _ => (me_tup (ma_cons (me_bin oM_sub (me_ix (me_var (i := 2) rfl (by first | exact Or.inl rfl | exact Or.inr (Or.inl rfl) | exact Or.inr (Or.inr rfl))) me_int) (me_ix (me_var (i := 6) rfl (by first | exact Or.inl rfl | exact Or.inr (Or.inl rfl) | exact Or.inr (Or.inr rfl))) me_int)) (ma_cons (me_bin oM_sub (me_ix (me_var (i := 2) rfl (by first | exact Or.inl rfl | exact Or.inr (Or.inl rfl) | exact Or.inr (Or.inr rfl))) me_int) (me_ix (me_var (i := 6) rfl (by first | exact Or.inl rfl | exact Or.inr (Or.inl rfl) | exact Or.inr (Or.inr rfl))) me_int)) (ma_cons (me_ix (me_var (i := 6) rfl (by first | exact Or.inl rfl | exact Or.inr (Or.inl rfl) | exact Or.inr (Or.inr rfl))) me_int) ma_nil)))))) ma_nil)) ma_nil)))))))))))
theorem sc__law_right : FnScope N__law_right ["_law_pot_here"] (defScope s__law_right) := ⟨rfl, rfl, rfl, by decide +kernel, rfl, by decide +kernel, by decide +kernel⟩
theorem ok__law_right (T : Ok K mg ad) : FnP P w K mg base 9 ad.a__law_right f__law_right := by
  have d__law_names := ok__law_names (P := P) (w := w) (base := base) T
  have d__law_draw := ok__law_draw (P := P) (w := w) (base := base) T
  have d__law_entries := ok__law_entries (P := P) (w := w) (base := base) T
  have d__law_passedK := ok__law_passedK (P := P) (w := w) (base := base) T
  have d__law_kind := ok__law_kind (P := P) (w := w) (base := base) T
  have d_Kind_of := ok_Kind_of (P := P) (w := w) (base := base) T
  have d_Kind_ofWentries := ok_Kind_ofWentries (P := P) (w := w) (base := base) T
  have d__law_passed := ok__law_passed (P := P) (w := w) (base := base) T
  have d_Kind_entriesK := ok_Kind_entriesK (P := P) (w := w) (base := base) T
  have d_Kind_namesK := ok_Kind_namesK (P := P) (w := w) (base := base) T
  have d__law_told_right := ok__law_told_right (P := P) (w := w) (base := base) T
  have d__law_among_right := ok__law_among_right (P := P) (w := w) (base := base) T
  have d__law_turned_right := ok__law_turned_right (P := P) (w := w) (base := base) T
  have d_Kind___eq__ := ok_Kind___eq__ (P := P) (w := w) (base := base) T
  have d_Kind___repr__ := ok_Kind___repr__ (P := P) (w := w) (base := base) T
  have nd : N__law_right.Nodup := sc__law_right.nd
  refine T.F__law_right.pos (k := 8) (l := 11) (b := b__law_right) sc__law_right (fun _ _ _ _ _ _ us hl => match us, hl with | [_], _ => rfl) fun cdv A outer s H hr hg => ?_
  exact (ms_cons (ms_set (me_call (callR_fn d__law_names (hr.mono (by decide)) hg) rfl T.g__law_names T.k__law_names (ma_cons (me_var (i := 0) rfl (by first | exact Or.inl rfl | exact Or.inr (Or.inl rfl) | exact Or.inr (Or.inr rfl))) (ma_cons (me_bin oM_add me_int (me_call (callR_fn d__law_draw (hr.mono (by decide)) hg) rfl T.g__law_draw T.k__law_draw (ma_cons (me_var (i := 0) rfl (by first | exact Or.inl rfl | exact Or.inr (Or.inl rfl) | exact Or.inr (Or.inr rfl))) (ma_cons me_int ma_nil)))) ma_nil))) (mg_name (n := 1) nd rfl (by first | exact Or.inl rfl | exact Or.inr rfl))) (ms_cons (by first | exact ms_par2 (i := 5) (j := 6) rfl nd rfl rfl (by decide) rfl rfl (ma_cons (me_call (callR_fn d__law_entries (hr.mono (by decide)) hg) rfl T.g__law_entries T.k__law_entries (ma_cons (me_var (i := 0) rfl (by first | exact Or.inl rfl | exact Or.inr (Or.inl rfl) | exact Or.inr (Or.inr rfl))) (ma_cons (me_var (i := 1) rfl (by first | exact Or.inl rfl | exact Or.inr (Or.inl rfl) | exact Or.inr (Or.inr rfl))) ma_nil))) (ma_cons (me_call (callR_fn d__law_entries (hr.mono (by decide)) hg) rfl T.g__law_entries T.k__law_entries (ma_cons (me_var (i := 0) rfl (by first | exact Or.inl rfl | exact Or.inr (Or.inl rfl) | exact Or.inr (Or.inr rfl))) (ma_cons (me_var (i := 1) rfl (by first | exact Or.inl rfl | exact Or.inr (Or.inl rfl) | exact Or.inr (Or.inr rfl))) ma_nil))) ma_nil)) (by rfl) | exact ms_set (me_tup (ma_cons (me_call (callR_fn d__law_entries (hr.mono (by decide)) hg) rfl T.g__law_entries T.k__law_entries (ma_cons (me_var (i := 0) rfl (by first | exact Or.inl rfl | exact Or.inr (Or.inl rfl) | exact Or.inr (Or.inr rfl))) (ma_cons (me_var (i := 1) rfl (by first | exact Or.inl rfl | exact Or.inr (Or.inl rfl) | exact Or.inr (Or.inr rfl))) ma_nil))) (ma_cons (me_call (callR_fn d__law_entries (hr.mono (by decide)) hg) rfl T.g__law_entries T.k__law_entries (ma_cons (me_var (i := 0) rfl (by first | exact Or.inl rfl | exact Or.inr (Or.inl rfl) | exact Or.inr (Or.inr rfl))) (ma_cons (me_var (i := 1) rfl (by first | exact Or.inl rfl | exact Or.inr (Or.inl rfl) | exact Or.inr (Or.inr rfl))) ma_nil))) ma_nil))) (mg_tup rfl (mgs_cons (mg_name (n := 5) nd rfl (by first | exact Or.inl rfl | exact Or.inr rfl)) (mgs_cons (mg_name (n := 6) nd rfl (by first | exact Or.inl rfl | exact Or.inr rfl)) mgs_nil)))) (ms_cons (ms_set (me_call (callR_fn d__law_passedK (hr.mono (by decide)) hg) rfl T.g__law_passed T.k__law_passed (ma_cons (me_var (i := 0) rfl (by first | exact Or.inl rfl | exact Or.inr (Or.inl rfl) | exact Or.inr (Or.inr rfl))) (ma_cons (me_var (i := 5) rfl (by first | exact Or.inl rfl | exact Or.inr (Or.inl rfl) | exact Or.inr (Or.inr rfl))) ma_nil))) (mg_name (n := 2) nd rfl (by first | exact Or.inl rfl | exact Or.inr rfl))) (ms_cons (by first | exact ms_par2 (i := 7) (j := 8) rfl nd rfl rfl (by decide) rfl rfl (ma_cons (me_call (callR_fn d__law_kind (hr.mono (by decide)) hg) rfl T.g__law_kind T.k__law_kind (ma_cons (me_var (i := 2) rfl (by first | exact Or.inl rfl | exact Or.inr (Or.inl rfl) | exact Or.inr (Or.inr rfl))) ma_nil)) (ma_cons (me_static rfl T.g_Kind T.rd_Kind T.st_Kind_of (callR_fn d_Kind_of (hr.mono (by decide)) hg) (ma_cons (me_var (i := 2) rfl (by first | exact Or.inl rfl | exact Or.inr (Or.inl rfl) | exact Or.inr (Or.inr rfl))) ma_nil)) ma_nil)) (by rfl) | exact ms_set (me_tup (ma_cons (me_call (callR_fn d__law_kind (hr.mono (by decide)) hg) rfl T.g__law_kind T.k__law_kind (ma_cons (me_var (i := 2) rfl (by first | exact Or.inl rfl | exact Or.inr (Or.inl rfl) | exact Or.inr (Or.inr rfl))) ma_nil)) (ma_cons (me_static rfl T.g_Kind T.rd_Kind T.st_Kind_of (callR_fn d_Kind_of (hr.mono (by decide)) hg) (ma_cons (me_var (i := 2) rfl (by first | exact Or.inl rfl | exact Or.inr (Or.inl rfl) | exact Or.inr (Or.inr rfl))) ma_nil)) ma_nil))) (mg_tup rfl (mgs_cons (mg_name (n := 7) nd rfl (by first | exact Or.inl rfl | exact Or.inr rfl)) (mgs_cons (mg_name (n := 8) nd rfl (by first | exact Or.inl rfl | exact Or.inr rfl)) mgs_nil)))) (ms_cons (by first | exact ms_par2 (i := 9) (j := 10) rfl nd rfl rfl (by decide) rfl rfl (ma_cons (me_staticK0 rfl T.g_Kind T.rd_Kind T.st_Kind_of (callK_fn d_Kind_ofWentries (hr.mono (by decide)) hg) (mk_cons (me_callTy cB_tuple rfl T.z_tuple (by decide +kernel) (ma_cons (me_call (callR_fn d__law_passed (hr.mono (by decide)) hg) rfl T.g__law_passed T.k__law_passed (ma_cons (me_var (i := 0) rfl (by first | exact Or.inl rfl | exact Or.inr (Or.inl rfl) | exact Or.inr (Or.inr rfl))) (ma_cons (me_var (i := 5) rfl (by first | exact Or.inl rfl | exact Or.inr (Or.inl rfl) | exact Or.inr (Or.inr rfl))) ma_nil))) ma_nil)) mk_nil)) (ma_cons (me_call (callR_fn d__law_kind (hr.mono (by decide)) hg) rfl T.g__law_kind T.k__law_kind (ma_cons (me_call (callR_fn d__law_passed (hr.mono (by decide)) hg) rfl T.g__law_passed T.k__law_passed (ma_cons (me_var (i := 0) rfl (by first | exact Or.inl rfl | exact Or.inr (Or.inl rfl) | exact Or.inr (Or.inr rfl))) (ma_cons (me_var (i := 6) rfl (by first | exact Or.inl rfl | exact Or.inr (Or.inl rfl) | exact Or.inr (Or.inr rfl))) ma_nil))) ma_nil)) ma_nil)) (by rfl) | exact ms_set (me_tup (ma_cons (me_staticK0 rfl T.g_Kind T.rd_Kind T.st_Kind_of (callK_fn d_Kind_ofWentries (hr.mono (by decide)) hg) (mk_cons (me_callTy cB_tuple rfl T.z_tuple (by decide +kernel) (ma_cons (me_call (callR_fn d__law_passed (hr.mono (by decide)) hg) rfl T.g__law_passed T.k__law_passed (ma_cons (me_var (i := 0) rfl (by first | exact Or.inl rfl | exact Or.inr (Or.inl rfl) | exact Or.inr (Or.inr rfl))) (ma_cons (me_var (i := 5) rfl (by first | exact Or.inl rfl | exact Or.inr (Or.inl rfl) | exact Or.inr (Or.inr rfl))) ma_nil))) ma_nil)) mk_nil)) (ma_cons (me_call (callR_fn d__law_kind (hr.mono (by decide)) hg) rfl T.g__law_kind T.k__law_kind (ma_cons (me_call (callR_fn d__law_passed (hr.mono (by decide)) hg) rfl T.g__law_passed T.k__law_passed (ma_cons (me_var (i := 0) rfl (by first | exact Or.inl rfl | exact Or.inr (Or.inl rfl) | exact Or.inr (Or.inr rfl))) (ma_cons (me_var (i := 6) rfl (by first | exact Or.inl rfl | exact Or.inr (Or.inl rfl) | exact Or.inr (Or.inr rfl))) ma_nil))) ma_nil)) ma_nil))) (mg_tup rfl (mgs_cons (mg_name (n := 9) nd rfl (by first | exact Or.inl rfl | exact Or.inr rfl)) (mgs_cons (mg_name (n := 10) nd rfl (by first | exact Or.inl rfl | exact Or.inr rfl)) mgs_nil)))) (ms_cons (ms_set (me_lst (ma_cons (me_meth0 (n := "entries") rfl (me_var (i := 7) rfl (by first | exact Or.inl rfl | exact Or.inr (Or.inl rfl) | exact Or.inr (Or.inr rfl))) (TbOk.cons ⟨T.g_Kind, T.cl_Kind, T.m_Kind_entries, callR_fn d_Kind_entriesK (hr.mono (by decide)) hg⟩ TbOk.nil)) (ma_cons (me_meth0 (n := "names") rfl (me_var (i := 7) rfl (by first | exact Or.inl rfl | exact Or.inr (Or.inl rfl) | exact Or.inr (Or.inr rfl))) (TbOk.cons ⟨T.g_Kind, T.cl_Kind, T.m_Kind_names, callR_fn d_Kind_namesK (hr.mono (by decide)) hg⟩ TbOk.nil)) ma_nil))) (mg_name (n := 3) nd rfl (by first | exact Or.inl rfl | exact Or.inr rfl))) (ms_cons (ms_expr (me_appendC (me_ix (me_var (i := 3) rfl (by first | exact Or.inl rfl | exact Or.inr (Or.inl rfl) | exact Or.inr (Or.inr rfl))) me_int) (ma_cons (me_tup (ma_cons me_int (ma_cons me_int (ma_cons (me_str (c := [122, 122])) ma_nil)))) ma_nil))) (ms_cons (ms_expr (me_clearC (me_ix (me_var (i := 3) rfl (by first | exact Or.inl rfl | exact Or.inr (Or.inl rfl) | exact Or.inr (Or.inr rfl))) me_int))) (ms_cons (ms_expr (me_clearC (me_var (i := 2) rfl (by first | exact Or.inl rfl | exact Or.inr (Or.inl rfl) | exact Or.inr (Or.inr rfl))))) (ms_cons (ms_for rfl rfl (mi_seq (me_lst (ma_cons (me_var (i := 7) rfl (by first | exact Or.inl rfl | exact Or.inr (Or.inl rfl) | exact Or.inr (Or.inr rfl))) (ma_cons (me_var (i := 8) rfl (by first | exact Or.inl rfl | exact Or.inr (Or.inl rfl) | exact Or.inr (Or.inr rfl))) (ma_cons (me_var (i := 9) rfl (by first | exact Or.inl rfl | exact Or.inr (Or.inl rfl) | exact Or.inr (Or.inr rfl))) ma_nil))))) (mg_name (n := 4) nd rfl (by first | exact Or.inl rfl | exact Or.inr rfl)) (ms_one (ms_if (mt_w (mw_or (mt_not (mt_val (me_call (callR_fn d__law_told_right (hr.mono (by decide)) hg) rfl T.g__law_told_right T.k__law_told_right (ma_cons (me_var (i := 4) rfl (by first | exact Or.inl rfl | exact Or.inr (Or.inl rfl) | exact Or.inr (Or.inr rfl))) (ma_cons (me_var (i := 5) rfl (by first | exact Or.inl rfl | exact Or.inr (Or.inl rfl) | exact Or.inr (Or.inr rfl))) ma_nil))))) (mw_or (mt_not (mt_val (me_call (callR_fn d__law_told_right (hr.mono (by decide)) hg) rfl T.g__law_told_right T.k__law_told_right (ma_cons (me_var (i := 4) rfl (by first | exact Or.inl rfl | exact Or.inr (Or.inl rfl) | exact Or.inr (Or.inr rfl))) (ma_cons (me_var (i := 5) rfl (by first | exact Or.inl rfl | exact Or.inr (Or.inl rfl) | exact Or.inr (Or.inr rfl))) ma_nil))))) (mw_or1 (mt_not (mt_val (me_call (callR_fn d__law_among_right (hr.mono (by decide)) hg) rfl T.g__law_among_right T.k__law_among_right (ma_cons (me_var (i := 0) rfl (by first | exact Or.inl rfl | exact Or.inr (Or.inl rfl) | exact Or.inr (Or.inr rfl))) (ma_cons (me_var (i := 4) rfl (by first | exact Or.inl rfl | exact Or.inr (Or.inl rfl) | exact Or.inr (Or.inr rfl))) (ma_cons (me_var (i := 5) rfl (by first | exact Or.inl rfl | exact Or.inr (Or.inl rfl) | exact Or.inr (Or.inr rfl))) ma_nil)))))))))) (ms_one (ms_ret me_bl)) ms_nil))) (ms_cons (ms_if (mt_w (mw_or (mt_not (mt_val (me_call (callR_fn d__law_told_right (hr.mono (by decide)) hg) rfl T.g__law_told_right T.k__law_told_right (ma_cons (me_var (i := 10) rfl (by first | exact Or.inl rfl | exact Or.inr (Or.inl rfl) | exact Or.inr (Or.inr rfl))) (ma_cons (me_var (i := 6) rfl (by first | exact Or.inl rfl | exact Or.inr (Or.inl rfl) | exact Or.inr (Or.inr rfl))) ma_nil))))) (mw_or1 (mt_not (mt_val (me_call (callR_fn d__law_turned_right (hr.mono (by decide)) hg) rfl T.g__law_turned_right T.k__law_turned_right (ma_cons (me_var (i := 7) rfl (by first | exact Or.inl rfl | exact Or.inr (Or.inl rfl) | exact Or.inr (Or.inr rfl))) (ma_cons (me_var (i := 5) rfl (by first | exact Or.inl rfl | exact Or.inr (Or.inl rfl) | exact Or.inr (Or.inr rfl))) ma_nil)))))))) (ms_one (ms_ret me_bl)) ms_nil) (ms_cons (ms_if (mt_cmp (oM_ne (hu_of hr)) (by rfl) (me_lst (ma_cons (me_cmpT (oX_eq (k := 7) (SpOk.cons ⟨T.g_Kind, T.a_Kind___eq__, T.i_Kind___eq__, FnP.mono d_Kind___eq__ (by decide)⟩ SpOk.nil) hr hg) (by rfl) (me_var (i := 7) rfl (by first | exact Or.inl rfl | exact Or.inr (Or.inl rfl) | exact Or.inr (Or.inr rfl))) (me_var (i := 8) rfl (by first | exact Or.inl rfl | exact Or.inr (Or.inl rfl) | exact Or.inr (Or.inr rfl)))) (ma_cons (me_cmpT (oX_eq (k := 7) (SpOk.cons ⟨T.g_Kind, T.a_Kind___eq__, T.i_Kind___eq__, FnP.mono d_Kind___eq__ (by decide)⟩ SpOk.nil) hr hg) (by rfl) (me_var (i := 8) rfl (by first | exact Or.inl rfl | exact Or.inr (Or.inl rfl) | exact Or.inr (Or.inr rfl))) (me_var (i := 9) rfl (by first | exact Or.inl rfl | exact Or.inr (Or.inl rfl) | exact Or.inr (Or.inr rfl)))) (ma_cons (me_cmpT (oX_eq (k := 7) (SpOk.cons ⟨T.g_Kind, T.a_Kind___eq__, T.i_Kind___eq__, FnP.mono d_Kind___eq__ (by decide)⟩ SpOk.nil) hr hg) (by rfl) (me_var (i := 7) rfl (by first | exact Or.inl rfl | exact Or.inr (Or.inl rfl) | exact Or.inr (Or.inr rfl))) (me_var (i := 10) rfl (by first | exact Or.inl rfl | exact Or.inr (Or.inl rfl) | exact Or.inr (Or.inr rfl)))) (ma_cons (me_cmpT (oX_eq (k := 7) (SpOk.cons ⟨T.g_Kind, T.a_Kind___eq__, T.i_Kind___eq__, FnP.mono d_Kind___eq__ (by decide)⟩ SpOk.nil) hr hg) (by rfl) (me_var (i := 10) rfl (by first | exact Or.inl rfl | exact Or.inr (Or.inl rfl) | exact Or.inr (Or.inr rfl))) (me_var (i := 7) rfl (by first | exact Or.inl rfl | exact Or.inr (Or.inl rfl) | exact Or.inr (Or.inr rfl)))) ma_nil))))) (me_lst (ma_cons me_bl (ma_cons me_bl (ma_cons (me_cmp (oM_eq (hu_of hr)) (by rfl) (me_var (i := 5) rfl (by first | exact Or.inl rfl | exact Or.inr (Or.inl rfl) | exact Or.inr (Or.inr rfl))) (me_var (i := 6) rfl (by first | exact Or.inl rfl | exact Or.inr (Or.inl rfl) | exact Or.inr (Or.inr rfl)))) (ma_cons (me_cmp (oM_eq (hu_of hr)) (by rfl) (me_var (i := 5) rfl (by first | exact Or.inl rfl | exact Or.inr (Or.inl rfl) | exact Or.inr (Or.inr rfl))) (me_var (i := 6) rfl (by first | exact Or.inl rfl | exact Or.inr (Or.inl rfl) | exact Or.inr (Or.inr rfl)))) ma_nil)))))) (ms_one (ms_ret me_bl)) ms_nil) (ms_cons (ms_if (mt_w (mw_or (mt_val (me_callB (cB_any rfl) rfl T.z_any (by decide +kernel) (ma_cons (by exact me_comp rfl nd (own := [("_law_thing", 11)]) (mi_seq (me_lst (ma_cons me_non (ma_cons me_int (ma_cons (me_var (i := 5) rfl (by first | exact Or.inl rfl | exact Or.inr (Or.inl rfl) | exact Or.inr (Or.inr rfl))) (ma_cons (me_callTy cB_tuple rfl T.z_tuple (by decide +kernel) (ma_cons (me_var (i := 5) rfl (by first | exact Or.inl rfl | exact Or.inr (Or.inl rfl) | exact Or.inr (Or.inr rfl))) ma_nil)) (ma_cons (me_callO (cX_repr (k := 7) (SpOk.cons ⟨T.g_Kind, T.a_Kind___repr__, T.i_Kind___repr__, FnP.mono d_Kind___repr__ (by decide)⟩ SpOk.nil) hr hg) rfl T.z_repr (by decide +kernel) (me_var (i := 7) rfl (by first | exact Or.inl rfl | exact Or.inr (Or.inl rfl) | exact Or.inr (Or.inr rfl)))) (ma_cons me_dct0 ma_nil)))))))) (blkOk_by (own := [("_law_thing", 11)]) (N := N__law_right) (sc := defScope s__law_right) (by decide +kernel)) (by decide) (fun _ _ _ _ _ => (mg_name (n := 11) nd rfl (by first | exact Or.inl rfl | exact Or.inr rfl))) (fun _ _ _ _ _ => mts_nil) (fun _ _ _ _ _ => (me_cmpT (oX_eq (k := 7) (SpOk.cons ⟨T.g_Kind, T.a_Kind___eq__, T.i_Kind___eq__, FnP.mono d_Kind___eq__ (by decide)⟩ SpOk.nil) hr hg) (by rfl) (me_var (i := 7) rfl (by first | exact Or.inl rfl | exact Or.inr (Or.inl rfl) | exact Or.inr (Or.inr rfl))) (me_var (i := 11) rfl (by first | exact Or.inl rfl | exact Or.inr (Or.inl rfl) | exact Or.inr (Or.inr rfl)))))) ma_nil))) (mw_or1 (mt_cmpT (oX_ne (k := 7) (SpOk.cons ⟨T.g_Kind, T.a_Kind___eq__, T.i_Kind___eq__, FnP.mono d_Kind___eq__ (by decide)⟩ SpOk.nil) (NeOk.cons T.g_Kind T.ne_Kind NeOk.nil) hr hg) (by rfl) (me_var (i := 7) rfl (by first | exact Or.inl rfl | exact Or.inr (Or.inl rfl) | exact Or.inr (Or.inr rfl))) (me_var (i := 9) rfl (by first | exact Or.inl rfl | exact Or.inr (Or.inl rfl) | exact Or.inr (Or.inr rfl))))))) (ms_one (ms_ret me_bl)) ms_nil) (ms_one (ms_ret (me_and (me_cmp (oM_eq (hu_of hr)) (by rfl) (me_lst (ma_cons (T.v_Kind_MOST_ENTRIES.elim fun _ h => me_ccon rfl T.g_Kind T.rd_Kind h) (ma_cons (T.v_Kind_MOST_REACH.elim fun _ h => me_ccon rfl T.g_Kind T.rd_Kind h) ma_nil))) (me_lst (ma_cons me_int (ma_cons me_int ma_nil)))) (me_one (me_call (callR_fn d__law_told_right (hr.mono (by decide)) hg) rfl T.g__law_told_right T.k__law_told_right (ma_cons (me_var (i := 7) rfl (by first | exact Or.inl rfl | exact Or.inr (Or.inl rfl) | exact Or.inr (Or.inr rfl))) (ma_cons (me_var (i := 5) rfl (by first | exact Or.inl rfl | exact Or.inr (Or.inl rfl) | exact Or.inr (Or.inr rfl))) ma_nil))))))))))))))))))))
theorem sc__law_pot : FnScope N__law_pot ["_law_script", "_law_k"] (defScope s__law_pot) := ⟨rfl, rfl, rfl, by decide +kernel, rfl, by decide +kernel, by decide +kernel⟩
theorem ok__law_potK (T : Ok K mg ad) : FnP P w K mg base 1 ad.a__law_pot f__law_potK := by
  have nd : N__law_pot.Nodup := sc__law_pot.nd
  refine T.F__law_pot.posK (k := 0) (l := 1) (b := b__law_potK) sc__law_pot (fun _ _ _ _ _ _ us hl => match us, hl with | [_, _], _ => rfl) fun cdv A outer s H hr hg => ?_
  exact (ms_cons (ms_set (me_bin oM_add (me_bin oM_mul me_int (me_var (i := 1) rfl (by first | exact Or.inl rfl | exact Or.inr (Or.inl rfl) | exact Or.inr (Or.inr rfl)))) me_int) (mg_name (n := 2) nd rfl (by first | exact Or.inl rfl | exact Or.inr rfl))) (ms_cons (ms_if (mt_cmp oM_lt (by rfl) (me_var (i := 1) rfl (by first | exact Or.inl rfl | exact Or.inr (Or.inl rfl) | exact Or.inr (Or.inr rfl))) (me_callB cB_len rfl T.z_len (by decide +kernel) (ma_cons (me_var (i := 0) rfl (by first | exact Or.inl rfl | exact Or.inr (Or.inl rfl) | exact Or.inr (Or.inr rfl))) ma_nil))) (ms_one (ms_set (me_callB cB_abs rfl T.z_abs (by decide +kernel) (ma_cons (me_ix (me_var (i := 0) rfl (by first | exact Or.inl rfl | exact Or.inr (Or.inl rfl) | exact Or.inr (Or.inr rfl))) (me_var (i := 1) rfl (by first | exact Or.inl rfl | exact Or.inr (Or.inl rfl) | exact Or.inr (Or.inr rfl)))) ma_nil)) (mg_name (n := 2) nd rfl (by first | exact Or.inl rfl | exact Or.inr rfl)))) ms_nil) (ms_one (ms_ret (me_lstM (ma_cons (me_callB (cB_max rfl) rfl T.z_max (by decide +kernel) (ma_cons me_int (ma_cons (me_bin oM_sub (me_var (i := 2) rfl (by first | exact Or.inl rfl | exact Or.inr (Or.inl rfl) | exact Or.inr (Or.inr rfl))) (me_bin oM_pow me_int me_int)) ma_nil))) (ma_cons (me_bin oM_add (me_bin oM_mod (me_callTy cB_int rfl T.z_int (by decide +kernel) (ma_cons (me_bin oM_add (me_bin oM_add (me_bin oM_mul (me_bin oM_mod (me_callTy cB_int rfl T.z_int (by decide +kernel) (ma_cons (me_var (i := 2) rfl (by first | exact Or.inl rfl | exact Or.inr (Or.inl rfl) | exact Or.inr (Or.inr rfl))) ma_nil)) me_int) me_int) (me_bin oM_mul me_int (me_var (i := 1) rfl (by first | exact Or.inl rfl | exact Or.inr (Or.inl rfl) | exact Or.inr (Or.inr rfl))))) me_int) ma_nil)) me_int) me_int) ma_nil)))))))
theorem sc_law : FnScope N_law ["_law_script"] (defScope s_law) := ⟨rfl, rfl, rfl, by decide +kernel, rfl, by decide +kernel, by decide +kernel⟩
theorem ok_law (T : Ok K mg ad) : ∃ kV doc pm an cdv ct, ∀ base : Heap, FnG P w K mg base 10 ad.a_law (PySem.W.fnOf "law" "law" (defArgs s_law) (defBody s_law) (defScope s_law) .none kV doc pm an cdv ct) ["_law_script"] f_law := by
  refine T.F_law.fnGb (k := 9) (l := 1) (b := b_law) sc_law fun base cdv A outer s H hr hg => ?_
  have d__law_right := ok__law_right (P := P) (w := w) (base := base) T
  have d__law_potK := ok__law_potK (P := P) (w := w) (base := base) T
  have nd : N_law.Nodup := sc_law.nd
  exact (ms_one (ms_ret (me_callB (cB_all rfl) rfl T.z_all (by decide +kernel) (ma_cons (by exact me_comp rfl nd (own := [("_law_k", 1)]) (mi_range1 rfl T.z_range (ma_cons (me_callB (cB_max rfl) rfl T.z_max (by decide +kernel) (ma_cons me_int (ma_cons (me_callB (cB_min rfl) rfl T.z_min (by decide +kernel) (ma_cons me_int (ma_cons (me_callB cB_len rfl T.z_len (by decide +kernel) (ma_cons (me_var (i := 0) rfl (by first | exact Or.inl rfl | exact Or.inr (Or.inl rfl) | exact Or.inr (Or.inr rfl))) ma_nil)) ma_nil))) ma_nil))) ma_nil)) (blkOk_by (own := [("_law_k", 1)]) (N := N_law) (sc := defScope s_law) (by decide +kernel)) (by decide) (fun _ _ _ _ _ => (mg_name (n := 1) nd rfl (by first | exact Or.inl rfl | exact Or.inr rfl))) (fun _ _ _ _ _ => mts_nil) (fun _ _ _ _ _ => (me_call (callR_fn d__law_right (hr.mono (by decide)) hg) rfl T.g__law_right T.k__law_right (ma_cons (me_call (callR_fn d__law_potK (hr.mono (by decide)) hg) rfl T.g__law_pot T.k__law_pot (ma_cons (me_var (i := 0) rfl (by first | exact Or.inl rfl | exact Or.inr (Or.inl rfl) | exact Or.inr (Or.inr rfl))) (ma_cons (me_var (i := 1) rfl (by first | exact Or.inl rfl | exact Or.inr (Or.inl rfl) | exact Or.inr (Or.inr rfl))) ma_nil))) ma_nil)))) ma_nil))))
theorem all_mk {h : Heap} (X : K.In h) (G : h.Ns mainGlobals mg)
    {C_Kind : Addr} {a__law_draw : Addr} {a__law_among : Addr} {a__law_names : Addr} {a__law_normed : Addr} {a__law_entries : Addr} {a__law_mixed : Addr} {a__law_passed : Addr} {a_is_integer : Addr} {a_is_step : Addr} {a_is_name : Addr} {a_is_entry : Addr} {a_shifted : Addr} {a_normed : Addr} {a_Kind___init__ : Addr} {a__law_kind : Addr} {a_is_list : Addr} {a_Kind_of : Addr} {sa_Kind_of : Addr} {a_Kind_entries : Addr} {a_Kind_names : Addr} {a__law_far : Addr} {a_Kind_reach : Addr} {p_Kind_reach : Addr} {a_Kind_is_flat : Addr} {p_Kind_is_flat : Addr} {a_Kind___len__ : Addr} {a_Kind___repr__ : Addr} {a__law_told_right : Addr} {a_Kind___contains__ : Addr} {a__law_among_right : Addr} {a_Kind_mirrored : Addr} {a_Kind_turned : Addr} {a_Kind___eq__ : Addr} {a__law_turned_right : Addr} {a__law_right : Addr} {a__law_pot : Addr} {a_law : Addr} {oc__law_draw : Value} {od__law_draw : Option Addr} {an__law_draw : Option Addr} {sl__law_draw : Array (Option Value)} {kV__law_draw : Value} {dc__law_draw : Value} {pm__law_draw : Value} {cd__law_draw : Value} {ct__law_draw : Value} {oc__law_among : Value} {od__law_among : Option Addr} {an__law_among : Option Addr} {sl__law_among : Array (Option Value)} {kV__law_among : Value} {dc__law_among : Value} {pm__law_among : Value} {cd__law_among : Value} {ct__law_among : Value} {oc__law_names : Value} {od__law_names : Option Addr} {an__law_names : Option Addr} {sl__law_names : Array (Option Value)} {kV__law_names : Value} {dc__law_names : Value} {pm__law_names : Value} {cd__law_names : Value} {ct__law_names : Value} {oc__law_normed : Value} {od__law_normed : Option Addr} {an__law_normed : Option Addr} {sl__law_normed : Array (Option Value)} {kV__law_normed : Value} {dc__law_normed : Value} {pm__law_normed : Value} {cd__law_normed : Value} {ct__law_normed : Value} {oc__law_entries : Value} {od__law_entries : Option Addr} {an__law_entries : Option Addr} {sl__law_entries : Array (Option Value)} {kV__law_entries : Value} {dc__law_entries : Value} {pm__law_entries : Value} {cd__law_entries : Value} {ct__law_entries : Value} {oc__law_mixed : Value} {od__law_mixed : Option Addr} {an__law_mixed : Option Addr} {sl__law_mixed : Array (Option Value)} {kV__law_mixed : Value} {dc__law_mixed : Value} {pm__law_mixed : Value} {cd__law_mixed : Value} {ct__law_mixed : Value} {oc__law_passed : Value} {od__law_passed : Option Addr} {an__law_passed : Option Addr} {sl__law_passed : Array (Option Value)} {kV__law_passed : Value} {dc__law_passed : Value} {pm__law_passed : Value} {cd__law_passed : Value} {ct__law_passed : Value} {oc_is_integer : Value} {od_is_integer : Option Addr} {an_is_integer : Option Addr} {sl_is_integer : Array (Option Value)} {kV_is_integer : Value} {dc_is_integer : Value} {pm_is_integer : Value} {cd_is_integer : Value} {ct_is_integer : Value} {oc_is_step : Value} {od_is_step : Option Addr} {an_is_step : Option Addr} {sl_is_step : Array (Option Value)} {kV_is_step : Value} {dc_is_step : Value} {pm_is_step : Value} {cd_is_step : Value} {ct_is_step : Value} {oc_is_name : Value} {od_is_name : Option Addr} {an_is_name : Option Addr} {sl_is_name : Array (Option Value)} {kV_is_name : Value} {dc_is_name : Value} {pm_is_name : Value} {cd_is_name : Value} {ct_is_name : Value} {oc_is_entry : Value} {od_is_entry : Option Addr} {an_is_entry : Option Addr} {sl_is_entry : Array (Option Value)} {kV_is_entry : Value} {dc_is_entry : Value} {pm_is_entry : Value} {cd_is_entry : Value} {ct_is_entry : Value} {oc_shifted : Value} {od_shifted : Option Addr} {an_shifted : Option Addr} {sl_shifted : Array (Option Value)} {kV_shifted : Value} {dc_shifted : Value} {pm_shifted : Value} {cd_shifted : Value} {ct_shifted : Value} {oc_normed : Value} {od_normed : Option Addr} {an_normed : Option Addr} {sl_normed : Array (Option Value)} {kV_normed : Value} {dc_normed : Value} {pm_normed : Value} {cd_normed : Value} {ct_normed : Value} {oc_Kind___init__ : Value} {od_Kind___init__ : Option Addr} {an_Kind___init__ : Option Addr} {sl_Kind___init__ : Array (Option Value)} {kV_Kind___init__ : Value} {dc_Kind___init__ : Value} {pm_Kind___init__ : Value} {cd_Kind___init__ : Value} {ct_Kind___init__ : Value} {oc__law_kind : Value} {od__law_kind : Option Addr} {an__law_kind : Option Addr} {sl__law_kind : Array (Option Value)} {kV__law_kind : Value} {dc__law_kind : Value} {pm__law_kind : Value} {cd__law_kind : Value} {ct__law_kind : Value} {oc_is_list : Value} {od_is_list : Option Addr} {an_is_list : Option Addr} {sl_is_list : Array (Option Value)} {kV_is_list : Value} {dc_is_list : Value} {pm_is_list : Value} {cd_is_list : Value} {ct_is_list : Value} {pr_Kind_of : List Value} {oc_Kind_of : Value} {od_Kind_of : Option Addr} {an_Kind_of : Option Addr} {sl_Kind_of : Array (Option Value)} {kV_Kind_of : Value} {dc_Kind_of : Value} {pm_Kind_of : Value} {cd_Kind_of : Value} {ct_Kind_of : Value} {oc_Kind_entries : Value} {od_Kind_entries : Option Addr} {an_Kind_entries : Option Addr} {sl_Kind_entries : Array (Option Value)} {kV_Kind_entries : Value} {dc_Kind_entries : Value} {pm_Kind_entries : Value} {cd_Kind_entries : Value} {ct_Kind_entries : Value} {oc_Kind_names : Value} {od_Kind_names : Option Addr} {an_Kind_names : Option Addr} {sl_Kind_names : Array (Option Value)} {kV_Kind_names : Value} {dc_Kind_names : Value} {pm_Kind_names : Value} {cd_Kind_names : Value} {ct_Kind_names : Value} {oc__law_far : Value} {od__law_far : Option Addr} {an__law_far : Option Addr} {sl__law_far : Array (Option Value)} {kV__law_far : Value} {dc__law_far : Value} {pm__law_far : Value} {cd__law_far : Value} {ct__law_far : Value} {pr_Kind_reach : List Value} {oc_Kind_reach : Value} {od_Kind_reach : Option Addr} {an_Kind_reach : Option Addr} {sl_Kind_reach : Array (Option Value)} {kV_Kind_reach : Value} {dc_Kind_reach : Value} {pm_Kind_reach : Value} {cd_Kind_reach : Value} {ct_Kind_reach : Value} {pr_Kind_is_flat : List Value} {oc_Kind_is_flat : Value} {od_Kind_is_flat : Option Addr} {an_Kind_is_flat : Option Addr} {sl_Kind_is_flat : Array (Option Value)} {kV_Kind_is_flat : Value} {dc_Kind_is_flat : Value} {pm_Kind_is_flat : Value} {cd_Kind_is_flat : Value} {ct_Kind_is_flat : Value} {oc_Kind___len__ : Value} {od_Kind___len__ : Option Addr} {an_Kind___len__ : Option Addr} {sl_Kind___len__ : Array (Option Value)} {kV_Kind___len__ : Value} {dc_Kind___len__ : Value} {pm_Kind___len__ : Value} {cd_Kind___len__ : Value} {ct_Kind___len__ : Value} {oc_Kind___repr__ : Value} {od_Kind___repr__ : Option Addr} {an_Kind___repr__ : Option Addr} {sl_Kind___repr__ : Array (Option Value)} {kV_Kind___repr__ : Value} {dc_Kind___repr__ : Value} {pm_Kind___repr__ : Value} {cd_Kind___repr__ : Value} {ct_Kind___repr__ : Value} {oc__law_told_right : Value} {od__law_told_right : Option Addr} {an__law_told_right : Option Addr} {sl__law_told_right : Array (Option Value)} {kV__law_told_right : Value} {dc__law_told_right : Value} {pm__law_told_right : Value} {cd__law_told_right : Value} {ct__law_told_right : Value} {oc_Kind___contains__ : Value} {od_Kind___contains__ : Option Addr} {an_Kind___contains__ : Option Addr} {sl_Kind___contains__ : Array (Option Value)} {kV_Kind___contains__ : Value} {dc_Kind___contains__ : Value} {pm_Kind___contains__ : Value} {cd_Kind___contains__ : Value} {ct_Kind___contains__ : Value} {oc__law_among_right : Value} {od__law_among_right : Option Addr} {an__law_among_right : Option Addr} {sl__law_among_right : Array (Option Value)} {kV__law_among_right : Value} {dc__law_among_right : Value} {pm__law_among_right : Value} {cd__law_among_right : Value} {ct__law_among_right : Value} {oc_Kind_mirrored : Value} {od_Kind_mirrored : Option Addr} {an_Kind_mirrored : Option Addr} {sl_Kind_mirrored : Array (Option Value)} {kV_Kind_mirrored : Value} {dc_Kind_mirrored : Value} {pm_Kind_mirrored : Value} {cd_Kind_mirrored : Value} {ct_Kind_mirrored : Value} {oc_Kind_turned : Value} {od_Kind_turned : Option Addr} {an_Kind_turned : Option Addr} {sl_Kind_turned : Array (Option Value)} {kV_Kind_turned : Value} {dc_Kind_turned : Value} {pm_Kind_turned : Value} {cd_Kind_turned : Value} {ct_Kind_turned : Value} {oc_Kind___eq__ : Value} {od_Kind___eq__ : Option Addr} {an_Kind___eq__ : Option Addr} {sl_Kind___eq__ : Array (Option Value)} {kV_Kind___eq__ : Value} {dc_Kind___eq__ : Value} {pm_Kind___eq__ : Value} {cd_Kind___eq__ : Value} {ct_Kind___eq__ : Value} {oc__law_turned_right : Value} {od__law_turned_right : Option Addr} {an__law_turned_right : Option Addr} {sl__law_turned_right : Array (Option Value)} {kV__law_turned_right : Value} {dc__law_turned_right : Value} {pm__law_turned_right : Value} {cd__law_turned_right : Value} {ct__law_turned_right : Value} {oc__law_right : Value} {od__law_right : Option Addr} {an__law_right : Option Addr} {sl__law_right : Array (Option Value)} {kV__law_right : Value} {dc__law_right : Value} {pm__law_right : Value} {cd__law_right : Value} {ct__law_right : Value} {oc__law_pot : Value} {od__law_pot : Option Addr} {an__law_pot : Option Addr} {sl__law_pot : Array (Option Value)} {kV__law_pot : Value} {dc__law_pot : Value} {pm__law_pot : Value} {cd__law_pot : Value} {ct__law_pot : Value} {oc_law : Value} {od_law : Option Addr} {an_law : Option Addr} {sl_law : Array (Option Value)} {kV_law : Value} {dc_law : Value} {pm_law : Value} {cd_law : Value} {ct_law : Value} {t_Kind_MOST_ENTRIES : Tok} {t_FARTHEST : Tok} {t_LONGEST_NAME : Tok} {t_LETTERS : Tok} {t_Kind_MOST_REACH : Tok} {u_Kind_MOST_ENTRIES : Tok} {u_Kind_MOST_REACH : Tok}
    (hg_Kind : PySem.W.nsIn K mainGlobals "Kind" = some (some (.ref C_Kind)))
    (h1_Kind : PySem.W.plainGet K C_Kind Str.empty = true)
    (h2_Kind : PySem.W.hasDictIn K C_Kind = true)
    (h3_Kind : PySem.W.plainOver K C_Kind = true)
    (h4_Kind : PySem.W.findIn K (.ref C_Kind) "__setattr__" = some (some (.builtin "object.__setattr__")))
    (h5_Kind : PySem.W.readsIn K C_Kind (.type "type") = true)
    (h6_Kind : PySem.W.specialIn K (.ref C_Kind) "__getattribute__" = some (some (.builtin "type.__getattribute__")))
    (hg__law_draw : PySem.W.nsIn K mainGlobals "_law_draw" = some (some (.ref a__law_draw)))
    (hk__law_draw : PySem.W.keepIn K (.ref a__law_draw) = true)
    (hl__law_draw : K.lookup a__law_draw = some ⟨oc__law_draw, od__law_draw, .func (PySem.W.fnOf "_law_draw" "_law_draw" (defArgs s__law_draw) (defBody s__law_draw) (defScope s__law_draw) .none kV__law_draw dc__law_draw pm__law_draw an__law_draw cd__law_draw ct__law_draw), sl__law_draw⟩)
    (hq__law_draw : PySem.W.codeIn K cd__law_draw "_law_draw" = true)
    (hg__law_among : PySem.W.nsIn K mainGlobals "_law_among" = some (some (.ref a__law_among)))
    (hk__law_among : PySem.W.keepIn K (.ref a__law_among) = true)
    (hl__law_among : K.lookup a__law_among = some ⟨oc__law_among, od__law_among, .func (PySem.W.fnOf "_law_among" "_law_among" (defArgs s__law_among) (defBody s__law_among) (defScope s__law_among) .none kV__law_among dc__law_among pm__law_among an__law_among cd__law_among ct__law_among), sl__law_among⟩)
    (hq__law_among : PySem.W.codeIn K cd__law_among "_law_among" = true)
    (hg__law_names : PySem.W.nsIn K mainGlobals "_law_names" = some (some (.ref a__law_names)))
    (hk__law_names : PySem.W.keepIn K (.ref a__law_names) = true)
    (hl__law_names : K.lookup a__law_names = some ⟨oc__law_names, od__law_names, .func (PySem.W.fnOf "_law_names" "_law_names" (defArgs s__law_names) (defBody s__law_names) (defScope s__law_names) .none kV__law_names dc__law_names pm__law_names an__law_names cd__law_names ct__law_names), sl__law_names⟩)
    (hq__law_names : PySem.W.codeIn K cd__law_names "_law_names" = true)
    (hg__law_normed : PySem.W.nsIn K mainGlobals "_law_normed" = some (some (.ref a__law_normed)))
    (hk__law_normed : PySem.W.keepIn K (.ref a__law_normed) = true)
    (hl__law_normed : K.lookup a__law_normed = some ⟨oc__law_normed, od__law_normed, .func (PySem.W.fnOf "_law_normed" "_law_normed" (defArgs s__law_normed) (defBody s__law_normed) (defScope s__law_normed) .none kV__law_normed dc__law_normed pm__law_normed an__law_normed cd__law_normed ct__law_normed), sl__law_normed⟩)
    (hq__law_normed : PySem.W.codeIn K cd__law_normed "_law_normed" = true)
    (hg__law_entries : PySem.W.nsIn K mainGlobals "_law_entries" = some (some (.ref a__law_entries)))
    (hk__law_entries : PySem.W.keepIn K (.ref a__law_entries) = true)
    (hl__law_entries : K.lookup a__law_entries = some ⟨oc__law_entries, od__law_entries, .func (PySem.W.fnOf "_law_entries" "_law_entries" (defArgs s__law_entries) (defBody s__law_entries) (defScope s__law_entries) .none kV__law_entries dc__law_entries pm__law_entries an__law_entries cd__law_entries ct__law_entries), sl__law_entries⟩)
    (hq__law_entries : PySem.W.codeIn K cd__law_entries "_law_entries" = true)
    (hg__law_mixed : PySem.W.nsIn K mainGlobals "_law_mixed" = some (some (.ref a__law_mixed)))
    (hk__law_mixed : PySem.W.keepIn K (.ref a__law_mixed) = true)
    (hl__law_mixed : K.lookup a__law_mixed = some ⟨oc__law_mixed, od__law_mixed, .func (PySem.W.fnOf "_law_mixed" "_law_mixed" (defArgs s__law_mixed) (defBody s__law_mixed) (defScope s__law_mixed) .none kV__law_mixed dc__law_mixed pm__law_mixed an__law_mixed cd__law_mixed ct__law_mixed), sl__law_mixed⟩)
    (hq__law_mixed : PySem.W.codeIn K cd__law_mixed "_law_mixed" = true)
    (hg__law_passed : PySem.W.nsIn K mainGlobals "_law_passed" = some (some (.ref a__law_passed)))
    (hk__law_passed : PySem.W.keepIn K (.ref a__law_passed) = true)
    (hl__law_passed : K.lookup a__law_passed = some ⟨oc__law_passed, od__law_passed, .func (PySem.W.fnOf "_law_passed" "_law_passed" (defArgs s__law_passed) (defBody s__law_passed) (defScope s__law_passed) .none kV__law_passed dc__law_passed pm__law_passed an__law_passed cd__law_passed ct__law_passed), sl__law_passed⟩)
    (hq__law_passed : PySem.W.codeIn K cd__law_passed "_law_passed" = true)
    (hg_is_integer : PySem.W.nsIn K mainGlobals "is_integer" = some (some (.ref a_is_integer)))
    (hk_is_integer : PySem.W.keepIn K (.ref a_is_integer) = true)
    (hl_is_integer : K.lookup a_is_integer = some ⟨oc_is_integer, od_is_integer, .func (PySem.W.fnOf "is_integer" "is_integer" (defArgs s_is_integer) (defBody s_is_integer) (defScope s_is_integer) .none kV_is_integer dc_is_integer pm_is_integer an_is_integer cd_is_integer ct_is_integer), sl_is_integer⟩)
    (hq_is_integer : PySem.W.codeIn K cd_is_integer "is_integer" = true)
    (hg_is_step : PySem.W.nsIn K mainGlobals "is_step" = some (some (.ref a_is_step)))
    (hk_is_step : PySem.W.keepIn K (.ref a_is_step) = true)
    (hl_is_step : K.lookup a_is_step = some ⟨oc_is_step, od_is_step, .func (PySem.W.fnOf "is_step" "is_step" (defArgs s_is_step) (defBody s_is_step) (defScope s_is_step) .none kV_is_step dc_is_step pm_is_step an_is_step cd_is_step ct_is_step), sl_is_step⟩)
    (hq_is_step : PySem.W.codeIn K cd_is_step "is_step" = true)
    (hg_is_name : PySem.W.nsIn K mainGlobals "is_name" = some (some (.ref a_is_name)))
    (hk_is_name : PySem.W.keepIn K (.ref a_is_name) = true)
    (hl_is_name : K.lookup a_is_name = some ⟨oc_is_name, od_is_name, .func (PySem.W.fnOf "is_name" "is_name" (defArgs s_is_name) (defBody s_is_name) (defScope s_is_name) .none kV_is_name dc_is_name pm_is_name an_is_name cd_is_name ct_is_name), sl_is_name⟩)
    (hq_is_name : PySem.W.codeIn K cd_is_name "is_name" = true)
    (hg_is_entry : PySem.W.nsIn K mainGlobals "is_entry" = some (some (.ref a_is_entry)))
    (hk_is_entry : PySem.W.keepIn K (.ref a_is_entry) = true)
    (hl_is_entry : K.lookup a_is_entry = some ⟨oc_is_entry, od_is_entry, .func (PySem.W.fnOf "is_entry" "is_entry" (defArgs s_is_entry) (defBody s_is_entry) (defScope s_is_entry) .none kV_is_entry dc_is_entry pm_is_entry an_is_entry cd_is_entry ct_is_entry), sl_is_entry⟩)
    (hq_is_entry : PySem.W.codeIn K cd_is_entry "is_entry" = true)
    (hg_shifted : PySem.W.nsIn K mainGlobals "shifted" = some (some (.ref a_shifted)))
    (hk_shifted : PySem.W.keepIn K (.ref a_shifted) = true)
    (hl_shifted : K.lookup a_shifted = some ⟨oc_shifted, od_shifted, .func (PySem.W.fnOf "shifted" "shifted" (defArgs s_shifted) (defBody s_shifted) (defScope s_shifted) .none kV_shifted dc_shifted pm_shifted an_shifted cd_shifted ct_shifted), sl_shifted⟩)
    (hq_shifted : PySem.W.codeIn K cd_shifted "shifted" = true)
    (hg_normed : PySem.W.nsIn K mainGlobals "normed" = some (some (.ref a_normed)))
    (hk_normed : PySem.W.keepIn K (.ref a_normed) = true)
    (hl_normed : K.lookup a_normed = some ⟨oc_normed, od_normed, .func (PySem.W.fnOf "normed" "normed" (defArgs s_normed) (defBody s_normed) (defScope s_normed) .none kV_normed dc_normed pm_normed an_normed cd_normed ct_normed), sl_normed⟩)
    (hq_normed : PySem.W.codeIn K cd_normed "normed" = true)
    (ha_Kind___init__ : PySem.W.findIn K (.ref C_Kind) "__init__" = some (some (.ref a_Kind___init__)))
    (hi_Kind___init__ : PySem.W.isFn K (.ref a_Kind___init__) = true)
    (hl_Kind___init__ : K.lookup a_Kind___init__ = some ⟨oc_Kind___init__, od_Kind___init__, .func (PySem.W.fnOf "__init__" "Kind.__init__" (defArgs s_Kind___init__) (defBody s_Kind___init__) (defScope s_Kind___init__) .none kV_Kind___init__ dc_Kind___init__ pm_Kind___init__ an_Kind___init__ cd_Kind___init__ ct_Kind___init__), sl_Kind___init__⟩)
    (hq_Kind___init__ : PySem.W.codeIn K cd_Kind___init__ "Kind.__init__" = true)
    (hg__law_kind : PySem.W.nsIn K mainGlobals "_law_kind" = some (some (.ref a__law_kind)))
    (hk__law_kind : PySem.W.keepIn K (.ref a__law_kind) = true)
    (hl__law_kind : K.lookup a__law_kind = some ⟨oc__law_kind, od__law_kind, .func (PySem.W.fnOf "_law_kind" "_law_kind" (defArgs s__law_kind) (defBody s__law_kind) (defScope s__law_kind) .none kV__law_kind dc__law_kind pm__law_kind an__law_kind cd__law_kind ct__law_kind), sl__law_kind⟩)
    (hq__law_kind : PySem.W.codeIn K cd__law_kind "_law_kind" = true)
    (hg_is_list : PySem.W.nsIn K mainGlobals "is_list" = some (some (.ref a_is_list)))
    (hk_is_list : PySem.W.keepIn K (.ref a_is_list) = true)
    (hl_is_list : K.lookup a_is_list = some ⟨oc_is_list, od_is_list, .func (PySem.W.fnOf "is_list" "is_list" (defArgs s_is_list) (defBody s_is_list) (defScope s_is_list) .none kV_is_list dc_is_list pm_is_list an_is_list cd_is_list ct_is_list), sl_is_list⟩)
    (hq_is_list : PySem.W.codeIn K cd_is_list "is_list" = true)
    (ha_Kind_of : PySem.W.findCls K (.ref C_Kind) (.type "type") "of" = some (.get (.builtin "staticmethod.__get__") (.ref sa_Kind_of) .none (.ref C_Kind)))
    (hb_Kind_of : PySem.W.recIn K sa_Kind_of "staticmethod" = some (.ref a_Kind_of :: pr_Kind_of))
    (hc_Kind_of : PySem.W.keepIn K (.ref a_Kind_of) = true)
    (hl_Kind_of : K.lookup a_Kind_of = some ⟨oc_Kind_of, od_Kind_of, .func (PySem.W.fnOf "of" "Kind.of" (defArgs s_Kind_of) (defBody s_Kind_of) (defScope s_Kind_of) .none kV_Kind_of dc_Kind_of pm_Kind_of an_Kind_of cd_Kind_of ct_Kind_of), sl_Kind_of⟩)
    (hq_Kind_of : PySem.W.codeIn K cd_Kind_of "Kind.of" = true)
    (ha_Kind_entries : PySem.W.findIn K (.ref C_Kind) "entries" = some (some (.ref a_Kind_entries)))
    (hi_Kind_entries : PySem.W.isFn K (.ref a_Kind_entries) = true)
    (hl_Kind_entries : K.lookup a_Kind_entries = some ⟨oc_Kind_entries, od_Kind_entries, .func (PySem.W.fnOf "entries" "Kind.entries" (defArgs s_Kind_entries) (defBody s_Kind_entries) (defScope s_Kind_entries) .none kV_Kind_entries dc_Kind_entries pm_Kind_entries an_Kind_entries cd_Kind_entries ct_Kind_entries), sl_Kind_entries⟩)
    (hq_Kind_entries : PySem.W.codeIn K cd_Kind_entries "Kind.entries" = true)
    (ha_Kind_names : PySem.W.findIn K (.ref C_Kind) "names" = some (some (.ref a_Kind_names)))
    (hi_Kind_names : PySem.W.isFn K (.ref a_Kind_names) = true)
    (hl_Kind_names : K.lookup a_Kind_names = some ⟨oc_Kind_names, od_Kind_names, .func (PySem.W.fnOf "names" "Kind.names" (defArgs s_Kind_names) (defBody s_Kind_names) (defScope s_Kind_names) .none kV_Kind_names dc_Kind_names pm_Kind_names an_Kind_names cd_Kind_names ct_Kind_names), sl_Kind_names⟩)
    (hq_Kind_names : PySem.W.codeIn K cd_Kind_names "Kind.names" = true)
    (hg__law_far : PySem.W.nsIn K mainGlobals "_law_far" = some (some (.ref a__law_far)))
    (hk__law_far : PySem.W.keepIn K (.ref a__law_far) = true)
    (hl__law_far : K.lookup a__law_far = some ⟨oc__law_far, od__law_far, .func (PySem.W.fnOf "_law_far" "_law_far" (defArgs s__law_far) (defBody s__law_far) (defScope s__law_far) .none kV__law_far dc__law_far pm__law_far an__law_far cd__law_far ct__law_far), sl__law_far⟩)
    (hq__law_far : PySem.W.codeIn K cd__law_far "_law_far" = true)
    (ha_Kind_reach : PySem.W.findIn K (.ref C_Kind) "reach" = some (some (.ref p_Kind_reach)))
    (hb_Kind_reach : PySem.W.specialIn K (.ref p_Kind_reach) "__get__" = some (some (.builtin "property.__get__")))
    (hc_Kind_reach : PySem.W.takesIn K (.ref p_Kind_reach) = some true)
    (hd_Kind_reach : PySem.W.recIn K p_Kind_reach "property" = some (.ref a_Kind_reach :: pr_Kind_reach))
    (hl_Kind_reach : K.lookup a_Kind_reach = some ⟨oc_Kind_reach, od_Kind_reach, .func (PySem.W.fnOf "reach" "Kind.reach" (defArgs s_Kind_reach) (defBody s_Kind_reach) (defScope s_Kind_reach) .none kV_Kind_reach dc_Kind_reach pm_Kind_reach an_Kind_reach cd_Kind_reach ct_Kind_reach), sl_Kind_reach⟩)
    (hq_Kind_reach : PySem.W.codeIn K cd_Kind_reach "Kind.reach" = true)
    (ha_Kind_is_flat : PySem.W.findIn K (.ref C_Kind) "is_flat" = some (some (.ref p_Kind_is_flat)))
    (hb_Kind_is_flat : PySem.W.specialIn K (.ref p_Kind_is_flat) "__get__" = some (some (.builtin "property.__get__")))
    (hc_Kind_is_flat : PySem.W.takesIn K (.ref p_Kind_is_flat) = some true)
    (hd_Kind_is_flat : PySem.W.recIn K p_Kind_is_flat "property" = some (.ref a_Kind_is_flat :: pr_Kind_is_flat))
    (hl_Kind_is_flat : K.lookup a_Kind_is_flat = some ⟨oc_Kind_is_flat, od_Kind_is_flat, .func (PySem.W.fnOf "is_flat" "Kind.is_flat" (defArgs s_Kind_is_flat) (defBody s_Kind_is_flat) (defScope s_Kind_is_flat) .none kV_Kind_is_flat dc_Kind_is_flat pm_Kind_is_flat an_Kind_is_flat cd_Kind_is_flat ct_Kind_is_flat), sl_Kind_is_flat⟩)
    (hq_Kind_is_flat : PySem.W.codeIn K cd_Kind_is_flat "Kind.is_flat" = true)
    (ha_Kind___len__ : PySem.W.findIn K (.ref C_Kind) "__len__" = some (some (.ref a_Kind___len__)))
    (hi_Kind___len__ : PySem.W.isFn K (.ref a_Kind___len__) = true)
    (hl_Kind___len__ : K.lookup a_Kind___len__ = some ⟨oc_Kind___len__, od_Kind___len__, .func (PySem.W.fnOf "__len__" "Kind.__len__" (defArgs s_Kind___len__) (defBody s_Kind___len__) (defScope s_Kind___len__) .none kV_Kind___len__ dc_Kind___len__ pm_Kind___len__ an_Kind___len__ cd_Kind___len__ ct_Kind___len__), sl_Kind___len__⟩)
    (hq_Kind___len__ : PySem.W.codeIn K cd_Kind___len__ "Kind.__len__" = true)
    (ha_Kind___repr__ : PySem.W.findIn K (.ref C_Kind) "__repr__" = some (some (.ref a_Kind___repr__)))
    (hi_Kind___repr__ : PySem.W.isFn K (.ref a_Kind___repr__) = true)
    (hl_Kind___repr__ : K.lookup a_Kind___repr__ = some ⟨oc_Kind___repr__, od_Kind___repr__, .func (PySem.W.fnOf "__repr__" "Kind.__repr__" (defArgs s_Kind___repr__) (defBody s_Kind___repr__) (defScope s_Kind___repr__) .none kV_Kind___repr__ dc_Kind___repr__ pm_Kind___repr__ an_Kind___repr__ cd_Kind___repr__ ct_Kind___repr__), sl_Kind___repr__⟩)
    (hq_Kind___repr__ : PySem.W.codeIn K cd_Kind___repr__ "Kind.__repr__" = true)
    (hg__law_told_right : PySem.W.nsIn K mainGlobals "_law_told_right" = some (some (.ref a__law_told_right)))
    (hk__law_told_right : PySem.W.keepIn K (.ref a__law_told_right) = true)
    (hl__law_told_right : K.lookup a__law_told_right = some ⟨oc__law_told_right, od__law_told_right, .func (PySem.W.fnOf "_law_told_right" "_law_told_right" (defArgs s__law_told_right) (defBody s__law_told_right) (defScope s__law_told_right) .none kV__law_told_right dc__law_told_right pm__law_told_right an__law_told_right cd__law_told_right ct__law_told_right), sl__law_told_right⟩)
    (hq__law_told_right : PySem.W.codeIn K cd__law_told_right "_law_told_right" = true)
    (ha_Kind___contains__ : PySem.W.findIn K (.ref C_Kind) "__contains__" = some (some (.ref a_Kind___contains__)))
    (hi_Kind___contains__ : PySem.W.isFn K (.ref a_Kind___contains__) = true)
    (hl_Kind___contains__ : K.lookup a_Kind___contains__ = some ⟨oc_Kind___contains__, od_Kind___contains__, .func (PySem.W.fnOf "__contains__" "Kind.__contains__" (defArgs s_Kind___contains__) (defBody s_Kind___contains__) (defScope s_Kind___contains__) .none kV_Kind___contains__ dc_Kind___contains__ pm_Kind___contains__ an_Kind___contains__ cd_Kind___contains__ ct_Kind___contains__), sl_Kind___contains__⟩)
    (hq_Kind___contains__ : PySem.W.codeIn K cd_Kind___contains__ "Kind.__contains__" = true)
    (hg__law_among_right : PySem.W.nsIn K mainGlobals "_law_among_right" = some (some (.ref a__law_among_right)))
    (hk__law_among_right : PySem.W.keepIn K (.ref a__law_among_right) = true)
    (hl__law_among_right : K.lookup a__law_among_right = some ⟨oc__law_among_right, od__law_among_right, .func (PySem.W.fnOf "_law_among_right" "_law_among_right" (defArgs s__law_among_right) (defBody s__law_among_right) (defScope s__law_among_right) .none kV__law_among_right dc__law_among_right pm__law_among_right an__law_among_right cd__law_among_right ct__law_among_right), sl__law_among_right⟩)
    (hq__law_among_right : PySem.W.codeIn K cd__law_among_right "_law_among_right" = true)
    (ha_Kind_mirrored : PySem.W.findIn K (.ref C_Kind) "mirrored" = some (some (.ref a_Kind_mirrored)))
    (hi_Kind_mirrored : PySem.W.isFn K (.ref a_Kind_mirrored) = true)
    (hl_Kind_mirrored : K.lookup a_Kind_mirrored = some ⟨oc_Kind_mirrored, od_Kind_mirrored, .func (PySem.W.fnOf "mirrored" "Kind.mirrored" (defArgs s_Kind_mirrored) (defBody s_Kind_mirrored) (defScope s_Kind_mirrored) .none kV_Kind_mirrored dc_Kind_mirrored pm_Kind_mirrored an_Kind_mirrored cd_Kind_mirrored ct_Kind_mirrored), sl_Kind_mirrored⟩)
    (hq_Kind_mirrored : PySem.W.codeIn K cd_Kind_mirrored "Kind.mirrored" = true)
    (ha_Kind_turned : PySem.W.findIn K (.ref C_Kind) "turned" = some (some (.ref a_Kind_turned)))
    (hi_Kind_turned : PySem.W.isFn K (.ref a_Kind_turned) = true)
    (hl_Kind_turned : K.lookup a_Kind_turned = some ⟨oc_Kind_turned, od_Kind_turned, .func (PySem.W.fnOf "turned" "Kind.turned" (defArgs s_Kind_turned) (defBody s_Kind_turned) (defScope s_Kind_turned) .none kV_Kind_turned dc_Kind_turned pm_Kind_turned an_Kind_turned cd_Kind_turned ct_Kind_turned), sl_Kind_turned⟩)
    (hq_Kind_turned : PySem.W.codeIn K cd_Kind_turned "Kind.turned" = true)
    (ha_Kind___eq__ : PySem.W.findIn K (.ref C_Kind) "__eq__" = some (some (.ref a_Kind___eq__)))
    (hi_Kind___eq__ : PySem.W.isFn K (.ref a_Kind___eq__) = true)
    (hl_Kind___eq__ : K.lookup a_Kind___eq__ = some ⟨oc_Kind___eq__, od_Kind___eq__, .func (PySem.W.fnOf "__eq__" "Kind.__eq__" (defArgs s_Kind___eq__) (defBody s_Kind___eq__) (defScope s_Kind___eq__) .none kV_Kind___eq__ dc_Kind___eq__ pm_Kind___eq__ an_Kind___eq__ cd_Kind___eq__ ct_Kind___eq__), sl_Kind___eq__⟩)
    (hq_Kind___eq__ : PySem.W.codeIn K cd_Kind___eq__ "Kind.__eq__" = true)
    (hg__law_turned_right : PySem.W.nsIn K mainGlobals "_law_turned_right" = some (some (.ref a__law_turned_right)))
    (hk__law_turned_right : PySem.W.keepIn K (.ref a__law_turned_right) = true)
    (hl__law_turned_right : K.lookup a__law_turned_right = some ⟨oc__law_turned_right, od__law_turned_right, .func (PySem.W.fnOf "_law_turned_right" "_law_turned_right" (defArgs s__law_turned_right) (defBody s__law_turned_right) (defScope s__law_turned_right) .none kV__law_turned_right dc__law_turned_right pm__law_turned_right an__law_turned_right cd__law_turned_right ct__law_turned_right), sl__law_turned_right⟩)
    (hq__law_turned_right : PySem.W.codeIn K cd__law_turned_right "_law_turned_right" = true)
    (hg__law_right : PySem.W.nsIn K mainGlobals "_law_right" = some (some (.ref a__law_right)))
    (hk__law_right : PySem.W.keepIn K (.ref a__law_right) = true)
    (hl__law_right : K.lookup a__law_right = some ⟨oc__law_right, od__law_right, .func (PySem.W.fnOf "_law_right" "_law_right" (defArgs s__law_right) (defBody s__law_right) (defScope s__law_right) .none kV__law_right dc__law_right pm__law_right an__law_right cd__law_right ct__law_right), sl__law_right⟩)
    (hq__law_right : PySem.W.codeIn K cd__law_right "_law_right" = true)
    (hg__law_pot : PySem.W.nsIn K mainGlobals "_law_pot" = some (some (.ref a__law_pot)))
    (hk__law_pot : PySem.W.keepIn K (.ref a__law_pot) = true)
    (hl__law_pot : K.lookup a__law_pot = some ⟨oc__law_pot, od__law_pot, .func (PySem.W.fnOf "_law_pot" "_law_pot" (defArgs s__law_pot) (defBody s__law_pot) (defScope s__law_pot) .none kV__law_pot dc__law_pot pm__law_pot an__law_pot cd__law_pot ct__law_pot), sl__law_pot⟩)
    (hq__law_pot : PySem.W.codeIn K cd__law_pot "_law_pot" = true)
    (hg_law : PySem.W.nsIn K mainGlobals "law" = some (some (.ref a_law)))
    (hk_law : PySem.W.keepIn K (.ref a_law) = true)
    (hl_law : K.lookup a_law = some ⟨oc_law, od_law, .func (PySem.W.fnOf "law" "law" (defArgs s_law) (defBody s_law) (defScope s_law) .none kV_law dc_law pm_law an_law cd_law ct_law), sl_law⟩)
    (hq_law : PySem.W.codeIn K cd_law "law" = true)
    (hz_all : PySem.W.nsIn K mainGlobals "all" = some none)
    (hz_range : PySem.W.nsIn K mainGlobals "range" = some none)
    (hz_max : PySem.W.nsIn K mainGlobals "max" = some none)
    (hz_min : PySem.W.nsIn K mainGlobals "min" = some none)
    (hz_len : PySem.W.nsIn K mainGlobals "len" = some none)
    (hz_divmod : PySem.W.nsIn K mainGlobals "divmod" = some none)
    (hz_int : PySem.W.nsIn K mainGlobals "int" = some none)
    (hz_sorted : PySem.W.nsIn K mainGlobals "sorted" = some none)
    (hz_list : PySem.W.nsIn K mainGlobals "list" = some none)
    (hn_Kind_MOST_ENTRIES : PySem.W.findIn K (.ref C_Kind) "MOST_ENTRIES" = some (some (.int 6 t_Kind_MOST_ENTRIES)))
    (hm_Kind_MOST_ENTRIES : PySem.W.specialIn K (.int 6 t_Kind_MOST_ENTRIES) "__get__" = some none)
    (hz_enumerate : PySem.W.nsIn K mainGlobals "enumerate" = some none)
    (hz_isinstance : PySem.W.nsIn K mainGlobals "isinstance" = some none)
    (hB_Kind : PySem.W.findIn K (.ref C_Kind) "__class__" = some (some (.builtin "object.__class__")))
    (hC_Kind : PySem.W.specialIn K (.builtin "object.__class__") "__get__" = some (some (.builtin "getset_descriptor.__get__")))
    (hD_Kind : PySem.W.takesIn K (.builtin "object.__class__") = some true)
    (hE_Kind : PySem.W.mroIn K C_Kind (.type "object") = some true)
    (hF_Kind : PySem.W.kitOne K (.ref C_Kind) (.ref C_Kind) = some true)
    (hNint_Kind : PySem.W.kitOne K (.ref C_Kind) (.type "int") = some false)
    (hNbool_Kind : PySem.W.kitOne K (.ref C_Kind) (.type "bool") = some false)
    (hNstr_Kind : PySem.W.kitOne K (.ref C_Kind) (.type "str") = some false)
    (hNtuple_Kind : PySem.W.kitOne K (.ref C_Kind) (.type "tuple") = some false)
    (hNlist_Kind : PySem.W.kitOne K (.ref C_Kind) (.type "list") = some false)
    (hNdict_Kind : PySem.W.kitOne K (.ref C_Kind) (.type "dict") = some false)
    (hONoneType_Kind : PySem.W.kitOne K (.type "NoneType") (.ref C_Kind) = some false)
    (hOint_Kind : PySem.W.kitOne K (.type "int") (.ref C_Kind) = some false)
    (hObool_Kind : PySem.W.kitOne K (.type "bool") (.ref C_Kind) = some false)
    (hOstr_Kind : PySem.W.kitOne K (.type "str") (.ref C_Kind) = some false)
    (hOtuple_Kind : PySem.W.kitOne K (.type "tuple") (.ref C_Kind) = some false)
    (hOlist_Kind : PySem.W.kitOne K (.type "list") (.ref C_Kind) = some false)
    (hOdict_Kind : PySem.W.kitOne K (.type "dict") (.ref C_Kind) = some false)
    (hz_tuple : PySem.W.nsIn K mainGlobals "tuple" = some none)
    (hz_bool : PySem.W.nsIn K mainGlobals "bool" = some none)
    (hc_FARTHEST : PySem.W.nsIn K mainGlobals "FARTHEST" = some (some (.int 20 t_FARTHEST)))
    (hz_str : PySem.W.nsIn K mainGlobals "str" = some none)
    (hc_LONGEST_NAME : PySem.W.nsIn K mainGlobals "LONGEST_NAME" = some (some (.int 8 t_LONGEST_NAME)))
    (hc_LETTERS : PySem.W.nsIn K mainGlobals "LETTERS" = some (some (.str (toS [97, 98, 99, 100, 101, 102, 103, 104, 105, 106, 107, 108, 109, 110, 111, 112, 113, 114, 115, 116, 117, 118, 119, 120, 121, 122]) t_LETTERS)))
    (hn_Kind_MOST_REACH : PySem.W.findIn K (.ref C_Kind) "MOST_REACH" = some (some (.int 3 t_Kind_MOST_REACH)))
    (hm_Kind_MOST_REACH : PySem.W.specialIn K (.int 3 t_Kind_MOST_REACH) "__get__" = some none)
    (hx_Kind_own_entries : PySem.W.findIn K (.ref C_Kind) "own_entries" = some none)
    (hx_Kind_own_reach : PySem.W.findIn K (.ref C_Kind) "own_reach" = some none)
    (h7_Kind : PySem.W.makesIn K C_Kind = true)
    (h8_Kind : PySem.W.keepIn K (.ref C_Kind) = true)
    (hk_Kind_entries : PySem.W.keepIn K (.ref a_Kind_entries) = true)
    (hz_set : PySem.W.nsIn K mainGlobals "set" = some none)
    (hk_Kind_names : PySem.W.keepIn K (.ref a_Kind_names) = true)
    (hz_repr : PySem.W.nsIn K mainGlobals "repr" = some none)
    (hz_any : PySem.W.nsIn K mainGlobals "any" = some none)
    (hk_Kind_mirrored : PySem.W.keepIn K (.ref a_Kind_mirrored) = true)
    (hk_Kind_turned : PySem.W.keepIn K (.ref a_Kind_turned) = true)
    (h9_Kind : PySem.W.findIn K (.ref C_Kind) "__ne__" = some (some (.builtin "object.__ne__")))
    (hA_Kind : PySem.W.mroIn K C_Kind (.type "object") = some true)
    (hv_Kind_MOST_ENTRIES : PySem.W.findCls K (.ref C_Kind) (.type "type") "MOST_ENTRIES" = some (.val (.int 6 u_Kind_MOST_ENTRIES)))
    (hv_Kind_MOST_REACH : PySem.W.findCls K (.ref C_Kind) (.type "type") "MOST_REACH" = some (.val (.int 3 u_Kind_MOST_REACH)))
    (hz_abs : PySem.W.nsIn K mainGlobals "abs" = some none) :
    Ok K mg ⟨C_Kind, a__law_draw, a__law_among, a__law_names, a__law_normed, a__law_entries, a__law_mixed, a__law_passed, a_is_integer, a_is_step, a_is_name, a_is_entry, a_shifted, a_normed, a_Kind___init__, a__law_kind, a_is_list, a_Kind_of, sa_Kind_of, a_Kind_entries, a_Kind_names, a__law_far, a_Kind_reach, p_Kind_reach, a_Kind_is_flat, p_Kind_is_flat, a_Kind___len__, a_Kind___repr__, a__law_told_right, a_Kind___contains__, a__law_among_right, a_Kind_mirrored, a_Kind_turned, a_Kind___eq__, a__law_turned_right, a__law_right, a__law_pot, a_law⟩ where
  g_Kind := PySem.W.mg_of X G hg_Kind
  cl_Kind := ⟨h1_Kind, h2_Kind, h3_Kind, h4_Kind⟩
  rd_Kind := ⟨h5_Kind, h6_Kind⟩
  g__law_draw := PySem.W.mg_of X G hg__law_draw
  k__law_draw := hk__law_draw
  F__law_draw := df_mk hl__law_draw hq__law_draw
  g__law_among := PySem.W.mg_of X G hg__law_among
  k__law_among := hk__law_among
  F__law_among := df_mk hl__law_among hq__law_among
  g__law_names := PySem.W.mg_of X G hg__law_names
  k__law_names := hk__law_names
  F__law_names := df_mk hl__law_names hq__law_names
  g__law_normed := PySem.W.mg_of X G hg__law_normed
  k__law_normed := hk__law_normed
  F__law_normed := df_mk hl__law_normed hq__law_normed
  g__law_entries := PySem.W.mg_of X G hg__law_entries
  k__law_entries := hk__law_entries
  F__law_entries := df_mk hl__law_entries hq__law_entries
  g__law_mixed := PySem.W.mg_of X G hg__law_mixed
  k__law_mixed := hk__law_mixed
  F__law_mixed := df_mk hl__law_mixed hq__law_mixed
  g__law_passed := PySem.W.mg_of X G hg__law_passed
  k__law_passed := hk__law_passed
  F__law_passed := df_mk hl__law_passed hq__law_passed
  g_is_integer := PySem.W.mg_of X G hg_is_integer
  k_is_integer := hk_is_integer
  F_is_integer := df_mk hl_is_integer hq_is_integer
  g_is_step := PySem.W.mg_of X G hg_is_step
  k_is_step := hk_is_step
  F_is_step := df_mk hl_is_step hq_is_step
  g_is_name := PySem.W.mg_of X G hg_is_name
  k_is_name := hk_is_name
  F_is_name := df_mk hl_is_name hq_is_name
  g_is_entry := PySem.W.mg_of X G hg_is_entry
  k_is_entry := hk_is_entry
  F_is_entry := df_mk hl_is_entry hq_is_entry
  g_shifted := PySem.W.mg_of X G hg_shifted
  k_shifted := hk_shifted
  F_shifted := df_mk hl_shifted hq_shifted
  g_normed := PySem.W.mg_of X G hg_normed
  k_normed := hk_normed
  F_normed := df_mk hl_normed hq_normed
  a_Kind___init__ := ha_Kind___init__
  i_Kind___init__ := hi_Kind___init__
  F_Kind___init__ := df_mk hl_Kind___init__ hq_Kind___init__
  g__law_kind := PySem.W.mg_of X G hg__law_kind
  k__law_kind := hk__law_kind
  F__law_kind := df_mk hl__law_kind hq__law_kind
  g_is_list := PySem.W.mg_of X G hg_is_list
  k_is_list := hk_is_list
  F_is_list := df_mk hl_is_list hq_is_list
  st_Kind_of := ⟨ha_Kind_of, ⟨_, hb_Kind_of⟩, hc_Kind_of⟩
  F_Kind_of := df_mk hl_Kind_of hq_Kind_of
  a_Kind_entries := ha_Kind_entries
  i_Kind_entries := hi_Kind_entries
  F_Kind_entries := df_mk hl_Kind_entries hq_Kind_entries
  a_Kind_names := ha_Kind_names
  i_Kind_names := hi_Kind_names
  F_Kind_names := df_mk hl_Kind_names hq_Kind_names
  g__law_far := PySem.W.mg_of X G hg__law_far
  k__law_far := hk__law_far
  F__law_far := df_mk hl__law_far hq__law_far
  p_Kind_reach := ⟨ha_Kind_reach, hb_Kind_reach, hc_Kind_reach, _, hd_Kind_reach⟩
  F_Kind_reach := df_mk hl_Kind_reach hq_Kind_reach
  p_Kind_is_flat := ⟨ha_Kind_is_flat, hb_Kind_is_flat, hc_Kind_is_flat, _, hd_Kind_is_flat⟩
  F_Kind_is_flat := df_mk hl_Kind_is_flat hq_Kind_is_flat
  a_Kind___len__ := ha_Kind___len__
  i_Kind___len__ := hi_Kind___len__
  F_Kind___len__ := df_mk hl_Kind___len__ hq_Kind___len__
  a_Kind___repr__ := ha_Kind___repr__
  i_Kind___repr__ := hi_Kind___repr__
  F_Kind___repr__ := df_mk hl_Kind___repr__ hq_Kind___repr__
  g__law_told_right := PySem.W.mg_of X G hg__law_told_right
  k__law_told_right := hk__law_told_right
  F__law_told_right := df_mk hl__law_told_right hq__law_told_right
  a_Kind___contains__ := ha_Kind___contains__
  i_Kind___contains__ := hi_Kind___contains__
  F_Kind___contains__ := df_mk hl_Kind___contains__ hq_Kind___contains__
  g__law_among_right := PySem.W.mg_of X G hg__law_among_right
  k__law_among_right := hk__law_among_right
  F__law_among_right := df_mk hl__law_among_right hq__law_among_right
  a_Kind_mirrored := ha_Kind_mirrored
  i_Kind_mirrored := hi_Kind_mirrored
  F_Kind_mirrored := df_mk hl_Kind_mirrored hq_Kind_mirrored
  a_Kind_turned := ha_Kind_turned
  i_Kind_turned := hi_Kind_turned
  F_Kind_turned := df_mk hl_Kind_turned hq_Kind_turned
  a_Kind___eq__ := ha_Kind___eq__
  i_Kind___eq__ := hi_Kind___eq__
  F_Kind___eq__ := df_mk hl_Kind___eq__ hq_Kind___eq__
  g__law_turned_right := PySem.W.mg_of X G hg__law_turned_right
  k__law_turned_right := hk__law_turned_right
  F__law_turned_right := df_mk hl__law_turned_right hq__law_turned_right
  g__law_right := PySem.W.mg_of X G hg__law_right
  k__law_right := hk__law_right
  F__law_right := df_mk hl__law_right hq__law_right
  g__law_pot := PySem.W.mg_of X G hg__law_pot
  k__law_pot := hk__law_pot
  F__law_pot := df_mk hl__law_pot hq__law_pot
  g_law := PySem.W.mg_of X G hg_law
  k_law := hk_law
  F_law := df_mk hl_law hq_law
  z_all := PySem.W.mg_none_of X G hz_all
  z_range := PySem.W.mg_none_of X G hz_range
  z_max := PySem.W.mg_none_of X G hz_max
  z_min := PySem.W.mg_none_of X G hz_min
  z_len := PySem.W.mg_none_of X G hz_len
  z_divmod := PySem.W.mg_none_of X G hz_divmod
  z_int := PySem.W.mg_none_of X G hz_int
  z_sorted := PySem.W.mg_none_of X G hz_sorted
  z_list := PySem.W.mg_none_of X G hz_list
  n_Kind_MOST_ENTRIES := ⟨_, hn_Kind_MOST_ENTRIES, ⟨_, rfl⟩, hm_Kind_MOST_ENTRIES, by decide +kernel⟩
  z_enumerate := PySem.W.mg_none_of X G hz_enumerate
  z_isinstance := PySem.W.mg_none_of X G hz_isinstance
  is_Kind := by
    intro Z e1 e2
    subst e1 e2
    refine ⟨PySem.W.mg_of X G hg_Kind, ⟨⟨h1_Kind, h2_Kind, h3_Kind, h4_Kind⟩, hB_Kind, hC_Kind, hD_Kind, hE_Kind, hF_Kind⟩, ?_, ?_⟩
    · exact fun t ht => by
        simp only [bTypes, List.mem_cons, List.not_mem_nil, or_false] at ht
        rcases ht with rfl | rfl | rfl | rfl | rfl | rfl
        · exact hNint_Kind
        · exact hNbool_Kind
        · exact hNstr_Kind
        · exact hNtuple_Kind
        · exact hNlist_Kind
        · exact hNdict_Kind
    · exact fun t ht => by
        simp only [bTypes, List.mem_cons, List.not_mem_nil, or_false] at ht
        rcases ht with rfl | rfl | rfl | rfl | rfl | rfl | rfl
        · exact hONoneType_Kind
        · exact hOint_Kind
        · exact hObool_Kind
        · exact hOstr_Kind
        · exact hOtuple_Kind
        · exact hOlist_Kind
        · exact hOdict_Kind
  
  z_tuple := PySem.W.mg_none_of X G hz_tuple
  z_bool := PySem.W.mg_none_of X G hz_bool
  c_FARTHEST := ⟨_, PySem.W.mg_of X G hc_FARTHEST⟩
  z_str := PySem.W.mg_none_of X G hz_str
  c_LONGEST_NAME := ⟨_, PySem.W.mg_of X G hc_LONGEST_NAME⟩
  c_LETTERS := ⟨_, PySem.W.mg_of X G hc_LETTERS⟩
  n_Kind_MOST_REACH := ⟨_, hn_Kind_MOST_REACH, ⟨_, rfl⟩, hm_Kind_MOST_REACH, by decide +kernel⟩
  x_Kind_own_entries := hx_Kind_own_entries
  x_Kind_own_reach := hx_Kind_own_reach
  mk_Kind := ⟨h7_Kind, ha_Kind___init__, hi_Kind___init__, h8_Kind⟩
  kp_Kind := h8_Kind
  m_Kind_entries := ⟨ha_Kind_entries, hi_Kind_entries, hk_Kind_entries⟩
  z_set := PySem.W.mg_none_of X G hz_set
  m_Kind_names := ⟨ha_Kind_names, hi_Kind_names, hk_Kind_names⟩
  z_repr := PySem.W.mg_none_of X G hz_repr
  z_any := PySem.W.mg_none_of X G hz_any
  m_Kind_mirrored := ⟨ha_Kind_mirrored, hi_Kind_mirrored, hk_Kind_mirrored⟩
  m_Kind_turned := ⟨ha_Kind_turned, hi_Kind_turned, hk_Kind_turned⟩
  ne_Kind := ⟨h9_Kind, hA_Kind⟩
  v_Kind_MOST_ENTRIES := ⟨_, hv_Kind_MOST_ENTRIES, ⟨_, rfl⟩⟩
  v_Kind_MOST_REACH := ⟨_, hv_Kind_MOST_REACH, ⟨_, rfl⟩⟩
  z_abs := PySem.W.mg_none_of X G hz_abs
end K11
set_option Elab.async false
set_option linter.all false
set_option maxRecDepth 100000
namespace K11
open PySem L2 PyProof.Rows StX Mi
theorem law_true (ns : List Int) (h1 : ns.length ≤ 63) (h2 : ∀ z ∈ ns, Builtin.Int.intBits z ≤ 1048576) : f_law [.lst (ns.map D.int)] [] = some (.bl true, []) := law_holds ns h1
theorem fin {l : PySem.W.OpenLaw} {w : World} {K : PySem.W.Frag} {h : Heap} {mg : Str → Option Value} {fa : Addr} {ad : Ad} (X : K.In h) (G : h.Ns mainGlobals mg) (hfa : mg "law" = some (.ref fa)) (T : Ok K mg ad) :
    ∃ fd : FuncData, (∀ (s : Shared) (v : Value), BindsTo s fd ⟨[v], []⟩ [("_law_script", v)]) ∧ ∀ base : Heap, K.In base → base.Ns mainGlobals mg → FnG l.prog w K mg base 10 fa fd ["_law_script"] f_law := by
  have e := hfa.symm.trans T.g_law
  cases e
  obtain ⟨kV, doc, pm, an, cdv, ct, F⟩ := ok_law (P := l.prog) (w := w) T
  exact ⟨_, fun s v => .of_eq rfl, fun base _ _ => F base⟩
theorem walk {l : PySem.W.OpenLaw} {q : Program} {loose : List Str} {XP : (Str → Option Value) → Heap → Prop} {YP : World → Heap → Prop} {d : DefRec} {K : Params → PySem.W.Frag} (hn : l.most = some 63) (hdf : d.params.defaults = [])
    (hY : ∀ (w : World) (h : Heap), YP w h → (K w.params).In h) (hnl : ∀ w : World, noList (K w.params) = true)
    (F : ∀ (w : World) (mg : Str → Option Value) (fa : Addr) (h : Heap), (K w.params).In h → h.Ns mainGlobals mg → mg d.name = some (.ref fa) →
      ∃ fd : FuncData, (∀ (s : Shared) (u : Value), BindsTo s fd ⟨[u], []⟩ [("_law_script", u)]) ∧ ∀ base : Heap, (K w.params).In base → base.Ns mainGlobals mg → FnG l.prog w (K w.params) mg base 10 fa fd ["_law_script"] f_law) :
    PySem.W.WalkO q loose XP YP l.row.toRowW d [] (fun f vs => PySem.call f vs) :=
  walkG hn (by decide) hdf ⟨rfl, by decide, by decide⟩ hY hnl F fun ns h1 h2 => law_true ns h1 h2
end K11
set_option Elab.async false
set_option maxRecDepth 100000
set_option pp.maxSteps 60
set_option pp.deepTerms false
open PySem PySem.W PyProof.Rows
set_option maxRecDepth 100000 in
set_option maxHeartbeats 0 in
theorem PySem.Challenge.cw_twoeach_k11_kinds_told_holds : PySem.Challenge.rw_twoeach_k11_kinds_told.Holds := by
  w_on; o_law; k_head; (case hw => w_witness2)
  k_fill
  refine K11.walk (l := PySem.Challenge.rw_twoeach_k11_kinds_told) rfl rfl (fun w h Y => PySem.W.kIn_of Y) ?nolst ?facts
  case nolst =>
    intro w
    kernel_rfl
  case facts =>
    intro w mg fa h KX G hmg
    refine' K11.fin KX G hmg (T := K11.all_mk KX G ?hg_Kind ?h1_Kind ?h2_Kind ?h3_Kind ?h4_Kind ?h5_Kind ?h6_Kind ?hg__law_draw ?hk__law_draw ?hl__law_draw ?hq__law_draw ?hg__law_among ?hk__law_among ?hl__law_among ?hq__law_among ?hg__law_names ?hk__law_names ?hl__law_names ?hq__law_names ?hg__law_normed ?hk__law_normed ?hl__law_normed ?hq__law_normed ?hg__law_entries ?hk__law_entries ?hl__law_entries ?hq__law_entries ?hg__law_mixed ?hk__law_mixed ?hl__law_mixed ?hq__law_mixed ?hg__law_passed ?hk__law_passed ?hl__law_passed ?hq__law_passed ?hg_is_integer ?hk_is_integer ?hl_is_integer ?hq_is_integer ?hg_is_step ?hk_is_step ?hl_is_step ?hq_is_step ?hg_is_name ?hk_is_name ?hl_is_name ?hq_is_name ?hg_is_entry ?hk_is_entry ?hl_is_entry ?hq_is_entry ?hg_shifted ?hk_shifted ?hl_shifted ?hq_shifted ?hg_normed ?hk_normed ?hl_normed ?hq_normed ?ha_Kind___init__ ?hi_Kind___init__ ?hl_Kind___init__ ?hq_Kind___init__ ?hg__law_kind ?hk__law_kind ?hl__law_kind ?hq__law_kind ?hg_is_list ?hk_is_list ?hl_is_list ?hq_is_list ?ha_Kind_of ?hb_Kind_of ?hc_Kind_of ?hl_Kind_of ?hq_Kind_of ?ha_Kind_entries ?hi_Kind_entries ?hl_Kind_entries ?hq_Kind_entries ?ha_Kind_names ?hi_Kind_names ?hl_Kind_names ?hq_Kind_names ?hg__law_far ?hk__law_far ?hl__law_far ?hq__law_far ?ha_Kind_reach ?hb_Kind_reach ?hc_Kind_reach ?hd_Kind_reach ?hl_Kind_reach ?hq_Kind_reach ?ha_Kind_is_flat ?hb_Kind_is_flat ?hc_Kind_is_flat ?hd_Kind_is_flat ?hl_Kind_is_flat ?hq_Kind_is_flat ?ha_Kind___len__ ?hi_Kind___len__ ?hl_Kind___len__ ?hq_Kind___len__ ?ha_Kind___repr__ ?hi_Kind___repr__ ?hl_Kind___repr__ ?hq_Kind___repr__ ?hg__law_told_right ?hk__law_told_right ?hl__law_told_right ?hq__law_told_right ?ha_Kind___contains__ ?hi_Kind___contains__ ?hl_Kind___contains__ ?hq_Kind___contains__ ?hg__law_among_right ?hk__law_among_right ?hl__law_among_right ?hq__law_among_right ?ha_Kind_mirrored ?hi_Kind_mirrored ?hl_Kind_mirrored ?hq_Kind_mirrored ?ha_Kind_turned ?hi_Kind_turned ?hl_Kind_turned ?hq_Kind_turned ?ha_Kind___eq__ ?hi_Kind___eq__ ?hl_Kind___eq__ ?hq_Kind___eq__ ?hg__law_turned_right ?hk__law_turned_right ?hl__law_turned_right ?hq__law_turned_right ?hg__law_right ?hk__law_right ?hl__law_right ?hq__law_right ?hg__law_pot ?hk__law_pot ?hl__law_pot ?hq__law_pot ?hg_law ?hk_law ?hl_law ?hq_law ?hz_all ?hz_range ?hz_max ?hz_min ?hz_len ?hz_divmod ?hz_int ?hz_sorted ?hz_list ?hn_Kind_MOST_ENTRIES ?hm_Kind_MOST_ENTRIES ?hz_enumerate ?hz_isinstance ?hB_Kind ?hC_Kind ?hD_Kind ?hE_Kind ?hF_Kind ?hNint_Kind ?hNbool_Kind ?hNstr_Kind ?hNtuple_Kind ?hNlist_Kind ?hNdict_Kind ?hONoneType_Kind ?hOint_Kind ?hObool_Kind ?hOstr_Kind ?hOtuple_Kind ?hOlist_Kind ?hOdict_Kind ?hz_tuple ?hz_bool ?hc_FARTHEST ?hz_str ?hc_LONGEST_NAME ?hc_LETTERS ?hn_Kind_MOST_REACH ?hm_Kind_MOST_REACH ?hx_Kind_own_entries ?hx_Kind_own_reach ?h7_Kind ?h8_Kind ?hk_Kind_entries ?hz_set ?hk_Kind_names ?hz_repr ?hz_any ?hk_Kind_mirrored ?hk_Kind_turned ?h9_Kind ?hA_Kind ?hv_Kind_MOST_ENTRIES ?hv_Kind_MOST_REACH ?hz_abs)
    (case hg_Kind => k_is)
    (case h1_Kind => k_is)
    (case h2_Kind => k_is)
    (case h3_Kind => k_is)
    (case h4_Kind => k_is)
    (case h5_Kind => k_is)
    (case h6_Kind => k_is)
    (case hg__law_draw => k_is)
    (case hk__law_draw => k_is)
    (case hl__law_draw => k_is)
    (case hq__law_draw => k_is)
    (case hg__law_among => k_is)
    (case hk__law_among => k_is)
    (case hl__law_among => k_is)
    (case hq__law_among => k_is)
    (case hg__law_names => k_is)
    (case hk__law_names => k_is)
    (case hl__law_names => k_is)
    (case hq__law_names => k_is)
    (case hg__law_normed => k_is)
    (case hk__law_normed => k_is)
    (case hl__law_normed => k_is)
    (case hq__law_normed => k_is)
    (case hg__law_entries => k_is)
    (case hk__law_entries => k_is)
    (case hl__law_entries => k_is)
    (case hq__law_entries => k_is)
    (case hg__law_mixed => k_is)
    (case hk__law_mixed => k_is)
    (case hl__law_mixed => k_is)
    (case hq__law_mixed => k_is)
    (case hg__law_passed => k_is)
    (case hk__law_passed => k_is)
    (case hl__law_passed => k_is)
    (case hq__law_passed => k_is)
    (case hg_is_integer => k_is)
    (case hk_is_integer => k_is)
    (case hl_is_integer => k_is)
    (case hq_is_integer => k_is)
    (case hg_is_step => k_is)
    (case hk_is_step => k_is)
    (case hl_is_step => k_is)
    (case hq_is_step => k_is)
    (case hg_is_name => k_is)
    (case hk_is_name => k_is)
    (case hl_is_name => k_is)
    (case hq_is_name => k_is)
    (case hg_is_entry => k_is)
    (case hk_is_entry => k_is)
    (case hl_is_entry => k_is)
    (case hq_is_entry => k_is)
    (case hg_shifted => k_is)
    (case hk_shifted => k_is)
    (case hl_shifted => k_is)
    (case hq_shifted => k_is)
    (case hg_normed => k_is)
    (case hk_normed => k_is)
    (case hl_normed => k_is)
    (case hq_normed => k_is)
    (case ha_Kind___init__ => k_is)
    (case hi_Kind___init__ => k_is)
    (case hl_Kind___init__ => k_is)
    (case hq_Kind___init__ => k_is)
    (case hg__law_kind => k_is)
    (case hk__law_kind => k_is)
    (case hl__law_kind => k_is)
    (case hq__law_kind => k_is)
    (case hg_is_list => k_is)
    (case hk_is_list => k_is)
    (case hl_is_list => k_is)
    (case hq_is_list => k_is)
    (case ha_Kind_of => k_is)
    (case hb_Kind_of => k_is)
    (case hc_Kind_of => k_is)
    (case hl_Kind_of => k_is)
    (case hq_Kind_of => k_is)
    (case ha_Kind_entries => k_is)
    (case hi_Kind_entries => k_is)
    (case hl_Kind_entries => k_is)
    (case hq_Kind_entries => k_is)
    (case ha_Kind_names => k_is)
    (case hi_Kind_names => k_is)
    (case hl_Kind_names => k_is)
    (case hq_Kind_names => k_is)
    (case hg__law_far => k_is)
    (case hk__law_far => k_is)
    (case hl__law_far => k_is)
    (case hq__law_far => k_is)
    (case ha_Kind_reach => k_is)
    (case hb_Kind_reach => k_is)
    (case hc_Kind_reach => k_is)
    (case hd_Kind_reach => k_is)
    (case hl_Kind_reach => k_is)
    (case hq_Kind_reach => k_is)
    (case ha_Kind_is_flat => k_is)
    (case hb_Kind_is_flat => k_is)
    (case hc_Kind_is_flat => k_is)
    (case hd_Kind_is_flat => k_is)
    (case hl_Kind_is_flat => k_is)
    (case hq_Kind_is_flat => k_is)
    (case ha_Kind___len__ => k_is)
    (case hi_Kind___len__ => k_is)
    (case hl_Kind___len__ => k_is)
    (case hq_Kind___len__ => k_is)
    (case ha_Kind___repr__ => k_is)
    (case hi_Kind___repr__ => k_is)
    (case hl_Kind___repr__ => k_is)
    (case hq_Kind___repr__ => k_is)
    (case hg__law_told_right => k_is)
    (case hk__law_told_right => k_is)
    (case hl__law_told_right => k_is)
    (case hq__law_told_right => k_is)
    (case ha_Kind___contains__ => k_is)
    (case hi_Kind___contains__ => k_is)
    (case hl_Kind___contains__ => k_is)
    (case hq_Kind___contains__ => k_is)
    (case hg__law_among_right => k_is)
    (case hk__law_among_right => k_is)
    (case hl__law_among_right => k_is)
    (case hq__law_among_right => k_is)
    (case ha_Kind_mirrored => k_is)
    (case hi_Kind_mirrored => k_is)
    (case hl_Kind_mirrored => k_is)
    (case hq_Kind_mirrored => k_is)
    (case ha_Kind_turned => k_is)
    (case hi_Kind_turned => k_is)
    (case hl_Kind_turned => k_is)
    (case hq_Kind_turned => k_is)
    (case ha_Kind___eq__ => k_is)
    (case hi_Kind___eq__ => k_is)
    (case hl_Kind___eq__ => k_is)
    (case hq_Kind___eq__ => k_is)
    (case hg__law_turned_right => k_is)
    (case hk__law_turned_right => k_is)
    (case hl__law_turned_right => k_is)
    (case hq__law_turned_right => k_is)
    (case hg__law_right => k_is)
    (case hk__law_right => k_is)
    (case hl__law_right => k_is)
    (case hq__law_right => k_is)
    (case hg__law_pot => k_is)
    (case hk__law_pot => k_is)
    (case hl__law_pot => k_is)
    (case hq__law_pot => k_is)
    (case hg_law => k_is)
    (case hk_law => k_is)
    (case hl_law => k_is)
    (case hq_law => k_is)
    (case hz_all => k_is)
    (case hz_range => k_is)
    (case hz_max => k_is)
    (case hz_min => k_is)
    (case hz_len => k_is)
    (case hz_divmod => k_is)
    (case hz_int => k_is)
    (case hz_sorted => k_is)
    (case hz_list => k_is)
    (case hn_Kind_MOST_ENTRIES => k_is)
    (case hm_Kind_MOST_ENTRIES => k_is)
    (case hz_enumerate => k_is)
    (case hz_isinstance => k_is)
    (case hB_Kind => k_is)
    (case hC_Kind => k_is)
    (case hD_Kind => k_is)
    (case hE_Kind => k_is)
    (case hF_Kind => first | k_is | kernel_rfl)
    (case hNint_Kind => first | k_is | kernel_rfl)
    (case hNbool_Kind => first | k_is | kernel_rfl)
    (case hNstr_Kind => first | k_is | kernel_rfl)
    (case hNtuple_Kind => first | k_is | kernel_rfl)
    (case hNlist_Kind => first | k_is | kernel_rfl)
    (case hNdict_Kind => first | k_is | kernel_rfl)
    (case hONoneType_Kind => first | k_is | kernel_rfl)
    (case hOint_Kind => first | k_is | kernel_rfl)
    (case hObool_Kind => first | k_is | kernel_rfl)
    (case hOstr_Kind => first | k_is | kernel_rfl)
    (case hOtuple_Kind => first | k_is | kernel_rfl)
    (case hOlist_Kind => first | k_is | kernel_rfl)
    (case hOdict_Kind => first | k_is | kernel_rfl)
    (case hz_tuple => k_is)
    (case hz_bool => k_is)
    (case hc_FARTHEST => k_is)
    (case hz_str => k_is)
    (case hc_LONGEST_NAME => k_is)
    (case hc_LETTERS => k_is)
    (case hn_Kind_MOST_REACH => k_is)
    (case hm_Kind_MOST_REACH => k_is)
    (case hx_Kind_own_entries => k_is)
    (case hx_Kind_own_reach => k_is)
    (case h7_Kind => k_is)
    (case h8_Kind => k_is)
    (case hk_Kind_entries => k_is)
    (case hz_set => k_is)
    (case hk_Kind_names => k_is)
    (case hz_repr => k_is)
    (case hz_any => k_is)
    (case hk_Kind_mirrored => k_is)
    (case hk_Kind_turned => k_is)
    (case h9_Kind => k_is)
    (case hA_Kind => k_is)
    (case hv_Kind_MOST_ENTRIES => k_is)
    (case hv_Kind_MOST_REACH => k_is)
    (case hz_abs => k_is)
#print axioms PySem.Challenge.cw_twoeach_k11_kinds_told_holds
