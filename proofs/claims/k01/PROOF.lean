import PyProof.Rows.All
import Wide.All
import OpenK.AllK
import Wide.FinOn
import HandS.ForMost
import HandS.TupAny
import HandS.TupMul
import HandS.Conv
import HandS.Style
import HandS.IsInst
import HandS.Exc
import HandS.Walk
import HandS.Wide
import PyProof.ReprReads
import PyProof.ReprRoads
import PyProof.ReprLen
import KE.GoesEnum
import KE.DataCmp
import KE.SortData
import PySem.Challenge.RW_homecourses_k01_whole_plain_courses
/-! # PL: a small mirror language in plain Lean (no Python model in sight).
Values are trees; mutable lists stand in a store. Each construct of Python that the programs use is a combinator;
a def becomes a function `List D → Sto → Option RE` (none: not covered, nothing is claimed). -/
set_option linter.all false
namespace PL

/-- a value: None, a bool, an int, a text (its code points), a tuple, a list that nobody changes any more, a mutable object of the store -/
inductive D where
  | non | bl (b : Bool) | int (i : Int) | str (s : List Nat) | tup (xs : List D) | lst (xs : List D) | ref (n : Nat)
  deriving Inhabited

/-- what stands in the store (a list's items are without mutable objects) -/
inductive MO where
  | dead
  | lst (xs : List D)
  /-- the draws' state: cells, counter, what is left of great ones -/
  | law (cells : List Int) (at_ : Nat) (left : List Int)
  deriving Inhabited

abbrev Sto := List MO
abbrev Env := List (Option D)
/-- an exception: its class (a number of the program's), its field -/
structure Exn where
  cls : Nat
  val : D
  deriving Inhabited
inductive RE where
  | ok (d : D) (S : Sto)
  | ex (x : Exn) (S : Sto)
  deriving Inhabited
/-- arguments -/
inductive RA where
  | ok (ds : List D) (S : Sto)
  | ex (x : Exn) (S : Sto)
/-- a test -/
inductive RT where
  | ok (b : Bool) (S : Sto)
  | ex (x : Exn) (S : Sto)
/-- a statement -/
inductive RS where
  | nx (δ : Env) (S : Sto)
  | rt (d : D) (S : Sto)
  | bk (δ : Env) (S : Sto)
  | ct (δ : Env) (S : Sto)
  | ex (x : Exn) (δ : Env) (S : Sto)

abbrev ME := Env → Sto → Option RE
abbrev MA := Env → Sto → Option RA
abbrev MT := Env → Sto → Option RT
abbrev MS := Env → Sto → Option RS
abbrev MF := List D → Sto → Option RE

/-- the line of sizes: 2 ^ 24 -/
abbrev LINE : Nat := 16777216

mutual
/-- no mutable object within -/
def D.pure : D → Bool
  | .non => true | .bl _ => true | .int _ => true | .str _ => true
  | .tup xs => D.pures xs
  | .lst xs => D.pures xs
  | .ref _ => false
def D.pures : List D → Bool
  | [] => true
  | x :: xs => x.pure && D.pures xs
end

mutual
/-- data without mutable objects, nested at most n deep, its texts of true signs -/
def D.okN : D → Nat → Bool
  | .non, _ => true | .bl _, _ => true | .int _, _ => true
  | .str s, _ => s.all fun c => decide (c < 1114112)
  | .tup xs, n => match n with
    | 0 => false
    | n + 1 => D.okNs xs n
  | .lst xs, n => match n with
    | 0 => false
    | n + 1 => D.okNs xs n
  | .ref _, _ => false
def D.okNs : List D → Nat → Bool
  | [], _ => true
  | x :: xs, n => x.okN n && D.okNs xs n
end
abbrev D.ok (d : D) : Bool := d.okN 60
mutual
/-- how many signs its repr has at most; none: an int that is too great to be shown -/
def D.wt : D → Option Nat
  | .non => some 4 | .bl _ => some 5
  | .int i => if i.natAbs < 2 ^ 1900 then some 2000 else none
  | .str s => some (10 * s.length + 2)
  | .tup xs => (D.wts xs).map (· + 3)
  | .lst xs => (D.wts xs).map (· + 3)
  | .ref _ => none
def D.wts : List D → Option Nat
  | [] => some 0
  | x :: xs => match x.wt with
    | some a => (D.wts xs).map fun b => a + 2 + b
    | none => none
end

mutual
/-- Python's == of data (None, bools, ints, texts, tuples, lists) -/
def eqD : D → D → Bool
  | .non, .non => true
  | .bl a, .bl b => a == b
  | .bl a, .int b => (if a then 1 else 0) == b
  | .int a, .bl b => a == (if b then 1 else 0)
  | .int a, .int b => a == b
  | .str a, .str b => a == b
  | .tup a, .tup b => eqDs a b
  | .lst a, .lst b => eqDs a b
  | _, _ => false
def eqDs : List D → List D → Bool
  | [], [] => true
  | x :: xs, y :: ys => eqD x y && eqDs xs ys
  | _, _ => false
end

/-! ## binding -/
def bE (m : Option RE) (k : D → Sto → Option RE) : Option RE := match m with
  | some (.ok d S) => k d S
  | some (.ex x S) => some (.ex x S)
  | none => none
def bET (m : Option RE) (k : D → Sto → Option RT) : Option RT := match m with
  | some (.ok d S) => k d S
  | some (.ex x S) => some (.ex x S)
  | none => none
def bEA (m : Option RE) (k : D → Sto → Option RA) : Option RA := match m with
  | some (.ok d S) => k d S
  | some (.ex x S) => some (.ex x S)
  | none => none
def bA (m : Option RA) (k : List D → Sto → Option RE) : Option RE := match m with
  | some (.ok d S) => k d S
  | some (.ex x S) => some (.ex x S)
  | none => none
def bAA (m : Option RA) (k : List D → Sto → Option RA) : Option RA := match m with
  | some (.ok d S) => k d S
  | some (.ex x S) => some (.ex x S)
  | none => none
def bT (m : Option RT) (k : Bool → Sto → Option RE) : Option RE := match m with
  | some (.ok d S) => k d S
  | some (.ex x S) => some (.ex x S)
  | none => none
def bTT (m : Option RT) (k : Bool → Sto → Option RT) : Option RT := match m with
  | some (.ok d S) => k d S
  | some (.ex x S) => some (.ex x S)
  | none => none
def bES (δ : Env) (m : Option RE) (k : D → Sto → Option RS) : Option RS := match m with
  | some (.ok d S) => k d S
  | some (.ex x S) => some (.ex x δ S)
  | none => none
def bAS (δ : Env) (m : Option RA) (k : List D → Sto → Option RS) : Option RS := match m with
  | some (.ok d S) => k d S
  | some (.ex x S) => some (.ex x δ S)
  | none => none
def bTS (δ : Env) (m : Option RT) (k : Bool → Sto → Option RS) : Option RS := match m with
  | some (.ok d S) => k d S
  | some (.ex x S) => some (.ex x δ S)
  | none => none
def bS (m : Option RS) (k : Env → Sto → Option RS) : Option RS := match m with
  | some (.nx δ S) => k δ S
  | r => r
section
variable {d : D} {ds : List D} {b : Bool} {S : Sto} {x : Exn} {δ δ' : Env}
@[simp] theorem bE_ok {k} : bE (some (.ok d S)) k = k d S := rfl
@[simp] theorem bE_ex {k} : bE (some (.ex x S)) k = some (.ex x S) := rfl
@[simp] theorem bE_none {k} : bE none k = none := rfl
@[simp] theorem bET_ok {k} : bET (some (.ok d S)) k = k d S := rfl
@[simp] theorem bET_ex {k} : bET (some (.ex x S)) k = some (.ex x S) := rfl
@[simp] theorem bET_none {k} : bET none k = none := rfl
@[simp] theorem bEA_ok {k} : bEA (some (.ok d S)) k = k d S := rfl
@[simp] theorem bEA_ex {k} : bEA (some (.ex x S)) k = some (.ex x S) := rfl
@[simp] theorem bEA_none {k} : bEA none k = none := rfl
@[simp] theorem bA_ok {k} : bA (some (.ok ds S)) k = k ds S := rfl
@[simp] theorem bA_ex {k} : bA (some (.ex x S)) k = some (.ex x S) := rfl
@[simp] theorem bA_none {k} : bA none k = none := rfl
@[simp] theorem bAA_ok {k} : bAA (some (.ok ds S)) k = k ds S := rfl
@[simp] theorem bAA_ex {k} : bAA (some (.ex x S)) k = some (.ex x S) := rfl
@[simp] theorem bAA_none {k} : bAA none k = none := rfl
@[simp] theorem bT_ok {k} : bT (some (.ok b S)) k = k b S := rfl
@[simp] theorem bT_ex {k} : bT (some (.ex x S)) k = some (.ex x S) := rfl
@[simp] theorem bT_none {k} : bT none k = none := rfl
@[simp] theorem bTT_ok {k} : bTT (some (.ok b S)) k = k b S := rfl
@[simp] theorem bTT_ex {k} : bTT (some (.ex x S)) k = some (.ex x S) := rfl
@[simp] theorem bTT_none {k} : bTT none k = none := rfl
@[simp] theorem bES_ok {k} : bES δ (some (.ok d S)) k = k d S := rfl
@[simp] theorem bES_ex {k} : bES δ (some (.ex x S)) k = some (.ex x δ S) := rfl
@[simp] theorem bES_none {k} : bES δ none k = none := rfl
@[simp] theorem bAS_ok {k} : bAS δ (some (.ok ds S)) k = k ds S := rfl
@[simp] theorem bAS_ex {k} : bAS δ (some (.ex x S)) k = some (.ex x δ S) := rfl
@[simp] theorem bAS_none {k} : bAS δ none k = none := rfl
@[simp] theorem bTS_ok {k} : bTS δ (some (.ok b S)) k = k b S := rfl
@[simp] theorem bTS_ex {k} : bTS δ (some (.ex x S)) k = some (.ex x δ S) := rfl
@[simp] theorem bTS_none {k} : bTS δ none k = none := rfl
@[simp] theorem bS_nx {k} : bS (some (.nx δ S)) k = k δ S := rfl
@[simp] theorem bS_rt {k} : bS (some (.rt d S)) k = some (.rt d S) := rfl
@[simp] theorem bS_bk {k} : bS (some (.bk δ S)) k = some (.bk δ S) := rfl
@[simp] theorem bS_ct {k} : bS (some (.ct δ S)) k = some (.ct δ S) := rfl
@[simp] theorem bS_ex {k} : bS (some (.ex x δ S)) k = some (.ex x δ S) := rfl
@[simp] theorem bS_none {k} : bS none k = none := rfl
end

/-! ## expressions -/
def mVar (i : Nat) : ME := fun δ S => match δ[i]? with
  | some (some d) => some (.ok d S)
  | _ => none
def mC (d : D) : ME := fun _ S => some (.ok d S)
/-- a two-place operation on values -/
def mBin (f : D → D → Option D) (a b : ME) : ME := fun δ S => bE (a δ S) fun x S1 => bE (b δ S1) fun y S2 => (f x y).map fun z => .ok z S2
/-- .. that may read the store -/
def mBinS (f : Sto → D → D → Option D) (a b : ME) : ME := fun δ S => bE (a δ S) fun x S1 => bE (b δ S1) fun y S2 => (f S2 x y).map fun z => .ok z S2
def mUn (f : D → Option D) (a : ME) : ME := fun δ S => bE (a δ S) fun x S1 => (f x).map fun z => .ok z S1
def mUnS (f : Sto → D → Option D) (a : ME) : ME := fun δ S => bE (a δ S) fun x S1 => (f S1 x).map fun z => .ok z S1

def mNilA : MA := fun _ S => some (.ok [] S)
def mConsA (a : ME) (r : MA) : MA := fun δ S => bEA (a δ S) fun x S1 => bAA (r δ S1) fun xs S2 => some (.ok (x :: xs) S2)
/-- positional values, then those given by name -/
def mCatA (a b : MA) : MA := fun δ S => bAA (a δ S) fun xs S1 => bAA (b δ S1) fun ys S2 => some (.ok (xs ++ ys) S2)
/-- a built-in called with values -/
def mBI (f : Sto → List D → Option D) (as : MA) : ME := fun δ S => bA (as δ S) fun xs S1 => (f S1 xs).map fun z => .ok z S1
/-- a def called -/
def mCall (f : MF) (as : MA) : ME := fun δ S => bA (as δ S) fun xs S1 => f xs S1
def mTup (as : MA) : ME := fun δ S => bA (as δ S) fun xs S1 => if xs.length ≤ LINE then some (.ok (.tup xs) S1) else none
/-- a list that is not changed -/
def mLst (as : MA) : ME := fun δ S => bA (as δ S) fun xs S1 => if xs.length ≤ LINE then some (.ok (.lst xs) S1) else none
/-- a list that will be changed -/
def mNewLst (as : MA) : ME := fun δ S => bA (as δ S) fun xs S1 => if xs.length ≤ LINE ∧ D.pures xs = true then some (.ok (.ref S1.length) (S1 ++ [.lst xs])) else none

/-- an expression with a bool for its value, as a test -/
def mB (e : ME) : MT := fun δ S => bET (e δ S) fun x S1 => match x with
  | .bl b => some (.ok b S1)
  | _ => none
def mAndT (a b : MT) : MT := fun δ S => bTT (a δ S) fun c S1 => if c then b δ S1 else some (.ok false S1)
def mOrT (a b : MT) : MT := fun δ S => bTT (a δ S) fun c S1 => if c then some (.ok true S1) else b δ S1
def mNotT (a : MT) : MT := fun δ S => bTT (a δ S) fun c S1 => some (.ok (!c) S1)
/-- and, or, not as values (bools) -/
def mAndV (a b : ME) : ME := fun δ S => bE (a δ S) fun x S1 => match x with
  | .bl true => b δ S1
  | .bl false => some (.ok (.bl false) S1)
  | _ => none
def mOrV (a b : ME) : ME := fun δ S => bE (a δ S) fun x S1 => match x with
  | .bl true => some (.ok (.bl true) S1)
  | .bl false => b δ S1
  | _ => none
def mNotV (a : ME) : ME := fun δ S => bE (a δ S) fun x S1 => match x with
  | .bl c => some (.ok (.bl (!c)) S1)
  | _ => none
def mIf (t : MT) (a b : ME) : ME := fun δ S => bT (t δ S) fun c S1 => if c then a δ S1 else b δ S1
/-- a op b op' c, b asked once -/
def mChain (f g : D → D → Option D) (a b c : ME) : ME := fun δ S => bE (a δ S) fun x S1 => bE (b δ S1) fun y S2 => match f x y with
  | some (.bl true) => bE (c δ S2) fun z S3 => (g y z).map fun v => .ok v S3
  | some (.bl false) => some (.ok (.bl false) S2)
  | _ => none

/-! ## operators on values -/
def opAdd : D → D → Option D
  | .int i, .int j => some (.int (i + j))
  | .str s, .str t => if s.length + t.length ≤ LINE then some (.str (s ++ t)) else none
  | .tup s, .tup t => if s.length + t.length ≤ LINE then some (.tup (s ++ t)) else none
  | .lst s, .lst t => if s.length + t.length ≤ LINE then some (.lst (s ++ t)) else none
  | _, _ => none
def opSub : D → D → Option D
  | .int i, .int j => some (.int (i - j))
  | _, _ => none
/-- one factor below 2 ^ 64; a tuple, a list so many times -/
def opMul : D → D → Option D
  | .int i, .int j => if i.natAbs < 18446744073709551616 ∨ j.natAbs < 18446744073709551616 then some (.int (i * j)) else none
  | .tup s, .int k => if k.natAbs ≤ 1000000000 ∧ s.length * k.toNat ≤ LINE then some (.tup (List.replicate k.toNat s).flatten) else none
  | .lst s, .int k => if k.natAbs ≤ 1000000000 ∧ s.length * k.toNat ≤ LINE then some (.lst (List.replicate k.toNat s).flatten) else none
  | _, _ => none
/-- // and % by a positive divisor (the quotient's divisor below 2 ^ 30) -/
def opDiv : D → D → Option D
  | .int i, .int j => if 0 < j ∧ j.natAbs < 1073741824 then some (.int (i / j)) else none
  | _, _ => none
def opMod : D → D → Option D
  | .int i, .int j => if 0 < j then some (.int (i % j)) else none
  | _, _ => none
def opPow : D → D → Option D
  | .int i, .int j => if 0 ≤ j ∧ j.natAbs ≤ 1000000 ∧ i.natAbs < 18446744073709551616 then some (.int (i ^ j.toNat)) else none
  | _, _ => none
def opNeg : D → Option D
  | .int i => some (.int (-i))
  | _ => none
/-- == and != of data without mutable objects -/
def opEqO (x y : D) : Option D := if x.ok && y.ok then some (.bl (eqD x y)) else none
def opNeO (x y : D) : Option D := if x.ok && y.ok then some (.bl (!eqD x y)) else none
def opEq : D → D → Option D
  | .str a, .str b => some (.bl (a == b))
  | x, y => opEqO x y
def opNe : D → D → Option D
  | .str a, .str b => some (.bl (!(a == b)))
  | x, y => opNeO x y
mutual
/-- the two can be told apart by < -/
def alikeD : D → D → Bool
  | .non, .non => true | .bl _, .bl _ => true | .int _, .int _ => true | .str _, .str _ => true
  | .lst xs, .lst ys => alikeDs xs ys
  | .tup xs, .tup ys => alikeDs xs ys
  | _, _ => false
def alikeDs : List D → List D → Bool
  | x :: xs, y :: ys => alikeD x y && alikeDs xs ys
  | [], _ => true
  | _ :: _, [] => true
end
mutual
/-- Python's < of data of one kind -/
def ltD : D → D → Bool
  | .bl a, .bl b => !a && b
  | .int a, .int b => decide (a < b)
  | .str a, .str b => decide (a < b)
  | .lst xs, .lst ys => ltDs xs ys
  | .tup xs, .tup ys => ltDs xs ys
  | _, _ => false
def ltDs : List D → List D → Bool
  | [], _ :: _ => true
  | x :: xs, y :: ys => if eqD x y then ltDs xs ys else ltD x y
  | _, [] => false
end
def nonD : D → Bool
  | .non => true
  | _ => false
def opLtD (x y : D) : Option D := if x.ok && y.ok && alikeD x y && !nonD x then some (.bl (ltD x y)) else none
def opLtI : D → D → Option D
  | .int i, .int j => some (.bl (decide (i < j)))
  | _, _ => none
def opLt : D → D → Option D
  | .int i, .int j => some (.bl (decide (i < j)))
  | x, y => opLtD x y
def opLe : D → D → Option D
  | .int i, .int j => some (.bl (decide (i ≤ j)))
  | _, _ => none
def opGt : D → D → Option D
  | .int i, .int j => some (.bl (decide (j < i)))
  | _, _ => none
def opGe : D → D → Option D
  | .int i, .int j => some (.bl (decide (j ≤ i)))
  | _, _ => none
/-- is True, is not True, is None .. -/
def opIs : D → D → Option D
  | .bl a, .bl b => some (.bl (decide (a = b)))
  | _, _ => none
def opIsNot : D → D → Option D
  | .bl a, .bl b => some (.bl (!decide (a = b)))
  | _, _ => none

/-- the items of a sequence that is read -/
def seqOf (S : Sto) : D → Option (List D)
  | .tup xs => some xs
  | .lst xs => some xs
  | .ref n => match S[n]? with
    | some (.lst xs) => some xs
    | _ => none
  | _ => none
/-- a place, from the end if below 0 -/
def ixN (n : Nat) (i : Int) : Option Nat := if 0 ≤ i then (if i < n then some i.toNat else none) else if -(n : Int) ≤ i then some (i + n).toNat else none
def opIx (S : Sto) (x y : D) : Option D := match y with
  | .int i => match x with
    | .str s => if s.length ≤ LINE then (ixN s.length i).bind fun j => (s[j]?).map fun c => .str [c] else none
    | x => (seqOf S x).bind fun xs => (ixN xs.length i).bind fun j => xs[j]?
  | _ => none
def sIx (n d : Nat) : Option Int → Nat
  | none => d
  | some v => if v < 0 then (v + (n : Int)).toNat else min v.toNat n
def cut {α : Type} (xs : List α) (lo hi : Option Int) : List α := (xs.drop (sIx xs.length 0 lo)).take (sIx xs.length xs.length hi - sIx xs.length 0 lo)
/-- a slice's bound: left out, or an int -/
abbrev MP := Env → Sto → Option (Option RE)
def mSlice (a : ME) (lo hi : Option ME) : ME := fun δ S => bE (a δ S) fun x S1 =>
  let part (p : Option ME) (S : Sto) (k : Option Int → Sto → Option RE) : Option RE := match p with
    | none => k none S
    | some e => bE (e δ S) fun v S' => match v with
      | .int i => k (some i) S'
      | _ => none
  part lo S1 fun l S2 => part hi S2 fun h S3 => match x with
    | .tup xs => some (.ok (.tup (cut xs l h)) S3)
    | .lst xs => some (.ok (.lst (cut xs l h)) S3)
    | .str xs => if xs.length ≤ LINE then some (.ok (.str (cut xs l h)) S3) else none
    | _ => none
/-- x[::-1] -/
def opRev : D → Option D
  | .tup xs => some (.tup xs.reverse)
  | .lst xs => some (.lst xs.reverse)
  | _ => none

/-- == and != where a mutable list may stand on a side -/
def rsv (S : Sto) : D → D
  | .ref n => match S[n]? with
    | some (.lst xs) => .lst xs
    | _ => .ref n
  | d => d
def opEqS (S : Sto) (x y : D) : Option D := opEqO (rsv S x) (rsv S y)
def opNeS (S : Sto) (x y : D) : Option D := opNeO (rsv S x) (rsv S y)

/-! ## built-ins -/
def biLen (S : Sto) : List D → Option D
  | [.str s] => if s.length ≤ LINE then some (.int s.length) else none
  | [x] => (seqOf S x).map fun xs => .int xs.length
  | _ => none
def biTuple (S : Sto) : List D → Option D
  | [.tup xs] => some (.tup xs)
  | [.lst xs] => some (.tup xs)
  | [.ref n] => match S[n]? with
    | some (.lst xs) => some (.tup xs)
    | _ => none
  | _ => none
def biList (S : Sto) : List D → Option D
  | [x] => (seqOf S x).map .lst
  | _ => none
def biAbs (_ : Sto) : List D → Option D
  | [.int i] => some (.int (if i < 0 then -i else i))
  | _ => none
def biMin (_ : Sto) : List D → Option D
  | [.int i, .int j] => some (.int (if j < i then j else i))
  | _ => none
def biMax (_ : Sto) : List D → Option D
  | [.int i, .int j] => some (.int (if j > i then j else i))
  | _ => none
def biInt (_ : Sto) : List D → Option D
  | [.int i] => some (.int i)
  | [.bl b] => some (.int (if b then 1 else 0))
  | _ => none
/-- repr (ω: what it is, kept open) -/
def biRepr (ω : D → List Nat) (_ : Sto) : List D → Option D
  | [x] => if x.ok then match x.wt with
    | some n => if n ≤ LINE then some (.str (ω x)) else none
    | none => none
    else none
  | _ => none
/-- isinstance(x, int), bool, tuple, str -/
def isInt : D → Option Bool
  | .int _ => some true | .bl _ => some true | .ref _ => none | .non => some false | .str _ => some false | .tup _ => some false | .lst _ => some false
def isBool : D → Option Bool
  | .int _ => some false | .bl _ => some true | .ref _ => none | .non => some false | .str _ => some false | .tup _ => some false | .lst _ => some false
def isTuple : D → Option Bool
  | .int _ => some false | .bl _ => some false | .ref _ => none | .non => some false | .str _ => some false | .tup _ => some true | .lst _ => some false
def isStr : D → Option Bool
  | .int _ => some false | .bl _ => some false | .ref _ => none | .non => some false | .str _ => some true | .tup _ => some false | .lst _ => some false

def opIsI (f : D → Option Bool) (d : D) : Option D := (f d).map .bl

/-! ## statements -/
def mPass : MS := fun δ S => some (.nx δ S)
def mSeq (a b : MS) : MS := fun δ S => bS (a δ S) b
/-- code that is never come to -/
def mNever : MS := fun _ _ => none
def mSet (i : Nat) (e : ME) : MS := fun δ S => bES δ (e δ S) fun d S1 => some (.nx (δ.set i (some d)) S1)
def mDrop (e : ME) : MS := fun δ S => bES δ (e δ S) fun _ S1 => some (.nx δ S1)
def mRet (e : ME) : MS := fun δ S => bES δ (e δ S) fun d S1 => some (.rt d S1)
def mRetN : MS := fun _ S => some (.rt .non S)
def mIfS (t : MT) (a b : MS) : MS := fun δ S => bTS δ (t δ S) fun c S1 => if c then a δ S1 else b δ S1
def mBreak : MS := fun δ S => some (.bk δ S)
def mCont : MS := fun δ S => some (.ct δ S)
/-- a, b = x, y (stored together) -/
def mPar (i j : Nat) (a b : ME) : MS := fun δ S => bES δ (a δ S) fun x S1 => bES δ (b δ S1) fun y S2 => some (.nx ((δ.set i (some x)).set j (some y)) S2)
def mPar3 (i j l : Nat) (a b c : ME) : MS := fun δ S => bES δ (a δ S) fun x S1 => bES δ (b δ S1) fun y S2 => bES δ (c δ S2) fun z S3 => some (.nx (((δ.set i (some x)).set j (some y)).set l (some z)) S3)

/-- a target: how a value is stored -/
inductive Tg where
  | name (i : Nat)
  | tup (ts : List Tg)
mutual
def Tg.put : Tg → D → Env → Option Env
  | .name i, d, δ => some (δ.set i (some d))
  | .tup ts, .tup ds, δ => Tg.puts ts ds δ
  | .tup _, _, _ => none
def Tg.puts : List Tg → List D → Env → Option Env
  | [], [], δ => some δ
  | t :: ts, d :: ds, δ => match t.put d δ with
    | some δ' => Tg.puts ts ds δ'
    | none => none
  | _, _, _ => none
end
/-- target = e -/
def mAsg (t : Tg) (e : ME) : MS := fun δ S => bES δ (e δ S) fun d S1 => (t.put d δ).map fun δ' => .nx δ' S1

/-- the turns of a for -/
def forL (t : Tg) (body : MS) : List D → MS
  | [], δ, S => some (.nx δ S)
  | d :: ds, δ, S => match t.put d δ with
    | none => none
    | some δ1 => match body δ1 S with
      | some (.nx δ2 S2) => forL t body ds δ2 S2
      | some (.ct δ2 S2) => forL t body ds δ2 S2
      | some (.bk δ2 S2) => some (.nx δ2 S2)
      | r => r
/-- what a for walks: its items (or an exception) -/
abbrev MI := Env → Sto → Option RA
def mFor (t : Tg) (it : MI) (body : MS) : MS := fun δ S => bAS δ (it δ S) fun ds S1 => forL t body ds δ S1
/-- a sequence that is not changed -/
def mItSeq (e : ME) : MI := fun δ S => bEA (e δ S) fun x S1 => match x with
  | .tup xs => some (.ok xs S1)
  | .lst xs => some (.ok xs S1)
  | _ => none
def rangeD (lo : Int) (n : Nat) : List D := (List.range n).map fun i => .int (lo + (i : Nat))
def mItRange1 (e : ME) : MI := fun δ S => bEA (e δ S) fun x S1 => match x with
  | .int n => if n.natAbs < 4611686018427387904 then some (.ok (rangeD 0 n.toNat) S1) else none
  | _ => none
def mItRange2 (a b : ME) : MI := fun δ S => bEA (a δ S) fun x S1 => bEA (b δ S1) fun y S2 => match x, y with
  | .int lo, .int hi => if lo.natAbs < 4611686018427387904 ∧ hi.natAbs < 4611686018427387904 then some (.ok (rangeD lo (hi - lo).toNat) S2) else none
  | _, _ => none
def enumD (k : Nat) : List D → List D
  | [] => []
  | x :: xs => .tup [.int (k : Nat), x] :: enumD (k + 1) xs
def mItEnum (e : ME) : MI := fun δ S => bEA (e δ S) fun x S1 => match x with
  | .tup xs => some (.ok (enumD 0 xs) S1)
  | .lst xs => some (.ok (enumD 0 xs) S1)
  | _ => none

/-- while: the loop's own equation is mWhile_eq -/
def mWhile (c : MT) (body : MS) (δ : Env) (S : Sto) : Option RS :=
  match c δ S with
  | some (.ok true S1) => match body δ S1 with
    | some (.nx δ2 S2) => mWhile c body δ2 S2
    | some (.ct δ2 S2) => mWhile c body δ2 S2
    | some (.bk δ2 S2) => some (.nx δ2 S2)
    | some (.rt d S2) => some (.rt d S2)
    | some (.ex x δ2 S2) => some (.ex x δ2 S2)
    | none => none
  | some (.ok false S1) => some (.nx δ S1)
  | some (.ex x S1) => some (.ex x δ S1)
  | none => none
partial_fixpoint

/-- a list comprehension's turns (one for): vs are the slots of its own names -/
def wipeD (δ : Env) : List Nat → Env
  | [] => δ
  | v :: vs => (wipeD δ vs).set v none
def compL (t : Tg) (c : MT) (e : ME) (δ : Env) : List D → List D → Sto → Option RA
  | [], acc, S => some (.ok acc S)
  | d :: ds, acc, S => match t.put d δ with
    | none => none
    | some δ1 => match c δ1 S with
      | some (.ok true S1) => match e δ1 S1 with
        | some (.ok x S2) => compL t c e δ ds (acc ++ [x]) S2
        | _ => none
      | some (.ok false S1) => compL t c e δ ds acc S1
      | _ => none
def mTrue : MT := fun _ S => some (.ok true S)
def mCompA (vs : List Nat) (t : Tg) (it : MI) (c : MT) (e : ME) : MA := fun δ S => bAA (it δ S) fun ds S1 =>
  if ds.length ≤ LINE then compL t c e (wipeD δ vs) ds [] S1 else none
def mComp (vs : List Nat) (t : Tg) (it : MI) (c : MT) (e : ME) : ME := fun δ S => bA (mCompA vs t it c e δ S) fun xs S1 => some (.ok (.lst xs) S1)
def mNewComp (vs : List Nat) (t : Tg) (it : MI) (c : MT) (e : ME) : ME := fun δ S => bA (mCompA vs t it c e δ S) fun xs S1 => if D.pures xs then some (.ok (.ref S1.length) (S1 ++ [.lst xs])) else none

/-! ## mutable lists -/
def getL (S : Sto) : D → Option (Nat × List D)
  | .ref n => match S[n]? with
    | some (.lst xs) => some (n, xs)
    | _ => none
  | _ => none
def mAppend (l e : ME) : ME := fun δ S => bE (l δ S) fun x S1 => match getL S1 x with
  | some _ => bE (e δ S1) fun y S2 => match getL S2 x with
    | some (n, xs) => if xs.length < LINE ∧ y.pure = true then some (.ok .non (S2.set n (.lst (xs ++ [y])))) else none
    | none => none
  | none => none
def mPop (l : ME) : ME := fun δ S => bE (l δ S) fun x S1 => match getL S1 x with
  | some (n, xs) => match xs[xs.length - 1]? with
    | some y => some (.ok y (S1.set n (.lst xs.dropLast)))
    | none => none
  | none => none
/-- l[i] = e (e is asked first) -/
def mSetIx (l i e : ME) : MS := fun δ S => bES δ (e δ S) fun v S1 => bES δ (l δ S1) fun x S2 => bES δ (i δ S2) fun k S3 => match getL S3 x, k with
  | some (n, xs), .int j => match ixN xs.length j with
    | some p => if v.pure then some (.nx δ (S3.set n (.lst (xs.set p v)))) else none
    | none => none
  | _, _ => none
/-- a list that will be changed, out of the items of a sequence -/
def mNewList (e : ME) : ME := fun δ S => bE (e δ S) fun x S1 => match seqOf S1 x with
  | some xs => if D.pures xs then some (.ok (.ref S1.length) (S1 ++ [.lst xs])) else none
  | none => none
/-- from here on nobody changes it -/
def mFreeze (e : ME) : ME := fun δ S => bE (e δ S) fun x S1 => match x with
  | .lst xs => some (.ok (.lst xs) S1)
  | x => match getL S1 x with
    | some (n, xs) => some (.ok (.lst xs) (S1.set n .dead))
    | none => none
/-- == [] and != [] of a mutable list -/
def mIsNil (l : ME) : ME := fun δ S => bE (l δ S) fun x S1 => match getL S1 x with
  | some (_, xs) => some (.ok (.bl xs.isEmpty) S1)
  | none => none

/-! ## the state of a law's draws: {'cells': .., 'at': .., 'left': ..} -/
def lawOf (S : Sto) : D → Option (Nat × List Int × Nat × List Int)
  | .ref n => match S[n]? with
    | some (.law c k l) => some (n, c, k, l)
    | _ => none
  | _ => none
def mLawAt (m : ME) : ME := fun δ S => bE (m δ S) fun x S1 => match lawOf S1 x with
  | some (_, _, k, _) => some (.ok (.int k) S1)
  | none => none
def mLawCells (m : ME) : ME := fun δ S => bE (m δ S) fun x S1 => match lawOf S1 x with
  | some (_, c, _, _) => some (.ok (.lst (c.map .int)) S1)
  | none => none
/-- m['left'] != [] -/
def mLawNe (m : ME) : ME := fun δ S => bE (m δ S) fun x S1 => match lawOf S1 x with
  | some (_, _, _, l) => some (.ok (.bl (!l.isEmpty)) S1)
  | none => none
/-- m['left'][0] -/
def mLawL0 (m : ME) : ME := fun δ S => bE (m δ S) fun x S1 => match lawOf S1 x with
  | some (_, _, _, h :: _) => some (.ok (.int h) S1)
  | _ => none
/-- m['left'][0] = e -/
def mLawSet0 (m e : ME) : MS := fun δ S => bES δ (e δ S) fun v S1 => bES δ (m δ S1) fun x S2 => match v, lawOf S2 x with
  | .int i, some (n, c, k, _ :: t) => some (.nx δ (S2.set n (.law c k (i :: t))))
  | _, _ => none
/-- m['left'] = m['left'][1:] -/
def mLawTail (i : Nat) : MS := fun δ S => bES δ (mVar i δ S) fun x S1 => match lawOf S1 x with
  | some (n, c, k, _ :: t) => some (.nx δ (S1.set n (.law c k t)))
  | _ => none
/-- m['at'] = e -/
def mLawSetAt (m e : ME) : MS := fun δ S => bES δ (e δ S) fun v S1 => bES δ (m δ S1) fun x S2 => match v, lawOf S2 x with
  | .int i, some (n, c, _, l) => if 0 ≤ i then some (.nx δ (S2.set n (.law c i.toNat l))) else none
  | _, _ => none
def intsOf : List D → Option (List Int)
  | [] => some []
  | .int i :: r => (intsOf r).map fun l => i :: l
  | _ => none
/-- {'cells': c, 'at': 0, 'left': l}: c a list that stays, l a new list -/
def mNewLaw (c l : ME) : ME := fun δ S => bE (c δ S) fun x S1 => bE (l δ S1) fun y S2 => match x, y with
  | .lst cs, .ref n => match S2[n]? with
    | some (.lst ls) => if n + 1 = S2.length ∧ S.length ≤ n then match intsOf cs, intsOf ls with
      | some cells, some left => some (.ok (.ref n) (S2.take n ++ [.law cells 0 left]))
      | _, _ => none
      else none
    | _ => none
  | _, _ => none

/-! ## defs -/
/-- np parameters, nl other names; its own lists are forgotten behind it -/
def mFn (np nl : Nat) (body : MS) : MF := fun ds S => if ds.length = np then match body (ds.map some ++ List.replicate nl none) S with
  | some (.rt d S1) => if d.pure then some (.ok d (S1.take S.length)) else none
  | some (.nx _ S1) => some (.ok .non (S1.take S.length))
  | some (.ex x _ S1) => if x.val.pure then some (.ex x (S1.take S.length)) else none
  | _ => none
  else none
/-- .. that hands back a mutable object -/
def mFnR (np nl : Nat) (body : MS) : MF := fun ds S => if ds.length = np then match body (ds.map some ++ List.replicate nl none) S with
  | some (.rt d S1) => some (.ok d S1)
  | some (.nx _ S1) => some (.ok .non S1)
  | some (.ex x _ S1) => some (.ex x S1)
  | _ => none
  else none
end PL

set_option Elab.async false
set_option linter.all false
set_option maxRecDepth 100000
set_option maxHeartbeats 2000000
/-! # BR: the bridge. What the mirror's combinators say holds of the program (over HandS). -/
namespace BR
open PySem PySem.Spec PyProof.Rows L2

/-! ## values, stores, names -/
/-- a list that nobody changes: locked, or the module's own -/
def FzL (K : PySem.W.Frag) (H : Hp) (a : Addr) (o : Obj) (xs : List V) : Prop :=
  H a = some (.frz o (.lst xs)) ∨ ∃ (its : List Value) (n : Nat), K.lookup a = some { cls := .type "list", data := .seq its.toArray n } ∧ xs.length ≤ sizeLine ∧ Vals xs its
mutual
def RD (K : PySem.W.Frag) (α : List Addr) (H : Hp) : PL.D → V → Prop
  | .non, v => v = .non
  | .bl b, v => v = .bl b
  | .int i, v => v = .int i
  | .str s, v => ∃ x : Str, v = .str x ∧ x.cps.toList = s
  | .tup ds, v => ∃ a vs, v = .ref a ∧ SqT K H a vs ∧ RDs K α H ds vs
  | .lst ds, v => ∃ a o vs, v = .ref a ∧ FzL K H a o vs ∧ RDs K α H ds vs
  | .ref n, v => ∃ a, α[n]? = some a ∧ v = .ref a
def RDs (K : PySem.W.Frag) (α : List Addr) (H : Hp) : List PL.D → List V → Prop
  | [], vs => vs = []
  | d :: ds, vs => ∃ v r, vs = v :: r ∧ RD K α H d v ∧ RDs K α H ds r
end

/-- what is never changed -/
def Perm : HO → Prop
  | .tup _ => True
  | .frz _ _ => True
  | .xd _ => True
  | .ext _ => True
  | .own _ => True
  | .met _ _ => True
  | .rng _ _ => True
  | _ => False
def Le (H H' : Hp) : Prop := ∀ a o, H a = some o → Perm o → H' a = some o
theorem Le.refl (H : Hp) : Le H H := fun _ _ h _ => h
theorem Le.trans {H H1 H2 : Hp} (a : Le H H1) (b : Le H1 H2) : Le H H2 := fun c o h p => b c o (a c o h p) p
theorem Le.new {H : Hp} {a : Addr} {o : HO} (h : H a = none) : Le H (upd H a o) := fun b u e _ => by
  rw [upd_ne (ne_of_none e h)]; exact e
theorem Le.put {H : Hp} {a : Addr} {o u : HO} (h : H a = some u) (n : ¬ Perm u) : Le H (upd H a o) := fun b w e p => by
  by_cases hb : b = a
  · subst hb; rw [h] at e; cases e; exact absurd p n
  · rw [upd_ne hb]; exact e
/-- the list that the draws' state at one of α owns -/
def Own (α : List Addr) (H : Hp) (a : Addr) : Prop := ∃ d ∈ α, ∃ c n, H d = some (.dK [(.inr "cells", c), (.inr "at", n), (.inr "left", .ref a)])
/-- what the store may change -/
def Tr (α : List Addr) (H : Hp) (a : Addr) : Prop := a ∈ α ∨ Own α H a
def Fr (α : List Addr) (H : Hp) (α' : List Addr) (H' : Hp) : Prop := (∀ a, Tr α' H' a → Tr α H a ∨ H a = none) ∧ (∀ a (o : HO), H a = some o → ¬ Tr α H a → H' a = some o) ∧ ∀ a, H a ≠ none → H' a ≠ none
def Ext (α : List Addr) (H : Hp) (α' : List Addr) (H' : Hp) : Prop := α <+: α' ∧ Le H H' ∧ Fr α H α' H'
theorem Ext.refl (α : List Addr) (H : Hp) : Ext α H α H := ⟨List.prefix_refl _, Le.refl _, fun _ h => .inl h, fun _ _ h _ => h, fun _ h => h⟩
theorem Ext.trans {α α1 α2 : List Addr} {H H1 H2 : Hp} (a : Ext α H α1 H1) (b : Ext α1 H1 α2 H2) : Ext α H α2 H2 := by
  obtain ⟨a1, a2, a3, a4, a5⟩ := a
  obtain ⟨b1, b2, b3, b4, b5⟩ := b
  refine ⟨a1.trans b1, a2.trans b2, fun x h => ?_, fun x xs h n => ?_, fun x h => b5 x (a5 x h)⟩
  · rcases b3 x h with h | h
    · exact a3 x h
    · by_cases q : H x = none
      · exact .inr q
      · exact absurd h (a5 x q)
  · refine b4 x xs (a4 x xs h n) fun z => ?_
    rcases a3 x z with q | q
    · exact n q
    · rw [h] at q; cases q
/-- no dict -/
def NoD : HO → Prop
  | .dK (_ :: _) => False
  | _ => True
theorem Ext.new {α : List Addr} {H : Hp} {p : Addr} {o : HO} (hp : H p = none) (ho : NoD o) : Ext α H α (upd H p o) := by
  refine ⟨List.prefix_refl _, Le.new hp, fun a h => ?_, fun a xs e n => by rw [upd_ne (ne_of_none e hp)]; exact e, fun a h => ?_⟩
  · rcases h with h | ⟨d, hd, c, n, e⟩
    · exact .inl (.inl h)
    · by_cases q : d = p
      · subst q; rw [upd_same] at e; cases e; exact ho.elim
      · rw [upd_ne q] at e; exact .inl (.inr ⟨d, hd, c, n, e⟩)
  · by_cases q : a = p
    · subst q; exact absurd hp h
    · rw [upd_ne q]; exact h
theorem Ext.pushN {α : List Addr} {H : Hp} {p : Addr} {o : HO} (hp : H p = none) (ho : NoD o) : Ext α H (α ++ [p]) (upd H p o) := by
  refine ⟨List.prefix_append _ _, Le.new hp, fun a h => ?_, fun a xs e n => by rw [upd_ne (ne_of_none e hp)]; exact e, fun a h => ?_⟩
  · rcases h with h | ⟨d, hd, c, n, e⟩
    · rcases List.mem_append.mp h with h | h
      · exact .inl (.inl h)
      · exact .inr (by rw [List.mem_singleton.mp h]; exact hp)
    · by_cases q : d = p
      · subst q; rw [upd_same] at e; cases e; exact ho.elim
      · rw [upd_ne q] at e
        rcases List.mem_append.mp hd with z | z
        · exact .inl (.inr ⟨d, z, c, n, e⟩)
        · exact absurd (List.mem_singleton.mp z) q
  · by_cases q : a = p
    · subst q; exact absurd hp h
    · rw [upd_ne q]; exact h
/-- a list of the store is written -/
theorem Ext.put {α : List Addr} {H : Hp} {p : Addr} {o u : HO} (hp : H p = some u) (nu : ¬ Perm u) (hm : Tr α H p) (ho : NoD o) : Ext α H α (upd H p o) := by
  refine ⟨List.prefix_refl _, Le.put hp nu, fun a h => ?_, fun a xs e n => ?_, fun a h => ?_⟩
  · rcases h with h | ⟨d, hd, c, n, e⟩
    · exact .inl (.inl h)
    · by_cases q : d = p
      · subst q; rw [upd_same] at e; cases e; exact ho.elim
      · rw [upd_ne q] at e; exact .inl (.inr ⟨d, hd, c, n, e⟩)
  · by_cases q : a = p
    · subst q; exact absurd hm n
    · rw [upd_ne q]; exact e
  · by_cases q : a = p
    · subst q; rw [upd_same]; exact fun z => by cases z
    · rw [upd_ne q]; exact h
/-- nothing has changed of what was there -/
theorem Ext.same {α : List Addr} {H H' : Hp} (s : ∀ c u, H c = some u → H' c = some u) (h : ∀ d ∈ α, H d ≠ none) : Ext α H α H' := by
  refine ⟨List.prefix_refl _, fun c u e _ => s c u e, fun a h' => ?_, fun a xs e _ => s _ _ e, fun a h' => ?_⟩
  · rcases h' with h' | ⟨d, hd, c, n, e⟩
    · exact .inl (.inl h')
    · cases q : H d with
      | none => exact absurd q (h d hd)
      | some o =>
        have q2 := s d o q
        rw [e] at q2
        cases q2
        exact .inl (.inr ⟨d, hd, c, n, q⟩)
  · cases q : H a with
    | none => exact absurd q h'
    | some o => rw [s a o q]; exact fun z => by cases z
/-- a list that is not the store's is written, which was not there at the start -/
theorem Ext.off {α α1 : List Addr} {H H1 : Hp} {D : Addr} {o : HO} (x : Ext α1 H1 α H) (h1 : H1 D = none) (n : ¬ Tr α H D) : Ext α1 H1 α (upd H D o) := by
  obtain ⟨a1, a2, a3, a4, a5⟩ := x
  refine ⟨a1, fun c u e p => ?_, fun a h => ?_, fun a zs e m => ?_, fun a h => ?_⟩
  · rw [upd_ne (ne_of_none e h1)]; exact a2 c u e p
  · refine a3 a ?_
    rcases h with h | ⟨d, hd, c, k, e⟩
    · exact .inl h
    · by_cases q : d = D
      · subst q; exact absurd (.inl hd) n
      · rw [upd_ne q] at e; exact .inr ⟨d, hd, c, k, e⟩
  · rw [upd_ne (ne_of_none e h1)]; exact a4 a zs e m
  · by_cases q : a = D
    · subst q; rw [upd_same]; exact fun z => by cases z
    · rw [upd_ne q]; exact a5 a h
theorem Tr.upd {α : List Addr} {H : Hp} {D a : Addr} {o : HO} (n : D ∉ α) (h : Tr α (L2.upd H D o) a) : Tr α H a := by
  rcases h with h | ⟨d, hd, c, k, e⟩
  · exact .inl h
  · by_cases q : d = D
    · subst q; exact absurd hd n
    · rw [upd_ne q] at e; exact .inr ⟨d, hd, c, k, e⟩

theorem FzL.le {K : PySem.W.Frag} {H H' : Hp} {a : Addr} {o : Obj} {vs : List V} (l : Le H H') (h : FzL K H a o vs) : FzL K H' a o vs := by
  rcases h with h | h
  · exact .inl (l _ _ h trivial)
  · exact .inr h
theorem SqT.le {K : PySem.W.Frag} {H H' : Hp} {a : Addr} {vs : List V} (l : Le H H') (h : SqT K H a vs) : SqT K H' a vs := by
  rcases h with (h | ⟨o, h⟩) | h
  · exact .inl (.inl (l _ _ h trivial))
  · exact .inl (.inr ⟨o, l _ _ h trivial⟩)
  · exact .inr h
theorem pre_get {α α' : List Addr} (h : α <+: α') {n : Nat} {a : Addr} (e : α[n]? = some a) : α'[n]? = some a := by
  obtain ⟨t, rfl⟩ := h
  rw [List.getElem?_append_left (List.getElem?_eq_some_iff.mp e).1]; exact e

section
variable {K : PySem.W.Frag} {α α' : List Addr} {H H' : Hp}
mutual
theorem RD.mono0 (x1 : α <+: α') (x2 : Le H H') : ∀ {d : PL.D} {v : V}, RD K α H d v → RD K α' H' d v
  | .non, _, h => by simpa [RD] using h
  | .bl _, _, h => by simpa [RD] using h
  | .int _, _, h => by simpa [RD] using h
  | .str _, _, h => by simpa [RD] using h
  | .tup ds, _, h => by
    simp only [RD] at h ⊢
    obtain ⟨a, vs, e, q, r⟩ := h
    exact ⟨a, vs, e, SqT.le x2 q, RDs.mono0 x1 x2 r⟩
  | .lst ds, _, h => by
    simp only [RD] at h ⊢
    obtain ⟨a, o, vs, e, q, r⟩ := h
    exact ⟨a, o, vs, e, FzL.le x2 q, RDs.mono0 x1 x2 r⟩
  | .ref n, _, h => by
    simp only [RD] at h ⊢
    obtain ⟨a, e, q⟩ := h
    exact ⟨a, pre_get x1 e, q⟩
theorem RDs.mono0 (x1 : α <+: α') (x2 : Le H H') : ∀ {ds : List PL.D} {vs : List V}, RDs K α H ds vs → RDs K α' H' ds vs
  | [], _, h => by simpa [RDs] using h
  | d :: ds, _, h => by
    simp only [RDs] at h ⊢
    obtain ⟨v, r, e, q, t⟩ := h
    exact ⟨v, r, e, RD.mono0 x1 x2 q, RDs.mono0 x1 x2 t⟩
end
theorem RD.mono {d : PL.D} {v : V} (x : Ext α H α' H') (h : RD K α H d v) : RD K α' H' d v := h.mono0 x.1 x.2.1
theorem RDs.mono {ds : List PL.D} {vs : List V} (x : Ext α H α' H') (h : RDs K α H ds vs) : RDs K α' H' ds vs := h.mono0 x.1 x.2.1
theorem RDs.nil : RDs K α H [] [] := by simp [RDs]
theorem RDs.cons {d : PL.D} {v : V} {ds : List PL.D} {vs : List V} (a : RD K α H d v) (b : RDs K α H ds vs) : RDs K α H (d :: ds) (v :: vs) := by
  simp only [RDs]; exact ⟨v, vs, rfl, a, b⟩
theorem RDs.length : ∀ {ds : List PL.D} {vs : List V}, RDs K α H ds vs → ds.length = vs.length
  | [], _, h => by simp only [RDs] at h; subst h; rfl
  | d :: ds, _, h => by
    simp only [RDs] at h
    obtain ⟨v, r, rfl, _, t⟩ := h
    simp [RDs.length t]
theorem RDs.get : ∀ {ds : List PL.D} {vs : List V}, RDs K α H ds vs → ∀ {i : Nat} {d : PL.D}, ds[i]? = some d → ∃ v, vs[i]? = some v ∧ RD K α H d v
  | [], _, _, _, _, e => by simp at e
  | d :: ds, _, h, i, z, e => by
    simp only [RDs] at h
    obtain ⟨v, r, rfl, q, t⟩ := h
    cases i with
    | zero => simp at e; subst e; exact ⟨v, rfl, q⟩
    | succ i =>
      obtain ⟨w, e1, q1⟩ := RDs.get t (i := i) (d := z) (by simpa using e)
      exact ⟨w, by simpa using e1, q1⟩
theorem RDs.append : ∀ {ds es : List PL.D} {vs ws : List V}, RDs K α H ds vs → RDs K α H es ws → RDs K α H (ds ++ es) (vs ++ ws)
  | [], _, _, _, h, h2 => by simp only [RDs] at h; subst h; exact h2
  | d :: ds, _, _, _, h, h2 => by
    simp only [RDs] at h
    obtain ⟨v, r, rfl, q, t⟩ := h
    exact .cons q (RDs.append t h2)
theorem RDs.take : ∀ {ds : List PL.D} {vs : List V} (n : Nat), RDs K α H ds vs → RDs K α H (ds.take n) (vs.take n)
  | [], _, _, h => by simp only [RDs] at h; subst h; simp [RDs]
  | d :: ds, _, 0, h => by simp [RDs]
  | d :: ds, _, n + 1, h => by
    simp only [RDs] at h
    obtain ⟨v, r, rfl, q, t⟩ := h
    exact .cons q (RDs.take n t)
theorem RDs.drop : ∀ {ds : List PL.D} {vs : List V} (n : Nat), RDs K α H ds vs → RDs K α H (ds.drop n) (vs.drop n)
  | [], _, _, h => by simp only [RDs] at h; subst h; simp [RDs]
  | d :: ds, _, 0, h => h
  | d :: ds, _, n + 1, h => by
    simp only [RDs] at h
    obtain ⟨v, r, rfl, q, t⟩ := h
    exact RDs.drop n t
theorem RDs.reverse : ∀ {ds : List PL.D} {vs : List V}, RDs K α H ds vs → RDs K α H ds.reverse vs.reverse
  | [], _, h => by simp only [RDs] at h; subst h; simp [RDs]
  | d :: ds, _, h => by
    simp only [RDs] at h
    obtain ⟨v, r, rfl, q, t⟩ := h
    rw [List.reverse_cons, List.reverse_cons]
    exact (RDs.reverse t).append (.cons q .nil)
theorem RDs.dropLast {ds : List PL.D} {vs : List V} (h : RDs K α H ds vs) : RDs K α H ds.dropLast vs.dropLast := by
  rw [List.dropLast_eq_take, List.dropLast_eq_take, h.length]; exact h.take _
theorem RDs.set : ∀ {ds : List PL.D} {vs : List V} (n : Nat) {d : PL.D} {v : V}, RDs K α H ds vs → RD K α H d v → RDs K α H (ds.set n d) (vs.set n v)
  | [], _, _, _, _, h, _ => by simp only [RDs] at h; subst h; simp [RDs]
  | d :: ds, _, 0, _, _, h, q => by
    simp only [RDs] at h
    obtain ⟨v, r, rfl, _, t⟩ := h
    exact .cons q t
  | d :: ds, _, n + 1, _, _, h, q => by
    simp only [RDs] at h
    obtain ⟨v, r, rfl, q1, t⟩ := h
    exact .cons q1 (RDs.set n t q)
theorem RDs.rep {ds : List PL.D} {vs : List V} (h : RDs K α H ds vs) : ∀ n : Nat, RDs K α H (List.replicate n ds).flatten (List.replicate n vs).flatten
  | 0 => by simp [RDs]
  | n + 1 => by
    rw [List.replicate_succ, List.replicate_succ, List.flatten_cons, List.flatten_cons]
    exact h.append (RDs.rep h n)
theorem RDs.one {d : PL.D} {vs : List V} (h : RDs K α H [d] vs) : ∃ v, vs = [v] ∧ RD K α H d v := by
  simp only [RDs] at h
  obtain ⟨v, r, rfl, q, rfl⟩ := h
  exact ⟨v, rfl, q⟩
theorem RDs.two {d e : PL.D} {vs : List V} (h : RDs K α H [d, e] vs) : ∃ v w, vs = [v, w] ∧ RD K α H d v ∧ RD K α H e w := by
  simp only [RDs] at h
  obtain ⟨v, r, rfl, q, w, r', rfl, q', rfl⟩ := h
  exact ⟨v, w, rfl, q, q'⟩
mutual
/-- data without mutable objects does not hang on α -/
theorem RD.pure : ∀ {d : PL.D} {v : V}, d.pure = true → RD K α H d v → RD K α' H d v
  | .non, _, _, h => by simpa [RD] using h
  | .bl _, _, _, h => by simpa [RD] using h
  | .int _, _, _, h => by simpa [RD] using h
  | .str _, _, _, h => by simpa [RD] using h
  | .tup ds, _, p, h => by
    simp only [RD] at h ⊢
    simp only [PL.D.pure] at p
    obtain ⟨a, vs, e, q, r⟩ := h
    exact ⟨a, vs, e, q, RDs.pure p r⟩
  | .lst ds, _, p, h => by
    simp only [RD] at h ⊢
    simp only [PL.D.pure] at p
    obtain ⟨a, o, vs, e, q, r⟩ := h
    exact ⟨a, o, vs, e, q, RDs.pure p r⟩
  | .ref n, _, p, h => by simp [PL.D.pure] at p
theorem RDs.pure : ∀ {ds : List PL.D} {vs : List V}, PL.D.pures ds = true → RDs K α H ds vs → RDs K α' H ds vs
  | [], _, _, h => by simpa [RDs] using h
  | d :: ds, _, p, h => by
    simp only [RDs] at h ⊢
    simp only [PL.D.pures, Bool.and_eq_true] at p
    obtain ⟨v, r, e, q, t⟩ := h
    exact ⟨v, r, e, RD.pure p.1 q, RDs.pure p.2 t⟩
end
end

/-- an object of the store, at a; b: further objects that are its own -/
def MOk (K : PySem.W.Frag) (α : List Addr) (H : Hp) (a : Addr) (b : List Addr) : PL.MO → Prop
  | .dead => (∃ o u, H a = some (.frz o u)) ∧ b = []
  | .lst ds => (∃ vs, H a = some (.lst vs) ∧ RDs K α H ds vs) ∧ PL.D.pures ds = true ∧ b = []
  | .law cells n left => ∃ c o l, H a = some (.dK [(.inr "cells", .ref c), (.inr "at", .int n), (.inr "left", .ref l)]) ∧ FzL K H c o (cells.map V.int) ∧ H l = some (.lst (left.map V.int)) ∧ b = [l]
/-- the store -/
def RSt (K : PySem.W.Frag) (α : List Addr) (S : PL.Sto) (H : Hp) : Prop :=
  ∃ β : List (List Addr), α.length = S.length ∧ β.length = S.length ∧ (α ++ β.flatten).Nodup ∧ (∀ b ∈ β.flatten, H b ≠ none) ∧
    ∀ (n : Nat) (o : PL.MO), S[n]? = some o → ∃ a b, α[n]? = some a ∧ β[n]? = some b ∧ MOk K α H a b o
structure Rel (K : PySem.W.Frag) (α : List Addr) (δ : PL.Env) (S : PL.Sto) (σ : L2.St) (H : Hp) : Prop where
  st : RSt K α S H
  len : δ.length = σ.length
  loc : ∀ (i : Nat) (d : PL.D), δ[i]? = some (some d) → ∃ v, σ[i]? = some (some v) ∧ RD K α H d v
section
variable {K : PySem.W.Frag} {α α' : List Addr} {δ : PL.Env} {S S' : PL.Sto} {σ : L2.St} {H H' : Hp}
theorem Rel.mono (R : Rel K α δ S σ H) (x : Ext α H α' H') (h : RSt K α' S' H') : Rel K α' δ S' σ H' :=
  ⟨h, R.len, fun i d e => let ⟨v, e1, q⟩ := R.loc i d e; ⟨v, e1, q.mono x⟩⟩
theorem Rel.set (R : Rel K α δ S σ H) {d : PL.D} {v : V} (q : RD K α H d v) (i : Nat) : Rel K α (δ.set i (some d)) S (σ.set i (some v)) H := by
  refine ⟨R.st, by simpa using R.len, fun j e h => ?_⟩
  by_cases hj : i = j
  · subst hj
    by_cases hi : i < δ.length
    · rw [List.getElem?_set_self hi] at h
      cases h
      exact ⟨v, List.getElem?_set_self (by rw [← R.len]; exact hi), q⟩
    · rw [List.getElem?_eq_none (by simpa using hi)] at h; cases h
  · rw [List.getElem?_set_ne hj] at h
    obtain ⟨w, e1, q1⟩ := R.loc j e h
    exact ⟨w, by rw [List.getElem?_set_ne hj]; exact e1, q1⟩
/-- two store objects, a store object and a fresh address -/
theorem RSt.fresh (R : RSt K α S H) {p : Addr} (hp : H p = none) : p ∉ α := fun hm => by
  obtain ⟨β, h1, h2, nd, hb, ob⟩ := R
  obtain ⟨n, hn, e⟩ := List.getElem_of_mem hm
  have hs : n < S.length := by rw [← h1]; exact hn
  obtain ⟨a, b, ea, eb, mo⟩ := ob n S[n] (List.getElem?_eq_getElem hs)
  rw [List.getElem?_eq_getElem hn, e] at ea
  cases ea
  cases q : S[n] with
  | dead => rw [q] at mo; obtain ⟨⟨o, u, z⟩, _⟩ := mo; rw [hp] at z; cases z
  | lst ds => rw [q] at mo; obtain ⟨⟨vs, z, _⟩, _⟩ := mo; rw [hp] at z; cases z
  | law cs k ls => rw [q] at mo; obtain ⟨c, o, l, z, _⟩ := mo; rw [hp] at z; cases z
theorem RSt.lt (R : RSt K α S H) {n : Nat} {o : PL.MO} (e : S[n]? = some o) : n < α.length := by
  obtain ⟨β, h1, _⟩ := R
  rw [h1]; exact (List.getElem?_eq_some_iff.mp e).1
end
section
variable {K : PySem.W.Frag} {α : List Addr} {S : PL.Sto} {H H' : Hp}
theorem MOk.same {a : Addr} {b : List Addr} {o : PL.MO} (s : ∀ c u, H c = some u → H' c = some u) (h : MOk K α H a b o) : MOk K α H' a b o := by
  have x : Le H H' := fun c u e _ => s c u e
  cases o with
  | dead => obtain ⟨⟨o, u, e⟩, z⟩ := h; exact ⟨⟨o, u, s _ _ e⟩, z⟩
  | lst ds => obtain ⟨⟨vs, e, r⟩, p⟩ := h; exact ⟨⟨vs, s _ _ e, r.mono0 (List.prefix_refl _) x⟩, p⟩
  | law cs n ls => obtain ⟨c, o, l, e1, e2, e3, e4⟩ := h; exact ⟨c, o, l, s _ _ e1, FzL.le x e2, s _ _ e3, e4⟩
/-- nothing tracked has changed -/
theorem RSt.same (R : RSt K α S H) (s : ∀ c u, H c = some u → H' c = some u) : RSt K α S H' := by
  obtain ⟨β, h1, h2, nd, hb, ob⟩ := R
  refine ⟨β, h1, h2, nd, fun b hm => ?_, fun n o e => ?_⟩
  · cases q : H b with
    | none => exact absurd q (hb b hm)
    | some u => rw [s b u q]; exact fun z => by cases z
  · obtain ⟨a, b, e1, e2, m⟩ := ob n o e
    exact ⟨a, b, e1, e2, m.same s⟩
theorem RSt.new (R : RSt K α S H) {p : Addr} {o : HO} (hp : H p = none) : RSt K α S (upd H p o) := R.same fun c u e => by rw [upd_ne (ne_of_none e hp)]; exact e
/-- what pure lists hold does not hang on α -/
theorem MOk.any {α' : List Addr} {a : Addr} {b : List Addr} {o : PL.MO} (h : MOk K α H a b o) : MOk K α' H a b o := by
  cases o with
  | dead => exact h
  | lst ds => obtain ⟨⟨vs, e, r⟩, p⟩ := h; exact ⟨⟨vs, e, RDs.pure p.1 r⟩, p⟩
  | law cs n ls => exact h
/-- a new list into the store -/
theorem RSt.push (R : RSt K α S H) {p : Addr} {vs : List V} {ds : List PL.D} (hp : H p = none) (r : RDs K α H ds vs) (pu : PL.D.pures ds = true) : RSt K (α ++ [p]) (S ++ [.lst ds]) (upd H p (.lst vs)) := by
  have hf := R.fresh hp
  obtain ⟨β, h1, h2, nd, hb, ob⟩ := R
  have s : ∀ c u, H c = some u → upd H p (.lst vs) c = some u := fun c u e => by rw [upd_ne (ne_of_none e hp)]; exact e
  have hpb : p ∉ β.flatten := fun hm => hb p hm hp
  refine ⟨β ++ [[]], by simp [h1], by simp [h2], ?_, fun b hm => ?_, fun n o e => ?_⟩
  · have e : α ++ [p] ++ (β ++ [[]]).flatten = α ++ ([p] ++ β.flatten) := by simp
    rw [e]
    have q := List.nodup_append.mp nd
    refine List.nodup_append.mpr ⟨q.1, ?_, fun a ha b hb' => ?_⟩
    · rw [List.singleton_append]
      exact List.nodup_cons.mpr ⟨hpb, q.2.1⟩
    · rw [List.singleton_append] at hb'
      rcases List.mem_cons.mp hb' with z | z
      · rw [z]; exact fun w => hf (w ▸ ha)
      · exact q.2.2 a ha b z
  · have hm' : b ∈ β.flatten := by simpa using hm
    cases q : H b with
    | none => exact absurd q (hb b hm')
    | some u => rw [s b u q]; exact fun z => by cases z
  · by_cases hn : n < S.length
    · rw [List.getElem?_append_left hn] at e
      obtain ⟨a, b, e1, e2, m⟩ := ob n o e
      exact ⟨a, b, by rw [List.getElem?_append_left (by rw [h1]; exact hn)]; exact e1, by rw [List.getElem?_append_left (by rw [h2]; exact hn)]; exact e2, (m.same s).any⟩
    · rw [List.getElem?_append_right (Nat.le_of_not_lt hn)] at e
      have hz : n - S.length = 0 := by
        by_cases z : n - S.length = 0
        · exact z
        · rw [List.getElem?_eq_none (by simp; omega)] at e; cases e
      rw [hz] at e
      cases e
      have hn' : n = S.length := by omega
      subst hn'
      refine ⟨p, [], ?_, ?_, ⟨vs, upd_same, RDs.pure pu (r.mono0 (List.prefix_refl _) (Le.new hp))⟩, pu, rfl⟩
      · rw [← h1]; simp
      · rw [← h2]; simp
/-- where the n-th object is written (it was a list) -/
theorem RSt.put (R : RSt K α S H) {n : Nat} {a : Addr} {ds0 : List PL.D} {o : PL.MO} {u : HO} (hn : S[n]? = some (.lst ds0)) (ha : α[n]? = some a)
    (mo : MOk K α (upd H a u) a [] o) : RSt K α (S.set n o) (upd H a u) := by
  obtain ⟨β, h1, h2, nd, hb, ob⟩ := R
  have hlt : n < S.length := (List.getElem?_eq_some_iff.mp hn).1
  have q := List.nodup_append.mp nd
  have other : ∀ {m : Nat} {c : Addr}, m ≠ n → α[m]? = some c → c ≠ a := fun {m c} hm e z => by
    subst z
    obtain ⟨l1, e1⟩ := List.getElem?_eq_some_iff.mp e
    obtain ⟨l2, e2⟩ := List.getElem?_eq_some_iff.mp ha
    exact hm ((List.getElem_inj q.1).mp (e1.trans e2.symm))
  have own : ∀ c ∈ β.flatten, c ≠ a := fun c hc z => q.2.2 a (List.mem_of_getElem? ha) c hc z.symm
  have lw : Le H (upd H a u) := by
    obtain ⟨a', b', ea, eb, m⟩ := ob n _ hn
    rw [ha] at ea; cases ea
    obtain ⟨⟨vs, e, _⟩, _⟩ := m
    exact Le.put e (fun z => z)
  refine ⟨β, by simpa using h1, by simpa using h2, nd, fun b hm => ?_, fun m v e => ?_⟩
  · rw [upd_ne (own b hm)]; exact hb b hm
  · by_cases hm : n = m
    · subst hm
      rw [List.getElem?_set_self hlt] at e
      cases e
      obtain ⟨a', b', ea, eb, m⟩ := ob n _ hn
      rw [ha] at ea; cases ea
      obtain ⟨_, _, rfl⟩ := m
      exact ⟨a, [], ha, eb, mo⟩
    · rw [List.getElem?_set_ne hm] at e
      obtain ⟨c, b, e1, e2, m1⟩ := ob m v e
      have hca := other (Ne.symm hm) e1
      refine ⟨c, b, e1, e2, ?_⟩
      cases v with
      | dead => obtain ⟨⟨o', u', z⟩, z2⟩ := m1; exact ⟨⟨o', u', by rw [upd_ne hca]; exact z⟩, z2⟩
      | lst ds => obtain ⟨⟨vs, z, r⟩, p⟩ := m1; exact ⟨⟨vs, by rw [upd_ne hca]; exact z, r.mono0 (List.prefix_refl _) lw⟩, p⟩
      | law cs k ls =>
        obtain ⟨c1, o1, l1, z1, z2, z3, z4⟩ := m1
        subst z4
        have hl1 : l1 ≠ a := own l1 (List.mem_flatten.mpr ⟨[l1], List.mem_of_getElem? e2, List.mem_cons_self⟩)
        exact ⟨c1, o1, l1, by rw [upd_ne hca]; exact z1, FzL.le lw z2, by rw [upd_ne hl1]; exact z3, rfl⟩
theorem flat_take {α : Type} (k : Nat) (β : List (List α)) : (β.take k).flatten.Sublist β.flatten := by
  have e : β.flatten = (β.take k).flatten ++ (β.drop k).flatten := by rw [← List.flatten_append, List.take_append_drop]
  rw [e]; exact List.sublist_append_left _ _
/-- the store's last objects are forgotten -/
theorem RSt.take (R : RSt K α S H) (k : Nat) : RSt K (α.take k) (S.take k) H := by
  obtain ⟨β, h1, h2, nd, hb, ob⟩ := R
  refine ⟨β.take k, by simp [h1], by simp [h2], ?_, fun b hm => hb b ?_, fun n o e => ?_⟩
  · refine nd.sublist (List.Sublist.append (List.take_sublist _ _) ?_)
    exact flat_take k β
  · exact (flat_take k β).subset hm
  · by_cases hn : n < k
    · rw [List.getElem?_take_of_lt hn] at e
      obtain ⟨a, b, e1, e2, m⟩ := ob n o e
      exact ⟨a, b, by rw [List.getElem?_take_of_lt hn]; exact e1, by rw [List.getElem?_take_of_lt hn]; exact e2, m.any⟩
    · rw [List.getElem?_eq_none (by rw [List.length_take]; omega)] at e; cases e
theorem RSt.ne (R : RSt K α S H) : ∀ d ∈ α, H d ≠ none := fun d hd h => R.fresh h hd
theorem RSt.tr (R : RSt K α S H) {a : Addr} (h : Tr α H a) : H a ≠ none := by
  rcases h with h | ⟨d, hd, c, n, e⟩
  · exact R.ne a h
  · obtain ⟨β, h1, h2, nd, hb, ob⟩ := R
    obtain ⟨i, hi, ei⟩ := List.getElem_of_mem hd
    have hs : i < S.length := by rw [← h1]; exact hi
    obtain ⟨d', b, e1, e2, m⟩ := ob i S[i] (List.getElem?_eq_getElem hs)
    rw [List.getElem?_eq_getElem hi, ei] at e1
    cases e1
    cases q : S[i] with
    | dead => rw [q] at m; obtain ⟨⟨_, _, z⟩, _⟩ := m; rw [e] at z; cases z
    | lst ds => rw [q] at m; obtain ⟨⟨_, z, _⟩, _⟩ := m; rw [e] at z; cases z
    | law cs k ls =>
      rw [q] at m
      obtain ⟨c', o, l, z, _, z3, _⟩ := m
      rw [e] at z
      cases z
      rw [z3]
      exact fun z => by cases z
/-- an object that is not the store's is written -/
theorem RSt.off (R : RSt K α S H) {D : Addr} {u0 u : HO} (hD : H D = some u0) (n0 : ¬ Perm u0) (n : ¬ Tr α H D) : RSt K α S (upd H D u) := by
  have lw : Le H (upd H D u) := Le.put hD n0
  obtain ⟨β, h1, h2, nd, hb, ob⟩ := R
  refine ⟨β, h1, h2, nd, fun b hm => ?_, fun i o e => ?_⟩
  · by_cases q : b = D
    · subst q; rw [upd_same]; exact fun z => by cases z
    · rw [upd_ne q]; exact hb b hm
  · obtain ⟨a, b, e1, e2, m⟩ := ob i o e
    have ha : a ≠ D := fun z => n (.inl (z ▸ List.mem_of_getElem? e1))
    refine ⟨a, b, e1, e2, ?_⟩
    cases o with
    | dead => obtain ⟨⟨o', u', z⟩, z2⟩ := m; exact ⟨⟨o', u', by rw [upd_ne ha]; exact z⟩, z2⟩
    | lst ds => obtain ⟨⟨vs, z, r⟩, p⟩ := m; exact ⟨⟨vs, by rw [upd_ne ha]; exact z, r.mono0 (List.prefix_refl _) lw⟩, p⟩
    | law cs k ls =>
      obtain ⟨c1, o1, l1, z1, z2, z3, z4⟩ := m
      have hl : l1 ≠ D := fun z => n (.inr ⟨a, List.mem_of_getElem? e1, _, _, by rw [← z]; exact z1⟩)
      exact ⟨c1, o1, l1, by rw [upd_ne ha]; exact z1, FzL.le lw z2, by rw [upd_ne hl]; exact z3, z4⟩
theorem RSt.own (R : RSt K α S H) : ∃ β : List (List Addr), α.length = S.length ∧ β.length = S.length ∧ (α ++ β.flatten).Nodup ∧ (∀ b ∈ β.flatten, H b ≠ none) ∧ (∀ b ∈ β.flatten, Tr α H b) ∧
    ∀ (n : Nat) (o : PL.MO), S[n]? = some o → ∃ a b, α[n]? = some a ∧ β[n]? = some b ∧ MOk K α H a b o := by
  obtain ⟨β, h1, h2, nd, hb, ob⟩ := R
  refine ⟨β, h1, h2, nd, hb, fun b hm => ?_, ob⟩
  obtain ⟨bs, hbs, hbm⟩ := List.mem_flatten.mp hm
  obtain ⟨i, hi, ei⟩ := List.getElem_of_mem hbs
  have hs : i < S.length := by rw [← h2]; exact hi
  obtain ⟨a, b', e1, e2, m⟩ := ob i S[i] (List.getElem?_eq_getElem hs)
  rw [List.getElem?_eq_getElem hi, ei] at e2
  cases e2
  cases q : S[i] with
  | dead => rw [q] at m; obtain ⟨_, rfl⟩ := m; cases hbm
  | lst ds => rw [q] at m; obtain ⟨_, _, rfl⟩ := m; cases hbm
  | law cs k ls =>
    rw [q] at m
    obtain ⟨c', o, l, z, _, _, rfl⟩ := m
    rw [List.mem_singleton.mp hbm]
    exact .inr ⟨a, List.mem_of_getElem? e1, _, _, z⟩
/-- a list that is there becomes one of the store -/
theorem RSt.pushAt (R : RSt K α S H) {p : Addr} {vs : List V} {ds : List PL.D} (hp : H p = some (.lst vs)) (n : ¬ Tr α H p) (r : RDs K α H ds vs) (pu : PL.D.pures ds = true) : RSt K (α ++ [p]) (S ++ [.lst ds]) H := by
  have hf : p ∉ α := fun z => n (.inl z)
  obtain ⟨β, h1, h2, nd, hb, ht, ob⟩ := R.own
  have hpb : p ∉ β.flatten := fun hm => n (ht p hm)
  refine ⟨β ++ [[]], by simp [h1], by simp [h2], ?_, fun b hm => ?_, fun n o e => ?_⟩
  · have e : α ++ [p] ++ (β ++ [[]]).flatten = α ++ ([p] ++ β.flatten) := by simp
    rw [e]
    have q := List.nodup_append.mp nd
    refine List.nodup_append.mpr ⟨q.1, ?_, fun a ha b hb' => ?_⟩
    · rw [List.singleton_append]
      exact List.nodup_cons.mpr ⟨hpb, q.2.1⟩
    · rw [List.singleton_append] at hb'
      rcases List.mem_cons.mp hb' with z | z
      · rw [z]; exact fun w => hf (w ▸ ha)
      · exact q.2.2 a ha b z
  · exact hb b (by simpa using hm)
  · by_cases hn : n < S.length
    · rw [List.getElem?_append_left hn] at e
      obtain ⟨a, b, e1, e2, m⟩ := ob n o e
      exact ⟨a, b, by rw [List.getElem?_append_left (by rw [h1]; exact hn)]; exact e1, by rw [List.getElem?_append_left (by rw [h2]; exact hn)]; exact e2, m.any⟩
    · rw [List.getElem?_append_right (Nat.le_of_not_lt hn)] at e
      have hz : n - S.length = 0 := by
        by_cases z : n - S.length = 0
        · exact z
        · rw [List.getElem?_eq_none (by simp; omega)] at e; cases e
      rw [hz] at e
      cases e
      have hn' : n = S.length := by omega
      subst hn'
      refine ⟨p, [], ?_, ?_, ⟨vs, hp, RDs.pure pu r⟩, pu, rfl⟩
      · rw [← h1]; simp
      · rw [← h2]; simp
/-- the draws' state goes into the store -/
theorem RSt.pushLaw (R : RSt K α S H) {d l c : Addr} {o : Obj} {cells left : List Int} {n : Nat} (hd : H d = some (.dK [(.inr "cells", .ref c), (.inr "at", .int n), (.inr "left", .ref l)])) (hc : FzL K H c o (cells.map V.int)) (hl : H l = some (.lst (left.map V.int)))
    (nd : ¬ Tr α H d) (nl : ¬ Tr α H l) : RSt K (α ++ [d]) (S ++ [.law cells n left]) H := by
  obtain ⟨β, h1, h2, nod, hb, ht, ob⟩ := R.own
  have dl : d ≠ l := fun z => by rw [z, hl] at hd; cases hd
  refine ⟨β ++ [[l]], by simp [h1], by simp [h2], ?_, fun b hm => ?_, fun i o' e => ?_⟩
  · have e : α ++ [d] ++ (β ++ [[l]]).flatten = α ++ ([d] ++ (β.flatten ++ [l])) := by simp
    rw [e]
    have q := List.nodup_append.mp nod
    refine List.nodup_append.mpr ⟨q.1, ?_, fun a ha b hb' => ?_⟩
    · rw [List.singleton_append]
      refine List.nodup_cons.mpr ⟨fun z => ?_, List.nodup_append.mpr ⟨q.2.1, by simp, fun a ha b hb' => ?_⟩⟩
      · rcases List.mem_append.mp z with z | z
        · exact nd (ht d z)
        · exact dl (List.mem_singleton.mp z)
      · rw [List.mem_singleton.mp hb']
        exact fun z => nl (ht l (z ▸ ha))
    · rw [List.singleton_append] at hb'
      rcases List.mem_cons.mp hb' with z | z
      · rw [z]; exact fun w => nd (.inl (w ▸ ha))
      · rcases List.mem_append.mp z with z | z
        · exact q.2.2 a ha b z
        · rw [List.mem_singleton.mp z]; exact fun w => nl (.inl (w ▸ ha))
  · rw [List.flatten_append] at hm
    rcases List.mem_append.mp hm with z | z
    · exact hb b z
    · have : b = l := by simpa using z
      rw [this, hl]; exact fun z => by cases z
  · by_cases hn : i < S.length
    · rw [List.getElem?_append_left hn] at e
      obtain ⟨a, b, e1, e2, m⟩ := ob i o' e
      exact ⟨a, b, by rw [List.getElem?_append_left (by rw [h1]; exact hn)]; exact e1, by rw [List.getElem?_append_left (by rw [h2]; exact hn)]; exact e2, m.any⟩
    · rw [List.getElem?_append_right (Nat.le_of_not_lt hn)] at e
      have hz : i - S.length = 0 := by
        by_cases z : i - S.length = 0
        · exact z
        · rw [List.getElem?_eq_none (by simp; omega)] at e; cases e
      rw [hz] at e
      cases e
      have hn' : i = S.length := by omega
      subst hn'
      refine ⟨d, [l], ?_, ?_, c, o, l, hd, hc, hl, rfl⟩
      · rw [← h1]; simp
      · rw [← h2]; simp
/-- the draws' state at α's n-th place -/
theorem RSt.law (R : RSt K α S H) {n : Nat} {cells left : List Int} {k : Nat} (h : S[n]? = some (.law cells k left)) : ∃ d c o l, α[n]? = some d ∧ H d = some (.dK [(.inr "cells", .ref c), (.inr "at", .int k), (.inr "left", .ref l)]) ∧
    FzL K H c o (cells.map V.int) ∧ H l = some (.lst (left.map V.int)) ∧ d ∈ α ∧ Tr α H l := by
  obtain ⟨β, h1, h2, nd, hb, ob⟩ := R
  obtain ⟨d, b, e1, e2, c, o, l, z1, z2, z3, rfl⟩ := ob n _ h
  exact ⟨d, c, o, l, e1, z1, z2, z3, List.mem_of_getElem? e1, .inr ⟨d, List.mem_of_getElem? e1, _, _, z1⟩⟩
/-- the draws' state is written: its dict at d to another, its own list (the same one, or a new one) -/
theorem RSt.putLaw (R : RSt K α S H) {n : Nat} {cells left left' : List Int} {k k' : Nat} {d c l l' : Addr} {o : Obj} {H' : Hp} (h : S[n]? = some (.law cells k left)) (ha : α[n]? = some d) (hd : H d = some (.dK [(.inr "cells", .ref c), (.inr "at", .int k), (.inr "left", .ref l)]))
    (hc : FzL K H c o (cells.map V.int)) (hl0 : H l = some (.lst (left.map V.int))) (hl' : l' = l ∨ H l' = none)
    (hd' : H' d = some (.dK [(.inr "cells", .ref c), (.inr "at", .int k'), (.inr "left", .ref l')]))  (hl1 : H' l' = some (.lst (left'.map V.int)))
    (keep : ∀ a u, a ≠ d → a ≠ l → H a = some u → H' a = some u) (kl : H' l ≠ none) : RSt K α (S.set n (.law cells k' left')) H' ∧ Ext α H α H' := by
  have hdl : d ≠ l := fun z => by rw [z, hl0] at hd; cases hd
  have lw : Le H H' := fun a u e p => by
    by_cases q : a = d
    · subst q; rw [hd] at e; cases e; exact p.elim
    · by_cases q2 : a = l
      · subst q2; rw [hl0] at e; cases e; exact p.elim
      · exact keep a u q q2 e
  have some' : ∀ a, H a ≠ none → H' a ≠ none := fun a e => by
    by_cases q : a = d
    · subst q; rw [hd']; exact fun z => by cases z
    · by_cases q2 : a = l
      · subst q2; exact kl
      · cases e2 : H a with
        | none => exact absurd e2 e
        | some u => rw [keep a u q q2 e2]; exact fun z => by cases z
  have Trl : Tr α H l := .inr ⟨d, List.mem_of_getElem? ha, _, _, hd⟩
  have R0 := R
  obtain ⟨β, h1, h2, nd, hb, ht, ob⟩ := R.own
  have hlt : n < S.length := (List.getElem?_eq_some_iff.mp h).1
  have q := List.nodup_append.mp nd
  have hβ : β[n]? = some [l] := by
    obtain ⟨d0, b, e1, e2, c1, o1, l1, z1, z2, z3, rfl⟩ := ob n _ h
    rw [ha] at e1; cases e1
    rw [hd] at z1
    cases z1
    exact e2
  have hnβ : n < β.length := by rw [h2]; exact hlt
  have own : ∀ c ∈ β.flatten, c ≠ d := fun c hc z => q.2.2 d (List.mem_of_getElem? ha) c hc z.symm
  have other : ∀ {m : Nat} {c : Addr}, m ≠ n → α[m]? = some c → c ≠ d := fun {m c} hm e z => by
    subst z
    obtain ⟨l1, e1⟩ := List.getElem?_eq_some_iff.mp e
    obtain ⟨l2, e2⟩ := List.getElem?_eq_some_iff.mp ha
    exact hm ((List.getElem_inj q.1).mp (e1.trans e2.symm))
  -- the owned lists by their places
  have split : β = β.take n ++ [l] :: β.drop (n + 1) := by
    obtain ⟨w, e⟩ := List.getElem?_eq_some_iff.mp hβ
    have := List.take_append_drop n β
    rw [List.drop_eq_getElem_cons hnβ, e] at this
    exact this.symm
  have fl : β.flatten = (β.take n).flatten ++ (l :: (β.drop (n + 1)).flatten) := by
    conv => lhs; rw [split]
    simp
  have nd2 : ∀ x, x ∈ (β.take n).flatten ∨ x ∈ (β.drop (n + 1)).flatten → x ≠ l ∧ x ∈ β.flatten := fun x hx => by
    have q2 := q.2.1
    rw [fl] at q2
    have q3 := List.nodup_append.mp q2
    refine ⟨fun z => ?_, by rw [fl]; rcases hx with hx | hx <;> simp [hx]⟩
    subst z
    rcases hx with hx | hx
    · exact q3.2.2 _ hx _ List.mem_cons_self rfl
    · exact (List.nodup_cons.mp q3.2.1).1 hx
  have l'new : ∀ x, (x ∈ α ∨ (x ∈ β.flatten ∧ x ≠ l)) → x ≠ l' := fun x hx z => by
    rcases hl' with e | e
    · rw [e] at z
      rcases hx with hx | hx
      · exact q.2.2 x hx l (by rw [fl]; simp) z
      · exact hx.2 z
    · rcases hx with hx | hx
      · exact R0.ne x hx (z ▸ e)
      · exact hb x hx.1 (z ▸ e)
  refine ⟨⟨β.set n [l'], by simpa using h1, by simpa using h2, ?_, fun b hm => ?_, fun m v e => ?_⟩, ⟨List.prefix_refl _, lw, fun a h' => ?_, fun a u e nt => keep a u (fun z => nt (.inl (z ▸ List.mem_of_getElem? ha))) (fun z => nt (z ▸ Trl)) e, some'⟩⟩
  · have e : (β.set n [l']).flatten = (β.take n).flatten ++ (l' :: (β.drop (n + 1)).flatten) := by
      rw [List.set_eq_take_append_cons_drop, if_pos hnβ]; simp
    rw [e]
    have q2 := q.2.1
    rw [fl] at q2
    have q3 := List.nodup_append.mp q2
    have q4 := List.nodup_cons.mp q3.2.1
    refine List.nodup_append.mpr ⟨q.1, List.nodup_append.mpr ⟨q3.1, List.nodup_cons.mpr ⟨fun z => ?_, q4.2⟩, fun a ha' b hb' => ?_⟩, fun a ha' b hb' => ?_⟩
    · exact l'new l' (.inr ⟨(nd2 l' (.inr z)).2, (nd2 l' (.inr z)).1⟩) rfl
    · rcases List.mem_cons.mp hb' with z | z
      · rw [z]; exact l'new a (.inr ⟨(nd2 a (.inl ha')).2, (nd2 a (.inl ha')).1⟩)
      · exact q3.2.2 a ha' b (List.mem_cons_of_mem _ z)
    · rcases List.mem_append.mp hb' with z | z
      · exact q.2.2 a ha' b (nd2 b (.inl z)).2
      · rcases List.mem_cons.mp z with z | z
        · rw [z]; exact l'new a (.inl ha')
        · exact q.2.2 a ha' b (nd2 b (.inr z)).2
  · have hm' : b = l' ∨ b ∈ β.flatten := by
      rw [List.set_eq_take_append_cons_drop, if_pos hnβ] at hm
      have : b ∈ (β.take n).flatten ∨ b = l' ∨ b ∈ (β.drop (n + 1)).flatten := by simpa using hm
      rcases this with z | z | z
      · exact .inr (nd2 b (.inl z)).2
      · exact .inl z
      · exact .inr (nd2 b (.inr z)).2
    rcases hm' with z | z
    · rw [z, hl1]; exact fun z => by cases z
    · exact some' b (hb b z)
  · by_cases hm : n = m
    · subst hm
      rw [List.getElem?_set_self hlt] at e
      cases e
      exact ⟨d, [l'], ha, List.getElem?_set_self hnβ, c, o, l', hd', FzL.le lw hc, hl1, rfl⟩
    · rw [List.getElem?_set_ne hm] at e
      obtain ⟨a, b, e1, e2, m1⟩ := ob m v e
      have had := other (Ne.symm hm) e1
      have hal : a ≠ l := fun z => q.2.2 a (List.mem_of_getElem? e1) l (by rw [fl]; simp) z
      refine ⟨a, b, e1, by rw [List.getElem?_set_ne hm]; exact e2, ?_⟩
      cases v with
      | dead => obtain ⟨⟨o', u', z⟩, z2⟩ := m1; exact ⟨⟨o', u', keep _ _ had hal z⟩, z2⟩
      | lst ds => obtain ⟨⟨vs, z, r⟩, p⟩ := m1; exact ⟨⟨vs, keep _ _ had hal z, r.mono0 (List.prefix_refl _) lw⟩, p⟩
      | law cs k ls =>
        obtain ⟨c1, o1, l1, z1, z2, z3, z4⟩ := m1
        subst z4
        have e3 : l1 ∈ β.flatten := List.mem_flatten.mpr ⟨[l1], List.mem_of_getElem? e2, List.mem_cons_self⟩
        have hl1l : l1 ≠ l := fun z => by
          subst z
          have w : l1 ∈ (β.take n).flatten ∨ l1 ∈ (β.drop (n + 1)).flatten := by
            by_cases hmn : m < n
            · exact .inl (List.mem_flatten.mpr ⟨[l1], List.mem_of_getElem? (i := m) (by rw [List.getElem?_take_of_lt hmn]; exact e2), List.mem_cons_self⟩)
            · refine .inr (List.mem_flatten.mpr ⟨[l1], List.mem_of_getElem? (i := m - (n + 1)) ?_, List.mem_cons_self⟩)
              rw [List.getElem?_drop, show n + 1 + (m - (n + 1)) = m by omega]
              exact e2
          exact (nd2 l1 w).1 rfl
        exact ⟨c1, o1, l1, keep _ _ had hal z1, FzL.le lw z2, keep _ _ (own l1 e3) hl1l z3, rfl⟩
  · rcases h' with h' | ⟨d1, hd1, c1, n1, e⟩
    · exact .inl (.inl h')
    · by_cases q1 : d1 = d
      · subst q1
        rw [hd'] at e
        cases e
        rcases hl' with z | z
        · rw [z]; exact .inl Trl
        · exact .inr z
      · by_cases q2 : d1 = l
        · subst q2
          exact absurd (q.2.2 d1 hd1 d1 (by rw [fl]; simp)) (fun z => z rfl)
        · cases e2 : H d1 with
          | none => exact absurd e2 (R0.ne d1 hd1)
          | some u =>
            have := keep d1 u q1 q2 e2
            rw [e] at this
            cases this
            exact .inl (.inr ⟨d1, hd1, _, _, e2⟩)
/-- an object of the store is none of those ahead of it -/
theorem RSt.notTr (R : RSt K α S H) {n : Nat} {a : Addr} (h : α[n]? = some a) : ¬ Tr (α.take n) H a := by
  obtain ⟨β, h1, h2, nd, hb, ht, ob⟩ := R.own
  have q := List.nodup_append.mp nd
  rintro (z | ⟨d, hd, c, k, e⟩)
  · obtain ⟨i, hi, ei⟩ := List.getElem_of_mem z
    have hi' : i < n := by rw [List.length_take] at hi; omega
    have e1 : α[i]? = some a := by
      rw [← List.getElem?_take_of_lt hi', List.getElem?_eq_getElem hi, ei]
    obtain ⟨l1, e2⟩ := List.getElem?_eq_some_iff.mp e1
    obtain ⟨l2, e3⟩ := List.getElem?_eq_some_iff.mp h
    have := (List.getElem_inj q.1).mp (e2.trans e3.symm)
    omega
  · have hd' : d ∈ α := List.mem_of_mem_take hd
    obtain ⟨i, hi, ei⟩ := List.getElem_of_mem hd'
    have hs : i < S.length := by rw [← h1]; exact hi
    obtain ⟨d', b, e1, e2, m⟩ := ob i S[i] (List.getElem?_eq_getElem hs)
    rw [List.getElem?_eq_getElem hi, ei] at e1
    cases e1
    cases q' : S[i] with
    | dead => rw [q'] at m; obtain ⟨⟨_, _, z⟩, _⟩ := m; rw [e] at z; cases z
    | lst ds => rw [q'] at m; obtain ⟨⟨_, z, _⟩, _⟩ := m; rw [e] at z; cases z
    | law cs k ls =>
      rw [q'] at m
      obtain ⟨c', o, l, z, _, _, rfl⟩ := m
      rw [e] at z
      cases z
      exact q.2.2 a (List.mem_of_getElem? h) a (List.mem_flatten.mpr ⟨[a], List.mem_of_getElem? e2, List.mem_cons_self⟩) rfl
theorem RSt.lenα (R : RSt K α S H) : α.length = S.length := R.choose_spec.1
end
end BR

set_option Elab.async false
set_option linter.all false
set_option maxRecDepth 100000
set_option maxHeartbeats 2000000
/-! ## judgements -/
namespace BR
open PySem PySem.Spec PyProof.Rows L2

/-- the exceptions' classes (by their numbers): where they stand, their field's name -/
structure EX where
  ec : Nat → Addr
  ef : Nat → Str
def RX (G : EX) (K : PySem.W.Frag) (α : List Addr) (H : Hp) (cls : Value) (dd : Option Addr) (x : PL.Exn) : Prop :=
  cls = .ref (G.ec x.cls) ∧ ∃ d v, dd = some d ∧ H d = some (.xd [(G.ef x.cls, v)]) ∧ RD K α H x.val v
/-- an exception of the mirror is one that the context takes -/
def WE (G : EX) (X : Cx) (α : List Addr) (σ : L2.St) (H : Hp) (x : PL.Exn) (S : PL.Sto) : WX :=
  fun cls dd σ' H' => σ' = σ ∧ ∃ α', Ext α H α' H' ∧ RSt X.K α' S H' ∧ RX G X.K α' H' cls dd x
def TkE (G : EX) (X : Cx) (α : List Addr) (σ : L2.St) (H : Hp) : PL.RE → Prop
  | .ok _ _ => True
  | .ex x S => Takes X (WE G X α σ H x S)
def TkA (G : EX) (X : Cx) (α : List Addr) (σ : L2.St) (H : Hp) : PL.RA → Prop
  | .ok _ _ => True
  | .ex x S => Takes X (WE G X α σ H x S)
def TkT (G : EX) (X : Cx) (α : List Addr) (σ : L2.St) (H : Hp) : PL.RT → Prop
  | .ok _ _ => True
  | .ex x S => Takes X (WE G X α σ H x S)
def WS (G : EX) (X : Cx) (α : List Addr) (H : Hp) (x : PL.Exn) (δ : PL.Env) (S : PL.Sto) : WX :=
  fun cls dd σ' H' => ∃ α', Ext α H α' H' ∧ Rel X.K α' δ S σ' H' ∧ RX G X.K α' H' cls dd x
def TkS (G : EX) (X : Cx) (α : List Addr) (H : Hp) : PL.RS → Prop
  | .ex x δ S => Takes X (WS G X α H x δ S)
  | _ => True

def PoE (X : Cx) (pins : List (Addr × Obj)) (α : List Addr) (δ : PL.Env) (σ : L2.St) (H : Hp) (r : PL.RE) (u : Value) (s' : Shared) : Prop := match r with
  | .ok d S' => ∃ α' v H', Inv X pins σ H' s' ∧ RelV v u ∧ Ext α H α' H' ∧ Rel X.K α' δ S' σ H' ∧ RD X.K α' H' d v
  | .ex _ _ => False
def PoA (X : Cx) (pins : List (Addr × Obj)) (α : List Addr) (δ : PL.Env) (σ : L2.St) (H : Hp) (r : PL.RA) (us : List Value) (s' : Shared) : Prop := match r with
  | .ok ds S' => ∃ α' vs H', Inv X pins σ H' s' ∧ Vals vs us ∧ Ext α H α' H' ∧ Rel X.K α' δ S' σ H' ∧ RDs X.K α' H' ds vs
  | .ex _ _ => False
def PoT (X : Cx) (pins : List (Addr × Obj)) (α : List Addr) (δ : PL.Env) (σ : L2.St) (H : Hp) (r : PL.RT) (b : Bool) (s' : Shared) : Prop := match r with
  | .ok c S' => c = b ∧ ∃ α' H', Inv X pins σ H' s' ∧ Ext α H α' H' ∧ Rel X.K α' δ S' σ H'
  | .ex _ _ => False
def PoS (X : Cx) (pins : List (Addr × Obj)) (α : List Addr) (H : Hp) (r : PL.RS) (f : Flow) (s' : Shared) : Prop := match r with
  | .nx δ' S' => f = .next ∧ ∃ α' σ' H', Inv X pins σ' H' s' ∧ Ext α H α' H' ∧ Rel X.K α' δ' S' σ' H'
  | .bk δ' S' => f = .brk ∧ ∃ α' σ' H', Inv X pins σ' H' s' ∧ Ext α H α' H' ∧ Rel X.K α' δ' S' σ' H'
  | .ct δ' S' => f = .cont ∧ ∃ α' σ' H', Inv X pins σ' H' s' ∧ Ext α H α' H' ∧ Rel X.K α' δ' S' σ' H'
  | .rt d S' => ∃ u, f = .ret u ∧ ∃ α' σ' H' v, Inv X pins σ' H' s' ∧ RelV v u ∧ Ext α H α' H' ∧ RSt X.K α' S' H' ∧ RD X.K α' H' d v
  | .ex _ _ _ => False

/-- an expression, an argument list, a test, a statement, a block: what the mirror gives is what the program does -/
structure CE (G : EX) (X : Cx) (e : Expr) (m : PL.ME) : Prop where
  run : ∀ δ S r, m δ S = some r → ∀ α pins s σ H, Inv X pins σ H s → Rel X.K α δ S σ H → TkE G X α σ H r →
    wpAny (model X.prog X.w) X.A (eval e X.env) (PoE X pins α δ σ H r) X.xe s
structure CA (G : EX) (X : Cx) (es : List Expr) (m : PL.MA) : Prop where
  run : ∀ (pos : Pos) δ S r, m δ S = some r → ∀ α pins s σ H, Inv X pins σ H s → Rel X.K α δ S σ H → TkA G X α σ H r →
    wpAny (model X.prog X.w) X.A (spliced (backTo pos (starEach es X.env))) (PoA X pins α δ σ H r) X.xe s
structure CT (G : EX) (X : Cx) (e : Expr) (m : PL.MT) : Prop where
  run : ∀ δ S r, m δ S = some r → ∀ α pins s σ H, Inv X pins σ H s → Rel X.K α δ S σ H → TkT G X α σ H r →
    wpAny (model X.prog X.w) X.A (isTrue e X.env (eval e X.env)) (PoT X pins α δ σ H r) X.xe s
/-- a test whatever its 'whole' is (and, or) -/
structure CW (G : EX) (X : Cx) (e : Expr) (m : PL.MT) : Prop where
  run : ∀ (whole : Sem Value) δ S r, m δ S = some r → ∀ α pins s σ H, Inv X pins σ H s → Rel X.K α δ S σ H → TkT G X α σ H r →
    wpAny (model X.prog X.w) X.A (isTrue e X.env whole) (PoT X pins α δ σ H r) X.xe s
structure CS (G : EX) (X : Cx) (st : Stmt) (m : PL.MS) : Prop where
  run : ∀ δ S r, m δ S = some r → ∀ α pins s σ H, Inv X pins σ H s → Rel X.K α δ S σ H → TkS G X α H r →
    wpAny (model X.prog X.w) X.A (exec st X.env) (PoS X pins α H r) X.xe s
structure CSs (G : EX) (X : Cx) (st : List Stmt) (m : PL.MS) : Prop where
  run : ∀ δ S r, m δ S = some r → ∀ α pins s σ H, Inv X pins σ H s → Rel X.K α δ S σ H → TkS G X α H r →
    wpAny (model X.prog X.w) X.A (execs st X.env) (PoS X pins α H r) X.xe s

section
variable {G : EX} {X : Cx} {α α' : List Addr} {δ : PL.Env} {S : PL.Sto} {σ : L2.St} {H H' : Hp} {pins : List (Addr × Obj)} {s : Shared}
theorem WE.ext {x : PL.Exn} {cls : Value} {d : Option Addr} {σ' : L2.St} {H1 : Hp} (e : Ext α H α' H') (w : WE G X α' σ H' x S cls d σ' H1) : WE G X α σ H x S cls d σ' H1 := by
  obtain ⟨e1, a, e2, r⟩ := w
  exact ⟨e1, a, e.trans e2, r⟩
theorem TkE.ext {r : PL.RE} (t : TkE G X α σ H r) (e : Ext α H α' H') : TkE G X α' σ H' r := by
  cases r with
  | ok d S => trivial
  | ex x S => exact Takes.imp t fun c d σ' H1 w => WE.ext e w
theorem TkA.ext {r : PL.RA} (t : TkA G X α σ H r) (e : Ext α H α' H') : TkA G X α' σ H' r := by
  cases r with
  | ok d S => trivial
  | ex x S => exact Takes.imp t fun c d σ' H1 w => WE.ext e w
theorem TkT.ext {r : PL.RT} (t : TkT G X α σ H r) (e : Ext α H α' H') : TkT G X α' σ H' r := by
  cases r with
  | ok d S => trivial
  | ex x S => exact Takes.imp t fun c d σ' H1 w => WE.ext e w
theorem TkS.ext {r : PL.RS} (t : TkS G X α H r) (e : Ext α H α' H') : TkS G X α' H' r := by
  cases r with
  | ex x δ S => exact Takes.imp t fun c d σ' H1 ⟨a, e2, q⟩ => ⟨a, e.trans e2, q⟩
  | _ => trivial
theorem PoE.ext {r : PL.RE} {u : Value} {s' : Shared} (h : PoE X pins α' δ σ H' r u s') (e : Ext α H α' H') : PoE X pins α δ σ H r u s' := by
  cases r with
  | ok d S => obtain ⟨a, v, H1, I, rv, x, q⟩ := h; exact ⟨a, v, H1, I, rv, e.trans x, q⟩
  | ex x S => exact h
theorem PoA.ext {r : PL.RA} {u : List Value} {s' : Shared} (h : PoA X pins α' δ σ H' r u s') (e : Ext α H α' H') : PoA X pins α δ σ H r u s' := by
  cases r with
  | ok d S => obtain ⟨a, v, H1, I, rv, x, q⟩ := h; exact ⟨a, v, H1, I, rv, e.trans x, q⟩
  | ex x S => exact h
theorem PoT.ext {r : PL.RT} {u : Bool} {s' : Shared} (h : PoT X pins α' δ σ H' r u s') (e : Ext α H α' H') : PoT X pins α δ σ H r u s' := by
  cases r with
  | ok d S => obtain ⟨b, a, H1, I, x, q⟩ := h; exact ⟨b, a, H1, I, e.trans x, q⟩
  | ex x S => exact h
theorem PoS.ext {r : PL.RS} {f : Flow} {s' : Shared} (h : PoS X pins α' H' r f s') (e : Ext α H α' H') : PoS X pins α H r f s' := by
  cases r with
  | nx δ S => obtain ⟨b, a, σ1, H1, I, x, q⟩ := h; exact ⟨b, a, σ1, H1, I, e.trans x, q⟩
  | bk δ S => obtain ⟨b, a, σ1, H1, I, x, q⟩ := h; exact ⟨b, a, σ1, H1, I, e.trans x, q⟩
  | ct δ S => obtain ⟨b, a, σ1, H1, I, x, q⟩ := h; exact ⟨b, a, σ1, H1, I, e.trans x, q⟩
  | rt d S => obtain ⟨u, b, a, σ1, H1, v, I, rv, x, q⟩ := h; exact ⟨u, b, a, σ1, H1, v, I, rv, e.trans x, q⟩
  | ex x δ S => exact h
/-- a statement's wish from an expression's -/
theorem TkS.ofE {x : PL.Exn} {S' : PL.Sto} (R : Rel X.K α δ S σ H) (t : TkS G X α H (.ex x δ S')) : TkE G X α σ H (.ex x S') := Takes.imp t fun c d σ' H1 ⟨e1, a, e2, r, q⟩ => by
  subst e1
  exact ⟨a, e2, R.mono e2 r, q⟩

/-! ### composition -/
variable {e : Expr} {m : PL.ME}
theorem CE.step (h : CE G X e m) (I : Inv X pins σ H s) (R : Rel X.K α δ S σ H) {Q : Value → Shared → Prop}
    (no : m δ S ≠ none) (tk : ∀ x S1, m δ S = some (.ex x S1) → Takes X (WE G X α σ H x S1))
    (q : ∀ d S1, m δ S = some (.ok d S1) → ∀ α1 v H1 u s1, Inv X pins σ H1 s1 → RelV v u → Ext α H α1 H1 → Rel X.K α1 δ S1 σ H1 → RD X.K α1 H1 d v → Q u s1) :
    wpAny (model X.prog X.w) X.A (eval e X.env) Q X.xe s := by
  cases c : m δ S with
  | none => exact absurd c no
  | some r =>
    cases r with
    | ok d S1 =>
      refine thn (h.run δ S _ c α pins s σ H I R trivial) fun u s1 hu => ?_
      obtain ⟨α1, v, H1, I1, rv, x, R1, rd⟩ := hu
      exact q d S1 c α1 v H1 u s1 I1 rv x R1 rd
    | ex x S1 => exact thn (h.run δ S _ c α pins s σ H I R (tk x S1 c)) fun u s1 hu => hu.elim
theorem bE_inv {o : Option PL.RE} {k : PL.D → PL.Sto → Option PL.RE} {r : PL.RE} (h : PL.bE o k = some r) : (∃ d S1, o = some (.ok d S1) ∧ k d S1 = some r) ∨ ∃ x S1, o = some (.ex x S1) ∧ r = .ex x S1 := by
  cases o with
  | none => cases h
  | some q => cases q with
    | ok d S1 => exact .inl ⟨d, S1, rfl, h⟩
    | ex x S1 => cases h; exact .inr ⟨x, S1, rfl, rfl⟩
/-- an expression, then what an expression goes on with -/
theorem CE.then (h : CE G X e m) (I : Inv X pins σ H s) (R : Rel X.K α δ S σ H) {k : PL.D → PL.Sto → Option PL.RE} {r : PL.RE} (hk : PL.bE (m δ S) k = some r) (tk : TkE G X α σ H r) {Q : Value → Shared → Prop}
    (q : ∀ d S1, k d S1 = some r → ∀ α1 v H1 u s1, Inv X pins σ H1 s1 → RelV v u → Ext α H α1 H1 → Rel X.K α1 δ S1 σ H1 → RD X.K α1 H1 d v → TkE G X α1 σ H1 r → Q u s1) :
    wpAny (model X.prog X.w) X.A (eval e X.env) Q X.xe s := by
  refine h.step I R (fun z => by rw [z] at hk; cases hk) (fun x S1 c => ?_) (fun d S1 c α1 v H1 u s1 I1 rv x R1 rd => ?_)
  · rw [c] at hk; cases hk; exact tk
  · rw [c] at hk
    exact q d S1 hk α1 v H1 u s1 I1 rv x R1 rd (tk.ext x)
theorem CE.thenT (h : CE G X e m) (I : Inv X pins σ H s) (R : Rel X.K α δ S σ H) {k : PL.D → PL.Sto → Option PL.RT} {r : PL.RT} (hk : PL.bET (m δ S) k = some r) (tk : TkT G X α σ H r) {Q : Value → Shared → Prop}
    (q : ∀ d S1, k d S1 = some r → ∀ α1 v H1 u s1, Inv X pins σ H1 s1 → RelV v u → Ext α H α1 H1 → Rel X.K α1 δ S1 σ H1 → RD X.K α1 H1 d v → TkT G X α1 σ H1 r → Q u s1) :
    wpAny (model X.prog X.w) X.A (eval e X.env) Q X.xe s := by
  refine h.step I R (fun z => by rw [z] at hk; cases hk) (fun x S1 c => ?_) (fun d S1 c α1 v H1 u s1 I1 rv x R1 rd => ?_)
  · rw [c] at hk; cases hk; exact tk
  · rw [c] at hk
    exact q d S1 hk α1 v H1 u s1 I1 rv x R1 rd (tk.ext x)
theorem CE.thenA (h : CE G X e m) (I : Inv X pins σ H s) (R : Rel X.K α δ S σ H) {k : PL.D → PL.Sto → Option PL.RA} {r : PL.RA} (hk : PL.bEA (m δ S) k = some r) (tk : TkA G X α σ H r) {Q : Value → Shared → Prop}
    (q : ∀ d S1, k d S1 = some r → ∀ α1 v H1 u s1, Inv X pins σ H1 s1 → RelV v u → Ext α H α1 H1 → Rel X.K α1 δ S1 σ H1 → RD X.K α1 H1 d v → TkA G X α1 σ H1 r → Q u s1) :
    wpAny (model X.prog X.w) X.A (eval e X.env) Q X.xe s := by
  refine h.step I R (fun z => by rw [z] at hk; cases hk) (fun x S1 c => ?_) (fun d S1 c α1 v H1 u s1 I1 rv x R1 rd => ?_)
  · rw [c] at hk; cases hk; exact tk
  · rw [c] at hk
    exact q d S1 hk α1 v H1 u s1 I1 rv x R1 rd (tk.ext x)
theorem CE.thenS (h : CE G X e m) (I : Inv X pins σ H s) (R : Rel X.K α δ S σ H) {k : PL.D → PL.Sto → Option PL.RS} {r : PL.RS} (hk : PL.bES δ (m δ S) k = some r) (tk : TkS G X α H r) {Q : Value → Shared → Prop}
    (q : ∀ d S1, k d S1 = some r → ∀ α1 v H1 u s1, Inv X pins σ H1 s1 → RelV v u → Ext α H α1 H1 → Rel X.K α1 δ S1 σ H1 → RD X.K α1 H1 d v → TkS G X α1 H1 r → Q u s1) :
    wpAny (model X.prog X.w) X.A (eval e X.env) Q X.xe s := by
  refine h.step I R (fun z => by rw [z] at hk; cases hk) (fun x S1 c => ?_) (fun d S1 c α1 v H1 u s1 I1 rv x R1 rd => ?_)
  · rw [c] at hk; cases hk; exact TkS.ofE R tk
  · rw [c] at hk
    exact q d S1 hk α1 v H1 u s1 I1 rv x R1 rd (tk.ext x)
variable {es : List Expr} {ma : PL.MA}
theorem CA.step (h : CA G X es ma) (pos : Pos) (I : Inv X pins σ H s) (R : Rel X.K α δ S σ H) {Q : List Value → Shared → Prop}
    (no : ma δ S ≠ none) (tk : ∀ x S1, ma δ S = some (.ex x S1) → Takes X (WE G X α σ H x S1))
    (q : ∀ ds S1, ma δ S = some (.ok ds S1) → ∀ α1 vs H1 us s1, Inv X pins σ H1 s1 → Vals vs us → Ext α H α1 H1 → Rel X.K α1 δ S1 σ H1 → RDs X.K α1 H1 ds vs → Q us s1) :
    wpAny (model X.prog X.w) X.A (spliced (backTo pos (starEach es X.env))) Q X.xe s := by
  cases c : ma δ S with
  | none => exact absurd c no
  | some r =>
    cases r with
    | ok d S1 =>
      refine thn (h.run pos δ S _ c α pins s σ H I R trivial) fun u s1 hu => ?_
      obtain ⟨α1, v, H1, I1, rv, x, R1, rd⟩ := hu
      exact q d S1 c α1 v H1 u s1 I1 rv x R1 rd
    | ex x S1 => exact thn (h.run pos δ S _ c α pins s σ H I R (tk x S1 c)) fun u s1 hu => hu.elim
theorem CA.then (h : CA G X es ma) (pos : Pos) (I : Inv X pins σ H s) (R : Rel X.K α δ S σ H) {k : List PL.D → PL.Sto → Option PL.RE} {r : PL.RE} (hk : PL.bA (ma δ S) k = some r) (tk : TkE G X α σ H r) {Q : List Value → Shared → Prop}
    (q : ∀ d S1, k d S1 = some r → ∀ α1 v H1 u s1, Inv X pins σ H1 s1 → Vals v u → Ext α H α1 H1 → Rel X.K α1 δ S1 σ H1 → RDs X.K α1 H1 d v → TkE G X α1 σ H1 r → Q u s1) :
    wpAny (model X.prog X.w) X.A (spliced (backTo pos (starEach es X.env))) Q X.xe s := by
  refine h.step pos I R (fun z => by rw [z] at hk; cases hk) (fun x S1 c => ?_) (fun d S1 c α1 v H1 u s1 I1 rv x R1 rd => ?_)
  · rw [c] at hk; cases hk; exact tk
  · rw [c] at hk
    exact q d S1 hk α1 v H1 u s1 I1 rv x R1 rd (tk.ext x)
theorem CA.thenA (h : CA G X es ma) (pos : Pos) (I : Inv X pins σ H s) (R : Rel X.K α δ S σ H) {k : List PL.D → PL.Sto → Option PL.RA} {r : PL.RA} (hk : PL.bAA (ma δ S) k = some r) (tk : TkA G X α σ H r) {Q : List Value → Shared → Prop}
    (q : ∀ d S1, k d S1 = some r → ∀ α1 v H1 u s1, Inv X pins σ H1 s1 → Vals v u → Ext α H α1 H1 → Rel X.K α1 δ S1 σ H1 → RDs X.K α1 H1 d v → TkA G X α1 σ H1 r → Q u s1) :
    wpAny (model X.prog X.w) X.A (spliced (backTo pos (starEach es X.env))) Q X.xe s := by
  refine h.step pos I R (fun z => by rw [z] at hk; cases hk) (fun x S1 c => ?_) (fun d S1 c α1 v H1 u s1 I1 rv x R1 rd => ?_)
  · rw [c] at hk; cases hk; exact tk
  · rw [c] at hk
    exact q d S1 hk α1 v H1 u s1 I1 rv x R1 rd (tk.ext x)
variable {mt : PL.MT}
theorem CT.step (h : CT G X e mt) (I : Inv X pins σ H s) (R : Rel X.K α δ S σ H) {Q : Bool → Shared → Prop}
    (no : mt δ S ≠ none) (tk : ∀ x S1, mt δ S = some (.ex x S1) → Takes X (WE G X α σ H x S1))
    (q : ∀ b S1, mt δ S = some (.ok b S1) → ∀ α1 H1 s1, Inv X pins σ H1 s1 → Ext α H α1 H1 → Rel X.K α1 δ S1 σ H1 → Q b s1) :
    wpAny (model X.prog X.w) X.A (isTrue e X.env (eval e X.env)) Q X.xe s := by
  cases c : mt δ S with
  | none => exact absurd c no
  | some r =>
    cases r with
    | ok d S1 =>
      refine thn (h.run δ S _ c α pins s σ H I R trivial) fun u s1 hu => ?_
      obtain ⟨eb, α1, H1, I1, x, R1⟩ := hu
      subst eb
      exact q d S1 c α1 H1 s1 I1 x R1
    | ex x S1 => exact thn (h.run δ S _ c α pins s σ H I R (tk x S1 c)) fun u s1 hu => hu.elim
theorem CT.then (h : CT G X e mt) (I : Inv X pins σ H s) (R : Rel X.K α δ S σ H) {k : Bool → PL.Sto → Option PL.RE} {r : PL.RE} (hk : PL.bT (mt δ S) k = some r) (tk : TkE G X α σ H r) {Q : Bool → Shared → Prop}
    (q : ∀ b S1, k b S1 = some r → ∀ α1 H1 s1, Inv X pins σ H1 s1 → Ext α H α1 H1 → Rel X.K α1 δ S1 σ H1 → TkE G X α1 σ H1 r → Q b s1) :
    wpAny (model X.prog X.w) X.A (isTrue e X.env (eval e X.env)) Q X.xe s := by
  refine h.step I R (fun z => by rw [z] at hk; cases hk) (fun x S1 c => ?_) (fun d S1 c α1 H1 s1 I1 x R1 => ?_)
  · rw [c] at hk; cases hk; exact tk
  · rw [c] at hk
    exact q d S1 hk α1 H1 s1 I1 x R1 (tk.ext x)
theorem CT.thenT (h : CT G X e mt) (I : Inv X pins σ H s) (R : Rel X.K α δ S σ H) {k : Bool → PL.Sto → Option PL.RT} {r : PL.RT} (hk : PL.bTT (mt δ S) k = some r) (tk : TkT G X α σ H r) {Q : Bool → Shared → Prop}
    (q : ∀ b S1, k b S1 = some r → ∀ α1 H1 s1, Inv X pins σ H1 s1 → Ext α H α1 H1 → Rel X.K α1 δ S1 σ H1 → TkT G X α1 σ H1 r → Q b s1) :
    wpAny (model X.prog X.w) X.A (isTrue e X.env (eval e X.env)) Q X.xe s := by
  refine h.step I R (fun z => by rw [z] at hk; cases hk) (fun x S1 c => ?_) (fun d S1 c α1 H1 s1 I1 x R1 => ?_)
  · rw [c] at hk; cases hk; exact tk
  · rw [c] at hk
    exact q d S1 hk α1 H1 s1 I1 x R1 (tk.ext x)
theorem CT.thenS (h : CT G X e mt) (I : Inv X pins σ H s) (R : Rel X.K α δ S σ H) {k : Bool → PL.Sto → Option PL.RS} {r : PL.RS} (hk : PL.bTS δ (mt δ S) k = some r) (tk : TkS G X α H r) {Q : Bool → Shared → Prop}
    (q : ∀ b S1, k b S1 = some r → ∀ α1 H1 s1, Inv X pins σ H1 s1 → Ext α H α1 H1 → Rel X.K α1 δ S1 σ H1 → TkS G X α1 H1 r → Q b s1) :
    wpAny (model X.prog X.w) X.A (isTrue e X.env (eval e X.env)) Q X.xe s := by
  refine h.step I R (fun z => by rw [z] at hk; cases hk) (fun x S1 c => ?_) (fun d S1 c α1 H1 s1 I1 x R1 => ?_)
  · rw [c] at hk; cases hk; exact TkS.ofE R tk
  · rw [c] at hk
    exact q d S1 hk α1 H1 s1 I1 x R1 (tk.ext x)
end
end BR

set_option Elab.async false
set_option linter.all false
set_option maxRecDepth 100000
set_option maxHeartbeats 2000000
/-! ## expressions -/
namespace BR
open PySem PySem.Spec PyProof.Rows L2
theorem line_eq : PL.LINE = sizeLine := by decide
section
variable {G : EX} {X : Cx} {α α' : List Addr} {δ : PL.Env} {S : PL.Sto} {σ : L2.St} {H H' : Hp} {pins : List (Addr × Obj)} {s : Shared}
variable {a b c e : Expr} {ma mb mc m : PL.ME} {pos : Pos}

/-! ### ends -/
theorem PoE.mk {d : PL.D} {v : V} {u : Value} {s' : Shared} (I : Inv X pins σ H' s') (rv : RelV v u) (x : Ext α H α' H') (R : Rel X.K α' δ S σ H') (q : RD X.K α' H' d v) : PoE X pins α δ σ H (.ok d S) u s' := ⟨α', v, H', I, rv, x, R, q⟩
/-- the heap as it was -/
theorem PoE.here {d : PL.D} {v : V} {u : Value} {s' : Shared} (I : Inv X pins σ H s') (rv : RelV v u) (R : Rel X.K α δ S σ H) (q : RD X.K α H d v) : PoE X pins α δ σ H (.ok d S) u s' := ⟨α, v, H, I, rv, Ext.refl _ _, R, q⟩
/-- a new tuple at p -/
theorem PoE.tup {p : Addr} {vs : List V} {ds : List PL.D} {s' : Shared} (I : Inv X pins σ (upd H p (.tup vs)) s') (hp : H p = none) (R : Rel X.K α δ S σ H) (q : RDs X.K α H ds vs) : PoE X pins α δ σ H (.ok (.tup ds) S) (.ref p) s' := by
  have x : Ext α H α (upd H p (.tup vs)) := Ext.new hp trivial
  refine ⟨α, .ref p, _, I, rfl, x, R.mono x (R.st.new hp), ?_⟩
  simp only [RD]
  exact ⟨p, vs, rfl, SqT.of upd_same, q.mono x⟩
/-- a new list at p that nobody will change -/
theorem PoE.lst {p : Addr} {vs : List V} {ds : List PL.D} {s' : Shared} (I : Inv X pins σ (upd H p (.lst vs)) s') (hp : H p = none) (R : Rel X.K α δ S σ H) (q : RDs X.K α H ds vs) : PoE X pins α δ σ H (.ok (.lst ds) S) (.ref p) s' := by
  obtain ⟨od, I2⟩ := I.lock upd_same trivial
  rw [upd_upd] at I2
  have x : Ext α H α (upd H p (.frz od (.lst vs))) := Ext.new hp trivial
  refine ⟨α, .ref p, _, I2, rfl, x, R.mono x (R.st.new hp), ?_⟩
  simp only [RD]
  exact ⟨p, od, vs, rfl, .inl upd_same, q.mono x⟩
/-- a new list at p, into the store -/
theorem PoE.new {p : Addr} {vs : List V} {ds : List PL.D} {s' : Shared} (I : Inv X pins σ (upd H p (.lst vs)) s') (hp : H p = none) (R : Rel X.K α δ S σ H) (q : RDs X.K α H ds vs) (pu : PL.D.pures ds = true) :
    PoE X pins α δ σ H (.ok (.ref S.length) (S ++ [.lst ds])) (.ref p) s' := by
  have x : Ext α H (α ++ [p]) (upd H p (.lst vs)) := Ext.pushN hp trivial
  refine ⟨α ++ [p], .ref p, _, I, rfl, x, R.mono x (R.st.push hp q pu), ?_⟩
  simp only [RD]
  refine ⟨p, ?_, rfl⟩
  rw [← R.st.lenα]; simp

/-- from a reading of HandS that raises nothing -/
def PoV (K : PySem.W.Frag) (α : List Addr) (δ : PL.Env) (σ : L2.St) (H : Hp) (r : PL.RE) (v : V) (H' : Hp) : Prop := match r with
  | .ok d S' => ∃ α', Ext α H α' H' ∧ Rel K α' δ S' σ H' ∧ RD K α' H' d v
  | .ex _ _ => False
theorem PoE.ofV {r : PL.RE} {u : Value} {s' : Shared} (h : EP X pins σ (PoV X.K α δ σ H r) u s') : PoE X pins α δ σ H r u s' := by
  obtain ⟨v, H', I, rv, q⟩ := h
  cases r with
  | ok d S' => obtain ⟨α', x, R, rd⟩ := q; exact ⟨α', v, H', I, rv, x, R, rd⟩
  | ex x S' => exact q
theorem CE.of {t : TE} (h : PE X e t) (q : ∀ δ S r, m δ S = some r → ∀ α σ H, Rel X.K α δ S σ H → t σ H (PoV X.K α δ σ H r)) : CE G X e m :=
  ⟨fun δ S r hm α pins s σ H I R tk => thn (h.run pins s σ H _ I (q δ S r hm α σ H R)) fun u s' hu => PoE.ofV hu⟩
theorem PoV.here {d : PL.D} {v : V} (R : Rel X.K α δ S σ H) (q : RD X.K α H d v) : PoV X.K α δ σ H (.ok d S) v H := ⟨α, Ext.refl _ _, R, q⟩

/-! ### names, constants -/
theorem c_var (i : Nat) {x : Str} (hN : X.N[i]? = some x := by rfl) (hv : Vis X.env.scope x := by first | exact Or.inl rfl | exact Or.inr (Or.inl rfl) | exact Or.inr (Or.inr rfl)) (hd : (x == ("__debug__" : Str)) = false := by decide)
    (hcd : (x == ("__classdict__" : Str)) = false := by decide) : CE G X (.Name x pos) (PL.mVar i) :=
  CE.of (pe_var hN hv hd hcd) fun δ S r hm α σ H R => by
    unfold PL.mVar at hm
    split at hm
    · rename_i d e
      cases hm
      obtain ⟨v, e1, q⟩ := R.loc i d e
      exact ⟨v, e1, PoV.here R q⟩
    · cases hm
theorem c_const {t : V} {d : PL.D} (h : PE X e (tC t)) (q : ∀ K α H, RD K α H d t) : CE G X e (PL.mC d) :=
  CE.of h fun δ S r hm α σ H R => by
    cases hm
    exact PoV.here R (q _ _ _)
theorem c_int {i j} : CE G X (.Constant (.int i) j pos) (PL.mC (.int i)) := c_const pe_int fun _ _ _ => by simp [RD]
theorem c_bl {i j} : CE G X (.Constant (.bool i) j pos) (PL.mC (.bl i)) := c_const pe_bl fun _ _ _ => by simp [RD]
theorem c_non {j} : CE G X (.Constant .none j pos) (PL.mC .non) := c_const pe_non fun _ _ _ => by simp [RD]
theorem c_str {x : Str} {l : List Nat} {j} (h : x.cps.toList = l := by first | rfl | decide +kernel) : CE G X (.Constant (.str x) j pos) (PL.mC (.str l)) := c_const pe_str fun _ _ _ => by simp only [RD]; exact ⟨x, rfl, h⟩
/-- a module's constant: an int -/
theorem c_globI {x : Str} {i : Int} {t : Tok} (hm : X.mg x = some (.int i t)) (hg : Gl X x := by rfl) (hd : (x == ("__debug__" : Str)) = false := by decide) : CE G X (.Name x pos) (PL.mC (.int i)) :=
  c_const (t := .int i) (pe_glob hg hm ⟨t, rfl⟩ hd) fun _ _ _ => by simp [RD]

/-! ### operators -/
/-- a two-place operation on values, as the mirror has it -/
def OpD (X : Cx) (g : Value → Value → Sem Value) (f : PL.D → PL.D → Option PL.D) : Prop :=
  ∀ x y z, f x y = some z → ∀ α δ S pins s σ H v w u1 u2, Inv X pins σ H s → Rel X.K α δ S σ H → RD X.K α H x v → RD X.K α H y w → RelV v u1 → RelV w u2 →
    wpAny (model X.prog X.w) X.A (g u1 u2) (PoE X pins α δ σ H (.ok z S)) X.xe s
def UnD (X : Cx) (g : Value → Sem Value) (f : PL.D → Option PL.D) : Prop :=
  ∀ x z, f x = some z → ∀ α δ S pins s σ H v u, Inv X pins σ H s → Rel X.K α δ S σ H → RD X.K α H x v → RelV v u →
    wpAny (model X.prog X.w) X.A (g u) (PoE X pins α δ σ H (.ok z S)) X.xe s
theorem map_inv {o : Option PL.D} {S' : PL.Sto} {r : PL.RE} (h : o.map (fun z => PL.RE.ok z S') = some r) : ∃ z, o = some z ∧ r = .ok z S' := by
  cases o with
  | none => cases h
  | some z => cases h; exact ⟨z, rfl, rfl⟩
/-- two expressions, then an operation -/
theorem two {f : PL.D → PL.D → Option PL.D} {g : Value → Value → Sem Value} (ho : OpD X g f) (ha : CE G X a ma) (hb : CE G X b mb) {r : PL.RE} (hm : PL.mBin f ma mb δ S = some r) (I : Inv X pins σ H s) (R : Rel X.K α δ S σ H) (tk : TkE G X α σ H r) :
    wpAny (model X.prog X.w) X.A (eval a X.env) (fun v s₁ => wpAny (model X.prog X.w) X.A (eval b X.env) (fun u s₂ => wpAny (model X.prog X.w) X.A (g v u) (PoE X pins α δ σ H r) X.xe s₂) X.xe s₁) X.xe s := by
  refine ha.then I R hm tk fun x S1 h1 α1 v H1 u1 s1 I1 rv x1 R1 q1 tk1 => ?_
  refine hb.then I1 R1 h1 tk1 fun y S2 h2 α2 w H2 u2 s2 I2 rw x2 R2 q2 tk2 => ?_
  obtain ⟨z, e, rfl⟩ := map_inv h2
  exact thn (ho x y z e α2 δ S2 pins s2 σ H2 v w u1 u2 I2 R2 (q1.mono x2) q2 rv rw) fun u s' h => h.ext (x1.trans x2)
theorem c_bin {op : Operator} {f : PL.D → PL.D → Option PL.D} (ho : OpD X (binaryOp op) f) (ha : CE G X a ma) (hb : CE G X b mb) : CE G X (.BinOp a op b pos) (PL.mBin f ma mb) :=
  ⟨fun δ S r hm α pins s σ H I R tk => wpAny_BinOp (two ho ha hb hm I R tk)⟩
theorem c_cmp {op : CmpOp} {f : PL.D → PL.D → Option PL.D} (ho : OpD X (compareOp op) f) (ha : CE G X a ma) (hb : CE G X b mb) (h1 : behindInMarks op b = false := by first | exact nobehind _ (by decide) (by decide) | rfl) : CE G X (.Compare a [op] [b] pos) (PL.mBin f ma mb) :=
  ⟨fun δ S r hm α pins s σ H I R tk => wpAny_Compare1 (two ho ha hb hm I R tk) h1⟩
theorem c_un {op : UnaryOp} {f : PL.D → Option PL.D} (ho : UnD X (unaryOp op) f) (ha : CE G X a ma) : CE G X (.UnaryOp op a pos) (PL.mUn f ma) :=
  ⟨fun δ S r hm α pins s σ H I R tk => UnaryOp_ (ha.then I R hm tk fun x S1 h1 α1 v H1 u1 s1 I1 rv x1 R1 q1 tk1 => by
    obtain ⟨z, e, rfl⟩ := map_inv h1
    exact thn (ho x z e α1 δ S1 pins s1 σ H1 v u1 I1 R1 q1 rv) fun u s' h => h.ext x1)⟩

/-- from a rule of HandS by values -/
theorem OpD.of {g : Value → Value → Sem Value} {f : PL.D → PL.D → Option PL.D} {rr : R2} (ho : OpR X g rr)
    (h : ∀ x y z, f x y = some z → ∀ α δ S σ H v w, Rel X.K α δ S σ H → RD X.K α H x v → RD X.K α H y w → rr v w H (PoV X.K α δ σ H (.ok z S))) : OpD X g f :=
  fun x y z e α δ S pins s σ H v w u1 u2 I R q1 q2 r1 r2 => thn (ho pins s σ H v w u1 u2 _ I r1 r2 (h x y z e α δ S σ H v w R q1 q2)) fun u s' hu => PoE.ofV hu
theorem UnD.of {g : Value → Sem Value} {f : PL.D → Option PL.D} {rr : V → Hp → VK → Prop} (ho : UnR X g rr)
    (h : ∀ x z, f x = some z → ∀ α δ S σ H v, Rel X.K α δ S σ H → RD X.K α H x v → rr v H (PoV X.K α δ σ H (.ok z S))) : UnD X g f :=
  fun x z e α δ S pins s σ H v u I R q1 r1 => thn (ho pins s σ H v u _ I r1 (h x z e α δ S σ H v R q1)) fun u s' hu => PoE.ofV hu
theorem rd_int {K : PySem.W.Frag} {i : Int} {v : V} (h : RD K α H (.int i) v) : v = .int i := by simpa [RD] using h
theorem rd_bl {K : PySem.W.Frag} {i : Bool} {v : V} (h : RD K α H (.bl i) v) : v = .bl i := by simpa [RD] using h
theorem rd_non {K : PySem.W.Frag} {v : V} (h : RD K α H .non v) : v = .non := by simpa [RD] using h
theorem rd_str {K : PySem.W.Frag} {l : List Nat} {v : V} (h : RD K α H (.str l) v) : ∃ x : Str, v = .str x ∧ x.cps.toList = l := by simpa [RD] using h
theorem rd_tup {K : PySem.W.Frag} {l : List PL.D} {v : V} (h : RD K α H (.tup l) v) : ∃ a vs, v = .ref a ∧ SqT K H a vs ∧ RDs K α H l vs := by simpa only [RD] using h
theorem rd_lst {K : PySem.W.Frag} {l : List PL.D} {v : V} (h : RD K α H (.lst l) v) : ∃ a o vs, v = .ref a ∧ FzL K H a o vs ∧ RDs K α H l vs := by simpa only [RD] using h
theorem rd_ref {K : PySem.W.Frag} {n : Nat} {v : V} (h : RD K α H (.ref n) v) : ∃ a, α[n]? = some a ∧ v = .ref a := by simpa only [RD] using h
theorem mk_int {K : PySem.W.Frag} {i : Int} : RD K α H (.int i) (.int i) := by simp [RD]
theorem mk_bl {K : PySem.W.Frag} {i : Bool} : RD K α H (.bl i) (.bl i) := by simp [RD]
theorem mk_non {K : PySem.W.Frag} : RD K α H .non .non := by simp [RD]
theorem mk_str {K : PySem.W.Frag} {x : Str} {l : List Nat} (h : x.cps.toList = l) : RD K α H (.str l) (.str x) := by simp only [RD]; exact ⟨x, rfl, h⟩
theorem frz_sq {K : PySem.W.Frag} {a : Addr} {o : Obj} {vs : List V} (h : FzL K H a o vs) : SqL K H a vs := by
  rcases h with h | ⟨its, n, h, z, r⟩
  · exact .inl (.inr ⟨o, h⟩)
  · refine .inr ⟨_, its.toArray, n, h, rfl, rfl, rfl, ?_, by simpa using r⟩
    have := r.length
    rw [List.size_toArray]; omega
/-- a list that is read, its object as it stands -/
theorem lstR {p : Addr} {xs : List V} (I : Inv X pins σ H s) (h : Rd H p (.lst xs)) :
    ∃ (its : List Value) (n : Nat), Vals xs its ∧ s.heap.get? p = some { cls := .type "list", data := .seq its.toArray n } ∧ xs.length ≤ sizeLine := by
  obtain ⟨z, its, n, r, e⟩ := h.ok I.hok
  exact ⟨its, n, r, e, z⟩

theorem lstF {p : Addr} {o : Obj} {xs : List V} (I : Inv X pins σ H s) (h : FzL X.K H p o xs) :
    ∃ (its : List Value) (n : Nat), Vals xs its ∧ s.heap.get? p = some { cls := .type "list", data := .seq its.toArray n } ∧ xs.length ≤ sizeLine := by
  rcases h with h | ⟨its, n, h, z, r⟩
  · exact lstR I (.inr ⟨o, h⟩)
  · exact ⟨its, n, r, I.kIn _ _ h, z⟩
theorem d_add : OpD X (binaryOp .Add) PL.opAdd := by
  intro x y z e α δ S pins s σ H v w u1 u2 I R q1 q2 r1 r2
  cases x <;> cases y <;> simp only [PL.opAdd] at e <;> try cases e
  · have e1 := rd_int q1; have e2 := rd_int q2; subst e1 e2
    exact thn (op_add pins s σ H _ _ u1 u2 (PoV X.K α δ σ H (.ok _ S)) I r1 r2 ⟨_, _, rfl, rfl, PoV.here R mk_int⟩) fun u s' hu => PoE.ofV hu
  · split at e
    · rename_i hz
      cases e
      obtain ⟨x1, rfl, h1⟩ := rd_str q1
      obtain ⟨x2, rfl, h2⟩ := rd_str q2
      have l1 : x1.length = (x1.cps.toList).length := by simp [Str.length]
      have l2 : x2.length = (x2.cps.toList).length := by simp [Str.length]
      refine thn (op_add_str pins s σ H _ _ u1 u2 (PoV X.K α δ σ H (.ok _ S)) I r1 r2 ⟨_, _, rfl, rfl, ?_, PoV.here R (mk_str ?_)⟩) fun u s' hu => PoE.ofV hu
      · rw [l1, l2, h1, h2, ← line_eq]; exact hz
      · show (x1.cps ++ x2.cps).toList = _
        rw [Array.toList_append, h1, h2]
    · cases e
  · rename_i xs ys
    split at e
    · rename_i hz
      cases e
      obtain ⟨a1, vs1, rfl, h1, t1⟩ := rd_tup q1
      obtain ⟨a2, vs2, rfl, h2, t2⟩ := rd_tup q2
      have l1 := t1.length
      have l2 := t2.length
      have back : ∀ {p : Addr} {vs : List V} {ds : List PL.D}, SqT X.K H p vs → RDs X.K α H ds vs → RD X.K α H (.tup ds) (.ref p) := fun hq ht => by simp only [RD]; exact ⟨_, _, rfl, hq, ht⟩
      refine thn (op_catA pins s σ H _ _ u1 u2 (fun v H' => (H' = H ∧ RD X.K α H (.tup (xs ++ ys)) v) ∨ ∃ p, v = .ref p ∧ H p = none ∧ H' = upd H p (.tup (vs1 ++ vs2))) I r1 r2
        ⟨a1, a2, vs1, vs2, rfl, rfl, h1, h2, ?_, fun e0 => .inl ⟨rfl, ?_⟩, fun _ e0 => .inl ⟨rfl, ?_⟩, fun _ _ p hp => .inr ⟨p, rfl, hp, rfl⟩⟩) fun u s' hu => ?_
      · rw [← line_eq]; omega
      · subst e0
        have : PL.D.tup (xs ++ ys) = PL.D.tup ys := congrArg PL.D.tup (by rw [List.eq_nil_of_length_eq_zero l1, List.nil_append])
        rw [this]; exact back h2 t2
      · subst e0
        have : PL.D.tup (xs ++ ys) = PL.D.tup xs := congrArg PL.D.tup (by rw [List.eq_nil_of_length_eq_zero l2, List.append_nil])
        rw [this]; exact back h1 t1
      · obtain ⟨v, H', I', rv, (⟨e1, q⟩ | ⟨p, e1, hp, e2⟩)⟩ := hu
        · subst e1; exact PoE.here I' rv R q
        · subst e1 e2; cases rv
          exact PoE.tup I' hp R (t1.append t2)
    · cases e
  · split at e
    · rename_i hz
      cases e
      obtain ⟨a1, o1, vs1, rfl, h1, t1⟩ := rd_lst q1
      obtain ⟨a2, o2, vs2, rfl, h2, t2⟩ := rd_lst q2
      cases r1; cases r2
      have l1 := t1.length
      have l2 := t2.length
      obtain ⟨its1, n1, w1, e1, z1⟩ := lstF I h1
      obtain ⟨its2, n2, w2, e2, z2⟩ := lstF I h2
      have k1 := w1.length
      have k2 := w2.length
      refine PySem.P.add_list e1 e2 ?_ (by rw [List.size_toArray, List.size_toArray, ← line_eq]; omega)
      have ea : its1.toArray ++ its2.toArray = (its1 ++ its2).toArray := by simp
      rw [ea]
      exact PoE.lst (I.lnew (t' := s.toks) (w1.append w2) (by rw [List.length_append, ← line_eq]; omega)) I.fresh R (t1.append t2)
    · cases e
theorem d_sub : OpD X (binaryOp .Sub) PL.opSub := .of op_sub fun x y z e α δ S σ H v w R q1 q2 => by
  cases x <;> cases y <;> simp only [PL.opSub] at e <;> cases e
  exact ⟨_, _, rd_int q1, rd_int q2, PoV.here R mk_int⟩
theorem d_div : OpD X (binaryOp .FloorDiv) PL.opDiv := .of op_fdiv fun x y z e α δ S σ H v w R q1 q2 => by
  cases x <;> cases y <;> simp only [PL.opDiv] at e <;> try cases e
  split at e
  · rename_i h
    cases e
    exact ⟨_, _, rd_int q1, rd_int q2, ⟨h.1, by omega⟩, PoV.here R mk_int⟩
  · cases e
theorem d_mod : OpD X (binaryOp .Mod) PL.opMod := .of op_mod fun x y z e α δ S σ H v w R q1 q2 => by
  cases x <;> cases y <;> simp only [PL.opMod] at e <;> try cases e
  split at e
  · rename_i h
    cases e
    exact ⟨_, _, rd_int q1, rd_int q2, h, PoV.here R mk_int⟩
  · cases e
theorem d_pow : OpD X (binaryOp .Pow) PL.opPow := .of op_pow fun x y z e α δ S σ H v w R q1 q2 => by
  cases x <;> cases y <;> simp only [PL.opPow] at e <;> try cases e
  split at e
  · rename_i h
    cases e
    exact ⟨_, _, rd_int q1, rd_int q2, ⟨h.1, by omega, by simpa using h.2.2⟩, PoV.here R mk_int⟩
  · cases e
theorem d_neg : UnD X (unaryOp .USub) PL.opNeg := .of un_neg fun x z e α δ S σ H v R q1 => by
  cases x <;> simp only [PL.opNeg] at e <;> cases e
  exact ⟨_, rd_int q1, PoV.here R mk_int⟩
theorem d_ltI : OpD X (compareOp .Lt) PL.opLtI := .of op_lt fun x y z e α δ S σ H v w R q1 q2 => by
  cases x <;> cases y <;> simp only [PL.opLtI] at e <;> cases e
  exact ⟨_, _, rd_int q1, rd_int q2, PoV.here R mk_bl⟩
theorem d_le : OpD X (compareOp .LtE) PL.opLe := .of op_le fun x y z e α δ S σ H v w R q1 q2 => by
  cases x <;> cases y <;> simp only [PL.opLe] at e <;> cases e
  exact ⟨_, _, rd_int q1, rd_int q2, PoV.here R mk_bl⟩
theorem d_gt : OpD X (compareOp .Gt) PL.opGt := .of op_gt fun x y z e α δ S σ H v w R q1 q2 => by
  cases x <;> cases y <;> simp only [PL.opGt] at e <;> cases e
  exact ⟨_, _, rd_int q1, rd_int q2, PoV.here R mk_bl⟩
theorem d_ge : OpD X (compareOp .GtE) PL.opGe := .of op_ge fun x y z e α δ S σ H v w R q1 q2 => by
  cases x <;> cases y <;> simp only [PL.opGe] at e <;> cases e
  exact ⟨_, _, rd_int q1, rd_int q2, PoV.here R mk_bl⟩
theorem d_is : OpD X (compareOp .Is) PL.opIs := .of op_isBl fun x y z e α δ S σ H v w R q1 q2 => by
  cases x <;> cases y <;> simp only [PL.opIs] at e <;> cases e
  exact ⟨_, _, rd_bl q1, rd_bl q2, PoV.here R mk_bl⟩
theorem d_isnot : OpD X (compareOp .IsNot) PL.opIsNot := .of op_notBl fun x y z e α δ S σ H v w R q1 q2 => by
  cases x <;> cases y <;> simp only [PL.opIsNot] at e <;> cases e
  exact ⟨_, _, rd_bl q1, rd_bl q2, PoV.here R mk_bl⟩

/-! ### arguments, displays -/
theorem ca_nil : CA G X [] PL.mNilA := ⟨fun pos δ S r hm α pins s σ H I R tk => by
  cases hm
  refine thn (pa_nil.run pos pins s σ H (fun vs H' => vs = [] ∧ H' = H) I ⟨rfl, rfl⟩) fun us s' hu => ?_
  obtain ⟨vs, H', I', rv, e1, e2⟩ := hu
  subst e1 e2
  exact ⟨α, [], _, I', rv, Ext.refl _ _, R, .nil⟩⟩
end
end BR

set_option Elab.async false
set_option linter.all false
set_option maxRecDepth 100000
set_option maxHeartbeats 2000000
/-! ## a tuple, a list so many times -/
namespace BR
open PySem PySem.Spec PyProof.Rows L2
theorem tuple_mulS (l : Addr) (items : Array Value) (n : Nat) (dd : Option Addr) (sl : Array (Option Value)) (x : Int) (u : Tok) (c0 : (decide (x < -(2 ^ 63)) || decide (x ≥ 2 ^ 63)) = false) (c1 : (items.isEmpty || x == 1) = true) :
    Meets (Builtin.«tuple.__mul__» ⟨[.ref l, .int x u], []⟩) (fun _ R s => s.heap.get? l = some { cls := .type "tuple", dict := dd, data := .seq items n, slots := sl } ∧ R (.ok (.ret (Value.ref l))) s) :=
  .of_wp fun prog w A R s h => by
    obtain ⟨hp, g, d, tk, os⟩ := s
    obtain ⟨hl, h⟩ := h
    have f1 := AutoSeq1.idx_int
    wp_walk using wpAny_loadPart' hl
    repeat (first
      | (refine wpAny_ite_false (decide_eq_false (by rw [c0]; exact Bool.false_ne_true)) ?_; wp_walk using wpAny_loadPart' hl)
      | (refine wpAny_ite_true (decide_eq_true c1) ?_; wp_walk using wpAny_loadPart' hl))
    exact ⟨_, rfl, h⟩
theorem tuple_mulZ (l : Addr) (items : Array Value) (n : Nat) (dd : Option Addr) (sl : Array (Option Value)) (x : Int) (u : Tok) (c0 : (decide (x < -(2 ^ 63)) || decide (x ≥ 2 ^ 63)) = false) (c1 : (items.isEmpty || x == 1) = false) (c2 : (decide (x ≤ 0) || items.isEmpty) = true) :
    Meets (Builtin.«tuple.__mul__» ⟨[.ref l, .int x u], []⟩) (fun _ R s => s.heap.get? l = some { cls := .type "tuple", dict := dd, data := .seq items n, slots := sl } ∧
      R (.ok (.ret (Value.ref s.heap.objs.size))) { s with heap := s.heap.push { cls := Value.type "tuple", data := Data.seq #[] }, toks := s.toks }) :=
  .of_wp fun prog w A R s h => by
    obtain ⟨hp, g, d, tk, os⟩ := s
    obtain ⟨hl, h⟩ := h
    have f1 := AutoSeq1.idx_int
    wp_walk using wpAny_loadPart' hl
    repeat (first
      | (refine wpAny_ite_false (decide_eq_false (by rw [c0]; exact Bool.false_ne_true)) ?_; wp_walk using wpAny_loadPart' hl)
      | (refine wpAny_ite_false (decide_eq_false (by rw [c1]; exact Bool.false_ne_true)) ?_; wp_walk using wpAny_loadPart' hl)
      | (refine wpAny_ite_true (decide_eq_true c2) ?_; wp_walk using wpAny_loadPart' hl))
    exact ⟨_, rfl, h⟩
end BR
namespace BR
open PySem PySem.Spec PyProof.Rows L2
section
variable {G : EX} {X : Cx}
theorem d_mul : OpD X (binaryOp .Mult) PL.opMul := by
  intro x y z e α δ S pins s σ H v w u1 u2 I R q1 q2 r1 r2
  cases x <;> cases y <;> simp only [PL.opMul] at e <;> try cases e
  · split at e
    · rename_i h
      cases e
      have e1 := rd_int q1; have e2 := rd_int q2; subst e1 e2
      exact thn (op_mul pins s σ H _ _ u1 u2 (PoV X.K α δ σ H (.ok _ S)) I r1 r2 ⟨_, _, rfl, rfl, h.elim (fun z => .inl ⟨by simp; omega, by simp; omega⟩) (fun z => .inr ⟨by simp; omega, by simp; omega⟩), PoV.here R mk_int⟩) fun u s' hu => PoE.ofV hu
    · cases e
  · rename_i ds k
    split at e
    · rename_i hz
      obtain ⟨h1, hz⟩ := hz
      have h2 : k ≤ 1000000000 := by omega
      have h1 : -1000000000 ≤ k := by omega
      cases e
      obtain ⟨l, xs, rfl, hT, td⟩ := rd_tup q1
      have e2 := rd_int q2
      subst e2
      cases r1
      obtain ⟨t, rfl⟩ := r2
      obtain ⟨its, r, ⟨⟨cls, dd, data, sl⟩, ho, hc, n, hd⟩, hs⟩ := I.tuple hT
      simp only at hc hd
      subst hc hd
      have hle : its.length = xs.length := r.length.symm
      have hld := td.length
      have hsz0 : its.toArray.size = ds.length := by rw [List.size_toArray, hle, hld]
      have he : its.toArray.isEmpty = ds.isEmpty := by
        have : its.toArray.isEmpty = its.isEmpty := by simp
        rw [this]
        cases its <;> cases ds <;> simp at hle hld ⊢ <;> omega
      have c0 : (decide (k < -(2 ^ 63)) || decide (k ≥ 2 ^ 63)) = false := by
        rw [decide_eq_false (by omega), decide_eq_false (by omega)] <;> rfl
      have go : ∀ {P : (Result → Shared → Prop) → Shared → Prop}, Meets (Builtin.«tuple.__mul__» ⟨[.ref l, .int k t], []⟩) (fun _ R s => s.heap.get? l = some { cls := .type "tuple", dict := dd, data := .seq its.toArray n, slots := sl } ∧ P R s) →
          (P (wants (PoE X pins α δ σ H (.ok (.tup (List.replicate k.toNat ds).flatten) S)) X.xe) s) → wpAny (model X.prog X.w) X.A (binaryOp .Mult (.ref l) (.int k t)) (PoE X pins α δ σ H (.ok (.tup (List.replicate k.toNat ds).flatten) S)) X.xe s := fun {P} M hP =>
        wpAny_binaryOp_repeat_ref (T := "tuple") (U := "int") (by decide) ⟨_, ho, rfl⟩ (fun s' => typeIs_int s' k t) noFill_tuple_mul F.fills_int_mul F.slot_int_rmul repeat_tuple F.slot_int_index.lookup
          (call_meets F.slot_int_rmul (typeIs_int s k t) F.entry_int_rmul (F.args_int_rmul_2 _ _) (int_rmul_tuple k t l its.toArray n dd sl)
            ⟨ho, rfl, ⟨_, ho, rfl⟩, call_meets F.slot_tuple_mul ⟨_, ho, rfl⟩ F.entry_tuple_mul (F.args_tuple_mul_2 _ _) M ⟨ho, hP⟩⟩)
      by_cases c1 : (its.toArray.isEmpty || k == 1) = true
      · refine go (tuple_mulS l its.toArray n dd sl k t c0 c1) ?_
        have ed : (List.replicate k.toNat ds).flatten = ds := by
          rw [he] at c1
          rcases Bool.or_eq_true _ _ |>.mp c1 with z | z
          · have : ds = [] := by simpa using z
            subst this; simp
          · have : k = 1 := by simpa using z
            subst this; simp
        rw [ed]
        exact PoE.here (v := .ref l) I rfl R q1
      · have c1' : (its.toArray.isEmpty || k == 1) = false := by simpa using c1
        by_cases c2 : (decide (k ≤ 0) || its.toArray.isEmpty) = true
        · refine go (tuple_mulZ l its.toArray n dd sl k t c0 c1' c2) ?_
          have ed : (List.replicate k.toNat ds).flatten = [] := by
            rw [he] at c2
            rcases Bool.or_eq_true _ _ |>.mp c2 with z | z
            · have : k ≤ 0 := by simpa using z
              rw [show k.toNat = 0 by omega]; simp
            · have : ds = [] := by simpa using z
              subst this; simp
          rw [ed]
          exact PoE.tup (I.laid (t' := s.toks) (o := .tup []) (fun b ob q => Heap.get?_push_of_some _ q) (Nat.le_refl _) ⟨Nat.zero_le _, [], .nil, IsTup.new _ _⟩) (I.hok.fresh (Nat.le_refl _)) R .nil
        · have c2' : (decide (k ≤ 0) || its.toArray.isEmpty) = false := by simpa using c2
          have hk : 0 < k := by
            have := (Bool.or_eq_false_iff.mp c2').1
            have := of_decide_eq_false this
            omega
          have hm : ((its.toArray.size : Nat) : Int) * k ≤ 16777216 := by
            rw [hsz0]
            have : ((ds.length * k.toNat : Nat) : Int) ≤ 16777216 := Int.ofNat_le.mpr hz
            rw [Int.natCast_mul, show ((k.toNat : Nat) : Int) = k by omega] at this
            exact this
          have flen : (List.replicate k.toNat its).flatten.length ≤ sizeLine := by
            rw [PyProof.Rows.lm_len_rep_flat, hle, ← hld, Nat.mul_comm, ← line_eq]; exact hz
          have c4 : Builtin.Tuple.tupleTooMany (((its.toArray.size : Nat) : Int) * k) = false := by
            unfold Builtin.Tuple.tupleTooMany
            rw [sizeLine_eq]
            exact decide_eq_false (by omega)
          refine go (tuple_mulW l its.toArray n dd sl k t c0 c1' c2' (by omega) c4 (by rw [size_rep, List.size_toArray]; exact flen)) ?_
          rw [size_rep]
          refine PoE.tup (I.laid (t' := s.toks) (o := .tup (List.replicate k.toNat xs).flatten) (fun b ob q => Heap.get?_push_of_some _ q) (Nat.le_refl _) ?_) (I.hok.fresh (Nat.le_refl _)) R (td.rep _)
          exact ⟨by rw [PyProof.Rows.lm_len_rep_flat, ← hld, Nat.mul_comm, ← line_eq]; exact hz, _, r.rep k.toNat, IsTup.new _ _⟩
    · cases e
  · rename_i ds k
    split at e
    · rename_i hz
      obtain ⟨h1, hz⟩ := hz
      have h2 : k ≤ 1000000000 := by omega
      have h1 : -1000000000 ≤ k := by omega
      cases e
      obtain ⟨l, o, xs, rfl, hT, td⟩ := rd_lst q1
      have e2 := rd_int q2
      subst e2
      cases r1
      obtain ⟨t, rfl⟩ := r2
      obtain ⟨its, n, r, e0, z0⟩ := lstF I hT
      have hl := r.length
      have hld := td.length
      have hlen : its.toArray.size * k.toNat ≤ sizeLine := by rw [List.size_toArray, ← hl, ← hld, ← line_eq]; exact hz
      have hcap : ¬ its.toArray.size * k.toNat > (2 ^ 63 - 1) / 8 := by
        have : (sizeLine : Nat) ≤ (2 ^ 63 - 1) / 8 := by decide
        omega
      have hfit : ¬ (!Builtin.List.listFitsIndex k) = true := by
        rw [fitsIndex_both (by omega) (by omega)]
        exact Bool.false_ne_true
      have hlong : ¬ Builtin.List.listTooLong (its.toArray.size * k.toNat) = true := by
        rw [notLongL hlen]
        exact Bool.false_ne_true
      have hnew : List.foldl (fun x1 x2 => x1 ++ x2) #[] (List.replicate (if its.toArray.isEmpty = true then 0 else k.toNat) its.toArray) = (List.replicate k.toNat its).flatten.toArray := by
        rw [size_rep]
        cases its with
        | nil => simp
        | cons a r' => rw [if_neg (by simp)]
      refine wpAny_binaryOp_repeat_ref (T := "list") (U := "int") (by decide) ⟨_, e0, rfl⟩ (fun s' => typeIs_int s' k t) noFill_list_mul F.fills_int_mul F.slot_int_rmul repeat_list F.slot_int_index.lookup
        (call_meets F.slot_int_rmul (typeIs_int s k t) F.entry_int_rmul (F.args_int_rmul_2 _ _) (int___rmul___int_list k t l its.toArray n)
          ⟨e0, rfl, ⟨_, e0, rfl⟩, call_meets F.slot_list_mul ⟨_, e0, rfl⟩ F.entry_list_mul (F.args_list_mul_2 _ _) (AutoListH.list___mul___list_int_3 l its.toArray n k t hfit hcap hlong) ⟨e0, ?_⟩⟩)
      rw [hnew]
      exact PoE.lst (I.lnew (t' := s.toks) (r.rep k.toNat) (by rw [PyProof.Rows.lm_len_rep_flat, Nat.mul_comm, ← hld, ← line_eq]; exact hz)) I.fresh R (td.rep _)
    · cases e
end
end BR

set_option Elab.async false
set_option linter.all false
set_option maxRecDepth 100000
set_option maxHeartbeats 2000000
namespace BR
open PySem PySem.Spec PyProof.Rows L2
section
variable {G : EX} {X : Cx} {α α' : List Addr} {δ : PL.Env} {S : PL.Sto} {σ : L2.St} {H H' : Hp} {pins : List (Addr × Obj)} {s : Shared}
variable {a b c e : Expr} {ma mb mc m : PL.ME} {pos : Pos} {es : List Expr} {mas : PL.MA}

/-- a mirrored expression as an expression of HandS -/
def tOf (G : EX) (X : Cx) (m : PL.ME) : TE := fun σ H Q => ∃ α δ S, Rel X.K α δ S σ H ∧ m δ S ≠ none ∧ (∀ x S1, m δ S = some (.ex x S1) → Takes X (WE G X α σ H x S1)) ∧
  ∀ d S1, m δ S = some (.ok d S1) → ∀ α1 v H1, Ext α H α1 H1 → Rel X.K α1 δ S1 σ H1 → RD X.K α1 H1 d v → Q v H1
theorem CE.pe (h : CE G X e m) : PE X e (tOf G X m) := ⟨fun pins s σ H Q I ⟨α, δ, S, R, no, tk, q⟩ =>
  h.step I R no tk fun d S1 hd α1 v H1 u s1 I1 rv x R1 rd => ⟨v, H1, I1, rv, q d S1 hd α1 v H1 x R1 rd⟩⟩
theorem CE.ofX {t : TE} (h : PE X e t) (q : ∀ δ S r, m δ S = some r → ∀ α σ H, Rel X.K α δ S σ H → TkE G X α σ H r → t σ H (PoV X.K α δ σ H r)) : CE G X e m :=
  ⟨fun δ S r hm α pins s σ H I R tk => thn (h.run pins s σ H _ I (q δ S r hm α σ H R tk)) fun u s' hu => PoE.ofV hu⟩
theorem PoV.ext {r : PL.RE} {v : V} {H1 : Hp} (h : PoV X.K α' δ σ H' r v H1) (e : Ext α H α' H') : PoV X.K α δ σ H r v H1 := by
  cases r with
  | ok d S => obtain ⟨a, x, q⟩ := h; exact ⟨a, e.trans x, q⟩
  | ex x S => exact h
/-- the reading of a mirrored expression inside a reading -/
theorem tOf.go {k : PL.D → PL.Sto → Option PL.RE} {r : PL.RE} (R : Rel X.K α δ S σ H) (hk : PL.bE (m δ S) k = some r) (tk : TkE G X α σ H r) {Q : VK}
    (q : ∀ d S1, k d S1 = some r → ∀ α1 v H1, Ext α H α1 H1 → Rel X.K α1 δ S1 σ H1 → RD X.K α1 H1 d v → TkE G X α1 σ H1 r → Q v H1) : tOf G X m σ H Q := by
  refine ⟨α, δ, S, R, (fun z => by rw [z] at hk; cases hk), fun x S1 c => ?_, fun d S1 c α1 v H1 x R1 rd => ?_⟩
  · rw [c] at hk; cases hk; exact tk
  · rw [c] at hk; exact q d S1 hk α1 v H1 x R1 rd (tk.ext x)

/-! ### arguments, displays -/
theorem ca_cons (ha : CE G X e m) (hr : CA G X es mas) (hs : starEach (e :: es) X.env = (false, eval e X.env) :: starEach es X.env := by rfl) : CA G X (e :: es) (PL.mConsA m mas) := by
  refine ⟨fun pos δ S r hm α pins s σ H I R tk => ?_⟩
  rw [hs]
  show wpAny _ _ (spliced ((false, eval e X.env) :: backTo pos (starEach es X.env))) _ _ s
  refine Calls.spliced_cons (ha.thenA I R hm tk fun d S1 h1 α1 v H1 u s1 I1 rv x1 R1 q1 tk1 => ?_)
  refine hr.thenA pos I1 R1 h1 tk1 fun ds S2 h2 α2 vs H2 us s2 I2 rvs x2 R2 q2 tk2 => ?_
  cases h2
  exact ⟨α2, v :: vs, H2, I2, .cons rv rvs, x1.trans x2, R2, .cons (q1.mono x2) q2⟩
theorem c_tup {k} (h : CA G X es mas) : CE G X (.Tuple es k pos) (PL.mTup mas) := by
  refine ⟨fun δ S r hm α pins s σ H I R tk => ?_⟩
  refine wpAny_Tuple_spliced (h.then pos I R hm tk fun ds S1 h1 α1 vs H1 us s1 I1 rv x1 R1 q1 tk1 => ?_)
  have hl := q1.length
  split at h1
  · rename_i hz
    cases h1
    refine ⟨by rw [← rv.length, ← hl, ← line_eq]; exact hz, ?_⟩
    refine (PoE.tup (p := s1.heap.objs.size) (I1.laid (t' := s1.toks) (o := .tup vs) (fun b u e => Heap.get?_push_of_some _ e) (Nat.le_refl _) ?_) (I1.hok.fresh (Nat.le_refl _)) R1 q1).ext x1
    exact ⟨by rw [← hl, ← line_eq]; exact hz, us, rv, ⟨_, Heap.get?_push_size _ rfl, rfl, _, rfl⟩⟩
  · cases h1
/-- a list display: what stands behind it -/
theorem list_display {r : PL.RE} {k : List PL.D → PL.Sto → Option PL.RE} (h : CA G X es mas) (hm : PL.bA (mas δ S) k = some r) (I : Inv X pins σ H s) (R : Rel X.K α δ S σ H) (tk : TkE G X α σ H r)
    (hk : ∀ ds S1, k ds S1 = some r → ds.length ≤ PL.LINE)
    (q : ∀ ds S1, k ds S1 = some r → ∀ α1 vs H1 p s2, Inv X pins σ (upd H1 p (.lst vs)) s2 → H1 p = none → Ext α H α1 H1 → Rel X.K α1 δ S1 σ H1 → RDs X.K α1 H1 ds vs → PoE X pins α1 δ σ H1 r (.ref p) s2) :
    wpAny (model X.prog X.w) X.A (eval (.List es pos) X.env) (PoE X pins α δ σ H r) X.xe s := by
  refine wpAny_List_spliced (h.then pos I R hm tk fun ds S1 h1 α1 vs H1 us s1 I1 rv x1 R1 q1 tk1 => ?_)
  have hl := q1.length
  have hz := hk ds S1 h1
  refine ⟨by rw [← rv.length, ← hl, ← line_eq]; exact hz, ?_⟩
  refine (q ds S1 h1 α1 vs H1 s1.heap.objs.size _ (I1.laid (t' := s1.toks) (o := .lst vs) (fun b u e => Heap.get?_push_of_some _ e) (Nat.le_refl _) ?_) (I1.hok.fresh (Nat.le_refl _)) x1 R1 q1).ext x1
  exact ⟨by rw [← hl, ← line_eq]; exact hz, us, 0, rv, Heap.get?_push_size _ rfl⟩
theorem if_inv {α : Type} {p : Prop} [Decidable p] {x : α} {r : α} (h : (if p then some x else none) = some r) : p ∧ x = r := by
  split at h
  · rename_i z; cases h; exact ⟨z, rfl⟩
  · cases h
theorem c_lst (h : CA G X es mas) : CE G X (.List es pos) (PL.mLst mas) :=
  ⟨fun δ S r hm α pins s σ H I R tk => list_display h hm I R tk (fun ds S1 h1 => (if_inv h1).1) fun ds S1 h1 α1 vs H1 p s2 I2 hp x1 R1 q1 => by
    split at h1
    · cases h1; exact PoE.lst I2 hp R1 q1
    · cases h1⟩
theorem c_newlst (h : CA G X es mas) : CE G X (.List es pos) (PL.mNewLst mas) :=
  ⟨fun δ S r hm α pins s σ H I R tk => list_display h hm I R tk (fun ds S1 h1 => (if_inv h1).1.1) fun ds S1 h1 α1 vs H1 p s2 I2 hp x1 R1 q1 => by
    split at h1
    · rename_i z; cases h1; exact PoE.new I2 hp R1 q1 z.2
    · cases h1⟩

/-! ### tests, and or not -/
theorem c_bool (h : CE G X e m) (he : ∀ whole, isTrue e X.env whole = (do let v ← whole; standAt e.pos; holding [v] (truthy v)) := by intro _; rfl) : CT G X e (PL.mB m) := by
  refine ⟨fun δ S r hm α pins s σ H I R tk => ?_⟩
  refine isTrue_plain (h.thenT I R hm tk fun d S1 h1 α1 v H1 u s1 I1 rv x1 R1 q1 tk1 => ?_) (he _)
  cases d <;> try cases h1
  have e1 := rd_bl q1
  subst e1
  cases rv
  exact wpAny_truthy_bool ⟨rfl, α1, H1, I1, x1, R1⟩
theorem c_cmpT {op : CmpOp} {f : PL.D → PL.D → Option PL.D} (ho : OpD X (compareOp op) f) (ha : CE G X a ma) (hb : CE G X b mb) (h1 : behindInMarks op b = false := by first | exact nobehind _ (by decide) (by decide) | rfl) :
    CT G X (.Compare a [op] [b] pos) (PL.mB (PL.mBin f ma mb)) := by
  refine ⟨fun δ S r hm α pins s σ H I R tk => ?_⟩
  unfold PL.mB at hm
  cases c : PL.mBin f ma mb δ S with
  | none => rw [c] at hm; cases hm
  | some r0 =>
    rw [c] at hm
    cases r0 with
    | ex x S1 =>
      cases hm
      refine wpAny_isTrue_Compare1 (thn (two ho ha hb c I R tk) fun v s1 h1 => thn h1 fun u s2 h2 => thn h2 fun w s3 h3 => h3.elim) h1
    | ok d S1 =>
      refine wpAny_isTrue_Compare1 (thn (two ho ha hb c I R trivial) fun v s1 h1 => thn h1 fun u s2 h2 => thn h2 fun w s3 h3 => ?_) h1
      obtain ⟨α1, v1, H1, I1, rv, x1, R1, q1⟩ := h3
      cases d <;> try cases hm
      have e1 := rd_bl q1
      subst e1
      cases rv
      exact wpAny_truthy_bool ⟨rfl, α1, H1, I1, x1, R1⟩
variable {ta tb : PL.MT} {rest : List Expr}
theorem CW.ct (h : CW G X e ta) : CT G X e ta := ⟨h.run _⟩
theorem cw_and1 (ha : CT G X a ta) : CW G X (.BoolOp .And [a] pos) ta := ⟨fun wh δ S r hm α pins s σ H I R tk => by
  refine isTrue_and (thn (ha.run δ S r hm α pins s σ H I R tk) fun c s1 e => ?_)
  cases c with
  | true => exact isTrue_and_nil e
  | false => exact e⟩
theorem cw_or1 (ha : CT G X a ta) : CW G X (.BoolOp .Or [a] pos) ta := ⟨fun wh δ S r hm α pins s σ H I R tk => by
  refine isTrue_or (thn (ha.run δ S r hm α pins s σ H I R tk) fun c s1 e => ?_)
  cases c with
  | false => exact isTrue_or_nil e
  | true => exact e⟩
theorem cw_and (ha : CT G X a ta) (hb : CW G X (.BoolOp .And (b :: rest) pos) tb) : CW G X (.BoolOp .And (a :: b :: rest) pos) (PL.mAndT ta tb) := ⟨fun wh δ S r hm α pins s σ H I R tk => by
  refine isTrue_and (ha.thenT I R hm tk fun c S1 h1 α1 H1 s1 I1 x1 R1 tk1 => ?_)
  cases c with
  | true => exact thn (hb.run wh δ S1 r h1 α1 pins s1 σ H1 I1 R1 tk1) fun c s2 h2 => h2.ext x1
  | false => cases h1; exact ⟨rfl, α1, H1, I1, x1, R1⟩⟩
theorem cw_or (ha : CT G X a ta) (hb : CW G X (.BoolOp .Or (b :: rest) pos) tb) : CW G X (.BoolOp .Or (a :: b :: rest) pos) (PL.mOrT ta tb) := ⟨fun wh δ S r hm α pins s σ H I R tk => by
  refine isTrue_or (ha.thenT I R hm tk fun c S1 h1 α1 H1 s1 I1 x1 R1 tk1 => ?_)
  cases c with
  | true => cases h1; exact ⟨rfl, α1, H1, I1, x1, R1⟩
  | false => exact thn (hb.run wh δ S1 r h1 α1 pins s1 σ H1 I1 R1 tk1) fun c s2 h2 => h2.ext x1⟩
theorem c_notT (ha : CT G X a ta) : CT G X (.UnaryOp .Not a pos) (PL.mNotT ta) := ⟨fun δ S r hm α pins s σ H I R tk => by
  refine isTrue_not (ha.thenT I R hm tk fun c S1 h1 α1 H1 s1 I1 x1 R1 tk1 => ?_)
  cases h1; exact ⟨rfl, α1, H1, I1, x1, R1⟩⟩
theorem c_one {op} (h : CE G X a m) : CE G X (.BoolOp op [a] pos) m := ⟨fun δ S r hm α pins s σ H I R tk => BoolOp_one (h.run δ S r hm α pins s σ H I R tk)⟩
theorem c_andV (ha : CE G X a ma) (hb : CE G X (.BoolOp .And (b :: rest) pos) mb) : CE G X (.BoolOp .And (a :: b :: rest) pos) (PL.mAndV ma mb) := ⟨fun δ S r hm α pins s σ H I R tk => by
  refine BoolOp_and (ha.then I R hm tk fun d S1 h1 α1 v H1 u s1 I1 rv x1 R1 q1 tk1 => ?_)
  cases d <;> try cases h1
  rename_i c
  have e1 := rd_bl q1
  subst e1
  cases rv
  refine wpAny_truthy_bool ?_
  cases c with
  | true => exact thn (hb.run δ S1 r h1 α1 pins s1 σ H1 I1 R1 tk1) fun c s2 h2 => h2.ext x1
  | false => cases h1; exact (PoE.here (v := .bl _) I1 rfl R1 q1).ext x1⟩
theorem c_orV (ha : CE G X a ma) (hb : CE G X (.BoolOp .Or (b :: rest) pos) mb) : CE G X (.BoolOp .Or (a :: b :: rest) pos) (PL.mOrV ma mb) := ⟨fun δ S r hm α pins s σ H I R tk => by
  refine BoolOp_or (ha.then I R hm tk fun d S1 h1 α1 v H1 u s1 I1 rv x1 R1 q1 tk1 => ?_)
  cases d <;> try cases h1
  rename_i c
  have e1 := rd_bl q1
  subst e1
  cases rv
  refine wpAny_truthy_bool ?_
  cases c with
  | false => exact thn (hb.run δ S1 r h1 α1 pins s1 σ H1 I1 R1 tk1) fun c s2 h2 => h2.ext x1
  | true => cases h1; exact (PoE.here (v := .bl _) I1 rfl R1 q1).ext x1⟩
theorem c_notV (ha : CE G X a ma) : CE G X (.UnaryOp .Not a pos) (PL.mNotV ma) := ⟨fun δ S r hm α pins s σ H I R tk => by
  refine UnaryOp_ (ha.then I R hm tk fun d S1 h1 α1 v H1 u s1 I1 rv x1 R1 q1 tk1 => ?_)
  cases d <;> try cases h1
  rename_i c
  have e1 := rd_bl q1
  subst e1
  cases rv
  exact not_of (wpAny_truthy_bool ((PoE.here (v := .bl _) I1 rfl R1 mk_bl).ext x1))⟩
theorem c_ifExp (hc : CT G X c ta) (ha : CE G X a ma) (hb : CE G X b mb) : CE G X (.IfExp c a b pos) (PL.mIf ta ma mb) := ⟨fun δ S r hm α pins s σ H I R tk => by
  refine wpAny_IfExp (hc.then I R hm tk fun k S1 h1 α1 H1 s1 I1 x1 R1 tk1 => ?_)
  cases k with
  | true => exact thn (ha.run δ S1 r h1 α1 pins s1 σ H1 I1 R1 tk1) fun c s2 h2 => h2.ext x1
  | false => exact thn (hb.run δ S1 r h1 α1 pins s1 σ H1 I1 R1 tk1) fun c s2 h2 => h2.ext x1⟩

/-! ### a chain of two comparisons -/
theorem c_chain {op op' : CmpOp} {f g : PL.D → PL.D → Option PL.D} (ho : OpD X (compareOp op) f) (ho' : OpD X (compareOp op') g) (ha : CE G X a ma) (hb : CE G X b mb) (hc : CE G X c mc)
    (hm : lastMarks [op, op'] [b, c] = false := by with_unfolding_all rfl) : CE G X (.Compare a [op, op'] [b, c] pos) (PL.mChain f g ma mb mc) := ⟨fun δ S r h0 α pins s σ H I R tk => by
  refine Compare_chain (ha.then I R h0 tk fun x S1 h1 α1 v H1 u1 s1 I1 rv x1 R1 q1 tk1 => chain_link (hb.then I1 R1 h1 tk1 fun y S2 h2 α2 w H2 u2 s2 I2 rw x2 R2 q2 tk2 => ?_)) hm
  cases hf : f x y with
  | none => rw [hf] at h2; cases h2
  | some z =>
    rw [hf] at h2
    refine thn (ho x y z hf α2 δ S2 pins s2 σ H2 v w u1 u2 I2 R2 (q1.mono x2) q2 rv rw) fun d s3 h3 => ?_
    obtain ⟨α3, v3, H3, I3, r3, x3, R3, q3⟩ := h3
    cases z <;> try cases h2
    rename_i k
    have e1 := rd_bl q3
    subst e1
    cases r3
    refine wpAny_truthy_bool ?_
    cases k with
    | false => cases h2; exact ite_ff ((PoE.here (v := .bl _) I3 rfl R3 mk_bl).ext ((x1.trans x2).trans x3))
    | true =>
      refine ite_tt (chain_last (hc.then I3 R3 h2 (tk2.ext x3) fun z S4 h4 α4 v4 H4 u4 s4 I4 r4 x4 R4 q4 tk4 => ?_))
      obtain ⟨z', e', rfl⟩ := map_inv h4
      exact thn (ho' y z z' e' α4 δ S4 pins s4 σ H4 w v4 u2 u4 I4 R4 ((q2.mono x3).mono x4) q4 rw r4) fun u s' h => h.ext (((x1.trans x2).trans x3).trans x4)⟩
end
end BR

set_option Elab.async false
set_option linter.all false
set_option maxRecDepth 100000
set_option maxHeartbeats 2000000
/-! ## defs and their calls -/
namespace BR
open PySem PySem.Spec PyProof.Rows L2

/-- a place where the rules may be used: calls have room, nothing is being handled, no repr is under way -/
structure Cz (k : Nat) (X : Cx) : Prop where
  nd : X.N.Nodup
  calm : X.calm = true
  room : Room k X.A
  gd : X.A.guards = some []
  po : PassesOwn (model X.prog X.w) X.A X.env X.xe
theorem Cz.mono {j k : Nat} {X : Cx} (c : Cz k X) (h : j ≤ k) : Cz j X := ⟨c.nd, c.calm, c.room.mono h, c.gd, c.po⟩

/-- what is wanted behind a call -/
def Wants (G : EX) (K : PySem.W.Frag) (α : List Addr) (H : Hp) (r : PL.RE) (Q : VK) (E : XK) : Prop := match r with
  | .ok d S' => ∀ v α' H', Ext α H α' H' → RSt K α' S' H' → RD K α' H' d v → Q v H'
  | .ex x S' => ∀ cls dd α' H', Ext α H α' H' → RSt K α' S' H' → RX G K α' H' cls dd x → E cls dd H'
/-- the def at f does what the mirror's function m says, by at most level k -/
structure FnC (G : EX) (P : Program) (w : World) (K : PySem.W.Frag) (mg : Str → Option Value) (base : Heap) (k : Nat) (f : Addr) (fd : FuncData) (ps : List Str) (m : PL.MF) : Prop where
  len : ∀ ds S r, m ds S = some r → ds.length = ps.length
  run : ∀ (A : Around) (outer : List Env) (s : Shared) (H : Hp) (args : Args) (us : List Value) (vs : List V) (Q : VK) (E : XK) (α : List Addr) (ds : List PL.D) (S : PL.Sto) (r : PL.RE), Room k A → A.guards = some [] →
    Env0 P w K mg base A outer s H → BindsTo s fd args (ps.zip us) → Vals vs us → RSt K α S H → RDs K α H ds vs → m ds S = some r → Wants G K α H r Q E →
    codeAny (model P w) A (.call (.ref f) args) (CR (L2.CX P w) outer P w H s Q E) s
theorem FnC.mono {G : EX} {P : Program} {w : World} {K : PySem.W.Frag} {mg : Str → Option Value} {base : Heap} {j k : Nat} {f : Addr} {fd : FuncData} {ps : List Str} {m : PL.MF} (F : FnC G P w K mg base j f fd ps m) (h : j ≤ k) :
    FnC G P w K mg base k f fd ps m := ⟨F.len, fun A outer s H args us vs Q E α ds S r hr => F.run A outer s H args us vs Q E α ds S r (hr.mono h)⟩

section
variable {G : EX} {X : Cx} {α α' : List Addr} {δ : PL.Env} {S : PL.Sto} {σ : L2.St} {H H' : Hp} {pins : List (Addr × Obj)} {s : Shared}
variable {k : Nat} {f : Addr} {fd : FuncData} {ps : List Str} {m : PL.MF} {dds : List PL.D} {dvs : List V} {ds : List Value} {x : Str} {p pos : Pos} {e : Expr} {es : List Expr} {ma : PL.MA}
/-- the callee runs -/
theorem run_c (F : FnC G X.prog X.w X.K X.mg X.base k f fd ps m) (hX : Cz k X) (hb : Binds X.K fd ps ds) (hd : Vals dvs ds) (I : Inv X pins σ H s) (R : Rel X.K α δ S σ H) {us : List Value} {vs : List V} {as : List PL.D} {r : PL.RE}
    (rv : Vals vs us) (q : RDs X.K α H as vs) (qd : RDs X.K α H dds dvs) (hm : m (as ++ dds) S = some r) (tk : TkE G X α σ H r) : wpAny (model X.prog X.w) X.A (call (.ref f) us) (PoE X pins α δ σ H r) X.xe s := by
  have r2 : Vals (vs ++ dvs) (us ++ ds) := rv.append hd
  have q2 := q.append qd
  have hl : (us ++ ds).length = ps.length := by rw [← r2.length, ← q2.length]; exact F.len _ _ _ hm
  have fin : ∀ (E : XK), (∀ (e : Value) (s' : Shared), L2.CX X.prog X.w X.stack H s E e s' → X.xe e s') → Wants G X.K α H r (fun v H' => PoV X.K α δ σ H r v H') E → wpAny (model X.prog X.w) X.A (call (.ref f) us) (PoE X pins α δ σ H r) X.xe s := fun E hE hW => by
    refine wpAny_call (codeAny_mono (F.run X.A X.stack s H ⟨us, []⟩ (us ++ ds) (vs ++ dvs) _ E α _ S r hX.room hX.gd I.env0 (hb s us I.kIn hl) r2 R.st q2 hm hW) fun r' s' hq => ?_)
    cases r' with
    | error e => exact hE e s' hq
    | ok fl =>
      cases fl with
      | ret u => exact PoE.ofV (I.after hq)
      | next => exact False.elim hq
      | brk => exact False.elim hq
      | cont => exact False.elim hq
  cases r with
  | ok d S1 =>
    refine fin (fun _ _ _ => False) (fun e s' hc => ?_) fun v α1 H1 x1 R1 q1 => ⟨α1, x1, R.mono x1 R1, q1⟩
    obtain ⟨_, _, _, _, _, _, _, _, _, _, _, _, z⟩ := hc
    exact z.elim
  | ex x S1 =>
    refine fin (fun cls dd H' => ∃ α', Ext α H α' H' ∧ RSt X.K α' S1 H' ∧ RX G X.K α' H' cls dd x) (fun e s' hc => ?_) fun cls dd α1 H1 x1 R1 q1 => ⟨α1, x1, R1, q1⟩
    exact tk e s' (XE.of_call I (fun cls dd H' ⟨a, x1, R1, q1⟩ => ⟨rfl, a, x1, R1, q1⟩) hc)
/-- f(e, ..): a def of the module -/
theorem c_call (F : FnC G X.prog X.w X.K X.mg X.base k f fd ps m) (hX : Cz k X) (hm : X.mg x = some (.ref f)) (hk : PySem.W.keepIn X.K (.ref f) = true) (hb : Binds X.K fd ps []) (ha : CA G X (e :: es) ma)
    (hg : Gl X x := by rfl) (hdb : (x == ("__debug__" : Str)) = false := by decide) (he : starEach (e :: es) X.env = (false, eval e X.env) :: starEach es X.env := by rfl) (hpl : (backTo pos (starEach es X.env)).any (·.1) = false := by rfl) :
    CE G X (.Call (.Name x p) (e :: es) [] pos) (PL.mCall m ma) := ⟨fun δ S r h0 α pins s σ H I R tk => by
  refine wpAny_Call_Name_kw (ld_glob I hg hm ?_ hdb)
  refine PySem.W.callWith_K (h₀ := X.base) I.ok.mod.kin hk (ha.then pos I R h0 tk fun as S1 h1 α1 vs H1 us s1 I1 rv x1 R1 q1 tk1 => ⟨I1.kIn, ?_⟩) he hpl
  exact thn (run_c F hX hb .nil I1 R1 rv q1 .nil (by rw [List.append_nil]; exact h1) tk1) fun u s' hu => hu.ext x1⟩
/-- f() -/
theorem c_call0 (F : FnC G X.prog X.w X.K X.mg X.base k f fd ps m) (hX : Cz k X) (hm : X.mg x = some (.ref f)) (hk : PySem.W.keepIn X.K (.ref f) = true) (hb : Binds X.K fd ps [])
    (hg : Gl X x := by rfl) (hdb : (x == ("__debug__" : Str)) = false := by decide) : CE G X (.Call (.Name x p) [] [] pos) (PL.mCall m PL.mNilA) := ⟨fun δ S r h0 α pins s σ H I R tk => by
  refine wpAny_Call_Name_kw (ld_glob I hg hm ?_ hdb)
  exact PySem.W.callWith_K0 I.kIn hk (run_c (us := []) F hX hb .nil I R .nil .nil .nil h0 tk)⟩
end

/-! ### a def by its body -/
section
variable {G : EX} {P : Program} {w : World} {K : PySem.W.Frag} {mg : Str → Option Value} {base : Heap}
theorem start_rel {α : List Addr} {S : PL.Sto} {H : Hp} {ds : List PL.D} {vs : List V} {N : List Str} {nl : Nat} (R : RSt K α S H) (q : RDs K α H ds vs) (hN : N.length = ds.length + nl) :
    Rel K α (ds.map some ++ List.replicate nl none) S (L2.start N vs) H := by
  have hl := q.length
  refine ⟨R, ?_, fun i d e => ?_⟩
  · unfold L2.start
    rw [List.length_append, List.length_append, List.length_map, List.length_map, List.length_replicate, List.length_replicate]
    omega
  · by_cases hi : i < ds.length
    · rw [List.getElem?_append_left (by simpa using hi), List.getElem?_map] at e
      cases hd : ds[i]? with
      | none => rw [hd] at e; cases e
      | some d' =>
        rw [hd] at e
        cases e
        obtain ⟨v, e1, q1⟩ := q.get hd
        refine ⟨v, ?_, q1⟩
        unfold L2.start
        rw [List.getElem?_append_left (by rw [List.length_map]; omega), List.getElem?_map, e1]; rfl
    · rw [List.getElem?_append_right (by simpa using hi), List.getElem?_replicate] at e
      split at e <;> cases e
/-- what a body's end is behind the call -/
def RetOk (r : PL.RS) (mres : PL.RE) : Prop := match r with
  | .rt d S1 => mres = .ok d S1
  | .nx _ S1 => mres = .ok .non S1
  | .ex x _ S1 => mres = .ex x S1
  | _ => False
theorem fnc_core {k : Nat} {f : Addr} {x qual : Str} {st : Stmt} {fd : FuncData} {N ps : List Str} {nl : Nat} {mb : PL.MS} {m : PL.MF} (F : Fun K x qual st f fd) (Sc : FnScope N ps (defScope st)) (hN : N.length = ps.length + nl)
    (hm : ∀ ds S r, m ds S = some r → ds.length = ps.length ∧ ∃ r0 r1, mb (ds.map some ++ List.replicate nl none) S = some r0 ∧ RetOk r0 r1 ∧
      ∀ (α α1 : List Addr) (H H1 : Hp) (Q : VK) (E : XK), RSt K α S H → α.length = S.length → Wants G K α H r Q E → Wants G K α H r1 Q E)
    (hbody : ∀ (cdv : Value) (A : Around) (outer : List Env) (s : Shared) (H : Hp) (E : XK), Cz k (cxOf (L2.CX P w) P w K mg base N qual (defScope st) f cdv A outer s H E) →
      CSs G (cxOf (L2.CX P w) P w K mg base N qual (defScope st) f cdv A outer s H E) (defBody st) mb) :
    FnC G P w K mg base (k + 1) f fd ps m := by
  obtain ⟨oc, od, kV, doc, pm, an, cdv, ct, osl, rfl, lk, hcd⟩ := F.ex
  refine ⟨fun ds S r h => (hm ds S r h).1, fun A outer s H args us vs Q E α ds S r hr hg e0 hb rv RS q hmr hW => ?_⟩
  obtain ⟨hl0, r0, r1, hr0, ret, hw⟩ := hm ds S r hmr
  have W1 := hw α α H H Q E RS RS.lenα hW
  have hl : vs.length = ps.length := by rw [← q.length]; exact hl0
  have KX : K.In s.heap := e0.mod.kin.keeps fun b o e => (e0.bs b o e).1
  have lim : s.heap.NoLimit := e0.mod.nolimit.keeps fun b o e => (e0.bs b o e).1
  have hkind : ∀ y ∈ ps.zip us, (defScope st).names.lookup y.1 = some .local ∨ ((defScope st).names.lookup y.1 = some .cell ∧ ((cellsFrom (s.heap.objs.size + 1) (defScope st).names []).lookup y.1).isSome = true) := by
    rintro ⟨n, v⟩ hy
    rcases Sc.par n (List.of_mem_zip hy).1 with z | z
    · exact Or.inl z
    · exact Or.inr ⟨z, PySem.W.cellsFrom_some _ _ _ (.inl z)⟩
  refine codeAny_call_function hr.depth (KX _ _ lk) rfl Sc.co Sc.gen rfl (PySem.W.codeRec_of KX hcd) (hb _ _ _ _ ?_)
  refine wpAny_newFunctionEnv_cells Sc.kind hkind fun env he s1 xx => ?_
  subst he
  refine ⟨lim.keeps xx.toInCall.keep, codeAny_func ?_⟩
  have I : Inv (cxOf (L2.CX P w) P w K mg base N qual (defScope st) f cdv A outer s H E) [] (L2.start N vs) H s1 := inv_start Sc hr.hd e0 hl rv xx
  have hz : Cz k (cxOf (L2.CX P w) P w K mg base N qual (defScope st) f cdv A outer s H E) := ⟨Sc.nd, rfl, hr.deeper _, hg, passes_of rfl⟩
  have hR : Rel K α (ds.map some ++ List.replicate nl none) S (L2.start N vs) H := start_rel RS q (by rw [hN, hl0])
  have tk0 : Takes (cxOf (L2.CX P w) P w K mg base N qual (defScope st) f cdv A outer s H E) (fun cls d _ H' => E cls d H') := takes_of rfl rfl rfl rfl
  have tk : TkS G (cxOf (L2.CX P w) P w K mg base N qual (defScope st) f cdv A outer s H E) α H r0 := by
    cases r0 with
    | ex x δ' S1 =>
      have e1 : r1 = .ex x S1 := ret
      subst e1
      exact Takes.imp tk0 fun cls dd σ' H' ⟨a, x1, R1, q1⟩ => W1 cls dd a H' x1 R1.st q1
    | _ => trivial
  refine wpAny_mono ((hbody cdv A outer s H E hz).run _ S r0 hr0 α [] s1 (L2.start N vs) H I hR tk) (fun fl s' hs => ?_) fun e s' hs => hs
  have fin : ∀ {σ' : L2.St} {H' : Hp} {v : V} {u : Value}, Inv (cxOf (L2.CX P w) P w K mg base N qual (defScope st) f cdv A outer s H E) [] σ' H' s' → RelV v u → Q v H' → L2.CE outer P w H s Q u s' := by
    intro σ' H' v u J rv' q'
    exact ⟨v, H', J.os, J.bare, J.base, J.hok, rv', q'⟩
  cases r0 with
  | rt d S1 =>
    have e1 : r1 = .ok d S1 := ret
    subst e1
    obtain ⟨u, rfl, a, σ', H', v, J, rv', x1, R1, q1⟩ := hs
    exact fin J rv' (W1 v a H' x1 R1 q1)
  | nx δ' S1 =>
    have e1 : r1 = .ok .non S1 := ret
    subst e1
    obtain ⟨rfl, a, σ', H', J, x1, R1⟩ := hs
    exact fin (v := V.non) (u := Value.none) J rfl (W1 V.non a H' x1 R1.st mk_non)
  | bk _ _ => exact False.elim ret
  | ct _ _ => exact False.elim ret
  | ex _ _ _ => exact False.elim hs
theorem Ext.trunc {α α' : List Addr} {H H' : Hp} (x : Ext α H α' H') : Ext α H α H' := by
  obtain ⟨a1, a2, a3, a4, a5⟩ := x
  refine ⟨List.prefix_refl _, a2, fun a h => ?_, a4, a5⟩
  rcases h with h | ⟨d, hd, q⟩
  · exact .inl (.inl h)
  · exact a3 a (.inr ⟨d, a1.subset hd, q⟩)
theorem Wants.trunc {α : List Addr} {S S1 : PL.Sto} {H : Hp} {Q : VK} {E : XK} {d : PL.D} (hα : α.length = S.length) (hd : d.pure = true) (h : Wants G K α H (.ok d (S1.take S.length)) Q E) : Wants G K α H (.ok d S1) Q E := by
  intro v α' H' x R q
  have hp : α'.take S.length = α := by
    obtain ⟨t, rfl⟩ := x.1
    rw [← hα, List.take_left]
  have R2 := R.take S.length
  rw [hp] at R2
  exact h v α H' x.trunc R2 (RD.pure hd q)
theorem Wants.truncX {α : List Addr} {S S1 : PL.Sto} {H : Hp} {Q : VK} {E : XK} {x : PL.Exn} (hα : α.length = S.length) (hd : x.val.pure = true) (h : Wants G K α H (.ex x (S1.take S.length)) Q E) : Wants G K α H (.ex x S1) Q E := by
  intro cls dd α' H' xt R q
  have hp : α'.take S.length = α := by
    obtain ⟨t, rfl⟩ := xt.1
    rw [← hα, List.take_left]
  have R2 := R.take S.length
  rw [hp] at R2
  obtain ⟨q1, d, v, q2, q3, q4⟩ := q
  exact h cls dd α H' xt.trunc R2 ⟨q1, d, v, q2, q3, RD.pure hd q4⟩
/-- THE RULE for a def -/
theorem fnc {k : Nat} {f : Addr} {x qual : Str} {st : Stmt} {fd : FuncData} {N ps : List Str} {np nl : Nat} {mb : PL.MS} (F : Fun K x qual st f fd) (Sc : FnScope N ps (defScope st)) (hp : ps.length = np) (hN : N.length = np + nl)
    (hbody : ∀ (cdv : Value) (A : Around) (outer : List Env) (s : Shared) (H : Hp) (E : XK), Cz k (cxOf (L2.CX P w) P w K mg base N qual (defScope st) f cdv A outer s H E) →
      CSs G (cxOf (L2.CX P w) P w K mg base N qual (defScope st) f cdv A outer s H E) (defBody st) mb) :
    FnC G P w K mg base (k + 1) f fd ps (PL.mFn np nl mb) := by
  refine fnc_core F Sc (by rw [hN, hp]) (fun ds S r h => ?_) hbody
  unfold PL.mFn at h
  split at h
  · rename_i hl
    refine ⟨by rw [hl, hp], ?_⟩
    split at h
    · rename_i d S1 e
      split at h
      · rename_i hd
        cases h
        exact ⟨_, .ok d S1, e, rfl, fun α α1 H H1 Q E R hα hW => Wants.trunc hα hd hW⟩
      · cases h
    · rename_i δ1 S1 e
      cases h
      exact ⟨_, .ok .non S1, e, rfl, fun α α1 H H1 Q E R hα hW => Wants.trunc hα rfl hW⟩
    · rename_i x δ1 S1 e
      split at h
      · rename_i hd
        cases h
        exact ⟨_, .ex x S1, e, rfl, fun α α1 H H1 Q E R hα hW => Wants.truncX hα hd hW⟩
      · cases h
    · cases h
  · cases h
theorem fncR {k : Nat} {f : Addr} {x qual : Str} {st : Stmt} {fd : FuncData} {N ps : List Str} {np nl : Nat} {mb : PL.MS} (F : Fun K x qual st f fd) (Sc : FnScope N ps (defScope st)) (hp : ps.length = np) (hN : N.length = np + nl)
    (hbody : ∀ (cdv : Value) (A : Around) (outer : List Env) (s : Shared) (H : Hp) (E : XK), Cz k (cxOf (L2.CX P w) P w K mg base N qual (defScope st) f cdv A outer s H E) →
      CSs G (cxOf (L2.CX P w) P w K mg base N qual (defScope st) f cdv A outer s H E) (defBody st) mb) :
    FnC G P w K mg base (k + 1) f fd ps (PL.mFnR np nl mb) := by
  refine fnc_core F Sc (by rw [hN, hp]) (fun ds S r h => ?_) hbody
  unfold PL.mFnR at h
  split at h
  · rename_i hl
    refine ⟨by rw [hl, hp], ?_⟩
    split at h
    · rename_i d S1 e
      cases h
      exact ⟨_, .ok d S1, e, rfl, fun α α1 H H1 Q E R hα hW => hW⟩
    · rename_i δ1 S1 e
      cases h
      exact ⟨_, .ok .non S1, e, rfl, fun α α1 H H1 Q E R hα hW => hW⟩
    · rename_i x δ1 S1 e
      cases h
      exact ⟨_, .ex x S1, e, rfl, fun α α1 H H1 Q E R hα hW => hW⟩
    · cases h
  · cases h
end
end BR

set_option Elab.async false
set_option linter.all false
set_option maxRecDepth 100000
set_option maxHeartbeats 2000000
/-! ## items, slices, ==, built-ins -/
namespace BR
open PySem PySem.Spec PyProof.Rows L2
section
variable {G : EX} {X : Cx} {α α' : List Addr} {δ : PL.Env} {S : PL.Sto} {σ : L2.St} {H H' : Hp} {pins : List (Addr × Obj)} {s : Shared}
variable {a b c e : Expr} {ma mb mc m : PL.ME} {pos : Pos} {es : List Expr} {mas : PL.MA}

/-- a sequence that is read -/
theorem seq_rd {d : PL.D} {ds : List PL.D} {v : V} (h : PL.seqOf S d = some ds) (R : Rel X.K α δ S σ H) (q : RD X.K α H d v) : ∃ p vs, v = .ref p ∧ (SqL X.K H p vs ∨ SqT X.K H p vs) ∧ RDs X.K α H ds vs := by
  cases d <;> simp only [PL.seqOf] at h <;> try cases h
  · obtain ⟨p, vs, e, q1, q2⟩ := rd_tup q
    exact ⟨p, vs, e, .inr q1, q2⟩
  · obtain ⟨p, o, vs, e, q1, q2⟩ := rd_lst q
    exact ⟨p, vs, e, .inl (frz_sq q1), q2⟩
  · rename_i n
    split at h
    · rename_i xs hs
      cases h
      obtain ⟨p, e1, e2⟩ := rd_ref q
      obtain ⟨β, h1, h2, nd, hb, ob⟩ := R.st
      obtain ⟨p', b', e3, e4, ⟨vs, e5, e6⟩, _⟩ := ob n _ hs
      rw [e1] at e3; cases e3
      exact ⟨p, vs, e2, .inl (SqL.of e5), e6⟩
    · cases h
theorem ixN_eq (n : Nat) (i : Int) : PL.ixN n i = L2.ixN n i := rfl
theorem at_rd {ds : List PL.D} {vs : List V} {i : Int} {z : PL.D} (q : RDs X.K α H ds vs) (h : ((PL.ixN ds.length i).bind fun j => ds[j]?) = some z) : ∃ w, L2.atI vs i = some w ∧ RD X.K α H z w := by
  have hl := q.length
  unfold L2.atI
  rw [← hl, ← ixN_eq]
  cases hj : PL.ixN ds.length i with
  | none => rw [hj] at h; cases h
  | some j =>
    rw [hj] at h
    exact q.get h
theorem opIx_inv {S : PL.Sto} {x y z : PL.D} (h : PL.opIx S x y = some z) : ∃ i, y = .int i ∧ ((∃ l j c, x = .str l ∧ l.length ≤ PL.LINE ∧ PL.ixN l.length i = some j ∧ l[j]? = some c ∧ z = .str [c]) ∨
    ∃ ds, PL.seqOf S x = some ds ∧ ((PL.ixN ds.length i).bind fun j => ds[j]?) = some z) := by
  have gen : ∀ i, ((PL.seqOf S x).bind fun xs => (PL.ixN xs.length i).bind fun j => xs[j]?) = some z → ∃ ds, PL.seqOf S x = some ds ∧ ((PL.ixN ds.length i).bind fun j => ds[j]?) = some z := fun i h => by
    cases hq : PL.seqOf S x with
    | none => rw [hq] at h; cases h
    | some xs => rw [hq] at h; exact ⟨xs, rfl, h⟩
  cases y with
  | int i =>
    refine ⟨i, rfl, ?_⟩
    cases x with
    | str l =>
      refine .inl ?_
      simp only [PL.opIx] at h
      split at h
      · rename_i hl
        cases hj : PL.ixN l.length i with
        | none => rw [hj] at h; cases h
        | some j =>
          rw [hj, Option.bind_some] at h
          cases hc : l[j]? with
          | none => rw [hc] at h; cases h
          | some c => rw [hc] at h; cases h; exact ⟨l, j, c, rfl, hl, hj, hc, rfl⟩
      · cases h
    | _ => exact .inr (gen i h)
  | non => simp [PL.opIx] at h
  | bl _ => simp [PL.opIx] at h
  | str _ => simp [PL.opIx] at h
  | tup _ => simp [PL.opIx] at h
  | lst _ => simp [PL.opIx] at h
  | ref _ => simp [PL.opIx] at h
/-- x[i] -/
theorem c_ix (ha : CE G X a ma) (hb : CE G X b mb) (hs : PlainIx b := by exact fun _ _ => rfl) : CE G X (.Subscript a b pos) (PL.mBinS PL.opIx ma mb) := ⟨fun δ S r hm α pins s σ H I R tk => by
  refine Subscript_ (ha.then I R hm tk fun x S1 h1 α1 v H1 u1 s1 I1 rv x1 R1 q1 tk1 => hb.then I1 R1 h1 tk1 fun y S2 h2 α2 w H2 u2 s2 I2 rw x2 R2 q2 tk2 => ?_)
  obtain ⟨z, hz, rfl⟩ := map_inv h2
  have q1 := q1.mono x2
  refine thn ?_ fun u s' (h : PoE X pins α2 δ σ H2 (.ok z S2) u s') => h.ext (x1.trans x2)
  obtain ⟨i, ey, h5⟩ := opIx_inv hz
  clear hz
  subst ey
  have e2 := rd_int q2
  subst e2
  rcases h5 with ⟨l, j, c, ex, hl, hj, hc, ez⟩ | ⟨ds, hq, hz⟩
  · subst ex ez
    obtain ⟨x0, rfl, hx⟩ := rd_str q1
    have hlen : x0.length = l.length := by rw [← hx]; simp [Str.length]
    refine thn (ix_str a b pins s2 σ H2 _ _ u1 u2 (PoV X.K α2 δ σ H2 (.ok _ S2)) I2 rv rw ⟨x0, i, c, rfl, rfl, by rw [hlen, ← line_eq]; exact hl, ?_, PoV.here R2 (mk_str rfl)⟩ (hs _ _)) fun u s' hu => PoE.ofV hu
    unfold L2.atI
    rw [hx, ← ixN_eq, hj]; exact hc
  · obtain ⟨p, vs, rfl, hsq, q⟩ := seq_rd hq R2 q1
    obtain ⟨w', e1, qw⟩ := at_rd q hz
    refine thn (ix_seq a b pins s2 σ H2 _ _ u1 u2 (PoV X.K α2 δ σ H2 (.ok _ S2)) I2 rv rw ?_ (hs _ _)) fun u s' hu => PoE.ofV hu
    rcases hsq with hsq | hsq
    · exact .inl ⟨p, vs, i, w', rfl, rfl, hsq, e1, PoV.here R2 qw⟩
    · exact .inr (.inl ⟨p, vs, i, w', rfl, rfl, hsq, e1, PoV.here R2 qw⟩)⟩

/-! ### slices -/
theorem sIx_eq (n d : Nat) (o : Option Int) : PL.sIx n d o = HT.sIx n d o := by cases o <;> rfl
theorem RDs.cut {K : PySem.W.Frag} {ds : List PL.D} {vs : List V} (h : RDs K α H ds vs) (lo hi : Option Int) : RDs K α H (PL.cut ds lo hi) (cutV vs lo hi) := by
  unfold PL.cut cutV
  rw [h.length, sIx_eq, sIx_eq]
  exact (h.drop _).take _
/-- a slice's bound -/
def CPart (G : EX) (X : Cx) (e : Option Expr) (m : Option PL.ME) : Prop := match e, m with
  | none, none => True
  | some e, some m => CE G X e m
  | _, _ => False
/-- the mirror's step over a bound -/
def partK (p : Option PL.ME) (δ : PL.Env) (S : PL.Sto) (k : Option Int → PL.Sto → Option PL.RE) : Option PL.RE := match p with
  | none => k none S
  | some e => PL.bE (e δ S) fun v S' => match v with
    | .int i => k (some i) S'
    | _ => none
theorem part_then {eo : Option Expr} {mo : Option PL.ME} (h : CPart G X eo mo) (I : Inv X pins σ H s) (R : Rel X.K α δ S σ H) {k : Option Int → PL.Sto → Option PL.RE} {r : PL.RE} (hk : partK mo δ S k = some r) (tk : TkE G X α σ H r) {Q : Value → Shared → Prop}
    (q : ∀ o S1, k o S1 = some r → ∀ α1 H1 u s1, Inv X pins σ H1 s1 → IsPart u o → Ext α H α1 H1 → Rel X.K α1 δ S1 σ H1 → TkE G X α1 σ H1 r → Q u s1) :
    wpAny (model X.prog X.w) X.A (evalPart eo X.env) Q X.xe s := by
  cases eo with
  | none =>
    cases mo with
    | none => rw [evalPart_none]; exact wpAny_pure (q none S hk α H _ s I .none (Ext.refl _ _) R tk)
    | some m => exact h.elim
  | some e =>
    cases mo with
    | none => exact h.elim
    | some m =>
      rw [evalPart_some]
      refine CE.then (show CE G X e m from h) I R hk tk fun d S1 h1 α1 v H1 u s1 I1 rv x1 R1 q1 tk1 => ?_
      cases d <;> try cases h1
      have e1 := rd_int q1
      subst e1
      obtain ⟨t, rfl⟩ := rv
      exact q _ S1 h1 α1 H1 _ s1 I1 (.int _ t) x1 R1 tk1
theorem slice_eq (ma : PL.ME) (lo hi : Option PL.ME) (δ : PL.Env) (S : PL.Sto) : PL.mSlice ma lo hi δ S = PL.bE (ma δ S) fun x S1 => partK lo δ S1 fun l S2 => partK hi δ S2 fun h S3 => match x with
    | .tup xs => some (.ok (.tup (PL.cut xs l h)) S3)
    | .lst xs => some (.ok (.lst (PL.cut xs l h)) S3)
    | .str xs => if xs.length ≤ PL.LINE then some (.ok (.str (PL.cut xs l h)) S3) else none
    | _ => none := by
  cases lo <;> cases hi <;> rfl
theorem c_slice {lo hi : Option Expr} {mlo mhi : Option PL.ME} {p2 : Pos} (ha : CE G X a ma) (hl : CPart G X lo mlo) (hh : CPart G X hi mhi) : CE G X (.Subscript a (.Slice lo hi none p2) pos) (PL.mSlice ma mlo mhi) := ⟨fun δ S r hm α pins s σ H I R tk => by
  rw [slice_eq] at hm
  refine Subscript_ (ha.then I R hm tk fun x S1 h1 α1 v H1 u1 s1 I1 rv x1 R1 q1 tk1 => ?_)
  refine wpAny_Slice (part_then hl I1 R1 h1 tk1 fun lo' S2 h2 α2 H2 vl s2 I2 pl x2 R2 tk2 => part_then hh I2 R2 h2 tk2 fun hi' S3 h3 α3 H3 vu s3 I3 pu x3 R3 tk3 => ?_)
  rw [evalPart_none]
  refine wpAny_pure ?_
  have I4 : Inv X pins σ H3 { s3 with heap := s3.heap.push { cls := .type "slice", data := .fields #[vl, vu, .none] } } := I3.kept (t' := s3.toks) fun b ob q => Heap.get?_push_of_some _ q
  have q3 := (q1.mono x2).mono x3
  have go : ∀ {rr : V → Option Int → Option Int → Hp → VK → Prop} {Q : VK}, SlR X rr → rr v lo' hi' H3 Q → (∀ u s', EP X pins σ Q u s' → PoE X pins α3 δ σ H3 r u s') →
      wpAny (model X.prog X.w) X.A (subscriptTail a (.Slice lo hi none p2) u1 (.ref s3.heap.objs.size)) (PoE X pins α δ σ H r) X.xe { s3 with heap := s3.heap.push { cls := .type "slice", data := .fields #[vl, vu, .none] } } := by
    intro rr Q hr hq hQ
    obtain ⟨T, id, hT, ht, hg⟩ := hr pins { s3 with heap := s3.heap.push { cls := .type "slice", data := .fields #[vl, vu, .none] } } σ H3 v u1 vl vu lo' hi' s3.heap.objs.size Q I4 rv (Heap.IsSliceOf.new ..) pl pu hq
    exact thn (tail_any (ops := [.ref s3.heap.objs.size, u1]) ht hT hg (by with_unfolding_all rfl)) fun u s' hu => (hQ u s' hu).ext ((x1.trans x2).trans x3)
  cases x <;> try cases h3
  · rename_i l
    obtain ⟨hz, h3⟩ := if_inv h3
    cases h3
    obtain ⟨x0, rfl, hx⟩ := rd_str q3
    have hlen : x0.length = l.length := by rw [← hx]; simp [Str.length]
    refine go (Q := PoV X.K α3 δ σ H3 (.ok (.str (PL.cut l lo' hi')) S3)) sl_str ⟨x0, rfl, by rw [hlen, ← line_eq]; exact hz, PoV.here R3 (mk_str ?_)⟩ fun u s' hu => PoE.ofV hu
    show ((x0.cps.toList.drop (HT.sIx x0.length 0 lo')).take (HT.sIx x0.length x0.length hi' - HT.sIx x0.length 0 lo')).toArray.toList = PL.cut l lo' hi'
    unfold PL.cut
    rw [hlen, hx, sIx_eq, sIx_eq, List.toList_toArray]
  · rename_i l
    obtain ⟨p, vs, rfl, hT, t⟩ := rd_tup q3
    refine go (Q := fun w H' => (w = .ref p ∧ H' = H3 ∧ PL.cut l lo' hi' = l) ∨ ∃ p', w = .ref p' ∧ H3 p' = none ∧ H' = upd H3 p' (.tup (cutV vs lo' hi'))) sl_tupA ⟨p, vs, rfl, hT, fun hw => .inl ⟨rfl, rfl, ?_⟩, fun hw p' hp => .inr ⟨p', rfl, hp, rfl⟩⟩ fun u s' hu => ?_
    · unfold PL.cut
      have e0 := t.length
      rw [sIx_eq, sIx_eq, e0, hw.1, hw.2, List.drop_zero, Nat.sub_zero, ← e0, List.take_length]
    · obtain ⟨w, H', I', rw', (⟨e1, e2, e3⟩ | ⟨p', e1, hp, e2⟩)⟩ := hu
      · subst e1 e2
        rw [e3]
        exact PoE.here I' rw' R3 q3
      · subst e1 e2
        cases rw'
        exact PoE.tup I' hp R3 (t.cut _ _)
  · rename_i l
    obtain ⟨p, o, vs, rfl, hT, t⟩ := rd_lst q3
    refine go (Q := fun w H' => ∃ p', w = .ref p' ∧ H3 p' = none ∧ H' = upd H3 p' (.lst (cutV vs lo' hi'))) sl_list ⟨p, vs, rfl, frz_sq hT, fun p' hp => ⟨p', rfl, hp, rfl⟩⟩ fun u s' hu => ?_
    obtain ⟨w, H', I', rw', p', e1, hp, e2⟩ := hu
    subst e1 e2
    cases rw'
    exact PoE.lst I' hp R3 (t.cut _ _)⟩
end
end BR

set_option Elab.async false
set_option linter.all false
set_option maxRecDepth 100000
set_option maxHeartbeats 2000000
namespace BR
open PySem PySem.Spec PyProof.Rows L2
/-! ### x[::-1] -/
section
variable {prog : Program} {w : World} {A : Around} {E : Value → Shared → Prop} {s : Shared}
theorem sliceApplied_rev {sl : Addr} {vs : Value} {n : Nat} {Q : Int × Int × Nat → Shared → Prop} (hs : s.heap.IsSliceOf sl .none .none vs) (ps : IsPart vs (some (-1)))
    (h : Q ((n : Int) - 1, -1, n) s) : wpAny (model prog w) A (Builtin.Slice.sliceApplied (.ref sl) (pure (n : Int))) Q E s := by
  obtain ⟨os, hos, hcs, hds⟩ := id hs
  unfold Builtin.Slice.sliceApplied Builtin.Slice.sliceFields
  refine wpAny_bind (wpAny_bind (wpAny_field hos hds (x := .none) rfl (wpAny_bind (wpAny_field hos hds (x := .none) rfl (wpAny_bind (wpAny_field hos hds (x := vs) rfl (wpAny_pure ?_)))))))
  refine wpAny_bind (HT.slicePart_ ps ?_)
  show wpAny _ _ (if ((-1 : Int) == 0) = true then _ else _) _ _ s
  rw [if_neg (by decide)]
  refine wpAny_bind (slicePart_none (wpAny_bind (slicePart_none (wpAny_bind (wpAny_pure ?_)))))
  show wpAny _ _ (pure ((n : Int) - 1, (-1 : Int), Builtin.Slice.slicePlaces ((n : Int) - 1) (-1) (-1))) _ _ s
  have e : Builtin.Slice.slicePlaces ((n : Int) - 1) (-1) (-1) = n := by
    unfold Builtin.Slice.slicePlaces
    rw [if_neg (by decide)]
    by_cases hn : n = 0
    · subst hn; rfl
    · rw [if_pos (by omega)]
      rw [show (- -1 : Int) = 1 from rfl, Int.ediv_one]; omega
  rw [e]
  exact wpAny_pure h
theorem pick_rev (xs : Array Value) : ((List.range xs.size).filterMap fun (m : Nat) => xs[(((xs.size : Nat) : Int) - 1 + (m : Int) * (-1)).toNat]?).toArray = xs.toList.reverse.toArray := by
  have e : (List.range xs.size).reverse = (List.range xs.size).map fun m => xs.size - 1 - m := by
    refine List.ext_getElem (by simp) fun i h1 h2 => ?_
    rw [List.getElem_reverse]; simp
  have e2 : ∀ m ∈ List.range xs.size, xs[(((xs.size : Nat) : Int) - 1 + (m : Int) * (-1)).toNat]? = xs[xs.size - 1 - m]? := fun m hm => by
    have hm : m < xs.size := List.mem_range.mp hm
    rw [show (((xs.size : Nat) : Int) - 1 + (m : Int) * (-1)).toNat = xs.size - 1 - m by omega]
  have e3 : ∀ l : List Nat, (∀ m ∈ l, m ∈ List.range xs.size) → l.filterMap (fun (m : Nat) => xs[(((xs.size : Nat) : Int) - 1 + (m : Int) * (-1)).toNat]?) = (l.map fun m => xs.size - 1 - m).filterMap (xs[·]?) := by
    intro l
    induction l with
    | nil => intro _; rfl
    | cons m l ih =>
      intro h
      rw [List.filterMap_cons, List.map_cons, List.filterMap_cons, e2 m (h m List.mem_cons_self), ih fun z hz => h z (List.mem_cons_of_mem _ hz)]
  have e4 : (List.range xs.size).filterMap (xs[·]?) = xs.toList := PySem.W.krv_all xs
  rw [e3 _ (fun _ h => h), ← e, List.filterMap_reverse, e4]
open HT in
theorem getItem_tuple_rev {t sl : Addr} {items : Array Value} {vs : Value} {Q : Value → Shared → Prop} (ht : IsTup s.heap t items) (hs : s.heap.IsSliceOf sl .none .none vs) (ps : IsPart vs (some (-1)))
    (h : Q (.ref s.heap.objs.size) { s with heap := s.heap.push { cls := .type "tuple", data := .seq items.toList.reverse.toArray } })
    (hsz : items.size ≤ sizeLine) : wpAny (model prog w) A (getItem (.ref t) (.ref sl)) Q E s := by
  have htake : sizeOk (.seq items.toList.reverse.toArray) := by
    show items.toList.reverse.toArray.size ≤ sizeLine
    rw [List.size_toArray, List.length_reverse, Array.length_toList]
    exact hsz
  obtain ⟨os, hos, hcs, hds⟩ := id hs
  have hTs : s.TypeIs (.ref sl) "slice" := ⟨os, hos, hcs⟩
  unfold getItem
  try with_reducible refine wpAny_holding ?_
  first | refine wpAny_bind (wpAny_pure ?_) | skip
  refine wpAny_bind (wpAny_sequenceKey ht.typeIs (by decide) ?_)
  refine wpAny_bind (wpAny_callSpecial?_slot (name := Str.ofString "__getitem__") ht.typeIs PyProof.Rows.slot_tuple_getitem
    (wpAny_call_entry PyProof.Rows.slot_tuple_getitem ht.typeIs entry_tuple_getitem ?_ (args_tuple_getitem _ _)))
  show wpAny _ _ (Builtin.Tuple.tupleItemsOf (.ref t) >>= _) _ _ s
  refine wpAny_bind (tupleItemsOf_ ht ?_)
  refine wpAny_bind (wpAny_typeOf hTs ?_)
  rw [if_pos (by decide)]
  refine wpAny_bind (sliceApplied_rev hs ps ?_)
  have hno : ¬ ((((items.size : Int) - 1) == 0 && (-1 : Int) == 1 && (items.size) == items.size) = true) := by
    rw [show ((-1 : Int) == 1) = false from rfl, Bool.and_false, Bool.false_and]
    exact Bool.false_ne_true
  show wpAny _ _ (if (((items.size : Int) - 1) == 0 && (-1 : Int) == 1 && (items.size) == items.size) = true then _ else _) _ _ s
  rw [if_neg hno, pick_rev]
  first
    | exact wpAny_bind (m := Builtin.Tuple.tupleExact _) (wpAny_newObj_type (wpAny_pure ⟨_, rfl, wpAny_pure h⟩) htake)
    | exact wpAny_bind (m := Builtin.Tuple.tupleExact _) (wpAny_newObj_type (wpAny_bind (wpAny_pure (wpAny_pure ⟨_, rfl, wpAny_pure h⟩))) htake)
    | exact wpAny_bind (wpAny_bind (m := Builtin.Tuple.tupleExact _) (wpAny_newObj_type (wpAny_pure (wpAny_pure ⟨_, rfl, wpAny_pure h⟩)) htake))
    | exact wpAny_bind (wpAny_bind (m := Builtin.Tuple.tupleExact _) (wpAny_newObj_type (wpAny_pure ⟨_, rfl, wpAny_pure h⟩) htake))
end
section
variable {G : EX} {X : Cx} {α α' : List Addr} {δ : PL.Env} {S : PL.Sto} {σ : L2.St} {H H' : Hp} {pins : List (Addr × Obj)} {s : Shared}
variable {a b c e : Expr} {ma mb mc m : PL.ME} {pos : Pos} {es : List Expr} {mas : PL.MA}
theorem c_rev {k : Nat} {p1 p2 p3 : Pos} (ha : CE G X a ma) : CE G X (.Subscript a (.Slice none none (some (.UnaryOp .USub (.Constant (.int 1) k p1) p2)) p3) pos) (PL.mUn PL.opRev ma) := ⟨fun δ S r hm α pins s σ H I R tk => by
  refine Subscript_ (ha.then I R hm tk fun x S1 h1 α1 v H1 u1 s1 I1 rv x1 R1 q1 tk1 => ?_)
  obtain ⟨z, hz, rfl⟩ := map_inv h1
  have hst : PO X (some (.UnaryOp .USub (.Constant (.int 1) k p1) p2)) (tPart (tUn (rU fun i => .int (-i)) (tC (.int 1)))) := po_some (pe_un un_neg pe_int)
  refine wpAny_Slice ?_
  rw [evalPart_none]
  refine wpAny_pure (wpAny_pure ?_)
  refine thn (hst.run pins s1 σ H1 (fun o H4 => o = some (-1) ∧ H4 = H1) I1 ⟨1, rfl, -1, rfl, rfl, rfl⟩) fun vs s4 ⟨o, H4, I4, ps, eo, e4⟩ => ?_
  subst eo e4
  have I5 : Inv X pins σ H4 { s4 with heap := s4.heap.push { cls := .type "slice", data := .fields #[.none, .none, vs] } } := I4.kept (t' := s4.toks) fun b ob q => Heap.get?_push_of_some _ q
  show wpAny (model X.prog X.w) X.A (subscriptTail a (.Slice none none (some (.UnaryOp .USub (.Constant (.int 1) k p1) p2)) p3) u1 (.ref s4.heap.objs.size)) _ X.xe { s4 with heap := s4.heap.push { cls := .type "slice", data := .fields #[.none, .none, vs] } }
  refine thn ?_ fun u s' (h : PoE X pins α1 δ σ H4 (.ok z S1) u s') => h.ext x1
  cases x <;> simp only [PL.opRev] at hz <;> cases hz
  · obtain ⟨p, ws, rfl, hT, t⟩ := rd_tup q1
    cases rv
    obtain ⟨its, r, hI, hz⟩ := I5.tuple hT
    have hlen := r.length
    refine tail_any (ops := [.ref p, .ref s4.heap.objs.size]) hI.typeIs PyProof.Rows.slot_tuple_getitem.lookup ?_ (by with_unfolding_all rfl)
    refine getItem_tuple_rev hI (Heap.IsSliceOf.new _ .none .none vs) ps ?_ (by rw [List.size_toArray]; omega)
    refine PoE.tup (I5.laid (t' := s4.toks) (o := .tup ws.reverse) (fun b ob q => Heap.get?_push_of_some _ q) (Nat.le_refl _) ?_) (I5.hok.fresh (Nat.le_refl _)) R1 t.reverse
    exact ⟨by rw [List.length_reverse]; exact hz, _, r.reverse, IsTup.new _ _⟩
  · obtain ⟨p, o, ws, rfl, hT, t⟩ := rd_lst q1
    cases rv
    obtain ⟨its, r, hI, hz⟩ := I5.list (frz_sq hT)
    have hlen := r.length
    refine tail_any (ops := [.ref p, .ref s4.heap.objs.size]) hI.isList.typeIs (PySem.slot_list_getitem.lookup) ?_ (by with_unfolding_all rfl)
    refine wpAny_getItem_list_slice hI.isList (Heap.IsSliceOf.new _ .none .none vs) .none .none ps (by decide) ?_ (by rw [List.size_toArray]; omega)
    rw [PySem.W.krv_pick]
    refine PoE.lst (I5.laid (t' := s4.toks) (o := .lst ws.reverse) (fun b ob q => Heap.get?_push_of_some _ q) (Nat.le_refl _) ?_) (I5.hok.fresh (Nat.le_refl _)) R1 t.reverse
    exact ⟨by rw [List.length_reverse]; exact hz, _, 0, r.reverse, Heap.get?_push_size _ rfl⟩⟩

/-! ### data: ==, repr -/
mutual
def toPy : PL.D → PyData
  | .non => .none | .bl b => .bool b | .int i => .int i | .str l => .str ⟨l.toArray⟩
  | .tup ds => .tuple (toPys ds) | .lst ds => .list (toPys ds) | .ref _ => .none
def toPys : List PL.D → List PyData
  | [] => []
  | d :: ds => toPy d :: toPys ds
end
mutual
theorem dp_of {K : PySem.W.Frag} {n : Nat} : ∀ {d : PL.D} {v : V}, d.okN n = true → RD K α H d v → Dp K H v (toPy d)
  | .non, _, _, q => by rw [rd_non q]; simp only [toPy]; exact .non
  | .bl b, _, _, q => by rw [rd_bl q]; simp only [toPy]; exact .bl b
  | .int i, _, _, q => by rw [rd_int q]; simp only [toPy]; exact .int i
  | .str l, _, _, q => by
    obtain ⟨x, rfl, e⟩ := rd_str q
    simp only [toPy]
    have : x = ⟨l.toArray⟩ := by rw [← e]
    rw [← this]; exact .str x
  | .tup ds, _, h, q => by
    obtain ⟨a, vs, rfl, h1, h2⟩ := rd_tup q
    simp only [toPy]
    cases n with
    | zero => simp [PL.D.okN] at h
    | succ n => simp only [PL.D.okN] at h; exact .tup h1 (dps_of h h2)
  | .lst ds, _, h, q => by
    obtain ⟨a, o, vs, rfl, h1, h2⟩ := rd_lst q
    simp only [toPy]
    cases n with
    | zero => simp [PL.D.okN] at h
    | succ n => simp only [PL.D.okN] at h; exact .lst (frz_sq h1) (dps_of h h2)
  | .ref _, _, h, _ => by simp [PL.D.okN] at h
theorem dps_of {K : PySem.W.Frag} {n : Nat} : ∀ {ds : List PL.D} {vs : List V}, PL.D.okNs ds n = true → RDs K α H ds vs → DpAll K H vs (toPys ds)
  | [], _, _, q => by simp only [RDs] at q; subst q; simp only [toPys]; exact .nil
  | d :: ds, _, h, q => by
    simp only [RDs] at q
    obtain ⟨v, r, rfl, q1, q2⟩ := q
    simp only [PL.D.okNs, Bool.and_eq_true] at h
    simp only [toPys]
    exact .cons (dp_of h.1 q1) (dps_of h.2 q2)
end
mutual
theorem lay_of {n : Nat} : ∀ {d : PL.D}, d.okN n = true → (toPy d).canLay0 = true ∧ (toPy d).depth ≤ n
  | .non, _ => by simp [toPy, PyData.canLay0, PyData.depth]
  | .bl b, _ => by simp [toPy, PyData.canLay0, PyData.depth]
  | .int i, _ => by simp [toPy, PyData.canLay0, PyData.depth]
  | .str l, h => by
    simp only [PL.D.okN] at h
    simp only [toPy, PyData.canLay0, PyData.depth, PyData.strOk]
    exact ⟨by simpa using h, Nat.zero_le _⟩
  | .tup ds, h => by
    cases n with
    | zero => simp [PL.D.okN] at h
    | succ n =>
      simp only [PL.D.okN] at h
      obtain ⟨h1, h2⟩ := lays_of h
      simp only [toPy, PyData.canLay0, PyData.depth]
      exact ⟨h1, by omega⟩
  | .lst ds, h => by
    cases n with
    | zero => simp [PL.D.okN] at h
    | succ n =>
      simp only [PL.D.okN] at h
      obtain ⟨h1, h2⟩ := lays_of h
      simp only [toPy, PyData.canLay0, PyData.depth]
      exact ⟨h1, by omega⟩
  | .ref _, h => by simp [PL.D.okN] at h
theorem lays_of {n : Nat} : ∀ {ds : List PL.D}, PL.D.okNs ds n = true → PyData.canLayAll0 (toPys ds) = true ∧ PyData.depthAll (toPys ds) ≤ n
  | [], _ => by simp [toPys, PyData.canLayAll0, PyData.depthAll]
  | d :: ds, h => by
    simp only [PL.D.okNs, Bool.and_eq_true] at h
    obtain ⟨a1, a2⟩ := lay_of h.1
    obtain ⟨b1, b2⟩ := lays_of h.2
    simp only [toPys, PyData.canLayAll0, PyData.depthAll, a1, b1, Bool.and_self, true_and]
    omega
end
theorem shaped_of {d : PL.D} (h : d.ok = true) : SeqAt.shaped (toPy d) = true := by
  obtain ⟨a, b⟩ := lay_of h
  unfold SeqAt.shaped
  rw [a, Bool.true_and]
  exact decide_eq_true (by omega)
mutual
theorem eqv_of {n k : Nat} : ∀ {x y : PL.D}, x.okN n = true → y.okN k = true → PyData.eqv (toPy x) (toPy y) = PL.eqD x y
  | .non, y, _, h => by cases y <;> first | (simp [PL.D.okN] at h; done) | simp [toPy, PyData.eqv, PL.eqD]
  | .bl b, y, _, h => by cases y <;> first | (simp [PL.D.okN] at h; done) | simp [toPy, PyData.eqv, PL.eqD]
  | .int i, y, _, h => by cases y <;> first | (simp [PL.D.okN] at h; done) | simp [toPy, PyData.eqv, PL.eqD]
  | .str l, y, _, h => by
    cases y <;> first | (simp [PL.D.okN] at h; done) | simp [toPy, PyData.eqv, PL.eqD]
    rename_i l2
    rw [Bool.eq_iff_iff, beq_iff_eq, beq_iff_eq]
    refine ⟨fun z => ?_, fun z => by rw [z]⟩
    have z1 : l.toArray = l2.toArray := by injection z
    simpa using congrArg Array.toList z1
  | .tup ds, y, h1, h => by
    cases y <;> try (first | (simp [PL.D.okN] at h; done) | (simp [toPy, PyData.eqv, PL.eqD]; done))
    cases n with
    | zero => simp [PL.D.okN] at h1
    | succ n => cases k with
      | zero => simp [PL.D.okN] at h
      | succ k =>
        simp only [PL.D.okN] at h h1
        simp only [toPy, PyData.eqv, PL.eqD]
        exact eqvs_of h1 h
  | .lst ds, y, h1, h => by
    cases y <;> try (first | (simp [PL.D.okN] at h; done) | (simp [toPy, PyData.eqv, PL.eqD]; done))
    cases n with
    | zero => simp [PL.D.okN] at h1
    | succ n => cases k with
      | zero => simp [PL.D.okN] at h
      | succ k =>
        simp only [PL.D.okN] at h h1
        simp only [toPy, PyData.eqv, PL.eqD]
        exact eqvs_of h1 h
  | .ref _, _, h, _ => by simp [PL.D.okN] at h
theorem eqvs_of {n k : Nat} : ∀ {x y : List PL.D}, PL.D.okNs x n = true → PL.D.okNs y k = true → PyData.eqvAll (toPys x) (toPys y) = PL.eqDs x y
  | [], [], _, _ => by simp [toPys, PyData.eqvAll, PL.eqDs]
  | [], _ :: _, _, _ => by simp [toPys, PyData.eqvAll, PL.eqDs]
  | _ :: _, [], _, _ => by simp [toPys, PyData.eqvAll, PL.eqDs]
  | x :: xs, y :: ys, h1, h2 => by
    simp only [PL.D.okNs, Bool.and_eq_true] at h1 h2
    simp only [toPys, PyData.eqvAll, PL.eqDs]
    rw [eqv_of h1.1 h2.1, eqvs_of h1.2 h2.2]
end
theorem hu64 {k : Nat} (hX : Cz k X) : X.A.units + 64 < cLine := by have := hX.room.un; omega
theorem d_eqO {k : Nat} (hX : Cz k X) : OpD X (compareOp .Eq) PL.opEqO := .of (op_eqD (hu64 hX)) fun x y z e α δ S σ H v w R q1 q2 => by
  unfold PL.opEqO at e
  obtain ⟨h, rfl⟩ := if_inv e
  rw [Bool.and_eq_true] at h
  exact ⟨toPy x, toPy y, dp_of h.1 q1, dp_of h.2 q2, shaped_of h.1, shaped_of h.2, PoV.here R (by rw [eqv_of h.1 h.2]; exact mk_bl)⟩
theorem d_neO {k : Nat} (hX : Cz k X) : OpD X (compareOp .NotEq) PL.opNeO := .of (op_neD (hu64 hX)) fun x y z e α δ S σ H v w R q1 q2 => by
  unfold PL.opNeO at e
  obtain ⟨h, rfl⟩ := if_inv e
  rw [Bool.and_eq_true] at h
  exact ⟨toPy x, toPy y, dp_of h.1 q1, dp_of h.2 q2, shaped_of h.1, shaped_of h.2, PoV.here R (by rw [eqv_of h.1 h.2]; exact mk_bl)⟩
theorem str_beq (a b : Str) : (a.cps.toList == b.cps.toList) = decide (V.str a = V.str b) := by
  by_cases h : a = b
  · subst h; simp
  · have h2 : ¬ a.cps.toList = b.cps.toList := fun z => h (by cases a; cases b; simp only [Array.toList_inj] at z; rw [z])
    have h3 : ¬ V.str a = V.str b := fun z => h (by cases z; rfl)
    rw [decide_eq_false h3]
    simpa using h2
theorem d_eq {k : Nat} (hX : Cz k X) : OpD X (compareOp .Eq) PL.opEq := by
  intro x y z e α δ S pins s σ H v w u1 u2 I R q1 q2 r1 r2
  have gen : PL.opEqO x y = some z → wpAny (model X.prog X.w) X.A (compareOp .Eq u1 u2) (PoE X pins α δ σ H (.ok z S)) X.xe s := fun e => d_eqO hX x y z e α δ S pins s σ H v w u1 u2 I R q1 q2 r1 r2
  have str : ∀ a b, x = .str a → y = .str b → z = .bl (a == b) → wpAny (model X.prog X.w) X.A (compareOp .Eq u1 u2) (PoE X pins α δ σ H (.ok z S)) X.xe s := fun a b ex ey ez => by
    subst ex ey ez
    obtain ⟨x1, rfl, h1⟩ := rd_str q1
    obtain ⟨x2, rfl, h2⟩ := rd_str q2
    subst h1 h2
    exact thn (op_eq pins s σ H _ _ u1 u2 (PoV X.K α δ σ H (.ok _ S)) I r1 r2 ⟨rfl, by rw [← str_beq]; exact PoV.here R mk_bl⟩) fun u s' hu => PoE.ofV hu
  cases x <;> cases y <;> first | exact gen e | exact str _ _ rfl rfl (Option.some.inj e).symm
theorem d_ne {k : Nat} (hX : Cz k X) : OpD X (compareOp .NotEq) PL.opNe := by
  intro x y z e α δ S pins s σ H v w u1 u2 I R q1 q2 r1 r2
  have gen : PL.opNeO x y = some z → wpAny (model X.prog X.w) X.A (compareOp .NotEq u1 u2) (PoE X pins α δ σ H (.ok z S)) X.xe s := fun e => d_neO hX x y z e α δ S pins s σ H v w u1 u2 I R q1 q2 r1 r2
  have str : ∀ a b, x = .str a → y = .str b → z = .bl (!(a == b)) → wpAny (model X.prog X.w) X.A (compareOp .NotEq u1 u2) (PoE X pins α δ σ H (.ok z S)) X.xe s := fun a b ex ey ez => by
    subst ex ey ez
    obtain ⟨x1, rfl, h1⟩ := rd_str q1
    obtain ⟨x2, rfl, h2⟩ := rd_str q2
    subst h1 h2
    exact thn (op_ne pins s σ H _ _ u1 u2 (PoV X.K α δ σ H (.ok _ S)) I r1 r2 ⟨rfl, by rw [← str_beq]; exact PoV.here R mk_bl⟩) fun u s' hu => PoE.ofV hu
  cases x <;> cases y <;> first | exact gen e | exact str _ _ rfl rfl (Option.some.inj e).symm
end
end BR

set_option Elab.async false
set_option linter.all false
set_option maxRecDepth 100000
set_option maxHeartbeats 2000000
/-! ## built-ins -/
namespace BR
open PySem PySem.Spec PyProof.Rows L2
section
variable {G : EX} {X : Cx} {α α' : List Addr} {δ : PL.Env} {S : PL.Sto} {σ : L2.St} {H H' : Hp} {pins : List (Addr × Obj)} {s : Shared}
variable {a b c e : Expr} {ma mb mc m : PL.ME} {p pos : Pos} {es : List Expr} {mas : PL.MA} {x : Str} {id T : String} {k : Nat}
def BiD (X : Cx) (fv : Value) (f : PL.Sto → List PL.D → Option PL.D) : Prop :=
  ∀ S xs z, f S xs = some z → ∀ α δ pins s σ H vs us, Inv X pins σ H s → Rel X.K α δ S σ H → RDs X.K α H xs vs → Vals vs us →
    wpAny (model X.prog X.w) X.A (call fv us) (PoE X pins α δ σ H (.ok z S)) X.xe s
theorem BiD.of {fv : Value} {f : PL.Sto → List PL.D → Option PL.D} {rr : List V → Hp → VK → Prop} (hc : CallR X fv rr)
    (h : ∀ S xs z, f S xs = some z → ∀ α δ σ H vs, Rel X.K α δ S σ H → RDs X.K α H xs vs → rr vs H (PoV X.K α δ σ H (.ok z S))) : BiD X fv f :=
  fun S xs z e α δ pins s σ H vs us I R q r => thn (hc pins s σ H vs us _ I r (h S xs z e α δ σ H vs R q)) fun u s' hu => PoE.ofV hu
theorem c_callB {f : PL.Sto → List PL.D → Option PL.D} (hc : BiD X (.builtin id) f) (hm : X.mg x = none) (hv : bootBuiltins x = some (.builtin id)) (ha : CA G X (e :: es) mas) (hg : Gl X x := by rfl) (hn : x ≠ "__name__" := by decide) (hdb : (x == ("__debug__" : Str)) = false := by decide)
    (he : starEach (e :: es) X.env = (false, eval e X.env) :: starEach es X.env := by rfl) (hpl : (backTo pos (starEach es X.env)).any (·.1) = false := by rfl) : CE G X (.Call (.Name x p) (e :: es) [] pos) (PL.mBI f mas) := ⟨fun δ S r h0 α pins s σ H I R tk => by
  refine wpAny_Call_Name_kw (ld_blt I hg hm hv ?_ hn hdb)
  refine PyProof.Rows.callWith_builtin1 (ha.then pos I R h0 tk fun xs S1 h1 α1 vs H1 us s1 I1 rv x1 R1 q1 tk1 => ?_) he hpl
  obtain ⟨z, hz, rfl⟩ := map_inv h1
  exact thn (hc S1 xs z hz α1 δ pins s1 σ H1 vs us I1 R1 q1 rv) fun u s' h => h.ext x1⟩
theorem c_callTy {f : PL.Sto → List PL.D → Option PL.D} (hc : BiD X (.type T) f) (hm : X.mg x = none) (hv : bootBuiltins x = some (.type T)) (ha : CA G X (e :: es) mas) (hg : Gl X x := by rfl) (hn : x ≠ "__name__" := by decide) (hdb : (x == ("__debug__" : Str)) = false := by decide)
    (he : starEach (e :: es) X.env = (false, eval e X.env) :: starEach es X.env := by rfl) (hpl : (backTo pos (starEach es X.env)).any (·.1) = false := by rfl) : CE G X (.Call (.Name x p) (e :: es) [] pos) (PL.mBI f mas) := ⟨fun δ S r h0 α pins s σ H I R tk => by
  refine wpAny_Call_Name_kw (ld_blt I hg hm hv ?_ hn hdb)
  refine PyProof.Rows.callWith_type1 (ha.then pos I R h0 tk fun xs S1 h1 α1 vs H1 us s1 I1 rv x1 R1 q1 tk1 => ?_) he hpl
  obtain ⟨z, hz, rfl⟩ := map_inv h1
  exact thn (hc S1 xs z hz α1 δ pins s1 σ H1 vs us I1 R1 q1 rv) fun u s' h => h.ext x1⟩

theorem b_len : BiD X (.builtin "len") PL.biLen := fun S xs z e α δ pins s σ H vs us I R q r => by
  have seq : ∀ d, (PL.seqOf S d).map (fun xs => PL.D.int xs.length) = some z → RDs X.K α H [d] vs → wpAny (model X.prog X.w) X.A (call (.builtin "len") us) (PoE X pins α δ σ H (.ok z S)) X.xe s := fun d h q => by
    cases hs : PL.seqOf S d with
    | none => rw [hs] at h; cases h
    | some ds =>
      rw [hs] at h
      cases h
      obtain ⟨v, rfl, q1⟩ := q.one
      obtain ⟨p, ws, rfl, h1, h2⟩ := seq_rd hs R q1
      exact thn (call_len_seq pins s σ H _ us (PoV X.K α δ σ H (.ok _ S)) I r ⟨p, ws, rfl, h1, PoV.here R (by rw [← h2.length]; exact mk_int)⟩) fun u s' hu => PoE.ofV hu
  unfold PL.biLen at e
  split at e
  · rename_i l
    obtain ⟨hl, rfl⟩ := if_inv e
    obtain ⟨v, rfl, q1⟩ := q.one
    obtain ⟨x0, rfl, hx⟩ := rd_str q1
    have hlen : x0.length = l.length := by rw [← hx]; simp [Str.length]
    exact thn (call_len_str pins s σ H _ us (PoV X.K α δ σ H (.ok _ S)) I r ⟨x0, rfl, by rw [hlen, ← line_eq]; exact hl, PoV.here R (by rw [hlen]; exact mk_int)⟩) fun u s' hu => PoE.ofV hu
  · rename_i d _
    exact seq d e q
  · cases e
theorem b_list : BiD X (.type "list") PL.biList := fun S xs z e α δ pins s σ H vs us I R q r => by
  unfold PL.biList at e
  split at e
  · rename_i d
    cases hs : PL.seqOf S d with
    | none => rw [hs] at e; cases e
    | some ds =>
      rw [hs] at e
      cases e
      obtain ⟨v, rfl, q1⟩ := q.one
      obtain ⟨p, ws, rfl, h1, h2⟩ := seq_rd hs R q1
      refine thn (call_list_of pins s σ H _ us (fun v H' => ∃ l, v = .ref l ∧ H l = none ∧ H' = upd H l (.lst ws)) I r ⟨p, ws, rfl, h1, fun l hl => ⟨l, rfl, hl, rfl⟩⟩) fun u s' hu => ?_
      obtain ⟨w, H', I', rw', l, e1, hl, e2⟩ := hu
      subst e1 e2
      cases rw'
      exact PoE.lst I' hl R h2
  · cases e
theorem b_tuple : BiD X (.type "tuple") PL.biTuple := fun S xs z e α δ pins s σ H vs us I R q r => by
  have lst : ∀ d ds, PL.seqOf S d = some ds → z = .tup ds → (∀ ds', d ≠ .tup ds') → RDs X.K α H [d] vs → wpAny (model X.prog X.w) X.A (call (.type "tuple") us) (PoE X pins α δ σ H (.ok z S)) X.xe s := fun d ds h ez nt q => by
    subst ez
    obtain ⟨v, rfl, q1⟩ := q.one
    obtain ⟨p, ws, rfl, h1, h2⟩ := seq_rd h R q1
    have h1' : SqL X.K H p ws := by
      cases d <;> try (simp [PL.seqOf] at h; done)
      · exact absurd rfl (nt _)
      · obtain ⟨p', o, ws', e1, e2, e3⟩ := rd_lst q1
        simp only [PL.seqOf] at h
        cases h
        cases e1
        rcases h1 with h1 | h1
        · exact h1
        · exfalso
          have k1 := I.list (frz_sq e2)
          have k2 := I.tuple h1
          obtain ⟨its, _, ⟨o1, n1, g1, g2, _⟩, _⟩ := k1
          obtain ⟨its2, _, ⟨o2, g3, g4, _⟩, _⟩ := k2
          rw [g1] at g3; cases g3
          rw [g2] at g4; exact absurd g4 (by decide)
      · rename_i n
        obtain ⟨p', e1, e2⟩ := rd_ref q1
        cases e2
        simp only [PL.seqOf] at h
        split at h
        · rename_i xs hs
          cases h
          obtain ⟨β, _, _, _, _, ob⟩ := R.st
          obtain ⟨p2, b', e3, e4, ⟨ws', e5, e6⟩, _⟩ := ob n _ hs
          rw [e1] at e3; cases e3
          rcases h1 with h1 | h1
          · exact h1
          · exfalso
            have k1 := I.list (SqL.of e5)
            have k2 := I.tuple h1
            obtain ⟨its, _, ⟨o1, n1, g1, g2, _⟩, _⟩ := k1
            obtain ⟨its2, _, ⟨o2, g3, g4, _⟩, _⟩ := k2
            rw [g1] at g3; cases g3
            rw [g2] at g4; exact absurd g4 (by decide)
        · cases h
    refine thn (call_tuple_of pins s σ H _ us (fun v H' => ∃ l, v = .ref l ∧ H l = none ∧ H' = upd H l (.tup ws)) I r ⟨p, ws, rfl, .inl ⟨h1', fun l hl => ⟨l, rfl, hl, rfl⟩⟩⟩) fun u s' hu => ?_
    obtain ⟨w, H', I', rw', l, e1, hl, e2⟩ := hu
    subst e1 e2
    cases rw'
    exact PoE.tup I' hl R h2
  unfold PL.biTuple at e
  split at e
  · rename_i ds
    cases e
    obtain ⟨v, rfl, q1⟩ := q.one
    obtain ⟨p, ws, rfl, h1, h2⟩ := rd_tup q1
    exact thn (call_tuple_of pins s σ H _ us (PoV X.K α δ σ H (.ok _ S)) I r ⟨p, ws, rfl, .inr ⟨h1, PoV.here R q1⟩⟩) fun u s' hu => PoE.ofV hu
  · rename_i ds
    cases e
    exact lst _ ds rfl rfl (fun _ z => by cases z) q
  · rename_i n
    split at e
    · rename_i ds hs
      cases e
      exact lst _ ds (by simp only [PL.seqOf]; rw [hs]) rfl (fun _ z => by cases z) q
    · cases e
  · cases e
theorem b_abs : BiD X (.builtin "abs") PL.biAbs := .of call_abs fun S xs z e α δ σ H vs R q => by
  unfold PL.biAbs at e
  split at e
  · cases e
    obtain ⟨v, rfl, q1⟩ := q.one
    exact ⟨_, by rw [rd_int q1], PoV.here R mk_int⟩
  · cases e
theorem b_min (hX : Cz k X) : BiD X (.builtin "min") PL.biMin := .of (call_min2 hX.calm) fun S xs z e α δ σ H vs R q => by
  unfold PL.biMin at e
  split at e
  · cases e
    obtain ⟨v, w, rfl, q1, q2⟩ := q.two
    exact ⟨_, _, by rw [rd_int q1, rd_int q2], PoV.here R mk_int⟩
  · cases e
theorem b_max (hX : Cz k X) : BiD X (.builtin "max") PL.biMax := .of (call_max2 hX.calm) fun S xs z e α δ σ H vs R q => by
  unfold PL.biMax at e
  split at e
  · cases e
    obtain ⟨v, w, rfl, q1, q2⟩ := q.two
    exact ⟨_, _, by rw [rd_int q1, rd_int q2], PoV.here R mk_int⟩
  · cases e
theorem b_int : BiD X (.type "int") PL.biInt := .of call_int1 fun S xs z e α δ σ H vs R q => by
  unfold PL.biInt at e
  split at e
  · cases e
    obtain ⟨v, rfl, q1⟩ := q.one
    exact .inl ⟨_, by rw [rd_int q1], PoV.here R mk_int⟩
  · cases e
    obtain ⟨v, rfl, q1⟩ := q.one
    exact .inr ⟨_, by rw [rd_bl q1], PoV.here R mk_int⟩
  · cases e

/-! ### isinstance -/
theorem c_isi {f : PL.D → Option Bool} (hm : X.mg "isinstance" = none) (hmT : X.mg x = none) (hv : bootBuiltins x = some (.type T)) (hk : ∀ d b, f d = some b → ∀ K α H v, RD K α H d v → ∃ t, TyX K H v t ∧ PySem.W.kitOne K t (.type T) = some b) (ha : CE G X a ma)
    (hg : Gl X "isinstance" := by rfl) (hgT : Gl X x := by rfl) (hn : x ≠ "__name__" := by decide) (hdb : (x == ("__debug__" : Str)) = false := by decide)
    (he : starEach [a, .Name x p] X.env = (false, eval a X.env) :: starEach [.Name x p] X.env := by rfl) (he2 : starEach [.Name x p] X.env = (false, eval (.Name x p) X.env) :: starEach [] X.env := by rfl) (hpl : (backTo pos (starEach [.Name x p] X.env)).any (·.1) = false := by rfl) {p' : Pos} :
    CE G X (.Call (.Name "isinstance" p') [a, .Name x p] [] pos) (PL.mUn (PL.opIsI f) ma) :=
  CE.ofX (pe_callB call_isi hg hm (by decide +kernel) (pa_cons ha.pe (pa_cons (pe_bltn (v := .ty T) hgT hmT hv rfl hn hdb) pa_nil he2) he) (by decide) (by decide) he hpl) fun δ S r h0 α σ H R tk => by
    refine tOf.go R h0 tk fun d S1 h1 α1 v H1 x1 R1 q1 tk1 => ?_
    obtain ⟨z, hz, rfl⟩ := map_inv h1
    unfold PL.opIsI at hz
    cases hf : f d with
    | none => rw [hf] at hz; cases hz
    | some b =>
      rw [hf] at hz
      cases hz
      obtain ⟨t, ty, ek⟩ := hk d b hf X.K α1 H1 v q1
      exact ⟨v, .ty T, t, .type T, b, rfl, .ty T, ty, ek, (PoV.here R1 mk_bl).ext x1⟩
def tyN : PL.D → Option String
  | .non => some "NoneType" | .bl _ => some "bool" | .int _ => some "int" | .str _ => some "str" | .tup _ => some "tuple" | .lst _ => some "list" | .ref _ => none
theorem ty_of {K : PySem.W.Frag} {d : PL.D} {v : V} {T : String} (q : RD K α H d v) (h : tyN d = some T) : TyX K H v (.type T) := by
  cases d with
  | non => cases h; rw [rd_non q]; exact .base .non
  | bl b => cases h; rw [rd_bl q]; exact .base (.bl b)
  | int i => cases h; rw [rd_int q]; exact .base (.int i)
  | str l => cases h; obtain ⟨x, rfl, _⟩ := rd_str q; exact .base (.str x)
  | tup ds =>
    cases h
    obtain ⟨a, vs, rfl, h, _⟩ := rd_tup q
    rcases h with (h | ⟨o, h⟩) | ⟨o, its, n, h1, h2, _⟩
    · exact .base (.tup h)
    · exact .fTuple h
    · exact .kTuple h1 h2
  | lst ds =>
    cases h
    obtain ⟨a, o, vs, rfl, h, _⟩ := rd_lst q
    rcases h with h | ⟨its, n, h, _⟩
    · exact .base (.frz h)
    · exact .kList h rfl
  | ref n => cases h
theorem k_int : ∀ d b, PL.isInt d = some b → ∀ K α H v, RD K α H d v → ∃ t, TyX K H v t ∧ PySem.W.kitOne K t (.type "int") = some b := fun d b e K α H v q => by
  cases d <;> simp only [PL.isInt] at e <;> cases e <;> exact ⟨_, ty_of q rfl, kit_ty (by decide +kernel)⟩
theorem k_bool : ∀ d b, PL.isBool d = some b → ∀ K α H v, RD K α H d v → ∃ t, TyX K H v t ∧ PySem.W.kitOne K t (.type "bool") = some b := fun d b e K α H v q => by
  cases d <;> simp only [PL.isBool] at e <;> cases e <;> exact ⟨_, ty_of q rfl, kit_ty (by decide +kernel)⟩
theorem k_tuple : ∀ d b, PL.isTuple d = some b → ∀ K α H v, RD K α H d v → ∃ t, TyX K H v t ∧ PySem.W.kitOne K t (.type "tuple") = some b := fun d b e K α H v q => by
  cases d <;> simp only [PL.isTuple] at e <;> cases e <;> exact ⟨_, ty_of q rfl, kit_ty (by decide +kernel)⟩
theorem k_str : ∀ d b, PL.isStr d = some b → ∀ K α H v, RD K α H d v → ∃ t, TyX K H v t ∧ PySem.W.kitOne K t (.type "str") = some b := fun d b e K α H v q => by
  cases d <;> simp only [PL.isStr] at e <;> cases e <;> exact ⟨_, ty_of q rfl, kit_ty (by decide +kernel)⟩

/-! ### repr -/
def reprD (d : PL.D) : List Nat := (toPy d).shown.cps.toList
theorem nodict_of {n : Nat} {d : PL.D} (h : d.okN n = true) : (toPy d).hasDict = false := PyData.hasDict_of_canLay _ (lay_of h).1
mutual
theorem wt_of {n k : Nat} : ∀ {d : PL.D}, d.okN n = true → d.wt = some k → (toPy d).showable = true ∧ (toPy d).shown.length ≤ k
  | .non, _, h => by simp only [PL.D.wt] at h; cases h; exact ⟨rfl, by simp only [toPy, PyData.shown]; decide⟩
  | .bl b, _, h => by simp only [PL.D.wt] at h; cases h; exact ⟨rfl, by simp only [toPy, PyData.shown]; cases b <;> decide⟩
  | .int i, _, h => by
    simp only [PL.D.wt] at h
    obtain ⟨hi, rfl⟩ := if_inv h
    have hl : i.natAbs.log2 < 1920 := by
      by_cases h0 : i.natAbs = 0
      · rw [h0]; decide
      · exact (Nat.log2_lt h0).mpr (Nat.lt_of_lt_of_le hi (Nat.pow_le_pow_right (by decide) (by decide)))
    refine ⟨by simp only [toPy, PyData.showable]; exact decide_eq_true hl, ?_⟩
    simp only [toPy, PyData.shown]
    have e := int_text_length_le (k := 1920) (by decide) hl
    rw [PySem.ofString_length]
    omega
  | .str l, h0, h => by
    simp only [PL.D.wt] at h
    cases h
    refine ⟨rfl, ?_⟩
    simp only [toPy, PyData.shown]
    simp only [PL.D.okN] at h0
    have e := StrLaws.reprText_len ⟨l.toArray⟩ (fun c hc => by
      have hc : c ∈ l := by simpa using hc
      have := of_decide_eq_true (List.all_eq_true.mp h0 c hc)
      exact Nat.lt_trans this (by decide))
    have e2 : (Str.mk l.toArray).length = l.length := by simp [Str.length]
    rw [e2] at e
    exact e
  | .tup ds, h0, h => by
    cases n with
    | zero => simp [PL.D.okN] at h0
    | succ n =>
      simp only [PL.D.okN] at h0
      simp only [PL.D.wt] at h
      cases hw : PL.D.wts ds with
      | none => rw [hw] at h; cases h
      | some m =>
        rw [hw] at h
        cases h
        obtain ⟨a1, a2⟩ := wts_of h0 hw
        refine ⟨by simp only [toPy, PyData.showable]; exact a1, ?_⟩
        simp only [toPy, PyData.shown]
        exact Nat.le_trans (tupleText_len_le _) (Nat.add_le_add_right a2 3)
  | .lst ds, h0, h => by
    cases n with
    | zero => simp [PL.D.okN] at h0
    | succ n =>
      simp only [PL.D.okN] at h0
      simp only [PL.D.wt] at h
      cases hw : PL.D.wts ds with
      | none => rw [hw] at h; cases h
      | some m =>
        rw [hw] at h
        cases h
        obtain ⟨a1, a2⟩ := wts_of h0 hw
        refine ⟨by simp only [toPy, PyData.showable]; exact a1, ?_⟩
        simp only [toPy, PyData.shown]
        exact Nat.le_trans (listText_len_le _) (Nat.add_le_add_right a2 3)
  | .ref _, h0, _ => by simp [PL.D.okN] at h0
theorem wts_of {n k : Nat} : ∀ {ds : List PL.D}, PL.D.okNs ds n = true → PL.D.wts ds = some k → PyData.showableAll (toPys ds) = true ∧ ((PyData.shownAll (toPys ds)).map (·.length)).sum + 2 * (PyData.shownAll (toPys ds)).length ≤ k
  | [], _, h => by simp only [PL.D.wts] at h; cases h; simp [toPys, PyData.showableAll, PyData.shownAll]
  | d :: ds, h0, h => by
    simp only [PL.D.okNs, Bool.and_eq_true] at h0
    simp only [PL.D.wts] at h
    cases hd : d.wt with
    | none => rw [hd] at h; cases h
    | some a =>
      rw [hd] at h
      cases hw : PL.D.wts ds with
      | none => rw [hw] at h; cases h
      | some m =>
        rw [hw] at h
        cases h
        obtain ⟨a1, a2⟩ := wt_of h0.1 hd
        obtain ⟨b1, b2⟩ := wts_of h0.2 hw
        refine ⟨by simp only [toPys, PyData.showableAll, a1, b1, Bool.and_self], ?_⟩
        simp only [toPys, PyData.shownAll, List.map_cons, List.sum_cons, List.length_cons]
        omega
end
theorem str_eta (x : Str) : x.cps.toList = x.cps.toList := rfl
theorem b_repr (hX : Cz k X) : BiD X (.builtin "repr") (PL.biRepr reprD) := fun S xs z e α δ pins s σ H vs us I R q r => by
  unfold PL.biRepr at e
  split at e
  · rename_i d
    split at e
    · rename_i hok
      split at e
      · rename_i n hn
        obtain ⟨hz, rfl⟩ := if_inv e
        obtain ⟨v, rfl, q1⟩ := q.one
        obtain ⟨hs, hl⟩ := wt_of hok hn
        have hfit : (toPy d).shown.length ≤ sizeLine := Nat.le_trans hl (by rw [← line_eq]; exact hz)
        have hu : X.A.units + 64 < cLine := hu64 hX
        have dp := (lay_of hok).2
        have fin : ∀ (h' : Heap) (u : Tok) (tk : Nat), (∀ b o, s.heap.get? b = some o → h'.get? b = some o) → PoE X pins α δ σ H (.ok (.str (reprD d)) S) (.str (toPy d).shown u) { s with heap := h', toks := tk } := fun h' u tk k =>
          PoE.here (v := .str (toPy d).shown) (I.kept k) ⟨u, rfl⟩ R (mk_str rfl)
        have fin0 : ∀ (u : Tok) (tk : Nat), PoE X pins α δ σ H (.ok (.str (reprD d)) S) (.str (toPy d).shown u) { s with toks := tk } := fun u tk => fin s.heap u tk fun _ _ h => h
        obtain ⟨u, rfl, rv⟩ := vals1 r
        have big : ∀ {a : Addr}, v = .ref a → wpAny (model X.prog X.w) X.A (call (.builtin "repr") [u]) (PoE X pins α δ σ H (.ok (.str (reprD d)) S)) X.xe s := fun {a} ev => by
          subst ev
          cases rv
          obtain ⟨as, rr⟩ := Dp.reads I (toPy d) _ _ (dp_of hok q1) rfl
          exact repr_of_reads' rr hs (PyData.noDict_hsm (nodict_of hok)) hX.gd (by have := hX.room.un; omega) (fun _ _ h => h) (fun h' u tk k => fin h' u tk k) hfit
        cases d with
        | non => have e1 := rd_non q1; subst e1; cases rv; exact PySem.P.repr_of_none (fin0 _ _)
        | bl b => have e1 := rd_bl q1; subst e1; cases rv; exact PySem.P.repr_of_bool (fin0 _ _)
        | int i =>
          have e1 := rd_int q1
          subst e1
          obtain ⟨t, rfl⟩ := rv
          simp only [toPy, PyData.showable] at hs
          exact PySem.P.repr_of_int (of_decide_eq_true hs) (fin0 _ _)
        | str l =>
          obtain ⟨x, rfl, hx⟩ := rd_str q1
          obtain ⟨t, rfl⟩ := rv
          have : x = ⟨l.toArray⟩ := by rw [← hx]
          subst this
          exact PySem.P.repr_of_str (fin0 _ _) hfit
        | tup ds => obtain ⟨a, vs, e1, _⟩ := rd_tup q1; exact big e1
        | lst ds => obtain ⟨a, o, vs, e1, _⟩ := rd_lst q1; exact big e1
        | ref n => simp [PL.D.okN] at hok
      · cases e
    · cases e
  · cases e
end
end BR

set_option Elab.async false
set_option linter.all false
set_option maxRecDepth 100000
set_option maxHeartbeats 2000000
/-! ## statements -/
namespace BR
open PySem PySem.Spec PyProof.Rows L2
section
variable {G : EX} {X : Cx} {α α' : List Addr} {δ : PL.Env} {S : PL.Sto} {σ : L2.St} {H H' : Hp} {pins : List (Addr × Obj)} {s : Shared}
variable {a b c e : Expr} {ma mb mc m : PL.ME} {pos : Pos} {es : List Expr} {mas : PL.MA} {st : Stmt} {sts sts' : List Stmt} {ms mr : PL.MS} {k : Nat} {x y z : Str}

theorem PoS.nx {δ' : PL.Env} {σ' : L2.St} {s' : Shared} (I : Inv X pins σ' H' s') (x : Ext α H α' H') (R : Rel X.K α' δ' S σ' H') : PoS X pins α H (.nx δ' S) .next s' := ⟨rfl, α', σ', H', I, x, R⟩
theorem css_nil : CSs G X [] PL.mPass := ⟨fun δ S r hm α pins s σ H I R tk => by
  cases hm; exact wpAny_execs_nil (PoS.nx I (Ext.refl _ _) R)⟩
theorem css_one (h : CS G X st ms) : CSs G X [st] ms := ⟨fun δ S r hm α pins s σ H I R tk =>
  wpAny_execs_cons (thn (h.run δ S r hm α pins s σ H I R tk) fun f s1 q => by
    cases f with
    | next => exact wpAny_execs_nil q
    | ret v => exact q
    | brk => exact q
    | cont => exact q)⟩
theorem css_cons (h : CS G X st ms) (hr : CSs G X sts mr) : CSs G X (st :: sts) (PL.mSeq ms mr) := ⟨fun δ S r hm α pins s σ H I R tk => by
  unfold PL.mSeq at hm
  cases c : ms δ S with
  | none => rw [c] at hm; cases hm
  | some r0 =>
    rw [c] at hm
    cases r0 with
    | nx δ1 S1 =>
      refine wpAny_execs_cons (thn (h.run δ S _ c α pins s σ H I R trivial) fun f s1 q => ?_)
      obtain ⟨rfl, α1, σ1, H1, I1, x1, R1⟩ := q
      exact thn (hr.run δ1 S1 r hm α1 pins s1 σ1 H1 I1 R1 (tk.ext x1)) fun f s2 q2 => q2.ext x1
    | rt d S1 =>
      cases hm
      refine wpAny_execs_cons (thn (h.run δ S _ c α pins s σ H I R trivial) fun f s1 q => ?_)
      obtain ⟨u, rfl, q⟩ := q
      exact ⟨u, rfl, q⟩
    | bk δ1 S1 =>
      cases hm
      refine wpAny_execs_cons (thn (h.run δ S _ c α pins s σ H I R trivial) fun f s1 q => ?_)
      obtain ⟨rfl, q⟩ := q
      exact ⟨rfl, q⟩
    | ct δ1 S1 =>
      cases hm
      refine wpAny_execs_cons (thn (h.run δ S _ c α pins s σ H I R trivial) fun f s1 q => ?_)
      obtain ⟨rfl, q⟩ := q
      exact ⟨rfl, q⟩
    | ex x δ1 S1 =>
      cases hm
      exact wpAny_execs_cons (thn (h.run δ S _ c α pins s σ H I R tk) fun f s1 q => q.elim)⟩
theorem cs_pass : CS G X (.Pass pos) PL.mPass := ⟨fun δ S r hm α pins s σ H I R tk => by cases hm; exact wpAny_Pass (PoS.nx I (Ext.refl _ _) R)⟩
theorem cs_break : CS G X (.Break pos) PL.mBreak := ⟨fun δ S r hm α pins s σ H I R tk => by cases hm; exact wpAny_Break ⟨rfl, α, σ, H, I, Ext.refl _ _, R⟩⟩
theorem cs_cont : CS G X (.Continue pos) PL.mCont := ⟨fun δ S r hm α pins s σ H I R tk => by cases hm; exact wpAny_Continue ⟨rfl, α, σ, H, I, Ext.refl _ _, R⟩⟩
theorem cs_never : CS G X st PL.mNever := ⟨fun δ S r hm => by cases hm⟩
theorem css_never : CSs G X sts PL.mNever := ⟨fun δ S r hm => by cases hm⟩
/-- name = e -/
theorem cs_set (hX : Cz k X) (i : Nat) {px : Pos} (he : CE G X e m) (hi : X.N[i]? = some x := by rfl) (hx : Loc X.env.scope x := by first | exact .inl rfl | exact .inr rfl) (hs : swapsWith e (some (.Name x px)) pos.line X.env = pure false := by rfl)
    (hf : X.fn x = true ∨ X.env.scope.names.lookup x = some .local := by first | exact .inl rfl | exact .inr rfl) : CS G X (.Assign [.Name x px] e pos) (PL.mSet i m) := ⟨fun δ S r hm α pins s σ H I R tk => by
  refine wpAny_Assign_Name (he.thenS I R hm tk fun d S1 h1 α1 v H1 u s1 I1 rv x1 R1 q1 tk1 => ?_) hs
  cases h1
  exact store_ok I1 hX.nd hi hx rv (fun s2 I2 => PoS.nx I2 x1 (R1.set q1 i)) hf⟩
/-- an expression by itself -/
theorem cs_drop (he : CE G X e m) (hs : swapsWith e none pos.line X.env = pure false := by rfl) : CS G X (.Expr e pos) (PL.mDrop m) := ⟨fun δ S r hm α pins s σ H I R tk =>
  wpAny_Expr_any (he.thenS I R hm tk fun d S1 h1 α1 v H1 u s1 I1 rv x1 R1 q1 tk1 => by cases h1; exact PoS.nx I1 x1 R1) I.quiet hs⟩
theorem cs_ret (he : CE G X e m) : CS G X (.Return (some e) pos) (PL.mRet m) := ⟨fun δ S r hm α pins s σ H I R tk =>
  wpAny_Return_some (he.thenS I R hm tk fun d S1 h1 α1 v H1 u s1 I1 rv x1 R1 q1 tk1 => by
    cases h1; exact ⟨u, rfl, α1, σ, H1, v, I1, rv, x1, R1.st, q1⟩)⟩
theorem cs_retN : CS G X (.Return none pos) PL.mRetN := ⟨fun δ S r hm α pins s σ H I R tk => by
  cases hm; exact wpAny_Return_none ⟨.none, rfl, α, σ, H, .non, I, rfl, Ext.refl _ _, R.st, mk_non⟩⟩
theorem cs_if {mt : PL.MT} (hc : CT G X c mt) (ha : CSs G X sts ms) (hb : CSs G X sts' mr) : CS G X (.If c sts sts' pos) (PL.mIfS mt ms mr) := ⟨fun δ S r hm α pins s σ H I R tk => by
  refine wpAny_If (hc.thenS I R hm tk fun d S1 h1 α1 H1 s1 I1 x1 R1 tk1 => ?_)
  cases d with
  | true => exact thn (ha.run δ S1 r h1 α1 pins s1 σ H1 I1 R1 tk1) fun f s2 q2 => q2.ext x1
  | false => exact thn (hb.run δ S1 r h1 α1 pins s1 σ H1 I1 R1 tk1) fun f s2 q2 => q2.ext x1⟩
theorem CA.thenS {ma : PL.MA} (h : CA G X es ma) (pos : Pos) (I : Inv X pins σ H s) (R : Rel X.K α δ S σ H) {k : List PL.D → PL.Sto → Option PL.RS} {r : PL.RS} (hk : PL.bAS δ (ma δ S) k = some r) (tk : TkS G X α H r) {Q : List Value → Shared → Prop}
    (q : ∀ d S1, k d S1 = some r → ∀ α1 v H1 u s1, Inv X pins σ H1 s1 → Vals v u → Ext α H α1 H1 → Rel X.K α1 δ S1 σ H1 → RDs X.K α1 H1 d v → TkS G X α1 H1 r → Q u s1) :
    wpAny (model X.prog X.w) X.A (spliced (backTo pos (starEach es X.env))) Q X.xe s := by
  refine h.step pos I R (fun z => by rw [z] at hk; cases hk) (fun x S1 c => ?_) (fun d S1 c α1 v H1 u s1 I1 rv x R1 rd => ?_)
  · rw [c] at hk; cases hk; exact TkS.ofE R tk
  · rw [c] at hk
    exact q d S1 hk α1 v H1 u s1 I1 rv x R1 rd (tk.ext x)
theorem mPar_eq {i j : Nat} : PL.mPar i j ma mb δ S = PL.bAS δ (PL.mConsA ma (PL.mConsA mb PL.mNilA) δ S) fun ds S1 => match ds with
    | [x, y] => some (.nx ((δ.set i (some x)).set j (some y)) S1)
    | _ => none := by
  unfold PL.mPar PL.mConsA PL.mNilA
  cases h1 : ma δ S with
  | none => rfl
  | some r1 =>
    cases r1 with
    | ex _ _ => rfl
    | ok d1 S1 =>
      simp only [PL.bES_ok, PL.bEA_ok]
      cases h2 : mb δ S1 with
      | none => rfl
      | some r2 => cases r2 <;> rfl
/-- a, b = x, y (plain local names) -/
theorem cs_par (hX : Cz k X) (i j : Nat) {px py pt : Pos} {kt k2 pt2} (ha : CA G X [a, b] (PL.mConsA ma (PL.mConsA mb PL.mNilA))) (hij : i ≠ j := by decide) (hi : X.N[i]? = some x := by rfl) (hj : X.N[j]? = some y := by rfl)
    (hx : X.env.scope.names.lookup x = some .local := by rfl) (hy : X.env.scope.names.lookup y = some .local := by rfl)
    (hw : swappedStores [.Tuple [.Name x px, .Name y py] kt pt] (.Tuple [a, b] k2 pt2) X.env = pure (some [x, y]) := by rfl)
    (hs : swapsWithSole [.Tuple [.Name x px, .Name y py] kt pt] (.Tuple [a, b] k2 pt2) pos.line X.env = pure false := by rfl) :
    CS G X (.Assign [.Tuple [.Name x px, .Name y py] kt pt] (.Tuple [a, b] k2 pt2) pos) (PL.mPar i j ma mb) := ⟨fun δ S r hm α pins s σ H I R tk => by
  rw [mPar_eq] at hm
  rw [exec_Assign_arm]
  refine wpAny_bind (wpAny_standAt ?_)
  rw [hs]
  refine wpAny_bind (wpAny_pure ?_)
  rw [if_neg (by decide)]
  refine wpAny_bind (Tuple_ (ha.thenS _ I R hm tk fun ds S1 h1 α1 vs H1 us s1 I1 rv x1 R1 q1 tk1 => ?_))
  have e2 : ∃ d1 d2, ds = [d1, d2] ∧ r = .nx ((δ.set i (some d1)).set j (some d2)) S1 := by
    split at h1
    · cases h1; exact ⟨_, _, rfl, rfl⟩
    · cases h1
  obtain ⟨d1, d2, e2, rfl⟩ := e2
  subst e2
  obtain ⟨v, w, rfl, qv, qw⟩ := q1.two
  obtain ⟨u1, u2, rfl, rv, rw'⟩ : ∃ u1 u2, us = [u1, u2] ∧ RelV v u1 ∧ RelV w u2 := by
    cases rv with
    | cons p q =>
      cases q with
      | cons p' q' =>
        cases q'
        exact ⟨_, _, rfl, p, p'⟩
  refine wpAny_newObj_type ?_ (by show 2 ≤ sizeLine; decide)
  have I2 : Inv X pins σ H1 { s1 with heap := s1.heap.push { cls := .type "tuple", data := .seq [u1, u2].toArray } } := I1.kept (t' := s1.toks) fun b o e => Heap.get?_push_of_some _ e
  rw [hw]
  refine wpAny_bind (wpAny_pure ?_)
  show wpAny (model X.prog X.w) X.A (do rule "assign.swapped-stores"; let items ← unpackItems (.ref s1.heap.objs.size) 2 none; assignInOrder [fun v => bindName X.env y v, fun v => bindName X.env x v] items.reverse; pure Flow.next) _ _ _
  refine wpAny_bind (wpAny_rule (wpAny_bind (unpackItems_tuple (items := #[u1, u2]) (I.ok.hd hX.calm) (IsTup.new s1.heap _) fun h' hx' => ?_)))
  have I3 := I2.kept (h' := h') (t' := s1.toks) fun b o e => hx' b o (Nat.ne_of_lt (Heap.lt_size e)) e
  show wpAny _ _ (assignInOrder [fun v => bindName X.env y v, fun v => bindName X.env x v] [u2, u1] >>= fun _ => pure Flow.next) _ _ _
  refine wpAny_bind (assignInOrder_cons (wpAny_bindName (store_ok I3 hX.nd hj (.inl hy) rw' (fun s2 I4 => ?_) (.inr hy))))
  refine assignInOrder_cons (wpAny_bindName (store_ok I4 hX.nd hi (.inl hx) rv (fun s3 I5 => assignInOrder_nil (wpAny_pure ?_)) (.inr hx)))
  rw [List.set_comm _ _ (Ne.symm hij)] at I5
  exact PoS.nx I5 x1 ((R1.set qv i).set qw j)⟩

/-! ### targets -/
mutual
def _root_.PL.Tg.slots : PL.Tg → List Nat
  | .name i => [i]
  | .tup ts => PL.Tg.slotss ts
def _root_.PL.Tg.slotss : List PL.Tg → List Nat
  | [] => []
  | t :: ts => t.slots ++ PL.Tg.slotss ts
end
/-- the same but at ix -/
def Alike (ix : List Nat) (σ σ' : L2.St) : Prop := σ'.length = σ.length ∧ ∀ i, i ∉ ix → σ'[i]? = σ[i]?
theorem Alike.refl {ix : List Nat} {σ : L2.St} : Alike ix σ σ := ⟨rfl, fun _ _ => rfl⟩
theorem Alike.trans {ix iy : List Nat} {σ σ1 σ2 : L2.St} (a : Alike ix σ σ1) (b : Alike iy σ1 σ2) : Alike (ix ++ iy) σ σ2 :=
  ⟨b.1.trans a.1, fun i h => by rw [List.mem_append, not_or] at h; exact (b.2 i h.2).trans (a.2 i h.1)⟩
theorem Alike.set {i : Nat} {σ : L2.St} {v : Option V} : Alike [i] σ (σ.set i v) := ⟨by simp, fun j h => by
  rw [List.getElem?_set_ne]; exact fun e => h (by simp [e])⟩
structure CG (X : Cx) (tg : Expr) (t : PL.Tg) : Prop where
  run : ∀ d δ δ', t.put d δ = some δ' → ∀ α pins s σ H S v u, Inv X pins σ H s → Rel X.K α δ S σ H → RD X.K α H d v → RelV v u →
    wpAny (model X.prog X.w) X.A (assign tg X.env u) (fun _ s' => ∃ σ', Inv X pins σ' H s' ∧ Rel X.K α δ' S σ' H ∧ Alike t.slots σ σ') X.xe s
structure CGs (X : Cx) (tgs : List Expr) (ts : List PL.Tg) : Prop where
  run : ∀ ds δ δ', PL.Tg.puts ts ds δ = some δ' → ∀ α pins s σ H S vs us, Inv X pins σ H s → Rel X.K α δ S σ H → RDs X.K α H ds vs → Vals vs us →
    wpAny (model X.prog X.w) X.A (assignInOrder ((assignEach tgs X.env).map (·.2)) us) (fun _ s' => ∃ σ', Inv X pins σ' H s' ∧ Rel X.K α δ' S σ' H ∧ Alike (PL.Tg.slotss ts) σ σ') X.xe s
  len : ∀ ds δ δ', PL.Tg.puts ts ds δ = some δ' → ds.length = ts.length
theorem cg_name (hX : Cz k X) (i : Nat) (hi : X.N[i]? = some x := by rfl) (hx : Loc X.env.scope x := by first | exact .inl rfl | exact .inr rfl)
    (hf : X.fn x = true ∨ X.env.scope.names.lookup x = some .local := by first | exact .inl rfl | exact .inr rfl) : CG X (.Name x pos) (.name i) := ⟨fun d δ δ' h α pins s σ H S v u I R q rv => by
  simp only [PL.Tg.put] at h
  cases h
  exact wpAny_assign_Name (store_ok I hX.nd hi hx rv (fun s2 I2 => ⟨_, I2, R.set q i, Alike.set⟩) hf)⟩
theorem cgs_nil : CGs X [] [] := ⟨fun ds δ δ' h α pins s σ H S vs us I R q rv => by
  cases ds with
  | nil =>
    simp only [PL.Tg.puts] at h
    cases h
    simp only [RDs] at q
    subst q
    cases rv
    exact assignInOrder_nil ⟨σ, I, R, Alike.refl⟩
  | cons d ds => simp [PL.Tg.puts] at h, fun ds δ δ' h => by cases ds with
  | nil => rfl
  | cons d ds => simp [PL.Tg.puts] at h⟩
theorem cgs_cons {t : PL.Tg} {ts : List PL.Tg} (h1 : CG X e t) (h2 : CGs X es ts) (hs : (assignEach (e :: es) X.env).map (·.2) = assign e X.env :: (assignEach es X.env).map (·.2) := by rfl) : CGs X (e :: es) (t :: ts) := ⟨fun ds δ δ' h α pins s σ H S vs us I R q rv => by
  cases ds with
  | nil => simp [PL.Tg.puts] at h
  | cons d ds =>
    simp only [PL.Tg.puts] at h
    cases hp : t.put d δ with
    | none => rw [hp] at h; cases h
    | some δ1 =>
      rw [hp] at h
      simp only [RDs] at q
      obtain ⟨v, vr, rfl, q1, q2⟩ := q
      cases rv with
      | cons r rr =>
        rw [hs]
        refine assignInOrder_cons (thn (h1.run d δ δ1 hp α pins s σ H S _ _ I R q1 r) fun _ s1 ⟨σ1, I1, R1, a1⟩ => ?_)
        exact thn (h2.run ds δ1 δ' h α pins s1 σ1 H S _ _ I1 R1 q2 rr) fun _ s2 ⟨σ2, I2, R2, a2⟩ => ⟨σ2, I2, R2, a1.trans a2⟩, fun ds δ δ' h => by
  cases ds with
  | nil => simp [PL.Tg.puts] at h
  | cons d ds =>
    simp only [PL.Tg.puts] at h
    cases hp : t.put d δ with
    | none => rw [hp] at h; cases h
    | some δ1 => rw [hp] at h; simp [h2.len ds δ1 δ' h]⟩
theorem cg_tup {ts : List PL.Tg} {kk : Nat} (hX : Cz k X) (h : CGs X es ts) (hn : (assignEach es X.env).length = ts.length := by rfl) (hst : (assignEach es X.env).findIdx? (·.1) = none := by rfl) : CG X (.Tuple es kk pos) (.tup ts) := ⟨fun d δ δ' hp α pins s σ H S v u I R q rv => by
  cases d <;> simp only [PL.Tg.put] at hp <;> try cases hp
  rename_i ds
  obtain ⟨p, vs, rfl, q1, q2⟩ := rd_tup q
  cases rv
  obtain ⟨its, rv, ht, hz⟩ := I.tuple q1
  refine assign_Tuple_tuple (I.ok.hd hX.calm) ht (by rw [hn, ← h.len ds δ δ' hp, q2.length, rv.length]; simp) hst fun h' hx => ?_
  have I1 : Inv X pins σ H { s with heap := h' } := I.kept (t' := s.toks) fun b o e => hx b o (Nat.ne_of_lt (Heap.lt_size e)) e
  exact h.run ds δ δ' hp α pins _ σ H S vs _ I1 R q2 (by simpa using rv)⟩
/-- target = e -/
theorem cs_asg {t : PL.Tg} {tg : Expr} (he : CE G X e m) (hg : CG X tg t) (hs : swapsWithSole [tg] e pos.line X.env = pure false := by rfl) (hw : swappedStores [tg] e X.env = pure none := by rfl)
    (h1 : (assignEach [tg] X.env).map (·.2) = [assign tg X.env] := by rfl) : CS G X (.Assign [tg] e pos) (PL.mAsg t m) := ⟨fun δ S r hm α pins s σ H I R tk => by
  refine wpAny_Assign_stores (he.thenS I R hm tk fun d S1 h2 α1 v H1 u s1 I1 rv x1 R1 q1 tk1 => ?_) hs hw
  rw [h1]
  cases hp : t.put d δ with
  | none => rw [hp] at h2; cases h2
  | some δ1 =>
    rw [hp] at h2
    cases h2
    exact thn (hg.run d δ δ1 hp α1 pins s1 σ H1 S1 v u I1 R1 q1 rv) fun _ s2 ⟨σ2, I2, R2, _⟩ => PoS.nx I2 x1 R2⟩
end
end BR

set_option Elab.async false
set_option linter.all false
set_option maxRecDepth 100000
set_option maxHeartbeats 2000000
/-! ## loops -/
namespace BR
open PySem PySem.Spec PyProof.Rows L2
/-- while, with a bound on its turns -/
def whN (c : PL.MT) (b : PL.MS) : Nat → PL.Env → PL.Sto → Option PL.RS
  | 0, _, _ => none
  | n + 1, δ, S => match c δ S with
    | some (.ok true S1) => match b δ S1 with
      | some (.nx δ2 S2) => whN c b n δ2 S2
      | some (.ct δ2 S2) => whN c b n δ2 S2
      | some (.bk δ2 S2) => some (.nx δ2 S2)
      | some (.rt d S2) => some (.rt d S2)
      | some (.ex x δ2 S2) => some (.ex x δ2 S2)
      | none => none
    | some (.ok false S1) => some (.nx δ S1)
    | some (.ex x S1) => some (.ex x δ S1)
    | none => none
theorem whN_of {c : PL.MT} {b : PL.MS} : ∀ δ S r, PL.mWhile c b δ S = some r → ∃ n, whN c b n δ S = some r := by
  refine PL.mWhile.partial_correctness c b (fun δ S r => ∃ n, whN c b n δ S = some r) fun f ih δ S r h => ?_
  cases hc : c δ S with
  | none => rw [hc] at h; cases h
  | some rt =>
    rw [hc] at h
    cases rt with
    | ex x S1 => exact ⟨1, by unfold whN; rw [hc]; exact h⟩
    | ok k S1 =>
      cases k with
      | false => exact ⟨1, by unfold whN; rw [hc]; exact h⟩
      | true =>
        simp only at h
        cases hb : b δ S1 with
        | none => rw [hb] at h; cases h
        | some rb =>
          rw [hb] at h
          cases rb with
          | nx δ2 S2 => obtain ⟨n, e⟩ := ih _ _ _ h; exact ⟨n + 1, by unfold whN; rw [hc]; simp only [hb]; exact e⟩
          | ct δ2 S2 => obtain ⟨n, e⟩ := ih _ _ _ h; exact ⟨n + 1, by unfold whN; rw [hc]; simp only [hb]; exact e⟩
          | bk δ2 S2 => exact ⟨1, by unfold whN; rw [hc]; simp only [hb]; exact h⟩
          | rt d S2 => exact ⟨1, by unfold whN; rw [hc]; simp only [hb]; exact h⟩
          | ex x δ2 S2 => exact ⟨1, by unfold whN; rw [hc]; simp only [hb]; exact h⟩
section
variable {G : EX} {X : Cx} {α α' : List Addr} {δ : PL.Env} {S : PL.Sto} {σ : L2.St} {H H' : Hp} {pins : List (Addr × Obj)} {s : Shared}
variable {a b c e : Expr} {ma mb mc m : PL.ME} {pos : Pos} {es : List Expr} {mas : PL.MA} {st : Stmt} {sts sts' : List Stmt} {ms mr : PL.MS} {k : Nat} {x y z : Str}
/-- what a body is to do behind each turn -/
theorem body_run {r : PL.RS} {r0 : PL.RS} (h : CSs G X sts ms) (hb : ms δ S = some r0) (I : Inv X pins σ H s) (R : Rel X.K α δ S σ H) (tk : ∀ x δ' S', r0 = .ex x δ' S' → TkS G X α H r0) : wpAny (model X.prog X.w) X.A (execs sts X.env) (PoS X pins α H r0) X.xe s :=
  h.run δ S r0 hb α pins s σ H I R (by
    cases r0 with
    | ex x δ' S' => exact tk x δ' S' rfl
    | _ => trivial)
theorem cs_while {mt : PL.MT} (hX : Cz k X) (hc : CT G X c mt) (hb : CSs G X sts ms) : CS G X (.While c sts [] pos) (PL.mWhile mt ms) := ⟨fun δ S r hm α pins s σ H I R tk => by
  have hp := hX.po
  obtain ⟨n0, e0⟩ := whN_of δ S r hm
  refine wpAny_While (codeAny_whileLoop (fun n s' => ∃ α1 δ1 S1 σ1 H1, Inv X pins σ1 H1 s' ∧ Ext α H α1 H1 ∧ Rel X.K α1 δ1 S1 σ1 H1 ∧ whN mt ms n δ1 S1 = some r) ?_ n0 ⟨α, δ, S, σ, H, I, Ext.refl _ _, R, e0⟩)
  rintro n s1 ⟨α1, δ1, S1, σ1, H1, I1, x1, R1, e1⟩
  have tk1 := tk.ext x1
  cases n with
  | zero => cases e1
  | succ n =>
    unfold whN at e1
    refine wpAny_passesOwn hp (hc.step I1 R1 (fun z => by rw [z] at e1; cases e1) (fun x2 S2 z => by rw [z] at e1; cases e1; exact TkS.ofE R1 tk1) fun d S2 z α2 H2 s2 I2 x2 R2 => ?_)
    rw [z] at e1
    cases d with
    | false =>
      cases e1
      rw [if_neg Bool.false_ne_true]
      exact wpAny_execs_nil (PoS.nx I2 (x1.trans x2) R2)
    | true =>
      simp only at e1
      rw [if_pos rfl]
      cases hr : ms δ1 S2 with
      | none => rw [hr] at e1; cases e1
      | some r0 =>
        rw [hr] at e1
        refine wpAny_passesOwn hp (thn (body_run hb hr I2 R2 (r := r) (fun x δ' S' z => by subst z; cases e1; exact tk1.ext x2)) fun f s3 q => ?_)
        cases r0 with
        | nx δ3 S3 =>
          obtain ⟨rfl, α3, σ3, H3, I3, x3, R3⟩ := q
          exact ⟨n, Nat.lt_succ_self _, α3, δ3, S3, σ3, H3, I3, (x1.trans x2).trans x3, R3, e1⟩
        | ct δ3 S3 =>
          obtain ⟨rfl, α3, σ3, H3, I3, x3, R3⟩ := q
          exact ⟨n, Nat.lt_succ_self _, α3, δ3, S3, σ3, H3, I3, (x1.trans x2).trans x3, R3, e1⟩
        | bk δ3 S3 =>
          cases e1
          obtain ⟨rfl, α3, σ3, H3, I3, x3, R3⟩ := q
          exact PoS.nx I3 ((x1.trans x2).trans x3) R3
        | rt d S3 =>
          cases e1
          obtain ⟨u, rfl, q⟩ := q
          exact PoS.ext (r := .rt d S3) ⟨u, rfl, q⟩ (x1.trans x2)
        | ex _ _ _ => exact q.elim⟩

/-! ### what is walked -/
/-- the walk J gives the items ds, whatever the heap becomes -/
structure IOk (K : PySem.W.Frag) (J : It) (ds : List PL.D) (α : List Addr) (H : Hp) : Prop where
  go : ∀ i α' H', i < ds.length → Ext α H α' H' → J.go i H'
  stop : ∀ α' H', Ext α H α' H' → J.stop ds.length H'
  yld : ∀ i α' H' x H'' d, ds[i]? = some d → Ext α H α' H' → J.yld i H' x H'' → (∀ c u, H' c = some u → H'' c = some u) ∧ RD K α' H'' d x
def PoI (X : Cx) (pins : List (Addr × Obj)) (tg : Expr) (α : List Addr) (δ : PL.Env) (σ : L2.St) (H : Hp) (r : PL.RA) (itv : Value) (s' : Shared) : Prop := match r with
  | .ok ds S' => ∃ α', PIE X pins σ tg (fun J H' => Ext α H α' H' ∧ Rel X.K α' δ S' σ H' ∧ IOk X.K J ds α' H') itv s'
  | .ex _ _ => False
structure CI (G : EX) (X : Cx) (tg iter : Expr) (mi : PL.MI) : Prop where
  run : ∀ δ S r, mi δ S = some r → ∀ α pins s σ H, Inv X pins σ H s → Rel X.K α δ S σ H → TkA G X α σ H r →
    wpAny (model X.prog X.w) X.A (eval iter X.env) (fun v s1 => wpAny (model X.prog X.w) X.A (pyIter v) (PoI X pins tg α δ σ H r) X.xe s1) X.xe s
theorem PIE.imp {tg : Expr} {R R' : It → Hp → Prop} {itv : Value} {s' : Shared} (h : PIE X pins σ tg R itv s') (i : ∀ J H, R J H → R' J H) : PIE X pins σ tg R' itv s' := by
  obtain ⟨it, fp, tn, J, H', e, I, T, t0, f, r⟩ := h
  exact ⟨it, fp, tn, J, H', e, I, T, t0, f, i J H' r⟩
/-- by a walk of HandS over what never changes -/
theorem IOk.of {K : PySem.W.Frag} {J : It} {n : Nat} {Gd : Hp → Prop} {vs : List V} {ds : List PL.D} (w : Walk J n Gd (YAt vs)) (hn : ds.length = n) (g : ∀ α' H', Ext α H α' H' → Gd H') (q : RDs K α H ds vs) : IOk K J ds α H := by
  subst hn
  refine ⟨fun i α' H' hi x => w.goes i H' hi (g α' H' x), fun α' H' x => w.stops H' (g α' H' x), fun i α' H' y H'' d hd x yy => ?_⟩
  have hi : i < ds.length := (List.getElem?_eq_some_iff.mp hd).1
  obtain ⟨rfl, e⟩ := w.yields i H' y H'' hi (g α' H' x) yy
  obtain ⟨v, e1, q1⟩ := (q.mono x).get hd
  rw [e] at e1
  cases e1
  exact ⟨fun _ _ h => h, q1⟩
variable {tg : Expr}
/-- a tuple, a list that nobody changes -/
theorem ci_seq (he : CE G X e m) : CI G X tg e (PL.mItSeq m) := ⟨fun δ S r hm α pins s σ H I R tk => by
  refine he.thenA I R hm tk fun d S1 h1 α1 v H1 u s1 I1 rv x1 R1 q1 tk1 => ?_
  cases d <;> try cases h1
  · obtain ⟨p, vs, rfl, q2, q3⟩ := rd_tup q1
    cases rv
    obtain ⟨its, rv, pt, hz⟩ := I1.tuple q2
    refine wpAny_pyIter_tuple (show s1.heap.IsTuple p its.toArray from pt) ?_
    refine ⟨α1, s1.heap.objs.size, [s1.heap.objs.size], _, _, H1, rfl, I1.kept (t' := s1.toks) fun b o e => Heap.get?_push_of_some _ e, turn_tuple p _, ⟨_, Heap.get?_push_size _ rfl, rfl, rfl⟩, fun b hb => ?_, x1, R1, ?_⟩
    · have e : b = s1.heap.objs.size := by simpa using hb
      subst e
      exact I1.fpOk (Nat.le_refl _) (I1.hok.fresh (Nat.le_refl _))
    · exact IOk.of walk_tup q3.length (fun α' H' x => SqT.le x.2.1 q2) q3
  · obtain ⟨p, o, vs, rfl, q2, q3⟩ := rd_lst q1
    cases rv
    obtain ⟨its, rv, pt, hz⟩ := I1.list (frz_sq q2)
    refine wpAny_pyIter_list pt.isList ?_
    refine ⟨α1, s1.heap.objs.size, [s1.heap.objs.size], _, _, H1, rfl, I1.kept (t' := s1.toks) fun b o e => Heap.get?_push_of_some _ e, turn_list p _, ⟨_, Heap.get?_push_size _ rfl, rfl, rfl⟩, fun b hb => ?_, x1, R1, ?_⟩
    · have e : b = s1.heap.objs.size := by simpa using hb
      subst e
      exact I1.fpOk (Nat.le_refl _) (I1.hok.fresh (Nat.le_refl _))
    · exact IOk.of walk_list q3.length (fun α' H' x => frz_sq (FzL.le x.2.1 q2)) q3⟩
theorem iok_range {K : PySem.W.Frag} {lo : Int} {n : Nat} : IOk K (Itr lo n) (PL.rangeD lo n) α H := by
  have hl : (PL.rangeD lo n).length = n := by simp [PL.rangeD]
  refine ⟨fun i α' H' hi x => by rw [hl] at hi; exact hi, fun α' H' x => by rw [hl]; exact Nat.le_refl _, fun i α' H' y H'' d hd x yy => ?_⟩
  obtain ⟨rfl, rfl⟩ := yy
  have hi : i < n := by rw [← hl]; exact (List.getElem?_eq_some_iff.mp hd).1
  have : d = .int (lo + i) := by
    unfold PL.rangeD at hd
    rw [List.getElem?_map, List.getElem?_range hi] at hd
    cases hd; rfl
  subst this
  exact ⟨fun _ _ h => h, mk_int⟩
theorem CA.thenA' {ma : PL.MA} (h : CA G X es ma) (pos : Pos) (I : Inv X pins σ H s) (R : Rel X.K α δ S σ H) {k : List PL.D → PL.Sto → Option PL.RA} {r : PL.RA} (hk : PL.bAA (ma δ S) k = some r) (tk : TkA G X α σ H r) {Q : List Value → Shared → Prop}
    (q : ∀ d S1, k d S1 = some r → ∀ α1 v H1 u s1, Inv X pins σ H1 s1 → Vals v u → Ext α H α1 H1 → Rel X.K α1 δ S1 σ H1 → RDs X.K α1 H1 d v → TkA G X α1 σ H1 r → Q u s1) :
    wpAny (model X.prog X.w) X.A (spliced (backTo pos (starEach es X.env))) Q X.xe s := h.thenA pos I R hk tk q
theorem rng1_eq : PL.mItRange1 ma δ S = PL.bAA (PL.mConsA ma PL.mNilA δ S) fun ds S1 => match ds with
    | [.int n] => if n.natAbs < 4611686018427387904 then some (.ok (PL.rangeD 0 n.toNat) S1) else none
    | _ => none := by
  unfold PL.mItRange1 PL.mConsA PL.mNilA
  cases h1 : ma δ S with
  | none => rfl
  | some r1 =>
    cases r1 with
    | ex _ _ => rfl
    | ok d1 S1 => cases d1 <;> rfl
theorem rng2_eq : PL.mItRange2 ma mb δ S = PL.bAA (PL.mConsA ma (PL.mConsA mb PL.mNilA) δ S) fun ds S2 => match ds with
    | [.int lo, .int hi] => if lo.natAbs < 4611686018427387904 ∧ hi.natAbs < 4611686018427387904 then some (.ok (PL.rangeD lo (hi - lo).toNat) S2) else none
    | _ => none := by
  unfold PL.mItRange2 PL.mConsA PL.mNilA
  cases h1 : ma δ S with
  | none => rfl
  | some r1 =>
    cases r1 with
    | ex _ _ => rfl
    | ok d1 S1 =>
      simp only [PL.bEA_ok]
      cases h2 : mb δ S1 with
      | none => rfl
      | some r2 =>
        cases r2 with
        | ex _ _ => rfl
        | ok d2 S2 => cases d1 <;> cases d2 <;> rfl
theorem ci_range1 {p : Pos} (hm : X.mg "range" = none) (ha : CA G X [a] (PL.mConsA ma PL.mNilA)) (hg : Gl X "range" := by rfl) (hs : starEach [a] X.env = [(false, eval a X.env)] := by rfl) : CI G X tg (.Call (.Name "range" p) [a] [] pos) (PL.mItRange1 ma) := ⟨fun δ S r h0 α pins s σ H I R tk => by
  rw [rng1_eq] at h0
  refine Call_ (ld_blt I hg hm boot_range (PyProof.Rows.callWith_type1 (ha.thenA pos I R h0 tk fun ds S1 h1 α1 vs H1 us s1 I1 rv x1 R1 q1 tk1 => ?_) hs rfl))
  split at h1
  · rename_i n
    split at h1
    · rename_i hz
      cases h1
      obtain ⟨v, rfl, q2⟩ := q1.one
      have e2 := rd_int q2
      subst e2
      cases rv with
      | cons r rr =>
        cases rr
        obtain ⟨t, rfl⟩ := r
        refine call_range_1 (thn (range_it (tg := tg) (R := fun J H' => J = Itr 0 n.toNat ∧ H' = H1) I1 (by omega) (by omega) (by omega) (by omega) (by simp)) fun itv s2 h => ?_)
        exact ⟨α1, PIE.imp h fun J H2 ⟨e1, e2⟩ => by subst e1 e2; exact ⟨x1, R1, iok_range⟩⟩
    · cases h1
  · cases h1⟩
theorem ci_range2 {p : Pos} (hm : X.mg "range" = none) (ha : CA G X [a, b] (PL.mConsA ma (PL.mConsA mb PL.mNilA))) (hg : Gl X "range" := by rfl) (hs : starEach [a, b] X.env = [(false, eval a X.env), (false, eval b X.env)] := by rfl) (hs2 : starEach [b] X.env = [(false, eval b X.env)] := by rfl) :
    CI G X tg (.Call (.Name "range" p) [a, b] [] pos) (PL.mItRange2 ma mb) := ⟨fun δ S r h0 α pins s σ H I R tk => by
  rw [rng2_eq] at h0
  refine Call_ (ld_blt I hg hm boot_range (PyProof.Rows.callWith_type1 (ha.thenA pos I R h0 tk fun ds S1 h1 α1 vs H1 us s1 I1 rv x1 R1 q1 tk1 => ?_) (by rw [hs, hs2]) (by rw [hs2]; rfl)))
  split at h1
  · rename_i lo hi
    split at h1
    · rename_i hz
      cases h1
      obtain ⟨v, w, rfl, q2, q3⟩ := q1.two
      have e2 := rd_int q2
      have e3 := rd_int q3
      subst e2 e3
      cases rv with
      | cons r rr =>
        cases rr with
        | cons r' rr =>
          cases rr
          obtain ⟨t, rfl⟩ := r
          obtain ⟨t', rfl⟩ := r'
          refine call_range_2 (thn (range_it (tg := tg) (R := fun J H' => J = Itr lo (hi - lo).toNat ∧ H' = H1) I1 (by omega) (by omega) (by omega) (by omega) ⟨rfl, rfl⟩) fun itv s2 h => ?_)
          exact ⟨α1, PIE.imp h fun J H2 ⟨e1, e2⟩ => by subst e1 e2; exact ⟨x1, R1, iok_range⟩⟩
    · cases h1
  · cases h1⟩

/-! ### for -/
theorem cs_for {iter : Expr} {mi : PL.MI} {t : PL.Tg} (hX : Cz k X) (hi : CI G X tg iter mi) (hg : CG X tg t) (hb : CSs G X sts ms) (hs : ∀ x, foldedSetIterable iter X.env x = pure x := by intro _; rfl) : CS G X (.For tg iter sts [] pos) (PL.mFor t mi ms) := ⟨fun δ S r hm α pins s σ H I R tk => by
  have hp := hX.po
  have hc := hX.calm
  unfold PL.mFor at hm
  cases hmi : mi δ S with
  | none => rw [hmi] at hm; cases hm
  | some r1 =>
    rw [hmi] at hm
    cases r1 with
    | ex x S1 =>
      cases hm
      exact wpAny_For (thn (hi.run δ S _ hmi α pins s σ H I R (TkS.ofE R tk)) fun v s1 h1 => thn h1 fun itv s2 h2 => h2.elim) hs
    | ok ds S1 =>
      simp only [PL.bAS_ok] at hm
      refine wpAny_For (thn (hi.run δ S _ hmi α pins s σ H I R trivial) fun v s1 h1 => thn h1 fun itv s2 h2 => ?_) hs
      obtain ⟨α2, it, fp, tn, J, H2, e, I2, T, st2, f2, x2, R2, io⟩ := h2
      subst e
      have stat : ∀ {H' : Hp}, (∀ b ∈ fp, H' b = none) → ∀ b ∈ fp, FpOk X pins H' b := fun hn b hb => ⟨hn b hb, (f2 b hb).2⟩
      refine codeAny_forLoop_any (fun n s' => ∃ i α' δ' S' σ' H', n = ds.length - i ∧ i ≤ ds.length ∧ Inv X pins σ' H' s' ∧ tn i s'.heap ∧ (∀ b ∈ fp, H' b = none) ∧ Ext α2 H2 α' H' ∧ Rel X.K α' δ' S' σ' H' ∧ PL.forL t ms (ds.drop i) δ' S' = some r)
        ?_ ds.length ⟨0, α2, δ, S1, σ, H2, rfl, Nat.zero_le _, I2, st2, fun b hb => (f2 b hb).1, Ext.refl _ _, R2, by simpa using hm⟩
      rintro n s3 ⟨i, α3, δ3, S3, σ3, H3, rfl, hil, I3, st3, fr3, x3, R3, w3⟩
      have tk3 := (tk.ext x2).ext x3
      by_cases hlt : i < ds.length
      · refine wpAny_passesOwn hp (thn (T.item X rfl rfl rfl hc i pins s3 σ3 H3 X.xe I3 (stat fr3) st3 (io.go i α3 H3 hlt x3)) fun r4 s4 ⟨u, hr, h4⟩ => ?_)
        subst hr
        refine wpAny_passesOwn hp (thn h4 fun _ s5 ⟨x, H5, I5, r5, y5, st5, fr5⟩ => ?_)
        have I5' := I5.pinned (stat fr5) (T.obj _ _ st5)
        obtain ⟨keep, q5⟩ := io.yld i α3 H3 x H5 ds[i] (List.getElem?_eq_getElem hlt) x3 y5
        have x5 : Ext α3 H3 α3 H5 := Ext.same keep R3.st.ne
        have R5 : Rel X.K α3 δ3 S3 σ3 H5 := R3.mono x5 (R3.st.same keep)
        rw [List.drop_eq_getElem_cons hlt] at w3
        unfold PL.forL at w3
        cases hput : t.put ds[i] δ3 with
        | none => rw [hput] at w3; cases w3
        | some δ4 =>
          rw [hput] at w3
          simp only at w3
          refine wpAny_passesOwn hp (thn (hg.run ds[i] δ3 δ4 hput α3 _ s5 σ3 H5 S3 x u I5' R5 q5 r5) fun _ s6 ⟨σ6, I6, R6, _⟩ => ?_)
          cases hbd : ms δ4 S3 with
          | none => rw [hbd] at w3; cases w3
          | some r0 =>
            rw [hbd] at w3
            refine wpAny_passesOwn hp (thn (body_run hb hbd I6 R6 (r := r) (fun x' δ' S' z => by subst z; cases w3; exact tk3.ext x5)) fun f s7 q7 => ?_)
            have again : ∀ {α7 : List Addr} {δ7 : PL.Env} {S7 : PL.Sto} {σ7 : L2.St} {H7 : Hp}, Inv X (pins ++ pinsAt fp s5.heap) σ7 H7 s7 → Ext α3 H5 α7 H7 → Rel X.K α7 δ7 S7 σ7 H7 → PL.forL t ms (ds.drop (i + 1)) δ7 S7 = some r →
                ∃ m, m < ds.length - i ∧ ∃ i α' δ' S' σ' H', m = ds.length - i ∧ i ≤ ds.length ∧ Inv X pins σ' H' s7 ∧ tn i s7.heap ∧ (∀ b ∈ fp, H' b = none) ∧ Ext α2 H2 α' H' ∧ Rel X.K α' δ' S' σ' H' ∧ PL.forL t ms (ds.drop i) δ' S' = some r := fun {α7 δ7 S7 σ7 H7} I7 x7 R7 w7 => by
              refine ⟨ds.length - (i + 1), by omega, i + 1, α7, δ7, S7, σ7, H7, rfl, hlt, I7.unpinned, T.keep _ _ _ st5 fun b hb o e => (I7.pin (b, o) (List.mem_append_right _ (List.mem_append_right _ (mem_pinsAt hb e)))).1, fun b hb => ?_, (x3.trans x5).trans x7, R7, w7⟩
              obtain ⟨o, e, d⟩ := T.obj _ _ st5 b hb
              exact (I7.pin (b, o) (List.mem_append_right _ (List.mem_append_right _ (mem_pinsAt hb e)))).2.1
            cases r0 with
            | nx δ7 S7 =>
              obtain ⟨rfl, α7, σ7, H7, I7, x7, R7⟩ := q7
              exact again I7 x7 R7 w3
            | ct δ7 S7 =>
              obtain ⟨rfl, α7, σ7, H7, I7, x7, R7⟩ := q7
              exact again I7 x7 R7 w3
            | bk δ7 S7 =>
              cases w3
              obtain ⟨rfl, α7, σ7, H7, I7, x7, R7⟩ := q7
              exact PoS.nx I7.unpinned (((x2.trans x3).trans x5).trans x7) R7
            | rt d S7 =>
              cases w3
              obtain ⟨u7, rfl, α7, σ7, H7, v7, I7, r7, x7, R7, q8⟩ := q7
              exact ⟨u7, rfl, α7, σ7, H7, v7, I7.unpinned, r7, ((x2.trans x3).trans x5).trans x7, R7, q8⟩
            | ex _ _ _ => exact q7.elim
      · have ei : i = ds.length := by omega
        subst ei
        refine wpAny_passesOwn hp (thn (T.done X rfl rfl rfl hc _ pins s3 σ3 H3 X.xe I3 (stat fr3) st3 (io.stop α3 H3 x3)) fun r4 s4 ⟨hr, I4⟩ => ?_)
        subst hr
        rw [List.drop_length] at w3
        unfold PL.forL at w3
        cases w3
        exact wpAny_execs_nil (PoS.nx I4 (x2.trans x3) R3)⟩
end
end BR

set_option Elab.async false
set_option linter.all false
set_option maxRecDepth 100000
set_option maxHeartbeats 2000000
/-! ## lists that change; comprehensions -/
namespace BR
open PySem PySem.Spec PyProof.Rows L2
section
variable {G : EX} {X : Cx} {α α' : List Addr} {δ : PL.Env} {S : PL.Sto} {σ : L2.St} {H H' : Hp} {pins : List (Addr × Obj)} {s : Shared}
variable {a b c e l : Expr} {ma mb mc m ml : PL.ME} {pos apos cpos : Pos} {es : List Expr} {mas : PL.MA} {st : Stmt} {sts sts' : List Stmt} {ms mr : PL.MS} {k : Nat} {x y z : Str}

theorem getL_inv {d : PL.D} {n : Nat} {xs : List PL.D} (h : PL.getL S d = some (n, xs)) : d = .ref n ∧ S[n]? = some (.lst xs) := by
  cases d <;> simp only [PL.getL] at h <;> try cases h
  rename_i n'
  split at h
  · rename_i ys hy
    cases h
    exact ⟨rfl, hy⟩
  · cases h
/-- a list of the store, its object -/
theorem lst_at (R : Rel X.K α δ S σ H) {n : Nat} {xs : List PL.D} {v : V} (h : S[n]? = some (.lst xs)) (q : RD X.K α H (.ref n) v) : ∃ p vs, v = .ref p ∧ α[n]? = some p ∧ H p = some (.lst vs) ∧ RDs X.K α H xs vs ∧ PL.D.pures xs = true := by
  obtain ⟨p, e1, e2⟩ := rd_ref q
  obtain ⟨β, h1, h2, nd, hb, ob⟩ := R.st
  obtain ⟨p', b', e3, e4, ⟨vs, e5, e6⟩, pu, _⟩ := ob n _ h
  rw [e1] at e3; cases e3
  exact ⟨p, vs, e2, e1, e5, e6, pu⟩
theorem pures_append {xs ys : List PL.D} (a : PL.D.pures xs = true) (b : PL.D.pures ys = true) : PL.D.pures (xs ++ ys) = true := by
  induction xs with
  | nil => exact b
  | cons x xs ih =>
    simp only [PL.D.pures, Bool.and_eq_true, List.cons_append] at a ⊢
    exact ⟨a.1, ih a.2⟩
theorem pures_iff {xs : List PL.D} : PL.D.pures xs = true ↔ ∀ x ∈ xs, x.pure = true := by
  induction xs with
  | nil => simp [PL.D.pures]
  | cons x xs ih => simp [PL.D.pures, ih]
/-- the n-th object becomes a list of other items -/
theorem put_lst (R : Rel X.K α δ S σ H) {n : Nat} {p : Addr} {xs ys : List PL.D} {vs ws : List V} (h : S[n]? = some (.lst xs)) (hp : α[n]? = some p) (hH : H p = some (.lst vs)) (q : RDs X.K α H ys ws) (pu : PL.D.pures ys = true) :
    Ext α H α (upd H p (.lst ws)) ∧ Rel X.K α δ (S.set n (.lst ys)) σ (upd H p (.lst ws)) := by
  have x : Ext α H α (upd H p (.lst ws)) := Ext.put hH (fun z => z) (.inl (List.mem_of_getElem? hp)) trivial
  exact ⟨x, R.mono x (R.st.put h hp ⟨⟨ws, upd_same, q.mono x⟩, pu, rfl⟩)⟩
theorem freeze_lst (R : Rel X.K α δ S σ H) {n : Nat} {p : Addr} {xs : List PL.D} {vs : List V} {od : Obj} (h : S[n]? = some (.lst xs)) (hp : α[n]? = some p) (hH : H p = some (.lst vs)) :
    Ext α H α (upd H p (.frz od (.lst vs))) ∧ Rel X.K α δ (S.set n .dead) σ (upd H p (.frz od (.lst vs))) := by
  have x : Ext α H α (upd H p (.frz od (.lst vs))) := Ext.put hH (fun z => z) (.inl (List.mem_of_getElem? hp)) trivial
  exact ⟨x, R.mono x (R.st.put h hp ⟨⟨od, _, upd_same⟩, rfl⟩)⟩
/-- l.append(e) -/
theorem c_append (hl : CE G X l ml) (he : CE G X e m) (hbase : attributeBase l "append" X.env (eval l X.env) = eval l X.env := by rfl)
    (hfew : ((backTo cpos (starEach [e] X.env)).all (fun x => !x.1) && (backToKw cpos (keywordEach [] X.env)).all (fun x => x.1.isSome)
      && decide (([e] : List Expr).length + ([] : List Keyword).length + (if ([] : List Keyword).isEmpty then 0 else 1) < 30)) = true := by rfl)
    (hline : (apos.endLine == cpos.line) = true := by rfl) (hs : starEach [e] X.env = (false, eval e X.env) :: starEach [] X.env := by rfl) : CE G X (.Call (.Attribute l "append" apos) [e] [] cpos) (PL.mAppend ml m) :=
  CE.ofX (pe_bm PySem.F.plainAttrs_list PySem.F.slot_list_append PySem.F.type_list_append mt_append hl.pe (pa_cons he.pe pa_nil hs) hbase hfew hline hs) fun δ S r h0 α σ H R tk => by
    refine tOf.go R h0 tk fun d S1 h1 α1 v H1 x1 R1 q1 tk1 => ?_
    split at h1
    · rename_i n0 xs0 hg0
      obtain ⟨rfl, hn0⟩ := getL_inv hg0
      obtain ⟨p0, vs0, rfl, hp0, hH0, _, _⟩ := lst_at R1 hn0 q1
      refine ⟨.inl ⟨rfl, vs0, SqL.of hH0⟩, ?_⟩
      refine tOf.go R1 h1 tk1 fun y S2 h2 α2 w H2 x2 R2 q2 tk2 => ?_
      split at h2
      · rename_i n xs hg
        obtain ⟨e0, hn⟩ := getL_inv hg
        cases e0
        obtain ⟨p, vs, e3, hp, hH, q3, pu⟩ := lst_at R2 hn (q1.mono x2)
        cases e3
        split at h2
        · rename_i hz
          cases h2
          have pu2 : PL.D.pures (xs ++ [y]) = true := pures_append pu (by simp [PL.D.pures, hz.2])
          obtain ⟨x3, R3⟩ := put_lst R2 hn hp hH (q3.append (.cons q2 .nil)) pu2
          exact ⟨p0, vs, w, rfl, rfl, hH, by rw [← q3.length, ← line_eq]; exact hz.1, α2, (x1.trans x2).trans x3, R3, mk_non⟩
        · cases h2
      · cases h2
    · cases h1
/-- l.pop() -/
theorem c_pop (hl : CE G X l ml) (hbase : attributeBase l "pop" X.env (eval l X.env) = eval l X.env := by rfl) (hline : (apos.endLine == cpos.line) = true := by rfl) : CE G X (.Call (.Attribute l "pop" apos) [] [] cpos) (PL.mPop ml) :=
  CE.ofX (pe_bm0 PySem.F.plainAttrs_list PySem.F.slot_list_pop PySem.F.type_list_pop mt_pop hl.pe hbase hline) fun δ S r h0 α σ H R tk => by
    refine tOf.go R h0 tk fun d S1 h1 α1 v H1 x1 R1 q1 tk1 => ?_
    split at h1
    · rename_i n xs hg
      obtain ⟨rfl, hn⟩ := getL_inv hg
      obtain ⟨p, vs, rfl, hp, hH, q3, pu⟩ := lst_at R1 hn q1
      refine ⟨.inl ⟨rfl, vs, SqL.of hH⟩, ?_⟩
      split at h1
      · rename_i y hy
        cases h1
        obtain ⟨w, hw, qw⟩ := q3.get hy
        rw [q3.length] at hw
        have pu2 : PL.D.pures xs.dropLast = true := by
          rw [pures_iff] at pu ⊢
          exact fun x hx => pu x ((List.dropLast_sublist xs).subset hx)
        obtain ⟨x3, R3⟩ := put_lst R1 hn hp hH q3.dropLast pu2
        exact ⟨p, vs, w, rfl, rfl, hH, hw, α1, x1.trans x3, R3, qw.mono x3⟩
      · cases h1
    · cases h1

/-- l[i] = e -/
theorem cs_setIx {i : Expr} {mi : PL.ME} {p1 : Pos} (hl : CE G X l ml) (hi : CE G X i mi) (he : CE G X e m) (hs : swapsWithSole [.Subscript l i p1] e pos.line X.env = pure false := by rfl) (hw : swappedStores [.Subscript l i p1] e X.env = pure none := by rfl)
    (h1 : (assignEach [.Subscript l i p1] X.env).map (·.2) = [assign (.Subscript l i p1) X.env] := by rfl) (ha : ∀ v, assign (.Subscript l i p1) X.env v = (do
      let ov ← holding [v] (eval l X.env)
      let iv ← holding [v, ov] (eval i X.env)
      standAt p1
      holding [v, ov, iv] (setItem ov iv v)
      release [v, ov, iv] []) := by intro _; rfl) : CS G X (.Assign [.Subscript l i p1] e pos) (PL.mSetIx ml mi m) := ⟨fun δ S r hm α pins s σ H I R tk => by
  refine wpAny_Assign_stores (he.thenS I R hm tk fun d S1 h2 α1 v H1 u s1 I1 rv x1 R1 q1 tk1 => ?_) hs hw
  rw [h1]
  show wpAny _ _ (assign (.Subscript l i p1) X.env u) _ _ _
  rw [ha]
  refine wpAny_bind (wpAny_holding (hl.thenS I1 R1 h2 tk1 fun d2 S2 h3 α2 v2 H2 u2 s2 I2 rv2 x2 R2 q2 tk2 => ?_))
  refine wpAny_bind (wpAny_holding (hi.thenS I2 R2 h3 tk2 fun d3 S3 h4 α3 v3 H3 u3 s3 I3 rv3 x3 R3 q3 tk3 => ?_))
  split at h4
  · rename_i n xs j hg
    obtain ⟨rfl, hn⟩ := getL_inv hg
    split at h4
    · rename_i p hp
      split at h4
      · rename_i pv
        cases h4
        obtain ⟨a, vs, rfl, ha', hH, q4, pu⟩ := lst_at R3 hn (q2.mono x3)
        have e3 := rd_int q3
        subst e3
        have pu2 : PL.D.pures (xs.set p d) = true := by
          rw [pures_iff] at pu ⊢
          intro x hx
          rcases List.mem_or_eq_of_mem_set hx with h | h
          · exact pu x h
          · rw [h]; exact pv
        have qd := (q1.mono x2).mono x3
        obtain ⟨x4, R4⟩ := put_lst R3 hn ha' hH (q4.set p qd) pu2
        refine wpAny_bind (wpAny_standAt (wpAny_bind (wpAny_holding (thn (set_list pins s3 σ H3 _ _ v u2 u3 u (fun H' => H' = upd H3 a (.lst (vs.set p v))) I3 rv2 rv3 rv ⟨a, vs, j, p, rfl, rfl, hH, ?_, rfl⟩) fun _ s4 ⟨H4, I4, e4⟩ => ?_))))
        · rw [← q4.length, ← ixN_eq]; exact hp
        · subst e4
          exact wpAny_release (PoS.nx I4 (((x1.trans x2).trans x3).trans x4) R4)
      · cases h4
    · cases h4
  · cases h4⟩
/-- from here on the list stays as it is -/
theorem c_freeze (he : CE G X e m) : CE G X e (PL.mFreeze m) := ⟨fun δ S r hm α pins s σ H I R tk => by
  refine he.then I R hm tk fun d S1 h1 α1 v H1 u s1 I1 rv x1 R1 q1 tk1 => ?_
  have gen : ∀ {n : Nat} {xs : List PL.D}, PL.getL S1 d = some (n, xs) → r = .ok (.lst xs) (S1.set n .dead) → PoE X pins α δ σ H r u s1 := fun {n xs} hg hr => by
    obtain ⟨rfl, hn⟩ := getL_inv hg
    obtain ⟨p, vs, rfl, hp, hH, q3, pu⟩ := lst_at R1 hn q1
    cases rv
    obtain ⟨od, I2⟩ := I1.lock hH trivial
    obtain ⟨x3, R3⟩ := freeze_lst (od := od) R1 hn hp hH
    subst hr
    refine ⟨α1, .ref p, _, I2, rfl, x1.trans x3, R3, ?_⟩
    simp only [RD]
    exact ⟨p, od, vs, rfl, .inl upd_same, q3.mono x3⟩
  split at h1
  · cases h1
    exact PoE.mk I1 rv x1 R1 q1
  · split at h1
    · rename_i n xs hg
      cases h1
      exact gen hg rfl
    · cases h1⟩
/-- list(e), a list that will be changed -/
theorem c_newList {p : Pos} (hm : X.mg "list" = none) (ha : CE G X e m) (hg : Gl X "list" := by rfl)
    (he : starEach [e] X.env = (false, eval e X.env) :: starEach [] X.env := by rfl) (hpl : (backTo pos (starEach [] X.env)).any (·.1) = false := by rfl) : CE G X (.Call (.Name "list" p) [e] [] pos) (PL.mNewList m) := ⟨fun δ S r h0 α pins s σ H I R tk => by
  refine wpAny_Call_Name_kw (ld_blt I hg hm (u := .type "list") (by decide +kernel) ?_ (by decide) (by decide))
  refine PyProof.Rows.callWith_type1 (T := "list") ?_ he hpl
  refine (ca_cons (G := G) ha ca_nil he).step pos I R (fun z => ?_) (fun x S1 z => ?_) fun ds S1 z α1 vs H1 us s1 I1 rv x1 R1 q1 => ?_
  · unfold PL.mNewList at h0
    unfold PL.mConsA PL.mNilA at z
    cases c : m δ S with
    | none => rw [c] at h0; cases h0
    | some r0 => rw [c] at z; cases r0 <;> cases z
  · unfold PL.mNewList at h0
    unfold PL.mConsA PL.mNilA at z
    cases c : m δ S with
    | none => rw [c] at h0; cases h0
    | some r0 =>
      rw [c] at z h0
      cases r0 with
      | ok d S => cases z
      | ex x' S' => cases z; cases h0; exact tk
  · unfold PL.mNewList at h0
    unfold PL.mConsA PL.mNilA at z
    cases c : m δ S with
    | none => rw [c] at h0; cases h0
    | some r0 =>
      rw [c] at z h0
      cases r0 with
      | ex x' S' => cases z
      | ok d S' =>
        cases z
        simp only [PL.bE_ok] at h0
        split at h0
        · rename_i xs hs
          obtain ⟨hp, rfl⟩ := if_inv h0
          obtain ⟨v, rfl, q2⟩ := q1.one
          obtain ⟨a, ws, rfl, h1, h2⟩ := seq_rd hs R1 q2
          refine thn (call_list_of pins s1 σ H1 _ us (fun v H' => ∃ l, v = .ref l ∧ H1 l = none ∧ H' = upd H1 l (.lst ws)) I1 rv ⟨a, ws, rfl, h1, fun l hl => ⟨l, rfl, hl, rfl⟩⟩) fun u s' hu => ?_
          obtain ⟨w, H', I', rw', l, e1, hl, e2⟩ := hu
          subst e1 e2
          cases rw'
          exact (PoE.new I' hl R1 h2 hp).ext x1
        · cases h0⟩
/-- == and != over the store -/
theorem dp_rsv {n : Nat} {d : PL.D} {v : V} (R : Rel X.K α δ S σ H) (h : (PL.rsv S d).okN n = true) (q : RD X.K α H d v) : Dp X.K H v (toPy (PL.rsv S d)) := by
  have same : PL.rsv S d = d → Dp X.K H v (toPy (PL.rsv S d)) := fun e => by rw [e] at h ⊢; exact dp_of h q
  cases d with
  | ref i =>
    unfold PL.rsv at h ⊢
    cases hs : S[i]? with
    | none => simp [hs, PL.D.okN] at h
    | some o =>
      cases o with
      | lst xs =>
        simp only [hs] at h ⊢
        obtain ⟨p, vs, rfl, hp, hH, q3, pu⟩ := lst_at R hs q
        cases n with
        | zero => simp [PL.D.okN] at h
        | succ n =>
          simp only [PL.D.okN] at h
          simp only [toPy]; exact .lst (SqL.of hH) (dps_of h q3)
      | _ => simp [hs, PL.D.okN] at h
  | _ => exact same rfl
theorem c_cmpS {op : CmpOp} {f : PL.Sto → PL.D → PL.D → Option PL.D} (ho : ∀ S x y z, f S x y = some z → ∀ α δ pins s σ H v w u1 u2, Inv X pins σ H s → Rel X.K α δ S σ H → RD X.K α H x v → RD X.K α H y w → RelV v u1 → RelV w u2 →
    wpAny (model X.prog X.w) X.A (compareOp op u1 u2) (PoE X pins α δ σ H (.ok z S)) X.xe s) (ha : CE G X a ma) (hb : CE G X b mb) (h1 : behindInMarks op b = false := by first | exact nobehind _ (by decide) (by decide) | rfl) : CE G X (.Compare a [op] [b] pos) (PL.mBinS f ma mb) :=
  ⟨fun δ S r hm α pins s σ H I R tk => by
    refine wpAny_Compare1 (ha.then I R hm tk fun x S1 h1 α1 v H1 u1 s1 I1 rv x1 R1 q1 tk1 => ?_) h1
    refine hb.then I1 R1 h1 tk1 fun y S2 h2 α2 w H2 u2 s2 I2 rw x2 R2 q2 tk2 => ?_
    obtain ⟨z, e, rfl⟩ := map_inv h2
    exact thn (ho S2 x y z e α2 δ pins s2 σ H2 v w u1 u2 I2 R2 (q1.mono x2) q2 rv rw) fun u s' h => h.ext (x1.trans x2)⟩
theorem c_eqS (hX : Cz k X) (ha : CE G X a ma) (hb : CE G X b mb) : CE G X (.Compare a [.Eq] [b] pos) (PL.mBinS PL.opEqS ma mb) := c_cmpS (fun S x y z e α δ pins s σ H v w u1 u2 I R q1 q2 r1 r2 => by
  obtain ⟨ho, rfl⟩ := if_inv e
  simp only [Bool.and_eq_true] at ho
  refine thn (op_eqD (hu64 hX) pins s σ H v w u1 u2 (PoV X.K α δ σ H (.ok _ S)) I r1 r2 ⟨_, _, dp_rsv R ho.1 q1, dp_rsv R ho.2 q2, shaped_of ho.1, shaped_of ho.2, ?_⟩) fun u s' hu => PoE.ofV hu
  rw [eqv_of ho.1 ho.2]
  exact PoV.here R mk_bl) ha hb
theorem c_neS (hX : Cz k X) (ha : CE G X a ma) (hb : CE G X b mb) : CE G X (.Compare a [.NotEq] [b] pos) (PL.mBinS PL.opNeS ma mb) := c_cmpS (fun S x y z e α δ pins s σ H v w u1 u2 I R q1 q2 r1 r2 => by
  obtain ⟨ho, rfl⟩ := if_inv e
  simp only [Bool.and_eq_true] at ho
  refine thn (op_neD (hu64 hX) pins s σ H v w u1 u2 (PoV X.K α δ σ H (.ok _ S)) I r1 r2 ⟨_, _, dp_rsv R ho.1 q1, dp_rsv R ho.2 q2, shaped_of ho.1, shaped_of ho.2, ?_⟩) fun u s' hu => PoE.ofV hu
  rw [eqv_of ho.1 ho.2]
  exact PoV.here R mk_bl) ha hb
end
end BR

set_option Elab.async false
set_option linter.all false
set_option maxRecDepth 100000
set_option maxHeartbeats 2000000
/-! ## comprehensions, enumerate -/
namespace BR
open PySem PySem.Spec PyProof.Rows L2
section
variable {G : EX} {X : Cx} {α α' : List Addr} {δ : PL.Env} {S : PL.Sto} {σ : L2.St} {H H' : Hp} {pins : List (Addr × Obj)} {s : Shared}
variable {a b c e l elt tg iter : Expr} {ma mb mc m ml : PL.ME} {pos apos cpos : Pos} {es ifs : List Expr} {mas : PL.MA} {k : Nat} {x y z : Str} {mt : PL.MT} {mi : PL.MI} {t : PL.Tg}

/-! ### the mirror's readings as HandS' own -/
def tiOf (G : EX) (X : Cx) (mi : PL.MI) : TI := fun σ H R => ∃ α δ S, Rel X.K α δ S σ H ∧ mi δ S ≠ none ∧ (∀ x S1, mi δ S = some (.ex x S1) → Takes X (WE G X α σ H x S1)) ∧
  ∀ ds S1, mi δ S = some (.ok ds S1) → ∀ α1 J H1, Ext α H α1 H1 → Rel X.K α1 δ S1 σ H1 → IOk X.K J ds α1 H1 → R J H1
theorem CI.pi (h : CI G X tg iter mi) : PI X tg iter (tiOf G X mi) := ⟨fun pins s σ H R I ⟨α, δ, S, Rl, no, tk, q⟩ => by
  cases c : mi δ S with
  | none => exact absurd c no
  | some r =>
    cases r with
    | ok ds S1 => exact thn (h.run δ S _ c α pins s σ H I Rl trivial) fun v s1 h1 => thn h1 fun itv s2 ⟨α1, h2⟩ => PIE.imp h2 fun J H1 ⟨x1, R1, io⟩ => q ds S1 c α1 J H1 x1 R1 io
    | ex x S1 => exact thn (h.run δ S _ c α pins s σ H I Rl (tk x S1 c)) fun v s1 h1 => thn h1 fun itv s2 h2 => h2.elim⟩
def gOf (K : PySem.W.Frag) (t : PL.Tg) : TG := fun v σ H Q => ∃ α d δ δ' S, t.put d δ = some δ' ∧ Rel K α δ S σ H ∧ RD K α H d v ∧ ∀ σ', Rel K α δ' S σ' H → Alike t.slots σ σ' → Q σ' H
theorem CG.pg (h : CG X tg t) : PG X tg (gOf X.K t) := ⟨fun pins s σ H v u Q I rv ⟨α, d, δ, δ', S, hp, R, q, w⟩ =>
  thn (h.run d δ δ' hp α pins s σ H S v u I R q rv) fun _ s1 ⟨σ1, I1, R1, a1⟩ => ⟨σ1, H, I1, w σ1 R1 a1⟩⟩
def ttOf (K : PySem.W.Frag) (mt : PL.MT) : TT := fun σ H Q => ∃ α δ S b S1, Rel K α δ S σ H ∧ mt δ S = some (.ok b S1) ∧ ∀ α1 H1, Ext α H α1 H1 → Rel K α1 δ S1 σ H1 → Q b H1
def teOf (K : PySem.W.Frag) (m : PL.ME) : TE := fun σ H Q => ∃ α δ S d S1, Rel K α δ S σ H ∧ m δ S = some (.ok d S1) ∧ ∀ α1 v H1, Ext α H α1 H1 → Rel K α1 δ S1 σ H1 → RD K α1 H1 d v → Q v H1
theorem CE.pt (h : CE G X e m) : PE X e (teOf X.K m) := ⟨fun pins s σ H Q I ⟨α, δ, S, b, S1, R, hm, q⟩ =>
  h.step I R (by rw [hm]; exact fun z => by cases z) (fun x S2 z => by rw [hm] at z; cases z) fun b' S2 z α1 v H1 u s1 I1 rv x1 R1 qd => by
    rw [hm] at z; cases z; exact ⟨v, H1, I1, rv, q α1 v H1 x1 R1 qd⟩⟩
theorem CT.pt (h : CT G X e mt) : PT X e (ttOf X.K mt) := ⟨fun pins s σ H Q I ⟨α, δ, S, b, S1, R, hm, q⟩ =>
  h.step I R (by rw [hm]; exact fun z => by cases z) (fun x S2 z => by rw [hm] at z; cases z) fun b' S2 z α1 H1 s1 I1 x1 R1 => by
    rw [hm] at z; cases z; exact ⟨H1, I1, q α1 H1 x1 R1⟩⟩
/-- a clause's tests -/
structure CTs (G : EX) (X : Cx) (ifs : List Expr) (mt : PL.MT) : Prop where
  pts : PTs X ifs (ttOf X.K mt)
theorem cts_nil : CTs G X [] PL.mTrue := ⟨⟨fun pins s σ H Q I ⟨α, δ, S, b, S1, R, hm, q⟩ => by
  cases hm
  exact wpAny_tests_nil ⟨H, I, q α H (Ext.refl _ _) R⟩⟩⟩
theorem cts_one (h : CT G X c mt) : CTs G X [c] mt := ⟨pts_one h.pt⟩

theorem wipe_get {σ : L2.St} {i : Nat} : ∀ {vs : List Nat}, i ∉ vs → (wipe σ vs)[i]? = σ[i]?
  | [], _ => rfl
  | v :: vs, h => by
    simp only [List.mem_cons, not_or] at h
    unfold wipe
    rw [List.getElem?_set_ne (fun e => h.1 e.symm)]
    exact wipe_get h.2
theorem wipeD_len (δ : PL.Env) : ∀ vs : List Nat, (PL.wipeD δ vs).length = δ.length
  | [] => rfl
  | v :: vs => by unfold PL.wipeD; rw [List.length_set, wipeD_len δ vs]
theorem wipeD_some {δ : PL.Env} {i : Nat} {x : PL.D} : ∀ {vs : List Nat}, (PL.wipeD δ vs)[i]? = some (some x) → δ[i]? = some (some x) ∧ i ∉ vs
  | [], h => ⟨h, by simp⟩
  | v :: vs, h => by
    unfold PL.wipeD at h
    by_cases hi : v = i
    · subst hi
      by_cases hv : v < (PL.wipeD δ vs).length
      · rw [List.getElem?_set_self hv] at h; cases h
      · rw [List.getElem?_eq_none (by simpa using hv)] at h; cases h
    · rw [List.getElem?_set_ne hi] at h
      obtain ⟨h1, h2⟩ := wipeD_some h
      exact ⟨h1, by simp only [List.mem_cons, not_or]; exact ⟨fun e => hi e.symm, h2⟩⟩
theorem Rel.wipe (R : Rel X.K α δ S σ H) (vs : List Nat) : Rel X.K α (PL.wipeD δ vs) S (L2.wipe σ vs) H :=
  ⟨R.st, by rw [wipeD_len, wipe_length]; exact R.len, fun i d e => by
    obtain ⟨h1, h2⟩ := wipeD_some e
    obtain ⟨v, e1, q⟩ := R.loc i d h1
    exact ⟨v, by rw [wipe_get h2]; exact e1, q⟩⟩
theorem wipe_in {σ : L2.St} {i : Nat} : ∀ {vs : List Nat}, i ∈ vs → (wipe σ vs)[i]? = if i < σ.length then some none else none
  | v :: vs, h => by
    unfold wipe
    by_cases hi : v = i
    · subst hi
      by_cases hv : v < σ.length
      · rw [List.getElem?_set_self (by rw [wipe_length]; exact hv), if_pos hv]
      · rw [List.getElem?_eq_none (by rw [List.length_set, wipe_length]; omega), if_neg hv]
    · rw [List.getElem?_set_ne hi]
      rcases List.mem_cons.mp h with e | e
      · exact absurd e.symm hi
      · exact wipe_in e
theorem wipe_alike {vs ix : List Nat} {σ σ2 : L2.St} (h : Alike ix (wipe σ vs) σ2) (hs : ∀ i ∈ ix, i ∈ vs) : wipe σ2 vs = wipe σ vs := by
  have hl : σ2.length = σ.length := by rw [h.1, wipe_length]
  refine List.ext_getElem? fun i => ?_
  by_cases hi : i ∈ vs
  · rw [wipe_in hi, wipe_in hi, hl]
  · rw [wipe_get hi, h.2 i (fun z => hi (hs i z))]
theorem tr_ext {α0 α1 : List Addr} {H0 H1 : Hp} {D : Addr} {u : HO} (x : Ext α0 H0 α1 H1) (h : H0 D = some u) (n : ¬ Tr α0 H0 D) : ¬ Tr α1 H1 D := fun z => by
  rcases x.2.2.1 D z with q | q
  · exact n q
  · rw [h] at q; cases q

/-- what a comprehension's turns leave: the new list at D -/
def LcQ (K : PySem.W.Frag) (α : List Addr) (δ : PL.Env) (σ : L2.St) (H : Hp) (out : List PL.D) (S' : PL.Sto) (v : V) (H' : Hp) : Prop :=
  ∃ D vs α0 H0 α', v = .ref D ∧ Ext α H α0 H0 ∧ H0 D = none ∧ H' D = some (.lst vs) ∧ ¬ Tr α' H' D ∧ Ext α0 H0 α' H' ∧ Rel K α' δ S' σ H' ∧ RDs K α' H' out vs
theorem lc_reads {vs : List Nat} {me : PL.ME} {K : PySem.W.Frag} {r : PL.RA} (hK : K = X.K) (hts : ∀ i ∈ t.slots, i ∈ vs)
    (hm : PL.mCompA vs t mi mt me δ S = some r) (R : Rel X.K α δ S σ H) (tk : TkA G X α σ H r)
    {Q : VK} (hq : ∀ out S', r = .ok out S' → ∀ v H', LcQ X.K α δ σ H out S' v H' → Q v H') : tLc (tiOf G X mi) (gOf K t) (ttOf K mt) (teOf K me) vs σ H Q := by
  subst hK
  unfold PL.mCompA at hm
  refine ⟨α, δ, S, R, ?_, ?_, fun ds S1 z α1 J H1 x1 R1 io D hD => ?_⟩
  · intro z; rw [z] at hm; cases hm
  · intro x S1 z; rw [z] at hm; cases hm; exact tk
  rw [z] at hm
  simp only [PL.bAA_ok] at hm
  split at hm
  · rename_i hlen
    have nT : ¬ Tr α1 (upd H1 D (.lst [])) D := fun q => R1.st.tr (Tr.upd (R1.st.fresh hD) q) hD
    refine ⟨fun i m Hi => ∃ αi Si accD acc, m = ds.length - i ∧ i ≤ ds.length ∧ Ext α1 H1 αi Hi ∧ RSt X.K αi Si Hi ∧ Hi D = some (.lst acc) ∧ RDs X.K αi Hi accD acc ∧ ¬ Tr αi Hi D ∧ accD.length ≤ i ∧ PL.compL t mt me (PL.wipeD δ vs) (ds.drop i) accD Si = some r,
      ⟨ds.length, α1, S1, [], [], rfl, Nat.zero_le _, Ext.new hD trivial, R1.st.new hD, upd_same, .nil, nT, Nat.le_refl _, by simpa using hm⟩, ?_⟩
    rintro i m Hi ⟨αi, Si, accD, acc, rfl, hil, xi, Ri, hDi, qi, nTi, hli, ci⟩
    have Rel0 : Rel X.K αi (PL.wipeD δ vs) Si (wipe σ vs) Hi := (R1.mono xi Ri).wipe vs
    by_cases hlt : i < ds.length
    · refine .inr ⟨io.go i αi Hi hlt xi, fun H' => ∃ αi Si accD acc, Ext α1 H1 αi H' ∧ RSt X.K αi Si H' ∧ H' D = some (.lst acc) ∧ RDs X.K αi H' accD acc ∧ ¬ Tr αi H' D ∧ accD.length ≤ i + 1 ∧ PL.compL t mt me (PL.wipeD δ vs) (ds.drop (i + 1)) accD Si = some r, ?_, ?_⟩
      · rintro H' ⟨αn, Sn, accn, an, a1, a2, a3, a4, a5, a6, a7⟩
        exact ⟨ds.length - (i + 1), by omega, αn, Sn, accn, an, rfl, hlt, a1, a2, a3, a4, a5, a6, a7⟩
      · intro x H' y
        obtain ⟨keep, qx⟩ := io.yld i αi Hi x H' ds[i] (List.getElem?_eq_getElem hlt) xi y
        have x5 : Ext αi Hi αi H' := Ext.same keep Ri.ne
        have R5 := Rel0.mono x5 (Ri.same keep)
        have nT5 := tr_ext x5 hDi nTi
        rw [List.drop_eq_getElem_cons hlt] at ci
        unfold PL.compL at ci
        cases hput : t.put ds[i] (PL.wipeD δ vs) with
        | none => rw [hput] at ci; cases ci
        | some δ1 =>
          rw [hput] at ci
          simp only at ci
          refine ⟨αi, ds[i], _, δ1, Si, hput, R5, qx, fun σ2 R6 al => ⟨wipe_alike al hts, ?_⟩⟩
          cases hc : mt δ1 Si with
          | none => rw [hc] at ci; cases ci
          | some rt =>
            rw [hc] at ci
            cases rt with
            | ex _ _ => cases ci
            | ok b S7 =>
              refine ⟨αi, δ1, Si, b, S7, R6, hc, fun α7 H7 x7 R7 => ?_⟩
              have D7 := x7.2.2.2.1 D _ (keep _ _ hDi) nT5
              have nT7 := tr_ext x7 (keep _ _ hDi) nT5
              have q7 := (qi.mono x5).mono x7
              cases b with
              | false =>
                simp only [Bool.false_eq_true, if_false] at ci ⊢
                exact ⟨α7, S7, accD, acc, (xi.trans x5).trans x7, R7.st, D7, q7, nT7, by omega, ci⟩
              | true =>
                simp only at ci
                simp only [if_true]
                cases he : me δ1 S7 with
                | none => rw [he] at ci; cases ci
                | some re =>
                  rw [he] at ci
                  cases re with
                  | ex _ _ => cases ci
                  | ok d S8 =>
                    refine ⟨α7, δ1, S7, d, S8, R7, he, fun α8 v H8 x8 R8 q8 => ?_⟩
                    have D8 := x8.2.2.2.1 D _ D7 nT7
                    have nT8 := tr_ext x8 D7 nT7
                    have qa := (q7.mono x8).append (RDs.cons q8 .nil)
                    have lw : Le H8 (upd H8 D (.lst (acc ++ [v]))) := Le.put D8 (fun z => z)
                    refine ⟨acc, D8, by rw [← q7.length, ← line_eq]; omega, α8, S8, accD ++ [d], acc ++ [v], Ext.off (((xi.trans x5).trans x7).trans x8) hD nT8, R8.st.off D8 (fun z => z) nT8, upd_same, qa.mono0 (List.prefix_refl _) lw, ?_, by simp; omega, ci⟩
                    exact fun z => nT8 (Tr.upd (fun z => nT8 (.inl z)) z)
    · have e : i = ds.length := by omega
      subst e
      rw [List.drop_length] at ci
      unfold PL.compL at ci
      cases ci
      exact .inl ⟨io.stop αi Hi xi, hq _ _ rfl _ _ ⟨D, acc, α1, H1, αi, rfl, x1, hD, hDi, nTi, xi, R1.mono xi Ri, qi⟩⟩
  · cases hm
/-- the new list stays as it is -/
theorem LcQ.frz {σ1 : L2.St} {out : List PL.D} {S' : PL.Sto} {v : V} {s' : Shared} (q : LcQ X.K α δ σ H out S' v H') (I : Inv X pins σ1 H' s') :
    ∃ D α' H2, v = .ref D ∧ Inv X pins σ1 H2 s' ∧ Ext α H α' H2 ∧ Rel X.K α' δ S' σ H2 ∧ RD X.K α' H2 (.lst out) v := by
  obtain ⟨D, vs, α0, H0, α', rfl, x0, h0, hD, nT, x1, R, q⟩ := q
  obtain ⟨od, I2⟩ := I.lock hD trivial
  have x2 : Ext α0 H0 α' (upd H' D (.frz od (.lst vs))) := x1.off h0 nT
  have lw : Le H' (upd H' D (.frz od (.lst vs))) := Le.put hD (fun z => z)
  refine ⟨D, α', _, rfl, I2, x0.trans x2, ⟨R.st.off hD (fun z => z) nT, R.len, fun i d e => ?_⟩, ?_⟩
  · obtain ⟨w, e1, q1⟩ := R.loc i d e
    exact ⟨w, e1, q1.mono0 (List.prefix_refl _) lw⟩
  · simp only [RD]
    exact ⟨D, od, vs, rfl, .inl upd_same, q.mono0 (List.prefix_refl _) lw⟩
/-- .. goes into the store -/
theorem LcQ.new {out : List PL.D} {S' : PL.Sto} {v : V} (q : LcQ X.K α δ σ H out S' v H') (pu : PL.D.pures out = true) :
    ∃ D α', v = .ref D ∧ Ext α H α' H' ∧ Rel X.K α' δ (S' ++ [.lst out]) σ H' ∧ RD X.K α' H' (.ref S'.length) v := by
  obtain ⟨D, vs, α0, H0, α', rfl, x0, h0, hD, nT, x1, R, q⟩ := q
  have hl : α'.length = S'.length := R.st.lenα
  refine ⟨D, α' ++ [D], rfl, x0.trans ⟨x1.1.trans (List.prefix_append _ _), x1.2.1, fun a h => ?_, x1.2.2.2⟩, ⟨R.st.pushAt hD nT q pu, R.len, fun i d e => ?_⟩, ?_⟩
  · rcases h with h | ⟨d, hd, c, n, e⟩
    · rcases List.mem_append.mp h with h | h
      · exact x1.2.2.1 a (.inl h)
      · exact .inr (by rw [List.mem_singleton.mp h]; exact h0)
    · rcases List.mem_append.mp hd with z | z
      · exact x1.2.2.1 a (.inr ⟨d, z, c, n, e⟩)
      · rw [List.mem_singleton.mp z, hD] at e; cases e
  · obtain ⟨w, e1, q1⟩ := R.loc i d e
    exact ⟨w, e1, q1.mono0 (List.prefix_append _ _) (Le.refl _)⟩
  · simp only [RD]
    exact ⟨D, by rw [← hl]; simp, rfl⟩
theorem blk_cz (hX : Cz k X) {s : Shared} {H : Hp} {scope : Scope} {C : Addr} {cl : List (Str × Addr)} {fp : List Addr} : Cz k (X.blk s H scope (compEnvC scope cl C X.env) fp) :=
  ⟨hX.nd, hX.calm, hX.room, hX.gd, PassesOwn.never⟩
theorem comp_inv {vs : List Nat} {me : PL.ME} {kk : List PL.D → PL.Sto → Option PL.RE} {r : PL.RE} (h : PL.bA (PL.mCompA vs t mi mt me δ S) kk = some r) : ∃ r0, PL.mCompA vs t mi mt me δ S = some r0 ∧ ((∃ out S', r0 = .ok out S' ∧ kk out S' = some r) ∨ ∃ x S', r0 = .ex x S' ∧ r = .ex x S') := by
  cases c : PL.mCompA vs t mi mt me δ S with
  | none => rw [c] at h; cases h
  | some r0 =>
    rw [c] at h
    refine ⟨r0, rfl, ?_⟩
    cases r0 with
    | ok out S' => exact .inl ⟨out, S', rfl, h⟩
    | ex x S' => cases h; exact .inr ⟨x, S', rfl, rfl⟩
section
variable {scope : Scope} {own : List (Str × Nat)} {me : PL.ME} {vs : List Nat}
/-- [e for t in it if c]: what is done with it -/
theorem lc_then {kk : List PL.D → PL.Sto → Option PL.RE} {r : PL.RE} (hX : Cz k X) (hi : CI G X tg iter mi) (ok : BlkOk X.N X.env.scope scope own) (hv : own.map (·.2) = vs) (hts : ∀ i ∈ t.slots, i ∈ vs)
    (hg : ∀ Y : Cx, Cz k Y → Y.N = X.N → (∃ s H C cl fp, Y = X.blk s H scope (compEnvC scope cl C X.env) fp) → CG Y tg t)
    (ht : ∀ Y : Cx, Cz k Y → Y.N = X.N → (∃ s H C cl fp, Y = X.blk s H scope (compEnvC scope cl C X.env) fp) → CTs G Y ifs mt)
    (he : ∀ Y : Cx, Cz k Y → Y.N = X.N → (∃ s H C cl fp, Y = X.blk s H scope (compEnvC scope cl C X.env) fp) → CE G Y elt me)
    (hs : ∀ x, foldedSetIterable iter X.env x = pure x) (h0 : PL.bA (PL.mCompA vs t mi mt me δ S) kk = some r) (I : Inv X pins σ H s) (R : Rel X.K α δ S σ H) (tk : TkE G X α σ H r) {Q : Value → Shared → Prop}
    (q : ∀ out S', kk out S' = some r → ∀ v u H' s', Inv X pins σ H' s' → RelV v u → LcQ X.K α δ σ H out S' v H' → Q u s') :
    wpAny (model X.prog X.w) X.A (eval (.ListComp elt [⟨tg, iter, ifs, 0⟩] scope pos) X.env) Q X.xe s := by
  subst hv
  obtain ⟨r0, hr0, hc⟩ := comp_inv h0
  have z := pe_lc (X := X) (pos := pos) (wi := tiOf G X mi) (g := gOf X.K t) (tt := ttOf X.K mt) (te := teOf X.K me) hX.calm hX.nd hi.pi ok (fun s H C cl fp => (hg _ (blk_cz hX) rfl ⟨s, H, C, cl, fp, rfl⟩).pg) (fun s H C cl fp => (ht _ (blk_cz hX) rfl ⟨s, H, C, cl, fp, rfl⟩).pts) (fun s H C cl fp => (he _ (blk_cz hX) rfl ⟨s, H, C, cl, fp, rfl⟩).pt) hs
  rcases hc with ⟨out, S', rfl, h1⟩ | ⟨x, S', rfl, rfl⟩
  · exact thn (z.run pins s σ H (fun v H' => LcQ X.K α δ σ H out S' v H') I (lc_reads rfl hts hr0 R trivial fun o S2 e v H' w => by cases e; exact w)) fun u s' ⟨v, H', I', rv, w⟩ => q out S' h1 v u H' s' I' rv w
  · exact thn (z.run pins s σ H (fun v H' => False) I (lc_reads rfl hts hr0 R tk fun o S2 e => by cases e)) fun u s' ⟨v, H', I', rv, w⟩ => w.elim
theorem c_comp (hX : Cz k X) (hi : CI G X tg iter mi) (ok : BlkOk X.N X.env.scope scope own) (hv : own.map (·.2) = vs) (hts : ∀ i ∈ t.slots, i ∈ vs)
    (hg : ∀ Y : Cx, Cz k Y → Y.N = X.N → (∃ s H C cl fp, Y = X.blk s H scope (compEnvC scope cl C X.env) fp) → CG Y tg t)
    (ht : ∀ Y : Cx, Cz k Y → Y.N = X.N → (∃ s H C cl fp, Y = X.blk s H scope (compEnvC scope cl C X.env) fp) → CTs G Y ifs mt)
    (he : ∀ Y : Cx, Cz k Y → Y.N = X.N → (∃ s H C cl fp, Y = X.blk s H scope (compEnvC scope cl C X.env) fp) → CE G Y elt me)
    (hs : ∀ x, foldedSetIterable iter X.env x = pure x := by intro _; rfl) : CE G X (.ListComp elt [⟨tg, iter, ifs, 0⟩] scope pos) (PL.mComp vs t mi mt me) := ⟨fun δ S r h0 α pins s σ H I R tk =>
  lc_then hX hi ok hv hts hg ht he hs h0 I R tk fun out S' h1 v u H' s' I' rv w => by
    cases h1
    obtain ⟨D, α', H2, rfl, I2, x2, R2, q2⟩ := w.frz I'
    exact ⟨α', _, H2, I2, rv, x2, R2, q2⟩⟩
theorem c_newComp (hX : Cz k X) (hi : CI G X tg iter mi) (ok : BlkOk X.N X.env.scope scope own) (hv : own.map (·.2) = vs) (hts : ∀ i ∈ t.slots, i ∈ vs)
    (hg : ∀ Y : Cx, Cz k Y → Y.N = X.N → (∃ s H C cl fp, Y = X.blk s H scope (compEnvC scope cl C X.env) fp) → CG Y tg t)
    (ht : ∀ Y : Cx, Cz k Y → Y.N = X.N → (∃ s H C cl fp, Y = X.blk s H scope (compEnvC scope cl C X.env) fp) → CTs G Y ifs mt)
    (he : ∀ Y : Cx, Cz k Y → Y.N = X.N → (∃ s H C cl fp, Y = X.blk s H scope (compEnvC scope cl C X.env) fp) → CE G Y elt me)
    (hs : ∀ x, foldedSetIterable iter X.env x = pure x := by intro _; rfl) : CE G X (.ListComp elt [⟨tg, iter, ifs, 0⟩] scope pos) (PL.mNewComp vs t mi mt me) := ⟨fun δ S r h0 α pins s σ H I R tk =>
  lc_then hX hi ok hv hts hg ht he hs h0 I R tk fun out S' h1 v u H' s' I' rv w => by
    obtain ⟨pu, rfl⟩ := if_inv h1
    obtain ⟨D, α', rfl, x2, R2, q2⟩ := w.new pu
    exact ⟨α', _, H', I', rv, x2, R2, q2⟩⟩
/-- name = [e for t in it if c] on one line -/
theorem cs_setComp (hX : Cz k X) (i : Nat) {py spos : Pos} (hi : CI G X tg iter mi) (ok : BlkOk X.N X.env.scope scope own) (hv : own.map (·.2) = vs) (hts : ∀ i ∈ t.slots, i ∈ vs)
    (hg : ∀ Y : Cx, Cz k Y → Y.N = X.N → (∃ s H C cl fp, Y = X.blk s H scope (compEnvC scope cl C X.env) fp) → CG Y tg t)
    (ht : ∀ Y : Cx, Cz k Y → Y.N = X.N → (∃ s H C cl fp, Y = X.blk s H scope (compEnvC scope cl C X.env) fp) → CTs G Y ifs mt)
    (he : ∀ Y : Cx, Cz k Y → Y.N = X.N → (∃ s H C cl fp, Y = X.blk s H scope (compEnvC scope cl C X.env) fp) → CE G Y elt me)
    (hsw : swapsWith (.ListComp elt [⟨tg, iter, ifs, 0⟩] scope pos) (some (.Name y py)) spos.line X.env = pure true) (hy : X.N[i]? = some y := by rfl) (hyl : X.env.scope.names.lookup y = some .local := by rfl)
    (hs : ∀ x, foldedSetIterable iter X.env x = pure x := by intro _; rfl) : CS G X (.Assign [.Name y py] (.ListComp elt [⟨tg, iter, ifs, 0⟩] scope pos) spos) (PL.mSet i (PL.mComp vs t mi mt me)) := ⟨fun δ S r h0 α pins s σ H I R tk => by
  subst hv
  unfold PL.mSet PL.mComp at h0
  have z := ps_setLc (X := X) (pos := pos) (spos := spos) (wi := tiOf G X mi) (g := gOf X.K t) (tt := ttOf X.K mt) (te := teOf X.K me) hX.calm hX.nd hy hyl hsw hi.pi ok (fun s H C cl fp => (hg _ (blk_cz hX) rfl ⟨s, H, C, cl, fp, rfl⟩).pg) (fun s H C cl fp => (ht _ (blk_cz hX) rfl ⟨s, H, C, cl, fp, rfl⟩).pts) (fun s H C cl fp => (he _ (blk_cz hX) rfl ⟨s, H, C, cl, fp, rfl⟩).pt) hs
  cases hc : PL.mCompA (own.map (·.2)) t mi mt me δ S with
  | none => rw [hc] at h0; cases h0
  | some r0 =>
    rw [hc] at h0
    cases r0 with
    | ex x S' =>
      cases h0
      exact thn (z.run pins s σ H ⟨fun _ _ => False, fun _ _ => False, fun _ _ => False, fun _ _ => False⟩ I (lc_reads (Q := fun v H' => False) rfl (by simpa using hts) hc R (TkS.ofE R tk) fun o S2 e => by cases e)) fun f s' h => by
        cases f with
        | next => obtain ⟨_, _, _, w⟩ := h; exact w.elim
        | ret u => obtain ⟨_, _, _, _, _, w⟩ := h; exact w.elim
        | brk => obtain ⟨_, _, _, w⟩ := h; exact w.elim
        | cont => obtain ⟨_, _, _, w⟩ := h; exact w.elim
    | ok out S' =>
      cases h0
      refine thn (z.run pins s σ H ⟨fun σ' H' => ∃ v, σ' = σ.set i (some v) ∧ LcQ X.K α δ σ H out S' v H', fun _ _ => False, fun _ _ => False, fun _ _ => False⟩ I (lc_reads rfl (by simpa using hts) hc R trivial fun o S2 e v H' w => by cases e; exact ⟨v, rfl, w⟩)) fun f s' h => ?_
      cases f with
      | next =>
        obtain ⟨_, H', I', v, rfl, w⟩ := h
        obtain ⟨D, α', H2, rfl, I2, x2, R2, q2⟩ := w.frz I'
        exact PoS.nx I2 x2 (R2.set q2 i)
      | ret u => obtain ⟨_, _, _, _, _, w⟩ := h; exact w.elim
      | brk => obtain ⟨_, _, _, w⟩ := h; exact w.elim
      | cont => obtain ⟨_, _, _, w⟩ := h; exact w.elim⟩
end
end
end BR

set_option Elab.async false
set_option linter.all false
set_option maxRecDepth 100000
set_option maxHeartbeats 2000000
/-! ## enumerate -/
namespace BR
open PySem PySem.Spec PyProof.Rows L2

set_option maxHeartbeats 4000000 in
theorem meets_enum1 {v : Value} {o : Obj} {H : Heap → Prop} (B : Begins v o H) :
    Meets (Builtin.«enumerate.__new__» ⟨[.type "enumerate", v], []⟩) (fun _ R s => H s.heap ∧
      R (.ok (.ret (.ref (s.heap.push o).objs.size))) { s with heap := (s.heap.push o).push { cls := .type "enumerate", data := .fields #[.none, .bool false, .ref s.heap.objs.size, rawInt 0, .none, .none] } }) :=
  .of_wp fun prog w A R s h => by
    obtain ⟨hp, g, d, tk, os⟩ := s; obtain ⟨h1, h⟩ := h
    have hsub := sub_enumerate
    have q1 : ∀ {A' : Around} {E : Value → Shared → Prop} {Q : Value → Shared → Prop}, Q (.ref hp.objs.size) ⟨hp.push o, g, d, tk, os⟩ → wpAny (model prog w) A' (pyIter v) Q E ⟨hp, g, d, tk, os⟩ :=
      fun q => B.iter prog w _ _ ⟨hp, g, d, tk, os⟩ _ h1 q
    wp_walk using q1
    refine wpAny_stack_any fun st => wpAny_pure ?_
    split
    · rename_i c _ _ _ _ _
      cases (c == Value.type "enumerate")
      · wp_walk using q1
        exact ⟨_, rfl, h⟩
      · wp_walk using q1
        exact ⟨_, rfl, h⟩
    · wp_walk using q1
      exact ⟨_, rfl, h⟩
section
variable {prog : Program} {w : World} {A : Around} {E : Value → Shared → Prop} {s : Shared}
theorem enum_begins1 {v : Value} {o : Obj} {H : Heap → Prop} {Q : Value → Shared → Prop} (B : Begins v o H) (h1 : H s.heap)
    (h : ∀ h', IsEnum h' (s.heap.objs.size + 1) s.heap.objs.size 0 .none → h'.get? s.heap.objs.size = some o → h'.objs.size = s.heap.objs.size + 2 →
      (∀ b o, s.heap.get? b = some o → h'.get? b = some o) → Q (.ref (s.heap.objs.size + 1)) { s with heap := h' }) :
    wpAny (model prog w) A (call (.type "enumerate") [v]) Q E s := by
  refine callType_new F.called_enumerate (by decide) (F.typeCall_enumerate_1 _) (F.newCall_enumerate_1 _) (fun obj => F.args_object_init_2 obj _) F.entry_enumerate_new (meets_enum1 B) ⟨h1, ?_⟩
  have hz : (s.heap.push o).objs.size = s.heap.objs.size + 1 := Heap.size_push ..
  show _ ∧ _
  rw [hz]
  have he : IsEnum ((s.heap.push o).push { cls := .type "enumerate", data := .fields #[.none, .bool false, .ref s.heap.objs.size, rawInt 0, .none, .none] }) (s.heap.objs.size + 1) s.heap.objs.size 0 .none := by
    have := Heap.get?_push_size (s.heap.push o) (o := { cls := .type "enumerate", data := .fields #[.none, .bool false, .ref s.heap.objs.size, rawInt 0, .none, .none] }) rfl
    rw [hz] at this; exact this
  refine ⟨⟨_, he, rfl⟩, h _ he (Heap.get?_push_of_some _ (Heap.get?_push_size _ B.free)) (by rw [Heap.size_push, hz]) fun b o x => Heap.get?_push_of_some _ (Heap.get?_push_of_some _ x)⟩
end
/-- the items of a tuple, each in a new pair with its number -/
def IteT (K : PySem.W.Frag) (a : Addr) : It :=
  ⟨fun i H => ∃ (xs : List V) (x : V), SqT K H a xs ∧ xs[i]? = some x, fun i H v H' => ∃ T x, v = .ref T ∧ H T = none ∧ H' = upd H T (.tup [.int (i : Nat), x]) ∧ ∀ xs, SqT K H a xs → xs[i]? = some x, fun i H => ∃ xs : List V, SqT K H a xs ∧ xs.length = i⟩
theorem turn_enumT {P : Program} {w : World} {K : PySem.W.Frag} {elts : List Expr} {kk : Nat} {tpos : Pos} (a e it : Addr) :
    Turn P w K (.Tuple elts kk tpos) (IteT K a) [e, it] e (fun i h => (∃ old, IsEnum h e it ((i : Nat) : Int) old) ∧ h.IsTupleIter it a i ∧ e ≠ it) where
  mem := by simp
  obj := fun i h st b hb => by
    obtain ⟨⟨old, he⟩, ⟨o, ho, hc, hd⟩, _⟩ := st
    have e' : b = e ∨ b = it := by simpa using hb
    rcases e' with z | z
    · rw [z]; exact ⟨_, he, fun v q => nomatch q⟩
    · rw [z]; exact ⟨o, ho, fun v q => by rw [hd] at q; cases q⟩
  keep := fun i h h' st k => let ⟨⟨old, he⟩, hi, hne⟩ := st; ⟨⟨old, k e (by simp) _ he⟩, hi.at fun o q => k it (by simp) o q, hne⟩
  item := by
    intro X hP hw hK hc i pins s σ H E I hf st hg
    subst hP hw hK
    obtain ⟨⟨old, he⟩, hit, hne⟩ := st
    obtain ⟨xs, x, hq, hx⟩ := hg
    obtain ⟨its, rv, p, hz⟩ := I.tuple hq
    obtain ⟨u, hu, ru⟩ := rv.get hx
    have hel : e < s.heap.objs.size := Heap.lt_size he
    have hil : it < s.heap.objs.size := by obtain ⟨_, q, _⟩ := hit; exact Heap.lt_size q
    have hai : a ≠ it := fun z => by
      obtain ⟨o1, e1, c1, _⟩ := hit
      obtain ⟨o2, e2, c2, _⟩ := p
      rw [z, e1] at e2; cases e2; rw [c1] at c2; simp at c2
    have hae : a ≠ e := fun z => by
      obtain ⟨o2, e2, c2, _⟩ := p
      rw [z, he] at e2; cases e2; simp at c2
    have Dr : Draws X.prog X.w X.A.in1 it [it, a] its.toArray.size (fun i v => its.toArray[i]? = some v) (fun i h => h.IsTupleIter it a i ∧ h.IsTuple a its.toArray) := Draws.tuple (A := X.A.in1) (I.ok.hd hc) it a hai its.toArray
    have hlt : i < its.toArray.size := by
      have := (List.getElem?_eq_some_iff.mp hu).1
      simpa using this
    refine wpAny_pyNext_enum_itemD Dr he ⟨hit, p⟩ hlt hne (by simp only [List.mem_cons, List.not_mem_nil, or_false, not_or]; exact ⟨hne, fun z => hae z.symm⟩) fun x' h' tk hx' ho hit' hT hsz hk => ?_
    have ex : x' = u := by
      have : its.toArray[i]? = some u := by simpa using hu
      rw [this] at hx'; exact (Option.some.inj hx').symm
    subst ex
    refine ⟨_, rfl, wpAny_letOwnedTupleGo_enum (s := { s with heap := h', toks := tk + 1 }) ho fun h'' he' sb => ?_⟩
    have hT2 : h''.get? s.heap.objs.size = some { cls := .type "tuple", data := .seq #[.int i tk, x'] } := (sb.2 _ (Nat.ne_of_gt hel)).trans hT
    have new : ObjOk X.prog X.w (upd H s.heap.objs.size (.tup [.int (i : Nat), x])) h'' s.heap.objs.size (.tup [.int (i : Nat), x]) :=
      ⟨by show 2 ≤ sizeLine; decide, [.int i tk, x'], .cons ⟨_, rfl⟩ (.cons ru .nil), ⟨_, hT2, rfl, _, rfl⟩⟩
    have I1 : Inv X pins σ (upd H s.heap.objs.size (.tup [.int (i : Nat), x])) { s with heap := h'', toks := tk + 1 } :=
      I.turnedNew (ch := [e, it]) (fun b ob hb q => (sb.2 b (fun z => hb (by simp [z]))).trans (hk b ob (fun z => hb (by simp [z])) (fun z => hb (by simp [z])) q)) hf (Nat.le_refl _) new
    refine ⟨.ref s.heap.objs.size, _, I1, rfl, ⟨_, x, rfl, I.hok.fresh (Nat.le_refl _), rfl, fun ys hy => by rw [I.tuple_inj hy hq]; exact hx⟩, ⟨⟨x', ?_⟩, hit'.1.at fun o q => (sb.2 it (Ne.symm hne)).trans q, hne⟩, fun b hb => ?_⟩
    · have e1 : ((i + 1 : Nat) : Int) = (i : Int) + 1 := by omega
      rw [e1]; exact he'
    · have hb' : b < s.heap.objs.size := by
        have e' : b = e ∨ b = it := by simpa using hb
        rcases e' with z | z
        · rw [z]; exact hel
        · rw [z]; exact hil
      rw [upd_ne (Nat.ne_of_lt hb')]
      exact (hf b hb).1
  done := by
    intro X hP hw hK hc i pins s σ H E I hf st hg
    subst hP hw hK
    obtain ⟨⟨old, he⟩, hit, hne⟩ := st
    obtain ⟨xs, hq, hx⟩ := hg
    obtain ⟨its, rv, p, hz⟩ := I.tuple hq
    obtain ⟨f0, f1, f2, f3, f4, f5⟩ := hf it (by simp)
    have hl := rv.length
    have hai : a ≠ it := fun z => by
      obtain ⟨o1, e1, c1, _⟩ := hit
      obtain ⟨o2, e2, c2, _⟩ := p
      rw [z, e1] at e2; cases e2; rw [c1] at c2; simp at c2
    have Dr : Draws X.prog X.w X.A.in1 it [it, a] its.toArray.size (fun i v => its.toArray[i]? = some v) (fun i h => h.IsTupleIter it a i ∧ h.IsTuple a its.toArray) := Draws.tuple (A := X.A.in1) (I.ok.hd hc) it a hai its.toArray
    have ei : i = its.toArray.size := by rw [List.size_toArray, ← hl, hx]
    subst ei
    exact wpAny_pyNext_enum_endD Dr he ⟨hit, p⟩ fun h' eb => ⟨rfl, I.turned (t' := s.toks) (fun b o hb q => eb b o hb q) f0 f1 f3 f4 f5⟩
  self := fun A i s Q E st h => let ⟨⟨_, he⟩, _⟩ := st; wpAny_pyIter_enum he h
section
variable {G : EX} {X : Cx} {α α' : List Addr} {δ : PL.Env} {S : PL.Sto} {σ : L2.St} {H H' : Hp} {pins : List (Addr × Obj)} {s : Shared}
variable {a e : Expr} {m : PL.ME} {pos tpos : Pos} {elts : List Expr} {kk k : Nat}
theorem enumD_get {ds : List PL.D} : ∀ {i k : Nat} {d : PL.D}, (PL.enumD k ds)[i]? = some d → ∃ x, ds[i]? = some x ∧ d = .tup [.int ((k + i : Nat) : Int), x] := by
  induction ds with
  | nil => intro i k d h; simp [PL.enumD] at h
  | cons y ys ih =>
    intro i k d h
    simp only [PL.enumD] at h
    cases i with
    | zero => simp at h; exact ⟨y, rfl, h.symm⟩
    | succ i =>
      obtain ⟨x, e1, e2⟩ := ih (i := i) (k := k + 1) (by simpa using h)
      exact ⟨x, by simpa using e1, by rw [e2]; congr 3; omega⟩
theorem enumD_len : ∀ {ds : List PL.D} {k : Nat}, (PL.enumD k ds).length = ds.length
  | [], _ => rfl
  | d :: ds, k => by simp [PL.enumD, enumD_len (ds := ds)]
theorem iok_enum {K : PySem.W.Frag} {J : It} {ds : List PL.D} {vs : List V} (q : RDs K α H ds vs) (go : ∀ i α' H', i < vs.length → Ext α H α' H' → J.go i H') (stop : ∀ α' H', Ext α H α' H' → J.stop vs.length H')
    (y : ∀ i α' H' v H'', Ext α H α' H' → J.yld i H' v H'' → ∃ T x, v = .ref T ∧ H' T = none ∧ H'' = upd H' T (.tup [.int (i : Nat), x]) ∧ vs[i]? = some x) : IOk K J (PL.enumD 0 ds) α H := by
  have hl := q.length
  refine ⟨fun i α' H' hi x => go i α' H' (by rw [enumD_len] at hi; omega) x, fun α' H' x => by rw [enumD_len, hl]; exact stop α' H' x, fun i α' H' v H'' d hd x yy => ?_⟩
  obtain ⟨T, w, rfl, hT, rfl, hw⟩ := y i α' H' v H'' x yy
  obtain ⟨z, ez, rfl⟩ := enumD_get hd
  obtain ⟨w', e1, q1⟩ := (q.mono x).get ez
  rw [hw] at e1
  cases e1
  refine ⟨fun c u e => by rw [upd_ne (ne_of_none e hT)]; exact e, ?_⟩
  have x2 : Ext α' H' α' (upd H' T (.tup [.int (i : Nat), w])) := Ext.new hT trivial
  simp only [RD]
  refine ⟨T, _, rfl, SqT.of upd_same, ?_⟩
  rw [Nat.zero_add]
  exact .cons mk_int (.cons (q1.mono x2) .nil)
theorem enum_eq : PL.mItEnum m δ S = PL.bAA (PL.mConsA m PL.mNilA δ S) fun ds S1 => match ds with
    | [.tup xs] => some (.ok (PL.enumD 0 xs) S1)
    | [.lst xs] => some (.ok (PL.enumD 0 xs) S1)
    | _ => none := by
  unfold PL.mItEnum PL.mConsA PL.mNilA
  cases h1 : m δ S with
  | none => rfl
  | some r1 =>
    cases r1 with
    | ex _ _ => rfl
    | ok d1 S1 => cases d1 <;> rfl
theorem ci_enum {p : Pos} (hX : Cz k X) (hm : X.mg "enumerate" = none) (ha : CA G X [e] (PL.mConsA m PL.mNilA)) (hg : Gl X "enumerate" := by rfl) (hs : starEach [e] X.env = [(false, eval e X.env)] := by rfl) :
    CI G X (.Tuple elts kk tpos) (.Call (.Name "enumerate" p) [e] [] pos) (PL.mItEnum m) := ⟨fun δ S r h0 α pins s σ H I R tk => by
  rw [enum_eq] at h0
  refine Call_ (ld_blt I hg hm boot_enumerate (PyProof.Rows.callWith_type1 (ha.thenA pos I R h0 tk fun ds S1 h1 α1 vs H1 us s1 I1 rv x1 R1 q1 tk1 => ?_) hs rfl))
  have fp : ∀ b ∈ [s1.heap.objs.size + 1, s1.heap.objs.size], FpOk X pins H1 b := fun b hb => by
    have e' : b = s1.heap.objs.size + 1 ∨ b = s1.heap.objs.size := by simpa using hb
    have hle : s1.heap.objs.size ≤ b := by
      rcases e' with z | z
      · rw [z]; exact Nat.le_add_right _ _
      · rw [z]; exact Nat.le_refl _
    exact I1.fpOk hle (I1.hok.fresh hle)
  split at h1
  · cases h1
    obtain ⟨v, rfl, q2⟩ := q1.one
    obtain ⟨a, ws, rfl, hq, q3⟩ := rd_tup q2
    cases rv with
    | cons r rr =>
      cases rr
      cases r
      obtain ⟨its, rv, p', hz⟩ := I1.tuple hq
      refine enum_begins1 (begins_tuple a its.toArray) p' fun h' he hit hsz hk => wpAny_pyIter_enum he ?_
      have I2 : Inv X pins σ H1 { s1 with heap := h' } := I1.kept (t' := s1.toks) hk
      refine ⟨α1, s1.heap.objs.size + 1, [s1.heap.objs.size + 1, s1.heap.objs.size], _, _, H1, rfl, I2, turn_enumT a (s1.heap.objs.size + 1) s1.heap.objs.size, ⟨⟨.none, he⟩, ⟨_, hit, rfl, rfl⟩, Nat.succ_ne_self _⟩, fp, x1, R1, ?_⟩
      refine iok_enum q3 (fun i α' H' hi x => ⟨ws, ws[i], SqT.le x.2.1 hq, by simp [hi]⟩) (fun α' H' x => ⟨ws, SqT.le x.2.1 hq, rfl⟩) fun i α' H' v H'' x y => ?_
      obtain ⟨T, w, h1, h2, h3, h4⟩ := y
      exact ⟨T, w, h1, h2, h3, h4 ws (SqT.le x.2.1 hq)⟩
  · cases h1
    obtain ⟨v, rfl, q2⟩ := q1.one
    obtain ⟨a, od, ws, rfl, hq, q3⟩ := rd_lst q2
    cases rv with
    | cons r rr =>
      cases rr
      cases r
      obtain ⟨its, rv, p', hz⟩ := I1.list (frz_sq hq)
      refine call_enumerate_list p'.isList fun h' he hit hsz hk => wpAny_pyIter_enum he ?_
      have I2 : Inv X pins σ H1 { s1 with heap := h' } := I1.kept (t' := s1.toks) hk
      have sq : ∀ {α' H'}, Ext α1 H1 α' H' → SqL X.K H' a ws := fun x => frz_sq (FzL.le x.2.1 hq)
      refine ⟨α1, s1.heap.objs.size + 1, [s1.heap.objs.size + 1, s1.heap.objs.size], _, _, H1, rfl, I2, turn_enum a (s1.heap.objs.size + 1) s1.heap.objs.size, ⟨⟨.none, he⟩, hit, Nat.succ_ne_self _⟩, fp, x1, R1, ?_⟩
      refine iok_enum q3 (fun i α' H' hi x => ⟨ws, ws[i], sq x, by simp [hi]⟩) (fun α' H' x => ⟨ws, sq x, Nat.le_refl _⟩) fun i α' H' v H'' x y => ?_
      obtain ⟨T, w, h1, h2, h3, h4⟩ := y
      exact ⟨T, w, h1, h2, h3, h4 ws (sq x)⟩
  · cases h1⟩
end
end BR

set_option Elab.async false
set_option linter.all false
set_option maxRecDepth 100000
set_option maxHeartbeats 2000000
/-! ## < of data; keyword calls -/
namespace BR
open PySem PySem.Spec PyProof.Rows L2
mutual
theorem alike_of : ∀ {x y : PL.D} {n k : Nat}, x.okN n = true → y.okN k = true → PySem.W.alike (toPy x) (toPy y) = PL.alikeD x y
  | .non, y, n, k, h, h' => by cases y <;> simp_all [toPy, PySem.W.alike, PL.alikeD, PL.D.okN]
  | .bl _, y, n, k, h, h' => by cases y <;> simp_all [toPy, PySem.W.alike, PL.alikeD, PL.D.okN]
  | .int _, y, n, k, h, h' => by cases y <;> simp_all [toPy, PySem.W.alike, PL.alikeD, PL.D.okN]
  | .str _, y, n, k, h, h' => by cases y <;> simp_all [toPy, PySem.W.alike, PL.alikeD, PL.D.okN]
  | .ref _, y, n, k, h, h' => by simp [PL.D.okN] at h
  | .tup xs, y, n, k, h, h' => by
    cases n with
    | zero => simp [PL.D.okN] at h
    | succ n =>
      simp only [PL.D.okN] at h
      cases y with
      | tup ys =>
        cases k with
        | zero => simp [PL.D.okN] at h'
        | succ k => simp only [PL.D.okN] at h'; simp only [toPy, PySem.W.alike, PL.alikeD]; exact alikes_of h h'
      | ref _ => simp [PL.D.okN] at h'
      | _ => simp [toPy, PySem.W.alike, PL.alikeD]
  | .lst xs, y, n, k, h, h' => by
    cases n with
    | zero => simp [PL.D.okN] at h
    | succ n =>
      simp only [PL.D.okN] at h
      cases y with
      | lst ys =>
        cases k with
        | zero => simp [PL.D.okN] at h'
        | succ k => simp only [PL.D.okN] at h'; simp only [toPy, PySem.W.alike, PL.alikeD]; exact alikes_of h h'
      | ref _ => simp [PL.D.okN] at h'
      | _ => simp [toPy, PySem.W.alike, PL.alikeD]
theorem alikes_of : ∀ {xs ys : List PL.D} {n k : Nat}, PL.D.okNs xs n = true → PL.D.okNs ys k = true → PySem.W.alikeAll (toPys xs) (toPys ys) = PL.alikeDs xs ys
  | [], ys, n, k, h, h' => by cases ys <;> simp [toPys, PySem.W.alikeAll, PL.alikeDs]
  | x :: xs, [], n, k, h, h' => by simp [toPys, PySem.W.alikeAll, PL.alikeDs]
  | x :: xs, y :: ys, n, k, h, h' => by
    simp only [PL.D.okNs, Bool.and_eq_true] at h h'
    simp only [toPys, PySem.W.alikeAll, PL.alikeDs, alike_of h.1 h'.1, alikes_of h.2 h'.2]
end
mutual
theorem lt_of : ∀ {x y : PL.D} {n k : Nat}, x.okN n = true → y.okN k = true → PL.alikeD x y = true → PL.nonD x = false → PySem.W.dataLt (toPy x) (toPy y) = PL.ltD x y
  | .non, y, n, k, h, h', ha, hn => by simp [PL.nonD] at hn
  | .bl a, y, n, k, h, h', ha, hn => by
    cases y <;> simp only [PL.alikeD] at ha <;> try cases ha
    rename_i b
    simp only [toPy, PL.ltD, PySem.W.dataLt_bool]
    cases a <;> cases b <;> rfl
  | .int a, y, n, k, h, h', ha, hn => by
    cases y <;> simp only [PL.alikeD] at ha <;> try cases ha
    simp only [toPy, PL.ltD, PySem.W.dataLt_int]
  | .str a, y, n, k, h, h', ha, hn => by
    cases y <;> simp only [PL.alikeD] at ha <;> try cases ha
    simp only [toPy, PL.ltD, PySem.W.dataLt_str]
  | .ref _, y, n, k, h, h', ha, hn => by simp [PL.D.okN] at h
  | .tup xs, y, n, k, h, h', ha, hn => by
    cases y <;> simp only [PL.alikeD] at ha <;> try cases ha
    cases n with
    | zero => simp [PL.D.okN] at h
    | succ n =>
      cases k with
      | zero => simp [PL.D.okN] at h'
      | succ k =>
        simp only [PL.D.okN] at h h'
        simp only [toPy, PL.ltD, PySem.W.dataLt_tuple]
        exact lts_of h h' ha
  | .lst xs, y, n, k, h, h', ha, hn => by
    cases y <;> simp only [PL.alikeD] at ha <;> try cases ha
    cases n with
    | zero => simp [PL.D.okN] at h
    | succ n =>
      cases k with
      | zero => simp [PL.D.okN] at h'
      | succ k =>
        simp only [PL.D.okN] at h h'
        simp only [toPy, PL.ltD, PySem.W.dataLt_list]
        exact lts_of h h' ha
theorem lts_of : ∀ {xs ys : List PL.D} {n k : Nat}, PL.D.okNs xs n = true → PL.D.okNs ys k = true → PL.alikeDs xs ys = true → PySem.W.rowLt (toPys xs) (toPys ys) = PL.ltDs xs ys
  | [], [], n, k, h, h', ha => by simp only [toPys, PL.ltDs]; exact PyProof.Rows.lex_irrefl _
  | [], y :: ys, n, k, h, h', ha => by
    have := PySem.W.dataLt_ints [] [0]
    simp only [toPys, PL.ltDs]
    unfold PySem.W.rowLt at this ⊢
    rw [PySem.W.toks_all_cons]
    first
      | rfl
      | simp [PySem.W.keyToksAll, PySem.W.lex_cons, PySem.W.itemLt]
  | x :: xs, [], n, k, h, h', ha => by
    simp only [toPys, PL.ltDs]
    unfold PySem.W.rowLt
    rw [PySem.W.toks_all_cons]
    first
      | rfl
      | simp [PySem.W.keyToksAll, PySem.W.lex_cons, PySem.W.itemLt]
  | x :: xs, y :: ys, n, k, h, h', ha => by
    simp only [PL.D.okNs, Bool.and_eq_true] at h h'
    simp only [PL.alikeDs, Bool.and_eq_true] at ha
    simp only [toPys, PL.ltDs]
    have al : PySem.W.alike (toPy x) (toPy y) = true := by rw [alike_of h.1 h'.1]; exact ha.1
    unfold PySem.W.rowLt
    rw [PySem.W.dataLt_cons al, eqv_of h.1 h'.1]
    have ih := lts_of h.2 h'.2 ha.2
    unfold PySem.W.rowLt at ih
    rw [ih]
    cases hq : PL.eqD x y with
    | true => rfl
    | false =>
      simp only [Bool.false_eq_true, if_false]
      refine lt_of h.1 h'.1 ha.1 ?_
      cases x <;> first | rfl | (cases y <;> simp_all [PL.alikeD, PL.eqD])
end
section
variable {G : EX} {X : Cx} {α α' : List Addr} {δ : PL.Env} {S : PL.Sto} {σ : L2.St} {H H' : Hp} {pins : List (Addr × Obj)} {s : Shared} {k : Nat}
theorem d_lt (hX : Cz k X) : OpD X (compareOp .Lt) PL.opLt := by
  intro x y z e α δ S pins s σ H v w u1 u2 I R q1 q2 r1 r2
  have gen : PL.opLtD x y = some z → wpAny (model X.prog X.w) X.A (compareOp .Lt u1 u2) (PoE X pins α δ σ H (.ok z S)) X.xe s := fun e => by
    unfold PL.opLtD at e
    obtain ⟨h, rfl⟩ := if_inv e
    simp only [Bool.and_eq_true, Bool.not_eq_true'] at h
    obtain ⟨⟨⟨h1, h2⟩, h3⟩, h4⟩ := h
    obtain ⟨as, ra⟩ := Dp.reads I (toPy x) v u1 (dp_of h1 q1) r1
    obtain ⟨bs, rb⟩ := Dp.reads I (toPy y) w u2 (dp_of h2 q2) r2
    have dp := (lay_of h1).2
    refine PySem.W.lt_data ra rb (by rw [alike_of h1 h2]; exact h3) ?_ ?_ ?_
    · cases x <;> simp_all [toPy, PL.nonD, PL.D.okN]
    · have := hu64 hX
      omega
    · rw [lt_of h1 h2 h3 h4]
      exact PoE.here (v := .bl _) I rfl R mk_bl
  have int : ∀ i j, x = .int i → y = .int j → wpAny (model X.prog X.w) X.A (compareOp .Lt u1 u2) (PoE X pins α δ σ H (.ok z S)) X.xe s := fun i j ex ey => by
    subst ex ey
    exact d_ltI (.int i) (.int j) z e α δ S pins s σ H v w u1 u2 I R q1 q2 r1 r2
  cases x <;> cases y <;> first | exact int _ _ rfl rfl | exact gen e

/-- the callee runs, bound in any way -/
theorem run_ck {f : Addr} {fd : FuncData} {ps : List Str} {m : PL.MF} {args : List (Str × Value)} {pu : List Value} (F : FnC G X.prog X.w X.K X.mg X.base k f fd ps m) (hX : Cz k X) {us : List Value} {vs : List V} {as : List PL.D} {r : PL.RE}
    (hb : BindsTo s fd ⟨pu, args⟩ (ps.zip us)) (I : Inv X pins σ H s) (R : Rel X.K α δ S σ H) (rv : Vals vs us) (q : RDs X.K α H as vs) (hm : m as S = some r) (tk : TkE G X α σ H r) : wpAny (model X.prog X.w) X.A (call (.ref f) pu args) (PoE X pins α δ σ H r) X.xe s := by
  have fin : ∀ (E : XK), (∀ (e : Value) (s' : Shared), L2.CX X.prog X.w X.stack H s E e s' → X.xe e s') → Wants G X.K α H r (fun v H' => PoV X.K α δ σ H r v H') E → wpAny (model X.prog X.w) X.A (call (.ref f) pu args) (PoE X pins α δ σ H r) X.xe s := fun E hE hW => by
    refine wpAny_call (codeAny_mono (F.run X.A X.stack s H ⟨pu, args⟩ us vs _ E α _ S r hX.room hX.gd I.env0 hb rv R.st q hm hW) fun r' s' hq => ?_)
    cases r' with
    | error e => exact hE e s' hq
    | ok fl =>
      cases fl with
      | ret u => exact PoE.ofV (I.after hq)
      | next => exact False.elim hq
      | brk => exact False.elim hq
      | cont => exact False.elim hq
  cases r with
  | ok d S1 =>
    refine fin (fun _ _ _ => False) (fun e s' hc => ?_) fun v α1 H1 x1 R1 q1 => ⟨α1, x1, R.mono x1 R1, q1⟩
    obtain ⟨_, _, _, _, _, _, _, _, _, _, _, _, z⟩ := hc
    exact z.elim
  | ex x S1 =>
    refine fin (fun cls dd H' => ∃ α', Ext α H α' H' ∧ RSt X.K α' S1 H' ∧ RX G X.K α' H' cls dd x) (fun e s' hc => ?_) fun cls dd α1 H1 x1 R1 q1 => ⟨α1, x1, R1, q1⟩
    exact tk e s' (XE.of_call I (fun cls dd H' ⟨a, x1, R1, q1⟩ => ⟨rfl, a, x1, R1, q1⟩) hc)
/-- the values given by name, from the left -/
structure CK (G : EX) (X : Cx) (kws : List Keyword) (mas : PL.MA) : Prop where
  run : ∀ (pos : Pos) δ S r, mas δ S = some r → ∀ α pins s σ H, Inv X pins σ H s → Rel X.K α δ S σ H → TkA G X α σ H r →
    wpAny (model X.prog X.w) X.A (evalAll ((backToKw pos (keywordEach kws X.env)).map (·.2))) (PoA X pins α δ σ H r) X.xe s
  len : ∀ δ S ds S', mas δ S = some (.ok ds S') → ds.length = kws.length
variable {e : Expr} {es : List Expr} {kws : List Keyword} {m : PL.ME} {mas mks ma : PL.MA} {nm : Option Str} {kpos pos p : Pos} {x : Str}
theorem ck_nil : CK G X [] PL.mNilA := ⟨fun _ δ S r hm α pins s σ H I R tk => by
  cases hm; exact wpAny_evalAll_nil ⟨α, [], H, I, .nil, Ext.refl _ _, R, .nil⟩, fun δ S ds S' h => by cases h; rfl⟩
theorem ck_cons (ha : CE G X e m) (hr : CK G X kws mks) : CK G X (⟨nm, e, kpos⟩ :: kws) (PL.mConsA m mks) := ⟨fun pos δ S r hm α pins s σ H I R tk => by
  show wpAny _ _ (evalAll ((do let v ← eval e X.env; standAt pos; pure v) :: (backToKw pos (keywordEach kws X.env)).map (·.2))) _ _ s
  refine wpAny_evalAll_cons (wpAny_bind (ha.thenA I R hm tk fun d S1 h1 α1 v H1 u s1 I1 rv x1 R1 q1 tk1 => wpAny_bind (wpAny_standAt (wpAny_pure ?_))))
  cases c : mks δ S1 with
  | none => rw [c] at h1; cases h1
  | some r1 =>
    rw [c] at h1
    cases r1 with
    | ex x' S2 => cases h1; exact thn (hr.run pos δ S1 _ c α1 pins s1 σ H1 I1 R1 tk1) fun us s2 h2 => h2.elim
    | ok ds S2 =>
      cases h1
      refine thn (hr.run pos δ S1 _ c α1 pins s1 σ H1 I1 R1 trivial) fun us s2 h2 => ?_
      obtain ⟨α2, vs, H2, I2, rvs, x2, R2, q2⟩ := h2
      exact ⟨α2, v :: vs, H2, I2, .cons rv rvs, x1.trans x2, R2, .cons (q1.mono x2) q2⟩, fun δ S ds S' h => by
  unfold PL.mConsA at h
  cases c : m δ S with
  | none => rw [c] at h; cases h
  | some r1 =>
    rw [c] at h
    cases r1 with
    | ex _ _ => cases h
    | ok d S1 =>
      simp only [PL.bEA_ok] at h
      cases c2 : mks δ S1 with
      | none => rw [c2] at h; cases h
      | some r2 =>
        rw [c2] at h
        cases r2 with
        | ex _ _ => cases h
        | ok xs S2 => cases h; simp [hr.len _ _ _ _ c2]⟩
variable {f : Addr} {fd : FuncData} {ps ks : List Str} {mf : PL.MF}
/-- f(e, .., k = v, ..), the names in the parameters' order -/
theorem c_callK (F : FnC G X.prog X.w X.K X.mg X.base k f fd ps mf) (hX : Cz k X) (hm : X.mg x = some (.ref f)) (hk : PySem.W.keepIn X.K (.ref f) = true)
    (hb : ∀ (s : Shared) (us ws : List Value), X.K.In s.heap → ws.length = kws.length → us.length + ws.length = ps.length → BindsTo s fd ⟨us, ks.zip ws⟩ (ps.zip (us ++ ws)))
    (ha : CA G X (e :: es) ma) (hkw : CK G X kws mks) (hg : Gl X x := by rfl) (hall : (backToKw pos (keywordEach kws X.env)).all (·.1.isSome) = true := by rfl) (hks : (backToKw pos (keywordEach kws X.env)).filterMap (·.1) = ks := by rfl)
    (hdb : (x == ("__debug__" : Str)) = false := by decide) (he : starEach (e :: es) X.env = (false, eval e X.env) :: starEach es X.env := by rfl)
    (hpl : ((backTo pos (starEach (e :: es) X.env)).any (·.1) || (backToKw pos (keywordEach kws X.env)).any (·.1.isNone)) = false := by rfl) : CE G X (.Call (.Name x p) (e :: es) kws pos) (PL.mCall mf (PL.mCatA ma mks)) := ⟨fun δ S r h0 α pins s σ H I R tk => by
  have hA : ∃ r1, ma δ S = some r1 := by
    cases c : ma δ S with
    | none => unfold PL.mCall PL.mCatA at h0; rw [c] at h0; cases h0
    | some r1 => exact ⟨r1, rfl⟩
  refine wpAny_Call_Name_kw (ld_glob I hg hm ?_ hdb)
  refine PySem.W.callWith_KW (h₀ := X.base) I.ok.mod.kin hk hall (ha.step pos I R (fun z => ?_) (fun x' S1 z => ?_) fun ds S1 z α1 vs H1 us s1 I1 rv x1 R1 q1 => ?_) hpl he
  · unfold PL.mCall PL.mCatA at h0; rw [z] at h0; cases h0
  · unfold PL.mCall PL.mCatA at h0; rw [z] at h0; cases h0; exact tk
  · unfold PL.mCall PL.mCatA at h0
    rw [z] at h0
    simp only [PL.bAA_ok] at h0
    cases c : mks δ S1 with
    | none => rw [c] at h0; cases h0
    | some r1 =>
      rw [c] at h0
      cases r1 with
      | ex x' S2 => cases h0; exact thn (hkw.run pos δ S1 _ c α1 pins s1 σ H1 I1 R1 (tk.ext x1)) fun us s2 h2 => h2.elim
      | ok es' S2 =>
        simp only [PL.bAA_ok, PL.bA_ok] at h0
        refine thn (hkw.run pos δ S1 _ c α1 pins s1 σ H1 I1 R1 trivial) fun ws s2 h2 => ?_
        obtain ⟨α2, zs, H2, I2, rz, x2, R2, q2⟩ := h2
        have kl : ws.length = kws.length := by rw [← rz.length, ← q2.length, hkw.len _ _ _ _ c]
        have q3 := (q1.mono x2).append q2
        have r3 := rv.append rz
        have hl : us.length + ws.length = ps.length := by
          have z1 := F.len _ _ _ h0
          have z2 := q3.length
          have z3 := r3.length
          rw [List.length_append] at z3
          simp only [List.length_append] at z1 z2 z3
          omega
        refine ⟨I2.kIn, ?_⟩
        rw [hks]
        have bt : BindsTo s2 fd ⟨us, ks.zip ws⟩ (ps.zip (us ++ ws)) := hb s2 us ws I2.kIn kl hl
        exact thn (run_ck F hX bt I2 R2 r3 q3 h0 (tk.ext (x1.trans x2))) fun u s' hu => hu.ext (x1.trans x2)⟩
end
end BR

set_option Elab.async false
set_option linter.all false
set_option maxRecDepth 100000
set_option maxHeartbeats 2000000
/-! ## the state of a law's draws -/
namespace BR
open PySem PySem.Spec PyProof.Rows L2
section
variable {G : EX} {X : Cx} {α α' : List Addr} {δ : PL.Env} {S : PL.Sto} {σ : L2.St} {H H' : Hp} {pins : List (Addr × Obj)} {s : Shared} {k : Nat}
variable {a b e : Expr} {ma m me : PL.ME} {pos p1 p2 p3 : Pos} {j : Nat}
theorem lawOf_inv {d : PL.D} {n k : Nat} {c l : List Int} (h : PL.lawOf S d = some (n, c, k, l)) : d = .ref n ∧ S[n]? = some (.law c k l) := by
  cases d <;> simp only [PL.lawOf] at h <;> try cases h
  rename_i n'
  split at h
  · rename_i c' k' l' hy
    cases h
    exact ⟨rfl, hy⟩
  · cases h
abbrev lawD (c : Addr) (k : Nat) (l : Addr) : List (Key × V) := [(.inr "cells", .ref c), (.inr "at", .int k), (.inr "left", .ref l)]
theorem val_cells {c l : Addr} {k : Nat} : valV (lawD c k l) (.inr ("cells" : Str)) = some (.ref c) := valV_pos rfl
theorem val_at {c l : Addr} {k : Nat} : valV (lawD c k l) (.inr ("at" : Str)) = some (.int k) := (valV_neg (show ¬ (Sum.inr (Str.ofString "cells") : Key) = Sum.inr (Str.ofString "at") by decide)).trans (valV_pos rfl)
theorem val_left {c l : Addr} {k : Nat} : valV (lawD c k l) (.inr ("left" : Str)) = some (.ref l) := (valV_neg (show ¬ (Sum.inr (Str.ofString "cells") : Key) = Sum.inr (Str.ofString "left") by decide)).trans ((valV_neg (show ¬ (Sum.inr (Str.ofString "at") : Key) = Sum.inr (Str.ofString "left") by decide)).trans (valV_pos rfl))
/-- m[key] is read -/
theorem fld_step {key : Str} (hX : Cz k X) (ha : CE G X a ma) (I : Inv X pins σ H s) (R : Rel X.K α δ S σ H) (no : ma δ S ≠ none) (tk : ∀ x S1, ma δ S = some (.ex x S1) → Takes X (WE G X α σ H x S1)) {Q : Value → Shared → Prop}
    (q : ∀ d S1, ma δ S = some (.ok d S1) → ∃ n c at_ left, d = .ref n ∧ S1[n]? = some (.law c at_ left) ∧
      ∀ α1 dd cc o l H1, Ext α H α1 H1 → Rel X.K α1 δ S1 σ H1 → α1[n]? = some dd → H1 dd = some (.dK (lawD cc at_ l)) → FzL X.K H1 cc o (c.map V.int) → H1 l = some (.lst (left.map V.int)) →
        ∃ v, valV (lawD cc at_ l) (.inr key) = some v ∧ ∀ u s1, Inv X pins σ H1 s1 → RelV v u → Q u s1)
    (hs : NoSl (.Constant (.str key) j p1) := by intro _ _; rfl) : wpAny (model X.prog X.w) X.A (eval (.Subscript a (.Constant (.str key) j p1) p2) X.env) Q X.xe s := by
  have hu : X.A.units + 1 < cLine := by have := hu64 hX; omega
  refine thn ((pe_dget (X := X) (pos := p2) hu ha.pe (pe_str (x := key) (j := j) (pos := p1)) hs).run pins s σ H (fun v H1 => ∀ u s1, Inv X pins σ H1 s1 → RelV v u → Q u s1) I ?_) fun u s1 ⟨v, H1, I1, rv, q1⟩ => q1 u s1 I1 rv
  refine ⟨α, δ, S, R, no, tk, fun d S1 h1 α1 v H1 x1 R1 q1 => ?_⟩
  obtain ⟨n, c, at_, left, rfl, hn, q⟩ := q d S1 h1
  obtain ⟨dd, cc, o, l, e1, e2, e3, e4, _, _⟩ := R1.st.law hn
  obtain ⟨p, e5, rfl⟩ := rd_ref q1
  rw [e1] at e5; cases e5
  obtain ⟨v, hv, qq⟩ := q α1 dd cc o l H1 x1 R1 e1 e2 e3 e4
  have g := DGet.k (k := .inr key) e2
  rw [hv] at g
  exact ⟨dd, v, rfl, g, qq⟩
theorem fld_read {key : Str} {w : V} {kk : PL.D → PL.Sto → Option PL.RE} {r : PL.RE} (hX : Cz k X) (ha : CE G X a ma) (I : Inv X pins σ H s) (R : Rel X.K α δ S σ H) (hk : PL.bE (ma δ S) kk = some r) (tk : TkE G X α σ H r) {Q : Value → Shared → Prop}
    (q : ∀ d S1, kk d S1 = some r → ∃ n c at_ left, d = .ref n ∧ S1[n]? = some (.law c at_ left) ∧
      ∀ α1 dd cc o l H1, Ext α H α1 H1 → Rel X.K α1 δ S1 σ H1 → α1[n]? = some dd → H1 dd = some (.dK (lawD cc at_ l)) → FzL X.K H1 cc o (c.map V.int) → H1 l = some (.lst (left.map V.int)) →
        ∃ v, valV (lawD cc at_ l) (.inr key) = some v ∧ ∀ u s1, Inv X pins σ H1 s1 → RelV v u → Q u s1)
    (hs : NoSl (.Constant (.str key) j p1) := by intro _ _; rfl) : wpAny (model X.prog X.w) X.A (eval (.Subscript a (.Constant (.str key) j p1) p2) X.env) Q X.xe s := by
  refine fld_step hX ha I R (fun z => by rw [z] at hk; cases hk) (fun x S1 z => by rw [z] at hk; cases hk; exact tk) (fun d S1 z => ?_) hs
  rw [z] at hk
  exact q d S1 hk
theorem fld_readS {key : Str} {kk : PL.D → PL.Sto → Option PL.RS} {r : PL.RS} (hX : Cz k X) (ha : CE G X a ma) (I : Inv X pins σ H s) (R : Rel X.K α δ S σ H) (hk : PL.bES δ (ma δ S) kk = some r) (tk : TkS G X α H r) {Q : Value → Shared → Prop}
    (q : ∀ d S1, kk d S1 = some r → ∃ n c at_ left, d = .ref n ∧ S1[n]? = some (.law c at_ left) ∧
      ∀ α1 dd cc o l H1, Ext α H α1 H1 → Rel X.K α1 δ S1 σ H1 → α1[n]? = some dd → H1 dd = some (.dK (lawD cc at_ l)) → FzL X.K H1 cc o (c.map V.int) → H1 l = some (.lst (left.map V.int)) →
        ∃ v, valV (lawD cc at_ l) (.inr key) = some v ∧ ∀ u s1, Inv X pins σ H1 s1 → RelV v u → Q u s1)
    (hs : NoSl (.Constant (.str key) j p1) := by intro _ _; rfl) : wpAny (model X.prog X.w) X.A (eval (.Subscript a (.Constant (.str key) j p1) p2) X.env) Q X.xe s := by
  refine fld_step hX ha I R (fun z => by rw [z] at hk; cases hk) (fun x S1 z => by rw [z] at hk; cases hk; exact TkS.ofE R tk) (fun d S1 z => ?_) hs
  rw [z] at hk
  exact q d S1 hk
theorem c_lawAt (hX : Cz k X) (ha : CE G X a ma) : CE G X (.Subscript a (.Constant (.str "at") j p1) p2) (PL.mLawAt ma) := ⟨fun δ S r h0 α pins s σ H I R tk => by
  refine fld_read (w := .non) hX ha I R h0 tk fun d S1 h1 => ?_
  split at h1
  · rename_i n c kk l hl
    cases h1
    obtain ⟨rfl, hn⟩ := lawOf_inv hl
    exact ⟨n, c, kk, l, rfl, hn, fun α1 dd cc o l' H1 x1 R1 e1 e2 e3 e4 => ⟨.int kk, val_at, fun u s1 I1 rv => PoE.mk I1 rv x1 R1 mk_int⟩⟩
  · cases h1⟩
theorem ints_rd {K : PySem.W.Frag} {l : List Int} : RDs K α H (l.map .int) (l.map V.int) := by
  induction l with
  | nil => exact .nil
  | cons i l ih => exact .cons mk_int ih
theorem c_lawCells (hX : Cz k X) (ha : CE G X a ma) : CE G X (.Subscript a (.Constant (.str "cells") j p1) p2) (PL.mLawCells ma) := ⟨fun δ S r h0 α pins s σ H I R tk => by
  refine fld_read (w := .non) hX ha I R h0 tk fun d S1 h1 => ?_
  split at h1
  · rename_i n c kk l hl
    cases h1
    obtain ⟨rfl, hn⟩ := lawOf_inv hl
    exact ⟨n, c, kk, l, rfl, hn, fun α1 dd cc o l' H1 x1 R1 e1 e2 e3 e4 => ⟨.ref cc, val_cells, fun u s1 I1 rv => PoE.mk I1 rv x1 R1 (by simp only [RD]; exact ⟨cc, o, _, rfl, e3, ints_rd⟩)⟩⟩
  · cases h1⟩
theorem dpall_ints {K : PySem.W.Frag} {l : List Int} : DpAll K H (l.map V.int) (toPys (l.map .int)) := by
  induction l with
  | nil => simp only [List.map_nil, toPys]; exact .nil
  | cons i l ih => simp only [List.map_cons, toPys, toPy]; exact .cons (.int i) ih
theorem ok_ints {l : List Int} {n : Nat} : PL.D.okNs (l.map .int) n = true := by
  induction l with
  | nil => rfl
  | cons i l ih => simp only [List.map_cons, PL.D.okNs, PL.D.okN, ih, Bool.and_self]
/-- m['left'] != [] -/
theorem c_lawNe (hX : Cz k X) (ha : CE G X a ma) : CE G X (.Compare (.Subscript a (.Constant (.str "left") j p1) p2) [.NotEq] [.List [] p3] pos) (PL.mLawNe ma) := ⟨fun δ S r h0 α pins s σ H I R tk => by
  refine wpAny_Compare1 (fld_read (w := .non) hX ha I R h0 tk fun d S1 h1 => ?_) (nobehind _ (by decide) (by decide))
  split at h1
  · rename_i n c kk l hl
    cases h1
    obtain ⟨rfl, hn⟩ := lawOf_inv hl
    refine ⟨n, c, kk, l, rfl, hn, fun α1 dd cc o l' H1 x1 R1 e1 e2 e3 e4 => ⟨.ref l', val_left, fun u s1 I1 rv => ?_⟩⟩
    refine thn ((pe_lst (X := X) (pos := p3) pa_nil).run pins s1 σ H1 (fun w H2 => ∃ p, w = .ref p ∧ H1 p = none ∧ H2 = upd H1 p (.lst [])) I1 ⟨Nat.zero_le _, fun p hp => ⟨p, rfl, hp, rfl⟩⟩) fun u2 s2 hu2 => ?_
    obtain ⟨w, H2, I2, rw, p, e5, hp, e6⟩ := hu2
    subst e5 e6
    have hl2 : upd H1 p (.lst []) l' = some (.lst (l.map V.int)) := by rw [upd_ne (ne_of_none e4 hp)]; exact e4
    have x2 : Ext α1 H1 α1 (upd H1 p (.lst [])) := Ext.new hp trivial
    have R2 := R1.mono x2 (R1.st.new hp)
    have o1 : (PL.D.lst (l.map .int)).ok = true := by show PL.D.okN _ 60 = true; simp only [PL.D.okN]; exact ok_ints
    have o2 : (PL.D.lst []).ok = true := by decide
    refine thn (op_neD (hu64 hX) pins s2 σ (upd H1 p (.lst [])) (.ref l') (.ref p) u u2 (PoV X.K α1 δ σ (upd H1 p (.lst [])) (.ok (.bl (!l.isEmpty)) S1)) I2 rv rw ⟨toPy (.lst (l.map .int)), toPy (.lst []), ?_, ?_, shaped_of o1, shaped_of o2, ?_⟩) fun u3 s3 hu => (PoE.ofV hu).ext (x1.trans x2)
    · simp only [toPy]; exact .lst (SqL.of hl2) dpall_ints
    · simp only [toPy, toPys]; exact .lst (SqL.of upd_same) .nil
    · rw [eqv_of (n := 60) (k := 60) o1 o2]
      have : (!PL.eqD (.lst (l.map .int)) (.lst [])) = !l.isEmpty := by cases l <;> simp [PL.eqD, PL.eqDs]
      rw [this]
      exact PoV.here R2 mk_bl
  · cases h1⟩

theorem at0 {h : Int} {t : List Int} : atI ((h :: t).map V.int) 0 = some (V.int h) := by unfold atI L2.ixN; simp
theorem ix0 {h : Int} {t : List Int} : L2.ixN ((h :: t).map V.int).length 0 = some 0 := by unfold L2.ixN; simp
/-- m['left'][0] -/
theorem c_lawL0 (hX : Cz k X) (ha : CE G X a ma) {j2 : Nat} {p4 : Pos} : CE G X (.Subscript (.Subscript a (.Constant (.str "left") j p1) p2) (.Constant (.int 0) j2 p4) pos) (PL.mLawL0 ma) := ⟨fun δ S r h0 α pins s σ H I R tk => by
  refine Subscript_ (fld_read (w := .non) hX ha I R h0 tk fun d S1 h1 => ?_)
  split at h1
  · rename_i n c kk h t hl
    cases h1
    obtain ⟨rfl, hn⟩ := lawOf_inv hl
    refine ⟨n, c, kk, h :: t, rfl, hn, fun α1 dd cc o l' H1 x1 R1 e1 e2 e3 e4 => ⟨.ref l', val_left, fun u s1 I1 rv => ?_⟩⟩
    refine wpAny_Constant_int ?_
    exact thn (ix_list _ _ pins _ σ H1 (.ref l') (.int 0) u (.int 0 s1.toks) (PoV X.K α1 δ σ H1 (.ok (.int h) S1)) (I1.tok _) rv ⟨_, rfl⟩ ⟨l', _, 0, .int h, rfl, rfl, SqL.of e4, at0, PoV.here R1 mk_int⟩ rfl) fun u3 s3 hu => (PoE.ofV hu).ext x1
  · cases h1⟩

/-- m['left'][0] = e -/
theorem cs_lawSet0 (hX : Cz k X) (ha : CE G X a ma) (he : CE G X e me) {j2 : Nat} {p4 p5 : Pos} (hs : swapsWithSole [.Subscript (.Subscript a (.Constant (.str "left") j p1) p2) (.Constant (.int 0) j2 p4) p5] e pos.line X.env = pure false := by rfl)
    (hw : swappedStores [.Subscript (.Subscript a (.Constant (.str "left") j p1) p2) (.Constant (.int 0) j2 p4) p5] e X.env = pure none := by rfl)
    (h1 : (assignEach [.Subscript (.Subscript a (.Constant (.str "left") j p1) p2) (.Constant (.int 0) j2 p4) p5] X.env).map (·.2) = [assign (.Subscript (.Subscript a (.Constant (.str "left") j p1) p2) (.Constant (.int 0) j2 p4) p5) X.env] := by rfl)
    (hasg : ∀ v, assign (.Subscript (.Subscript a (.Constant (.str "left") j p1) p2) (.Constant (.int 0) j2 p4) p5) X.env v = (do
      let ov ← holding [v] (eval (.Subscript a (.Constant (.str "left") j p1) p2) X.env)
      let iv ← holding [v, ov] (eval (.Constant (.int 0) j2 p4) X.env)
      standAt p5
      holding [v, ov, iv] (setItem ov iv v)
      release [v, ov, iv] []) := by intro _; rfl) : CS G X (.Assign [.Subscript (.Subscript a (.Constant (.str "left") j p1) p2) (.Constant (.int 0) j2 p4) p5] e pos) (PL.mLawSet0 ma me) := ⟨fun δ S r h0 α pins s σ H I R tk => by
  refine wpAny_Assign_stores (he.thenS I R h0 tk fun v0 S1 h2 α1 v H1 u s1 I1 rv x1 R1 q1 tk1 => ?_) hs hw
  rw [h1]
  show wpAny _ _ (assign _ X.env u) _ _ _
  rw [hasg]
  refine wpAny_bind (wpAny_holding (fld_readS hX ha I1 R1 h2 tk1 fun d S2 h3 => ?_))
  split at h3
  · rename_i i n c kk h t hl
    cases h3
    obtain ⟨rfl, hn⟩ := lawOf_inv hl
    have ev := rd_int q1
    subst ev
    refine ⟨n, c, kk, h :: t, rfl, hn, fun α2 dd cc o l' H2 x2 R2 e1 e2 e3 e4 => ⟨.ref l', val_left, fun u2 s2 I2 rv2 => ?_⟩⟩
    refine wpAny_bind (wpAny_holding (wpAny_Constant_int ?_))
    refine wpAny_bind (wpAny_standAt (wpAny_bind (wpAny_holding (thn (set_list pins _ σ H2 (.ref l') (.int 0) (.int i) u2 (.int 0 s2.toks) u (fun H' => H' = upd H2 l' (.lst (.int i :: t.map V.int))) (I2.tok _) rv2 ⟨_, rfl⟩ rv ⟨l', _, 0, 0, rfl, rfl, e4, ix0, rfl⟩) fun _ s4 ⟨H4, I4, e5⟩ => ?_))))
    subst e5
    have hdl : dd ≠ l' := fun z => by rw [z, e4] at e2; cases e2
    obtain ⟨R3, x3⟩ := R2.st.putLaw (left' := i :: t) (k' := kk) (l' := l') (H' := upd H2 l' (.lst (.int i :: t.map V.int))) hn e1 e2 e3 e4 (.inl rfl) (by rw [upd_ne hdl]; exact e2) upd_same
      (fun a u h1 h2 e => by rw [upd_ne h2]; exact e) (by rw [upd_same]; exact fun z => by cases z)
    exact wpAny_release (PoS.nx I4 ((x1.trans x2).trans x3) (R2.mono x3 R3))
  · cases h3⟩
/-- m['at'] = e -/
theorem cs_lawSetAt (hX : Cz k X) (ha : CE G X a ma) (he : CE G X e me) (hs : swapsWith e (some (.Subscript a (.Constant (.str "at") j p1) p2)) pos.line X.env = pure false := by rfl) :
    CS G X (.Assign [.Subscript a (.Constant (.str "at") j p1) p2] e pos) (PL.mLawSetAt ma me) := ⟨fun δ S r h0 α pins s σ H I R tk => by
  have hu : X.A.units + 1 < cLine := by have := hu64 hX; omega
  refine wpAny_Assign_Subscript (he.thenS I R h0 tk fun v0 S1 h2 α1 v H1 u s1 I1 rv x1 R1 q1 tk1 => ?_) hs
  refine ha.thenS I1 R1 h2 tk1 fun d S2 h3 α2 w H2 u2 s2 I2 rw x2 R2 q2 tk2 => ?_
  refine thn ((pe_str (X := X) (x := "at") (j := j) (pos := p1)).run pins s2 σ H2 (fun y H' => y = .str "at" ∧ H' = H2) I2 ⟨rfl, rfl⟩) fun iv s3 ⟨y, H3, I3, ry, e1, e2⟩ => ?_
  subst e1 e2
  split at h3
  · rename_i i n c kk l hl
    obtain ⟨hi, rfl⟩ := if_inv h3
    obtain ⟨rfl, hn⟩ := lawOf_inv hl
    have ev := rd_int q1
    subst ev
    obtain ⟨dd, cc, o, l', f1, f2, f3, f4, _, _⟩ := R2.st.law hn
    obtain ⟨p, f5, rfl⟩ := rd_ref q2
    rw [f1] at f5; cases f5
    obtain rfl : u2 = Value.ref dd := rw
    have hp : putK (lawD cc kk l') (.inr ("at" : Str)) (V.int i) = lawD cc i.toNat l' := by
      have : ((i.toNat : Nat) : Int) = i := by omega
      unfold lawD
      rw [this]
      rfl
    have g := DPut.k (k := .inr ("at" : Str)) (v := V.int i) f2 (by show 3 < sizeLine; decide)
    rw [hp] at g
    refine d_setItem hu I3 g ry rv fun s4 I4 => ?_
    have hdl : dd ≠ l' := fun z => by rw [z, f4] at f2; cases f2
    obtain ⟨R3, x3⟩ := R2.st.putLaw (left' := l) (k' := i.toNat) (l' := l') (H' := upd H3 dd (.dK (lawD cc i.toNat l'))) hn f1 f2 f3 f4 (.inl rfl) upd_same (by rw [upd_ne (Ne.symm hdl)]; exact f4)
      (fun a u h1 h2 e => by rw [upd_ne h1]; exact e) (by rw [upd_ne (Ne.symm hdl), f4]; exact fun z => by cases z)
    exact PoS.nx I4 ((x1.trans x2).trans x3) (R2.mono x3 R3)
  · cases h3⟩

/-- m['left'] = m['left'][1:] -/
theorem cs_lawTail (hX : Cz k X) (i : Nat) {x : Str} {pa pb p4 p5 p6 : Pos} {j2 j3 : Nat} (hN : X.N[i]? = some x := by rfl) (hv : Vis X.env.scope x := by first | exact Or.inl rfl | exact Or.inr (Or.inl rfl) | exact Or.inr (Or.inr rfl)) (hd : (x == ("__debug__" : Str)) = false := by decide) (hcd : (x == ("__classdict__" : Str)) = false := by decide)
    {spos : Pos}
    (hs2 : swapsWith (.Subscript (.Subscript (.Name x pb) (.Constant (.str "left") j2 p4) p5) (.Slice (some (.Constant (.int 1) j3 p6)) none none p3) pos) (some (.Subscript (.Name x pa) (.Constant (.str "left") j p1) p2)) spos.line X.env = pure false := by rfl) :
    CS G X (.Assign [.Subscript (.Name x pa) (.Constant (.str "left") j p1) p2] (.Subscript (.Subscript (.Name x pb) (.Constant (.str "left") j2 p4) p5) (.Slice (some (.Constant (.int 1) j3 p6)) none none p3) pos) spos) (PL.mLawTail i) := ⟨fun δ S r h0 α pins s σ H I R tk => by
  have hu : X.A.units + 1 < cLine := by have := hu64 hX; omega
  unfold PL.mLawTail PL.mVar at h0
  split at h0
  · rename_i d0 hd0
    simp only [PL.bES_ok] at h0
    split at h0
    · rename_i n c kk h t hl
      cases h0
      obtain ⟨rfl, hn⟩ := lawOf_inv hl
      obtain ⟨v0, ev0, qv0⟩ := R.loc i _ hd0
      obtain ⟨dd, cc, o, l, f1, f2, f3, f4, _, _⟩ := R.st.law hn
      obtain ⟨p, f5, rfl⟩ := rd_ref qv0
      rw [f1] at f5; cases f5
      have z := ps_dput (X := X) (pos := spos) (pos' := p2) hu (pe_var (pos := pa) hN hv hd hcd) (pe_str (x := "left") (j := j) (pos := p1))
        (pe_slice (pos := pos) (p2 := p3) sl_list (pe_dget (pos := p5) hu (pe_var (pos := pb) hN hv hd hcd) (pe_str (x := "left") (j := j2) (pos := p4)) (by intro _ _; rfl)) (po_some (pe_int (i := 1) (j := j3) (pos := p6))) po_none) hs2
      have hdl : dd ≠ l := fun z => by rw [z, f4] at f2; cases f2
      refine thn (z.run pins s σ H ⟨fun σ' H' => σ' = σ ∧ ∃ l2, H l2 = none ∧ H' = upd (upd H l2 (.lst (t.map V.int))) dd (.dK (lawD cc kk l2)), fun _ _ => False, fun _ _ => False, fun _ _ => False⟩ I ?_) fun f s' hf => ?_
      · refine ⟨.ref dd, ev0, dd, .ref l, rfl, ?_, 1, rfl, l, _, rfl, SqL.of f4, fun q hq => ⟨.ref dd, ev0, dd, upd (upd H q (.lst (t.map V.int))) dd (.dK (lawD cc kk q)), rfl, ?_, rfl, q, hq, rfl⟩⟩
        · have g := DGet.k (k := .inr ("left" : Str)) f2
          rw [val_left] at g; exact g
        · have hcut : cutV ((h :: t).map V.int) (some 1) none = t.map V.int := by
            unfold cutV
            have e1 : HT.sIx ((h :: t).map V.int).length 0 (some 1) = 1 := by simp [HT.sIx]
            have e2 : HT.sIx ((h :: t).map V.int).length ((h :: t).map V.int).length none = ((h :: t).map V.int).length := rfl
            rw [e1, e2]
            simp only [List.map_cons, List.drop_succ_cons, List.drop_zero]
            exact List.take_of_length_le (by simp)
          rw [hcut]
          have hdq : dd ≠ q := ne_of_none f2 hq
          have g := DPut.k (H := upd H q (.lst (t.map V.int))) (k := .inr ("left" : Str)) (v := V.ref q) (by rw [upd_ne hdq]; exact f2) (by show 3 < sizeLine; decide)
          exact g
      · cases f with
        | next =>
          obtain ⟨σ', H', I', rfl, l2, hl2, rfl⟩ := hf
          have hd2 : dd ≠ l2 := ne_of_none f2 hl2
          have hll : l ≠ l2 := ne_of_none f4 hl2
          obtain ⟨R3, x3⟩ := R.st.putLaw (left' := t) (k' := kk) (l' := l2) (H' := upd (upd H l2 (.lst (t.map V.int))) dd (.dK (lawD cc kk l2))) hn f1 f2 f3 f4 (.inr hl2) upd_same (by rw [upd_ne (Ne.symm hd2)]; exact upd_same)
            (fun a u h1 h2 e => by rw [upd_ne h1, upd_ne (ne_of_none e hl2)]; exact e) (by rw [upd_ne (Ne.symm hdl), upd_ne hll, f4]; exact fun z => by cases z)
          exact PoS.nx I' x3 (R.mono x3 R3)
        | ret u => obtain ⟨_, _, _, _, _, w⟩ := hf; exact w.elim
        | brk => obtain ⟨_, _, _, w⟩ := hf; exact w.elim
        | cont => obtain ⟨_, _, _, w⟩ := hf; exact w.elim
    · cases h0
  · cases h0⟩

theorem intsOf_rd {K : PySem.W.Frag} : ∀ {ds : List PL.D} {vs : List V} {l : List Int}, PL.intsOf ds = some l → RDs K α H ds vs → vs = l.map V.int
  | [], _, l, h, q => by simp only [PL.intsOf] at h; cases h; simp only [RDs] at q; exact q
  | d :: ds, _, l, h, q => by
    simp only [RDs] at q
    obtain ⟨v, r, rfl, q1, q2⟩ := q
    cases d <;> simp only [PL.intsOf] at h <;> try cases h
    rename_i i
    cases hr : PL.intsOf ds with
    | none => rw [hr] at h; cases h
    | some l' =>
      rw [hr] at h
      cases h
      rw [rd_int q1, intsOf_rd hr q2]
      rfl
/-- {'cells': c, 'at': 0, 'left': l} -/
theorem c_newLaw {ec el : Expr} {mc ml : PL.ME} {q1 q2 q3 q4 : Pos} {j1 j2 j3 j4 : Nat} (hX : Cz k X) (hc : CE G X ec mc) (hl : CE G X el ml) :
    CE G X (.Dict [some (.Constant (.str "cells") j1 q1), some (.Constant (.str "at") j2 q2), some (.Constant (.str "left") j3 q3)] [ec, .Constant (.int 0) j4 q4, el] pos) (PL.mNewLaw mc ml) :=
  CE.ofX (pe_disp (X := X) (pos := pos) (pps_cons (pe_str (x := "cells") (j := j1) (pos := q1)) hc.pe (pps_cons (pe_str (x := "at") (j := j2) (pos := q2)) (pe_int (i := 0) (j := j4) (pos := q4)) (pps_cons (pe_str (x := "left") (j := j3) (pos := q3)) hl.pe pps_nil))) rfl rfl (by simp) (by simp)) fun δ S r h0 α σ H R tk => by
    intro p hp
    have x0 : Ext α H α (upd H p (.dK [])) := Ext.new hp trivial
    have R0 := R.mono x0 (R.st.new hp)
    have nT0 : ¬ Tr α (upd H p (.dK [])) p := fun q => R.st.tr (Tr.upd (R.st.fresh hp) q) hp
    show tOf G X mc σ (upd H p (.dK [])) _
    refine tOf.go R0 h0 (tk.ext x0) fun x S1 h1 α1 v1 H1 x1 R1 q1 tk1 => ?_
    have D1 := x1.2.2.2.1 p _ upd_same nT0
    have nT1 := tr_ext x1 upd_same nT0
    show tOf G X ml σ H1 _
    refine tOf.go R1 h1 tk1 fun y S2 h2 α2 v2 H2 x2 R2 q2 tk2 => ?_
    have D2 := x2.2.2.2.1 p _ D1 nT1
    have nT2 := tr_ext x2 D1 nT1
    split at h2
    · rename_i cs n
      split at h2
      · rename_i ls hls
        split at h2
        · rename_i hn
          split at h2
          · rename_i cells left hcs hlf
            cases h2
            obtain ⟨c, o, vs, rfl, hcf, qc⟩ := rd_lst q1
            have ec := intsOf_rd hcs qc
            subst ec
            obtain ⟨l, us, rfl, hln, hlH, ql, pu⟩ := lst_at R2 hls q2
            have el := intsOf_rd hlf ql
            subst el
            have ln : (α2.take n).length = n := by
              have := R2.st.lenα
              rw [List.length_take]; omega
            refine ⟨D2, [(.inr "cells", .ref c), (.inr "at", .int 0), (.inr "left", .ref l)], rfl, by simp, ?_⟩
            have em : mergeK ([] : List (Key × V)) [(.inr "cells", .ref c), (.inr "at", .int 0), (.inr "left", .ref l)] = lawD c 0 l := rfl
            rw [em]
            have npl : p ≠ l := fun z => by rw [z, hlH] at D2; cases D2
            have hcf2 := FzL.le x2.2.1 hcf
            have nTp : ¬ Tr (α2.take n) H2 p := fun z => by
              rcases z with z | ⟨d, hd, q⟩
              · exact nT2 (.inl (List.mem_of_mem_take z))
              · exact nT2 (.inr ⟨d, List.mem_of_mem_take hd, q⟩)
            have nTl : ¬ Tr (α2.take n) H2 l := R2.st.notTr hln
            have Rt := (R2.st.take n).off (u := .dK (lawD c 0 l)) D2 (fun z => z) nTp
            have Rf := Rt.pushLaw (d := p) (l := l) (c := c) (o := o) (cells := cells) (left := left) (n := 0) upd_same (FzL.le (Le.put D2 (fun z => z)) hcf2) (by rw [upd_ne (Ne.symm npl)]; exact hlH)
              (fun z => nTp (Tr.upd (fun z => nTp (.inl z)) z)) (fun z => nTl (Tr.upd (fun z => nTp (.inl z)) z))
            have xa : Ext α H α2 H2 := (x0.trans x1).trans x2
            have xb : Ext α H α2 (upd H2 p (.dK (lawD c 0 l))) := xa.off hp nT2
            have pre : α <+: α2.take n := by
              obtain ⟨t, ht⟩ := xa.1
              have hlα := R.st.lenα
              refine ⟨t.take (n - α.length), ?_⟩
              rw [← ht, List.take_append, List.take_of_length_le (by omega : α.length ≤ n)]
            have xc : Ext α H (α2.take n ++ [p]) (upd H2 p (.dK (lawD c 0 l))) := by
              refine ⟨pre.trans (List.prefix_append _ _), xb.2.1, fun a h => ?_, xb.2.2.2⟩
              rcases h with h | ⟨d, hd, c', n', e⟩
              · rcases List.mem_append.mp h with h | h
                · exact xb.2.2.1 a (.inl (List.mem_of_mem_take h))
                · rw [List.mem_singleton.mp h]; exact .inr hp
              · rcases List.mem_append.mp hd with z | z
                · exact xb.2.2.1 a (.inr ⟨d, List.mem_of_mem_take z, c', n', e⟩)
                · rw [List.mem_singleton.mp z, upd_same] at e
                  cases e
                  exact xa.2.2.1 l (.inl (List.mem_of_getElem? hln))
            refine ⟨α2.take n ++ [p], xc, R.mono xc Rf, ?_⟩
            simp only [RD]
            exact ⟨p, by rw [List.getElem?_append_right (by omega), ln]; simp, rfl⟩
          · cases h2
        · cases h2
      · cases h2
    · cases h2
end
end BR

set_option Elab.async false
set_option linter.all false
set_option maxRecDepth 100000
set_option maxHeartbeats 2000000
/-! ## the law's end -/
namespace BR
open PySem PySem.Spec PyProof.Rows L2
/-- the script's object, unless it is the module's own -/
def scriptH (K : PySem.W.Frag) (a : Addr) (vs : List Value) (ns : List Int) : Hp := fun b => if b = a ∧ K.lookup a = none then some (.frz { cls := .type "list", data := .seq vs.toArray } (.lst (ns.map V.int))) else none
section
variable {G : EX} {P : Program} {w : World} {K : PySem.W.Frag} {mg mb : Str → Option Value} {k : Nat} {fa a : Addr} {fd : FuncData} {x : Str} {s₁ : Shared} {vs : List Value} {ns : List Int} {m : PL.MF}
theorem scriptH_some {b : Addr} {u : HO} (h : scriptH K a vs ns b = some u) : b = a ∧ K.lookup a = none ∧ u = .frz { cls := .type "list", data := .seq vs.toArray } (.lst (ns.map V.int)) := by
  unfold scriptH at h
  split at h
  · rename_i q; cases h; exact ⟨q.1, q.2, rfl⟩
  · cases h
theorem script_rd (KX : K.In s₁.heap) (ha : s₁.heap.get? a = some { cls := .type "list", data := .seq vs.toArray }) (hi : IntsAre vs ns) (hl : ns.length ≤ sizeLine) : FzL K (scriptH K a vs ns) a { cls := .type "list", data := .seq vs.toArray } (ns.map V.int) := by
  cases hk : K.lookup a with
  | none => exact .inl (if_pos ⟨rfl, hk⟩)
  | some o =>
    have e := KX a o hk
    rw [ha] at e
    cases e
    exact .inr ⟨vs, _, hk, by rw [List.length_map]; exact hl, vals_ints hi⟩
/-- the law's call, from what the mirror of its def gives -/
theorem law_callC (KX : K.In s₁.heap) (hns : s₁.heap.Ns mainGlobals mg) (hb : s₁.heap.Ns builtinsNs mb) (hbb : ∀ x : Str, x ≠ "__name__" → mb x = bootBuiltins x) (hlim : s₁.heap.NoLimit) (hg : s₁.gens = #[])
    (ha : s₁.heap.get? a = some { cls := .type "list", data := .seq vs.toArray }) (hi : IntsAre vs ns) (hl : ns.length ≤ sizeLine) (hr : Room k callerA)
    (F : ∀ base : Heap, K.In base → base.Ns mainGlobals mg → FnC G P w K mg base k fa fd [x] m) (hbind : ∀ (s : Shared) (u : Value), BindsTo s fd ⟨[u], []⟩ [(x, u)])
    {S' : PL.Sto} (hm : m [.lst (ns.map .int)] [] = some (.ok (.bl true) S')) :
    codeAny (model P w) callerA (.call (.ref fa) ⟨[.ref a], []⟩) (fun r s' => r = .ok (.ret (.bool true)) ∧ OldK s₁.heap s'.heap ∧ s'.os = s₁.os ∧ AllBare s'.gens) s₁ := by
  generalize hH : scriptH K a vs ns = H
  have hs : ∀ {b u}, H b = some u → b = a ∧ K.lookup a = none ∧ u = .frz { cls := .type "list", data := .seq vs.toArray } (.lst (ns.map V.int)) := fun {b u} e => scriptH_some (by rw [hH]; exact e)
  have none_of : ∀ {b : Addr}, (b = a → K.lookup a = none → False) → H b = none := fun {b} n => by
    cases q : H b with
    | none => rfl
    | some u => obtain ⟨e1, e2, _⟩ := hs q; exact (n e1 e2).elim
  have rows : ∀ {b : Addr} {o : Obj} {es : Array DictEntry} {ep : Nat}, s₁.heap.get? b = some o → o.data = .dict es ep → H b = none := fun {b o es ep} e d => none_of fun q _ => by
    rw [q, ha] at e
    cases e
    exact absurd d (fun z => by cases z)
  have ns' : ∀ {b : Addr} {m : Str → Option Value}, s₁.heap.Ns b m → (hidT s₁.heap H).Ns b m := fun {b m} h => by
    obtain ⟨o, es, ep, e, d, r⟩ := h
    exact ⟨o, es, ep, hidT_get e (rows e d), d, r⟩
  have kb : K.In (hidT s₁.heap H) := fun b o e => hidT_get (KX b o e) (none_of fun q n => by rw [q, n] at e; cases e)
  have md : Mod K mg (hidT s₁.heap H) := by
    obtain ⟨mc, l1, l2⟩ := hlim
    exact ⟨kb, ns' hns, ⟨mb, ns' hb, hbb⟩, ⟨mc, ns' l1, l2⟩⟩
  have ok : HOk P w H s₁.heap := fun b u e => by
    obtain ⟨rfl, _, rfl⟩ := hs e
    exact ⟨ha, by rw [List.length_map]; exact hl, vs, _, vals_ints hi, ha⟩
  have e0 : Env0 P w K mg (hidT s₁.heap H) callerA [] s₁ H := by
    refine ⟨rfl, md, fun b o e => of_hidT e, ?_, trivial, ?_, ok, .of_eq hg⟩
    · rw [hidT_size]; exact Nat.le_refl _
    · intro b hb
      exact absurd (show b ∈ ([] : List Addr) from hb) (by simp)
  have st : RSt K [] [] H := ⟨[], rfl, rfl, by simp, by simp, fun n o e => by simp at e⟩
  have rd : RDs K [] H [.lst (ns.map .int)] [.ref a] := by
    refine .cons ?_ .nil
    simp only [RD]
    exact ⟨a, _, _, rfl, by rw [← hH]; exact script_rd KX ha hi hl, ints_rd⟩
  refine codeAny_mono ((F _ kb (ns' hns)).run callerA [] s₁ H ⟨[.ref a], []⟩ [.ref a] [.ref a] (fun v _ => v = .bl true) (fun _ _ _ => False) [] _ [] _ hr rfl e0 (hbind s₁ (.ref a)) (.cons rfl .nil) st rd hm fun v α' H' x R q => rd_bl q) fun r s' h => ?_
  cases r with
  | error e =>
    obtain ⟨_, _, _, _, _, _, _, _, _, _, _, _, z⟩ := h
    exact z.elim
  | ok fl =>
    cases fl with
    | next => exact False.elim h
    | brk => exact False.elim h
    | cont => exact False.elim h
    | ret u =>
      obtain ⟨v, H', os, bare, un, ok', r', q⟩ := h
      have q' : v = .bl true := q
      subst q'
      obtain rfl : u = Value.bool true := r'
      refine ⟨rfl, OldK.of_keep fun b o e => ?_, os, bare⟩
      cases q : H b with
      | none => exact un.keep b o e q (fun z => absurd (show b ∈ ([] : List Addr) from z) (by simp)) (by simp)
      | some u =>
        obtain ⟨rfl, _, rfl⟩ := hs q
        obtain ⟨e2, _⟩ := ok' b _ (un.frzs b _ _ q)
        rw [ha] at e
        cases e
        exact e2
end
/-- the goal that k_head leaves, from the mirror of the law's def -/
theorem walkC {l : PySem.W.OpenLaw} {n k : Nat} {q : Program} {loose : List Str} {XP : (Str → Option Value) → Heap → Prop} {YP : World → Heap → Prop} {d : DefRec} {K : Params → PySem.W.Frag} {x : Str} {m : PL.MF}
    (hn : l.most = some n) (hn2 : n ≤ sizeLine) (hdf : d.params.defaults = []) (hr : Room k callerA) (hY : ∀ (w : World) (h : Heap), YP w h → (K w.params).In h)
    (hm : ∀ ns : List Int, ns.length ≤ n → ∃ S', m [.lst (ns.map .int)] [] = some (.ok (.bl true) S'))
    (F : ∀ (w : World) (mg : Str → Option Value) (fa : Addr) (h : Heap), (K w.params).In h → h.Ns mainGlobals mg → mg d.name = some (.ref fa) →
      ∃ (G : EX) (fd : FuncData), (∀ (s : Shared) (u : Value), BindsTo s fd ⟨[u], []⟩ [(x, u)]) ∧ ∀ base : Heap, (K w.params).In base → base.Ns mainGlobals mg → FnC G l.prog w (K w.params) mg base k fa fd [x] m) :
    PySem.W.WalkO q loose XP YP l.row.toRowW d [] (fun f vs => PySem.call f vs) := by
  refine Att.attach_call hn hdf fun w s₀ s₁ mg mb fa o pm cd doc a vs ns G Y ho hd hcd hmg hobj hints hlen hg => ?_
  obtain ⟨G', fd, hb, hF⟩ := F w mg fa _ (hY w _ Y) G.T.g hmg
  obtain ⟨S', hS⟩ := hm ns hlen
  exact law_callC (hY w _ Y) G.T.g G.T.b G.T.builtins G.T.nolimit hg hobj hints (Nat.le_trans hlen hn2) hr hF hb hS
end BR

set_option Elab.async false
set_option linter.all false
set_option maxRecDepth 100000
set_option maxHeartbeats 2000000
/-! ## comparisons, as values and as tests -/
namespace BR
open PySem PySem.Spec PyProof.Rows L2
/-- a op b: both sides, then the comparison -/
structure CP (G : EX) (X : Cx) (a : Expr) (op : CmpOp) (b : Expr) (m : PL.ME) : Prop where
  run : ∀ δ S r, m δ S = some r → ∀ α pins s σ H, Inv X pins σ H s → Rel X.K α δ S σ H → TkE G X α σ H r →
    wpAny (model X.prog X.w) X.A (eval a X.env) (fun v s₁ => wpAny (model X.prog X.w) X.A (eval b X.env) (fun u s₂ => wpAny (model X.prog X.w) X.A (compareOp op v u) (PoE X pins α δ σ H r) X.xe s₂) X.xe s₁) X.xe s
section
variable {G : EX} {X : Cx} {α α' : List Addr} {δ : PL.Env} {S : PL.Sto} {σ : L2.St} {H H' : Hp} {pins : List (Addr × Obj)} {s : Shared} {k : Nat}
variable {a b : Expr} {ma mb m : PL.ME} {pos p1 p2 p3 : Pos} {j : Nat} {op : CmpOp}
theorem CP.e (h : CP G X a op b m) (h1 : behindInMarks op b = false := by first | exact nobehind _ (by decide) (by decide) | rfl) : CE G X (.Compare a [op] [b] pos) m :=
  ⟨fun δ S r hm α pins s σ H I R tk => wpAny_Compare1 (h.run δ S r hm α pins s σ H I R tk) h1⟩
theorem CP.t (h : CP G X a op b m) (h1 : behindInMarks op b = false := by first | exact nobehind _ (by decide) (by decide) | rfl) : CT G X (.Compare a [op] [b] pos) (PL.mB m) := by
  refine ⟨fun δ S r hm α pins s σ H I R tk => ?_⟩
  unfold PL.mB at hm
  cases c : m δ S with
  | none => rw [c] at hm; cases hm
  | some r0 =>
    rw [c] at hm
    cases r0 with
    | ex x S1 =>
      cases hm
      exact wpAny_isTrue_Compare1 (thn (h.run δ S _ c α pins s σ H I R tk) fun v s1 h1 => thn h1 fun u s2 h2 => thn h2 fun w s3 h3 => h3.elim) h1
    | ok d S1 =>
      refine wpAny_isTrue_Compare1 (thn (h.run δ S _ c α pins s σ H I R trivial) fun v s1 h1 => thn h1 fun u s2 h2 => thn h2 fun w s3 h3 => ?_) h1
      obtain ⟨α1, v1, H1, I1, rv, x1, R1, q1⟩ := h3
      cases d <;> try cases hm
      have e1 := rd_bl q1
      subst e1
      cases rv
      exact wpAny_truthy_bool ⟨rfl, α1, H1, I1, x1, R1⟩
theorem cp_op {f : PL.D → PL.D → Option PL.D} (ho : OpD X (compareOp op) f) (ha : CE G X a ma) (hb : CE G X b mb) : CP G X a op b (PL.mBin f ma mb) :=
  ⟨fun δ S r hm α pins s σ H I R tk => two ho ha hb hm I R tk⟩
theorem cp_opS {f : PL.Sto → PL.D → PL.D → Option PL.D} (ho : ∀ S x y z, f S x y = some z → ∀ α δ pins s σ H v w u1 u2, Inv X pins σ H s → Rel X.K α δ S σ H → RD X.K α H x v → RD X.K α H y w → RelV v u1 → RelV w u2 →
    wpAny (model X.prog X.w) X.A (compareOp op u1 u2) (PoE X pins α δ σ H (.ok z S)) X.xe s) (ha : CE G X a ma) (hb : CE G X b mb) : CP G X a op b (PL.mBinS f ma mb) :=
  ⟨fun δ S r hm α pins s σ H I R tk => by
    refine ha.then I R hm tk fun x S1 h1 α1 v H1 u1 s1 I1 rv x1 R1 q1 tk1 => ?_
    refine hb.then I1 R1 h1 tk1 fun y S2 h2 α2 w H2 u2 s2 I2 rw x2 R2 q2 tk2 => ?_
    obtain ⟨z, e, rfl⟩ := map_inv h2
    exact thn (ho S2 x y z e α2 δ pins s2 σ H2 v w u1 u2 I2 R2 (q1.mono x2) q2 rv rw) fun u s' h => h.ext (x1.trans x2)⟩
theorem cp_eqS (hX : Cz k X) (ha : CE G X a ma) (hb : CE G X b mb) : CP G X a .Eq b (PL.mBinS PL.opEqS ma mb) := cp_opS (fun S x y z e α δ pins s σ H v w u1 u2 I R q1 q2 r1 r2 => by
  obtain ⟨ho, rfl⟩ := if_inv e
  simp only [Bool.and_eq_true] at ho
  refine thn (op_eqD (hu64 hX) pins s σ H v w u1 u2 (PoV X.K α δ σ H (.ok _ S)) I r1 r2 ⟨_, _, dp_rsv R ho.1 q1, dp_rsv R ho.2 q2, shaped_of ho.1, shaped_of ho.2, ?_⟩) fun u s' hu => PoE.ofV hu
  rw [eqv_of ho.1 ho.2]
  exact PoV.here R mk_bl) ha hb
theorem cp_neS (hX : Cz k X) (ha : CE G X a ma) (hb : CE G X b mb) : CP G X a .NotEq b (PL.mBinS PL.opNeS ma mb) := cp_opS (fun S x y z e α δ pins s σ H v w u1 u2 I R q1 q2 r1 r2 => by
  obtain ⟨ho, rfl⟩ := if_inv e
  simp only [Bool.and_eq_true] at ho
  refine thn (op_neD (hu64 hX) pins s σ H v w u1 u2 (PoV X.K α δ σ H (.ok _ S)) I r1 r2 ⟨_, _, dp_rsv R ho.1 q1, dp_rsv R ho.2 q2, shaped_of ho.1, shaped_of ho.2, ?_⟩) fun u s' hu => PoE.ofV hu
  rw [eqv_of ho.1 ho.2]
  exact PoV.here R mk_bl) ha hb
/-- m['left'] != [] -/
theorem cp_lawNe (hX : Cz k X) (ha : CE G X a ma) : CP G X (.Subscript a (.Constant (.str "left") j p1) p2) .NotEq (.List [] p3) (PL.mLawNe ma) := ⟨fun δ S r h0 α pins s σ H I R tk => by
  refine fld_read (w := .non) hX ha I R h0 tk fun d S1 h1 => ?_
  split at h1
  · rename_i n c kk l hl
    cases h1
    obtain ⟨rfl, hn⟩ := lawOf_inv hl
    refine ⟨n, c, kk, l, rfl, hn, fun α1 dd cc o l' H1 x1 R1 e1 e2 e3 e4 => ⟨.ref l', val_left, fun u s1 I1 rv => ?_⟩⟩
    refine thn ((pe_lst (X := X) (pos := p3) pa_nil).run pins s1 σ H1 (fun w H2 => ∃ p, w = .ref p ∧ H1 p = none ∧ H2 = upd H1 p (.lst [])) I1 ⟨Nat.zero_le _, fun p hp => ⟨p, rfl, hp, rfl⟩⟩) fun u2 s2 hu2 => ?_
    obtain ⟨w, H2, I2, rw, p, e5, hp, e6⟩ := hu2
    subst e5 e6
    have hl2 : upd H1 p (.lst []) l' = some (.lst (l.map V.int)) := by rw [upd_ne (ne_of_none e4 hp)]; exact e4
    have x2 : Ext α1 H1 α1 (upd H1 p (.lst [])) := Ext.new hp trivial
    have R2 := R1.mono x2 (R1.st.new hp)
    have o1 : (PL.D.lst (l.map .int)).ok = true := by show PL.D.okN _ 60 = true; simp only [PL.D.okN]; exact ok_ints
    have o2 : (PL.D.lst []).ok = true := by decide
    refine thn (op_neD (hu64 hX) pins s2 σ (upd H1 p (.lst [])) (.ref l') (.ref p) u u2 (PoV X.K α1 δ σ (upd H1 p (.lst [])) (.ok (.bl (!l.isEmpty)) S1)) I2 rv rw ⟨toPy (.lst (l.map .int)), toPy (.lst []), ?_, ?_, shaped_of o1, shaped_of o2, ?_⟩) fun u3 s3 hu => (PoE.ofV hu).ext (x1.trans x2)
    · simp only [toPy]; exact .lst (SqL.of hl2) dpall_ints
    · simp only [toPy, toPys]; exact .lst (SqL.of upd_same) .nil
    · rw [eqv_of (n := 60) (k := 60) o1 o2]
      have : (!PL.eqD (.lst (l.map .int)) (.lst [])) = !l.isEmpty := by cases l <;> simp [PL.eqD, PL.eqDs]
      rw [this]
      exact PoV.here R2 mk_bl
  · cases h1⟩
theorem d_is' : OpD X (compareOp .Is) PL.opIs := d_is
/-- while True -/
theorem ct_true : CT G X (.Constant (.bool true) j pos) PL.mTrue := ⟨fun δ S r hm α pins s σ H I R tk => by
  cases hm
  have z := (c_bool (c_bl (G := G) (X := X) (i := true) (j := j) (pos := pos))).run δ S (.ok true S) rfl α pins s σ H I R trivial
  exact z⟩
end
end BR

set_option Elab.async false
set_option linter.all false
set_option maxRecDepth 100000
set_option maxHeartbeats 4000000
/-! the mirror of K01: printed by gen.py -/
namespace K01
open PL
/-- _law_begun(script) : script cell -/
def M__law_begun : MF := mFnR 1 1 (mRet (mNewLaw (mBI biList (mConsA (mVar 0) mNilA)) (mNewComp [1] (.name 1) (mItSeq (mVar 0)) (mB (mBin opGe (mBI biInt (mConsA (mVar 1) mNilA)) (mBin opPow (mC (.int 10)) (mC (.int 18))))) (mBI biInt (mConsA (mVar 1) mNilA)))))
/-- _law_next(m, many) : m many at cell blend rest -/
def M__law_next : MF := mFn 2 4 (mSeq (mIfS (mB (mLawNe (mVar 0))) (mSeq (mSet 5 (mLawL0 (mVar 0))) (mSeq (mLawSet0 (mVar 0) (mBin opDiv (mVar 5) (mVar 1))) (mSeq (mIfS (mB (mBin opEq (mLawL0 (mVar 0)) (mC (.int 0)))) (mLawTail 0) mPass) (mRet (mBin opMod (mVar 5) (mVar 1)))))) mPass) (mSeq (mSet 2 (mLawAt (mVar 0))) (mSeq (mLawSetAt (mVar 0) (mBin opAdd (mVar 2) (mC (.int 1)))) (mSeq (mSet 3 (mIf (mB (mBin opNe (mLawCells (mVar 0)) (mLst mNilA))) (mBinS opIx (mLawCells (mVar 0)) (mBin opMod (mVar 2) (mBI biLen (mConsA (mLawCells (mVar 0)) mNilA)))) (mC (.int 0)))) (mSeq (mSet 4 (mBin opMul (mBin opMod (mBI biInt (mConsA (mVar 3) mNilA)) (mC (.int 2147483629))) (mBin opAdd (mBin opMul (mC (.int 2)) (mVar 2)) (mC (.int 3))))) (mSeq (mSet 4 (mBin opMod (mBin opAdd (mBin opAdd (mBin opAdd (mVar 4) (mBin opMul (mBin opMul (mC (.int 7919)) (mVar 2)) (mVar 2))) (mBin opMul (mC (.int 104729)) (mVar 2))) (mC (.int 31))) (mC (.int 2147483647)))) (mRet (mBin opMod (mBin opDiv (mBin opMod (mBin opMul (mBin opMod (mBin opMul (mVar 4) (mVar 4)) (mC (.int 2147483629))) (mC (.int 48271))) (mC (.int 2147483647))) (mC (.int 13))) (mVar 1)))))))))
/-- _law_of(m, some) : m some -/
def M__law_of : MF := mFn 2 0 (mRet (mBinS opIx (mVar 1) (mCall M__law_next (mConsA (mVar 0) (mConsA (mBI biLen (mConsA (mVar 1) mNilA)) mNilA)))))
/-- _law_steps(m, letters, most) : m letters most found turn step -/
def L__law_steps_1 : MS := mFor (.name 4) (mItRange1 (mCall M__law_next (mConsA (mVar 0) (mConsA (mBin opAdd (mVar 2) (mC (.int 1))) mNilA)))) (mSeq (mSet 5 (mBin opMul (mBin opAdd (mC (.int 1)) (mCall M__law_next (mConsA (mVar 0) (mConsA (mVar 1) mNilA)))) (mCall M__law_of (mConsA (mVar 0) (mConsA (mLst (mConsA (mC (.int 1)) (mConsA (mUn opNeg (mC (.int 1))) mNilA))) mNilA))))) (mSeq (mIfS (mAndT (mB (mBinS opNeS (mVar 3) (mLst mNilA))) (mB (mBin opEq (mCall M__law_next (mConsA (mVar 0) (mConsA (mC (.int 4)) mNilA))) (mC (.int 0))))) (mSet 5 (mUn opNeg (mBinS opIx (mVar 3) (mUn opNeg (mC (.int 1)))))) mPass) (mDrop (mAppend (mVar 3) (mVar 5)))))
def M__law_steps : MF := mFn 3 3 (mSeq (mSet 3 (mNewLst mNilA)) (mSeq L__law_steps_1 (mRet (mBI biTuple (mConsA (mVar 3) mNilA)))))
/-- _law_put_in(m, letters, course) : m letters course turn at step -/
def L__law_put_in_1 : MS := mFor (.name 3) (mItRange1 (mBin opAdd (mC (.int 1)) (mCall M__law_next (mConsA (mVar 0) (mConsA (mC (.int 4)) mNilA))))) (mSeq (mPar 4 5 (mCall M__law_next (mConsA (mVar 0) (mConsA (mBin opAdd (mBI biLen (mConsA (mVar 2) mNilA)) (mC (.int 1))) mNilA))) (mBin opMul (mBin opAdd (mC (.int 1)) (mCall M__law_next (mConsA (mVar 0) (mConsA (mVar 1) mNilA)))) (mCall M__law_of (mConsA (mVar 0) (mConsA (mLst (mConsA (mC (.int 1)) (mConsA (mUn opNeg (mC (.int 1))) mNilA))) mNilA))))) (mSet 2 (mBin opAdd (mBin opAdd (mSlice (mVar 2) none (some (mVar 4))) (mTup (mConsA (mVar 5) (mConsA (mUn opNeg (mVar 5)) mNilA)))) (mSlice (mVar 2) (some (mVar 4)) none))))
def M__law_put_in : MF := mFn 3 3 (mSeq L__law_put_in_1 (mRet (mVar 2)))
/-- _law_plain(steps) : steps left at -/
def L__law_plain_1 : MS := mWhile (mB (mBin opGe (mVar 2) (mC (.int 0)))) (mSeq (mIfS (mAndT (mB (mBin opLt (mBin opAdd (mVar 2) (mC (.int 1))) (mBI biLen (mConsA (mVar 1) mNilA)))) (mB (mBin opEq (mBinS opIx (mVar 1) (mVar 2)) (mUn opNeg (mBinS opIx (mVar 1) (mBin opAdd (mVar 2) (mC (.int 1)))))))) (mSet 1 (mBin opAdd (mSlice (mVar 1) none (some (mVar 2))) (mSlice (mVar 1) (some (mBin opAdd (mVar 2) (mC (.int 2)))) none))) mPass) (mSet 2 (mBin opSub (mVar 2) (mC (.int 1)))))
def M__law_plain : MF := mFn 1 2 (mSeq (mPar 1 2 (mBI biList (mConsA (mVar 0) mNilA)) (mBin opSub (mBI biLen (mConsA (mVar 0) mNilA)) (mC (.int 2)))) (mSeq L__law_plain_1 (mRet (mBI biTuple (mConsA (mVar 1) mNilA)))))
/-- _law_any_way(m, course) : m course left spots at -/
def L__law_any_way_1 : MS := mWhile mTrue (mSeq (mSet 3 (mComp [4] (.name 4) (mItRange1 (mBin opSub (mBI biLen (mConsA (mVar 2) mNilA)) (mC (.int 1)))) (mB (mBin opEq (mBinS opIx (mVar 2) (mVar 4)) (mUn opNeg (mBinS opIx (mVar 2) (mBin opAdd (mVar 4) (mC (.int 1))))))) (mVar 4))) (mSeq (mIfS (mB (mBin opEq (mVar 3) (mLst mNilA))) (mRet (mVar 2)) mPass) (mSeq (mSet 4 (mCall M__law_of (mConsA (mVar 0) (mConsA (mVar 3) mNilA)))) (mSet 2 (mBin opAdd (mSlice (mVar 2) none (some (mVar 4))) (mSlice (mVar 2) (some (mBin opAdd (mVar 4) (mC (.int 2)))) none))))))
def M__law_any_way : MF := mFn 2 3 (mSeq (mSet 2 (mVar 1)) L__law_any_way_1)
/-- plain_of(steps) : steps found step -/
def L_plain_of_1 : MS := mFor (.name 2) (mItSeq (mVar 0)) (mIfS (mAndT (mB (mBinS opNeS (mVar 1) (mLst mNilA))) (mB (mBin opEq (mBinS opIx (mVar 1) (mUn opNeg (mC (.int 1)))) (mUn opNeg (mVar 2))))) (mDrop (mPop (mVar 1))) (mDrop (mAppend (mVar 1) (mVar 2))))
def M_plain_of : MF := mFn 1 2 (mSeq (mSet 1 (mNewLst mNilA)) (mSeq L_plain_of_1 (mRet (mBI biTuple (mConsA (mVar 1) mNilA)))))
/-- is_number(thing) : thing -/
def M_is_number : MF := mFn 1 0 (mRet (mAndV (mUn (opIsI isInt) (mVar 0)) (mNotV (mUn (opIsI isBool) (mVar 0)))))
/-- is_among(thing, least, most) : thing least most -/
def M_is_among : MF := mFn 3 0 (mRet (mAndV (mCall M_is_number (mConsA (mVar 0) mNilA)) (mChain opLe opLe (mVar 1) (mVar 0) (mVar 2))))
/-- need_letters(letters) : letters -/
def M_need_letters : MF := mFn 1 0 (mSeq (mIfS (mNotT (mB (mCall M_is_among (mConsA (mVar 0) (mConsA (mC (.int 1)) (mConsA (mC (.int 8)) mNilA)))))) mNever mPass) (mRet (mVar 0)))
/-- is_tuple_of(thing, least, most) : thing least most -/
def M_is_tuple_of : MF := mFn 3 0 (mRet (mAndV (mUn (opIsI isTuple) (mVar 0)) (mChain opLe opLe (mVar 1) (mBI biLen (mConsA (mVar 0) mNilA)) (mVar 2))))
/-- is_step(letters, thing) : letters thing -/
def M_is_step : MF := mFn 2 0 (mRet (mAndV (mCall M_is_number (mConsA (mVar 1) mNilA)) (mAndV (mBin opNe (mVar 1) (mC (.int 0))) (mChain opLe opLe (mUn opNeg (mVar 0)) (mVar 1) (mVar 0)))))
/-- need_course(letters, course) : letters course number step -/
def L_need_course_1 : MS := mFor (.tup [.name 2, .name 3]) (mItEnum (mVar 1)) (mIfS (mNotT (mB (mCall M_is_step (mConsA (mVar 0) (mConsA (mVar 3) mNilA))))) mNever mPass)
def M_need_course : MF := mFn 2 2 (mSeq (mDrop (mCall M_need_letters (mConsA (mVar 0) mNilA))) (mSeq (mIfS (mNotT (mB (mCall M_is_tuple_of (mConsA (mVar 1) (mConsA (mC (.int 0)) (mConsA (mC (.int 2000)) mNilA)))))) mNever mPass) (mSeq L_need_course_1 (mRet (mVar 1)))))
/-- plain_course(letters, course) : letters course -/
def M_plain_course : MF := mFn 2 0 (mRet (mCall M_plain_of (mConsA (mCall M_need_course (mConsA (mVar 0) (mConsA (mVar 1) mNilA))) mNilA)))
/-- is_plain(letters, course) : letters course -/
def M_is_plain : MF := mFn 2 0 (mRet (mBin opEq (mBI biLen (mConsA (mCall M_plain_of (mConsA (mCall M_need_course (mConsA (mVar 0) (mConsA (mVar 1) mNilA))) mNilA)) mNilA)) (mBI biLen (mConsA (mVar 1) mNilA))))
/-- _law_back(steps) : steps found step -/
def L__law_back_1 : MS := mFor (.name 2) (mItSeq (mVar 0)) (mSet 1 (mBin opAdd (mTup (mConsA (mUn opNeg (mVar 2)) mNilA)) (mVar 1)))
def M__law_back : MF := mFn 1 2 (mSeq (mSet 1 (mTup mNilA)) (mSeq L__law_back_1 (mRet (mVar 1))))
/-- are_alike(letters, one, other) : letters one other -/
def M_are_alike : MF := mFn 3 0 (mSeq (mDrop (mCall M_need_course (mConsA (mVar 0) (mConsA (mVar 1) mNilA)))) (mRet (mBin opEq (mCall M_plain_of (mConsA (mVar 1) mNilA)) (mCall M_plain_of (mConsA (mCall M_need_course (mConsA (mVar 0) (mConsA (mVar 2) mNilA))) mNilA)))))
/-- told_course(course) : course -/
def M_told_course : MF := mFn 1 0 (mSeq (mIfS (mB (mBin opGt (mBI biLen (mConsA (mVar 0) mNilA)) (mC (.int 2000)))) mNever mPass) (mRet (mVar 0)))
/-- behind_of(one, other) : one other shared -/
def L_behind_of_1 : MS := mWhile (mAndT (mB (mBin opLt (mVar 2) (mBI biMin (mConsA (mBI biLen (mConsA (mVar 0) mNilA)) (mConsA (mBI biLen (mConsA (mVar 1) mNilA)) mNilA))))) (mB (mBin opEq (mBinS opIx (mVar 0) (mBin opSub (mBin opSub (mBI biLen (mConsA (mVar 0) mNilA)) (mC (.int 1))) (mVar 2))) (mUn opNeg (mBinS opIx (mVar 1) (mVar 2)))))) (mSet 2 (mBin opAdd (mVar 2) (mC (.int 1))))
def M_behind_of : MF := mFn 2 1 (mSeq (mSet 2 (mC (.int 0))) (mSeq L_behind_of_1 (mRet (mBin opAdd (mSlice (mVar 0) none (some (mBin opSub (mBI biLen (mConsA (mVar 0) mNilA)) (mVar 2)))) (mSlice (mVar 1) (some (mVar 2)) none)))))
/-- behind(letters, one, other) : letters one other -/
def M_behind : MF := mFn 3 0 (mSeq (mDrop (mCall M_need_course (mConsA (mVar 0) (mConsA (mVar 1) mNilA)))) (mSeq (mDrop (mCall M_need_course (mConsA (mVar 0) (mConsA (mVar 2) mNilA)))) (mRet (mCall M_told_course (mConsA (mCall M_behind_of (mConsA (mCall M_plain_of (mConsA (mVar 1) mNilA)) (mConsA (mCall M_plain_of (mConsA (mVar 2) mNilA)) mNilA))) mNilA)))))
/-- back_of(steps) : steps step -/
def M_back_of : MF := mFn 1 1 (mRet (mBI biTuple (mConsA (mComp [1] (.name 1) (mItSeq (mUn opRev (mVar 0))) mTrue (mUn opNeg (mVar 1))) mNilA)))
/-- back(letters, course) : letters course -/
def M_back : MF := mFn 2 0 (mRet (mCall M_back_of (mConsA (mCall M_plain_of (mConsA (mCall M_need_course (mConsA (mVar 0) (mConsA (mVar 1) mNilA))) mNilA)) mNilA)))
/-- parted(steps) : steps shared -/
def L_parted_1 : MS := mWhile (mAndT (mB (mBin opLt (mBin opAdd (mBin opMul (mC (.int 2)) (mVar 1)) (mC (.int 1))) (mBI biLen (mConsA (mVar 0) mNilA)))) (mB (mBin opEq (mBinS opIx (mVar 0) (mVar 1)) (mUn opNeg (mBinS opIx (mVar 0) (mBin opSub (mBin opSub (mBI biLen (mConsA (mVar 0) mNilA)) (mC (.int 1))) (mVar 1))))))) (mSet 1 (mBin opAdd (mVar 1) (mC (.int 1))))
def M_parted : MF := mFn 1 1 (mSeq (mSet 1 (mC (.int 0))) (mSeq L_parted_1 (mRet (mTup (mConsA (mSlice (mVar 0) none (some (mVar 1))) (mConsA (mSlice (mVar 0) (some (mVar 1)) (some (mBin opSub (mBI biLen (mConsA (mVar 0) mNilA)) (mVar 1)))) mNilA))))))
/-- times_of(steps, many) : steps many handle ring -/
def M_times_of : MF := mFn 2 2 (mSeq (mAsg (.tup [.name 2, .name 3]) (mCall M_parted (mConsA (mVar 0) mNilA))) (mSeq (mIfS (mB (mBin opLt (mVar 1) (mC (.int 0)))) (mSet 3 (mCall M_back_of (mConsA (mVar 3) mNilA))) mPass) (mSeq (mIfS (mOrT (mB (mBin opEq (mVar 1) (mC (.int 0)))) (mB (mBin opEq (mVar 3) (mTup mNilA)))) (mRet (mTup mNilA)) mPass) (mSeq (mIfS (mB (mBin opGt (mBin opAdd (mBin opMul (mC (.int 2)) (mBI biLen (mConsA (mVar 2) mNilA))) (mBin opMul (mBI biLen (mConsA (mVar 3) mNilA)) (mBI biAbs (mConsA (mVar 1) mNilA)))) (mC (.int 2000)))) mNever mPass) (mRet (mBin opAdd (mBin opAdd (mVar 2) (mBin opMul (mVar 3) (mBI biAbs (mConsA (mVar 1) mNilA)))) (mCall M_back_of (mConsA (mVar 2) mNilA))))))))
/-- times(letters, course, many) : letters course many -/
def M_times : MF := mFn 3 0 (mSeq (mDrop (mCall M_need_course (mConsA (mVar 0) (mConsA (mVar 1) mNilA)))) (mSeq (mIfS (mNotT (mB (mCall M_is_among (mConsA (mVar 2) (mConsA (mUn opNeg (mC (.int 1000000000))) (mConsA (mC (.int 1000000000)) mNilA)))))) mNever mPass) (mRet (mCall M_times_of (mConsA (mCall M_plain_of (mConsA (mVar 1) mNilA)) (mConsA (mVar 2) mNilA))))))
/-- _law_many(steps, many) : steps many turn found one -/
def L__law_many_1 : MS := mFor (.name 2) (mItRange1 (mBI biAbs (mConsA (mVar 1) mNilA))) (mSet 3 (mCall M__law_plain (mConsA (mBin opAdd (mVar 3) (mVar 4)) mNilA)))
def M__law_many : MF := mFn 2 3 (mSeq (mPar 3 4 (mTup mNilA) (mIf (mB (mBin opGt (mVar 1) (mC (.int 0)))) (mVar 0) (mCall M__law_back (mConsA (mVar 0) mNilA)))) (mSeq L__law_many_1 (mRet (mVar 3))))
/-- key_of(steps) : steps step -/
def M_key_of : MF := mFn 1 1 (mRet (mTup (mConsA (mBI biLen (mConsA (mVar 0) mNilA)) (mConsA (mBI biTuple (mConsA (mComp [1] (.name 1) (mItSeq (mVar 0)) mTrue (mTup (mConsA (mBI biAbs (mConsA (mVar 1) mNilA)) (mConsA (mBin opLt (mVar 1) (mC (.int 0))) mNilA)))) mNilA)) mNilA))))
/-- is_before(letters, one, other) : letters one other -/
def M_is_before : MF := mFn 3 0 (mSeq (mDrop (mCall M_need_course (mConsA (mVar 0) (mConsA (mVar 1) mNilA)))) (mRet (mBin opLt (mCall M_key_of (mConsA (mVar 1) mNilA)) (mCall M_key_of (mConsA (mCall M_need_course (mConsA (mVar 0) (mConsA (mVar 2) mNilA))) mNilA)))))
/-- _law_key(steps) : steps step -/
def M__law_key : MF := mFn 1 1 (mRet (mTup (mConsA (mBI biLen (mConsA (mVar 0) mNilA)) (mConsA (mComp [1] (.name 1) (mItSeq (mVar 0)) mTrue (mBin opAdd (mBin opMul (mC (.int 2)) (mBI biAbs (mConsA (mVar 1) mNilA))) (mBI biInt (mConsA (mBin opLt (mVar 1) (mC (.int 0))) mNilA)))) mNilA))))
/-- law(script) : script m turn letters left thing many one other more kept -/
def L_law_1 (ω : D → List Nat) : MS := mFor (.name 5) (mItSeq (mTup (mConsA (mVar 9) (mConsA (mVar 8) (mConsA (mVar 4) (mConsA (mBin opAdd (mVar 7) (mTup (mConsA (mC (.int 1)) mNilA))) (mConsA (mCall M__law_back (mConsA (mVar 7) mNilA)) mNilA))))))) (mIfS (mB (mBin opNe (mBI (biRepr ω) (mConsA (mCall M_are_alike (mConsA (mVar 3) (mConsA (mVar 7) (mConsA (mVar 5) mNilA)))) mNilA)) (mBI (biRepr ω) (mConsA (mBin opEq (mVar 4) (mCall M__law_plain (mConsA (mVar 5) mNilA))) mNilA)))) (mRet (mC (.bl false))) mPass)
def L_law_2 : MS := mFor (.name 6) (mItSeq (mTup (mConsA (mC (.int 0)) (mConsA (mC (.int 1)) (mConsA (mUn opNeg (mC (.int 1))) (mConsA (mC (.int 2)) (mConsA (mBin opSub (mCall M__law_next (mConsA (mVar 1) (mConsA (mC (.int 7)) mNilA))) (mC (.int 3))) mNilA))))))) (mIfS (mB (mBin opNe (mCall M_times (mConsA (mVar 3) (mConsA (mVar 9) (mConsA (mVar 6) mNilA)))) (mCall M__law_many (mConsA (mVar 7) (mConsA (mVar 6) mNilA))))) (mRet (mC (.bl false))) mPass)
def L_law_3 (ω : D → List Nat) : MS := mFor (.name 5) (mItSeq (mTup (mConsA (mVar 8) (mConsA (mVar 4) (mConsA (mBin opAdd (mVar 7) (mTup (mConsA (mUn opNeg (mC (.int 1))) mNilA))) (mConsA (mSlice (mVar 7) none (some (mUn opNeg (mC (.int 1))))) (mConsA (mVar 7) mNilA))))))) (mIfS (mB (mBin opNe (mBI (biRepr ω) (mConsA (mCall M_is_before (mConsA (mVar 3) (mConsA (mVar 7) (mConsA (mVar 5) mNilA)))) mNilA)) (mBI (biRepr ω) (mConsA (mBin opLt (mCall M__law_key (mConsA (mVar 7) mNilA)) (mCall M__law_key (mConsA (mVar 5) mNilA))) mNilA)))) (mRet (mC (.bl false))) mPass)
def L_law_4 (ω : D → List Nat) : MS := mFor (.name 2) (mItRange1 (mBin opAdd (mC (.int 5)) (mBI biMin (mConsA (mBI biLen (mConsA (mVar 0) mNilA)) (mConsA (mC (.int 6)) mNilA))))) (mSeq (mSet 3 (mBin opAdd (mC (.int 1)) (mCall M__law_next (mConsA (mVar 1) (mConsA (mC (.int 8)) mNilA))))) (mSeq (mPar 7 8 (mCall M__law_steps (mConsA (mVar 1) (mConsA (mVar 3) (mConsA (mC (.int 24)) mNilA)))) (mCall M__law_steps (mConsA (mVar 1) (mConsA (mVar 3) (mConsA (mC (.int 12)) mNilA))))) (mSeq (mPar 9 10 (mCall M__law_put_in (mConsA (mVar 1) (mConsA (mVar 3) (mConsA (mVar 7) mNilA)))) (mBI (biRepr ω) (mConsA (mTup (mConsA (mVar 7) (mConsA (mVar 8) mNilA))) mNilA))) (mSeq (mSet 4 (mCall M__law_plain (mConsA (mVar 7) mNilA))) (mSeq (mIfS (mB (mBin opNe (mLst (mConsA (mCall M__law_any_way (mConsA (mVar 1) (mConsA (mVar 9) mNilA))) (mConsA (mCall M_plain_course (mConsA (mVar 3) (mConsA (mVar 9) mNilA))) (mConsA (mCall M_plain_course (mConsA (mVar 3) (mConsA (mVar 7) mNilA))) mNilA)))) (mBin opMul (mLst (mConsA (mVar 4) mNilA)) (mC (.int 3))))) (mRet (mC (.bl false))) mPass) (mSeq (mIfS (mOrT (mB (mBin opIsNot (mCall M_is_plain (mConsA (mVar 3) (mConsA (mVar 4) mNilA))) (mC (.bl true)))) (mB (mBin opIsNot (mCall M_is_plain (mConsA (mVar 3) (mConsA (mVar 9) mNilA))) (mC (.bl false))))) (mRet (mC (.bl false))) mPass) (mSeq (L_law_1 ω) (mSeq (mIfS (mOrT (mB (mBin opNe (mCall M_behind (mConsA (mVar 3) (mConsA (mVar 9) (mConsA (mVar 8) mNilA)))) (mCall M__law_plain (mConsA (mBin opAdd (mVar 7) (mVar 8)) mNilA)))) (mB (mBin opNe (mCall M_behind (mConsA (mVar 3) (mConsA (mVar 7) (mConsA (mTup mNilA) mNilA)))) (mVar 4)))) (mRet (mC (.bl false))) mPass) (mSeq (mIfS (mOrT (mB (mBin opNe (mCall M_back (mConsA (mVar 3) (mConsA (mVar 9) mNilA))) (mCall M__law_plain (mConsA (mCall M__law_back (mConsA (mVar 7) mNilA)) mNilA)))) (mB (mBin opNe (mCall M_behind (mConsA (mVar 3) (mConsA (mVar 9) (mConsA (mCall M_back (mConsA (mVar 3) (mConsA (mVar 7) mNilA))) mNilA)))) (mTup mNilA)))) (mRet (mC (.bl false))) mPass) (mSeq L_law_2 (mSeq (L_law_3 ω) (mIfS (mOrT (mB (mBin opNe (mCall M_times (mCatA (mConsA (mVar 3) mNilA) (mConsA (mVar 7) (mConsA (mC (.int 3)) mNilA)))) (mCall M__law_many (mConsA (mVar 7) (mConsA (mC (.int 3)) mNilA))))) (mB (mBin opNe (mBI (biRepr ω) (mConsA (mTup (mConsA (mVar 7) (mConsA (mVar 8) mNilA))) mNilA)) (mVar 10)))) (mRet (mC (.bl false))) mPass))))))))))))
def M_law (ω : D → List Nat) : MF := mFn 1 10 (mSeq (mSet 1 (mCall M__law_begun (mConsA (mVar 0) mNilA))) (mSeq (L_law_4 ω) (mSeq (mIfS (mOrT (mB (mCall M_are_alike (mConsA (mC (.int 2)) (mConsA (mBin opMul (mTup (mConsA (mC (.int 1)) mNilA)) (mC (.int 1500))) (mConsA (mBin opMul (mTup (mConsA (mC (.int 2)) mNilA)) (mC (.int 1500))) mNilA))))) (mNotT (mB (mCall M_are_alike (mConsA (mC (.int 2)) (mConsA (mBin opMul (mTup (mConsA (mC (.int 1)) (mConsA (mC (.int 2)) mNilA))) (mC (.int 900))) (mConsA (mBin opAdd (mBin opMul (mTup (mConsA (mC (.int 1)) (mConsA (mC (.int 2)) mNilA))) (mC (.int 900))) (mTup (mConsA (mC (.int 1)) (mConsA (mUn opNeg (mC (.int 1))) mNilA)))) mNilA))))))) (mRet (mC (.bl false))) mPass) (mRet (mAndV (mCall M_is_before (mConsA (mC (.int 2)) (mConsA (mBin opMul (mTup (mConsA (mC (.int 1)) mNilA)) (mC (.int 1999))) (mConsA (mBin opMul (mTup (mConsA (mC (.int 1)) mNilA)) (mC (.int 2000))) mNilA)))) (mNotV (mCall M_is_before (mConsA (mC (.int 2)) (mConsA (mBin opMul (mTup (mConsA (mC (.int 2)) mNilA)) (mC (.int 2000))) (mConsA (mBin opMul (mTup (mConsA (mC (.int 1)) mNilA)) (mC (.int 2000))) mNilA))))))))))
end K01

set_option Elab.async false
set_option linter.all false
set_option maxRecDepth 100000
set_option maxHeartbeats 4000000
/-! the walk of K01: printed by gen.py -/
namespace K01
open PySem PySem.Spec PyProof.Rows L2 PL BR
def topS (i : Nat) : Stmt := PySem.Challenge.pw_homecourses_k01_whole_plain_courses.main.body.getD i (.Pass ⟨0, 0, 0, 0⟩)
abbrev st31 : Stmt := topS 31
theorem sc31 : FnScope ["script", "cell"] ["script"] (defScope st31) := ⟨rfl, rfl, rfl, by decide +kernel, rfl, by decide +kernel, by decide +kernel⟩
abbrev st32 : Stmt := topS 32
theorem sc32 : FnScope ["m", "many", "at", "cell", "blend", "rest"] ["m", "many"] (defScope st32) := ⟨rfl, rfl, rfl, by decide +kernel, rfl, by decide +kernel, by decide +kernel⟩
abbrev st33 : Stmt := topS 33
theorem sc33 : FnScope ["m", "some"] ["m", "some"] (defScope st33) := ⟨rfl, rfl, rfl, by decide +kernel, rfl, by decide +kernel, by decide +kernel⟩
abbrev st34 : Stmt := topS 34
theorem sc34 : FnScope ["m", "letters", "most", "found", "turn", "step"] ["m", "letters", "most"] (defScope st34) := ⟨rfl, rfl, rfl, by decide +kernel, rfl, by decide +kernel, by decide +kernel⟩
abbrev st39 : Stmt := topS 39
theorem sc39 : FnScope ["m", "letters", "course", "turn", "at", "step"] ["m", "letters", "course"] (defScope st39) := ⟨rfl, rfl, rfl, by decide +kernel, rfl, by decide +kernel, by decide +kernel⟩
abbrev st35 : Stmt := topS 35
theorem sc35 : FnScope ["steps", "left", "at"] ["steps"] (defScope st35) := ⟨rfl, rfl, rfl, by decide +kernel, rfl, by decide +kernel, by decide +kernel⟩
abbrev st40 : Stmt := topS 40
theorem sc40 : FnScope ["m", "course", "left", "spots", "at"] ["m", "course"] (defScope st40) := ⟨rfl, rfl, rfl, by decide +kernel, rfl, by decide +kernel, by decide +kernel⟩
abbrev st16 : Stmt := topS 16
theorem sc16 : FnScope ["steps", "found", "step"] ["steps"] (defScope st16) := ⟨rfl, rfl, rfl, by decide +kernel, rfl, by decide +kernel, by decide +kernel⟩
abbrev st6 : Stmt := topS 6
theorem sc6 : FnScope ["thing"] ["thing"] (defScope st6) := ⟨rfl, rfl, rfl, by decide +kernel, rfl, by decide +kernel, by decide +kernel⟩
abbrev st7 : Stmt := topS 7
theorem sc7 : FnScope ["thing", "least", "most"] ["thing", "least", "most"] (defScope st7) := ⟨rfl, rfl, rfl, by decide +kernel, rfl, by decide +kernel, by decide +kernel⟩
abbrev st13 : Stmt := topS 13
theorem sc13 : FnScope ["letters"] ["letters"] (defScope st13) := ⟨rfl, rfl, rfl, by decide +kernel, rfl, by decide +kernel, by decide +kernel⟩
abbrev st8 : Stmt := topS 8
theorem sc8 : FnScope ["thing", "least", "most"] ["thing", "least", "most"] (defScope st8) := ⟨rfl, rfl, rfl, by decide +kernel, rfl, by decide +kernel, by decide +kernel⟩
abbrev st14 : Stmt := topS 14
theorem sc14 : FnScope ["letters", "thing"] ["letters", "thing"] (defScope st14) := ⟨rfl, rfl, rfl, by decide +kernel, rfl, by decide +kernel, by decide +kernel⟩
abbrev st15 : Stmt := topS 15
theorem sc15 : FnScope ["letters", "course", "number", "step"] ["letters", "course"] (defScope st15) := ⟨rfl, rfl, rfl, by decide +kernel, rfl, by decide +kernel, by decide +kernel⟩
abbrev st22 : Stmt := topS 22
theorem sc22 : FnScope ["letters", "course"] ["letters", "course"] (defScope st22) := ⟨rfl, rfl, rfl, by decide +kernel, rfl, by decide +kernel, by decide +kernel⟩
abbrev st21 : Stmt := topS 21
theorem sc21 : FnScope ["letters", "course"] ["letters", "course"] (defScope st21) := ⟨rfl, rfl, rfl, by decide +kernel, rfl, by decide +kernel, by decide +kernel⟩
abbrev st36 : Stmt := topS 36
theorem sc36 : FnScope ["steps", "found", "step"] ["steps"] (defScope st36) := ⟨rfl, rfl, rfl, by decide +kernel, rfl, by decide +kernel, by decide +kernel⟩
abbrev st23 : Stmt := topS 23
theorem sc23 : FnScope ["letters", "one", "other"] ["letters", "one", "other"] (defScope st23) := ⟨rfl, rfl, rfl, by decide +kernel, rfl, by decide +kernel, by decide +kernel⟩
abbrev st20 : Stmt := topS 20
theorem sc20 : FnScope ["course"] ["course"] (defScope st20) := ⟨rfl, rfl, rfl, by decide +kernel, rfl, by decide +kernel, by decide +kernel⟩
abbrev st18 : Stmt := topS 18
theorem sc18 : FnScope ["one", "other", "shared"] ["one", "other"] (defScope st18) := ⟨rfl, rfl, rfl, by decide +kernel, rfl, by decide +kernel, by decide +kernel⟩
abbrev st24 : Stmt := topS 24
theorem sc24 : FnScope ["letters", "one", "other"] ["letters", "one", "other"] (defScope st24) := ⟨rfl, rfl, rfl, by decide +kernel, rfl, by decide +kernel, by decide +kernel⟩
abbrev st17 : Stmt := topS 17
theorem sc17 : FnScope ["steps", "step"] ["steps"] (defScope st17) := ⟨rfl, rfl, rfl, by decide +kernel, rfl, by decide +kernel, by decide +kernel⟩
abbrev st25 : Stmt := topS 25
theorem sc25 : FnScope ["letters", "course"] ["letters", "course"] (defScope st25) := ⟨rfl, rfl, rfl, by decide +kernel, rfl, by decide +kernel, by decide +kernel⟩
abbrev st26 : Stmt := topS 26
theorem sc26 : FnScope ["steps", "shared"] ["steps"] (defScope st26) := ⟨rfl, rfl, rfl, by decide +kernel, rfl, by decide +kernel, by decide +kernel⟩
abbrev st27 : Stmt := topS 27
theorem sc27 : FnScope ["steps", "many", "handle", "ring"] ["steps", "many"] (defScope st27) := ⟨rfl, rfl, rfl, by decide +kernel, rfl, by decide +kernel, by decide +kernel⟩
abbrev st28 : Stmt := topS 28
theorem sc28 : FnScope ["letters", "course", "many"] ["letters", "course", "many"] (defScope st28) := ⟨rfl, rfl, rfl, by decide +kernel, rfl, by decide +kernel, by decide +kernel⟩
abbrev st38 : Stmt := topS 38
theorem sc38 : FnScope ["steps", "many", "turn", "found", "one"] ["steps", "many"] (defScope st38) := ⟨rfl, rfl, rfl, by decide +kernel, rfl, by decide +kernel, by decide +kernel⟩
abbrev st19 : Stmt := topS 19
theorem sc19 : FnScope ["steps", "step"] ["steps"] (defScope st19) := ⟨rfl, rfl, rfl, by decide +kernel, rfl, by decide +kernel, by decide +kernel⟩
abbrev st29 : Stmt := topS 29
theorem sc29 : FnScope ["letters", "one", "other"] ["letters", "one", "other"] (defScope st29) := ⟨rfl, rfl, rfl, by decide +kernel, rfl, by decide +kernel, by decide +kernel⟩
abbrev st37 : Stmt := topS 37
theorem sc37 : FnScope ["steps", "step"] ["steps"] (defScope st37) := ⟨rfl, rfl, rfl, by decide +kernel, rfl, by decide +kernel, by decide +kernel⟩
abbrev st41 : Stmt := topS 41
theorem sc41 : FnScope ["script", "m", "turn", "letters", "left", "thing", "many", "one", "other", "more", "kept"] ["script"] (defScope st41) := ⟨rfl, rfl, rfl, by decide +kernel, rfl, by decide +kernel, by decide +kernel⟩
/-- what the module has: its defs, its constants, the names that it has not -/
structure Wt (K : PySem.W.Frag) (mg : Str → Option Value) : Type where
  f31 : Addr
  fd31 : FuncData
  F31 : Fun K "_law_begun" "_law_begun" st31 f31 fd31
  g31 : mg "_law_begun" = some (.ref f31)
  f32 : Addr
  fd32 : FuncData
  F32 : Fun K "_law_next" "_law_next" st32 f32 fd32
  g32 : mg "_law_next" = some (.ref f32)
  f33 : Addr
  fd33 : FuncData
  F33 : Fun K "_law_of" "_law_of" st33 f33 fd33
  g33 : mg "_law_of" = some (.ref f33)
  f34 : Addr
  fd34 : FuncData
  F34 : Fun K "_law_steps" "_law_steps" st34 f34 fd34
  g34 : mg "_law_steps" = some (.ref f34)
  f39 : Addr
  fd39 : FuncData
  F39 : Fun K "_law_put_in" "_law_put_in" st39 f39 fd39
  g39 : mg "_law_put_in" = some (.ref f39)
  f35 : Addr
  fd35 : FuncData
  F35 : Fun K "_law_plain" "_law_plain" st35 f35 fd35
  g35 : mg "_law_plain" = some (.ref f35)
  f40 : Addr
  fd40 : FuncData
  F40 : Fun K "_law_any_way" "_law_any_way" st40 f40 fd40
  g40 : mg "_law_any_way" = some (.ref f40)
  f16 : Addr
  fd16 : FuncData
  F16 : Fun K "plain_of" "plain_of" st16 f16 fd16
  g16 : mg "plain_of" = some (.ref f16)
  f6 : Addr
  fd6 : FuncData
  F6 : Fun K "is_number" "is_number" st6 f6 fd6
  g6 : mg "is_number" = some (.ref f6)
  f7 : Addr
  fd7 : FuncData
  F7 : Fun K "is_among" "is_among" st7 f7 fd7
  g7 : mg "is_among" = some (.ref f7)
  f13 : Addr
  fd13 : FuncData
  F13 : Fun K "need_letters" "need_letters" st13 f13 fd13
  g13 : mg "need_letters" = some (.ref f13)
  f8 : Addr
  fd8 : FuncData
  F8 : Fun K "is_tuple_of" "is_tuple_of" st8 f8 fd8
  g8 : mg "is_tuple_of" = some (.ref f8)
  f14 : Addr
  fd14 : FuncData
  F14 : Fun K "is_step" "is_step" st14 f14 fd14
  g14 : mg "is_step" = some (.ref f14)
  f15 : Addr
  fd15 : FuncData
  F15 : Fun K "need_course" "need_course" st15 f15 fd15
  g15 : mg "need_course" = some (.ref f15)
  f22 : Addr
  fd22 : FuncData
  F22 : Fun K "plain_course" "plain_course" st22 f22 fd22
  g22 : mg "plain_course" = some (.ref f22)
  f21 : Addr
  fd21 : FuncData
  F21 : Fun K "is_plain" "is_plain" st21 f21 fd21
  g21 : mg "is_plain" = some (.ref f21)
  f36 : Addr
  fd36 : FuncData
  F36 : Fun K "_law_back" "_law_back" st36 f36 fd36
  g36 : mg "_law_back" = some (.ref f36)
  f23 : Addr
  fd23 : FuncData
  F23 : Fun K "are_alike" "are_alike" st23 f23 fd23
  g23 : mg "are_alike" = some (.ref f23)
  f20 : Addr
  fd20 : FuncData
  F20 : Fun K "told_course" "told_course" st20 f20 fd20
  g20 : mg "told_course" = some (.ref f20)
  f18 : Addr
  fd18 : FuncData
  F18 : Fun K "behind_of" "behind_of" st18 f18 fd18
  g18 : mg "behind_of" = some (.ref f18)
  f24 : Addr
  fd24 : FuncData
  F24 : Fun K "behind" "behind" st24 f24 fd24
  g24 : mg "behind" = some (.ref f24)
  f17 : Addr
  fd17 : FuncData
  F17 : Fun K "back_of" "back_of" st17 f17 fd17
  g17 : mg "back_of" = some (.ref f17)
  f25 : Addr
  fd25 : FuncData
  F25 : Fun K "back" "back" st25 f25 fd25
  g25 : mg "back" = some (.ref f25)
  f26 : Addr
  fd26 : FuncData
  F26 : Fun K "parted" "parted" st26 f26 fd26
  g26 : mg "parted" = some (.ref f26)
  f27 : Addr
  fd27 : FuncData
  F27 : Fun K "times_of" "times_of" st27 f27 fd27
  g27 : mg "times_of" = some (.ref f27)
  f28 : Addr
  fd28 : FuncData
  F28 : Fun K "times" "times" st28 f28 fd28
  g28 : mg "times" = some (.ref f28)
  f38 : Addr
  fd38 : FuncData
  F38 : Fun K "_law_many" "_law_many" st38 f38 fd38
  g38 : mg "_law_many" = some (.ref f38)
  f19 : Addr
  fd19 : FuncData
  F19 : Fun K "key_of" "key_of" st19 f19 fd19
  g19 : mg "key_of" = some (.ref f19)
  f29 : Addr
  fd29 : FuncData
  F29 : Fun K "is_before" "is_before" st29 f29 fd29
  g29 : mg "is_before" = some (.ref f29)
  f37 : Addr
  fd37 : FuncData
  F37 : Fun K "_law_key" "_law_key" st37 f37 fd37
  g37 : mg "_law_key" = some (.ref f37)
  f41 : Addr
  fd41 : FuncData
  F41 : Fun K "law" "law" st41 f41 fd41
  g41 : mg "law" = some (.ref f41)
  t_MOST_LETTERS : Tok
  g_MOST_LETTERS : mg "MOST_LETTERS" = some (.int 8 t_MOST_LETTERS)
  t_MOST_STEPS : Tok
  g_MOST_STEPS : mg "MOST_STEPS" = some (.int 2000 t_MOST_STEPS)
  t_MOST_TIMES : Tok
  g_MOST_TIMES : mg "MOST_TIMES" = some (.int 1000000000 t_MOST_TIMES)
  z_list : mg "list" = none
  z_int : mg "int" = none
  z_len : mg "len" = none
  z_min : mg "min" = none
  z_range : mg "range" = none
  z_tuple : mg "tuple" = none
  z_repr : mg "repr" = none
  z_isinstance : mg "isinstance" = none
  z_bool : mg "bool" = none
  z_enumerate : mg "enumerate" = none
  z_abs : mg "abs" = none
section
variable {G : EX} {P : Program} {w : World} {K : PySem.W.Frag} {mg : Str → Option Value} {base : Heap} (W : Wt K mg)
theorem Wt.b31 : Binds K W.fd31 ["script"] [] := W.F31.binds (ps := ["script"]) fun _ _ _ _ _ _ us hl => match us, hl with | [_], _ => rfl
theorem Wt.b32 : Binds K W.fd32 ["m", "many"] [] := W.F32.binds (ps := ["m", "many"]) fun _ _ _ _ _ _ us hl => match us, hl with | [_, _], _ => rfl
theorem Wt.b33 : Binds K W.fd33 ["m", "some"] [] := W.F33.binds (ps := ["m", "some"]) fun _ _ _ _ _ _ us hl => match us, hl with | [_, _], _ => rfl
theorem Wt.b34 : Binds K W.fd34 ["m", "letters", "most"] [] := W.F34.binds (ps := ["m", "letters", "most"]) fun _ _ _ _ _ _ us hl => match us, hl with | [_, _, _], _ => rfl
theorem Wt.b39 : Binds K W.fd39 ["m", "letters", "course"] [] := W.F39.binds (ps := ["m", "letters", "course"]) fun _ _ _ _ _ _ us hl => match us, hl with | [_, _, _], _ => rfl
theorem Wt.b35 : Binds K W.fd35 ["steps"] [] := W.F35.binds (ps := ["steps"]) fun _ _ _ _ _ _ us hl => match us, hl with | [_], _ => rfl
theorem Wt.b40 : Binds K W.fd40 ["m", "course"] [] := W.F40.binds (ps := ["m", "course"]) fun _ _ _ _ _ _ us hl => match us, hl with | [_, _], _ => rfl
theorem Wt.b16 : Binds K W.fd16 ["steps"] [] := W.F16.binds (ps := ["steps"]) fun _ _ _ _ _ _ us hl => match us, hl with | [_], _ => rfl
theorem Wt.b6 : Binds K W.fd6 ["thing"] [] := W.F6.binds (ps := ["thing"]) fun _ _ _ _ _ _ us hl => match us, hl with | [_], _ => rfl
theorem Wt.b7 : Binds K W.fd7 ["thing", "least", "most"] [] := W.F7.binds (ps := ["thing", "least", "most"]) fun _ _ _ _ _ _ us hl => match us, hl with | [_, _, _], _ => rfl
theorem Wt.b13 : Binds K W.fd13 ["letters"] [] := W.F13.binds (ps := ["letters"]) fun _ _ _ _ _ _ us hl => match us, hl with | [_], _ => rfl
theorem Wt.b8 : Binds K W.fd8 ["thing", "least", "most"] [] := W.F8.binds (ps := ["thing", "least", "most"]) fun _ _ _ _ _ _ us hl => match us, hl with | [_, _, _], _ => rfl
theorem Wt.b14 : Binds K W.fd14 ["letters", "thing"] [] := W.F14.binds (ps := ["letters", "thing"]) fun _ _ _ _ _ _ us hl => match us, hl with | [_, _], _ => rfl
theorem Wt.b15 : Binds K W.fd15 ["letters", "course"] [] := W.F15.binds (ps := ["letters", "course"]) fun _ _ _ _ _ _ us hl => match us, hl with | [_, _], _ => rfl
theorem Wt.b22 : Binds K W.fd22 ["letters", "course"] [] := W.F22.binds (ps := ["letters", "course"]) fun _ _ _ _ _ _ us hl => match us, hl with | [_, _], _ => rfl
theorem Wt.b21 : Binds K W.fd21 ["letters", "course"] [] := W.F21.binds (ps := ["letters", "course"]) fun _ _ _ _ _ _ us hl => match us, hl with | [_, _], _ => rfl
theorem Wt.b36 : Binds K W.fd36 ["steps"] [] := W.F36.binds (ps := ["steps"]) fun _ _ _ _ _ _ us hl => match us, hl with | [_], _ => rfl
theorem Wt.b23 : Binds K W.fd23 ["letters", "one", "other"] [] := W.F23.binds (ps := ["letters", "one", "other"]) fun _ _ _ _ _ _ us hl => match us, hl with | [_, _, _], _ => rfl
theorem Wt.b20 : Binds K W.fd20 ["course"] [] := W.F20.binds (ps := ["course"]) fun _ _ _ _ _ _ us hl => match us, hl with | [_], _ => rfl
theorem Wt.b18 : Binds K W.fd18 ["one", "other"] [] := W.F18.binds (ps := ["one", "other"]) fun _ _ _ _ _ _ us hl => match us, hl with | [_, _], _ => rfl
theorem Wt.b24 : Binds K W.fd24 ["letters", "one", "other"] [] := W.F24.binds (ps := ["letters", "one", "other"]) fun _ _ _ _ _ _ us hl => match us, hl with | [_, _, _], _ => rfl
theorem Wt.b17 : Binds K W.fd17 ["steps"] [] := W.F17.binds (ps := ["steps"]) fun _ _ _ _ _ _ us hl => match us, hl with | [_], _ => rfl
theorem Wt.b25 : Binds K W.fd25 ["letters", "course"] [] := W.F25.binds (ps := ["letters", "course"]) fun _ _ _ _ _ _ us hl => match us, hl with | [_, _], _ => rfl
theorem Wt.b26 : Binds K W.fd26 ["steps"] [] := W.F26.binds (ps := ["steps"]) fun _ _ _ _ _ _ us hl => match us, hl with | [_], _ => rfl
theorem Wt.b27 : Binds K W.fd27 ["steps", "many"] [] := W.F27.binds (ps := ["steps", "many"]) fun _ _ _ _ _ _ us hl => match us, hl with | [_, _], _ => rfl
theorem Wt.b28 : Binds K W.fd28 ["letters", "course", "many"] [] := W.F28.binds (ps := ["letters", "course", "many"]) fun _ _ _ _ _ _ us hl => match us, hl with | [_, _, _], _ => rfl
theorem Wt.b38 : Binds K W.fd38 ["steps", "many"] [] := W.F38.binds (ps := ["steps", "many"]) fun _ _ _ _ _ _ us hl => match us, hl with | [_, _], _ => rfl
theorem Wt.b19 : Binds K W.fd19 ["steps"] [] := W.F19.binds (ps := ["steps"]) fun _ _ _ _ _ _ us hl => match us, hl with | [_], _ => rfl
theorem Wt.b29 : Binds K W.fd29 ["letters", "one", "other"] [] := W.F29.binds (ps := ["letters", "one", "other"]) fun _ _ _ _ _ _ us hl => match us, hl with | [_, _, _], _ => rfl
theorem Wt.b37 : Binds K W.fd37 ["steps"] [] := W.F37.binds (ps := ["steps"]) fun _ _ _ _ _ _ us hl => match us, hl with | [_], _ => rfl
theorem Wt.b41 : Binds K W.fd41 ["script"] [] := W.F41.binds (ps := ["script"]) fun _ _ _ _ _ _ us hl => match us, hl with | [_], _ => rfl
theorem kb_times_1 (s : Shared) (us ws : List Value) (_ : K.In s.heap) (hk : ws.length = 2) (hl : us.length + ws.length = 3) : BindsTo s W.fd28 ⟨us, (["course", "many"] : List Str).zip ws⟩ ((["letters", "course", "many"] : List Str).zip (us ++ ws)) := by
  obtain ⟨oc, od, kV, doc, pm, an, cdv, ct, osl, e, _, _⟩ := W.F28.ex
  rw [e]
  exact match us, ws, hk, (by omega : us.length = 1) with | [_], [_, _], _, _ => .of_eq rfl
theorem w__law_begun : FnC G P w K mg base 1 W.f31 W.fd31 ["script"] (M__law_begun) := fncR W.F31 sc31 rfl rfl fun cdv A outer s H E hX =>
  css_one (cs_ret (c_newLaw hX (c_callTy b_list W.z_list (by decide +kernel) (ca_cons (c_var 0) ca_nil)) (c_newComp hX (ci_seq (c_var 0)) (own := [("cell", 1)]) (blkOk_by (N := ["script", "cell"]) (sc := defScope st31) (by decide +kernel)) rfl (by decide) (fun Y hX hN q => by obtain ⟨s, H, C, cl, fp, q⟩ := q; subst q; exact cg_name hX 1) (fun Y hX hN q => by obtain ⟨s, H, C, cl, fp, q⟩ := q; subst q; exact cts_one (CP.t (cp_op d_ge (c_callTy b_int W.z_int (by decide +kernel) (ca_cons (c_var 1) ca_nil)) (c_bin d_pow c_int c_int)))) (fun Y hX hN q => by obtain ⟨s, H, C, cl, fp, q⟩ := q; subst q; exact c_callTy b_int W.z_int (by decide +kernel) (ca_cons (c_var 1) ca_nil)))))
theorem w__law_next : FnC G P w K mg base 1 W.f32 W.fd32 ["m", "many"] (M__law_next) := fnc W.F32 sc32 rfl rfl fun cdv A outer s H E hX =>
  css_cons (cs_if (CP.t (cp_lawNe hX (c_var 0))) (css_cons (cs_set hX 5 (c_lawL0 hX (c_var 0)))
    (css_cons (cs_lawSet0 hX (c_var 0) (c_bin d_div (c_var 5) (c_var 1)))
    (css_cons (cs_if (CP.t (cp_op (d_eq hX) (c_lawL0 hX (c_var 0)) c_int)) (css_one (cs_lawTail hX 0)) css_nil)
    (css_one (cs_ret (c_bin d_mod (c_var 5) (c_var 1))))))) css_nil)
    (css_cons (cs_set hX 2 (c_lawAt hX (c_var 0)))
    (css_cons (cs_lawSetAt hX (c_var 0) (c_bin d_add (c_var 2) c_int))
    (css_cons (cs_set hX 3 (c_ifExp (CP.t (cp_op (d_ne hX) (c_lawCells hX (c_var 0)) (c_lst ca_nil))) (c_ix (c_lawCells hX (c_var 0)) (c_bin d_mod (c_var 2) (c_callB b_len W.z_len (by decide +kernel) (ca_cons (c_lawCells hX (c_var 0)) ca_nil)))) c_int))
    (css_cons (cs_set hX 4 (c_bin d_mul (c_bin d_mod (c_callTy b_int W.z_int (by decide +kernel) (ca_cons (c_var 3) ca_nil)) c_int) (c_bin d_add (c_bin d_mul c_int (c_var 2)) c_int)))
    (css_cons (cs_set hX 4 (c_bin d_mod (c_bin d_add (c_bin d_add (c_bin d_add (c_var 4) (c_bin d_mul (c_bin d_mul c_int (c_var 2)) (c_var 2))) (c_bin d_mul c_int (c_var 2))) c_int) c_int))
    (css_one (cs_ret (c_bin d_mod (c_bin d_div (c_bin d_mod (c_bin d_mul (c_bin d_mod (c_bin d_mul (c_var 4) (c_var 4)) c_int) c_int) c_int) c_int) (c_var 1)))))))))
theorem w__law_of : FnC G P w K mg base 2 W.f33 W.fd33 ["m", "some"] (M__law_of) := fnc W.F33 sc33 rfl rfl fun cdv A outer s H E hX =>
  css_one (cs_ret (c_ix (c_var 1) (c_call ((w__law_next W).mono (by decide)) hX W.g32 W.F32.kp W.b32 (ca_cons (c_var 0) (ca_cons (c_callB b_len W.z_len (by decide +kernel) (ca_cons (c_var 1) ca_nil)) ca_nil)))))
theorem w__law_steps : FnC G P w K mg base 3 W.f34 W.fd34 ["m", "letters", "most"] (M__law_steps) := fnc W.F34 sc34 rfl rfl fun cdv A outer s H E hX =>
  css_cons (cs_set hX 3 (c_newlst ca_nil))
    (css_cons (cs_for hX (ci_range1 W.z_range (ca_cons (c_call ((w__law_next W).mono (by decide)) hX W.g32 W.F32.kp W.b32 (ca_cons (c_var 0) (ca_cons (c_bin d_add (c_var 2) c_int) ca_nil))) ca_nil)) (cg_name hX 4) (css_cons (cs_set hX 5 (c_bin d_mul (c_bin d_add c_int (c_call ((w__law_next W).mono (by decide)) hX W.g32 W.F32.kp W.b32 (ca_cons (c_var 0) (ca_cons (c_var 1) ca_nil)))) (c_call ((w__law_of W).mono (by decide)) hX W.g33 W.F33.kp W.b33 (ca_cons (c_var 0) (ca_cons (c_lst (ca_cons c_int (ca_cons (c_un d_neg c_int) ca_nil))) ca_nil)))))
    (css_cons (cs_if (CW.ct (cw_and (CP.t (cp_neS hX (c_var 3) (c_lst ca_nil))) (cw_and1 (CP.t (cp_op (d_eq hX) (c_call ((w__law_next W).mono (by decide)) hX W.g32 W.F32.kp W.b32 (ca_cons (c_var 0) (ca_cons c_int ca_nil))) c_int))))) (css_one (cs_set hX 5 (c_un d_neg (c_ix (c_var 3) (c_un d_neg c_int))))) css_nil)
    (css_one (cs_drop (c_append (c_var 3) (c_var 5)))))))
    (css_one (cs_ret (c_callTy b_tuple W.z_tuple (by decide +kernel) (ca_cons (c_var 3) ca_nil)))))
theorem w__law_put_in : FnC G P w K mg base 3 W.f39 W.fd39 ["m", "letters", "course"] (M__law_put_in) := fnc W.F39 sc39 rfl rfl fun cdv A outer s H E hX =>
  css_cons (cs_for hX (ci_range1 W.z_range (ca_cons (c_bin d_add c_int (c_call ((w__law_next W).mono (by decide)) hX W.g32 W.F32.kp W.b32 (ca_cons (c_var 0) (ca_cons c_int ca_nil)))) ca_nil)) (cg_name hX 3) (css_cons (cs_par hX 4 5 (ca_cons (c_call ((w__law_next W).mono (by decide)) hX W.g32 W.F32.kp W.b32 (ca_cons (c_var 0) (ca_cons (c_bin d_add (c_callB b_len W.z_len (by decide +kernel) (ca_cons (c_var 2) ca_nil)) c_int) ca_nil))) (ca_cons (c_bin d_mul (c_bin d_add c_int (c_call ((w__law_next W).mono (by decide)) hX W.g32 W.F32.kp W.b32 (ca_cons (c_var 0) (ca_cons (c_var 1) ca_nil)))) (c_call ((w__law_of W).mono (by decide)) hX W.g33 W.F33.kp W.b33 (ca_cons (c_var 0) (ca_cons (c_lst (ca_cons c_int (ca_cons (c_un d_neg c_int) ca_nil))) ca_nil)))) ca_nil)))
    (css_one (cs_set hX 2 (c_bin d_add (c_bin d_add (c_slice (c_var 2) trivial (c_var 4)) (c_tup (ca_cons (c_var 5) (ca_cons (c_un d_neg (c_var 5)) ca_nil)))) (c_slice (c_var 2) (c_var 4) trivial))))))
    (css_one (cs_ret (c_var 2)))
theorem w__law_plain : FnC G P w K mg base 1 W.f35 W.fd35 ["steps"] (M__law_plain) := fnc W.F35 sc35 rfl rfl fun cdv A outer s H E hX =>
  css_cons (cs_par hX 1 2 (ca_cons (c_callTy b_list W.z_list (by decide +kernel) (ca_cons (c_var 0) ca_nil)) (ca_cons (c_bin d_sub (c_callB b_len W.z_len (by decide +kernel) (ca_cons (c_var 0) ca_nil)) c_int) ca_nil)))
    (css_cons (cs_while hX (CP.t (cp_op d_ge (c_var 2) c_int)) (css_cons (cs_if (CW.ct (cw_and (CP.t (cp_op (d_lt hX) (c_bin d_add (c_var 2) c_int) (c_callB b_len W.z_len (by decide +kernel) (ca_cons (c_var 1) ca_nil)))) (cw_and1 (CP.t (cp_op (d_eq hX) (c_ix (c_var 1) (c_var 2)) (c_un d_neg (c_ix (c_var 1) (c_bin d_add (c_var 2) c_int)))))))) (css_one (cs_set hX 1 (c_bin d_add (c_slice (c_var 1) trivial (c_var 2)) (c_slice (c_var 1) (c_bin d_add (c_var 2) c_int) trivial)))) css_nil)
    (css_one (cs_set hX 2 (c_bin d_sub (c_var 2) c_int)))))
    (css_one (cs_ret (c_callTy b_tuple W.z_tuple (by decide +kernel) (ca_cons (c_var 1) ca_nil)))))
theorem w__law_any_way : FnC G P w K mg base 3 W.f40 W.fd40 ["m", "course"] (M__law_any_way) := fnc W.F40 sc40 rfl rfl fun cdv A outer s H E hX =>
  css_cons (cs_set hX 2 (c_var 1))
    (css_one (cs_while hX ct_true (css_cons (cs_setComp hX 3 (ci_range1 W.z_range (ca_cons (c_bin d_sub (c_callB b_len W.z_len (by decide +kernel) (ca_cons (c_var 2) ca_nil)) c_int) ca_nil)) (own := [("at", 4)]) (blkOk_by (N := ["m", "course", "left", "spots", "at"]) (sc := defScope st40) (by decide +kernel)) rfl (by decide) (fun Y hX hN q => by obtain ⟨s, H, C, cl, fp, q⟩ := q; subst q; exact cg_name hX 4) (fun Y hX hN q => by obtain ⟨s, H, C, cl, fp, q⟩ := q; subst q; exact cts_one (CP.t (cp_op (d_eq hX) (c_ix (c_var 2) (c_var 4)) (c_un d_neg (c_ix (c_var 2) (c_bin d_add (c_var 4) c_int)))))) (fun Y hX hN q => by obtain ⟨s, H, C, cl, fp, q⟩ := q; subst q; exact c_var 4) (sw_true rfl rfl rfl rfl))
    (css_cons (cs_if (CP.t (cp_op (d_eq hX) (c_var 3) (c_lst ca_nil))) (css_one (cs_ret (c_var 2))) css_nil)
    (css_cons (cs_set hX 4 (c_call ((w__law_of W).mono (by decide)) hX W.g33 W.F33.kp W.b33 (ca_cons (c_var 0) (ca_cons (c_var 3) ca_nil))))
    (css_one (cs_set hX 2 (c_bin d_add (c_slice (c_var 2) trivial (c_var 4)) (c_slice (c_var 2) (c_bin d_add (c_var 4) c_int) trivial)))))))))
theorem w_plain_of : FnC G P w K mg base 1 W.f16 W.fd16 ["steps"] (M_plain_of) := fnc W.F16 sc16 rfl rfl fun cdv A outer s H E hX =>
  css_cons (cs_set hX 1 (c_newlst ca_nil))
    (css_cons (cs_for hX (ci_seq (c_var 0)) (cg_name hX 2) (css_one (cs_if (CW.ct (cw_and (CP.t (cp_neS hX (c_var 1) (c_lst ca_nil))) (cw_and1 (CP.t (cp_op (d_eq hX) (c_ix (c_var 1) (c_un d_neg c_int)) (c_un d_neg (c_var 2))))))) (css_one (cs_drop (c_pop (c_var 1)))) (css_one (cs_drop (c_append (c_var 1) (c_var 2)))))))
    (css_one (cs_ret (c_callTy b_tuple W.z_tuple (by decide +kernel) (ca_cons (c_var 1) ca_nil)))))
theorem w_is_number : FnC G P w K mg base 1 W.f6 W.fd6 ["thing"] (M_is_number) := fnc W.F6 sc6 rfl rfl fun cdv A outer s H E hX =>
  css_one (cs_ret (c_andV (c_isi W.z_isinstance W.z_int (by decide +kernel) k_int (c_var 0)) (c_one (c_notV (c_isi W.z_isinstance W.z_bool (by decide +kernel) k_bool (c_var 0))))))
theorem w_is_among : FnC G P w K mg base 2 W.f7 W.fd7 ["thing", "least", "most"] (M_is_among) := fnc W.F7 sc7 rfl rfl fun cdv A outer s H E hX =>
  css_one (cs_ret (c_andV (c_call ((w_is_number W).mono (by decide)) hX W.g6 W.F6.kp W.b6 (ca_cons (c_var 0) ca_nil)) (c_one (c_chain d_le d_le (c_var 1) (c_var 0) (c_var 2)))))
theorem w_need_letters : FnC G P w K mg base 3 W.f13 W.fd13 ["letters"] (M_need_letters) := fnc W.F13 sc13 rfl rfl fun cdv A outer s H E hX =>
  css_cons (cs_if (c_notT (c_bool (c_call ((w_is_among W).mono (by decide)) hX W.g7 W.F7.kp W.b7 (ca_cons (c_var 0) (ca_cons c_int (ca_cons (c_globI W.g_MOST_LETTERS) ca_nil)))))) css_never css_nil)
    (css_one (cs_ret (c_var 0)))
theorem w_is_tuple_of : FnC G P w K mg base 1 W.f8 W.fd8 ["thing", "least", "most"] (M_is_tuple_of) := fnc W.F8 sc8 rfl rfl fun cdv A outer s H E hX =>
  css_one (cs_ret (c_andV (c_isi W.z_isinstance W.z_tuple (by decide +kernel) k_tuple (c_var 0)) (c_one (c_chain d_le d_le (c_var 1) (c_callB b_len W.z_len (by decide +kernel) (ca_cons (c_var 0) ca_nil)) (c_var 2)))))
theorem w_is_step : FnC G P w K mg base 2 W.f14 W.fd14 ["letters", "thing"] (M_is_step) := fnc W.F14 sc14 rfl rfl fun cdv A outer s H E hX =>
  css_one (cs_ret (c_andV (c_call ((w_is_number W).mono (by decide)) hX W.g6 W.F6.kp W.b6 (ca_cons (c_var 1) ca_nil)) (c_andV (CP.e (cp_op (d_ne hX) (c_var 1) c_int)) (c_one (c_chain d_le d_le (c_un d_neg (c_var 0)) (c_var 1) (c_var 0))))))
theorem w_need_course : FnC G P w K mg base 4 W.f15 W.fd15 ["letters", "course"] (M_need_course) := fnc W.F15 sc15 rfl rfl fun cdv A outer s H E hX =>
  css_cons (cs_drop (c_call ((w_need_letters W).mono (by decide)) hX W.g13 W.F13.kp W.b13 (ca_cons (c_var 0) ca_nil)))
    (css_cons (cs_if (c_notT (c_bool (c_call ((w_is_tuple_of W).mono (by decide)) hX W.g8 W.F8.kp W.b8 (ca_cons (c_var 1) (ca_cons c_int (ca_cons (c_globI W.g_MOST_STEPS) ca_nil)))))) css_never css_nil)
    (css_cons (cs_for hX (ci_enum hX W.z_enumerate (ca_cons (c_var 1) ca_nil)) (cg_tup hX (cgs_cons (cg_name hX 2) (cgs_cons (cg_name hX 3) cgs_nil))) (css_one (cs_if (c_notT (c_bool (c_call ((w_is_step W).mono (by decide)) hX W.g14 W.F14.kp W.b14 (ca_cons (c_var 0) (ca_cons (c_var 3) ca_nil))))) css_never css_nil)))
    (css_one (cs_ret (c_var 1)))))
theorem w_plain_course : FnC G P w K mg base 5 W.f22 W.fd22 ["letters", "course"] (M_plain_course) := fnc W.F22 sc22 rfl rfl fun cdv A outer s H E hX =>
  css_one (cs_ret (c_call ((w_plain_of W).mono (by decide)) hX W.g16 W.F16.kp W.b16 (ca_cons (c_call ((w_need_course W).mono (by decide)) hX W.g15 W.F15.kp W.b15 (ca_cons (c_var 0) (ca_cons (c_var 1) ca_nil))) ca_nil)))
theorem w_is_plain : FnC G P w K mg base 5 W.f21 W.fd21 ["letters", "course"] (M_is_plain) := fnc W.F21 sc21 rfl rfl fun cdv A outer s H E hX =>
  css_one (cs_ret (CP.e (cp_op (d_eq hX) (c_callB b_len W.z_len (by decide +kernel) (ca_cons (c_call ((w_plain_of W).mono (by decide)) hX W.g16 W.F16.kp W.b16 (ca_cons (c_call ((w_need_course W).mono (by decide)) hX W.g15 W.F15.kp W.b15 (ca_cons (c_var 0) (ca_cons (c_var 1) ca_nil))) ca_nil)) ca_nil)) (c_callB b_len W.z_len (by decide +kernel) (ca_cons (c_var 1) ca_nil)))))
theorem w__law_back : FnC G P w K mg base 1 W.f36 W.fd36 ["steps"] (M__law_back) := fnc W.F36 sc36 rfl rfl fun cdv A outer s H E hX =>
  css_cons (cs_set hX 1 (c_tup ca_nil))
    (css_cons (cs_for hX (ci_seq (c_var 0)) (cg_name hX 2) (css_one (cs_set hX 1 (c_bin d_add (c_tup (ca_cons (c_un d_neg (c_var 2)) ca_nil)) (c_var 1)))))
    (css_one (cs_ret (c_var 1))))
theorem w_are_alike : FnC G P w K mg base 5 W.f23 W.fd23 ["letters", "one", "other"] (M_are_alike) := fnc W.F23 sc23 rfl rfl fun cdv A outer s H E hX =>
  css_cons (cs_drop (c_call ((w_need_course W).mono (by decide)) hX W.g15 W.F15.kp W.b15 (ca_cons (c_var 0) (ca_cons (c_var 1) ca_nil))))
    (css_one (cs_ret (CP.e (cp_op (d_eq hX) (c_call ((w_plain_of W).mono (by decide)) hX W.g16 W.F16.kp W.b16 (ca_cons (c_var 1) ca_nil)) (c_call ((w_plain_of W).mono (by decide)) hX W.g16 W.F16.kp W.b16 (ca_cons (c_call ((w_need_course W).mono (by decide)) hX W.g15 W.F15.kp W.b15 (ca_cons (c_var 0) (ca_cons (c_var 2) ca_nil))) ca_nil))))))
theorem w_told_course : FnC G P w K mg base 1 W.f20 W.fd20 ["course"] (M_told_course) := fnc W.F20 sc20 rfl rfl fun cdv A outer s H E hX =>
  css_cons (cs_if (CP.t (cp_op d_gt (c_callB b_len W.z_len (by decide +kernel) (ca_cons (c_var 0) ca_nil)) (c_globI W.g_MOST_STEPS))) css_never css_nil)
    (css_one (cs_ret (c_var 0)))
theorem w_behind_of : FnC G P w K mg base 1 W.f18 W.fd18 ["one", "other"] (M_behind_of) := fnc W.F18 sc18 rfl rfl fun cdv A outer s H E hX =>
  css_cons (cs_set hX 2 c_int)
    (css_cons (cs_while hX (CW.ct (cw_and (CP.t (cp_op (d_lt hX) (c_var 2) (c_callB (b_min hX) W.z_min (by decide +kernel) (ca_cons (c_callB b_len W.z_len (by decide +kernel) (ca_cons (c_var 0) ca_nil)) (ca_cons (c_callB b_len W.z_len (by decide +kernel) (ca_cons (c_var 1) ca_nil)) ca_nil))))) (cw_and1 (CP.t (cp_op (d_eq hX) (c_ix (c_var 0) (c_bin d_sub (c_bin d_sub (c_callB b_len W.z_len (by decide +kernel) (ca_cons (c_var 0) ca_nil)) c_int) (c_var 2))) (c_un d_neg (c_ix (c_var 1) (c_var 2)))))))) (css_one (cs_set hX 2 (c_bin d_add (c_var 2) c_int))))
    (css_one (cs_ret (c_bin d_add (c_slice (c_var 0) trivial (c_bin d_sub (c_callB b_len W.z_len (by decide +kernel) (ca_cons (c_var 0) ca_nil)) (c_var 2))) (c_slice (c_var 1) (c_var 2) trivial)))))
theorem w_behind : FnC G P w K mg base 5 W.f24 W.fd24 ["letters", "one", "other"] (M_behind) := fnc W.F24 sc24 rfl rfl fun cdv A outer s H E hX =>
  css_cons (cs_drop (c_call ((w_need_course W).mono (by decide)) hX W.g15 W.F15.kp W.b15 (ca_cons (c_var 0) (ca_cons (c_var 1) ca_nil))))
    (css_cons (cs_drop (c_call ((w_need_course W).mono (by decide)) hX W.g15 W.F15.kp W.b15 (ca_cons (c_var 0) (ca_cons (c_var 2) ca_nil))))
    (css_one (cs_ret (c_call ((w_told_course W).mono (by decide)) hX W.g20 W.F20.kp W.b20 (ca_cons (c_call ((w_behind_of W).mono (by decide)) hX W.g18 W.F18.kp W.b18 (ca_cons (c_call ((w_plain_of W).mono (by decide)) hX W.g16 W.F16.kp W.b16 (ca_cons (c_var 1) ca_nil)) (ca_cons (c_call ((w_plain_of W).mono (by decide)) hX W.g16 W.F16.kp W.b16 (ca_cons (c_var 2) ca_nil)) ca_nil))) ca_nil)))))
theorem w_back_of : FnC G P w K mg base 1 W.f17 W.fd17 ["steps"] (M_back_of) := fnc W.F17 sc17 rfl rfl fun cdv A outer s H E hX =>
  css_one (cs_ret (c_callTy b_tuple W.z_tuple (by decide +kernel) (ca_cons (c_comp hX (ci_seq (c_rev (c_var 0))) (own := [("step", 1)]) (blkOk_by (N := ["steps", "step"]) (sc := defScope st17) (by decide +kernel)) rfl (by decide) (fun Y hX hN q => by obtain ⟨s, H, C, cl, fp, q⟩ := q; subst q; exact cg_name hX 1) (fun Y hX hN q => by obtain ⟨s, H, C, cl, fp, q⟩ := q; subst q; exact cts_nil) (fun Y hX hN q => by obtain ⟨s, H, C, cl, fp, q⟩ := q; subst q; exact c_un d_neg (c_var 1))) ca_nil)))
theorem w_back : FnC G P w K mg base 5 W.f25 W.fd25 ["letters", "course"] (M_back) := fnc W.F25 sc25 rfl rfl fun cdv A outer s H E hX =>
  css_one (cs_ret (c_call ((w_back_of W).mono (by decide)) hX W.g17 W.F17.kp W.b17 (ca_cons (c_call ((w_plain_of W).mono (by decide)) hX W.g16 W.F16.kp W.b16 (ca_cons (c_call ((w_need_course W).mono (by decide)) hX W.g15 W.F15.kp W.b15 (ca_cons (c_var 0) (ca_cons (c_var 1) ca_nil))) ca_nil)) ca_nil)))
theorem w_parted : FnC G P w K mg base 1 W.f26 W.fd26 ["steps"] (M_parted) := fnc W.F26 sc26 rfl rfl fun cdv A outer s H E hX =>
  css_cons (cs_set hX 1 c_int)
    (css_cons (cs_while hX (CW.ct (cw_and (CP.t (cp_op (d_lt hX) (c_bin d_add (c_bin d_mul c_int (c_var 1)) c_int) (c_callB b_len W.z_len (by decide +kernel) (ca_cons (c_var 0) ca_nil)))) (cw_and1 (CP.t (cp_op (d_eq hX) (c_ix (c_var 0) (c_var 1)) (c_un d_neg (c_ix (c_var 0) (c_bin d_sub (c_bin d_sub (c_callB b_len W.z_len (by decide +kernel) (ca_cons (c_var 0) ca_nil)) c_int) (c_var 1))))))))) (css_one (cs_set hX 1 (c_bin d_add (c_var 1) c_int))))
    (css_one (cs_ret (c_tup (ca_cons (c_slice (c_var 0) trivial (c_var 1)) (ca_cons (c_slice (c_var 0) (c_var 1) (c_bin d_sub (c_callB b_len W.z_len (by decide +kernel) (ca_cons (c_var 0) ca_nil)) (c_var 1))) ca_nil))))))
theorem w_times_of : FnC G P w K mg base 2 W.f27 W.fd27 ["steps", "many"] (M_times_of) := fnc W.F27 sc27 rfl rfl fun cdv A outer s H E hX =>
  css_cons (cs_asg (c_call ((w_parted W).mono (by decide)) hX W.g26 W.F26.kp W.b26 (ca_cons (c_var 0) ca_nil)) (cg_tup hX (cgs_cons (cg_name hX 2) (cgs_cons (cg_name hX 3) cgs_nil))))
    (css_cons (cs_if (CP.t (cp_op (d_lt hX) (c_var 1) c_int)) (css_one (cs_set hX 3 (c_call ((w_back_of W).mono (by decide)) hX W.g17 W.F17.kp W.b17 (ca_cons (c_var 3) ca_nil)))) css_nil)
    (css_cons (cs_if (CW.ct (cw_or (CP.t (cp_op (d_eq hX) (c_var 1) c_int)) (cw_or1 (CP.t (cp_op (d_eq hX) (c_var 3) (c_tup ca_nil)))))) (css_one (cs_ret (c_tup ca_nil))) css_nil)
    (css_cons (cs_if (CP.t (cp_op d_gt (c_bin d_add (c_bin d_mul c_int (c_callB b_len W.z_len (by decide +kernel) (ca_cons (c_var 2) ca_nil))) (c_bin d_mul (c_callB b_len W.z_len (by decide +kernel) (ca_cons (c_var 3) ca_nil)) (c_callB b_abs W.z_abs (by decide +kernel) (ca_cons (c_var 1) ca_nil)))) (c_globI W.g_MOST_STEPS))) css_never css_nil)
    (css_one (cs_ret (c_bin d_add (c_bin d_add (c_var 2) (c_bin d_mul (c_var 3) (c_callB b_abs W.z_abs (by decide +kernel) (ca_cons (c_var 1) ca_nil)))) (c_call ((w_back_of W).mono (by decide)) hX W.g17 W.F17.kp W.b17 (ca_cons (c_var 2) ca_nil))))))))
theorem w_times : FnC G P w K mg base 5 W.f28 W.fd28 ["letters", "course", "many"] (M_times) := fnc W.F28 sc28 rfl rfl fun cdv A outer s H E hX =>
  css_cons (cs_drop (c_call ((w_need_course W).mono (by decide)) hX W.g15 W.F15.kp W.b15 (ca_cons (c_var 0) (ca_cons (c_var 1) ca_nil))))
    (css_cons (cs_if (c_notT (c_bool (c_call ((w_is_among W).mono (by decide)) hX W.g7 W.F7.kp W.b7 (ca_cons (c_var 2) (ca_cons (c_un d_neg (c_globI W.g_MOST_TIMES)) (ca_cons (c_globI W.g_MOST_TIMES) ca_nil)))))) css_never css_nil)
    (css_one (cs_ret (c_call ((w_times_of W).mono (by decide)) hX W.g27 W.F27.kp W.b27 (ca_cons (c_call ((w_plain_of W).mono (by decide)) hX W.g16 W.F16.kp W.b16 (ca_cons (c_var 1) ca_nil)) (ca_cons (c_var 2) ca_nil))))))
theorem w__law_many : FnC G P w K mg base 2 W.f38 W.fd38 ["steps", "many"] (M__law_many) := fnc W.F38 sc38 rfl rfl fun cdv A outer s H E hX =>
  css_cons (cs_par hX 3 4 (ca_cons (c_tup ca_nil) (ca_cons (c_ifExp (CP.t (cp_op d_gt (c_var 1) c_int)) (c_var 0) (c_call ((w__law_back W).mono (by decide)) hX W.g36 W.F36.kp W.b36 (ca_cons (c_var 0) ca_nil))) ca_nil)))
    (css_cons (cs_for hX (ci_range1 W.z_range (ca_cons (c_callB b_abs W.z_abs (by decide +kernel) (ca_cons (c_var 1) ca_nil)) ca_nil)) (cg_name hX 2) (css_one (cs_set hX 3 (c_call ((w__law_plain W).mono (by decide)) hX W.g35 W.F35.kp W.b35 (ca_cons (c_bin d_add (c_var 3) (c_var 4)) ca_nil)))))
    (css_one (cs_ret (c_var 3))))
theorem w_key_of : FnC G P w K mg base 1 W.f19 W.fd19 ["steps"] (M_key_of) := fnc W.F19 sc19 rfl rfl fun cdv A outer s H E hX =>
  css_one (cs_ret (c_tup (ca_cons (c_callB b_len W.z_len (by decide +kernel) (ca_cons (c_var 0) ca_nil)) (ca_cons (c_callTy b_tuple W.z_tuple (by decide +kernel) (ca_cons (c_comp hX (ci_seq (c_var 0)) (own := [("step", 1)]) (blkOk_by (N := ["steps", "step"]) (sc := defScope st19) (by decide +kernel)) rfl (by decide) (fun Y hX hN q => by obtain ⟨s, H, C, cl, fp, q⟩ := q; subst q; exact cg_name hX 1) (fun Y hX hN q => by obtain ⟨s, H, C, cl, fp, q⟩ := q; subst q; exact cts_nil) (fun Y hX hN q => by obtain ⟨s, H, C, cl, fp, q⟩ := q; subst q; exact c_tup (ca_cons (c_callB b_abs W.z_abs (by decide +kernel) (ca_cons (c_var 1) ca_nil)) (ca_cons (CP.e (cp_op (d_lt hX) (c_var 1) c_int)) ca_nil)))) ca_nil)) ca_nil))))
theorem w_is_before : FnC G P w K mg base 5 W.f29 W.fd29 ["letters", "one", "other"] (M_is_before) := fnc W.F29 sc29 rfl rfl fun cdv A outer s H E hX =>
  css_cons (cs_drop (c_call ((w_need_course W).mono (by decide)) hX W.g15 W.F15.kp W.b15 (ca_cons (c_var 0) (ca_cons (c_var 1) ca_nil))))
    (css_one (cs_ret (CP.e (cp_op (d_lt hX) (c_call ((w_key_of W).mono (by decide)) hX W.g19 W.F19.kp W.b19 (ca_cons (c_var 1) ca_nil)) (c_call ((w_key_of W).mono (by decide)) hX W.g19 W.F19.kp W.b19 (ca_cons (c_call ((w_need_course W).mono (by decide)) hX W.g15 W.F15.kp W.b15 (ca_cons (c_var 0) (ca_cons (c_var 2) ca_nil))) ca_nil))))))
theorem w__law_key : FnC G P w K mg base 1 W.f37 W.fd37 ["steps"] (M__law_key) := fnc W.F37 sc37 rfl rfl fun cdv A outer s H E hX =>
  css_one (cs_ret (c_tup (ca_cons (c_callB b_len W.z_len (by decide +kernel) (ca_cons (c_var 0) ca_nil)) (ca_cons (c_comp hX (ci_seq (c_var 0)) (own := [("step", 1)]) (blkOk_by (N := ["steps", "step"]) (sc := defScope st37) (by decide +kernel)) rfl (by decide) (fun Y hX hN q => by obtain ⟨s, H, C, cl, fp, q⟩ := q; subst q; exact cg_name hX 1) (fun Y hX hN q => by obtain ⟨s, H, C, cl, fp, q⟩ := q; subst q; exact cts_nil) (fun Y hX hN q => by obtain ⟨s, H, C, cl, fp, q⟩ := q; subst q; exact c_bin d_add (c_bin d_mul c_int (c_callB b_abs W.z_abs (by decide +kernel) (ca_cons (c_var 1) ca_nil))) (c_callTy b_int W.z_int (by decide +kernel) (ca_cons (CP.e (cp_op (d_lt hX) (c_var 1) c_int)) ca_nil)))) ca_nil))))
theorem w_law : FnC G P w K mg base 6 W.f41 W.fd41 ["script"] (M_law reprD) := fnc W.F41 sc41 rfl rfl fun cdv A outer s H E hX =>
  css_cons (cs_set hX 1 (c_call ((w__law_begun W).mono (by decide)) hX W.g31 W.F31.kp W.b31 (ca_cons (c_var 0) ca_nil)))
    (css_cons (cs_for hX (ci_range1 W.z_range (ca_cons (c_bin d_add c_int (c_callB (b_min hX) W.z_min (by decide +kernel) (ca_cons (c_callB b_len W.z_len (by decide +kernel) (ca_cons (c_var 0) ca_nil)) (ca_cons c_int ca_nil)))) ca_nil)) (cg_name hX 2) (css_cons (cs_set hX 3 (c_bin d_add c_int (c_call ((w__law_next W).mono (by decide)) hX W.g32 W.F32.kp W.b32 (ca_cons (c_var 1) (ca_cons c_int ca_nil)))))
    (css_cons (cs_par hX 7 8 (ca_cons (c_call ((w__law_steps W).mono (by decide)) hX W.g34 W.F34.kp W.b34 (ca_cons (c_var 1) (ca_cons (c_var 3) (ca_cons c_int ca_nil)))) (ca_cons (c_call ((w__law_steps W).mono (by decide)) hX W.g34 W.F34.kp W.b34 (ca_cons (c_var 1) (ca_cons (c_var 3) (ca_cons c_int ca_nil)))) ca_nil)))
    (css_cons (cs_par hX 9 10 (ca_cons (c_call ((w__law_put_in W).mono (by decide)) hX W.g39 W.F39.kp W.b39 (ca_cons (c_var 1) (ca_cons (c_var 3) (ca_cons (c_var 7) ca_nil)))) (ca_cons (c_callB (b_repr hX) W.z_repr (by decide +kernel) (ca_cons (c_tup (ca_cons (c_var 7) (ca_cons (c_var 8) ca_nil))) ca_nil)) ca_nil)))
    (css_cons (cs_set hX 4 (c_call ((w__law_plain W).mono (by decide)) hX W.g35 W.F35.kp W.b35 (ca_cons (c_var 7) ca_nil)))
    (css_cons (cs_if (CP.t (cp_op (d_ne hX) (c_lst (ca_cons (c_call ((w__law_any_way W).mono (by decide)) hX W.g40 W.F40.kp W.b40 (ca_cons (c_var 1) (ca_cons (c_var 9) ca_nil))) (ca_cons (c_call ((w_plain_course W).mono (by decide)) hX W.g22 W.F22.kp W.b22 (ca_cons (c_var 3) (ca_cons (c_var 9) ca_nil))) (ca_cons (c_call ((w_plain_course W).mono (by decide)) hX W.g22 W.F22.kp W.b22 (ca_cons (c_var 3) (ca_cons (c_var 7) ca_nil))) ca_nil)))) (c_bin d_mul (c_lst (ca_cons (c_var 4) ca_nil)) c_int))) (css_one (cs_ret c_bl)) css_nil)
    (css_cons (cs_if (CW.ct (cw_or (CP.t (cp_op d_isnot (c_call ((w_is_plain W).mono (by decide)) hX W.g21 W.F21.kp W.b21 (ca_cons (c_var 3) (ca_cons (c_var 4) ca_nil))) c_bl)) (cw_or1 (CP.t (cp_op d_isnot (c_call ((w_is_plain W).mono (by decide)) hX W.g21 W.F21.kp W.b21 (ca_cons (c_var 3) (ca_cons (c_var 9) ca_nil))) c_bl))))) (css_one (cs_ret c_bl)) css_nil)
    (css_cons (cs_for hX (ci_seq (c_tup (ca_cons (c_var 9) (ca_cons (c_var 8) (ca_cons (c_var 4) (ca_cons (c_bin d_add (c_var 7) (c_tup (ca_cons c_int ca_nil))) (ca_cons (c_call ((w__law_back W).mono (by decide)) hX W.g36 W.F36.kp W.b36 (ca_cons (c_var 7) ca_nil)) ca_nil))))))) (cg_name hX 5) (css_one (cs_if (CP.t (cp_op (d_ne hX) (c_callB (b_repr hX) W.z_repr (by decide +kernel) (ca_cons (c_call ((w_are_alike W).mono (by decide)) hX W.g23 W.F23.kp W.b23 (ca_cons (c_var 3) (ca_cons (c_var 7) (ca_cons (c_var 5) ca_nil)))) ca_nil)) (c_callB (b_repr hX) W.z_repr (by decide +kernel) (ca_cons (CP.e (cp_op (d_eq hX) (c_var 4) (c_call ((w__law_plain W).mono (by decide)) hX W.g35 W.F35.kp W.b35 (ca_cons (c_var 5) ca_nil)))) ca_nil)))) (css_one (cs_ret c_bl)) css_nil)))
    (css_cons (cs_if (CW.ct (cw_or (CP.t (cp_op (d_ne hX) (c_call ((w_behind W).mono (by decide)) hX W.g24 W.F24.kp W.b24 (ca_cons (c_var 3) (ca_cons (c_var 9) (ca_cons (c_var 8) ca_nil)))) (c_call ((w__law_plain W).mono (by decide)) hX W.g35 W.F35.kp W.b35 (ca_cons (c_bin d_add (c_var 7) (c_var 8)) ca_nil)))) (cw_or1 (CP.t (cp_op (d_ne hX) (c_call ((w_behind W).mono (by decide)) hX W.g24 W.F24.kp W.b24 (ca_cons (c_var 3) (ca_cons (c_var 7) (ca_cons (c_tup ca_nil) ca_nil)))) (c_var 4)))))) (css_one (cs_ret c_bl)) css_nil)
    (css_cons (cs_if (CW.ct (cw_or (CP.t (cp_op (d_ne hX) (c_call ((w_back W).mono (by decide)) hX W.g25 W.F25.kp W.b25 (ca_cons (c_var 3) (ca_cons (c_var 9) ca_nil))) (c_call ((w__law_plain W).mono (by decide)) hX W.g35 W.F35.kp W.b35 (ca_cons (c_call ((w__law_back W).mono (by decide)) hX W.g36 W.F36.kp W.b36 (ca_cons (c_var 7) ca_nil)) ca_nil)))) (cw_or1 (CP.t (cp_op (d_ne hX) (c_call ((w_behind W).mono (by decide)) hX W.g24 W.F24.kp W.b24 (ca_cons (c_var 3) (ca_cons (c_var 9) (ca_cons (c_call ((w_back W).mono (by decide)) hX W.g25 W.F25.kp W.b25 (ca_cons (c_var 3) (ca_cons (c_var 7) ca_nil))) ca_nil)))) (c_tup ca_nil)))))) (css_one (cs_ret c_bl)) css_nil)
    (css_cons (cs_for hX (ci_seq (c_tup (ca_cons c_int (ca_cons c_int (ca_cons (c_un d_neg c_int) (ca_cons c_int (ca_cons (c_bin d_sub (c_call ((w__law_next W).mono (by decide)) hX W.g32 W.F32.kp W.b32 (ca_cons (c_var 1) (ca_cons c_int ca_nil))) c_int) ca_nil))))))) (cg_name hX 6) (css_one (cs_if (CP.t (cp_op (d_ne hX) (c_call ((w_times W).mono (by decide)) hX W.g28 W.F28.kp W.b28 (ca_cons (c_var 3) (ca_cons (c_var 9) (ca_cons (c_var 6) ca_nil)))) (c_call ((w__law_many W).mono (by decide)) hX W.g38 W.F38.kp W.b38 (ca_cons (c_var 7) (ca_cons (c_var 6) ca_nil))))) (css_one (cs_ret c_bl)) css_nil)))
    (css_cons (cs_for hX (ci_seq (c_tup (ca_cons (c_var 8) (ca_cons (c_var 4) (ca_cons (c_bin d_add (c_var 7) (c_tup (ca_cons (c_un d_neg c_int) ca_nil))) (ca_cons (c_slice (c_var 7) trivial (c_un d_neg c_int)) (ca_cons (c_var 7) ca_nil))))))) (cg_name hX 5) (css_one (cs_if (CP.t (cp_op (d_ne hX) (c_callB (b_repr hX) W.z_repr (by decide +kernel) (ca_cons (c_call ((w_is_before W).mono (by decide)) hX W.g29 W.F29.kp W.b29 (ca_cons (c_var 3) (ca_cons (c_var 7) (ca_cons (c_var 5) ca_nil)))) ca_nil)) (c_callB (b_repr hX) W.z_repr (by decide +kernel) (ca_cons (CP.e (cp_op (d_lt hX) (c_call ((w__law_key W).mono (by decide)) hX W.g37 W.F37.kp W.b37 (ca_cons (c_var 7) ca_nil)) (c_call ((w__law_key W).mono (by decide)) hX W.g37 W.F37.kp W.b37 (ca_cons (c_var 5) ca_nil)))) ca_nil)))) (css_one (cs_ret c_bl)) css_nil)))
    (css_one (cs_if (CW.ct (cw_or (CP.t (cp_op (d_ne hX) (c_callK ((w_times W).mono (by decide)) hX W.g28 W.F28.kp (kb_times_1 W) (ca_cons (c_var 3) ca_nil) (ck_cons (c_var 7) (ck_cons c_int ck_nil))) (c_call ((w__law_many W).mono (by decide)) hX W.g38 W.F38.kp W.b38 (ca_cons (c_var 7) (ca_cons c_int ca_nil))))) (cw_or1 (CP.t (cp_op (d_ne hX) (c_callB (b_repr hX) W.z_repr (by decide +kernel) (ca_cons (c_tup (ca_cons (c_var 7) (ca_cons (c_var 8) ca_nil))) ca_nil)) (c_var 10)))))) (css_one (cs_ret c_bl)) css_nil))))))))))))))
    (css_cons (cs_if (CW.ct (cw_or (c_bool (c_call ((w_are_alike W).mono (by decide)) hX W.g23 W.F23.kp W.b23 (ca_cons c_int (ca_cons (c_bin d_mul (c_tup (ca_cons c_int ca_nil)) c_int) (ca_cons (c_bin d_mul (c_tup (ca_cons c_int ca_nil)) c_int) ca_nil))))) (cw_or1 (c_notT (c_bool (c_call ((w_are_alike W).mono (by decide)) hX W.g23 W.F23.kp W.b23 (ca_cons c_int (ca_cons (c_bin d_mul (c_tup (ca_cons c_int (ca_cons c_int ca_nil))) c_int) (ca_cons (c_bin d_add (c_bin d_mul (c_tup (ca_cons c_int (ca_cons c_int ca_nil))) c_int) (c_tup (ca_cons c_int (ca_cons (c_un d_neg c_int) ca_nil)))) ca_nil))))))))) (css_one (cs_ret c_bl)) css_nil)
    (css_one (cs_ret (c_andV (c_call ((w_is_before W).mono (by decide)) hX W.g29 W.F29.kp W.b29 (ca_cons c_int (ca_cons (c_bin d_mul (c_tup (ca_cons c_int ca_nil)) c_int) (ca_cons (c_bin d_mul (c_tup (ca_cons c_int ca_nil)) c_int) ca_nil)))) (c_one (c_notV (c_call ((w_is_before W).mono (by decide)) hX W.g29 W.F29.kp W.b29 (ca_cons c_int (ca_cons (c_bin d_mul (c_tup (ca_cons c_int ca_nil)) c_int) (ca_cons (c_bin d_mul (c_tup (ca_cons c_int ca_nil)) c_int) ca_nil)))))))))))
end
/-- what the top has written -/
theorem all_mk {prog : Program} {w : World} {K : PySem.W.Frag} {h : Heap} {mg : Str → Option Value} {fa : Addr} (X : K.In h) (Gn : h.Ns mainGlobals mg) (hfa : mg "law" = some (.ref fa))
    {f31 : Addr} {od31 an31 : Option Addr} {sl31 : Array (Option Value)} {oc31 kV31 dc31 pm31 cd31 ct31 : Value}
    (a31 : PySem.W.nsIn K mainGlobals "_law_begun" = some (some (.ref f31))) (l31 : K.lookup f31 = some ⟨oc31, od31, .func (PySem.W.fnOf "_law_begun" "_law_begun" (defArgs st31) (defBody st31) (defScope st31) .none kV31 dc31 pm31 an31 cd31 ct31), sl31⟩) (c31 : PySem.W.codeIn K cd31 "_law_begun" = true) (k31 : PySem.W.keepIn K (.ref f31) = true)
    {f32 : Addr} {od32 an32 : Option Addr} {sl32 : Array (Option Value)} {oc32 kV32 dc32 pm32 cd32 ct32 : Value}
    (a32 : PySem.W.nsIn K mainGlobals "_law_next" = some (some (.ref f32))) (l32 : K.lookup f32 = some ⟨oc32, od32, .func (PySem.W.fnOf "_law_next" "_law_next" (defArgs st32) (defBody st32) (defScope st32) .none kV32 dc32 pm32 an32 cd32 ct32), sl32⟩) (c32 : PySem.W.codeIn K cd32 "_law_next" = true) (k32 : PySem.W.keepIn K (.ref f32) = true)
    {f33 : Addr} {od33 an33 : Option Addr} {sl33 : Array (Option Value)} {oc33 kV33 dc33 pm33 cd33 ct33 : Value}
    (a33 : PySem.W.nsIn K mainGlobals "_law_of" = some (some (.ref f33))) (l33 : K.lookup f33 = some ⟨oc33, od33, .func (PySem.W.fnOf "_law_of" "_law_of" (defArgs st33) (defBody st33) (defScope st33) .none kV33 dc33 pm33 an33 cd33 ct33), sl33⟩) (c33 : PySem.W.codeIn K cd33 "_law_of" = true) (k33 : PySem.W.keepIn K (.ref f33) = true)
    {f34 : Addr} {od34 an34 : Option Addr} {sl34 : Array (Option Value)} {oc34 kV34 dc34 pm34 cd34 ct34 : Value}
    (a34 : PySem.W.nsIn K mainGlobals "_law_steps" = some (some (.ref f34))) (l34 : K.lookup f34 = some ⟨oc34, od34, .func (PySem.W.fnOf "_law_steps" "_law_steps" (defArgs st34) (defBody st34) (defScope st34) .none kV34 dc34 pm34 an34 cd34 ct34), sl34⟩) (c34 : PySem.W.codeIn K cd34 "_law_steps" = true) (k34 : PySem.W.keepIn K (.ref f34) = true)
    {f39 : Addr} {od39 an39 : Option Addr} {sl39 : Array (Option Value)} {oc39 kV39 dc39 pm39 cd39 ct39 : Value}
    (a39 : PySem.W.nsIn K mainGlobals "_law_put_in" = some (some (.ref f39))) (l39 : K.lookup f39 = some ⟨oc39, od39, .func (PySem.W.fnOf "_law_put_in" "_law_put_in" (defArgs st39) (defBody st39) (defScope st39) .none kV39 dc39 pm39 an39 cd39 ct39), sl39⟩) (c39 : PySem.W.codeIn K cd39 "_law_put_in" = true) (k39 : PySem.W.keepIn K (.ref f39) = true)
    {f35 : Addr} {od35 an35 : Option Addr} {sl35 : Array (Option Value)} {oc35 kV35 dc35 pm35 cd35 ct35 : Value}
    (a35 : PySem.W.nsIn K mainGlobals "_law_plain" = some (some (.ref f35))) (l35 : K.lookup f35 = some ⟨oc35, od35, .func (PySem.W.fnOf "_law_plain" "_law_plain" (defArgs st35) (defBody st35) (defScope st35) .none kV35 dc35 pm35 an35 cd35 ct35), sl35⟩) (c35 : PySem.W.codeIn K cd35 "_law_plain" = true) (k35 : PySem.W.keepIn K (.ref f35) = true)
    {f40 : Addr} {od40 an40 : Option Addr} {sl40 : Array (Option Value)} {oc40 kV40 dc40 pm40 cd40 ct40 : Value}
    (a40 : PySem.W.nsIn K mainGlobals "_law_any_way" = some (some (.ref f40))) (l40 : K.lookup f40 = some ⟨oc40, od40, .func (PySem.W.fnOf "_law_any_way" "_law_any_way" (defArgs st40) (defBody st40) (defScope st40) .none kV40 dc40 pm40 an40 cd40 ct40), sl40⟩) (c40 : PySem.W.codeIn K cd40 "_law_any_way" = true) (k40 : PySem.W.keepIn K (.ref f40) = true)
    {f16 : Addr} {od16 an16 : Option Addr} {sl16 : Array (Option Value)} {oc16 kV16 dc16 pm16 cd16 ct16 : Value}
    (a16 : PySem.W.nsIn K mainGlobals "plain_of" = some (some (.ref f16))) (l16 : K.lookup f16 = some ⟨oc16, od16, .func (PySem.W.fnOf "plain_of" "plain_of" (defArgs st16) (defBody st16) (defScope st16) .none kV16 dc16 pm16 an16 cd16 ct16), sl16⟩) (c16 : PySem.W.codeIn K cd16 "plain_of" = true) (k16 : PySem.W.keepIn K (.ref f16) = true)
    {f6 : Addr} {od6 an6 : Option Addr} {sl6 : Array (Option Value)} {oc6 kV6 dc6 pm6 cd6 ct6 : Value}
    (a6 : PySem.W.nsIn K mainGlobals "is_number" = some (some (.ref f6))) (l6 : K.lookup f6 = some ⟨oc6, od6, .func (PySem.W.fnOf "is_number" "is_number" (defArgs st6) (defBody st6) (defScope st6) .none kV6 dc6 pm6 an6 cd6 ct6), sl6⟩) (c6 : PySem.W.codeIn K cd6 "is_number" = true) (k6 : PySem.W.keepIn K (.ref f6) = true)
    {f7 : Addr} {od7 an7 : Option Addr} {sl7 : Array (Option Value)} {oc7 kV7 dc7 pm7 cd7 ct7 : Value}
    (a7 : PySem.W.nsIn K mainGlobals "is_among" = some (some (.ref f7))) (l7 : K.lookup f7 = some ⟨oc7, od7, .func (PySem.W.fnOf "is_among" "is_among" (defArgs st7) (defBody st7) (defScope st7) .none kV7 dc7 pm7 an7 cd7 ct7), sl7⟩) (c7 : PySem.W.codeIn K cd7 "is_among" = true) (k7 : PySem.W.keepIn K (.ref f7) = true)
    {f13 : Addr} {od13 an13 : Option Addr} {sl13 : Array (Option Value)} {oc13 kV13 dc13 pm13 cd13 ct13 : Value}
    (a13 : PySem.W.nsIn K mainGlobals "need_letters" = some (some (.ref f13))) (l13 : K.lookup f13 = some ⟨oc13, od13, .func (PySem.W.fnOf "need_letters" "need_letters" (defArgs st13) (defBody st13) (defScope st13) .none kV13 dc13 pm13 an13 cd13 ct13), sl13⟩) (c13 : PySem.W.codeIn K cd13 "need_letters" = true) (k13 : PySem.W.keepIn K (.ref f13) = true)
    {f8 : Addr} {od8 an8 : Option Addr} {sl8 : Array (Option Value)} {oc8 kV8 dc8 pm8 cd8 ct8 : Value}
    (a8 : PySem.W.nsIn K mainGlobals "is_tuple_of" = some (some (.ref f8))) (l8 : K.lookup f8 = some ⟨oc8, od8, .func (PySem.W.fnOf "is_tuple_of" "is_tuple_of" (defArgs st8) (defBody st8) (defScope st8) .none kV8 dc8 pm8 an8 cd8 ct8), sl8⟩) (c8 : PySem.W.codeIn K cd8 "is_tuple_of" = true) (k8 : PySem.W.keepIn K (.ref f8) = true)
    {f14 : Addr} {od14 an14 : Option Addr} {sl14 : Array (Option Value)} {oc14 kV14 dc14 pm14 cd14 ct14 : Value}
    (a14 : PySem.W.nsIn K mainGlobals "is_step" = some (some (.ref f14))) (l14 : K.lookup f14 = some ⟨oc14, od14, .func (PySem.W.fnOf "is_step" "is_step" (defArgs st14) (defBody st14) (defScope st14) .none kV14 dc14 pm14 an14 cd14 ct14), sl14⟩) (c14 : PySem.W.codeIn K cd14 "is_step" = true) (k14 : PySem.W.keepIn K (.ref f14) = true)
    {f15 : Addr} {od15 an15 : Option Addr} {sl15 : Array (Option Value)} {oc15 kV15 dc15 pm15 cd15 ct15 : Value}
    (a15 : PySem.W.nsIn K mainGlobals "need_course" = some (some (.ref f15))) (l15 : K.lookup f15 = some ⟨oc15, od15, .func (PySem.W.fnOf "need_course" "need_course" (defArgs st15) (defBody st15) (defScope st15) .none kV15 dc15 pm15 an15 cd15 ct15), sl15⟩) (c15 : PySem.W.codeIn K cd15 "need_course" = true) (k15 : PySem.W.keepIn K (.ref f15) = true)
    {f22 : Addr} {od22 an22 : Option Addr} {sl22 : Array (Option Value)} {oc22 kV22 dc22 pm22 cd22 ct22 : Value}
    (a22 : PySem.W.nsIn K mainGlobals "plain_course" = some (some (.ref f22))) (l22 : K.lookup f22 = some ⟨oc22, od22, .func (PySem.W.fnOf "plain_course" "plain_course" (defArgs st22) (defBody st22) (defScope st22) .none kV22 dc22 pm22 an22 cd22 ct22), sl22⟩) (c22 : PySem.W.codeIn K cd22 "plain_course" = true) (k22 : PySem.W.keepIn K (.ref f22) = true)
    {f21 : Addr} {od21 an21 : Option Addr} {sl21 : Array (Option Value)} {oc21 kV21 dc21 pm21 cd21 ct21 : Value}
    (a21 : PySem.W.nsIn K mainGlobals "is_plain" = some (some (.ref f21))) (l21 : K.lookup f21 = some ⟨oc21, od21, .func (PySem.W.fnOf "is_plain" "is_plain" (defArgs st21) (defBody st21) (defScope st21) .none kV21 dc21 pm21 an21 cd21 ct21), sl21⟩) (c21 : PySem.W.codeIn K cd21 "is_plain" = true) (k21 : PySem.W.keepIn K (.ref f21) = true)
    {f36 : Addr} {od36 an36 : Option Addr} {sl36 : Array (Option Value)} {oc36 kV36 dc36 pm36 cd36 ct36 : Value}
    (a36 : PySem.W.nsIn K mainGlobals "_law_back" = some (some (.ref f36))) (l36 : K.lookup f36 = some ⟨oc36, od36, .func (PySem.W.fnOf "_law_back" "_law_back" (defArgs st36) (defBody st36) (defScope st36) .none kV36 dc36 pm36 an36 cd36 ct36), sl36⟩) (c36 : PySem.W.codeIn K cd36 "_law_back" = true) (k36 : PySem.W.keepIn K (.ref f36) = true)
    {f23 : Addr} {od23 an23 : Option Addr} {sl23 : Array (Option Value)} {oc23 kV23 dc23 pm23 cd23 ct23 : Value}
    (a23 : PySem.W.nsIn K mainGlobals "are_alike" = some (some (.ref f23))) (l23 : K.lookup f23 = some ⟨oc23, od23, .func (PySem.W.fnOf "are_alike" "are_alike" (defArgs st23) (defBody st23) (defScope st23) .none kV23 dc23 pm23 an23 cd23 ct23), sl23⟩) (c23 : PySem.W.codeIn K cd23 "are_alike" = true) (k23 : PySem.W.keepIn K (.ref f23) = true)
    {f20 : Addr} {od20 an20 : Option Addr} {sl20 : Array (Option Value)} {oc20 kV20 dc20 pm20 cd20 ct20 : Value}
    (a20 : PySem.W.nsIn K mainGlobals "told_course" = some (some (.ref f20))) (l20 : K.lookup f20 = some ⟨oc20, od20, .func (PySem.W.fnOf "told_course" "told_course" (defArgs st20) (defBody st20) (defScope st20) .none kV20 dc20 pm20 an20 cd20 ct20), sl20⟩) (c20 : PySem.W.codeIn K cd20 "told_course" = true) (k20 : PySem.W.keepIn K (.ref f20) = true)
    {f18 : Addr} {od18 an18 : Option Addr} {sl18 : Array (Option Value)} {oc18 kV18 dc18 pm18 cd18 ct18 : Value}
    (a18 : PySem.W.nsIn K mainGlobals "behind_of" = some (some (.ref f18))) (l18 : K.lookup f18 = some ⟨oc18, od18, .func (PySem.W.fnOf "behind_of" "behind_of" (defArgs st18) (defBody st18) (defScope st18) .none kV18 dc18 pm18 an18 cd18 ct18), sl18⟩) (c18 : PySem.W.codeIn K cd18 "behind_of" = true) (k18 : PySem.W.keepIn K (.ref f18) = true)
    {f24 : Addr} {od24 an24 : Option Addr} {sl24 : Array (Option Value)} {oc24 kV24 dc24 pm24 cd24 ct24 : Value}
    (a24 : PySem.W.nsIn K mainGlobals "behind" = some (some (.ref f24))) (l24 : K.lookup f24 = some ⟨oc24, od24, .func (PySem.W.fnOf "behind" "behind" (defArgs st24) (defBody st24) (defScope st24) .none kV24 dc24 pm24 an24 cd24 ct24), sl24⟩) (c24 : PySem.W.codeIn K cd24 "behind" = true) (k24 : PySem.W.keepIn K (.ref f24) = true)
    {f17 : Addr} {od17 an17 : Option Addr} {sl17 : Array (Option Value)} {oc17 kV17 dc17 pm17 cd17 ct17 : Value}
    (a17 : PySem.W.nsIn K mainGlobals "back_of" = some (some (.ref f17))) (l17 : K.lookup f17 = some ⟨oc17, od17, .func (PySem.W.fnOf "back_of" "back_of" (defArgs st17) (defBody st17) (defScope st17) .none kV17 dc17 pm17 an17 cd17 ct17), sl17⟩) (c17 : PySem.W.codeIn K cd17 "back_of" = true) (k17 : PySem.W.keepIn K (.ref f17) = true)
    {f25 : Addr} {od25 an25 : Option Addr} {sl25 : Array (Option Value)} {oc25 kV25 dc25 pm25 cd25 ct25 : Value}
    (a25 : PySem.W.nsIn K mainGlobals "back" = some (some (.ref f25))) (l25 : K.lookup f25 = some ⟨oc25, od25, .func (PySem.W.fnOf "back" "back" (defArgs st25) (defBody st25) (defScope st25) .none kV25 dc25 pm25 an25 cd25 ct25), sl25⟩) (c25 : PySem.W.codeIn K cd25 "back" = true) (k25 : PySem.W.keepIn K (.ref f25) = true)
    {f26 : Addr} {od26 an26 : Option Addr} {sl26 : Array (Option Value)} {oc26 kV26 dc26 pm26 cd26 ct26 : Value}
    (a26 : PySem.W.nsIn K mainGlobals "parted" = some (some (.ref f26))) (l26 : K.lookup f26 = some ⟨oc26, od26, .func (PySem.W.fnOf "parted" "parted" (defArgs st26) (defBody st26) (defScope st26) .none kV26 dc26 pm26 an26 cd26 ct26), sl26⟩) (c26 : PySem.W.codeIn K cd26 "parted" = true) (k26 : PySem.W.keepIn K (.ref f26) = true)
    {f27 : Addr} {od27 an27 : Option Addr} {sl27 : Array (Option Value)} {oc27 kV27 dc27 pm27 cd27 ct27 : Value}
    (a27 : PySem.W.nsIn K mainGlobals "times_of" = some (some (.ref f27))) (l27 : K.lookup f27 = some ⟨oc27, od27, .func (PySem.W.fnOf "times_of" "times_of" (defArgs st27) (defBody st27) (defScope st27) .none kV27 dc27 pm27 an27 cd27 ct27), sl27⟩) (c27 : PySem.W.codeIn K cd27 "times_of" = true) (k27 : PySem.W.keepIn K (.ref f27) = true)
    {f28 : Addr} {od28 an28 : Option Addr} {sl28 : Array (Option Value)} {oc28 kV28 dc28 pm28 cd28 ct28 : Value}
    (a28 : PySem.W.nsIn K mainGlobals "times" = some (some (.ref f28))) (l28 : K.lookup f28 = some ⟨oc28, od28, .func (PySem.W.fnOf "times" "times" (defArgs st28) (defBody st28) (defScope st28) .none kV28 dc28 pm28 an28 cd28 ct28), sl28⟩) (c28 : PySem.W.codeIn K cd28 "times" = true) (k28 : PySem.W.keepIn K (.ref f28) = true)
    {f38 : Addr} {od38 an38 : Option Addr} {sl38 : Array (Option Value)} {oc38 kV38 dc38 pm38 cd38 ct38 : Value}
    (a38 : PySem.W.nsIn K mainGlobals "_law_many" = some (some (.ref f38))) (l38 : K.lookup f38 = some ⟨oc38, od38, .func (PySem.W.fnOf "_law_many" "_law_many" (defArgs st38) (defBody st38) (defScope st38) .none kV38 dc38 pm38 an38 cd38 ct38), sl38⟩) (c38 : PySem.W.codeIn K cd38 "_law_many" = true) (k38 : PySem.W.keepIn K (.ref f38) = true)
    {f19 : Addr} {od19 an19 : Option Addr} {sl19 : Array (Option Value)} {oc19 kV19 dc19 pm19 cd19 ct19 : Value}
    (a19 : PySem.W.nsIn K mainGlobals "key_of" = some (some (.ref f19))) (l19 : K.lookup f19 = some ⟨oc19, od19, .func (PySem.W.fnOf "key_of" "key_of" (defArgs st19) (defBody st19) (defScope st19) .none kV19 dc19 pm19 an19 cd19 ct19), sl19⟩) (c19 : PySem.W.codeIn K cd19 "key_of" = true) (k19 : PySem.W.keepIn K (.ref f19) = true)
    {f29 : Addr} {od29 an29 : Option Addr} {sl29 : Array (Option Value)} {oc29 kV29 dc29 pm29 cd29 ct29 : Value}
    (a29 : PySem.W.nsIn K mainGlobals "is_before" = some (some (.ref f29))) (l29 : K.lookup f29 = some ⟨oc29, od29, .func (PySem.W.fnOf "is_before" "is_before" (defArgs st29) (defBody st29) (defScope st29) .none kV29 dc29 pm29 an29 cd29 ct29), sl29⟩) (c29 : PySem.W.codeIn K cd29 "is_before" = true) (k29 : PySem.W.keepIn K (.ref f29) = true)
    {f37 : Addr} {od37 an37 : Option Addr} {sl37 : Array (Option Value)} {oc37 kV37 dc37 pm37 cd37 ct37 : Value}
    (a37 : PySem.W.nsIn K mainGlobals "_law_key" = some (some (.ref f37))) (l37 : K.lookup f37 = some ⟨oc37, od37, .func (PySem.W.fnOf "_law_key" "_law_key" (defArgs st37) (defBody st37) (defScope st37) .none kV37 dc37 pm37 an37 cd37 ct37), sl37⟩) (c37 : PySem.W.codeIn K cd37 "_law_key" = true) (k37 : PySem.W.keepIn K (.ref f37) = true)
    {f41 : Addr} {od41 an41 : Option Addr} {sl41 : Array (Option Value)} {oc41 kV41 dc41 pm41 cd41 ct41 : Value}
    (a41 : PySem.W.nsIn K mainGlobals "law" = some (some (.ref f41))) (l41 : K.lookup f41 = some ⟨oc41, od41, .func (PySem.W.fnOf "law" "law" (defArgs st41) (defBody st41) (defScope st41) .none kV41 dc41 pm41 an41 cd41 ct41), sl41⟩) (c41 : PySem.W.codeIn K cd41 "law" = true) (k41 : PySem.W.keepIn K (.ref f41) = true)
    {t_MOST_LETTERS : Tok} (g_MOST_LETTERS : PySem.W.nsIn K mainGlobals "MOST_LETTERS" = some (some (.int 8 t_MOST_LETTERS)))
    {t_MOST_STEPS : Tok} (g_MOST_STEPS : PySem.W.nsIn K mainGlobals "MOST_STEPS" = some (some (.int 2000 t_MOST_STEPS)))
    {t_MOST_TIMES : Tok} (g_MOST_TIMES : PySem.W.nsIn K mainGlobals "MOST_TIMES" = some (some (.int 1000000000 t_MOST_TIMES)))
    (z_list : PySem.W.nsIn K mainGlobals "list" = some none)
    (z_int : PySem.W.nsIn K mainGlobals "int" = some none)
    (z_len : PySem.W.nsIn K mainGlobals "len" = some none)
    (z_min : PySem.W.nsIn K mainGlobals "min" = some none)
    (z_range : PySem.W.nsIn K mainGlobals "range" = some none)
    (z_tuple : PySem.W.nsIn K mainGlobals "tuple" = some none)
    (z_repr : PySem.W.nsIn K mainGlobals "repr" = some none)
    (z_isinstance : PySem.W.nsIn K mainGlobals "isinstance" = some none)
    (z_bool : PySem.W.nsIn K mainGlobals "bool" = some none)
    (z_enumerate : PySem.W.nsIn K mainGlobals "enumerate" = some none)
    (z_abs : PySem.W.nsIn K mainGlobals "abs" = some none) :
    ∃ (G : EX) (fd : FuncData), (∀ (s : Shared) (u : Value), BindsTo s fd ⟨[u], []⟩ [("script", u)]) ∧ ∀ base : Heap, K.In base → base.Ns mainGlobals mg → FnC G prog w K mg base 6 fa fd ["script"] (M_law reprD) := by
  have e := hfa.symm.trans (PySem.W.mg_of X Gn a41)
  cases e
  let W : Wt K mg := ⟨f31, _, fun_mk (st := st31) l31 c31 k31, PySem.W.mg_of X Gn a31, f32, _, fun_mk (st := st32) l32 c32 k32, PySem.W.mg_of X Gn a32, f33, _, fun_mk (st := st33) l33 c33 k33, PySem.W.mg_of X Gn a33, f34, _, fun_mk (st := st34) l34 c34 k34, PySem.W.mg_of X Gn a34, f39, _, fun_mk (st := st39) l39 c39 k39, PySem.W.mg_of X Gn a39, f35, _, fun_mk (st := st35) l35 c35 k35, PySem.W.mg_of X Gn a35, f40, _, fun_mk (st := st40) l40 c40 k40, PySem.W.mg_of X Gn a40, f16, _, fun_mk (st := st16) l16 c16 k16, PySem.W.mg_of X Gn a16, f6, _, fun_mk (st := st6) l6 c6 k6, PySem.W.mg_of X Gn a6, f7, _, fun_mk (st := st7) l7 c7 k7, PySem.W.mg_of X Gn a7, f13, _, fun_mk (st := st13) l13 c13 k13, PySem.W.mg_of X Gn a13, f8, _, fun_mk (st := st8) l8 c8 k8, PySem.W.mg_of X Gn a8, f14, _, fun_mk (st := st14) l14 c14 k14, PySem.W.mg_of X Gn a14, f15, _, fun_mk (st := st15) l15 c15 k15, PySem.W.mg_of X Gn a15, f22, _, fun_mk (st := st22) l22 c22 k22, PySem.W.mg_of X Gn a22, f21, _, fun_mk (st := st21) l21 c21 k21, PySem.W.mg_of X Gn a21, f36, _, fun_mk (st := st36) l36 c36 k36, PySem.W.mg_of X Gn a36, f23, _, fun_mk (st := st23) l23 c23 k23, PySem.W.mg_of X Gn a23, f20, _, fun_mk (st := st20) l20 c20 k20, PySem.W.mg_of X Gn a20, f18, _, fun_mk (st := st18) l18 c18 k18, PySem.W.mg_of X Gn a18, f24, _, fun_mk (st := st24) l24 c24 k24, PySem.W.mg_of X Gn a24, f17, _, fun_mk (st := st17) l17 c17 k17, PySem.W.mg_of X Gn a17, f25, _, fun_mk (st := st25) l25 c25 k25, PySem.W.mg_of X Gn a25, f26, _, fun_mk (st := st26) l26 c26 k26, PySem.W.mg_of X Gn a26, f27, _, fun_mk (st := st27) l27 c27 k27, PySem.W.mg_of X Gn a27, f28, _, fun_mk (st := st28) l28 c28 k28, PySem.W.mg_of X Gn a28, f38, _, fun_mk (st := st38) l38 c38 k38, PySem.W.mg_of X Gn a38, f19, _, fun_mk (st := st19) l19 c19 k19, PySem.W.mg_of X Gn a19, f29, _, fun_mk (st := st29) l29 c29 k29, PySem.W.mg_of X Gn a29, f37, _, fun_mk (st := st37) l37 c37 k37, PySem.W.mg_of X Gn a37, fa, _, fun_mk (st := st41) l41 c41 k41, PySem.W.mg_of X Gn a41, _, PySem.W.mg_of X Gn g_MOST_LETTERS, _, PySem.W.mg_of X Gn g_MOST_STEPS, _, PySem.W.mg_of X Gn g_MOST_TIMES, PySem.W.mg_none_of X Gn z_list, PySem.W.mg_none_of X Gn z_int, PySem.W.mg_none_of X Gn z_len, PySem.W.mg_none_of X Gn z_min, PySem.W.mg_none_of X Gn z_range, PySem.W.mg_none_of X Gn z_tuple, PySem.W.mg_none_of X Gn z_repr, PySem.W.mg_none_of X Gn z_isinstance, PySem.W.mg_none_of X Gn z_bool, PySem.W.mg_none_of X Gn z_enumerate, PySem.W.mg_none_of X Gn z_abs⟩
  exact ⟨⟨fun _ => 0, fun _ => ""⟩, W.fd41, fun s u => .of_eq rfl, fun base _ _ => w_law W⟩
end K01

set_option maxHeartbeats 200000
set_option maxRecDepth 512

set_option linter.all false
/-! # PW: words of whole numbers, in which a number falls out against its opposite -/
namespace PW
/-- one number ahead of a word from which nothing falls out -/
def cons1 (x : Int) : List Int → List Int
  | [] => [x]
  | y :: ys => if x = -y then ys else x :: y :: ys
theorem cons1_c (x y : Int) (ys : List Int) : cons1 x (y :: ys) = if x = -y then ys else x :: y :: ys := rfl
/-- what is left of a word -/
def red : List Int → List Int
  | [] => []
  | x :: xs => cons1 x (red xs)
/-- nothing falls out -/
def Red : List Int → Prop
  | [] => True
  | [_] => True
  | x :: y :: r => x ≠ -y ∧ Red (y :: r)
theorem Red.tail {x : Int} {r : List Int} (h : Red (x :: r)) : Red r := by
  cases r with
  | nil => trivial
  | cons y r => exact h.2
theorem red_cons1 {x : Int} {w : List Int} (h : Red w) : Red (cons1 x w) := by
  cases w with
  | nil => trivial
  | cons y ys =>
    rw [cons1_c]
    split
    · exact h.tail
    · rename_i n; exact ⟨n, h⟩
theorem red_red : ∀ xs : List Int, Red (red xs)
  | [] => trivial
  | x :: xs => red_cons1 (red_red xs)
theorem red_id : ∀ {w : List Int}, Red w → red w = w
  | [], _ => rfl
  | [x], _ => rfl
  | x :: y :: r, h => by
    have e := red_id h.2
    show cons1 x (red (y :: r)) = _
    rw [e]
    rw [cons1_c]
    rw [if_neg h.1]
theorem cons1_opp {x y : Int} {w : List Int} (h : Red w) (e : x = -y) : cons1 x (cons1 y w) = w := by
  subst e
  cases w with
  | nil => simp [cons1]
  | cons z zs =>
    by_cases q : y = -z
    · subst q
      have : cons1 (-z) (z :: zs) = zs := by simp [cons1]
      rw [this]
      cases zs with
      | nil => simp [cons1]
      | cons u us =>
        have n := h.1
        rw [cons1_c]
        rw [if_neg (by omega)]
        simp
    · have : cons1 y (z :: zs) = y :: z :: zs := by simp [cons1, q]
      rw [this]
      simp [cons1]
theorem red_append (u v : List Int) : red (u ++ v) = red (u ++ red v) := by
  induction u with
  | nil => exact (red_id (red_red v)).symm
  | cons x u ih => show cons1 x (red (u ++ v)) = cons1 x (red (u ++ red v)); rw [ih]
theorem red_opp (u v : List Int) (x : Int) : red (u ++ x :: -x :: v) = red (u ++ v) := by
  induction u with
  | nil => exact cons1_opp (red_red v) (by omega)
  | cons y u ih => show cons1 y (red (u ++ x :: -x :: v)) = cons1 y (red (u ++ v)); rw [ih]
theorem red_opp' (u v : List Int) {x y : Int} (h : x = -y) : red (u ++ x :: y :: v) = red (u ++ v) := by
  have : y = -x := by omega
  subst this; exact red_opp u v x
theorem red_left (u v : List Int) : red (red u ++ v) = red (u ++ v) := by
  induction u with
  | nil => rfl
  | cons x u ih =>
    show red (cons1 x (red u) ++ v) = cons1 x (red (u ++ v))
    rw [← ih]
    cases h : red u with
    | nil => rfl
    | cons y ys =>
      rw [cons1_c]
      split
      · rename_i e
        show red (ys ++ v) = cons1 x (cons1 y (red (ys ++ v)))
        rw [cons1_opp (red_red _) e]
      · rfl
theorem red_both (u v : List Int) : red (red u ++ red v) = red (u ++ v) := by rw [← red_append, red_left]
theorem red_idem (u : List Int) : red (red u) = red u := red_id (red_red u)
/-! ### taken back -/
def inv (xs : List Int) : List Int := (xs.map fun x => -x).reverse
theorem inv_nil : inv [] = [] := rfl
theorem inv_cons (x : Int) (xs : List Int) : inv (x :: xs) = inv xs ++ [-x] := by simp [inv]
theorem inv_append (u v : List Int) : inv (u ++ v) = inv v ++ inv u := by simp [inv]
theorem inv_length (u : List Int) : (inv u).length = u.length := by simp [inv]
theorem inv_inv (u : List Int) : inv (inv u) = u := by
  induction u with
  | nil => rfl
  | cons x u ih => rw [inv_cons, inv_append, ih]; simp [inv]
/-- nothing falls out of two words put together, if at the joint nothing does -/
theorem red_joint : ∀ {u v : List Int}, Red u → Red v → (∀ a b, u.getLast? = some a → v.head? = some b → a ≠ -b) → Red (u ++ v)
  | [], v, _, h, _ => h
  | [x], [], _, _, _ => trivial
  | [x], y :: v, _, h, j => ⟨j x y rfl rfl, h⟩
  | x :: y :: u, v, h1, h2, j => ⟨h1.1, red_joint (u := y :: u) h1.2 h2 fun a b e1 e2 => j a b (by simpa using e1) e2⟩
theorem Red.left : ∀ {u v : List Int}, Red (u ++ v) → Red u
  | [], _, _ => trivial
  | [_], _, _ => trivial
  | x :: y :: u, v, h => ⟨h.1, Red.left (u := y :: u) (v := v) h.2⟩
theorem Red.right : ∀ {u v : List Int}, Red (u ++ v) → Red v
  | [], _, h => h
  | x :: u, v, h => Red.right (u := u) (v := v) (Red.tail (by simpa using h))
theorem Red.joint : ∀ {u v : List Int} {a b : Int}, Red (u ++ v) → u.getLast? = some a → v.head? = some b → a ≠ -b
  | [], _, _, _, _, e, _ => by simp at e
  | [x], [], _, _, _, _, e => by simp at e
  | [x], y :: v, a, b, h, e1, e2 => by simp at e1 e2; subst e1 e2; exact h.1
  | x :: y :: u, v, a, b, h, e1, e2 => Red.joint (u := y :: u) (v := v) h.2 (by simpa using e1) e2
theorem red_snoc {w : List Int} {x : Int} (h : Red w) (n : ∀ a, w.getLast? = some a → a ≠ -x) : Red (w ++ [x]) :=
  red_joint h trivial fun a b e1 e2 => by simp at e2; subst e2; exact n a e1
theorem Red.inv : ∀ {w : List Int}, Red w → Red (PW.inv w)
  | [], _ => trivial
  | [x], _ => trivial
  | x :: y :: r, h => by
    have ih := Red.inv h.2
    rw [inv_cons]
    refine red_snoc ih fun a e => ?_
    rw [inv_cons] at e
    simp at e
    subst e
    have := h.1
    omega
theorem red_inv (xs : List Int) : red (inv xs) = inv (red xs) := by
  induction xs with
  | nil => rfl
  | cons x xs ih =>
    rw [inv_cons, ← red_left, ih]
    show red (inv (red xs) ++ [-x]) = inv (cons1 x (red xs))
    cases h : red xs with
    | nil => simp [inv, cons1, red]
    | cons y ys =>
      have r := red_red xs
      rw [h] at r
      rw [cons1_c]
      split
      · rename_i e
        subst e
        rw [inv_cons, List.append_assoc]
        show red (inv ys ++ -y :: (- -y) :: []) = inv ys
        rw [red_opp, List.append_nil]
        exact red_id (Red.inv r.tail)
      · rename_i n
        rw [← inv_cons]
        exact red_id (Red.inv (w := x :: y :: ys) ⟨n, r⟩)
theorem red_self_inv (xs : List Int) : red (xs ++ inv xs) = [] := by
  induction xs with
  | nil => rfl
  | cons x xs ih =>
    rw [inv_cons]
    show cons1 x (red (xs ++ (inv xs ++ [-x]))) = []
    rw [← List.append_assoc, ← red_left, ih]
    simp [red, cons1]
/-! ### so many times -/
theorem red_glue {u v t : List Int} (hv : v ≠ []) (h1 : Red (u ++ v)) (h2 : Red (v ++ t)) : Red (u ++ (v ++ t)) := by
  rw [← List.append_assoc]
  refine red_joint h1 h2.right fun a b e1 e2 => Red.joint h2 (a := a) ?_ e2
  rw [List.getLast?_append] at e1
  cases h : v.getLast? with
  | none => exact absurd (by simpa using h) hv
  | some x => rw [h] at e1; simpa using e1
def rep (n : Nat) (r : List Int) : List Int := (List.replicate n r).flatten
theorem rep_zero (r : List Int) : rep 0 r = [] := rfl
theorem rep_succ (n : Nat) (r : List Int) : rep (n + 1) r = r ++ rep n r := by simp [rep, List.replicate_succ]
theorem rep_one (r : List Int) : rep 1 r = r := by rw [rep_succ, rep_zero, List.append_nil]
theorem rep_snoc (n : Nat) (r : List Int) : rep (n + 1) r = rep n r ++ r := by
  induction n with
  | zero => rw [rep_one, rep_zero]; rfl
  | succ n ih => rw [rep_succ, ih, ← List.append_assoc, ← rep_succ, ih]
theorem rep_len (n : Nat) (r : List Int) : (rep n r).length = n * r.length := by
  induction n with
  | zero => simp [rep_zero]
  | succ n ih => rw [rep_succ, List.length_append, ih, Nat.succ_mul]; omega
theorem rep_nil (n : Nat) : rep n [] = [] := by
  induction n with
  | zero => rfl
  | succ n ih => rw [rep_succ, ih]; rfl
theorem red_rep_tail {r t : List Int} (hr : r ≠ []) (h1 : Red (r ++ t)) (h2 : Red (r ++ r)) : ∀ n, Red (rep (n + 1) r ++ t)
  | 0 => by rw [rep_one]; exact h1
  | n + 1 => by
    have ih := red_rep_tail hr h1 h2 n
    rw [rep_succ, List.append_assoc] at ih
    rw [rep_succ, rep_succ, List.append_assoc, List.append_assoc]
    exact red_glue hr h2 ih
theorem red_rep {h r t : List Int} (hr : r ≠ []) (h1 : Red (h ++ r ++ t)) (h2 : Red (r ++ r)) (n : Nat) : Red (h ++ (rep (n + 1) r ++ t)) := by
  have a : Red (h ++ r) := Red.left (v := t) h1
  have b : Red (r ++ t) := Red.right (u := h) (by rw [← List.append_assoc]; exact h1)
  have c := red_rep_tail hr b h2 n
  rw [rep_succ, List.append_assoc] at c ⊢
  exact red_glue hr a c
theorem red_mid (u v w : List Int) : red (u ++ (inv w ++ (w ++ v))) = red (u ++ v) := by
  have e : red (inv w ++ (w ++ v)) = red v := by
    rw [← List.append_assoc, ← red_left]
    have := red_self_inv (inv w)
    rw [inv_inv] at this
    rw [this]; rfl
  rw [red_append, e, ← red_append]
theorem rep_word (h r : List Int) : ∀ n, red (rep (n + 1) (h ++ r ++ inv h)) = red (h ++ (rep (n + 1) r ++ inv h))
  | 0 => by rw [rep_one, rep_one, List.append_assoc]
  | n + 1 => by
    rw [rep_succ, red_append, rep_word h r n, ← red_append, rep_succ (n + 1) r]
    rw [List.append_assoc (h ++ r), List.append_assoc h r, List.append_assoc r, ← List.append_assoc h r, ← List.append_assoc h r]
    exact red_mid (h ++ r) _ h
/-- so many times what turns to nothing in its middle -/
theorem rep_red {h r : List Int} (hr : r ≠ []) (w : Red (h ++ r ++ inv h)) (c : Red (r ++ r)) (n : Nat) : red (rep (n + 1) (h ++ r ++ inv h)) = h ++ (rep (n + 1) r ++ inv h) := by
  rw [rep_word]
  exact red_id (red_rep hr w c n)
theorem red_rep_red (n : Nat) (w : List Int) : red (rep n (red w)) = red (rep n w) := by
  induction n with
  | zero => rfl
  | succ n ih => rw [rep_succ, rep_succ, red_left, red_append, ih, ← red_append]
theorem inv_eq_nil {w : List Int} (h : inv w = []) : w = [] := by
  have := inv_length w
  rw [h] at this
  exact List.eq_nil_of_length_eq_zero this.symm
/-- the lesser word is what is left -/
theorem cons1_len (x : Int) (w : List Int) : (cons1 x w).length ≤ w.length + 1 := by
  cases w with
  | nil => simp [cons1]
  | cons y ys => rw [cons1_c]; split <;> simp <;> omega
theorem red_len : ∀ xs : List Int, (red xs).length ≤ xs.length
  | [] => Nat.le_refl _
  | x :: xs => by
    have h1 := cons1_len x (red xs)
    have h2 := red_len xs
    show (cons1 x (red xs)).length ≤ _
    simp only [List.length_cons]; omega
theorem cons1_mem {x z : Int} {w : List Int} (h : z ∈ cons1 x w) : z = x ∨ z ∈ w := by
  cases w with
  | nil => simp [cons1] at h; exact .inl h
  | cons y ys =>
    rw [cons1_c] at h
    split at h
    · exact .inr (List.mem_cons_of_mem _ h)
    · exact List.mem_cons.mp h
theorem red_mem {z : Int} : ∀ {xs : List Int}, z ∈ red xs → z ∈ xs
  | x :: xs, h => by
    rcases cons1_mem h with h | h
    · rw [h]; exact List.mem_cons_self
    · exact List.mem_cons_of_mem _ (red_mem h)
/-- from the left: the last is kept apart -/
def push (acc : List Int) (x : Int) : List Int := if acc.getLast? = some (-x) then acc.dropLast else acc ++ [x]
theorem push_ok {acc : List Int} {x : Int} (h : Red acc) : Red (push acc x) ∧ ∀ v, red (push acc x ++ v) = red (acc ++ x :: v) := by
  unfold push
  split
  · rename_i e
    have es : acc = acc.dropLast ++ [-x] := by
      have hne : acc ≠ [] := fun z => by subst z; simp at e
      have := List.dropLast_concat_getLast hne
      rw [List.getLast?_eq_getLast hne] at e
      rw [← this]
      simp at e
      simp [e]
    refine ⟨Red.left (v := [-x]) (by rw [← es]; exact h), fun v => ?_⟩
    conv => rhs; rw [es]
    rw [List.append_assoc]
    exact (red_opp' _ v (by simp)).symm
  · rename_i n
    exact ⟨red_snoc h fun a e z => n (by rw [e, z]), fun v => by simp⟩
theorem foldl_push {xs : List Int} : ∀ {acc : List Int}, Red acc → xs.foldl push acc = red (acc ++ xs) := by
  induction xs with
  | nil => intro acc h; simp [red_id h]
  | cons x xs ih =>
    intro acc h
    obtain ⟨h1, h2⟩ := push_ok (x := x) h
    rw [List.foldl_cons, ih h1, h2]
end PW

set_option linter.all false
/-! # PS: the mirror's combinators run, step by step -/
namespace PL
section
variable {δ : Env} {S : Sto} {a b c e m : ME} {as r : MA} {t u : MT} {s s' : MS} {f : MF} {i j n : Nat} {d : D} {v : D}
@[simp] theorem s_mVar : mVar i δ S = (match δ[i]? with | some (some d) => some (.ok d S) | _ => none) := rfl
@[simp] theorem s_mC : mC d δ S = some (.ok d S) := rfl
@[simp] theorem s_mBin {f} : mBin f a b δ S = bE (a δ S) fun x S1 => bE (b δ S1) fun y S2 => (f x y).map fun z => .ok z S2 := rfl
@[simp] theorem s_mBinS {f} : mBinS f a b δ S = bE (a δ S) fun x S1 => bE (b δ S1) fun y S2 => (f S2 x y).map fun z => .ok z S2 := rfl
@[simp] theorem s_mUn {f} : mUn f a δ S = bE (a δ S) fun x S1 => (f x).map fun z => .ok z S1 := rfl
@[simp] theorem s_mNilA : mNilA δ S = some (.ok [] S) := rfl
@[simp] theorem s_mConsA : mConsA a r δ S = bEA (a δ S) fun x S1 => bAA (r δ S1) fun xs S2 => some (.ok (x :: xs) S2) := rfl
@[simp] theorem s_mCatA {r'} : mCatA r r' δ S = bAA (r δ S) fun xs S1 => bAA (r' δ S1) fun ys S2 => some (.ok (xs ++ ys) S2) := rfl
@[simp] theorem s_mBI {f} : mBI f as δ S = bA (as δ S) fun xs S1 => (f S1 xs).map fun z => .ok z S1 := rfl
@[simp] theorem s_mCall : mCall f as δ S = bA (as δ S) fun xs S1 => f xs S1 := rfl
@[simp] theorem s_mTup : mTup as δ S = bA (as δ S) fun xs S1 => if xs.length ≤ LINE then some (.ok (.tup xs) S1) else none := rfl
@[simp] theorem s_mLst : mLst as δ S = bA (as δ S) fun xs S1 => if xs.length ≤ LINE then some (.ok (.lst xs) S1) else none := rfl
@[simp] theorem s_mNewLst : mNewLst as δ S = bA (as δ S) fun xs S1 => if xs.length ≤ LINE ∧ D.pures xs = true then some (.ok (.ref S1.length) (S1 ++ [.lst xs])) else none := rfl
@[simp] theorem s_mB : mB e δ S = bET (e δ S) fun x S1 => (match x with | .bl b => some (.ok b S1) | _ => none) := rfl
@[simp] theorem s_mAndT : mAndT t u δ S = bTT (t δ S) fun c S1 => if c then u δ S1 else some (.ok false S1) := rfl
@[simp] theorem s_mOrT : mOrT t u δ S = bTT (t δ S) fun c S1 => if c then some (.ok true S1) else u δ S1 := rfl
@[simp] theorem s_mNotT : mNotT t δ S = bTT (t δ S) fun c S1 => some (.ok (!c) S1) := rfl
@[simp] theorem s_mAndV : mAndV a b δ S = bE (a δ S) fun x S1 => (match x with | .bl true => b δ S1 | .bl false => some (.ok (.bl false) S1) | _ => none) := rfl
@[simp] theorem s_mOrV : mOrV a b δ S = bE (a δ S) fun x S1 => (match x with | .bl true => some (.ok (.bl true) S1) | .bl false => b δ S1 | _ => none) := rfl
@[simp] theorem s_mNotV : mNotV a δ S = bE (a δ S) fun x S1 => (match x with | .bl c => some (.ok (.bl (!c)) S1) | _ => none) := rfl
@[simp] theorem s_mIf : mIf t a b δ S = bT (t δ S) fun c S1 => if c then a δ S1 else b δ S1 := rfl
@[simp] theorem s_mChain {f g} : mChain f g a b c δ S = bE (a δ S) fun x S1 => bE (b δ S1) fun y S2 => (match f x y with
  | some (.bl true) => bE (c δ S2) fun z S3 => (g y z).map fun v => .ok v S3
  | some (.bl false) => some (.ok (.bl false) S2)
  | _ => none) := rfl
@[simp] theorem s_mPass : mPass δ S = some (.nx δ S) := rfl
@[simp] theorem s_mSeq : mSeq s s' δ S = bS (s δ S) s' := rfl
@[simp] theorem s_mNever : mNever δ S = none := rfl
@[simp] theorem s_mSet : mSet i e δ S = bES δ (e δ S) fun d S1 => some (.nx (δ.set i (some d)) S1) := rfl
@[simp] theorem s_mDrop : mDrop e δ S = bES δ (e δ S) fun _ S1 => some (.nx δ S1) := rfl
@[simp] theorem s_mRet : mRet e δ S = bES δ (e δ S) fun d S1 => some (.rt d S1) := rfl
@[simp] theorem s_mRetN : mRetN δ S = some (.rt .non S) := rfl
@[simp] theorem s_mIfS : mIfS t s s' δ S = bTS δ (t δ S) fun c S1 => if c then s δ S1 else s' δ S1 := rfl
@[simp] theorem s_mPar : mPar i j a b δ S = bES δ (a δ S) fun x S1 => bES δ (b δ S1) fun y S2 => some (.nx ((δ.set i (some x)).set j (some y)) S2) := rfl
@[simp] theorem s_mAsg {tg} : mAsg tg e δ S = bES δ (e δ S) fun d S1 => (tg.put d δ).map fun δ' => .nx δ' S1 := rfl
@[simp] theorem s_put_name : (Tg.name i).put d δ = some (δ.set i (some d)) := by simp [Tg.put]
@[simp] theorem s_put_tup {ts ds} : (Tg.tup ts).put (.tup ds) δ = Tg.puts ts ds δ := by simp [Tg.put]
@[simp] theorem s_puts_nil : Tg.puts [] [] δ = some δ := by simp [Tg.puts]
@[simp] theorem s_puts_cons {tg ts ds} : Tg.puts (tg :: ts) (d :: ds) δ = (match tg.put d δ with | some δ' => Tg.puts ts ds δ' | none => none) := by
  first
    | (simp only [Tg.puts]; done)
    | (simp only [Tg.puts]; cases tg.put d δ <;> rfl)
@[simp] theorem s_mFor {tg it} : mFor tg it s δ S = bAS δ (it δ S) fun ds S1 => forL tg s ds δ S1 := rfl
@[simp] theorem s_mItSeq : mItSeq e δ S = bEA (e δ S) fun x S1 => (match x with | .tup xs => some (.ok xs S1) | .lst xs => some (.ok xs S1) | _ => none) := rfl
@[simp] theorem s_mItRange1 : mItRange1 e δ S = bEA (e δ S) fun x S1 => (match x with
  | .int n => if n.natAbs < 4611686018427387904 then some (.ok (rangeD 0 n.toNat) S1) else none
  | _ => none) := rfl
@[simp] theorem s_mItEnum : mItEnum e δ S = bEA (e δ S) fun x S1 => (match x with | .tup xs => some (.ok (enumD 0 xs) S1) | .lst xs => some (.ok (enumD 0 xs) S1) | _ => none) := rfl
@[simp] theorem s_mTrue : mTrue δ S = some (.ok true S) := rfl
@[simp] theorem s_mComp {vs tg it} : mComp vs tg it t e δ S = bA (mCompA vs tg it t e δ S) fun xs S1 => some (.ok (.lst xs) S1) := rfl
@[simp] theorem s_mCompA {vs tg it} : mCompA vs tg it t e δ S = bAA (it δ S) fun ds S1 => if ds.length ≤ LINE then compL tg t e (wipeD δ vs) ds [] S1 else none := rfl
@[simp] theorem s_mNewComp {vs tg it} : mNewComp vs tg it t e δ S = bA (mCompA vs tg it t e δ S) fun xs S1 => if D.pures xs then some (.ok (.ref S1.length) (S1 ++ [.lst xs])) else none := rfl
@[simp] theorem s_mAppend : mAppend m e δ S = bE (m δ S) fun x S1 => (match getL S1 x with
  | some _ => bE (e δ S1) fun y S2 => (match getL S2 x with
    | some (n, xs) => if xs.length < LINE ∧ y.pure = true then some (.ok .non (S2.set n (.lst (xs ++ [y])))) else none
    | none => none)
  | none => none) := rfl
@[simp] theorem s_mPop : mPop m δ S = bE (m δ S) fun x S1 => (match getL S1 x with
  | some (n, xs) => (match xs[xs.length - 1]? with
    | some y => some (.ok y (S1.set n (.lst xs.dropLast)))
    | none => none)
  | none => none) := rfl
@[simp] theorem s_mFn {np nl} {ds : List D} : mFn np nl s ds S = if ds.length = np then (match s (ds.map some ++ List.replicate nl none) S with
  | some (.rt d S1) => if d.pure then some (.ok d (S1.take S.length)) else none
  | some (.nx _ S1) => some (.ok .non (S1.take S.length))
  | some (.ex x _ S1) => if x.val.pure then some (.ex x (S1.take S.length)) else none
  | _ => none) else none := rfl
@[simp] theorem s_mFnR {np nl} {ds : List D} : mFnR np nl s ds S = if ds.length = np then (match s (ds.map some ++ List.replicate nl none) S with
  | some (.rt d S1) => some (.ok d S1)
  | some (.nx _ S1) => some (.ok .non S1)
  | some (.ex x _ S1) => some (.ex x S1)
  | _ => none) else none := rfl
@[simp] theorem s_mSlice {lo hi} : mSlice a lo hi δ S = bE (a δ S) fun x S1 =>
  let part (p : Option ME) (S : Sto) (k : Option Int → Sto → Option RE) : Option RE := match p with
    | none => k none S
    | some e => bE (e δ S) fun v S' => match v with
      | .int i => k (some i) S'
      | _ => none
  part lo S1 fun l S2 => part hi S2 fun h S3 => match x with
    | .tup xs => some (.ok (.tup (cut xs l h)) S3)
    | .lst xs => some (.ok (.lst (cut xs l h)) S3)
    | .str xs => if xs.length ≤ LINE then some (.ok (.str (cut xs l h)) S3) else none
    | _ => none := rfl
@[simp] theorem s_mLawAt : mLawAt m δ S = bE (m δ S) fun x S1 => (match lawOf S1 x with | some (_, _, k, _) => some (.ok (.int k) S1) | none => none) := rfl
@[simp] theorem s_mLawCells : mLawCells m δ S = bE (m δ S) fun x S1 => (match lawOf S1 x with | some (_, c, _, _) => some (.ok (.lst (c.map .int)) S1) | none => none) := rfl
@[simp] theorem s_mLawNe : mLawNe m δ S = bE (m δ S) fun x S1 => (match lawOf S1 x with | some (_, _, _, l) => some (.ok (.bl (!l.isEmpty)) S1) | none => none) := rfl
@[simp] theorem s_mLawL0 : mLawL0 m δ S = bE (m δ S) fun x S1 => (match lawOf S1 x with | some (_, _, _, h :: _) => some (.ok (.int h) S1) | _ => none) := rfl
@[simp] theorem s_mLawSet0 : mLawSet0 m e δ S = bES δ (e δ S) fun v S1 => bES δ (m δ S1) fun x S2 => (match v, lawOf S2 x with
  | .int i, some (n, c, k, _ :: t) => some (.nx δ (S2.set n (.law c k (i :: t))))
  | _, _ => none) := rfl
@[simp] theorem s_mLawTail : mLawTail i δ S = bES δ (mVar i δ S) fun x S1 => (match lawOf S1 x with
  | some (n, c, k, _ :: t) => some (.nx δ (S1.set n (.law c k t)))
  | _ => none) := rfl
@[simp] theorem s_mLawSetAt : mLawSetAt m e δ S = bES δ (e δ S) fun v S1 => bES δ (m δ S1) fun x S2 => (match v, lawOf S2 x with
  | .int i, some (n, c, _, l) => if 0 ≤ i then some (.nx δ (S2.set n (.law c i.toNat l))) else none
  | _, _ => none) := rfl
@[simp] theorem s_mFreeze : mFreeze e δ S = bE (e δ S) fun x S1 => (match x with
  | .lst xs => some (.ok (.lst xs) S1)
  | x => match getL S1 x with
    | some (n, xs) => some (.ok (.lst xs) (S1.set n .dead))
    | none => none) := rfl
end
/-! ### the store's last object -/
@[simp] theorem cat_get {α : Type} (l : List α) (x : α) : (l ++ [x])[l.length]? = some x := by simp
@[simp] theorem cat_set {α : Type} (l : List α) (x y : α) : (l ++ [x]).set l.length y = l ++ [y] := by simp
@[simp] theorem cat_take {α : Type} (l m : List α) : (l ++ m).take l.length = l := by simp
@[simp] theorem take_all {α : Type} (l : List α) : l.take l.length = l := by simp
/-! ### loops -/
theorem forL_nil {t : Tg} {b : MS} {δ : Env} {S : Sto} : forL t b [] δ S = some (.nx δ S) := by unfold forL; rfl
/-- by a word of what is left to be walked -/
theorem forL_run {t : Tg} {b : MS} (P : List D → Env → Sto → Prop)
    (h : ∀ d ds δ S, P (d :: ds) δ S → ∃ δ1, t.put d δ = some δ1 ∧ ∃ δ2 S2, (b δ1 S = some (.nx δ2 S2) ∨ b δ1 S = some (.ct δ2 S2)) ∧ P ds δ2 S2) :
    ∀ ds δ S, P ds δ S → ∃ δ' S', forL t b ds δ S = some (.nx δ' S') ∧ P [] δ' S'
  | [], δ, S, p => ⟨δ, S, forL_nil, p⟩
  | d :: ds, δ, S, p => by
    obtain ⟨δ1, h1, δ2, S2, h2, h3⟩ := h d ds δ S p
    obtain ⟨δ', S', e, p'⟩ := forL_run P h ds δ2 S2 h3
    refine ⟨δ', S', ?_, p'⟩
    unfold forL
    rw [h1]
    rcases h2 with h2 | h2 <;> (simp only [h2]; exact e)
theorem mWhile_eq (c : MT) (b : MS) (δ : Env) (S : Sto) : mWhile c b δ S = (match c δ S with
  | some (.ok true S1) => match b δ S1 with
    | some (.nx δ2 S2) => mWhile c b δ2 S2
    | some (.ct δ2 S2) => mWhile c b δ2 S2
    | some (.bk δ2 S2) => some (.nx δ2 S2)
    | some (.rt d S2) => some (.rt d S2)
    | some (.ex x δ2 S2) => some (.ex x δ2 S2)
    | none => none
  | some (.ok false S1) => some (.nx δ S1)
  | some (.ex x S1) => some (.ex x δ S1)
  | none => none) := mWhile.eq_def c b δ S
/-- by a word with a measure -/
theorem while_run {c : MT} {b : MS} (P : Nat → Env → Sto → Prop) (R : RS → Prop)
    (h : ∀ n δ S, P n δ S → (∃ S1, c δ S = some (.ok false S1) ∧ R (.nx δ S1)) ∨ ∃ S1, c δ S = some (.ok true S1) ∧
      ((∃ δ2 S2 m, (b δ S1 = some (.nx δ2 S2) ∨ b δ S1 = some (.ct δ2 S2)) ∧ m < n ∧ P m δ2 S2) ∨ (∃ d S2, b δ S1 = some (.rt d S2) ∧ R (.rt d S2)) ∨ ∃ δ2 S2, b δ S1 = some (.bk δ2 S2) ∧ R (.nx δ2 S2))) :
    ∀ n δ S, P n δ S → ∃ r, mWhile c b δ S = some r ∧ R r := by
  intro n
  induction n using Nat.strongRecOn with
  | _ n ih =>
    intro δ S p
    rw [mWhile_eq]
    rcases h n δ S p with ⟨S1, e, q⟩ | ⟨S1, e, q⟩
    · rw [e]; exact ⟨_, rfl, q⟩
    · rw [e]
      rcases q with ⟨δ2, S2, m, e2, l, q⟩ | ⟨d, S2, e2, q⟩ | ⟨δ2, S2, e2, q⟩
      · rcases e2 with e2 | e2 <;> (simp only [e2]; exact ih m l δ2 S2 q)
      · simp only [e2]; exact ⟨_, rfl, q⟩
      · simp only [e2]; exact ⟨_, rfl, q⟩
/-- a comprehension whose parts leave the store alone -/
theorem compL_run {t : Tg} {c : MT} {e : ME} {δ : Env} {S : Sto} (p : D → Bool) (f : D → D) : ∀ (ds acc : List D),
    (∀ d ∈ ds, ∃ δ1, t.put d δ = some δ1 ∧ c δ1 S = some (.ok (p d) S) ∧ (p d = true → e δ1 S = some (.ok (f d) S))) → compL t c e δ ds acc S = some (.ok (acc ++ (ds.filter p).map f) S)
  | [], acc, _ => by unfold compL; simp
  | d :: ds, acc, h => by
    obtain ⟨δ1, h1, h2, h3⟩ := h d List.mem_cons_self
    have ih := fun acc => compL_run p f ds acc fun d' hd' => h d' (List.mem_cons_of_mem _ hd')
    unfold compL
    rw [h1]
    simp only [h2]
    cases hp : p d with
    | true => simp only [h3 hp, ih, List.filter_cons, hp]; simp
    | false => simp only [ih, List.filter_cons, hp]; simp
end PL

set_option linter.all false
set_option maxRecDepth 10000
/-! # K01p: k01's law holds, in plain Lean -/
namespace K01
open PL PW
/-- whole numbers as the mirror has them -/
def intD (xs : List Int) : List D := xs.map .int
/-- a course as the mirror has it -/
abbrev T (xs : List Int) : D := .tup (intD xs)
/-- a list of whole numbers -/
abbrev L (xs : List Int) : D := .lst (intD xs)
theorem intD_nil : intD [] = [] := rfl
theorem intD_cons (x : Int) (xs : List Int) : intD (x :: xs) = .int x :: intD xs := rfl
@[simp] theorem intD_len (xs : List Int) : (intD xs).length = xs.length := by simp [intD]
@[simp] theorem intD_app (xs ys : List Int) : intD xs ++ intD ys = intD (xs ++ ys) := by simp [intD]
@[simp] theorem intD_snoc (xs : List Int) (x : Int) : intD xs ++ [.int x] = intD (xs ++ [x]) := by simp [intD]
@[simp] theorem intD_pop (xs : List Int) : (intD xs).dropLast = intD xs.dropLast := by simp [intD]
@[simp] theorem intD_get (xs : List Int) (i : Nat) : (intD xs)[i]? = (xs[i]?).map .int := by simp [intD]
@[simp] theorem intD_drop (xs : List Int) (i : Nat) : (intD xs).drop i = intD (xs.drop i) := by simp [intD]
@[simp] theorem intD_take (xs : List Int) (i : Nat) : (intD xs).take i = intD (xs.take i) := by simp [intD]
@[simp] theorem intD_rev (xs : List Int) : (intD xs).reverse = intD xs.reverse := by simp [intD]
@[simp] theorem pures_intD (xs : List Int) : D.pures (intD xs) = true := by
  induction xs with
  | nil => rfl
  | cons x xs ih => simpa [intD, D.pures, D.pure] using ih
@[simp] theorem T_pure (xs : List Int) : (T xs).pure = true := by simp [T, D.pure]
@[simp] theorem T_pure' (xs : List Int) : (D.tup (intD xs)).pure = true := T_pure xs
theorem okNs_intD (xs : List Int) (n : Nat) : D.okNs (intD xs) n = true := by
  induction xs with
  | nil => rfl
  | cons x xs ih => simpa [intD, D.okNs, D.okN] using ih
@[simp] theorem T_okN (xs : List Int) (n : Nat) : (T xs).okN (n + 1) = true := by simpa [T, D.okN] using okNs_intD xs n
theorem eqDs_intD (xs ys : List Int) : eqDs (intD xs) (intD ys) = decide (xs = ys) := by
  unfold intD
  induction xs generalizing ys with
  | nil => cases ys <;> simp [eqDs]
  | cons x xs ih => cases ys with
    | nil => simp [eqDs]
    | cons y ys => simp [eqDs, eqD, ih, Bool.decide_and, Bool.beq_eq_decide_eq]
@[simp] theorem T_eq (xs ys : List Int) : eqD (T xs) (T ys) = decide (xs = ys) := by simpa [T, eqD] using eqDs_intD xs ys
@[simp] theorem eqD_int (a b : Int) : eqD (.int a) (.int b) = decide (a = b) := by simp [eqD, Bool.beq_eq_decide_eq]
@[simp] theorem okN_int (a : Int) (n : Nat) : (D.int a).okN n = true := by simp [D.okN]
@[simp] theorem pure_int (a : Int) : (D.int a).pure = true := rfl
@[simp] theorem pure_bl (a : Bool) : (D.bl a).pure = true := rfl
@[simp] theorem pure_non : D.non.pure = true := rfl
@[simp] theorem eq_int (a b : Int) : opEq (.int a) (.int b) = some (.bl (decide (a = b))) := by simp [opEq, opEqO, opEqO]
@[simp] theorem ne_int (a b : Int) : opNe (.int a) (.int b) = some (.bl (!decide (a = b))) := by simp [opNe, opNeO, opNeO]
@[simp] theorem lt_int (a b : Int) : opLt (.int a) (.int b) = some (.bl (decide (a < b))) := rfl
@[simp] theorem le_int (a b : Int) : opLe (.int a) (.int b) = some (.bl (decide (a ≤ b))) := rfl
@[simp] theorem gt_int (a b : Int) : opGt (.int a) (.int b) = some (.bl (decide (b < a))) := rfl
@[simp] theorem ge_int (a b : Int) : opGe (.int a) (.int b) = some (.bl (decide (b ≤ a))) := rfl
@[simp] theorem add_int (a b : Int) : opAdd (.int a) (.int b) = some (.int (a + b)) := rfl
@[simp] theorem sub_int (a b : Int) : opSub (.int a) (.int b) = some (.int (a - b)) := rfl
@[simp] theorem neg_int (a : Int) : opNeg (.int a) = some (.int (-a)) := rfl
@[simp] theorem len_T (S : Sto) (xs : List Int) : biLen S [T xs] = some (.int xs.length) := by simp [biLen, T, seqOf]
@[simp] theorem eq_T (xs ys : List Int) : opEq (T xs) (T ys) = some (.bl (decide (xs = ys))) := by simp [opEq, opEqO, opEqO]
@[simp] theorem ne_T (xs ys : List Int) : opNe (T xs) (T ys) = some (.bl (!decide (xs = ys))) := by simp [opNe, opNeO, opNeO]
theorem eval_if {c : Prop} [Decidable c] {α : Type} {a b : α} (h : c) : (if c then a else b) = a := if_pos h
section
variable {S : Sto}
theorem is_number_ok (i : Int) : M_is_number [.int i] S = some (.ok (.bl true) S) := by
  simp [M_is_number, opIsI, isInt, isBool, D.pure]
theorem is_among_ok (i a b : Int) : M_is_among [.int i, .int a, .int b] S = some (.ok (.bl (decide (a ≤ i ∧ i ≤ b))) S) := by
  by_cases h : a ≤ i <;> simp [M_is_among, is_number_ok, opLe, D.pure, h]
theorem need_letters_ok {l : Int} (h : 1 ≤ l ∧ l ≤ 8) : M_need_letters [.int l] S = some (.ok (.int l) S) := by
  simp [M_need_letters, is_among_ok, D.pure, h]
theorem is_tuple_of_ok (xs : List Int) (a b : Int) : M_is_tuple_of [T xs, .int a, .int b] S = some (.ok (.bl (decide (a ≤ xs.length ∧ (xs.length : Int) ≤ b))) S) := by
  by_cases h : a ≤ (xs.length : Int) <;> simp [M_is_tuple_of, T, opIsI, isTuple, biLen, seqOf, h]
theorem is_step_ok (l i : Int) : M_is_step [.int l, .int i] S = some (.ok (.bl (decide (i ≠ 0 ∧ -l ≤ i ∧ i ≤ l))) S) := by
  by_cases h : i = 0 <;> by_cases h2 : -l ≤ i <;> simp [M_is_step, is_number_ok, h, h2]
/-- a course of these letters -/
def Good (l : Int) (xs : List Int) : Prop := xs.length ≤ 2000 ∧ ∀ x ∈ xs, x ≠ 0 ∧ -l ≤ x ∧ x ≤ l
theorem need_course_ok {l : Int} {xs : List Int} (h : 1 ≤ l ∧ l ≤ 8) (g : Good l xs) : M_need_course [.int l, T xs] S = some (.ok (T xs) S) := by
  have loop : ∀ y z, ∃ δ', L_need_course_1 [some (.int l), some (T xs), y, z] S = some (.nx δ' S) ∧ ∃ y z, δ' = [some (.int l), some (T xs), y, z] := by
    intro y z
    obtain ⟨δ', S', e, es, _, _, y', z', _, _, e2⟩ := forL_run (t := .tup [.name 2, .name 3]) (b := mIfS (mNotT (mB (mCall M_is_step (mConsA (mVar 0) (mConsA (mVar 3) mNilA))))) mNever mPass)
      (fun ds δ S' => S' = S ∧ ∃ k ys y z, ds = enumD k (intD ys) ∧ (∀ x ∈ ys, x ≠ 0 ∧ -l ≤ x ∧ x ≤ l) ∧ δ = [some (.int l), some (T xs), y, z]) (by
        rintro d ds δ S' ⟨rfl, k, ys, y, z, e, hy, rfl⟩
        cases ys with
        | nil => simp [intD_nil, enumD] at e
        | cons x ys =>
          simp only [intD_cons, enumD, List.cons.injEq] at e
          obtain ⟨rfl, rfl⟩ := e
          have hx := hy x List.mem_cons_self
          refine ⟨[some (.int l), some (T xs), some (.int k), some (.int x)], by simp, [some (.int l), some (T xs), some (.int k), some (.int x)], S', .inl ?_, rfl, k + 1, ys, _, _, rfl, fun x h => hy x (List.mem_cons_of_mem _ h), rfl⟩
          simp [is_step_ok, hx]) (enumD 0 (intD xs)) [some (.int l), some (T xs), y, z] S ⟨rfl, 0, xs, y, z, rfl, g.2, rfl⟩
    subst es
    exact ⟨δ', by simp [L_need_course_1, T] at e ⊢; exact e, y', z', e2⟩
  obtain ⟨δ', e, y', z', rfl⟩ := loop none none
  have hl : (xs.length : Int) ≤ 2000 := by have := g.1; omega
  simp [M_need_course, need_letters_ok h, is_tuple_of_ok, hl, e]
/-! ### plain_of -/
@[simp] theorem neS_eq (S : Sto) (x y : D) : opNeS S x y = opNeO (rsv S x) (rsv S y) := rfl
@[simp] theorem neO_lst (xs ys : List D) : opNeO (.lst xs) (.lst ys) = opNe (.lst xs) (.lst ys) := rfl
@[simp] theorem eqO_lst (xs ys : List D) : opEqO (.lst xs) (.lst ys) = opEq (.lst xs) (.lst ys) := rfl
@[simp] theorem eqS_eq (S : Sto) (x y : D) : opEqS S x y = opEqO (rsv S x) (rsv S y) := rfl
@[simp] theorem rsv_last (ds : List D) : rsv (S ++ [.lst ds]) (.ref S.length) = .lst ds := by simp [rsv]
@[simp] theorem rsv_lst (S : Sto) (ds : List D) : rsv S (.lst ds) = .lst ds := rfl
@[simp] theorem ne_lst (xs ys : List Int) : opNe (.lst (intD xs)) (.lst (intD ys)) = some (.bl (!decide (xs = ys))) := by
  simp [opNe, opNeO, D.okN, okNs_intD, eqD, eqDs_intD]
@[simp] theorem ne_nil (xs : List Int) : opNe (.lst (intD xs)) (.lst []) = some (.bl (!decide (xs = []))) := ne_lst xs []
@[simp] theorem getL_last (ds : List D) : getL (S ++ [.lst ds]) (.ref S.length) = some (S.length, ds) := by simp [getL]
theorem last_get {acc : List Int} {a : Int} (h : acc.getLast? = some a) : acc[acc.length - 1]? = some a := by rw [← List.getLast?_eq_getElem?]; exact h
theorem last_pos {acc : List Int} {a : Int} (h : acc.getLast? = some a) : 0 < acc.length := by cases acc with
  | nil => simp at h
  | cons x r => simp
theorem ixN_last {n : Nat} (h : 0 < n) : ixN n (-1) = some (n - 1) := by
  unfold ixN
  rw [if_neg (by omega), if_pos (by omega)]
  congr 1; omega
theorem ix_last {acc : List Int} {a : Int} (h : acc.getLast? = some a) : opIx (S ++ [.lst (intD acc)]) (.ref S.length) (.int (-1)) = some (.int a) := by
  simp only [opIx, seqOf, cat_get, Option.bind_some, intD_len, ixN_last (last_pos h)]
  simp [last_get h]
theorem plain_of_ok {xs : List Int} (h : xs.length ≤ 2000) : M_plain_of [T xs] S = some (.ok (T (red xs)) S) := by
  have loop : ∃ z, L_plain_of_1 [some (T xs), some (.ref S.length), none] (S ++ [.lst []]) = some (.nx [some (T xs), some (.ref S.length), z] (S ++ [.lst (intD (red xs))])) := by
    obtain ⟨δ', S', e, ys, acc, z, e1, rfl, r, e2, _, rfl⟩ := forL_run (t := .name 2) (b := mIfS (mAndT (mB (mBinS opNeS (mVar 1) (mLst mNilA))) (mB (mBin opEq (mBinS opIx (mVar 1) (mUn opNeg (mC (.int 1)))) (mUn opNeg (mVar 2))))) (mDrop (mPop (mVar 1))) (mDrop (mAppend (mVar 1) (mVar 2))))
      (fun ds δ S' => ∃ ys acc z, ds = intD ys ∧ S' = S ++ [.lst (intD acc)] ∧ Red acc ∧ red (acc ++ ys) = red xs ∧ acc.length + ys.length ≤ 2000 ∧ δ = [some (T xs), some (.ref S.length), z]) (by
        rintro d ds δ S' ⟨ys, acc, z, e, rfl, r, e2, hl, rfl⟩
        cases ys with
        | nil => simp [intD_nil] at e
        | cons x ys =>
          simp only [intD_cons, List.cons.injEq] at e
          obtain ⟨rfl, rfl⟩ := e
          simp only [List.length_cons] at hl
          have pk := push_ok (x := x) r
          refine ⟨[some (T xs), some (.ref S.length), some (.int x)], by simp, [some (T xs), some (.ref S.length), some (.int x)], S ++ [.lst (intD (push acc x))], .inl ?_, ys, push acc x, _, rfl, rfl, pk.1, by rw [pk.2]; exact e2, ?_, rfl⟩
          · have hl2 : acc.length < 16777216 := by omega
            cases hg : acc.getLast? with
            | none =>
              have : acc = [] := by simpa using hg
              subst this
              simp [push, LINE]
            | some a =>
              have hne : acc ≠ [] := fun z => by subst z; simp at hg
              by_cases q : a = -x
              · subst q
                simp [push, hg, LINE, ix_last hg, hne, last_get hg]
              · simp [push, hg, LINE, ix_last hg, hne, q, hl2]
          · have : (push acc x).length ≤ acc.length + 1 := by unfold push; split <;> simp <;> omega
            omega) (intD xs) [some (T xs), some (.ref S.length), none] (S ++ [.lst []]) ⟨xs, [], none, rfl, rfl, trivial, rfl, by simpa using h, rfl⟩
    have : ys = [] := by simpa [intD] using e1.symm
    subst this
    rw [List.append_nil, red_id r] at e2
    subst e2
    exact ⟨z, by simp [L_plain_of_1, T] at e ⊢; exact e⟩
  obtain ⟨z, e⟩ := loop
  simp [M_plain_of, e, D.pures, LINE, biTuple]
theorem cut_all (xs : List Int) (lo hi : Option Int) : cut (intD xs) lo hi = intD (cut xs lo hi) := by simp [cut]
@[simp] theorem rev_T (xs : List Int) : opRev (T xs) = some (T xs.reverse) := by simp [opRev, T]
@[simp] theorem tuple_L (S : Sto) (xs : List Int) : biTuple S [L xs] = some (T xs) := rfl
@[simp] theorem tuple_lst (S : Sto) (xs : List D) : biTuple S [.lst xs] = some (.tup xs) := rfl
theorem back_of_ok {xs : List Int} (h : xs.length ≤ 2000) : M_back_of [T xs] S = some (.ok (T (inv xs)) S) := by
  have e := compL_run (t := .name 1) (c := mTrue) (e := mUn opNeg (mVar 1)) (δ := wipeD [some (T xs), none] [1]) (S := S) (fun _ => true) (fun d => (opNeg d).getD .non) (intD xs.reverse) [] (by
    intro d hd
    obtain ⟨x, _, rfl⟩ := List.mem_map.mp hd
    exact ⟨[some (T xs), some (.int x)], by simp [wipeD], rfl, fun _ => by simp⟩)
  have e2 : (List.map (fun d => (opNeg d).getD .non) (intD xs.reverse)) = intD (inv xs) := by
    simp [intD, inv, opNeg]
  have hl : xs.length ≤ 16777216 := by omega
  have hf : List.filter (fun _ => true) (intD xs.reverse) = intD xs.reverse := List.filter_eq_self.mpr fun _ _ => rfl
  rw [hf, e2] at e
  simp [M_back_of, LINE, hl, e]
/-! ### behind_of -/
theorem ix_T {xs : List Int} {n : Nat} {a : Int} {i : Int} (hi : i = n) (h : xs[n]? = some a) : opIx S (T xs) (.int i) = some (.int a) := by
  subst hi
  have hl : n < xs.length := (List.getElem?_eq_some_iff.mp h).1
  have e : ixN xs.length (n : Int) = some n := by
    unfold ixN
    rw [if_pos (by omega), if_pos (by omega)]
    simp
  simp only [opIx, seqOf, Option.bind_some, intD_len, e, intD_get, h]
  rfl
theorem cut_to {xs : List Int} {i : Int} {k : Nat} (hi : i = k) (h : k ≤ xs.length) : cut (intD xs) none (some i) = intD (xs.take k) := by
  subst hi
  rw [cut_all]
  unfold cut sIx
  simp
  rw [if_neg (by omega)]
  congr 2; omega
theorem cut_from {xs : List Int} {i : Int} {k : Nat} (hi : i = k) (h : k ≤ xs.length) : cut (intD xs) (some i) none = intD (xs.drop k) := by
  subst hi
  rw [cut_all]
  unfold cut sIx
  simp
  rw [if_neg (by omega)]
  rw [Nat.min_eq_left h]
  rw [List.take_of_length_le (by simp)]
theorem take_step {a : List Int} {k : Nat} {x : Int} (h : a[a.length - 1 - k]? = some x) (hk : k < a.length) : a.take (a.length - k) = a.take (a.length - (k + 1)) ++ [x] := by
  have : a.length - k = (a.length - (k + 1)) + 1 := by omega
  rw [this, List.take_add_one]
  have e : a.length - (k + 1) = a.length - 1 - k := by omega
  rw [e, h]
  rfl
theorem drop_step {b : List Int} {k : Nat} {y : Int} (h : b[k]? = some y) : b.drop k = y :: b.drop (k + 1) := by
  obtain ⟨hl, rfl⟩ := List.getElem?_eq_some_iff.mp h
  exact List.drop_eq_getElem_cons hl
theorem behind_end {a b : List Int} (ra : Red a) (rb : Red b) {k : Nat} (hk : k ≤ a.length ∧ k ≤ b.length) (n : ∀ x y, a[a.length - 1 - k]? = some x → k < a.length → b[k]? = some y → x ≠ -y) : Red (a.take (a.length - k) ++ b.drop k) := by
  refine red_joint (Red.left (v := a.drop (a.length - k)) (by rw [List.take_append_drop]; exact ra)) (Red.right (u := b.take k) (by rw [List.take_append_drop]; exact rb)) fun x y e1 e2 => ?_
  have hl : k < a.length := by
    by_cases q : k < a.length
    · exact q
    · have : a.length - k = 0 := by omega
      rw [this] at e1; simp at e1
  refine n x y ?_ hl (by rw [List.head?_drop] at e2; exact e2)
  rw [List.getLast?_eq_getElem?, List.length_take, List.getElem?_take_of_lt (by omega)] at e1
  rw [← e1]; congr 1; omega
@[simp] theorem min_intD (S : Sto) (i j : Int) : biMin S [.int i, .int j] = some (.int (if j < i then j else i)) := rfl
@[simp] theorem add_T (xs ys : List Int) : opAdd (.tup (intD xs)) (.tup (intD ys)) = if xs.length + ys.length ≤ LINE then some (T (xs ++ ys)) else none := by simp [opAdd]
theorem behind_of_ok {a b : List Int} (ra : Red a) (rb : Red b) (hl : a.length ≤ 2000 ∧ b.length ≤ 2000) : M_behind_of [T a, T b] S = some (.ok (T (red (a ++ b))) S) := by
  have loop : ∃ k : Nat, L_behind_of_1 [some (T a), some (T b), some (.int 0)] S = some (.nx [some (T a), some (T b), some (.int k)] S) ∧ k ≤ a.length ∧ k ≤ b.length ∧ a.take (a.length - k) ++ b.drop k = red (a ++ b) := by
    obtain ⟨r, e, k, rfl, h1, h2, h3⟩ := while_run (c := mAndT (mB (mBin opLt (mVar 2) (mBI biMin (mConsA (mBI biLen (mConsA (mVar 0) mNilA)) (mConsA (mBI biLen (mConsA (mVar 1) mNilA)) mNilA))))) (mB (mBin opEq (mBinS opIx (mVar 0) (mBin opSub (mBin opSub (mBI biLen (mConsA (mVar 0) mNilA)) (mC (.int 1))) (mVar 2))) (mUn opNeg (mBinS opIx (mVar 1) (mVar 2))))))
      (b := mSet 2 (mBin opAdd (mVar 2) (mC (.int 1))))
      (fun n δ S' => S' = S ∧ ∃ k : Nat, n = a.length - k ∧ k ≤ a.length ∧ k ≤ b.length ∧ red (a.take (a.length - k) ++ b.drop k) = red (a ++ b) ∧ δ = [some (T a), some (T b), some (.int k)])
      (fun r => ∃ k : Nat, r = .nx [some (T a), some (T b), some (.int k)] S ∧ k ≤ a.length ∧ k ≤ b.length ∧ a.take (a.length - k) ++ b.drop k = red (a ++ b)) (by
        rintro n δ S' ⟨rfl, k, rfl, h1, h2, h3, rfl⟩
        by_cases hk : k < a.length ∧ k < b.length
        · have ea : a[a.length - 1 - k]? = some a[a.length - 1 - k] := List.getElem?_eq_getElem (by omega)
          have eb : b[k]? = some b[k] := List.getElem?_eq_getElem hk.2
          have ha := ix_T (S := S') (i := (a.length : Int) - 1 - k) (by omega) ea
          have hb := ix_T (S := S') (i := (k : Int)) rfl eb
          have hmin : (k : Int) < (if b.length < a.length then (b.length : Int) else a.length) := by split <;> omega
          by_cases q : a[a.length - 1 - k] = -b[k]
          · refine .inr ⟨S', by simp [hmin, ha, hb, q], .inl ⟨[some (T a), some (T b), some (.int (k + 1 : Nat))], S', a.length - (k + 1), .inl (by simp), by omega, rfl, k + 1, rfl, by omega, by omega, ?_, rfl⟩⟩
            rw [take_step ea hk.1, drop_step eb, List.append_assoc] at h3
            rw [← h3]
            exact (red_opp' _ _ q).symm
          · refine .inl ⟨S', by simp [hmin, ha, hb, q], k, rfl, h1, h2, ?_⟩
            rw [← h3]
            exact (red_id (behind_end ra rb ⟨h1, h2⟩ fun x y e1 _ e2 => by rw [ea] at e1; rw [eb] at e2; cases e1; cases e2; exact q)).symm
        · have hmin : ¬ (k : Int) < (if b.length < a.length then (b.length : Int) else a.length) := by split <;> omega
          refine .inl ⟨S', by simp [hmin], k, rfl, h1, h2, ?_⟩
          rw [← h3]
          refine (red_id (behind_end ra rb ⟨h1, h2⟩ fun x y e1 z e2 => ?_)).symm
          have := (List.getElem?_eq_some_iff.mp e2).1
          omega) (a.length - 0) [some (T a), some (T b), some (.int 0)] S ⟨rfl, 0, rfl, by omega, by omega, by simp, rfl⟩
    exact ⟨k, e, h1, h2, h3⟩
  obtain ⟨k, e, h1, h2, h3⟩ := loop
  have c1 := cut_to (xs := a) (i := (a.length : Int) - k) (k := a.length - k) (by omega) (by omega)
  have c2 := cut_from (xs := b) (i := (k : Int)) rfl h2
  have hln : a.length - k + (b.length - k) ≤ 16777216 := by omega
  simp [M_behind_of, e, c1, c2, LINE, hln, h3]
/-! ### parted, times_of -/
theorem cut_mid {xs : List Int} {i j : Int} {k l : Nat} (hi : i = k) (hj : j = l) (h : k ≤ l ∧ l ≤ xs.length) : cut (intD xs) (some i) (some j) = intD ((xs.drop k).take (l - k)) := by
  subst hi hj
  rw [cut_all]
  unfold cut sIx
  simp
  rw [if_neg (by omega), if_neg (by omega), Nat.min_eq_left (by omega : k ≤ xs.length), Nat.min_eq_left h.2]
theorem ends {r : List Int} (h : 2 ≤ r.length) : ∃ x s y, r = x :: (s ++ [y]) := by
  cases r with
  | nil => simp at h
  | cons x r =>
    have hr : r ≠ [] := fun z => by subst z; simp at h
    exact ⟨x, r.dropLast, r.getLast hr, by rw [List.dropLast_concat_getLast]⟩
/-- a course, parted in its handle and its ring part -/
structure Parts (w h r : List Int) : Prop where
  eq : w = h ++ r ++ inv h
  cyc : Red w → (∀ x ∈ w, x ≠ 0) → Red (r ++ r)
theorem parted_ok {w : List Int} (hl : w.length ≤ 2000) : ∃ h r, M_parted [T w] S = some (.ok (.tup [T h, T r]) S) ∧ Parts w h r := by
  have loop : ∃ h r : List Int, L_parted_1 [some (T w), some (.int 0)] S = some (.nx [some (T w), some (.int h.length)] S) ∧ Parts w h r := by
    obtain ⟨r0, e, h, r, rfl, ew, cy⟩ := while_run (c := mAndT (mB (mBin opLt (mBin opAdd (mBin opMul (mC (.int 2)) (mVar 1)) (mC (.int 1))) (mBI biLen (mConsA (mVar 0) mNilA)))) (mB (mBin opEq (mBinS opIx (mVar 0) (mVar 1)) (mUn opNeg (mBinS opIx (mVar 0) (mBin opSub (mBin opSub (mBI biLen (mConsA (mVar 0) mNilA)) (mC (.int 1))) (mVar 1)))))))
      (b := mSet 1 (mBin opAdd (mVar 1) (mC (.int 1))))
      (fun n δ S' => S' = S ∧ ∃ h r : List Int, n = r.length ∧ w = h ++ r ++ inv h ∧ δ = [some (T w), some (.int h.length)])
      (fun r0 => ∃ h r : List Int, r0 = .nx [some (T w), some (.int h.length)] S ∧ w = h ++ r ++ inv h ∧ (r.length ≤ 1 ∨ ∃ x s y, r = x :: (s ++ [y]) ∧ x ≠ -y)) (by
        rintro n δ S' ⟨rfl, h, r, rfl, ew, rfl⟩
        have hlen : w.length = 2 * h.length + r.length := by rw [ew]; simp [inv_length]; omega
        have hm : opMul (.int 2) (.int h.length) = some (.int (2 * h.length)) := by simp [opMul]
        by_cases hk : 2 ≤ r.length
        · obtain ⟨x, s, y, rfl⟩ := ends hk
          have ex : w[h.length]? = some x := by rw [ew]; simp
          have ey : w[w.length - 1 - h.length]? = some y := by
            rw [hlen, ew]
            have : 2 * h.length + (x :: (s ++ [y])).length - 1 - h.length = (h ++ x :: s).length := by simp; omega
            rw [this]
            have : h ++ x :: (s ++ [y]) ++ inv h = (h ++ x :: s) ++ (y :: inv h) := by simp
            rw [this, List.getElem?_append_right (Nat.le_refl _)]
            simp
          have hx := ix_T (S := S') (i := (h.length : Int)) rfl ex
          have hy := ix_T (S := S') (i := (w.length : Int) - 1 - h.length) (by simp at hlen; omega) ey
          have hlt : (2 : Int) * h.length + 1 < w.length := by simp at hlen; omega
          by_cases q : x = -y
          · refine .inr ⟨S', by simp [hm, hlt, hx, hy, q], .inl ⟨[some (T w), some (.int (h ++ [x]).length)], S', s.length, .inl (by simp), by simp; omega, rfl, h ++ [x], s, rfl, ?_, rfl⟩⟩
            rw [ew, inv_append, q]
            simp [inv]
          · exact .inl ⟨S', by simp [hm, hlt, hx, hy, q], h, _, rfl, ew, .inr ⟨x, s, y, rfl, q⟩⟩
        · have hlt : ¬ (2 : Int) * h.length + 1 < w.length := by omega
          exact .inl ⟨S', by simp [hm, hlt], h, r, rfl, ew, .inl (by omega)⟩) w.length [some (T w), some (.int 0)] S ⟨rfl, [], w, rfl, by simp [inv], rfl⟩
    refine ⟨h, r, e, ew, fun rw nz => ?_⟩
    have rr : Red r := Red.right (u := h) (Red.left (v := inv h) (by rw [← ew]; exact rw))
    refine red_joint rr rr fun a b e1 e2 => ?_
    rcases cy with c | ⟨x, s, y, rfl, q⟩
    · cases r with
      | nil => simp at e1
      | cons x r =>
        have : r = [] := by simpa using c
        subst this
        simp at e1 e2
        subst e1 e2
        have := nz x (by rw [ew]; simp)
        omega
    · rw [← List.cons_append, List.getLast?_append] at e1
      simp at e1 e2
      subst e1 e2
      omega
  obtain ⟨h, r, e, p⟩ := loop
  refine ⟨h, r, ?_, p⟩
  have hlen : w.length = 2 * h.length + r.length := by rw [p.eq]; simp [inv_length]; omega
  have c1 := cut_to (xs := w) (i := (h.length : Int)) rfl (by omega)
  have c2 := cut_mid (xs := w) (i := (h.length : Int)) (j := (w.length : Int) - h.length) (k := h.length) (l := w.length - h.length) rfl (by omega) (by omega)
  have e1 : w.take h.length = h := by conv => lhs; rw [p.eq]; simp
  have e2 : (w.drop h.length).take (w.length - h.length - h.length) = r := by
    have : w.length - h.length - h.length = r.length := by omega
    rw [this]
    conv => lhs; rw [p.eq]
    simp
  rw [e1] at c1
  rw [e2] at c2
  simp [M_parted, e, c1, c2, LINE, D.pure, D.pures]
/-- so many times, taken back if below 0 -/
def pow (w : List Int) (m : Int) : List Int := if 0 ≤ m then rep m.toNat w else rep (-m).toNat (inv w)
@[simp] theorem abs_int (S : Sto) (i : Int) : biAbs S [.int i] = some (.int (if i < 0 then -i else i)) := rfl
theorem mul_T (xs : List Int) (n : Nat) (h : n ≤ 2000) (hl : xs.length * n ≤ 2000) : opMul (T xs) (.int n) = some (T (rep n xs)) := by
  have e : (List.replicate n (intD xs)).flatten = intD (rep n xs) := by
    induction n with
    | zero => rfl
    | succ n ih => rw [rep_succ, ← intD_app, ← ih (by omega) (by rw [Nat.mul_succ] at hl; omega)]; simp [List.replicate_succ]
  have h2 : xs.length * n ≤ 16777216 := by omega
  simp only [opMul, T, intD_len, LINE, Int.toNat_natCast, e]
  rw [if_pos ⟨by omega, h2⟩]
theorem times_of_ok {w : List Int} {m : Int} (rw' : Red w) (nz : ∀ x ∈ w, x ≠ 0) (hl : w.length ≤ 100) (hm : -10 ≤ m ∧ m ≤ 10) : M_times_of [T w, .int m] S = some (.ok (T (red (pow w m))) S) := by
  obtain ⟨h, r, e, p⟩ := parted_ok (S := S) (w := w) (by omega)
  have hlen : w.length = 2 * h.length + r.length := by rw [p.eq]; simp [inv_length]; omega
  have cy := p.cyc rw' nz
  have bh := back_of_ok (S := S) (xs := h) (by omega)
  have br := back_of_ok (S := S) (xs := r) (by omega)
  have two : opMul (.int 2) (.int h.length) = some (.int (2 * h.length)) := by simp [opMul]
  -- the ring part that is taken
  have fin : ∀ (q : List Int) (n : Nat), q.length = r.length → 1 ≤ n → n ≤ 10 → opMul (.tup (intD q)) (.int n) = some (T (rep n q)) ∧ opMul (.int q.length) (.int n) = some (.int (q.length * n)) ∧
      h.length + (rep n q).length + h.length ≤ 2000 ∧ (2 : Int) * h.length + q.length * n ≤ 2000 := fun q n hq h1 h2 => by
    have z : q.length * n ≤ 1000 := by
      have : q.length * n ≤ 100 * 10 := Nat.mul_le_mul (by omega) h2
      omega
    refine ⟨mul_T q n (by omega) (by omega), ?_, ?_, ?_⟩
    · simp only [opMul]; rw [if_pos (.inr (by omega))]
    · rw [rep_len, Nat.mul_comm]; omega
    · have : ((q.length * n : Nat) : Int) = (q.length : Int) * n := by simp
      omega
  have eqn : ∀ q : List Int, opEq (T q) (.tup []) = some (.bl (decide (q = []))) := fun q => eq_T q []
  by_cases hr : r = []
  · subst hr
    have hw : w = [] := by
      have e1 : w = h ++ inv h := by rw [p.eq]; simp
      have e2 := red_self_inv h
      rw [← e1, red_id rw'] at e2
      exact e2
    have hp : red (pow w m) = [] := by subst hw; unfold pow; split <;> simp [inv, rep_nil, red]
    have hi : inv [] = [] := rfl
    rw [hp]
    rw [hi] at br
    by_cases m0 : m < 0 <;> by_cases m1 : m = 0 <;> simp [M_times_of, e, m0, m1, br, eqn, LINE, intD_nil, D.pure, D.pures]
  · rcases Int.lt_trichotomy m 0 with m0 | m0 | m0
    · obtain ⟨n, rfl⟩ : ∃ n : Nat, m = -((n + 1 : Nat) : Int) := ⟨(-m).toNat - 1, by omega⟩
      obtain ⟨f1, f2, f3, f4⟩ := fin (inv r) (n + 1) (inv_length r) (by omega) (by omega)
      have hne : inv r ≠ [] := fun z => hr (inv_eq_nil z)
      have wi : inv w = h ++ inv r ++ inv h := by rw [p.eq]; simp [inv_append, inv_inv]
      have hp : red (pow w (-((n + 1 : Nat) : Int))) = h ++ (rep (n + 1) (inv r) ++ inv h) := by
        unfold pow
        rw [if_neg (by omega), show (- -((n + 1 : Nat) : Int)).toNat = n + 1 by omega, wi]
        refine rep_red hne (by rw [← wi]; exact Red.inv rw') ?_ n
        rw [← inv_append]; exact Red.inv cy
      rw [hp]
      have g1 : (if -((n + 1 : Nat) : Int) < 0 then - -((n + 1 : Nat) : Int) else -((n + 1 : Nat) : Int)) = ((n + 1 : Nat) : Int) := by rw [if_pos m0]; omega
      have g2 : -((n + 1 : Nat) : Int) ≠ 0 := by omega
      have g3 : ¬ (2000 : Int) < 2 * h.length + (inv r).length * ((n + 1 : Nat) : Int) := by omega
      have g4 : h.length + (rep (n + 1) (inv r)).length ≤ 16777216 := by omega
      have g5 : h.length + (rep (n + 1) (inv r)).length + (inv h).length ≤ 16777216 := by rw [inv_length]; omega
      generalize ((n + 1 : Nat) : Int) = z at *
      have z0 : 0 < z := by omega
      have z1 : ¬ z = 0 := by omega
      simp [M_times_of, e, z0, z1, br, bh, eqn, hne, two, f1, f2, g3, g4, g5, LINE, D.pure, D.pures]
    · subst m0
      have hp : red (pow w 0) = [] := by unfold pow; simp [rep_zero, red]
      rw [hp]
      simp [M_times_of, e, eqn, LINE, intD_nil, D.pure, D.pures]
    · obtain ⟨n, rfl⟩ : ∃ n : Nat, m = ((n + 1 : Nat) : Int) := ⟨m.toNat - 1, by omega⟩
      obtain ⟨f1, f2, f3, f4⟩ := fin r (n + 1) rfl (by omega) (by omega)
      have hp : red (pow w ((n + 1 : Nat) : Int)) = h ++ (rep (n + 1) r ++ inv h) := by
        unfold pow
        rw [if_pos (by omega), Int.toNat_natCast]
        conv => lhs; rw [p.eq]
        exact rep_red hr (by rw [← p.eq]; exact rw') cy n
      rw [hp]
      have g0 : ¬ ((n + 1 : Nat) : Int) < 0 := by omega
      have g2 : ((n + 1 : Nat) : Int) ≠ 0 := by omega
      have g3 : ¬ (2000 : Int) < 2 * h.length + r.length * ((n + 1 : Nat) : Int) := by omega
      have g4 : h.length + (rep (n + 1) r).length ≤ 16777216 := by omega
      have g5 : h.length + (rep (n + 1) r).length + (inv h).length ≤ 16777216 := by rw [inv_length]; omega
      generalize ((n + 1 : Nat) : Int) = z at *
      simp [M_times_of, e, g0, br, bh, eqn, hr, g2, two, f1, f2, g3, g4, g5, LINE, D.pure, D.pures]
/-! ### the defs above them -/
theorem Good.le {l : Int} {xs : List Int} (g : Good l xs) : xs.length ≤ 2000 := g.1
theorem Good.red {l : Int} {xs : List Int} (g : Good l xs) : Good l (red xs) := ⟨Nat.le_trans (red_len xs) g.1, fun x h => g.2 x (red_mem h)⟩
theorem is_plain_ok {l : Int} {xs : List Int} (h : 1 ≤ l ∧ l ≤ 8) (g : Good l xs) : M_is_plain [.int l, T xs] S = some (.ok (.bl (decide ((red xs).length = xs.length))) S) := by
  simp [M_is_plain, need_course_ok h g, plain_of_ok g.1]
  omega
theorem plain_course_ok {l : Int} {xs : List Int} (h : 1 ≤ l ∧ l ≤ 8) (g : Good l xs) : M_plain_course [.int l, T xs] S = some (.ok (T (red xs)) S) := by
  simp [M_plain_course, need_course_ok h g, plain_of_ok g.1]
theorem are_alike_ok {l : Int} {xs ys : List Int} (h : 1 ≤ l ∧ l ≤ 8) (g : Good l xs) (g2 : Good l ys) : M_are_alike [.int l, T xs, T ys] S = some (.ok (.bl (decide (red xs = red ys))) S) := by
  simp [M_are_alike, need_course_ok h g, need_course_ok h g2, plain_of_ok g.1, plain_of_ok g2.1]
theorem told_course_ok {xs : List Int} (h : xs.length ≤ 2000) : M_told_course [T xs] S = some (.ok (T xs) S) := by
  have : ¬ (2000 : Int) < xs.length := by omega
  simp [M_told_course, this]
theorem behind_ok {l : Int} {xs ys : List Int} (h : 1 ≤ l ∧ l ≤ 8) (g : Good l xs) (g2 : Good l ys) (hl : (red (xs ++ ys)).length ≤ 2000) : M_behind [.int l, T xs, T ys] S = some (.ok (T (red (xs ++ ys))) S) := by
  have e := behind_of_ok (S := S) (red_red xs) (red_red ys) ⟨g.red.1, g2.red.1⟩
  rw [red_both] at e
  simp [M_behind, need_course_ok h g, need_course_ok h g2, plain_of_ok g.1, plain_of_ok g2.1, e, told_course_ok hl]
theorem back_ok {l : Int} {xs : List Int} (h : 1 ≤ l ∧ l ≤ 8) (g : Good l xs) : M_back [.int l, T xs] S = some (.ok (T (red (inv xs))) S) := by
  simp [M_back, need_course_ok h g, plain_of_ok g.1, back_of_ok g.red.1, red_inv]
theorem times_ok {l m : Int} {xs : List Int} (h : 1 ≤ l ∧ l ≤ 8) (g : Good l xs) (hl : xs.length ≤ 100) (hm : -10 ≤ m ∧ m ≤ 10) : M_times [.int l, T xs, .int m] S = some (.ok (T (red (pow (red xs) m))) S) := by
  have e := times_of_ok (S := S) (w := red xs) (m := m) (red_red xs) (fun x hx => (g.red.2 x hx).1) (Nat.le_trans (red_len xs) hl) hm
  have h1 : -1000000000 ≤ m := by omega
  have h2 : m ≤ 1000000000 := by omega
  simp [M_times, need_course_ok h g, plain_of_ok g.1, is_among_ok, h1, h2, e]
/-! ### order -/
def kp (x : Int) : D := .tup [.int (if x < 0 then -x else x), .bl (decide (x < 0))]
def keyT (xs : List Int) : D := .tup [.int xs.length, .tup (xs.map kp)]
def kn (x : Int) : Int := 2 * (if x < 0 then -x else x) + (if x < 0 then 1 else 0)
def keyL (xs : List Int) : D := .tup [.int xs.length, .lst (intD (xs.map kn))]
theorem kps_pure (xs : List Int) : D.pures (xs.map kp) = true := by
  induction xs with
  | nil => rfl
  | cons x xs ih => simp [D.pures, kp, D.pure, ih]
theorem kps_ok (xs : List Int) (n : Nat) : D.okNs (xs.map kp) (n + 1) = true := by
  induction xs with
  | nil => rfl
  | cons x xs ih => simp [D.okNs, kp, D.okN, ih]
theorem kps_alike (xs ys : List Int) : alikeDs (xs.map kp) (ys.map kp) = true := by
  induction xs generalizing ys with
  | nil => simp [alikeDs]
  | cons x xs ih => cases ys with
    | nil => simp [alikeDs]
    | cons y ys => simp [alikeDs, kp, alikeD]; exact ih ys
theorem intD_alike (xs ys : List Int) : alikeDs (intD xs) (intD ys) = true := by
  induction xs generalizing ys with
  | nil => simp [intD, alikeDs]
  | cons x xs ih => cases ys with
    | nil => simp [intD, alikeDs]
    | cons y ys => simp only [intD_cons, alikeDs, alikeD, Bool.true_and]; exact ih ys
theorem kp_eq (x y : Int) : eqD (kp x) (kp y) = decide (x = y) := by
  simp only [kp, eqD, eqDs, Bool.and_true]
  by_cases h1 : x < 0 <;> by_cases h2 : y < 0 <;> simp [h1, h2, Bool.beq_eq_decide_eq] <;> omega
theorem kps_eq (xs ys : List Int) : eqDs (xs.map kp) (ys.map kp) = decide (xs = ys) := by
  induction xs generalizing ys with
  | nil => cases ys <;> simp [eqDs]
  | cons x xs ih => cases ys with
    | nil => simp [eqDs]
    | cons y ys => simp [eqDs, kp_eq, ih, Bool.decide_and]
theorem kn_inj (x y : Int) : kn x = kn y ↔ x = y := by unfold kn; split <;> split <;> omega
theorem kp_lt (x y : Int) : ltD (kp x) (kp y) = decide (kn x < kn y) := by
  simp only [kp, ltD, ltDs, eqD, kn]
  by_cases h1 : x < 0 <;> by_cases h2 : y < 0 <;> rw [Bool.eq_iff_iff] <;> simp [h1, h2, Bool.beq_eq_decide_eq] <;> omega
theorem kps_lt (xs ys : List Int) : ltDs (xs.map kp) (ys.map kp) = ltDs (intD (xs.map kn)) (intD (ys.map kn)) := by
  induction xs generalizing ys with
  | nil => cases ys <;> simp [ltDs, intD]
  | cons x xs ih => cases ys with
    | nil => simp [ltDs, intD]
    | cons y ys =>
      have := ih ys
      simp only [intD] at this
      simp only [List.map_cons, ltDs, intD, kp_eq, eqD_int, kn_inj, kp_lt, ltD, this]
theorem key_of_ok {xs : List Int} (h : xs.length ≤ 2000) : M_key_of [T xs] S = some (.ok (keyT xs) S) := by
  have e := compL_run (t := .name 1) (c := mTrue) (e := mTup (mConsA (mBI biAbs (mConsA (mVar 1) mNilA)) (mConsA (mBin opLt (mVar 1) (mC (.int 0))) mNilA))) (δ := wipeD [some (T xs), none] [1]) (S := S) (fun _ => true)
    (fun d => match d with | .int x => kp x | _ => .non) (intD xs) [] (by
    intro d hd
    obtain ⟨x, _, rfl⟩ := List.mem_map.mp hd
    exact ⟨[some (T xs), some (.int x)], by simp [wipeD], rfl, fun _ => by simp [LINE, kp]⟩)
  have e2 : (List.map (fun d => match d with | .int x => kp x | _ => .non) (intD xs)) = xs.map kp := by simp [intD]
  have hf : List.filter (fun _ => true) (intD xs) = intD xs := List.filter_eq_self.mpr fun _ _ => rfl
  rw [hf, e2] at e
  have hl : xs.length ≤ 16777216 := by omega
  have hp : D.pure (.tup (xs.map kp)) = true := by simpa [D.pure] using kps_pure xs
  simp [M_key_of, LINE, hl, e, keyT, D.pure, D.pures, kps_pure]
/-- which is before, by numbers -/
def before (xs ys : List Int) : Bool := if xs.length = ys.length then (if xs = ys then false else ltDs (intD (xs.map kn)) (intD (ys.map kn))) else decide (xs.length < ys.length)
theorem keyT_ok (xs : List Int) : (keyT xs).ok = true := by
  show D.okN _ 60 = true
  simp [keyT, D.okN, D.okNs, kps_ok]
theorem keyL_ok (xs : List Int) : (keyL xs).ok = true := by
  show D.okN _ 60 = true
  simp [keyL, D.okN, D.okNs, okNs_intD]
theorem keyT_lt (xs ys : List Int) : opLt (keyT xs) (keyT ys) = some (.bl (before xs ys)) := by
  have ha : alikeD (keyT xs) (keyT ys) = true := by simp [keyT, alikeD, alikeDs, kps_alike xs ys]
  have hn : nonD (keyT xs) = false := rfl
  show opLtD (keyT xs) (keyT ys) = _
  unfold opLtD
  rw [keyT_ok, keyT_ok, ha, hn]
  simp only [Bool.not_false, Bool.and_self, if_true, before, keyT, ltD, ltDs, eqD_int, eqD, kps_eq, kps_lt]
  by_cases h : xs.length = ys.length
  · by_cases h2 : xs = ys
    · simp [h2]
    · simp [h, h2]
  · have : ¬ (xs.length : Int) = ys.length := by omega
    simp [h, this]
theorem map_kn {xs ys : List Int} : xs.map kn = ys.map kn ↔ xs = ys := by
  constructor
  · intro h
    induction xs generalizing ys with
    | nil => cases ys with
      | nil => rfl
      | cons y ys => simp at h
    | cons x xs ih => cases ys with
      | nil => simp at h
      | cons y ys => simp only [List.map_cons, List.cons.injEq, kn_inj] at h; rw [h.1, ih h.2]
  · rintro rfl; rfl
theorem keyL_lt (xs ys : List Int) : opLt (keyL xs) (keyL ys) = some (.bl (before xs ys)) := by
  have ha : alikeD (keyL xs) (keyL ys) = true := by simp [keyL, alikeD, alikeDs, intD_alike]
  have hn : nonD (keyL xs) = false := rfl
  show opLtD (keyL xs) (keyL ys) = _
  unfold opLtD
  rw [keyL_ok, keyL_ok, ha, hn]
  simp only [Bool.not_false, Bool.and_self, if_true, before, keyL, ltD, ltDs, eqD_int, eqD, eqDs_intD, map_kn]
  by_cases h : xs.length = ys.length
  · by_cases h2 : xs = ys
    · simp [h2]
    · simp [h, h2]
  · have : ¬ (xs.length : Int) = ys.length := by omega
    simp [h, this]
theorem is_before_ok {l : Int} {xs ys : List Int} (h : 1 ≤ l ∧ l ≤ 8) (g : Good l xs) (g2 : Good l ys) : M_is_before [.int l, T xs, T ys] S = some (.ok (.bl (before xs ys)) S) := by
  simp [M_is_before, need_course_ok h g, need_course_ok h g2, key_of_ok g.1, key_of_ok g2.1, keyT_lt]
theorem mul2 (i : Int) : opMul (.int 2) (.int i) = some (.int (2 * i)) := by simp only [opMul]; rw [if_pos (.inl (by decide))]
@[simp] theorem int_bl (S : Sto) (b : Bool) : biInt S [.bl b] = some (.int (if b then 1 else 0)) := rfl
@[simp] theorem int_int (S : Sto) (i : Int) : biInt S [.int i] = some (.int i) := rfl
theorem law_key_ok {xs : List Int} (h : xs.length ≤ 2000) : M__law_key [T xs] S = some (.ok (keyL xs) S) := by
  have e := compL_run (t := .name 1) (c := mTrue) (e := mBin opAdd (mBin opMul (mC (.int 2)) (mBI biAbs (mConsA (mVar 1) mNilA))) (mBI biInt (mConsA (mBin opLt (mVar 1) (mC (.int 0))) mNilA))) (δ := wipeD [some (T xs), none] [1]) (S := S) (fun _ => true)
    (fun d => match d with | .int x => .int (kn x) | _ => .non) (intD xs) [] (by
    intro d hd
    obtain ⟨x, _, rfl⟩ := List.mem_map.mp hd
    exact ⟨[some (T xs), some (.int x)], by simp [wipeD], rfl, fun _ => by simp [mul2, kn]⟩)
  have e2 : (List.map (fun d => match d with | .int x => .int (kn x) | _ => .non) (intD xs)) = intD (xs.map kn) := by simp [intD]
  have hf : List.filter (fun _ => true) (intD xs) = intD xs := List.filter_eq_self.mpr fun _ _ => rfl
  rw [hf, e2] at e
  have hl : xs.length ≤ 16777216 := by omega
  simp [M__law_key, LINE, hl, e, keyL, D.pure, D.pures]
/-! ### the law's own -/
@[simp] theorem list_T (S : Sto) (xs : List Int) : biList S [T xs] = some (L xs) := rfl
@[simp] theorem len_L (S : Sto) (xs : List Int) : biLen S [L xs] = some (.int xs.length) := by simp [biLen, seqOf]
theorem ix_L {xs : List Int} {n : Nat} {a : Int} {i : Int} (hi : i = n) (h : xs[n]? = some a) : opIx S (L xs) (.int i) = some (.int a) := ix_T (S := S) hi h
@[simp] theorem add_L (xs ys : List Int) : opAdd (.lst (intD xs)) (.lst (intD ys)) = if xs.length + ys.length ≤ LINE then some (L (xs ++ ys)) else none := by simp [opAdd]
theorem cat_last (u : List Int) (h : u ≠ []) : ∃ u' x, u = u' ++ [x] := ⟨u.dropLast, u.getLast h, (List.dropLast_concat_getLast h).symm⟩
theorem law_plain_ok {xs : List Int} (h : xs.length ≤ 2000) : M__law_plain [T xs] S = some (.ok (T (red xs)) S) := by
  by_cases h0 : xs = []
  · subst h0
    have : L__law_plain_1 [some (.tup (intD [])), some (.lst (intD [])), some (.int (-2))] S = some (.nx [some (.tup (intD [])), some (.lst (intD [])), some (.int (-2))] S) := by
      unfold L__law_plain_1
      rw [mWhile_eq]
      simp
    simp [M__law_plain, this, red]
  · obtain ⟨u0, x0, e0⟩ := cat_last xs h0
    have loop : ∃ z, L__law_plain_1 [some (T xs), some (L xs), some (.int (xs.length - 2))] S = some (.nx [some (T xs), some (L (red xs)), z] S) := by
      obtain ⟨r0, e, z, rfl⟩ := while_run (c := mB (mBin opGe (mVar 2) (mC (.int 0))))
        (b := mSeq (mIfS (mAndT (mB (mBin opLt (mBin opAdd (mVar 2) (mC (.int 1))) (mBI biLen (mConsA (mVar 1) mNilA)))) (mB (mBin opEq (mBinS opIx (mVar 1) (mVar 2)) (mUn opNeg (mBinS opIx (mVar 1) (mBin opAdd (mVar 2) (mC (.int 1)))))))) (mSet 1 (mBin opAdd (mSlice (mVar 1) none (some (mVar 2))) (mSlice (mVar 1) (some (mBin opAdd (mVar 2) (mC (.int 2)))) none))) mPass) (mSet 2 (mBin opSub (mVar 2) (mC (.int 1)))))
        (fun n δ S' => S' = S ∧ ∃ u t : List Int, n = u.length ∧ xs = u ++ t ∧ δ = [some (T xs), some (L (u ++ red t)), some (.int ((u.length : Int) - 1))])
        (fun r0 => ∃ z, r0 = .nx [some (T xs), some (L (red xs)), z] S) (by
          rintro n δ S' ⟨rfl, u, t, rfl, ex, rfl⟩
          by_cases hu : u = []
          · subst hu
            have : xs = t := by simpa using ex
            subst this
            exact .inl ⟨S', by simp, _, rfl⟩
          · obtain ⟨u, x, rfl⟩ := cat_last u hu
            have hlen : xs.length = u.length + 1 + t.length := by rw [ex]; simp; omega
            have rt := red_len t
            have hz : ((u ++ [x]).length : Int) - 1 = u.length := by simp
            refine .inr ⟨S', by simp, .inl ⟨[some (T xs), some (L (u ++ red (x :: t))), some (.int ((u.length : Int) - 1))], S', u.length, .inl ?_, by simp, rfl, u, x :: t, rfl, by rw [ex]; simp, rfl⟩⟩
            have el : u ++ [x] ++ red t = u ++ x :: red t := by simp
            rw [hz, el]
            have ix1 := ix_L (S := S') (xs := u ++ x :: red t) (i := (u.length : Int)) (n := u.length) (a := x) rfl (by simp)
            cases hr : red t with
            | nil =>
              have f : red (x :: t) = [x] := by show cons1 x (red t) = _; rw [hr]; rfl
              rw [f]
              simp
            | cons y ys =>
              rw [hr] at ix1 rt
              have ix2 := ix_L (S := S') (xs := u ++ x :: y :: ys) (i := (u.length : Int) + 1) (n := u.length + 1) (a := y) (by omega) (by rw [List.getElem?_append_right (by omega)]; simp)
              have hlt : (u.length : Int) + 1 < (u ++ x :: y :: ys).length := by simp; omega
              by_cases q : x = -y
              · have f : red (x :: t) = ys := by show cons1 x (red t) = _; rw [hr, cons1_c, if_pos q]
                rw [f]
                subst q
                have c1 := cut_to (xs := u ++ -y :: y :: ys) (i := (u.length : Int)) (k := u.length) rfl (by simp)
                have c2 := cut_from (xs := u ++ -y :: y :: ys) (i := (u.length : Int) + 2) (k := u.length + 2) (by omega) (by simp)
                have d1 : (u ++ -y :: y :: ys).take u.length = u := by simp
                have d2 : (u ++ -y :: y :: ys).drop (u.length + 2) = ys := by rw [List.drop_append]; simp
                rw [d1] at c1
                rw [d2] at c2
                have hz2 : u.length + ys.length ≤ 16777216 := by simp at rt; omega
                simp only [List.length_append, List.length_cons] at hlt
                push_cast at hlt
                simp [hlt, ix1, ix2, c1, c2, LINE, hz2]
              · have f : red (x :: t) = x :: y :: ys := by show cons1 x (red t) = _; rw [hr, cons1_c, if_neg q]
                rw [f]
                simp only [List.length_append, List.length_cons] at hlt
                push_cast at hlt
                simp [hlt, ix1, ix2, q]) u0.length [some (T xs), some (L xs), some (.int (xs.length - 2))] S ⟨rfl, u0, [x0], rfl, e0, by rw [e0]; simp [red, cons1]; omega⟩
      exact ⟨z, e⟩
    obtain ⟨z, e⟩ := loop
    simp [M__law_plain, e]
@[simp] theorem add_one (a : Int) (xs : List Int) : opAdd (.tup [.int a]) (.tup (intD xs)) = if 1 + xs.length ≤ LINE then some (T (a :: xs)) else none := by
  have := add_T [a] xs
  exact this
theorem law_back_ok {xs : List Int} (h : xs.length ≤ 2000) : M__law_back [T xs] S = some (.ok (T (inv xs)) S) := by
  have loop : ∃ z, L__law_back_1 [some (T xs), some (T []), none] S = some (.nx [some (T xs), some (T (inv xs)), z] S) := by
    obtain ⟨δ', S', e, rfl, ys, acc, z, e1, e2, _, rfl⟩ := forL_run (t := .name 2) (b := mSet 1 (mBin opAdd (mTup (mConsA (mUn opNeg (mVar 2)) mNilA)) (mVar 1)))
      (fun ds δ S' => S' = S ∧ ∃ ys acc z, ds = intD ys ∧ inv xs = inv ys ++ acc ∧ acc.length + ys.length ≤ 2000 ∧ δ = [some (T xs), some (T acc), z]) (by
        rintro d ds δ S' ⟨rfl, ys, acc, z, e, e2, hl, rfl⟩
        cases ys with
        | nil => simp [intD_nil] at e
        | cons x ys =>
          simp only [intD_cons, List.cons.injEq] at e
          obtain ⟨rfl, rfl⟩ := e
          simp only [List.length_cons] at hl
          have hz : 1 + acc.length ≤ 16777216 := by omega
          refine ⟨[some (T xs), some (T acc), some (.int x)], by simp, [some (T xs), some (T (-x :: acc)), some (.int x)], S', .inl (by simp [LINE, hz]), rfl, ys, -x :: acc, _, rfl, ?_, by simp; omega, rfl⟩
          rw [e2, inv_cons]; simp) (intD xs) [some (T xs), some (T []), none] S ⟨rfl, xs, [], none, rfl, by simp, by simpa using h, rfl⟩
    have : ys = [] := by simpa [intD] using e1.symm
    subst this
    have : acc = inv xs := by rw [e2]; rfl
    subst this
    exact ⟨z, by simp [L__law_back_1] at e ⊢; exact e⟩
  obtain ⟨z, e⟩ := loop
  have e0 : T [] = .tup [] := rfl
  rw [e0] at e
  simp [M__law_back, LINE, e]
theorem rangeD_len (a : Int) (n : Nat) : (rangeD a n).length = n := by simp [rangeD]
theorem law_many_ok {xs : List Int} {m : Int} (h : xs.length ≤ 100) (hm : -10 ≤ m ∧ m ≤ 10) : M__law_many [T xs, .int m] S = some (.ok (T (red (pow xs m))) S) := by
  have main : ∀ (one : List Int) (n : Nat), one.length ≤ 100 → n ≤ 10 → (if m < 0 then -m else m) = (n : Int) → ∃ z, L__law_many_1 [some (T xs), some (.int m), none, some (T []), some (T one)] S = some (.nx [some (T xs), some (.int m), z, some (T (red (rep n one))), some (T one)] S) := by
    intro one n h1 h2 hn
    obtain ⟨δ', S', e, rfl, i, z, e1, rfl⟩ := forL_run (t := .name 2) (b := mSet 3 (mCall M__law_plain (mConsA (mBin opAdd (mVar 3) (mVar 4)) mNilA)))
      (fun ds δ S' => S' = S ∧ ∃ i z, i + ds.length = n ∧ δ = [some (T xs), some (.int m), z, some (T (red (rep i one))), some (T one)]) (by
        rintro d ds δ S' ⟨rfl, i, z, e, rfl⟩
        simp only [List.length_cons] at e
        have hl : (red (rep i one)).length ≤ 1000 := by
          refine Nat.le_trans (red_len _) ?_
          rw [rep_len]
          exact Nat.mul_le_mul (by omega : i ≤ 10) h1
        have hz : (red (rep i one)).length + one.length ≤ 16777216 := by omega
        have lp := law_plain_ok (S := S') (xs := red (rep i one) ++ one) (by simp; omega)
        rw [red_left, ← rep_snoc] at lp
        exact ⟨[some (T xs), some (.int m), some d, some (T (red (rep i one))), some (T one)], by simp, [some (T xs), some (.int m), some d, some (T (red (rep (i + 1) one))), some (T one)], S', .inl (by simp [LINE, hz, lp]), rfl, i + 1, some d, by omega, rfl⟩)
      (rangeD 0 n) [some (T xs), some (.int m), none, some (T []), some (T one)] S ⟨rfl, 0, none, by rw [rangeD_len]; omega, by rw [rep_zero]; rfl⟩
    have : i = n := by simpa using e1
    subst this
    have hb : (i : Int).natAbs < 4611686018427387904 := by omega
    refine ⟨z, ?_⟩
    simp only [L__law_many_1, s_mFor, s_mItRange1, s_mBI, s_mConsA, s_mVar, s_mNilA, List.getElem?_cons_succ, List.getElem?_cons_zero, bEA_ok, bAA_ok, bA_ok, bE_ok, abs_int, hn, Option.map_some]
    rw [if_pos hb]
    simpa using e
  have bk := law_back_ok (S := S) (xs := xs) (by omega)
  by_cases m0 : 0 < m
  · obtain ⟨z, e⟩ := main xs m.toNat h (by omega) (by rw [if_neg (by omega)]; omega)
    have hp : pow xs m = rep m.toNat xs := by unfold pow; rw [if_pos (by omega)]
    have e0 : T [] = .tup [] := rfl
    rw [e0] at e
    simp [M__law_many, LINE, m0, e, hp]
  · obtain ⟨z, e⟩ := main (inv xs) (-m).toNat (by rw [inv_length]; exact h) (by omega) (by split <;> omega)
    have hp : pow xs m = rep (-m).toNat (inv xs) := by
      unfold pow
      split
      · have : m = 0 := by omega
        subst this; rfl
      · rfl
    have e0 : T [] = .tup [] := rfl
    rw [e0] at e
    simp [M__law_many, LINE, m0, bk, e, hp]
theorem pow_red (xs : List Int) (m : Int) : red (pow (red xs) m) = red (pow xs m) := by
  unfold pow
  split
  · exact red_rep_red _ _
  · rw [← red_inv]; exact red_rep_red _ _
end
end K01

set_option linter.all false
set_option maxRecDepth 10000
/-! # K01q: the draws of k01 -/
namespace K01
open PL PW
section
variable {R : Sto}
theorem mul_small {i j : Int} (h : i.natAbs < 18446744073709551616) : opMul (.int i) (.int j) = some (.int (i * j)) := by simp only [opMul]; rw [if_pos (.inl h)]
theorem mul_small2 {i j : Int} (h : j.natAbs < 18446744073709551616) : opMul (.int i) (.int j) = some (.int (i * j)) := by simp only [opMul]; rw [if_pos (.inr h)]
theorem mod_pos {i j : Int} (h : 0 < j) : opMod (.int i) (.int j) = some (.int (i % j)) := by simp only [opMod]; rw [if_pos h]
theorem div_pos {i j : Int} (h : 0 < j) (h2 : j.natAbs < 1073741824) : opDiv (.int i) (.int j) = some (.int (i / j)) := by simp only [opDiv]; rw [if_pos ⟨h, h2⟩]
@[simp] theorem fold_intD (c : List Int) : List.map D.int c = intD c := rfl
@[simp] theorem lawOf_0 (c : List Int) (k : Nat) (l : List Int) : lawOf (.law c k l :: R) (.ref 0) = some (0, c, k, l) := rfl
theorem cell_in {c : List Int} (k : Nat) (h : c ≠ []) : ∃ v, opIx R (L c) (.int ((k : Int) % (c.length : Int))) = some (.int v) := by
  have hp : 0 < c.length := List.length_pos_iff.mpr h
  have hl : k % c.length < c.length := Nat.mod_lt _ hp
  exact ⟨_, ix_L (i := (k : Int) % (c.length : Int)) (n := k % c.length) (by simp) (List.getElem?_eq_getElem hl)⟩
theorem next_ok (c : List Int) (k : Nat) (l : List Int) {many : Int} (hm : 0 < many ∧ many < 1073741824) (hk : k < 1000000000) :
    ∃ v k' l', M__law_next [.ref 0, .int many] (.law c k l :: R) = some (.ok (.int v) (.law c k' l' :: R)) ∧ 0 ≤ v ∧ v < many ∧ k' ≤ k + 1 := by
  have hd : ∀ i : Int, 0 ≤ i % many ∧ i % many < many := fun i => ⟨Int.emod_nonneg i (by omega), Int.emod_lt_of_pos i hm.1⟩
  have dv : ∀ i, opDiv (.int i) (.int many) = some (.int (i / many)) := fun i => div_pos hm.1 (by omega)
  have md : ∀ i, opMod (.int i) (.int many) = some (.int (i % many)) := fun i => mod_pos hm.1
  cases l with
  | cons h t =>
    refine ⟨h % many, k, if h / many = 0 then t else (h / many) :: t, ?_, (hd h).1, (hd h).2, by omega⟩
    by_cases q : h / many = 0 <;> simp [M__law_next, dv, md, q]
  | nil =>
    have cell : ∃ v, (mIf (mB (mBin opNe (mLawCells (mVar 0)) (mLst mNilA))) (mBinS opIx (mLawCells (mVar 0)) (mBin opMod (mVar 2) (mBI biLen (mConsA (mLawCells (mVar 0)) mNilA)))) (mC (.int 0))) [some (.ref 0), some (.int many), some (.int k), none, none, none] (.law c (k + 1) [] :: R) = some (.ok (.int v) (.law c (k + 1) [] :: R)) := by
      by_cases hc : c = []
      · subst hc; exact ⟨0, by simp [LINE]⟩
      · obtain ⟨v, hv⟩ := cell_in (R := .law c (k + 1) [] :: R) k hc
        have hp : (0 : Int) < c.length := by have := List.length_pos_iff.mpr hc; omega
        exact ⟨v, by simp [hc, LINE, mod_pos hp, hv]⟩
    obtain ⟨v, hv⟩ := cell
    have m1 : ∀ i j : Int, opMul (.int (i % 2147483629)) (.int j) = some (.int (i % 2147483629 * j)) := fun i j => mul_small (by omega)
    have m2 : ∀ j : Int, opMul (.int 7919) (.int j) = some (.int (7919 * j)) := fun j => mul_small (by decide)
    have m3 : ∀ j : Int, opMul (.int 104729) (.int j) = some (.int (104729 * j)) := fun j => mul_small (by decide)
    have m4 : opMul (.int (7919 * (k : Int))) (.int k) = some (.int (7919 * (k : Int) * k)) := mul_small2 (by omega)
    have m5 : ∀ i j : Int, opMul (.int (i % 2147483647)) (.int j) = some (.int (i % 2147483647 * j)) := fun i j => mul_small (by omega)
    have n1 : ∀ i : Int, opMod (.int i) (.int 2147483629) = some (.int (i % 2147483629)) := fun i => mod_pos (by decide)
    have n2 : ∀ i : Int, opMod (.int i) (.int 2147483647) = some (.int (i % 2147483647)) := fun i => mod_pos (by decide)
    have n3 : ∀ i : Int, opDiv (.int i) (.int 13) = some (.int (i / 13)) := fun i => div_pos (by decide) (by decide)
    have hk0 : (0 : Int) ≤ (k : Int) + 1 := by omega
    have hk1 : ((k : Int) + 1).toNat = k + 1 := by omega
    have key : ∃ x : Int, M__law_next [.ref 0, .int many] (.law c k [] :: R) = some (.ok (.int (x % many)) (.law c (k + 1) [] :: R)) := by
      refine ⟨((v % 2147483629 * (2 * (k : Int) + 3) + 7919 * (k : Int) * k + 104729 * (k : Int) + 31) % 2147483647) * ((v % 2147483629 * (2 * (k : Int) + 3) + 7919 * (k : Int) * k + 104729 * (k : Int) + 31) % 2147483647) % 2147483629 * 48271 % 2147483647 / 13, ?_⟩
      simp only [M__law_next, s_mFn, s_mSeq]
      simp [hk0, hk1, -s_mIf]
      rw [hv]
      simp [m1, m2, m3, m4, m5, n1, n2, n3, md, mul2]
    obtain ⟨x, hx⟩ := key
    exact ⟨_, _, _, hx, (hd x).1, (hd x).2, Nat.le_refl _⟩
theorem of_ok (c : List Int) (k : Nat) (l : List Int) {xs : List Int} (hx : xs ≠ []) (hl : xs.length < 100000) (hk : k < 1000000000) (q : D) (hq : q = L xs ∨ q = T xs) :
    ∃ v k' l', M__law_of [.ref 0, q] (.law c k l :: R) = some (.ok (.int v) (.law c k' l' :: R)) ∧ v ∈ xs ∧ k' ≤ k + 1 := by
  have hp : 0 < xs.length := List.length_pos_iff.mpr hx
  obtain ⟨v, k', l', e, h1, h2, h3⟩ := next_ok (R := R) c k l (many := xs.length) ⟨by omega, by omega⟩ hk
  have hv : v.toNat < xs.length := by omega
  have ix : opIx (.law c k' l' :: R) q (.int v) = some (.int xs[v.toNat]) := by
    rcases hq with rfl | rfl
    · exact ix_L (n := v.toNat) (by omega) (List.getElem?_eq_getElem hv)
    · exact ix_T (n := v.toNat) (by omega) (List.getElem?_eq_getElem hv)
  have ln : ∀ S, biLen S [q] = some (.int xs.length) := fun S => by rcases hq with rfl | rfl <;> simp
  have hpu : q.pure = true := by rcases hq with rfl | rfl <;> simp [D.pure]
  exact ⟨xs[v.toNat], k', l', by simp [M__law_of, ln, e, ix], List.getElem_mem hv, h3⟩
/-- the store with a list behind -/
@[simp] theorem getL_2 (o : MO) (ds : List D) : getL (o :: (R ++ [.lst ds])) (.ref (R.length + 1)) = some (R.length + 1, ds) := by simp [getL]
@[simp] theorem rsv_2 (o : MO) (ds : List D) : rsv (o :: (R ++ [.lst ds])) (.ref (R.length + 1)) = .lst ds := by simp [rsv]
@[simp] theorem set_2 (o x y : MO) : (o :: (R ++ [x])).set (R.length + 1) y = o :: (R ++ [y]) := by simp
theorem ix_2 {acc : List Int} {a : Int} (o : MO) (h : acc.getLast? = some a) : opIx (o :: (R ++ [.lst (intD acc)])) (.ref (R.length + 1)) (.int (-1)) = some (.int a) := ix_last (S := o :: R) h
/-- a step of the letters -/
theorem step_ok (c : List Int) (k : Nat) (lf : List Int) {l : Int} (h : 1 ≤ l ∧ l ≤ 8) (hk : k < 900000000) : ∃ v s k1 l1 k2 l2, M__law_next [.ref 0, .int l] (.law c k lf :: R) = some (.ok (.int v) (.law c k1 l1 :: R)) ∧
    M__law_of [.ref 0, .lst [.int 1, .int (-1)]] (.law c k1 l1 :: R) = some (.ok (.int s) (.law c k2 l2 :: R)) ∧ opMul (.int (1 + v)) (.int s) = some (.int ((1 + v) * s)) ∧ ((1 + v) * s ≠ 0 ∧ -l ≤ (1 + v) * s ∧ (1 + v) * s ≤ l) ∧ k2 ≤ k + 2 := by
  obtain ⟨v, k1, l1, e1, h1, h2, h3⟩ := next_ok (R := R) c k lf (many := l) ⟨by omega, by omega⟩ (by omega)
  obtain ⟨s, k2, l2, e2, h4, h5⟩ := of_ok (R := R) c k1 l1 (xs := [1, -1]) (by simp) (by simp) (by omega) (.lst [.int 1, .int (-1)]) (.inl rfl)
  refine ⟨v, s, k1, l1, k2, l2, e1, e2, mul_small (by omega), ?_, by omega⟩
  have : s = 1 ∨ s = -1 := by simpa using h4
  rcases this with rfl | rfl <;> omega
theorem steps_ok (c : List Int) (k : Nat) (lf : List Int) {l most : Int} (h : 1 ≤ l ∧ l ≤ 8) (hm : 0 ≤ most ∧ most ≤ 100) (hk : k < 800000000) :
    ∃ xs k' l', M__law_steps [.ref 0, .int l, .int most] (.law c k lf :: R) = some (.ok (T xs) (.law c k' l' :: R)) ∧ Good l xs ∧ (xs.length : Int) ≤ most ∧ k' ≤ k + 1000 := by
  obtain ⟨n, k0, l0, e0, h1, h2, h3⟩ := next_ok (R := R ++ [.lst []]) c k lf (many := most + 1) ⟨by omega, by omega⟩ (by omega)
  have loop : ∃ xs k' l' z y, L__law_steps_1 [some (.ref 0), some (.int l), some (.int most), some (.ref (R.length + 1)), none, none] (.law c k lf :: (R ++ [.lst []])) =
      some (.nx [some (.ref 0), some (.int l), some (.int most), some (.ref (R.length + 1)), z, y] (.law c k' l' :: (R ++ [.lst (intD xs)]))) ∧ (∀ x ∈ xs, x ≠ 0 ∧ -l ≤ x ∧ x ≤ l) ∧ (xs.length : Int) ≤ most ∧ k' ≤ k + 1000 := by
    obtain ⟨δ', S', e, acc, k1, l1, z, y, rfl, g, hl, hk1, rfl⟩ := forL_run (t := .name 4) (b := mSeq (mSet 5 (mBin opMul (mBin opAdd (mC (.int 1)) (mCall M__law_next (mConsA (mVar 0) (mConsA (mVar 1) mNilA)))) (mCall M__law_of (mConsA (mVar 0) (mConsA (mLst (mConsA (mC (.int 1)) (mConsA (mUn opNeg (mC (.int 1))) mNilA))) mNilA))))) (mSeq (mIfS (mAndT (mB (mBinS opNeS (mVar 3) (mLst mNilA))) (mB (mBin opEq (mCall M__law_next (mConsA (mVar 0) (mConsA (mC (.int 4)) mNilA))) (mC (.int 0))))) (mSet 5 (mUn opNeg (mBinS opIx (mVar 3) (mUn opNeg (mC (.int 1)))))) mPass) (mDrop (mAppend (mVar 3) (mVar 5)))))
      (fun ds δ S' => ∃ acc k1 l1 z y, S' = .law c k1 l1 :: (R ++ [.lst (intD acc)]) ∧ (∀ x ∈ acc, x ≠ 0 ∧ -l ≤ x ∧ x ≤ l) ∧ (acc.length : Int) + ds.length ≤ most ∧ k1 + 3 * ds.length ≤ k + 1000 ∧ δ = [some (.ref 0), some (.int l), some (.int most), some (.ref (R.length + 1)), z, y]) (by
        rintro d ds δ S' ⟨acc, k1, l1, z, y, rfl, g, hl, hk1, rfl⟩
        simp only [List.length_cons] at hl hk1
        have hz : acc.length < 16777216 := by omega
        obtain ⟨v, s, k2, l2, k3, l3, e1, e2, e3, gd, hk3⟩ := step_ok (R := R ++ [.lst (intD acc)]) c k1 l1 h (by omega)
        refine ⟨[some (.ref 0), some (.int l), some (.int most), some (.ref (R.length + 1)), some d, y], by simp, ?_⟩
        have app : ∀ x : Int, (x ≠ 0 ∧ -l ≤ x ∧ x ≤ l) → ∀ w ∈ acc ++ [x], w ≠ 0 ∧ -l ≤ w ∧ w ≤ l := fun x hx w hw => by
          rcases List.mem_append.mp hw with hw | hw
          · exact g w hw
          · rw [List.mem_singleton.mp hw]; exact hx
        cases hg : acc.getLast? with
        | none =>
          have : acc = [] := by simpa using hg
          subst this
          refine ⟨[some (.ref 0), some (.int l), some (.int most), some (.ref (R.length + 1)), some d, some (.int ((1 + v) * s))], .law c k3 l3 :: (R ++ [.lst (intD ([] ++ [(1 + v) * s]))]), .inl ?_, [] ++ [(1 + v) * s], k3, l3, _, _, rfl, app _ gd, by simp; omega, by omega, rfl⟩
          simp [e1, e2, e3, LINE]
        | some a =>
          have hne : acc ≠ [] := fun z => by subst z; simp at hg
          obtain ⟨u, k4, l4, e4, _, _, hk4⟩ := next_ok (R := R ++ [.lst (intD acc)]) c k3 l3 (many := 4) ⟨by omega, by omega⟩ (by omega)
          have ha : a ∈ acc := List.mem_of_getLast? hg
          by_cases q : u = 0
          · refine ⟨[some (.ref 0), some (.int l), some (.int most), some (.ref (R.length + 1)), some d, some (.int (-a))], .law c k4 l4 :: (R ++ [.lst (intD (acc ++ [-a]))]), .inl ?_, acc ++ [-a], k4, l4, _, _, rfl, app _ (by have := g a ha; omega), by simp; omega, by omega, rfl⟩
            subst q
            simp [e1, e2, e3, e4, LINE, hne, ix_2 _ hg, hz]
          · refine ⟨[some (.ref 0), some (.int l), some (.int most), some (.ref (R.length + 1)), some d, some (.int ((1 + v) * s))], .law c k4 l4 :: (R ++ [.lst (intD (acc ++ [(1 + v) * s]))]), .inl ?_, acc ++ [(1 + v) * s], k4, l4, _, _, rfl, app _ gd, by simp; omega, by omega, rfl⟩
            simp [e1, e2, e3, e4, LINE, hne, q, hz]) (rangeD 0 n.toNat) [some (.ref 0), some (.int l), some (.int most), some (.ref (R.length + 1)), none, none] (.law c k0 l0 :: (R ++ [.lst []]))
      ⟨[], k0, l0, none, none, rfl, by simp, by rw [rangeD_len]; simp; omega, by rw [rangeD_len]; omega, rfl⟩
    have hb : n.natAbs < 4611686018427387904 := by omega
    refine ⟨acc, k1, l1, z, y, ?_, g, by simpa using hl, by simpa using hk1⟩
    simp only [L__law_steps_1, s_mFor]
    simp [e0, hb]
    simpa using e
  obtain ⟨xs, k', l', z, y, e, g, hl, hk'⟩ := loop
  refine ⟨xs, k', l', ?_, ⟨by omega, g⟩, hl, hk'⟩
  simp [M__law_steps, LINE, D.pures, e, biTuple]
@[simp] theorem add_two (xs : List Int) (a b : Int) : opAdd (.tup (intD xs)) (.tup [.int a, .int b]) = if xs.length + 2 ≤ LINE then some (T (xs ++ [a, b])) else none := add_T xs [a, b]
theorem put_in_ok (c : List Int) (k : Nat) (lf : List Int) {l : Int} {xs : List Int} (h : 1 ≤ l ∧ l ≤ 8) (g : ∀ x ∈ xs, x ≠ 0 ∧ -l ≤ x ∧ x ≤ l) (hl : xs.length ≤ 1000) (hk : k < 800000000) :
    ∃ ys k' l', M__law_put_in [.ref 0, .int l, T xs] (.law c k lf :: R) = some (.ok (T ys) (.law c k' l' :: R)) ∧ (∀ x ∈ ys, x ≠ 0 ∧ -l ≤ x ∧ x ≤ l) ∧ ys.length ≤ xs.length + 8 ∧ xs.length < ys.length ∧ red ys = red xs ∧ k' ≤ k + 100 := by
  obtain ⟨n, k0, l0, e0, h1, h2, h3⟩ := next_ok (R := R) c k lf (many := 4) ⟨by omega, by omega⟩ (by omega)
  have loop : ∃ ys k' l' z a b, L__law_put_in_1 [some (.ref 0), some (.int l), some (T xs), none, none, none] (.law c k lf :: R) = some (.nx [some (.ref 0), some (.int l), some (T ys), z, a, b] (.law c k' l' :: R)) ∧
      (∀ x ∈ ys, x ≠ 0 ∧ -l ≤ x ∧ x ≤ l) ∧ ys.length = xs.length + 2 * (1 + n.toNat) ∧ red ys = red xs ∧ k' ≤ k + 100 := by
    obtain ⟨δ', S', e, ys, k1, l1, z, a, b, rfl, g1, r1, hl1, hk1, rfl⟩ := forL_run (t := .name 3) (b := mSeq (mPar 4 5 (mCall M__law_next (mConsA (mVar 0) (mConsA (mBin opAdd (mBI biLen (mConsA (mVar 2) mNilA)) (mC (.int 1))) mNilA))) (mBin opMul (mBin opAdd (mC (.int 1)) (mCall M__law_next (mConsA (mVar 0) (mConsA (mVar 1) mNilA)))) (mCall M__law_of (mConsA (mVar 0) (mConsA (mLst (mConsA (mC (.int 1)) (mConsA (mUn opNeg (mC (.int 1))) mNilA))) mNilA))))) (mSet 2 (mBin opAdd (mBin opAdd (mSlice (mVar 2) none (some (mVar 4))) (mTup (mConsA (mVar 5) (mConsA (mUn opNeg (mVar 5)) mNilA)))) (mSlice (mVar 2) (some (mVar 4)) none))))
      (fun ds δ S' => ∃ ys k1 l1 z a b, S' = .law c k1 l1 :: R ∧ (∀ x ∈ ys, x ≠ 0 ∧ -l ≤ x ∧ x ≤ l) ∧ red ys = red xs ∧ ys.length + 2 * ds.length = xs.length + 2 * (1 + n.toNat) ∧ k1 + 3 * ds.length ≤ k + 100 ∧ δ = [some (.ref 0), some (.int l), some (T ys), z, a, b]) (by
        rintro d ds δ S' ⟨ys, k1, l1, z, a, b, rfl, g1, r1, hl1, hk1, rfl⟩
        simp only [List.length_cons] at hl1 hk1
        obtain ⟨v, k2, l2, e2, p1, p2, hk2⟩ := next_ok (R := R) c k1 l1 (many := (ys.length : Int) + 1) ⟨by omega, by omega⟩ (by omega)
        obtain ⟨u, s, k3, l3, k4, l4, e3, e4, e5, gd, hk4⟩ := step_ok (R := R) c k2 l2 h (by omega)
        generalize hst : (1 + u) * s = st at *
        have hv : v.toNat ≤ ys.length := by omega
        have c1 := cut_to (xs := ys) (i := v) (k := v.toNat) (by omega) hv
        have c2 := cut_from (xs := ys) (i := v) (k := v.toNat) (by omega) hv
        have z1 : v.toNat + 2 ≤ 16777216 := by omega
        have z2 : v.toNat + (2 + (ys.length - v.toNat)) ≤ 16777216 := by omega
        have z3 : v.toNat + 2 + (ys.length - v.toNat) ≤ 16777216 := by omega
        have hmin : min v.toNat ys.length = v.toNat := by omega
        refine ⟨[some (.ref 0), some (.int l), some (T ys), some d, a, b], by simp, [some (.ref 0), some (.int l), some (T (ys.take v.toNat ++ [st, -st] ++ ys.drop v.toNat)), some d, some (.int v), some (.int st)], .law c k4 l4 :: R, .inl ?_, ys.take v.toNat ++ [st, -st] ++ ys.drop v.toNat, k4, l4, _, _, _, rfl, ?_, ?_, ?_, by omega, rfl⟩
        · simp [e2, e3, e4, e5, c1, c2, LINE, z1, z2, z3, hmin]
        · intro x hx
          rcases List.mem_append.mp hx with hx | hx
          · rcases List.mem_append.mp hx with hx | hx
            · exact g1 x (List.mem_of_mem_take hx)
            · simp at hx
              rcases hx with rfl | rfl <;> omega
          · exact g1 x (List.mem_of_mem_drop hx)
        · rw [List.append_assoc]
          show red (ys.take v.toNat ++ st :: -st :: ys.drop v.toNat) = red xs
          rw [red_opp, List.take_append_drop]; exact r1
        · simp [hmin]; omega) (rangeD 0 (1 + n).toNat) [some (.ref 0), some (.int l), some (T xs), none, none, none] (.law c k0 l0 :: R) ⟨xs, k0, l0, none, none, none, rfl, g, rfl, by rw [rangeD_len]; omega, by rw [rangeD_len]; omega, rfl⟩
    have hb : (1 + n).natAbs < 4611686018427387904 := by omega
    refine ⟨ys, k1, l1, z, a, b, ?_, g1, by simpa using hl1, r1, by simpa using hk1⟩
    simp only [L__law_put_in_1, s_mFor]
    simp [e0, hb]
    simpa using e
  obtain ⟨ys, k', l', z, a, b, e, g1, hl1, r1, hk1⟩ := loop
  exact ⟨ys, k', l', by simp [M__law_put_in, e], g1, by omega, by omega, r1, hk1⟩
/-! ### whatever falls out first -/
theorem red_of_get : ∀ {w : List Int}, (∀ i x y, w[i]? = some x → w[i + 1]? = some y → x ≠ -y) → Red w
  | [], _ => trivial
  | [_], _ => trivial
  | x :: y :: r, h => ⟨h 0 x y rfl rfl, red_of_get fun i a b e1 e2 => h (i + 1) a b (by simpa using e1) (by simpa using e2)⟩
/-- the places where two fall out -/
def spots (w : List Int) : List Nat := (List.range (w.length - 1)).filter fun i => decide (w[i]? = (w[i + 1]?).map fun y => -y)
theorem spots_nil {w : List Int} (h : spots w = []) : Red w := by
  refine red_of_get fun i x y e1 e2 q => ?_
  have hl := (List.getElem?_eq_some_iff.mp e2).1
  have : i ∈ spots w := by
    unfold spots
    rw [List.mem_filter]
    exact ⟨by simp; omega, by simp [e1, e2, q]⟩
  rw [h] at this; cases this
theorem spots_at {w : List Int} {i : Nat} (h : i ∈ spots w) : ∃ u x v, w = u ++ x :: -x :: v ∧ u.length = i := by
  unfold spots at h
  rw [List.mem_filter] at h
  obtain ⟨h1, h2⟩ := h
  have hl : i + 1 < w.length := by simp at h1; omega
  have e2 : w[i + 1]? = some w[i + 1] := List.getElem?_eq_getElem hl
  have e1 : w[i]? = some w[i] := List.getElem?_eq_getElem (by omega)
  rw [e1, e2] at h2
  have hq : w[i] = -w[i + 1] := by simpa using h2
  refine ⟨w.take i, w[i], w.drop (i + 2), ?_, by simp; omega⟩
  have a1 := drop_step e1
  have a2 := drop_step e2
  have : -w[i] = w[i + 1] := by omega
  rw [this, ← a2, ← a1, List.take_append_drop]
end
end K01

set_option linter.all false
set_option maxRecDepth 10000
/-! # K01r: whatever falls out first; the draws begun; the law -/
namespace K01
open PL PW
section
variable {R : Sto}
@[simp] theorem eq_lst (xs ys : List Int) : opEq (.lst (intD xs)) (.lst (intD ys)) = some (.bl (decide (xs = ys))) := by
  simp [opEq, opEqO, D.okN, okNs_intD, eqD, eqDs_intD]
@[simp] theorem eq_lnil (xs : List Int) : opEq (.lst (intD xs)) (.lst []) = some (.bl (decide (xs = []))) := eq_lst xs []
theorem spots_comp {S : Sto} {w : List Int} {a b c z : Option D} (hl : w.length ≤ 2000) : (mComp [4] (.name 4) (mItRange1 (mBin opSub (mBI biLen (mConsA (mVar 2) mNilA)) (mC (.int 1)))) (mB (mBin opEq (mBinS opIx (mVar 2) (mVar 4)) (mUn opNeg (mBinS opIx (mVar 2) (mBin opAdd (mVar 4) (mC (.int 1))))))) (mVar 4))
    [a, b, some (T w), c, z] S = some (.ok (L ((spots w).map fun (i : Nat) => (i : Int))) S) := by
  have e := compL_run (t := .name 4) (c := mB (mBin opEq (mBinS opIx (mVar 2) (mVar 4)) (mUn opNeg (mBinS opIx (mVar 2) (mBin opAdd (mVar 4) (mC (.int 1))))))) (e := mVar 4) (δ := [a, b, some (T w), c, none]) (S := S)
    (fun d => match d with | .int i => decide (w[i.toNat]? = (w[i.toNat + 1]?).map fun y => -y) | _ => false) (fun d => d) (rangeD 0 (w.length - 1)) [] (by
    intro d hd
    unfold rangeD at hd
    obtain ⟨i, hi, rfl⟩ := List.mem_map.mp hd
    have hi : i < w.length - 1 := by simpa using hi
    have e1 : w[i]? = some w[i] := List.getElem?_eq_getElem (by omega)
    have e2 : w[i + 1]? = some w[i + 1] := List.getElem?_eq_getElem (by omega)
    have x1 := ix_T (S := S) (i := (i : Int)) rfl e1
    have x2 := ix_T (S := S) (i := (i : Int) + 1) (by omega) e2
    refine ⟨[a, b, some (T w), c, some (.int i)], by simp, ?_, fun _ => by simp⟩
    simp [x1, x2, e1, e2])
  have hf : ((rangeD 0 (w.length - 1)).filter fun d => match d with | .int i => decide (w[i.toNat]? = (w[i.toNat + 1]?).map fun y => -y) | _ => false) = intD ((spots w).map fun (i : Nat) => (i : Int)) := by
    unfold rangeD spots intD
    rw [List.filter_map, List.map_map]
    congr 1
    · funext i; simp
    · congr 1
      funext i; simp
  rw [hf] at e
  simp only [List.nil_append, List.map_id'] at e
  have hb : ((w.length : Int) - 1).natAbs < 4611686018427387904 := by omega
  have hn : ((w.length : Int) - 1).toNat = w.length - 1 := by omega
  have hr : (rangeD 0 (w.length - 1)).length ≤ 16777216 := by rw [rangeD_len]; omega
  simp [hb, hn, hr, LINE, wipeD, e]
theorem any_way_ok (c : List Int) (k : Nat) (lf : List Int) {xs : List Int} (hl : xs.length ≤ 1000) (hk : k < 800000000) :
    ∃ k' l', M__law_any_way [.ref 0, T xs] (.law c k lf :: R) = some (.ok (T (red xs)) (.law c k' l' :: R)) ∧ k' ≤ k + 1000 := by
  have loop : ∃ k' l', L__law_any_way_1 [some (.ref 0), some (T xs), some (T xs), none, none] (.law c k lf :: R) = some (.rt (T (red xs)) (.law c k' l' :: R)) ∧ k' ≤ k + 1000 := by
    obtain ⟨r0, e, k', l', rfl, hk'⟩ := while_run (c := mTrue) (b := mSeq (mSet 3 (mComp [4] (.name 4) (mItRange1 (mBin opSub (mBI biLen (mConsA (mVar 2) mNilA)) (mC (.int 1)))) (mB (mBin opEq (mBinS opIx (mVar 2) (mVar 4)) (mUn opNeg (mBinS opIx (mVar 2) (mBin opAdd (mVar 4) (mC (.int 1))))))) (mVar 4))) (mSeq (mIfS (mB (mBin opEq (mVar 3) (mLst mNilA))) (mRet (mVar 2)) mPass) (mSeq (mSet 4 (mCall M__law_of (mConsA (mVar 0) (mConsA (mVar 3) mNilA)))) (mSet 2 (mBin opAdd (mSlice (mVar 2) none (some (mVar 4))) (mSlice (mVar 2) (some (mBin opAdd (mVar 4) (mC (.int 2)))) none))))))
      (fun n δ S' => ∃ w k1 l1 z y, n = w.length ∧ S' = .law c k1 l1 :: R ∧ red w = red xs ∧ w.length ≤ 1000 ∧ k1 + w.length ≤ k + 1000 ∧ δ = [some (.ref 0), some (T xs), some (T w), z, y])
      (fun r0 => ∃ k' l', r0 = .rt (T (red xs)) (.law c k' l' :: R) ∧ k' ≤ k + 1000) (by
        rintro n δ S' ⟨w, k1, l1, z, y, rfl, rfl, hr, hw, hk1, rfl⟩
        have sc := spots_comp (S := .law c k1 l1 :: R) (w := w) (a := some (.ref 0)) (b := some (T xs)) (c := z) (z := y) (by omega)
        generalize hcomp : (mComp [4] (.name 4) (mItRange1 (mBin opSub (mBI biLen (mConsA (mVar 2) mNilA)) (mC (.int 1)))) (mB (mBin opEq (mBinS opIx (mVar 2) (mVar 4)) (mUn opNeg (mBinS opIx (mVar 2) (mBin opAdd (mVar 4) (mC (.int 1))))))) (mVar 4)) = cm at *
        refine .inr ⟨_, rfl, ?_⟩
        by_cases hs : spots w = []
        · refine .inr (.inl ⟨T w, .law c k1 l1 :: R, ?_, k1, l1, ?_, by omega⟩)
          · simp [sc, hs, LINE]
          · rw [← hr, red_id (spots_nil hs)]
        · have hne : ((spots w).map fun (i : Nat) => (i : Int)) ≠ [] := by simpa using hs
          have hsl : (spots w).length ≤ 1000 := by
            unfold spots
            refine Nat.le_trans (List.length_filter_le _ _) ?_
            simp; omega
          obtain ⟨v, k2, l2, e2, hv, hk2⟩ := of_ok (R := R) c k1 l1 hne (by simp; omega) (by omega) (L ((spots w).map fun (i : Nat) => (i : Int))) (.inl rfl)
          obtain ⟨i, hi, rfl⟩ := List.mem_map.mp hv
          obtain ⟨u, x, t, rfl, rfl⟩ := spots_at hi
          have c1 := cut_to (xs := u ++ x :: -x :: t) (i := (u.length : Int)) (k := u.length) rfl (by simp)
          have c2 := cut_from (xs := u ++ x :: -x :: t) (i := (u.length : Int) + 2) (k := u.length + 2) (by omega) (by simp)
          have d1 : (u ++ x :: -x :: t).take u.length = u := by simp
          have d2 : (u ++ x :: -x :: t).drop (u.length + 2) = t := by rw [List.drop_append]; simp
          rw [d1] at c1
          rw [d2] at c2
          simp only [List.length_append, List.length_cons] at hw hk1
          have hz : u.length + t.length ≤ 16777216 := by omega
          refine .inl ⟨[some (.ref 0), some (T xs), some (T (u ++ t)), some (L ((spots (u ++ x :: -x :: t)).map fun (i : Nat) => (i : Int))), some (.int u.length)], .law c k2 l2 :: R, (u ++ t).length, .inl ?_, by simp; omega, u ++ t, k2, l2, _, _, rfl, rfl, ?_, by simp; omega, by simp; omega, rfl⟩
          · simp [sc, hs, LINE, e2, c1, c2, hz]
          · rw [← hr, red_opp]) xs.length [some (.ref 0), some (T xs), some (T xs), none, none] (.law c k lf :: R) ⟨xs, k, lf, none, none, rfl, rfl, rfl, hl, by omega, rfl⟩
    exact ⟨k', l', e, hk'⟩
  obtain ⟨k', l', e, hk'⟩ := loop
  exact ⟨k', l', by simp [M__law_any_way, e], hk'⟩
theorem intsOf_ints (xs : List Int) : intsOf (intD xs) = some xs := by
  induction xs with
  | nil => rfl
  | cons x xs ih => rw [intD_cons]; simp [intsOf, ih]
theorem begun_ok {cells : List Int} (hl : cells.length ≤ 63) : ∃ l, M__law_begun [L cells] [] = some (.ok (.ref 0) [.law cells 0 l]) := by
  refine ⟨cells.filter fun i => decide (1000000000000000000 ≤ i), ?_⟩
  have e := compL_run (t := .name 1) (c := mB (mBin opGe (mBI biInt (mConsA (mVar 1) mNilA)) (mBin opPow (mC (.int 10)) (mC (.int 18))))) (e := mBI biInt (mConsA (mVar 1) mNilA)) (δ := [some (L cells), none]) (S := [])
    (fun d => match d with | .int i => decide (1000000000000000000 ≤ i) | _ => false) (fun d => d) (intD cells) [] (by
    intro d hd
    obtain ⟨i, _, rfl⟩ := List.mem_map.mp hd
    have hp : opPow (.int 10) (.int 18) = some (.int 1000000000000000000) := by simp [opPow]
    exact ⟨[some (L cells), some (.int i)], by simp, by simp [hp], fun _ => by simp⟩)
  have hf : ((intD cells).filter fun d => match d with | .int i => decide (1000000000000000000 ≤ i) | _ => false) = intD (cells.filter fun i => decide (1000000000000000000 ≤ i)) := by
    unfold intD
    rw [List.filter_map]
    congr 1
  rw [hf] at e
  simp only [List.nil_append, List.map_id'] at e
  have hz : cells.length ≤ 16777216 := by omega
  simp [M__law_begun, mNewLaw, biList, seqOf, LINE, hz, wipeD, e, intsOf_ints]
end
end K01

set_option linter.all false
set_option maxRecDepth 10000
/-! # K01s: the law of k01 -/
namespace K01
open PL PW
theorem seq_nx {s s' : MS} {δ δ1 : Env} {S S1 : Sto} (h : s δ S = some (.nx δ1 S1)) : mSeq s s' δ S = s' δ1 S1 := by simp [h]
section
variable {ω : D → List Nat} {S : Sto}
theorem ne_str {s : List Nat} : opNe (.str s) (.str s) = some (.bl false) := by
  simp only [opNe, beq_self_eq_true, Bool.not_true]
theorem repr_bl (b : Bool) : biRepr ω S [.bl b] = some (.str (ω (.bl b))) := by simp [biRepr, D.okN, D.wt, LINE]
theorem wts_ints {xs : List Int} (h : ∀ x ∈ xs, x.natAbs ≤ 8) : D.wts (intD xs) = some (2002 * xs.length) := by
  induction xs with
  | nil => rfl
  | cons x xs ih =>
    have hx : x.natAbs < 2 ^ 1900 := Nat.lt_of_le_of_lt (h x List.mem_cons_self) (Nat.lt_of_lt_of_le (by decide : 8 < 2 ^ 4) (Nat.pow_le_pow_right (by decide) (by decide)))
    simp only [intD_cons, D.wts, D.wt, if_pos hx, ih fun y hy => h y (List.mem_cons_of_mem _ hy), Option.map_some, List.length_cons]
    congr 1; omega
theorem repr_two {xs ys : List Int} (hx : ∀ x ∈ xs, x.natAbs ≤ 8) (hy : ∀ x ∈ ys, x.natAbs ≤ 8) (h : xs.length ≤ 100 ∧ ys.length ≤ 100) : biRepr ω S [.tup [T xs, T ys]] = some (.str (ω (.tup [T xs, T ys]))) := by
  have h1 : (D.tup [T xs, T ys]).okN 60 = true := by simp [D.okN, D.okNs, okNs_intD]
  have h2 : (D.tup [T xs, T ys]).wt = some (2002 * xs.length + 3 + 2 + (2002 * ys.length + 3 + 2) + 3) := by
    simp [D.wt, D.wts, wts_ints hx, wts_ints hy]
  simp only [biRepr, h1, h2, if_true]
  rw [if_pos (by simp only [LINE]; omega)]
theorem ok_two (xs ys : List Int) : (D.tup [T xs, T ys]).ok = true := by show D.okN _ 60 = true; simp [D.okN, D.okNs, okNs_intD]
theorem ok_bl (b : Bool) : (D.bl b).ok = true := rfl
variable {l : Int} {one other more : List Int}
/-- the numbers of one turn -/
structure Turn (l : Int) (one other more : List Int) : Prop where
  hl : 1 ≤ l ∧ l ≤ 8
  g1 : Good l one
  n1 : one.length ≤ 24
  g2 : Good l other
  n2 : other.length ≤ 12
  g3 : Good l more
  n3 : more.length ≤ 32
  gt : one.length < more.length
  eq : red more = red one
theorem Good.cat {l : Int} {xs ys : List Int} (a : Good l xs) (b : ∀ x ∈ ys, x ≠ 0 ∧ -l ≤ x ∧ x ≤ l) (h : xs.length + ys.length ≤ 2000) : Good l (xs ++ ys) := ⟨by simpa using h, fun x hx => by
  rcases List.mem_append.mp hx with hx | hx
  · exact a.2 x hx
  · exact b x hx⟩
theorem Good.inv {l : Int} {xs : List Int} (a : Good l xs) : Good l (inv xs) := ⟨by rw [inv_length]; exact a.1, fun x hx => by
  have : -x ∈ xs := by
    unfold PW.inv at hx
    rw [List.mem_reverse, List.mem_map] at hx
    obtain ⟨y, hy, rfl⟩ := hx
    simpa using hy
  have := a.2 _ this
  omega⟩
theorem Good.take {l : Int} {xs : List Int} (a : Good l xs) (n : Nat) : Good l (xs.take n) := ⟨by have := a.1; simp; omega, fun x hx => a.2 x (List.mem_of_mem_take hx)⟩
theorem law1_ok (t : Turn l one other more) (a b th mn kp : Option D) :
    ∃ th', L_law_1 ω [a, some (.ref 0), b, some (.int l), some (T (red one)), th, mn, some (T one), some (T other), some (T more), kp] S = some (.nx [a, some (.ref 0), b, some (.int l), some (T (red one)), th', mn, some (T one), some (T other), some (T more), kp] S) := by
  have hn := t.n1
  obtain ⟨δ', S', e, rfl, _, th', rfl⟩ := forL_run (t := .name 5) (b := mIfS (mB (mBin opNe (mBI (biRepr ω) (mConsA (mCall M_are_alike (mConsA (mVar 3) (mConsA (mVar 7) (mConsA (mVar 5) mNilA)))) mNilA)) (mBI (biRepr ω) (mConsA (mBin opEq (mVar 4) (mCall M__law_plain (mConsA (mVar 5) mNilA))) mNilA)))) (mRet (mC (.bl false))) mPass)
    (fun ds δ S' => S' = S ∧ (∀ d ∈ ds, ∃ ys, d = T ys ∧ Good l ys) ∧ ∃ th', δ = [a, some (.ref 0), b, some (.int l), some (T (red one)), th', mn, some (T one), some (T other), some (T more), kp]) (by
      rintro d ds δ S' ⟨rfl, hd, th', rfl⟩
      obtain ⟨ys, rfl, gy⟩ := hd d List.mem_cons_self
      refine ⟨[a, some (.ref 0), b, some (.int l), some (T (red one)), some (T ys), mn, some (T one), some (T other), some (T more), kp], by simp, [a, some (.ref 0), b, some (.int l), some (T (red one)), some (T ys), mn, some (T one), some (T other), some (T more), kp], S', .inl ?_, rfl, fun d h => hd d (List.mem_cons_of_mem _ h), _, rfl⟩
      simp [are_alike_ok t.hl t.g1 gy, law_plain_ok gy.1, repr_bl, ne_str]) [T more, T other, T (red one), T (one ++ [1]), T (inv one)] [a, some (.ref 0), b, some (.int l), some (T (red one)), th, mn, some (T one), some (T other), some (T more), kp] S ⟨rfl, (by
      intro d hd
      have o1 := t.hl
      simp only [List.mem_cons, List.not_mem_nil, or_false] at hd
      rcases hd with rfl | rfl | rfl | rfl | rfl
      · exact ⟨_, rfl, t.g3⟩
      · exact ⟨_, rfl, t.g2⟩
      · exact ⟨_, rfl, t.g1.red⟩
      · exact ⟨_, rfl, t.g1.cat (by intro x hx; simp at hx; omega) (by simp; omega)⟩
      · exact ⟨_, rfl, t.g1.inv⟩), th, rfl⟩
  refine ⟨th', ?_⟩
  have a1 : opAdd (T one) (.tup [.int 1]) = some (T (one ++ [1])) := (add_T one [1]).trans (if_pos (by simp only [LINE, List.length_cons, List.length_nil]; omega))
  simp only [L_law_1, s_mFor]
  simp [a1, law_back_ok t.g1.1, LINE]
  simpa using e
theorem law2_ok (t : Turn l one other more) (a b th mn kp : Option D) (c : List Int) (k : Nat) (lf : List Int) (hk : k < 800000000) :
    ∃ mn' k' l', L_law_2 [a, some (.ref 0), b, some (.int l), some (T (red one)), th, mn, some (T one), some (T other), some (T more), kp] [.law c k lf] = some (.nx [a, some (.ref 0), b, some (.int l), some (T (red one)), th, mn', some (T one), some (T other), some (T more), kp] [.law c k' l']) ∧ k' ≤ k + 1 := by
  obtain ⟨v, k', l', e0, h1, h2, h3⟩ := next_ok (R := []) c k lf (many := 7) ⟨by omega, by omega⟩ (by omega)
  obtain ⟨δ', S', e, rfl, _, mn', rfl⟩ := forL_run (t := .name 6) (b := mIfS (mB (mBin opNe (mCall M_times (mConsA (mVar 3) (mConsA (mVar 9) (mConsA (mVar 6) mNilA)))) (mCall M__law_many (mConsA (mVar 7) (mConsA (mVar 6) mNilA))))) (mRet (mC (.bl false))) mPass)
    (fun ds δ S' => S' = [.law c k' l'] ∧ (∀ d ∈ ds, ∃ m : Int, d = .int m ∧ -10 ≤ m ∧ m ≤ 10) ∧ ∃ mn', δ = [a, some (.ref 0), b, some (.int l), some (T (red one)), th, mn', some (T one), some (T other), some (T more), kp]) (by
      rintro d ds δ S' ⟨rfl, hd, mn', rfl⟩
      obtain ⟨m, rfl, hm⟩ := hd d List.mem_cons_self
      refine ⟨[a, some (.ref 0), b, some (.int l), some (T (red one)), th, some (.int m), some (T one), some (T other), some (T more), kp], by simp, [a, some (.ref 0), b, some (.int l), some (T (red one)), th, some (.int m), some (T one), some (T other), some (T more), kp], [.law c k' l'], .inl ?_, rfl, fun d h => hd d (List.mem_cons_of_mem _ h), _, rfl⟩
      have e1 := times_ok (S := [.law c k' l']) t.hl t.g3 (by have := t.n3; omega) hm
      rw [t.eq, pow_red] at e1
      have e2 := law_many_ok (S := [.law c k' l']) (xs := one) (by have := t.n1; omega) hm
      simp [e1, e2]) [.int 0, .int 1, .int (-1), .int 2, .int (v - 3)] [a, some (.ref 0), b, some (.int l), some (T (red one)), th, mn, some (T one), some (T other), some (T more), kp] [.law c k' l'] ⟨rfl, (by
      intro d hd
      simp only [List.mem_cons, List.not_mem_nil, or_false] at hd
      rcases hd with rfl | rfl | rfl | rfl | rfl
      · exact ⟨_, rfl, by omega, by omega⟩
      · exact ⟨_, rfl, by omega, by omega⟩
      · exact ⟨_, rfl, by omega, by omega⟩
      · exact ⟨_, rfl, by omega, by omega⟩
      · exact ⟨_, rfl, by omega, by omega⟩), mn, rfl⟩
  refine ⟨mn', k', l', ?_, h3⟩
  simp only [L_law_2, s_mFor]
  simp [e0, LINE]
  simpa using e
theorem cut_last (xs : List Int) : cut (intD xs) none (some (-1)) = intD (xs.take (xs.length - 1)) := by
  rw [cut_all]
  unfold cut sIx
  simp
  congr 2; omega
theorem law3_ok (t : Turn l one other more) (a b th mn kp : Option D) :
    ∃ th', L_law_3 ω [a, some (.ref 0), b, some (.int l), some (T (red one)), th, mn, some (T one), some (T other), some (T more), kp] S = some (.nx [a, some (.ref 0), b, some (.int l), some (T (red one)), th', mn, some (T one), some (T other), some (T more), kp] S) := by
  have hn := t.n1
  obtain ⟨δ', S', e, rfl, _, th', rfl⟩ := forL_run (t := .name 5) (b := mIfS (mB (mBin opNe (mBI (biRepr ω) (mConsA (mCall M_is_before (mConsA (mVar 3) (mConsA (mVar 7) (mConsA (mVar 5) mNilA)))) mNilA)) (mBI (biRepr ω) (mConsA (mBin opLt (mCall M__law_key (mConsA (mVar 7) mNilA)) (mCall M__law_key (mConsA (mVar 5) mNilA))) mNilA)))) (mRet (mC (.bl false))) mPass)
    (fun ds δ S' => S' = S ∧ (∀ d ∈ ds, ∃ ys, d = T ys ∧ Good l ys) ∧ ∃ th', δ = [a, some (.ref 0), b, some (.int l), some (T (red one)), th', mn, some (T one), some (T other), some (T more), kp]) (by
      rintro d ds δ S' ⟨rfl, hd, th', rfl⟩
      obtain ⟨ys, rfl, gy⟩ := hd d List.mem_cons_self
      refine ⟨[a, some (.ref 0), b, some (.int l), some (T (red one)), some (T ys), mn, some (T one), some (T other), some (T more), kp], by simp, [a, some (.ref 0), b, some (.int l), some (T (red one)), some (T ys), mn, some (T one), some (T other), some (T more), kp], S', .inl ?_, rfl, fun d h => hd d (List.mem_cons_of_mem _ h), _, rfl⟩
      simp [is_before_ok t.hl t.g1 gy, law_key_ok t.g1.1, law_key_ok gy.1, keyL_lt, repr_bl, ne_str]) [T other, T (red one), T (one ++ [-1]), T (one.take (one.length - 1)), T one] [a, some (.ref 0), b, some (.int l), some (T (red one)), th, mn, some (T one), some (T other), some (T more), kp] S ⟨rfl, (by
      intro d hd
      have o1 := t.hl
      simp only [List.mem_cons, List.not_mem_nil, or_false] at hd
      rcases hd with rfl | rfl | rfl | rfl | rfl
      · exact ⟨_, rfl, t.g2⟩
      · exact ⟨_, rfl, t.g1.red⟩
      · exact ⟨_, rfl, t.g1.cat (by intro x hx; simp at hx; omega) (by simp; omega)⟩
      · exact ⟨_, rfl, t.g1.take _⟩
      · exact ⟨_, rfl, t.g1⟩), th, rfl⟩
  refine ⟨th', ?_⟩
  have a1 : opAdd (T one) (.tup [.int (-1)]) = some (T (one ++ [-1])) := (add_T one [-1]).trans (if_pos (by simp only [LINE, List.length_cons, List.length_nil]; omega))
  simp only [L_law_3, s_mFor]
  simp [a1, cut_last, LINE]
  simpa using e
theorem ne3 (x : List Int) : opNe (.lst [T x, T x, T x]) (.lst [T x, T x, T x]) = some (.bl false) := by
  simp [opNe, opNeO, D.okN, D.okNs, okNs_intD, eqD, eqDs, eqDs_intD]
theorem mul3 (x : D) : opMul (.lst [x]) (.int 3) = some (.lst [x, x, x]) := by simp [opMul, LINE]
@[simp] theorem isnot_bl (a b : Bool) : opIsNot (.bl a) (.bl b) = some (.bl (!decide (a = b))) := rfl
theorem ne_Tnil (xs : List Int) : opNe (T xs) (.tup []) = some (.bl (!decide (xs = []))) := ne_T xs []
theorem Turn.hne (t : Turn l one other more) : ¬ (red more).length = more.length := by
  have h1 := red_len one
  have h2 := t.gt
  rw [t.eq]; omega
theorem Turn.small (t : Turn l one other more) : (∀ x ∈ one, x.natAbs ≤ 8) ∧ ∀ x ∈ other, x.natAbs ≤ 8 :=
  ⟨fun x h => by have := t.g1.2 x h; have := t.hl; omega, fun x h => by have := t.g2.2 x h; have := t.hl; omega⟩
/-- what stands behind the two loops over things: the checks of one turn that change nothing -/
theorem b6_ok (t : Turn l one other more) (a b th mn kp : Option D) :
    mIfS (mOrT (mB (mBin opIsNot (mCall M_is_plain (mConsA (mVar 3) (mConsA (mVar 4) mNilA))) (mC (.bl true)))) (mB (mBin opIsNot (mCall M_is_plain (mConsA (mVar 3) (mConsA (mVar 9) mNilA))) (mC (.bl false))))) (mRet (mC (.bl false))) mPass
      [a, some (.ref 0), b, some (.int l), some (T (red one)), th, mn, some (T one), some (T other), some (T more), kp] S = some (.nx [a, some (.ref 0), b, some (.int l), some (T (red one)), th, mn, some (T one), some (T other), some (T more), kp] S) := by
  have h1 := is_plain_ok (S := S) t.hl t.g1.red
  have h2 := is_plain_ok (S := S) t.hl t.g3
  rw [red_idem] at h1
  simp [h1, h2, t.hne]
theorem b8_ok (t : Turn l one other more) (a b th mn kp : Option D) :
    mIfS (mOrT (mB (mBin opNe (mCall M_behind (mConsA (mVar 3) (mConsA (mVar 9) (mConsA (mVar 8) mNilA)))) (mCall M__law_plain (mConsA (mBin opAdd (mVar 7) (mVar 8)) mNilA)))) (mB (mBin opNe (mCall M_behind (mConsA (mVar 3) (mConsA (mVar 7) (mConsA (mTup mNilA) mNilA)))) (mVar 4)))) (mRet (mC (.bl false))) mPass
      [a, some (.ref 0), b, some (.int l), some (T (red one)), th, mn, some (T one), some (T other), some (T more), kp] S = some (.nx [a, some (.ref 0), b, some (.int l), some (T (red one)), th, mn, some (T one), some (T other), some (T more), kp] S) := by
  have n1 := t.n1
  have n2 := t.n2
  have r1 : red (more ++ other) = red (one ++ other) := by rw [← red_left, t.eq, red_left]
  have hl : (red (one ++ other)).length ≤ 2000 := Nat.le_trans (red_len _) (by simp; omega)
  have h1 := behind_ok (S := S) t.hl t.g3 t.g2 (by rw [r1]; exact hl)
  rw [r1] at h1
  have h2 := behind_ok (S := S) (ys := []) t.hl t.g1 ⟨by simp, by simp⟩ (Nat.le_trans (red_len _) (by simp; omega))
  rw [List.append_nil] at h2
  have h2' : M_behind [.int l, T one, .tup []] S = some (.ok (T (red one)) S) := h2
  have h3 := law_plain_ok (S := S) (xs := one ++ other) (by simp; omega)
  have hz : one.length + other.length ≤ 16777216 := by omega
  simp [h1, h2', h3, LINE, hz]
theorem b9_ok (t : Turn l one other more) (a b th mn kp : Option D) :
    mIfS (mOrT (mB (mBin opNe (mCall M_back (mConsA (mVar 3) (mConsA (mVar 9) mNilA))) (mCall M__law_plain (mConsA (mCall M__law_back (mConsA (mVar 7) mNilA)) mNilA)))) (mB (mBin opNe (mCall M_behind (mConsA (mVar 3) (mConsA (mVar 9) (mConsA (mCall M_back (mConsA (mVar 3) (mConsA (mVar 7) mNilA))) mNilA)))) (mTup mNilA)))) (mRet (mC (.bl false))) mPass
      [a, some (.ref 0), b, some (.int l), some (T (red one)), th, mn, some (T one), some (T other), some (T more), kp] S = some (.nx [a, some (.ref 0), b, some (.int l), some (T (red one)), th, mn, some (T one), some (T other), some (T more), kp] S) := by
  have h1 := back_ok (S := S) t.hl t.g3
  rw [red_inv, t.eq, ← red_inv] at h1
  have h2 := back_ok (S := S) t.hl t.g1
  have h3 := law_back_ok (S := S) t.g1.1
  have h4 := law_plain_ok (S := S) (xs := inv one) (by rw [inv_length]; exact t.g1.1)
  have r : red (more ++ red (inv one)) = [] := by rw [← red_left, t.eq, red_inv, red_self_inv]
  have h5 := behind_ok (S := S) t.hl t.g3 t.g1.inv.red (by rw [r]; simp)
  rw [r] at h5
  simp [h1, h2, h3, h4, h5, LINE, ne_Tnil, intD_nil]
theorem b12_ok (t : Turn l one other more) (a b th mn : Option D) :
    mIfS (mOrT (mB (mBin opNe (mCall M_times (mCatA (mConsA (mVar 3) mNilA) (mConsA (mVar 7) (mConsA (mC (.int 3)) mNilA)))) (mCall M__law_many (mConsA (mVar 7) (mConsA (mC (.int 3)) mNilA))))) (mB (mBin opNe (mBI (biRepr ω) (mConsA (mTup (mConsA (mVar 7) (mConsA (mVar 8) mNilA))) mNilA)) (mVar 10)))) (mRet (mC (.bl false))) mPass
      [a, some (.ref 0), b, some (.int l), some (T (red one)), th, mn, some (T one), some (T other), some (T more), some (.str (ω (.tup [T one, T other])))] S = some (.nx [a, some (.ref 0), b, some (.int l), some (T (red one)), th, mn, some (T one), some (T other), some (T more), some (.str (ω (.tup [T one, T other])))] S) := by
  have n1 := t.n1
  have n2 := t.n2
  have e1 := times_ok (S := S) (m := 3) t.hl t.g1 (by omega) (by omega)
  rw [pow_red] at e1
  have e2 := law_many_ok (S := S) (xs := one) (m := 3) (by omega) (by omega)
  have e3 := repr_two (ω := ω) (S := S) t.small.1 t.small.2 ⟨by omega, by omega⟩
  have e4 := ne_str (s := ω (.tup [T one, T other]))
  simp [e1, e2, e3, e4, LINE]
end
end K01

set_option linter.all false
set_option maxRecDepth 10000
/-! # K01u: the law of k01, put together -/
namespace K01
open PL PW
section
variable {ω : D → List Nat}
/-- one turn of the law -/
abbrev turnB (ω : D → List Nat) : MS := (mSeq (mSet 3 (mBin opAdd (mC (.int 1)) (mCall M__law_next (mConsA (mVar 1) (mConsA (mC (.int 8)) mNilA))))) (mSeq (mPar 7 8 (mCall M__law_steps (mConsA (mVar 1) (mConsA (mVar 3) (mConsA (mC (.int 24)) mNilA)))) (mCall M__law_steps (mConsA (mVar 1) (mConsA (mVar 3) (mConsA (mC (.int 12)) mNilA))))) (mSeq (mPar 9 10 (mCall M__law_put_in (mConsA (mVar 1) (mConsA (mVar 3) (mConsA (mVar 7) mNilA)))) (mBI (biRepr ω) (mConsA (mTup (mConsA (mVar 7) (mConsA (mVar 8) mNilA))) mNilA))) (mSeq (mSet 4 (mCall M__law_plain (mConsA (mVar 7) mNilA))) (mSeq (mIfS (mB (mBin opNe (mLst (mConsA (mCall M__law_any_way (mConsA (mVar 1) (mConsA (mVar 9) mNilA))) (mConsA (mCall M_plain_course (mConsA (mVar 3) (mConsA (mVar 9) mNilA))) (mConsA (mCall M_plain_course (mConsA (mVar 3) (mConsA (mVar 7) mNilA))) mNilA)))) (mBin opMul (mLst (mConsA (mVar 4) mNilA)) (mC (.int 3))))) (mRet (mC (.bl false))) mPass) (mSeq (mIfS (mOrT (mB (mBin opIsNot (mCall M_is_plain (mConsA (mVar 3) (mConsA (mVar 4) mNilA))) (mC (.bl true)))) (mB (mBin opIsNot (mCall M_is_plain (mConsA (mVar 3) (mConsA (mVar 9) mNilA))) (mC (.bl false))))) (mRet (mC (.bl false))) mPass) (mSeq (L_law_1 ω) (mSeq (mIfS (mOrT (mB (mBin opNe (mCall M_behind (mConsA (mVar 3) (mConsA (mVar 9) (mConsA (mVar 8) mNilA)))) (mCall M__law_plain (mConsA (mBin opAdd (mVar 7) (mVar 8)) mNilA)))) (mB (mBin opNe (mCall M_behind (mConsA (mVar 3) (mConsA (mVar 7) (mConsA (mTup mNilA) mNilA)))) (mVar 4)))) (mRet (mC (.bl false))) mPass) (mSeq (mIfS (mOrT (mB (mBin opNe (mCall M_back (mConsA (mVar 3) (mConsA (mVar 9) mNilA))) (mCall M__law_plain (mConsA (mCall M__law_back (mConsA (mVar 7) mNilA)) mNilA)))) (mB (mBin opNe (mCall M_behind (mConsA (mVar 3) (mConsA (mVar 9) (mConsA (mCall M_back (mConsA (mVar 3) (mConsA (mVar 7) mNilA))) mNilA)))) (mTup mNilA)))) (mRet (mC (.bl false))) mPass) (mSeq L_law_2 (mSeq (L_law_3 ω) (mIfS (mOrT (mB (mBin opNe (mCall M_times (mCatA (mConsA (mVar 3) mNilA) (mConsA (mVar 7) (mConsA (mC (.int 3)) mNilA)))) (mCall M__law_many (mConsA (mVar 7) (mConsA (mC (.int 3)) mNilA))))) (mB (mBin opNe (mBI (biRepr ω) (mConsA (mTup (mConsA (mVar 7) (mConsA (mVar 8) mNilA))) mNilA)) (mVar 10)))) (mRet (mC (.bl false))) mPass))))))))))))
theorem turn_ok (c : List Int) (k : Nat) (lf : List Int) (a t le lt th mn on ot mo kp : Option D) (hk : k < 700000000) :
    ∃ t' le' lt' th' mn' on' ot' mo' kp' k' lf', turnB ω [a, some (.ref 0), t, le, lt, th, mn, on, ot, mo, kp] [.law c k lf] = some (.nx [a, some (.ref 0), t', le', lt', th', mn', on', ot', mo', kp'] [.law c k' lf']) ∧ k' ≤ k + 10000 := by
  obtain ⟨v, k1, l1, e1, p1, p2, hk1⟩ := next_ok (R := []) c k lf (many := 8) ⟨by omega, by omega⟩ (by omega)
  have hl : 1 ≤ 1 + v ∧ 1 + v ≤ 8 := by omega
  obtain ⟨one, k2, l2, e2, g1, n1, hk2⟩ := steps_ok (R := []) c k1 l1 (most := 24) hl (by omega) (by omega)
  obtain ⟨other, k3, l3, e3, g2, n2, hk3⟩ := steps_ok (R := []) c k2 l2 (most := 12) hl (by omega) (by omega)
  obtain ⟨more, k4, l4, e4, g3, n3, gt, eq, hk4⟩ := put_in_ok (R := []) c k3 l3 hl g1.2 (by omega) (by omega)
  have tn : Turn (1 + v) one other more := ⟨hl, g1, by omega, g2, by omega, ⟨by omega, g3⟩, by omega, gt, eq⟩
  obtain ⟨k5, l5, e5, hk5⟩ := any_way_ok (R := []) c k4 l4 (xs := more) (by have := tn.n3; omega) (by omega)
  rw [eq] at e5
  have h1 : mSet 3 (mBin opAdd (mC (.int 1)) (mCall M__law_next (mConsA (mVar 1) (mConsA (mC (.int 8)) mNilA)))) [a, some (.ref 0), t, le, lt, th, mn, on, ot, mo, kp] [.law c k lf] = some (.nx [a, some (.ref 0), t, some (.int (1 + v)), lt, th, mn, on, ot, mo, kp] [.law c k1 l1]) := by simp [e1]
  have h2 : mPar 7 8 (mCall M__law_steps (mConsA (mVar 1) (mConsA (mVar 3) (mConsA (mC (.int 24)) mNilA)))) (mCall M__law_steps (mConsA (mVar 1) (mConsA (mVar 3) (mConsA (mC (.int 12)) mNilA)))) [a, some (.ref 0), t, some (.int (1 + v)), lt, th, mn, on, ot, mo, kp] [.law c k1 l1] = some (.nx [a, some (.ref 0), t, some (.int (1 + v)), lt, th, mn, some (T one), some (T other), mo, kp] [.law c k3 l3]) := by simp [e2, e3]
  have er := repr_two (ω := ω) (S := [.law c k4 l4]) tn.small.1 tn.small.2 ⟨by have := tn.n1; omega, by have := tn.n2; omega⟩
  have h3 : mPar 9 10 (mCall M__law_put_in (mConsA (mVar 1) (mConsA (mVar 3) (mConsA (mVar 7) mNilA)))) (mBI (biRepr ω) (mConsA (mTup (mConsA (mVar 7) (mConsA (mVar 8) mNilA))) mNilA)) [a, some (.ref 0), t, some (.int (1 + v)), lt, th, mn, some (T one), some (T other), mo, kp] [.law c k3 l3] = some (.nx [a, some (.ref 0), t, some (.int (1 + v)), lt, th, mn, some (T one), some (T other), some (T more), some (.str (ω (.tup [T one, T other])))] [.law c k4 l4]) := by simp [e4, er, LINE]
  have h4 : mSet 4 (mCall M__law_plain (mConsA (mVar 7) mNilA)) [a, some (.ref 0), t, some (.int (1 + v)), lt, th, mn, some (T one), some (T other), some (T more), some (.str (ω (.tup [T one, T other])))] [.law c k4 l4] = some (.nx [a, some (.ref 0), t, some (.int (1 + v)), some (T (red one)), th, mn, some (T one), some (T other), some (T more), some (.str (ω (.tup [T one, T other])))] [.law c k4 l4]) := by simp [law_plain_ok g1.1]
  have pc1 := plain_course_ok (S := [.law c k5 l5]) hl tn.g3
  have pc2 := plain_course_ok (S := [.law c k5 l5]) hl g1
  rw [eq] at pc1
  have h5 : mIfS (mB (mBin opNe (mLst (mConsA (mCall M__law_any_way (mConsA (mVar 1) (mConsA (mVar 9) mNilA))) (mConsA (mCall M_plain_course (mConsA (mVar 3) (mConsA (mVar 9) mNilA))) (mConsA (mCall M_plain_course (mConsA (mVar 3) (mConsA (mVar 7) mNilA))) mNilA)))) (mBin opMul (mLst (mConsA (mVar 4) mNilA)) (mC (.int 3))))) (mRet (mC (.bl false))) mPass
      [a, some (.ref 0), t, some (.int (1 + v)), some (T (red one)), th, mn, some (T one), some (T other), some (T more), some (.str (ω (.tup [T one, T other])))] [.law c k4 l4] = some (.nx [a, some (.ref 0), t, some (.int (1 + v)), some (T (red one)), th, mn, some (T one), some (T other), some (T more), some (.str (ω (.tup [T one, T other])))] [.law c k5 l5]) := by
    simp [e5, pc1, pc2, LINE, mul3, ne3]
  have h6 := b6_ok (S := [.law c k5 l5]) tn a t th mn (some (.str (ω (.tup [T one, T other]))))
  obtain ⟨th1, h7⟩ := law1_ok (ω := ω) (S := [.law c k5 l5]) tn a t th mn (some (.str (ω (.tup [T one, T other]))))
  have h8 := b8_ok (S := [.law c k5 l5]) tn a t th1 mn (some (.str (ω (.tup [T one, T other]))))
  have h9 := b9_ok (S := [.law c k5 l5]) tn a t th1 mn (some (.str (ω (.tup [T one, T other]))))
  obtain ⟨mn1, k6, l6, h10, hk6⟩ := law2_ok tn a t th1 mn (some (.str (ω (.tup [T one, T other])))) c k5 l5 (by omega)
  obtain ⟨th2, h11⟩ := law3_ok (ω := ω) (S := [.law c k6 l6]) tn a t th1 mn1 (some (.str (ω (.tup [T one, T other]))))
  have h12 := b12_ok (ω := ω) (S := [.law c k6 l6]) tn a t th2 mn1
  have hh := (seq_nx h1).trans ((seq_nx h2).trans ((seq_nx h3).trans ((seq_nx h4).trans ((seq_nx h5).trans ((seq_nx h6).trans ((seq_nx h7).trans ((seq_nx h8).trans ((seq_nx h9).trans ((seq_nx h10).trans ((seq_nx h11).trans h12))))))))))
  exact ⟨_, _, _, _, _, _, _, _, _, k6, l6, hh, by omega⟩
/-! ### the great ones -/
theorem rep1_mem {n : Nat} {w : List Int} {x : Int} (h : x ∈ rep n w) : x ∈ w := by
  induction n with
  | zero => simp [rep_zero] at h
  | succ n ih => rw [rep_succ] at h; rcases List.mem_append.mp h with h | h; exact h; exact ih h
theorem good2 (n : Nat) (w : List Int) (h : n * w.length ≤ 2000) (g : ∀ x ∈ w, x ≠ 0 ∧ -2 ≤ x ∧ x ≤ 2) : Good 2 (rep n w) := ⟨by rw [rep_len]; exact h, fun x hx => g x (rep1_mem hx)⟩
theorem red_pos : ∀ {w : List Int}, (∀ x ∈ w, 0 < x) → Red w
  | [], _ => trivial
  | [_], _ => trivial
  | x :: y :: r, h => ⟨by have := h x (by simp); have := h y (by simp); omega, red_pos fun z hz => h z (List.mem_cons_of_mem _ hz)⟩
theorem rep_head (n : Nat) (x : Int) (w : List Int) : rep (n + 1) (x :: w) = x :: (w ++ rep n (x :: w)) := by rw [rep_succ]; rfl
theorem great1 {S : Sto} {m n : Nat} (e : m = n + 1) (h : m ≤ 2000) : M_are_alike [.int 2, T (rep m [1]), T (rep m [2])] S = some (.ok (.bl false) S) := by
  have g1 := good2 m [1] (by simpa using h) (by intro x hx; simp at hx; omega)
  have g2 := good2 m [2] (by simpa using h) (by intro x hx; simp at hx; omega)
  rw [are_alike_ok (by omega) g1 g2]
  have r1 : red (rep m [1]) = rep m [1] := red_id (red_pos fun x h => by have := rep1_mem h; simp at this; omega)
  have r2 : red (rep m [2]) = rep m [2] := red_id (red_pos fun x h => by have := rep1_mem h; simp at this; omega)
  have ne : rep m [1] ≠ rep m [2] := by
    subst e
    rw [rep_head n 1 [], rep_head n 2 []]
    intro h
    have := (List.cons.inj h).1
    omega
  rw [r1, r2, decide_eq_false ne]
theorem great2 {S : Sto} {m : Nat} (h : m ≤ 900) : M_are_alike [.int 2, T (rep m [1, 2]), T (rep m [1, 2] ++ [1, -1])] S = some (.ok (.bl true) S) := by
  have g1 := good2 m [1, 2] (by simp; omega) (by intro x hx; simp at hx; omega)
  have g2 := g1.cat (ys := [1, -1]) (by intro x hx; simp at hx; omega) (by rw [rep_len]; simp; omega)
  rw [are_alike_ok (by omega) g1 g2]
  have e : red (rep m [1, 2] ++ [1, -1]) = red (rep m [1, 2]) := by
    have := red_opp (rep m [1, 2]) [] 1
    rw [List.append_nil] at this
    exact this
  rw [e, decide_eq_true rfl]
theorem great3 {S : Sto} {m n : Nat} (e : m < n) (h : n ≤ 2000) : M_is_before [.int 2, T (rep m [1]), T (rep n [1])] S = some (.ok (.bl true) S) := by
  have g1 := good2 m [1] (by simp; omega) (by intro x hx; simp at hx; omega)
  have g2 := good2 n [1] (by simp; omega) (by intro x hx; simp at hx; omega)
  rw [is_before_ok (by omega) g1 g2]
  have e : before (rep m [1]) (rep n [1]) = true := by
    unfold before
    rw [if_neg (by rw [rep_len, rep_len]; simp; omega), rep_len, rep_len]
    simp; omega
  rw [e]
theorem great4 {S : Sto} {m n : Nat} (e : m = n + 1) (h : m ≤ 2000) : M_is_before [.int 2, T (rep m [2]), T (rep m [1])] S = some (.ok (.bl false) S) := by
  have g1 := good2 m [2] (by simpa using h) (by intro x hx; simp at hx; omega)
  have g2 := good2 m [1] (by simpa using h) (by intro x hx; simp at hx; omega)
  rw [is_before_ok (by omega) g1 g2]
  have e : before (rep m [2]) (rep m [1]) = false := by
    unfold before
    rw [if_pos (by rw [rep_len, rep_len]; rfl)]
    subst e
    rw [rep_head n 1 [], rep_head n 2 []]
    rw [if_neg (by intro h; have := (List.cons.inj h).1; omega)]
    simp only [List.map_cons, intD_cons, ltDs]
    simp [kn, ltD]
  rw [e]
theorem tail_ok {δ : Env} {S : Sto} {x1 x2 x3 x4 : ME} {i1 i2 i3 i4 : Int} {w1 w2 w3 w4 w5 w6 w7 : List Int} (h1 : ∀ δ S, x1 δ S = some (.ok (.int i1) S)) (h2 : ∀ δ S, x2 δ S = some (.ok (.int i2) S)) (h3 : ∀ δ S, x3 δ S = some (.ok (.int i3) S)) (h4 : ∀ δ S, x4 δ S = some (.ok (.int i4) S))
    (m1 : opMul (.tup [.int 1]) (.int i1) = some (T w1)) (m2 : opMul (.tup [.int 2]) (.int i1) = some (T w2)) (m3 : opMul (.tup [.int 1, .int 2]) (.int i2) = some (T w3)) (m4 : opMul (.tup [.int 1]) (.int i3) = some (T w4)) (m5 : opMul (.tup [.int 1]) (.int i4) = some (T w5)) (m6 : opMul (.tup [.int 2]) (.int i4) = some (T w6))
    (a1 : opAdd (T w3) (.tup [.int 1, .int (-1)]) = some (T w7)) (e1 : M_are_alike [.int 2, T w1, T w2] S = some (.ok (.bl false) S)) (e2 : M_are_alike [.int 2, T w3, T w7] S = some (.ok (.bl true) S)) (e3 : M_is_before [.int 2, T w4, T w5] S = some (.ok (.bl true) S)) (e4 : M_is_before [.int 2, T w6, T w5] S = some (.ok (.bl false) S)) :
    (mSeq (mIfS (mOrT (mB (mCall M_are_alike (mConsA (mC (.int 2)) (mConsA (mBin opMul (mTup (mConsA (mC (.int 1)) mNilA)) x1) (mConsA (mBin opMul (mTup (mConsA (mC (.int 2)) mNilA)) x1) mNilA))))) (mNotT (mB (mCall M_are_alike (mConsA (mC (.int 2)) (mConsA (mBin opMul (mTup (mConsA (mC (.int 1)) (mConsA (mC (.int 2)) mNilA))) x2) (mConsA (mBin opAdd (mBin opMul (mTup (mConsA (mC (.int 1)) (mConsA (mC (.int 2)) mNilA))) x2) (mTup (mConsA (mC (.int 1)) (mConsA (mUn opNeg (mC (.int 1))) mNilA)))) mNilA))))))) (mRet (mC (.bl false))) mPass) (mRet (mAndV (mCall M_is_before (mConsA (mC (.int 2)) (mConsA (mBin opMul (mTup (mConsA (mC (.int 1)) mNilA)) x3) (mConsA (mBin opMul (mTup (mConsA (mC (.int 1)) mNilA)) x4) mNilA)))) (mNotV (mCall M_is_before (mConsA (mC (.int 2)) (mConsA (mBin opMul (mTup (mConsA (mC (.int 2)) mNilA)) x4) (mConsA (mBin opMul (mTup (mConsA (mC (.int 1)) mNilA)) x4) mNilA)))))))) δ S = some (.rt (.bl true) S) := by
  have z : ∀ a b : D, opAdd (T w3) (.tup [.int 1, .int (-1)]) = some (T w7) := fun _ _ => a1
  simp only [s_mSeq, s_mIfS, s_mOrT, s_mB, s_mCall, s_mConsA, s_mNilA, s_mC, s_mBin, s_mTup, s_mUn, s_mNotT, s_mRet, s_mAndV, s_mNotV, s_mPass, h1, h2, h3, h4, m1, m2, m3, m4, m5, m6, a1, e1, e2, e3, e4,
    bE_ok, bEA_ok, bAA_ok, bA_ok, bET_ok, bTT_ok, bTS_ok, bES_ok, bS_nx, Option.map_some, neg_int, List.length_cons, List.length_nil, LINE]
  simp only [show (0 + 1 ≤ 16777216) = True from eq_true (by omega), show (0 + 1 + 1 ≤ 16777216) = True from eq_true (by omega), if_true, bE_ok, bEA_ok, bAA_ok, bA_ok, bET_ok, bTT_ok, bTS_ok, bES_ok, bS_nx, Option.map_some, h1, h2, h3, h4, m1, m2, m3, m4, m5, m6, a1, e1, e2, e3, e4, Bool.not_true, Bool.not_false, Bool.false_eq_true, if_false, s_mPass, s_mRet, s_mAndV, s_mNotV, s_mCall, s_mConsA, s_mNilA, s_mC, s_mBin, s_mTup, List.length_cons, List.length_nil, LINE]
theorem law_true' (ns : List Int) (h : ns.length ≤ 63) : ∃ S', M_law ω [.lst (ns.map .int)] [] = some (.ok (.bl true) S') := by
  obtain ⟨lf0, e0⟩ := begun_ok h
  have e0 : M__law_begun [.lst (ns.map .int)] [] = some (.ok (.ref 0) [.law ns 0 lf0]) := e0
  have loop : ∃ t le lt th mn on ot mo kp k' lf', L_law_4 ω [some (L ns), some (.ref 0), none, none, none, none, none, none, none, none, none] [.law ns 0 lf0] = some (.nx [some (L ns), some (.ref 0), t, le, lt, th, mn, on, ot, mo, kp] [.law ns k' lf']) := by
    obtain ⟨n, hn, hn2⟩ : ∃ n : Nat, (if (6 : Int) < ns.length then (6 : Int) else ns.length) = n ∧ n ≤ 6 := by
      by_cases q : (6 : Int) < ns.length
      · exact ⟨6, by rw [if_pos q]; rfl, Nat.le_refl _⟩
      · exact ⟨ns.length, by rw [if_neg q], by omega⟩
    obtain ⟨δ', S', e, t, le, lt, th, mn, on, ot, mo, kp, k', lf', rfl, _, rfl⟩ := forL_run (t := .name 2) (b := turnB ω)
      (fun ds δ S' => ∃ t le lt th mn on ot mo kp k' lf', S' = [.law ns k' lf'] ∧ k' + 10000 * ds.length ≤ 200000 ∧ δ = [some (L ns), some (.ref 0), t, le, lt, th, mn, on, ot, mo, kp]) (by
        rintro d ds δ S' ⟨t, le, lt, th, mn, on, ot, mo, kp, k', lf', rfl, hk, rfl⟩
        simp only [List.length_cons] at hk
        obtain ⟨t', le', lt', th', mn', on', ot', mo', kp', k2, lf2, e, hk2⟩ := turn_ok (ω := ω) ns k' lf' (some (L ns)) (some d) le lt th mn on ot mo kp (by omega)
        exact ⟨[some (L ns), some (.ref 0), some d, le, lt, th, mn, on, ot, mo, kp], by simp, _, _, .inl e, t', le', lt', th', mn', on', ot', mo', kp', k2, lf2, rfl, by omega, rfl⟩)
      (rangeD 0 (5 + n)) [some (L ns), some (.ref 0), none, none, none, none, none, none, none, none, none] [.law ns 0 lf0] ⟨none, none, none, none, none, none, none, none, none, 0, lf0, rfl, by rw [rangeD_len]; omega, rfl⟩
    refine ⟨t, le, lt, th, mn, on, ot, mo, kp, k', lf', ?_⟩
    have hb : (5 + (n : Int)).natAbs < 4611686018427387904 := by omega
    have hm : biMin [.law ns 0 lf0] [.int ns.length, .int 6] = some (.int n) := by rw [min_intD, hn]
    have hr : (5 + (n : Int)).toNat = 5 + n := by omega
    have it : mItRange1 (mBin opAdd (mC (.int 5)) (mBI biMin (mConsA (mBI biLen (mConsA (mVar 0) mNilA)) (mConsA (mC (.int 6)) mNilA)))) [some (L ns), some (.ref 0), none, none, none, none, none, none, none, none, none] [.law ns 0 lf0] = some (.ok (rangeD 0 (5 + n)) [.law ns 0 lf0]) := by
      simp [hm, hb, hr, -min_intD]
    show mFor (.name 2) _ (turnB ω) _ _ = _
    rw [s_mFor, it]
    exact e
  obtain ⟨t, le, lt, th, mn, on, ot, mo, kp, k', lf', e⟩ := loop
  have n1 : ((1500 : Nat) : Int) = 1500 := rfl
  have n2 : ((900 : Nat) : Int) = 900 := rfl
  have n3 : ((1999 : Nat) : Int) = 1999 := rfl
  have n4 : ((2000 : Nat) : Int) = 2000 := rfl
  have one' : intD [1] = [.int 1] := rfl
  have two' : intD [2] = [.int 2] := rfl
  have both' : intD [1, 2] = [.int 1, .int 2] := rfl
  have m1 := mul_T [1] 1500 (by omega) (by simp)
  have m2 := mul_T [2] 1500 (by omega) (by simp)
  have m3 := mul_T [1, 2] 900 (by omega) (by simp)
  have m4 := mul_T [1] 1999 (by omega) (by simp)
  have m5 := mul_T [1] 2000 (by omega) (by simp)
  have m6 := mul_T [2] 2000 (by omega) (by simp)
  simp only [T, one', two', both', n1, n2, n3, n4] at m1 m2 m3 m4 m5 m6
  have a1 : opAdd (T (rep 900 [1, 2])) (.tup [.int 1, .int (-1)]) = some (T (rep 900 [1, 2] ++ [1, -1])) := by
    rw [add_two, if_pos (by rw [rep_len]; simp [LINE])]
  have tl := tail_ok (δ := [some (L ns), some (.ref 0), t, le, lt, th, mn, on, ot, mo, kp]) (S := [.law ns k' lf']) (x1 := mC (.int 1500)) (x2 := mC (.int 900)) (x3 := mC (.int 1999)) (x4 := mC (.int 2000)) (fun _ _ => s_mC) (fun _ _ => s_mC) (fun _ _ => s_mC) (fun _ _ => s_mC) m1 m2 m3 m4 m5 m6 a1 (great1 (n := 1499) rfl (by omega)) (great2 (by omega)) (great3 (by omega) (by omega)) (great4 (n := 1999) rfl (by omega))
  generalize hb : (mSeq (mIfS (mOrT (mB (mCall M_are_alike (mConsA (mC (.int 2)) (mConsA (mBin opMul (mTup (mConsA (mC (.int 1)) mNilA)) (mC (.int 1500))) (mConsA (mBin opMul (mTup (mConsA (mC (.int 2)) mNilA)) (mC (.int 1500))) mNilA))))) (mNotT (mB (mCall M_are_alike (mConsA (mC (.int 2)) (mConsA (mBin opMul (mTup (mConsA (mC (.int 1)) (mConsA (mC (.int 2)) mNilA))) (mC (.int 900))) (mConsA (mBin opAdd (mBin opMul (mTup (mConsA (mC (.int 1)) (mConsA (mC (.int 2)) mNilA))) (mC (.int 900))) (mTup (mConsA (mC (.int 1)) (mConsA (mUn opNeg (mC (.int 1))) mNilA)))) mNilA))))))) (mRet (mC (.bl false))) mPass) (mRet (mAndV (mCall M_is_before (mConsA (mC (.int 2)) (mConsA (mBin opMul (mTup (mConsA (mC (.int 1)) mNilA)) (mC (.int 1999))) (mConsA (mBin opMul (mTup (mConsA (mC (.int 1)) mNilA)) (mC (.int 2000))) mNilA)))) (mNotV (mCall M_is_before (mConsA (mC (.int 2)) (mConsA (mBin opMul (mTup (mConsA (mC (.int 2)) mNilA)) (mC (.int 2000))) (mConsA (mBin opMul (mTup (mConsA (mC (.int 1)) mNilA)) (mC (.int 2000))) mNilA)))))))) = tb at tl
  refine ⟨[], ?_⟩
  unfold M_law
  rw [hb]
  simp only [fold_intD] at e0
  have b1 : mSet 1 (mCall M__law_begun (mConsA (mVar 0) mNilA)) [some (L ns), none, none, none, none, none, none, none, none, none, none] [] = some (.nx [some (L ns), some (.ref 0), none, none, none, none, none, none, none, none, none] [.law ns 0 lf0]) := by simp [e0]
  have hh := (seq_nx b1).trans ((seq_nx e).trans tl)
  have hone : ([D.lst (ns.map .int)] : List D).length = 1 := rfl
  rw [s_mFn, if_pos hone]
  have hd : ([D.lst (ns.map .int)].map some ++ List.replicate 10 none : Env) = [some (L ns), none, none, none, none, none, none, none, none, none, none] := rfl
  rw [hd, hh]
  rfl
end
end K01

namespace K01
theorem law_true (ns : List Int) (h : ns.length ≤ 63) : ∃ S', M_law BR.reprD [.lst (ns.map .int)] [] = some (.ok (.bl true) S') := law_true' ns h
end K01

set_option maxRecDepth 100000
open PySem PySem.W PyProof.Rows
set_option maxHeartbeats 0 in
theorem PySem.Challenge.cw_homecourses_k01_whole_plain_courses_holds : PySem.Challenge.rw_homecourses_k01_whole_plain_courses.Holds := by
  w_on; o_law; k_head; (case hw => w_witness2)
  k_fill
  refine BR.walkC (l := PySem.Challenge.rw_homecourses_k01_whole_plain_courses) (n := 63) (k := 6) (x := "script") (m := K01.M_law BR.reprD) rfl (by decide) rfl ⟨rfl, by decide, by decide⟩ (fun w h Y => PySem.W.kIn_of Y) K01.law_true ?F
  case F =>
    intro w mg fa h KX G hmg
    refine' K01.all_mk KX G hmg ?a31 ?l31 ?c31 ?k31 ?a32 ?l32 ?c32 ?k32 ?a33 ?l33 ?c33 ?k33 ?a34 ?l34 ?c34 ?k34 ?a39 ?l39 ?c39 ?k39 ?a35 ?l35 ?c35 ?k35 ?a40 ?l40 ?c40 ?k40 ?a16 ?l16 ?c16 ?k16 ?a6 ?l6 ?c6 ?k6 ?a7 ?l7 ?c7 ?k7 ?a13 ?l13 ?c13 ?k13 ?a8 ?l8 ?c8 ?k8 ?a14 ?l14 ?c14 ?k14 ?a15 ?l15 ?c15 ?k15 ?a22 ?l22 ?c22 ?k22 ?a21 ?l21 ?c21 ?k21 ?a36 ?l36 ?c36 ?k36 ?a23 ?l23 ?c23 ?k23 ?a20 ?l20 ?c20 ?k20 ?a18 ?l18 ?c18 ?k18 ?a24 ?l24 ?c24 ?k24 ?a17 ?l17 ?c17 ?k17 ?a25 ?l25 ?c25 ?k25 ?a26 ?l26 ?c26 ?k26 ?a27 ?l27 ?c27 ?k27 ?a28 ?l28 ?c28 ?k28 ?a38 ?l38 ?c38 ?k38 ?a19 ?l19 ?c19 ?k19 ?a29 ?l29 ?c29 ?k29 ?a37 ?l37 ?c37 ?k37 ?a41 ?l41 ?c41 ?k41 ?g_MOST_LETTERS ?g_MOST_STEPS ?g_MOST_TIMES ?z_list ?z_int ?z_len ?z_min ?z_range ?z_tuple ?z_repr ?z_isinstance ?z_bool ?z_enumerate ?z_abs
    (case a31 => k_is)
    (case l31 => k_is)
    (case c31 => k_is)
    (case k31 => k_is)
    (case a32 => k_is)
    (case l32 => k_is)
    (case c32 => k_is)
    (case k32 => k_is)
    (case a33 => k_is)
    (case l33 => k_is)
    (case c33 => k_is)
    (case k33 => k_is)
    (case a34 => k_is)
    (case l34 => k_is)
    (case c34 => k_is)
    (case k34 => k_is)
    (case a39 => k_is)
    (case l39 => k_is)
    (case c39 => k_is)
    (case k39 => k_is)
    (case a35 => k_is)
    (case l35 => k_is)
    (case c35 => k_is)
    (case k35 => k_is)
    (case a40 => k_is)
    (case l40 => k_is)
    (case c40 => k_is)
    (case k40 => k_is)
    (case a16 => k_is)
    (case l16 => k_is)
    (case c16 => k_is)
    (case k16 => k_is)
    (case a6 => k_is)
    (case l6 => k_is)
    (case c6 => k_is)
    (case k6 => k_is)
    (case a7 => k_is)
    (case l7 => k_is)
    (case c7 => k_is)
    (case k7 => k_is)
    (case a13 => k_is)
    (case l13 => k_is)
    (case c13 => k_is)
    (case k13 => k_is)
    (case a8 => k_is)
    (case l8 => k_is)
    (case c8 => k_is)
    (case k8 => k_is)
    (case a14 => k_is)
    (case l14 => k_is)
    (case c14 => k_is)
    (case k14 => k_is)
    (case a15 => k_is)
    (case l15 => k_is)
    (case c15 => k_is)
    (case k15 => k_is)
    (case a22 => k_is)
    (case l22 => k_is)
    (case c22 => k_is)
    (case k22 => k_is)
    (case a21 => k_is)
    (case l21 => k_is)
    (case c21 => k_is)
    (case k21 => k_is)
    (case a36 => k_is)
    (case l36 => k_is)
    (case c36 => k_is)
    (case k36 => k_is)
    (case a23 => k_is)
    (case l23 => k_is)
    (case c23 => k_is)
    (case k23 => k_is)
    (case a20 => k_is)
    (case l20 => k_is)
    (case c20 => k_is)
    (case k20 => k_is)
    (case a18 => k_is)
    (case l18 => k_is)
    (case c18 => k_is)
    (case k18 => k_is)
    (case a24 => k_is)
    (case l24 => k_is)
    (case c24 => k_is)
    (case k24 => k_is)
    (case a17 => k_is)
    (case l17 => k_is)
    (case c17 => k_is)
    (case k17 => k_is)
    (case a25 => k_is)
    (case l25 => k_is)
    (case c25 => k_is)
    (case k25 => k_is)
    (case a26 => k_is)
    (case l26 => k_is)
    (case c26 => k_is)
    (case k26 => k_is)
    (case a27 => k_is)
    (case l27 => k_is)
    (case c27 => k_is)
    (case k27 => k_is)
    (case a28 => k_is)
    (case l28 => k_is)
    (case c28 => k_is)
    (case k28 => k_is)
    (case a38 => k_is)
    (case l38 => k_is)
    (case c38 => k_is)
    (case k38 => k_is)
    (case a19 => k_is)
    (case l19 => k_is)
    (case c19 => k_is)
    (case k19 => k_is)
    (case a29 => k_is)
    (case l29 => k_is)
    (case c29 => k_is)
    (case k29 => k_is)
    (case a37 => k_is)
    (case l37 => k_is)
    (case c37 => k_is)
    (case k37 => k_is)
    (case a41 => k_is)
    (case l41 => k_is)
    (case c41 => k_is)
    (case k41 => k_is)
    (case g_MOST_LETTERS => k_is)
    (case g_MOST_STEPS => k_is)
    (case g_MOST_TIMES => k_is)
    (case z_list => k_is)
    (case z_int => k_is)
    (case z_len => k_is)
    (case z_min => k_is)
    (case z_range => k_is)
    (case z_tuple => k_is)
    (case z_repr => k_is)
    (case z_isinstance => k_is)
    (case z_bool => k_is)
    (case z_enumerate => k_is)
    (case z_abs => k_is)
