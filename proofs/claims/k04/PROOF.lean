import PyProof.Rows.All
import Wide.All
import OpenK.AllK
import Wide.FinOn
import KE.KExcSuper
import KE.KExcInit
import HandS.Exc
import HandS.ExcInit
import HandS.TryMany
import HandS.Words
import HandS.ForMost
import HandS.TupAny
import HandS.TupMul
import HandS.Conv
import HandS.Style
import HandS.IsInst
import HandS.Walk
import HandS.Wide
import HandS.Lambda
import PyProof.ReprReads
import PyProof.ReprRoads
import PyProof.ReprLen
import KE.GoesEnum
import KE.DataCmp
import KE.SortData
import HandS.ExcField
import HandS.ExcIs
import PyProof.P3In
import HandS.Deep
import KE.KNestM
import PyProof.EqKinds
import HandS.Codes
import HandS.Replace
import KE.KRevSl
import KE.GoesMore
import KE.DataMinKey
import PySem.Challenge.RW_homecourses_k04_whole_turnings
/-! # PL: a small mirror language in plain Lean (no Python model in sight).
Values are trees; mutable lists stand in a store. Each construct of Python that the programs use is a combinator;
a def becomes a function `List D → Sto → Option RE` (none: not covered, nothing is claimed). -/
set_option linter.all false
namespace PL

/-- a value: None, a bool, an int, a text (its code points), a tuple, a list that nobody changes any more, a mutable object of the store, an object by its address (a def: it is only handed on), an exception that was caught (its address, its dict's, its field) -/
inductive D where
  | non | bl (b : Bool) | int (i : Int) | str (s : List Nat) | tup (xs : List D) | lst (xs : List D) | ref (n : Nat) | adr (a : Nat) | emp | exn (a d : Nat) (f : String) (val : D)
  deriving Inhabited

/-- what stands in the store (a list's items are without mutable objects) -/
inductive MO where
  | dead
  | lst (xs : List D)
  /-- the draws' state: cells, counter, what is left of great ones -/
  | law (cells : List Int) (at_ : Nat) (left : List Int)
  deriving Inhabited

abbrev Sto := List MO
abbrev Env := List (Option D)
/-- an exception: its class (a number of the program's), its field -/
structure Exn where
  cls : Nat
  val : D
  deriving Inhabited
inductive RE where
  | ok (d : D) (S : Sto)
  | ex (x : Exn) (S : Sto)
  deriving Inhabited
/-- arguments -/
inductive RA where
  | ok (ds : List D) (S : Sto)
  | ex (x : Exn) (S : Sto)
/-- a test -/
inductive RT where
  | ok (b : Bool) (S : Sto)
  | ex (x : Exn) (S : Sto)
/-- a statement -/
inductive RS where
  | nx (δ : Env) (S : Sto)
  | rt (d : D) (S : Sto)
  | bk (δ : Env) (S : Sto)
  | ct (δ : Env) (S : Sto)
  | ex (x : Exn) (δ : Env) (S : Sto)

abbrev ME := Env → Sto → Option RE
abbrev MA := Env → Sto → Option RA
abbrev MT := Env → Sto → Option RT
abbrev MS := Env → Sto → Option RS
abbrev MF := List D → Sto → Option RE

/-- the line of sizes: 2 ^ 24 -/
abbrev LINE : Nat := 16777216

mutual
/-- no mutable object within -/
def D.pure : D → Bool
  | .non => true | .bl _ => true | .int _ => true | .str _ => true
  | .tup xs => D.pures xs
  | .lst xs => D.pures xs
  | .ref _ => false
  | .adr _ => true
  | .emp => true
  | .exn _ _ _ v => v.pure
def D.pures : List D → Bool
  | [] => true
  | x :: xs => x.pure && D.pures xs
end

mutual
/-- data without mutable objects, nested at most n deep, its texts of true signs -/
def D.okN : D → Nat → Bool
  | .non, _ => true | .bl _, _ => true | .int _, _ => true
  | .str s, _ => s.all fun c => decide (c < 1114112)
  | .tup xs, n => match n with
    | 0 => false
    | n + 1 => D.okNs xs n
  | .lst xs, n => match n with
    | 0 => false
    | n + 1 => D.okNs xs n
  | .ref _, _ => false
  | .adr _, _ => false
  | .emp, _ => false
  | .exn _ _ _ _, _ => false
def D.okNs : List D → Nat → Bool
  | [], _ => true
  | x :: xs, n => x.okN n && D.okNs xs n
end
abbrev D.ok (d : D) : Bool := d.okN 60
mutual
/-- how many signs its repr has at most; none: an int that is too great to be shown -/
def D.wt : D → Option Nat
  | .non => some 4 | .bl _ => some 5
  | .int i => if i.natAbs < 2 ^ 1900 then some 2000 else none
  | .str s => some (10 * s.length + 2)
  | .tup xs => (D.wts xs).map (· + 3)
  | .lst xs => (D.wts xs).map (· + 3)
  | .ref _ => none
  | .adr _ => none
  | .emp => some 2
  | .exn _ _ _ _ => none
def D.wts : List D → Option Nat
  | [] => some 0
  | x :: xs => match x.wt with
    | some a => (D.wts xs).map fun b => a + 2 + b
    | none => none
end

mutual
/-- Python's == of data (None, bools, ints, texts, tuples, lists) -/
def eqD : D → D → Bool
  | .non, .non => true
  | .bl a, .bl b => a == b
  | .bl a, .int b => (if a then 1 else 0) == b
  | .int a, .bl b => a == (if b then 1 else 0)
  | .int a, .int b => a == b
  | .str a, .str b => a == b
  | .tup a, .tup b => eqDs a b
  | .lst a, .lst b => eqDs a b
  | _, _ => false
def eqDs : List D → List D → Bool
  | [], [] => true
  | x :: xs, y :: ys => eqD x y && eqDs xs ys
  | _, _ => false
end

/-! ## binding -/
def bE (m : Option RE) (k : D → Sto → Option RE) : Option RE := match m with
  | some (.ok d S) => k d S
  | some (.ex x S) => some (.ex x S)
  | none => none
def bET (m : Option RE) (k : D → Sto → Option RT) : Option RT := match m with
  | some (.ok d S) => k d S
  | some (.ex x S) => some (.ex x S)
  | none => none
def bEA (m : Option RE) (k : D → Sto → Option RA) : Option RA := match m with
  | some (.ok d S) => k d S
  | some (.ex x S) => some (.ex x S)
  | none => none
def bA (m : Option RA) (k : List D → Sto → Option RE) : Option RE := match m with
  | some (.ok d S) => k d S
  | some (.ex x S) => some (.ex x S)
  | none => none
def bAA (m : Option RA) (k : List D → Sto → Option RA) : Option RA := match m with
  | some (.ok d S) => k d S
  | some (.ex x S) => some (.ex x S)
  | none => none
def bT (m : Option RT) (k : Bool → Sto → Option RE) : Option RE := match m with
  | some (.ok d S) => k d S
  | some (.ex x S) => some (.ex x S)
  | none => none
def bTT (m : Option RT) (k : Bool → Sto → Option RT) : Option RT := match m with
  | some (.ok d S) => k d S
  | some (.ex x S) => some (.ex x S)
  | none => none
def bES (δ : Env) (m : Option RE) (k : D → Sto → Option RS) : Option RS := match m with
  | some (.ok d S) => k d S
  | some (.ex x S) => some (.ex x δ S)
  | none => none
def bAS (δ : Env) (m : Option RA) (k : List D → Sto → Option RS) : Option RS := match m with
  | some (.ok d S) => k d S
  | some (.ex x S) => some (.ex x δ S)
  | none => none
def bTS (δ : Env) (m : Option RT) (k : Bool → Sto → Option RS) : Option RS := match m with
  | some (.ok d S) => k d S
  | some (.ex x S) => some (.ex x δ S)
  | none => none
def bS (m : Option RS) (k : Env → Sto → Option RS) : Option RS := match m with
  | some (.nx δ S) => k δ S
  | r => r
section
variable {d : D} {ds : List D} {b : Bool} {S : Sto} {x : Exn} {δ δ' : Env}
@[simp] theorem bE_ok {k} : bE (some (.ok d S)) k = k d S := rfl
@[simp] theorem bE_ex {k} : bE (some (.ex x S)) k = some (.ex x S) := rfl
@[simp] theorem bE_none {k} : bE none k = none := rfl
@[simp] theorem bET_ok {k} : bET (some (.ok d S)) k = k d S := rfl
@[simp] theorem bET_ex {k} : bET (some (.ex x S)) k = some (.ex x S) := rfl
@[simp] theorem bET_none {k} : bET none k = none := rfl
@[simp] theorem bEA_ok {k} : bEA (some (.ok d S)) k = k d S := rfl
@[simp] theorem bEA_ex {k} : bEA (some (.ex x S)) k = some (.ex x S) := rfl
@[simp] theorem bEA_none {k} : bEA none k = none := rfl
@[simp] theorem bA_ok {k} : bA (some (.ok ds S)) k = k ds S := rfl
@[simp] theorem bA_ex {k} : bA (some (.ex x S)) k = some (.ex x S) := rfl
@[simp] theorem bA_none {k} : bA none k = none := rfl
@[simp] theorem bAA_ok {k} : bAA (some (.ok ds S)) k = k ds S := rfl
@[simp] theorem bAA_ex {k} : bAA (some (.ex x S)) k = some (.ex x S) := rfl
@[simp] theorem bAA_none {k} : bAA none k = none := rfl
@[simp] theorem bT_ok {k} : bT (some (.ok b S)) k = k b S := rfl
@[simp] theorem bT_ex {k} : bT (some (.ex x S)) k = some (.ex x S) := rfl
@[simp] theorem bT_none {k} : bT none k = none := rfl
@[simp] theorem bTT_ok {k} : bTT (some (.ok b S)) k = k b S := rfl
@[simp] theorem bTT_ex {k} : bTT (some (.ex x S)) k = some (.ex x S) := rfl
@[simp] theorem bTT_none {k} : bTT none k = none := rfl
@[simp] theorem bES_ok {k} : bES δ (some (.ok d S)) k = k d S := rfl
@[simp] theorem bES_ex {k} : bES δ (some (.ex x S)) k = some (.ex x δ S) := rfl
@[simp] theorem bES_none {k} : bES δ none k = none := rfl
@[simp] theorem bAS_ok {k} : bAS δ (some (.ok ds S)) k = k ds S := rfl
@[simp] theorem bAS_ex {k} : bAS δ (some (.ex x S)) k = some (.ex x δ S) := rfl
@[simp] theorem bAS_none {k} : bAS δ none k = none := rfl
@[simp] theorem bTS_ok {k} : bTS δ (some (.ok b S)) k = k b S := rfl
@[simp] theorem bTS_ex {k} : bTS δ (some (.ex x S)) k = some (.ex x δ S) := rfl
@[simp] theorem bTS_none {k} : bTS δ none k = none := rfl
@[simp] theorem bS_nx {k} : bS (some (.nx δ S)) k = k δ S := rfl
@[simp] theorem bS_rt {k} : bS (some (.rt d S)) k = some (.rt d S) := rfl
@[simp] theorem bS_bk {k} : bS (some (.bk δ S)) k = some (.bk δ S) := rfl
@[simp] theorem bS_ct {k} : bS (some (.ct δ S)) k = some (.ct δ S) := rfl
@[simp] theorem bS_ex {k} : bS (some (.ex x δ S)) k = some (.ex x δ S) := rfl
@[simp] theorem bS_none {k} : bS none k = none := rfl
end

/-! ## expressions -/
def mVar (i : Nat) : ME := fun δ S => match δ[i]? with
  | some (some d) => some (.ok d S)
  | _ => none
def mC (d : D) : ME := fun _ S => some (.ok d S)
/-- a two-place operation on values -/
def mBin (f : D → D → Option D) (a b : ME) : ME := fun δ S => bE (a δ S) fun x S1 => bE (b δ S1) fun y S2 => (f x y).map fun z => .ok z S2
/-- .. that may read the store -/
def mBinS (f : Sto → D → D → Option D) (a b : ME) : ME := fun δ S => bE (a δ S) fun x S1 => bE (b δ S1) fun y S2 => (f S2 x y).map fun z => .ok z S2
def mUn (f : D → Option D) (a : ME) : ME := fun δ S => bE (a δ S) fun x S1 => (f x).map fun z => .ok z S1
def mUnS (f : Sto → D → Option D) (a : ME) : ME := fun δ S => bE (a δ S) fun x S1 => (f S1 x).map fun z => .ok z S1

def mNilA : MA := fun _ S => some (.ok [] S)
def mConsA (a : ME) (r : MA) : MA := fun δ S => bEA (a δ S) fun x S1 => bAA (r δ S1) fun xs S2 => some (.ok (x :: xs) S2)
/-- positional values, then those given by name -/
def mCatA (a b : MA) : MA := fun δ S => bAA (a δ S) fun xs S1 => bAA (b δ S1) fun ys S2 => some (.ok (xs ++ ys) S2)
/-- a built-in called with values -/
def mBI (f : Sto → List D → Option D) (as : MA) : ME := fun δ S => bA (as δ S) fun xs S1 => (f S1 xs).map fun z => .ok z S1
/-- a def called -/
def mCall (f : MF) (as : MA) : ME := fun δ S => bA (as δ S) fun xs S1 => f xs S1
def mTup (as : MA) : ME := fun δ S => bA (as δ S) fun xs S1 => if xs.length ≤ LINE then some (.ok (.tup xs) S1) else none
/-- a list that is not changed -/
def mLst (as : MA) : ME := fun δ S => bA (as δ S) fun xs S1 => if xs.length ≤ LINE then some (.ok (.lst xs) S1) else none
/-- a list that will be changed -/
def mNewLst (as : MA) : ME := fun δ S => bA (as δ S) fun xs S1 => if xs.length ≤ LINE ∧ D.pures xs = true then some (.ok (.ref S1.length) (S1 ++ [.lst xs])) else none

/-- an expression with a bool for its value, as a test -/
def mB (e : ME) : MT := fun δ S => bET (e δ S) fun x S1 => match x with
  | .bl b => some (.ok b S1)
  | _ => none
def mAndT (a b : MT) : MT := fun δ S => bTT (a δ S) fun c S1 => if c then b δ S1 else some (.ok false S1)
def mOrT (a b : MT) : MT := fun δ S => bTT (a δ S) fun c S1 => if c then some (.ok true S1) else b δ S1
def mNotT (a : MT) : MT := fun δ S => bTT (a δ S) fun c S1 => some (.ok (!c) S1)
/-- and, or, not as values (bools) -/
def mAndV (a b : ME) : ME := fun δ S => bE (a δ S) fun x S1 => match x with
  | .bl true => b δ S1
  | .bl false => some (.ok (.bl false) S1)
  | _ => none
def mOrV (a b : ME) : ME := fun δ S => bE (a δ S) fun x S1 => match x with
  | .bl true => some (.ok (.bl true) S1)
  | .bl false => b δ S1
  | _ => none
def mNotV (a : ME) : ME := fun δ S => bE (a δ S) fun x S1 => match x with
  | .bl c => some (.ok (.bl (!c)) S1)
  | _ => none
def mIf (t : MT) (a b : ME) : ME := fun δ S => bT (t δ S) fun c S1 => if c then a δ S1 else b δ S1
/-- a op b op' c, b asked once -/
def mChain (f g : D → D → Option D) (a b c : ME) : ME := fun δ S => bE (a δ S) fun x S1 => bE (b δ S1) fun y S2 => match f x y with
  | some (.bl true) => bE (c δ S2) fun z S3 => (g y z).map fun v => .ok v S3
  | some (.bl false) => some (.ok (.bl false) S2)
  | _ => none

/-! ## operators on values -/
def opAdd : D → D → Option D
  | .int i, .int j => some (.int (i + j))
  | .str s, .str t => if s.length + t.length ≤ LINE then some (.str (s ++ t)) else none
  | .tup s, .tup t => if s.length + t.length ≤ LINE then some (.tup (s ++ t)) else none
  | .lst s, .lst t => if s.length + t.length ≤ LINE then some (.lst (s ++ t)) else none
  | _, _ => none
def opSub : D → D → Option D
  | .int i, .int j => some (.int (i - j))
  | _, _ => none
/-- one factor below 2 ^ 64; a tuple, a list so many times -/
def opMul : D → D → Option D
  | .int i, .int j => if i.natAbs < 18446744073709551616 ∨ j.natAbs < 18446744073709551616 then some (.int (i * j)) else none
  | .tup s, .int k => if k.natAbs ≤ 1000000000 ∧ s.length * k.toNat ≤ LINE then some (.tup (List.replicate k.toNat s).flatten) else none
  | .lst s, .int k => if k.natAbs ≤ 1000000000 ∧ s.length * k.toNat ≤ LINE then some (.lst (List.replicate k.toNat s).flatten) else none
  | _, _ => none
/-- // and % by a positive divisor (the quotient's divisor below 2 ^ 30) -/
def opDiv : D → D → Option D
  | .int i, .int j => if 0 < j ∧ j.natAbs < 1073741824 then some (.int (i / j)) else none
  | _, _ => none
def opMod : D → D → Option D
  | .int i, .int j => if 0 < j then some (.int (i % j)) else none
  | _, _ => none
def opPow : D → D → Option D
  | .int i, .int j => if 0 ≤ j ∧ j.natAbs ≤ 1000000 ∧ i.natAbs < 18446744073709551616 then some (.int (i ^ j.toNat)) else none
  | _, _ => none
def opNeg : D → Option D
  | .int i => some (.int (-i))
  | _ => none
/-- == and != of data without mutable objects -/
def opEqO (x y : D) : Option D := if x.ok && y.ok then some (.bl (eqD x y)) else none
def opNeO (x y : D) : Option D := if x.ok && y.ok then some (.bl (!eqD x y)) else none
def opEq : D → D → Option D
  | .str a, .str b => some (.bl (a == b))
  | x, y => opEqO x y
/-- ==, also of {} and a text -/
def opEqE : D → D → Option D
  | .emp, .str _ => some (.bl false)
  | .str _, .emp => some (.bl false)
  | x, y => opEq x y
def opNe : D → D → Option D
  | .str a, .str b => some (.bl (!(a == b)))
  | x, y => opNeO x y
mutual
/-- the two can be told apart by < -/
def alikeD : D → D → Bool
  | .non, .non => true | .bl _, .bl _ => true | .int _, .int _ => true | .str _, .str _ => true
  | .lst xs, .lst ys => alikeDs xs ys
  | .tup xs, .tup ys => alikeDs xs ys
  | _, _ => false
def alikeDs : List D → List D → Bool
  | x :: xs, y :: ys => alikeD x y && alikeDs xs ys
  | [], _ => true
  | _ :: _, [] => true
end
mutual
/-- Python's < of data of one kind -/
def ltD : D → D → Bool
  | .bl a, .bl b => !a && b
  | .int a, .int b => decide (a < b)
  | .str a, .str b => decide (a < b)
  | .lst xs, .lst ys => ltDs xs ys
  | .tup xs, .tup ys => ltDs xs ys
  | _, _ => false
def ltDs : List D → List D → Bool
  | [], _ :: _ => true
  | x :: xs, y :: ys => if eqD x y then ltDs xs ys else ltD x y
  | _, [] => false
end
def nonD : D → Bool
  | .non => true
  | _ => false
def opLtD (x y : D) : Option D := if x.ok && y.ok && alikeD x y && !nonD x then some (.bl (ltD x y)) else none
def opLtI : D → D → Option D
  | .int i, .int j => some (.bl (decide (i < j)))
  | _, _ => none
def opLt : D → D → Option D
  | .int i, .int j => some (.bl (decide (i < j)))
  | x, y => opLtD x y
def opLe : D → D → Option D
  | .int i, .int j => some (.bl (decide (i ≤ j)))
  | _, _ => none
def opGt : D → D → Option D
  | .int i, .int j => some (.bl (decide (j < i)))
  | _, _ => none
def opGe : D → D → Option D
  | .int i, .int j => some (.bl (decide (j ≤ i)))
  | _, _ => none
/-- is True, is not True, is None .. -/
def opIs : D → D → Option D
  | .bl a, .bl b => some (.bl (decide (a = b)))
  | _, _ => none
def opIsNot : D → D → Option D
  | .bl a, .bl b => some (.bl (!decide (a = b)))
  | _, _ => none

/-- is None, is not None -/
def opIsN (x : D) : D → Option D
  | .non => some (.bl (nonD x))
  | _ => none
def opIsNotN (x : D) : D → Option D
  | .non => some (.bl (!nonD x))
  | _ => none
/-- x in y: y a tuple, a list that stays, a text (x one sign) -/
def opIn (x : D) : D → Option D
  | .tup xs => if x.ok && (D.tup xs).ok then some (.bl (xs.any fun z => eqD z x)) else none
  | .lst xs => if x.ok && (D.lst xs).ok then some (.bl (xs.any fun z => eqD z x)) else none
  | .str l => match x with
    | .str [c] => some (.bl (decide (c ∈ l)))
    | _ => none
  | _ => none
def opNotIn (x y : D) : Option D := (opIn x y).bind fun d => match d with
  | .bl b => some (.bl (!b))
  | _ => none
/-- the items of a sequence that is read -/
def seqOf (S : Sto) : D → Option (List D)
  | .tup xs => some xs
  | .lst xs => some xs
  | .ref n => match S[n]? with
    | some (.lst xs) => some xs
    | _ => none
  | _ => none
/-- a place, from the end if below 0 -/
def ixN (n : Nat) (i : Int) : Option Nat := if 0 ≤ i then (if i < n then some i.toNat else none) else if -(n : Int) ≤ i then some (i + n).toNat else none
def opIx (S : Sto) (x y : D) : Option D := match y with
  | .int i => match x with
    | .str s => if s.length ≤ LINE then (ixN s.length i).bind fun j => (s[j]?).map fun c => .str [c] else none
    | x => (seqOf S x).bind fun xs => (ixN xs.length i).bind fun j => xs[j]?
  | _ => none
def sIx (n d : Nat) : Option Int → Nat
  | none => d
  | some v => if v < 0 then (v + (n : Int)).toNat else min v.toNat n
def cut {α : Type} (xs : List α) (lo hi : Option Int) : List α := (xs.drop (sIx xs.length 0 lo)).take (sIx xs.length xs.length hi - sIx xs.length 0 lo)
/-- a slice's bound: left out, or an int -/
abbrev MP := Env → Sto → Option (Option RE)
def mSlice (a : ME) (lo hi : Option ME) : ME := fun δ S => bE (a δ S) fun x S1 =>
  let part (p : Option ME) (S : Sto) (k : Option Int → Sto → Option RE) : Option RE := match p with
    | none => k none S
    | some e => bE (e δ S) fun v S' => match v with
      | .int i => k (some i) S'
      | _ => none
  part lo S1 fun l S2 => part hi S2 fun h S3 => match x with
    | .tup xs => some (.ok (.tup (cut xs l h)) S3)
    | .lst xs => some (.ok (.lst (cut xs l h)) S3)
    | .str xs => if xs.length ≤ LINE then some (.ok (.str (cut xs l h)) S3) else none
    | _ => none
/-- x[::-1] -/
def opRev : D → Option D
  | .tup xs => some (.tup xs.reverse)
  | .lst xs => some (.lst xs.reverse)
  | _ => none

/-- == and != where a mutable list may stand on a side -/
def rsv (S : Sto) : D → D
  | .ref n => match S[n]? with
    | some (.lst xs) => .lst xs
    | _ => .ref n
  | d => d
def opEqS (S : Sto) (x y : D) : Option D := opEqO (rsv S x) (rsv S y)
def opNeS (S : Sto) (x y : D) : Option D := opNeO (rsv S x) (rsv S y)

/-! ## built-ins -/
def biLen (S : Sto) : List D → Option D
  | [.str s] => if s.length ≤ LINE then some (.int s.length) else none
  | [x] => (seqOf S x).map fun xs => .int xs.length
  | _ => none
def biTuple (S : Sto) : List D → Option D
  | [.tup xs] => some (.tup xs)
  | [.lst xs] => some (.tup xs)
  | [.ref n] => match S[n]? with
    | some (.lst xs) => some (.tup xs)
    | _ => none
  | _ => none
def biList (S : Sto) : List D → Option D
  | [x] => (seqOf S x).map .lst
  | _ => none
def biAbs (_ : Sto) : List D → Option D
  | [.int i] => some (.int (if i < 0 then -i else i))
  | _ => none
def biMin (_ : Sto) : List D → Option D
  | [.int i, .int j] => some (.int (if j < i then j else i))
  | _ => none
def biMax (_ : Sto) : List D → Option D
  | [.int i, .int j] => some (.int (if j > i then j else i))
  | _ => none
def biInt (_ : Sto) : List D → Option D
  | [.int i] => some (.int i)
  | [.bl b] => some (.int (if b then 1 else 0))
  | _ => none
mutual
/-- no lists; empty dicts may be -/
def D.okE : D → Nat → Bool
  | .non, _ => true | .bl _, _ => true | .int _, _ => true
  | .str s, _ => s.all fun c => decide (c < 1114112)
  | .tup xs, n + 1 => D.okEs xs n
  | .emp, _ => true
  | _, _ => false
def D.okEs : List D → Nat → Bool
  | [], _ => true
  | x :: xs, n => x.okE n && D.okEs xs n
end
/-- repr (ω: what it is, kept open) -/
def biRepr (ω : D → List Nat) (_ : Sto) : List D → Option D
  | [x] => if x.ok then match x.wt with
    | some n => if n ≤ LINE then some (.str (ω x)) else none
    | none => none
    else if x.okE 60 then match x.wt with
    | some n => if n ≤ LINE then some (.str (ω x)) else none
    | none => none
    else none
  | _ => none
/-- repr, also of a list of the store -/
def biReprS (ω : D → List Nat) (S : Sto) : List D → Option D
  | [x] => biRepr ω S [rsv S x]
  | _ => none
/-- isinstance(x, int), bool, tuple, str -/
def isInt : D → Option Bool
  | .int _ => some true | .bl _ => some true | .ref _ => none | .adr _ => none | .emp => some false | .exn _ _ _ _ => none | .non => some false | .str _ => some false | .tup _ => some false | .lst _ => some false
def isBool : D → Option Bool
  | .int _ => some false | .bl _ => some true | .ref _ => none | .adr _ => none | .emp => some false | .exn _ _ _ _ => none | .non => some false | .str _ => some false | .tup _ => some false | .lst _ => some false
def isTuple : D → Option Bool
  | .int _ => some false | .bl _ => some false | .ref _ => none | .adr _ => none | .emp => some false | .exn _ _ _ _ => none | .non => some false | .str _ => some false | .tup _ => some true | .lst _ => some false
def isStr : D → Option Bool
  | .int _ => some false | .bl _ => some false | .ref _ => none | .adr _ => none | .emp => some false | .exn _ _ _ _ => none | .non => some false | .str _ => some true | .tup _ => some false | .lst _ => some false

def opIsI (f : D → Option Bool) (d : D) : Option D := (f d).map .bl

/-! ## statements -/
def mPass : MS := fun δ S => some (.nx δ S)
def mSeq (a b : MS) : MS := fun δ S => bS (a δ S) b
/-- code that is never come to -/
def mNever : MS := fun _ _ => none
def mSet (i : Nat) (e : ME) : MS := fun δ S => bES δ (e δ S) fun d S1 => some (.nx (δ.set i (some d)) S1)
def mDrop (e : ME) : MS := fun δ S => bES δ (e δ S) fun _ S1 => some (.nx δ S1)
def mRet (e : ME) : MS := fun δ S => bES δ (e δ S) fun d S1 => some (.rt d S1)
def mRetN : MS := fun _ S => some (.rt .non S)
def mIfS (t : MT) (a b : MS) : MS := fun δ S => bTS δ (t δ S) fun c S1 => if c then a δ S1 else b δ S1
def mBreak : MS := fun δ S => some (.bk δ S)
def mCont : MS := fun δ S => some (.ct δ S)
/-- a, b = x, y (stored together) -/
def mPar (i j : Nat) (a b : ME) : MS := fun δ S => bES δ (a δ S) fun x S1 => bES δ (b δ S1) fun y S2 => some (.nx ((δ.set i (some x)).set j (some y)) S2)
def mPar3 (i j l : Nat) (a b c : ME) : MS := fun δ S => bES δ (a δ S) fun x S1 => bES δ (b δ S1) fun y S2 => bES δ (c δ S2) fun z S3 => some (.nx (((δ.set i (some x)).set j (some y)).set l (some z)) S3)

/-- a target: how a value is stored -/
inductive Tg where
  | name (i : Nat)
  | tup (ts : List Tg)
mutual
def Tg.put : Tg → D → Env → Option Env
  | .name i, d, δ => some (δ.set i (some d))
  | .tup ts, .tup ds, δ => Tg.puts ts ds δ
  | .tup _, _, _ => none
def Tg.puts : List Tg → List D → Env → Option Env
  | [], [], δ => some δ
  | t :: ts, d :: ds, δ => match t.put d δ with
    | some δ' => Tg.puts ts ds δ'
    | none => none
  | _, _, _ => none
end
/-- target = e -/
def mAsg (t : Tg) (e : ME) : MS := fun δ S => bES δ (e δ S) fun d S1 => (t.put d δ).map fun δ' => .nx δ' S1

/-- the turns of a for -/
def forL (t : Tg) (body : MS) : List D → MS
  | [], δ, S => some (.nx δ S)
  | d :: ds, δ, S => match t.put d δ with
    | none => none
    | some δ1 => match body δ1 S with
      | some (.nx δ2 S2) => forL t body ds δ2 S2
      | some (.ct δ2 S2) => forL t body ds δ2 S2
      | some (.bk δ2 S2) => some (.nx δ2 S2)
      | r => r
/-- what a for walks: its items (or an exception) -/
abbrev MI := Env → Sto → Option RA
def mFor (t : Tg) (it : MI) (body : MS) : MS := fun δ S => bAS δ (it δ S) fun ds S1 => forL t body ds δ S1
/-- a sequence that is not changed -/
def mItSeq (e : ME) : MI := fun δ S => bEA (e δ S) fun x S1 => match x with
  | .tup xs => some (.ok xs S1)
  | .lst xs => some (.ok xs S1)
  | _ => none
def rangeD (lo : Int) (n : Nat) : List D := (List.range n).map fun i => .int (lo + (i : Nat))
def mItRange1 (e : ME) : MI := fun δ S => bEA (e δ S) fun x S1 => match x with
  | .int n => if n.natAbs < 4611686018427387904 then some (.ok (rangeD 0 n.toNat) S1) else none
  | _ => none
def mItRange2 (a b : ME) : MI := fun δ S => bEA (a δ S) fun x S1 => bEA (b δ S1) fun y S2 => match x, y with
  | .int lo, .int hi => if lo.natAbs < 4611686018427387904 ∧ hi.natAbs < 4611686018427387904 then some (.ok (rangeD lo (hi - lo).toNat) S2) else none
  | _, _ => none
def enumD (k : Nat) : List D → List D
  | [] => []
  | x :: xs => .tup [.int (k : Nat), x] :: enumD (k + 1) xs
def mItEnum (e : ME) : MI := fun δ S => bEA (e δ S) fun x S1 => match x with
  | .tup xs => some (.ok (enumD 0 xs) S1)
  | .lst xs => some (.ok (enumD 0 xs) S1)
  | _ => none

/-- while: the loop's own equation is mWhile_eq -/
def mWhile (c : MT) (body : MS) (δ : Env) (S : Sto) : Option RS :=
  match c δ S with
  | some (.ok true S1) => match body δ S1 with
    | some (.nx δ2 S2) => mWhile c body δ2 S2
    | some (.ct δ2 S2) => mWhile c body δ2 S2
    | some (.bk δ2 S2) => some (.nx δ2 S2)
    | some (.rt d S2) => some (.rt d S2)
    | some (.ex x δ2 S2) => some (.ex x δ2 S2)
    | none => none
  | some (.ok false S1) => some (.nx δ S1)
  | some (.ex x S1) => some (.ex x δ S1)
  | none => none
partial_fixpoint

/-- a list comprehension's turns (one for): vs are the slots of its own names -/
def wipeD (δ : Env) : List Nat → Env
  | [] => δ
  | v :: vs => (wipeD δ vs).set v none
def compL (t : Tg) (c : MT) (e : ME) (δ : Env) : List D → List D → Sto → Option RA
  | [], acc, S => some (.ok acc S)
  | d :: ds, acc, S => match t.put d δ with
    | none => none
    | some δ1 => match c δ1 S with
      | some (.ok true S1) => match e δ1 S1 with
        | some (.ok x S2) => compL t c e δ ds (acc ++ [x]) S2
        | _ => none
      | some (.ok false S1) => compL t c e δ ds acc S1
      | _ => none
def mTrue : MT := fun _ S => some (.ok true S)
def mCompA (vs : List Nat) (t : Tg) (it : MI) (c : MT) (e : ME) : MA := fun δ S => bAA (it δ S) fun ds S1 =>
  if ds.length ≤ LINE then compL t c e (wipeD δ vs) ds [] S1 else none
def mComp (vs : List Nat) (t : Tg) (it : MI) (c : MT) (e : ME) : ME := fun δ S => bA (mCompA vs t it c e δ S) fun xs S1 => some (.ok (.lst xs) S1)
def mNewComp (vs : List Nat) (t : Tg) (it : MI) (c : MT) (e : ME) : ME := fun δ S => bA (mCompA vs t it c e δ S) fun xs S1 => if D.pures xs then some (.ok (.ref S1.length) (S1 ++ [.lst xs])) else none

/-! ## mutable lists -/
def getL (S : Sto) : D → Option (Nat × List D)
  | .ref n => match S[n]? with
    | some (.lst xs) => some (n, xs)
    | _ => none
  | _ => none
def mAppend (l e : ME) : ME := fun δ S => bE (l δ S) fun x S1 => match getL S1 x with
  | some _ => bE (e δ S1) fun y S2 => match getL S2 x with
    | some (n, xs) => if xs.length < LINE ∧ y.pure = true then some (.ok .non (S2.set n (.lst (xs ++ [y])))) else none
    | none => none
  | none => none
def mPop (l : ME) : ME := fun δ S => bE (l δ S) fun x S1 => match getL S1 x with
  | some (n, xs) => match xs[xs.length - 1]? with
    | some y => some (.ok y (S1.set n (.lst xs.dropLast)))
    | none => none
  | none => none
/-- l[i] = e (e is asked first) -/
def mSetIx (l i e : ME) : MS := fun δ S => bES δ (e δ S) fun v S1 => bES δ (l δ S1) fun x S2 => bES δ (i δ S2) fun k S3 => match getL S3 x, k with
  | some (n, xs), .int j => match ixN xs.length j with
    | some p => if v.pure then some (.nx δ (S3.set n (.lst (xs.set p v)))) else none
    | none => none
  | _, _ => none
/-- a list that will be changed, out of the items of a sequence -/
def mNewList (e : ME) : ME := fun δ S => bE (e δ S) fun x S1 => match seqOf S1 x with
  | some xs => if D.pures xs then some (.ok (.ref S1.length) (S1 ++ [.lst xs])) else none
  | none => none
/-- from here on nobody changes it -/
def mFreeze (e : ME) : ME := fun δ S => bE (e δ S) fun x S1 => match x with
  | .lst xs => some (.ok (.lst xs) S1)
  | x => match getL S1 x with
    | some (n, xs) => some (.ok (.lst xs) (S1.set n .dead))
    | none => none
/-- == [] and != [] of a mutable list -/
def mIsNil (l : ME) : ME := fun δ S => bE (l δ S) fun x S1 => match getL S1 x with
  | some (_, xs) => some (.ok (.bl xs.isEmpty) S1)
  | none => none

/-! ## the state of a law's draws: {'cells': .., 'at': .., 'left': ..} -/
def lawOf (S : Sto) : D → Option (Nat × List Int × Nat × List Int)
  | .ref n => match S[n]? with
    | some (.law c k l) => some (n, c, k, l)
    | _ => none
  | _ => none
def mLawAt (m : ME) : ME := fun δ S => bE (m δ S) fun x S1 => match lawOf S1 x with
  | some (_, _, k, _) => some (.ok (.int k) S1)
  | none => none
def mLawCells (m : ME) : ME := fun δ S => bE (m δ S) fun x S1 => match lawOf S1 x with
  | some (_, c, _, _) => some (.ok (.lst (c.map .int)) S1)
  | none => none
/-- m['left'] != [] -/
def mLawNe (m : ME) : ME := fun δ S => bE (m δ S) fun x S1 => match lawOf S1 x with
  | some (_, _, _, l) => some (.ok (.bl (!l.isEmpty)) S1)
  | none => none
/-- m['left'][0] -/
def mLawL0 (m : ME) : ME := fun δ S => bE (m δ S) fun x S1 => match lawOf S1 x with
  | some (_, _, _, h :: _) => some (.ok (.int h) S1)
  | _ => none
/-- m['left'][0] = e -/
def mLawSet0 (m e : ME) : MS := fun δ S => bES δ (e δ S) fun v S1 => bES δ (m δ S1) fun x S2 => match v, lawOf S2 x with
  | .int i, some (n, c, k, _ :: t) => some (.nx δ (S2.set n (.law c k (i :: t))))
  | _, _ => none
/-- m['left'] = m['left'][1:] -/
def mLawTail (i : Nat) : MS := fun δ S => bES δ (mVar i δ S) fun x S1 => match lawOf S1 x with
  | some (n, c, k, _ :: t) => some (.nx δ (S1.set n (.law c k t)))
  | _ => none
/-- m['at'] = e -/
def mLawSetAt (m e : ME) : MS := fun δ S => bES δ (e δ S) fun v S1 => bES δ (m δ S1) fun x S2 => match v, lawOf S2 x with
  | .int i, some (n, c, _, l) => if 0 ≤ i then some (.nx δ (S2.set n (.law c i.toNat l))) else none
  | _, _ => none
def intsOf : List D → Option (List Int)
  | [] => some []
  | .int i :: r => (intsOf r).map fun l => i :: l
  | _ => none
/-- {'cells': c, 'at': 0, 'left': l}: c a list that stays, l a new list -/
def mNewLaw (c l : ME) : ME := fun δ S => bE (c δ S) fun x S1 => bE (l δ S1) fun y S2 => match x, y with
  | .lst cs, .ref n => match S2[n]? with
    | some (.lst ls) => if n + 1 = S2.length ∧ S.length ≤ n then match intsOf cs, intsOf ls with
      | some cells, some left => some (.ok (.ref n) (S2.take n ++ [.law cells 0 left]))
      | _, _ => none
      else none
    | _ => none
  | _, _ => none

/-! ## exceptions -/
/-- the classes' fields: BadCourse, BadNumber, TooMany, NoSuch, BadText, BadLot, BadChart, BadHouse, BadMoves, BadRenaming, BadMachine, BadPaper, BadDeed -/
def fnE (n : Nat) : String := ["place", "value", "most", "value", "place", "place", "place", "place", "place", "place", "place", "place", "place"].getD n ""
/-- raise C(e): C by its number -/
def mRaise (c : Nat) (e : ME) : MS := fun δ S => bES δ (e δ S) fun d S1 => some (.ex ⟨c, d⟩ δ S1)
/-- the field of a caught exception -/
def opXF (a d : Nat) (f : String) : D → Option D
  | .exn a' d' g v => if a' = a ∧ d' = d ∧ g = f then some v else none
  | _ => none
/-- an except clause: whether it takes a class, the slot of its name, its suite (by the exception's address and its dict's) -/
structure Hd where
  takes : Nat → Option Bool
  slot : Option Nat
  suite : Nat → Nat → MS
/-- the classes that a clause takes, by their numbers -/
def lkB (l : List (Option Bool)) (n : Nat) : Option Bool := (l[n]?).getD none
/-- the same whatever the addresses are -/
noncomputable def mAll (f : Nat → Nat → Option RS) : Option RS := open Classical in if ∀ a d, f a d = f 0 0 then f 0 0 else none
theorem mAll_const {f : Nat → Nat → Option RS} {r : Option RS} (h : ∀ a d, f a d = r) : mAll f = r := by
  unfold mAll
  rw [if_pos (fun a d => by rw [h, h]), h]
theorem mAll_some {f : Nat → Nat → Option RS} {r : RS} (h : mAll f = some r) (a d : Nat) : f a d = some r := by
  unfold mAll at h
  split at h
  · rename_i q; rw [q, h]
  · cases h
def clean (i : Nat) : RS → RS
  | .nx δ S => .nx (δ.set i none) S
  | .bk δ S => .bk (δ.set i none) S
  | .ct δ S => .ct (δ.set i none) S
  | r => r
def Hd.run (h : Hd) (fn : Nat → String) (x : Exn) (δ : Env) (S : Sto) (a d : Nat) : Option RS := match h.slot with
  | none => h.suite a d δ S
  | some i => (h.suite a d (δ.set i (some (.exn a d (fn x.cls) x.val))) S).map (clean i)
def quietR : RS → Bool
  | .ex _ _ _ => false
  | _ => true
noncomputable def hdsRun (fn : Nat → String) (x : Exn) (δ : Env) (S : Sto) : List Hd → Option RS
  | [] => some (.ex x δ S)
  | h :: t => match h.takes x.cls with
    | none => none
    | some true => (mAll (h.run fn x δ S)).bind fun r => if quietR r then some r else none
    | some false => hdsRun fn x δ S t
/-- try: .. except ..: .. -/
noncomputable def mTry (fn : Nat → String) (b : MS) (hs : List Hd) : MS := fun δ S => match b δ S with
  | some (.ex x δ1 S1) => hdsRun fn x δ1 S1 hs
  | r => r

/-! ## lambdas handed to a def -/
/-- {} that nobody changes -/
def mEmp : ME := fun _ S => some (.ok .emp S)
/-- the same whatever the address is -/
noncomputable def mAny (f : Nat → Option RE) : Option RE := open Classical in if ∀ a, f a = f 0 then f 0 else none
theorem mAny_const {f : Nat → Option RE} {r : Option RE} (h : ∀ a, f a = r) : mAny f = r := by
  unfold mAny
  rw [if_pos (fun a => by rw [h, h]), h]
theorem mAny_some {f : Nat → Option RE} {r : RE} (h : mAny f = some r) (a : Nat) : f a = some r := by
  unfold mAny at h
  split at h
  · rename_i q; rw [q, h]
  · cases h
/-- call(), the i-th name is what was handed in -/
def mThunk (t : D → Sto → Option RE) (i : Nat) : ME := fun δ S => match δ[i]? with
  | some (some d) => t d S
  | _ => none
/-- f(lambda: e) -/
def thunkOf (me : ME) (δ : Env) (f : Nat) : D → Sto → Option RE := fun d S => match d with
  | .adr g => if g = f then me δ S else none
  | _ => none
theorem thunkOf_self (me : ME) (δ : Env) (f : Nat) (S : Sto) : thunkOf me δ f (.adr f) S = me δ S := by simp [thunkOf]
noncomputable def mLam (F : (D → Sto → Option RE) → MF) (me : ME) : ME := fun δ S => mAny fun f => F (thunkOf me δ f) [.adr f] S
theorem mLam_eq {F : (D → Sto → Option RE) → MF} {me : ME} {δ : Env} {S : Sto} {r : Option RE} (h : ∀ (t : D → Sto → Option RE) (f : Nat), (∀ S, t (.adr f) S = me δ S) → F t [.adr f] S = r) : mLam F me δ S = r := mAny_const fun f => h _ _ fun S => thunkOf_self me δ f S

/-! ## defs -/
/-- np parameters, nl other names; its own lists are forgotten behind it -/
def mFn (np nl : Nat) (body : MS) : MF := fun ds S => if ds.length = np then match body (ds.map some ++ List.replicate nl none) S with
  | some (.rt d S1) => if d.pure then some (.ok d (S1.take S.length)) else none
  | some (.nx _ S1) => some (.ok .non (S1.take S.length))
  | some (.ex x _ S1) => if x.val.pure then some (.ex x (S1.take S.length)) else none
  | _ => none
  else none
/-- .. that hands back a mutable object -/
def mFnR (np nl : Nat) (body : MS) : MF := fun ds S => if ds.length = np then match body (ds.map some ++ List.replicate nl none) S with
  | some (.rt d S1) => some (.ok d S1)
  | some (.nx _ S1) => some (.ok .non S1)
  | some (.ex x _ S1) => some (.ex x S1)
  | _ => none
  else none
end PL

set_option Elab.async false
set_option linter.all false
set_option maxRecDepth 100000
set_option maxHeartbeats 4000000
/-! the mirror of LM: printed by gen.py -/
namespace LM
open PL
noncomputable section
/-- is_number(thing) : thing -/
def M_is_number : MF := mFn 1 0 (mRet (mAndV (mUn (opIsI isInt) (mVar 0)) (mNotV (mUn (opIsI isBool) (mVar 0)))))
/-- is_among(thing, least, most) : thing least most -/
def M_is_among : MF := mFn 3 0 (mRet (mAndV (mCall M_is_number (mConsA (mVar 0) mNilA)) (mChain opLe opLe (mVar 1) (mVar 0) (mVar 2))))
/-- is_tuple_of(thing, least, most) : thing least most -/
def M_is_tuple_of : MF := mFn 3 0 (mRet (mAndV (mUn (opIsI isTuple) (mVar 0)) (mChain opLe opLe (mVar 1) (mBI biLen (mConsA (mVar 0) mNilA)) (mVar 2))))
/-- need_letters(letters) : letters -/
def M_need_letters : MF := mFn 1 0 (mSeq (mIfS (mNotT (mB (mCall M_is_among (mConsA (mVar 0) (mConsA (mC (.int 1)) (mConsA (mC (.int 8)) mNilA)))))) (mRaise 1 (mVar 0)) mPass) (mRet (mVar 0)))
/-- is_step(letters, thing) : letters thing -/
def M_is_step : MF := mFn 2 0 (mRet (mAndV (mCall M_is_number (mConsA (mVar 1) mNilA)) (mAndV (mBin opNe (mVar 1) (mC (.int 0))) (mChain opLe opLe (mUn opNeg (mVar 0)) (mVar 1) (mVar 0)))))
/-- need_course(letters, course) : letters course number step -/
def L_need_course_1 : MS := mFor (.tup [.name 2, .name 3]) (mItEnum (mVar 1)) (mIfS (mNotT (mB (mCall M_is_step (mConsA (mVar 0) (mConsA (mVar 3) mNilA))))) (mRaise 0 (mVar 2)) mPass)
def M_need_course : MF := mFn 2 2 (mSeq (mDrop (mCall M_need_letters (mConsA (mVar 0) mNilA))) (mSeq (mIfS (mNotT (mB (mCall M_is_tuple_of (mConsA (mVar 1) (mConsA (mC (.int 0)) (mConsA (mC (.int 2000)) mNilA)))))) (mRaise 0 (mC .non)) mPass) (mSeq L_need_course_1 (mRet (mVar 1)))))
/-- plain_of(steps) : steps found step -/
def L_plain_of_1 : MS := mFor (.name 2) (mItSeq (mVar 0)) (mIfS (mAndT (mB (mBinS opNeS (mVar 1) (mLst mNilA))) (mB (mBin opEq (mBinS opIx (mVar 1) (mUn opNeg (mC (.int 1)))) (mUn opNeg (mVar 2))))) (mDrop (mPop (mVar 1))) (mDrop (mAppend (mVar 1) (mVar 2))))
def M_plain_of : MF := mFn 1 2 (mSeq (mSet 1 (mNewLst mNilA)) (mSeq L_plain_of_1 (mRet (mBI biTuple (mConsA (mVar 1) mNilA)))))
/-- is_plain(letters, course) : letters course -/
def M_is_plain : MF := mFn 2 0 (mRet (mBin opEq (mBI biLen (mConsA (mCall M_plain_of (mConsA (mCall M_need_course (mConsA (mVar 0) (mConsA (mVar 1) mNilA))) mNilA)) mNilA)) (mBI biLen (mConsA (mVar 1) mNilA))))
/-- plain_course(letters, course) : letters course -/
def M_plain_course : MF := mFn 2 0 (mRet (mCall M_plain_of (mConsA (mCall M_need_course (mConsA (mVar 0) (mConsA (mVar 1) mNilA))) mNilA)))
/-- _law_begun(script) : script cell -/
def M__law_begun : MF := mFnR 1 1 (mRet (mNewLaw (mBI biList (mConsA (mVar 0) mNilA)) (mNewComp [1] (.name 1) (mItSeq (mVar 0)) (mB (mBin opGe (mBI biInt (mConsA (mVar 1) mNilA)) (mBin opPow (mC (.int 10)) (mC (.int 18))))) (mBI biInt (mConsA (mVar 1) mNilA)))))
/-- _law_next(m, many) : m many at cell blend rest -/
def M__law_next : MF := mFn 2 4 (mSeq (mIfS (mB (mLawNe (mVar 0))) (mSeq (mSet 5 (mLawL0 (mVar 0))) (mSeq (mLawSet0 (mVar 0) (mBin opDiv (mVar 5) (mVar 1))) (mSeq (mIfS (mB (mBin opEq (mLawL0 (mVar 0)) (mC (.int 0)))) (mLawTail 0) mPass) (mRet (mBin opMod (mVar 5) (mVar 1)))))) mPass) (mSeq (mSet 2 (mLawAt (mVar 0))) (mSeq (mLawSetAt (mVar 0) (mBin opAdd (mVar 2) (mC (.int 1)))) (mSeq (mSet 3 (mIf (mB (mBin opNe (mLawCells (mVar 0)) (mLst mNilA))) (mBinS opIx (mLawCells (mVar 0)) (mBin opMod (mVar 2) (mBI biLen (mConsA (mLawCells (mVar 0)) mNilA)))) (mC (.int 0)))) (mSeq (mSet 4 (mBin opMul (mBin opMod (mBI biInt (mConsA (mVar 3) mNilA)) (mC (.int 2147483629))) (mBin opAdd (mBin opMul (mC (.int 2)) (mVar 2)) (mC (.int 3))))) (mSeq (mSet 4 (mBin opMod (mBin opAdd (mBin opAdd (mBin opAdd (mVar 4) (mBin opMul (mBin opMul (mC (.int 7919)) (mVar 2)) (mVar 2))) (mBin opMul (mC (.int 104729)) (mVar 2))) (mC (.int 31))) (mC (.int 2147483647)))) (mRet (mBin opMod (mBin opDiv (mBin opMod (mBin opMul (mBin opMod (mBin opMul (mVar 4) (mVar 4)) (mC (.int 2147483629))) (mC (.int 48271))) (mC (.int 2147483647))) (mC (.int 13))) (mVar 1)))))))))
/-- _law_of(m, some) : m some -/
def M__law_of : MF := mFn 2 0 (mRet (mBinS opIx (mVar 1) (mCall M__law_next (mConsA (mVar 0) (mConsA (mBI biLen (mConsA (mVar 1) mNilA)) mNilA)))))
/-- _law_steps(m, letters, most) : m letters most found turn step -/
def L__law_steps_1 : MS := mFor (.name 4) (mItRange1 (mCall M__law_next (mConsA (mVar 0) (mConsA (mBin opAdd (mVar 2) (mC (.int 1))) mNilA)))) (mSeq (mSet 5 (mBin opMul (mBin opAdd (mC (.int 1)) (mCall M__law_next (mConsA (mVar 0) (mConsA (mVar 1) mNilA)))) (mCall M__law_of (mConsA (mVar 0) (mConsA (mLst (mConsA (mC (.int 1)) (mConsA (mUn opNeg (mC (.int 1))) mNilA))) mNilA))))) (mSeq (mIfS (mAndT (mB (mBinS opNeS (mVar 3) (mLst mNilA))) (mB (mBin opEq (mCall M__law_next (mConsA (mVar 0) (mConsA (mC (.int 4)) mNilA))) (mC (.int 0))))) (mSet 5 (mUn opNeg (mBinS opIx (mVar 3) (mUn opNeg (mC (.int 1)))))) mPass) (mDrop (mAppend (mVar 3) (mVar 5)))))
def M__law_steps : MF := mFn 3 3 (mSeq (mSet 3 (mNewLst mNilA)) (mSeq L__law_steps_1 (mRet (mBI biTuple (mConsA (mVar 3) mNilA)))))
/-- _law_plain(steps) : steps left at -/
def L__law_plain_1 : MS := mWhile (mB (mBin opGe (mVar 2) (mC (.int 0)))) (mSeq (mIfS (mAndT (mB (mBin opLt (mBin opAdd (mVar 2) (mC (.int 1))) (mBI biLen (mConsA (mVar 1) mNilA)))) (mB (mBin opEq (mBinS opIx (mVar 1) (mVar 2)) (mUn opNeg (mBinS opIx (mVar 1) (mBin opAdd (mVar 2) (mC (.int 1)))))))) (mSet 1 (mBin opAdd (mSlice (mVar 1) none (some (mVar 2))) (mSlice (mVar 1) (some (mBin opAdd (mVar 2) (mC (.int 2)))) none))) mPass) (mSet 2 (mBin opSub (mVar 2) (mC (.int 1)))))
def M__law_plain : MF := mFn 1 2 (mSeq (mPar 1 2 (mBI biList (mConsA (mVar 0) mNilA)) (mBin opSub (mBI biLen (mConsA (mVar 0) mNilA)) (mC (.int 2)))) (mSeq L__law_plain_1 (mRet (mBI biTuple (mConsA (mVar 1) mNilA)))))
/-- back_of(steps) : steps step -/
def M_back_of : MF := mFn 1 1 (mRet (mBI biTuple (mConsA (mComp [1] (.name 1) (mItSeq (mUn opRev (mVar 0))) mTrue (mUn opNeg (mVar 1))) mNilA)))
/-- behind_of(one, other) : one other shared -/
def L_behind_of_1 : MS := mWhile (mAndT (mB (mBin opLt (mVar 2) (mBI biMin (mConsA (mBI biLen (mConsA (mVar 0) mNilA)) (mConsA (mBI biLen (mConsA (mVar 1) mNilA)) mNilA))))) (mB (mBin opEq (mBinS opIx (mVar 0) (mBin opSub (mBin opSub (mBI biLen (mConsA (mVar 0) mNilA)) (mC (.int 1))) (mVar 2))) (mUn opNeg (mBinS opIx (mVar 1) (mVar 2)))))) (mSet 2 (mBin opAdd (mVar 2) (mC (.int 1))))
def M_behind_of : MF := mFn 2 1 (mSeq (mSet 2 (mC (.int 0))) (mSeq L_behind_of_1 (mRet (mBin opAdd (mSlice (mVar 0) none (some (mBin opSub (mBI biLen (mConsA (mVar 0) mNilA)) (mVar 2)))) (mSlice (mVar 1) (some (mVar 2)) none)))))
/-- key_of(steps) : steps step -/
def M_key_of : MF := mFn 1 1 (mRet (mTup (mConsA (mBI biLen (mConsA (mVar 0) mNilA)) (mConsA (mBI biTuple (mConsA (mComp [1] (.name 1) (mItSeq (mVar 0)) mTrue (mTup (mConsA (mBI biAbs (mConsA (mVar 1) mNilA)) (mConsA (mBin opLt (mVar 1) (mC (.int 0))) mNilA)))) mNilA)) mNilA))))
/-- told_course(course) : course -/
def M_told_course : MF := mFn 1 0 (mSeq (mIfS (mB (mBin opGt (mBI biLen (mConsA (mVar 0) mNilA)) (mC (.int 2000)))) (mRaise 2 (mC (.int 2000))) mPass) (mRet (mVar 0)))
/-- are_alike(letters, one, other) : letters one other -/
def M_are_alike : MF := mFn 3 0 (mSeq (mDrop (mCall M_need_course (mConsA (mVar 0) (mConsA (mVar 1) mNilA)))) (mRet (mBin opEq (mCall M_plain_of (mConsA (mVar 1) mNilA)) (mCall M_plain_of (mConsA (mCall M_need_course (mConsA (mVar 0) (mConsA (mVar 2) mNilA))) mNilA)))))
/-- behind(letters, one, other) : letters one other -/
def M_behind : MF := mFn 3 0 (mSeq (mDrop (mCall M_need_course (mConsA (mVar 0) (mConsA (mVar 1) mNilA)))) (mSeq (mDrop (mCall M_need_course (mConsA (mVar 0) (mConsA (mVar 2) mNilA)))) (mRet (mCall M_told_course (mConsA (mCall M_behind_of (mConsA (mCall M_plain_of (mConsA (mVar 1) mNilA)) (mConsA (mCall M_plain_of (mConsA (mVar 2) mNilA)) mNilA))) mNilA)))))
/-- back(letters, course) : letters course -/
def M_back : MF := mFn 2 0 (mRet (mCall M_back_of (mConsA (mCall M_plain_of (mConsA (mCall M_need_course (mConsA (mVar 0) (mConsA (mVar 1) mNilA))) mNilA)) mNilA)))
/-- parted(steps) : steps shared -/
def L_parted_1 : MS := mWhile (mAndT (mB (mBin opLt (mBin opAdd (mBin opMul (mC (.int 2)) (mVar 1)) (mC (.int 1))) (mBI biLen (mConsA (mVar 0) mNilA)))) (mB (mBin opEq (mBinS opIx (mVar 0) (mVar 1)) (mUn opNeg (mBinS opIx (mVar 0) (mBin opSub (mBin opSub (mBI biLen (mConsA (mVar 0) mNilA)) (mC (.int 1))) (mVar 1))))))) (mSet 1 (mBin opAdd (mVar 1) (mC (.int 1))))
def M_parted : MF := mFn 1 1 (mSeq (mSet 1 (mC (.int 0))) (mSeq L_parted_1 (mRet (mTup (mConsA (mSlice (mVar 0) none (some (mVar 1))) (mConsA (mSlice (mVar 0) (some (mVar 1)) (some (mBin opSub (mBI biLen (mConsA (mVar 0) mNilA)) (mVar 1)))) mNilA))))))
/-- times_of(steps, many) : steps many handle ring -/
def M_times_of : MF := mFn 2 2 (mSeq (mAsg (.tup [.name 2, .name 3]) (mCall M_parted (mConsA (mVar 0) mNilA))) (mSeq (mIfS (mB (mBin opLt (mVar 1) (mC (.int 0)))) (mSet 3 (mCall M_back_of (mConsA (mVar 3) mNilA))) mPass) (mSeq (mIfS (mOrT (mB (mBin opEq (mVar 1) (mC (.int 0)))) (mB (mBin opEq (mVar 3) (mTup mNilA)))) (mRet (mTup mNilA)) mPass) (mSeq (mIfS (mB (mBin opGt (mBin opAdd (mBin opMul (mC (.int 2)) (mBI biLen (mConsA (mVar 2) mNilA))) (mBin opMul (mBI biLen (mConsA (mVar 3) mNilA)) (mBI biAbs (mConsA (mVar 1) mNilA)))) (mC (.int 2000)))) (mRaise 2 (mC (.int 2000))) mPass) (mRet (mBin opAdd (mBin opAdd (mVar 2) (mBin opMul (mVar 3) (mBI biAbs (mConsA (mVar 1) mNilA)))) (mCall M_back_of (mConsA (mVar 2) mNilA))))))))
/-- times(letters, course, many) : letters course many -/
def M_times : MF := mFn 3 0 (mSeq (mDrop (mCall M_need_course (mConsA (mVar 0) (mConsA (mVar 1) mNilA)))) (mSeq (mIfS (mNotT (mB (mCall M_is_among (mConsA (mVar 2) (mConsA (mUn opNeg (mC (.int 1000000000))) (mConsA (mC (.int 1000000000)) mNilA)))))) (mRaise 1 (mVar 2)) mPass) (mRet (mCall M_times_of (mConsA (mCall M_plain_of (mConsA (mVar 1) mNilA)) (mConsA (mVar 2) mNilA))))))
/-- is_before(letters, one, other) : letters one other -/
def M_is_before : MF := mFn 3 0 (mSeq (mDrop (mCall M_need_course (mConsA (mVar 0) (mConsA (mVar 1) mNilA)))) (mRet (mBin opLt (mCall M_key_of (mConsA (mVar 1) mNilA)) (mCall M_key_of (mConsA (mCall M_need_course (mConsA (mVar 0) (mConsA (mVar 2) mNilA))) mNilA)))))
/-- _law_back(steps) : steps found step -/
def L__law_back_1 : MS := mFor (.name 2) (mItSeq (mVar 0)) (mSet 1 (mBin opAdd (mTup (mConsA (mUn opNeg (mVar 2)) mNilA)) (mVar 1)))
def M__law_back : MF := mFn 1 2 (mSeq (mSet 1 (mTup mNilA)) (mSeq L__law_back_1 (mRet (mVar 1))))
/-- _law_key(steps) : steps step -/
def M__law_key : MF := mFn 1 1 (mRet (mTup (mConsA (mBI biLen (mConsA (mVar 0) mNilA)) (mConsA (mComp [1] (.name 1) (mItSeq (mVar 0)) mTrue (mBin opAdd (mBin opMul (mC (.int 2)) (mBI biAbs (mConsA (mVar 1) mNilA))) (mBI biInt (mConsA (mBin opLt (mVar 1) (mC (.int 0))) mNilA)))) mNilA))))
/-- _law_many(steps, many) : steps many turn found one -/
def L__law_many_1 : MS := mFor (.name 2) (mItRange1 (mBI biAbs (mConsA (mVar 1) mNilA))) (mSet 3 (mCall M__law_plain (mConsA (mBin opAdd (mVar 3) (mVar 4)) mNilA)))
def M__law_many : MF := mFn 2 3 (mSeq (mPar 3 4 (mTup mNilA) (mIf (mB (mBin opGt (mVar 1) (mC (.int 0)))) (mVar 0) (mCall M__law_back (mConsA (mVar 0) mNilA)))) (mSeq L__law_many_1 (mRet (mVar 3))))
/-- ring_part(letters, course) : letters course -/
def M_ring_part : MF := mFn 2 0 (mRet (mCall M_parted (mConsA (mCall M_plain_of (mConsA (mCall M_need_course (mConsA (mVar 0) (mConsA (mVar 1) mNilA))) mNilA)) mNilA)))
/-- period_of(ring) : ring borders at period size -/
def L_period_of_1 : MS := mWhile (mAndT (mB (mBin opGt (mVar 4) (mC (.int 0)))) (mB (mBin opNe (mBinS opIx (mVar 0) (mVar 4)) (mBinS opIx (mVar 0) (mVar 2))))) (mSet 4 (mBinS opIx (mVar 1) (mBin opSub (mVar 4) (mC (.int 1)))))
def L_period_of_2 : MS := mFor (.name 2) (mItRange2 (mC (.int 1)) (mBI biLen (mConsA (mVar 0) mNilA))) (mSeq (mSet 4 (mBinS opIx (mVar 1) (mUn opNeg (mC (.int 1))))) (mSeq L_period_of_1 (mDrop (mAppend (mVar 1) (mIf (mB (mBin opEq (mBinS opIx (mVar 0) (mVar 4)) (mBinS opIx (mVar 0) (mVar 2)))) (mBin opAdd (mVar 4) (mC (.int 1))) (mC (.int 0)))))))
def M_period_of : MF := mFn 1 4 (mSeq (mSet 1 (mNewLst (mConsA (mC (.int 0)) mNilA))) (mSeq L_period_of_2 (mSeq (mSet 3 (mBin opSub (mBI biLen (mConsA (mVar 0) mNilA)) (mBinS opIx (mVar 1) (mUn opNeg (mC (.int 1)))))) (mRet (mIf (mB (mBin opEq (mBin opMod (mBI biLen (mConsA (mVar 0) mNilA)) (mVar 3)) (mC (.int 0)))) (mVar 3) (mBI biLen (mConsA (mVar 0) mNilA)))))))
/-- rooted(steps) : steps period handle ring -/
def M_rooted : MF := mFn 1 3 (mSeq (mIfS (mB (mBin opEq (mVar 0) (mTup mNilA))) (mRet (mTup (mConsA (mTup mNilA) (mConsA (mC (.int 0)) mNilA)))) mPass) (mSeq (mAsg (.tup [.name 2, .name 3]) (mCall M_parted (mConsA (mVar 0) mNilA))) (mSeq (mSet 1 (mCall M_period_of (mConsA (mVar 3) mNilA))) (mRet (mTup (mConsA (mBin opAdd (mBin opAdd (mVar 2) (mSlice (mVar 3) none (some (mVar 1)))) (mCall M_back_of (mConsA (mVar 2) mNilA))) (mConsA (mBin opDiv (mBI biLen (mConsA (mVar 3) mNilA)) (mVar 1)) mNilA)))))))
/-- root_of(letters, course) : letters course -/
def M_root_of : MF := mFn 2 0 (mRet (mCall M_rooted (mConsA (mCall M_plain_of (mConsA (mCall M_need_course (mConsA (mVar 0) (mConsA (mVar 1) mNilA))) mNilA)) mNilA)))
/-- power_in(letters, one, other) : letters one other many left right -/
def M_power_in : MF := mFn 3 3 (mSeq (mDrop (mCall M_need_course (mConsA (mVar 0) (mConsA (mVar 1) mNilA)))) (mSeq (mPar 4 5 (mCall M_rooted (mConsA (mCall M_plain_of (mConsA (mVar 1) mNilA)) mNilA)) (mCall M_rooted (mConsA (mCall M_plain_of (mConsA (mCall M_need_course (mConsA (mVar 0) (mConsA (mVar 2) mNilA))) mNilA)) mNilA))) (mSeq (mIfS (mB (mBin opEq (mBinS opIx (mVar 4) (mC (.int 1))) (mC (.int 0)))) (mRet (mC (.int 0))) mPass) (mSeq (mIfS (mOrT (mB (mBin opEq (mBinS opIx (mVar 5) (mC (.int 1))) (mC (.int 0)))) (mOrT (mB (mBin opNe (mBin opMod (mBinS opIx (mVar 4) (mC (.int 1))) (mBinS opIx (mVar 5) (mC (.int 1)))) (mC (.int 0)))) (mB (mBin opNotIn (mBinS opIx (mVar 5) (mC (.int 0))) (mTup (mConsA (mBinS opIx (mVar 4) (mC (.int 0))) (mConsA (mCall M_back_of (mConsA (mBinS opIx (mVar 4) (mC (.int 0))) mNilA)) mNilA))))))) (mRet (mC .non)) mPass) (mSeq (mSet 3 (mBin opDiv (mBinS opIx (mVar 4) (mC (.int 1))) (mBinS opIx (mVar 5) (mC (.int 1))))) (mRet (mIf (mB (mBin opEq (mBinS opIx (mVar 5) (mC (.int 0))) (mBinS opIx (mVar 4) (mC (.int 0))))) (mVar 3) (mUn opNeg (mVar 3)))))))))
/-- least_spot(ring) : ring keys long best other size step left right -/
def L_least_spot_1 : MS := mWhile (mAndT (mB (mBin opLt (mBI biMax (mConsA (mVar 3) (mConsA (mVar 4) mNilA))) (mVar 2))) (mB (mBin opLt (mVar 5) (mVar 2)))) (mSeq (mPar 7 8 (mBinS opIx (mVar 1) (mBin opMod (mBin opAdd (mVar 3) (mVar 5)) (mVar 2))) (mBinS opIx (mVar 1) (mBin opMod (mBin opAdd (mVar 4) (mVar 5)) (mVar 2)))) (mIfS (mB (mBin opEq (mVar 7) (mVar 8))) (mSet 5 (mBin opAdd (mVar 5) (mC (.int 1)))) (mSeq (mIfS (mB (mBin opGt (mVar 7) (mVar 8))) (mSet 3 (mBin opAdd (mBin opAdd (mVar 3) (mVar 5)) (mC (.int 1)))) (mSet 4 (mBin opAdd (mBin opAdd (mVar 4) (mVar 5)) (mC (.int 1))))) (mSeq (mIfS (mB (mBin opEq (mVar 3) (mVar 4))) (mSet 4 (mBin opAdd (mVar 4) (mC (.int 1)))) mPass) (mSet 5 (mC (.int 0)))))))
def M_least_spot : MF := mFn 1 8 (mSeq (mSet 1 (mComp [6] (.name 6) (mItSeq (mVar 0)) mTrue (mCall M_key_of (mConsA (mTup (mConsA (mVar 6) mNilA)) mNilA)))) (mSeq (mAsg (.tup [.name 2, .name 3, .name 4, .name 5]) (mTup (mConsA (mBI biLen (mConsA (mVar 0) mNilA)) (mConsA (mC (.int 0)) (mConsA (mC (.int 1)) (mConsA (mC (.int 0)) mNilA)))))) (mSeq L_least_spot_1 (mRet (mBI biMin (mConsA (mVar 3) (mConsA (mVar 4) mNilA)))))))
/-- turned_to(ring, spot) : ring spot -/
def M_turned_to : MF := mFn 2 0 (mRet (mBin opAdd (mSlice (mVar 0) (some (mVar 1)) none) (mSlice (mVar 0) none (some (mVar 1)))))
/-- ring_of(letters, course) : letters course handle ring -/
def M_ring_of : MF := mFn 2 2 (mSeq (mAsg (.tup [.name 2, .name 3]) (mCall M_ring_part (mConsA (mVar 0) (mConsA (mVar 1) mNilA)))) (mRet (mIf (mB (mBin opEq (mVar 3) (mTup mNilA))) (mTup mNilA) (mCall M_turned_to (mConsA (mVar 3) (mConsA (mCall M_least_spot (mConsA (mVar 3) mNilA)) mNilA))))))
/-- first_by_turns(turn, root) : turn root best step here short -/
def L_first_by_turns_1 : MS := mWhile (mB (mBin opLe (mBI biLen (mConsA (mVar 4) mNilA)) (mVar 5))) (mSeq mNever (mSet 4 (mCall M_behind_of (mConsA (mVar 4) (mConsA (mVar 3) mNilA)))))
def L_first_by_turns_2 : MS := mFor (.name 3) (mItSeq (mTup (mConsA (mVar 1) (mConsA (mCall M_back_of (mConsA (mVar 1) mNilA)) mNilA)))) (mSeq (mPar 4 5 (mVar 0) (mBin opAdd (mBI biLen (mConsA (mVar 0) mNilA)) (mBin opMul (mC (.int 2)) (mBI biLen (mConsA (mVar 1) mNilA))))) L_first_by_turns_1)
def M_first_by_turns : MF := mFn 2 4 (mSeq (mSet 2 (mVar 0)) (mSeq L_first_by_turns_2 (mRet (mVar 2))))
/-- turning(letters, one, other) : letters one other spots left right begin end -/
def M_turning : MF := mFn 3 5 (mSeq (mDrop (mCall M_need_course (mConsA (mVar 0) (mConsA (mVar 1) mNilA)))) (mSeq (mPar 4 5 (mCall M_parted (mConsA (mCall M_plain_of (mConsA (mVar 1) mNilA)) mNilA)) (mCall M_parted (mConsA (mCall M_plain_of (mConsA (mCall M_need_course (mConsA (mVar 0) (mConsA (mVar 2) mNilA))) mNilA)) mNilA))) (mSeq (mIfS (mOrT (mB (mBin opEq (mBinS opIx (mVar 4) (mC (.int 1))) (mTup mNilA))) (mB (mBin opEq (mBinS opIx (mVar 5) (mC (.int 1))) (mTup mNilA)))) (mRet (mIf (mB (mBin opEq (mBinS opIx (mVar 4) (mC (.int 1))) (mBinS opIx (mVar 5) (mC (.int 1))))) (mTup mNilA) (mC .non))) mPass) (mSeq (mSet 3 (mTup (mConsA (mCall M_least_spot (mConsA (mBinS opIx (mVar 4) (mC (.int 1))) mNilA)) (mConsA (mCall M_least_spot (mConsA (mBinS opIx (mVar 5) (mC (.int 1))) mNilA)) mNilA)))) (mSeq (mIfS (mB (mBin opNe (mCall M_turned_to (mConsA (mBinS opIx (mVar 4) (mC (.int 1))) (mConsA (mBinS opIx (mVar 3) (mC (.int 0))) mNilA))) (mCall M_turned_to (mConsA (mBinS opIx (mVar 5) (mC (.int 1))) (mConsA (mBinS opIx (mVar 3) (mC (.int 1))) mNilA))))) (mRet (mC .non)) mPass) (mSeq (mPar 6 7 (mCall M_behind_of (mConsA (mBinS opIx (mVar 4) (mC (.int 0))) (mConsA (mSlice (mBinS opIx (mVar 4) (mC (.int 1))) none (some (mBinS opIx (mVar 3) (mC (.int 0))))) mNilA))) (mCall M_behind_of (mConsA (mBinS opIx (mVar 5) (mC (.int 0))) (mConsA (mSlice (mBinS opIx (mVar 5) (mC (.int 1))) none (some (mBinS opIx (mVar 3) (mC (.int 1))))) mNilA)))) (mRet (mCall M_first_by_turns (mConsA (mCall M_behind_of (mConsA (mVar 7) (mConsA (mCall M_back_of (mConsA (mVar 6) mNilA)) mNilA))) (mConsA (mBinS opIx (mCall M_rooted (mConsA (mCall M_plain_of (mConsA (mVar 1) mNilA)) mNilA)) (mC (.int 0))) mNilA))))))))))
/-- check_turning(letters, one, other, turn) : letters one other turn turned -/
def M_check_turning : MF := mFn 4 1 (mSeq (mDrop (mCall M_need_course (mConsA (mVar 0) (mConsA (mVar 1) mNilA)))) (mSeq (mDrop (mCall M_need_course (mConsA (mVar 0) (mConsA (mVar 2) mNilA)))) (mSeq (mSet 4 (mCall M_plain_of (mConsA (mBin opAdd (mBin opAdd (mCall M_need_course (mConsA (mVar 0) (mConsA (mVar 3) mNilA))) (mVar 1)) (mCall M_back_of (mConsA (mVar 3) mNilA))) mNilA))) (mRet (mBin opEq (mVar 4) (mCall M_plain_of (mConsA (mVar 2) mNilA)))))))
/-- are_past(letters, one, other) : letters one other left right -/
def M_are_past : MF := mFn 3 2 (mSeq (mDrop (mCall M_need_course (mConsA (mVar 0) (mConsA (mVar 1) mNilA)))) (mSeq (mPar 3 4 (mCall M_plain_of (mConsA (mVar 1) mNilA)) (mCall M_plain_of (mConsA (mCall M_need_course (mConsA (mVar 0) (mConsA (mVar 2) mNilA))) mNilA))) (mRet (mBin opEq (mCall M_behind_of (mConsA (mVar 3) (mConsA (mVar 4) mNilA))) (mCall M_behind_of (mConsA (mVar 4) (mConsA (mVar 3) mNilA)))))))
/-- past_paper(letters, one, other) : letters one other left right -/
def M_past_paper : MF := mFn 3 2 (mSeq (mIfS (mNotT (mB (mCall M_are_past (mConsA (mVar 0) (mConsA (mVar 1) (mConsA (mVar 2) mNilA)))))) (mRet (mTup (mConsA (mC (.str [117, 110, 108, 105, 107, 101])) (mConsA (mCall M_told_course (mConsA (mCall M_plain_of (mConsA (mBin opAdd (mBin opAdd (mBin opAdd (mVar 1) (mVar 2)) (mCall M_back_of (mConsA (mVar 1) mNilA))) (mCall M_back_of (mConsA (mVar 2) mNilA))) mNilA)) mNilA)) mNilA)))) mPass) (mSeq (mPar 3 4 (mCall M_rooted (mConsA (mCall M_plain_of (mConsA (mVar 1) mNilA)) mNilA)) (mCall M_rooted (mConsA (mCall M_plain_of (mConsA (mVar 2) mNilA)) mNilA))) (mSeq (mIfS (mB (mBin opEq (mBinS opIx (mVar 3) (mC (.int 1))) (mC (.int 0)))) (mRet (mTup (mConsA (mC (.str [112, 97, 115, 116])) (mConsA (mBinS opIx (mVar 4) (mC (.int 0))) (mConsA (mC (.int 0)) (mConsA (mBinS opIx (mVar 4) (mC (.int 1))) mNilA)))))) mPass) (mRet (mTup (mConsA (mC (.str [112, 97, 115, 116])) (mConsA (mBinS opIx (mVar 3) (mC (.int 0))) (mConsA (mBinS opIx (mVar 3) (mC (.int 1))) (mConsA (mIf (mB (mBin opEq (mBinS opIx (mVar 4) (mC (.int 0))) (mBinS opIx (mVar 3) (mC (.int 0))))) (mBinS opIx (mVar 4) (mC (.int 1))) (mUn opNeg (mBinS opIx (mVar 4) (mC (.int 1))))) mNilA)))))))))
/-- is_many(thing) : thing -/
def M_is_many : MF := mFn 1 0 (mRet (mCall M_is_among (mConsA (mVar 0) (mConsA (mUn opNeg (mC (.int 1000000000))) (mConsA (mC (.int 1000000000)) mNilA)))))
/-- is_told_course(letters, thing) : letters thing -/
def M_is_told_course : MF := mFn 2 0 (mSeq (mTry fnE (mDrop (mCall M_need_course (mConsA (mVar 0) (mConsA (mVar 1) mNilA)))) [⟨lkB [some true, some false, some false, none, some false, none, none, none, none, none, none, some false, none], none, fun _ _ => mRet (mC (.bl false))⟩]) (mRet (mC (.bl true))))
/-- is_power_of(steps, root, many) : steps root many handle ring -/
def M_is_power_of : MF := mFn 3 2 (mSeq (mAsg (.tup [.name 3, .name 4]) (mCall M_parted (mConsA (mVar 1) mNilA))) (mSeq (mIfS (mOrT (mB (mBin opEq (mVar 2) (mC (.int 0)))) (mB (mBin opEq (mVar 4) (mTup mNilA)))) (mRet (mBin opEq (mVar 0) (mTup mNilA))) mPass) (mSeq (mIfS (mB (mBin opNe (mBI biLen (mConsA (mVar 0) mNilA)) (mBin opAdd (mBin opMul (mC (.int 2)) (mBI biLen (mConsA (mVar 3) mNilA))) (mBin opMul (mBI biLen (mConsA (mVar 4) mNilA)) (mBI biAbs (mConsA (mVar 2) mNilA)))))) (mRet (mC (.bl false))) mPass) (mRet (mBin opEq (mVar 0) (mBin opAdd (mBin opAdd (mVar 3) (mBin opMul (mIf (mB (mBin opGt (mVar 2) (mC (.int 0)))) (mVar 4) (mCall M_back_of (mConsA (mVar 4) mNilA))) (mBI biAbs (mConsA (mVar 2) mNilA)))) (mCall M_back_of (mConsA (mVar 3) mNilA))))))))
/-- check_past(letters, one, other, paper) : letters one other paper word root -/
def M_check_past : MF := mFn 4 2 (mSeq (mDrop (mCall M_need_course (mConsA (mVar 0) (mConsA (mVar 1) mNilA)))) (mSeq (mDrop (mCall M_need_course (mConsA (mVar 0) (mConsA (mVar 2) mNilA)))) (mSeq (mSet 4 (mIf (mAndT (mB (mCall M_is_tuple_of (mConsA (mVar 3) (mConsA (mC (.int 2)) (mConsA (mC (.int 4)) mNilA))))) (mAndT (mB (mBin opNe (mBI biLen (mConsA (mVar 3) mNilA)) (mC (.int 3)))) (mB (mCall M_is_told_course (mConsA (mVar 0) (mConsA (mBinS opIx (mVar 3) (mC (.int 1))) mNilA)))))) (mBinS opIx (mVar 3) (mC (.int 0))) (mC .non))) (mSeq (mIfS (mAndT (mB (mBin opEq (mVar 4) (mC (.str [112, 97, 115, 116])))) (mAndT (mB (mBin opEq (mBI biLen (mConsA (mVar 3) mNilA)) (mC (.int 4)))) (mAndT (mB (mCall M_is_many (mConsA (mBinS opIx (mVar 3) (mC (.int 2))) mNilA))) (mB (mCall M_is_many (mConsA (mBinS opIx (mVar 3) (mC (.int 3))) mNilA)))))) (mSeq (mSet 5 (mCall M_plain_of (mConsA (mBinS opIx (mVar 3) (mC (.int 1))) mNilA))) (mIfS (mOrT (mNotT (mB (mCall M_is_power_of (mConsA (mCall M_plain_of (mConsA (mVar 1) mNilA)) (mConsA (mVar 5) (mConsA (mBinS opIx (mVar 3) (mC (.int 2))) mNilA)))))) (mNotT (mB (mCall M_is_power_of (mConsA (mCall M_plain_of (mConsA (mVar 2) mNilA)) (mConsA (mVar 5) (mConsA (mBinS opIx (mVar 3) (mC (.int 3))) mNilA))))))) (mRaise 11 (mC (.str [112, 97, 115, 116]))) mPass)) (mIfS (mAndT (mB (mBin opEq (mVar 4) (mC (.str [117, 110, 108, 105, 107, 101])))) (mB (mBin opEq (mBI biLen (mConsA (mVar 3) mNilA)) (mC (.int 2))))) (mIfS (mOrT (mB (mBin opEq (mBinS opIx (mVar 3) (mC (.int 1))) (mTup mNilA))) (mB (mBin opNe (mBinS opIx (mVar 3) (mC (.int 1))) (mCall M_plain_of (mConsA (mBin opAdd (mBin opAdd (mBin opAdd (mVar 1) (mVar 2)) (mCall M_back_of (mConsA (mVar 1) mNilA))) (mCall M_back_of (mConsA (mVar 2) mNilA))) mNilA))))) (mRaise 11 (mC (.str [117, 110, 108, 105, 107, 101]))) mPass) (mRaise 11 (mC (.str [102, 111, 114, 109]))))) (mRet (mVar 4))))))
/-- sign_of(step) : step -/
def M_sign_of : MF := mFn 1 0 (mRet (mIf (mB (mBin opGt (mVar 0) (mC (.int 0)))) (mBinS opIx (mC (.str [97, 98, 99, 100, 101, 102, 103, 104])) (mBin opSub (mVar 0) (mC (.int 1)))) (mBinS opIx (mC (.str [65, 66, 67, 68, 69, 70, 71, 72])) (mBin opSub (mUn opNeg (mVar 0)) (mC (.int 1))))))
/-- course_text(letters, course) : letters course step -/
def M_course_text : MF := mFn 2 1 (mSeq (mDrop (mCall M_need_course (mConsA (mVar 0) (mConsA (mVar 1) mNilA)))) mNever)
/-- read_course(letters, text) : letters text found number sign -/
def L_read_course_1 : MS := mFor (.tup [.name 3, .name 4]) (mItEnum (mVar 1)) (mIfS (mB (mBin opIn (mVar 4) (mSlice (mC (.str [97, 98, 99, 100, 101, 102, 103, 104])) none (some (mVar 0))))) mNever (mIfS (mB (mBin opIn (mVar 4) (mSlice (mC (.str [65, 66, 67, 68, 69, 70, 71, 72])) none (some (mVar 0))))) mNever (mRaise 4 (mVar 3))))
def M_read_course : MF := mFn 2 3 (mSeq (mDrop (mCall M_need_letters (mConsA (mVar 0) mNilA))) (mSeq (mIfS (mOrT (mNotT (mB (mUn (opIsI isStr) (mVar 1)))) (mNotT (mB (mChain opLe opLe (mC (.int 1)) (mBI biLen (mConsA (mVar 1) mNilA)) (mC (.int 2000)))))) (mRaise 4 (mC .non)) mPass) (mSeq (mIfS (mB (mBin opEq (mVar 1) (mC (.str [110, 111, 110, 101])))) (mRet (mTup mNilA)) mPass) (mSeq (mSet 2 (mNewLst mNilA)) (mSeq L_read_course_1 (mRet (mBI biTuple (mConsA (mVar 2) mNilA))))))))
end
end LM

set_option linter.all false
/-! # PL2: texts -/
namespace PL
/-- enumerate(a text) -/
def mItEnumS (e : ME) : MI := fun δ S => bAA (mConsA e mNilA δ S) fun ds S1 => match ds with
  | [.str s] => some (.ok (enumD 0 (s.map fun c => .str [c])) S1)
  | _ => none
/-- a text's method without arguments, with one -/
def mStr0 (f : List Nat → Option D) (a : ME) : ME := fun δ S => bE (a δ S) fun x S1 => match x with
  | .str s => (f s).map fun z => .ok z S1
  | _ => none
def mStr1 (f : Sto → List Nat → D → Option D) (a b : ME) : ME := fun δ S => bE (a δ S) fun x S1 => match x with
  | .str s => bE (b δ S1) fun y S2 => (f S2 s y).map fun z => .ok z S2
  | _ => none
def revStr (s : List Nat) : Option D := if s.length ≤ LINE then some (.str s.reverse) else none
def upC (c : Nat) : Nat := if 97 ≤ c ∧ c ≤ 122 then c - 32 else c
def loC (c : Nat) : Nat := if 65 ≤ c ∧ c ≤ 90 then c + 32 else c
/-- plain signs only -/
def upStr (s : List Nat) : Option D := if s.length ≤ 5592405 ∧ s.all (· < 128) = true then some (.str (s.map upC)) else none
def loStr (s : List Nat) : Option D := if s.length ≤ 5592405 ∧ s.all (· < 128) = true then some (.str (s.map loC)) else none
def joinS (sep : List Nat) : List (List Nat) → List Nat
  | [] => []
  | [p] => p
  | p :: q :: r => p ++ (sep ++ joinS sep (q :: r))
def strsOf : List D → Option (List (List Nat))
  | [] => some []
  | .str s :: r => (strsOf r).map fun l => s :: l
  | _ => none
def joinStr (S : Sto) (s : List Nat) (y : D) : Option D := (seqOf S y).bind fun xs => (strsOf xs).bind fun ys => if (ys.map (·.length)).sum + ys.length * s.length ≤ 16777216 then some (.str (joinS s ys)) else none
/-- the texts in which signs are looked for -/
def signRows : List (List Nat) := [[97, 98, 99, 100, 101, 102, 103, 104], [65, 66, 67, 68, 69, 70, 71, 72]]
def indexStr (_ : Sto) (s : List Nat) (y : D) : Option D := match y with
  | .str [c] => if s ∈ signRows ∧ c ∈ s then some (.int (s.idxOf c : Nat)) else none
  | _ => none
/-- a text so many times -/
def mulStr : D → D → Option D
  | .str s, .int k => if 2 ≤ k ∧ k.natAbs ≤ 1000000 ∧ 0 < s.length ∧ s.length * k.toNat ≤ 16777216 then some (.str (List.replicate k.toNat s).flatten) else none
  | _, _ => none
end PL

set_option linter.all false
/-! # PL3: min(a, b, key=f) -/
namespace PL
def mMin2K (f : MF) (a b : ME) : ME := fun δ S => bE (a δ S) fun x S1 => bE (b δ S1) fun y S2 => match f [x] S2 with
  | some (.ok kx S3) => match f [y] S3 with
    | some (.ok ky S4) => match opLtD ky kx with
      | some (.bl c) => some (.ok (if c then y else x) S4)
      | _ => none
    | _ => none
  | _ => none
/-- >, of data too -/
def opGtX : D → D → Option D
  | .int i, .int j => some (.bl (decide (j < i)))
  | x, y => opLtD y x
end PL

set_option Elab.async false
set_option linter.all false
set_option maxRecDepth 100000
set_option maxHeartbeats 2000000
/-! ## an own exception whose __init__ is: super().__init__('m', x); self.f = x -/
namespace XI
open PySem PySem.Spec PyProof.Rows PySem.W PySem.HandSPX PySem.Calls

/-- own classes, then a written tail -/
def refsT (tl : List Value) : List Value → Bool
  | .ref _ :: r => refsT tl r
  | l => l == tl
section
variable {tl : List Value}
theorem refsT_cases : ∀ l : List Value, refsT tl l = true → (∃ c r, l = .ref c :: r ∧ refsT tl r = true) ∨ l = tl
  | [], e => .inr (beq_iff_eq.mp e)
  | .ref c :: r, e => .inl ⟨c, r, rfl, e⟩
  | .none :: _, e => .inr (beq_iff_eq.mp e)
  | .ellipsis :: _, e => .inr (beq_iff_eq.mp e)
  | .notImplemented :: _, e => .inr (beq_iff_eq.mp e)
  | .bool _ :: _, e => .inr (beq_iff_eq.mp e)
  | .int _ _ :: _, e => .inr (beq_iff_eq.mp e)
  | .float _ _ :: _, e => .inr (beq_iff_eq.mp e)
  | .str _ _ :: _, e => .inr (beq_iff_eq.mp e)
  | .bytes _ _ :: _, e => .inr (beq_iff_eq.mp e)
  | .type _ :: _, e => .inr (beq_iff_eq.mp e)
  | .builtin _ :: _, e => .inr (beq_iff_eq.mp e)
theorem refsT_pass (hp : ∀ self, refuseLoop self "__setattr__" tl = pure ()) (self : Value) : ∀ l : List Value, refsT tl l = true → refuseLoop self "__setattr__" l = pure () := by
  intro l
  induction l with
  | nil =>
    intro e
    rcases refsT_cases [] e with ⟨c, r', q, h⟩ | q
    · cases q
    · rw [q]; exact hp self
  | cons a r ih =>
    intro e
    rcases refsT_cases (a :: r) e with ⟨c, r', q, h⟩ | q
    · obtain ⟨rfl, rfl⟩ := List.cons.inj q
      rw [refuseLoop_ref]; exact ih h
    · rw [q]; exact hp self
theorem refsT_contains (X : String) : ∀ l : List Value, refsT tl l = true → l.contains (.type X) = tl.contains (.type X) := by
  intro l
  induction l with
  | nil =>
    intro e
    rcases refsT_cases [] e with ⟨c, r', q, h⟩ | q
    · cases q
    · rw [q]
  | cons a r ih =>
    intro e
    rcases refsT_cases (a :: r) e with ⟨c, r', q, h⟩ | q
    · obtain ⟨rfl, rfl⟩ := List.cons.inj q
      rw [List.contains_cons, ih h]; rfl
    · rw [q]
end
/-- what is known of the written base -/
structure BaseT (B newId initId : String) (tl : List Value) : Prop where
  base : ExcBaseFacts B newId initId tl
  store : ∀ self, refuseLoop self "__setattr__" tl = pure ()
  obj : tl.contains (.type "object") = true
  exc : tl.contains (.type "BaseException") = true
  own : tl.contains (.type B) = true
  ne : tl ≠ []
  kx : KxsFacts B initId
theorem baseT_ValueError : BaseT "ValueError" "ValueError.__new__" "ValueError.__init__" [.type "ValueError", .type "Exception", .type "BaseException", .type "object"] :=
  ⟨F.excBase_ValueError, F.store_ValueError.passes, by decide +kernel, by decide +kernel, by decide +kernel, by simp, kxs_ValueError⟩
theorem baseT_LookupError : BaseT "LookupError" "LookupError.__new__" "LookupError.__init__" [.type "LookupError", .type "Exception", .type "BaseException", .type "object"] :=
  ⟨F.excBase_LookupError, F.store_LookupError.passes, by decide +kernel, by decide +kernel, by decide +kernel, by simp, kxs_LookupError⟩
theorem baseT_OverflowError : BaseT "OverflowError" "OverflowError.__new__" "OverflowError.__init__" [.type "OverflowError", .type "ArithmeticError", .type "Exception", .type "BaseException", .type "object"] :=
  ⟨F.excBase_OverflowError, F.store_OverflowError.passes, by decide +kernel, by decide +kernel, by decide +kernel, by simp, kxs_OverflowError⟩

section
open Builtin Builtin.ObjectAttr
variable {prog : Program} {w : World} {A : Around} {E : Value → Shared → Prop} {R : Result → Shared → Prop} {hp : Heap} {g : Array GenState} {d : Drawn} {t : Nat} {os : OsState} {B newId initId : String} {tl : List Value}
theorem mro_has {K : Frag} {C : Addr} {cd : ClassData} (hcd : clsIn K C = some cd) {X : String} (hb : cd.mro.contains (.type X) = true) : mroIn K C (.type X) = some true := by
  unfold mroIn
  rw [hcd, Option.bind_some, hb]
  have : cd.mro.isEmpty = false := by
    cases h : cd.mro with
    | nil => rw [h] at hb; cases hb
    | cons _ _ => rfl
  rw [if_neg (by rw [this]; decide)]
theorem osa {K : Frag} {name : Str} {tk : Tok} {v : Value} {x C : Addr} {fv : Array Value} {cd : ClassData} (T : BaseT B newId initId tl)
    (X : K.In hp) (hx : hp.get? x = some { cls := .ref C, data := .fields fv }) (hcd : clsIn K C = some cd) (hm : refsT tl cd.mro = true) (hh : cd.hasDict = true) (ha : findIn K (.ref C) name = some none)
    (hq : ∀ h' tk' dx, (∀ b o, b ≠ x → hp.get? b = some o → h'.get? b = some o) → hp.objs.size ≤ dx → dx ≠ x → h'.get? x = some { cls := .ref C, dict := some dx, data := .fields fv } →
      h'.Ns1 dx (fun y => if y = name then some v else none) → R (.ok (.ret .none)) ⟨h', g, d, tk', os⟩) :
    codeAny (model prog w) A (.call (.builtin "object.__setattr__") ⟨[.ref x, .str name tk, v], []⟩) R ⟨hp, g, d, t, os⟩ := by
  have I : InstAt hp x { cls := .ref C, data := .fields fv } C none := ⟨hx, rfl, rfl, trivial⟩
  have SF := F.store_object
  have hob : cd.mro.contains (.type "object") = true := (refsT_contains "object" _ hm).trans T.obj
  have hxs : x ≠ hp.objs.size := Nat.ne_of_lt (Heap.lt_size hx)
  have sub : Looks (model prog w) hp (isInstance (.ref x) (.type "object")) true := I.type.andThen (looks_mroIn X (mro_has hcd hob))
  refine codeAny_call_builtin SF.slot.plain SF.entry (@check_slot (model prog w) _ _ ⟨hp, g, d, t, os⟩ "object.__setattr__" "object" "__setattr__" (.ref x) [.str name tk, v] [] _ SF.kind SF.split sub (SF.args (.ref x) (.str name tk) v) ?_)
  have hmr : Looks (model prog w) hp (mroOf (.ref C)) cd.mro := (looks_clsIn X hcd).andThen .now
  have L3 : Looks (model prog w) hp (storeTaker? none) none := .now
  have hcls : Looks (model prog w) hp (classData C) cd := looks_clsIn X hcd
  rw [osa_eq, refuse_eq]
  refine wpAny_bind (wpAny_bind (I.type.at (wpAny_bind (hmr.at ?_))))
  rw [refsT_pass T.store _ _ hm]
  refine wpAny_pure (wpAny_bind (I.type.at (wpAny_bind ((looks_findIn X ha).at (wpAny_bind (L3.at ?_))))))
  show wpAny _ _ (storeInOwnDict (.ref x) (.ref C) (.str name tk) name v false) _ _ _
  obtain ⟨nm, bs, mro, ns, qn, hd, sn, sb, ab, col, del⟩ := cd
  dsimp only at hh
  subst hh
  unfold storeInOwnDict ownDictForStores
  repeat (first | with_reducible refine store_in_new ?_ ?_ | with_reducible refine wpAny_loadPart_at hx ?_ | with_reducible refine hcls.at ?_ | wp_step)
  · exact ⟨_, #[], _, (Heap.get?_update_ne _ _ _ _ hxs.symm).trans (Heap.get?_push_at rfl rfl), rfl, fun e he => absurd he (by simp), fun _ => rfl⟩
  · intro h' tk' hn' hs
    have hx₁ : (hp.push { cls := .type "dict", data := .dict #[] }).get? x = some { cls := .ref C, data := .fields fv } := Heap.get?_push_of_some _ hx
    refine hq h' tk' hp.objs.size (fun b o hb ho => ?_) (Nat.le_refl _) hxs.symm ?_ hn'
    · exact (hs.2 b (Nat.ne_of_lt (Heap.lt_size ho))).trans ((Heap.get?_update_ne _ _ _ _ hb).trans (Heap.get?_push_of_some _ ho))
    · exact (hs.2 x hxs).trans (Heap.get?_update_self _ hx₁ rfl)

/-- the bound __init__ called -/
theorem call_mw (T : BaseT B newId initId tl) {u e t0 C : Addr} {rest : List Value} {Q : Value → Shared → Prop} {nm q : Str} {N : Addr} {bs bm : List Value} {hdct : Bool} {sn : List Str} {sub : List Value} {ab : Bool} {col : Option Bool} {dd : Option Addr} {k0 k1 k2 k3 k5 : Option Value}
    (hC : hp.get? C = some (excClassObj nm q C N bs bm hdct sn sub ab col dd k0 k1 k2 k3 k5 newId)) (he : hp.get? e = some (excO C t0)) (hu : hp.get? u = some (kxs_mw initId e)) (hrest : rest.length ≤ sizeLine)
    (hq : ∀ h' t1, (∀ b o, b ≠ e → hp.get? b = some o → h'.get? b = some o) → h'.get? e = some (excO C t1) → Q .none ⟨h', g, d, t, os⟩) :
    wpAny (model prog w) A (call (.ref u) rest) Q E ⟨hp, g, d, t, os⟩ := by
  refine wpAny_call (codeAny_of_tree ?_)
  show wpAny _ A.in1 (callAny (.ref u) ⟨rest, []⟩) _ _ _
  simp only [callAny]
  refine wpAny_bind (wpAny_load hu ?_)
  simp only [kxs_mw, show (Value.type "method-wrapper" == Value.type "method" || Value.type "method-wrapper" == Value.type "builtin_function_or_method" || Value.type "method-wrapper" == Value.type "method-wrapper") = true by decide, if_true]
  refine KFB.if_so (by decide) ?_
  refine wpAny_bind (check_bound_init T.base.toExcCallFacts hC he rfl ?_)
  refine wpAny_bind (wpAny_pure (wpAny_pure ?_))
  refine ⟨plainId_quiet T.base.init.plain _, codeAny_builtin T.base.initEntry ?_⟩
  rw [Around.under_plainId T.base.init.plain _]
  exact exc_init_tree (cls := .ref C) (t0 := t0) (dv := none) (c2 := .none) (c3 := .none) (b4 := .bool false) he hrest fun h' k e1 _ => hq h' _ k e1
end

/-! ### the __init__ -/
abbrev xiBody (msg fld par : Str) (j : Nat) (p0 p1 p2 p3 p4 p5 p6 p7 p8 p9 p10 : Pos) : List Stmt :=
  [.Expr (.Call (.Attribute (.Call (.Name "super" p0) [] [] p1) "__init__" p2) [.Constant (.str msg) j p3, .Name par p4] [] p5) p6, .Assign [.Attribute (.Name "self" p7) fld p8] (.Name par p9) p10]
/-- what the written part says of the class at C, its __init__ at fI -/
structure XiC (prog : Program) (K : Frag) (C fI : Addr) (fld : Str) (B newId initId : String) (tl : List Value) : Prop where
  baseT : BaseT B newId initId tl
  cls : ∃ nm q N bs bm sn sub ab col dd k0 k1 k2 k3 k5, K.lookup C = some (excClassObj nm q C N bs bm true sn sub ab col dd k0 k1 k2 k3 k5 newId) ∧ refsT tl bm = true ∧ alongIn K "__init__" bm = some (some (.builtin initId))
  sa : findIn K (.ref C) "__setattr__" = some (some (.builtin "object.__setattr__"))
  init : findIn K (.ref C) "__init__" = some (some (.ref fI))
  tyI : typeIn K (.ref fI) = some (.type "function")
  noF : findIn K (.ref C) fld = some none
  tyC : typeIn K (.ref C) = some (.type "type")
  exC : subIn K (.ref C) (.type "BaseException") = some true
  kC : keepIn K (.ref C) = true
  any : nsIn K cStatics "thirdparty.any" = some none
  sup : nsIn K mainGlobals "super" = some none
  top : (prog.main.scope.names.lookup ("super" : Str)).isSome = false
  fn : ∃ qual msg par j p0 p1 p2 p3 p4 p5 p6 p7 p8 p9 p10 params scope dV kV doc pm an cda ct cc oc od osl,
    K.lookup fI = some ⟨oc, od, .func (ksFn "__init__" qual params (xiBody msg fld par j p0 p1 p2 p3 p4 p5 p6 p7 p8 p9 p10) scope dV kV doc pm an (.ref cda) ct cc), osl⟩ ∧
    codeIn K (.ref cda) qual = true ∧
    (∃ cl cld csl, K.lookup cc = some ⟨cl, cld, .cell (some (.ref C)), csl⟩) ∧
    (∃ ccl cdd vs ccs file tf, K.lookup cda = some ⟨ccl, cdd, .fields vs, ccs⟩ ∧ vs[2]? = some (.str file tf) ∧ ((prog.main.file : Str) == file) = true) ∧
    ((params.posonlyargs ++ params.args).head?.map (·.arg) = some "self") ∧
    scope.kind = .function ∧ scope.isCoroutine = false ∧ scope.isGenerator = false ∧ (∀ x ∈ scope.names, x.2 ≠ .cell) ∧
    scope.names.lookup ("self" : Str) = some .local ∧ scope.names.lookup par = some .local ∧ scope.names.lookup ("super" : Str) = some .globalImplicit ∧ scope.names.lookup ("__class__" : Str) = some .free ∧
    (par == ("__debug__" : Str)) = false ∧ par ≠ "self" ∧
    (∀ env : Env, env.scope = scope → interactive env = false) ∧
    (∀ env : Env, swapsWith (.Call (.Attribute (.Call (.Name "super" p0) [] [] p1) "__init__" p2) [.Constant (.str msg) j p3, .Name par p4] [] p5) none p6.line env = pure false) ∧
    (∀ env : Env, swapsWith (.Name par p9) (some (.Attribute (.Name "self" p7) fld p8)) p10.line env = pure false) ∧
    (∀ env : Env, ∃ pl, eval (.Call (.Attribute (.Call (.Name "super" p0) [] [] p1) "__init__" p2) [.Constant (.str msg) j p3, .Name par p4] [] p5) env = (do
      let ov ← attributeBase (.Call (.Name "super" p0) [] [] p1) "__init__" env (eval (.Call (.Name "super" p0) [] [] p1) env)
      standAt p2.atName
      let (f, first) ← holding [ov] (getMethod ov "__init__" pl)
      callWith p5 f first (backTo p5 (starEach [.Constant (.str msg) j p3, .Name par p4] env)) [])) ∧
    (∀ (s : Shared) (a b : Value), BindsTo s (ksFn "__init__" qual params (xiBody msg fld par j p0 p1 p2 p3 p4 p5 p6 p7 p8 p9 p10) scope dV kV doc pm an (.ref cda) ct cc) ⟨[a, b], []⟩ [("self", a), (par, b)])

section
variable {prog : Program} {w : World} {A : Around} {R : Result → Shared → Prop} {hp : Heap} {g : Array GenState} {d : Drawn} {t : Nat} {os : OsState} {B newId initId : String} {tl : List Value} {K : Frag} {C fI : Addr} {fld : Str} {mg mb : Str → Option Value}
theorem init_run (T : XiC prog K C fI fld B newId initId tl) (X : K.In hp) (gl : hp.Ns mainGlobals mg) (bl : hp.Ns builtinsNs mb) (hbb : ∀ x : Str, x ≠ "__name__" → mb x = bootBuiltins x) (hlim : hp.NoLimit) (hroom : A.depth < recursionLimit)
    {e t0 : Addr} {u : Value} (he : hp.get? e = some (excO C t0)) (heK : K.lookup e = none)
    (hq : ∀ h' tk' dx t1, (∀ b o, b ≠ e → hp.get? b = some o → h'.get? b = some o) → hp.objs.size ≤ dx → dx ≠ e → h'.get? e = some { cls := .ref C, dict := some dx, data := .fields #[.ref t1, .none, .none, .none, .bool false, .none] } →
      h'.Ns1 dx (fun y => if y = fld then some u else none) → R (.ok (.ret .none)) ⟨h', g, d, tk', os⟩) :
    codeAny (model prog w) A (.call (.ref fI) ⟨[.ref e, u], []⟩) R ⟨hp, g, d, t, os⟩ := by
  obtain ⟨nm, q, N, bs, bm, sn, sub, ab, col, dd, k0, k1, k2, k3, k5, hC, hbm, hal⟩ := T.cls
  obtain ⟨qual, msg, par, j, p0, p1, p2, p3, p4, p5, p6, p7, p8, p9, p10, params, scope, dV, kV, doc, pm, an, cda, ct, cc, oc, od, osl, lk, hcd, ⟨cl, cld, csl, hcc⟩, ⟨ccl, cdd, vs, ccs, file, tf, hcode, hvs, hfile⟩, hpar, hk, hco, hgen, hcell, hself, hpl, hsup, hcls, hdb, hne, hint, hsw1, hsw2, hev, hbind⟩ := T.fn
  have hcl : clsIn K C = some { name := nm, bases := bs, mro := .ref C :: bm, ns := N, qualname := q, hasDict := true, slotNames := sn, subclasses := sub, abstract := ab, collection := col, hasDel := false } := by unfold clsIn; rw [hC] <;> rfl
  have hCh := X _ _ hC
  have hm : refsT tl (.ref C :: bm) = true := hbm
  obtain ⟨ar, har, hara⟩ : ∃ ar, (params.posonlyargs ++ params.args).head? = some ar ∧ ar.arg = "self" := by
    cases h : (params.posonlyargs ++ params.args).head? with
    | none => rw [h] at hpar; cases hpar
    | some ar => rw [h] at hpar; exact ⟨ar, rfl, Option.some.inj hpar⟩
  have neC : e ≠ C := fun z => by
    rw [z, hCh] at he
    cases he
  refine ks_codeAny_call_defAt (fd := ksFn "__init__" qual params (xiBody msg fld par j p0 p1 p2 p3 p4 p5 p6 p7 p8 p9 p10) scope dV kV doc pm an (.ref cda) ct cc) (body := xiBody msg fld par j p0 p1 p2 p3 p4 p5 p6 p7 p8 p9 p10) (binds := [("self", .ref e), (par, u)])
    hroom (X _ _ lk) rfl hlim (codeRec_of X hcd) rfl (hbind _ _ _) hcell ?_ (fun h₁ hns hk₁ => ?_) hco hgen hk
  · intro x hx
    rcases List.mem_cons.mp hx with rfl | hx
    · exact hself
    · rcases List.mem_cons.mp hx with rfl | hx
      · exact hpl
      · cases hx
  have X1 : K.In h₁ := X.keeps hk₁
  have v1 : (fun x => ([("self", Value.ref e), (par, u)] : List (Str × Value)).reverse.lookup x) "self" = some (.ref e) := by
    show List.lookup ("self" : Str) [(par, u), ("self", Value.ref e)] = _
    rw [List.lookup_cons, show (("self" : Str) == par) = false from by simpa using (fun z => hne z.symm)]
    rfl
  have v2 : (fun x => ([("self", Value.ref e), (par, u)] : List (Str × Value)).reverse.lookup x) par = some u := by
    show List.lookup par [(par, u), ("self", Value.ref e)] = _
    rw [List.lookup_cons, beq_self_eq_true]
  have he1 := hk₁ _ _ he
  obtain ⟨pl, hev⟩ := hev (ksEnv qual scope hp.objs.size fI (.ref cda) cc)
  refine ks_wpAt_execs_cons (ks_wpAt_Expr_any (ks_wpAt_MethodCall (pl := pl) ?_ hev) (hint _ rfl) (hsw1 _))
  refine ks_wpAt_super_base (env := ksEnv qual scope hp.objs.size fI (.ref cda) cc) hsup hcls (by decide) rfl (X1 _ _ lk) rfl har rfl (X1 _ _ hcode) rfl hvs hfile T.top ?_
  refine ks_loadName_global hk hsup (loadGlobal_builtin (env := ksEnv qual scope hp.objs.size fI (.ref cda) cc) (gl.keeps hk₁) (mg_none_of X gl T.sup) (bl.keeps hk₁) ((hbb _ (by decide +kernel)).trans PyProof.Rows.Boot.«super») ⟨rfl, ?_⟩)
  refine wpAny_loadName_free hk hcls rfl ⟨_, X1 _ _ hcc, rfl⟩ ?_
  rw [hara]
  refine wpAny_loadName_local hk hself hns v1 ?_
  refine ks_wpAny_isType_cls (X1 _ _ hC) rfl ⟨rfl, ?_⟩
  refine ks_wpAny_call_super (X1 _ _ hC) rfl he1 rfl (fun c z => by cases z) (looks_mroIn X1 (by unfold mroIn; rw [hcl]; simp)) (fun h2 e2 kk2 => ?_)
  have he2 := kk2 _ _ he1
  have X2 : K.In h2 := X1.keeps kk2
  have I2 : InstAt h2 e (excO C t0) C none := ⟨he2, rfl, rfl, trivial⟩
  refine kxs_getMethod T.baseT.kx (K := K) e2 (looks_opaque X2 T.any) (l₀ := .ref C :: bm) (fun A Q E s k q => wpAny_bind ((looks_clsIn X2 hcl) A _ E s k (wpAny_pure q))) (by simp [List.dropWhile_cons]) X2 hal (I2.type.andThen (looks_mroIn X2 (mro_has hcl ((refsT_contains B _ hm).trans T.baseT.own)))) neC (by decide) ?_
  have hs2 : (h2.push (kxs_mw initId e)).get? h2.objs.size = some (kxs_mw initId e) := Heap.get?_push_at rfl rfl
  have k3 : ∀ b o, h2.get? b = some o → (h2.push (kxs_mw initId e)).get? b = some o := fun b o z => Heap.get?_push_of_some _ z
  have hn3 : (h2.push (kxs_mw initId e)).Ns hp.objs.size (fun x => ([("self", Value.ref e), (par, u)] : List (Str × Value)).reverse.lookup x) := (hns.keeps kk2).keeps k3
  refine kxs_callWith (i := initId) (x := e) rfl (evalArgs_plain (spliced_cons (wpAny_Constant_str (x := msg) (k := j) (pos := p3) ?_)))
  refine spliced_cons (wpAny_Name (x := par) (pos := p4) (wpAny_loadName_local hk hpl hn3 v2 ?_) hdb)
  refine spliced_nil ⟨hs2, ?_⟩
  refine call_mw T.baseT (k3 _ _ (X2 _ _ hC)) (k3 _ _ he2) hs2 (by show 2 ≤ sizeLine; rw [sizeLine_eq]; omega) fun h4 t1 k4 e4 => ?_
  have hsz : hp.objs.size ≠ e := Nat.ne_of_gt (Heap.lt_size he)
  have hn4 : h4.Ns hp.objs.size (fun x => ([("self", Value.ref e), (par, u)] : List (Str × Value)).reverse.lookup x) := hn3.at fun o y => k4 _ _ hsz y
  have kAll : ∀ b o, b ≠ e → hp.get? b = some o → h4.get? b = some o := fun b o hb z => k4 b o hb (k3 _ _ (kk2 _ _ (hk₁ _ _ z)))
  have X4 : K.In h4 := fun b o z => kAll b o (fun q => by rw [q, heK] at z; cases z) (X b o z)
  refine ks_wpAt_execs_cons (ks_wpAt_Assign_Attr ?_ (hsw2 _))
  refine wpAt_of_wpAny (wpAny_Name (x := par) (pos := p9) (wpAny_loadName_local hk hpl hn4 v2 ?_) hdb)
  refine wpAny_Name (x := "self") (pos := p7) (wpAny_loadName_local hk hself hn4 v1 ?_)
  refine set_plain X4 (ox := excO C t1) (od := none) ⟨e4, rfl, rfl, trivial⟩ T.sa ?_
  refine osa T.baseT X4 e4 hcl hm rfl T.noF (fun h' tk' dx k dn dne hx hn => ?_)
  refine wpAt_of_wpAny (wpAny_execs_nil ?_)
  obtain ⟨oL, _, _, hoL, _⟩ := hn4
  exact hq h' tk' dx t1 (fun b o hb z => k b o hb (kAll b o hb z)) (Nat.le_trans (Nat.le_of_lt (Heap.lt_size hoL)) dn) dne hx hn
end
end XI

set_option Elab.async false
set_option linter.all false
set_option maxRecDepth 100000
set_option maxHeartbeats 2000000
namespace XI
open PySem PySem.Spec PyProof.Rows L2
section
variable {X : Cx} {e : Expr} {ta : TA} {p pos : Pos}
/-- C(e) -/
theorem pmk_xi {x : Str} {C fI : Addr} {fld : Str} {B newId initId : String} {tl : List Value} {k : Nat} (T : XiC X.prog X.K C fI fld B newId initId tl) (hr : Room (k + 1) X.A) (hm : X.mg x = some (.ref C)) (ha : PA X [e] ta) (hg : Gl X x := by rfl)
    (hdb : (x == ("__debug__" : Str)) = false := by decide) (he : starEach [e] X.env = [(false, eval e X.env)] := by rfl) :
    PMk X (.Call (.Name x p) [e] [] pos) (fun σ H Q => ta σ H fun vs H1 => ∃ v, vs = [v] ∧ ∀ d, H1 d = none → Q (.ref C) (some d) (upd H1 d (.xd [(fld, v)]))) := by
  intro pins s σ H Q I h
  obtain ⟨nm, q, N, bs, bm, sn, sub, ab, col, dd, k0, k1, k2, k3, k5, hC, hbm, _⟩ := T.cls
  refine wpAny_Call_Name_kw (ld_glob I hg hm ?_ hdb)
  refine PySem.W.callWith_K (h₀ := X.base) I.ok.mod.kin T.kC (thn (ha.run pos pins s σ H _ I h) fun us s1 ⟨vs, H1, I1, r1, v, ev, q1⟩ => ⟨I1.kIn, ?_⟩) he rfl
  subst ev
  cases r1 with
  | @cons _ u _ ur rv rn =>
  cases rn
  show wpAny _ _ (call (.ref C) [u]) _ _ _
  obtain ⟨hp, g, dr, tk, os⟩ := s1
  have hsz : hp.objs.size ≤ hp.objs.size + 1 := Nat.le_succ _
  have hn : H1 (hp.objs.size + 1) = none := I1.hok.fresh hsz
  have kk : ∀ b o, hp.get? b = some o → ((hp.push (PySem.W.kdv_tup [u])).push (PySem.HandSPX.excO C hp.objs.size)).get? b = some o := fun b o e => Heap.get?_push_of_some _ (Heap.get?_push_of_some _ e)
  have hget : ((hp.push (PySem.W.kdv_tup [u])).push (PySem.HandSPX.excO C hp.objs.size)).get? (hp.objs.size + 1) = some (PySem.HandSPX.excO C hp.objs.size) := by heap_get
  have I2 : Inv X pins σ (upd H1 (hp.objs.size + 1) (exo (hp.objs.size + 1) C none)) ⟨(hp.push (PySem.W.kdv_tup [u])).push (PySem.HandSPX.excO C hp.objs.size), g, dr, tk, os⟩ :=
    I1.laid (t' := tk) (a := hp.objs.size + 1) (o := exo (hp.objs.size + 1) C none) (h' := (hp.push (PySem.W.kdv_tup [u])).push (PySem.HandSPX.excO C hp.objs.size)) kk hsz (exo_ok hget)
  have heK : X.K.lookup (hp.objs.size + 1) = none := by
    cases z : X.K.lookup (hp.objs.size + 1) with
    | none => rfl
    | some o => exact absurd (show hp.objs.size + 1 < hp.objs.size from Heap.lt_size (I1.kIn _ _ z)) (by omega)
  obtain ⟨mb, hmb, hbb⟩ := I2.ok.mod.blt
  refine wpAny_call (PySem.HandSPX.call_own T.baseT.base (fun Y => refsT_contains Y bm hbm) (I1.kIn _ _ hC) (PySem.W.looks_findIn I1.kIn T.init) (fun self => PySem.W.bind_fn I1.kIn self T.tyI) (by show 1 ≤ sizeLine; rw [sizeLine_eq]; omega)
    (init_run T I2.kIn (I2.ok.mod.glob.keeps I2.bk) (hmb.keeps I2.bk) hbb I2.nolimit (hr.make C [u] []).depth hget heK fun h' tk' dx t1 k dn dne hx hn' => ?_))
  generalize ha' : hp.objs.size + 1 = a at *
  have e : upd H1 a (exo a C none) a = some (exo a C none) := upd_same
  have hnd : upd H1 a (exo a C none) dx = none := I2.hok.fresh dn
  have hnd1 : H1 dx = none := by rw [upd_ne dne] at hnd; exact hnd
  have nd : ∀ {b : Addr} {o : Obj}, ((hp.push (PySem.W.kdv_tup [u])).push (PySem.HandSPX.excO C hp.objs.size)).get? b = some o → b ≠ dx := fun {b o} q => Nat.ne_of_lt (Nat.lt_of_lt_of_le (Heap.lt_size q) dn)
  have na : ∀ {b : Addr}, upd H1 a (exo a C none) b = none → b ≠ a := fun {b} n z => by
    rw [z, e] at n
    cases n
  generalize hH : upd H1 a (exo a C none) = HH at *
  have Un1 : Un (frs X.stack) [] HH (upd (upd HH dx (exd dx [(fld, v)])) a (exo a C (some dx))) ((hp.push (PySem.W.kdv_tup [u])).push (PySem.HandSPX.excO C hp.objs.size)) h' := {
    keep := fun b o q n _ _ => k b o (na n) q
    slot := fun b o q n _ _ => ⟨o.slots, k b o (na n) q⟩
    free := fun b o q n _ => by rw [upd_ne (na n), upd_ne (nd q)]; exact n
    there := fun b o q _ => by
      by_cases hb : b = a
      · exact ⟨_, by rw [hb]; exact hx⟩
      · exact ⟨o, k b o hb q⟩
    tups := fun b xs q => by rw [upd_ne (at_ne e q exo_tup), upd_ne (ne_of_none q hnd)]; exact q
    frzs := fun b o v q => by rw [upd_ne (at_ne e q exo_frz), upd_ne (ne_of_none q hnd)]; exact q
    tbls := fun b ps q => ⟨#[], by rw [upd_ne (at_ne e q exo_tbl), upd_ne (ne_of_none q hnd), q]; simp⟩ }
  have hok2 : HOk X.prog X.w (upd (upd HH dx (exd dx [(fld, v)])) a (exo a C (some dx))) h' := fun b o q => by
    by_cases hb : b = a
    · subst hb
      rw [upd_same] at q
      cases q
      exact exo_ok hx
    · rw [upd_ne hb] at q
      by_cases hd : b = dx
      · subst hd
        rw [upd_same] at q
        cases q
        exact exd_ok hn' (relO_put (fs := []) rv fun g => True.intro)
      · rw [upd_ne hd] at q
        exact (I2.hok b o q).stay (fun c v hc z => k c v (by
            rcases hc with hc | hc
            · rw [hc]
              exact hb
            · exact at_ne e hc exo_own) z)
          (fun c hc => by rw [upd_ne (at_ne e hc exo_own), upd_ne (ne_of_none hc hnd)]; exact hc) (fun c xs hc => by rw [upd_ne (at_ne e hc exo_tup), upd_ne (ne_of_none hc hnd)]; exact hc)
  refine ⟨rfl, ?_⟩
  subst hH
  refine mk_end (fs := [(fld, v)]) (raises_own T.exC T.tyC) I1 (by omega) kk Un1 hok2 rfl I2.bare upd_same (by rw [upd_ne dne, upd_same]) hnd1 ?_
  have eq : upd (del (upd (upd (upd H1 a (exo a C none)) dx (exd dx [(fld, v)])) a (exo a C (some dx))) a) dx (.xd [(fld, v)]) = upd H1 dx (.xd [(fld, v)]) := by
    funext b
    by_cases h1 : b = dx
    · subst h1; rw [upd_same, upd_same]
    · rw [upd_ne h1, upd_ne h1]
      by_cases h2 : b = a
      · subst h2; rw [del_same]; exact hn.symm
      · rw [del_ne h2, upd_ne h2, upd_ne h1, upd_ne h2]
  rw [eq]
  exact q1 dx hnd1
end
end XI

set_option Elab.async false
set_option linter.all false
set_option maxRecDepth 100000
set_option maxHeartbeats 2000000
/-! ## try with clauses of all sorts -/
namespace XI
open PySem PySem.Spec PyProof.Rows L2
/-- a clause: the class that it names, the slot of its name, its suite's reading -/
structure Cl where
  c : Value
  slot : Option Nat
  ts : Addr → Value → Option Addr → TS
def Cl.D (o : Option Nat) (D : Ends) : Ends := match o with
  | none => D
  | some i => { nx := fun σ' H' => D.nx (σ'.set i none) H', rt := D.rt, bk := fun σ' H' => D.bk (σ'.set i none) H', ct := fun σ' H' => D.ct (σ'.set i none) H' }
def Cl.σ (o : Option Nat) (a : Addr) (σ : L2.St) : L2.St := match o with
  | none => σ
  | some i => σ.set i (some (.ref a))
/-- what the clauses wish of an exception, one after the other; from a none on nothing is known -/
def wTry (K : PySem.W.Frag) (Wout : WX) (D : Ends) : List (Option Cl) → WX
  | [] => Wout
  | none :: _ => fun _ _ _ _ => False
  | some l :: r => fun cls d σ H => ∃ b, PySem.W.exmOne K cls l.c = some b ∧ (b = true → ∀ a, H a = none → l.ts a cls d (Cl.D l.slot D) (Cl.σ l.slot a σ) H) ∧ (b = false → wTry K Wout D r cls d σ H)
inductive HdsT (X : Cx) : List ExceptHandler → List (Option Cl) → Prop
  | nil : HdsT X [] []
  | never {hds : List ExceptHandler} : HdsT X hds [none]
  | bare {x : Str} {c : Value} {ts : Addr → Value → Option Addr → TS} {b₀ : Stmt} {suite : List Stmt} {np pos' : Pos} {hds : List ExceptHandler} {l : List (Option Cl)} (hc : Names X x c)
      (hsu : ∀ (a : Addr) (oe : Obj) (cls : Value) (d : Option Addr) (pn : List (Addr × Obj)), Zc cls d oe → (∃ vs, oe.data = .fields vs) → PSs (X.suite a ((a, oe) :: pn)) (b₀ :: suite) (ts a cls d)) (r : HdsT X hds l) :
      HdsT X (.ExceptHandler (some (.Name x np)) none (b₀ :: suite) pos' :: hds) (some ⟨c, none, ts⟩ :: l)
  | named {x n : Str} {i : Nat} {c : Value} {ts : Addr → Value → Option Addr → TS} {b₀ : Stmt} {suite : List Stmt} {np pos' : Pos} {hds : List ExceptHandler} {l : List (Option Cl)} (hc : Names X x c) (hN : X.N.Nodup) (hi : X.N[i]? = some n) (hln : X.env.kindOf n = some .local)
      (hsu : ∀ (a : Addr) (oe : Obj) (cls : Value) (d : Option Addr) (pn : List (Addr × Obj)), Zc cls d oe → (∃ vs, oe.data = .fields vs) → PSs (X.suite a ((a, oe) :: pn)) (b₀ :: suite) (ts a cls d)) (r : HdsT X hds l) :
      HdsT X (.ExceptHandler (some (.Name x np)) (some n) (b₀ :: suite) pos' :: hds) (some ⟨c, some i, ts⟩ :: l)
section
variable {X : Cx} {body : List Stmt} {h₀ : ExceptHandler} {hds : List ExceptHandler} {l : List (Option Cl)} {pos : Pos} {tb : WX → TS} {Wout : WX}
theorem ps_try (hs : X.stack = X.env :: X.outer) (hf : X.env.frame = some X.env.locals) (tk : Takes X Wout)
    (hb : ∀ (W : WX) (pn : List (Addr × Obj)) (xe : Value → Shared → Prop), Takes (X.tr pn xe) W → PassesOwn (model X.prog X.w) X.A X.env xe → PSs (X.tr pn xe) body (tb W))
    (hh : HdsT X (h₀ :: hds) l) : PS X (.Try body (h₀ :: hds) [] [] pos) (fun D σ H => tb (wTry X.K Wout D l) D σ H) := by
  refine ⟨fun pins s σ H D I h => ?_⟩
  have ok := I.ok
  have hfr : X.A.frames = some (X.env :: X.outer) := by rw [ok.frames, hs]
  refine wpAny_Try_except ?_
  refine wpAny_mono ((hb (wTry X.K Wout D l) (X.pn ++ pins) (fun e s₁ => wpAny (model X.prog X.w) X.A (noteFrame e X.env) (fun _ s₂ => wpAny (model X.prog X.w) X.A (setFlight e none) (fun _ s₃ =>
    wpAny (model X.prog X.w) X.A (handleBy e X.env (h₀ :: hds)) (SP X pins D) X.xe s₃) X.xe s₂) X.xe s₁) (fun u s' xx => ?_) PassesOwn.looking).run [] s σ H D (I.toTry _) h) (fun f s1 hsp => ?_) (fun e s1 he => he)
  · -- the catch
    obtain ⟨a, B, sI, pins', σ', H', cls, d, rfl, J', nb, up, sky, na, os, ag, w⟩ := xx
    have J : Inv X pins σ' H' sI := J'.ofTry ok
    have sky' : Sky B (X.env :: X.outer) a (Zc cls d) X.env.locals s'.heap := by rw [← hs]; exact sky
    show wpAny (model X.prog X.w) X.A (noteFrame (.ref a) X.env) _ _ _
    refine Sky.land Zc.steady hfr hf sky' fun h3 fl3 up3 => ?_
    have J3 : Inv X pins σ' H' { s' with heap := h3 } := J.landed nb fl3.1 (up.trans up3) os ag
    obtain ⟨oe3, vs3, he3, hz3, hd3⟩ := fl3.there
    have notFr : ∀ {h : Heap} {o : Obj} {vs : Array Value}, h.FunFrames B (X.env :: X.outer) → h.get? a = some o → o.data = .fields vs → a ∉ frs (X.env :: X.outer) := fun {h o vs} ff e dd hm => by
      obtain ⟨_, o', e', hnf⟩ := ff.mem hm
      rw [e] at e'; cases e'
      exact hnf _ dd
    have nfr := notFr fl3.2.2.1 he3 hd3
    have nL : a ≠ X.env.locals := fun z => nfr (List.mem_filterMap.mpr ⟨X.env, List.mem_cons_self, by rw [hf, z]⟩)
    have nF : a ∉ X.fs := fun hm => by
      obtain ⟨e, he, q⟩ := List.mem_filterMap.mp hm
      exact nfr (List.mem_filterMap.mpr ⟨e, List.mem_cons_of_mem _ he, q⟩)
    have S3 := J3.suite he3 hd3 na nL nF
    have LTm : ∀ {c : Value} {b : Bool}, PySem.W.exmOne X.K cls c = some b → PySem.W.Looks (model X.prog X.w) h3 (excMatches (.ref a) c) b := fun {c b} hb1 => by
      have LT : PySem.W.Looks (model X.prog X.w) h3 (typeOf (.ref a)) cls := fun A Q E s k q => wpAny_typeOf_ref (k _ _ he3) (by rw [hz3.1]; exact q)
      exact PySem.W.exm_one (M := model X.prog X.w) (J3.kIn) LT hb1
    have testN : ∀ {x : Str} {c : Value} {np : Pos} {Q : Value → Shared → Prop} {E : Value → Shared → Prop}, Names X x c → Q c { s' with heap := h3 } → wpAny (model X.prog X.w) (X.A.mark (some (.ref a))) (eval (.Name x np) X.env) Q E { s' with heap := h3 } := fun {x c np Q E} hc q => by
      obtain ⟨hg, hdbg, hm | ⟨hm, hv, hnn⟩⟩ := hc
      · exact ld_glob (X := X.suite a ((a, oe3) :: (X.pn ++ pins))) S3 hg hm q hdbg
      · exact ld_blt (X := X.suite a ((a, oe3) :: (X.pn ++ pins))) S3 hg hm hv q hnn hdbg
    have go : ∀ {hds' : List ExceptHandler} {l' : List (Option Cl)}, HdsT X hds' l' → wTry X.K Wout D l' cls d σ' H' →
        wpAny (model X.prog X.w) X.A (handleBy (.ref a) X.env hds') (SP X pins D) X.xe { s' with heap := h3 } := by
      intro hds' l' hk
      induction hk with
      | nil =>
        intro w
        refine wpAny_handleBy_nil ?_
        obtain ⟨k1, k2, k3, oe, vs, T, oT, ts', he, hz, hd, h1, hr⟩ := id fl3
        unfold PySem.passOn
        refine wpAny_bind (wpAny_field he hd h1 ?_)
        rw [if_neg (show ¬ ((Value.ref T == Value.none) = true) from by simp)]
        have fin : wpAny (model X.prog X.w) X.A (setFlight (.ref a) X.env.frame) (fun _ s4 => wpAny (model X.prog X.w) X.A (throw (.ref a) : Sem Flow) (SP X pins D) X.xe s4) X.xe { s' with heap := h3 } := by
          rw [hf]
          refine HandSPX.setFlight_upZ fl3 fun h4 hh4 up4 => wpAny_throw (tk _ _ ?_)
          exact ⟨a, B, sI, pins, σ', H', cls, d, rfl, J, nb, (up.trans up3).trans up4, .inr (.inr (by rw [hs]; exact hh4)), na, os, ag, w⟩
        first
          | exact wpAny_bind (wpAny_pure (wpAny_bind fin))
          | exact wpAny_bind fin
      | never => intro w; exact False.elim w
      | @bare x c ts b₀ suite np pos' hds2 l2 hc hsu r ih =>
        intro w
        obtain ⟨b, hb1, hyes, hno⟩ := w
        refine wpAny_handleBy_cons (codeAny_handlers_test ?_) (by intro q; cases q)
        refine testN hc ((LTm hb1).here ?_)
        cases b with
        | true =>
          refine codeAny_handlers_suite ?_
          refine HandSPX.lands_againZ fl3 fun h4 fl4 up4 => ?_
          have J4 : Inv X pins σ' H' { s' with heap := h4 } := J.landed nb fl4.1 ((up.trans up3).trans up4) os ag
          obtain ⟨oe4, vs4, he4, hz4, hd4⟩ := fl4.there
          have S4 := J4.suite he4 hd4 na nL nF
          refine wpAny_mono ((hsu a oe4 cls d (X.pn ++ pins) hz4 ⟨_, hd4⟩).run [] _ _ H' _ S4 (hyes rfl a na)) (fun f s6 hsp => ?_) (fun _ _ z => False.elim z)
          cases f with
          | next =>
            obtain ⟨σ6, H6, S6, q6⟩ := hsp
            exact ⟨_, _, S6.unsuite ok, q6⟩
          | brk =>
            obtain ⟨σ6, H6, S6, q6⟩ := hsp
            exact ⟨_, _, S6.unsuite ok, q6⟩
          | cont =>
            obtain ⟨σ6, H6, S6, q6⟩ := hsp
            exact ⟨_, _, S6.unsuite ok, q6⟩
          | ret u =>
            obtain ⟨v6, σ6, H6, S6, r6, q6⟩ := hsp
            exact ⟨_, _, _, S6.unsuite ok, r6, q6⟩
        | false =>
          show wpAny _ X.A (handleBy (.ref a) X.env hds2) _ _ _
          exact ih (hno rfl)
      | @named x n i c ts b₀ suite np pos' hds2 l2 hc hN hi hln hsu r ih =>
        intro w
        obtain ⟨b, hb1, hyes, hno⟩ := w
        have hloc : Loc X.env.scope n := .inl hln
        refine wpAny_handleBy_cons (codeAny_handlers_test ?_) (by intro q; cases q)
        refine testN hc ((LTm hb1).here ?_)
        cases b with
        | true =>
          refine codeAny_handlers_suite_as ?_
          refine HandSPX.lands_againZ fl3 fun h4 fl4 up4 => ?_
          have J4 : Inv X pins σ' H' { s' with heap := h4 } := J.landed nb fl4.1 ((up.trans up3).trans up4) os ag
          obtain ⟨oe4, vs4, he4, hz4, hd4⟩ := fl4.there
          have S4 := J4.suite he4 hd4 na nL nF
          refine store_ok (X := X.suite a ((a, oe4) :: (X.pn ++ pins))) (v := .ref a) S4 hN hi hloc rfl (fun s5 S5 => ?_) (.inr hln)
          refine wpAny_mono ((hsu a oe4 cls d (X.pn ++ pins) hz4 ⟨_, hd4⟩).run [] s5 _ H' _ S5 (hyes rfl a na)) (fun f s6 hsp => ?_) (fun _ _ z => False.elim z)
          have end_ : ∀ {σ6 : L2.St} {H6 : Hp} {Q : Shared → Prop}, Inv (X.suite a ((a, oe4) :: (X.pn ++ pins))) [] σ6 H6 s6 → (∀ s7, Inv X pins (σ6.set i none) H6 s7 → Q s7) →
              wpAny (model X.prog X.w) X.A (do bindName X.env n .none; unbindBehindTheSuite X.env n pos') (fun _ s7 => Q s7) X.xe s6 := fun {σ6 H6 Q} S6 hq => gone_ok (S6.unsuite ok) hN hi hln hq
          cases f with
          | next =>
            obtain ⟨σ6, H6, S6, q6⟩ := hsp
            exact end_ S6 fun s7 J7 => ⟨_, _, J7, q6⟩
          | brk =>
            obtain ⟨σ6, H6, S6, q6⟩ := hsp
            exact end_ S6 fun s7 J7 => ⟨_, _, J7, q6⟩
          | cont =>
            obtain ⟨σ6, H6, S6, q6⟩ := hsp
            exact end_ S6 fun s7 J7 => ⟨_, _, J7, q6⟩
          | ret u =>
            obtain ⟨v6, σ6, H6, S6, r6, q6⟩ := hsp
            exact end_ S6 fun s7 J7 => ⟨_, _, _, J7, r6, q6⟩
        | false =>
          show wpAny _ X.A (handleBy (.ref a) X.env hds2) _ _ _
          exact ih (hno rfl)
    exact go hh w
  · cases f with
    | next =>
      obtain ⟨σ', H', J', q⟩ := hsp
      exact wpAny_execs_nil ⟨σ', H', J'.ofTry ok, q⟩
    | brk =>
      obtain ⟨σ', H', J', q⟩ := hsp
      exact ⟨σ', H', J'.ofTry ok, q⟩
    | cont =>
      obtain ⟨σ', H', J', q⟩ := hsp
      exact ⟨σ', H', J'.ofTry ok, q⟩
    | ret u =>
      obtain ⟨v, σ', H', J', r, q⟩ := hsp
      exact ⟨v, σ', H', J'.ofTry ok, r, q⟩
end
end XI

set_option Elab.async false
set_option linter.all false
set_option maxRecDepth 100000
set_option maxHeartbeats 2000000
/-! ## an exception class from what the module's text says -/
namespace XI
open PySem PySem.Spec PyProof.Rows L2
theorem along_O (K : PySem.W.Frag) : PySem.W.alongIn K "__init__" [.type "OverflowError", .type "ArithmeticError", .type "Exception", .type "BaseException", .type "object"] = some (some (.builtin "OverflowError.__init__")) := by kernel_rfl
theorem along_L (K : PySem.W.Frag) : PySem.W.alongIn K "__init__" [.type "LookupError", .type "Exception", .type "BaseException", .type "object"] = some (some (.builtin "LookupError.__init__")) := by kernel_rfl
theorem along_V (K : PySem.W.Frag) : PySem.W.alongIn K "__init__" [.type "ValueError", .type "Exception", .type "BaseException", .type "object"] = some (some (.builtin "ValueError.__init__")) := by kernel_rfl
theorem along_1 {K : PySem.W.Frag} {xb : Addr} {nm q : Str} {N : Addr} {bs tl : List Value} {hd : Bool} {sn : List Str} {sub : List Value} {ab : Bool} {col : Option Bool} {dd : Option Addr} {k0 k1 k2 k3 k5 : Option Value} {i nw : String}
    (h : K.lookup xb = some (excClassObj nm q xb N bs tl hd sn sub ab col dd k0 k1 k2 k3 k5 nw)) (hf : PySem.W.findIn K (.ref xb) "__init__" = some (some (.builtin i))) : PySem.W.alongIn K "__init__" (.ref xb :: tl) = some (some (.builtin i)) := by
  unfold PySem.W.findIn at hf
  simp only [h] at hf
  exact hf
/-- all of a written scope that its run asks for -/
def scB (sc : Scope) (par : Str) : Bool := decide (sc.kind = .function) && !sc.isCoroutine && !sc.isGenerator && sc.names.all (fun x => !decide (x.2 = .cell)) && decide (sc.names.lookup ("self" : Str) = some .local) && decide (sc.names.lookup par = some .local) &&
  decide (sc.names.lookup ("super" : Str) = some .globalImplicit) && decide (sc.names.lookup ("__class__" : Str) = some .free) && !(par == ("__debug__" : Str)) && !(par == ("self" : Str))
theorem mk_xi {prog : Program} {K : PySem.W.Frag} {C fI : Addr} {fld : Str} {B newId initId : String} {tl : List Value} {nm q : Str} {N : Addr} {bs bm : List Value} {sn : List Str} {sub : List Value} {ab : Bool} {col : Option Bool} {dd : Option Addr} {k0 k1 k2 k3 k5 : Option Value}
    {st : Stmt} {qual msg par : Str} {j : Nat} {p0 p1 p2 p3 p4 p5 p6 p7 p8 p9 p10 : Pos} {dV kV doc pm ct oc ccl cl : Value} {an od cdd cld : Option Addr} {cda cc : Addr} {osl ccs csl : Array (Option Value)} {vs : Array Value} {file : Str} {tf : Tok}
    (bt : BaseT B newId initId tl) (xl : K.lookup C = some (excClassObj nm q C N bs bm true sn sub ab col dd k0 k1 k2 k3 k5 newId)) (hr : refsT tl bm = true) (al : PySem.W.alongIn K "__init__" bm = some (some (.builtin initId)))
    (sa : PySem.W.findIn K (.ref C) "__setattr__" = some (some (.builtin "object.__setattr__"))) (init : PySem.W.findIn K (.ref C) "__init__" = some (some (.ref fI))) (tyI : PySem.W.typeIn K (.ref fI) = some (.type "function"))
    (noF : PySem.W.findIn K (.ref C) fld = some none) (tyC : PySem.W.typeIn K (.ref C) = some (.type "type")) (exC : PySem.W.subIn K (.ref C) (.type "BaseException") = some true) (kC : PySem.W.keepIn K (.ref C) = true)
    (any : PySem.W.nsIn K cStatics "thirdparty.any" = some none) (sup : PySem.W.nsIn K mainGlobals "super" = some none) (top : (prog.main.scope.names.lookup ("super" : Str)).isSome = false)
    (lk : K.lookup fI = some ⟨oc, od, .func (PySem.W.ksFn "__init__" qual (defArgs st) (defBody st) (defScope st) dV kV doc pm an (.ref cda) ct cc), osl⟩) (cd : PySem.W.codeIn K (.ref cda) qual = true)
    (lc : K.lookup cc = some ⟨cl, cld, .cell (some (.ref C)), csl⟩) (lcode : K.lookup cda = some ⟨ccl, cdd, .fields vs, ccs⟩) (hv : vs[2]? = some (.str file tf)) (hfile : ((prog.main.file : Str) == file) = true)
    (hb : defBody st = xiBody msg fld par j p0 p1 p2 p3 p4 p5 p6 p7 p8 p9 p10) (hp : ((defArgs st).posonlyargs ++ (defArgs st).args).head?.map (·.arg) = some "self") (hs : scB (defScope st) par = true)
    (hsw1 : ∀ env : Env, swapsWith (.Call (.Attribute (.Call (.Name "super" p0) [] [] p1) "__init__" p2) [.Constant (.str msg) j p3, .Name par p4] [] p5) none p6.line env = pure false)
    (hsw2 : ∀ env : Env, swapsWith (.Name par p9) (some (.Attribute (.Name "self" p7) fld p8)) p10.line env = pure false)
    (hev : ∀ env : Env, ∃ pl, eval (.Call (.Attribute (.Call (.Name "super" p0) [] [] p1) "__init__" p2) [.Constant (.str msg) j p3, .Name par p4] [] p5) env = (do
      let ov ← attributeBase (.Call (.Name "super" p0) [] [] p1) "__init__" env (eval (.Call (.Name "super" p0) [] [] p1) env)
      standAt p2.atName
      let (f, first) ← holding [ov] (getMethod ov "__init__" pl)
      callWith p5 f first (backTo p5 (starEach [.Constant (.str msg) j p3, .Name par p4] env)) []))
    (hbd : ∀ (s : Shared) (a b : Value), BindsTo s (PySem.W.ksFn "__init__" qual (defArgs st) (defBody st) (defScope st) dV kV doc pm an (.ref cda) ct cc) ⟨[a, b], []⟩ [("self", a), (par, b)]) :
    XiC prog K C fI fld B newId initId tl := by
  unfold scB at hs
  simp only [Bool.and_eq_true, Bool.not_eq_true', decide_eq_true_eq, List.all_eq_true, decide_eq_false_iff_not, beq_eq_false_iff_ne] at hs
  obtain ⟨⟨⟨⟨⟨⟨⟨⟨⟨s1, s2⟩, s3⟩, s4⟩, s5⟩, s6⟩, s7⟩, s8⟩, s9⟩, s10⟩ := hs
  rw [hb] at lk hbd
  refine ⟨bt, ⟨nm, q, N, bs, bm, sn, sub, ab, col, dd, k0, k1, k2, k3, k5, xl, hr, al⟩, sa, init, tyI, noF, tyC, exC, kC, any, sup, top, ⟨qual, msg, par, j, p0, p1, p2, p3, p4, p5, p6, p7, p8, p9, p10, _, _, dV, kV, doc, pm, an, cda, ct, cc, oc, od, osl, lk, cd, ⟨cl, cld, csl, lc⟩, ⟨ccl, cdd, vs, ccs, file, tf, lcode, hv, hfile⟩, hp, s1, s2, s3, s4, s5, s6, s7, s8, ?_, ?_, ?_, hsw1, hsw2, hev, hbd⟩⟩
  · exact beq_eq_false_iff_ne.mpr s9
  · exact s10
  · intro env he
    unfold interactive
    rw [he, s1]
    rfl
end XI

set_option Elab.async false
set_option linter.all false
set_option maxRecDepth 100000
set_option maxHeartbeats 2000000
/-! # BR: the bridge. What the mirror's combinators say holds of the program (over HandS). -/
namespace BR
open PySem PySem.Spec PyProof.Rows L2

/-! ## values, stores, names -/
/-- a list that nobody changes: locked, or the module's own -/
def FzL (K : PySem.W.Frag) (H : Hp) (a : Addr) (o : Obj) (xs : List V) : Prop :=
  H a = some (.frz o (.lst xs)) ∨ ∃ (its : List Value) (n : Nat), K.lookup a = some { cls := .type "list", data := .seq its.toArray n } ∧ xs.length ≤ sizeLine ∧ Vals xs its
mutual
def RD (K : PySem.W.Frag) (α : List Addr) (H : Hp) : PL.D → V → Prop
  | .non, v => v = .non
  | .bl b, v => v = .bl b
  | .int i, v => v = .int i
  | .str s, v => ∃ x : Str, v = .str x ∧ x.cps.toList = s
  | .tup ds, v => ∃ a vs, v = .ref a ∧ SqT K H a vs ∧ RDs K α H ds vs
  | .lst ds, v => ∃ a o vs, v = .ref a ∧ FzL K H a o vs ∧ RDs K α H ds vs
  | .ref n, v => ∃ a, α[n]? = some a ∧ v = .ref a
  | .adr a, v => v = .ref a
  | .emp, v => ∃ a o, v = .ref a ∧ H a = some (.frz o (.dK []))
  | .exn a d f x, v => v = .ref a ∧ ∃ w, H d = some (.xd [((f : Str), w)]) ∧ RD K α H x w
def RDs (K : PySem.W.Frag) (α : List Addr) (H : Hp) : List PL.D → List V → Prop
  | [], vs => vs = []
  | d :: ds, vs => ∃ v r, vs = v :: r ∧ RD K α H d v ∧ RDs K α H ds r
end

/-- what is never changed -/
def Perm : HO → Prop
  | .tup _ => True
  | .frz _ _ => True
  | .xd _ => True
  | .ext _ => True
  | .own _ => True
  | .met _ _ => True
  | .rng _ _ => True
  | _ => False
def Le (H H' : Hp) : Prop := ∀ a o, H a = some o → Perm o → H' a = some o
theorem Le.refl (H : Hp) : Le H H := fun _ _ h _ => h
theorem Le.trans {H H1 H2 : Hp} (a : Le H H1) (b : Le H1 H2) : Le H H2 := fun c o h p => b c o (a c o h p) p
theorem Le.new {H : Hp} {a : Addr} {o : HO} (h : H a = none) : Le H (upd H a o) := fun b u e _ => by
  rw [upd_ne (ne_of_none e h)]; exact e
theorem Le.put {H : Hp} {a : Addr} {o u : HO} (h : H a = some u) (n : ¬ Perm u) : Le H (upd H a o) := fun b w e p => by
  by_cases hb : b = a
  · subst hb; rw [h] at e; cases e; exact absurd p n
  · rw [upd_ne hb]; exact e
/-- the list that the draws' state at one of α owns -/
def Own (α : List Addr) (H : Hp) (a : Addr) : Prop := ∃ d ∈ α, ∃ c n, H d = some (.dK [(.inr "cells", c), (.inr "at", n), (.inr "left", .ref a)])
/-- what the store may change -/
def Tr (α : List Addr) (H : Hp) (a : Addr) : Prop := a ∈ α ∨ Own α H a
def Fr (α : List Addr) (H : Hp) (α' : List Addr) (H' : Hp) : Prop := (∀ a, Tr α' H' a → Tr α H a ∨ H a = none) ∧ (∀ a (o : HO), H a = some o → ¬ Tr α H a → (∀ ps, o ≠ .tbl ps) → H' a = some o) ∧ ∀ a, H a ≠ none → H' a ≠ none
def Ext (α : List Addr) (H : Hp) (α' : List Addr) (H' : Hp) : Prop := α <+: α' ∧ Le H H' ∧ Fr α H α' H'
theorem Ext.refl (α : List Addr) (H : Hp) : Ext α H α H := ⟨List.prefix_refl _, Le.refl _, fun _ h => .inl h, fun _ _ h _ _ => h, fun _ h => h⟩
theorem Ext.trans {α α1 α2 : List Addr} {H H1 H2 : Hp} (a : Ext α H α1 H1) (b : Ext α1 H1 α2 H2) : Ext α H α2 H2 := by
  obtain ⟨a1, a2, a3, a4, a5⟩ := a
  obtain ⟨b1, b2, b3, b4, b5⟩ := b
  refine ⟨a1.trans b1, a2.trans b2, fun x h => ?_, fun x xs h n nt => ?_, fun x h => b5 x (a5 x h)⟩
  · rcases b3 x h with h | h
    · exact a3 x h
    · by_cases q : H x = none
      · exact .inr q
      · exact absurd h (a5 x q)
  · refine b4 x xs (a4 x xs h n nt) (fun z => ?_) nt
    rcases a3 x z with q | q
    · exact n q
    · rw [h] at q; cases q
/-- no dict -/
def NoD : HO → Prop
  | .dK (_ :: _) => False
  | _ => True
theorem Ext.new {α : List Addr} {H : Hp} {p : Addr} {o : HO} (hp : H p = none) (ho : NoD o) : Ext α H α (upd H p o) := by
  refine ⟨List.prefix_refl _, Le.new hp, fun a h => ?_, fun a xs e n _ => by rw [upd_ne (ne_of_none e hp)]; exact e, fun a h => ?_⟩
  · rcases h with h | ⟨d, hd, c, n, e⟩
    · exact .inl (.inl h)
    · by_cases q : d = p
      · subst q; rw [upd_same] at e; cases e; exact ho.elim
      · rw [upd_ne q] at e; exact .inl (.inr ⟨d, hd, c, n, e⟩)
  · by_cases q : a = p
    · subst q; exact absurd hp h
    · rw [upd_ne q]; exact h
theorem Ext.pushN {α : List Addr} {H : Hp} {p : Addr} {o : HO} (hp : H p = none) (ho : NoD o) : Ext α H (α ++ [p]) (upd H p o) := by
  refine ⟨List.prefix_append _ _, Le.new hp, fun a h => ?_, fun a xs e n _ => by rw [upd_ne (ne_of_none e hp)]; exact e, fun a h => ?_⟩
  · rcases h with h | ⟨d, hd, c, n, e⟩
    · rcases List.mem_append.mp h with h | h
      · exact .inl (.inl h)
      · exact .inr (by rw [List.mem_singleton.mp h]; exact hp)
    · by_cases q : d = p
      · subst q; rw [upd_same] at e; cases e; exact ho.elim
      · rw [upd_ne q] at e
        rcases List.mem_append.mp hd with z | z
        · exact .inl (.inr ⟨d, z, c, n, e⟩)
        · exact absurd (List.mem_singleton.mp z) q
  · by_cases q : a = p
    · subst q; exact absurd hp h
    · rw [upd_ne q]; exact h
/-- a list of the store is written -/
theorem Ext.put {α : List Addr} {H : Hp} {p : Addr} {o u : HO} (hp : H p = some u) (nu : ¬ Perm u) (hm : Tr α H p) (ho : NoD o) : Ext α H α (upd H p o) := by
  refine ⟨List.prefix_refl _, Le.put hp nu, fun a h => ?_, fun a xs e n _ => ?_, fun a h => ?_⟩
  · rcases h with h | ⟨d, hd, c, n, e⟩
    · exact .inl (.inl h)
    · by_cases q : d = p
      · subst q; rw [upd_same] at e; cases e; exact ho.elim
      · rw [upd_ne q] at e; exact .inl (.inr ⟨d, hd, c, n, e⟩)
  · by_cases q : a = p
    · subst q; exact absurd hm n
    · rw [upd_ne q]; exact e
  · by_cases q : a = p
    · subst q; rw [upd_same]; exact fun z => by cases z
    · rw [upd_ne q]; exact h
/-- nothing has changed of what was there -/
theorem Ext.same {α : List Addr} {H H' : Hp} (s : ∀ c u, H c = some u → H' c = some u) (h : ∀ d ∈ α, H d ≠ none) : Ext α H α H' := by
  refine ⟨List.prefix_refl _, fun c u e _ => s c u e, fun a h' => ?_, fun a xs e _ _ => s _ _ e, fun a h' => ?_⟩
  · rcases h' with h' | ⟨d, hd, c, n, e⟩
    · exact .inl (.inl h')
    · cases q : H d with
      | none => exact absurd q (h d hd)
      | some o =>
        have q2 := s d o q
        rw [e] at q2
        cases q2
        exact .inl (.inr ⟨d, hd, c, n, q⟩)
  · cases q : H a with
    | none => exact absurd q h'
    | some o => rw [s a o q]; exact fun z => by cases z
/-- a list that is not the store's is written, which was not there at the start -/
theorem Ext.off {α α1 : List Addr} {H H1 : Hp} {D : Addr} {o : HO} (x : Ext α1 H1 α H) (h1 : H1 D = none) (n : ¬ Tr α H D) : Ext α1 H1 α (upd H D o) := by
  obtain ⟨a1, a2, a3, a4, a5⟩ := x
  refine ⟨a1, fun c u e p => ?_, fun a h => ?_, fun a zs e m nt => ?_, fun a h => ?_⟩
  · rw [upd_ne (ne_of_none e h1)]; exact a2 c u e p
  · refine a3 a ?_
    rcases h with h | ⟨d, hd, c, k, e⟩
    · exact .inl h
    · by_cases q : d = D
      · subst q; exact absurd (.inl hd) n
      · rw [upd_ne q] at e; exact .inr ⟨d, hd, c, k, e⟩
  · rw [upd_ne (ne_of_none e h1)]; exact a4 a zs e m nt
  · by_cases q : a = D
    · subst q; rw [upd_same]; exact fun z => by cases z
    · rw [upd_ne q]; exact a5 a h
theorem Tr.upd {α : List Addr} {H : Hp} {D a : Addr} {o : HO} (n : D ∉ α) (h : Tr α (L2.upd H D o) a) : Tr α H a := by
  rcases h with h | ⟨d, hd, c, k, e⟩
  · exact .inl h
  · by_cases q : d = D
    · subst q; exact absurd hd n
    · rw [upd_ne q] at e; exact .inr ⟨d, hd, c, k, e⟩

theorem FzL.le {K : PySem.W.Frag} {H H' : Hp} {a : Addr} {o : Obj} {vs : List V} (l : Le H H') (h : FzL K H a o vs) : FzL K H' a o vs := by
  rcases h with h | h
  · exact .inl (l _ _ h trivial)
  · exact .inr h
theorem SqT.le {K : PySem.W.Frag} {H H' : Hp} {a : Addr} {vs : List V} (l : Le H H') (h : SqT K H a vs) : SqT K H' a vs := by
  rcases h with (h | ⟨o, h⟩) | h
  · exact .inl (.inl (l _ _ h trivial))
  · exact .inl (.inr ⟨o, l _ _ h trivial⟩)
  · exact .inr h
theorem pre_get {α α' : List Addr} (h : α <+: α') {n : Nat} {a : Addr} (e : α[n]? = some a) : α'[n]? = some a := by
  obtain ⟨t, rfl⟩ := h
  rw [List.getElem?_append_left (List.getElem?_eq_some_iff.mp e).1]; exact e

section
variable {K : PySem.W.Frag} {α α' : List Addr} {H H' : Hp}
mutual
theorem RD.mono0 (x1 : α <+: α') (x2 : Le H H') : ∀ {d : PL.D} {v : V}, RD K α H d v → RD K α' H' d v
  | .non, _, h => by simpa [RD] using h
  | .bl _, _, h => by simpa [RD] using h
  | .int _, _, h => by simpa [RD] using h
  | .str _, _, h => by simpa [RD] using h
  | .tup ds, _, h => by
    simp only [RD] at h ⊢
    obtain ⟨a, vs, e, q, r⟩ := h
    exact ⟨a, vs, e, SqT.le x2 q, RDs.mono0 x1 x2 r⟩
  | .lst ds, _, h => by
    simp only [RD] at h ⊢
    obtain ⟨a, o, vs, e, q, r⟩ := h
    exact ⟨a, o, vs, e, FzL.le x2 q, RDs.mono0 x1 x2 r⟩
  | .adr _, _, h => by simpa [RD] using h
  | .emp, _, h => by
    simp only [RD] at h ⊢
    obtain ⟨a, o, e1, e2⟩ := h
    exact ⟨a, o, e1, x2 _ _ e2 trivial⟩
  | .exn a d f x, _, h => by
    simp only [RD] at h ⊢
    obtain ⟨e, w, q, r⟩ := h
    exact ⟨e, w, x2 _ _ q trivial, RD.mono0 x1 x2 r⟩
  | .ref n, _, h => by
    simp only [RD] at h ⊢
    obtain ⟨a, e, q⟩ := h
    exact ⟨a, pre_get x1 e, q⟩
theorem RDs.mono0 (x1 : α <+: α') (x2 : Le H H') : ∀ {ds : List PL.D} {vs : List V}, RDs K α H ds vs → RDs K α' H' ds vs
  | [], _, h => by simpa [RDs] using h
  | d :: ds, _, h => by
    simp only [RDs] at h ⊢
    obtain ⟨v, r, e, q, t⟩ := h
    exact ⟨v, r, e, RD.mono0 x1 x2 q, RDs.mono0 x1 x2 t⟩
end
theorem RD.mono {d : PL.D} {v : V} (x : Ext α H α' H') (h : RD K α H d v) : RD K α' H' d v := h.mono0 x.1 x.2.1
theorem RDs.mono {ds : List PL.D} {vs : List V} (x : Ext α H α' H') (h : RDs K α H ds vs) : RDs K α' H' ds vs := h.mono0 x.1 x.2.1
theorem RDs.nil : RDs K α H [] [] := by simp [RDs]
theorem RDs.cons {d : PL.D} {v : V} {ds : List PL.D} {vs : List V} (a : RD K α H d v) (b : RDs K α H ds vs) : RDs K α H (d :: ds) (v :: vs) := by
  simp only [RDs]; exact ⟨v, vs, rfl, a, b⟩
theorem RDs.length : ∀ {ds : List PL.D} {vs : List V}, RDs K α H ds vs → ds.length = vs.length
  | [], _, h => by simp only [RDs] at h; subst h; rfl
  | d :: ds, _, h => by
    simp only [RDs] at h
    obtain ⟨v, r, rfl, _, t⟩ := h
    simp [RDs.length t]
theorem RDs.get : ∀ {ds : List PL.D} {vs : List V}, RDs K α H ds vs → ∀ {i : Nat} {d : PL.D}, ds[i]? = some d → ∃ v, vs[i]? = some v ∧ RD K α H d v
  | [], _, _, _, _, e => by simp at e
  | d :: ds, _, h, i, z, e => by
    simp only [RDs] at h
    obtain ⟨v, r, rfl, q, t⟩ := h
    cases i with
    | zero => simp at e; subst e; exact ⟨v, rfl, q⟩
    | succ i =>
      obtain ⟨w, e1, q1⟩ := RDs.get t (i := i) (d := z) (by simpa using e)
      exact ⟨w, by simpa using e1, q1⟩
theorem RDs.append : ∀ {ds es : List PL.D} {vs ws : List V}, RDs K α H ds vs → RDs K α H es ws → RDs K α H (ds ++ es) (vs ++ ws)
  | [], _, _, _, h, h2 => by simp only [RDs] at h; subst h; exact h2
  | d :: ds, _, _, _, h, h2 => by
    simp only [RDs] at h
    obtain ⟨v, r, rfl, q, t⟩ := h
    exact .cons q (RDs.append t h2)
theorem RDs.take : ∀ {ds : List PL.D} {vs : List V} (n : Nat), RDs K α H ds vs → RDs K α H (ds.take n) (vs.take n)
  | [], _, _, h => by simp only [RDs] at h; subst h; simp [RDs]
  | d :: ds, _, 0, h => by simp [RDs]
  | d :: ds, _, n + 1, h => by
    simp only [RDs] at h
    obtain ⟨v, r, rfl, q, t⟩ := h
    exact .cons q (RDs.take n t)
theorem RDs.drop : ∀ {ds : List PL.D} {vs : List V} (n : Nat), RDs K α H ds vs → RDs K α H (ds.drop n) (vs.drop n)
  | [], _, _, h => by simp only [RDs] at h; subst h; simp [RDs]
  | d :: ds, _, 0, h => h
  | d :: ds, _, n + 1, h => by
    simp only [RDs] at h
    obtain ⟨v, r, rfl, q, t⟩ := h
    exact RDs.drop n t
theorem RDs.reverse : ∀ {ds : List PL.D} {vs : List V}, RDs K α H ds vs → RDs K α H ds.reverse vs.reverse
  | [], _, h => by simp only [RDs] at h; subst h; simp [RDs]
  | d :: ds, _, h => by
    simp only [RDs] at h
    obtain ⟨v, r, rfl, q, t⟩ := h
    rw [List.reverse_cons, List.reverse_cons]
    exact (RDs.reverse t).append (.cons q .nil)
theorem RDs.dropLast {ds : List PL.D} {vs : List V} (h : RDs K α H ds vs) : RDs K α H ds.dropLast vs.dropLast := by
  rw [List.dropLast_eq_take, List.dropLast_eq_take, h.length]; exact h.take _
theorem RDs.set : ∀ {ds : List PL.D} {vs : List V} (n : Nat) {d : PL.D} {v : V}, RDs K α H ds vs → RD K α H d v → RDs K α H (ds.set n d) (vs.set n v)
  | [], _, _, _, _, h, _ => by simp only [RDs] at h; subst h; simp [RDs]
  | d :: ds, _, 0, _, _, h, q => by
    simp only [RDs] at h
    obtain ⟨v, r, rfl, _, t⟩ := h
    exact .cons q t
  | d :: ds, _, n + 1, _, _, h, q => by
    simp only [RDs] at h
    obtain ⟨v, r, rfl, q1, t⟩ := h
    exact .cons q1 (RDs.set n t q)
theorem RDs.rep {ds : List PL.D} {vs : List V} (h : RDs K α H ds vs) : ∀ n : Nat, RDs K α H (List.replicate n ds).flatten (List.replicate n vs).flatten
  | 0 => by simp [RDs]
  | n + 1 => by
    rw [List.replicate_succ, List.replicate_succ, List.flatten_cons, List.flatten_cons]
    exact h.append (RDs.rep h n)
theorem RDs.one {d : PL.D} {vs : List V} (h : RDs K α H [d] vs) : ∃ v, vs = [v] ∧ RD K α H d v := by
  simp only [RDs] at h
  obtain ⟨v, r, rfl, q, rfl⟩ := h
  exact ⟨v, rfl, q⟩
theorem RDs.two {d e : PL.D} {vs : List V} (h : RDs K α H [d, e] vs) : ∃ v w, vs = [v, w] ∧ RD K α H d v ∧ RD K α H e w := by
  simp only [RDs] at h
  obtain ⟨v, r, rfl, q, w, r', rfl, q', rfl⟩ := h
  exact ⟨v, w, rfl, q, q'⟩
mutual
/-- data without mutable objects does not hang on α -/
theorem RD.pure : ∀ {d : PL.D} {v : V}, d.pure = true → RD K α H d v → RD K α' H d v
  | .non, _, _, h => by simpa [RD] using h
  | .bl _, _, _, h => by simpa [RD] using h
  | .int _, _, _, h => by simpa [RD] using h
  | .str _, _, _, h => by simpa [RD] using h
  | .tup ds, _, p, h => by
    simp only [RD] at h ⊢
    simp only [PL.D.pure] at p
    obtain ⟨a, vs, e, q, r⟩ := h
    exact ⟨a, vs, e, q, RDs.pure p r⟩
  | .lst ds, _, p, h => by
    simp only [RD] at h ⊢
    simp only [PL.D.pure] at p
    obtain ⟨a, o, vs, e, q, r⟩ := h
    exact ⟨a, o, vs, e, q, RDs.pure p r⟩
  | .ref n, _, p, h => by simp [PL.D.pure] at p
  | .adr _, _, _, h => by simpa [RD] using h
  | .emp, _, _, h => by simpa [RD] using h
  | .exn a d f x, _, p, h => by
    simp only [RD] at h ⊢
    simp only [PL.D.pure] at p
    obtain ⟨e, w, q, r⟩ := h
    exact ⟨e, w, q, RD.pure p r⟩
theorem RDs.pure : ∀ {ds : List PL.D} {vs : List V}, PL.D.pures ds = true → RDs K α H ds vs → RDs K α' H ds vs
  | [], _, _, h => by simpa [RDs] using h
  | d :: ds, _, p, h => by
    simp only [RDs] at h ⊢
    simp only [PL.D.pures, Bool.and_eq_true] at p
    obtain ⟨v, r, e, q, t⟩ := h
    exact ⟨v, r, e, RD.pure p.1 q, RDs.pure p.2 t⟩
end
end

/-- an object of the store, at a; b: further objects that are its own -/
def MOk (K : PySem.W.Frag) (α : List Addr) (H : Hp) (a : Addr) (b : List Addr) : PL.MO → Prop
  | .dead => (∃ o u, H a = some (.frz o u)) ∧ b = []
  | .lst ds => (∃ vs, H a = some (.lst vs) ∧ RDs K α H ds vs) ∧ PL.D.pures ds = true ∧ b = []
  | .law cells n left => ∃ c o l, H a = some (.dK [(.inr "cells", .ref c), (.inr "at", .int n), (.inr "left", .ref l)]) ∧ FzL K H c o (cells.map V.int) ∧ H l = some (.lst (left.map V.int)) ∧ b = [l]
/-- the store -/
def RSt0 (K : PySem.W.Frag) (α : List Addr) (S : PL.Sto) (H : Hp) : Prop :=
  ∃ β : List (List Addr), α.length = S.length ∧ β.length = S.length ∧ (α ++ β.flatten).Nodup ∧ (∀ b ∈ β.flatten, H b ≠ none) ∧
    ∀ (n : Nat) (o : PL.MO), S[n]? = some o → ∃ a b, α[n]? = some a ∧ β[n]? = some b ∧ MOk K α H a b o
section
variable {K : PySem.W.Frag} {α α' : List Addr} {δ : PL.Env} {S S' : PL.Sto} {σ : L2.St} {H H' : Hp}
/-- two store objects, a store object and a fresh address -/
theorem RSt0.fresh (R : RSt0 K α S H) {p : Addr} (hp : H p = none) : p ∉ α := fun hm => by
  obtain ⟨β, h1, h2, nd, hb, ob⟩ := R
  obtain ⟨n, hn, e⟩ := List.getElem_of_mem hm
  have hs : n < S.length := by rw [← h1]; exact hn
  obtain ⟨a, b, ea, eb, mo⟩ := ob n S[n] (List.getElem?_eq_getElem hs)
  rw [List.getElem?_eq_getElem hn, e] at ea
  cases ea
  cases q : S[n] with
  | dead => rw [q] at mo; obtain ⟨⟨o, u, z⟩, _⟩ := mo; rw [hp] at z; cases z
  | lst ds => rw [q] at mo; obtain ⟨⟨vs, z, _⟩, _⟩ := mo; rw [hp] at z; cases z
  | law cs k ls => rw [q] at mo; obtain ⟨c, o, l, z, _⟩ := mo; rw [hp] at z; cases z
theorem RSt0.lt (R : RSt0 K α S H) {n : Nat} {o : PL.MO} (e : S[n]? = some o) : n < α.length := by
  obtain ⟨β, h1, _⟩ := R
  rw [h1]; exact (List.getElem?_eq_some_iff.mp e).1
end
section
variable {K : PySem.W.Frag} {α : List Addr} {S : PL.Sto} {H H' : Hp}
theorem MOk.same {a : Addr} {b : List Addr} {o : PL.MO} (s : ∀ c u, H c = some u → H' c = some u) (h : MOk K α H a b o) : MOk K α H' a b o := by
  have x : Le H H' := fun c u e _ => s c u e
  cases o with
  | dead => obtain ⟨⟨o, u, e⟩, z⟩ := h; exact ⟨⟨o, u, s _ _ e⟩, z⟩
  | lst ds => obtain ⟨⟨vs, e, r⟩, p⟩ := h; exact ⟨⟨vs, s _ _ e, r.mono0 (List.prefix_refl _) x⟩, p⟩
  | law cs n ls => obtain ⟨c, o, l, e1, e2, e3, e4⟩ := h; exact ⟨c, o, l, s _ _ e1, FzL.le x e2, s _ _ e3, e4⟩
/-- nothing tracked has changed -/
theorem RSt0.same (R : RSt0 K α S H) (s : ∀ c u, H c = some u → H' c = some u) : RSt0 K α S H' := by
  obtain ⟨β, h1, h2, nd, hb, ob⟩ := R
  refine ⟨β, h1, h2, nd, fun b hm => ?_, fun n o e => ?_⟩
  · cases q : H b with
    | none => exact absurd q (hb b hm)
    | some u => rw [s b u q]; exact fun z => by cases z
  · obtain ⟨a, b, e1, e2, m⟩ := ob n o e
    exact ⟨a, b, e1, e2, m.same s⟩
theorem RSt0.new (R : RSt0 K α S H) {p : Addr} {o : HO} (hp : H p = none) : RSt0 K α S (upd H p o) := R.same fun c u e => by rw [upd_ne (ne_of_none e hp)]; exact e
/-- what pure lists hold does not hang on α -/
theorem MOk.any {α' : List Addr} {a : Addr} {b : List Addr} {o : PL.MO} (h : MOk K α H a b o) : MOk K α' H a b o := by
  cases o with
  | dead => exact h
  | lst ds => obtain ⟨⟨vs, e, r⟩, p⟩ := h; exact ⟨⟨vs, e, RDs.pure p.1 r⟩, p⟩
  | law cs n ls => exact h
/-- a new list into the store -/
theorem RSt0.push (R : RSt0 K α S H) {p : Addr} {vs : List V} {ds : List PL.D} (hp : H p = none) (r : RDs K α H ds vs) (pu : PL.D.pures ds = true) : RSt0 K (α ++ [p]) (S ++ [.lst ds]) (upd H p (.lst vs)) := by
  have hf := R.fresh hp
  obtain ⟨β, h1, h2, nd, hb, ob⟩ := R
  have s : ∀ c u, H c = some u → upd H p (.lst vs) c = some u := fun c u e => by rw [upd_ne (ne_of_none e hp)]; exact e
  have hpb : p ∉ β.flatten := fun hm => hb p hm hp
  refine ⟨β ++ [[]], by simp [h1], by simp [h2], ?_, fun b hm => ?_, fun n o e => ?_⟩
  · have e : α ++ [p] ++ (β ++ [[]]).flatten = α ++ ([p] ++ β.flatten) := by simp
    rw [e]
    have q := List.nodup_append.mp nd
    refine List.nodup_append.mpr ⟨q.1, ?_, fun a ha b hb' => ?_⟩
    · rw [List.singleton_append]
      exact List.nodup_cons.mpr ⟨hpb, q.2.1⟩
    · rw [List.singleton_append] at hb'
      rcases List.mem_cons.mp hb' with z | z
      · rw [z]; exact fun w => hf (w ▸ ha)
      · exact q.2.2 a ha b z
  · have hm' : b ∈ β.flatten := by simpa using hm
    cases q : H b with
    | none => exact absurd q (hb b hm')
    | some u => rw [s b u q]; exact fun z => by cases z
  · by_cases hn : n < S.length
    · rw [List.getElem?_append_left hn] at e
      obtain ⟨a, b, e1, e2, m⟩ := ob n o e
      exact ⟨a, b, by rw [List.getElem?_append_left (by rw [h1]; exact hn)]; exact e1, by rw [List.getElem?_append_left (by rw [h2]; exact hn)]; exact e2, (m.same s).any⟩
    · rw [List.getElem?_append_right (Nat.le_of_not_lt hn)] at e
      have hz : n - S.length = 0 := by
        by_cases z : n - S.length = 0
        · exact z
        · rw [List.getElem?_eq_none (by simp; omega)] at e; cases e
      rw [hz] at e
      cases e
      have hn' : n = S.length := by omega
      subst hn'
      refine ⟨p, [], ?_, ?_, ⟨vs, upd_same, RDs.pure pu (r.mono0 (List.prefix_refl _) (Le.new hp))⟩, pu, rfl⟩
      · rw [← h1]; simp
      · rw [← h2]; simp
/-- where the n-th object is written (it was a list) -/
theorem RSt0.put (R : RSt0 K α S H) {n : Nat} {a : Addr} {ds0 : List PL.D} {o : PL.MO} {u : HO} (hn : S[n]? = some (.lst ds0)) (ha : α[n]? = some a)
    (mo : MOk K α (upd H a u) a [] o) : RSt0 K α (S.set n o) (upd H a u) := by
  obtain ⟨β, h1, h2, nd, hb, ob⟩ := R
  have hlt : n < S.length := (List.getElem?_eq_some_iff.mp hn).1
  have q := List.nodup_append.mp nd
  have other : ∀ {m : Nat} {c : Addr}, m ≠ n → α[m]? = some c → c ≠ a := fun {m c} hm e z => by
    subst z
    obtain ⟨l1, e1⟩ := List.getElem?_eq_some_iff.mp e
    obtain ⟨l2, e2⟩ := List.getElem?_eq_some_iff.mp ha
    exact hm ((List.getElem_inj q.1).mp (e1.trans e2.symm))
  have own : ∀ c ∈ β.flatten, c ≠ a := fun c hc z => q.2.2 a (List.mem_of_getElem? ha) c hc z.symm
  have lw : Le H (upd H a u) := by
    obtain ⟨a', b', ea, eb, m⟩ := ob n _ hn
    rw [ha] at ea; cases ea
    obtain ⟨⟨vs, e, _⟩, _⟩ := m
    exact Le.put e (fun z => z)
  refine ⟨β, by simpa using h1, by simpa using h2, nd, fun b hm => ?_, fun m v e => ?_⟩
  · rw [upd_ne (own b hm)]; exact hb b hm
  · by_cases hm : n = m
    · subst hm
      rw [List.getElem?_set_self hlt] at e
      cases e
      obtain ⟨a', b', ea, eb, m⟩ := ob n _ hn
      rw [ha] at ea; cases ea
      obtain ⟨_, _, rfl⟩ := m
      exact ⟨a, [], ha, eb, mo⟩
    · rw [List.getElem?_set_ne hm] at e
      obtain ⟨c, b, e1, e2, m1⟩ := ob m v e
      have hca := other (Ne.symm hm) e1
      refine ⟨c, b, e1, e2, ?_⟩
      cases v with
      | dead => obtain ⟨⟨o', u', z⟩, z2⟩ := m1; exact ⟨⟨o', u', by rw [upd_ne hca]; exact z⟩, z2⟩
      | lst ds => obtain ⟨⟨vs, z, r⟩, p⟩ := m1; exact ⟨⟨vs, by rw [upd_ne hca]; exact z, r.mono0 (List.prefix_refl _) lw⟩, p⟩
      | law cs k ls =>
        obtain ⟨c1, o1, l1, z1, z2, z3, z4⟩ := m1
        subst z4
        have hl1 : l1 ≠ a := own l1 (List.mem_flatten.mpr ⟨[l1], List.mem_of_getElem? e2, List.mem_cons_self⟩)
        exact ⟨c1, o1, l1, by rw [upd_ne hca]; exact z1, FzL.le lw z2, by rw [upd_ne hl1]; exact z3, rfl⟩
theorem flat_take {α : Type} (k : Nat) (β : List (List α)) : (β.take k).flatten.Sublist β.flatten := by
  have e : β.flatten = (β.take k).flatten ++ (β.drop k).flatten := by rw [← List.flatten_append, List.take_append_drop]
  rw [e]; exact List.sublist_append_left _ _
/-- the store's last objects are forgotten -/
theorem RSt0.take (R : RSt0 K α S H) (k : Nat) : RSt0 K (α.take k) (S.take k) H := by
  obtain ⟨β, h1, h2, nd, hb, ob⟩ := R
  refine ⟨β.take k, by simp [h1], by simp [h2], ?_, fun b hm => hb b ?_, fun n o e => ?_⟩
  · refine nd.sublist (List.Sublist.append (List.take_sublist _ _) ?_)
    exact flat_take k β
  · exact (flat_take k β).subset hm
  · by_cases hn : n < k
    · rw [List.getElem?_take_of_lt hn] at e
      obtain ⟨a, b, e1, e2, m⟩ := ob n o e
      exact ⟨a, b, by rw [List.getElem?_take_of_lt hn]; exact e1, by rw [List.getElem?_take_of_lt hn]; exact e2, m.any⟩
    · rw [List.getElem?_eq_none (by rw [List.length_take]; omega)] at e; cases e
theorem RSt0.ne (R : RSt0 K α S H) : ∀ d ∈ α, H d ≠ none := fun d hd h => R.fresh h hd
theorem RSt0.tr (R : RSt0 K α S H) {a : Addr} (h : Tr α H a) : H a ≠ none := by
  rcases h with h | ⟨d, hd, c, n, e⟩
  · exact R.ne a h
  · obtain ⟨β, h1, h2, nd, hb, ob⟩ := R
    obtain ⟨i, hi, ei⟩ := List.getElem_of_mem hd
    have hs : i < S.length := by rw [← h1]; exact hi
    obtain ⟨d', b, e1, e2, m⟩ := ob i S[i] (List.getElem?_eq_getElem hs)
    rw [List.getElem?_eq_getElem hi, ei] at e1
    cases e1
    cases q : S[i] with
    | dead => rw [q] at m; obtain ⟨⟨_, _, z⟩, _⟩ := m; rw [e] at z; cases z
    | lst ds => rw [q] at m; obtain ⟨⟨_, z, _⟩, _⟩ := m; rw [e] at z; cases z
    | law cs k ls =>
      rw [q] at m
      obtain ⟨c', o, l, z, _, z3, _⟩ := m
      rw [e] at z
      cases z
      rw [z3]
      exact fun z => by cases z
/-- an object that is not the store's is written -/
theorem RSt0.off (R : RSt0 K α S H) {D : Addr} {u0 u : HO} (hD : H D = some u0) (n0 : ¬ Perm u0) (n : ¬ Tr α H D) : RSt0 K α S (upd H D u) := by
  have lw : Le H (upd H D u) := Le.put hD n0
  obtain ⟨β, h1, h2, nd, hb, ob⟩ := R
  refine ⟨β, h1, h2, nd, fun b hm => ?_, fun i o e => ?_⟩
  · by_cases q : b = D
    · subst q; rw [upd_same]; exact fun z => by cases z
    · rw [upd_ne q]; exact hb b hm
  · obtain ⟨a, b, e1, e2, m⟩ := ob i o e
    have ha : a ≠ D := fun z => n (.inl (z ▸ List.mem_of_getElem? e1))
    refine ⟨a, b, e1, e2, ?_⟩
    cases o with
    | dead => obtain ⟨⟨o', u', z⟩, z2⟩ := m; exact ⟨⟨o', u', by rw [upd_ne ha]; exact z⟩, z2⟩
    | lst ds => obtain ⟨⟨vs, z, r⟩, p⟩ := m; exact ⟨⟨vs, by rw [upd_ne ha]; exact z, r.mono0 (List.prefix_refl _) lw⟩, p⟩
    | law cs k ls =>
      obtain ⟨c1, o1, l1, z1, z2, z3, z4⟩ := m
      have hl : l1 ≠ D := fun z => n (.inr ⟨a, List.mem_of_getElem? e1, _, _, by rw [← z]; exact z1⟩)
      exact ⟨c1, o1, l1, by rw [upd_ne ha]; exact z1, FzL.le lw z2, by rw [upd_ne hl]; exact z3, z4⟩
theorem RSt0.own (R : RSt0 K α S H) : ∃ β : List (List Addr), α.length = S.length ∧ β.length = S.length ∧ (α ++ β.flatten).Nodup ∧ (∀ b ∈ β.flatten, H b ≠ none) ∧ (∀ b ∈ β.flatten, Tr α H b) ∧
    ∀ (n : Nat) (o : PL.MO), S[n]? = some o → ∃ a b, α[n]? = some a ∧ β[n]? = some b ∧ MOk K α H a b o := by
  obtain ⟨β, h1, h2, nd, hb, ob⟩ := R
  refine ⟨β, h1, h2, nd, hb, fun b hm => ?_, ob⟩
  obtain ⟨bs, hbs, hbm⟩ := List.mem_flatten.mp hm
  obtain ⟨i, hi, ei⟩ := List.getElem_of_mem hbs
  have hs : i < S.length := by rw [← h2]; exact hi
  obtain ⟨a, b', e1, e2, m⟩ := ob i S[i] (List.getElem?_eq_getElem hs)
  rw [List.getElem?_eq_getElem hi, ei] at e2
  cases e2
  cases q : S[i] with
  | dead => rw [q] at m; obtain ⟨_, rfl⟩ := m; cases hbm
  | lst ds => rw [q] at m; obtain ⟨_, _, rfl⟩ := m; cases hbm
  | law cs k ls =>
    rw [q] at m
    obtain ⟨c', o, l, z, _, _, rfl⟩ := m
    rw [List.mem_singleton.mp hbm]
    exact .inr ⟨a, List.mem_of_getElem? e1, _, _, z⟩
/-- a list that is there becomes one of the store -/
theorem RSt0.pushAt (R : RSt0 K α S H) {p : Addr} {vs : List V} {ds : List PL.D} (hp : H p = some (.lst vs)) (n : ¬ Tr α H p) (r : RDs K α H ds vs) (pu : PL.D.pures ds = true) : RSt0 K (α ++ [p]) (S ++ [.lst ds]) H := by
  have hf : p ∉ α := fun z => n (.inl z)
  obtain ⟨β, h1, h2, nd, hb, ht, ob⟩ := R.own
  have hpb : p ∉ β.flatten := fun hm => n (ht p hm)
  refine ⟨β ++ [[]], by simp [h1], by simp [h2], ?_, fun b hm => ?_, fun n o e => ?_⟩
  · have e : α ++ [p] ++ (β ++ [[]]).flatten = α ++ ([p] ++ β.flatten) := by simp
    rw [e]
    have q := List.nodup_append.mp nd
    refine List.nodup_append.mpr ⟨q.1, ?_, fun a ha b hb' => ?_⟩
    · rw [List.singleton_append]
      exact List.nodup_cons.mpr ⟨hpb, q.2.1⟩
    · rw [List.singleton_append] at hb'
      rcases List.mem_cons.mp hb' with z | z
      · rw [z]; exact fun w => hf (w ▸ ha)
      · exact q.2.2 a ha b z
  · exact hb b (by simpa using hm)
  · by_cases hn : n < S.length
    · rw [List.getElem?_append_left hn] at e
      obtain ⟨a, b, e1, e2, m⟩ := ob n o e
      exact ⟨a, b, by rw [List.getElem?_append_left (by rw [h1]; exact hn)]; exact e1, by rw [List.getElem?_append_left (by rw [h2]; exact hn)]; exact e2, m.any⟩
    · rw [List.getElem?_append_right (Nat.le_of_not_lt hn)] at e
      have hz : n - S.length = 0 := by
        by_cases z : n - S.length = 0
        · exact z
        · rw [List.getElem?_eq_none (by simp; omega)] at e; cases e
      rw [hz] at e
      cases e
      have hn' : n = S.length := by omega
      subst hn'
      refine ⟨p, [], ?_, ?_, ⟨vs, hp, RDs.pure pu r⟩, pu, rfl⟩
      · rw [← h1]; simp
      · rw [← h2]; simp
/-- the draws' state goes into the store -/
theorem RSt0.pushLaw (R : RSt0 K α S H) {d l c : Addr} {o : Obj} {cells left : List Int} {n : Nat} (hd : H d = some (.dK [(.inr "cells", .ref c), (.inr "at", .int n), (.inr "left", .ref l)])) (hc : FzL K H c o (cells.map V.int)) (hl : H l = some (.lst (left.map V.int)))
    (nd : ¬ Tr α H d) (nl : ¬ Tr α H l) : RSt0 K (α ++ [d]) (S ++ [.law cells n left]) H := by
  obtain ⟨β, h1, h2, nod, hb, ht, ob⟩ := R.own
  have dl : d ≠ l := fun z => by rw [z, hl] at hd; cases hd
  refine ⟨β ++ [[l]], by simp [h1], by simp [h2], ?_, fun b hm => ?_, fun i o' e => ?_⟩
  · have e : α ++ [d] ++ (β ++ [[l]]).flatten = α ++ ([d] ++ (β.flatten ++ [l])) := by simp
    rw [e]
    have q := List.nodup_append.mp nod
    refine List.nodup_append.mpr ⟨q.1, ?_, fun a ha b hb' => ?_⟩
    · rw [List.singleton_append]
      refine List.nodup_cons.mpr ⟨fun z => ?_, List.nodup_append.mpr ⟨q.2.1, by simp, fun a ha b hb' => ?_⟩⟩
      · rcases List.mem_append.mp z with z | z
        · exact nd (ht d z)
        · exact dl (List.mem_singleton.mp z)
      · rw [List.mem_singleton.mp hb']
        exact fun z => nl (ht l (z ▸ ha))
    · rw [List.singleton_append] at hb'
      rcases List.mem_cons.mp hb' with z | z
      · rw [z]; exact fun w => nd (.inl (w ▸ ha))
      · rcases List.mem_append.mp z with z | z
        · exact q.2.2 a ha b z
        · rw [List.mem_singleton.mp z]; exact fun w => nl (.inl (w ▸ ha))
  · rw [List.flatten_append] at hm
    rcases List.mem_append.mp hm with z | z
    · exact hb b z
    · have : b = l := by simpa using z
      rw [this, hl]; exact fun z => by cases z
  · by_cases hn : i < S.length
    · rw [List.getElem?_append_left hn] at e
      obtain ⟨a, b, e1, e2, m⟩ := ob i o' e
      exact ⟨a, b, by rw [List.getElem?_append_left (by rw [h1]; exact hn)]; exact e1, by rw [List.getElem?_append_left (by rw [h2]; exact hn)]; exact e2, m.any⟩
    · rw [List.getElem?_append_right (Nat.le_of_not_lt hn)] at e
      have hz : i - S.length = 0 := by
        by_cases z : i - S.length = 0
        · exact z
        · rw [List.getElem?_eq_none (by simp; omega)] at e; cases e
      rw [hz] at e
      cases e
      have hn' : i = S.length := by omega
      subst hn'
      refine ⟨d, [l], ?_, ?_, c, o, l, hd, hc, hl, rfl⟩
      · rw [← h1]; simp
      · rw [← h2]; simp
/-- the draws' state at α's n-th place -/
theorem RSt0.law (R : RSt0 K α S H) {n : Nat} {cells left : List Int} {k : Nat} (h : S[n]? = some (.law cells k left)) : ∃ d c o l, α[n]? = some d ∧ H d = some (.dK [(.inr "cells", .ref c), (.inr "at", .int k), (.inr "left", .ref l)]) ∧
    FzL K H c o (cells.map V.int) ∧ H l = some (.lst (left.map V.int)) ∧ d ∈ α ∧ Tr α H l := by
  obtain ⟨β, h1, h2, nd, hb, ob⟩ := R
  obtain ⟨d, b, e1, e2, c, o, l, z1, z2, z3, rfl⟩ := ob n _ h
  exact ⟨d, c, o, l, e1, z1, z2, z3, List.mem_of_getElem? e1, .inr ⟨d, List.mem_of_getElem? e1, _, _, z1⟩⟩
/-- the draws' state is written: its dict at d to another, its own list (the same one, or a new one) -/
theorem RSt0.putLaw (R : RSt0 K α S H) {n : Nat} {cells left left' : List Int} {k k' : Nat} {d c l l' : Addr} {o : Obj} {H' : Hp} (h : S[n]? = some (.law cells k left)) (ha : α[n]? = some d) (hd : H d = some (.dK [(.inr "cells", .ref c), (.inr "at", .int k), (.inr "left", .ref l)]))
    (hc : FzL K H c o (cells.map V.int)) (hl0 : H l = some (.lst (left.map V.int))) (hl' : l' = l ∨ H l' = none)
    (hd' : H' d = some (.dK [(.inr "cells", .ref c), (.inr "at", .int k'), (.inr "left", .ref l')]))  (hl1 : H' l' = some (.lst (left'.map V.int)))
    (keep : ∀ a u, a ≠ d → a ≠ l → H a = some u → H' a = some u) (kl : H' l ≠ none) : RSt0 K α (S.set n (.law cells k' left')) H' ∧ Ext α H α H' := by
  have hdl : d ≠ l := fun z => by rw [z, hl0] at hd; cases hd
  have lw : Le H H' := fun a u e p => by
    by_cases q : a = d
    · subst q; rw [hd] at e; cases e; exact p.elim
    · by_cases q2 : a = l
      · subst q2; rw [hl0] at e; cases e; exact p.elim
      · exact keep a u q q2 e
  have some' : ∀ a, H a ≠ none → H' a ≠ none := fun a e => by
    by_cases q : a = d
    · subst q; rw [hd']; exact fun z => by cases z
    · by_cases q2 : a = l
      · subst q2; exact kl
      · cases e2 : H a with
        | none => exact absurd e2 e
        | some u => rw [keep a u q q2 e2]; exact fun z => by cases z
  have Trl : Tr α H l := .inr ⟨d, List.mem_of_getElem? ha, _, _, hd⟩
  have R0 := R
  obtain ⟨β, h1, h2, nd, hb, ht, ob⟩ := R.own
  have hlt : n < S.length := (List.getElem?_eq_some_iff.mp h).1
  have q := List.nodup_append.mp nd
  have hβ : β[n]? = some [l] := by
    obtain ⟨d0, b, e1, e2, c1, o1, l1, z1, z2, z3, rfl⟩ := ob n _ h
    rw [ha] at e1; cases e1
    rw [hd] at z1
    cases z1
    exact e2
  have hnβ : n < β.length := by rw [h2]; exact hlt
  have own : ∀ c ∈ β.flatten, c ≠ d := fun c hc z => q.2.2 d (List.mem_of_getElem? ha) c hc z.symm
  have other : ∀ {m : Nat} {c : Addr}, m ≠ n → α[m]? = some c → c ≠ d := fun {m c} hm e z => by
    subst z
    obtain ⟨l1, e1⟩ := List.getElem?_eq_some_iff.mp e
    obtain ⟨l2, e2⟩ := List.getElem?_eq_some_iff.mp ha
    exact hm ((List.getElem_inj q.1).mp (e1.trans e2.symm))
  -- the owned lists by their places
  have split : β = β.take n ++ [l] :: β.drop (n + 1) := by
    obtain ⟨w, e⟩ := List.getElem?_eq_some_iff.mp hβ
    have := List.take_append_drop n β
    rw [List.drop_eq_getElem_cons hnβ, e] at this
    exact this.symm
  have fl : β.flatten = (β.take n).flatten ++ (l :: (β.drop (n + 1)).flatten) := by
    conv => lhs; rw [split]
    simp
  have nd2 : ∀ x, x ∈ (β.take n).flatten ∨ x ∈ (β.drop (n + 1)).flatten → x ≠ l ∧ x ∈ β.flatten := fun x hx => by
    have q2 := q.2.1
    rw [fl] at q2
    have q3 := List.nodup_append.mp q2
    refine ⟨fun z => ?_, by rw [fl]; rcases hx with hx | hx <;> simp [hx]⟩
    subst z
    rcases hx with hx | hx
    · exact q3.2.2 _ hx _ List.mem_cons_self rfl
    · exact (List.nodup_cons.mp q3.2.1).1 hx
  have l'new : ∀ x, (x ∈ α ∨ (x ∈ β.flatten ∧ x ≠ l)) → x ≠ l' := fun x hx z => by
    rcases hl' with e | e
    · rw [e] at z
      rcases hx with hx | hx
      · exact q.2.2 x hx l (by rw [fl]; simp) z
      · exact hx.2 z
    · rcases hx with hx | hx
      · exact R0.ne x hx (z ▸ e)
      · exact hb x hx.1 (z ▸ e)
  refine ⟨⟨β.set n [l'], by simpa using h1, by simpa using h2, ?_, fun b hm => ?_, fun m v e => ?_⟩, ⟨List.prefix_refl _, lw, fun a h' => ?_, fun a u e nt _ => keep a u (fun z => nt (.inl (z ▸ List.mem_of_getElem? ha))) (fun z => nt (z ▸ Trl)) e, some'⟩⟩
  · have e : (β.set n [l']).flatten = (β.take n).flatten ++ (l' :: (β.drop (n + 1)).flatten) := by
      rw [List.set_eq_take_append_cons_drop, if_pos hnβ]; simp
    rw [e]
    have q2 := q.2.1
    rw [fl] at q2
    have q3 := List.nodup_append.mp q2
    have q4 := List.nodup_cons.mp q3.2.1
    refine List.nodup_append.mpr ⟨q.1, List.nodup_append.mpr ⟨q3.1, List.nodup_cons.mpr ⟨fun z => ?_, q4.2⟩, fun a ha' b hb' => ?_⟩, fun a ha' b hb' => ?_⟩
    · exact l'new l' (.inr ⟨(nd2 l' (.inr z)).2, (nd2 l' (.inr z)).1⟩) rfl
    · rcases List.mem_cons.mp hb' with z | z
      · rw [z]; exact l'new a (.inr ⟨(nd2 a (.inl ha')).2, (nd2 a (.inl ha')).1⟩)
      · exact q3.2.2 a ha' b (List.mem_cons_of_mem _ z)
    · rcases List.mem_append.mp hb' with z | z
      · exact q.2.2 a ha' b (nd2 b (.inl z)).2
      · rcases List.mem_cons.mp z with z | z
        · rw [z]; exact l'new a (.inl ha')
        · exact q.2.2 a ha' b (nd2 b (.inr z)).2
  · have hm' : b = l' ∨ b ∈ β.flatten := by
      rw [List.set_eq_take_append_cons_drop, if_pos hnβ] at hm
      have : b ∈ (β.take n).flatten ∨ b = l' ∨ b ∈ (β.drop (n + 1)).flatten := by simpa using hm
      rcases this with z | z | z
      · exact .inr (nd2 b (.inl z)).2
      · exact .inl z
      · exact .inr (nd2 b (.inr z)).2
    rcases hm' with z | z
    · rw [z, hl1]; exact fun z => by cases z
    · exact some' b (hb b z)
  · by_cases hm : n = m
    · subst hm
      rw [List.getElem?_set_self hlt] at e
      cases e
      exact ⟨d, [l'], ha, List.getElem?_set_self hnβ, c, o, l', hd', FzL.le lw hc, hl1, rfl⟩
    · rw [List.getElem?_set_ne hm] at e
      obtain ⟨a, b, e1, e2, m1⟩ := ob m v e
      have had := other (Ne.symm hm) e1
      have hal : a ≠ l := fun z => q.2.2 a (List.mem_of_getElem? e1) l (by rw [fl]; simp) z
      refine ⟨a, b, e1, by rw [List.getElem?_set_ne hm]; exact e2, ?_⟩
      cases v with
      | dead => obtain ⟨⟨o', u', z⟩, z2⟩ := m1; exact ⟨⟨o', u', keep _ _ had hal z⟩, z2⟩
      | lst ds => obtain ⟨⟨vs, z, r⟩, p⟩ := m1; exact ⟨⟨vs, keep _ _ had hal z, r.mono0 (List.prefix_refl _) lw⟩, p⟩
      | law cs k ls =>
        obtain ⟨c1, o1, l1, z1, z2, z3, z4⟩ := m1
        subst z4
        have e3 : l1 ∈ β.flatten := List.mem_flatten.mpr ⟨[l1], List.mem_of_getElem? e2, List.mem_cons_self⟩
        have hl1l : l1 ≠ l := fun z => by
          subst z
          have w : l1 ∈ (β.take n).flatten ∨ l1 ∈ (β.drop (n + 1)).flatten := by
            by_cases hmn : m < n
            · exact .inl (List.mem_flatten.mpr ⟨[l1], List.mem_of_getElem? (i := m) (by rw [List.getElem?_take_of_lt hmn]; exact e2), List.mem_cons_self⟩)
            · refine .inr (List.mem_flatten.mpr ⟨[l1], List.mem_of_getElem? (i := m - (n + 1)) ?_, List.mem_cons_self⟩)
              rw [List.getElem?_drop, show n + 1 + (m - (n + 1)) = m by omega]
              exact e2
          exact (nd2 l1 w).1 rfl
        exact ⟨c1, o1, l1, keep _ _ had hal z1, FzL.le lw z2, keep _ _ (own l1 e3) hl1l z3, rfl⟩
  · rcases h' with h' | ⟨d1, hd1, c1, n1, e⟩
    · exact .inl (.inl h')
    · by_cases q1 : d1 = d
      · subst q1
        rw [hd'] at e
        cases e
        rcases hl' with z | z
        · rw [z]; exact .inl Trl
        · exact .inr z
      · by_cases q2 : d1 = l
        · subst q2
          exact absurd (q.2.2 d1 hd1 d1 (by rw [fl]; simp)) (fun z => z rfl)
        · cases e2 : H d1 with
          | none => exact absurd e2 (R0.ne d1 hd1)
          | some u =>
            have := keep d1 u q1 q2 e2
            rw [e] at this
            cases this
            exact .inl (.inr ⟨d1, hd1, _, _, e2⟩)
/-- an object of the store is none of those ahead of it -/
theorem RSt0.notTr (R : RSt0 K α S H) {n : Nat} {a : Addr} (h : α[n]? = some a) : ¬ Tr (α.take n) H a := by
  obtain ⟨β, h1, h2, nd, hb, ht, ob⟩ := R.own
  have q := List.nodup_append.mp nd
  rintro (z | ⟨d, hd, c, k, e⟩)
  · obtain ⟨i, hi, ei⟩ := List.getElem_of_mem z
    have hi' : i < n := by rw [List.length_take] at hi; omega
    have e1 : α[i]? = some a := by
      rw [← List.getElem?_take_of_lt hi', List.getElem?_eq_getElem hi, ei]
    obtain ⟨l1, e2⟩ := List.getElem?_eq_some_iff.mp e1
    obtain ⟨l2, e3⟩ := List.getElem?_eq_some_iff.mp h
    have := (List.getElem_inj q.1).mp (e2.trans e3.symm)
    omega
  · have hd' : d ∈ α := List.mem_of_mem_take hd
    obtain ⟨i, hi, ei⟩ := List.getElem_of_mem hd'
    have hs : i < S.length := by rw [← h1]; exact hi
    obtain ⟨d', b, e1, e2, m⟩ := ob i S[i] (List.getElem?_eq_getElem hs)
    rw [List.getElem?_eq_getElem hi, ei] at e1
    cases e1
    cases q' : S[i] with
    | dead => rw [q'] at m; obtain ⟨⟨_, _, z⟩, _⟩ := m; rw [e] at z; cases z
    | lst ds => rw [q'] at m; obtain ⟨⟨_, z, _⟩, _⟩ := m; rw [e] at z; cases z
    | law cs k ls =>
      rw [q'] at m
      obtain ⟨c', o, l, z, _, _, rfl⟩ := m
      rw [e] at z
      cases z
      exact q.2.2 a (List.mem_of_getElem? h) a (List.mem_flatten.mpr ⟨[a], List.mem_of_getElem? e2, List.mem_cons_self⟩) rfl
theorem RSt0.lenα (R : RSt0 K α S H) : α.length = S.length := R.choose_spec.1
end
/-- the tables of code objects that lambdas write, and what holds all along -/
class Tbs where
  T : List (Addr × Str)
  amb : List Addr → Hp → Prop
  st : ∀ α H α' H', α <+: α' → Le H H' → amb α H → amb α' H'
variable [Tbs]
theorem tabs_of {H H' : Hp} (l : Le H H') (h : ∀ b ps, H b = some (.tbl ps) → H' b = some (.tbl ps)) (t : LamX.Tabs Tbs.T H) : LamX.Tabs Tbs.T H' := fun p hp => by
  obtain ⟨ps, h1, h2, h3⟩ := t p hp
  refine ⟨ps, h _ _ h1, h2, fun pos cv hc => ?_⟩
  obtain ⟨c, e1, e2⟩ := h3 pos cv hc
  exact ⟨c, e1, l _ _ e2 (by unfold LamX.CodeO; exact trivial)⟩
/-- the store -/
structure RSt (K : PySem.W.Frag) (α : List Addr) (S : PL.Sto) (H : Hp) : Prop where
  b : RSt0 K α S H
  t : LamX.Tabs Tbs.T H
  m : Tbs.amb α H
structure Rel (K : PySem.W.Frag) (α : List Addr) (δ : PL.Env) (S : PL.Sto) (σ : L2.St) (H : Hp) : Prop where
  st : RSt K α S H
  len : δ.length = σ.length
  loc : ∀ (i : Nat) (d : PL.D), δ[i]? = some (some d) → ∃ v, σ[i]? = some (some v) ∧ RD K α H d v
section
variable {K : PySem.W.Frag} {α α' : List Addr} {δ : PL.Env} {S S' : PL.Sto} {σ : L2.St} {H H' : Hp}
theorem Rel.mono (R : Rel K α δ S σ H) (x : Ext α H α' H') (h : RSt K α' S' H') : Rel K α' δ S' σ H' :=
  ⟨h, R.len, fun i d e => let ⟨v, e1, q⟩ := R.loc i d e; ⟨v, e1, q.mono x⟩⟩
theorem Rel.set (R : Rel K α δ S σ H) {d : PL.D} {v : V} (q : RD K α H d v) (i : Nat) : Rel K α (δ.set i (some d)) S (σ.set i (some v)) H := by
  refine ⟨R.st, by simpa using R.len, fun j e h => ?_⟩
  by_cases hj : i = j
  · subst hj
    by_cases hi : i < δ.length
    · rw [List.getElem?_set_self hi] at h
      cases h
      exact ⟨v, List.getElem?_set_self (by rw [← R.len]; exact hi), q⟩
    · rw [List.getElem?_eq_none (by simpa using hi)] at h; cases h
  · rw [List.getElem?_set_ne hj] at h
    obtain ⟨w, e1, q1⟩ := R.loc j e h
    exact ⟨w, by rw [List.getElem?_set_ne hj]; exact e1, q1⟩
end
section
variable {K : PySem.W.Frag} {α : List Addr} {S : PL.Sto} {H H' : Hp}
theorem RSt.fresh (R : RSt K α S H) {p : Addr} (hp : H p = none) : p ∉ α := R.b.fresh hp
theorem RSt.lt (R : RSt K α S H) {n : Nat} {o : PL.MO} (e : S[n]? = some o) : n < α.length := R.b.lt e
theorem RSt.same (R : RSt K α S H) (s : ∀ c u, H c = some u → H' c = some u) : RSt K α S H' :=
  ⟨R.b.same s, tabs_of (fun c u e _ => s c u e) (fun _ _ e => s _ _ e) R.t, Tbs.st _ _ _ _ (List.prefix_refl _) (fun c u e _ => s c u e) R.m⟩
theorem RSt.new (R : RSt K α S H) {p : Addr} {o : HO} (hp : H p = none) : RSt K α S (upd H p o) := R.same fun c u e => by rw [upd_ne (ne_of_none e hp)]; exact e
theorem RSt.push (R : RSt K α S H) {p : Addr} {vs : List V} {ds : List PL.D} (hp : H p = none) (r : RDs K α H ds vs) (pu : PL.D.pures ds = true) : RSt K (α ++ [p]) (S ++ [.lst ds]) (upd H p (.lst vs)) :=
  ⟨R.b.push hp r pu, tabs_of (Le.new hp) (fun b ps e => by rw [upd_ne (ne_of_none e hp)]; exact e) R.t, Tbs.st _ _ _ _ (List.prefix_append _ _) (Le.new hp) R.m⟩
theorem RSt.put (R : RSt K α S H) {n : Nat} {a : Addr} {ds0 : List PL.D} {o : PL.MO} {u : HO} (hn : S[n]? = some (.lst ds0)) (ha : α[n]? = some a)
    (mo : MOk K α (upd H a u) a [] o) : RSt K α (S.set n o) (upd H a u) := by
  have h : ∃ vs, H a = some (.lst vs) := by
    obtain ⟨β, h1, h2, nd, hb, ob⟩ := R.b
    obtain ⟨a', b', ea, eb, m⟩ := ob n _ hn
    rw [ha] at ea; cases ea
    obtain ⟨⟨vs, e, _⟩, _⟩ := m
    exact ⟨vs, e⟩
  obtain ⟨vs, e⟩ := h
  have lw : Le H (upd H a u) := Le.put e (fun z => z)
  exact ⟨R.b.put hn ha mo, tabs_of lw (fun b ps eb => by rw [upd_ne (fun z => by rw [z, e] at eb; cases eb)]; exact eb) R.t, Tbs.st _ _ _ _ (List.prefix_refl _) lw R.m⟩
theorem RSt.take (R : RSt K α S H) (k : Nat) (m : Tbs.amb (α.take k) H) : RSt K (α.take k) (S.take k) H := ⟨R.b.take k, R.t, m⟩
theorem RSt.ne (R : RSt K α S H) : ∀ d ∈ α, H d ≠ none := R.b.ne
theorem RSt.tr (R : RSt K α S H) {a : Addr} (h : Tr α H a) : H a ≠ none := R.b.tr h
theorem RSt.off (R : RSt K α S H) {D : Addr} {u0 u : HO} (hD : H D = some u0) (n0 : ¬ Perm u0) (nt : ∀ ps, u0 ≠ .tbl ps) (n : ¬ Tr α H D) : RSt K α S (upd H D u) :=
  ⟨R.b.off hD n0 n, tabs_of (Le.put hD n0) (fun b ps eb => by rw [upd_ne (fun z => by rw [z, hD] at eb; cases eb; exact nt ps rfl)]; exact eb) R.t, Tbs.st _ _ _ _ (List.prefix_refl _) (Le.put hD n0) R.m⟩
theorem RSt.own (R : RSt K α S H) : ∃ β : List (List Addr), α.length = S.length ∧ β.length = S.length ∧ (α ++ β.flatten).Nodup ∧ (∀ b ∈ β.flatten, H b ≠ none) ∧ (∀ b ∈ β.flatten, Tr α H b) ∧
    ∀ (n : Nat) (o : PL.MO), S[n]? = some o → ∃ a b, α[n]? = some a ∧ β[n]? = some b ∧ MOk K α H a b o := R.b.own
theorem RSt.pushAt (R : RSt K α S H) {p : Addr} {vs : List V} {ds : List PL.D} (hp : H p = some (.lst vs)) (n : ¬ Tr α H p) (r : RDs K α H ds vs) (pu : PL.D.pures ds = true) : RSt K (α ++ [p]) (S ++ [.lst ds]) H :=
  ⟨R.b.pushAt hp n r pu, R.t, Tbs.st _ _ _ _ (List.prefix_append _ _) (Le.refl _) R.m⟩
theorem RSt.pushLaw (R : RSt K α S H) {d l c : Addr} {o : Obj} {cells left : List Int} {n : Nat} (hd : H d = some (.dK [(.inr "cells", .ref c), (.inr "at", .int n), (.inr "left", .ref l)])) (hc : FzL K H c o (cells.map V.int)) (hl : H l = some (.lst (left.map V.int)))
    (nd : ¬ Tr α H d) (nl : ¬ Tr α H l) : RSt K (α ++ [d]) (S ++ [.law cells n left]) H :=
  ⟨R.b.pushLaw hd hc hl nd nl, R.t, Tbs.st _ _ _ _ (List.prefix_append _ _) (Le.refl _) R.m⟩
theorem RSt.law (R : RSt K α S H) {n : Nat} {cells left : List Int} {k : Nat} (h : S[n]? = some (.law cells k left)) : ∃ d c o l, α[n]? = some d ∧ H d = some (.dK [(.inr "cells", .ref c), (.inr "at", .int k), (.inr "left", .ref l)]) ∧
    FzL K H c o (cells.map V.int) ∧ H l = some (.lst (left.map V.int)) ∧ d ∈ α ∧ Tr α H l := R.b.law h
theorem RSt.putLaw (R : RSt K α S H) {n : Nat} {cells left left' : List Int} {k k' : Nat} {d c l l' : Addr} {o : Obj} {H' : Hp} (h : S[n]? = some (.law cells k left)) (ha : α[n]? = some d) (hd : H d = some (.dK [(.inr "cells", .ref c), (.inr "at", .int k), (.inr "left", .ref l)]))
    (hc : FzL K H c o (cells.map V.int)) (hl0 : H l = some (.lst (left.map V.int))) (hl' : l' = l ∨ H l' = none)
    (hd' : H' d = some (.dK [(.inr "cells", .ref c), (.inr "at", .int k'), (.inr "left", .ref l')]))  (hl1 : H' l' = some (.lst (left'.map V.int)))
    (keep : ∀ a u, a ≠ d → a ≠ l → H a = some u → H' a = some u) (kl : H' l ≠ none) : RSt K α (S.set n (.law cells k' left')) H' ∧ Ext α H α H' := by
  have z := R.b.putLaw h ha hd hc hl0 hl' hd' hl1 keep kl
  exact ⟨⟨z.1, tabs_of z.2.2.1 (fun b ps e => keep b _ (fun q => by rw [q, hd] at e; cases e) (fun q => by rw [q, hl0] at e; cases e) e) R.t, Tbs.st _ _ _ _ z.2.1 z.2.2.1 R.m⟩, z.2⟩
theorem RSt.notTr (R : RSt K α S H) {n : Nat} {a : Addr} (h : α[n]? = some a) : ¬ Tr (α.take n) H a := R.b.notTr h
theorem RSt.lenα (R : RSt K α S H) : α.length = S.length := R.b.lenα
end
end BR

set_option Elab.async false
set_option linter.all false
set_option maxRecDepth 100000
set_option maxHeartbeats 2000000
/-! ## judgements -/
namespace BR
open PySem PySem.Spec PyProof.Rows L2
variable [Tbs]

/-- the exceptions' classes (by their numbers): where they stand, their field's name -/
structure EX where
  ec : Nat → Addr
  ef : Nat → Str
def RX (G : EX) (K : PySem.W.Frag) (α : List Addr) (H : Hp) (cls : Value) (dd : Option Addr) (x : PL.Exn) : Prop :=
  cls = .ref (G.ec x.cls) ∧ ∃ d v, dd = some d ∧ H d = some (.xd [(G.ef x.cls, v)]) ∧ RD K α H x.val v
/-- an exception of the mirror is one that the context takes -/
def WE (G : EX) (X : Cx) (α : List Addr) (σ : L2.St) (H : Hp) (x : PL.Exn) (S : PL.Sto) : WX :=
  fun cls dd σ' H' => σ' = σ ∧ ∃ α', Ext α H α' H' ∧ RSt X.K α' S H' ∧ RX G X.K α' H' cls dd x
def TkE (G : EX) (X : Cx) (α : List Addr) (σ : L2.St) (H : Hp) : PL.RE → Prop
  | .ok _ _ => True
  | .ex x S => Takes X (WE G X α σ H x S)
def TkA (G : EX) (X : Cx) (α : List Addr) (σ : L2.St) (H : Hp) : PL.RA → Prop
  | .ok _ _ => True
  | .ex x S => Takes X (WE G X α σ H x S)
def TkT (G : EX) (X : Cx) (α : List Addr) (σ : L2.St) (H : Hp) : PL.RT → Prop
  | .ok _ _ => True
  | .ex x S => Takes X (WE G X α σ H x S)
def WS (G : EX) (X : Cx) (α : List Addr) (H : Hp) (x : PL.Exn) (δ : PL.Env) (S : PL.Sto) : WX :=
  fun cls dd σ' H' => ∃ α', Ext α H α' H' ∧ Rel X.K α' δ S σ' H' ∧ RX G X.K α' H' cls dd x
def TkS (G : EX) (X : Cx) (α : List Addr) (H : Hp) : PL.RS → Prop
  | .ex x δ S => Takes X (WS G X α H x δ S)
  | _ => True

def PoE (X : Cx) (pins : List (Addr × Obj)) (α : List Addr) (δ : PL.Env) (σ : L2.St) (H : Hp) (r : PL.RE) (u : Value) (s' : Shared) : Prop := match r with
  | .ok d S' => ∃ α' v H', Inv X pins σ H' s' ∧ RelV v u ∧ Ext α H α' H' ∧ Rel X.K α' δ S' σ H' ∧ RD X.K α' H' d v
  | .ex _ _ => False
def PoA (X : Cx) (pins : List (Addr × Obj)) (α : List Addr) (δ : PL.Env) (σ : L2.St) (H : Hp) (r : PL.RA) (us : List Value) (s' : Shared) : Prop := match r with
  | .ok ds S' => ∃ α' vs H', Inv X pins σ H' s' ∧ Vals vs us ∧ Ext α H α' H' ∧ Rel X.K α' δ S' σ H' ∧ RDs X.K α' H' ds vs
  | .ex _ _ => False
def PoT (X : Cx) (pins : List (Addr × Obj)) (α : List Addr) (δ : PL.Env) (σ : L2.St) (H : Hp) (r : PL.RT) (b : Bool) (s' : Shared) : Prop := match r with
  | .ok c S' => c = b ∧ ∃ α' H', Inv X pins σ H' s' ∧ Ext α H α' H' ∧ Rel X.K α' δ S' σ H'
  | .ex _ _ => False
def PoS (X : Cx) (pins : List (Addr × Obj)) (α : List Addr) (H : Hp) (r : PL.RS) (f : Flow) (s' : Shared) : Prop := match r with
  | .nx δ' S' => f = .next ∧ ∃ α' σ' H', Inv X pins σ' H' s' ∧ Ext α H α' H' ∧ Rel X.K α' δ' S' σ' H'
  | .bk δ' S' => f = .brk ∧ ∃ α' σ' H', Inv X pins σ' H' s' ∧ Ext α H α' H' ∧ Rel X.K α' δ' S' σ' H'
  | .ct δ' S' => f = .cont ∧ ∃ α' σ' H', Inv X pins σ' H' s' ∧ Ext α H α' H' ∧ Rel X.K α' δ' S' σ' H'
  | .rt d S' => ∃ u, f = .ret u ∧ ∃ α' σ' H' v, Inv X pins σ' H' s' ∧ RelV v u ∧ Ext α H α' H' ∧ RSt X.K α' S' H' ∧ RD X.K α' H' d v
  | .ex _ _ _ => False

/-- an expression, an argument list, a test, a statement, a block: what the mirror gives is what the program does -/
structure CE (G : EX) (X : Cx) (e : Expr) (m : PL.ME) : Prop where
  run : ∀ δ S r, m δ S = some r → ∀ α pins s σ H, Inv X pins σ H s → Rel X.K α δ S σ H → TkE G X α σ H r →
    wpAny (model X.prog X.w) X.A (eval e X.env) (PoE X pins α δ σ H r) X.xe s
structure CA (G : EX) (X : Cx) (es : List Expr) (m : PL.MA) : Prop where
  run : ∀ (pos : Pos) δ S r, m δ S = some r → ∀ α pins s σ H, Inv X pins σ H s → Rel X.K α δ S σ H → TkA G X α σ H r →
    wpAny (model X.prog X.w) X.A (spliced (backTo pos (starEach es X.env))) (PoA X pins α δ σ H r) X.xe s
structure CT (G : EX) (X : Cx) (e : Expr) (m : PL.MT) : Prop where
  run : ∀ δ S r, m δ S = some r → ∀ α pins s σ H, Inv X pins σ H s → Rel X.K α δ S σ H → TkT G X α σ H r →
    wpAny (model X.prog X.w) X.A (isTrue e X.env (eval e X.env)) (PoT X pins α δ σ H r) X.xe s
/-- a test whatever its 'whole' is (and, or) -/
structure CW (G : EX) (X : Cx) (e : Expr) (m : PL.MT) : Prop where
  run : ∀ (whole : Sem Value) δ S r, m δ S = some r → ∀ α pins s σ H, Inv X pins σ H s → Rel X.K α δ S σ H → TkT G X α σ H r →
    wpAny (model X.prog X.w) X.A (isTrue e X.env whole) (PoT X pins α δ σ H r) X.xe s
structure CS (G : EX) (X : Cx) (st : Stmt) (m : PL.MS) : Prop where
  run : ∀ δ S r, m δ S = some r → ∀ α pins s σ H, Inv X pins σ H s → Rel X.K α δ S σ H → TkS G X α H r →
    wpAny (model X.prog X.w) X.A (exec st X.env) (PoS X pins α H r) X.xe s
structure CSs (G : EX) (X : Cx) (st : List Stmt) (m : PL.MS) : Prop where
  run : ∀ δ S r, m δ S = some r → ∀ α pins s σ H, Inv X pins σ H s → Rel X.K α δ S σ H → TkS G X α H r →
    wpAny (model X.prog X.w) X.A (execs st X.env) (PoS X pins α H r) X.xe s

section
variable {G : EX} {X : Cx} {α α' : List Addr} {δ : PL.Env} {S : PL.Sto} {σ : L2.St} {H H' : Hp} {pins : List (Addr × Obj)} {s : Shared}
theorem WE.ext {x : PL.Exn} {cls : Value} {d : Option Addr} {σ' : L2.St} {H1 : Hp} (e : Ext α H α' H') (w : WE G X α' σ H' x S cls d σ' H1) : WE G X α σ H x S cls d σ' H1 := by
  obtain ⟨e1, a, e2, r⟩ := w
  exact ⟨e1, a, e.trans e2, r⟩
theorem TkE.ext {r : PL.RE} (t : TkE G X α σ H r) (e : Ext α H α' H') : TkE G X α' σ H' r := by
  cases r with
  | ok d S => trivial
  | ex x S => exact Takes.imp t fun c d σ' H1 w => WE.ext e w
theorem TkA.ext {r : PL.RA} (t : TkA G X α σ H r) (e : Ext α H α' H') : TkA G X α' σ H' r := by
  cases r with
  | ok d S => trivial
  | ex x S => exact Takes.imp t fun c d σ' H1 w => WE.ext e w
theorem TkT.ext {r : PL.RT} (t : TkT G X α σ H r) (e : Ext α H α' H') : TkT G X α' σ H' r := by
  cases r with
  | ok d S => trivial
  | ex x S => exact Takes.imp t fun c d σ' H1 w => WE.ext e w
theorem TkS.ext {r : PL.RS} (t : TkS G X α H r) (e : Ext α H α' H') : TkS G X α' H' r := by
  cases r with
  | ex x δ S => exact Takes.imp t fun c d σ' H1 ⟨a, e2, q⟩ => ⟨a, e.trans e2, q⟩
  | _ => trivial
theorem PoE.ext {r : PL.RE} {u : Value} {s' : Shared} (h : PoE X pins α' δ σ H' r u s') (e : Ext α H α' H') : PoE X pins α δ σ H r u s' := by
  cases r with
  | ok d S => obtain ⟨a, v, H1, I, rv, x, q⟩ := h; exact ⟨a, v, H1, I, rv, e.trans x, q⟩
  | ex x S => exact h
theorem PoA.ext {r : PL.RA} {u : List Value} {s' : Shared} (h : PoA X pins α' δ σ H' r u s') (e : Ext α H α' H') : PoA X pins α δ σ H r u s' := by
  cases r with
  | ok d S => obtain ⟨a, v, H1, I, rv, x, q⟩ := h; exact ⟨a, v, H1, I, rv, e.trans x, q⟩
  | ex x S => exact h
theorem PoT.ext {r : PL.RT} {u : Bool} {s' : Shared} (h : PoT X pins α' δ σ H' r u s') (e : Ext α H α' H') : PoT X pins α δ σ H r u s' := by
  cases r with
  | ok d S => obtain ⟨b, a, H1, I, x, q⟩ := h; exact ⟨b, a, H1, I, e.trans x, q⟩
  | ex x S => exact h
theorem PoS.ext {r : PL.RS} {f : Flow} {s' : Shared} (h : PoS X pins α' H' r f s') (e : Ext α H α' H') : PoS X pins α H r f s' := by
  cases r with
  | nx δ S => obtain ⟨b, a, σ1, H1, I, x, q⟩ := h; exact ⟨b, a, σ1, H1, I, e.trans x, q⟩
  | bk δ S => obtain ⟨b, a, σ1, H1, I, x, q⟩ := h; exact ⟨b, a, σ1, H1, I, e.trans x, q⟩
  | ct δ S => obtain ⟨b, a, σ1, H1, I, x, q⟩ := h; exact ⟨b, a, σ1, H1, I, e.trans x, q⟩
  | rt d S => obtain ⟨u, b, a, σ1, H1, v, I, rv, x, q⟩ := h; exact ⟨u, b, a, σ1, H1, v, I, rv, e.trans x, q⟩
  | ex x δ S => exact h
/-- a statement's wish from an expression's -/
theorem TkS.ofE {x : PL.Exn} {S' : PL.Sto} (R : Rel X.K α δ S σ H) (t : TkS G X α H (.ex x δ S')) : TkE G X α σ H (.ex x S') := Takes.imp t fun c d σ' H1 ⟨e1, a, e2, r, q⟩ => by
  subst e1
  exact ⟨a, e2, R.mono e2 r, q⟩

/-! ### composition -/
variable {e : Expr} {m : PL.ME}
theorem CE.step (h : CE G X e m) (I : Inv X pins σ H s) (R : Rel X.K α δ S σ H) {Q : Value → Shared → Prop}
    (no : m δ S ≠ none) (tk : ∀ x S1, m δ S = some (.ex x S1) → Takes X (WE G X α σ H x S1))
    (q : ∀ d S1, m δ S = some (.ok d S1) → ∀ α1 v H1 u s1, Inv X pins σ H1 s1 → RelV v u → Ext α H α1 H1 → Rel X.K α1 δ S1 σ H1 → RD X.K α1 H1 d v → Q u s1) :
    wpAny (model X.prog X.w) X.A (eval e X.env) Q X.xe s := by
  cases c : m δ S with
  | none => exact absurd c no
  | some r =>
    cases r with
    | ok d S1 =>
      refine thn (h.run δ S _ c α pins s σ H I R trivial) fun u s1 hu => ?_
      obtain ⟨α1, v, H1, I1, rv, x, R1, rd⟩ := hu
      exact q d S1 c α1 v H1 u s1 I1 rv x R1 rd
    | ex x S1 => exact thn (h.run δ S _ c α pins s σ H I R (tk x S1 c)) fun u s1 hu => hu.elim
theorem bE_inv {o : Option PL.RE} {k : PL.D → PL.Sto → Option PL.RE} {r : PL.RE} (h : PL.bE o k = some r) : (∃ d S1, o = some (.ok d S1) ∧ k d S1 = some r) ∨ ∃ x S1, o = some (.ex x S1) ∧ r = .ex x S1 := by
  cases o with
  | none => cases h
  | some q => cases q with
    | ok d S1 => exact .inl ⟨d, S1, rfl, h⟩
    | ex x S1 => cases h; exact .inr ⟨x, S1, rfl, rfl⟩
/-- an expression, then what an expression goes on with -/
theorem CE.then (h : CE G X e m) (I : Inv X pins σ H s) (R : Rel X.K α δ S σ H) {k : PL.D → PL.Sto → Option PL.RE} {r : PL.RE} (hk : PL.bE (m δ S) k = some r) (tk : TkE G X α σ H r) {Q : Value → Shared → Prop}
    (q : ∀ d S1, k d S1 = some r → ∀ α1 v H1 u s1, Inv X pins σ H1 s1 → RelV v u → Ext α H α1 H1 → Rel X.K α1 δ S1 σ H1 → RD X.K α1 H1 d v → TkE G X α1 σ H1 r → Q u s1) :
    wpAny (model X.prog X.w) X.A (eval e X.env) Q X.xe s := by
  refine h.step I R (fun z => by rw [z] at hk; cases hk) (fun x S1 c => ?_) (fun d S1 c α1 v H1 u s1 I1 rv x R1 rd => ?_)
  · rw [c] at hk; cases hk; exact tk
  · rw [c] at hk
    exact q d S1 hk α1 v H1 u s1 I1 rv x R1 rd (tk.ext x)
theorem CE.thenT (h : CE G X e m) (I : Inv X pins σ H s) (R : Rel X.K α δ S σ H) {k : PL.D → PL.Sto → Option PL.RT} {r : PL.RT} (hk : PL.bET (m δ S) k = some r) (tk : TkT G X α σ H r) {Q : Value → Shared → Prop}
    (q : ∀ d S1, k d S1 = some r → ∀ α1 v H1 u s1, Inv X pins σ H1 s1 → RelV v u → Ext α H α1 H1 → Rel X.K α1 δ S1 σ H1 → RD X.K α1 H1 d v → TkT G X α1 σ H1 r → Q u s1) :
    wpAny (model X.prog X.w) X.A (eval e X.env) Q X.xe s := by
  refine h.step I R (fun z => by rw [z] at hk; cases hk) (fun x S1 c => ?_) (fun d S1 c α1 v H1 u s1 I1 rv x R1 rd => ?_)
  · rw [c] at hk; cases hk; exact tk
  · rw [c] at hk
    exact q d S1 hk α1 v H1 u s1 I1 rv x R1 rd (tk.ext x)
theorem CE.thenA (h : CE G X e m) (I : Inv X pins σ H s) (R : Rel X.K α δ S σ H) {k : PL.D → PL.Sto → Option PL.RA} {r : PL.RA} (hk : PL.bEA (m δ S) k = some r) (tk : TkA G X α σ H r) {Q : Value → Shared → Prop}
    (q : ∀ d S1, k d S1 = some r → ∀ α1 v H1 u s1, Inv X pins σ H1 s1 → RelV v u → Ext α H α1 H1 → Rel X.K α1 δ S1 σ H1 → RD X.K α1 H1 d v → TkA G X α1 σ H1 r → Q u s1) :
    wpAny (model X.prog X.w) X.A (eval e X.env) Q X.xe s := by
  refine h.step I R (fun z => by rw [z] at hk; cases hk) (fun x S1 c => ?_) (fun d S1 c α1 v H1 u s1 I1 rv x R1 rd => ?_)
  · rw [c] at hk; cases hk; exact tk
  · rw [c] at hk
    exact q d S1 hk α1 v H1 u s1 I1 rv x R1 rd (tk.ext x)
theorem CE.thenS (h : CE G X e m) (I : Inv X pins σ H s) (R : Rel X.K α δ S σ H) {k : PL.D → PL.Sto → Option PL.RS} {r : PL.RS} (hk : PL.bES δ (m δ S) k = some r) (tk : TkS G X α H r) {Q : Value → Shared → Prop}
    (q : ∀ d S1, k d S1 = some r → ∀ α1 v H1 u s1, Inv X pins σ H1 s1 → RelV v u → Ext α H α1 H1 → Rel X.K α1 δ S1 σ H1 → RD X.K α1 H1 d v → TkS G X α1 H1 r → Q u s1) :
    wpAny (model X.prog X.w) X.A (eval e X.env) Q X.xe s := by
  refine h.step I R (fun z => by rw [z] at hk; cases hk) (fun x S1 c => ?_) (fun d S1 c α1 v H1 u s1 I1 rv x R1 rd => ?_)
  · rw [c] at hk; cases hk; exact TkS.ofE R tk
  · rw [c] at hk
    exact q d S1 hk α1 v H1 u s1 I1 rv x R1 rd (tk.ext x)
variable {es : List Expr} {ma : PL.MA}
theorem CA.step (h : CA G X es ma) (pos : Pos) (I : Inv X pins σ H s) (R : Rel X.K α δ S σ H) {Q : List Value → Shared → Prop}
    (no : ma δ S ≠ none) (tk : ∀ x S1, ma δ S = some (.ex x S1) → Takes X (WE G X α σ H x S1))
    (q : ∀ ds S1, ma δ S = some (.ok ds S1) → ∀ α1 vs H1 us s1, Inv X pins σ H1 s1 → Vals vs us → Ext α H α1 H1 → Rel X.K α1 δ S1 σ H1 → RDs X.K α1 H1 ds vs → Q us s1) :
    wpAny (model X.prog X.w) X.A (spliced (backTo pos (starEach es X.env))) Q X.xe s := by
  cases c : ma δ S with
  | none => exact absurd c no
  | some r =>
    cases r with
    | ok d S1 =>
      refine thn (h.run pos δ S _ c α pins s σ H I R trivial) fun u s1 hu => ?_
      obtain ⟨α1, v, H1, I1, rv, x, R1, rd⟩ := hu
      exact q d S1 c α1 v H1 u s1 I1 rv x R1 rd
    | ex x S1 => exact thn (h.run pos δ S _ c α pins s σ H I R (tk x S1 c)) fun u s1 hu => hu.elim
theorem CA.then (h : CA G X es ma) (pos : Pos) (I : Inv X pins σ H s) (R : Rel X.K α δ S σ H) {k : List PL.D → PL.Sto → Option PL.RE} {r : PL.RE} (hk : PL.bA (ma δ S) k = some r) (tk : TkE G X α σ H r) {Q : List Value → Shared → Prop}
    (q : ∀ d S1, k d S1 = some r → ∀ α1 v H1 u s1, Inv X pins σ H1 s1 → Vals v u → Ext α H α1 H1 → Rel X.K α1 δ S1 σ H1 → RDs X.K α1 H1 d v → TkE G X α1 σ H1 r → Q u s1) :
    wpAny (model X.prog X.w) X.A (spliced (backTo pos (starEach es X.env))) Q X.xe s := by
  refine h.step pos I R (fun z => by rw [z] at hk; cases hk) (fun x S1 c => ?_) (fun d S1 c α1 v H1 u s1 I1 rv x R1 rd => ?_)
  · rw [c] at hk; cases hk; exact tk
  · rw [c] at hk
    exact q d S1 hk α1 v H1 u s1 I1 rv x R1 rd (tk.ext x)
theorem CA.thenA (h : CA G X es ma) (pos : Pos) (I : Inv X pins σ H s) (R : Rel X.K α δ S σ H) {k : List PL.D → PL.Sto → Option PL.RA} {r : PL.RA} (hk : PL.bAA (ma δ S) k = some r) (tk : TkA G X α σ H r) {Q : List Value → Shared → Prop}
    (q : ∀ d S1, k d S1 = some r → ∀ α1 v H1 u s1, Inv X pins σ H1 s1 → Vals v u → Ext α H α1 H1 → Rel X.K α1 δ S1 σ H1 → RDs X.K α1 H1 d v → TkA G X α1 σ H1 r → Q u s1) :
    wpAny (model X.prog X.w) X.A (spliced (backTo pos (starEach es X.env))) Q X.xe s := by
  refine h.step pos I R (fun z => by rw [z] at hk; cases hk) (fun x S1 c => ?_) (fun d S1 c α1 v H1 u s1 I1 rv x R1 rd => ?_)
  · rw [c] at hk; cases hk; exact tk
  · rw [c] at hk
    exact q d S1 hk α1 v H1 u s1 I1 rv x R1 rd (tk.ext x)
variable {mt : PL.MT}
theorem CT.step (h : CT G X e mt) (I : Inv X pins σ H s) (R : Rel X.K α δ S σ H) {Q : Bool → Shared → Prop}
    (no : mt δ S ≠ none) (tk : ∀ x S1, mt δ S = some (.ex x S1) → Takes X (WE G X α σ H x S1))
    (q : ∀ b S1, mt δ S = some (.ok b S1) → ∀ α1 H1 s1, Inv X pins σ H1 s1 → Ext α H α1 H1 → Rel X.K α1 δ S1 σ H1 → Q b s1) :
    wpAny (model X.prog X.w) X.A (isTrue e X.env (eval e X.env)) Q X.xe s := by
  cases c : mt δ S with
  | none => exact absurd c no
  | some r =>
    cases r with
    | ok d S1 =>
      refine thn (h.run δ S _ c α pins s σ H I R trivial) fun u s1 hu => ?_
      obtain ⟨eb, α1, H1, I1, x, R1⟩ := hu
      subst eb
      exact q d S1 c α1 H1 s1 I1 x R1
    | ex x S1 => exact thn (h.run δ S _ c α pins s σ H I R (tk x S1 c)) fun u s1 hu => hu.elim
theorem CT.then (h : CT G X e mt) (I : Inv X pins σ H s) (R : Rel X.K α δ S σ H) {k : Bool → PL.Sto → Option PL.RE} {r : PL.RE} (hk : PL.bT (mt δ S) k = some r) (tk : TkE G X α σ H r) {Q : Bool → Shared → Prop}
    (q : ∀ b S1, k b S1 = some r → ∀ α1 H1 s1, Inv X pins σ H1 s1 → Ext α H α1 H1 → Rel X.K α1 δ S1 σ H1 → TkE G X α1 σ H1 r → Q b s1) :
    wpAny (model X.prog X.w) X.A (isTrue e X.env (eval e X.env)) Q X.xe s := by
  refine h.step I R (fun z => by rw [z] at hk; cases hk) (fun x S1 c => ?_) (fun d S1 c α1 H1 s1 I1 x R1 => ?_)
  · rw [c] at hk; cases hk; exact tk
  · rw [c] at hk
    exact q d S1 hk α1 H1 s1 I1 x R1 (tk.ext x)
theorem CT.thenT (h : CT G X e mt) (I : Inv X pins σ H s) (R : Rel X.K α δ S σ H) {k : Bool → PL.Sto → Option PL.RT} {r : PL.RT} (hk : PL.bTT (mt δ S) k = some r) (tk : TkT G X α σ H r) {Q : Bool → Shared → Prop}
    (q : ∀ b S1, k b S1 = some r → ∀ α1 H1 s1, Inv X pins σ H1 s1 → Ext α H α1 H1 → Rel X.K α1 δ S1 σ H1 → TkT G X α1 σ H1 r → Q b s1) :
    wpAny (model X.prog X.w) X.A (isTrue e X.env (eval e X.env)) Q X.xe s := by
  refine h.step I R (fun z => by rw [z] at hk; cases hk) (fun x S1 c => ?_) (fun d S1 c α1 H1 s1 I1 x R1 => ?_)
  · rw [c] at hk; cases hk; exact tk
  · rw [c] at hk
    exact q d S1 hk α1 H1 s1 I1 x R1 (tk.ext x)
theorem CT.thenS (h : CT G X e mt) (I : Inv X pins σ H s) (R : Rel X.K α δ S σ H) {k : Bool → PL.Sto → Option PL.RS} {r : PL.RS} (hk : PL.bTS δ (mt δ S) k = some r) (tk : TkS G X α H r) {Q : Bool → Shared → Prop}
    (q : ∀ b S1, k b S1 = some r → ∀ α1 H1 s1, Inv X pins σ H1 s1 → Ext α H α1 H1 → Rel X.K α1 δ S1 σ H1 → TkS G X α1 H1 r → Q b s1) :
    wpAny (model X.prog X.w) X.A (isTrue e X.env (eval e X.env)) Q X.xe s := by
  refine h.step I R (fun z => by rw [z] at hk; cases hk) (fun x S1 c => ?_) (fun d S1 c α1 H1 s1 I1 x R1 => ?_)
  · rw [c] at hk; cases hk; exact TkS.ofE R tk
  · rw [c] at hk
    exact q d S1 hk α1 H1 s1 I1 x R1 (tk.ext x)
end
end BR

set_option Elab.async false
set_option linter.all false
set_option maxRecDepth 100000
set_option maxHeartbeats 2000000
/-! ## expressions -/
namespace BR
open PySem PySem.Spec PyProof.Rows L2
variable [Tbs]
theorem line_eq : PL.LINE = sizeLine := by decide
section
variable {G : EX} {X : Cx} {α α' : List Addr} {δ : PL.Env} {S : PL.Sto} {σ : L2.St} {H H' : Hp} {pins : List (Addr × Obj)} {s : Shared}
variable {a b c e : Expr} {ma mb mc m : PL.ME} {pos : Pos}

/-! ### ends -/
theorem PoE.mk {d : PL.D} {v : V} {u : Value} {s' : Shared} (I : Inv X pins σ H' s') (rv : RelV v u) (x : Ext α H α' H') (R : Rel X.K α' δ S σ H') (q : RD X.K α' H' d v) : PoE X pins α δ σ H (.ok d S) u s' := ⟨α', v, H', I, rv, x, R, q⟩
/-- the heap as it was -/
theorem PoE.here {d : PL.D} {v : V} {u : Value} {s' : Shared} (I : Inv X pins σ H s') (rv : RelV v u) (R : Rel X.K α δ S σ H) (q : RD X.K α H d v) : PoE X pins α δ σ H (.ok d S) u s' := ⟨α, v, H, I, rv, Ext.refl _ _, R, q⟩
/-- a new tuple at p -/
theorem PoE.tup {p : Addr} {vs : List V} {ds : List PL.D} {s' : Shared} (I : Inv X pins σ (upd H p (.tup vs)) s') (hp : H p = none) (R : Rel X.K α δ S σ H) (q : RDs X.K α H ds vs) : PoE X pins α δ σ H (.ok (.tup ds) S) (.ref p) s' := by
  have x : Ext α H α (upd H p (.tup vs)) := Ext.new hp trivial
  refine ⟨α, .ref p, _, I, rfl, x, R.mono x (R.st.new hp), ?_⟩
  simp only [RD]
  exact ⟨p, vs, rfl, SqT.of upd_same, q.mono x⟩
/-- a new list at p that nobody will change -/
theorem PoE.lst {p : Addr} {vs : List V} {ds : List PL.D} {s' : Shared} (I : Inv X pins σ (upd H p (.lst vs)) s') (hp : H p = none) (R : Rel X.K α δ S σ H) (q : RDs X.K α H ds vs) : PoE X pins α δ σ H (.ok (.lst ds) S) (.ref p) s' := by
  obtain ⟨od, I2⟩ := I.lock upd_same trivial
  rw [upd_upd] at I2
  have x : Ext α H α (upd H p (.frz od (.lst vs))) := Ext.new hp trivial
  refine ⟨α, .ref p, _, I2, rfl, x, R.mono x (R.st.new hp), ?_⟩
  simp only [RD]
  exact ⟨p, od, vs, rfl, .inl upd_same, q.mono x⟩
/-- a new list at p, into the store -/
theorem PoE.new {p : Addr} {vs : List V} {ds : List PL.D} {s' : Shared} (I : Inv X pins σ (upd H p (.lst vs)) s') (hp : H p = none) (R : Rel X.K α δ S σ H) (q : RDs X.K α H ds vs) (pu : PL.D.pures ds = true) :
    PoE X pins α δ σ H (.ok (.ref S.length) (S ++ [.lst ds])) (.ref p) s' := by
  have x : Ext α H (α ++ [p]) (upd H p (.lst vs)) := Ext.pushN hp trivial
  refine ⟨α ++ [p], .ref p, _, I, rfl, x, R.mono x (R.st.push hp q pu), ?_⟩
  simp only [RD]
  refine ⟨p, ?_, rfl⟩
  rw [← R.st.lenα]; simp

/-- from a reading of HandS that raises nothing -/
def PoV (K : PySem.W.Frag) (α : List Addr) (δ : PL.Env) (σ : L2.St) (H : Hp) (r : PL.RE) (v : V) (H' : Hp) : Prop := match r with
  | .ok d S' => ∃ α', Ext α H α' H' ∧ Rel K α' δ S' σ H' ∧ RD K α' H' d v
  | .ex _ _ => False
theorem PoE.ofV {r : PL.RE} {u : Value} {s' : Shared} (h : EP X pins σ (PoV X.K α δ σ H r) u s') : PoE X pins α δ σ H r u s' := by
  obtain ⟨v, H', I, rv, q⟩ := h
  cases r with
  | ok d S' => obtain ⟨α', x, R, rd⟩ := q; exact ⟨α', v, H', I, rv, x, R, rd⟩
  | ex x S' => exact q
theorem CE.of {t : TE} (h : PE X e t) (q : ∀ δ S r, m δ S = some r → ∀ α σ H, Rel X.K α δ S σ H → t σ H (PoV X.K α δ σ H r)) : CE G X e m :=
  ⟨fun δ S r hm α pins s σ H I R tk => thn (h.run pins s σ H _ I (q δ S r hm α σ H R)) fun u s' hu => PoE.ofV hu⟩
theorem PoV.here {d : PL.D} {v : V} (R : Rel X.K α δ S σ H) (q : RD X.K α H d v) : PoV X.K α δ σ H (.ok d S) v H := ⟨α, Ext.refl _ _, R, q⟩

/-! ### names, constants -/
theorem c_var (i : Nat) {x : Str} (hN : X.N[i]? = some x := by rfl) (hv : Vis X.env.scope x := by first | exact Or.inl rfl | exact Or.inr (Or.inl rfl) | exact Or.inr (Or.inr rfl)) (hd : (x == ("__debug__" : Str)) = false := by decide)
    (hcd : (x == ("__classdict__" : Str)) = false := by decide) : CE G X (.Name x pos) (PL.mVar i) :=
  CE.of (pe_var hN hv hd hcd) fun δ S r hm α σ H R => by
    unfold PL.mVar at hm
    split at hm
    · rename_i d e
      cases hm
      obtain ⟨v, e1, q⟩ := R.loc i d e
      exact ⟨v, e1, PoV.here R q⟩
    · cases hm
theorem c_const {t : V} {d : PL.D} (h : PE X e (tC t)) (q : ∀ K α H, RD K α H d t) : CE G X e (PL.mC d) :=
  CE.of h fun δ S r hm α σ H R => by
    cases hm
    exact PoV.here R (q _ _ _)
theorem c_int {i j} : CE G X (.Constant (.int i) j pos) (PL.mC (.int i)) := c_const pe_int fun _ _ _ => by simp [RD]
theorem c_bl {i j} : CE G X (.Constant (.bool i) j pos) (PL.mC (.bl i)) := c_const pe_bl fun _ _ _ => by simp [RD]
theorem c_non {j} : CE G X (.Constant .none j pos) (PL.mC .non) := c_const pe_non fun _ _ _ => by simp [RD]
theorem c_str {x : Str} {l : List Nat} {j} (h : x.cps.toList = l := by first | rfl | decide +kernel) : CE G X (.Constant (.str x) j pos) (PL.mC (.str l)) := c_const pe_str fun _ _ _ => by simp only [RD]; exact ⟨x, rfl, h⟩
/-- a module's constant: an int -/
theorem c_globI {x : Str} {i : Int} {t : Tok} (hm : X.mg x = some (.int i t)) (hg : Gl X x := by rfl) (hd : (x == ("__debug__" : Str)) = false := by decide) : CE G X (.Name x pos) (PL.mC (.int i)) :=
  c_const (t := .int i) (pe_glob hg hm ⟨t, rfl⟩ hd) fun _ _ _ => by simp [RD]

/-! ### operators -/
/-- a two-place operation on values, as the mirror has it -/
def OpD (X : Cx) (g : Value → Value → Sem Value) (f : PL.D → PL.D → Option PL.D) : Prop :=
  ∀ x y z, f x y = some z → ∀ α δ S pins s σ H v w u1 u2, Inv X pins σ H s → Rel X.K α δ S σ H → RD X.K α H x v → RD X.K α H y w → RelV v u1 → RelV w u2 →
    wpAny (model X.prog X.w) X.A (g u1 u2) (PoE X pins α δ σ H (.ok z S)) X.xe s
def UnD (X : Cx) (g : Value → Sem Value) (f : PL.D → Option PL.D) : Prop :=
  ∀ x z, f x = some z → ∀ α δ S pins s σ H v u, Inv X pins σ H s → Rel X.K α δ S σ H → RD X.K α H x v → RelV v u →
    wpAny (model X.prog X.w) X.A (g u) (PoE X pins α δ σ H (.ok z S)) X.xe s
theorem map_inv {o : Option PL.D} {S' : PL.Sto} {r : PL.RE} (h : o.map (fun z => PL.RE.ok z S') = some r) : ∃ z, o = some z ∧ r = .ok z S' := by
  cases o with
  | none => cases h
  | some z => cases h; exact ⟨z, rfl, rfl⟩
/-- two expressions, then an operation -/
theorem two {f : PL.D → PL.D → Option PL.D} {g : Value → Value → Sem Value} (ho : OpD X g f) (ha : CE G X a ma) (hb : CE G X b mb) {r : PL.RE} (hm : PL.mBin f ma mb δ S = some r) (I : Inv X pins σ H s) (R : Rel X.K α δ S σ H) (tk : TkE G X α σ H r) :
    wpAny (model X.prog X.w) X.A (eval a X.env) (fun v s₁ => wpAny (model X.prog X.w) X.A (eval b X.env) (fun u s₂ => wpAny (model X.prog X.w) X.A (g v u) (PoE X pins α δ σ H r) X.xe s₂) X.xe s₁) X.xe s := by
  refine ha.then I R hm tk fun x S1 h1 α1 v H1 u1 s1 I1 rv x1 R1 q1 tk1 => ?_
  refine hb.then I1 R1 h1 tk1 fun y S2 h2 α2 w H2 u2 s2 I2 rw x2 R2 q2 tk2 => ?_
  obtain ⟨z, e, rfl⟩ := map_inv h2
  exact thn (ho x y z e α2 δ S2 pins s2 σ H2 v w u1 u2 I2 R2 (q1.mono x2) q2 rv rw) fun u s' h => h.ext (x1.trans x2)
theorem c_bin {op : Operator} {f : PL.D → PL.D → Option PL.D} (ho : OpD X (binaryOp op) f) (ha : CE G X a ma) (hb : CE G X b mb) : CE G X (.BinOp a op b pos) (PL.mBin f ma mb) :=
  ⟨fun δ S r hm α pins s σ H I R tk => wpAny_BinOp (two ho ha hb hm I R tk)⟩
theorem c_cmp {op : CmpOp} {f : PL.D → PL.D → Option PL.D} (ho : OpD X (compareOp op) f) (ha : CE G X a ma) (hb : CE G X b mb) (h1 : behindInMarks op b = false := by first | exact nobehind _ (by decide) (by decide) | rfl) : CE G X (.Compare a [op] [b] pos) (PL.mBin f ma mb) :=
  ⟨fun δ S r hm α pins s σ H I R tk => wpAny_Compare1 (two ho ha hb hm I R tk) h1⟩
theorem c_un {op : UnaryOp} {f : PL.D → Option PL.D} (ho : UnD X (unaryOp op) f) (ha : CE G X a ma) : CE G X (.UnaryOp op a pos) (PL.mUn f ma) :=
  ⟨fun δ S r hm α pins s σ H I R tk => UnaryOp_ (ha.then I R hm tk fun x S1 h1 α1 v H1 u1 s1 I1 rv x1 R1 q1 tk1 => by
    obtain ⟨z, e, rfl⟩ := map_inv h1
    exact thn (ho x z e α1 δ S1 pins s1 σ H1 v u1 I1 R1 q1 rv) fun u s' h => h.ext x1)⟩

/-- from a rule of HandS by values -/
theorem OpD.of {g : Value → Value → Sem Value} {f : PL.D → PL.D → Option PL.D} {rr : R2} (ho : OpR X g rr)
    (h : ∀ x y z, f x y = some z → ∀ α δ S σ H v w, Rel X.K α δ S σ H → RD X.K α H x v → RD X.K α H y w → rr v w H (PoV X.K α δ σ H (.ok z S))) : OpD X g f :=
  fun x y z e α δ S pins s σ H v w u1 u2 I R q1 q2 r1 r2 => thn (ho pins s σ H v w u1 u2 _ I r1 r2 (h x y z e α δ S σ H v w R q1 q2)) fun u s' hu => PoE.ofV hu
theorem UnD.of {g : Value → Sem Value} {f : PL.D → Option PL.D} {rr : V → Hp → VK → Prop} (ho : UnR X g rr)
    (h : ∀ x z, f x = some z → ∀ α δ S σ H v, Rel X.K α δ S σ H → RD X.K α H x v → rr v H (PoV X.K α δ σ H (.ok z S))) : UnD X g f :=
  fun x z e α δ S pins s σ H v u I R q1 r1 => thn (ho pins s σ H v u _ I r1 (h x z e α δ S σ H v R q1)) fun u s' hu => PoE.ofV hu
theorem rd_int {K : PySem.W.Frag} {i : Int} {v : V} (h : RD K α H (.int i) v) : v = .int i := by simpa [RD] using h
theorem rd_bl {K : PySem.W.Frag} {i : Bool} {v : V} (h : RD K α H (.bl i) v) : v = .bl i := by simpa [RD] using h
theorem rd_non {K : PySem.W.Frag} {v : V} (h : RD K α H .non v) : v = .non := by simpa [RD] using h
theorem rd_str {K : PySem.W.Frag} {l : List Nat} {v : V} (h : RD K α H (.str l) v) : ∃ x : Str, v = .str x ∧ x.cps.toList = l := by simpa [RD] using h
theorem rd_tup {K : PySem.W.Frag} {l : List PL.D} {v : V} (h : RD K α H (.tup l) v) : ∃ a vs, v = .ref a ∧ SqT K H a vs ∧ RDs K α H l vs := by simpa only [RD] using h
theorem rd_lst {K : PySem.W.Frag} {l : List PL.D} {v : V} (h : RD K α H (.lst l) v) : ∃ a o vs, v = .ref a ∧ FzL K H a o vs ∧ RDs K α H l vs := by simpa only [RD] using h
theorem rd_ref {K : PySem.W.Frag} {n : Nat} {v : V} (h : RD K α H (.ref n) v) : ∃ a, α[n]? = some a ∧ v = .ref a := by simpa only [RD] using h
theorem mk_int {K : PySem.W.Frag} {i : Int} : RD K α H (.int i) (.int i) := by simp [RD]
theorem mk_bl {K : PySem.W.Frag} {i : Bool} : RD K α H (.bl i) (.bl i) := by simp [RD]
theorem mk_non {K : PySem.W.Frag} : RD K α H .non .non := by simp [RD]
theorem mk_str {K : PySem.W.Frag} {x : Str} {l : List Nat} (h : x.cps.toList = l) : RD K α H (.str l) (.str x) := by simp only [RD]; exact ⟨x, rfl, h⟩
theorem frz_sq {K : PySem.W.Frag} {a : Addr} {o : Obj} {vs : List V} (h : FzL K H a o vs) : SqL K H a vs := by
  rcases h with h | ⟨its, n, h, z, r⟩
  · exact .inl (.inr ⟨o, h⟩)
  · refine .inr ⟨_, its.toArray, n, h, rfl, rfl, rfl, ?_, by simpa using r⟩
    have := r.length
    rw [List.size_toArray]; omega
/-- a list that is read, its object as it stands -/
theorem lstR {p : Addr} {xs : List V} (I : Inv X pins σ H s) (h : Rd H p (.lst xs)) :
    ∃ (its : List Value) (n : Nat), Vals xs its ∧ s.heap.get? p = some { cls := .type "list", data := .seq its.toArray n } ∧ xs.length ≤ sizeLine := by
  obtain ⟨z, its, n, r, e⟩ := h.ok I.hok
  exact ⟨its, n, r, e, z⟩

theorem lstF {p : Addr} {o : Obj} {xs : List V} (I : Inv X pins σ H s) (h : FzL X.K H p o xs) :
    ∃ (its : List Value) (n : Nat), Vals xs its ∧ s.heap.get? p = some { cls := .type "list", data := .seq its.toArray n } ∧ xs.length ≤ sizeLine := by
  rcases h with h | ⟨its, n, h, z, r⟩
  · exact lstR I (.inr ⟨o, h⟩)
  · exact ⟨its, n, r, I.kIn _ _ h, z⟩
theorem d_add : OpD X (binaryOp .Add) PL.opAdd := by
  intro x y z e α δ S pins s σ H v w u1 u2 I R q1 q2 r1 r2
  cases x <;> cases y <;> simp only [PL.opAdd] at e <;> try cases e
  · have e1 := rd_int q1; have e2 := rd_int q2; subst e1 e2
    exact thn (op_add pins s σ H _ _ u1 u2 (PoV X.K α δ σ H (.ok _ S)) I r1 r2 ⟨_, _, rfl, rfl, PoV.here R mk_int⟩) fun u s' hu => PoE.ofV hu
  · split at e
    · rename_i hz
      cases e
      obtain ⟨x1, rfl, h1⟩ := rd_str q1
      obtain ⟨x2, rfl, h2⟩ := rd_str q2
      have l1 : x1.length = (x1.cps.toList).length := by simp [Str.length]
      have l2 : x2.length = (x2.cps.toList).length := by simp [Str.length]
      refine thn (op_add_str pins s σ H _ _ u1 u2 (PoV X.K α δ σ H (.ok _ S)) I r1 r2 ⟨_, _, rfl, rfl, ?_, PoV.here R (mk_str ?_)⟩) fun u s' hu => PoE.ofV hu
      · rw [l1, l2, h1, h2, ← line_eq]; exact hz
      · show (x1.cps ++ x2.cps).toList = _
        rw [Array.toList_append, h1, h2]
    · cases e
  · rename_i xs ys
    split at e
    · rename_i hz
      cases e
      obtain ⟨a1, vs1, rfl, h1, t1⟩ := rd_tup q1
      obtain ⟨a2, vs2, rfl, h2, t2⟩ := rd_tup q2
      have l1 := t1.length
      have l2 := t2.length
      have back : ∀ {p : Addr} {vs : List V} {ds : List PL.D}, SqT X.K H p vs → RDs X.K α H ds vs → RD X.K α H (.tup ds) (.ref p) := fun hq ht => by simp only [RD]; exact ⟨_, _, rfl, hq, ht⟩
      refine thn (op_catA pins s σ H _ _ u1 u2 (fun v H' => (H' = H ∧ RD X.K α H (.tup (xs ++ ys)) v) ∨ ∃ p, v = .ref p ∧ H p = none ∧ H' = upd H p (.tup (vs1 ++ vs2))) I r1 r2
        ⟨a1, a2, vs1, vs2, rfl, rfl, h1, h2, ?_, fun e0 => .inl ⟨rfl, ?_⟩, fun _ e0 => .inl ⟨rfl, ?_⟩, fun _ _ p hp => .inr ⟨p, rfl, hp, rfl⟩⟩) fun u s' hu => ?_
      · rw [← line_eq]; omega
      · subst e0
        have : PL.D.tup (xs ++ ys) = PL.D.tup ys := congrArg PL.D.tup (by rw [List.eq_nil_of_length_eq_zero l1, List.nil_append])
        rw [this]; exact back h2 t2
      · subst e0
        have : PL.D.tup (xs ++ ys) = PL.D.tup xs := congrArg PL.D.tup (by rw [List.eq_nil_of_length_eq_zero l2, List.append_nil])
        rw [this]; exact back h1 t1
      · obtain ⟨v, H', I', rv, (⟨e1, q⟩ | ⟨p, e1, hp, e2⟩)⟩ := hu
        · subst e1; exact PoE.here I' rv R q
        · subst e1 e2; cases rv
          exact PoE.tup I' hp R (t1.append t2)
    · cases e
  · split at e
    · rename_i hz
      cases e
      obtain ⟨a1, o1, vs1, rfl, h1, t1⟩ := rd_lst q1
      obtain ⟨a2, o2, vs2, rfl, h2, t2⟩ := rd_lst q2
      cases r1; cases r2
      have l1 := t1.length
      have l2 := t2.length
      obtain ⟨its1, n1, w1, e1, z1⟩ := lstF I h1
      obtain ⟨its2, n2, w2, e2, z2⟩ := lstF I h2
      have k1 := w1.length
      have k2 := w2.length
      refine PySem.P.add_list e1 e2 ?_ (by rw [List.size_toArray, List.size_toArray, ← line_eq]; omega)
      have ea : its1.toArray ++ its2.toArray = (its1 ++ its2).toArray := by simp
      rw [ea]
      exact PoE.lst (I.lnew (t' := s.toks) (w1.append w2) (by rw [List.length_append, ← line_eq]; omega)) I.fresh R (t1.append t2)
    · cases e
theorem d_sub : OpD X (binaryOp .Sub) PL.opSub := .of op_sub fun x y z e α δ S σ H v w R q1 q2 => by
  cases x <;> cases y <;> simp only [PL.opSub] at e <;> cases e
  exact ⟨_, _, rd_int q1, rd_int q2, PoV.here R mk_int⟩
theorem d_div : OpD X (binaryOp .FloorDiv) PL.opDiv := .of op_fdiv fun x y z e α δ S σ H v w R q1 q2 => by
  cases x <;> cases y <;> simp only [PL.opDiv] at e <;> try cases e
  split at e
  · rename_i h
    cases e
    exact ⟨_, _, rd_int q1, rd_int q2, ⟨h.1, by omega⟩, PoV.here R mk_int⟩
  · cases e
theorem d_mod : OpD X (binaryOp .Mod) PL.opMod := .of op_mod fun x y z e α δ S σ H v w R q1 q2 => by
  cases x <;> cases y <;> simp only [PL.opMod] at e <;> try cases e
  split at e
  · rename_i h
    cases e
    exact ⟨_, _, rd_int q1, rd_int q2, h, PoV.here R mk_int⟩
  · cases e
theorem d_pow : OpD X (binaryOp .Pow) PL.opPow := .of op_pow fun x y z e α δ S σ H v w R q1 q2 => by
  cases x <;> cases y <;> simp only [PL.opPow] at e <;> try cases e
  split at e
  · rename_i h
    cases e
    exact ⟨_, _, rd_int q1, rd_int q2, ⟨h.1, by omega, by simpa using h.2.2⟩, PoV.here R mk_int⟩
  · cases e
theorem d_neg : UnD X (unaryOp .USub) PL.opNeg := .of un_neg fun x z e α δ S σ H v R q1 => by
  cases x <;> simp only [PL.opNeg] at e <;> cases e
  exact ⟨_, rd_int q1, PoV.here R mk_int⟩
theorem d_ltI : OpD X (compareOp .Lt) PL.opLtI := .of op_lt fun x y z e α δ S σ H v w R q1 q2 => by
  cases x <;> cases y <;> simp only [PL.opLtI] at e <;> cases e
  exact ⟨_, _, rd_int q1, rd_int q2, PoV.here R mk_bl⟩
theorem d_le : OpD X (compareOp .LtE) PL.opLe := .of op_le fun x y z e α δ S σ H v w R q1 q2 => by
  cases x <;> cases y <;> simp only [PL.opLe] at e <;> cases e
  exact ⟨_, _, rd_int q1, rd_int q2, PoV.here R mk_bl⟩
theorem d_gt : OpD X (compareOp .Gt) PL.opGt := .of op_gt fun x y z e α δ S σ H v w R q1 q2 => by
  cases x <;> cases y <;> simp only [PL.opGt] at e <;> cases e
  exact ⟨_, _, rd_int q1, rd_int q2, PoV.here R mk_bl⟩
theorem d_ge : OpD X (compareOp .GtE) PL.opGe := .of op_ge fun x y z e α δ S σ H v w R q1 q2 => by
  cases x <;> cases y <;> simp only [PL.opGe] at e <;> cases e
  exact ⟨_, _, rd_int q1, rd_int q2, PoV.here R mk_bl⟩
theorem d_is : OpD X (compareOp .Is) PL.opIs := .of op_isBl fun x y z e α δ S σ H v w R q1 q2 => by
  cases x <;> cases y <;> simp only [PL.opIs] at e <;> cases e
  exact ⟨_, _, rd_bl q1, rd_bl q2, PoV.here R mk_bl⟩
theorem d_isnot : OpD X (compareOp .IsNot) PL.opIsNot := .of op_notBl fun x y z e α δ S σ H v w R q1 q2 => by
  cases x <;> cases y <;> simp only [PL.opIsNot] at e <;> cases e
  exact ⟨_, _, rd_bl q1, rd_bl q2, PoV.here R mk_bl⟩

/-! ### arguments, displays -/
theorem ca_nil : CA G X [] PL.mNilA := ⟨fun pos δ S r hm α pins s σ H I R tk => by
  cases hm
  refine thn (pa_nil.run pos pins s σ H (fun vs H' => vs = [] ∧ H' = H) I ⟨rfl, rfl⟩) fun us s' hu => ?_
  obtain ⟨vs, H', I', rv, e1, e2⟩ := hu
  subst e1 e2
  exact ⟨α, [], _, I', rv, Ext.refl _ _, R, .nil⟩⟩
end
end BR

set_option Elab.async false
set_option linter.all false
set_option maxRecDepth 100000
set_option maxHeartbeats 2000000
/-! ## a tuple, a list so many times -/
namespace BR
open PySem PySem.Spec PyProof.Rows L2
variable [Tbs]
theorem tuple_mulS (l : Addr) (items : Array Value) (n : Nat) (dd : Option Addr) (sl : Array (Option Value)) (x : Int) (u : Tok) (c0 : (decide (x < -(2 ^ 63)) || decide (x ≥ 2 ^ 63)) = false) (c1 : (items.isEmpty || x == 1) = true) :
    Meets (Builtin.«tuple.__mul__» ⟨[.ref l, .int x u], []⟩) (fun _ R s => s.heap.get? l = some { cls := .type "tuple", dict := dd, data := .seq items n, slots := sl } ∧ R (.ok (.ret (Value.ref l))) s) :=
  .of_wp fun prog w A R s h => by
    obtain ⟨hp, g, d, tk, os⟩ := s
    obtain ⟨hl, h⟩ := h
    have f1 := AutoSeq1.idx_int
    wp_walk using wpAny_loadPart' hl
    repeat (first
      | (refine wpAny_ite_false (decide_eq_false (by rw [c0]; exact Bool.false_ne_true)) ?_; wp_walk using wpAny_loadPart' hl)
      | (refine wpAny_ite_true (decide_eq_true c1) ?_; wp_walk using wpAny_loadPart' hl))
    exact ⟨_, rfl, h⟩
theorem tuple_mulZ (l : Addr) (items : Array Value) (n : Nat) (dd : Option Addr) (sl : Array (Option Value)) (x : Int) (u : Tok) (c0 : (decide (x < -(2 ^ 63)) || decide (x ≥ 2 ^ 63)) = false) (c1 : (items.isEmpty || x == 1) = false) (c2 : (decide (x ≤ 0) || items.isEmpty) = true) :
    Meets (Builtin.«tuple.__mul__» ⟨[.ref l, .int x u], []⟩) (fun _ R s => s.heap.get? l = some { cls := .type "tuple", dict := dd, data := .seq items n, slots := sl } ∧
      R (.ok (.ret (Value.ref s.heap.objs.size))) { s with heap := s.heap.push { cls := Value.type "tuple", data := Data.seq #[] }, toks := s.toks }) :=
  .of_wp fun prog w A R s h => by
    obtain ⟨hp, g, d, tk, os⟩ := s
    obtain ⟨hl, h⟩ := h
    have f1 := AutoSeq1.idx_int
    wp_walk using wpAny_loadPart' hl
    repeat (first
      | (refine wpAny_ite_false (decide_eq_false (by rw [c0]; exact Bool.false_ne_true)) ?_; wp_walk using wpAny_loadPart' hl)
      | (refine wpAny_ite_false (decide_eq_false (by rw [c1]; exact Bool.false_ne_true)) ?_; wp_walk using wpAny_loadPart' hl)
      | (refine wpAny_ite_true (decide_eq_true c2) ?_; wp_walk using wpAny_loadPart' hl))
    exact ⟨_, rfl, h⟩
end BR
namespace BR
open PySem PySem.Spec PyProof.Rows L2
variable [Tbs]
section
variable {G : EX} {X : Cx}
theorem d_mul : OpD X (binaryOp .Mult) PL.opMul := by
  intro x y z e α δ S pins s σ H v w u1 u2 I R q1 q2 r1 r2
  cases x <;> cases y <;> simp only [PL.opMul] at e <;> try cases e
  · split at e
    · rename_i h
      cases e
      have e1 := rd_int q1; have e2 := rd_int q2; subst e1 e2
      exact thn (op_mul pins s σ H _ _ u1 u2 (PoV X.K α δ σ H (.ok _ S)) I r1 r2 ⟨_, _, rfl, rfl, h.elim (fun z => .inl ⟨by simp; omega, by simp; omega⟩) (fun z => .inr ⟨by simp; omega, by simp; omega⟩), PoV.here R mk_int⟩) fun u s' hu => PoE.ofV hu
    · cases e
  · rename_i ds k
    split at e
    · rename_i hz
      obtain ⟨h1, hz⟩ := hz
      have h2 : k ≤ 1000000000 := by omega
      have h1 : -1000000000 ≤ k := by omega
      cases e
      obtain ⟨l, xs, rfl, hT, td⟩ := rd_tup q1
      have e2 := rd_int q2
      subst e2
      cases r1
      obtain ⟨t, rfl⟩ := r2
      obtain ⟨its, r, ⟨⟨cls, dd, data, sl⟩, ho, hc, n, hd⟩, hs⟩ := I.tuple hT
      simp only at hc hd
      subst hc hd
      have hle : its.length = xs.length := r.length.symm
      have hld := td.length
      have hsz0 : its.toArray.size = ds.length := by rw [List.size_toArray, hle, hld]
      have he : its.toArray.isEmpty = ds.isEmpty := by
        have : its.toArray.isEmpty = its.isEmpty := by simp
        rw [this]
        cases its <;> cases ds <;> simp at hle hld ⊢ <;> omega
      have c0 : (decide (k < -(2 ^ 63)) || decide (k ≥ 2 ^ 63)) = false := by
        rw [decide_eq_false (by omega), decide_eq_false (by omega)] <;> rfl
      have go : ∀ {P : (Result → Shared → Prop) → Shared → Prop}, Meets (Builtin.«tuple.__mul__» ⟨[.ref l, .int k t], []⟩) (fun _ R s => s.heap.get? l = some { cls := .type "tuple", dict := dd, data := .seq its.toArray n, slots := sl } ∧ P R s) →
          (P (wants (PoE X pins α δ σ H (.ok (.tup (List.replicate k.toNat ds).flatten) S)) X.xe) s) → wpAny (model X.prog X.w) X.A (binaryOp .Mult (.ref l) (.int k t)) (PoE X pins α δ σ H (.ok (.tup (List.replicate k.toNat ds).flatten) S)) X.xe s := fun {P} M hP =>
        wpAny_binaryOp_repeat_ref (T := "tuple") (U := "int") (by decide) ⟨_, ho, rfl⟩ (fun s' => typeIs_int s' k t) noFill_tuple_mul F.fills_int_mul F.slot_int_rmul repeat_tuple F.slot_int_index.lookup
          (call_meets F.slot_int_rmul (typeIs_int s k t) F.entry_int_rmul (F.args_int_rmul_2 _ _) (int_rmul_tuple k t l its.toArray n dd sl)
            ⟨ho, rfl, ⟨_, ho, rfl⟩, call_meets F.slot_tuple_mul ⟨_, ho, rfl⟩ F.entry_tuple_mul (F.args_tuple_mul_2 _ _) M ⟨ho, hP⟩⟩)
      by_cases c1 : (its.toArray.isEmpty || k == 1) = true
      · refine go (tuple_mulS l its.toArray n dd sl k t c0 c1) ?_
        have ed : (List.replicate k.toNat ds).flatten = ds := by
          rw [he] at c1
          rcases Bool.or_eq_true _ _ |>.mp c1 with z | z
          · have : ds = [] := by simpa using z
            subst this; simp
          · have : k = 1 := by simpa using z
            subst this; simp
        rw [ed]
        exact PoE.here (v := .ref l) I rfl R q1
      · have c1' : (its.toArray.isEmpty || k == 1) = false := by simpa using c1
        by_cases c2 : (decide (k ≤ 0) || its.toArray.isEmpty) = true
        · refine go (tuple_mulZ l its.toArray n dd sl k t c0 c1' c2) ?_
          have ed : (List.replicate k.toNat ds).flatten = [] := by
            rw [he] at c2
            rcases Bool.or_eq_true _ _ |>.mp c2 with z | z
            · have : k ≤ 0 := by simpa using z
              rw [show k.toNat = 0 by omega]; simp
            · have : ds = [] := by simpa using z
              subst this; simp
          rw [ed]
          exact PoE.tup (I.laid (t' := s.toks) (o := .tup []) (fun b ob q => Heap.get?_push_of_some _ q) (Nat.le_refl _) ⟨Nat.zero_le _, [], .nil, IsTup.new _ _⟩) (I.hok.fresh (Nat.le_refl _)) R .nil
        · have c2' : (decide (k ≤ 0) || its.toArray.isEmpty) = false := by simpa using c2
          have hk : 0 < k := by
            have := (Bool.or_eq_false_iff.mp c2').1
            have := of_decide_eq_false this
            omega
          have hm : ((its.toArray.size : Nat) : Int) * k ≤ 16777216 := by
            rw [hsz0]
            have : ((ds.length * k.toNat : Nat) : Int) ≤ 16777216 := Int.ofNat_le.mpr hz
            rw [Int.natCast_mul, show ((k.toNat : Nat) : Int) = k by omega] at this
            exact this
          have flen : (List.replicate k.toNat its).flatten.length ≤ sizeLine := by
            rw [PyProof.Rows.lm_len_rep_flat, hle, ← hld, Nat.mul_comm, ← line_eq]; exact hz
          have c4 : Builtin.Tuple.tupleTooMany (((its.toArray.size : Nat) : Int) * k) = false := by
            unfold Builtin.Tuple.tupleTooMany
            rw [sizeLine_eq]
            exact decide_eq_false (by omega)
          refine go (tuple_mulW l its.toArray n dd sl k t c0 c1' c2' (by omega) c4 (by rw [size_rep, List.size_toArray]; exact flen)) ?_
          rw [size_rep]
          refine PoE.tup (I.laid (t' := s.toks) (o := .tup (List.replicate k.toNat xs).flatten) (fun b ob q => Heap.get?_push_of_some _ q) (Nat.le_refl _) ?_) (I.hok.fresh (Nat.le_refl _)) R (td.rep _)
          exact ⟨by rw [PyProof.Rows.lm_len_rep_flat, ← hld, Nat.mul_comm, ← line_eq]; exact hz, _, r.rep k.toNat, IsTup.new _ _⟩
    · cases e
  · rename_i ds k
    split at e
    · rename_i hz
      obtain ⟨h1, hz⟩ := hz
      have h2 : k ≤ 1000000000 := by omega
      have h1 : -1000000000 ≤ k := by omega
      cases e
      obtain ⟨l, o, xs, rfl, hT, td⟩ := rd_lst q1
      have e2 := rd_int q2
      subst e2
      cases r1
      obtain ⟨t, rfl⟩ := r2
      obtain ⟨its, n, r, e0, z0⟩ := lstF I hT
      have hl := r.length
      have hld := td.length
      have hlen : its.toArray.size * k.toNat ≤ sizeLine := by rw [List.size_toArray, ← hl, ← hld, ← line_eq]; exact hz
      have hcap : ¬ its.toArray.size * k.toNat > (2 ^ 63 - 1) / 8 := by
        have : (sizeLine : Nat) ≤ (2 ^ 63 - 1) / 8 := by decide
        omega
      have hfit : ¬ (!Builtin.List.listFitsIndex k) = true := by
        rw [fitsIndex_both (by omega) (by omega)]
        exact Bool.false_ne_true
      have hlong : ¬ Builtin.List.listTooLong (its.toArray.size * k.toNat) = true := by
        rw [notLongL hlen]
        exact Bool.false_ne_true
      have hnew : List.foldl (fun x1 x2 => x1 ++ x2) #[] (List.replicate (if its.toArray.isEmpty = true then 0 else k.toNat) its.toArray) = (List.replicate k.toNat its).flatten.toArray := by
        rw [size_rep]
        cases its with
        | nil => simp
        | cons a r' => rw [if_neg (by simp)]
      refine wpAny_binaryOp_repeat_ref (T := "list") (U := "int") (by decide) ⟨_, e0, rfl⟩ (fun s' => typeIs_int s' k t) noFill_list_mul F.fills_int_mul F.slot_int_rmul repeat_list F.slot_int_index.lookup
        (call_meets F.slot_int_rmul (typeIs_int s k t) F.entry_int_rmul (F.args_int_rmul_2 _ _) (int___rmul___int_list k t l its.toArray n)
          ⟨e0, rfl, ⟨_, e0, rfl⟩, call_meets F.slot_list_mul ⟨_, e0, rfl⟩ F.entry_list_mul (F.args_list_mul_2 _ _) (AutoListH.list___mul___list_int_3 l its.toArray n k t hfit hcap hlong) ⟨e0, ?_⟩⟩)
      rw [hnew]
      exact PoE.lst (I.lnew (t' := s.toks) (r.rep k.toNat) (by rw [PyProof.Rows.lm_len_rep_flat, Nat.mul_comm, ← hld, ← line_eq]; exact hz)) I.fresh R (td.rep _)
    · cases e
end
end BR

set_option Elab.async false
set_option linter.all false
set_option maxRecDepth 100000
set_option maxHeartbeats 2000000
namespace BR
open PySem PySem.Spec PyProof.Rows L2
variable [Tbs]
section
variable {G : EX} {X : Cx} {α α' : List Addr} {δ : PL.Env} {S : PL.Sto} {σ : L2.St} {H H' : Hp} {pins : List (Addr × Obj)} {s : Shared}
variable {a b c e : Expr} {ma mb mc m : PL.ME} {pos : Pos} {es : List Expr} {mas : PL.MA}

/-- a mirrored expression as an expression of HandS -/
def tOf (G : EX) (X : Cx) (m : PL.ME) : TE := fun σ H Q => ∃ α δ S, Rel X.K α δ S σ H ∧ m δ S ≠ none ∧ (∀ x S1, m δ S = some (.ex x S1) → Takes X (WE G X α σ H x S1)) ∧
  ∀ d S1, m δ S = some (.ok d S1) → ∀ α1 v H1, Ext α H α1 H1 → Rel X.K α1 δ S1 σ H1 → RD X.K α1 H1 d v → Q v H1
theorem CE.pe (h : CE G X e m) : PE X e (tOf G X m) := ⟨fun pins s σ H Q I ⟨α, δ, S, R, no, tk, q⟩ =>
  h.step I R no tk fun d S1 hd α1 v H1 u s1 I1 rv x R1 rd => ⟨v, H1, I1, rv, q d S1 hd α1 v H1 x R1 rd⟩⟩
theorem CE.ofX {t : TE} (h : PE X e t) (q : ∀ δ S r, m δ S = some r → ∀ α σ H, Rel X.K α δ S σ H → TkE G X α σ H r → t σ H (PoV X.K α δ σ H r)) : CE G X e m :=
  ⟨fun δ S r hm α pins s σ H I R tk => thn (h.run pins s σ H _ I (q δ S r hm α σ H R tk)) fun u s' hu => PoE.ofV hu⟩
theorem PoV.ext {r : PL.RE} {v : V} {H1 : Hp} (h : PoV X.K α' δ σ H' r v H1) (e : Ext α H α' H') : PoV X.K α δ σ H r v H1 := by
  cases r with
  | ok d S => obtain ⟨a, x, q⟩ := h; exact ⟨a, e.trans x, q⟩
  | ex x S => exact h
/-- the reading of a mirrored expression inside a reading -/
theorem tOf.go {k : PL.D → PL.Sto → Option PL.RE} {r : PL.RE} (R : Rel X.K α δ S σ H) (hk : PL.bE (m δ S) k = some r) (tk : TkE G X α σ H r) {Q : VK}
    (q : ∀ d S1, k d S1 = some r → ∀ α1 v H1, Ext α H α1 H1 → Rel X.K α1 δ S1 σ H1 → RD X.K α1 H1 d v → TkE G X α1 σ H1 r → Q v H1) : tOf G X m σ H Q := by
  refine ⟨α, δ, S, R, (fun z => by rw [z] at hk; cases hk), fun x S1 c => ?_, fun d S1 c α1 v H1 x R1 rd => ?_⟩
  · rw [c] at hk; cases hk; exact tk
  · rw [c] at hk; exact q d S1 hk α1 v H1 x R1 rd (tk.ext x)

/-! ### arguments, displays -/
theorem ca_cons (ha : CE G X e m) (hr : CA G X es mas) (hs : starEach (e :: es) X.env = (false, eval e X.env) :: starEach es X.env := by rfl) : CA G X (e :: es) (PL.mConsA m mas) := by
  refine ⟨fun pos δ S r hm α pins s σ H I R tk => ?_⟩
  rw [hs]
  show wpAny _ _ (spliced ((false, eval e X.env) :: backTo pos (starEach es X.env))) _ _ s
  refine Calls.spliced_cons (ha.thenA I R hm tk fun d S1 h1 α1 v H1 u s1 I1 rv x1 R1 q1 tk1 => ?_)
  refine hr.thenA pos I1 R1 h1 tk1 fun ds S2 h2 α2 vs H2 us s2 I2 rvs x2 R2 q2 tk2 => ?_
  cases h2
  exact ⟨α2, v :: vs, H2, I2, .cons rv rvs, x1.trans x2, R2, .cons (q1.mono x2) q2⟩
theorem c_tup {k} (h : CA G X es mas) : CE G X (.Tuple es k pos) (PL.mTup mas) := by
  refine ⟨fun δ S r hm α pins s σ H I R tk => ?_⟩
  refine wpAny_Tuple_spliced (h.then pos I R hm tk fun ds S1 h1 α1 vs H1 us s1 I1 rv x1 R1 q1 tk1 => ?_)
  have hl := q1.length
  split at h1
  · rename_i hz
    cases h1
    refine ⟨by rw [← rv.length, ← hl, ← line_eq]; exact hz, ?_⟩
    refine (PoE.tup (p := s1.heap.objs.size) (I1.laid (t' := s1.toks) (o := .tup vs) (fun b u e => Heap.get?_push_of_some _ e) (Nat.le_refl _) ?_) (I1.hok.fresh (Nat.le_refl _)) R1 q1).ext x1
    exact ⟨by rw [← hl, ← line_eq]; exact hz, us, rv, ⟨_, Heap.get?_push_size _ rfl, rfl, _, rfl⟩⟩
  · cases h1
/-- a list display: what stands behind it -/
theorem list_display {r : PL.RE} {k : List PL.D → PL.Sto → Option PL.RE} (h : CA G X es mas) (hm : PL.bA (mas δ S) k = some r) (I : Inv X pins σ H s) (R : Rel X.K α δ S σ H) (tk : TkE G X α σ H r)
    (hk : ∀ ds S1, k ds S1 = some r → ds.length ≤ PL.LINE)
    (q : ∀ ds S1, k ds S1 = some r → ∀ α1 vs H1 p s2, Inv X pins σ (upd H1 p (.lst vs)) s2 → H1 p = none → Ext α H α1 H1 → Rel X.K α1 δ S1 σ H1 → RDs X.K α1 H1 ds vs → PoE X pins α1 δ σ H1 r (.ref p) s2) :
    wpAny (model X.prog X.w) X.A (eval (.List es pos) X.env) (PoE X pins α δ σ H r) X.xe s := by
  refine wpAny_List_spliced (h.then pos I R hm tk fun ds S1 h1 α1 vs H1 us s1 I1 rv x1 R1 q1 tk1 => ?_)
  have hl := q1.length
  have hz := hk ds S1 h1
  refine ⟨by rw [← rv.length, ← hl, ← line_eq]; exact hz, ?_⟩
  refine (q ds S1 h1 α1 vs H1 s1.heap.objs.size _ (I1.laid (t' := s1.toks) (o := .lst vs) (fun b u e => Heap.get?_push_of_some _ e) (Nat.le_refl _) ?_) (I1.hok.fresh (Nat.le_refl _)) x1 R1 q1).ext x1
  exact ⟨by rw [← hl, ← line_eq]; exact hz, us, 0, rv, Heap.get?_push_size _ rfl⟩
theorem if_inv {α : Type} {p : Prop} [Decidable p] {x : α} {r : α} (h : (if p then some x else none) = some r) : p ∧ x = r := by
  split at h
  · rename_i z; cases h; exact ⟨z, rfl⟩
  · cases h
theorem c_lst (h : CA G X es mas) : CE G X (.List es pos) (PL.mLst mas) :=
  ⟨fun δ S r hm α pins s σ H I R tk => list_display h hm I R tk (fun ds S1 h1 => (if_inv h1).1) fun ds S1 h1 α1 vs H1 p s2 I2 hp x1 R1 q1 => by
    split at h1
    · cases h1; exact PoE.lst I2 hp R1 q1
    · cases h1⟩
theorem c_newlst (h : CA G X es mas) : CE G X (.List es pos) (PL.mNewLst mas) :=
  ⟨fun δ S r hm α pins s σ H I R tk => list_display h hm I R tk (fun ds S1 h1 => (if_inv h1).1.1) fun ds S1 h1 α1 vs H1 p s2 I2 hp x1 R1 q1 => by
    split at h1
    · rename_i z; cases h1; exact PoE.new I2 hp R1 q1 z.2
    · cases h1⟩

/-! ### tests, and or not -/
theorem c_bool (h : CE G X e m) (he : ∀ whole, isTrue e X.env whole = (do let v ← whole; standAt e.pos; holding [v] (truthy v)) := by intro _; rfl) : CT G X e (PL.mB m) := by
  refine ⟨fun δ S r hm α pins s σ H I R tk => ?_⟩
  refine isTrue_plain (h.thenT I R hm tk fun d S1 h1 α1 v H1 u s1 I1 rv x1 R1 q1 tk1 => ?_) (he _)
  cases d <;> try cases h1
  have e1 := rd_bl q1
  subst e1
  cases rv
  exact wpAny_truthy_bool ⟨rfl, α1, H1, I1, x1, R1⟩
theorem c_cmpT {op : CmpOp} {f : PL.D → PL.D → Option PL.D} (ho : OpD X (compareOp op) f) (ha : CE G X a ma) (hb : CE G X b mb) (h1 : behindInMarks op b = false := by first | exact nobehind _ (by decide) (by decide) | rfl) :
    CT G X (.Compare a [op] [b] pos) (PL.mB (PL.mBin f ma mb)) := by
  refine ⟨fun δ S r hm α pins s σ H I R tk => ?_⟩
  unfold PL.mB at hm
  cases c : PL.mBin f ma mb δ S with
  | none => rw [c] at hm; cases hm
  | some r0 =>
    rw [c] at hm
    cases r0 with
    | ex x S1 =>
      cases hm
      refine wpAny_isTrue_Compare1 (thn (two ho ha hb c I R tk) fun v s1 h1 => thn h1 fun u s2 h2 => thn h2 fun w s3 h3 => h3.elim) h1
    | ok d S1 =>
      refine wpAny_isTrue_Compare1 (thn (two ho ha hb c I R trivial) fun v s1 h1 => thn h1 fun u s2 h2 => thn h2 fun w s3 h3 => ?_) h1
      obtain ⟨α1, v1, H1, I1, rv, x1, R1, q1⟩ := h3
      cases d <;> try cases hm
      have e1 := rd_bl q1
      subst e1
      cases rv
      exact wpAny_truthy_bool ⟨rfl, α1, H1, I1, x1, R1⟩
variable {ta tb : PL.MT} {rest : List Expr}
theorem CW.ct (h : CW G X e ta) : CT G X e ta := ⟨h.run _⟩
theorem cw_and1 (ha : CT G X a ta) : CW G X (.BoolOp .And [a] pos) ta := ⟨fun wh δ S r hm α pins s σ H I R tk => by
  refine isTrue_and (thn (ha.run δ S r hm α pins s σ H I R tk) fun c s1 e => ?_)
  cases c with
  | true => exact isTrue_and_nil e
  | false => exact e⟩
theorem cw_or1 (ha : CT G X a ta) : CW G X (.BoolOp .Or [a] pos) ta := ⟨fun wh δ S r hm α pins s σ H I R tk => by
  refine isTrue_or (thn (ha.run δ S r hm α pins s σ H I R tk) fun c s1 e => ?_)
  cases c with
  | false => exact isTrue_or_nil e
  | true => exact e⟩
theorem cw_and (ha : CT G X a ta) (hb : CW G X (.BoolOp .And (b :: rest) pos) tb) : CW G X (.BoolOp .And (a :: b :: rest) pos) (PL.mAndT ta tb) := ⟨fun wh δ S r hm α pins s σ H I R tk => by
  refine isTrue_and (ha.thenT I R hm tk fun c S1 h1 α1 H1 s1 I1 x1 R1 tk1 => ?_)
  cases c with
  | true => exact thn (hb.run wh δ S1 r h1 α1 pins s1 σ H1 I1 R1 tk1) fun c s2 h2 => h2.ext x1
  | false => cases h1; exact ⟨rfl, α1, H1, I1, x1, R1⟩⟩
theorem cw_or (ha : CT G X a ta) (hb : CW G X (.BoolOp .Or (b :: rest) pos) tb) : CW G X (.BoolOp .Or (a :: b :: rest) pos) (PL.mOrT ta tb) := ⟨fun wh δ S r hm α pins s σ H I R tk => by
  refine isTrue_or (ha.thenT I R hm tk fun c S1 h1 α1 H1 s1 I1 x1 R1 tk1 => ?_)
  cases c with
  | true => cases h1; exact ⟨rfl, α1, H1, I1, x1, R1⟩
  | false => exact thn (hb.run wh δ S1 r h1 α1 pins s1 σ H1 I1 R1 tk1) fun c s2 h2 => h2.ext x1⟩
theorem c_notT (ha : CT G X a ta) : CT G X (.UnaryOp .Not a pos) (PL.mNotT ta) := ⟨fun δ S r hm α pins s σ H I R tk => by
  refine isTrue_not (ha.thenT I R hm tk fun c S1 h1 α1 H1 s1 I1 x1 R1 tk1 => ?_)
  cases h1; exact ⟨rfl, α1, H1, I1, x1, R1⟩⟩
theorem c_one {op} (h : CE G X a m) : CE G X (.BoolOp op [a] pos) m := ⟨fun δ S r hm α pins s σ H I R tk => BoolOp_one (h.run δ S r hm α pins s σ H I R tk)⟩
theorem c_andV (ha : CE G X a ma) (hb : CE G X (.BoolOp .And (b :: rest) pos) mb) : CE G X (.BoolOp .And (a :: b :: rest) pos) (PL.mAndV ma mb) := ⟨fun δ S r hm α pins s σ H I R tk => by
  refine BoolOp_and (ha.then I R hm tk fun d S1 h1 α1 v H1 u s1 I1 rv x1 R1 q1 tk1 => ?_)
  cases d <;> try cases h1
  rename_i c
  have e1 := rd_bl q1
  subst e1
  cases rv
  refine wpAny_truthy_bool ?_
  cases c with
  | true => exact thn (hb.run δ S1 r h1 α1 pins s1 σ H1 I1 R1 tk1) fun c s2 h2 => h2.ext x1
  | false => cases h1; exact (PoE.here (v := .bl _) I1 rfl R1 q1).ext x1⟩
theorem c_orV (ha : CE G X a ma) (hb : CE G X (.BoolOp .Or (b :: rest) pos) mb) : CE G X (.BoolOp .Or (a :: b :: rest) pos) (PL.mOrV ma mb) := ⟨fun δ S r hm α pins s σ H I R tk => by
  refine BoolOp_or (ha.then I R hm tk fun d S1 h1 α1 v H1 u s1 I1 rv x1 R1 q1 tk1 => ?_)
  cases d <;> try cases h1
  rename_i c
  have e1 := rd_bl q1
  subst e1
  cases rv
  refine wpAny_truthy_bool ?_
  cases c with
  | false => exact thn (hb.run δ S1 r h1 α1 pins s1 σ H1 I1 R1 tk1) fun c s2 h2 => h2.ext x1
  | true => cases h1; exact (PoE.here (v := .bl _) I1 rfl R1 q1).ext x1⟩
theorem c_notV (ha : CE G X a ma) : CE G X (.UnaryOp .Not a pos) (PL.mNotV ma) := ⟨fun δ S r hm α pins s σ H I R tk => by
  refine UnaryOp_ (ha.then I R hm tk fun d S1 h1 α1 v H1 u s1 I1 rv x1 R1 q1 tk1 => ?_)
  cases d <;> try cases h1
  rename_i c
  have e1 := rd_bl q1
  subst e1
  cases rv
  exact not_of (wpAny_truthy_bool ((PoE.here (v := .bl _) I1 rfl R1 mk_bl).ext x1))⟩
theorem c_ifExp (hc : CT G X c ta) (ha : CE G X a ma) (hb : CE G X b mb) : CE G X (.IfExp c a b pos) (PL.mIf ta ma mb) := ⟨fun δ S r hm α pins s σ H I R tk => by
  refine wpAny_IfExp (hc.then I R hm tk fun k S1 h1 α1 H1 s1 I1 x1 R1 tk1 => ?_)
  cases k with
  | true => exact thn (ha.run δ S1 r h1 α1 pins s1 σ H1 I1 R1 tk1) fun c s2 h2 => h2.ext x1
  | false => exact thn (hb.run δ S1 r h1 α1 pins s1 σ H1 I1 R1 tk1) fun c s2 h2 => h2.ext x1⟩

/-! ### a chain of two comparisons -/
theorem c_chain {op op' : CmpOp} {f g : PL.D → PL.D → Option PL.D} (ho : OpD X (compareOp op) f) (ho' : OpD X (compareOp op') g) (ha : CE G X a ma) (hb : CE G X b mb) (hc : CE G X c mc)
    (hm : lastMarks [op, op'] [b, c] = false := by with_unfolding_all rfl) : CE G X (.Compare a [op, op'] [b, c] pos) (PL.mChain f g ma mb mc) := ⟨fun δ S r h0 α pins s σ H I R tk => by
  refine Compare_chain (ha.then I R h0 tk fun x S1 h1 α1 v H1 u1 s1 I1 rv x1 R1 q1 tk1 => chain_link (hb.then I1 R1 h1 tk1 fun y S2 h2 α2 w H2 u2 s2 I2 rw x2 R2 q2 tk2 => ?_)) hm
  cases hf : f x y with
  | none => rw [hf] at h2; cases h2
  | some z =>
    rw [hf] at h2
    refine thn (ho x y z hf α2 δ S2 pins s2 σ H2 v w u1 u2 I2 R2 (q1.mono x2) q2 rv rw) fun d s3 h3 => ?_
    obtain ⟨α3, v3, H3, I3, r3, x3, R3, q3⟩ := h3
    cases z <;> try cases h2
    rename_i k
    have e1 := rd_bl q3
    subst e1
    cases r3
    refine wpAny_truthy_bool ?_
    cases k with
    | false => cases h2; exact ite_ff ((PoE.here (v := .bl _) I3 rfl R3 mk_bl).ext ((x1.trans x2).trans x3))
    | true =>
      refine ite_tt (chain_last (hc.then I3 R3 h2 (tk2.ext x3) fun z S4 h4 α4 v4 H4 u4 s4 I4 r4 x4 R4 q4 tk4 => ?_))
      obtain ⟨z', e', rfl⟩ := map_inv h4
      exact thn (ho' y z z' e' α4 δ S4 pins s4 σ H4 w v4 u2 u4 I4 R4 ((q2.mono x3).mono x4) q4 rw r4) fun u s' h => h.ext (((x1.trans x2).trans x3).trans x4)⟩
end
end BR

set_option Elab.async false
set_option linter.all false
set_option maxRecDepth 100000
set_option maxHeartbeats 2000000
/-! ## defs and their calls -/
namespace BR
open PySem PySem.Spec PyProof.Rows L2
variable [Tbs]

/-- a place where the rules may be used: calls have room, nothing is being handled, no repr is under way -/
structure Cz (k : Nat) (X : Cx) : Prop where
  nd : X.N.Nodup
  calm : X.calm = true
  room : Room k X.A
  gd : X.A.guards = some []
  po : PassesOwn (model X.prog X.w) X.A X.env X.xe
/-- .. a place where no call is made -/
structure Cv (X : Cx) : Prop where
  nd : X.N.Nodup
  un : X.A.units + 200 < cLine
  gd : X.A.guards = some []
theorem Cz.v {k : Nat} {X : Cx} (c : Cz k X) : Cv X := ⟨c.nd, by have := c.room.un; omega, c.gd⟩
theorem Cz.mono {j k : Nat} {X : Cx} (c : Cz k X) (h : j ≤ k) : Cz j X := ⟨c.nd, c.calm, c.room.mono h, c.gd, c.po⟩

/-- what is wanted behind a call -/
def Wants (G : EX) (K : PySem.W.Frag) (α : List Addr) (H : Hp) (r : PL.RE) (Q : VK) (E : XK) : Prop := match r with
  | .ok d S' => ∀ v α' H', Ext α H α' H' → RSt K α' S' H' → RD K α' H' d v → Q v H'
  | .ex x S' => ∀ cls dd α' H', Ext α H α' H' → RSt K α' S' H' → RX G K α' H' cls dd x → E cls dd H'
/-- the def at f does what the mirror's function m says, by at most level k -/
structure FnC (G : EX) (P : Program) (w : World) (K : PySem.W.Frag) (mg : Str → Option Value) (base : Heap) (k : Nat) (f : Addr) (fd : FuncData) (ps : List Str) (m : PL.MF) : Prop where
  len : ∀ ds S r, m ds S = some r → ds.length = ps.length
  run : ∀ (A : Around) (outer : List Env) (s : Shared) (H : Hp) (args : Args) (us : List Value) (vs : List V) (Q : VK) (E : XK) (α : List Addr) (ds : List PL.D) (S : PL.Sto) (r : PL.RE), Room k A → A.guards = some [] →
    Env0 P w K mg base A outer s H → BindsTo s fd args (ps.zip us) → Vals vs us → RSt K α S H → RDs K α H ds vs → m ds S = some r → Wants G K α H r Q E →
    codeAny (model P w) A (.call (.ref f) args) (CR (L2.CX P w) outer P w H s Q E) s
theorem FnC.mono {G : EX} {P : Program} {w : World} {K : PySem.W.Frag} {mg : Str → Option Value} {base : Heap} {j k : Nat} {f : Addr} {fd : FuncData} {ps : List Str} {m : PL.MF} (F : FnC G P w K mg base j f fd ps m) (h : j ≤ k) :
    FnC G P w K mg base k f fd ps m := ⟨F.len, fun A outer s H args us vs Q E α ds S r hr => F.run A outer s H args us vs Q E α ds S r (hr.mono h)⟩

section
variable {G : EX} {X : Cx} {α α' : List Addr} {δ : PL.Env} {S : PL.Sto} {σ : L2.St} {H H' : Hp} {pins : List (Addr × Obj)} {s : Shared}
variable {k : Nat} {f : Addr} {fd : FuncData} {ps : List Str} {m : PL.MF} {dds : List PL.D} {dvs : List V} {ds : List Value} {x : Str} {p pos : Pos} {e : Expr} {es : List Expr} {ma : PL.MA}
/-- the callee runs -/
theorem run_c (F : FnC G X.prog X.w X.K X.mg X.base k f fd ps m) (hX : Cz k X) (hb : Binds X.K fd ps ds) (hd : Vals dvs ds) (I : Inv X pins σ H s) (R : Rel X.K α δ S σ H) {us : List Value} {vs : List V} {as : List PL.D} {r : PL.RE}
    (rv : Vals vs us) (q : RDs X.K α H as vs) (qd : RDs X.K α H dds dvs) (hm : m (as ++ dds) S = some r) (tk : TkE G X α σ H r) : wpAny (model X.prog X.w) X.A (call (.ref f) us) (PoE X pins α δ σ H r) X.xe s := by
  have r2 : Vals (vs ++ dvs) (us ++ ds) := rv.append hd
  have q2 := q.append qd
  have hl : (us ++ ds).length = ps.length := by rw [← r2.length, ← q2.length]; exact F.len _ _ _ hm
  have fin : ∀ (E : XK), (∀ (e : Value) (s' : Shared), L2.CX X.prog X.w X.stack H s E e s' → X.xe e s') → Wants G X.K α H r (fun v H' => PoV X.K α δ σ H r v H') E → wpAny (model X.prog X.w) X.A (call (.ref f) us) (PoE X pins α δ σ H r) X.xe s := fun E hE hW => by
    refine wpAny_call (codeAny_mono (F.run X.A X.stack s H ⟨us, []⟩ (us ++ ds) (vs ++ dvs) _ E α _ S r hX.room hX.gd I.env0 (hb s us I.kIn hl) r2 R.st q2 hm hW) fun r' s' hq => ?_)
    cases r' with
    | error e => exact hE e s' hq
    | ok fl =>
      cases fl with
      | ret u => exact PoE.ofV (I.after hq)
      | next => exact False.elim hq
      | brk => exact False.elim hq
      | cont => exact False.elim hq
  cases r with
  | ok d S1 =>
    refine fin (fun _ _ _ => False) (fun e s' hc => ?_) fun v α1 H1 x1 R1 q1 => ⟨α1, x1, R.mono x1 R1, q1⟩
    obtain ⟨_, _, _, _, _, _, _, _, _, _, _, _, z⟩ := hc
    exact z.elim
  | ex x S1 =>
    refine fin (fun cls dd H' => ∃ α', Ext α H α' H' ∧ RSt X.K α' S1 H' ∧ RX G X.K α' H' cls dd x) (fun e s' hc => ?_) fun cls dd α1 H1 x1 R1 q1 => ⟨α1, x1, R1, q1⟩
    exact tk e s' (XE.of_call I (fun cls dd H' ⟨a, x1, R1, q1⟩ => ⟨rfl, a, x1, R1, q1⟩) hc)
/-- f(e, ..): a def of the module -/
theorem c_call (F : FnC G X.prog X.w X.K X.mg X.base k f fd ps m) (hX : Cz k X) (hm : X.mg x = some (.ref f)) (hk : PySem.W.keepIn X.K (.ref f) = true) (hb : Binds X.K fd ps []) (ha : CA G X (e :: es) ma)
    (hg : Gl X x := by rfl) (hdb : (x == ("__debug__" : Str)) = false := by decide) (he : starEach (e :: es) X.env = (false, eval e X.env) :: starEach es X.env := by rfl) (hpl : (backTo pos (starEach es X.env)).any (·.1) = false := by rfl) :
    CE G X (.Call (.Name x p) (e :: es) [] pos) (PL.mCall m ma) := ⟨fun δ S r h0 α pins s σ H I R tk => by
  refine wpAny_Call_Name_kw (ld_glob I hg hm ?_ hdb)
  refine PySem.W.callWith_K (h₀ := X.base) I.ok.mod.kin hk (ha.then pos I R h0 tk fun as S1 h1 α1 vs H1 us s1 I1 rv x1 R1 q1 tk1 => ⟨I1.kIn, ?_⟩) he hpl
  exact thn (run_c F hX hb .nil I1 R1 rv q1 .nil (by rw [List.append_nil]; exact h1) tk1) fun u s' hu => hu.ext x1⟩
/-- f() -/
theorem c_call0 (F : FnC G X.prog X.w X.K X.mg X.base k f fd ps m) (hX : Cz k X) (hm : X.mg x = some (.ref f)) (hk : PySem.W.keepIn X.K (.ref f) = true) (hb : Binds X.K fd ps [])
    (hg : Gl X x := by rfl) (hdb : (x == ("__debug__" : Str)) = false := by decide) : CE G X (.Call (.Name x p) [] [] pos) (PL.mCall m PL.mNilA) := ⟨fun δ S r h0 α pins s σ H I R tk => by
  refine wpAny_Call_Name_kw (ld_glob I hg hm ?_ hdb)
  exact PySem.W.callWith_K0 I.kIn hk (run_c (us := []) F hX hb .nil I R .nil .nil .nil h0 tk)⟩
end

/-! ### a def by its body -/
section
variable {G : EX} {P : Program} {w : World} {K : PySem.W.Frag} {mg : Str → Option Value} {base : Heap}
theorem start_rel {α : List Addr} {S : PL.Sto} {H : Hp} {ds : List PL.D} {vs : List V} {N : List Str} {nl : Nat} (R : RSt K α S H) (q : RDs K α H ds vs) (hN : N.length = ds.length + nl) :
    Rel K α (ds.map some ++ List.replicate nl none) S (L2.start N vs) H := by
  have hl := q.length
  refine ⟨R, ?_, fun i d e => ?_⟩
  · unfold L2.start
    rw [List.length_append, List.length_append, List.length_map, List.length_map, List.length_replicate, List.length_replicate]
    omega
  · by_cases hi : i < ds.length
    · rw [List.getElem?_append_left (by simpa using hi), List.getElem?_map] at e
      cases hd : ds[i]? with
      | none => rw [hd] at e; cases e
      | some d' =>
        rw [hd] at e
        cases e
        obtain ⟨v, e1, q1⟩ := q.get hd
        refine ⟨v, ?_, q1⟩
        unfold L2.start
        rw [List.getElem?_append_left (by rw [List.length_map]; omega), List.getElem?_map, e1]; rfl
    · rw [List.getElem?_append_right (by simpa using hi), List.getElem?_replicate] at e
      split at e <;> cases e
/-- what a body's end is behind the call -/
def RetOk (r : PL.RS) (mres : PL.RE) : Prop := match r with
  | .rt d S1 => mres = .ok d S1
  | .nx _ S1 => mres = .ok .non S1
  | .ex x _ S1 => mres = .ex x S1
  | _ => False
theorem fnc_core {k : Nat} {f : Addr} {x qual : Str} {st : Stmt} {fd : FuncData} {N ps : List Str} {nl : Nat} {mb : PL.MS} {m : PL.MF} (F : Fun K x qual st f fd) (Sc : FnScope N ps (defScope st)) (hN : N.length = ps.length + nl)
    (hm : ∀ ds S r, m ds S = some r → ds.length = ps.length ∧ ∃ r0 r1, mb (ds.map some ++ List.replicate nl none) S = some r0 ∧ RetOk r0 r1 ∧
      ∀ (α α1 : List Addr) (H H1 : Hp) (Q : VK) (E : XK), RSt K α S H → α.length = S.length → Wants G K α H r Q E → Wants G K α H r1 Q E)
    (hbody : ∀ (cdv : Value) (A : Around) (outer : List Env) (s : Shared) (H : Hp) (E : XK), Cz k (cxOf (L2.CX P w) P w K mg base N qual (defScope st) f cdv A outer s H E) →
      CSs G (cxOf (L2.CX P w) P w K mg base N qual (defScope st) f cdv A outer s H E) (defBody st) mb) :
    FnC G P w K mg base (k + 1) f fd ps m := by
  obtain ⟨oc, od, kV, doc, pm, an, cdv, ct, osl, rfl, lk, hcd⟩ := F.ex
  refine ⟨fun ds S r h => (hm ds S r h).1, fun A outer s H args us vs Q E α ds S r hr hg e0 hb rv RS q hmr hW => ?_⟩
  obtain ⟨hl0, r0, r1, hr0, ret, hw⟩ := hm ds S r hmr
  have W1 := hw α α H H Q E RS RS.lenα hW
  have hl : vs.length = ps.length := by rw [← q.length]; exact hl0
  have KX : K.In s.heap := e0.mod.kin.keeps fun b o e => (e0.bs b o e).1
  have lim : s.heap.NoLimit := e0.mod.nolimit.keeps fun b o e => (e0.bs b o e).1
  have hkind : ∀ y ∈ ps.zip us, (defScope st).names.lookup y.1 = some .local ∨ ((defScope st).names.lookup y.1 = some .cell ∧ ((cellsFrom (s.heap.objs.size + 1) (defScope st).names []).lookup y.1).isSome = true) := by
    rintro ⟨n, v⟩ hy
    rcases Sc.par n (List.of_mem_zip hy).1 with z | z
    · exact Or.inl z
    · exact Or.inr ⟨z, PySem.W.cellsFrom_some _ _ _ (.inl z)⟩
  refine codeAny_call_function hr.depth (KX _ _ lk) rfl Sc.co Sc.gen rfl (PySem.W.codeRec_of KX hcd) (hb _ _ _ _ ?_)
  refine wpAny_newFunctionEnv_cells Sc.kind hkind fun env he s1 xx => ?_
  subst he
  refine ⟨lim.keeps xx.toInCall.keep, codeAny_func ?_⟩
  have I : Inv (cxOf (L2.CX P w) P w K mg base N qual (defScope st) f cdv A outer s H E) [] (L2.start N vs) H s1 := inv_start Sc hr.hd e0 hl rv xx
  have hz : Cz k (cxOf (L2.CX P w) P w K mg base N qual (defScope st) f cdv A outer s H E) := ⟨Sc.nd, rfl, hr.deeper _, hg, passes_of rfl⟩
  have hR : Rel K α (ds.map some ++ List.replicate nl none) S (L2.start N vs) H := start_rel RS q (by rw [hN, hl0])
  have tk0 : Takes (cxOf (L2.CX P w) P w K mg base N qual (defScope st) f cdv A outer s H E) (fun cls d _ H' => E cls d H') := takes_of rfl rfl rfl rfl
  have tk : TkS G (cxOf (L2.CX P w) P w K mg base N qual (defScope st) f cdv A outer s H E) α H r0 := by
    cases r0 with
    | ex x δ' S1 =>
      have e1 : r1 = .ex x S1 := ret
      subst e1
      exact Takes.imp tk0 fun cls dd σ' H' ⟨a, x1, R1, q1⟩ => W1 cls dd a H' x1 R1.st q1
    | _ => trivial
  refine wpAny_mono ((hbody cdv A outer s H E hz).run _ S r0 hr0 α [] s1 (L2.start N vs) H I hR tk) (fun fl s' hs => ?_) fun e s' hs => hs
  have fin : ∀ {σ' : L2.St} {H' : Hp} {v : V} {u : Value}, Inv (cxOf (L2.CX P w) P w K mg base N qual (defScope st) f cdv A outer s H E) [] σ' H' s' → RelV v u → Q v H' → L2.CE outer P w H s Q u s' := by
    intro σ' H' v u J rv' q'
    exact ⟨v, H', J.os, J.bare, J.base, J.hok, rv', q'⟩
  cases r0 with
  | rt d S1 =>
    have e1 : r1 = .ok d S1 := ret
    subst e1
    obtain ⟨u, rfl, a, σ', H', v, J, rv', x1, R1, q1⟩ := hs
    exact fin J rv' (W1 v a H' x1 R1 q1)
  | nx δ' S1 =>
    have e1 : r1 = .ok .non S1 := ret
    subst e1
    obtain ⟨rfl, a, σ', H', J, x1, R1⟩ := hs
    exact fin (v := V.non) (u := Value.none) J rfl (W1 V.non a H' x1 R1.st mk_non)
  | bk _ _ => exact False.elim ret
  | ct _ _ => exact False.elim ret
  | ex _ _ _ => exact False.elim hs
theorem Ext.trunc {α α' : List Addr} {H H' : Hp} (x : Ext α H α' H') : Ext α H α H' := by
  obtain ⟨a1, a2, a3, a4, a5⟩ := x
  refine ⟨List.prefix_refl _, a2, fun a h => ?_, a4, a5⟩
  rcases h with h | ⟨d, hd, q⟩
  · exact .inl (.inl h)
  · exact a3 a (.inr ⟨d, a1.subset hd, q⟩)
theorem Wants.trunc {α : List Addr} {S S1 : PL.Sto} {H : Hp} {Q : VK} {E : XK} {d : PL.D} (RS : RSt K α S H) (hα : α.length = S.length) (hd : d.pure = true) (h : Wants G K α H (.ok d (S1.take S.length)) Q E) : Wants G K α H (.ok d S1) Q E := by
  intro v α' H' x R q
  have hp : α'.take S.length = α := by
    obtain ⟨t, rfl⟩ := x.1
    rw [← hα, List.take_left]
  have R2 := R.take S.length (by rw [hp]; exact Tbs.st _ _ _ _ (List.prefix_refl _) x.2.1 RS.m)
  rw [hp] at R2
  exact h v α H' x.trunc R2 (RD.pure hd q)
theorem Wants.truncX {α : List Addr} {S S1 : PL.Sto} {H : Hp} {Q : VK} {E : XK} {x : PL.Exn} (RS : RSt K α S H) (hα : α.length = S.length) (hd : x.val.pure = true) (h : Wants G K α H (.ex x (S1.take S.length)) Q E) : Wants G K α H (.ex x S1) Q E := by
  intro cls dd α' H' xt R q
  have hp : α'.take S.length = α := by
    obtain ⟨t, rfl⟩ := xt.1
    rw [← hα, List.take_left]
  have R2 := R.take S.length (by rw [hp]; exact Tbs.st _ _ _ _ (List.prefix_refl _) xt.2.1 RS.m)
  rw [hp] at R2
  obtain ⟨q1, d, v, q2, q3, q4⟩ := q
  exact h cls dd α H' xt.trunc R2 ⟨q1, d, v, q2, q3, RD.pure hd q4⟩
/-- THE RULE for a def -/
theorem fnc {k : Nat} {f : Addr} {x qual : Str} {st : Stmt} {fd : FuncData} {N ps : List Str} {np nl : Nat} {mb : PL.MS} (F : Fun K x qual st f fd) (Sc : FnScope N ps (defScope st)) (hp : ps.length = np) (hN : N.length = np + nl)
    (hbody : ∀ (cdv : Value) (A : Around) (outer : List Env) (s : Shared) (H : Hp) (E : XK), Cz k (cxOf (L2.CX P w) P w K mg base N qual (defScope st) f cdv A outer s H E) →
      CSs G (cxOf (L2.CX P w) P w K mg base N qual (defScope st) f cdv A outer s H E) (defBody st) mb) :
    FnC G P w K mg base (k + 1) f fd ps (PL.mFn np nl mb) := by
  refine fnc_core F Sc (by rw [hN, hp]) (fun ds S r h => ?_) hbody
  unfold PL.mFn at h
  split at h
  · rename_i hl
    refine ⟨by rw [hl, hp], ?_⟩
    split at h
    · rename_i d S1 e
      split at h
      · rename_i hd
        cases h
        exact ⟨_, .ok d S1, e, rfl, fun α α1 H H1 Q E R hα hW => Wants.trunc R hα hd hW⟩
      · cases h
    · rename_i δ1 S1 e
      cases h
      exact ⟨_, .ok .non S1, e, rfl, fun α α1 H H1 Q E R hα hW => Wants.trunc R hα rfl hW⟩
    · rename_i x δ1 S1 e
      split at h
      · rename_i hd
        cases h
        exact ⟨_, .ex x S1, e, rfl, fun α α1 H H1 Q E R hα hW => Wants.truncX R hα hd hW⟩
      · cases h
    · cases h
  · cases h
theorem fncR {k : Nat} {f : Addr} {x qual : Str} {st : Stmt} {fd : FuncData} {N ps : List Str} {np nl : Nat} {mb : PL.MS} (F : Fun K x qual st f fd) (Sc : FnScope N ps (defScope st)) (hp : ps.length = np) (hN : N.length = np + nl)
    (hbody : ∀ (cdv : Value) (A : Around) (outer : List Env) (s : Shared) (H : Hp) (E : XK), Cz k (cxOf (L2.CX P w) P w K mg base N qual (defScope st) f cdv A outer s H E) →
      CSs G (cxOf (L2.CX P w) P w K mg base N qual (defScope st) f cdv A outer s H E) (defBody st) mb) :
    FnC G P w K mg base (k + 1) f fd ps (PL.mFnR np nl mb) := by
  refine fnc_core F Sc (by rw [hN, hp]) (fun ds S r h => ?_) hbody
  unfold PL.mFnR at h
  split at h
  · rename_i hl
    refine ⟨by rw [hl, hp], ?_⟩
    split at h
    · rename_i d S1 e
      cases h
      exact ⟨_, .ok d S1, e, rfl, fun α α1 H H1 Q E R hα hW => hW⟩
    · rename_i δ1 S1 e
      cases h
      exact ⟨_, .ok .non S1, e, rfl, fun α α1 H H1 Q E R hα hW => hW⟩
    · rename_i x δ1 S1 e
      cases h
      exact ⟨_, .ex x S1, e, rfl, fun α α1 H H1 Q E R hα hW => hW⟩
    · cases h
  · cases h
end
end BR

set_option Elab.async false
set_option linter.all false
set_option maxRecDepth 100000
set_option maxHeartbeats 2000000
/-! ## items, slices, ==, built-ins -/
namespace BR
open PySem PySem.Spec PyProof.Rows L2
variable [Tbs]
section
variable {G : EX} {X : Cx} {α α' : List Addr} {δ : PL.Env} {S : PL.Sto} {σ : L2.St} {H H' : Hp} {pins : List (Addr × Obj)} {s : Shared}
variable {a b c e : Expr} {ma mb mc m : PL.ME} {pos : Pos} {es : List Expr} {mas : PL.MA}

/-- a sequence that is read -/
theorem seq_rd {d : PL.D} {ds : List PL.D} {v : V} (h : PL.seqOf S d = some ds) (R : Rel X.K α δ S σ H) (q : RD X.K α H d v) : ∃ p vs, v = .ref p ∧ (SqL X.K H p vs ∨ SqT X.K H p vs) ∧ RDs X.K α H ds vs := by
  cases d <;> simp only [PL.seqOf] at h <;> try cases h
  · obtain ⟨p, vs, e, q1, q2⟩ := rd_tup q
    exact ⟨p, vs, e, .inr q1, q2⟩
  · obtain ⟨p, o, vs, e, q1, q2⟩ := rd_lst q
    exact ⟨p, vs, e, .inl (frz_sq q1), q2⟩
  · rename_i n
    split at h
    · rename_i xs hs
      cases h
      obtain ⟨p, e1, e2⟩ := rd_ref q
      obtain ⟨β, h1, h2, nd, hb, ob⟩ := R.st.b
      obtain ⟨p', b', e3, e4, ⟨vs, e5, e6⟩, _⟩ := ob n _ hs
      rw [e1] at e3; cases e3
      exact ⟨p, vs, e2, .inl (SqL.of e5), e6⟩
    · cases h
theorem ixN_eq (n : Nat) (i : Int) : PL.ixN n i = L2.ixN n i := rfl
theorem at_rd {ds : List PL.D} {vs : List V} {i : Int} {z : PL.D} (q : RDs X.K α H ds vs) (h : ((PL.ixN ds.length i).bind fun j => ds[j]?) = some z) : ∃ w, L2.atI vs i = some w ∧ RD X.K α H z w := by
  have hl := q.length
  unfold L2.atI
  rw [← hl, ← ixN_eq]
  cases hj : PL.ixN ds.length i with
  | none => rw [hj] at h; cases h
  | some j =>
    rw [hj] at h
    exact q.get h
theorem opIx_inv {S : PL.Sto} {x y z : PL.D} (h : PL.opIx S x y = some z) : ∃ i, y = .int i ∧ ((∃ l j c, x = .str l ∧ l.length ≤ PL.LINE ∧ PL.ixN l.length i = some j ∧ l[j]? = some c ∧ z = .str [c]) ∨
    ∃ ds, PL.seqOf S x = some ds ∧ ((PL.ixN ds.length i).bind fun j => ds[j]?) = some z) := by
  have gen : ∀ i, ((PL.seqOf S x).bind fun xs => (PL.ixN xs.length i).bind fun j => xs[j]?) = some z → ∃ ds, PL.seqOf S x = some ds ∧ ((PL.ixN ds.length i).bind fun j => ds[j]?) = some z := fun i h => by
    cases hq : PL.seqOf S x with
    | none => rw [hq] at h; cases h
    | some xs => rw [hq] at h; exact ⟨xs, rfl, h⟩
  cases y with
  | int i =>
    refine ⟨i, rfl, ?_⟩
    cases x with
    | str l =>
      refine .inl ?_
      simp only [PL.opIx] at h
      split at h
      · rename_i hl
        cases hj : PL.ixN l.length i with
        | none => rw [hj] at h; cases h
        | some j =>
          rw [hj, Option.bind_some] at h
          cases hc : l[j]? with
          | none => rw [hc] at h; cases h
          | some c => rw [hc] at h; cases h; exact ⟨l, j, c, rfl, hl, hj, hc, rfl⟩
      · cases h
    | _ => exact .inr (gen i h)
  | non => simp [PL.opIx] at h
  | bl _ => simp [PL.opIx] at h
  | str _ => simp [PL.opIx] at h
  | tup _ => simp [PL.opIx] at h
  | lst _ => simp [PL.opIx] at h
  | ref _ => simp [PL.opIx] at h
  | adr _ => simp [PL.opIx] at h
  | emp => simp [PL.opIx] at h
  | exn _ _ _ _ => simp [PL.opIx] at h
/-- x[i] -/
theorem c_ix (ha : CE G X a ma) (hb : CE G X b mb) (hs : PlainIx b := by exact fun _ _ => rfl) : CE G X (.Subscript a b pos) (PL.mBinS PL.opIx ma mb) := ⟨fun δ S r hm α pins s σ H I R tk => by
  refine Subscript_ (ha.then I R hm tk fun x S1 h1 α1 v H1 u1 s1 I1 rv x1 R1 q1 tk1 => hb.then I1 R1 h1 tk1 fun y S2 h2 α2 w H2 u2 s2 I2 rw x2 R2 q2 tk2 => ?_)
  obtain ⟨z, hz, rfl⟩ := map_inv h2
  have q1 := q1.mono x2
  refine thn ?_ fun u s' (h : PoE X pins α2 δ σ H2 (.ok z S2) u s') => h.ext (x1.trans x2)
  obtain ⟨i, ey, h5⟩ := opIx_inv hz
  clear hz
  subst ey
  have e2 := rd_int q2
  subst e2
  rcases h5 with ⟨l, j, c, ex, hl, hj, hc, ez⟩ | ⟨ds, hq, hz⟩
  · subst ex ez
    obtain ⟨x0, rfl, hx⟩ := rd_str q1
    have hlen : x0.length = l.length := by rw [← hx]; simp [Str.length]
    refine thn (ix_str a b pins s2 σ H2 _ _ u1 u2 (PoV X.K α2 δ σ H2 (.ok _ S2)) I2 rv rw ⟨x0, i, c, rfl, rfl, by rw [hlen, ← line_eq]; exact hl, ?_, PoV.here R2 (mk_str rfl)⟩ (hs _ _)) fun u s' hu => PoE.ofV hu
    unfold L2.atI
    rw [hx, ← ixN_eq, hj]; exact hc
  · obtain ⟨p, vs, rfl, hsq, q⟩ := seq_rd hq R2 q1
    obtain ⟨w', e1, qw⟩ := at_rd q hz
    refine thn (ix_seq a b pins s2 σ H2 _ _ u1 u2 (PoV X.K α2 δ σ H2 (.ok _ S2)) I2 rv rw ?_ (hs _ _)) fun u s' hu => PoE.ofV hu
    rcases hsq with hsq | hsq
    · exact .inl ⟨p, vs, i, w', rfl, rfl, hsq, e1, PoV.here R2 qw⟩
    · exact .inr (.inl ⟨p, vs, i, w', rfl, rfl, hsq, e1, PoV.here R2 qw⟩)⟩

/-! ### slices -/
theorem sIx_eq (n d : Nat) (o : Option Int) : PL.sIx n d o = HT.sIx n d o := by cases o <;> rfl
theorem RDs.cut {K : PySem.W.Frag} {ds : List PL.D} {vs : List V} (h : RDs K α H ds vs) (lo hi : Option Int) : RDs K α H (PL.cut ds lo hi) (cutV vs lo hi) := by
  unfold PL.cut cutV
  rw [h.length, sIx_eq, sIx_eq]
  exact (h.drop _).take _
/-- a slice's bound -/
def CPart (G : EX) (X : Cx) (e : Option Expr) (m : Option PL.ME) : Prop := match e, m with
  | none, none => True
  | some e, some m => CE G X e m
  | _, _ => False
/-- the mirror's step over a bound -/
def partK (p : Option PL.ME) (δ : PL.Env) (S : PL.Sto) (k : Option Int → PL.Sto → Option PL.RE) : Option PL.RE := match p with
  | none => k none S
  | some e => PL.bE (e δ S) fun v S' => match v with
    | .int i => k (some i) S'
    | _ => none
theorem part_then {eo : Option Expr} {mo : Option PL.ME} (h : CPart G X eo mo) (I : Inv X pins σ H s) (R : Rel X.K α δ S σ H) {k : Option Int → PL.Sto → Option PL.RE} {r : PL.RE} (hk : partK mo δ S k = some r) (tk : TkE G X α σ H r) {Q : Value → Shared → Prop}
    (q : ∀ o S1, k o S1 = some r → ∀ α1 H1 u s1, Inv X pins σ H1 s1 → IsPart u o → Ext α H α1 H1 → Rel X.K α1 δ S1 σ H1 → TkE G X α1 σ H1 r → Q u s1) :
    wpAny (model X.prog X.w) X.A (evalPart eo X.env) Q X.xe s := by
  cases eo with
  | none =>
    cases mo with
    | none => rw [evalPart_none]; exact wpAny_pure (q none S hk α H _ s I .none (Ext.refl _ _) R tk)
    | some m => exact h.elim
  | some e =>
    cases mo with
    | none => exact h.elim
    | some m =>
      rw [evalPart_some]
      refine CE.then (show CE G X e m from h) I R hk tk fun d S1 h1 α1 v H1 u s1 I1 rv x1 R1 q1 tk1 => ?_
      cases d <;> try cases h1
      have e1 := rd_int q1
      subst e1
      obtain ⟨t, rfl⟩ := rv
      exact q _ S1 h1 α1 H1 _ s1 I1 (.int _ t) x1 R1 tk1
theorem slice_eq (ma : PL.ME) (lo hi : Option PL.ME) (δ : PL.Env) (S : PL.Sto) : PL.mSlice ma lo hi δ S = PL.bE (ma δ S) fun x S1 => partK lo δ S1 fun l S2 => partK hi δ S2 fun h S3 => match x with
    | .tup xs => some (.ok (.tup (PL.cut xs l h)) S3)
    | .lst xs => some (.ok (.lst (PL.cut xs l h)) S3)
    | .str xs => if xs.length ≤ PL.LINE then some (.ok (.str (PL.cut xs l h)) S3) else none
    | _ => none := by
  cases lo <;> cases hi <;> rfl
theorem c_slice {lo hi : Option Expr} {mlo mhi : Option PL.ME} {p2 : Pos} (ha : CE G X a ma) (hl : CPart G X lo mlo) (hh : CPart G X hi mhi) : CE G X (.Subscript a (.Slice lo hi none p2) pos) (PL.mSlice ma mlo mhi) := ⟨fun δ S r hm α pins s σ H I R tk => by
  rw [slice_eq] at hm
  refine Subscript_ (ha.then I R hm tk fun x S1 h1 α1 v H1 u1 s1 I1 rv x1 R1 q1 tk1 => ?_)
  refine wpAny_Slice (part_then hl I1 R1 h1 tk1 fun lo' S2 h2 α2 H2 vl s2 I2 pl x2 R2 tk2 => part_then hh I2 R2 h2 tk2 fun hi' S3 h3 α3 H3 vu s3 I3 pu x3 R3 tk3 => ?_)
  rw [evalPart_none]
  refine wpAny_pure ?_
  have I4 : Inv X pins σ H3 { s3 with heap := s3.heap.push { cls := .type "slice", data := .fields #[vl, vu, .none] } } := I3.kept (t' := s3.toks) fun b ob q => Heap.get?_push_of_some _ q
  have q3 := (q1.mono x2).mono x3
  have go : ∀ {rr : V → Option Int → Option Int → Hp → VK → Prop} {Q : VK}, SlR X rr → rr v lo' hi' H3 Q → (∀ u s', EP X pins σ Q u s' → PoE X pins α3 δ σ H3 r u s') →
      wpAny (model X.prog X.w) X.A (subscriptTail a (.Slice lo hi none p2) u1 (.ref s3.heap.objs.size)) (PoE X pins α δ σ H r) X.xe { s3 with heap := s3.heap.push { cls := .type "slice", data := .fields #[vl, vu, .none] } } := by
    intro rr Q hr hq hQ
    obtain ⟨T, id, hT, ht, hg⟩ := hr pins { s3 with heap := s3.heap.push { cls := .type "slice", data := .fields #[vl, vu, .none] } } σ H3 v u1 vl vu lo' hi' s3.heap.objs.size Q I4 rv (Heap.IsSliceOf.new ..) pl pu hq
    exact thn (tail_any (ops := [.ref s3.heap.objs.size, u1]) ht hT hg (by with_unfolding_all rfl)) fun u s' hu => (hQ u s' hu).ext ((x1.trans x2).trans x3)
  cases x <;> try cases h3
  · rename_i l
    obtain ⟨hz, h3⟩ := if_inv h3
    cases h3
    obtain ⟨x0, rfl, hx⟩ := rd_str q3
    have hlen : x0.length = l.length := by rw [← hx]; simp [Str.length]
    refine go (Q := PoV X.K α3 δ σ H3 (.ok (.str (PL.cut l lo' hi')) S3)) sl_str ⟨x0, rfl, by rw [hlen, ← line_eq]; exact hz, PoV.here R3 (mk_str ?_)⟩ fun u s' hu => PoE.ofV hu
    show ((x0.cps.toList.drop (HT.sIx x0.length 0 lo')).take (HT.sIx x0.length x0.length hi' - HT.sIx x0.length 0 lo')).toArray.toList = PL.cut l lo' hi'
    unfold PL.cut
    rw [hlen, hx, sIx_eq, sIx_eq, List.toList_toArray]
  · rename_i l
    obtain ⟨p, vs, rfl, hT, t⟩ := rd_tup q3
    refine go (Q := fun w H' => (w = .ref p ∧ H' = H3 ∧ PL.cut l lo' hi' = l) ∨ ∃ p', w = .ref p' ∧ H3 p' = none ∧ H' = upd H3 p' (.tup (cutV vs lo' hi'))) sl_tupA ⟨p, vs, rfl, hT, fun hw => .inl ⟨rfl, rfl, ?_⟩, fun hw p' hp => .inr ⟨p', rfl, hp, rfl⟩⟩ fun u s' hu => ?_
    · unfold PL.cut
      have e0 := t.length
      rw [sIx_eq, sIx_eq, e0, hw.1, hw.2, List.drop_zero, Nat.sub_zero, ← e0, List.take_length]
    · obtain ⟨w, H', I', rw', (⟨e1, e2, e3⟩ | ⟨p', e1, hp, e2⟩)⟩ := hu
      · subst e1 e2
        rw [e3]
        exact PoE.here I' rw' R3 q3
      · subst e1 e2
        cases rw'
        exact PoE.tup I' hp R3 (t.cut _ _)
  · rename_i l
    obtain ⟨p, o, vs, rfl, hT, t⟩ := rd_lst q3
    refine go (Q := fun w H' => ∃ p', w = .ref p' ∧ H3 p' = none ∧ H' = upd H3 p' (.lst (cutV vs lo' hi'))) sl_list ⟨p, vs, rfl, frz_sq hT, fun p' hp => ⟨p', rfl, hp, rfl⟩⟩ fun u s' hu => ?_
    obtain ⟨w, H', I', rw', p', e1, hp, e2⟩ := hu
    subst e1 e2
    cases rw'
    exact PoE.lst I' hp R3 (t.cut _ _)⟩
end
end BR

set_option Elab.async false
set_option linter.all false
set_option maxRecDepth 100000
set_option maxHeartbeats 2000000
namespace BR
open PySem PySem.Spec PyProof.Rows L2
variable [Tbs]
/-! ### x[::-1] -/
section
variable {prog : Program} {w : World} {A : Around} {E : Value → Shared → Prop} {s : Shared}
theorem sliceApplied_rev {sl : Addr} {vs : Value} {n : Nat} {Q : Int × Int × Nat → Shared → Prop} (hs : s.heap.IsSliceOf sl .none .none vs) (ps : IsPart vs (some (-1)))
    (h : Q ((n : Int) - 1, -1, n) s) : wpAny (model prog w) A (Builtin.Slice.sliceApplied (.ref sl) (pure (n : Int))) Q E s := by
  obtain ⟨os, hos, hcs, hds⟩ := id hs
  unfold Builtin.Slice.sliceApplied Builtin.Slice.sliceFields
  refine wpAny_bind (wpAny_bind (wpAny_field hos hds (x := .none) rfl (wpAny_bind (wpAny_field hos hds (x := .none) rfl (wpAny_bind (wpAny_field hos hds (x := vs) rfl (wpAny_pure ?_)))))))
  refine wpAny_bind (HT.slicePart_ ps ?_)
  show wpAny _ _ (if ((-1 : Int) == 0) = true then _ else _) _ _ s
  rw [if_neg (by decide)]
  refine wpAny_bind (slicePart_none (wpAny_bind (slicePart_none (wpAny_bind (wpAny_pure ?_)))))
  show wpAny _ _ (pure ((n : Int) - 1, (-1 : Int), Builtin.Slice.slicePlaces ((n : Int) - 1) (-1) (-1))) _ _ s
  have e : Builtin.Slice.slicePlaces ((n : Int) - 1) (-1) (-1) = n := by
    unfold Builtin.Slice.slicePlaces
    rw [if_neg (by decide)]
    by_cases hn : n = 0
    · subst hn; rfl
    · rw [if_pos (by omega)]
      rw [show (- -1 : Int) = 1 from rfl, Int.ediv_one]; omega
  rw [e]
  exact wpAny_pure h
theorem pick_rev (xs : Array Value) : ((List.range xs.size).filterMap fun (m : Nat) => xs[(((xs.size : Nat) : Int) - 1 + (m : Int) * (-1)).toNat]?).toArray = xs.toList.reverse.toArray := by
  have e : (List.range xs.size).reverse = (List.range xs.size).map fun m => xs.size - 1 - m := by
    refine List.ext_getElem (by simp) fun i h1 h2 => ?_
    rw [List.getElem_reverse]; simp
  have e2 : ∀ m ∈ List.range xs.size, xs[(((xs.size : Nat) : Int) - 1 + (m : Int) * (-1)).toNat]? = xs[xs.size - 1 - m]? := fun m hm => by
    have hm : m < xs.size := List.mem_range.mp hm
    rw [show (((xs.size : Nat) : Int) - 1 + (m : Int) * (-1)).toNat = xs.size - 1 - m by omega]
  have e3 : ∀ l : List Nat, (∀ m ∈ l, m ∈ List.range xs.size) → l.filterMap (fun (m : Nat) => xs[(((xs.size : Nat) : Int) - 1 + (m : Int) * (-1)).toNat]?) = (l.map fun m => xs.size - 1 - m).filterMap (xs[·]?) := by
    intro l
    induction l with
    | nil => intro _; rfl
    | cons m l ih =>
      intro h
      rw [List.filterMap_cons, List.map_cons, List.filterMap_cons, e2 m (h m List.mem_cons_self), ih fun z hz => h z (List.mem_cons_of_mem _ hz)]
  have e4 : (List.range xs.size).filterMap (xs[·]?) = xs.toList := PySem.W.krv_all xs
  rw [e3 _ (fun _ h => h), ← e, List.filterMap_reverse, e4]
open HT in
theorem getItem_tuple_rev {t sl : Addr} {items : Array Value} {vs : Value} {Q : Value → Shared → Prop} (ht : IsTup s.heap t items) (hs : s.heap.IsSliceOf sl .none .none vs) (ps : IsPart vs (some (-1)))
    (h : Q (.ref s.heap.objs.size) { s with heap := s.heap.push { cls := .type "tuple", data := .seq items.toList.reverse.toArray } })
    (hsz : items.size ≤ sizeLine) : wpAny (model prog w) A (getItem (.ref t) (.ref sl)) Q E s := by
  have htake : sizeOk (.seq items.toList.reverse.toArray) := by
    show items.toList.reverse.toArray.size ≤ sizeLine
    rw [List.size_toArray, List.length_reverse, Array.length_toList]
    exact hsz
  obtain ⟨os, hos, hcs, hds⟩ := id hs
  have hTs : s.TypeIs (.ref sl) "slice" := ⟨os, hos, hcs⟩
  unfold getItem
  try with_reducible refine wpAny_holding ?_
  first | refine wpAny_bind (wpAny_pure ?_) | skip
  refine wpAny_bind (wpAny_sequenceKey ht.typeIs (by decide) ?_)
  refine wpAny_bind (wpAny_callSpecial?_slot (name := Str.ofString "__getitem__") ht.typeIs PyProof.Rows.slot_tuple_getitem
    (wpAny_call_entry PyProof.Rows.slot_tuple_getitem ht.typeIs entry_tuple_getitem ?_ (args_tuple_getitem _ _)))
  show wpAny _ _ (Builtin.Tuple.tupleItemsOf (.ref t) >>= _) _ _ s
  refine wpAny_bind (tupleItemsOf_ ht ?_)
  refine wpAny_bind (wpAny_typeOf hTs ?_)
  rw [if_pos (by decide)]
  refine wpAny_bind (sliceApplied_rev hs ps ?_)
  have hno : ¬ ((((items.size : Int) - 1) == 0 && (-1 : Int) == 1 && (items.size) == items.size) = true) := by
    rw [show ((-1 : Int) == 1) = false from rfl, Bool.and_false, Bool.false_and]
    exact Bool.false_ne_true
  show wpAny _ _ (if (((items.size : Int) - 1) == 0 && (-1 : Int) == 1 && (items.size) == items.size) = true then _ else _) _ _ s
  rw [if_neg hno, pick_rev]
  first
    | exact wpAny_bind (m := Builtin.Tuple.tupleExact _) (wpAny_newObj_type (wpAny_pure ⟨_, rfl, wpAny_pure h⟩) htake)
    | exact wpAny_bind (m := Builtin.Tuple.tupleExact _) (wpAny_newObj_type (wpAny_bind (wpAny_pure (wpAny_pure ⟨_, rfl, wpAny_pure h⟩))) htake)
    | exact wpAny_bind (wpAny_bind (m := Builtin.Tuple.tupleExact _) (wpAny_newObj_type (wpAny_pure (wpAny_pure ⟨_, rfl, wpAny_pure h⟩)) htake))
    | exact wpAny_bind (wpAny_bind (m := Builtin.Tuple.tupleExact _) (wpAny_newObj_type (wpAny_pure ⟨_, rfl, wpAny_pure h⟩) htake))
end
section
variable {G : EX} {X : Cx} {α α' : List Addr} {δ : PL.Env} {S : PL.Sto} {σ : L2.St} {H H' : Hp} {pins : List (Addr × Obj)} {s : Shared}
variable {a b c e : Expr} {ma mb mc m : PL.ME} {pos : Pos} {es : List Expr} {mas : PL.MA}
theorem c_rev {k : Nat} {p1 p2 p3 : Pos} (ha : CE G X a ma) : CE G X (.Subscript a (.Slice none none (some (.UnaryOp .USub (.Constant (.int 1) k p1) p2)) p3) pos) (PL.mUn PL.opRev ma) := ⟨fun δ S r hm α pins s σ H I R tk => by
  refine Subscript_ (ha.then I R hm tk fun x S1 h1 α1 v H1 u1 s1 I1 rv x1 R1 q1 tk1 => ?_)
  obtain ⟨z, hz, rfl⟩ := map_inv h1
  have hst : PO X (some (.UnaryOp .USub (.Constant (.int 1) k p1) p2)) (tPart (tUn (rU fun i => .int (-i)) (tC (.int 1)))) := po_some (pe_un un_neg pe_int)
  refine wpAny_Slice ?_
  rw [evalPart_none]
  refine wpAny_pure (wpAny_pure ?_)
  refine thn (hst.run pins s1 σ H1 (fun o H4 => o = some (-1) ∧ H4 = H1) I1 ⟨1, rfl, -1, rfl, rfl, rfl⟩) fun vs s4 ⟨o, H4, I4, ps, eo, e4⟩ => ?_
  subst eo e4
  have I5 : Inv X pins σ H4 { s4 with heap := s4.heap.push { cls := .type "slice", data := .fields #[.none, .none, vs] } } := I4.kept (t' := s4.toks) fun b ob q => Heap.get?_push_of_some _ q
  show wpAny (model X.prog X.w) X.A (subscriptTail a (.Slice none none (some (.UnaryOp .USub (.Constant (.int 1) k p1) p2)) p3) u1 (.ref s4.heap.objs.size)) _ X.xe { s4 with heap := s4.heap.push { cls := .type "slice", data := .fields #[.none, .none, vs] } }
  refine thn ?_ fun u s' (h : PoE X pins α1 δ σ H4 (.ok z S1) u s') => h.ext x1
  cases x <;> simp only [PL.opRev] at hz <;> cases hz
  · obtain ⟨p, ws, rfl, hT, t⟩ := rd_tup q1
    cases rv
    obtain ⟨its, r, hI, hz⟩ := I5.tuple hT
    have hlen := r.length
    refine tail_any (ops := [.ref p, .ref s4.heap.objs.size]) hI.typeIs PyProof.Rows.slot_tuple_getitem.lookup ?_ (by with_unfolding_all rfl)
    refine getItem_tuple_rev hI (Heap.IsSliceOf.new _ .none .none vs) ps ?_ (by rw [List.size_toArray]; omega)
    refine PoE.tup (I5.laid (t' := s4.toks) (o := .tup ws.reverse) (fun b ob q => Heap.get?_push_of_some _ q) (Nat.le_refl _) ?_) (I5.hok.fresh (Nat.le_refl _)) R1 t.reverse
    exact ⟨by rw [List.length_reverse]; exact hz, _, r.reverse, IsTup.new _ _⟩
  · obtain ⟨p, o, ws, rfl, hT, t⟩ := rd_lst q1
    cases rv
    obtain ⟨its, r, hI, hz⟩ := I5.list (frz_sq hT)
    have hlen := r.length
    refine tail_any (ops := [.ref p, .ref s4.heap.objs.size]) hI.isList.typeIs (PySem.slot_list_getitem.lookup) ?_ (by with_unfolding_all rfl)
    refine wpAny_getItem_list_slice hI.isList (Heap.IsSliceOf.new _ .none .none vs) .none .none ps (by decide) ?_ (by rw [List.size_toArray]; omega)
    rw [PySem.W.krv_pick]
    refine PoE.lst (I5.laid (t' := s4.toks) (o := .lst ws.reverse) (fun b ob q => Heap.get?_push_of_some _ q) (Nat.le_refl _) ?_) (I5.hok.fresh (Nat.le_refl _)) R1 t.reverse
    exact ⟨by rw [List.length_reverse]; exact hz, _, 0, r.reverse, Heap.get?_push_size _ rfl⟩⟩

/-! ### data: ==, repr -/
mutual
def toPy : PL.D → PyData
  | .non => .none | .bl b => .bool b | .int i => .int i | .str l => .str ⟨l.toArray⟩
  | .tup ds => .tuple (toPys ds) | .lst ds => .list (toPys ds) | .ref _ => .none | .adr _ => .none | .emp => .dict [] | .exn _ _ _ _ => .none
def toPys : List PL.D → List PyData
  | [] => []
  | d :: ds => toPy d :: toPys ds
end
mutual
theorem dp_of {K : PySem.W.Frag} {n : Nat} : ∀ {d : PL.D} {v : V}, d.okN n = true → RD K α H d v → Dp K H v (toPy d)
  | .non, _, _, q => by rw [rd_non q]; simp only [toPy]; exact .non
  | .bl b, _, _, q => by rw [rd_bl q]; simp only [toPy]; exact .bl b
  | .int i, _, _, q => by rw [rd_int q]; simp only [toPy]; exact .int i
  | .str l, _, _, q => by
    obtain ⟨x, rfl, e⟩ := rd_str q
    simp only [toPy]
    have : x = ⟨l.toArray⟩ := by rw [← e]
    rw [← this]; exact .str x
  | .tup ds, _, h, q => by
    obtain ⟨a, vs, rfl, h1, h2⟩ := rd_tup q
    simp only [toPy]
    cases n with
    | zero => simp [PL.D.okN] at h
    | succ n => simp only [PL.D.okN] at h; exact .tup h1 (dps_of h h2)
  | .lst ds, _, h, q => by
    obtain ⟨a, o, vs, rfl, h1, h2⟩ := rd_lst q
    simp only [toPy]
    cases n with
    | zero => simp [PL.D.okN] at h
    | succ n => simp only [PL.D.okN] at h; exact .lst (frz_sq h1) (dps_of h h2)
  | .ref _, _, h, _ => by simp [PL.D.okN] at h
  | .adr _, _, h, _ => by simp [PL.D.okN] at h
  | .emp, _, h, _ => by simp [PL.D.okN] at h
  | .exn _ _ _ _, _, h, _ => by simp [PL.D.okN] at h
theorem dps_of {K : PySem.W.Frag} {n : Nat} : ∀ {ds : List PL.D} {vs : List V}, PL.D.okNs ds n = true → RDs K α H ds vs → DpAll K H vs (toPys ds)
  | [], _, _, q => by simp only [RDs] at q; subst q; simp only [toPys]; exact .nil
  | d :: ds, _, h, q => by
    simp only [RDs] at q
    obtain ⟨v, r, rfl, q1, q2⟩ := q
    simp only [PL.D.okNs, Bool.and_eq_true] at h
    simp only [toPys]
    exact .cons (dp_of h.1 q1) (dps_of h.2 q2)
end
mutual
theorem lay_of {n : Nat} : ∀ {d : PL.D}, d.okN n = true → (toPy d).canLay0 = true ∧ (toPy d).depth ≤ n
  | .non, _ => by simp [toPy, PyData.canLay0, PyData.depth]
  | .bl b, _ => by simp [toPy, PyData.canLay0, PyData.depth]
  | .int i, _ => by simp [toPy, PyData.canLay0, PyData.depth]
  | .str l, h => by
    simp only [PL.D.okN] at h
    simp only [toPy, PyData.canLay0, PyData.depth, PyData.strOk]
    exact ⟨by simpa using h, Nat.zero_le _⟩
  | .tup ds, h => by
    cases n with
    | zero => simp [PL.D.okN] at h
    | succ n =>
      simp only [PL.D.okN] at h
      obtain ⟨h1, h2⟩ := lays_of h
      simp only [toPy, PyData.canLay0, PyData.depth]
      exact ⟨h1, by omega⟩
  | .lst ds, h => by
    cases n with
    | zero => simp [PL.D.okN] at h
    | succ n =>
      simp only [PL.D.okN] at h
      obtain ⟨h1, h2⟩ := lays_of h
      simp only [toPy, PyData.canLay0, PyData.depth]
      exact ⟨h1, by omega⟩
  | .ref _, h => by simp [PL.D.okN] at h
  | .adr _, h => by simp [PL.D.okN] at h
  | .emp, h => by simp [PL.D.okN] at h
  | .exn _ _ _ _, h => by simp [PL.D.okN] at h
theorem lays_of {n : Nat} : ∀ {ds : List PL.D}, PL.D.okNs ds n = true → PyData.canLayAll0 (toPys ds) = true ∧ PyData.depthAll (toPys ds) ≤ n
  | [], _ => by simp [toPys, PyData.canLayAll0, PyData.depthAll]
  | d :: ds, h => by
    simp only [PL.D.okNs, Bool.and_eq_true] at h
    obtain ⟨a1, a2⟩ := lay_of h.1
    obtain ⟨b1, b2⟩ := lays_of h.2
    simp only [toPys, PyData.canLayAll0, PyData.depthAll, a1, b1, Bool.and_self, true_and]
    omega
end
theorem shaped_of {d : PL.D} (h : d.ok = true) : SeqAt.shaped (toPy d) = true := by
  obtain ⟨a, b⟩ := lay_of h
  unfold SeqAt.shaped
  rw [a, Bool.true_and]
  exact decide_eq_true (by omega)
mutual
theorem eqv_of {n k : Nat} : ∀ {x y : PL.D}, x.okN n = true → y.okN k = true → PyData.eqv (toPy x) (toPy y) = PL.eqD x y
  | .non, y, _, h => by cases y <;> first | (simp [PL.D.okN] at h; done) | simp [toPy, PyData.eqv, PL.eqD]
  | .bl b, y, _, h => by cases y <;> first | (simp [PL.D.okN] at h; done) | simp [toPy, PyData.eqv, PL.eqD]
  | .int i, y, _, h => by cases y <;> first | (simp [PL.D.okN] at h; done) | simp [toPy, PyData.eqv, PL.eqD]
  | .str l, y, _, h => by
    cases y <;> first | (simp [PL.D.okN] at h; done) | simp [toPy, PyData.eqv, PL.eqD]
    rename_i l2
    rw [Bool.eq_iff_iff, beq_iff_eq, beq_iff_eq]
    refine ⟨fun z => ?_, fun z => by rw [z]⟩
    have z1 : l.toArray = l2.toArray := by injection z
    simpa using congrArg Array.toList z1
  | .tup ds, y, h1, h => by
    cases y <;> try (first | (simp [PL.D.okN] at h; done) | (simp [toPy, PyData.eqv, PL.eqD]; done))
    cases n with
    | zero => simp [PL.D.okN] at h1
    | succ n => cases k with
      | zero => simp [PL.D.okN] at h
      | succ k =>
        simp only [PL.D.okN] at h h1
        simp only [toPy, PyData.eqv, PL.eqD]
        exact eqvs_of h1 h
  | .lst ds, y, h1, h => by
    cases y <;> try (first | (simp [PL.D.okN] at h; done) | (simp [toPy, PyData.eqv, PL.eqD]; done))
    cases n with
    | zero => simp [PL.D.okN] at h1
    | succ n => cases k with
      | zero => simp [PL.D.okN] at h
      | succ k =>
        simp only [PL.D.okN] at h h1
        simp only [toPy, PyData.eqv, PL.eqD]
        exact eqvs_of h1 h
  | .ref _, _, h, _ => by simp [PL.D.okN] at h
  | .adr _, _, h, _ => by simp [PL.D.okN] at h
  | .emp, _, h, _ => by simp [PL.D.okN] at h
  | .exn _ _ _ _, _, h, _ => by simp [PL.D.okN] at h
theorem eqvs_of {n k : Nat} : ∀ {x y : List PL.D}, PL.D.okNs x n = true → PL.D.okNs y k = true → PyData.eqvAll (toPys x) (toPys y) = PL.eqDs x y
  | [], [], _, _ => by simp [toPys, PyData.eqvAll, PL.eqDs]
  | [], _ :: _, _, _ => by simp [toPys, PyData.eqvAll, PL.eqDs]
  | _ :: _, [], _, _ => by simp [toPys, PyData.eqvAll, PL.eqDs]
  | x :: xs, y :: ys, h1, h2 => by
    simp only [PL.D.okNs, Bool.and_eq_true] at h1 h2
    simp only [toPys, PyData.eqvAll, PL.eqDs]
    rw [eqv_of h1.1 h2.1, eqvs_of h1.2 h2.2]
end
theorem hu64 {k : Nat} (hX : Cz k X) : X.A.units + 64 < cLine := by have := hX.room.un; omega
theorem d_eqO {k : Nat} (hX : Cz k X) : OpD X (compareOp .Eq) PL.opEqO := .of (op_eqD (hu64 hX)) fun x y z e α δ S σ H v w R q1 q2 => by
  unfold PL.opEqO at e
  obtain ⟨h, rfl⟩ := if_inv e
  rw [Bool.and_eq_true] at h
  exact ⟨toPy x, toPy y, dp_of h.1 q1, dp_of h.2 q2, shaped_of h.1, shaped_of h.2, PoV.here R (by rw [eqv_of h.1 h.2]; exact mk_bl)⟩
theorem d_neO {k : Nat} (hX : Cz k X) : OpD X (compareOp .NotEq) PL.opNeO := .of (op_neD (hu64 hX)) fun x y z e α δ S σ H v w R q1 q2 => by
  unfold PL.opNeO at e
  obtain ⟨h, rfl⟩ := if_inv e
  rw [Bool.and_eq_true] at h
  exact ⟨toPy x, toPy y, dp_of h.1 q1, dp_of h.2 q2, shaped_of h.1, shaped_of h.2, PoV.here R (by rw [eqv_of h.1 h.2]; exact mk_bl)⟩
theorem str_beq (a b : Str) : (a.cps.toList == b.cps.toList) = decide (V.str a = V.str b) := by
  by_cases h : a = b
  · subst h; simp
  · have h2 : ¬ a.cps.toList = b.cps.toList := fun z => h (by cases a; cases b; simp only [Array.toList_inj] at z; rw [z])
    have h3 : ¬ V.str a = V.str b := fun z => h (by cases z; rfl)
    rw [decide_eq_false h3]
    simpa using h2
theorem d_eq {k : Nat} (hX : Cz k X) : OpD X (compareOp .Eq) PL.opEq := by
  intro x y z e α δ S pins s σ H v w u1 u2 I R q1 q2 r1 r2
  have gen : PL.opEqO x y = some z → wpAny (model X.prog X.w) X.A (compareOp .Eq u1 u2) (PoE X pins α δ σ H (.ok z S)) X.xe s := fun e => d_eqO hX x y z e α δ S pins s σ H v w u1 u2 I R q1 q2 r1 r2
  have str : ∀ a b, x = .str a → y = .str b → z = .bl (a == b) → wpAny (model X.prog X.w) X.A (compareOp .Eq u1 u2) (PoE X pins α δ σ H (.ok z S)) X.xe s := fun a b ex ey ez => by
    subst ex ey ez
    obtain ⟨x1, rfl, h1⟩ := rd_str q1
    obtain ⟨x2, rfl, h2⟩ := rd_str q2
    subst h1 h2
    exact thn (op_eq pins s σ H _ _ u1 u2 (PoV X.K α δ σ H (.ok _ S)) I r1 r2 ⟨rfl, by rw [← str_beq]; exact PoV.here R mk_bl⟩) fun u s' hu => PoE.ofV hu
  cases x <;> cases y <;> first | exact gen e | exact str _ _ rfl rfl (Option.some.inj e).symm
theorem d_ne {k : Nat} (hX : Cz k X) : OpD X (compareOp .NotEq) PL.opNe := by
  intro x y z e α δ S pins s σ H v w u1 u2 I R q1 q2 r1 r2
  have gen : PL.opNeO x y = some z → wpAny (model X.prog X.w) X.A (compareOp .NotEq u1 u2) (PoE X pins α δ σ H (.ok z S)) X.xe s := fun e => d_neO hX x y z e α δ S pins s σ H v w u1 u2 I R q1 q2 r1 r2
  have str : ∀ a b, x = .str a → y = .str b → z = .bl (!(a == b)) → wpAny (model X.prog X.w) X.A (compareOp .NotEq u1 u2) (PoE X pins α δ σ H (.ok z S)) X.xe s := fun a b ex ey ez => by
    subst ex ey ez
    obtain ⟨x1, rfl, h1⟩ := rd_str q1
    obtain ⟨x2, rfl, h2⟩ := rd_str q2
    subst h1 h2
    exact thn (op_ne pins s σ H _ _ u1 u2 (PoV X.K α δ σ H (.ok _ S)) I r1 r2 ⟨rfl, by rw [← str_beq]; exact PoV.here R mk_bl⟩) fun u s' hu => PoE.ofV hu
  cases x <;> cases y <;> first | exact gen e | exact str _ _ rfl rfl (Option.some.inj e).symm
end
end BR

set_option Elab.async false
set_option linter.all false
set_option maxRecDepth 100000
set_option maxHeartbeats 2000000
/-! ## built-ins -/
namespace BR
open PySem PySem.Spec PyProof.Rows L2
variable [Tbs]
section
variable {G : EX} {X : Cx} {α α' : List Addr} {δ : PL.Env} {S : PL.Sto} {σ : L2.St} {H H' : Hp} {pins : List (Addr × Obj)} {s : Shared}
variable {a b c e : Expr} {ma mb mc m : PL.ME} {p pos : Pos} {es : List Expr} {mas : PL.MA} {x : Str} {id T : String} {k : Nat}
def BiD (X : Cx) (fv : Value) (f : PL.Sto → List PL.D → Option PL.D) : Prop :=
  ∀ S xs z, f S xs = some z → ∀ α δ pins s σ H vs us, Inv X pins σ H s → Rel X.K α δ S σ H → RDs X.K α H xs vs → Vals vs us →
    wpAny (model X.prog X.w) X.A (call fv us) (PoE X pins α δ σ H (.ok z S)) X.xe s
theorem BiD.of {fv : Value} {f : PL.Sto → List PL.D → Option PL.D} {rr : List V → Hp → VK → Prop} (hc : CallR X fv rr)
    (h : ∀ S xs z, f S xs = some z → ∀ α δ σ H vs, Rel X.K α δ S σ H → RDs X.K α H xs vs → rr vs H (PoV X.K α δ σ H (.ok z S))) : BiD X fv f :=
  fun S xs z e α δ pins s σ H vs us I R q r => thn (hc pins s σ H vs us _ I r (h S xs z e α δ σ H vs R q)) fun u s' hu => PoE.ofV hu
theorem c_callB {f : PL.Sto → List PL.D → Option PL.D} (hc : BiD X (.builtin id) f) (hm : X.mg x = none) (hv : bootBuiltins x = some (.builtin id)) (ha : CA G X (e :: es) mas) (hg : Gl X x := by rfl) (hn : x ≠ "__name__" := by decide) (hdb : (x == ("__debug__" : Str)) = false := by decide)
    (he : starEach (e :: es) X.env = (false, eval e X.env) :: starEach es X.env := by rfl) (hpl : (backTo pos (starEach es X.env)).any (·.1) = false := by rfl) : CE G X (.Call (.Name x p) (e :: es) [] pos) (PL.mBI f mas) := ⟨fun δ S r h0 α pins s σ H I R tk => by
  refine wpAny_Call_Name_kw (ld_blt I hg hm hv ?_ hn hdb)
  refine PyProof.Rows.callWith_builtin1 (ha.then pos I R h0 tk fun xs S1 h1 α1 vs H1 us s1 I1 rv x1 R1 q1 tk1 => ?_) he hpl
  obtain ⟨z, hz, rfl⟩ := map_inv h1
  exact thn (hc S1 xs z hz α1 δ pins s1 σ H1 vs us I1 R1 q1 rv) fun u s' h => h.ext x1⟩
theorem c_callTy {f : PL.Sto → List PL.D → Option PL.D} (hc : BiD X (.type T) f) (hm : X.mg x = none) (hv : bootBuiltins x = some (.type T)) (ha : CA G X (e :: es) mas) (hg : Gl X x := by rfl) (hn : x ≠ "__name__" := by decide) (hdb : (x == ("__debug__" : Str)) = false := by decide)
    (he : starEach (e :: es) X.env = (false, eval e X.env) :: starEach es X.env := by rfl) (hpl : (backTo pos (starEach es X.env)).any (·.1) = false := by rfl) : CE G X (.Call (.Name x p) (e :: es) [] pos) (PL.mBI f mas) := ⟨fun δ S r h0 α pins s σ H I R tk => by
  refine wpAny_Call_Name_kw (ld_blt I hg hm hv ?_ hn hdb)
  refine PyProof.Rows.callWith_type1 (ha.then pos I R h0 tk fun xs S1 h1 α1 vs H1 us s1 I1 rv x1 R1 q1 tk1 => ?_) he hpl
  obtain ⟨z, hz, rfl⟩ := map_inv h1
  exact thn (hc S1 xs z hz α1 δ pins s1 σ H1 vs us I1 R1 q1 rv) fun u s' h => h.ext x1⟩

theorem b_len : BiD X (.builtin "len") PL.biLen := fun S xs z e α δ pins s σ H vs us I R q r => by
  have seq : ∀ d, (PL.seqOf S d).map (fun xs => PL.D.int xs.length) = some z → RDs X.K α H [d] vs → wpAny (model X.prog X.w) X.A (call (.builtin "len") us) (PoE X pins α δ σ H (.ok z S)) X.xe s := fun d h q => by
    cases hs : PL.seqOf S d with
    | none => rw [hs] at h; cases h
    | some ds =>
      rw [hs] at h
      cases h
      obtain ⟨v, rfl, q1⟩ := q.one
      obtain ⟨p, ws, rfl, h1, h2⟩ := seq_rd hs R q1
      exact thn (call_len_seq pins s σ H _ us (PoV X.K α δ σ H (.ok _ S)) I r ⟨p, ws, rfl, h1, PoV.here R (by rw [← h2.length]; exact mk_int)⟩) fun u s' hu => PoE.ofV hu
  unfold PL.biLen at e
  split at e
  · rename_i l
    obtain ⟨hl, rfl⟩ := if_inv e
    obtain ⟨v, rfl, q1⟩ := q.one
    obtain ⟨x0, rfl, hx⟩ := rd_str q1
    have hlen : x0.length = l.length := by rw [← hx]; simp [Str.length]
    exact thn (call_len_str pins s σ H _ us (PoV X.K α δ σ H (.ok _ S)) I r ⟨x0, rfl, by rw [hlen, ← line_eq]; exact hl, PoV.here R (by rw [hlen]; exact mk_int)⟩) fun u s' hu => PoE.ofV hu
  · rename_i d _
    exact seq d e q
  · cases e
theorem b_list : BiD X (.type "list") PL.biList := fun S xs z e α δ pins s σ H vs us I R q r => by
  unfold PL.biList at e
  split at e
  · rename_i d
    cases hs : PL.seqOf S d with
    | none => rw [hs] at e; cases e
    | some ds =>
      rw [hs] at e
      cases e
      obtain ⟨v, rfl, q1⟩ := q.one
      obtain ⟨p, ws, rfl, h1, h2⟩ := seq_rd hs R q1
      refine thn (call_list_of pins s σ H _ us (fun v H' => ∃ l, v = .ref l ∧ H l = none ∧ H' = upd H l (.lst ws)) I r ⟨p, ws, rfl, h1, fun l hl => ⟨l, rfl, hl, rfl⟩⟩) fun u s' hu => ?_
      obtain ⟨w, H', I', rw', l, e1, hl, e2⟩ := hu
      subst e1 e2
      cases rw'
      exact PoE.lst I' hl R h2
  · cases e
theorem b_tuple : BiD X (.type "tuple") PL.biTuple := fun S xs z e α δ pins s σ H vs us I R q r => by
  have lst : ∀ d ds, PL.seqOf S d = some ds → z = .tup ds → (∀ ds', d ≠ .tup ds') → RDs X.K α H [d] vs → wpAny (model X.prog X.w) X.A (call (.type "tuple") us) (PoE X pins α δ σ H (.ok z S)) X.xe s := fun d ds h ez nt q => by
    subst ez
    obtain ⟨v, rfl, q1⟩ := q.one
    obtain ⟨p, ws, rfl, h1, h2⟩ := seq_rd h R q1
    have h1' : SqL X.K H p ws := by
      cases d <;> try (simp [PL.seqOf] at h; done)
      · exact absurd rfl (nt _)
      · obtain ⟨p', o, ws', e1, e2, e3⟩ := rd_lst q1
        simp only [PL.seqOf] at h
        cases h
        cases e1
        rcases h1 with h1 | h1
        · exact h1
        · exfalso
          have k1 := I.list (frz_sq e2)
          have k2 := I.tuple h1
          obtain ⟨its, _, ⟨o1, n1, g1, g2, _⟩, _⟩ := k1
          obtain ⟨its2, _, ⟨o2, g3, g4, _⟩, _⟩ := k2
          rw [g1] at g3; cases g3
          rw [g2] at g4; exact absurd g4 (by decide)
      · rename_i n
        obtain ⟨p', e1, e2⟩ := rd_ref q1
        cases e2
        simp only [PL.seqOf] at h
        split at h
        · rename_i xs hs
          cases h
          obtain ⟨β, _, _, _, _, ob⟩ := R.st.b
          obtain ⟨p2, b', e3, e4, ⟨ws', e5, e6⟩, _⟩ := ob n _ hs
          rw [e1] at e3; cases e3
          rcases h1 with h1 | h1
          · exact h1
          · exfalso
            have k1 := I.list (SqL.of e5)
            have k2 := I.tuple h1
            obtain ⟨its, _, ⟨o1, n1, g1, g2, _⟩, _⟩ := k1
            obtain ⟨its2, _, ⟨o2, g3, g4, _⟩, _⟩ := k2
            rw [g1] at g3; cases g3
            rw [g2] at g4; exact absurd g4 (by decide)
        · cases h
    refine thn (call_tuple_of pins s σ H _ us (fun v H' => ∃ l, v = .ref l ∧ H l = none ∧ H' = upd H l (.tup ws)) I r ⟨p, ws, rfl, .inl ⟨h1', fun l hl => ⟨l, rfl, hl, rfl⟩⟩⟩) fun u s' hu => ?_
    obtain ⟨w, H', I', rw', l, e1, hl, e2⟩ := hu
    subst e1 e2
    cases rw'
    exact PoE.tup I' hl R h2
  unfold PL.biTuple at e
  split at e
  · rename_i ds
    cases e
    obtain ⟨v, rfl, q1⟩ := q.one
    obtain ⟨p, ws, rfl, h1, h2⟩ := rd_tup q1
    exact thn (call_tuple_of pins s σ H _ us (PoV X.K α δ σ H (.ok _ S)) I r ⟨p, ws, rfl, .inr ⟨h1, PoV.here R q1⟩⟩) fun u s' hu => PoE.ofV hu
  · rename_i ds
    cases e
    exact lst _ ds rfl rfl (fun _ z => by cases z) q
  · rename_i n
    split at e
    · rename_i ds hs
      cases e
      exact lst _ ds (by simp only [PL.seqOf]; rw [hs]) rfl (fun _ z => by cases z) q
    · cases e
  · cases e
theorem b_abs : BiD X (.builtin "abs") PL.biAbs := .of call_abs fun S xs z e α δ σ H vs R q => by
  unfold PL.biAbs at e
  split at e
  · cases e
    obtain ⟨v, rfl, q1⟩ := q.one
    exact ⟨_, by rw [rd_int q1], PoV.here R mk_int⟩
  · cases e
theorem b_min (hX : Cz k X) : BiD X (.builtin "min") PL.biMin := .of (call_min2 hX.calm) fun S xs z e α δ σ H vs R q => by
  unfold PL.biMin at e
  split at e
  · cases e
    obtain ⟨v, w, rfl, q1, q2⟩ := q.two
    exact ⟨_, _, by rw [rd_int q1, rd_int q2], PoV.here R mk_int⟩
  · cases e
theorem b_max (hX : Cz k X) : BiD X (.builtin "max") PL.biMax := .of (call_max2 hX.calm) fun S xs z e α δ σ H vs R q => by
  unfold PL.biMax at e
  split at e
  · cases e
    obtain ⟨v, w, rfl, q1, q2⟩ := q.two
    exact ⟨_, _, by rw [rd_int q1, rd_int q2], PoV.here R mk_int⟩
  · cases e
theorem b_int : BiD X (.type "int") PL.biInt := .of call_int1 fun S xs z e α δ σ H vs R q => by
  unfold PL.biInt at e
  split at e
  · cases e
    obtain ⟨v, rfl, q1⟩ := q.one
    exact .inl ⟨_, by rw [rd_int q1], PoV.here R mk_int⟩
  · cases e
    obtain ⟨v, rfl, q1⟩ := q.one
    exact .inr ⟨_, by rw [rd_bl q1], PoV.here R mk_int⟩
  · cases e

/-! ### isinstance -/
theorem c_isi {f : PL.D → Option Bool} (hm : X.mg "isinstance" = none) (hmT : X.mg x = none) (hv : bootBuiltins x = some (.type T)) (hk : ∀ d b, f d = some b → ∀ K α H v, RD K α H d v → ∃ t, TyX K H v t ∧ PySem.W.kitOne K t (.type T) = some b) (ha : CE G X a ma)
    (hg : Gl X "isinstance" := by rfl) (hgT : Gl X x := by rfl) (hn : x ≠ "__name__" := by decide) (hdb : (x == ("__debug__" : Str)) = false := by decide)
    (he : starEach [a, .Name x p] X.env = (false, eval a X.env) :: starEach [.Name x p] X.env := by rfl) (he2 : starEach [.Name x p] X.env = (false, eval (.Name x p) X.env) :: starEach [] X.env := by rfl) (hpl : (backTo pos (starEach [.Name x p] X.env)).any (·.1) = false := by rfl) {p' : Pos} :
    CE G X (.Call (.Name "isinstance" p') [a, .Name x p] [] pos) (PL.mUn (PL.opIsI f) ma) :=
  CE.ofX (pe_callB call_isi hg hm (by decide +kernel) (pa_cons ha.pe (pa_cons (pe_bltn (v := .ty T) hgT hmT hv rfl hn hdb) pa_nil he2) he) (by decide) (by decide) he hpl) fun δ S r h0 α σ H R tk => by
    refine tOf.go R h0 tk fun d S1 h1 α1 v H1 x1 R1 q1 tk1 => ?_
    obtain ⟨z, hz, rfl⟩ := map_inv h1
    unfold PL.opIsI at hz
    cases hf : f d with
    | none => rw [hf] at hz; cases hz
    | some b =>
      rw [hf] at hz
      cases hz
      obtain ⟨t, ty, ek⟩ := hk d b hf X.K α1 H1 v q1
      exact ⟨v, .ty T, t, .type T, b, rfl, .ty T, ty, ek, (PoV.here R1 mk_bl).ext x1⟩
def tyN : PL.D → Option String
  | .non => some "NoneType" | .bl _ => some "bool" | .int _ => some "int" | .str _ => some "str" | .tup _ => some "tuple" | .lst _ => some "list" | .ref _ => none | .adr _ => none | .emp => some "dict" | .exn _ _ _ _ => none
theorem ty_of {K : PySem.W.Frag} {d : PL.D} {v : V} {T : String} (q : RD K α H d v) (h : tyN d = some T) : TyX K H v (.type T) := by
  cases d with
  | non => cases h; rw [rd_non q]; exact .base .non
  | bl b => cases h; rw [rd_bl q]; exact .base (.bl b)
  | int i => cases h; rw [rd_int q]; exact .base (.int i)
  | str l => cases h; obtain ⟨x, rfl, _⟩ := rd_str q; exact .base (.str x)
  | tup ds =>
    cases h
    obtain ⟨a, vs, rfl, h, _⟩ := rd_tup q
    rcases h with (h | ⟨o, h⟩) | ⟨o, its, n, h1, h2, _⟩
    · exact .base (.tup h)
    · exact .fTuple h
    · exact .kTuple h1 h2
  | lst ds =>
    cases h
    obtain ⟨a, o, vs, rfl, h, _⟩ := rd_lst q
    rcases h with h | ⟨its, n, h, _⟩
    · exact .base (.frz h)
    · exact .kList h rfl
  | ref n => cases h
  | adr _ => cases h
  | emp => cases h; simp only [RD] at q; obtain ⟨a, o, rfl, h⟩ := q; exact .fDict h
  | exn _ _ _ _ => cases h
theorem k_int : ∀ d b, PL.isInt d = some b → ∀ K α H v, RD K α H d v → ∃ t, TyX K H v t ∧ PySem.W.kitOne K t (.type "int") = some b := fun d b e K α H v q => by
  cases d <;> simp only [PL.isInt] at e <;> cases e <;> exact ⟨_, ty_of q rfl, kit_ty (by decide +kernel)⟩
theorem k_bool : ∀ d b, PL.isBool d = some b → ∀ K α H v, RD K α H d v → ∃ t, TyX K H v t ∧ PySem.W.kitOne K t (.type "bool") = some b := fun d b e K α H v q => by
  cases d <;> simp only [PL.isBool] at e <;> cases e <;> exact ⟨_, ty_of q rfl, kit_ty (by decide +kernel)⟩
theorem k_tuple : ∀ d b, PL.isTuple d = some b → ∀ K α H v, RD K α H d v → ∃ t, TyX K H v t ∧ PySem.W.kitOne K t (.type "tuple") = some b := fun d b e K α H v q => by
  cases d <;> simp only [PL.isTuple] at e <;> cases e <;> exact ⟨_, ty_of q rfl, kit_ty (by decide +kernel)⟩
theorem k_str : ∀ d b, PL.isStr d = some b → ∀ K α H v, RD K α H d v → ∃ t, TyX K H v t ∧ PySem.W.kitOne K t (.type "str") = some b := fun d b e K α H v q => by
  cases d <;> simp only [PL.isStr] at e <;> cases e <;> exact ⟨_, ty_of q rfl, kit_ty (by decide +kernel)⟩

/-! ### repr -/
def reprD (d : PL.D) : List Nat := (toPy d).shown.cps.toList
theorem nodict_of {n : Nat} {d : PL.D} (h : d.okN n = true) : (toPy d).hasDict = false := PyData.hasDict_of_canLay _ (lay_of h).1
mutual
theorem wt_of {n k : Nat} : ∀ {d : PL.D}, d.okN n = true → d.wt = some k → (toPy d).showable = true ∧ (toPy d).shown.length ≤ k
  | .non, _, h => by simp only [PL.D.wt] at h; cases h; exact ⟨rfl, by simp only [toPy, PyData.shown]; decide⟩
  | .bl b, _, h => by simp only [PL.D.wt] at h; cases h; exact ⟨rfl, by simp only [toPy, PyData.shown]; cases b <;> decide⟩
  | .int i, _, h => by
    simp only [PL.D.wt] at h
    obtain ⟨hi, rfl⟩ := if_inv h
    have hl : i.natAbs.log2 < 1920 := by
      by_cases h0 : i.natAbs = 0
      · rw [h0]; decide
      · exact (Nat.log2_lt h0).mpr (Nat.lt_of_lt_of_le hi (Nat.pow_le_pow_right (by decide) (by decide)))
    refine ⟨by simp only [toPy, PyData.showable]; exact decide_eq_true hl, ?_⟩
    simp only [toPy, PyData.shown]
    have e := int_text_length_le (k := 1920) (by decide) hl
    rw [PySem.ofString_length]
    omega
  | .str l, h0, h => by
    simp only [PL.D.wt] at h
    cases h
    refine ⟨rfl, ?_⟩
    simp only [toPy, PyData.shown]
    simp only [PL.D.okN] at h0
    have e := StrLaws.reprText_len ⟨l.toArray⟩ (fun c hc => by
      have hc : c ∈ l := by simpa using hc
      have := of_decide_eq_true (List.all_eq_true.mp h0 c hc)
      exact Nat.lt_trans this (by decide))
    have e2 : (Str.mk l.toArray).length = l.length := by simp [Str.length]
    rw [e2] at e
    exact e
  | .tup ds, h0, h => by
    cases n with
    | zero => simp [PL.D.okN] at h0
    | succ n =>
      simp only [PL.D.okN] at h0
      simp only [PL.D.wt] at h
      cases hw : PL.D.wts ds with
      | none => rw [hw] at h; cases h
      | some m =>
        rw [hw] at h
        cases h
        obtain ⟨a1, a2⟩ := wts_of h0 hw
        refine ⟨by simp only [toPy, PyData.showable]; exact a1, ?_⟩
        simp only [toPy, PyData.shown]
        exact Nat.le_trans (tupleText_len_le _) (Nat.add_le_add_right a2 3)
  | .lst ds, h0, h => by
    cases n with
    | zero => simp [PL.D.okN] at h0
    | succ n =>
      simp only [PL.D.okN] at h0
      simp only [PL.D.wt] at h
      cases hw : PL.D.wts ds with
      | none => rw [hw] at h; cases h
      | some m =>
        rw [hw] at h
        cases h
        obtain ⟨a1, a2⟩ := wts_of h0 hw
        refine ⟨by simp only [toPy, PyData.showable]; exact a1, ?_⟩
        simp only [toPy, PyData.shown]
        exact Nat.le_trans (listText_len_le _) (Nat.add_le_add_right a2 3)
  | .ref _, h0, _ => by simp [PL.D.okN] at h0
  | .adr _, h0, _ => by simp [PL.D.okN] at h0
  | .emp, h0, _ => by simp [PL.D.okN] at h0
  | .exn _ _ _ _, h0, _ => by simp [PL.D.okN] at h0
theorem wts_of {n k : Nat} : ∀ {ds : List PL.D}, PL.D.okNs ds n = true → PL.D.wts ds = some k → PyData.showableAll (toPys ds) = true ∧ ((PyData.shownAll (toPys ds)).map (·.length)).sum + 2 * (PyData.shownAll (toPys ds)).length ≤ k
  | [], _, h => by simp only [PL.D.wts] at h; cases h; simp [toPys, PyData.showableAll, PyData.shownAll]
  | d :: ds, h0, h => by
    simp only [PL.D.okNs, Bool.and_eq_true] at h0
    simp only [PL.D.wts] at h
    cases hd : d.wt with
    | none => rw [hd] at h; cases h
    | some a =>
      rw [hd] at h
      cases hw : PL.D.wts ds with
      | none => rw [hw] at h; cases h
      | some m =>
        rw [hw] at h
        cases h
        obtain ⟨a1, a2⟩ := wt_of h0.1 hd
        obtain ⟨b1, b2⟩ := wts_of h0.2 hw
        refine ⟨by simp only [toPys, PyData.showableAll, a1, b1, Bool.and_self], ?_⟩
        simp only [toPys, PyData.shownAll, List.map_cons, List.sum_cons, List.length_cons]
        omega
end
mutual
theorem wtE_of : ∀ {d : PL.D} {n k : Nat}, d.okE n = true → d.wt = some k → (toPy d).showable = true ∧ (toPy d).shown.length ≤ k
  | .non, n, k, _, h => wt_of (n := 0) (by simp [PL.D.okN]) h
  | .bl b, n, k, _, h => wt_of (n := 0) (by simp [PL.D.okN]) h
  | .int i, n, k, _, h => wt_of (n := 0) (by simp [PL.D.okN]) h
  | .str l, n, k, h0, h => wt_of (n := 0) (by simpa [PL.D.okN, PL.D.okE] using h0) h
  | .tup ds, 0, k, h0, h => by simp [PL.D.okE] at h0
  | .tup ds, n + 1, k, h0, h => by
    simp only [PL.D.okE] at h0
    simp only [PL.D.wt] at h
    cases hw : PL.D.wts ds with
    | none => rw [hw] at h; cases h
    | some m =>
      rw [hw] at h
      cases h
      obtain ⟨a1, a2⟩ := wtEs_of h0 hw
      refine ⟨by simp only [toPy, PyData.showable]; exact a1, ?_⟩
      simp only [toPy, PyData.shown]
      exact Nat.le_trans (tupleText_len_le _) (Nat.add_le_add_right a2 3)
  | .lst _, n, k, h0, _ => by simp [PL.D.okE] at h0
  | .ref _, n, k, h0, _ => by simp [PL.D.okE] at h0
  | .adr _, n, k, h0, _ => by simp [PL.D.okE] at h0
  | .emp, n, k, _, h => by simp only [PL.D.wt] at h; cases h; exact ⟨rfl, by simp only [toPy, PyData.shown, PyData.shownKv]; decide⟩
  | .exn _ _ _ _, n, k, h0, _ => by simp [PL.D.okE] at h0
theorem wtEs_of : ∀ {ds : List PL.D} {n k : Nat}, PL.D.okEs ds n = true → PL.D.wts ds = some k → PyData.showableAll (toPys ds) = true ∧ ((PyData.shownAll (toPys ds)).map (·.length)).sum + 2 * (PyData.shownAll (toPys ds)).length ≤ k
  | [], n, k, _, h => by simp only [PL.D.wts] at h; cases h; simp [toPys, PyData.showableAll, PyData.shownAll]
  | d :: ds, n, k, h0, h => by
    simp only [PL.D.okEs, Bool.and_eq_true] at h0
    simp only [PL.D.wts] at h
    cases hd : d.wt with
    | none => rw [hd] at h; cases h
    | some a =>
      rw [hd] at h
      cases hw : PL.D.wts ds with
      | none => rw [hw] at h; cases h
      | some m =>
        rw [hw] at h
        cases h
        obtain ⟨a1, a2⟩ := wtE_of h0.1 hd
        obtain ⟨b1, b2⟩ := wtEs_of h0.2 hw
        refine ⟨by simp only [toPys, PyData.showableAll, a1, b1, Bool.and_self], ?_⟩
        simp only [toPys, PyData.shownAll, List.map_cons, List.sum_cons, List.length_cons]
        omega
end
mutual
theorem depE_of : ∀ {d : PL.D} {n : Nat}, d.okE n = true → (toPy d).depth ≤ n + 1
  | .non, n, _ => by simp [toPy, PyData.depth]
  | .bl b, n, _ => by simp [toPy, PyData.depth]
  | .int i, n, _ => by simp [toPy, PyData.depth]
  | .str l, n, _ => by simp [toPy, PyData.depth]
  | .tup ds, 0, h0 => by simp [PL.D.okE] at h0
  | .tup ds, n + 1, h0 => by
    simp only [PL.D.okE] at h0
    have := depEs_of h0
    simp only [toPy, PyData.depth]
    omega
  | .lst _, n, h0 => by simp [PL.D.okE] at h0
  | .ref _, n, h0 => by simp [PL.D.okE] at h0
  | .adr _, n, h0 => by simp [PL.D.okE] at h0
  | .emp, n, _ => by simp [toPy, PyData.depth, PyData.depthKv]
  | .exn _ _ _ _, n, h0 => by simp [PL.D.okE] at h0
theorem depEs_of : ∀ {ds : List PL.D} {n : Nat}, PL.D.okEs ds n = true → PyData.depthAll (toPys ds) ≤ n + 1
  | [], n, _ => by simp [toPys, PyData.depthAll]
  | d :: ds, n, h0 => by
    simp only [PL.D.okEs, Bool.and_eq_true] at h0
    have a := depE_of h0.1
    have b := depEs_of h0.2
    simp only [toPys, PyData.depthAll]
    omega
end
mutual
theorem readsE (I : Inv X pins σ H s) : ∀ {d : PL.D} {n : Nat} {v : V} {u : Value}, d.okE n = true → RD X.K α H d v → RelV v u → ∃ as, Reads s.heap u (toPy d) as ∧ sysModules ∉ as
  | .non, n, v, u, _, q, r => by rw [rd_non q] at r; cases r; exact ⟨_, .none, by simp⟩
  | .bl b, n, v, u, _, q, r => by rw [rd_bl q] at r; cases r; exact ⟨_, .bool b, by simp⟩
  | .int i, n, v, u, _, q, r => by rw [rd_int q] at r; obtain ⟨t, rfl⟩ := r; exact ⟨_, .int i t, by simp⟩
  | .str l, n, v, u, _, q, r => by
    obtain ⟨x, rfl, hx⟩ := rd_str q
    obtain ⟨t, rfl⟩ := r
    have : x = ⟨l.toArray⟩ := by rw [← hx]
    subst this
    exact ⟨_, .str _ t, by simp⟩
  | .tup ds, 0, v, u, h0, _, _ => by simp [PL.D.okE] at h0
  | .tup ds, n + 1, v, u, h0, q, r => by
    simp only [PL.D.okE] at h0
    obtain ⟨a, vs, rfl, h1, h2⟩ := rd_tup q
    cases r
    obtain ⟨its, rv, ⟨o, ho, hc, m, hd⟩, _⟩ := I.tuple h1
    obtain ⟨as, hr, hn⟩ := readsEs I h0 h2 rv
    exact ⟨_, Reads.tuple ho hc hd hr, hn⟩
  | .lst _, n, v, u, h0, _, _ => by simp [PL.D.okE] at h0
  | .ref _, n, v, u, h0, _, _ => by simp [PL.D.okE] at h0
  | .adr _, n, v, u, h0, _, _ => by simp [PL.D.okE] at h0
  | .emp, n, v, u, _, q, r => by
    simp only [RD] at q
    obtain ⟨a, o, rfl, h⟩ := q
    cases r
    obtain ⟨_, _, hne, vs, hkv, o2, es, ep, e, ed, hd, _, hp, _⟩ := I.hok a _ h
    cases hkv
    have he : es.toList = [] := by
      cases hq : es.toList with
      | nil => rfl
      | cons x y => rw [hq] at hp; cases hp
    refine ⟨_, Reads.dict (kvs := []) e ed.1 hd (by rw [he]; exact .nil) (by rw [he]; exact .nil), ?_⟩
    have hne2 := beq_eq_false_iff_ne.mp hne
    simpa using Ne.symm hne2
  | .exn _ _ _ _, n, v, u, h0, _, _ => by simp [PL.D.okE] at h0
theorem readsEs (I : Inv X pins σ H s) : ∀ {ds : List PL.D} {n : Nat} {vs : List V} {us : List Value}, PL.D.okEs ds n = true → RDs X.K α H ds vs → Vals vs us → ∃ as, ReadsAll s.heap us (toPys ds) as ∧ sysModules ∉ as
  | [], n, vs, us, _, q, r => by simp only [RDs] at q; subst q; cases r; exact ⟨_, .nil, by simp⟩
  | d :: ds, n, vs, us, h0, q, r => by
    simp only [PL.D.okEs, Bool.and_eq_true] at h0
    simp only [RDs] at q
    obtain ⟨v, rr, rfl, q1, q2⟩ := q
    cases r with
    | cons r1 r2 =>
      obtain ⟨as, a1, a2⟩ := readsE I h0.1 q1 r1
      obtain ⟨bs, b1, b2⟩ := readsEs I h0.2 q2 r2
      exact ⟨_, .cons a1 b1, by simp [a2, b2]⟩
end
theorem str_eta (x : Str) : x.cps.toList = x.cps.toList := rfl
theorem b_reprV (hX : Cv X) : BiD X (.builtin "repr") (PL.biRepr reprD) := fun S xs z e α δ pins s σ H vs us I R q r => by
  unfold PL.biRepr at e
  split at e
  · rename_i d
    split at e
    · rename_i hok
      split at e
      · rename_i n hn
        obtain ⟨hz, rfl⟩ := if_inv e
        obtain ⟨v, rfl, q1⟩ := q.one
        obtain ⟨hs, hl⟩ := wt_of hok hn
        have hfit : (toPy d).shown.length ≤ sizeLine := Nat.le_trans hl (by rw [← line_eq]; exact hz)
        have hu : X.A.units + 64 < cLine := by have := hX.un; omega
        have dp := (lay_of hok).2
        have fin : ∀ (h' : Heap) (u : Tok) (tk : Nat), (∀ b o, s.heap.get? b = some o → h'.get? b = some o) → PoE X pins α δ σ H (.ok (.str (reprD d)) S) (.str (toPy d).shown u) { s with heap := h', toks := tk } := fun h' u tk k =>
          PoE.here (v := .str (toPy d).shown) (I.kept k) ⟨u, rfl⟩ R (mk_str rfl)
        have fin0 : ∀ (u : Tok) (tk : Nat), PoE X pins α δ σ H (.ok (.str (reprD d)) S) (.str (toPy d).shown u) { s with toks := tk } := fun u tk => fin s.heap u tk fun _ _ h => h
        obtain ⟨u, rfl, rv⟩ := vals1 r
        have big : ∀ {a : Addr}, v = .ref a → wpAny (model X.prog X.w) X.A (call (.builtin "repr") [u]) (PoE X pins α δ σ H (.ok (.str (reprD d)) S)) X.xe s := fun {a} ev => by
          subst ev
          cases rv
          obtain ⟨as, rr⟩ := Dp.reads I (toPy d) _ _ (dp_of hok q1) rfl
          exact repr_of_reads' rr hs (PyData.noDict_hsm (nodict_of hok)) hX.gd (by have := hX.un; omega) (fun _ _ h => h) (fun h' u tk k => fin h' u tk k) hfit
        cases d with
        | non => have e1 := rd_non q1; subst e1; cases rv; exact PySem.P.repr_of_none (fin0 _ _)
        | bl b => have e1 := rd_bl q1; subst e1; cases rv; exact PySem.P.repr_of_bool (fin0 _ _)
        | int i =>
          have e1 := rd_int q1
          subst e1
          obtain ⟨t, rfl⟩ := rv
          simp only [toPy, PyData.showable] at hs
          exact PySem.P.repr_of_int (of_decide_eq_true hs) (fin0 _ _)
        | str l =>
          obtain ⟨x, rfl, hx⟩ := rd_str q1
          obtain ⟨t, rfl⟩ := rv
          have : x = ⟨l.toArray⟩ := by rw [← hx]
          subst this
          exact PySem.P.repr_of_str (fin0 _ _) hfit
        | tup ds => obtain ⟨a, vs, e1, _⟩ := rd_tup q1; exact big e1
        | lst ds => obtain ⟨a, o, vs, e1, _⟩ := rd_lst q1; exact big e1
        | ref n => simp [PL.D.okN] at hok
        | adr _ => simp [PL.D.okN] at hok
        | emp => simp [PL.D.okN] at hok
        | exn _ _ _ _ => simp [PL.D.okN] at hok
      · cases e
    · split at e
      · rename_i _ hok
        split at e
        · rename_i n hn
          obtain ⟨hz, rfl⟩ := if_inv e
          obtain ⟨v, rfl, q1⟩ := q.one
          obtain ⟨hs, hl⟩ := wtE_of hok hn
          have hfit : (toPy d).shown.length ≤ sizeLine := Nat.le_trans hl (by rw [← line_eq]; exact hz)
          have dp := depE_of hok
          have fin : ∀ (h' : Heap) (u : Tok) (tk : Nat), (∀ b o, s.heap.get? b = some o → h'.get? b = some o) → PoE X pins α δ σ H (.ok (.str (reprD d)) S) (.str (toPy d).shown u) { s with heap := h', toks := tk } := fun h' u tk k =>
            PoE.here (v := .str (toPy d).shown) (I.kept k) ⟨u, rfl⟩ R (mk_str rfl)
          obtain ⟨u, rfl, rv⟩ := vals1 r
          have big : ∀ {a : Addr}, v = .ref a → wpAny (model X.prog X.w) X.A (call (.builtin "repr") [u]) (PoE X pins α δ σ H (.ok (.str (reprD d)) S)) X.xe s := fun {a} ev => by
            subst ev
            cases rv
            obtain ⟨as, rr, hn⟩ := readsE (α := α) I hok q1 rfl
            exact repr_of_reads' rr hs (fun _ => hn) hX.gd (by have := hX.un; omega) (fun _ _ h => h) (fun h' u tk k => fin h' u tk k) hfit
          cases d with
          | non => rename_i hno; simp [PL.D.okN] at hno
          | bl b => rename_i hno; simp [PL.D.okN] at hno
          | int i => rename_i hno; simp [PL.D.okN] at hno
          | str l => rename_i hno; simp [PL.D.okE] at hok; simp [PL.D.okN] at hno; obtain ⟨x, h1, h2⟩ := hno; exact absurd (hok x h1) (by omega)
          | tup ds => obtain ⟨a, vs, e1, _⟩ := rd_tup q1; exact big e1
          | lst ds => simp [PL.D.okE] at hok
          | ref n => simp [PL.D.okE] at hok
          | adr _ => simp [PL.D.okE] at hok
          | emp => simp only [RD] at q1; obtain ⟨a, o, e1, _⟩ := q1; exact big e1
          | exn _ _ _ _ => simp [PL.D.okE] at hok
        · cases e
      · cases e
  · cases e
theorem b_repr (hX : Cz k X) : BiD X (.builtin "repr") (PL.biRepr reprD) := b_reprV hX.v
end
end BR

set_option Elab.async false
set_option linter.all false
set_option maxRecDepth 100000
set_option maxHeartbeats 2000000
/-! ## statements -/
namespace BR
open PySem PySem.Spec PyProof.Rows L2
variable [Tbs]
section
variable {G : EX} {X : Cx} {α α' : List Addr} {δ : PL.Env} {S : PL.Sto} {σ : L2.St} {H H' : Hp} {pins : List (Addr × Obj)} {s : Shared}
variable {a b c e : Expr} {ma mb mc m : PL.ME} {pos : Pos} {es : List Expr} {mas : PL.MA} {st : Stmt} {sts sts' : List Stmt} {ms mr : PL.MS} {k : Nat} {x y z : Str}

theorem PoS.nx {δ' : PL.Env} {σ' : L2.St} {s' : Shared} (I : Inv X pins σ' H' s') (x : Ext α H α' H') (R : Rel X.K α' δ' S σ' H') : PoS X pins α H (.nx δ' S) .next s' := ⟨rfl, α', σ', H', I, x, R⟩
theorem css_nil : CSs G X [] PL.mPass := ⟨fun δ S r hm α pins s σ H I R tk => by
  cases hm; exact wpAny_execs_nil (PoS.nx I (Ext.refl _ _) R)⟩
theorem css_one (h : CS G X st ms) : CSs G X [st] ms := ⟨fun δ S r hm α pins s σ H I R tk =>
  wpAny_execs_cons (thn (h.run δ S r hm α pins s σ H I R tk) fun f s1 q => by
    cases f with
    | next => exact wpAny_execs_nil q
    | ret v => exact q
    | brk => exact q
    | cont => exact q)⟩
theorem css_cons (h : CS G X st ms) (hr : CSs G X sts mr) : CSs G X (st :: sts) (PL.mSeq ms mr) := ⟨fun δ S r hm α pins s σ H I R tk => by
  unfold PL.mSeq at hm
  cases c : ms δ S with
  | none => rw [c] at hm; cases hm
  | some r0 =>
    rw [c] at hm
    cases r0 with
    | nx δ1 S1 =>
      refine wpAny_execs_cons (thn (h.run δ S _ c α pins s σ H I R trivial) fun f s1 q => ?_)
      obtain ⟨rfl, α1, σ1, H1, I1, x1, R1⟩ := q
      exact thn (hr.run δ1 S1 r hm α1 pins s1 σ1 H1 I1 R1 (tk.ext x1)) fun f s2 q2 => q2.ext x1
    | rt d S1 =>
      cases hm
      refine wpAny_execs_cons (thn (h.run δ S _ c α pins s σ H I R trivial) fun f s1 q => ?_)
      obtain ⟨u, rfl, q⟩ := q
      exact ⟨u, rfl, q⟩
    | bk δ1 S1 =>
      cases hm
      refine wpAny_execs_cons (thn (h.run δ S _ c α pins s σ H I R trivial) fun f s1 q => ?_)
      obtain ⟨rfl, q⟩ := q
      exact ⟨rfl, q⟩
    | ct δ1 S1 =>
      cases hm
      refine wpAny_execs_cons (thn (h.run δ S _ c α pins s σ H I R trivial) fun f s1 q => ?_)
      obtain ⟨rfl, q⟩ := q
      exact ⟨rfl, q⟩
    | ex x δ1 S1 =>
      cases hm
      exact wpAny_execs_cons (thn (h.run δ S _ c α pins s σ H I R tk) fun f s1 q => q.elim)⟩
theorem cs_pass : CS G X (.Pass pos) PL.mPass := ⟨fun δ S r hm α pins s σ H I R tk => by cases hm; exact wpAny_Pass (PoS.nx I (Ext.refl _ _) R)⟩
theorem cs_break : CS G X (.Break pos) PL.mBreak := ⟨fun δ S r hm α pins s σ H I R tk => by cases hm; exact wpAny_Break ⟨rfl, α, σ, H, I, Ext.refl _ _, R⟩⟩
theorem cs_cont : CS G X (.Continue pos) PL.mCont := ⟨fun δ S r hm α pins s σ H I R tk => by cases hm; exact wpAny_Continue ⟨rfl, α, σ, H, I, Ext.refl _ _, R⟩⟩
theorem cs_never : CS G X st PL.mNever := ⟨fun δ S r hm => by cases hm⟩
theorem css_never : CSs G X sts PL.mNever := ⟨fun δ S r hm => by cases hm⟩
/-- name = e -/
theorem cs_setV (hX : Cv X) (i : Nat) {px : Pos} (he : CE G X e m) (hi : X.N[i]? = some x := by rfl) (hx : Loc X.env.scope x := by first | exact .inl rfl | exact .inr rfl) (hs : swapsWith e (some (.Name x px)) pos.line X.env = pure false := by rfl)
    (hf : X.fn x = true ∨ X.env.scope.names.lookup x = some .local := by first | exact .inl rfl | exact .inr rfl) : CS G X (.Assign [.Name x px] e pos) (PL.mSet i m) := ⟨fun δ S r hm α pins s σ H I R tk => by
  refine wpAny_Assign_Name (he.thenS I R hm tk fun d S1 h1 α1 v H1 u s1 I1 rv x1 R1 q1 tk1 => ?_) hs
  cases h1
  exact store_ok I1 hX.nd hi hx rv (fun s2 I2 => PoS.nx I2 x1 (R1.set q1 i)) hf⟩
theorem cs_set (hX : Cz k X) (i : Nat) {px : Pos} (he : CE G X e m) (hi : X.N[i]? = some x := by rfl) (hx : Loc X.env.scope x := by first | exact .inl rfl | exact .inr rfl) (hs : swapsWith e (some (.Name x px)) pos.line X.env = pure false := by rfl)
    (hf : X.fn x = true ∨ X.env.scope.names.lookup x = some .local := by first | exact .inl rfl | exact .inr rfl) : CS G X (.Assign [.Name x px] e pos) (PL.mSet i m) := cs_setV hX.v i he hi hx hs hf
/-- an expression by itself -/
theorem cs_drop (he : CE G X e m) (hs : swapsWith e none pos.line X.env = pure false := by rfl) : CS G X (.Expr e pos) (PL.mDrop m) := ⟨fun δ S r hm α pins s σ H I R tk =>
  wpAny_Expr_any (he.thenS I R hm tk fun d S1 h1 α1 v H1 u s1 I1 rv x1 R1 q1 tk1 => by cases h1; exact PoS.nx I1 x1 R1) I.quiet hs⟩
theorem cs_ret (he : CE G X e m) : CS G X (.Return (some e) pos) (PL.mRet m) := ⟨fun δ S r hm α pins s σ H I R tk =>
  wpAny_Return_some (he.thenS I R hm tk fun d S1 h1 α1 v H1 u s1 I1 rv x1 R1 q1 tk1 => by
    cases h1; exact ⟨u, rfl, α1, σ, H1, v, I1, rv, x1, R1.st, q1⟩)⟩
theorem cs_retN : CS G X (.Return none pos) PL.mRetN := ⟨fun δ S r hm α pins s σ H I R tk => by
  cases hm; exact wpAny_Return_none ⟨.none, rfl, α, σ, H, .non, I, rfl, Ext.refl _ _, R.st, mk_non⟩⟩
theorem cs_if {mt : PL.MT} (hc : CT G X c mt) (ha : CSs G X sts ms) (hb : CSs G X sts' mr) : CS G X (.If c sts sts' pos) (PL.mIfS mt ms mr) := ⟨fun δ S r hm α pins s σ H I R tk => by
  refine wpAny_If (hc.thenS I R hm tk fun d S1 h1 α1 H1 s1 I1 x1 R1 tk1 => ?_)
  cases d with
  | true => exact thn (ha.run δ S1 r h1 α1 pins s1 σ H1 I1 R1 tk1) fun f s2 q2 => q2.ext x1
  | false => exact thn (hb.run δ S1 r h1 α1 pins s1 σ H1 I1 R1 tk1) fun f s2 q2 => q2.ext x1⟩
theorem CA.thenS {ma : PL.MA} (h : CA G X es ma) (pos : Pos) (I : Inv X pins σ H s) (R : Rel X.K α δ S σ H) {k : List PL.D → PL.Sto → Option PL.RS} {r : PL.RS} (hk : PL.bAS δ (ma δ S) k = some r) (tk : TkS G X α H r) {Q : List Value → Shared → Prop}
    (q : ∀ d S1, k d S1 = some r → ∀ α1 v H1 u s1, Inv X pins σ H1 s1 → Vals v u → Ext α H α1 H1 → Rel X.K α1 δ S1 σ H1 → RDs X.K α1 H1 d v → TkS G X α1 H1 r → Q u s1) :
    wpAny (model X.prog X.w) X.A (spliced (backTo pos (starEach es X.env))) Q X.xe s := by
  refine h.step pos I R (fun z => by rw [z] at hk; cases hk) (fun x S1 c => ?_) (fun d S1 c α1 v H1 u s1 I1 rv x R1 rd => ?_)
  · rw [c] at hk; cases hk; exact TkS.ofE R tk
  · rw [c] at hk
    exact q d S1 hk α1 v H1 u s1 I1 rv x R1 rd (tk.ext x)
theorem mPar_eq {i j : Nat} : PL.mPar i j ma mb δ S = PL.bAS δ (PL.mConsA ma (PL.mConsA mb PL.mNilA) δ S) fun ds S1 => match ds with
    | [x, y] => some (.nx ((δ.set i (some x)).set j (some y)) S1)
    | _ => none := by
  unfold PL.mPar PL.mConsA PL.mNilA
  cases h1 : ma δ S with
  | none => rfl
  | some r1 =>
    cases r1 with
    | ex _ _ => rfl
    | ok d1 S1 =>
      simp only [PL.bES_ok, PL.bEA_ok]
      cases h2 : mb δ S1 with
      | none => rfl
      | some r2 => cases r2 <;> rfl
/-- a, b = x, y (plain local names) -/
theorem cs_par (hX : Cz k X) (i j : Nat) {px py pt : Pos} {kt k2 pt2} (ha : CA G X [a, b] (PL.mConsA ma (PL.mConsA mb PL.mNilA))) (hij : i ≠ j := by decide) (hi : X.N[i]? = some x := by rfl) (hj : X.N[j]? = some y := by rfl)
    (hx : X.env.scope.names.lookup x = some .local := by rfl) (hy : X.env.scope.names.lookup y = some .local := by rfl)
    (hw : swappedStores [.Tuple [.Name x px, .Name y py] kt pt] (.Tuple [a, b] k2 pt2) X.env = pure (some [x, y]) := by rfl)
    (hs : swapsWithSole [.Tuple [.Name x px, .Name y py] kt pt] (.Tuple [a, b] k2 pt2) pos.line X.env = pure false := by rfl) :
    CS G X (.Assign [.Tuple [.Name x px, .Name y py] kt pt] (.Tuple [a, b] k2 pt2) pos) (PL.mPar i j ma mb) := ⟨fun δ S r hm α pins s σ H I R tk => by
  rw [mPar_eq] at hm
  rw [exec_Assign_arm]
  refine wpAny_bind (wpAny_standAt ?_)
  rw [hs]
  refine wpAny_bind (wpAny_pure ?_)
  rw [if_neg (by decide)]
  refine wpAny_bind (Tuple_ (ha.thenS _ I R hm tk fun ds S1 h1 α1 vs H1 us s1 I1 rv x1 R1 q1 tk1 => ?_))
  have e2 : ∃ d1 d2, ds = [d1, d2] ∧ r = .nx ((δ.set i (some d1)).set j (some d2)) S1 := by
    split at h1
    · cases h1; exact ⟨_, _, rfl, rfl⟩
    · cases h1
  obtain ⟨d1, d2, e2, rfl⟩ := e2
  subst e2
  obtain ⟨v, w, rfl, qv, qw⟩ := q1.two
  obtain ⟨u1, u2, rfl, rv, rw'⟩ : ∃ u1 u2, us = [u1, u2] ∧ RelV v u1 ∧ RelV w u2 := by
    cases rv with
    | cons p q =>
      cases q with
      | cons p' q' =>
        cases q'
        exact ⟨_, _, rfl, p, p'⟩
  refine wpAny_newObj_type ?_ (by show 2 ≤ sizeLine; decide)
  have I2 : Inv X pins σ H1 { s1 with heap := s1.heap.push { cls := .type "tuple", data := .seq [u1, u2].toArray } } := I1.kept (t' := s1.toks) fun b o e => Heap.get?_push_of_some _ e
  rw [hw]
  refine wpAny_bind (wpAny_pure ?_)
  show wpAny (model X.prog X.w) X.A (do rule "assign.swapped-stores"; let items ← unpackItems (.ref s1.heap.objs.size) 2 none; assignInOrder [fun v => bindName X.env y v, fun v => bindName X.env x v] items.reverse; pure Flow.next) _ _ _
  refine wpAny_bind (wpAny_rule (wpAny_bind (unpackItems_tuple (items := #[u1, u2]) (I.ok.hd hX.calm) (IsTup.new s1.heap _) fun h' hx' => ?_)))
  have I3 := I2.kept (h' := h') (t' := s1.toks) fun b o e => hx' b o (Nat.ne_of_lt (Heap.lt_size e)) e
  show wpAny _ _ (assignInOrder [fun v => bindName X.env y v, fun v => bindName X.env x v] [u2, u1] >>= fun _ => pure Flow.next) _ _ _
  refine wpAny_bind (assignInOrder_cons (wpAny_bindName (store_ok I3 hX.nd hj (.inl hy) rw' (fun s2 I4 => ?_) (.inr hy))))
  refine assignInOrder_cons (wpAny_bindName (store_ok I4 hX.nd hi (.inl hx) rv (fun s3 I5 => assignInOrder_nil (wpAny_pure ?_)) (.inr hx)))
  rw [List.set_comm _ _ (Ne.symm hij)] at I5
  exact PoS.nx I5 x1 ((R1.set qv i).set qw j)⟩

/-! ### targets -/
mutual
def _root_.PL.Tg.slots : PL.Tg → List Nat
  | .name i => [i]
  | .tup ts => PL.Tg.slotss ts
def _root_.PL.Tg.slotss : List PL.Tg → List Nat
  | [] => []
  | t :: ts => t.slots ++ PL.Tg.slotss ts
end
/-- the same but at ix -/
def Alike (ix : List Nat) (σ σ' : L2.St) : Prop := σ'.length = σ.length ∧ ∀ i, i ∉ ix → σ'[i]? = σ[i]?
theorem Alike.refl {ix : List Nat} {σ : L2.St} : Alike ix σ σ := ⟨rfl, fun _ _ => rfl⟩
theorem Alike.trans {ix iy : List Nat} {σ σ1 σ2 : L2.St} (a : Alike ix σ σ1) (b : Alike iy σ1 σ2) : Alike (ix ++ iy) σ σ2 :=
  ⟨b.1.trans a.1, fun i h => by rw [List.mem_append, not_or] at h; exact (b.2 i h.2).trans (a.2 i h.1)⟩
theorem Alike.set {i : Nat} {σ : L2.St} {v : Option V} : Alike [i] σ (σ.set i v) := ⟨by simp, fun j h => by
  rw [List.getElem?_set_ne]; exact fun e => h (by simp [e])⟩
structure CG (X : Cx) (tg : Expr) (t : PL.Tg) : Prop where
  run : ∀ d δ δ', t.put d δ = some δ' → ∀ α pins s σ H S v u, Inv X pins σ H s → Rel X.K α δ S σ H → RD X.K α H d v → RelV v u →
    wpAny (model X.prog X.w) X.A (assign tg X.env u) (fun _ s' => ∃ σ', Inv X pins σ' H s' ∧ Rel X.K α δ' S σ' H ∧ Alike t.slots σ σ') X.xe s
structure CGs (X : Cx) (tgs : List Expr) (ts : List PL.Tg) : Prop where
  run : ∀ ds δ δ', PL.Tg.puts ts ds δ = some δ' → ∀ α pins s σ H S vs us, Inv X pins σ H s → Rel X.K α δ S σ H → RDs X.K α H ds vs → Vals vs us →
    wpAny (model X.prog X.w) X.A (assignInOrder ((assignEach tgs X.env).map (·.2)) us) (fun _ s' => ∃ σ', Inv X pins σ' H s' ∧ Rel X.K α δ' S σ' H ∧ Alike (PL.Tg.slotss ts) σ σ') X.xe s
  len : ∀ ds δ δ', PL.Tg.puts ts ds δ = some δ' → ds.length = ts.length
theorem cg_name (hX : Cz k X) (i : Nat) (hi : X.N[i]? = some x := by rfl) (hx : Loc X.env.scope x := by first | exact .inl rfl | exact .inr rfl)
    (hf : X.fn x = true ∨ X.env.scope.names.lookup x = some .local := by first | exact .inl rfl | exact .inr rfl) : CG X (.Name x pos) (.name i) := ⟨fun d δ δ' h α pins s σ H S v u I R q rv => by
  simp only [PL.Tg.put] at h
  cases h
  exact wpAny_assign_Name (store_ok I hX.nd hi hx rv (fun s2 I2 => ⟨_, I2, R.set q i, Alike.set⟩) hf)⟩
theorem cgs_nil : CGs X [] [] := ⟨fun ds δ δ' h α pins s σ H S vs us I R q rv => by
  cases ds with
  | nil =>
    simp only [PL.Tg.puts] at h
    cases h
    simp only [RDs] at q
    subst q
    cases rv
    exact assignInOrder_nil ⟨σ, I, R, Alike.refl⟩
  | cons d ds => simp [PL.Tg.puts] at h, fun ds δ δ' h => by cases ds with
  | nil => rfl
  | cons d ds => simp [PL.Tg.puts] at h⟩
theorem cgs_cons {t : PL.Tg} {ts : List PL.Tg} (h1 : CG X e t) (h2 : CGs X es ts) (hs : (assignEach (e :: es) X.env).map (·.2) = assign e X.env :: (assignEach es X.env).map (·.2) := by rfl) : CGs X (e :: es) (t :: ts) := ⟨fun ds δ δ' h α pins s σ H S vs us I R q rv => by
  cases ds with
  | nil => simp [PL.Tg.puts] at h
  | cons d ds =>
    simp only [PL.Tg.puts] at h
    cases hp : t.put d δ with
    | none => rw [hp] at h; cases h
    | some δ1 =>
      rw [hp] at h
      simp only [RDs] at q
      obtain ⟨v, vr, rfl, q1, q2⟩ := q
      cases rv with
      | cons r rr =>
        rw [hs]
        refine assignInOrder_cons (thn (h1.run d δ δ1 hp α pins s σ H S _ _ I R q1 r) fun _ s1 ⟨σ1, I1, R1, a1⟩ => ?_)
        exact thn (h2.run ds δ1 δ' h α pins s1 σ1 H S _ _ I1 R1 q2 rr) fun _ s2 ⟨σ2, I2, R2, a2⟩ => ⟨σ2, I2, R2, a1.trans a2⟩, fun ds δ δ' h => by
  cases ds with
  | nil => simp [PL.Tg.puts] at h
  | cons d ds =>
    simp only [PL.Tg.puts] at h
    cases hp : t.put d δ with
    | none => rw [hp] at h; cases h
    | some δ1 => rw [hp] at h; simp [h2.len ds δ1 δ' h]⟩
theorem cg_tup {ts : List PL.Tg} {kk : Nat} (hX : Cz k X) (h : CGs X es ts) (hn : (assignEach es X.env).length = ts.length := by rfl) (hst : (assignEach es X.env).findIdx? (·.1) = none := by rfl) : CG X (.Tuple es kk pos) (.tup ts) := ⟨fun d δ δ' hp α pins s σ H S v u I R q rv => by
  cases d <;> simp only [PL.Tg.put] at hp <;> try cases hp
  rename_i ds
  obtain ⟨p, vs, rfl, q1, q2⟩ := rd_tup q
  cases rv
  obtain ⟨its, rv, ht, hz⟩ := I.tuple q1
  refine assign_Tuple_tuple (I.ok.hd hX.calm) ht (by rw [hn, ← h.len ds δ δ' hp, q2.length, rv.length]; simp) hst fun h' hx => ?_
  have I1 : Inv X pins σ H { s with heap := h' } := I.kept (t' := s.toks) fun b o e => hx b o (Nat.ne_of_lt (Heap.lt_size e)) e
  exact h.run ds δ δ' hp α pins _ σ H S vs _ I1 R q2 (by simpa using rv)⟩
/-- target = e -/
theorem cs_asg {t : PL.Tg} {tg : Expr} (he : CE G X e m) (hg : CG X tg t) (hs : swapsWithSole [tg] e pos.line X.env = pure false := by rfl) (hw : swappedStores [tg] e X.env = pure none := by rfl)
    (h1 : (assignEach [tg] X.env).map (·.2) = [assign tg X.env] := by rfl) : CS G X (.Assign [tg] e pos) (PL.mAsg t m) := ⟨fun δ S r hm α pins s σ H I R tk => by
  refine wpAny_Assign_stores (he.thenS I R hm tk fun d S1 h2 α1 v H1 u s1 I1 rv x1 R1 q1 tk1 => ?_) hs hw
  rw [h1]
  cases hp : t.put d δ with
  | none => rw [hp] at h2; cases h2
  | some δ1 =>
    rw [hp] at h2
    cases h2
    exact thn (hg.run d δ δ1 hp α1 pins s1 σ H1 S1 v u I1 R1 q1 rv) fun _ s2 ⟨σ2, I2, R2, _⟩ => PoS.nx I2 x1 R2⟩
end
end BR

set_option Elab.async false
set_option linter.all false
set_option maxRecDepth 100000
set_option maxHeartbeats 2000000
/-! ## loops -/
namespace BR
open PySem PySem.Spec PyProof.Rows L2
variable [Tbs]
/-- while, with a bound on its turns -/
def whN (c : PL.MT) (b : PL.MS) : Nat → PL.Env → PL.Sto → Option PL.RS
  | 0, _, _ => none
  | n + 1, δ, S => match c δ S with
    | some (.ok true S1) => match b δ S1 with
      | some (.nx δ2 S2) => whN c b n δ2 S2
      | some (.ct δ2 S2) => whN c b n δ2 S2
      | some (.bk δ2 S2) => some (.nx δ2 S2)
      | some (.rt d S2) => some (.rt d S2)
      | some (.ex x δ2 S2) => some (.ex x δ2 S2)
      | none => none
    | some (.ok false S1) => some (.nx δ S1)
    | some (.ex x S1) => some (.ex x δ S1)
    | none => none
theorem whN_of {c : PL.MT} {b : PL.MS} : ∀ δ S r, PL.mWhile c b δ S = some r → ∃ n, whN c b n δ S = some r := by
  refine PL.mWhile.partial_correctness c b (fun δ S r => ∃ n, whN c b n δ S = some r) fun f ih δ S r h => ?_
  cases hc : c δ S with
  | none => rw [hc] at h; cases h
  | some rt =>
    rw [hc] at h
    cases rt with
    | ex x S1 => exact ⟨1, by unfold whN; rw [hc]; exact h⟩
    | ok k S1 =>
      cases k with
      | false => exact ⟨1, by unfold whN; rw [hc]; exact h⟩
      | true =>
        simp only at h
        cases hb : b δ S1 with
        | none => rw [hb] at h; cases h
        | some rb =>
          rw [hb] at h
          cases rb with
          | nx δ2 S2 => obtain ⟨n, e⟩ := ih _ _ _ h; exact ⟨n + 1, by unfold whN; rw [hc]; simp only [hb]; exact e⟩
          | ct δ2 S2 => obtain ⟨n, e⟩ := ih _ _ _ h; exact ⟨n + 1, by unfold whN; rw [hc]; simp only [hb]; exact e⟩
          | bk δ2 S2 => exact ⟨1, by unfold whN; rw [hc]; simp only [hb]; exact h⟩
          | rt d S2 => exact ⟨1, by unfold whN; rw [hc]; simp only [hb]; exact h⟩
          | ex x δ2 S2 => exact ⟨1, by unfold whN; rw [hc]; simp only [hb]; exact h⟩
section
variable {G : EX} {X : Cx} {α α' : List Addr} {δ : PL.Env} {S : PL.Sto} {σ : L2.St} {H H' : Hp} {pins : List (Addr × Obj)} {s : Shared}
variable {a b c e : Expr} {ma mb mc m : PL.ME} {pos : Pos} {es : List Expr} {mas : PL.MA} {st : Stmt} {sts sts' : List Stmt} {ms mr : PL.MS} {k : Nat} {x y z : Str}
/-- what a body is to do behind each turn -/
theorem body_run {r : PL.RS} {r0 : PL.RS} (h : CSs G X sts ms) (hb : ms δ S = some r0) (I : Inv X pins σ H s) (R : Rel X.K α δ S σ H) (tk : ∀ x δ' S', r0 = .ex x δ' S' → TkS G X α H r0) : wpAny (model X.prog X.w) X.A (execs sts X.env) (PoS X pins α H r0) X.xe s :=
  h.run δ S r0 hb α pins s σ H I R (by
    cases r0 with
    | ex x δ' S' => exact tk x δ' S' rfl
    | _ => trivial)
theorem cs_while {mt : PL.MT} (hX : Cz k X) (hc : CT G X c mt) (hb : CSs G X sts ms) : CS G X (.While c sts [] pos) (PL.mWhile mt ms) := ⟨fun δ S r hm α pins s σ H I R tk => by
  have hp := hX.po
  obtain ⟨n0, e0⟩ := whN_of δ S r hm
  refine wpAny_While (codeAny_whileLoop (fun n s' => ∃ α1 δ1 S1 σ1 H1, Inv X pins σ1 H1 s' ∧ Ext α H α1 H1 ∧ Rel X.K α1 δ1 S1 σ1 H1 ∧ whN mt ms n δ1 S1 = some r) ?_ n0 ⟨α, δ, S, σ, H, I, Ext.refl _ _, R, e0⟩)
  rintro n s1 ⟨α1, δ1, S1, σ1, H1, I1, x1, R1, e1⟩
  have tk1 := tk.ext x1
  cases n with
  | zero => cases e1
  | succ n =>
    unfold whN at e1
    refine wpAny_passesOwn hp (hc.step I1 R1 (fun z => by rw [z] at e1; cases e1) (fun x2 S2 z => by rw [z] at e1; cases e1; exact TkS.ofE R1 tk1) fun d S2 z α2 H2 s2 I2 x2 R2 => ?_)
    rw [z] at e1
    cases d with
    | false =>
      cases e1
      rw [if_neg Bool.false_ne_true]
      exact wpAny_execs_nil (PoS.nx I2 (x1.trans x2) R2)
    | true =>
      simp only at e1
      rw [if_pos rfl]
      cases hr : ms δ1 S2 with
      | none => rw [hr] at e1; cases e1
      | some r0 =>
        rw [hr] at e1
        refine wpAny_passesOwn hp (thn (body_run hb hr I2 R2 (r := r) (fun x δ' S' z => by subst z; cases e1; exact tk1.ext x2)) fun f s3 q => ?_)
        cases r0 with
        | nx δ3 S3 =>
          obtain ⟨rfl, α3, σ3, H3, I3, x3, R3⟩ := q
          exact ⟨n, Nat.lt_succ_self _, α3, δ3, S3, σ3, H3, I3, (x1.trans x2).trans x3, R3, e1⟩
        | ct δ3 S3 =>
          obtain ⟨rfl, α3, σ3, H3, I3, x3, R3⟩ := q
          exact ⟨n, Nat.lt_succ_self _, α3, δ3, S3, σ3, H3, I3, (x1.trans x2).trans x3, R3, e1⟩
        | bk δ3 S3 =>
          cases e1
          obtain ⟨rfl, α3, σ3, H3, I3, x3, R3⟩ := q
          exact PoS.nx I3 ((x1.trans x2).trans x3) R3
        | rt d S3 =>
          cases e1
          obtain ⟨u, rfl, q⟩ := q
          exact PoS.ext (r := .rt d S3) ⟨u, rfl, q⟩ (x1.trans x2)
        | ex _ _ _ => exact q.elim⟩

/-! ### what is walked -/
/-- the walk J gives the items ds, whatever the heap becomes -/
structure IOk (K : PySem.W.Frag) (J : It) (ds : List PL.D) (α : List Addr) (H : Hp) : Prop where
  go : ∀ i α' H', i < ds.length → Ext α H α' H' → J.go i H'
  stop : ∀ α' H', Ext α H α' H' → J.stop ds.length H'
  yld : ∀ i α' H' x H'' d, ds[i]? = some d → Ext α H α' H' → J.yld i H' x H'' → (∀ c u, H' c = some u → H'' c = some u) ∧ RD K α' H'' d x
def PoI (X : Cx) (pins : List (Addr × Obj)) (tg : Expr) (α : List Addr) (δ : PL.Env) (σ : L2.St) (H : Hp) (r : PL.RA) (itv : Value) (s' : Shared) : Prop := match r with
  | .ok ds S' => ∃ α', PIE X pins σ tg (fun J H' => Ext α H α' H' ∧ Rel X.K α' δ S' σ H' ∧ IOk X.K J ds α' H') itv s'
  | .ex _ _ => False
structure CI (G : EX) (X : Cx) (tg iter : Expr) (mi : PL.MI) : Prop where
  run : ∀ δ S r, mi δ S = some r → ∀ α pins s σ H, Inv X pins σ H s → Rel X.K α δ S σ H → TkA G X α σ H r →
    wpAny (model X.prog X.w) X.A (eval iter X.env) (fun v s1 => wpAny (model X.prog X.w) X.A (pyIter v) (PoI X pins tg α δ σ H r) X.xe s1) X.xe s
theorem PIE.imp {tg : Expr} {R R' : It → Hp → Prop} {itv : Value} {s' : Shared} (h : PIE X pins σ tg R itv s') (i : ∀ J H, R J H → R' J H) : PIE X pins σ tg R' itv s' := by
  obtain ⟨it, fp, tn, J, H', e, I, T, t0, f, r⟩ := h
  exact ⟨it, fp, tn, J, H', e, I, T, t0, f, i J H' r⟩
/-- by a walk of HandS over what never changes -/
theorem IOk.of {K : PySem.W.Frag} {J : It} {n : Nat} {Gd : Hp → Prop} {vs : List V} {ds : List PL.D} (w : Walk J n Gd (YAt vs)) (hn : ds.length = n) (g : ∀ α' H', Ext α H α' H' → Gd H') (q : RDs K α H ds vs) : IOk K J ds α H := by
  subst hn
  refine ⟨fun i α' H' hi x => w.goes i H' hi (g α' H' x), fun α' H' x => w.stops H' (g α' H' x), fun i α' H' y H'' d hd x yy => ?_⟩
  have hi : i < ds.length := (List.getElem?_eq_some_iff.mp hd).1
  obtain ⟨rfl, e⟩ := w.yields i H' y H'' hi (g α' H' x) yy
  obtain ⟨v, e1, q1⟩ := (q.mono x).get hd
  rw [e] at e1
  cases e1
  exact ⟨fun _ _ h => h, q1⟩
variable {tg : Expr}
/-- a tuple, a list that nobody changes -/
theorem ci_seq (he : CE G X e m) : CI G X tg e (PL.mItSeq m) := ⟨fun δ S r hm α pins s σ H I R tk => by
  refine he.thenA I R hm tk fun d S1 h1 α1 v H1 u s1 I1 rv x1 R1 q1 tk1 => ?_
  cases d <;> try cases h1
  · obtain ⟨p, vs, rfl, q2, q3⟩ := rd_tup q1
    cases rv
    obtain ⟨its, rv, pt, hz⟩ := I1.tuple q2
    refine wpAny_pyIter_tuple (show s1.heap.IsTuple p its.toArray from pt) ?_
    refine ⟨α1, s1.heap.objs.size, [s1.heap.objs.size], _, _, H1, rfl, I1.kept (t' := s1.toks) fun b o e => Heap.get?_push_of_some _ e, turn_tuple p _, ⟨_, Heap.get?_push_size _ rfl, rfl, rfl⟩, fun b hb => ?_, x1, R1, ?_⟩
    · have e : b = s1.heap.objs.size := by simpa using hb
      subst e
      exact I1.fpOk (Nat.le_refl _) (I1.hok.fresh (Nat.le_refl _))
    · exact IOk.of walk_tup q3.length (fun α' H' x => SqT.le x.2.1 q2) q3
  · obtain ⟨p, o, vs, rfl, q2, q3⟩ := rd_lst q1
    cases rv
    obtain ⟨its, rv, pt, hz⟩ := I1.list (frz_sq q2)
    refine wpAny_pyIter_list pt.isList ?_
    refine ⟨α1, s1.heap.objs.size, [s1.heap.objs.size], _, _, H1, rfl, I1.kept (t' := s1.toks) fun b o e => Heap.get?_push_of_some _ e, turn_list p _, ⟨_, Heap.get?_push_size _ rfl, rfl, rfl⟩, fun b hb => ?_, x1, R1, ?_⟩
    · have e : b = s1.heap.objs.size := by simpa using hb
      subst e
      exact I1.fpOk (Nat.le_refl _) (I1.hok.fresh (Nat.le_refl _))
    · exact IOk.of walk_list q3.length (fun α' H' x => frz_sq (FzL.le x.2.1 q2)) q3⟩
theorem iok_range {K : PySem.W.Frag} {lo : Int} {n : Nat} : IOk K (Itr lo n) (PL.rangeD lo n) α H := by
  have hl : (PL.rangeD lo n).length = n := by simp [PL.rangeD]
  refine ⟨fun i α' H' hi x => by rw [hl] at hi; exact hi, fun α' H' x => by rw [hl]; exact Nat.le_refl _, fun i α' H' y H'' d hd x yy => ?_⟩
  obtain ⟨rfl, rfl⟩ := yy
  have hi : i < n := by rw [← hl]; exact (List.getElem?_eq_some_iff.mp hd).1
  have : d = .int (lo + i) := by
    unfold PL.rangeD at hd
    rw [List.getElem?_map, List.getElem?_range hi] at hd
    cases hd; rfl
  subst this
  exact ⟨fun _ _ h => h, mk_int⟩
theorem CA.thenA' {ma : PL.MA} (h : CA G X es ma) (pos : Pos) (I : Inv X pins σ H s) (R : Rel X.K α δ S σ H) {k : List PL.D → PL.Sto → Option PL.RA} {r : PL.RA} (hk : PL.bAA (ma δ S) k = some r) (tk : TkA G X α σ H r) {Q : List Value → Shared → Prop}
    (q : ∀ d S1, k d S1 = some r → ∀ α1 v H1 u s1, Inv X pins σ H1 s1 → Vals v u → Ext α H α1 H1 → Rel X.K α1 δ S1 σ H1 → RDs X.K α1 H1 d v → TkA G X α1 σ H1 r → Q u s1) :
    wpAny (model X.prog X.w) X.A (spliced (backTo pos (starEach es X.env))) Q X.xe s := h.thenA pos I R hk tk q
theorem rng1_eq : PL.mItRange1 ma δ S = PL.bAA (PL.mConsA ma PL.mNilA δ S) fun ds S1 => match ds with
    | [.int n] => if n.natAbs < 4611686018427387904 then some (.ok (PL.rangeD 0 n.toNat) S1) else none
    | _ => none := by
  unfold PL.mItRange1 PL.mConsA PL.mNilA
  cases h1 : ma δ S with
  | none => rfl
  | some r1 =>
    cases r1 with
    | ex _ _ => rfl
    | ok d1 S1 => cases d1 <;> rfl
theorem rng2_eq : PL.mItRange2 ma mb δ S = PL.bAA (PL.mConsA ma (PL.mConsA mb PL.mNilA) δ S) fun ds S2 => match ds with
    | [.int lo, .int hi] => if lo.natAbs < 4611686018427387904 ∧ hi.natAbs < 4611686018427387904 then some (.ok (PL.rangeD lo (hi - lo).toNat) S2) else none
    | _ => none := by
  unfold PL.mItRange2 PL.mConsA PL.mNilA
  cases h1 : ma δ S with
  | none => rfl
  | some r1 =>
    cases r1 with
    | ex _ _ => rfl
    | ok d1 S1 =>
      simp only [PL.bEA_ok]
      cases h2 : mb δ S1 with
      | none => rfl
      | some r2 =>
        cases r2 with
        | ex _ _ => rfl
        | ok d2 S2 => cases d1 <;> cases d2 <;> rfl
theorem ci_range1 {p : Pos} (hm : X.mg "range" = none) (ha : CA G X [a] (PL.mConsA ma PL.mNilA)) (hg : Gl X "range" := by rfl) (hs : starEach [a] X.env = [(false, eval a X.env)] := by rfl) : CI G X tg (.Call (.Name "range" p) [a] [] pos) (PL.mItRange1 ma) := ⟨fun δ S r h0 α pins s σ H I R tk => by
  rw [rng1_eq] at h0
  refine Call_ (ld_blt I hg hm boot_range (PyProof.Rows.callWith_type1 (ha.thenA pos I R h0 tk fun ds S1 h1 α1 vs H1 us s1 I1 rv x1 R1 q1 tk1 => ?_) hs rfl))
  split at h1
  · rename_i n
    split at h1
    · rename_i hz
      cases h1
      obtain ⟨v, rfl, q2⟩ := q1.one
      have e2 := rd_int q2
      subst e2
      cases rv with
      | cons r rr =>
        cases rr
        obtain ⟨t, rfl⟩ := r
        refine call_range_1 (thn (range_it (tg := tg) (R := fun J H' => J = Itr 0 n.toNat ∧ H' = H1) I1 (by omega) (by omega) (by omega) (by omega) (by simp)) fun itv s2 h => ?_)
        exact ⟨α1, PIE.imp h fun J H2 ⟨e1, e2⟩ => by subst e1 e2; exact ⟨x1, R1, iok_range⟩⟩
    · cases h1
  · cases h1⟩
theorem ci_range2 {p : Pos} (hm : X.mg "range" = none) (ha : CA G X [a, b] (PL.mConsA ma (PL.mConsA mb PL.mNilA))) (hg : Gl X "range" := by rfl) (hs : starEach [a, b] X.env = [(false, eval a X.env), (false, eval b X.env)] := by rfl) (hs2 : starEach [b] X.env = [(false, eval b X.env)] := by rfl) :
    CI G X tg (.Call (.Name "range" p) [a, b] [] pos) (PL.mItRange2 ma mb) := ⟨fun δ S r h0 α pins s σ H I R tk => by
  rw [rng2_eq] at h0
  refine Call_ (ld_blt I hg hm boot_range (PyProof.Rows.callWith_type1 (ha.thenA pos I R h0 tk fun ds S1 h1 α1 vs H1 us s1 I1 rv x1 R1 q1 tk1 => ?_) (by rw [hs, hs2]) (by rw [hs2]; rfl)))
  split at h1
  · rename_i lo hi
    split at h1
    · rename_i hz
      cases h1
      obtain ⟨v, w, rfl, q2, q3⟩ := q1.two
      have e2 := rd_int q2
      have e3 := rd_int q3
      subst e2 e3
      cases rv with
      | cons r rr =>
        cases rr with
        | cons r' rr =>
          cases rr
          obtain ⟨t, rfl⟩ := r
          obtain ⟨t', rfl⟩ := r'
          refine call_range_2 (thn (range_it (tg := tg) (R := fun J H' => J = Itr lo (hi - lo).toNat ∧ H' = H1) I1 (by omega) (by omega) (by omega) (by omega) ⟨rfl, rfl⟩) fun itv s2 h => ?_)
          exact ⟨α1, PIE.imp h fun J H2 ⟨e1, e2⟩ => by subst e1 e2; exact ⟨x1, R1, iok_range⟩⟩
    · cases h1
  · cases h1⟩

/-! ### for -/
theorem cs_for {iter : Expr} {mi : PL.MI} {t : PL.Tg} (hX : Cz k X) (hi : CI G X tg iter mi) (hg : CG X tg t) (hb : CSs G X sts ms) (hs : ∀ x, foldedSetIterable iter X.env x = pure x := by intro _; rfl) : CS G X (.For tg iter sts [] pos) (PL.mFor t mi ms) := ⟨fun δ S r hm α pins s σ H I R tk => by
  have hp := hX.po
  have hc := hX.calm
  unfold PL.mFor at hm
  cases hmi : mi δ S with
  | none => rw [hmi] at hm; cases hm
  | some r1 =>
    rw [hmi] at hm
    cases r1 with
    | ex x S1 =>
      cases hm
      exact wpAny_For (thn (hi.run δ S _ hmi α pins s σ H I R (TkS.ofE R tk)) fun v s1 h1 => thn h1 fun itv s2 h2 => h2.elim) hs
    | ok ds S1 =>
      simp only [PL.bAS_ok] at hm
      refine wpAny_For (thn (hi.run δ S _ hmi α pins s σ H I R trivial) fun v s1 h1 => thn h1 fun itv s2 h2 => ?_) hs
      obtain ⟨α2, it, fp, tn, J, H2, e, I2, T, st2, f2, x2, R2, io⟩ := h2
      subst e
      have stat : ∀ {H' : Hp}, (∀ b ∈ fp, H' b = none) → ∀ b ∈ fp, FpOk X pins H' b := fun hn b hb => ⟨hn b hb, (f2 b hb).2⟩
      refine codeAny_forLoop_any (fun n s' => ∃ i α' δ' S' σ' H', n = ds.length - i ∧ i ≤ ds.length ∧ Inv X pins σ' H' s' ∧ tn i s'.heap ∧ (∀ b ∈ fp, H' b = none) ∧ Ext α2 H2 α' H' ∧ Rel X.K α' δ' S' σ' H' ∧ PL.forL t ms (ds.drop i) δ' S' = some r)
        ?_ ds.length ⟨0, α2, δ, S1, σ, H2, rfl, Nat.zero_le _, I2, st2, fun b hb => (f2 b hb).1, Ext.refl _ _, R2, by simpa using hm⟩
      rintro n s3 ⟨i, α3, δ3, S3, σ3, H3, rfl, hil, I3, st3, fr3, x3, R3, w3⟩
      have tk3 := (tk.ext x2).ext x3
      by_cases hlt : i < ds.length
      · refine wpAny_passesOwn hp (thn (T.item X rfl rfl rfl hc i pins s3 σ3 H3 X.xe I3 (stat fr3) st3 (io.go i α3 H3 hlt x3)) fun r4 s4 ⟨u, hr, h4⟩ => ?_)
        subst hr
        refine wpAny_passesOwn hp (thn h4 fun _ s5 ⟨x, H5, I5, r5, y5, st5, fr5⟩ => ?_)
        have I5' := I5.pinned (stat fr5) (T.obj _ _ st5)
        obtain ⟨keep, q5⟩ := io.yld i α3 H3 x H5 ds[i] (List.getElem?_eq_getElem hlt) x3 y5
        have x5 : Ext α3 H3 α3 H5 := Ext.same keep R3.st.ne
        have R5 : Rel X.K α3 δ3 S3 σ3 H5 := R3.mono x5 (R3.st.same keep)
        rw [List.drop_eq_getElem_cons hlt] at w3
        unfold PL.forL at w3
        cases hput : t.put ds[i] δ3 with
        | none => rw [hput] at w3; cases w3
        | some δ4 =>
          rw [hput] at w3
          simp only at w3
          refine wpAny_passesOwn hp (thn (hg.run ds[i] δ3 δ4 hput α3 _ s5 σ3 H5 S3 x u I5' R5 q5 r5) fun _ s6 ⟨σ6, I6, R6, _⟩ => ?_)
          cases hbd : ms δ4 S3 with
          | none => rw [hbd] at w3; cases w3
          | some r0 =>
            rw [hbd] at w3
            refine wpAny_passesOwn hp (thn (body_run hb hbd I6 R6 (r := r) (fun x' δ' S' z => by subst z; cases w3; exact tk3.ext x5)) fun f s7 q7 => ?_)
            have again : ∀ {α7 : List Addr} {δ7 : PL.Env} {S7 : PL.Sto} {σ7 : L2.St} {H7 : Hp}, Inv X (pins ++ pinsAt fp s5.heap) σ7 H7 s7 → Ext α3 H5 α7 H7 → Rel X.K α7 δ7 S7 σ7 H7 → PL.forL t ms (ds.drop (i + 1)) δ7 S7 = some r →
                ∃ m, m < ds.length - i ∧ ∃ i α' δ' S' σ' H', m = ds.length - i ∧ i ≤ ds.length ∧ Inv X pins σ' H' s7 ∧ tn i s7.heap ∧ (∀ b ∈ fp, H' b = none) ∧ Ext α2 H2 α' H' ∧ Rel X.K α' δ' S' σ' H' ∧ PL.forL t ms (ds.drop i) δ' S' = some r := fun {α7 δ7 S7 σ7 H7} I7 x7 R7 w7 => by
              refine ⟨ds.length - (i + 1), by omega, i + 1, α7, δ7, S7, σ7, H7, rfl, hlt, I7.unpinned, T.keep _ _ _ st5 fun b hb o e => (I7.pin (b, o) (List.mem_append_right _ (List.mem_append_right _ (mem_pinsAt hb e)))).1, fun b hb => ?_, (x3.trans x5).trans x7, R7, w7⟩
              obtain ⟨o, e, d⟩ := T.obj _ _ st5 b hb
              exact (I7.pin (b, o) (List.mem_append_right _ (List.mem_append_right _ (mem_pinsAt hb e)))).2.1
            cases r0 with
            | nx δ7 S7 =>
              obtain ⟨rfl, α7, σ7, H7, I7, x7, R7⟩ := q7
              exact again I7 x7 R7 w3
            | ct δ7 S7 =>
              obtain ⟨rfl, α7, σ7, H7, I7, x7, R7⟩ := q7
              exact again I7 x7 R7 w3
            | bk δ7 S7 =>
              cases w3
              obtain ⟨rfl, α7, σ7, H7, I7, x7, R7⟩ := q7
              exact PoS.nx I7.unpinned (((x2.trans x3).trans x5).trans x7) R7
            | rt d S7 =>
              cases w3
              obtain ⟨u7, rfl, α7, σ7, H7, v7, I7, r7, x7, R7, q8⟩ := q7
              exact ⟨u7, rfl, α7, σ7, H7, v7, I7.unpinned, r7, ((x2.trans x3).trans x5).trans x7, R7, q8⟩
            | ex _ _ _ => exact q7.elim
      · have ei : i = ds.length := by omega
        subst ei
        refine wpAny_passesOwn hp (thn (T.done X rfl rfl rfl hc _ pins s3 σ3 H3 X.xe I3 (stat fr3) st3 (io.stop α3 H3 x3)) fun r4 s4 ⟨hr, I4⟩ => ?_)
        subst hr
        rw [List.drop_length] at w3
        unfold PL.forL at w3
        cases w3
        exact wpAny_execs_nil (PoS.nx I4 (x2.trans x3) R3)⟩
end
end BR

set_option Elab.async false
set_option linter.all false
set_option maxRecDepth 100000
set_option maxHeartbeats 2000000
/-! ## lists that change; comprehensions -/
namespace BR
open PySem PySem.Spec PyProof.Rows L2
variable [Tbs]
section
variable {G : EX} {X : Cx} {α α' : List Addr} {δ : PL.Env} {S : PL.Sto} {σ : L2.St} {H H' : Hp} {pins : List (Addr × Obj)} {s : Shared}
variable {a b c e l : Expr} {ma mb mc m ml : PL.ME} {pos apos cpos : Pos} {es : List Expr} {mas : PL.MA} {st : Stmt} {sts sts' : List Stmt} {ms mr : PL.MS} {k : Nat} {x y z : Str}

theorem getL_inv {d : PL.D} {n : Nat} {xs : List PL.D} (h : PL.getL S d = some (n, xs)) : d = .ref n ∧ S[n]? = some (.lst xs) := by
  cases d <;> simp only [PL.getL] at h <;> try cases h
  rename_i n'
  split at h
  · rename_i ys hy
    cases h
    exact ⟨rfl, hy⟩
  · cases h
/-- a list of the store, its object -/
theorem lst_at (R : Rel X.K α δ S σ H) {n : Nat} {xs : List PL.D} {v : V} (h : S[n]? = some (.lst xs)) (q : RD X.K α H (.ref n) v) : ∃ p vs, v = .ref p ∧ α[n]? = some p ∧ H p = some (.lst vs) ∧ RDs X.K α H xs vs ∧ PL.D.pures xs = true := by
  obtain ⟨p, e1, e2⟩ := rd_ref q
  obtain ⟨β, h1, h2, nd, hb, ob⟩ := R.st.b
  obtain ⟨p', b', e3, e4, ⟨vs, e5, e6⟩, pu, _⟩ := ob n _ h
  rw [e1] at e3; cases e3
  exact ⟨p, vs, e2, e1, e5, e6, pu⟩
theorem pures_append {xs ys : List PL.D} (a : PL.D.pures xs = true) (b : PL.D.pures ys = true) : PL.D.pures (xs ++ ys) = true := by
  induction xs with
  | nil => exact b
  | cons x xs ih =>
    simp only [PL.D.pures, Bool.and_eq_true, List.cons_append] at a ⊢
    exact ⟨a.1, ih a.2⟩
theorem pures_iff {xs : List PL.D} : PL.D.pures xs = true ↔ ∀ x ∈ xs, x.pure = true := by
  induction xs with
  | nil => simp [PL.D.pures]
  | cons x xs ih => simp [PL.D.pures, ih]
/-- the n-th object becomes a list of other items -/
theorem put_lst (R : Rel X.K α δ S σ H) {n : Nat} {p : Addr} {xs ys : List PL.D} {vs ws : List V} (h : S[n]? = some (.lst xs)) (hp : α[n]? = some p) (hH : H p = some (.lst vs)) (q : RDs X.K α H ys ws) (pu : PL.D.pures ys = true) :
    Ext α H α (upd H p (.lst ws)) ∧ Rel X.K α δ (S.set n (.lst ys)) σ (upd H p (.lst ws)) := by
  have x : Ext α H α (upd H p (.lst ws)) := Ext.put hH (fun z => z) (.inl (List.mem_of_getElem? hp)) trivial
  exact ⟨x, R.mono x (R.st.put h hp ⟨⟨ws, upd_same, q.mono x⟩, pu, rfl⟩)⟩
theorem freeze_lst (R : Rel X.K α δ S σ H) {n : Nat} {p : Addr} {xs : List PL.D} {vs : List V} {od : Obj} (h : S[n]? = some (.lst xs)) (hp : α[n]? = some p) (hH : H p = some (.lst vs)) :
    Ext α H α (upd H p (.frz od (.lst vs))) ∧ Rel X.K α δ (S.set n .dead) σ (upd H p (.frz od (.lst vs))) := by
  have x : Ext α H α (upd H p (.frz od (.lst vs))) := Ext.put hH (fun z => z) (.inl (List.mem_of_getElem? hp)) trivial
  exact ⟨x, R.mono x (R.st.put h hp ⟨⟨od, _, upd_same⟩, rfl⟩)⟩
/-- l.append(e) -/
theorem c_append (hl : CE G X l ml) (he : CE G X e m) (hbase : attributeBase l "append" X.env (eval l X.env) = eval l X.env := by rfl)
    (hfew : ((backTo cpos (starEach [e] X.env)).all (fun x => !x.1) && (backToKw cpos (keywordEach [] X.env)).all (fun x => x.1.isSome)
      && decide (([e] : List Expr).length + ([] : List Keyword).length + (if ([] : List Keyword).isEmpty then 0 else 1) < 30)) = true := by rfl)
    (hline : (apos.endLine == cpos.line) = true := by rfl) (hs : starEach [e] X.env = (false, eval e X.env) :: starEach [] X.env := by rfl) : CE G X (.Call (.Attribute l "append" apos) [e] [] cpos) (PL.mAppend ml m) :=
  CE.ofX (pe_bm PySem.F.plainAttrs_list PySem.F.slot_list_append PySem.F.type_list_append mt_append hl.pe (pa_cons he.pe pa_nil hs) hbase hfew hline hs) fun δ S r h0 α σ H R tk => by
    refine tOf.go R h0 tk fun d S1 h1 α1 v H1 x1 R1 q1 tk1 => ?_
    split at h1
    · rename_i n0 xs0 hg0
      obtain ⟨rfl, hn0⟩ := getL_inv hg0
      obtain ⟨p0, vs0, rfl, hp0, hH0, _, _⟩ := lst_at R1 hn0 q1
      refine ⟨.inl ⟨rfl, vs0, SqL.of hH0⟩, ?_⟩
      refine tOf.go R1 h1 tk1 fun y S2 h2 α2 w H2 x2 R2 q2 tk2 => ?_
      split at h2
      · rename_i n xs hg
        obtain ⟨e0, hn⟩ := getL_inv hg
        cases e0
        obtain ⟨p, vs, e3, hp, hH, q3, pu⟩ := lst_at R2 hn (q1.mono x2)
        cases e3
        split at h2
        · rename_i hz
          cases h2
          have pu2 : PL.D.pures (xs ++ [y]) = true := pures_append pu (by simp [PL.D.pures, hz.2])
          obtain ⟨x3, R3⟩ := put_lst R2 hn hp hH (q3.append (.cons q2 .nil)) pu2
          exact ⟨p0, vs, w, rfl, rfl, hH, by rw [← q3.length, ← line_eq]; exact hz.1, α2, (x1.trans x2).trans x3, R3, mk_non⟩
        · cases h2
      · cases h2
    · cases h1
/-- l.pop() -/
theorem c_pop (hl : CE G X l ml) (hbase : attributeBase l "pop" X.env (eval l X.env) = eval l X.env := by rfl) (hline : (apos.endLine == cpos.line) = true := by rfl) : CE G X (.Call (.Attribute l "pop" apos) [] [] cpos) (PL.mPop ml) :=
  CE.ofX (pe_bm0 PySem.F.plainAttrs_list PySem.F.slot_list_pop PySem.F.type_list_pop mt_pop hl.pe hbase hline) fun δ S r h0 α σ H R tk => by
    refine tOf.go R h0 tk fun d S1 h1 α1 v H1 x1 R1 q1 tk1 => ?_
    split at h1
    · rename_i n xs hg
      obtain ⟨rfl, hn⟩ := getL_inv hg
      obtain ⟨p, vs, rfl, hp, hH, q3, pu⟩ := lst_at R1 hn q1
      refine ⟨.inl ⟨rfl, vs, SqL.of hH⟩, ?_⟩
      split at h1
      · rename_i y hy
        cases h1
        obtain ⟨w, hw, qw⟩ := q3.get hy
        rw [q3.length] at hw
        have pu2 : PL.D.pures xs.dropLast = true := by
          rw [pures_iff] at pu ⊢
          exact fun x hx => pu x ((List.dropLast_sublist xs).subset hx)
        obtain ⟨x3, R3⟩ := put_lst R1 hn hp hH q3.dropLast pu2
        exact ⟨p, vs, w, rfl, rfl, hH, hw, α1, x1.trans x3, R3, qw.mono x3⟩
      · cases h1
    · cases h1

/-- l[i] = e -/
theorem cs_setIx {i : Expr} {mi : PL.ME} {p1 : Pos} (hl : CE G X l ml) (hi : CE G X i mi) (he : CE G X e m) (hs : swapsWithSole [.Subscript l i p1] e pos.line X.env = pure false := by rfl) (hw : swappedStores [.Subscript l i p1] e X.env = pure none := by rfl)
    (h1 : (assignEach [.Subscript l i p1] X.env).map (·.2) = [assign (.Subscript l i p1) X.env] := by rfl) (ha : ∀ v, assign (.Subscript l i p1) X.env v = (do
      let ov ← holding [v] (eval l X.env)
      let iv ← holding [v, ov] (eval i X.env)
      standAt p1
      holding [v, ov, iv] (setItem ov iv v)
      release [v, ov, iv] []) := by intro _; rfl) : CS G X (.Assign [.Subscript l i p1] e pos) (PL.mSetIx ml mi m) := ⟨fun δ S r hm α pins s σ H I R tk => by
  refine wpAny_Assign_stores (he.thenS I R hm tk fun d S1 h2 α1 v H1 u s1 I1 rv x1 R1 q1 tk1 => ?_) hs hw
  rw [h1]
  show wpAny _ _ (assign (.Subscript l i p1) X.env u) _ _ _
  rw [ha]
  refine wpAny_bind (wpAny_holding (hl.thenS I1 R1 h2 tk1 fun d2 S2 h3 α2 v2 H2 u2 s2 I2 rv2 x2 R2 q2 tk2 => ?_))
  refine wpAny_bind (wpAny_holding (hi.thenS I2 R2 h3 tk2 fun d3 S3 h4 α3 v3 H3 u3 s3 I3 rv3 x3 R3 q3 tk3 => ?_))
  split at h4
  · rename_i n xs j hg
    obtain ⟨rfl, hn⟩ := getL_inv hg
    split at h4
    · rename_i p hp
      split at h4
      · rename_i pv
        cases h4
        obtain ⟨a, vs, rfl, ha', hH, q4, pu⟩ := lst_at R3 hn (q2.mono x3)
        have e3 := rd_int q3
        subst e3
        have pu2 : PL.D.pures (xs.set p d) = true := by
          rw [pures_iff] at pu ⊢
          intro x hx
          rcases List.mem_or_eq_of_mem_set hx with h | h
          · exact pu x h
          · rw [h]; exact pv
        have qd := (q1.mono x2).mono x3
        obtain ⟨x4, R4⟩ := put_lst R3 hn ha' hH (q4.set p qd) pu2
        refine wpAny_bind (wpAny_standAt (wpAny_bind (wpAny_holding (thn (set_list pins s3 σ H3 _ _ v u2 u3 u (fun H' => H' = upd H3 a (.lst (vs.set p v))) I3 rv2 rv3 rv ⟨a, vs, j, p, rfl, rfl, hH, ?_, rfl⟩) fun _ s4 ⟨H4, I4, e4⟩ => ?_))))
        · rw [← q4.length, ← ixN_eq]; exact hp
        · subst e4
          exact wpAny_release (PoS.nx I4 (((x1.trans x2).trans x3).trans x4) R4)
      · cases h4
    · cases h4
  · cases h4⟩
/-- from here on the list stays as it is -/
theorem c_freeze (he : CE G X e m) : CE G X e (PL.mFreeze m) := ⟨fun δ S r hm α pins s σ H I R tk => by
  refine he.then I R hm tk fun d S1 h1 α1 v H1 u s1 I1 rv x1 R1 q1 tk1 => ?_
  have gen : ∀ {n : Nat} {xs : List PL.D}, PL.getL S1 d = some (n, xs) → r = .ok (.lst xs) (S1.set n .dead) → PoE X pins α δ σ H r u s1 := fun {n xs} hg hr => by
    obtain ⟨rfl, hn⟩ := getL_inv hg
    obtain ⟨p, vs, rfl, hp, hH, q3, pu⟩ := lst_at R1 hn q1
    cases rv
    obtain ⟨od, I2⟩ := I1.lock hH trivial
    obtain ⟨x3, R3⟩ := freeze_lst (od := od) R1 hn hp hH
    subst hr
    refine ⟨α1, .ref p, _, I2, rfl, x1.trans x3, R3, ?_⟩
    simp only [RD]
    exact ⟨p, od, vs, rfl, .inl upd_same, q3.mono x3⟩
  split at h1
  · cases h1
    exact PoE.mk I1 rv x1 R1 q1
  · split at h1
    · rename_i n xs hg
      cases h1
      exact gen hg rfl
    · cases h1⟩
/-- list(e), a list that will be changed -/
theorem c_newList {p : Pos} (hm : X.mg "list" = none) (ha : CE G X e m) (hg : Gl X "list" := by rfl)
    (he : starEach [e] X.env = (false, eval e X.env) :: starEach [] X.env := by rfl) (hpl : (backTo pos (starEach [] X.env)).any (·.1) = false := by rfl) : CE G X (.Call (.Name "list" p) [e] [] pos) (PL.mNewList m) := ⟨fun δ S r h0 α pins s σ H I R tk => by
  refine wpAny_Call_Name_kw (ld_blt I hg hm (u := .type "list") (by decide +kernel) ?_ (by decide) (by decide))
  refine PyProof.Rows.callWith_type1 (T := "list") ?_ he hpl
  refine (ca_cons (G := G) ha ca_nil he).step pos I R (fun z => ?_) (fun x S1 z => ?_) fun ds S1 z α1 vs H1 us s1 I1 rv x1 R1 q1 => ?_
  · unfold PL.mNewList at h0
    unfold PL.mConsA PL.mNilA at z
    cases c : m δ S with
    | none => rw [c] at h0; cases h0
    | some r0 => rw [c] at z; cases r0 <;> cases z
  · unfold PL.mNewList at h0
    unfold PL.mConsA PL.mNilA at z
    cases c : m δ S with
    | none => rw [c] at h0; cases h0
    | some r0 =>
      rw [c] at z h0
      cases r0 with
      | ok d S => cases z
      | ex x' S' => cases z; cases h0; exact tk
  · unfold PL.mNewList at h0
    unfold PL.mConsA PL.mNilA at z
    cases c : m δ S with
    | none => rw [c] at h0; cases h0
    | some r0 =>
      rw [c] at z h0
      cases r0 with
      | ex x' S' => cases z
      | ok d S' =>
        cases z
        simp only [PL.bE_ok] at h0
        split at h0
        · rename_i xs hs
          obtain ⟨hp, rfl⟩ := if_inv h0
          obtain ⟨v, rfl, q2⟩ := q1.one
          obtain ⟨a, ws, rfl, h1, h2⟩ := seq_rd hs R1 q2
          refine thn (call_list_of pins s1 σ H1 _ us (fun v H' => ∃ l, v = .ref l ∧ H1 l = none ∧ H' = upd H1 l (.lst ws)) I1 rv ⟨a, ws, rfl, h1, fun l hl => ⟨l, rfl, hl, rfl⟩⟩) fun u s' hu => ?_
          obtain ⟨w, H', I', rw', l, e1, hl, e2⟩ := hu
          subst e1 e2
          cases rw'
          exact (PoE.new I' hl R1 h2 hp).ext x1
        · cases h0⟩
/-- == and != over the store -/
theorem dp_rsv {n : Nat} {d : PL.D} {v : V} (R : Rel X.K α δ S σ H) (h : (PL.rsv S d).okN n = true) (q : RD X.K α H d v) : Dp X.K H v (toPy (PL.rsv S d)) := by
  have same : PL.rsv S d = d → Dp X.K H v (toPy (PL.rsv S d)) := fun e => by rw [e] at h ⊢; exact dp_of h q
  cases d with
  | ref i =>
    unfold PL.rsv at h ⊢
    cases hs : S[i]? with
    | none => simp [hs, PL.D.okN] at h
    | some o =>
      cases o with
      | lst xs =>
        simp only [hs] at h ⊢
        obtain ⟨p, vs, rfl, hp, hH, q3, pu⟩ := lst_at R hs q
        cases n with
        | zero => simp [PL.D.okN] at h
        | succ n =>
          simp only [PL.D.okN] at h
          simp only [toPy]; exact .lst (SqL.of hH) (dps_of h q3)
      | _ => simp [hs, PL.D.okN] at h
  | _ => exact same rfl
theorem c_cmpS {op : CmpOp} {f : PL.Sto → PL.D → PL.D → Option PL.D} (ho : ∀ S x y z, f S x y = some z → ∀ α δ pins s σ H v w u1 u2, Inv X pins σ H s → Rel X.K α δ S σ H → RD X.K α H x v → RD X.K α H y w → RelV v u1 → RelV w u2 →
    wpAny (model X.prog X.w) X.A (compareOp op u1 u2) (PoE X pins α δ σ H (.ok z S)) X.xe s) (ha : CE G X a ma) (hb : CE G X b mb) (h1 : behindInMarks op b = false := by first | exact nobehind _ (by decide) (by decide) | rfl) : CE G X (.Compare a [op] [b] pos) (PL.mBinS f ma mb) :=
  ⟨fun δ S r hm α pins s σ H I R tk => by
    refine wpAny_Compare1 (ha.then I R hm tk fun x S1 h1 α1 v H1 u1 s1 I1 rv x1 R1 q1 tk1 => ?_) h1
    refine hb.then I1 R1 h1 tk1 fun y S2 h2 α2 w H2 u2 s2 I2 rw x2 R2 q2 tk2 => ?_
    obtain ⟨z, e, rfl⟩ := map_inv h2
    exact thn (ho S2 x y z e α2 δ pins s2 σ H2 v w u1 u2 I2 R2 (q1.mono x2) q2 rv rw) fun u s' h => h.ext (x1.trans x2)⟩
theorem c_eqS (hX : Cz k X) (ha : CE G X a ma) (hb : CE G X b mb) : CE G X (.Compare a [.Eq] [b] pos) (PL.mBinS PL.opEqS ma mb) := c_cmpS (fun S x y z e α δ pins s σ H v w u1 u2 I R q1 q2 r1 r2 => by
  obtain ⟨ho, rfl⟩ := if_inv e
  simp only [Bool.and_eq_true] at ho
  refine thn (op_eqD (hu64 hX) pins s σ H v w u1 u2 (PoV X.K α δ σ H (.ok _ S)) I r1 r2 ⟨_, _, dp_rsv R ho.1 q1, dp_rsv R ho.2 q2, shaped_of ho.1, shaped_of ho.2, ?_⟩) fun u s' hu => PoE.ofV hu
  rw [eqv_of ho.1 ho.2]
  exact PoV.here R mk_bl) ha hb
theorem c_neS (hX : Cz k X) (ha : CE G X a ma) (hb : CE G X b mb) : CE G X (.Compare a [.NotEq] [b] pos) (PL.mBinS PL.opNeS ma mb) := c_cmpS (fun S x y z e α δ pins s σ H v w u1 u2 I R q1 q2 r1 r2 => by
  obtain ⟨ho, rfl⟩ := if_inv e
  simp only [Bool.and_eq_true] at ho
  refine thn (op_neD (hu64 hX) pins s σ H v w u1 u2 (PoV X.K α δ σ H (.ok _ S)) I r1 r2 ⟨_, _, dp_rsv R ho.1 q1, dp_rsv R ho.2 q2, shaped_of ho.1, shaped_of ho.2, ?_⟩) fun u s' hu => PoE.ofV hu
  rw [eqv_of ho.1 ho.2]
  exact PoV.here R mk_bl) ha hb
end
end BR

set_option Elab.async false
set_option linter.all false
set_option maxRecDepth 100000
set_option maxHeartbeats 2000000
/-! ## comprehensions, enumerate -/
namespace BR
open PySem PySem.Spec PyProof.Rows L2
variable [Tbs]
section
variable {G : EX} {X : Cx} {α α' : List Addr} {δ : PL.Env} {S : PL.Sto} {σ : L2.St} {H H' : Hp} {pins : List (Addr × Obj)} {s : Shared}
variable {a b c e l elt tg iter : Expr} {ma mb mc m ml : PL.ME} {pos apos cpos : Pos} {es ifs : List Expr} {mas : PL.MA} {k : Nat} {x y z : Str} {mt : PL.MT} {mi : PL.MI} {t : PL.Tg}

/-! ### the mirror's readings as HandS' own -/
def tiOf (G : EX) (X : Cx) (mi : PL.MI) : TI := fun σ H R => ∃ α δ S, Rel X.K α δ S σ H ∧ mi δ S ≠ none ∧ (∀ x S1, mi δ S = some (.ex x S1) → Takes X (WE G X α σ H x S1)) ∧
  ∀ ds S1, mi δ S = some (.ok ds S1) → ∀ α1 J H1, Ext α H α1 H1 → Rel X.K α1 δ S1 σ H1 → IOk X.K J ds α1 H1 → R J H1
theorem CI.pi (h : CI G X tg iter mi) : PI X tg iter (tiOf G X mi) := ⟨fun pins s σ H R I ⟨α, δ, S, Rl, no, tk, q⟩ => by
  cases c : mi δ S with
  | none => exact absurd c no
  | some r =>
    cases r with
    | ok ds S1 => exact thn (h.run δ S _ c α pins s σ H I Rl trivial) fun v s1 h1 => thn h1 fun itv s2 ⟨α1, h2⟩ => PIE.imp h2 fun J H1 ⟨x1, R1, io⟩ => q ds S1 c α1 J H1 x1 R1 io
    | ex x S1 => exact thn (h.run δ S _ c α pins s σ H I Rl (tk x S1 c)) fun v s1 h1 => thn h1 fun itv s2 h2 => h2.elim⟩
def gOf (K : PySem.W.Frag) (t : PL.Tg) : TG := fun v σ H Q => ∃ α d δ δ' S, t.put d δ = some δ' ∧ Rel K α δ S σ H ∧ RD K α H d v ∧ ∀ σ', Rel K α δ' S σ' H → Alike t.slots σ σ' → Q σ' H
theorem CG.pg (h : CG X tg t) : PG X tg (gOf X.K t) := ⟨fun pins s σ H v u Q I rv ⟨α, d, δ, δ', S, hp, R, q, w⟩ =>
  thn (h.run d δ δ' hp α pins s σ H S v u I R q rv) fun _ s1 ⟨σ1, I1, R1, a1⟩ => ⟨σ1, H, I1, w σ1 R1 a1⟩⟩
def ttOf (K : PySem.W.Frag) (mt : PL.MT) : TT := fun σ H Q => ∃ α δ S b S1, Rel K α δ S σ H ∧ mt δ S = some (.ok b S1) ∧ ∀ α1 H1, Ext α H α1 H1 → Rel K α1 δ S1 σ H1 → Q b H1
def teOf (K : PySem.W.Frag) (m : PL.ME) : TE := fun σ H Q => ∃ α δ S d S1, Rel K α δ S σ H ∧ m δ S = some (.ok d S1) ∧ ∀ α1 v H1, Ext α H α1 H1 → Rel K α1 δ S1 σ H1 → RD K α1 H1 d v → Q v H1
theorem CE.pt (h : CE G X e m) : PE X e (teOf X.K m) := ⟨fun pins s σ H Q I ⟨α, δ, S, b, S1, R, hm, q⟩ =>
  h.step I R (by rw [hm]; exact fun z => by cases z) (fun x S2 z => by rw [hm] at z; cases z) fun b' S2 z α1 v H1 u s1 I1 rv x1 R1 qd => by
    rw [hm] at z; cases z; exact ⟨v, H1, I1, rv, q α1 v H1 x1 R1 qd⟩⟩
theorem CT.pt (h : CT G X e mt) : PT X e (ttOf X.K mt) := ⟨fun pins s σ H Q I ⟨α, δ, S, b, S1, R, hm, q⟩ =>
  h.step I R (by rw [hm]; exact fun z => by cases z) (fun x S2 z => by rw [hm] at z; cases z) fun b' S2 z α1 H1 s1 I1 x1 R1 => by
    rw [hm] at z; cases z; exact ⟨H1, I1, q α1 H1 x1 R1⟩⟩
/-- a clause's tests -/
structure CTs (G : EX) (X : Cx) (ifs : List Expr) (mt : PL.MT) : Prop where
  pts : PTs X ifs (ttOf X.K mt)
theorem cts_nil : CTs G X [] PL.mTrue := ⟨⟨fun pins s σ H Q I ⟨α, δ, S, b, S1, R, hm, q⟩ => by
  cases hm
  exact wpAny_tests_nil ⟨H, I, q α H (Ext.refl _ _) R⟩⟩⟩
theorem cts_one (h : CT G X c mt) : CTs G X [c] mt := ⟨pts_one h.pt⟩

theorem wipe_get {σ : L2.St} {i : Nat} : ∀ {vs : List Nat}, i ∉ vs → (wipe σ vs)[i]? = σ[i]?
  | [], _ => rfl
  | v :: vs, h => by
    simp only [List.mem_cons, not_or] at h
    unfold wipe
    rw [List.getElem?_set_ne (fun e => h.1 e.symm)]
    exact wipe_get h.2
theorem wipeD_len (δ : PL.Env) : ∀ vs : List Nat, (PL.wipeD δ vs).length = δ.length
  | [] => rfl
  | v :: vs => by unfold PL.wipeD; rw [List.length_set, wipeD_len δ vs]
theorem wipeD_some {δ : PL.Env} {i : Nat} {x : PL.D} : ∀ {vs : List Nat}, (PL.wipeD δ vs)[i]? = some (some x) → δ[i]? = some (some x) ∧ i ∉ vs
  | [], h => ⟨h, by simp⟩
  | v :: vs, h => by
    unfold PL.wipeD at h
    by_cases hi : v = i
    · subst hi
      by_cases hv : v < (PL.wipeD δ vs).length
      · rw [List.getElem?_set_self hv] at h; cases h
      · rw [List.getElem?_eq_none (by simpa using hv)] at h; cases h
    · rw [List.getElem?_set_ne hi] at h
      obtain ⟨h1, h2⟩ := wipeD_some h
      exact ⟨h1, by simp only [List.mem_cons, not_or]; exact ⟨fun e => hi e.symm, h2⟩⟩
theorem Rel.wipe (R : Rel X.K α δ S σ H) (vs : List Nat) : Rel X.K α (PL.wipeD δ vs) S (L2.wipe σ vs) H :=
  ⟨R.st, by rw [wipeD_len, wipe_length]; exact R.len, fun i d e => by
    obtain ⟨h1, h2⟩ := wipeD_some e
    obtain ⟨v, e1, q⟩ := R.loc i d h1
    exact ⟨v, by rw [wipe_get h2]; exact e1, q⟩⟩
theorem wipe_in {σ : L2.St} {i : Nat} : ∀ {vs : List Nat}, i ∈ vs → (wipe σ vs)[i]? = if i < σ.length then some none else none
  | v :: vs, h => by
    unfold wipe
    by_cases hi : v = i
    · subst hi
      by_cases hv : v < σ.length
      · rw [List.getElem?_set_self (by rw [wipe_length]; exact hv), if_pos hv]
      · rw [List.getElem?_eq_none (by rw [List.length_set, wipe_length]; omega), if_neg hv]
    · rw [List.getElem?_set_ne hi]
      rcases List.mem_cons.mp h with e | e
      · exact absurd e.symm hi
      · exact wipe_in e
theorem wipe_alike {vs ix : List Nat} {σ σ2 : L2.St} (h : Alike ix (wipe σ vs) σ2) (hs : ∀ i ∈ ix, i ∈ vs) : wipe σ2 vs = wipe σ vs := by
  have hl : σ2.length = σ.length := by rw [h.1, wipe_length]
  refine List.ext_getElem? fun i => ?_
  by_cases hi : i ∈ vs
  · rw [wipe_in hi, wipe_in hi, hl]
  · rw [wipe_get hi, h.2 i (fun z => hi (hs i z))]
theorem tr_ext {α0 α1 : List Addr} {H0 H1 : Hp} {D : Addr} {u : HO} (x : Ext α0 H0 α1 H1) (h : H0 D = some u) (n : ¬ Tr α0 H0 D) : ¬ Tr α1 H1 D := fun z => by
  rcases x.2.2.1 D z with q | q
  · exact n q
  · rw [h] at q; cases q

/-- what a comprehension's turns leave: the new list at D -/
def LcQ (K : PySem.W.Frag) (α : List Addr) (δ : PL.Env) (σ : L2.St) (H : Hp) (out : List PL.D) (S' : PL.Sto) (v : V) (H' : Hp) : Prop :=
  ∃ D vs α0 H0 α', v = .ref D ∧ Ext α H α0 H0 ∧ H0 D = none ∧ H' D = some (.lst vs) ∧ ¬ Tr α' H' D ∧ Ext α0 H0 α' H' ∧ Rel K α' δ S' σ H' ∧ RDs K α' H' out vs
theorem lc_reads {vs : List Nat} {me : PL.ME} {K : PySem.W.Frag} {r : PL.RA} (hK : K = X.K) (hts : ∀ i ∈ t.slots, i ∈ vs)
    (hm : PL.mCompA vs t mi mt me δ S = some r) (R : Rel X.K α δ S σ H) (tk : TkA G X α σ H r)
    {Q : VK} (hq : ∀ out S', r = .ok out S' → ∀ v H', LcQ X.K α δ σ H out S' v H' → Q v H') : tLc (tiOf G X mi) (gOf K t) (ttOf K mt) (teOf K me) vs σ H Q := by
  subst hK
  unfold PL.mCompA at hm
  refine ⟨α, δ, S, R, ?_, ?_, fun ds S1 z α1 J H1 x1 R1 io D hD => ?_⟩
  · intro z; rw [z] at hm; cases hm
  · intro x S1 z; rw [z] at hm; cases hm; exact tk
  rw [z] at hm
  simp only [PL.bAA_ok] at hm
  split at hm
  · rename_i hlen
    have nT : ¬ Tr α1 (upd H1 D (.lst [])) D := fun q => R1.st.tr (Tr.upd (R1.st.fresh hD) q) hD
    refine ⟨fun i m Hi => ∃ αi Si accD acc, m = ds.length - i ∧ i ≤ ds.length ∧ Ext α1 H1 αi Hi ∧ RSt X.K αi Si Hi ∧ Hi D = some (.lst acc) ∧ RDs X.K αi Hi accD acc ∧ ¬ Tr αi Hi D ∧ accD.length ≤ i ∧ PL.compL t mt me (PL.wipeD δ vs) (ds.drop i) accD Si = some r,
      ⟨ds.length, α1, S1, [], [], rfl, Nat.zero_le _, Ext.new hD trivial, R1.st.new hD, upd_same, .nil, nT, Nat.le_refl _, by simpa using hm⟩, ?_⟩
    rintro i m Hi ⟨αi, Si, accD, acc, rfl, hil, xi, Ri, hDi, qi, nTi, hli, ci⟩
    have Rel0 : Rel X.K αi (PL.wipeD δ vs) Si (wipe σ vs) Hi := (R1.mono xi Ri).wipe vs
    by_cases hlt : i < ds.length
    · refine .inr ⟨io.go i αi Hi hlt xi, fun H' => ∃ αi Si accD acc, Ext α1 H1 αi H' ∧ RSt X.K αi Si H' ∧ H' D = some (.lst acc) ∧ RDs X.K αi H' accD acc ∧ ¬ Tr αi H' D ∧ accD.length ≤ i + 1 ∧ PL.compL t mt me (PL.wipeD δ vs) (ds.drop (i + 1)) accD Si = some r, ?_, ?_⟩
      · rintro H' ⟨αn, Sn, accn, an, a1, a2, a3, a4, a5, a6, a7⟩
        exact ⟨ds.length - (i + 1), by omega, αn, Sn, accn, an, rfl, hlt, a1, a2, a3, a4, a5, a6, a7⟩
      · intro x H' y
        obtain ⟨keep, qx⟩ := io.yld i αi Hi x H' ds[i] (List.getElem?_eq_getElem hlt) xi y
        have x5 : Ext αi Hi αi H' := Ext.same keep Ri.ne
        have R5 := Rel0.mono x5 (Ri.same keep)
        have nT5 := tr_ext x5 hDi nTi
        rw [List.drop_eq_getElem_cons hlt] at ci
        unfold PL.compL at ci
        cases hput : t.put ds[i] (PL.wipeD δ vs) with
        | none => rw [hput] at ci; cases ci
        | some δ1 =>
          rw [hput] at ci
          simp only at ci
          refine ⟨αi, ds[i], _, δ1, Si, hput, R5, qx, fun σ2 R6 al => ⟨wipe_alike al hts, ?_⟩⟩
          cases hc : mt δ1 Si with
          | none => rw [hc] at ci; cases ci
          | some rt =>
            rw [hc] at ci
            cases rt with
            | ex _ _ => cases ci
            | ok b S7 =>
              refine ⟨αi, δ1, Si, b, S7, R6, hc, fun α7 H7 x7 R7 => ?_⟩
              have D7 := x7.2.2.2.1 D _ (keep _ _ hDi) nT5 (fun _ z => by cases z)
              have nT7 := tr_ext x7 (keep _ _ hDi) nT5
              have q7 := (qi.mono x5).mono x7
              cases b with
              | false =>
                simp only [Bool.false_eq_true, if_false] at ci ⊢
                exact ⟨α7, S7, accD, acc, (xi.trans x5).trans x7, R7.st, D7, q7, nT7, by omega, ci⟩
              | true =>
                simp only at ci
                simp only [if_true]
                cases he : me δ1 S7 with
                | none => rw [he] at ci; cases ci
                | some re =>
                  rw [he] at ci
                  cases re with
                  | ex _ _ => cases ci
                  | ok d S8 =>
                    refine ⟨α7, δ1, S7, d, S8, R7, he, fun α8 v H8 x8 R8 q8 => ?_⟩
                    have D8 := x8.2.2.2.1 D _ D7 nT7 (fun _ z => by cases z)
                    have nT8 := tr_ext x8 D7 nT7
                    have qa := (q7.mono x8).append (RDs.cons q8 .nil)
                    have lw : Le H8 (upd H8 D (.lst (acc ++ [v]))) := Le.put D8 (fun z => z)
                    refine ⟨acc, D8, by rw [← q7.length, ← line_eq]; omega, α8, S8, accD ++ [d], acc ++ [v], Ext.off (((xi.trans x5).trans x7).trans x8) hD nT8, R8.st.off D8 (fun z => z) (fun _ z => by cases z) nT8, upd_same, qa.mono0 (List.prefix_refl _) lw, ?_, by simp; omega, ci⟩
                    exact fun z => nT8 (Tr.upd (fun z => nT8 (.inl z)) z)
    · have e : i = ds.length := by omega
      subst e
      rw [List.drop_length] at ci
      unfold PL.compL at ci
      cases ci
      exact .inl ⟨io.stop αi Hi xi, hq _ _ rfl _ _ ⟨D, acc, α1, H1, αi, rfl, x1, hD, hDi, nTi, xi, R1.mono xi Ri, qi⟩⟩
  · cases hm
/-- the new list stays as it is -/
theorem LcQ.frz {σ1 : L2.St} {out : List PL.D} {S' : PL.Sto} {v : V} {s' : Shared} (q : LcQ X.K α δ σ H out S' v H') (I : Inv X pins σ1 H' s') :
    ∃ D α' H2, v = .ref D ∧ Inv X pins σ1 H2 s' ∧ Ext α H α' H2 ∧ Rel X.K α' δ S' σ H2 ∧ RD X.K α' H2 (.lst out) v := by
  obtain ⟨D, vs, α0, H0, α', rfl, x0, h0, hD, nT, x1, R, q⟩ := q
  obtain ⟨od, I2⟩ := I.lock hD trivial
  have x2 : Ext α0 H0 α' (upd H' D (.frz od (.lst vs))) := x1.off h0 nT
  have lw : Le H' (upd H' D (.frz od (.lst vs))) := Le.put hD (fun z => z)
  refine ⟨D, α', _, rfl, I2, x0.trans x2, ⟨R.st.off hD (fun z => z) (fun _ z => by cases z) nT, R.len, fun i d e => ?_⟩, ?_⟩
  · obtain ⟨w, e1, q1⟩ := R.loc i d e
    exact ⟨w, e1, q1.mono0 (List.prefix_refl _) lw⟩
  · simp only [RD]
    exact ⟨D, od, vs, rfl, .inl upd_same, q.mono0 (List.prefix_refl _) lw⟩
/-- .. goes into the store -/
theorem LcQ.new {out : List PL.D} {S' : PL.Sto} {v : V} (q : LcQ X.K α δ σ H out S' v H') (pu : PL.D.pures out = true) :
    ∃ D α', v = .ref D ∧ Ext α H α' H' ∧ Rel X.K α' δ (S' ++ [.lst out]) σ H' ∧ RD X.K α' H' (.ref S'.length) v := by
  obtain ⟨D, vs, α0, H0, α', rfl, x0, h0, hD, nT, x1, R, q⟩ := q
  have hl : α'.length = S'.length := R.st.lenα
  refine ⟨D, α' ++ [D], rfl, x0.trans ⟨x1.1.trans (List.prefix_append _ _), x1.2.1, fun a h => ?_, x1.2.2.2⟩, ⟨R.st.pushAt hD nT q pu, R.len, fun i d e => ?_⟩, ?_⟩
  · rcases h with h | ⟨d, hd, c, n, e⟩
    · rcases List.mem_append.mp h with h | h
      · exact x1.2.2.1 a (.inl h)
      · exact .inr (by rw [List.mem_singleton.mp h]; exact h0)
    · rcases List.mem_append.mp hd with z | z
      · exact x1.2.2.1 a (.inr ⟨d, z, c, n, e⟩)
      · rw [List.mem_singleton.mp z, hD] at e; cases e
  · obtain ⟨w, e1, q1⟩ := R.loc i d e
    exact ⟨w, e1, q1.mono0 (List.prefix_append _ _) (Le.refl _)⟩
  · simp only [RD]
    exact ⟨D, by rw [← hl]; simp, rfl⟩
theorem blk_cz (hX : Cz k X) {s : Shared} {H : Hp} {scope : Scope} {C : Addr} {cl : List (Str × Addr)} {fp : List Addr} : Cz k (X.blk s H scope (compEnvC scope cl C X.env) fp) :=
  ⟨hX.nd, hX.calm, hX.room, hX.gd, PassesOwn.never⟩
theorem comp_inv {vs : List Nat} {me : PL.ME} {kk : List PL.D → PL.Sto → Option PL.RE} {r : PL.RE} (h : PL.bA (PL.mCompA vs t mi mt me δ S) kk = some r) : ∃ r0, PL.mCompA vs t mi mt me δ S = some r0 ∧ ((∃ out S', r0 = .ok out S' ∧ kk out S' = some r) ∨ ∃ x S', r0 = .ex x S' ∧ r = .ex x S') := by
  cases c : PL.mCompA vs t mi mt me δ S with
  | none => rw [c] at h; cases h
  | some r0 =>
    rw [c] at h
    refine ⟨r0, rfl, ?_⟩
    cases r0 with
    | ok out S' => exact .inl ⟨out, S', rfl, h⟩
    | ex x S' => cases h; exact .inr ⟨x, S', rfl, rfl⟩
section
variable {scope : Scope} {own : List (Str × Nat)} {me : PL.ME} {vs : List Nat}
/-- [e for t in it if c]: what is done with it -/
theorem lc_then {kk : List PL.D → PL.Sto → Option PL.RE} {r : PL.RE} (hX : Cz k X) (hi : CI G X tg iter mi) (ok : BlkOk X.N X.env.scope scope own) (hv : own.map (·.2) = vs) (hts : ∀ i ∈ t.slots, i ∈ vs)
    (hg : ∀ Y : Cx, Cz k Y → Y.N = X.N → (∃ s H C cl fp, Y = X.blk s H scope (compEnvC scope cl C X.env) fp) → CG Y tg t)
    (ht : ∀ Y : Cx, Cz k Y → Y.N = X.N → (∃ s H C cl fp, Y = X.blk s H scope (compEnvC scope cl C X.env) fp) → CTs G Y ifs mt)
    (he : ∀ Y : Cx, Cz k Y → Y.N = X.N → (∃ s H C cl fp, Y = X.blk s H scope (compEnvC scope cl C X.env) fp) → CE G Y elt me)
    (hs : ∀ x, foldedSetIterable iter X.env x = pure x) (h0 : PL.bA (PL.mCompA vs t mi mt me δ S) kk = some r) (I : Inv X pins σ H s) (R : Rel X.K α δ S σ H) (tk : TkE G X α σ H r) {Q : Value → Shared → Prop}
    (q : ∀ out S', kk out S' = some r → ∀ v u H' s', Inv X pins σ H' s' → RelV v u → LcQ X.K α δ σ H out S' v H' → Q u s') :
    wpAny (model X.prog X.w) X.A (eval (.ListComp elt [⟨tg, iter, ifs, 0⟩] scope pos) X.env) Q X.xe s := by
  subst hv
  obtain ⟨r0, hr0, hc⟩ := comp_inv h0
  have z := pe_lc (X := X) (pos := pos) (wi := tiOf G X mi) (g := gOf X.K t) (tt := ttOf X.K mt) (te := teOf X.K me) hX.calm hX.nd hi.pi ok (fun s H C cl fp => (hg _ (blk_cz hX) rfl ⟨s, H, C, cl, fp, rfl⟩).pg) (fun s H C cl fp => (ht _ (blk_cz hX) rfl ⟨s, H, C, cl, fp, rfl⟩).pts) (fun s H C cl fp => (he _ (blk_cz hX) rfl ⟨s, H, C, cl, fp, rfl⟩).pt) hs
  rcases hc with ⟨out, S', rfl, h1⟩ | ⟨x, S', rfl, rfl⟩
  · exact thn (z.run pins s σ H (fun v H' => LcQ X.K α δ σ H out S' v H') I (lc_reads rfl hts hr0 R trivial fun o S2 e v H' w => by cases e; exact w)) fun u s' ⟨v, H', I', rv, w⟩ => q out S' h1 v u H' s' I' rv w
  · exact thn (z.run pins s σ H (fun v H' => False) I (lc_reads rfl hts hr0 R tk fun o S2 e => by cases e)) fun u s' ⟨v, H', I', rv, w⟩ => w.elim
theorem c_comp (hX : Cz k X) (hi : CI G X tg iter mi) (ok : BlkOk X.N X.env.scope scope own) (hv : own.map (·.2) = vs) (hts : ∀ i ∈ t.slots, i ∈ vs)
    (hg : ∀ Y : Cx, Cz k Y → Y.N = X.N → (∃ s H C cl fp, Y = X.blk s H scope (compEnvC scope cl C X.env) fp) → CG Y tg t)
    (ht : ∀ Y : Cx, Cz k Y → Y.N = X.N → (∃ s H C cl fp, Y = X.blk s H scope (compEnvC scope cl C X.env) fp) → CTs G Y ifs mt)
    (he : ∀ Y : Cx, Cz k Y → Y.N = X.N → (∃ s H C cl fp, Y = X.blk s H scope (compEnvC scope cl C X.env) fp) → CE G Y elt me)
    (hs : ∀ x, foldedSetIterable iter X.env x = pure x := by intro _; rfl) : CE G X (.ListComp elt [⟨tg, iter, ifs, 0⟩] scope pos) (PL.mComp vs t mi mt me) := ⟨fun δ S r h0 α pins s σ H I R tk =>
  lc_then hX hi ok hv hts hg ht he hs h0 I R tk fun out S' h1 v u H' s' I' rv w => by
    cases h1
    obtain ⟨D, α', H2, rfl, I2, x2, R2, q2⟩ := w.frz I'
    exact ⟨α', _, H2, I2, rv, x2, R2, q2⟩⟩
theorem c_newComp (hX : Cz k X) (hi : CI G X tg iter mi) (ok : BlkOk X.N X.env.scope scope own) (hv : own.map (·.2) = vs) (hts : ∀ i ∈ t.slots, i ∈ vs)
    (hg : ∀ Y : Cx, Cz k Y → Y.N = X.N → (∃ s H C cl fp, Y = X.blk s H scope (compEnvC scope cl C X.env) fp) → CG Y tg t)
    (ht : ∀ Y : Cx, Cz k Y → Y.N = X.N → (∃ s H C cl fp, Y = X.blk s H scope (compEnvC scope cl C X.env) fp) → CTs G Y ifs mt)
    (he : ∀ Y : Cx, Cz k Y → Y.N = X.N → (∃ s H C cl fp, Y = X.blk s H scope (compEnvC scope cl C X.env) fp) → CE G Y elt me)
    (hs : ∀ x, foldedSetIterable iter X.env x = pure x := by intro _; rfl) : CE G X (.ListComp elt [⟨tg, iter, ifs, 0⟩] scope pos) (PL.mNewComp vs t mi mt me) := ⟨fun δ S r h0 α pins s σ H I R tk =>
  lc_then hX hi ok hv hts hg ht he hs h0 I R tk fun out S' h1 v u H' s' I' rv w => by
    obtain ⟨pu, rfl⟩ := if_inv h1
    obtain ⟨D, α', rfl, x2, R2, q2⟩ := w.new pu
    exact ⟨α', _, H', I', rv, x2, R2, q2⟩⟩
/-- name = [e for t in it if c] on one line -/
theorem cs_setComp (hX : Cz k X) (i : Nat) {py spos : Pos} (hi : CI G X tg iter mi) (ok : BlkOk X.N X.env.scope scope own) (hv : own.map (·.2) = vs) (hts : ∀ i ∈ t.slots, i ∈ vs)
    (hg : ∀ Y : Cx, Cz k Y → Y.N = X.N → (∃ s H C cl fp, Y = X.blk s H scope (compEnvC scope cl C X.env) fp) → CG Y tg t)
    (ht : ∀ Y : Cx, Cz k Y → Y.N = X.N → (∃ s H C cl fp, Y = X.blk s H scope (compEnvC scope cl C X.env) fp) → CTs G Y ifs mt)
    (he : ∀ Y : Cx, Cz k Y → Y.N = X.N → (∃ s H C cl fp, Y = X.blk s H scope (compEnvC scope cl C X.env) fp) → CE G Y elt me)
    (hsw : swapsWith (.ListComp elt [⟨tg, iter, ifs, 0⟩] scope pos) (some (.Name y py)) spos.line X.env = pure true) (hy : X.N[i]? = some y := by rfl) (hyl : X.env.scope.names.lookup y = some .local := by rfl)
    (hs : ∀ x, foldedSetIterable iter X.env x = pure x := by intro _; rfl) : CS G X (.Assign [.Name y py] (.ListComp elt [⟨tg, iter, ifs, 0⟩] scope pos) spos) (PL.mSet i (PL.mComp vs t mi mt me)) := ⟨fun δ S r h0 α pins s σ H I R tk => by
  subst hv
  unfold PL.mSet PL.mComp at h0
  have z := ps_setLc (X := X) (pos := pos) (spos := spos) (wi := tiOf G X mi) (g := gOf X.K t) (tt := ttOf X.K mt) (te := teOf X.K me) hX.calm hX.nd hy hyl hsw hi.pi ok (fun s H C cl fp => (hg _ (blk_cz hX) rfl ⟨s, H, C, cl, fp, rfl⟩).pg) (fun s H C cl fp => (ht _ (blk_cz hX) rfl ⟨s, H, C, cl, fp, rfl⟩).pts) (fun s H C cl fp => (he _ (blk_cz hX) rfl ⟨s, H, C, cl, fp, rfl⟩).pt) hs
  cases hc : PL.mCompA (own.map (·.2)) t mi mt me δ S with
  | none => rw [hc] at h0; cases h0
  | some r0 =>
    rw [hc] at h0
    cases r0 with
    | ex x S' =>
      cases h0
      exact thn (z.run pins s σ H ⟨fun _ _ => False, fun _ _ => False, fun _ _ => False, fun _ _ => False⟩ I (lc_reads (Q := fun v H' => False) rfl (by simpa using hts) hc R (TkS.ofE R tk) fun o S2 e => by cases e)) fun f s' h => by
        cases f with
        | next => obtain ⟨_, _, _, w⟩ := h; exact w.elim
        | ret u => obtain ⟨_, _, _, _, _, w⟩ := h; exact w.elim
        | brk => obtain ⟨_, _, _, w⟩ := h; exact w.elim
        | cont => obtain ⟨_, _, _, w⟩ := h; exact w.elim
    | ok out S' =>
      cases h0
      refine thn (z.run pins s σ H ⟨fun σ' H' => ∃ v, σ' = σ.set i (some v) ∧ LcQ X.K α δ σ H out S' v H', fun _ _ => False, fun _ _ => False, fun _ _ => False⟩ I (lc_reads rfl (by simpa using hts) hc R trivial fun o S2 e v H' w => by cases e; exact ⟨v, rfl, w⟩)) fun f s' h => ?_
      cases f with
      | next =>
        obtain ⟨_, H', I', v, rfl, w⟩ := h
        obtain ⟨D, α', H2, rfl, I2, x2, R2, q2⟩ := w.frz I'
        exact PoS.nx I2 x2 (R2.set q2 i)
      | ret u => obtain ⟨_, _, _, _, _, w⟩ := h; exact w.elim
      | brk => obtain ⟨_, _, _, w⟩ := h; exact w.elim
      | cont => obtain ⟨_, _, _, w⟩ := h; exact w.elim⟩
end
end
end BR

set_option Elab.async false
set_option linter.all false
set_option maxRecDepth 100000
set_option maxHeartbeats 2000000
/-! ## enumerate -/
namespace BR
open PySem PySem.Spec PyProof.Rows L2
variable [Tbs]

set_option maxHeartbeats 4000000 in
theorem meets_enum1 {v : Value} {o : Obj} {H : Heap → Prop} (B : Begins v o H) :
    Meets (Builtin.«enumerate.__new__» ⟨[.type "enumerate", v], []⟩) (fun _ R s => H s.heap ∧
      R (.ok (.ret (.ref (s.heap.push o).objs.size))) { s with heap := (s.heap.push o).push { cls := .type "enumerate", data := .fields #[.none, .bool false, .ref s.heap.objs.size, rawInt 0, .none, .none] } }) :=
  .of_wp fun prog w A R s h => by
    obtain ⟨hp, g, d, tk, os⟩ := s; obtain ⟨h1, h⟩ := h
    have hsub := sub_enumerate
    have q1 : ∀ {A' : Around} {E : Value → Shared → Prop} {Q : Value → Shared → Prop}, Q (.ref hp.objs.size) ⟨hp.push o, g, d, tk, os⟩ → wpAny (model prog w) A' (pyIter v) Q E ⟨hp, g, d, tk, os⟩ :=
      fun q => B.iter prog w _ _ ⟨hp, g, d, tk, os⟩ _ h1 q
    wp_walk using q1
    refine wpAny_stack_any fun st => wpAny_pure ?_
    split
    · rename_i c _ _ _ _ _
      cases (c == Value.type "enumerate")
      · wp_walk using q1
        exact ⟨_, rfl, h⟩
      · wp_walk using q1
        exact ⟨_, rfl, h⟩
    · wp_walk using q1
      exact ⟨_, rfl, h⟩
section
variable {prog : Program} {w : World} {A : Around} {E : Value → Shared → Prop} {s : Shared}
theorem enum_begins1 {v : Value} {o : Obj} {H : Heap → Prop} {Q : Value → Shared → Prop} (B : Begins v o H) (h1 : H s.heap)
    (h : ∀ h', IsEnum h' (s.heap.objs.size + 1) s.heap.objs.size 0 .none → h'.get? s.heap.objs.size = some o → h'.objs.size = s.heap.objs.size + 2 →
      (∀ b o, s.heap.get? b = some o → h'.get? b = some o) → Q (.ref (s.heap.objs.size + 1)) { s with heap := h' }) :
    wpAny (model prog w) A (call (.type "enumerate") [v]) Q E s := by
  refine callType_new F.called_enumerate (by decide) (F.typeCall_enumerate_1 _) (F.newCall_enumerate_1 _) (fun obj => F.args_object_init_2 obj _) F.entry_enumerate_new (meets_enum1 B) ⟨h1, ?_⟩
  have hz : (s.heap.push o).objs.size = s.heap.objs.size + 1 := Heap.size_push ..
  show _ ∧ _
  rw [hz]
  have he : IsEnum ((s.heap.push o).push { cls := .type "enumerate", data := .fields #[.none, .bool false, .ref s.heap.objs.size, rawInt 0, .none, .none] }) (s.heap.objs.size + 1) s.heap.objs.size 0 .none := by
    have := Heap.get?_push_size (s.heap.push o) (o := { cls := .type "enumerate", data := .fields #[.none, .bool false, .ref s.heap.objs.size, rawInt 0, .none, .none] }) rfl
    rw [hz] at this; exact this
  refine ⟨⟨_, he, rfl⟩, h _ he (Heap.get?_push_of_some _ (Heap.get?_push_size _ B.free)) (by rw [Heap.size_push, hz]) fun b o x => Heap.get?_push_of_some _ (Heap.get?_push_of_some _ x)⟩
end
/-- the items of a tuple, each in a new pair with its number -/
def IteT (K : PySem.W.Frag) (a : Addr) : It :=
  ⟨fun i H => ∃ (xs : List V) (x : V), SqT K H a xs ∧ xs[i]? = some x, fun i H v H' => ∃ T x, v = .ref T ∧ H T = none ∧ H' = upd H T (.tup [.int (i : Nat), x]) ∧ ∀ xs, SqT K H a xs → xs[i]? = some x, fun i H => ∃ xs : List V, SqT K H a xs ∧ xs.length = i⟩
theorem turn_enumT {P : Program} {w : World} {K : PySem.W.Frag} {elts : List Expr} {kk : Nat} {tpos : Pos} (a e it : Addr) :
    Turn P w K (.Tuple elts kk tpos) (IteT K a) [e, it] e (fun i h => (∃ old, IsEnum h e it ((i : Nat) : Int) old) ∧ h.IsTupleIter it a i ∧ e ≠ it) where
  mem := by simp
  obj := fun i h st b hb => by
    obtain ⟨⟨old, he⟩, ⟨o, ho, hc, hd⟩, _⟩ := st
    have e' : b = e ∨ b = it := by simpa using hb
    rcases e' with z | z
    · rw [z]; exact ⟨_, he, fun v q => nomatch q⟩
    · rw [z]; exact ⟨o, ho, fun v q => by rw [hd] at q; cases q⟩
  keep := fun i h h' st k => let ⟨⟨old, he⟩, hi, hne⟩ := st; ⟨⟨old, k e (by simp) _ he⟩, hi.at fun o q => k it (by simp) o q, hne⟩
  item := by
    intro X hP hw hK hc i pins s σ H E I hf st hg
    subst hP hw hK
    obtain ⟨⟨old, he⟩, hit, hne⟩ := st
    obtain ⟨xs, x, hq, hx⟩ := hg
    obtain ⟨its, rv, p, hz⟩ := I.tuple hq
    obtain ⟨u, hu, ru⟩ := rv.get hx
    have hel : e < s.heap.objs.size := Heap.lt_size he
    have hil : it < s.heap.objs.size := by obtain ⟨_, q, _⟩ := hit; exact Heap.lt_size q
    have hai : a ≠ it := fun z => by
      obtain ⟨o1, e1, c1, _⟩ := hit
      obtain ⟨o2, e2, c2, _⟩ := p
      rw [z, e1] at e2; cases e2; rw [c1] at c2; simp at c2
    have hae : a ≠ e := fun z => by
      obtain ⟨o2, e2, c2, _⟩ := p
      rw [z, he] at e2; cases e2; simp at c2
    have Dr : Draws X.prog X.w X.A.in1 it [it, a] its.toArray.size (fun i v => its.toArray[i]? = some v) (fun i h => h.IsTupleIter it a i ∧ h.IsTuple a its.toArray) := Draws.tuple (A := X.A.in1) (I.ok.hd hc) it a hai its.toArray
    have hlt : i < its.toArray.size := by
      have := (List.getElem?_eq_some_iff.mp hu).1
      simpa using this
    refine wpAny_pyNext_enum_itemD Dr he ⟨hit, p⟩ hlt hne (by simp only [List.mem_cons, List.not_mem_nil, or_false, not_or]; exact ⟨hne, fun z => hae z.symm⟩) fun x' h' tk hx' ho hit' hT hsz hk => ?_
    have ex : x' = u := by
      have : its.toArray[i]? = some u := by simpa using hu
      rw [this] at hx'; exact (Option.some.inj hx').symm
    subst ex
    refine ⟨_, rfl, wpAny_letOwnedTupleGo_enum (s := { s with heap := h', toks := tk + 1 }) ho fun h'' he' sb => ?_⟩
    have hT2 : h''.get? s.heap.objs.size = some { cls := .type "tuple", data := .seq #[.int i tk, x'] } := (sb.2 _ (Nat.ne_of_gt hel)).trans hT
    have new : ObjOk X.prog X.w (upd H s.heap.objs.size (.tup [.int (i : Nat), x])) h'' s.heap.objs.size (.tup [.int (i : Nat), x]) :=
      ⟨by show 2 ≤ sizeLine; decide, [.int i tk, x'], .cons ⟨_, rfl⟩ (.cons ru .nil), ⟨_, hT2, rfl, _, rfl⟩⟩
    have I1 : Inv X pins σ (upd H s.heap.objs.size (.tup [.int (i : Nat), x])) { s with heap := h'', toks := tk + 1 } :=
      I.turnedNew (ch := [e, it]) (fun b ob hb q => (sb.2 b (fun z => hb (by simp [z]))).trans (hk b ob (fun z => hb (by simp [z])) (fun z => hb (by simp [z])) q)) hf (Nat.le_refl _) new
    refine ⟨.ref s.heap.objs.size, _, I1, rfl, ⟨_, x, rfl, I.hok.fresh (Nat.le_refl _), rfl, fun ys hy => by rw [I.tuple_inj hy hq]; exact hx⟩, ⟨⟨x', ?_⟩, hit'.1.at fun o q => (sb.2 it (Ne.symm hne)).trans q, hne⟩, fun b hb => ?_⟩
    · have e1 : ((i + 1 : Nat) : Int) = (i : Int) + 1 := by omega
      rw [e1]; exact he'
    · have hb' : b < s.heap.objs.size := by
        have e' : b = e ∨ b = it := by simpa using hb
        rcases e' with z | z
        · rw [z]; exact hel
        · rw [z]; exact hil
      rw [upd_ne (Nat.ne_of_lt hb')]
      exact (hf b hb).1
  done := by
    intro X hP hw hK hc i pins s σ H E I hf st hg
    subst hP hw hK
    obtain ⟨⟨old, he⟩, hit, hne⟩ := st
    obtain ⟨xs, hq, hx⟩ := hg
    obtain ⟨its, rv, p, hz⟩ := I.tuple hq
    obtain ⟨f0, f1, f2, f3, f4, f5⟩ := hf it (by simp)
    have hl := rv.length
    have hai : a ≠ it := fun z => by
      obtain ⟨o1, e1, c1, _⟩ := hit
      obtain ⟨o2, e2, c2, _⟩ := p
      rw [z, e1] at e2; cases e2; rw [c1] at c2; simp at c2
    have Dr : Draws X.prog X.w X.A.in1 it [it, a] its.toArray.size (fun i v => its.toArray[i]? = some v) (fun i h => h.IsTupleIter it a i ∧ h.IsTuple a its.toArray) := Draws.tuple (A := X.A.in1) (I.ok.hd hc) it a hai its.toArray
    have ei : i = its.toArray.size := by rw [List.size_toArray, ← hl, hx]
    subst ei
    exact wpAny_pyNext_enum_endD Dr he ⟨hit, p⟩ fun h' eb => ⟨rfl, I.turned (t' := s.toks) (fun b o hb q => eb b o hb q) f0 f1 f3 f4 f5⟩
  self := fun A i s Q E st h => let ⟨⟨_, he⟩, _⟩ := st; wpAny_pyIter_enum he h
section
variable {G : EX} {X : Cx} {α α' : List Addr} {δ : PL.Env} {S : PL.Sto} {σ : L2.St} {H H' : Hp} {pins : List (Addr × Obj)} {s : Shared}
variable {a e : Expr} {m : PL.ME} {pos tpos : Pos} {elts : List Expr} {kk k : Nat}
theorem enumD_get {ds : List PL.D} : ∀ {i k : Nat} {d : PL.D}, (PL.enumD k ds)[i]? = some d → ∃ x, ds[i]? = some x ∧ d = .tup [.int ((k + i : Nat) : Int), x] := by
  induction ds with
  | nil => intro i k d h; simp [PL.enumD] at h
  | cons y ys ih =>
    intro i k d h
    simp only [PL.enumD] at h
    cases i with
    | zero => simp at h; exact ⟨y, rfl, h.symm⟩
    | succ i =>
      obtain ⟨x, e1, e2⟩ := ih (i := i) (k := k + 1) (by simpa using h)
      exact ⟨x, by simpa using e1, by rw [e2]; congr 3; omega⟩
theorem enumD_len : ∀ {ds : List PL.D} {k : Nat}, (PL.enumD k ds).length = ds.length
  | [], _ => rfl
  | d :: ds, k => by simp [PL.enumD, enumD_len (ds := ds)]
theorem iok_enum {K : PySem.W.Frag} {J : It} {ds : List PL.D} {vs : List V} (q : RDs K α H ds vs) (go : ∀ i α' H', i < vs.length → Ext α H α' H' → J.go i H') (stop : ∀ α' H', Ext α H α' H' → J.stop vs.length H')
    (y : ∀ i α' H' v H'', Ext α H α' H' → J.yld i H' v H'' → ∃ T x, v = .ref T ∧ H' T = none ∧ H'' = upd H' T (.tup [.int (i : Nat), x]) ∧ vs[i]? = some x) : IOk K J (PL.enumD 0 ds) α H := by
  have hl := q.length
  refine ⟨fun i α' H' hi x => go i α' H' (by rw [enumD_len] at hi; omega) x, fun α' H' x => by rw [enumD_len, hl]; exact stop α' H' x, fun i α' H' v H'' d hd x yy => ?_⟩
  obtain ⟨T, w, rfl, hT, rfl, hw⟩ := y i α' H' v H'' x yy
  obtain ⟨z, ez, rfl⟩ := enumD_get hd
  obtain ⟨w', e1, q1⟩ := (q.mono x).get ez
  rw [hw] at e1
  cases e1
  refine ⟨fun c u e => by rw [upd_ne (ne_of_none e hT)]; exact e, ?_⟩
  have x2 : Ext α' H' α' (upd H' T (.tup [.int (i : Nat), w])) := Ext.new hT trivial
  simp only [RD]
  refine ⟨T, _, rfl, SqT.of upd_same, ?_⟩
  rw [Nat.zero_add]
  exact .cons mk_int (.cons (q1.mono x2) .nil)
theorem enum_eq : PL.mItEnum m δ S = PL.bAA (PL.mConsA m PL.mNilA δ S) fun ds S1 => match ds with
    | [.tup xs] => some (.ok (PL.enumD 0 xs) S1)
    | [.lst xs] => some (.ok (PL.enumD 0 xs) S1)
    | _ => none := by
  unfold PL.mItEnum PL.mConsA PL.mNilA
  cases h1 : m δ S with
  | none => rfl
  | some r1 =>
    cases r1 with
    | ex _ _ => rfl
    | ok d1 S1 => cases d1 <;> rfl
theorem ci_enum {p : Pos} (hX : Cz k X) (hm : X.mg "enumerate" = none) (ha : CA G X [e] (PL.mConsA m PL.mNilA)) (hg : Gl X "enumerate" := by rfl) (hs : starEach [e] X.env = [(false, eval e X.env)] := by rfl) :
    CI G X (.Tuple elts kk tpos) (.Call (.Name "enumerate" p) [e] [] pos) (PL.mItEnum m) := ⟨fun δ S r h0 α pins s σ H I R tk => by
  rw [enum_eq] at h0
  refine Call_ (ld_blt I hg hm boot_enumerate (PyProof.Rows.callWith_type1 (ha.thenA pos I R h0 tk fun ds S1 h1 α1 vs H1 us s1 I1 rv x1 R1 q1 tk1 => ?_) hs rfl))
  have fp : ∀ b ∈ [s1.heap.objs.size + 1, s1.heap.objs.size], FpOk X pins H1 b := fun b hb => by
    have e' : b = s1.heap.objs.size + 1 ∨ b = s1.heap.objs.size := by simpa using hb
    have hle : s1.heap.objs.size ≤ b := by
      rcases e' with z | z
      · rw [z]; exact Nat.le_add_right _ _
      · rw [z]; exact Nat.le_refl _
    exact I1.fpOk hle (I1.hok.fresh hle)
  split at h1
  · cases h1
    obtain ⟨v, rfl, q2⟩ := q1.one
    obtain ⟨a, ws, rfl, hq, q3⟩ := rd_tup q2
    cases rv with
    | cons r rr =>
      cases rr
      cases r
      obtain ⟨its, rv, p', hz⟩ := I1.tuple hq
      refine enum_begins1 (begins_tuple a its.toArray) p' fun h' he hit hsz hk => wpAny_pyIter_enum he ?_
      have I2 : Inv X pins σ H1 { s1 with heap := h' } := I1.kept (t' := s1.toks) hk
      refine ⟨α1, s1.heap.objs.size + 1, [s1.heap.objs.size + 1, s1.heap.objs.size], _, _, H1, rfl, I2, turn_enumT a (s1.heap.objs.size + 1) s1.heap.objs.size, ⟨⟨.none, he⟩, ⟨_, hit, rfl, rfl⟩, Nat.succ_ne_self _⟩, fp, x1, R1, ?_⟩
      refine iok_enum q3 (fun i α' H' hi x => ⟨ws, ws[i], SqT.le x.2.1 hq, by simp [hi]⟩) (fun α' H' x => ⟨ws, SqT.le x.2.1 hq, rfl⟩) fun i α' H' v H'' x y => ?_
      obtain ⟨T, w, h1, h2, h3, h4⟩ := y
      exact ⟨T, w, h1, h2, h3, h4 ws (SqT.le x.2.1 hq)⟩
  · cases h1
    obtain ⟨v, rfl, q2⟩ := q1.one
    obtain ⟨a, od, ws, rfl, hq, q3⟩ := rd_lst q2
    cases rv with
    | cons r rr =>
      cases rr
      cases r
      obtain ⟨its, rv, p', hz⟩ := I1.list (frz_sq hq)
      refine call_enumerate_list p'.isList fun h' he hit hsz hk => wpAny_pyIter_enum he ?_
      have I2 : Inv X pins σ H1 { s1 with heap := h' } := I1.kept (t' := s1.toks) hk
      have sq : ∀ {α' H'}, Ext α1 H1 α' H' → SqL X.K H' a ws := fun x => frz_sq (FzL.le x.2.1 hq)
      refine ⟨α1, s1.heap.objs.size + 1, [s1.heap.objs.size + 1, s1.heap.objs.size], _, _, H1, rfl, I2, turn_enum a (s1.heap.objs.size + 1) s1.heap.objs.size, ⟨⟨.none, he⟩, hit, Nat.succ_ne_self _⟩, fp, x1, R1, ?_⟩
      refine iok_enum q3 (fun i α' H' hi x => ⟨ws, ws[i], sq x, by simp [hi]⟩) (fun α' H' x => ⟨ws, sq x, Nat.le_refl _⟩) fun i α' H' v H'' x y => ?_
      obtain ⟨T, w, h1, h2, h3, h4⟩ := y
      exact ⟨T, w, h1, h2, h3, h4 ws (sq x)⟩
  · cases h1⟩
end
end BR

set_option Elab.async false
set_option linter.all false
set_option maxRecDepth 100000
set_option maxHeartbeats 2000000
/-! ## < of data; keyword calls -/
namespace BR
open PySem PySem.Spec PyProof.Rows L2
variable [Tbs]
mutual
theorem alike_of : ∀ {x y : PL.D} {n k : Nat}, x.okN n = true → y.okN k = true → PySem.W.alike (toPy x) (toPy y) = PL.alikeD x y
  | .non, y, n, k, h, h' => by cases y <;> simp_all [toPy, PySem.W.alike, PL.alikeD, PL.D.okN]
  | .bl _, y, n, k, h, h' => by cases y <;> simp_all [toPy, PySem.W.alike, PL.alikeD, PL.D.okN]
  | .int _, y, n, k, h, h' => by cases y <;> simp_all [toPy, PySem.W.alike, PL.alikeD, PL.D.okN]
  | .str _, y, n, k, h, h' => by cases y <;> simp_all [toPy, PySem.W.alike, PL.alikeD, PL.D.okN]
  | .ref _, y, n, k, h, h' => by simp [PL.D.okN] at h
  | .adr _, y, n, k, h, h' => by simp [PL.D.okN] at h
  | .emp, y, n, k, h, h' => by simp [PL.D.okN] at h
  | .exn _ _ _ _, y, n, k, h, h' => by simp [PL.D.okN] at h
  | .tup xs, y, n, k, h, h' => by
    cases n with
    | zero => simp [PL.D.okN] at h
    | succ n =>
      simp only [PL.D.okN] at h
      cases y with
      | tup ys =>
        cases k with
        | zero => simp [PL.D.okN] at h'
        | succ k => simp only [PL.D.okN] at h'; simp only [toPy, PySem.W.alike, PL.alikeD]; exact alikes_of h h'
      | ref _ => simp [PL.D.okN] at h'
      | adr _ => simp [PL.D.okN] at h'
      | emp => simp [PL.D.okN] at h'
      | exn _ _ _ _ => simp [PL.D.okN] at h'
      | _ => simp [toPy, PySem.W.alike, PL.alikeD]
  | .lst xs, y, n, k, h, h' => by
    cases n with
    | zero => simp [PL.D.okN] at h
    | succ n =>
      simp only [PL.D.okN] at h
      cases y with
      | lst ys =>
        cases k with
        | zero => simp [PL.D.okN] at h'
        | succ k => simp only [PL.D.okN] at h'; simp only [toPy, PySem.W.alike, PL.alikeD]; exact alikes_of h h'
      | ref _ => simp [PL.D.okN] at h'
      | adr _ => simp [PL.D.okN] at h'
      | emp => simp [PL.D.okN] at h'
      | exn _ _ _ _ => simp [PL.D.okN] at h'
      | _ => simp [toPy, PySem.W.alike, PL.alikeD]
theorem alikes_of : ∀ {xs ys : List PL.D} {n k : Nat}, PL.D.okNs xs n = true → PL.D.okNs ys k = true → PySem.W.alikeAll (toPys xs) (toPys ys) = PL.alikeDs xs ys
  | [], ys, n, k, h, h' => by cases ys <;> simp [toPys, PySem.W.alikeAll, PL.alikeDs]
  | x :: xs, [], n, k, h, h' => by simp [toPys, PySem.W.alikeAll, PL.alikeDs]
  | x :: xs, y :: ys, n, k, h, h' => by
    simp only [PL.D.okNs, Bool.and_eq_true] at h h'
    simp only [toPys, PySem.W.alikeAll, PL.alikeDs, alike_of h.1 h'.1, alikes_of h.2 h'.2]
end
mutual
theorem lt_of : ∀ {x y : PL.D} {n k : Nat}, x.okN n = true → y.okN k = true → PL.alikeD x y = true → PL.nonD x = false → PySem.W.dataLt (toPy x) (toPy y) = PL.ltD x y
  | .non, y, n, k, h, h', ha, hn => by simp [PL.nonD] at hn
  | .bl a, y, n, k, h, h', ha, hn => by
    cases y <;> simp only [PL.alikeD] at ha <;> try cases ha
    rename_i b
    simp only [toPy, PL.ltD, PySem.W.dataLt_bool]
    cases a <;> cases b <;> rfl
  | .int a, y, n, k, h, h', ha, hn => by
    cases y <;> simp only [PL.alikeD] at ha <;> try cases ha
    simp only [toPy, PL.ltD, PySem.W.dataLt_int]
  | .str a, y, n, k, h, h', ha, hn => by
    cases y <;> simp only [PL.alikeD] at ha <;> try cases ha
    simp only [toPy, PL.ltD, PySem.W.dataLt_str]
  | .ref _, y, n, k, h, h', ha, hn => by simp [PL.D.okN] at h
  | .adr _, y, n, k, h, h', ha, hn => by simp [PL.D.okN] at h
  | .emp, y, n, k, h, h', ha, hn => by simp [PL.D.okN] at h
  | .exn _ _ _ _, y, n, k, h, h', ha, hn => by simp [PL.D.okN] at h
  | .tup xs, y, n, k, h, h', ha, hn => by
    cases y <;> simp only [PL.alikeD] at ha <;> try cases ha
    cases n with
    | zero => simp [PL.D.okN] at h
    | succ n =>
      cases k with
      | zero => simp [PL.D.okN] at h'
      | succ k =>
        simp only [PL.D.okN] at h h'
        simp only [toPy, PL.ltD, PySem.W.dataLt_tuple]
        exact lts_of h h' ha
  | .lst xs, y, n, k, h, h', ha, hn => by
    cases y <;> simp only [PL.alikeD] at ha <;> try cases ha
    cases n with
    | zero => simp [PL.D.okN] at h
    | succ n =>
      cases k with
      | zero => simp [PL.D.okN] at h'
      | succ k =>
        simp only [PL.D.okN] at h h'
        simp only [toPy, PL.ltD, PySem.W.dataLt_list]
        exact lts_of h h' ha
theorem lts_of : ∀ {xs ys : List PL.D} {n k : Nat}, PL.D.okNs xs n = true → PL.D.okNs ys k = true → PL.alikeDs xs ys = true → PySem.W.rowLt (toPys xs) (toPys ys) = PL.ltDs xs ys
  | [], [], n, k, h, h', ha => by simp only [toPys, PL.ltDs]; exact PyProof.Rows.lex_irrefl _
  | [], y :: ys, n, k, h, h', ha => by
    have := PySem.W.dataLt_ints [] [0]
    simp only [toPys, PL.ltDs]
    unfold PySem.W.rowLt at this ⊢
    rw [PySem.W.toks_all_cons]
    first
      | rfl
      | simp [PySem.W.keyToksAll, PySem.W.lex_cons, PySem.W.itemLt]
  | x :: xs, [], n, k, h, h', ha => by
    simp only [toPys, PL.ltDs]
    unfold PySem.W.rowLt
    rw [PySem.W.toks_all_cons]
    first
      | rfl
      | simp [PySem.W.keyToksAll, PySem.W.lex_cons, PySem.W.itemLt]
  | x :: xs, y :: ys, n, k, h, h', ha => by
    simp only [PL.D.okNs, Bool.and_eq_true] at h h'
    simp only [PL.alikeDs, Bool.and_eq_true] at ha
    simp only [toPys, PL.ltDs]
    have al : PySem.W.alike (toPy x) (toPy y) = true := by rw [alike_of h.1 h'.1]; exact ha.1
    unfold PySem.W.rowLt
    rw [PySem.W.dataLt_cons al, eqv_of h.1 h'.1]
    have ih := lts_of h.2 h'.2 ha.2
    unfold PySem.W.rowLt at ih
    rw [ih]
    cases hq : PL.eqD x y with
    | true => rfl
    | false =>
      simp only [Bool.false_eq_true, if_false]
      refine lt_of h.1 h'.1 ha.1 ?_
      cases x <;> first | rfl | (cases y <;> simp_all [PL.alikeD, PL.eqD])
end
section
variable {G : EX} {X : Cx} {α α' : List Addr} {δ : PL.Env} {S : PL.Sto} {σ : L2.St} {H H' : Hp} {pins : List (Addr × Obj)} {s : Shared} {k : Nat}
theorem d_lt (hX : Cz k X) : OpD X (compareOp .Lt) PL.opLt := by
  intro x y z e α δ S pins s σ H v w u1 u2 I R q1 q2 r1 r2
  have gen : PL.opLtD x y = some z → wpAny (model X.prog X.w) X.A (compareOp .Lt u1 u2) (PoE X pins α δ σ H (.ok z S)) X.xe s := fun e => by
    unfold PL.opLtD at e
    obtain ⟨h, rfl⟩ := if_inv e
    simp only [Bool.and_eq_true, Bool.not_eq_true'] at h
    obtain ⟨⟨⟨h1, h2⟩, h3⟩, h4⟩ := h
    obtain ⟨as, ra⟩ := Dp.reads I (toPy x) v u1 (dp_of h1 q1) r1
    obtain ⟨bs, rb⟩ := Dp.reads I (toPy y) w u2 (dp_of h2 q2) r2
    have dp := (lay_of h1).2
    refine PySem.W.lt_data ra rb (by rw [alike_of h1 h2]; exact h3) ?_ ?_ ?_
    · cases x <;> simp_all [toPy, PL.nonD, PL.D.okN]
    · have := hu64 hX
      omega
    · rw [lt_of h1 h2 h3 h4]
      exact PoE.here (v := .bl _) I rfl R mk_bl
  have int : ∀ i j, x = .int i → y = .int j → wpAny (model X.prog X.w) X.A (compareOp .Lt u1 u2) (PoE X pins α δ σ H (.ok z S)) X.xe s := fun i j ex ey => by
    subst ex ey
    exact d_ltI (.int i) (.int j) z e α δ S pins s σ H v w u1 u2 I R q1 q2 r1 r2
  cases x <;> cases y <;> first | exact int _ _ rfl rfl | exact gen e

/-- the callee runs, bound in any way -/
theorem run_ck {f : Addr} {fd : FuncData} {ps : List Str} {m : PL.MF} {args : List (Str × Value)} {pu : List Value} (F : FnC G X.prog X.w X.K X.mg X.base k f fd ps m) (hX : Cz k X) {us : List Value} {vs : List V} {as : List PL.D} {r : PL.RE}
    (hb : BindsTo s fd ⟨pu, args⟩ (ps.zip us)) (I : Inv X pins σ H s) (R : Rel X.K α δ S σ H) (rv : Vals vs us) (q : RDs X.K α H as vs) (hm : m as S = some r) (tk : TkE G X α σ H r) : wpAny (model X.prog X.w) X.A (call (.ref f) pu args) (PoE X pins α δ σ H r) X.xe s := by
  have fin : ∀ (E : XK), (∀ (e : Value) (s' : Shared), L2.CX X.prog X.w X.stack H s E e s' → X.xe e s') → Wants G X.K α H r (fun v H' => PoV X.K α δ σ H r v H') E → wpAny (model X.prog X.w) X.A (call (.ref f) pu args) (PoE X pins α δ σ H r) X.xe s := fun E hE hW => by
    refine wpAny_call (codeAny_mono (F.run X.A X.stack s H ⟨pu, args⟩ us vs _ E α _ S r hX.room hX.gd I.env0 hb rv R.st q hm hW) fun r' s' hq => ?_)
    cases r' with
    | error e => exact hE e s' hq
    | ok fl =>
      cases fl with
      | ret u => exact PoE.ofV (I.after hq)
      | next => exact False.elim hq
      | brk => exact False.elim hq
      | cont => exact False.elim hq
  cases r with
  | ok d S1 =>
    refine fin (fun _ _ _ => False) (fun e s' hc => ?_) fun v α1 H1 x1 R1 q1 => ⟨α1, x1, R.mono x1 R1, q1⟩
    obtain ⟨_, _, _, _, _, _, _, _, _, _, _, _, z⟩ := hc
    exact z.elim
  | ex x S1 =>
    refine fin (fun cls dd H' => ∃ α', Ext α H α' H' ∧ RSt X.K α' S1 H' ∧ RX G X.K α' H' cls dd x) (fun e s' hc => ?_) fun cls dd α1 H1 x1 R1 q1 => ⟨α1, x1, R1, q1⟩
    exact tk e s' (XE.of_call I (fun cls dd H' ⟨a, x1, R1, q1⟩ => ⟨rfl, a, x1, R1, q1⟩) hc)
/-- the values given by name, from the left -/
structure CK (G : EX) (X : Cx) (kws : List Keyword) (mas : PL.MA) : Prop where
  run : ∀ (pos : Pos) δ S r, mas δ S = some r → ∀ α pins s σ H, Inv X pins σ H s → Rel X.K α δ S σ H → TkA G X α σ H r →
    wpAny (model X.prog X.w) X.A (evalAll ((backToKw pos (keywordEach kws X.env)).map (·.2))) (PoA X pins α δ σ H r) X.xe s
  len : ∀ δ S ds S', mas δ S = some (.ok ds S') → ds.length = kws.length
variable {e : Expr} {es : List Expr} {kws : List Keyword} {m : PL.ME} {mas mks ma : PL.MA} {nm : Option Str} {kpos pos p : Pos} {x : Str}
theorem ck_nil : CK G X [] PL.mNilA := ⟨fun _ δ S r hm α pins s σ H I R tk => by
  cases hm; exact wpAny_evalAll_nil ⟨α, [], H, I, .nil, Ext.refl _ _, R, .nil⟩, fun δ S ds S' h => by cases h; rfl⟩
theorem ck_cons (ha : CE G X e m) (hr : CK G X kws mks) : CK G X (⟨nm, e, kpos⟩ :: kws) (PL.mConsA m mks) := ⟨fun pos δ S r hm α pins s σ H I R tk => by
  show wpAny _ _ (evalAll ((do let v ← eval e X.env; standAt pos; pure v) :: (backToKw pos (keywordEach kws X.env)).map (·.2))) _ _ s
  refine wpAny_evalAll_cons (wpAny_bind (ha.thenA I R hm tk fun d S1 h1 α1 v H1 u s1 I1 rv x1 R1 q1 tk1 => wpAny_bind (wpAny_standAt (wpAny_pure ?_))))
  cases c : mks δ S1 with
  | none => rw [c] at h1; cases h1
  | some r1 =>
    rw [c] at h1
    cases r1 with
    | ex x' S2 => cases h1; exact thn (hr.run pos δ S1 _ c α1 pins s1 σ H1 I1 R1 tk1) fun us s2 h2 => h2.elim
    | ok ds S2 =>
      cases h1
      refine thn (hr.run pos δ S1 _ c α1 pins s1 σ H1 I1 R1 trivial) fun us s2 h2 => ?_
      obtain ⟨α2, vs, H2, I2, rvs, x2, R2, q2⟩ := h2
      exact ⟨α2, v :: vs, H2, I2, .cons rv rvs, x1.trans x2, R2, .cons (q1.mono x2) q2⟩, fun δ S ds S' h => by
  unfold PL.mConsA at h
  cases c : m δ S with
  | none => rw [c] at h; cases h
  | some r1 =>
    rw [c] at h
    cases r1 with
    | ex _ _ => cases h
    | ok d S1 =>
      simp only [PL.bEA_ok] at h
      cases c2 : mks δ S1 with
      | none => rw [c2] at h; cases h
      | some r2 =>
        rw [c2] at h
        cases r2 with
        | ex _ _ => cases h
        | ok xs S2 => cases h; simp [hr.len _ _ _ _ c2]⟩
variable {f : Addr} {fd : FuncData} {ps ks : List Str} {mf : PL.MF}
/-- f(e, .., k = v, ..), the names in the parameters' order -/
theorem c_callK (F : FnC G X.prog X.w X.K X.mg X.base k f fd ps mf) (hX : Cz k X) (hm : X.mg x = some (.ref f)) (hk : PySem.W.keepIn X.K (.ref f) = true)
    (hb : ∀ (s : Shared) (us ws : List Value), X.K.In s.heap → ws.length = kws.length → us.length + ws.length = ps.length → BindsTo s fd ⟨us, ks.zip ws⟩ (ps.zip (us ++ ws)))
    (ha : CA G X (e :: es) ma) (hkw : CK G X kws mks) (hg : Gl X x := by rfl) (hall : (backToKw pos (keywordEach kws X.env)).all (·.1.isSome) = true := by rfl) (hks : (backToKw pos (keywordEach kws X.env)).filterMap (·.1) = ks := by rfl)
    (hdb : (x == ("__debug__" : Str)) = false := by decide) (he : starEach (e :: es) X.env = (false, eval e X.env) :: starEach es X.env := by rfl)
    (hpl : ((backTo pos (starEach (e :: es) X.env)).any (·.1) || (backToKw pos (keywordEach kws X.env)).any (·.1.isNone)) = false := by rfl) : CE G X (.Call (.Name x p) (e :: es) kws pos) (PL.mCall mf (PL.mCatA ma mks)) := ⟨fun δ S r h0 α pins s σ H I R tk => by
  have hA : ∃ r1, ma δ S = some r1 := by
    cases c : ma δ S with
    | none => unfold PL.mCall PL.mCatA at h0; rw [c] at h0; cases h0
    | some r1 => exact ⟨r1, rfl⟩
  refine wpAny_Call_Name_kw (ld_glob I hg hm ?_ hdb)
  refine PySem.W.callWith_KW (h₀ := X.base) I.ok.mod.kin hk hall (ha.step pos I R (fun z => ?_) (fun x' S1 z => ?_) fun ds S1 z α1 vs H1 us s1 I1 rv x1 R1 q1 => ?_) hpl he
  · unfold PL.mCall PL.mCatA at h0; rw [z] at h0; cases h0
  · unfold PL.mCall PL.mCatA at h0; rw [z] at h0; cases h0; exact tk
  · unfold PL.mCall PL.mCatA at h0
    rw [z] at h0
    simp only [PL.bAA_ok] at h0
    cases c : mks δ S1 with
    | none => rw [c] at h0; cases h0
    | some r1 =>
      rw [c] at h0
      cases r1 with
      | ex x' S2 => cases h0; exact thn (hkw.run pos δ S1 _ c α1 pins s1 σ H1 I1 R1 (tk.ext x1)) fun us s2 h2 => h2.elim
      | ok es' S2 =>
        simp only [PL.bAA_ok, PL.bA_ok] at h0
        refine thn (hkw.run pos δ S1 _ c α1 pins s1 σ H1 I1 R1 trivial) fun ws s2 h2 => ?_
        obtain ⟨α2, zs, H2, I2, rz, x2, R2, q2⟩ := h2
        have kl : ws.length = kws.length := by rw [← rz.length, ← q2.length, hkw.len _ _ _ _ c]
        have q3 := (q1.mono x2).append q2
        have r3 := rv.append rz
        have hl : us.length + ws.length = ps.length := by
          have z1 := F.len _ _ _ h0
          have z2 := q3.length
          have z3 := r3.length
          rw [List.length_append] at z3
          simp only [List.length_append] at z1 z2 z3
          omega
        refine ⟨I2.kIn, ?_⟩
        rw [hks]
        have bt : BindsTo s2 fd ⟨us, ks.zip ws⟩ (ps.zip (us ++ ws)) := hb s2 us ws I2.kIn kl hl
        exact thn (run_ck F hX bt I2 R2 r3 q3 h0 (tk.ext (x1.trans x2))) fun u s' hu => hu.ext (x1.trans x2)⟩
end
end BR

set_option Elab.async false
set_option linter.all false
set_option maxRecDepth 100000
set_option maxHeartbeats 2000000
/-! ## the state of a law's draws -/
namespace BR
open PySem PySem.Spec PyProof.Rows L2
variable [Tbs]
section
variable {G : EX} {X : Cx} {α α' : List Addr} {δ : PL.Env} {S : PL.Sto} {σ : L2.St} {H H' : Hp} {pins : List (Addr × Obj)} {s : Shared} {k : Nat}
variable {a b e : Expr} {ma m me : PL.ME} {pos p1 p2 p3 : Pos} {j : Nat}
theorem lawOf_inv {d : PL.D} {n k : Nat} {c l : List Int} (h : PL.lawOf S d = some (n, c, k, l)) : d = .ref n ∧ S[n]? = some (.law c k l) := by
  cases d <;> simp only [PL.lawOf] at h <;> try cases h
  rename_i n'
  split at h
  · rename_i c' k' l' hy
    cases h
    exact ⟨rfl, hy⟩
  · cases h
abbrev lawD (c : Addr) (k : Nat) (l : Addr) : List (Key × V) := [(.inr "cells", .ref c), (.inr "at", .int k), (.inr "left", .ref l)]
theorem val_cells {c l : Addr} {k : Nat} : valV (lawD c k l) (.inr ("cells" : Str)) = some (.ref c) := valV_pos rfl
theorem val_at {c l : Addr} {k : Nat} : valV (lawD c k l) (.inr ("at" : Str)) = some (.int k) := (valV_neg (show ¬ (Sum.inr (Str.ofString "cells") : Key) = Sum.inr (Str.ofString "at") by decide)).trans (valV_pos rfl)
theorem val_left {c l : Addr} {k : Nat} : valV (lawD c k l) (.inr ("left" : Str)) = some (.ref l) := (valV_neg (show ¬ (Sum.inr (Str.ofString "cells") : Key) = Sum.inr (Str.ofString "left") by decide)).trans ((valV_neg (show ¬ (Sum.inr (Str.ofString "at") : Key) = Sum.inr (Str.ofString "left") by decide)).trans (valV_pos rfl))
/-- m[key] is read -/
theorem fld_step {key : Str} (hX : Cz k X) (ha : CE G X a ma) (I : Inv X pins σ H s) (R : Rel X.K α δ S σ H) (no : ma δ S ≠ none) (tk : ∀ x S1, ma δ S = some (.ex x S1) → Takes X (WE G X α σ H x S1)) {Q : Value → Shared → Prop}
    (q : ∀ d S1, ma δ S = some (.ok d S1) → ∃ n c at_ left, d = .ref n ∧ S1[n]? = some (.law c at_ left) ∧
      ∀ α1 dd cc o l H1, Ext α H α1 H1 → Rel X.K α1 δ S1 σ H1 → α1[n]? = some dd → H1 dd = some (.dK (lawD cc at_ l)) → FzL X.K H1 cc o (c.map V.int) → H1 l = some (.lst (left.map V.int)) →
        ∃ v, valV (lawD cc at_ l) (.inr key) = some v ∧ ∀ u s1, Inv X pins σ H1 s1 → RelV v u → Q u s1)
    (hs : NoSl (.Constant (.str key) j p1) := by intro _ _; rfl) : wpAny (model X.prog X.w) X.A (eval (.Subscript a (.Constant (.str key) j p1) p2) X.env) Q X.xe s := by
  have hu : X.A.units + 1 < cLine := by have := hu64 hX; omega
  refine thn ((pe_dget (X := X) (pos := p2) hu ha.pe (pe_str (x := key) (j := j) (pos := p1)) hs).run pins s σ H (fun v H1 => ∀ u s1, Inv X pins σ H1 s1 → RelV v u → Q u s1) I ?_) fun u s1 ⟨v, H1, I1, rv, q1⟩ => q1 u s1 I1 rv
  refine ⟨α, δ, S, R, no, tk, fun d S1 h1 α1 v H1 x1 R1 q1 => ?_⟩
  obtain ⟨n, c, at_, left, rfl, hn, q⟩ := q d S1 h1
  obtain ⟨dd, cc, o, l, e1, e2, e3, e4, _, _⟩ := R1.st.law hn
  obtain ⟨p, e5, rfl⟩ := rd_ref q1
  rw [e1] at e5; cases e5
  obtain ⟨v, hv, qq⟩ := q α1 dd cc o l H1 x1 R1 e1 e2 e3 e4
  have g := DGet.k (k := .inr key) e2
  rw [hv] at g
  exact ⟨dd, v, rfl, g, qq⟩
theorem fld_read {key : Str} {w : V} {kk : PL.D → PL.Sto → Option PL.RE} {r : PL.RE} (hX : Cz k X) (ha : CE G X a ma) (I : Inv X pins σ H s) (R : Rel X.K α δ S σ H) (hk : PL.bE (ma δ S) kk = some r) (tk : TkE G X α σ H r) {Q : Value → Shared → Prop}
    (q : ∀ d S1, kk d S1 = some r → ∃ n c at_ left, d = .ref n ∧ S1[n]? = some (.law c at_ left) ∧
      ∀ α1 dd cc o l H1, Ext α H α1 H1 → Rel X.K α1 δ S1 σ H1 → α1[n]? = some dd → H1 dd = some (.dK (lawD cc at_ l)) → FzL X.K H1 cc o (c.map V.int) → H1 l = some (.lst (left.map V.int)) →
        ∃ v, valV (lawD cc at_ l) (.inr key) = some v ∧ ∀ u s1, Inv X pins σ H1 s1 → RelV v u → Q u s1)
    (hs : NoSl (.Constant (.str key) j p1) := by intro _ _; rfl) : wpAny (model X.prog X.w) X.A (eval (.Subscript a (.Constant (.str key) j p1) p2) X.env) Q X.xe s := by
  refine fld_step hX ha I R (fun z => by rw [z] at hk; cases hk) (fun x S1 z => by rw [z] at hk; cases hk; exact tk) (fun d S1 z => ?_) hs
  rw [z] at hk
  exact q d S1 hk
theorem fld_readS {key : Str} {kk : PL.D → PL.Sto → Option PL.RS} {r : PL.RS} (hX : Cz k X) (ha : CE G X a ma) (I : Inv X pins σ H s) (R : Rel X.K α δ S σ H) (hk : PL.bES δ (ma δ S) kk = some r) (tk : TkS G X α H r) {Q : Value → Shared → Prop}
    (q : ∀ d S1, kk d S1 = some r → ∃ n c at_ left, d = .ref n ∧ S1[n]? = some (.law c at_ left) ∧
      ∀ α1 dd cc o l H1, Ext α H α1 H1 → Rel X.K α1 δ S1 σ H1 → α1[n]? = some dd → H1 dd = some (.dK (lawD cc at_ l)) → FzL X.K H1 cc o (c.map V.int) → H1 l = some (.lst (left.map V.int)) →
        ∃ v, valV (lawD cc at_ l) (.inr key) = some v ∧ ∀ u s1, Inv X pins σ H1 s1 → RelV v u → Q u s1)
    (hs : NoSl (.Constant (.str key) j p1) := by intro _ _; rfl) : wpAny (model X.prog X.w) X.A (eval (.Subscript a (.Constant (.str key) j p1) p2) X.env) Q X.xe s := by
  refine fld_step hX ha I R (fun z => by rw [z] at hk; cases hk) (fun x S1 z => by rw [z] at hk; cases hk; exact TkS.ofE R tk) (fun d S1 z => ?_) hs
  rw [z] at hk
  exact q d S1 hk
theorem c_lawAt (hX : Cz k X) (ha : CE G X a ma) : CE G X (.Subscript a (.Constant (.str "at") j p1) p2) (PL.mLawAt ma) := ⟨fun δ S r h0 α pins s σ H I R tk => by
  refine fld_read (w := .non) hX ha I R h0 tk fun d S1 h1 => ?_
  split at h1
  · rename_i n c kk l hl
    cases h1
    obtain ⟨rfl, hn⟩ := lawOf_inv hl
    exact ⟨n, c, kk, l, rfl, hn, fun α1 dd cc o l' H1 x1 R1 e1 e2 e3 e4 => ⟨.int kk, val_at, fun u s1 I1 rv => PoE.mk I1 rv x1 R1 mk_int⟩⟩
  · cases h1⟩
theorem ints_rd {K : PySem.W.Frag} {l : List Int} : RDs K α H (l.map .int) (l.map V.int) := by
  induction l with
  | nil => exact .nil
  | cons i l ih => exact .cons mk_int ih
theorem c_lawCells (hX : Cz k X) (ha : CE G X a ma) : CE G X (.Subscript a (.Constant (.str "cells") j p1) p2) (PL.mLawCells ma) := ⟨fun δ S r h0 α pins s σ H I R tk => by
  refine fld_read (w := .non) hX ha I R h0 tk fun d S1 h1 => ?_
  split at h1
  · rename_i n c kk l hl
    cases h1
    obtain ⟨rfl, hn⟩ := lawOf_inv hl
    exact ⟨n, c, kk, l, rfl, hn, fun α1 dd cc o l' H1 x1 R1 e1 e2 e3 e4 => ⟨.ref cc, val_cells, fun u s1 I1 rv => PoE.mk I1 rv x1 R1 (by simp only [RD]; exact ⟨cc, o, _, rfl, e3, ints_rd⟩)⟩⟩
  · cases h1⟩
theorem dpall_ints {K : PySem.W.Frag} {l : List Int} : DpAll K H (l.map V.int) (toPys (l.map .int)) := by
  induction l with
  | nil => simp only [List.map_nil, toPys]; exact .nil
  | cons i l ih => simp only [List.map_cons, toPys, toPy]; exact .cons (.int i) ih
theorem ok_ints {l : List Int} {n : Nat} : PL.D.okNs (l.map .int) n = true := by
  induction l with
  | nil => rfl
  | cons i l ih => simp only [List.map_cons, PL.D.okNs, PL.D.okN, ih, Bool.and_self]
/-- m['left'] != [] -/
theorem c_lawNe (hX : Cz k X) (ha : CE G X a ma) : CE G X (.Compare (.Subscript a (.Constant (.str "left") j p1) p2) [.NotEq] [.List [] p3] pos) (PL.mLawNe ma) := ⟨fun δ S r h0 α pins s σ H I R tk => by
  refine wpAny_Compare1 (fld_read (w := .non) hX ha I R h0 tk fun d S1 h1 => ?_) (nobehind _ (by decide) (by decide))
  split at h1
  · rename_i n c kk l hl
    cases h1
    obtain ⟨rfl, hn⟩ := lawOf_inv hl
    refine ⟨n, c, kk, l, rfl, hn, fun α1 dd cc o l' H1 x1 R1 e1 e2 e3 e4 => ⟨.ref l', val_left, fun u s1 I1 rv => ?_⟩⟩
    refine thn ((pe_lst (X := X) (pos := p3) pa_nil).run pins s1 σ H1 (fun w H2 => ∃ p, w = .ref p ∧ H1 p = none ∧ H2 = upd H1 p (.lst [])) I1 ⟨Nat.zero_le _, fun p hp => ⟨p, rfl, hp, rfl⟩⟩) fun u2 s2 hu2 => ?_
    obtain ⟨w, H2, I2, rw, p, e5, hp, e6⟩ := hu2
    subst e5 e6
    have hl2 : upd H1 p (.lst []) l' = some (.lst (l.map V.int)) := by rw [upd_ne (ne_of_none e4 hp)]; exact e4
    have x2 : Ext α1 H1 α1 (upd H1 p (.lst [])) := Ext.new hp trivial
    have R2 := R1.mono x2 (R1.st.new hp)
    have o1 : (PL.D.lst (l.map .int)).ok = true := by show PL.D.okN _ 60 = true; simp only [PL.D.okN]; exact ok_ints
    have o2 : (PL.D.lst []).ok = true := by decide
    refine thn (op_neD (hu64 hX) pins s2 σ (upd H1 p (.lst [])) (.ref l') (.ref p) u u2 (PoV X.K α1 δ σ (upd H1 p (.lst [])) (.ok (.bl (!l.isEmpty)) S1)) I2 rv rw ⟨toPy (.lst (l.map .int)), toPy (.lst []), ?_, ?_, shaped_of o1, shaped_of o2, ?_⟩) fun u3 s3 hu => (PoE.ofV hu).ext (x1.trans x2)
    · simp only [toPy]; exact .lst (SqL.of hl2) dpall_ints
    · simp only [toPy, toPys]; exact .lst (SqL.of upd_same) .nil
    · rw [eqv_of (n := 60) (k := 60) o1 o2]
      have : (!PL.eqD (.lst (l.map .int)) (.lst [])) = !l.isEmpty := by cases l <;> simp [PL.eqD, PL.eqDs]
      rw [this]
      exact PoV.here R2 mk_bl
  · cases h1⟩

theorem at0 {h : Int} {t : List Int} : atI ((h :: t).map V.int) 0 = some (V.int h) := by unfold atI L2.ixN; simp
theorem ix0 {h : Int} {t : List Int} : L2.ixN ((h :: t).map V.int).length 0 = some 0 := by unfold L2.ixN; simp
/-- m['left'][0] -/
theorem c_lawL0 (hX : Cz k X) (ha : CE G X a ma) {j2 : Nat} {p4 : Pos} : CE G X (.Subscript (.Subscript a (.Constant (.str "left") j p1) p2) (.Constant (.int 0) j2 p4) pos) (PL.mLawL0 ma) := ⟨fun δ S r h0 α pins s σ H I R tk => by
  refine Subscript_ (fld_read (w := .non) hX ha I R h0 tk fun d S1 h1 => ?_)
  split at h1
  · rename_i n c kk h t hl
    cases h1
    obtain ⟨rfl, hn⟩ := lawOf_inv hl
    refine ⟨n, c, kk, h :: t, rfl, hn, fun α1 dd cc o l' H1 x1 R1 e1 e2 e3 e4 => ⟨.ref l', val_left, fun u s1 I1 rv => ?_⟩⟩
    refine wpAny_Constant_int ?_
    exact thn (ix_list _ _ pins _ σ H1 (.ref l') (.int 0) u (.int 0 s1.toks) (PoV X.K α1 δ σ H1 (.ok (.int h) S1)) (I1.tok _) rv ⟨_, rfl⟩ ⟨l', _, 0, .int h, rfl, rfl, SqL.of e4, at0, PoV.here R1 mk_int⟩ rfl) fun u3 s3 hu => (PoE.ofV hu).ext x1
  · cases h1⟩

/-- m['left'][0] = e -/
theorem cs_lawSet0 (hX : Cz k X) (ha : CE G X a ma) (he : CE G X e me) {j2 : Nat} {p4 p5 : Pos} (hs : swapsWithSole [.Subscript (.Subscript a (.Constant (.str "left") j p1) p2) (.Constant (.int 0) j2 p4) p5] e pos.line X.env = pure false := by rfl)
    (hw : swappedStores [.Subscript (.Subscript a (.Constant (.str "left") j p1) p2) (.Constant (.int 0) j2 p4) p5] e X.env = pure none := by rfl)
    (h1 : (assignEach [.Subscript (.Subscript a (.Constant (.str "left") j p1) p2) (.Constant (.int 0) j2 p4) p5] X.env).map (·.2) = [assign (.Subscript (.Subscript a (.Constant (.str "left") j p1) p2) (.Constant (.int 0) j2 p4) p5) X.env] := by rfl)
    (hasg : ∀ v, assign (.Subscript (.Subscript a (.Constant (.str "left") j p1) p2) (.Constant (.int 0) j2 p4) p5) X.env v = (do
      let ov ← holding [v] (eval (.Subscript a (.Constant (.str "left") j p1) p2) X.env)
      let iv ← holding [v, ov] (eval (.Constant (.int 0) j2 p4) X.env)
      standAt p5
      holding [v, ov, iv] (setItem ov iv v)
      release [v, ov, iv] []) := by intro _; rfl) : CS G X (.Assign [.Subscript (.Subscript a (.Constant (.str "left") j p1) p2) (.Constant (.int 0) j2 p4) p5] e pos) (PL.mLawSet0 ma me) := ⟨fun δ S r h0 α pins s σ H I R tk => by
  refine wpAny_Assign_stores (he.thenS I R h0 tk fun v0 S1 h2 α1 v H1 u s1 I1 rv x1 R1 q1 tk1 => ?_) hs hw
  rw [h1]
  show wpAny _ _ (assign _ X.env u) _ _ _
  rw [hasg]
  refine wpAny_bind (wpAny_holding (fld_readS hX ha I1 R1 h2 tk1 fun d S2 h3 => ?_))
  split at h3
  · rename_i i n c kk h t hl
    cases h3
    obtain ⟨rfl, hn⟩ := lawOf_inv hl
    have ev := rd_int q1
    subst ev
    refine ⟨n, c, kk, h :: t, rfl, hn, fun α2 dd cc o l' H2 x2 R2 e1 e2 e3 e4 => ⟨.ref l', val_left, fun u2 s2 I2 rv2 => ?_⟩⟩
    refine wpAny_bind (wpAny_holding (wpAny_Constant_int ?_))
    refine wpAny_bind (wpAny_standAt (wpAny_bind (wpAny_holding (thn (set_list pins _ σ H2 (.ref l') (.int 0) (.int i) u2 (.int 0 s2.toks) u (fun H' => H' = upd H2 l' (.lst (.int i :: t.map V.int))) (I2.tok _) rv2 ⟨_, rfl⟩ rv ⟨l', _, 0, 0, rfl, rfl, e4, ix0, rfl⟩) fun _ s4 ⟨H4, I4, e5⟩ => ?_))))
    subst e5
    have hdl : dd ≠ l' := fun z => by rw [z, e4] at e2; cases e2
    obtain ⟨R3, x3⟩ := R2.st.putLaw (left' := i :: t) (k' := kk) (l' := l') (H' := upd H2 l' (.lst (.int i :: t.map V.int))) hn e1 e2 e3 e4 (.inl rfl) (by rw [upd_ne hdl]; exact e2) upd_same
      (fun a u h1 h2 e => by rw [upd_ne h2]; exact e) (by rw [upd_same]; exact fun z => by cases z)
    exact wpAny_release (PoS.nx I4 ((x1.trans x2).trans x3) (R2.mono x3 R3))
  · cases h3⟩
/-- m['at'] = e -/
theorem cs_lawSetAt (hX : Cz k X) (ha : CE G X a ma) (he : CE G X e me) (hs : swapsWith e (some (.Subscript a (.Constant (.str "at") j p1) p2)) pos.line X.env = pure false := by rfl) :
    CS G X (.Assign [.Subscript a (.Constant (.str "at") j p1) p2] e pos) (PL.mLawSetAt ma me) := ⟨fun δ S r h0 α pins s σ H I R tk => by
  have hu : X.A.units + 1 < cLine := by have := hu64 hX; omega
  refine wpAny_Assign_Subscript (he.thenS I R h0 tk fun v0 S1 h2 α1 v H1 u s1 I1 rv x1 R1 q1 tk1 => ?_) hs
  refine ha.thenS I1 R1 h2 tk1 fun d S2 h3 α2 w H2 u2 s2 I2 rw x2 R2 q2 tk2 => ?_
  refine thn ((pe_str (X := X) (x := "at") (j := j) (pos := p1)).run pins s2 σ H2 (fun y H' => y = .str "at" ∧ H' = H2) I2 ⟨rfl, rfl⟩) fun iv s3 ⟨y, H3, I3, ry, e1, e2⟩ => ?_
  subst e1 e2
  split at h3
  · rename_i i n c kk l hl
    obtain ⟨hi, rfl⟩ := if_inv h3
    obtain ⟨rfl, hn⟩ := lawOf_inv hl
    have ev := rd_int q1
    subst ev
    obtain ⟨dd, cc, o, l', f1, f2, f3, f4, _, _⟩ := R2.st.law hn
    obtain ⟨p, f5, rfl⟩ := rd_ref q2
    rw [f1] at f5; cases f5
    obtain rfl : u2 = Value.ref dd := rw
    have hp : putK (lawD cc kk l') (.inr ("at" : Str)) (V.int i) = lawD cc i.toNat l' := by
      have : ((i.toNat : Nat) : Int) = i := by omega
      unfold lawD
      rw [this]
      rfl
    have g := DPut.k (k := .inr ("at" : Str)) (v := V.int i) f2 (by show 3 < sizeLine; decide)
    rw [hp] at g
    refine d_setItem hu I3 g ry rv fun s4 I4 => ?_
    have hdl : dd ≠ l' := fun z => by rw [z, f4] at f2; cases f2
    obtain ⟨R3, x3⟩ := R2.st.putLaw (left' := l) (k' := i.toNat) (l' := l') (H' := upd H3 dd (.dK (lawD cc i.toNat l'))) hn f1 f2 f3 f4 (.inl rfl) upd_same (by rw [upd_ne (Ne.symm hdl)]; exact f4)
      (fun a u h1 h2 e => by rw [upd_ne h1]; exact e) (by rw [upd_ne (Ne.symm hdl), f4]; exact fun z => by cases z)
    exact PoS.nx I4 ((x1.trans x2).trans x3) (R2.mono x3 R3)
  · cases h3⟩

/-- m['left'] = m['left'][1:] -/
theorem cs_lawTail (hX : Cz k X) (i : Nat) {x : Str} {pa pb p4 p5 p6 : Pos} {j2 j3 : Nat} (hN : X.N[i]? = some x := by rfl) (hv : Vis X.env.scope x := by first | exact Or.inl rfl | exact Or.inr (Or.inl rfl) | exact Or.inr (Or.inr rfl)) (hd : (x == ("__debug__" : Str)) = false := by decide) (hcd : (x == ("__classdict__" : Str)) = false := by decide)
    {spos : Pos}
    (hs2 : swapsWith (.Subscript (.Subscript (.Name x pb) (.Constant (.str "left") j2 p4) p5) (.Slice (some (.Constant (.int 1) j3 p6)) none none p3) pos) (some (.Subscript (.Name x pa) (.Constant (.str "left") j p1) p2)) spos.line X.env = pure false := by rfl) :
    CS G X (.Assign [.Subscript (.Name x pa) (.Constant (.str "left") j p1) p2] (.Subscript (.Subscript (.Name x pb) (.Constant (.str "left") j2 p4) p5) (.Slice (some (.Constant (.int 1) j3 p6)) none none p3) pos) spos) (PL.mLawTail i) := ⟨fun δ S r h0 α pins s σ H I R tk => by
  have hu : X.A.units + 1 < cLine := by have := hu64 hX; omega
  unfold PL.mLawTail PL.mVar at h0
  split at h0
  · rename_i d0 hd0
    simp only [PL.bES_ok] at h0
    split at h0
    · rename_i n c kk h t hl
      cases h0
      obtain ⟨rfl, hn⟩ := lawOf_inv hl
      obtain ⟨v0, ev0, qv0⟩ := R.loc i _ hd0
      obtain ⟨dd, cc, o, l, f1, f2, f3, f4, _, _⟩ := R.st.law hn
      obtain ⟨p, f5, rfl⟩ := rd_ref qv0
      rw [f1] at f5; cases f5
      have z := ps_dput (X := X) (pos := spos) (pos' := p2) hu (pe_var (pos := pa) hN hv hd hcd) (pe_str (x := "left") (j := j) (pos := p1))
        (pe_slice (pos := pos) (p2 := p3) sl_list (pe_dget (pos := p5) hu (pe_var (pos := pb) hN hv hd hcd) (pe_str (x := "left") (j := j2) (pos := p4)) (by intro _ _; rfl)) (po_some (pe_int (i := 1) (j := j3) (pos := p6))) po_none) hs2
      have hdl : dd ≠ l := fun z => by rw [z, f4] at f2; cases f2
      refine thn (z.run pins s σ H ⟨fun σ' H' => σ' = σ ∧ ∃ l2, H l2 = none ∧ H' = upd (upd H l2 (.lst (t.map V.int))) dd (.dK (lawD cc kk l2)), fun _ _ => False, fun _ _ => False, fun _ _ => False⟩ I ?_) fun f s' hf => ?_
      · refine ⟨.ref dd, ev0, dd, .ref l, rfl, ?_, 1, rfl, l, _, rfl, SqL.of f4, fun q hq => ⟨.ref dd, ev0, dd, upd (upd H q (.lst (t.map V.int))) dd (.dK (lawD cc kk q)), rfl, ?_, rfl, q, hq, rfl⟩⟩
        · have g := DGet.k (k := .inr ("left" : Str)) f2
          rw [val_left] at g; exact g
        · have hcut : cutV ((h :: t).map V.int) (some 1) none = t.map V.int := by
            unfold cutV
            have e1 : HT.sIx ((h :: t).map V.int).length 0 (some 1) = 1 := by simp [HT.sIx]
            have e2 : HT.sIx ((h :: t).map V.int).length ((h :: t).map V.int).length none = ((h :: t).map V.int).length := rfl
            rw [e1, e2]
            simp only [List.map_cons, List.drop_succ_cons, List.drop_zero]
            exact List.take_of_length_le (by simp)
          rw [hcut]
          have hdq : dd ≠ q := ne_of_none f2 hq
          have g := DPut.k (H := upd H q (.lst (t.map V.int))) (k := .inr ("left" : Str)) (v := V.ref q) (by rw [upd_ne hdq]; exact f2) (by show 3 < sizeLine; decide)
          exact g
      · cases f with
        | next =>
          obtain ⟨σ', H', I', rfl, l2, hl2, rfl⟩ := hf
          have hd2 : dd ≠ l2 := ne_of_none f2 hl2
          have hll : l ≠ l2 := ne_of_none f4 hl2
          obtain ⟨R3, x3⟩ := R.st.putLaw (left' := t) (k' := kk) (l' := l2) (H' := upd (upd H l2 (.lst (t.map V.int))) dd (.dK (lawD cc kk l2))) hn f1 f2 f3 f4 (.inr hl2) upd_same (by rw [upd_ne (Ne.symm hd2)]; exact upd_same)
            (fun a u h1 h2 e => by rw [upd_ne h1, upd_ne (ne_of_none e hl2)]; exact e) (by rw [upd_ne (Ne.symm hdl), upd_ne hll, f4]; exact fun z => by cases z)
          exact PoS.nx I' x3 (R.mono x3 R3)
        | ret u => obtain ⟨_, _, _, _, _, w⟩ := hf; exact w.elim
        | brk => obtain ⟨_, _, _, w⟩ := hf; exact w.elim
        | cont => obtain ⟨_, _, _, w⟩ := hf; exact w.elim
    · cases h0
  · cases h0⟩

theorem intsOf_rd {K : PySem.W.Frag} : ∀ {ds : List PL.D} {vs : List V} {l : List Int}, PL.intsOf ds = some l → RDs K α H ds vs → vs = l.map V.int
  | [], _, l, h, q => by simp only [PL.intsOf] at h; cases h; simp only [RDs] at q; exact q
  | d :: ds, _, l, h, q => by
    simp only [RDs] at q
    obtain ⟨v, r, rfl, q1, q2⟩ := q
    cases d <;> simp only [PL.intsOf] at h <;> try cases h
    rename_i i
    cases hr : PL.intsOf ds with
    | none => rw [hr] at h; cases h
    | some l' =>
      rw [hr] at h
      cases h
      rw [rd_int q1, intsOf_rd hr q2]
      rfl
/-- {'cells': c, 'at': 0, 'left': l} -/
theorem c_newLaw {ec el : Expr} {mc ml : PL.ME} {q1 q2 q3 q4 : Pos} {j1 j2 j3 j4 : Nat} (hX : Cz k X) (hc : CE G X ec mc) (hl : CE G X el ml) :
    CE G X (.Dict [some (.Constant (.str "cells") j1 q1), some (.Constant (.str "at") j2 q2), some (.Constant (.str "left") j3 q3)] [ec, .Constant (.int 0) j4 q4, el] pos) (PL.mNewLaw mc ml) :=
  CE.ofX (pe_disp (X := X) (pos := pos) (pps_cons (pe_str (x := "cells") (j := j1) (pos := q1)) hc.pe (pps_cons (pe_str (x := "at") (j := j2) (pos := q2)) (pe_int (i := 0) (j := j4) (pos := q4)) (pps_cons (pe_str (x := "left") (j := j3) (pos := q3)) hl.pe pps_nil))) rfl rfl (by simp) (by simp)) fun δ S r h0 α σ H R tk => by
    intro p hp
    have x0 : Ext α H α (upd H p (.dK [])) := Ext.new hp trivial
    have R0 := R.mono x0 (R.st.new hp)
    have nT0 : ¬ Tr α (upd H p (.dK [])) p := fun q => R.st.tr (Tr.upd (R.st.fresh hp) q) hp
    show tOf G X mc σ (upd H p (.dK [])) _
    refine tOf.go R0 h0 (tk.ext x0) fun x S1 h1 α1 v1 H1 x1 R1 q1 tk1 => ?_
    have D1 := x1.2.2.2.1 p _ upd_same nT0 (fun _ z => by cases z)
    have nT1 := tr_ext x1 upd_same nT0
    show tOf G X ml σ H1 _
    refine tOf.go R1 h1 tk1 fun y S2 h2 α2 v2 H2 x2 R2 q2 tk2 => ?_
    have D2 := x2.2.2.2.1 p _ D1 nT1 (fun _ z => by cases z)
    have nT2 := tr_ext x2 D1 nT1
    split at h2
    · rename_i cs n
      split at h2
      · rename_i ls hls
        split at h2
        · rename_i hn
          split at h2
          · rename_i cells left hcs hlf
            cases h2
            obtain ⟨c, o, vs, rfl, hcf, qc⟩ := rd_lst q1
            have ec := intsOf_rd hcs qc
            subst ec
            obtain ⟨l, us, rfl, hln, hlH, ql, pu⟩ := lst_at R2 hls q2
            have el := intsOf_rd hlf ql
            subst el
            have ln : (α2.take n).length = n := by
              have := R2.st.lenα
              rw [List.length_take]; omega
            refine ⟨D2, [(.inr "cells", .ref c), (.inr "at", .int 0), (.inr "left", .ref l)], rfl, by simp, ?_⟩
            have em : mergeK ([] : List (Key × V)) [(.inr "cells", .ref c), (.inr "at", .int 0), (.inr "left", .ref l)] = lawD c 0 l := rfl
            rw [em]
            have npl : p ≠ l := fun z => by rw [z, hlH] at D2; cases D2
            have hcf2 := FzL.le x2.2.1 hcf
            have nTp : ¬ Tr (α2.take n) H2 p := fun z => by
              rcases z with z | ⟨d, hd, q⟩
              · exact nT2 (.inl (List.mem_of_mem_take z))
              · exact nT2 (.inr ⟨d, List.mem_of_mem_take hd, q⟩)
            have nTl : ¬ Tr (α2.take n) H2 l := R2.st.notTr hln
            have xa : Ext α H α2 H2 := (x0.trans x1).trans x2
            have pre : α <+: α2.take n := by
              obtain ⟨t, ht⟩ := xa.1
              have hlα := R.st.lenα
              refine ⟨t.take (n - α.length), ?_⟩
              rw [← ht, List.take_append, List.take_of_length_le (by omega : α.length ≤ n)]
            have Rt := (R2.st.take n (Tbs.st _ _ _ _ pre xa.2.1 R.st.m)).off (u := .dK (lawD c 0 l)) D2 (fun z => z) (fun _ z => by cases z) nTp
            have Rf := Rt.pushLaw (d := p) (l := l) (c := c) (o := o) (cells := cells) (left := left) (n := 0) upd_same (FzL.le (Le.put D2 (fun z => z)) hcf2) (by rw [upd_ne (Ne.symm npl)]; exact hlH)
              (fun z => nTp (Tr.upd (fun z => nTp (.inl z)) z)) (fun z => nTl (Tr.upd (fun z => nTp (.inl z)) z))
            have xb : Ext α H α2 (upd H2 p (.dK (lawD c 0 l))) := xa.off hp nT2
            have xc : Ext α H (α2.take n ++ [p]) (upd H2 p (.dK (lawD c 0 l))) := by
              refine ⟨pre.trans (List.prefix_append _ _), xb.2.1, fun a h => ?_, xb.2.2.2⟩
              rcases h with h | ⟨d, hd, c', n', e⟩
              · rcases List.mem_append.mp h with h | h
                · exact xb.2.2.1 a (.inl (List.mem_of_mem_take h))
                · rw [List.mem_singleton.mp h]; exact .inr hp
              · rcases List.mem_append.mp hd with z | z
                · exact xb.2.2.1 a (.inr ⟨d, List.mem_of_mem_take z, c', n', e⟩)
                · rw [List.mem_singleton.mp z, upd_same] at e
                  cases e
                  exact xa.2.2.1 l (.inl (List.mem_of_getElem? hln))
            refine ⟨α2.take n ++ [p], xc, R.mono xc Rf, ?_⟩
            simp only [RD]
            exact ⟨p, by rw [List.getElem?_append_right (by omega), ln]; simp, rfl⟩
          · cases h2
        · cases h2
      · cases h2
    · cases h2
end
end BR

set_option Elab.async false
set_option linter.all false
set_option maxRecDepth 100000
set_option maxHeartbeats 2000000
/-! ## the law's end -/
namespace BR
open PySem PySem.Spec PyProof.Rows L2
variable [Tbs]
/-- the script's object, unless it is the module's own -/
def scriptH (K : PySem.W.Frag) (a : Addr) (vs : List Value) (ns : List Int) : Hp := fun b => if b = a ∧ K.lookup a = none then some (.frz { cls := .type "list", data := .seq vs.toArray } (.lst (ns.map V.int))) else none
section
variable {G : EX} {P : Program} {w : World} {K : PySem.W.Frag} {mg mb : Str → Option Value} {k : Nat} {fa a : Addr} {fd : FuncData} {x : Str} {s₁ : Shared} {vs : List Value} {ns : List Int} {m : PL.MF}
theorem scriptH_some {b : Addr} {u : HO} (h : scriptH K a vs ns b = some u) : b = a ∧ K.lookup a = none ∧ u = .frz { cls := .type "list", data := .seq vs.toArray } (.lst (ns.map V.int)) := by
  unfold scriptH at h
  split at h
  · rename_i q; cases h; exact ⟨q.1, q.2, rfl⟩
  · cases h
theorem script_rd (KX : K.In s₁.heap) (ha : s₁.heap.get? a = some { cls := .type "list", data := .seq vs.toArray }) (hi : IntsAre vs ns) (hl : ns.length ≤ sizeLine) : FzL K (scriptH K a vs ns) a { cls := .type "list", data := .seq vs.toArray } (ns.map V.int) := by
  cases hk : K.lookup a with
  | none => exact .inl (if_pos ⟨rfl, hk⟩)
  | some o =>
    have e := KX a o hk
    rw [ha] at e
    cases e
    exact .inr ⟨vs, _, hk, by rw [List.length_map]; exact hl, vals_ints hi⟩
/-- the first abstract heap: the script's object and the empty tables -/
def startH (K : PySem.W.Frag) (a : Addr) (vs : List Value) (ns : List Int) (cs : List (Addr × Addr)) : Hp := fun b => if b ∈ cs.map (·.2) then some (.tbl #[]) else scriptH K a vs ns b
theorem startH_some {cs : List (Addr × Addr)} {b : Addr} {u : HO} (h : startH K a vs ns cs b = some u) : (b ∈ cs.map (·.2) ∧ u = .tbl #[]) ∨ (b = a ∧ K.lookup a = none ∧ u = .frz { cls := .type "list", data := .seq vs.toArray } (.lst (ns.map V.int))) := by
  unfold startH at h
  split at h
  · rename_i q; cases h; exact .inl ⟨q, rfl⟩
  · exact .inr (scriptH_some h)
/-- the law's call, from what the mirror of its def gives -/
theorem law_callC (cs : List (Addr × Addr)) (KX : K.In s₁.heap) (hns : s₁.heap.Ns mainGlobals mg) (hb : s₁.heap.Ns builtinsNs mb) (hbb : ∀ x : Str, x ≠ "__name__" → mb x = bootBuiltins x) (hlim : s₁.heap.NoLimit) (hg : s₁.gens = #[])
    (hT : ∀ p ∈ cs, s₁.heap.get? p.2 = some { cls := .none, data := .fields #[] }) (nT : ∀ p ∈ cs, K.lookup p.2 = none) (C : ∀ p ∈ cs, PySem.W.CodeHd s₁.heap p.1 p.2)
    (hbm : ∃ (bm : Addr) (ob : Obj), mg "__builtins__" = some (.ref bm) ∧ bm ≠ builtinsNs ∧ s₁.heap.get? bm = some ob ∧ ob.cls = .type "module" ∧ ob.dict = some builtinsNs ∧ ob.data = .plain)
    (hTb : ∀ p ∈ Tbs.T, p.1 ∈ cs.map (·.2)) (hamb : ∀ α H, Tbs.amb α H)
    (ha : s₁.heap.get? a = some { cls := .type "list", data := .seq vs.toArray }) (hi : IntsAre vs ns) (hl : ns.length ≤ sizeLine) (hr : Room k callerA)
    (F : ∀ base : Heap, K.In base → base.Ns mainGlobals mg → (∀ p ∈ cs, LamX.TabB base mg p.1 p.2) → FnC G P w K mg base k fa fd [x] m) (hbind : ∀ (s : Shared) (u : Value), BindsTo s fd ⟨[u], []⟩ [(x, u)])
    {S' : PL.Sto} (hm : m [.lst (ns.map .int)] [] = some (.ok (.bl true) S')) :
    codeAny (model P w) callerA (.call (.ref fa) ⟨[.ref a], []⟩) (fun r s' => r = .ok (.ret (.bool true)) ∧ OldK s₁.heap s'.heap ∧ s'.os = s₁.os ∧ AllBare s'.gens) s₁ := by
  have isT : ∀ {b : Addr}, b ∈ cs.map (·.2) → s₁.heap.get? b = some { cls := .none, data := .fields #[] } := fun {b} h => by
    obtain ⟨p, hp, e⟩ := List.mem_map.mp h
    rw [← e]; exact hT p hp
  have aT : a ∉ cs.map (·.2) := fun z => by
    have q := isT z
    rw [ha] at q
    have z' := congrArg Obj.data (Option.some.inj q)
    cases z'
  generalize hH : startH K a vs ns cs = H
  have hs : ∀ {b u}, H b = some u → (b ∈ cs.map (·.2) ∧ u = .tbl #[]) ∨ (b = a ∧ K.lookup a = none ∧ u = .frz { cls := .type "list", data := .seq vs.toArray } (.lst (ns.map V.int))) := fun {b u} e => startH_some (by rw [hH]; exact e)
  have hTab : ∀ {b}, b ∈ cs.map (·.2) → H b = some (.tbl #[]) := fun {b} e => by rw [← hH]; exact if_pos e
  have none_of : ∀ {b : Addr}, (b ∈ cs.map (·.2) → False) → (b = a → K.lookup a = none → False) → H b = none := fun {b} n1 n => by
    cases q : H b with
    | none => rfl
    | some u =>
      rcases hs q with ⟨z, _⟩ | ⟨e1, e2, _⟩
      · exact (n1 z).elim
      · exact (n e1 e2).elim
  have noD : ∀ {b : Addr} {o : Obj}, s₁.heap.get? b = some o → o.data ≠ .fields #[] → o.data ≠ .seq vs.toArray → H b = none := fun {b o} e n1 n2 => none_of (fun q => by
      rw [isT q] at e
      cases e
      exact n1 rfl) fun q _ => by
      rw [q, ha] at e
      cases e
      exact n2 rfl
  have rows : ∀ {b : Addr} {o : Obj} {es : Array DictEntry} {ep : Nat}, s₁.heap.get? b = some o → o.data = .dict es ep → H b = none := fun {b o es ep} e d => noD e (fun z => by rw [d] at z; cases z) (fun z => by rw [d] at z; cases z)
  have ns' : ∀ {b : Addr} {m : Str → Option Value}, s₁.heap.Ns b m → (hidT s₁.heap H).Ns b m := fun {b m} h => by
    obtain ⟨o, es, ep, e, d, r⟩ := h
    exact ⟨o, es, ep, hidT_get e (rows e d), d, r⟩
  have kb : K.In (hidT s₁.heap H) := fun b o e => hidT_get (KX b o e) (none_of (fun q => by
    obtain ⟨p, hp, z⟩ := List.mem_map.mp q
    rw [← z, nT p hp] at e; cases e) fun q n => by rw [q, n] at e; cases e)
  have md : Mod K mg (hidT s₁.heap H) := by
    obtain ⟨mc, l1, l2⟩ := hlim
    exact ⟨kb, ns' hns, ⟨mb, ns' hb, hbb⟩, ⟨mc, ns' l1, l2⟩⟩
  have ok : HOk P w H s₁.heap := fun b u e => by
    rcases hs e with ⟨z, rfl⟩ | ⟨rfl, _, rfl⟩
    · exact isT z
    · exact ⟨ha, by rw [List.length_map]; exact hl, vs, _, vals_ints hi, ha⟩
  have TB : ∀ p ∈ cs, LamX.TabB (hidT s₁.heap H) mg p.1 p.2 := fun p hp => by
    have hTp := hT p hp
    refine ⟨?_, ?_, fun z => ?_⟩
    · obtain ⟨o, us, file, tf, flags, tg, inF, text, tt, e1, r1, r2, r3, r4, r5, r6, r7, r8, hne⟩ := C p hp
      refine ⟨o, us, file, tf, flags, tg, inF, text, tt, hidT_get e1 (noD e1 (fun z => ?_) fun z => ?_), r1, r2, r3, r4, r5, r6, r7, r8, hne⟩
      · rw [r2] at z; cases z; simp at r3
      · rw [r2] at z; cases z
    · obtain ⟨bm, ob, b1, b2, b3, b4, b5, b6⟩ := hbm
      have nG : bm ≠ mainGlobals := fun q => by
        obtain ⟨o, es, ep, e, hd, _⟩ := hns
        rw [q, e] at b3; cases b3
        rw [hd] at b6; cases b6
      have nP : bm ≠ p.2 := fun q => by
        rw [q, hTp] at b3; cases b3; cases b6
      exact ⟨bm, ob, b1, b2, nG, nP, hidT_get b3 (noD b3 (fun z => by rw [b6] at z; cases z) fun z => by rw [b6] at z; cases z), b4, b5, b6⟩
    · obtain ⟨o, es, ep, e, hd, _⟩ := hns
      rw [z, hTp] at e; cases e; cases hd
  have e0 : Env0 P w K mg (hidT s₁.heap H) callerA [] s₁ H := by
    refine ⟨rfl, md, fun b o e => of_hidT e, ?_, trivial, ?_, ok, .of_eq hg⟩
    · rw [hidT_size]; exact Nat.le_refl _
    · intro b hb
      exact absurd (show b ∈ ([] : List Addr) from hb) (by simp)
  have st : RSt K [] [] H := ⟨⟨[], rfl, rfl, by simp, by simp, fun n o e => by simp at e⟩, fun p hp => LamX.TabS.nil (hTab (hTb p hp)), hamb _ _⟩
  have hHa : FzL K H a { cls := .type "list", data := .seq vs.toArray } (ns.map V.int) := by
    have := script_rd KX ha hi hl
    rcases this with z | z
    · refine .inl ?_
      rw [← hH]; unfold startH; rw [if_neg aT]; exact z
    · exact .inr z
  have rd : RDs K [] H [.lst (ns.map .int)] [.ref a] := by
    refine .cons ?_ .nil
    simp only [RD]
    exact ⟨a, _, _, rfl, hHa, ints_rd⟩
  refine codeAny_mono ((F _ kb (ns' hns) TB).run callerA [] s₁ H ⟨[.ref a], []⟩ [.ref a] [.ref a] (fun v _ => v = .bl true) (fun _ _ _ => False) [] _ [] _ hr rfl e0 (hbind s₁ (.ref a)) (.cons rfl .nil) st rd hm fun v α' H' x R q => rd_bl q) fun r s' h => ?_
  cases r with
  | error e =>
    obtain ⟨_, _, _, _, _, _, _, _, _, _, _, _, z⟩ := h
    exact z.elim
  | ok fl =>
    cases fl with
    | next => exact False.elim h
    | brk => exact False.elim h
    | cont => exact False.elim h
    | ret u =>
      obtain ⟨v, H', os, bare, un, ok', r', q⟩ := h
      have q' : v = .bl true := q
      subst q'
      obtain rfl : u = Value.bool true := r'
      have key : ∀ b o, b ∉ cs.map (·.2) → s₁.heap.get? b = some o → s'.heap.get? b = some o := fun b o nb e => by
        cases q : H b with
        | none => exact un.keep b o e q (fun z => absurd (show b ∈ ([] : List Addr) from z) (by simp)) (by simp)
        | some u =>
          rcases hs q with ⟨z, _⟩ | ⟨rfl, _, rfl⟩
          · exact absurd z nb
          · obtain ⟨e2, _⟩ := ok' b _ (un.frzs b _ _ q)
            rw [ha] at e
            cases e
            exact e2
      have grown : ∀ p ∈ cs, ∃ more : Array Value, s'.heap.get? p.2 = some { cls := .none, data := .fields more } := fun p hp => by
        obtain ⟨more, z⟩ := un.tbls p.2 #[] (hTab (List.mem_map.mpr ⟨p, hp, rfl⟩))
        exact ⟨_, ok' p.2 _ z⟩
      refine ⟨rfl, ⟨fun b o e => ?_, fun b o e => ?_⟩, os, bare⟩
      · by_cases hb : b ∈ cs.map (·.2)
        · obtain ⟨p, hp, ep⟩ := List.mem_map.mp hb
          obtain ⟨more, hm⟩ := grown p hp
          rw [← ep] at e ⊢
          rw [hT p hp] at e
          cases e
          exact .inr (.inl ⟨((C p hp).tab (hT p hp)).isCodeTable, rfl, #[], more, rfl, by rw [Array.empty_append]; exact hm⟩)
        · exact .inl (key b o hb e)
      · by_cases hb : b ∈ cs.map (·.2)
        · obtain ⟨p, hp, ep⟩ := List.mem_map.mp hb
          obtain ⟨more, hm⟩ := grown p hp
          rw [← ep]
          exact ⟨_, hm⟩
        · exact ⟨o, key b o hb e⟩
end
end BR
namespace BR
open PySem PySem.Spec PyProof.Rows L2
/-- the tables of a whole run -/
@[reducible]
def tbs0 (T : List (Addr × Str)) : Tbs := ⟨T, fun _ _ => True, fun _ _ _ _ _ _ _ => trivial⟩
/-- the goal that k_head leaves, from the mirror of the law's def -/
theorem walkC {l : PySem.W.OpenLaw} {n k : Nat} {q : Program} {loose : List Str} {XP : (Str → Option Value) → Heap → Prop} {YP : World → Heap → Prop} {d : DefRec} {K : Params → PySem.W.Frag} {x : Str} {m : PL.MF} (cs : List (Addr × Addr)) (T : List (Addr × Str))
    (hn : l.most = some n) (hn2 : n ≤ sizeLine) (hdf : d.params.defaults = []) (hr : Room k callerA) (hY : ∀ (w : World) (h : Heap), YP w h → (K w.params).In h ∧ ∀ p ∈ cs, h.get? p.2 = some { cls := .none, data := .fields #[] } ∧ (K w.params).lookup p.2 = none ∧ PySem.W.CodeHd h p.1 p.2)
    (hTb : ∀ p ∈ T, p.1 ∈ cs.map (·.2))
    (hm : ∀ ns : List Int, ns.length ≤ n → ∃ S', m [.lst (ns.map .int)] [] = some (.ok (.bl true) S'))
    (F : ∀ (w : World) (mg : Str → Option Value) (fa : Addr) (h : Heap), (K w.params).In h → h.Ns mainGlobals mg → mg d.name = some (.ref fa) →
      ∃ (G : EX) (fd : FuncData), (∀ (s : Shared) (u : Value), BindsTo s fd ⟨[u], []⟩ [(x, u)]) ∧ ∀ base : Heap, (K w.params).In base → base.Ns mainGlobals mg → (∀ p ∈ cs, LamX.TabB base mg p.1 p.2) → @FnC (tbs0 T) G l.prog w (K w.params) mg base k fa fd [x] m) :
    PySem.W.WalkO q loose XP YP l.row.toRowW d [] (fun f vs => PySem.call f vs) := by
  refine Att.attach_call hn hdf fun w s₀ s₁ mg mb fa o pm cd doc a vs ns G Y ho hd hcd hmg hobj hints hlen hg => ?_
  obtain ⟨Y1, Y2⟩ := hY w _ Y
  obtain ⟨G', fd, hb, hF⟩ := F w mg fa _ Y1 G.T.g hmg
  obtain ⟨S', hS⟩ := hm ns hlen
  letI := tbs0 T
  exact law_callC cs Y1 G.T.g G.T.b G.T.builtins G.T.nolimit hg (fun p hp => (Y2 p hp).1) (fun p hp => (Y2 p hp).2.1) (fun p hp => (Y2 p hp).2.2) G.T.bmain hTb (fun _ _ => trivial) hobj hints (Nat.le_trans hlen hn2) hr hF hb hS
end BR

set_option Elab.async false
set_option linter.all false
set_option maxRecDepth 100000
set_option maxHeartbeats 2000000
/-! ## comparisons, as values and as tests -/
namespace BR
open PySem PySem.Spec PyProof.Rows L2
variable [Tbs]
/-- a op b: both sides, then the comparison -/
structure CP (G : EX) (X : Cx) (a : Expr) (op : CmpOp) (b : Expr) (m : PL.ME) : Prop where
  run : ∀ δ S r, m δ S = some r → ∀ α pins s σ H, Inv X pins σ H s → Rel X.K α δ S σ H → TkE G X α σ H r →
    wpAny (model X.prog X.w) X.A (eval a X.env) (fun v s₁ => wpAny (model X.prog X.w) X.A (eval b X.env) (fun u s₂ => wpAny (model X.prog X.w) X.A (compareOp op v u) (PoE X pins α δ σ H r) X.xe s₂) X.xe s₁) X.xe s
section
variable {G : EX} {X : Cx} {α α' : List Addr} {δ : PL.Env} {S : PL.Sto} {σ : L2.St} {H H' : Hp} {pins : List (Addr × Obj)} {s : Shared} {k : Nat}
variable {a b : Expr} {ma mb m : PL.ME} {pos p1 p2 p3 : Pos} {j : Nat} {op : CmpOp}
theorem CP.e (h : CP G X a op b m) (h1 : behindInMarks op b = false := by first | exact nobehind _ (by decide) (by decide) | rfl) : CE G X (.Compare a [op] [b] pos) m :=
  ⟨fun δ S r hm α pins s σ H I R tk => wpAny_Compare1 (h.run δ S r hm α pins s σ H I R tk) h1⟩
theorem CP.t (h : CP G X a op b m) (h1 : behindInMarks op b = false := by first | exact nobehind _ (by decide) (by decide) | rfl) : CT G X (.Compare a [op] [b] pos) (PL.mB m) := by
  refine ⟨fun δ S r hm α pins s σ H I R tk => ?_⟩
  unfold PL.mB at hm
  cases c : m δ S with
  | none => rw [c] at hm; cases hm
  | some r0 =>
    rw [c] at hm
    cases r0 with
    | ex x S1 =>
      cases hm
      exact wpAny_isTrue_Compare1 (thn (h.run δ S _ c α pins s σ H I R tk) fun v s1 h1 => thn h1 fun u s2 h2 => thn h2 fun w s3 h3 => h3.elim) h1
    | ok d S1 =>
      refine wpAny_isTrue_Compare1 (thn (h.run δ S _ c α pins s σ H I R trivial) fun v s1 h1 => thn h1 fun u s2 h2 => thn h2 fun w s3 h3 => ?_) h1
      obtain ⟨α1, v1, H1, I1, rv, x1, R1, q1⟩ := h3
      cases d <;> try cases hm
      have e1 := rd_bl q1
      subst e1
      cases rv
      exact wpAny_truthy_bool ⟨rfl, α1, H1, I1, x1, R1⟩
theorem cp_op {f : PL.D → PL.D → Option PL.D} (ho : OpD X (compareOp op) f) (ha : CE G X a ma) (hb : CE G X b mb) : CP G X a op b (PL.mBin f ma mb) :=
  ⟨fun δ S r hm α pins s σ H I R tk => two ho ha hb hm I R tk⟩
theorem cp_opS {f : PL.Sto → PL.D → PL.D → Option PL.D} (ho : ∀ S x y z, f S x y = some z → ∀ α δ pins s σ H v w u1 u2, Inv X pins σ H s → Rel X.K α δ S σ H → RD X.K α H x v → RD X.K α H y w → RelV v u1 → RelV w u2 →
    wpAny (model X.prog X.w) X.A (compareOp op u1 u2) (PoE X pins α δ σ H (.ok z S)) X.xe s) (ha : CE G X a ma) (hb : CE G X b mb) : CP G X a op b (PL.mBinS f ma mb) :=
  ⟨fun δ S r hm α pins s σ H I R tk => by
    refine ha.then I R hm tk fun x S1 h1 α1 v H1 u1 s1 I1 rv x1 R1 q1 tk1 => ?_
    refine hb.then I1 R1 h1 tk1 fun y S2 h2 α2 w H2 u2 s2 I2 rw x2 R2 q2 tk2 => ?_
    obtain ⟨z, e, rfl⟩ := map_inv h2
    exact thn (ho S2 x y z e α2 δ pins s2 σ H2 v w u1 u2 I2 R2 (q1.mono x2) q2 rv rw) fun u s' h => h.ext (x1.trans x2)⟩
theorem cp_eqS (hX : Cz k X) (ha : CE G X a ma) (hb : CE G X b mb) : CP G X a .Eq b (PL.mBinS PL.opEqS ma mb) := cp_opS (fun S x y z e α δ pins s σ H v w u1 u2 I R q1 q2 r1 r2 => by
  obtain ⟨ho, rfl⟩ := if_inv e
  simp only [Bool.and_eq_true] at ho
  refine thn (op_eqD (hu64 hX) pins s σ H v w u1 u2 (PoV X.K α δ σ H (.ok _ S)) I r1 r2 ⟨_, _, dp_rsv R ho.1 q1, dp_rsv R ho.2 q2, shaped_of ho.1, shaped_of ho.2, ?_⟩) fun u s' hu => PoE.ofV hu
  rw [eqv_of ho.1 ho.2]
  exact PoV.here R mk_bl) ha hb
theorem cp_neS (hX : Cz k X) (ha : CE G X a ma) (hb : CE G X b mb) : CP G X a .NotEq b (PL.mBinS PL.opNeS ma mb) := cp_opS (fun S x y z e α δ pins s σ H v w u1 u2 I R q1 q2 r1 r2 => by
  obtain ⟨ho, rfl⟩ := if_inv e
  simp only [Bool.and_eq_true] at ho
  refine thn (op_neD (hu64 hX) pins s σ H v w u1 u2 (PoV X.K α δ σ H (.ok _ S)) I r1 r2 ⟨_, _, dp_rsv R ho.1 q1, dp_rsv R ho.2 q2, shaped_of ho.1, shaped_of ho.2, ?_⟩) fun u s' hu => PoE.ofV hu
  rw [eqv_of ho.1 ho.2]
  exact PoV.here R mk_bl) ha hb
/-- m['left'] != [] -/
theorem cp_lawNe (hX : Cz k X) (ha : CE G X a ma) : CP G X (.Subscript a (.Constant (.str "left") j p1) p2) .NotEq (.List [] p3) (PL.mLawNe ma) := ⟨fun δ S r h0 α pins s σ H I R tk => by
  refine fld_read (w := .non) hX ha I R h0 tk fun d S1 h1 => ?_
  split at h1
  · rename_i n c kk l hl
    cases h1
    obtain ⟨rfl, hn⟩ := lawOf_inv hl
    refine ⟨n, c, kk, l, rfl, hn, fun α1 dd cc o l' H1 x1 R1 e1 e2 e3 e4 => ⟨.ref l', val_left, fun u s1 I1 rv => ?_⟩⟩
    refine thn ((pe_lst (X := X) (pos := p3) pa_nil).run pins s1 σ H1 (fun w H2 => ∃ p, w = .ref p ∧ H1 p = none ∧ H2 = upd H1 p (.lst [])) I1 ⟨Nat.zero_le _, fun p hp => ⟨p, rfl, hp, rfl⟩⟩) fun u2 s2 hu2 => ?_
    obtain ⟨w, H2, I2, rw, p, e5, hp, e6⟩ := hu2
    subst e5 e6
    have hl2 : upd H1 p (.lst []) l' = some (.lst (l.map V.int)) := by rw [upd_ne (ne_of_none e4 hp)]; exact e4
    have x2 : Ext α1 H1 α1 (upd H1 p (.lst [])) := Ext.new hp trivial
    have R2 := R1.mono x2 (R1.st.new hp)
    have o1 : (PL.D.lst (l.map .int)).ok = true := by show PL.D.okN _ 60 = true; simp only [PL.D.okN]; exact ok_ints
    have o2 : (PL.D.lst []).ok = true := by decide
    refine thn (op_neD (hu64 hX) pins s2 σ (upd H1 p (.lst [])) (.ref l') (.ref p) u u2 (PoV X.K α1 δ σ (upd H1 p (.lst [])) (.ok (.bl (!l.isEmpty)) S1)) I2 rv rw ⟨toPy (.lst (l.map .int)), toPy (.lst []), ?_, ?_, shaped_of o1, shaped_of o2, ?_⟩) fun u3 s3 hu => (PoE.ofV hu).ext (x1.trans x2)
    · simp only [toPy]; exact .lst (SqL.of hl2) dpall_ints
    · simp only [toPy, toPys]; exact .lst (SqL.of upd_same) .nil
    · rw [eqv_of (n := 60) (k := 60) o1 o2]
      have : (!PL.eqD (.lst (l.map .int)) (.lst [])) = !l.isEmpty := by cases l <;> simp [PL.eqD, PL.eqDs]
      rw [this]
      exact PoV.here R2 mk_bl
  · cases h1⟩
theorem d_is' : OpD X (compareOp .Is) PL.opIs := d_is
/-- while True -/
theorem ct_true : CT G X (.Constant (.bool true) j pos) PL.mTrue := ⟨fun δ S r hm α pins s σ H I R tk => by
  cases hm
  have z := (c_bool (c_bl (G := G) (X := X) (i := true) (j := j) (pos := pos))).run δ S (.ok true S) rfl α pins s σ H I R trivial
  exact z⟩
end
end BR

set_option Elab.async false
set_option linter.all false
set_option maxRecDepth 100000
set_option maxHeartbeats 2000000
/-! ## exceptions -/
namespace BR
open PySem PySem.Spec PyProof.Rows L2
variable [Tbs]
/-- the exception class of the number c -/
structure XcOk (G : EX) (prog : Program) (K : PySem.W.Frag) (c : Nat) : Prop where
  init : ∃ fI B newId initId tl, XI.XiC prog K (G.ec c) fI (G.ef c) B newId initId tl
  xf : XfC K (G.ec c)
theorem XcOk.noF {G : EX} {prog : Program} {K : PySem.W.Frag} {c : Nat} (T : XcOk G prog K c) : PySem.W.findIn K (.ref (G.ec c)) (G.ef c) = some none := by
  obtain ⟨_, _, _, _, _, h⟩ := T.init
  exact h.noF
section
variable {G : EX} {X : Cx} {α α' : List Addr} {δ : PL.Env} {S : PL.Sto} {σ : L2.St} {H H' : Hp} {pins : List (Addr × Obj)} {s : Shared}
variable {e : Expr} {m : PL.ME} {pos p pos' : Pos} {k c : Nat} {x : Str} {sts : List Stmt} {ms : PL.MS}
/-- raise C(e) -/
theorem cs_raise (hX : Cz (k + 1) X) (T : XcOk G X.prog X.K c) (hm : X.mg x = some (.ref (G.ec c))) (he : CE G X e m) (hg : Gl X x := by rfl)
    (hdb : (x == ("__debug__" : Str)) = false := by decide) (hse : starEach [e] X.env = [(false, eval e X.env)] := by rfl) :
    CS G X (.Raise (some (.Call (.Name x p) [e] [] pos)) none pos') (PL.mRaise c m) := ⟨fun δ S r h0 α pins s σ H I R tk => by
  obtain ⟨fI, B, newId, initId, tl, T1⟩ := T.init
  have tk1 : Takes X (fun cls dd σ' H' => ∃ d S1, m δ S = some (.ok d S1) ∧ WS G X α H ⟨c, d⟩ δ S1 cls dd σ' H') := by
    cases q : m δ S with
    | none => rw [PL.mRaise, q] at h0; cases h0
    | some r0 =>
      cases r0 with
      | ok d S1 =>
        rw [PL.mRaise, q] at h0
        cases h0
        exact Takes.imp tk fun cls dd σ' H' ⟨d', S', e1, w⟩ => by cases e1; exact w
      | ex y S1 => exact Takes.imp (takes_none5 (X := X)) fun cls dd σ' H' ⟨d', S', e1, w⟩ => by cases e1
  refine thn ((ps_raise (X := X) (pos := pos') hX.calm tk1 (XI.pmk_xi (X := X) (x := x) (p := p) (pos := pos) T1 hX.room hm (pa_cons he.pe pa_nil hse) hg hdb hse)).run pins s σ H ⟨fun _ _ => False, fun _ _ => False, fun _ _ => False, fun _ _ => False⟩ I ?_) fun f s1 hsp => ?_
  · refine ⟨α, δ, S, R, fun z => ?_, fun y S1 q => ?_, fun d S1 q α1 v H1 x1 R1 rd => ?_⟩
    · rw [PL.mRaise, z] at h0; cases h0
    · rw [PL.mRaise, q] at h0
      cases h0
      exact TkS.ofE R tk
    · refine ⟨v, rfl, fun dd hd => ⟨d, S1, q, α1, x1.trans (Ext.new hd trivial), R1.mono (Ext.new hd trivial) (R1.st.new hd), rfl, dd, v, rfl, upd_same, rd.mono (Ext.new hd trivial)⟩⟩
  · exfalso
    cases f with
    | next => obtain ⟨_, _, _, z⟩ := hsp; exact z
    | brk => obtain ⟨_, _, _, z⟩ := hsp; exact z
    | cont => obtain ⟨_, _, _, z⟩ := hsp; exact z
    | ret u => obtain ⟨_, _, _, _, _, z⟩ := hsp; exact z⟩
/-- a block's reading -/
def tOfS (G : EX) (X : Cx) (m : PL.MS) (W : WX) : TS := fun D σ H => ∃ α δ S r, Rel X.K α δ S σ H ∧ m δ S = some r ∧ match r with
  | .nx δ1 S1 => ∀ α1 σ1 H1, Ext α H α1 H1 → Rel X.K α1 δ1 S1 σ1 H1 → D.nx σ1 H1
  | .bk δ1 S1 => ∀ α1 σ1 H1, Ext α H α1 H1 → Rel X.K α1 δ1 S1 σ1 H1 → D.bk σ1 H1
  | .ct δ1 S1 => ∀ α1 σ1 H1, Ext α H α1 H1 → Rel X.K α1 δ1 S1 σ1 H1 → D.ct σ1 H1
  | .rt d S1 => ∀ α1 H1 v, Ext α H α1 H1 → RSt X.K α1 S1 H1 → RD X.K α1 H1 d v → D.rt v H1
  | .ex x δ1 S1 => ∀ cls dd σ1 H1, WS G X α H x δ1 S1 cls dd σ1 H1 → W cls dd σ1 H1
theorem CSs.pss (h : CSs G X sts ms) {W : WX} (tk : Takes X W) : PSs X sts (tOfS G X ms W) := ⟨fun pins s σ H D I ⟨α, δ, S, r, R, hm, q⟩ => by
  refine thn (h.run δ S r hm α pins s σ H I R ?_) fun f s1 hp => ?_
  · cases r with
    | ex x δ1 S1 => exact Takes.imp tk q
    | _ => trivial
  · cases r with
    | nx δ1 S1 => obtain ⟨rfl, α1, σ1, H1, I1, x1, R1⟩ := hp; exact ⟨σ1, H1, I1, q α1 σ1 H1 x1 R1⟩
    | bk δ1 S1 => obtain ⟨rfl, α1, σ1, H1, I1, x1, R1⟩ := hp; exact ⟨σ1, H1, I1, q α1 σ1 H1 x1 R1⟩
    | ct δ1 S1 => obtain ⟨rfl, α1, σ1, H1, I1, x1, R1⟩ := hp; exact ⟨σ1, H1, I1, q α1 σ1 H1 x1 R1⟩
    | rt d S1 => obtain ⟨u, rfl, α1, σ1, H1, v, I1, rv, x1, R1, rd⟩ := hp; exact ⟨v, σ1, H1, I1, rv, q α1 H1 v x1 R1 rd⟩
    | ex x δ1 S1 => exact hp.elim⟩
def AllB (P : Nat → Bool → Prop) : Nat → List (Option Bool) → Prop
  | _, [] => True
  | i, none :: r => AllB P (i + 1) r
  | i, some b :: r => P i b ∧ AllB P (i + 1) r
theorem AllB.get {P : Nat → Bool → Prop} : ∀ {l : List (Option Bool)} {i n : Nat} {b : Bool}, AllB P i l → PL.lkB l n = some b → P (i + n) b
  | [], i, n, b, _, e => by simp [PL.lkB] at e
  | none :: r, i, 0, b, _, e => by simp [PL.lkB] at e
  | none :: r, i, n + 1, b, h, e => by
    have := AllB.get (l := r) (i := i + 1) (n := n) (b := b) h (by simpa [PL.lkB] using e)
    rw [show i + (n + 1) = i + 1 + n by omega]; exact this
  | some c :: r, i, 0, b, h, e => by simp [PL.lkB] at e; subst e; exact h.1
  | some c :: r, i, n + 1, b, h, e => by
    have := AllB.get (l := r) (i := i + 1) (n := n) (b := b) h.2 (by simpa [PL.lkB] using e)
    rw [show i + (n + 1) = i + 1 + n by omega]; exact this
/-- it takes the class n₀ alone -/
def onlyB (n₀ : Nat) : Nat → List (Option Bool) → Bool
  | _, [] => true
  | i, some true :: r => decide (i = n₀) && onlyB n₀ (i + 1) r
  | i, _ :: r => onlyB n₀ (i + 1) r
theorem onlyB_ok {n₀ : Nat} : ∀ {l : List (Option Bool)} {i n : Nat}, onlyB n₀ i l = true → PL.lkB l n = some true → i + n = n₀
  | [], i, n, _, e => by simp [PL.lkB] at e
  | some true :: r, i, 0, h, e => by simp [onlyB] at h; omega
  | some false :: r, i, 0, h, e => by simp [PL.lkB] at e
  | none :: r, i, 0, h, e => by simp [PL.lkB] at e
  | some true :: r, i, n + 1, h, e => by
    simp only [onlyB, Bool.and_eq_true] at h
    have := onlyB_ok (l := r) (i := i + 1) (n := n) h.2 (by simpa [PL.lkB] using e)
    omega
  | some false :: r, i, n + 1, h, e => by
    have := onlyB_ok (l := r) (i := i + 1) (n := n) h (by simpa [PL.lkB] using e)
    omega
  | none :: r, i, n + 1, h, e => by
    have := onlyB_ok (l := r) (i := i + 1) (n := n) h (by simpa [PL.lkB] using e)
    omega
inductive HdsC (G : EX) (X : Cx) : List ExceptHandler → List PL.Hd → Prop
  | nil : HdsC G X [] []
  | never {hds : List ExceptHandler} : HdsC G X hds [⟨fun _ => none, none, fun _ _ => PL.mNever⟩]
  | bare {x : Str} {C : Addr} {b₀ : Stmt} {suite : List Stmt} {np pos' : Pos} {hds : List ExceptHandler} {l : List PL.Hd} {tk : List (Option Bool)} {ms : PL.MS} (hm : X.mg x = some (.ref C)) (ht : AllB (fun n b => PySem.W.exmOne X.K (.ref (G.ec n)) (.ref C) = some b) 0 tk)
      (hsu : ∀ (a : Addr) (oe : Obj) (pn : List (Addr × Obj)), CSs G (X.suite a ((a, oe) :: pn)) (b₀ :: suite) ms) (r : HdsC G X hds l) (hg : Gl X x := by rfl) (hdb : (x == ("__debug__" : Str)) = false := by decide) :
      HdsC G X (.ExceptHandler (some (.Name x np)) none (b₀ :: suite) pos' :: hds) (⟨PL.lkB tk, none, fun _ _ => ms⟩ :: l)
  | named {x n : Str} {i n₀ : Nat} {C : Addr} {b₀ : Stmt} {suite : List Stmt} {np pos' : Pos} {hds : List ExceptHandler} {l : List PL.Hd} {tk : List (Option Bool)} {ms : Nat → Nat → PL.MS} (hm : X.mg x = some (.ref C)) (ht : AllB (fun n b => PySem.W.exmOne X.K (.ref (G.ec n)) (.ref C) = some b) 0 tk) (ho : onlyB n₀ 0 tk = true)
      (hsu : ∀ (a : Addr) (oe : Obj) (dd : Addr) (pn : List (Addr × Obj)), Zc (.ref (G.ec n₀)) (some dd) oe → (∃ vs, oe.data = .fields vs) → CSs G (X.suite a ((a, oe) :: pn)) (b₀ :: suite) (ms a dd)) (r : HdsC G X hds l)
      (hN : X.N.Nodup) (hi : X.N[i]? = some n := by rfl) (hln : X.env.kindOf n = some .local := by rfl) (hg : Gl X x := by rfl) (hdb : (x == ("__debug__" : Str)) = false := by decide) :
      HdsC G X (.ExceptHandler (some (.Name x np)) (some n) (b₀ :: suite) pos' :: hds) (⟨PL.lkB tk, some i, ms⟩ :: l)
/-- what is wanted behind a block, of its flows -/
def endsOf (X : Cx) (α : List Addr) (H : Hp) (r : PL.RS) : Ends where
  nx := fun σ1 H1 => ∃ α1 δ1 S1, r = .nx δ1 S1 ∧ Ext α H α1 H1 ∧ Rel X.K α1 δ1 S1 σ1 H1
  bk := fun σ1 H1 => ∃ α1 δ1 S1, r = .bk δ1 S1 ∧ Ext α H α1 H1 ∧ Rel X.K α1 δ1 S1 σ1 H1
  ct := fun σ1 H1 => ∃ α1 δ1 S1, r = .ct δ1 S1 ∧ Ext α H α1 H1 ∧ Rel X.K α1 δ1 S1 σ1 H1
  rt := fun v H1 => ∃ α1 d S1, r = .rt d S1 ∧ Ext α H α1 H1 ∧ RSt X.K α1 S1 H1 ∧ RD X.K α1 H1 d v
theorem PoS.ofEnds {r : PL.RS} {f : Flow} {s1 : Shared} (h : SP X pins (endsOf X α H r) f s1) : PoS X pins α H r f s1 := by
  cases f with
  | next => obtain ⟨σ1, H1, I1, α1, δ1, S1, rfl, x1, R1⟩ := h; exact ⟨rfl, α1, σ1, H1, I1, x1, R1⟩
  | brk => obtain ⟨σ1, H1, I1, α1, δ1, S1, rfl, x1, R1⟩ := h; exact ⟨rfl, α1, σ1, H1, I1, x1, R1⟩
  | cont => obtain ⟨σ1, H1, I1, α1, δ1, S1, rfl, x1, R1⟩ := h; exact ⟨rfl, α1, σ1, H1, I1, x1, R1⟩
  | ret u => obtain ⟨v, σ1, H1, I1, rv, α1, d, S1, rfl, x1, R1, rd⟩ := h; exact ⟨u, rfl, α1, σ1, H1, v, I1, rv, x1, R1, rd⟩
theorem Rel.unset (R : Rel X.K α δ S σ H) (i : Nat) : Rel X.K α (δ.set i none) S (σ.set i none) H := by
  refine ⟨R.st, by simpa using R.len, fun j e h => ?_⟩
  by_cases hj : i = j
  · subst hj
    by_cases hi : i < δ.length
    · rw [List.getElem?_set_self hi] at h; cases h
    · rw [List.getElem?_eq_none (by simpa using hi)] at h; cases h
  · rw [List.getElem?_set_ne hj] at h
    obtain ⟨w, e1, q1⟩ := R.loc j e h
    exact ⟨w, by rw [List.getElem?_set_ne hj]; exact e1, q1⟩
/-- a clause's reading, of an exception of the mirror -/
def tsOf (G : EX) (X : Cx) (ms : Nat → Nat → PL.MS) (tk : List (Option Bool)) : Addr → Value → Option Addr → TS := fun a cls d D σ H => ∃ dd n, d = some dd ∧ cls = .ref (G.ec n) ∧ PL.lkB tk n = some true ∧ tOfS G X (ms a dd) (fun _ _ _ _ => False) D σ H
theorem hdsC_ok {hds : List ExceptHandler} {hs : List PL.Hd} {fn : Nat → String} (hfn : ∀ n, G.ef n = (fn n : Str)) (h : HdsC G X hds hs) : ∃ l : List (Option XI.Cl), XI.HdsT X hds l ∧
    ∀ (α : List Addr) (δ δ0 : PL.Env) (S : PL.Sto) (σ : L2.St) (H H0 : Hp) (x : PL.Exn) (r : PL.RS) (Wout : WX) (α0 : List Addr) (cls : Value) (dd : Option Addr), PL.hdsRun fn x δ S hs = some r → Ext α0 H0 α H → Rel X.K α δ S σ H → RX G X.K α H cls dd x →
      (r = .ex x δ S → Wout cls dd σ H) → XI.wTry X.K Wout (endsOf X α0 H0 r) l cls dd σ H := by
  induction h with
  | nil =>
    refine ⟨[], .nil, fun α δ δ0 S σ H H0 x r Wout α0 cls dd hr _ _ _ w => ?_⟩
    cases hr
    exact w rfl
  | never =>
    refine ⟨[none], .never, fun α δ δ0 S σ H H0 x r Wout α0 cls dd hr _ _ _ w => ?_⟩
    cases hr
  | @bare x C b₀ suite np pos' hds l tk ms hm ht hsu r hg hdb ih =>
    obtain ⟨l', hl, ih⟩ := ih
    refine ⟨some ⟨.ref C, none, tsOf G X (fun _ _ => ms) tk⟩ :: l', .bare ⟨hg, hdb, .inl hm⟩ (fun a oe cls d pn hz hf => ?_) hl, fun α δ δ0 S σ H H0 x r Wout α0 cls dd hr x0 R q w => ?_⟩
    · refine ⟨fun pins s σ H D I ⟨dd, n, e1, e2, e3, z⟩ => ?_⟩
      exact (CSs.pss (X := X.suite a ((a, oe) :: pn)) (hsu a oe pn) (W := fun _ _ _ _ => False) takes_none5).run pins s σ H D I z
    · unfold PL.hdsRun at hr
      dsimp only at hr
      obtain ⟨rfl, d, v, rfl, hd, rd⟩ := q
      cases hb : PL.lkB tk x.cls with
      | none => rw [hb] at hr; cases hr
      | some b =>
        have hx := ht.get hb
        rw [Nat.zero_add] at hx
        rw [hb] at hr
        refine ⟨b, hx, fun hbt a na => ?_, fun hbf => ?_⟩
        · subst hbt
          simp only [Option.bind_eq_some_iff] at hr
          obtain ⟨r0, hr0, hr1⟩ := hr
          obtain ⟨hq, rfl⟩ := if_inv hr1
          refine ⟨d, x.cls, rfl, rfl, hb, α, δ, S, r0, R, PL.mAll_some hr0 a d, ?_⟩
          cases r0 with
          | nx δ1 S1 => exact fun α1 σ1 H1 x1 R1 => ⟨α1, δ1, S1, rfl, x0.trans x1, R1⟩
          | bk δ1 S1 => exact fun α1 σ1 H1 x1 R1 => ⟨α1, δ1, S1, rfl, x0.trans x1, R1⟩
          | ct δ1 S1 => exact fun α1 σ1 H1 x1 R1 => ⟨α1, δ1, S1, rfl, x0.trans x1, R1⟩
          | rt d S1 => exact fun α1 H1 v x1 R1 rd => ⟨α1, d, S1, rfl, x0.trans x1, R1, rd⟩
          | ex y δ1 S1 => cases hq
        · subst hbf
          exact ih α δ δ0 S σ H H0 x r Wout α0 _ _ hr x0 R ⟨rfl, d, v, rfl, hd, rd⟩ w
  | @named x n i n₀ C b₀ suite np pos' hds l tk ms hm ht ho hsu r hN hi hln hg hdb ih =>
    obtain ⟨l', hl, ih⟩ := ih
    refine ⟨some ⟨.ref C, some i, tsOf G X ms tk⟩ :: l', .named ⟨hg, hdb, .inl hm⟩ hN hi hln (fun a oe cls d pn hz hf => ?_) hl, fun α δ δ0 S σ H H0 x r Wout α0 cls dd hr x0 R q w => ?_⟩
    · refine ⟨fun pins s σ H D I ⟨dd, n, e1, e2, e3, z⟩ => ?_⟩
      subst e1 e2
      have e4 := onlyB_ok ho e3
      rw [Nat.zero_add] at e4
      subst e4
      exact (CSs.pss (X := X.suite a ((a, oe) :: pn)) (hsu a oe dd pn hz hf) (W := fun _ _ _ _ => False) takes_none5).run pins s σ H D I z
    · unfold PL.hdsRun at hr
      dsimp only at hr
      obtain ⟨rfl, d, v, rfl, hd, rd⟩ := q
      cases hb : PL.lkB tk x.cls with
      | none => rw [hb] at hr; cases hr
      | some b =>
        have hx := ht.get hb
        rw [Nat.zero_add] at hx
        rw [hb] at hr
        refine ⟨b, hx, fun hbt a na => ?_, fun hbf => ?_⟩
        · subst hbt
          simp only [Option.bind_eq_some_iff] at hr
          obtain ⟨r0, hr0, hr1⟩ := hr
          obtain ⟨hq, rfl⟩ := if_inv hr1
          have hr2 := PL.mAll_some hr0 a d
          simp only [PL.Hd.run, Option.map_eq_some_iff] at hr2
          obtain ⟨r1, hr2, rfl⟩ := hr2
          have R1 : Rel X.K α (δ.set i (some (.exn a d (fn x.cls) x.val))) S (σ.set i (some (.ref a))) H := R.set (by simp only [RD]; exact ⟨trivial, v, by rw [← hfn]; exact hd, rd⟩) i
          refine ⟨d, x.cls, rfl, rfl, hb, α, _, S, r1, R1, hr2, ?_⟩
          cases r1 with
          | nx δ1 S1 => exact fun α1 σ1 H1 x1 R1 => ⟨α1, _, S1, rfl, x0.trans x1, R1.unset i⟩
          | bk δ1 S1 => exact fun α1 σ1 H1 x1 R1 => ⟨α1, _, S1, rfl, x0.trans x1, R1.unset i⟩
          | ct δ1 S1 => exact fun α1 σ1 H1 x1 R1 => ⟨α1, _, S1, rfl, x0.trans x1, R1.unset i⟩
          | rt d S1 => exact fun α1 H1 v x1 R1 rd => ⟨α1, d, S1, rfl, x0.trans x1, R1, rd⟩
          | ex y δ1 S1 => cases hq
        · subst hbf
          exact ih α δ δ0 S σ H H0 x r Wout α0 _ _ hr x0 R ⟨rfl, d, v, rfl, hd, rd⟩ w
/-- try: .. except ..: .. -/
theorem cs_try {h₀ : ExceptHandler} {hds : List ExceptHandler} {hs : List PL.Hd} {fn : Nat → String} {mb : PL.MS} (hX : Cz k X) (hfn : ∀ n, G.ef n = (fn n : Str)) (hb : ∀ (pn : List (Addr × Obj)) (xe : Value → Shared → Prop), Cz k (X.tr pn xe) → CSs G (X.tr pn xe) sts mb) (hh : HdsC G X (h₀ :: hds) hs)
    (h1 : X.stack = X.env :: X.outer := by rfl) (h2 : X.env.frame = some X.env.locals := by rfl) : CS G X (.Try sts (h₀ :: hds) [] [] pos) (PL.mTry fn mb hs) := ⟨fun δ S r hm α pins s σ H I R tk => by
  obtain ⟨l, hl, hw⟩ := hdsC_ok hfn hh
  have tk0 : Takes X (fun cls dd σ1 H1 => ∃ x δ1 S1, r = .ex x δ1 S1 ∧ WS G X α H x δ1 S1 cls dd σ1 H1) := by
    cases r with
    | ex x δ1 S1 => exact Takes.imp tk fun cls dd σ1 H1 ⟨_, _, _, e, w⟩ => by cases e; exact w
    | _ => exact Takes.imp (takes_none5 (X := X)) fun cls dd σ1 H1 ⟨_, _, _, e, w⟩ => by cases e
  refine thn ((XI.ps_try (X := X) (pos := pos) (tb := fun W => tOfS G X mb W) (Wout := fun cls dd σ1 H1 => ∃ x δ1 S1, r = .ex x δ1 S1 ∧ WS G X α H x δ1 S1 cls dd σ1 H1) h1 h2 tk0 (fun W pn xe tkW po => ?_) hl).run pins s σ H (endsOf X α H r) I ?_) fun f s1 hp => PoS.ofEnds hp
  · exact CSs.pss (X := X.tr pn xe) (hb pn xe ⟨hX.nd, hX.calm, hX.room, hX.gd, po⟩) tkW
  · unfold PL.mTry at hm
    cases c0 : mb δ S with
    | none => rw [c0] at hm; cases hm
    | some r0 =>
      rw [c0] at hm
      refine ⟨α, δ, S, r0, R, c0, ?_⟩
      cases r0 with
      | nx δ1 S1 => cases hm; exact fun α1 σ1 H1 x1 R1 => ⟨α1, δ1, S1, rfl, x1, R1⟩
      | bk δ1 S1 => cases hm; exact fun α1 σ1 H1 x1 R1 => ⟨α1, δ1, S1, rfl, x1, R1⟩
      | ct δ1 S1 => cases hm; exact fun α1 σ1 H1 x1 R1 => ⟨α1, δ1, S1, rfl, x1, R1⟩
      | rt d S1 => cases hm; exact fun α1 H1 v x1 R1 rd => ⟨α1, d, S1, rfl, x1, R1, rd⟩
      | ex x δ1 S1 =>
        intro cls dd σ1 H1 ⟨α1, x1, R1, q⟩
        exact hw α1 δ1 δ1 S1 σ1 H1 H x r _ α cls dd hm x1 R1 q fun e => ⟨x, δ1, S1, e, α1, x1, R1, q⟩⟩
/-- e.f in a suite, e the caught exception -/
theorem c_xf {a dd : Addr} {oe : Obj} {pn : List (Addr × Obj)} {n : Nat} {f : String} (T : XcOk G X.prog X.K n) (hz : Zc (.ref (G.ec n)) (some dd) oe) (hf : ∃ vs, oe.data = .fields vs) (he : CE G (X.suite a ((a, oe) :: pn)) e m) (hfe : G.ef n = (f : Str) := by rfl)
    (hb : attributeBase e f X.env (eval e X.env) = eval e X.env := by rfl) : CE G (X.suite a ((a, oe) :: pn)) (.Attribute e f pos) (PL.mUn (PL.opXF a dd f) m) := by
  refine CE.ofX (pe_xf (X := X) (cls := .ref (G.ec n)) (d := some dd) T.xf (by rw [← hfe]; exact T.noF) hz hf he.pe hb) fun δ S r hm α σ H R tk => ?_
  refine tOf.go R hm tk fun d S1 h1 α1 v H1 x1 R1 q1 tk1 => ?_
  obtain ⟨z, hz', rfl⟩ := map_inv h1
  unfold PL.opXF at hz'
  split at hz'
  · obtain ⟨⟨rfl, rfl, rfl⟩, rfl⟩ := if_inv hz'
    simp only [RD] at q1
    obtain ⟨rfl, w, hd, rd⟩ := q1
    exact ⟨rfl, rfl, _, _, w, rfl, hd, by simp, α1, x1, R1, rd⟩
  · cases hz'
theorem Cv.suite (hX : Cz k X) (a : Addr) (pn : List (Addr × Obj)) : Cv (X.suite a pn) := ⟨hX.nd, hX.v.un, hX.gd⟩
end
end BR

set_option Elab.async false
set_option linter.all false
set_option maxRecDepth 100000
set_option maxHeartbeats 2000000
/-! ## three stores at once -/
namespace BR
open PySem PySem.Spec PyProof.Rows L2
variable [Tbs]
section
variable {G : EX} {X : Cx} {α α' : List Addr} {δ : PL.Env} {S : PL.Sto} {σ : L2.St} {H H' : Hp} {pins : List (Addr × Obj)} {s : Shared}
variable {a b c e : Expr} {ma mb mc m : PL.ME} {pos : Pos} {k : Nat} {x y z : Str}
theorem mPar3_eq {i j l : Nat} : PL.mPar3 i j l ma mb mc δ S = PL.bAS δ (PL.mConsA ma (PL.mConsA mb (PL.mConsA mc PL.mNilA)) δ S) fun ds S1 => match ds with
    | [x, y, z] => some (.nx (((δ.set i (some x)).set j (some y)).set l (some z)) S1)
    | _ => none := by
  unfold PL.mPar3 PL.mConsA PL.mNilA
  cases h1 : ma δ S with
  | none => rfl
  | some r1 =>
    cases r1 with
    | ex _ _ => rfl
    | ok d1 S1 =>
      simp only [PL.bES_ok, PL.bEA_ok]
      cases h2 : mb δ S1 with
      | none => rfl
      | some r2 =>
        cases r2 with
        | ex _ _ => rfl
        | ok d2 S2 =>
          simp only [PL.bES_ok, PL.bEA_ok]
          cases h3 : mc δ S2 with
          | none => rfl
          | some r3 => cases r3 <;> rfl
theorem cs_par3 (hX : Cz k X) (i j l : Nat) {px py pz pt : Pos} {kt k2 pt2} (ha : CA G X [a, b, c] (PL.mConsA ma (PL.mConsA mb (PL.mConsA mc PL.mNilA)))) (hij : i ≠ j := by decide) (hil : i ≠ l := by decide) (hjl : j ≠ l := by decide) (hi : X.N[i]? = some x := by rfl) (hj : X.N[j]? = some y := by rfl) (hl : X.N[l]? = some z := by rfl)
    (hx : X.env.scope.names.lookup x = some .local := by rfl) (hy : X.env.scope.names.lookup y = some .local := by rfl) (hz : X.env.scope.names.lookup z = some .local := by rfl)
    (hw : swappedStores [.Tuple [.Name x px, .Name y py, .Name z pz] kt pt] (.Tuple [a, b, c] k2 pt2) X.env = pure (some [x, y, z]) := by rfl)
    (hs : swapsWithSole [.Tuple [.Name x px, .Name y py, .Name z pz] kt pt] (.Tuple [a, b, c] k2 pt2) pos.line X.env = pure false := by rfl) :
    CS G X (.Assign [.Tuple [.Name x px, .Name y py, .Name z pz] kt pt] (.Tuple [a, b, c] k2 pt2) pos) (PL.mPar3 i j l ma mb mc) := ⟨fun δ S r hm α pins s σ H I R tk => by
  rw [mPar3_eq] at hm
  rw [exec_Assign_arm]
  refine wpAny_bind (wpAny_standAt ?_)
  rw [hs]
  refine wpAny_bind (wpAny_pure ?_)
  rw [if_neg (by decide)]
  refine wpAny_bind (Tuple_ (ha.thenS _ I R hm tk fun ds S1 h1 α1 vs H1 us s1 I1 rv x1 R1 q1 tk1 => ?_))
  have e2 : ∃ d1 d2 d3, ds = [d1, d2, d3] ∧ r = .nx (((δ.set i (some d1)).set j (some d2)).set l (some d3)) S1 := by
    split at h1
    · cases h1; exact ⟨_, _, _, rfl, rfl⟩
    · cases h1
  obtain ⟨d1, d2, d3, e2, rfl⟩ := e2
  subst e2
  obtain ⟨v, w, t, rfl, qv, qw, qt⟩ : ∃ v w t, vs = [v, w, t] ∧ RD X.K α1 H1 d1 v ∧ RD X.K α1 H1 d2 w ∧ RD X.K α1 H1 d3 t := by
    simp only [RDs] at q1
    obtain ⟨v, r, rfl, q, w, r', rfl, q', t, r'', rfl, q'', rfl⟩ := q1
    exact ⟨v, w, t, rfl, q, q', q''⟩
  obtain ⟨u1, u2, u3, rfl, rv, rw', rt⟩ : ∃ u1 u2 u3, us = [u1, u2, u3] ∧ RelV v u1 ∧ RelV w u2 ∧ RelV t u3 := by
    cases rv with
    | cons p q =>
      cases q with
      | cons p' q' =>
        cases q' with
        | cons p'' q'' =>
          cases q''
          exact ⟨_, _, _, rfl, p, p', p''⟩
  refine wpAny_newObj_type ?_ (by show 3 ≤ sizeLine; decide)
  have I2 : Inv X pins σ H1 { s1 with heap := s1.heap.push { cls := .type "tuple", data := .seq [u1, u2, u3].toArray } } := I1.kept (t' := s1.toks) fun b o e => Heap.get?_push_of_some _ e
  rw [hw]
  refine wpAny_bind (wpAny_pure ?_)
  show wpAny (model X.prog X.w) X.A (do rule "assign.swapped-stores"; let items ← unpackItems (.ref s1.heap.objs.size) 3 none; assignInOrder [fun v => bindName X.env z v, fun v => bindName X.env y v, fun v => bindName X.env x v] items.reverse; pure Flow.next) _ _ _
  refine wpAny_bind (wpAny_rule (wpAny_bind (unpackItems_tuple (items := #[u1, u2, u3]) (I.ok.hd hX.calm) (IsTup.new s1.heap _) fun h' hx' => ?_)))
  have I3 := I2.kept (h' := h') (t' := s1.toks) fun b o e => hx' b o (Nat.ne_of_lt (Heap.lt_size e)) e
  show wpAny _ _ (assignInOrder [fun v => bindName X.env z v, fun v => bindName X.env y v, fun v => bindName X.env x v] [u3, u2, u1] >>= fun _ => pure Flow.next) _ _ _
  refine wpAny_bind (assignInOrder_cons (wpAny_bindName (store_ok I3 hX.nd hl (.inl hz) rt (fun s2 I4 => ?_) (.inr hz))))
  refine assignInOrder_cons (wpAny_bindName (store_ok I4 hX.nd hj (.inl hy) rw' (fun s3 I5 => ?_) (.inr hy)))
  refine assignInOrder_cons (wpAny_bindName (store_ok I5 hX.nd hi (.inl hx) rv (fun s4 I6 => assignInOrder_nil (wpAny_pure ?_)) (.inr hx)))
  have e3 : ((σ.set l (some t)).set j (some w)).set i (some v) = ((σ.set i (some v)).set j (some w)).set l (some t) := by
    rw [List.set_comm (l := σ.set l (some t)) (some w) (some v) (Ne.symm hij)]
    rw [List.set_comm (l := σ) (some t) (some v) (Ne.symm hil)]
    rw [List.set_comm (l := σ.set i (some v)) (some t) (some w) (Ne.symm hjl)]
  rw [e3] at I6
  exact PoS.nx I6 x1 (((R1.set qv i).set qw j).set qt l)⟩
end
end BR

set_option Elab.async false
set_option linter.all false
set_option maxRecDepth 100000
set_option maxHeartbeats 2000000
/-! ## in -/
namespace BR
open PySem PySem.Spec PyProof.Rows L2
variable [Tbs]
section
variable {G : EX} {X : Cx} {α α' : List Addr} {δ : PL.Env} {S : PL.Sto} {σ : L2.St} {H H' : Hp} {pins : List (Addr × Obj)} {s : Shared} {k : Nat}
theorem any_of {n m : Nat} {x : PL.D} (hx : x.okN n = true) : ∀ {xs : List PL.D}, PL.D.okNs xs m = true → (toPys xs).any (fun z => PyData.eqv z (toPy x)) = xs.any fun z => PL.eqD z x
  | [], _ => by simp [toPys]
  | y :: ys, h => by
    simp only [PL.D.okNs, Bool.and_eq_true] at h
    simp only [toPys, List.any_cons, any_of hx h.2, eqv_of h.1 hx]
theorem in_run (hX : Cz k X) {x y z : PL.D} {neg : Bool} (e : (if neg then PL.opNotIn x y else PL.opIn x y) = some z) {v w : V} {u1 u2 : Value} (I : Inv X pins σ H s) (R : Rel X.K α δ S σ H) (q1 : RD X.K α H x v) (q2 : RD X.K α H y w) (r1 : RelV v u1) (r2 : RelV w u2) :
    wpAny (model X.prog X.w) X.A (compareOp (if neg then .NotIn else .In) u1 u2) (PoE X pins α δ σ H (.ok z S)) X.xe s := by
  have hu : X.A.units + 65 < cLine := by have := hX.room.un; omega
  have fin : ∀ {b : Bool}, z = .bl b → PoE X pins α δ σ H (.ok z S) (.bool b) s := fun {b} e => by subst e; exact PoE.here (v := .bl b) I rfl R mk_bl
  cases y with
  | tup xs =>
    have e1 : x.ok = true ∧ (PL.D.tup xs).ok = true ∧ z = .bl (if neg then !(xs.any fun z => PL.eqD z x) else xs.any fun z => PL.eqD z x) := by
      cases neg
      · simp only [Bool.false_eq_true, if_false, PL.opIn] at e ⊢
        obtain ⟨h, rfl⟩ := if_inv e
        simp only [Bool.and_eq_true] at h
        exact ⟨h.1, h.2, rfl⟩
      · simp only [if_true, PL.opNotIn, PL.opIn] at e ⊢
        by_cases h : x.ok && (PL.D.tup xs).ok
        · rw [if_pos h] at e
          cases e
          simp only [Bool.and_eq_true] at h
          exact ⟨h.1, h.2, rfl⟩
        · rw [if_neg h] at e; cases e
    obtain ⟨o1, o2, rfl⟩ := e1
    obtain ⟨as, rr1⟩ := Dp.reads I _ v u1 (dp_of o1 q1) r1
    obtain ⟨bs, rr2⟩ := Dp.reads I _ w u2 (dp_of o2 q2) r2
    simp only [toPy] at rr2
    have so := shaped_of o2
    simp only [toPy] at so
    have hroom : X.A.units + 1 + min (PyData.depthAll (toPys xs)) (toPy x).depth < cLine := by
      have h1 := (lay_of o1).2
      have : min (PyData.depthAll (toPys xs)) (toPy x).depth ≤ 60 := Nat.le_trans (Nat.min_le_right _ _) h1
      have := hX.room.un
      omega
    have ol : PL.D.okNs xs 59 = true := by simpa [PL.D.okN] using o2
    have lx : PyData.canLayAll0 (toPys xs) = true := (lays_of ol).1
    have le : (toPy x).canLay0 = true := (lay_of o1).1
    cases neg
    · refine SeqAt.in_tuple_reads rr2 rr1 lx le hroom ?_
      rw [any_of o1 ol]
      exact fin rfl
    · refine SeqAt.notIn_tuple_reads rr2 rr1 lx le hroom ?_
      rw [any_of o1 ol]
      exact fin rfl
  | lst xs =>
    have e1 : x.ok = true ∧ (PL.D.lst xs).ok = true ∧ z = .bl (if neg then !(xs.any fun z => PL.eqD z x) else xs.any fun z => PL.eqD z x) := by
      cases neg
      · simp only [Bool.false_eq_true, if_false, PL.opIn] at e ⊢
        obtain ⟨h, rfl⟩ := if_inv e
        simp only [Bool.and_eq_true] at h
        exact ⟨h.1, h.2, rfl⟩
      · simp only [if_true, PL.opNotIn, PL.opIn] at e ⊢
        by_cases h : x.ok && (PL.D.lst xs).ok
        · rw [if_pos h] at e
          cases e
          simp only [Bool.and_eq_true] at h
          exact ⟨h.1, h.2, rfl⟩
        · rw [if_neg h] at e; cases e
    obtain ⟨o1, o2, rfl⟩ := e1
    obtain ⟨as, rr1⟩ := Dp.reads I _ v u1 (dp_of o1 q1) r1
    obtain ⟨bs, rr2⟩ := Dp.reads I _ w u2 (dp_of o2 q2) r2
    simp only [toPy] at rr2
    have hroom : X.A.units + 1 + min (PyData.depthAll (toPys xs)) (toPy x).depth < cLine := by
      have h1 := (lay_of o1).2
      have : min (PyData.depthAll (toPys xs)) (toPy x).depth ≤ 60 := Nat.le_trans (Nat.min_le_right _ _) h1
      have := hX.room.un
      omega
    have ol : PL.D.okNs xs 59 = true := by simpa [PL.D.okN] using o2
    have lx : PyData.canLayAll0 (toPys xs) = true := (lays_of ol).1
    have le : (toPy x).canLay0 = true := (lay_of o1).1
    cases neg
    · refine SeqAt.in_list_reads rr2 rr1 lx le hroom ?_
      rw [any_of o1 ol]
      exact fin rfl
    · refine SeqAt.notIn_list_reads rr2 rr1 lx le hroom ?_
      rw [any_of o1 ol]
      exact fin rfl
  | str l =>
    have e1 : ∃ c, x = .str [c] ∧ z = .bl (if neg then !decide (c ∈ l) else decide (c ∈ l)) := by
      cases neg
      · simp only [Bool.false_eq_true, if_false, PL.opIn] at e ⊢
        split at e
        · cases e; exact ⟨_, rfl, rfl⟩
        · cases e
      · simp only [if_true, PL.opNotIn, PL.opIn] at e ⊢
        split at e
        · cases e; exact ⟨_, rfl, rfl⟩
        · cases e
    obtain ⟨c, rfl, rfl⟩ := e1
    obtain ⟨t1, rfl, h1⟩ := rd_str q1
    obtain ⟨t2, rfl, h2⟩ := rd_str q2
    have et : t1 = ⟨#[c]⟩ := by
      obtain ⟨⟨a⟩⟩ := t1
      simp only at h1
      subst h1
      rfl
    subst et
    cases neg
    · refine thn (op_in_sign pins s σ H _ _ u1 u2 (fun w' H1 => w' = .bl (decide (c ∈ l)) ∧ H1 = H) I r1 r2 ⟨c, t2, rfl, rfl, by rw [h2], rfl⟩) fun u s1 h => ?_
      obtain ⟨w', H1, I1, rw', rfl, rfl⟩ := h
      exact PoE.here I1 rw' R mk_bl
    · refine thn (op_notIn_sign pins s σ H _ _ u1 u2 (fun w' H1 => w' = .bl (!decide (c ∈ l)) ∧ H1 = H) I r1 r2 ⟨c, t2, rfl, rfl, by rw [h2], rfl⟩) fun u s1 h => ?_
      obtain ⟨w', H1, I1, rw', rfl, rfl⟩ := h
      exact PoE.here I1 rw' R mk_bl
  | _ => cases neg <;> simp [PL.opNotIn, PL.opIn] at e
theorem d_in (hX : Cz k X) : OpD X (compareOp .In) PL.opIn := fun x y z e α δ S pins s σ H v w u1 u2 I R q1 q2 r1 r2 => in_run (neg := false) hX e I R q1 q2 r1 r2
theorem d_notin (hX : Cz k X) : OpD X (compareOp .NotIn) PL.opNotIn := fun x y z e α δ S pins s σ H v w u1 u2 I R q1 q2 r1 r2 => in_run (neg := true) hX e I R q1 q2 r1 r2
theorem nonD_iff {x : PL.D} {v : V} (q : RD X.K α H x v) : decide (v = V.non) = PL.nonD x := by
  cases x with
  | non => have := rd_non q; subst this; rfl
  | bl b => have := rd_bl q; subst this; rfl
  | int i => have := rd_int q; subst this; rfl
  | str l => obtain ⟨t, rfl, _⟩ := rd_str q; rfl
  | tup l => obtain ⟨t, vs, rfl, _⟩ := rd_tup q; rfl
  | lst l => obtain ⟨t, o, vs, rfl, _⟩ := rd_lst q; rfl
  | ref n => obtain ⟨t, _, rfl⟩ := rd_ref q; rfl
  | adr n => simp only [RD] at q; subst q; rfl
  | emp => simp only [RD] at q; obtain ⟨_, _, rfl, _⟩ := q; rfl
  | exn a d f x => simp only [RD] at q; obtain ⟨rfl, _⟩ := q; rfl
theorem d_isN : OpD X (compareOp .Is) PL.opIsN := .of op_isN fun x y z e α δ S σ H v w R q1 q2 => by
  cases y <;> simp only [PL.opIsN] at e <;> cases e
  exact ⟨rd_non q2, by rw [nonD_iff q1]; exact PoV.here R mk_bl⟩
theorem d_isnotN : OpD X (compareOp .IsNot) PL.opIsNotN := .of op_notN fun x y z e α δ S σ H v w R q1 q2 => by
  cases y <;> simp only [PL.opIsNotN] at e <;> cases e
  exact ⟨rd_non q2, by rw [nonD_iff q1]; exact PoV.here R mk_bl⟩
end
/-- a class's __init__ -/
def clsInit (s : Stmt) : Stmt := match s with
  | .ClassDef _ _ _ body _ _ _ _ _ _ _ => body.headD s
  | s => s
end BR

set_option Elab.async false
set_option linter.all false
set_option maxRecDepth 100000
set_option maxHeartbeats 2000000
/-! ## a lambda handed to a def -/
namespace BR
open PySem PySem.Spec PyProof.Rows L2
variable [Tbs]
/-- what the making of a lambda does to the abstract heap -/
inductive Mk (H : Hp) : Hp → Prop
  | same : Mk H H
  | new {P c' : Addr} {q : Str} {ps more : Array Value} (hP : H P = some (.tbl ps)) (hc : H c' = none) : Mk H (upd (upd H P (.tbl (ps ++ more))) c' (LamX.CodeO c' q))
theorem Mk.keep {H H1 : Hp} (m : Mk H H1) {b : Addr} {o : HO} (e : H b = some o) (n : ∀ ps, o ≠ .tbl ps) : H1 b = some o := by
  cases m with
  | same => exact e
  | @new P c' q ps more hP hc => rw [upd_ne (ne_of_none e hc), upd_ne (fun z => by rw [z, hP] at e; cases e; exact n _ rfl)]; exact e
theorem Mk.there {H H1 : Hp} (m : Mk H H1) {b : Addr} (e : H b ≠ none) : H1 b ≠ none := by
  cases m with
  | same => exact e
  | @new P c' q ps more hP hc =>
    by_cases h1 : b = c'
    · rw [h1, upd_same]; exact fun z => by cases z
    · rw [upd_ne h1]
      by_cases h2 : b = P
      · rw [h2, upd_same]; exact fun z => by cases z
      · rw [upd_ne h2]; exact e
theorem Mk.le {H H1 : Hp} (m : Mk H H1) : Le H H1 := fun a o e p => m.keep e fun ps z => by rw [z] at p; exact p
theorem Mk.own {H H1 : Hp} (m : Mk H H1) {b : Addr} {kvs : List (Key × V)} (e : H1 b = some (.dK kvs)) : H b = some (.dK kvs) := by
  cases m with
  | same => exact e
  | @new P c' q ps more hP hc =>
    by_cases h1 : b = c'
    · rw [h1, upd_same] at e; unfold LamX.CodeO at e; cases e
    · rw [upd_ne h1] at e
      by_cases h2 : b = P
      · rw [h2, upd_same] at e; cases e
      · rw [upd_ne h2] at e; exact e
theorem Mk.ext {α : List Addr} {H H1 : Hp} (m : Mk H H1) : Ext α H α H1 := by
  refine ⟨List.prefix_refl _, m.le, fun a h => ?_, fun a o e _ nt => m.keep e nt, fun a e => m.there e⟩
  rcases h with h | ⟨d, hd, c, n, e⟩
  · exact .inl (.inl h)
  · exact .inl (.inr ⟨d, hd, c, n, m.own e⟩)
section
variable {K : PySem.W.Frag} {α : List Addr} {S : PL.Sto} {H H1 : Hp}
theorem MOk.made {a : Addr} {b : List Addr} {o : PL.MO} (k : Mk H H1) (h : MOk K α H a b o) : MOk K α H1 a b o := by
  cases o with
  | dead => obtain ⟨⟨o, u, e⟩, z⟩ := h; exact ⟨⟨o, u, k.keep e (fun _ z => by cases z)⟩, z⟩
  | lst ds => obtain ⟨⟨vs, e, r⟩, p⟩ := h; exact ⟨⟨vs, k.keep e (fun _ z => by cases z), r.mono0 (List.prefix_refl _) k.le⟩, p⟩
  | law cs n ls => obtain ⟨c, o, l, e1, e2, e3, e4⟩ := h; exact ⟨c, o, l, k.keep e1 (fun _ z => by cases z), FzL.le k.le e2, k.keep e3 (fun _ z => by cases z), e4⟩
theorem RSt.made (R : RSt K α S H) (k : Mk H H1) (t : LamX.Tabs Tbs.T H1) : RSt K α S H1 := by
  refine ⟨?_, t, Tbs.st _ _ _ _ (List.prefix_refl _) k.le R.m⟩
  obtain ⟨β, h1, h2, nd, hb, ob⟩ := R.b
  refine ⟨β, h1, h2, nd, fun b hm => k.there (hb b hm), fun n o e => ?_⟩
  obtain ⟨a, b, e1, e2, m⟩ := ob n o e
  exact ⟨a, b, e1, e2, m.made k⟩
end
section
variable {X : Cx} {pins : List (Addr × Obj)} {σ : L2.St} {H : Hp} {s : Shared}
/-- the object of a lambda -/
abbrev lamObj (qual : Str) (params : Arguments) (body : Expr) (scope : Scope) (clos : List (Str × Addr)) (dV doc pm : Value) (c' : Addr) (ctv : Value) : Obj := PySem.W.kdv_obj "<lambda>" qual params (.expr body) scope clos dV doc pm c' ctv
theorem lam_mk {T : List (Addr × Str)} {c P : Addr} {params : Arguments} {body : Expr} {scope : Scope} {pos : Pos} {E : Value → Shared → Prop} {Q : Value → Shared → Prop} {dV : Value} (I : Inv X pins σ H s) (TB : LamX.TabB X.base X.mg c P) (hcode : X.env.code = .ref c)
    (hm : (P, X.env.qual ++ "<lambda>") ∈ T) (hu : ∀ p ∈ T, p.1 = P → p.2 = X.env.qual ++ "<lambda>") (hT : LamX.Tabs T H) (hfree : ∀ y ∈ scope.names, y.2 = .free → ∃ c, X.env.cells.lookup y.1 = some c)
    (h : ∀ (f c' : Addr) (doc pm ctv : Value) (H1 : Hp) (s' : Shared), Inv X pins σ H1 s' → Mk H H1 → LamX.Tabs T H1 → (∀ b o, (∀ ps, H b ≠ some (.tbl ps)) → s.heap.get? b = some o → s'.heap.get? b = some o) → (∀ b, b < s.heap.objs.size → H b = none → H1 b = none) →
      s'.heap.get? f = some (lamObj (X.env.qual ++ "<lambda>") params body scope (cloFrom X.env.cells scope.names []) dV doc pm c' ctv) → H1 f = none → f ∉ frs X.stack → H1 c' = some (LamX.CodeO c' (X.env.qual ++ "<lambda>")) → Q (.ref f) s') :
    wpAny (model X.prog X.w) X.A (makeTail "<lambda>" (X.env.qual ++ "<lambda>") params (.expr body) scope X.env dV .none none pos pos.line) Q E s := by
  obtain ⟨ps, hP, ht, ha⟩ := hT _ hm
  have bP : s.heap.BuiltinsAt X.mg P := TB.bm.keeps I.bk
  have hP' : s.heap.get? P = some { cls := .none, data := .fields ps } := I.hok P _ hP
  have nofr : ∀ f, s.heap.objs.size ≤ f → f ∉ frs X.stack := fun f hf z => by
    rcases List.mem_cons.mp (I.stkSub _ z) with e | e
    · have h1 := I.lt
      rw [← e] at h1
      exact Nat.lt_irrefl _ (Nat.lt_of_lt_of_le h1 hf)
    · exact I.nofs hf e
  cases hc : codeAmong pos ps.toList with
  | none =>
    refine PySem.W.kdv_makeTail (mg := X.mg) (c := c) (P := P) (ps := ps) (L2.closure_ok hfree) I.ok.glob (I.mod.glob.keeps I.bk) hcode (TB.code.keeps I.bk) hP' ht hc TB.gP bP fun c' ctv doc h' tk hx hge hlt hrec htb => ?_
    obtain ⟨c2, oc, vs, t, e2, hoc, hd, hv⟩ := hrec
    cases e2
    have hsz : s.heap.objs.size ≤ h'.objs.size := Nat.le_trans hge (Nat.le_of_lt hlt)
    have nC : H c' = none := I.hok.fresh hge
    have I1 := LamX.inv_table (t' := tk) (more := #[rawInt pos.line, rawInt pos.col, .ref c']) (h' := h'.push (lamObj (X.env.qual ++ "<lambda>") params body scope (cloFrom X.env.cells scope.names []) dV doc ((X.mg "__name__").getD .none) c' ctv)) I hP
      (fun b o hb e => Heap.get?_push_of_some _ (hx b o hb e)) (Heap.get?_push_of_some _ htb) hge ⟨oc, vs, t, Heap.get?_push_of_some _ hoc, hd, hv⟩
    have mk : Mk H (upd (upd H P (.tbl (ps ++ #[rawInt pos.line, rawInt pos.col, .ref c']))) c' (LamX.CodeO c' (X.env.qual ++ "<lambda>"))) := .new hP nC
    have eL : (ps ++ #[rawInt pos.line, rawInt pos.col, .ref c']).toList = ps.toList ++ [rawInt pos.line, rawInt pos.col, .ref c'] := by simp
    refine h h'.objs.size c' doc ((X.mg "__name__").getD .none) ctv _ _ I1 mk (fun p hp => ?_) (fun b o nb e => Heap.get?_push_of_some _ (hx b o (fun z => nb ps (by rw [z]; exact hP)) e)) (fun b lt e => by rw [upd_ne (Nat.ne_of_lt (Nat.lt_of_lt_of_le lt hge)), upd_ne (fun z => by rw [z, hP] at e; cases e)]; exact e) (Heap.get?_push_size _ rfl) ?_ (nofr _ hsz) upd_same
    · by_cases hb : p.1 = P
      · rw [hu p hp hb, hb]
        refine ⟨_, by rw [upd_ne (ne_of_none hP nC), upd_same], by rw [eL]; exact PySem.TriplesOk_snoc _ _ _ _ ht, fun p' cv hcv => ?_⟩
        rw [eL] at hcv
        rcases LamX.among_app _ ht hcv with z | z
        · obtain ⟨c0, e1, e2⟩ := ha p' cv z
          exact ⟨c0, e1, mk.keep e2 LamX.codeO_ne⟩
        · exact ⟨c', z, upd_same⟩
      · obtain ⟨ps', a1, a2, a3⟩ := hT p hp
        refine ⟨ps', by rw [upd_ne (ne_of_none a1 nC), upd_ne hb]; exact a1, a2, fun p' cv hcv => ?_⟩
        obtain ⟨c0, e1, e2⟩ := a3 p' cv hcv
        exact ⟨c0, e1, mk.keep e2 LamX.codeO_ne⟩
    · have n1 : h'.objs.size ≠ c' := Nat.ne_of_gt hlt
      have n2 : h'.objs.size ≠ P := Nat.ne_of_gt (Nat.lt_of_lt_of_le (Heap.lt_size hP') hsz)
      rw [upd_ne n1, upd_ne n2]
      exact I.hok.fresh hsz
  | some cv =>
    obtain ⟨c', e, hco⟩ := ha pos cv hc
    subst e
    refine PySem.W.kdv_makeTailHit (mg := X.mg) (c := c) (P := P) (ps := ps) (L2.closure_ok hfree) I.ok.glob (I.mod.glob.keeps I.bk) hcode (TB.code.keeps I.bk) hP' ht hc bP fun ctv doc h' tk hx hsz => ?_
    have I1 : Inv X pins σ H { s with heap := h'.push (lamObj (X.env.qual ++ "<lambda>") params body scope (cloFrom X.env.cells scope.names []) dV doc ((X.mg "__name__").getD .none) c' ctv), toks := tk } := I.kept fun b o e => Heap.get?_push_of_some _ (hx b o e)
    exact h h'.objs.size c' doc ((X.mg "__name__").getD .none) ctv H _ I1 .same hT (fun b o _ e => Heap.get?_push_of_some _ (hx b o e)) (fun _ _ e => e) (Heap.get?_push_size _ rfl) (I.hok.fresh hsz) (nofr _ hsz) hco
end
/-! ### the lambda's names -/
/-- names of its own: parameters with defaults, none a name of the maker -/
structure LamD (N : List Str) (sc scope : Scope) : Prop where
  kind : scope.kind = .function
  co : scope.isCoroutine = false
  gen : scope.isGenerator = false
  own : ∀ y ∈ scope.names, y.2 ≠ .cell ∧ (y.2 = .local → y.1 ∉ N)
  free : ∀ y ∈ scope.names, y.2 = .free → sc.names.lookup y.1 = some .cell ∨ sc.names.lookup y.1 = some .free
def lamDB (N : List Str) (sc scope : Scope) : Bool :=
  decide (scope.kind = .function) && !scope.isCoroutine && !scope.isGenerator && scope.names.all fun y => !decide (y.2 = .cell) && (!decide (y.2 = .local) || !decide (y.1 ∈ N)) && (!decide (y.2 = .free) || decide (sc.names.lookup y.1 = some .cell) || decide (sc.names.lookup y.1 = some .free))
theorem lamD_by {N : List Str} {sc scope : Scope} (h : lamDB N sc scope = true) : LamD N sc scope := by
  unfold lamDB at h
  simp only [Bool.and_eq_true, Bool.or_eq_true, Bool.not_eq_true', decide_eq_true_eq, decide_eq_false_iff_not, List.all_eq_true] at h
  obtain ⟨⟨⟨h1, h2⟩, h3⟩, h4⟩ := h
  refine ⟨h1, h2, h3, fun y hy => ⟨(h4 y hy).1.1, fun e => ?_⟩, fun y hy e => ?_⟩
  · rcases (h4 y hy).1.2 with z | z
    · exact absurd e z
    · exact z
  · rcases (h4 y hy).2 with (z | z) | z
    · exact absurd e z
    · exact .inl z
    · exact .inr z
theorem LamD.has {X : Cx} {scope : Scope} (L : LamD X.N X.env.scope scope) (ok : X.Ok) : ∀ y ∈ scope.names, y.2 = .free → ∃ c, X.env.cells.lookup y.1 = some c := fun y hy e => by
  rcases L.free y hy e with k | k
  · exact ok.has _ (.inl k)
  · exact ok.has _ (.inr k)
section
variable {X : Cx} {pins : List (Addr × Obj)} {σ : L2.St} {H HZ : Hp} {s s1 : Shared}
theorem lam_start3 {A : Around} {outer : List Env} {E : XK} {scope : Scope} {f c' : Addr} {h₁ : Heap} {tk : Nat} {m1 : Str → Option Value} (I : Inv X pins σ H s) (L : LamD X.N X.env.scope scope) (e0 : Env0 X.prog X.w X.K X.mg X.base A outer s1 HZ) (hd : A.handled = none)
    (un : Un (frs X.stack) [] H HZ s.heap s1.heap) (hns : h₁.Ns s1.heap.objs.size m1) (kp : ∀ b o, s1.heap.get? b = some o → h₁.get? b = some o) :
    Inv (LamX.lamCx X A outer s1 HZ E scope f c') [] σ HZ { s1 with heap := h₁, toks := tk } := by
  have hfree := L.has I.ok
  have cm : ∀ {y c}, (cloFrom X.env.cells scope.names []).lookup y = some c → X.env.cells.lookup y = some c := fun {y c} e => by
    rcases cloFrom_mem (PySem.mem_of_lookup e) with hm | ⟨h1, h2⟩
    · cases hm
    · obtain ⟨c1, hc⟩ := hfree _ h1 rfl
      have hc : X.env.cells.lookup y = some c1 := hc
      have e2 : c = c1 := by
        rw [h2, hc] <;> rfl
      rw [e2]
      exact hc
  have look : ∀ {y}, scope.names.lookup y = some .free → ∃ c, (cloFrom X.env.cells scope.names []).lookup y = some c := fun {y} hl => by
    have hy : (y, NameKind.free) ∈ scope.names := PySem.mem_of_lookup hl
    exact L2.mem_lookup (cloFrom_has (cells := X.env.cells) (acc := []) hy)
  have cellK : ∀ {c : Addr} {v : Option Value}, H c = none → s.heap.IsCell c v → h₁.IsCell c v := fun {c v} n ⟨o, ho, hd⟩ => by
    obtain ⟨sl, q⟩ := un.any ho n (by simp)
    exact ⟨_, kp _ _ q, hd⟩
  have noA : ∀ b : Addr, b ∉ (LamX.lamCx X A outer s1 HZ E scope f c').ex := fun b z => absurd (show b ∈ ([] : List Addr) from z) (by simp)
  refine ⟨⟨e0.mod, L.kind, rfl, rfl, Nat.le_refl _, fun y z c e1 e2 => I.ok.inj y z c (cm e1) (cm e2), fun y hy => ?_, fun y c z _ => ?_, fun _ => hd, Around.frames_deeper e0.frames, .inr ⟨rfl, rfl⟩, fun b z => absurd z (noA b), e0.bs, e0.bsz, fun b _ _ => noA b,
      fun b z => absurd z (noA b), e0.funs, e0.frf⟩,
    rfl, e0.bare, Un.kept kp, ⟨_, hns, fun i y v e1 e2 e3 => ?_⟩, fun y c e => ?_, e0.hok.fresh (Nat.le_refl _), fun y c e => ?_, fun q hq => absurd (show q ∈ ([] : List (Addr × Obj)) ++ [] from hq) (by simp), e0.hok.kept kp, I.len⟩
  · have hy : scope.names.lookup y = some .cell ∨ scope.names.lookup y = some .free := hy
    rcases hy with hy | hy
    · exact absurd rfl (L.own _ (PySem.mem_of_lookup hy)).1
    · exact look hy
  · have z : false = true := z
    cases z
  · have e3 : Vis scope y := e3
    rcases e3 with k | k | k
    · exact absurd (List.mem_of_getElem? e1) ((L.own _ (PySem.mem_of_lookup k)).2 rfl)
    · exact absurd rfl (L.own _ (PySem.mem_of_lookup k)).1
    · obtain ⟨m, hn, hl⟩ := I.loc
      have hvis : Vis X.env.scope y := (L.free _ (PySem.mem_of_lookup k) rfl).elim (fun k => .inr (.inl k)) (fun k => .inr (.inr k))
      obtain ⟨w', r, q⟩ := hl i y v e1 e2 hvis
      obtain ⟨c2, h2⟩ := look k
      refine ⟨w', r, .inr ⟨.inr k, c2, h2, ?_⟩⟩
      have c1 := cm h2
      rcases q with ⟨k', _⟩ | ⟨_, c3, e', z⟩
      · have k' : X.env.scope.names.lookup y = some .local := k'
        rcases L.free _ (PySem.mem_of_lookup k) rfl with k2 | k2 <;> rw [show X.env.scope.names.lookup y = _ from k2] at k' <;> cases k'
      · rw [c1] at e'
        cases e'
        exact cellK (I.freeC y _ c1) z
  · obtain ⟨w', z⟩ := I.cell y c (cm e)
    exact ⟨w', cellK (I.freeC y c (cm e)) z⟩
  · obtain ⟨v, o, ho, hd⟩ := I.cell y c (cm e)
    exact un.free c o ho (I.freeC y c (cm e)) (by simp)
end
/-- what holds all along, and that α0, H0 are behind us -/
@[reducible] def Tbs.more (T : Tbs) (α0 : List Addr) (H0 : Hp) : Tbs := ⟨T.T, fun α H => T.amb α H ∧ α0 <+: α ∧ Le H0 H, fun α H α' H' p l h => ⟨T.st α H α' H' p l h.1, h.2.1.trans p, h.2.2.trans l⟩⟩
section
variable {G : EX} {X : Cx} {pins : List (Addr × Obj)} {σ : L2.St} {H : Hp} {s : Shared} {α0 : List Addr} {δ0 : PL.Env} {S0 : PL.Sto}
theorem rst_less {T : Tbs} {K : PySem.W.Frag} {α : List Addr} {S : PL.Sto} {HZ : Hp} (R : @RSt (T.more α0 H) K α S HZ) : @RSt T K α S HZ ∧ α0 <+: α ∧ Le H HZ := ⟨@RSt.mk T _ _ _ _ (@RSt.b (T.more α0 H) _ _ _ _ R) (@RSt.t (T.more α0 H) _ _ _ _ R) (@RSt.m (T.more α0 H) _ _ _ _ R).1, (@RSt.m (T.more α0 H) _ _ _ _ R).2⟩
theorem rst_more {T : Tbs} {K : PySem.W.Frag} {α : List Addr} {S : PL.Sto} {HZ : Hp} (R : @RSt T K α S HZ) (p : α0 <+: α) (l : Le H HZ) : @RSt (T.more α0 H) K α S HZ := @RSt.mk (T.more α0 H) _ _ _ _ (@RSt.b T _ _ _ _ R) (@RSt.t T _ _ _ _ R) ⟨@RSt.m T _ _ _ _ R, p, l⟩
theorem rel_st (T : Tbs) {K : PySem.W.Frag} {α : List Addr} {δ : PL.Env} {S : PL.Sto} {σ : L2.St} {H : Hp} (R : @Rel T K α δ S σ H) : @RSt T K α S H := @Rel.st T _ _ _ _ _ _ R
theorem rel_loc (T : Tbs) {K : PySem.W.Frag} {α : List Addr} {δ : PL.Env} {S : PL.Sto} {σ : L2.St} {H : Hp} (R : @Rel T K α δ S σ H) (i : Nat) (d : PL.D) (h : δ[i]? = some (some d)) : ∃ v, σ[i]? = some (some v) ∧ RD K α H d v := @Rel.loc T _ _ _ _ _ _ R i d h
theorem rel_mono (T : Tbs) {K : PySem.W.Frag} {α α' : List Addr} {δ : PL.Env} {S S' : PL.Sto} {σ : L2.St} {H H' : Hp} (R : @Rel T K α δ S σ H) (x : Ext α H α' H') (h : @RSt T K α' S' H') : @Rel T K α' δ S' σ H' := @Rel.mono T _ _ _ _ _ _ _ _ _ R x h
/-- call(), in the def that got the lambda -/
theorem ce_act {CXg : CXT} {Eg : XK} {Ng : List Str} {qg : Str} {sg : Scope} {g f c' : Addr} {cdg dV doc pm ctv : Value} {params : Arguments} {body : Expr} {me : PL.ME} {scope : Scope} {k i : Nat} {a : Str} {pn : List (Addr × Obj)} {xe : Value → Shared → Prop} {p1 p2 : Pos}
    (I : Inv X pins σ H s) (R : Rel X.K α0 δ0 S0 σ H) (L : LamD X.N X.env.scope scope)
    (hf : s.heap.get? f = some (lamObj (X.env.qual ++ "<lambda>") params body scope (cloFrom X.env.cells scope.names []) dV doc pm c' ctv)) (hfn : H f = none) (hfr : f ∉ frs X.stack) (hco : H c' = some (LamX.CodeO c' (X.env.qual ++ "<lambda>")))
    (hbind : ∀ s1 : Shared, (∀ b o, s.heap.get? b = some o → H b = none → b ∉ frs X.stack → s1.heap.get? b = some o) →
      ∃ bs, BindsTo s1 (PySem.W.kdv_fn "<lambda>" (X.env.qual ++ "<lambda>") params (.expr body) scope (cloFrom X.env.cells scope.names []) dV doc pm (.ref c') ctv) ⟨[], []⟩ bs ∧ ∀ y ∈ bs, scope.names.lookup y.1 = some .local)
    (hr : Room (k + 1) (X.A.deeper (envOfC qg sg s.heap.objs.size g cdg))) (hgd : X.A.guards = some []) (hnd : X.N.Nodup)
    (hbody : ∀ (A : Around) (outer : List Env) (s : Shared) (H : Hp) (E : XK), Cz k (LamX.lamCx X A outer s H E scope f c') → CE G (LamX.lamCx X A outer s H E scope f c') body me)
    (hN : Ng[i]? = some a) (hv : Vis sg a) (hd : (a == ("__debug__" : Str)) = false := by decide) (hcd : (a == ("__classdict__" : Str)) = false := by decide) :
    @CE (Tbs.more ‹Tbs› α0 H) G ((cxOf CXg X.prog X.w X.K X.mg X.base Ng qg sg g cdg X.A X.stack s H Eg).tr pn xe) (.Call (.Name a p1) [] [] p2) (PL.mThunk (PL.thunkOf me δ0 f) i) := by
  rename_i T0
  refine @CE.mk (Tbs.more T0 α0 H) G _ _ _ fun δ S r hm α pinsZ sZ σZ HZ IZ RZ tk => ?_
  have hs : δ[i]? = some (some (.adr f)) ∧ me δ0 S = some r := by
    unfold PL.mThunk at hm
    split at hm
    · rename_i d e
      unfold PL.thunkOf at hm
      split at hm
      · rename_i g'
        split at hm
        · rename_i q; subst q; exact ⟨e, hm⟩
        · cases hm
      · cases hm
    · cases hm
  obtain ⟨hs, hme⟩ := hs
  obtain ⟨v0, hs0, rd0⟩ := rel_loc _ RZ i _ hs
  simp only [RD] at rd0
  subst rd0
  obtain ⟨RS, pre, le⟩ := rst_less (rel_st _ RZ)
  have hc : HZ c' = some (LamX.CodeO c' (X.env.qual ++ "<lambda>")) := le _ _ hco (by unfold LamX.CodeO; exact trivial)
  refine wpAny_Call_Name_kw (thn ((pe_var (pos := p1) (i := i) hN hv hd hcd).run pinsZ sZ σZ HZ (fun v H1 => v = .ref f ∧ H1 = HZ) IZ ⟨.ref f, hs0, rfl, rfl⟩) fun u s1 ⟨v, H1, I1, r1, q1⟩ => ?_)
  obtain ⟨ev, eH⟩ := q1
  subst ev
  rw [eH] at I1
  obtain rfl : u = Value.ref f := r1
  have kept : ∀ b o, s.heap.get? b = some o → H b = none → b ∉ frs X.stack → s1.heap.get? b = some o := fun b o e n nf => I1.base.keep b _ e n nf (fun z => nomatch (show b ∈ ([] : List Addr) from z))
  have of1 := kept f _ hf hfn hfr
  refine PySem.W.callWith_F0 ⟨_, _, _, _, of1⟩ ?_
  have un : Un (frs X.stack) [] H HZ s.heap s1.heap := I1.base
  obtain ⟨⟨oc, vs, t, hoc, hdc, hvc⟩, _, _⟩ := I1.hok c' _ hc
  obtain ⟨bs, hbs, hbl⟩ := hbind s1 kept
  have RelB : @Rel T0 X.K α δ0 S σ HZ := ⟨RS, R.len, fun j d e => by
    obtain ⟨v, e1, q⟩ := R.loc j d e
    exact ⟨v, e1, q.mono0 pre le⟩⟩
  -- the call, what is wanted behind it, what may come out
  have core : ∀ (Q : VK) (E : XK), (∀ (A : Around) (outer : List Env) (s : Shared) (H : Hp), A.guards = some [] → Takes (LamX.lamCx X A outer s H E scope f c') (fun cls d _ H' => E cls d H') → TkE G (LamX.lamCx X A outer s H E scope f c') α σ HZ r) →
      (∀ (Y : Cx) (s' : Shared) (u : Value), Y.K = X.K → PoE Y [] α δ0 σ HZ r u s' → ∃ v H', Inv Y [] σ H' s' ∧ RelV v u ∧ Q v H') →
      codeAny (model X.prog X.w) (X.A.deeper (envOfC qg sg s.heap.objs.size g cdg)) (.call (.ref f) ⟨[], []⟩) (CR (L2.CX X.prog X.w) (envOfC qg sg s.heap.objs.size g cdg :: X.stack) X.prog X.w HZ s1 Q E) s1 := fun Q E hE hQ => by
    refine PySem.W.kla_callFunE hr.depth of1 rfl L.co L.gen rfl ⟨c', oc, vs, t, rfl, hoc, hdc, hvc⟩ (hbs _ _ _ _ ?_)
    refine wpAny_newFunctionEnv (fun y hy => (L.own y hy).1) hbl (fun h₁ hns hsb => ⟨I1.nolimit.fresh _ hsb, ?_⟩) L.kind
    show codeAny _ _ (.expr body (LamX.lamEnv X scope s1.heap.objs.size f c')) _ _
    have kp : ∀ b o, s1.heap.get? b = some o → h₁.get? b = some o := fun b o e => hsb.extBut b o (Nat.ne_of_lt (Heap.lt_size e)) (Heap.get?_push_of_some _ e)
    have J : Inv (LamX.lamCx X (X.A.deeper (envOfC qg sg s.heap.objs.size g cdg)) (envOfC qg sg s.heap.objs.size g cdg :: X.stack) s1 HZ E scope f c') [] σ HZ { s1 with heap := h₁, toks := s1.toks + bs.length } :=
      lam_start3 I L I1.env0 hr.hd un hns kp
    have tk1 : TkE G (LamX.lamCx X (X.A.deeper (envOfC qg sg s.heap.objs.size g cdg)) (envOfC qg sg s.heap.objs.size g cdg :: X.stack) s1 HZ E scope f c') α σ HZ r := hE _ _ _ _ hgd (takes_of rfl rfl rfl rfl)
    refine PySem.W.kla_codeExpr (wpAny_mono ((hbody _ _ s1 HZ E ⟨hnd, rfl, hr.deeper _, hgd, passes_of rfl⟩).run δ0 S r hme α [] _ σ HZ J RelB tk1) (fun v s' hq => ?_) fun e s' hq => hq)
    obtain ⟨w', H', J', rv, q⟩ := hQ (LamX.lamCx X (X.A.deeper (envOfC qg sg s.heap.objs.size g cdg)) (envOfC qg sg s.heap.objs.size g cdg :: X.stack) s1 HZ E scope f c') s' v rfl hq
    exact ⟨w', H', J'.os, J'.bare, J'.base, J'.hok, rv, q⟩
  cases r with
  | ok d S1 =>
    refine wpAny_call (codeAny_mono (core (fun v H' => ∃ α', Ext α HZ α' H' ∧ @RSt T0 X.K α' S1 H' ∧ RD X.K α' H' d v) (fun _ _ _ => False) (fun _ _ _ _ _ _ => trivial) (fun Y s' u eK ⟨a, v, H', J, rv, x, R', q⟩ => ⟨v, H', J, rv, a, x, by rw [← eK]; exact R'.st, by rw [← eK]; exact q⟩)) fun r' s' hq => ?_)
    cases r' with
    | error e =>
      obtain ⟨_, _, _, _, _, _, _, _, _, _, _, _, z⟩ := hq
      exact z.elim
    | ok fl =>
      cases fl with
      | next => exact False.elim hq
      | brk => exact False.elim hq
      | cont => exact False.elim hq
      | ret u =>
        obtain ⟨v, H', J, rv, a, x, R', q⟩ := I1.after hq
        exact ⟨a, v, H', J, rv, x, rel_mono _ RZ x (rst_more R' (pre.trans x.1) (le.trans x.2.1)), q⟩
  | ex y S1 =>
    refine wpAny_call (codeAny_mono (core (fun _ _ => False) (fun cls d H' => ∃ α', Ext α HZ α' H' ∧ @RSt T0 X.K α' S1 H' ∧ RX G X.K α' H' cls d y) (fun A outer s H hg tk0 => Takes.imp tk0 fun cls d σ' H' ⟨_, a, x, R', q⟩ => ⟨a, x, R', q⟩) (fun Y s' u eK h => h.elim)) fun r' s' hq => ?_)
    cases r' with
    | error e =>
      refine tk e s' (XE.of_call I1 (fun cls d H' ⟨a, x, R', q⟩ => ⟨rfl, a, x, rst_more R' (pre.trans x.1) (le.trans x.2.1), q⟩) hq)
    | ok fl =>
      cases fl with
      | next => exact False.elim hq
      | brk => exact False.elim hq
      | cont => exact False.elim hq
      | ret u =>
        obtain ⟨v, H', J, rv, z⟩ := I1.after hq
        exact z.elim
end
end BR

set_option Elab.async false
set_option linter.all false
set_option maxRecDepth 100000
set_option maxHeartbeats 2000000
/-! ## f(lambda: e) -/
namespace BR
open PySem PySem.Spec PyProof.Rows L2
variable [Tbs]
/-- the code of the def at f -/
def codeV (K : PySem.W.Frag) (f : Addr) : Value := match K.lookup f with
  | some o => (match o.data with | .func fd => fd.code | _ => .none)
  | none => .none
theorem codeV_of {K : PySem.W.Frag} {f : Addr} {oc : Value} {od : Option Addr} {x qual : Str} {params : Arguments} {body : List Stmt} {scope : Scope} {dV kV doc pm cdv ct u : Value} {an : Option Addr} {sl : Array (Option Value)}
    (l : K.lookup f = some ⟨oc, od, .func (PySem.W.fnOf x qual params body scope dV kV doc pm an cdv ct), sl⟩) (h : cdv = u) : codeV K f = u := by
  unfold codeV
  rw [l]
  exact h
section
variable {G : EX} {P : Program} {w : World} {K : PySem.W.Frag} {mg : Str → Option Value} {base : Heap}
/-- a def's body at one place -/
theorem fn_at {k : Nat} {f : Addr} {x qual : Str} {st : Stmt} {fd : FuncData} {N ps : List Str} {nl : Nat} {mb : PL.MS} (F : Fun K x qual st f fd) (Sc : FnScope N ps (defScope st)) (hN : N.length = ps.length + nl)
    {A : Around} {outer : List Env} {s : Shared} {H : Hp} {args : Args} {us : List Value} {vs : List V} {Q : VK} {E : XK} {α : List Addr} {ds : List PL.D} {S : PL.Sto} {r0 : PL.RS} {r1 : PL.RE}
    (hr : Room (k + 1) A) (hg : A.guards = some []) (e0 : Env0 P w K mg base A outer s H) (hb : BindsTo s fd args (ps.zip us)) (rv : Vals vs us) (RS : RSt K α S H) (q : RDs K α H ds vs) (hl0 : ds.length = ps.length)
    (hr0 : mb (ds.map some ++ List.replicate nl none) S = some r0) (ret : RetOk r0 r1) (W1 : Wants G K α H r1 Q E)
    (hbody : Cz k (cxOf (L2.CX P w) P w K mg base N qual (defScope st) f (codeV K f) A outer s H E) → CSs G (cxOf (L2.CX P w) P w K mg base N qual (defScope st) f (codeV K f) A outer s H E) (defBody st) mb) :
    codeAny (model P w) A (.call (.ref f) args) (CR (L2.CX P w) outer P w H s Q E) s := by
  obtain ⟨oc, od, kV, doc, pm, an, cdv, ct, osl, rfl, lk, hcd⟩ := F.ex
  have ecd : codeV K f = cdv := by unfold codeV; rw [lk]
  rw [ecd] at hbody
  have hl : vs.length = ps.length := by rw [← q.length]; exact hl0
  have KX : K.In s.heap := e0.mod.kin.keeps fun b o e => (e0.bs b o e).1
  have lim : s.heap.NoLimit := e0.mod.nolimit.keeps fun b o e => (e0.bs b o e).1
  have hkind : ∀ y ∈ ps.zip us, (defScope st).names.lookup y.1 = some .local ∨ ((defScope st).names.lookup y.1 = some .cell ∧ ((cellsFrom (s.heap.objs.size + 1) (defScope st).names []).lookup y.1).isSome = true) := by
    rintro ⟨n, v⟩ hy
    rcases Sc.par n (List.of_mem_zip hy).1 with z | z
    · exact Or.inl z
    · exact Or.inr ⟨z, PySem.W.cellsFrom_some _ _ _ (.inl z)⟩
  refine codeAny_call_function hr.depth (KX _ _ lk) rfl Sc.co Sc.gen rfl (PySem.W.codeRec_of KX hcd) (hb _ _ _ _ ?_)
  refine wpAny_newFunctionEnv_cells Sc.kind hkind fun env he s1 xx => ?_
  subst he
  refine ⟨lim.keeps xx.toInCall.keep, codeAny_func ?_⟩
  have I : Inv (cxOf (L2.CX P w) P w K mg base N qual (defScope st) f cdv A outer s H E) [] (L2.start N vs) H s1 := inv_start Sc hr.hd e0 hl rv xx
  have hz : Cz k (cxOf (L2.CX P w) P w K mg base N qual (defScope st) f cdv A outer s H E) := ⟨Sc.nd, rfl, hr.deeper _, hg, passes_of rfl⟩
  have hR : Rel K α (ds.map some ++ List.replicate nl none) S (L2.start N vs) H := start_rel RS q (by rw [hN, hl0])
  have tk0 : Takes (cxOf (L2.CX P w) P w K mg base N qual (defScope st) f cdv A outer s H E) (fun cls d _ H' => E cls d H') := takes_of rfl rfl rfl rfl
  have tk : TkS G (cxOf (L2.CX P w) P w K mg base N qual (defScope st) f cdv A outer s H E) α H r0 := by
    cases r0 with
    | ex x δ' S1 =>
      have e1 : r1 = .ex x S1 := ret
      subst e1
      exact Takes.imp tk0 fun cls dd σ' H' ⟨a, x1, R1, q1⟩ => W1 cls dd a H' x1 R1.st q1
    | _ => trivial
  refine wpAny_mono ((hbody hz).run _ S r0 hr0 α [] s1 (L2.start N vs) H I hR tk) (fun fl s' hs => ?_) fun e s' hs => hs
  have fin : ∀ {σ' : L2.St} {H' : Hp} {v : V} {u : Value}, Inv (cxOf (L2.CX P w) P w K mg base N qual (defScope st) f cdv A outer s H E) [] σ' H' s' → RelV v u → Q v H' → L2.CE outer P w H s Q u s' := by
    intro σ' H' v u J rv' q'
    exact ⟨v, H', J.os, J.bare, J.base, J.hok, rv', q'⟩
  cases r0 with
  | rt d S1 =>
    have e1 : r1 = .ok d S1 := ret
    subst e1
    obtain ⟨u, rfl, a, σ', H', v, J, rv', x1, R1, q1⟩ := hs
    exact fin J rv' (W1 v a H' x1 R1 q1)
  | nx δ' S1 =>
    have e1 : r1 = .ok .non S1 := ret
    subst e1
    obtain ⟨rfl, a, σ', H', J, x1, R1⟩ := hs
    exact fin (v := V.non) (u := Value.none) J rfl (W1 V.non a H' x1 R1.st mk_non)
  | bk _ _ => exact False.elim ret
  | ct _ _ => exact False.elim ret
  | ex _ _ _ => exact False.elim hs
theorem mFn_inv {np nl : Nat} {mb : PL.MS} {ds : List PL.D} {S : PL.Sto} {r : PL.RE} (h : PL.mFn np nl mb ds S = some r) : ds.length = np ∧ ∃ r0 r1, mb (ds.map some ++ List.replicate nl none) S = some r0 ∧ RetOk r0 r1 ∧
    ∀ (α : List Addr) (H : Hp) (Q : VK) (E : XK), RSt K α S H → α.length = S.length → Wants G K α H r Q E → Wants G K α H r1 Q E := by
  unfold PL.mFn at h
  split at h
  · rename_i hl
    refine ⟨hl, ?_⟩
    split at h
    · rename_i d S1 e
      split at h
      · rename_i hd
        cases h
        exact ⟨_, .ok d S1, e, rfl, fun α H Q E R hα hW => Wants.trunc R hα hd hW⟩
      · cases h
    · rename_i δ1 S1 e
      cases h
      exact ⟨_, .ok .non S1, e, rfl, fun α H Q E R hα hW => Wants.trunc R hα rfl hW⟩
    · rename_i x δ1 S1 e
      split at h
      · rename_i hd
        cases h
        exact ⟨_, .ex x S1, e, rfl, fun α H Q E R hα hW => Wants.truncX R hα hd hW⟩
      · cases h
    · cases h
  · cases h
/-- THE RULE for a def that makes lambdas: its code is known -/
theorem fncL {k : Nat} {f : Addr} {x qual : Str} {st : Stmt} {fd : FuncData} {N ps : List Str} {np nl : Nat} {mb : PL.MS} (F : Fun K x qual st f fd) (Sc : FnScope N ps (defScope st)) (hp : ps.length = np) (hN : N.length = np + nl)
    (hbody : ∀ (A : Around) (outer : List Env) (s : Shared) (H : Hp) (E : XK), Cz k (cxOf (L2.CX P w) P w K mg base N qual (defScope st) f (codeV K f) A outer s H E) →
      CSs G (cxOf (L2.CX P w) P w K mg base N qual (defScope st) f (codeV K f) A outer s H E) (defBody st) mb) :
    FnC G P w K mg base (k + 1) f fd ps (PL.mFn np nl mb) := by
  refine ⟨fun ds S r h => by rw [hp]; exact (mFn_inv (G := G) (K := K) h).1, fun A outer s H args us vs Q E α ds S r hr hg e0 hb rv RS q hm hW => ?_⟩
  obtain ⟨hl0, r0, r1, hr0, ret, hw⟩ := mFn_inv (G := G) (K := K) hm
  exact fn_at F Sc (by rw [hN, hp]) hr hg e0 hb rv RS q (by rw [hl0, hp]) hr0 ret (hw α H Q E RS RS.lenα hW) (hbody A outer s H E)
end
/-- the lambda's defaults, whole numbers: how they are bound -/
def LamB (params : Arguments) (body : Expr) (scope : Scope) (l : List (Int × Nat × Pos)) (ps : List Str) : Prop :=
  (l = [] ∧ ∀ (q : Str) (cl : List (Str × Addr)) (doc pm cv ctv : Value), bindArgs (PySem.W.kdv_fn "<lambda>" q params (.expr body) scope cl .none doc pm cv ctv) ⟨[], []⟩ = pure []) ∨
  (l ≠ [] ∧ (∀ y ∈ ps, scope.names.lookup y = some .local) ∧ ∀ (q : Str) (cl : List (Str × Addr)) (T : Addr) (doc pm cv ctv : Value), ∃ k, bindArgs (PySem.W.kdv_fn "<lambda>" q params (.expr body) scope cl (.ref T) doc pm cv ctv) ⟨[], []⟩ = seqItems? (.ref T) >>= k ∧
    ∀ dv : List Value, dv.length = l.length → k (some dv.toArray) = pure (ps.zip dv))
def defE (l : List (Int × Nat × Pos)) : List Expr := l.map fun z => .Constant (.int z.1) z.2.1 z.2.2
section
variable {G : EX} {X : Cx} {pins : List (Addr × Obj)} {σ : L2.St} {H : Hp} {s : Shared}
theorem ev_defs (l : List (Int × Nat × Pos)) : ∀ {s : Shared} {Q : List Value → Shared → Prop}, Inv X pins σ H s → (∀ dv s', Inv X pins σ H s' → dv.length = l.length → Q dv s') →
    wpAny (model X.prog X.w) X.A (evalAll (evalEach (defE l) X.env)) Q X.xe s := by
  induction l with
  | nil => exact fun {s Q} I h => evalAll_nil (h [] s I rfl)
  | cons z l ih =>
    intro s Q I h
    refine evalAll_cons (thn ((pe_int (X := X) (i := z.1) (j := z.2.1) (pos := z.2.2)).run pins s σ H (fun _ H' => H' = H) I rfl) fun u s1 hu => ?_)
    obtain ⟨v, H1, I1, _, e⟩ := hu
    subst e
    exact ih I1 fun dv s2 I2 hl => h (u :: dv) s2 I2 (by simp [hl])
theorem lam_ev {params : Arguments} {body : Expr} {scope : Scope} {lpos : Pos} {l : List (Int × Nat × Pos)} {Q : Value → Shared → Prop} (I : Inv X pins σ H s) (hdef : params.defaults = defE l) (hkd : params.kw_defaults = [])
    (h : ∀ (dV : Value) (s' : Shared), Inv X pins σ H s' → ((l = [] ∧ dV = .none) ∨ (l ≠ [] ∧ ∃ (t : Addr) (dv : List Value), dV = .ref t ∧ dv.length = l.length ∧ s'.heap.get? t = some { cls := .type "tuple", data := .seq dv.toArray } ∧ H t = none ∧ t ∉ frs X.stack)) →
      wpAny (model X.prog X.w) X.A (makeTail "<lambda>" (X.env.qual ++ "<lambda>") params (.expr body) scope X.env dV .none none lpos lpos.line) Q X.xe s') :
    wpAny (model X.prog X.w) X.A (eval (.Lambda params body scope lpos) X.env) Q X.xe s := by
  rw [arm_eval_Lambda, defaultsOf_eq, hdef, hkd]
  refine wpAny_bind (ev_defs l I fun dv s1 I1 hl => ?_)
  refine wpAny_bind (wpAny_holding (wpAny_pure ?_))
  rw [makeFunction_eq]
  cases l with
  | nil =>
    have e : dv = [] := List.length_eq_zero_iff.mp hl
    subst e
    simp only [List.zip_nil_right, List.filterMap_nil, List.isEmpty_nil, if_true, pure_bind]
    exact h .none s1 I1 (.inl ⟨rfl, rfl⟩)
  | cons z l =>
    have hne : dv.isEmpty = false := by cases dv with | nil => simp at hl | cons _ _ => rfl
    simp only [List.zip_nil_right, List.filterMap_nil, List.isEmpty_nil, if_true, pure_bind, hne, Bool.false_eq_true, if_false]
    refine wpAny_bind (wpAny_newTextTuple ?_)
    have nofr : s1.heap.objs.size ∉ frs X.stack := fun z => by
      rcases List.mem_cons.mp (I1.stkSub _ z) with e | e
      · have h1 := I1.lt
        rw [← e] at h1
        exact Nat.lt_irrefl _ h1
      · exact I1.nofs (Nat.le_refl _) e
    have I2 : Inv X pins σ H { s1 with heap := s1.heap.push { cls := .type "tuple", data := .seq dv.toArray } } := I1.kept (t' := s1.toks) fun b o e => Heap.get?_push_of_some _ e
    exact h _ _ I2 (.inr ⟨by simp, _, dv, rfl, hl, Heap.get?_push_size _ rfl, I1.hok.fresh (Nat.le_refl _), nofr⟩)
/-- x(lambda: body), x a def of one parameter that calls it -/
theorem c_lam {k nl : Nat} {x qual a : Str} {st : Stmt} {g c P : Addr} {fd : FuncData} {Ng : List Str} {mb : (PL.D → PL.Sto → Option PL.RE) → PL.MS} {params : Arguments} {body : Expr} {scope : Scope} {p lpos pos : Pos} {l : List (Int × Nat × Pos)} {ps : List Str} {me : PL.ME}
    (hX : Cz (k + 2) X) (F : Fun X.K x qual st g fd) (Sc : FnScope Ng [a] (defScope st)) (hNl : Ng.length = 1 + nl) (hm : X.mg x = some (.ref g)) (hk : PySem.W.keepIn X.K (.ref g) = true) (hb : Binds X.K fd [a] [])
    (hbody : ∀ (T1 : Tbs) (t : PL.D → PL.Sto → Option PL.RE) (A : Around) (outer : List Env) (s : Shared) (H : Hp) (E : XK), Cz (k + 1) (cxOf (L2.CX X.prog X.w) X.prog X.w X.K X.mg X.base Ng qual (defScope st) g (codeV X.K g) A outer s H E) →
      (∀ (pn : List (Addr × Obj)) (xe : Value → Shared → Prop) (p1 p2 : Pos), @CE T1 G ((cxOf (L2.CX X.prog X.w) X.prog X.w X.K X.mg X.base Ng qual (defScope st) g (codeV X.K g) A outer s H E).tr pn xe) (.Call (.Name a p1) [] [] p2) (PL.mThunk t 0)) →
      @CSs T1 G (cxOf (L2.CX X.prog X.w) X.prog X.w X.K X.mg X.base Ng qual (defScope st) g (codeV X.K g) A outer s H E) (defBody st) (mb t))
    (TB : LamX.TabB X.base X.mg c P) (hcode : X.env.code = .ref c) (hmT : (P, X.env.qual ++ "<lambda>") ∈ Tbs.T) (hu : ∀ p ∈ Tbs.T, p.1 = P → p.2 = X.env.qual ++ "<lambda>") (L : LamD X.N X.env.scope scope)
    (hdef : params.defaults = defE l) (hkd : params.kw_defaults = []) (hB : LamB params body scope l ps)
    (hlam : ∀ (A : Around) (outer : List Env) (s : Shared) (H : Hp) (E : XK) (f c' : Addr), Cz k (LamX.lamCx X A outer s H E scope f c') → CE G (LamX.lamCx X A outer s H E scope f c') body me)
    (hN0 : Ng[0]? = some a := by rfl) (hva : Vis (defScope st) a := by first | exact Or.inl rfl | exact Or.inr (Or.inl rfl)) (hg : Gl X x := by rfl) (hdb : (x == ("__debug__" : Str)) = false := by decide) (hda : (a == ("__debug__" : Str)) = false := by decide) (hca : (a == ("__classdict__" : Str)) = false := by decide) :
    CE G X (.Call (.Name x p) [.Lambda params body scope lpos] [] pos) (PL.mLam (fun t => PL.mFn 1 nl (mb t)) me) := by
  rename_i T0
  refine ⟨fun δ S r h0 α pins s σ H I R tk => ?_⟩
  refine wpAny_Call_Name_kw (ld_glob I hg hm ?_ hdb)
  refine PySem.W.callWith_K (h₀ := X.base) I.ok.mod.kin hk ?_ (by rfl) (by rfl)
  show wpAny _ _ (spliced ((false, eval (.Lambda params body scope lpos) X.env) :: backTo pos (starEach [] X.env))) _ _ s
  refine Calls.spliced_cons (lam_ev I hdef hkd fun dV s0 I0 hdV => lam_mk I0 TB hcode hmT hu R.st.t (L.has I.ok) fun f c' doc pm ctv H1 s' I1 mk T1 kp fresh hf hfn hfr hco => ?_)
  refine Calls.spliced_nil ⟨I1.kIn, ?_⟩
  have R1 : Rel X.K α δ S σ H1 := R.mono mk.ext (R.st.made mk T1)
  have x1 : Ext α H α H1 := mk.ext
  have hm1 := PL.mAny_some h0 f
  obtain ⟨hl0, r0, r1, hr0, ret, hw⟩ := @mFn_inv (T0.more α H1) G X.K _ _ _ _ _ _ hm1
  have RM : @RSt (T0.more α H1) X.K α S H1 := rst_more (rel_st _ R1) (List.prefix_refl _) (Le.refl _)
  have hbind : ∀ s1 : Shared, (∀ b o, s'.heap.get? b = some o → H1 b = none → b ∉ frs X.stack → s1.heap.get? b = some o) →
      ∃ bs, BindsTo s1 (PySem.W.kdv_fn "<lambda>" (X.env.qual ++ "<lambda>") params (.expr body) scope (cloFrom X.env.cells scope.names []) dV doc pm (.ref c') ctv) ⟨[], []⟩ bs ∧ ∀ y ∈ bs, scope.names.lookup y.1 = some .local := fun s1 kept => by
    rcases hB with ⟨e1, e2⟩ | ⟨e1, e2, e3⟩
    · rcases hdV with ⟨_, rfl⟩ | ⟨z, _⟩
      · exact ⟨[], .of_eq (e2 _ _ _ _ _ _), fun y hy => absurd hy (by simp)⟩
      · exact absurd e1 z
    · rcases hdV with ⟨z, _⟩ | ⟨_, t, dv, rfl, hlv, ht, htn, htf⟩
      · exact absurd z e1
      · obtain ⟨kk, b1, b2⟩ := e3 (X.env.qual ++ "<lambda>") (cloFrom X.env.cells scope.names []) t doc pm (.ref c') ctv
        have ht1 := kept t _ (kp t _ (fun qs z => by rw [htn] at z; cases z) ht) (fresh t (Heap.lt_size ht) htn) htf
        exact ⟨ps.zip dv, .of_defaults rfl ht1 rfl b1 (b2 dv hlv), fun y hy => e2 _ (List.of_mem_zip hy).1⟩
  have rc : ∀ (Q : VK) (E : XK), @Wants (T0.more α H1) G X.K α H1 r1 Q E → codeAny (model X.prog X.w) X.A (.call (.ref g) ⟨[.ref f], []⟩) (CR (L2.CX X.prog X.w) X.stack X.prog X.w H1 s' Q E) s' := fun Q E W1 => by
    have bnd := hb s' [.ref f] I1.kIn rfl
    rw [List.append_nil] at bnd
    refine @fn_at (T0.more α H1) G X.prog X.w X.K X.mg X.base (k + 1) g x qual st fd Ng [a] nl _ F Sc hNl X.A X.stack s' H1 ⟨[.ref f], []⟩ [.ref f] [.ref f] Q E α [.adr f] S r0 r1 hX.room hX.gd I1.env0 bnd (.cons rfl .nil) RM (.cons (by simp only [RD]) .nil) rfl hr0 ret W1 fun hz => ?_
    refine hbody _ _ _ _ _ _ _ hz fun pn xe p1 p2 => ?_
    exact ce_act (i := 0) I1 R1 L hf hfn hfr hco hbind (hX.room.deeper _) hX.gd hX.nd (fun A outer s H E hz2 => hlam A outer s H E f c' hz2) hN0 hva hda hca
  cases r with
  | ok d S1 =>
    have W1 := hw α H1 (fun v H' => ∃ α', Ext α H1 α' H' ∧ @RSt T0 X.K α' S1 H' ∧ RD X.K α' H' d v) (fun _ _ _ => False) RM (@RSt.lenα (T0.more α H1) _ _ _ _ RM) (fun v a H' x R' q => ⟨a, x, (rst_less R').1, q⟩)
    refine wpAny_call (codeAny_mono (rc _ _ W1) fun r' s2 hq => ?_)
    cases r' with
    | error e =>
      obtain ⟨_, _, _, _, _, _, _, _, _, _, _, _, z⟩ := hq
      exact z.elim
    | ok fl =>
      cases fl with
      | next => exact False.elim hq
      | brk => exact False.elim hq
      | cont => exact False.elim hq
      | ret u =>
        obtain ⟨v, H', J, rv, a, x, R', q⟩ := I1.after hq
        exact ⟨a, v, H', J, rv, x1.trans x, R1.mono x R', q⟩
  | ex y S1 =>
    have W1 := hw α H1 (fun _ _ => False) (fun cls d H' => ∃ α', Ext α H1 α' H' ∧ @RSt T0 X.K α' S1 H' ∧ RX G X.K α' H' cls d y) RM (@RSt.lenα (T0.more α H1) _ _ _ _ RM) (fun cls d a H' x R' q => ⟨a, x, (rst_less R').1, q⟩)
    refine wpAny_call (codeAny_mono (rc _ _ W1) fun r' s2 hq => ?_)
    cases r' with
    | error e => exact tk e s2 (XE.of_call I1 (fun cls d H' ⟨a, x, R', q⟩ => ⟨rfl, a, x1.trans x, R', q⟩) hq)
    | ok fl =>
      cases fl with
      | next => exact False.elim hq
      | brk => exact False.elim hq
      | cont => exact False.elim hq
      | ret u =>
        obtain ⟨v, H', J, rv, z⟩ := I1.after hq
        exact z.elim
end
end BR
namespace BR
open PySem
theorem lookup_none {K : PySem.W.Frag} {P : Addr} (h : P ∉ K.map (·.1)) : K.lookup P = none := by
  induction K with
  | nil => rfl
  | cons q r ih =>
    rw [List.map_cons, List.mem_cons, not_or] at h
    rw [List.lookup_cons, show (P == q.1) = false from by simpa using h.1]
    exact ih h.2
theorem km_none {K : Params → PySem.W.Frag} {as : List Addr} {e : ∀ P, as = (K P).map (·.1)} {ts : List Addr} {w : World} {h : Heap} {P : Addr} (_ : (PySem.W.kmHook K as e ts).says w h) (n : P ∉ as) : (K w.params).lookup P = none :=
  lookup_none (by rw [← e]; exact n)
end BR

set_option Elab.async false
set_option linter.all false
set_option maxRecDepth 100000
set_option maxHeartbeats 2000000
/-! ## {} -/
namespace BR
open PySem PySem.Spec PyProof.Rows L2
variable [Tbs]
section
variable {G : EX} {X : Cx} {pos : Pos}
theorem c_emp : CE G X (.Dict [] [] pos) PL.mEmp := ⟨fun δ S r h0 α pins s σ H I R tk => by
  cases h0
  refine thn ((pe_dnewK (X := X) (pos := pos)).run pins s σ H (fun v H' => ∃ p, v = .ref p ∧ H p = none ∧ H' = upd H p (.dK [])) I fun p hp => ⟨p, rfl, hp, rfl⟩) fun u s1 ⟨v, H1, I1, rv, p, e1, hp, e2⟩ => ?_
  subst e1 e2
  obtain ⟨od, I2⟩ := I1.lock (u := .dK []) upd_same trivial
  have x0 : Ext α H α (upd H p (.dK [])) := Ext.new hp trivial
  have nT : ¬ Tr α (upd H p (.dK [])) p := fun q => R.st.tr (Tr.upd (R.st.fresh hp) q) hp
  have x2 : Ext α H α (upd (upd H p (.dK [])) p (.frz od (.dK []))) := x0.off hp nT
  have R0 := R.mono x0 (R.st.new hp)
  have lw : Le (upd H p (.dK [])) (upd (upd H p (.dK [])) p (.frz od (.dK []))) := Le.put upd_same (fun z => z)
  refine ⟨α, .ref p, _, I2, rv, x2, ⟨R0.st.off upd_same (fun z => z) (fun _ z => by cases z) nT, R.len, fun i d e => ?_⟩, ?_⟩
  · obtain ⟨w, e1, q1⟩ := R0.loc i d e
    exact ⟨w, e1, q1.mono0 (List.prefix_refl _) lw⟩
  · simp only [RD]
    exact ⟨p, od, rfl, upd_same⟩⟩
theorem b_reprS {k : Nat} (hX : Cz k X) : BiD X (.builtin "repr") (PL.biReprS reprD) := fun S xs z e α δ pins s σ H vs us I R q r => by
  unfold PL.biReprS at e
  split at e
  · rename_i d
    by_cases hd : PL.rsv S d = d
    · rw [hd] at e
      exact b_repr hX S [d] z e α δ pins s σ H vs us I R q r
    · cases d with
      | ref n =>
        have hx : ∃ xs, PL.rsv S (.ref n) = .lst xs := by
          unfold PL.rsv at hd ⊢
          dsimp only at hd ⊢
          split at hd
          · exact ⟨_, rfl⟩
          · exact absurd rfl hd
        obtain ⟨xs, hx⟩ := hx
        rw [hx] at e
        unfold PL.biRepr at e
        dsimp only at e
        split at e
        · rename_i hok
          split at e
          · rename_i m hn
            obtain ⟨hz, rfl⟩ := if_inv e
            obtain ⟨v, rfl, q1⟩ := q.one
            obtain ⟨hs, hl⟩ := wt_of hok hn
            have hfit : (toPy (.lst xs)).shown.length ≤ sizeLine := Nat.le_trans hl (by rw [← line_eq]; exact hz)
            have hu : X.A.units + 64 < cLine := by have := hX.v.un; omega
            have dp := (lay_of hok).2
            have dv : Dp X.K H v (toPy (.lst xs)) := by
              have := dp_rsv (n := 60) R (by rw [hx]; exact hok) q1
              rw [hx] at this
              exact this
            obtain ⟨u, rfl, rv⟩ := vals1 r
            obtain ⟨a, _, rfl⟩ := rd_ref q1
            cases rv
            obtain ⟨as, rr⟩ := Dp.reads I _ _ _ dv rfl
            exact repr_of_reads' rr hs (PyData.noDict_hsm (nodict_of hok)) hX.v.gd (by have := hX.v.un; omega) (fun _ _ h => h) (fun h' u tk k => PoE.here (v := .str (toPy (.lst xs)).shown) (I.kept k) ⟨u, rfl⟩ R (mk_str rfl)) hfit
          · cases e
        · simp [PL.D.okE] at e
      | _ => exact absurd rfl hd
  · cases e
end
end BR
namespace BR
open PySem PySem.Spec PyProof.Rows L2
variable [Tbs]
section
variable {G : EX} {X : Cx} {pos : Pos} {a b c : Expr} {ma mb mc : PL.ME}
/-- a chain of two comparisons, as a test -/
theorem c_chainT {op op' : CmpOp} {f g : PL.D → PL.D → Option PL.D} (ho : OpD X (compareOp op) f) (ho' : OpD X (compareOp op') g) (ha : CE G X a ma) (hb : CE G X b mb) (hc : CE G X c mc)
    (hmk : lastMarks [op, op'] [b, c] = false := by with_unfolding_all rfl) : CT G X (.Compare a [op, op'] [b, c] pos) (PL.mB (PL.mChain f g ma mb mc)) := ⟨fun δ S r hm α pins s σ H I R tk => by
  unfold PL.mB at hm
  cases c0 : PL.mChain f g ma mb mc δ S with
  | none => rw [c0] at hm; cases hm
  | some r0 =>
    rw [c0] at hm
    have tk0 : TkE G X α σ H r0 := by
      cases r0 with
      | ok d S1 => trivial
      | ex x S1 => cases hm; exact tk
    have fin : ∀ (u : Value) (s' : Shared), PoE X pins α δ σ H r0 u s' → wpAny (model X.prog X.w) X.A (truthy u) (fun b s'' => PoT X pins α δ σ H r b s'') X.xe s' := fun u s' h => by
      cases r0 with
      | ex x S1 => exact h.elim
      | ok d S1 =>
        obtain ⟨α1, v1, H1, I1, rv, x1, R1, q1⟩ := h
        cases d <;> try cases hm
        have e1 := rd_bl q1
        subst e1
        cases rv
        exact wpAny_truthy_bool ⟨rfl, α1, H1, I1, x1, R1⟩
    refine isTrue_chain (ha.then I R c0 tk0 fun x S1 h1 α1 v H1 u1 s1 I1 rv x1 R1 q1 tk1 => test_link (hb.then I1 R1 h1 tk1 fun y S2 h2 α2 w H2 u2 s2 I2 rw x2 R2 q2 tk2 => ?_)) hmk
    cases hf : f x y with
    | none => rw [hf] at h2; cases h2
    | some z =>
      rw [hf] at h2
      refine thn (ho x y z hf α2 δ S2 pins s2 σ H2 v w u1 u2 I2 R2 (q1.mono x2) q2 rv rw) fun d s3 h3 => ?_
      obtain ⟨α3, v3, H3, I3, r3, x3, R3, q3⟩ := h3
      cases z <;> try cases h2
      rename_i k
      have e1 := rd_bl q3
      subst e1
      cases r3
      refine wpAny_truthy_bool ?_
      cases k with
      | false =>
        cases h2
        cases hm
        exact ite_ff ⟨rfl, α3, H3, I3, (x1.trans x2).trans x3, R3⟩
      | true =>
        refine ite_tt (test_last (hc.then I3 R3 h2 (tk2.ext x3) fun z S4 h4 α4 v4 H4 u4 s4 I4 r4 x4 R4 q4 tk4 => ?_))
        obtain ⟨z', e', rfl⟩ := map_inv h4
        exact thn (ho' y z z' e' α4 δ S4 pins s4 σ H4 w v4 u2 u4 I4 R4 ((q2.mono x3).mono x4) q4 rw r4) fun u s' h => fin u s' (h.ext (((x1.trans x2).trans x3).trans x4))⟩
end
end BR

set_option Elab.async false
set_option linter.all false
set_option maxRecDepth 100000
set_option maxHeartbeats 2000000
/-! ## {} == a text -/
namespace BR
open PySem PySem.Spec PyProof.Rows L2 PySem.SeqAt
theorem dict_eq_declines_str (l : Addr) (es : Array DictEntry) (n : Nat) (dd : Option Addr) (sl : Array (Option Value)) (b : Str) (u : Tok) :
    Meets (Builtin.«dict.__eq__» ⟨[.ref l, .str b u], []⟩) (fun _ R s => s.heap.get? l = some { cls := .type "dict", dict := dd, data := .dict es n, slots := sl } ∧ R (.ok (.ret .notImplemented)) s) :=
  .of_wp fun prog w A R s h => by
    obtain ⟨hp, g, d, tk, os⟩ := s
    obtain ⟨hl, h⟩ := h
    have f1 : isSubtype (.type "str") (.type "dict") = pure false := by kernel_rfl
    wp_walk using wpAny_loadPart' hl
    exact ⟨_, rfl, h⟩
theorem str_eq_declines_dict (b : Str) (u : Tok) (l : Addr) (es : Array DictEntry) (n : Nat) (dd : Option Addr) (sl : Array (Option Value)) :
    Meets (Builtin.«str.__eq__» ⟨[.str b u, .ref l], []⟩) (fun _ R s => s.heap.get? l = some { cls := .type "dict", dict := dd, data := .dict es n, slots := sl } ∧ R (.ok (.ret .notImplemented)) s) :=
  .of_wp fun prog w A R s h => by
    obtain ⟨hp, g, d, tk, os⟩ := s
    obtain ⟨hl, h⟩ := h
    wp_walk using wpAny_loadPart' hl, wpAny_load hl
    exact ⟨_, rfl, h⟩
section
variable {prog : Program} {w : World} {A : Around} {E : Value → Shared → Prop} {s : Shared} {Q : Value → Shared → Prop} {l : Addr} {o : Obj} {es : Array DictEntry} {n : Nat}
theorem eq_dict_str (b : Str) (u : Tok) (ho : s.heap.get? l = some o) (hc : o.ExactDict) (hd : o.data = .dict es n) (hu : A.units < cLine) (h : Q (.bool false) s) : wpAny (model prog w) A (compareOp .Eq (.ref l) (.str b u)) Q E s := by
  obtain ⟨cls, dd, data, sl⟩ := o
  obtain ⟨h1, h2, h3⟩ := hc
  simp only at h1 h2 h3 hd
  subst h1 h2 h3 hd
  exact rc_eq_decline_or (k := false) ⟨_, ho, rfl⟩ (typeIs_str s b u) (by decide) F.sub_str_dict F.slot_dict_eq F.slot_str_eq_refl
    (fun _ hq => call_meets F.slot_dict_eq ⟨_, ho, rfl⟩ F.entry_dict_eq (F.args_dict_eq_2 _ _) (dict_eq_declines_str l es n none #[] b u) ⟨ho, hq⟩)
    (fun _ hq => call_meets F.slot_str_eq_refl (typeIs_str s b u) F.entry_str_eq (F.args_str_eq_2 _ _) (str_eq_declines_dict b u l es n none #[]) ⟨ho, hq⟩)
    (fun _ hq => wpAny_of_eq (rfl : isSame (.ref l) (.str b u) = pure false) hq) (.inr hu) h
theorem eq_str_dict (b : Str) (u : Tok) (ho : s.heap.get? l = some o) (hc : o.ExactDict) (hd : o.data = .dict es n) (hu : A.units < cLine) (h : Q (.bool false) s) : wpAny (model prog w) A (compareOp .Eq (.str b u) (.ref l)) Q E s := by
  obtain ⟨cls, dd, data, sl⟩ := o
  obtain ⟨h1, h2, h3⟩ := hc
  simp only at h1 h2 h3 hd
  subst h1 h2 h3 hd
  exact rc_eq_decline_or (k := false) (typeIs_str s b u) ⟨_, ho, rfl⟩ (by decide) F.sub_dict_str F.slot_str_eq F.slot_dict_eq_refl
    (fun _ hq => call_meets F.slot_str_eq (typeIs_str s b u) F.entry_str_eq (F.args_str_eq_2 _ _) (str_eq_declines_dict b u l es n none #[]) ⟨ho, hq⟩)
    (fun _ hq => call_meets F.slot_dict_eq_refl ⟨_, ho, rfl⟩ F.entry_dict_eq (F.args_dict_eq_2 _ _) (dict_eq_declines_str l es n none #[] b u) ⟨ho, hq⟩)
    (fun _ hq => wpAny_of_eq (rfl : isSame (.str b u) (.ref l) = pure false) hq) (.inr hu) h
end
section
variable [Tbs] {X : Cx} {k : Nat}
theorem d_eqE (hX : Cz k X) : OpD X (compareOp .Eq) PL.opEqE := by
  intro x y z e α δ S pins s σ H v w u1 u2 I R q1 q2 r1 r2
  have gen : PL.opEq x y = some z → wpAny (model X.prog X.w) X.A (compareOp .Eq u1 u2) (PoE X pins α δ σ H (.ok z S)) X.xe s := fun e => d_eq hX x y z e α δ S pins s σ H v w u1 u2 I R q1 q2 r1 r2
  have un : X.A.units < cLine := by have := hX.v.un; omega
  have dict : ∀ {v : V} {u : Value}, RD X.K α H .emp v → RelV v u → ∃ a o es n, u = .ref a ∧ s.heap.get? a = some o ∧ o.ExactDict ∧ o.data = .dict es n := fun {v u} q r => by
    simp only [RD] at q
    obtain ⟨a, o, rfl, h⟩ := q
    cases r
    obtain ⟨_, _, _, vs, _, o2, es, ep, e, ed, hd, _⟩ := I.hok a _ h
    exact ⟨a, o2, es, ep, rfl, e, ed, hd⟩
  have fin : PoE X pins α δ σ H (.ok (.bl false) S) (.bool false) s := PoE.here (v := .bl false) I rfl R mk_bl
  cases x <;> cases y <;> first
    | exact gen e
    | (cases e
       obtain ⟨a, o, es, n, rfl, h1, h2, h3⟩ := dict q1 r1
       obtain ⟨x2, rfl, _⟩ := rd_str q2
       obtain ⟨t, rfl⟩ := r2
       exact eq_dict_str x2 t h1 h2 h3 un fin)
    | (cases e
       obtain ⟨a, o, es, n, rfl, h1, h2, h3⟩ := dict q2 r2
       obtain ⟨x2, rfl, _⟩ := rd_str q1
       obtain ⟨t, rfl⟩ := r1
       exact eq_str_dict x2 t h1 h2 h3 un fin)
end
end BR

set_option Elab.async false
set_option linter.all false
set_option maxRecDepth 100000
set_option maxHeartbeats 2000000
/-! ## texts: join, index, upper, lower, [::-1], enumerate -/
namespace BR
open PySem PySem.Spec PyProof.Rows L2
variable [Tbs]
section
variable {G : EX} {X : Cx} {α α' : List Addr} {δ : PL.Env} {S : PL.Sto} {σ : L2.St} {H H' : Hp} {pins : List (Addr × Obj)} {s : Shared}
variable {a b c e l : Expr} {ma mb mc m ml : PL.ME} {pos apos cpos : Pos} {es : List Expr}
theorem join_tl : ∀ (sep : List Nat) (ys : List (List Nat)), PL.joinS sep ys = TL.joinL sep ys
  | _, [] => rfl
  | _, [_] => rfl
  | sep, p :: q :: r => by rw [PL.joinS, TL.joinL, join_tl sep (q :: r)]
theorem strs_rd {K : PySem.W.Frag} : ∀ {xs : List PL.D} {ys : List (List Nat)} {vs : List V}, PL.strsOf xs = some ys → RDs K α H xs vs → vs = (ys.map SX.S).map V.str
  | [], ys, vs, h, q => by cases h; cases q; rfl
  | x :: xs, ys, vs, h, q => by
    cases x with
    | str t =>
      simp only [PL.strsOf, Option.map_eq_some_iff] at h
      obtain ⟨l, h1, rfl⟩ := h
      obtain ⟨v, r, rfl, q1, q2⟩ := q
      obtain ⟨x, rfl, rfl⟩ := rd_str q1
      rw [strs_rd h1 q2]
      simp
    | _ => cases h
theorem up_eq (c : Nat) (h : c < 128) : PL.upC c = PyProof.Rows.up1 c := by
  have : ∀ c : Fin 128, PL.upC c.1 = PyProof.Rows.up1 c.1 := by decide +kernel
  exact this ⟨c, h⟩
theorem lo_eq (c : Nat) (h : c < 128) : PL.loC c = PyProof.Rows.lo1 c := by
  have : ∀ c : Fin 128, PL.loC c.1 = PyProof.Rows.lo1 c.1 := by decide +kernel
  exact this ⟨c, h⟩
theorem c_upper (ha : CE G X a ma) (hbase : attributeBase a "upper" X.env (eval a X.env) = eval a X.env := by rfl) (hline : (apos.endLine == cpos.line) = true := by rfl) : CE G X (.Call (.Attribute a "upper" apos) [] [] cpos) (PL.mStr0 PL.upStr ma) :=
  CE.ofX (pe_upper (apos := apos) (pos := cpos) ha.pe hbase hline) fun δ S r h0 α σ H R tk => by
    refine tOf.go R h0 tk fun d S1 h1 α1 v H1 x1 R1 q1 tk1 => ?_
    cases d with
    | str l =>
      obtain ⟨x, rfl, rfl⟩ := rd_str q1
      refine ⟨⟨x, rfl⟩, x, rfl, rfl, ?_⟩
      obtain ⟨z, hz, rfl⟩ := map_inv h1
      simp only [PL.upStr] at hz
      split at hz
      · rename_i q
        cases hz
        refine ⟨by have := q.1; simpa [Str.length] using this, α1, x1, R1, mk_str ?_⟩
        have e := SX.upper_S (a := x.cps.toList) q.2
        rw [SX.S_tl] at e
        rw [e]
        show (x.cps.toList.map PyProof.Rows.up1).toArray.toList = _
        rw [List.toList_toArray]
        refine List.map_congr_left fun c hc => (up_eq c ?_).symm
        simpa using List.all_eq_true.mp q.2 c hc
      · cases hz
    | _ => cases h1
theorem c_lower (ha : CE G X a ma) (hbase : attributeBase a "lower" X.env (eval a X.env) = eval a X.env := by rfl) (hline : (apos.endLine == cpos.line) = true := by rfl) : CE G X (.Call (.Attribute a "lower" apos) [] [] cpos) (PL.mStr0 PL.loStr ma) :=
  CE.ofX (pe_lower (apos := apos) (pos := cpos) ha.pe hbase hline) fun δ S r h0 α σ H R tk => by
    refine tOf.go R h0 tk fun d S1 h1 α1 v H1 x1 R1 q1 tk1 => ?_
    cases d with
    | str l =>
      obtain ⟨x, rfl, rfl⟩ := rd_str q1
      refine ⟨⟨x, rfl⟩, x, rfl, rfl, ?_⟩
      obtain ⟨z, hz, rfl⟩ := map_inv h1
      simp only [PL.loStr] at hz
      split at hz
      · rename_i q
        cases hz
        refine ⟨by have := q.1; simpa [Str.length] using this, α1, x1, R1, mk_str ?_⟩
        have e := SX.lower_S (a := x.cps.toList) q.2
        rw [SX.S_tl] at e
        rw [e]
        show (x.cps.toList.map PyProof.Rows.lo1).toArray.toList = _
        rw [List.toList_toArray]
        refine List.map_congr_left fun c hc => (lo_eq c ?_).symm
        simpa using List.all_eq_true.mp q.2 c hc
      · cases hz
    | _ => cases h1
theorem c_join (ha : CE G X a ma) (he : CE G X e m) (hs : starEach [e] X.env = [(false, eval e X.env)] := by rfl) (hbase : attributeBase a "join" X.env (eval a X.env) = eval a X.env := by rfl) (hline : (apos.endLine == cpos.line) = true := by rfl) :
    CE G X (.Call (.Attribute a "join" apos) [e] [] cpos) (PL.mStr1 PL.joinStr ma m) :=
  CE.ofX (pe_join (apos := apos) (pos := cpos) ha.pe he.pe hs hbase hline) fun δ S r h0 α σ H R tk => by
    refine tOf.go R h0 tk fun d S1 h1 α1 v H1 x1 R1 q1 tk1 => ?_
    cases d with
    | str l =>
      obtain ⟨x, rfl, rfl⟩ := rd_str q1
      refine ⟨⟨x, rfl⟩, ?_⟩
      refine tOf.go R1 h1 tk1 fun y S2 h2 α2 w H2 x2 R2 q2 tk2 => ?_
      obtain ⟨z, hz, rfl⟩ := map_inv h2
      simp only [PL.joinStr, Option.bind_eq_some_iff] at hz
      obtain ⟨xs, h3, ys, h4, h5⟩ := hz
      split at h5
      · rename_i hl
        cases h5
        have fin : ∀ p, w = .ref p → (SqL X.K H2 p ((ys.map SX.S).map V.str) ∨ SqT X.K H2 p ((ys.map SX.S).map V.str)) → ∃ a p, ∃ ys' : List Str, V.str x = .str a ∧ [w] = [.ref p] ∧ (SqL X.K H2 p (ys'.map V.str) ∨ SqT X.K H2 p (ys'.map V.str)) ∧
            (ys'.map (·.length)).sum + ys'.length * a.length ≤ 16777216 ∧ PoV X.K α δ σ H (.ok (.str (PL.joinS x.cps.toList ys)) S2) (.str (Txt.join a ys')) H2 := fun p e h => by
          refine ⟨x, p, ys.map SX.S, rfl, by rw [e], h, ?_, α2, x1.trans x2, R2, mk_str ?_⟩
          · rw [SX.lens, List.length_map]
            have : x.length = x.cps.toList.length := by simp [Str.length]
            rw [this]; exact hl
          · have e := SX.join_S x.cps.toList ys
            rw [SX.S_tl] at e
            rw [e, ← join_tl]
        cases y with
        | tup ds =>
          cases h3
          obtain ⟨p, vs, rfl, hT, t⟩ := rd_tup q2
          refine fin p rfl (.inr ?_)
          rw [← strs_rd h4 t]; exact hT
        | lst ds =>
          cases h3
          obtain ⟨p, o, vs, rfl, hT, t⟩ := rd_lst q2
          refine fin p rfl (.inl ?_)
          rw [← strs_rd h4 t]; exact frz_sq hT
        | ref n =>
          simp only [PL.seqOf] at h3
          split at h3
          · rename_i ds hn
            cases h3
            obtain ⟨p, vs, rfl, hp, hH, q3, _⟩ := lst_at R2 hn q2
            refine fin p rfl (.inl ?_)
            rw [← strs_rd h4 q3]; exact SqL.of hH
          · cases h3
        | _ => cases h3
      · cases h5
    | _ => cases h1
theorem occ_signs : ∀ l ∈ PL.signRows, ∀ c ∈ l, Builtin.Str.occurrences (SX.S l) (SX.S [c]) 0 (SX.S l).length 1 = [l.idxOf c] := by
  have : (PL.signRows.all fun l => l.all fun c => Builtin.Str.occurrences (SX.S l) (SX.S [c]) 0 (SX.S l).length 1 == [l.idxOf c]) = true := by decide +kernel
  intro l hl c hc
  simpa using List.all_eq_true.mp (List.all_eq_true.mp this l hl) c hc
theorem c_index (ha : CE G X a ma) (he : CE G X e m) (hs : starEach [e] X.env = [(false, eval e X.env)] := by rfl) (hbase : attributeBase a "index" X.env (eval a X.env) = eval a X.env := by rfl) (hline : (apos.endLine == cpos.line) = true := by rfl) :
    CE G X (.Call (.Attribute a "index" apos) [e] [] cpos) (PL.mStr1 PL.indexStr ma m) :=
  CE.ofX (pe_m1 PySem.F.slot_str_index PySem.F.type_str_index mt_sindex ha.pe he.pe hs hbase hline) fun δ S r h0 α σ H R tk => by
    refine tOf.go R h0 tk fun d S1 h1 α1 v H1 x1 R1 q1 tk1 => ?_
    cases d with
    | str l =>
      obtain ⟨x, rfl, rfl⟩ := rd_str q1
      refine ⟨⟨x, rfl⟩, ?_⟩
      refine tOf.go R1 h1 tk1 fun y S2 h2 α2 w H2 x2 R2 q2 tk2 => ?_
      obtain ⟨z, hz, rfl⟩ := map_inv h2
      cases y with
      | str t =>
        match t, hz with
        | [c], hz =>
          simp only [PL.indexStr] at hz
          split at hz
          · rename_i q
            cases hz
            obtain ⟨u, rfl, hu⟩ := rd_str q2
            have e := occ_signs _ q.1 c q.2
            rw [SX.S_tl] at e
            have eu : u = SX.S [c] := by rw [← hu, SX.S_tl]
            subst eu
            exact ⟨x, _, _, [], rfl, rfl, e, α2, x1.trans x2, R2, mk_int⟩
          · cases hz
        | [], hz => cases hz
        | _ :: _ :: _, hz => cases hz
      | _ => cases hz
    | _ => cases h1
theorem rev_pick (x : Str) (u : Tok) : ((slicePicked x none none (some (-1, u))).filterMap (x.cps[·]?)).toArray.toList = x.cps.toList.reverse := by
  have e : slicePicked x none none (some (-1, u)) = sliceRange ((x.cps.size : Int) - 1) (-1) (-1) := by
    show Builtin.Str.strSliceIndices none none (-1) x.length = _
    unfold Builtin.Str.strSliceIndices
    rfl
  rw [e, PySem.W.krv_sliceRange, PySem.W.krv_range, List.filterMap_reverse, PySem.W.krv_all, List.toList_toArray]
theorem c_revS {k : Nat} {p1 p2 p3 : Pos} (ha : CE G X a ma) : CE G X (.Subscript a (.Slice none none (some (.UnaryOp .USub (.Constant (.int 1) k p1) p2)) p3) pos) (PL.mStr0 PL.revStr ma) := ⟨fun δ S r hm α pins s σ H I R tk => by
  refine Subscript_ (ha.then I R hm tk fun x S1 h1 α1 v H1 u1 s1 I1 rv x1 R1 q1 tk1 => ?_)
  cases x with
  | str l =>
    obtain ⟨z, hz, rfl⟩ := map_inv h1
    simp only [PL.revStr] at hz
    split at hz
    · rename_i hl
      cases hz
      obtain ⟨x, rfl, rfl⟩ := rd_str q1
      obtain ⟨t, rfl⟩ := rv
      have hst : PO X (some (.UnaryOp .USub (.Constant (.int 1) k p1) p2)) (tPart (tUn (rU fun i => .int (-i)) (tC (.int 1)))) := po_some (pe_un un_neg pe_int)
      refine wpAny_Slice ?_
      rw [evalPart_none]
      refine wpAny_pure (wpAny_pure ?_)
      refine thn (hst.run pins s1 σ H1 (fun o H4 => o = some (-1) ∧ H4 = H1) I1 ⟨1, rfl, -1, rfl, rfl, rfl⟩) fun vs s4 ⟨o, H4, I4, ps, eo, e4⟩ => ?_
      subst eo e4
      have I5 : Inv X pins σ H4 { s4 with heap := s4.heap.push { cls := .type "slice", data := .fields #[.none, .none, vs] } } := I4.kept (t' := s4.toks) fun b ob q => Heap.get?_push_of_some _ q
      show wpAny (model X.prog X.w) X.A (subscriptTail a (.Slice none none (some (.UnaryOp .USub (.Constant (.int 1) k p1) p2)) p3) (.str x t) (.ref s4.heap.objs.size)) _ X.xe { s4 with heap := s4.heap.push { cls := .type "slice", data := .fields #[.none, .none, vs] } }
      obtain ⟨lw, rfl, e1⟩ := IsPart.raw ps
      cases lw with
      | none => cases e1
      | some iu =>
        obtain ⟨i, u⟩ := iu
        cases e1
        refine tail_any (ops := [.ref s4.heap.objs.size, .str x t]) (typeIs_str _ _ _) PySem.F.slot_str_getitem.lookup ?_ (by with_unfolding_all rfl)
        refine wpAny_getItem_str_slice (l := none) (u := none) (st := some (-1, u)) ⟨_, Heap.get?_push_size _ rfl, rfl, rfl⟩ rfl ?_
        have hp := rev_pick x u
        have hlen : ((slicePicked x none none (some (-1, u))).filterMap (x.cps[·]?)).toArray.size ≤ sizeLine := by
          rw [← Array.length_toList, hp, List.length_reverse, ← line_eq]; exact hl
        show Made.post (.str ⟨((slicePicked x none none (some (-1, u))).filterMap (x.cps[·]?)).toArray⟩) _ _
        refine ⟨hlen, ?_⟩
        exact PoE.ofV ⟨.str _, H4, I5.tok _, ⟨_, rfl⟩, (PoV.here R1 (mk_str hp)).ext x1⟩
    · cases hz
  | _ => cases h1⟩
/-- the signs of a text, each in a new pair with its number -/
def IteS (x : Str) : It :=
  ⟨fun i _ => i < x.cps.size, fun i H v H' => ∃ T c, v = .ref T ∧ H T = none ∧ H' = upd H T (.tup [.int (i : Nat), .str ⟨#[c]⟩]) ∧ x.cps[i]? = some c, fun i _ => i = x.cps.size⟩
theorem turn_enumS {P : Program} {w : World} {K : PySem.W.Frag} {elts : List Expr} {kk : Nat} {tpos : Pos} (x : Str) (t : Tok) (e it : Addr) :
    Turn P w K (.Tuple elts kk tpos) (IteS x) [e, it] e (fun i h => (∃ old, IsEnum h e it ((i : Nat) : Int) old) ∧ h.IsStrIter it (strIterType x) x t i ∧ e ≠ it) where
  mem := by simp
  obj := fun i h st b hb => by
    obtain ⟨⟨old, he⟩, ⟨o, ho, hc, hd⟩, _⟩ := st
    have e' : b = e ∨ b = it := by simpa using hb
    rcases e' with z | z
    · rw [z]; exact ⟨_, he, fun v q => nomatch q⟩
    · rw [z]; exact ⟨o, ho, fun v q => by rw [hd] at q; cases q⟩
  keep := fun i h h' st k => let ⟨⟨old, he⟩, ⟨o, ho, r⟩, hne⟩ := st; ⟨⟨old, k e (by simp) _ he⟩, ⟨o, k it (by simp) o ho, r⟩, hne⟩
  item := by
    intro X hP hw hK hc i pins s σ H E I hf st hg
    subst hP hw hK
    obtain ⟨⟨old, he⟩, hit, hne⟩ := st
    have hel : e < s.heap.objs.size := Heap.lt_size he
    have hil : it < s.heap.objs.size := by obtain ⟨_, q, _⟩ := hit; exact Heap.lt_size q
    have Dr := Draws.text (prog := X.prog) (w := X.w) (A := X.A.in1) (I.ok.hd hc) it x t
    refine wpAny_pyNext_enum_itemD Dr he hit hg hne (by simp only [List.mem_cons, List.not_mem_nil, or_false]; exact hne) fun x' h' tk hx' ho hit' hT hsz hk => ?_
    obtain ⟨c, u, hcx, rfl⟩ := hx'
    refine ⟨_, rfl, wpAny_letOwnedTupleGo_enum (s := { s with heap := h', toks := tk + 1 }) ho fun h'' he' sb => ?_⟩
    have hT2 : h''.get? s.heap.objs.size = some { cls := .type "tuple", data := .seq #[.int i tk, .str ⟨#[c]⟩ u] } := (sb.2 _ (Nat.ne_of_gt hel)).trans hT
    have new : ObjOk X.prog X.w (upd H s.heap.objs.size (.tup [.int (i : Nat), .str ⟨#[c]⟩])) h'' s.heap.objs.size (.tup [.int (i : Nat), .str ⟨#[c]⟩]) :=
      ⟨by show 2 ≤ sizeLine; decide, [.int i tk, .str ⟨#[c]⟩ u], .cons ⟨_, rfl⟩ (.cons ⟨u, rfl⟩ .nil), ⟨_, hT2, rfl, _, rfl⟩⟩
    have I1 : Inv X pins σ (upd H s.heap.objs.size (.tup [.int (i : Nat), .str ⟨#[c]⟩])) { s with heap := h'', toks := tk + 1 } :=
      I.turnedNew (ch := [e, it]) (fun b ob hb q => (sb.2 b (fun z => hb (by simp [z]))).trans (hk b ob (fun z => hb (by simp [z])) (fun z => hb (by simp [z])) q)) hf (Nat.le_refl _) new
    refine ⟨.ref s.heap.objs.size, _, I1, rfl, ⟨_, c, rfl, I.hok.fresh (Nat.le_refl _), rfl, hcx⟩, ⟨⟨.str ⟨#[c]⟩ u, ?_⟩, ?_, hne⟩, fun b hb => ?_⟩
    · have e1 : ((i + 1 : Nat) : Int) = (i : Int) + 1 := by omega
      rw [e1]; exact he'
    · obtain ⟨o, ho', r⟩ := hit'
      exact ⟨o, (sb.2 it (Ne.symm hne)).trans ho', r⟩
    · have hb' : b < s.heap.objs.size := by
        have e' : b = e ∨ b = it := by simpa using hb
        rcases e' with z | z
        · rw [z]; exact hel
        · rw [z]; exact hil
      rw [upd_ne (Nat.ne_of_lt hb')]
      exact (hf b hb).1
  done := by
    intro X hP hw hK hc i pins s σ H E I hf st hg
    subst hP hw hK
    obtain ⟨⟨old, he⟩, hit, hne⟩ := st
    obtain ⟨f0, f1, f2, f3, f4, f5⟩ := hf it (by simp)
    have Dr := Draws.text (prog := X.prog) (w := X.w) (A := X.A.in1) (I.ok.hd hc) it x t
    have ei : i = x.cps.size := hg
    subst ei
    exact wpAny_pyNext_enum_endD Dr he hit fun h' eb => ⟨rfl, I.turned (t' := s.toks) (fun b o hb q => eb b o hb q) f0 f1 f3 f4 f5⟩
  self := fun A i s Q E st h => let ⟨⟨_, he⟩, _⟩ := st; wpAny_pyIter_enum he h
variable {elts : List Expr} {kk k : Nat} {tpos : Pos}
theorem ci_enumS {p : Pos} (hX : Cz k X) (hm : X.mg "enumerate" = none) (ha : CA G X [e] (PL.mConsA m PL.mNilA)) (hg : Gl X "enumerate" := by rfl) (hs : starEach [e] X.env = [(false, eval e X.env)] := by rfl) :
    CI G X (.Tuple elts kk tpos) (.Call (.Name "enumerate" p) [e] [] pos) (PL.mItEnumS m) := ⟨fun δ S r h0 α pins s σ H I R tk => by
  unfold PL.mItEnumS at h0
  refine Call_ (ld_blt I hg hm boot_enumerate (PyProof.Rows.callWith_type1 (ha.thenA pos I R h0 tk fun ds S1 h1 α1 vs H1 us s1 I1 rv x1 R1 q1 tk1 => ?_) hs rfl))
  have fp : ∀ b ∈ [s1.heap.objs.size + 1, s1.heap.objs.size], FpOk X pins H1 b := fun b hb => by
    have e' : b = s1.heap.objs.size + 1 ∨ b = s1.heap.objs.size := by simpa using hb
    have hle : s1.heap.objs.size ≤ b := by
      rcases e' with z | z
      · rw [z]; exact Nat.le_add_right _ _
      · rw [z]; exact Nat.le_refl _
    exact I1.fpOk hle (I1.hok.fresh hle)
  split at h1
  · rename_i l
    cases h1
    obtain ⟨v, rfl, q2⟩ := q1.one
    obtain ⟨x, rfl, rfl⟩ := rd_str q2
    cases rv with
    | cons r rr =>
      cases rr
      obtain ⟨t, rfl⟩ := r
      refine enum_begins1 (begins_text x t) trivial fun h' he hit hsz hk => wpAny_pyIter_enum he ?_
      have I2 : Inv X pins σ H1 { s1 with heap := h' } := I1.kept (t' := s1.toks) hk
      refine ⟨α1, s1.heap.objs.size + 1, [s1.heap.objs.size + 1, s1.heap.objs.size], _, _, H1, rfl, I2, turn_enumS x t (s1.heap.objs.size + 1) s1.heap.objs.size, ⟨⟨.none, he⟩, ⟨_, hit, rfl, rfl⟩, Nat.succ_ne_self _⟩, fp, x1, R1, ?_⟩
      have q3 : RDs X.K α1 H1 (x.cps.toList.map fun c => PL.D.str [c]) (x.cps.toList.map fun c => V.str ⟨#[c]⟩) := by
        generalize x.cps.toList = l
        induction l with
        | nil => exact .nil
        | cons c l ih => exact .cons (mk_str rfl) ih
      refine iok_enum q3 (fun i α' H' hi x => by simpa [IteS] using hi) (fun α' H' x => by simp [IteS]) fun i α' H' v H'' x y => ?_
      obtain ⟨T, c, h1, h2, h3, h4⟩ := y
      refine ⟨T, _, h1, h2, h3, ?_⟩
      rw [List.getElem?_map, Array.getElem?_toList, h4]
      rfl
  · cases h1⟩
theorem foldl_flat : ∀ (l : List (Array Nat)) (acc : Array Nat), (l.foldl (· ++ ·) acc).toList = acc.toList ++ (l.map Array.toList).flatten
  | [], acc => by simp
  | a :: l, acc => by rw [List.foldl_cons, foldl_flat l]; simp
theorem d_mulS : OpD X (binaryOp .Mult) PL.mulStr := by
  intro x y z e α δ S pins s σ H v w u1 u2 I R q1 q2 r1 r2
  cases x <;> cases y <;> simp only [PL.mulStr] at e <;> try cases e
  rename_i l k
  split at e
  · rename_i h
    obtain ⟨h1, h2, h3, h4⟩ := h
    cases e
    obtain ⟨x, rfl, rfl⟩ := rd_str q1
    have e2 := rd_int q2
    subst e2
    obtain ⟨t, rfl⟩ := r1
    obtain ⟨u, rfl⟩ := r2
    have hl : x.length = x.cps.toList.length := by simp [Str.length]
    rw [← hl] at h3 h4
    have hk : ((k.toNat : Nat) : Int) = k := by omega
    have hz : ((x.length == 0) = false) := by simp; omega
    have hk1 : (k == 1) = false := by simp; omega
    have a1 : ¬ k < -(2 ^ 63 : Int) := by omega
    have a2 : ¬ k ≥ (2 ^ 63 : Int) := by omega
    refine PySem.P.mul_str (by rw [decide_eq_false a1, decide_eq_false a2]; rfl) (fun _ _ => ?_) (fun _ _ => ?_) ?_
    · have : (x.length : Int) ≤ (2 ^ 63 - 1) / k := by
        refine Int.le_ediv_of_mul_le (by omega) ?_
        have : ((x.length * k.toNat : Nat) : Int) ≤ ((16777216 : Nat) : Int) := Int.ofNat_le.mpr h4
        rw [Int.natCast_mul, hk] at this
        omega
      omega
    · exact decide_eq_false (by have := line_eq; simp only [PL.LINE] at this; omega)
    · rw [if_neg (by omega), if_neg (by rw [hz, hk1]; decide)]
      have e : (List.foldl (· ++ ·) #[] (List.replicate k.toNat x.cps)).toList = (List.replicate k.toNat x.cps.toList).flatten := by
        rw [foldl_flat]; simp
      refine ⟨?_, PoE.ofV ⟨.str _, H, I.tok _, ⟨_, rfl⟩, PoV.here R (mk_str e)⟩⟩
      show (List.foldl (· ++ ·) #[] (List.replicate k.toNat x.cps)).size ≤ sizeLine
      rw [← Array.length_toList, e, ← line_eq]
      simp only [List.length_flatten, List.map_replicate, List.sum_replicate_nat, PL.LINE]
      rw [← hl, Nat.mul_comm]; exact h4
  · cases e
/-- a module's constant: a text -/
theorem c_globS {x : Str} {y : Str} {l : List Nat} {t : Tok} (hm : X.mg x = some (.str y t)) (h : y.cps.toList = l := by first | rfl | decide +kernel) (hg : Gl X x := by rfl) (hd : (x == ("__debug__" : Str)) = false := by decide) : CE G X (.Name x pos) (PL.mC (.str l)) :=
  c_const (t := .str y) (pe_glob hg hm ⟨t, rfl⟩ hd) fun _ _ _ => mk_str h
end
end BR

set_option Elab.async false
set_option linter.all false
set_option maxRecDepth 100000
set_option maxHeartbeats 2000000
/-! ## min(a, b, key=f) -/
namespace BR
open PySem PySem.Spec PyProof.Rows L2
variable [Tbs]
section
variable {G : EX} {X : Cx} {α α' : List Addr} {δ : PL.Env} {S : PL.Sto} {σ : L2.St} {H H' : Hp} {pins : List (Addr × Obj)} {s : Shared}
variable {k : Nat} {f : Addr} {fd : FuncData} {ps : List Str} {m : PL.MF} {x y : Str} {e1 e2 : Expr} {ma mb : PL.ME} {p p2 pos kpos : Pos}
/-- the callee runs inside a built-in -/
theorem run_in1 (F : FnC G X.prog X.w X.K X.mg X.base k f fd ps m) (hX : Cz (k + 1) X) (hb : Binds X.K fd ps []) (I : Inv X pins σ H s) (R : Rel X.K α δ S σ H) {u : Value} {v : V} {d d' : PL.D} {S1 : PL.Sto} (rv : RelV v u) (q : RD X.K α H d v) (hm : m [d] S = some (.ok d' S1))
    {Q : Value → Shared → Prop} {E : Value → Shared → Prop} (hq : ∀ u' s' α1 v' H1, Inv X pins σ H1 s' → RelV v' u' → Ext α H α1 H1 → Rel X.K α1 δ S1 σ H1 → RD X.K α1 H1 d' v' → Q u' s') :
    wpAny (model X.prog X.w) X.A.in1 (call (.ref f) [u]) Q E s := by
  have r2 : Vals [v] [u] := .cons rv .nil
  have q2 : RDs X.K α H [d] [v] := .cons q .nil
  have hl : ([u] ++ []).length = ps.length := by
    have := F.len _ _ _ hm
    simpa using this
  have bt := hb s [u] I.kIn hl
  refine wpAny_call (codeAny_mono (F.run X.A.in1 X.stack s H ⟨[u], []⟩ [u] [v] (fun v' H' => PoV X.K α δ σ H (.ok d' S1) v' H') (fun _ _ _ => False) α [d] S _ hX.room.in1 hX.gd I.env0.in1 bt r2 R.st q2 hm fun v' α1 H1 x1 R1 q1 => ⟨α1, x1, R.mono x1 R1, q1⟩) fun r' s' hq' => ?_)
  cases r' with
  | error e =>
    obtain ⟨_, _, _, _, _, _, _, _, _, _, _, _, z⟩ := hq'
    exact z.elim
  | ok fl =>
    cases fl with
    | ret u' =>
      obtain ⟨v', H1, I1, r1, a1, x1, R1, q1⟩ := I.after hq'
      exact hq u' s' a1 v' H1 I1 r1 x1 R1 q1
    | next => exact False.elim hq'
    | brk => exact False.elim hq'
    | cont => exact False.elim hq'
theorem min_args2 (a b v : Value) : argsOk "min" ⟨[a, b], [(Str.ofString "key", v)]⟩ := by unfold argsOk; kernel_rfl
theorem min2K_run (F : FnC G X.prog X.w X.K X.mg X.base k f fd ps m) (hX : Cz (k + 1) X) (hb : Binds X.K fd ps []) (I : Inv X pins σ H s) (R : Rel X.K α δ S σ H) {u0 u1 : Value} {v0 v1 : V} {d0 d1 k0 k1 : PL.D} {S0 S1 : PL.Sto} {c : Bool}
    (r0 : RelV v0 u0) (r1 : RelV v1 u1) (q0 : RD X.K α H d0 v0) (q1 : RD X.K α H d1 v1) (h0 : m [d0] S = some (.ok k0 S0)) (h1 : m [d1] S0 = some (.ok k1 S1)) (hc : PL.opLtD k1 k0 = some (.bl c)) :
    wpAny (model X.prog X.w) X.A (call (.builtin "min") [u0, u1] [(Str.ofString "key", .ref f)]) (PoE X pins α δ σ H (.ok (if c then d1 else d0) S1)) X.xe s := by
  have hname : (toString "min" ++ toString ".loop" : String) = "min.loop" := by decide
  have hh : X.A.in1.handled = none := hX.room.in1.hd
  refine PyProof.Rows.kmk_tree PySem.F.kind_min PySem.F.plain_min PySem.F.entry_min (min_args2 _ _ _) ?_
  show wpAny _ X.A.in1 (Builtin.Builtins.bindParams "min" ["key", "default"] 0 ⟨[], [(Str.ofString "key", .ref f)]⟩ >>= _) _ _ s
  refine wpAny_bind (wpAny_of_eq (show Builtin.Builtins.bindParams "min" ["key", "default"] 0 ⟨[], [(Str.ofString "key", .ref f)]⟩ = pure [some (.ref f), none] from rfl) ?_)
  show wpAny _ X.A.in1 (newTuple [u0, u1] >>= _) _ _ s
  refine wpAny_bind (wpAny_newTuple ?_ (by show 2 ≤ sizeLine; decide))
  have ht : (s.heap.push { cls := .type "tuple", data := .seq ([u0, u1] : List Value).toArray }).IsTuple s.heap.objs.size ([u0, u1] : List Value).toArray := ⟨_, Heap.get?_push_size _ rfl, rfl, 0, rfl⟩
  refine wpAny_bind (wpAny_pyIter_tuple ht ?_)
  refine wpAny_bind (wpAny_newObj_type ?_)
  rw [hname]
  refine wpAny_pure ⟨plainId_quiet PySem.F.plain_min_loop _, ?_⟩
  -- the three objects
  generalize hT : s.heap.objs.size = T at *
  have hI : (s.heap.push { cls := .type "tuple", data := .seq ([u0, u1] : List Value).toArray }).objs.size = T + 1 := by rw [Heap.size_push, hT]
  have hS : ((s.heap.push { cls := .type "tuple", data := .seq ([u0, u1] : List Value).toArray }).push { cls := .type "tuple_iterator", data := .fields #[.ref T, .int 0 0] }).objs.size = T + 2 := by rw [Heap.size_push, hI]
  have gS : (((s.heap.push { cls := .type "tuple", data := .seq ([u0, u1] : List Value).toArray }).push { cls := .type "tuple_iterator", data := .fields #[.ref T, .int 0 0] }).push { cls := .type "list", data := .seq #[] 0 }).get? (T + 2) = some { cls := .type "list", data := .seq #[] 0 } := by
    rw [← hS]; exact Heap.get?_push_size _ rfl
  have gI : (((s.heap.push { cls := .type "tuple", data := .seq ([u0, u1] : List Value).toArray }).push { cls := .type "tuple_iterator", data := .fields #[.ref T, .int 0 0] }).push { cls := .type "list", data := .seq #[] 0 }).get? (T + 1) = some { cls := .type "tuple_iterator", data := .fields #[.ref T, .int 0 0] } := by
    rw [← hI]; exact Heap.get?_push_of_some _ (Heap.get?_push_size _ rfl)
  have gT : (((s.heap.push { cls := .type "tuple", data := .seq ([u0, u1] : List Value).toArray }).push { cls := .type "tuple_iterator", data := .fields #[.ref T, .int 0 0] }).push { cls := .type "list", data := .seq #[] 0 }).get? T = some { cls := .type "tuple", data := .seq ([u0, u1] : List Value).toArray } := by
    rw [← hT]; exact Heap.get?_push_of_some _ (Heap.get?_push_of_some _ (Heap.get?_push_size _ rfl))
  rw [hI, hS]
  have IA : Inv X pins σ H { s with heap := ((s.heap.push { cls := .type "tuple", data := .seq ([u0, u1] : List Value).toArray }).push { cls := .type "tuple_iterator", data := .fields #[.ref T, .int 0 0] }).push { cls := .type "list", data := .seq #[] 0 } } :=
    I.kept (t' := s.toks) fun b o q => Heap.get?_push_of_some _ (Heap.get?_push_of_some _ (Heap.get?_push_of_some _ q))
  generalize ((s.heap.push { cls := .type "tuple", data := .seq ([u0, u1] : List Value).toArray }).push { cls := .type "tuple_iterator", data := .fields #[.ref T, .int 0 0] }).push { cls := .type "list", data := .seq #[] 0 } = hA at *
  have nH : ∀ b, T ≤ b → H b = none := fun b hb => I.hok.fresh (by rw [hT]; exact hb)
  have fp : ∀ b, T ≤ b → ∀ H' : Hp, H' b = none → FpOk X pins H' b := fun b hb H' hn => I.fpOk (by rw [hT]; exact hb) hn
  have pin3 : ∀ {H' : Hp} {s' : Shared} (oT oI oS : Obj), Inv X pins σ H' s' → s'.heap.get? T = some oT → s'.heap.get? (T + 1) = some oI → s'.heap.get? (T + 2) = some oS → H' T = none → H' (T + 1) = none → H' (T + 2) = none →
      (∀ v, oT.data ≠ .cell v) → (∀ v, oI.data ≠ .cell v) → (∀ v, oS.data ≠ .cell v) → Inv X ((T, oT) :: (T + 1, oI) :: (T + 2, oS) :: pins) σ H' s' := fun {H' s'} oT oI oS I' g1 g2 g3 n1 n2 n3 c1 c2 c3 =>
    I'.pins_of fun p hp => by
      rcases List.mem_cons.mp hp with rfl | hp
      · exact ⟨g1, n1, (fp T (Nat.le_refl _) H' n1).2.1, (fp T (Nat.le_refl _) H' n1).2.2.1, c1⟩
      · rcases List.mem_cons.mp hp with rfl | hp
        · exact ⟨g2, n2, (fp (T + 1) (by omega) H' n2).2.1, (fp (T + 1) (by omega) H' n2).2.2.1, c2⟩
        · rcases List.mem_cons.mp hp with rfl | hp
          · exact ⟨g3, n3, (fp (T + 2) (by omega) H' n3).2.1, (fp (T + 2) (by omega) H' n3).2.2.1, c3⟩
          · exact I'.pin p (List.mem_append_right _ hp)
  have W := Walks.tuple (prog := X.prog) (w := X.w) (A := X.A.in1) hh (T + 1) T (Nat.ne_of_lt (Nat.lt_succ_self T)) ([u0, u1] : List Value).toArray
  -- the first turn
  refine codeAny_builtin PySem.F.entry_min_loop ?_
  rw [Around.under_plainId PySem.F.plain_min_loop _]
  show wpAny _ X.A.in1 (seqItems? (.ref (T + 2)) >>= _) _ _ _
  refine wpAny_bind (wpAny_seqItems gS rfl ?_)
  show wpAny _ X.A.in1 (tryCatch (pyNext (.ref (T + 1))) _ >>= _) _ _ _
  refine wpAny_bind (wpAny_tryCatch (W.item 0 _ _ _ (by simp) ⟨⟨_, gI, rfl, rfl⟩, ⟨_, gT, rfl, 0, rfl⟩⟩ fun v hB tkB hv stB kB => ?_))
  have ev : v = u0 := by simpa using hv.symm
  subst ev
  have IB : Inv X pins σ H { s with heap := hB, toks := tkB } := by
    have := IA.turnedL (ch := [T + 1]) (t' := tkB) (h' := hB) kB (fun b hb => by rw [List.mem_singleton.mp hb]; exact fp _ (by omega) _ (nH _ (by omega)))
    exact this
  obtain ⟨oI1, gI1, cI1, dI1⟩ := stB.1
  obtain ⟨oT1, gT1, cT1, nT1_, dT1⟩ := stB.2
  have gS1 : hB.get? (T + 2) = some { cls := .type "list", data := .seq #[] 0 } := kB _ _ (by simp) gS
  have IB3 := pin3 (s' := { s with heap := hB, toks := tkB }) oT1 oI1 _ IB gT1 gI1 gS1 (nH _ (Nat.le_refl _)) (nH _ (by omega)) (nH _ (by omega)) (fun x z => by rw [dT1] at z; cases z) (fun x z => by rw [dI1] at z; cases z) (fun x z => by cases z)
  show wpAny _ X.A.in1 (tryCatch (holding [v] (call (.ref f) [v])) _ >>= _) _ _ _
  refine wpAny_bind (wpAny_tryCatch (wpAny_holding (run_in1 F hX hb IB3 R r0 q0 h0 fun w0 sC α1 y0 H1 IC3 rC x1 R1 qC => ?_)))
  have nT1 : H1 T = none := (IC3.pin (T, oT1) (List.mem_append_right _ List.mem_cons_self)).2.1
  have nI1 : H1 (T + 1) = none := (IC3.pin (T + 1, oI1) (List.mem_append_right _ (List.mem_cons_of_mem _ List.mem_cons_self))).2.1
  have nS1 : H1 (T + 2) = none := (IC3.pin (T + 2, _) (List.mem_append_right _ (List.mem_cons_of_mem _ (List.mem_cons_of_mem _ List.mem_cons_self)))).2.1
  have gT2 := (IC3.pin (T, oT1) (List.mem_append_right _ List.mem_cons_self)).1
  have gI2 := (IC3.pin (T + 1, oI1) (List.mem_append_right _ (List.mem_cons_of_mem _ List.mem_cons_self))).1
  have gS2 := (IC3.pin (T + 2, _) (List.mem_append_right _ (List.mem_cons_of_mem _ (List.mem_cons_of_mem _ List.mem_cons_self)))).1
  have unpin : ∀ {H' : Hp} {s' : Shared} {oT oI oS : Obj}, Inv X ((T, oT) :: (T + 1, oI) :: (T + 2, oS) :: pins) σ H' s' → Inv X pins σ H' s' := fun {H' s' oT oI oS} I' =>
    I'.pins_of fun p hp => I'.pin p (List.mem_append_right _ (List.mem_cons_of_mem _ (List.mem_cons_of_mem _ (List.mem_cons_of_mem _ hp))))
  have IC := unpin IC3
  show wpAny _ X.A.in1 (updateSeq (T + 2) (fun _ => #[v, w0]) >>= _) _ _ _
  refine wpAny_bind ?_
  refine wpAny_updateSeq gS2 rfl ?_
  rw [hname]
  have sb2 : ∀ b o, b ∉ [T + 2] → sC.heap.get? b = some o → (sC.heap.update (T + 2) (Obj.mapSeq fun _ => #[v, w0])).get? b = some o := fun b o hb e => (Heap.get?_update_other _ _ (fun h : T + 2 = b => hb (by simp [h]))).trans e
  have ID : Inv X pins σ H1 { sC with heap := sC.heap.update (T + 2) (Obj.mapSeq fun _ => #[v, w0]), toks := sC.toks } :=
    IC.turnedL (ch := [T + 2]) (t' := sC.toks) sb2 (fun b hb => by rw [List.mem_singleton.mp hb]; exact fp _ (by omega) _ nS1)
  have gS3 := Heap.get?_update_self (Obj.mapSeq fun _ => #[v, w0]) gS2 rfl
  have gI3 := sb2 _ _ (by simp) gI2
  have gT3 := sb2 _ _ (by simp) gT2
  have q1' := q1.mono x1
  refine wpAny_pure ⟨plainId_quiet PySem.F.plain_min_loop _, ?_⟩
  -- the second turn
  refine codeAny_builtin PySem.F.entry_min_loop ?_
  rw [Around.under_plainId PySem.F.plain_min_loop _]
  show wpAny _ X.A.in1 (seqItems? (.ref (T + 2)) >>= _) _ _ _
  refine wpAny_bind (wpAny_seqItems gS3 rfl ?_)
  show wpAny _ X.A.in1 (tryCatch (pyNext (.ref (T + 1))) _ >>= _) _ _ _
  refine wpAny_bind (wpAny_tryCatch (W.item 1 _ _ _ (by simp) ⟨⟨_, gI3, cI1, dI1⟩, ⟨_, gT3, cT1, nT1_, dT1⟩⟩ fun v' hE tkE hv' stE kE => ?_))
  have ev' : v' = u1 := by simpa using hv'.symm
  subst ev'
  have IE : Inv X pins σ H1 { sC with heap := hE, toks := tkE } :=
    by
      have z := ID.turnedL (ch := [T + 1]) (t' := tkE) (h' := hE) kE (fun b hb => by rw [List.mem_singleton.mp hb]; exact fp _ (by omega) _ nI1)
      exact z
  obtain ⟨oI4, gI4, cI4, dI4⟩ := stE.1
  obtain ⟨oT4, gT4, cT4, nT4, dT4⟩ := stE.2
  have gS4 := kE _ _ (by simp) gS3
  have IE3 := pin3 (s' := { sC with heap := hE, toks := tkE }) oT4 oI4 _ IE gT4 gI4 gS4 nT1 nI1 nS1 (fun x z => by rw [dT4] at z; cases z) (fun x z => by rw [dI4] at z; cases z) (fun x z => by cases z)
  show wpAny _ X.A.in1 (tryCatch (holding [v'] (call (.ref f) [v'])) _ >>= _) _ _ _
  refine wpAny_bind (wpAny_tryCatch (wpAny_holding (run_in1 F hX hb IE3 R1 r1 q1' h1 fun w1 sF α2 y1 H2 IF3 rF x2 R2 qF => ?_)))
  have IF := unpin IF3
  have nI2 : H2 (T + 1) = none := (IF3.pin (T + 1, oI4) (List.mem_append_right _ (List.mem_cons_of_mem _ List.mem_cons_self))).2.1
  have nS2 : H2 (T + 2) = none := (IF3.pin (T + 2, _) (List.mem_append_right _ (List.mem_cons_of_mem _ (List.mem_cons_of_mem _ List.mem_cons_self)))).2.1
  have gT5 := (IF3.pin (T, oT4) (List.mem_append_right _ List.mem_cons_self)).1
  have gI5 := (IF3.pin (T + 1, oI4) (List.mem_append_right _ (List.mem_cons_of_mem _ List.mem_cons_self))).1
  have gS5 := (IF3.pin (T + 2, _) (List.mem_append_right _ (List.mem_cons_of_mem _ (List.mem_cons_of_mem _ List.mem_cons_self)))).1
  -- the last turn
  have last : ∀ (sG : Shared) (vb kb : Value) (cc : Nat) (d : PL.D) (v9 : V), Inv X pins σ H2 sG → sG.heap.get? (T + 2) = some { cls := .type "list", dict := none, data := .seq #[vb, kb] cc, slots := #[] } → sG.heap.get? (T + 1) = some oI4 → sG.heap.get? T = some oT4 →
      RelV v9 vb → RD X.K α2 H2 d v9 → codeAny (model X.prog X.w) X.A (.builtin "min.loop" ⟨[.ref (T + 1), .ref f, .ref (T + 2)], []⟩) (fun r s' => match r with | .ok (.ret v) => PoE X pins α δ σ H (.ok d S1) v s' | .ok _ => False | .error e => X.xe e s') sG := fun sG vb kb cc d v9 IG g1 g2 g3 rv9 qd => by
    refine codeAny_builtin PySem.F.entry_min_loop ?_
    rw [Around.under_plainId PySem.F.plain_min_loop _]
    show wpAny _ X.A.in1 (seqItems? (.ref (T + 2)) >>= _) _ _ _
    refine wpAny_bind (wpAny_seqItems g1 rfl ?_)
    show wpAny _ X.A.in1 (tryCatch (pyNext (.ref (T + 1))) _ >>= _) _ _ _
    refine wpAny_bind (wpAny_tryCatch (W.done _ _ _ ⟨⟨_, g2, cI4, dI4⟩, ⟨_, g3, cT4, nT4, dT4⟩⟩ fun hK tkK kK => ?_))
    have IK : Inv X pins σ H2 { sG with heap := hK, toks := tkK } := IG.turnedL (ch := [T + 1]) (t' := tkK) (h' := hK) kK (fun b hb => by rw [List.mem_singleton.mp hb]; exact fp _ (by omega) _ nI2)
    have g6 := kK _ _ (by simp) g1
    show wpAny _ X.A.in1 (updateSeq (T + 2) (fun _ => #[]) >>= _) _ _ _
    refine wpAny_bind ?_
    refine wpAny_updateSeq g6 rfl (wpAny_bind (wpAny_letGo (wpAny_pure ?_)))
    have IL : Inv X pins σ H2 { sG with heap := hK.update (T + 2) (Obj.mapSeq fun _ => #[]), toks := tkK } :=
      by
        have z := IK.turnedL (ch := [T + 2]) (t' := tkK) (h' := hK.update (T + 2) (Obj.mapSeq fun _ => #[])) (fun b o hb e => (Heap.get?_update_other _ _ (fun h : T + 2 = b => hb (by simp [h]))).trans e) (fun b hb => by rw [List.mem_singleton.mp hb]; exact fp _ (by omega) _ nS2)
        exact z
    exact ⟨α2, v9, H2, IL, rv9, x1.trans x2, R2, qd⟩
  -- what is compared
  unfold PL.opLtD at hc
  obtain ⟨hk, hc'⟩ := if_inv hc
  simp only [Bool.and_eq_true, Bool.not_eq_true'] at hk
  obtain ⟨⟨⟨k1', k2'⟩, k3'⟩, k4'⟩ := hk
  have qC2 := qC.mono x2
  obtain ⟨as, ra⟩ := Dp.reads IF (toPy k1) y1 w1 (dp_of k1' qF) rF
  obtain ⟨bs, rb⟩ := Dp.reads IF (toPy k0) y0 w0 (dp_of k2' qC2) rC
  have dp := (lay_of k1').2
  show wpAny _ X.A.in1 (tryCatch (holding [v', w1] (richCompare .Lt w1 w0 >>= _)) _ >>= _) _ _ _
  refine wpAny_bind (wpAny_tryCatch (wpAny_holding (wpAny_bind ?_)))
  show wpAny _ X.A.in1 (compareOp .Lt w1 w0) _ _ _
  refine PySem.W.lt_data ra rb (by rw [alike_of k1' k2']; exact k3') ?_ ?_ ?_
  · cases k1 <;> simp_all [toPy, PL.nonD, PL.D.okN]
  · have := hu64 hX
    show X.A.units + 1 + _ < cLine
    omega
  · rw [lt_of k1' k2' k3' k4']
    cases hc'
    refine wpAny_bind (wpAny_holding (wpAny_truthy_bool ?_))
    refine wpAny_bind (wpAny_letGo (wpAny_pure ?_))
    cases hb' : PL.ltD k1 k0 with
    | true =>
      simp only [if_true]
      refine wpAny_bind ?_
      refine wpAny_updateSeq gS5 rfl (wpAny_bind (wpAny_letGo ?_))
      rw [hname]
      have sb5 : ∀ b o, b ∉ [T + 2] → sF.heap.get? b = some o → (sF.heap.update (T + 2) (Obj.mapSeq fun _ => #[v', w1])).get? b = some o := fun b o hb e => (Heap.get?_update_other _ _ (fun h : T + 2 = b => hb (by simp [h]))).trans e
      have IM : Inv X pins σ H2 { sF with heap := sF.heap.update (T + 2) (Obj.mapSeq fun _ => #[v', w1]), toks := sF.toks } :=
        IF.turnedL (ch := [T + 2]) (t' := sF.toks) sb5 (fun b hb => by rw [List.mem_singleton.mp hb]; exact fp _ (by omega) _ nS2)
      exact wpAny_pure ⟨plainId_quiet PySem.F.plain_min_loop _, last _ v' w1 _ _ v1 IM (Heap.get?_update_self _ gS5 rfl) (sb5 _ _ (by simp) gI5) (sb5 _ _ (by simp) gT5) r1 (q1'.mono x2)⟩
    | false =>
      simp only [Bool.false_eq_true, if_false]
      refine wpAny_bind (wpAny_letGo ?_)
      rw [hname]
      exact wpAny_pure ⟨plainId_quiet PySem.F.plain_min_loop _, last _ v w0 _ _ v0 IF gS5 gI5 gT5 r0 ((q0.mono x1).mono x2)⟩
theorem min2_eq {fm : PL.MF} : PL.mMin2K fm ma mb δ S = PL.bA (PL.mConsA ma (PL.mConsA mb PL.mNilA) δ S) fun ds S2 => match ds with
    | [x, y] => match fm [x] S2 with
      | some (.ok kx S3) => match fm [y] S3 with
        | some (.ok ky S4) => match PL.opLtD ky kx with
          | some (.bl c) => some (.ok (if c then y else x) S4)
          | _ => none
        | _ => none
      | _ => none
    | _ => none := by
  unfold PL.mMin2K PL.mConsA PL.mNilA
  cases h1 : ma δ S with
  | none => rfl
  | some r1 =>
    cases r1 with
    | ex _ _ => rfl
    | ok d1 S1 =>
      simp only [PL.bE_ok, PL.bEA_ok]
      cases h2 : mb δ S1 with
      | none => rfl
      | some r2 =>
        cases r2 with
        | ex _ _ => rfl
        | ok d2 S2 => rfl
/-- a def of the module, handed on -/
theorem c_globF {x : Str} {f : Addr} (hm : X.mg x = some (.ref f)) (hg : Gl X x := by rfl) (hd : (x == ("__debug__" : Str)) = false := by decide) : CE G X (.Name x pos) (PL.mC (.adr f)) :=
  c_const (t := .ref f) (pe_glob hg hm rfl hd) fun _ _ _ => by simp [RD]
theorem c_min2K {kws : List Keyword} (F : FnC G X.prog X.w X.K X.mg X.base k f fd ps m) (hX : Cz (k + 1) X) (hf : X.mg y = some (.ref f)) (hb : Binds X.K fd ps []) (hm : X.mg "min" = none) (h1 : CE G X e1 ma) (h2 : CE G X e2 mb)
    (hkw : kws = [⟨some "key", .Name y p2, kpos⟩] := by rfl) (hgy : Gl X y := by rfl) (hdy : (y == ("__debug__" : Str)) = false := by decide) (hg : Gl X "min" := by rfl)
    (hs1 : starEach [e1, e2] X.env = (false, eval e1 X.env) :: starEach [e2] X.env := by rfl) (hs2 : starEach [e2] X.env = (false, eval e2 X.env) :: starEach [] X.env := by rfl)
    (he : backTo pos (starEach [e1, e2] X.env) = (false, eval e1 X.env) :: backTo pos (starEach [e2] X.env) := by rfl) (hpl : (backTo pos (starEach [e1, e2] X.env)).any (·.1) = false := by rfl)
    (hall : (backToKw pos (keywordEach kws X.env)).all (·.1.isSome) = true := by rfl) (hnone : (backToKw pos (keywordEach kws X.env)).any (·.1.isNone) = false := by rfl) (hks : (backToKw pos (keywordEach kws X.env)).filterMap (·.1) = [Str.ofString "key"] := by rfl) :
    CE G X (.Call (.Name "min" p) [e1, e2] kws pos) (PL.mMin2K m ma mb) := ⟨fun δ S r h0 α pins s σ H I R tk => by
  rw [min2_eq] at h0
  have ha : CA G X [e1, e2] (PL.mConsA ma (PL.mConsA mb PL.mNilA)) := ca_cons h1 (ca_cons h2 ca_nil hs2) hs1
  have hk : CK G X kws (PL.mConsA (PL.mC (.adr f)) PL.mNilA) := by subst hkw; exact ck_cons (c_globF hf hgy hdy) ck_nil
  refine wpAny_Call_Name_kw (ld_blt I hg hm (by rfl) ?_ (by decide) (by decide))
  refine PyProof.Rows.callWith_kw (ha.then pos I R h0 tk fun ds S1 h3 α1 vs H1 us s1 I1 rv x1 R1 q1 tk1 => thn (hk.run pos δ S1 (.ok [.adr f] S1) rfl α1 pins s1 σ H1 I1 R1 trivial) fun ws s2 h4 => ?_) he hpl hall hnone
  obtain ⟨α2, zs, H2, I2, rz, x2, R2, q2⟩ := h4
  rw [hks]
  match ds, h3 with
  | [d0, d1], h3 =>
    obtain ⟨v0, vr, rfl, q0, q1'⟩ := q1
    obtain ⟨v1, vr', rfl, q11, q1''⟩ := q1'
    cases q1''
    obtain ⟨z0, zr, rfl, qz, qz'⟩ := q2
    cases qz'
    cases rv with
    | cons r0 rr =>
      cases rr with
      | cons r1 rr' =>
        cases rr'
        cases rz with
        | cons rz0 rzr =>
          cases rzr
          have ez : z0 = .ref f := by simpa [RD] using qz
          subst ez
          cases rz0
          dsimp only at h3
          cases c0 : m [d0] S1 with
          | none => rw [c0] at h3; cases h3
          | some t0 =>
            rw [c0] at h3
            cases t0 with
            | ex _ _ => cases h3
            | ok k0 S3 =>
              simp only at h3
              cases c1 : m [d1] S3 with
              | none => rw [c1] at h3; cases h3
              | some t1 =>
                rw [c1] at h3
                cases t1 with
                | ex _ _ => cases h3
                | ok k1 S4 =>
                  simp only at h3
                  split at h3
                  · rename_i c hc
                    cases h3
                    exact thn (min2K_run F hX hb I2 R2 r0 r1 (q0.mono x2) (q11.mono x2) c0 c1 hc) fun u s' hu => hu.ext (x1.trans x2)
                  · cases h3
  | [], h3 => cases h3
  | [_], h3 => cases h3
  | _ :: _ :: _ :: _, h3 => cases h3⟩
theorem d_gtX (hX : Cz k X) : OpD X (compareOp .Gt) PL.opGtX := by
  intro x y z e α δ S pins s σ H v w u1 u2 I R q1 q2 r1 r2
  have gen : PL.opLtD y x = some z → wpAny (model X.prog X.w) X.A (compareOp .Gt u1 u2) (PoE X pins α δ σ H (.ok z S)) X.xe s := fun e => by
    unfold PL.opLtD at e
    obtain ⟨h, rfl⟩ := if_inv e
    simp only [Bool.and_eq_true, Bool.not_eq_true'] at h
    obtain ⟨⟨⟨h2, h1⟩, h3⟩, h4⟩ := h
    obtain ⟨as, ra⟩ := Dp.reads I (toPy x) v u1 (dp_of h1 q1) r1
    obtain ⟨bs, rb⟩ := Dp.reads I (toPy y) w u2 (dp_of h2 q2) r2
    have dp := (lay_of h1).2
    have h3' : PySem.W.alike (toPy y) (toPy x) = true := by rw [alike_of h2 h1]; exact h3
    refine PySem.W.gt_data ra rb (by first | exact h3' | (rw [PySem.W.alike_comm]; exact h3')) ?_ ?_ ?_
    · cases x <;> cases y <;> simp_all [toPy, PL.nonD, PL.D.okN, PL.alikeD]
    · have := hu64 hX
      omega
    · rw [lt_of h2 h1 h3 h4]
      exact PoE.here (v := .bl _) I rfl R mk_bl
  have int : ∀ i j, x = .int i → y = .int j → wpAny (model X.prog X.w) X.A (compareOp .Gt u1 u2) (PoE X pins α δ σ H (.ok z S)) X.xe s := fun i j ex ey => by
    subst ex ey
    exact d_gt (.int i) (.int j) z e α δ S pins s σ H v w u1 u2 I R q1 q2 r1 r2
  cases x <;> cases y <;> first | exact int _ _ rfl rfl | exact gen e
end
end BR

set_option Elab.async false
set_option linter.all false
set_option maxRecDepth 100000
set_option maxHeartbeats 4000000
/-! the mirror of K04: printed by gen.py -/
namespace K04
open PL
noncomputable section
/-- _law_turns(turn, one, other) : turn one other -/
def M__law_turns : MF := mFn 3 0 (mRet (mBin opEq (mCall LM.M__law_plain (mConsA (mBin opAdd (mBin opAdd (mVar 0) (mVar 1)) (mCall LM.M__law_back (mConsA (mVar 0) mNilA))) mNilA)) (mVar 2)))
/-- _law_first(letters, one, other, most) : letters one other most lots steps letter size turn more step -/
def L__law_first_1 : MS := mFor (.name 6) (mItRange2 (mC (.int 1)) (mBin opAdd (mVar 0) (mC (.int 1)))) (mSet 5 (mBin opAdd (mVar 5) (mLst (mConsA (mVar 6) (mConsA (mUn opNeg (mVar 6)) mNilA)))))
def L__law_first_2 : MS := mFor (.name 8) (mItSeq (mVar 4)) (mIfS (mB (mCall M__law_turns (mConsA (mVar 8) (mConsA (mVar 1) (mConsA (mVar 2) mNilA))))) (mRet (mLst (mConsA (mVar 8) mNilA))) mPass)
def L__law_first_3 : MS := mFor (.name 8) (mItSeq (mVar 4)) (mSet 9 (mBin opAdd (mVar 9) (mComp [10] (.name 10) (mItSeq (mVar 5)) (mOrT (mB (mBin opEq (mVar 8) (mTup mNilA))) (mB (mBin opNe (mBinS opIx (mVar 8) (mUn opNeg (mC (.int 1)))) (mUn opNeg (mVar 10))))) (mBin opAdd (mVar 8) (mTup (mConsA (mVar 10) mNilA))))))
def L__law_first_4 : MS := mFor (.name 7) (mItRange1 (mBin opAdd (mVar 3) (mC (.int 1)))) (mSeq L__law_first_2 (mSeq (mSet 9 (mLst mNilA)) (mSeq L__law_first_3 (mSet 4 (mVar 9)))))
def M__law_first : MF := mFn 4 7 (mSeq (mSet 4 (mLst (mConsA (mTup mNilA) mNilA))) (mSeq (mSet 5 (mLst mNilA)) (mSeq L__law_first_1 (mSeq L__law_first_4 (mRet (mLst mNilA))))))
/-- least_spot(ring) : ring keys long best other size step left right -/
def L_least_spot_1 : MS := mWhile (mAndT (mB (mBin opLt (mBI biMax (mConsA (mVar 3) (mConsA (mVar 4) mNilA))) (mVar 2))) (mB (mBin opLt (mVar 5) (mVar 2)))) (mSeq (mPar 7 8 (mBinS opIx (mVar 1) (mBin opMod (mBin opAdd (mVar 3) (mVar 5)) (mVar 2))) (mBinS opIx (mVar 1) (mBin opMod (mBin opAdd (mVar 4) (mVar 5)) (mVar 2)))) (mIfS (mB (mBin opEq (mVar 7) (mVar 8))) (mSet 5 (mBin opAdd (mVar 5) (mC (.int 1)))) (mSeq (mIfS (mB (mBin opGtX (mVar 7) (mVar 8))) (mSet 3 (mBin opAdd (mBin opAdd (mVar 3) (mVar 5)) (mC (.int 1)))) (mSet 4 (mBin opAdd (mBin opAdd (mVar 4) (mVar 5)) (mC (.int 1))))) (mSeq (mIfS (mB (mBin opEq (mVar 3) (mVar 4))) (mSet 4 (mBin opAdd (mVar 4) (mC (.int 1)))) mPass) (mSet 5 (mC (.int 0)))))))
def M_least_spot : MF := mFn 1 8 (mSeq (mSet 1 (mComp [6] (.name 6) (mItSeq (mVar 0)) mTrue (mCall LM.M_key_of (mConsA (mTup (mConsA (mVar 6) mNilA)) mNilA)))) (mSeq (mAsg (.tup [.name 2, .name 3, .name 4, .name 5]) (mTup (mConsA (mBI biLen (mConsA (mVar 0) mNilA)) (mConsA (mC (.int 0)) (mConsA (mC (.int 1)) (mConsA (mC (.int 0)) mNilA)))))) (mSeq L_least_spot_1 (mRet (mBI biMin (mConsA (mVar 3) (mConsA (mVar 4) mNilA)))))))
/-- first_by_turns(turn, root) : turn root best step here short -/
def L_first_by_turns_1 : MS := mWhile (mB (mBin opLe (mBI biLen (mConsA (mVar 4) mNilA)) (mVar 5))) (mSeq (mSet 2 (mMin2K LM.M_key_of (mVar 2) (mVar 4))) (mSet 4 (mCall LM.M_behind_of (mConsA (mVar 4) (mConsA (mVar 3) mNilA)))))
def L_first_by_turns_2 : MS := mFor (.name 3) (mItSeq (mTup (mConsA (mVar 1) (mConsA (mCall LM.M_back_of (mConsA (mVar 1) mNilA)) mNilA)))) (mSeq (mPar 4 5 (mVar 0) (mBin opAdd (mBI biLen (mConsA (mVar 0) mNilA)) (mBin opMul (mC (.int 2)) (mBI biLen (mConsA (mVar 1) mNilA))))) L_first_by_turns_1)
def M_first_by_turns : MF := mFn 2 4 (mSeq (mSet 2 (mVar 0)) (mSeq L_first_by_turns_2 (mRet (mVar 2))))
/-- turning(letters, one, other) : letters one other spots left right begin end -/
def M_turning : MF := mFn 3 5 (mSeq (mDrop (mCall LM.M_need_course (mConsA (mVar 0) (mConsA (mVar 1) mNilA)))) (mSeq (mPar 4 5 (mCall LM.M_parted (mConsA (mCall LM.M_plain_of (mConsA (mVar 1) mNilA)) mNilA)) (mCall LM.M_parted (mConsA (mCall LM.M_plain_of (mConsA (mCall LM.M_need_course (mConsA (mVar 0) (mConsA (mVar 2) mNilA))) mNilA)) mNilA))) (mSeq (mIfS (mOrT (mB (mBin opEq (mBinS opIx (mVar 4) (mC (.int 1))) (mTup mNilA))) (mB (mBin opEq (mBinS opIx (mVar 5) (mC (.int 1))) (mTup mNilA)))) (mRet (mIf (mB (mBin opEq (mBinS opIx (mVar 4) (mC (.int 1))) (mBinS opIx (mVar 5) (mC (.int 1))))) (mTup mNilA) (mC .non))) mPass) (mSeq (mSet 3 (mTup (mConsA (mCall M_least_spot (mConsA (mBinS opIx (mVar 4) (mC (.int 1))) mNilA)) (mConsA (mCall M_least_spot (mConsA (mBinS opIx (mVar 5) (mC (.int 1))) mNilA)) mNilA)))) (mSeq (mIfS (mB (mBin opNe (mCall LM.M_turned_to (mConsA (mBinS opIx (mVar 4) (mC (.int 1))) (mConsA (mBinS opIx (mVar 3) (mC (.int 0))) mNilA))) (mCall LM.M_turned_to (mConsA (mBinS opIx (mVar 5) (mC (.int 1))) (mConsA (mBinS opIx (mVar 3) (mC (.int 1))) mNilA))))) (mRet (mC .non)) mPass) (mSeq (mPar 6 7 (mCall LM.M_behind_of (mConsA (mBinS opIx (mVar 4) (mC (.int 0))) (mConsA (mSlice (mBinS opIx (mVar 4) (mC (.int 1))) none (some (mBinS opIx (mVar 3) (mC (.int 0))))) mNilA))) (mCall LM.M_behind_of (mConsA (mBinS opIx (mVar 5) (mC (.int 0))) (mConsA (mSlice (mBinS opIx (mVar 5) (mC (.int 1))) none (some (mBinS opIx (mVar 3) (mC (.int 1))))) mNilA)))) (mRet (mCall M_first_by_turns (mConsA (mCall LM.M_behind_of (mConsA (mVar 7) (mConsA (mCall LM.M_back_of (mConsA (mVar 6) mNilA)) mNilA))) (mConsA (mBinS opIx (mCall LM.M_rooted (mConsA (mCall LM.M_plain_of (mConsA (mVar 1) mNilA)) mNilA)) (mC (.int 0))) mNilA))))))))))
/-- _law_small_right(m) : m letters other due one turn -/
def M__law_small_right : MF := mFn 1 5 (mSeq (mSet 1 (mBin opAdd (mC (.int 1)) (mCall LM.M__law_next (mConsA (mVar 0) (mConsA (mC (.int 2)) mNilA))))) (mSeq (mPar 4 5 (mCall LM.M__law_plain (mConsA (mCall LM.M__law_steps (mConsA (mVar 0) (mConsA (mVar 1) (mConsA (mC (.int 6)) mNilA)))) mNilA)) (mCall LM.M__law_plain (mConsA (mCall LM.M__law_steps (mConsA (mVar 0) (mConsA (mVar 1) (mConsA (mC (.int 3)) mNilA)))) mNilA))) (mSeq (mSet 2 (mCall LM.M__law_plain (mConsA (mBin opAdd (mBin opAdd (mVar 5) (mVar 4)) (mCall LM.M__law_back (mConsA (mVar 5) mNilA))) mNilA))) (mSeq (mSet 3 (mCall M__law_first (mConsA (mVar 1) (mConsA (mVar 4) (mConsA (mVar 2) (mConsA (mBI biLen (mConsA (mVar 5) mNilA)) mNilA)))))) (mRet (mAndV (mBin opNe (mVar 3) (mLst mNilA)) (mBin opEq (mCall M_turning (mConsA (mVar 1) (mConsA (mVar 4) (mConsA (mVar 2) mNilA)))) (mBinS opIx (mVar 3) (mC (.int 0))))))))))
/-- ring_of(letters, course) : letters course handle ring -/
def M_ring_of : MF := mFn 2 2 (mSeq (mAsg (.tup [.name 2, .name 3]) (mCall LM.M_ring_part (mConsA (mVar 0) (mConsA (mVar 1) mNilA)))) (mRet (mIf (mB (mBin opEq (mVar 3) (mTup mNilA))) (mTup mNilA) (mCall LM.M_turned_to (mConsA (mVar 3) (mConsA (mCall M_least_spot (mConsA (mVar 3) mNilA)) mNilA))))))
/-- _law_ring(steps) : steps best spot -/
def L__law_ring_1 : MS := mWhile (mAndT (mB (mBin opGt (mBI biLen (mConsA (mVar 0) mNilA)) (mC (.int 1)))) (mB (mBin opEq (mBinS opIx (mVar 0) (mC (.int 0))) (mUn opNeg (mBinS opIx (mVar 0) (mUn opNeg (mC (.int 1)))))))) (mSet 0 (mSlice (mVar 0) (some (mC (.int 1))) (some (mUn opNeg (mC (.int 1))))))
def L__law_ring_2 : MS := mFor (.name 2) (mItRange1 (mBI biLen (mConsA (mVar 0) mNilA))) (mIfS (mB (mBin opLt (mCall LM.M__law_key (mConsA (mBin opAdd (mSlice (mVar 0) (some (mVar 2)) none) (mSlice (mVar 0) none (some (mVar 2)))) mNilA)) (mCall LM.M__law_key (mConsA (mVar 1) mNilA)))) (mSet 1 (mBin opAdd (mSlice (mVar 0) (some (mVar 2)) none) (mSlice (mVar 0) none (some (mVar 2))))) mPass)
def M__law_ring : MF := mFn 1 2 (mSeq L__law_ring_1 (mSeq (mSet 1 (mVar 0)) (mSeq L__law_ring_2 (mRet (mVar 1)))))
/-- _law_great_right(m) : m letters left bent thing best many one turn other kept spin more told lets -/
def L__law_great_right_1 (ω : D → List Nat) : MS := mFor (.name 11) (mItSeq (mTup (mConsA (mVar 8) (mConsA (mIf (mB (mBin opIsN (mVar 13) (mC .non))) (mTup mNilA) (mVar 13)) (mConsA (mBin opAdd (mVar 8) (mTup (mConsA (mC (.int 1)) mNilA))) (mConsA (mBin opAdd (mVar 8) (mVar 2)) (mConsA (mCall LM.M__law_back (mConsA (mVar 8) mNilA)) mNilA))))))) (mIfS (mB (mBin opNe (mBI (biRepr ω) (mConsA (mCall LM.M_check_turning (mConsA (mVar 1) (mConsA (mVar 7) (mConsA (mVar 4) (mConsA (mVar 11) mNilA))))) mNilA)) (mBI (biRepr ω) (mConsA (mCall M__law_turns (mConsA (mVar 11) (mConsA (mVar 2) (mConsA (mCall LM.M__law_plain (mConsA (mVar 4) mNilA)) mNilA)))) mNilA)))) (mRet (mC (.bl false))) mPass)
def L__law_great_right_2 (ω : D → List Nat) : MS := mFor (.name 4) (mItSeq (mTup (mConsA (mVar 9) (mConsA (mVar 3) (mConsA (mCall LM.M__law_back (mConsA (mVar 9) mNilA)) (mConsA (mCall LM.M__law_steps (mConsA (mVar 0) (mConsA (mVar 1) (mConsA (mC (.int 30)) mNilA)))) mNilA)))))) (mSeq (mPar 13 14 (mCall M_turning (mConsA (mVar 1) (mConsA (mVar 7) (mConsA (mVar 4) mNilA)))) (mBin opEq (mCall M__law_ring (mConsA (mCall LM.M__law_plain (mConsA (mVar 4) mNilA)) mNilA)) (mCall M__law_ring (mConsA (mVar 2) mNilA)))) (mSeq (mIfS (mB (mBin opEq (mBin opIsN (mVar 13) (mC .non)) (mVar 14))) (mRet (mC (.bl false))) mPass) (mSeq (mIfS (mAndT (mB (mVar 14)) (mOrT (mB (mBin opNe (mCall LM.M_plain_course (mConsA (mVar 1) (mConsA (mVar 13) mNilA))) (mVar 13))) (mNotT (mB (mCall M__law_turns (mConsA (mVar 13) (mConsA (mVar 2) (mConsA (mCall LM.M__law_plain (mConsA (mVar 4) mNilA)) mNilA)))))))) (mRet (mC (.bl false))) mPass) (L__law_great_right_1 ω))))
def L__law_great_right_3 : MS := mFor (.name 12) (mItSeq (mTup (mConsA (mBin opAdd (mVar 5) (mBin opMul (mVar 2) (mVar 6))) (mConsA (mBin opAdd (mVar 5) (mBin opMul (mCall LM.M__law_back (mConsA (mVar 2) mNilA)) (mVar 6))) (mConsA (mBin opAdd (mVar 8) (mBin opMul (mVar 2) (mVar 6))) mNilA))))) (mIfS (mB (mBin opLt (mCall LM.M__law_key (mConsA (mCall LM.M__law_plain (mConsA (mVar 12) mNilA)) mNilA)) (mCall LM.M__law_key (mConsA (mVar 5) mNilA)))) (mRet (mC (.bl false))) mPass)
def L__law_great_right_4 : MS := mFor (.name 6) (mItRange2 (mC (.int 1)) (mC (.int 4))) L__law_great_right_3
def M__law_great_right (ω : D → List Nat) : MF := mFn 1 14 (mSeq (mSet 1 (mBin opAdd (mC (.int 1)) (mCall LM.M__law_next (mConsA (mVar 0) (mConsA (mC (.int 8)) mNilA))))) (mSeq (mPar 7 8 (mCall LM.M__law_steps (mConsA (mVar 0) (mConsA (mVar 1) (mConsA (mC (.int 30)) mNilA)))) (mCall LM.M__law_steps (mConsA (mVar 0) (mConsA (mVar 1) (mConsA (mC (.int 12)) mNilA))))) (mSeq (mSet 2 (mCall LM.M__law_plain (mConsA (mVar 7) mNilA))) (mSeq (mPar 9 10 (mCall LM.M__law_plain (mConsA (mBin opAdd (mBin opAdd (mVar 8) (mVar 7)) (mCall LM.M__law_back (mConsA (mVar 8) mNilA))) mNilA)) (mBI (biRepr ω) (mConsA (mTup (mConsA (mVar 7) (mConsA (mVar 8) mNilA))) mNilA))) (mSeq (mIfS (mOrT (mB (mBin opNe (mCall M_ring_of (mConsA (mVar 1) (mConsA (mVar 7) mNilA))) (mCall M__law_ring (mConsA (mVar 2) mNilA)))) (mB (mBin opNe (mCall M_ring_of (mConsA (mVar 1) (mConsA (mBin opAdd (mVar 9) (mTup (mConsA (mC (.int 1)) (mConsA (mUn opNeg (mC (.int 1))) mNilA)))) mNilA))) (mCall M__law_ring (mConsA (mVar 2) mNilA))))) (mRet (mC (.bl false))) mPass) (mSeq (mSet 3 (mBin opAdd (mVar 9) (mTup (mConsA (mC (.int 1)) mNilA)))) (mSeq (L__law_great_right_2 ω) (mSeq (mSet 5 (mCall M_turning (mConsA (mVar 1) (mConsA (mVar 7) (mConsA (mVar 9) mNilA))))) (mSeq L__law_great_right_4 (mRet (mBin opEq (mBI (biRepr ω) (mConsA (mTup (mConsA (mVar 7) (mConsA (mVar 8) mNilA))) mNilA)) (mVar 10))))))))))))
/-- law(script) : script m turn long spun told odd place error -/
def L_law_1 (ω : D → List Nat) : MS := mFor (.name 2) (mItRange1 (mBin opAdd (mC (.int 4)) (mBI biMin (mConsA (mBI biLen (mConsA (mVar 0) mNilA)) (mConsA (mC (.int 5)) mNilA))))) (mIfS (mOrT (mNotT (mB (mCall M__law_small_right (mConsA (mVar 1) mNilA)))) (mNotT (mB (mCall (M__law_great_right ω) (mConsA (mVar 1) mNilA))))) (mRet (mC (.bl false))) mPass)
def L_law_2 : MS := mFor (.name 6) (mItSeq (mTup (mConsA (mTup (mConsA (mC (.int 1)) (mConsA (mC (.int 3)) mNilA))) (mConsA (mLst (mConsA (mC (.int 1)) mNilA)) (mConsA (mC .non) mNilA))))) (mSeq (mSet 7 (mTup mNilA)) (mSeq (mTry fnE (mDrop (mCall LM.M_check_turning (mConsA (mC (.int 2)) (mConsA (mTup (mConsA (mC (.int 1)) mNilA)) (mConsA (mTup (mConsA (mC (.int 1)) mNilA)) (mConsA (mVar 6) mNilA)))))) [⟨lkB [some true, some false, none, none, none, none, none, none, none, none, none, none, none], some 8, fun a dd => mSet 7 (mUn (opXF a dd "place") (mVar 8))⟩]) (mIfS (mB (mBin opNe (mVar 7) (mIf (mB (mUn (opIsI isTuple) (mVar 6))) (mC (.int 1)) (mC .non)))) (mRet (mC (.bl false))) mPass)))
def M_law (ω : D → List Nat) : MF := mFn 1 8 (mSeq (mSet 1 (mCall LM.M__law_begun (mConsA (mVar 0) mNilA))) (mSeq (L_law_1 ω) (mSeq (mSet 3 (mBin opAdd (mBin opMul (mTup (mConsA (mC (.int 1)) (mConsA (mC (.int 2)) (mConsA (mC (.int 2)) mNilA)))) (mC (.int 99))) (mTup (mConsA (mC (.int 1)) (mConsA (mC (.int 1)) (mConsA (mC (.int 1)) mNilA)))))) (mSeq (mSet 4 (mBin opAdd (mSlice (mVar 3) (some (mC (.int 100))) none) (mSlice (mVar 3) none (some (mC (.int 100)))))) (mSeq (mSet 5 (mCall M_turning (mConsA (mC (.int 2)) (mConsA (mVar 3) (mConsA (mVar 4) mNilA))))) (mSeq (mIfS (mOrT (mNotT (mB (mCall M__law_turns (mConsA (mVar 5) (mConsA (mVar 3) (mConsA (mVar 4) mNilA)))))) (mOrT (mB (mBin opNe (mBI biLen (mConsA (mVar 5) mNilA)) (mC (.int 100)))) (mB (mBin opNe (mCall M_ring_of (mConsA (mC (.int 2)) (mConsA (mVar 4) mNilA))) (mCall M__law_ring (mConsA (mVar 3) mNilA)))))) (mRet (mC (.bl false))) mPass) (mSeq (mIfS (mOrT (mB (mBin opNe (mCall M_turning (mConsA (mC (.int 2)) (mConsA (mBin opMul (mTup (mConsA (mC (.int 1)) (mConsA (mC (.int 2)) mNilA))) (mC (.int 900))) (mConsA (mBin opMul (mTup (mConsA (mC (.int 2)) (mConsA (mC (.int 1)) mNilA))) (mC (.int 900))) mNilA)))) (mTup (mConsA (mUn opNeg (mC (.int 1))) mNilA)))) (mB (mCall LM.M_check_turning (mConsA (mC (.int 2)) (mConsA (mTup (mConsA (mC (.int 1)) mNilA)) (mConsA (mTup (mConsA (mC (.int 1)) mNilA)) (mConsA (mBin opMul (mTup (mConsA (mC (.int 2)) mNilA)) (mC (.int 1900))) mNilA))))))) (mRet (mC (.bl false))) mPass) (mSeq (mIfS (mOrT (mNotT (mB (mCall LM.M_check_turning (mConsA (mC (.int 2)) (mConsA (mTup (mConsA (mC (.int 1)) mNilA)) (mConsA (mTup (mConsA (mC (.int 1)) mNilA)) (mConsA (mBin opMul (mTup (mConsA (mC (.int 1)) mNilA)) (mC (.int 1900))) mNilA))))))) (mB (mBin opIsNotN (mCall M_turning (mConsA (mC (.int 2)) (mConsA (mBin opMul (mTup (mConsA (mC (.int 1)) mNilA)) (mC (.int 1900))) (mConsA (mBin opMul (mTup (mConsA (mC (.int 2)) mNilA)) (mC (.int 1900))) mNilA)))) (mC .non)))) (mRet (mC (.bl false))) mPass) (mSeq L_law_2 (mRet (mAndV (mBin opEq (mCall M_turning (mConsA (mC (.int 1)) (mConsA (mTup (mConsA (mC (.int 1)) (mConsA (mUn opNeg (mC (.int 1))) mNilA))) (mConsA (mTup mNilA) mNilA)))) (mTup mNilA)) (mAndV (mBin opIsN (mCall M_turning (mConsA (mC (.int 1)) (mConsA (mTup mNilA) (mConsA (mTup (mConsA (mC (.int 1)) mNilA)) mNilA)))) (mC .non)) (mCall LM.M_check_turning (mConsA (mC (.int 1)) (mConsA (mTup mNilA) (mConsA (mTup (mConsA (mC (.int 1)) (mConsA (mUn opNeg (mC (.int 1))) mNilA))) (mConsA (mTup (mConsA (mC (.int 1)) mNilA)) mNilA)))))))))))))))))
end
end K04

set_option Elab.async false
set_option linter.all false
set_option maxRecDepth 100000
set_option maxHeartbeats 4000000
/-! the walk of K04: printed by gen.py -/
namespace K04
open PySem PySem.Spec PyProof.Rows L2 PL BR
def topS (i : Nat) : Stmt := PySem.Challenge.pw_homecourses_k04_whole_turnings.main.body.getD i (.Pass ⟨0, 0, 0, 0⟩)
abbrev st31 : Stmt := topS 31
theorem sc31 : FnScope ["script", "cell"] ["script"] (defScope st31) := ⟨rfl, rfl, rfl, by decide +kernel, rfl, by decide +kernel, by decide +kernel⟩
abbrev st32 : Stmt := topS 32
theorem sc32 : FnScope ["m", "many", "at", "cell", "blend", "rest"] ["m", "many"] (defScope st32) := ⟨rfl, rfl, rfl, by decide +kernel, rfl, by decide +kernel, by decide +kernel⟩
abbrev st35 : Stmt := topS 35
theorem sc35 : FnScope ["steps", "left", "at"] ["steps"] (defScope st35) := ⟨rfl, rfl, rfl, by decide +kernel, rfl, by decide +kernel, by decide +kernel⟩
abbrev st33 : Stmt := topS 33
theorem sc33 : FnScope ["m", "some"] ["m", "some"] (defScope st33) := ⟨rfl, rfl, rfl, by decide +kernel, rfl, by decide +kernel, by decide +kernel⟩
abbrev st34 : Stmt := topS 34
theorem sc34 : FnScope ["m", "letters", "most", "found", "turn", "step"] ["m", "letters", "most"] (defScope st34) := ⟨rfl, rfl, rfl, by decide +kernel, rfl, by decide +kernel, by decide +kernel⟩
abbrev st36 : Stmt := topS 36
theorem sc36 : FnScope ["steps", "found", "step"] ["steps"] (defScope st36) := ⟨rfl, rfl, rfl, by decide +kernel, rfl, by decide +kernel, by decide +kernel⟩
abbrev st39 : Stmt := topS 39
theorem sc39 : FnScope ["turn", "one", "other"] ["turn", "one", "other"] (defScope st39) := ⟨rfl, rfl, rfl, by decide +kernel, rfl, by decide +kernel, by decide +kernel⟩
abbrev st40 : Stmt := topS 40
theorem sc40 : FnScope ["letters", "one", "other", "most", "lots", "steps", "letter", "size", "turn", "more", "step"] ["letters", "one", "other", "most"] (defScope st40) := ⟨rfl, rfl, rfl, by decide +kernel, rfl, by decide +kernel, by decide +kernel⟩
abbrev st5 : Stmt := topS 5
theorem sc5 : FnScope ["thing"] ["thing"] (defScope st5) := ⟨rfl, rfl, rfl, by decide +kernel, rfl, by decide +kernel, by decide +kernel⟩
abbrev st6 : Stmt := topS 6
theorem sc6 : FnScope ["thing", "least", "most"] ["thing", "least", "most"] (defScope st6) := ⟨rfl, rfl, rfl, by decide +kernel, rfl, by decide +kernel, by decide +kernel⟩
abbrev st11 : Stmt := topS 11
theorem sc11 : FnScope ["letters"] ["letters"] (defScope st11) := ⟨rfl, rfl, rfl, by decide +kernel, rfl, by decide +kernel, by decide +kernel⟩
abbrev st7 : Stmt := topS 7
theorem sc7 : FnScope ["thing", "least", "most"] ["thing", "least", "most"] (defScope st7) := ⟨rfl, rfl, rfl, by decide +kernel, rfl, by decide +kernel, by decide +kernel⟩
abbrev st12 : Stmt := topS 12
theorem sc12 : FnScope ["letters", "thing"] ["letters", "thing"] (defScope st12) := ⟨rfl, rfl, rfl, by decide +kernel, rfl, by decide +kernel, by decide +kernel⟩
abbrev st13 : Stmt := topS 13
theorem sc13 : FnScope ["letters", "course", "number", "step"] ["letters", "course"] (defScope st13) := ⟨rfl, rfl, rfl, by decide +kernel, rfl, by decide +kernel, by decide +kernel⟩
abbrev st19 : Stmt := topS 19
theorem sc19 : FnScope ["steps", "shared"] ["steps"] (defScope st19) := ⟨rfl, rfl, rfl, by decide +kernel, rfl, by decide +kernel, by decide +kernel⟩
abbrev st14 : Stmt := topS 14
theorem sc14 : FnScope ["steps", "found", "step"] ["steps"] (defScope st14) := ⟨rfl, rfl, rfl, by decide +kernel, rfl, by decide +kernel, by decide +kernel⟩
abbrev st17 : Stmt := topS 17
theorem sc17 : FnScope ["steps", "step"] ["steps"] (defScope st17) := ⟨rfl, rfl, rfl, by decide +kernel, rfl, by decide +kernel, by decide +kernel⟩
abbrev st24 : Stmt := topS 24
theorem sc24 : FnScope ["ring", "keys", "long", "best", "other", "size", "step", "left", "right"] ["ring"] (defScope st24) := ⟨rfl, rfl, rfl, by decide +kernel, rfl, by decide +kernel, by decide +kernel⟩
abbrev st25 : Stmt := topS 25
theorem sc25 : FnScope ["ring", "spot"] ["ring", "spot"] (defScope st25) := ⟨rfl, rfl, rfl, by decide +kernel, rfl, by decide +kernel, by decide +kernel⟩
abbrev st16 : Stmt := topS 16
theorem sc16 : FnScope ["one", "other", "shared"] ["one", "other"] (defScope st16) := ⟨rfl, rfl, rfl, by decide +kernel, rfl, by decide +kernel, by decide +kernel⟩
abbrev st15 : Stmt := topS 15
theorem sc15 : FnScope ["steps", "step"] ["steps"] (defScope st15) := ⟨rfl, rfl, rfl, by decide +kernel, rfl, by decide +kernel, by decide +kernel⟩
abbrev st27 : Stmt := topS 27
theorem sc27 : FnScope ["turn", "root", "best", "step", "here", "short"] ["turn", "root"] (defScope st27) := ⟨rfl, rfl, rfl, by decide +kernel, rfl, by decide +kernel, by decide +kernel⟩
abbrev st22 : Stmt := topS 22
theorem sc22 : FnScope ["ring", "borders", "at", "period", "size"] ["ring"] (defScope st22) := ⟨rfl, rfl, rfl, by decide +kernel, rfl, by decide +kernel, by decide +kernel⟩
abbrev st23 : Stmt := topS 23
theorem sc23 : FnScope ["steps", "period", "handle", "ring"] ["steps"] (defScope st23) := ⟨rfl, rfl, rfl, by decide +kernel, rfl, by decide +kernel, by decide +kernel⟩
abbrev st28 : Stmt := topS 28
theorem sc28 : FnScope ["letters", "one", "other", "spots", "left", "right", "begin", "end"] ["letters", "one", "other"] (defScope st28) := ⟨rfl, rfl, rfl, by decide +kernel, rfl, by decide +kernel, by decide +kernel⟩
abbrev st41 : Stmt := topS 41
theorem sc41 : FnScope ["m", "letters", "other", "due", "one", "turn"] ["m"] (defScope st41) := ⟨rfl, rfl, rfl, by decide +kernel, rfl, by decide +kernel, by decide +kernel⟩
abbrev st21 : Stmt := topS 21
theorem sc21 : FnScope ["letters", "course"] ["letters", "course"] (defScope st21) := ⟨rfl, rfl, rfl, by decide +kernel, rfl, by decide +kernel, by decide +kernel⟩
abbrev st26 : Stmt := topS 26
theorem sc26 : FnScope ["letters", "course", "handle", "ring"] ["letters", "course"] (defScope st26) := ⟨rfl, rfl, rfl, by decide +kernel, rfl, by decide +kernel, by decide +kernel⟩
abbrev st37 : Stmt := topS 37
theorem sc37 : FnScope ["steps", "step"] ["steps"] (defScope st37) := ⟨rfl, rfl, rfl, by decide +kernel, rfl, by decide +kernel, by decide +kernel⟩
abbrev st38 : Stmt := topS 38
theorem sc38 : FnScope ["steps", "best", "spot"] ["steps"] (defScope st38) := ⟨rfl, rfl, rfl, by decide +kernel, rfl, by decide +kernel, by decide +kernel⟩
abbrev st18 : Stmt := topS 18
theorem sc18 : FnScope ["letters", "course"] ["letters", "course"] (defScope st18) := ⟨rfl, rfl, rfl, by decide +kernel, rfl, by decide +kernel, by decide +kernel⟩
abbrev st29 : Stmt := topS 29
theorem sc29 : FnScope ["letters", "one", "other", "turn", "turned"] ["letters", "one", "other", "turn"] (defScope st29) := ⟨rfl, rfl, rfl, by decide +kernel, rfl, by decide +kernel, by decide +kernel⟩
abbrev st42 : Stmt := topS 42
theorem sc42 : FnScope ["m", "letters", "left", "bent", "thing", "best", "many", "one", "turn", "other", "kept", "spin", "more", "told", "lets"] ["m"] (defScope st42) := ⟨rfl, rfl, rfl, by decide +kernel, rfl, by decide +kernel, by decide +kernel⟩
abbrev st43 : Stmt := topS 43
theorem sc43 : FnScope ["script", "m", "turn", "long", "spun", "told", "odd", "place", "error"] ["script"] (defScope st43) := ⟨rfl, rfl, rfl, by decide +kernel, rfl, by decide +kernel, by decide +kernel⟩
abbrev siBadNumber : Stmt := clsInit (topS 3)
abbrev siBadCourse : Stmt := clsInit (topS 2)
/-- what the module has: its defs, its constants, the names that it has not -/
structure Wt (P : Program) (K : PySem.W.Frag) (mg : Str → Option Value) : Type where
  f31 : Addr
  fd31 : FuncData
  F31 : Fun K "_law_begun" "_law_begun" st31 f31 fd31
  g31 : mg "_law_begun" = some (.ref f31)
  f32 : Addr
  fd32 : FuncData
  F32 : Fun K "_law_next" "_law_next" st32 f32 fd32
  g32 : mg "_law_next" = some (.ref f32)
  f35 : Addr
  fd35 : FuncData
  F35 : Fun K "_law_plain" "_law_plain" st35 f35 fd35
  g35 : mg "_law_plain" = some (.ref f35)
  f33 : Addr
  fd33 : FuncData
  F33 : Fun K "_law_of" "_law_of" st33 f33 fd33
  g33 : mg "_law_of" = some (.ref f33)
  f34 : Addr
  fd34 : FuncData
  F34 : Fun K "_law_steps" "_law_steps" st34 f34 fd34
  g34 : mg "_law_steps" = some (.ref f34)
  f36 : Addr
  fd36 : FuncData
  F36 : Fun K "_law_back" "_law_back" st36 f36 fd36
  g36 : mg "_law_back" = some (.ref f36)
  f39 : Addr
  fd39 : FuncData
  F39 : Fun K "_law_turns" "_law_turns" st39 f39 fd39
  g39 : mg "_law_turns" = some (.ref f39)
  f40 : Addr
  fd40 : FuncData
  F40 : Fun K "_law_first" "_law_first" st40 f40 fd40
  g40 : mg "_law_first" = some (.ref f40)
  f5 : Addr
  fd5 : FuncData
  F5 : Fun K "is_number" "is_number" st5 f5 fd5
  g5 : mg "is_number" = some (.ref f5)
  f6 : Addr
  fd6 : FuncData
  F6 : Fun K "is_among" "is_among" st6 f6 fd6
  g6 : mg "is_among" = some (.ref f6)
  f11 : Addr
  fd11 : FuncData
  F11 : Fun K "need_letters" "need_letters" st11 f11 fd11
  g11 : mg "need_letters" = some (.ref f11)
  f7 : Addr
  fd7 : FuncData
  F7 : Fun K "is_tuple_of" "is_tuple_of" st7 f7 fd7
  g7 : mg "is_tuple_of" = some (.ref f7)
  f12 : Addr
  fd12 : FuncData
  F12 : Fun K "is_step" "is_step" st12 f12 fd12
  g12 : mg "is_step" = some (.ref f12)
  f13 : Addr
  fd13 : FuncData
  F13 : Fun K "need_course" "need_course" st13 f13 fd13
  g13 : mg "need_course" = some (.ref f13)
  f19 : Addr
  fd19 : FuncData
  F19 : Fun K "parted" "parted" st19 f19 fd19
  g19 : mg "parted" = some (.ref f19)
  f14 : Addr
  fd14 : FuncData
  F14 : Fun K "plain_of" "plain_of" st14 f14 fd14
  g14 : mg "plain_of" = some (.ref f14)
  f17 : Addr
  fd17 : FuncData
  F17 : Fun K "key_of" "key_of" st17 f17 fd17
  g17 : mg "key_of" = some (.ref f17)
  f24 : Addr
  fd24 : FuncData
  F24 : Fun K "least_spot" "least_spot" st24 f24 fd24
  g24 : mg "least_spot" = some (.ref f24)
  f25 : Addr
  fd25 : FuncData
  F25 : Fun K "turned_to" "turned_to" st25 f25 fd25
  g25 : mg "turned_to" = some (.ref f25)
  f16 : Addr
  fd16 : FuncData
  F16 : Fun K "behind_of" "behind_of" st16 f16 fd16
  g16 : mg "behind_of" = some (.ref f16)
  f15 : Addr
  fd15 : FuncData
  F15 : Fun K "back_of" "back_of" st15 f15 fd15
  g15 : mg "back_of" = some (.ref f15)
  f27 : Addr
  fd27 : FuncData
  F27 : Fun K "first_by_turns" "first_by_turns" st27 f27 fd27
  g27 : mg "first_by_turns" = some (.ref f27)
  f22 : Addr
  fd22 : FuncData
  F22 : Fun K "period_of" "period_of" st22 f22 fd22
  g22 : mg "period_of" = some (.ref f22)
  f23 : Addr
  fd23 : FuncData
  F23 : Fun K "rooted" "rooted" st23 f23 fd23
  g23 : mg "rooted" = some (.ref f23)
  f28 : Addr
  fd28 : FuncData
  F28 : Fun K "turning" "turning" st28 f28 fd28
  g28 : mg "turning" = some (.ref f28)
  f41 : Addr
  fd41 : FuncData
  F41 : Fun K "_law_small_right" "_law_small_right" st41 f41 fd41
  g41 : mg "_law_small_right" = some (.ref f41)
  f21 : Addr
  fd21 : FuncData
  F21 : Fun K "ring_part" "ring_part" st21 f21 fd21
  g21 : mg "ring_part" = some (.ref f21)
  f26 : Addr
  fd26 : FuncData
  F26 : Fun K "ring_of" "ring_of" st26 f26 fd26
  g26 : mg "ring_of" = some (.ref f26)
  f37 : Addr
  fd37 : FuncData
  F37 : Fun K "_law_key" "_law_key" st37 f37 fd37
  g37 : mg "_law_key" = some (.ref f37)
  f38 : Addr
  fd38 : FuncData
  F38 : Fun K "_law_ring" "_law_ring" st38 f38 fd38
  g38 : mg "_law_ring" = some (.ref f38)
  f18 : Addr
  fd18 : FuncData
  F18 : Fun K "plain_course" "plain_course" st18 f18 fd18
  g18 : mg "plain_course" = some (.ref f18)
  f29 : Addr
  fd29 : FuncData
  F29 : Fun K "check_turning" "check_turning" st29 f29 fd29
  g29 : mg "check_turning" = some (.ref f29)
  f42 : Addr
  fd42 : FuncData
  F42 : Fun K "_law_great_right" "_law_great_right" st42 f42 fd42
  g42 : mg "_law_great_right" = some (.ref f42)
  f43 : Addr
  fd43 : FuncData
  F43 : Fun K "law" "law" st43 f43 fd43
  g43 : mg "law" = some (.ref f43)
  x_BadNumber : Addr
  x_BadCourse : Addr
  gx_BadNumber : mg "BadNumber" = some (.ref x_BadNumber)
  xi_BadNumber : ∃ fI B n i tl, XI.XiC P K x_BadNumber fI "value" B n i tl
  xf_BadNumber : L2.XfC K x_BadNumber
  gx_BadCourse : mg "BadCourse" = some (.ref x_BadCourse)
  xi_BadCourse : ∃ fI B n i tl, XI.XiC P K x_BadCourse fI "place" B n i tl
  xf_BadCourse : L2.XfC K x_BadCourse
  xm_BadNumber_BadCourse : PySem.W.exmOne K (.ref x_BadNumber) (.ref x_BadCourse) = some false
  xm_BadCourse_BadCourse : PySem.W.exmOne K (.ref x_BadCourse) (.ref x_BadCourse) = some true
  t_MOST_LETTERS : Tok
  g_MOST_LETTERS : mg "MOST_LETTERS" = some (.int 8 t_MOST_LETTERS)
  t_MOST_STEPS : Tok
  g_MOST_STEPS : mg "MOST_STEPS" = some (.int 2000 t_MOST_STEPS)
  z_list : mg "list" = none
  z_int : mg "int" = none
  z_len : mg "len" = none
  z_min : mg "min" = none
  z_range : mg "range" = none
  z_tuple : mg "tuple" = none
  z_isinstance : mg "isinstance" = none
  z_bool : mg "bool" = none
  z_enumerate : mg "enumerate" = none
  z_abs : mg "abs" = none
  z_max : mg "max" = none
  z_repr : mg "repr" = none
section
variable [T0 : Tbs] {P : Program} {w : World} {K : PySem.W.Frag} {mg : Str → Option Value} {base : Heap} (W : Wt P K mg)
abbrev Wt.G : EX := ⟨fun n => ([W.x_BadCourse, W.x_BadNumber, 0, 0, 0, 0, 0, 0, 0, 0, 0, 0, 0] : List Addr).getD n 0, fun n => (fnE n : Str)⟩
theorem Wt.xc_BadNumber : XcOk W.G P K 1 := ⟨W.xi_BadNumber, W.xf_BadNumber⟩
theorem Wt.xc_BadCourse : XcOk W.G P K 0 := ⟨W.xi_BadCourse, W.xf_BadCourse⟩
theorem Wt.b31 : Binds K W.fd31 ["script"] [] := W.F31.binds (ps := ["script"]) fun _ _ _ _ _ _ us hl => match us, hl with | [_], _ => rfl
theorem Wt.b32 : Binds K W.fd32 ["m", "many"] [] := W.F32.binds (ps := ["m", "many"]) fun _ _ _ _ _ _ us hl => match us, hl with | [_, _], _ => rfl
theorem Wt.b35 : Binds K W.fd35 ["steps"] [] := W.F35.binds (ps := ["steps"]) fun _ _ _ _ _ _ us hl => match us, hl with | [_], _ => rfl
theorem Wt.b33 : Binds K W.fd33 ["m", "some"] [] := W.F33.binds (ps := ["m", "some"]) fun _ _ _ _ _ _ us hl => match us, hl with | [_, _], _ => rfl
theorem Wt.b34 : Binds K W.fd34 ["m", "letters", "most"] [] := W.F34.binds (ps := ["m", "letters", "most"]) fun _ _ _ _ _ _ us hl => match us, hl with | [_, _, _], _ => rfl
theorem Wt.b36 : Binds K W.fd36 ["steps"] [] := W.F36.binds (ps := ["steps"]) fun _ _ _ _ _ _ us hl => match us, hl with | [_], _ => rfl
theorem Wt.b39 : Binds K W.fd39 ["turn", "one", "other"] [] := W.F39.binds (ps := ["turn", "one", "other"]) fun _ _ _ _ _ _ us hl => match us, hl with | [_, _, _], _ => rfl
theorem Wt.b40 : Binds K W.fd40 ["letters", "one", "other", "most"] [] := W.F40.binds (ps := ["letters", "one", "other", "most"]) fun _ _ _ _ _ _ us hl => match us, hl with | [_, _, _, _], _ => rfl
theorem Wt.b5 : Binds K W.fd5 ["thing"] [] := W.F5.binds (ps := ["thing"]) fun _ _ _ _ _ _ us hl => match us, hl with | [_], _ => rfl
theorem Wt.b6 : Binds K W.fd6 ["thing", "least", "most"] [] := W.F6.binds (ps := ["thing", "least", "most"]) fun _ _ _ _ _ _ us hl => match us, hl with | [_, _, _], _ => rfl
theorem Wt.b11 : Binds K W.fd11 ["letters"] [] := W.F11.binds (ps := ["letters"]) fun _ _ _ _ _ _ us hl => match us, hl with | [_], _ => rfl
theorem Wt.b7 : Binds K W.fd7 ["thing", "least", "most"] [] := W.F7.binds (ps := ["thing", "least", "most"]) fun _ _ _ _ _ _ us hl => match us, hl with | [_, _, _], _ => rfl
theorem Wt.b12 : Binds K W.fd12 ["letters", "thing"] [] := W.F12.binds (ps := ["letters", "thing"]) fun _ _ _ _ _ _ us hl => match us, hl with | [_, _], _ => rfl
theorem Wt.b13 : Binds K W.fd13 ["letters", "course"] [] := W.F13.binds (ps := ["letters", "course"]) fun _ _ _ _ _ _ us hl => match us, hl with | [_, _], _ => rfl
theorem Wt.b19 : Binds K W.fd19 ["steps"] [] := W.F19.binds (ps := ["steps"]) fun _ _ _ _ _ _ us hl => match us, hl with | [_], _ => rfl
theorem Wt.b14 : Binds K W.fd14 ["steps"] [] := W.F14.binds (ps := ["steps"]) fun _ _ _ _ _ _ us hl => match us, hl with | [_], _ => rfl
theorem Wt.b17 : Binds K W.fd17 ["steps"] [] := W.F17.binds (ps := ["steps"]) fun _ _ _ _ _ _ us hl => match us, hl with | [_], _ => rfl
theorem Wt.b24 : Binds K W.fd24 ["ring"] [] := W.F24.binds (ps := ["ring"]) fun _ _ _ _ _ _ us hl => match us, hl with | [_], _ => rfl
theorem Wt.b25 : Binds K W.fd25 ["ring", "spot"] [] := W.F25.binds (ps := ["ring", "spot"]) fun _ _ _ _ _ _ us hl => match us, hl with | [_, _], _ => rfl
theorem Wt.b16 : Binds K W.fd16 ["one", "other"] [] := W.F16.binds (ps := ["one", "other"]) fun _ _ _ _ _ _ us hl => match us, hl with | [_, _], _ => rfl
theorem Wt.b15 : Binds K W.fd15 ["steps"] [] := W.F15.binds (ps := ["steps"]) fun _ _ _ _ _ _ us hl => match us, hl with | [_], _ => rfl
theorem Wt.b27 : Binds K W.fd27 ["turn", "root"] [] := W.F27.binds (ps := ["turn", "root"]) fun _ _ _ _ _ _ us hl => match us, hl with | [_, _], _ => rfl
theorem Wt.b22 : Binds K W.fd22 ["ring"] [] := W.F22.binds (ps := ["ring"]) fun _ _ _ _ _ _ us hl => match us, hl with | [_], _ => rfl
theorem Wt.b23 : Binds K W.fd23 ["steps"] [] := W.F23.binds (ps := ["steps"]) fun _ _ _ _ _ _ us hl => match us, hl with | [_], _ => rfl
theorem Wt.b28 : Binds K W.fd28 ["letters", "one", "other"] [] := W.F28.binds (ps := ["letters", "one", "other"]) fun _ _ _ _ _ _ us hl => match us, hl with | [_, _, _], _ => rfl
theorem Wt.b41 : Binds K W.fd41 ["m"] [] := W.F41.binds (ps := ["m"]) fun _ _ _ _ _ _ us hl => match us, hl with | [_], _ => rfl
theorem Wt.b21 : Binds K W.fd21 ["letters", "course"] [] := W.F21.binds (ps := ["letters", "course"]) fun _ _ _ _ _ _ us hl => match us, hl with | [_, _], _ => rfl
theorem Wt.b26 : Binds K W.fd26 ["letters", "course"] [] := W.F26.binds (ps := ["letters", "course"]) fun _ _ _ _ _ _ us hl => match us, hl with | [_, _], _ => rfl
theorem Wt.b37 : Binds K W.fd37 ["steps"] [] := W.F37.binds (ps := ["steps"]) fun _ _ _ _ _ _ us hl => match us, hl with | [_], _ => rfl
theorem Wt.b38 : Binds K W.fd38 ["steps"] [] := W.F38.binds (ps := ["steps"]) fun _ _ _ _ _ _ us hl => match us, hl with | [_], _ => rfl
theorem Wt.b18 : Binds K W.fd18 ["letters", "course"] [] := W.F18.binds (ps := ["letters", "course"]) fun _ _ _ _ _ _ us hl => match us, hl with | [_, _], _ => rfl
theorem Wt.b29 : Binds K W.fd29 ["letters", "one", "other", "turn"] [] := W.F29.binds (ps := ["letters", "one", "other", "turn"]) fun _ _ _ _ _ _ us hl => match us, hl with | [_, _, _, _], _ => rfl
theorem Wt.b42 : Binds K W.fd42 ["m"] [] := W.F42.binds (ps := ["m"]) fun _ _ _ _ _ _ us hl => match us, hl with | [_], _ => rfl
theorem Wt.b43 : Binds K W.fd43 ["script"] [] := W.F43.binds (ps := ["script"]) fun _ _ _ _ _ _ us hl => match us, hl with | [_], _ => rfl
theorem w__law_begun : FnC W.G P w K mg base 1 W.f31 W.fd31 ["script"] (LM.M__law_begun) := fncR W.F31 sc31 rfl rfl fun cdv A outer s H E hX =>
  css_one (cs_ret (c_newLaw hX (c_callTy b_list W.z_list (by decide +kernel) (ca_cons (c_var 0) ca_nil)) (c_newComp hX (ci_seq (c_var 0)) (own := [("cell", 1)]) (blkOk_by (N := ["script", "cell"]) (sc := defScope st31) (by decide +kernel)) rfl (by decide) (fun Y hX hN q => by obtain ⟨s, H, C, cl, fp, q⟩ := q; subst q; exact cg_name hX 1) (fun Y hX hN q => by obtain ⟨s, H, C, cl, fp, q⟩ := q; subst q; exact cts_one (CP.t (cp_op d_ge (c_callTy b_int W.z_int (by decide +kernel) (ca_cons (c_var 1) ca_nil)) (c_bin d_pow c_int c_int)))) (fun Y hX hN q => by obtain ⟨s, H, C, cl, fp, q⟩ := q; subst q; exact c_callTy b_int W.z_int (by decide +kernel) (ca_cons (c_var 1) ca_nil)))))
theorem w__law_next : FnC W.G P w K mg base 1 W.f32 W.fd32 ["m", "many"] (LM.M__law_next) := fnc W.F32 sc32 rfl rfl fun cdv A outer s H E hX =>
  css_cons (cs_if (CP.t (cp_lawNe hX (c_var 0))) (css_cons (cs_set hX 5 (c_lawL0 hX (c_var 0)))
    (css_cons (cs_lawSet0 hX (c_var 0) (c_bin d_div (c_var 5) (c_var 1)))
    (css_cons (cs_if (CP.t (cp_op (d_eq hX) (c_lawL0 hX (c_var 0)) c_int)) (css_one (cs_lawTail hX 0)) css_nil)
    (css_one (cs_ret (c_bin d_mod (c_var 5) (c_var 1))))))) css_nil)
    (css_cons (cs_set hX 2 (c_lawAt hX (c_var 0)))
    (css_cons (cs_lawSetAt hX (c_var 0) (c_bin d_add (c_var 2) c_int))
    (css_cons (cs_set hX 3 (c_ifExp (CP.t (cp_op (d_ne hX) (c_lawCells hX (c_var 0)) (c_lst ca_nil))) (c_ix (c_lawCells hX (c_var 0)) (c_bin d_mod (c_var 2) (c_callB b_len W.z_len (by decide +kernel) (ca_cons (c_lawCells hX (c_var 0)) ca_nil)))) c_int))
    (css_cons (cs_set hX 4 (c_bin d_mul (c_bin d_mod (c_callTy b_int W.z_int (by decide +kernel) (ca_cons (c_var 3) ca_nil)) c_int) (c_bin d_add (c_bin d_mul c_int (c_var 2)) c_int)))
    (css_cons (cs_set hX 4 (c_bin d_mod (c_bin d_add (c_bin d_add (c_bin d_add (c_var 4) (c_bin d_mul (c_bin d_mul c_int (c_var 2)) (c_var 2))) (c_bin d_mul c_int (c_var 2))) c_int) c_int))
    (css_one (cs_ret (c_bin d_mod (c_bin d_div (c_bin d_mod (c_bin d_mul (c_bin d_mod (c_bin d_mul (c_var 4) (c_var 4)) c_int) c_int) c_int) c_int) (c_var 1)))))))))
theorem w__law_plain : FnC W.G P w K mg base 1 W.f35 W.fd35 ["steps"] (LM.M__law_plain) := fnc W.F35 sc35 rfl rfl fun cdv A outer s H E hX =>
  css_cons (cs_par hX 1 2 (ca_cons (c_callTy b_list W.z_list (by decide +kernel) (ca_cons (c_var 0) ca_nil)) (ca_cons (c_bin d_sub (c_callB b_len W.z_len (by decide +kernel) (ca_cons (c_var 0) ca_nil)) c_int) ca_nil)))
    (css_cons (cs_while hX (CP.t (cp_op d_ge (c_var 2) c_int)) (css_cons (cs_if (CW.ct (cw_and (CP.t (cp_op (d_lt hX) (c_bin d_add (c_var 2) c_int) (c_callB b_len W.z_len (by decide +kernel) (ca_cons (c_var 1) ca_nil)))) (cw_and1 (CP.t (cp_op (d_eq hX) (c_ix (c_var 1) (c_var 2)) (c_un d_neg (c_ix (c_var 1) (c_bin d_add (c_var 2) c_int)))))))) (css_one (cs_set hX 1 (c_bin d_add (c_slice (c_var 1) trivial (c_var 2)) (c_slice (c_var 1) (c_bin d_add (c_var 2) c_int) trivial)))) css_nil)
    (css_one (cs_set hX 2 (c_bin d_sub (c_var 2) c_int)))))
    (css_one (cs_ret (c_callTy b_tuple W.z_tuple (by decide +kernel) (ca_cons (c_var 1) ca_nil)))))
theorem w__law_of : FnC W.G P w K mg base 2 W.f33 W.fd33 ["m", "some"] (LM.M__law_of) := fnc W.F33 sc33 rfl rfl fun cdv A outer s H E hX =>
  css_one (cs_ret (c_ix (c_var 1) (c_call ((w__law_next W).mono (by decide)) hX W.g32 W.F32.kp W.b32 (ca_cons (c_var 0) (ca_cons (c_callB b_len W.z_len (by decide +kernel) (ca_cons (c_var 1) ca_nil)) ca_nil)))))
theorem w__law_steps : FnC W.G P w K mg base 3 W.f34 W.fd34 ["m", "letters", "most"] (LM.M__law_steps) := fnc W.F34 sc34 rfl rfl fun cdv A outer s H E hX =>
  css_cons (cs_set hX 3 (c_newlst ca_nil))
    (css_cons (cs_for hX (ci_range1 W.z_range (ca_cons (c_call ((w__law_next W).mono (by decide)) hX W.g32 W.F32.kp W.b32 (ca_cons (c_var 0) (ca_cons (c_bin d_add (c_var 2) c_int) ca_nil))) ca_nil)) (cg_name hX 4) (css_cons (cs_set hX 5 (c_bin d_mul (c_bin d_add c_int (c_call ((w__law_next W).mono (by decide)) hX W.g32 W.F32.kp W.b32 (ca_cons (c_var 0) (ca_cons (c_var 1) ca_nil)))) (c_call ((w__law_of W).mono (by decide)) hX W.g33 W.F33.kp W.b33 (ca_cons (c_var 0) (ca_cons (c_lst (ca_cons c_int (ca_cons (c_un d_neg c_int) ca_nil))) ca_nil)))))
    (css_cons (cs_if (CW.ct (cw_and (CP.t (cp_neS hX (c_var 3) (c_lst ca_nil))) (cw_and1 (CP.t (cp_op (d_eq hX) (c_call ((w__law_next W).mono (by decide)) hX W.g32 W.F32.kp W.b32 (ca_cons (c_var 0) (ca_cons c_int ca_nil))) c_int))))) (css_one (cs_set hX 5 (c_un d_neg (c_ix (c_var 3) (c_un d_neg c_int))))) css_nil)
    (css_one (cs_drop (c_append (c_var 3) (c_var 5)))))))
    (css_one (cs_ret (c_callTy b_tuple W.z_tuple (by decide +kernel) (ca_cons (c_var 3) ca_nil)))))
theorem w__law_back : FnC W.G P w K mg base 1 W.f36 W.fd36 ["steps"] (LM.M__law_back) := fnc W.F36 sc36 rfl rfl fun cdv A outer s H E hX =>
  css_cons (cs_set hX 1 (c_tup ca_nil))
    (css_cons (cs_for hX (ci_seq (c_var 0)) (cg_name hX 2) (css_one (cs_set hX 1 (c_bin d_add (c_tup (ca_cons (c_un d_neg (c_var 2)) ca_nil)) (c_var 1)))))
    (css_one (cs_ret (c_var 1))))
theorem w__law_turns : FnC W.G P w K mg base 2 W.f39 W.fd39 ["turn", "one", "other"] (M__law_turns) := fnc W.F39 sc39 rfl rfl fun cdv A outer s H E hX =>
  css_one (cs_ret (CP.e (cp_op (d_eq hX) (c_call ((w__law_plain W).mono (by decide)) hX W.g35 W.F35.kp W.b35 (ca_cons (c_bin d_add (c_bin d_add (c_var 0) (c_var 1)) (c_call ((w__law_back W).mono (by decide)) hX W.g36 W.F36.kp W.b36 (ca_cons (c_var 0) ca_nil))) ca_nil)) (c_var 2))))
theorem w__law_first : FnC W.G P w K mg base 3 W.f40 W.fd40 ["letters", "one", "other", "most"] (M__law_first) := fnc W.F40 sc40 rfl rfl fun cdv A outer s H E hX =>
  css_cons (cs_set hX 4 (c_lst (ca_cons (c_tup ca_nil) ca_nil)))
    (css_cons (cs_set hX 5 (c_lst ca_nil))
    (css_cons (cs_for hX (ci_range2 W.z_range (ca_cons c_int (ca_cons (c_bin d_add (c_var 0) c_int) ca_nil))) (cg_name hX 6) (css_one (cs_set hX 5 (c_bin d_add (c_var 5) (c_lst (ca_cons (c_var 6) (ca_cons (c_un d_neg (c_var 6)) ca_nil)))))))
    (css_cons (cs_for hX (ci_range1 W.z_range (ca_cons (c_bin d_add (c_var 3) c_int) ca_nil)) (cg_name hX 7) (css_cons (cs_for hX (ci_seq (c_var 4)) (cg_name hX 8) (css_one (cs_if (c_bool (c_call ((w__law_turns W).mono (by decide)) hX W.g39 W.F39.kp W.b39 (ca_cons (c_var 8) (ca_cons (c_var 1) (ca_cons (c_var 2) ca_nil))))) (css_one (cs_ret (c_lst (ca_cons (c_var 8) ca_nil)))) css_nil)))
    (css_cons (cs_set hX 9 (c_lst ca_nil))
    (css_cons (cs_for hX (ci_seq (c_var 4)) (cg_name hX 8) (css_one (cs_set hX 9 (c_bin d_add (c_var 9) (c_comp hX (ci_seq (c_var 5)) (own := [("step", 10)]) (blkOk_by (N := ["letters", "one", "other", "most", "lots", "steps", "letter", "size", "turn", "more", "step"]) (sc := defScope st40) (by decide +kernel)) rfl (by decide) (fun Y hX hN q => by obtain ⟨s, H, C, cl, fp, q⟩ := q; subst q; exact cg_name hX 10) (fun Y hX hN q => by obtain ⟨s, H, C, cl, fp, q⟩ := q; subst q; exact cts_one (CW.ct (cw_or (CP.t (cp_op (d_eq hX) (c_var 8) (c_tup ca_nil))) (cw_or1 (CP.t (cp_op (d_ne hX) (c_ix (c_var 8) (c_un d_neg c_int)) (c_un d_neg (c_var 10)))))))) (fun Y hX hN q => by obtain ⟨s, H, C, cl, fp, q⟩ := q; subst q; exact c_bin d_add (c_var 8) (c_tup (ca_cons (c_var 10) ca_nil))))))))
    (css_one (cs_set hX 4 (c_var 9)))))))
    (css_one (cs_ret (c_lst ca_nil))))))
theorem w_is_number : FnC W.G P w K mg base 1 W.f5 W.fd5 ["thing"] (LM.M_is_number) := fnc W.F5 sc5 rfl rfl fun cdv A outer s H E hX =>
  css_one (cs_ret (c_andV (c_isi W.z_isinstance W.z_int (by decide +kernel) k_int (c_var 0)) (c_one (c_notV (c_isi W.z_isinstance W.z_bool (by decide +kernel) k_bool (c_var 0))))))
theorem w_is_among : FnC W.G P w K mg base 2 W.f6 W.fd6 ["thing", "least", "most"] (LM.M_is_among) := fnc W.F6 sc6 rfl rfl fun cdv A outer s H E hX =>
  css_one (cs_ret (c_andV (c_call ((w_is_number W).mono (by decide)) hX W.g5 W.F5.kp W.b5 (ca_cons (c_var 0) ca_nil)) (c_one (c_chain d_le d_le (c_var 1) (c_var 0) (c_var 2)))))
theorem w_need_letters : FnC W.G P w K mg base 3 W.f11 W.fd11 ["letters"] (LM.M_need_letters) := fnc W.F11 sc11 rfl rfl fun cdv A outer s H E hX =>
  css_cons (cs_if (c_notT (c_bool (c_call ((w_is_among W).mono (by decide)) hX W.g6 W.F6.kp W.b6 (ca_cons (c_var 0) (ca_cons c_int (ca_cons (c_globI W.g_MOST_LETTERS) ca_nil)))))) (css_one (cs_raise (k := 0) (hX.mono (by decide)) W.xc_BadNumber W.gx_BadNumber (c_var 0))) css_nil)
    (css_one (cs_ret (c_var 0)))
theorem w_is_tuple_of : FnC W.G P w K mg base 1 W.f7 W.fd7 ["thing", "least", "most"] (LM.M_is_tuple_of) := fnc W.F7 sc7 rfl rfl fun cdv A outer s H E hX =>
  css_one (cs_ret (c_andV (c_isi W.z_isinstance W.z_tuple (by decide +kernel) k_tuple (c_var 0)) (c_one (c_chain d_le d_le (c_var 1) (c_callB b_len W.z_len (by decide +kernel) (ca_cons (c_var 0) ca_nil)) (c_var 2)))))
theorem w_is_step : FnC W.G P w K mg base 2 W.f12 W.fd12 ["letters", "thing"] (LM.M_is_step) := fnc W.F12 sc12 rfl rfl fun cdv A outer s H E hX =>
  css_one (cs_ret (c_andV (c_call ((w_is_number W).mono (by decide)) hX W.g5 W.F5.kp W.b5 (ca_cons (c_var 1) ca_nil)) (c_andV (CP.e (cp_op (d_ne hX) (c_var 1) c_int)) (c_one (c_chain d_le d_le (c_un d_neg (c_var 0)) (c_var 1) (c_var 0))))))
theorem w_need_course : FnC W.G P w K mg base 4 W.f13 W.fd13 ["letters", "course"] (LM.M_need_course) := fnc W.F13 sc13 rfl rfl fun cdv A outer s H E hX =>
  css_cons (cs_drop (c_call ((w_need_letters W).mono (by decide)) hX W.g11 W.F11.kp W.b11 (ca_cons (c_var 0) ca_nil)))
    (css_cons (cs_if (c_notT (c_bool (c_call ((w_is_tuple_of W).mono (by decide)) hX W.g7 W.F7.kp W.b7 (ca_cons (c_var 1) (ca_cons c_int (ca_cons (c_globI W.g_MOST_STEPS) ca_nil)))))) (css_one (cs_raise (k := 0) (hX.mono (by decide)) W.xc_BadCourse W.gx_BadCourse c_non)) css_nil)
    (css_cons (cs_for hX (ci_enum hX W.z_enumerate (ca_cons (c_var 1) ca_nil)) (cg_tup hX (cgs_cons (cg_name hX 2) (cgs_cons (cg_name hX 3) cgs_nil))) (css_one (cs_if (c_notT (c_bool (c_call ((w_is_step W).mono (by decide)) hX W.g12 W.F12.kp W.b12 (ca_cons (c_var 0) (ca_cons (c_var 3) ca_nil))))) (css_one (cs_raise (k := 0) (hX.mono (by decide)) W.xc_BadCourse W.gx_BadCourse (c_var 2))) css_nil)))
    (css_one (cs_ret (c_var 1)))))
theorem w_parted : FnC W.G P w K mg base 1 W.f19 W.fd19 ["steps"] (LM.M_parted) := fnc W.F19 sc19 rfl rfl fun cdv A outer s H E hX =>
  css_cons (cs_set hX 1 c_int)
    (css_cons (cs_while hX (CW.ct (cw_and (CP.t (cp_op (d_lt hX) (c_bin d_add (c_bin d_mul c_int (c_var 1)) c_int) (c_callB b_len W.z_len (by decide +kernel) (ca_cons (c_var 0) ca_nil)))) (cw_and1 (CP.t (cp_op (d_eq hX) (c_ix (c_var 0) (c_var 1)) (c_un d_neg (c_ix (c_var 0) (c_bin d_sub (c_bin d_sub (c_callB b_len W.z_len (by decide +kernel) (ca_cons (c_var 0) ca_nil)) c_int) (c_var 1))))))))) (css_one (cs_set hX 1 (c_bin d_add (c_var 1) c_int))))
    (css_one (cs_ret (c_tup (ca_cons (c_slice (c_var 0) trivial (c_var 1)) (ca_cons (c_slice (c_var 0) (c_var 1) (c_bin d_sub (c_callB b_len W.z_len (by decide +kernel) (ca_cons (c_var 0) ca_nil)) (c_var 1))) ca_nil))))))
theorem w_plain_of : FnC W.G P w K mg base 1 W.f14 W.fd14 ["steps"] (LM.M_plain_of) := fnc W.F14 sc14 rfl rfl fun cdv A outer s H E hX =>
  css_cons (cs_set hX 1 (c_newlst ca_nil))
    (css_cons (cs_for hX (ci_seq (c_var 0)) (cg_name hX 2) (css_one (cs_if (CW.ct (cw_and (CP.t (cp_neS hX (c_var 1) (c_lst ca_nil))) (cw_and1 (CP.t (cp_op (d_eq hX) (c_ix (c_var 1) (c_un d_neg c_int)) (c_un d_neg (c_var 2))))))) (css_one (cs_drop (c_pop (c_var 1)))) (css_one (cs_drop (c_append (c_var 1) (c_var 2)))))))
    (css_one (cs_ret (c_callTy b_tuple W.z_tuple (by decide +kernel) (ca_cons (c_var 1) ca_nil)))))
theorem w_key_of : FnC W.G P w K mg base 1 W.f17 W.fd17 ["steps"] (LM.M_key_of) := fnc W.F17 sc17 rfl rfl fun cdv A outer s H E hX =>
  css_one (cs_ret (c_tup (ca_cons (c_callB b_len W.z_len (by decide +kernel) (ca_cons (c_var 0) ca_nil)) (ca_cons (c_callTy b_tuple W.z_tuple (by decide +kernel) (ca_cons (c_comp hX (ci_seq (c_var 0)) (own := [("step", 1)]) (blkOk_by (N := ["steps", "step"]) (sc := defScope st17) (by decide +kernel)) rfl (by decide) (fun Y hX hN q => by obtain ⟨s, H, C, cl, fp, q⟩ := q; subst q; exact cg_name hX 1) (fun Y hX hN q => by obtain ⟨s, H, C, cl, fp, q⟩ := q; subst q; exact cts_nil) (fun Y hX hN q => by obtain ⟨s, H, C, cl, fp, q⟩ := q; subst q; exact c_tup (ca_cons (c_callB b_abs W.z_abs (by decide +kernel) (ca_cons (c_var 1) ca_nil)) (ca_cons (CP.e (cp_op (d_lt hX) (c_var 1) c_int)) ca_nil)))) ca_nil)) ca_nil))))
theorem w_least_spot : FnC W.G P w K mg base 2 W.f24 W.fd24 ["ring"] (M_least_spot) := fnc W.F24 sc24 rfl rfl fun cdv A outer s H E hX =>
  css_cons (cs_setComp hX 1 (ci_seq (c_var 0)) (own := [("step", 6)]) (blkOk_by (N := ["ring", "keys", "long", "best", "other", "size", "step", "left", "right"]) (sc := defScope st24) (by decide +kernel)) rfl (by decide) (fun Y hX hN q => by obtain ⟨s, H, C, cl, fp, q⟩ := q; subst q; exact cg_name hX 6) (fun Y hX hN q => by obtain ⟨s, H, C, cl, fp, q⟩ := q; subst q; exact cts_nil) (fun Y hX hN q => by obtain ⟨s, H, C, cl, fp, q⟩ := q; subst q; exact c_call ((w_key_of W).mono (by decide)) hX W.g17 W.F17.kp W.b17 (ca_cons (c_tup (ca_cons (c_var 6) ca_nil)) ca_nil)) (sw_true rfl rfl rfl rfl))
    (css_cons (cs_asg (c_tup (ca_cons (c_callB b_len W.z_len (by decide +kernel) (ca_cons (c_var 0) ca_nil)) (ca_cons c_int (ca_cons c_int (ca_cons c_int ca_nil))))) (cg_tup hX (cgs_cons (cg_name hX 2) (cgs_cons (cg_name hX 3) (cgs_cons (cg_name hX 4) (cgs_cons (cg_name hX 5) cgs_nil))))))
    (css_cons (cs_while hX (CW.ct (cw_and (CP.t (cp_op (d_lt hX) (c_callB (b_max hX) W.z_max (by decide +kernel) (ca_cons (c_var 3) (ca_cons (c_var 4) ca_nil))) (c_var 2))) (cw_and1 (CP.t (cp_op (d_lt hX) (c_var 5) (c_var 2)))))) (css_cons (cs_par hX 7 8 (ca_cons (c_ix (c_var 1) (c_bin d_mod (c_bin d_add (c_var 3) (c_var 5)) (c_var 2))) (ca_cons (c_ix (c_var 1) (c_bin d_mod (c_bin d_add (c_var 4) (c_var 5)) (c_var 2))) ca_nil)))
    (css_one (cs_if (CP.t (cp_op (d_eq hX) (c_var 7) (c_var 8))) (css_one (cs_set hX 5 (c_bin d_add (c_var 5) c_int))) (css_cons (cs_if (CP.t (cp_op (d_gtX hX) (c_var 7) (c_var 8))) (css_one (cs_set hX 3 (c_bin d_add (c_bin d_add (c_var 3) (c_var 5)) c_int))) (css_one (cs_set hX 4 (c_bin d_add (c_bin d_add (c_var 4) (c_var 5)) c_int))))
    (css_cons (cs_if (CP.t (cp_op (d_eq hX) (c_var 3) (c_var 4))) (css_one (cs_set hX 4 (c_bin d_add (c_var 4) c_int))) css_nil)
    (css_one (cs_set hX 5 c_int))))))))
    (css_one (cs_ret (c_callB (b_min hX) W.z_min (by decide +kernel) (ca_cons (c_var 3) (ca_cons (c_var 4) ca_nil)))))))
theorem w_turned_to : FnC W.G P w K mg base 1 W.f25 W.fd25 ["ring", "spot"] (LM.M_turned_to) := fnc W.F25 sc25 rfl rfl fun cdv A outer s H E hX =>
  css_one (cs_ret (c_bin d_add (c_slice (c_var 0) (c_var 1) trivial) (c_slice (c_var 0) trivial (c_var 1))))
theorem w_behind_of : FnC W.G P w K mg base 1 W.f16 W.fd16 ["one", "other"] (LM.M_behind_of) := fnc W.F16 sc16 rfl rfl fun cdv A outer s H E hX =>
  css_cons (cs_set hX 2 c_int)
    (css_cons (cs_while hX (CW.ct (cw_and (CP.t (cp_op (d_lt hX) (c_var 2) (c_callB (b_min hX) W.z_min (by decide +kernel) (ca_cons (c_callB b_len W.z_len (by decide +kernel) (ca_cons (c_var 0) ca_nil)) (ca_cons (c_callB b_len W.z_len (by decide +kernel) (ca_cons (c_var 1) ca_nil)) ca_nil))))) (cw_and1 (CP.t (cp_op (d_eq hX) (c_ix (c_var 0) (c_bin d_sub (c_bin d_sub (c_callB b_len W.z_len (by decide +kernel) (ca_cons (c_var 0) ca_nil)) c_int) (c_var 2))) (c_un d_neg (c_ix (c_var 1) (c_var 2)))))))) (css_one (cs_set hX 2 (c_bin d_add (c_var 2) c_int))))
    (css_one (cs_ret (c_bin d_add (c_slice (c_var 0) trivial (c_bin d_sub (c_callB b_len W.z_len (by decide +kernel) (ca_cons (c_var 0) ca_nil)) (c_var 2))) (c_slice (c_var 1) (c_var 2) trivial)))))
theorem w_back_of : FnC W.G P w K mg base 1 W.f15 W.fd15 ["steps"] (LM.M_back_of) := fnc W.F15 sc15 rfl rfl fun cdv A outer s H E hX =>
  css_one (cs_ret (c_callTy b_tuple W.z_tuple (by decide +kernel) (ca_cons (c_comp hX (ci_seq (c_rev (c_var 0))) (own := [("step", 1)]) (blkOk_by (N := ["steps", "step"]) (sc := defScope st15) (by decide +kernel)) rfl (by decide) (fun Y hX hN q => by obtain ⟨s, H, C, cl, fp, q⟩ := q; subst q; exact cg_name hX 1) (fun Y hX hN q => by obtain ⟨s, H, C, cl, fp, q⟩ := q; subst q; exact cts_nil) (fun Y hX hN q => by obtain ⟨s, H, C, cl, fp, q⟩ := q; subst q; exact c_un d_neg (c_var 1))) ca_nil)))
theorem w_first_by_turns : FnC W.G P w K mg base 3 W.f27 W.fd27 ["turn", "root"] (M_first_by_turns) := fnc W.F27 sc27 rfl rfl fun cdv A outer s H E hX =>
  css_cons (cs_set hX 2 (c_var 0))
    (css_cons (cs_for hX (ci_seq (c_tup (ca_cons (c_var 1) (ca_cons (c_call ((w_back_of W).mono (by decide)) hX W.g15 W.F15.kp W.b15 (ca_cons (c_var 1) ca_nil)) ca_nil)))) (cg_name hX 3) (css_cons (cs_par hX 4 5 (ca_cons (c_var 0) (ca_cons (c_bin d_add (c_callB b_len W.z_len (by decide +kernel) (ca_cons (c_var 0) ca_nil)) (c_bin d_mul c_int (c_callB b_len W.z_len (by decide +kernel) (ca_cons (c_var 1) ca_nil)))) ca_nil)))
    (css_one (cs_while hX (CP.t (cp_op d_le (c_callB b_len W.z_len (by decide +kernel) (ca_cons (c_var 4) ca_nil)) (c_var 5))) (css_cons (cs_set hX 2 (c_min2K (w_key_of W) (hX.mono (by decide)) W.g17 W.b17 W.z_min (c_var 2) (c_var 4)))
    (css_one (cs_set hX 4 (c_call ((w_behind_of W).mono (by decide)) hX W.g16 W.F16.kp W.b16 (ca_cons (c_var 4) (ca_cons (c_var 3) ca_nil))))))))))
    (css_one (cs_ret (c_var 2))))
theorem w_period_of : FnC W.G P w K mg base 1 W.f22 W.fd22 ["ring"] (LM.M_period_of) := fnc W.F22 sc22 rfl rfl fun cdv A outer s H E hX =>
  css_cons (cs_set hX 1 (c_newlst (ca_cons c_int ca_nil)))
    (css_cons (cs_for hX (ci_range2 W.z_range (ca_cons c_int (ca_cons (c_callB b_len W.z_len (by decide +kernel) (ca_cons (c_var 0) ca_nil)) ca_nil))) (cg_name hX 2) (css_cons (cs_set hX 4 (c_ix (c_var 1) (c_un d_neg c_int)))
    (css_cons (cs_while hX (CW.ct (cw_and (CP.t (cp_op d_gt (c_var 4) c_int)) (cw_and1 (CP.t (cp_op (d_ne hX) (c_ix (c_var 0) (c_var 4)) (c_ix (c_var 0) (c_var 2))))))) (css_one (cs_set hX 4 (c_ix (c_var 1) (c_bin d_sub (c_var 4) c_int)))))
    (css_one (cs_drop (c_append (c_var 1) (c_ifExp (CP.t (cp_op (d_eq hX) (c_ix (c_var 0) (c_var 4)) (c_ix (c_var 0) (c_var 2)))) (c_bin d_add (c_var 4) c_int) c_int)))))))
    (css_cons (cs_set hX 3 (c_bin d_sub (c_callB b_len W.z_len (by decide +kernel) (ca_cons (c_var 0) ca_nil)) (c_ix (c_var 1) (c_un d_neg c_int))))
    (css_one (cs_ret (c_ifExp (CP.t (cp_op (d_eq hX) (c_bin d_mod (c_callB b_len W.z_len (by decide +kernel) (ca_cons (c_var 0) ca_nil)) (c_var 3)) c_int)) (c_var 3) (c_callB b_len W.z_len (by decide +kernel) (ca_cons (c_var 0) ca_nil)))))))
theorem w_rooted : FnC W.G P w K mg base 2 W.f23 W.fd23 ["steps"] (LM.M_rooted) := fnc W.F23 sc23 rfl rfl fun cdv A outer s H E hX =>
  css_cons (cs_if (CP.t (cp_op (d_eq hX) (c_var 0) (c_tup ca_nil))) (css_one (cs_ret (c_tup (ca_cons (c_tup ca_nil) (ca_cons c_int ca_nil))))) css_nil)
    (css_cons (cs_asg (c_call ((w_parted W).mono (by decide)) hX W.g19 W.F19.kp W.b19 (ca_cons (c_var 0) ca_nil)) (cg_tup hX (cgs_cons (cg_name hX 2) (cgs_cons (cg_name hX 3) cgs_nil))))
    (css_cons (cs_set hX 1 (c_call ((w_period_of W).mono (by decide)) hX W.g22 W.F22.kp W.b22 (ca_cons (c_var 3) ca_nil)))
    (css_one (cs_ret (c_tup (ca_cons (c_bin d_add (c_bin d_add (c_var 2) (c_slice (c_var 3) trivial (c_var 1))) (c_call ((w_back_of W).mono (by decide)) hX W.g15 W.F15.kp W.b15 (ca_cons (c_var 2) ca_nil))) (ca_cons (c_bin d_div (c_callB b_len W.z_len (by decide +kernel) (ca_cons (c_var 3) ca_nil)) (c_var 1)) ca_nil)))))))
theorem w_turning : FnC W.G P w K mg base 5 W.f28 W.fd28 ["letters", "one", "other"] (M_turning) := fnc W.F28 sc28 rfl rfl fun cdv A outer s H E hX =>
  css_cons (cs_drop (c_call ((w_need_course W).mono (by decide)) hX W.g13 W.F13.kp W.b13 (ca_cons (c_var 0) (ca_cons (c_var 1) ca_nil))))
    (css_cons (cs_par hX 4 5 (ca_cons (c_call ((w_parted W).mono (by decide)) hX W.g19 W.F19.kp W.b19 (ca_cons (c_call ((w_plain_of W).mono (by decide)) hX W.g14 W.F14.kp W.b14 (ca_cons (c_var 1) ca_nil)) ca_nil)) (ca_cons (c_call ((w_parted W).mono (by decide)) hX W.g19 W.F19.kp W.b19 (ca_cons (c_call ((w_plain_of W).mono (by decide)) hX W.g14 W.F14.kp W.b14 (ca_cons (c_call ((w_need_course W).mono (by decide)) hX W.g13 W.F13.kp W.b13 (ca_cons (c_var 0) (ca_cons (c_var 2) ca_nil))) ca_nil)) ca_nil)) ca_nil)))
    (css_cons (cs_if (CW.ct (cw_or (CP.t (cp_op (d_eq hX) (c_ix (c_var 4) c_int) (c_tup ca_nil))) (cw_or1 (CP.t (cp_op (d_eq hX) (c_ix (c_var 5) c_int) (c_tup ca_nil)))))) (css_one (cs_ret (c_ifExp (CP.t (cp_op (d_eq hX) (c_ix (c_var 4) c_int) (c_ix (c_var 5) c_int))) (c_tup ca_nil) c_non))) css_nil)
    (css_cons (cs_set hX 3 (c_tup (ca_cons (c_call ((w_least_spot W).mono (by decide)) hX W.g24 W.F24.kp W.b24 (ca_cons (c_ix (c_var 4) c_int) ca_nil)) (ca_cons (c_call ((w_least_spot W).mono (by decide)) hX W.g24 W.F24.kp W.b24 (ca_cons (c_ix (c_var 5) c_int) ca_nil)) ca_nil))))
    (css_cons (cs_if (CP.t (cp_op (d_ne hX) (c_call ((w_turned_to W).mono (by decide)) hX W.g25 W.F25.kp W.b25 (ca_cons (c_ix (c_var 4) c_int) (ca_cons (c_ix (c_var 3) c_int) ca_nil))) (c_call ((w_turned_to W).mono (by decide)) hX W.g25 W.F25.kp W.b25 (ca_cons (c_ix (c_var 5) c_int) (ca_cons (c_ix (c_var 3) c_int) ca_nil))))) (css_one (cs_ret c_non)) css_nil)
    (css_cons (cs_par hX 6 7 (ca_cons (c_call ((w_behind_of W).mono (by decide)) hX W.g16 W.F16.kp W.b16 (ca_cons (c_ix (c_var 4) c_int) (ca_cons (c_slice (c_ix (c_var 4) c_int) trivial (c_ix (c_var 3) c_int)) ca_nil))) (ca_cons (c_call ((w_behind_of W).mono (by decide)) hX W.g16 W.F16.kp W.b16 (ca_cons (c_ix (c_var 5) c_int) (ca_cons (c_slice (c_ix (c_var 5) c_int) trivial (c_ix (c_var 3) c_int)) ca_nil))) ca_nil)))
    (css_one (cs_ret (c_call ((w_first_by_turns W).mono (by decide)) hX W.g27 W.F27.kp W.b27 (ca_cons (c_call ((w_behind_of W).mono (by decide)) hX W.g16 W.F16.kp W.b16 (ca_cons (c_var 7) (ca_cons (c_call ((w_back_of W).mono (by decide)) hX W.g15 W.F15.kp W.b15 (ca_cons (c_var 6) ca_nil)) ca_nil))) (ca_cons (c_ix (c_call ((w_rooted W).mono (by decide)) hX W.g23 W.F23.kp W.b23 (ca_cons (c_call ((w_plain_of W).mono (by decide)) hX W.g14 W.F14.kp W.b14 (ca_cons (c_var 1) ca_nil)) ca_nil)) c_int) ca_nil))))))))))
theorem w__law_small_right : FnC W.G P w K mg base 6 W.f41 W.fd41 ["m"] (M__law_small_right) := fnc W.F41 sc41 rfl rfl fun cdv A outer s H E hX =>
  css_cons (cs_set hX 1 (c_bin d_add c_int (c_call ((w__law_next W).mono (by decide)) hX W.g32 W.F32.kp W.b32 (ca_cons (c_var 0) (ca_cons c_int ca_nil)))))
    (css_cons (cs_par hX 4 5 (ca_cons (c_call ((w__law_plain W).mono (by decide)) hX W.g35 W.F35.kp W.b35 (ca_cons (c_call ((w__law_steps W).mono (by decide)) hX W.g34 W.F34.kp W.b34 (ca_cons (c_var 0) (ca_cons (c_var 1) (ca_cons c_int ca_nil)))) ca_nil)) (ca_cons (c_call ((w__law_plain W).mono (by decide)) hX W.g35 W.F35.kp W.b35 (ca_cons (c_call ((w__law_steps W).mono (by decide)) hX W.g34 W.F34.kp W.b34 (ca_cons (c_var 0) (ca_cons (c_var 1) (ca_cons c_int ca_nil)))) ca_nil)) ca_nil)))
    (css_cons (cs_set hX 2 (c_call ((w__law_plain W).mono (by decide)) hX W.g35 W.F35.kp W.b35 (ca_cons (c_bin d_add (c_bin d_add (c_var 5) (c_var 4)) (c_call ((w__law_back W).mono (by decide)) hX W.g36 W.F36.kp W.b36 (ca_cons (c_var 5) ca_nil))) ca_nil)))
    (css_cons (cs_set hX 3 (c_call ((w__law_first W).mono (by decide)) hX W.g40 W.F40.kp W.b40 (ca_cons (c_var 1) (ca_cons (c_var 4) (ca_cons (c_var 2) (ca_cons (c_callB b_len W.z_len (by decide +kernel) (ca_cons (c_var 5) ca_nil)) ca_nil))))))
    (css_one (cs_ret (c_andV (CP.e (cp_op (d_ne hX) (c_var 3) (c_lst ca_nil))) (c_one (CP.e (cp_op (d_eq hX) (c_call ((w_turning W).mono (by decide)) hX W.g28 W.F28.kp W.b28 (ca_cons (c_var 1) (ca_cons (c_var 4) (ca_cons (c_var 2) ca_nil)))) (c_ix (c_var 3) c_int))))))))))
theorem w_ring_part : FnC W.G P w K mg base 5 W.f21 W.fd21 ["letters", "course"] (LM.M_ring_part) := fnc W.F21 sc21 rfl rfl fun cdv A outer s H E hX =>
  css_one (cs_ret (c_call ((w_parted W).mono (by decide)) hX W.g19 W.F19.kp W.b19 (ca_cons (c_call ((w_plain_of W).mono (by decide)) hX W.g14 W.F14.kp W.b14 (ca_cons (c_call ((w_need_course W).mono (by decide)) hX W.g13 W.F13.kp W.b13 (ca_cons (c_var 0) (ca_cons (c_var 1) ca_nil))) ca_nil)) ca_nil)))
theorem w_ring_of : FnC W.G P w K mg base 6 W.f26 W.fd26 ["letters", "course"] (M_ring_of) := fnc W.F26 sc26 rfl rfl fun cdv A outer s H E hX =>
  css_cons (cs_asg (c_call ((w_ring_part W).mono (by decide)) hX W.g21 W.F21.kp W.b21 (ca_cons (c_var 0) (ca_cons (c_var 1) ca_nil))) (cg_tup hX (cgs_cons (cg_name hX 2) (cgs_cons (cg_name hX 3) cgs_nil))))
    (css_one (cs_ret (c_ifExp (CP.t (cp_op (d_eq hX) (c_var 3) (c_tup ca_nil))) (c_tup ca_nil) (c_call ((w_turned_to W).mono (by decide)) hX W.g25 W.F25.kp W.b25 (ca_cons (c_var 3) (ca_cons (c_call ((w_least_spot W).mono (by decide)) hX W.g24 W.F24.kp W.b24 (ca_cons (c_var 3) ca_nil)) ca_nil))))))
theorem w__law_key : FnC W.G P w K mg base 1 W.f37 W.fd37 ["steps"] (LM.M__law_key) := fnc W.F37 sc37 rfl rfl fun cdv A outer s H E hX =>
  css_one (cs_ret (c_tup (ca_cons (c_callB b_len W.z_len (by decide +kernel) (ca_cons (c_var 0) ca_nil)) (ca_cons (c_comp hX (ci_seq (c_var 0)) (own := [("step", 1)]) (blkOk_by (N := ["steps", "step"]) (sc := defScope st37) (by decide +kernel)) rfl (by decide) (fun Y hX hN q => by obtain ⟨s, H, C, cl, fp, q⟩ := q; subst q; exact cg_name hX 1) (fun Y hX hN q => by obtain ⟨s, H, C, cl, fp, q⟩ := q; subst q; exact cts_nil) (fun Y hX hN q => by obtain ⟨s, H, C, cl, fp, q⟩ := q; subst q; exact c_bin d_add (c_bin d_mul c_int (c_callB b_abs W.z_abs (by decide +kernel) (ca_cons (c_var 1) ca_nil))) (c_callTy b_int W.z_int (by decide +kernel) (ca_cons (CP.e (cp_op (d_lt hX) (c_var 1) c_int)) ca_nil)))) ca_nil))))
theorem w__law_ring : FnC W.G P w K mg base 2 W.f38 W.fd38 ["steps"] (M__law_ring) := fnc W.F38 sc38 rfl rfl fun cdv A outer s H E hX =>
  css_cons (cs_while hX (CW.ct (cw_and (CP.t (cp_op d_gt (c_callB b_len W.z_len (by decide +kernel) (ca_cons (c_var 0) ca_nil)) c_int)) (cw_and1 (CP.t (cp_op (d_eq hX) (c_ix (c_var 0) c_int) (c_un d_neg (c_ix (c_var 0) (c_un d_neg c_int)))))))) (css_one (cs_set hX 0 (c_slice (c_var 0) c_int (c_un d_neg c_int)))))
    (css_cons (cs_set hX 1 (c_var 0))
    (css_cons (cs_for hX (ci_range1 W.z_range (ca_cons (c_callB b_len W.z_len (by decide +kernel) (ca_cons (c_var 0) ca_nil)) ca_nil)) (cg_name hX 2) (css_one (cs_if (CP.t (cp_op (d_lt hX) (c_call ((w__law_key W).mono (by decide)) hX W.g37 W.F37.kp W.b37 (ca_cons (c_bin d_add (c_slice (c_var 0) (c_var 2) trivial) (c_slice (c_var 0) trivial (c_var 2))) ca_nil)) (c_call ((w__law_key W).mono (by decide)) hX W.g37 W.F37.kp W.b37 (ca_cons (c_var 1) ca_nil)))) (css_one (cs_set hX 1 (c_bin d_add (c_slice (c_var 0) (c_var 2) trivial) (c_slice (c_var 0) trivial (c_var 2))))) css_nil)))
    (css_one (cs_ret (c_var 1)))))
theorem w_plain_course : FnC W.G P w K mg base 5 W.f18 W.fd18 ["letters", "course"] (LM.M_plain_course) := fnc W.F18 sc18 rfl rfl fun cdv A outer s H E hX =>
  css_one (cs_ret (c_call ((w_plain_of W).mono (by decide)) hX W.g14 W.F14.kp W.b14 (ca_cons (c_call ((w_need_course W).mono (by decide)) hX W.g13 W.F13.kp W.b13 (ca_cons (c_var 0) (ca_cons (c_var 1) ca_nil))) ca_nil)))
theorem w_check_turning : FnC W.G P w K mg base 5 W.f29 W.fd29 ["letters", "one", "other", "turn"] (LM.M_check_turning) := fnc W.F29 sc29 rfl rfl fun cdv A outer s H E hX =>
  css_cons (cs_drop (c_call ((w_need_course W).mono (by decide)) hX W.g13 W.F13.kp W.b13 (ca_cons (c_var 0) (ca_cons (c_var 1) ca_nil))))
    (css_cons (cs_drop (c_call ((w_need_course W).mono (by decide)) hX W.g13 W.F13.kp W.b13 (ca_cons (c_var 0) (ca_cons (c_var 2) ca_nil))))
    (css_cons (cs_set hX 4 (c_call ((w_plain_of W).mono (by decide)) hX W.g14 W.F14.kp W.b14 (ca_cons (c_bin d_add (c_bin d_add (c_call ((w_need_course W).mono (by decide)) hX W.g13 W.F13.kp W.b13 (ca_cons (c_var 0) (ca_cons (c_var 3) ca_nil))) (c_var 1)) (c_call ((w_back_of W).mono (by decide)) hX W.g15 W.F15.kp W.b15 (ca_cons (c_var 3) ca_nil))) ca_nil)))
    (css_one (cs_ret (CP.e (cp_op (d_eq hX) (c_var 4) (c_call ((w_plain_of W).mono (by decide)) hX W.g14 W.F14.kp W.b14 (ca_cons (c_var 2) ca_nil))))))))
theorem w__law_great_right : FnC W.G P w K mg base 7 W.f42 W.fd42 ["m"] (M__law_great_right reprD) := fnc W.F42 sc42 rfl rfl fun cdv A outer s H E hX =>
  css_cons (cs_set hX 1 (c_bin d_add c_int (c_call ((w__law_next W).mono (by decide)) hX W.g32 W.F32.kp W.b32 (ca_cons (c_var 0) (ca_cons c_int ca_nil)))))
    (css_cons (cs_par hX 7 8 (ca_cons (c_call ((w__law_steps W).mono (by decide)) hX W.g34 W.F34.kp W.b34 (ca_cons (c_var 0) (ca_cons (c_var 1) (ca_cons c_int ca_nil)))) (ca_cons (c_call ((w__law_steps W).mono (by decide)) hX W.g34 W.F34.kp W.b34 (ca_cons (c_var 0) (ca_cons (c_var 1) (ca_cons c_int ca_nil)))) ca_nil)))
    (css_cons (cs_set hX 2 (c_call ((w__law_plain W).mono (by decide)) hX W.g35 W.F35.kp W.b35 (ca_cons (c_var 7) ca_nil)))
    (css_cons (cs_par hX 9 10 (ca_cons (c_call ((w__law_plain W).mono (by decide)) hX W.g35 W.F35.kp W.b35 (ca_cons (c_bin d_add (c_bin d_add (c_var 8) (c_var 7)) (c_call ((w__law_back W).mono (by decide)) hX W.g36 W.F36.kp W.b36 (ca_cons (c_var 8) ca_nil))) ca_nil)) (ca_cons (c_callB (b_repr hX) W.z_repr (by decide +kernel) (ca_cons (c_tup (ca_cons (c_var 7) (ca_cons (c_var 8) ca_nil))) ca_nil)) ca_nil)))
    (css_cons (cs_if (CW.ct (cw_or (CP.t (cp_op (d_ne hX) (c_call ((w_ring_of W).mono (by decide)) hX W.g26 W.F26.kp W.b26 (ca_cons (c_var 1) (ca_cons (c_var 7) ca_nil))) (c_call ((w__law_ring W).mono (by decide)) hX W.g38 W.F38.kp W.b38 (ca_cons (c_var 2) ca_nil)))) (cw_or1 (CP.t (cp_op (d_ne hX) (c_call ((w_ring_of W).mono (by decide)) hX W.g26 W.F26.kp W.b26 (ca_cons (c_var 1) (ca_cons (c_bin d_add (c_var 9) (c_tup (ca_cons c_int (ca_cons (c_un d_neg c_int) ca_nil)))) ca_nil))) (c_call ((w__law_ring W).mono (by decide)) hX W.g38 W.F38.kp W.b38 (ca_cons (c_var 2) ca_nil))))))) (css_one (cs_ret c_bl)) css_nil)
    (css_cons (cs_set hX 3 (c_bin d_add (c_var 9) (c_tup (ca_cons c_int ca_nil))))
    (css_cons (cs_for hX (ci_seq (c_tup (ca_cons (c_var 9) (ca_cons (c_var 3) (ca_cons (c_call ((w__law_back W).mono (by decide)) hX W.g36 W.F36.kp W.b36 (ca_cons (c_var 9) ca_nil)) (ca_cons (c_call ((w__law_steps W).mono (by decide)) hX W.g34 W.F34.kp W.b34 (ca_cons (c_var 0) (ca_cons (c_var 1) (ca_cons c_int ca_nil)))) ca_nil)))))) (cg_name hX 4) (css_cons (cs_par hX 13 14 (ca_cons (c_call ((w_turning W).mono (by decide)) hX W.g28 W.F28.kp W.b28 (ca_cons (c_var 1) (ca_cons (c_var 7) (ca_cons (c_var 4) ca_nil)))) (ca_cons (CP.e (cp_op (d_eq hX) (c_call ((w__law_ring W).mono (by decide)) hX W.g38 W.F38.kp W.b38 (ca_cons (c_call ((w__law_plain W).mono (by decide)) hX W.g35 W.F35.kp W.b35 (ca_cons (c_var 4) ca_nil)) ca_nil)) (c_call ((w__law_ring W).mono (by decide)) hX W.g38 W.F38.kp W.b38 (ca_cons (c_var 2) ca_nil)))) ca_nil)))
    (css_cons (cs_if (CP.t (cp_op (d_eq hX) (CP.e (cp_op d_isN (c_var 13) c_non)) (c_var 14))) (css_one (cs_ret c_bl)) css_nil)
    (css_cons (cs_if (CW.ct (cw_and (c_bool (c_var 14)) (cw_and1 (CW.ct (cw_or (CP.t (cp_op (d_ne hX) (c_call ((w_plain_course W).mono (by decide)) hX W.g18 W.F18.kp W.b18 (ca_cons (c_var 1) (ca_cons (c_var 13) ca_nil))) (c_var 13))) (cw_or1 (c_notT (c_bool (c_call ((w__law_turns W).mono (by decide)) hX W.g39 W.F39.kp W.b39 (ca_cons (c_var 13) (ca_cons (c_var 2) (ca_cons (c_call ((w__law_plain W).mono (by decide)) hX W.g35 W.F35.kp W.b35 (ca_cons (c_var 4) ca_nil)) ca_nil)))))))))))) (css_one (cs_ret c_bl)) css_nil)
    (css_one (cs_for hX (ci_seq (c_tup (ca_cons (c_var 8) (ca_cons (c_ifExp (CP.t (cp_op d_isN (c_var 13) c_non)) (c_tup ca_nil) (c_var 13)) (ca_cons (c_bin d_add (c_var 8) (c_tup (ca_cons c_int ca_nil))) (ca_cons (c_bin d_add (c_var 8) (c_var 2)) (ca_cons (c_call ((w__law_back W).mono (by decide)) hX W.g36 W.F36.kp W.b36 (ca_cons (c_var 8) ca_nil)) ca_nil))))))) (cg_name hX 11) (css_one (cs_if (CP.t (cp_op (d_ne hX) (c_callB (b_repr hX) W.z_repr (by decide +kernel) (ca_cons (c_call ((w_check_turning W).mono (by decide)) hX W.g29 W.F29.kp W.b29 (ca_cons (c_var 1) (ca_cons (c_var 7) (ca_cons (c_var 4) (ca_cons (c_var 11) ca_nil))))) ca_nil)) (c_callB (b_repr hX) W.z_repr (by decide +kernel) (ca_cons (c_call ((w__law_turns W).mono (by decide)) hX W.g39 W.F39.kp W.b39 (ca_cons (c_var 11) (ca_cons (c_var 2) (ca_cons (c_call ((w__law_plain W).mono (by decide)) hX W.g35 W.F35.kp W.b35 (ca_cons (c_var 4) ca_nil)) ca_nil)))) ca_nil)))) (css_one (cs_ret c_bl)) css_nil))))))))
    (css_cons (cs_set hX 5 (c_call ((w_turning W).mono (by decide)) hX W.g28 W.F28.kp W.b28 (ca_cons (c_var 1) (ca_cons (c_var 7) (ca_cons (c_var 9) ca_nil)))))
    (css_cons (cs_for hX (ci_range2 W.z_range (ca_cons c_int (ca_cons c_int ca_nil))) (cg_name hX 6) (css_one (cs_for hX (ci_seq (c_tup (ca_cons (c_bin d_add (c_var 5) (c_bin d_mul (c_var 2) (c_var 6))) (ca_cons (c_bin d_add (c_var 5) (c_bin d_mul (c_call ((w__law_back W).mono (by decide)) hX W.g36 W.F36.kp W.b36 (ca_cons (c_var 2) ca_nil)) (c_var 6))) (ca_cons (c_bin d_add (c_var 8) (c_bin d_mul (c_var 2) (c_var 6))) ca_nil))))) (cg_name hX 12) (css_one (cs_if (CP.t (cp_op (d_lt hX) (c_call ((w__law_key W).mono (by decide)) hX W.g37 W.F37.kp W.b37 (ca_cons (c_call ((w__law_plain W).mono (by decide)) hX W.g35 W.F35.kp W.b35 (ca_cons (c_var 12) ca_nil)) ca_nil)) (c_call ((w__law_key W).mono (by decide)) hX W.g37 W.F37.kp W.b37 (ca_cons (c_var 5) ca_nil)))) (css_one (cs_ret c_bl)) css_nil)))))
    (css_one (cs_ret (CP.e (cp_op (d_eq hX) (c_callB (b_repr hX) W.z_repr (by decide +kernel) (ca_cons (c_tup (ca_cons (c_var 7) (ca_cons (c_var 8) ca_nil))) ca_nil)) (c_var 10)))))))))))))
theorem w_law : FnC W.G P w K mg base 8 W.f43 W.fd43 ["script"] (M_law reprD) := fnc W.F43 sc43 rfl rfl fun cdv A outer s H E hX =>
  css_cons (cs_set hX 1 (c_call ((w__law_begun W).mono (by decide)) hX W.g31 W.F31.kp W.b31 (ca_cons (c_var 0) ca_nil)))
    (css_cons (cs_for hX (ci_range1 W.z_range (ca_cons (c_bin d_add c_int (c_callB (b_min hX) W.z_min (by decide +kernel) (ca_cons (c_callB b_len W.z_len (by decide +kernel) (ca_cons (c_var 0) ca_nil)) (ca_cons c_int ca_nil)))) ca_nil)) (cg_name hX 2) (css_one (cs_if (CW.ct (cw_or (c_notT (c_bool (c_call ((w__law_small_right W).mono (by decide)) hX W.g41 W.F41.kp W.b41 (ca_cons (c_var 1) ca_nil)))) (cw_or1 (c_notT (c_bool (c_call ((w__law_great_right W).mono (by decide)) hX W.g42 W.F42.kp W.b42 (ca_cons (c_var 1) ca_nil))))))) (css_one (cs_ret c_bl)) css_nil)))
    (css_cons (cs_set hX 3 (c_bin d_add (c_bin d_mul (c_tup (ca_cons c_int (ca_cons c_int (ca_cons c_int ca_nil)))) c_int) (c_tup (ca_cons c_int (ca_cons c_int (ca_cons c_int ca_nil))))))
    (css_cons (cs_set hX 4 (c_bin d_add (c_slice (c_var 3) c_int trivial) (c_slice (c_var 3) trivial c_int)))
    (css_cons (cs_set hX 5 (c_call ((w_turning W).mono (by decide)) hX W.g28 W.F28.kp W.b28 (ca_cons c_int (ca_cons (c_var 3) (ca_cons (c_var 4) ca_nil)))))
    (css_cons (cs_if (CW.ct (cw_or (c_notT (c_bool (c_call ((w__law_turns W).mono (by decide)) hX W.g39 W.F39.kp W.b39 (ca_cons (c_var 5) (ca_cons (c_var 3) (ca_cons (c_var 4) ca_nil)))))) (cw_or (CP.t (cp_op (d_ne hX) (c_callB b_len W.z_len (by decide +kernel) (ca_cons (c_var 5) ca_nil)) c_int)) (cw_or1 (CP.t (cp_op (d_ne hX) (c_call ((w_ring_of W).mono (by decide)) hX W.g26 W.F26.kp W.b26 (ca_cons c_int (ca_cons (c_var 4) ca_nil))) (c_call ((w__law_ring W).mono (by decide)) hX W.g38 W.F38.kp W.b38 (ca_cons (c_var 3) ca_nil)))))))) (css_one (cs_ret c_bl)) css_nil)
    (css_cons (cs_if (CW.ct (cw_or (CP.t (cp_op (d_ne hX) (c_call ((w_turning W).mono (by decide)) hX W.g28 W.F28.kp W.b28 (ca_cons c_int (ca_cons (c_bin d_mul (c_tup (ca_cons c_int (ca_cons c_int ca_nil))) c_int) (ca_cons (c_bin d_mul (c_tup (ca_cons c_int (ca_cons c_int ca_nil))) c_int) ca_nil)))) (c_tup (ca_cons (c_un d_neg c_int) ca_nil)))) (cw_or1 (c_bool (c_call ((w_check_turning W).mono (by decide)) hX W.g29 W.F29.kp W.b29 (ca_cons c_int (ca_cons (c_tup (ca_cons c_int ca_nil)) (ca_cons (c_tup (ca_cons c_int ca_nil)) (ca_cons (c_bin d_mul (c_tup (ca_cons c_int ca_nil)) c_int) ca_nil))))))))) (css_one (cs_ret c_bl)) css_nil)
    (css_cons (cs_if (CW.ct (cw_or (c_notT (c_bool (c_call ((w_check_turning W).mono (by decide)) hX W.g29 W.F29.kp W.b29 (ca_cons c_int (ca_cons (c_tup (ca_cons c_int ca_nil)) (ca_cons (c_tup (ca_cons c_int ca_nil)) (ca_cons (c_bin d_mul (c_tup (ca_cons c_int ca_nil)) c_int) ca_nil))))))) (cw_or1 (CP.t (cp_op d_isnotN (c_call ((w_turning W).mono (by decide)) hX W.g28 W.F28.kp W.b28 (ca_cons c_int (ca_cons (c_bin d_mul (c_tup (ca_cons c_int ca_nil)) c_int) (ca_cons (c_bin d_mul (c_tup (ca_cons c_int ca_nil)) c_int) ca_nil)))) c_non))))) (css_one (cs_ret c_bl)) css_nil)
    (css_cons (cs_for hX (ci_seq (c_tup (ca_cons (c_tup (ca_cons c_int (ca_cons c_int ca_nil))) (ca_cons (c_lst (ca_cons c_int ca_nil)) (ca_cons c_non ca_nil))))) (cg_name hX 6) (css_cons (cs_set hX 7 (c_tup ca_nil))
    (css_cons (cs_try hX (fun _ => rfl) (fun pn xe hX => css_one (cs_drop (c_call ((w_check_turning W).mono (by decide)) hX W.g29 W.F29.kp W.b29 (ca_cons c_int (ca_cons (c_tup (ca_cons c_int ca_nil)) (ca_cons (c_tup (ca_cons c_int ca_nil)) (ca_cons (c_var 6) ca_nil))))))) (HdsC.named (i := 8) (n₀ := 0) W.gx_BadCourse (And.intro W.xm_BadCourse_BadCourse (And.intro W.xm_BadNumber_BadCourse True.intro)) (by decide) (fun a oe dd pn hz hf => have hV := Cv.suite hX a ((a, oe) :: pn); css_one (cs_setV hV 7 (c_xf W.xc_BadCourse hz hf (c_var 8)))) .nil hX.nd))
    (css_one (cs_if (CP.t (cp_op (d_ne hX) (c_var 7) (c_ifExp (c_bool (c_isi W.z_isinstance W.z_tuple (by decide +kernel) k_tuple (c_var 6))) c_int c_non))) (css_one (cs_ret c_bl)) css_nil)))))
    (css_one (cs_ret (c_andV (CP.e (cp_op (d_eq hX) (c_call ((w_turning W).mono (by decide)) hX W.g28 W.F28.kp W.b28 (ca_cons c_int (ca_cons (c_tup (ca_cons c_int (ca_cons (c_un d_neg c_int) ca_nil))) (ca_cons (c_tup ca_nil) ca_nil)))) (c_tup ca_nil))) (c_andV (CP.e (cp_op d_isN (c_call ((w_turning W).mono (by decide)) hX W.g28 W.F28.kp W.b28 (ca_cons c_int (ca_cons (c_tup ca_nil) (ca_cons (c_tup (ca_cons c_int ca_nil)) ca_nil)))) c_non)) (c_one (c_call ((w_check_turning W).mono (by decide)) hX W.g29 W.F29.kp W.b29 (ca_cons c_int (ca_cons (c_tup ca_nil) (ca_cons (c_tup (ca_cons c_int (ca_cons (c_un d_neg c_int) ca_nil))) (ca_cons (c_tup (ca_cons c_int ca_nil)) ca_nil))))))))))))))))))
end
/-- what the top has written -/
theorem all_mk [T0 : Tbs] (cs : List (Addr × Addr)) {prog : Program} {w : World} {K : PySem.W.Frag} {h : Heap} {mg : Str → Option Value} {fa : Addr} (X : K.In h) (Gn : h.Ns mainGlobals mg) (hfa : mg "law" = some (.ref fa))
    {f31 : Addr} {od31 an31 : Option Addr} {sl31 : Array (Option Value)} {oc31 kV31 dc31 pm31 cd31 ct31 : Value}
    (a31 : PySem.W.nsIn K mainGlobals "_law_begun" = some (some (.ref f31))) (l31 : K.lookup f31 = some ⟨oc31, od31, .func (PySem.W.fnOf "_law_begun" "_law_begun" (defArgs st31) (defBody st31) (defScope st31) .none kV31 dc31 pm31 an31 cd31 ct31), sl31⟩) (c31 : PySem.W.codeIn K cd31 "_law_begun" = true) (k31 : PySem.W.keepIn K (.ref f31) = true)
    {f32 : Addr} {od32 an32 : Option Addr} {sl32 : Array (Option Value)} {oc32 kV32 dc32 pm32 cd32 ct32 : Value}
    (a32 : PySem.W.nsIn K mainGlobals "_law_next" = some (some (.ref f32))) (l32 : K.lookup f32 = some ⟨oc32, od32, .func (PySem.W.fnOf "_law_next" "_law_next" (defArgs st32) (defBody st32) (defScope st32) .none kV32 dc32 pm32 an32 cd32 ct32), sl32⟩) (c32 : PySem.W.codeIn K cd32 "_law_next" = true) (k32 : PySem.W.keepIn K (.ref f32) = true)
    {f35 : Addr} {od35 an35 : Option Addr} {sl35 : Array (Option Value)} {oc35 kV35 dc35 pm35 cd35 ct35 : Value}
    (a35 : PySem.W.nsIn K mainGlobals "_law_plain" = some (some (.ref f35))) (l35 : K.lookup f35 = some ⟨oc35, od35, .func (PySem.W.fnOf "_law_plain" "_law_plain" (defArgs st35) (defBody st35) (defScope st35) .none kV35 dc35 pm35 an35 cd35 ct35), sl35⟩) (c35 : PySem.W.codeIn K cd35 "_law_plain" = true) (k35 : PySem.W.keepIn K (.ref f35) = true)
    {f33 : Addr} {od33 an33 : Option Addr} {sl33 : Array (Option Value)} {oc33 kV33 dc33 pm33 cd33 ct33 : Value}
    (a33 : PySem.W.nsIn K mainGlobals "_law_of" = some (some (.ref f33))) (l33 : K.lookup f33 = some ⟨oc33, od33, .func (PySem.W.fnOf "_law_of" "_law_of" (defArgs st33) (defBody st33) (defScope st33) .none kV33 dc33 pm33 an33 cd33 ct33), sl33⟩) (c33 : PySem.W.codeIn K cd33 "_law_of" = true) (k33 : PySem.W.keepIn K (.ref f33) = true)
    {f34 : Addr} {od34 an34 : Option Addr} {sl34 : Array (Option Value)} {oc34 kV34 dc34 pm34 cd34 ct34 : Value}
    (a34 : PySem.W.nsIn K mainGlobals "_law_steps" = some (some (.ref f34))) (l34 : K.lookup f34 = some ⟨oc34, od34, .func (PySem.W.fnOf "_law_steps" "_law_steps" (defArgs st34) (defBody st34) (defScope st34) .none kV34 dc34 pm34 an34 cd34 ct34), sl34⟩) (c34 : PySem.W.codeIn K cd34 "_law_steps" = true) (k34 : PySem.W.keepIn K (.ref f34) = true)
    {f36 : Addr} {od36 an36 : Option Addr} {sl36 : Array (Option Value)} {oc36 kV36 dc36 pm36 cd36 ct36 : Value}
    (a36 : PySem.W.nsIn K mainGlobals "_law_back" = some (some (.ref f36))) (l36 : K.lookup f36 = some ⟨oc36, od36, .func (PySem.W.fnOf "_law_back" "_law_back" (defArgs st36) (defBody st36) (defScope st36) .none kV36 dc36 pm36 an36 cd36 ct36), sl36⟩) (c36 : PySem.W.codeIn K cd36 "_law_back" = true) (k36 : PySem.W.keepIn K (.ref f36) = true)
    {f39 : Addr} {od39 an39 : Option Addr} {sl39 : Array (Option Value)} {oc39 kV39 dc39 pm39 cd39 ct39 : Value}
    (a39 : PySem.W.nsIn K mainGlobals "_law_turns" = some (some (.ref f39))) (l39 : K.lookup f39 = some ⟨oc39, od39, .func (PySem.W.fnOf "_law_turns" "_law_turns" (defArgs st39) (defBody st39) (defScope st39) .none kV39 dc39 pm39 an39 cd39 ct39), sl39⟩) (c39 : PySem.W.codeIn K cd39 "_law_turns" = true) (k39 : PySem.W.keepIn K (.ref f39) = true)
    {f40 : Addr} {od40 an40 : Option Addr} {sl40 : Array (Option Value)} {oc40 kV40 dc40 pm40 cd40 ct40 : Value}
    (a40 : PySem.W.nsIn K mainGlobals "_law_first" = some (some (.ref f40))) (l40 : K.lookup f40 = some ⟨oc40, od40, .func (PySem.W.fnOf "_law_first" "_law_first" (defArgs st40) (defBody st40) (defScope st40) .none kV40 dc40 pm40 an40 cd40 ct40), sl40⟩) (c40 : PySem.W.codeIn K cd40 "_law_first" = true) (k40 : PySem.W.keepIn K (.ref f40) = true)
    {f5 : Addr} {od5 an5 : Option Addr} {sl5 : Array (Option Value)} {oc5 kV5 dc5 pm5 cd5 ct5 : Value}
    (a5 : PySem.W.nsIn K mainGlobals "is_number" = some (some (.ref f5))) (l5 : K.lookup f5 = some ⟨oc5, od5, .func (PySem.W.fnOf "is_number" "is_number" (defArgs st5) (defBody st5) (defScope st5) .none kV5 dc5 pm5 an5 cd5 ct5), sl5⟩) (c5 : PySem.W.codeIn K cd5 "is_number" = true) (k5 : PySem.W.keepIn K (.ref f5) = true)
    {f6 : Addr} {od6 an6 : Option Addr} {sl6 : Array (Option Value)} {oc6 kV6 dc6 pm6 cd6 ct6 : Value}
    (a6 : PySem.W.nsIn K mainGlobals "is_among" = some (some (.ref f6))) (l6 : K.lookup f6 = some ⟨oc6, od6, .func (PySem.W.fnOf "is_among" "is_among" (defArgs st6) (defBody st6) (defScope st6) .none kV6 dc6 pm6 an6 cd6 ct6), sl6⟩) (c6 : PySem.W.codeIn K cd6 "is_among" = true) (k6 : PySem.W.keepIn K (.ref f6) = true)
    {f11 : Addr} {od11 an11 : Option Addr} {sl11 : Array (Option Value)} {oc11 kV11 dc11 pm11 cd11 ct11 : Value}
    (a11 : PySem.W.nsIn K mainGlobals "need_letters" = some (some (.ref f11))) (l11 : K.lookup f11 = some ⟨oc11, od11, .func (PySem.W.fnOf "need_letters" "need_letters" (defArgs st11) (defBody st11) (defScope st11) .none kV11 dc11 pm11 an11 cd11 ct11), sl11⟩) (c11 : PySem.W.codeIn K cd11 "need_letters" = true) (k11 : PySem.W.keepIn K (.ref f11) = true)
    {f7 : Addr} {od7 an7 : Option Addr} {sl7 : Array (Option Value)} {oc7 kV7 dc7 pm7 cd7 ct7 : Value}
    (a7 : PySem.W.nsIn K mainGlobals "is_tuple_of" = some (some (.ref f7))) (l7 : K.lookup f7 = some ⟨oc7, od7, .func (PySem.W.fnOf "is_tuple_of" "is_tuple_of" (defArgs st7) (defBody st7) (defScope st7) .none kV7 dc7 pm7 an7 cd7 ct7), sl7⟩) (c7 : PySem.W.codeIn K cd7 "is_tuple_of" = true) (k7 : PySem.W.keepIn K (.ref f7) = true)
    {f12 : Addr} {od12 an12 : Option Addr} {sl12 : Array (Option Value)} {oc12 kV12 dc12 pm12 cd12 ct12 : Value}
    (a12 : PySem.W.nsIn K mainGlobals "is_step" = some (some (.ref f12))) (l12 : K.lookup f12 = some ⟨oc12, od12, .func (PySem.W.fnOf "is_step" "is_step" (defArgs st12) (defBody st12) (defScope st12) .none kV12 dc12 pm12 an12 cd12 ct12), sl12⟩) (c12 : PySem.W.codeIn K cd12 "is_step" = true) (k12 : PySem.W.keepIn K (.ref f12) = true)
    {f13 : Addr} {od13 an13 : Option Addr} {sl13 : Array (Option Value)} {oc13 kV13 dc13 pm13 cd13 ct13 : Value}
    (a13 : PySem.W.nsIn K mainGlobals "need_course" = some (some (.ref f13))) (l13 : K.lookup f13 = some ⟨oc13, od13, .func (PySem.W.fnOf "need_course" "need_course" (defArgs st13) (defBody st13) (defScope st13) .none kV13 dc13 pm13 an13 cd13 ct13), sl13⟩) (c13 : PySem.W.codeIn K cd13 "need_course" = true) (k13 : PySem.W.keepIn K (.ref f13) = true)
    {f19 : Addr} {od19 an19 : Option Addr} {sl19 : Array (Option Value)} {oc19 kV19 dc19 pm19 cd19 ct19 : Value}
    (a19 : PySem.W.nsIn K mainGlobals "parted" = some (some (.ref f19))) (l19 : K.lookup f19 = some ⟨oc19, od19, .func (PySem.W.fnOf "parted" "parted" (defArgs st19) (defBody st19) (defScope st19) .none kV19 dc19 pm19 an19 cd19 ct19), sl19⟩) (c19 : PySem.W.codeIn K cd19 "parted" = true) (k19 : PySem.W.keepIn K (.ref f19) = true)
    {f14 : Addr} {od14 an14 : Option Addr} {sl14 : Array (Option Value)} {oc14 kV14 dc14 pm14 cd14 ct14 : Value}
    (a14 : PySem.W.nsIn K mainGlobals "plain_of" = some (some (.ref f14))) (l14 : K.lookup f14 = some ⟨oc14, od14, .func (PySem.W.fnOf "plain_of" "plain_of" (defArgs st14) (defBody st14) (defScope st14) .none kV14 dc14 pm14 an14 cd14 ct14), sl14⟩) (c14 : PySem.W.codeIn K cd14 "plain_of" = true) (k14 : PySem.W.keepIn K (.ref f14) = true)
    {f17 : Addr} {od17 an17 : Option Addr} {sl17 : Array (Option Value)} {oc17 kV17 dc17 pm17 cd17 ct17 : Value}
    (a17 : PySem.W.nsIn K mainGlobals "key_of" = some (some (.ref f17))) (l17 : K.lookup f17 = some ⟨oc17, od17, .func (PySem.W.fnOf "key_of" "key_of" (defArgs st17) (defBody st17) (defScope st17) .none kV17 dc17 pm17 an17 cd17 ct17), sl17⟩) (c17 : PySem.W.codeIn K cd17 "key_of" = true) (k17 : PySem.W.keepIn K (.ref f17) = true)
    {f24 : Addr} {od24 an24 : Option Addr} {sl24 : Array (Option Value)} {oc24 kV24 dc24 pm24 cd24 ct24 : Value}
    (a24 : PySem.W.nsIn K mainGlobals "least_spot" = some (some (.ref f24))) (l24 : K.lookup f24 = some ⟨oc24, od24, .func (PySem.W.fnOf "least_spot" "least_spot" (defArgs st24) (defBody st24) (defScope st24) .none kV24 dc24 pm24 an24 cd24 ct24), sl24⟩) (c24 : PySem.W.codeIn K cd24 "least_spot" = true) (k24 : PySem.W.keepIn K (.ref f24) = true)
    {f25 : Addr} {od25 an25 : Option Addr} {sl25 : Array (Option Value)} {oc25 kV25 dc25 pm25 cd25 ct25 : Value}
    (a25 : PySem.W.nsIn K mainGlobals "turned_to" = some (some (.ref f25))) (l25 : K.lookup f25 = some ⟨oc25, od25, .func (PySem.W.fnOf "turned_to" "turned_to" (defArgs st25) (defBody st25) (defScope st25) .none kV25 dc25 pm25 an25 cd25 ct25), sl25⟩) (c25 : PySem.W.codeIn K cd25 "turned_to" = true) (k25 : PySem.W.keepIn K (.ref f25) = true)
    {f16 : Addr} {od16 an16 : Option Addr} {sl16 : Array (Option Value)} {oc16 kV16 dc16 pm16 cd16 ct16 : Value}
    (a16 : PySem.W.nsIn K mainGlobals "behind_of" = some (some (.ref f16))) (l16 : K.lookup f16 = some ⟨oc16, od16, .func (PySem.W.fnOf "behind_of" "behind_of" (defArgs st16) (defBody st16) (defScope st16) .none kV16 dc16 pm16 an16 cd16 ct16), sl16⟩) (c16 : PySem.W.codeIn K cd16 "behind_of" = true) (k16 : PySem.W.keepIn K (.ref f16) = true)
    {f15 : Addr} {od15 an15 : Option Addr} {sl15 : Array (Option Value)} {oc15 kV15 dc15 pm15 cd15 ct15 : Value}
    (a15 : PySem.W.nsIn K mainGlobals "back_of" = some (some (.ref f15))) (l15 : K.lookup f15 = some ⟨oc15, od15, .func (PySem.W.fnOf "back_of" "back_of" (defArgs st15) (defBody st15) (defScope st15) .none kV15 dc15 pm15 an15 cd15 ct15), sl15⟩) (c15 : PySem.W.codeIn K cd15 "back_of" = true) (k15 : PySem.W.keepIn K (.ref f15) = true)
    {f27 : Addr} {od27 an27 : Option Addr} {sl27 : Array (Option Value)} {oc27 kV27 dc27 pm27 cd27 ct27 : Value}
    (a27 : PySem.W.nsIn K mainGlobals "first_by_turns" = some (some (.ref f27))) (l27 : K.lookup f27 = some ⟨oc27, od27, .func (PySem.W.fnOf "first_by_turns" "first_by_turns" (defArgs st27) (defBody st27) (defScope st27) .none kV27 dc27 pm27 an27 cd27 ct27), sl27⟩) (c27 : PySem.W.codeIn K cd27 "first_by_turns" = true) (k27 : PySem.W.keepIn K (.ref f27) = true)
    {f22 : Addr} {od22 an22 : Option Addr} {sl22 : Array (Option Value)} {oc22 kV22 dc22 pm22 cd22 ct22 : Value}
    (a22 : PySem.W.nsIn K mainGlobals "period_of" = some (some (.ref f22))) (l22 : K.lookup f22 = some ⟨oc22, od22, .func (PySem.W.fnOf "period_of" "period_of" (defArgs st22) (defBody st22) (defScope st22) .none kV22 dc22 pm22 an22 cd22 ct22), sl22⟩) (c22 : PySem.W.codeIn K cd22 "period_of" = true) (k22 : PySem.W.keepIn K (.ref f22) = true)
    {f23 : Addr} {od23 an23 : Option Addr} {sl23 : Array (Option Value)} {oc23 kV23 dc23 pm23 cd23 ct23 : Value}
    (a23 : PySem.W.nsIn K mainGlobals "rooted" = some (some (.ref f23))) (l23 : K.lookup f23 = some ⟨oc23, od23, .func (PySem.W.fnOf "rooted" "rooted" (defArgs st23) (defBody st23) (defScope st23) .none kV23 dc23 pm23 an23 cd23 ct23), sl23⟩) (c23 : PySem.W.codeIn K cd23 "rooted" = true) (k23 : PySem.W.keepIn K (.ref f23) = true)
    {f28 : Addr} {od28 an28 : Option Addr} {sl28 : Array (Option Value)} {oc28 kV28 dc28 pm28 cd28 ct28 : Value}
    (a28 : PySem.W.nsIn K mainGlobals "turning" = some (some (.ref f28))) (l28 : K.lookup f28 = some ⟨oc28, od28, .func (PySem.W.fnOf "turning" "turning" (defArgs st28) (defBody st28) (defScope st28) .none kV28 dc28 pm28 an28 cd28 ct28), sl28⟩) (c28 : PySem.W.codeIn K cd28 "turning" = true) (k28 : PySem.W.keepIn K (.ref f28) = true)
    {f41 : Addr} {od41 an41 : Option Addr} {sl41 : Array (Option Value)} {oc41 kV41 dc41 pm41 cd41 ct41 : Value}
    (a41 : PySem.W.nsIn K mainGlobals "_law_small_right" = some (some (.ref f41))) (l41 : K.lookup f41 = some ⟨oc41, od41, .func (PySem.W.fnOf "_law_small_right" "_law_small_right" (defArgs st41) (defBody st41) (defScope st41) .none kV41 dc41 pm41 an41 cd41 ct41), sl41⟩) (c41 : PySem.W.codeIn K cd41 "_law_small_right" = true) (k41 : PySem.W.keepIn K (.ref f41) = true)
    {f21 : Addr} {od21 an21 : Option Addr} {sl21 : Array (Option Value)} {oc21 kV21 dc21 pm21 cd21 ct21 : Value}
    (a21 : PySem.W.nsIn K mainGlobals "ring_part" = some (some (.ref f21))) (l21 : K.lookup f21 = some ⟨oc21, od21, .func (PySem.W.fnOf "ring_part" "ring_part" (defArgs st21) (defBody st21) (defScope st21) .none kV21 dc21 pm21 an21 cd21 ct21), sl21⟩) (c21 : PySem.W.codeIn K cd21 "ring_part" = true) (k21 : PySem.W.keepIn K (.ref f21) = true)
    {f26 : Addr} {od26 an26 : Option Addr} {sl26 : Array (Option Value)} {oc26 kV26 dc26 pm26 cd26 ct26 : Value}
    (a26 : PySem.W.nsIn K mainGlobals "ring_of" = some (some (.ref f26))) (l26 : K.lookup f26 = some ⟨oc26, od26, .func (PySem.W.fnOf "ring_of" "ring_of" (defArgs st26) (defBody st26) (defScope st26) .none kV26 dc26 pm26 an26 cd26 ct26), sl26⟩) (c26 : PySem.W.codeIn K cd26 "ring_of" = true) (k26 : PySem.W.keepIn K (.ref f26) = true)
    {f37 : Addr} {od37 an37 : Option Addr} {sl37 : Array (Option Value)} {oc37 kV37 dc37 pm37 cd37 ct37 : Value}
    (a37 : PySem.W.nsIn K mainGlobals "_law_key" = some (some (.ref f37))) (l37 : K.lookup f37 = some ⟨oc37, od37, .func (PySem.W.fnOf "_law_key" "_law_key" (defArgs st37) (defBody st37) (defScope st37) .none kV37 dc37 pm37 an37 cd37 ct37), sl37⟩) (c37 : PySem.W.codeIn K cd37 "_law_key" = true) (k37 : PySem.W.keepIn K (.ref f37) = true)
    {f38 : Addr} {od38 an38 : Option Addr} {sl38 : Array (Option Value)} {oc38 kV38 dc38 pm38 cd38 ct38 : Value}
    (a38 : PySem.W.nsIn K mainGlobals "_law_ring" = some (some (.ref f38))) (l38 : K.lookup f38 = some ⟨oc38, od38, .func (PySem.W.fnOf "_law_ring" "_law_ring" (defArgs st38) (defBody st38) (defScope st38) .none kV38 dc38 pm38 an38 cd38 ct38), sl38⟩) (c38 : PySem.W.codeIn K cd38 "_law_ring" = true) (k38 : PySem.W.keepIn K (.ref f38) = true)
    {f18 : Addr} {od18 an18 : Option Addr} {sl18 : Array (Option Value)} {oc18 kV18 dc18 pm18 cd18 ct18 : Value}
    (a18 : PySem.W.nsIn K mainGlobals "plain_course" = some (some (.ref f18))) (l18 : K.lookup f18 = some ⟨oc18, od18, .func (PySem.W.fnOf "plain_course" "plain_course" (defArgs st18) (defBody st18) (defScope st18) .none kV18 dc18 pm18 an18 cd18 ct18), sl18⟩) (c18 : PySem.W.codeIn K cd18 "plain_course" = true) (k18 : PySem.W.keepIn K (.ref f18) = true)
    {f29 : Addr} {od29 an29 : Option Addr} {sl29 : Array (Option Value)} {oc29 kV29 dc29 pm29 cd29 ct29 : Value}
    (a29 : PySem.W.nsIn K mainGlobals "check_turning" = some (some (.ref f29))) (l29 : K.lookup f29 = some ⟨oc29, od29, .func (PySem.W.fnOf "check_turning" "check_turning" (defArgs st29) (defBody st29) (defScope st29) .none kV29 dc29 pm29 an29 cd29 ct29), sl29⟩) (c29 : PySem.W.codeIn K cd29 "check_turning" = true) (k29 : PySem.W.keepIn K (.ref f29) = true)
    {f42 : Addr} {od42 an42 : Option Addr} {sl42 : Array (Option Value)} {oc42 kV42 dc42 pm42 cd42 ct42 : Value}
    (a42 : PySem.W.nsIn K mainGlobals "_law_great_right" = some (some (.ref f42))) (l42 : K.lookup f42 = some ⟨oc42, od42, .func (PySem.W.fnOf "_law_great_right" "_law_great_right" (defArgs st42) (defBody st42) (defScope st42) .none kV42 dc42 pm42 an42 cd42 ct42), sl42⟩) (c42 : PySem.W.codeIn K cd42 "_law_great_right" = true) (k42 : PySem.W.keepIn K (.ref f42) = true)
    {f43 : Addr} {od43 an43 : Option Addr} {sl43 : Array (Option Value)} {oc43 kV43 dc43 pm43 cd43 ct43 : Value}
    (a43 : PySem.W.nsIn K mainGlobals "law" = some (some (.ref f43))) (l43 : K.lookup f43 = some ⟨oc43, od43, .func (PySem.W.fnOf "law" "law" (defArgs st43) (defBody st43) (defScope st43) .none kV43 dc43 pm43 an43 cd43 ct43), sl43⟩) (c43 : PySem.W.codeIn K cd43 "law" = true) (k43 : PySem.W.keepIn K (.ref f43) = true)
    (hany : PySem.W.nsIn K cStatics "thirdparty.any" = some none) (hsup : PySem.W.nsIn K mainGlobals "super" = some none) (htop : (prog.main.scope.names.lookup ("super" : Str)).isSome = false)
    {xCourseError : Addr} {nmCourseError qCourseError : Str} {NCourseError : Addr} {bsCourseError : List Value} {hdCourseError : Bool} {snCourseError : List Str} {sbCourseError : List Value} {abCourseError : Bool} {colCourseError : Option Bool} {ddCourseError : Option Addr} {k0CourseError k1CourseError k2CourseError k3CourseError k5CourseError : Option Value} {nwCourseError : String}
    (baCourseError : PySem.W.nsIn K mainGlobals "CourseError" = some (some (.ref xCourseError))) (blCourseError : K.lookup xCourseError = some (excClassObj nmCourseError qCourseError xCourseError NCourseError bsCourseError [.type "ValueError", .type "Exception", .type "BaseException", .type "object"] hdCourseError snCourseError sbCourseError abCourseError colCourseError ddCourseError k0CourseError k1CourseError k2CourseError k3CourseError k5CourseError nwCourseError)) (bfCourseError : PySem.W.findIn K (.ref xCourseError) "__init__" = some (some (.builtin "ValueError.__init__")))
    {xBadNumber fiBadNumber cdaBadNumber ccBadNumber : Addr} {nmBadNumber qBadNumber : Str} {NBadNumber : Addr} {bsBadNumber : List Value} {snBadNumber : List Str} {sbBadNumber : List Value} {abBadNumber : Bool} {colBadNumber : Option Bool} {ddBadNumber : Option Addr} {k0BadNumber k1BadNumber k2BadNumber k3BadNumber k5BadNumber : Option Value} {kVBadNumber dcBadNumber pmBadNumber ctBadNumber ocBadNumber cclBadNumber clBadNumber : Value} {anBadNumber odBadNumber cddBadNumber cldBadNumber : Option Addr} {oslBadNumber ccsBadNumber cslBadNumber : Array (Option Value)} {vsBadNumber : Array Value} {fileBadNumber : Str} {tfBadNumber : Tok}
    (xaBadNumber : PySem.W.nsIn K mainGlobals "BadNumber" = some (some (.ref xBadNumber))) (xlBadNumber : K.lookup xBadNumber = some (excClassObj nmBadNumber qBadNumber xBadNumber NBadNumber bsBadNumber (.ref xCourseError :: [.type "ValueError", .type "Exception", .type "BaseException", .type "object"]) true snBadNumber sbBadNumber abBadNumber colBadNumber ddBadNumber k0BadNumber k1BadNumber k2BadNumber k3BadNumber k5BadNumber "ValueError.__new__"))
    (xsBadNumber : PySem.W.findIn K (.ref xBadNumber) "__setattr__" = some (some (.builtin "object.__setattr__"))) (xgBadNumber : PySem.W.findIn K (.ref xBadNumber) "__getattribute__" = some (some (.builtin "BaseException.__getattribute__"))) (xtBadNumber : PySem.W.findIn K (.ref xBadNumber) "__getattr__" = some none)
    (xnBadNumber : PySem.W.findIn K (.ref xBadNumber) "value" = some none) (xjBadNumber : PySem.W.findIn K (.ref xBadNumber) "__init__" = some (some (.ref fiBadNumber))) (xyBadNumber : PySem.W.typeIn K (.ref fiBadNumber) = some (.type "function")) (xYBadNumber : PySem.W.typeIn K (.ref xBadNumber) = some (.type "type"))
    (xBBadNumber : PySem.W.subIn K (.ref xBadNumber) (.type "BaseException") = some true) (xDBadNumber : PySem.W.hasDictIn K xBadNumber = true) (xkBadNumber : PySem.W.keepIn K (.ref xBadNumber) = true)
    (xLBadNumber : K.lookup fiBadNumber = some ⟨ocBadNumber, odBadNumber, .func (PySem.W.ksFn "__init__" "BadNumber.__init__" (defArgs siBadNumber) (defBody siBadNumber) (defScope siBadNumber) .none kVBadNumber dcBadNumber pmBadNumber anBadNumber (.ref cdaBadNumber) ctBadNumber ccBadNumber), oslBadNumber⟩) (xcBadNumber : PySem.W.codeIn K (.ref cdaBadNumber) "BadNumber.__init__" = true)
    (xCBadNumber : K.lookup ccBadNumber = some ⟨clBadNumber, cldBadNumber, .cell (some (.ref xBadNumber)), cslBadNumber⟩) (xoBadNumber : K.lookup cdaBadNumber = some ⟨cclBadNumber, cddBadNumber, .fields vsBadNumber, ccsBadNumber⟩) (xvBadNumber : vsBadNumber[2]? = some (.str fileBadNumber tfBadNumber)) (xFBadNumber : ((prog.main.file : Str) == fileBadNumber) = true)
    {xBadCourse fiBadCourse cdaBadCourse ccBadCourse : Addr} {nmBadCourse qBadCourse : Str} {NBadCourse : Addr} {bsBadCourse : List Value} {snBadCourse : List Str} {sbBadCourse : List Value} {abBadCourse : Bool} {colBadCourse : Option Bool} {ddBadCourse : Option Addr} {k0BadCourse k1BadCourse k2BadCourse k3BadCourse k5BadCourse : Option Value} {kVBadCourse dcBadCourse pmBadCourse ctBadCourse ocBadCourse cclBadCourse clBadCourse : Value} {anBadCourse odBadCourse cddBadCourse cldBadCourse : Option Addr} {oslBadCourse ccsBadCourse cslBadCourse : Array (Option Value)} {vsBadCourse : Array Value} {fileBadCourse : Str} {tfBadCourse : Tok}
    (xaBadCourse : PySem.W.nsIn K mainGlobals "BadCourse" = some (some (.ref xBadCourse))) (xlBadCourse : K.lookup xBadCourse = some (excClassObj nmBadCourse qBadCourse xBadCourse NBadCourse bsBadCourse (.ref xCourseError :: [.type "ValueError", .type "Exception", .type "BaseException", .type "object"]) true snBadCourse sbBadCourse abBadCourse colBadCourse ddBadCourse k0BadCourse k1BadCourse k2BadCourse k3BadCourse k5BadCourse "ValueError.__new__"))
    (xsBadCourse : PySem.W.findIn K (.ref xBadCourse) "__setattr__" = some (some (.builtin "object.__setattr__"))) (xgBadCourse : PySem.W.findIn K (.ref xBadCourse) "__getattribute__" = some (some (.builtin "BaseException.__getattribute__"))) (xtBadCourse : PySem.W.findIn K (.ref xBadCourse) "__getattr__" = some none)
    (xnBadCourse : PySem.W.findIn K (.ref xBadCourse) "place" = some none) (xjBadCourse : PySem.W.findIn K (.ref xBadCourse) "__init__" = some (some (.ref fiBadCourse))) (xyBadCourse : PySem.W.typeIn K (.ref fiBadCourse) = some (.type "function")) (xYBadCourse : PySem.W.typeIn K (.ref xBadCourse) = some (.type "type"))
    (xBBadCourse : PySem.W.subIn K (.ref xBadCourse) (.type "BaseException") = some true) (xDBadCourse : PySem.W.hasDictIn K xBadCourse = true) (xkBadCourse : PySem.W.keepIn K (.ref xBadCourse) = true)
    (xLBadCourse : K.lookup fiBadCourse = some ⟨ocBadCourse, odBadCourse, .func (PySem.W.ksFn "__init__" "BadCourse.__init__" (defArgs siBadCourse) (defBody siBadCourse) (defScope siBadCourse) .none kVBadCourse dcBadCourse pmBadCourse anBadCourse (.ref cdaBadCourse) ctBadCourse ccBadCourse), oslBadCourse⟩) (xcBadCourse : PySem.W.codeIn K (.ref cdaBadCourse) "BadCourse.__init__" = true)
    (xCBadCourse : K.lookup ccBadCourse = some ⟨clBadCourse, cldBadCourse, .cell (some (.ref xBadCourse)), cslBadCourse⟩) (xoBadCourse : K.lookup cdaBadCourse = some ⟨cclBadCourse, cddBadCourse, .fields vsBadCourse, ccsBadCourse⟩) (xvBadCourse : vsBadCourse[2]? = some (.str fileBadCourse tfBadCourse)) (xFBadCourse : ((prog.main.file : Str) == fileBadCourse) = true)
    (xu_BadNumber_BadCourse : PySem.W.subIn K (.ref xBadNumber) (.ref xBadCourse) = some false)
    (xu_BadCourse_BadCourse : PySem.W.subIn K (.ref xBadCourse) (.ref xBadCourse) = some true)
    {t_MOST_LETTERS : Tok} (g_MOST_LETTERS : PySem.W.nsIn K mainGlobals "MOST_LETTERS" = some (some (.int 8 t_MOST_LETTERS)))
    {t_MOST_STEPS : Tok} (g_MOST_STEPS : PySem.W.nsIn K mainGlobals "MOST_STEPS" = some (some (.int 2000 t_MOST_STEPS)))
    (z_list : PySem.W.nsIn K mainGlobals "list" = some none)
    (z_int : PySem.W.nsIn K mainGlobals "int" = some none)
    (z_len : PySem.W.nsIn K mainGlobals "len" = some none)
    (z_min : PySem.W.nsIn K mainGlobals "min" = some none)
    (z_range : PySem.W.nsIn K mainGlobals "range" = some none)
    (z_tuple : PySem.W.nsIn K mainGlobals "tuple" = some none)
    (z_isinstance : PySem.W.nsIn K mainGlobals "isinstance" = some none)
    (z_bool : PySem.W.nsIn K mainGlobals "bool" = some none)
    (z_enumerate : PySem.W.nsIn K mainGlobals "enumerate" = some none)
    (z_abs : PySem.W.nsIn K mainGlobals "abs" = some none)
    (z_max : PySem.W.nsIn K mainGlobals "max" = some none)
    (z_repr : PySem.W.nsIn K mainGlobals "repr" = some none) :
    ∃ (G : EX) (fd : FuncData), (∀ (s : Shared) (u : Value), BindsTo s fd ⟨[u], []⟩ [("script", u)]) ∧ ∀ base : Heap, K.In base → base.Ns mainGlobals mg → (∀ p ∈ cs, LamX.TabB base mg p.1 p.2) → FnC G prog w K mg base 8 fa fd ["script"] (M_law reprD) := by
  have e := hfa.symm.trans (PySem.W.mg_of X Gn a43)
  cases e
  let W : Wt prog K mg := ⟨f31, _, fun_mk (st := st31) l31 c31 k31, PySem.W.mg_of X Gn a31, f32, _, fun_mk (st := st32) l32 c32 k32, PySem.W.mg_of X Gn a32, f35, _, fun_mk (st := st35) l35 c35 k35, PySem.W.mg_of X Gn a35, f33, _, fun_mk (st := st33) l33 c33 k33, PySem.W.mg_of X Gn a33, f34, _, fun_mk (st := st34) l34 c34 k34, PySem.W.mg_of X Gn a34, f36, _, fun_mk (st := st36) l36 c36 k36, PySem.W.mg_of X Gn a36, f39, _, fun_mk (st := st39) l39 c39 k39, PySem.W.mg_of X Gn a39, f40, _, fun_mk (st := st40) l40 c40 k40, PySem.W.mg_of X Gn a40, f5, _, fun_mk (st := st5) l5 c5 k5, PySem.W.mg_of X Gn a5, f6, _, fun_mk (st := st6) l6 c6 k6, PySem.W.mg_of X Gn a6, f11, _, fun_mk (st := st11) l11 c11 k11, PySem.W.mg_of X Gn a11, f7, _, fun_mk (st := st7) l7 c7 k7, PySem.W.mg_of X Gn a7, f12, _, fun_mk (st := st12) l12 c12 k12, PySem.W.mg_of X Gn a12, f13, _, fun_mk (st := st13) l13 c13 k13, PySem.W.mg_of X Gn a13, f19, _, fun_mk (st := st19) l19 c19 k19, PySem.W.mg_of X Gn a19, f14, _, fun_mk (st := st14) l14 c14 k14, PySem.W.mg_of X Gn a14, f17, _, fun_mk (st := st17) l17 c17 k17, PySem.W.mg_of X Gn a17, f24, _, fun_mk (st := st24) l24 c24 k24, PySem.W.mg_of X Gn a24, f25, _, fun_mk (st := st25) l25 c25 k25, PySem.W.mg_of X Gn a25, f16, _, fun_mk (st := st16) l16 c16 k16, PySem.W.mg_of X Gn a16, f15, _, fun_mk (st := st15) l15 c15 k15, PySem.W.mg_of X Gn a15, f27, _, fun_mk (st := st27) l27 c27 k27, PySem.W.mg_of X Gn a27, f22, _, fun_mk (st := st22) l22 c22 k22, PySem.W.mg_of X Gn a22, f23, _, fun_mk (st := st23) l23 c23 k23, PySem.W.mg_of X Gn a23, f28, _, fun_mk (st := st28) l28 c28 k28, PySem.W.mg_of X Gn a28, f41, _, fun_mk (st := st41) l41 c41 k41, PySem.W.mg_of X Gn a41, f21, _, fun_mk (st := st21) l21 c21 k21, PySem.W.mg_of X Gn a21, f26, _, fun_mk (st := st26) l26 c26 k26, PySem.W.mg_of X Gn a26, f37, _, fun_mk (st := st37) l37 c37 k37, PySem.W.mg_of X Gn a37, f38, _, fun_mk (st := st38) l38 c38 k38, PySem.W.mg_of X Gn a38, f18, _, fun_mk (st := st18) l18 c18 k18, PySem.W.mg_of X Gn a18, f29, _, fun_mk (st := st29) l29 c29 k29, PySem.W.mg_of X Gn a29, f42, _, fun_mk (st := st42) l42 c42 k42, PySem.W.mg_of X Gn a42, fa, _, fun_mk (st := st43) l43 c43 k43, PySem.W.mg_of X Gn a43, xBadNumber, xBadCourse, PySem.W.mg_of X Gn xaBadNumber, ⟨_, _, _, _, _, XI.mk_xi XI.baseT_ValueError xlBadNumber (by rfl) (XI.along_1 blCourseError bfCourseError) xsBadNumber xjBadNumber xyBadNumber xnBadNumber xYBadNumber xBBadNumber xkBadNumber hany hsup htop xLBadNumber xcBadNumber xCBadNumber xoBadNumber xvBadNumber xFBadNumber (st := siBadNumber) (hb := rfl) (by rfl) (by decide +kernel) (fun _ => by rfl) (fun _ => by rfl) (fun _ => ⟨_, by rfl⟩) (fun _ _ _ => .of_eq rfl)⟩, ⟨xgBadNumber, xtBadNumber, xBBadNumber, xDBadNumber⟩, PySem.W.mg_of X Gn xaBadCourse, ⟨_, _, _, _, _, XI.mk_xi XI.baseT_ValueError xlBadCourse (by rfl) (XI.along_1 blCourseError bfCourseError) xsBadCourse xjBadCourse xyBadCourse xnBadCourse xYBadCourse xBBadCourse xkBadCourse hany hsup htop xLBadCourse xcBadCourse xCBadCourse xoBadCourse xvBadCourse xFBadCourse (st := siBadCourse) (hb := rfl) (by rfl) (by decide +kernel) (fun _ => by rfl) (fun _ => by rfl) (fun _ => ⟨_, by rfl⟩) (fun _ _ _ => .of_eq rfl)⟩, ⟨xgBadCourse, xtBadCourse, xBBadCourse, xDBadCourse⟩, PySem.W.exm_ref xBBadCourse xDBadCourse xYBadCourse xu_BadNumber_BadCourse, PySem.W.exm_ref xBBadCourse xDBadCourse xYBadCourse xu_BadCourse_BadCourse, _, PySem.W.mg_of X Gn g_MOST_LETTERS, _, PySem.W.mg_of X Gn g_MOST_STEPS, PySem.W.mg_none_of X Gn z_list, PySem.W.mg_none_of X Gn z_int, PySem.W.mg_none_of X Gn z_len, PySem.W.mg_none_of X Gn z_min, PySem.W.mg_none_of X Gn z_range, PySem.W.mg_none_of X Gn z_tuple, PySem.W.mg_none_of X Gn z_isinstance, PySem.W.mg_none_of X Gn z_bool, PySem.W.mg_none_of X Gn z_enumerate, PySem.W.mg_none_of X Gn z_abs, PySem.W.mg_none_of X Gn z_max, PySem.W.mg_none_of X Gn z_repr⟩
  exact ⟨W.G, W.fd43, fun s u => .of_eq rfl, fun base _ _ TB => w_law W⟩
end K04

set_option maxHeartbeats 200000
set_option maxRecDepth 512

set_option linter.all false
/-! # PW: words of whole numbers, in which a number falls out against its opposite -/
namespace PW
/-- one number ahead of a word from which nothing falls out -/
def cons1 (x : Int) : List Int → List Int
  | [] => [x]
  | y :: ys => if x = -y then ys else x :: y :: ys
theorem cons1_c (x y : Int) (ys : List Int) : cons1 x (y :: ys) = if x = -y then ys else x :: y :: ys := rfl
/-- what is left of a word -/
def red : List Int → List Int
  | [] => []
  | x :: xs => cons1 x (red xs)
/-- nothing falls out -/
def Red : List Int → Prop
  | [] => True
  | [_] => True
  | x :: y :: r => x ≠ -y ∧ Red (y :: r)
theorem Red.tail {x : Int} {r : List Int} (h : Red (x :: r)) : Red r := by
  cases r with
  | nil => trivial
  | cons y r => exact h.2
theorem red_cons1 {x : Int} {w : List Int} (h : Red w) : Red (cons1 x w) := by
  cases w with
  | nil => trivial
  | cons y ys =>
    rw [cons1_c]
    split
    · exact h.tail
    · rename_i n; exact ⟨n, h⟩
theorem red_red : ∀ xs : List Int, Red (red xs)
  | [] => trivial
  | x :: xs => red_cons1 (red_red xs)
theorem red_id : ∀ {w : List Int}, Red w → red w = w
  | [], _ => rfl
  | [x], _ => rfl
  | x :: y :: r, h => by
    have e := red_id h.2
    show cons1 x (red (y :: r)) = _
    rw [e]
    rw [cons1_c]
    rw [if_neg h.1]
theorem cons1_opp {x y : Int} {w : List Int} (h : Red w) (e : x = -y) : cons1 x (cons1 y w) = w := by
  subst e
  cases w with
  | nil => simp [cons1]
  | cons z zs =>
    by_cases q : y = -z
    · subst q
      have : cons1 (-z) (z :: zs) = zs := by simp [cons1]
      rw [this]
      cases zs with
      | nil => simp [cons1]
      | cons u us =>
        have n := h.1
        rw [cons1_c]
        rw [if_neg (by omega)]
        simp
    · have : cons1 y (z :: zs) = y :: z :: zs := by simp [cons1, q]
      rw [this]
      simp [cons1]
theorem red_append (u v : List Int) : red (u ++ v) = red (u ++ red v) := by
  induction u with
  | nil => exact (red_id (red_red v)).symm
  | cons x u ih => show cons1 x (red (u ++ v)) = cons1 x (red (u ++ red v)); rw [ih]
theorem red_opp (u v : List Int) (x : Int) : red (u ++ x :: -x :: v) = red (u ++ v) := by
  induction u with
  | nil => exact cons1_opp (red_red v) (by omega)
  | cons y u ih => show cons1 y (red (u ++ x :: -x :: v)) = cons1 y (red (u ++ v)); rw [ih]
theorem red_opp' (u v : List Int) {x y : Int} (h : x = -y) : red (u ++ x :: y :: v) = red (u ++ v) := by
  have : y = -x := by omega
  subst this; exact red_opp u v x
theorem red_left (u v : List Int) : red (red u ++ v) = red (u ++ v) := by
  induction u with
  | nil => rfl
  | cons x u ih =>
    show red (cons1 x (red u) ++ v) = cons1 x (red (u ++ v))
    rw [← ih]
    cases h : red u with
    | nil => rfl
    | cons y ys =>
      rw [cons1_c]
      split
      · rename_i e
        show red (ys ++ v) = cons1 x (cons1 y (red (ys ++ v)))
        rw [cons1_opp (red_red _) e]
      · rfl
theorem red_both (u v : List Int) : red (red u ++ red v) = red (u ++ v) := by rw [← red_append, red_left]
theorem red_idem (u : List Int) : red (red u) = red u := red_id (red_red u)
/-! ### taken back -/
def inv (xs : List Int) : List Int := (xs.map fun x => -x).reverse
theorem inv_nil : inv [] = [] := rfl
theorem inv_cons (x : Int) (xs : List Int) : inv (x :: xs) = inv xs ++ [-x] := by simp [inv]
theorem inv_append (u v : List Int) : inv (u ++ v) = inv v ++ inv u := by simp [inv]
theorem inv_length (u : List Int) : (inv u).length = u.length := by simp [inv]
theorem inv_inv (u : List Int) : inv (inv u) = u := by
  induction u with
  | nil => rfl
  | cons x u ih => rw [inv_cons, inv_append, ih]; simp [inv]
/-- nothing falls out of two words put together, if at the joint nothing does -/
theorem red_joint : ∀ {u v : List Int}, Red u → Red v → (∀ a b, u.getLast? = some a → v.head? = some b → a ≠ -b) → Red (u ++ v)
  | [], v, _, h, _ => h
  | [x], [], _, _, _ => trivial
  | [x], y :: v, _, h, j => ⟨j x y rfl rfl, h⟩
  | x :: y :: u, v, h1, h2, j => ⟨h1.1, red_joint (u := y :: u) h1.2 h2 fun a b e1 e2 => j a b (by simpa using e1) e2⟩
theorem Red.left : ∀ {u v : List Int}, Red (u ++ v) → Red u
  | [], _, _ => trivial
  | [_], _, _ => trivial
  | x :: y :: u, v, h => ⟨h.1, Red.left (u := y :: u) (v := v) h.2⟩
theorem Red.right : ∀ {u v : List Int}, Red (u ++ v) → Red v
  | [], _, h => h
  | x :: u, v, h => Red.right (u := u) (v := v) (Red.tail (by simpa using h))
theorem Red.joint : ∀ {u v : List Int} {a b : Int}, Red (u ++ v) → u.getLast? = some a → v.head? = some b → a ≠ -b
  | [], _, _, _, _, e, _ => by simp at e
  | [x], [], _, _, _, _, e => by simp at e
  | [x], y :: v, a, b, h, e1, e2 => by simp at e1 e2; subst e1 e2; exact h.1
  | x :: y :: u, v, a, b, h, e1, e2 => Red.joint (u := y :: u) (v := v) h.2 (by simpa using e1) e2
theorem red_snoc {w : List Int} {x : Int} (h : Red w) (n : ∀ a, w.getLast? = some a → a ≠ -x) : Red (w ++ [x]) :=
  red_joint h trivial fun a b e1 e2 => by simp at e2; subst e2; exact n a e1
theorem Red.inv : ∀ {w : List Int}, Red w → Red (PW.inv w)
  | [], _ => trivial
  | [x], _ => trivial
  | x :: y :: r, h => by
    have ih := Red.inv h.2
    rw [inv_cons]
    refine red_snoc ih fun a e => ?_
    rw [inv_cons] at e
    simp at e
    subst e
    have := h.1
    omega
theorem red_inv (xs : List Int) : red (inv xs) = inv (red xs) := by
  induction xs with
  | nil => rfl
  | cons x xs ih =>
    rw [inv_cons, ← red_left, ih]
    show red (inv (red xs) ++ [-x]) = inv (cons1 x (red xs))
    cases h : red xs with
    | nil => simp [inv, cons1, red]
    | cons y ys =>
      have r := red_red xs
      rw [h] at r
      rw [cons1_c]
      split
      · rename_i e
        subst e
        rw [inv_cons, List.append_assoc]
        show red (inv ys ++ -y :: (- -y) :: []) = inv ys
        rw [red_opp, List.append_nil]
        exact red_id (Red.inv r.tail)
      · rename_i n
        rw [← inv_cons]
        exact red_id (Red.inv (w := x :: y :: ys) ⟨n, r⟩)
theorem red_self_inv (xs : List Int) : red (xs ++ inv xs) = [] := by
  induction xs with
  | nil => rfl
  | cons x xs ih =>
    rw [inv_cons]
    show cons1 x (red (xs ++ (inv xs ++ [-x]))) = []
    rw [← List.append_assoc, ← red_left, ih]
    simp [red, cons1]
/-! ### so many times -/
theorem red_glue {u v t : List Int} (hv : v ≠ []) (h1 : Red (u ++ v)) (h2 : Red (v ++ t)) : Red (u ++ (v ++ t)) := by
  rw [← List.append_assoc]
  refine red_joint h1 h2.right fun a b e1 e2 => Red.joint h2 (a := a) ?_ e2
  rw [List.getLast?_append] at e1
  cases h : v.getLast? with
  | none => exact absurd (by simpa using h) hv
  | some x => rw [h] at e1; simpa using e1
def rep (n : Nat) (r : List Int) : List Int := (List.replicate n r).flatten
theorem rep_zero (r : List Int) : rep 0 r = [] := rfl
theorem rep_succ (n : Nat) (r : List Int) : rep (n + 1) r = r ++ rep n r := by simp [rep, List.replicate_succ]
theorem rep_one (r : List Int) : rep 1 r = r := by rw [rep_succ, rep_zero, List.append_nil]
theorem rep_snoc (n : Nat) (r : List Int) : rep (n + 1) r = rep n r ++ r := by
  induction n with
  | zero => rw [rep_one, rep_zero]; rfl
  | succ n ih => rw [rep_succ, ih, ← List.append_assoc, ← rep_succ, ih]
theorem rep_len (n : Nat) (r : List Int) : (rep n r).length = n * r.length := by
  induction n with
  | zero => simp [rep_zero]
  | succ n ih => rw [rep_succ, List.length_append, ih, Nat.succ_mul]; omega
theorem rep_nil (n : Nat) : rep n [] = [] := by
  induction n with
  | zero => rfl
  | succ n ih => rw [rep_succ, ih]; rfl
theorem red_rep_tail {r t : List Int} (hr : r ≠ []) (h1 : Red (r ++ t)) (h2 : Red (r ++ r)) : ∀ n, Red (rep (n + 1) r ++ t)
  | 0 => by rw [rep_one]; exact h1
  | n + 1 => by
    have ih := red_rep_tail hr h1 h2 n
    rw [rep_succ, List.append_assoc] at ih
    rw [rep_succ, rep_succ, List.append_assoc, List.append_assoc]
    exact red_glue hr h2 ih
theorem red_rep {h r t : List Int} (hr : r ≠ []) (h1 : Red (h ++ r ++ t)) (h2 : Red (r ++ r)) (n : Nat) : Red (h ++ (rep (n + 1) r ++ t)) := by
  have a : Red (h ++ r) := Red.left (v := t) h1
  have b : Red (r ++ t) := Red.right (u := h) (by rw [← List.append_assoc]; exact h1)
  have c := red_rep_tail hr b h2 n
  rw [rep_succ, List.append_assoc] at c ⊢
  exact red_glue hr a c
theorem red_mid (u v w : List Int) : red (u ++ (inv w ++ (w ++ v))) = red (u ++ v) := by
  have e : red (inv w ++ (w ++ v)) = red v := by
    rw [← List.append_assoc, ← red_left]
    have := red_self_inv (inv w)
    rw [inv_inv] at this
    rw [this]; rfl
  rw [red_append, e, ← red_append]
theorem rep_word (h r : List Int) : ∀ n, red (rep (n + 1) (h ++ r ++ inv h)) = red (h ++ (rep (n + 1) r ++ inv h))
  | 0 => by rw [rep_one, rep_one, List.append_assoc]
  | n + 1 => by
    rw [rep_succ, red_append, rep_word h r n, ← red_append, rep_succ (n + 1) r]
    rw [List.append_assoc (h ++ r), List.append_assoc h r, List.append_assoc r, ← List.append_assoc h r, ← List.append_assoc h r]
    exact red_mid (h ++ r) _ h
/-- so many times what turns to nothing in its middle -/
theorem rep_red {h r : List Int} (hr : r ≠ []) (w : Red (h ++ r ++ inv h)) (c : Red (r ++ r)) (n : Nat) : red (rep (n + 1) (h ++ r ++ inv h)) = h ++ (rep (n + 1) r ++ inv h) := by
  rw [rep_word]
  exact red_id (red_rep hr w c n)
theorem red_rep_red (n : Nat) (w : List Int) : red (rep n (red w)) = red (rep n w) := by
  induction n with
  | zero => rfl
  | succ n ih => rw [rep_succ, rep_succ, red_left, red_append, ih, ← red_append]
theorem inv_eq_nil {w : List Int} (h : inv w = []) : w = [] := by
  have := inv_length w
  rw [h] at this
  exact List.eq_nil_of_length_eq_zero this.symm
/-- the lesser word is what is left -/
theorem cons1_len (x : Int) (w : List Int) : (cons1 x w).length ≤ w.length + 1 := by
  cases w with
  | nil => simp [cons1]
  | cons y ys => rw [cons1_c]; split <;> simp <;> omega
theorem red_len : ∀ xs : List Int, (red xs).length ≤ xs.length
  | [] => Nat.le_refl _
  | x :: xs => by
    have h1 := cons1_len x (red xs)
    have h2 := red_len xs
    show (cons1 x (red xs)).length ≤ _
    simp only [List.length_cons]; omega
theorem cons1_mem {x z : Int} {w : List Int} (h : z ∈ cons1 x w) : z = x ∨ z ∈ w := by
  cases w with
  | nil => simp [cons1] at h; exact .inl h
  | cons y ys =>
    rw [cons1_c] at h
    split at h
    · exact .inr (List.mem_cons_of_mem _ h)
    · exact List.mem_cons.mp h
theorem red_mem {z : Int} : ∀ {xs : List Int}, z ∈ red xs → z ∈ xs
  | x :: xs, h => by
    rcases cons1_mem h with h | h
    · rw [h]; exact List.mem_cons_self
    · exact List.mem_cons_of_mem _ (red_mem h)
/-- from the left: the last is kept apart -/
def push (acc : List Int) (x : Int) : List Int := if acc.getLast? = some (-x) then acc.dropLast else acc ++ [x]
theorem push_ok {acc : List Int} {x : Int} (h : Red acc) : Red (push acc x) ∧ ∀ v, red (push acc x ++ v) = red (acc ++ x :: v) := by
  unfold push
  split
  · rename_i e
    have es : acc = acc.dropLast ++ [-x] := by
      have hne : acc ≠ [] := fun z => by subst z; simp at e
      have := List.dropLast_concat_getLast hne
      rw [List.getLast?_eq_getLast hne] at e
      rw [← this]
      simp at e
      simp [e]
    refine ⟨Red.left (v := [-x]) (by rw [← es]; exact h), fun v => ?_⟩
    conv => rhs; rw [es]
    rw [List.append_assoc]
    exact (red_opp' _ v (by simp)).symm
  · rename_i n
    exact ⟨red_snoc h fun a e z => n (by rw [e, z]), fun v => by simp⟩
theorem foldl_push {xs : List Int} : ∀ {acc : List Int}, Red acc → xs.foldl push acc = red (acc ++ xs) := by
  induction xs with
  | nil => intro acc h; simp [red_id h]
  | cons x xs ih =>
    intro acc h
    obtain ⟨h1, h2⟩ := push_ok (x := x) h
    rw [List.foldl_cons, ih h1, h2]
end PW

set_option linter.all false
/-! # PK: periods and borders of words -/
namespace PW
/-- p is a period -/
def Per (w : List Int) (p : Nat) : Prop := ∀ i, i + p < w.length → w[i]? = w[i + p]?
/-- k items are a border of the beginning of m items -/
def Bd (w : List Int) (m k : Nat) : Prop := k < m ∧ ∀ j, j < k → w[j]? = w[m - k + j]?
/-- the longest border -/
def MaxB (w : List Int) (m b : Nat) : Prop := Bd w m b ∧ ∀ k, Bd w m k → k ≤ b
theorem Bd.zero {w : List Int} {m : Nat} (h : 0 < m) : Bd w m 0 := ⟨h, fun j hj => by omega⟩
theorem Bd.sub {w : List Int} {m s k : Nat} (h1 : Bd w m s) (h2 : Bd w m k) (h : k < s) : Bd w s k := by
  refine ⟨h, fun j hj => ?_⟩
  have e1 := h2.2 j hj
  have e2 := h1.2 (s - k + j) (by omega)
  rw [e1, e2]
  have := h1.1
  congr 1
  omega
theorem Bd.trans {w : List Int} {m s k : Nat} (h1 : Bd w m s) (h2 : Bd w s k) : Bd w m k := by
  refine ⟨Nat.lt_trans h2.1 h1.1, fun j hj => ?_⟩
  have e1 := h2.2 j hj
  have e2 := h1.2 (s - k + j) (by have := h2.1; omega)
  rw [e1, e2]
  have := h1.1
  have := h2.1
  congr 1
  omega
theorem Bd.succ {w : List Int} {m k : Nat} (h : Bd w m k) (e : w[k]? = w[m]?) : Bd w (m + 1) (k + 1) := by
  refine ⟨by have := h.1; omega, fun j hj => ?_⟩
  by_cases q : j < k
  · rw [h.2 j q]
    congr 1
    omega
  · have : j = k := by omega
    subst this
    rw [e]
    have := h.1
    congr 1
    omega
theorem Bd.pred {w : List Int} {m k : Nat} (h : Bd w (m + 1) (k + 1)) : Bd w m k ∧ w[k]? = w[m]? := by
  refine ⟨⟨by have := h.1; omega, fun j hj => ?_⟩, ?_⟩
  · rw [h.2 j (by omega)]
    congr 1
    omega
  · rw [h.2 k (by omega)]
    have := h.1
    congr 1
    omega
theorem per_of_bd {w : List Int} {k : Nat} (h : Bd w w.length k) : Per w (w.length - k) := fun i hi => by
  have := h.1
  rw [h.2 i (by omega)]
  congr 1
  omega
theorem bd_of_per {w : List Int} {p : Nat} (hp : 0 < p) (hl : p ≤ w.length) (h : Per w p) : Bd w w.length (w.length - p) := by
  refine ⟨by omega, fun j hj => ?_⟩
  rw [h j (by omega)]
  congr 1
  omega
theorem per_sub {w : List Int} {p q : Nat} (h1 : Per w p) (h2 : Per w q) (hpq : p < q) (hn : p + q ≤ w.length) : Per w (q - p) := fun i hi => by
  by_cases h : p ≤ i
  · have e1 := h1 (i - p) (by omega)
    have e2 := h2 (i - p) (by omega)
    rw [show i - p + p = i by omega] at e1
    rw [← e1, e2]
    congr 1
    omega
  · have e1 := h2 i (by omega)
    have e2 := h1 (i + q - p) (by omega)
    rw [e1, show i + (q - p) = i + q - p by omega, e2]
    congr 1
    omega
theorem min_dvd {w : List Int} {p : Nat} (hp : 0 < p) (h1 : Per w p) (hmin : ∀ d, 0 < d → d < p → ¬ Per w d) : ∀ d, 0 < d → Per w d → p + d ≤ w.length → p ∣ d := by
  intro d
  induction d using Nat.strongRecOn with
  | _ d ih =>
    intro hd h2 hn
    by_cases h : d < p
    · exact absurd h2 (hmin d hd h)
    · by_cases e : d = p
      · rw [e]; exact Nat.dvd_refl p
      · have := ih (d - p) (by omega) (by omega) (per_sub h1 h2 (by omega) hn) (by omega)
        have e2 : d = (d - p) + p := by omega
        rw [e2]
        exact Nat.dvd_add this (Nat.dvd_refl p)
theorem rep_app (m n : Nat) (r : List Int) : rep (m + n) r = rep m r ++ rep n r := by
  induction m with
  | zero => simp [rep_zero]
  | succ m ih => rw [show m + 1 + n = (m + n) + 1 by omega, rep_succ, rep_succ, ih, List.append_assoc]
/-- so many times its beginning -/
theorem rep_of_per : ∀ (m : Nat) {w : List Int} {d : Nat}, 0 < d → w.length = m * d → Per w d → w = rep m (w.take d)
  | 0, w, d, hd, hl, _ => by
    have : w = [] := List.eq_nil_of_length_eq_zero (by simpa using hl)
    subst this
    rfl
  | 1, w, d, hd, hl, _ => by
    rw [rep_one, List.take_of_length_le (by omega)]
  | m + 2, w, d, hd, hl, h => by
    have e1 : (w.drop d).length = (m + 1) * d := by
      rw [List.length_drop, hl, show m + 2 = (m + 1) + 1 by omega, Nat.succ_mul (m + 1)]
      omega
    have hle : d ≤ (m + 1) * d := by rw [Nat.succ_mul]; omega
    have h2 : Per (w.drop d) d := fun i hi => by
      rw [List.length_drop] at hi
      rw [List.getElem?_drop, List.getElem?_drop, h (d + i) (by omega)]
      congr 1
      omega
    have ih := rep_of_per (m + 1) hd e1 h2
    have e2 : (w.drop d).take d = w.take d := by
      apply List.ext_getElem?
      intro i
      by_cases hi : i < d
      · rw [List.getElem?_take_of_lt hi, List.getElem?_take_of_lt hi, List.getElem?_drop, h i (by rw [List.length_drop] at e1; omega)]
        congr 1
        omega
      · rw [List.getElem?_eq_none (by rw [List.length_take]; omega), List.getElem?_eq_none (by rw [List.length_take]; omega)]
    rw [e2] at ih
    rw [rep_succ, ← ih, List.take_append_drop]
theorem rep_get (m : Nat) (r : List Int) : ∀ i, i + r.length < (rep m r).length → (rep m r)[i]? = (rep m r)[i + r.length]? := by
  induction m with
  | zero => intro i hi; rw [rep_zero] at hi; simp at hi
  | succ m ih =>
    intro i hi
    rw [rep_succ]
    by_cases h : i < r.length
    · rw [List.getElem?_append_left h, List.getElem?_append_right (by omega)]
      cases m with
      | zero => rw [rep_succ, rep_zero] at hi; simp at hi; omega
      | succ m =>
        rw [rep_succ, Nat.add_sub_cancel, List.getElem?_append_left h]
    · rw [List.getElem?_append_right (by omega), List.getElem?_append_right (by omega), ih (i - r.length) (by rw [rep_succ, List.length_append] at hi; omega)]
      congr 1
      omega
theorem per_rep (m : Nat) (r : List Int) : Per (rep m r) r.length := rep_get m r
/-- the shortest beginning of which it is so many times -/
structure IsRoot (r : List Int) (d : Nat) : Prop where
  pos : 0 < d
  dvd : d ∣ r.length
  per : Per r d
  least : ∀ e, 0 < e → e < d → e ∣ r.length → ¬ Per r e
theorem IsRoot.uniq {r : List Int} {d e : Nat} (h1 : IsRoot r d) (h2 : IsRoot r e) : d = e := by
  rcases Nat.lt_trichotomy d e with h | h | h
  · exact absurd h1.per (h2.least d h1.pos h h1.dvd)
  · exact h
  · exact absurd h2.per (h1.least e h2.pos h h2.dvd)
theorem per_self (r : List Int) : Per r r.length := fun i hi => by omega
theorem root_of_max {r : List Int} {b : Nat} (hr : r ≠ []) (h : MaxB r r.length b) : IsRoot r (if r.length % (r.length - b) = 0 then r.length - b else r.length) := by
  have hl : 0 < r.length := List.length_pos_iff.mpr hr
  have hb := h.1.1
  have p1 := per_of_bd h.1
  have hmin : ∀ d, 0 < d → d < r.length - b → ¬ Per r d := fun d h1 h2 h3 => by
    have := h.2 _ (bd_of_per h1 (by omega) h3)
    omega
  by_cases q : r.length % (r.length - b) = 0
  · rw [if_pos q]
    exact ⟨by omega, Nat.dvd_of_mod_eq_zero q, p1, fun e h1 h2 _ => hmin e h1 h2⟩
  · rw [if_neg q]
    refine ⟨hl, Nat.dvd_refl _, per_self r, fun e h1 h2 h3 h4 => ?_⟩
    obtain ⟨c, hc⟩ := h3
    have hc2 : 2 ≤ c := by
      rcases Nat.lt_or_ge c 2 with z | z
      · have : c = 0 ∨ c = 1 := by omega
        rcases this with z | z
        · rw [z] at hc; omega
        · rw [z] at hc; omega
      · exact z
    have he2 : 2 * e ≤ r.length := by
      rw [hc, Nat.mul_comm 2 e]
      exact Nat.mul_le_mul_left e hc2
    by_cases h5 : e < r.length - b
    · exact hmin e h1 h5 h4
    · have d1 := min_dvd (by omega) p1 hmin e h1 h4 (by omega)
      exact q (Nat.mod_eq_zero_of_dvd (Nat.dvd_trans d1 ⟨c, hc⟩))
end PW

set_option linter.all false
/-! # PR: roots of plain words -/
namespace PW
theorem Per.pre {w : List Int} {p : Nat} (h : Per w p) (n : Nat) : Per (w.take n) p := fun i hi => by
  rw [List.length_take] at hi
  rw [List.getElem?_take_of_lt (by omega), List.getElem?_take_of_lt (by omega)]
  exact h i (by omega)
theorem per_gcd {w : List Int} : ∀ n p q, p + q ≤ n → 0 < p → 0 < q → Per w p → Per w q → p + q ≤ w.length → Per w (Nat.gcd p q) := by
  intro n
  induction n with
  | zero => intro p q h h1; omega
  | succ n ih =>
    intro p q h h1 h2 hp hq hl
    rcases Nat.lt_trichotomy p q with c | c | c
    · have := ih p (q - p) (by omega) h1 (by omega) hp (per_sub hp hq c hl) (by omega)
      rwa [Nat.gcd_sub_self_right (Nat.le_of_lt c)] at this
    · subst c; rw [Nat.gcd_self]; exact hp
    · have := ih (p - q) q (by omega) (by omega) h2 (per_sub hq hp c (by omega)) hq (by omega)
      rwa [Nat.gcd_sub_self_left (Nat.le_of_lt c)] at this
theorem rep_rep (m n : Nat) (r : List Int) : rep m (rep n r) = rep (m * n) r := by
  induction m with
  | zero => simp [rep_zero]
  | succ m ih => rw [rep_succ, ih, Nat.succ_mul, Nat.add_comm, rep_app]
theorem inv_rep (n : Nat) (r : List Int) : inv (rep n r) = rep n (inv r) := by
  induction n with
  | zero => rfl
  | succ n ih => rw [rep_succ, inv_append, ih, ← rep_snoc]
theorem IsRoot.eq {r : List Int} {d : Nat} (h : IsRoot r d) : r = rep (r.length / d) (r.take d) := by
  obtain ⟨c, hc⟩ := h.dvd
  have := h.pos
  have e : r.length / d = c := by rw [hc, Nat.mul_div_cancel_left c this]
  rw [e]
  exact rep_of_per c this (by rw [hc, Nat.mul_comm]) h.per
theorem IsRoot.rep {r : List Int} {d m : Nat} (h : IsRoot r d) (hm : 0 < m) : IsRoot (rep m r) d := by
  have hp := h.pos
  obtain ⟨c, hc⟩ := h.dvd
  have e := h.eq
  have hcd : r.length / d = c := by rw [hc, Nat.mul_div_cancel_left c hp]
  rw [hcd] at e
  have hlen : (PW.rep m r).length = m * r.length := rep_len m r
  have e2 : PW.rep m r = PW.rep (m * c) (r.take d) := by
    conv => lhs; rw [e]
    rw [rep_rep]
  have hr0 : r ≠ [] ∨ c = 0 := by
    by_cases z : r = []
    · subst z
      right
      have : d * c = 0 := by simpa using hc.symm
      rcases Nat.mul_eq_zero.mp this with z | z
      · omega
      · exact z
    · exact .inl z
  have hle : c = 0 ∨ d ≤ r.length := by
    by_cases z : c = 0
    · exact .inl z
    · right; rw [hc]; exact Nat.le_mul_of_pos_right d (by omega)
  have hper : Per (PW.rep m r) d := by
    rcases hle with z | z
    · rw [e2, z, Nat.mul_zero, rep_zero]
      intro i hi
      simp at hi
    · have := per_rep (m * c) (r.take d)
      rw [List.length_take, Nat.min_eq_left z] at this
      rw [e2]
      exact this
  refine ⟨hp, ?_, hper, fun q h1 h2 h3 h4 => ?_⟩
  · rw [hlen, hc]
    exact Nat.dvd_trans (Nat.dvd_mul_right d c) (Nat.dvd_mul_left _ m)
  · have pre : r <+: PW.rep m r := by
      cases m with
      | zero => omega
      | succ m => rw [rep_succ]; exact List.prefix_append _ _
    have toR : ∀ {x : Nat}, Per (PW.rep m r) x → Per r x := fun {x} hx => by
      have := hx.pre r.length
      rwa [← List.prefix_iff_eq_take.mp pre] at this
    by_cases big : q + d ≤ (PW.rep m r).length
    · have g := per_gcd _ q d (Nat.le_refl _) h1 hp h4 hper big
      have hg : Nat.gcd q d ≤ q := Nat.le_of_dvd h1 (Nat.gcd_dvd_left q d)
      exact h.least _ (Nat.gcd_pos_of_pos_left d h1) (by omega) (Nat.dvd_trans (Nat.gcd_dvd_right q d) h.dvd) (toR g)
    · rcases hle with z | z
      · have : r.length = 0 := by rw [hc, z, Nat.mul_zero]
        exact h.least q h1 h2 (by rw [this]; exact Nat.dvd_zero q) (toR h4)
      · have hm1 : m = 1 := by
          rcases Nat.lt_or_ge m 2 with y | y
          · omega
          · have : 2 * r.length ≤ m * r.length := Nat.mul_le_mul_right _ y
            omega
        subst hm1
        rw [rep_one] at h3 h4
        exact h.least q h1 h2 h3 h4
theorem IsRoot.inv {r : List Int} {d : Nat} (h : IsRoot r d) : IsRoot (PW.inv r) d := by
  have hl := inv_length r
  have flip : ∀ {s : List Int} {x : Nat}, Per s x → Per (PW.inv s) x := fun {s x} hx i hi => by
    rw [inv_length] at hi
    unfold PW.inv
    have l1 : (s.map fun x => -x).length = s.length := List.length_map _
    rw [List.getElem?_reverse (by rw [l1]; omega), List.getElem?_reverse (by rw [l1]; omega), l1, List.getElem?_map, List.getElem?_map, hx (s.length - 1 - (i + x)) (by omega)]
    congr 2
    omega
  refine ⟨h.pos, by rw [hl]; exact h.dvd, flip h.per, fun e h1 h2 h3 h4 => h.least e h1 h2 (by rwa [hl] at h3) ?_⟩
  have := flip h4
  rwa [inv_inv] at this
/-- the handle and the ring part -/
structure PartsU (w h r : List Int) : Prop where
  eq : w = h ++ r ++ inv h
  stop : r.length ≤ 1 ∨ ∃ x s y, r = x :: (s ++ [y]) ∧ x ≠ -y
theorem PartsU.uniq1 {w h r h' r' : List Int} (a : PartsU w h r) (b : PartsU w h' r') (hl : h.length ≤ h'.length) : h = h' ∧ r = r' := by
  have e := a.eq.symm.trans b.eq
  have p1 : h <+: w := ⟨r ++ inv h, by rw [a.eq]; simp⟩
  have p2 : h' <+: w := ⟨r' ++ inv h', by rw [b.eq]; simp⟩
  obtain ⟨t, rfl⟩ := List.prefix_of_prefix_length_le p1 p2 hl
  rw [inv_append] at e
  have e2 : r = t ++ r' ++ inv t := by
    have : h ++ (r ++ inv h) = h ++ ((t ++ r' ++ inv t) ++ inv h) := by simpa using e
    exact List.append_cancel_right (List.append_cancel_left this)
  cases t with
  | nil => simp [inv] at e2; exact ⟨by simp, e2⟩
  | cons x t =>
    exfalso
    rw [inv_cons] at e2
    have e3 : r = x :: ((t ++ r' ++ inv t) ++ [-x]) := by rw [e2]; simp
    rcases a.stop with c | ⟨x', s, y, c, n⟩
    · rw [e3] at c; simp at c
    · rw [e3] at c
      obtain ⟨rfl, c2⟩ := List.cons.inj c
      have := List.append_inj_right' c2 rfl
      simp at this
      exact n (by rw [← this]; omega)
theorem PartsU.uniq {w h r h' r' : List Int} (a : PartsU w h r) (b : PartsU w h' r') : h = h' ∧ r = r' := by
  by_cases hl : h.length ≤ h'.length
  · exact a.uniq1 b hl
  · obtain ⟨e1, e2⟩ := b.uniq1 a (by omega)
    exact ⟨e1.symm, e2.symm⟩
/-- no step is nothing -/
def NZ (w : List Int) : Prop := ∀ x ∈ w, x ≠ 0
theorem PartsU.ring {w h r : List Int} (a : PartsU w h r) (rw' : Red w) (hw : w ≠ []) : r ≠ [] := by
  intro z
  subst z
  have e := a.eq
  rw [List.append_nil] at e
  have : red w = [] := by rw [e]; exact red_self_inv h
  rw [red_id rw'] at this
  exact hw this
theorem PartsU.cyc {w h r : List Int} (a : PartsU w h r) (rw' : Red w) (nz : NZ w) : Red (r ++ r) := by
  have rr : Red r := Red.right (u := h) (Red.left (v := inv h) (by rw [← a.eq]; exact rw'))
  refine red_joint rr rr fun p q e1 e2 => ?_
  rcases a.stop with c | ⟨x, s, y, rfl, n⟩
  · cases r with
    | nil => simp at e1
    | cons x r =>
      have : r = [] := by simpa using c
      subst this
      simp at e1 e2
      subst e1 e2
      have := nz x (by rw [a.eq]; simp)
      omega
  · rw [← List.cons_append, List.getLast?_append] at e1
    simp at e1 e2
    subst e1 e2
    omega
/-- what a cyclically plain word's ends are -/
theorem stop_of {r : List Int} (c : Red (r ++ r)) : r.length ≤ 1 ∨ ∃ x s y, r = x :: (s ++ [y]) ∧ x ≠ -y := by
  rcases Nat.lt_or_ge r.length 2 with z | z
  · exact .inl (by omega)
  · right
    cases r with
    | nil => simp at z
    | cons x r =>
      have hr : r ≠ [] := by intro q; subst q; simp at z
      refine ⟨x, r.dropLast, r.getLast hr, by rw [List.dropLast_concat_getLast], fun q => ?_⟩
      have := Red.joint (a := r.getLast hr) (b := x) c (by rw [List.getLast?_cons, List.getLast?_eq_some_getLast hr]; rfl) rfl
      omega
/-- the root, and how many times it is it -/
def Rooted (w ρ : List Int) (n : Nat) : Prop := (w = [] ∧ ρ = [] ∧ n = 0) ∨ (w ≠ [] ∧ ∃ h r d, PartsU w h r ∧ IsRoot r d ∧ ρ = h ++ r.take d ++ inv h ∧ n = r.length / d)
theorem Rooted.uniq {w ρ ρ' : List Int} {n n' : Nat} (a : Rooted w ρ n) (b : Rooted w ρ' n') : ρ = ρ' ∧ n = n' := by
  rcases a with ⟨w0, rfl, rfl⟩ | ⟨w0, h, r, d, p, i, rfl, rfl⟩
  · rcases b with ⟨_, rfl, rfl⟩ | ⟨w1, _⟩
    · exact ⟨rfl, rfl⟩
    · exact absurd w0 w1
  · rcases b with ⟨w1, _⟩ | ⟨_, h', r', d', p', i', rfl, rfl⟩
    · exact absurd w1 w0
    · obtain ⟨rfl, rfl⟩ := p.uniq p'
      obtain rfl := i.uniq i'
      exact ⟨rfl, rfl⟩
section
variable {w h r : List Int} {d : Nat}
theorem ring_pos (i : IsRoot r d) (hr : r ≠ []) : d ≤ r.length ∧ 0 < r.length / d := by
  have hl : 0 < r.length := List.length_pos_iff.mpr hr
  have hle := Nat.le_of_dvd hl i.dvd
  exact ⟨hle, Nat.div_pos hle i.pos⟩
theorem beg_ne (i : IsRoot r d) (hr : r ≠ []) : r.take d ≠ [] := fun z => by
  have := (ring_pos i hr).1
  have hp := i.pos
  have e : (r.take d).length = d := by rw [List.length_take]; omega
  rw [z] at e
  simp at e
  omega
theorem rep_last {q : List Int} {k : Nat} (hk : 0 < k) {a : Int} (hq : q ≠ []) : (rep k q).getLast? = some a ↔ q.getLast? = some a := by
  obtain ⟨m, rfl⟩ : ∃ m, k = m + 1 := ⟨k - 1, by omega⟩
  rw [rep_snoc, List.getLast?_append]
  cases e : q.getLast? with
  | none => exact absurd (by simpa using e) hq
  | some x => simp
theorem root_parts (p : PartsU w h r) (i : IsRoot r d) (rw' : Red w) (nz : NZ w) (hw : w ≠ []) : Red (h ++ r.take d ++ inv h) ∧ Red (r.take d ++ r.take d) ∧ PartsU (h ++ r.take d ++ inv h) h (r.take d) := by
  have hr := p.ring rw' hw
  have cy := p.cyc rw' nz
  have e := i.eq
  obtain ⟨hd, hk⟩ := ring_pos i hr
  have hne := beg_ne i hr
  have pre : r = r.take d ++ r.drop d := (List.take_append_drop d r).symm
  have cy2 : Red (r.take d ++ r.take d) := by
    have rr : Red (r.take d) := Red.left (v := r.drop d ++ r) (by rw [← List.append_assoc, ← pre]; exact cy)
    refine red_joint rr rr fun a b e1 e2 => ?_
    have e3 : r.getLast? = some a := by rw [e]; exact (rep_last hk hne).mpr e1
    have e4 : r.head? = some b := by
      rw [pre, List.head?_append, e2]; rfl
    exact Red.joint cy e3 e4
  refine ⟨?_, cy2, rfl, stop_of cy2⟩
  have hr2 : Red (h ++ r.take d) := Red.left (v := r.drop d ++ inv h) (by
    have := p.eq
    rw [pre] at this
    rw [List.append_assoc, ← List.append_assoc (r.take d), ← List.append_assoc, ← this]
    exact rw')
  have hr3 : Red (r ++ inv h) := Red.right (u := h) (by rw [← List.append_assoc, ← p.eq]; exact rw')
  rw [List.append_assoc]
  refine red_glue hne hr2 ?_
  have rr : Red (r.take d) := cy2.left
  refine red_joint rr hr3.right fun a b e1 e2 => ?_
  have e3 : r.getLast? = some a := by rw [e]; exact (rep_last hk hne).mpr e1
  exact Red.joint hr3 e3 e2
theorem rep_pos {k : Nat} (hk : 0 < k) (hr : r ≠ []) (p : Red (h ++ r ++ inv h)) (c : Red (r ++ r)) : red (rep k (h ++ r ++ inv h)) = h ++ rep k r ++ inv h := by
  obtain ⟨m, rfl⟩ : ∃ m, k = m + 1 := ⟨k - 1, by omega⟩
  rw [rep_red hr p c, List.append_assoc]
/-- so many times its root -/
theorem Rooted.word {w ρ : List Int} {n : Nat} (a : Rooted w ρ n) (rw' : Red w) (nz : NZ w) : red (rep n ρ) = w := by
  rcases a with ⟨rfl, rfl, rfl⟩ | ⟨w0, h, r, d, p, i, rfl, rfl⟩
  · rfl
  · have hr := p.ring rw' w0
    obtain ⟨h1, h2, _⟩ := root_parts p i rw' nz w0
    rw [rep_pos (ring_pos i hr).2 (beg_ne i hr) h1 h2, ← i.eq, ← p.eq]
theorem Rooted.rep {w ρ : List Int} {n m : Nat} (a : Rooted w ρ n) (rw' : Red w) (nz : NZ w) (w0 : w ≠ []) (hm : 0 < m) : Rooted (red (PW.rep m w)) ρ (n * m) := by
  rcases a with ⟨rfl, _, _⟩ | ⟨w0, h, r, d, p, i, rfl, rfl⟩
  · exact absurd rfl w0
  · have hr := p.ring rw' w0
    have cy := p.cyc rw' nz
    have e := p.eq
    have e2 : red (PW.rep m w) = h ++ PW.rep m r ++ inv h := by rw [e]; exact rep_pos hm hr (by rw [← e]; exact rw') cy
    have hl : 0 < r.length := List.length_pos_iff.mpr hr
    have hne : PW.rep m r ≠ [] := fun z => by
      have := rep_len m r
      rw [z] at this
      have h0 : m * r.length = 0 := by simpa using this.symm
      rcases Nat.mul_eq_zero.mp h0 with y | y <;> omega
    have cy2 : Red (PW.rep m r ++ PW.rep m r) := by
      rw [← rep_app]
      have := red_rep (h := []) (t := []) hr (by simpa using cy.left) cy (m + m - 1)
      rw [show m + m - 1 + 1 = m + m by omega] at this
      simpa using this
    refine .inr ⟨by rw [e2]; simp [hr, hne], h, PW.rep m r, d, ⟨e2, stop_of cy2⟩, i.rep hm, ?_, ?_⟩
    · obtain ⟨k, rfl⟩ : ∃ k, m = k + 1 := ⟨m - 1, by omega⟩
      rw [rep_succ, List.take_append_of_le_length (ring_pos i hr).1]
    · obtain ⟨c, hc⟩ := i.dvd
      rw [rep_len, hc, Nat.mul_div_cancel_left c i.pos, show m * (d * c) = d * (c * m) by rw [Nat.mul_left_comm, Nat.mul_comm m c], Nat.mul_div_cancel_left _ i.pos]
theorem Rooted.inv {w ρ : List Int} {n : Nat} (a : Rooted w ρ n) : Rooted (PW.inv w) (PW.inv ρ) n := by
  rcases a with ⟨rfl, rfl, rfl⟩ | ⟨w0, h, r, d, p, i, rfl, rfl⟩
  · exact .inl ⟨rfl, rfl, rfl⟩
  · refine .inr ⟨fun z => w0 (inv_eq_nil z), h, PW.inv r, d, ⟨by rw [p.eq]; simp [inv_append, inv_inv], ?_⟩, i.inv, ?_, by rw [inv_length]⟩
    · rcases p.stop with c | ⟨x, s, y, rfl, n⟩
      · exact .inl (by rw [inv_length]; exact c)
      · refine .inr ⟨-y, PW.inv s, -x, by simp [inv_cons, inv_append, PW.inv], by omega⟩
    · have e := i.eq
      have : (PW.inv r).take d = PW.inv (r.take d) := by
        by_cases hr : r = []
        · subst hr; simp [PW.inv]
        · obtain ⟨hd, hk⟩ := ring_pos i hr
          conv => lhs; rw [e]
          rw [inv_rep]
          obtain ⟨k, hk2⟩ : ∃ k, r.length / d = k + 1 := ⟨r.length / d - 1, by omega⟩
          have hl : (PW.inv (r.take d)).length = d := by rw [inv_length, List.length_take]; omega
          rw [hk2, rep_succ, List.take_append_of_le_length (by rw [hl]; exact Nat.le_refl _), List.take_of_length_le (by rw [hl]; exact Nat.le_refl _)]
      rw [this]
      simp [inv_append, inv_inv]
/-- which one it is so many times -/
theorem power_iff {w v ρ σ : List Int} {n k m : Nat} (a : Rooted w ρ n) (b : Rooted v σ k) (rw' : Red w) (nzw : NZ w) (rv : Red v) (nzv : NZ v) (w0 : w ≠ []) (hm : 0 < m) : red (rep m v) = w ↔ k ≠ 0 ∧ σ = ρ ∧ n = k * m := by
  constructor
  · intro e
    by_cases v0 : v = []
    · subst v0
      rw [rep_nil] at e
      exact absurd e.symm w0
    · have c := b.rep rv nzv v0 hm
      rw [e] at c
      obtain ⟨e1, e2⟩ := c.uniq a
      refine ⟨?_, e1, e2.symm⟩
      rcases b with ⟨z, _⟩ | ⟨_, h, r, d, p, i, _, rfl⟩
      · exact absurd z v0
      · have := (ring_pos i (p.ring rv v0)).2
        omega
  · rintro ⟨_, rfl, rfl⟩
    have e1 := a.word rw' nzw
    have e2 := b.word rv nzv
    rw [← e2, red_rep_red, rep_rep, ← e1, Nat.mul_comm]
theorem Rooted.zero {w ρ : List Int} {n : Nat} (a : Rooted w ρ n) (rw' : Red w) : n = 0 ↔ w = [] := by
  rcases a with ⟨rfl, _, rfl⟩ | ⟨w0, h, r, d, p, i, _, rfl⟩
  · simp
  · have := (ring_pos i (p.ring rw' w0)).2
    constructor
    · intro z; omega
    · intro z; exact absurd z w0
theorem Rooted.times_len {w ρ : List Int} {n : Nat} (a : Rooted w ρ n) (rw' : Red w) (nz : NZ w) : ∃ h s, (∀ m, 0 < m → (red (PW.rep m w)).length = 2 * h + m * s) := by
  rcases a with ⟨rfl, _, rfl⟩ | ⟨w0, h, r, d, p, i, _, rfl⟩
  · exact ⟨0, 0, fun m _ => by rw [rep_nil]; rfl⟩
  · refine ⟨h.length, r.length, fun m hm => ?_⟩
    have e := p.eq
    have e2 : red (PW.rep m w) = h ++ PW.rep m r ++ PW.inv h := by rw [e]; exact rep_pos hm (p.ring rw' w0) (by rw [← e]; exact rw') (p.cyc rw' nz)
    rw [e2]
    simp [inv_length, rep_len]
    omega
end
end PW

set_option linter.all false
/-! # PC: words that commute -/
namespace PW
theorem rep_plus (m n : Nat) (w : List Int) : rep (m + n) w = rep m w ++ rep n w := by
  induction m with
  | zero => simp [rep_zero]
  | succ m ih => rw [show m + 1 + n = m + n + 1 by omega, rep_succ, rep_succ, ih, List.append_assoc]
/-- words that commute are powers of one word -/
theorem comm_words : ∀ (n : Nat) (u v : List Int), u.length + v.length ≤ n → u ++ v = v ++ u → ∃ w p q, u = rep p w ∧ v = rep q w
  | 0, u, v, h, _ => by
    have e1 : u = [] := List.length_eq_zero_iff.mp (by omega)
    have e2 : v = [] := List.length_eq_zero_iff.mp (by omega)
    subst e1 e2
    exact ⟨[], 0, 0, rfl, rfl⟩
  | n + 1, u, v, h, e => by
    by_cases hu : u = []
    · subst hu; exact ⟨v, 0, 1, rfl, (rep_one v).symm⟩
    by_cases hv : v = []
    · subst hv; exact ⟨u, 1, 0, (rep_one u).symm, rfl⟩
    have lu := List.length_pos_iff.mpr hu
    have lv := List.length_pos_iff.mpr hv
    rcases Nat.le_total u.length v.length with hl | hl
    · have p : u <+: v := by
        have a : u <+: v ++ u := ⟨v, e⟩
        exact List.prefix_of_prefix_length_le a (List.prefix_append v u) hl
      obtain ⟨v', rfl⟩ := p
      have e2 : u ++ v' = v' ++ u := by
        rw [List.append_assoc] at e
        exact List.append_cancel_left e
      obtain ⟨w, p, q, h1, h2⟩ := comm_words n u v' (by simp at h; omega) e2
      exact ⟨w, p, p + q, h1, by rw [rep_plus, ← h1, ← h2]⟩
    · have p : v <+: u := by
        have a : v <+: u ++ v := ⟨u, e.symm⟩
        exact List.prefix_of_prefix_length_le a (List.prefix_append u v) hl
      obtain ⟨u', rfl⟩ := p
      have e2 : v ++ u' = u' ++ v := by
        rw [List.append_assoc] at e
        exact (List.append_cancel_left e).symm
      obtain ⟨w, p, q, h1, h2⟩ := comm_words n v u' (by simp at h; omega) e2
      exact ⟨w, p + q, p, by rw [rep_plus, ← h1, ← h2], h1⟩
theorem red_of_len {xs : List Int} (h : (red xs).length = xs.length) : Red xs := by
  have : ∀ {xs : List Int}, (red xs).length = xs.length → red xs = xs := by
    intro xs
    induction xs with
    | nil => intro _; rfl
    | cons x xs ih =>
      intro h
      have h' : (cons1 x (red xs)).length = xs.length + 1 := h
      have l1 := cons1_len x (red xs)
      have l2 := red_len xs
      have e := ih (by omega)
      show cons1 x (red xs) = x :: xs
      have h2 : (cons1 x (red xs)).length = (red xs).length + 1 := by omega
      rw [e] at h2 ⊢
      cases xs with
      | nil => rfl
      | cons y ys =>
        rw [cons1_c] at h2 ⊢
        split at h2
        · simp at h2; omega
        · rename_i q; rw [if_neg q]
  rw [← this h]
  exact red_red _
theorem not_joint {u v : List Int} (ru : Red u) (rv : Red v) (h : ¬ Red (u ++ v)) : ∃ a b, u.getLast? = some a ∧ v.head? = some b ∧ a = -b := by
  by_cases q : ∃ a b, u.getLast? = some a ∧ v.head? = some b ∧ a = -b
  · exact q
  · exact absurd (red_joint ru rv fun a b ha hb e => q ⟨a, b, ha, hb, e⟩) h
theorem inv_last {b : List Int} {x : Int} (h : b.head? = some x) : (inv b).getLast? = some (-x) := by
  cases b with
  | nil => cases h
  | cons y ys => simp at h; subst h; rw [inv_cons]; simp
theorem inv_head {b : List Int} {x : Int} (h : b.getLast? = some x) : (inv b).head? = some (-x) := by
  have hb : b ≠ [] := fun z => by subst z; cases h
  have e : b = b.dropLast ++ [x] := by
    have := List.dropLast_concat_getLast hb
    rw [List.getLast?_eq_some_getLast hb] at h
    cases h
    exact this.symm
  rw [e, inv_append]
  simp [inv]
/-- what commutes with a word that meets itself plainly -/
theorem comm_plain {r b : List Int} (hr : Red (r ++ r)) (rb : Red b) (e : red (r ++ b) = red (b ++ r)) : ∃ w p q, r = rep p w ∧ (b = rep q w ∨ b = inv (rep q w)) := by
  have rr : Red r := hr.left
  by_cases h1 : Red (r ++ b)
  · have h2 : Red (b ++ r) := red_of_len (by rw [← e, red_id h1]; simp; omega)
    rw [red_id h1, red_id h2] at e
    obtain ⟨w, p, q, a1, a2⟩ := comm_words _ r b (Nat.le_refl _) e
    exact ⟨w, p, q, a1, .inl a2⟩
  · have h2 : ¬ Red (b ++ r) := fun z => h1 (red_of_len (by rw [e, red_id z]; simp; omega))
    obtain ⟨a, x, ha, hx, e1⟩ := not_joint rr rb h1
    obtain ⟨y, c, hy, hc, e2⟩ := not_joint rb rr h2
    have j := hr.joint ha hc
    have k1 : Red (r ++ inv b) := red_joint rr rb.inv fun u v hu hv => by
      rw [ha] at hu; cases hu
      rw [inv_head hy] at hv; cases hv
      rw [e2]; simpa using j
    have k2 : Red (inv b ++ r) := red_joint rb.inv rr fun u v hu hv => by
      rw [hc] at hv; cases hv
      rw [inv_last hx] at hu; cases hu
      rw [← e1]; exact j
    have m : red (r ++ inv b) = red (inv b ++ r) := by
      have l : red (inv b ++ ((r ++ b) ++ inv b)) = red (inv b ++ r) := by
        have := red_self_inv b
        rw [← List.append_assoc, ← List.append_assoc, List.append_assoc (inv b ++ r), red_append, this, List.append_nil]
      have l2 : red (inv b ++ ((b ++ r) ++ inv b)) = red (r ++ inv b) := by
        have := red_mid [] (r ++ inv b) b
        simpa using this
      have f : red ((r ++ b) ++ inv b) = red ((b ++ r) ++ inv b) := by rw [← red_left (r ++ b), e, red_left]
      rw [← l2, ← l, red_append (inv b) ((b ++ r) ++ inv b), red_append (inv b) ((r ++ b) ++ inv b), f]
    rw [red_id k1, red_id k2] at m
    obtain ⟨w, p, q, a1, a2⟩ := comm_words _ r (inv b) (Nat.le_refl _) m
    exact ⟨w, p, q, a1, .inr (by rw [← a2, inv_inv])⟩
end PW

set_option linter.all false
/-! # PC2: words that commute have one root -/
namespace PW
theorem red_conj (h b : List Int) (rb : Red b) : red (h ++ red (inv h ++ b ++ h) ++ inv h) = b := by
  have e1 : red (h ++ (inv h ++ b ++ h) ++ inv h) = b := by
    have a := red_mid [] (b ++ (h ++ inv h)) (inv h)
    rw [inv_inv, List.nil_append, List.nil_append] at a
    have z : h ++ (inv h ++ b ++ h) ++ inv h = h ++ (inv h ++ (b ++ (h ++ inv h))) := by simp
    rw [z, a, red_append, red_self_inv, List.append_nil, red_id rb]
  rw [← red_left (h ++ red (inv h ++ b ++ h)), ← red_append, red_left]
  exact e1
theorem comm_root {a b : List Int} (ra : Red a) (nza : NZ a) (a0 : a ≠ []) (rb : Red b) (nzb : NZ b) (b0 : b ≠ []) (e : red (a ++ b) = red (b ++ a)) {h r : List Int} (p : PartsU a h r)
    (ex : ∀ g : List Int, Red g → g.length ≤ a.length → ∃ γ m, Rooted g γ m) {ρ σ : List Int} {n k : Nat} (A : Rooted a ρ n) (B : Rooted b σ k) : σ = ρ ∨ σ = inv ρ := by
  have hr : r ≠ [] := p.ring ra a0
  have cy := p.cyc ra nza
  have rc : Red (red (inv h ++ b ++ h)) := red_red _
  have bb := red_conj h b rb
  have ee : red (r ++ red (inv h ++ b ++ h)) = red (red (inv h ++ b ++ h) ++ r) := by
    have e1 : red (inv h ++ (a ++ b) ++ h) = red (inv h ++ (b ++ a) ++ h) := by
      rw [← red_left (inv h ++ (a ++ b)), red_append (inv h) (a ++ b), e, ← red_append, red_left]
    have c := red_mid
    have f1 : red (inv h ++ (a ++ b) ++ h) = red (r ++ (inv h ++ b ++ h)) := by
      rw [p.eq]
      have := red_mid [] (r ++ (inv h ++ (b ++ h))) h
      simpa using this
    have f2 : red (inv h ++ (b ++ a) ++ h) = red ((inv h ++ b ++ h) ++ r) := by
      rw [p.eq]
      have := red_mid (inv h ++ (b ++ (h ++ r))) [] h
      simpa using this
    rw [← red_append, red_left, ← f1, ← f2, e1]
  obtain ⟨w, i, j, hi, hj⟩ := comm_plain cy rc ee
  have i0 : 0 < i := by
    rcases Nat.eq_zero_or_pos i with z | z
    · subst z; exact absurd hi hr
    · exact z
  have w0 : w ≠ [] := fun z => hr (by rw [hi, z, rep_nil])
  have rg : Red (red (h ++ w ++ inv h)) := red_red _
  have ag : red (rep i (red (h ++ w ++ inv h))) = a := by
    obtain ⟨i', rfl⟩ : ∃ i', i = i' + 1 := ⟨i - 1, by omega⟩
    rw [red_rep_red, rep_word, ← hi, ← List.append_assoc, ← p.eq, red_id ra]
  have bg : ∀ j, red (rep j (red (h ++ w ++ inv h))) = red (h ++ rep j w ++ inv h) := fun j => by
    cases j with
    | zero => rw [rep_zero, rep_zero, List.append_nil, red_self_inv]; rfl
    | succ j => rw [red_rep_red, rep_word, ← List.append_assoc]
  have gnz : NZ (red (h ++ w ++ inv h)) := fun x hx => by
    have hx := red_mem hx
    have hh : ∀ y ∈ h, y ≠ 0 := fun y hy => nza y (by rw [p.eq]; simp [hy])
    rcases List.mem_append.mp hx with hx | hx
    · rcases List.mem_append.mp hx with hx | hx
      · exact hh x hx
      · refine nza x ?_
        rw [p.eq, hi]
        obtain ⟨i', rfl⟩ : ∃ i', i = i' + 1 := ⟨i - 1, by omega⟩
        rw [rep_succ]; simp [hx]
    · simp only [inv, List.mem_reverse, List.mem_map] at hx
      obtain ⟨y, hy, rfl⟩ := hx
      have := hh y hy
      omega
  have gl : (red (h ++ w ++ inv h)).length ≤ a.length := by
    refine Nat.le_trans (red_len _) ?_
    have l1 := congrArg List.length p.eq
    have l2 := congrArg List.length hi
    rw [rep_len] at l2
    have l3 : w.length ≤ i * w.length := Nat.le_mul_of_pos_left _ i0
    simp [inv_length] at l1 ⊢
    omega
  have g0 : red (h ++ w ++ inv h) ≠ [] := fun z => a0 (by rw [← ag, z, rep_nil]; rfl)
  obtain ⟨γ, m, G⟩ := ex _ rg gl
  have A' := G.rep rg gnz g0 i0
  rw [ag] at A'
  have e1 := A.uniq A'
  have j0 : 0 < j := by
    rcases Nat.eq_zero_or_pos j with z | z
    · subst z
      have cz : red (inv h ++ b ++ h) = [] := by
        rcases hj with hj | hj
        · rw [hj]; rfl
        · rw [hj]; rfl
      rw [cz, List.append_nil, red_self_inv] at bb
      exact absurd bb.symm b0
    · exact z
  have B' := G.rep rg gnz g0 j0
  rcases hj with hj | hj
  · have : red (rep j (red (h ++ w ++ inv h))) = b := by rw [bg, ← hj]; exact bb
    rw [this] at B'
    have e2 := B.uniq B'
    exact .inl (by rw [e2.1, e1.1])
  · have : red (rep j (red (h ++ w ++ inv h))) = inv b := by
      rw [bg]
      have q : rep j w = inv (red (inv h ++ b ++ h)) := by rw [hj, inv_inv]
      have z : ∀ u : List Int, h ++ inv u ++ inv h = inv (h ++ u ++ inv h) := fun u => by simp [inv_append, inv_inv]
      rw [q, z, red_inv, bb]
    rw [this] at B'
    have e2 := (B.inv).uniq B'
    exact .inr (by rw [e1.1, ← e2.1, inv_inv])
end PW

set_option linter.all false
/-! # PS: the mirror's combinators run, step by step -/
namespace PL
section
variable {δ : Env} {S : Sto} {a b c e m : ME} {as r : MA} {t u : MT} {s s' : MS} {f : MF} {i j n : Nat} {d : D} {v : D}
@[simp] theorem s_mVar : mVar i δ S = (match δ[i]? with | some (some d) => some (.ok d S) | _ => none) := rfl
@[simp] theorem s_mC : mC d δ S = some (.ok d S) := rfl
@[simp] theorem s_mBin {f} : mBin f a b δ S = bE (a δ S) fun x S1 => bE (b δ S1) fun y S2 => (f x y).map fun z => .ok z S2 := rfl
@[simp] theorem s_mBinS {f} : mBinS f a b δ S = bE (a δ S) fun x S1 => bE (b δ S1) fun y S2 => (f S2 x y).map fun z => .ok z S2 := rfl
@[simp] theorem s_mUn {f} : mUn f a δ S = bE (a δ S) fun x S1 => (f x).map fun z => .ok z S1 := rfl
@[simp] theorem s_mNilA : mNilA δ S = some (.ok [] S) := rfl
@[simp] theorem s_mConsA : mConsA a r δ S = bEA (a δ S) fun x S1 => bAA (r δ S1) fun xs S2 => some (.ok (x :: xs) S2) := rfl
@[simp] theorem s_mCatA {r'} : mCatA r r' δ S = bAA (r δ S) fun xs S1 => bAA (r' δ S1) fun ys S2 => some (.ok (xs ++ ys) S2) := rfl
@[simp] theorem s_mBI {f} : mBI f as δ S = bA (as δ S) fun xs S1 => (f S1 xs).map fun z => .ok z S1 := rfl
@[simp] theorem s_mCall : mCall f as δ S = bA (as δ S) fun xs S1 => f xs S1 := rfl
@[simp] theorem s_mTup : mTup as δ S = bA (as δ S) fun xs S1 => if xs.length ≤ LINE then some (.ok (.tup xs) S1) else none := rfl
@[simp] theorem s_mLst : mLst as δ S = bA (as δ S) fun xs S1 => if xs.length ≤ LINE then some (.ok (.lst xs) S1) else none := rfl
@[simp] theorem s_mNewLst : mNewLst as δ S = bA (as δ S) fun xs S1 => if xs.length ≤ LINE ∧ D.pures xs = true then some (.ok (.ref S1.length) (S1 ++ [.lst xs])) else none := rfl
@[simp] theorem s_mB : mB e δ S = bET (e δ S) fun x S1 => (match x with | .bl b => some (.ok b S1) | _ => none) := rfl
@[simp] theorem s_mAndT : mAndT t u δ S = bTT (t δ S) fun c S1 => if c then u δ S1 else some (.ok false S1) := rfl
@[simp] theorem s_mOrT : mOrT t u δ S = bTT (t δ S) fun c S1 => if c then some (.ok true S1) else u δ S1 := rfl
@[simp] theorem s_mNotT : mNotT t δ S = bTT (t δ S) fun c S1 => some (.ok (!c) S1) := rfl
@[simp] theorem s_mAndV : mAndV a b δ S = bE (a δ S) fun x S1 => (match x with | .bl true => b δ S1 | .bl false => some (.ok (.bl false) S1) | _ => none) := rfl
@[simp] theorem s_mOrV : mOrV a b δ S = bE (a δ S) fun x S1 => (match x with | .bl true => some (.ok (.bl true) S1) | .bl false => b δ S1 | _ => none) := rfl
@[simp] theorem s_mNotV : mNotV a δ S = bE (a δ S) fun x S1 => (match x with | .bl c => some (.ok (.bl (!c)) S1) | _ => none) := rfl
@[simp] theorem s_mIf : mIf t a b δ S = bT (t δ S) fun c S1 => if c then a δ S1 else b δ S1 := rfl
@[simp] theorem s_mChain {f g} : mChain f g a b c δ S = bE (a δ S) fun x S1 => bE (b δ S1) fun y S2 => (match f x y with
  | some (.bl true) => bE (c δ S2) fun z S3 => (g y z).map fun v => .ok v S3
  | some (.bl false) => some (.ok (.bl false) S2)
  | _ => none) := rfl
@[simp] theorem s_mPass : mPass δ S = some (.nx δ S) := rfl
@[simp] theorem s_mSeq : mSeq s s' δ S = bS (s δ S) s' := rfl
@[simp] theorem s_mNever : mNever δ S = none := rfl
@[simp] theorem s_mSet : mSet i e δ S = bES δ (e δ S) fun d S1 => some (.nx (δ.set i (some d)) S1) := rfl
@[simp] theorem s_mDrop : mDrop e δ S = bES δ (e δ S) fun _ S1 => some (.nx δ S1) := rfl
@[simp] theorem s_mRet : mRet e δ S = bES δ (e δ S) fun d S1 => some (.rt d S1) := rfl
@[simp] theorem s_mRetN : mRetN δ S = some (.rt .non S) := rfl
@[simp] theorem s_mIfS : mIfS t s s' δ S = bTS δ (t δ S) fun c S1 => if c then s δ S1 else s' δ S1 := rfl
@[simp] theorem s_mPar : mPar i j a b δ S = bES δ (a δ S) fun x S1 => bES δ (b δ S1) fun y S2 => some (.nx ((δ.set i (some x)).set j (some y)) S2) := rfl
@[simp] theorem s_mAsg {tg} : mAsg tg e δ S = bES δ (e δ S) fun d S1 => (tg.put d δ).map fun δ' => .nx δ' S1 := rfl
@[simp] theorem s_put_name : (Tg.name i).put d δ = some (δ.set i (some d)) := by simp [Tg.put]
@[simp] theorem s_put_tup {ts ds} : (Tg.tup ts).put (.tup ds) δ = Tg.puts ts ds δ := by simp [Tg.put]
@[simp] theorem s_puts_nil : Tg.puts [] [] δ = some δ := by simp [Tg.puts]
@[simp] theorem s_puts_cons {tg ts ds} : Tg.puts (tg :: ts) (d :: ds) δ = (match tg.put d δ with | some δ' => Tg.puts ts ds δ' | none => none) := by
  first
    | (simp only [Tg.puts]; done)
    | (simp only [Tg.puts]; cases tg.put d δ <;> rfl)
@[simp] theorem s_mFor {tg it} : mFor tg it s δ S = bAS δ (it δ S) fun ds S1 => forL tg s ds δ S1 := rfl
@[simp] theorem s_mItSeq : mItSeq e δ S = bEA (e δ S) fun x S1 => (match x with | .tup xs => some (.ok xs S1) | .lst xs => some (.ok xs S1) | _ => none) := rfl
@[simp] theorem s_mItRange1 : mItRange1 e δ S = bEA (e δ S) fun x S1 => (match x with
  | .int n => if n.natAbs < 4611686018427387904 then some (.ok (rangeD 0 n.toNat) S1) else none
  | _ => none) := rfl
@[simp] theorem s_mItEnum : mItEnum e δ S = bEA (e δ S) fun x S1 => (match x with | .tup xs => some (.ok (enumD 0 xs) S1) | .lst xs => some (.ok (enumD 0 xs) S1) | _ => none) := rfl
@[simp] theorem s_mTrue : mTrue δ S = some (.ok true S) := rfl
@[simp] theorem s_mComp {vs tg it} : mComp vs tg it t e δ S = bA (mCompA vs tg it t e δ S) fun xs S1 => some (.ok (.lst xs) S1) := rfl
@[simp] theorem s_mCompA {vs tg it} : mCompA vs tg it t e δ S = bAA (it δ S) fun ds S1 => if ds.length ≤ LINE then compL tg t e (wipeD δ vs) ds [] S1 else none := rfl
@[simp] theorem s_mNewComp {vs tg it} : mNewComp vs tg it t e δ S = bA (mCompA vs tg it t e δ S) fun xs S1 => if D.pures xs then some (.ok (.ref S1.length) (S1 ++ [.lst xs])) else none := rfl
@[simp] theorem s_mAppend : mAppend m e δ S = bE (m δ S) fun x S1 => (match getL S1 x with
  | some _ => bE (e δ S1) fun y S2 => (match getL S2 x with
    | some (n, xs) => if xs.length < LINE ∧ y.pure = true then some (.ok .non (S2.set n (.lst (xs ++ [y])))) else none
    | none => none)
  | none => none) := rfl
@[simp] theorem s_mPop : mPop m δ S = bE (m δ S) fun x S1 => (match getL S1 x with
  | some (n, xs) => (match xs[xs.length - 1]? with
    | some y => some (.ok y (S1.set n (.lst xs.dropLast)))
    | none => none)
  | none => none) := rfl
@[simp] theorem s_mFn {np nl} {ds : List D} : mFn np nl s ds S = if ds.length = np then (match s (ds.map some ++ List.replicate nl none) S with
  | some (.rt d S1) => if d.pure then some (.ok d (S1.take S.length)) else none
  | some (.nx _ S1) => some (.ok .non (S1.take S.length))
  | some (.ex x _ S1) => if x.val.pure then some (.ex x (S1.take S.length)) else none
  | _ => none) else none := rfl
@[simp] theorem s_mFnR {np nl} {ds : List D} : mFnR np nl s ds S = if ds.length = np then (match s (ds.map some ++ List.replicate nl none) S with
  | some (.rt d S1) => some (.ok d S1)
  | some (.nx _ S1) => some (.ok .non S1)
  | some (.ex x _ S1) => some (.ex x S1)
  | _ => none) else none := rfl
@[simp] theorem s_mSlice {lo hi} : mSlice a lo hi δ S = bE (a δ S) fun x S1 =>
  let part (p : Option ME) (S : Sto) (k : Option Int → Sto → Option RE) : Option RE := match p with
    | none => k none S
    | some e => bE (e δ S) fun v S' => match v with
      | .int i => k (some i) S'
      | _ => none
  part lo S1 fun l S2 => part hi S2 fun h S3 => match x with
    | .tup xs => some (.ok (.tup (cut xs l h)) S3)
    | .lst xs => some (.ok (.lst (cut xs l h)) S3)
    | .str xs => if xs.length ≤ LINE then some (.ok (.str (cut xs l h)) S3) else none
    | _ => none := rfl
@[simp] theorem s_mLawAt : mLawAt m δ S = bE (m δ S) fun x S1 => (match lawOf S1 x with | some (_, _, k, _) => some (.ok (.int k) S1) | none => none) := rfl
@[simp] theorem s_mLawCells : mLawCells m δ S = bE (m δ S) fun x S1 => (match lawOf S1 x with | some (_, c, _, _) => some (.ok (.lst (c.map .int)) S1) | none => none) := rfl
@[simp] theorem s_mLawNe : mLawNe m δ S = bE (m δ S) fun x S1 => (match lawOf S1 x with | some (_, _, _, l) => some (.ok (.bl (!l.isEmpty)) S1) | none => none) := rfl
@[simp] theorem s_mLawL0 : mLawL0 m δ S = bE (m δ S) fun x S1 => (match lawOf S1 x with | some (_, _, _, h :: _) => some (.ok (.int h) S1) | _ => none) := rfl
@[simp] theorem s_mLawSet0 : mLawSet0 m e δ S = bES δ (e δ S) fun v S1 => bES δ (m δ S1) fun x S2 => (match v, lawOf S2 x with
  | .int i, some (n, c, k, _ :: t) => some (.nx δ (S2.set n (.law c k (i :: t))))
  | _, _ => none) := rfl
@[simp] theorem s_mLawTail : mLawTail i δ S = bES δ (mVar i δ S) fun x S1 => (match lawOf S1 x with
  | some (n, c, k, _ :: t) => some (.nx δ (S1.set n (.law c k t)))
  | _ => none) := rfl
@[simp] theorem s_mLawSetAt : mLawSetAt m e δ S = bES δ (e δ S) fun v S1 => bES δ (m δ S1) fun x S2 => (match v, lawOf S2 x with
  | .int i, some (n, c, _, l) => if 0 ≤ i then some (.nx δ (S2.set n (.law c i.toNat l))) else none
  | _, _ => none) := rfl
@[simp] theorem s_mFreeze : mFreeze e δ S = bE (e δ S) fun x S1 => (match x with
  | .lst xs => some (.ok (.lst xs) S1)
  | x => match getL S1 x with
    | some (n, xs) => some (.ok (.lst xs) (S1.set n .dead))
    | none => none) := rfl
end
/-! ### the store's last object -/
@[simp] theorem cat_get {α : Type} (l : List α) (x : α) : (l ++ [x])[l.length]? = some x := by simp
@[simp] theorem cat_set {α : Type} (l : List α) (x y : α) : (l ++ [x]).set l.length y = l ++ [y] := by simp
@[simp] theorem cat_take {α : Type} (l m : List α) : (l ++ m).take l.length = l := by simp
@[simp] theorem take_all {α : Type} (l : List α) : l.take l.length = l := by simp
/-! ### loops -/
theorem forL_nil {t : Tg} {b : MS} {δ : Env} {S : Sto} : forL t b [] δ S = some (.nx δ S) := by unfold forL; rfl
/-- by a word of what is left to be walked -/
theorem forL_run {t : Tg} {b : MS} (P : List D → Env → Sto → Prop)
    (h : ∀ d ds δ S, P (d :: ds) δ S → ∃ δ1, t.put d δ = some δ1 ∧ ∃ δ2 S2, (b δ1 S = some (.nx δ2 S2) ∨ b δ1 S = some (.ct δ2 S2)) ∧ P ds δ2 S2) :
    ∀ ds δ S, P ds δ S → ∃ δ' S', forL t b ds δ S = some (.nx δ' S') ∧ P [] δ' S'
  | [], δ, S, p => ⟨δ, S, forL_nil, p⟩
  | d :: ds, δ, S, p => by
    obtain ⟨δ1, h1, δ2, S2, h2, h3⟩ := h d ds δ S p
    obtain ⟨δ', S', e, p'⟩ := forL_run P h ds δ2 S2 h3
    refine ⟨δ', S', ?_, p'⟩
    unfold forL
    rw [h1]
    rcases h2 with h2 | h2 <;> (simp only [h2]; exact e)
theorem mWhile_eq (c : MT) (b : MS) (δ : Env) (S : Sto) : mWhile c b δ S = (match c δ S with
  | some (.ok true S1) => match b δ S1 with
    | some (.nx δ2 S2) => mWhile c b δ2 S2
    | some (.ct δ2 S2) => mWhile c b δ2 S2
    | some (.bk δ2 S2) => some (.nx δ2 S2)
    | some (.rt d S2) => some (.rt d S2)
    | some (.ex x δ2 S2) => some (.ex x δ2 S2)
    | none => none
  | some (.ok false S1) => some (.nx δ S1)
  | some (.ex x S1) => some (.ex x δ S1)
  | none => none) := mWhile.eq_def c b δ S
/-- by a word with a measure -/
theorem while_run {c : MT} {b : MS} (P : Nat → Env → Sto → Prop) (R : RS → Prop)
    (h : ∀ n δ S, P n δ S → (∃ S1, c δ S = some (.ok false S1) ∧ R (.nx δ S1)) ∨ ∃ S1, c δ S = some (.ok true S1) ∧
      ((∃ δ2 S2 m, (b δ S1 = some (.nx δ2 S2) ∨ b δ S1 = some (.ct δ2 S2)) ∧ m < n ∧ P m δ2 S2) ∨ (∃ d S2, b δ S1 = some (.rt d S2) ∧ R (.rt d S2)) ∨ ∃ δ2 S2, b δ S1 = some (.bk δ2 S2) ∧ R (.nx δ2 S2))) :
    ∀ n δ S, P n δ S → ∃ r, mWhile c b δ S = some r ∧ R r := by
  intro n
  induction n using Nat.strongRecOn with
  | _ n ih =>
    intro δ S p
    rw [mWhile_eq]
    rcases h n δ S p with ⟨S1, e, q⟩ | ⟨S1, e, q⟩
    · rw [e]; exact ⟨_, rfl, q⟩
    · rw [e]
      rcases q with ⟨δ2, S2, m, e2, l, q⟩ | ⟨d, S2, e2, q⟩ | ⟨δ2, S2, e2, q⟩
      · rcases e2 with e2 | e2 <;> (simp only [e2]; exact ih m l δ2 S2 q)
      · simp only [e2]; exact ⟨_, rfl, q⟩
      · simp only [e2]; exact ⟨_, rfl, q⟩
/-- a comprehension whose parts leave the store alone -/
theorem compL_run {t : Tg} {c : MT} {e : ME} {δ : Env} {S : Sto} (p : D → Bool) (f : D → D) : ∀ (ds acc : List D),
    (∀ d ∈ ds, ∃ δ1, t.put d δ = some δ1 ∧ c δ1 S = some (.ok (p d) S) ∧ (p d = true → e δ1 S = some (.ok (f d) S))) → compL t c e δ ds acc S = some (.ok (acc ++ (ds.filter p).map f) S)
  | [], acc, _ => by unfold compL; simp
  | d :: ds, acc, h => by
    obtain ⟨δ1, h1, h2, h3⟩ := h d List.mem_cons_self
    have ih := fun acc => compL_run p f ds acc fun d' hd' => h d' (List.mem_cons_of_mem _ hd')
    unfold compL
    rw [h1]
    simp only [h2]
    cases hp : p d with
    | true => simp only [h3 hp, ih, List.filter_cons, hp]; simp
    | false => simp only [ih, List.filter_cons, hp]; simp
end PL

set_option linter.all false
set_option maxRecDepth 10000
/-! # LP: what the shared defs compute, in plain Lean -/
namespace LM
open PL PW
/-- whole numbers as the mirror has them -/
def intD (xs : List Int) : List D := xs.map .int
/-- a course as the mirror has it -/
abbrev T (xs : List Int) : D := .tup (intD xs)
/-- a list of whole numbers -/
abbrev L (xs : List Int) : D := .lst (intD xs)
theorem intD_nil : intD [] = [] := rfl
theorem intD_cons (x : Int) (xs : List Int) : intD (x :: xs) = .int x :: intD xs := rfl
@[simp] theorem intD_len (xs : List Int) : (intD xs).length = xs.length := by simp [intD]
@[simp] theorem intD_app (xs ys : List Int) : intD xs ++ intD ys = intD (xs ++ ys) := by simp [intD]
@[simp] theorem intD_snoc (xs : List Int) (x : Int) : intD xs ++ [.int x] = intD (xs ++ [x]) := by simp [intD]
@[simp] theorem intD_pop (xs : List Int) : (intD xs).dropLast = intD xs.dropLast := by simp [intD]
@[simp] theorem intD_get (xs : List Int) (i : Nat) : (intD xs)[i]? = (xs[i]?).map .int := by simp [intD]
@[simp] theorem intD_drop (xs : List Int) (i : Nat) : (intD xs).drop i = intD (xs.drop i) := by simp [intD]
@[simp] theorem intD_take (xs : List Int) (i : Nat) : (intD xs).take i = intD (xs.take i) := by simp [intD]
@[simp] theorem intD_rev (xs : List Int) : (intD xs).reverse = intD xs.reverse := by simp [intD]
@[simp] theorem pures_intD (xs : List Int) : D.pures (intD xs) = true := by
  induction xs with
  | nil => rfl
  | cons x xs ih => simpa [intD, D.pures, D.pure] using ih
@[simp] theorem T_pure (xs : List Int) : (T xs).pure = true := by simp [T, D.pure]
@[simp] theorem T_pure' (xs : List Int) : (D.tup (intD xs)).pure = true := T_pure xs
theorem okNs_intD (xs : List Int) (n : Nat) : D.okNs (intD xs) n = true := by
  induction xs with
  | nil => rfl
  | cons x xs ih => simpa [intD, D.okNs, D.okN] using ih
@[simp] theorem T_okN (xs : List Int) (n : Nat) : (T xs).okN (n + 1) = true := by simpa [T, D.okN] using okNs_intD xs n
theorem eqDs_intD (xs ys : List Int) : eqDs (intD xs) (intD ys) = decide (xs = ys) := by
  unfold intD
  induction xs generalizing ys with
  | nil => cases ys <;> simp [eqDs]
  | cons x xs ih => cases ys with
    | nil => simp [eqDs]
    | cons y ys => simp [eqDs, eqD, ih, Bool.decide_and, Bool.beq_eq_decide_eq]
@[simp] theorem T_eq (xs ys : List Int) : eqD (T xs) (T ys) = decide (xs = ys) := by simpa [T, eqD] using eqDs_intD xs ys
@[simp] theorem eqD_int (a b : Int) : eqD (.int a) (.int b) = decide (a = b) := by simp [eqD, Bool.beq_eq_decide_eq]
@[simp] theorem okN_int (a : Int) (n : Nat) : (D.int a).okN n = true := by simp [D.okN]
@[simp] theorem pure_int (a : Int) : (D.int a).pure = true := rfl
@[simp] theorem pure_bl (a : Bool) : (D.bl a).pure = true := rfl
@[simp] theorem pure_non : D.non.pure = true := rfl
@[simp] theorem eq_int (a b : Int) : opEq (.int a) (.int b) = some (.bl (decide (a = b))) := by simp [opEq, opEqO, opEqO]
@[simp] theorem ne_int (a b : Int) : opNe (.int a) (.int b) = some (.bl (!decide (a = b))) := by simp [opNe, opNeO, opNeO]
@[simp] theorem lt_int (a b : Int) : opLt (.int a) (.int b) = some (.bl (decide (a < b))) := rfl
@[simp] theorem le_int (a b : Int) : opLe (.int a) (.int b) = some (.bl (decide (a ≤ b))) := rfl
@[simp] theorem gt_int (a b : Int) : opGt (.int a) (.int b) = some (.bl (decide (b < a))) := rfl
@[simp] theorem ge_int (a b : Int) : opGe (.int a) (.int b) = some (.bl (decide (b ≤ a))) := rfl
@[simp] theorem add_int (a b : Int) : opAdd (.int a) (.int b) = some (.int (a + b)) := rfl
@[simp] theorem sub_int (a b : Int) : opSub (.int a) (.int b) = some (.int (a - b)) := rfl
@[simp] theorem neg_int (a : Int) : opNeg (.int a) = some (.int (-a)) := rfl
@[simp] theorem len_T (S : Sto) (xs : List Int) : biLen S [T xs] = some (.int xs.length) := by simp [biLen, T, seqOf]
@[simp] theorem eq_T (xs ys : List Int) : opEq (T xs) (T ys) = some (.bl (decide (xs = ys))) := by simp [opEq, opEqO, opEqO]
@[simp] theorem ne_T (xs ys : List Int) : opNe (T xs) (T ys) = some (.bl (!decide (xs = ys))) := by simp [opNe, opNeO, opNeO]
theorem eval_if {c : Prop} [Decidable c] {α : Type} {a b : α} (h : c) : (if c then a else b) = a := if_pos h
section
variable {S : Sto}
theorem is_number_ok (i : Int) : M_is_number [.int i] S = some (.ok (.bl true) S) := by
  simp [M_is_number, opIsI, isInt, isBool, D.pure]
theorem is_among_ok (i a b : Int) : M_is_among [.int i, .int a, .int b] S = some (.ok (.bl (decide (a ≤ i ∧ i ≤ b))) S) := by
  by_cases h : a ≤ i <;> simp [M_is_among, is_number_ok, opLe, D.pure, h]
theorem need_letters_ok {l : Int} (h : 1 ≤ l ∧ l ≤ 8) : M_need_letters [.int l] S = some (.ok (.int l) S) := by
  simp [M_need_letters, is_among_ok, D.pure, h]
theorem is_tuple_of_ok (xs : List Int) (a b : Int) : M_is_tuple_of [T xs, .int a, .int b] S = some (.ok (.bl (decide (a ≤ xs.length ∧ (xs.length : Int) ≤ b))) S) := by
  by_cases h : a ≤ (xs.length : Int) <;> simp [M_is_tuple_of, T, opIsI, isTuple, biLen, seqOf, h]
theorem is_step_ok (l i : Int) : M_is_step [.int l, .int i] S = some (.ok (.bl (decide (i ≠ 0 ∧ -l ≤ i ∧ i ≤ l))) S) := by
  by_cases h : i = 0 <;> by_cases h2 : -l ≤ i <;> simp [M_is_step, is_number_ok, h, h2]
/-- a course of these letters -/
def Good (l : Int) (xs : List Int) : Prop := xs.length ≤ 2000 ∧ ∀ x ∈ xs, x ≠ 0 ∧ -l ≤ x ∧ x ≤ l
theorem need_course_ok {l : Int} {xs : List Int} (h : 1 ≤ l ∧ l ≤ 8) (g : Good l xs) : M_need_course [.int l, T xs] S = some (.ok (T xs) S) := by
  have loop : ∀ y z, ∃ δ', L_need_course_1 [some (.int l), some (T xs), y, z] S = some (.nx δ' S) ∧ ∃ y z, δ' = [some (.int l), some (T xs), y, z] := by
    intro y z
    obtain ⟨δ', S', e, es, _, _, y', z', _, _, e2⟩ := forL_run (t := .tup [.name 2, .name 3]) (b := mIfS (mNotT (mB (mCall M_is_step (mConsA (mVar 0) (mConsA (mVar 3) mNilA))))) (mRaise 0 (mVar 2)) mPass)
      (fun ds δ S' => S' = S ∧ ∃ k ys y z, ds = enumD k (intD ys) ∧ (∀ x ∈ ys, x ≠ 0 ∧ -l ≤ x ∧ x ≤ l) ∧ δ = [some (.int l), some (T xs), y, z]) (by
        rintro d ds δ S' ⟨rfl, k, ys, y, z, e, hy, rfl⟩
        cases ys with
        | nil => simp [intD_nil, enumD] at e
        | cons x ys =>
          simp only [intD_cons, enumD, List.cons.injEq] at e
          obtain ⟨rfl, rfl⟩ := e
          have hx := hy x List.mem_cons_self
          refine ⟨[some (.int l), some (T xs), some (.int k), some (.int x)], by simp, [some (.int l), some (T xs), some (.int k), some (.int x)], S', .inl ?_, rfl, k + 1, ys, _, _, rfl, fun x h => hy x (List.mem_cons_of_mem _ h), rfl⟩
          simp [is_step_ok, hx]) (enumD 0 (intD xs)) [some (.int l), some (T xs), y, z] S ⟨rfl, 0, xs, y, z, rfl, g.2, rfl⟩
    subst es
    exact ⟨δ', by simp [L_need_course_1, T] at e ⊢; exact e, y', z', e2⟩
  obtain ⟨δ', e, y', z', rfl⟩ := loop none none
  have hl : (xs.length : Int) ≤ 2000 := by have := g.1; omega
  simp [M_need_course, need_letters_ok h, is_tuple_of_ok, hl, e]
/-! ### plain_of -/
@[simp] theorem neS_eq (S : Sto) (x y : D) : opNeS S x y = opNeO (rsv S x) (rsv S y) := rfl
@[simp] theorem neO_lst (xs ys : List D) : opNeO (.lst xs) (.lst ys) = opNe (.lst xs) (.lst ys) := rfl
@[simp] theorem eqO_lst (xs ys : List D) : opEqO (.lst xs) (.lst ys) = opEq (.lst xs) (.lst ys) := rfl
@[simp] theorem eqS_eq (S : Sto) (x y : D) : opEqS S x y = opEqO (rsv S x) (rsv S y) := rfl
@[simp] theorem rsv_last (ds : List D) : rsv (S ++ [.lst ds]) (.ref S.length) = .lst ds := by simp [rsv]
@[simp] theorem rsv_lst (S : Sto) (ds : List D) : rsv S (.lst ds) = .lst ds := rfl
@[simp] theorem ne_lst (xs ys : List Int) : opNe (.lst (intD xs)) (.lst (intD ys)) = some (.bl (!decide (xs = ys))) := by
  simp [opNe, opNeO, D.okN, okNs_intD, eqD, eqDs_intD]
@[simp] theorem ne_nil (xs : List Int) : opNe (.lst (intD xs)) (.lst []) = some (.bl (!decide (xs = []))) := ne_lst xs []
@[simp] theorem getL_last (ds : List D) : getL (S ++ [.lst ds]) (.ref S.length) = some (S.length, ds) := by simp [getL]
theorem last_get {acc : List Int} {a : Int} (h : acc.getLast? = some a) : acc[acc.length - 1]? = some a := by rw [← List.getLast?_eq_getElem?]; exact h
theorem last_pos {acc : List Int} {a : Int} (h : acc.getLast? = some a) : 0 < acc.length := by cases acc with
  | nil => simp at h
  | cons x r => simp
theorem ixN_last {n : Nat} (h : 0 < n) : ixN n (-1) = some (n - 1) := by
  unfold ixN
  rw [if_neg (by omega), if_pos (by omega)]
  congr 1; omega
theorem ix_last {acc : List Int} {a : Int} (h : acc.getLast? = some a) : opIx (S ++ [.lst (intD acc)]) (.ref S.length) (.int (-1)) = some (.int a) := by
  simp only [opIx, seqOf, cat_get, Option.bind_some, intD_len, ixN_last (last_pos h)]
  simp [last_get h]
theorem plain_of_ok {xs : List Int} (h : xs.length ≤ 1000000) : M_plain_of [T xs] S = some (.ok (T (red xs)) S) := by
  have loop : ∃ z, L_plain_of_1 [some (T xs), some (.ref S.length), none] (S ++ [.lst []]) = some (.nx [some (T xs), some (.ref S.length), z] (S ++ [.lst (intD (red xs))])) := by
    obtain ⟨δ', S', e, ys, acc, z, e1, rfl, r, e2, _, rfl⟩ := forL_run (t := .name 2) (b := mIfS (mAndT (mB (mBinS opNeS (mVar 1) (mLst mNilA))) (mB (mBin opEq (mBinS opIx (mVar 1) (mUn opNeg (mC (.int 1)))) (mUn opNeg (mVar 2))))) (mDrop (mPop (mVar 1))) (mDrop (mAppend (mVar 1) (mVar 2))))
      (fun ds δ S' => ∃ ys acc z, ds = intD ys ∧ S' = S ++ [.lst (intD acc)] ∧ Red acc ∧ red (acc ++ ys) = red xs ∧ acc.length + ys.length ≤ 1000000 ∧ δ = [some (T xs), some (.ref S.length), z]) (by
        rintro d ds δ S' ⟨ys, acc, z, e, rfl, r, e2, hl, rfl⟩
        cases ys with
        | nil => simp [intD_nil] at e
        | cons x ys =>
          simp only [intD_cons, List.cons.injEq] at e
          obtain ⟨rfl, rfl⟩ := e
          simp only [List.length_cons] at hl
          have pk := push_ok (x := x) r
          refine ⟨[some (T xs), some (.ref S.length), some (.int x)], by simp, [some (T xs), some (.ref S.length), some (.int x)], S ++ [.lst (intD (push acc x))], .inl ?_, ys, push acc x, _, rfl, rfl, pk.1, by rw [pk.2]; exact e2, ?_, rfl⟩
          · have hl2 : acc.length < 16777216 := by omega
            cases hg : acc.getLast? with
            | none =>
              have : acc = [] := by simpa using hg
              subst this
              simp [push, LINE]
            | some a =>
              have hne : acc ≠ [] := fun z => by subst z; simp at hg
              by_cases q : a = -x
              · subst q
                simp [push, hg, LINE, ix_last hg, hne, last_get hg]
              · simp [push, hg, LINE, ix_last hg, hne, q, hl2]
          · have : (push acc x).length ≤ acc.length + 1 := by unfold push; split <;> simp <;> omega
            omega) (intD xs) [some (T xs), some (.ref S.length), none] (S ++ [.lst []]) ⟨xs, [], none, rfl, rfl, trivial, rfl, by simpa using h, rfl⟩
    have : ys = [] := by simpa [intD] using e1.symm
    subst this
    rw [List.append_nil, red_id r] at e2
    subst e2
    exact ⟨z, by simp [L_plain_of_1, T] at e ⊢; exact e⟩
  obtain ⟨z, e⟩ := loop
  simp [M_plain_of, e, D.pures, LINE, biTuple]
theorem cut_all (xs : List Int) (lo hi : Option Int) : cut (intD xs) lo hi = intD (cut xs lo hi) := by simp [cut]
@[simp] theorem rev_T (xs : List Int) : opRev (T xs) = some (T xs.reverse) := by simp [opRev, T]
@[simp] theorem tuple_L (S : Sto) (xs : List Int) : biTuple S [L xs] = some (T xs) := rfl
@[simp] theorem tuple_lst (S : Sto) (xs : List D) : biTuple S [.lst xs] = some (.tup xs) := rfl
theorem back_of_ok {xs : List Int} (h : xs.length ≤ 1000000) : M_back_of [T xs] S = some (.ok (T (inv xs)) S) := by
  have e := compL_run (t := .name 1) (c := mTrue) (e := mUn opNeg (mVar 1)) (δ := wipeD [some (T xs), none] [1]) (S := S) (fun _ => true) (fun d => (opNeg d).getD .non) (intD xs.reverse) [] (by
    intro d hd
    obtain ⟨x, _, rfl⟩ := List.mem_map.mp hd
    exact ⟨[some (T xs), some (.int x)], by simp [wipeD], rfl, fun _ => by simp⟩)
  have e2 : (List.map (fun d => (opNeg d).getD .non) (intD xs.reverse)) = intD (inv xs) := by
    simp [intD, inv, opNeg]
  have hl : xs.length ≤ 16777216 := by omega
  have hf : List.filter (fun _ => true) (intD xs.reverse) = intD xs.reverse := List.filter_eq_self.mpr fun _ _ => rfl
  rw [hf, e2] at e
  simp [M_back_of, LINE, hl, e]
/-! ### behind_of -/
theorem ix_T {xs : List Int} {n : Nat} {a : Int} {i : Int} (hi : i = n) (h : xs[n]? = some a) : opIx S (T xs) (.int i) = some (.int a) := by
  subst hi
  have hl : n < xs.length := (List.getElem?_eq_some_iff.mp h).1
  have e : ixN xs.length (n : Int) = some n := by
    unfold ixN
    rw [if_pos (by omega), if_pos (by omega)]
    simp
  simp only [opIx, seqOf, Option.bind_some, intD_len, e, intD_get, h]
  rfl
theorem cut_to {xs : List Int} {i : Int} {k : Nat} (hi : i = k) (h : k ≤ xs.length) : cut (intD xs) none (some i) = intD (xs.take k) := by
  subst hi
  rw [cut_all]
  unfold cut sIx
  simp
  rw [if_neg (by omega)]
  congr 2; omega
theorem cut_from {xs : List Int} {i : Int} {k : Nat} (hi : i = k) (h : k ≤ xs.length) : cut (intD xs) (some i) none = intD (xs.drop k) := by
  subst hi
  rw [cut_all]
  unfold cut sIx
  simp
  rw [if_neg (by omega)]
  rw [Nat.min_eq_left h]
  rw [List.take_of_length_le (by simp)]
theorem take_step {a : List Int} {k : Nat} {x : Int} (h : a[a.length - 1 - k]? = some x) (hk : k < a.length) : a.take (a.length - k) = a.take (a.length - (k + 1)) ++ [x] := by
  have : a.length - k = (a.length - (k + 1)) + 1 := by omega
  rw [this, List.take_add_one]
  have e : a.length - (k + 1) = a.length - 1 - k := by omega
  rw [e, h]
  rfl
theorem drop_step {b : List Int} {k : Nat} {y : Int} (h : b[k]? = some y) : b.drop k = y :: b.drop (k + 1) := by
  obtain ⟨hl, rfl⟩ := List.getElem?_eq_some_iff.mp h
  exact List.drop_eq_getElem_cons hl
theorem behind_end {a b : List Int} (ra : Red a) (rb : Red b) {k : Nat} (hk : k ≤ a.length ∧ k ≤ b.length) (n : ∀ x y, a[a.length - 1 - k]? = some x → k < a.length → b[k]? = some y → x ≠ -y) : Red (a.take (a.length - k) ++ b.drop k) := by
  refine red_joint (Red.left (v := a.drop (a.length - k)) (by rw [List.take_append_drop]; exact ra)) (Red.right (u := b.take k) (by rw [List.take_append_drop]; exact rb)) fun x y e1 e2 => ?_
  have hl : k < a.length := by
    by_cases q : k < a.length
    · exact q
    · have : a.length - k = 0 := by omega
      rw [this] at e1; simp at e1
  refine n x y ?_ hl (by rw [List.head?_drop] at e2; exact e2)
  rw [List.getLast?_eq_getElem?, List.length_take, List.getElem?_take_of_lt (by omega)] at e1
  rw [← e1]; congr 1; omega
@[simp] theorem min_intD (S : Sto) (i j : Int) : biMin S [.int i, .int j] = some (.int (if j < i then j else i)) := rfl
@[simp] theorem add_T (xs ys : List Int) : opAdd (.tup (intD xs)) (.tup (intD ys)) = if xs.length + ys.length ≤ LINE then some (T (xs ++ ys)) else none := by simp [opAdd]
theorem behind_of_ok {a b : List Int} (ra : Red a) (rb : Red b) (hl : a.length ≤ 1000000 ∧ b.length ≤ 1000000) : M_behind_of [T a, T b] S = some (.ok (T (red (a ++ b))) S) := by
  have loop : ∃ k : Nat, L_behind_of_1 [some (T a), some (T b), some (.int 0)] S = some (.nx [some (T a), some (T b), some (.int k)] S) ∧ k ≤ a.length ∧ k ≤ b.length ∧ a.take (a.length - k) ++ b.drop k = red (a ++ b) := by
    obtain ⟨r, e, k, rfl, h1, h2, h3⟩ := while_run (c := mAndT (mB (mBin opLt (mVar 2) (mBI biMin (mConsA (mBI biLen (mConsA (mVar 0) mNilA)) (mConsA (mBI biLen (mConsA (mVar 1) mNilA)) mNilA))))) (mB (mBin opEq (mBinS opIx (mVar 0) (mBin opSub (mBin opSub (mBI biLen (mConsA (mVar 0) mNilA)) (mC (.int 1))) (mVar 2))) (mUn opNeg (mBinS opIx (mVar 1) (mVar 2))))))
      (b := mSet 2 (mBin opAdd (mVar 2) (mC (.int 1))))
      (fun n δ S' => S' = S ∧ ∃ k : Nat, n = a.length - k ∧ k ≤ a.length ∧ k ≤ b.length ∧ red (a.take (a.length - k) ++ b.drop k) = red (a ++ b) ∧ δ = [some (T a), some (T b), some (.int k)])
      (fun r => ∃ k : Nat, r = .nx [some (T a), some (T b), some (.int k)] S ∧ k ≤ a.length ∧ k ≤ b.length ∧ a.take (a.length - k) ++ b.drop k = red (a ++ b)) (by
        rintro n δ S' ⟨rfl, k, rfl, h1, h2, h3, rfl⟩
        by_cases hk : k < a.length ∧ k < b.length
        · have ea : a[a.length - 1 - k]? = some a[a.length - 1 - k] := List.getElem?_eq_getElem (by omega)
          have eb : b[k]? = some b[k] := List.getElem?_eq_getElem hk.2
          have ha := ix_T (S := S') (i := (a.length : Int) - 1 - k) (by omega) ea
          have hb := ix_T (S := S') (i := (k : Int)) rfl eb
          have hmin : (k : Int) < (if b.length < a.length then (b.length : Int) else a.length) := by split <;> omega
          by_cases q : a[a.length - 1 - k] = -b[k]
          · refine .inr ⟨S', by simp [hmin, ha, hb, q], .inl ⟨[some (T a), some (T b), some (.int (k + 1 : Nat))], S', a.length - (k + 1), .inl (by simp), by omega, rfl, k + 1, rfl, by omega, by omega, ?_, rfl⟩⟩
            rw [take_step ea hk.1, drop_step eb, List.append_assoc] at h3
            rw [← h3]
            exact (red_opp' _ _ q).symm
          · refine .inl ⟨S', by simp [hmin, ha, hb, q], k, rfl, h1, h2, ?_⟩
            rw [← h3]
            exact (red_id (behind_end ra rb ⟨h1, h2⟩ fun x y e1 _ e2 => by rw [ea] at e1; rw [eb] at e2; cases e1; cases e2; exact q)).symm
        · have hmin : ¬ (k : Int) < (if b.length < a.length then (b.length : Int) else a.length) := by split <;> omega
          refine .inl ⟨S', by simp [hmin], k, rfl, h1, h2, ?_⟩
          rw [← h3]
          refine (red_id (behind_end ra rb ⟨h1, h2⟩ fun x y e1 z e2 => ?_)).symm
          have := (List.getElem?_eq_some_iff.mp e2).1
          omega) (a.length - 0) [some (T a), some (T b), some (.int 0)] S ⟨rfl, 0, rfl, by omega, by omega, by simp, rfl⟩
    exact ⟨k, e, h1, h2, h3⟩
  obtain ⟨k, e, h1, h2, h3⟩ := loop
  have c1 := cut_to (xs := a) (i := (a.length : Int) - k) (k := a.length - k) (by omega) (by omega)
  have c2 := cut_from (xs := b) (i := (k : Int)) rfl h2
  have hln : a.length - k + (b.length - k) ≤ 16777216 := by omega
  simp [M_behind_of, e, c1, c2, LINE, hln, h3]
/-! ### parted, times_of -/
theorem cut_mid {xs : List Int} {i j : Int} {k l : Nat} (hi : i = k) (hj : j = l) (h : k ≤ l ∧ l ≤ xs.length) : cut (intD xs) (some i) (some j) = intD ((xs.drop k).take (l - k)) := by
  subst hi hj
  rw [cut_all]
  unfold cut sIx
  simp
  rw [if_neg (by omega), if_neg (by omega), Nat.min_eq_left (by omega : k ≤ xs.length), Nat.min_eq_left h.2]
theorem ends {r : List Int} (h : 2 ≤ r.length) : ∃ x s y, r = x :: (s ++ [y]) := by
  cases r with
  | nil => simp at h
  | cons x r =>
    have hr : r ≠ [] := fun z => by subst z; simp at h
    exact ⟨x, r.dropLast, r.getLast hr, by rw [List.dropLast_concat_getLast]⟩
/-- a course, parted in its handle and its ring part -/
structure Parts (w h r : List Int) : Prop where
  eq : w = h ++ r ++ inv h
  stop : r.length ≤ 1 ∨ ∃ x s y, r = x :: (s ++ [y]) ∧ x ≠ -y
  cyc : Red w → (∀ x ∈ w, x ≠ 0) → Red (r ++ r)
theorem parted_ok {w : List Int} (hl : w.length ≤ 2000) : ∃ h r, M_parted [T w] S = some (.ok (.tup [T h, T r]) S) ∧ Parts w h r := by
  have loop : ∃ h r : List Int, L_parted_1 [some (T w), some (.int 0)] S = some (.nx [some (T w), some (.int h.length)] S) ∧ Parts w h r := by
    obtain ⟨r0, e, h, r, rfl, ew, cy⟩ := while_run (c := mAndT (mB (mBin opLt (mBin opAdd (mBin opMul (mC (.int 2)) (mVar 1)) (mC (.int 1))) (mBI biLen (mConsA (mVar 0) mNilA)))) (mB (mBin opEq (mBinS opIx (mVar 0) (mVar 1)) (mUn opNeg (mBinS opIx (mVar 0) (mBin opSub (mBin opSub (mBI biLen (mConsA (mVar 0) mNilA)) (mC (.int 1))) (mVar 1)))))))
      (b := mSet 1 (mBin opAdd (mVar 1) (mC (.int 1))))
      (fun n δ S' => S' = S ∧ ∃ h r : List Int, n = r.length ∧ w = h ++ r ++ inv h ∧ δ = [some (T w), some (.int h.length)])
      (fun r0 => ∃ h r : List Int, r0 = .nx [some (T w), some (.int h.length)] S ∧ w = h ++ r ++ inv h ∧ (r.length ≤ 1 ∨ ∃ x s y, r = x :: (s ++ [y]) ∧ x ≠ -y)) (by
        rintro n δ S' ⟨rfl, h, r, rfl, ew, rfl⟩
        have hlen : w.length = 2 * h.length + r.length := by rw [ew]; simp [inv_length]; omega
        have hm : opMul (.int 2) (.int h.length) = some (.int (2 * h.length)) := by simp [opMul]
        by_cases hk : 2 ≤ r.length
        · obtain ⟨x, s, y, rfl⟩ := ends hk
          have ex : w[h.length]? = some x := by rw [ew]; simp
          have ey : w[w.length - 1 - h.length]? = some y := by
            rw [hlen, ew]
            have : 2 * h.length + (x :: (s ++ [y])).length - 1 - h.length = (h ++ x :: s).length := by simp; omega
            rw [this]
            have : h ++ x :: (s ++ [y]) ++ inv h = (h ++ x :: s) ++ (y :: inv h) := by simp
            rw [this, List.getElem?_append_right (Nat.le_refl _)]
            simp
          have hx := ix_T (S := S') (i := (h.length : Int)) rfl ex
          have hy := ix_T (S := S') (i := (w.length : Int) - 1 - h.length) (by simp at hlen; omega) ey
          have hlt : (2 : Int) * h.length + 1 < w.length := by simp at hlen; omega
          by_cases q : x = -y
          · refine .inr ⟨S', by simp [hm, hlt, hx, hy, q], .inl ⟨[some (T w), some (.int (h ++ [x]).length)], S', s.length, .inl (by simp), by simp; omega, rfl, h ++ [x], s, rfl, ?_, rfl⟩⟩
            rw [ew, inv_append, q]
            simp [inv]
          · exact .inl ⟨S', by simp [hm, hlt, hx, hy, q], h, _, rfl, ew, .inr ⟨x, s, y, rfl, q⟩⟩
        · have hlt : ¬ (2 : Int) * h.length + 1 < w.length := by omega
          exact .inl ⟨S', by simp [hm, hlt], h, r, rfl, ew, .inl (by omega)⟩) w.length [some (T w), some (.int 0)] S ⟨rfl, [], w, rfl, by simp [inv], rfl⟩
    refine ⟨h, r, e, ew, cy, fun rw nz => ?_⟩
    have rr : Red r := Red.right (u := h) (Red.left (v := inv h) (by rw [← ew]; exact rw))
    refine red_joint rr rr fun a b e1 e2 => ?_
    rcases cy with c | ⟨x, s, y, rfl, q⟩
    · cases r with
      | nil => simp at e1
      | cons x r =>
        have : r = [] := by simpa using c
        subst this
        simp at e1 e2
        subst e1 e2
        have := nz x (by rw [ew]; simp)
        omega
    · rw [← List.cons_append, List.getLast?_append] at e1
      simp at e1 e2
      subst e1 e2
      omega
  obtain ⟨h, r, e, p⟩ := loop
  refine ⟨h, r, ?_, p⟩
  have hlen : w.length = 2 * h.length + r.length := by rw [p.eq]; simp [inv_length]; omega
  have c1 := cut_to (xs := w) (i := (h.length : Int)) rfl (by omega)
  have c2 := cut_mid (xs := w) (i := (h.length : Int)) (j := (w.length : Int) - h.length) (k := h.length) (l := w.length - h.length) rfl (by omega) (by omega)
  have e1 : w.take h.length = h := by conv => lhs; rw [p.eq]; simp
  have e2 : (w.drop h.length).take (w.length - h.length - h.length) = r := by
    have : w.length - h.length - h.length = r.length := by omega
    rw [this]
    conv => lhs; rw [p.eq]
    simp
  rw [e1] at c1
  rw [e2] at c2
  simp [M_parted, e, c1, c2, LINE, D.pure, D.pures]
/-- so many times, taken back if below 0 -/
def pow (w : List Int) (m : Int) : List Int := if 0 ≤ m then rep m.toNat w else rep (-m).toNat (inv w)
@[simp] theorem abs_int (S : Sto) (i : Int) : biAbs S [.int i] = some (.int (if i < 0 then -i else i)) := rfl
theorem mul_T (xs : List Int) (n : Nat) (h : n ≤ 1000000) (hl : xs.length * n ≤ 1000000) : opMul (T xs) (.int n) = some (T (rep n xs)) := by
  have e : (List.replicate n (intD xs)).flatten = intD (rep n xs) := by
    induction n with
    | zero => rfl
    | succ n ih => rw [rep_succ, ← intD_app, ← ih (by omega) (by rw [Nat.mul_succ] at hl; omega)]; simp [List.replicate_succ]
  have h2 : xs.length * n ≤ 16777216 := by omega
  simp only [opMul, T, intD_len, LINE, Int.toNat_natCast, e]
  rw [if_pos ⟨by omega, h2⟩]
theorem times_of_ok {w : List Int} {m : Int} (rw' : Red w) (nz : ∀ x ∈ w, x ≠ 0) (hl : w.length ≤ 100) (hm : -10 ≤ m ∧ m ≤ 10) : M_times_of [T w, .int m] S = some (.ok (T (red (pow w m))) S) := by
  obtain ⟨h, r, e, p⟩ := parted_ok (S := S) (w := w) (by omega)
  have hlen : w.length = 2 * h.length + r.length := by rw [p.eq]; simp [inv_length]; omega
  have cy := p.cyc rw' nz
  have bh := back_of_ok (S := S) (xs := h) (by omega)
  have br := back_of_ok (S := S) (xs := r) (by omega)
  have two : opMul (.int 2) (.int h.length) = some (.int (2 * h.length)) := by simp [opMul]
  -- the ring part that is taken
  have fin : ∀ (q : List Int) (n : Nat), q.length = r.length → 1 ≤ n → n ≤ 10 → opMul (.tup (intD q)) (.int n) = some (T (rep n q)) ∧ opMul (.int q.length) (.int n) = some (.int (q.length * n)) ∧
      h.length + (rep n q).length + h.length ≤ 2000 ∧ (2 : Int) * h.length + q.length * n ≤ 2000 := fun q n hq h1 h2 => by
    have z : q.length * n ≤ 1000 := by
      have : q.length * n ≤ 100 * 10 := Nat.mul_le_mul (by omega) h2
      omega
    refine ⟨mul_T q n (by omega) (by omega), ?_, ?_, ?_⟩
    · simp only [opMul]; rw [if_pos (.inr (by omega))]
    · rw [rep_len, Nat.mul_comm]; omega
    · have : ((q.length * n : Nat) : Int) = (q.length : Int) * n := by simp
      omega
  have eqn : ∀ q : List Int, opEq (T q) (.tup []) = some (.bl (decide (q = []))) := fun q => eq_T q []
  by_cases hr : r = []
  · subst hr
    have hw : w = [] := by
      have e1 : w = h ++ inv h := by rw [p.eq]; simp
      have e2 := red_self_inv h
      rw [← e1, red_id rw'] at e2
      exact e2
    have hp : red (pow w m) = [] := by subst hw; unfold pow; split <;> simp [inv, rep_nil, red]
    have hi : inv [] = [] := rfl
    rw [hp]
    rw [hi] at br
    by_cases m0 : m < 0 <;> by_cases m1 : m = 0 <;> simp [M_times_of, e, m0, m1, br, eqn, LINE, intD_nil, D.pure, D.pures]
  · rcases Int.lt_trichotomy m 0 with m0 | m0 | m0
    · obtain ⟨n, rfl⟩ : ∃ n : Nat, m = -((n + 1 : Nat) : Int) := ⟨(-m).toNat - 1, by omega⟩
      obtain ⟨f1, f2, f3, f4⟩ := fin (inv r) (n + 1) (inv_length r) (by omega) (by omega)
      have hne : inv r ≠ [] := fun z => hr (inv_eq_nil z)
      have wi : inv w = h ++ inv r ++ inv h := by rw [p.eq]; simp [inv_append, inv_inv]
      have hp : red (pow w (-((n + 1 : Nat) : Int))) = h ++ (rep (n + 1) (inv r) ++ inv h) := by
        unfold pow
        rw [if_neg (by omega), show (- -((n + 1 : Nat) : Int)).toNat = n + 1 by omega, wi]
        refine rep_red hne (by rw [← wi]; exact Red.inv rw') ?_ n
        rw [← inv_append]; exact Red.inv cy
      rw [hp]
      have g1 : (if -((n + 1 : Nat) : Int) < 0 then - -((n + 1 : Nat) : Int) else -((n + 1 : Nat) : Int)) = ((n + 1 : Nat) : Int) := by rw [if_pos m0]; omega
      have g2 : -((n + 1 : Nat) : Int) ≠ 0 := by omega
      have g3 : ¬ (2000 : Int) < 2 * h.length + (inv r).length * ((n + 1 : Nat) : Int) := by omega
      have g4 : h.length + (rep (n + 1) (inv r)).length ≤ 16777216 := by omega
      have g5 : h.length + (rep (n + 1) (inv r)).length + (inv h).length ≤ 16777216 := by rw [inv_length]; omega
      generalize ((n + 1 : Nat) : Int) = z at *
      have z0 : 0 < z := by omega
      have z1 : ¬ z = 0 := by omega
      simp [M_times_of, e, z0, z1, br, bh, eqn, hne, two, f1, f2, g3, g4, g5, LINE, D.pure, D.pures]
    · subst m0
      have hp : red (pow w 0) = [] := by unfold pow; simp [rep_zero, red]
      rw [hp]
      simp [M_times_of, e, eqn, LINE, intD_nil, D.pure, D.pures]
    · obtain ⟨n, rfl⟩ : ∃ n : Nat, m = ((n + 1 : Nat) : Int) := ⟨m.toNat - 1, by omega⟩
      obtain ⟨f1, f2, f3, f4⟩ := fin r (n + 1) rfl (by omega) (by omega)
      have hp : red (pow w ((n + 1 : Nat) : Int)) = h ++ (rep (n + 1) r ++ inv h) := by
        unfold pow
        rw [if_pos (by omega), Int.toNat_natCast]
        conv => lhs; rw [p.eq]
        exact rep_red hr (by rw [← p.eq]; exact rw') cy n
      rw [hp]
      have g0 : ¬ ((n + 1 : Nat) : Int) < 0 := by omega
      have g2 : ((n + 1 : Nat) : Int) ≠ 0 := by omega
      have g3 : ¬ (2000 : Int) < 2 * h.length + r.length * ((n + 1 : Nat) : Int) := by omega
      have g4 : h.length + (rep (n + 1) r).length ≤ 16777216 := by omega
      have g5 : h.length + (rep (n + 1) r).length + (inv h).length ≤ 16777216 := by rw [inv_length]; omega
      generalize ((n + 1 : Nat) : Int) = z at *
      simp [M_times_of, e, g0, br, bh, eqn, hr, g2, two, f1, f2, g3, g4, g5, LINE, D.pure, D.pures]
/-! ### the defs above them -/
theorem Good.le {l : Int} {xs : List Int} (g : Good l xs) : xs.length ≤ 2000 := g.1
theorem Good.big {l : Int} {xs : List Int} (g : Good l xs) : xs.length ≤ 1000000 := Nat.le_trans g.1 (by omega)
theorem Good.red {l : Int} {xs : List Int} (g : Good l xs) : Good l (red xs) := ⟨Nat.le_trans (red_len xs) g.1, fun x h => g.2 x (red_mem h)⟩
theorem is_plain_ok {l : Int} {xs : List Int} (h : 1 ≤ l ∧ l ≤ 8) (g : Good l xs) : M_is_plain [.int l, T xs] S = some (.ok (.bl (decide ((red xs).length = xs.length))) S) := by
  simp [M_is_plain, need_course_ok h g, plain_of_ok g.big]
  omega
theorem plain_course_ok {l : Int} {xs : List Int} (h : 1 ≤ l ∧ l ≤ 8) (g : Good l xs) : M_plain_course [.int l, T xs] S = some (.ok (T (red xs)) S) := by
  simp [M_plain_course, need_course_ok h g, plain_of_ok g.big]
theorem are_alike_ok {l : Int} {xs ys : List Int} (h : 1 ≤ l ∧ l ≤ 8) (g : Good l xs) (g2 : Good l ys) : M_are_alike [.int l, T xs, T ys] S = some (.ok (.bl (decide (red xs = red ys))) S) := by
  simp [M_are_alike, need_course_ok h g, need_course_ok h g2, plain_of_ok g.big, plain_of_ok g2.big]
theorem told_course_ok {xs : List Int} (h : xs.length ≤ 2000) : M_told_course [T xs] S = some (.ok (T xs) S) := by
  have : ¬ (2000 : Int) < xs.length := by omega
  simp [M_told_course, this]
theorem behind_ok {l : Int} {xs ys : List Int} (h : 1 ≤ l ∧ l ≤ 8) (g : Good l xs) (g2 : Good l ys) (hl : (red (xs ++ ys)).length ≤ 2000) : M_behind [.int l, T xs, T ys] S = some (.ok (T (red (xs ++ ys))) S) := by
  have e := behind_of_ok (S := S) (red_red xs) (red_red ys) ⟨g.red.big, g2.red.big⟩
  rw [red_both] at e
  simp [M_behind, need_course_ok h g, need_course_ok h g2, plain_of_ok g.big, plain_of_ok g2.big, e, told_course_ok hl]
theorem back_ok {l : Int} {xs : List Int} (h : 1 ≤ l ∧ l ≤ 8) (g : Good l xs) : M_back [.int l, T xs] S = some (.ok (T (red (inv xs))) S) := by
  simp [M_back, need_course_ok h g, plain_of_ok g.big, back_of_ok g.red.big, red_inv]
theorem times_ok {l m : Int} {xs : List Int} (h : 1 ≤ l ∧ l ≤ 8) (g : Good l xs) (hl : xs.length ≤ 100) (hm : -10 ≤ m ∧ m ≤ 10) : M_times [.int l, T xs, .int m] S = some (.ok (T (red (pow (red xs) m))) S) := by
  have e := times_of_ok (S := S) (w := red xs) (m := m) (red_red xs) (fun x hx => (g.red.2 x hx).1) (Nat.le_trans (red_len xs) hl) hm
  have h1 : -1000000000 ≤ m := by omega
  have h2 : m ≤ 1000000000 := by omega
  simp [M_times, need_course_ok h g, plain_of_ok g.big, is_among_ok, h1, h2, e]
/-! ### order -/
def kp (x : Int) : D := .tup [.int (if x < 0 then -x else x), .bl (decide (x < 0))]
def keyT (xs : List Int) : D := .tup [.int xs.length, .tup (xs.map kp)]
def kn (x : Int) : Int := 2 * (if x < 0 then -x else x) + (if x < 0 then 1 else 0)
def keyL (xs : List Int) : D := .tup [.int xs.length, .lst (intD (xs.map kn))]
theorem kps_pure (xs : List Int) : D.pures (xs.map kp) = true := by
  induction xs with
  | nil => rfl
  | cons x xs ih => simp [D.pures, kp, D.pure, ih]
theorem kps_ok (xs : List Int) (n : Nat) : D.okNs (xs.map kp) (n + 1) = true := by
  induction xs with
  | nil => rfl
  | cons x xs ih => simp [D.okNs, kp, D.okN, ih]
theorem kps_alike (xs ys : List Int) : alikeDs (xs.map kp) (ys.map kp) = true := by
  induction xs generalizing ys with
  | nil => simp [alikeDs]
  | cons x xs ih => cases ys with
    | nil => simp [alikeDs]
    | cons y ys => simp [alikeDs, kp, alikeD]; exact ih ys
theorem intD_alike (xs ys : List Int) : alikeDs (intD xs) (intD ys) = true := by
  induction xs generalizing ys with
  | nil => simp [intD, alikeDs]
  | cons x xs ih => cases ys with
    | nil => simp [intD, alikeDs]
    | cons y ys => simp only [intD_cons, alikeDs, alikeD, Bool.true_and]; exact ih ys
theorem kp_eq (x y : Int) : eqD (kp x) (kp y) = decide (x = y) := by
  simp only [kp, eqD, eqDs, Bool.and_true]
  by_cases h1 : x < 0 <;> by_cases h2 : y < 0 <;> simp [h1, h2, Bool.beq_eq_decide_eq] <;> omega
theorem kps_eq (xs ys : List Int) : eqDs (xs.map kp) (ys.map kp) = decide (xs = ys) := by
  induction xs generalizing ys with
  | nil => cases ys <;> simp [eqDs]
  | cons x xs ih => cases ys with
    | nil => simp [eqDs]
    | cons y ys => simp [eqDs, kp_eq, ih, Bool.decide_and]
theorem kn_inj (x y : Int) : kn x = kn y ↔ x = y := by unfold kn; split <;> split <;> omega
theorem kp_lt (x y : Int) : ltD (kp x) (kp y) = decide (kn x < kn y) := by
  simp only [kp, ltD, ltDs, eqD, kn]
  by_cases h1 : x < 0 <;> by_cases h2 : y < 0 <;> rw [Bool.eq_iff_iff] <;> simp [h1, h2, Bool.beq_eq_decide_eq] <;> omega
theorem kps_lt (xs ys : List Int) : ltDs (xs.map kp) (ys.map kp) = ltDs (intD (xs.map kn)) (intD (ys.map kn)) := by
  induction xs generalizing ys with
  | nil => cases ys <;> simp [ltDs, intD]
  | cons x xs ih => cases ys with
    | nil => simp [ltDs, intD]
    | cons y ys =>
      have := ih ys
      simp only [intD] at this
      simp only [List.map_cons, ltDs, intD, kp_eq, eqD_int, kn_inj, kp_lt, ltD, this]
theorem key_of_ok {xs : List Int} (h : xs.length ≤ 2000) : M_key_of [T xs] S = some (.ok (keyT xs) S) := by
  have e := compL_run (t := .name 1) (c := mTrue) (e := mTup (mConsA (mBI biAbs (mConsA (mVar 1) mNilA)) (mConsA (mBin opLt (mVar 1) (mC (.int 0))) mNilA))) (δ := wipeD [some (T xs), none] [1]) (S := S) (fun _ => true)
    (fun d => match d with | .int x => kp x | _ => .non) (intD xs) [] (by
    intro d hd
    obtain ⟨x, _, rfl⟩ := List.mem_map.mp hd
    exact ⟨[some (T xs), some (.int x)], by simp [wipeD], rfl, fun _ => by simp [LINE, kp]⟩)
  have e2 : (List.map (fun d => match d with | .int x => kp x | _ => .non) (intD xs)) = xs.map kp := by simp [intD]
  have hf : List.filter (fun _ => true) (intD xs) = intD xs := List.filter_eq_self.mpr fun _ _ => rfl
  rw [hf, e2] at e
  have hl : xs.length ≤ 16777216 := by omega
  have hp : D.pure (.tup (xs.map kp)) = true := by simpa [D.pure] using kps_pure xs
  simp [M_key_of, LINE, hl, e, keyT, D.pure, D.pures, kps_pure]
/-- which is before, by numbers -/
def before (xs ys : List Int) : Bool := if xs.length = ys.length then (if xs = ys then false else ltDs (intD (xs.map kn)) (intD (ys.map kn))) else decide (xs.length < ys.length)
theorem keyT_ok (xs : List Int) : (keyT xs).ok = true := by
  show D.okN _ 60 = true
  simp [keyT, D.okN, D.okNs, kps_ok]
theorem keyL_ok (xs : List Int) : (keyL xs).ok = true := by
  show D.okN _ 60 = true
  simp [keyL, D.okN, D.okNs, okNs_intD]
theorem keyT_lt (xs ys : List Int) : opLt (keyT xs) (keyT ys) = some (.bl (before xs ys)) := by
  have ha : alikeD (keyT xs) (keyT ys) = true := by simp [keyT, alikeD, alikeDs, kps_alike xs ys]
  have hn : nonD (keyT xs) = false := rfl
  show opLtD (keyT xs) (keyT ys) = _
  unfold opLtD
  rw [keyT_ok, keyT_ok, ha, hn]
  simp only [Bool.not_false, Bool.and_self, if_true, before, keyT, ltD, ltDs, eqD_int, eqD, kps_eq, kps_lt]
  by_cases h : xs.length = ys.length
  · by_cases h2 : xs = ys
    · simp [h2]
    · simp [h, h2]
  · have : ¬ (xs.length : Int) = ys.length := by omega
    simp [h, this]
theorem map_kn {xs ys : List Int} : xs.map kn = ys.map kn ↔ xs = ys := by
  constructor
  · intro h
    induction xs generalizing ys with
    | nil => cases ys with
      | nil => rfl
      | cons y ys => simp at h
    | cons x xs ih => cases ys with
      | nil => simp at h
      | cons y ys => simp only [List.map_cons, List.cons.injEq, kn_inj] at h; rw [h.1, ih h.2]
  · rintro rfl; rfl
theorem keyL_lt (xs ys : List Int) : opLt (keyL xs) (keyL ys) = some (.bl (before xs ys)) := by
  have ha : alikeD (keyL xs) (keyL ys) = true := by simp [keyL, alikeD, alikeDs, intD_alike]
  have hn : nonD (keyL xs) = false := rfl
  show opLtD (keyL xs) (keyL ys) = _
  unfold opLtD
  rw [keyL_ok, keyL_ok, ha, hn]
  simp only [Bool.not_false, Bool.and_self, if_true, before, keyL, ltD, ltDs, eqD_int, eqD, eqDs_intD, map_kn]
  by_cases h : xs.length = ys.length
  · by_cases h2 : xs = ys
    · simp [h2]
    · simp [h, h2]
  · have : ¬ (xs.length : Int) = ys.length := by omega
    simp [h, this]
theorem is_before_ok {l : Int} {xs ys : List Int} (h : 1 ≤ l ∧ l ≤ 8) (g : Good l xs) (g2 : Good l ys) : M_is_before [.int l, T xs, T ys] S = some (.ok (.bl (before xs ys)) S) := by
  simp [M_is_before, need_course_ok h g, need_course_ok h g2, key_of_ok g.1, key_of_ok g2.1, keyT_lt]
theorem mul2 (i : Int) : opMul (.int 2) (.int i) = some (.int (2 * i)) := by simp only [opMul]; rw [if_pos (.inl (by decide))]
@[simp] theorem int_bl (S : Sto) (b : Bool) : biInt S [.bl b] = some (.int (if b then 1 else 0)) := rfl
@[simp] theorem int_int (S : Sto) (i : Int) : biInt S [.int i] = some (.int i) := rfl
theorem law_key_ok {xs : List Int} (h : xs.length ≤ 2000) : M__law_key [T xs] S = some (.ok (keyL xs) S) := by
  have e := compL_run (t := .name 1) (c := mTrue) (e := mBin opAdd (mBin opMul (mC (.int 2)) (mBI biAbs (mConsA (mVar 1) mNilA))) (mBI biInt (mConsA (mBin opLt (mVar 1) (mC (.int 0))) mNilA))) (δ := wipeD [some (T xs), none] [1]) (S := S) (fun _ => true)
    (fun d => match d with | .int x => .int (kn x) | _ => .non) (intD xs) [] (by
    intro d hd
    obtain ⟨x, _, rfl⟩ := List.mem_map.mp hd
    exact ⟨[some (T xs), some (.int x)], by simp [wipeD], rfl, fun _ => by simp [mul2, kn]⟩)
  have e2 : (List.map (fun d => match d with | .int x => .int (kn x) | _ => .non) (intD xs)) = intD (xs.map kn) := by simp [intD]
  have hf : List.filter (fun _ => true) (intD xs) = intD xs := List.filter_eq_self.mpr fun _ _ => rfl
  rw [hf, e2] at e
  have hl : xs.length ≤ 16777216 := by omega
  simp [M__law_key, LINE, hl, e, keyL, D.pure, D.pures]
/-! ### the law's own -/
@[simp] theorem list_T (S : Sto) (xs : List Int) : biList S [T xs] = some (L xs) := rfl
@[simp] theorem len_L (S : Sto) (xs : List Int) : biLen S [L xs] = some (.int xs.length) := by simp [biLen, seqOf]
theorem ix_L {xs : List Int} {n : Nat} {a : Int} {i : Int} (hi : i = n) (h : xs[n]? = some a) : opIx S (L xs) (.int i) = some (.int a) := ix_T (S := S) hi h
@[simp] theorem add_L (xs ys : List Int) : opAdd (.lst (intD xs)) (.lst (intD ys)) = if xs.length + ys.length ≤ LINE then some (L (xs ++ ys)) else none := by simp [opAdd]
theorem cat_last (u : List Int) (h : u ≠ []) : ∃ u' x, u = u' ++ [x] := ⟨u.dropLast, u.getLast h, (List.dropLast_concat_getLast h).symm⟩
theorem law_plain_ok {xs : List Int} (h : xs.length ≤ 1000000) : M__law_plain [T xs] S = some (.ok (T (red xs)) S) := by
  by_cases h0 : xs = []
  · subst h0
    have : L__law_plain_1 [some (.tup (intD [])), some (.lst (intD [])), some (.int (-2))] S = some (.nx [some (.tup (intD [])), some (.lst (intD [])), some (.int (-2))] S) := by
      unfold L__law_plain_1
      rw [mWhile_eq]
      simp
    simp [M__law_plain, this, red]
  · obtain ⟨u0, x0, e0⟩ := cat_last xs h0
    have loop : ∃ z, L__law_plain_1 [some (T xs), some (L xs), some (.int (xs.length - 2))] S = some (.nx [some (T xs), some (L (red xs)), z] S) := by
      obtain ⟨r0, e, z, rfl⟩ := while_run (c := mB (mBin opGe (mVar 2) (mC (.int 0))))
        (b := mSeq (mIfS (mAndT (mB (mBin opLt (mBin opAdd (mVar 2) (mC (.int 1))) (mBI biLen (mConsA (mVar 1) mNilA)))) (mB (mBin opEq (mBinS opIx (mVar 1) (mVar 2)) (mUn opNeg (mBinS opIx (mVar 1) (mBin opAdd (mVar 2) (mC (.int 1)))))))) (mSet 1 (mBin opAdd (mSlice (mVar 1) none (some (mVar 2))) (mSlice (mVar 1) (some (mBin opAdd (mVar 2) (mC (.int 2)))) none))) mPass) (mSet 2 (mBin opSub (mVar 2) (mC (.int 1)))))
        (fun n δ S' => S' = S ∧ ∃ u t : List Int, n = u.length ∧ xs = u ++ t ∧ δ = [some (T xs), some (L (u ++ red t)), some (.int ((u.length : Int) - 1))])
        (fun r0 => ∃ z, r0 = .nx [some (T xs), some (L (red xs)), z] S) (by
          rintro n δ S' ⟨rfl, u, t, rfl, ex, rfl⟩
          by_cases hu : u = []
          · subst hu
            have : xs = t := by simpa using ex
            subst this
            exact .inl ⟨S', by simp, _, rfl⟩
          · obtain ⟨u, x, rfl⟩ := cat_last u hu
            have hlen : xs.length = u.length + 1 + t.length := by rw [ex]; simp; omega
            have rt := red_len t
            have hz : ((u ++ [x]).length : Int) - 1 = u.length := by simp
            refine .inr ⟨S', by simp, .inl ⟨[some (T xs), some (L (u ++ red (x :: t))), some (.int ((u.length : Int) - 1))], S', u.length, .inl ?_, by simp, rfl, u, x :: t, rfl, by rw [ex]; simp, rfl⟩⟩
            have el : u ++ [x] ++ red t = u ++ x :: red t := by simp
            rw [hz, el]
            have ix1 := ix_L (S := S') (xs := u ++ x :: red t) (i := (u.length : Int)) (n := u.length) (a := x) rfl (by simp)
            cases hr : red t with
            | nil =>
              have f : red (x :: t) = [x] := by show cons1 x (red t) = _; rw [hr]; rfl
              rw [f]
              simp
            | cons y ys =>
              rw [hr] at ix1 rt
              have ix2 := ix_L (S := S') (xs := u ++ x :: y :: ys) (i := (u.length : Int) + 1) (n := u.length + 1) (a := y) (by omega) (by rw [List.getElem?_append_right (by omega)]; simp)
              have hlt : (u.length : Int) + 1 < (u ++ x :: y :: ys).length := by simp; omega
              by_cases q : x = -y
              · have f : red (x :: t) = ys := by show cons1 x (red t) = _; rw [hr, cons1_c, if_pos q]
                rw [f]
                subst q
                have c1 := cut_to (xs := u ++ -y :: y :: ys) (i := (u.length : Int)) (k := u.length) rfl (by simp)
                have c2 := cut_from (xs := u ++ -y :: y :: ys) (i := (u.length : Int) + 2) (k := u.length + 2) (by omega) (by simp)
                have d1 : (u ++ -y :: y :: ys).take u.length = u := by simp
                have d2 : (u ++ -y :: y :: ys).drop (u.length + 2) = ys := by rw [List.drop_append]; simp
                rw [d1] at c1
                rw [d2] at c2
                have hz2 : u.length + ys.length ≤ 16777216 := by simp at rt; omega
                simp only [List.length_append, List.length_cons] at hlt
                push_cast at hlt
                simp [hlt, ix1, ix2, c1, c2, LINE, hz2]
              · have f : red (x :: t) = x :: y :: ys := by show cons1 x (red t) = _; rw [hr, cons1_c, if_neg q]
                rw [f]
                simp only [List.length_append, List.length_cons] at hlt
                push_cast at hlt
                simp [hlt, ix1, ix2, q]) u0.length [some (T xs), some (L xs), some (.int (xs.length - 2))] S ⟨rfl, u0, [x0], rfl, e0, by rw [e0]; simp [red, cons1]; omega⟩
      exact ⟨z, e⟩
    obtain ⟨z, e⟩ := loop
    simp [M__law_plain, e]
@[simp] theorem add_one (a : Int) (xs : List Int) : opAdd (.tup [.int a]) (.tup (intD xs)) = if 1 + xs.length ≤ LINE then some (T (a :: xs)) else none := by
  have := add_T [a] xs
  exact this
theorem law_back_ok {xs : List Int} (h : xs.length ≤ 1000000) : M__law_back [T xs] S = some (.ok (T (inv xs)) S) := by
  have loop : ∃ z, L__law_back_1 [some (T xs), some (T []), none] S = some (.nx [some (T xs), some (T (inv xs)), z] S) := by
    obtain ⟨δ', S', e, rfl, ys, acc, z, e1, e2, _, rfl⟩ := forL_run (t := .name 2) (b := mSet 1 (mBin opAdd (mTup (mConsA (mUn opNeg (mVar 2)) mNilA)) (mVar 1)))
      (fun ds δ S' => S' = S ∧ ∃ ys acc z, ds = intD ys ∧ inv xs = inv ys ++ acc ∧ acc.length + ys.length ≤ 1000000 ∧ δ = [some (T xs), some (T acc), z]) (by
        rintro d ds δ S' ⟨rfl, ys, acc, z, e, e2, hl, rfl⟩
        cases ys with
        | nil => simp [intD_nil] at e
        | cons x ys =>
          simp only [intD_cons, List.cons.injEq] at e
          obtain ⟨rfl, rfl⟩ := e
          simp only [List.length_cons] at hl
          have hz : 1 + acc.length ≤ 16777216 := by omega
          refine ⟨[some (T xs), some (T acc), some (.int x)], by simp, [some (T xs), some (T (-x :: acc)), some (.int x)], S', .inl (by simp [LINE, hz]), rfl, ys, -x :: acc, _, rfl, ?_, by simp; omega, rfl⟩
          rw [e2, inv_cons]; simp) (intD xs) [some (T xs), some (T []), none] S ⟨rfl, xs, [], none, rfl, by simp, by simpa using h, rfl⟩
    have : ys = [] := by simpa [intD] using e1.symm
    subst this
    have : acc = inv xs := by rw [e2]; rfl
    subst this
    exact ⟨z, by simp [L__law_back_1] at e ⊢; exact e⟩
  obtain ⟨z, e⟩ := loop
  have e0 : T [] = .tup [] := rfl
  rw [e0] at e
  simp [M__law_back, LINE, e]
theorem rangeD_len (a : Int) (n : Nat) : (rangeD a n).length = n := by simp [rangeD]
theorem law_many_ok {xs : List Int} {m : Int} (h : xs.length ≤ 100) (hm : -10 ≤ m ∧ m ≤ 10) : M__law_many [T xs, .int m] S = some (.ok (T (red (pow xs m))) S) := by
  have main : ∀ (one : List Int) (n : Nat), one.length ≤ 100 → n ≤ 10 → (if m < 0 then -m else m) = (n : Int) → ∃ z, L__law_many_1 [some (T xs), some (.int m), none, some (T []), some (T one)] S = some (.nx [some (T xs), some (.int m), z, some (T (red (rep n one))), some (T one)] S) := by
    intro one n h1 h2 hn
    obtain ⟨δ', S', e, rfl, i, z, e1, rfl⟩ := forL_run (t := .name 2) (b := mSet 3 (mCall M__law_plain (mConsA (mBin opAdd (mVar 3) (mVar 4)) mNilA)))
      (fun ds δ S' => S' = S ∧ ∃ i z, i + ds.length = n ∧ δ = [some (T xs), some (.int m), z, some (T (red (rep i one))), some (T one)]) (by
        rintro d ds δ S' ⟨rfl, i, z, e, rfl⟩
        simp only [List.length_cons] at e
        have hl : (red (rep i one)).length ≤ 1000 := by
          refine Nat.le_trans (red_len _) ?_
          rw [rep_len]
          exact Nat.mul_le_mul (by omega : i ≤ 10) h1
        have hz : (red (rep i one)).length + one.length ≤ 16777216 := by omega
        have lp := law_plain_ok (S := S') (xs := red (rep i one) ++ one) (by simp; omega)
        rw [red_left, ← rep_snoc] at lp
        exact ⟨[some (T xs), some (.int m), some d, some (T (red (rep i one))), some (T one)], by simp, [some (T xs), some (.int m), some d, some (T (red (rep (i + 1) one))), some (T one)], S', .inl (by simp [LINE, hz, lp]), rfl, i + 1, some d, by omega, rfl⟩)
      (rangeD 0 n) [some (T xs), some (.int m), none, some (T []), some (T one)] S ⟨rfl, 0, none, by rw [rangeD_len]; omega, by rw [rep_zero]; rfl⟩
    have : i = n := by simpa using e1
    subst this
    have hb : (i : Int).natAbs < 4611686018427387904 := by omega
    refine ⟨z, ?_⟩
    simp only [L__law_many_1, s_mFor, s_mItRange1, s_mBI, s_mConsA, s_mVar, s_mNilA, List.getElem?_cons_succ, List.getElem?_cons_zero, bEA_ok, bAA_ok, bA_ok, bE_ok, abs_int, hn, Option.map_some]
    rw [if_pos hb]
    simpa using e
  have bk := law_back_ok (S := S) (xs := xs) (by omega)
  by_cases m0 : 0 < m
  · obtain ⟨z, e⟩ := main xs m.toNat h (by omega) (by rw [if_neg (by omega)]; omega)
    have hp : pow xs m = rep m.toNat xs := by unfold pow; rw [if_pos (by omega)]
    have e0 : T [] = .tup [] := rfl
    rw [e0] at e
    simp [M__law_many, LINE, m0, e, hp]
  · obtain ⟨z, e⟩ := main (inv xs) (-m).toNat (by rw [inv_length]; exact h) (by omega) (by split <;> omega)
    have hp : pow xs m = rep (-m).toNat (inv xs) := by
      unfold pow
      split
      · have : m = 0 := by omega
        subst this; rfl
      · rfl
    have e0 : T [] = .tup [] := rfl
    rw [e0] at e
    simp [M__law_many, LINE, m0, bk, e, hp]
theorem pow_red (xs : List Int) (m : Int) : red (pow (red xs) m) = red (pow xs m) := by
  unfold pow
  split
  · exact red_rep_red _ _
  · rw [← red_inv]; exact red_rep_red _ _
end
end LM

set_option linter.all false
set_option maxRecDepth 10000
/-! # LQ: the draws -/
namespace LM
open PL PW
section
variable {R : Sto}
theorem mul_small {i j : Int} (h : i.natAbs < 18446744073709551616) : opMul (.int i) (.int j) = some (.int (i * j)) := by simp only [opMul]; rw [if_pos (.inl h)]
theorem mul_small2 {i j : Int} (h : j.natAbs < 18446744073709551616) : opMul (.int i) (.int j) = some (.int (i * j)) := by simp only [opMul]; rw [if_pos (.inr h)]
theorem mod_pos {i j : Int} (h : 0 < j) : opMod (.int i) (.int j) = some (.int (i % j)) := by simp only [opMod]; rw [if_pos h]
theorem div_pos {i j : Int} (h : 0 < j) (h2 : j.natAbs < 1073741824) : opDiv (.int i) (.int j) = some (.int (i / j)) := by simp only [opDiv]; rw [if_pos ⟨h, h2⟩]
@[simp] theorem fold_intD (c : List Int) : List.map D.int c = intD c := rfl
@[simp] theorem lawOf_0 (c : List Int) (k : Nat) (l : List Int) : lawOf (.law c k l :: R) (.ref 0) = some (0, c, k, l) := rfl
theorem cell_in {c : List Int} (k : Nat) (h : c ≠ []) : ∃ v, opIx R (L c) (.int ((k : Int) % (c.length : Int))) = some (.int v) := by
  have hp : 0 < c.length := List.length_pos_iff.mpr h
  have hl : k % c.length < c.length := Nat.mod_lt _ hp
  exact ⟨_, ix_L (i := (k : Int) % (c.length : Int)) (n := k % c.length) (by simp) (List.getElem?_eq_getElem hl)⟩
theorem next_ok (c : List Int) (k : Nat) (l : List Int) {many : Int} (hm : 0 < many ∧ many < 1073741824) (hk : k < 1000000000) :
    ∃ v k' l', M__law_next [.ref 0, .int many] (.law c k l :: R) = some (.ok (.int v) (.law c k' l' :: R)) ∧ 0 ≤ v ∧ v < many ∧ k' ≤ k + 1 := by
  have hd : ∀ i : Int, 0 ≤ i % many ∧ i % many < many := fun i => ⟨Int.emod_nonneg i (by omega), Int.emod_lt_of_pos i hm.1⟩
  have dv : ∀ i, opDiv (.int i) (.int many) = some (.int (i / many)) := fun i => div_pos hm.1 (by omega)
  have md : ∀ i, opMod (.int i) (.int many) = some (.int (i % many)) := fun i => mod_pos hm.1
  cases l with
  | cons h t =>
    refine ⟨h % many, k, if h / many = 0 then t else (h / many) :: t, ?_, (hd h).1, (hd h).2, by omega⟩
    by_cases q : h / many = 0 <;> simp [M__law_next, dv, md, q]
  | nil =>
    have cell : ∃ v, (mIf (mB (mBin opNe (mLawCells (mVar 0)) (mLst mNilA))) (mBinS opIx (mLawCells (mVar 0)) (mBin opMod (mVar 2) (mBI biLen (mConsA (mLawCells (mVar 0)) mNilA)))) (mC (.int 0))) [some (.ref 0), some (.int many), some (.int k), none, none, none] (.law c (k + 1) [] :: R) = some (.ok (.int v) (.law c (k + 1) [] :: R)) := by
      by_cases hc : c = []
      · subst hc; exact ⟨0, by simp [LINE]⟩
      · obtain ⟨v, hv⟩ := cell_in (R := .law c (k + 1) [] :: R) k hc
        have hp : (0 : Int) < c.length := by have := List.length_pos_iff.mpr hc; omega
        exact ⟨v, by simp [hc, LINE, mod_pos hp, hv]⟩
    obtain ⟨v, hv⟩ := cell
    have m1 : ∀ i j : Int, opMul (.int (i % 2147483629)) (.int j) = some (.int (i % 2147483629 * j)) := fun i j => mul_small (by omega)
    have m2 : ∀ j : Int, opMul (.int 7919) (.int j) = some (.int (7919 * j)) := fun j => mul_small (by decide)
    have m3 : ∀ j : Int, opMul (.int 104729) (.int j) = some (.int (104729 * j)) := fun j => mul_small (by decide)
    have m4 : opMul (.int (7919 * (k : Int))) (.int k) = some (.int (7919 * (k : Int) * k)) := mul_small2 (by omega)
    have m5 : ∀ i j : Int, opMul (.int (i % 2147483647)) (.int j) = some (.int (i % 2147483647 * j)) := fun i j => mul_small (by omega)
    have n1 : ∀ i : Int, opMod (.int i) (.int 2147483629) = some (.int (i % 2147483629)) := fun i => mod_pos (by decide)
    have n2 : ∀ i : Int, opMod (.int i) (.int 2147483647) = some (.int (i % 2147483647)) := fun i => mod_pos (by decide)
    have n3 : ∀ i : Int, opDiv (.int i) (.int 13) = some (.int (i / 13)) := fun i => div_pos (by decide) (by decide)
    have hk0 : (0 : Int) ≤ (k : Int) + 1 := by omega
    have hk1 : ((k : Int) + 1).toNat = k + 1 := by omega
    have key : ∃ x : Int, M__law_next [.ref 0, .int many] (.law c k [] :: R) = some (.ok (.int (x % many)) (.law c (k + 1) [] :: R)) := by
      refine ⟨((v % 2147483629 * (2 * (k : Int) + 3) + 7919 * (k : Int) * k + 104729 * (k : Int) + 31) % 2147483647) * ((v % 2147483629 * (2 * (k : Int) + 3) + 7919 * (k : Int) * k + 104729 * (k : Int) + 31) % 2147483647) % 2147483629 * 48271 % 2147483647 / 13, ?_⟩
      simp only [M__law_next, s_mFn, s_mSeq]
      simp [hk0, hk1, -s_mIf]
      rw [hv]
      simp [m1, m2, m3, m4, m5, n1, n2, n3, md, mul2]
    obtain ⟨x, hx⟩ := key
    exact ⟨_, _, _, hx, (hd x).1, (hd x).2, Nat.le_refl _⟩
theorem of_ok (c : List Int) (k : Nat) (l : List Int) {xs : List Int} (hx : xs ≠ []) (hl : xs.length < 100000) (hk : k < 1000000000) (q : D) (hq : q = L xs ∨ q = T xs) :
    ∃ v k' l', M__law_of [.ref 0, q] (.law c k l :: R) = some (.ok (.int v) (.law c k' l' :: R)) ∧ v ∈ xs ∧ k' ≤ k + 1 := by
  have hp : 0 < xs.length := List.length_pos_iff.mpr hx
  obtain ⟨v, k', l', e, h1, h2, h3⟩ := next_ok (R := R) c k l (many := xs.length) ⟨by omega, by omega⟩ hk
  have hv : v.toNat < xs.length := by omega
  have ix : opIx (.law c k' l' :: R) q (.int v) = some (.int xs[v.toNat]) := by
    rcases hq with rfl | rfl
    · exact ix_L (n := v.toNat) (by omega) (List.getElem?_eq_getElem hv)
    · exact ix_T (n := v.toNat) (by omega) (List.getElem?_eq_getElem hv)
  have ln : ∀ S, biLen S [q] = some (.int xs.length) := fun S => by rcases hq with rfl | rfl <;> simp
  have hpu : q.pure = true := by rcases hq with rfl | rfl <;> simp [D.pure]
  exact ⟨xs[v.toNat], k', l', by simp [M__law_of, ln, e, ix], List.getElem_mem hv, h3⟩
/-- the store with a list behind -/
@[simp] theorem getL_2 (o : MO) (ds : List D) : getL (o :: (R ++ [.lst ds])) (.ref (R.length + 1)) = some (R.length + 1, ds) := by simp [getL]
@[simp] theorem rsv_2 (o : MO) (ds : List D) : rsv (o :: (R ++ [.lst ds])) (.ref (R.length + 1)) = .lst ds := by simp [rsv]
@[simp] theorem set_2 (o x y : MO) : (o :: (R ++ [x])).set (R.length + 1) y = o :: (R ++ [y]) := by simp
theorem ix_2 {acc : List Int} {a : Int} (o : MO) (h : acc.getLast? = some a) : opIx (o :: (R ++ [.lst (intD acc)])) (.ref (R.length + 1)) (.int (-1)) = some (.int a) := ix_last (S := o :: R) h
/-- a step of the letters -/
theorem step_ok (c : List Int) (k : Nat) (lf : List Int) {l : Int} (h : 1 ≤ l ∧ l ≤ 8) (hk : k < 900000000) : ∃ v s k1 l1 k2 l2, M__law_next [.ref 0, .int l] (.law c k lf :: R) = some (.ok (.int v) (.law c k1 l1 :: R)) ∧
    M__law_of [.ref 0, .lst [.int 1, .int (-1)]] (.law c k1 l1 :: R) = some (.ok (.int s) (.law c k2 l2 :: R)) ∧ opMul (.int (1 + v)) (.int s) = some (.int ((1 + v) * s)) ∧ ((1 + v) * s ≠ 0 ∧ -l ≤ (1 + v) * s ∧ (1 + v) * s ≤ l) ∧ k2 ≤ k + 2 := by
  obtain ⟨v, k1, l1, e1, h1, h2, h3⟩ := next_ok (R := R) c k lf (many := l) ⟨by omega, by omega⟩ (by omega)
  obtain ⟨s, k2, l2, e2, h4, h5⟩ := of_ok (R := R) c k1 l1 (xs := [1, -1]) (by simp) (by simp) (by omega) (.lst [.int 1, .int (-1)]) (.inl rfl)
  refine ⟨v, s, k1, l1, k2, l2, e1, e2, mul_small (by omega), ?_, by omega⟩
  have : s = 1 ∨ s = -1 := by simpa using h4
  rcases this with rfl | rfl <;> omega
theorem steps_ok (c : List Int) (k : Nat) (lf : List Int) {l most : Int} (h : 1 ≤ l ∧ l ≤ 8) (hm : 0 ≤ most ∧ most ≤ 100) (hk : k < 800000000) :
    ∃ xs k' l', M__law_steps [.ref 0, .int l, .int most] (.law c k lf :: R) = some (.ok (T xs) (.law c k' l' :: R)) ∧ Good l xs ∧ (xs.length : Int) ≤ most ∧ k' ≤ k + 1000 := by
  obtain ⟨n, k0, l0, e0, h1, h2, h3⟩ := next_ok (R := R ++ [.lst []]) c k lf (many := most + 1) ⟨by omega, by omega⟩ (by omega)
  have loop : ∃ xs k' l' z y, L__law_steps_1 [some (.ref 0), some (.int l), some (.int most), some (.ref (R.length + 1)), none, none] (.law c k lf :: (R ++ [.lst []])) =
      some (.nx [some (.ref 0), some (.int l), some (.int most), some (.ref (R.length + 1)), z, y] (.law c k' l' :: (R ++ [.lst (intD xs)]))) ∧ (∀ x ∈ xs, x ≠ 0 ∧ -l ≤ x ∧ x ≤ l) ∧ (xs.length : Int) ≤ most ∧ k' ≤ k + 1000 := by
    obtain ⟨δ', S', e, acc, k1, l1, z, y, rfl, g, hl, hk1, rfl⟩ := forL_run (t := .name 4) (b := mSeq (mSet 5 (mBin opMul (mBin opAdd (mC (.int 1)) (mCall M__law_next (mConsA (mVar 0) (mConsA (mVar 1) mNilA)))) (mCall M__law_of (mConsA (mVar 0) (mConsA (mLst (mConsA (mC (.int 1)) (mConsA (mUn opNeg (mC (.int 1))) mNilA))) mNilA))))) (mSeq (mIfS (mAndT (mB (mBinS opNeS (mVar 3) (mLst mNilA))) (mB (mBin opEq (mCall M__law_next (mConsA (mVar 0) (mConsA (mC (.int 4)) mNilA))) (mC (.int 0))))) (mSet 5 (mUn opNeg (mBinS opIx (mVar 3) (mUn opNeg (mC (.int 1)))))) mPass) (mDrop (mAppend (mVar 3) (mVar 5)))))
      (fun ds δ S' => ∃ acc k1 l1 z y, S' = .law c k1 l1 :: (R ++ [.lst (intD acc)]) ∧ (∀ x ∈ acc, x ≠ 0 ∧ -l ≤ x ∧ x ≤ l) ∧ (acc.length : Int) + ds.length ≤ most ∧ k1 + 3 * ds.length ≤ k + 1000 ∧ δ = [some (.ref 0), some (.int l), some (.int most), some (.ref (R.length + 1)), z, y]) (by
        rintro d ds δ S' ⟨acc, k1, l1, z, y, rfl, g, hl, hk1, rfl⟩
        simp only [List.length_cons] at hl hk1
        have hz : acc.length < 16777216 := by omega
        obtain ⟨v, s, k2, l2, k3, l3, e1, e2, e3, gd, hk3⟩ := step_ok (R := R ++ [.lst (intD acc)]) c k1 l1 h (by omega)
        refine ⟨[some (.ref 0), some (.int l), some (.int most), some (.ref (R.length + 1)), some d, y], by simp, ?_⟩
        have app : ∀ x : Int, (x ≠ 0 ∧ -l ≤ x ∧ x ≤ l) → ∀ w ∈ acc ++ [x], w ≠ 0 ∧ -l ≤ w ∧ w ≤ l := fun x hx w hw => by
          rcases List.mem_append.mp hw with hw | hw
          · exact g w hw
          · rw [List.mem_singleton.mp hw]; exact hx
        cases hg : acc.getLast? with
        | none =>
          have : acc = [] := by simpa using hg
          subst this
          refine ⟨[some (.ref 0), some (.int l), some (.int most), some (.ref (R.length + 1)), some d, some (.int ((1 + v) * s))], .law c k3 l3 :: (R ++ [.lst (intD ([] ++ [(1 + v) * s]))]), .inl ?_, [] ++ [(1 + v) * s], k3, l3, _, _, rfl, app _ gd, by simp; omega, by omega, rfl⟩
          simp [e1, e2, e3, LINE]
        | some a =>
          have hne : acc ≠ [] := fun z => by subst z; simp at hg
          obtain ⟨u, k4, l4, e4, _, _, hk4⟩ := next_ok (R := R ++ [.lst (intD acc)]) c k3 l3 (many := 4) ⟨by omega, by omega⟩ (by omega)
          have ha : a ∈ acc := List.mem_of_getLast? hg
          by_cases q : u = 0
          · refine ⟨[some (.ref 0), some (.int l), some (.int most), some (.ref (R.length + 1)), some d, some (.int (-a))], .law c k4 l4 :: (R ++ [.lst (intD (acc ++ [-a]))]), .inl ?_, acc ++ [-a], k4, l4, _, _, rfl, app _ (by have := g a ha; omega), by simp; omega, by omega, rfl⟩
            subst q
            simp [e1, e2, e3, e4, LINE, hne, ix_2 _ hg, hz]
          · refine ⟨[some (.ref 0), some (.int l), some (.int most), some (.ref (R.length + 1)), some d, some (.int ((1 + v) * s))], .law c k4 l4 :: (R ++ [.lst (intD (acc ++ [(1 + v) * s]))]), .inl ?_, acc ++ [(1 + v) * s], k4, l4, _, _, rfl, app _ gd, by simp; omega, by omega, rfl⟩
            simp [e1, e2, e3, e4, LINE, hne, q, hz]) (rangeD 0 n.toNat) [some (.ref 0), some (.int l), some (.int most), some (.ref (R.length + 1)), none, none] (.law c k0 l0 :: (R ++ [.lst []]))
      ⟨[], k0, l0, none, none, rfl, by simp, by rw [rangeD_len]; simp; omega, by rw [rangeD_len]; omega, rfl⟩
    have hb : n.natAbs < 4611686018427387904 := by omega
    refine ⟨acc, k1, l1, z, y, ?_, g, by simpa using hl, by simpa using hk1⟩
    simp only [L__law_steps_1, s_mFor]
    simp [e0, hb]
    simpa using e
  obtain ⟨xs, k', l', z, y, e, g, hl, hk'⟩ := loop
  refine ⟨xs, k', l', ?_, ⟨by omega, g⟩, hl, hk'⟩
  simp [M__law_steps, LINE, D.pures, e, biTuple]
@[simp] theorem add_two (xs : List Int) (a b : Int) : opAdd (.tup (intD xs)) (.tup [.int a, .int b]) = if xs.length + 2 ≤ LINE then some (T (xs ++ [a, b])) else none := add_T xs [a, b]
theorem red_of_get : ∀ {w : List Int}, (∀ i x y, w[i]? = some x → w[i + 1]? = some y → x ≠ -y) → Red w
  | [], _ => trivial
  | [_], _ => trivial
  | x :: y :: r, h => ⟨h 0 x y rfl rfl, red_of_get fun i a b e1 e2 => h (i + 1) a b (by simpa using e1) (by simpa using e2)⟩
/-- the places where two fall out -/
def spots (w : List Int) : List Nat := (List.range (w.length - 1)).filter fun i => decide (w[i]? = (w[i + 1]?).map fun y => -y)
theorem spots_nil {w : List Int} (h : spots w = []) : Red w := by
  refine red_of_get fun i x y e1 e2 q => ?_
  have hl := (List.getElem?_eq_some_iff.mp e2).1
  have : i ∈ spots w := by
    unfold spots
    rw [List.mem_filter]
    exact ⟨by simp; omega, by simp [e1, e2, q]⟩
  rw [h] at this; cases this
theorem spots_at {w : List Int} {i : Nat} (h : i ∈ spots w) : ∃ u x v, w = u ++ x :: -x :: v ∧ u.length = i := by
  unfold spots at h
  rw [List.mem_filter] at h
  obtain ⟨h1, h2⟩ := h
  have hl : i + 1 < w.length := by simp at h1; omega
  have e2 : w[i + 1]? = some w[i + 1] := List.getElem?_eq_getElem hl
  have e1 : w[i]? = some w[i] := List.getElem?_eq_getElem (by omega)
  rw [e1, e2] at h2
  have hq : w[i] = -w[i + 1] := by simpa using h2
  refine ⟨w.take i, w[i], w.drop (i + 2), ?_, by simp; omega⟩
  have a1 := drop_step e1
  have a2 := drop_step e2
  have : -w[i] = w[i + 1] := by omega
  rw [this, ← a2, ← a1, List.take_append_drop]
end
end LM

set_option linter.all false
set_option maxRecDepth 10000
/-! # LE: what the shared defs make of anything -/
namespace PL
section
variable {δ : Env} {S : Sto} {a b c e : ME} {i j l n : Nat}
@[simp] theorem s_mRaise : mRaise n e δ S = bES δ (e δ S) fun d S1 => some (.ex ⟨n, d⟩ δ S1) := rfl
@[simp] theorem s_mPar3 : mPar3 i j l a b c δ S = bES δ (a δ S) fun x S1 => bES δ (b δ S1) fun y S2 => bES δ (c δ S2) fun z S3 => some (.nx (((δ.set i (some x)).set j (some y)).set l (some z)) S3) := rfl
/-- a run that ends a loop: it hands something back, or raises -/
def stopR : RS → Bool
  | .rt _ _ => true
  | .ex _ _ _ => true
  | _ => false
/-- by a word of what is left to be walked; the loop may be left -/
theorem forL_stop {t : Tg} {b : MS} (P : List D → Env → Sto → Prop) (Q : RS → Prop)
    (h : ∀ d ds δ S, P (d :: ds) δ S → ∃ δ1, t.put d δ = some δ1 ∧ ((∃ δ2 S2, (b δ1 S = some (.nx δ2 S2) ∨ b δ1 S = some (.ct δ2 S2)) ∧ P ds δ2 S2) ∨ ∃ r, b δ1 S = some r ∧ stopR r = true ∧ Q r)) :
    ∀ ds δ S, P ds δ S → (∃ δ' S', forL t b ds δ S = some (.nx δ' S') ∧ P [] δ' S') ∨ ∃ r, forL t b ds δ S = some r ∧ stopR r = true ∧ Q r
  | [], δ, S, p => .inl ⟨δ, S, forL_nil, p⟩
  | d :: ds, δ, S, p => by
    obtain ⟨δ1, h1, h2⟩ := h d ds δ S p
    rcases h2 with ⟨δ2, S2, h2, h3⟩ | ⟨r, h2, h3, h4⟩
    · have ih := forL_stop P Q h ds δ2 S2 h3
      have e : forL t b (d :: ds) δ S = forL t b ds δ2 S2 := by
        conv => lhs; unfold forL
        rw [h1]
        rcases h2 with h2 | h2 <;> simp only [h2]
      rw [e]
      exact ih
    · refine .inr ⟨r, ?_, h3, h4⟩
      conv => lhs; unfold forL
      rw [h1]
      cases r <;> first | (simp only [h2]; done) | cases h3
end
end PL
namespace LM
open PL PW
/-- none of the store, no address -/
def dat : D → Bool
  | .ref _ => false
  | .adr _ => false
  | .exn _ _ _ _ => false
  | _ => true
/-- a whole number -/
def isI : D → Bool
  | .int _ => true
  | _ => false
def among (d : D) (a b : Int) : Bool := match d with
  | .int i => decide (a ≤ i ∧ i ≤ b)
  | _ => false
def tupl (d : D) (a b : Int) : Bool := match d with
  | .tup xs => decide (a ≤ xs.length ∧ (xs.length : Int) ≤ b)
  | _ => false
def stepD (l : Int) : D → Bool
  | .int i => decide (i ≠ 0 ∧ -l ≤ i ∧ i ≤ l)
  | _ => false
section
variable {S : Sto}
theorem is_number_gen {d : D} (h : dat d = true) : M_is_number [d] S = some (.ok (.bl (isI d)) S) := by
  cases d <;> first | (simp [M_is_number, opIsI, isInt, isBool, isI, D.pure]; done) | cases h
theorem is_among_gen {d : D} (h : dat d = true) (a b : Int) : M_is_among [d, .int a, .int b] S = some (.ok (.bl (among d a b)) S) := by
  cases d with
  | int i => exact is_among_ok i a b
  | _ => first | (cases h; done) | (have e := is_number_gen (S := S) h; simp [M_is_among, e, isI, among, D.pure])
theorem is_tuple_of_gen {d : D} (h : dat d = true) (a b : Int) : M_is_tuple_of [d, .int a, .int b] S = some (.ok (.bl (tupl d a b)) S) := by
  cases d with
  | tup xs =>
    by_cases h1 : a ≤ (xs.length : Int) <;> simp [M_is_tuple_of, opIsI, isTuple, biLen, seqOf, tupl, h1, D.pure]
  | _ => first | (simp [M_is_tuple_of, opIsI, isTuple, dat, tupl, D.pure]; done) | cases h
theorem is_step_gen {d : D} (h : dat d = true) (l : Int) : M_is_step [.int l, d] S = some (.ok (.bl (stepD l d)) S) := by
  cases d with
  | int i => exact is_step_ok l i
  | _ => first | (cases h; done) | (have e := is_number_gen (S := S) h; simp [M_is_step, e, isI, stepD, D.pure])
theorem need_letters_gen {d : D} (h : dat d = true) (hp : d.pure = true) : M_need_letters [d] S = if among d 1 8 then some (.ok d S) else some (.ex ⟨1, d⟩ S) := by
  cases q : among d 1 8 <;> simp [M_need_letters, is_among_gen h, q, hp]
/-- the first thing that is no step -/
def badStep (l : Int) : List D → Nat → Option Nat
  | [], _ => none
  | d :: ds, k => if stepD l d then badStep l ds (k + 1) else some k
/-- what is wrong with a course, if anything is: its place -/
def courseBad (l : Int) : D → Option D
  | .tup ds => if ds.length ≤ 2000 then (badStep l ds 0).map fun k => .int (k : Nat) else some .non
  | _ => some .non
theorem need_course_run (l : Int) (c : D) {b : D} : ∀ (ds : List D) (k : Nat) (y z : Option D) , (∀ d ∈ ds, dat d = true) → ∃ y' z',
    forL (.tup [.name 2, .name 3]) (mIfS (mNotT (mB (mCall M_is_step (mConsA (mVar 0) (mConsA (mVar 3) mNilA))))) (mRaise 0 (mVar 2)) mPass) (enumD k ds) [some (.int l), some c, y, z] S =
      some (match badStep l ds k with
        | none => .nx [some (.int l), some c, y', z'] S
        | some n => .ex ⟨0, .int (n : Nat)⟩ [some (.int l), some c, y', z'] S)
  | [], k, y, z, _ => ⟨y, z, by simp [enumD, badStep, forL_nil]⟩
  | d :: ds, k, y, z, h => by
    have hd := h d List.mem_cons_self
    cases q : stepD l d with
    | true =>
      obtain ⟨y', z', e⟩ := need_course_run l c (b := b) ds (k + 1) (some (.int k)) (some d) (fun x hx => h x (List.mem_cons_of_mem _ hx))
      refine ⟨y', z', ?_⟩
      rw [enumD, badStep, if_pos q, ← e]
      conv => lhs; unfold forL
      simp [is_step_gen hd, q]
    | false =>
      refine ⟨some (.int k), some d, ?_⟩
      rw [enumD, badStep, q]
      conv => lhs; unfold forL
      simp [is_step_gen hd, q]
theorem need_course_gen {l : Int} (hl : 1 ≤ l ∧ l ≤ 8) {c : D} (hc : dat c = true) (hi : ∀ ds, c = .tup ds → ∀ d ∈ ds, dat d = true) (hp : c.pure = true) : M_need_course [.int l, c] S = match courseBad l c with
    | none => some (.ok c S)
    | some p => some (.ex ⟨0, p⟩ S) := by
  cases c with
  | tup ds =>
    by_cases h2 : ds.length ≤ 2000
    · obtain ⟨y, z, e⟩ := need_course_run (S := S) l (.tup ds) (b := .non) ds 0 none none (hi ds rfl)
      have hl2 : (ds.length : Int) ≤ 2000 := by omega
      have e2 : L_need_course_1 [some (.int l), some (.tup ds), none, none] S = some (match badStep l ds 0 with
        | none => .nx [some (.int l), some (.tup ds), y, z] S
        | some n => .ex ⟨0, .int (n : Nat)⟩ [some (.int l), some (.tup ds), y, z] S) := by
        simp only [L_need_course_1, s_mFor, s_mItEnum, s_mVar]
        simpa using e
      cases q : badStep l ds 0 with
      | none =>
        rw [q] at e2
        have e3 := is_tuple_of_gen (S := S) hc 0 2000
        simp [M_need_course, need_letters_ok hl, e3, tupl, hl2, e2, courseBad, h2, q, hp]
      | some n =>
        rw [q] at e2
        have e3 := is_tuple_of_gen (S := S) hc 0 2000
        simp [M_need_course, need_letters_ok hl, e3, tupl, hl2, e2, courseBad, h2, q, D.pure]
    · have hl2 : ¬ (ds.length : Int) ≤ 2000 := by omega
      have e3 := is_tuple_of_gen (S := S) hc 0 2000
      simp [M_need_course, need_letters_ok hl, e3, tupl, hl2, courseBad, h2, D.pure]
  | _ => first | (cases hc; done) | (have e := is_tuple_of_gen (S := S) hc 0 2000; simp [M_need_course, need_letters_ok hl, e, tupl, courseBad, D.pure])
theorem need_course_bad {d c : D} (h : dat d = true) (hp : d.pure = true) (q : among d 1 8 = false) : M_need_course [d, c] S = some (.ex ⟨1, d⟩ S) := by
  simp [M_need_course, need_letters_gen h hp, q, hp]
end
end LM

set_option linter.all false
set_option maxRecDepth 10000
/-! # LK: roots -/
namespace LM
open PL PW
section
variable {S : Sto}
theorem ix_S {xs : List Int} {n : Nat} {a : Int} {i : Int} (hi : i = n) (h : xs[n]? = some a) : opIx (S ++ [.lst (intD xs)]) (.ref S.length) (.int i) = some (.int a) := by
  have := ix_T (S := S) hi h
  simpa [opIx, seqOf, T] using this
/-- the borders so far -/
def Borders (r : List Int) (bs : List Nat) : Prop := ∀ i b, bs[i]? = some b → MaxB r (i + 1) b
def natI (bs : List Nat) : List Int := bs.map fun b : Nat => (b : Int)
theorem natI_get (bs : List Nat) (i : Nat) : (natI bs)[i]? = (bs[i]?).map fun b : Nat => (b : Int) := by simp [natI]
theorem natI_snoc (bs : List Nat) (b : Nat) : natI bs ++ [(b : Int)] = natI (bs ++ [b]) := by simp [natI]
theorem natI_len (bs : List Nat) : (natI bs).length = bs.length := by simp [natI]
theorem period_loop {r : List Int} {bs : List Nat} {a : Nat} (hb : Borders r bs) (hl : bs.length = a) (ha : 0 < a) (har : a < r.length) (x y : Option D) {s : Nat} (hs : MaxB r a s) :
    ∃ t : Nat, L_period_of_1 [some (T r), some (.ref S.length), some (.int a), y, some (.int s)] (S ++ [.lst (intD (natI bs))]) = some (.nx [some (T r), some (.ref S.length), some (.int a), y, some (.int t)] (S ++ [.lst (intD (natI bs))])) ∧
      Bd r a t ∧ (t = 0 ∨ r[t]? = r[a]?) ∧ ∀ k, Bd r a k → t < k → r[k]? ≠ r[a]? := by
  obtain ⟨va, hva⟩ : ∃ v, r[a]? = some v := ⟨r[a], List.getElem?_eq_getElem har⟩
  obtain ⟨r0, e, t, rfl, h1, h2, h3⟩ := while_run (c := mAndT (mB (mBin opGt (mVar 4) (mC (.int 0)))) (mB (mBin opNe (mBinS opIx (mVar 0) (mVar 4)) (mBinS opIx (mVar 0) (mVar 2))))) (b := mSet 4 (mBinS opIx (mVar 1) (mBin opSub (mVar 4) (mC (.int 1)))))
    (fun n δ S' => S' = S ++ [.lst (intD (natI bs))] ∧ δ = [some (T r), some (.ref S.length), some (.int a), y, some (.int n)] ∧ Bd r a n ∧ ∀ k, Bd r a k → n < k → r[k]? ≠ r[a]?)
    (fun r0 => ∃ t : Nat, r0 = .nx [some (T r), some (.ref S.length), some (.int a), y, some (.int t)] (S ++ [.lst (intD (natI bs))]) ∧ Bd r a t ∧ (t = 0 ∨ r[t]? = r[a]?) ∧ ∀ k, Bd r a k → t < k → r[k]? ≠ r[a]?) (by
      rintro n δ S' ⟨rfl, rfl, h1, h2⟩
      have hn := h1.1
      obtain ⟨vn, hvn⟩ : ∃ v, r[n]? = some v := ⟨r[n], List.getElem?_eq_getElem (by omega)⟩
      have ea := ix_T (S := S ++ [.lst (intD (natI bs))]) (xs := r) (i := (a : Int)) rfl hva
      have en := ix_T (S := S ++ [.lst (intD (natI bs))]) (xs := r) (i := (n : Int)) rfl hvn
      by_cases h0 : n = 0
      · subst h0
        exact .inl ⟨_, by simp, 0, rfl, h1, .inl rfl, h2⟩
      · have hpos : (0 : Int) < n := by omega
        by_cases q : vn = va
        · refine .inl ⟨S ++ [.lst (intD (natI bs))], by simp [hpos, ea, en, q], n, rfl, h1, .inr (by rw [hvn, hva, q]), h2⟩
        · obtain ⟨b, hbb⟩ : ∃ b, bs[n - 1]? = some b := ⟨bs[n - 1]'(by omega), List.getElem?_eq_getElem (by omega)⟩
          have mb := hb _ _ hbb
          rw [show n - 1 + 1 = n by omega] at mb
          have eb := ix_S (S := S) (xs := natI bs) (n := n - 1) (i := (n : Int) - 1) (by omega) (by rw [natI_get, hbb]; rfl)
          refine .inr ⟨S ++ [.lst (intD (natI bs))], by simp [hpos, ea, en, q, h0], .inl ⟨_, _, b, .inl (by simp [eb]), mb.1.1, rfl, rfl, h1.trans mb.1, fun k hk hkb => ?_⟩⟩
          by_cases z : n < k
          · exact h2 k hk z
          · by_cases z2 : k = n
            · subst z2
              rw [hvn, hva]
              simpa using q
            · have := mb.2 k (h1.sub hk (by omega))
              omega) s [some (T r), some (.ref S.length), some (.int a), y, some (.int s)] (S ++ [.lst (intD (natI bs))]) ⟨rfl, rfl, hs.1, fun k hk hlt => by have := hs.2 k hk; omega⟩
  exact ⟨t, e, h1, h2, h3⟩
theorem period_next {r : List Int} {a t : Nat} (h1 : Bd r a t) (h2 : t = 0 ∨ r[t]? = r[a]?) (h3 : ∀ k, Bd r a k → t < k → r[k]? ≠ r[a]?) : MaxB r (a + 1) (if r[t]? = r[a]? then t + 1 else 0) := by
  by_cases q : r[t]? = r[a]?
  · rw [if_pos q]
    refine ⟨h1.succ q, fun k hk => ?_⟩
    cases k with
    | zero => omega
    | succ k =>
      obtain ⟨b1, b2⟩ := hk.pred
      by_cases z : t < k
      · exact absurd b2 (h3 k b1 z)
      · omega
  · rw [if_neg q]
    have t0 : t = 0 := by
      rcases h2 with h2 | h2
      · exact h2
      · exact absurd h2 q
    subst t0
    refine ⟨Bd.zero (by omega), fun k hk => ?_⟩
    cases k with
    | zero => omega
    | succ k =>
      obtain ⟨b1, b2⟩ := hk.pred
      by_cases z : 0 < k
      · exact absurd b2 (h3 k b1 z)
      · have : k = 0 := by omega
        subst this
        exact absurd b2 q
theorem range2_all {a b : Nat} (n : Nat) : rangeD (a : Int) (n + 1) = .int (a : Int) :: rangeD ((a + 1 : Nat) : Int) n := by
  unfold rangeD
  rw [List.range_succ_eq_map, List.map_cons, List.map_map]
  refine congr (congrArg List.cons (by simp)) (List.map_congr_left fun i _ => ?_)
  simp [Function.comp]
  omega
theorem period_of_ok {r : List Int} (hr : r ≠ []) (hl : r.length ≤ 2000) : ∃ d : Nat, M_period_of [T r] S = some (.ok (.int d) S) ∧ IsRoot r d := by
  have hpos : 0 < r.length := List.length_pos_iff.mpr hr
  have loop : ∃ bs : List Nat, ∃ z4 : Option D × Option D, L_period_of_2 [some (T r), some (.ref S.length), none, none, none] (S ++ [.lst [.int 0]]) = some (.nx [some (T r), some (.ref S.length), z4.1, none, z4.2] (S ++ [.lst (intD (natI bs))])) ∧ Borders r bs ∧ bs.length = r.length := by
    have h0 : S ++ [.lst [.int 0]] = S ++ [MO.lst (intD (natI [0]))] := by simp [natI, intD]
    obtain ⟨δ', S', e, _, bs, a, z2, z4, hb, hbl, hle, hz, rfl, rfl⟩ := forL_run (t := .name 2) (b := mSeq (mSet 4 (mBinS opIx (mVar 1) (mUn opNeg (mC (.int 1))))) (mSeq L_period_of_1 (mDrop (mAppend (mVar 1) (mIf (mB (mBin opEq (mBinS opIx (mVar 0) (mVar 4)) (mBinS opIx (mVar 0) (mVar 2)))) (mBin opAdd (mVar 4) (mC (.int 1))) (mC (.int 0)))))))
      (fun ds δ S' => ds = rangeD (r.length - ds.length : Nat) ds.length ∧ ∃ (bs : List Nat) (a : Nat) (z2 z4 : Option D), Borders r bs ∧ bs.length = a ∧ a + ds.length = r.length ∧ 0 < a ∧ δ = [some (T r), some (.ref S.length), z2, none, z4] ∧ S' = S ++ [.lst (intD (natI bs))]) (by
        rintro d ds δ S' ⟨hd, bs, a, z2, z4, hb, hbl, hle, hpa, rfl, rfl⟩
        have hlen : (d :: ds).length = ds.length + 1 := rfl
        rw [hlen] at hd hle
        rw [show r.length - (ds.length + 1) = a by omega] at hd
        rw [range2_all (b := 0)] at hd
        obtain ⟨rfl, hd2⟩ := List.cons.inj hd
        have har : a < r.length := by omega
        obtain ⟨b, hbb⟩ : ∃ b, bs[a - 1]? = some b := ⟨bs[a - 1]'(by omega), List.getElem?_eq_getElem (by omega)⟩
        have mb := hb _ _ hbb
        rw [show a - 1 + 1 = a by omega] at mb
        have elast : (natI bs).getLast? = some (b : Int) := by
          rw [List.getLast?_eq_getElem?, natI_len, hbl, natI_get, hbb]
          rfl
        have e1 := ix_last (S := S) elast
        obtain ⟨t, e2, h1, h2, h3⟩ := period_loop (S := S) hb hbl hpa har none none mb
        have mx := period_next h1 h2 h3
        obtain ⟨va, hva⟩ : ∃ v, r[a]? = some v := ⟨r[a], List.getElem?_eq_getElem har⟩
        obtain ⟨vt, hvt⟩ : ∃ v, r[t]? = some v := ⟨r[t]'(by have := h1.1; omega), List.getElem?_eq_getElem (by have := h1.1; omega)⟩
        have ea := ix_T (S := S ++ [.lst (intD (natI bs))]) (xs := r) (i := (a : Int)) rfl hva
        have et := ix_T (S := S ++ [.lst (intD (natI bs))]) (xs := r) (i := (t : Int)) rfl hvt
        have hbs : bs.length < LINE := by simp [LINE]; omega
        refine ⟨[some (T r), some (.ref S.length), some (.int a), none, z4], by simp, _, S ++ [.lst (intD (natI (bs ++ [if r[t]? = r[a]? then t + 1 else 0])))], .inl ?_, ?_, bs ++ [if r[t]? = r[a]? then t + 1 else 0], a + 1, some (.int a), some (.int t), ?_, by simp [hbl], by omega, by omega, rfl, rfl⟩
        · by_cases q : vt = va
          · simp [e1, e2, ea, et, q, hva, hvt, hbs, natI_len, ← natI_snoc]
          · simp [e1, e2, ea, et, q, hva, hvt, hbs, natI_len, ← natI_snoc]
        · rw [show r.length - ds.length = a + 1 by omega]
          exact hd2
        · intro i c hc
          by_cases hi : i < bs.length
          · rw [List.getElem?_append_left hi] at hc
            exact hb i c hc
          · rw [List.getElem?_append_right (by omega)] at hc
            have : i = a := by
              by_cases z : i - bs.length = 0
              · omega
              · rw [List.getElem?_eq_none (by simp; omega)] at hc; cases hc
            subst this
            rw [hbl, Nat.sub_self] at hc
            cases hc
            exact mx) (rangeD 1 (r.length - 1)) [some (T r), some (.ref S.length), none, none, none] (S ++ [.lst [.int 0]])
        ⟨by rw [rangeD_len, show r.length - (r.length - 1) = 1 by omega]; rfl, [0], 1, none, none, fun i b h => by
          cases i with
          | zero => cases h; exact ⟨Bd.zero (by omega), fun k hk => by have := hk.1; omega⟩
          | succ i => simp at h, rfl, by rw [rangeD_len]; omega, by omega, rfl, h0⟩
    refine ⟨bs, (z2, z4), ?_, hb, by rw [hbl]; simpa using hle⟩
    have hr1 : ((r.length : Int) - 1).toNat = r.length - 1 := by omega
    have hbig : (r.length : Int).natAbs < 4611686018427387904 := by omega
    have hbig2 : r.length < 4611686018427387904 := by omega
    simp [L_period_of_2, mItRange2, hr1, hbig2]
    exact e
  obtain ⟨bs, z4, e, hb, hbl⟩ := loop
  obtain ⟨b, hbb⟩ : ∃ b, bs[r.length - 1]? = some b := ⟨bs[r.length - 1]'(by omega), List.getElem?_eq_getElem (by omega)⟩
  have mb := hb _ _ hbb
  rw [show r.length - 1 + 1 = r.length by omega] at mb
  have elast : (natI bs).getLast? = some (b : Int) := by
    rw [List.getLast?_eq_getElem?, natI_len, hbl, natI_get, hbb]
    rfl
  have e1 := ix_last (S := S) elast
  have hbr := mb.1.1
  have hd : (r.length : Int) - b = ((r.length - b : Nat) : Int) := by omega
  have hm : opMod (.int r.length) (.int ((r.length - b : Nat) : Int)) = some (.int ((r.length % (r.length - b) : Nat) : Int)) := by
    rw [mod_pos (by omega)]
    simp
  refine ⟨_, ?_, root_of_max hr mb⟩
  by_cases q : r.length % (r.length - b) = 0
  · have q' : ((r.length % (r.length - b) : Nat) : Int) = 0 := by omega
    simp [M_period_of, e, e1, hd, hm, q, q', D.pure, LINE, D.pures]
  · have q0 : ((r.length : Int) % ((r.length - b : Nat) : Int)) = ((r.length % (r.length - b) : Nat) : Int) := by simp
    have q' : ¬ ((r.length : Int) % ((r.length - b : Nat) : Int)) = 0 := by rw [q0]; omega
    simp [M_period_of, e, e1, hd, hm, q, q', D.pure, LINE, D.pures]
end
end LM

set_option linter.all false
set_option maxRecDepth 10000
/-! # LR: roots, times -/
namespace LM
open PL PW
section
variable {S : Sto}
theorem parted_u {w : List Int} (hl : w.length ≤ 2000) : ∃ h r, M_parted [T w] S = some (.ok (.tup [T h, T r]) S) ∧ PartsU w h r := by
  obtain ⟨h, r, e, p⟩ := parted_ok (S := S) hl
  exact ⟨h, r, e, p.eq, p.stop⟩
theorem PartsU.len {w h r : List Int} (p : PartsU w h r) : w.length = 2 * h.length + r.length := by rw [p.eq]; simp [inv_length]; omega
theorem parted_of {w h r : List Int} (hl : w.length ≤ 2000) (p : PartsU w h r) : M_parted [T w] S = some (.ok (.tup [T h, T r]) S) := by
  obtain ⟨h', r', e, p'⟩ := parted_u (S := S) hl
  obtain ⟨rfl, rfl⟩ := p.uniq p'
  exact e
theorem rooted_ok {w : List Int} (rw' : Red w) (hl : w.length ≤ 2000) : ∃ ρ n, M_rooted [T w] S = some (.ok (.tup [T ρ, .int (n : Nat)]) S) ∧ Rooted w ρ n ∧ ρ.length ≤ 2000 := by
  by_cases w0 : w = []
  · subst w0
    exact ⟨[], 0, by simp [M_rooted, intD_nil, opEq, opEqO, D.okN, D.okNs, eqD, eqDs, LINE, D.pure, D.pures], .inl ⟨rfl, rfl, rfl⟩, by simp⟩
  · obtain ⟨h, r, e, p⟩ := parted_u (S := S) hl
    have hr := p.ring rw' w0
    have hlen := PartsU.len p
    obtain ⟨d, e2, i⟩ := period_of_ok (S := S) hr (by omega)
    obtain ⟨hd, hk⟩ := ring_pos i hr
    have bh := back_of_ok (S := S) (xs := h) (by omega)
    have c1 := cut_to (xs := r) (i := (d : Int)) rfl hd
    have e0 : opEq (T w) (.tup []) = some (.bl (decide (w = []))) := eq_T w []
    have hp := i.pos
    have dv : opDiv (.int r.length) (.int d) = some (.int ((r.length / d : Nat) : Int)) := by
      rw [div_pos (by omega) (by omega)]
      simp
    have hmin : min d r.length = d := by omega
    refine ⟨_, _, ?_, .inr ⟨w0, h, r, d, p, i, rfl, rfl⟩, ?_⟩
    · have l1 : h.length + min d r.length ≤ 16777216 := by omega
      have l2 : h.length + min d r.length + (inv h).length ≤ 16777216 := by rw [inv_length]; omega
      simp [M_rooted, e0, w0, e, e2, bh, c1, dv, l1, l2, LINE, D.pure, D.pures]
    · simp [inv_length]; omega
theorem abs_nat (m : Int) : (if m < 0 then -m else m) = ((m.natAbs : Nat) : Int) := by split <;> omega
theorem times_of_gen {w h r : List Int} {m : Int} (p : PartsU w h r) (hl : w.length ≤ 2000) (hm : m.natAbs ≤ 1000000000) : M_times_of [T w, .int m] S =
    if m = 0 ∨ r = [] then some (.ok (T []) S) else if 2000 < 2 * h.length + r.length * m.natAbs then some (.ex ⟨2, .int 2000⟩ S) else some (.ok (T (h ++ rep m.natAbs (if m < 0 then inv r else r) ++ inv h)) S) := by
  have e := parted_of (S := S) hl p
  have hlen := PartsU.len p
  have bh := back_of_ok (S := S) (xs := h) (by omega)
  have br := back_of_ok (S := S) (xs := r) (by omega)
  have two : opMul (.int 2) (.int h.length) = some (.int (2 * h.length)) := by simp [opMul]
  have eqn : ∀ q : List Int, opEq (T q) (.tup []) = some (.bl (decide (q = []))) := fun q => eq_T q []
  have q0 : inv r = [] ↔ r = [] := ⟨inv_eq_nil, fun z => by subst z; rfl⟩
  have main : ∀ q : List Int, q.length = r.length → r ≠ [] → m ≠ 0 → opMul (.int q.length) (.int m.natAbs) = some (.int (q.length * m.natAbs)) ∧ (¬ 2000 < 2 * h.length + r.length * m.natAbs → opMul (T q) (.int m.natAbs) = some (T (rep m.natAbs q)) ∧ h.length + (rep m.natAbs q).length ≤ 16777216 ∧ h.length + (rep m.natAbs q).length + (inv h).length ≤ 16777216) := fun q hq hr m0 => by
    refine ⟨?_, fun hb => ?_⟩
    · simp only [opMul]; rw [if_pos (.inl (by omega))]
    · have hr1 : 1 ≤ r.length := List.length_pos_iff.mpr hr
      have h1 : m.natAbs ≤ r.length * m.natAbs := Nat.le_mul_of_pos_left _ hr1
      refine ⟨mul_T q _ (by omega) (by rw [hq]; omega), ?_, ?_⟩
      · rw [rep_len, hq, Nat.mul_comm]; omega
      · rw [rep_len, hq, Nat.mul_comm, inv_length]; omega
  have cast : ((r.length * m.natAbs : Nat) : Int) = (r.length : Int) * ((m.natAbs : Nat) : Int) := Int.natCast_mul _ _
  by_cases m0 : m = 0
  · subst m0
    simp [M_times_of, e, eqn, LINE, intD_nil, D.pure, D.pures]
  · by_cases hr : r = []
    · subst hr
      have hi : inv [] = [] := rfl
      rw [hi] at br
      by_cases m1 : m < 0 <;> simp [M_times_of, e, m0, m1, br, eqn, LINE, intD_nil, D.pure, D.pures]
    · rw [if_neg (by simp [m0, hr])]
      by_cases m1 : m < 0
      · obtain ⟨f1, f2⟩ := main (inv r) (inv_length r) hr m0
        have g1 : (if m < 0 then -m else m) = ((m.natAbs : Nat) : Int) := abs_nat m
        rw [if_pos m1] at g1
        have hir : inv r ≠ [] := fun z => hr (q0.mp z)
        rw [inv_length] at f1
        by_cases hb : 2000 < 2 * h.length + r.length * m.natAbs
        · rw [if_pos hb]
          have hb2 : (2000 : Int) < 2 * h.length + r.length * ((m.natAbs : Nat) : Int) := by rw [← cast]; omega
          simp [M_times_of, e, m0, m1, br, bh, eqn, hir, two, g1, inv_length, f1, hb2, LINE, D.pure, D.pures]
        · rw [if_neg hb]
          obtain ⟨f3, f4, f5⟩ := f2 hb
          have hb2 : ¬ (2000 : Int) < 2 * h.length + r.length * ((m.natAbs : Nat) : Int) := by rw [← cast]; omega
          rw [inv_length] at f5
          simp [M_times_of, e, m0, m1, br, bh, eqn, hir, two, g1, inv_length, f1, f3, f4, f5, hb2, LINE, D.pure, D.pures]
      · obtain ⟨f1, f2⟩ := main r rfl hr m0
        have g1 : m = ((m.natAbs : Nat) : Int) := by omega
        by_cases hb : 2000 < 2 * h.length + r.length * m.natAbs
        · rw [if_pos hb]
          have hb2 : (2000 : Int) < 2 * h.length + r.length * ((m.natAbs : Nat) : Int) := by rw [← cast]; omega
          have hb3 : (2000 : Int) < 2 * h.length + r.length * m := by rw [g1]; exact hb2
          have f1' : opMul (.int r.length) (.int m) = some (.int (r.length * m)) := by rw [← g1] at f1; exact f1
          simp [M_times_of, e, m0, m1, br, bh, eqn, hr, two, f1', hb3, LINE, D.pure, D.pures]
        · rw [if_neg hb]
          obtain ⟨f3, f4, f5⟩ := f2 hb
          have hb2 : ¬ (2000 : Int) < 2 * h.length + r.length * ((m.natAbs : Nat) : Int) := by rw [← cast]; omega
          have hb3 : ¬ (2000 : Int) < 2 * h.length + r.length * m := by rw [g1]; exact hb2
          have f1' : opMul (.int r.length) (.int m) = some (.int (r.length * m)) := by rw [← g1] at f1; exact f1
          have f3' : opMul (T r) (.int m) = some (T (rep m.natAbs r)) := by rw [← g1] at f3; exact f3
          simp [M_times_of, e, m0, m1, br, bh, eqn, hr, two, f1', f3', hb3, f4, f5, LINE, D.pure, D.pures]
theorem law_many_pos {xs : List Int} {m : Nat} (hm : 0 < m) (hm2 : m ≤ 100000) (hx : xs.length ≤ 2000) (hb : ∀ j, j < m → (red (rep j xs)).length + xs.length ≤ 2000) : M__law_many [T xs, .int m] S = some (.ok (T (red (rep m xs))) S) := by
  have main : ∃ z, L__law_many_1 [some (T xs), some (.int m), none, some (T []), some (T xs)] S = some (.nx [some (T xs), some (.int m), z, some (T (red (rep m xs))), some (T xs)] S) := by
    obtain ⟨δ', S', e, rfl, i, z, e1, rfl⟩ := forL_run (t := .name 2) (b := mSet 3 (mCall M__law_plain (mConsA (mBin opAdd (mVar 3) (mVar 4)) mNilA)))
      (fun ds δ S' => S' = S ∧ ∃ i z, i + ds.length = m ∧ δ = [some (T xs), some (.int m), z, some (T (red (rep i xs))), some (T xs)]) (by
        rintro d ds δ S' ⟨rfl, i, z, e, rfl⟩
        simp only [List.length_cons] at e
        have hl := hb i (by omega)
        have hz : (red (rep i xs)).length + xs.length ≤ 16777216 := by omega
        have lp := law_plain_ok (S := S') (xs := red (rep i xs) ++ xs) (by simp; omega)
        rw [red_left, ← rep_snoc] at lp
        exact ⟨[some (T xs), some (.int m), some d, some (T (red (rep i xs))), some (T xs)], by simp, [some (T xs), some (.int m), some d, some (T (red (rep (i + 1) xs))), some (T xs)], S', .inl (by simp [LINE, hz, lp]), rfl, i + 1, some d, by omega, rfl⟩)
      (rangeD 0 m) [some (T xs), some (.int m), none, some (T []), some (T xs)] S ⟨rfl, 0, none, by rw [rangeD_len]; omega, by rw [rep_zero]; rfl⟩
    have : i = m := by simpa using e1
    subst this
    have hb : (i : Int).natAbs < 4611686018427387904 := by omega
    refine ⟨z, ?_⟩
    simp only [L__law_many_1, s_mFor, s_mItRange1, s_mBI, s_mConsA, s_mVar, s_mNilA, List.getElem?_cons_succ, List.getElem?_cons_zero, bEA_ok, bAA_ok, bA_ok, bE_ok, abs_int, Option.map_some]
    rw [if_neg (by omega : ¬ (i : Int) < 0), if_pos hb]
    simpa using e
  obtain ⟨z, e⟩ := main
  have e0 : T [] = .tup [] := rfl
  rw [e0] at e
  have hp : (0 : Int) < m := by omega
  simp [M__law_many, LINE, hp, hm, e]
theorem NZ.red {w : List Int} (h : NZ w) : NZ (PW.red w) := fun x hx => h x (red_mem hx)
theorem Good.nz {l : Int} {xs : List Int} (g : Good l xs) : NZ xs := fun x hx => (g.2 x hx).1
/-- so many times the one is the other -/
def powerOf (ρ : List Int) (n : Nat) (σ : List Int) (k : Nat) : Option Int :=
  if n = 0 then some 0 else if k = 0 ∨ n % k ≠ 0 ∨ (σ ≠ ρ ∧ σ ≠ inv ρ) then none else some (if σ = ρ then ((n / k : Nat) : Int) else -((n / k : Nat) : Int))
def optI : Option Int → D
  | some i => .int i
  | none => .non
@[simp] theorem ix_pair0 (S : Sto) (a b : D) : opIx S (.tup [a, b]) (.int 0) = some a := by simp [opIx, seqOf, ixN]
@[simp] theorem ix_pair1 (S : Sto) (a b : D) : opIx S (.tup [a, b]) (.int 1) = some b := by simp [opIx, seqOf, ixN]
theorem notin_two (σ ρ τ : List Int) : opNotIn (T σ) (.tup [T ρ, T τ]) = some (.bl (decide (σ ≠ ρ ∧ σ ≠ τ))) := by
  have o1 : (D.tup [T ρ, T τ]).ok = true := by show D.okN _ 60 = true; simp [D.okN, D.okNs, okNs_intD]
  have o2 : (T σ).ok = true := by show D.okN _ 60 = true; simp
  simp only [opNotIn, opIn, o1, o2, Bool.and_self, if_true, Option.bind_some]
  simp only [List.any_cons, List.any_nil, T_eq, Bool.or_false, Option.some.injEq, D.bl.injEq]
  rw [show decide (ρ = σ) = decide (σ = ρ) from decide_eq_decide.mpr ⟨Eq.symm, Eq.symm⟩, show decide (τ = σ) = decide (σ = τ) from decide_eq_decide.mpr ⟨Eq.symm, Eq.symm⟩]
  by_cases h1 : σ = ρ <;> by_cases h2 : σ = τ <;> simp [h1, h2]
theorem Rooted.le {w ρ : List Int} {n : Nat} (a : Rooted w ρ n) : n ≤ w.length := by
  rcases a with ⟨_, _, rfl⟩ | ⟨w0, h, r, d, p, i, _, rfl⟩
  · omega
  · have := PartsU.len p
    have := Nat.div_le_self r.length d
    omega
theorem power_in_ok {l : Int} {xs ys ρ σ : List Int} {n k : Nat} (h : 1 ≤ l ∧ l ≤ 8) (g : Good l xs) (g2 : Good l ys) (a : Rooted (red xs) ρ n) (b : Rooted (red ys) σ k) :
    M_power_in [.int l, T xs, T ys] S = some (.ok (optI (powerOf ρ n σ k)) S) := by
  obtain ⟨ρ', n', e1, a', hρ⟩ := rooted_ok (S := S) (red_red xs) (g.red).le
  obtain ⟨σ', k', e2, b', _⟩ := rooted_ok (S := S) (red_red ys) (g2.red).le
  obtain ⟨rfl, rfl⟩ := a.uniq a'
  obtain ⟨rfl, rfl⟩ := b.uniq b'
  have bk := back_of_ok (S := S) (xs := ρ) (by omega)
  have hk2 : k ≤ 2000 := Nat.le_trans (Rooted.le b) (g2.red).le
  by_cases n0 : n = 0
  · subst n0
    simp [M_power_in, need_course_ok h g, need_course_ok h g2, plain_of_ok g.big, plain_of_ok g2.big, e1, e2, powerOf, optI, D.pure]
  · have n0' : ¬ (n : Int) = 0 := by omega
    by_cases k0 : k = 0
    · subst k0
      simp [M_power_in, need_course_ok h g, need_course_ok h g2, plain_of_ok g.big, plain_of_ok g2.big, e1, e2, powerOf, optI, n0, D.pure]
    · have k0' : ¬ (k : Int) = 0 := by omega
      have hm : opMod (.int n) (.int k) = some (.int ((n % k : Nat) : Int)) := by rw [mod_pos (by omega)]; simp
      have hd : opDiv (.int n) (.int k) = some (.int ((n / k : Nat) : Int)) := by rw [div_pos (by omega) (by omega)]; simp
      by_cases d : n % k = 0
      · have hn := notin_two σ ρ (inv ρ)
        by_cases s1 : σ = ρ
        · subst s1
          simp [M_power_in, need_course_ok h g, need_course_ok h g2, plain_of_ok g.big, plain_of_ok g2.big, e1, e2, powerOf, optI, n0, k0, hm, hd, d, bk, hn, LINE, D.pure]
        · by_cases s2 : σ = inv ρ
          · have s3 : ¬ inv ρ = ρ := fun z => s1 (s2.trans z)
            subst s2
            simp [M_power_in, need_course_ok h g, need_course_ok h g2, plain_of_ok g.big, plain_of_ok g2.big, e1, e2, powerOf, optI, n0, k0, hm, hd, d, bk, hn, s3, LINE, D.pure]
          · simp [M_power_in, need_course_ok h g, need_course_ok h g2, plain_of_ok g.big, plain_of_ok g2.big, e1, e2, powerOf, optI, n0, k0, hm, hd, d, bk, hn, s1, s2, LINE, D.pure]
      · have d' : ¬ ((n % k : Nat) : Int) = 0 := by omega
        have d2 : ¬ (n : Int) % (k : Int) = 0 := by
          have : (n : Int) % (k : Int) = ((n % k : Nat) : Int) := by simp
          rw [this]; exact d'
        simp [M_power_in, need_course_ok h g, need_course_ok h g2, plain_of_ok g.big, plain_of_ok g2.big, e1, e2, powerOf, optI, n0, k0, hm, hd, d, d2, bk, LINE, D.pure]
end
end LM

set_option linter.all false
set_option maxRecDepth 10000
/-! # LS: what the laws have in common -/
namespace PL
/-- a statement, then what follows, by what is wanted in the end -/
theorem wp_seq {s s' : MS} {δ δ1 : Env} {S S1 : Sto} {Q : RS → Prop} (h : s δ S = some (.nx δ1 S1)) (k : ∃ r, s' δ1 S1 = some r ∧ Q r) : ∃ r, mSeq s s' δ S = some r ∧ Q r := by
  obtain ⟨r, e, q⟩ := k
  exact ⟨r, by simp [h, e], q⟩
theorem wp_seq' {s s' : MS} {δ : Env} {S : Sto} {Q : RS → Prop} (P : Env → Sto → Prop) (h : ∃ δ1 S1, s δ S = some (.nx δ1 S1) ∧ P δ1 S1) (k : ∀ δ1 S1, P δ1 S1 → ∃ r, s' δ1 S1 = some r ∧ Q r) : ∃ r, mSeq s s' δ S = some r ∧ Q r := by
  obtain ⟨δ1, S1, e, p⟩ := h
  exact wp_seq e (k δ1 S1 p)
theorem try_ok {fn : Nat → String} {b : MS} {hs : List Hd} {δ : Env} {S : Sto} {r : RS} (h : b δ S = some r) (q : quietR r = true) : mTry fn b hs δ S = some r := by
  unfold mTry
  rw [h]
  cases r <;> first | rfl | cases q
theorem try_take {fn : Nat → String} {b : MS} {h : Hd} {hs : List Hd} {δ δ1 : Env} {S S1 : Sto} {x : Exn} {r : RS} (e : b δ S = some (.ex x δ1 S1)) (t : h.takes x.cls = some true) (hr : ∀ a d, h.run fn x δ1 S1 a d = some r) (q : quietR r = true) : mTry fn b (h :: hs) δ S = some r := by
  unfold mTry
  rw [e]
  simp only [hdsRun, t, mAll_const hr, Option.bind_some, q, if_true]
theorem try_pass {fn : Nat → String} {b : MS} {h : Hd} {hs : List Hd} {δ δ1 : Env} {S S1 : Sto} {x : Exn} (e : b δ S = some (.ex x δ1 S1)) (t : h.takes x.cls = some false) : mTry fn b (h :: hs) δ S = mTry fn b hs δ S := by
  unfold mTry
  rw [e]
  simp only [hdsRun, t]
theorem wp_end {s : MS} {δ δ1 : Env} {S S1 : Sto} {Q : RS → Prop} (h : s δ S = some (.nx δ1 S1)) (q : Q (.nx δ1 S1)) : ∃ r, s δ S = some r ∧ Q r := ⟨_, h, q⟩
theorem fn_of {np nl : Nat} {body : MS} {ds : List D} {S S1 : Sto} {d : D} (hl : ds.length = np) (h : ∃ r, body (ds.map some ++ List.replicate nl none) S = some r ∧ r = .rt d S1) (hp : d.pure = true) : mFn np nl body ds S = some (.ok d (S1.take S.length)) := by
  obtain ⟨r, e, rfl⟩ := h
  unfold mFn
  rw [if_pos hl, e]
  simp [hp]
theorem seq_nx {s s' : MS} {δ δ1 : Env} {S S1 : Sto} (h : s δ S = some (.nx δ1 S1)) : mSeq s s' δ S = s' δ1 S1 := by simp [h]
end PL
namespace LM
open PL PW
section
variable {ω : D → List Nat} {S : Sto} {R : Sto}
theorem ne_str {s : List Nat} : opNe (.str s) (.str s) = some (.bl false) := by
  simp only [opNe, beq_self_eq_true, Bool.not_true]
theorem eq_str {s : List Nat} : opEq (.str s) (.str s) = some (.bl true) := by
  simp only [opEq, beq_self_eq_true]
theorem big_nat {n : Nat} (h : n < 18446744073709551616) : n < 2 ^ 1900 := Nat.lt_of_lt_of_le h (Nat.le_trans (by decide : 18446744073709551616 ≤ 2 ^ 64) (Nat.pow_le_pow_right (by decide) (by decide)))
theorem wt_int {i : Int} (h : i.natAbs < 18446744073709551616) : (D.int i).wt = some 2000 := by simp only [D.wt]; rw [if_pos (big_nat h)]
theorem repr_int {i : Int} (h : i.natAbs < 18446744073709551616) : biRepr ω S [.int i] = some (.str (ω (.int i))) := by simp [biRepr, wt_int h, LINE]
theorem repr_non : biRepr ω S [.non] = some (.str (ω .non)) := by simp [biRepr, D.okN, D.wt, LINE]
theorem repr_bl (b : Bool) : biRepr ω S [.bl b] = some (.str (ω (.bl b))) := by simp [biRepr, D.okN, D.wt, LINE]
theorem wts_ints {xs : List Int} (h : ∀ x ∈ xs, x.natAbs ≤ 8) : D.wts (intD xs) = some (2002 * xs.length) := by
  induction xs with
  | nil => rfl
  | cons x xs ih =>
    have hx := h x List.mem_cons_self
    simp only [intD_cons, D.wts, wt_int (show x.natAbs < 18446744073709551616 by omega), ih fun y hy => h y (List.mem_cons_of_mem _ hy), Option.map_some, List.length_cons]
    congr 1; omega
theorem wt_T {xs : List Int} (h : ∀ x ∈ xs, x.natAbs ≤ 8) : (T xs).wt = some (2002 * xs.length + 3) := by simp [D.wt, wts_ints h]
theorem repr_T {xs : List Int} (hx : ∀ x ∈ xs, x.natAbs ≤ 8) (h : xs.length ≤ 8000) : biRepr ω S [T xs] = some (.str (ω (T xs))) := by
  have h1 : (T xs).ok = true := by show D.okN _ 60 = true; simp
  simp only [biRepr, h1, wt_T hx, if_true]
  rw [if_pos (by simp only [LINE]; omega)]
theorem repr_TT {xs ys : List Int} (hx : ∀ x ∈ xs, x.natAbs ≤ 8) (hy : ∀ x ∈ ys, x.natAbs ≤ 8) (h : xs.length + ys.length ≤ 8000) : biRepr ω S [.tup [T xs, T ys]] = some (.str (ω (.tup [T xs, T ys]))) := by
  have h1 : (D.tup [T xs, T ys]).okN 60 = true := by simp [D.okN, D.okNs, okNs_intD]
  have h2 : (D.tup [T xs, T ys]).wt = some (2002 * xs.length + 3 + 2 + (2002 * ys.length + 3 + 2) + 3) := by
    simp [D.wt, D.wts, wts_ints hx, wts_ints hy]
  simp only [biRepr, h1, h2, if_true]
  rw [if_pos (by simp only [LINE]; omega)]
theorem Good.small {l : Int} {xs : List Int} (g : Good l xs) (h : l ≤ 8) : ∀ x ∈ xs, x.natAbs ≤ 8 := fun x hx => by have := g.2 x hx; omega
theorem Good.cat {l : Int} {xs ys : List Int} (a : Good l xs) (b : Good l ys) (h : xs.length + ys.length ≤ 2000) : Good l (xs ++ ys) := ⟨by simpa using h, fun x hx => by
  rcases List.mem_append.mp hx with q | q
  · exact a.2 x q
  · exact b.2 x q⟩
theorem Good.inv {l : Int} {xs : List Int} (a : Good l xs) : Good l (PW.inv xs) := ⟨by rw [inv_length]; exact a.1, fun x hx => by
  unfold PW.inv at hx
  simp at hx
  obtain ⟨y, hy, rfl⟩ := hx
  have := a.2 y hy
  omega⟩
theorem Good.nil {l : Int} : Good l [] := ⟨by simp, by simp⟩
theorem Good.rep {l : Int} {xs : List Int} (a : Good l xs) {n : Nat} (h : n * xs.length ≤ 2000) : Good l (PW.rep n xs) := ⟨by rw [rep_len]; exact h, fun x hx => a.2 x (by
  induction n with
  | zero => simp [rep_zero] at hx
  | succ n ih =>
    rw [rep_succ] at hx
    rcases List.mem_append.mp hx with q | q
    · exact q
    · exact ih (by rw [Nat.succ_mul] at h; omega) q)⟩
theorem Good.pow {l : Int} {xs : List Int} (a : Good l xs) {m : Int} (h : m.natAbs * xs.length ≤ 2000) : Good l (LM.pow xs m) := by
  unfold LM.pow
  split
  · exact a.rep (by rwa [show m.toNat = m.natAbs by omega])
  · exact a.inv.rep (by rwa [inv_length, show (-m).toNat = m.natAbs by omega])
theorem pow_len (xs : List Int) (m : Int) : (LM.pow xs m).length = m.natAbs * xs.length := by
  unfold LM.pow
  split
  · rw [rep_len, show m.toNat = m.natAbs by omega]
  · rw [rep_len, inv_length, show (-m).toNat = m.natAbs by omega]
theorem intsOf_ints (xs : List Int) : intsOf (intD xs) = some xs := by
  induction xs with
  | nil => rfl
  | cons x xs ih => rw [intD_cons]; simp [intsOf, ih]
theorem begun_ok {cells : List Int} (hl : cells.length ≤ 63) : ∃ l, M__law_begun [L cells] [] = some (.ok (.ref 0) [.law cells 0 l]) := by
  refine ⟨cells.filter fun i => decide (1000000000000000000 ≤ i), ?_⟩
  have e := compL_run (t := .name 1) (c := mB (mBin opGe (mBI biInt (mConsA (mVar 1) mNilA)) (mBin opPow (mC (.int 10)) (mC (.int 18))))) (e := mBI biInt (mConsA (mVar 1) mNilA)) (δ := [some (L cells), none]) (S := [])
    (fun d => match d with | .int i => decide (1000000000000000000 ≤ i) | _ => false) (fun d => d) (intD cells) [] (by
    intro d hd
    obtain ⟨i, _, rfl⟩ := List.mem_map.mp hd
    have hp : opPow (.int 10) (.int 18) = some (.int 1000000000000000000) := by simp [opPow]
    exact ⟨[some (L cells), some (.int i)], by simp, by simp [hp], fun _ => by simp⟩)
  have hf : ((intD cells).filter fun d => match d with | .int i => decide (1000000000000000000 ≤ i) | _ => false) = intD (cells.filter fun i => decide (1000000000000000000 ≤ i)) := by
    unfold intD
    rw [List.filter_map]
    congr 1
  rw [hf] at e
  simp only [List.nil_append, List.map_id'] at e
  have hz : cells.length ≤ 16777216 := by omega
  simp [M__law_begun, mNewLaw, biList, seqOf, LINE, hz, wipeD, e, intsOf_ints]
/-- the names of a law's def: the script, the draws' state -/
structure LEnv (n : Nat) (ns : List Int) (δ : Env) : Prop where
  len : δ.length = n
  script : δ[0]? = some (some (L ns))
  draws : δ[1]? = some (some (.ref 0))
theorem LEnv.set {n : Nat} {ns : List Int} {δ : Env} (h : LEnv n ns δ) {i : Nat} {d : Option D} (hi : 2 ≤ i) : LEnv n ns (δ.set i d) :=
  ⟨by rw [List.length_set]; exact h.len, by rw [List.getElem?_set_ne (by omega)]; exact h.script, by rw [List.getElem?_set_ne (by omega)]; exact h.draws⟩
/-- the turns of a law: for turn in range(a + min(len(script), b)) -/
theorem turns_ok {n i a b step : Nat} {ns : List Int} {body : MS} (hns : ns.length ≤ 63) (hi : 2 ≤ i) (ha : a ≤ 100) (hb : b ≤ 100)
    (hbody : ∀ δ k lf, LEnv n ns δ → k + step ≤ 400000000 → ∃ r, body δ [.law ns k lf] = some r ∧ ∃ δ' k' lf', r = .nx δ' [.law ns k' lf'] ∧ LEnv n ns δ' ∧ k' ≤ k + step) {δ : Env} {k : Nat} {lf : List Int} (h : LEnv n ns δ) (hk : k + 300 * step ≤ 400000000) :
    ∃ δ' k' lf', mFor (.name i) (mItRange1 (mBin opAdd (mC (.int a)) (mBI biMin (mConsA (mBI biLen (mConsA (mVar 0) mNilA)) (mConsA (mC (.int b)) mNilA))))) body δ [.law ns k lf] = some (.nx δ' [.law ns k' lf']) ∧ LEnv n ns δ' ∧ k' ≤ k + 300 * step := by
  obtain ⟨c, hc, hc2⟩ : ∃ c : Nat, (if (b : Int) < ns.length then (b : Int) else ns.length) = c ∧ c ≤ 100 := by
    by_cases q : (b : Int) < ns.length
    · exact ⟨b, by rw [if_pos q], hb⟩
    · exact ⟨ns.length, by rw [if_neg q], by omega⟩
  obtain ⟨δ', S', e, k', lf', rfl, hk', hδ'⟩ := forL_run (t := .name i) (b := body)
    (fun ds δ S' => ∃ k' lf', S' = [.law ns k' lf'] ∧ k' + ds.length * step ≤ k + (a + c) * step ∧ LEnv n ns δ) (by
      rintro d ds δ S' ⟨k', lf', rfl, hk', hδ⟩
      rw [List.length_cons, Nat.succ_mul] at hk'
      have h2 : (a + c) * step ≤ 200 * step := Nat.mul_le_mul_right _ (by omega)
      obtain ⟨r, e, δ2, k2, lf2, rfl, h3, h4⟩ := hbody (δ.set i (some d)) k' lf' (hδ.set hi) (by omega)
      exact ⟨δ.set i (some d), by simp, δ2, _, .inl e, k2, lf2, rfl, by omega, h3⟩)
    (rangeD 0 (a + c)) δ [.law ns k lf] ⟨k, lf, rfl, by rw [rangeD_len]; exact Nat.le_refl _, h⟩
  refine ⟨δ', k', lf', ?_, hδ', ?_⟩
  · have hbg : ((a : Int) + (c : Int)).natAbs < 4611686018427387904 := by omega
    have hm : biMin [.law ns k lf] [.int ns.length, .int b] = some (.int c) := by rw [min_intD, hc]
    have hr : ((a : Int) + (c : Int)).toNat = a + c := by omega
    have it : mItRange1 (mBin opAdd (mC (.int a)) (mBI biMin (mConsA (mBI biLen (mConsA (mVar 0) mNilA)) (mConsA (mC (.int b)) mNilA)))) δ [.law ns k lf] = some (.ok (rangeD 0 (a + c)) [.law ns k lf]) := by
      have hL : biLen [.law ns k lf] [L ns] = some (.int ns.length) := len_L _ _
      simp only [s_mItRange1, s_mBin, s_mC, s_mBI, s_mConsA, s_mNilA, s_mVar, h.script, bE_ok, bEA_ok, bAA_ok, bA_ok, hL, hm, Option.map_some, add_int]
      rw [if_pos hbg, hr]
    rw [s_mFor, it]
    exact e
  · have h2 : (a + c) * step ≤ 200 * step := Nat.mul_le_mul_right _ (by omega)
    simp at hk'
    omega
theorem opNe_same {d : D} (h : d.ok = true) (e : eqD d d = true) : opNe d d = some (.bl false) := by
  cases d <;> simp_all [opNe, opNeO]
theorem eqD_TT (a b c d : List Int) : eqD (.tup [T a, T b]) (.tup [T c, T d]) = (decide (a = c) && decide (b = d)) := by
  simp only [eqD, eqDs, eqDs_intD, Bool.and_true]
theorem ok_TT (a b : List Int) : (D.tup [T a, T b]).ok = true := by show D.okN _ 60 = true; simp [D.okN, D.okNs, okNs_intD]
theorem ok_TI (a : List Int) (n : Int) : (D.tup [T a, .int n]).ok = true := by show D.okN _ 60 = true; simp [D.okN, D.okNs, okNs_intD]
theorem ne_TT (a b c d : List Int) : opNe (.tup [T a, T b]) (.tup [T c, T d]) = some (.bl (!(decide (a = c) && decide (b = d)))) := by
  simp only [opNe, opNeO, ok_TT, Bool.and_self, if_true, eqD_TT]
theorem ne_TI (a c : List Int) (n m : Int) : opNe (.tup [T a, .int n]) (.tup [T c, .int m]) = some (.bl (!(decide (a = c) && decide (n = m)))) := by
  simp only [opNe, opNeO, ok_TI, Bool.and_self, if_true, eqD, eqDs, eqDs_intD, Bool.and_true, Bool.beq_eq_decide_eq]
theorem eq_TI (a c : List Int) (n m : Int) : opEq (.tup [T a, .int n]) (.tup [T c, .int m]) = some (.bl (decide (a = c) && decide (n = m))) := by
  simp only [opEq, opEqO, ok_TI, Bool.and_self, if_true, eqD, eqDs, eqDs_intD, Bool.and_true, Bool.beq_eq_decide_eq]
theorem ring_part_ok {l : Int} {xs h r : List Int} (hl : 1 ≤ l ∧ l ≤ 8) (g : Good l xs) (p : PartsU (red xs) h r) : M_ring_part [.int l, T xs] S = some (.ok (.tup [T h, T r]) S) := by
  have e := parted_of (S := S) (g.red).le p
  simp [M_ring_part, need_course_ok hl g, plain_of_ok g.big, e, D.pure, D.pures]
theorem root_of_ok {l : Int} {xs ρ : List Int} {n : Nat} (hl : 1 ≤ l ∧ l ≤ 8) (g : Good l xs) (a : Rooted (red xs) ρ n) : M_root_of [.int l, T xs] S = some (.ok (.tup [T ρ, .int n]) S) := by
  obtain ⟨ρ', n', e, a', _⟩ := rooted_ok (S := S) (red_red xs) (g.red).le
  obtain ⟨rfl, rfl⟩ := a.uniq a'
  simp [M_root_of, need_course_ok hl g, plain_of_ok g.big, e, D.pure, D.pures]
theorem Rooted.redρ {w ρ : List Int} {n : Nat} (a : Rooted w ρ n) (rw' : Red w) (nz : NZ w) : Red ρ := by
  rcases a with ⟨_, rfl, _⟩ | ⟨w0, h, r, d, p, i, rfl, rfl⟩
  · trivial
  · exact (root_parts p i rw' nz w0).1
theorem Rooted.good {l : Int} {w ρ : List Int} {n : Nat} (a : Rooted w ρ n) (g : Good l w) : Good l ρ ∧ ρ.length ≤ w.length := by
  rcases a with ⟨_, rfl, _⟩ | ⟨w0, h, r, d, p, i, rfl, rfl⟩
  · exact ⟨Good.nil, by simp⟩
  · have hlen := PartsU.len p
    have h1 : (h ++ r.take d ++ PW.inv h).length ≤ w.length := by simp [inv_length]; omega
    refine ⟨⟨by have := g.1; omega, fun x hx => ?_⟩, h1⟩
    refine g.2 x ?_
    rw [p.eq]
    rcases List.mem_append.mp hx with q | q
    · rcases List.mem_append.mp q with q | q
      · simp [q]
      · simp [List.mem_of_mem_take q]
    · simp [q]
theorem times_root {w ρ : List Int} {n : Nat} (a : Rooted w ρ n) (rw' : Red w) (nz : NZ w) (hl : w.length ≤ 2000) (hρ : ρ.length ≤ 2000) : M_times_of [T ρ, .int n] S = some (.ok (T w) S) := by
  have hn := Rooted.le a
  rcases a with ⟨rfl, rfl, rfl⟩ | ⟨w0, h, r, d, p, i, rfl, rfl⟩
  · have p : PartsU [] [] [] := ⟨rfl, .inl (by simp)⟩
    rw [times_of_gen p (by simp) (by simp)]
    simp
  · have hr := p.ring rw' w0
    obtain ⟨hd, hk⟩ := ring_pos i hr
    obtain ⟨_, _, p2⟩ := root_parts p i rw' nz w0
    rw [times_of_gen p2 hρ (by omega)]
    have e1 : (((r.length / d : Nat) : Int)).natAbs = r.length / d := by omega
    have e2 : (r.take d).length * (r.length / d) = r.length := by
      rw [List.length_take, Nat.min_eq_left hd]
      exact Nat.mul_div_cancel' i.dvd
    have hlen := PartsU.len p
    rw [if_neg (by simp [beg_ne i hr]; omega), e1, e2, if_neg (by omega), if_neg (by omega), ← i.eq, ← p.eq]
theorem times_root_ok {l : Int} {w ρ : List Int} {n : Nat} (h : 1 ≤ l ∧ l ≤ 8) (a : Rooted w ρ n) (rw' : Red w) (g : Good l w) : M_times [.int l, T ρ, .int n] S = some (.ok (T w) S) := by
  obtain ⟨g1, h1⟩ := Rooted.good a g
  have h2 := g.1
  have e := times_root (S := S) a rw' g.nz h2 (by omega)
  have hr := Rooted.redρ a rw' g.nz
  have hn := Rooted.le a
  have p := plain_of_ok (S := S) (xs := ρ) g1.big
  rw [red_id hr] at p
  have am : decide ((-1000000000 : Int) ≤ (n : Int) ∧ (n : Int) ≤ 1000000000) = true := by simp; omega
  have ia := is_among_ok (S := S) (n : Int) (-1000000000) 1000000000
  rw [am] at ia
  simp [M_times, need_course_ok h g1, ia, p, e]
theorem power_in_bad {l : Int} {xs : List Int} {c p : D} (h : 1 ≤ l ∧ l ≤ 8) (g : Good l xs) (hc : dat c = true) (hi : ∀ ds, c = .tup ds → ∀ d ∈ ds, dat d = true) (hp : c.pure = true) (q : courseBad l c = some p) (hpp : p.pure = true) :
    M_power_in [.int l, T xs, c] S = some (.ex ⟨0, p⟩ S) := by
  have e := need_course_gen (S := S) h hc hi hp
  rw [q] at e
  obtain ⟨ρ, n, e1, _, _⟩ := rooted_ok (S := S) (red_red xs) (g.red).le
  simp [M_power_in, need_course_ok h g, plain_of_ok g.big, e1, e, hpp]
end
end LM

set_option linter.all false
/-! # PT: the order of words, the least of all turnings round -/
namespace LM
open PL PW
/-- words of one length, in order -/
def lx : List Int → List Int → Bool
  | x :: xs, y :: ys => if x = y then lx xs ys else decide (kn x < kn y)
  | [], _ :: _ => true
  | _, [] => false
theorem lx_ltDs : ∀ xs ys : List Int, ltDs (intD (xs.map kn)) (intD (ys.map kn)) = lx xs ys
  | [], [] => rfl
  | [], _ :: _ => rfl
  | _ :: _, [] => rfl
  | x :: xs, y :: ys => by
    simp only [List.map_cons, intD_cons, ltDs, eqD_int, lx, lx_ltDs xs ys]
    by_cases h : x = y
    · simp [h]
    · have : ¬ kn x = kn y := fun z => h ((kn_inj x y).mp z)
      simp [h, this, ltD]
theorem lx_irr : ∀ xs : List Int, lx xs xs = false
  | [] => rfl
  | x :: xs => by simp [lx, lx_irr xs]
theorem lx_trans : ∀ {a b c : List Int}, lx a b = true → lx b c = true → lx a c = true
  | [], [], _, h, _ => by cases h
  | [], _ :: _, [], _, h => by cases h
  | [], _ :: _, _ :: _, _, _ => rfl
  | _ :: _, [], _, h, _ => by cases h
  | _ :: _, _ :: _, [], _, h => by cases h
  | x :: a, y :: b, z :: c, h, k => by
    simp only [lx] at h k ⊢
    by_cases e1 : x = y
    · subst e1
      rw [if_pos rfl] at h
      by_cases e2 : x = z
      · subst e2; rw [if_pos rfl] at k ⊢; exact lx_trans h k
      · rw [if_neg e2] at k ⊢; exact k
    · rw [if_neg e1] at h
      by_cases e2 : y = z
      · subst e2; rw [if_neg e1]; exact h
      · rw [if_neg e2] at k
        simp only [decide_eq_true_eq] at h k
        have : ¬ x = z := fun q => by rw [q] at h; omega
        rw [if_neg this]
        simp only [decide_eq_true_eq]; omega
theorem lx_tot : ∀ {a b : List Int}, lx a b = false → lx b a = false → a = b
  | [], [], _, _ => rfl
  | [], _ :: _, h, _ => by cases h
  | _ :: _, [], _, h => by cases h
  | x :: a, y :: b, h, k => by
    simp only [lx] at h k
    by_cases e : x = y
    · subst e; rw [if_pos rfl] at h k; rw [lx_tot h k]
    · rw [if_neg e] at h
      rw [if_neg fun z => e z.symm] at k
      simp only [decide_eq_false_iff_not] at h k
      have : kn x = kn y := by omega
      exact absurd ((kn_inj x y).mp this) e
/-- the order of courses -/
theorem before_eq (xs ys : List Int) : before xs ys = if xs.length = ys.length then lx xs ys else decide (xs.length < ys.length) := by
  unfold before
  split
  · rw [lx_ltDs]
    split
    · rename_i e; rw [e, lx_irr]
    · rfl
  · rfl
theorem bf_irr (a : List Int) : before a a = false := by rw [before_eq, if_pos rfl, lx_irr]
theorem bf_trans {a b c : List Int} (h : before a b = true) (k : before b c = true) : before a c = true := by
  rw [before_eq] at h k ⊢
  by_cases e1 : a.length = b.length
  · rw [if_pos e1] at h
    by_cases e2 : b.length = c.length
    · rw [if_pos e2] at k; rw [if_pos (e1.trans e2)]; exact lx_trans h k
    · rw [if_neg e2] at k; rw [if_neg (by omega)]; simp at k ⊢; omega
  · rw [if_neg e1] at h
    simp only [decide_eq_true_eq] at h
    by_cases e2 : b.length = c.length
    · rw [if_neg (by omega)]; simp; omega
    · rw [if_neg e2] at k; simp only [decide_eq_true_eq] at k; rw [if_neg (by omega)]; simp; omega
theorem bf_tot {a b : List Int} (h : before a b = false) (k : before b a = false) : a = b := by
  rw [before_eq] at h k
  by_cases e : a.length = b.length
  · rw [if_pos e] at h; rw [if_pos e.symm] at k; exact lx_tot h k
  · rw [if_neg e] at h; rw [if_neg (by omega)] at k; simp only [decide_eq_false_iff_not] at h k; omega
theorem bf_len {a b : List Int} (h : a.length < b.length) : before a b = true := by
  rw [before_eq, if_neg (by omega)]; simpa using h
theorem bf_le {a b c : List Int} (h : before b a = false) (k : before c b = false) : before c a = false := by
  cases q : before c a with
  | false => rfl
  | true =>
    cases p : before b c with
    | true => rw [bf_trans p q] at h; cases h
    | false => rw [bf_tot p k] at h; rw [h] at q; cases q
/-- words told apart by their first unlike places -/
theorem lx_iff : ∀ {u v : List Int}, u.length = v.length → (lx u v = true ↔ ∃ t, t < u.length ∧ (∀ s, s < t → u[s]? = v[s]?) ∧ ∃ a b, u[t]? = some a ∧ v[t]? = some b ∧ kn a < kn b)
  | [], [], _ => by
    constructor
    · intro h; cases h
    · rintro ⟨t, h, _⟩; simp at h
  | [], _ :: _, h => by simp at h
  | _ :: _, [], h => by simp at h
  | x :: u, y :: v, h => by
    have h' : u.length = v.length := by simpa using h
    have ih := lx_iff h'
    simp only [lx]
    by_cases e : x = y
    · subst e
      rw [if_pos rfl, ih]
      constructor
      · rintro ⟨t, h1, h2, a, b, h3, h4, h5⟩
        refine ⟨t + 1, by simp; omega, fun s hs => ?_, a, b, by simpa using h3, by simpa using h4, h5⟩
        cases s with
        | zero => rfl
        | succ s => simpa using h2 s (by omega)
      · rintro ⟨t, h1, h2, a, b, h3, h4, h5⟩
        cases t with
        | zero =>
          simp at h3 h4
          subst h3 h4; omega
        | succ t => exact ⟨t, by simp at h1; omega, fun s hs => by simpa using h2 (s + 1) (by omega), a, b, by simpa using h3, by simpa using h4, h5⟩
    · rw [if_neg e]
      simp only [decide_eq_true_eq]
      constructor
      · intro q
        exact ⟨0, by simp, fun s hs => by omega, x, y, rfl, rfl, q⟩
      · rintro ⟨t, h1, h2, a, b, h3, h4, h5⟩
        cases t with
        | zero =>
          simp at h3 h4
          subst h3 h4; exact h5
        | succ t =>
          have := h2 0 (by omega)
          simp at this
          exact absurd this e
/-! ### turned round -/
def rot (r : List Int) (i : Nat) : List Int := r.drop i ++ r.take i
theorem rot_len (r : List Int) {i : Nat} (h : i ≤ r.length) : (rot r i).length = r.length := by simp [rot]; omega
/-- the sign at a place of a ring -/
def cy (r : List Int) (i : Nat) : Int := r.getD (i % r.length) 0
theorem rot_get (r : List Int) {i s : Nat} (hi : i < r.length) (hs : s < r.length) : (rot r i)[s]? = some (cy r (i + s)) := by
  unfold rot cy
  by_cases h : i + s < r.length
  · rw [List.getElem?_append_left (by simp; omega), List.getElem?_drop, Nat.mod_eq_of_lt h, List.getD_eq_getElem?_getD, List.getElem?_eq_getElem h]; rfl
  · rw [List.getElem?_append_right (by simp; omega)]
    have e : s - (r.drop i).length = i + s - r.length := by simp; omega
    have m : (i + s) % r.length = i + s - r.length := by rw [Nat.mod_eq_sub_mod (by omega), Nat.mod_eq_of_lt (by omega)]
    have l : i + s - r.length < r.length := by omega
    rw [e, m, List.getElem?_take_of_lt (by omega), List.getD_eq_getElem?_getD, List.getElem?_eq_getElem l]; rfl
theorem cy_mod (r : List Int) (i : Nat) : cy r (i % r.length) = cy r i := by unfold cy; rw [Nat.mod_mod]
theorem cy_add (r : List Int) (i s : Nat) : cy r (i % r.length + s) = cy r (i + s) := by
  unfold cy; rw [Nat.mod_add_mod]
/-- the turning at i is before that at j -/
def Lt (r : List Int) (i j : Nat) : Prop := ∃ t, t < r.length ∧ (∀ s, s < t → cy r (i + s) = cy r (j + s)) ∧ kn (cy r (i + t)) < kn (cy r (j + t))
theorem Lt_mod {r : List Int} {i j : Nat} : Lt r i j ↔ Lt r (i % r.length) (j % r.length) := by
  unfold Lt
  simp only [cy_add]
theorem Lt_lx {r : List Int} {i j : Nat} (hi : i < r.length) (hj : j < r.length) : Lt r i j ↔ lx (rot r i) (rot r j) = true := by
  rw [lx_iff (by rw [rot_len r (by omega), rot_len r (by omega)]), rot_len r (by omega)]
  unfold Lt
  constructor
  · rintro ⟨t, h1, h2, h3⟩
    exact ⟨t, h1, fun s hs => by rw [rot_get r hi (by omega), rot_get r hj (by omega), h2 s hs], _, _, rot_get r hi h1, rot_get r hj h1, h3⟩
  · rintro ⟨t, h1, h2, a, b, h3, h4, h5⟩
    rw [rot_get r hi h1] at h3
    rw [rot_get r hj h1] at h4
    cases h3; cases h4
    refine ⟨t, h1, fun s hs => ?_, h5⟩
    have := h2 s hs
    rw [rot_get r hi (by omega), rot_get r hj (by omega)] at this
    exact Option.some.inj this
/-- a turning that is not the least -/
def Bad (r : List Int) (p : Nat) : Prop := ∃ q, Lt r q p
theorem Bad_mod {r : List Int} {p : Nat} (h : r ≠ []) : Bad r p ↔ ∃ q, q < r.length ∧ Lt r q (p % r.length) := by
  have hp := List.length_pos_iff.mpr h
  constructor
  · rintro ⟨q, h⟩
    exact ⟨q % r.length, Nat.mod_lt _ hp, Lt_mod.mp h⟩
  · rintro ⟨q, hq, h⟩
    refine ⟨q, Lt_mod.mpr ?_⟩
    rw [Nat.mod_eq_of_lt hq]; exact h
/-- there is a least one -/
theorem least_ex {r : List Int} (h : r ≠ []) : ∃ m, m < r.length ∧ ¬ Bad r m := by
  have hp := List.length_pos_iff.mpr h
  have main : ∀ n, n < r.length → ∃ m, m ≤ n ∧ ∀ q, q ≤ n → ¬ Lt r q m := by
    intro n
    induction n with
    | zero =>
      intro h0
      refine ⟨0, Nat.le_refl _, fun q hq hl => ?_⟩
      have : q = 0 := by omega
      subst this
      rw [Lt_lx h0 h0, lx_irr] at hl; cases hl
    | succ n ih =>
      intro hn
      obtain ⟨m, hm, h⟩ := ih (by omega)
      by_cases c : Lt r (n + 1) m
      · refine ⟨n + 1, Nat.le_refl _, fun q hq hl => ?_⟩
        rw [Lt_lx (by omega) hn] at hl
        by_cases e : q = n + 1
        · subst e; rw [lx_irr] at hl; cases hl
        · refine h q (by omega) ?_
          rw [Lt_lx (by omega) (by omega)] at c ⊢
          exact lx_trans hl c
      · refine ⟨m, by omega, fun q hq hl => ?_⟩
        by_cases e : q = n + 1
        · subst e; exact c hl
        · exact h q (by omega) hl
  obtain ⟨m, hm, h'⟩ := main (r.length - 1) (by omega)
  refine ⟨m, by omega, fun hb => ?_⟩
  obtain ⟨q, hq, hl⟩ := (Bad_mod h).mp hb
  rw [Nat.mod_eq_of_lt (by omega)] at hl
  exact h' q (by omega) hl
end LM

set_option linter.all false
/-! # PT2: the search of the least turning -/
namespace LM
open PL PW
/-- the first least turning -/
structure Spot (r : List Int) (m : Nat) : Prop where
  lt : m < r.length
  ok : ¬ Bad r m
  fst : ∀ p, p < m → Bad r p
theorem Spot.uniq {r : List Int} {m m' : Nat} (a : Spot r m) (b : Spot r m') : m = m' := by
  rcases Nat.lt_trichotomy m m' with h | h | h
  · exact absurd (b.fst m h) a.ok
  · exact h
  · exact absurd (a.fst m' h) b.ok
theorem spot_ex {r : List Int} (h : r ≠ []) : ∃ m, Spot r m := by
  obtain ⟨m, hm, hb⟩ := least_ex h
  have : ∀ n, n < r.length → ¬ Bad r n → ∃ m, Spot r m := by
    intro n
    induction n using Nat.strongRecOn with
    | _ n ih =>
      intro hn hb
      by_cases c : ∃ p, p < n ∧ ¬ Bad r p
      · obtain ⟨p, h1, h2⟩ := c
        exact ih p h1 (by omega) h2
      · exact ⟨n, hn, hb, fun p hp => by
          by_cases q : Bad r p
          · exact q
          · exact absurd ⟨p, hp, q⟩ c⟩
  exact this m hm hb
/-- what stands through the search -/
structure Sch (r : List Int) (b o z : Nat) : Prop where
  ne : b ≠ o
  zl : z ≤ r.length
  eq : ∀ s, s < z → cy r (b + s) = cy r (o + s)
  pb : ∀ p, p < b → p = o ∨ Bad r p
  po : ∀ p, p < o → p = b ∨ Bad r p
  lb : b ≤ 2 * r.length + 2
  lo : o ≤ 2 * r.length + 2
theorem Sch.start (r : List Int) : Sch r 0 1 0 := ⟨by omega, by omega, fun s h => by omega, fun p h => by omega, fun p h => .inl (by omega), by omega, by omega⟩
theorem Sch.swap {r : List Int} {b o z : Nat} (h : Sch r b o z) : Sch r o b z := ⟨h.ne.symm, h.zl, fun s hs => (h.eq s hs).symm, h.po, h.pb, h.lo, h.lb⟩
theorem Sch.same {r : List Int} {b o z : Nat} (h : Sch r b o z) (hz : z < r.length) (e : cy r (b + z) = cy r (o + z)) : Sch r b o (z + 1) :=
  ⟨h.ne, hz, fun s hs => by
    by_cases q : s = z
    · subst q; exact e
    · exact h.eq s (by omega), h.pb, h.po, h.lb, h.lo⟩
theorem Sch.bad {r : List Int} {b o z : Nat} (h : Sch r b o z) (hz : z < r.length) (g : kn (cy r (o + z)) < kn (cy r (b + z))) {t : Nat} (ht : t ≤ z) : Bad r (b + t) := by
  refine ⟨o + t, z - t, by omega, fun s hs => ?_, ?_⟩
  · have := h.eq (t + s) (by omega)
    rw [← Nat.add_assoc, ← Nat.add_assoc] at this
    exact this.symm
  · have e1 : o + t + (z - t) = o + z := by omega
    have e2 : b + t + (z - t) = b + z := by omega
    rw [e1, e2]; exact g
theorem Sch.step {r : List Int} {b o z : Nat} (h : Sch r b o z) (hb : b < r.length) (ho : o < r.length) (hz : z < r.length) (g : kn (cy r (o + z)) < kn (cy r (b + z))) :
    Sch r (b + z + 1) (if b + z + 1 = o then o + 1 else o) 0 := by
  have bd : ∀ p, p < b + z + 1 → p = o ∨ Bad r p := fun p hp => by
    by_cases q : p < b
    · exact h.pb p q
    · right
      have e : p = b + (p - b) := by omega
      rw [e]
      exact h.bad hz g (by omega)
  have bo : ∀ p, p < o → p = b + z + 1 ∨ Bad r p := fun p hp => by
    rcases h.po p hp with q | q
    · right
      rw [q]
      exact h.bad hz g (t := 0) (by omega)
    · exact .inr q
  split
  · rename_i e
    refine ⟨by omega, by omega, fun s hs => by omega, fun p hp => ?_, fun p hp => ?_, by omega, by omega⟩
    · rcases bd p hp with q | q
      · omega
      · exact .inr q
    · by_cases q : p = o
      · exact .inl (by omega)
      · exact bo p (by omega)
  · rename_i e
    exact ⟨by omega, by omega, fun s hs => by omega, bd, bo, by omega, by omega⟩
theorem Lt_same {r : List Int} {i j k : Nat} (e : ∀ s, s < r.length → cy r (i + s) = cy r (j + s)) : Lt r k i ↔ Lt r k j := by
  unfold Lt
  constructor
  · rintro ⟨t, h1, h2, h3⟩
    exact ⟨t, h1, fun s hs => by rw [h2 s hs, e s (by omega)], by rw [← e t h1]; exact h3⟩
  · rintro ⟨t, h1, h2, h3⟩
    exact ⟨t, h1, fun s hs => by rw [h2 s hs, e s (by omega)], by rw [e t h1]; exact h3⟩
theorem Bad_same {r : List Int} {i j : Nat} (e : ∀ s, s < r.length → cy r (i + s) = cy r (j + s)) : Bad r i ↔ Bad r j :=
  ⟨fun ⟨q, h⟩ => ⟨q, (Lt_same e).mp h⟩, fun ⟨q, h⟩ => ⟨q, (Lt_same e).mpr h⟩⟩
theorem cy_full (r : List Int) (i : Nat) : cy r (i + r.length) = cy r i := by unfold cy; rw [Nat.add_mod_right]
/-- where the search ends -/
theorem Sch.done {r : List Int} {b o z : Nat} (h : Sch r b o z) (hr : r ≠ []) (e : ¬ (max b o < r.length ∧ z < r.length)) : Spot r (min b o) := by
  obtain ⟨m, sp⟩ := spot_ex hr
  have hn := List.length_pos_iff.mpr hr
  have below : m < max b o → m = min b o := fun q => by
    by_cases q1 : m < b
    · rcases h.pb m q1 with c | c
      · omega
      · exact absurd c sp.ok
    · by_cases q2 : m < o
      · rcases h.po m q2 with c | c
        · omega
        · exact absurd c sp.ok
      · omega
  by_cases q : m < max b o
  · rw [← below q]; exact sp
  · -- then all signs are alike
    have hz : z = r.length := by
      have := h.zl
      have := sp.lt
      omega
    subst hz
    have all : ∀ s, cy r (b + s) = cy r (o + s) := fun s => by
      have := h.eq (s % r.length) (Nat.mod_lt _ hn)
      have m1 : ∀ x, cy r (x + s % r.length) = cy r (x + s) := fun x => by unfold cy; rw [Nat.add_mod_mod]
      rw [m1, m1] at this
      exact this
    -- by the distance of both
    have dist : ∀ lo hi, lo < hi → (∀ s, cy r (lo + s) = cy r (hi + s)) → ∀ x, cy r (x + (hi - lo)) = cy r x := fun lo hi hlt hall x => by
      -- x is lo + something round
      have e1 : ∃ s, (lo + s) % r.length = x % r.length := ⟨x + lo * (r.length - 1), by
        have : lo + (x + lo * (r.length - 1)) = x + lo * r.length := by
          obtain ⟨n, hn'⟩ : ∃ n, r.length = n + 1 := ⟨r.length - 1, by omega⟩
          rw [hn', Nat.add_sub_cancel, Nat.mul_succ]; omega
        rw [this, Nat.add_mul_mod_self_right]⟩
      obtain ⟨s, hs⟩ := e1
      have e2 : cy r x = cy r (lo + s) := by unfold cy; rw [hs]
      have e3 : cy r (x + (hi - lo)) = cy r (hi + s) := by
        have : (x + (hi - lo)) % r.length = (hi + s) % r.length := by
          have h1 : hi + s = (lo + s) + (hi - lo) := by omega
          rw [h1, Nat.add_mod x, Nat.add_mod (lo + s), hs]
        unfold cy; rw [this]
      rw [e2, e3, hall]
    have go : ∀ lo hi, lo < hi → hi = max b o → (∀ s, cy r (lo + s) = cy r (hi + s)) → False := fun lo hi hlt hh hall => by
      have d := dist lo hi hlt hall
      have b1 : Bad r (m - (hi - lo)) := sp.fst _ (by omega)
      refine sp.ok ((Bad_same fun s _ => ?_).mp b1)
      have e : m + s = m - (hi - lo) + s + (hi - lo) := by omega
      rw [e, d]
    rcases Nat.lt_or_gt_of_ne h.ne with c | c
    · exact (go b o c (by omega) all).elim
    · exact (go o b c (by omega) fun s => (all s).symm).elim
/-- the least word of all turned round -/
def Least (r W : List Int) : Prop := (r = [] ∧ W = []) ∨ (r ≠ [] ∧ ∃ i, i < r.length ∧ W = rot r i ∧ ∀ j, j < r.length → lx (rot r j) W = false)
theorem Least.uniq {r W W' : List Int} (a : Least r W) (b : Least r W') : W = W' := by
  rcases a with ⟨a1, a2⟩ | ⟨a0, i, a1, a2, a3⟩
  · rcases b with ⟨b1, b2⟩ | ⟨b0, _⟩
    · rw [a2, b2]
    · exact absurd a1 b0
  · rcases b with ⟨b1, b2⟩ | ⟨b0, j, b1, b2, b3⟩
    · exact absurd b1 a0
    · exact lx_tot (by rw [a2]; exact b3 i a1) (by rw [b2]; exact a3 j b1)
theorem Spot.least {r : List Int} {m : Nat} (s : Spot r m) : Least r (rot r m) := by
  have hr : r ≠ [] := fun z => by have := s.lt; rw [z] at this; simp at this
  refine .inr ⟨hr, m, s.lt, rfl, fun j hj => ?_⟩
  cases q : lx (rot r j) (rot r m) with
  | false => rfl
  | true => exact absurd ⟨j, (Lt_lx hj s.lt).mpr q⟩ s.ok
end LM

set_option linter.all false
/-! # PT3: what turns one course into another one -/
namespace PW
theorem red_in (u x v : List Int) : red (u ++ (red x ++ v)) = red (u ++ (x ++ v)) := by
  rw [red_append u (red x ++ v), red_left, ← red_append]
theorem red_mid' (u v w : List Int) : red (u ++ (w ++ (inv w ++ v))) = red (u ++ v) := by
  have := red_mid u v (inv w)
  rwa [inv_inv] at this
theorem red_end (u w : List Int) : red (u ++ (w ++ inv w)) = red u := by
  have := red_mid' u [] w
  simpa using this
theorem red_end' (u w : List Int) : red (u ++ (inv w ++ w)) = red u := by
  have := red_mid u [] w
  simpa using this
/-- u turns a into b -/
def Conj (a b u : List Int) : Prop := red (u ++ (a ++ inv u)) = b
theorem Conj.comp {a b c u v : List Int} (h : Conj a b u) (k : Conj b c v) : Conj a c (v ++ u) := by
  unfold Conj at *
  rw [← k, ← h]
  have := red_in v (u ++ (a ++ inv u)) (inv v)
  rw [this, inv_append]
  simp
theorem Conj.back {a b u : List Int} (h : Conj a b u) (ra : Red a) : Conj b a (inv u) := by
  unfold Conj at *
  rw [← h, inv_inv, red_in]
  have e : inv u ++ (u ++ (a ++ inv u) ++ u) = [] ++ (inv u ++ (u ++ (a ++ (inv u ++ u)))) := by simp
  rw [e, red_mid, List.nil_append, red_end', red_id ra]
theorem Conj.red {a b u : List Int} (h : Conj a b u) : Conj a b (PW.red u) := by
  unfold Conj at *
  rw [← h]
  have e1 := red_left u (a ++ inv (PW.red u))
  rw [e1, ← red_inv]
  have := red_append (u ++ a) (inv u)
  simp only [List.append_assoc] at this
  exact this.symm
theorem Conj.of_red {a b u : List Int} (h : Conj a b (PW.red u)) : Conj a b u := by
  unfold Conj at *
  rw [← h]
  have e1 := red_left u (a ++ inv (PW.red u))
  rw [e1, ← red_inv]
  have := red_append (u ++ a) (inv u)
  simp only [List.append_assoc] at this
  exact this
theorem Conj.nil {a : List Int} (ra : Red a) : Conj a a [] := by
  unfold Conj
  simp [inv, red_id ra]
/-- what turns a course into itself goes past it -/
theorem Conj.past {a z : List Int} (h : Conj a a z) : PW.red (a ++ z) = PW.red (z ++ a) := by
  have e : PW.red (PW.red (z ++ (a ++ inv z)) ++ z) = PW.red (z ++ a) := by
    rw [red_left]
    have : z ++ (a ++ inv z) ++ z = (z ++ a) ++ (inv z ++ z) := by simp
    rw [this, red_end']
  rw [← e, h]
theorem past_conj {a z : List Int} (ra : Red a) (h : PW.red (a ++ z) = PW.red (z ++ a)) : Conj a a z := by
  unfold Conj
  have e : PW.red (PW.red (z ++ a) ++ inv z) = a := by
    rw [← h, red_left, List.append_assoc, red_end, red_id ra]
  rw [red_left, List.append_assoc] at e
  exact e
open LM in
/-- a root's powers go past the course -/
theorem pow_past {a ρ : List Int} {n : Nat} (A : Rooted a ρ n) (ra : Red a) (nza : NZ a) (k : Int) : PW.red (a ++ pow ρ k) = PW.red (pow ρ k ++ a) := by
  have w := A.word ra nza
  have main : ∀ j : Nat, PW.red (a ++ rep j ρ) = PW.red (rep j ρ ++ a) := fun j => by
    rw [← w, red_left, ← red_append, ← rep_app, ← rep_app, Nat.add_comm]
  unfold pow
  split
  · exact main _
  · -- by the returns of both sides
    have m := main (-k).toNat
    have e : rep (-k).toNat (inv ρ) = inv (rep (-k).toNat ρ) := (inv_rep _ _).symm
    rw [e]
    generalize rep (-k).toNat ρ = p at *
    have c : Conj a a p := past_conj ra m
    exact (c.back ra).past
open LM in
/-- all that turns a into b, from one such -/
theorem conj_all {a b t u ρ : List Int} {n : Nat} (ra : Red a) (nza : NZ a) (a0 : a ≠ []) (A : Rooted a ρ n) (ht : Conj a b t) (hu : Conj a b u) (nzu : NZ (t ++ u))
    (ex : ∀ g : List Int, Red g → g.length ≤ max a.length (t.length + u.length) → ∃ γ m, Rooted g γ m) : ∃ k : Int, PW.red u = PW.red (t ++ pow ρ k) := by
  have rz : Red (PW.red (inv t ++ u)) := red_red _
  have nzz : NZ (PW.red (inv t ++ u)) := fun x hx => by
    have hx := red_mem hx
    rcases List.mem_append.mp hx with q | q
    · simp only [inv, List.mem_reverse, List.mem_map] at q
      obtain ⟨y, hy, rfl⟩ := q
      have := nzu y (by simp [hy])
      omega
    · exact nzu x (by simp [q])
  have c : Conj a a (PW.red (inv t ++ u)) := (hu.comp (ht.back ra)).red
  have uz : PW.red u = PW.red (t ++ PW.red (inv t ++ u)) := by
    rw [← red_append]
    have := red_mid' [] u t
    simpa using this.symm
  by_cases z0 : PW.red (inv t ++ u) = []
  · refine ⟨0, ?_⟩
    rw [uz, z0]; rfl
  · obtain ⟨h, r, p⟩ : ∃ h r, PartsU a h r := by
      rcases A with ⟨e, _⟩ | ⟨_, h, r, d, p, _⟩
      · exact absurd e a0
      · exact ⟨h, r, p⟩
    have zl : (PW.red (inv t ++ u)).length ≤ t.length + u.length := Nat.le_trans (red_len _) (by simp [inv_length])
    obtain ⟨σ, k, B⟩ := ex _ rz (by omega)
    have wB := B.word rz nzz
    rcases comm_root ra nza a0 rz nzz z0 c.past p (fun g rg hg => ex g rg (by omega)) A B with e | e
    · refine ⟨k, ?_⟩
      rw [uz, ← wB, ← red_append, e]
      unfold pow; rw [if_pos (by omega)]; rfl
    · refine ⟨-(k : Int), ?_⟩
      rw [uz, ← wB, ← red_append, e]
      have : pow ρ (-(k : Int)) = rep k (inv ρ) := by
        unfold pow
        split
        · have : k = 0 := by omega
          subst this; rfl
        · congr 1; omega
      rw [this]
/-! ### how long they are -/
/-- all that falls out at a joint -/
theorem fall {x : List Int} : ∀ {r : List Int}, Red x → Red r → ∃ x' c r', x = x' ++ inv c ∧ r = c ++ r' ∧ Red (x' ++ r')
  | [], rx, _ => ⟨x, [], [], by simp [inv], rfl, by simpa using rx⟩
  | y :: s, rx, rr => by
    by_cases q : x.getLast? = some (-y)
    · obtain ⟨x0, hx⟩ : ∃ x0, x = x0 ++ [-y] := by
        have x0 : x ≠ [] := fun z => by rw [z] at q; simp at q
        obtain ⟨u, a, e⟩ := LM.cat_last x x0
        rw [e] at q
        simp at q
        exact ⟨u, by rw [e, q]⟩
      have rx0 : Red x0 := by rw [hx] at rx; exact rx.left
      obtain ⟨x', c, r', e1, e2, e3⟩ := fall (x := x0) rx0 rr.tail
      refine ⟨x', y :: c, r', ?_, by rw [e2]; rfl, e3⟩
      rw [hx, e1, inv_cons]; simp
    · refine ⟨x, [], y :: s, by simp [inv], rfl, ?_⟩
      refine red_joint rx rr fun a b ha hb => ?_
      simp at hb
      subst hb
      intro z
      exact q (by rw [ha, z])
theorem fall_red {x' c r' : List Int} (h : Red (x' ++ r')) : PW.red ((x' ++ inv c) ++ (c ++ r')) = x' ++ r' := by
  have := red_mid x' r' c
  simp only [List.append_assoc]
  rw [this, red_id h]
/-- one more: it falls out whole, or grows from here on -/
theorem grow {x r : List Int} (rx : Red x) (hr : Red r) (cr : Red (r ++ r)) (r0 : r ≠ []) : ((PW.red (x ++ r)).length + r.length = x.length) ∨ Red (PW.red (x ++ r) ++ r) := by
  obtain ⟨x', c, r', e1, e2, e3⟩ := fall rx hr
  have e : PW.red (x ++ r) = x' ++ r' := by
    conv => lhs; rw [e1, e2]
    exact fall_red e3
  rw [e]
  by_cases q : r' = []
  · left
    rw [q, List.append_nil] at e2 ⊢
    rw [e1, e2]; simp [inv_length]
  · right
    have c2 : Red (r' ++ r) := by
      rw [e2, List.append_assoc] at cr
      have := cr.right
      rw [← e2] at this
      exact this
    rw [List.append_assoc]
    exact red_glue q e3 c2
theorem grown {x r : List Int} (r0 : r ≠ []) (cr : Red (r ++ r)) (h : Red (x ++ r)) : ∀ i, PW.red (x ++ rep i r) = x ++ rep i r := fun i => by
  cases i with
  | zero => rw [rep_zero, List.append_nil, red_id h.left]
  | succ i =>
    have := red_rep (h := x) (r := r) (t := []) r0 (by simpa using h) cr i
    rw [List.append_nil] at this
    exact red_id this
/-- so many times behind: shorter and shorter, or growing -/
theorem run_len {x r : List Int} (rx : Red x) (hr : Red r) (cr : Red (r ++ r)) (r0 : r ≠ []) : ∀ k, ((PW.red (x ++ rep k r)).length + k * r.length = x.length) ∨ Red (PW.red (x ++ rep k r) ++ r)
  | 0 => .inl (by rw [rep_zero, List.append_nil, red_id rx]; omega)
  | k + 1 => by
    have e : PW.red (x ++ rep (k + 1) r) = PW.red (PW.red (x ++ rep k r) ++ r) := by rw [red_left, rep_snoc, List.append_assoc]
    rw [e]
    rcases run_len rx hr cr r0 k with q | q
    · rcases grow (red_red (x ++ rep k r)) hr cr r0 with z | z
      · left
        rw [Nat.succ_mul]; omega
      · exact .inr z
    · right
      rw [red_id q]
      have := grown r0 cr q 2
      have e2 : rep 2 r = r ++ r := by rw [rep_succ, rep_one]
      rw [e2, ← List.append_assoc] at this
      rw [← this]; exact red_red _
/-- far enough behind it only grows -/
theorem far_len {x r : List Int} (rx : Red x) (hr : Red r) (cr : Red (r ++ r)) (r0 : r ≠ []) {k : Nat} (hk : x.length < (PW.red (x ++ rep k r)).length) (i : Nat) : (PW.red (x ++ rep (k + i) r)).length = (PW.red (x ++ rep k r)).length + i * r.length := by
  rcases run_len rx hr cr r0 k with q | q
  · omega
  · have e : PW.red (x ++ rep (k + i) r) = PW.red (PW.red (x ++ rep k r) ++ rep i r) := by rw [red_left, rep_app, List.append_assoc]
    rw [e, grown r0 cr q i]
    simp [rep_len]
end PW

set_option linter.all false
/-! # PT4: the ring of a turned course -/
namespace LM
open PL PW
theorem rot_zero (r : List Int) : rot r 0 = r := by simp [rot]
theorem rot_cyc {r : List Int} (c : Red (r ++ r)) (i : Nat) : Red (rot r i ++ rot r i) ∧ Red (rot r i) := by
  by_cases r0 : r = []
  · subst r0; simp [rot, Red]
  · have g : Red (r ++ (r ++ r)) := red_glue r0 c c
    have e : r ++ (r ++ r) = r.take i ++ ((rot r i ++ rot r i) ++ r.drop i) := by
      unfold rot
      obtain ⟨p, q, hp, hq, e⟩ : ∃ p q, r.take i = p ∧ r.drop i = q ∧ r = p ++ q := ⟨_, _, rfl, rfl, (List.take_append_drop i r).symm⟩
      rw [hp, hq, e]; simp
    rw [e] at g
    have g2 := g.right.left
    exact ⟨g2, g2.left⟩
theorem cy_rot {r : List Int} {i : Nat} (hi : i < r.length) (k : Nat) : cy (rot r i) k = cy r (i + k) := by
  have hn : (rot r i).length = r.length := rot_len r (by omega)
  unfold cy
  rw [hn]
  have hk : k % r.length < r.length := Nat.mod_lt _ (by omega)
  have := rot_get r hi hk
  rw [List.getD_eq_getElem?_getD, this, Option.getD_some]
  unfold cy
  rw [Nat.add_mod_mod]
theorem rot_rot {r : List Int} {i j : Nat} (hi : i < r.length) (hj : j < r.length) : rot (rot r i) j = rot r ((i + j) % r.length) := by
  have hn : (rot r i).length = r.length := rot_len r (by omega)
  have hk : (i + j) % r.length < r.length := Nat.mod_lt _ (by omega)
  refine List.ext_getElem? fun s => ?_
  by_cases hs : s < r.length
  · rw [rot_get (rot r i) (by omega) (by omega), rot_get r hk hs, cy_rot hi, cy_add, Nat.add_assoc]
  · rw [List.getElem?_eq_none (by rw [rot_len _ (by omega)]; omega), List.getElem?_eq_none (by rw [rot_len _ (by omega)]; omega)]
theorem Least.rot {r W : List Int} {i : Nat} (hi : i < r.length) (h : Least r W) : Least (LM.rot r i) W := by
  have hn : (LM.rot r i).length = r.length := rot_len r (by omega)
  rcases h with ⟨e, _⟩ | ⟨r0, m, hm, e, h⟩
  · rw [e] at hi; simp at hi
  · have hk : (m + r.length - i) % r.length < r.length := Nat.mod_lt _ (by omega)
    refine .inr ⟨fun z => by rw [z] at hn; simp at hn; omega, (m + r.length - i) % r.length, by omega, ?_, fun j hj => ?_⟩
    · rw [rot_rot hi hk, Nat.add_mod_mod]
      have : (i + (m + r.length - i)) % r.length = m := by
        have : i + (m + r.length - i) = m + r.length := by omega
        rw [this, Nat.add_mod_right, Nat.mod_eq_of_lt hm]
      rw [this]; exact e
    · rw [rot_rot hi (by omega)]
      exact h _ (Nat.mod_lt _ (by omega))
theorem PartsU.of_cyc {r : List Int} (c : Red (r ++ r)) : PartsU r [] r := ⟨by simp [inv], stop_of c⟩
/-- turned by one step -/
theorem conj_step {a h r : List Int} {x : Int} (ra : Red a) (nza : NZ a) (a0 : a ≠ []) (p : PartsU a h r) : ∃ h' i, i < r.length ∧ PartsU (PW.red (x :: (a ++ [-x]))) h' (rot r i) := by
  have hr := p.ring ra a0
  have hn := List.length_pos_iff.mpr hr
  have c := p.cyc ra nza
  cases h with
  | cons y h1 =>
    have e := p.eq
    by_cases q : x = -y
    · refine ⟨h1, 0, hn, ?_⟩
      rw [rot_zero]
      have r1 : Red (h1 ++ r ++ inv h1) := by
        rw [e, List.cons_append, List.cons_append, inv_cons, ← List.append_assoc] at ra
        exact ra.tail.left
      have : PW.red (x :: (a ++ [-x])) = h1 ++ r ++ inv h1 := by
        rw [e, inv_cons]
        have e1 : x :: ((y :: h1 ++ r ++ (inv h1 ++ [-y])) ++ [-x]) = [] ++ x :: y :: (h1 ++ r ++ inv h1 ++ [-y, -x]) := by simp
        rw [e1, red_opp' [] _ q, List.nil_append]
        have e2 : h1 ++ r ++ inv h1 ++ [-y, -x] = (h1 ++ r ++ inv h1) ++ (-y) :: (-x) :: [] := by simp
        rw [e2, red_opp' _ _ (by omega : -y = -(-x)), List.append_nil, red_id r1]
      rw [this]
      exact ⟨rfl, p.stop⟩
    · refine ⟨x :: y :: h1, 0, hn, ?_⟩
      rw [rot_zero]
      have r1 : Red ((x :: a) ++ [-x]) := by
        refine red_joint (u := x :: a) ?_ (by simp [Red]) fun u v hu hv => ?_
        · rw [e] at ra ⊢
          exact ⟨q, ra⟩
        · simp at hv
          subst hv
          rw [e, inv_cons] at hu
          have : (x :: (y :: h1 ++ r ++ (inv h1 ++ [-y]))).getLast? = some (-y) := by
            have : x :: (y :: h1 ++ r ++ (inv h1 ++ [-y])) = (x :: (y :: h1 ++ r ++ inv h1)) ++ [-y] := by simp
            rw [this, List.getLast?_concat]
          rw [this] at hu
          cases hu
          omega
      have : PW.red (x :: (a ++ [-x])) = x :: (a ++ [-x]) := red_id r1
      rw [this]
      refine ⟨?_, p.stop⟩
      rw [e, inv_cons x]; simp
  | nil =>
    have e : a = r := by have := p.eq; simpa [inv] using this
    obtain ⟨y, s, hys⟩ : ∃ y s, r = y :: s := by
      cases r with
      | nil => exact absurd rfl hr
      | cons y s => exact ⟨y, s, rfl⟩
    obtain ⟨s', z, hsz⟩ := cat_last r hr
    by_cases q : x = -y
    · -- the first step goes behind
      have e1 : PW.red (x :: (a ++ [-x])) = s ++ [y] := by
        rw [e, hys]
        have e1 : x :: ((y :: s) ++ [-x]) = [] ++ x :: y :: (s ++ [-x]) := by simp
        have e2 : -x = y := by omega
        rw [e1, red_opp' [] _ q, List.nil_append, e2]
        rw [hys] at c
        have : (y :: s) ++ (y :: s) = [y] ++ ((s ++ [y]) ++ s) := by simp
        rw [this] at c
        exact red_id c.right.left
      rw [e1]
      cases s with
      | nil =>
        refine ⟨[], 0, hn, ?_⟩
        rw [rot_zero, hys]
        exact ⟨rfl, .inl (by simp)⟩
      | cons w s2 =>
        have e3 : rot r 1 = (w :: s2) ++ [y] := by rw [hys]; rfl
        refine ⟨[], 1, by rw [hys]; simp, ?_⟩
        rw [← e3]
        exact PartsU.of_cyc (rot_cyc c 1).1
    · by_cases q2 : z = x
      · -- the last step goes ahead
        subst q2
        have e1 : PW.red (z :: (a ++ [-z])) = z :: s' := by
          rw [e, hsz]
          have e1 : z :: ((s' ++ [z]) ++ [-z]) = (z :: s') ++ z :: (-z) :: [] := by simp
          rw [e1, red_opp, List.append_nil]
          have c2 : Red ((s' ++ [z]) ++ (s' ++ [z])) := by rw [← hsz]; exact c
          have : (s' ++ [z]) ++ (s' ++ [z]) = s' ++ ((z :: s') ++ [z]) := by simp
          rw [this] at c2
          exact red_id c2.right.left
        have e3 : rot r s'.length = z :: s' := by
          rw [hsz]; simp [rot]
        rw [e1]
        refine ⟨[], s'.length, by rw [hsz]; simp, ?_⟩
        rw [← e3]
        exact PartsU.of_cyc (rot_cyc c _).1
      · refine ⟨[x], 0, hn, ?_⟩
        rw [rot_zero]
        have r1 : Red ((x :: a) ++ [-x]) := by
          refine red_joint (u := x :: a) ?_ (by simp [Red]) fun u v hu hv => ?_
          · rw [e] at ra ⊢
            rw [hys] at ra ⊢
            exact ⟨q, ra⟩
          · simp at hv
            subst hv
            have : (x :: a).getLast? = some z := by
              have : x :: a = (x :: s') ++ [z] := by rw [e, hsz]; simp
              rw [this, List.getLast?_concat]
            rw [this] at hu
            cases hu
            omega
        have : PW.red (x :: (a ++ [-x])) = x :: (a ++ [-x]) := red_id r1
        rw [this]
        exact ⟨by rw [e]; simp [inv], p.stop⟩
/-- turned courses have one ring, turned round -/
theorem conj_ring {a h r : List Int} (ra : Red a) (nza : NZ a) (a0 : a ≠ []) (p : PartsU a h r) : ∀ (u b : List Int), NZ u → Conj a b u → b ≠ [] ∧ ∃ h' i, i < r.length ∧ PartsU b h' (rot r i)
  | [], b, _, k => by
    have hr := p.ring ra a0
    have : b = a := by
      unfold Conj at k
      rw [← k]; simp [inv, red_id ra]
    subst this
    exact ⟨a0, h, 0, List.length_pos_iff.mpr hr, by rw [rot_zero]; exact p⟩
  | x :: u, b, nz, k => by
    obtain ⟨b0, h1, i, hi, p1⟩ := conj_ring ra nza a0 p u (PW.red (u ++ (a ++ inv u))) (fun y hy => nz y (List.mem_cons_of_mem _ hy)) rfl
    have nzb : NZ (PW.red (u ++ (a ++ inv u))) := fun y hy => by
      have hy := red_mem hy
      rcases List.mem_append.mp hy with q | q
      · exact nz y (List.mem_cons_of_mem _ q)
      · rcases List.mem_append.mp q with q | q
        · exact nza y q
        · simp only [inv, List.mem_reverse, List.mem_map] at q
          obtain ⟨w, hw, rfl⟩ := q
          have := nz w (List.mem_cons_of_mem _ hw)
          omega
    obtain ⟨h2, j, hj, p2⟩ := conj_step (x := x) (red_red _) nzb b0 p1
    have hn : (rot r i).length = r.length := rot_len r (by omega)
    have e : PW.red (x :: (PW.red (u ++ (a ++ inv u)) ++ [-x])) = b := by
      unfold Conj at k
      rw [← k, inv_cons]
      have := red_in [x] (u ++ (a ++ inv u)) [-x]
      simp only [List.singleton_append, List.append_assoc] at this
      rw [this]; simp
    rw [e] at p2
    rw [rot_rot hi (by omega)] at p2
    refine ⟨fun z => ?_, h2, _, Nat.mod_lt _ (by omega), p2⟩
    have l := congrArg List.length p2.eq
    have hk : (i + j) % r.length < r.length := Nat.mod_lt _ (by omega)
    rw [z] at l
    simp [rot_len r (Nat.le_of_lt hk)] at l
    omega
theorem conj_least {a b h r h' r' u W : List Int} (ra : Red a) (nza : NZ a) (a0 : a ≠ []) (p : PartsU a h r) (p' : PartsU b h' r') (nzu : NZ u) (k : Conj a b u) (l : Least r W) : Least r' W := by
  obtain ⟨_, h2, i, hi, p2⟩ := conj_ring ra nza a0 p u b nzu k
  rw [(p'.uniq p2).2]
  exact l.rot hi
/-- the least word, turned by the handle and the steps ahead of it -/
theorem parts_conj {a h r : List Int} (ra : Red a) (nza : NZ a) (p : PartsU a h r) (i : Nat) : Conj (rot r i) a (h ++ r.take i) := by
  unfold Conj rot
  obtain ⟨s, q, hs, hq, e⟩ : ∃ s q, r.take i = s ∧ r.drop i = q ∧ r = s ++ q := ⟨_, _, rfl, rfl, (List.take_append_drop i r).symm⟩
  rw [hs, hq]
  have e1 : h ++ s ++ (q ++ s ++ inv (h ++ s)) = (h ++ (s ++ q)) ++ (s ++ (inv s ++ inv h)) := by rw [inv_append]; simp
  rw [e1, red_mid', ← e, ← p.eq, red_id ra]
theorem two_conj {a b h r h' r' : List Int} {i j : Nat} (ra : Red a) (nza : NZ a) (rb : Red b) (nzb : NZ b) (p : PartsU a h r) (p' : PartsU b h' r') (a0 : a ≠ []) (e : rot r i = rot r' j) : Conj a b (PW.red (PW.red (h' ++ r'.take j) ++ inv (PW.red (h ++ r.take i)))) := by
  have k1 := parts_conj ra nza p i
  have k2 := parts_conj rb nzb p' j
  rw [← e] at k2
  have rW : Red (rot r i) := (rot_cyc (p.cyc ra nza) i).2
  have k := (k1.back rW).comp k2
  rw [← red_inv, red_both]
  exact k.red
end LM

set_option linter.all false
/-! # PT5: turnings, one root more and more behind -/
namespace LM
open PL PW
/-- a course with a root behind it so many times -/
def wk (t g : List Int) (k : Nat) : List Int := PW.red (t ++ rep k g)
theorem wk_zero {t : List Int} (rt : Red t) (g : List Int) : wk t g 0 = t := by unfold wk; rw [rep_zero, List.append_nil, red_id rt]
theorem wk_succ (t g : List Int) (k : Nat) : PW.red (wk t g k ++ g) = wk t g (k + 1) := by unfold wk; rw [red_left, rep_snoc, List.append_assoc]
theorem wk_parts {g h r : List Int} (p : PartsU g h r) (t : List Int) (k : Nat) : wk t g k = PW.red (PW.red (PW.red (t ++ h) ++ rep k r) ++ inv h) ∧ PW.red (PW.red (t ++ h) ++ rep k r) = PW.red (wk t g k ++ h) := by
  have e1 : PW.red (rep k g) = PW.red (h ++ (rep k r ++ inv h)) := by
    cases k with
    | zero => rw [rep_zero, rep_zero, List.nil_append, red_self_inv]; rfl
    | succ k => rw [p.eq]; exact rep_word h r k
  have e2 : wk t g k = PW.red (t ++ (h ++ (rep k r ++ inv h))) := by
    unfold wk
    rw [red_append, e1, ← red_append]
  constructor
  · rw [e2, red_left, List.append_assoc (PW.red (t ++ h)), red_left]
    simp
  · rw [e2, red_left, red_left]
    have : t ++ (h ++ (rep k r ++ inv h)) ++ h = (t ++ h ++ rep k r) ++ (inv h ++ h) := by simp
    rw [this, red_end']
theorem wk_bounds {g h r : List Int} (p : PartsU g h r) (t : List Int) (k : Nat) : (wk t g k).length ≤ (PW.red (PW.red (t ++ h) ++ rep k r)).length + h.length ∧ (PW.red (PW.red (t ++ h) ++ rep k r)).length ≤ (wk t g k).length + h.length := by
  obtain ⟨e1, e2⟩ := wk_parts p t k
  constructor
  · rw [e1]
    refine Nat.le_trans (red_len _) ?_
    simp [inv_length]
  · rw [e2]
    refine Nat.le_trans (red_len _) ?_
    simp
theorem far {t g h r : List Int} (p : PartsU g h r) (rg : Red g) (nz : NZ g) (g0 : g ≠ []) {k : Nat} (hk : t.length + 2 * g.length < (wk t g k).length) (i : Nat) : t.length < (wk t g (k + i)).length := by
  have hr := p.ring rg g0
  have c := p.cyc rg nz
  have gl := PartsU.len p
  have x0 : (PW.red (t ++ h)).length ≤ t.length + h.length := Nat.le_trans (red_len _) (by simp)
  have b1 := wk_bounds p t k
  have b2 := wk_bounds p t (k + i)
  have f := far_len (red_red (t ++ h)) c.left c hr (k := k) (by omega) i
  rw [f] at b2
  omega
theorem wk_end {t g h r : List Int} (p : PartsU g h r) (rg : Red g) (nz : NZ g) (g0 : g ≠ []) (sh : Nat) : ∃ K, sh < (wk t g K).length := by
  have hr := p.ring rg g0
  have c := p.cyc rg nz
  have hn := List.length_pos_iff.mpr hr
  have q := run_len (red_red (t ++ h)) c.left c hr ((PW.red (t ++ h)).length + 1)
  rcases q with q | q
  · have : (PW.red (t ++ h)).length + 1 ≤ ((PW.red (t ++ h)).length + 1) * r.length := Nat.le_mul_of_pos_right _ hn
    omega
  · have gr := grown hr c q (sh + h.length + 1)
    refine ⟨(PW.red (t ++ h)).length + 1 + (sh + h.length + 1), ?_⟩
    have b := (wk_bounds p t ((PW.red (t ++ h)).length + 1 + (sh + h.length + 1))).2
    have e : PW.red (PW.red (t ++ h) ++ rep ((PW.red (t ++ h)).length + 1 + (sh + h.length + 1)) r) = PW.red (PW.red (PW.red (t ++ h) ++ rep ((PW.red (t ++ h)).length + 1) r) ++ rep (sh + h.length + 1) r) := by
      conv => rhs; rw [red_left, List.append_assoc, ← rep_app]
    rw [e, gr] at b
    simp only [List.length_append, rep_len] at b
    have : sh + h.length + 1 ≤ (sh + h.length + 1) * r.length := Nat.le_mul_of_pos_right _ hn
    omega
/-- the first time that it is longer -/
theorem wk_first {t g h r : List Int} (p : PartsU g h r) (rg : Red g) (nz : NZ g) (g0 : g ≠ []) (sh : Nat) : ∃ K, sh < (wk t g K).length ∧ ∀ j, j < K → (wk t g j).length ≤ sh := by
  obtain ⟨K, hK⟩ := wk_end p rg nz g0 (t := t) sh
  have : ∀ n, sh < (wk t g n).length → ∃ K, sh < (wk t g K).length ∧ ∀ j, j < K → (wk t g j).length ≤ sh := by
    intro n
    induction n using Nat.strongRecOn with
    | _ n ih =>
      intro hn
      by_cases c : ∃ j, j < n ∧ sh < (wk t g j).length
      · obtain ⟨j, h1, h2⟩ := c
        exact ih j h1 h2
      · exact ⟨n, hn, fun j hj => by
          by_cases q : sh < (wk t g j).length
          · exact absurd ⟨j, hj, q⟩ c
          · omega⟩
  exact this K hK
theorem bf_le_len {a b : List Int} (h : before a b = false) : b.length ≤ a.length := by
  by_cases q : a.length < b.length
  · rw [bf_len q] at h; cases h
  · omega
theorem bf_long {a b : List Int} (h : b.length < a.length) : before a b = false := by
  rw [before_eq, if_neg (by omega)]; simp; omega
/-- the better one of two -/
def bet (a b : List Int) : List Int := if before b a then b else a
theorem bet_ok (a b : List Int) : (bet a b = a ∨ bet a b = b) ∧ before a (bet a b) = false ∧ before b (bet a b) = false := by
  unfold bet
  cases q : before b a with
  | true =>
    refine ⟨.inr rfl, ?_, bf_irr b⟩
    simp only [if_true]
    cases z : before a b with
    | false => rfl
    | true => have := bf_trans q z; rw [bf_irr] at this; cases this
  | false => exact ⟨.inl rfl, bf_irr a, q⟩
/-- the best of the words from k on, below K -/
def bests (t g : List Int) : Nat → Nat → List Int → List Int
  | 0, _, b => b
  | n + 1, k, b => bests t g n (k + 1) (bet b (wk t g k))
theorem bests_ok (t g : List Int) : ∀ n k b, (bests t g n k b = b ∨ ∃ j, k ≤ j ∧ j < k + n ∧ bests t g n k b = wk t g j) ∧ before b (bests t g n k b) = false ∧ ∀ j, k ≤ j → j < k + n → before (wk t g j) (bests t g n k b) = false
  | 0, k, b => ⟨.inl rfl, bf_irr b, fun j h1 h2 => by omega⟩
  | n + 1, k, b => by
    obtain ⟨a1, a2, a3⟩ := bests_ok t g n (k + 1) (bet b (wk t g k))
    obtain ⟨b1, b2, b3⟩ := bet_ok b (wk t g k)
    rw [bests]
    refine ⟨?_, bf_le (a := bests t g n (k + 1) (bet b (wk t g k))) (b := bet b (wk t g k)) (c := b) a2 b2, fun j h1 h2 => ?_⟩
    · rcases a1 with e | ⟨j, h1, h2, e⟩
      · rcases b1 with q | q
        · left; rw [e, q]
        · right; exact ⟨k, Nat.le_refl _, by omega, by rw [e, q]⟩
      · right; exact ⟨j, by omega, by omega, e⟩
    · by_cases q : j = k
      · subst q
        exact bf_le a2 b3
      · exact a3 j (by omega) (by omega)
end LM

set_option linter.all false
set_option maxRecDepth 100000
set_option maxHeartbeats 1000000
/-! # K04p: rings -/
namespace K04
open PL PW LM
section
variable {S : Sto}
theorem key1_eq (x y : Int) : opEq (keyT [x]) (keyT [y]) = some (.bl (decide (x = y))) := by
  have o1 := keyT_ok [x]
  have o2 := keyT_ok [y]
  have e : eqD (keyT [x]) (keyT [y]) = decide (x = y) := by
    simp [keyT, eqD, eqDs, kp_eq]
  simp only [keyT] at o1 o2 e ⊢
  simp only [opEq, opEqO, o1, o2, Bool.and_self, if_true, e]
theorem keyT_ltD (xs ys : List Int) : opLtD (keyT xs) (keyT ys) = some (.bl (before xs ys)) := keyT_lt xs ys
theorem key1_gt {x y : Int} (h : x ≠ y) : opGtX (keyT [x]) (keyT [y]) = some (.bl (decide (kn y < kn x))) := by
  have e : opGtX (keyT [x]) (keyT [y]) = opLtD (keyT [y]) (keyT [x]) := rfl
  rw [e, keyT_ltD, before_eq]
  simp [lx, Ne.symm h]
theorem max_int (i j : Int) : biMax S [.int i, .int j] = some (.int (if j > i then j else i)) := rfl
theorem least_spot_ok {r : List Int} (hr : r ≠ []) (hl : r.length ≤ 2000) : ∃ m : Nat, M_least_spot [T r] S = some (.ok (.int m) S) ∧ Spot r m := by
  have hn := List.length_pos_iff.mpr hr
  have e := compL_run (t := .name 6) (c := mTrue) (e := mCall LM.M_key_of (mConsA (mTup (mConsA (mVar 6) mNilA)) mNilA)) (δ := [some (T r), none, none, none, none, none, none, none, none]) (S := S) (fun _ => true) (fun d => match d with | .int x => keyT [x] | _ => .non) (intD r) [] (by
    intro d hd
    obtain ⟨x, hx, rfl⟩ := List.mem_map.mp hd
    have k := key_of_ok (S := S) (xs := [x]) (by simp)
    have t1 : T [x] = .tup [.int x] := rfl
    rw [t1] at k
    exact ⟨[some (T r), none, none, none, none, none, some (.int x), none, none], by simp, rfl, fun _ => by simp [k, LINE]⟩)
  have km : ((intD r).filter fun _ => true).map (fun d => match d with | .int x => keyT [x] | _ => .non) = r.map fun x => keyT [x] := by
    have : (intD r).filter (fun _ => true) = intD r := by simp
    rw [this, intD, List.map_map]; rfl
  rw [km, List.nil_append] at e
  have ix : ∀ i : Nat, opIx S (.lst (r.map fun x => keyT [x])) (.int ((i : Int) % (r.length : Int))) = some (keyT [cy r i]) := fun i => by
    have e1 : (i : Int) % (r.length : Int) = ((i % r.length : Nat) : Int) := by simp
    have h1 : i % r.length < r.length := Nat.mod_lt _ hn
    rw [e1]
    have h2 : ((i % r.length : Nat) : Int) < (r.length : Int) := by omega
    simp only [opIx, seqOf, ixN, Option.bind_some, List.length_map]
    rw [if_pos (by omega), if_pos h2]
    simp only [Option.bind_some, Int.toNat_natCast, List.getElem?_map, List.getElem?_eq_getElem h1, Option.map_some]
    unfold cy
    rw [List.getD_eq_getElem?_getD, List.getElem?_eq_getElem h1]; rfl
  have md : ∀ i : Int, opMod (.int i) (.int r.length) = some (.int (i % r.length)) := fun i => mod_pos (by omega)
  have loop := while_run (c := mAndT (mB (mBin opLt (mBI biMax (mConsA (mVar 3) (mConsA (mVar 4) mNilA))) (mVar 2))) (mB (mBin opLt (mVar 5) (mVar 2))))
    (b := mSeq (mPar 7 8 (mBinS opIx (mVar 1) (mBin opMod (mBin opAdd (mVar 3) (mVar 5)) (mVar 2))) (mBinS opIx (mVar 1) (mBin opMod (mBin opAdd (mVar 4) (mVar 5)) (mVar 2)))) (mIfS (mB (mBin opEq (mVar 7) (mVar 8))) (mSet 5 (mBin opAdd (mVar 5) (mC (.int 1)))) (mSeq (mIfS (mB (mBin opGtX (mVar 7) (mVar 8))) (mSet 3 (mBin opAdd (mBin opAdd (mVar 3) (mVar 5)) (mC (.int 1)))) (mSet 4 (mBin opAdd (mBin opAdd (mVar 4) (mVar 5)) (mC (.int 1))))) (mSeq (mIfS (mB (mBin opEq (mVar 3) (mVar 4))) (mSet 4 (mBin opAdd (mVar 4) (mC (.int 1)))) mPass) (mSet 5 (mC (.int 0)))))))
    (fun n δ S' => S' = S ∧ ∃ b o z a6 a7 a8, Sch r b o z ∧ n + (b + o + z) = 6 * r.length + 20 ∧ δ = [some (T r), some (.lst (r.map fun x => keyT [x])), some (.int r.length), some (.int b), some (.int o), some (.int z), a6, a7, a8])
    (fun res => ∃ (b o : Nat) (δ' : Env), res = .nx δ' S ∧ Spot r (min b o) ∧ ∃ a5 a6 a7 a8, δ' = [some (T r), some (.lst (r.map fun x => keyT [x])), some (.int r.length), some (.int b), some (.int o), a5, a6, a7, a8])
    (by
      rintro n δ S' ⟨rfl, b, o, z, a6, a7, a8, sc, hm, rfl⟩
      have mx : (if (o : Int) > (b : Int) then (o : Int) else (b : Int)) = ((max b o : Nat) : Int) := by split <;> omega
      by_cases c : max b o < r.length ∧ z < r.length
      · right
        obtain ⟨c1, c2⟩ := c
        have c1' : ((max b o : Nat) : Int) < (r.length : Int) := by omega
        have c2' : (z : Int) < (r.length : Int) := by omega
        have hb : b < r.length := by omega
        have ho : o < r.length := by omega
        have i1 := ix (b + z)
        have i2 := ix (o + z)
        have n1 : ((b + z : Nat) : Int) = (b : Int) + (z : Int) := by omega
        have n2 : ((o + z : Nat) : Int) = (o : Int) + (z : Int) := by omega
        rw [n1] at i1
        rw [n2] at i2
        refine ⟨S', by simp only [s_mAndT, s_mB, s_mBin, s_mBI, s_mConsA, s_mVar, s_mNilA, List.getElem?_cons_succ, List.getElem?_cons_zero, bE_ok, bEA_ok, bAA_ok, bA_ok, max_int, mx, Option.map_some, lt_int, decide_eq_true c1', decide_eq_true c2', bET_ok, bTT_ok, if_true], .inl ?_⟩
        by_cases q : cy r (b + z) = cy r (o + z)
        · have e1 : ((z : Int) + 1) = ((z + 1 : Nat) : Int) := by omega
          have k1 := key1_eq (cy r (b + z)) (cy r (o + z))
          rw [decide_eq_true q] at k1
          refine ⟨[some (T r), some (.lst (r.map fun x => keyT [x])), some (.int r.length), some (.int b), some (.int o), some (.int ((z + 1 : Nat) : Int)), a6, some (keyT [cy r (b + z)]), some (keyT [cy r (o + z)])], S', n - 1, .inl ?_, by have := sc.lb; have := sc.lo; omega, rfl, b, o, z + 1, a6, _, _, sc.same c2 q, by have := sc.lb; have := sc.lo; omega, rfl⟩
          simp [md, i1, i2, k1]
        · have k1 := key1_eq (cy r (b + z)) (cy r (o + z))
          rw [decide_eq_false q] at k1
          have k2 := key1_gt q
          by_cases g : kn (cy r (o + z)) < kn (cy r (b + z))
          · rw [decide_eq_true g] at k2
            have e1 : (b : Int) + (z : Int) + 1 = ((b + z + 1 : Nat) : Int) := by omega
            have st := sc.step hb ho c2 g
            by_cases eo : b + z + 1 = o
            · rw [if_pos eo] at st
              have eo' : ((b + z + 1 : Nat) : Int) = (o : Int) := by omega
              have e2 : (o : Int) + 1 = ((o + 1 : Nat) : Int) := by omega
              refine ⟨[some (T r), some (.lst (r.map fun x => keyT [x])), some (.int r.length), some (.int ((b + z + 1 : Nat) : Int)), some (.int ((o + 1 : Nat) : Int)), some (.int ((0 : Nat) : Int)), a6, some (keyT [cy r (b + z)]), some (keyT [cy r (o + z)])], S', n - 2, .inl ?_, by have := sc.lb; have := sc.lo; omega, rfl, b + z + 1, o + 1, 0, a6, _, _, st, by have := sc.lb; have := sc.lo; omega, rfl⟩
              have eo2 : (b : Int) + (z : Int) + 1 = (o : Int) := by omega
              simp [md, i1, i2, k1, k2, eo2]
            · rw [if_neg eo] at st
              have eo' : ¬ ((b + z + 1 : Nat) : Int) = (o : Int) := by omega
              refine ⟨[some (T r), some (.lst (r.map fun x => keyT [x])), some (.int r.length), some (.int ((b + z + 1 : Nat) : Int)), some (.int (o : Int)), some (.int ((0 : Nat) : Int)), a6, some (keyT [cy r (b + z)]), some (keyT [cy r (o + z)])], S', n - 1, .inl ?_, by have := sc.lb; have := sc.lo; omega, rfl, b + z + 1, o, 0, a6, _, _, st, by have := sc.lb; have := sc.lo; omega, rfl⟩
              have eo2 : ¬ (b : Int) + (z : Int) + 1 = (o : Int) := by omega
              simp [md, i1, i2, k1, k2, eo2]
          · rw [decide_eq_false g] at k2
            have g2 : kn (cy r (b + z)) < kn (cy r (o + z)) := by
              have : kn (cy r (b + z)) ≠ kn (cy r (o + z)) := fun h => q ((kn_inj _ _).mp h)
              omega
            have st := sc.swap.step ho hb c2 g2
            have e1 : (o : Int) + (z : Int) + 1 = ((o + z + 1 : Nat) : Int) := by omega
            by_cases eo : o + z + 1 = b
            · rw [if_pos eo] at st
              have eo2 : (b : Int) = (o : Int) + (z : Int) + 1 := by omega
              refine ⟨[some (T r), some (.lst (r.map fun x => keyT [x])), some (.int r.length), some (.int (b : Int)), some (.int ((b + 1 : Nat) : Int)), some (.int ((0 : Nat) : Int)), a6, some (keyT [cy r (b + z)]), some (keyT [cy r (o + z)])], S', n - 2, .inl ?_, by have := sc.lb; have := sc.lo; omega, rfl, b, b + 1, 0, a6, _, _, by rw [eo] at st; exact st, by have := sc.lb; have := sc.lo; omega, rfl⟩
              have e3 : (o : Int) + (z : Int) + 1 + 1 = (b : Int) + 1 := by omega
              simp [md, i1, i2, k1, k2, ← eo2]
            · rw [if_neg eo] at st
              have eo2 : ¬ (b : Int) = (o : Int) + (z : Int) + 1 := by omega
              refine ⟨[some (T r), some (.lst (r.map fun x => keyT [x])), some (.int r.length), some (.int (b : Int)), some (.int ((o + z + 1 : Nat) : Int)), some (.int ((0 : Nat) : Int)), a6, some (keyT [cy r (b + z)]), some (keyT [cy r (o + z)])], S', n - 1, .inl ?_, by have := sc.lb; have := sc.lo; omega, rfl, b, o + z + 1, 0, a6, _, _, st.swap, by have := sc.lb; have := sc.lo; omega, rfl⟩
              simp [md, i1, i2, k1, k2, eo2]
      · left
        refine ⟨S', ?_, b, o, _, rfl, sc.done hr c, _, _, _, _, rfl⟩
        by_cases c1 : max b o < r.length
        · have c1' : ((max b o : Nat) : Int) < (r.length : Int) := by omega
          have c2' : ¬ (z : Int) < (r.length : Int) := by omega
          simp only [s_mAndT, s_mB, s_mBin, s_mBI, s_mConsA, s_mVar, s_mNilA, List.getElem?_cons_succ, List.getElem?_cons_zero, bE_ok, bEA_ok, bAA_ok, bA_ok, max_int, mx, Option.map_some, lt_int, decide_eq_true c1', decide_eq_false c2', bET_ok, bTT_ok, if_true]
        · have c1' : ¬ ((max b o : Nat) : Int) < (r.length : Int) := by omega
          simp only [s_mAndT, s_mB, s_mBin, s_mBI, s_mConsA, s_mVar, s_mNilA, List.getElem?_cons_succ, List.getElem?_cons_zero, bE_ok, bEA_ok, bAA_ok, bA_ok, max_int, mx, Option.map_some, lt_int, decide_eq_false c1', bET_ok, bTT_ok, Bool.false_eq_true, if_false])
    (6 * r.length + 19) [some (T r), some (.lst (r.map fun x => keyT [x])), some (.int r.length), some (.int ((0 : Nat) : Int)), some (.int ((1 : Nat) : Int)), some (.int ((0 : Nat) : Int)), none, none, none] S ⟨rfl, 0, 1, 0, none, none, none, Sch.start r, by omega, rfl⟩
  obtain ⟨res, e2, b, o, δ', rfl, sp, a5, a6, a7, a8, rfl⟩ := loop
  refine ⟨min b o, ?_, sp⟩
  have w : wipeD [some (T r), none, none, none, none, none, none, none, none] [6] = [some (T r), none, none, none, none, none, none, none, none] := rfl
  have mn : (if (o : Int) < (b : Int) then (o : Int) else (b : Int)) = ((min b o : Nat) : Int) := by split <;> omega
  have e3 : L_least_spot_1 [some (T r), some (.lst (r.map fun x => keyT [x])), some (.int r.length), some (.int 0), some (.int 1), some (.int 0), none, none, none] S = some (.nx [some (T r), some (.lst (r.map fun x => keyT [x])), some (.int r.length), some (.int b), some (.int o), a5, a6, a7, a8] S) := e2
  have hz : r.length ≤ 16777216 := by omega
  refine Eq.trans (fn_of (S1 := S) (d := .int ((min b o : Nat) : Int)) rfl ?_ rfl) (by simp)
  refine wp_seq (δ1 := [some (T r), some (.lst (r.map fun x => keyT [x])), none, none, none, none, none, none, none]) (S1 := S) (by simp [w, hz, e, LINE]) ?_
  refine wp_seq (δ1 := [some (T r), some (.lst (r.map fun x => keyT [x])), some (.int r.length), some (.int 0), some (.int 1), some (.int 0), none, none, none]) (S1 := S) (by simp [LINE]) ?_
  refine wp_seq e3 ⟨.rt (.int ((min b o : Nat) : Int)) S, ?_, rfl⟩
  simp
  split <;> omega
theorem turned_to_ok {r : List Int} {i : Nat} (hi : i ≤ r.length) (hl : r.length ≤ 1000000) : LM.M_turned_to [T r, .int i] S = some (.ok (T (rot r i)) S) := by
  have c1 := cut_from (xs := r) (i := (i : Int)) rfl hi
  have c2 := cut_to (xs := r) (i := (i : Int)) rfl hi
  have a : opAdd (T (r.drop i)) (T (r.take i)) = some (T (rot r i)) := by
    have a := add_T (r.drop i) (r.take i)
    rw [if_pos (by simp [LINE]; omega)] at a
    exact a
  simp only [LM.M_turned_to, mSlice]
  simp [mSlice, c1, c2, -add_T, a]
theorem ring_of_ok {l : Int} {xs h r W : List Int} (hl : 1 ≤ l ∧ l ≤ 8) (g : Good l xs) (p : PartsU (red xs) h r) (hW : Least r W) : M_ring_of [.int l, T xs] S = some (.ok (T W) S) := by
  have e1 := ring_part_ok (S := S) hl g p
  have len := PartsU.len p
  have gl := g.red.1
  have eqn : opEq (T r) (.tup []) = some (.bl (decide (r = []))) := eq_T r []
  by_cases r0 : r = []
  · have : W = [] := by
      rcases hW with ⟨_, e⟩ | ⟨c, _⟩
      · exact e
      · exact absurd r0 c
    subst this
    subst r0
    have e0 : opEq (T []) (.tup []) = some (.bl true) := eq_T [] []
    simp [M_ring_of, e1, e0, LINE, intD_nil, D.pure, D.pures]
  · obtain ⟨m, e2, sp⟩ := least_spot_ok (S := S) r0 (by omega)
    have e3 := turned_to_ok (S := S) (r := r) (i := m) (by have := sp.lt; omega) (by omega)
    have : rot r m = W := sp.least.uniq hW
    rw [this] at e3
    simp [M_ring_of, e1, eqn, r0, e2, e3, LINE]
end
end K04

set_option linter.all false
set_option maxRecDepth 100000
set_option maxHeartbeats 1000000
/-! # K04q: turning -/
namespace PL
@[simp] theorem s_mMin2K {f : MF} {a b : ME} {δ : Env} {S : Sto} : mMin2K f a b δ S = bE (a δ S) fun x S1 => bE (b δ S1) fun y S2 => match f [x] S2 with
  | some (.ok kx S3) => match f [y] S3 with
    | some (.ok ky S4) => match opLtD ky kx with
      | some (.bl c) => some (.ok (if c then y else x) S4)
      | _ => none
    | _ => none
  | _ => none := rfl
end PL
namespace K04
open PL PW LM
section
variable {S : Sto}
theorem turns_walk {t g ρ : List Int} (rg : Red g) {sh : Nat} (hsh : sh ≤ 1990) (hg : g.length ≤ 2000) {K : Nat} (hK : sh < (wk t g K).length) (hj : ∀ j, j < K → (wk t g j).length ≤ sh) :
    ∀ n k b, k + n = K → b.length ≤ 2000 → (∀ j, k ≤ j → j ≤ K → (wk t g j).length ≤ 4000) → L_first_by_turns_1 [some (T t), some (T ρ), some (T b), some (T g), some (T (wk t g k)), some (.int sh)] S =
      some (.nx [some (T t), some (T ρ), some (T (bests t g n k b)), some (T g), some (T (wk t g K)), some (.int sh)] S)
  | 0, k, b, h, hb, hm => by
    have : k = K := by omega
    subst this
    have c : ¬ ((wk t g k).length : Int) ≤ (sh : Int) := by omega
    unfold L_first_by_turns_1
    rw [mWhile_eq]
    simp [c, bests]
  | n + 1, k, b, h, hb, hm => by
    have hl := hj k (by omega)
    have c : ((wk t g k).length : Int) ≤ (sh : Int) := by omega
    have k1 := key_of_ok (S := S) (xs := b) hb
    have k2 := key_of_ok (S := S) (xs := wk t g k) (by omega)
    have lt := keyT_ltD (wk t g k) b
    have rw' : Red (wk t g k) := red_red _
    have bh := behind_of_ok (S := S) rw' rg ⟨by omega, by omega⟩
    rw [wk_succ] at bh
    have bl : (bet b (wk t g k)).length ≤ 2000 := by
      rcases (bet_ok b (wk t g k)).1 with e | e <;> rw [e] <;> omega
    have ih := turns_walk (ρ := ρ) rg hsh hg hK hj n (k + 1) (bet b (wk t g k)) (by omega) bl (fun j h1 h2 => hm j (by omega) h2)
    unfold L_first_by_turns_1 at ih ⊢
    rw [mWhile_eq]
    have cc : (mB (mBin opLe (mBI biLen (mConsA (mVar 4) mNilA)) (mVar 5))) [some (T t), some (T ρ), some (T b), some (T g), some (T (wk t g k)), some (.int sh)] S = some (.ok true S) := by simp [c]
    have bd : (mSeq (mSet 2 (mMin2K LM.M_key_of (mVar 2) (mVar 4))) (mSet 4 (mCall LM.M_behind_of (mConsA (mVar 4) (mConsA (mVar 3) mNilA))))) [some (T t), some (T ρ), some (T b), some (T g), some (T (wk t g k)), some (.int sh)] S = some (.nx [some (T t), some (T ρ), some (T (bet b (wk t g k))), some (T g), some (T (wk t g (k + 1))), some (.int sh)] S) := by
      unfold bet
      cases q : before (wk t g k) b <;> rw [q] at lt <;> simp [k1, k2, lt, bh]
    rw [cc]
    simp only
    rw [bd]
    simp only
    rw [ih, bests]
/-- the best of all words with a root behind -/
structure Best (t ρ b : List Int) : Prop where
  ex : ∃ k : Int, b = PW.red (t ++ pow ρ k)
  le : ∀ k : Int, before (PW.red (t ++ pow ρ k)) b = false
theorem first_by_turns_ok {t ρ h r : List Int} (rt : Red t) (rρ : Red ρ) (nz : NZ ρ) (ρ0 : ρ ≠ []) (p : PartsU ρ h r) (hl : t.length + 2 * ρ.length ≤ 1990) : ∃ b, M_first_by_turns [T t, T ρ] S = some (.ok (T b) S) ∧ Best t ρ b := by
  have ri : Red (inv ρ) := rρ.inv
  have nzi : NZ (inv ρ) := fun x hx => by
    simp only [inv, List.mem_reverse, List.mem_map] at hx
    obtain ⟨y, hy, rfl⟩ := hx
    have := nz y hy
    omega
  have i0 : inv ρ ≠ [] := fun z => ρ0 (inv_eq_nil z)
  have pi : PartsU (inv ρ) h (inv r) := by
    refine ⟨by rw [p.eq]; simp [inv_append, inv_inv], ?_⟩
    exact stop_of (by rw [← inv_append]; exact (p.cyc rρ nz).inv)
  obtain ⟨K1, a1, a2⟩ := wk_first p rρ nz ρ0 (t := t) (t.length + 2 * ρ.length)
  obtain ⟨K2, b1, b2⟩ := wk_first pi ri nzi i0 (t := t) (t.length + 2 * ρ.length)
  have il := inv_length ρ
  have long : ∀ (g : List Int), g.length = ρ.length → ∀ K, (∀ j, j < K → (wk t g j).length ≤ t.length + 2 * ρ.length) → ∀ j, 0 ≤ j → j ≤ K → (wk t g j).length ≤ 4000 := fun g hg K hK j _ hj => by
    cases j with
    | zero => rw [wk_zero rt]; omega
    | succ j =>
      have := hK j (by omega)
      rw [← wk_succ]
      refine Nat.le_trans (red_len _) ?_
      simp; omega
  have w1 := turns_walk (S := S) (ρ := ρ) rρ (by omega) (by omega) a1 a2 K1 0 t (by omega) (by omega) (long ρ rfl K1 a2)
  obtain ⟨c1, c2, c3⟩ := bests_ok t ρ K1 0 t
  have l1 : (bests t ρ K1 0 t).length ≤ t.length := bf_le_len c2
  have w2 := turns_walk (S := S) (ρ := ρ) ri (by omega) (by omega) b1 b2 K2 0 (bests t ρ K1 0 t) (by omega) (by omega) (long (inv ρ) il K2 b2)
  obtain ⟨d1, d2, d3⟩ := bests_ok t (inv ρ) K2 0 (bests t ρ K1 0 t)
  rw [wk_zero rt] at w1 w2
  generalize hb1 : bests t ρ K1 0 t = B1 at *
  generalize hb2 : bests t (inv ρ) K2 0 B1 = B2 at *
  have l2 : B2.length ≤ B1.length := bf_le_len d2
  have pp : ∀ k : Nat, PW.red (t ++ pow ρ (k : Int)) = wk t ρ k := fun k => by unfold wk pow; rw [if_pos (by omega)]; rfl
  have pn : ∀ k : Nat, PW.red (t ++ pow ρ (-(k : Int))) = wk t (inv ρ) k := fun k => by
    unfold wk pow
    split
    · have : k = 0 := by omega
      subst this; rfl
    · congr 3; omega
  refine ⟨B2, ?_, ?_, fun k => ?_⟩
  · have mm : opMul (.int 2) (.int ρ.length) = some (.int (2 * ρ.length)) := mul_small (by decide)
    have bk := back_of_ok (S := S) (xs := ρ) (by omega)
    have sh1 : ((t.length + 2 * ρ.length : Nat) : Int) = (t.length : Int) + 2 * (ρ.length : Int) := by omega
    rw [sh1] at w1 w2
    have e : L_first_by_turns_2 [some (T t), some (T ρ), some (T t), none, none, none] S = some (.nx [some (T t), some (T ρ), some (T B2), some (T (inv ρ)), some (T (wk t (inv ρ) K2)), some (.int (t.length + 2 * ρ.length))] S) := by
      unfold L_first_by_turns_2
      have it : mItSeq (mTup (mConsA (mVar 1) (mConsA (mCall LM.M_back_of (mConsA (mVar 1) mNilA)) mNilA))) [some (T t), some (T ρ), some (T t), none, none, none] S = some (.ok [T ρ, T (inv ρ)] S) := by simp [bk, LINE]
      rw [s_mFor, it]
      simp only [bAS_ok]
      generalize hL : L_first_by_turns_1 = L1 at *
      unfold forL
      simp [mm, w1]
      unfold forL
      simp [mm, w2, forL_nil]
    refine Eq.trans (fn_of (S1 := S) (d := T B2) rfl ?_ (by simp)) (by simp)
    refine wp_seq (δ1 := [some (T t), some (T ρ), some (T t), none, none, none]) (S1 := S) (by simp) ?_
    exact wp_seq e ⟨_, by simp, rfl⟩
  · rcases d1 with e | ⟨j, _, hj, e⟩
    · rcases c1 with q | ⟨j, _, hj, q⟩
      · exact ⟨0, by rw [e, q]; show t = PW.red (t ++ []); rw [List.append_nil, red_id rt]⟩
      · exact ⟨j, by rw [e, q, pp]⟩
    · exact ⟨-(j : Int), by rw [e, pn]⟩
  · -- none is better
    by_cases s : 0 ≤ k
    · obtain ⟨n, rfl⟩ : ∃ n : Nat, k = n := ⟨k.toNat, by omega⟩
      rw [pp]
      by_cases q : n < K1
      · exact bf_le (a := B2) (b := B1) d2 (c3 n (by omega) (by omega))
      · have f := far p rρ nz ρ0 a1 (n - K1)
        have : K1 + (n - K1) = n := by omega
        rw [this] at f
        exact bf_long (by omega)
    · obtain ⟨n, rfl⟩ : ∃ n : Nat, k = -(n : Int) := ⟨(-k).toNat, by omega⟩
      rw [pn]
      by_cases q : n < K2
      · exact d3 n (by omega) (by omega)
      · have f := far pi ri nzi i0 (t := t) (k := K2) (by rw [il]; exact b1) (n - K2)
        have : K2 + (n - K2) = n := by omega
        rw [this] at f
        exact bf_long (by omega)
end
end K04

set_option linter.all false
set_option maxRecDepth 100000
set_option maxHeartbeats 1000000
/-! # K04r: turning, the law's rings -/
namespace K04
open PL PW LM
section
variable {S : Sto}
def Lets (l : Int) (w : List Int) : Prop := ∀ x ∈ w, x ≠ 0 ∧ -l ≤ x ∧ x ≤ l
theorem Lets.app {l : Int} {u v : List Int} (a : Lets l u) (b : Lets l v) : Lets l (u ++ v) := fun x hx => by
  rcases List.mem_append.mp hx with q | q
  · exact a x q
  · exact b x q
theorem Lets.inv {l : Int} {u : List Int} (a : Lets l u) : Lets l (PW.inv u) := fun x hx => by
  simp only [PW.inv, List.mem_reverse, List.mem_map] at hx
  obtain ⟨y, hy, rfl⟩ := hx
  have := a y hy
  omega
theorem Lets.red {l : Int} {u : List Int} (a : Lets l u) : Lets l (PW.red u) := fun x hx => a x (red_mem hx)
theorem Lets.sub {l : Int} {u v : List Int} (a : Lets l u) (h : ∀ x ∈ v, x ∈ u) : Lets l v := fun x hx => a x (h x hx)
theorem Lets.nz {l : Int} {u : List Int} (a : Lets l u) : NZ u := fun x hx => (a x hx).1
theorem mem_rep {n : Nat} {w : List Int} {x : Int} (h : x ∈ rep n w) : x ∈ w := by
  induction n with
  | zero => simp [rep_zero] at h
  | succ n ih =>
    rw [rep_succ] at h
    rcases List.mem_append.mp h with q | q
    · exact q
    · exact ih q
theorem Lets.pow {l : Int} {u : List Int} (a : Lets l u) (k : Int) : Lets l (LM.pow u k) := fun x hx => by
  unfold LM.pow at hx
  split at hx
  · exact a x (mem_rep hx)
  · exact a.inv x (mem_rep hx)
/-- one course turned into another one, the rings given -/
theorem turning_low {l : Int} {xs ys h r h' r' ρ : List Int} {m m' n : Nat} (hl : 1 ≤ l ∧ l ≤ 8) (g : Good l xs) (g2 : Good l ys) (p : PartsU (red xs) h r) (p' : PartsU (red ys) h' r') (r0 : r ≠ []) (r0' : r' ≠ [])
    (sp : Spot r m) (sp' : Spot r' m') (A : Rooted (red xs) ρ n) (hb : h.length + m + (h'.length + m') + 2 * ρ.length ≤ 1990) :
    (rot r m ≠ rot r' m' ∧ M_turning [.int l, T xs, T ys] S = some (.ok .non S)) ∨ (rot r m = rot r' m' ∧ ∃ t b, M_turning [.int l, T xs, T ys] S = some (.ok (T b) S) ∧ Conj (red xs) (red ys) t ∧ Lets l t ∧ t.length ≤ h.length + m + (h'.length + m') ∧ Best t ρ b) := by
  have n1 := need_course_ok (S := S) hl g
  have n2 := need_course_ok (S := S) hl g2
  have px := plain_of_ok (S := S) g.big
  have py := plain_of_ok (S := S) g2.big
  have gl := g.red.1
  have gl2 := g2.red.1
  have e1 := parted_of (S := S) gl p
  have e2 := parted_of (S := S) gl2 p'
  have len := PartsU.len p
  have len' := PartsU.len p'
  have a0 : red xs ≠ [] := fun z => by
    have hl := congrArg List.length p.eq
    rw [z] at hl
    have := List.length_pos_iff.mpr r0
    simp at hl; omega
  obtain ⟨m1, s1, sq1⟩ := least_spot_ok (S := S) r0 (by omega)
  obtain ⟨m2, s2, sq2⟩ := least_spot_ok (S := S) r0' (by omega)
  have : m1 = m := sq1.uniq sp
  subst this
  have : m2 = m' := sq2.uniq sp'
  subst this
  have hm := sp.lt
  have hm' := sp'.lt
  have t1 := turned_to_ok (S := S) (r := r) (i := m1) (by omega) (by omega)
  have t2 := turned_to_ok (S := S) (r := r') (i := m2) (by omega) (by omega)
  have eqn : opEq (T r) (.tup []) = some (.bl (decide (r = []))) := eq_T r []
  have eqn' : opEq (T r') (.tup []) = some (.bl (decide (r' = []))) := eq_T r' []
  have nq := ne_T (rot r m1) (rot r' m2)
  by_cases q : rot r m1 = rot r' m2
  · right
    refine ⟨q, ?_⟩
    rw [decide_eq_true q] at nq
    have rx : Red (h ++ r.take m1) := by
      have := red_red xs
      rw [p.eq] at this
      have e : h ++ r ++ inv h = (h ++ r.take m1) ++ (r.drop m1 ++ inv h) := by
        rw [List.append_assoc h, List.append_assoc h, ← List.append_assoc (r.take m1), List.take_append_drop]
      rw [e] at this
      exact this.left
    have ry : Red (h' ++ r'.take m2) := by
      have := red_red ys
      rw [p'.eq] at this
      have e : h' ++ r' ++ inv h' = (h' ++ r'.take m2) ++ (r'.drop m2 ++ inv h') := by
        rw [List.append_assoc h', List.append_assoc h', ← List.append_assoc (r'.take m2), List.take_append_drop]
      rw [e] at this
      exact this.left
    have c1 := cut_to (xs := r) (i := (m1 : Int)) rfl (by omega)
    have c2 := cut_to (xs := r') (i := (m2 : Int)) rfl (by omega)
    have lx : (h ++ r.take m1).length ≤ h.length + m1 := by simp; omega
    have ly : (h' ++ r'.take m2).length ≤ h'.length + m2 := by simp; omega
    have f1 := behind_of_ok (S := S) rx.left rx.right ⟨by omega, by simp; omega⟩
    have f2 := behind_of_ok (S := S) ry.left ry.right ⟨by omega, by simp; omega⟩
    rw [red_id rx] at f1
    rw [red_id ry] at f2
    have bk := back_of_ok (S := S) (xs := h ++ r.take m1) (by omega)
    have f3 := behind_of_ok (S := S) ry rx.inv ⟨by omega, by rw [inv_length]; omega⟩
    obtain ⟨ρ', n', e3, A', _⟩ := rooted_ok (S := S) (red_red xs) gl
    obtain ⟨e4, _⟩ := A.uniq A'
    subst e4
    have gr := g.red
    have k := two_conj (i := m1) (j := m2) (red_red xs) gr.nz (red_red ys) g2.red.nz p p' a0 q
    rw [red_id rx, red_id ry] at k
    generalize ht : PW.red (h' ++ r'.take m2 ++ inv (h ++ r.take m1)) = t at *
    have rt : Red t := by rw [← ht]; exact red_red _
    have tl : t.length ≤ h.length + m1 + (h'.length + m2) := by
      rw [← ht]
      refine Nat.le_trans (red_len _) ?_
      simp only [List.length_append, inv_length] at lx ly ⊢
      omega
    have ρ0 : ρ ≠ [] := fun z => by
      have := A.word (red_red xs) gr.nz
      rw [z, rep_nil] at this
      exact a0 this.symm
    have rρ := Rooted.redρ A (red_red xs) gr.nz
    have gρ := (Rooted.good A gr).1
    obtain ⟨hh, rr, _, pρ⟩ := parted_u (S := S) gρ.1
    obtain ⟨b, e5, B⟩ := first_by_turns_ok (S := S) rt rρ gρ.nz ρ0 pρ (by omega)
    refine ⟨t, b, ?_, k, ?_, tl, B⟩
    · simp only [M_turning, mSlice]
      have z1 : (1 : Nat) = 1 := rfl
      simp [n1, n2, px, py, e1, e2, s1, s2, t1, t2, eqn, eqn', r0, r0', nq, mSlice, c1, c2, f1, f2, bk, f3, e3, e5, LINE]
    · rw [← ht]
      refine Lets.red ?_
      have lr : Lets l (red xs) := gr.2
      have lr' : Lets l (red ys) := g2.red.2
      refine Lets.app (Lets.app ?_ ?_) (Lets.inv (Lets.app ?_ ?_))
      · exact lr'.sub fun x hx => by rw [p'.eq]; simp [hx]
      · exact lr'.sub fun x hx => by rw [p'.eq]; simp [List.mem_of_mem_take hx]
      · exact lr.sub fun x hx => by rw [p.eq]; simp [hx]
      · exact lr.sub fun x hx => by rw [p.eq]; simp [List.mem_of_mem_take hx]
  · left
    refine ⟨q, ?_⟩
    rw [decide_eq_false q] at nq
    simp [M_turning, n1, n2, px, py, e1, e2, s1, s2, t1, t2, eqn, eqn', r0, r0', nq, LINE]
/-- what is told as a turning -/
structure Told (l : Int) (a b w : List Int) : Prop where
  red : Red w
  lets : Lets l w
  conj : Conj a b w
  len : w.length ≤ 640
  least : ∀ u, NZ u → u.length ≤ 1300 → Conj a b u → before (PW.red u) w = false
theorem best_told {l : Int} {a b t ρ w : List Int} {n : Nat} (ra : Red a) (la : Lets l a) (a0 : a ≠ []) (al : a.length ≤ 2000) (A : Rooted a ρ n) (k : Conj a b t) (lt : Lets l t) (tl : t.length ≤ 640) (B : Best t ρ w) : Told l a b w := by
  obtain ⟨j, e⟩ := B.ex
  have lρ : Lets l ρ := by
    rcases A with ⟨_, e, _⟩ | ⟨_, h, r, d, p, _, e, _⟩
    · rw [e]; intro x hx; simp at hx
    · intro x hx
      rw [e] at hx
      refine la x ?_
      rw [p.eq]
      rcases List.mem_append.mp hx with q | q
      · rcases List.mem_append.mp q with q | q
        · simp [q]
        · simp [List.mem_of_mem_take q]
      · simp [q]
  have cp : ∀ i : Int, Conj a a (LM.pow ρ i) := fun i => past_conj ra (pow_past A ra la.nz i)
  have bl : w.length ≤ 640 := by
    have h := bf_le_len (B.le 0)
    have z : PW.red (t ++ LM.pow ρ 0) = PW.red t := by show PW.red (t ++ []) = _; rw [List.append_nil]
    rw [z] at h
    have := red_len t
    omega
  refine ⟨by rw [e]; exact red_red _, by rw [e]; exact (lt.app (lρ.pow j)).red, ?_, bl, fun u nzu ul ku => ?_⟩
  · rw [e]
    exact ((cp j).comp k).red
  · obtain ⟨i, ei⟩ := conj_all ra la.nz a0 A k ku (fun x hx => by
      rcases List.mem_append.mp hx with q | q
      · exact lt.nz x q
      · exact nzu x q) (fun g rg hg => by
        obtain ⟨γ, m, _, G, _⟩ := rooted_ok (S := []) rg (by omega)
        exact ⟨γ, m, G⟩)
    rw [ei]
    exact B.le i
theorem turning_ok {l : Int} {xs ys h r h' r' W W' : List Int} (hl : 1 ≤ l ∧ l ≤ 8) (g : Good l xs) (g2 : Good l ys) (hx : xs.length ≤ 320) (hy : ys.length ≤ 320) (p : PartsU (red xs) h r) (p' : PartsU (red ys) h' r') (hW : Least r W) (hW' : Least r' W') :
    (W ≠ W' ∧ M_turning [.int l, T xs, T ys] S = some (.ok .non S)) ∨ (W = W' ∧ ∃ b, M_turning [.int l, T xs, T ys] S = some (.ok (T b) S) ∧ Told l (red xs) (red ys) b) := by
  have lenx := red_len xs
  have leny := red_len ys
  have len := PartsU.len p
  have len' := PartsU.len p'
  by_cases c : r = [] ∨ r' = []
  · have n1 := need_course_ok (S := S) hl g
    have n2 := need_course_ok (S := S) hl g2
    have px := plain_of_ok (S := S) g.big
    have py := plain_of_ok (S := S) g2.big
    have e1 := parted_of (S := S) g.red.1 p
    have e2 := parted_of (S := S) g2.red.1 p'
    have eqn : opEq (T r) (.tup []) = some (.bl (decide (r = []))) := eq_T r []
    have eqn' : opEq (T r') (.tup []) = some (.bl (decide (r' = []))) := eq_T r' []
    have emp : ∀ {w h r : List Int}, PartsU (red w) h r → r = [] → red w = [] := fun {w h r} p z => by
      by_cases q : red w = []
      · exact q
      · exact absurd z (p.ring (red_red w) q)
    have lw : ∀ {r W : List Int}, Least r W → (W = [] ↔ r = []) := fun {r W} h => by
      rcases h with ⟨e1, e2⟩ | ⟨r0, i, hi, e, _⟩
      · exact ⟨fun _ => e1, fun _ => e2⟩
      · refine ⟨fun z => ?_, fun z => absurd z r0⟩
        have := rot_len r (Nat.le_of_lt hi)
        rw [← e, z] at this
        simp at this
        have := List.length_pos_iff.mpr r0
        omega
    by_cases q : r = r'
    · right
      have r1 : r = [] := by rcases c with c | c; exact c; rw [q]; exact c
      have r2 : r' = [] := by rw [← q]; exact r1
      refine ⟨by rw [(lw hW).mpr r1, (lw hW').mpr r2], [], ?_, ?_⟩
      · subst r1; subst r2
        have e0 : opEq (T []) (.tup []) = some (.bl true) := eq_T [] []
        simp [M_turning, n1, n2, px, py, e1, e2, e0, LINE, intD_nil, D.pure, D.pures]
      · rw [emp p r1, emp p' r2]
        exact ⟨by simp [Red], (fun x hx => by simp at hx), by unfold Conj; rfl, by simp, fun u _ _ _ => by
          by_cases z : PW.red u = []
          · rw [z]; exact bf_irr []
          · exact bf_long (List.length_pos_iff.mpr z)⟩
    · left
      refine ⟨fun z => ?_, ?_⟩
      · rcases c with c | c
        · have := (lw hW').mp (by rw [← z]; exact (lw hW).mpr c)
          exact q (by rw [c, this])
        · have := (lw hW).mp (by rw [z]; exact (lw hW').mpr c)
          exact q (by rw [c, this])
      · have eqr : opEq (T r) (T r') = some (.bl false) := by rw [eq_T, decide_eq_false q]
        rcases c with c | c
        · subst c
          have e0 : opEq (T []) (.tup []) = some (.bl true) := eq_T [] []
          have er : decide ([] = r') = false := decide_eq_false q
          simp [M_turning, n1, n2, px, py, e1, e2, e0, er, eqr, LINE, intD_nil, D.pure, D.pures]
        · subst c
          have e0 : opEq (T []) (.tup []) = some (.bl true) := eq_T [] []
          have r0 : ¬ r = [] := q
          simp [M_turning, n1, n2, px, py, e1, e2, e0, eqn, r0, eqr, LINE, intD_nil, D.pure, D.pures]
  · have r0 : r ≠ [] := fun z => c (.inl z)
    have r0' : r' ≠ [] := fun z => c (.inr z)
    obtain ⟨m, sp⟩ := spot_ex r0
    obtain ⟨m', sp'⟩ := spot_ex r0'
    have hm := sp.lt
    have hm' := sp'.lt
    have e1 : rot r m = W := sp.least.uniq hW
    have e2 : rot r' m' = W' := sp'.least.uniq hW'
    obtain ⟨ρ, n, _, A, _⟩ := rooted_ok (S := S) (red_red xs) g.red.1
    have hρ := (Rooted.good A g.red).2
    rw [← e1, ← e2]
    rcases turning_low (S := S) hl g g2 p p' r0 r0' sp sp' A (by omega) with ⟨z, e⟩ | ⟨z, t, b, e, k, lt, tl, B⟩
    · exact .inl ⟨z, e⟩
    · refine .inr ⟨z, b, e, ?_⟩
      have a0 : red xs ≠ [] := fun z => by
        have hl := congrArg List.length p.eq
        rw [z] at hl
        have := List.length_pos_iff.mpr r0
        simp at hl; omega
      exact best_told (red_red xs) g.red.2 a0 g.red.1 A k lt (by omega) B
end
end K04

set_option linter.all false
set_option maxRecDepth 100000
set_option maxHeartbeats 1000000
/-! # K04s: the law's own rings, what turns -/
namespace K04
open PL PW LM
instance {a b u : List Int} : Decidable (Conj a b u) := inferInstanceAs (Decidable (PW.red (u ++ (a ++ inv u)) = b))
section
variable {S : Sto}
theorem ix_last1 {s : List Int} {y : Int} : opIx S (T (s ++ [y])) (.int (-1)) = some (.int y) := by
  simp only [opIx, seqOf, Option.bind_some, intD_len]
  rw [ixN_last (by simp)]
  have e : (s ++ [y])[(s ++ [y]).length - 1]? = some y := by rw [← List.getLast?_eq_getElem?, List.getLast?_concat]
  show (intD (s ++ [y]))[(s ++ [y]).length - 1]? = _
  rw [intD_get, e]; rfl
theorem cut_ends {x y : Int} {s : List Int} : cut (intD (x :: (s ++ [y]))) (some 1) (some (-1)) = intD s := by
  unfold cut sIx
  have e1 : (-1 + ((intD (x :: (s ++ [y]))).length : Int)).toNat = s.length + 1 := by simp; omega
  have e2 : min (1 : Int).toNat (intD (x :: (s ++ [y]))).length = 1 := by simp
  simp only [show ((-1 : Int) < 0) from by omega, if_true, show ¬ ((1 : Int) < 0) from by omega, if_false, e1, e2]
  rw [intD_drop, intD_take]
  simp
theorem strip_ok {r : List Int} (st : r.length ≤ 1 ∨ ∃ x s y, r = x :: (s ++ [y]) ∧ x ≠ -y) {a1 a2 : Option D} (h : List Int) : L__law_ring_1 [some (T (h ++ r ++ inv h)), a1, a2] S = some (.nx [some (T r), a1, a2] S) := by
  obtain ⟨res, e, rfl⟩ := while_run (c := mAndT (mB (mBin opGt (mBI biLen (mConsA (mVar 0) mNilA)) (mC (.int 1)))) (mB (mBin opEq (mBinS opIx (mVar 0) (mC (.int 0))) (mUn opNeg (mBinS opIx (mVar 0) (mUn opNeg (mC (.int 1))))))))
    (b := mSet 0 (mSlice (mVar 0) (some (mC (.int 1))) (some (mUn opNeg (mC (.int 1))))))
    (fun n δ S' => S' = S ∧ ∃ h : List Int, n = h.length ∧ δ = [some (T (h ++ r ++ inv h)), a1, a2]) (fun res => res = .nx [some (T r), a1, a2] S) (by
      rintro n δ S' ⟨rfl, h, rfl, rfl⟩
      cases h with
      | nil =>
        left
        have e0 : ([] : List Int) ++ r ++ inv [] = r := by simp [inv]
        rw [e0]
        rcases st with c | ⟨x, s, y, e, ne⟩
        · have c' : ¬ (1 : Int) < (r.length : Int) := by omega
          exact ⟨S', by simp only [s_mAndT, s_mB, s_mBin, s_mBI, s_mConsA, s_mVar, s_mNilA, s_mC, List.getElem?_cons_zero, bE_ok, bEA_ok, bAA_ok, bA_ok, len_T, Option.map_some, gt_int, decide_eq_false c', bET_ok, bTT_ok, Bool.false_eq_true, if_false], rfl⟩
        · have c' : (1 : Int) < (r.length : Int) := by rw [e]; simp; omega
          have i0 : opIx S' (T r) (.int 0) = some (.int x) := ix_T (n := 0) rfl (by rw [e]; rfl)
          have i1 : opIx S' (T r) (.int (-1)) = some (.int y) := by
            rw [e]; exact ix_last1 (s := x :: s)
          have ne' : decide (x = -y) = false := decide_eq_false ne
          exact ⟨S', by simp only [s_mAndT, s_mB, s_mBin, s_mBinS, s_mBI, s_mConsA, s_mVar, s_mNilA, s_mC, s_mUn, neg_int, List.getElem?_cons_zero, bE_ok, bEA_ok, bAA_ok, bA_ok, len_T, Option.map_some, gt_int, decide_eq_true c', bET_ok, bTT_ok, if_true, i0, i1, eq_int, ne'], rfl⟩
      | cons y h1 =>
        right
        have e0 : (y :: h1) ++ r ++ inv (y :: h1) = y :: ((h1 ++ r ++ inv h1) ++ [-y]) := by rw [inv_cons]; simp only [List.cons_append, List.append_assoc]
        rw [e0]
        have c' : (1 : Int) < ((y :: ((h1 ++ r ++ inv h1) ++ [-y])).length : Int) := by simp only [List.length_cons, List.length_append, List.length_nil]; omega
        have i0 : opIx S' (T (y :: ((h1 ++ r ++ inv h1) ++ [-y]))) (.int 0) = some (.int y) := ix_T (n := 0) rfl rfl
        have i1 : opIx S' (T (y :: ((h1 ++ r ++ inv h1) ++ [-y]))) (.int (-1)) = some (.int (-y)) := ix_last1 (s := y :: (h1 ++ r ++ inv h1))
        have cc := cut_ends (x := y) (y := -y) (s := h1 ++ r ++ inv h1)
        generalize hw : y :: ((h1 ++ r ++ inv h1) ++ [-y]) = w at *
        refine ⟨S', by simp only [s_mAndT, s_mB, s_mBin, s_mBinS, s_mBI, s_mConsA, s_mVar, s_mNilA, s_mC, s_mUn, neg_int, List.getElem?_cons_zero, bE_ok, bEA_ok, bAA_ok, bA_ok, len_T, Option.map_some, gt_int, decide_eq_true c', bET_ok, bTT_ok, if_true, i0, i1, Int.neg_neg, eq_int, decide_true], .inl ⟨[some (T (h1 ++ r ++ inv h1)), a1, a2], S', h1.length, .inl ?_, by simp, rfl, h1, rfl, rfl⟩⟩
        simp only [s_mSet, mSlice, s_mVar, s_mC, s_mUn, neg_int, List.getElem?_cons_zero, bE_ok, Option.map_some, cc, bES_ok]
        rfl) h.length [some (T (h ++ r ++ inv h)), a1, a2] S ⟨rfl, h, rfl, rfl⟩
  exact e
theorem rot_app {r : List Int} {i : Nat} (hi : i ≤ r.length) (hl : r.length ≤ 1000000) : opAdd (T (r.drop i)) (T (r.take i)) = some (T (rot r i)) := by
  have a := add_T (r.drop i) (r.take i)
  rw [if_pos (by simp [LINE]; omega)] at a
  exact a
theorem law_ring_ok {w h r W : List Int} (p : PartsU w h r) (hW : Least r W) (hl : w.length ≤ 2000) : M__law_ring [T w] S = some (.ok (T W) S) := by
  have len := PartsU.len p
  have s1 := strip_ok (S := S) p.stop (a1 := none) (a2 := none) h
  rw [← p.eq] at s1
  have loop : ∃ z, L__law_ring_2 [some (T r), some (T r), none] S = some (.nx [some (T r), some (T W), z] S) := by
    obtain ⟨δ', S', e, rfl, i, k, B, z, hds, hik, rfl, hB, hmin⟩ := forL_run (t := .name 2) (b := (mIfS (mB (mBin opLt (mCall LM.M__law_key (mConsA (mBin opAdd (mSlice (mVar 0) (some (mVar 2)) none) (mSlice (mVar 0) none (some (mVar 2)))) mNilA)) (mCall LM.M__law_key (mConsA (mVar 1) mNilA)))) (mSet 1 (mBin opAdd (mSlice (mVar 0) (some (mVar 2)) none) (mSlice (mVar 0) none (some (mVar 2))))) mPass))
      (fun ds δ S' => S' = S ∧ ∃ (i k : Nat) (B : List Int) (z : Option D), ds = rangeD (i : Int) k ∧ i + k = r.length ∧ δ = [some (T r), some (T B), z] ∧ (B = r ∨ ∃ j, j < r.length ∧ B = rot r j) ∧ ∀ j, j < i → lx (rot r j) B = false) (by
        rintro d ds δ S' ⟨rfl, i, k, B, z, hds, hik, rfl, hB, hmin⟩
        cases k with
        | zero => simp [rangeD] at hds
        | succ k =>
          rw [range2_all (b := 0)] at hds
          obtain ⟨rfl, rfl⟩ := List.cons.inj hds
          have hi : i < r.length := by omega
          have c1 := cut_from (xs := r) (i := (i : Int)) rfl (by omega)
          have c2 := cut_to (xs := r) (i := (i : Int)) rfl (by omega)
          have ra := rot_app (r := r) (i := i) (by omega) (by omega)
          have rl := rot_len r (i := i) (by omega)
          have Bl : B.length = r.length := by
            rcases hB with e | ⟨j, hj, e⟩
            · rw [e]
            · rw [e, rot_len r (by omega)]
          have k1 := law_key_ok (S := S') (xs := rot r i) (by omega)
          have k2 := law_key_ok (S := S') (xs := B) (by omega)
          have lt := keyL_lt (rot r i) B
          rw [before_eq, if_pos (by omega)] at lt
          refine ⟨[some (T r), some (T B), some (.int (i : Nat))], by simp, [some (T r), some (T (if lx (rot r i) B then rot r i else B)), some (.int (i : Nat))], S', .inl ?_, rfl, i + 1, k, _, _, rfl, by omega, rfl, ?_, ?_⟩
          · cases q : lx (rot r i) B <;> rw [q] at lt <;> simp [mSlice, c1, c2, -add_T, ra, k1, k2, lt]
          · split
            · exact .inr ⟨i, hi, rfl⟩
            · exact hB
          · intro j hj
            split
            · rename_i q
              by_cases e : j = i
              · subst e; exact lx_irr _
              · have := hmin j (by omega)
                cases c : lx (rot r j) (rot r i) with
                | false => rfl
                | true => rw [lx_trans c q] at this; cases this
            · rename_i q
              by_cases e : j = i
              · subst e; simpa using q
              · exact hmin j (by omega)) (rangeD 0 r.length) [some (T r), some (T r), none] S ⟨rfl, 0, r.length, r, none, rfl, by omega, rfl, .inl rfl, fun j hj => by omega⟩
    have k0 : k = 0 := by
      cases k with
      | zero => rfl
      | succ k => rw [range2_all (b := 0)] at hds; cases hds
    have : B = W := by
      refine Least.uniq (r := r) ?_ hW
      by_cases r0 : r = []
      · refine .inl ⟨r0, ?_⟩
        rcases hB with e | ⟨j, hj, _⟩
        · rw [e, r0]
        · rw [r0] at hj; simp at hj
      · refine .inr ⟨r0, ?_⟩
        have hn := List.length_pos_iff.mpr r0
        rcases hB with e | ⟨j, hj, e⟩
        · exact ⟨0, hn, by rw [e, rot_zero], fun j hj => hmin j (by omega)⟩
        · exact ⟨j, hj, e, fun j hj => hmin j (by omega)⟩
    subst this
    refine ⟨z, ?_⟩
    unfold L__law_ring_2
    have hb : (r.length : Int).natAbs < 4611686018427387904 := by omega
    rw [s_mFor]
    simp only [s_mItRange1, s_mBI, s_mConsA, s_mVar, s_mNilA, List.getElem?_cons_zero, bEA_ok, bAA_ok, bA_ok, bE_ok, len_T, Option.map_some, hb, if_true, Int.toNat_natCast, bAS_ok]
    exact e
  obtain ⟨z, s2⟩ := loop
  simp [M__law_ring, s1, s2]
theorem law_turns_ok {u a b : List Int} (h : u.length ≤ 4000) (h2 : a.length ≤ 4000) : M__law_turns [T u, T a, T b] S = some (.ok (.bl (decide (Conj a b u))) S) := by
  have bk := law_back_ok (S := S) (xs := u) (by omega)
  have pl := law_plain_ok (S := S) (xs := u ++ (a ++ inv u)) (by simp [inv_length]; omega)
  have l1 : u.length + a.length ≤ 16777216 := by omega
  have l2 : u.length + a.length + (inv u).length ≤ 16777216 := by rw [inv_length]; omega
  have l3 : u.length + (a.length + (inv u).length) ≤ 16777216 := by rw [inv_length]; omega
  have e : decide (PW.red (u ++ (a ++ inv u)) = b) = decide (Conj a b u) := rfl
  simp [M__law_turns, bk, pl, l1, l2, l3, e, LINE]
theorem check_turning_ok {l : Int} {xs ys u : List Int} (hl : 1 ≤ l ∧ l ≤ 8) (g : Good l xs) (g2 : Good l ys) (gu : Good l u) : LM.M_check_turning [.int l, T xs, T ys, T u] S = some (.ok (.bl (decide (Conj (red xs) (red ys) u))) S) := by
  have n1 := need_course_ok (S := S) hl g
  have n2 := need_course_ok (S := S) hl g2
  have n3 := need_course_ok (S := S) hl gu
  have h1 := g.1
  have h3 := gu.1
  have bk := back_of_ok (S := S) gu.big
  have pl := plain_of_ok (S := S) (xs := u ++ (xs ++ inv u)) (by simp [inv_length]; omega)
  have py := plain_of_ok (S := S) g2.big
  have l1 : u.length + xs.length ≤ 16777216 := by omega
  have l2 : u.length + xs.length + (inv u).length ≤ 16777216 := by rw [inv_length]; omega
  have l3 : u.length + (xs.length + (inv u).length) ≤ 16777216 := by rw [inv_length]; omega
  have e : decide (PW.red (u ++ (xs ++ inv u)) = PW.red ys) = decide (Conj (PW.red xs) (PW.red ys) u) := decide_eq_decide.mpr (by unfold Conj; rw [red_in])
  simp [LM.M_check_turning, n1, n2, n3, bk, pl, py, l1, l2, l3, e, LINE]
end
end K04

set_option linter.all false
set_option maxRecDepth 100000
set_option maxHeartbeats 1000000
/-! # K04u: all plain courses in order -/
namespace K04
open PL PW LM
/-- what may stand behind a course -/
def mayB (t : List Int) (x : Int) : Bool := decide (t = [] ∨ t.getLast? ≠ some (-x))
def ext (ss : List Int) (t : List Int) : List (List Int) := (ss.filter (mayB t)).map fun x => t ++ [x]
def lots (ss : List Int) : Nat → List (List Int)
  | 0 => [[]]
  | s + 1 => (lots ss s).flatMap (ext ss)
theorem lots_mem {ss : List Int} : ∀ {s : Nat} {u : List Int}, u ∈ lots ss s ↔ u.length = s ∧ Red u ∧ ∀ x ∈ u, x ∈ ss
  | 0, u => by
    simp only [lots, List.mem_singleton]
    constructor
    · rintro rfl; exact ⟨rfl, by simp [Red], by simp⟩
    · rintro ⟨h, _⟩; exact List.length_eq_zero_iff.mp h
  | s + 1, u => by
    simp only [lots, List.mem_flatMap]
    constructor
    · rintro ⟨t, ht, hu⟩
      obtain ⟨h1, h2, h3⟩ := lots_mem.mp ht
      simp only [ext, List.mem_map, List.mem_filter, mayB, decide_eq_true_eq] at hu
      obtain ⟨x, ⟨hx, hm⟩, rfl⟩ := hu
      refine ⟨by simp [h1], red_snoc h2 fun a ha hz => ?_, fun y hy => ?_⟩
      · rcases hm with e | e
        · rw [e] at ha; simp at ha
        · exact e (by rw [ha, hz])
      · rcases List.mem_append.mp hy with q | q
        · exact h3 y q
        · rw [List.mem_singleton.mp q]; exact hx
    · rintro ⟨h1, h2, h3⟩
      have u0 : u ≠ [] := fun z => by rw [z] at h1; simp at h1
      obtain ⟨t, x, rfl⟩ := cat_last u u0
      refine ⟨t, lots_mem.mpr ⟨by simpa using h1, h2.left, fun y hy => h3 y (by simp [hy])⟩, ?_⟩
      simp only [ext, List.mem_map, List.mem_filter, mayB, decide_eq_true_eq]
      refine ⟨x, ⟨h3 x (by simp), ?_⟩, rfl⟩
      by_cases q : t = []
      · exact .inl q
      · right
        intro hz
        exact Red.joint h2 hz rfl rfl
theorem lx_snoc {a b : List Int} : a.length = b.length → ∀ (x y : Int), (lx a b = true ∨ (a = b ∧ kn x < kn y)) → lx (a ++ [x]) (b ++ [y]) = true := by
  induction a generalizing b with
  | nil =>
    intro h x y q
    cases b with
    | nil =>
      rcases q with q | ⟨_, q⟩
      · cases q
      · have : ¬ x = y := fun z => by rw [z] at q; omega
        simp [lx, this, q]
    | cons _ _ => simp at h
  | cons z a ih =>
    intro h x y q
    cases b with
    | nil => simp at h
    | cons w b =>
      have h' : a.length = b.length := by simpa using h
      simp only [List.cons_append, lx]
      by_cases e : z = w
      · subst e
        rw [if_pos rfl]
        refine ih h' x y ?_
        rcases q with q | ⟨q, k⟩
        · left; simpa [lx] using q
        · right; exact ⟨by simpa using q, k⟩
      · rw [if_neg e]
        rcases q with q | ⟨q, k⟩
        · simp only [lx, if_neg e] at q; exact q
        · exact absurd (List.cons.inj q).1 e
theorem lots_sorted {ss : List Int} (hs : ss.Pairwise fun x y => kn x < kn y) : ∀ s, (lots ss s).Pairwise fun u v => lx u v = true
  | 0 => by simp [lots]
  | s + 1 => by
    have ih := lots_sorted hs s
    have len : ∀ u ∈ lots ss s, u.length = s := fun u hu => (lots_mem.mp hu).1
    simp only [lots]
    generalize lots ss s = ls at ih len
    induction ls with
    | nil => simp
    | cons t ls ih2 =>
      rw [List.flatMap_cons, List.pairwise_append]
      obtain ⟨i1, i2⟩ := List.pairwise_cons.mp ih
      refine ⟨?_, ih2 i2 fun u hu => len u (List.mem_cons_of_mem _ hu), fun u hu v hv => ?_⟩
      · unfold ext
        rw [List.pairwise_map]
        exact (hs.filter _).imp fun {x y} h => lx_snoc rfl x y (.inr ⟨rfl, h⟩)
      · simp only [ext, List.mem_map] at hu
        obtain ⟨x, _, rfl⟩ := hu
        obtain ⟨t2, ht2, hv⟩ := List.mem_flatMap.mp hv
        simp only [ext, List.mem_map] at hv
        obtain ⟨y, _, rfl⟩ := hv
        refine lx_snoc ?_ x y (.inl (i1 t2 ht2))
        rw [len t List.mem_cons_self, len t2 (List.mem_cons_of_mem _ ht2)]
theorem find_first {p : List Int → Bool} : ∀ {ls : List (List Int)}, (ls.Pairwise fun u v => lx u v = true) → ∀ {u}, ls.find? p = some u → ∀ v ∈ ls, p v = true → v = u ∨ lx u v = true
  | [], _, u, h, v, hv, _ => by simp at hv
  | t :: ls, hp, u, h, v, hv, pv => by
    obtain ⟨p1, p2⟩ := List.pairwise_cons.mp hp
    rw [List.find?_cons] at h
    cases q : p t with
    | true =>
      rw [q] at h
      cases h
      rcases List.mem_cons.mp hv with e | e
      · exact .inl e
      · exact .inr (p1 v e)
    | false =>
      rw [q] at h
      rcases List.mem_cons.mp hv with e | e
      · subst e; rw [q] at pv; cases pv
      · exact find_first p2 h v e pv
def ff (a b ss : List Int) : Nat → Nat → Option (List Int)
  | 0, _ => none
  | n + 1, s => match (lots ss s).find? fun u => decide (Conj a b u) with
    | some u => some u
    | none => ff a b ss n (s + 1)
theorem ff_ok {a b ss : List Int} (hs : ss.Pairwise fun x y => kn x < kn y) : ∀ n s, (∀ u, ff a b ss n s = some u → Red u ∧ (∀ x ∈ u, x ∈ ss) ∧ u.length < s + n ∧ Conj a b u ∧ ∀ v, Red v → (∀ x ∈ v, x ∈ ss) → s ≤ v.length → Conj a b v → before v u = false) ∧
    (ff a b ss n s = none → ∀ v, Red v → (∀ x ∈ v, x ∈ ss) → s ≤ v.length → v.length < s + n → ¬ Conj a b v)
  | 0, s => ⟨fun u h => (by cases h), fun _ v _ _ h1 h2 => (by omega)⟩
  | n + 1, s => by
    rw [ff]
    cases q : (lots ss s).find? fun u => decide (Conj a b u) with
    | some u =>
      refine ⟨fun u' h => ?_, fun h => by cases h⟩
      cases h
      have hm := List.mem_of_find?_eq_some q
      have hc : Conj a b u := by have := List.find?_some q; simpa using this
      obtain ⟨l1, l2, l3⟩ := lots_mem.mp hm
      refine ⟨l2, l3, by omega, hc, fun v rv lv hv cv => ?_⟩
      by_cases e : v.length = s
      · have mv := lots_mem.mpr ⟨e, rv, lv⟩
        rcases find_first (lots_sorted hs s) q v mv (by simpa using cv) with z | z
        · rw [z]; exact bf_irr u
        · rw [before_eq, if_pos (by omega)]
          cases k : lx v u with
          | false => rfl
          | true => have := lx_trans z k; rw [lx_irr] at this; cases this
      · exact bf_long (by omega)
    | none =>
      obtain ⟨i1, i2⟩ := ff_ok (a := a) (b := b) hs n (s + 1)
      have no : ∀ v, Red v → (∀ x ∈ v, x ∈ ss) → v.length = s → ¬ Conj a b v := fun v rv lv e cv => by
        have := List.find?_eq_none.mp q v (lots_mem.mpr ⟨e, rv, lv⟩)
        simp [cv] at this
      refine ⟨fun u h => ?_, fun h v rv lv h1 h2 cv => ?_⟩
      · obtain ⟨j1, j2, j3, j4, j5⟩ := i1 u h
        refine ⟨j1, j2, by omega, j4, fun v rv lv hv cv => ?_⟩
        by_cases e : v.length = s
        · exact absurd cv (no v rv lv e)
        · exact j5 v rv lv (by omega) cv
      · by_cases e : v.length = s
        · exact no v rv lv e cv
        · exact i2 h v rv lv (by omega) (by omega) cv
theorem flat_len {ss : List Int} : ∀ ls : List (List Int), (ls.flatMap (ext ss)).length ≤ ls.length * ss.length
  | [] => by simp
  | t :: ls => by
    rw [List.flatMap_cons, List.length_append, List.length_cons, Nat.succ_mul]
    have h1 : (ext ss t).length ≤ ss.length := by unfold ext; rw [List.length_map]; exact List.length_filter_le _ _
    have := flat_len (ss := ss) ls
    omega
theorem lots_len {ss : List Int} (h : ss.length ≤ 4) : ∀ s, (lots ss s).length ≤ 4 ^ s
  | 0 => by simp [lots]
  | s + 1 => by
    rw [lots, Nat.pow_succ]
    exact Nat.le_trans (flat_len _) (Nat.mul_le_mul (lots_len h s) h)
section
variable {S : Sto}
/-- the texts of the law's search -/
theorem scan_ok {a b : List Int} (ha : a.length ≤ 4000) {a0 a3 a4 a5 a6 a7 a9 a10 : Option D} : ∀ (ls : List (List Int)) (z : Option D), (∀ u ∈ ls, u.length ≤ 4000) → ∃ z',
    forL (.name 8) (mIfS (mB (mCall M__law_turns (mConsA (mVar 8) (mConsA (mVar 1) (mConsA (mVar 2) mNilA))))) (mRet (mLst (mConsA (mVar 8) mNilA))) mPass) (ls.map T) [a0, some (T a), some (T b), a3, a4, a5, a6, a7, z, a9, a10] S =
      some (match ls.find? fun u => decide (Conj a b u) with
        | some u => .rt (.lst [T u]) S
        | none => .nx [a0, some (T a), some (T b), a3, a4, a5, a6, a7, z', a9, a10] S)
  | [], z, _ => ⟨z, by simp [forL_nil]⟩
  | u :: ls, z, h => by
    have t := law_turns_ok (S := S) (u := u) (a := a) (b := b) (h u List.mem_cons_self) ha
    obtain ⟨z', e⟩ := scan_ok ha (a0 := a0) (a3 := a3) (a4 := a4) (a5 := a5) (a6 := a6) (a7 := a7) (a9 := a9) (a10 := a10) (b := b) ls (some (T u)) (fun v hv => h v (List.mem_cons_of_mem _ hv))
    refine ⟨z', ?_⟩
    rw [List.map_cons, List.find?_cons]
    conv => lhs; unfold forL
    simp only [s_put_name, List.set_cons_succ, List.set_cons_zero]
    by_cases c : Conj a b u
    · rw [decide_eq_true c] at t ⊢
      simp [t, LINE]
    · rw [decide_eq_false c] at t ⊢
      simp only
      rw [← e]
      simp [t]
theorem comp_ext {ss : List Int} {t : List Int} (ht : t.length ≤ 1000) (hss : ss.length ≤ 1000) {a0 a1 a2 a3 a4 a6 a7 a9 a10 : Option D} :
    (mComp [10] (.name 10) (mItSeq (mVar 5)) (mOrT (mB (mBin opEq (mVar 8) (mTup mNilA))) (mB (mBin opNe (mBinS opIx (mVar 8) (mUn opNeg (mC (.int 1)))) (mUn opNeg (mVar 10))))) (mBin opAdd (mVar 8) (mTup (mConsA (mVar 10) mNilA)))) [a0, a1, a2, a3, a4, some (L ss), a6, a7, some (T t), a9, a10] S =
      some (.ok (.lst ((ext ss t).map T)) S) := by
  have eqn : opEq (T t) (.tup []) = some (.bl (decide (t = []))) := eq_T t []
  have e := compL_run (t := .name 10) (c := mOrT (mB (mBin opEq (mVar 8) (mTup mNilA))) (mB (mBin opNe (mBinS opIx (mVar 8) (mUn opNeg (mC (.int 1)))) (mUn opNeg (mVar 10))))) (e := mBin opAdd (mVar 8) (mTup (mConsA (mVar 10) mNilA))) (δ := [a0, a1, a2, a3, a4, some (L ss), a6, a7, some (T t), a9, none]) (S := S)
    (fun d => match d with | .int x => mayB t x | _ => false) (fun d => match d with | .int x => T (t ++ [x]) | _ => .non) (intD ss) [] (by
      intro d hd
      obtain ⟨x, hx, rfl⟩ := List.mem_map.mp hd
      have ad : opAdd (T t) (.tup [.int x]) = some (T (t ++ [x])) := by
        have a := add_T t [x]
        rw [if_pos (by simp [LINE]; omega)] at a
        exact a
      refine ⟨[a0, a1, a2, a3, a4, some (L ss), a6, a7, some (T t), a9, some (.int x)], by simp, ?_, fun _ => by simp [ad, LINE]⟩
      by_cases q : t = []
      · have m : mayB t x = true := by unfold mayB; exact decide_eq_true (.inl q)
        show _ = some (RT.ok (mayB t x) S)
        rw [m]
        simp [eqn, q, LINE]
        have e0 : opEq (T []) (.tup []) = some (.bl true) := eq_T [] []
        simp [e0]
      · obtain ⟨t', z, e⟩ := cat_last t q
        have ix : opIx S (T t) (.int (-1)) = some (.int z) := by rw [e]; exact ix_last1
        have m : mayB t x = !decide (z = -x) := by
          unfold mayB
          rw [e]
          simp
        show _ = some (RT.ok (mayB t x) S)
        rw [m]
        simp [eqn, q, ix, LINE])
  have fm : ((intD ss).filter (fun d => match d with | .int x => mayB t x | _ => false)).map (fun d => match d with | .int x => T (t ++ [x]) | _ => .non) = (ext ss t).map T := by
    unfold ext intD
    rw [List.filter_map, List.map_map, List.map_map]
    rfl
  rw [fm] at e
  have w : wipeD [a0, a1, a2, a3, a4, some (L ss), a6, a7, some (T t), a9, a10] [10] = [a0, a1, a2, a3, a4, some (L ss), a6, a7, some (T t), a9, none] := rfl
  have hz : ss.length ≤ 16777216 := by omega
  simp only [s_mComp, s_mCompA, s_mItSeq, s_mVar, List.getElem?_cons_succ, List.getElem?_cons_zero, bEA_ok, bAA_ok, intD_len, LINE, hz, if_true, w, e, bA_ok, List.nil_append]
theorem more_ok {ss : List Int} (hss : ss.length ≤ 4) {a0 a1 a2 a3 a4 a6 a7 a10 : Option D} : ∀ (ls dn : List (List Int)) (z : Option D), (∀ u ∈ ls, u.length ≤ 1000) → dn.length + ls.length ≤ 1000000 → ∃ z',
    forL (.name 8) (mSet 9 (mBin opAdd (mVar 9) (mComp [10] (.name 10) (mItSeq (mVar 5)) (mOrT (mB (mBin opEq (mVar 8) (mTup mNilA))) (mB (mBin opNe (mBinS opIx (mVar 8) (mUn opNeg (mC (.int 1)))) (mUn opNeg (mVar 10))))) (mBin opAdd (mVar 8) (mTup (mConsA (mVar 10) mNilA)))))) (ls.map T)
      [a0, a1, a2, a3, a4, some (L ss), a6, a7, z, some (.lst ((dn.flatMap (ext ss)).map T)), a10] S = some (.nx [a0, a1, a2, a3, a4, some (L ss), a6, a7, z', some (.lst (((dn ++ ls).flatMap (ext ss)).map T)), a10] S)
  | [], dn, z, _, _ => ⟨z, by simp [forL_nil]⟩
  | t :: ls, dn, z, h, hl => by
    simp only [List.length_cons] at hl
    obtain ⟨z', e⟩ := more_ok hss (a0 := a0) (a1 := a1) (a2 := a2) (a3 := a3) (a4 := a4) (a6 := a6) (a7 := a7) (a10 := a10) ls (dn ++ [t]) (some (T t)) (fun u hu => h u (List.mem_cons_of_mem _ hu)) (by simp; omega)
    refine ⟨z', ?_⟩
    have c := comp_ext (S := S) (ss := ss) (t := t) (h t List.mem_cons_self) (by omega) (a0 := a0) (a1 := a1) (a2 := a2) (a3 := a3) (a4 := a4) (a6 := a6) (a7 := a7) (a9 := some (.lst ((dn.flatMap (ext ss)).map T))) (a10 := a10)
    have f1 := flat_len (ss := ss) dn
    have f2 : (ext ss t).length ≤ ss.length := by unfold ext; rw [List.length_map]; exact List.length_filter_le _ _
    have f3 : dn.length * ss.length ≤ dn.length * 4 := Nat.mul_le_mul_left _ hss
    have ad : opAdd (.lst ((dn.flatMap (ext ss)).map T)) (.lst ((ext ss t).map T)) = some (.lst (((dn ++ [t]).flatMap (ext ss)).map T)) := by
      simp only [opAdd, List.length_map]
      rw [if_pos (by simp only [LINE]; omega)]
      simp
    rw [List.map_cons]
    conv => lhs; unfold forL
    simp only [s_put_name, List.set_cons_succ, List.set_cons_zero, s_mSet, s_mBin, s_mVar, List.getElem?_cons_succ, List.getElem?_cons_zero, bE_ok, c, ad, Option.map_some, bES_ok]
    rw [e]
    simp
theorem lf2 {a0 a1 a2 a3 a5 a6 a7 a8 a9 a10 : Option D} (ls : List D) : L__law_first_2 [a0, a1, a2, a3, some (.lst ls), a5, a6, a7, a8, a9, a10] S = forL (.name 8) (mIfS (mB (mCall M__law_turns (mConsA (mVar 8) (mConsA (mVar 1) (mConsA (mVar 2) mNilA))))) (mRet (mLst (mConsA (mVar 8) mNilA))) mPass) ls [a0, a1, a2, a3, some (.lst ls), a5, a6, a7, a8, a9, a10] S := rfl
theorem lf3 {a0 a1 a2 a3 a5 a6 a7 a8 a9 a10 : Option D} (ls : List D) : L__law_first_3 [a0, a1, a2, a3, some (.lst ls), a5, a6, a7, a8, a9, a10] S = forL (.name 8) (mSet 9 (mBin opAdd (mVar 9) (mComp [10] (.name 10) (mItSeq (mVar 5)) (mOrT (mB (mBin opEq (mVar 8) (mTup mNilA))) (mB (mBin opNe (mBinS opIx (mVar 8) (mUn opNeg (mC (.int 1)))) (mUn opNeg (mVar 10))))) (mBin opAdd (mVar 8) (mTup (mConsA (mVar 10) mNilA)))))) ls [a0, a1, a2, a3, some (.lst ls), a5, a6, a7, a8, a9, a10] S := rfl
theorem sizes_ok {a b ss : List Int} (ha : a.length ≤ 4000) (hss : ss.length ≤ 4) {a0 a3 a6 a10 : Option D} : ∀ (n s : Nat) (z7 z8 z9 : Option D), s + n ≤ 5 → ∃ r, forL (.name 7) (mSeq L__law_first_2 (mSeq (mSet 9 (mLst mNilA)) (mSeq L__law_first_3 (mSet 4 (mVar 9))))) (rangeD (s : Nat) n) [a0, some (T a), some (T b), a3, some (.lst ((lots ss s).map T)), some (L ss), a6, z7, z8, z9, a10] S = some r ∧ (match ff a b ss n s with
   | some u => r = .rt (.lst [T u]) S
   | none => ∃ δ, r = .nx δ S)
  | 0, s, z7, z8, z9, _ => ⟨_, by rw [show rangeD ((s : Nat) : Int) 0 = [] from rfl]; exact forL_nil, by rw [ff]; exact ⟨_, rfl⟩⟩
  | n + 1, s, z7, z8, z9, h => by
    have lm : ∀ u ∈ lots ss s, u.length = s := fun u hu => (lots_mem.mp hu).1
    have ll := lots_len hss s
    have l4 : 4 ^ s ≤ 4 ^ 5 := Nat.pow_le_pow_right (by decide) (by omega)
    have l5 : (4:Nat) ^ 5 = 1024 := rfl
    obtain ⟨z8', e2⟩ := scan_ok (S := S) ha (b := b) (a0 := a0) (a3 := a3) (a4 := some (.lst ((lots ss s).map T))) (a5 := some (L ss)) (a6 := a6) (a7 := some (.int (s : Nat))) (a9 := z9) (a10 := a10) (lots ss s) z8 (fun u hu => by rw [lm u hu]; omega)
    have f2 := lf2 (S := S) (a0 := a0) (a1 := some (T a)) (a2 := some (T b)) (a3 := a3) (a5 := some (L ss)) (a6 := a6) (a7 := some (.int (s : Nat))) (a8 := z8) (a9 := z9) (a10 := a10) ((lots ss s).map T)
    rw [e2] at f2
    rw [range2_all (b := 0), ff]
    cases q : (lots ss s).find? fun u => decide (Conj a b u) with
    | some u =>
      rw [q] at f2
      refine ⟨_, ?_, rfl⟩
      conv => lhs; unfold forL
      simp only [s_put_name, List.set_cons_succ, List.set_cons_zero]
      simp [f2]
    | none =>
      rw [q] at f2
      simp only at f2
      obtain ⟨z8'', e3⟩ := more_ok (S := S) hss (a0 := a0) (a1 := some (T a)) (a2 := some (T b)) (a3 := a3) (a4 := some (.lst ((lots ss s).map T))) (a6 := a6) (a7 := some (.int (s : Nat))) (a10 := a10) (lots ss s) [] z8' (fun u hu => by rw [lm u hu]; omega) (by simp; omega)
      have lt : (([] ++ lots ss s).flatMap (ext ss)) = lots ss (s + 1) := by rw [List.nil_append]; rfl
      rw [lt] at e3
      have f3 : L__law_first_3 [a0, some (T a), some (T b), a3, some (.lst ((lots ss s).map T)), some (L ss), a6, some (.int (s : Nat)), z8', some (.lst []), a10] S = some (.nx [a0, some (T a), some (T b), a3, some (.lst ((lots ss s).map T)), some (L ss), a6, some (.int (s : Nat)), z8'', some (.lst ((lots ss (s + 1)).map T)), a10] S) := by
        rw [lf3]; exact e3
      obtain ⟨r, e4, hr⟩ := sizes_ok ha hss (a0 := a0) (a3 := a3) (a6 := a6) (a10 := a10) (b := b) n (s + 1) (some (.int (s : Nat))) z8'' (some (.lst ((lots ss (s + 1)).map T))) (by omega)
      refine ⟨r, ?_, hr⟩
      conv => lhs; unfold forL
      simp only [s_put_name, List.set_cons_succ, List.set_cons_zero]
      simp [f2, f3, LINE]
      exact e4
def stp (l : Int) : List Int := if l = 1 then [1, -1] else [1, -1, 2, -2]
theorem law_first_ok {l : Int} (hl : l = 1 ∨ l = 2) {a b : List Int} (ha : a.length ≤ 4000) {most : Nat} (hm : most ≤ 3) : M__law_first [.int l, T a, T b, .int most] S = some (.ok (match ff a b (stp l) (most + 1) 0 with
    | some u => .lst [T u]
    | none => .lst []) S) := by
  have f1 : L__law_first_1 [some (.int l), some (T a), some (T b), some (.int most), some (.lst [T []]), some (L []), none, none, none, none, none] S = some (.nx [some (.int l), some (T a), some (T b), some (.int most), some (.lst [T []]), some (L (stp l)), some (.int l), none, none, none, none] S) := by
    rcases hl with e | e <;> subst e <;> simp [L__law_first_1, mItRange2, rangeD, List.range_succ, forL, stp, opAdd, LINE, intD_cons, intD_nil]
  have hss : (stp l).length ≤ 4 := by unfold stp; split <;> simp
  obtain ⟨r, e, hr⟩ := sizes_ok (S := S) ha hss (b := b) (a0 := some (.int l)) (a3 := some (.int most)) (a6 := some (.int l)) (a10 := none) (most + 1) 0 none none none (by omega)
  have f4 : L__law_first_4 [some (.int l), some (T a), some (T b), some (.int most), some (.lst [T []]), some (L (stp l)), some (.int l), none, none, none, none] S = some r := by
    unfold L__law_first_4
    have hb : ((most : Int) + 1).natAbs < 4611686018427387904 := by omega
    have ht : ((most : Int) + 1).toNat = most + 1 := by omega
    rw [s_mFor]
    simp [hb, ht]
    exact e
  cases q : ff a b (stp l) (most + 1) 0 with
  | some u =>
    rw [q] at hr
    simp only at hr
    subst hr
    have l0 : (L [] : D) = .lst [] := rfl
    have t0 : (T [] : D) = .tup [] := rfl
    rw [l0, t0] at f1
    rw [t0] at f4
    simp [M__law_first, f1, f4, D.pure, D.pures, LINE]
  | none =>
    rw [q] at hr
    obtain ⟨δ, rfl⟩ := hr
    have l0 : (L [] : D) = .lst [] := rfl
    have t0 : (T [] : D) = .tup [] := rfl
    rw [l0, t0] at f1
    rw [t0] at f4
    simp [M__law_first, f1, f4, D.pure, D.pures, LINE]
end
end K04

set_option linter.all false
set_option maxRecDepth 100000
set_option maxHeartbeats 1000000
/-! # K04v: the drawn courses -/
namespace K04
open PL PW LM
theorem stp_mem {l x : Int} (hl : l = 1 ∨ l = 2) : x ∈ stp l ↔ x ≠ 0 ∧ -l ≤ x ∧ x ≤ l := by
  unfold stp
  rcases hl with e | e <;> subst e <;> simp <;> omega
theorem stp_up {l : Int} : (stp l).Pairwise fun x y => kn x < kn y := by
  unfold stp
  split <;> simp [kn]
theorem parts_nil {h r : List Int} (p : PartsU [] h r) : r = [] := by
  have := PartsU.len p
  simp at this
  exact List.length_eq_zero_iff.mp (by omega)
theorem least_ex (r : List Int) : ∃ W, Least r W := by
  by_cases r0 : r = []
  · exact ⟨[], .inl ⟨r0, rfl⟩⟩
  · obtain ⟨m, sp⟩ := spot_ex r0
    exact ⟨_, sp.least⟩
/-- what is turned has the same ring -/
theorem conj_W {a b h r h' r' u W : List Int} (ra : Red a) (nza : NZ a) (p : PartsU a h r) (p' : PartsU b h' r') (nzu : NZ u) (k : Conj a b u) (l : Least r W) : Least r' W := by
  by_cases a0 : a = []
  · subst a0
    have r0 := parts_nil p
    have b0 : b = [] := by
      unfold Conj at k
      rw [← k]
      have := red_end [] u
      simpa [PW.red] using this
    subst b0
    have r0' := parts_nil p'
    rcases l with ⟨_, e⟩ | ⟨c, _⟩
    · exact .inl ⟨r0', e⟩
    · exact absurd r0 c
  · exact conj_least ra nza a0 p p' nzu k l
/-- turned by itself, many times -/
theorem conj_self {a : List Int} (ra : Red a) (n : Nat) : Conj a a (rep n a) := past_conj ra (by rw [← rep_succ, rep_snoc])
theorem conj_selfi {a : List Int} (ra : Red a) (n : Nat) : Conj a a (rep n (inv a)) := by
  have := (conj_self ra n).back ra
  rwa [inv_rep] at this
theorem Good.lets {l : Int} {w : List Int} (g : Good l w) : Lets l w := g.2
theorem Lets.good {l : Int} {w : List Int} (a : Lets l w) (h : w.length ≤ 2000) : Good l w := ⟨h, a⟩
section
variable {ω : D → List Nat} {S R : Sto}
theorem ne_lnil (d : D) (h : (D.lst [d]).ok = true) : opNe (.lst [d]) (.lst []) = some (.bl true) := by
  have e0 : (D.lst []).ok = true := by decide
  simp [opNe, opNeO, h, e0, eqD, eqDs]
theorem ok_lT (u : List Int) : (D.lst [T u]).ok = true := by show D.okN _ 60 = true; simp [D.okN, D.okNs, okNs_intD]
theorem ix_one (d : D) : opIx S (.lst [d]) (.int 0) = some d := by simp [opIx, seqOf, ixN]
theorem small_ok (ns : List Int) (k : Nat) (lf : List Int) (hk : k ≤ 500000000) : ∃ k' lf', M__law_small_right [.ref 0] [.law ns k lf] = some (.ok (.bl true) [.law ns k' lf']) ∧ k' ≤ k + 3000 := by
  obtain ⟨v1, k1, l1, e1, c1, b1, hk1⟩ := next_ok (R := []) ns k lf (many := 2) ⟨by omega, by omega⟩ (by omega)
  have hl : 1 ≤ 1 + v1 ∧ 1 + v1 ≤ 8 := by omega
  have hl2 : 1 + v1 = 1 ∨ 1 + v1 = 2 := by omega
  obtain ⟨xs, k2, l2, e2, gx, nx, hk2⟩ := steps_ok (R := []) ns k1 l1 (l := 1 + v1) (most := 6) hl ⟨by omega, by omega⟩ (by omega)
  obtain ⟨ys, k3, l3, e3, gy, ny, hk3⟩ := steps_ok (R := []) ns k2 l2 (l := 1 + v1) (most := 3) hl ⟨by omega, by omega⟩ (by omega)
  generalize hL : 1 + v1 = l at *
  have rx := red_len xs
  have ry := red_len ys
  have lx := law_plain_ok (S := [.law ns k2 l2]) (xs := xs) (by omega)
  have ly := law_plain_ok (S := [.law ns k3 l3]) (xs := ys) (by omega)
  have ra := red_red xs
  have rt := red_red ys
  have ga := gx.red
  have gt := gy.red
  generalize hone : red xs = one at *
  generalize hturn : red ys = turn at *
  obtain ⟨S, hS⟩ : ∃ S : Sto, S = [.law ns k3 l3] := ⟨_, rfl⟩
  have bk := law_back_ok (S := [.law ns k3 l3]) (xs := turn) (by omega)
  have lo := law_plain_ok (S := [.law ns k3 l3]) (xs := turn ++ (one ++ inv turn)) (by simp [inv_length]; omega)
  have kc : Conj one (red (turn ++ (one ++ inv turn))) turn := rfl
  have ro := red_red (turn ++ (one ++ inv turn))
  have rol := red_len (turn ++ (one ++ inv turn))
  have go : Good l (red (turn ++ (one ++ inv turn))) := by
    refine Good.red ⟨by simp [inv_length]; omega, fun x hx => ?_⟩
    simp only [List.mem_append] at hx
    rcases hx with q | q | q
    · exact gt.2 x q
    · exact ga.2 x q
    · exact (Good.inv gt).2 x q
  have z1 : turn.length + one.length ≤ 16777216 := by omega
  have z2 : turn.length + one.length + (inv turn).length ≤ 16777216 := by rw [inv_length]; omega
  have z3 : turn.length + (one.length + (inv turn).length) ≤ 16777216 := by rw [inv_length]; omega
  have hol : (red (turn ++ (one ++ inv turn))).length ≤ 12 := by
    refine Nat.le_trans rol ?_
    simp [inv_length]; omega
  generalize hother : red (turn ++ (one ++ inv turn)) = other at *
  obtain ⟨u, hu⟩ : ∃ u, ff one other (stp l) (turn.length + 1) 0 = some u := by
    cases q : ff one other (stp l) (turn.length + 1) 0 with
    | some u => exact ⟨u, rfl⟩
    | none => exact absurd kc ((ff_ok (stp_up (l := l)) _ _).2 q turn rt (fun x hx => (stp_mem hl2).mpr (gt.2 x hx)) (by omega) (by omega))
  obtain ⟨u1, u2, u3, u4, u5⟩ := (ff_ok (stp_up (l := l)) _ _).1 u hu
  have ff1 := law_first_ok (S := [.law ns k3 l3]) hl2 (a := one) (b := other) (by omega) (most := turn.length) (by omega)
  rw [hu] at ff1
  simp only at ff1
  have rone : red one = one := red_id ra
  have roth : red other = other := red_id ro
  obtain ⟨h, r, _, p⟩ := parted_u (S := S) (w := one) (by omega)
  obtain ⟨h', r', _, p'⟩ := parted_u (S := S) (w := other) (by omega)
  obtain ⟨W, hW⟩ := least_ex r
  have hW' := conj_W ra ga.nz p p' gt.nz kc hW
  have tk : ∃ b, M_turning [.int l, T one, T other] [.law ns k3 l3] = some (.ok (T b) [.law ns k3 l3]) ∧ Told l one other b := by
    rcases turning_ok (S := [.law ns k3 l3]) hl ga go (by omega) (by omega) (by rw [rone]; exact p) (by rw [roth]; exact p') hW hW' with ⟨c, _⟩ | ⟨_, b, e, t⟩
    · exact absurd rfl c
    · rw [rone, roth] at t
      exact ⟨b, e, t⟩
  obtain ⟨b, e4, tb⟩ := tk
  have lu : Lets l u := fun x hx => (stp_mem hl2).mp (u2 x hx)
  have e : u = b := by
    refine bf_tot ?_ ?_
    · have := tb.least u lu.nz (by omega) u4
      rwa [red_id u1] at this
    · exact u5 b tb.red (fun x hx => (stp_mem hl2).mpr (tb.lets x hx)) (by omega) tb.conj
  subst e
  refine ⟨k3, l3, ?_, by omega⟩
  unfold M__law_small_right
  refine fn_of (S1 := [.law ns k3 l3]) rfl ?_ rfl
  refine wp_seq (by simp [e1, hL]; exact ⟨rfl, rfl⟩) ?_
  refine wp_seq (by simp [e2, e3, lx, ly]; exact ⟨rfl, rfl⟩) ?_
  refine wp_seq (by simp [bk, lo, z1, z2, z3, LINE]; exact ⟨rfl, rfl⟩) ?_
  refine wp_seq (by simp [ff1, LINE]; exact ⟨rfl, rfl⟩) ?_
  have n0 := ne_lnil (T u) (ok_lT u)
  exact ⟨_, by simp [n0, e4, ix_one, LINE], rfl⟩
end
end K04

set_option linter.all false
set_option maxRecDepth 100000
set_option maxHeartbeats 1000000
/-! # K04x: the drawn courses, the great ones -/
namespace K04
open PL PW LM
section
variable {ω : D → List Nat} {S R : Sto}
def dOf : Option (List Int) → D
  | none => .non
  | some b => T b
def lOf : Option (List Int) → List Int
  | none => []
  | some b => b
theorem good1 {l : Int} (hl : 1 ≤ l ∧ l ≤ 8) : Good l [1] := ⟨by simp, by intro x hx; simp at hx; omega⟩
theorem spins_ok {l : Int} (hl : 1 ≤ l ∧ l ≤ 8) {one thing turn : List Int} {o : Option (List Int)} (g : Good l one) (gt : Good l thing) (gu : Good l turn) (h1 : one.length ≤ 30) (h2 : thing.length ≤ 100) (h3 : turn.length ≤ 12) (ho : ∀ b, o = some b → Lets l b ∧ b.length ≤ 640)
    {a0 a3 a5 a6 a9 a10 a11 a12 a14 : Option D} : ∃ z, L__law_great_right_1 ω [a0, some (.int l), some (T (red one)), a3, some (T thing), a5, a6, some (T one), some (T turn), a9, a10, a11, a12, some (dOf o), a14] S =
      some (.nx [a0, some (.int l), some (T (red one)), a3, some (T thing), a5, a6, some (T one), some (T turn), a9, a10, z, a12, some (dOf o), a14] S) := by
  have rl := red_len one
  have rt := red_len thing
  have gl := g.red
  have lp := law_plain_ok (S := S) (xs := thing) (by omega)
  have gs : ∀ y ∈ [turn, lOf o, turn ++ [1], turn ++ red one, inv turn], Good l y := by
    intro y hy
    simp only [List.mem_cons, List.not_mem_nil, or_false] at hy
    rcases hy with rfl | rfl | rfl | rfl | rfl
    · exact gu
    · cases o with
      | none => exact Good.nil
      | some b => obtain ⟨q1, q2⟩ := ho b rfl; exact q1.good (by show b.length ≤ _; omega)
    · exact Good.cat gu (good1 hl) (by simp; omega)
    · exact Good.cat gu gl (by omega)
    · exact Good.inv gu
  have bk := law_back_ok (S := S) (xs := turn) (by omega)
  have z1 : turn.length + 1 ≤ 16777216 := by omega
  have z2 : turn.length + (red one).length ≤ 16777216 := by omega
  have it : mItSeq (mTup (mConsA (mVar 8) (mConsA (mIf (mB (mBin opIsN (mVar 13) (mC .non))) (mTup mNilA) (mVar 13)) (mConsA (mBin opAdd (mVar 8) (mTup (mConsA (mC (.int 1)) mNilA))) (mConsA (mBin opAdd (mVar 8) (mVar 2)) (mConsA (mCall LM.M__law_back (mConsA (mVar 8) mNilA)) mNilA))))))
      [a0, some (.int l), some (T (red one)), a3, some (T thing), a5, a6, some (T one), some (T turn), a9, a10, a11, a12, some (dOf o), a14] S = some (.ok ([turn, lOf o, turn ++ [1], turn ++ red one, inv turn].map T) S) := by
    have ad : opAdd (T turn) (.tup [.int 1]) = some (T (turn ++ [1])) := by
      have a := add_T turn [1]
      rw [if_pos (by simp [LINE]; omega)] at a
      exact a
    cases o with
    | none => simp [dOf, lOf, opIsN, nonD, ad, bk, z1, z2, LINE, intD_nil]
    | some b =>
      have nn : nonD (T b) = false := rfl
      simp [dOf, lOf, opIsN, nn, ad, bk, z1, z2, LINE, intD_nil]
  obtain ⟨δ', S', e, ys, z, hys, _, rfl, rfl⟩ := forL_run (t := .name 11) (b := (mIfS (mB (mBin opNe (mBI (biRepr ω) (mConsA (mCall LM.M_check_turning (mConsA (mVar 1) (mConsA (mVar 7) (mConsA (mVar 4) (mConsA (mVar 11) mNilA))))) mNilA)) (mBI (biRepr ω) (mConsA (mCall M__law_turns (mConsA (mVar 11) (mConsA (mVar 2) (mConsA (mCall LM.M__law_plain (mConsA (mVar 4) mNilA)) mNilA)))) mNilA)))) (mRet (mC (.bl false))) mPass))
    (fun ds δ S' => ∃ ys z, ds = ys.map T ∧ (∀ y ∈ ys, Good l y) ∧ S' = S ∧ δ = [a0, some (.int l), some (T (red one)), a3, some (T thing), a5, a6, some (T one), some (T turn), a9, a10, z, a12, some (dOf o), a14]) (by
      rintro d ds δ S' ⟨ys, z, hys, hg, rfl, rfl⟩
      cases ys with
      | nil => simp at hys
      | cons y ys =>
        simp only [List.map_cons, List.cons.injEq] at hys
        obtain ⟨rfl, rfl⟩ := hys
        have gy := hg y List.mem_cons_self
        have ct := check_turning_ok (S := S') hl g gt gy
        have lt := law_turns_ok (S := S') (u := y) (a := red one) (b := red thing) (by have := gy.1; omega) (by omega)
        refine ⟨[a0, some (.int l), some (T (red one)), a3, some (T thing), a5, a6, some (T one), some (T turn), a9, a10, some (T y), a12, some (dOf o), a14], by simp, [a0, some (.int l), some (T (red one)), a3, some (T thing), a5, a6, some (T one), some (T turn), a9, a10, some (T y), a12, some (dOf o), a14], S', .inl ?_, ys, _, rfl, fun z hz => hg z (List.mem_cons_of_mem _ hz), rfl, rfl⟩
        simp [ct, lp, lt, repr_bl, ne_str, LINE]) _ _ S ⟨_, a11, rfl, gs, rfl, rfl⟩
  have : ys = [] := by cases ys with
    | nil => rfl
    | cons _ _ => simp at hys
  refine ⟨z, ?_⟩
  unfold L__law_great_right_1
  rw [s_mFor, it]
  exact e
theorem thing_ok {l : Int} (hl : 1 ≤ l ∧ l ≤ 8) {one thing turn h r W : List Int} (g : Good l one) (gt : Good l thing) (gu : Good l turn) (h1 : one.length ≤ 30) (h2 : thing.length ≤ 100) (h3 : turn.length ≤ 12) (p : PartsU (red one) h r) (hW : Least r W)
    {a0 a3 a5 a6 a9 a10 a11 a12 a13 a14 : Option D} : ∃ z11 z13 z14, (mSeq (mPar 13 14 (mCall M_turning (mConsA (mVar 1) (mConsA (mVar 7) (mConsA (mVar 4) mNilA)))) (mBin opEq (mCall M__law_ring (mConsA (mCall LM.M__law_plain (mConsA (mVar 4) mNilA)) mNilA)) (mCall M__law_ring (mConsA (mVar 2) mNilA)))) (mSeq (mIfS (mB (mBin opEq (mBin opIsN (mVar 13) (mC .non)) (mVar 14))) (mRet (mC (.bl false))) mPass) (mSeq (mIfS (mAndT (mB (mVar 14)) (mOrT (mB (mBin opNe (mCall LM.M_plain_course (mConsA (mVar 1) (mConsA (mVar 13) mNilA))) (mVar 13))) (mNotT (mB (mCall M__law_turns (mConsA (mVar 13) (mConsA (mVar 2) (mConsA (mCall LM.M__law_plain (mConsA (mVar 4) mNilA)) mNilA)))))))) (mRet (mC (.bl false))) mPass) (L__law_great_right_1 ω))))
      [a0, some (.int l), some (T (red one)), a3, some (T thing), a5, a6, some (T one), some (T turn), a9, a10, a11, a12, a13, a14] S =
      some (.nx [a0, some (.int l), some (T (red one)), a3, some (T thing), a5, a6, some (T one), some (T turn), a9, a10, z11, a12, z13, z14] S) := by
  have rl := red_len one
  have rt := red_len thing
  obtain ⟨h', r', _, p'⟩ := parted_u (S := S) (w := red thing) (by omega)
  obtain ⟨W', hW'⟩ := least_ex r'
  have r1 := law_ring_ok (S := S) p hW (by omega)
  have r2 := law_ring_ok (S := S) p' hW' (by omega)
  have lp := law_plain_ok (S := S) (xs := thing) (by omega)
  have nn : opIsN .non .non = some (.bl true) := rfl
  have nT : ∀ b : List Int, opIsN (T b) .non = some (.bl false) := fun b => rfl
  rcases turning_ok (S := S) hl g gt (by omega) (by omega) p p' hW hW' with ⟨c, e⟩ | ⟨c, b, e, t⟩
  · obtain ⟨z, sp⟩ := spins_ok (ω := ω) (S := S) hl (o := none) g gt gu h1 h2 h3 (fun b hb => by cases hb) (a0 := a0) (a3 := a3) (a5 := a5) (a6 := a6) (a9 := a9) (a10 := a10) (a11 := a11) (a12 := a12) (a14 := some (.bl false))
    refine ⟨z, some .non, some (.bl false), ?_⟩
    have c' : ¬ W' = W := fun q => c q.symm
    have eb : opEq (.bl true) (.bl false) = some (.bl false) := by simp [opEq, opEqO, D.ok, D.okN, eqD]
    simp only [dOf] at sp
    simp [e, r1, r2, lp, c', nn, eb, LINE]
    exact sp
  · obtain ⟨z, sp⟩ := spins_ok (ω := ω) (S := S) hl (o := some b) g gt gu h1 h2 h3 (fun b' hb => by cases hb; exact ⟨t.lets, t.len⟩) (a0 := a0) (a3 := a3) (a5 := a5) (a6 := a6) (a9 := a9) (a10 := a10) (a11 := a11) (a12 := a12) (a14 := some (.bl true))
    refine ⟨z, some (T b), some (.bl true), ?_⟩
    have eb : opEq (.bl false) (.bl true) = some (.bl false) := by simp [opEq, opEqO, D.ok, D.okN, eqD]
    have tl := t.len
    have pc := plain_course_ok (S := S) hl (t.lets.good (by omega))
    rw [red_id t.red] at pc
    have lt := law_turns_ok (S := S) (u := b) (a := red one) (b := red thing) (by omega) (by omega)
    rw [decide_eq_true t.conj] at lt
    simp only [dOf] at sp
    simp [e, r1, r2, lp, c, nT, eb, pc, lt, LINE]
    exact sp
theorem things_ok {l : Int} (hl : 1 ≤ l ∧ l ≤ 8) {one turn h r W : List Int} (g : Good l one) (gu : Good l turn) (h1 : one.length ≤ 30) (h3 : turn.length ≤ 12) (p : PartsU (red one) h r) (hW : Least r W)
    {a0 a3 a5 a6 a9 a10 a12 : Option D} : ∀ (ys : List (List Int)) (z4 z11 z13 z14 : Option D), (∀ y ∈ ys, Good l y ∧ y.length ≤ 100) → ∃ y4 y11 y13 y14,
     forL (.name 4) (mSeq (mPar 13 14 (mCall M_turning (mConsA (mVar 1) (mConsA (mVar 7) (mConsA (mVar 4) mNilA)))) (mBin opEq (mCall M__law_ring (mConsA (mCall LM.M__law_plain (mConsA (mVar 4) mNilA)) mNilA)) (mCall M__law_ring (mConsA (mVar 2) mNilA)))) (mSeq (mIfS (mB (mBin opEq (mBin opIsN (mVar 13) (mC .non)) (mVar 14))) (mRet (mC (.bl false))) mPass) (mSeq (mIfS (mAndT (mB (mVar 14)) (mOrT (mB (mBin opNe (mCall LM.M_plain_course (mConsA (mVar 1) (mConsA (mVar 13) mNilA))) (mVar 13))) (mNotT (mB (mCall M__law_turns (mConsA (mVar 13) (mConsA (mVar 2) (mConsA (mCall LM.M__law_plain (mConsA (mVar 4) mNilA)) mNilA)))))))) (mRet (mC (.bl false))) mPass) (L__law_great_right_1 ω)))) (ys.map T)
       [a0, some (.int l), some (T (red one)), a3, z4, a5, a6, some (T one), some (T turn), a9, a10, z11, a12, z13, z14] S =
       some (.nx [a0, some (.int l), some (T (red one)), a3, y4, a5, a6, some (T one), some (T turn), a9, a10, y11, a12, y13, y14] S)
  | [], z4, z11, z13, z14, _ => ⟨z4, z11, z13, z14, forL_nil⟩
  | y :: ys, z4, z11, z13, z14, hy => by
    obtain ⟨gy, ny⟩ := hy y List.mem_cons_self
    obtain ⟨b11, b13, b14, e⟩ := thing_ok (ω := ω) (S := S) hl g gy gu h1 ny h3 p hW (a0 := a0) (a3 := a3) (a5 := a5) (a6 := a6) (a9 := a9) (a10 := a10) (a11 := z11) (a12 := a12) (a13 := z13) (a14 := z14)
    obtain ⟨y4, y11, y13, y14, e2⟩ := things_ok hl g gu h1 h3 p hW (a0 := a0) (a3 := a3) (a5 := a5) (a6 := a6) (a9 := a9) (a10 := a10) (a12 := a12) ys (some (T y)) b11 b13 b14 (fun z hz => hy z (List.mem_cons_of_mem _ hz))
    refine ⟨y4, y11, y13, y14, ?_⟩
    rw [List.map_cons]
    conv => lhs; unfold forL
    simp only [s_put_name, List.set_cons_succ, List.set_cons_zero, e]
    exact e2
/-- nothing of what turns so comes ahead -/
theorem mores_ok {l : Int} {left other turn b : List Int} (ra : Red left) (gl : Good l left) (gt : Good l turn) (t : Told l left other b) (k : Conj left other turn) (h1 : left.length ≤ 30) (h3 : turn.length ≤ 12)
    {a0 a1 a3 a4 a7 a9 a10 a11 a12 a13 a14 : Option D} {n : Nat} (hn : n ≤ 3) (hn1 : 1 ≤ n) : ∃ z12, L__law_great_right_3 [a0, a1, some (T left), a3, a4, some (T b), some (.int n), a7, some (T turn), a9, a10, a11, a12, a13, a14] S =
      some (.nx [a0, a1, some (T left), a3, a4, some (T b), some (.int n), a7, some (T turn), a9, a10, a11, z12, a13, a14] S) := by
  have bl := t.len
  have hm : n * left.length ≤ 3 * 30 := Nat.mul_le_mul hn h1
  have hm2 : left.length * n ≤ 1000000 := by rw [Nat.mul_comm]; omega
  have m1 := mul_T left n (by omega) hm2
  have m2 := mul_T (inv left) n (by omega) (by rw [inv_length]; exact hm2)
  have bk := law_back_ok (S := S) (xs := left) (by omega)
  have k2 := law_key_ok (S := S) (xs := b) (by omega)
  have nzl : NZ left := gl.nz
  have nzi : NZ (inv left) := (Good.inv gl).nz
  have nzr : ∀ {w : List Int}, NZ w → NZ (rep n w) := fun h x hx => h x (mem_rep hx)
  have all : ∀ y ∈ [b ++ rep n left, b ++ rep n (inv left), turn ++ rep n left], y.length ≤ 1300 ∧ before (red y) b = false := by
    intro y hy
    have app : ∀ {u v : List Int}, NZ u → NZ v → NZ (u ++ v) := fun h1 h2 x hx => by
      rcases List.mem_append.mp hx with q | q
      · exact h1 x q
      · exact h2 x q
    simp only [List.mem_cons, List.not_mem_nil, or_false] at hy
    rcases hy with rfl | rfl | rfl
    · have hl : (b ++ rep n left).length ≤ 1300 := by simp only [List.length_append, rep_len]; omega
      exact ⟨hl, t.least _ (app t.lets.nz (nzr nzl)) hl ((conj_self ra n).comp t.conj)⟩
    · have hl : (b ++ rep n (inv left)).length ≤ 1300 := by simp only [List.length_append, rep_len, inv_length]; omega
      exact ⟨hl, t.least _ (app t.lets.nz (nzr nzi)) hl ((conj_selfi ra n).comp t.conj)⟩
    · have hl : (turn ++ rep n left).length ≤ 1300 := by simp only [List.length_append, rep_len]; omega
      exact ⟨hl, t.least _ (app gt.nz (nzr nzl)) hl ((conj_self ra n).comp k)⟩
  have c1 : b.length + (rep n left).length ≤ 16777216 := by rw [rep_len]; omega
  have c2 : b.length + (rep n (inv left)).length ≤ 16777216 := by rw [rep_len, inv_length]; omega
  have c3 : turn.length + (rep n left).length ≤ 16777216 := by rw [rep_len]; omega
  have it : mItSeq (mTup (mConsA (mBin opAdd (mVar 5) (mBin opMul (mVar 2) (mVar 6))) (mConsA (mBin opAdd (mVar 5) (mBin opMul (mCall LM.M__law_back (mConsA (mVar 2) mNilA)) (mVar 6))) (mConsA (mBin opAdd (mVar 8) (mBin opMul (mVar 2) (mVar 6))) mNilA))))
      [a0, a1, some (T left), a3, a4, some (T b), some (.int n), a7, some (T turn), a9, a10, a11, a12, a13, a14] S = some (.ok ([b ++ rep n left, b ++ rep n (inv left), turn ++ rep n left].map T) S) := by
    simp [m1, m2, bk, c1, c2, c3, LINE]
  obtain ⟨δ', S', e, ys, z, hys, _, rfl, rfl⟩ := forL_run (t := .name 12) (b := (mIfS (mB (mBin opLt (mCall LM.M__law_key (mConsA (mCall LM.M__law_plain (mConsA (mVar 12) mNilA)) mNilA)) (mCall LM.M__law_key (mConsA (mVar 5) mNilA)))) (mRet (mC (.bl false))) mPass))
    (fun ds δ S' => ∃ ys z, ds = ys.map T ∧ (∀ y ∈ ys, y.length ≤ 1300 ∧ before (red y) b = false) ∧ S' = S ∧ δ = [a0, a1, some (T left), a3, a4, some (T b), some (.int n), a7, some (T turn), a9, a10, a11, z, a13, a14]) (by
      rintro d ds δ S' ⟨ys, z, hys, hg, rfl, rfl⟩
      cases ys with
      | nil => simp at hys
      | cons y ys =>
        simp only [List.map_cons, List.cons.injEq] at hys
        obtain ⟨rfl, rfl⟩ := hys
        obtain ⟨yl, yb⟩ := hg y List.mem_cons_self
        have ry := red_len y
        have lp := law_plain_ok (S := S') (xs := y) (by omega)
        have k1 := law_key_ok (S := S') (xs := red y) (by omega)
        have lt := keyL_lt (red y) b
        rw [yb] at lt
        refine ⟨[a0, a1, some (T left), a3, a4, some (T b), some (.int n), a7, some (T turn), a9, a10, a11, some (T y), a13, a14], by simp, [a0, a1, some (T left), a3, a4, some (T b), some (.int n), a7, some (T turn), a9, a10, a11, some (T y), a13, a14], S', .inl ?_, ys, _, rfl, fun z hz => hg z (List.mem_cons_of_mem _ hz), rfl, rfl⟩
        simp [lp, k1, k2, lt, LINE]) _ _ S ⟨_, a12, rfl, all, rfl, rfl⟩
  refine ⟨z, ?_⟩
  unfold L__law_great_right_3
  rw [s_mFor, it]
  exact e
theorem manys_ok {l : Int} {left other turn b : List Int} (ra : Red left) (gl : Good l left) (gt : Good l turn) (t : Told l left other b) (k : Conj left other turn) (h1 : left.length ≤ 30) (h3 : turn.length ≤ 12)
    {a0 a1 a3 a4 a7 a9 a10 a11 a12 a13 a14 : Option D} : ∃ z6 z12, L__law_great_right_4 [a0, a1, some (T left), a3, a4, some (T b), none, a7, some (T turn), a9, a10, a11, a12, a13, a14] S =
      some (.nx [a0, a1, some (T left), a3, a4, some (T b), z6, a7, some (T turn), a9, a10, a11, z12, a13, a14] S) := by
  obtain ⟨x1, e1⟩ := mores_ok (S := S) ra gl gt t k h1 h3 (a0 := a0) (a1 := a1) (a3 := a3) (a4 := a4) (a7 := a7) (a9 := a9) (a10 := a10) (a11 := a11) (a12 := a12) (a13 := a13) (a14 := a14) (n := 1) (by omega) (by omega)
  obtain ⟨x2, e2⟩ := mores_ok (S := S) ra gl gt t k h1 h3 (a0 := a0) (a1 := a1) (a3 := a3) (a4 := a4) (a7 := a7) (a9 := a9) (a10 := a10) (a11 := a11) (a12 := x1) (a13 := a13) (a14 := a14) (n := 2) (by omega) (by omega)
  obtain ⟨x3, e3⟩ := mores_ok (S := S) ra gl gt t k h1 h3 (a0 := a0) (a1 := a1) (a3 := a3) (a4 := a4) (a7 := a7) (a9 := a9) (a10 := a10) (a11 := a11) (a12 := x2) (a13 := a13) (a14 := a14) (n := 3) (by omega) (by omega)
  have n1 : ((1 : Nat) : Int) = 1 := rfl
  have n2 : ((2 : Nat) : Int) = 2 := rfl
  have n3 : ((3 : Nat) : Int) = 3 := rfl
  rw [n1] at e1
  rw [n2] at e2
  rw [n3] at e3
  refine ⟨some (.int 3), x3, ?_⟩
  have r3 : rangeD 1 3 = [.int 1, .int 2, .int 3] := by simp [rangeD, List.range_succ]
  unfold L__law_great_right_4
  rw [s_mFor]
  simp [mItRange2, r3, forL, e1, e2, e3]
theorem great_ok (ns : List Int) (k : Nat) (lf : List Int) (hk : k ≤ 500000000) : ∃ k' lf', M__law_great_right ω [.ref 0] [.law ns k lf] = some (.ok (.bl true) [.law ns k' lf']) ∧ k' ≤ k + 4000 := by
  obtain ⟨v1, k1, l1, e1, c1, b1, hk1⟩ := next_ok (R := []) ns k lf (many := 8) ⟨by omega, by omega⟩ (by omega)
  have hl : 1 ≤ 1 + v1 ∧ 1 + v1 ≤ 8 := by omega
  obtain ⟨one, k2, l2, e2, g, nx, hk2⟩ := steps_ok (R := []) ns k1 l1 (l := 1 + v1) (most := 30) hl ⟨by omega, by omega⟩ (by omega)
  obtain ⟨turn, k3, l3, e3, gt, ny, hk3⟩ := steps_ok (R := []) ns k2 l2 (l := 1 + v1) (most := 12) hl ⟨by omega, by omega⟩ (by omega)
  obtain ⟨oth, k4, l4, e4, gh, nh, hk4⟩ := steps_ok (R := []) ns k3 l3 (l := 1 + v1) (most := 30) hl ⟨by omega, by omega⟩ (by omega)
  generalize hL : 1 + v1 = l at *
  have rx := red_len one
  have lx := law_plain_ok (S := [.law ns k3 l3]) (xs := one) (by omega)
  have ra := red_red one
  have ga := g.red
  have bk := law_back_ok (S := [.law ns k3 l3]) (xs := turn) (by omega)
  have lo := law_plain_ok (S := [.law ns k3 l3]) (xs := turn ++ (one ++ inv turn)) (by simp [inv_length]; omega)
  have kc : Conj (red one) (red (turn ++ (one ++ inv turn))) turn := by unfold Conj; rw [red_in]
  have ro := red_red (turn ++ (one ++ inv turn))
  have rol := red_len (turn ++ (one ++ inv turn))
  have go : Good l (red (turn ++ (one ++ inv turn))) := by
    refine Good.red ⟨by simp [inv_length]; omega, fun x hx => ?_⟩
    simp only [List.mem_append] at hx
    rcases hx with q | q | q
    · exact gt.2 x q
    · exact g.2 x q
    · exact (Good.inv gt).2 x q
  have z1 : turn.length + one.length ≤ 16777216 := by omega
  have z2 : turn.length + one.length + (inv turn).length ≤ 16777216 := by rw [inv_length]; omega
  have z3 : turn.length + (one.length + (inv turn).length) ≤ 16777216 := by rw [inv_length]; omega
  have hol : (red (turn ++ (one ++ inv turn))).length ≤ 54 := by
    refine Nat.le_trans rol ?_
    simp [inv_length]; omega
  generalize hother : red (turn ++ (one ++ inv turn)) = other at *
  have roth : red other = other := red_id ro
  obtain ⟨h, r, _, p⟩ := parted_u (S := []) (w := red one) (by omega)
  obtain ⟨h', r', _, p'⟩ := parted_u (S := []) (w := other) (by omega)
  obtain ⟨W, hW⟩ := least_ex r
  have hW' := conj_W ra ga.nz p p' gt.nz kc hW
  have rp := repr_TT (ω := ω) (S := [.law ns k3 l3]) (Good.small g hl.2) (Good.small gt hl.2) (by omega)
  have rp4 := repr_TT (ω := ω) (S := [.law ns k4 l4]) (Good.small g hl.2) (Good.small gt hl.2) (by omega)
  have ro1 := ring_of_ok (S := [.law ns k3 l3]) hl g p hW
  have g11 : Good l (other ++ [1, -1]) := Good.cat go ⟨by simp, by intro x hx; simp at hx; omega⟩ (by simp; omega)
  have r11 : red (other ++ [1, -1]) = other := by
    have := red_end other [1]
    simp only [PW.inv, List.map_cons, List.map_nil, List.reverse_cons, List.reverse_nil, List.nil_append, List.cons_append] at this
    rw [this, roth]
  have ro2 := ring_of_ok (S := [.law ns k3 l3]) hl g11 (by rw [r11]; exact p') hW'
  have lr := law_ring_ok (S := [.law ns k3 l3]) p hW (by omega)
  have ad11 : opAdd (T other) (.tup [.int 1, .int (-1)]) = some (T (other ++ [1, -1])) := by
    have a := add_T other [1, -1]
    rw [if_pos (by simp [LINE]; omega)] at a
    exact a
  have ad1 : opAdd (T other) (.tup [.int 1]) = some (T (other ++ [1])) := by
    have a := add_T other [1]
    rw [if_pos (by simp [LINE]; omega)] at a
    exact a
  have bko := law_back_ok (S := [.law ns k3 l3]) (xs := other) (by omega)
  have g1 : Good l (other ++ [1]) := Good.cat go (good1 hl) (by simp; omega)
  have gys : ∀ y ∈ [other, other ++ [1], inv other, oth], Good l y ∧ y.length ≤ 100 := by
    intro y hy
    simp only [List.mem_cons, List.not_mem_nil, or_false] at hy
    rcases hy with rfl | rfl | rfl | rfl
    · exact ⟨go, by omega⟩
    · exact ⟨g1, by simp; omega⟩
    · exact ⟨Good.inv go, by rw [inv_length]; omega⟩
    · exact ⟨gh, by omega⟩
  have tk : ∃ b, M_turning [.int l, T one, T other] [.law ns k4 l4] = some (.ok (T b) [.law ns k4 l4]) ∧ Told l (red one) other b := by
    rcases turning_ok (S := [.law ns k4 l4]) hl g go (by omega) (by omega) p (by rw [roth]; exact p') hW hW' with ⟨c, _⟩ | ⟨_, b, e, t⟩
    · exact absurd rfl c
    · rw [roth] at t
      exact ⟨b, e, t⟩
  obtain ⟨b, e5, tb⟩ := tk
  refine ⟨k4, l4, ?_, by omega⟩
  unfold M__law_great_right
  refine fn_of (S1 := [.law ns k4 l4]) rfl ?_ rfl
  refine wp_seq (by simp [e1, hL]; exact ⟨rfl, rfl⟩) ?_
  refine wp_seq (by simp [e2, e3]; exact ⟨rfl, rfl⟩) ?_
  refine wp_seq (by simp [lx]; exact ⟨rfl, rfl⟩) ?_
  refine wp_seq (by simp [bk, lo, z1, z2, z3, rp, LINE]; exact ⟨rfl, rfl⟩) ?_
  refine wp_seq (by simp [ro1, ro2, lr, ad11, LINE]; exact ⟨rfl, rfl⟩) ?_
  refine wp_seq (by simp [ad1, LINE]; exact ⟨rfl, rfl⟩) ?_
  obtain ⟨y4, y11, y13, y14, e6⟩ := things_ok (ω := ω) (S := [.law ns k4 l4]) hl g gt (by omega) (by omega) p hW (a0 := some (.ref 0)) (a3 := some (T (other ++ [1]))) (a5 := none) (a6 := none) (a9 := some (T other)) (a10 := some (.str (ω (.tup [T one, T turn])))) (a12 := none) [other, other ++ [1], inv other, oth] none none none none gys
  refine wp_seq (δ1 := [some (.ref 0), some (.int l), some (T (red one)), some (T (other ++ [1])), y4, none, none, some (T one), some (T turn), some (T other), some (.str (ω (.tup [T one, T turn]))), y11, none, y13, y14]) (S1 := [.law ns k4 l4]) (by
    unfold L__law_great_right_2
    rw [s_mFor]
    simp [bko, e4, LINE]
    exact e6) ?_
  refine wp_seq (by simp [e5]; exact ⟨rfl, rfl⟩) ?_
  obtain ⟨z6, z12, e7⟩ := manys_ok (S := [.law ns k4 l4]) ra ga gt tb kc (by omega) (by omega) (a0 := some (.ref 0)) (a1 := some (.int l)) (a3 := some (T (other ++ [1]))) (a4 := y4) (a7 := some (T one)) (a9 := some (T other)) (a10 := some (.str (ω (.tup [T one, T turn])))) (a11 := y11) (a12 := none) (a13 := y13) (a14 := y14)
  refine wp_seq e7 ?_
  exact ⟨_, by simp [rp4, eq_str, LINE], rfl⟩
end
end K04

set_option linter.all false
set_option maxRecDepth 100000
set_option maxHeartbeats 1000000
/-! # K04y: the courses by hand -/
namespace K04
open PL PW LM
theorem red_pos : ∀ {w : List Int}, (∀ x ∈ w, 0 < x) → Red w
  | [], _ => trivial
  | [_], _ => trivial
  | x :: y :: r, h => ⟨by have := h x (by simp); have := h y (by simp); omega, red_pos fun z hz => h z (List.mem_cons_of_mem _ hz)⟩
theorem pos_parts {w : List Int} (h : ∀ x ∈ w, 0 < x) : PartsU w [] w := PartsU.of_cyc (red_pos fun x hx => by
  rcases List.mem_append.mp hx with q | q <;> exact h x q)
theorem al_get {a b : Int} : ∀ {n k : Nat}, k < n * 2 → (rep n [a, b])[k]? = some (if k % 2 = 0 then a else b)
  | 0, k, h => by omega
  | n + 1, 0, _ => by rw [rep_succ]; simp
  | n + 1, 1, _ => by rw [rep_succ]; simp
  | n + 1, k + 2, h => by
    have ih := al_get (a := a) (b := b) (n := n) (k := k) (by omega)
    rw [rep_succ]
    simp only [List.cons_append, List.nil_append, List.getElem?_cons_succ, ih]
    rw [show (k + 2) % 2 = k % 2 by omega]
theorem al_len (a b : Int) (n : Nat) : (rep n [a, b]).length = n * 2 := by rw [rep_len]; rfl
theorem al_cy {a b : Int} {n : Nat} (hn : 0 < n) (k : Nat) : cy (rep n [a, b]) k = if k % 2 = 0 then a else b := by
  unfold cy
  rw [al_len, List.getD_eq_getElem?_getD, al_get (Nat.mod_lt _ (by omega)), Option.getD_some, Nat.mod_mod_of_dvd k (Nat.dvd_mul_left 2 n)]
theorem one_cy {a : Int} {n : Nat} (hn : 0 < n) (k : Nat) : cy (rep n [a]) k = a := by
  unfold cy
  have hl : (rep n [a]).length = n := by rw [rep_len]; simp
  have hk : k % (rep n [a]).length < (rep n [a]).length := Nat.mod_lt _ (by omega)
  rw [List.getD_eq_getElem?_getD, List.getElem?_eq_getElem hk, Option.getD_some]
  have := mem_rep (List.getElem_mem hk)
  simpa using this
theorem one_spot {a : Int} {n : Nat} (hn : 0 < n) : Spot (rep n [a]) 0 := ⟨by rw [rep_len]; simpa using hn, fun ⟨q, t, _, _, h⟩ => by rw [one_cy hn, one_cy hn] at h; omega, fun p hp => by omega⟩
theorem spot12 {n : Nat} (hn : 0 < n) : Spot (rep n [1, 2]) 0 := by
  refine ⟨by rw [al_len]; omega, fun ⟨q, t, _, hs, h⟩ => ?_, fun p hp => by omega⟩
  rw [al_cy hn, al_cy hn] at h
  by_cases e : q % 2 = 0
  · rw [show (q + t) % 2 = (0 + t) % 2 by omega] at h
    omega
  · cases t with
    | zero =>
      rw [if_neg (by omega), if_pos (by omega)] at h
      simp [kn] at h
    | succ t =>
      have := hs 0 (by omega)
      rw [al_cy hn, al_cy hn, if_neg (by omega), if_pos (by omega)] at this
      omega
theorem spot21 {n : Nat} (hn : 0 < n) : Spot (rep n [2, 1]) 1 := by
  refine ⟨by rw [al_len]; omega, fun ⟨q, t, _, hs, h⟩ => ?_, fun p hp => ?_⟩
  · rw [al_cy hn, al_cy hn] at h
    by_cases e : q % 2 = 1
    · rw [show (q + t) % 2 = (1 + t) % 2 by omega] at h
      omega
    · cases t with
      | zero =>
        rw [if_pos (by omega), if_neg (by omega)] at h
        simp [kn] at h
      | succ t =>
        have := hs 0 (by omega)
        rw [al_cy hn, al_cy hn, if_pos (by omega), if_neg (by omega)] at this
        omega
  · have : p = 0 := by omega
    subst this
    refine ⟨1, 0, by rw [al_len]; omega, fun s hs => by omega, ?_⟩
    rw [al_cy hn, al_cy hn, if_neg (by omega), if_pos (by omega)]
    simp [kn]
theorem sw (a b : Int) : ∀ n, a :: (rep n [b, a] ++ [b]) = rep (n + 1) [a, b]
  | 0 => by rw [rep_one, rep_zero]; rfl
  | n + 1 => by
    rw [rep_succ (n + 1), ← sw a b n, rep_succ]
    rfl
theorem sw_rot (n : Nat) : rot (rep (n + 1) [2, 1]) 1 = rep (n + 1) [1, 2] := by
  rw [← sw 2 1 n]
  show (rep n [1, 2] ++ [1]) ++ [2] = _
  rw [rep_snoc, List.append_assoc]
  rfl
theorem rot0 (r : List Int) : rot r 0 = r := rot_zero r
theorem root1 (x : Int) : IsRoot [x] [x].length := ⟨by simp, Nat.dvd_refl _, per_self _, fun e h1 h2 => by simp at h2; omega⟩
theorem root12 : IsRoot [1, 2] [1, 2].length := ⟨by simp, Nat.dvd_refl _, per_self _, fun e h1 h2 _ h4 => by
  have : e = 1 := by simp at h2; omega
  subst this
  have := h4 0 (by simp)
  simp at this⟩
theorem pos_rep {n : Nat} {w : List Int} (h : ∀ x ∈ w, 0 < x) : ∀ x ∈ rep n w, 0 < x := fun x hx => h x (mem_rep hx)
theorem rooted_rep {q : List Int} {n : Nat} (hn : 0 < n) (hq : q ≠ []) (hc : ∀ x ∈ q, 0 < x) (i : IsRoot q q.length) : Rooted (rep n q) q n := by
  have hl : 0 < q.length := List.length_pos_iff.mpr hq
  have hne : rep n q ≠ [] := fun z => by
    have := rep_len n q
    rw [z] at this
    have h0 : n * q.length = 0 := by simpa using this.symm
    rcases Nat.mul_eq_zero.mp h0 with y | y <;> omega
  refine .inr ⟨hne, [], rep n q, q.length, pos_parts (pos_rep hc), i.rep hn, ?_, ?_⟩
  · obtain ⟨k, rfl⟩ : ∃ k, n = k + 1 := ⟨n - 1, by omega⟩
    rw [rep_succ]
    simp [inv]
  · rw [rep_len, Nat.mul_div_cancel n hl]
theorem pos12 : ∀ x ∈ ([1, 2] : List Int), 0 < x := by simp
theorem pos21 : ∀ x ∈ ([2, 1] : List Int), 0 < x := by simp
theorem pos1 : ∀ x ∈ ([1] : List Int), 0 < x := by simp
theorem pos2 : ∀ x ∈ ([2] : List Int), 0 < x := by simp
theorem conj_m (n : Nat) : Conj (rep (n + 1) [1, 2]) (rep (n + 1) [2, 1]) [-1] := by
  unfold Conj
  have e : [-1] ++ (rep (n + 1) [1, 2] ++ inv [-1]) = [] ++ (inv [1] ++ ([1] ++ (2 :: rep n [1, 2] ++ [1]))) := by
    rw [rep_succ]
    simp [inv]
  rw [e, red_mid, List.nil_append, ← sw 2 1 n]
  refine red_id (red_pos fun x hx => ?_)
  have : x ∈ rep (n + 1) [2, 1] := by rw [← sw 2 1 n]; exact hx
  exact pos_rep pos21 x this
theorem conj_no1 (n : Nat) : ¬ Conj (rep (n + 1) [1, 2]) (rep (n + 1) [2, 1]) [1] := fun h => by
  unfold Conj at h
  have r : Red ([1] ++ rep (n + 1) [1, 2] ++ [-1]) := by
    refine red_snoc (red_pos fun x hx => ?_) fun a ha hz => ?_
    · rcases List.mem_append.mp hx with q | q
      · simp at q; omega
      · exact pos_rep pos12 x q
    · have e2 : [1] ++ rep (n + 1) [1, 2] = ([1] ++ rep n [1, 2] ++ [1]) ++ [2] := by rw [rep_snoc]; simp
      rw [e2, List.getLast?_concat] at ha
      cases ha
      omega
  have e : [1] ++ (rep (n + 1) [1, 2] ++ inv [1]) = [1] ++ rep (n + 1) [1, 2] ++ [-1] := by simp [inv]
  rw [e, red_id r] at h
  have := congrArg List.length h
  simp [al_len] at this
  omega
theorem conj_no0 (n : Nat) : ¬ Conj (rep (n + 1) [1, 2]) (rep (n + 1) [2, 1]) [] := fun h => by
  unfold Conj at h
  have e : [] ++ (rep (n + 1) [1, 2] ++ inv []) = rep (n + 1) [1, 2] := by simp [inv]
  rw [e, red_id (red_pos (pos_rep pos12)), rep_succ, rep_succ] at h
  have := (List.cons.inj h).1
  omega
section
variable {ω : D → List Nat} {S R : Sto}
theorem good_rep {q : List Int} {n : Nat} (hq : ∀ x ∈ q, x ≠ 0 ∧ -2 ≤ x ∧ x ≤ 2) (hl : n * q.length ≤ 2000) : Good 2 (rep n q) := ⟨by rw [rep_len]; exact hl, fun x hx => hq x (mem_rep hx)⟩
theorem turn12 {n : Nat} (hn : n < 900) : M_turning [.int 2, T (rep (n + 1) [1, 2]), T (rep (n + 1) [2, 1])] S = some (.ok (T [-1]) S) := by
  have g : Good 2 (rep (n + 1) [1, 2]) := good_rep (by simp) (by simp; omega)
  have g2 : Good 2 (rep (n + 1) [2, 1]) := good_rep (by simp) (by simp; omega)
  have ra : Red (rep (n + 1) [1, 2]) := red_pos (pos_rep pos12)
  have rb : Red (rep (n + 1) [2, 1]) := red_pos (pos_rep pos21)
  have p := pos_parts (pos_rep (n := n + 1) pos12)
  have p' := pos_parts (pos_rep (n := n + 1) pos21)
  have A := rooted_rep (n := n + 1) (by omega) (by simp) pos12 root12
  have ne : ∀ a b : Int, rep (n + 1) [a, b] ≠ [] := fun a b z => by rw [rep_succ] at z; simp at z
  have i0 := conj_no0 n
  have i1 := conj_no1 n
  have im := conj_m n
  rcases turning_low (S := S) (l := 2) (by omega) g g2 (by rw [red_id ra]; exact p) (by rw [red_id rb]; exact p') (ne 1 2) (ne 2 1) (spot12 (by omega)) (spot21 (by omega)) (by rw [red_id ra]; exact A) (by simp) with ⟨c, _⟩ | ⟨_, t, b, e, k, lt, tl, B⟩
  · rw [rot0, sw_rot] at c
    exact absurd rfl c
  · rw [red_id ra, red_id rb] at k
    have cp : ∀ i : Int, Conj (rep (n + 1) [1, 2]) (rep (n + 1) [1, 2]) (LM.pow [1, 2] i) := fun i => past_conj ra (pow_past A ra g.nz i)
    obtain ⟨j, ej⟩ := B.ex
    have kb : Conj (rep (n + 1) [1, 2]) (rep (n + 1) [2, 1]) b := by rw [ej]; exact ((cp j).comp k).red
    have lb : Lets 2 b := by
      rw [ej]
      refine (lt.app ?_).red
      exact Lets.pow (fun x hx => by simp at hx; omega) j
    have bl : b.length ≤ 1 := by
      have h := bf_le_len (B.le 0)
      have z : PW.red (t ++ LM.pow [1, 2] 0) = PW.red t := by show PW.red (t ++ []) = _; rw [List.append_nil]
      rw [z] at h
      have := red_len t
      simp at tl
      omega
    obtain ⟨i, ei⟩ := conj_all ra g.nz (ne 1 2) A k im (fun x hx => by
      rcases List.mem_append.mp hx with q | q
      · exact lt.nz x q
      · simp at q; omega) (fun gg rg hg => by
        have al := al_len 1 2 (n + 1)
        obtain ⟨γ, m, _, G, _⟩ := rooted_ok (S := []) rg (by simp at tl hg; omega)
        exact ⟨γ, m, G⟩)
    have h1 : before [-1] b = false := by
      have := B.le i
      rw [← ei] at this
      exact this
    have h2 : before b [-1] = false := by
      match b, bl, lb, kb with
      | [], _, _, kb => exact absurd kb i0
      | [x], _, lb, kb =>
        obtain ⟨x0, x1, x2⟩ := lb x (by simp)
        have : x = -2 ∨ x = -1 ∨ x = 1 ∨ x = 2 := by omega
        rcases this with rfl | rfl | rfl | rfl
        · rfl
        · rfl
        · exact absurd kb i1
        · rfl
      | _ :: _ :: _, bl, _, _ => simp at bl
    have : [-1] = b := bf_tot h1 h2
    rw [this]
    exact e
theorem turn_no {n : Nat} (h0 : 0 < n) (hn : n ≤ 1900) : M_turning [.int 2, T (rep n [1]), T (rep n [2])] S = some (.ok .non S) := by
  have g : Good 2 (rep n [1]) := good_rep (by simp) (by simp; omega)
  have g2 : Good 2 (rep n [2]) := good_rep (by simp) (by simp; omega)
  have ra : Red (rep n [1]) := red_pos (pos_rep pos1)
  have rb : Red (rep n [2]) := red_pos (pos_rep pos2)
  have p := pos_parts (pos_rep (n := n) pos1)
  have p' := pos_parts (pos_rep (n := n) pos2)
  have A := rooted_rep (n := n) h0 (by simp) pos1 (root1 1)
  have ne : ∀ a : Int, rep n [a] ≠ [] := fun a z => by
    have := rep_len n [a]
    rw [z] at this
    simp at this; omega
  rcases turning_low (S := S) (l := 2) (by omega) g g2 (by rw [red_id ra]; exact p) (by rw [red_id rb]; exact p') (ne 1) (ne 2) (one_spot h0) (one_spot h0) (by rw [red_id ra]; exact A) (by simp) with ⟨_, e⟩ | ⟨c, _⟩
  · exact e
  · rw [rot0, rot0] at c
    obtain ⟨m, rfl⟩ : ∃ m, n = m + 1 := ⟨n - 1, by omega⟩
    rw [rep_succ, rep_succ] at c
    have := (List.cons.inj c).1
    omega
theorem check_no {n : Nat} (h0 : 0 < n) (hn : n ≤ 2000) : LM.M_check_turning [.int 2, T [1], T [1], T (rep n [2])] S = some (.ok (.bl false) S) := by
  have g : Good 2 (rep n [2]) := good_rep (by simp) (by simp; omega)
  have g1 : Good 2 [1] := good1 (by omega)
  have e := check_turning_ok (S := S) (l := 2) (by omega) g1 g1 g
  have : ¬ Conj (red [1]) (red [1]) (rep n [2]) := fun h => by
    have r1 : red [1] = [1] := rfl
    rw [r1] at h
    unfold Conj at h
    have re : Red (rep n [2] ++ ([1] ++ inv (rep n [2]))) := by
      refine red_joint (red_pos (pos_rep pos2)) (red_joint trivial (red_pos (pos_rep pos2)).inv fun a b ha hb => ?_) fun a b ha hb => ?_
      · have hb := List.mem_of_mem_head? hb
        simp only [inv, List.mem_reverse, List.mem_map] at hb
        obtain ⟨y, hy, rfl⟩ := hb
        have := mem_rep hy
        simp at this ha
        omega
      · have ha := mem_rep (List.mem_of_getLast? ha)
        simp at ha hb
        omega
    rw [red_id re] at h
    have := congrArg List.length h
    simp [rep_len, inv_length] at this
    omega
  rw [decide_eq_false this] at e
  exact e
theorem check_yes {n : Nat} (hn : n ≤ 2000) : LM.M_check_turning [.int 2, T [1], T [1], T (rep n [1])] S = some (.ok (.bl true) S) := by
  have g : Good 2 (rep n [1]) := good_rep (by simp) (by simp; omega)
  have g1 : Good 2 [1] := good1 (by omega)
  have e := check_turning_ok (S := S) (l := 2) (by omega) g1 g1 g
  have : Conj (red [1]) (red [1]) (rep n [1]) := conj_self (a := [1]) trivial n
  rw [decide_eq_true this] at e
  exact e
end
end K04

set_option linter.all false
set_option maxRecDepth 100000
set_option maxHeartbeats 1000000
/-! # K04z: the law of k04 -/
namespace K04
open PL PW LM
/-- what is asked of the ring of three hundred steps -/
structure IsLong (w : List Int) : Prop where
  len : w.length = 300
  lets : ∀ x ∈ w, x = 1 ∨ x = 2
  root : IsRoot w w.length
theorem long_min : ∀ e, e < 298 → 0 < e → ¬ ((rep 99 [1, 2, 2] ++ [1, 1, 1])[297 - e]? = (rep 99 [1, 2, 2] ++ [1, 1, 1])[297]? ∧ (rep 99 [1, 2, 2] ++ [1, 1, 1])[298 - e]? = (rep 99 [1, 2, 2] ++ [1, 1, 1])[298]?) := by decide +kernel
theorem long_is : IsLong (rep 99 [1, 2, 2] ++ [1, 1, 1]) := by
  have hl : (rep 99 [1, 2, 2] ++ [1, 1, 1]).length = 300 := by rw [List.length_append, rep_len]; rfl
  have hm := long_min
  refine ⟨hl, fun x hx => ?_, ?_⟩
  · rcases List.mem_append.mp hx with q | q
    · have := mem_rep q
      simp at this; omega
    · simp at q; omega
  · generalize rep 99 [1, 2, 2] ++ [1, 1, 1] = w at *
    refine ⟨by omega, Nat.dvd_refl _, per_self _, fun e h1 h2 h3 h4 => ?_⟩
    rw [hl] at h2 h3
    obtain ⟨c, hc⟩ := h3
    have : e ≤ 150 := by
      match c with
      | 0 => omega
      | 1 => omega
      | c + 2 =>
        have : e * 2 ≤ e * (c + 2) := Nat.mul_le_mul_left _ (by omega)
        omega
    refine hm e (by omega) h1 ⟨?_, ?_⟩
    · have := h4 (297 - e) (by omega)
      rw [show 297 - e + e = 297 by omega] at this
      exact this
    · have := h4 (298 - e) (by omega)
      rw [show 298 - e + e = 298 by omega] at this
      exact this
theorem rot_mem {r : List Int} {i : Nat} {x : Int} (h : x ∈ rot r i) : x ∈ r := by
  unfold rot at h
  rcases List.mem_append.mp h with q | q
  · exact List.mem_of_mem_drop q
  · exact List.mem_of_mem_take q
theorem pow_nat (w : List Int) (n : Nat) : LM.pow w n = rep n w := by
  unfold LM.pow
  rw [if_pos (by omega), Int.toNat_natCast]
/-- what turns the long one to its hundredth place is a hundred steps long at least -/
theorem long_far {w : List Int} (hw : IsLong w) (k : Int) : 100 ≤ (PW.red (inv (w.take 100) ++ LM.pow w k)).length := by
  have hp : ∀ x ∈ w, 0 < x := fun x hx => by have := hw.lets x hx; omega
  have hl := hw.len
  have tp : ∀ x ∈ w.take 100, 0 < x := fun x hx => hp x (List.mem_of_mem_take hx)
  have tl : (w.take 100).length = 100 := by rw [List.length_take]; omega
  have dl : (w.drop 100).length = 200 := by rw [List.length_drop]; omega
  have e : w = w.take 100 ++ w.drop 100 := (List.take_append_drop 100 w).symm
  by_cases hk : 0 ≤ k
  · obtain ⟨n, rfl⟩ : ∃ n : Nat, k = n := ⟨k.toNat, by omega⟩
    rw [pow_nat]
    cases n with
    | zero =>
      rw [rep_zero, List.append_nil, red_id (red_pos tp).inv, inv_length]
      omega
    | succ n =>
      have e2 : inv (w.take 100) ++ rep (n + 1) w = [] ++ (inv (w.take 100) ++ (w.take 100 ++ (w.drop 100 ++ rep n w))) := by
        rw [rep_succ, List.nil_append, ← List.append_assoc (w.take 100), ← e]
      rw [e2, red_mid, List.nil_append, red_id (red_pos fun x hx => by
        rcases List.mem_append.mp hx with q | q
        · exact hp x (List.mem_of_mem_drop q)
        · exact pos_rep hp x q)]
      rw [List.length_append]
      omega
  · have e2 : inv (w.take 100) ++ LM.pow w k = inv (rep (-k).toNat w ++ w.take 100) := by
      unfold LM.pow
      rw [if_neg hk, inv_append, inv_rep]
    rw [e2, red_id (red_pos (w := rep (-k).toNat w ++ w.take 100) fun x hx => by
      rcases List.mem_append.mp hx with q | q
      · exact pos_rep hp x q
      · exact tp x q).inv, inv_length, List.length_append]
    omega
section
variable {ω : D → List Nat} {S R : Sto}
theorem long_ok {w : List Int} (hw : IsLong w) : ∃ b W, M_turning [.int 2, T w, T (rot w 100)] S = some (.ok (T b) S) ∧ M__law_turns [T b, T w, T (rot w 100)] S = some (.ok (.bl true) S) ∧ b.length = 100 ∧
    M_ring_of [.int 2, T (rot w 100)] S = some (.ok (T W) S) ∧ M__law_ring [T w] S = some (.ok (T W) S) := by
  have hl := hw.len
  have hp : ∀ x ∈ w, 0 < x := fun x hx => by have := hw.lets x hx; omega
  have hq : ∀ x ∈ rot w 100, 0 < x := fun x hx => hp x (rot_mem hx)
  have ra := red_pos hp
  have rb := red_pos hq
  have rl := rot_len w (i := 100) (by omega)
  have lt : ∀ x ∈ w, x ≠ 0 ∧ -2 ≤ x ∧ x ≤ 2 := fun x hx => by have := hw.lets x hx; omega
  have g : Good 2 w := ⟨by omega, lt⟩
  have g2 : Good 2 (rot w 100) := ⟨by omega, fun x hx => lt x (rot_mem hx)⟩
  have p := pos_parts hp
  have p' := pos_parts hq
  have k0 : Conj w (rot w 100) (inv (w.take 100)) := by
    have := parts_conj ra g.nz p 100
    rw [List.nil_append] at this
    exact this.back rb
  have u0 : NZ (inv (w.take 100)) := fun x hx => by
    simp only [inv, List.mem_reverse, List.mem_map] at hx
    obtain ⟨y, hy, rfl⟩ := hx
    have := hp y (List.mem_of_mem_take hy)
    omega
  obtain ⟨W, hW⟩ := least_ex w
  have hW' := conj_W ra g.nz p p' u0 k0 hW
  rcases turning_ok (S := S) (l := 2) (by omega) g g2 (by omega) (by omega) (by rw [red_id ra]; exact p) (by rw [red_id rb]; exact p') hW hW' with ⟨c, _⟩ | ⟨_, b, e, t⟩
  · exact absurd rfl c
  rw [red_id ra, red_id rb] at t
  have tl : (w.take 100).length = 100 := by rw [List.length_take]; omega
  have bl := t.len
  have lt1 := law_turns_ok (S := S) (u := b) (a := w) (b := rot w 100) (by omega) (by omega)
  rw [decide_eq_true t.conj] at lt1
  have up : b.length ≤ 100 := by
    have h := t.least _ u0 (by rw [inv_length]; omega) k0
    have := bf_le_len h
    have := red_len (inv (w.take 100))
    rw [inv_length] at this
    omega
  have w0 : w ≠ [] := fun z => by rw [z] at hl; simp at hl
  have A : Rooted w w 1 := .inr ⟨w0, [], w, w.length, p, hw.root, by simp [inv], by rw [Nat.div_self (by omega)]⟩
  obtain ⟨i, ei⟩ := conj_all ra g.nz w0 A k0 t.conj (fun x hx => by
    rcases List.mem_append.mp hx with q | q
    · exact u0 x q
    · exact t.lets.nz x q) (fun gg rg hg => by
      obtain ⟨γ, m, _, G, _⟩ := rooted_ok (S := []) rg (by rw [inv_length] at hg; omega)
      exact ⟨γ, m, G⟩)
  rw [red_id t.red] at ei
  have lo : 100 ≤ b.length := by rw [ei]; exact long_far hw i
  exact ⟨b, W, e, lt1, by omega, ring_of_ok (S := S) (l := 2) (by omega) g2 (by rw [red_id rb]; exact p') hW', law_ring_ok (S := S) p hW (by omega)⟩
theorem hand_long : ∃ u w, opMul (.tup [.int 1, .int 2, .int 2]) (.int 99) = some (T u) ∧ opAdd (T u) (.tup [.int 1, .int 1, .int 1]) = some (T w) ∧ IsLong w := by
  have m := mul_T [1, 2, 2] 99 (by omega) (by simp)
  have n1 : ((99 : Nat) : Int) = 99 := rfl
  rw [n1] at m
  refine ⟨rep 99 [1, 2, 2], rep 99 [1, 2, 2] ++ [1, 1, 1], m, ?_, long_is⟩
  have a := add_T (rep 99 [1, 2, 2]) [1, 1, 1]
  rw [if_pos (by rw [rep_len]; simp [LINE])] at a
  exact a
theorem hand12 : ∃ U V, opMul (.tup [.int 1, .int 2]) (.int 900) = some (T U) ∧ opMul (.tup [.int 2, .int 1]) (.int 900) = some (T V) ∧ ∀ S, M_turning [.int 2, T U, T V] S = some (.ok (T [-1]) S) := by
  obtain ⟨n, hn, hz⟩ : ∃ n : Nat, n < 900 ∧ ((n + 1 : Nat) : Int) = 900 := ⟨899, by omega, rfl⟩
  have m1 := mul_T [1, 2] (n + 1) (by omega) (by simp; omega)
  have m2 := mul_T [2, 1] (n + 1) (by omega) (by simp; omega)
  rw [hz] at m1 m2
  exact ⟨_, _, m1, m2, fun S => turn12 hn⟩
theorem hand1 : ∃ U V, opMul (.tup [.int 1]) (.int 1900) = some (T U) ∧ opMul (.tup [.int 2]) (.int 1900) = some (T V) ∧ (∀ S, M_turning [.int 2, T U, T V] S = some (.ok .non S)) ∧
    (∀ S, LM.M_check_turning [.int 2, .tup [.int 1], .tup [.int 1], T V] S = some (.ok (.bl false) S)) ∧ ∀ S, LM.M_check_turning [.int 2, .tup [.int 1], .tup [.int 1], T U] S = some (.ok (.bl true) S) := by
  obtain ⟨n, h0, hn, hz⟩ : ∃ n : Nat, 0 < n ∧ n ≤ 1900 ∧ ((n : Nat) : Int) = 1900 := ⟨1900, by omega, by omega, rfl⟩
  have m1 := mul_T [1] n (by omega) (by simp; omega)
  have m2 := mul_T [2] n (by omega) (by simp; omega)
  rw [hz] at m1 m2
  exact ⟨_, _, m1, m2, fun S => turn_no h0 hn, fun S => check_no h0 (by omega), fun S => check_yes (by omega)⟩
/-! ### what is refused -/
theorem forL_step {t : Tg} {b : MS} {d : D} {ds : List D} {δ δ1 δ2 : Env} {S S2 : Sto} (h1 : t.put d δ = some δ1) (h2 : b δ1 S = some (.nx δ2 S2)) : forL t b (d :: ds) δ S = forL t b ds δ2 S2 := by
  conv => lhs; unfold forL
  simp only [h1, h2]
theorem check_bad {c p : D} (hc : dat c = true) (hi : ∀ ds, c = .tup ds → ∀ d ∈ ds, dat d = true) (hp : c.pure = true) (q : courseBad 2 c = some p) (hpp : p.pure = true) :
    LM.M_check_turning [.int 2, .tup [.int 1], .tup [.int 1], c] S = some (.ex ⟨0, p⟩ S) := by
  have e := need_course_gen (S := S) (l := 2) (by omega) hc hi hp
  rw [q] at e
  have n1 := need_course_ok (S := S) (l := 2) (by omega) (good1 (l := 2) (by omega))
  have i1 : T [1] = .tup [.int 1] := rfl
  rw [i1] at n1
  simp [LM.M_check_turning, n1, e, hpp]
theorem odd_ok {c p : D} {a0 a1 a2 a3 a4 a5 a7 a8 : Option D} (hc : dat c = true) (hi : ∀ ds, c = .tup ds → ∀ d ∈ ds, dat d = true) (hp : c.pure = true) (q : courseBad 2 c = some p) (hpp : p.pure = true) :
    mTry fnE (mDrop (mCall LM.M_check_turning (mConsA (mC (.int 2)) (mConsA (mTup (mConsA (mC (.int 1)) mNilA)) (mConsA (mTup (mConsA (mC (.int 1)) mNilA)) (mConsA (mVar 6) mNilA)))))) [⟨lkB [some true, some false, none, none, none, none, none, none, none, none, none, none, none], some 8, fun a dd => mSet 7 (mUn (opXF a dd "place") (mVar 8))⟩]
      [a0, a1, a2, a3, a4, a5, some c, a7, a8] S = some (.nx [a0, a1, a2, a3, a4, a5, some c, some p, none] S) := by
  have e := check_bad (S := S) hc hi hp q hpp
  refine try_take (x := ⟨0, p⟩) (by simp [e, LINE]; exact ⟨rfl, rfl⟩) rfl (fun a d => ?_) rfl
  simp [Hd.run, opXF, fnE, clean]
theorem odds {a0 a1 a2 a3 a4 a5 a6 a7 a8 : Option D} : ∃ b6 b7 b8, L_law_2 [a0, a1, a2, a3, a4, a5, a6, a7, a8] S = some (.nx [a0, a1, a2, a3, a4, a5, b6, b7, b8] S) := by
  have t1 := fun (a7 a8 : Option D) => odd_ok (c := .tup [.int 1, .int 3]) (p := .int 1) (a0 := a0) (a1 := a1) (a2 := a2) (a3 := a3) (a4 := a4) (a5 := a5) (a7 := a7) (a8 := a8) (S := S) rfl (by intro ds e d hd; cases e; simp at hd; rcases hd with rfl | rfl <;> rfl) rfl (by simp [courseBad, badStep, stepD]) rfl
  have t2 := fun (a7 a8 : Option D) => odd_ok (c := .lst [.int 1]) (p := .non) (a0 := a0) (a1 := a1) (a2 := a2) (a3 := a3) (a4 := a4) (a5 := a5) (a7 := a7) (a8 := a8) (S := S) rfl (by intro ds e; cases e) rfl rfl rfl
  have t3 := fun (a7 a8 : Option D) => odd_ok (c := .non) (p := .non) (a0 := a0) (a1 := a1) (a2 := a2) (a3 := a3) (a4 := a4) (a5 := a5) (a7 := a7) (a8 := a8) (S := S) rfl (by intro ds e; cases e) rfl rfl rfl
  have nn : opNe .non .non = some (.bl false) := by simp [opNe, opNeO, D.okN, eqD]
  refine ⟨some .non, some .non, none, ?_⟩
  unfold L_law_2
  rw [s_mFor]
  simp only [s_mItSeq, s_mTup, s_mLst, s_mConsA, s_mNilA, s_mC, bEA_ok, bAA_ok, bA_ok, bE_ok, bAS_ok, List.length_cons, List.length_nil, LINE, show (0 + 1 ≤ 16777216) = True from eq_true (by omega), show (0 + 1 + 1 ≤ 16777216) = True from eq_true (by omega), show (0 + 1 + 1 + 1 ≤ 16777216) = True from eq_true (by omega), if_true]
  rw [forL_step (δ1 := [a0, a1, a2, a3, a4, a5, some (.tup [.int 1, .int 3]), a7, a8]) (δ2 := [a0, a1, a2, a3, a4, a5, some (.tup [.int 1, .int 3]), some (.int 1), none]) (S2 := S) (by simp) (by simp [t1, opIsI, isTuple, LINE])]
  rw [forL_step (δ1 := [a0, a1, a2, a3, a4, a5, some (.lst [.int 1]), some (.int 1), none]) (δ2 := [a0, a1, a2, a3, a4, a5, some (.lst [.int 1]), some .non, none]) (S2 := S) (by simp) (by simp [t2, opIsI, isTuple, LINE, nn])]
  rw [forL_step (δ1 := [a0, a1, a2, a3, a4, a5, some .non, some .non, none]) (δ2 := [a0, a1, a2, a3, a4, a5, some .non, some .non, none]) (S2 := S) (by simp) (by simp [t3, opIsI, isTuple, LINE, nn])]
  exact forL_nil
/-! ### the last three -/
theorem last1 : M_turning [.int 1, .tup [.int 1, .int (-1)], .tup []] S = some (.ok (.tup []) S) := by
  have g : Good 1 [1, -1] := ⟨by simp, by intro x hx; simp at hx; omega⟩
  have p0 : PartsU [] [] [] := PartsU.of_cyc trivial
  rcases turning_ok (S := S) (l := 1) (by omega) g Good.nil (by simp) (by simp) (show PartsU (red [1, -1]) [] [] from p0) (show PartsU (red []) [] [] from p0) (.inl ⟨rfl, rfl⟩) (.inl ⟨rfl, rfl⟩) with ⟨c, _⟩ | ⟨_, b, e, t⟩
  · exact absurd rfl c
  · have h := bf_le_len (t.least [] (fun x hx => by simp at hx) (by simp) (show red [] = [] from rfl))
    have hb : b = [] := List.length_eq_zero_iff.mp (Nat.le_zero.mp h)
    subst hb
    exact e
theorem last2 : M_turning [.int 1, .tup [], .tup [.int 1]] S = some (.ok .non S) := by
  have g : Good 1 [1] := good1 (by omega)
  have p0 : PartsU [] [] [] := PartsU.of_cyc trivial
  have p1 : PartsU [1] [] [1] := pos_parts pos1
  obtain ⟨W, hW⟩ := least_ex [1]
  have l1 : W.length = 1 := by
    rcases hW with ⟨c, _⟩ | ⟨_, i, hi, e, _⟩
    · simp at c
    · rw [e, rot_len _ (by omega)]; rfl
  rcases turning_ok (S := S) (l := 1) (by omega) Good.nil g (by simp) (by simp) (show PartsU (red []) [] [] from p0) (show PartsU (red [1]) [] [1] from p1) (.inl ⟨rfl, rfl⟩) hW with ⟨_, e⟩ | ⟨c, _⟩
  · exact e
  · rw [← c] at l1
    simp at l1
theorem last3 : LM.M_check_turning [.int 1, .tup [], .tup [.int 1, .int (-1)], .tup [.int 1]] S = some (.ok (.bl true) S) := by
  have g : Good 1 [1, -1] := ⟨by simp, by intro x hx; simp at hx; omega⟩
  have e := check_turning_ok (S := S) (l := 1) (by omega) Good.nil g (good1 (by omega))
  have c : Conj (red []) (red [1, -1]) [1] := rfl
  rw [decide_eq_true c] at e
  exact e
end
end K04

set_option linter.all false
set_option maxRecDepth 100000
set_option maxHeartbeats 1000000
/-! # K04a: the law of k04, whole -/
namespace K04
open PL PW LM
section
variable {ω : D → List Nat}
theorem lenv9 {ns : List Int} {δ : Env} (h : LEnv 9 ns δ) : ∃ a2 a3 a4 a5 a6 a7 a8, δ = [some (L ns), some (.ref 0), a2, a3, a4, a5, a6, a7, a8] := by
  obtain ⟨hl, h0, h1⟩ := h
  match δ, hl, h0, h1 with
  | [a0, a1, a2, a3, a4, a5, a6, a7, a8], _, h0, h1 =>
    simp at h0 h1
    exact ⟨a2, a3, a4, a5, a6, a7, a8, by rw [h0, h1]⟩
theorem turns {ns : List Int} (hns : ns.length ≤ 63) {δ : Env} {k : Nat} {lf : List Int} (h : LEnv 9 ns δ) (hk : k + 300 * 10000 ≤ 400000000) :
    ∃ δ' k' lf', L_law_1 ω δ [.law ns k lf] = some (.nx δ' [.law ns k' lf']) ∧ LEnv 9 ns δ' ∧ k' ≤ k + 300 * 10000 := by
  unfold L_law_1
  refine turns_ok (a := 4) (b := 5) (step := 10000) hns (by omega) (by omega) (by omega) ?_ h hk
  intro δ k lf hδ hk
  obtain ⟨a2, a3, a4, a5, a6, a7, a8, rfl⟩ := lenv9 hδ
  obtain ⟨k1, l1, e1, hk1⟩ := small_ok ns k lf (by omega)
  obtain ⟨k2, l2, e2, hk2⟩ := great_ok (ω := ω) ns k1 l1 (by omega)
  exact ⟨.nx [some (L ns), some (.ref 0), a2, a3, a4, a5, a6, a7, a8] [.law ns k2 l2], by simp [e1, e2], _, k2, l2, rfl, ⟨rfl, rfl, rfl⟩, by omega⟩
theorem law_true0 (ns : List Int) (h : ns.length ≤ 63) : ∃ S', M_law ω [.lst (ns.map .int)] [] = some (.ok (.bl true) S') := by
  obtain ⟨lf0, e0⟩ := begun_ok h
  obtain ⟨δ1, k1, l1, e1, hδ1, _⟩ := turns (ω := ω) h (δ := [some (L ns), some (.ref 0), none, none, none, none, none, none, none]) (k := 0) (lf := lf0) ⟨rfl, rfl, rfl⟩ (by omega)
  obtain ⟨a2, a3, a4, a5, a6, a7, a8, rfl⟩ := lenv9 hδ1
  generalize hS : [MO.law ns k1 l1] = S at *
  obtain ⟨u, w, m1, m2, hw⟩ := hand_long
  obtain ⟨U, V, m3, m4, f3⟩ := hand12
  obtain ⟨X, Y, m5, m6, f5, f6, f7⟩ := hand1
  obtain ⟨b, W, f1, f2, bl, r1, r2⟩ := long_ok (S := S) hw
  have hl := hw.len
  have c1 := cut_from (xs := w) (i := 100) (k := 100) rfl (by omega)
  have c2 := cut_to (xs := w) (i := 100) (k := 100) rfl (by omega)
  have ra := rot_app (r := w) (i := 100) (by omega) (by omega)
  have f3' := f3 S
  have f5' := f5 S
  have f6' := f6 S
  have f7' := f7 S
  have l1 := last1 (S := S)
  have l2 := last2 (S := S)
  have l3 := last3 (S := S)
  have b1 : (b.length : Int) = 100 := by omega
  have nb : opNe (T [-1]) (.tup [.int (-1)]) = some (.bl false) := by
    have := ne_T [-1] [-1]
    rw [decide_eq_true rfl] at this
    exact this
  have nw : opNe (T W) (T W) = some (.bl false) := by rw [ne_T, decide_eq_true rfl]; rfl
  have e00 : opEq (.tup []) (.tup []) = some (.bl true) := eq_T [] []
  have nn : opIsNotN .non .non = some (.bl false) := rfl
  have nn2 : opIsN .non .non = some (.bl true) := rfl
  obtain ⟨b6, b7, b8, e4⟩ := odds (S := S) (a0 := some (L ns)) (a1 := some (.ref 0)) (a2 := a2) (a3 := some (T w)) (a4 := some (T (rot w 100))) (a5 := some (T b)) (a6 := a6) (a7 := a7) (a8 := a8)
  refine ⟨[], ?_⟩
  unfold M_law
  refine fn_of (S1 := S) rfl ?_ rfl
  refine wp_seq (δ1 := [some (L ns), some (.ref 0), none, none, none, none, none, none, none]) (S1 := [.law ns 0 lf0]) (by simp [e0]) ?_
  refine wp_seq e1 ?_
  refine wp_seq (by simp [m1, m2, LINE]; exact ⟨rfl, rfl⟩) ?_
  refine wp_seq (by simp [mSlice, c1, c2, -add_T, ra, LINE]; exact ⟨rfl, rfl⟩) ?_
  refine wp_seq (by simp [f1, LINE]; exact ⟨rfl, rfl⟩) ?_
  refine wp_seq (by simp [f2, b1, r1, r2, nw, LINE]; exact ⟨rfl, rfl⟩) ?_
  refine wp_seq (by simp [m3, m4, m6, f3', nb, f6', LINE]; exact ⟨rfl, rfl⟩) ?_
  refine wp_seq (by simp [m5, m6, f5', f7', nn, LINE]; exact ⟨rfl, rfl⟩) ?_
  refine wp_seq e4 ?_
  exact ⟨_, by simp [l1, l2, l3, e00, nn2, LINE], rfl⟩
end
theorem law_true' (ns : List Int) (h : ns.length ≤ 63) : ∃ S', M_law BR.reprD [.lst (ns.map .int)] [] = some (.ok (.bl true) S') := law_true0 ns h
end K04

namespace K04
theorem law_true (ns : List Int) (h : ns.length ≤ 63) : ∃ S', M_law BR.reprD [.lst (ns.map .int)] [] = some (.ok (.bl true) S') := law_true' ns h
end K04

set_option maxRecDepth 100000
open PySem PySem.W PyProof.Rows
set_option maxHeartbeats 0 in
theorem PySem.Challenge.cw_homecourses_k04_whole_turnings_holds : PySem.Challenge.rw_homecourses_k04_whole_turnings.Holds := by
  w_on; o_law; k_head; (case hw => w_witness2)
  k_fill
  refine BR.walkC (l := PySem.Challenge.rw_homecourses_k04_whole_turnings) (n := 63) (k := 8) (x := "script") (m := K04.M_law BR.reprD) [] [] rfl (by decide) rfl ⟨rfl, by decide, by decide⟩ (fun w h Y => ⟨PySem.W.kIn_of Y, fun _ h => nomatch h⟩) ?hTb K04.law_true ?F
  case hTb => exact fun _ h => nomatch h
  case F =>
    intro w mg fa h KX G hmg
    refine' K04.all_mk (T0 := BR.tbs0 []) [] KX G hmg ?a31 ?l31 ?c31 ?k31 ?a32 ?l32 ?c32 ?k32 ?a35 ?l35 ?c35 ?k35 ?a33 ?l33 ?c33 ?k33 ?a34 ?l34 ?c34 ?k34 ?a36 ?l36 ?c36 ?k36 ?a39 ?l39 ?c39 ?k39 ?a40 ?l40 ?c40 ?k40 ?a5 ?l5 ?c5 ?k5 ?a6 ?l6 ?c6 ?k6 ?a11 ?l11 ?c11 ?k11 ?a7 ?l7 ?c7 ?k7 ?a12 ?l12 ?c12 ?k12 ?a13 ?l13 ?c13 ?k13 ?a19 ?l19 ?c19 ?k19 ?a14 ?l14 ?c14 ?k14 ?a17 ?l17 ?c17 ?k17 ?a24 ?l24 ?c24 ?k24 ?a25 ?l25 ?c25 ?k25 ?a16 ?l16 ?c16 ?k16 ?a15 ?l15 ?c15 ?k15 ?a27 ?l27 ?c27 ?k27 ?a22 ?l22 ?c22 ?k22 ?a23 ?l23 ?c23 ?k23 ?a28 ?l28 ?c28 ?k28 ?a41 ?l41 ?c41 ?k41 ?a21 ?l21 ?c21 ?k21 ?a26 ?l26 ?c26 ?k26 ?a37 ?l37 ?c37 ?k37 ?a38 ?l38 ?c38 ?k38 ?a18 ?l18 ?c18 ?k18 ?a29 ?l29 ?c29 ?k29 ?a42 ?l42 ?c42 ?k42 ?a43 ?l43 ?c43 ?k43 ?hany ?hsup ?htop ?baCourseError ?blCourseError ?bfCourseError ?xaBadNumber ?xlBadNumber ?xsBadNumber ?xgBadNumber ?xtBadNumber ?xnBadNumber ?xjBadNumber ?xyBadNumber ?xYBadNumber ?xBBadNumber ?xDBadNumber ?xkBadNumber ?xLBadNumber ?xcBadNumber ?xCBadNumber ?xoBadNumber ?xvBadNumber ?xFBadNumber ?xaBadCourse ?xlBadCourse ?xsBadCourse ?xgBadCourse ?xtBadCourse ?xnBadCourse ?xjBadCourse ?xyBadCourse ?xYBadCourse ?xBBadCourse ?xDBadCourse ?xkBadCourse ?xLBadCourse ?xcBadCourse ?xCBadCourse ?xoBadCourse ?xvBadCourse ?xFBadCourse ?xu_BadNumber_BadCourse ?xu_BadCourse_BadCourse ?g_MOST_LETTERS ?g_MOST_STEPS ?z_list ?z_int ?z_len ?z_min ?z_range ?z_tuple ?z_isinstance ?z_bool ?z_enumerate ?z_abs ?z_max ?z_repr
    (case a31 => k_is)
    (case l31 => k_is)
    (case c31 => k_is)
    (case k31 => k_is)
    (case a32 => k_is)
    (case l32 => k_is)
    (case c32 => k_is)
    (case k32 => k_is)
    (case a35 => k_is)
    (case l35 => k_is)
    (case c35 => k_is)
    (case k35 => k_is)
    (case a33 => k_is)
    (case l33 => k_is)
    (case c33 => k_is)
    (case k33 => k_is)
    (case a34 => k_is)
    (case l34 => k_is)
    (case c34 => k_is)
    (case k34 => k_is)
    (case a36 => k_is)
    (case l36 => k_is)
    (case c36 => k_is)
    (case k36 => k_is)
    (case a39 => k_is)
    (case l39 => k_is)
    (case c39 => k_is)
    (case k39 => k_is)
    (case a40 => k_is)
    (case l40 => k_is)
    (case c40 => k_is)
    (case k40 => k_is)
    (case a5 => k_is)
    (case l5 => k_is)
    (case c5 => k_is)
    (case k5 => k_is)
    (case a6 => k_is)
    (case l6 => k_is)
    (case c6 => k_is)
    (case k6 => k_is)
    (case a11 => k_is)
    (case l11 => k_is)
    (case c11 => k_is)
    (case k11 => k_is)
    (case a7 => k_is)
    (case l7 => k_is)
    (case c7 => k_is)
    (case k7 => k_is)
    (case a12 => k_is)
    (case l12 => k_is)
    (case c12 => k_is)
    (case k12 => k_is)
    (case a13 => k_is)
    (case l13 => k_is)
    (case c13 => k_is)
    (case k13 => k_is)
    (case a19 => k_is)
    (case l19 => k_is)
    (case c19 => k_is)
    (case k19 => k_is)
    (case a14 => k_is)
    (case l14 => k_is)
    (case c14 => k_is)
    (case k14 => k_is)
    (case a17 => k_is)
    (case l17 => k_is)
    (case c17 => k_is)
    (case k17 => k_is)
    (case a24 => k_is)
    (case l24 => k_is)
    (case c24 => k_is)
    (case k24 => k_is)
    (case a25 => k_is)
    (case l25 => k_is)
    (case c25 => k_is)
    (case k25 => k_is)
    (case a16 => k_is)
    (case l16 => k_is)
    (case c16 => k_is)
    (case k16 => k_is)
    (case a15 => k_is)
    (case l15 => k_is)
    (case c15 => k_is)
    (case k15 => k_is)
    (case a27 => k_is)
    (case l27 => k_is)
    (case c27 => k_is)
    (case k27 => k_is)
    (case a22 => k_is)
    (case l22 => k_is)
    (case c22 => k_is)
    (case k22 => k_is)
    (case a23 => k_is)
    (case l23 => k_is)
    (case c23 => k_is)
    (case k23 => k_is)
    (case a28 => k_is)
    (case l28 => k_is)
    (case c28 => k_is)
    (case k28 => k_is)
    (case a41 => k_is)
    (case l41 => k_is)
    (case c41 => k_is)
    (case k41 => k_is)
    (case a21 => k_is)
    (case l21 => k_is)
    (case c21 => k_is)
    (case k21 => k_is)
    (case a26 => k_is)
    (case l26 => k_is)
    (case c26 => k_is)
    (case k26 => k_is)
    (case a37 => k_is)
    (case l37 => k_is)
    (case c37 => k_is)
    (case k37 => k_is)
    (case a38 => k_is)
    (case l38 => k_is)
    (case c38 => k_is)
    (case k38 => k_is)
    (case a18 => k_is)
    (case l18 => k_is)
    (case c18 => k_is)
    (case k18 => k_is)
    (case a29 => k_is)
    (case l29 => k_is)
    (case c29 => k_is)
    (case k29 => k_is)
    (case a42 => k_is)
    (case l42 => k_is)
    (case c42 => k_is)
    (case k42 => k_is)
    (case a43 => k_is)
    (case l43 => k_is)
    (case c43 => k_is)
    (case k43 => k_is)
    (case hany => k_is)
    (case hsup => k_is)
    (case htop => first | rfl | decide +kernel)
    (case baCourseError => k_is)
    (case blCourseError => k_is)
    (case bfCourseError => k_is)
    (case xaBadNumber => k_is)
    (case xlBadNumber => k_is)
    (case xsBadNumber => k_is)
    (case xgBadNumber => k_is)
    (case xtBadNumber => k_is)
    (case xnBadNumber => k_is)
    (case xjBadNumber => k_is)
    (case xyBadNumber => k_is)
    (case xYBadNumber => k_is)
    (case xBBadNumber => k_is)
    (case xDBadNumber => k_is)
    (case xkBadNumber => k_is)
    (case xLBadNumber => k_is)
    (case xcBadNumber => k_is)
    (case xCBadNumber => k_is)
    (case xoBadNumber => k_is)
    (case xvBadNumber => first | rfl | decide +kernel)
    (case xFBadNumber => first | rfl | decide +kernel)
    (case xaBadCourse => k_is)
    (case xlBadCourse => k_is)
    (case xsBadCourse => k_is)
    (case xgBadCourse => k_is)
    (case xtBadCourse => k_is)
    (case xnBadCourse => k_is)
    (case xjBadCourse => k_is)
    (case xyBadCourse => k_is)
    (case xYBadCourse => k_is)
    (case xBBadCourse => k_is)
    (case xDBadCourse => k_is)
    (case xkBadCourse => k_is)
    (case xLBadCourse => k_is)
    (case xcBadCourse => k_is)
    (case xCBadCourse => k_is)
    (case xoBadCourse => k_is)
    (case xvBadCourse => first | rfl | decide +kernel)
    (case xFBadCourse => first | rfl | decide +kernel)
    (case xu_BadNumber_BadCourse => k_is)
    (case xu_BadCourse_BadCourse => k_is)
    (case g_MOST_LETTERS => k_is)
    (case g_MOST_STEPS => k_is)
    (case z_list => k_is)
    (case z_int => k_is)
    (case z_len => k_is)
    (case z_min => k_is)
    (case z_range => k_is)
    (case z_tuple => k_is)
    (case z_isinstance => k_is)
    (case z_bool => k_is)
    (case z_enumerate => k_is)
    (case z_abs => k_is)
    (case z_max => k_is)
    (case z_repr => k_is)
