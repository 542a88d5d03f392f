import PyProof.Rows.All
import Wide.All
import OpenK.AllK
import Wide.FinOn
import HandS.ForMost
import KE.KDictKeyed
import HandS.TupAny
import HandS.TupMul
import HandS.Wide
import HandS.Deep
import HandS.IsInst
import HandS.DictComp
import KE.DataMinMax
import HandS.SortKw
import HandS.TupLen
import HandS.WordsDict
import HandS.Flow
import PySem.Challenge.RW_gridstead_k56_ranks_of_any_graph
set_option Elab.async false
set_option autoImplicit false
set_option linter.all false
set_option maxRecDepth 100000
set_option maxHeartbeats 4000000
/-! DnCore: plain data, a store of cells, and the readings of Python's constructs over them. -/
namespace Dn
open PySem

/-- data without an address; loc n is the n-th cell of the store; arg: the law's own list -/
inductive D where
  | non | bl (b : Bool) | int (i : Int) | str (cs : List Nat) | fn (n : Nat)
  | tup (ds : List D) | lst (ds : List D) | arg (ds : List D) | ins (c : Nat) (vs : List D) | loc (n : Nat)

/-- a cell: what may change; frz d: it will not change any more and is d -/
inductive Cell where
  | lst (ds : List D) | dct (kvs : List (D × D)) | obj (c : Nat) (fs : List (Nat × D)) | frz (d : D)

abbrev Env := List (Option D)
abbrev Sto := List Cell
abbrev KD := D → Sto → Prop
abbrev KDs := List D → Sto → Prop
abbrev KB := Bool → Sto → Prop
abbrev KE := Env → Sto → Prop
/-- an exception: its class, its attribute -/
abbrev KX := Nat → List D → Sto → Prop
def noX : KX := fun _ _ _ => False

abbrev TEx := Env → Sto → KD → Prop
abbrev TAr := Env → Sto → KDs → Prop
abbrev TTs := Env → Sto → KB → Prop
abbrev TGt := D → Env → Sto → KE → Prop
structure Ends where
  nx : KE
  rt : KD
  bk : KE := fun _ _ => False
  ct : KE := fun _ _ => False
abbrev TSt := Ends → Env → Sto → Prop
/-- a def's promise: arguments, store, what follows, what is raised -/
abbrev Sp := List D → Sto → KD → KX → Prop

/-! ### equality of data -/
mutual
def D.eqv : D → D → Bool
  | .non, .non => true
  | .bl a, .bl b => a == b
  | .int a, .int b => a == b
  | .bl a, .int b => (if a then 1 else 0) == b
  | .int a, .bl b => a == (if b then 1 else 0)
  | .str a, .str b => a == b
  | .tup a, .tup b => D.eqvs a b
  | .lst a, .lst b => D.eqvs a b
  | _, _ => false
def D.eqvs : List D → List D → Bool
  | [], [] => true
  | x :: xs, y :: ys => D.eqv x y && D.eqvs xs ys
  | _, _ => false
end
/- plain data of that depth at most -/
mutual
def D.dat : Nat → D → Bool
  | _, .non => true
  | _, .bl _ => true
  | _, .int _ => true
  | _, .str cs => cs.all (· < 1114112)
  | n + 1, .tup ds => D.dats n ds
  | n + 1, .lst ds => D.dats n ds
  | _, _ => false
def D.dats : Nat → List D → Bool
  | _, [] => true
  | n, x :: xs => D.dat n x && D.dats n xs
end
/- a key of a dict: tuples of ints, bools, texts, None -/
mutual
def D.key : Nat → D → Bool
  | _, .non => true
  | _, .bl _ => true
  | _, .int _ => true
  | _, .str cs => cs.all (· < 1114112)
  | n + 1, .tup ds => D.keys n ds
  | _, _ => false
def D.keys : Nat → List D → Bool
  | _, [] => true
  | n, x :: xs => D.key n x && D.keys n xs
end

/-! ### reading the store -/
/-- a list, frozen or a cell's -/
def lstOf (S : Sto) : D → Option (List D)
  | .lst ds => some ds
  | .loc n => match S[n]? with
    | some (.lst ds) => some ds
    | some (.frz (.lst ds)) => some ds
    | _ => none
  | _ => none
/-- a list or a tuple -/
def seqOf (S : Sto) : D → Option (List D)
  | .tup ds => some ds
  | .arg ds => some ds
  | d => lstOf S d
def dctOf (S : Sto) : D → Option (List (D × D))
  | .loc n => match S[n]? with
    | some (.dct kvs) => some kvs
    | _ => none
  | _ => none
/-- data as ==, in and the like see it -/
def resD (S : Sto) : D → D
  | .loc n => match S[n]? with
    | some (.lst ds) => .lst ds
    | some (.frz d) => d
    | _ => .loc n
  | d => d

/-! ### expressions -/
def vr (i : Nat) : TEx := fun env S R => match env[i]? with
  | some (some d) => R d S
  | _ => False
/-- a name whose list will not change any more -/
def vrz (i : Nat) : TEx := fun env S R => match env[i]? with
  | some (some (.loc n)) => (match S[n]? with
    | some (.lst ds) => R (.lst ds) (S.set n (.frz (.lst ds)))
    | some (.frz d) => R d S
    | _ => False)
  | some (some d) => R d S
  | _ => False
def cst (d : D) : TEx := fun _ S R => R d S
/-- arguments -/
def nilA : TAr := fun _ S R => R [] S
def consA (a : TEx) (r : TAr) : TAr := fun env S R => a env S fun d S1 => r env S1 fun ds S2 => R (d :: ds) S2
/-- a display -/
def tupD (a : TAr) : TEx := fun env S R => a env S fun ds S1 => R (.tup ds) S1
def lstD (a : TAr) : TEx := fun env S R => a env S fun ds S1 => R (.lst ds) S1
def lstC (a : TAr) : TEx := fun env S R => a env S fun ds S1 => R (.loc S1.length) (S1 ++ [.lst ds])
def dctC : TEx := fun _ S R => R (.loc S.length) (S ++ [.dct []])
/-- an operator by values -/
abbrev Op2 := D → D → Sto → KD → Prop
def bop (o : Op2) (a b : TEx) : TEx := fun env S R => a env S fun x S1 => b env S1 fun y S2 => o x y S2 R
def repL {α : Type} : Nat → List α → List α
  | 0, _ => []
  | n + 1, xs => xs ++ repL n xs
def addO : Op2 := fun x y S R => match x, y with
  | .int a, .int b => R (.int (a + b)) S
  | .str a, .str b => a.length + b.length ≤ sizeLine ∧ R (.str (a ++ b)) S
  | .tup a, .tup b => a.length + b.length ≤ sizeLine ∧ R (.tup (a ++ b)) S
  | x, y => match lstOf S x, lstOf S y with
    | some a, some b => a.length + b.length ≤ sizeLine ∧ R (.lst (a ++ b)) S
    | _, _ => False
def addI : Op2 := fun x y S R => match x, y with
  | .int a, .int b => R (.int (a + b)) S
  | _, _ => False
def subO : Op2 := fun x y S R => match x, y with
  | .int a, .int b => R (.int (a - b)) S
  | _, _ => False
/-- one factor of each product is small -/
def smallI (i : Int) : Prop := -(2 ^ 64) < i ∧ i < 2 ^ 64
def mulO : Op2 := fun x y S R => match x, y with
  | .int a, .int b => (smallI a ∨ smallI b) ∧ R (.int (a * b)) S
  | .tup a, .int b => (-1000 ≤ b ∧ b ≤ 1000 ∧ a.length ≤ 1000) ∧ R (.tup (repL b.toNat a)) S
  | x, .int b => match lstOf S x with
    | some a => (-(2 ^ 63) ≤ b ∧ b < 2 ^ 63 ∧ a.length * b.toNat ≤ sizeLine) ∧ R (.lst (repL b.toNat a)) S
    | _ => False
  | _, _ => False
def fdivO : Op2 := fun x y S R => match x, y with
  | .int a, .int b => (b ≠ 0 ∧ b.natAbs < 1073741824) ∧ R (.int (a.fdiv b)) S
  | _, _ => False
def modO : Op2 := fun x y S R => match x, y with
  | .int a, .int b => b ≠ 0 ∧ R (.int (a.fmod b)) S
  | _, _ => False
def powO : Op2 := fun x y S R => match x, y with
  | .int a, .int b => (0 ≤ b ∧ b ≤ 1000000 ∧ a.natAbs < 2 ^ 64) ∧ R (.int (a ^ b.toNat)) S
  | _, _ => False
def shlO : Op2 := fun x y S R => match x, y with
  | .int a, .int b => (0 ≤ b ∧ b ≤ 1000000 ∧ a.natAbs < 2 ^ 64) ∧ R (.int (a * 2 ^ b.toNat)) S
  | _, _ => False
def negU (a : TEx) : TEx := fun env S R => a env S fun x S1 => match x with
  | .int i => R (.int (-i)) S1
  | _ => False

/-! ### comparisons -/
def eqB (x y : D) (S : Sto) (R : KB) : Prop := match x, y with
  | .int a, .int b => R (decide (a = b)) S
  | .str a, .str b => R (decide (a = b)) S
  | .bl a, .bl b => R (decide (a = b)) S
  | x, y => (D.dat 60 (resD S x) = true ∧ D.dat 60 (resD S y) = true) ∧ R (D.eqv (resD S x) (resD S y)) S
def eqO : Op2 := fun x y S R => eqB x y S fun b S1 => R (.bl b) S1
def neO : Op2 := fun x y S R => eqB x y S fun b S1 => R (.bl (!b)) S1
def cmpO (p : Int → Int → Bool) : Op2 := fun x y S R => match x, y with
  | .int a, .int b => R (.bl (p a b)) S
  | _, _ => False
def ltO : Op2 := cmpO fun a b => decide (a < b)
def leO : Op2 := cmpO fun a b => decide (a ≤ b)
def gtO : Op2 := cmpO fun a b => decide (b < a)
def geO : Op2 := cmpO fun a b => decide (b ≤ a)
def lookD (kvs : List (D × D)) (k : D) : Option D := match kvs with
  | [] => none
  | (k', v) :: r => if D.eqv k' k then some v else lookD r k
/-- the key may stand beside the others: all tuples, or all numbers and texts -/
def isTp : D → Bool
  | .tup _ => true
  | _ => false
def isLf : D → Bool
  | .int _ => true
  | .str _ => true
  | _ => false
def kOk (kvs : List (D × D)) (k : D) : Bool := D.key 8 k && (isTp k || isLf k) && (match kvs with
  | [] => true
  | (k', _) :: _ => isTp k' == isTp k)
def inB (x y : D) (S : Sto) (R : KB) : Prop := match dctOf S y with
  | some kvs => kOk kvs x = true ∧ R (lookD kvs x).isSome S
  | none => match seqOf S y with
    | some ds => (D.dat 50 x = true ∧ D.dats 50 ds = true) ∧ R (ds.any fun z => D.eqv z x) S
    | none => False
def inO : Op2 := fun x y S R => inB x y S fun b S1 => R (.bl b) S1
def ninO : Op2 := fun x y S R => inB x y S fun b S1 => R (.bl (!b)) S1
def isNB : D → Bool
  | .non => true
  | _ => false
def isN (a : TEx) : TEx := fun env S R => a env S fun x S1 => R (.bl (isNB x)) S1
def isNN (a : TEx) : TEx := fun env S R => a env S fun x S1 => R (.bl (!isNB x)) S1
/-- a < b < c: by the operators -/
def chn (o o' : Op2) (a b c : TEx) : TEx := fun env S R => a env S fun x S1 => b env S1 fun y S2 => o x y S2 fun z S3 => match z with
  | .bl true => c env S3 fun w S4 => o' y w S4 R
  | .bl false => R (.bl false) S3
  | _ => False

/-! ### tests -/
def trD (S : Sto) : D → Option Bool
  | .bl b => some b
  | .int i => some (i != 0)
  | .non => some false
  | .tup ds => some !ds.isEmpty
  | .lst ds => some !ds.isEmpty
  | .loc n => match S[n]? with
    | some (.lst ds) => some !ds.isEmpty
    | some (.frz (.lst ds)) => some !ds.isEmpty
    | _ => none
  | _ => none
/-- a value that is True or False -/
def tsB (a : TEx) : TTs := fun env S R => a env S fun x S1 => match x with
  | .bl b => R b S1
  | _ => False
/-- by truth -/
def tsT (a : TEx) : TTs := fun env S R => a env S fun x S1 => match trD S1 x with
  | some b => R b S1
  | none => False
def andT (a b : TTs) : TTs := fun env S R => a env S fun c S1 => match c with
  | true => b env S1 R
  | false => R false S1
def orT (a b : TTs) : TTs := fun env S R => a env S fun c S1 => match c with
  | true => R true S1
  | false => b env S1 R
def notT (a : TTs) : TTs := fun env S R => a env S fun c S1 => R (!c) S1
/-- and, or, not as values, of True and False -/
def andV (a b : TEx) : TEx := fun env S R => a env S fun x S1 => match x with
  | .bl true => b env S1 R
  | .bl false => R (.bl false) S1
  | _ => False
def orV (a b : TEx) : TEx := fun env S R => a env S fun x S1 => match x with
  | .bl true => R (.bl true) S1
  | .bl false => b env S1 R
  | _ => False
def notV (a : TTs) : TEx := fun env S R => a env S fun c S1 => R (.bl (!c)) S1
def iteV (c : TTs) (a b : TEx) : TEx := fun env S R => c env S fun k S1 => match k with
  | true => a env S1 R
  | false => b env S1 R

/-! ### subscripts, slices, attributes -/
def ixD (n : Nat) (i : Int) : Option Nat := if 0 ≤ i then (if i < n then some i.toNat else none) else if -(n : Int) ≤ i then some (i + n).toNat else none
def atD {α : Type} (xs : List α) (i : Int) : Option α := match ixD xs.length i with
  | some j => xs[j]?
  | none => none
def subO_ : Op2 := fun x i S R => match i with
  | .int k => (match seqOf S x with
    | some ds => (match atD ds k with
      | some d => R d S
      | none => False)
    | none => (match dctOf S x with
      | some kvs => kOk kvs i = true ∧ (match lookD kvs i with
        | some d => R d S
        | none => False)
      | none => False))
  | i => match dctOf S x with
    | some kvs => kOk kvs i = true ∧ (match lookD kvs i with
      | some d => R d S
      | none => False)
    | none => False
def sub (a i : TEx) : TEx := bop subO_ a i
def sIx (n d : Nat) : Option Int → Nat
  | none => d
  | some v => if v < 0 then (v + (n : Int)).toNat else min v.toNat n
def cutD {α : Type} (xs : List α) (lo hi : Option Int) : List α := (xs.drop (sIx xs.length 0 lo)).take (sIx xs.length xs.length hi - sIx xs.length 0 lo)
abbrev TOp := Env → Sto → (Option Int → Sto → Prop) → Prop
def opN : TOp := fun _ S R => R none S
def opS (a : TEx) : TOp := fun env S R => a env S fun x S1 => match x with
  | .int i => R (some i) S1
  | _ => False
def slc (a : TEx) (lo hi : TOp) : TEx := fun env S R => a env S fun x S1 => lo env S1 fun l S2 => hi env S2 fun h S3 => match x with
  | .tup ds => R (.tup (cutD ds l h)) S3
  | x => match lstOf S3 x with
    | some ds => R (.lst (cutD ds l h)) S3
    | none => False

/-! ### built-in calls, by values -/
abbrev Bi := List D → Sto → KD → Prop
def bi (f : Bi) (a : TAr) : TEx := fun env S R => a env S fun ds S1 => f ds S1 R
def lenB : Bi := fun ds S R => match ds with
  | [.str cs] => cs.length ≤ sizeLine ∧ R (.int cs.length) S
  | [x] => (match seqOf S x with
    | some xs => R (.int xs.length) S
    | none => match dctOf S x with
      | some kvs => R (.int kvs.length) S
      | none => False)
  | _ => False
def intB : Bi := fun ds S R => match ds with
  | [.int i] => R (.int i) S
  | [.bl b] => R (.int (if b then 1 else 0)) S
  | _ => False
def absB : Bi := fun ds S R => match ds with
  | [.int i] => R (.int (if i < 0 then -i else i)) S
  | _ => False
def max2B : Bi := fun ds S R => match ds with
  | [.int i, .int j] => R (.int (if j > i then j else i)) S
  | _ => False
def min2B : Bi := fun ds S R => match ds with
  | [.int i, .int j] => R (.int (if j < i then j else i)) S
  | _ => False
def intsOf : List D → Option (List Int)
  | [] => some []
  | .int i :: r => (intsOf r).map (i :: ·)
  | _ => none
def maxI : List Int → Int → Int
  | [], m => m
  | x :: r, m => maxI r (if m < x then x else m)
def minI : List Int → Int → Int
  | [], m => m
  | x :: r, m => minI r (if x < m then x else m)
def maxB : Bi := fun ds S R => match ds with
  | [x] => (match (lstOf S x).bind intsOf with
    | some (i :: r) => R (.int (maxI r i)) S
    | _ => False)
  | _ => False
def minB : Bi := fun ds S R => match ds with
  | [x] => (match (lstOf S x).bind intsOf with
    | some (i :: r) => R (.int (minI r i)) S
    | _ => False)
  | _ => False
/-- max(xs, default=d) -/
def maxdB : Bi := fun ds S R => match ds with
  | [x, .int d] => (match (lstOf S x).bind intsOf with
    | some (i :: r) => R (.int (maxI r i)) S
    | some [] => R (.int d) S
    | none => False)
  | _ => False
def sumB : Bi := fun ds S R => match ds with
  | [x] => (match (lstOf S x).bind intsOf with
    | some xs => R (.int xs.sum) S
    | none => False)
  | _ => False
def tupB : Bi := fun ds S R => match ds with
  | [x] => (match seqOf S x with
    | some xs => R (.tup xs) S
    | none => False)
  | _ => False
def lstB : Bi := fun ds S R => match ds with
  | [x] => (match seqOf S x with
    | some xs => R (.lst xs) S
    | none => False)
  | _ => False
/-- list(xs), to be changed -/
def lstCB : Bi := fun ds S R => match ds with
  | [x] => (match seqOf S x with
    | some xs => R (.loc S.length) (S ++ [.lst xs])
    | none => False)
  | _ => False
/-- isinstance(x, T) of built-in classes -/
inductive Ty where
  | tint | tbool | ttup | tlst | tstr
def isT (S : Sto) : Ty → D → Option Bool
  | .tint, .int _ => some true
  | .tint, .bl _ => some true
  | .tbool, .bl _ => some true
  | .ttup, .tup _ => some true
  | .tlst, .lst _ => some true
  | .tstr, .str _ => some true
  | .tint, .non => some false
  | .tint, .str _ => some false
  | .tint, .tup _ => some false
  | .tint, .lst _ => some false
  | .tbool, .non => some false
  | .tbool, .int _ => some false
  | .tbool, .str _ => some false
  | .tbool, .tup _ => some false
  | .tbool, .lst _ => some false
  | .ttup, .non => some false
  | .ttup, .bl _ => some false
  | .ttup, .int _ => some false
  | .ttup, .str _ => some false
  | .ttup, .lst _ => some false
  | .tlst, .non => some false
  | .tlst, .bl _ => some false
  | .tlst, .int _ => some false
  | .tlst, .str _ => some false
  | .tlst, .tup _ => some false
  | .tstr, .non => some false
  | .tstr, .bl _ => some false
  | .tstr, .int _ => some false
  | .tstr, .tup _ => some false
  | .tstr, .lst _ => some false
  | _, _ => none
def isaB (t : Ty) (a : TEx) : TEx := fun env S R => a env S fun x S1 => match isT S1 t x with
  | some b => R (.bl b) S1
  | none => False

/-! ### methods of lists -/
abbrev Mt := D → List D → Sto → KD → Prop
def mtL (m : Mt) (x : TEx) (a : TAr) : TEx := fun env S R => x env S fun d S1 => (lstOf S1 d).isSome = true ∧ a env S1 fun ds S2 => m d ds S2 R
def appM : Mt := fun x a S R => match x, a with
  | .loc n, [y] => (match S[n]? with
    | some (.lst ds) => ds.length < sizeLine ∧ R .non (S.set n (.lst (ds ++ [y])))
    | _ => False)
  | _, _ => False
def extM : Mt := fun x a S R => match x, a with
  | .loc n, [y] => (match S[n]?, lstOf S y with
    | some (.lst ds), some es => ds.length + es.length ≤ sizeLine ∧ R .non (S.set n (.lst (ds ++ es)))
    | _, _ => False)
  | _, _ => False
def popM : Mt := fun x a S R => match x, a with
  | .loc n, [] => (match S[n]? with
    | some (.lst ds) => (match ds[ds.length - 1]? with
      | some y => R y (S.set n (.lst ds.dropLast))
      | none => False)
    | _ => False)
  | _, _ => False
def popAtM : Mt := fun x a S R => match x, a with
  | .loc n, [.int i] => (match S[n]? with
    | some (.lst ds) => (-(2 ^ 63) ≤ i ∧ i < 2 ^ 63) ∧ (match ixD ds.length i with
      | some k => (match ds[k]? with
        | some y => R y (S.set n (.lst (ds.eraseIdx k)))
        | none => False)
      | none => False)
    | _ => False)
  | _, _ => False

/-! ### what is walked -/
/-- range(lo, hi) -/
def rngD (lo : Int) : Nat → List D
  | 0 => []
  | n + 1 => .int lo :: rngD (lo + 1) n
def enumD (i : Int) : List D → List D
  | [] => []
  | x :: r => .tup [.int i, x] :: enumD (i + 1) r
def zipD : List D → List D → List D
  | x :: xs, y :: ys => .tup [x, y] :: zipD xs ys
  | _, _ => []
def zip3D : List D → List D → List D → List D
  | x :: xs, y :: ys, z :: zs => .tup [x, y, z] :: zip3D xs ys zs
  | _, _, _ => []
/-- a list that will not change any more, a tuple -/
def itS (a : TEx) : TAr := fun env S R => a env S fun x S1 => match x with
  | .tup ds => R ds S1
  | .lst ds => R ds S1
  | _ => False
def itR1 (a : TEx) : TAr := fun env S R => a env S fun x S1 => match x with
  | .int n => (-(2 ^ 62) ≤ n ∧ n ≤ sizeLine) ∧ R (rngD 0 n.toNat) S1
  | _ => False
def itR2 (a b : TEx) : TAr := fun env S R => a env S fun x S1 => b env S1 fun y S2 => match x, y with
  | .int lo, .int hi => (-(2 ^ 62) ≤ lo ∧ lo < 2 ^ 62 ∧ -(2 ^ 62) ≤ hi ∧ hi < 2 ^ 62 ∧ hi - lo ≤ sizeLine) ∧ R (rngD lo (hi - lo).toNat) S2
  | _, _ => False
def itEn (a : TEx) : TAr := fun env S R => itS a env S fun ds S1 => R (enumD 0 ds) S1

/-- enumerate of a list -/
def itEnL (a : TEx) : TAr := fun env S R => a env S fun x S1 => match x with
  | .lst ds => R (enumD 0 ds) S1
  | _ => False

/-! ### targets -/
def gN (i : Nat) : TGt := fun d env S R => R (env.set i (some d)) S
abbrev TGs := List D → Env → Sto → KE → Prop
def gsN : TGs := fun ds env S R => ds = [] ∧ R env S
def gsC (g : TGt) (r : TGs) : TGs := fun ds env S R => match ds with
  | d :: es => g d env S fun env1 S1 => r es env1 S1 R
  | [] => False
def gT (g : TGs) : TGt := fun d env S R => match d with
  | .tup ds => g ds env S R
  | _ => False
def putD (kvs : List (D × D)) (k v : D) : List (D × D) := match kvs with
  | [] => [(k, v)]
  | (k', v') :: r => if D.eqv k' k then (k', v) :: r else (k', v') :: putD r k v
/-- xs[i] = v -/
def setO (x i v : D) (S : Sto) (R : Sto → Prop) : Prop := match x with
  | .loc n => (match S[n]? with
    | some (.lst ds) => (match i with
      | .int k => (match ixD ds.length k with
        | some j => R (S.set n (.lst (ds.set j v)))
        | none => False)
      | _ => False)
    | some (.dct kvs) => (kOk kvs i = true ∧ kvs.length < sizeLine) ∧ R (S.set n (.dct (putD kvs i v)))
    | _ => False)
  | _ => False
def gSub (a i : TEx) : TGt := fun d env S R => a env S fun x S1 => i env S1 fun k S2 => setO x k d S2 fun S3 => R env S3

/-! ### comprehensions -/
def lcGo (g : TGt) (t : TTs) (e : TEx) (env : Env) : List D → List D → Sto → KDs → Prop
  | [], acc, S, R => R acc S
  | x :: xs, acc, S, R => g x env S fun env1 S1 => t env1 S1 fun b S2 => match b with
    | true => e env1 S2 fun y S3 => lcGo g t e env xs (acc ++ [y]) S3 R
    | false => lcGo g t e env xs acc S2 R
def wipD (env : Env) : List Nat → Env
  | [] => env
  | i :: r => (wipD env r).set i none
def yesT : TTs := fun _ S R => R true S
def lc (own : List Nat) (it : TAr) (g : TGt) (t : TTs) (e : TEx) : TEx := fun env S R => it env S fun xs S1 => lcGo g t e (wipD env own) xs [] S1 fun ds S2 => R (.lst ds) S2
def lcC (own : List Nat) (it : TAr) (g : TGt) (t : TTs) (e : TEx) : TEx := fun env S R => it env S fun xs S1 => lcGo g t e (wipD env own) xs [] S1 fun ds S2 => R (.loc S2.length) (S2 ++ [.lst ds])
/-- {k: v for ..} -/
def dcGo (g : TGt) (k v : TEx) (env : Env) : List D → List (D × D) → Sto → (List (D × D) → Sto → Prop) → Prop
  | [], acc, S, R => R acc S
  | x :: xs, acc, S, R => g x env S fun env1 S1 => k env1 S1 fun y S2 => v env1 S2 fun z S3 => kOk acc y = true ∧ dcGo g k v env xs (putD acc y z) S3 R
def dc (own : List Nat) (it : TAr) (g : TGt) (k v : TEx) : TEx := fun env S R => it env S fun xs S1 => dcGo g k v (wipD env own) xs [] S1 fun kvs S2 => R (.loc S2.length) (S2 ++ [.dct kvs])

/-! ### calls -/
def cal (sp : Sp) (E : KX) (a : TAr) : TEx := fun env S R => a env S fun ds S1 => sp ds S1 R E

/-! ### statements -/
def nxS : TSt := fun Z env S => Z.nx env S
def sq (t u : TSt) : TSt := fun Z env S => t { Z with nx := u Z } env S
def brS : TSt := fun Z env S => Z.bk env S
def ctS : TSt := fun Z env S => Z.ct env S
def exS (e : TEx) : TSt := fun Z env S => e env S fun _ S1 => Z.nx env S1
def rtS (e : TEx) : TSt := fun Z env S => e env S Z.rt
def rtN : TSt := fun Z _ S => Z.rt .non S
def ifS (c : TTs) (a b : TSt) : TSt := fun Z env S => c env S fun k S1 => match k with
  | true => a Z env S1
  | false => b Z env S1
def asS (e : TEx) (g : TGt) : TSt := fun Z env S => e env S fun d S1 => g d env S1 Z.nx
def agS (i : Nat) (o : Op2) (e : TEx) : TSt := fun Z env S => match env[i]? with
  | some (some x) => e env S fun y S1 => o x y S1 fun z S2 => Z.nx (env.set i (some z)) S2
  | _ => False
def forGo (g : TGt) (b : TSt) (Z : Ends) : List D → Env → Sto → Prop
  | [], env, S => Z.nx env S
  | x :: xs, env, S => g x env S fun env1 S1 => b { Z with nx := forGo g b Z xs, ct := forGo g b Z xs, bk := Z.nx } env1 S1
def foS (it : TAr) (g : TGt) (b : TSt) : TSt := fun Z env S => it env S fun xs S1 => forGo g b Z xs env S1
/-- W: by a measure -/
def whS (c : TTs) (b : TSt) : TSt := fun Z env S => ∃ W : Nat → Env → Sto → Prop, (∃ m, W m env S) ∧ ∀ m env S, W m env S → c env S fun k S1 => match k with
  | true => b { Z with nx := fun env' S' => ∃ m', m' < m ∧ W m' env' S', ct := fun env' S' => ∃ m', m' < m ∧ W m' env' S', bk := Z.nx } env S1
  | false => Z.nx env S1

/-- a def: its body from its arguments -/
def envOf (n : Nat) (ds : List D) : Env := ds.map some ++ List.replicate (n - ds.length) none
def dfn (n k : Nat) (b : KX → TSt) : Sp := fun ds S R E => ds.length = k ∧ b E { nx := fun _ S' => R .non S', rt := R } (envOf n ds) S
end Dn

/-! DnRel: how plain data and cells stand in HandS's abstract heap. -/
namespace Dn
open PySem PySem.Spec PyProof.Rows L2

/-- the names' table: the written part, a class's address, its attributes' names, an attribute's name, a def's address -/
structure Tx where
  K : PySem.W.Frag
  P : Program
  w : World
  cl : Nat → Addr
  ats : Nat → List Nat
  nm : Nat → Str
  fa : Nat → Addr
/-- the abstract heap, where the cells stand, the cells; hid: lists that a comprehension fills -/
structure Wd where
  H : Hp
  ρ : Nat → Addr
  S : Sto
  hid : List Addr
def Cell.mut : Cell → Bool
  | .frz _ => false
  | _ => true
def Wd.cel (W : Wd) (a : Addr) : Prop := ∃ n c, W.S[n]? = some c ∧ c.mut = true ∧ W.ρ n = a
def Wd.live (W : Wd) (a : Addr) : Prop := W.cel a ∨ a ∈ W.hid
def sqK (K : PySem.W.Frag) (a : Addr) (vs : List V) : Prop := ∃ (o : Obj) (its : Array Value) (n : Nat), K.lookup a = some o ∧ o.cls = .type "tuple" ∧ o.data = .seq its n ∧ its.size ≤ sizeLine ∧ Vals vs its.toList
def sqM (K : PySem.W.Frag) (a : Addr) (vs : List V) : Prop := ∃ (o : Obj) (its : Array Value) (n : Nat), K.lookup a = some o ∧ o.cls = .type "list" ∧ o.dict = none ∧ o.data = .seq its n ∧ its.size ≤ sizeLine ∧ Vals vs its.toList
mutual
def RD (T : Tx) (W : Wd) : D → V → Prop
  | .non, v => v = .non
  | .bl b, v => v = .bl b
  | .int i, v => v = .int i
  | .str cs, v => v = .str ⟨cs.toArray⟩
  | .fn n, v => v = .ref (T.fa n)
  | .tup ds, v => ∃ a vs, v = .ref a ∧ ((Rd W.H a (.tup vs) ∧ ¬ W.live a) ∨ sqK T.K a vs) ∧ RDs T W ds vs
  | .lst ds, v => ∃ a vs, v = .ref a ∧ W.H a = some (.lst vs) ∧ ¬ W.live a ∧ RDs T W ds vs
  | .arg ds, v => ∃ a vs, v = .ref a ∧ ((Rd W.H a (.lst vs) ∧ ¬ W.live a) ∨ sqM T.K a vs) ∧ RDs T W ds vs
  | .ins c ds, v => ∃ a dx fs, v = .ref a ∧ W.H a = some (.ins (T.cl c) dx fs) ∧ ¬ W.live a ∧ fs.map (·.1) = (T.ats c).map T.nm ∧ RDs T W ds (fs.map (·.2))
  | .loc n, v => n < W.S.length ∧ v = .ref (W.ρ n)
def RDs (T : Tx) (W : Wd) : List D → List V → Prop
  | [], vs => vs = []
  | d :: ds, vs => ∃ v r, vs = v :: r ∧ RD T W d v ∧ RDs T W ds r
end
/-- what stays of data -/
structure Ext1 (W W' : Wd) : Prop where
  len : W.S.length ≤ W'.S.length
  rho : ∀ n, n < W.S.length → W'.ρ n = W.ρ n
  keep : ∀ a o, W.H a = some o → ¬ W.live a → W'.H a = some o ∧ ¬ W'.live a
structure Ext (W W' : Wd) : Prop extends Ext1 W W' where
  hid : W'.hid = W.hid
  same : ∀ a, a ∈ W.hid → W'.H a = W.H a
theorem Ext.refl (W : Wd) : Ext W W := ⟨⟨Nat.le_refl _, fun _ _ => rfl, fun _ _ h l => ⟨h, l⟩⟩, rfl, fun _ _ => rfl⟩
theorem Ext1.trans {W1 W2 W3 : Wd} (a : Ext1 W1 W2) (b : Ext1 W2 W3) : Ext1 W1 W3 :=
  ⟨Nat.le_trans a.len b.len, fun n h => (b.rho n (Nat.lt_of_lt_of_le h a.len)).trans (a.rho n h), fun x o h l => let ⟨h1, l1⟩ := a.keep x o h l; b.keep x o h1 l1⟩
theorem Ext.trans {W1 W2 W3 : Wd} (a : Ext W1 W2) (b : Ext W2 W3) : Ext W1 W3 :=
  ⟨a.toExt1.trans b.toExt1, b.hid.trans a.hid,
    fun x h => (b.same x (by rw [a.hid]; exact h)).trans (a.same x h)⟩
theorem Ext1.rd {W W' : Wd} (e : Ext1 W W') {a : Addr} {u : HO} (h : Rd W.H a u) (l : ¬ W.live a) : Rd W'.H a u ∧ ¬ W'.live a := by
  rcases h with h | ⟨o, h⟩
  · obtain ⟨h1, l1⟩ := e.keep a _ h l
    exact ⟨.inl h1, l1⟩
  · obtain ⟨h1, l1⟩ := e.keep a _ h l
    exact ⟨.inr ⟨o, h1⟩, l1⟩
mutual
theorem RD.ext {T : Tx} {W W' : Wd} (e : Ext1 W W') : ∀ (d : D) (v : V), RD T W d v → RD T W' d v
  | .non, v, h => by unfold RD at h ⊢; exact h
  | .bl b, v, h => by unfold RD at h ⊢; exact h
  | .int i, v, h => by unfold RD at h ⊢; exact h
  | .str cs, v, h => by unfold RD at h ⊢; exact h
  | .fn n, v, h => by unfold RD at h ⊢; exact h
  | .tup ds, v, h => by
    unfold RD at h ⊢
    obtain ⟨a, vs, h1, h2, h3⟩ := h
    refine ⟨a, vs, h1, ?_, RDs.ext e ds vs h3⟩
    rcases h2 with ⟨h2, l⟩ | h2
    · exact .inl (e.rd h2 l)
    · exact .inr h2
  | .lst ds, v, h => by
    unfold RD at h ⊢
    obtain ⟨a, vs, h1, h2, l, h3⟩ := h
    obtain ⟨h2', l'⟩ := e.keep _ _ h2 l
    exact ⟨a, vs, h1, h2', l', RDs.ext e ds vs h3⟩
  | .arg ds, v, h => by
    unfold RD at h ⊢
    obtain ⟨a, vs, h1, h2, h3⟩ := h
    refine ⟨a, vs, h1, ?_, RDs.ext e ds vs h3⟩
    rcases h2 with ⟨h2, l⟩ | h2
    · exact .inl (e.rd h2 l)
    · exact .inr h2
  | .ins c ds, v, h => by
    unfold RD at h ⊢
    obtain ⟨a, dx, fs, h1, h2, l, h3, h4⟩ := h
    obtain ⟨h2', l'⟩ := e.keep _ _ h2 l
    exact ⟨a, dx, fs, h1, h2', l', h3, RDs.ext e ds _ h4⟩
  | .loc n, v, h => by
    unfold RD at h ⊢
    exact ⟨Nat.lt_of_lt_of_le h.1 e.len, by rw [e.rho n h.1]; exact h.2⟩
theorem RDs.ext {T : Tx} {W W' : Wd} (e : Ext1 W W') : ∀ (ds : List D) (vs : List V), RDs T W ds vs → RDs T W' ds vs
  | [], vs, h => by unfold RDs at h ⊢; exact h
  | d :: ds, vs, h => by
    unfold RDs at h ⊢
    obtain ⟨v, r, h1, h2, h3⟩ := h
    exact ⟨v, r, h1, RD.ext e d v h2, RDs.ext e ds r h3⟩
end
section
variable {T : Tx} {W W' : Wd} {d : D} {ds es : List D} {v : V} {vs ws : List V}
theorem RD.x1 (h : RD T W d v) (e : Ext1 W W') : RD T W' d v := RD.ext e d v h
theorem RDs.x1 (h : RDs T W ds vs) (e : Ext1 W W') : RDs T W' ds vs := RDs.ext e ds vs h
theorem RD.x (h : RD T W d v) (e : Ext W W') : RD T W' d v := RD.ext e.toExt1 d v h
theorem RDs.x (h : RDs T W ds vs) (e : Ext W W') : RDs T W' ds vs := RDs.ext e.toExt1 ds vs h
theorem RDs.nil : RDs T W [] [] := by unfold RDs; rfl
theorem RDs.cons (h : RD T W d v) (r : RDs T W ds vs) : RDs T W (d :: ds) (v :: vs) := by unfold RDs; exact ⟨v, vs, rfl, h, r⟩
theorem RDs.nil_inv (h : RDs T W [] vs) : vs = [] := by unfold RDs at h; exact h
theorem RDs.cons_inv (h : RDs T W (d :: ds) vs) : ∃ v r, vs = v :: r ∧ RD T W d v ∧ RDs T W ds r := by unfold RDs at h; exact h
theorem RDs.length : ∀ {ds : List D} {vs : List V}, RDs T W ds vs → vs.length = ds.length
  | [], vs, h => by rw [h.nil_inv]; rfl
  | d :: ds, vs, h => by
    obtain ⟨v, r, rfl, _, h2⟩ := h.cons_inv
    simp [RDs.length h2]
theorem RDs.get : ∀ {ds : List D} {vs : List V} {i : Nat} {d : D}, RDs T W ds vs → ds[i]? = some d → ∃ v, vs[i]? = some v ∧ RD T W d v
  | [], _, _, _, _, e => by simp at e
  | x :: xs, vs, 0, d, h, e => by
    obtain ⟨v, r, rfl, h1, _⟩ := h.cons_inv
    simp at e
    subst e
    exact ⟨v, rfl, h1⟩
  | x :: xs, vs, i + 1, d, h, e => by
    obtain ⟨v, r, rfl, _, h2⟩ := h.cons_inv
    simp at e
    obtain ⟨v', e1, e2⟩ := RDs.get h2 e
    exact ⟨v', by simpa using e1, e2⟩
theorem RDs.append : ∀ {ds es : List D} {vs ws : List V}, RDs T W ds vs → RDs T W es ws → RDs T W (ds ++ es) (vs ++ ws)
  | [], es, vs, ws, h, g => by rw [h.nil_inv]; exact g
  | d :: ds, es, vs, ws, h, g => by
    obtain ⟨v, r, rfl, h1, h2⟩ := h.cons_inv
    exact RDs.cons h1 (RDs.append h2 g)
theorem RDs.one (h : RD T W d v) : RDs T W [d] [v] := .cons h .nil
theorem RDs.set {x : D} {u : V} (hx : RD T W x u) : ∀ {ds : List D} {vs : List V} (i : Nat), RDs T W ds vs → RDs T W (ds.set i x) (vs.set i u)
  | [], vs, i, h => by rw [h.nil_inv]; exact .nil
  | d :: ds, vs, 0, h => by
    obtain ⟨v, r, rfl, h1, h2⟩ := h.cons_inv
    exact RDs.cons hx h2
  | d :: ds, vs, i + 1, h => by
    obtain ⟨v, r, rfl, h1, h2⟩ := h.cons_inv
    exact RDs.cons h1 (RDs.set hx i h2)
theorem RDs.take : ∀ {ds : List D} {vs : List V} (n : Nat), RDs T W ds vs → RDs T W (ds.take n) (vs.take n)
  | _, _, 0, h => by simpa using RDs.nil
  | [], vs, n + 1, h => by rw [h.nil_inv]; exact .nil
  | d :: ds, vs, n + 1, h => by
    obtain ⟨v, r, rfl, h1, h2⟩ := h.cons_inv
    exact RDs.cons h1 (RDs.take n h2)
theorem RDs.drop : ∀ {ds : List D} {vs : List V} (n : Nat), RDs T W ds vs → RDs T W (ds.drop n) (vs.drop n)
  | ds, vs, 0, h => by simpa using h
  | [], vs, n + 1, h => by rw [h.nil_inv]; exact .nil
  | d :: ds, vs, n + 1, h => by
    obtain ⟨v, r, rfl, h1, h2⟩ := h.cons_inv
    exact RDs.drop n h2
theorem RDs.dropLast (h : RDs T W ds vs) : RDs T W ds.dropLast vs.dropLast := by
  rw [List.dropLast_eq_take, List.dropLast_eq_take, h.length]
  exact h.take _
theorem RDs.eraseIdx : ∀ {ds : List D} {vs : List V} (i : Nat), RDs T W ds vs → RDs T W (ds.eraseIdx i) (vs.eraseIdx i)
  | [], vs, i, h => by rw [h.nil_inv]; exact .nil
  | d :: ds, vs, 0, h => by
    obtain ⟨v, r, rfl, h1, h2⟩ := h.cons_inv
    exact h2
  | d :: ds, vs, i + 1, h => by
    obtain ⟨v, r, rfl, h1, h2⟩ := h.cons_inv
    exact RDs.cons h1 (RDs.eraseIdx i h2)
theorem RDs.repL : ∀ (n : Nat) {ds : List D} {vs : List V}, RDs T W ds vs → RDs T W (Dn.repL n ds) (Dn.repL n vs)
  | 0, _, _, _ => .nil
  | n + 1, _, _, h => RDs.append h (RDs.repL n h)
theorem RD.sqT {ds : List D} (h : RD T W (.tup ds) v) : ∃ a vs, v = .ref a ∧ SqT T.K W.H a vs ∧ RDs T W ds vs := by
  unfold RD at h
  obtain ⟨a, vs, h1, h2, h3⟩ := h
  refine ⟨a, vs, h1, ?_, h3⟩
  rcases h2 with ⟨h2, _⟩ | h2
  · exact .inl h2
  · exact .inr h2
theorem RD.int_inv {i : Int} (h : RD T W (.int i) v) : v = .int i := by unfold RD at h; exact h
theorem RD.bl_inv {i : Bool} (h : RD T W (.bl i) v) : v = .bl i := by unfold RD at h; exact h
theorem RD.str_inv {i : List Nat} (h : RD T W (.str i) v) : v = .str ⟨i.toArray⟩ := by unfold RD at h; exact h
theorem RD.non_inv (h : RD T W .non v) : v = .non := by unfold RD at h; exact h
theorem RD.loc_inv {n : Nat} (h : RD T W (.loc n) v) : n < W.S.length ∧ v = .ref (W.ρ n) := by unfold RD at h; exact h
theorem RD.int {i : Int} : RD T W (.int i) (.int i) := by unfold RD; rfl
theorem RD.bl {i : Bool} : RD T W (.bl i) (.bl i) := by unfold RD; rfl
theorem RD.str {i : List Nat} : RD T W (.str i) (.str ⟨i.toArray⟩) := by unfold RD; rfl
theorem RD.non : RD T W .non .non := by unfold RD; rfl
end

/-! ### dicts -/
def keyL : D → Option Key
  | .int i => some (.inl i)
  | .str cs => some (.inr ⟨cs.toArray⟩)
  | _ => none
mutual
def toK : D → NestedKey
  | .non => .none
  | .bl b => .num (if b = true then 1 else 0)
  | .int i => .num i
  | .str cs => .text ⟨cs.toArray⟩
  | .tup ds => .tup (toKs ds)
  | _ => .none
def toKs : List D → List NestedKey
  | [] => []
  | d :: ds => toK d :: toKs ds
end
abbrev KEnt := NestedKey × Addr × Value
/-- a dict's own object, its keys tuples -/
def rawT (P : Program) (w : World) (a : Addr) (xs : List KEnt) (h : Heap) : Prop := ∃ o es ep, h.get? a = some o ∧ o.ExactDict ∧ o.data = .dict es ep ∧ es.toList = xs.map (entryOfKey (nestedKind P w))
def DL (T : Tx) (W : Wd) : List (D × D) → List (Key × V) → Prop
  | [], hk => hk = []
  | (k, v) :: r, hk => ∃ q u t, hk = (q, u) :: t ∧ keyL k = some q ∧ RD T W v u ∧ DL T W r t
def DT (T : Tx) (W : Wd) : List (D × D) → List KEnt → Prop
  | [], xs => xs = []
  | (k, v) :: r, xs => ∃ b val u t, xs = (toK k, b, val) :: t ∧ (∃ ds, k = .tup ds) ∧ D.key 8 k = true ∧ RD T W k (.ref b) ∧ RD T W v u ∧ RelV u val ∧ DT T W r t
theorem DL.x1 {T : Tx} {W W' : Wd} (e : Ext1 W W') : ∀ {kvs : List (D × D)} {hk : List (Key × V)}, DL T W kvs hk → DL T W' kvs hk
  | [], _, h => h
  | (_, _) :: _, _, ⟨q, u, t, h1, h2, h3, h4⟩ => ⟨q, u, t, h1, h2, h3.x1 e, DL.x1 e h4⟩
theorem DT.x1 {T : Tx} {W W' : Wd} (e : Ext1 W W') : ∀ {kvs : List (D × D)} {xs : List KEnt}, DT T W kvs xs → DT T W' kvs xs
  | [], _, h => h
  | (_, _) :: _, _, ⟨b, val, u, t, h1, h2, h3, h4, h5, h6, h7⟩ => ⟨b, val, u, t, h1, h2, h3, h4.x1 e, h5.x1 e, h6, DT.x1 e h7⟩
/-! ### cells -/
def RC (T : Tx) (W : Wd) : Cell → Addr → Prop
  | .lst ds, a => ∃ vs, W.H a = some (.lst vs) ∧ RDs T W ds vs
  | .frz d, a => RD T W d (.ref a)
  | .dct kvs, a => (∃ hk, W.H a = some (.dK hk) ∧ DL T W kvs hk ∧ (hk.map (·.1)).Nodup) ∨ (∃ xs, W.H a = some (.ext (rawT T.P T.w a xs)) ∧ DT T W kvs xs ∧ (xs.map (·.1)).Nodup ∧ xs.length ≤ sizeLine ∧ (a == sysModules) = false)
  | .obj c fs, a => ∃ dx fvs, W.H a = some (.ins (T.cl c) dx fvs) ∧ fvs.map (·.1) = fs.map (fun p => T.nm p.1) ∧ RDs T W (fs.map (·.2)) (fvs.map (·.2))
structure RelS (T : Tx) (W : Wd) : Prop where
  inj : ∀ n m c c', W.S[n]? = some c → c.mut = true → W.S[m]? = some c' → c'.mut = true → W.ρ n = W.ρ m → n = m
  ok : ∀ n c, W.S[n]? = some c → RC T W c (W.ρ n)
  hid : ∀ a, a ∈ W.hid → (∃ o, W.H a = some o) ∧ ¬ W.cel a
structure RelE (T : Tx) (W : Wd) (env : Env) (σ : L2.St) : Prop where
  len : env.length = σ.length
  at_ : ∀ (i : Nat) (d : D), env[i]? = some (some d) → ∃ v : V, σ[i]? = some (some v) ∧ RD T W d v
theorem RelE.x1 {T : Tx} {W W' : Wd} {env : Env} {σ : L2.St} (h : RelE T W env σ) (e : Ext1 W W') : RelE T W' env σ :=
  ⟨h.len, fun i d hd => let ⟨v, h1, h2⟩ := h.at_ i d hd; ⟨v, h1, h2.x1 e⟩⟩
theorem RelE.x {T : Tx} {W W' : Wd} {env : Env} {σ : L2.St} (h : RelE T W env σ) (e : Ext W W') : RelE T W' env σ :=
  ⟨h.len, fun i d hd => let ⟨v, h1, h2⟩ := h.at_ i d hd; ⟨v, h1, h2.x e⟩⟩
theorem RelE.set {T : Tx} {W : Wd} {env : Env} {σ : L2.St} {d : D} {v : V} (h : RelE T W env σ) (i : Nat) (r : RD T W d v) : RelE T W (env.set i (some d)) (σ.set i (some v)) := by
  refine ⟨by simp [h.len], fun j x hx => ?_⟩
  by_cases e : i = j
  · subst e
    by_cases hi : i < env.length
    · rw [List.getElem?_set_self hi] at hx
      have hx' := Option.some.inj (Option.some.inj hx)
      subst hx'
      exact ⟨v, List.getElem?_set_self (by rw [← h.len]; exact hi), r⟩
    · rw [List.getElem?_eq_none (by simpa using hi)] at hx
      cases hx
  · rw [List.getElem?_set_ne e] at hx
    obtain ⟨u, h1, h2⟩ := h.at_ j x hx
    exact ⟨u, by rw [List.getElem?_set_ne e]; exact h1, h2⟩
theorem RelE.wipe {T : Tx} {W : Wd} {env : Env} {σ : L2.St} (h : RelE T W env σ) (i : Nat) : RelE T W (env.set i none) (σ.set i none) := by
  refine ⟨by simp [h.len], fun j x hx => ?_⟩
  by_cases e : i = j
  · subst e
    by_cases hi : i < env.length
    · rw [List.getElem?_set_self hi] at hx
      cases hx
    · rw [List.getElem?_eq_none (by simpa using hi)] at hx
      cases hx
  · rw [List.getElem?_set_ne e] at hx
    obtain ⟨u, h1, h2⟩ := h.at_ j x hx
    exact ⟨u, by rw [List.getElem?_set_ne e]; exact h1, h2⟩
section
variable {T : Tx} {W : Wd}
theorem cel_some (s : RelS T W) {a : Addr} (l : W.cel a) : ∃ o, W.H a = some o := by
  obtain ⟨n, c, h, hm, rfl⟩ := l
  have q := s.ok n c h
  cases c with
  | lst ds => obtain ⟨vs, e, _⟩ := q; exact ⟨_, e⟩
  | dct kvs =>
    rcases q with ⟨hk, e, _⟩ | ⟨xs, e, _⟩
    · exact ⟨_, e⟩
    · exact ⟨_, e⟩
  | obj c fs => obtain ⟨dx, fvs, e, _⟩ := q; exact ⟨_, e⟩
  | frz d => cases hm
theorem not_live_new (s : RelS T W) {p : Addr} (n : W.H p = none) : ¬ W.live p := fun l => by
  obtain ⟨o, e⟩ : ∃ o, W.H p = some o := by
    rcases l with l | l
    · exact cel_some s l
    · exact (s.hid p l).1
  rw [n] at e
  cases e
theorem RC.x1 {W' : Wd} {c : Cell} {a : Addr} (h : RC T W c a) (e : Ext1 W W') (ha : c.mut = true → W'.H a = W.H a) : RC T W' c a := by
  cases c with
  | lst ds => obtain ⟨vs, h1, h2⟩ := h; exact ⟨vs, (ha rfl).trans h1, h2.x1 e⟩
  | frz d => exact RD.x1 (d := d) h e
  | dct kvs =>
    rcases h with ⟨hk, h1, h2, h3⟩ | ⟨xs, h1, h2, h3, h4⟩
    · exact .inl ⟨hk, (ha rfl).trans h1, h2.x1 e, h3⟩
    · exact .inr ⟨xs, (ha rfl).trans h1, h2.x1 e, h3, h4⟩
  | obj c fs => obtain ⟨dx, fvs, h1, h2, h3⟩ := h; exact ⟨dx, fvs, (ha rfl).trans h1, h2, h3.x1 e⟩
theorem RC.x {W' : Wd} {c : Cell} {a : Addr} (h : RC T W c a) (e : Ext W W') (ha : c.mut = true → W'.H a = W.H a) : RC T W' c a := h.x1 e.toExt1 ha

/-! ### how the world goes on -/
/-- a new object, no cell -/
def Wd.add (W : Wd) (p : Addr) (o : HO) : Wd := ⟨upd W.H p o, W.ρ, W.S, W.hid⟩
theorem ext_addS {p : Addr} {o : HO} (s : RelS T W) (n : W.H p = none) : Ext W (W.add p o) :=
  ⟨⟨Nat.le_refl _, fun _ _ => rfl, fun a x h l => ⟨by show upd W.H p o a = _; rw [upd_ne (ne_of_none h n)]; exact h, l⟩⟩, rfl, fun a h => by
    obtain ⟨⟨x, q⟩, _⟩ := s.hid a h
    show upd W.H p o a = _
    rw [upd_ne (ne_of_none q n)]⟩
theorem rel_add {p : Addr} {o : HO} (s : RelS T W) (n : W.H p = none) : RelS T (W.add p o) := by
  refine ⟨s.inj, fun k c h => (s.ok k c h).x (ext_addS s n) fun hm => ?_, fun a h => ?_⟩
  · obtain ⟨x, e⟩ := cel_some s ⟨k, c, h, hm, rfl⟩
    show upd W.H p o (W.ρ k) = _
    rw [upd_ne (ne_of_none e n)]
  · obtain ⟨⟨x, q⟩, l⟩ := s.hid a h
    exact ⟨⟨x, by show upd W.H p o a = _; rw [upd_ne (ne_of_none q n)]; exact q⟩, l⟩
theorem rd_tup {p : Addr} {ds : List D} {vs : List V} (s : RelS T W) (n : W.H p = none) (r : RDs T W ds vs) : RD T (W.add p (.tup vs)) (.tup ds) (.ref p) := by
  unfold RD
  exact ⟨p, vs, rfl, .inl ⟨.inl upd_same, not_live_new s n⟩, r.x (ext_addS s n)⟩
theorem rd_lst {p : Addr} {ds : List D} {vs : List V} (s : RelS T W) (n : W.H p = none) (r : RDs T W ds vs) : RD T (W.add p (.lst vs)) (.lst ds) (.ref p) := by
  unfold RD
  exact ⟨p, vs, rfl, upd_same, not_live_new s n, r.x (ext_addS s n)⟩
/-- a new cell -/
def Wd.cell (W : Wd) (p : Addr) (o : HO) (c : Cell) : Wd := ⟨upd W.H p o, fun n => if n = W.S.length then p else W.ρ n, W.S ++ [c], W.hid⟩
theorem get_snoc {α : Type} {l : List α} {x c : α} {n : Nat} (h : (l ++ [x])[n]? = some c) : (n < l.length ∧ l[n]? = some c) ∨ (n = l.length ∧ c = x) := by
  by_cases hn : n < l.length
  · rw [List.getElem?_append_left hn] at h
    exact .inl ⟨hn, h⟩
  · rw [List.getElem?_append_right (by omega)] at h
    by_cases h0 : n - l.length = 0
    · rw [h0] at h
      simp at h
      exact .inr ⟨by omega, h.symm⟩
    · rw [List.getElem?_eq_none (by simp; omega)] at h
      cases h
theorem cell_cel {p : Addr} {o : HO} {c : Cell} {a : Addr} (h : (W.cell p o c).cel a) : W.cel a ∨ a = p := by
  obtain ⟨k, c', h1, h2, h3⟩ := h
  have h3' : (if k = W.S.length then p else W.ρ k) = a := h3
  rcases get_snoc h1 with ⟨hk, h1⟩ | ⟨hk, h1⟩
  · rw [if_neg (by omega)] at h3'
    exact .inl ⟨k, c', h1, h2, h3'⟩
  · rw [if_pos hk] at h3'
    exact .inr h3'.symm
theorem ext_cell {p : Addr} {o : HO} {c : Cell} (s : RelS T W) (n : W.H p = none) : Ext W (W.cell p o c) := by
  refine ⟨⟨by show _ ≤ (W.S ++ [c]).length; simp, fun k hk => ?_, fun a x h l => ⟨?_, fun l' => ?_⟩⟩, rfl, fun a h => ?_⟩
  · show (if k = W.S.length then p else W.ρ k) = _
    rw [if_neg (by omega)]
  · show upd W.H p o a = _
    rw [upd_ne (ne_of_none h n)]
    exact h
  · rcases l' with l' | l'
    · rcases cell_cel l' with l' | l'
      · exact l (.inl l')
      · rw [l', n] at h
        cases h
    · exact l (.inr l')
  · obtain ⟨⟨x, q⟩, _⟩ := s.hid a h
    show upd W.H p o a = _
    rw [upd_ne (ne_of_none q n)]
theorem rel_cell {p : Addr} {o : HO} {c : Cell} (s : RelS T W) (n : W.H p = none) (hc : RC T (W.cell p o c) c p) : RelS T (W.cell p o c) := by
  have old : ∀ {k : Nat} {c' : Cell}, W.S[k]? = some c' → c'.mut = true → W.ρ k ≠ p := fun {k c'} h hm e => by
    obtain ⟨x, q⟩ := cel_some s ⟨k, c', h, hm, rfl⟩
    rw [e, n] at q
    cases q
  refine ⟨fun k m c1 c2 h1 m1 h2 m2 e => ?_, fun k c' h => ?_, fun a h => ?_⟩
  · have e' : (if k = W.S.length then p else W.ρ k) = (if m = W.S.length then p else W.ρ m) := e
    rcases get_snoc h1 with ⟨hk, h1⟩ | ⟨hk, h1⟩
    · rw [if_neg (by omega)] at e'
      rcases get_snoc h2 with ⟨hk2, h2⟩ | ⟨hk2, h2⟩
      · rw [if_neg (by omega)] at e'
        exact s.inj k m c1 c2 h1 m1 h2 m2 e'
      · rw [if_pos hk2] at e'
        exact absurd e' (old h1 m1)
    · rw [if_pos hk] at e'
      rcases get_snoc h2 with ⟨hk2, h2⟩ | ⟨hk2, h2⟩
      · rw [if_neg (by omega)] at e'
        exact absurd e'.symm (old h2 m2)
      · omega
  · show RC T (W.cell p o c) c' (if k = W.S.length then p else W.ρ k)
    rcases get_snoc h with ⟨hk, h⟩ | ⟨hk, h⟩
    · rw [if_neg (by omega)]
      refine (s.ok k c' h).x (ext_cell s n) fun hm => ?_
      obtain ⟨x, e⟩ := cel_some s ⟨k, c', h, hm, rfl⟩
      show upd W.H p o (W.ρ k) = _
      rw [upd_ne (ne_of_none e n)]
    · rw [if_pos hk, h]
      exact hc
  · obtain ⟨⟨x, q⟩, l⟩ := s.hid a h
    refine ⟨⟨x, by show upd W.H p o a = _; rw [upd_ne (ne_of_none q n)]; exact q⟩, fun l' => ?_⟩
    rcases cell_cel l' with l' | l'
    · exact l l'
    · rw [l', n] at q
      cases q
theorem rd_cell {p : Addr} {o : HO} {c : Cell} : RD T (W.cell p o c) (.loc W.S.length) (.ref p) := by
  unfold RD
  refine ⟨by show _ < (W.S ++ [c]).length; simp, ?_⟩
  show V.ref p = .ref (if W.S.length = W.S.length then p else W.ρ W.S.length)
  rw [if_pos rfl]
/-- a cell is written -/
def Wd.put (W : Wd) (n : Nat) (o : HO) (c : Cell) : Wd := ⟨upd W.H (W.ρ n) o, W.ρ, W.S.set n c, W.hid⟩
theorem put_cel {n : Nat} {o : HO} {c c0 : Cell} {a : Addr} (h0 : W.S[n]? = some c0) (m0 : c0.mut = true) (h : (W.put n o c).cel a) : W.cel a := by
  obtain ⟨k, c', h1, h2, h3⟩ := h
  have h3' : W.ρ k = a := h3
  by_cases e : n = k
  · subst e
    exact ⟨n, c0, h0, m0, h3'⟩
  · have h1' : (W.S.set n c)[k]? = some c' := h1
    rw [List.getElem?_set_ne e] at h1'
    exact ⟨k, c', h1', h2, h3'⟩
theorem ext_put {n : Nat} {o : HO} {c c0 : Cell} (s : RelS T W) (h0 : W.S[n]? = some c0) (m0 : c0.mut = true) : Ext W (W.put n o c) := by
  refine ⟨⟨by show _ ≤ (W.S.set n c).length; simp, fun _ _ => rfl, fun a x h l => ⟨?_, fun l' => ?_⟩⟩, rfl, fun a h => ?_⟩
  · show upd W.H (W.ρ n) o a = _
    rw [upd_ne (fun e => l (.inl ⟨n, c0, h0, m0, e.symm⟩))]
    exact h
  · rcases l' with l' | l'
    · exact l (.inl (put_cel h0 m0 l'))
    · exact l (.inr l')
  · obtain ⟨_, l⟩ := s.hid a h
    show upd W.H (W.ρ n) o a = _
    rw [upd_ne (fun e => l ⟨n, c0, h0, m0, e.symm⟩)]
theorem rel_put {n : Nat} {o : HO} {c c0 : Cell} (s : RelS T W) (h0 : W.S[n]? = some c0) (m0 : c0.mut = true) (hc : RC T (W.put n o c) c (W.ρ n)) : RelS T (W.put n o c) := by
  have hn : n < W.S.length := (List.getElem?_eq_some_iff.mp h0).1
  have at_ : ∀ {k : Nat} {c' : Cell}, (W.S.set n c)[k]? = some c' → c'.mut = true → ∃ c'', W.S[k]? = some c'' ∧ c''.mut = true := fun {k c'} h hm => by
    by_cases e : n = k
    · subst e
      exact ⟨c0, h0, m0⟩
    · rw [List.getElem?_set_ne e] at h
      exact ⟨c', h, hm⟩
  refine ⟨fun k m c1 c2 h1 m1 h2 m2 e => ?_, fun k c' h => ?_, fun a h => ?_⟩
  · obtain ⟨d1, q1, p1⟩ := at_ h1 m1
    obtain ⟨d2, q2, p2⟩ := at_ h2 m2
    exact s.inj k m d1 d2 q1 p1 q2 p2 e
  · have h' : (W.S.set n c)[k]? = some c' := h
    by_cases e : n = k
    · subst e
      rw [List.getElem?_set_self hn] at h'
      cases h'
      exact hc
    · rw [List.getElem?_set_ne e] at h'
      refine (s.ok k c' h').x (ext_put s h0 m0) fun hm => ?_
      show upd W.H (W.ρ n) o (W.ρ k) = _
      rw [upd_ne (fun q => e (s.inj n k c0 c' h0 m0 h' hm q.symm))]
  · obtain ⟨⟨x, q⟩, l⟩ := s.hid a h
    exact ⟨⟨x, by show upd W.H (W.ρ n) o a = _; rw [upd_ne (fun e => l ⟨n, c0, h0, m0, e.symm⟩)]; exact q⟩, fun l' => l (put_cel h0 m0 l')⟩
/-- a cell will not change any more -/
def Wd.frz (W : Wd) (n : Nat) (d : D) : Wd := ⟨W.H, W.ρ, W.S.set n (.frz d), W.hid⟩
theorem frz_at {n k : Nat} {d : D} {c' : Cell} (h : (W.S.set n (.frz d))[k]? = some c') (hm : c'.mut = true) : W.S[k]? = some c' ∧ n ≠ k := by
  by_cases e : n = k
  · subst e
    by_cases hn : n < W.S.length
    · rw [List.getElem?_set_self hn] at h
      cases h
      cases hm
    · rw [List.getElem?_eq_none (by simpa using hn)] at h
      cases h
  · rw [List.getElem?_set_ne e] at h
    exact ⟨h, e⟩
theorem frz_cel {n : Nat} {d : D} {a : Addr} (h : (W.frz n d).cel a) : W.cel a := by
  obtain ⟨k, c', h1, h2, h3⟩ := h
  exact ⟨k, c', (frz_at h1 h2).1, h2, h3⟩
theorem ext_frz {n : Nat} {d : D} : Ext W (W.frz n d) := by
  refine ⟨⟨by show _ ≤ (W.S.set n (.frz d)).length; simp, fun _ _ => rfl, fun a x h l => ⟨h, fun l' => ?_⟩⟩, rfl, fun _ _ => rfl⟩
  rcases l' with l' | l'
  · exact l (.inl (frz_cel l'))
  · exact l (.inr l')
theorem rel_frz {n : Nat} {d : D} (s : RelS T W) (hd : RD T (W.frz n d) d (.ref (W.ρ n))) : RelS T (W.frz n d) := by
  refine ⟨fun k m c1 c2 h1 m1 h2 m2 e => s.inj k m c1 c2 (frz_at h1 m1).1 m1 (frz_at h2 m2).1 m2 e, fun k c' h => ?_, fun a h => ⟨(s.hid a h).1, fun l => (s.hid a h).2 (frz_cel l)⟩⟩
  have h' : (W.S.set n (.frz d))[k]? = some c' := h
  by_cases e : n = k
  · subst e
    by_cases hn : n < W.S.length
    · rw [List.getElem?_set_self hn] at h'
      cases h'
      exact hd
    · rw [List.getElem?_eq_none (by simpa using hn)] at h'
      cases h'
  · rw [List.getElem?_set_ne e] at h'
    exact (s.ok k c' h').x ext_frz fun _ => rfl
/-- a list's cell stops changing -/
theorem frz_lst {n : Nat} {ds : List D} (s : RelS T W) (h : W.S[n]? = some (.lst ds)) : RD T (W.frz n (.lst ds)) (.lst ds) (.ref (W.ρ n)) := by
  obtain ⟨vs, h1, h2⟩ := s.ok n _ h
  unfold RD
  refine ⟨W.ρ n, vs, rfl, h1, fun l => ?_, h2.x ext_frz⟩
  rcases l with ⟨k, c', q1, q2, q3⟩ | l
  · have q3' : W.ρ k = W.ρ n := q3
    obtain ⟨q1', e⟩ := frz_at q1 q2
    exact e (s.inj n k _ c' h rfl q1' q2 q3'.symm)
  · exact (s.hid _ l).2 ⟨n, _, h, rfl, rfl⟩
/-- the list that a datum names -/
theorem RD.sqL {d : D} {v : V} {ds : List D} (s : RelS T W) (h : RD T W d v) (hl : lstOf W.S d = some ds) : ∃ a vs, v = .ref a ∧ W.H a = some (.lst vs) ∧ RDs T W ds vs := by
  cases d with
  | lst es =>
    unfold RD at h
    obtain ⟨a, vs, h1, h2, _, h3⟩ := h
    have e : es = ds := Option.some.inj hl
    subst e
    exact ⟨a, vs, h1, h2, h3⟩
  | loc n =>
    obtain ⟨h1, h2⟩ := h.loc_inv
    have hl : (match W.S[n]? with
      | some (.lst ds) => some ds
      | some (.frz (.lst ds)) => some ds
      | _ => none) = some ds := hl
    split at hl
    · rename_i es he
      have e : es = ds := Option.some.inj hl
      subst e
      obtain ⟨vs, q1, q2⟩ := s.ok n _ he
      exact ⟨W.ρ n, vs, h2, q1, q2⟩
    · rename_i es he
      have e : es = ds := Option.some.inj hl
      subst e
      have q := s.ok n _ he
      unfold RC RD at q
      obtain ⟨a, vs, q1, q2, _, q3⟩ := q
      exact ⟨a, vs, by rw [h2, q1], q2, q3⟩
    · cases hl
  | _ => cases hl
theorem RD.sqA {d : D} {v : V} {ds : List D} (s : RelS T W) (h : RD T W d v) (hl : seqOf W.S d = some ds) (hd : ∀ es, d ≠ .tup es) : ∃ a vs, v = .ref a ∧ SqL T.K W.H a vs ∧ RDs T W ds vs := by
  cases d with
  | tup es => exact absurd rfl (hd es)
  | arg es =>
    unfold RD at h
    obtain ⟨a, vs, h1, h2, h3⟩ := h
    have e : es = ds := Option.some.inj hl
    subst e
    rcases h2 with ⟨h2, _⟩ | h2
    · exact ⟨a, vs, h1, .inl h2, h3⟩
    · exact ⟨a, vs, h1, .inr h2, h3⟩
  | lst es =>
    obtain ⟨a, vs, h1, h2, h3⟩ := RD.sqL s h hl
    exact ⟨a, vs, h1, .of h2, h3⟩
  | loc n =>
    obtain ⟨a, vs, h1, h2, h3⟩ := RD.sqL s h hl
    exact ⟨a, vs, h1, .of h2, h3⟩
  | _ => cases hl
theorem RD.sq {d : D} {v : V} {ds : List D} (s : RelS T W) (h : RD T W d v) (hl : seqOf W.S d = some ds) : ∃ a vs, v = .ref a ∧ (SqL T.K W.H a vs ∨ SqT T.K W.H a vs) ∧ RDs T W ds vs := by
  cases d with
  | tup es =>
    obtain ⟨a, vs, h1, h2, h3⟩ := h.sqT
    have e : es = ds := Option.some.inj hl
    subst e
    exact ⟨a, vs, h1, .inr h2, h3⟩
  | arg es =>
    unfold RD at h
    obtain ⟨a, vs, h1, h2, h3⟩ := h
    have e : es = ds := Option.some.inj hl
    subst e
    rcases h2 with ⟨h2, _⟩ | h2
    · exact ⟨a, vs, h1, .inl (.inl h2), h3⟩
    · exact ⟨a, vs, h1, .inl (.inr h2), h3⟩
  | lst es =>
    obtain ⟨a, vs, h1, h2, h3⟩ := RD.sqL s h hl
    exact ⟨a, vs, h1, .inl (.of h2), h3⟩
  | loc n =>
    obtain ⟨a, vs, h1, h2, h3⟩ := RD.sqL s h hl
    exact ⟨a, vs, h1, .inl (.of h2), h3⟩
  | _ => cases hl
end
end Dn

/-! DnExpr: the readings of expressions are sound over HandS. -/
namespace Dn
open PySem PySem.Spec PyProof.Rows L2

/-! ### readings, lifted -/
def lE (T : Tx) (t : TEx) : L2.TE := fun σ H Q => ∃ (W : Wd) (env : Env), W.H = H ∧ RelS T W ∧ RelE T W env σ ∧ ∃ R : KD, t env W.S R ∧
  ∀ (W' : Wd) (d : D) (v : V), Ext W W' → RelS T W' → RD T W' d v → R d W'.S → Q v W'.H
def lA (T : Tx) (n : Nat) (t : TAr) : L2.TA := fun σ H Q => ∃ (W : Wd) (env : Env), W.H = H ∧ RelS T W ∧ RelE T W env σ ∧ ∃ R : KDs, t env W.S R ∧
  ∀ (W' : Wd) (ds : List D) (vs : List V), Ext W W' → RelS T W' → RDs T W' ds vs → ds.length = n → R ds W'.S → Q vs W'.H
def lT (T : Tx) (t : TTs) : L2.TT := fun σ H Q => ∃ (W : Wd) (env : Env), W.H = H ∧ RelS T W ∧ RelE T W env σ ∧ ∃ R : KB, t env W.S R ∧
  ∀ (W' : Wd) (b : Bool), Ext W W' → RelS T W' → R b W'.S → Q b W'.H
def lO (T : Tx) (t : TOp) : L2.TO := fun σ H Q => ∃ (W : Wd) (env : Env), W.H = H ∧ RelS T W ∧ RelE T W env σ ∧ ∃ R : Option Int → Sto → Prop, t env W.S R ∧
  ∀ (W' : Wd) (o : Option Int), Ext W W' → RelS T W' → R o W'.S → Q o W'.H
section
variable {X : Cx} {T : Tx} {σ : L2.St} {H : Hp} {W : Wd} {env : Env} {e : Expr} {ex : TEx}
theorem pe_imp {e : Expr} {t t' : L2.TE} (h : PE X e t) (k : ∀ σ H Q, t' σ H Q → t σ H Q) : PE X e t' := ⟨fun pins s σ H Q I q => h.run pins s σ H Q I (k σ H Q q)⟩
theorem pa_imp {es : List Expr} {t t' : L2.TA} (h : PA X es t) (k : ∀ σ H Q, t' σ H Q → t σ H Q) : PA X es t' := ⟨fun pos pins s σ H Q I q => h.run pos pins s σ H Q I (k σ H Q q)⟩
theorem pt_imp {e : Expr} {t t' : L2.TT} (h : PT X e t) (k : ∀ σ H Q, t' σ H Q → t σ H Q) : PT X e t' := ⟨fun pins s σ H Q I q => h.run pins s σ H Q I (k σ H Q q)⟩
theorem po_imp {e : Option Expr} {t t' : L2.TO} (h : PO X e t) (k : ∀ σ H Q, t' σ H Q → t σ H Q) : PO X e t' := ⟨fun pins s σ H Q I q => h.run pins s σ H Q I (k σ H Q q)⟩
theorem ps_imp {e : Stmt} {t t' : L2.TS} (h : PS X e t) (k : ∀ Z σ H, t' Z σ H → t Z σ H) : PS X e t' := ⟨fun pins s σ H Z I q => h.run pins s σ H Z I (k Z σ H q)⟩
theorem pss_imp {e : List Stmt} {t t' : L2.TS} (h : PSs X e t) (k : ∀ Z σ H, t' Z σ H → t Z σ H) : PSs X e t' := ⟨fun pins s σ H Z I q => h.run pins s σ H Z I (k Z σ H q)⟩
/-- in a world: what an expression asks -/
theorem lE.go {t : TEx} {R : KD} {Q : VK} (s : RelS T W) (r : RelE T W env σ) (h : t env W.S R)
    (k : ∀ (W' : Wd) (d : D) (v : V), Ext W W' → RelS T W' → RelE T W' env σ → RD T W' d v → R d W'.S → Q v W'.H) : lE T t σ W.H Q :=
  ⟨W, env, rfl, s, r, R, h, fun W' d v e s' hd q => k W' d v e s' (r.x e) hd q⟩
theorem lA.go {t : TAr} {n : Nat} {R : KDs} {Q : List V → Hp → Prop} (s : RelS T W) (r : RelE T W env σ) (h : t env W.S R)
    (k : ∀ (W' : Wd) (ds : List D) (vs : List V), Ext W W' → RelS T W' → RelE T W' env σ → RDs T W' ds vs → ds.length = n → R ds W'.S → Q vs W'.H) : lA T n t σ W.H Q :=
  ⟨W, env, rfl, s, r, R, h, fun W' d v e s' hd hn q => k W' d v e s' (r.x e) hd hn q⟩
theorem lT.go {t : TTs} {R : KB} {Q : Bool → Hp → Prop} (s : RelS T W) (r : RelE T W env σ) (h : t env W.S R)
    (k : ∀ (W' : Wd) (b : Bool), Ext W W' → RelS T W' → RelE T W' env σ → R b W'.S → Q b W'.H) : lT T t σ W.H Q :=
  ⟨W, env, rfl, s, r, R, h, fun W' d e s' q => k W' d e s' (r.x e) q⟩
theorem lO.go {t : TOp} {R : Option Int → Sto → Prop} {Q : Option Int → Hp → Prop} (s : RelS T W) (r : RelE T W env σ) (h : t env W.S R)
    (k : ∀ (W' : Wd) (b : Option Int), Ext W W' → RelS T W' → RelE T W' env σ → R b W'.S → Q b W'.H) : lO T t σ W.H Q :=
  ⟨W, env, rfl, s, r, R, h, fun W' d e s' q => k W' d e s' (r.x e) q⟩
/-- what follows a value in a world -/
abbrev Then (T : Tx) (W : Wd) (R : KD) (Q : VK) : Prop := ∀ (W' : Wd) (d : D) (v : V), Ext W W' → RelS T W' → RD T W' d v → R d W'.S → Q v W'.H
theorem Then.now {R : KD} {Q : VK} (k : Then T W R Q) (s : RelS T W) {d : D} {v : V} (r : RD T W d v) (h : R d W.S) : Q v W.H := k W d v (.refl W) s r h
theorem Then.tup {R : KD} {Q : VK} (k : Then T W R Q) (s : RelS T W) {ds : List D} {vs : List V} (r : RDs T W ds vs) (h : R (.tup ds) W.S) : ∀ p, W.H p = none → Q (.ref p) (upd W.H p (.tup vs)) :=
  fun p n => k (W.add p (.tup vs)) _ _ (ext_addS s n) (rel_add s n) (rd_tup s n r) h
theorem Then.lst {R : KD} {Q : VK} (k : Then T W R Q) (s : RelS T W) {ds : List D} {vs : List V} (r : RDs T W ds vs) (h : R (.lst ds) W.S) : ∀ p, W.H p = none → Q (.ref p) (upd W.H p (.lst vs)) :=
  fun p n => k (W.add p (.lst vs)) _ _ (ext_addS s n) (rel_add s n) (rd_lst s n r) h
theorem Then.cell {R : KD} {Q : VK} (k : Then T W R Q) (s : RelS T W) {ds : List D} {vs : List V} (r : RDs T W ds vs) (h : R (.loc W.S.length) (W.S ++ [.lst ds])) : ∀ p, W.H p = none → Q (.ref p) (upd W.H p (.lst vs)) :=
  fun p n => k (W.cell p (.lst vs) (.lst ds)) _ _ (ext_cell s n) (rel_cell s n ⟨vs, upd_same, r.x (ext_cell s n)⟩) rd_cell h
theorem Then.x {R : KD} {Q : VK} {W1 : Wd} (k : Then T W R Q) (e : Ext W W1) : Then T W1 R Q := fun W' d v e' s' r h => k W' d v (e.trans e') s' r h

/-! ### names, constants, arguments, displays -/
theorem de_vr (i : Nat) {x : Str} {pos : Pos} (hN : X.N[i]? = some x) (hv : Vis X.env.scope x) (hd : (x == ("__debug__" : Str)) = false := by decide) (hcd : (x == ("__classdict__" : Str)) = false := by decide) : PE X (.Name x pos) (lE T (vr i)) := by
  refine pe_imp (pe_var hN hv hd hcd) fun σ H Q ⟨W, env, hW, s, r, R, h, k⟩ => ?_
  subst hW
  unfold vr at h
  split at h
  · rename_i d hd
    obtain ⟨v, h1, h2⟩ := r.at_ i d hd
    exact ⟨v, h1, Then.now k s h2 h⟩
  · exact h.elim
theorem de_vrz (i : Nat) {x : Str} {pos : Pos} (hN : X.N[i]? = some x) (hv : Vis X.env.scope x) (hd : (x == ("__debug__" : Str)) = false := by decide) (hcd : (x == ("__classdict__" : Str)) = false := by decide) : PE X (.Name x pos) (lE T (vrz i)) := by
  refine pe_imp (pe_var hN hv hd hcd) fun σ H Q ⟨W, env, hW, s, r, R, h, k⟩ => ?_
  subst hW
  unfold vrz at h
  split at h
  · rename_i n hd
    obtain ⟨v, h1, h2⟩ := r.at_ i _ hd
    obtain ⟨h3, rfl⟩ := h2.loc_inv
    refine ⟨_, h1, ?_⟩
    split at h
    · rename_i ds hn
      have q := frz_lst s hn
      exact k (W.frz n (.lst ds)) _ _ ext_frz (rel_frz s q) q h
    · rename_i d hn
      exact Then.now k s (s.ok n _ hn) h
    · exact h.elim
  · rename_i d _ hd
    obtain ⟨v, h1, h2⟩ := r.at_ i d hd
    exact ⟨v, h1, Then.now k s h2 h⟩
  · exact h.elim
theorem de_cst {v : V} {d : D} (h : PE X e (tC v)) (hr : ∀ W, RD T W d v) : PE X e (lE T (cst d)) :=
  pe_imp h fun σ H Q ⟨W, env, hW, s, r, R, h, k⟩ => by
    subst hW
    exact Then.now k s (hr W) h
theorem de_int {i : Int} {j : Nat} {pos : Pos} : PE X (.Constant (.int i) j pos) (lE T (cst (.int i))) := de_cst pe_int fun _ => .int
theorem de_bl {i : Bool} {j : Nat} {pos : Pos} : PE X (.Constant (.bool i) j pos) (lE T (cst (.bl i))) := de_cst pe_bl fun _ => .bl
theorem de_non {j : Nat} {pos : Pos} : PE X (.Constant .none j pos) (lE T (cst .non)) := de_cst pe_non fun _ => .non
theorem de_str {x : Str} (cs : List Nat) {j : Nat} {pos : Pos} (hx : x = ⟨cs.toArray⟩) : PE X (.Constant (.str x) j pos) (lE T (cst (.str cs))) := by
  subst hx
  exact de_cst pe_str fun _ => .str
theorem da_nil : PA X [] (lA T 0 nilA) := pa_imp pa_nil fun σ H Q ⟨W, env, hW, s, r, R, h, k⟩ => by
  subst hW
  exact k W [] [] (.refl W) s .nil rfl h
theorem da_cons {n : Nat} {es : List Expr} {t : TAr} (he : PE X e (lE T ex)) (hr : PA X es (lA T n t)) (hs : starEach (e :: es) X.env = (false, eval e X.env) :: starEach es X.env := by rfl) : PA X (e :: es) (lA T (n + 1) (consA ex t)) :=
  pa_imp (pa_cons he hr hs) fun σ H Q ⟨W, env, hW, s, r, R, h, k⟩ => by
    subst hW
    exact lE.go s r h fun W1 d v e1 s1 r1 hd h1 => lA.go s1 r1 h1 fun W2 ds vs e2 s2 r2 hds hn h2 => k W2 _ _ (e1.trans e2) s2 (.cons (hd.x e2) hds) (by simp [hn]) h2
theorem de_tup {n : Nat} {es : List Expr} {t : TAr} {x1 : Nat} {pos : Pos} (h : PA X es (lA T n t)) (hn : n ≤ 1000 := by decide) : PE X (.Tuple es x1 pos) (lE T (tupD t)) :=
  pe_imp (pe_tup h) fun σ H Q ⟨W, env, hW, s, r, R, h, k⟩ => by
    subst hW
    refine lA.go s r h fun W1 ds vs e1 s1 r1 hd hl h1 => ⟨?_, Then.tup (Then.x k e1) s1 hd h1⟩
    rw [hd.length, hl]
    exact Nat.le_of_lt (small1000 hn)
theorem de_lst {n : Nat} {es : List Expr} {t : TAr} {pos : Pos} (h : PA X es (lA T n t)) (hn : n ≤ 1000 := by decide) : PE X (.List es pos) (lE T (lstD t)) :=
  pe_imp (pe_lst h) fun σ H Q ⟨W, env, hW, s, r, R, h, k⟩ => by
    subst hW
    refine lA.go s r h fun W1 ds vs e1 s1 r1 hd hl h1 => ⟨?_, Then.lst (Then.x k e1) s1 hd h1⟩
    rw [hd.length, hl]
    exact Nat.le_of_lt (small1000 hn)
theorem de_lstC {n : Nat} {es : List Expr} {t : TAr} {pos : Pos} (h : PA X es (lA T n t)) (hn : n ≤ 1000 := by decide) : PE X (.List es pos) (lE T (lstC t)) :=
  pe_imp (pe_lst h) fun σ H Q ⟨W, env, hW, s, r, R, h, k⟩ => by
    subst hW
    refine lA.go s r h fun W1 ds vs e1 s1 r1 hd hl h1 => ⟨?_, Then.cell (Then.x k e1) s1 hd h1⟩
    rw [hd.length, hl]
    exact Nat.le_of_lt (small1000 hn)

/-! ### operators by values -/
/-- o is sound for the rule r -/
def OpOk (T : Tx) (o : Op2) (r : R2) : Prop := ∀ (W : Wd) (x y : D) (v u : V) (R : KD) (Q : VK), RelS T W → RD T W x v → RD T W y u → o x y W.S R → Then T W R Q → r v u W.H Q
theorem de_bop {op : Operator} {o : Op2} {r : R2} {a b : Expr} {ta tb : TEx} {pos : Pos} (ho : OpR X (binaryOp op) r) (k : OpOk T o r) (ha : PE X a (lE T ta)) (hb : PE X b (lE T tb)) : PE X (.BinOp a op b pos) (lE T (bop o ta tb)) :=
  pe_imp (pe_op ho ha hb) fun σ H Q ⟨W, env, hW, s, r, R, h, q⟩ => by
    subst hW
    exact lE.go s r h fun W1 d v e1 s1 r1 hd h1 => lE.go s1 r1 h1 fun W2 d2 v2 e2 s2 r2 hd2 h2 => k W2 _ _ _ _ _ _ s2 (hd.x e2) hd2 h2 (Then.x q (e1.trans e2))
theorem de_cmp {op : CmpOp} {o : Op2} {r : R2} {a b : Expr} {ta tb : TEx} {pos : Pos} (ho : OpR X (compareOp op) r) (k : OpOk T o r) (ha : PE X a (lE T ta)) (hb : PE X b (lE T tb)) (hm : behindInMarks op b = false) : PE X (.Compare a [op] [b] pos) (lE T (bop o ta tb)) :=
  pe_imp (pe_cmpR ho ha hb hm) fun σ H Q ⟨W, env, hW, s, r, R, h, q⟩ => by
    subst hW
    exact lE.go s r h fun W1 d v e1 s1 r1 hd h1 => lE.go s1 r1 h1 fun W2 d2 v2 e2 s2 r2 hd2 h2 => k W2 _ _ _ _ _ _ s2 (hd.x e2) hd2 h2 (Then.x q (e1.trans e2))
theorem OpOk.or1 {o : Op2} {r r' : R2} (h : OpOk T o r) : OpOk T o (fun x y H Q => r x y H Q ∨ r' x y H Q) := fun W x y v u R Q s hx hy q k => .inl (h W x y v u R Q s hx hy q k)
def rAddI : R2 := rI0 fun i j => .int (i + j)
def rAddS : R2 := fun x y H Q => ∃ i j, x = .str i ∧ y = .str j ∧ i.length + j.length ≤ sizeLine ∧ Q (.str (i ++ j)) H
theorem str_app (a b : List Nat) : (⟨a.toArray⟩ : Str) ++ ⟨b.toArray⟩ = ⟨(a ++ b).toArray⟩ := by
  show (⟨a.toArray ++ b.toArray⟩ : Str) = _
  simp
theorem op_addD : OpR X (binaryOp .Add) (fun x y H Q => (rAddI x y H Q ∨ rAddS x y H Q) ∨ (rCatA X.K x y H Q ∨ rCat x y H Q)) := (op_add.or op_add_str).or (op_catA.or op_cat)
theorem addO_ok (K : PySem.W.Frag) (hK : T.K = K) : OpOk T addO (fun x y H Q => (rAddI x y H Q ∨ rAddS x y H Q) ∨ (rCatA K x y H Q ∨ rCat x y H Q)) := by
  intro W x y v u R Q s hx hy h k
  unfold addO at h
  split at h
  · rw [hx.int_inv, hy.int_inv]
    exact .inl (.inl ⟨_, _, rfl, rfl, Then.now k s .int h⟩)
  · rename_i a b
    rw [hx.str_inv, hy.str_inv]
    refine .inl (.inr ⟨_, _, rfl, rfl, by simpa [Str.length] using h.1, ?_⟩)
    rw [str_app]
    exact Then.now k s .str h.2
  · rename_i a b
    obtain ⟨p, vs, rfl, h1, h2⟩ := hx.sqT
    obtain ⟨q, us, rfl, g1, g2⟩ := hy.sqT
    rw [hK] at h1 g1
    refine .inr (.inl ⟨p, q, vs, us, rfl, rfl, h1, g1, ?_, fun e => ?_, fun _ e => ?_, fun _ _ => ?_⟩)
    · rw [h2.length, g2.length]; exact h.1
    · subst e
      have : a = [] := List.eq_nil_of_length_eq_zero (by rw [← h2.length]; rfl)
      subst this
      exact Then.now k s hy (by simpa using h.2)
    · subst e
      have : b = [] := List.eq_nil_of_length_eq_zero (by rw [← g2.length]; rfl)
      subst this
      exact Then.now k s hx (by simpa using h.2)
    · exact Then.tup k s (h2.append g2) h.2
  · split at h
    · rename_i a b ha hb
      obtain ⟨p, vs, rfl, h1, h2⟩ := RD.sqL s hx ha
      obtain ⟨q, us, rfl, g1, g2⟩ := RD.sqL s hy hb
      exact .inr (.inr ⟨p, q, vs, us, rfl, rfl, h1, g1, by rw [h2.length, g2.length]; exact h.1, Then.lst k s (h2.append g2) h.2⟩)
    · exact h.elim
theorem de_add {a b : Expr} {ta tb : TEx} {pos : Pos} (hT : T.K = X.K) (ha : PE X a (lE T ta)) (hb : PE X b (lE T tb)) : PE X (.BinOp a .Add b pos) (lE T (bop addO ta tb)) := de_bop op_addD (addO_ok X.K hT) ha hb
/-- int operators -/
theorem i2_ok {o : Op2} {C : Int → Int → Prop} {g : Int → Int → V} {f : Int → Int → D} (hf : ∀ W i j, RD T W (f i j) (g i j))
    (h : ∀ x y S R, o x y S R → ∃ i j, x = .int i ∧ y = .int j ∧ C i j ∧ R (f i j) S) : OpOk T o (rI C g) := by
  intro W x y v u R Q s hx hy q k
  obtain ⟨i, j, rfl, rfl, c, q⟩ := h x y W.S R q
  exact ⟨i, j, hx.int_inv, hy.int_inv, c, Then.now k s (hf W i j) q⟩
theorem i20_ok {o : Op2} {g : Int → Int → V} {f : Int → Int → D} (hf : ∀ W i j, RD T W (f i j) (g i j))
    (h : ∀ x y S R, o x y S R → ∃ i j, x = .int i ∧ y = .int j ∧ R (f i j) S) : OpOk T o (rI0 g) := by
  intro W x y v u R Q s hx hy q k
  obtain ⟨i, j, rfl, rfl, q2⟩ := h x y W.S R q
  exact ⟨i, j, hx.int_inv, hy.int_inv, Then.now k s (hf W i j) q2⟩
theorem de_sub {a b : Expr} {ta tb : TEx} {pos : Pos} (ha : PE X a (lE T ta)) (hb : PE X b (lE T tb)) : PE X (.BinOp a .Sub b pos) (lE T (bop subO ta tb)) :=
  de_bop op_sub (i20_ok (f := fun i j => .int (i - j)) (fun _ _ _ => .int) fun x y S R h => by
    unfold subO at h
    split at h
    · exact ⟨_, _, rfl, rfl, h⟩
    · exact h.elim) ha hb
theorem de_fdiv {a b : Expr} {ta tb : TEx} {pos : Pos} (ha : PE X a (lE T ta)) (hb : PE X b (lE T tb)) : PE X (.BinOp a .FloorDiv b pos) (lE T (bop fdivO ta tb)) :=
  de_bop op_fdivN (i2_ok (f := fun i j => .int (i.fdiv j)) (fun _ _ _ => .int) fun x y S R h => by
    unfold fdivO at h
    split at h
    · exact ⟨_, _, rfl, rfl, h⟩
    · exact h.elim) ha hb
theorem de_mod {a b : Expr} {ta tb : TEx} {pos : Pos} (ha : PE X a (lE T ta)) (hb : PE X b (lE T tb)) : PE X (.BinOp a .Mod b pos) (lE T (bop modO ta tb)) :=
  de_bop op_modN (i2_ok (f := fun i j => .int (i.fmod j)) (fun _ _ _ => .int) fun x y S R h => by
    unfold modO at h
    split at h
    · exact ⟨_, _, rfl, rfl, h⟩
    · exact h.elim) ha hb
theorem de_pow {a b : Expr} {ta tb : TEx} {pos : Pos} (ha : PE X a (lE T ta)) (hb : PE X b (lE T tb)) : PE X (.BinOp a .Pow b pos) (lE T (bop powO ta tb)) :=
  de_bop op_pow (i2_ok (f := fun i j => .int (i ^ j.toNat)) (fun _ _ _ => .int) fun x y S R h => by
    unfold powO at h
    split at h
    · exact ⟨_, _, rfl, rfl, h⟩
    · exact h.elim) ha hb
theorem de_shl {a b : Expr} {ta tb : TEx} {pos : Pos} (ha : PE X a (lE T ta)) (hb : PE X b (lE T tb)) : PE X (.BinOp a .LShift b pos) (lE T (bop shlO ta tb)) :=
  de_bop op_shl (i2_ok (f := fun i j => .int (i * 2 ^ j.toNat)) (fun _ _ _ => .int) fun x y S R h => by
    unfold shlO at h
    split at h
    · exact ⟨_, _, rfl, rfl, h⟩
    · exact h.elim) ha hb
theorem de_neg {a : Expr} {ta : TEx} {pos : Pos} (ha : PE X a (lE T ta)) : PE X (.UnaryOp .USub a pos) (lE T (negU ta)) :=
  pe_imp (pe_un un_neg ha) fun σ H Q ⟨W, env, hW, s, r, R, h, k⟩ => by
    subst hW
    refine lE.go s r h fun W1 d v e1 s1 r1 hd h1 => ?_
    split at h1
    · exact ⟨_, hd.int_inv, Then.now (Then.x k e1) s1 .int h1⟩
    · exact h1.elim
end
end Dn

/-! DnMul: a tuple times any int. -/
namespace Dn
open PySem PySem.Spec PyProof.Rows L2
section
variable (l : Addr) (items : Array Value) (n : Nat) (dd : Option Addr) (sl : Array (Option Value)) (x : Int) (u : Tok)
theorem mulSame (c0 : (decide (x < -(2 ^ 63)) || decide (x ≥ 2 ^ 63)) = false) (c1 : (items.isEmpty || x == 1) = true) :
    Meets (Builtin.«tuple.__mul__» ⟨[.ref l, .int x u], []⟩) (fun _ R s => s.heap.get? l = some { cls := .type "tuple", dict := dd, data := .seq items n, slots := sl } ∧ R (.ok (.ret (.ref l))) s) :=
  .of_wp fun prog w A R s hq => by
    obtain ⟨hp, g, d, tk, os⟩ := s
    have hl := hq.1
    have h := hq.2
    have ix := AutoSeq1.idx_int
    wp_walk using wpAny_loadPart' hl
    rw [if_neg (show ¬ _ = true by rw [c0]; decide)]
    wp_walk using wpAny_loadPart' hl
    exact ⟨_, rfl, h⟩
theorem mulNone (c0 : (decide (x < -(2 ^ 63)) || decide (x ≥ 2 ^ 63)) = false) (c1 : (items.isEmpty || x == 1) = false) (c2 : x ≤ 0) :
    Meets (Builtin.«tuple.__mul__» ⟨[.ref l, .int x u], []⟩) (fun _ R s => s.heap.get? l = some { cls := .type "tuple", dict := dd, data := .seq items n, slots := sl } ∧
      R (.ok (.ret (Value.ref s.heap.objs.size))) { s with heap := s.heap.push { cls := Value.type "tuple", data := Data.seq #[] } }) :=
  .of_wp fun prog w A R s hq => by
    obtain ⟨hp, g, d, tk, os⟩ := s
    have hl := hq.1
    have h := hq.2
    have ix := AutoSeq1.idx_int
    wp_walk using wpAny_loadPart' hl
    rw [if_neg (show ¬ _ = true by rw [c0]; decide)]
    wp_walk using wpAny_loadPart' hl
    exact ⟨_, rfl, h⟩
end

theorem repL_flat {α : Type} : ∀ (n : Nat) (xs : List α), (List.replicate n xs).flatten = repL n xs
  | 0, _ => rfl
  | n + 1, xs => by
    rw [List.replicate_succ, List.flatten_cons, repL_flat n xs]
    rfl
theorem repL_nil {α : Type} : ∀ n : Nat, repL n ([] : List α) = []
  | 0 => rfl
  | n + 1 => by
    show [] ++ repL n [] = _
    rw [repL_nil n]
    rfl
/-- t * k -/
def rMulT (K : PySem.W.Frag) : R2 := fun x y H Q => ∃ l k xs, x = .ref l ∧ y = .int k ∧ SqT K H l xs ∧ -1000 ≤ k ∧ k ≤ 1000 ∧ xs.length ≤ 1000 ∧
  (repL k.toNat xs = xs → Q (.ref l) H) ∧ ∀ p, H p = none → Q (.ref p) (upd H p (.tup (repL k.toNat xs)))
section
variable {X : Cx}
theorem op_mulT : OpR X (binaryOp .Mult) (rMulT X.K) := by
  intro pins s σ H x y v u Q I rx ry ⟨l, k, xs, ex, ey, hT, hk0, hk, hz, q1, q2⟩
  by_cases h2 : 2 ≤ k ∧ xs ≠ []
  · refine op_repT pins s σ H x y v u Q I rx ry ⟨l, k, xs, ex, ey, hT, h2.2, h2.1, hk, hz, ?_⟩
    rw [repL_flat]
    exact q2
  · subst ex
    subst ey
    cases rx
    obtain ⟨t, rfl⟩ := ry
    obtain ⟨its, r, ⟨⟨cls, dd, data, sl⟩, ho, hc, n, hd⟩, hs⟩ := I.tuple hT
    simp only at hc hd
    subst hc
    subst hd
    have hle : its.length = xs.length := r.length.symm
    have c0 : (decide (k < -(2 ^ 63)) || decide (k ≥ 2 ^ 63)) = false := by
      rw [show decide (k < -(2 ^ 63)) = false from decide_eq_false (by omega), show decide (k ≥ 2 ^ 63) = false from decide_eq_false (by omega)]
      rfl
    have tl : s.TypeIs (.ref l) "tuple" := ⟨_, ho, rfl⟩
    refine wpAny_binaryOp_repeat_ref (T := "tuple") (U := "int") (by decide) tl (fun z => typeIs_int z k t) noFill_tuple_mul F.fills_int_mul F.slot_int_rmul repeat_tuple F.slot_int_index.lookup ?_
    refine call_meets F.slot_int_rmul (typeIs_int s k t) F.entry_int_rmul (F.args_int_rmul_2 _ _) (int_rmul_tuple k t l its.toArray n dd sl) ⟨ho, rfl, tl, ?_⟩
    by_cases c1 : (its.toArray.isEmpty || k == 1) = true
    · refine call_meets F.slot_tuple_mul tl F.entry_tuple_mul (F.args_tuple_mul_2 _ _) (mulSame l its.toArray n dd sl k t c0 c1) ⟨ho, ?_⟩
      refine ⟨.ref l, H, I, rfl, q1 ?_⟩
      rcases Bool.or_eq_true_iff.mp c1 with e | e
      · have e1 : xs = [] := by
          have e2 : its = [] := by simpa using e
          rw [e2] at hle
          exact List.eq_nil_of_length_eq_zero hle.symm
        rw [e1, repL_nil]
      · have e1 : k = 1 := by simpa using e
        subst e1
        show xs ++ [] = xs
        simp
    · have c1 : (its.toArray.isEmpty || k == 1) = false := by simpa using c1
      obtain ⟨c2, c3⟩ := Bool.or_eq_false_iff.mp c1
      have hne : xs ≠ [] := fun e => by
        rw [e] at hle
        have e2 : its = [] := List.eq_nil_of_length_eq_zero hle
        rw [e2] at c2
        cases c2
      have h1 : k ≠ 1 := by simpa using c3
      have hk2 : k ≤ 0 := by
        have : ¬ 2 ≤ k := fun z => h2 ⟨z, hne⟩
        omega
      refine call_meets F.slot_tuple_mul tl F.entry_tuple_mul (F.args_tuple_mul_2 _ _) (mulNone l its.toArray n dd sl k t c0 c1 hk2) ⟨ho, ?_⟩
      have e0 : repL k.toNat xs = [] := by
        rw [show k.toNat = 0 by omega]
        rfl
      rw [e0] at q2
      refine ⟨.ref s.heap.objs.size, _, I.laid (t' := s.toks) (o := .tup []) (fun b ob z => Heap.get?_push_of_some _ z) (Nat.le_refl _) ?_, rfl, q2 _ (I.hok.fresh (Nat.le_refl _))⟩
      exact ⟨Nat.zero_le _, [], .nil, IsTup.new _ _⟩
theorem op_mulD : OpR X (binaryOp .Mult) (fun x y H Q => rI CMul (fun i j => .int (i * j)) x y H Q ∨ (rMulT X.K x y H Q ∨ rRep x y H Q)) := op_mul.or (op_mulT.or op_rep)
theorem mulO_ok {T : Tx} (K : PySem.W.Frag) (hK : T.K = K) : OpOk T mulO (fun x y H Q => rI CMul (fun i j => .int (i * j)) x y H Q ∨ (rMulT K x y H Q ∨ rRep x y H Q)) := by
  intro W x y v u R Q s hx hy h k
  unfold mulO at h
  split at h
  · rename_i a b
    rw [hx.int_inv, hy.int_inv]
    exact .inl ⟨a, b, rfl, rfl, h.1, Then.now k s .int h.2⟩
  · rename_i a b
    obtain ⟨p, vs, rfl, h1, h2⟩ := hx.sqT
    rw [hK] at h1
    rw [hy.int_inv]
    refine .inr (.inl ⟨p, b, vs, rfl, rfl, h1, h.1.1, h.1.2.1, by rw [h2.length]; exact h.1.2.2, fun e => ?_, Then.tup k s (h2.repL _) h.2⟩)
    have e2 : (repL b.toNat a).length = a.length := by rw [← (h2.repL _).length, e, h2.length]
    have e3 : repL b.toNat a = a := by
      cases hb : b.toNat with
      | zero =>
        rw [hb] at e2
        exact (List.eq_nil_of_length_eq_zero e2.symm).symm
      | succ n =>
        rw [hb] at e2
        have e2' : (a ++ repL n a).length = a.length := e2
        rw [List.length_append] at e2'
        have e4 : repL n a = [] := List.eq_nil_of_length_eq_zero (by omega)
        show a ++ repL n a = a
        rw [e4, List.append_nil]
    exact Then.now k s hx (by rw [← e3]; exact h.2)
  · split at h
    · rename_i a ha
      obtain ⟨p, vs, rfl, h1, h2⟩ := RD.sqL s hx ha
      rw [hy.int_inv]
      refine .inr (.inr ⟨p, _, vs, rfl, rfl, h1, h.1.1, h.1.2.1, by rw [h2.length]; exact h.1.2.2, ?_⟩)
      rw [repL_flat]
      exact Then.lst k s (h2.repL _) h.2
    · exact h.elim
  · exact h.elim
theorem de_mul {T : Tx} {a b : Expr} {ta tb : TEx} {pos : Pos} (hT : T.K = X.K) (ha : PE X a (lE T ta)) (hb : PE X b (lE T tb)) : PE X (.BinOp a .Mult b pos) (lE T (bop mulO ta tb)) := de_bop op_mulD (mulO_ok X.K hT) ha hb
end
end Dn

/-! DnCmp: comparisons and tests. -/
namespace Dn
open PySem PySem.Spec PyProof.Rows L2

/-! ### plain data as the library's data -/
mutual
def toP : D → PyData
  | .non => .none
  | .bl b => .bool b
  | .int i => .int i
  | .str cs => .str ⟨cs.toArray⟩
  | .tup ds => .tuple (toPs ds)
  | .lst ds => .list (toPs ds)
  | _ => .none
def toPs : List D → List PyData
  | [] => []
  | d :: ds => toP d :: toPs ds
end
theorem str_eq {a b : List Nat} : ((⟨a.toArray⟩ : Str) = ⟨b.toArray⟩) ↔ a = b := by
  constructor
  · intro h
    injection h with h
    exact congrArg Array.toList h
  · intro h
    rw [h]
theorem str_beq (a b : List Nat) : ((⟨a.toArray⟩ : Str) == ⟨b.toArray⟩) = (a == b) := by
  rw [Bool.eq_iff_iff, beq_iff_eq, beq_iff_eq]
  exact str_eq
theorem strOk_of {cs : List Nat} (h : cs.all (· < 1114112) = true) : PyData.strOk ⟨cs.toArray⟩ = true := by
  unfold PyData.strOk
  simpa using h
mutual
theorem dat_lay : ∀ (n : Nat) (d : D), D.dat n d = true → (toP d).canLay0 = true ∧ (toP d).depth ≤ n
  | n, .non, _ => by simp [toP, PyData.canLay0, PyData.depth]
  | n, .bl _, _ => by simp [toP, PyData.canLay0, PyData.depth]
  | n, .int _, _ => by simp [toP, PyData.canLay0, PyData.depth]
  | n, .str cs, h => by
    have h1 : cs.all (· < 1114112) = true := by
      unfold D.dat at h
      exact h
    simp only [toP, PyData.canLay0, PyData.depth]
    exact ⟨strOk_of h1, Nat.zero_le _⟩
  | 0, .tup _, h => by simp [D.dat] at h
  | 0, .lst _, h => by simp [D.dat] at h
  | n + 1, .tup ds, h => by
    have q := dats_lay n ds (by unfold D.dat at h; exact h)
    simp only [toP, PyData.canLay0, PyData.depth]
    exact ⟨q.1, Nat.succ_le_succ q.2⟩
  | n + 1, .lst ds, h => by
    have q := dats_lay n ds (by unfold D.dat at h; exact h)
    simp only [toP, PyData.canLay0, PyData.depth]
    exact ⟨q.1, Nat.succ_le_succ q.2⟩
  | n, .fn _, h => by cases n <;> simp [D.dat] at h
  | n, .arg _, h => by cases n <;> simp [D.dat] at h
  | n, .ins _ _, h => by cases n <;> simp [D.dat] at h
  | n, .loc _, h => by cases n <;> simp [D.dat] at h
theorem dats_lay : ∀ (n : Nat) (ds : List D), D.dats n ds = true → PyData.canLayAll0 (toPs ds) = true ∧ PyData.depthAll (toPs ds) ≤ n
  | n, [], _ => by simp [toPs, PyData.canLayAll0, PyData.depthAll]
  | n, d :: ds, h => by
    unfold D.dats at h
    obtain ⟨h1, h2⟩ := Bool.and_eq_true_iff.mp h
    have q1 := dat_lay n d h1
    have q2 := dats_lay n ds h2
    simp only [toPs, PyData.canLayAll0, PyData.depthAll, q1.1, q2.1, Bool.and_self, true_and]
    exact Nat.max_le.mpr ⟨q1.2, q2.2⟩
end
theorem dat_shaped {n : Nat} {d : D} (h : D.dat n d = true) (hn : n ≤ 64) : SeqAt.shaped (toP d) = true := by
  obtain ⟨h1, h2⟩ := dat_lay n d h
  unfold SeqAt.shaped
  rw [h1, decide_eq_true (Nat.le_trans h2 hn)]
  rfl
theorem dats_shaped {n : Nat} {ds : List D} (h : D.dats n ds = true) (hn : n < 64) : SeqAt.shaped (.list (toPs ds)) = true := by
  obtain ⟨h1, h2⟩ := dats_lay n ds h
  unfold SeqAt.shaped
  rw [show PyData.canLay0 (.list (toPs ds)) = true by simp only [PyData.canLay0]; exact h1, decide_eq_true (by simp only [PyData.depth]; omega)]
  rfl
mutual
theorem eqv_toP : ∀ (n m : Nat) (x y : D), D.dat n x = true → D.dat m y = true → PyData.eqv (toP x) (toP y) = D.eqv x y
  | n, m, x, y, hx, hy => by
    cases x with
    | tup xs =>
      cases y with
      | tup ys =>
        cases n with
        | zero => simp [D.dat] at hx
        | succ n => cases m with
          | zero => simp [D.dat] at hy
          | succ m =>
            unfold D.dat at hx hy
            simp only [toP, PyData.eqv, D.eqv]
            exact eqvs_toP n m xs ys hx hy
      | fn _ => cases m <;> simp [D.dat] at hy
      | arg _ => cases m <;> simp [D.dat] at hy
      | ins _ _ => cases m <;> simp [D.dat] at hy
      | loc _ => cases m <;> simp [D.dat] at hy
      | _ => simp [toP, PyData.eqv, D.eqv]
    | lst xs =>
      cases y with
      | lst ys =>
        cases n with
        | zero => simp [D.dat] at hx
        | succ n => cases m with
          | zero => simp [D.dat] at hy
          | succ m =>
            unfold D.dat at hx hy
            simp only [toP, PyData.eqv, D.eqv]
            exact eqvs_toP n m xs ys hx hy
      | fn _ => cases m <;> simp [D.dat] at hy
      | arg _ => cases m <;> simp [D.dat] at hy
      | ins _ _ => cases m <;> simp [D.dat] at hy
      | loc _ => cases m <;> simp [D.dat] at hy
      | _ => simp [toP, PyData.eqv, D.eqv]
    | fn _ => cases n <;> simp [D.dat] at hx
    | arg _ => cases n <;> simp [D.dat] at hx
    | ins _ _ => cases n <;> simp [D.dat] at hx
    | loc _ => cases n <;> simp [D.dat] at hx
    | str a =>
      cases y with
      | str b => simp only [toP, PyData.eqv, D.eqv]; exact str_beq a b
      | fn _ => cases m <;> simp [D.dat] at hy
      | arg _ => cases m <;> simp [D.dat] at hy
      | ins _ _ => cases m <;> simp [D.dat] at hy
      | loc _ => cases m <;> simp [D.dat] at hy
      | _ => simp [toP, PyData.eqv, D.eqv]
    | _ =>
      cases y with
      | fn _ => cases m <;> simp [D.dat] at hy
      | arg _ => cases m <;> simp [D.dat] at hy
      | ins _ _ => cases m <;> simp [D.dat] at hy
      | loc _ => cases m <;> simp [D.dat] at hy
      | _ => simp [toP, PyData.eqv, D.eqv]
theorem eqvs_toP : ∀ (n m : Nat) (xs ys : List D), D.dats n xs = true → D.dats m ys = true → PyData.eqvAll (toPs xs) (toPs ys) = D.eqvs xs ys
  | n, m, [], [], _, _ => by simp [toPs, PyData.eqvAll, D.eqvs]
  | n, m, [], _ :: _, _, _ => by simp [toPs, PyData.eqvAll, D.eqvs]
  | n, m, _ :: _, [], _, _ => by simp [toPs, PyData.eqvAll, D.eqvs]
  | n, m, x :: xs, y :: ys, hx, hy => by
    unfold D.dats at hx hy
    obtain ⟨h1, h2⟩ := Bool.and_eq_true_iff.mp hx
    obtain ⟨g1, g2⟩ := Bool.and_eq_true_iff.mp hy
    simp only [toPs, PyData.eqvAll, D.eqvs]
    rw [eqv_toP n m x y h1 g1, eqvs_toP n m xs ys h2 g2]
end
mutual
theorem dat_Dp {T : Tx} {W : Wd} : ∀ (n : Nat) (d : D) (v : V), D.dat n d = true → RD T W d v → Dp T.K W.H v (toP d)
  | n, .non, v, _, r => by rw [r.non_inv]; exact .non
  | n, .bl b, v, _, r => by rw [r.bl_inv]; exact .bl b
  | n, .int i, v, _, r => by rw [r.int_inv]; exact .int i
  | n, .str cs, v, _, r => by rw [r.str_inv]; exact .str _
  | 0, .tup _, v, h, _ => by simp [D.dat] at h
  | 0, .lst _, v, h, _ => by simp [D.dat] at h
  | n + 1, .tup ds, v, h, r => by
    obtain ⟨a, vs, rfl, h1, h2⟩ := r.sqT
    exact .tup h1 (dats_Dp n ds vs (by unfold D.dat at h; exact h) h2)
  | n + 1, .lst ds, v, h, r => by
    unfold RD at r
    obtain ⟨a, vs, rfl, h1, _, h2⟩ := r
    exact .lst (.of h1) (dats_Dp n ds vs (by unfold D.dat at h; exact h) h2)
  | n, .fn _, v, h, _ => by cases n <;> simp [D.dat] at h
  | n, .arg _, v, h, _ => by cases n <;> simp [D.dat] at h
  | n, .ins _ _, v, h, _ => by cases n <;> simp [D.dat] at h
  | n, .loc _, v, h, _ => by cases n <;> simp [D.dat] at h
theorem dats_Dp {T : Tx} {W : Wd} : ∀ (n : Nat) (ds : List D) (vs : List V), D.dats n ds = true → RDs T W ds vs → DpAll T.K W.H vs (toPs ds)
  | n, [], vs, _, r => by rw [r.nil_inv]; exact .nil
  | n, d :: ds, vs, h, r => by
    obtain ⟨v, us, rfl, h1, h2⟩ := r.cons_inv
    unfold D.dats at h
    obtain ⟨g1, g2⟩ := Bool.and_eq_true_iff.mp h
    exact .cons (dat_Dp n d v g1 h1) (dats_Dp n ds us g2 h2)
end
/-- what a name of a list stands for -/
theorem res_Dp {T : Tx} {W : Wd} {n : Nat} {d : D} {v : V} (s : RelS T W) (h : D.dat n (resD W.S d) = true) (r : RD T W d v) : Dp T.K W.H v (toP (resD W.S d)) := by
  cases d with
  | loc m =>
    obtain ⟨h1, h2⟩ := r.loc_inv
    have e : resD W.S (.loc m) = (match W.S[m]? with
      | some (.lst ds) => .lst ds
      | some (.frz d) => d
      | _ => .loc m) := rfl
    rw [e] at h ⊢
    split at h
    · rename_i ds hm
      obtain ⟨vs, q1, q2⟩ := s.ok m _ hm
      cases n with
      | zero => simp [D.dat] at h
      | succ n =>
        rw [h2]
        exact .lst (.of q1) (dats_Dp n ds vs (by unfold D.dat at h; exact h) q2)
    · rename_i d hm
      rw [h2]
      exact dat_Dp n d _ h (s.ok m _ hm)
    · cases n <;> simp [D.dat] at h
  | _ => exact dat_Dp n _ v h r

section
variable {X : Cx} {T : Tx} {W : Wd}
/-- == by the abstract heap -/
def rEqX (K : PySem.W.Frag) : R2 := fun x y H Q => rEq x y H Q ∨ rEqD K x y H Q
theorem eqB_ok {x y : D} {v u : V} {R : KB} (s : RelS T W) (hx : RD T W x v) (hy : RD T W y u) (h : eqB x y W.S R) :
    (∃ b, scal v u = true ∧ decide (v = u) = b ∧ R b W.S) ∨ ∃ p q, Dp T.K W.H v p ∧ Dp T.K W.H u q ∧ SeqAt.shaped p = true ∧ SeqAt.shaped q = true ∧ R (PyData.eqv p q) W.S := by
  unfold eqB at h
  split at h
  · rw [hx.int_inv, hy.int_inv]
    refine .inl ⟨_, rfl, ?_, h⟩
    rw [dec_int, Bool.beq_eq_decide_eq]
  · rw [hx.str_inv, hy.str_inv]
    refine .inl ⟨_, rfl, ?_, h⟩
    rw [dec_str]
    exact decide_eq_decide.mpr str_eq
  · rw [hx.bl_inv, hy.bl_inv]
    refine .inl ⟨_, rfl, ?_, h⟩
    rw [dec_bl, Bool.beq_eq_decide_eq]
  · obtain ⟨⟨h1, h2⟩, h3⟩ := h
    exact .inr ⟨_, _, res_Dp s h1 hx, res_Dp s h2 hy, dat_shaped h1 (by decide), dat_shaped h2 (by decide), by rw [eqv_toP _ _ _ _ h1 h2]; exact h3⟩
theorem op_eqX (hu : X.A.units + 64 < cLine) : OpR X (compareOp .Eq) (rEqX X.K) := op_eq.or (op_eqD hu)
theorem op_neX (hu : X.A.units + 64 < cLine) : OpR X (compareOp .NotEq) (fun x y H Q => rNe x y H Q ∨ rNeD X.K x y H Q) := op_ne.or (op_neD hu)
theorem eqO_ok (K : PySem.W.Frag) (hK : T.K = K) : OpOk T eqO (rEqX K) := by
  intro W x y v u R Q s hx hy h k
  subst hK
  rcases eqB_ok s hx hy h with ⟨b, h1, rfl, h2⟩ | ⟨p, q, h1, h2, h3, h4, h5⟩
  · exact .inl ⟨h1, Then.now k s .bl h2⟩
  · exact .inr ⟨p, q, h1, h2, h3, h4, Then.now k s .bl h5⟩
theorem neO_ok (K : PySem.W.Frag) (hK : T.K = K) : OpOk T neO (fun x y H Q => rNe x y H Q ∨ rNeD K x y H Q) := by
  intro W x y v u R Q s hx hy h k
  subst hK
  rcases eqB_ok s hx hy h with ⟨b, h1, rfl, h2⟩ | ⟨p, q, h1, h2, h3, h4, h5⟩
  · exact .inl ⟨h1, Then.now k s .bl h2⟩
  · exact .inr ⟨p, q, h1, h2, h3, h4, Then.now k s .bl h5⟩
theorem cmpO_ok (p : Int → Int → Bool) : OpOk T (cmpO p) (rI0 fun i j => .bl (p i j)) := by
  refine i20_ok (f := fun i j => .bl (p i j)) (fun _ _ _ => .bl) fun x y S R h => ?_
  unfold cmpO at h
  split at h
  · exact ⟨_, _, rfl, rfl, h⟩
  · exact h.elim
end
end Dn

/-! DnTest: tests, their joining, subscripts, slices. -/
namespace Dn
open PySem PySem.Spec PyProof.Rows L2
section
variable {X : Cx} {T : Tx} {a b c : Expr} {ta tb tc : TEx} {pos : Pos}
theorem de_eq (hT : T.K = X.K) (hu : X.A.units + 64 < cLine) (ha : PE X a (lE T ta)) (hb : PE X b (lE T tb)) : PE X (.Compare a [.Eq] [b] pos) (lE T (bop eqO ta tb)) := de_cmp (op_eqX hu) (eqO_ok X.K hT) ha hb (nomark _)
theorem de_ne (hT : T.K = X.K) (hu : X.A.units + 64 < cLine) (ha : PE X a (lE T ta)) (hb : PE X b (lE T tb)) : PE X (.Compare a [.NotEq] [b] pos) (lE T (bop neO ta tb)) := de_cmp (op_neX hu) (neO_ok X.K hT) ha hb (nomark _)
theorem de_lt (ha : PE X a (lE T ta)) (hb : PE X b (lE T tb)) : PE X (.Compare a [.Lt] [b] pos) (lE T (bop ltO ta tb)) := de_cmp op_lt (cmpO_ok _) ha hb (nomark _)
theorem de_le (ha : PE X a (lE T ta)) (hb : PE X b (lE T tb)) : PE X (.Compare a [.LtE] [b] pos) (lE T (bop leO ta tb)) := de_cmp op_le (cmpO_ok _) ha hb (nomark _)
theorem de_gt (ha : PE X a (lE T ta)) (hb : PE X b (lE T tb)) : PE X (.Compare a [.Gt] [b] pos) (lE T (bop gtO ta tb)) := de_cmp op_gt (cmpO_ok _) ha hb (nomark _)
theorem de_ge (ha : PE X a (lE T ta)) (hb : PE X b (lE T tb)) : PE X (.Compare a [.GtE] [b] pos) (lE T (bop geO ta tb)) := de_cmp op_ge (cmpO_ok _) ha hb (nomark _)
theorem isNB_of {W : Wd} {d : D} {v : V} (r : RD T W d v) : decide (v = .non) = isNB d := by
  cases d with
  | non => rw [r.non_inv]; rfl
  | bl _ => rw [r.bl_inv]; rfl
  | int _ => rw [r.int_inv]; rfl
  | str _ => rw [r.str_inv]; rfl
  | fn _ => unfold RD at r; rw [r]; rfl
  | tup _ => unfold RD at r; obtain ⟨_, _, rfl, _⟩ := r; rfl
  | lst _ => unfold RD at r; obtain ⟨_, _, rfl, _⟩ := r; rfl
  | arg _ => unfold RD at r; obtain ⟨_, _, rfl, _⟩ := r; rfl
  | ins _ _ => unfold RD at r; obtain ⟨_, _, _, rfl, _⟩ := r; rfl
  | loc _ => rw [r.loc_inv.2]; rfl
theorem de_isN {j : Nat} {p : Pos} (ha : PE X a (lE T ta)) : PE X (.Compare a [.Is] [.Constant .none j p] pos) (lE T (isN ta)) :=
  pe_imp (pe_cmp (pc_isN ha)) fun σ H Q ⟨W, env, hW, s, r, R, h, k⟩ => by
    subst hW
    refine lE.go s r h fun W1 d v e1 s1 r1 hd h1 => ?_
    show Q (.bl (decide (v = .non))) W1.H
    rw [isNB_of hd]
    exact Then.now (Then.x k e1) s1 .bl h1
theorem de_isNN {j : Nat} {p : Pos} (ha : PE X a (lE T ta)) : PE X (.Compare a [.IsNot] [.Constant .none j p] pos) (lE T (isNN ta)) :=
  pe_imp (pe_cmp (pc_notN ha)) fun σ H Q ⟨W, env, hW, s, r, R, h, k⟩ => by
    subst hW
    refine lE.go s r h fun W1 d v e1 s1 r1 hd h1 => ?_
    show Q (.bl (!decide (v = .non))) W1.H
    rw [isNB_of hd]
    exact Then.now (Then.x k e1) s1 .bl h1
/-- a < b < c -/
theorem chn_ok {o o' : Op2} {r r' : R2} (k1 : OpOk T o r) (k2 : OpOk T o' r') {σ : L2.St} {H : Hp} {Q : VK} (h : lE T (chn o o' ta tb tc) σ H Q) : tChain r r' (lE T ta) (lE T tb) (lE T tc) σ H Q := by
  obtain ⟨W, env, hW, s, re, R, h, k⟩ := h
  subst hW
  refine lE.go s re h fun W1 d1 v1 e1 s1 r1 hd1 h1 => lE.go s1 r1 h1 fun W2 d2 v2 e2 s2 r2 hd2 h2 => ?_
  refine k1 W2 _ _ _ _ _ _ s2 (hd1.x e2) hd2 h2 fun W3 d3 v3 e3 s3 hd3 h3 => ?_
  split at h3
  · refine ⟨true, hd3.bl_inv, ?_⟩
    simp only [if_true]
    exact lE.go s3 (r2.x e3) h3 fun W4 d4 v4 e4 s4 r4 hd4 h4 => k2 W4 _ _ _ _ _ _ s4 (hd2.x (e3.trans e4)) hd4 h4 (Then.x k (((e1.trans e2).trans e3).trans e4))
  · refine ⟨false, hd3.bl_inv, ?_⟩
    simp only [Bool.false_eq_true, if_false]
    exact Then.now (Then.x k ((e1.trans e2).trans e3)) s3 .bl h3
  · exact h3.elim

/-! ### tests -/
theorem dt_B {e : Expr} {t : TEx} (h : PE X e (lE T t)) (he : ∀ whole, isTrue e X.env whole = (do let v ← whole; standAt e.pos; holding [v] (truthy v)) := by intro _; rfl) : PT X e (lT T (tsB t)) :=
  pt_imp (pt_val h he) fun σ H Q ⟨W, env, hW, s, r, R, h, k⟩ => by
    subst hW
    refine lE.go s r h fun W1 d v e1 s1 r1 hd h1 => ?_
    split at h1
    · exact ⟨_, hd.bl_inv, k W1 _ e1 s1 h1⟩
    · exact h1.elim
/-- a comparison as a test -/
theorem dt_C {op : CmpOp} {o : Op2} {r : R2} (ho : OpR X (compareOp op) r) (k : OpOk T o r) (ha : PE X a (lE T ta)) (hb : PE X b (lE T tb)) (hm : behindInMarks op b = false) : PT X (.Compare a [op] [b] pos) (lT T (tsB (bop o ta tb))) :=
  pt_imp (pt_cmpR ho ha hb hm) fun σ H Q ⟨W, env, hW, s, r, R, h, q⟩ => by
    subst hW
    unfold tTest tOp
    refine lE.go (t := ta) s r h fun W1 d v e1 s1 r1 hd h1 => ?_
    refine lE.go (t := tb) s1 r1 h1 fun W2 d2 v2 e2 s2 r2 hd2 h2 => ?_
    refine k W2 _ _ _ _ _ _ s2 (hd.x e2) hd2 h2 fun W3 d3 v3 e3 s3 hd3 h3 => ?_
    split at h3
    · exact ⟨_, hd3.bl_inv, q W3 _ ((e1.trans e2).trans e3) s3 h3⟩
    · exact h3.elim
theorem dt_eq (hT : T.K = X.K) (hu : X.A.units + 64 < cLine) (ha : PE X a (lE T ta)) (hb : PE X b (lE T tb)) : PT X (.Compare a [.Eq] [b] pos) (lT T (tsB (bop eqO ta tb))) := dt_C (op_eqX hu) (eqO_ok X.K hT) ha hb (nomark _)
theorem dt_ne (hT : T.K = X.K) (hu : X.A.units + 64 < cLine) (ha : PE X a (lE T ta)) (hb : PE X b (lE T tb)) : PT X (.Compare a [.NotEq] [b] pos) (lT T (tsB (bop neO ta tb))) := dt_C (op_neX hu) (neO_ok X.K hT) ha hb (nomark _)
theorem dt_lt (ha : PE X a (lE T ta)) (hb : PE X b (lE T tb)) : PT X (.Compare a [.Lt] [b] pos) (lT T (tsB (bop ltO ta tb))) := dt_C op_lt (cmpO_ok _) ha hb (nomark _)
theorem dt_le (ha : PE X a (lE T ta)) (hb : PE X b (lE T tb)) : PT X (.Compare a [.LtE] [b] pos) (lT T (tsB (bop leO ta tb))) := dt_C op_le (cmpO_ok _) ha hb (nomark _)
theorem dt_gt (ha : PE X a (lE T ta)) (hb : PE X b (lE T tb)) : PT X (.Compare a [.Gt] [b] pos) (lT T (tsB (bop gtO ta tb))) := dt_C op_gt (cmpO_ok _) ha hb (nomark _)
theorem dt_ge (ha : PE X a (lE T ta)) (hb : PE X b (lE T tb)) : PT X (.Compare a [.GtE] [b] pos) (lT T (tsB (bop geO ta tb))) := dt_C op_ge (cmpO_ok _) ha hb (nomark _)
theorem dt_isN {j : Nat} {p : Pos} (ha : PE X a (lE T ta)) : PT X (.Compare a [.Is] [.Constant .none j p] pos) (lT T (tsB (isN ta))) :=
  pt_imp (pt_cmp (pc_isN ha)) fun σ H Q ⟨W, env, hW, s, r, R, h, k⟩ => by
    subst hW
    refine lE.go s r h fun W1 d v e1 s1 r1 hd h1 => ⟨isNB d, ?_, k W1 _ e1 s1 h1⟩
    rw [isNB_of hd]
theorem dt_isNN {j : Nat} {p : Pos} (ha : PE X a (lE T ta)) : PT X (.Compare a [.IsNot] [.Constant .none j p] pos) (lT T (tsB (isNN ta))) :=
  pt_imp (pt_cmp (pc_notN ha)) fun σ H Q ⟨W, env, hW, s, r, R, h, k⟩ => by
    subst hW
    refine lE.go s r h fun W1 d v e1 s1 r1 hd h1 => ⟨!isNB d, ?_, k W1 _ e1 s1 h1⟩
    rw [isNB_of hd]
theorem trD_ok {K : PySem.W.Frag} {W : Wd} {d : D} {v : V} {k : Bool} (hK : T.K = K) (s : RelS T W) (r : RD T W d v) (h : trD W.S d = some k) : TruV K v W.H k := by
  subst hK
  cases d with
  | non => rw [r.non_inv]; exact (Option.some.inj h).symm
  | bl b => rw [r.bl_inv]; exact (Option.some.inj h).symm
  | int i => rw [r.int_inv]; exact (Option.some.inj h).symm
  | tup ds =>
    obtain ⟨a, vs, rfl, h1, h2⟩ := r.sqT
    refine .inr (.inl ⟨vs, h1, ?_⟩)
    rw [← Option.some.inj h]
    have e := h2.length
    cases ds <;> cases vs <;> first | rfl | simp at e
  | lst ds =>
    unfold RD at r
    obtain ⟨a, vs, rfl, h1, _, h2⟩ := r
    refine .inl ⟨vs, .of h1, ?_⟩
    rw [← Option.some.inj h]
    have e := h2.length
    cases ds <;> cases vs <;> first | rfl | simp at e
  | loc n =>
    obtain ⟨_, rfl⟩ := r.loc_inv
    have h : (match W.S[n]? with
      | some (.lst ds) => some !ds.isEmpty
      | some (.frz (.lst ds)) => some !ds.isEmpty
      | _ => none) = some k := h
    split at h
    · rename_i ds hn
      obtain ⟨vs, h1, h2⟩ := s.ok n _ hn
      refine .inl ⟨vs, .of h1, ?_⟩
      rw [← Option.some.inj h]
      have e := h2.length
      cases ds <;> cases vs <;> first | rfl | simp at e
    · rename_i ds hn
      have q := s.ok n _ hn
      unfold RC RD at q
      obtain ⟨a, vs, q0, h1, _, h2⟩ := q
      refine .inl ⟨vs, .of (by rw [V.ref.inj q0]; exact h1), ?_⟩
      rw [← Option.some.inj h]
      have e := h2.length
      cases ds <;> cases vs <;> first | rfl | simp at e
    · cases h
  | _ => cases h
/-- by its truth -/
theorem dt_T (hT : T.K = X.K) (ha : PE X a (lE T ta)) (he : ∀ whole, isTrue a X.env whole = (do let v ← whole; standAt a.pos; holding [v] (truthy v)) := by intro _; rfl) : PT X a (lT T (tsT ta)) :=
  pt_imp (pt_truth ha he) fun σ H Q ⟨W, env, hW, s, r, R, h, k⟩ => by
    subst hW
    refine lE.go (t := ta) s r h fun W1 d v e1 s1 r1 hd h1 => ?_
    split at h1
    · rename_i b hb
      exact ⟨b, trD_ok hT s1 hd hb, k W1 _ e1 s1 h1⟩
    · exact h1.elim
theorem dw_and1 {tA : TTs} (ha : PT X a (lT T tA)) : PW X (.BoolOp .And [a] pos) (lT T tA) := pw_and1 ha
theorem dw_or1 {tA : TTs} (ha : PT X a (lT T tA)) : PW X (.BoolOp .Or [a] pos) (lT T tA) := pw_or1 ha
theorem pw_imp {e : Expr} {t t' : L2.TT} (h : PW X e t) (k : ∀ σ H Q, t' σ H Q → t σ H Q) : PW X e t' := ⟨fun wh pins s σ H Q I q => h.run wh pins s σ H Q I (k σ H Q q)⟩
theorem dw_and {tA tB : TTs} {rest : List Expr} (ha : PT X a (lT T tA)) (hb : PW X (.BoolOp .And (b :: rest) pos) (lT T tB)) : PW X (.BoolOp .And (a :: b :: rest) pos) (lT T (andT tA tB)) :=
  pw_imp (pw_and ha hb) fun σ H Q ⟨W, env, hW, s, r, R, h, k⟩ => by
    subst hW
    refine lT.go s r h fun W1 c e1 s1 r1 h1 => ?_
    cases c with
    | true => simp only [if_true]; exact lT.go s1 r1 h1 fun W2 c2 e2 s2 r2 h2 => k W2 c2 (e1.trans e2) s2 h2
    | false => simp only [Bool.false_eq_true, if_false]; exact k W1 false e1 s1 h1
theorem dw_or {tA tB : TTs} {rest : List Expr} (ha : PT X a (lT T tA)) (hb : PW X (.BoolOp .Or (b :: rest) pos) (lT T tB)) : PW X (.BoolOp .Or (a :: b :: rest) pos) (lT T (orT tA tB)) :=
  pw_imp (pw_or ha hb) fun σ H Q ⟨W, env, hW, s, r, R, h, k⟩ => by
    subst hW
    refine lT.go s r h fun W1 c e1 s1 r1 h1 => ?_
    cases c with
    | true => simp only [if_true]; exact k W1 true e1 s1 h1
    | false => simp only [Bool.false_eq_true, if_false]; exact lT.go s1 r1 h1 fun W2 c2 e2 s2 r2 h2 => k W2 c2 (e1.trans e2) s2 h2
theorem dt_not {tA : TTs} (ha : PT X a (lT T tA)) : PT X (.UnaryOp .Not a pos) (lT T (notT tA)) :=
  pt_imp (pt_not ha) fun σ H Q ⟨W, env, hW, s, r, R, h, k⟩ => by
    subst hW
    exact lT.go s r h fun W1 c e1 s1 r1 h1 => k W1 _ e1 s1 h1
/-! ### and, or as values -/
theorem de_one {op : BoolOp} {t : TEx} (h : PE X a (lE T t)) : PE X (.BoolOp op [a] pos) (lE T t) := pe_one h
theorem de_and {rest : List Expr} (ha : PE X a (lE T ta)) (hb : PE X (.BoolOp .And (b :: rest) pos) (lE T tb)) : PE X (.BoolOp .And (a :: b :: rest) pos) (lE T (andV ta tb)) :=
  pe_imp (pe_and ha hb) fun σ H Q ⟨W, env, hW, s, r, R, h, k⟩ => by
    subst hW
    refine lE.go s r h fun W1 d v e1 s1 r1 hd h1 => ?_
    split at h1
    · refine ⟨true, hd.bl_inv, ?_⟩
      simp only [if_true]
      exact lE.go s1 r1 h1 fun W2 d2 v2 e2 s2 r2 hd2 h2 => k W2 _ _ (e1.trans e2) s2 hd2 h2
    · refine ⟨false, hd.bl_inv, ?_⟩
      simp only [Bool.false_eq_true, if_false]
      exact Then.now (Then.x k e1) s1 .bl h1
    · exact h1.elim
theorem de_or {rest : List Expr} (ha : PE X a (lE T ta)) (hb : PE X (.BoolOp .Or (b :: rest) pos) (lE T tb)) : PE X (.BoolOp .Or (a :: b :: rest) pos) (lE T (orV ta tb)) :=
  pe_imp (pe_or ha hb) fun σ H Q ⟨W, env, hW, s, r, R, h, k⟩ => by
    subst hW
    refine lE.go s r h fun W1 d v e1 s1 r1 hd h1 => ?_
    split at h1
    · refine ⟨true, hd.bl_inv, ?_⟩
      simp only [if_true]
      exact Then.now (Then.x k e1) s1 .bl h1
    · refine ⟨false, hd.bl_inv, ?_⟩
      simp only [Bool.false_eq_true, if_false]
      exact lE.go s1 r1 h1 fun W2 d2 v2 e2 s2 r2 hd2 h2 => k W2 _ _ (e1.trans e2) s2 hd2 h2
    · exact h1.elim
theorem de_ite {tA : TTs} (hc : PT X c (lT T tA)) (ha : PE X a (lE T ta)) (hb : PE X b (lE T tb)) : PE X (.IfExp c a b pos) (lE T (iteV tA ta tb)) :=
  pe_imp (pe_ifExp hc ha hb) fun σ H Q ⟨W, env, hW, s, r, R, h, k⟩ => by
    subst hW
    refine lT.go s r h fun W1 c e1 s1 r1 h1 => ?_
    cases c with
    | true => simp only [if_true]; exact lE.go s1 r1 h1 fun W2 d2 v2 e2 s2 r2 hd2 h2 => k W2 _ _ (e1.trans e2) s2 hd2 h2
    | false => simp only [Bool.false_eq_true, if_false]; exact lE.go s1 r1 h1 fun W2 d2 v2 e2 s2 r2 hd2 h2 => k W2 _ _ (e1.trans e2) s2 hd2 h2
end
end Dn

/-! DnSeq: subscripts, slices, built-in calls, methods of lists. -/
namespace Dn
open PySem PySem.Spec PyProof.Rows L2
theorem atI_atD {T : Tx} {W : Wd} {ds : List D} {vs : List V} {i : Int} {d : D} (r : RDs T W ds vs) (h : atD ds i = some d) : ∃ v, atI vs i = some v ∧ RD T W d v := by
  unfold atD at h
  split at h
  · rename_i j hj
    obtain ⟨v, h1, h2⟩ := r.get h
    refine ⟨v, ?_, h2⟩
    have e : ixN vs.length i = some j := by rw [r.length]; exact hj
    unfold atI
    rw [e]
    exact h1
  · cases h
section
variable {X : Cx} {T : Tx} {a b c : Expr} {ta tb tc : TEx} {pos : Pos}
/-- a list or tuple at an int -/
theorem subO_seq {W : Wd} {x : D} {i : Int} {v u : V} {R : KD} {Q : VK} {ds : List D} (hT : T.K = X.K) (s : RelS T W) (hx : RD T W x v) (hy : RD T W (.int i) u) (hs : seqOf W.S x = some ds)
    (h : match atD ds i with
      | some d => R d W.S
      | none => False) (k : Then T W R Q) : rIx X.K v u W.H Q := by
  obtain ⟨p, vs, rfl, h1, h2⟩ := RD.sq s hx hs
  rw [hT] at h1
  split at h
  · rename_i d hd
    obtain ⟨w, q1, q2⟩ := atI_atD h2 hd
    rcases h1 with h1 | h1
    · exact .inl ⟨p, vs, i, w, rfl, hy.int_inv, h1, q1, Then.now k s q2 h⟩
    · exact .inr (.inl ⟨p, vs, i, w, rfl, hy.int_inv, h1, q1, Then.now k s q2 h⟩)
  · exact h.elim
theorem cut_RDs {W : Wd} {ds : List D} {vs : List V} (r : RDs T W ds vs) (lo hi : Option Int) : RDs T W (cutD ds lo hi) (cutV vs lo hi) := by
  have e : cutV vs lo hi = (vs.drop (sIx ds.length 0 lo)).take (sIx ds.length ds.length hi - sIx ds.length 0 lo) := by
    unfold cutV
    rw [r.length]
    cases lo <;> cases hi <;> rfl
  rw [e]
  exact (r.drop _).take _
theorem cut_all {α : Type} {xs : List α} {lo hi : Option Int} (h1 : sIx xs.length 0 lo = 0) (h2 : sIx xs.length xs.length hi = xs.length) : cutD xs lo hi = xs := by
  unfold cutD
  rw [h1, h2]
  simp
theorem sIx_eq (n d : Nat) (o : Option Int) : HT.sIx n d o = sIx n d o := by cases o <;> rfl
theorem do_N : PO X none (lO T opN) := po_imp po_none fun σ H Q ⟨W, env, hW, s, r, R, h, k⟩ => by
  subst hW
  exact k W none (.refl W) s h
theorem do_S (ha : PE X a (lE T ta)) : PO X (some a) (lO T (opS ta)) := po_imp (po_some ha) fun σ H Q ⟨W, env, hW, s, r, R, h, k⟩ => by
  subst hW
  refine lE.go (t := ta) s r h fun W1 d v e1 s1 r1 hd h1 => ?_
  split at h1
  · exact ⟨_, hd.int_inv, k W1 _ e1 s1 h1⟩
  · exact h1.elim
def rSlD (K : PySem.W.Frag) : V → Option Int → Option Int → Hp → VK → Prop := fun x lo hi H Q => rSlL K x lo hi H Q ∨ rSlA K x lo hi H Q
theorem de_slc {lo hi : Option Expr} {tl th : TOp} {p2 : Pos} (hT : T.K = X.K) (ha : PE X a (lE T ta)) (hl : PO X lo (lO T tl)) (hh : PO X hi (lO T th)) : PE X (.Subscript a (.Slice lo hi none p2) pos) (lE T (slc ta tl th)) :=
  pe_imp (pe_slice (sl_list.or sl_tupA) ha hl hh) fun σ H Q ⟨W, env, hW, s, r, R, h, k⟩ => by
    subst hW
    refine lE.go (t := ta) s r h fun W1 d v e1 s1 r1 hd h1 => ?_
    refine lO.go (t := tl) s1 r1 h1 fun W2 l e2 s2 r2 h2 => ?_
    refine lO.go (t := th) s2 r2 h2 fun W3 u e3 s3 r3 h3 => ?_
    have hd3 := hd.x (e2.trans e3)
    have k3 := Then.x k ((e1.trans e2).trans e3)
    split at h3
    · rename_i ds
      obtain ⟨p, vs, rfl, q1, q2⟩ := hd3.sqT
      rw [hT] at q1
      refine .inr ⟨p, vs, rfl, q1, fun e => ?_, fun _ => Then.tup k3 s3 (cut_RDs q2 l u) h3⟩
      have e0 : cutD ds l u = ds := cut_all (by rw [← sIx_eq, ← q2.length]; exact e.1) (by rw [← sIx_eq, ← q2.length]; exact e.2)
      rw [e0] at h3
      exact Then.now k3 s3 hd3 h3
    · split at h3
      · rename_i ds hds
        obtain ⟨p, vs, rfl, q1, q2⟩ := RD.sqL s3 hd3 hds
        exact .inl ⟨p, vs, rfl, .of q1, Then.lst k3 s3 (cut_RDs q2 l u) h3⟩
      · exact h3.elim

/-! ### built-in calls -/
/-- f is sound for the rule r -/
def BiOk (T : Tx) (f : Bi) (r : List V → Hp → VK → Prop) : Prop := ∀ (W : Wd) (ds : List D) (vs : List V) (R : KD) (Q : VK), RelS T W → RDs T W ds vs → f ds W.S R → Then T W R Q → r vs W.H Q
theorem RDs.one_inv {W : Wd} {d : D} {vs : List V} (h : RDs T W [d] vs) : ∃ v, vs = [v] ∧ RD T W d v := by
  obtain ⟨v, r, rfl, h1, h2⟩ := h.cons_inv
  rw [h2.nil_inv]
  exact ⟨v, rfl, h1⟩
theorem RDs.two_inv {W : Wd} {d e : D} {vs : List V} (h : RDs T W [d, e] vs) : ∃ v u, vs = [v, u] ∧ RD T W d v ∧ RD T W e u := by
  obtain ⟨v, r, rfl, h1, h2⟩ := h.cons_inv
  obtain ⟨u, rfl, h3⟩ := h2.one_inv
  exact ⟨v, u, rfl, h1, h3⟩
theorem de_biB {id : String} {x : Str} {p : Pos} {r : List V → Hp → VK → Prop} {f : Bi} {n : Nat} {es : List Expr} {t : TAr} (hc : CallR X (.builtin id) r) (ok : BiOk T f r) (hg : Gl X x) (hm : X.mg x = none) (hv : bootBuiltins x = some (.builtin id)) (ha : PA X (a :: es) (lA T n t))
    (hn : x ≠ "__name__" := by decide) (hdb : (x == ("__debug__" : Str)) = false := by decide) (he : starEach (a :: es) X.env = (false, eval a X.env) :: starEach es X.env := by rfl) (hpl : (backTo pos (starEach es X.env)).any (·.1) = false := by rfl) :
    PE X (.Call (.Name x p) (a :: es) [] pos) (lE T (bi f t)) :=
  pe_imp (pe_callB hc hg hm hv ha hn hdb he hpl) fun σ H Q ⟨W, env, hW, s, r, R, h, k⟩ => by
    subst hW
    exact lA.go (t := t) s r h fun W1 ds vs e1 s1 r1 hd _ h1 => ok W1 ds vs R Q s1 hd h1 (Then.x k e1)
theorem de_biT {id : String} {x : Str} {p : Pos} {r : List V → Hp → VK → Prop} {f : Bi} {n : Nat} {es : List Expr} {t : TAr} (hc : CallR X (.type id) r) (ok : BiOk T f r) (hg : Gl X x) (hm : X.mg x = none) (hv : bootBuiltins x = some (.type id)) (ha : PA X (a :: es) (lA T n t))
    (hn : x ≠ "__name__" := by decide) (hdb : (x == ("__debug__" : Str)) = false := by decide) (he : starEach (a :: es) X.env = (false, eval a X.env) :: starEach es X.env := by rfl) (hpl : (backTo pos (starEach es X.env)).any (·.1) = false := by rfl) :
    PE X (.Call (.Name x p) (a :: es) [] pos) (lE T (bi f t)) :=
  pe_imp (pe_callTy hc hg hm hv ha hn hdb he hpl) fun σ H Q ⟨W, env, hW, s, r, R, h, k⟩ => by
    subst hW
    exact lA.go (t := t) s r h fun W1 ds vs e1 s1 r1 hd _ h1 => ok W1 ds vs R Q s1 hd h1 (Then.x k e1)
theorem intB_ok : BiOk T intB (fun xs H Q => (∃ i, xs = [.int i] ∧ Q (.int i) H) ∨ ∃ k, xs = [.bl k] ∧ Q (.int (if k then 1 else 0)) H) := by
  intro W ds vs R Q s hd h k
  unfold intB at h
  split at h
  · obtain ⟨v, rfl, hv⟩ := hd.one_inv
    exact .inl ⟨_, by rw [hv.int_inv], Then.now k s .int h⟩
  · obtain ⟨v, rfl, hv⟩ := hd.one_inv
    exact .inr ⟨_, by rw [hv.bl_inv], Then.now k s .int h⟩
  · exact h.elim
theorem absB_ok : BiOk T absB (fun xs H Q => ∃ i, xs = [.int i] ∧ Q (.int (if i < 0 then -i else i)) H) := by
  intro W ds vs R Q s hd h k
  unfold absB at h
  split at h
  · obtain ⟨v, rfl, hv⟩ := hd.one_inv
    exact ⟨_, by rw [hv.int_inv], Then.now k s .int h⟩
  · exact h.elim
theorem max2B_ok : BiOk T max2B (fun xs H Q => ∃ i j, xs = [.int i, .int j] ∧ Q (.int (if j > i then j else i)) H) := by
  intro W ds vs R Q s hd h k
  unfold max2B at h
  split at h
  · obtain ⟨v, u, rfl, hv, hu⟩ := hd.two_inv
    exact ⟨_, _, by rw [hv.int_inv, hu.int_inv], Then.now k s .int h⟩
  · exact h.elim
theorem min2B_ok : BiOk T min2B (fun xs H Q => ∃ i j, xs = [.int i, .int j] ∧ Q (.int (if j < i then j else i)) H) := by
  intro W ds vs R Q s hd h k
  unfold min2B at h
  split at h
  · obtain ⟨v, u, rfl, hv, hu⟩ := hd.two_inv
    exact ⟨_, _, by rw [hv.int_inv, hu.int_inv], Then.now k s .int h⟩
  · exact h.elim
theorem ints_of {W : Wd} : ∀ {ds : List D} {vs : List V} {is : List Int}, RDs T W ds vs → intsOf ds = some is → vs = is.map V.int
  | [], vs, is, r, h => by
    have e : [] = is := Option.some.inj h
    rw [r.nil_inv, ← e]
    rfl
  | d :: ds, vs, is, r, h => by
    obtain ⟨v, us, rfl, h1, h2⟩ := r.cons_inv
    cases d with
    | int i =>
      obtain ⟨js, hj, rfl⟩ := Option.map_eq_some_iff.mp (show (intsOf ds).map (i :: ·) = some is from h)
      rw [h1.int_inv, ints_of h2 hj]
      rfl
    | _ => cases h
theorem maxI_mem : ∀ (r : List Int) (m : Int), (∀ n : Int, n ∈ m :: r → (∀ y, y ∈ m :: r → y ≤ n) → n = maxI r m)
  | [], m, n, hn, _ => List.mem_singleton.mp hn
  | x :: r, m, n, hn, h => by
    show n = maxI r (if m < x then x else m)
    refine maxI_mem r _ n ?_ fun y hy => ?_
    · by_cases q : m < x
      · rw [if_pos q]
        rcases List.mem_cons.mp hn with e | hn
        · have := h x (by simp); omega
        · exact hn
      · rw [if_neg q]
        rcases List.mem_cons.mp hn with e | hn
        · rw [e]; exact List.mem_cons_self
        · rcases List.mem_cons.mp hn with e | hn
          · have h1 := h m (by simp)
            have : n = m := by omega
            rw [this]; exact List.mem_cons_self
          · exact List.mem_cons_of_mem _ hn
    · rcases List.mem_cons.mp hy with e | hy
      · by_cases q : m < x
        · rw [if_pos q] at e
          rw [e]; exact h x (by simp)
        · rw [if_neg q] at e
          rw [e]; exact h m (by simp)
      · exact h y (by simp [hy])
theorem minI_mem : ∀ (r : List Int) (m : Int), (∀ n : Int, n ∈ m :: r → (∀ y, y ∈ m :: r → n ≤ y) → n = minI r m)
  | [], m, n, hn, _ => List.mem_singleton.mp hn
  | x :: r, m, n, hn, h => by
    show n = minI r (if x < m then x else m)
    refine minI_mem r _ n ?_ fun y hy => ?_
    · by_cases q : x < m
      · rw [if_pos q]
        rcases List.mem_cons.mp hn with e | hn
        · have := h x (by simp); omega
        · exact hn
      · rw [if_neg q]
        rcases List.mem_cons.mp hn with e | hn
        · rw [e]; exact List.mem_cons_self
        · rcases List.mem_cons.mp hn with e | hn
          · have h1 := h m (by simp)
            have : n = m := by omega
            rw [this]; exact List.mem_cons_self
          · exact List.mem_cons_of_mem _ hn
    · rcases List.mem_cons.mp hy with e | hy
      · by_cases q : x < m
        · rw [if_pos q] at e
          rw [e]; exact h x (by simp)
        · rw [if_neg q] at e
          rw [e]; exact h m (by simp)
      · exact h y (by simp [hy])
theorem lst_ints {W : Wd} {x : D} {v : V} {is : List Int} (s : RelS T W) (hv : RD T W x v) (h : (lstOf W.S x).bind intsOf = some is) : ∃ a, v = .ref a ∧ W.H a = some (.lst (is.map V.int)) := by
  obtain ⟨ds, h1, h2⟩ := Option.bind_eq_some_iff.mp h
  obtain ⟨a, vs, e, q1, q2⟩ := RD.sqL s hv h1
  rw [ints_of q2 h2] at q1
  exact ⟨a, e, q1⟩
theorem maxB_ok (K : PySem.W.Frag) : BiOk T maxB (rMax K) := by
  intro W ds vs R Q s hd h k
  unfold maxB at h
  split at h
  · obtain ⟨v, rfl, hv⟩ := hd.one_inv
    split at h
    · rename_i i r hi
      obtain ⟨a, rfl, q⟩ := lst_ints s hv hi
      refine ⟨a, _, rfl, .of q, by simp, fun m h1 h2 => ?_⟩
      rw [maxI_mem r i m h1 h2]
      exact Then.now k s .int h
    · exact h.elim
  · exact h.elim
theorem minB_ok (K : PySem.W.Frag) : BiOk T minB (rMin K) := by
  intro W ds vs R Q s hd h k
  unfold minB at h
  split at h
  · obtain ⟨v, rfl, hv⟩ := hd.one_inv
    split at h
    · rename_i i r hi
      obtain ⟨a, rfl, q⟩ := lst_ints s hv hi
      refine ⟨a, _, rfl, .of q, by simp, fun m h1 h2 => ?_⟩
      rw [minI_mem r i m h1 h2]
      exact Then.now k s .int h
    · exact h.elim
  · exact h.elim
theorem tupB_ok (K : PySem.W.Frag) (hK : T.K = K) : BiOk T tupB (fun xs H Q => ∃ p ys, xs = [.ref p] ∧ ((SqL K H p ys ∧ ∀ l, H l = none → Q (.ref l) (upd H l (.tup ys))) ∨ (SqT K H p ys ∧ Q (.ref p) H))) := by
  intro W ds vs R Q s hd h k
  unfold tupB at h
  split at h
  · rename_i x
    obtain ⟨v, rfl, hv⟩ := hd.one_inv
    split at h
    · rename_i xs hx
      by_cases e : ∃ es, x = .tup es
      · obtain ⟨es, rfl⟩ := e
        obtain ⟨p, us, rfl, g1, g2⟩ := hv.sqT
        have e2 : es = xs := Option.some.inj hx
        subst e2
        exact ⟨p, us, rfl, .inr ⟨hK ▸ g1, Then.now k s hv h⟩⟩
      · obtain ⟨p, us, rfl, g1, g2⟩ := RD.sqA s hv hx fun es z => e ⟨es, z⟩
        exact ⟨p, us, rfl, .inl ⟨hK ▸ g1, Then.tup k s g2 h⟩⟩
    · exact h.elim
  · exact h.elim
theorem lstB_ok (K : PySem.W.Frag) (hK : T.K = K) : BiOk T lstB (fun xs H Q => ∃ p ys, xs = [.ref p] ∧ (SqL K H p ys ∨ SqT K H p ys) ∧ ∀ l, H l = none → Q (.ref l) (upd H l (.lst ys))) := by
  intro W ds vs R Q s hd h k
  unfold lstB at h
  split at h
  · obtain ⟨v, rfl, hv⟩ := hd.one_inv
    split at h
    · rename_i xs hx
      obtain ⟨p, us, rfl, q1, q2⟩ := RD.sq s hv hx
      exact ⟨p, us, rfl, hK ▸ q1, Then.lst k s q2 h⟩
    · exact h.elim
  · exact h.elim
theorem lstCB_ok (K : PySem.W.Frag) (hK : T.K = K) : BiOk T lstCB (fun xs H Q => ∃ p ys, xs = [.ref p] ∧ (SqL K H p ys ∨ SqT K H p ys) ∧ ∀ l, H l = none → Q (.ref l) (upd H l (.lst ys))) := by
  intro W ds vs R Q s hd h k
  unfold lstCB at h
  split at h
  · obtain ⟨v, rfl, hv⟩ := hd.one_inv
    split at h
    · rename_i xs hx
      obtain ⟨p, us, rfl, q1, q2⟩ := RD.sq s hv hx
      exact ⟨p, us, rfl, hK ▸ q1, Then.cell k s q2 h⟩
    · exact h.elim
  · exact h.elim

/-! ### isinstance of a built-in class -/
def tyS : Ty → String
  | .tint => "int"
  | .tbool => "bool"
  | .ttup => "tuple"
  | .tlst => "list"
  | .tstr => "str"
theorem isT_ok {W : Wd} {t : Ty} {d : D} {v : V} {k : Bool} (hT : T.K = X.K) (r : RD T W d v) (h : isT W.S t d = some k) : ∃ tv, TyX X.K W.H v tv ∧ PySem.W.kitOne X.K tv (.type (tyS t)) = some k := by
  cases d with
  | non => rw [r.non_inv]; refine ⟨_, .base .non, ?_⟩; cases t <;> (rw [← Option.some.inj h]; exact kit_ty (by decide +kernel))
  | bl b => rw [r.bl_inv]; refine ⟨_, .base (.bl b), ?_⟩; cases t <;> (rw [← Option.some.inj h]; exact kit_ty (by decide +kernel))
  | int i => rw [r.int_inv]; refine ⟨_, .base (.int i), ?_⟩; cases t <;> (rw [← Option.some.inj h]; exact kit_ty (by decide +kernel))
  | str cs => rw [r.str_inv]; refine ⟨_, .base (.str _), ?_⟩; cases t <;> (rw [← Option.some.inj h]; exact kit_ty (by decide +kernel))
  | tup ds =>
    unfold RD at r
    obtain ⟨a, vs, rfl, h1, _⟩ := r
    have e : TyX X.K W.H (.ref a) (.type "tuple") := by
      rcases h1 with ⟨h1 | ⟨o, h1⟩, _⟩ | h1
      · exact .base (.tup h1)
      · exact .fTuple h1
      · obtain ⟨o, its, n, q1, q2, _⟩ := h1
        exact .kTuple (hT ▸ q1) q2
    refine ⟨_, e, ?_⟩
    cases t <;> first | (rw [← Option.some.inj h]; exact kit_ty (by decide +kernel)) | cases h
  | lst ds =>
    unfold RD at r
    obtain ⟨a, vs, rfl, h1, _⟩ := r
    refine ⟨_, .base (.lst h1), ?_⟩
    cases t <;> first | (rw [← Option.some.inj h]; exact kit_ty (by decide +kernel)) | cases h
  | _ => cases t <;> cases h
/-- c names a built-in class -/
theorem de_isa {x : Str} {p : Pos} {t : Ty} (hT : T.K = X.K) (hg : Gl X x) (hm : X.mg x = none) (hv : bootBuiltins x = some (.builtin "isinstance")) (ha : PE X a (lE T ta)) (hb : PE X b (tC (.ty (tyS t))))
    (hn : x ≠ "__name__" := by decide) (hdb : (x == ("__debug__" : Str)) = false := by decide) (he : starEach [a, b] X.env = (false, eval a X.env) :: starEach [b] X.env := by rfl) (he2 : starEach [b] X.env = (false, eval b X.env) :: starEach [] X.env := by rfl) (hpl : (backTo pos (starEach [b] X.env)).any (·.1) = false := by rfl) :
    PE X (.Call (.Name x p) [a, b] [] pos) (lE T (isaB t ta)) :=
  pe_imp (pe_callB call_isi hg hm hv (pa_cons ha (pa_cons hb pa_nil he2) he) hn hdb he hpl) fun σ H Q ⟨W, env, hW, s, r, R, h, k⟩ => by
    subst hW
    refine lE.go (t := ta) s r h fun W1 d v e1 s1 r1 hd h1 => ?_
    split at h1
    · rename_i kk hk
      obtain ⟨tv, q1, q2⟩ := isT_ok hT hd hk
      exact ⟨v, _, tv, _, kk, rfl, .ty _, q1, q2, Then.now (Then.x k e1) s1 .bl h1⟩
    · exact h1.elim

/-! ### methods of a list that may change -/
def MtOk (T : Tx) (m : Mt) (r : V → List V → Hp → VK → Prop) : Prop := ∀ (W : Wd) (d : D) (v : V) (ds : List D) (vs : List V) (R : KD) (Q : VK), RelS T W → RD T W d v → RDs T W ds vs → m d ds W.S R → Then T W R Q → r v vs W.H Q
theorem lst_tyV {W : Wd} {d : D} {v : V} (s : RelS T W) (r : RD T W d v) (h : (lstOf W.S d).isSome = true) : tyV X.K "list" v W.H := by
  obtain ⟨ds, hd⟩ := Option.isSome_iff_exists.mp h
  obtain ⟨p, vs, rfl, q1, _⟩ := RD.sqL s r hd
  exact .inl ⟨rfl, vs, .of q1⟩
theorem de_mtL0 {m : Mt} {name : Str} {id : String} {r : V → List V → Hp → VK → Prop} {apos : Pos} (slot : Slot "list" name id) (hty : typeOf (.builtin id) = pure (.type "method_descriptor")) (hm : MtR X id r) (ok : MtOk T m r) (ha : PE X a (lE T ta))
    (hbase : attributeBase a name X.env (eval a X.env) = eval a X.env := by rfl) (hline : (apos.endLine == pos.line) = true := by rfl) : PE X (.Call (.Attribute a name apos) [] [] pos) (lE T (mtL m ta nilA)) :=
  pe_imp (pe_bm0 PySem.F.plainAttrs_list slot hty hm ha hbase hline) fun σ H Q ⟨W, env, hW, s, r, R, h, k⟩ => by
    subst hW
    exact lE.go (t := ta) s r h fun W1 d v e1 s1 r1 hd h1 => ⟨lst_tyV s1 hd h1.1, ok W1 d v [] [] R Q s1 hd .nil h1.2 (Then.x k e1)⟩
theorem de_mtL {m : Mt} {name : Str} {id : String} {r : V → List V → Hp → VK → Prop} {apos : Pos} {n : Nat} {es : List Expr} {t : TAr} (slot : Slot "list" name id) (hty : typeOf (.builtin id) = pure (.type "method_descriptor")) (hm : MtR X id r) (ok : MtOk T m r) (ha : PE X a (lE T ta)) (hs : PA X (b :: es) (lA T n t))
    (hbase : attributeBase a name X.env (eval a X.env) = eval a X.env := by rfl)
    (hfew : ((backTo pos (starEach (b :: es) X.env)).all (fun x => !x.1) && (backToKw pos (keywordEach [] X.env)).all (fun x => x.1.isSome) && decide ((b :: es).length + ([] : List Keyword).length + (if ([] : List Keyword).isEmpty then 0 else 1) < 30)) = true := by rfl)
    (hline : (apos.endLine == pos.line) = true := by rfl) (hse : starEach (b :: es) X.env = (false, eval b X.env) :: starEach es X.env := by rfl) (hplain : (backTo pos (starEach es X.env)).any (·.1) = false := by rfl) :
    PE X (.Call (.Attribute a name apos) (b :: es) [] pos) (lE T (mtL m ta t)) :=
  pe_imp (pe_bm PySem.F.plainAttrs_list slot hty hm ha hs hbase hfew hline hse hplain) fun σ H Q ⟨W, env, hW, s, r, R, h, k⟩ => by
    subst hW
    refine lE.go (t := ta) s r h fun W1 d v e1 s1 r1 hd h1 => ⟨lst_tyV s1 hd h1.1, ?_⟩
    exact lA.go (t := t) s1 r1 h1.2 fun W2 ds vs e2 s2 r2 hds _ h2 => ok W2 d v ds vs R Q s2 (hd.x e2) hds h2 (Then.x k (e1.trans e2))
/-- a list's cell is written -/
theorem Then.put {W : Wd} {R : KD} {Q : VK} {n : Nat} {ds : List D} {c0 : Cell} {d : D} {v : V} {vs : List V} (k : Then T W R Q) (s : RelS T W) (h0 : W.S[n]? = some c0) (m0 : c0.mut = true) (r : RDs T W ds vs) (hd : RD T W d v) (h : R d (W.S.set n (.lst ds))) : Q v (upd W.H (W.ρ n) (.lst vs)) := by
  have e : Ext W (W.put n (.lst vs) (.lst ds)) := ext_put s h0 m0
  exact k (W.put n (.lst vs) (.lst ds)) d v e (rel_put s h0 m0 ⟨vs, upd_same, r.x e⟩) (hd.x e) h
theorem appM_ok : MtOk T appM rAppend := by
  intro W d v ds vs R Q s hd hds h k
  unfold appM at h
  split at h
  · rename_i n y
    obtain ⟨_, rfl⟩ := hd.loc_inv
    obtain ⟨u, rfl, hu⟩ := hds.one_inv
    split at h
    · rename_i es hn
      obtain ⟨us, q1, q2⟩ := s.ok n _ hn
      exact ⟨_, us, u, rfl, rfl, q1, by rw [q2.length]; exact h.1, Then.put k s hn rfl (q2.append (.one hu)) .non h.2⟩
    · exact h.elim
  · exact h.elim
theorem extM_ok : MtOk T extM rExtend := by
  intro W d v ds vs R Q s hd hds h k
  unfold extM at h
  split at h
  · rename_i n y
    obtain ⟨_, rfl⟩ := hd.loc_inv
    obtain ⟨u, rfl, hu⟩ := hds.one_inv
    split at h
    · rename_i es fs hn hy
      obtain ⟨us, q1, q2⟩ := s.ok n _ hn
      obtain ⟨b, ws, rfl, g1, g2⟩ := RD.sqL s hu hy
      exact ⟨_, b, us, ws, rfl, rfl, q1, g1, by rw [q2.length, g2.length]; exact h.1, Then.put k s hn rfl (q2.append g2) .non h.2⟩
    · exact h.elim
  · exact h.elim
theorem popM_ok : MtOk T popM rPop := by
  intro W d v ds vs R Q s hd hds h k
  unfold popM at h
  split at h
  · rename_i n
    obtain ⟨_, rfl⟩ := hd.loc_inv
    split at h
    · rename_i es hn
      obtain ⟨us, q1, q2⟩ := s.ok n _ hn
      split at h
      · rename_i y hy
        obtain ⟨u, g1, g2⟩ := q2.get hy
        exact ⟨_, us, u, rfl, hds.nil_inv, q1, by rw [q2.length]; exact g1, Then.put k s hn rfl q2.dropLast g2 h⟩
      · exact h.elim
    · exact h.elim
  · exact h.elim
theorem ixD_seq {n : Nat} {i : Int} {j : Nat} (h : ixD n i = some j) : seqIndex? i n = some j := (ixN_seq (show ixN n i = some j from h)).1
theorem popAtM_ok : MtOk T popAtM rPopAt := by
  intro W d v ds vs R Q s hd hds h k
  unfold popAtM at h
  split at h
  · rename_i n i
    obtain ⟨_, rfl⟩ := hd.loc_inv
    obtain ⟨u, rfl, hu⟩ := hds.one_inv
    split at h
    · rename_i es hn
      obtain ⟨us, q1, q2⟩ := s.ok n _ hn
      obtain ⟨hb, h⟩ := h
      split at h
      · rename_i j hj
        split at h
        · rename_i y hy
          obtain ⟨w, g1, g2⟩ := q2.get hy
          exact ⟨_, us, i, j, w, rfl, by rw [hu.int_inv], q1, hb.1, hb.2, by rw [q2.length]; exact ixD_seq hj, g1, Then.put k s hn rfl (q2.eraseIdx j) g2 h⟩
        · exact h.elim
      · exact h.elim
    · exact h.elim
  · exact h.elim
end
end Dn

/-! DnStmt: targets, statements, loops, comprehensions, calls. -/
namespace Dn
open PySem PySem.Spec PyProof.Rows L2

/-- what is wanted behind a statement, in a world -/
structure EndsOk (T : Tx) (W : Wd) (z : Ends) (Z : L2.Ends) : Prop where
  nx : ∀ (W' : Wd) (env : Env) (σ : L2.St), Ext W W' → RelS T W' → RelE T W' env σ → z.nx env W'.S → Z.nx σ W'.H
  rt : ∀ (W' : Wd) (d : D) (v : V), Ext W W' → RelS T W' → RD T W' d v → z.rt d W'.S → Z.rt v W'.H
  bk : ∀ (W' : Wd) (env : Env) (σ : L2.St), Ext W W' → RelS T W' → RelE T W' env σ → z.bk env W'.S → Z.bk σ W'.H
  ct : ∀ (W' : Wd) (env : Env) (σ : L2.St), Ext W W' → RelS T W' → RelE T W' env σ → z.ct env W'.S → Z.ct σ W'.H
theorem EndsOk.x {T : Tx} {W W1 : Wd} {z : Ends} {Z : L2.Ends} (k : EndsOk T W z Z) (e : Ext W W1) : EndsOk T W1 z Z :=
  ⟨fun W' a b e' => k.nx W' a b (e.trans e'), fun W' a b e' => k.rt W' a b (e.trans e'), fun W' a b e' => k.bk W' a b (e.trans e'), fun W' a b e' => k.ct W' a b (e.trans e')⟩
def lS (T : Tx) (t : TSt) : L2.TS := fun Z σ H => ∃ (W : Wd) (env : Env) (z : Ends), W.H = H ∧ RelS T W ∧ RelE T W env σ ∧ EndsOk T W z Z ∧ t z env W.S
def lG (T : Tx) (vs : List Nat) (g : TGt) : L2.TG := fun v σ H Q => ∃ (W : Wd) (env : Env) (d : D) (R : KE), W.H = H ∧ RelS T W ∧ RelE T W env σ ∧ RD T W d v ∧ g d env W.S R ∧
  ∀ (W' : Wd) (env' : Env) (σ' : L2.St), Ext W W' → RelS T W' → RelE T W' env' σ' → L2.wipe σ' vs = L2.wipe σ vs → R env' W'.S → Q σ' W'.H
def lGs (T : Tx) (vs : List Nat) (g : TGs) : L2.TGs := fun us σ H Q => ∃ (W : Wd) (env : Env) (ds : List D) (R : KE), W.H = H ∧ RelS T W ∧ RelE T W env σ ∧ RDs T W ds us ∧ g ds env W.S R ∧
  ∀ (W' : Wd) (env' : Env) (σ' : L2.St), Ext W W' → RelS T W' → RelE T W' env' σ' → L2.wipe σ' vs = L2.wipe σ vs → R env' W'.S → Q σ' W'.H
/-- an iterator gives ds, whatever else happens -/
structure WalkD (T : Tx) (W : Wd) (J : It) (ds : List D) : Prop where
  size : ds.length ≤ sizeLine
  go : ∀ (W2 : Wd) (i : Nat), Ext1 W W2 → RelS T W2 → i < ds.length → J.go i W2.H
  stop : ∀ (W2 : Wd), Ext1 W W2 → RelS T W2 → J.stop ds.length W2.H
  yld : ∀ (W2 : Wd) (i : Nat) (d : D) (x : V) (H' : Hp), Ext1 W W2 → RelS T W2 → ds[i]? = some d → J.yld i W2.H x H' → ∃ W3 : Wd, W3.H = H' ∧ W3.S = W2.S ∧ Ext W2 W3 ∧ RelS T W3 ∧ RD T W3 d x
def lI (T : Tx) (it : TAr) : L2.TI := fun σ H Q => ∃ (W : Wd) (env : Env) (R : KDs), W.H = H ∧ RelS T W ∧ RelE T W env σ ∧ it env W.S R ∧
  ∀ (W' : Wd) (ds : List D) (J : It), Ext W W' → RelS T W' → WalkD T W' J ds → R ds W'.S → Q J W'.H
section
variable {X : Cx} {T : Tx} {own : List Nat} {a b c e : Expr} {ta tb tc te : TEx} {pos : Pos}
theorem pg_imp {e : Expr} {t t' : L2.TG} (h : PG X e t) (k : ∀ v σ H Q, t' v σ H Q → t v σ H Q) : PG X e t' := ⟨fun pins s σ H v u Q I r q => h.run pins s σ H v u Q I r (k v σ H Q q)⟩
theorem pgs_imp {e : List Expr} {t t' : L2.TGs} (h : PGs X e t) (k : ∀ v σ H Q, t' v σ H Q → t v σ H Q) : PGs X e t' := ⟨fun pins s σ H v u Q I r q => h.run pins s σ H v u Q I r (k v σ H Q q)⟩
theorem pi_imp {tg e : Expr} {t t' : L2.TI} (h : PI X tg e t) (k : ∀ σ H Q, t' σ H Q → t σ H Q) : PI X tg e t' := ⟨fun pins s σ H Q I q => h.run pins s σ H Q I (k σ H Q q)⟩

/-! ### targets -/
theorem wipe_at (σ : L2.St) (j : Nat) : ∀ vs : List Nat, (L2.wipe σ vs)[j]? = if j ∈ vs then (σ[j]?).map (fun _ => none) else σ[j]?
  | [] => by simp [L2.wipe]
  | v :: vs => by
    unfold L2.wipe
    by_cases e : v = j
    · subst e
      rw [if_pos List.mem_cons_self]
      by_cases hv : v < σ.length
      · rw [List.getElem?_set_self (by rw [wipe_length]; exact hv), List.getElem?_eq_getElem hv]
        rfl
      · rw [List.getElem?_eq_none (by simp [wipe_length]; omega), List.getElem?_eq_none (by omega)]
        rfl
    · rw [List.getElem?_set_ne e, wipe_at σ j vs]
      by_cases h : j ∈ vs
      · rw [if_pos h, if_pos (List.mem_cons_of_mem _ h)]
      · rw [if_neg h, if_neg (fun z => (List.mem_cons.mp z).elim (fun q => e q.symm) h)]
theorem wipe_set {σ : L2.St} {i : Nat} {v : Option V} {vs : List Nat} (h : i ∈ vs) : L2.wipe (σ.set i v) vs = L2.wipe σ vs := by
  apply List.ext_getElem?
  intro j
  rw [wipe_at, wipe_at]
  by_cases e : i = j
  · subst e
    rw [if_pos h, if_pos h]
    by_cases hi : i < σ.length
    · rw [List.getElem?_set_self hi, List.getElem?_eq_getElem hi]
      rfl
    · rw [List.getElem?_eq_none (by simpa using hi), List.getElem?_eq_none (by omega)]
  · rw [List.getElem?_set_ne e]
theorem dg_N {i : Nat} {x : Str} (ho : i ∈ own) (hN : X.N.Nodup) (hi : X.N[i]? = some x) (hx : Loc X.env.scope x) (hf : X.fn x = true ∨ X.env.scope.names.lookup x = some .local) : PG X (.Name x pos) (lG T own (gN i)) :=
  pg_imp (pg_name hN hi hx hf) fun v σ H Q ⟨W, env, d, R, hW, s, r, hd, h, k⟩ => by
    subst hW
    exact k W _ _ (.refl W) s (r.set i hd) (wipe_set ho) h
theorem dgs_nil : PGs X [] (lGs T own gsN) := pgs_imp pgs_nil fun v σ H Q ⟨W, env, ds, R, hW, s, r, hd, h, k⟩ => by
  subst hW
  obtain ⟨e, h⟩ := h
  subst e
  exact ⟨hd.nil_inv, k W env σ (.refl W) s r rfl h⟩
theorem dgs_cons {es : List Expr} {g : TGt} {gs : TGs} (h1 : PG X e (lG T own g)) (h2 : PGs X es (lGs T own gs)) (hs : (assignEach (e :: es) X.env).map (·.2) = assign e X.env :: (assignEach es X.env).map (·.2) := by rfl) : PGs X (e :: es) (lGs T own (gsC g gs)) :=
  pgs_imp (pgs_cons h1 h2 hs) fun v σ H Q ⟨W, env, ds, R, hW, s, r, hd, h, k⟩ => by
    subst hW
    unfold gsC at h
    split at h
    · rename_i d ds
      obtain ⟨u, us, rfl, q1, q2⟩ := hd.cons_inv
      refine ⟨u, us, rfl, W, env, d, _, rfl, s, r, q1, h, fun W1 env1 σ1 e1 s1 r1 w1 h1 => ?_⟩
      exact ⟨W1, env1, ds, R, rfl, s1, r1, q2.x e1, h1, fun W2 env2 σ2 e2 s2 r2 w2 => k W2 env2 σ2 (e1.trans e2) s2 r2 (w2.trans w1)⟩
    · exact h.elim
theorem dg_T {es : List Expr} {j : Nat} {gs : TGs} {n : Nat} (hT : T.K = X.K) (hc : X.calm = true) (h : PGs X es (lGs T own gs)) (hlen : ∀ ds env S R, gs ds env S R → ds.length = n)
    (hn : (assignEach es X.env).length = n := by rfl) (hst : (assignEach es X.env).findIdx? (·.1) = none := by rfl) : PG X (.Tuple es j pos) (lG T own (gT gs)) :=
  pg_imp (pg_tup hc h hn hst) fun v σ H Q ⟨W, env, d, R, hW, s, r, hd, h, k⟩ => by
    subst hW
    unfold gT at h
    split at h
    · rename_i ds
      obtain ⟨p, vs, rfl, q1, q2⟩ := hd.sqT
      exact ⟨p, vs, rfl, hT ▸ q1, by rw [q2.length]; exact hlen _ _ _ _ h, W, env, ds, R, rfl, s, r, q2, h, k⟩
    · exact h.elim
theorem gsN_len : ∀ ds env S R, gsN ds env S R → ds.length = 0 := fun ds _ _ _ h => by rw [h.1]; rfl
theorem gsC_len {i n : Nat} {gs : TGs} (h : ∀ ds env S R, gs ds env S R → ds.length = n) : ∀ ds env S R, gsC (gN i) gs ds env S R → ds.length = n + 1 := fun ds env S R q => by
  unfold gsC at q
  split at q
  · rw [List.length_cons, h _ _ _ _ q]
  · exact q.elim
theorem gsC_lenT {n : Nat} {gs g2 : TGs} (h : ∀ ds env S R, gs ds env S R → ds.length = n) (hm : ∀ ds env S (R : KE), g2 ds env S R → ∃ env' S', R env' S') : ∀ ds env S R, gsC (gT g2) gs ds env S R → ds.length = n + 1 := fun ds env S R q => by
  unfold gsC at q
  split at q
  · rename_i d es
    unfold gT at q
    split at q
    · obtain ⟨env', S', q'⟩ := hm _ _ _ _ q
      rw [List.length_cons, h _ _ _ _ q']
    · exact q.elim
  · exact q.elim
theorem gsN_may : ∀ ds env S (R : KE), gsN ds env S R → ∃ env' S', R env' S' := fun ds env S R h => ⟨_, _, h.2⟩
theorem gsC_may {i : Nat} {gs : TGs} (h : ∀ ds env S (R : KE), gs ds env S R → ∃ env' S', R env' S') : ∀ ds env S (R : KE), gsC (gN i) gs ds env S R → ∃ env' S', R env' S' := fun ds env S R q => by
  unfold gsC at q
  split at q
  · exact h _ _ _ _ q
  · exact q.elim
/-! ### statements -/
variable {st : Stmt} {rest : List Stmt} {t u : TSt}
theorem ds_nil : PSs X [] (lS T nxS) := pss_imp pss_nil fun Z σ H ⟨W, env, z, hW, s, r, k, h⟩ => by
  subst hW
  exact k.nx W env σ (.refl W) s r h
theorem ds_cons (h1 : PS X st (lS T t)) (h2 : PSs X rest (lS T u)) : PSs X (st :: rest) (lS T (sq t u)) :=
  pss_imp (pss_cons h1 h2) fun Z σ H ⟨W, env, z, hW, s, r, k, h⟩ => by
    subst hW
    exact ⟨W, env, { z with nx := u z }, rfl, s, r, ⟨fun W' env' σ' e' s' r' h' => ⟨W', env', z, rfl, s', r', k.x e', h'⟩, k.rt, k.bk, k.ct⟩, h⟩
theorem ds_one (h1 : PS X st (lS T t)) : PSs X [st] (lS T t) := pss_one h1
theorem ds_pass : PS X (.Pass pos) (lS T nxS) := ps_imp ps_pass fun Z σ H ⟨W, env, z, hW, s, r, k, h⟩ => by
  subst hW
  exact k.nx W env σ (.refl W) s r h
theorem ds_break : PS X (.Break pos) (lS T brS) := ps_imp ps_break fun Z σ H ⟨W, env, z, hW, s, r, k, h⟩ => by
  subst hW
  exact k.bk W env σ (.refl W) s r h
theorem ds_continue : PS X (.Continue pos) (lS T ctS) := ps_imp ps_continue fun Z σ H ⟨W, env, z, hW, s, r, k, h⟩ => by
  subst hW
  exact k.ct W env σ (.refl W) s r h
theorem ds_expr (he : PE X e (lE T te)) (hs : swapsWith e none pos.line X.env = pure false := by rfl) : PS X (.Expr e pos) (lS T (exS te)) :=
  ps_imp (ps_expr he hs) fun Z σ H ⟨W, env, z, hW, s, r, k, h⟩ => by
    subst hW
    exact lE.go (t := te) s r h fun W1 d v e1 s1 r1 _ h1 => k.nx W1 env σ e1 s1 r1 h1
theorem ds_ret (he : PE X e (lE T te)) : PS X (.Return (some e) pos) (lS T (rtS te)) :=
  ps_imp (ps_ret he) fun Z σ H ⟨W, env, z, hW, s, r, k, h⟩ => by
    subst hW
    exact lE.go (t := te) s r h fun W1 d v e1 s1 r1 hd h1 => k.rt W1 d v e1 s1 hd h1
theorem ds_retN : PS X (.Return none pos) (lS T rtN) := ps_imp ps_retN fun Z σ H ⟨W, env, z, hW, s, r, k, h⟩ => by
  subst hW
  exact k.rt W _ _ (.refl W) s .non h
theorem ds_if {tc : TTs} {sa sb : List Stmt} (hc : PT X c (lT T tc)) (ha : PSs X sa (lS T t)) (hb : PSs X sb (lS T u)) : PS X (.If c sa sb pos) (lS T (ifS tc t u)) :=
  ps_imp (ps_if hc ha hb) fun Z σ H ⟨W, env, z, hW, s, r, k, h⟩ => by
    subst hW
    refine lT.go (t := tc) s r h fun W1 b e1 s1 r1 h1 => ?_
    cases b with
    | true => simp only [if_true]; exact ⟨W1, env, z, rfl, s1, r1, k.x e1, h1⟩
    | false => simp only [Bool.false_eq_true, if_false]; exact ⟨W1, env, z, rfl, s1, r1, k.x e1, h1⟩
theorem ds_asg {tg : Expr} {g : TGt} (he : PE X e (lE T te)) (hg : PG X tg (lG T own g)) (hs : swapsWithSole [tg] e pos.line X.env = pure false := by rfl) (hw : swappedStores [tg] e X.env = pure none := by rfl)
    (h1 : (assignEach [tg] X.env).map (·.2) = [assign tg X.env] := by rfl) : PS X (.Assign [tg] e pos) (lS T (asS te g)) :=
  ps_imp (ps_asg he hg hs hw h1) fun Z σ H ⟨W, env, z, hW, s, r, k, h⟩ => by
    subst hW
    refine lE.go (t := te) s r h fun W1 d v e1 s1 r1 hd h1 => ?_
    exact ⟨W1, env, d, z.nx, rfl, s1, r1, hd, h1, fun W2 env2 σ2 e2 s2 r2 _ h2 => k.nx W2 env2 σ2 (e1.trans e2) s2 r2 h2⟩
theorem ds_set {i : Nat} {x : Str} {pos' : Pos} (hN : X.N.Nodup) (hi : X.N[i]? = some x) (hx : Loc X.env.scope x) (hf : X.fn x = true ∨ X.env.scope.names.lookup x = some .local) (he : PE X e (lE T te)) (hs : swapsWith e (some (.Name x pos')) pos.line X.env = pure false := by rfl) :
    PS X (.Assign [.Name x pos'] e pos) (lS T (asS te (gN i))) :=
  ps_imp (ps_set hN hi hx he hs hf) fun Z σ H ⟨W, env, z, hW, s, r, k, h⟩ => by
    subst hW
    exact lE.go (t := te) s r h fun W1 d v e1 s1 r1 hd h1 => k.nx W1 _ _ e1 s1 (r1.set i hd) h1
/-- name op= e -/
def IpOk (T : Tx) (o : Op2) (r : V → V → Hp → VK → Prop) : Prop := ∀ (W : Wd) (x y : D) (v u : V) (R : KD) (Q : VK), RelS T W → RD T W x v → RD T W y u → o x y W.S R → Then T W R Q → r v u W.H Q
theorem ds_aug {i : Nat} {x : Str} {op : Operator} {o : Op2} {ti : L2.TIp} {pos' : Pos} (ho : PIp X op ti) (ok : IpOk T o ti) (hN : X.N.Nodup) (hi : X.N[i]? = some x) (hx : Loc X.env.scope x) (hf : X.fn x = true ∨ X.env.scope.names.lookup x = some .local) (he : PE X e (lE T te)) :
    PS X (.AugAssign (.Name x pos') op e pos) (lS T (agS i o te)) :=
  ps_imp (ps_aug hN hi hx he ho hf) fun Z σ H ⟨W, env, z, hW, s, r, k, h⟩ => by
    subst hW
    unfold agS at h
    split at h
    · rename_i d hd
      obtain ⟨v, q1, q2⟩ := r.at_ i d hd
      refine ⟨v, q1, ?_⟩
      refine lE.go (t := te) s r h fun W1 d1 v1 e1 s1 r1 hd1 h1 => ?_
      exact ok W1 _ _ _ _ _ _ s1 (q2.x e1) hd1 h1 fun W2 d2 v2 e2 s2 hd2 h2 => k.nx W2 _ _ (e1.trans e2) s2 ((r1.x e2).set i hd2) h2
    · exact h.elim
theorem addI_ip : IpOk T addI (ipI fun i j => i + j) := fun W x y v u R Q s hx hy h k => by
  unfold addI at h
  split at h
  · exact ⟨_, _, hx.int_inv, hy.int_inv, Then.now k s .int h⟩
  · exact h.elim
theorem subO_ip : IpOk T subO (ipI fun i j => i - j) := fun W x y v u R Q s hx hy h k => by
  unfold subO at h
  split at h
  · exact ⟨_, _, hx.int_inv, hy.int_inv, Then.now k s .int h⟩
  · exact h.elim
end
end Dn

/-! DnLoop: for, while, comprehensions, calls of defs. -/
namespace Dn
open PySem PySem.Spec PyProof.Rows L2
section
variable {X : Cx} {T : Tx} {own : List Nat} {a b c e tg iter elt : Expr} {ta tb tc te : TEx} {pos : Pos} {body : List Stmt}
theorem drop_cons {α : Type} {l : List α} {i : Nat} {x : α} (h : l[i]? = some x) : l.drop i = x :: l.drop (i + 1) := by
  obtain ⟨h1, h2⟩ := List.getElem?_eq_some_iff.mp h
  rw [List.drop_eq_getElem_cons h1, h2]
theorem ds_for {it : TAr} {g : TGt} {t : TSt} (hc : X.calm = true) (hi : PI X tg iter (lI T it)) (hg : PG X tg (lG T own g)) (hb : PSs X body (lS T t)) (hp : PassesOwn (model X.prog X.w) X.A X.env X.xe)
    (hs : ∀ x, foldedSetIterable iter X.env x = pure x := by intro _; rfl) : PS X (.For tg iter body [] pos) (lS T (foS it g t)) :=
  ps_imp (ps_for hp hc hi hg hb hs) fun Z σ H ⟨W, env, z, hW, s, r, k, h⟩ => by
    subst hW
    refine ⟨W, env, _, rfl, s, r, h, fun W1 ds J e1 s1 wk h1 => ?_⟩
    refine ⟨fun i m σ' H' => m = ds.length - i ∧ i ≤ ds.length ∧ ∃ (W2 : Wd) (env2 : Env), W2.H = H' ∧ Ext W1 W2 ∧ RelS T W2 ∧ RelE T W2 env2 σ' ∧ forGo g t z (ds.drop i) env2 W2.S,
      ⟨ds.length, rfl, Nat.zero_le _, W1, env, rfl, .refl W1, s1, r.x e1, h1⟩, fun i m σ' H' ⟨hm, hle, W2, env2, hW2, e2, s2, r2, h2⟩ => ?_⟩
    subst hW2
    by_cases hi : i < ds.length
    · have hx : ds[i]? = some ds[i] := List.getElem?_eq_getElem hi
      rw [drop_cons hx] at h2
      refine .inr ⟨wk.go W2 i e2.toExt1 s2 hi, fun σ3 H3 => ∃ (W3 : Wd) (env3 : Env), W3.H = H3 ∧ Ext W1 W3 ∧ RelS T W3 ∧ RelE T W3 env3 σ3 ∧ forGo g t z (ds.drop (i + 1)) env3 W3.S, fun σ3 H3 q => ?_, fun x H3 hy => ?_⟩
      · exact ⟨ds.length - (i + 1), by omega, rfl, hi, q⟩
      · obtain ⟨W3, q1, q2, q3, q4, q5⟩ := wk.yld W2 i ds[i] x H3 e2.toExt1 s2 hx hy
        subst q1
        refine ⟨W3, env2, ds[i], _, rfl, q4, r2.x q3, q5, by rw [q2]; exact h2, fun W4 env4 σ4 e4 s4 r4 _ h4 => ?_⟩
        have e14 : Ext W1 W4 := (e2.trans q3).trans e4
        have e04 : Ext W W4 := e1.trans e14
        exact ⟨W4, env4, { z with nx := forGo g t z (ds.drop (i + 1)), ct := forGo g t z (ds.drop (i + 1)), bk := z.nx }, rfl, s4, r4, ⟨fun W5 env5 σ5 e5 s5 r5 h5 => ⟨W5, env5, rfl, e14.trans e5, s5, r5, h5⟩, fun W5 d v e5 s5 hd h5 => k.rt W5 d v (e04.trans e5) s5 hd h5,
          fun W5 env5 σ5 e5 s5 r5 h5 => k.nx W5 env5 σ5 (e04.trans e5) s5 r5 h5, fun W5 env5 σ5 e5 s5 r5 h5 => ⟨W5, env5, rfl, e14.trans e5, s5, r5, h5⟩⟩, h4⟩
    · have ei : i = ds.length := by omega
      rw [ei, List.drop_length] at h2
      refine .inl ⟨by rw [ei]; exact wk.stop W2 e2.toExt1 s2, k.nx W2 env2 σ' (e1.trans e2) s2 r2 h2⟩
theorem ds_while {tt : TTs} {t : TSt} (hc : PT X c (lT T tt)) (hb : PSs X body (lS T t)) (hp : PassesOwn (model X.prog X.w) X.A X.env X.xe) : PS X (.While c body [] pos) (lS T (whS tt t)) :=
  ps_imp (ps_while hp hc hb) fun Z σ H ⟨W, env, z, hW, s, r, k, h⟩ => by
    subst hW
    obtain ⟨V, ⟨m0, h0⟩, turn⟩ := h
    refine ⟨fun m σ' H' => ∃ (W2 : Wd) (env2 : Env), W2.H = H' ∧ Ext W W2 ∧ RelS T W2 ∧ RelE T W2 env2 σ' ∧ V m env2 W2.S, ⟨m0, W, env, rfl, .refl W, s, r, h0⟩, fun m σ' H' ⟨W2, env2, hW2, e2, s2, r2, h2⟩ => ?_⟩
    subst hW2
    refine lT.go (t := tt) s2 r2 (turn m env2 W2.S h2) fun W3 b e3 s3 r3 h3 => ?_
    have e03 := e2.trans e3
    cases b with
    | true =>
      simp only [if_true]
      refine ⟨fun σ4 H4 => ∃ m', m' < m ∧ ∃ (W4 : Wd) (env4 : Env), W4.H = H4 ∧ Ext W W4 ∧ RelS T W4 ∧ RelE T W4 env4 σ4 ∧ V m' env4 W4.S, fun σ4 H4 q => q, W3, env2, _, rfl, s3, r3, ?_, h3⟩
      exact ⟨fun W5 env5 σ5 e5 s5 r5 ⟨m', q1, q2⟩ => ⟨m', q1, W5, env5, rfl, e03.trans e5, s5, r5, q2⟩, fun W5 d v e5 s5 hd h5 => k.rt W5 d v (e03.trans e5) s5 hd h5,
        fun W5 env5 σ5 e5 s5 r5 h5 => k.nx W5 env5 σ5 (e03.trans e5) s5 r5 h5, fun W5 env5 σ5 e5 s5 r5 ⟨m', q1, q2⟩ => ⟨m', q1, W5, env5, rfl, e03.trans e5, s5, r5, q2⟩⟩
    | false =>
      simp only [Bool.false_eq_true, if_false]
      exact k.nx W3 env2 σ' e03 s3 r3 h3

/-! ### comprehensions -/
theorem RelE.wipes {W : Wd} {env : Env} {σ : L2.St} (h : RelE T W env σ) : ∀ vs : List Nat, RelE T W (wipD env vs) (L2.wipe σ vs)
  | [] => h
  | v :: vs => RelE.wipe (RelE.wipes h vs) v
theorem dts_nil : PTs X [] (lT T yesT) := ⟨fun pins s σ H Q I ⟨W, env, hW, s', r, R, h, k⟩ => by
  subst hW
  exact (pts_nil (X := X)).run pins s σ W.H Q I (k W true (.refl W) s' h)⟩
theorem dts_one {t : TTs} (h : PT X c (lT T t)) : PTs X [c] (lT T t) := pts_one h
/-- the list that is filled comes into the world -/
def Wd.hide (W : Wd) (p : Addr) (o : HO) : Wd := ⟨upd W.H p o, W.ρ, W.S, p :: W.hid⟩
theorem ext_hide {W : Wd} {p : Addr} {o : HO} (n : W.H p = none) : Ext1 W (W.hide p o) :=
  ⟨Nat.le_refl _, fun _ _ => rfl, fun a x h l => ⟨by show upd W.H p o a = _; rw [upd_ne (ne_of_none h n)]; exact h, fun l' => by
    rcases l' with l' | l'
    · exact l (.inl l')
    · rcases List.mem_cons.mp l' with e | l'
      · rw [e, n] at h; cases h
      · exact l (.inr l')⟩⟩
theorem rel_hide {W : Wd} {p : Addr} {o : HO} (s : RelS T W) (n : W.H p = none) : RelS T (W.hide p o) := by
  refine ⟨s.inj, fun k c h => (s.ok k c h).x1 (ext_hide n) fun hm => ?_, fun a h => ?_⟩
  · obtain ⟨x, e⟩ := cel_some s ⟨k, c, h, hm, rfl⟩
    show upd W.H p o (W.ρ k) = _
    rw [upd_ne (ne_of_none e n)]
  · rcases List.mem_cons.mp h with h | h
    · subst h
      refine ⟨⟨o, upd_same⟩, fun l => ?_⟩
      obtain ⟨x, q⟩ := cel_some s l
      rw [n] at q
      cases q
    · obtain ⟨⟨x, q⟩, l⟩ := s.hid a h
      exact ⟨⟨x, by show upd W.H p o a = _; rw [upd_ne (ne_of_none q n)]; exact q⟩, l⟩
/-- .. and is written -/
def Wd.fill (W : Wd) (p : Addr) (o : HO) : Wd := ⟨upd W.H p o, W.ρ, W.S, W.hid⟩
theorem ext_fill {W : Wd} {p : Addr} {o : HO} (hp : p ∈ W.hid) : Ext1 W (W.fill p o) :=
  ⟨Nat.le_refl _, fun _ _ => rfl, fun a x h l => ⟨by show upd W.H p o a = _; rw [upd_ne (fun e => l (.inr (by rw [e]; exact hp)))]; exact h, l⟩⟩
theorem rel_fill {W : Wd} {p : Addr} {o : HO} (s : RelS T W) (hp : p ∈ W.hid) : RelS T (W.fill p o) := by
  obtain ⟨⟨x0, q0⟩, l0⟩ := s.hid p hp
  refine ⟨s.inj, fun k c h => (s.ok k c h).x1 (ext_fill hp) fun hm => ?_, fun a h => ?_⟩
  · show upd W.H p o (W.ρ k) = _
    rw [upd_ne (fun e => l0 ⟨k, c, h, hm, e⟩)]
  · obtain ⟨⟨x, q⟩, l⟩ := s.hid a h
    by_cases e : a = p
    · subst e
      exact ⟨⟨o, upd_same⟩, l⟩
    · exact ⟨⟨x, by show upd W.H p o a = _; rw [upd_ne e]; exact q⟩, l⟩
/-- .. and goes -/
def Wd.show_ (W : Wd) (l : List Addr) : Wd := ⟨W.H, W.ρ, W.S, l⟩
theorem ext_show {W : Wd} {l : List Addr} {p : Addr} (h : W.hid = p :: l) : Ext1 W (W.show_ l) :=
  ⟨Nat.le_refl _, fun _ _ => rfl, fun a x q nl => ⟨q, fun l' => nl (l'.imp id fun z => by rw [h]; exact List.mem_cons_of_mem _ z)⟩⟩
theorem rel_show {W : Wd} {l : List Addr} {p : Addr} (s : RelS T W) (h : W.hid = p :: l) : RelS T (W.show_ l) :=
  ⟨s.inj, fun k c q => (s.ok k c q).x1 (ext_show h) fun _ => rfl, fun a q => s.hid a (by rw [h]; exact List.mem_cons_of_mem _ q)⟩
theorem wipe_twice (σ : L2.St) (vs : List Nat) : L2.wipe (L2.wipe σ vs) vs = L2.wipe σ vs := by
  apply List.ext_getElem?
  intro j
  rw [wipe_at, wipe_at]
  by_cases h : j ∈ vs
  · rw [if_pos h, if_pos h]
    cases σ[j]? <;> rfl
  · rw [if_neg h]
theorem lc_ok {W : Wd} {env : Env} {σ : L2.St} {it : TAr} {g : TGt} {tt : TTs} {el : TEx} {z : KDs} {Q : VK} (s : RelS T W) (r : RelE T W env σ) (h : it env W.S fun xs S1 => lcGo g tt el (wipD env own) xs [] S1 z)
    (k : ∀ (W1 W2 : Wd) (p : Addr) (ds : List D) (ws : List V), Ext W W1 → RelS T W1 → W1.H p = none → Ext1 (W1.hide p (.lst [])) W2 → W2.hid = p :: W1.hid → (∀ a, a ∈ W1.hid → W2.H a = W1.H a) → RelS T W2 → W2.H p = some (.lst ws) → RDs T W2 ds ws → z ds W2.S → Q (.ref p) W2.H) :
    tLc (lI T it) (lG T own g) (lT T tt) (lE T el) own σ W.H Q := by
  refine ⟨W, env, _, rfl, s, r, h, fun W1 ds J e1 s1 wk h1 p np => ?_⟩
  have r1 : RelE T W1 (wipD env own) (L2.wipe σ own) := RelE.wipes (r.x e1) own
  refine ⟨fun i m H' => m = ds.length - i ∧ i ≤ ds.length ∧ ∃ (W2 : Wd) (acc : List D) (ws : List V), W2.H = H' ∧ Ext1 (W1.hide p (.lst [])) W2 ∧ W2.hid = p :: W1.hid ∧ (∀ a, a ∈ W1.hid → W2.H a = W1.H a) ∧ RelS T W2 ∧ W2.H p = some (.lst ws) ∧ RDs T W2 acc ws ∧ acc.length ≤ i ∧
    lcGo g tt el (wipD env own) (ds.drop i) acc W2.S z, ⟨ds.length, rfl, Nat.zero_le _, W1.hide p (.lst []), [], [], rfl, (Ext.refl _).toExt1, rfl, fun a ha => ?_, rel_hide s1 np, upd_same, .nil, Nat.le_refl _, h1⟩, ?_⟩
  · obtain ⟨⟨x, q⟩, _⟩ := s1.hid a ha
    show upd W1.H p (.lst []) a = _
    rw [upd_ne (ne_of_none q np)]
  rintro i m H' ⟨hm, hle, W2, acc, ws, rfl, e2, hh, hs, s2, hp, ra, hl, h2⟩
  have ext0 : Ext1 W1 W2 := (ext_hide np).trans e2
  by_cases hi : i < ds.length
  · have hx : ds[i]? = some ds[i] := List.getElem?_eq_getElem hi
    rw [drop_cons hx] at h2
    refine .inr ⟨wk.go W2 i ext0 s2 hi, fun H3 => ∃ (W3 : Wd) (acc : List D) (ws : List V), W3.H = H3 ∧ Ext1 (W1.hide p (.lst [])) W3 ∧ W3.hid = p :: W1.hid ∧ (∀ a, a ∈ W1.hid → W3.H a = W1.H a) ∧ RelS T W3 ∧ W3.H p = some (.lst ws) ∧ RDs T W3 acc ws ∧ acc.length ≤ i + 1 ∧
      lcGo g tt el (wipD env own) (ds.drop (i + 1)) acc W3.S z, fun H3 q => ⟨ds.length - (i + 1), by omega, rfl, hi, q⟩, fun x H3 hy => ?_⟩
    obtain ⟨W3, q1, q2, q3, q4, q5⟩ := wk.yld W2 i ds[i] x H3 ext0 s2 hx hy
    subst q1
    have r3 : RelE T W3 (wipD env own) (L2.wipe σ own) := r1.x1 (ext0.trans q3.toExt1)
    refine ⟨W3, wipD env own, ds[i], _, rfl, q4, r3, q5, by rw [q2]; exact h2, fun W4 env4 σ4 e4 s4 r4 w4 h4 => ⟨?_, ?_⟩⟩
    · rw [w4]
      exact wipe_twice σ own
    have e24 : Ext W2 W4 := q3.trans e4
    refine lT.go (t := tt) s4 r4 h4 fun W5 b e5 s5 r5 h5 => ?_
    have e25 : Ext W2 W5 := e24.trans e5
    have back : ∀ W6, Ext W2 W6 → Ext1 (W1.hide p (.lst [])) W6 ∧ W6.hid = p :: W1.hid ∧ (∀ a, a ∈ W1.hid → W6.H a = W1.H a) ∧ W6.H p = some (.lst ws) := fun W6 e6 =>
      ⟨e2.trans e6.toExt1, e6.hid.trans hh, fun a ha => (e6.same a (by rw [hh]; exact List.mem_cons_of_mem _ ha)).trans (hs a ha), (e6.same p (by rw [hh]; exact List.mem_cons_self)).trans hp⟩
    cases b with
    | true =>
      simp only [if_true]
      refine lE.go (t := el) s5 r5 h5 fun W6 d v e6 s6 r6 hd h6 => ?_
      have e26 : Ext W2 W6 := e25.trans e6
      obtain ⟨b1, b2, b3, b4⟩ := back W6 e26
      have hp6 : p ∈ W6.hid := by rw [b2]; exact List.mem_cons_self
      have hlen : ws.length = acc.length := ra.length
      refine ⟨ws, b4, by have := wk.size; omega, W6.fill p (.lst (ws ++ [v])), acc ++ [d], ws ++ [v], rfl, b1.trans (ext_fill hp6), b2, fun a ha => ?_, rel_fill s6 hp6, upd_same, ?_, by simp; omega, h6⟩
      · show upd W6.H p _ a = _
        rw [upd_ne (fun e => ?_)]
        · exact b3 a ha
        · obtain ⟨⟨x0, q⟩, _⟩ := s1.hid a ha
          rw [e, np] at q
          cases q
      · exact ((ra.x e26).append (.one hd)).x1 (ext_fill hp6)
    | false =>
      simp only [Bool.false_eq_true, if_false]
      obtain ⟨b1, b2, b3, b4⟩ := back W5 e25
      exact ⟨W5, acc, ws, rfl, b1, b2, b3, s5, b4, ra.x e25, by omega, h5⟩
  · have ei : i = ds.length := by omega
    rw [ei, List.drop_length] at h2
    exact .inl ⟨by rw [ei]; exact wk.stop W2 ext0 s2, k W1 W2 p acc ws e1 s1 np e2 hh hs s2 hp ra h2⟩
/-- behind it: the list is data -/
theorem Then.lc {W W1 W2 : Wd} {p : Addr} {ds : List D} {ws : List V} {R : KD} {Q : VK} (k : Then T W R Q) (e1 : Ext W W1) (s1 : RelS T W1) (np : W1.H p = none) (e2 : Ext1 (W1.hide p (.lst [])) W2) (hh : W2.hid = p :: W1.hid) (hs : ∀ a, a ∈ W1.hid → W2.H a = W1.H a) (s2 : RelS T W2) (hp : W2.H p = some (.lst ws)) (rd : RDs T W2 ds ws)
    (h : R (.lst ds) W2.S) : Q (.ref p) W2.H := by
  have e3 : Ext1 W2 (W2.show_ W1.hid) := ext_show hh
  refine k (W2.show_ W1.hid) (.lst ds) (.ref p) (e1.trans ⟨((ext_hide np).trans e2).trans e3, rfl, hs⟩) (rel_show s2 hh) ?_ h
  unfold RD
  refine ⟨p, ws, rfl, hp, fun l => ?_, rd.x1 e3⟩
  rcases l with l | l
  · exact (s2.hid p (by rw [hh]; exact List.mem_cons_self)).2 l
  · obtain ⟨⟨x, q⟩, _⟩ := s1.hid p l
    rw [np] at q
    cases q
/-- behind it: the list is a new cell -/
def Wd.own_ (W : Wd) (p : Addr) (c : Cell) (l : List Addr) : Wd := ⟨W.H, fun n => if n = W.S.length then p else W.ρ n, W.S ++ [c], l⟩
theorem own_cel {W : Wd} {p : Addr} {c : Cell} {l : List Addr} {a : Addr} (h : (W.own_ p c l).cel a) : W.cel a ∨ a = p := by
  obtain ⟨k, c', h1, h2, h3⟩ := h
  have h3' : (if k = W.S.length then p else W.ρ k) = a := h3
  rcases get_snoc h1 with ⟨hk, h1⟩ | ⟨hk, h1⟩
  · rw [if_neg (by omega)] at h3'
    exact .inl ⟨k, c', h1, h2, h3'⟩
  · rw [if_pos hk] at h3'
    exact .inr h3'.symm
theorem ext_own {W : Wd} {p : Addr} {c : Cell} {l : List Addr} (h : W.hid = p :: l) : Ext1 W (W.own_ p c l) := by
  refine ⟨by show _ ≤ (W.S ++ [c]).length; simp, fun k hk => ?_, fun a x q nl => ⟨q, fun l' => ?_⟩⟩
  · show (if k = W.S.length then p else W.ρ k) = _
    rw [if_neg (by omega)]
  · rcases l' with l' | l'
    · rcases own_cel l' with l' | l'
      · exact nl (.inl l')
      · exact nl (.inr (by rw [h, l']; exact List.mem_cons_self))
    · exact nl (.inr (by rw [h]; exact List.mem_cons_of_mem _ l'))
theorem rel_own {W : Wd} {p : Addr} {c : Cell} {l : List Addr} (s : RelS T W) (h : W.hid = p :: l) (hnl : p ∉ l) (hc : RC T (W.own_ p c l) c p) : RelS T (W.own_ p c l) := by
  have hp := s.hid p (by rw [h]; exact List.mem_cons_self)
  refine ⟨fun k m c1 c2 h1 m1 h2 m2 e => ?_, fun k c' q => ?_, fun a q => ⟨(s.hid a (by rw [h]; exact List.mem_cons_of_mem _ q)).1, fun l' => ?_⟩⟩
  · have e' : (if k = W.S.length then p else W.ρ k) = (if m = W.S.length then p else W.ρ m) := e
    rcases get_snoc h1 with ⟨hk, h1⟩ | ⟨hk, h1⟩
    · rw [if_neg (by omega)] at e'
      rcases get_snoc h2 with ⟨hk2, h2⟩ | ⟨hk2, h2⟩
      · rw [if_neg (by omega)] at e'
        exact s.inj k m c1 c2 h1 m1 h2 m2 e'
      · rw [if_pos hk2] at e'
        exact absurd ⟨k, c1, h1, m1, e'⟩ hp.2
    · rw [if_pos hk] at e'
      rcases get_snoc h2 with ⟨hk2, h2⟩ | ⟨hk2, h2⟩
      · rw [if_neg (by omega)] at e'
        exact absurd ⟨m, c2, h2, m2, e'.symm⟩ hp.2
      · omega
  · show RC T (W.own_ p c l) c' (if k = W.S.length then p else W.ρ k)
    rcases get_snoc q with ⟨hk, q⟩ | ⟨hk, q⟩
    · rw [if_neg (by omega)]
      exact (s.ok k c' q).x1 (ext_own h) fun _ => rfl
    · rw [if_pos hk, q]
      exact hc
  · rcases own_cel l' with l' | l'
    · exact (s.hid a (by rw [h]; exact List.mem_cons_of_mem _ q)).2 l'
    · exact hnl (l' ▸ q)
theorem Then.lcC {W W1 W2 : Wd} {p : Addr} {ds : List D} {ws : List V} {R : KD} {Q : VK} (k : Then T W R Q) (e1 : Ext W W1) (s1 : RelS T W1) (np : W1.H p = none) (e2 : Ext1 (W1.hide p (.lst [])) W2) (hh : W2.hid = p :: W1.hid) (hs : ∀ a, a ∈ W1.hid → W2.H a = W1.H a) (s2 : RelS T W2) (hp : W2.H p = some (.lst ws)) (rd : RDs T W2 ds ws)
    (h : R (.loc W2.S.length) (W2.S ++ [.lst ds])) : Q (.ref p) W2.H := by
  have e3 : Ext1 W2 (W2.own_ p (.lst ds) W1.hid) := ext_own hh
  refine k (W2.own_ p (.lst ds) W1.hid) (.loc W2.S.length) (.ref p) (e1.trans ⟨((ext_hide np).trans e2).trans e3, rfl, hs⟩) (rel_own s2 hh (fun l => ?_) ⟨ws, hp, rd.x1 e3⟩) ?_ h
  · obtain ⟨⟨x, q⟩, _⟩ := s1.hid p l
    rw [np] at q
    cases q
  · unfold RD
    refine ⟨by show _ < (W2.S ++ [_]).length; simp, ?_⟩
    show V.ref p = .ref (if W2.S.length = W2.S.length then p else W2.ρ W2.S.length)
    rw [if_pos rfl]
end
end Dn

/-! DnIter: what a for walks; the comprehensions' rules; calls. -/
namespace Dn
open PySem PySem.Spec PyProof.Rows L2
/-- no list, no tuple is too long -/
def Sized (K : PySem.W.Frag) (H : Hp) : Prop := ∀ a xs, SqL K H a xs ∨ SqT K H a xs → xs.length ≤ sizeLine
section
variable {X : Cx} {T : Tx} {own : List Nat} {a b c e tg iter elt : Expr} {ta tb tc te : TEx} {pos : Pos}
theorem sized {pins : List (Addr × Obj)} {s : Shared} {σ : L2.St} {H : Hp} (I : Inv X pins σ H s) : Sized X.K H := fun a xs h => by
  rcases h with h | h
  · exact (I.list h).choose_spec.2.2
  · exact (I.tuple h).choose_spec.2.2
theorem pe_sized {t : L2.TE} (h : PE X e t) : PE X e (fun σ H Q => t σ H fun v H1 => Sized X.K H1 → Q v H1) :=
  ⟨fun pins s σ H Q I q => thn (h.run pins s σ H _ I q) fun v s1 ⟨x, H1, I1, r1, q1⟩ => ⟨x, H1, I1, r1, q1 (sized I1)⟩⟩
theorem pa_sized {es : List Expr} {t : L2.TA} (h : PA X es t) : PA X es (fun σ H Q => t σ H fun v H1 => Sized X.K H1 → Q v H1) :=
  ⟨fun ps pins s σ H Q I q => thn (h.run ps pins s σ H _ I q) fun v s1 ⟨x, H1, I1, r1, q1⟩ => ⟨x, H1, I1, r1, q1 (sized I1)⟩⟩
/-- a list or a tuple -/
theorem pi_seq {t : L2.TE} (h : PE X iter t) : PI X tg iter (fun σ H R => t σ H fun x H1 => ∃ a, x = .ref a ∧ ((∃ xs, SqL X.K H1 a xs ∧ R (Itl X.K a) H1) ∨ (∃ xs, SqT X.K H1 a xs ∧ R (Itt X.K a) H1))) := by
  refine ⟨fun pins s σ H R I hq => thn (h.run pins s σ H _ I hq) fun v s1 ⟨x, H1, I1, r1, a, ea, q⟩ => ?_⟩
  subst ea
  cases r1
  have fresh : ∀ b ∈ [s1.heap.objs.size], FpOk X pins H1 b := fun b hb => by
    rw [List.mem_singleton.mp hb]
    exact I1.fpOk (Nat.le_refl _) I1.fresh
  rcases q with ⟨xs, hx, q⟩ | ⟨xs, hx, q⟩
  · obtain ⟨its, _, p, _⟩ := I1.list hx
    exact wpAny_pyIter_list p.isList ⟨_, [s1.heap.objs.size], _, _, H1, rfl, I1.kept (t' := s1.toks) (fun b o z => Heap.get?_push_of_some _ z), turn_list a _, ⟨_, Heap.get?_push_size _ rfl, rfl, rfl⟩, fresh, q⟩
  · obtain ⟨its, _, p, _⟩ := I1.tuple hx
    exact wpAny_pyIter_tuple (show s1.heap.IsTuple a its.toArray from p) ⟨_, [s1.heap.objs.size], _, _, H1, rfl, I1.kept (t' := s1.toks) (fun b o z => Heap.get?_push_of_some _ z), turn_tuple a _, ⟨_, Heap.get?_push_size _ rfl, rfl, rfl⟩, fresh, q⟩
theorem walkD_lst {W : Wd} {ds : List D} {p : Addr} (r : RD T W (.lst ds) (.ref p)) (hz : ds.length ≤ sizeLine) : WalkD T W (Itl T.K p) ds := by
  have at_ : ∀ W2 : Wd, Ext1 W W2 → ∃ vs, SqL T.K W2.H p vs ∧ RDs T W2 ds vs := fun W2 e => by
    have q := r.x1 e
    unfold RD at q
    obtain ⟨p', vs, e', q1, _, q2⟩ := q
    cases e'
    exact ⟨vs, .of q1, q2⟩
  refine ⟨hz, fun W2 i e _ hi => ?_, fun W2 e _ => ?_, fun W2 i d x H' e s hd hy => ?_⟩
  · obtain ⟨vs, q1, q2⟩ := at_ W2 e
    obtain ⟨v, g1, _⟩ := q2.get (List.getElem?_eq_getElem hi)
    exact ⟨vs, v, q1, g1⟩
  · obtain ⟨vs, q1, q2⟩ := at_ W2 e
    exact ⟨vs, q1, by rw [q2.length]; exact Nat.le_refl _⟩
  · obtain ⟨vs, q1, q2⟩ := at_ W2 e
    obtain ⟨v, g1, g2⟩ := q2.get hd
    obtain ⟨e1, e2⟩ := hy
    have e3 := (e2 vs q1).symm.trans g1
    cases e3
    exact ⟨W2, e1.symm, rfl, .refl W2, s, g2⟩
theorem walkD_tup {W : Wd} {ds : List D} {p : Addr} (r : RD T W (.tup ds) (.ref p)) (hz : ds.length ≤ sizeLine) : WalkD T W (Itt T.K p) ds := by
  have at_ : ∀ W2 : Wd, Ext1 W W2 → ∃ vs, SqT T.K W2.H p vs ∧ RDs T W2 ds vs := fun W2 e => by
    obtain ⟨p', vs, e', q1, q2⟩ := (r.x1 e).sqT
    cases e'
    exact ⟨vs, q1, q2⟩
  refine ⟨hz, fun W2 i e _ hi => ?_, fun W2 e _ => ?_, fun W2 i d x H' e s hd hy => ?_⟩
  · obtain ⟨vs, q1, q2⟩ := at_ W2 e
    obtain ⟨v, g1, _⟩ := q2.get (List.getElem?_eq_getElem hi)
    exact ⟨vs, v, q1, g1⟩
  · obtain ⟨vs, q1, q2⟩ := at_ W2 e
    exact ⟨vs, q1, by rw [q2.length]; exact Nat.le_refl _⟩
  · obtain ⟨vs, q1, q2⟩ := at_ W2 e
    obtain ⟨v, g1, g2⟩ := q2.get hd
    obtain ⟨e1, e2⟩ := hy
    have e3 := (e2 vs q1).symm.trans g1
    cases e3
    exact ⟨W2, e1.symm, rfl, .refl W2, s, g2⟩
theorem di_S (hT : T.K = X.K) (h : PE X iter (lE T ta)) : PI X tg iter (lI T (itS ta)) :=
  pi_imp (pi_seq (pe_sized h)) fun σ H Q ⟨W, env, R, hW, s, r, h, k⟩ => by
    subst hW
    refine lE.go (t := ta) s r h fun W1 d v e1 s1 r1 hd h1 => fun hz => ?_
    split at h1
    · rename_i ds
      obtain ⟨p, vs, rfl, q1, q2⟩ := hd.sqT
      rw [← hT] at hz ⊢
      exact ⟨p, rfl, .inr ⟨vs, q1, k W1 ds _ e1 s1 (walkD_tup hd (by rw [← q2.length]; exact hz p vs (.inr q1))) h1⟩⟩
    · rename_i ds
      obtain ⟨p, vs, rfl, q1, q2⟩ := RD.sqL s1 hd (show lstOf W1.S (.lst ds) = some ds from rfl)
      rw [← hT] at hz ⊢
      exact ⟨p, rfl, .inl ⟨vs, .of q1, k W1 ds _ e1 s1 (walkD_lst hd (by rw [← q2.length]; exact hz p vs (.inl (.of q1)))) h1⟩⟩
    · exact h1.elim
theorem rngD_get : ∀ (n : Nat) (lo : Int) (i : Nat), i < n → (rngD lo n)[i]? = some (.int (lo + i))
  | 0, _, _, h => absurd h (Nat.not_lt_zero _)
  | n + 1, lo, 0, _ => by
    show some (D.int lo) = _
    simp
  | n + 1, lo, i + 1, h => by
    show (D.int lo :: rngD (lo + 1) n)[i + 1]? = _
    rw [List.getElem?_cons_succ, rngD_get n (lo + 1) i (by omega)]
    congr 2
    omega
theorem rngD_len : ∀ (n : Nat) (lo : Int), (rngD lo n).length = n
  | 0, _ => rfl
  | n + 1, lo => by
    show (rngD (lo + 1) n).length + 1 = _
    rw [rngD_len n]
theorem walkD_rng {W : Wd} {lo : Int} {n : Nat} (hn : n ≤ sizeLine) : WalkD T W (Itr lo n) (rngD lo n) := by
  refine ⟨by rw [rngD_len]; exact hn, fun W2 i _ _ hi => by rw [rngD_len] at hi; exact hi, fun W2 _ _ => by rw [rngD_len]; exact Nat.le_refl _, fun W2 i d x H' _ s hd hy => ?_⟩
  have hi : i < n := by
    have := (List.getElem?_eq_some_iff.mp hd).1
    rw [rngD_len] at this
    exact this
  rw [rngD_get n lo i hi] at hd
  cases hd
  obtain ⟨e1, e2⟩ := hy
  rw [e2]
  exact ⟨W2, e1.symm, rfl, .refl W2, s, .int⟩
theorem line62 : (sizeLine : Int) < 2 ^ 62 := by rw [sizeLine_eq]; decide
theorem di_R1 {p : Pos} (hg : Gl X "range") (hm : X.mg "range" = none) (h : PE X a (lE T ta)) (hs : starEach [a] X.env = [(false, eval a X.env)] := by rfl) : PI X tg (.Call (.Name "range" p) [a] [] pos) (lI T (itR1 ta)) :=
  pi_imp (pi_range1 hg hm (pa_cons h pa_nil hs) hs) fun σ H Q ⟨W, env, R, hW, s, r, h, k⟩ => by
    subst hW
    refine lE.go (t := ta) s r h fun W1 d v e1 s1 r1 hd h1 => ?_
    split at h1
    · rename_i n
      have hl := line62
      obtain ⟨⟨h2, h3⟩, h4⟩ := h1
      exact ⟨n, by rw [hd.int_inv], h2, by omega, k W1 _ _ e1 s1 (walkD_rng (by omega)) h4⟩
    · exact h1.elim
theorem di_R2 {p : Pos} (hg : Gl X "range") (hm : X.mg "range" = none) (h : PE X a (lE T ta)) (h' : PE X b (lE T tb)) (hs : starEach [a, b] X.env = [(false, eval a X.env), (false, eval b X.env)] := by rfl) (hs2 : starEach [b] X.env = [(false, eval b X.env)] := by rfl) :
    PI X tg (.Call (.Name "range" p) [a, b] [] pos) (lI T (itR2 ta tb)) :=
  pi_imp (pi_range2 hg hm (pa_cons h (pa_cons h' pa_nil hs2) (hs.trans (congrArg _ hs2.symm))) hs hs2) fun σ H Q ⟨W, env, R, hW, s, r, h, k⟩ => by
    subst hW
    unfold iRng2 tCons
    refine lE.go (t := ta) s r h fun W1 d v e1 s1 r1 hd h1 => ?_
    refine lE.go (t := tb) s1 r1 h1 fun W2 d2 v2 e2 s2 r2 hd2 h2 => ?_
    split at h2
    · rename_i lo hi
      obtain ⟨⟨q1, q2, q3, q4, q5⟩, q6⟩ := h2
      exact ⟨lo, hi, by rw [(hd.x e2).int_inv, hd2.int_inv], ⟨q1, q2, q3, q4⟩, k W2 _ _ (e1.trans e2) s2 (walkD_rng (by omega)) q6⟩
    · exact h2.elim
theorem enumD_get : ∀ (ds : List D) (i : Int) (j : Nat) (d : D), ds[j]? = some d → (enumD i ds)[j]? = some (.tup [.int (i + j), d])
  | [], _, _, _, h => by simp at h
  | x :: r, i, 0, d, h => by
    have e : x = d := by simpa using h
    subst e
    show some (D.tup [.int i, x]) = _
    simp
  | x :: r, i, j + 1, d, h => by
    show (D.tup [.int i, x] :: enumD (i + 1) r)[j + 1]? = _
    rw [List.getElem?_cons_succ, enumD_get r (i + 1) j d (by simpa using h)]
    congr 4
    omega
theorem enumD_len : ∀ (ds : List D) (i : Int), (enumD i ds).length = ds.length
  | [], _ => rfl
  | x :: r, i => by
    show (enumD (i + 1) r).length + 1 = _
    rw [enumD_len r]
    rfl
/-- a new pair, in a world -/
theorem new_pair {W2 : Wd} {p : Addr} {x y : D} {v u : V} (s : RelS T W2) (np : W2.H p = none) (h1 : RD T W2 x v) (h2 : RD T W2 y u) : ∃ W3 : Wd, W3.H = upd W2.H p (.tup [v, u]) ∧ W3.S = W2.S ∧ Ext W2 W3 ∧ RelS T W3 ∧ RD T W3 (.tup [x, y]) (.ref p) :=
  ⟨W2.add p (.tup [v, u]), rfl, rfl, ext_addS s np, rel_add s np, rd_tup s np (.cons h1 (.one h2))⟩
theorem walkD_enum {W : Wd} {ds : List D} {p : Addr} (r : RD T W (.lst ds) (.ref p)) (hz : ds.length ≤ sizeLine) : WalkD T W (Ite T.K p) (enumD 0 ds) := by
  have at_ : ∀ W2 : Wd, Ext1 W W2 → ∃ vs, SqL T.K W2.H p vs ∧ RDs T W2 ds vs := fun W2 e => by
    have q := r.x1 e
    unfold RD at q
    obtain ⟨p', vs, e', q1, _, q2⟩ := q
    cases e'
    exact ⟨vs, .of q1, q2⟩
  refine ⟨by rw [enumD_len]; exact hz, fun W2 i e _ hi => ?_, fun W2 e _ => ?_, fun W2 i d x H' e s hd hy => ?_⟩
  · obtain ⟨vs, q1, q2⟩ := at_ W2 e
    rw [enumD_len] at hi
    obtain ⟨v, g1, _⟩ := q2.get (List.getElem?_eq_getElem hi)
    exact ⟨vs, v, q1, g1⟩
  · obtain ⟨vs, q1, q2⟩ := at_ W2 e
    exact ⟨vs, q1, by rw [q2.length, enumD_len]; exact Nat.le_refl _⟩
  · obtain ⟨vs, q1, q2⟩ := at_ W2 e
    have hi : i < ds.length := by
      have := (List.getElem?_eq_some_iff.mp hd).1
      rw [enumD_len] at this
      exact this
    rw [enumD_get ds 0 i ds[i] (List.getElem?_eq_getElem hi)] at hd
    obtain ⟨v, g1, g2⟩ := q2.get (List.getElem?_eq_getElem hi)
    obtain ⟨t, y, rfl, nt, rfl, f⟩ := hy
    have e3 := (f vs q1).symm.trans g1
    cases e3
    obtain ⟨W3, w1, w2, w3, w4, w5⟩ := new_pair s nt (RD.int (i := (i : Nat))) g2
    refine ⟨W3, w1, w2, w3, w4, ?_⟩
    have e4 : d = .tup [.int (i : Nat), ds[i]] := by
      rw [← Option.some.inj hd]
      simp
    rw [e4]
    exact w5
theorem di_En {p tpos : Pos} {elts : List Expr} {kk : Nat} (hT : T.K = X.K) (hg : Gl X "enumerate") (hm : X.mg "enumerate" = none) (h : PE X a (lE T ta)) (hs : starEach [a] X.env = [(false, eval a X.env)] := by rfl) :
    PI X (.Tuple elts kk tpos) (.Call (.Name "enumerate" p) [a] [] pos) (lI T (itEnL ta)) :=
  pi_imp (pi_enum hg hm (pa_cons (pe_sized h) pa_nil hs) hs) fun σ H Q ⟨W, env, R, hW, s, r, h, k⟩ => by
    subst hW
    unfold iEnum tCons
    refine lE.go (t := ta) s r h fun W1 d v e1 s1 r1 hd h1 => fun hz => ?_
    split at h1
    · rename_i ds
      obtain ⟨p, vs, rfl, q1, q2⟩ := RD.sqL s1 hd (show lstOf W1.S (.lst ds) = some ds from rfl)
      rw [← hT] at hz ⊢
      exact ⟨p, vs, rfl, .of q1, k W1 _ _ e1 s1 (walkD_enum hd (by rw [← q2.length]; exact hz p vs (.inl (.of q1)))) h1⟩
    · exact h1.elim

/-! ### comprehensions -/
section
variable {ifs : List Expr} {scope : Scope} {ow : List (Str × Nat)} {it : TAr} {g : TGt} {tt : TTs} {el : TEx}
theorem de_lc (hc : X.calm = true) (hN : X.N.Nodup) (hi : PI X tg iter (lI T it)) (ok : BlkOk X.N X.env.scope scope ow)
    (hg : ∀ (s : Shared) (H : Hp) (C : Addr) (cl : List (Str × Addr)) (fp : List Addr), PG (X.blk s H scope (compEnvC scope cl C X.env) fp) tg (lG T (ow.map (·.2)) g)) (ht : ∀ (s : Shared) (H : Hp) (C : Addr) (cl : List (Str × Addr)) (fp : List Addr), PTs (X.blk s H scope (compEnvC scope cl C X.env) fp) ifs (lT T tt))
    (he : ∀ (s : Shared) (H : Hp) (C : Addr) (cl : List (Str × Addr)) (fp : List Addr), PE (X.blk s H scope (compEnvC scope cl C X.env) fp) elt (lE T el)) (hs : ∀ x, foldedSetIterable iter X.env x = pure x := by intro _; rfl) :
    PE X (.ListComp elt [⟨tg, iter, ifs, 0⟩] scope pos) (lE T (lc (ow.map (·.2)) it g tt el)) :=
  pe_imp (pe_lc hc hN hi ok hg ht he hs) fun σ H Q ⟨W, env, hW, s, r, R, h, k⟩ => by
    subst hW
    exact lc_ok s r h fun W1 W2 p ds ws e1 s1 np e2 hh hs s2 hp rd h2 => Then.lc k e1 s1 np e2 hh hs s2 hp rd h2
theorem de_lcC (hc : X.calm = true) (hN : X.N.Nodup) (hi : PI X tg iter (lI T it)) (ok : BlkOk X.N X.env.scope scope ow)
    (hg : ∀ (s : Shared) (H : Hp) (C : Addr) (cl : List (Str × Addr)) (fp : List Addr), PG (X.blk s H scope (compEnvC scope cl C X.env) fp) tg (lG T (ow.map (·.2)) g)) (ht : ∀ (s : Shared) (H : Hp) (C : Addr) (cl : List (Str × Addr)) (fp : List Addr), PTs (X.blk s H scope (compEnvC scope cl C X.env) fp) ifs (lT T tt))
    (he : ∀ (s : Shared) (H : Hp) (C : Addr) (cl : List (Str × Addr)) (fp : List Addr), PE (X.blk s H scope (compEnvC scope cl C X.env) fp) elt (lE T el)) (hs : ∀ x, foldedSetIterable iter X.env x = pure x := by intro _; rfl) :
    PE X (.ListComp elt [⟨tg, iter, ifs, 0⟩] scope pos) (lE T (lcC (ow.map (·.2)) it g tt el)) :=
  pe_imp (pe_lc hc hN hi ok hg ht he hs) fun σ H Q ⟨W, env, hW, s, r, R, h, k⟩ => by
    subst hW
    exact lc_ok s r h fun W1 W2 p ds ws e1 s1 np e2 hh hs s2 hp rd h2 => Then.lcC k e1 s1 np e2 hh hs s2 hp rd h2
/-- the same, given to a local name on its line -/
theorem ds_setLc {i : Nat} {y : Str} {py spos : Pos} (hc : X.calm = true) (hN : X.N.Nodup) (hy : X.N[i]? = some y) (hyl : X.env.scope.names.lookup y = some .local) (hsw : swapsWith (.ListComp elt [⟨tg, iter, ifs, 0⟩] scope pos) (some (.Name y py)) spos.line X.env = pure true)
    (hi : PI X tg iter (lI T it)) (ok : BlkOk X.N X.env.scope scope ow)
    (hg : ∀ (s : Shared) (H : Hp) (C : Addr) (cl : List (Str × Addr)) (fp : List Addr), PG (X.blk s H scope (compEnvC scope cl C X.env) fp) tg (lG T (ow.map (·.2)) g)) (ht : ∀ (s : Shared) (H : Hp) (C : Addr) (cl : List (Str × Addr)) (fp : List Addr), PTs (X.blk s H scope (compEnvC scope cl C X.env) fp) ifs (lT T tt))
    (he : ∀ (s : Shared) (H : Hp) (C : Addr) (cl : List (Str × Addr)) (fp : List Addr), PE (X.blk s H scope (compEnvC scope cl C X.env) fp) elt (lE T el)) (hs : ∀ x, foldedSetIterable iter X.env x = pure x := by intro _; rfl) :
    PS X (.Assign [.Name y py] (.ListComp elt [⟨tg, iter, ifs, 0⟩] scope pos) spos) (lS T (asS (lc (ow.map (·.2)) it g tt el) (gN i))) :=
  ps_imp (L2.ps_setLc hc hN hy hyl hsw hi ok hg ht he hs) fun Z σ H ⟨W, env, z, hW, s, r, k, h⟩ => by
    subst hW
    refine lc_ok (Q := fun x H1 => gName i x σ H1 Z.nx) s r h fun W1 W2 p ds ws e1 s1 np e2 hh hs s2 hp rd h2 => ?_
    exact Then.lc (Q := fun x H1 => gName i x σ H1 Z.nx) (R := fun d S => z.nx (env.set i (some d)) S) (fun W' d v e' s' hd q => k.nx W' _ _ e' s' ((r.x e').set i hd) q) e1 s1 np e2 hh hs s2 hp rd h2
theorem ds_setLcC {i : Nat} {y : Str} {py spos : Pos} (hc : X.calm = true) (hN : X.N.Nodup) (hy : X.N[i]? = some y) (hyl : X.env.scope.names.lookup y = some .local) (hsw : swapsWith (.ListComp elt [⟨tg, iter, ifs, 0⟩] scope pos) (some (.Name y py)) spos.line X.env = pure true)
    (hi : PI X tg iter (lI T it)) (ok : BlkOk X.N X.env.scope scope ow)
    (hg : ∀ (s : Shared) (H : Hp) (C : Addr) (cl : List (Str × Addr)) (fp : List Addr), PG (X.blk s H scope (compEnvC scope cl C X.env) fp) tg (lG T (ow.map (·.2)) g)) (ht : ∀ (s : Shared) (H : Hp) (C : Addr) (cl : List (Str × Addr)) (fp : List Addr), PTs (X.blk s H scope (compEnvC scope cl C X.env) fp) ifs (lT T tt))
    (he : ∀ (s : Shared) (H : Hp) (C : Addr) (cl : List (Str × Addr)) (fp : List Addr), PE (X.blk s H scope (compEnvC scope cl C X.env) fp) elt (lE T el)) (hs : ∀ x, foldedSetIterable iter X.env x = pure x := by intro _; rfl) :
    PS X (.Assign [.Name y py] (.ListComp elt [⟨tg, iter, ifs, 0⟩] scope pos) spos) (lS T (asS (lcC (ow.map (·.2)) it g tt el) (gN i))) :=
  ps_imp (L2.ps_setLc hc hN hy hyl hsw hi ok hg ht he hs) fun Z σ H ⟨W, env, z, hW, s, r, k, h⟩ => by
    subst hW
    refine lc_ok (Q := fun x H1 => gName i x σ H1 Z.nx) s r h fun W1 W2 p ds ws e1 s1 np e2 hh hs s2 hp rd h2 => ?_
    exact Then.lcC (Q := fun x H1 => gName i x σ H1 Z.nx) (R := fun d S => z.nx (env.set i (some d)) S) (fun W' d v e' s' hd q => k.nx W' _ _ e' s' ((r.x e').set i hd) q) e1 s1 np e2 hh hs s2 hp rd h2
end

/-! ### calls of the text's defs -/
/-- a def's promise, lifted -/
def lSp (T : Tx) (sp : Sp) : L2.Sp := fun vs H Q _ => ∃ (W : Wd) (ds : List D) (R : KD), W.H = H ∧ RelS T W ∧ RDs T W ds vs ∧ sp ds W.S R noX ∧ Then T W R Q
theorem de_cal {k : Nat} {f : Addr} {fd : FuncData} {ps : List Str} {sp : Sp} {x : Str} {p : Pos} {n : Nat} {es : List Expr} {t : TAr} (F : FnOk X.prog X.w X.K X.mg X.base CX0 k f fd ps (lSp T sp)) (hr : Room k X.A) (hg : Gl X x) (hm : X.mg x = some (.ref f)) (hk : PySem.W.keepIn X.K (.ref f) = true) (hb : Binds X.K fd ps [])
    (ha : PA X (e :: es) (lA T n t)) (hdb : (x == ("__debug__" : Str)) = false := by decide) (he : starEach (e :: es) X.env = (false, eval e X.env) :: starEach es X.env := by rfl) (hpl : (backTo pos (starEach es X.env)).any (·.1) = false := by rfl) :
    PE X (.Call (.Name x p) (e :: es) [] pos) (lE T (cal sp noX t)) :=
  pe_imp (pe_call F hr hg hm hk hb .nil pass0 ha hdb he hpl) fun σ H Q ⟨W, env, hW, s, r, R, h, k⟩ => by
    subst hW
    refine lA.go (t := t) s r h fun W1 ds vs e1 s1 r1 hd _ h1 => ?_
    show lSp T sp (vs ++ []) W1.H Q _
    rw [List.append_nil]
    exact ⟨W1, ds, R, rfl, s1, hd, h1, Then.x k e1⟩
theorem env_start {W : Wd} {ds : List D} {vs : List V} (N : List Str) (h : RDs T W ds vs) : RelE T W (envOf N.length ds) (L2.start N vs) := by
  have hl := h.length
  refine ⟨by simp [envOf, L2.start, hl], fun i d hd => ?_⟩
  unfold envOf at hd
  by_cases hi : i < ds.length
  · rw [List.getElem?_append_left (by simpa using hi), List.getElem?_map] at hd
    obtain ⟨x, h1, h2⟩ := Option.map_eq_some_iff.mp hd
    cases h2
    obtain ⟨v, q1, q2⟩ := h.get h1
    refine ⟨v, ?_, q2⟩
    unfold L2.start
    rw [List.getElem?_append_left (by simp; omega), List.getElem?_map, q1]
    rfl
  · rw [List.getElem?_append_right (by simpa using hi), List.getElem?_replicate] at hd
    split at hd <;> cases hd
/-- THE RULE for a def -/
theorem fn_d {P : Program} {w : World} {K : PySem.W.Frag} {mg : Str → Option Value} {base : Heap} {x qual : Str} {st : Stmt} {f : Addr} {fd : FuncData} {N ps : List Str} {k n : Nat} {bd : KX → TSt} (F : Fun K x qual st f fd) (S : FnScope N ps (defScope st)) (hn : ps.length = n)
    (h : ∀ (cdv : Value) (A : Around) (outer : List PySem.Env) (s : Shared) (H : Hp) (E : XK), Room k (A.deeper (envOfC qual (defScope st) s.heap.objs.size f cdv)) → PSs (cxOf CX0 P w K mg base N qual (defScope st) f cdv A outer s H E).nox (defBody st) (lS T (bd noX))) :
    FnOk P w K mg base CX0 (k + 1) f fd ps (lSp T (dfn N.length n bd)) := by
  refine F.ok S (fun vs H Q E ⟨W, ds, R, hW, s, hd, q, _⟩ => by rw [hd.length, q.1, hn]) fun cdv A outer s H vs Q E hr ⟨W, ds, R, hW, s', hd, q, kk⟩ => ?_
  subst hW
  refine ⟨_, h cdv A outer s W.H E hr, W, _, _, rfl, s', env_start N hd, ?_, q.2⟩
  exact ⟨fun W' env σ e' s'' r' q' => kk W' _ _ e' s'' .non q', fun W' d v e' s'' hd' q' => kk W' d v e' s'' hd' q', fun _ _ _ _ _ _ q' => q'.elim, fun _ _ _ _ _ _ q' => q'.elim⟩
end
end Dn

/-! DnDc: a dict comprehension with any keys. -/
namespace L2
open PySem PySem.Spec PyProof.Rows
section
variable {X : Cx}
/-- d[k] = v at the dict's own address, by a rule -/
def PutAll (X : Cx) (put : Addr → V → V → Hp → (Hp → Prop) → Prop) : Prop := ∀ X' : Cx, X'.prog = X.prog → X'.w = X.w → X'.K = X.K → X'.A = X.A →
  ∀ (ps : List (Addr × Obj)) (s : Shared) (σ : L2.St) (H : Hp) (D : Addr) (y v : V) (u r : Value) (Q : Hp → Prop) (E : Value → Shared → Prop), Inv X' ps σ H s → RelV y u → RelV v r → put D y v H Q → wpAny (model X'.prog X'.w) X'.A (dictSet D u r) (fun _ s' => ∃ H', Inv X' ps σ H' s' ∧ Q H') E s
def tDcX (put : Addr → V → V → Hp → (Hp → Prop) → Prop) (wit : TI) (gt : TG) (tst : TT) (tky tvy : TE) (vs : List Nat) : TE := fun σ H Q => wit σ H fun Jt H1 => ∀ D, H1 D = none → ∃ Wt : Nat → Nat → Hp → Prop, (∃ m, Wt 0 m (upd H1 D (.dK []))) ∧ ∀ i m H, Wt i m H →
  (Jt.stop i H ∧ Q (.ref D) H) ∨ (Jt.go i H ∧ ∃ Nxt : Hp → Prop, (∀ H', Nxt H' → ∃ m', m' < m ∧ Wt (i + 1) m' H') ∧ ∀ x H', Jt.yld i H x H' → gt x (wipe σ vs) H' fun σ2 G2 => wipe σ2 vs = wipe σ vs ∧ tst σ2 G2 fun b G3 =>
    if b = true then tky σ2 G3 fun y H4 => tvy σ2 H4 fun z G5 => put D y z G5 Nxt else Nxt G3)
theorem dcX_core {pns : List (Addr × Obj)} {s : Shared} {σ : St} {H : Hp} {Q : VK} {kex vax trg itx : Expr} {tests : List Expr} {scp : Scope} {owns : List (Str × Nat)} {pos pos' : Pos} {wit : TI} {gt : TG} {tst : TT} {tky tvy : TE} {usd : Option (Value → Sem Unit)} {Qfin : Value → Shared → Prop} {put : Addr → V → V → Hp → (Hp → Prop) → Prop} (hput : PutAll X put)
    (calm0 : X.calm = true) (nodupN : X.N.Nodup) (Iv : Inv X pns σ H s) (walkI : PI X trg itx wit) (blk0 : BlkOk X.N X.env.scope scp owns)
    (tgG : ∀ (s : Shared) (H : Hp) (C : Addr) (cl : List (Str × Addr)) (fps : List Addr), PG (X.blk s H scp (compEnvC scp cl C X.env) fps) trg gt) (tsT : ∀ (s : Shared) (H : Hp) (C : Addr) (cl : List (Str × Addr)) (fps : List Addr), PTs (X.blk s H scp (compEnvC scp cl C X.env) fps) tests tst)
    (keK : ∀ (s : Shared) (H : Hp) (C : Addr) (cl : List (Str × Addr)) (fps : List Addr), PE (X.blk s H scp (compEnvC scp cl C X.env) fps) kex tky)
    (vaV : ∀ (s : Shared) (H : Hp) (C : Addr) (cl : List (Str × Addr)) (fps : List Addr), PE (X.blk s H scp (compEnvC scp cl C X.env) fps) vax tvy) (sole : ∀ x, foldedSetIterable itx X.env x = pure x)
    (h : tDcX put wit gt tst tky tvy (owns.map (·.2)) σ H Q)
    (fin0 : ∀ D C s' m H', Inv X pns σ H' s' → Q (.ref D) H' → s'.heap.Ns C m → FpOk X pns H' C → compPost (model X.prog X.w) X.A X.xe usd Qfin (.ref D) C (.ok .next) s') :
    wpAny (model X.prog X.w) X.A (comprehension (.DictComp kex vax [⟨trg, itx, tests, 0⟩] scp pos) scp X.env pos' newDict false (eval itx X.env) usd) Qfin X.xe s := by
  have noFree : ∀ y ∈ scp.names, y.2 = .free → ∃ c, X.env.cells.lookup y.1 = some c := fun y inY e => by
    rcases blk0.free y inY e with k | k
    · exact Iv.ok.has _ (.inl k)
    · exact Iv.ok.has _ (.inr k)
  refine wpAny_comprehension_free (use := usd) rfl sole (closure_ok noFree) blk0.kind (fun y inY e => by rw [blk0.uniq y inY, e])
    (thn (walkI.run pns s σ H _ Iv h) fun xv z1 hx => thn hx fun itv z2 h2 => ?_)
  obtain ⟨itr, fps, tnn, Jt, G2, e, J2, T, t2, p2, q⟩ := h2
  subst e
  refine wpAny_newObj_type (newEnv_comp ?_)
  generalize eD : z2.heap.objs.size = D
  have nD : G2 D = none := J2.hok.fresh (Nat.le_of_eq eD)
  obtain ⟨Wt, ⟨mm0, wv0⟩, each⟩ := q D nD
  -- the new list
  generalize e3 : ({ z2 with heap := z2.heap.push { cls := .type "dict", data := .dict #[] } } : Shared) = z3
  have J3 : Inv X pns σ (upd G2 D (.dK [])) z3 := by
    rw [← e3]
    refine J2.laid (t' := z2.toks) (fun b o e => Heap.get?_push_of_some _ e) (Nat.le_of_eq eD) ?_
    rw [← eD]
    exact dk_empty z2.heap J2.big
  have e3h : z3.heap = z2.heap.push { cls := .type "dict", data := .dict #[] } := by rw [← e3]
  have small : ∀ b ∈ fps, b < z2.heap.objs.size := fun b inb => by
    obtain ⟨o, e, _⟩ := T.obj _ _ t2 b inb
    exact Heap.lt_size e
  have p3 : ∀ b ∈ fps, FpOk X pns (upd G2 D (.dK [])) b ∧ b < z3.heap.objs.size := fun b inb => by
    have ltb := small b inb
    refine ⟨⟨?_, (p2 b inb).2⟩, by rw [e3h, Heap.size_push]; exact Nat.lt_succ_of_lt ltb⟩
    rw [upd_ne (by rw [← eD]; exact Nat.ne_of_lt ltb)]
    exact (p2 b inb).1
  have t3 : tnn 0 z3.heap := T.keep _ _ _ t2 fun b _ o e => by rw [e3h]; exact Heap.get?_push_of_some _ e
  have J4 := block_start J3 blk0 nodupN p3
  have rg := tgG z3 (upd G2 D (.dK [])) z3.heap.objs.size (cellsFrom (z3.heap.objs.size + 1) scp.names (cloFrom X.env.cells scp.names [])) fps
  have rt := tsT z3 (upd G2 D (.dK [])) z3.heap.objs.size (cellsFrom (z3.heap.objs.size + 1) scp.names (cloFrom X.env.cells scp.names [])) fps
  have rk := keK z3 (upd G2 D (.dK [])) z3.heap.objs.size (cellsFrom (z3.heap.objs.size + 1) scp.names (cloFrom X.env.cells scp.names [])) fps
  have rv := vaV z3 (upd G2 D (.dK [])) z3.heap.objs.size (cellsFrom (z3.heap.objs.size + 1) scp.names (cloFrom X.env.cells scp.names [])) fps
  show codeAny _ _ (.compStart (.DictComp kex vax [⟨trg, itx, tests, 0⟩] scp pos) 0 (.ref itr) (.ref D) (compEnvC scp (cellsFrom (z3.heap.objs.size + 1) scp.names (cloFrom X.env.cells scp.names [])) z3.heap.objs.size X.env)) (compPost (model X.prog X.w) X.A X.xe usd Qfin (.ref D) z3.heap.objs.size) { z3 with heap := pushCells (z3.heap.push { cls := .type "dict", data := .dict #[] }) scp.names }
  have noneP : ∀ b ∈ fps, (upd G2 D (.dK [])) b = none := fun b inb => (p3 b inb).1.1
  generalize ece : compEnvC scp (cellsFrom (z3.heap.objs.size + 1) scp.names (cloFrom X.env.cells scp.names [])) z3.heap.objs.size X.env = cen at J4 rg rt rk rv ⊢
  have cLoc : cen.locals = z3.heap.objs.size := by subst ece; rfl
  generalize eH3 : upd G2 D (.dK []) = G3 at J3 J4 rg rt rk rv wv0 noneP p3
  generalize e4 : ({ z3 with heap := pushCells (z3.heap.push { cls := .type "dict", data := .dict #[] }) scp.names } : Shared) = z4 at J4 ⊢
  have t4 : tnn 0 z4.heap := T.keep _ _ _ t3 fun b _ o e => by rw [← e4]; exact pushCells_keeps _ _ _ _ (Heap.get?_push_of_some _ e)
  have still : ∀ {σ' : St} {H' : Hp} {s' : Shared}, Inv (X.blk z3 G3 scp cen fps) [] σ' H' s' → (∀ b ∈ fps, H' b = none) → ∀ b ∈ fps, FpOk (X.blk z3 G3 scp cen fps) [] H' b := fun {σ' H' s'} I' nsC b inb =>
    ⟨nsC b inb, (I'.ok.exf b inb).1, I'.ok.exfs b inb, .inl inb, fun x c e => (I'.ok.exf b inb).2 x c e, fun p hp => absurd (show p ∈ ([] : List (Addr × Obj)) ++ [] from hp) (by simp)⟩
  have goes : codeAny (model X.prog X.w) X.A (.compLoop (.DictComp kex vax [⟨trg, itx, tests, 0⟩] scp pos) 0 (.ref itr) (.ref D) cen) (compPost (model X.prog X.w) X.A X.xe usd Qfin (.ref D) z3.heap.objs.size) z4 := by
    refine compLoop_anyD (fun n s' => ∃ i H', Inv (X.blk z3 G3 scp cen fps) [] (wipe σ (owns.map (·.2))) H' s' ∧ tnn i s'.heap ∧ (∀ b ∈ fps, H' b = none) ∧ Wt i n H') ?_ mm0 ⟨0, G3, J4, t4, noneP, wv0⟩
    rintro n z5 ⟨i, G5, J5, t5, m5, wv5⟩
    rcases each i n G5 wv5 with ⟨stp, q0⟩ | ⟨goh, Nxt, hNxt, one⟩
    · have fdone := T.done (X.blk z3 G3 scp cen fps) rfl rfl rfl calm0 i [] z5 _ G5 (fun _ _ => False) J5 (still J5 m5) t5 stp
      refine thnF fdone fun r z6 ⟨er, J6⟩ => ?_
      subst er
      -- back in the def's context
      have J7 : Inv X pns σ G5 z6 := J3.call' (ch := fps) J6.os J6.base J6.hok J6.bare fun b inb => ⟨(p3 b inb).1.2.2.2.1, (p3 b inb).1.2.1, (p3 b inb).1.2.2.2.2.1, (p3 b inb).1.2.2.2.2.2⟩
      have noC : G5 z3.heap.objs.size = none := by
        have z : G5 cen.locals = none := J6.free
        rw [cLoc] at z
        exact z
      obtain ⟨m, nsC, _⟩ := J6.loc
      have nsC : z6.heap.Ns cen.locals m := nsC
      rw [cLoc] at nsC
      exact fin0 D z3.heap.objs.size z6 m G5 J7 q0 nsC (J3.fpOk (Nat.le_refl _) noC)
    · have fitem := T.item (X.blk z3 G3 scp cen fps) rfl rfl rfl calm0 i [] z5 _ G5 (fun _ _ => False) J5 (still J5 m5) t5 goh
      refine thnF fitem fun r z6 ⟨u, er, h6⟩ => ?_
      subst er
      refine thnF h6 fun _ z7 ⟨x, G7, J7, v7, u7, t7, m7⟩ => ?_
      have J7p := J7.pinned (still J7 m7) (T.obj _ _ t7)
      refine thnF (rg.run _ z7 _ G7 x u _ J7p v7 (one x G7 u7)) fun _ z8 ⟨τ8, G8, J8, ew8, k8⟩ => ?_
      refine thnF (rt.run _ z8 τ8 G8 _ J8 k8) fun b z9 ⟨G9, J9, k9⟩ => ?_
      -- the turn's end
      have back : ∀ {s' : Shared} {H' : Hp}, Inv (X.blk z3 G3 scp cen fps) ([] ++ pinsAt fps z7.heap) τ8 H' s' → Nxt H' → ∃ m, m < n ∧ ∃ i H', Inv (X.blk z3 G3 scp cen fps) [] (wipe σ (owns.map (·.2))) H' s' ∧ tnn i s'.heap ∧ (∀ b ∈ fps, H' b = none) ∧ Wt i m H' := fun {s' H'} I' nxt => by
        obtain ⟨m', ltm, w'⟩ := hNxt H' nxt
        have pinned_ : ∀ b ∈ fps, ∀ o, z7.heap.get? b = some o → s'.heap.get? b = some o ∧ H' b = none := fun b inb o e =>
          let z := I'.pin (b, o) (List.mem_append_right _ (List.mem_append_right _ (mem_pinsAt inb e)))
          ⟨z.1, z.2.1⟩
        have elen : (wipe σ (owns.map (·.2))).length = τ8.length := by rw [← ew8, wipe_length]
        refine ⟨m', ltm, i + 1, H', (I'.unpinned (pins := [])).weak elen (fun j v e => ?_), T.keep _ _ _ t7 fun b inb o e => (pinned_ b inb o e).1, fun b inb => ?_, w'⟩
        · rw [← ew8] at e
          exact (wipe_some e).1
        · obtain ⟨o, e, _⟩ := T.obj _ _ t7 b inb
          exact (pinned_ b inb o e).2
      cases b with
      | false =>
        simp only [Bool.false_eq_true, if_false] at k9 ⊢
        exact back J9 k9
      | true =>
        simp only [if_true] at k9 ⊢
        refine thnF (rk.run _ z9 τ8 G9 _ J9 k9) fun z z10 ⟨ky, G10, J10, v10, k10⟩ => ?_
        refine thnF (rv.run _ z10 τ8 G10 _ J10 k10) fun zz z11 ⟨vy, G11, J11, v11, nxt⟩ => ?_
        exact thn (hput (X.blk z3 G3 scp cen fps) rfl rfl rfl rfl _ z11 τ8 G11 D ky vy _ _ Nxt _ J11 v10 v11 nxt) fun _ z12 ⟨G12, J12, k12⟩ => back J12 k12
  exact codeAny_compStart_dict goes (T.self X.A 0 _ _ _ t4 goes)
/-- as a value -/
theorem pe_dcX {kex vax trg itx : Expr} {tests : List Expr} {scp : Scope} {owns : List (Str × Nat)} {pos : Pos} {wit : TI} {gt : TG} {tst : TT} {tky tvy : TE} {put : Addr → V → V → Hp → (Hp → Prop) → Prop} (hput : PutAll X put) (calm0 : X.calm = true) (nodupN : X.N.Nodup) (walkI : PI X trg itx wit) (blk0 : BlkOk X.N X.env.scope scp owns)
    (tgG : ∀ (s : Shared) (H : Hp) (C : Addr) (cl : List (Str × Addr)) (fps : List Addr), PG (X.blk s H scp (compEnvC scp cl C X.env) fps) trg gt) (tsT : ∀ (s : Shared) (H : Hp) (C : Addr) (cl : List (Str × Addr)) (fps : List Addr), PTs (X.blk s H scp (compEnvC scp cl C X.env) fps) tests tst)
    (keK : ∀ (s : Shared) (H : Hp) (C : Addr) (cl : List (Str × Addr)) (fps : List Addr), PE (X.blk s H scp (compEnvC scp cl C X.env) fps) kex tky)
    (vaV : ∀ (s : Shared) (H : Hp) (C : Addr) (cl : List (Str × Addr)) (fps : List Addr), PE (X.blk s H scp (compEnvC scp cl C X.env) fps) vax tvy) (sole : ∀ x, foldedSetIterable itx X.env x = pure x := by intro _; rfl) :
    PE X (.DictComp kex vax [⟨trg, itx, tests, 0⟩] scp pos) (tDcX put wit gt tst tky tvy (owns.map (·.2))) := by
  refine ⟨fun pns s σ H Q Iv h => ?_⟩
  rw [arm_eval_DictComp]
  refine dcX_core hput calm0 nodupN Iv walkI blk0 tgG tsT keK vaV sole h fun D C s' m H' I' q nsC f => ⟨m, nsC, fun h'' sb => ?_⟩
  obtain ⟨f0, f1, p2, p3, f4, f5⟩ := f
  exact ⟨.ref D, H', I'.turned (t' := s'.toks) (fun b o inb e => (sb.2 b inb).trans e) f0 f1 p3 f4 f5, rfl, q⟩
end
end L2

/-! DnDict: dicts whose keys are plain data. -/
namespace Dn
open PySem PySem.Spec PyProof.Rows L2

/-! ### keys -/
mutual
theorem key_depth : ∀ (n : Nat) (d : D), D.key n d = true → (toK d).depth ≤ n
  | n, .non, _ => by simp [toK, NestedKey.depth]
  | n, .bl _, _ => by simp [toK, NestedKey.depth]
  | n, .int _, _ => by simp [toK, NestedKey.depth]
  | n, .str _, _ => by simp [toK, NestedKey.depth]
  | 0, .tup _, h => by simp [D.key] at h
  | n + 1, .tup ds, h => by
    have q := keys_depth n ds (by unfold D.key at h; exact h)
    simp only [toK, NestedKey.depth]
    omega
  | n, .lst _, h => by cases n <;> simp [D.key] at h
  | n, .fn _, h => by cases n <;> simp [D.key] at h
  | n, .arg _, h => by cases n <;> simp [D.key] at h
  | n, .ins _ _, h => by cases n <;> simp [D.key] at h
  | n, .loc _, h => by cases n <;> simp [D.key] at h
theorem keys_depth : ∀ (n : Nat) (ds : List D), D.keys n ds = true → NestedKey.depthAll (toKs ds) ≤ n
  | n, [], _ => by simp [toKs, NestedKey.depthAll]
  | n, d :: ds, h => by
    unfold D.keys at h
    obtain ⟨h1, h2⟩ := Bool.and_eq_true_iff.mp h
    simp only [toKs, NestedKey.depthAll]
    exact Nat.max_le.mpr ⟨key_depth n d h1, keys_depth n ds h2⟩
end
section
variable {X : Cx} {T : Tx} {pins : List (Addr × Obj)} {s : Shared} {σ : L2.St} {W : Wd}
mutual
theorem key_is (hT : T.K = X.K) (I : Inv X pins σ W.H s) : ∀ (n : Nat) (d : D) (v : V) (u : Value), D.key n d = true → RD T W d v → RelV v u → NestedIs s.heap (toK d) u
  | n, .non, v, u, _, r, q => by
    rw [r.non_inv] at q
    cases q
    simp only [toK]
    exact .none
  | n, .bl b, v, u, _, r, q => by
    rw [r.bl_inv] at q
    cases q
    simp only [toK]
    exact .bool rfl
  | n, .int i, v, u, _, r, q => by
    rw [r.int_inv] at q
    obtain ⟨t, rfl⟩ := q
    simp only [toK]
    exact .int i t
  | n, .str cs, v, u, _, r, q => by
    rw [r.str_inv] at q
    obtain ⟨t, rfl⟩ := q
    simp only [toK]
    exact .text _ t
  | 0, .tup _, v, u, h, _, _ => by simp [D.key] at h
  | n + 1, .tup ds, v, u, h, r, q => by
    obtain ⟨a, vs, rfl, h1, h2⟩ := r.sqT
    cases q
    rw [hT] at h1
    obtain ⟨its, rv, ⟨o, ho, hc, m, hd⟩, _⟩ := I.tuple h1
    simp only [toK]
    exact .tup ho hc hd (keys_is hT I n ds vs its (by unfold D.key at h; exact h) h2 rv)
  | n, .lst _, v, u, h, _, _ => by cases n <;> simp [D.key] at h
  | n, .fn _, v, u, h, _, _ => by cases n <;> simp [D.key] at h
  | n, .arg _, v, u, h, _, _ => by cases n <;> simp [D.key] at h
  | n, .ins _ _, v, u, h, _, _ => by cases n <;> simp [D.key] at h
  | n, .loc _, v, u, h, _, _ => by cases n <;> simp [D.key] at h
theorem keys_is (hT : T.K = X.K) (I : Inv X pins σ W.H s) : ∀ (n : Nat) (ds : List D) (vs : List V) (us : List Value), D.keys n ds = true → RDs T W ds vs → Vals vs us → NestedAll s.heap (toKs ds) us
  | n, [], vs, us, _, r, q => by
    rw [r.nil_inv] at q
    cases q
    simp only [toKs]
    exact .nil
  | n, d :: ds, vs, us, h, r, q => by
    obtain ⟨v, ws, rfl, h1, h2⟩ := r.cons_inv
    unfold D.keys at h
    obtain ⟨g1, g2⟩ := Bool.and_eq_true_iff.mp h
    cases q with
    | cons q1 q2 =>
      simp only [toKs]
      exact .cons (key_is hT I n d v _ g1 h1 q1) (keys_is hT I n ds ws _ g2 h2 q2)
end
end
mutual
theorem eqv_toK : ∀ (n m : Nat) (x y : D), D.key n x = true → D.key m y = true → (D.eqv x y = true ↔ toK x = toK y)
  | n, m, x, y, hx, hy => by
    cases x with
    | tup xs =>
      cases y with
      | tup ys =>
        cases n with
        | zero => simp [D.key] at hx
        | succ n => cases m with
          | zero => simp [D.key] at hy
          | succ m =>
            unfold D.key at hx hy
            simp only [toK, D.eqv]
            rw [eqvs_toK n m xs ys hx hy]
            exact ⟨fun e => by rw [e], fun e => by injection e⟩
      | lst _ => cases m <;> simp [D.key] at hy
      | fn _ => cases m <;> simp [D.key] at hy
      | arg _ => cases m <;> simp [D.key] at hy
      | ins _ _ => cases m <;> simp [D.key] at hy
      | loc _ => cases m <;> simp [D.key] at hy
      | _ => simp [toK, D.eqv]
    | lst _ => cases n <;> simp [D.key] at hx
    | fn _ => cases n <;> simp [D.key] at hx
    | arg _ => cases n <;> simp [D.key] at hx
    | ins _ _ => cases n <;> simp [D.key] at hx
    | loc _ => cases n <;> simp [D.key] at hx
    | str a =>
      cases y with
      | str b =>
        simp only [toK, D.eqv, beq_iff_eq]
        exact ⟨fun e => by rw [e], fun e => by injection e with e; exact str_eq.mp e⟩
      | lst _ => cases m <;> simp [D.key] at hy
      | fn _ => cases m <;> simp [D.key] at hy
      | arg _ => cases m <;> simp [D.key] at hy
      | ins _ _ => cases m <;> simp [D.key] at hy
      | loc _ => cases m <;> simp [D.key] at hy
      | _ => simp [toK, D.eqv]
    | bl a =>
      cases y with
      | bl b => cases a <;> cases b <;> simp [toK, D.eqv]
      | int b => cases a <;> simp [toK, D.eqv]
      | lst _ => cases m <;> simp [D.key] at hy
      | fn _ => cases m <;> simp [D.key] at hy
      | arg _ => cases m <;> simp [D.key] at hy
      | ins _ _ => cases m <;> simp [D.key] at hy
      | loc _ => cases m <;> simp [D.key] at hy
      | _ => simp [toK, D.eqv]
    | int a =>
      cases y with
      | bl b => cases b <;> simp [toK, D.eqv]
      | int b => simp [toK, D.eqv]
      | lst _ => cases m <;> simp [D.key] at hy
      | fn _ => cases m <;> simp [D.key] at hy
      | arg _ => cases m <;> simp [D.key] at hy
      | ins _ _ => cases m <;> simp [D.key] at hy
      | loc _ => cases m <;> simp [D.key] at hy
      | _ => simp [toK, D.eqv]
    | non =>
      cases y with
      | lst _ => cases m <;> simp [D.key] at hy
      | fn _ => cases m <;> simp [D.key] at hy
      | arg _ => cases m <;> simp [D.key] at hy
      | ins _ _ => cases m <;> simp [D.key] at hy
      | loc _ => cases m <;> simp [D.key] at hy
      | _ => simp [toK, D.eqv]
theorem eqvs_toK : ∀ (n m : Nat) (xs ys : List D), D.keys n xs = true → D.keys m ys = true → (D.eqvs xs ys = true ↔ toKs xs = toKs ys)
  | n, m, [], [], _, _ => by simp [toKs, D.eqvs]
  | n, m, [], _ :: _, _, _ => by simp [toKs, D.eqvs]
  | n, m, _ :: _, [], _, _ => by simp [toKs, D.eqvs]
  | n, m, x :: xs, y :: ys, hx, hy => by
    unfold D.keys at hx hy
    obtain ⟨h1, h2⟩ := Bool.and_eq_true_iff.mp hx
    obtain ⟨g1, g2⟩ := Bool.and_eq_true_iff.mp hy
    simp only [toKs, D.eqvs, Bool.and_eq_true, List.cons.injEq]
    rw [eqv_toK n m x y h1 g1, eqvs_toK n m xs ys h2 g2]
end
/-! ### what the entries say -/
section
variable {T : Tx} {W : Wd}
theorem DT.len : ∀ {kvs : List (D × D)} {xs : List KEnt}, DT T W kvs xs → xs.length = kvs.length
  | [], _, h => by
    have h : _ = [] := h
    rw [h]
    rfl
  | (_, _) :: _, _, ⟨b, val, u, t, h1, _, _, _, _, _, h7⟩ => by
    rw [h1, List.length_cons, DT.len h7]
    rfl
/-- looked up -/
theorem DT.look {k : D} (hk : D.key 8 k = true) : ∀ {kvs : List (D × D)} {xs : List KEnt}, DT T W kvs xs → (lookD kvs k = none ∧ atKey xs (toK k) = none) ∨ ∃ d b val u, lookD kvs k = some d ∧ atKey xs (toK k) = some (b, val) ∧ RD T W d u ∧ RelV u val
  | [], xs, h => by
    have h : xs = [] := h
    subst h
    exact .inl ⟨rfl, rfl⟩
  | (k', v) :: r, xs, ⟨b, val, u, t, h1, h2, h3, h4, h5, h6, h7⟩ => by
    subst h1
    have e := eqv_toK 8 8 k' k h3 hk
    by_cases q : D.eqv k' k = true
    · refine .inr ⟨v, b, val, u, ?_, ?_, h5, h6⟩
      · unfold lookD
        rw [if_pos q]
      · unfold atKey
        rw [List.find?_cons_of_pos (by simpa using e.mp q)]
        rfl
    · have q2 : ¬ toK k' = toK k := fun z => q (e.mpr z)
      have e1 : lookD ((k', v) :: r) k = lookD r k := by
        conv => lhs; unfold lookD
        rw [if_neg q]
      have e2 : atKey ((toK k', b, val) :: t) (toK k) = atKey t (toK k) := by
        unfold atKey
        rw [List.find?_cons_of_neg (by simpa using q2)]
      rw [e1, e2]
      exact DT.look hk h7
theorem any_look {k : D} : ∀ kvs : List (D × D), (kvs.any fun kv => D.eqv kv.1 k) = (lookD kvs k).isSome
  | [] => rfl
  | (k', v) :: r => by
    unfold lookD
    by_cases q : D.eqv k' k = true
    · rw [if_pos q]
      simp [q]
    · rw [if_neg q, ← any_look r]
      simp [q]
/-- stored -/
theorem DT.put {k d : D} {b : Addr} {u : V} {val : Value} (hk : D.key 8 k = true) (ht : ∃ ds, k = .tup ds) (rk : RD T W k (.ref b)) (rd : RD T W d u) (rv : RelV u val) : ∀ {kvs : List (D × D)} {xs : List KEnt}, DT T W kvs xs → (xs.map (·.1)).Nodup → DT T W (putD kvs k d) (storedH xs (toK k) b val)
  | [], xs, h, _ => by
    have h : xs = [] := h
    subst h
    exact ⟨b, val, u, [], rfl, ht, hk, rk, rd, rv, rfl⟩
  | (k', v) :: r, xs, ⟨b', val', u', t, h1, h2, h3, h4, h5, h6, h7⟩, nd => by
    subst h1
    have e := eqv_toK 8 8 k' k h3 hk
    have nd' := List.nodup_cons.mp (show (toK k' :: t.map (·.1)).Nodup from nd)
    by_cases q : D.eqv k' k = true
    · have q2 := e.mp q
      have e1 : putD ((k', v) :: r) k d = (k', d) :: r := by
        conv => lhs; unfold putD
        rw [if_pos q]
      have e2 : storedH ((toK k', b', val') :: t) (toK k) b val = (toK k', b', val) :: t := by
        have hat : atKey ((toK k', b', val') :: t) (toK k) = some (b', val') := by
          unfold atKey
          rw [List.find?_cons_of_pos (by simpa using q2)]
          rfl
        rw [storedH_old hat, List.map_cons, map_putAt_of_not_mem t _ _ (by rw [← q2]; exact nd'.1)]
        unfold putAt
        rw [if_pos q2]
      rw [e1, e2]
      exact ⟨b', val, u, t, rfl, h2, h3, h4, rd, rv, h7⟩
    · have q2 : ¬ toK k' = toK k := fun z => q (e.mpr z)
      have e1 : putD ((k', v) :: r) k d = (k', v) :: putD r k d := by
        conv => lhs; unfold putD
        rw [if_neg q]
      have e2 : storedH ((toK k', b', val') :: t) (toK k) b val = (toK k', b', val') :: storedH t (toK k) b val := by
        have hat : atKey ((toK k', b', val') :: t) (toK k) = atKey t (toK k) := by
          unfold atKey
          rw [List.find?_cons_of_neg (by simpa using q2)]
        unfold storedH
        rw [hat]
        by_cases z : (atKey t (toK k)).isSome = true
        · rw [if_pos z, if_pos z, List.map_cons]
          congr 1
          unfold putAt
          rw [if_neg q2]
        · rw [if_neg z, if_neg z]
          rfl
      rw [e1, e2]
      exact ⟨b', val', u', _, rfl, h2, h3, h4, h5, h6, DT.put hk ht rk rd rv h7 nd'.2⟩
theorem DT.nodup {k : D} {b : Addr} {val : Value} {xs : List KEnt} (nd : (xs.map (·.1)).Nodup) : ((storedH xs (toK k) b val).map (·.1)).Nodup := by
  unfold storedH
  split
  · rw [keys_map_putAt]
    exact nd
  · rename_i h
    rw [List.map_append]
    refine List.nodup_append.mpr ⟨nd, by simp, fun a ha c hc => ?_⟩
    have hc : c = toK k := by simpa using hc
    subst hc
    intro e
    subst e
    refine h ?_
    obtain ⟨x, hx, hx1⟩ := List.mem_map.mp ha
    unfold atKey
    rw [Option.isSome_map, List.find?_isSome]
    exact ⟨x, hx, by simpa using hx1⟩
theorem DT.mem {X : Cx} {pins : List (Addr × Obj)} {s : Shared} {σ : L2.St} (hT : T.K = X.K) (I : Inv X pins σ W.H s) : ∀ {kvs : List (D × D)} {xs : List KEnt}, DT T W kvs xs → ∀ x ∈ xs, (nestedKind X.prog X.w).is s.heap x.1 x.2.1
  | [], xs, h, x, hx => by
    have h : xs = [] := h
    subst h
    cases hx
  | (k', v) :: r, xs, ⟨b, val, u, t, h1, h2, h3, h4, h5, h6, h7⟩, x, hx => by
    subst h1
    rcases List.mem_cons.mp hx with e | hx
    · subst e
      exact ⟨key_is hT I 8 k' _ _ h3 h4 rfl, key_depth 8 k' h3⟩
    · exact DT.mem hT I h7 x hx
/-- leaves -/
theorem keyL_inv {k : D} {q : Key} (h : keyL k = some q) : (∃ i, k = .int i ∧ q = .inl i) ∨ ∃ cs, k = .str cs ∧ q = .inr ⟨cs.toArray⟩ := by
  cases k with
  | int i => exact .inl ⟨i, rfl, (Option.some.inj h).symm⟩
  | str cs => exact .inr ⟨cs, rfl, (Option.some.inj h).symm⟩
  | _ => cases h
theorem keyL_eqv {k k' : D} {q q' : Key} (h : keyL k = some q) (h' : keyL k' = some q') : (D.eqv k' k = true ↔ q' = q) := by
  rcases keyL_inv h with ⟨i, rfl, rfl⟩ | ⟨cs, rfl, rfl⟩ <;> rcases keyL_inv h' with ⟨j, rfl, rfl⟩ | ⟨cs', rfl, rfl⟩
  · simp only [D.eqv, beq_iff_eq]
    exact ⟨fun e => by rw [e], fun e => by injection e⟩
  · simp [D.eqv]
  · simp [D.eqv]
  · simp only [D.eqv, beq_iff_eq]
    exact ⟨fun e => by rw [e], fun e => by injection e with e; exact str_eq.mp e⟩
theorem keyL_V {k : D} {q : Key} {v : V} (h : keyL k = some q) (r : RD T W k v) : v = kV q := by
  rcases keyL_inv h with ⟨i, rfl, rfl⟩ | ⟨cs, rfl, rfl⟩
  · exact r.int_inv
  · exact r.str_inv
theorem DL.len : ∀ {kvs : List (D × D)} {hk : List (Key × V)}, DL T W kvs hk → hk.length = kvs.length
  | [], _, h => by
    have h : _ = [] := h
    rw [h]
    rfl
  | (_, _) :: _, _, ⟨q, u, t, h1, _, _, h4⟩ => by
    rw [h1, List.length_cons, DL.len h4]
    rfl
theorem DL.look {k : D} {q : Key} (hk : keyL k = some q) : ∀ {kvs : List (D × D)} {ls : List (Key × V)}, DL T W kvs ls → (lookD kvs k = none ∧ valV ls q = none) ∨ ∃ d u, lookD kvs k = some d ∧ valV ls q = some u ∧ RD T W d u
  | [], ls, h => by
    have h : ls = [] := h
    subst h
    exact .inl ⟨rfl, rfl⟩
  | (k', v) :: r, ls, ⟨q', u, t, h1, h2, h3, h4⟩ => by
    subst h1
    have e := keyL_eqv hk h2
    by_cases z : D.eqv k' k = true
    · refine .inr ⟨v, u, ?_, ?_, h3⟩
      · unfold lookD
        rw [if_pos z]
      · unfold valV
        rw [List.find?_cons_of_pos (by simpa using e.mp z)]
        rfl
    · have z2 : ¬ q' = q := fun w => z (e.mpr w)
      have e1 : lookD ((k', v) :: r) k = lookD r k := by
        conv => lhs; unfold lookD
        rw [if_neg z]
      have e2 : valV ((q', u) :: t) q = valV t q := by
        unfold valV
        rw [List.find?_cons_of_neg (by simpa using z2)]
      rw [e1, e2]
      exact DL.look hk h4
theorem map_same {q : Key} {u : V} : ∀ {t : List (Key × V)}, q ∉ t.map (·.1) → t.map (fun kv => if kv.1 = q then (kv.1, u) else kv) = t
  | [], _ => rfl
  | x :: t, h => by
    rw [List.map_cons, map_same fun z => h (List.mem_cons_of_mem _ z), if_neg fun e => h (by rw [← e]; exact List.mem_cons_self)]
theorem DL.put {k d : D} {q : Key} {u : V} (hk : keyL k = some q) (rd : RD T W d u) : ∀ {kvs : List (D × D)} {ls : List (Key × V)}, DL T W kvs ls → (ls.map (·.1)).Nodup → DL T W (putD kvs k d) (putK ls q u)
  | [], ls, h, _ => by
    have h : ls = [] := h
    subst h
    exact ⟨q, u, [], rfl, hk, rd, rfl⟩
  | (k', v) :: r, ls, ⟨q', u', t, h1, h2, h3, h4⟩, nd => by
    subst h1
    have e := keyL_eqv hk h2
    have nd' := List.nodup_cons.mp (show (q' :: t.map (·.1)).Nodup from nd)
    by_cases z : D.eqv k' k = true
    · have z2 := e.mp z
      have e1 : putD ((k', v) :: r) k d = (k', d) :: r := by
        conv => lhs; unfold putD
        rw [if_pos z]
      have e2 : putK ((q', u') :: t) q u = (q', u) :: t := by
        unfold putK
        rw [if_pos (by simp [z2]), List.map_cons, if_pos z2, map_same (by rw [← z2]; exact nd'.1)]
      rw [e1, e2]
      exact ⟨q', u, t, rfl, h2, rd, h4⟩
    · have z2 : ¬ q' = q := fun w => z (e.mpr w)
      have e1 : putD ((k', v) :: r) k d = (k', v) :: putD r k d := by
        conv => lhs; unfold putD
        rw [if_neg z]
      have e2 : putK ((q', u') :: t) q u = (q', u') :: putK t q u := by
        unfold putK
        rw [List.any_cons, decide_eq_false z2, Bool.false_or]
        by_cases y : (t.any fun kv => decide (kv.1 = q)) = true
        · rw [if_pos y, if_pos y, List.map_cons, if_neg z2]
        · rw [if_neg y, if_neg y]
          rfl
      rw [e1, e2]
      exact ⟨q', u', _, rfl, h2, h3, DL.put hk rd h4 nd'.2⟩
theorem putK_nodup {q : Key} {u : V} {ls : List (Key × V)} (nd : (ls.map (·.1)).Nodup) : ((putK ls q u).map (·.1)).Nodup := by
  unfold putK
  split
  · have e : (ls.map (fun kv => if kv.1 = q then (kv.1, u) else kv)).map (·.1) = ls.map (·.1) := by
      rw [List.map_map]
      refine List.map_congr_left fun x _ => ?_
      show (if x.1 = q then (x.1, u) else x).1 = x.1
      split <;> rfl
    rw [e]
    exact nd
  · rename_i h
    rw [List.map_append]
    refine List.nodup_append.mpr ⟨nd, by simp, fun a ha c hc => ?_⟩
    have hc : c = q := by simpa using hc
    subst hc
    intro e
    subst e
    refine h ?_
    obtain ⟨x, hx, hx1⟩ := List.mem_map.mp ha
    rw [List.any_eq_true]
    exact ⟨x, hx, by simpa using hx1⟩
end
/-! ### the dict's own object -/
section
variable {X : Cx} {T : Tx} {pins : List (Addr × Obj)} {s : Shared} {σ : L2.St} {W : Wd}
theorem rawT_stay {P : Program} {w : World} {a : Addr} {xs : List KEnt} {h : Heap} (r : rawT P w a xs h) : (∃ o, h.get? a = some o) ∧ ∀ h1 h2 : Heap, rawT P w a xs h1 → (∀ o, h1.get? a = some o → h2.get? a = some o) → rawT P w a xs h2 := by
  obtain ⟨o, es, ep, h1, _⟩ := r
  exact ⟨⟨o, h1⟩, fun g1 g2 ⟨o', es', ep', q1, q2⟩ k => ⟨o', es', ep', k o' q1, q2⟩⟩
theorem rawT_of {H : Hp} {a : Addr} {xs : List KEnt} (I : Inv X pins σ H s) (h : H a = some (.ext (rawT X.prog X.w a xs))) : rawT X.prog X.w a xs s.heap := (I.hok a _ h).1
theorem rawT_dct {a : Addr} {kvs : List (D × D)} {xs : List KEnt} (hT : T.K = X.K) (I : Inv X pins σ W.H s) (h : W.H a = some (.ext (rawT X.prog X.w a xs))) (d : DT T W kvs xs) (nd : (xs.map (·.1)).Nodup) : s.heap.DictOfH (nestedKind X.prog X.w) a xs := by
  obtain ⟨o, es, ep, h1, h2, h3, h4⟩ := rawT_of I h
  exact ⟨o, es, ep, h1, h2, h3, h4, DT.mem hT I d, nd⟩
/-- an empty dict is of either kind -/
theorem emp_T {H : Hp} {a : Addr} (I : Inv X pins σ H s) (h : H a = some (.dK [])) : Inv X pins σ (upd H a (.ext (rawT X.prog X.w a []))) s ∧ (a == sysModules) = false := by
  obtain ⟨_, hd, vs, rel, dd⟩ := dk_of I.hok h
  have e : vs = [] := List.eq_nil_of_length_eq_zero (by rw [← rel.length]; rfl)
  subst e
  obtain ⟨o, es, ep, h1, h2, h3, h4, h5, _⟩ := dd
  have e0 : es.toList = [] := by
    cases q : es.toList with
    | nil => rfl
    | cons x r =>
      rw [q] at h5
      cases h5
  have r : rawT X.prog X.w a [] s.heap := ⟨o, es, ep, h1, h2, h3, e0⟩
  exact ⟨I.write (h' := s.heap) (x := a) (e := a) (o := .ext (rawT X.prog X.w a [])) (t' := s.toks) (by rw [h]; exact trivial) (.inl rfl) (fun _ _ _ q => q) ⟨o, h1⟩ ⟨r, rawT_stay r⟩, hd⟩
theorem emp_L {H : Hp} {a : Addr} (I : Inv X pins σ H s) (h : H a = some (.ext (rawT X.prog X.w a []))) (hd : (a == sysModules) = false) : Inv X pins σ (upd H a (.dK [])) s := by
  obtain ⟨o, es, ep, h1, h2, h3, h4⟩ := rawT_of I h
  have e0 : es = #[] := by
    have : es.toList = [] := h4
    cases es
    simpa using this
  subst e0
  exact I.write (h' := s.heap) (x := a) (e := a) (o := .dK []) (t' := s.toks) (by rw [h]; exact trivial) (.inl rfl) (fun _ _ _ q => q) ⟨o, h1⟩ ⟨Nat.zero_le _, hd, [], .nil, o, #[], ep, h1, h2, h3, by intro i hi; simp at hi, .nil, List.nodup_nil⟩
end
end Dn

/-! DnDict2: the rules of dicts. -/
namespace Dn
open PySem PySem.Spec PyProof.Rows L2
/-- the table is the context's -/
structure TOk (T : Tx) (X : Cx) : Prop where
  K : T.K = X.K
  P : T.P = X.prog
  w : T.w = X.w
section
variable {X : Cx} {T : Tx} {own : List Nat} {a b c e : Expr} {ta tb tc te : TEx} {pos : Pos}
theorem kOk_key {kvs : List (D × D)} {k : D} (h : kOk kvs k = true) : D.key 8 k = true := by
  unfold kOk at h
  simp only [Bool.and_eq_true] at h
  exact h.1.1
theorem kOk_shape {kvs : List (D × D)} {k : D} (h : kOk kvs k = true) : (∃ ds, k = .tup ds) ∨ ∃ q, keyL k = some q := by
  unfold kOk at h
  simp only [Bool.and_eq_true, Bool.or_eq_true] at h
  rcases h.1.2 with h | h
  · cases k with
    | tup ds => exact .inl ⟨ds, rfl⟩
    | _ => cases h
  · cases k with
    | int i => exact .inr ⟨_, rfl⟩
    | str i => exact .inr ⟨_, rfl⟩
    | _ => cases h
/-- tuples beside tuples -/
theorem kOk_tup {W : Wd} {kvs : List (D × D)} {ds : List D} {hk : List (Key × V)} (h : kOk kvs (.tup ds) = true) (d : DL T W kvs hk) : kvs = [] ∧ hk = [] := by
  cases kvs with
  | nil => exact ⟨rfl, d⟩
  | cons x r =>
    obtain ⟨k', v⟩ := x
    unfold kOk at h
    simp only [Bool.and_eq_true, beq_iff_eq] at h
    obtain ⟨q, u, t, _, h2, _⟩ := d
    rcases keyL_inv h2 with ⟨i, rfl, _⟩ | ⟨cs, rfl, _⟩
    · cases h.2
    · cases h.2
theorem kOk_leaf {W : Wd} {kvs : List (D × D)} {k : D} {q : Key} {xs : List KEnt} (h : kOk kvs k = true) (hk : keyL k = some q) (d : DT T W kvs xs) : kvs = [] ∧ xs = [] := by
  cases kvs with
  | nil => exact ⟨rfl, d⟩
  | cons x r =>
    obtain ⟨k', v⟩ := x
    unfold kOk at h
    simp only [Bool.and_eq_true, beq_iff_eq] at h
    obtain ⟨b, val, u, t, _, ⟨ds, rfl⟩, _⟩ := d
    rcases keyL_inv hk with ⟨i, rfl, _⟩ | ⟨cs, rfl, _⟩
    · cases h.2
    · cases h.2
theorem upd_back {H : Hp} {p : Addr} {o o' : HO} (h : H p = some o) : upd (upd H p o') p o = H := by
  rw [upd_upd]
  funext x
  by_cases e : x = p
  · subst e
    rw [upd_same, h]
  · rw [upd_ne e]
theorem room8 {A : Around} (hu : A.units + 64 < cLine) : A.in1.units + 8 < cLine := by
  show A.units + 1 + 8 < cLine
  omega
/-- d[k] -/
def rIxDc (T : Tx) : R2 := fun x y H Q => ∃ (W : Wd) (p : Addr) (kvs : List (D × D)) (k d : D), W.H = H ∧ x = .ref p ∧ RC T W (.dct kvs) p ∧ kOk kvs k = true ∧ RD T W k y ∧ lookD kvs k = some d ∧ ∀ v, RD T W d v → Q v H
theorem ix_dc (hT : TOk T X) (hu : X.A.units + 64 < cLine) : IxR X (rIxDc T) := by
  intro value slice pins s σ H x y v u Q I rx ry ⟨W, p, kvs, k, d, hW, ex, rc, hk, rk, hl, q⟩ hs
  subst hW
  subst ex
  cases rx
  rcases rc with ⟨ls, h1, h2, h3⟩ | ⟨xs, h1, h2, h3, h4, h5⟩
  · rcases kOk_shape hk with ⟨ds, rfl⟩ | ⟨qk, hq⟩
    · obtain ⟨e1, _⟩ := kOk_tup hk h2
      subst e1
      cases hl
    · rcases DL.look hq h2 with ⟨e1, _⟩ | ⟨d', z, e1, e2, e3⟩
      · rw [hl] at e1; cases e1
      · rw [hl] at e1
        cases e1
        have g : DGet W.H p y (some z) := by
          rw [keyL_V hq rk, ← e2]
          cases qk with
          | inl i => exact DGet.k (k := Sum.inl i) h1
          | inr i => exact DGet.k (k := Sum.inr i) h1
        exact tail_any (dict_typeIs I g) slot_dict_getitem.lookup (d_getItem (by omega) I g ry fun w' s' I' rw' => ⟨_, W.H, I', rw', q _ e3⟩) hs
  · rcases kOk_shape hk with ⟨ds, rfl⟩ | ⟨qk, hq⟩
    · rw [hT.P, hT.w] at h1
      have dd := rawT_dct hT.K I h1 h2 h3
      rcases DT.look (kOk_key hk) h2 with ⟨e1, _⟩ | ⟨d', b, val, z, e1, e2, e3, e4⟩
      · rw [hl] at e1; cases e1
      · rw [hl] at e1
        cases e1
        have ki := key_is hT.K I 8 _ _ _ (kOk_key hk) rk ry
        obtain ⟨b', vs, ey, _⟩ := rk.sqT
        subst ey
        cases ry
        exact tail_any dd.typeIs slot_dict_getitem.lookup (wpAny_getItem_heap (knd := nestedKind X.prog X.w) (room8 hu) ⟨ki, key_depth 8 _ (kOk_key hk)⟩ dd e2 ⟨z, W.H, I.tok _, e4, q z e3⟩) hs
    · obtain ⟨e1, _⟩ := kOk_leaf hk hq h2
      subst e1
      cases hl
/-- k in d -/
def rInDc (T : Tx) (f : Bool → Bool) : R2 := fun y x H Q => ∃ (W : Wd) (p : Addr) (kvs : List (D × D)) (k : D), W.H = H ∧ x = .ref p ∧ RC T W (.dct kvs) p ∧ kOk kvs k = true ∧ RD T W k y ∧ Q (.bl (f (lookD kvs k).isSome)) H
theorem look_D {W : Wd} {kvs : List (D × D)} {ls : List (Key × V)} {k : D} {q : Key} (hq : keyL k = some q) (h : DL T W kvs ls) : (valV ls q).isSome = (lookD kvs k).isSome := by
  rcases DL.look hq h with ⟨e1, e2⟩ | ⟨d', z, e1, e2, _⟩ <;> rw [e1, e2] <;> rfl
theorem look_T {W : Wd} {kvs : List (D × D)} {xs : List KEnt} {k : D} (hk : D.key 8 k = true) (h : DT T W kvs xs) : (atKey xs (toK k)).isSome = (lookD kvs k).isSome := by
  rcases DT.look hk h with ⟨e1, e2⟩ | ⟨d', b, val, z, e1, e2, _⟩ <;> rw [e1, e2] <;> rfl
/-- the ways of a look-up: by a leaf in a leaves' dict, by a tuple in a tuples' dict (an empty one is turned) -/
theorem dc_ways {pins : List (Addr × Obj)} {s : Shared} {σ : L2.St} {W : Wd} {p : Addr} {kvs : List (D × D)} {k : D} {y : V} (hT : TOk T X) (I : Inv X pins σ W.H s) (rc : RC T W (.dct kvs) p) (hk : kOk kvs k = true) :
    (∃ qk ls H', keyL k = some qk ∧ Inv X pins σ H' s ∧ H' p = some (.dK ls) ∧ DL T W kvs ls ∧ (ls.map (·.1)).Nodup ∧ (∀ s', Inv X pins σ H' s' → Inv X pins σ W.H s') ∧ ∃ o, H' = upd W.H p o) ∨
    (∃ ds xs H', k = .tup ds ∧ Inv X pins σ H' s ∧ H' p = some (.ext (rawT X.prog X.w p xs)) ∧ DT T W kvs xs ∧ (xs.map (·.1)).Nodup ∧ xs.length ≤ sizeLine ∧ (p == sysModules) = false ∧ (∀ s', Inv X pins σ H' s' → Inv X pins σ W.H s') ∧ ∃ o, H' = upd W.H p o) := by
  have self : ∀ {o : HO}, W.H p = some o → W.H = upd W.H p o := fun {o} h => by
    funext x
    by_cases e : x = p
    · subst e
      rw [upd_same, h]
    · rw [upd_ne e]
  rcases rc with ⟨ls, h1, h2, h3⟩ | ⟨xs, h1, h2, h3, h4, h5⟩
  · rcases kOk_shape hk with ⟨ds, rfl⟩ | ⟨qk, hq⟩
    · obtain ⟨e1, e2⟩ := kOk_tup hk h2
      subst e1
      subst e2
      obtain ⟨I2, hd⟩ := emp_T I h1
      refine .inr ⟨ds, [], _, rfl, I2, upd_same, rfl, List.nodup_nil, Nat.zero_le _, hd, fun s' I3 => ?_, _, rfl⟩
      have z := emp_L I3 upd_same hd
      rw [upd_back h1] at z
      exact z
    · exact .inl ⟨qk, ls, W.H, hq, I, h1, h2, h3, fun _ z => z, _, self h1⟩
  · rw [hT.P, hT.w] at h1
    rcases kOk_shape hk with ⟨ds, rfl⟩ | ⟨qk, hq⟩
    · exact .inr ⟨ds, xs, W.H, rfl, I, h1, h2, h3, h4, h5, fun _ z => z, _, self h1⟩
    · obtain ⟨e1, e2⟩ := kOk_leaf hk hq h2
      subst e1
      subst e2
      have I2 := emp_L I h1 h5
      refine .inl ⟨qk, [], _, hq, I2, upd_same, rfl, List.nodup_nil, fun s' I3 => ?_, _, rfl⟩
      have z := (emp_T I3 upd_same).1
      rw [upd_back h1] at z
      exact z
/-- the key stands, whatever the dict's own place holds -/
theorem key_isU {pins : List (Addr × Obj)} {s : Shared} {σ : L2.St} {W : Wd} {k : D} {y : V} {u : Value} (hT : TOk T X) (I : Inv X pins σ W.H s) (hk : D.key 8 k = true) (rk : RD T W k y) (ry : RelV y u) : NestedIs s.heap (toK k) u := key_is hT.K I 8 k y u hk rk ry
theorem op_inDc (hT : TOk T X) (hu : X.A.units + 64 < cLine) : OpR X (compareOp .In) (rInDc T id) := by
  intro pins s σ H y x u v Q I ry rx ⟨W, p, kvs, k, hW, ex, rc, hk, rk, q⟩
  subst hW
  subst ex
  cases rx
  have ki := key_isU hT I (kOk_key hk) rk ry
  rcases dc_ways (y := y) hT I rc hk with ⟨qk, ls, H', hq, I2, h1, h2, h3, back, _⟩ | ⟨ds, xs, H', rfl, I2, h1, h2, h3, h4, h5, back, _⟩
  · have g : DGet H' p y (valV ls qk) := by
      rw [keyL_V hq rk]
      cases qk with
      | inl i => exact DGet.k (k := Sum.inl i) h1
      | inr i => exact DGet.k (k := Sum.inr i) h1
    refine d_in (by omega) I2 g ry fun s' I' => ⟨.bl (valV ls qk).isSome, W.H, back s' I', rfl, ?_⟩
    rw [look_D hq h2]
    exact q
  · obtain ⟨b', vs, ey, _⟩ := rk.sqT
    subst ey
    cases ry
    obtain ⟨o, es, ep, g1, g2, g3, g4⟩ := rawT_of I2 h1
    have dd : s.heap.DictOfH (nestedKind X.prog X.w) p xs := ⟨o, es, ep, g1, g2, g3, g4, DT.mem hT.K I h2, h3⟩
    refine wpAny_in_heap (knd := nestedKind X.prog X.w) (room8 hu) ⟨ki, key_depth 8 _ (kOk_key hk)⟩ h5 dd ?_
    refine ⟨.bl (atKey xs (toK (.tup ds))).isSome, W.H, back _ (I2.tok _), rfl, ?_⟩
    rw [look_T (kOk_key hk) h2]
    exact q
end
end Dn

/-! DnDict3: a dict is written; its comprehension; subscripts of all kinds. -/
namespace Dn
open PySem PySem.Spec PyProof.Rows L2
section
variable {X : Cx} {T : Tx} {own : List Nat} {a b c e : Expr} {ta tb tc te : TEx} {pos : Pos}
theorem ext_fillL {W : Wd} {p : Addr} {o : HO} (hp : W.live p) : Ext1 W (W.fill p o) :=
  ⟨Nat.le_refl _, fun _ _ => rfl, fun a x h l => ⟨by show upd W.H p o a = _; rw [upd_ne (fun e => l (by rw [e]; exact hp))]; exact h, l⟩⟩
/-- p[y] = v, the dict's place at p -/
def rPut (T : Tx) : Addr → V → V → Hp → (Hp → Prop) → Prop := fun p y v H Q => ∃ (W : Wd) (kvs : List (D × D)) (k d : D), W.H = H ∧ W.live p ∧ RC T W (.dct kvs) p ∧ kOk kvs k = true ∧ kvs.length < sizeLine ∧ RD T W k y ∧ RD T W d v ∧
  ∀ o, RC T (W.fill p o) (.dct (putD kvs k d)) p → Q (upd W.H p o)
structure PutM (X : Cx) (m : Addr → Value → Value → Sem Unit) : Prop where
  leaf : ∀ {pins : List (Addr × Obj)} {s : Shared} {σ : L2.St} {H : Hp} {E : Value → Shared → Prop} {p : Addr} {kvs : List (Key × V)} {k : Key} {v : V} {u r : Value} {Q : Unit → Shared → Prop}, Inv X pins σ H s → H p = some (.dK kvs) → kvs.length < sizeLine → RelV (kV k) u → RelV v r →
    (∀ s', Inv X pins σ (upd H p (.dK (putK kvs k v))) s' → Q () s') → wpAny (model X.prog X.w) X.A (m p u r) Q E s
  tup : ∀ {s : Shared} {E : Value → Shared → Prop} {p b : Addr} {xs : List KEnt} {k : NestedKey} {r : Value} {Q : Unit → Shared → Prop}, (nestedKind X.prog X.w).is s.heap k b → s.heap.DictOfH (nestedKind X.prog X.w) p xs → xs.length ≤ sizeLine →
    (∀ h', h'.DictOfH (nestedKind X.prog X.w) p (storedH xs k b r) → Heap.SameBut p s.heap h' → Q () { s with heap := h', toks := s.toks + (nestedKind X.prog X.w).draws k }) → wpAny (model X.prog X.w) X.A (m p (.ref b) r) Q E s
theorem put_ok {m : Addr → Value → Value → Sem Unit} (hT : TOk T X) (hm : PutM X m) {pins : List (Addr × Obj)} {s : Shared} {σ : L2.St} {H : Hp} {E : Value → Shared → Prop} {p : Addr} {y v : V} {u r : Value} {Q : Hp → Prop} (I : Inv X pins σ H s) (ry : RelV y u) (rv : RelV v r) (h : rPut T p y v H Q) :
    wpAny (model X.prog X.w) X.A (m p u r) (fun _ s' => ∃ H', Inv X pins σ H' s' ∧ Q H') E s := by
  obtain ⟨W, kvs, k, d, hW, lv, rc, hk, hl, rk, rd, q⟩ := h
  subst hW
  have ki := key_isU hT I (kOk_key hk) rk ry
  rcases dc_ways (y := y) hT I rc hk with ⟨qk, ls, H', hq, I2, h1, h2, h3, back, o, eH⟩ | ⟨ds, xs, H', rfl, I2, h1, h2, h3, h4, h5, back, o, eH⟩
  · have e := keyL_V hq rk
    subst e
    refine hm.leaf I2 h1 (by rw [h2.len]; exact hl) ry rv fun s' I' => ⟨upd W.H p (.dK (putK ls qk v)), ?_, q _ (.inl ⟨_, upd_same, ?_, putK_nodup h3⟩)⟩
    · rw [eH, upd_upd] at I'
      exact I'
    · exact (DL.put hq rd h2 h3).x1 (ext_fillL lv)
  · obtain ⟨b', vs, ey, _⟩ := id rk.sqT
    subst ey
    cases ry
    obtain ⟨o1, es, ep, g1, g2, g3, g4⟩ := rawT_of I2 h1
    have dd : s.heap.DictOfH (nestedKind X.prog X.w) p xs := ⟨o1, es, ep, g1, g2, g3, g4, DT.mem hT.K I h2, h3⟩
    refine hm.tup ⟨ki, key_depth 8 _ (kOk_key hk)⟩ dd h4 fun h' dd' hs => ⟨upd W.H p (.ext (rawT X.prog X.w p (storedH xs (toK (.tup ds)) b' r))), ?_, q _ (.inr ⟨storedH xs (toK (.tup ds)) b' r, ?_, ?_, DT.nodup h3, ?_, h5⟩)⟩
    · obtain ⟨o2, es2, ep2, k1, k2, k3, k4, _⟩ := dd'
      have rw' : rawT X.prog X.w p (storedH xs (toK (.tup ds)) b' r) h' := ⟨o2, es2, ep2, k1, k2, k3, k4⟩
      have I3 : Inv X pins σ (upd H' p (.ext (rawT X.prog X.w p (storedH xs (toK (.tup ds)) b' r)))) { s with heap := h', toks := s.toks + (nestedKind X.prog X.w).draws (toK (.tup ds)) } :=
        I2.write (x := p) (e := p) (by rw [h1]; exact trivial) (.inl rfl) (fun b q hb z => (hs.2 b hb).trans z) ⟨o2, k1⟩ ⟨rw', rawT_stay rw'⟩
      rw [eH, upd_upd] at I3
      exact I3
    · rw [hT.P, hT.w]
      exact upd_same
    · exact (DT.put (kOk_key hk) ⟨ds, rfl⟩ rk rd rv h2 h3).x1 (ext_fillL lv)
    · have z1 := storedH_length xs (toK (.tup ds)) b' r
      have z2 := h2.len
      omega
theorem putM_set (hu : X.A.units + 64 < cLine) : PutM X (fun p u r => setItem (.ref p) u r) :=
  ⟨fun I h hl ry rv k => d_setItem (by omega) I (DPut.k h hl) ry rv k, fun hk hd hl k => wpAny_setItem_heap (hsz := hl) (knd := nestedKind X.prog X.w) (room8 hu) hk hd k⟩
theorem putM_dc (hu : X.A.units + 64 < cLine) : PutM X (fun p u r => dictSet p u r) :=
  ⟨fun I h hl ry rv k => d_dictSet I h hl ry rv k, fun hk hd hl k => wpAny_dictSet_heap (hsz := hl) (knd := nestedKind X.prog X.w) (show X.A.units + 8 < cLine by omega) hk hd k⟩
theorem putAll_dc (hT : TOk T X) (hu : X.A.units + 64 < cLine) : L2.PutAll X (rPut T) := fun X' e1 e2 e3 e4 ps s σ H p y v u r Q E I ry rv h =>
  put_ok (m := fun p u r => dictSet p u r) ⟨hT.K.trans e3.symm, hT.P.trans e1.symm, hT.w.trans e2.symm⟩ (putM_dc (by rw [e4]; exact hu)) I ry rv h
theorem putD_len (k v : D) : ∀ kvs : List (D × D), (putD kvs k v).length ≤ kvs.length + 1
  | [] => by unfold putD; simp
  | (k', v') :: r => by
    unfold putD
    split
    · simp
    · have := putD_len k v r
      simp only [List.length_cons]
      omega
theorem putD_pos (k v : D) : ∀ kvs : List (D × D), kvs.length ≤ (putD kvs k v).length
  | [] => by simp
  | (k', v') :: r => by
    unfold putD
    split
    · simp
    · have := putD_pos k v r
      simp only [List.length_cons]
      omega

/-! ### the comprehension -/
theorem dc_ok {W : Wd} {env : Env} {σ : L2.St} {it : TAr} {g : TGt} {tk tv : TEx} {z : List (D × D) → Sto → Prop} {Q : VK} (s : RelS T W) (r : RelE T W env σ) (h : it env W.S fun xs S1 => dcGo g tk tv (wipD env own) xs [] S1 z)
    (k : ∀ (W1 W2 : Wd) (p : Addr) (kvs : List (D × D)), Ext W W1 → RelS T W1 → W1.H p = none → Ext1 (W1.hide p (.dK [])) W2 → W2.hid = p :: W1.hid → (∀ a, a ∈ W1.hid → W2.H a = W1.H a) → RelS T W2 → RC T W2 (.dct kvs) p → z kvs W2.S → Q (.ref p) W2.H) :
    L2.tDcX (rPut T) (lI T it) (lG T own g) (lT T yesT) (lE T tk) (lE T tv) own σ W.H Q := by
  refine ⟨W, env, _, rfl, s, r, h, fun W1 ds J e1 s1 wk h1 p np => ?_⟩
  have r1 : RelE T W1 (wipD env own) (L2.wipe σ own) := RelE.wipes (r.x e1) own
  refine ⟨fun i m H' => m = ds.length - i ∧ i ≤ ds.length ∧ ∃ (W2 : Wd) (acc : List (D × D)), W2.H = H' ∧ Ext1 (W1.hide p (.dK [])) W2 ∧ W2.hid = p :: W1.hid ∧ (∀ a, a ∈ W1.hid → W2.H a = W1.H a) ∧ RelS T W2 ∧ RC T W2 (.dct acc) p ∧ acc.length ≤ i ∧
    dcGo g tk tv (wipD env own) (ds.drop i) acc W2.S z, ⟨ds.length, rfl, Nat.zero_le _, W1.hide p (.dK []), [], rfl, (Ext.refl _).toExt1, rfl, fun a ha => ?_, rel_hide s1 np, .inl ⟨[], upd_same, rfl, List.nodup_nil⟩, Nat.le_refl _, h1⟩, ?_⟩
  · obtain ⟨⟨x, q⟩, _⟩ := s1.hid a ha
    show upd W1.H p (.dK []) a = _
    rw [upd_ne (ne_of_none q np)]
  rintro i m H' ⟨hm, hle, W2, acc, rfl, e2, hh, hs, s2, hp, hl, h2⟩
  have ext0 : Ext1 W1 W2 := (ext_hide np).trans e2
  by_cases hi : i < ds.length
  · have hx : ds[i]? = some ds[i] := List.getElem?_eq_getElem hi
    rw [drop_cons hx] at h2
    refine .inr ⟨wk.go W2 i ext0 s2 hi, fun H3 => ∃ (W3 : Wd) (acc : List (D × D)), W3.H = H3 ∧ Ext1 (W1.hide p (.dK [])) W3 ∧ W3.hid = p :: W1.hid ∧ (∀ a, a ∈ W1.hid → W3.H a = W1.H a) ∧ RelS T W3 ∧ RC T W3 (.dct acc) p ∧ acc.length ≤ i + 1 ∧
      dcGo g tk tv (wipD env own) (ds.drop (i + 1)) acc W3.S z, fun H3 q => ⟨ds.length - (i + 1), by omega, rfl, hi, q⟩, fun x H3 hy => ?_⟩
    obtain ⟨W3, q1, q2, q3, q4, q5⟩ := wk.yld W2 i ds[i] x H3 ext0 s2 hx hy
    subst q1
    have r3 : RelE T W3 (wipD env own) (L2.wipe σ own) := r1.x1 (ext0.trans q3.toExt1)
    refine ⟨W3, wipD env own, ds[i], _, rfl, q4, r3, q5, by rw [q2]; exact h2, fun W4 env4 σ4 e4 s4 r4 w4 h4 => ⟨?_, ?_⟩⟩
    · rw [w4]
      exact wipe_twice σ own
    have e24 : Ext W2 W4 := q3.trans e4
    refine ⟨W4, env4, rfl, s4, r4, fun b S' => b = true ∧ S' = W4.S, ⟨rfl, rfl⟩, fun W5 b e5 s5 ⟨eb, eS⟩ => ?_⟩
    subst eb
    simp only [if_true]
    have e25 : Ext W2 W5 := e24.trans e5
    have r5 : RelE T W5 env4 σ4 := r4.x e5
    rw [← eS] at h4
    refine lE.go (t := tk) s5 r5 h4 fun W6 dk vk e6 s6 r6 hdk h6 => ?_
    refine lE.go (t := tv) s6 r6 h6 fun W7 dv vv e7 s7 r7 hdv h7 => ?_
    have e27 : Ext W2 W7 := (e25.trans e6).trans e7
    have b1 : Ext1 (W1.hide p (.dK [])) W7 := e2.trans e27.toExt1
    have b2 : W7.hid = p :: W1.hid := e27.hid.trans hh
    have hp7 : p ∈ W7.hid := by rw [b2]; exact List.mem_cons_self
    have b3 : W7.H p = W2.H p := e27.same p (by rw [hh]; exact List.mem_cons_self)
    refine ⟨W7, acc, dk, dv, rfl, .inr hp7, RC.x hp e27 fun _ => b3, h7.1, by have := wk.size; omega, hdk.x e7, hdv, fun o ro => ?_⟩
    refine ⟨W7.fill p o, putD acc dk dv, rfl, b1.trans (ext_fill hp7), b2, fun a ha => ?_, rel_fill s7 hp7, ro, by have := putD_len dk dv acc; omega, h7.2⟩
    show upd W7.H p _ a = _
    rw [upd_ne (fun e => ?_)]
    · exact (e27.same a (by rw [hh]; exact List.mem_cons_of_mem _ ha)).trans (hs a ha)
    · obtain ⟨⟨x0, q⟩, _⟩ := s1.hid a ha
      rw [e, np] at q
      cases q
  · have ei : i = ds.length := by omega
    rw [ei, List.drop_length] at h2
    exact .inl ⟨by rw [ei]; exact wk.stop W2 ext0 s2, k W1 W2 p acc e1 s1 np e2 hh hs s2 hp h2⟩
theorem Then.dc {W W1 W2 : Wd} {p : Addr} {kvs : List (D × D)} {R : KD} {Q : VK} (k : Then T W R Q) (e1 : Ext W W1) (s1 : RelS T W1) (np : W1.H p = none) (e2 : Ext1 (W1.hide p (.dK [])) W2) (hh : W2.hid = p :: W1.hid) (hs : ∀ a, a ∈ W1.hid → W2.H a = W1.H a) (s2 : RelS T W2) (rc : RC T W2 (.dct kvs) p)
    (h : R (.loc W2.S.length) (W2.S ++ [.dct kvs])) : Q (.ref p) W2.H := by
  have e3 : Ext1 W2 (W2.own_ p (.dct kvs) W1.hid) := ext_own hh
  refine k (W2.own_ p (.dct kvs) W1.hid) (.loc W2.S.length) (.ref p) (e1.trans ⟨((ext_hide np).trans e2).trans e3, rfl, hs⟩) (rel_own s2 hh (fun l => ?_) (RC.x1 rc e3 fun _ => rfl)) ?_ h
  · obtain ⟨⟨x, q⟩, _⟩ := s1.hid p l
    rw [np] at q
    cases q
  · unfold RD
    refine ⟨by show _ < (W2.S ++ [_]).length; simp, ?_⟩
    show V.ref p = .ref (if W2.S.length = W2.S.length then p else W2.ρ W2.S.length)
    rw [if_pos rfl]
theorem dt_yes : PTs X [] (lT T yesT) := ⟨fun pins s σ H Q I q => by
  obtain ⟨W, env, hW, s0, r, R, h, k⟩ := q
  subst hW
  exact wpAny_pure ⟨W.H, I, k W true (.refl W) s0 h⟩⟩
end
end Dn

/-! DnDict4: dict comprehensions as values, subscripts, item targets, len, truth, max with a default. -/
namespace Dn
open PySem PySem.Spec PyProof.Rows L2
section
variable {X : Cx} {T : Tx} {own : List Nat} {a b c e tg iter : Expr} {ta tb tc te : TEx} {pos : Pos}
section
variable {kx vx : Expr} {scope : Scope} {ow : List (Str × Nat)} {it : TAr} {g : TGt} {tk tv : TEx}
theorem de_dc (hT : TOk T X) (hu : X.A.units + 64 < cLine) (hc : X.calm = true) (hN : X.N.Nodup) (hi : PI X tg iter (lI T it)) (ok : BlkOk X.N X.env.scope scope ow)
    (hg : ∀ (s : Shared) (H : Hp) (C : Addr) (cl : List (Str × Addr)) (fp : List Addr), PG (X.blk s H scope (compEnvC scope cl C X.env) fp) tg (lG T (ow.map (·.2)) g))
    (hk : ∀ (s : Shared) (H : Hp) (C : Addr) (cl : List (Str × Addr)) (fp : List Addr), PE (X.blk s H scope (compEnvC scope cl C X.env) fp) kx (lE T tk))
    (hv : ∀ (s : Shared) (H : Hp) (C : Addr) (cl : List (Str × Addr)) (fp : List Addr), PE (X.blk s H scope (compEnvC scope cl C X.env) fp) vx (lE T tv)) (hs : ∀ x, foldedSetIterable iter X.env x = pure x := by intro _; rfl) :
    PE X (.DictComp kx vx [⟨tg, iter, [], 0⟩] scope pos) (lE T (dc (ow.map (·.2)) it g tk tv)) :=
  pe_imp (L2.pe_dcX (putAll_dc hT hu) hc hN hi ok hg (fun _ _ _ _ _ => dt_yes) hk hv hs) fun σ H Q ⟨W, env, hW, s, r, R, h, k⟩ => by
    subst hW
    exact dc_ok s r h fun W1 W2 p kvs e1 s1 np e2 hh hs s2 rc h2 => Then.dc k e1 s1 np e2 hh hs s2 rc h2
theorem ds_setDc {i : Nat} {y : Str} {py spos : Pos} (hT : TOk T X) (hu : X.A.units + 64 < cLine) (hc : X.calm = true) (hN : X.N.Nodup) (hy : X.N[i]? = some y) (hyl : X.env.scope.names.lookup y = some .local) (hsw : swapsWith (.DictComp kx vx [⟨tg, iter, [], 0⟩] scope pos) (some (.Name y py)) spos.line X.env = pure true)
    (hi : PI X tg iter (lI T it)) (ok : BlkOk X.N X.env.scope scope ow)
    (hg : ∀ (s : Shared) (H : Hp) (C : Addr) (cl : List (Str × Addr)) (fp : List Addr), PG (X.blk s H scope (compEnvC scope cl C X.env) fp) tg (lG T (ow.map (·.2)) g))
    (hk : ∀ (s : Shared) (H : Hp) (C : Addr) (cl : List (Str × Addr)) (fp : List Addr), PE (X.blk s H scope (compEnvC scope cl C X.env) fp) kx (lE T tk))
    (hv : ∀ (s : Shared) (H : Hp) (C : Addr) (cl : List (Str × Addr)) (fp : List Addr), PE (X.blk s H scope (compEnvC scope cl C X.env) fp) vx (lE T tv)) (hs : ∀ x, foldedSetIterable iter X.env x = pure x := by intro _; rfl) :
    PS X (.Assign [.Name y py] (.DictComp kx vx [⟨tg, iter, [], 0⟩] scope pos) spos) (lS T (asS (dc (ow.map (·.2)) it g tk tv) (gN i))) := by
  refine ⟨fun pins s σ H D I h => ?_⟩
  obtain ⟨W, env, z, hW, s0, r, k, h⟩ := h
  subst hW
  rw [exec_Assign_Name_used _ _ _ _ hsw]
  refine wpAny_bind (wpAny_standAt (wpAny_bind ?_))
  show wpAny _ X.A (do let _ ← comprehension (.DictComp kx vx [⟨tg, iter, [], 0⟩] scope pos) scope X.env (firstIterPos [⟨tg, iter, [], 0⟩] pos) newDict false (eval iter X.env) (some (assign (.Name y py) X.env))) _ _ s
  have h0 : L2.tDcX (rPut T) (lI T it) (lG T (ow.map (·.2)) g) (lT T yesT) (lE T tk) (lE T tv) (ow.map (·.2)) σ W.H (fun x H1 => gName i x σ H1 D.nx) := by
    refine dc_ok s0 r h fun W1 W2 p kvs e1 s1 np e2 hh hs s2 rc h2 => ?_
    exact Then.dc (Q := fun x H1 => gName i x σ H1 D.nx) (R := fun d S => z.nx (env.set i (some d)) S) (fun W' d v e' s' hd q => k.nx W' _ _ e' s' ((r.x e').set i hd) q) e1 s1 np e2 hh hs s2 rc h2
  refine wpAny_bind (thn (L2.dcX_core (Qfin := fun _ s' => SP X pins D .next s') (putAll_dc hT hu) hc hN I hi ok hg (fun _ _ _ _ _ => dt_yes) hk hv hs h0 fun L C s' m H' I' q hn f => ?_) fun _ s' hq => wpAny_pure (wpAny_pure hq))
  show wpAny _ _ (assign (.Name y py) X.env (.ref L)) _ _ _
  refine wpAny_assign_Name (store_ok2 (v := V.ref L) I' hN hy (.inl hyl) rfl (fun s2 I2 ⟨a, sb, ha⟩ => ?_) (.inr hyl))
  obtain ⟨f0, f1, f2, f3, f4, f5⟩ := f
  have haC : C ≠ a := by
    rcases ha with z | z
    · rw [z]; exact f1
    · exact fun e => f4 y a z e.symm
  refine ⟨m, hn.sameBut sb haC, fun h3 sb3 => ?_⟩
  exact ⟨_, H', I2.turned (t' := s2.toks) (fun b o hb e => (sb3.2 b hb).trans e) f0 f1 f3 f4 f5, q⟩
theorem sw_dc {kx vx : Expr} {gs : List Comprehension} {scope : Scope} {pos py : Pos} {y : Str} {l : Nat} {env : PySem.Env} (hk : env.scope.kind = .function) (hy : env.scope.names.lookup y = some .local) (hl : (py.line == pos.line) = true)
    (ha : (scope.names.any fun (n, k) => n == y && (k == .local || k == .cell)) = false) : swapsWith (.DictComp kx vx gs scope pos) (some (.Name y py)) l env = pure true := by
  have ky : env.kindOf y = some .local := hy
  have hb : env.blockKind = .function := by unfold Env.blockKind; rw [hk]; rfl
  unfold swapsWith
  simp only [hb, ky, ha, Expr.pos, hl]
  rfl
end

/-! ### subscripts -/
theorem subO_ok {W : Wd} {x i : D} {v u : V} {R : KD} {Q : VK} (hT : T.K = X.K) (s : RelS T W) (hx : RD T W x v) (hi : RD T W i u) (h : subO_ x i W.S R) (k : Then T W R Q) : rIx X.K v u W.H Q ∨ rIxDc T v u W.H Q := by
  have dcw : ∀ kvs d, dctOf W.S x = some kvs → kOk kvs i = true → lookD kvs i = some d → R d W.S → rIxDc T v u W.H Q := fun kvs d hd hk hl hR => by
    cases x with
    | loc n =>
      obtain ⟨_, rfl⟩ := hx.loc_inv
      have hd : (match W.S[n]? with
        | some (.dct kvs) => some kvs
        | _ => none) = some kvs := hd
      split at hd
      · rename_i kvs' hn
        cases hd
        exact ⟨W, W.ρ n, _, i, d, rfl, rfl, s.ok n _ hn, hk, hi, hl, fun w rw' => Then.now k s rw' hR⟩
      · cases hd
    | _ => cases hd
  unfold subO_ at h
  split at h
  · rename_i j
    split at h
    · rename_i ds hs
      exact .inl (subO_seq hT s hx hi hs h k)
    · split at h
      · rename_i kvs hd
        obtain ⟨hk, h⟩ := h
        split at h
        · rename_i d hl
          exact .inr (dcw kvs d hd hk hl h)
        · exact h.elim
      · exact h.elim
  · split at h
    · rename_i kvs hd
      obtain ⟨hk, h⟩ := h
      split at h
      · rename_i d hl
        exact .inr (dcw kvs d hd hk hl h)
      · exact h.elim
    · exact h.elim
theorem de_ix (hT : TOk T X) (hu : X.A.units + 64 < cLine) (ha : PE X a (lE T ta)) (hb : PE X b (lE T tb)) (hs : PlainIx b := by intro _ _; rfl) : PE X (.Subscript a b pos) (lE T (sub ta tb)) :=
  pe_imp (pe_ix (ix_seq.or (ix_dc hT hu)) ha hb hs) fun σ H Q ⟨W, env, hW, s, r, R, h, q⟩ => by
    subst hW
    refine lE.go (t := ta) s r h fun W1 d v e1 s1 r1 hd h1 => ?_
    refine lE.go (t := tb) s1 r1 h1 fun W2 d2 v2 e2 s2 r2 hd2 h2 => ?_
    exact subO_ok hT.K s2 (hd.x e2) hd2 h2 (Then.x q (e1.trans e2))
/-! ### o[i] = v -/
def rSetC (T : Tx) : TSet := fun o i v H Q => rSetL o i v H Q ∨ ∃ p, o = .ref p ∧ rPut T p i v H Q
theorem set_c (hT : TOk T X) (hu : X.A.units + 64 < cLine) : PSet X (rSetC T) := by
  intro pins s σ H o i v ov iv u Q I ro ri rv h
  rcases h with h | ⟨p, rfl, h⟩
  · exact set_list pins s σ H o i v ov iv u Q I ro ri rv h
  · cases ro
    exact put_ok (m := fun p u r => setItem (.ref p) u r) hT (putM_set hu) I ri rv h
theorem setO_ok {W : Wd} {x i d : D} {v u w : V} {R : Sto → Prop} {Q : Hp → Prop} (s : RelS T W) (hx : RD T W x v) (hi : RD T W i u) (hd : RD T W d w) (h : setO x i d W.S R) (k : ∀ W', Ext W W' → RelS T W' → R W'.S → Q W'.H) : rSetC T v u w W.H Q := by
  unfold setO at h
  split at h
  · rename_i n
    obtain ⟨_, rfl⟩ := hx.loc_inv
    split at h
    · rename_i ds hn
      obtain ⟨vs, q1, q2⟩ := s.ok n _ hn
      split at h
      · rename_i j
        split at h
        · rename_i m hm
          refine .inl ⟨_, vs, j, m, rfl, hi.int_inv, q1, by rw [q2.length]; exact hm, ?_⟩
          have ex : Ext W (W.put n (.lst (vs.set m w)) (.lst (ds.set m d))) := ext_put s hn rfl
          exact k (W.put n (.lst (vs.set m w)) (.lst (ds.set m d))) ex (rel_put s hn rfl ⟨_, upd_same, (q2.set hd m).x ex⟩) h
        · exact h.elim
      · exact h.elim
    · rename_i kvs hn
      obtain ⟨⟨hk, hl⟩, h⟩ := h
      refine .inr ⟨W.ρ n, rfl, W, kvs, i, d, rfl, .inl ⟨n, _, hn, rfl, rfl⟩, s.ok n _ hn, hk, hl, hi, hd, fun o ro => ?_⟩
      have ex : Ext W (W.put n o (.dct (putD kvs i d))) := ext_put s hn rfl
      refine k (W.put n o (.dct (putD kvs i d))) ex (rel_put s hn rfl ?_) h
      have e1 : Ext1 (W.fill (W.ρ n) o) (W.put n o (.dct (putD kvs i d))) := by
        refine ⟨by show _ ≤ (W.S.set n _).length; rw [List.length_set]; exact Nat.le_refl _, fun _ _ => rfl, fun a x h l => ⟨h, fun l' => l ?_⟩⟩
        rcases l' with l' | l'
        · exact .inl (put_cel (W := W) (o := o) (c := .dct (putD kvs i d)) hn rfl l')
        · exact .inr l'
      exact RC.x1 ro e1 fun _ => rfl
    · exact h.elim
  · exact h.elim
theorem dg_sub {p : Pos} (hT : TOk T X) (hu : X.A.units + 64 < cLine) (ha : PE X a (lE T ta)) (hb : PE X b (lE T tb))
    (hs : ∀ v, assign (.Subscript a b p) X.env v = (do
      let ov ← holding [v] (eval a X.env)
      let iv ← holding [v, ov] (eval b X.env)
      standAt p
      holding [v, ov, iv] (setItem ov iv v)
      release [v, ov, iv] []) := by intro _; rfl) : PG X (.Subscript a b p) (lG T own (gSub ta tb)) :=
  pg_imp (pg_sub ha hb (set_c hT hu) hs) fun v σ H Q ⟨W, env, d, R, hW, s, r, hd, h, k⟩ => by
    subst hW
    refine lE.go (t := ta) s r h fun W1 x1 v1 e1 s1 r1 hd1 h1 => ?_
    refine lE.go (t := tb) s1 r1 h1 fun W2 x2 v2 e2 s2 r2 hd2 h2 => ?_
    exact setO_ok s2 (hd1.x e2) hd2 (hd.x (e1.trans e2)) h2 fun W3 e3 s3 h3 => k W3 env σ ((e1.trans e2).trans e3) s3 (r2.x e3) rfl h3
/-! ### {} -/
theorem de_dctC : PE X (.Dict [] [] pos) (lE T dctC) :=
  pe_imp pe_dnewK fun σ H Q ⟨W, env, hW, s, r, R, h, k⟩ => by
    subst hW
    intro p np
    exact k (W.cell p (.dK []) (.dct [])) _ _ (ext_cell s np) (rel_cell s np (.inl ⟨[], upd_same, rfl, List.nodup_nil⟩)) rd_cell h
/-! ### k in d -/
theorem inD_ok {W : Wd} {x y : D} {kvs : List (D × D)} {v u : V} {R : KB} {Q : VK} (f : Bool → Bool) (s : RelS T W) (hx : RD T W x v) (hy : RD T W y u) (hd : dctOf W.S y = some kvs) (hk : kOk kvs x = true) (h : R (lookD kvs x).isSome W.S) (k : Then T W (fun d S => ∃ b, d = .bl (f b) ∧ R b S) Q) : rInDc T f v u W.H Q := by
  cases y with
  | loc n =>
    obtain ⟨_, rfl⟩ := hy.loc_inv
    have hd : (match W.S[n]? with
      | some (.dct kvs) => some kvs
      | _ => none) = some kvs := hd
    split at hd
    · rename_i kvs' hn
      cases hd
      exact ⟨W, W.ρ n, _, x, rfl, rfl, s.ok n _ hn, hk, hx, k W _ _ (.refl W) s .bl ⟨_, rfl, h⟩⟩
    · cases hd
  | _ => cases hd
/-! ### len -/
def rLenDc (T : Tx) : List V → Hp → VK → Prop := fun xs H Q => ∃ (W : Wd) (p : Addr) (kvs : List (D × D)), W.H = H ∧ xs = [.ref p] ∧ RC T W (.dct kvs) p ∧ Q (.int (kvs.length : Nat)) H
theorem call_lenDc (hT : TOk T X) : CallR X (.builtin "len") (rLenDc T) := by
  intro pins s σ H xs us Q I r h
  obtain ⟨W, p, kvs, hW, rfl, rc, q⟩ := h
  subst hW
  obtain rfl := Vals.ref1 r
  rcases rc with ⟨ls, h1, h2, h3⟩ | ⟨xs, h1, h2, h3, h4, h5⟩
  · refine d_len I (.inl h1) fun t s' I' => ⟨.int (kvs.length : Nat), W.H, I', ?_, q⟩
    rw [h2.len]
    exact ⟨t, rfl⟩
  · rw [hT.P, hT.w] at h1
    have dd := rawT_dct hT.K I h1 h2 h3
    have z := h2.len
    have hl := line63
    refine call_len_dictH h5 dd (by omega) ⟨.int (kvs.length : Nat), W.H, I.tok _, ?_, q⟩
    rw [z]
    exact ⟨_, rfl⟩
theorem lenB_ok (hT : TOk T X) : BiOk T lenB (fun xs H Q => (∃ p ys, xs = [.ref p] ∧ (SqL X.K H p ys ∨ SqT X.K H p ys) ∧ Q (.int ys.length) H) ∨ ((∃ z : Str, xs = [.str z] ∧ z.length ≤ sizeLine ∧ Q (.int z.length) H) ∨ rLenDc T xs H Q)) := by
  intro W ds vs R Q s hd h k
  unfold lenB at h
  split at h
  · rename_i cs
    obtain ⟨v, rfl, hv⟩ := hd.one_inv
    refine .inr (.inl ⟨⟨cs.toArray⟩, by rw [hv.str_inv], by simpa [Str.length] using h.1, ?_⟩)
    have e : ((⟨cs.toArray⟩ : Str).length : Int) = cs.length := by simp [Str.length]
    rw [e]
    exact Then.now k s .int h.2
  · rename_i x _
    obtain ⟨v, rfl, hv⟩ := hd.one_inv
    split at h
    · rename_i xs hx
      obtain ⟨p, us, rfl, q1, q2⟩ := RD.sq s hv hx
      refine .inl ⟨p, us, rfl, hT.K ▸ q1, ?_⟩
      rw [q2.length]
      exact Then.now k s .int h
    · split at h
      · rename_i kvs hdc
        cases x with
        | loc n =>
          obtain ⟨_, rfl⟩ := hv.loc_inv
          have hdc : (match W.S[n]? with
            | some (.dct kvs) => some kvs
            | _ => none) = some kvs := hdc
          split at hdc
          · rename_i kvs' hn
            cases hdc
            exact .inr (.inr ⟨W, W.ρ n, _, rfl, rfl, s.ok n _ hn, Then.now k s .int h⟩)
          · cases hdc
        | _ => cases hdc
      · exact h.elim
  · exact h.elim
theorem len_cr (hT : TOk T X) : CallR X (.builtin "len") (fun xs H Q => (∃ p ys, xs = [.ref p] ∧ (SqL X.K H p ys ∨ SqT X.K H p ys) ∧ Q (.int ys.length) H) ∨ ((∃ z : Str, xs = [.str z] ∧ z.length ≤ sizeLine ∧ Q (.int z.length) H) ∨ rLenDc T xs H Q)) :=
  call_len_seq.or (call_len_str.or (call_lenDc hT))
/-! ### max(xs, default=d) -/
theorem foldl_maxI : ∀ (r : List Int) (m : Int), r.foldl max m = maxI r m
  | [], m => rfl
  | x :: r, m => by
    show r.foldl max (max m x) = maxI r (if m < x then x else m)
    rw [foldl_maxI r]
    congr 1
    split <;> omega
def rMaxDf (K : PySem.W.Frag) : List V → List V → Hp → VK → Prop := fun xs zs H Q => ∃ (p : Addr) (ns : List Int) (d : Int), xs = [.ref p] ∧ zs = [.int d] ∧ SqL K H p (ns.map V.int) ∧ Q (.int (match ns with
  | [] => d
  | i :: r => maxI r i)) H
theorem alike_ints (ns : List Int) : PySem.W.AlikeAll (ns.map PyData.int) := by
  refine ⟨fun x hx y hy => ?_, fun x hx e => ?_⟩
  · obtain ⟨i, _, rfl⟩ := List.mem_map.mp hx
    obtain ⟨j, _, rfl⟩ := List.mem_map.mp hy
    rfl
  · obtain ⟨i, _, rfl⟩ := List.mem_map.mp hx
    cases e
theorem depth_ints : ∀ ns : List Int, PyData.depthAll (ns.map PyData.int) = 0
  | [] => rfl
  | n :: ns => by
    show max (PyData.depth (.int n)) (PyData.depthAll (ns.map PyData.int)) = 0
    rw [depth_ints ns]
    rfl
theorem dp_ints {K : PySem.W.Frag} {H : Hp} : ∀ ns : List Int, DpAll K H (ns.map V.int) (ns.map PyData.int)
  | [] => .nil
  | n :: ns => .cons (.int n) (dp_ints ns)
theorem cr_maxDf (hc : X.calm = true) (hu : X.A.units + 64 < cLine) : CallRK X (.builtin "max") [Str.ofString "default"] (rMaxDf X.K) := by
  intro pins s σ H vs zs us ws Q I r rz h
  obtain ⟨p, ns, d, rfl, rfl, hs, q⟩ := h
  obtain rfl := Vals.ref1 r
  obtain ⟨w1, rfl, t1, rfl⟩ := vals1 rz
  obtain ⟨its, rv, pl, hz⟩ := I.list hs
  obtain ⟨as, ra⟩ := Dp.readsAll I _ _ _ (dp_ints ns) rv
  have kept : ∀ h' tk, (∀ b o, s.heap.get? b = some o → h'.get? b = some o) → Inv X pins σ H { s with heap := h', toks := tk } := fun h' tk k => I.kept k
  refine PySem.W.max_list_default (vs := its.toArray) (as := as) (I.ok.hd hc) pl.isList (by simpa using ra) (alike_ints ns) (by rw [depth_ints]; omega) (fun e h' tk k => ?_) fun y ys i v h' tk bs e hv rd k => ?_
  · have e0 : ns = [] := by simpa using e
    subst e0
    exact ⟨.int d, H, kept h' tk k, ⟨t1, rfl⟩, q⟩
  · cases ns with
    | nil => cases e
    | cons n r =>
      have e1 : PyData.int n = y := (List.cons.inj e).1
      have e2 : r.map PyData.int = ys := (List.cons.inj e).2
      subst e1
      subst e2
      rw [PySem.W.maxD_ints, foldl_maxI] at rd
      cases rd
      exact ⟨.int (maxI r n), H, kept h' tk k, ⟨_, rfl⟩, q⟩
theorem de_maxd {p kpos : Pos} (hc : X.calm = true) (hT : T.K = X.K) (hu : X.A.units + 64 < cLine) (hg : Gl X (Str.ofString "max")) (hm : X.mg (Str.ofString "max") = none) (ha : PE X a (lE T ta)) (hb : PE X b (lE T tb))
    (he : starEach [a] X.env = (false, eval a X.env) :: starEach [] X.env := by rfl)
    (he2 : backTo pos (starEach [a] X.env) = (false, eval a X.env) :: backTo pos (starEach [] X.env) := by rfl) (hpl : (backTo pos (starEach [a] X.env)).any (·.1) = false := by rfl)
    (hall : (backToKw pos (keywordEach [⟨some (Str.ofString "default"), b, kpos⟩] X.env)).all (·.1.isSome) = true := by rfl) (hnone : (backToKw pos (keywordEach [⟨some (Str.ofString "default"), b, kpos⟩] X.env)).any (·.1.isNone) = false := by rfl) (hks : (backToKw pos (keywordEach [⟨some (Str.ofString "default"), b, kpos⟩] X.env)).filterMap (·.1) = [Str.ofString "default"] := by rfl) :
    PE X (.Call (.Name (Str.ofString "max") p) [a] [⟨some (Str.ofString "default"), b, kpos⟩] pos) (lE T (bi maxdB (consA ta (consA tb nilA)))) :=
  pe_imp (pe_callBK (cr_maxDf hc hu) hg hm (by rfl) (pa_cons ha pa_nil he) (pk_cons hb pk_nil) (by decide) (by decide) he2 hpl hall hnone hks) fun σ H Q ⟨W, env, hW, s, r, R, h, k⟩ => by
    subst hW
    refine lE.go (t := ta) s r h fun W1 d v e1 s1 r1 hd h1 => ?_
    refine lE.go (t := tb) s1 r1 h1 fun W2 d2 v2 e2 s2 r2 hd2 h2 => ?_
    have h3 : maxdB [d, d2] W2.S R := h2
    clear h2
    unfold maxdB at h3
    split at h3
    · rename_i x j ed
      injection ed with ed1 ed
      injection ed with ed2 _
      subst ed1
      subst ed2
      have kk : Then T W2 R Q := Then.x k (e1.trans e2)
      split at h3
      · rename_i i r hi
        obtain ⟨p, rfl, q⟩ := lst_ints s2 (hd.x e2) hi
        exact ⟨p, i :: r, j, rfl, by rw [hd2.int_inv], .of q, Then.now kk s2 .int h3⟩
      · rename_i hi
        obtain ⟨p, rfl, q⟩ := lst_ints s2 (hd.x e2) hi
        exact ⟨p, [], j, rfl, by rw [hd2.int_inv], .of q, Then.now kk s2 .int h3⟩
      · exact h3.elim
    · exact h3.elim
end
end Dn

/-! DnRule: the rules as a printed derivation names them. -/
namespace Dn
open PySem PySem.Spec PyProof.Rows L2
/-- the cells of a list's items stop changing -/
def frzL : List D → Sto → Option (List D × Sto)
  | [], S => some ([], S)
  | .loc n :: r, S => (match S[n]? with
    | some (.lst es) => (frzL r (S.set n (.frz (.lst es)))).map fun p => (.lst es :: p.1, p.2)
    | some (.frz d) => (frzL r S).map fun p => (d :: p.1, p.2)
    | _ => none)
  | d :: r, S => (frzL r S).map fun p => (d :: p.1, p.2)
def vrf (i : Nat) : TEx := fun env S R => match env[i]? with
  | some (some (.lst ds)) => (match frzL ds S with
    | some (es, S1) => R (.lst es) S1
    | none => False)
  | _ => False
section
variable {X : Cx} {T : Tx} {own : List Nat} {a b c e tg iter : Expr} {ta tb tc te : TEx} {pos : Pos}
theorem frzL_ok : ∀ (ds : List D) (vs : List V) (W : Wd) (es : List D) (S1 : Sto), RelS T W → RDs T W ds vs → frzL ds W.S = some (es, S1) → ∃ W1 : Wd, W1.S = S1 ∧ W1.H = W.H ∧ Ext W W1 ∧ RelS T W1 ∧ RDs T W1 es vs
  | [], vs, W, es, S1, s, r, h => by
    cases (Option.some.inj h)
    exact ⟨W, rfl, rfl, .refl W, s, r⟩
  | d :: ds, vs, W, es, S1, s, r, h => by
    obtain ⟨v, us, rfl, r1, r2⟩ := r.cons_inv
    have plain : (∀ n, d ≠ .loc n) → ∃ W1 : Wd, W1.S = S1 ∧ W1.H = W.H ∧ Ext W W1 ∧ RelS T W1 ∧ RDs T W1 es (v :: us) := fun hd => by
      have h' : (frzL ds W.S).map (fun p => (d :: p.1, p.2)) = some (es, S1) := by
        cases d with
        | loc n => exact absurd rfl (hd n)
        | _ => exact h
      obtain ⟨⟨es', S'⟩, q1, q2⟩ := Option.map_eq_some_iff.mp h'
      cases q2
      obtain ⟨W1, w1, w2, w3, w4, w5⟩ := frzL_ok ds us W es' S' s r2 q1
      exact ⟨W1, w1, w2, w3, w4, .cons (r1.x w3) w5⟩
    by_cases hd : ∀ n, d ≠ .loc n
    · exact plain hd
    · obtain ⟨n, rfl⟩ : ∃ n, d = .loc n := Classical.byContradiction fun z => hd fun n e => z ⟨n, e⟩
      obtain ⟨h1, rfl⟩ := r1.loc_inv
      have h : (match W.S[n]? with
        | some (.lst es) => (frzL ds (W.S.set n (.frz (.lst es)))).map fun p => (.lst es :: p.1, p.2)
        | some (.frz d) => (frzL ds W.S).map fun p => (d :: p.1, p.2)
        | _ => none) = some (es, S1) := h
      split at h
      · rename_i xs hn
        obtain ⟨⟨es', S'⟩, q1, q2⟩ := Option.map_eq_some_iff.mp h
        cases q2
        have z := frz_lst s hn
        obtain ⟨W1, w1, w2, w3, w4, w5⟩ := frzL_ok ds us (W.frz n (.lst xs)) es' S' (rel_frz s z) (r2.x ext_frz) q1
        exact ⟨W1, w1, w2, ext_frz.trans w3, w4, .cons (z.x w3) w5⟩
      · rename_i d' hn
        obtain ⟨⟨es', S'⟩, q1, q2⟩ := Option.map_eq_some_iff.mp h
        cases q2
        have z : RD T W d' (.ref (W.ρ n)) := s.ok n _ hn
        obtain ⟨W1, w1, w2, w3, w4, w5⟩ := frzL_ok ds us W es' S' s r2 q1
        exact ⟨W1, w1, w2, w3, w4, .cons (z.x w3) w5⟩
      · cases h
theorem de_vrf (i : Nat) {x : Str} {pos : Pos} (hN : X.N[i]? = some x) (hv : Vis X.env.scope x) (hd : (x == ("__debug__" : Str)) = false := by decide) (hcd : (x == ("__classdict__" : Str)) = false := by decide) : PE X (.Name x pos) (lE T (vrf i)) := by
  refine pe_imp (pe_var hN hv hd hcd) fun σ H Q ⟨W, env, hW, s, r, R, h, k⟩ => ?_
  subst hW
  unfold vrf at h
  split at h
  · rename_i ds hd
    obtain ⟨v, h1, h2⟩ := r.at_ i _ hd
    refine ⟨v, h1, ?_⟩
    split at h
    · rename_i es S1 hz
      unfold RD at h2
      obtain ⟨p, vs, rfl, q1, q2, q3⟩ := h2
      obtain ⟨W1, rfl, w2, w3, w4, w5⟩ := frzL_ok ds vs W es S1 s q3 hz
      have rd : RD T W1 (.lst es) (.ref p) := by
        unfold RD
        obtain ⟨g1, g2⟩ := w3.keep _ _ q1 q2
        exact ⟨p, vs, rfl, g1, g2, w5⟩
      have z := k W1 (.lst es) (.ref p) w3 w4 rd h
      rw [w2] at z
      exact z
    · exact h.elim
  · exact h.elim

/-! ### built-in calls -/
theorem de_len {x : Str} {p : Pos} (hT : TOk T X) (hx : x = "len") (hg : Gl X x) (hm : X.mg x = none) (ha : PE X a (lE T ta)) (he : starEach [a] X.env = (false, eval a X.env) :: starEach [] X.env := by rfl) (hpl : (backTo pos (starEach [] X.env)).any (·.1) = false := by rfl) : PE X (.Call (.Name x p) [a] [] pos) (lE T (bi lenB (consA ta nilA))) := by
  subst hx
  exact de_biB (len_cr hT) (lenB_ok hT) hg hm PySem.boot_len (da_cons ha da_nil he) (by decide) (by decide) he hpl
theorem de_int1 {x : Str} {p : Pos} (hx : x = "int") (hg : Gl X x) (hm : X.mg x = none) (ha : PE X a (lE T ta)) (he : starEach [a] X.env = (false, eval a X.env) :: starEach [] X.env := by rfl) (hpl : (backTo pos (starEach [] X.env)).any (·.1) = false := by rfl) : PE X (.Call (.Name x p) [a] [] pos) (lE T (bi intB (consA ta nilA))) := by
  subst hx
  exact de_biT call_int1 intB_ok hg hm PyProof.Rows.boot_int (da_cons ha da_nil he) (by decide) (by decide) he hpl
theorem de_abs {x : Str} {p : Pos} (hx : x = "abs") (hg : Gl X x) (hm : X.mg x = none) (ha : PE X a (lE T ta)) (he : starEach [a] X.env = (false, eval a X.env) :: starEach [] X.env := by rfl) (hpl : (backTo pos (starEach [] X.env)).any (·.1) = false := by rfl) : PE X (.Call (.Name x p) [a] [] pos) (lE T (bi absB (consA ta nilA))) := by
  subst hx
  exact de_biB call_abs absB_ok hg hm PyProof.Rows.boot_abs (da_cons ha da_nil he) (by decide) (by decide) he hpl
theorem de_tup1 {x : Str} {p : Pos} (hT : T.K = X.K) (hx : x = "tuple") (hg : Gl X x) (hm : X.mg x = none) (ha : PE X a (lE T ta)) (he : starEach [a] X.env = (false, eval a X.env) :: starEach [] X.env := by rfl) (hpl : (backTo pos (starEach [] X.env)).any (·.1) = false := by rfl) : PE X (.Call (.Name x p) [a] [] pos) (lE T (bi tupB (consA ta nilA))) := by
  subst hx
  exact de_biT call_tuple_of (tupB_ok X.K hT) hg hm PyProof.Rows.boot_tuple (da_cons ha da_nil he) (by decide) (by decide) he hpl
theorem de_lst1 {x : Str} {p : Pos} (hT : T.K = X.K) (hx : x = "list") (hg : Gl X x) (hm : X.mg x = none) (ha : PE X a (lE T ta)) (he : starEach [a] X.env = (false, eval a X.env) :: starEach [] X.env := by rfl) (hpl : (backTo pos (starEach [] X.env)).any (·.1) = false := by rfl) : PE X (.Call (.Name x p) [a] [] pos) (lE T (bi lstB (consA ta nilA))) := by
  subst hx
  exact de_biT call_list_of (lstB_ok X.K hT) hg hm PyProof.Rows.boot_list (da_cons ha da_nil he) (by decide) (by decide) he hpl
theorem de_lstC1 {x : Str} {p : Pos} (hT : T.K = X.K) (hx : x = "list") (hg : Gl X x) (hm : X.mg x = none) (ha : PE X a (lE T ta)) (he : starEach [a] X.env = (false, eval a X.env) :: starEach [] X.env := by rfl) (hpl : (backTo pos (starEach [] X.env)).any (·.1) = false := by rfl) : PE X (.Call (.Name x p) [a] [] pos) (lE T (bi lstCB (consA ta nilA))) := by
  subst hx
  exact de_biT call_list_of (lstCB_ok X.K hT) hg hm PyProof.Rows.boot_list (da_cons ha da_nil he) (by decide) (by decide) he hpl
theorem de_max1 {x : Str} {p : Pos} (hc : X.calm = true) (hx : x = "max") (hg : Gl X x) (hm : X.mg x = none) (ha : PE X a (lE T ta)) (he : starEach [a] X.env = (false, eval a X.env) :: starEach [] X.env := by rfl) (hpl : (backTo pos (starEach [] X.env)).any (·.1) = false := by rfl) : PE X (.Call (.Name x p) [a] [] pos) (lE T (bi maxB (consA ta nilA))) := by
  subst hx
  exact de_biB (cr_max hc) (maxB_ok X.K) hg hm PyProof.Rows.boot_max (da_cons ha da_nil he) (by decide) (by decide) he hpl
theorem de_min1 {x : Str} {p : Pos} (hc : X.calm = true) (hx : x = "min") (hg : Gl X x) (hm : X.mg x = none) (ha : PE X a (lE T ta)) (he : starEach [a] X.env = (false, eval a X.env) :: starEach [] X.env := by rfl) (hpl : (backTo pos (starEach [] X.env)).any (·.1) = false := by rfl) : PE X (.Call (.Name x p) [a] [] pos) (lE T (bi minB (consA ta nilA))) := by
  subst hx
  exact de_biB (cr_min hc) (minB_ok X.K) hg hm PyProof.Rows.boot_min (da_cons ha da_nil he) (by decide) (by decide) he hpl
theorem de_max2 {x : Str} {p : Pos} (hc : X.calm = true) (hx : x = "max") (hg : Gl X x) (hm : X.mg x = none) (ha : PE X a (lE T ta)) (hb : PE X b (lE T tb)) (he : starEach [a, b] X.env = (false, eval a X.env) :: starEach [b] X.env := by rfl) (he2 : starEach [b] X.env = (false, eval b X.env) :: starEach [] X.env := by rfl) (hpl : (backTo pos (starEach [b] X.env)).any (·.1) = false := by rfl) : PE X (.Call (.Name x p) [a, b] [] pos) (lE T (bi max2B (consA ta (consA tb nilA)))) := by
  subst hx
  exact de_biB (call_max2 hc) max2B_ok hg hm PyProof.Rows.boot_max (da_cons ha (da_cons hb da_nil he2) he) (by decide) (by decide) he hpl
theorem de_min2 {x : Str} {p : Pos} (hc : X.calm = true) (hx : x = "min") (hg : Gl X x) (hm : X.mg x = none) (ha : PE X a (lE T ta)) (hb : PE X b (lE T tb)) (he : starEach [a, b] X.env = (false, eval a X.env) :: starEach [b] X.env := by rfl) (he2 : starEach [b] X.env = (false, eval b X.env) :: starEach [] X.env := by rfl) (hpl : (backTo pos (starEach [b] X.env)).any (·.1) = false := by rfl) : PE X (.Call (.Name x p) [a, b] [] pos) (lE T (bi min2B (consA ta (consA tb nilA)))) := by
  subst hx
  exact de_biB (call_min2 hc) min2B_ok hg hm PyProof.Rows.boot_min (da_cons ha (da_cons hb da_nil he2) he) (by decide) (by decide) he hpl
theorem de_isi {x y : Str} {p q : Pos} (t : Ty) (hT : T.K = X.K) (hx : x = "isinstance") (hg : Gl X x) (hm : X.mg x = none) (hy : bootBuiltins y = some (.type (tyS t))) (hgy : Gl X y) (hmy : X.mg y = none) (hny : y ≠ "__name__") (hdy : (y == ("__debug__" : Str)) = false) (ha : PE X a (lE T ta))
    (he : starEach [a, .Name y q] X.env = (false, eval a X.env) :: starEach [.Name y q] X.env := by rfl) : PE X (.Call (.Name x p) [a, .Name y q] [] pos) (lE T (isaB t ta)) := by
  subst hx
  exact de_isa hT hg hm PyProof.Rows.boot_isinstance ha (pe_bltn (v := .ty (tyS t)) hgy hmy hy rfl hny hdy) (by decide) (by decide) he (by rfl) (by rfl)

/-! ### methods of lists -/
theorem de_append {apos : Pos} {m : Str} (hm : m = "append") (ha : PE X a (lE T ta)) (hb : PE X b (lE T tb))
    (hbase : attributeBase a m X.env (eval a X.env) = eval a X.env := by rfl)
    (hfew : ((backTo pos (starEach [b] X.env)).all (fun x => !x.1) && (backToKw pos (keywordEach [] X.env)).all (fun x => x.1.isSome) && decide ([b].length + ([] : List Keyword).length + (if ([] : List Keyword).isEmpty then 0 else 1) < 30)) = true := by rfl)
    (hline : (apos.endLine == pos.line) = true := by rfl) (hse : starEach [b] X.env = (false, eval b X.env) :: starEach [] X.env := by rfl) (hplain : (backTo pos (starEach [] X.env)).any (·.1) = false := by rfl) : PE X (.Call (.Attribute a m apos) [b] [] pos) (lE T (mtL appM ta (consA tb nilA))) := by
  subst hm
  exact de_mtL PySem.F.slot_list_append PySem.F.type_list_append mt_append appM_ok ha (da_cons hb da_nil hse) hbase hfew hline hse hplain
theorem de_extend {apos : Pos} {m : Str} (hm : m = "extend") (ha : PE X a (lE T ta)) (hb : PE X b (lE T tb))
    (hbase : attributeBase a m X.env (eval a X.env) = eval a X.env := by rfl)
    (hfew : ((backTo pos (starEach [b] X.env)).all (fun x => !x.1) && (backToKw pos (keywordEach [] X.env)).all (fun x => x.1.isSome) && decide ([b].length + ([] : List Keyword).length + (if ([] : List Keyword).isEmpty then 0 else 1) < 30)) = true := by rfl)
    (hline : (apos.endLine == pos.line) = true := by rfl) (hse : starEach [b] X.env = (false, eval b X.env) :: starEach [] X.env := by rfl) (hplain : (backTo pos (starEach [] X.env)).any (·.1) = false := by rfl) : PE X (.Call (.Attribute a m apos) [b] [] pos) (lE T (mtL extM ta (consA tb nilA))) := by
  subst hm
  exact de_mtL PySem.F.slot_list_extend PySem.F.type_list_extend mt_extend extM_ok ha (da_cons hb da_nil hse) hbase hfew hline hse hplain
theorem de_popAt {apos : Pos} {m : Str} (hm : m = "pop") (ha : PE X a (lE T ta)) (hb : PE X b (lE T tb))
    (hbase : attributeBase a m X.env (eval a X.env) = eval a X.env := by rfl)
    (hfew : ((backTo pos (starEach [b] X.env)).all (fun x => !x.1) && (backToKw pos (keywordEach [] X.env)).all (fun x => x.1.isSome) && decide ([b].length + ([] : List Keyword).length + (if ([] : List Keyword).isEmpty then 0 else 1) < 30)) = true := by rfl)
    (hline : (apos.endLine == pos.line) = true := by rfl) (hse : starEach [b] X.env = (false, eval b X.env) :: starEach [] X.env := by rfl) (hplain : (backTo pos (starEach [] X.env)).any (·.1) = false := by rfl) : PE X (.Call (.Attribute a m apos) [b] [] pos) (lE T (mtL popAtM ta (consA tb nilA))) := by
  subst hm
  exact de_mtL PySem.F.slot_list_pop PySem.F.type_list_pop mt_popAt popAtM_ok ha (da_cons hb da_nil hse) hbase hfew hline hse hplain
theorem de_pop {apos : Pos} {m : Str} (hm : m = "pop") (ha : PE X a (lE T ta))
    (hbase : attributeBase a m X.env (eval a X.env) = eval a X.env := by rfl) (hline : (apos.endLine == pos.line) = true := by rfl) : PE X (.Call (.Attribute a m apos) [] [] pos) (lE T (mtL popM ta nilA)) := by
  subst hm
  exact de_mtL0 PySem.F.slot_list_pop PySem.F.type_list_pop mt_pop popM_ok ha hbase hline
end
end Dn

/-! DnForm: short forms of the rules, with their side conditions found by themselves. -/
namespace Dn
open PySem PySem.Spec PyProof.Rows L2
abbrev TT (P : Program) (w : World) (K : PySem.W.Frag) : Tx := ⟨K, P, w, fun _ => 0, fun _ => [], fun _ => "", fun _ => 0⟩
/-- a def of the top, proved -/
structure Df (P : Program) (w : World) (K : PySem.W.Frag) (mg : Str → Option Value) (base : Heap) (x : Str) (k : Nat) (ps : List Str) (sp : Sp) where
  f : Addr
  fd : FuncData
  ok : FnOk P w K mg base CX0 k f fd ps (lSp (TT P w K) sp)
  g : mg x = some (.ref f)
  kp : PySem.W.keepIn K (.ref f) = true
  bi : Binds K fd ps []
def blkB (N : List Str) (sc scope : Scope) (own : List (Str × Nat)) : Bool :=
  (match scope.kind with | .function => true | _ => false) && scope.names.all (fun y => scope.names.lookup y.1 == some y.2) && own.all (fun p => N[p.2]? == some p.1) &&
  scope.names.all (fun y => !(y.2 == .free) || (sc.names.lookup y.1 == some .cell || sc.names.lookup y.1 == some .free)) &&
  scope.names.all (fun y => !(y.2 == .local || y.2 == .cell) || ((own.map (·.1)).contains y.1 || !N.contains y.1))
theorem blk_of {N : List Str} {sc scope : Scope} {own : List (Str × Nat)} (h : blkB N sc scope own = true) : BlkOk N sc scope own := by
  unfold blkB at h
  simp only [Bool.and_eq_true, List.all_eq_true, Bool.or_eq_true, Bool.not_eq_true', beq_iff_eq, List.contains_iff_mem] at h
  obtain ⟨⟨⟨⟨h1, h2⟩, h3⟩, h4⟩, h5⟩ := h
  refine ⟨?_, h2, h3, fun y hy e => ?_, fun y hy e => ?_⟩
  · revert h1
    cases scope.kind <;> simp
  · rcases h4 y hy with z | z
    · rw [e] at z; cases z
    · exact z
  · rcases h5 y hy with z | z
    · rcases e with e | e <;> rw [e] at z <;> cases z
    · rcases z with z | z
      · exact .inl z
      · refine .inr fun q => ?_
        rw [List.contains_iff_mem.mpr q] at z
        cases z
section
variable {X : Cx} {T : Tx} {own : List Nat} {a b c e tg iter elt : Expr} {ta tb tc te : TEx} {pos : Pos}
theorem dv (i : Nat) {x : Str} {pos : Pos} (hN : X.N[i]? = some x := by rfl) (hv : Vis X.env.scope x := by first | exact Or.inl rfl | exact Or.inr (Or.inl rfl) | exact Or.inr (Or.inr rfl)) (hd : (x == ("__debug__" : Str)) = false := by decide) (hcd : (x == ("__classdict__" : Str)) = false := by decide) : PE X (.Name x pos) (lE T (vr i)) := de_vr i hN hv hd hcd
theorem dz (i : Nat) {x : Str} {pos : Pos} (hN : X.N[i]? = some x := by rfl) (hv : Vis X.env.scope x := by first | exact Or.inl rfl | exact Or.inr (Or.inl rfl) | exact Or.inr (Or.inr rfl)) (hd : (x == ("__debug__" : Str)) = false := by decide) (hcd : (x == ("__classdict__" : Str)) = false := by decide) : PE X (.Name x pos) (lE T (vrz i)) := de_vrz i hN hv hd hcd
theorem dfz (i : Nat) {x : Str} {pos : Pos} (hN : X.N[i]? = some x := by rfl) (hv : Vis X.env.scope x := by first | exact Or.inl rfl | exact Or.inr (Or.inl rfl) | exact Or.inr (Or.inr rfl)) (hd : (x == ("__debug__" : Str)) = false := by decide) (hcd : (x == ("__classdict__" : Str)) = false := by decide) : PE X (.Name x pos) (lE T (vrf i)) := de_vrf i hN hv hd hcd
theorem dn (i : Nat) {x : Str} (hN : X.N.Nodup) (ho : i ∈ own := by decide) (hi : X.N[i]? = some x := by rfl) (hx : Loc X.env.scope x := by first | exact Or.inl rfl | exact Or.inr rfl) (hf : X.fn x = true ∨ X.env.scope.names.lookup x = some .local := by first | exact Or.inr rfl | exact Or.inl rfl) : PG X (.Name x pos) (lG T own (gN i)) := dg_N ho hN hi hx hf
variable {st : Stmt} {rest : List Stmt} {t u : TSt} {spos : Pos}
theorem dset (i : Nat) {x : Str} {pos' : Pos} (hN : X.N.Nodup) (he : PE X e (lE T te)) (hi : X.N[i]? = some x := by rfl) (hx : Loc X.env.scope x := by first | exact Or.inl rfl | exact Or.inr rfl) (hf : X.fn x = true ∨ X.env.scope.names.lookup x = some .local := by first | exact Or.inr rfl | exact Or.inl rfl) (hs : swapsWith e (some (.Name x pos')) pos.line X.env = pure false := by rfl) :
    PS X (.Assign [.Name x pos'] e pos) (lS T (asS te (gN i))) := ds_set hN hi hx hf he hs
theorem dinc (i : Nat) {x : Str} {pos' : Pos} (hN : X.N.Nodup) (he : PE X e (lE T te)) (hi : X.N[i]? = some x := by rfl) (hx : Loc X.env.scope x := by first | exact Or.inl rfl | exact Or.inr rfl) (hf : X.fn x = true ∨ X.env.scope.names.lookup x = some .local := by first | exact Or.inr rfl | exact Or.inl rfl) :
    PS X (.AugAssign (.Name x pos') .Add e pos) (lS T (agS i addI te)) := ds_aug ip_add addI_ip hN hi hx hf he
section
variable {ifs : List Expr} {scope : Scope} {ow : List (Str × Nat)} {it : TAr} {g : TGt} {tt : TTs} {el : TEx}
theorem dsetLc (i : Nat) {y : Str} {py : Pos} (ow : List (Str × Nat)) (hN : X.N.Nodup) (hi : PI X tg iter (lI T it))
    (hg : ∀ (s : Shared) (H : Hp) (C : Addr) (cl : List (Str × Addr)) (fp : List Addr), PG (X.blk s H scope (compEnvC scope cl C X.env) fp) tg (lG T (ow.map (·.2)) g)) (ht : ∀ (s : Shared) (H : Hp) (C : Addr) (cl : List (Str × Addr)) (fp : List Addr), PTs (X.blk s H scope (compEnvC scope cl C X.env) fp) ifs (lT T tt))
    (he : ∀ (s : Shared) (H : Hp) (C : Addr) (cl : List (Str × Addr)) (fp : List Addr), PE (X.blk s H scope (compEnvC scope cl C X.env) fp) elt (lE T el)) (ok : BlkOk X.N X.env.scope scope ow)
    (hy : X.N[i]? = some y := by rfl) (hyl : X.env.scope.names.lookup y = some .local := by rfl) (hsw : swapsWith (.ListComp elt [⟨tg, iter, ifs, 0⟩] scope pos) (some (.Name y py)) spos.line X.env = pure true := by exact sw_true rfl rfl rfl rfl) (hc : X.calm = true := by rfl) (hs : ∀ x, foldedSetIterable iter X.env x = pure x := by intro _; rfl) :
    PS X (.Assign [.Name y py] (.ListComp elt [⟨tg, iter, ifs, 0⟩] scope pos) spos) (lS T (asS (lc (ow.map (·.2)) it g tt el) (gN i))) := ds_setLc hc hN hy hyl hsw hi ok hg ht he hs
theorem dsetLcC (i : Nat) {y : Str} {py : Pos} (ow : List (Str × Nat)) (hN : X.N.Nodup) (hi : PI X tg iter (lI T it))
    (hg : ∀ (s : Shared) (H : Hp) (C : Addr) (cl : List (Str × Addr)) (fp : List Addr), PG (X.blk s H scope (compEnvC scope cl C X.env) fp) tg (lG T (ow.map (·.2)) g)) (ht : ∀ (s : Shared) (H : Hp) (C : Addr) (cl : List (Str × Addr)) (fp : List Addr), PTs (X.blk s H scope (compEnvC scope cl C X.env) fp) ifs (lT T tt))
    (he : ∀ (s : Shared) (H : Hp) (C : Addr) (cl : List (Str × Addr)) (fp : List Addr), PE (X.blk s H scope (compEnvC scope cl C X.env) fp) elt (lE T el)) (ok : BlkOk X.N X.env.scope scope ow)
    (hy : X.N[i]? = some y := by rfl) (hyl : X.env.scope.names.lookup y = some .local := by rfl) (hsw : swapsWith (.ListComp elt [⟨tg, iter, ifs, 0⟩] scope pos) (some (.Name y py)) spos.line X.env = pure true := by exact sw_true rfl rfl rfl rfl) (hc : X.calm = true := by rfl) (hs : ∀ x, foldedSetIterable iter X.env x = pure x := by intro _; rfl) :
    PS X (.Assign [.Name y py] (.ListComp elt [⟨tg, iter, ifs, 0⟩] scope pos) spos) (lS T (asS (lcC (ow.map (·.2)) it g tt el) (gN i))) := ds_setLcC hc hN hy hyl hsw hi ok hg ht he hs
theorem dlc (ow : List (Str × Nat)) (hN : X.N.Nodup) (hi : PI X tg iter (lI T it))
    (hg : ∀ (s : Shared) (H : Hp) (C : Addr) (cl : List (Str × Addr)) (fp : List Addr), PG (X.blk s H scope (compEnvC scope cl C X.env) fp) tg (lG T (ow.map (·.2)) g)) (ht : ∀ (s : Shared) (H : Hp) (C : Addr) (cl : List (Str × Addr)) (fp : List Addr), PTs (X.blk s H scope (compEnvC scope cl C X.env) fp) ifs (lT T tt))
    (he : ∀ (s : Shared) (H : Hp) (C : Addr) (cl : List (Str × Addr)) (fp : List Addr), PE (X.blk s H scope (compEnvC scope cl C X.env) fp) elt (lE T el)) (ok : BlkOk X.N X.env.scope scope ow) (hc : X.calm = true := by rfl) (hs : ∀ x, foldedSetIterable iter X.env x = pure x := by intro _; rfl) :
    PE X (.ListComp elt [⟨tg, iter, ifs, 0⟩] scope pos) (lE T (lc (ow.map (·.2)) it g tt el)) := de_lc hc hN hi ok hg ht he hs
theorem dlcC (ow : List (Str × Nat)) (hN : X.N.Nodup) (hi : PI X tg iter (lI T it))
    (hg : ∀ (s : Shared) (H : Hp) (C : Addr) (cl : List (Str × Addr)) (fp : List Addr), PG (X.blk s H scope (compEnvC scope cl C X.env) fp) tg (lG T (ow.map (·.2)) g)) (ht : ∀ (s : Shared) (H : Hp) (C : Addr) (cl : List (Str × Addr)) (fp : List Addr), PTs (X.blk s H scope (compEnvC scope cl C X.env) fp) ifs (lT T tt))
    (he : ∀ (s : Shared) (H : Hp) (C : Addr) (cl : List (Str × Addr)) (fp : List Addr), PE (X.blk s H scope (compEnvC scope cl C X.env) fp) elt (lE T el)) (ok : BlkOk X.N X.env.scope scope ow) (hc : X.calm = true := by rfl) (hs : ∀ x, foldedSetIterable iter X.env x = pure x := by intro _; rfl) :
    PE X (.ListComp elt [⟨tg, iter, ifs, 0⟩] scope pos) (lE T (lcC (ow.map (·.2)) it g tt el)) := de_lcC hc hN hi ok hg ht he hs
variable {kx vx : Expr} {tk tv : TEx}
theorem ddc (ow : List (Str × Nat)) (hT : TOk T X) (hu : X.A.units + 64 < cLine) (hN : X.N.Nodup) (hi : PI X tg iter (lI T it))
    (hg : ∀ (s : Shared) (H : Hp) (C : Addr) (cl : List (Str × Addr)) (fp : List Addr), PG (X.blk s H scope (compEnvC scope cl C X.env) fp) tg (lG T (ow.map (·.2)) g))
    (hk : ∀ (s : Shared) (H : Hp) (C : Addr) (cl : List (Str × Addr)) (fp : List Addr), PE (X.blk s H scope (compEnvC scope cl C X.env) fp) kx (lE T tk))
    (hv : ∀ (s : Shared) (H : Hp) (C : Addr) (cl : List (Str × Addr)) (fp : List Addr), PE (X.blk s H scope (compEnvC scope cl C X.env) fp) vx (lE T tv)) (ok : BlkOk X.N X.env.scope scope ow) (hc : X.calm = true := by rfl) (hs : ∀ x, foldedSetIterable iter X.env x = pure x := by intro _; rfl) :
    PE X (.DictComp kx vx [⟨tg, iter, [], 0⟩] scope pos) (lE T (dc (ow.map (·.2)) it g tk tv)) := de_dc hT hu hc hN hi ok hg hk hv hs
theorem dsetDc (i : Nat) {y : Str} {py : Pos} (ow : List (Str × Nat)) (hT : TOk T X) (hu : X.A.units + 64 < cLine) (hN : X.N.Nodup) (hi : PI X tg iter (lI T it))
    (hg : ∀ (s : Shared) (H : Hp) (C : Addr) (cl : List (Str × Addr)) (fp : List Addr), PG (X.blk s H scope (compEnvC scope cl C X.env) fp) tg (lG T (ow.map (·.2)) g))
    (hk : ∀ (s : Shared) (H : Hp) (C : Addr) (cl : List (Str × Addr)) (fp : List Addr), PE (X.blk s H scope (compEnvC scope cl C X.env) fp) kx (lE T tk))
    (hv : ∀ (s : Shared) (H : Hp) (C : Addr) (cl : List (Str × Addr)) (fp : List Addr), PE (X.blk s H scope (compEnvC scope cl C X.env) fp) vx (lE T tv)) (ok : BlkOk X.N X.env.scope scope ow)
    (hy : X.N[i]? = some y := by rfl) (hyl : X.env.scope.names.lookup y = some .local := by rfl) (hsw : swapsWith (.DictComp kx vx [⟨tg, iter, [], 0⟩] scope pos) (some (.Name y py)) spos.line X.env = pure true := by exact sw_dc rfl rfl rfl rfl) (hc : X.calm = true := by rfl) (hs : ∀ x, foldedSetIterable iter X.env x = pure x := by intro _; rfl) :
    PS X (.Assign [.Name y py] (.DictComp kx vx [⟨tg, iter, [], 0⟩] scope pos) spos) (lS T (asS (dc (ow.map (·.2)) it g tk tv) (gN i))) := ds_setDc hT hu hc hN hy hyl hsw hi ok hg hk hv hs
end
theorem de_not {pos : Pos} (ha : PE X a (lE T ta)) : PE X (.UnaryOp .Not a pos) (lE T (notV (tsB ta))) :=
  pe_imp (pe_not ha) fun σ H Q ⟨W, env, hW, s, r, R, h, k⟩ => by
    subst hW
    refine lE.go (t := ta) s r h fun W1 d v e1 s1 r1 hd h1 => ?_
    split at h1
    · exact ⟨_, hd.bl_inv, Then.now (Then.x k e1) s1 .bl h1⟩
    · exact h1.elim
theorem de_notT {pos : Pos} (hT : T.K = X.K) (ha : PE X a (lE T ta)) : PE X (.UnaryOp .Not a pos) (lE T (notV (tsT ta))) :=
  pe_imp (pe_notT ha) fun σ H Q ⟨W, env, hW, s, r, R, h, k⟩ => by
    subst hW
    refine lE.go (t := ta) s r h fun W1 d v e1 s1 r1 hd h1 => ?_
    split at h1
    · rename_i b hb
      exact ⟨b, trD_ok hT s1 hd hb, Then.now (Then.x k e1) s1 .bl h1⟩
    · exact h1.elim
variable {P : Program} {w : World} {K : PySem.W.Frag} {mg : Str → Option Value} {base : Heap}
theorem dcal {k : Nat} {ps : List Str} {sp : Sp} {x : Str} {p : Pos} {n : Nat} {es : List Expr} {t : TAr} (F : Df X.prog X.w X.K X.mg X.base x k ps sp) (hr : Room k X.A) (ha : PA X (e :: es) (lA (TT X.prog X.w X.K) n t)) (hg : Gl X x := by rfl)
    (hdb : (x == ("__debug__" : Str)) = false := by decide) (he : starEach (e :: es) X.env = (false, eval e X.env) :: starEach es X.env := by rfl) (hpl : (backTo pos (starEach es X.env)).any (·.1) = false := by rfl) :
    PE X (.Call (.Name x p) (e :: es) [] pos) (lE (TT X.prog X.w X.K) (cal sp noX t)) := de_cal F.ok hr hg F.g F.kp F.bi ha hdb he hpl
end
end Dn

/-! K56Walk: the text's readings, printed by gen.py. -/
namespace K56
open PySem PySem.Spec PyProof.Rows L2 Dn
def topS (i : Nat) : Stmt := PySem.Challenge.pw_gridstead_k56_ranks_of_any_graph.main.body.getD i (.Pass ⟨0, 0, 0, 0⟩)
variable {P : Program} {w : World} {K : PySem.W.Frag} {mg : Str → Option Value} {base : Heap}
/-! ### ready_rows -/
abbrev s_ready_rows : Stmt := topS 2
theorem sc_ready_rows : FnScope ["graph", "found", "ready", "place", "moves", "greatest", "outcomes", "target"] ["graph", "found"] (defScope s_ready_rows) := ⟨rfl, rfl, rfl, by decide +kernel, rfl, by decide +kernel, by decide +kernel⟩
/-- the slots: graph 0, found 1, ready 2, place 3, moves 4, greatest 5, outcomes 6, target 7 -/
def b_ready_rows : TSt :=
  sq (asS (lstC nilA) (gN 2)) (sq (foS (itEnL (vr 0)) (gT (gsC (gN 3) (gsC (gN 4) gsN))) (ifS (tsB (bop eqO (sub (vr 1) (vr 3)) (negU (cst (.int 1))))) (sq (asS (lc [6] (itS (vr 4)) (gN 6) (yesT) (bi maxdB (consA (lc [7] (itS (vr 6)) (gN 7) (yesT) (sub (vr 1) (vr 7))) (consA (negU (cst (.int 1))) nilA)))) (gN 5)) (ifS (tsB (bop geO (bi minB (consA (vr 5) nilA)) (cst (.int 0)))) (exS (mtL appM (vr 2) (consA (vr 3) nilA))) (nxS))) (nxS))) (rtS (vrz 2)))
def d_ready_rows : Dn.Sp := dfn 8 2 (fun _ => b_ready_rows)
theorem ok_ready_rows {f : Addr} {fd : FuncData} (F : Fun K "ready_rows" "ready_rows" s_ready_rows f fd) (z_enumerate : mg "enumerate" = none) (z_min : mg "min" = none) (z_max : mg "max" = none) : FnOk P w K mg base CX0 (1) f fd ["graph", "found"] (lSp (TT P w K) (d_ready_rows)) :=
  fn_d F sc_ready_rows rfl fun cdv A outer s H E hr => by
    have scp := sc_ready_rows
    exact ds_cons (dset 2 scp.nd (de_lstC da_nil)) (ds_cons (ds_for (own := [0, 1, 2, 3, 4, 5, 6, 7]) rfl (di_En rfl (by rfl) z_enumerate (dv 0)) (dg_T rfl rfl (dgs_cons (dn 3 scp.nd) (dgs_cons (dn 4 scp.nd) dgs_nil)) (gsC_len (gsC_len gsN_len))) (ds_one (ds_if (dt_eq rfl hr.units (de_ix ⟨rfl, rfl, rfl⟩ hr.units (dv 1) (dv 3)) (de_neg (de_int))) (ds_cons (dsetLc 5 [("outcomes", 6)] scp.nd (di_S rfl (dv 4)) (fun _ _ _ _ _ => dn 6 scp.nd) (fun _ _ _ _ _ => dts_nil) (fun _ _ _ _ _ => de_maxd rfl rfl hr.units (by rfl) z_max (dlc [("target", 7)] scp.nd (di_S rfl (dv 6)) (fun _ _ _ _ _ => dn 7 scp.nd) (fun _ _ _ _ _ => dts_nil) (fun _ _ _ _ _ => de_ix ⟨rfl, rfl, rfl⟩ hr.units (dv 1) (dv 7)) (blk_of (by rfl))) (de_neg (de_int))) (blk_of (by rfl))) (ds_one (ds_if (dt_ge (de_min1 rfl rfl (by rfl) z_min (dv 5)) (de_int)) (ds_one (ds_expr (de_append rfl (dv 2) (dv 3)))) (ds_nil)))) (ds_nil))) PassesOwn.never) (ds_one (ds_ret (dz 2))))
/-! ### ranks -/
abbrev s_ranks : Stmt := topS 1
theorem sc_ranks : FnScope ["rows", "places", "graph", "found", "rank", "ready", "place", "_", "moves", "outcomes", "key"] ["rows"] (defScope s_ranks) := ⟨rfl, rfl, rfl, by decide +kernel, rfl, by decide +kernel, by decide +kernel⟩
/-- the slots: rows 0, places 1, graph 2, found 3, rank 4, ready 5, place 6, _ 7, moves 8, outcomes 9, key 10 -/
def b_ranks (e_ready_rows : Dn.Sp) : TSt :=
  sq (asS (dc [6] (itR1 (bi lenB (consA (vr 0) nilA))) (gN 6) (sub (sub (vr 0) (vr 6)) (cst (.int 0))) (vr 6)) (gN 1)) (sq (asS (lc [7, 8] (itS (vr 0)) (gT (gsC (gN 7) (gsC (gN 8) gsN))) (yesT) (lc [7, 9] (itS (vr 8)) (gT (gsC (gN 7) (gsC (gN 9) gsN))) (yesT) (lc [7, 10] (itS (vr 9)) (gT (gsC (gN 7) (gsC (gN 10) gsN))) (yesT) (sub (vr 1) (vr 10))))) (gN 2)) (sq (asS (lcC [8] (itS (vr 2)) (gN 8) (yesT) (iteV (tsB (bop eqO (bi lenB (consA (vr 8) nilA)) (cst (.int 0)))) (cst (.int 0)) (negU (cst (.int 1))))) (gN 3)) (sq (asS (cst (.int 1)) (gN 4)) (sq (asS (cal e_ready_rows noX (consA (vr 2) (consA (vr 3) nilA))) (gN 5)) (sq (whS (tsT (vr 5)) (sq (foS (itS (vr 5)) (gN 6) (asS (vr 4) (gSub (vr 3) (vr 6)))) (sq (agS 4 addI (cst (.int 1))) (asS (cal e_ready_rows noX (consA (vr 2) (consA (vr 3) nilA))) (gN 5))))) (rtS (bi tupB (consA (vr 3) nilA))))))))
def d_ranks (e_ready_rows : Dn.Sp) : Dn.Sp := dfn 11 1 (fun _ => b_ranks e_ready_rows)
theorem ok_ranks {f : Addr} {fd : FuncData} (F : Fun K "ranks" "ranks" s_ranks f fd) {e_ready_rows : Dn.Sp} (F_ready_rows : Df P w K mg base "ready_rows" 1 ["graph", "found"] e_ready_rows) (z_tuple : mg "tuple" = none) (z_len : mg "len" = none) (z_range : mg "range" = none) : FnOk P w K mg base CX0 (2) f fd ["rows"] (lSp (TT P w K) (d_ranks e_ready_rows)) :=
  fn_d F sc_ranks rfl fun cdv A outer s H E hr => by
    have scp := sc_ranks
    exact ds_cons (dset 1 scp.nd (ddc [("place", 6)] ⟨rfl, rfl, rfl⟩ hr.units scp.nd (di_R1 (by rfl) z_range (de_len ⟨rfl, rfl, rfl⟩ rfl (by rfl) z_len (dv 0))) (fun _ _ _ _ _ => dn 6 scp.nd) (fun _ _ _ _ _ => de_ix ⟨rfl, rfl, rfl⟩ hr.units (de_ix ⟨rfl, rfl, rfl⟩ hr.units (dv 0) (dv 6)) (de_int)) (fun _ _ _ _ _ => dv 6) (blk_of (by rfl)))) (ds_cons (dsetLc 2 [("_", 7), ("moves", 8)] scp.nd (di_S rfl (dv 0)) (fun _ _ _ _ _ => dg_T rfl rfl (dgs_cons (dn 7 scp.nd) (dgs_cons (dn 8 scp.nd) dgs_nil)) (gsC_len (gsC_len gsN_len))) (fun _ _ _ _ _ => dts_nil) (fun _ _ _ _ _ => dlc [("_", 7), ("outcomes", 9)] scp.nd (di_S rfl (dv 8)) (fun _ _ _ _ _ => dg_T rfl rfl (dgs_cons (dn 7 scp.nd) (dgs_cons (dn 9 scp.nd) dgs_nil)) (gsC_len (gsC_len gsN_len))) (fun _ _ _ _ _ => dts_nil) (fun _ _ _ _ _ => dlc [("_", 7), ("key", 10)] scp.nd (di_S rfl (dv 9)) (fun _ _ _ _ _ => dg_T rfl rfl (dgs_cons (dn 7 scp.nd) (dgs_cons (dn 10 scp.nd) dgs_nil)) (gsC_len (gsC_len gsN_len))) (fun _ _ _ _ _ => dts_nil) (fun _ _ _ _ _ => de_ix ⟨rfl, rfl, rfl⟩ hr.units (dv 1) (dv 10)) (blk_of (by rfl))) (blk_of (by rfl))) (blk_of (by rfl))) (ds_cons (dsetLcC 3 [("moves", 8)] scp.nd (di_S rfl (dv 2)) (fun _ _ _ _ _ => dn 8 scp.nd) (fun _ _ _ _ _ => dts_nil) (fun _ _ _ _ _ => de_ite (dt_eq rfl hr.units (de_len ⟨rfl, rfl, rfl⟩ rfl (by rfl) z_len (dv 8)) (de_int)) (de_int) (de_neg (de_int))) (blk_of (by rfl))) (ds_cons (dset 4 scp.nd (de_int)) (ds_cons (dset 5 scp.nd (dcal F_ready_rows (hr.mono (by decide)) (da_cons (dv 2) (da_cons (dv 3) da_nil)))) (ds_cons (ds_while (dt_T rfl (dv 5)) (ds_cons (ds_for (own := [0, 1, 2, 3, 4, 5, 6, 7, 8, 9, 10]) rfl (di_S rfl (dv 5)) (dn 6 scp.nd) (ds_one (ds_asg (own := [0, 1, 2, 3, 4, 5, 6, 7, 8, 9, 10]) (dv 4) (dg_sub ⟨rfl, rfl, rfl⟩ hr.units (dv 3) (dv 6)))) PassesOwn.never) (ds_cons (dinc 4 scp.nd (de_int)) (ds_one (dset 5 scp.nd (dcal F_ready_rows (hr.mono (by decide)) (da_cons (dv 2) (da_cons (dv 3) da_nil))))))) PassesOwn.never) (ds_one (ds_ret (de_tup1 rfl rfl (by rfl) z_tuple (dv 3)))))))))
/-! ### _law_pool -/
abbrev s_law_pool : Stmt := topS 4
theorem sc_law_pool : FnScope ["script", "place", "cell", "free"] ["script", "place"] (defScope s_law_pool) := ⟨rfl, rfl, rfl, by decide +kernel, rfl, by decide +kernel, by decide +kernel⟩
/-- the slots: script 0, place 1, cell 2, free 3 -/
def b_law_pool : TSt :=
  sq (asS (cst (.int 0)) (gN 2)) (sq (ifS (tsB (bop ltO (vr 1) (bi lenB (consA (vr 0) nilA)))) (asS (bop addO (bop mulO (cst (.int 2)) (bi absB (consA (bi intB (consA (sub (vr 0) (vr 1)) nilA)) nilA))) (bi intB (consA (bop ltO (sub (vr 0) (vr 1)) (cst (.int 0))) nilA))) (gN 2)) (nxS)) (sq (asS (cst (.int 0)) (gN 3)) (sq (ifS (tsB (bop geO (vr 2) (bop powO (cst (.int 10)) (cst (.int 18))))) (asS (vr 2) (gN 3)) (nxS)) (rtS (lstC (consA (vr 3) (consA (bop modO (bi intB (consA (bop addO (vr 2) (bop mulO (cst (.int 1000003)) (bop addO (vr 1) (cst (.int 1))))) nilA)) (cst (.int 2147483647))) (consA (cst (.int 0)) nilA))))))))
def d_law_pool : Dn.Sp := dfn 4 2 (fun _ => b_law_pool)
theorem ok_law_pool {f : Addr} {fd : FuncData} (F : Fun K "_law_pool" "_law_pool" s_law_pool f fd) (z_int : mg "int" = none) (z_len : mg "len" = none) (z_abs : mg "abs" = none) : FnOk P w K mg base CX0 (1) f fd ["script", "place"] (lSp (TT P w K) (d_law_pool)) :=
  fn_d F sc_law_pool rfl fun cdv A outer s H E hr => by
    have scp := sc_law_pool
    exact ds_cons (dset 2 scp.nd (de_int)) (ds_cons (ds_if (dt_lt (dv 1) (de_len ⟨rfl, rfl, rfl⟩ rfl (by rfl) z_len (dv 0))) (ds_one (dset 2 scp.nd (de_add rfl (de_mul rfl (de_int) (de_abs rfl (by rfl) z_abs (de_int1 rfl (by rfl) z_int (de_ix ⟨rfl, rfl, rfl⟩ hr.units (dv 0) (dv 1))))) (de_int1 rfl (by rfl) z_int (de_lt (de_ix ⟨rfl, rfl, rfl⟩ hr.units (dv 0) (dv 1)) (de_int)))))) (ds_nil)) (ds_cons (dset 3 scp.nd (de_int)) (ds_cons (ds_if (dt_ge (dv 2) (de_pow (de_int) (de_int))) (ds_one (dset 3 scp.nd (dv 2))) (ds_nil)) (ds_one (ds_ret (de_lstC (da_cons (dv 3) (da_cons (de_mod (de_int1 rfl (by rfl) z_int (de_add rfl (dv 2) (de_mul rfl (de_int) (de_add rfl (dv 1) (de_int))))) (de_int)) (da_cons (de_int) da_nil)))))))))
/-! ### _law_draw -/
abbrev s_law_draw : Stmt := topS 5
theorem sc_law_draw : FnScope ["pool", "many", "mixed", "told"] ["pool", "many"] (defScope s_law_draw) := ⟨rfl, rfl, rfl, by decide +kernel, rfl, by decide +kernel, by decide +kernel⟩
/-- the slots: pool 0, many 1, mixed 2, told 3 -/
def b_law_draw : TSt :=
  sq (ifS (tsB (bop gtO (sub (vr 0) (cst (.int 0))) (cst (.int 0)))) (sq (asS (bop modO (bi intB (consA (sub (vr 0) (cst (.int 0))) nilA)) (vr 1)) (gN 3)) (sq (asS (bop fdivO (sub (vr 0) (cst (.int 0))) (vr 1)) (gSub (vr 0) (cst (.int 0)))) (rtS (vr 3)))) (nxS)) (sq (asS (bop addO (sub (vr 0) (cst (.int 2))) (cst (.int 1))) (gSub (vr 0) (cst (.int 2)))) (sq (asS (bop modO (bi intB (consA (bop addO (sub (vr 0) (cst (.int 1))) (bop mulO (sub (vr 0) (cst (.int 2))) (cst (.int 7368787)))) nilA)) (cst (.int 2147483647))) (gN 2)) (sq (asS (bop modO (bi intB (consA (bop addO (bop addO (bop mulO (vr 2) (vr 2)) (bop mulO (cst (.int 69621)) (vr 2))) (sub (vr 0) (cst (.int 2)))) nilA)) (cst (.int 2147483629))) (gN 2)) (sq (asS (bop modO (bi intB (consA (bop addO (bop addO (bop mulO (vr 2) (vr 2)) (bop mulO (cst (.int 48271)) (vr 2))) (cst (.int 12820163))) nilA)) (cst (.int 2147483587))) (gN 2)) (rtS (bop modO (bi intB (consA (bop fdivO (vr 2) (cst (.int 8))) nilA)) (vr 1)))))))
def d_law_draw : Dn.Sp := dfn 4 2 (fun _ => b_law_draw)
theorem ok_law_draw {f : Addr} {fd : FuncData} (F : Fun K "_law_draw" "_law_draw" s_law_draw f fd) (z_int : mg "int" = none) : FnOk P w K mg base CX0 (1) f fd ["pool", "many"] (lSp (TT P w K) (d_law_draw)) :=
  fn_d F sc_law_draw rfl fun cdv A outer s H E hr => by
    have scp := sc_law_draw
    exact ds_cons (ds_if (dt_gt (de_ix ⟨rfl, rfl, rfl⟩ hr.units (dv 0) (de_int)) (de_int)) (ds_cons (dset 3 scp.nd (de_mod (de_int1 rfl (by rfl) z_int (de_ix ⟨rfl, rfl, rfl⟩ hr.units (dv 0) (de_int))) (dv 1))) (ds_cons (ds_asg (own := [0, 1, 2, 3]) (de_fdiv (de_ix ⟨rfl, rfl, rfl⟩ hr.units (dv 0) (de_int)) (dv 1)) (dg_sub ⟨rfl, rfl, rfl⟩ hr.units (dv 0) (de_int))) (ds_one (ds_ret (dv 3))))) (ds_nil)) (ds_cons (ds_asg (own := [0, 1, 2, 3]) (de_add rfl (de_ix ⟨rfl, rfl, rfl⟩ hr.units (dv 0) (de_int)) (de_int)) (dg_sub ⟨rfl, rfl, rfl⟩ hr.units (dv 0) (de_int))) (ds_cons (dset 2 scp.nd (de_mod (de_int1 rfl (by rfl) z_int (de_add rfl (de_ix ⟨rfl, rfl, rfl⟩ hr.units (dv 0) (de_int)) (de_mul rfl (de_ix ⟨rfl, rfl, rfl⟩ hr.units (dv 0) (de_int)) (de_int)))) (de_int))) (ds_cons (dset 2 scp.nd (de_mod (de_int1 rfl (by rfl) z_int (de_add rfl (de_add rfl (de_mul rfl (dv 2) (dv 2)) (de_mul rfl (de_int) (dv 2))) (de_ix ⟨rfl, rfl, rfl⟩ hr.units (dv 0) (de_int)))) (de_int))) (ds_cons (dset 2 scp.nd (de_mod (de_int1 rfl (by rfl) z_int (de_add rfl (de_add rfl (de_mul rfl (dv 2) (dv 2)) (de_mul rfl (de_int) (dv 2))) (de_int))) (de_int))) (ds_one (ds_ret (de_mod (de_int1 rfl (by rfl) z_int (de_fdiv (dv 2) (de_int))) (dv 1))))))))
/-! ### _law_pick -/
abbrev s_law_pick : Stmt := topS 6
theorem sc_law_pick : FnScope ["pool", "row"] ["pool", "row"] (defScope s_law_pick) := ⟨rfl, rfl, rfl, by decide +kernel, rfl, by decide +kernel, by decide +kernel⟩
/-- the slots: pool 0, row 1 -/
def b_law_pick (e_law_draw : Dn.Sp) : TSt :=
  rtS (sub (vr 1) (cal e_law_draw noX (consA (vr 0) (consA (bi lenB (consA (vr 1) nilA)) nilA))))
def d_law_pick (e_law_draw : Dn.Sp) : Dn.Sp := dfn 2 2 (fun _ => b_law_pick e_law_draw)
theorem ok_law_pick {f : Addr} {fd : FuncData} (F : Fun K "_law_pick" "_law_pick" s_law_pick f fd) {e_law_draw : Dn.Sp} (F_law_draw : Df P w K mg base "_law_draw" 1 ["pool", "many"] e_law_draw) (z_len : mg "len" = none) : FnOk P w K mg base CX0 (2) f fd ["pool", "row"] (lSp (TT P w K) (d_law_pick e_law_draw)) :=
  fn_d F sc_law_pick rfl fun cdv A outer s H E hr => by
    have scp := sc_law_pick
    exact ds_one (ds_ret (de_ix ⟨rfl, rfl, rfl⟩ hr.units (dv 1) (dcal F_law_draw (hr.mono (by decide)) (da_cons (dv 0) (da_cons (de_len ⟨rfl, rfl, rfl⟩ rfl (by rfl) z_len (dv 1)) da_nil)))))
/-! ### _law_some -/
abbrev s_law_some : Stmt := topS 7
theorem sc_law_some : FnScope ["pool", "row", "many", "left", "found", "turn"] ["pool", "row", "many"] (defScope s_law_some) := ⟨rfl, rfl, rfl, by decide +kernel, rfl, by decide +kernel, by decide +kernel⟩
/-- the slots: pool 0, row 1, many 2, left 3, found 4, turn 5 -/
def b_law_some (e_law_draw : Dn.Sp) : TSt :=
  sq (asS (bi lstCB (consA (vr 1) nilA)) (gN 3)) (sq (asS (lstC nilA) (gN 4)) (sq (foS (itR1 (vr 2)) (gN 5) (ifS (tsT (vr 3)) (exS (mtL appM (vr 4) (consA (mtL popAtM (vr 3) (consA (cal e_law_draw noX (consA (vr 0) (consA (bi lenB (consA (vr 3) nilA)) nilA))) nilA)) nilA))) (nxS))) (rtS (bi tupB (consA (vr 4) nilA)))))
def d_law_some (e_law_draw : Dn.Sp) : Dn.Sp := dfn 6 3 (fun _ => b_law_some e_law_draw)
theorem ok_law_some {f : Addr} {fd : FuncData} (F : Fun K "_law_some" "_law_some" s_law_some f fd) {e_law_draw : Dn.Sp} (F_law_draw : Df P w K mg base "_law_draw" 1 ["pool", "many"] e_law_draw) (z_tuple : mg "tuple" = none) (z_range : mg "range" = none) (z_len : mg "len" = none) (z_list : mg "list" = none) : FnOk P w K mg base CX0 (2) f fd ["pool", "row", "many"] (lSp (TT P w K) (d_law_some e_law_draw)) :=
  fn_d F sc_law_some rfl fun cdv A outer s H E hr => by
    have scp := sc_law_some
    exact ds_cons (dset 3 scp.nd (de_lstC1 rfl rfl (by rfl) z_list (dv 1))) (ds_cons (dset 4 scp.nd (de_lstC da_nil)) (ds_cons (ds_for (own := [0, 1, 2, 3, 4, 5]) rfl (di_R1 (by rfl) z_range (dv 2)) (dn 5 scp.nd) (ds_one (ds_if (dt_T rfl (dv 3)) (ds_one (ds_expr (de_append rfl (dv 4) (de_popAt rfl (dv 3) (dcal F_law_draw (hr.mono (by decide)) (da_cons (dv 0) (da_cons (de_len ⟨rfl, rfl, rfl⟩ rfl (by rfl) z_len (dv 3)) da_nil))))))) (ds_nil))) PassesOwn.never) (ds_one (ds_ret (de_tup1 rfl rfl (by rfl) z_tuple (dv 4))))))
/-! ### _law_same -/
abbrev s_law_same : Stmt := topS 8
theorem sc_law_same : FnScope ["got", "due", "x"] ["got", "due"] (defScope s_law_same) := ⟨rfl, rfl, rfl, by decide +kernel, rfl, by decide +kernel, by decide +kernel⟩
/-- the slots: got 0, due 1, x 2 -/
def b_law_same (e_law_same : Dn.Sp) : TSt :=
  sq (ifS (tsB (isaB .ttup (vr 1))) (sq (ifS (orT (notT (tsB (isaB .ttup (vr 0)))) (tsB (bop neO (bi lenB (consA (vr 0) nilA)) (bi lenB (consA (vr 1) nilA))))) (rtS (cst (.bl false))) (nxS)) (rtS (bop eqO (lc [2] (itR1 (bi lenB (consA (vr 1) nilA))) (gN 2) (notT (tsB (cal e_law_same noX (consA (sub (vr 0) (vr 2)) (consA (sub (vr 1) (vr 2)) nilA))))) (vr 2)) (lstD nilA)))) (nxS)) (rtS (andV (isaB .tint (vr 0)) (andV (notV (tsB (isaB .tbool (vr 0)))) (bop eqO (vr 0) (vr 1)))))
def d_law_same (e_law_same : Dn.Sp) : Dn.Sp := dfn 3 2 (fun _ => b_law_same e_law_same)
theorem ok_law_same {f : Addr} {fd : FuncData} (F : Fun K "_law_same" "_law_same" s_law_same f fd) {kk : Nat} {e_law_same : Dn.Sp} (F_law_same : Df P w K mg base "_law_same" kk ["got", "due"] e_law_same) (z_isinstance : mg "isinstance" = none) (z_bool : mg "bool" = none) (z_int : mg "int" = none) (z_tuple : mg "tuple" = none) (z_range : mg "range" = none) (z_len : mg "len" = none) : FnOk P w K mg base CX0 (kk + 1) f fd ["got", "due"] (lSp (TT P w K) (d_law_same e_law_same)) :=
  fn_d F sc_law_same rfl fun cdv A outer s H E hr => by
    have scp := sc_law_same
    exact ds_cons (ds_if (dt_B (de_isi .ttup rfl rfl (by rfl) z_isinstance (by decide +kernel) (by rfl) z_tuple (by decide) (by decide) (dv 1))) (ds_cons (ds_if (PW.pt (dw_or (dt_not (dt_B (de_isi .ttup rfl rfl (by rfl) z_isinstance (by decide +kernel) (by rfl) z_tuple (by decide) (by decide) (dv 0)))) (dw_or1 (dt_ne rfl hr.units (de_len ⟨rfl, rfl, rfl⟩ rfl (by rfl) z_len (dv 0)) (de_len ⟨rfl, rfl, rfl⟩ rfl (by rfl) z_len (dv 1)))))) (ds_one (ds_ret (de_bl))) (ds_nil)) (ds_one (ds_ret (de_eq rfl hr.units (dlc [("x", 2)] scp.nd (di_R1 (by rfl) z_range (de_len ⟨rfl, rfl, rfl⟩ rfl (by rfl) z_len (dv 1))) (fun _ _ _ _ _ => dn 2 scp.nd) (fun _ _ _ _ _ => dts_one (dt_not (dt_B (dcal F_law_same hr (da_cons (de_ix ⟨rfl, rfl, rfl⟩ hr.units (dv 0) (dv 2)) (da_cons (de_ix ⟨rfl, rfl, rfl⟩ hr.units (dv 1) (dv 2)) da_nil)))))) (fun _ _ _ _ _ => dv 2) (blk_of (by rfl))) (de_lst da_nil))))) (ds_nil)) (ds_one (ds_ret (de_and (de_isi .tint rfl rfl (by rfl) z_isinstance (by decide +kernel) (by rfl) z_int (by decide) (by decide) (dv 0)) (de_and (de_not (de_isi .tbool rfl rfl (by rfl) z_isinstance (by decide +kernel) (by rfl) z_bool (by decide) (by decide) (dv 0))) (de_one (de_eq rfl hr.units (dv 0) (dv 1)))))))
/-! ### _law_target -/
abbrev s_law_target : Stmt := topS 9
theorem sc_law_target : FnScope ["pool", "way", "i", "size"] ["pool", "way", "i", "size"] (defScope s_law_target) := ⟨rfl, rfl, rfl, by decide +kernel, rfl, by decide +kernel, by decide +kernel⟩
/-- the slots: pool 0, way 1, i 2, size 3 -/
def b_law_target (e_law_draw : Dn.Sp) : TSt :=
  sq (ifS (orT (tsB (bop eqO (vr 1) (cst (.int 0)))) (tsB (bop eqO (cal e_law_draw noX (consA (vr 0) (consA (cst (.int 3)) nilA))) (cst (.int 0))))) (rtS (cal e_law_draw noX (consA (vr 0) (consA (vr 3) nilA)))) (nxS)) (sq (ifS (tsB (bop eqO (vr 1) (cst (.int 1)))) (rtS (cal e_law_draw noX (consA (vr 0) (consA (bi max2B (consA (cst (.int 1)) (consA (vr 2) nilA))) nilA)))) (nxS)) (rtS (bop modO (bop subO (bop addO (vr 2) (vr 1)) (cst (.int 1))) (vr 3))))
def d_law_target (e_law_draw : Dn.Sp) : Dn.Sp := dfn 4 4 (fun _ => b_law_target e_law_draw)
theorem ok_law_target {f : Addr} {fd : FuncData} (F : Fun K "_law_target" "_law_target" s_law_target f fd) {e_law_draw : Dn.Sp} (F_law_draw : Df P w K mg base "_law_draw" 1 ["pool", "many"] e_law_draw) (z_max : mg "max" = none) : FnOk P w K mg base CX0 (2) f fd ["pool", "way", "i", "size"] (lSp (TT P w K) (d_law_target e_law_draw)) :=
  fn_d F sc_law_target rfl fun cdv A outer s H E hr => by
    have scp := sc_law_target
    exact ds_cons (ds_if (PW.pt (dw_or (dt_eq rfl hr.units (dv 1) (de_int)) (dw_or1 (dt_eq rfl hr.units (dcal F_law_draw (hr.mono (by decide)) (da_cons (dv 0) (da_cons (de_int) da_nil))) (de_int))))) (ds_one (ds_ret (dcal F_law_draw (hr.mono (by decide)) (da_cons (dv 0) (da_cons (dv 3) da_nil))))) (ds_nil)) (ds_cons (ds_if (dt_eq rfl hr.units (dv 1) (de_int)) (ds_one (ds_ret (dcal F_law_draw (hr.mono (by decide)) (da_cons (dv 0) (da_cons (de_max2 rfl rfl (by rfl) z_max (de_int) (dv 2)) da_nil))))) (ds_nil)) (ds_one (ds_ret (de_mod (de_sub (de_add rfl (dv 2) (dv 1)) (de_int)) (dv 3)))))
/-! ### _law_graph -/
abbrev s_law_graph : Stmt := topS 10
theorem sc_law_graph : FnScope ["pool", "size", "way", "graph", "i", "moves", "count", "m", "many", "t"] ["pool"] (defScope s_law_graph) := ⟨rfl, rfl, rfl, by decide +kernel, rfl, by decide +kernel, by decide +kernel⟩
/-- the slots: pool 0, size 1, way 2, graph 3, i 4, moves 5, count 6, m 7, many 8, t 9 -/
def b_law_graph (e_law_target : Dn.Sp) (e_law_pick : Dn.Sp) (e_law_draw : Dn.Sp) : TSt :=
  sq (asS (cal e_law_draw noX (consA (vr 0) (consA (cst (.int 13)) nilA))) (gN 1)) (sq (asS (cal e_law_draw noX (consA (vr 0) (consA (cst (.int 4)) nilA))) (gN 2)) (sq (asS (lstC nilA) (gN 3)) (sq (foS (itR1 (vr 1)) (gN 4) (sq (asS (lstC nilA) (gN 5)) (sq (asS (cal e_law_pick noX (consA (vr 0) (consA (lstD (consA (cst (.int 0)) (consA (cst (.int 1)) (consA (cst (.int 1)) (consA (cst (.int 2)) (consA (cst (.int 2)) (consA (cst (.int 3)) (consA (cst (.int 4)) nilA)))))))) nilA))) (gN 6)) (sq (ifS (andT (tsB (bop eqO (vr 4) (cst (.int 0)))) (tsB (bop gtO (cal e_law_draw noX (consA (vr 0) (consA (cst (.int 6)) nilA))) (cst (.int 0))))) (asS (cst (.int 0)) (gN 6)) (nxS)) (sq (foS (itR1 (vr 6)) (gN 7) (sq (asS (cal e_law_pick noX (consA (vr 0) (consA (lstD (consA (cst (.int 1)) (consA (cst (.int 1)) (consA (cst (.int 1)) (consA (cst (.int 2)) (consA (cst (.int 2)) (consA (cst (.int 3)) (consA (cst (.int 4)) (consA (cal e_law_draw noX (consA (vr 0) (consA (cst (.int 2)) nilA))) nilA))))))))) nilA))) (gN 8)) (exS (mtL appM (vr 5) (consA (lc [9] (itR1 (vr 8)) (gN 9) (yesT) (cal e_law_target noX (consA (vr 0) (consA (vr 2) (consA (vr 4) (consA (vr 1) nilA)))))) nilA))))) (exS (mtL appM (vr 3) (consA (vrz 5) nilA)))))))) (rtS (vrz 3)))))
def d_law_graph (e_law_target : Dn.Sp) (e_law_pick : Dn.Sp) (e_law_draw : Dn.Sp) : Dn.Sp := dfn 10 1 (fun _ => b_law_graph e_law_target e_law_pick e_law_draw)
theorem ok_law_graph {f : Addr} {fd : FuncData} (F : Fun K "_law_graph" "_law_graph" s_law_graph f fd) {e_law_target : Dn.Sp} {e_law_pick : Dn.Sp} {e_law_draw : Dn.Sp} (F_law_target : Df P w K mg base "_law_target" 2 ["pool", "way", "i", "size"] e_law_target) (F_law_pick : Df P w K mg base "_law_pick" 2 ["pool", "row"] e_law_pick) (F_law_draw : Df P w K mg base "_law_draw" 1 ["pool", "many"] e_law_draw) (z_range : mg "range" = none) : FnOk P w K mg base CX0 (3) f fd ["pool"] (lSp (TT P w K) (d_law_graph e_law_target e_law_pick e_law_draw)) :=
  fn_d F sc_law_graph rfl fun cdv A outer s H E hr => by
    have scp := sc_law_graph
    exact ds_cons (dset 1 scp.nd (dcal F_law_draw (hr.mono (by decide)) (da_cons (dv 0) (da_cons (de_int) da_nil)))) (ds_cons (dset 2 scp.nd (dcal F_law_draw (hr.mono (by decide)) (da_cons (dv 0) (da_cons (de_int) da_nil)))) (ds_cons (dset 3 scp.nd (de_lstC da_nil)) (ds_cons (ds_for (own := [0, 1, 2, 3, 4, 5, 6, 7, 8, 9]) rfl (di_R1 (by rfl) z_range (dv 1)) (dn 4 scp.nd) (ds_cons (dset 5 scp.nd (de_lstC da_nil)) (ds_cons (dset 6 scp.nd (dcal F_law_pick (hr.mono (by decide)) (da_cons (dv 0) (da_cons (de_lst (da_cons (de_int) (da_cons (de_int) (da_cons (de_int) (da_cons (de_int) (da_cons (de_int) (da_cons (de_int) (da_cons (de_int) da_nil)))))))) da_nil)))) (ds_cons (ds_if (PW.pt (dw_and (dt_eq rfl hr.units (dv 4) (de_int)) (dw_and1 (dt_gt (dcal F_law_draw (hr.mono (by decide)) (da_cons (dv 0) (da_cons (de_int) da_nil))) (de_int))))) (ds_one (dset 6 scp.nd (de_int))) (ds_nil)) (ds_cons (ds_for (own := [0, 1, 2, 3, 4, 5, 6, 7, 8, 9]) rfl (di_R1 (by rfl) z_range (dv 6)) (dn 7 scp.nd) (ds_cons (dset 8 scp.nd (dcal F_law_pick (hr.mono (by decide)) (da_cons (dv 0) (da_cons (de_lst (da_cons (de_int) (da_cons (de_int) (da_cons (de_int) (da_cons (de_int) (da_cons (de_int) (da_cons (de_int) (da_cons (de_int) (da_cons (dcal F_law_draw (hr.mono (by decide)) (da_cons (dv 0) (da_cons (de_int) da_nil))) da_nil))))))))) da_nil)))) (ds_one (ds_expr (de_append rfl (dv 5) (dlc [("t", 9)] scp.nd (di_R1 (by rfl) z_range (dv 8)) (fun _ _ _ _ _ => dn 9 scp.nd) (fun _ _ _ _ _ => dts_nil) (fun _ _ _ _ _ => dcal F_law_target (hr.mono (by decide)) (da_cons (dv 0) (da_cons (dv 2) (da_cons (dv 4) (da_cons (dv 1) da_nil))))) (blk_of (by rfl))))))) PassesOwn.never) (ds_one (ds_expr (de_append rfl (dv 3) (dz 5)))))))) PassesOwn.never) (ds_one (ds_ret (dz 3))))))
/-! ### _law_changed -/
abbrev s_law_changed : Stmt := topS 11
theorem sc_law_changed : FnScope ["pool", "graph", "values", "other", "won", "spots", "p", "helps", "moves", "i", "m", "t"] ["pool", "graph", "values"] (defScope s_law_changed) := ⟨rfl, rfl, rfl, by decide +kernel, rfl, by decide +kernel, by decide +kernel⟩
/-- the slots: pool 0, graph 1, values 2, other 3, won 4, spots 5, p 6, helps 7, moves 8, i 9, m 10, t 11 -/
def b_law_changed (e_law_pick : Dn.Sp) (e_law_draw : Dn.Sp) : TSt :=
  sq (asS (lc [8] (itS (vr 1)) (gN 8) (yesT) (bi lstCB (consA (vr 8) nilA))) (gN 3)) (sq (asS (lc [9] (itR1 (bi lenB (consA (vr 1) nilA))) (gN 9) (tsB (bop eqO (sub (vr 2) (vr 9)) (negU (cst (.int 1))))) (vr 9)) (gN 4)) (sq (asS (lc [9] (itR1 (bi lenB (consA (vr 1) nilA))) (gN 9) (yesT) (vr 9)) (gN 5)) (sq (ifS (andT (tsT (vr 4)) (tsB (bop gtO (cal e_law_draw noX (consA (vr 0) (consA (cst (.int 3)) nilA))) (cst (.int 0))))) (asS (vr 4) (gN 5)) (nxS)) (sq (ifS (tsT (vr 5)) (sq (asS (cal e_law_pick noX (consA (vr 0) (consA (vr 5) nilA))) (gN 6)) (sq (asS (lc [10] (itR1 (bi lenB (consA (sub (vr 3) (vr 6)) nilA))) (gN 10) (tsB (bop eqO (lc [11] (itS (sub (sub (vr 3) (vr 6)) (vr 10))) (gN 11) (tsB (bop geO (sub (vr 2) (vr 11)) (cst (.int 0)))) (vr 11)) (lstD nilA))) (vr 10)) (gN 7)) (ifS (tsT (vr 7)) (exS (mtL popAtM (sub (vr 3) (vr 6)) (consA (cal e_law_pick noX (consA (vr 0) (consA (vr 7) nilA))) nilA))) (ifS (tsT (sub (vr 3) (vr 6))) (asS (lstD (consA (vr 6) nilA)) (gSub (sub (vr 3) (vr 6)) (cal e_law_draw noX (consA (vr 0) (consA (bi lenB (consA (sub (vr 3) (vr 6)) nilA)) nilA))))) (exS (mtL appM (sub (vr 3) (vr 6)) (consA (lstD (consA (cal e_law_draw noX (consA (vr 0) (consA (bi lenB (consA (vr 1) nilA)) nilA))) nilA)) nilA))))))) (nxS)) (rtS (vrf 3))))))
def d_law_changed (e_law_pick : Dn.Sp) (e_law_draw : Dn.Sp) : Dn.Sp := dfn 12 3 (fun _ => b_law_changed e_law_pick e_law_draw)
theorem ok_law_changed {f : Addr} {fd : FuncData} (F : Fun K "_law_changed" "_law_changed" s_law_changed f fd) {e_law_pick : Dn.Sp} {e_law_draw : Dn.Sp} (F_law_pick : Df P w K mg base "_law_pick" 2 ["pool", "row"] e_law_pick) (F_law_draw : Df P w K mg base "_law_draw" 1 ["pool", "many"] e_law_draw) (z_len : mg "len" = none) (z_range : mg "range" = none) (z_list : mg "list" = none) : FnOk P w K mg base CX0 (3) f fd ["pool", "graph", "values"] (lSp (TT P w K) (d_law_changed e_law_pick e_law_draw)) :=
  fn_d F sc_law_changed rfl fun cdv A outer s H E hr => by
    have scp := sc_law_changed
    exact ds_cons (dset 3 scp.nd (dlc [("moves", 8)] scp.nd (di_S rfl (dv 1)) (fun _ _ _ _ _ => dn 8 scp.nd) (fun _ _ _ _ _ => dts_nil) (fun _ _ _ _ _ => de_lstC1 rfl rfl (by rfl) z_list (dv 8)) (blk_of (by rfl)))) (ds_cons (dsetLc 4 [("i", 9)] scp.nd (di_R1 (by rfl) z_range (de_len ⟨rfl, rfl, rfl⟩ rfl (by rfl) z_len (dv 1))) (fun _ _ _ _ _ => dn 9 scp.nd) (fun _ _ _ _ _ => dts_one (dt_eq rfl hr.units (de_ix ⟨rfl, rfl, rfl⟩ hr.units (dv 2) (dv 9)) (de_neg (de_int)))) (fun _ _ _ _ _ => dv 9) (blk_of (by rfl))) (ds_cons (dsetLc 5 [("i", 9)] scp.nd (di_R1 (by rfl) z_range (de_len ⟨rfl, rfl, rfl⟩ rfl (by rfl) z_len (dv 1))) (fun _ _ _ _ _ => dn 9 scp.nd) (fun _ _ _ _ _ => dts_nil) (fun _ _ _ _ _ => dv 9) (blk_of (by rfl))) (ds_cons (ds_if (PW.pt (dw_and (dt_T rfl (dv 4)) (dw_and1 (dt_gt (dcal F_law_draw (hr.mono (by decide)) (da_cons (dv 0) (da_cons (de_int) da_nil))) (de_int))))) (ds_one (dset 5 scp.nd (dv 4))) (ds_nil)) (ds_cons (ds_if (dt_T rfl (dv 5)) (ds_cons (dset 6 scp.nd (dcal F_law_pick (hr.mono (by decide)) (da_cons (dv 0) (da_cons (dv 5) da_nil)))) (ds_cons (dsetLc 7 [("m", 10)] scp.nd (di_R1 (by rfl) z_range (de_len ⟨rfl, rfl, rfl⟩ rfl (by rfl) z_len (de_ix ⟨rfl, rfl, rfl⟩ hr.units (dv 3) (dv 6)))) (fun _ _ _ _ _ => dn 10 scp.nd) (fun _ _ _ _ _ => dts_one (dt_eq rfl hr.units (dlc [("t", 11)] scp.nd (di_S rfl (de_ix ⟨rfl, rfl, rfl⟩ hr.units (de_ix ⟨rfl, rfl, rfl⟩ hr.units (dv 3) (dv 6)) (dv 10))) (fun _ _ _ _ _ => dn 11 scp.nd) (fun _ _ _ _ _ => dts_one (dt_ge (de_ix ⟨rfl, rfl, rfl⟩ hr.units (dv 2) (dv 11)) (de_int))) (fun _ _ _ _ _ => dv 11) (blk_of (by rfl))) (de_lst da_nil))) (fun _ _ _ _ _ => dv 10) (blk_of (by rfl))) (ds_one (ds_if (dt_T rfl (dv 7)) (ds_one (ds_expr (de_popAt rfl (de_ix ⟨rfl, rfl, rfl⟩ hr.units (dv 3) (dv 6)) (dcal F_law_pick (hr.mono (by decide)) (da_cons (dv 0) (da_cons (dv 7) da_nil)))))) (ds_one (ds_if (dt_T rfl (de_ix ⟨rfl, rfl, rfl⟩ hr.units (dv 3) (dv 6))) (ds_one (ds_asg (own := [0, 1, 2, 3, 4, 5, 6, 7, 8, 9, 10, 11]) (de_lst (da_cons (dv 6) da_nil)) (dg_sub ⟨rfl, rfl, rfl⟩ hr.units (de_ix ⟨rfl, rfl, rfl⟩ hr.units (dv 3) (dv 6)) (dcal F_law_draw (hr.mono (by decide)) (da_cons (dv 0) (da_cons (de_len ⟨rfl, rfl, rfl⟩ rfl (by rfl) z_len (de_ix ⟨rfl, rfl, rfl⟩ hr.units (dv 3) (dv 6))) da_nil)))))) (ds_one (ds_expr (de_append rfl (de_ix ⟨rfl, rfl, rfl⟩ hr.units (dv 3) (dv 6)) (de_lst (da_cons (dcal F_law_draw (hr.mono (by decide)) (da_cons (dv 0) (da_cons (de_len ⟨rfl, rfl, rfl⟩ rfl (by rfl) z_len (dv 1)) da_nil))) da_nil))))))))))) (ds_nil)) (ds_one (ds_ret (dfz 3)))))))
/-! ### _law_chain -/
abbrev s_law_chain : Stmt := topS 12
theorem sc_law_chain : FnScope ["pool", "size", "graph", "i", "near", "far", "turn"] ["pool"] (defScope s_law_chain) := ⟨rfl, rfl, rfl, by decide +kernel, rfl, by decide +kernel, by decide +kernel⟩
/-- the slots: pool 0, size 1, graph 2, i 3, near 4, far 5, turn 6 -/
def b_law_chain (e_law_pick : Dn.Sp) (e_law_draw : Dn.Sp) : TSt :=
  sq (asS (bop addO (cst (.int 1)) (cal e_law_draw noX (consA (vr 0) (consA (cal e_law_pick noX (consA (vr 0) (consA (lstD (consA (cst (.int 9)) (consA (cst (.int 30)) (consA (cst (.int 60)) nilA)))) nilA))) nilA)))) (gN 1)) (sq (ifS (tsB (bop eqO (cal e_law_draw noX (consA (vr 0) (consA (cst (.int 16)) nilA))) (cst (.int 0)))) (asS (cst (.int 260)) (gN 1)) (nxS)) (sq (asS (lstC (consA (lstD nilA) nilA)) (gN 2)) (sq (foS (itR1 (bop subO (vr 1) (cst (.int 1)))) (gN 3) (sq (asS (bop addO (lstD (consA (vr 3) nilA)) (lc [6] (itR1 (cal e_law_draw noX (consA (vr 0) (consA (cst (.int 3)) nilA)))) (gN 6) (yesT) (bop addO (vr 3) (cal e_law_draw noX (consA (vr 0) (consA (bop subO (bop addO (vr 1) (cst (.int 1))) (vr 3)) nilA)))))) (gN 4)) (sq (asS (bop addO (lstD (consA (cal e_law_draw noX (consA (vr 0) (consA (bop addO (vr 3) (cst (.int 1))) nilA))) nilA)) (lc [6] (itR1 (cal e_law_draw noX (consA (vr 0) (consA (cst (.int 3)) nilA)))) (gN 6) (yesT) (cal e_law_draw noX (consA (vr 0) (consA (bop addO (vr 1) (cst (.int 1))) nilA))))) (gN 5)) (exS (mtL appM (vr 2) (consA (cal e_law_pick noX (consA (vr 0) (consA (lstD (consA (lstD (consA (vr 4) nilA)) (consA (lstD (consA (vr 4) (consA (vr 5) nilA))) (consA (lstD (consA (vr 5) (consA (vr 4) nilA))) nilA)))) nilA))) nilA)))))) (sq (exS (mtL appM (vr 2) (consA (lstD (consA (lstD (consA (vr 1) nilA)) (consA (lstD (consA (cst (.int 0)) nilA)) nilA))) nilA))) (rtS (vrz 2))))))
def d_law_chain (e_law_pick : Dn.Sp) (e_law_draw : Dn.Sp) : Dn.Sp := dfn 7 1 (fun _ => b_law_chain e_law_pick e_law_draw)
theorem ok_law_chain {f : Addr} {fd : FuncData} (F : Fun K "_law_chain" "_law_chain" s_law_chain f fd) {e_law_pick : Dn.Sp} {e_law_draw : Dn.Sp} (F_law_pick : Df P w K mg base "_law_pick" 2 ["pool", "row"] e_law_pick) (F_law_draw : Df P w K mg base "_law_draw" 1 ["pool", "many"] e_law_draw) (z_range : mg "range" = none) : FnOk P w K mg base CX0 (3) f fd ["pool"] (lSp (TT P w K) (d_law_chain e_law_pick e_law_draw)) :=
  fn_d F sc_law_chain rfl fun cdv A outer s H E hr => by
    have scp := sc_law_chain
    exact ds_cons (dset 1 scp.nd (de_add rfl (de_int) (dcal F_law_draw (hr.mono (by decide)) (da_cons (dv 0) (da_cons (dcal F_law_pick (hr.mono (by decide)) (da_cons (dv 0) (da_cons (de_lst (da_cons (de_int) (da_cons (de_int) (da_cons (de_int) da_nil)))) da_nil))) da_nil))))) (ds_cons (ds_if (dt_eq rfl hr.units (dcal F_law_draw (hr.mono (by decide)) (da_cons (dv 0) (da_cons (de_int) da_nil))) (de_int)) (ds_one (dset 1 scp.nd (de_int))) (ds_nil)) (ds_cons (dset 2 scp.nd (de_lstC (da_cons (de_lst da_nil) da_nil))) (ds_cons (ds_for (own := [0, 1, 2, 3, 4, 5, 6]) rfl (di_R1 (by rfl) z_range (de_sub (dv 1) (de_int))) (dn 3 scp.nd) (ds_cons (dset 4 scp.nd (de_add rfl (de_lst (da_cons (dv 3) da_nil)) (dlc [("turn", 6)] scp.nd (di_R1 (by rfl) z_range (dcal F_law_draw (hr.mono (by decide)) (da_cons (dv 0) (da_cons (de_int) da_nil)))) (fun _ _ _ _ _ => dn 6 scp.nd) (fun _ _ _ _ _ => dts_nil) (fun _ _ _ _ _ => de_add rfl (dv 3) (dcal F_law_draw (hr.mono (by decide)) (da_cons (dv 0) (da_cons (de_sub (de_add rfl (dv 1) (de_int)) (dv 3)) da_nil)))) (blk_of (by rfl))))) (ds_cons (dset 5 scp.nd (de_add rfl (de_lst (da_cons (dcal F_law_draw (hr.mono (by decide)) (da_cons (dv 0) (da_cons (de_add rfl (dv 3) (de_int)) da_nil))) da_nil)) (dlc [("turn", 6)] scp.nd (di_R1 (by rfl) z_range (dcal F_law_draw (hr.mono (by decide)) (da_cons (dv 0) (da_cons (de_int) da_nil)))) (fun _ _ _ _ _ => dn 6 scp.nd) (fun _ _ _ _ _ => dts_nil) (fun _ _ _ _ _ => dcal F_law_draw (hr.mono (by decide)) (da_cons (dv 0) (da_cons (de_add rfl (dv 1) (de_int)) da_nil))) (blk_of (by rfl))))) (ds_one (ds_expr (de_append rfl (dv 2) (dcal F_law_pick (hr.mono (by decide)) (da_cons (dv 0) (da_cons (de_lst (da_cons (de_lst (da_cons (dv 4) da_nil)) (da_cons (de_lst (da_cons (dv 4) (da_cons (dv 5) da_nil))) (da_cons (de_lst (da_cons (dv 5) (da_cons (dv 4) da_nil))) da_nil)))) da_nil)))))))) PassesOwn.never) (ds_cons (ds_expr (de_append rfl (dv 2) (de_lst (da_cons (de_lst (da_cons (dv 1) da_nil)) (da_cons (de_lst (da_cons (de_int) da_nil)) da_nil))))) (ds_one (ds_ret (dz 2)))))))
/-! ### _law_keys -/
abbrev s_law_keys : Stmt := topS 13
theorem sc_law_keys : FnScope ["pool", "size", "kind", "low", "gap", "keys", "i"] ["pool", "size"] (defScope s_law_keys) := ⟨rfl, rfl, rfl, by decide +kernel, rfl, by decide +kernel, by decide +kernel⟩
/-- the slots: pool 0, size 1, kind 2, low 3, gap 4, keys 5, i 6 -/
def b_law_keys (e_law_some : Dn.Sp) (e_law_draw : Dn.Sp) : TSt :=
  sq (asS (cal e_law_draw noX (consA (vr 0) (consA (cst (.int 4)) nilA))) (gN 2)) (sq (asS (bop subO (cal e_law_draw noX (consA (vr 0) (consA (cst (.int 60)) nilA))) (cst (.int 40))) (gN 3)) (sq (asS (bop addO (cst (.int 1)) (cal e_law_draw noX (consA (vr 0) (consA (cst (.int 5)) nilA)))) (gN 4)) (sq (asS (lc [6] (itR1 (vr 1)) (gN 6) (yesT) (bop addO (vr 3) (bop mulO (vr 4) (vr 6)))) (gN 5)) (sq (ifS (tsB (bop eqO (vr 2) (cst (.int 2)))) (asS (bop addO (lstD (consA (tupD nilA) nilA)) (lc [6] (itR2 (cst (.int 1)) (bop addO (vr 1) (cst (.int 1)))) (gN 6) (yesT) (tupD (consA (bop modO (vr 6) (cst (.int 3))) (consA (bop fdivO (vr 6) (cst (.int 3))) nilA))))) (gN 5)) (nxS)) (sq (ifS (tsB (bop eqO (vr 2) (cst (.int 3)))) (asS (lc [6] (itR1 (vr 1)) (gN 6) (yesT) (bop addO (bop mulO (tupD (consA (tupD (consA (vr 6) (consA (tupD (consA (cst (.int 0)) (consA (cst (.int 1)) nilA))) nilA))) nilA)) (bop modO (vr 6) (cst (.int 3)))) (tupD (consA (bop fdivO (vr 6) (cst (.int 3))) nilA)))) (gN 5)) (nxS)) (rtS (cal e_law_some noX (consA (vr 0) (consA (slc (vr 5) (opN) (opS (vr 1))) (consA (vr 1) nilA))))))))))
def d_law_keys (e_law_some : Dn.Sp) (e_law_draw : Dn.Sp) : Dn.Sp := dfn 7 2 (fun _ => b_law_keys e_law_some e_law_draw)
theorem ok_law_keys {f : Addr} {fd : FuncData} (F : Fun K "_law_keys" "_law_keys" s_law_keys f fd) {e_law_some : Dn.Sp} {e_law_draw : Dn.Sp} (F_law_some : Df P w K mg base "_law_some" 2 ["pool", "row", "many"] e_law_some) (F_law_draw : Df P w K mg base "_law_draw" 1 ["pool", "many"] e_law_draw) (z_range : mg "range" = none) : FnOk P w K mg base CX0 (3) f fd ["pool", "size"] (lSp (TT P w K) (d_law_keys e_law_some e_law_draw)) :=
  fn_d F sc_law_keys rfl fun cdv A outer s H E hr => by
    have scp := sc_law_keys
    exact ds_cons (dset 2 scp.nd (dcal F_law_draw (hr.mono (by decide)) (da_cons (dv 0) (da_cons (de_int) da_nil)))) (ds_cons (dset 3 scp.nd (de_sub (dcal F_law_draw (hr.mono (by decide)) (da_cons (dv 0) (da_cons (de_int) da_nil))) (de_int))) (ds_cons (dset 4 scp.nd (de_add rfl (de_int) (dcal F_law_draw (hr.mono (by decide)) (da_cons (dv 0) (da_cons (de_int) da_nil))))) (ds_cons (dsetLc 5 [("i", 6)] scp.nd (di_R1 (by rfl) z_range (dv 1)) (fun _ _ _ _ _ => dn 6 scp.nd) (fun _ _ _ _ _ => dts_nil) (fun _ _ _ _ _ => de_add rfl (dv 3) (de_mul rfl (dv 4) (dv 6))) (blk_of (by rfl))) (ds_cons (ds_if (dt_eq rfl hr.units (dv 2) (de_int)) (ds_one (dset 5 scp.nd (de_add rfl (de_lst (da_cons (de_tup da_nil) da_nil)) (dlc [("i", 6)] scp.nd (di_R2 (by rfl) z_range (de_int) (de_add rfl (dv 1) (de_int))) (fun _ _ _ _ _ => dn 6 scp.nd) (fun _ _ _ _ _ => dts_nil) (fun _ _ _ _ _ => de_tup (da_cons (de_mod (dv 6) (de_int)) (da_cons (de_fdiv (dv 6) (de_int)) da_nil))) (blk_of (by rfl)))))) (ds_nil)) (ds_cons (ds_if (dt_eq rfl hr.units (dv 2) (de_int)) (ds_one (dsetLc 5 [("i", 6)] scp.nd (di_R1 (by rfl) z_range (dv 1)) (fun _ _ _ _ _ => dn 6 scp.nd) (fun _ _ _ _ _ => dts_nil) (fun _ _ _ _ _ => de_add rfl (de_mul rfl (de_tup (da_cons (de_tup (da_cons (dv 6) (da_cons (de_tup (da_cons (de_int) (da_cons (de_int) da_nil))) da_nil))) da_nil)) (de_mod (dv 6) (de_int))) (de_tup (da_cons (de_fdiv (dv 6) (de_int)) da_nil))) (blk_of (by rfl)))) (ds_nil)) (ds_one (ds_ret (dcal F_law_some (hr.mono (by decide)) (da_cons (dv 0) (da_cons (de_slc rfl (dv 5) (do_N) (do_S (dv 1))) (da_cons (dv 1) da_nil)))))))))))
/-! ### _law_rows -/
abbrev s_law_rows : Stmt := topS 14
theorem sc_law_rows : FnScope ["pool", "graph", "keys", "places", "rows", "p", "moves", "like", "m", "heard", "told", "t", "x"] ["pool", "graph", "keys", "places"] (defScope s_law_rows) := ⟨rfl, rfl, rfl, by decide +kernel, rfl, by decide +kernel, by decide +kernel⟩
/-- the slots: pool 0, graph 1, keys 2, places 3, rows 4, p 5, moves 6, like 7, m 8, heard 9, told 10, t 11, x 12 -/
def b_law_rows (e_law_draw : Dn.Sp) (e_law_pick : Dn.Sp) : TSt :=
  sq (asS (lstC nilA) (gN 4)) (sq (foS (itS (vr 3)) (gN 5) (sq (asS (lstC nilA) (gN 6)) (sq (asS (cal e_law_draw noX (consA (vr 0) (consA (cst (.int 2)) nilA))) (gN 7)) (sq (foS (itR1 (bi lenB (consA (sub (vr 1) (vr 5)) nilA))) (gN 8) (sq (asS (cal e_law_pick noX (consA (vr 0) (consA (lstD (consA (cst (.int 0)) (consA (cst (.int 1)) (consA (negU (cst (.int 1))) (consA (tupD (consA (vr 8) (consA (tupD nilA) nilA))) (consA (tupD (consA (tupD (consA (negU (cst (.int 1))) (consA (cst (.int 2)) nilA))) (consA (tupD nilA) nilA))) nilA)))))) nilA))) (gN 9)) (sq (asS (lc [11] (itS (sub (sub (vr 1) (vr 5)) (vr 8))) (gN 11) (yesT) (tupD (consA (vr 9) (consA (sub (vr 2) (vr 11)) nilA)))) (gN 10)) (sq (ifS (tsB (bop eqO (vr 7) (cst (.int 0)))) (asS (lc [12] (itR1 (bi lenB (consA (vr 10) nilA))) (gN 12) (yesT) (tupD (consA (tupD (consA (vr 12) (consA (tupD nilA) nilA))) (consA (sub (sub (vr 10) (vr 12)) (cst (.int 1))) nilA)))) (gN 10)) (nxS)) (exS (mtL appM (vr 6) (consA (tupD (consA (sub (lstD (consA (bop subO (vr 8) (cst (.int 1))) (consA (bop subO (cal e_law_draw noX (consA (vr 0) (consA (cst (.int 5)) nilA))) (cst (.int 1))) nilA))) (vr 7)) (consA (bi tupB (consA (vr 10) nilA)) nilA))) nilA))))))) (exS (mtL appM (vr 4) (consA (tupD (consA (sub (vr 2) (vr 5)) (consA (bi tupB (consA (vr 6) nilA)) nilA))) nilA))))))) (rtS (bi tupB (consA (vr 4) nilA))))
def d_law_rows (e_law_draw : Dn.Sp) (e_law_pick : Dn.Sp) : Dn.Sp := dfn 13 4 (fun _ => b_law_rows e_law_draw e_law_pick)
theorem ok_law_rows {f : Addr} {fd : FuncData} (F : Fun K "_law_rows" "_law_rows" s_law_rows f fd) {e_law_draw : Dn.Sp} {e_law_pick : Dn.Sp} (F_law_draw : Df P w K mg base "_law_draw" 1 ["pool", "many"] e_law_draw) (F_law_pick : Df P w K mg base "_law_pick" 2 ["pool", "row"] e_law_pick) (z_tuple : mg "tuple" = none) (z_range : mg "range" = none) (z_len : mg "len" = none) : FnOk P w K mg base CX0 (3) f fd ["pool", "graph", "keys", "places"] (lSp (TT P w K) (d_law_rows e_law_draw e_law_pick)) :=
  fn_d F sc_law_rows rfl fun cdv A outer s H E hr => by
    have scp := sc_law_rows
    exact ds_cons (dset 4 scp.nd (de_lstC da_nil)) (ds_cons (ds_for (own := [0, 1, 2, 3, 4, 5, 6, 7, 8, 9, 10, 11, 12]) rfl (di_S rfl (dv 3)) (dn 5 scp.nd) (ds_cons (dset 6 scp.nd (de_lstC da_nil)) (ds_cons (dset 7 scp.nd (dcal F_law_draw (hr.mono (by decide)) (da_cons (dv 0) (da_cons (de_int) da_nil)))) (ds_cons (ds_for (own := [0, 1, 2, 3, 4, 5, 6, 7, 8, 9, 10, 11, 12]) rfl (di_R1 (by rfl) z_range (de_len ⟨rfl, rfl, rfl⟩ rfl (by rfl) z_len (de_ix ⟨rfl, rfl, rfl⟩ hr.units (dv 1) (dv 5)))) (dn 8 scp.nd) (ds_cons (dset 9 scp.nd (dcal F_law_pick (hr.mono (by decide)) (da_cons (dv 0) (da_cons (de_lst (da_cons (de_int) (da_cons (de_int) (da_cons (de_neg (de_int)) (da_cons (de_tup (da_cons (dv 8) (da_cons (de_tup da_nil) da_nil))) (da_cons (de_tup (da_cons (de_tup (da_cons (de_neg (de_int)) (da_cons (de_int) da_nil))) (da_cons (de_tup da_nil) da_nil))) da_nil)))))) da_nil)))) (ds_cons (dset 10 scp.nd (dlc [("t", 11)] scp.nd (di_S rfl (de_ix ⟨rfl, rfl, rfl⟩ hr.units (de_ix ⟨rfl, rfl, rfl⟩ hr.units (dv 1) (dv 5)) (dv 8))) (fun _ _ _ _ _ => dn 11 scp.nd) (fun _ _ _ _ _ => dts_nil) (fun _ _ _ _ _ => de_tup (da_cons (dv 9) (da_cons (de_ix ⟨rfl, rfl, rfl⟩ hr.units (dv 2) (dv 11)) da_nil))) (blk_of (by rfl)))) (ds_cons (ds_if (dt_eq rfl hr.units (dv 7) (de_int)) (ds_one (dset 10 scp.nd (dlc [("x", 12)] scp.nd (di_R1 (by rfl) z_range (de_len ⟨rfl, rfl, rfl⟩ rfl (by rfl) z_len (dv 10))) (fun _ _ _ _ _ => dn 12 scp.nd) (fun _ _ _ _ _ => dts_nil) (fun _ _ _ _ _ => de_tup (da_cons (de_tup (da_cons (dv 12) (da_cons (de_tup da_nil) da_nil))) (da_cons (de_ix ⟨rfl, rfl, rfl⟩ hr.units (de_ix ⟨rfl, rfl, rfl⟩ hr.units (dv 10) (dv 12)) (de_int)) da_nil))) (blk_of (by rfl))))) (ds_nil)) (ds_one (ds_expr (de_append rfl (dv 6) (de_tup (da_cons (de_ix ⟨rfl, rfl, rfl⟩ hr.units (de_lst (da_cons (de_sub (dv 8) (de_int)) (da_cons (de_sub (dcal F_law_draw (hr.mono (by decide)) (da_cons (dv 0) (da_cons (de_int) da_nil))) (de_int)) da_nil))) (dv 7)) (da_cons (de_tup1 rfl rfl (by rfl) z_tuple (dv 10)) da_nil))))))))) PassesOwn.never) (ds_one (ds_expr (de_append rfl (dv 4) (de_tup (da_cons (de_ix ⟨rfl, rfl, rfl⟩ hr.units (dv 2) (dv 5)) (da_cons (de_tup1 rfl rfl (by rfl) z_tuple (dv 6)) da_nil))))))))) PassesOwn.never) (ds_one (ds_ret (de_tup1 rfl rfl (by rfl) z_tuple (dv 4)))))
/-! ### _law_worth -/
abbrev s_law_worth : Stmt := topS 15
theorem sc_law_worth : FnScope ["moves", "worth", "far", "most", "targets", "t"] ["moves", "worth", "far"] (defScope s_law_worth) := ⟨rfl, rfl, rfl, by decide +kernel, rfl, by decide +kernel, by decide +kernel⟩
/-- the slots: moves 0, worth 1, far 2, most 3, targets 4, t 5 -/
def b_law_worth : TSt :=
  sq (asS (negU (cst (.int 1))) (gN 3)) (sq (foS (itS (vr 0)) (gN 4) (asS (bi max2B (consA (vr 3) (consA (bi minB (consA (bop addO (lc [5] (itS (vr 4)) (gN 5) (yesT) (sub (vr 1) (vr 5))) (lstD (consA (vr 2) nilA))) nilA)) nilA))) (gN 3))) (rtS (bi min2B (consA (vr 2) (consA (bop addO (vr 3) (cst (.int 1))) nilA)))))
def d_law_worth : Dn.Sp := dfn 6 3 (fun _ => b_law_worth)
theorem ok_law_worth {f : Addr} {fd : FuncData} (F : Fun K "_law_worth" "_law_worth" s_law_worth f fd) (z_min : mg "min" = none) (z_max : mg "max" = none) : FnOk P w K mg base CX0 (1) f fd ["moves", "worth", "far"] (lSp (TT P w K) (d_law_worth)) :=
  fn_d F sc_law_worth rfl fun cdv A outer s H E hr => by
    have scp := sc_law_worth
    exact ds_cons (dset 3 scp.nd (de_neg (de_int))) (ds_cons (ds_for (own := [0, 1, 2, 3, 4, 5]) rfl (di_S rfl (dv 0)) (dn 4 scp.nd) (ds_one (dset 3 scp.nd (de_max2 rfl rfl (by rfl) z_max (dv 3) (de_min1 rfl rfl (by rfl) z_min (de_add rfl (dlc [("t", 5)] scp.nd (di_S rfl (dv 4)) (fun _ _ _ _ _ => dn 5 scp.nd) (fun _ _ _ _ _ => dts_nil) (fun _ _ _ _ _ => de_ix ⟨rfl, rfl, rfl⟩ hr.units (dv 1) (dv 5)) (blk_of (by rfl))) (de_lst (da_cons (dv 2) da_nil))))))) PassesOwn.never) (ds_one (ds_ret (de_min2 rfl rfl (by rfl) z_min (dv 2) (de_add rfl (dv 3) (de_int))))))
/-! ### _law_values -/
abbrev s_law_values : Stmt := topS 16
theorem sc_law_values : FnScope ["graph", "far", "worth", "turn", "moves", "x"] ["graph"] (defScope s_law_values) := ⟨rfl, rfl, rfl, by decide +kernel, rfl, by decide +kernel, by decide +kernel⟩
/-- the slots: graph 0, far 1, worth 2, turn 3, moves 4, x 5 -/
def b_law_values (e_law_worth : Dn.Sp) : TSt :=
  sq (asS (bi lenB (consA (vr 0) nilA)) (gN 1)) (sq (asS (lc [4] (itS (vr 0)) (gN 4) (yesT) (bop mulO (vr 1) (bi intB (consA (bop gtO (bi lenB (consA (vr 4) nilA)) (cst (.int 0))) nilA)))) (gN 2)) (sq (foS (itR1 (vr 1)) (gN 3) (asS (lc [4] (itS (vr 0)) (gN 4) (yesT) (cal e_law_worth noX (consA (vr 4) (consA (vr 2) (consA (vr 1) nilA))))) (gN 2))) (rtS (lc [5] (itS (vr 2)) (gN 5) (yesT) (iteV (tsB (bop ltO (vr 5) (vr 1))) (vr 5) (negU (cst (.int 1))))))))
def d_law_values (e_law_worth : Dn.Sp) : Dn.Sp := dfn 6 1 (fun _ => b_law_values e_law_worth)
theorem ok_law_values {f : Addr} {fd : FuncData} (F : Fun K "_law_values" "_law_values" s_law_values f fd) {e_law_worth : Dn.Sp} (F_law_worth : Df P w K mg base "_law_worth" 1 ["moves", "worth", "far"] e_law_worth) (z_range : mg "range" = none) (z_int : mg "int" = none) (z_len : mg "len" = none) : FnOk P w K mg base CX0 (2) f fd ["graph"] (lSp (TT P w K) (d_law_values e_law_worth)) :=
  fn_d F sc_law_values rfl fun cdv A outer s H E hr => by
    have scp := sc_law_values
    exact ds_cons (dset 1 scp.nd (de_len ⟨rfl, rfl, rfl⟩ rfl (by rfl) z_len (dv 0))) (ds_cons (dset 2 scp.nd (dlc [("moves", 4)] scp.nd (di_S rfl (dv 0)) (fun _ _ _ _ _ => dn 4 scp.nd) (fun _ _ _ _ _ => dts_nil) (fun _ _ _ _ _ => de_mul rfl (dv 1) (de_int1 rfl (by rfl) z_int (de_gt (de_len ⟨rfl, rfl, rfl⟩ rfl (by rfl) z_len (dv 4)) (de_int)))) (blk_of (by rfl)))) (ds_cons (ds_for (own := [0, 1, 2, 3, 4, 5]) rfl (di_R1 (by rfl) z_range (dv 1)) (dn 3 scp.nd) (ds_one (dset 2 scp.nd (dlc [("moves", 4)] scp.nd (di_S rfl (dv 0)) (fun _ _ _ _ _ => dn 4 scp.nd) (fun _ _ _ _ _ => dts_nil) (fun _ _ _ _ _ => dcal F_law_worth (hr.mono (by decide)) (da_cons (dv 4) (da_cons (dv 2) (da_cons (dv 1) da_nil)))) (blk_of (by rfl))))) PassesOwn.never) (ds_one (ds_ret (dlc [("x", 5)] scp.nd (di_S rfl (dv 2)) (fun _ _ _ _ _ => dn 5 scp.nd) (fun _ _ _ _ _ => dts_nil) (fun _ _ _ _ _ => de_ite (dt_lt (dv 5) (dv 1)) (dv 5) (de_neg (de_int))) (blk_of (by rfl)))))))
/-! ### law -/
abbrev s_law : Stmt := topS 17
theorem sc_law : FnScope ["script", "pool", "graph", "size", "keys", "places", "rows", "values", "due", "other", "deep", "i", "p"] ["script"] (defScope s_law) := ⟨rfl, rfl, rfl, by decide +kernel, rfl, by decide +kernel, by decide +kernel⟩
/-- the slots: script 0, pool 1, graph 2, size 3, keys 4, places 5, rows 6, values 7, due 8, other 9, deep 10, i 11, p 12 -/
def b_law (e_law_same : Dn.Sp) (e_ranks : Dn.Sp) (e_law_rows : Dn.Sp) (e_law_some : Dn.Sp) (e_law_keys : Dn.Sp) (e_law_chain : Dn.Sp) (e_law_pool : Dn.Sp) (e_law_values : Dn.Sp) (e_law_changed : Dn.Sp) (e_law_graph : Dn.Sp) : TSt :=
  sq (asS (cal e_law_pool noX (consA (vr 0) (consA (cst (.int 0)) nilA))) (gN 1)) (sq (asS (cal e_law_graph noX (consA (vr 1) nilA)) (gN 2)) (sq (asS (bi lenB (consA (vr 2) nilA)) (gN 3)) (sq (asS (cal e_law_keys noX (consA (vr 1) (consA (vr 3) nilA))) (gN 4)) (sq (asS (cal e_law_some noX (consA (vr 1) (consA (lc [11] (itR1 (vr 3)) (gN 11) (yesT) (vr 11)) (consA (vr 3) nilA)))) (gN 5)) (sq (asS (cal e_law_rows noX (consA (vr 1) (consA (vr 2) (consA (vr 4) (consA (vr 5) nilA))))) (gN 6)) (sq (asS (cal e_law_values noX (consA (vr 2) nilA)) (gN 7)) (sq (asS (bi tupB (consA (lc [12] (itS (vr 5)) (gN 12) (yesT) (sub (vr 7) (vr 12))) nilA)) (gN 8)) (sq (ifS (notT (tsB (cal e_law_same noX (consA (cal e_ranks noX (consA (vr 6) nilA)) (consA (vr 8) nilA))))) (rtS (cst (.bl false))) (nxS)) (sq (asS (cal e_law_changed noX (consA (vr 1) (consA (vr 2) (consA (vr 7) nilA)))) (gN 9)) (sq (asS (cal e_law_values noX (consA (vr 9) nilA)) (gN 7)) (sq (ifS (notT (tsB (cal e_law_same noX (consA (cal e_ranks noX (consA (cal e_law_rows noX (consA (vr 1) (consA (vr 9) (consA (vr 4) (consA (vr 5) nilA))))) nilA)) (consA (bi tupB (consA (lc [12] (itS (vr 5)) (gN 12) (yesT) (sub (vr 7) (vr 12))) nilA)) nilA))))) (rtS (cst (.bl false))) (nxS)) (sq (asS (cal e_law_pool noX (consA (vr 0) (consA (cst (.int 1)) nilA))) (gN 10)) (sq (asS (cal e_law_chain noX (consA (vr 10) nilA)) (gN 2)) (sq (asS (bi lenB (consA (vr 2) nilA)) (gN 3)) (sq (asS (cal e_law_keys noX (consA (vr 10) (consA (vr 3) nilA))) (gN 4)) (sq (asS (cal e_law_some noX (consA (vr 10) (consA (lc [11] (itR1 (vr 3)) (gN 11) (yesT) (vr 11)) (consA (vr 3) nilA)))) (gN 5)) (sq (asS (bop addO (lc [11] (itR1 (bop subO (vr 3) (cst (.int 1)))) (gN 11) (yesT) (vr 11)) (lstD (consA (negU (cst (.int 1))) nilA))) (gN 7)) (sq (ifS (notT (tsB (cal e_law_same noX (consA (cal e_ranks noX (consA (cal e_law_rows noX (consA (vr 10) (consA (vr 2) (consA (vr 4) (consA (vr 5) nilA))))) nilA)) (consA (bi tupB (consA (lc [12] (itS (vr 5)) (gN 12) (yesT) (sub (vr 7) (vr 12))) nilA)) nilA))))) (rtS (cst (.bl false))) (nxS)) (rtS (cal e_law_same noX (consA (cal e_ranks noX (consA (vr 6) nilA)) (consA (vr 8) nilA))))))))))))))))))))))
def d_law (e_law_same : Dn.Sp) (e_ranks : Dn.Sp) (e_law_rows : Dn.Sp) (e_law_some : Dn.Sp) (e_law_keys : Dn.Sp) (e_law_chain : Dn.Sp) (e_law_pool : Dn.Sp) (e_law_values : Dn.Sp) (e_law_changed : Dn.Sp) (e_law_graph : Dn.Sp) : Dn.Sp := dfn 13 1 (fun _ => b_law e_law_same e_ranks e_law_rows e_law_some e_law_keys e_law_chain e_law_pool e_law_values e_law_changed e_law_graph)
theorem ok_law {f : Addr} {fd : FuncData} (F : Fun K "law" "law" s_law f fd) {e_law_same : Dn.Sp} {e_ranks : Dn.Sp} {e_law_rows : Dn.Sp} {e_law_some : Dn.Sp} {e_law_keys : Dn.Sp} {e_law_chain : Dn.Sp} {e_law_pool : Dn.Sp} {e_law_values : Dn.Sp} {e_law_changed : Dn.Sp} {e_law_graph : Dn.Sp} (F_law_same : Df P w K mg base "_law_same" 2 ["got", "due"] e_law_same) (F_ranks : Df P w K mg base "ranks" 2 ["rows"] e_ranks) (F_law_rows : Df P w K mg base "_law_rows" 3 ["pool", "graph", "keys", "places"] e_law_rows) (F_law_some : Df P w K mg base "_law_some" 2 ["pool", "row", "many"] e_law_some) (F_law_keys : Df P w K mg base "_law_keys" 3 ["pool", "size"] e_law_keys) (F_law_chain : Df P w K mg base "_law_chain" 3 ["pool"] e_law_chain) (F_law_pool : Df P w K mg base "_law_pool" 1 ["script", "place"] e_law_pool) (F_law_values : Df P w K mg base "_law_values" 2 ["graph"] e_law_values) (F_law_changed : Df P w K mg base "_law_changed" 3 ["pool", "graph", "values"] e_law_changed) (F_law_graph : Df P w K mg base "_law_graph" 3 ["pool"] e_law_graph) (z_tuple : mg "tuple" = none) (z_range : mg "range" = none) (z_len : mg "len" = none) : FnOk P w K mg base CX0 (4) f fd ["script"] (lSp (TT P w K) (d_law e_law_same e_ranks e_law_rows e_law_some e_law_keys e_law_chain e_law_pool e_law_values e_law_changed e_law_graph)) :=
  fn_d F sc_law rfl fun cdv A outer s H E hr => by
    have scp := sc_law
    exact ds_cons (dset 1 scp.nd (dcal F_law_pool (hr.mono (by decide)) (da_cons (dv 0) (da_cons (de_int) da_nil)))) (ds_cons (dset 2 scp.nd (dcal F_law_graph (hr.mono (by decide)) (da_cons (dv 1) da_nil))) (ds_cons (dset 3 scp.nd (de_len ⟨rfl, rfl, rfl⟩ rfl (by rfl) z_len (dv 2))) (ds_cons (dset 4 scp.nd (dcal F_law_keys (hr.mono (by decide)) (da_cons (dv 1) (da_cons (dv 3) da_nil)))) (ds_cons (dset 5 scp.nd (dcal F_law_some (hr.mono (by decide)) (da_cons (dv 1) (da_cons (dlc [("i", 11)] scp.nd (di_R1 (by rfl) z_range (dv 3)) (fun _ _ _ _ _ => dn 11 scp.nd) (fun _ _ _ _ _ => dts_nil) (fun _ _ _ _ _ => dv 11) (blk_of (by rfl))) (da_cons (dv 3) da_nil))))) (ds_cons (dset 6 scp.nd (dcal F_law_rows (hr.mono (by decide)) (da_cons (dv 1) (da_cons (dv 2) (da_cons (dv 4) (da_cons (dv 5) da_nil)))))) (ds_cons (dset 7 scp.nd (dcal F_law_values (hr.mono (by decide)) (da_cons (dv 2) da_nil))) (ds_cons (dset 8 scp.nd (de_tup1 rfl rfl (by rfl) z_tuple (dlc [("p", 12)] scp.nd (di_S rfl (dv 5)) (fun _ _ _ _ _ => dn 12 scp.nd) (fun _ _ _ _ _ => dts_nil) (fun _ _ _ _ _ => de_ix ⟨rfl, rfl, rfl⟩ hr.units (dv 7) (dv 12)) (blk_of (by rfl))))) (ds_cons (ds_if (dt_not (dt_B (dcal F_law_same (hr.mono (by decide)) (da_cons (dcal F_ranks (hr.mono (by decide)) (da_cons (dv 6) da_nil)) (da_cons (dv 8) da_nil))))) (ds_one (ds_ret (de_bl))) (ds_nil)) (ds_cons (dset 9 scp.nd (dcal F_law_changed (hr.mono (by decide)) (da_cons (dv 1) (da_cons (dv 2) (da_cons (dv 7) da_nil))))) (ds_cons (dset 7 scp.nd (dcal F_law_values (hr.mono (by decide)) (da_cons (dv 9) da_nil))) (ds_cons (ds_if (dt_not (dt_B (dcal F_law_same (hr.mono (by decide)) (da_cons (dcal F_ranks (hr.mono (by decide)) (da_cons (dcal F_law_rows (hr.mono (by decide)) (da_cons (dv 1) (da_cons (dv 9) (da_cons (dv 4) (da_cons (dv 5) da_nil))))) da_nil)) (da_cons (de_tup1 rfl rfl (by rfl) z_tuple (dlc [("p", 12)] scp.nd (di_S rfl (dv 5)) (fun _ _ _ _ _ => dn 12 scp.nd) (fun _ _ _ _ _ => dts_nil) (fun _ _ _ _ _ => de_ix ⟨rfl, rfl, rfl⟩ hr.units (dv 7) (dv 12)) (blk_of (by rfl)))) da_nil))))) (ds_one (ds_ret (de_bl))) (ds_nil)) (ds_cons (dset 10 scp.nd (dcal F_law_pool (hr.mono (by decide)) (da_cons (dv 0) (da_cons (de_int) da_nil)))) (ds_cons (dset 2 scp.nd (dcal F_law_chain (hr.mono (by decide)) (da_cons (dv 10) da_nil))) (ds_cons (dset 3 scp.nd (de_len ⟨rfl, rfl, rfl⟩ rfl (by rfl) z_len (dv 2))) (ds_cons (dset 4 scp.nd (dcal F_law_keys (hr.mono (by decide)) (da_cons (dv 10) (da_cons (dv 3) da_nil)))) (ds_cons (dset 5 scp.nd (dcal F_law_some (hr.mono (by decide)) (da_cons (dv 10) (da_cons (dlc [("i", 11)] scp.nd (di_R1 (by rfl) z_range (dv 3)) (fun _ _ _ _ _ => dn 11 scp.nd) (fun _ _ _ _ _ => dts_nil) (fun _ _ _ _ _ => dv 11) (blk_of (by rfl))) (da_cons (dv 3) da_nil))))) (ds_cons (dset 7 scp.nd (de_add rfl (dlc [("i", 11)] scp.nd (di_R1 (by rfl) z_range (de_sub (dv 3) (de_int))) (fun _ _ _ _ _ => dn 11 scp.nd) (fun _ _ _ _ _ => dts_nil) (fun _ _ _ _ _ => dv 11) (blk_of (by rfl))) (de_lst (da_cons (de_neg (de_int)) da_nil)))) (ds_cons (ds_if (dt_not (dt_B (dcal F_law_same (hr.mono (by decide)) (da_cons (dcal F_ranks (hr.mono (by decide)) (da_cons (dcal F_law_rows (hr.mono (by decide)) (da_cons (dv 10) (da_cons (dv 2) (da_cons (dv 4) (da_cons (dv 5) da_nil))))) da_nil)) (da_cons (de_tup1 rfl rfl (by rfl) z_tuple (dlc [("p", 12)] scp.nd (di_S rfl (dv 5)) (fun _ _ _ _ _ => dn 12 scp.nd) (fun _ _ _ _ _ => dts_nil) (fun _ _ _ _ _ => de_ix ⟨rfl, rfl, rfl⟩ hr.units (dv 7) (dv 12)) (blk_of (by rfl)))) da_nil))))) (ds_one (ds_ret (de_bl))) (ds_nil)) (ds_one (ds_ret (dcal F_law_same (hr.mono (by decide)) (da_cons (dcal F_ranks (hr.mono (by decide)) (da_cons (dv 6) da_nil)) (da_cons (dv 8) da_nil)))))))))))))))))))))))
/-! ### the promises -/
abbrev p_ready_rows : Dn.Sp := d_ready_rows
abbrev p_ranks : Dn.Sp := d_ranks p_ready_rows
abbrev p_law_pool : Dn.Sp := d_law_pool
abbrev p_law_draw : Dn.Sp := d_law_draw
abbrev p_law_pick : Dn.Sp := d_law_pick p_law_draw
abbrev p_law_some : Dn.Sp := d_law_some p_law_draw
def r_law_same : Nat → Dn.Sp
  | 0 => fun _ _ _ _ => False
  | n + 1 => d_law_same (r_law_same n)
abbrev p_law_same : Dn.Sp := r_law_same 2
abbrev p_law_target : Dn.Sp := d_law_target p_law_draw
abbrev p_law_graph : Dn.Sp := d_law_graph p_law_target p_law_pick p_law_draw
abbrev p_law_changed : Dn.Sp := d_law_changed p_law_pick p_law_draw
abbrev p_law_chain : Dn.Sp := d_law_chain p_law_pick p_law_draw
abbrev p_law_keys : Dn.Sp := d_law_keys p_law_some p_law_draw
abbrev p_law_rows : Dn.Sp := d_law_rows p_law_draw p_law_pick
abbrev p_law_worth : Dn.Sp := d_law_worth
abbrev p_law_values : Dn.Sp := d_law_values p_law_worth
abbrev p_law : Dn.Sp := d_law p_law_same p_ranks p_law_rows p_law_some p_law_keys p_law_chain p_law_pool p_law_values p_law_changed p_law_graph
end K56

/-! K56A: draws. -/
namespace K56
open Dn
/-! ### walking a for, a comprehension -/
theorem for_inv {g : TGt} {b : TSt} {Z : Ends} (I : List D → Env → Sto → Prop) : ∀ (xs done : List D) (env : Env) (S : Sto), I done env S →
    (∀ d x r env S (Z' : Ends), done ++ xs = d ++ x :: r → I d env S → (∀ env' S', I (d ++ [x]) env' S' → Z'.nx env' S') → Z'.rt = Z.rt → Z'.ct = Z'.nx → g x env S fun env1 S1 => b Z' env1 S1) →
    (∀ env S, I (done ++ xs) env S → Z.nx env S) → forGo g b Z xs env S
  | [], done, env, S, h, _, hz => by
    rw [List.append_nil] at hz
    exact hz env S h
  | x :: xs, done, env, S, h, hs, hz => by
    unfold forGo
    refine hs done x xs env S _ rfl h (fun env' S' h' => ?_) rfl rfl
    refine for_inv I xs (done ++ [x]) env' S' h' (fun d x' r env S Z' e => hs d x' r env S Z' (by rw [← e]; simp)) fun env S h2 => hz env S (by simpa using h2)
/-- the comprehension's values, one after another -/
theorem lc_inv {g : TGt} {t : TTs} {e : TEx} {env : Env} {R : KDs} (I : List D → List D → Sto → Prop) : ∀ (xs done acc : List D) (S : Sto), I done acc S →
    (∀ d x r acc S (k : List D → Sto → Prop), done ++ xs = d ++ x :: r → I d acc S → (∀ acc' S', I (d ++ [x]) acc' S' → k acc' S') → g x env S fun env1 S1 => t env1 S1 fun b S2 => match b with
      | true => e env1 S2 fun y S3 => k (acc ++ [y]) S3
      | false => k acc S2) →
    (∀ acc S, I (done ++ xs) acc S → R acc S) → lcGo g t e env xs acc S R
  | [], done, acc, S, h, _, hz => by
    rw [List.append_nil] at hz
    exact hz acc S h
  | x :: xs, done, acc, S, h, hs, hz => by
    unfold lcGo
    exact hs done x xs acc S (fun acc' S' => lcGo g t e env xs acc' S' R) rfl h fun acc' S' h' => lc_inv I xs (done ++ [x]) acc' S' h' (fun d x' r acc S k e => hs d x' r acc S k (by rw [← e]; simp)) fun acc S h2 => hz acc S (by simpa using h2)
/-- a plain one: each item gives its value, nothing changes -/
theorem lc_map {g : TGt} {e : TEx} {env : Env} {R : KDs} {S : Sto} (f : D → D) : ∀ (xs acc : List D), (∀ x ∈ xs, ∀ k : KD, k (f x) S → g x env S fun env1 S1 => e env1 S1 k) → R (acc ++ xs.map f) S → lcGo g yesT e env xs acc S R
  | [], acc, _, h => by simpa [lcGo] using h
  | x :: xs, acc, hs, h => by
    unfold lcGo yesT
    refine hs x List.mem_cons_self _ ?_
    exact lc_map f xs (acc ++ [f x]) (fun y hy => hs y (List.mem_cons_of_mem _ hy)) (by simpa using h)
/-- .. and with a test -/
theorem lc_filter {g : TGt} {t : TTs} {e : TEx} {env : Env} {R : KDs} {S : Sto} (p : D → Bool) (f : D → D) : ∀ (xs acc : List D), (∀ x ∈ xs, ∀ k : List D → Sto → Prop, (∀ acc : List D, k (if p x then acc ++ [f x] else acc) S → g x env S fun env1 S1 => t env1 S1 fun b S2 => match b with
      | true => e env1 S2 fun y S3 => k (acc ++ [y]) S3
      | false => k acc S2)) → R (acc ++ (xs.filter p).map f) S → lcGo g t e env xs acc S R
  | [], acc, _, h => by simpa [lcGo] using h
  | x :: xs, acc, hs, h => by
    unfold lcGo
    refine hs x List.mem_cons_self (fun acc' S' => lcGo g t e env xs acc' S' R) acc ?_
    refine lc_filter p f xs _ (fun y hy => hs y (List.mem_cons_of_mem _ hy)) ?_
    by_cases hp : p x = true
    · simpa [hp, List.filter_cons] using h
    · simpa [hp, List.filter_cons] using h
/-! ### the pool -/
def PoolC (c : Cell) : Prop := ∃ a b k : Int, c = .lst [.int a, .int b, .int k] ∧ 0 ≤ b ∧ b < 2147483647
def PoolOk (S : Sto) (n : Nat) : Prop := ∃ c, S[n]? = some c ∧ PoolC c
/-- nothing but the pool has changed -/
structure Kp (n : Nat) (S S' : Sto) : Prop where
  len : S.length ≤ S'.length
  same : ∀ k, k < S.length → k ≠ n → S'[k]? = S[k]?
  pool : PoolOk S' n
theorem PoolOk.lt {S : Sto} {n : Nat} (h : PoolOk S n) : n < S.length := by
  obtain ⟨c, h, _⟩ := h
  exact (List.getElem?_eq_some_iff.mp h).1
theorem Kp.refl {n : Nat} {S : Sto} (h : PoolOk S n) : Kp n S S := ⟨Nat.le_refl _, fun _ _ _ => rfl, h⟩
theorem Kp.trans {n : Nat} {S S1 S2 : Sto} (h : Kp n S S1) (g : Kp n S1 S2) : Kp n S S2 :=
  ⟨Nat.le_trans h.len g.len, fun k hk hn => (g.same k (Nat.lt_of_lt_of_le hk h.len) hn).trans (h.same k hk hn), g.pool⟩
theorem Kp.at_ {n k : Nat} {S S' : Sto} {c : Cell} (h : Kp n S S') (hk : S[k]? = some c) (hn : k ≠ n) : S'[k]? = some c :=
  (h.same k (List.getElem?_eq_some_iff.mp hk).1 hn).trans hk
theorem Kp.set {n : Nat} {S : Sto} {c : Cell} (h : n < S.length) (hc : PoolC c) : Kp n S (S.set n c) :=
  ⟨by simp, fun k _ hn => List.getElem?_set_ne (Ne.symm hn), c, List.getElem?_set_self h, hc⟩
theorem at_app {S : Sto} {c c' : Cell} {n : Nat} (h : S[n]? = some c) : (S ++ [c'])[n]? = some c := by
  rw [List.getElem?_append_left (List.getElem?_eq_some_iff.mp h).1]
  exact h
theorem at_new {S : Sto} {c : Cell} : (S ++ [c])[S.length]? = some c := by simp
theorem at_set {S : Sto} {c c' : Cell} {n k : Nat} (h : S[k]? = some c) (hn : k ≠ n) : (S.set n c')[k]? = some c := by
  rw [List.getElem?_set_ne (Ne.symm hn)]
  exact h
theorem PoolOk.app {S : Sto} {n : Nat} {c : Cell} (h : PoolOk S n) : PoolOk (S ++ [c]) n := by
  obtain ⟨x, h, hc⟩ := h
  exact ⟨x, at_app h, hc⟩
theorem PoolOk.set {S : Sto} {n k : Nat} {c : Cell} (h : PoolOk S n) (hn : n ≠ k) : PoolOk (S.set k c) n := by
  obtain ⟨x, h, hc⟩ := h
  exact ⟨x, at_set h hn, hc⟩
theorem Kp.app {n : Nat} {S : Sto} {c : Cell} (h : PoolOk S n) : Kp n S (S ++ [c]) :=
  ⟨by simp, fun k hk _ => List.getElem?_append_left hk, h.app⟩
/-- an own cell, younger than S, is written -/
theorem Kp.own {n k : Nat} {S S' : Sto} {c : Cell} (h : Kp n S S') (hk : S.length ≤ k) (hn : n ≠ k) : Kp n S (S'.set k c) :=
  ⟨by rw [List.length_set]; exact h.len, fun j hj hn' => by rw [List.getElem?_set_ne (by omega)]; exact h.same j hj hn', h.pool.set hn⟩
theorem Kp.next {n : Nat} {S S' : Sto} {c : Cell} (h : Kp n S S') : Kp n S (S' ++ [c]) := h.trans (.app h.pool)
theorem fmod_small (a : Int) {m : Int} (h : 0 < m) : 0 ≤ a.fmod m ∧ a.fmod m < m := ⟨Int.fmod_nonneg_of_pos a h, Int.fmod_lt_of_pos a h⟩
theorem pool_ok {ns : List Int} {p : Nat} {S : Sto} {R : KD} {E : KX} (hn : ns.length ≤ 63) (h : ∀ c, PoolC c → R (.loc S.length) (S ++ [c])) : p_law_pool [.arg (ns.map .int), .int p] S R E := by
  have fin : ∀ cell : Int, R (.loc S.length) (S ++ [.lst [.int (if 1000000000000000000 ≤ cell then cell else 0), .int ((cell + 1000003 * ((p : Int) + 1)).fmod 2147483647), .int 0]]) := fun cell => by
    have q := fmod_small (cell + 1000003 * ((p : Int) + 1)) (m := 2147483647) (by decide)
    exact h _ ⟨_, _, _, rfl, q.1, q.2⟩
  by_cases hp : p < ns.length
  · have h1 : (ns.map D.int)[p]? = some (.int ns[p]) := by simp [hp]
    have f := fin (2 * (if ns[p] < 0 then -ns[p] else ns[p]) + (if ns[p] < 0 then 1 else 0))
    by_cases hb : 1000000000000000000 ≤ 2 * (if ns[p] < 0 then -ns[p] else ns[p]) + (if ns[p] < 0 then 1 else 0) <;>
    simp [hb] at f <;>
    simpa [p_law_pool, d_law_pool, dfn, envOf, b_law_pool, sq, asS, cst, gN, ifS, tsB, bop, ltO, geO, cmpO, vr, bi, lenB, consA, nilA, seqOf, addO, mulO, intB, absB, sub, subO_, atD, ixD, hp, smallI, nxS, powO, rtS, lstC, modO, hb] using f
  · have f := fin 0
    simp at f
    simpa [p_law_pool, d_law_pool, dfn, envOf, b_law_pool, sq, asS, cst, gN, ifS, tsB, bop, ltO, geO, cmpO, vr, bi, lenB, consA, nilA, seqOf, addO, mulO, intB, absB, sub, subO_, atD, ixD, hp, smallI, nxS, powO, rtS, lstC, modO] using f
end K56

/-! K56B: draws, picks, permutations. -/
namespace K56
open Dn
def DrawC (e : Sp) : Prop := ∀ {n : Nat} {m : Int} {S : Sto} {R : KD} {E : KX}, PoolOk S n → 0 < m → m < 1000000000 →
    (∀ r S', 0 ≤ r → r < m → Kp n S S' → S'.length = S.length → R (.int r) S') → e [.loc n, .int m] S R E
def PickC (e : Sp) : Prop := ∀ {n : Nat} {ds : List D} {S : Sto} {R : KD} {E : KX}, PoolOk S n → 0 < ds.length → ds.length ≤ 1000 →
    (∀ d S', d ∈ ds → Kp n S S' → S'.length = S.length → R d S') → e [.loc n, .lst ds] S R E
/-- a permutation of the row -/
def SomeC (e : Sp) : Prop := ∀ {n : Nat} {ds : List D} {S : Sto} {R : KD} {E : KX}, PoolOk S n → ds.length ≤ 1000 →
    (∀ es S', es.Perm ds → Kp n S S' → R (.tup es) S') → ∀ x : D, (x = .lst ds ∨ x = .tup ds) → e [.loc n, x, .int ds.length] S R E
theorem draw_ok : DrawC p_law_draw := by
  intro n m S R E hp h0 h1 h
  have hl := hp.lt
  obtain ⟨_, hp, f, b, c, rfl, hb0, hb1⟩ := hp
  have e1 : ¬ m = 0 := by omega
  have e2 : m.natAbs < 1073741824 := by omega
  by_cases hf : 0 < f
  · have q := h (f.fmod m) (S.set n (.lst [.int (f.fdiv m), .int b, .int c])) (fmod_small f h0).1 (fmod_small f h0).2 (.set hl ⟨_, _, _, rfl, hb0, hb1⟩) (by simp)
    simpa [p_law_draw, d_law_draw, b_law_draw, dfn, envOf, sq, ifS, tsB, bop, gtO, cmpO, sub, vr, cst, subO_, seqOf, lstOf, atD, ixD, hp, hf, asS, modO, bi, intB, consA, nilA, gN, fdivO, gSub, setO, rtS, e1, e2] using q
  · have m1 := fun x : Int => fmod_small x (m := 2147483647) (by decide)
    have m2 := fun x : Int => fmod_small x (m := 2147483629) (by decide)
    have e3 : ∀ x : Int, -18446744073709551616 < x.fmod 2147483647 ∧ x.fmod 2147483647 < 18446744073709551616 := fun x => by have := m1 x; omega
    have e4 : ∀ x : Int, -18446744073709551616 < x.fmod 2147483629 ∧ x.fmod 2147483629 < 18446744073709551616 := fun x => by have := m2 x; omega
    have q := fun r => h r (S.set n (.lst [.int f, .int b, .int (c + 1)]))
    have e5 : ∀ x : Int, 0 ≤ x.fmod m ∧ x.fmod m < m := fun x => fmod_small x h0
    have e6 : Kp n S (S.set n (.lst [.int f, .int b, .int (c + 1)])) := .set hl ⟨_, _, _, rfl, hb0, hb1⟩
    have g : ∀ c : Cell, (S.set n c)[n]? = some c := fun c => List.getElem?_set_self hl
    have q2 : ∀ x : Int, R (.int (x.fmod m)) (S.set n (.lst [.int f, .int b, .int (c + 1)])) := fun x => h _ _ (e5 x).1 (e5 x).2 e6 (by simp)
    simp [p_law_draw, d_law_draw, b_law_draw, dfn, envOf, sq, ifS, tsB, bop, gtO, cmpO, sub, vr, cst, subO_, seqOf, lstOf, atD, ixD, hp, hf, asS, modO, bi, intB, consA, nilA, gN, fdivO, gSub, setO, rtS, e1, e2, nxS, addO, mulO, smallI, e3, e4, q2, g]
theorem pick_ok {e : Sp} (hd : DrawC e) : PickC (d_law_pick e) := by
  intro n ds S R E hp h0 h1 h
  simp [dfn, envOf, sq, asS, cst, gN, ifS, tsB, tsT, trD, bop, eqO, neO, eqB, ltO, leO, gtO, geO, cmpO, vr, bi, lenB, consA, nilA, seqOf, lstOf, addO, subO, mulO, fdivO, modO, powO, negU, intB, absB, max2B, min2B, sub, subO_, atD, ixD, smallI, nxS, rtS, exS, lstC, lstD, tupD, cal, foS, itR1, itS, mtL, appM, popAtM, gSub, setO, isaB, isT, notT, notV, orT, andT, andV, iteV, tupB, lstB, lstCB, lc, wipD, agS, addI, d_law_pick, b_law_pick]
  have z0 : (0 : Int) < (ds.length : Int) := by omega
  have z1 : (ds.length : Int) < 1000000000 := by omega
  refine hd hp z0 z1 fun r S' q0 q1 kp hl => ?_
  have e : r.toNat < ds.length := by omega
  simp [q0, q1, e]
  exact h _ S' (List.getElem_mem e) kp hl
theorem erase_perm {α : Type} : ∀ (l : List α) (i : Nat) (h : i < l.length), (l[i] :: l.eraseIdx i).Perm l
  | [], _, h => absurd h (Nat.not_lt_zero _)
  | x :: l, 0, _ => by simp
  | x :: l, i + 1, h => by
    have hi : i < l.length := by simpa using h
    have q := erase_perm l i hi
    simp only [List.getElem_cons_succ, List.eraseIdx_cons_succ]
    exact (List.Perm.swap x l[i] (l.eraseIdx i)).trans (q.cons x)
theorem some_ok {e : Sp} (hd : DrawC e) : SomeC (d_law_some e) := by
  intro n ds S R E hp h1 h x hx
  have hn := hp.lt
  have hsz := PySem.sizeLine_eq
  have key : ds.length ≤ PySem.sizeLine ∧ forGo (gN 5) (ifS (tsT (vr 3)) (exS (mtL appM (vr 4) (consA (mtL popAtM (vr 3) (consA (cal e noX (consA (vr 0) (consA (bi lenB (consA (vr 3) nilA)) nilA))) nilA)) nilA))) nxS)
        { nx := rtS (bi tupB (consA (vr 4) nilA)) { nx := fun x S' => R D.non S', rt := R }, rt := R } (rngD 0 ds.length)
        [some (D.loc n), some x, some (D.int ↑ds.length), some (D.loc (List.length S)), some (D.loc (List.length S + 1)), none] (S ++ [Cell.lst ds, Cell.lst []]) := by
    refine ⟨by omega, ?_⟩
    refine for_inv (fun done env S' => Kp n S S' ∧ ∃ left found t, env = [some (.loc n), some x, some (.int ds.length), some (.loc S.length), some (.loc (S.length + 1)), t] ∧ S'[S.length]? = some (.lst left) ∧ S'[S.length + 1]? = some (.lst found) ∧ (found ++ left).Perm ds ∧ found.length = done.length) _ [] _ _ ?_ ?_ ?_
    · refine ⟨?_, ds, [], none, rfl, ?_, ?_, by simp, rfl⟩
      · have z := (Kp.app (c := .lst ds) hp).next (c := .lst [])
        simpa using z
      · simp
      · simp
    · rintro d y r env S1 Z' ed ⟨kp, left, found, t, rfl, g1, g2, g3, g4⟩ nx _ _
      have hlen := congrArg List.length ed
      have hperm := g3.length_eq
      simp [rngD_len] at hlen
      simp at hperm
      have hleft : left ≠ [] := by
        intro e0
        subst e0
        simp at hperm
        omega
      have hll : 0 < left.length := List.length_pos_iff.mpr hleft
      have hle : left.isEmpty = false := by
        cases left with
        | nil => exact absurd rfl hleft
        | cons _ _ => rfl
      simp [dfn, envOf, sq, asS, cst, gN, ifS, tsB, tsT, trD, bop, eqO, neO, eqB, ltO, leO, gtO, geO, cmpO, vr, bi, lenB, consA, nilA, seqOf, lstOf, addO, subO, mulO, fdivO, modO, powO, negU, intB, absB, max2B, min2B, sub, subO_, atD, ixD, smallI, nxS, rtS, exS, lstC, lstD, tupD, cal, foS, itR1, itS, mtL, appM, popAtM, gSub, setO, isaB, isT, notT, notV, orT, andT, andV, iteV, tupB, lstB, lstCB, lc, wipD, agS, addI, hle, g1, g2]
      have z0 : (0 : Int) < (left.length : Int) := by omega
      have z1 : (left.length : Int) < 1000000000 := by omega
      refine hd kp.pool z0 z1 fun r1 S2 q0 q1 kp2 hl2 => ?_
      have f1 := kp2.at_ g1 (by omega)
      have f2 := kp2.at_ g2 (by omega)
      have hr : r1.toNat < left.length := by omega
      have hb : -9223372036854775808 ≤ r1 ∧ r1 < 9223372036854775808 := by omega
      have hfl : found.length < PySem.sizeLine := by omega
      simp [f1, q0, q1, hr, hb, f2, hfl]
      refine nx _ _ ⟨?_, left.eraseIdx r1.toNat, found ++ [left[r1.toNat]], _, rfl, ?_, ?_, ?_, ?_⟩
      · refine ((kp.trans kp2).own (by omega) (by omega)).own (by omega) (by omega)
      · have hlt : S.length < S2.length := (List.getElem?_eq_some_iff.mp f1).1
        simp [List.getElem?_set, hlt]
      · have hlt : S.length + 1 < S2.length := (List.getElem?_eq_some_iff.mp f2).1
        simp [List.getElem?_set, hlt]
      · refine List.Perm.trans ?_ g3
        rw [List.append_assoc]
        refine List.Perm.append_left _ ?_
        have q := erase_perm left _ hr
        simpa using q
      · simp [g4]
    · rintro env S1 ⟨kp, left, found, t, rfl, g1, g2, g3, g4⟩
      have hperm := g3.length_eq
      simp [rngD_len] at g4
      simp at hperm
      have e0 : left = [] := List.eq_nil_of_length_eq_zero (by omega)
      subst e0
      simp [dfn, envOf, sq, asS, cst, gN, ifS, tsB, tsT, trD, bop, eqO, neO, eqB, ltO, leO, gtO, geO, cmpO, vr, bi, lenB, consA, nilA, seqOf, lstOf, addO, subO, mulO, fdivO, modO, powO, negU, intB, absB, max2B, min2B, sub, subO_, atD, ixD, smallI, nxS, rtS, exS, lstC, lstD, tupD, cal, foS, itR1, itS, mtL, appM, popAtM, gSub, setO, isaB, isT, notT, notV, orT, andT, andV, iteV, tupB, lstB, lstCB, lc, wipD, agS, addI, g2]
      exact h found S1 (by simpa using g3) kp
  rcases hx with rfl | rfl
  · have key := key
    simp [dfn, envOf, sq, asS, cst, gN, ifS, tsB, tsT, trD, bop, eqO, neO, eqB, ltO, leO, gtO, geO, cmpO, vr, bi, lenB, consA, nilA, seqOf, lstOf, addO, subO, mulO, fdivO, modO, powO, negU, intB, absB, max2B, min2B, sub, subO_, atD, ixD, smallI, nxS, rtS, exS, lstC, lstD, tupD, cal, foS, itR1, itS, mtL, appM, popAtM, gSub, setO, isaB, isT, notT, notV, orT, andT, andV, iteV, tupB, lstB, lstCB, lc, wipD, agS, addI, d_law_some, b_law_some]
    exact key
  · have key := key
    simp [dfn, envOf, sq, asS, cst, gN, ifS, tsB, tsT, trD, bop, eqO, neO, eqB, ltO, leO, gtO, geO, cmpO, vr, bi, lenB, consA, nilA, seqOf, lstOf, addO, subO, mulO, fdivO, modO, powO, negU, intB, absB, max2B, min2B, sub, subO_, atD, ixD, smallI, nxS, rtS, exS, lstC, lstD, tupD, cal, foS, itR1, itS, mtL, appM, popAtM, gSub, setO, isaB, isT, notT, notV, orT, andT, andV, iteV, tupB, lstB, lstCB, lc, wipD, agS, addI, d_law_some, b_law_some]
    exact key
end K56

/-! K56C: comparing, drawing a graph. -/
namespace K56
open Dn
def SameC (e : Sp) (P : List Int → Prop) : Prop := ∀ {is : List Int} {S : Sto} {R : KD} {E : KX}, P is → R (.bl true) S → e [.tup (is.map .int), .tup (is.map .int)] S R E
theorem rngD_mem {lo : Int} {x : D} : ∀ {n : Nat} {lo : Int}, x ∈ rngD lo n → ∃ i : Nat, i < n ∧ x = .int (lo + i)
  | 0, _, h => by simp [rngD] at h
  | n + 1, lo, h => by
    rcases List.mem_cons.mp h with e | h
    · exact ⟨0, by omega, by simpa using e⟩
    · obtain ⟨i, h1, h2⟩ := rngD_mem (lo := lo + 1) h
      exact ⟨i + 1, by omega, by rw [h2]; congr 1; omega⟩
theorem same_int {e : Sp} {i : Int} {S : Sto} {R : KD} {E : KX} (h : R (.bl true) S) : d_law_same e [.int i, .int i] S R E := by
  simp [dfn, envOf, sq, asS, cst, gN, ifS, tsB, tsT, trD, bop, eqO, neO, eqB, ltO, leO, gtO, geO, cmpO, vr, bi, lenB, consA, nilA, seqOf, lstOf, addO, subO, mulO, fdivO, modO, powO, negU, intB, absB, max2B, min2B, sub, subO_, atD, ixD, smallI, nxS, rtS, exS, lstC, lstD, tupD, cal, foS, itR1, itS, mtL, appM, popAtM, gSub, setO, isaB, isT, notT, notV, orT, andT, andV, iteV, tupB, lstB, lstCB, lc, wipD, agS, addI, d_law_same, b_law_same]
  exact h
theorem same_ok : ∀ {is : List Int} {S : Sto} {R : KD} {E : KX}, is.length ≤ 1000 → R (.bl true) S → p_law_same [.tup (is.map .int), .tup (is.map .int)] S R E := by
  intro is S R E hl h
  show d_law_same (r_law_same 1) _ _ _ _
  have hi : ∀ {i : Int} {S : Sto} {R : KD} {E : KX}, R (.bl true) S → r_law_same 1 [.int i, .int i] S R E := fun h => same_int h
  generalize r_law_same 1 = e at hi
  have hsz := PySem.sizeLine_eq
  simp [dfn, envOf, sq, asS, cst, gN, ifS, tsB, tsT, trD, bop, eqO, neO, eqB, ltO, leO, gtO, geO, cmpO, vr, bi, lenB, consA, nilA, seqOf, lstOf, addO, subO, mulO, fdivO, modO, powO, negU, intB, absB, max2B, min2B, sub, subO_, atD, ixD, smallI, nxS, rtS, exS, lstC, lstD, tupD, cal, foS, itR1, itS, mtL, appM, popAtM, gSub, setO, isaB, isT, notT, notV, orT, andT, andV, iteV, tupB, lstB, lstCB, lc, wipD, agS, addI, d_law_same, b_law_same]
  refine ⟨by omega, ?_⟩
  refine lc_filter (fun _ => false) id _ [] (fun x hx k hk => ?_) ?_
  · intro hk
    obtain ⟨i, h1, rfl⟩ := rngD_mem (lo := 0) hx
    have e1 : (is.map D.int)[i]? = some (.int is[i]) := by simp [h1]
    have e2 : (0 : Int) + (i : Int) = i := by omega
    simp [dfn, envOf, sq, asS, cst, gN, ifS, tsB, tsT, trD, bop, eqO, neO, eqB, ltO, leO, gtO, geO, cmpO, vr, bi, lenB, consA, nilA, seqOf, lstOf, addO, subO, mulO, fdivO, modO, powO, negU, intB, absB, max2B, min2B, sub, subO_, atD, ixD, smallI, nxS, rtS, exS, lstC, lstD, tupD, cal, foS, itR1, itS, mtL, appM, popAtM, gSub, setO, isaB, isT, notT, notV, orT, andT, andV, iteV, tupB, lstB, lstCB, lc, wipD, agS, addI, h1, e2]
    refine hi ?_
    simpa using hk
  · have z : ∀ l : List D, l.filter (fun _ => false) = [] := fun l => by induction l <;> simp_all
    simp [resD, D.dat, D.dats, D.eqv, D.eqvs, z]
    exact h
def TargetC (e : Sp) : Prop := ∀ {n i size : Nat} {way : Int} {S : Sto} {R : KD} {E : KX}, PoolOk S n → i < size → size ≤ 1000 → 0 ≤ way → way < 4 →
    (∀ (t : Nat) S', t < size → Kp n S S' → S'.length = S.length → R (.int t) S') → e [.loc n, .int way, .int i, .int size] S R E
theorem target_ok {e : Sp} (hd : DrawC e) : TargetC (d_law_target e) := by
  intro n i size way S R E hp hi hs w0 w3 h
  have z0 : (0 : Int) < (size : Int) := by omega
  have z1 : (size : Int) < 1000000000 := by omega
  have fin : ∀ S1, Kp n S S1 → S1.length = S.length → e [.loc n, .int size] S1 R noX := fun S1 kp hl => hd kp.pool z0 z1 fun r S2 q0 q1 kp2 hl2 => by
    have := h r.toNat S2 (by omega) (kp.trans kp2) (hl2.trans hl)
    rwa [Int.toNat_of_nonneg q0] at this
  by_cases hw : way = 0
  · simp [dfn, envOf, sq, asS, cst, gN, ifS, tsB, tsT, trD, bop, eqO, neO, eqB, ltO, leO, gtO, geO, cmpO, vr, bi, lenB, consA, nilA, seqOf, lstOf, addO, subO, mulO, fdivO, modO, powO, negU, intB, absB, max2B, min2B, sub, subO_, atD, ixD, smallI, nxS, rtS, exS, lstC, lstD, tupD, cal, foS, itR1, itS, mtL, appM, popAtM, gSub, setO, isaB, isT, notT, notV, orT, andT, andV, iteV, tupB, lstB, lstCB, lc, wipD, agS, addI, d_law_target, b_law_target, hw]
    exact fin S (.refl hp) rfl
  · simp [dfn, envOf, sq, asS, cst, gN, ifS, tsB, tsT, trD, bop, eqO, neO, eqB, ltO, leO, gtO, geO, cmpO, vr, bi, lenB, consA, nilA, seqOf, lstOf, addO, subO, mulO, fdivO, modO, powO, negU, intB, absB, max2B, min2B, sub, subO_, atD, ixD, smallI, nxS, rtS, exS, lstC, lstD, tupD, cal, foS, itR1, itS, mtL, appM, popAtM, gSub, setO, isaB, isT, notT, notV, orT, andT, andV, iteV, tupB, lstB, lstCB, lc, wipD, agS, addI, d_law_target, b_law_target, hw]
    refine hd hp (by decide) (by decide) fun r S1 q0 q1 kp hl => ?_
    by_cases hr : r = 0
    · simp [hr]
      exact fin S1 kp hl
    · simp [hr]
      by_cases hw1 : way = 1
      · simp [hw1]
        refine hd kp.pool ?_ ?_ fun r S2 q0 q1 kp2 hl2 => ?_
        · split <;> omega
        · split <;> omega
        · have := h r.toNat S2 (by split at q1 <;> omega) (kp.trans kp2) (hl2.trans hl)
          rwa [Int.toNat_of_nonneg q0] at this
      · simp [hw1]
        refine ⟨by omega, ?_⟩
        have q := fmod_small ((i : Int) + way - 1) z0
        have := h (((i : Int) + way - 1).fmod size).toNat S1 (by omega) kp hl
        rwa [Int.toNat_of_nonneg q.1] at this
/-! ### graphs -/
def osD (os : List Nat) : D := .lst (os.map fun t : Nat => D.int (t : Int))
def msD (ms : List (List Nat)) : D := .lst (ms.map osD)
def gD (g : List (List (List Nat))) : D := .lst (g.map msD)
def RowOk (n : Nat) (ms : List (List Nat)) : Prop := ms.length ≤ 9 ∧ ∀ os ∈ ms, os.length ≤ 9 ∧ ∀ t ∈ os, t < n
def GrOk (n : Nat) (g : List (List (List Nat))) : Prop := ∀ ms ∈ g, RowOk n ms
def GraphC (e : Sp) : Prop := ∀ {n : Nat} {S : Sto} {R : KD} {E : KX}, PoolOk S n → (∀ g S', GrOk g.length g → g.length ≤ 12 → Kp n S S' → R (gD g) S') → e [.loc n] S R E
theorem graph_ok {e t p : Sp} (hd : DrawC e) (ht : TargetC t) (hp : PickC p) : GraphC (d_law_graph t p e) := by
  intro n S R E hpl h
  have hsz := PySem.sizeLine_eq
  have hn := hpl.lt
  simp [dfn, envOf, sq, asS, cst, gN, ifS, tsB, tsT, trD, bop, eqO, neO, eqB, ltO, leO, gtO, geO, cmpO, vr, bi, lenB, consA, nilA, seqOf, lstOf, addO, subO, mulO, fdivO, modO, powO, negU, intB, absB, max2B, min2B, sub, subO_, atD, ixD, smallI, nxS, rtS, exS, lstC, lstD, tupD, cal, foS, itR1, itS, mtL, appM, popAtM, gSub, setO, isaB, isT, notT, notV, orT, andT, andV, iteV, tupB, lstB, lstCB, lc, wipD, agS, addI, d_law_graph, b_law_graph]
  refine hd hpl (by decide) (by decide) fun size S1 q0 q1 kp1 hl1 => ?_
  refine hd kp1.pool (by decide) (by decide) fun way S2 w0 w1 kp2 hl2 => ?_
  have kp2 := kp1.trans kp2
  have hl : S2.length = S.length := hl2.trans hl1
  obtain ⟨sz, rfl⟩ : ∃ sz : Nat, size = sz := ⟨size.toNat, by omega⟩
  refine ⟨by omega, ?_⟩
  rw [hl]
  refine for_inv (fun done env S' => Kp n S S' ∧ (∃ a4 a5 a6 a7 a8 a9, env = [some (.loc n), some (.int sz), some (.int way), some (.loc S.length), a4, a5, a6, a7, a8, a9]) ∧ ∃ g : List (List (List Nat)), S'[S.length]? = some (.lst (g.map msD)) ∧ g.length = done.length ∧ GrOk sz g) _ [] _ _ ?_ ?_ ?_
  · refine ⟨kp2.next, ⟨_, _, _, _, _, _, rfl⟩, [], ?_, rfl, fun ms h => by simp at h⟩
    rw [← hl]
    simp
  · rintro d y r env S3 Z' ed ⟨kp3, ⟨a4, a5, a6, a7, a8, a9, rfl⟩, g, g1, g2, g3⟩ nx rt ct
    have hy : y ∈ rngD 0 (sz : Int).toNat := by
      have : y ∈ d ++ y :: r := by simp
      rw [← ed] at this
      simpa using this
    obtain ⟨i, i1, rfl⟩ := rngD_mem (lo := 0) hy
    have e2 : (0 : Int) + (i : Int) = i := by omega
    have i2 : i < sz := by simpa using i1
    have hdl : d.length ≤ sz := by
      have := congrArg List.length ed
      simp [rngD_len] at this
      omega
    simp [dfn, envOf, sq, asS, cst, gN, ifS, tsB, tsT, trD, bop, eqO, neO, eqB, ltO, leO, gtO, geO, cmpO, vr, bi, lenB, consA, nilA, seqOf, lstOf, addO, subO, mulO, fdivO, modO, powO, negU, intB, absB, max2B, min2B, sub, subO_, atD, ixD, smallI, nxS, rtS, exS, lstC, lstD, tupD, cal, foS, itR1, itS, mtL, appM, popAtM, gSub, setO, isaB, isT, notT, notV, orT, andT, andV, iteV, tupB, lstB, lstCB, lc, wipD, agS, addI, e2]
    refine hp kp3.next.pool (by simp) (by simp) fun cnt S4 hcnt kp4 hl4 => ?_
    have kp4' := kp3.next.trans kp4
    have hM : S4[S3.length]? = some (.lst []) := kp4.at_ (by simp) (by have := kp3.pool.lt; omega)
    have hG : S4[S.length]? = some (.lst (g.map msD)) := kp4.at_ (at_app g1) (by omega)
    obtain ⟨c, hc0, rfl⟩ : ∃ c : Nat, c ≤ 4 ∧ cnt = .int c := by
      simp at hcnt
      rcases hcnt with rfl | rfl | rfl | rfl | rfl
      · exact ⟨0, by omega, rfl⟩
      · exact ⟨1, by omega, rfl⟩
      · exact ⟨2, by omega, rfl⟩
      · exact ⟨3, by omega, rfl⟩
      · exact ⟨4, by omega, rfl⟩
    have inner : ∀ (c : Nat) (S5 : Sto), c ≤ 4 → Kp n S S5 → S5[S3.length]? = some (.lst []) → S5[S.length]? = some (.lst (g.map msD)) →
        forGo (gN 7) (sq (asS (cal p noX (consA (vr 0) (consA (lstD (consA (cst (D.int 1)) (consA (cst (D.int 1)) (consA (cst (D.int 1)) (consA (cst (D.int 2)) (consA (cst (D.int 2)) (consA (cst (D.int 3)) (consA (cst (D.int 4)) (consA (cal e noX (consA (vr 0) (consA (cst (D.int 2)) nilA))) nilA))))))))) nilA))) (gN 8))
            (exS (mtL appM (vr 5) (consA (lc [9] (itR1 (vr 8)) (gN 9) yesT (cal t noX (consA (vr 0) (consA (vr 2) (consA (vr 4) (consA (vr 1) nilA)))))) nilA))))
          { Z' with nx := (exS (mtL appM (vr 3) (consA (vrz 5) nilA))) Z' } (rngD 0 c) [some (.loc n), some (.int sz), some (.int way), some (.loc S.length), some (.int i), some (.loc S3.length), some (.int c), a7, a8, a9] S5 := by
      intro c S5 hc kp5 m5 G5
      refine for_inv (fun done env S' => Kp n S S' ∧ (∃ a7 a8 a9, env = [some (.loc n), some (.int sz), some (.int way), some (.loc S.length), some (.int i), some (.loc S3.length), some (.int c), a7, a8, a9]) ∧ S'[S.length]? = some (.lst (g.map msD)) ∧ ∃ ms : List (List Nat), S'[S3.length]? = some (.lst (ms.map osD)) ∧ ms.length = done.length ∧ ∀ os ∈ ms, os.length ≤ 9 ∧ ∀ t ∈ os, t < sz) _ [] _ _ ?_ ?_ ?_
      · exact ⟨kp5, ⟨_, _, _, rfl⟩, G5, [], m5, rfl, fun os h => by simp at h⟩
      · rintro d2 y2 r2 env S6 Z2 ed2 ⟨kp6, ⟨b7, b8, b9, rfl⟩, G6, ms, m6, m7, m8⟩ nx2 rt2 ct2
        have hdl2 : d2.length ≤ c := by
          have := congrArg List.length ed2
          simp [rngD_len] at this
          omega
        simp [dfn, envOf, sq, asS, cst, gN, ifS, tsB, tsT, trD, bop, eqO, neO, eqB, ltO, leO, gtO, geO, cmpO, vr, bi, lenB, consA, nilA, seqOf, lstOf, addO, subO, mulO, fdivO, modO, powO, negU, intB, absB, max2B, min2B, sub, subO_, atD, ixD, smallI, nxS, rtS, exS, lstC, lstD, tupD, cal, foS, itR1, itS, mtL, appM, popAtM, gSub, setO, isaB, isT, notT, notV, orT, andT, andV, iteV, tupB, lstB, lstCB, lc, wipD, agS, addI]
        refine hd kp6.pool (by decide) (by decide) fun r1 S7 u0 u1 kp7 hl7 => ?_
        refine hp kp7.pool (by simp) (by simp) fun mn S8 hmn kp8 hl8 => ?_
        have kp68 := kp7.trans kp8
        have kp8 := kp6.trans kp68
        have hlS := kp3.len
        have hne : S3.length ≠ n := by have := kp3.pool.lt; omega
        have hne3 : S3.length ≠ S.length := by have := (List.getElem?_eq_some_iff.mp g1).1; omega
        have hne2 : S.length ≠ n := by omega
        obtain ⟨k, hk, rfl⟩ : ∃ k : Nat, k ≤ 4 ∧ mn = .int k := by
          simp at hmn
          rcases hmn with rfl | rfl | rfl | rfl | rfl
          · exact ⟨1, by omega, rfl⟩
          · exact ⟨2, by omega, rfl⟩
          · exact ⟨3, by omega, rfl⟩
          · exact ⟨4, by omega, rfl⟩
          · exact ⟨r1.toNat, by omega, by rw [Int.toNat_of_nonneg u0]⟩
        have hM8 := kp68.at_ m6 hne
        have hG8 := kp68.at_ G6 hne2
        have hln : (ms.map osD).length < PySem.sizeLine := by simp; omega
        simp only [hM8]
        refine ⟨rfl, ⟨by omega, by omega⟩, ?_⟩
        refine lc_inv (fun d acc S' => Kp n S8 S' ∧ ∃ os : List Nat, acc = os.map (fun t : Nat => D.int (t : Int)) ∧ os.length = d.length ∧ ∀ t ∈ os, t < sz) _ [] _ _ ?_ ?_ ?_
        · exact ⟨.refl kp8.pool, [], rfl, rfl, fun _ h => by simp at h⟩
        · rintro d3 x3 r3 acc S9 K3 ed3 ⟨kp9, os, rfl, o2, o3⟩ hK
          simp [dfn, envOf, sq, asS, cst, gN, ifS, tsB, tsT, trD, bop, eqO, neO, eqB, ltO, leO, gtO, geO, cmpO, vr, bi, lenB, consA, nilA, seqOf, lstOf, addO, subO, mulO, fdivO, modO, powO, negU, intB, absB, max2B, min2B, sub, subO_, atD, ixD, smallI, nxS, rtS, exS, lstC, lstD, tupD, cal, foS, itR1, itS, mtL, appM, popAtM, gSub, setO, isaB, isT, notT, notV, orT, andT, andV, iteV, tupB, lstB, lstCB, lc, wipD, agS, addI, yesT]
          refine ht kp9.pool i2 (by omega) w0 w1 fun tt S10 t1 kp10 _ => ?_
          refine hK _ _ ⟨kp9.trans kp10, os ++ [tt], by simp, by simp [o2], fun x hx => ?_⟩
          rcases List.mem_append.mp hx with h | h
          · exact o3 x h
          · simp at h; omega
        · rintro acc S9 ⟨kp9, os, rfl, o2, o3⟩
          have hM9 := kp9.at_ hM8 hne
          have hG9 := kp9.at_ hG8 hne2
          have hlt := (List.getElem?_eq_some_iff.mp hM9).1
          simp [rngD_len] at o2
          simp only [hM9]
          refine ⟨hln, nx2 _ _ ⟨(kp8.trans kp9).own (by omega) (by omega), ⟨_, _, _, rfl⟩, at_set hG9 (by omega), ms ++ [os], ?_, by simp [m7], fun x hx => ?_⟩⟩
          · simp [List.getElem?_set, hlt, osD]
          · rcases List.mem_append.mp hx with h | h
            · exact m8 x h
            · simp at h
              subst h
              exact ⟨by omega, o3⟩
      · rintro env S6 ⟨kp6, ⟨b7, b8, b9, rfl⟩, G6, ms, m6, m7, m8⟩
        simp [rngD_len] at m7
        have hgl : (g.map msD).length < PySem.sizeLine := by simp; omega
        have hne : S3.length ≠ S.length := by have := kp3.len; have := (List.getElem?_eq_some_iff.mp g1).1; omega
        simp [dfn, envOf, sq, asS, cst, gN, ifS, tsB, tsT, trD, bop, eqO, neO, eqB, ltO, leO, gtO, geO, cmpO, vr, bi, lenB, consA, nilA, seqOf, lstOf, addO, subO, mulO, fdivO, modO, powO, negU, intB, absB, max2B, min2B, sub, subO_, atD, ixD, smallI, nxS, rtS, exS, lstC, lstD, tupD, cal, foS, itR1, itS, mtL, appM, popAtM, gSub, setO, isaB, isT, notT, notV, orT, andT, andV, iteV, tupB, lstB, lstCB, lc, wipD, agS, addI, vrz, m6, G6]
        have hG := at_set (c' := .frz (.lst (ms.map osD))) G6 hne.symm
        have hlt := (List.getElem?_eq_some_iff.mp hG).1
        simp only [hG]
        have hlS := kp3.len
        refine ⟨hgl, nx _ _ ⟨(kp6.own (by omega) (by have := kp3.pool.lt; omega)).own (by omega) (by omega), ⟨_, _, _, _, _, _, rfl⟩, g ++ [ms], ?_, by simp [g2], fun x hx => ?_⟩⟩
        · simp only [List.length_set] at hlt
          simp [List.getElem?_set, hlt, msD]
        · rcases List.mem_append.mp hx with h | h
          · exact g3 x h
          · simp at h
            subst h
            exact ⟨by omega, m8⟩
    by_cases hi : i = 0
    · have d0 : decide (i = 0) = true := by simp [hi]
      simp only [d0]
      refine hd kp4'.pool (by decide) (by decide) fun r1 S5 _ _ kp5 hl5 => ?_
      have kp5' := kp4'.trans kp5
      have hM5 := kp5.at_ hM (by have := kp3.pool.lt; omega)
      have hG5 := kp5.at_ hG (by omega)
      by_cases hr : 0 < r1
      · have d1 : decide (0 < r1) = true := by simp [hr]
        simp only [d1]
        exact inner 0 S5 (by omega) kp5' hM5 hG5
      · have d1 : decide (0 < r1) = false := by simp [hr]
        simp only [d1]
        refine ⟨by omega, ?_⟩
        exact inner c S5 hc0 kp5' hM5 hG5
    · have d0 : decide (i = 0) = false := by simp [hi]
      simp only [d0]
      refine ⟨by omega, ?_⟩
      exact inner c S4 hc0 kp4' hM hG
  · rintro env S3 ⟨kp3, ⟨a4, a5, a6, a7, a8, a9, rfl⟩, g, g1, g2, g3⟩
    simp [rngD_len] at g2
    simp [dfn, envOf, sq, asS, cst, gN, ifS, tsB, tsT, trD, bop, eqO, neO, eqB, ltO, leO, gtO, geO, cmpO, vr, bi, lenB, consA, nilA, seqOf, lstOf, addO, subO, mulO, fdivO, modO, powO, negU, intB, absB, max2B, min2B, sub, subO_, atD, ixD, smallI, nxS, rtS, exS, lstC, lstD, tupD, cal, foS, itR1, itS, mtL, appM, popAtM, gSub, setO, isaB, isT, notT, notV, orT, andT, andV, iteV, tupB, lstB, lstCB, lc, wipD, agS, addI, vrz, g1]
    refine h g _ ?_ (by omega) (kp3.own (by omega) (by omega))
    rw [g2]
    exact g3
end K56

/-! K56D: the law's own values. -/
namespace K56
open Dn
/-- the least worth of an outcome -/
def leastZ (far : Int) (w : List Int) (os : List Nat) : Int := match os.map (fun t => w.getD t 0) ++ [far] with
  | [] => far
  | x :: r => minI r x
def mostZ (far : Int) (w : List Int) : Int → List (List Nat) → Int
  | m, [] => m
  | m, os :: ms => mostZ far w (if leastZ far w os > m then leastZ far w os else m) ms
def worthZ (far : Int) (w : List Int) (ms : List (List Nat)) : Int := if mostZ far w (-1) ms + 1 < far then mostZ far w (-1) ms + 1 else far
def itZ (far : Int) (g : List (List (List Nat))) : Nat → List Int → List Int
  | 0, w => w
  | n + 1, w => itZ far g n (g.map (worthZ far w))
def w0Z (far : Int) (g : List (List (List Nat))) : List Int := g.map fun ms => if ms = [] then 0 else far
def valuesZ (g : List (List (List Nat))) : List Int := (itZ g.length g g.length (w0Z g.length g)).map fun x : Int => if x < (g.length : Int) then x else -1
theorem lc_mapA {α : Type} {g : TGt} {e : TEx} {env : Env} {R : KDs} {S : Sto} (u f : α → D) : ∀ (xs : List α) (acc : List D), (∀ x ∈ xs, ∀ k : KD, k (f x) S → g (u x) env S fun env1 S1 => e env1 S1 k) → R (acc ++ xs.map f) S → lcGo g yesT e env (xs.map u) acc S R
  | [], acc, _, h => by simpa [lcGo] using h
  | x :: xs, acc, hs, h => by
    show lcGo g yesT e env (u x :: xs.map u) acc S R
    unfold lcGo yesT
    refine hs x List.mem_cons_self _ ?_
    exact lc_mapA u f xs (acc ++ [f x]) (fun y hy => hs y (List.mem_cons_of_mem _ hy)) (by simpa using h)
theorem lc_filterA {α : Type} {g : TGt} {t : TTs} {e : TEx} {env : Env} {R : KDs} {S : Sto} (u f : α → D) (p : α → Bool) : ∀ (xs : List α) (acc : List D), (∀ x ∈ xs, ∀ (k : List D → Sto → Prop) (acc : List D), k (if p x then acc ++ [f x] else acc) S → g (u x) env S fun env1 S1 => t env1 S1 fun b S2 => match b with
      | true => e env1 S2 fun y S3 => k (acc ++ [y]) S3
      | false => k acc S2) → R (acc ++ (xs.filter p).map f) S → lcGo g t e env (xs.map u) acc S R
  | [], acc, _, h => by simpa [lcGo] using h
  | x :: xs, acc, hs, h => by
    show lcGo g t e env (u x :: xs.map u) acc S R
    unfold lcGo
    refine hs x List.mem_cons_self (fun acc' S' => lcGo g t e env (xs.map u) acc' S' R) acc ?_
    refine lc_filterA u f p xs _ (fun y hy => hs y (List.mem_cons_of_mem _ hy)) ?_
    by_cases hp : p x = true
    · simpa [hp, List.filter_cons] using h
    · simpa [hp, List.filter_cons] using h
theorem rngD_map : ∀ (n : Nat) (lo : Int), rngD lo n = (List.range n).map fun i : Nat => D.int (lo + (i : Int))
  | 0, _ => rfl
  | n + 1, lo => by
    show D.int lo :: rngD (lo + 1) n = _
    rw [rngD_map n, List.range_succ_eq_map, List.map_cons, List.map_map]
    congr 1
    · congr 1; omega
    · apply List.map_congr_left
      intro i _
      show D.int _ = D.int _
      congr 1
      simp only [Nat.succ_eq_add_one]
      omega
theorem rng0 (n : Nat) : rngD 0 n = (List.range n).map fun i : Nat => D.int (i : Int) := by
  rw [rngD_map]
  apply List.map_congr_left
  intro i _
  congr 1
  omega
def WorthC (e : Sp) : Prop := ∀ {ms : List (List Nat)} {w : List Int} {far : Int} {S : Sto} {R : KD} {E : KX}, RowOk w.length ms → R (.int (worthZ far w ms)) S → e [msD ms, .lst (w.map .int), .int far] S R E
def ValuesC (e : Sp) : Prop := ∀ {g : List (List (List Nat))} {S : Sto} {R : KD} {E : KX}, GrOk g.length g → g.length ≤ 1000 → R (.lst ((valuesZ g).map .int)) S → e [gD g] S R E
theorem intsOf_map : ∀ is : List Int, intsOf (is.map D.int) = some is
  | [] => rfl
  | i :: is => by
    show (intsOf (is.map D.int)).map (i :: ·) = _
    rw [intsOf_map is]
    rfl
theorem worth_ok : WorthC p_law_worth := by
  intro ms w far S R E hr h
  have hsz := PySem.sizeLine_eq
  unfold worthZ at h
  simp [dfn, envOf, sq, asS, cst, gN, ifS, tsB, tsT, trD, bop, eqO, neO, eqB, ltO, leO, gtO, geO, cmpO, vr, bi, lenB, consA, nilA, seqOf, lstOf, addO, subO, mulO, fdivO, modO, powO, negU, intB, absB, max2B, min2B, sub, subO_, atD, ixD, smallI, nxS, rtS, exS, lstC, lstD, tupD, cal, foS, itR1, itS, mtL, appM, popAtM, gSub, setO, isaB, isT, notT, notV, orT, andT, andV, iteV, tupB, lstB, lstCB, lc, wipD, agS, addI, d_law_worth, b_law_worth, msD]
  refine for_inv (fun done env S' => S' = S ∧ ∃ (d r : List (List Nat)) (m : Int), ms = d ++ r ∧ done = d.map osD ∧ mostZ far w (-1) ms = mostZ far w m r ∧ ∃ a4 a5, env = [some (.lst (ms.map osD)), some (.lst (w.map .int)), some (.int far), some (.int m), a4, a5]) _ [] _ _ ?_ ?_ ?_
  · exact ⟨rfl, [], ms, -1, rfl, rfl, rfl, _, _, rfl⟩
  · rintro done x rr env S1 Z' ed ⟨rfl, d, r, m, h1, rfl, h2, a4, a5, rfl⟩ nx _ _
    have hrr : r.map osD = x :: rr := by
      rw [h1] at ed
      simp at ed
      exact ed
    cases r with
    | nil => cases hrr
    | cons os r =>
      simp at hrr
      obtain ⟨rfl, rfl⟩ := hrr
      have hos : os.length ≤ 9 ∧ ∀ t ∈ os, t < w.length := hr.2 os (by rw [h1]; simp)
      simp [dfn, envOf, sq, asS, cst, gN, ifS, tsB, tsT, trD, bop, eqO, neO, eqB, ltO, leO, gtO, geO, cmpO, vr, bi, lenB, consA, nilA, seqOf, lstOf, addO, subO, mulO, fdivO, modO, powO, negU, intB, absB, max2B, min2B, sub, subO_, atD, ixD, smallI, nxS, rtS, exS, lstC, lstD, tupD, cal, foS, itR1, itS, mtL, appM, popAtM, gSub, setO, isaB, isT, notT, notV, orT, andT, andV, iteV, tupB, lstB, lstCB, lc, wipD, agS, addI, osD]
      refine lc_mapA (fun t : Nat => D.int (t : Int)) (fun t : Nat => D.int (w.getD t 0)) os [] (fun t t1 k hk => ?_) ?_
      · have t2 := hos.2 t t1
        simp [dfn, envOf, sq, asS, cst, gN, ifS, tsB, tsT, trD, bop, eqO, neO, eqB, ltO, leO, gtO, geO, cmpO, vr, bi, lenB, consA, nilA, seqOf, lstOf, addO, subO, mulO, fdivO, modO, powO, negU, intB, absB, max2B, min2B, sub, subO_, atD, ixD, smallI, nxS, rtS, exS, lstC, lstD, tupD, cal, foS, itR1, itS, mtL, appM, popAtM, gSub, setO, isaB, isT, notT, notV, orT, andT, andV, iteV, tupB, lstB, lstCB, lc, wipD, agS, addI, t2]
        simpa [t2] using hk
      · have hl2 : os.length + 1 ≤ PySem.sizeLine := by omega
        have e1 : (os.map (fun t : Nat => D.int (w.getD t 0)) ++ [D.int far]) = (os.map (fun t => w.getD t 0) ++ [far]).map D.int := by simp [Function.comp_def]
        simp only [List.nil_append, lstOf, List.length_map, List.length_cons, List.length_nil, hl2, true_and, e1]
        have q : leastZ far w os = match os.map (fun t => w.getD t 0) ++ [far] with
          | [] => far
          | x :: r => minI r x := rfl
        revert q
        generalize hL : os.map (fun t => w.getD t 0) ++ [far] = L
        cases L with
        | nil => simp at hL
        | cons x L =>
          intro q
          simp only [minB, lstOf, Option.bind, intsOf_map]
          refine nx _ _ ⟨rfl, d ++ [os], r, _, by rw [h1]; simp, by simp [osD], ?_, _, _, rfl⟩
          rw [h2]
          show mostZ far w _ r = _
          rw [q]
  · rintro env S1 ⟨rfl, d, r, m, h1, h3, h2, a4, a5, rfl⟩
    have e0 : r = [] := by
      have l3 := congrArg List.length h3
      have l1 := congrArg List.length h1
      simp at l3 l1
      exact List.eq_nil_of_length_eq_zero (by omega)
    subst e0
    have h2 : mostZ far w (-1) ms = m := h2
    rw [h2] at h
    simp [dfn, envOf, sq, asS, cst, gN, ifS, tsB, tsT, trD, bop, eqO, neO, eqB, ltO, leO, gtO, geO, cmpO, vr, bi, lenB, consA, nilA, seqOf, lstOf, addO, subO, mulO, fdivO, modO, powO, negU, intB, absB, max2B, min2B, sub, subO_, atD, ixD, smallI, nxS, rtS, exS, lstC, lstD, tupD, cal, foS, itR1, itS, mtL, appM, popAtM, gSub, setO, isaB, isT, notT, notV, orT, andT, andV, iteV, tupB, lstB, lstCB, lc, wipD, agS, addI]
    exact h
theorem values_ok {e : Sp} (he : WorthC e) : ValuesC (d_law_values e) := by
  intro g S R E hg hl h
  have hsz := PySem.sizeLine_eq
  unfold valuesZ at h
  simp [dfn, envOf, sq, asS, cst, gN, ifS, tsB, tsT, trD, bop, eqO, neO, eqB, ltO, leO, gtO, geO, cmpO, vr, bi, lenB, consA, nilA, seqOf, lstOf, addO, subO, mulO, fdivO, modO, powO, negU, intB, absB, max2B, min2B, sub, subO_, atD, ixD, smallI, nxS, rtS, exS, lstC, lstD, tupD, cal, foS, itR1, itS, mtL, appM, popAtM, gSub, setO, isaB, isT, notT, notV, orT, andT, andV, iteV, tupB, lstB, lstCB, lc, wipD, agS, addI, d_law_values, b_law_values, gD]
  refine lc_mapA msD (fun ms => D.int (if ms = [] then 0 else g.length)) g [] (fun ms m1 k hk => ?_) ?_
  · by_cases h0 : ms = []
    · subst h0
      simp [dfn, envOf, sq, asS, cst, gN, ifS, tsB, tsT, trD, bop, eqO, neO, eqB, ltO, leO, gtO, geO, cmpO, vr, bi, lenB, consA, nilA, seqOf, lstOf, addO, subO, mulO, fdivO, modO, powO, negU, intB, absB, max2B, min2B, sub, subO_, atD, ixD, smallI, nxS, rtS, exS, lstC, lstD, tupD, cal, foS, itR1, itS, mtL, appM, popAtM, gSub, setO, isaB, isT, notT, notV, orT, andT, andV, iteV, tupB, lstB, lstCB, lc, wipD, agS, addI, msD]
      simpa using hk
    · have h1 : 0 < ms.length := List.length_pos_iff.mpr h0
      simp [dfn, envOf, sq, asS, cst, gN, ifS, tsB, tsT, trD, bop, eqO, neO, eqB, ltO, leO, gtO, geO, cmpO, vr, bi, lenB, consA, nilA, seqOf, lstOf, addO, subO, mulO, fdivO, modO, powO, negU, intB, absB, max2B, min2B, sub, subO_, atD, ixD, smallI, nxS, rtS, exS, lstC, lstD, tupD, cal, foS, itR1, itS, mtL, appM, popAtM, gSub, setO, isaB, isT, notT, notV, orT, andT, andV, iteV, tupB, lstB, lstCB, lc, wipD, agS, addI, msD, h1]
      simpa [h0] using hk
  · have e1 : g.map (fun ms : List (List Nat) => D.int (if ms = [] then 0 else g.length)) = (w0Z g.length g).map D.int := by
      unfold w0Z
      rw [List.map_map]
      apply List.map_congr_left
      intro ms _
      show D.int _ = D.int _
      congr 1
    have hw0 : (w0Z g.length g).length = g.length := by simp [w0Z]
    simp only [List.nil_append]
    rw [e1]
    rw [rng0]
    refine ⟨by omega, ?_⟩
    refine for_inv (fun done env S' => S' = S ∧ ∃ (w : List Int), w.length = g.length ∧ itZ g.length g (g.length - done.length) w = itZ g.length g g.length (w0Z g.length g) ∧ ∃ a3 a4 a5, env = [some (.lst (g.map msD)), some (.int g.length), some (.lst (w.map .int)), a3, a4, a5]) _ [] _ _ ?_ ?_ ?_
    · exact ⟨rfl, _, hw0, rfl, _, _, _, rfl⟩
    · rintro done x rr env S1 Z' ed ⟨rfl, w, w1, w2, a3, a4, a5, rfl⟩ nx _ _
      have hdl : done.length < g.length := by
        have := congrArg List.length ed
        simp at this
        omega
      simp [dfn, envOf, sq, asS, cst, gN, ifS, tsB, tsT, trD, bop, eqO, neO, eqB, ltO, leO, gtO, geO, cmpO, vr, bi, lenB, consA, nilA, seqOf, lstOf, addO, subO, mulO, fdivO, modO, powO, negU, intB, absB, max2B, min2B, sub, subO_, atD, ixD, smallI, nxS, rtS, exS, lstC, lstD, tupD, cal, foS, itR1, itS, mtL, appM, popAtM, gSub, setO, isaB, isT, notT, notV, orT, andT, andV, iteV, tupB, lstB, lstCB, lc, wipD, agS, addI]
      refine lc_mapA msD (fun ms => D.int (worthZ g.length w ms)) g [] (fun ms m1 k hk => ?_) ?_
      · simp [dfn, envOf, sq, asS, cst, gN, ifS, tsB, tsT, trD, bop, eqO, neO, eqB, ltO, leO, gtO, geO, cmpO, vr, bi, lenB, consA, nilA, seqOf, lstOf, addO, subO, mulO, fdivO, modO, powO, negU, intB, absB, max2B, min2B, sub, subO_, atD, ixD, smallI, nxS, rtS, exS, lstC, lstD, tupD, cal, foS, itR1, itS, mtL, appM, popAtM, gSub, setO, isaB, isT, notT, notV, orT, andT, andV, iteV, tupB, lstB, lstCB, lc, wipD, agS, addI]
        exact he (by rw [w1]; exact hg ms m1) hk
      · refine nx _ _ ⟨rfl, g.map (worthZ g.length w), by simp, ?_, x, a4, a5, by simp [Function.comp_def]⟩
        rw [← w2, show g.length - done.length = (g.length - (done ++ [x]).length) + 1 by simp; omega]
        rfl
    · rintro env S1 ⟨rfl, w, w1, w2, a3, a4, a5, rfl⟩
      simp at w2
      have w2 : w = itZ g.length g g.length (w0Z g.length g) := w2
      simp [dfn, envOf, sq, asS, cst, gN, ifS, tsB, tsT, trD, bop, eqO, neO, eqB, ltO, leO, gtO, geO, cmpO, vr, bi, lenB, consA, nilA, seqOf, lstOf, addO, subO, mulO, fdivO, modO, powO, negU, intB, absB, max2B, min2B, sub, subO_, atD, ixD, smallI, nxS, rtS, exS, lstC, lstD, tupD, cal, foS, itR1, itS, mtL, appM, popAtM, gSub, setO, isaB, isT, notT, notV, orT, andT, andV, iteV, tupB, lstB, lstCB, lc, wipD, agS, addI]
      refine lc_mapA D.int (fun i => D.int (if i < (g.length : Int) then i else -1)) w [] (fun i i1 k hk => ?_) ?_
      · by_cases hi : i < (g.length : Int)
        · simp [dfn, envOf, sq, asS, cst, gN, ifS, tsB, tsT, trD, bop, eqO, neO, eqB, ltO, leO, gtO, geO, cmpO, vr, bi, lenB, consA, nilA, seqOf, lstOf, addO, subO, mulO, fdivO, modO, powO, negU, intB, absB, max2B, min2B, sub, subO_, atD, ixD, smallI, nxS, rtS, exS, lstC, lstD, tupD, cal, foS, itR1, itS, mtL, appM, popAtM, gSub, setO, isaB, isT, notT, notV, orT, andT, andV, iteV, tupB, lstB, lstCB, lc, wipD, agS, addI, hi]
          simpa [hi] using hk
        · simp [dfn, envOf, sq, asS, cst, gN, ifS, tsB, tsT, trD, bop, eqO, neO, eqB, ltO, leO, gtO, geO, cmpO, vr, bi, lenB, consA, nilA, seqOf, lstOf, addO, subO, mulO, fdivO, modO, powO, negU, intB, absB, max2B, min2B, sub, subO_, atD, ixD, smallI, nxS, rtS, exS, lstC, lstD, tupD, cal, foS, itR1, itS, mtL, appM, popAtM, gSub, setO, isaB, isT, notT, notV, orT, andT, andV, iteV, tupB, lstB, lstCB, lc, wipD, agS, addI, hi]
          simpa [hi] using hk
      · rw [← w2] at h
        simpa [Function.comp_def] using h
end K56

/-! K56E: keys. -/
namespace K56
open Dn
/-- keys: all of one kind, no two alike -/
structure KsOk (ks : List D) : Prop where
  key : ∀ k ∈ ks, D.key 8 k = true
  kind : (∀ k ∈ ks, isTp k = true) ∨ ∀ k ∈ ks, ∃ i, k = .int i
  nd : (ks.map toK).Nodup
theorem KsOk.perm {ks ls : List D} (h : KsOk ks) (p : ls.Perm ks) : KsOk ls :=
  ⟨fun k hk => h.key k (p.mem_iff.mp hk), h.kind.imp (fun q k hk => q k (p.mem_iff.mp hk)) (fun q k hk => q k (p.mem_iff.mp hk)), (p.map toK).nodup_iff.mpr h.nd⟩
theorem KsOk.take {ks : List D} (h : KsOk ks) (n : Nat) : KsOk (ks.take n) :=
  ⟨fun k hk => h.key k (List.mem_of_mem_take hk), h.kind.imp (fun q k hk => q k (List.mem_of_mem_take hk)) (fun q k hk => q k (List.mem_of_mem_take hk)), by rw [List.map_take]; exact h.nd.sublist (List.take_sublist _ _)⟩
theorem nodup_map {α β : Type} {f : α → β} {l : List α} (h : l.Nodup) (inj : ∀ x ∈ l, ∀ y ∈ l, f x = f y → x = y) : (l.map f).Nodup := by
  rw [List.Nodup, List.pairwise_map]
  exact List.Pairwise.imp_of_mem (fun {a b} ha hb hab e => hab (inj a ha b hb e)) h
theorem cut_take (ks : List D) (n : Nat) (h : n ≤ ks.length) : cutD ks none (some (n : Int)) = ks.take n := by
  unfold cutD sIx
  have e : ¬ ((n : Int) < 0) := by omega
  simp [e, Nat.min_eq_left h]
def KeysC (e : Sp) : Prop := ∀ {n size : Nat} {S : Sto} {R : KD} {E : KX}, PoolOk S n → size ≤ 300 → (∀ ks S', ks.length = size → KsOk ks → Kp n S S' → R (.tup ks) S') → e [.loc n, .int size] S R E
def k2 (i : Nat) : D := .tup [.int (((i : Int) + 1).fmod 3), .int (((i : Int) + 1).fdiv 3)]
def k3 (i : Nat) : D := .tup (repL ((i : Int).fmod 3).toNat [.tup [.int i, .tup [.int 0, .int 1]]] ++ [.int ((i : Int).fdiv 3)])
theorem ks1 (low : Int) (gap : Int) (hg : 1 ≤ gap) (m : Nat) : KsOk ((List.range m).map fun i : Nat => D.int (low + gap * (i : Int))) := by
  refine ⟨fun k hk => ?_, .inr fun k hk => ?_, ?_⟩
  · obtain ⟨i, _, rfl⟩ := List.mem_map.mp hk
    rfl
  · obtain ⟨i, _, rfl⟩ := List.mem_map.mp hk
    exact ⟨_, rfl⟩
  · rw [List.map_map]
    refine nodup_map List.nodup_range fun x _ y _ e => ?_
    have e : PySem.NestedKey.num (low + gap * (x : Int)) = .num (low + gap * (y : Int)) := e
    injection e with e
    have e1 : gap * (x : Int) = gap * (y : Int) := by omega
    have := Int.eq_of_mul_eq_mul_left (by omega) e1
    omega
theorem ks2 (m : Nat) : KsOk (D.tup [] :: (List.range m).map k2) := by
  refine ⟨fun k hk => ?_, .inl fun k hk => ?_, ?_⟩
  · rcases List.mem_cons.mp hk with rfl | hk
    · rfl
    · obtain ⟨i, _, rfl⟩ := List.mem_map.mp hk
      rfl
  · rcases List.mem_cons.mp hk with rfl | hk
    · rfl
    · obtain ⟨i, _, rfl⟩ := List.mem_map.mp hk
      rfl
  · rw [List.map_cons, List.nodup_cons]
    refine ⟨fun h => ?_, ?_⟩
    · rw [List.map_map] at h
      obtain ⟨i, _, e⟩ := List.mem_map.mp h
      simp [k2, toK, toKs] at e
    · rw [List.map_map]
      refine nodup_map List.nodup_range fun x _ y _ e => ?_
      simp [k2, toK, toKs] at e
      obtain ⟨e1, e2⟩ := e
      have h1 := Int.mul_fdiv_add_fmod ((x : Int) + 1) 3
      have h2 := Int.mul_fdiv_add_fmod ((y : Int) + 1) 3
      rw [e1, e2] at h1
      omega
theorem repL_succ (n : Nat) (a : D) : repL (n + 1) [a] = a :: repL n [a] := rfl
theorem repL_len (a : D) : ∀ n : Nat, (repL n [a]).length = n
  | 0 => rfl
  | n + 1 => by rw [repL_succ, List.length_cons, repL_len a n]
theorem keys_app (n : Nat) : ∀ a b : List D, D.keys n (a ++ b) = (D.keys n a && D.keys n b)
  | [], b => by simp [D.keys]
  | x :: a, b => by simp [D.keys, keys_app n a b, Bool.and_assoc]
theorem toKs_app : ∀ a b : List D, toKs (a ++ b) = toKs a ++ toKs b
  | [], b => rfl
  | x :: a, b => by simp [toKs, toKs_app a b]
theorem keys_rep (n : Nat) (a : D) (h : D.key n a = true) : ∀ m : Nat, D.keys n (repL m [a]) = true
  | 0 => by simp [repL, D.keys]
  | m + 1 => by simp [repL_succ, D.keys, h, keys_rep n a h m]
theorem toKs_len : ∀ a : List D, (toKs a).length = a.length
  | [] => rfl
  | x :: a => by simp [toKs, toKs_len a]
theorem ks3 (m : Nat) : KsOk ((List.range m).map k3) := by
  refine ⟨fun k hk => ?_, .inl fun k hk => ?_, ?_⟩
  · obtain ⟨i, _, rfl⟩ := List.mem_map.mp hk
    show D.keys 7 (repL _ _ ++ _) = true
    rw [keys_app, keys_rep 7 _ rfl]
    rfl
  · obtain ⟨i, _, rfl⟩ := List.mem_map.mp hk
    rfl
  · rw [List.map_map]
    refine nodup_map List.nodup_range fun x _ y _ e => ?_
    have e : PySem.NestedKey.tup (toKs _) = .tup (toKs _) := e
    injection e with e
    rw [toKs_app, toKs_app] at e
    have hl := congrArg List.length e
    simp [toKs_len, repL_len, toKs] at hl
    obtain ⟨e1, e2⟩ := List.append_inj' e rfl
    simp [toKs, toK] at e2
    have h1 := Int.mul_fdiv_add_fmod (x : Int) 3
    have h2 := Int.mul_fdiv_add_fmod (y : Int) 3
    have f1 := fmod_small (x : Int) (m := 3) (by decide)
    have f2 := fmod_small (y : Int) (m := 3) (by decide)
    omega
theorem keys_ok {s e : Sp} (hs : SomeC s) (hd : DrawC e) : KeysC (d_law_keys s e) := by
  intro n size S R E hp hz h
  have hsz := PySem.sizeLine_eq
  have fin : ∀ (S3 : Sto) (ks : List D), Kp n S S3 → KsOk ks → size ≤ ks.length → s [.loc n, .lst (cutD ks none (some (size : Int))), .int size] S3 R noX := fun S3 ks kp hk hl => by
    rw [cut_take ks size hl]
    have e : (size : Int) = ((ks.take size).length : Int) := by rw [List.length_take, Nat.min_eq_left hl]
    rw [e]
    refine hs kp.pool (by rw [List.length_take]; omega) (fun es S4 pe kp4 => h es S4 ?_ (KsOk.perm (hk.take size) pe) (kp.trans kp4)) _ (.inl rfl)
    rw [pe.length_eq, List.length_take, Nat.min_eq_left hl]
  simp [dfn, envOf, sq, asS, cst, gN, ifS, tsB, tsT, trD, bop, eqO, neO, eqB, ltO, leO, gtO, geO, cmpO, vr, bi, lenB, consA, nilA, seqOf, lstOf, addO, subO, mulO, fdivO, modO, powO, negU, intB, absB, max2B, min2B, sub, subO_, atD, ixD, smallI, nxS, rtS, exS, lstC, lstD, tupD, cal, foS, itR1, itS, mtL, appM, popAtM, gSub, setO, isaB, isT, notT, notV, orT, andT, andV, iteV, tupB, lstB, lstCB, lc, wipD, agS, addI, d_law_keys, b_law_keys, slc, opN, opS]
  refine hd hp (by decide) (by decide) fun kind S1 u0 u1 kp1 _ => ?_
  refine hd kp1.pool (by decide) (by decide) fun low S2 v0 v1 kp2 _ => ?_
  refine hd kp2.pool (by decide) (by decide) fun gap S3 w0 w1 kp3 _ => ?_
  have kp := (kp1.trans kp2).trans kp3
  refine ⟨by omega, ?_⟩
  rw [rng0]
  refine lc_mapA (fun i : Nat => D.int (i : Int)) (fun i : Nat => D.int ((low - 40) + (1 + gap) * (i : Int))) _ [] (fun i i1 k hk => ?_) ?_
  · simp [dfn, envOf, sq, asS, cst, gN, ifS, tsB, tsT, trD, bop, eqO, neO, eqB, ltO, leO, gtO, geO, cmpO, vr, bi, lenB, consA, nilA, seqOf, lstOf, addO, subO, mulO, fdivO, modO, powO, negU, intB, absB, max2B, min2B, sub, subO_, atD, ixD, smallI, nxS, rtS, exS, lstC, lstD, tupD, cal, foS, itR1, itS, mtL, appM, popAtM, gSub, setO, isaB, isT, notT, notV, orT, andT, andV, iteV, tupB, lstB, lstCB, lc, wipD, agS, addI]
    exact ⟨.inl ⟨by omega, by omega⟩, hk⟩
  · by_cases k2_ : kind = 2
    · subst k2_
      simp [dfn, envOf, sq, asS, cst, gN, ifS, tsB, tsT, trD, bop, eqO, neO, eqB, ltO, leO, gtO, geO, cmpO, vr, bi, lenB, consA, nilA, seqOf, lstOf, addO, subO, mulO, fdivO, modO, powO, negU, intB, absB, max2B, min2B, sub, subO_, atD, ixD, smallI, nxS, rtS, exS, lstC, lstD, tupD, cal, foS, itR1, itS, mtL, appM, popAtM, gSub, setO, isaB, isT, notT, notV, orT, andT, andV, iteV, tupB, lstB, lstCB, lc, wipD, agS, addI, itR2]
      have e1 : ((size : Int) + 1 - 1).toNat = size := by omega
      refine ⟨by omega, ?_⟩
      rw [rngD_map]
      refine lc_mapA (fun i : Nat => D.int (1 + (i : Int))) k2 _ [] (fun i i1 k hk => ?_) ?_
      · simp [dfn, envOf, sq, asS, cst, gN, ifS, tsB, tsT, trD, bop, eqO, neO, eqB, ltO, leO, gtO, geO, cmpO, vr, bi, lenB, consA, nilA, seqOf, lstOf, addO, subO, mulO, fdivO, modO, powO, negU, intB, absB, max2B, min2B, sub, subO_, atD, ixD, smallI, nxS, rtS, exS, lstC, lstD, tupD, cal, foS, itR1, itS, mtL, appM, popAtM, gSub, setO, isaB, isT, notT, notV, orT, andT, andV, iteV, tupB, lstB, lstCB, lc, wipD, agS, addI]
        rw [Int.add_comm 1 (i : Int)]
        exact hk
      · refine ⟨by simp; omega, ?_⟩
        exact fin S3 _ kp (ks2 _) (by simp)
    · by_cases k3_ : kind = 3
      · subst k3_
        simp
        refine ⟨by omega, ?_⟩
        refine lc_mapA (fun i : Nat => D.int (i : Int)) k3 _ [] (fun i i1 k hk => ?_) ?_
        · have f1 := fmod_small (i : Int) (m := 3) (by decide)
          simp [dfn, envOf, sq, asS, cst, gN, ifS, tsB, tsT, trD, bop, eqO, neO, eqB, ltO, leO, gtO, geO, cmpO, vr, bi, lenB, consA, nilA, seqOf, lstOf, addO, subO, mulO, fdivO, modO, powO, negU, intB, absB, max2B, min2B, sub, subO_, atD, ixD, smallI, nxS, rtS, exS, lstC, lstD, tupD, cal, foS, itR1, itS, mtL, appM, popAtM, gSub, setO, isaB, isT, notT, notV, orT, andT, andV, iteV, tupB, lstB, lstCB, lc, wipD, agS, addI]
          refine ⟨by omega, ?_, hk⟩
          rw [repL_len]
          omega
        · exact fin S3 _ kp (ks3 _) (by simp)
      · simp [k2_, k3_]
        exact fin S3 _ kp (ks1 _ _ (by omega) _) (by simp)
end K56

/-! K56F: rows. -/
namespace K56
open Dn
inductive All2 {α β : Type} (r : α → β → Prop) : List α → List β → Prop
  | nil : All2 r [] []
  | cons {a : α} {b : β} {l : List α} {m : List β} : r a b → All2 r l m → All2 r (a :: l) (b :: m)
theorem All2.snoc {α β : Type} {r : α → β → Prop} {l : List α} {m : List β} {a : α} {b : β} (h : All2 r l m) (x : r a b) : All2 r (l ++ [a]) (m ++ [b]) := by
  induction h with
  | nil => exact .cons x .nil
  | cons y _ ih => exact .cons y ih
theorem All2.length {α β : Type} {r : α → β → Prop} {l : List α} {m : List β} (h : All2 r l m) : m.length = l.length := by
  induction h with
  | nil => rfl
  | cons _ _ ih => simp [ih]
theorem All2.map {α β : Type} {r : α → β → Prop} (f : α → β) (l : List α) (h : ∀ a ∈ l, r a (f a)) : All2 r l (l.map f) := by
  induction l with
  | nil => exact .nil
  | cons a l ih => exact .cons (h a List.mem_cons_self) (ih fun x hx => h x (List.mem_cons_of_mem _ hx))
theorem rng_at {L : Nat} {d r : List D} {x : D} (h : rngD 0 L = d ++ x :: r) : d.length < L ∧ x = .int (d.length : Nat) := by
  have l := congrArg List.length h
  simp [rngD_len] at l
  have hl : d.length < L := by omega
  refine ⟨hl, ?_⟩
  have e1 : (rngD 0 L)[d.length]? = some x := by rw [h]; simp
  rw [rngD_get L 0 _ hl] at e1
  rw [← Option.some.inj e1]
  congr 1
  omega
def OutOk (ks : List D) (t : Nat) (o : D) : Prop := ∃ h, o = .tup [h, ks.getD t .non]
def MvOk (ks : List D) (os : List Nat) (m : D) : Prop := ∃ h outs, m = .tup [h, .tup outs] ∧ All2 (OutOk ks) os outs
def RwOk (ks : List D) (g : List (List (List Nat))) (p : Nat) (r : D) : Prop := ∃ moves, r = .tup [ks.getD p .non, .tup moves] ∧ All2 (MvOk ks) (g.getD p []) moves
def psD (ps : List Nat) : D := .tup (ps.map fun p : Nat => D.int (p : Int))
def RowsC (e : Sp) : Prop := ∀ {n : Nat} {g : List (List (List Nat))} {ks : List D} {ps : List Nat} {S : Sto} {R : KD} {E : KX}, PoolOk S n → GrOk g.length g → ks.length = g.length → ps.length ≤ 1000 → (∀ p ∈ ps, p < g.length) →
  (∀ rows S', All2 (RwOk ks g) ps rows → Kp n S S' → R (.tup rows) S') → e [.loc n, gD g, .tup ks, psD ps] S R E
theorem rows_ok {e p : Sp} (hd : DrawC e) (hp : PickC p) : RowsC (d_law_rows e p) := by
  intro n g ks ps S R E hpl hg hk hps hlt h
  have hsz := PySem.sizeLine_eq
  have hn := hpl.lt
  simp [dfn, envOf, sq, asS, cst, gN, ifS, tsB, tsT, trD, bop, eqO, neO, eqB, ltO, leO, gtO, geO, cmpO, vr, bi, lenB, consA, nilA, seqOf, lstOf, addO, subO, mulO, fdivO, modO, powO, negU, intB, absB, max2B, min2B, sub, subO_, atD, ixD, smallI, nxS, rtS, exS, lstC, lstD, tupD, cal, foS, itR1, itS, mtL, appM, popAtM, gSub, setO, isaB, isT, notT, notV, orT, andT, andV, iteV, tupB, lstB, lstCB, lc, wipD, agS, addI, d_law_rows, b_law_rows, gD, psD]
  refine for_inv (fun done env S' => Kp n S S' ∧ (∃ a5 a6 a7 a8 a9 a10 a11 a12, env = [some (.loc n), some (.lst (g.map msD)), some (.tup ks), some (.tup (ps.map fun p : Nat => D.int (p : Int))), some (.loc S.length), a5, a6, a7, a8, a9, a10, a11, a12]) ∧ ∃ (d : List Nat) (rows : List D), done = d.map (fun p : Nat => D.int (p : Int)) ∧ S'[S.length]? = some (.lst rows) ∧ All2 (RwOk ks g) d rows) _ [] _ _ ?_ ?_ ?_
  · exact ⟨.app hpl, ⟨_, _, _, _, _, _, _, _, rfl⟩, [], [], rfl, by simp, .nil⟩
  · rintro done x rr env S3 Z' ed ⟨kp3, ⟨a5, a6, a7, a8, a9, a10, a11, a12, rfl⟩, d, rows, rfl, g1, g2⟩ nx rt ct
    have hx : x ∈ ps.map fun p : Nat => D.int (p : Int) := by
      have : x ∈ (d.map fun p : Nat => D.int (p : Int)) ++ x :: rr := by simp
      rw [← ed] at this
      simpa using this
    obtain ⟨q, q1, rfl⟩ := List.mem_map.mp hx
    have hq := hlt q q1
    have hdl : d.length < ps.length := by
      have := congrArg List.length ed
      simp at this
      omega
    have hrow : RowOk g.length g[q] := hg _ (List.getElem_mem hq)
    have hlS := kp3.len
    have hne : S3.length ≠ n := by have := kp3.pool.lt; omega
    have hne2 : S.length ≠ n := by omega
    have hne3 : S3.length ≠ S.length := by have := (List.getElem?_eq_some_iff.mp g1).1; omega
    simp [dfn, envOf, sq, asS, cst, gN, ifS, tsB, tsT, trD, bop, eqO, neO, eqB, ltO, leO, gtO, geO, cmpO, vr, bi, lenB, consA, nilA, seqOf, lstOf, addO, subO, mulO, fdivO, modO, powO, negU, intB, absB, max2B, min2B, sub, subO_, atD, ixD, smallI, nxS, rtS, exS, lstC, lstD, tupD, cal, foS, itR1, itS, mtL, appM, popAtM, gSub, setO, isaB, isT, notT, notV, orT, andT, andV, iteV, tupB, lstB, lstCB, lc, wipD, agS, addI]
    refine hd kp3.next.pool (by decide) (by decide) fun like S4 l0 l1 kp4 _ => ?_
    have kp4' := kp3.next.trans kp4
    have hM : S4[S3.length]? = some (.lst []) := kp4.at_ (by simp) hne
    have hG : S4[S.length]? = some (.lst rows) := kp4.at_ (at_app g1) hne2
    simp [hq, msD]
    refine ⟨by have := hrow.1; omega, ?_⟩
    refine for_inv (fun done env S' => Kp n S S' ∧ (∃ a8 a9 a10 a11 a12, env = [some (.loc n), some (.lst (g.map msD)), some (.tup ks), some (.tup (ps.map fun p : Nat => D.int (p : Int))), some (.loc S.length), some (.int q), some (.loc S3.length), some (.int like), a8, a9, a10, a11, a12]) ∧ S'[S.length]? = some (.lst rows) ∧ ∃ (ms : List (List Nat)) (moves : List D), g[q] = ms ++ g[q].drop ms.length ∧ ms.length = done.length ∧ S'[S3.length]? = some (.lst moves) ∧ All2 (MvOk ks) ms moves) _ [] _ _ ?_ ?_ ?_
    · exact ⟨kp4', ⟨_, _, _, _, _, rfl⟩, hG, [], [], by simp, rfl, hM, .nil⟩
    · rintro done2 x2 r2 env S5 Z2 ed2 ⟨kp5, ⟨b8, b9, b10, b11, b12, rfl⟩, G5, ms, moves, m1, m2, M5, m4⟩ nx2 rt2 ct2
      obtain ⟨j1, rfl⟩ := rng_at (by simpa using ed2)
      rw [← m2] at j1 ⊢
      have hos : g[q][ms.length].length ≤ 9 ∧ ∀ t ∈ g[q][ms.length], t < g.length := hrow.2 _ (List.getElem_mem j1)
      have m5 : g[q] = (ms ++ [g[q][ms.length]]) ++ g[q].drop (ms ++ [g[q][ms.length]]).length := by
        rw [List.append_assoc, List.length_append]
        have z : g[q].drop ms.length = g[q][ms.length] :: g[q].drop (ms.length + 1) := List.drop_eq_getElem_cons j1
        have z2 := m1
        rw [z] at z2
        exact z2
      generalize e_os : g[q][ms.length] = os at hos m5
      simp [dfn, envOf, sq, asS, cst, gN, ifS, tsB, tsT, trD, bop, eqO, neO, eqB, ltO, leO, gtO, geO, cmpO, vr, bi, lenB, consA, nilA, seqOf, lstOf, addO, subO, mulO, fdivO, modO, powO, negU, intB, absB, max2B, min2B, sub, subO_, atD, ixD, smallI, nxS, rtS, exS, lstC, lstD, tupD, cal, foS, itR1, itS, mtL, appM, popAtM, gSub, setO, isaB, isT, notT, notV, orT, andT, andV, iteV, tupB, lstB, lstCB, lc, wipD, agS, addI]
      refine hp kp5.pool (by simp) (by simp) fun hd_ S6 _ kp6 _ => ?_
      have kp6' := kp5.trans kp6
      have hM6 := kp6.at_ M5 hne
      have hG6 := kp6.at_ G5 hne2
      simp [hq, msD, e_os, osD, j1]
      refine lc_mapA (fun t : Nat => D.int (t : Int)) (fun t => .tup [hd_, ks.getD t .non]) os [] (fun t t1 k hk' => ?_) ?_
      · have t2 : t < ks.length := by rw [hk]; exact hos.2 t t1
        simp [dfn, envOf, sq, asS, cst, gN, ifS, tsB, tsT, trD, bop, eqO, neO, eqB, ltO, leO, gtO, geO, cmpO, vr, bi, lenB, consA, nilA, seqOf, lstOf, addO, subO, mulO, fdivO, modO, powO, negU, intB, absB, max2B, min2B, sub, subO_, atD, ixD, smallI, nxS, rtS, exS, lstC, lstD, tupD, cal, foS, itR1, itS, mtL, appM, popAtM, gSub, setO, isaB, isT, notT, notV, orT, andT, andV, iteV, tupB, lstB, lstCB, lc, wipD, agS, addI, t2]
        simpa [t2] using hk'
      · have ok1 : All2 (OutOk ks) os (os.map fun t => D.tup [hd_, ks.getD t .non]) := .map _ _ fun t _ => ⟨_, rfl⟩
        by_cases hl0 : like = 0
        · have d0 : decide (like = 0) = true := by simp [hl0]
          simp only [d0, List.nil_append, List.length_map]
          refine ⟨by omega, ?_⟩
          rw [rng0]
          refine lc_mapA (fun t : Nat => D.int (t : Int)) (fun i => .tup [.tup [.int i, .tup []], ks.getD (os.getD i 0) .non]) _ [] (fun i i1 k hk' => ?_) ?_
          · have i2 : i < os.length := by simpa using i1
            simp [dfn, envOf, sq, asS, cst, gN, ifS, tsB, tsT, trD, bop, eqO, neO, eqB, ltO, leO, gtO, geO, cmpO, vr, bi, lenB, consA, nilA, seqOf, lstOf, addO, subO, mulO, fdivO, modO, powO, negU, intB, absB, max2B, min2B, sub, subO_, atD, ixD, smallI, nxS, rtS, exS, lstC, lstD, tupD, cal, foS, itR1, itS, mtL, appM, popAtM, gSub, setO, isaB, isT, notT, notV, orT, andT, andV, iteV, tupB, lstB, lstCB, lc, wipD, agS, addI, i2]
            simpa [i2] using hk'
          · have ok2 : All2 (OutOk ks) os ((List.range os.length).map fun i : Nat => D.tup [.tup [.int i, .tup []], ks.getD (os.getD i 0) .non]) := by
              have z : ∀ (xs : List Nat) (f : Nat → D), (∀ i, i < xs.length → OutOk ks (xs.getD i 0) (f i)) → All2 (OutOk ks) xs ((List.range xs.length).map f) := by
                intro xs
                induction xs with
                | nil => intro f _; exact .nil
                | cons x xs ih =>
                  intro f hf
                  rw [List.length_cons, List.range_succ_eq_map, List.map_cons, List.map_map]
                  exact .cons (hf 0 (by simp)) (ih (f ∘ Nat.succ) fun i hi => hf (i + 1) (by simpa using hi))
              exact z os _ fun i _ => ⟨_, rfl⟩
            simp only [List.nil_append]
            simp only [hM6]
            refine ⟨rfl, ?_⟩
            refine hd kp6'.pool (by decide) (by decide) fun r7 S7 _ _ kp7 _ => ?_
            have kp7' := kp6'.trans kp7
            have hM7 := kp7.at_ hM6 hne
            have hG7 := kp7.at_ hG6 hne2
            have hlt := (List.getElem?_eq_some_iff.mp hM7).1
            obtain ⟨hv, ehv⟩ : ∃ hv, [D.int ((ms.length : Int) - 1), D.int (r7 - 1)][like.toNat]? = some hv := by
              rcases (show like.toNat = 0 ∨ like.toNat = 1 by omega) with z | z <;> rw [z] <;> exact ⟨_, rfl⟩
            have hmv : moves.length < PySem.sizeLine := by
              have := m4.length
              have := hrow.1
              omega
            simp [l0, l1, ehv, hM7, hmv]
            refine nx2 _ _ ⟨kp7'.own (by omega) (by omega), ⟨_, _, _, _, _, rfl⟩, at_set hG7 (by omega), ms ++ [os], moves ++ [.tup [hv, .tup (List.map (fun i : Nat => D.tup [.tup [.int i, .tup []], ks.getD (os.getD i 0) .non]) (List.range os.length))]], m5, by simp [m2], ?_, m4.snoc ⟨_, _, rfl, ok2⟩⟩
            simp [List.getElem?_set, hlt]
            exact (List.getElem?_eq_some_iff.mp ehv).2
        · have d0 : decide (like = 0) = false := by simp [hl0]
          simp only [d0, List.nil_append]
          simp only [hM6]
          refine ⟨rfl, ?_⟩
          refine hd kp6'.pool (by decide) (by decide) fun r7 S7 _ _ kp7 _ => ?_
          have kp7' := kp6'.trans kp7
          have hM7 := kp7.at_ hM6 hne
          have hG7 := kp7.at_ hG6 hne2
          have hlt := (List.getElem?_eq_some_iff.mp hM7).1
          obtain ⟨hv, ehv⟩ : ∃ hv, [D.int ((ms.length : Int) - 1), D.int (r7 - 1)][like.toNat]? = some hv := by
            rcases (show like.toNat = 0 ∨ like.toNat = 1 by omega) with z | z <;> rw [z] <;> exact ⟨_, rfl⟩
          have hmv : moves.length < PySem.sizeLine := by
            have := m4.length
            have := hrow.1
            omega
          simp [l0, l1, ehv, hM7, hmv]
          refine nx2 _ _ ⟨kp7'.own (by omega) (by omega), ⟨_, _, _, _, _, rfl⟩, at_set hG7 (by omega), ms ++ [os], moves ++ [.tup [hv, .tup (os.map fun t => D.tup [hd_, ks.getD t .non])]], m5, by simp [m2], ?_, m4.snoc ⟨_, _, rfl, ok1⟩⟩
          simp [List.getElem?_set, hlt]
          exact (List.getElem?_eq_some_iff.mp ehv).2
    · rintro env S5 ⟨kp5, ⟨b8, b9, b10, b11, b12, rfl⟩, G5, ms, moves, m1, m2, M5, m4⟩
      simp [rngD_len] at m2
      have e0 : g[q].drop ms.length = [] := by rw [m2]; exact List.drop_length
      rw [e0, List.append_nil] at m1
      have hlt := (List.getElem?_eq_some_iff.mp G5).1
      have hrl : rows.length < PySem.sizeLine := by
        have := g2.length
        omega
      have hqk : q < ks.length := by omega
      simp [dfn, envOf, sq, asS, cst, gN, ifS, tsB, tsT, trD, bop, eqO, neO, eqB, ltO, leO, gtO, geO, cmpO, vr, bi, lenB, consA, nilA, seqOf, lstOf, addO, subO, mulO, fdivO, modO, powO, negU, intB, absB, max2B, min2B, sub, subO_, atD, ixD, smallI, nxS, rtS, exS, lstC, lstD, tupD, cal, foS, itR1, itS, mtL, appM, popAtM, gSub, setO, isaB, isT, notT, notV, orT, andT, andV, iteV, tupB, lstB, lstCB, lc, wipD, agS, addI, M5, G5, hqk, hrl]
      refine nx _ _ ⟨kp5.own (by omega) (by omega), ⟨_, _, _, _, _, _, _, _, rfl⟩, d ++ [q], rows ++ [.tup [ks[q], .tup moves]], by simp, ?_, g2.snoc ⟨moves, ?_, ?_⟩⟩
      · simp [List.getElem?_set, hlt]
      · simp [hqk]
      · have z : g.getD q [] = ms := by simp [hq, m1]
        rw [z]
        exact m4
  · rintro env S3 ⟨kp3, ⟨a5, a6, a7, a8, a9, a10, a11, a12, rfl⟩, d, rows, e1, g1, g2⟩
    have ed : d = ps := by
      have q := congrArg (List.map fun x : D => match x with
        | .int i => i.toNat
        | _ => 0) e1
      simpa [Function.comp_def] using q.symm
    subst ed
    simp [dfn, envOf, sq, asS, cst, gN, ifS, tsB, tsT, trD, bop, eqO, neO, eqB, ltO, leO, gtO, geO, cmpO, vr, bi, lenB, consA, nilA, seqOf, lstOf, addO, subO, mulO, fdivO, modO, powO, negU, intB, absB, max2B, min2B, sub, subO_, atD, ixD, smallI, nxS, rtS, exS, lstC, lstD, tupD, cal, foS, itR1, itS, mtL, appM, popAtM, gSub, setO, isaB, isT, notT, notV, orT, andT, andV, iteV, tupB, lstB, lstCB, lc, wipD, agS, addI, g1]
    exact h rows _ g2 kp3
end K56

/-! K56G: the chain. -/
namespace K56
open Dn
/-- row i + 1 of the chain -/
def ChRow (sz i : Nat) (ms : List (List Nat)) : Prop := ms ≠ [] ∧ RowOk (sz + 1) ms ∧ (∃ os ∈ ms, ∀ t ∈ os, i ≤ t) ∧ ∀ os ∈ ms, ∃ t ∈ os, t ≤ i
def ChOk (sz : Nat) (g : List (List (List Nat))) : Prop := ∃ body, g = [] :: (body ++ [[[sz], [0]]]) ∧ body.length + 1 = sz ∧ ∀ i ms, body[i]? = some ms → ChRow sz i ms
def ChainC (e : Sp) : Prop := ∀ {n : Nat} {S : Sto} {R : KD} {E : KX}, PoolOk S n → (∀ sz g S', sz ≤ 260 → ChOk sz g → Kp n S S' → R (gD g) S') → e [.loc n] S R E
theorem chain_ok {e p : Sp} (hd : DrawC e) (hp : PickC p) : ChainC (d_law_chain p e) := by
  intro n S R E hpl h
  have hsz := PySem.sizeLine_eq
  have hn := hpl.lt
  simp [dfn, envOf, sq, asS, cst, gN, ifS, tsB, tsT, trD, bop, eqO, neO, eqB, ltO, leO, gtO, geO, cmpO, vr, bi, lenB, consA, nilA, seqOf, lstOf, addO, subO, mulO, fdivO, modO, powO, negU, intB, absB, max2B, min2B, sub, subO_, atD, ixD, smallI, nxS, rtS, exS, lstC, lstD, tupD, cal, foS, itR1, itS, mtL, appM, popAtM, gSub, setO, isaB, isT, notT, notV, orT, andT, andV, iteV, tupB, lstB, lstCB, lc, wipD, agS, addI, d_law_chain, b_law_chain]
  refine hp hpl (by simp) (by simp) fun mx S1 hmx kp1 _ => ?_
  obtain ⟨m, m0, m1, rfl⟩ : ∃ m : Int, 0 < m ∧ m ≤ 60 ∧ mx = .int m := by
    simp at hmx
    rcases hmx with rfl | rfl | rfl
    · exact ⟨9, by omega, by omega, rfl⟩
    · exact ⟨30, by omega, by omega, rfl⟩
    · exact ⟨60, by omega, by omega, rfl⟩
  refine hd kp1.pool m0 (by omega) fun s0 S2 u0 u1 kp2 _ => ?_
  have kp2' := kp1.trans kp2
  simp
  refine hd kp2'.pool (by decide) (by decide) fun c S3 _ _ kp3 _ => ?_
  have kp3' := kp2'.trans kp3
  have main : ∀ (sz : Nat), 1 ≤ sz → sz ≤ 260 → (-4611686018427387904 ≤ (sz : Int) - 1 ∧ (sz : Int) - 1 ≤ PySem.sizeLine) ∧ forGo (gN 3) (sq (asS (bop addO (lstD (consA (vr 3) nilA)) (lc [6] (itR1 (cal e noX (consA (vr 0) (consA (cst (.int 3)) nilA)))) (gN 6) (yesT) (bop addO (vr 3) (cal e noX (consA (vr 0) (consA (bop subO (bop addO (vr 1) (cst (.int 1))) (vr 3)) nilA)))))) (gN 4)) (sq (asS (bop addO (lstD (consA (cal e noX (consA (vr 0) (consA (bop addO (vr 3) (cst (.int 1))) nilA))) nilA)) (lc [6] (itR1 (cal e noX (consA (vr 0) (consA (cst (.int 3)) nilA)))) (gN 6) (yesT) (cal e noX (consA (vr 0) (consA (bop addO (vr 1) (cst (.int 1))) nilA))))) (gN 5)) (exS (mtL appM (vr 2) (consA (cal p noX (consA (vr 0) (consA (lstD (consA (lstD (consA (vr 4) nilA)) (consA (lstD (consA (vr 4) (consA (vr 5) nilA))) (consA (lstD (consA (vr 5) (consA (vr 4) nilA))) nilA)))) nilA))) nilA)))))
      { nx := (sq (exS (mtL appM (vr 2) (consA (lstD (consA (lstD (consA (vr 1) nilA)) (consA (lstD (consA (cst (.int 0)) nilA)) nilA))) nilA))) (rtS (vrz 2))) { nx := fun x S' => R D.non S', rt := R }, rt := R } (rngD 0 ((sz : Int) - 1).toNat) [some (.loc n), some (.int sz), some (.loc S3.length), none, none, none, none] (S3 ++ [.lst [.lst []]]) := by
    intro sz sz0 sz1
    refine ⟨by omega, ?_⟩
    refine for_inv (fun done env S' => Kp n S S' ∧ (∃ a3 a4 a5 a6, env = [some (.loc n), some (.int sz), some (.loc S3.length), a3, a4, a5, a6]) ∧ ∃ body : List (List (List Nat)), S'[S3.length]? = some (.lst (.lst [] :: body.map msD)) ∧ body.length = done.length ∧ ∀ i ms, body[i]? = some ms → ChRow sz i ms) _ [] _ _ ?_ ?_ ?_
    · exact ⟨kp3'.next, ⟨_, _, _, _, rfl⟩, [], by simp, rfl, fun i ms h => by simp at h⟩
    · rintro d y r env S4 Z' ed ⟨kp4, ⟨a3, a4, a5, a6, rfl⟩, body, b1, b2, b3⟩ nx _ _
      obtain ⟨i1, rfl⟩ := rng_at (by simpa using ed)
      rw [← b2] at i1 ⊢
      generalize hi : body.length = i at i1 b2
      have hlS := kp3'.len
      have hne : S3.length ≠ n := by omega
      have hi2 : i + 1 < sz := by omega
      simp [dfn, envOf, sq, asS, cst, gN, ifS, tsB, tsT, trD, bop, eqO, neO, eqB, ltO, leO, gtO, geO, cmpO, vr, bi, lenB, consA, nilA, seqOf, lstOf, addO, subO, mulO, fdivO, modO, powO, negU, intB, absB, max2B, min2B, sub, subO_, atD, ixD, smallI, nxS, rtS, exS, lstC, lstD, tupD, cal, foS, itR1, itS, mtL, appM, popAtM, gSub, setO, isaB, isT, notT, notV, orT, andT, andV, iteV, tupB, lstB, lstCB, lc, wipD, agS, addI]
      refine hd kp4.pool (by decide) (by decide) fun c1 S5 v0 v1 kp5 _ => ?_
      have kp5' := kp4.trans kp5
      have M5 := kp5.at_ b1 hne
      refine ⟨by omega, ?_⟩
      refine lc_inv (fun d acc S' => Kp n S5 S' ∧ ∃ os : List Nat, acc = os.map (fun t : Nat => D.int (t : Int)) ∧ os.length = d.length ∧ ∀ t ∈ os, i ≤ t ∧ t < sz + 1) _ [] _ _ ?_ ?_ ?_
      · exact ⟨.refl kp5.pool, [], rfl, rfl, fun _ h => by simp at h⟩
      · rintro d3 x3 r3 acc S6 K3 ed3 ⟨kp6, os, rfl, o2, o3⟩ hK
        simp [dfn, envOf, sq, asS, cst, gN, ifS, tsB, tsT, trD, bop, eqO, neO, eqB, ltO, leO, gtO, geO, cmpO, vr, bi, lenB, consA, nilA, seqOf, lstOf, addO, subO, mulO, fdivO, modO, powO, negU, intB, absB, max2B, min2B, sub, subO_, atD, ixD, smallI, nxS, rtS, exS, lstC, lstD, tupD, cal, foS, itR1, itS, mtL, appM, popAtM, gSub, setO, isaB, isT, notT, notV, orT, andT, andV, iteV, tupB, lstB, lstCB, lc, wipD, agS, addI, yesT]
        refine hd kp6.pool (by omega) (by omega) fun t S7 t0 t1 kp7 _ => ?_
        simp
        refine hK _ _ ⟨kp6.trans kp7, os ++ [i + t.toNat], ?_, by simp [o2], fun x hx => ?_⟩
        · have : ((i + t.toNat : Nat) : Int) = i + t := by omega
          simp [this]
        · rcases List.mem_append.mp hx with h | h
          · exact o3 x h
          · simp at h; omega
      · rintro acc S6 ⟨kp6, near, rfl, n2, n3⟩
        have M6 := kp6.at_ M5 hne
        have hnl : near.length ≤ 3 := by rw [n2]; simp [rngD_len]; omega
        simp
        refine ⟨by omega, ?_⟩
        refine hd kp6.pool (by omega) (by omega) fun f0 S7 f1 f2 kp7 _ => ?_
        have kp67 := kp6.trans kp7
        refine hd kp67.pool (by decide) (by decide) fun c2 S8 w0 w1 kp8 _ => ?_
        have kp68 := kp67.trans kp8
        have M8 := kp68.at_ M5 hne
        refine ⟨by omega, ?_⟩
        refine lc_inv (fun d acc S' => Kp n S8 S' ∧ ∃ os : List Nat, acc = os.map (fun t : Nat => D.int (t : Int)) ∧ os.length = d.length ∧ ∀ t ∈ os, t < sz + 1) _ [] _ _ ?_ ?_ ?_
        · exact ⟨.refl kp8.pool, [], rfl, rfl, fun _ h => by simp at h⟩
        · rintro d3 x3 r3 acc S9 K3 ed3 ⟨kp9, os, rfl, o2, o3⟩ hK
          simp [dfn, envOf, sq, asS, cst, gN, ifS, tsB, tsT, trD, bop, eqO, neO, eqB, ltO, leO, gtO, geO, cmpO, vr, bi, lenB, consA, nilA, seqOf, lstOf, addO, subO, mulO, fdivO, modO, powO, negU, intB, absB, max2B, min2B, sub, subO_, atD, ixD, smallI, nxS, rtS, exS, lstC, lstD, tupD, cal, foS, itR1, itS, mtL, appM, popAtM, gSub, setO, isaB, isT, notT, notV, orT, andT, andV, iteV, tupB, lstB, lstCB, lc, wipD, agS, addI, yesT]
          refine hd kp9.pool (by omega) (by omega) fun t S10 t0 t1 kp10 _ => ?_
          refine hK _ _ ⟨kp9.trans kp10, os ++ [t.toNat], ?_, by simp [o2], fun x hx => ?_⟩
          · have : ((t.toNat : Nat) : Int) = t := by omega
            simp [this]
          · rcases List.mem_append.mp hx with h | h
            · exact o3 x h
            · simp at h; omega
        · rintro acc S9 ⟨kp9, far, rfl, q2, q3⟩
          have M9 := kp9.at_ M8 hne
          have hfl : far.length ≤ 3 := by rw [q2]; simp [rngD_len]; omega
          have kp9' := (kp5'.trans kp68).trans kp9
          simp [M9]
          refine ⟨by omega, ?_⟩
          refine hp kp9.pool (by simp) (by simp) fun ms S10 hms kp10 _ => ?_
          have M10 := kp10.at_ M9 hne
          have hlt := (List.getElem?_eq_some_iff.mp M10).1
          have hbl : body.length + 1 < PySem.sizeLine := by omega
          simp [M10, hbl]
          have hf0 : ((f0.toNat : Nat) : Int) = f0 := by omega
          obtain ⟨row, rfl, hrow⟩ : ∃ row, ms = msD row ∧ ChRow sz i row := by
            have e1 : D.lst (D.int i :: near.map fun t : Nat => D.int (t : Int)) = osD (i :: near) := rfl
            have e2 : D.lst (D.int f0 :: far.map fun t : Nat => D.int (t : Int)) = osD (f0.toNat :: far) := by
              unfold osD
              rw [List.map_cons, hf0]
            rw [e1, e2] at hms
            have r1 : (i :: near).length ≤ 9 ∧ ∀ t ∈ i :: near, t < sz + 1 := ⟨by simp; omega, fun t ht => by
              rcases List.mem_cons.mp ht with rfl | ht
              · omega
              · exact (n3 t ht).2⟩
            have r2 : (f0.toNat :: far).length ≤ 9 ∧ ∀ t ∈ f0.toNat :: far, t < sz + 1 := ⟨by simp; omega, fun t ht => by
              rcases List.mem_cons.mp ht with rfl | ht
              · omega
              · exact q3 t ht⟩
            have r3 : ∀ t ∈ i :: near, i ≤ t := fun t ht => by
              rcases List.mem_cons.mp ht with rfl | ht
              · omega
              · exact (n3 t ht).1
            have r4 : ∃ t ∈ i :: near, t ≤ i := ⟨i, by simp, Nat.le_refl _⟩
            have r5 : ∃ t ∈ f0.toNat :: far, t ≤ i := ⟨f0.toNat, by simp, by omega⟩
            simp only [List.mem_cons, List.not_mem_nil, or_false] at hms
            rcases hms with rfl | rfl | rfl
            · refine ⟨[i :: near], rfl, by simp, ⟨by simp, fun os ho => ?_⟩, ⟨_, by simp, r3⟩, fun os ho => ?_⟩
              · simp only [List.mem_cons, List.not_mem_nil, or_false] at ho; subst ho; exact r1
              · simp only [List.mem_cons, List.not_mem_nil, or_false] at ho; subst ho; exact r4
            · refine ⟨[i :: near, f0.toNat :: far], rfl, by simp, ⟨by simp, fun os ho => ?_⟩, ⟨i :: near, by simp, r3⟩, fun os ho => ?_⟩
              · simp only [List.mem_cons, List.not_mem_nil, or_false] at ho
                rcases ho with rfl | rfl
                · exact r1
                · exact r2
              · simp only [List.mem_cons, List.not_mem_nil, or_false] at ho
                rcases ho with rfl | rfl
                · exact r4
                · exact r5
            · refine ⟨[f0.toNat :: far, i :: near], rfl, by simp, ⟨by simp, fun os ho => ?_⟩, ⟨i :: near, by simp, r3⟩, fun os ho => ?_⟩
              · simp only [List.mem_cons, List.not_mem_nil, or_false] at ho
                rcases ho with rfl | rfl
                · exact r2
                · exact r1
              · simp only [List.mem_cons, List.not_mem_nil, or_false] at ho
                rcases ho with rfl | rfl
                · exact r5
                · exact r4
          refine nx _ _ ⟨(kp9'.trans kp10).own (by omega) (by omega), ⟨_, _, _, _, rfl⟩, body ++ [row], by simp [List.getElem?_set, hlt], by simp [hi, b2], fun j ms hj => ?_⟩
          rcases get_snoc hj with ⟨h1, h2⟩ | ⟨h1, rfl⟩
          · exact b3 j ms h2
          · rw [h1, hi]
            exact hrow
    · rintro env S4 ⟨kp4, ⟨a3, a4, a5, a6, rfl⟩, body, b1, b2, b3⟩
      simp [rngD_len] at b2
      have hlt := (List.getElem?_eq_some_iff.mp b1).1
      have hlS := kp3'.len
      have hbl : body.length + 1 < PySem.sizeLine := by omega
      have hself : ∀ c : Cell, (S4.set S3.length c)[S3.length]? = some c := fun c => List.getElem?_set_self hlt
      simp [dfn, envOf, sq, asS, cst, gN, ifS, tsB, tsT, trD, bop, eqO, neO, eqB, ltO, leO, gtO, geO, cmpO, vr, bi, lenB, consA, nilA, seqOf, lstOf, addO, subO, mulO, fdivO, modO, powO, negU, intB, absB, max2B, min2B, sub, subO_, atD, ixD, smallI, nxS, rtS, exS, lstC, lstD, tupD, cal, foS, itR1, itS, mtL, appM, popAtM, gSub, setO, isaB, isT, notT, notV, orT, andT, andV, iteV, tupB, lstB, lstCB, lc, wipD, agS, addI, b1, hbl, vrz, hself]
      have e : D.lst (D.lst [] :: (body.map msD ++ [D.lst [D.lst [D.int sz], D.lst [D.int 0]]])) = gD ([] :: (body ++ [[[sz], [0]]])) := by
        simp [gD, msD, osD]
      rw [e]
      refine h sz _ _ sz1 ⟨body, rfl, by omega, b3⟩ ?_
      exact kp4.own (by omega) (by omega)
  by_cases hc : c = 0
  · subst hc
    simpa using main 260 (by decide) (by decide)
  · simp [hc]
    have z := main (1 + s0).toNat (by omega) (by omega)
    rw [Int.toNat_of_nonneg (by omega)] at z
    simpa using z
end K56

/-! K56H: a changed graph. -/
namespace K56
open Dn
/-- the rows of a graph, each in a cell of its own -/
def Cells (S : Sto) (b : Nat) (g : List (List (List Nat))) : Prop := ∀ i ms, g[i]? = some ms → S[b + i]? = some (.lst (ms.map osD))
def locs (b n : Nat) : List D := (List.range n).map fun i => D.loc (b + i)
theorem frz_cells {n b0 : Nat} : ∀ (g : List (List (List Nat))) (b : Nat) (S : Sto), Cells S b g → b0 ≤ b → n < b0 → PoolOk S n → ∃ S', frzL (locs b g.length) S = some (g.map msD, S') ∧ (∀ k, k < b0 → S'[k]? = S[k]?) ∧ S'.length = S.length
  | [], b, S, _, _, _, _ => ⟨S, rfl, fun _ _ => rfl, rfl⟩
  | ms :: g, b, S, hc, hb, hn, hp => by
    have h0 : S[b]? = some (.lst (ms.map osD)) := hc 0 ms rfl
    have hc' : Cells (S.set b (.frz (.lst (ms.map osD)))) (b + 1) g := fun i xs hi => by
      have := hc (i + 1) xs (by simpa using hi)
      rw [show b + 1 + i = b + (i + 1) by omega]
      exact at_set this (by omega)
    obtain ⟨S', q1, q2, q3⟩ := frz_cells g (b + 1) _ hc' (by omega) hn (hp.set (by omega))
    refine ⟨S', ?_, fun k hk => ?_, by rw [q3, List.length_set]⟩
    · have e : locs b (ms :: g).length = D.loc b :: locs (b + 1) g.length := by
        unfold locs
        rw [List.length_cons, List.range_succ_eq_map, List.map_cons, List.map_map]
        congr 1
        apply List.map_congr_left
        intro i _
        show D.loc _ = D.loc _
        congr 1
        simp only [Nat.succ_eq_add_one]
        omega
      rw [e]
      unfold frzL
      rw [h0]
      simp only [q1]
      rfl
    · rw [q2 k hk, List.getElem?_set_ne (by omega)]
def chI (e_law_pick e_law_draw : Sp) : TSt := ifS (tsT (vr 7)) (exS (mtL popAtM (sub (vr 3) (vr 6)) (consA (cal e_law_pick noX (consA (vr 0) (consA (vr 7) nilA))) nilA))) (ifS (tsT (sub (vr 3) (vr 6))) (asS (lstD (consA (vr 6) nilA)) (gSub (sub (vr 3) (vr 6)) (cal e_law_draw noX (consA (vr 0) (consA (bi lenB (consA (sub (vr 3) (vr 6)) nilA)) nilA))))) (exS (mtL appM (sub (vr 3) (vr 6)) (consA (lstD (consA (cal e_law_draw noX (consA (vr 0) (consA (bi lenB (consA (vr 1) nilA)) nilA))) nilA)) nilA))))
def chF (e_law_pick e_law_draw : Sp) : TSt := ifS (tsT (vr 5)) (sq (asS (cal e_law_pick noX (consA (vr 0) (consA (vr 5) nilA))) (gN 6)) (sq (asS (lc [10] (itR1 (bi lenB (consA (sub (vr 3) (vr 6)) nilA))) (gN 10) (tsB (bop eqO (lc [11] (itS (sub (sub (vr 3) (vr 6)) (vr 10))) (gN 11) (tsB (bop geO (sub (vr 2) (vr 11)) (cst (.int 0)))) (vr 11)) (lstD nilA))) (vr 10)) (gN 7)) (chI e_law_pick e_law_draw))) nxS
theorem ch_eq (e_law_pick e_law_draw : Sp) : b_law_changed e_law_pick e_law_draw = sq (asS (lc [8] (itS (vr 1)) (gN 8) (yesT) (bi lstCB (consA (vr 8) nilA))) (gN 3)) (sq (asS (lc [9] (itR1 (bi lenB (consA (vr 1) nilA))) (gN 9) (tsB (bop eqO (sub (vr 2) (vr 9)) (negU (cst (.int 1))))) (vr 9)) (gN 4)) (sq (asS (lc [9] (itR1 (bi lenB (consA (vr 1) nilA))) (gN 9) (yesT) (vr 9)) (gN 5)) (sq (ifS (andT (tsT (vr 4)) (tsB (bop gtO (cal e_law_draw noX (consA (vr 0) (consA (cst (.int 3)) nilA))) (cst (.int 0))))) (asS (vr 4) (gN 5)) (nxS)) (sq (chF e_law_pick e_law_draw) (rtS (vrf 3)))))) := rfl
theorem Cells.kp {n b : Nat} {S S' : Sto} {g : List (List (List Nat))} (h : Cells S b g) (k : Kp n S S') (hn : n < b) : Cells S' b g := fun i ms hi => k.at_ (h i ms hi) (by omega)
theorem Cells.set {b q : Nat} {S : Sto} {g : List (List (List Nat))} {ms : List (List Nat)} (h : Cells S b g) (hq : q < g.length) : Cells (S.set (b + q) (.lst (ms.map osD))) b (g.set q ms) := fun i xs hi => by
  by_cases e : i = q
  · subst e
    rw [List.getElem?_set_self hq] at hi
    cases hi
    obtain ⟨z, _⟩ := List.getElem?_eq_some_iff.mp (h i g[i] (List.getElem?_eq_getElem hq))
    exact List.getElem?_set_self z
  · rw [List.getElem?_set_ne (Ne.symm e)] at hi
    exact at_set (h i xs hi) (by omega)
theorem erase_map {α β : Type} (f : α → β) : ∀ (l : List α) (m : Nat), (l.map f).eraseIdx m = (l.eraseIdx m).map f
  | [], _ => rfl
  | x :: l, 0 => rfl
  | x :: l, m + 1 => by
    show f x :: (l.map f).eraseIdx m = f x :: (l.eraseIdx m).map f
    rw [erase_map f l m]
theorem set_map {α β : Type} (f : α → β) (a : α) : ∀ (l : List α) (m : Nat), (l.map f).set m (f a) = (l.set m a).map f
  | [], _ => rfl
  | x :: l, 0 => rfl
  | x :: l, m + 1 => by
    show f x :: (l.map f).set m (f a) = f x :: (l.set m a).map f
    rw [set_map f a l m]
def ChangedC (e : Sp) : Prop := ∀ {n : Nat} {g : List (List (List Nat))} {vs : List Int} {S : Sto} {R : KD} {E : KX}, PoolOk S n → GrOk g.length g → g.length ≤ 12 → vs.length = g.length →
  (∀ g' S', GrOk g'.length g' → g'.length = g.length → Kp n S S' → R (gD g') S') → e [.loc n, gD g, .lst (vs.map .int)] S R E
theorem changed_ok {e p : Sp} (hd : DrawC e) (hp : PickC p) : ChangedC (d_law_changed p e) := by
  intro n g vs S R E hpl hg hl hv h
  have hsz := PySem.sizeLine_eq
  have hn := hpl.lt
  -- the end
  have fin : ∀ (g' : List (List (List Nat))) (S1 : Sto) (a4 a5 a6 a7 a8 a9 a10 a11 : Option D), Kp n S S1 → Cells S1 S.length g' → g'.length = g.length → GrOk g'.length g' →
      rtS (vrf 3) { nx := fun x S' => R D.non S', rt := R } [some (.loc n), some (gD g), some (.lst (vs.map .int)), some (.lst (locs S.length g.length)), a4, a5, a6, a7, a8, a9, a10, a11] S1 := fun g' S1 a4 a5 a6 a7 a8 a9 a10 a11 kp hc hl' hg' => by
    obtain ⟨S2, q1, q2, q3⟩ := frz_cells g' S.length S1 hc (Nat.le_refl _) hn kp.pool
    rw [hl'] at q1
    simp [dfn, envOf, sq, asS, cst, gN, ifS, tsB, tsT, trD, bop, eqO, neO, eqB, ltO, leO, gtO, geO, cmpO, vr, bi, lenB, consA, nilA, seqOf, lstOf, addO, subO, mulO, fdivO, modO, powO, negU, intB, absB, max2B, min2B, sub, subO_, atD, ixD, smallI, nxS, rtS, exS, lstC, lstD, tupD, cal, foS, itR1, itS, mtL, appM, popAtM, gSub, setO, isaB, isT, notT, notV, orT, andT, andV, iteV, tupB, lstB, lstCB, lc, wipD, agS, addI, vrf, q1]
    refine h g' S2 hg' hl' ⟨by rw [q3]; exact kp.len, fun k hk hne => (q2 k hk).trans (kp.same k hk hne), ?_⟩
    obtain ⟨c, c1, c2⟩ := kp.pool
    exact ⟨c, (q2 n hn).trans c1, c2⟩
  have hF : ∀ (won spots : List Nat) (S1 : Sto), Kp n S S1 → Cells S1 S.length g → (∀ i ∈ spots, i < g.length) → spots.length ≤ 12 → chF p e { nx := rtS (vrf 3) { nx := fun x S' => R D.non S', rt := R }, rt := R } [some (.loc n), some (.lst (g.map msD)), some (.lst (vs.map .int)), some (.lst (locs S.length g.length)), some (.lst (won.map fun i : Nat => D.int (i : Int))), some (.lst (spots.map fun i : Nat => D.int (i : Int))), none, none, none, none, none, none] S1 := by
    intro won spots S1 kp1 hc hs hsl
    cases spots with
    | nil =>
      simp [dfn, envOf, sq, asS, cst, gN, ifS, tsB, tsT, trD, bop, eqO, neO, eqB, ltO, leO, gtO, geO, cmpO, vr, bi, lenB, consA, nilA, seqOf, lstOf, addO, subO, mulO, fdivO, modO, powO, negU, intB, absB, max2B, min2B, sub, subO_, atD, ixD, smallI, nxS, rtS, exS, lstC, lstD, tupD, cal, foS, itR1, itS, mtL, appM, popAtM, gSub, setO, isaB, isT, notT, notV, orT, andT, andV, iteV, tupB, lstB, lstCB, lc, wipD, agS, addI, chF]
      exact fin g S1 _ _ _ _ _ _ _ _ kp1 hc rfl hg
    | cons s0 sp =>
      have hI : ∀ (q : Nat) (hs : List Nat) (S2 : Sto) (a10 a11 : Option D), q < g.length → Kp n S S2 → Cells S2 S.length g → hs.length ≤ 9 → (∀ m ∈ hs, m < (g.getD q []).length) → chI p e { nx := rtS (vrf 3) { nx := fun x S' => R D.non S', rt := R }, rt := R } [some (.loc n), some (.lst (g.map msD)), some (.lst (vs.map .int)), some (.lst (locs S.length g.length)), some (.lst (won.map fun i : Nat => D.int (i : Int))), some (.lst ((s0 :: sp).map fun i : Nat => D.int (i : Int))), some (.int q), some (.lst (hs.map fun i : Nat => D.int (i : Int))), none, none, a10, a11] S2 := by
        intro q hs S2 a10 a11 hq1 kp2 hc2 hl2 hm
        have hcq := hc2 q g[q] (List.getElem?_eq_getElem hq1)
        have hrow := hg _ (List.getElem_mem hq1)
        have hgq : g.getD q [] = g[q] := by simp [hq1]
        rw [hgq] at hm
        have hlq : q < (locs S.length g.length).length := by simp [locs, hq1]
        have hG : ∀ z : q < (locs S.length g.length).length, (locs S.length g.length)[q] = .loc (S.length + q) := fun z => by simp [locs]
        have upd : ∀ (S3 : Sto) (ms : List (List Nat)) (x y : Option D), Kp n S S3 → Cells S3 S.length g → RowOk g.length ms → rtS (vrf 3) { nx := fun x S' => R D.non S', rt := R } [some (.loc n), some (gD g), some (.lst (vs.map .int)), some (.lst (locs S.length g.length)), some (.lst (won.map fun i : Nat => D.int (i : Int))), some (.lst ((s0 :: sp).map fun i : Nat => D.int (i : Int))), some (.int q), some (.lst (hs.map fun i : Nat => D.int (i : Int))), none, none, x, y] (S3.set (S.length + q) (.lst (ms.map osD))) := fun S3 ms x y kp3 hc3 hr => by
          refine fin (g.set q ms) _ _ _ _ _ _ _ _ _ (kp3.own (by omega) (by omega)) (hc3.set hq1) (by simp) ?_
          rw [List.length_set]
          intro xs hx
          rcases List.mem_or_eq_of_mem_set hx with h | h
          · exact hg xs h
          · rw [h]; exact hr
        cases hs with
        | cons h0 hs =>
          simp [dfn, envOf, sq, asS, cst, gN, ifS, tsB, tsT, trD, bop, eqO, neO, eqB, ltO, leO, gtO, geO, cmpO, vr, bi, lenB, consA, nilA, seqOf, lstOf, addO, subO, mulO, fdivO, modO, powO, negU, intB, absB, max2B, min2B, sub, subO_, atD, ixD, smallI, nxS, rtS, exS, lstC, lstD, tupD, cal, foS, itR1, itS, mtL, appM, popAtM, gSub, setO, isaB, isT, notT, notV, orT, andT, andV, iteV, tupB, lstB, lstCB, lc, wipD, agS, addI, chI, hlq, hG, hcq]
          refine hp kp2.pool (by simp) (by simp at hl2 ⊢; omega) fun md S3 hmd kp3 _ => ?_
          have hc3 := hc2.kp kp3 hn
          have hcq3 := hc3 q g[q] (List.getElem?_eq_getElem hq1)
          obtain ⟨m, m1, rfl⟩ : ∃ m : Nat, m < g[q].length ∧ md = .int m := by
            have z : md ∈ (h0 :: hs).map fun i : Nat => D.int (i : Int) := by simpa using hmd
            obtain ⟨m, q1, q2⟩ := List.mem_map.mp z
            exact ⟨m, hm m q1, q2.symm⟩
          have hr9 := hrow.1
          have hb : -9223372036854775808 ≤ (m : Int) ∧ (m : Int) < 9223372036854775808 := by omega
          simp [hcq3, m1, hb]
          rw [erase_map]
          refine upd S3 (g[q].eraseIdx m) _ _ (kp2.trans kp3) hc3 ⟨?_, fun os ho => hrow.2 os (List.mem_of_mem_eraseIdx ho)⟩
          rw [List.length_eraseIdx]
          split <;> omega
        | nil =>
          have hr9 := hrow.1
          by_cases he : g[q] = []
          · simp [dfn, envOf, sq, asS, cst, gN, ifS, tsB, tsT, trD, bop, eqO, neO, eqB, ltO, leO, gtO, geO, cmpO, vr, bi, lenB, consA, nilA, seqOf, lstOf, addO, subO, mulO, fdivO, modO, powO, negU, intB, absB, max2B, min2B, sub, subO_, atD, ixD, smallI, nxS, rtS, exS, lstC, lstD, tupD, cal, foS, itR1, itS, mtL, appM, popAtM, gSub, setO, isaB, isT, notT, notV, orT, andT, andV, iteV, tupB, lstB, lstCB, lc, wipD, agS, addI, chI, hlq, hG, hcq, he]
            rw [he] at hcq
            refine hd kp2.pool (by omega) (by omega) fun t S3 t0 t1 kp3 _ => ?_
            have hc3 := hc2.kp kp3 hn
            have hcq3 := hc3 q g[q] (List.getElem?_eq_getElem hq1)
            rw [he] at hcq3
            simp [hcq3, hsz]
            have e1 : ([D.lst [D.int t]] : List D) = List.map osD [[t.toNat]] := by
              have z : ((t.toNat : Nat) : Int) = t := by omega
              simp [osD, z]
            rw [e1]
            refine upd S3 [[t.toNat]] _ _ (kp2.trans kp3) hc3 ⟨by simp, fun os ho => ?_⟩
            simp at ho
            subst ho
            exact ⟨by simp, fun x hx => by simp at hx; omega⟩
          · have hpos : 0 < g[q].length := List.length_pos_iff.mpr he
            have hie : g[q].isEmpty = false := by
              cases h : g[q] with
              | nil => exact absurd h he
              | cons _ _ => rfl
            simp [dfn, envOf, sq, asS, cst, gN, ifS, tsB, tsT, trD, bop, eqO, neO, eqB, ltO, leO, gtO, geO, cmpO, vr, bi, lenB, consA, nilA, seqOf, lstOf, addO, subO, mulO, fdivO, modO, powO, negU, intB, absB, max2B, min2B, sub, subO_, atD, ixD, smallI, nxS, rtS, exS, lstC, lstD, tupD, cal, foS, itR1, itS, mtL, appM, popAtM, gSub, setO, isaB, isT, notT, notV, orT, andT, andV, iteV, tupB, lstB, lstCB, lc, wipD, agS, addI, chI, hlq, hG, hcq, hie]
            refine hd kp2.pool (by omega) (by omega) fun t S3 t0 t1 kp3 _ => ?_
            have hc3 := hc2.kp kp3 hn
            have hcq3 := hc3 q g[q] (List.getElem?_eq_getElem hq1)
            have t2 : t < (g[q].length : Int) := t1
            simp [hcq3, t0, t2]
            have e1 : (D.lst [D.int (q : Int)]) = osD [q] := rfl
            rw [e1, set_map]
            refine upd S3 (g[q].set t.toNat [q]) _ _ (kp2.trans kp3) hc3 ⟨by rw [List.length_set]; exact hr9, fun os ho => ?_⟩
            rcases List.mem_or_eq_of_mem_set ho with h | h
            · exact hrow.2 os h
            · subst h
              exact ⟨by simp, fun x hx => by simp at hx; omega⟩
      unfold chF
      generalize chI p e = I at hI
      simp [dfn, envOf, sq, asS, cst, gN, ifS, tsB, tsT, trD, bop, eqO, neO, eqB, ltO, leO, gtO, geO, cmpO, vr, bi, lenB, consA, nilA, seqOf, lstOf, addO, subO, mulO, fdivO, modO, powO, negU, intB, absB, max2B, min2B, sub, subO_, atD, ixD, smallI, nxS, rtS, exS, lstC, lstD, tupD, cal, foS, itR1, itS, mtL, appM, popAtM, gSub, setO, isaB, isT, notT, notV, orT, andT, andV, iteV, tupB, lstB, lstCB, lc, wipD, agS, addI]
      refine hp kp1.pool (by simp) (by simp at hsl ⊢; omega) fun qd S2 hq kp2 _ => ?_
      have kp2' := kp1.trans kp2
      have hc2 := hc.kp kp2 hn
      obtain ⟨q, hq1, rfl⟩ : ∃ q : Nat, q < g.length ∧ qd = .int q := by
        have z : qd ∈ (s0 :: sp).map fun i : Nat => D.int (i : Int) := by simpa using hq
        obtain ⟨q, q1, q2⟩ := List.mem_map.mp z
        exact ⟨q, hs q q1, q2.symm⟩
      have hcq := hc2 q g[q] (List.getElem?_eq_getElem hq1)
      have hrow := hg _ (List.getElem_mem hq1)
      have hloc : (locs S.length g.length)[q]? = some (.loc (S.length + q)) := by simp [locs, hq1]
      have hlq : q < (locs S.length g.length).length := by simp [locs, hq1]
      have hG : ∀ z : q < (locs S.length g.length).length, (locs S.length g.length)[q] = .loc (S.length + q) := fun z => by simp [locs]
      simp [hlq, hG, hcq]
      refine ⟨by have := hrow.1; omega, ?_⟩
      rw [rng0]
      refine lc_filterA (fun i : Nat => D.int (i : Int)) (fun i : Nat => D.int (i : Int)) (fun m => ((g[q].getD m []).filter fun t => decide (vs.getD t 0 ≥ 0)).isEmpty) _ [] (fun m m1 k acc hk => ?_) ?_
      · have m2 : m < g[q].length := by simpa using m1
        have hos := hrow.2 _ (List.getElem_mem m2)
        simp [dfn, envOf, sq, asS, cst, gN, ifS, tsB, tsT, trD, bop, eqO, neO, eqB, ltO, leO, gtO, geO, cmpO, vr, bi, lenB, consA, nilA, seqOf, lstOf, addO, subO, mulO, fdivO, modO, powO, negU, intB, absB, max2B, min2B, sub, subO_, atD, ixD, smallI, nxS, rtS, exS, lstC, lstD, tupD, cal, foS, itR1, itS, mtL, appM, popAtM, gSub, setO, isaB, isT, notT, notV, orT, andT, andV, iteV, tupB, lstB, lstCB, lc, wipD, agS, addI, hlq, hG, hcq, m2, osD]
        refine lc_filterA (fun i : Nat => D.int (i : Int)) (fun i : Nat => D.int (i : Int)) (fun t => decide (vs.getD t 0 ≥ 0)) _ [] (fun t t1 k acc hk => ?_) ?_
        · have t2 : t < vs.length := by rw [hv]; exact hos.2 t t1
          simp [dfn, envOf, sq, asS, cst, gN, ifS, tsB, tsT, trD, bop, eqO, neO, eqB, ltO, leO, gtO, geO, cmpO, vr, bi, lenB, consA, nilA, seqOf, lstOf, addO, subO, mulO, fdivO, modO, powO, negU, intB, absB, max2B, min2B, sub, subO_, atD, ixD, smallI, nxS, rtS, exS, lstC, lstD, tupD, cal, foS, itR1, itS, mtL, appM, popAtM, gSub, setO, isaB, isT, notT, notV, orT, andT, andV, iteV, tupB, lstB, lstCB, lc, wipD, agS, addI, t2]
          by_cases ht : 0 ≤ vs[t]
          · simpa [t2, ht] using hk
          · simpa [t2, ht] using hk
        · have em : g[q].getD m [] = g[q][m] := by simp [m2]
          rw [em] at hk
          generalize g[q][m].filter (fun t => decide (vs.getD t 0 ≥ 0)) = L at hk
          have dl : ∀ L : List Nat, D.dats 59 (L.map fun i : Nat => D.int (i : Int)) = true := fun L => by
            induction L with
            | nil => rfl
            | cons x L ih => simp [D.dats, D.dat, ih]
          simp [resD, D.dat, D.dats, D.eqv, D.eqvs, dl]
          cases L with
          | nil => simpa [D.eqvs] using hk
          | cons x L => simpa [D.eqvs] using hk
      · simp only [List.nil_append]
        refine hI q _ S2 _ _ hq1 kp2' hc2 ?_ fun m hm => ?_
        · refine Nat.le_trans (List.length_filter_le _ _) ?_
          simpa using hrow.1
        · have := (List.mem_filter.mp hm).1
          simpa [hq1] using this
  unfold d_law_changed
  rw [ch_eq]
  generalize chF p e = F at hF
  simp [dfn, envOf, sq, asS, cst, gN, ifS, tsB, tsT, trD, bop, eqO, neO, eqB, ltO, leO, gtO, geO, cmpO, vr, bi, lenB, consA, nilA, seqOf, lstOf, addO, subO, mulO, fdivO, modO, powO, negU, intB, absB, max2B, min2B, sub, subO_, atD, ixD, smallI, nxS, rtS, exS, lstC, lstD, tupD, cal, foS, itR1, itS, mtL, appM, popAtM, gSub, setO, isaB, isT, notT, notV, orT, andT, andV, iteV, tupB, lstB, lstCB, lc, wipD, agS, addI, gD]
  refine lc_inv (fun done acc S' => acc = locs S.length done.length ∧ S'.length = S.length + done.length ∧ Kp n S S' ∧ (∀ i ms, i < done.length → g[i]? = some ms → S'[S.length + i]? = some (.lst (ms.map osD)))) _ [] _ _ ?_ ?_ ?_
  · exact ⟨rfl, rfl, .refl hpl, fun i ms h => absurd h (Nat.not_lt_zero _)⟩
  · rintro d x r acc S1 k ed ⟨rfl, l1, kp1, c1⟩ hk
    have hx : g[d.length]?.map msD = some x := by
      have z : (g.map msD)[d.length]? = some x := by
        rw [show g.map msD = d ++ x :: r by simpa using ed]
        simp
      rw [← z, List.getElem?_map]
    obtain ⟨ms, e1, rfl⟩ := Option.map_eq_some_iff.mp hx
    simp [dfn, envOf, sq, asS, cst, gN, ifS, tsB, tsT, trD, bop, eqO, neO, eqB, ltO, leO, gtO, geO, cmpO, vr, bi, lenB, consA, nilA, seqOf, lstOf, addO, subO, mulO, fdivO, modO, powO, negU, intB, absB, max2B, min2B, sub, subO_, atD, ixD, smallI, nxS, rtS, exS, lstC, lstD, tupD, cal, foS, itR1, itS, mtL, appM, popAtM, gSub, setO, isaB, isT, notT, notV, orT, andT, andV, iteV, tupB, lstB, lstCB, lc, wipD, agS, addI, yesT, msD]
    refine hk _ _ ⟨?_, by simp [l1]; omega, kp1.next, fun i ms' hi h1 => ?_⟩
    · unfold locs
      rw [List.length_append, List.length_singleton, List.range_succ, List.map_append, l1]
      rfl
    · by_cases hi2 : i < d.length
      · exact at_app (c1 i ms' hi2 h1)
      · have : i = d.length := by simp at hi; omega
        subst this
        rw [e1] at h1
        cases h1
        rw [← l1]
        exact at_new
  · rintro acc S1 ⟨rfl, l1, kp1, c1⟩
    simp at l1 c1
    have hc : Cells S1 S.length g := fun i ms hi => c1 i ms (List.getElem?_eq_some_iff.mp hi).1 hi
    simp
    refine ⟨by omega, ?_⟩
    rw [rng0]
    refine lc_filterA (fun i : Nat => D.int (i : Int)) (fun i : Nat => D.int (i : Int)) (fun i => vs.getD i 0 == -1) _ [] (fun i i1 k acc hk => ?_) ?_
    · have i2 : i < vs.length := by rw [hv]; simpa using i1
      simp [dfn, envOf, sq, asS, cst, gN, ifS, tsB, tsT, trD, bop, eqO, neO, eqB, ltO, leO, gtO, geO, cmpO, vr, bi, lenB, consA, nilA, seqOf, lstOf, addO, subO, mulO, fdivO, modO, powO, negU, intB, absB, max2B, min2B, sub, subO_, atD, ixD, smallI, nxS, rtS, exS, lstC, lstD, tupD, cal, foS, itR1, itS, mtL, appM, popAtM, gSub, setO, isaB, isT, notT, notV, orT, andT, andV, iteV, tupB, lstB, lstCB, lc, wipD, agS, addI, i2]
      have hv2 : vs.getD i 0 = vs[i] := by simp [i2]
      rw [hv2] at hk
      by_cases hi3 : vs[i] = -1
      · simp [hi3] at hk ⊢
        exact hk
      · simp [hi3] at hk ⊢
        exact hk
    · simp only [List.nil_append]
      generalize hw : List.filter (fun i => vs.getD i 0 == -1) (List.range g.length) = won
      have hw1 : ∀ i ∈ won, i < g.length := fun i hi => by
        rw [← hw] at hi
        exact List.mem_range.mp (List.mem_filter.mp hi).1
      have hw2 : won.length ≤ 12 := by
        rw [← hw]
        exact Nat.le_trans (List.length_filter_le _ _) (by simpa using hl)
      refine ⟨by omega, ?_⟩
      refine lc_mapA (fun i : Nat => D.int (i : Int)) (fun i : Nat => D.int (i : Int)) _ [] (fun i i1 k hk => ?_) ?_
      · simp [dfn, envOf, sq, asS, cst, gN, ifS, tsB, tsT, trD, bop, eqO, neO, eqB, ltO, leO, gtO, geO, cmpO, vr, bi, lenB, consA, nilA, seqOf, lstOf, addO, subO, mulO, fdivO, modO, powO, negU, intB, absB, max2B, min2B, sub, subO_, atD, ixD, smallI, nxS, rtS, exS, lstC, lstD, tupD, cal, foS, itR1, itS, mtL, appM, popAtM, gSub, setO, isaB, isT, notT, notV, orT, andT, andV, iteV, tupB, lstB, lstCB, lc, wipD, agS, addI]
        exact hk
      · simp only [List.nil_append]
        have hall : ∀ i ∈ List.range g.length, i < g.length := fun i hi => List.mem_range.mp hi
        split
        · refine hd kp1.pool (by decide) (by decide) fun c S2 _ _ kp2 _ => ?_
          simp only []
          split
          · exact hF won won S2 (kp1.trans kp2) (hc.kp kp2 hn) hw1 hw2
          · exact hF won (List.range g.length) S2 (kp1.trans kp2) (hc.kp kp2 hn) hall (by simpa using hl)
        · exact hF won (List.range g.length) S1 kp1 hc hall (by simpa using hl)
end K56

/-! K56I: ranks of a graph, in plain numbers. -/
namespace K56
open Dn
abbrev Gr := List (List (List Nat))
/-- all moves have a ranked outcome -/
def rdy (h : Gr) (f : Nat → Int) (j : Nat) : Bool := (h.getD j []).all fun os => os.any fun t => decide (0 ≤ f t)
def fz (h : Gr) : Nat → Nat → Int
  | 0, j => if h.getD j [] = [] then 0 else -1
  | k + 1, j => if fz h k j = -1 ∧ rdy h (fz h k) j = true then k + 1 else fz h k j
theorem rdy_iff {h : Gr} {f : Nat → Int} {j : Nat} : rdy h f j = true ↔ ∀ os ∈ h.getD j [], ∃ t ∈ os, 0 ≤ f t := by
  unfold rdy
  simp [List.all_eq_true, List.any_eq_true]
variable {h : Gr}
theorem fz_range : ∀ (k j : Nat), fz h k j = -1 ∨ (0 ≤ fz h k j ∧ fz h k j ≤ k)
  | 0, j => by
    unfold fz
    split <;> simp
  | k + 1, j => by
    unfold fz
    split
    · right; omega
    · rcases fz_range k j with e | e
      · exact .inl e
      · right; omega
theorem fz_keep1 {k j : Nat} (e : 0 ≤ fz h k j) : fz h (k + 1) j = fz h k j := by
  conv => lhs; unfold fz
  rw [if_neg]
  rintro ⟨q, _⟩
  omega
theorem fz_keep {k j : Nat} (e : 0 ≤ fz h k j) : ∀ m, k ≤ m → fz h m j = fz h k j := by
  intro m hm
  induction hm with
  | refl => rfl
  | step _ ih => rw [fz_keep1 (by rw [ih]; exact e), ih]
/-- a rank was given at its own turn -/
theorem fz_at {k j : Nat} (e : 0 ≤ fz h k j) : ∀ m : Nat, fz h k j ≤ m → fz h m j = fz h k j := by
  induction k with
  | zero => intro m _; exact fz_keep e m (Nat.zero_le _)
  | succ k ih =>
    intro m hm
    by_cases q : 0 ≤ fz h k j
    · have q2 := fz_keep1 q
      rw [q2] at hm ⊢
      exact ih q m hm
    · have q3 : fz h k j = -1 := by rcases fz_range (h := h) k j with z | z <;> omega
      have q4 : fz h (k + 1) j = k + 1 := by
        unfold fz at e ⊢
        split
        · rfl
        · rename_i z
          rw [if_neg z] at e
          omega
      exact fz_keep e m (by omega)
theorem rdy_mono {f g : Nat → Int} {j : Nat} (e : ∀ t, 0 ≤ f t → 0 ≤ g t) (r : rdy h f j = true) : rdy h g j = true := by
  rw [rdy_iff] at r ⊢
  intro os ho
  obtain ⟨t, t1, t2⟩ := r os ho
  exact ⟨t, t1, e t t2⟩
/-- the step in which j is ranked r + 1: ready with ranks up to r, not earlier -/
theorem fz_rank {k j r : Nat} (e : fz h k j = (r + 1 : Nat)) : rdy h (fz h r) j = true ∧ fz h r j = -1 := by
  have e1 := fz_at (h := h) (k := k) (j := j) (by omega) (r + 1) (by omega)
  rw [e] at e1
  have e0 : fz h r j = -1 := by
    rcases fz_range (h := h) r j with z | z
    · exact z
    · have := fz_keep1 z.1
      omega
  unfold fz at e1
  split at e1
  · rename_i q
    exact ⟨q.2, e0⟩
  · omega
theorem fz_zero {k j : Nat} (e : h.getD j [] = []) : fz h k j = 0 := by
  have z : fz h 0 j = 0 := by unfold fz; rw [if_pos e]
  rw [fz_keep (by omega) k (Nat.zero_le _), z]
/-- ready before r + 1: ranked by then -/
theorem rdy_ranked {j r : Nat} (q : rdy h (fz h r) j = true) : 0 ≤ fz h (r + 1) j := by
  unfold fz
  split
  · omega
  · rename_i z
    rcases fz_range (h := h) r j with y | y
    · exact absurd ⟨y, q⟩ z
    · exact y.1

theorem fz_succ (k j : Nat) : fz h (k + 1) j = if fz h k j = -1 ∧ rdy h (fz h k) j = true then ((k : Int) + 1) else fz h k j := by
  conv => lhs; unfold fz
/-! ### an end -/
def Stable (h : Gr) (k : Nat) : Prop := ∀ j, fz h (k + 1) j = fz h k j
theorem stable_on {k : Nat} (s : Stable h k) : ∀ m, k ≤ m → ∀ j, fz h m j = fz h k j := by
  intro m hm
  induction hm with
  | refl => intro j; rfl
  | @step m _ ih =>
    intro j
    have e : fz h m = fz h k := funext ih
    have z := s j
    rw [fz_succ] at z ⊢
    rw [e]
    by_cases q : fz h k j = -1 ∧ rdy h (fz h k) j = true
    · rw [if_pos q] at z
      omega
    · rw [if_neg q]
def cnt (h : Gr) (k : Nat) : Nat := (List.range h.length).countP fun j => fz h k j == -1
theorem countP_lt {α : Type} {p q : α → Bool} : ∀ {l : List α}, (∀ x ∈ l, q x = true → p x = true) → (∃ x ∈ l, p x = true ∧ q x = false) → l.countP q + 1 ≤ l.countP p
  | [], _, ⟨x, hx, _⟩ => by simp at hx
  | y :: l, hpq, ⟨x, hx, h1, h2⟩ => by
    have mono : l.countP q ≤ l.countP p := List.countP_mono_left fun z hz => hpq z (List.mem_cons_of_mem _ hz)
    rw [List.countP_cons, List.countP_cons]
    rcases List.mem_cons.mp hx with rfl | hx
    · simp [h1, h2]
      exact mono
    · have ih := countP_lt (p := p) (q := q) (fun z hz => hpq z (List.mem_cons_of_mem _ hz)) ⟨x, hx, h1, h2⟩
      by_cases hq : q y = true
      · simp [hq, hpq y List.mem_cons_self hq]
        exact ih
      · simp [hq]
        omega
theorem cnt_step {k j : Nat} (hj : j < h.length) (e : fz h (k + 1) j ≠ fz h k j) : cnt h (k + 1) + 1 ≤ cnt h k := by
  refine countP_lt (fun i _ q => ?_) ⟨j, List.mem_range.mpr hj, ?_, ?_⟩
  · simp only [beq_iff_eq] at q ⊢
    rcases fz_range (h := h) k i with z | z
    · exact z
    · have := fz_keep1 z.1
      omega
  · simp only [beq_iff_eq]
    rcases fz_range (h := h) k j with z | z
    · exact z
    · exact absurd (fz_keep1 z.1) e
  · simp only [beq_eq_false_iff_ne]
    intro q
    rcases fz_range (h := h) k j with z | z
    · exact e (q.trans z.symm)
    · exact e (fz_keep1 z.1)
theorem fz_out {k j : Nat} (hj : h.length ≤ j) : fz h k j = 0 := fz_zero (by simp [List.getD, List.getElem?_eq_none hj])
theorem not_stable {k : Nat} (s : ¬ Stable h k) : ∃ j, j < h.length ∧ fz h (k + 1) j ≠ fz h k j := by
  refine Classical.byContradiction fun z => s fun j => ?_
  by_cases hj : j < h.length
  · exact Classical.byContradiction fun e => z ⟨j, hj, e⟩
  · rw [fz_out (by omega), fz_out (by omega)]
theorem cnt_down : ∀ k : Nat, (∃ K, K < k ∧ Stable h K) ∨ cnt h k + k ≤ cnt h 0
  | 0 => .inr (by omega)
  | k + 1 => by
    rcases cnt_down k with ⟨K, k1, k2⟩ | e
    · exact .inl ⟨K, by omega, k2⟩
    · by_cases s : Stable h k
      · exact .inl ⟨k, by omega, s⟩
      · obtain ⟨j, j1, j2⟩ := not_stable s
        have := cnt_step j1 j2
        exact .inr (by omega)
theorem stable_ex (hg : GrOk h.length h) (hn : 0 < h.length) : ∃ K, K < h.length ∧ Stable h K := by
  rcases cnt_down (h := h) (h.length - 1) with ⟨K, k1, k2⟩ | e
  · exact ⟨K, by omega, k2⟩
  · by_cases s0 : Stable h 0
    · exact ⟨0, hn, s0⟩
    · -- some row has no moves
      have c0 : cnt h 0 + 1 ≤ h.length := by
        obtain ⟨j, j1, j2⟩ := not_stable s0
        have r : rdy h (fz h 0) j = true ∧ fz h 0 j = -1 := by
          rw [fz_succ] at j2
          by_cases q : fz h 0 j = -1 ∧ rdy h (fz h 0) j = true
          · exact ⟨q.2, q.1⟩
          · rw [if_neg q] at j2
            exact absurd rfl j2
        have ne : h.getD j [] ≠ [] := fun z => by
          have := fz_zero (k := 0) z
          omega
        obtain ⟨os, l, el⟩ := List.exists_cons_of_ne_nil ne
        obtain ⟨t, t1, t2⟩ := rdy_iff.mp r.1 os (by rw [el]; simp)
        have hrow : h.getD j [] ∈ h := by simp [j1]
        have ht : t < h.length := ((hg _ hrow).2 os (by rw [el]; simp)).2 t t1
        have : (List.range h.length).countP (fun j => fz h 0 j == -1) + 1 ≤ (List.range h.length).countP (fun _ => true) := countP_lt (fun _ _ _ => rfl) ⟨t, List.mem_range.mpr ht, rfl, by simp; omega⟩
        simpa [cnt] using this
      have c1 : cnt h (h.length - 1) = 0 := by omega
      refine ⟨h.length - 1, by omega, fun j => ?_⟩
      by_cases hj : j < h.length
      · have z : ¬ fz h (h.length - 1) j = -1 := fun z => by
          have : 0 < cnt h (h.length - 1) := List.countP_pos_iff.mpr ⟨j, List.mem_range.mpr hj, by simp [z]⟩
          omega
        rcases fz_range (h := h) (h.length - 1) j with y | y
        · exact absurd y z
        · exact fz_keep1 y.1
      · rw [fz_out (by omega), fz_out (by omega)]
theorem fz_lt (hg : GrOk h.length h) {k j : Nat} (hj : j < h.length) : fz h k j < h.length := by
  obtain ⟨K, k1, k2⟩ := stable_ex hg (by omega)
  have z : fz h K j < h.length := by
    rcases fz_range (h := h) K j with y | y <;> omega
  by_cases q : k ≤ K
  · rcases fz_range (h := h) k j with y | y
    · omega
    · rw [← fz_keep y.1 K q]
      exact z
  · rw [stable_on k2 k (by omega) j]
    exact z
theorem stable_end (hg : GrOk h.length h) {k j : Nat} (s : Stable h k) (hj : j < h.length) : fz h k j = fz h h.length j := by
  obtain ⟨K, k1, k2⟩ := stable_ex hg (by omega)
  rw [stable_on k2 h.length (by omega) j]
  by_cases q : k ≤ K
  · rw [stable_on s K q j]
  · rw [stable_on k2 k (by omega) j]
/-! ### the law's own values -/
theorem minI_le : ∀ (r : List Int) (m : Int), minI r m ≤ m ∧ ∀ x ∈ r, minI r m ≤ x
  | [], m => ⟨Int.le_refl _, fun x h => by simp at h⟩
  | y :: r, m => by
    show minI r (if y < m then y else m) ≤ m ∧ ∀ x ∈ y :: r, minI r (if y < m then y else m) ≤ x
    have hc : (if y < m then y else m) ≤ m ∧ (if y < m then y else m) ≤ y := by split <;> omega
    generalize (if y < m then y else m) = c at hc
    obtain ⟨h1, h2⟩ := minI_le r c
    refine ⟨by omega, fun x hx => ?_⟩
    rcases List.mem_cons.mp hx with rfl | hx
    · omega
    · exact h2 x hx
theorem minI_mem2 : ∀ (r : List Int) (m : Int), minI r m = m ∨ minI r m ∈ r
  | [], m => .inl rfl
  | y :: r, m => by
    show minI r (if y < m then y else m) = m ∨ minI r (if y < m then y else m) ∈ y :: r
    rcases minI_mem2 r (if y < m then y else m) with e | e
    · rw [e]
      split
      · right; simp
      · left; rfl
    · right
      exact List.mem_cons_of_mem _ e
/-- the least worth: far, or an outcome's -/
theorem least_le (far : Int) (w : List Int) (os : List Nat) : leastZ far w os ≤ far ∧ ∀ t ∈ os, leastZ far w os ≤ w.getD t 0 := by
  unfold leastZ
  cases e : os.map (fun t => w.getD t 0) ++ [far] with
  | nil => simp at e
  | cons x r =>
    obtain ⟨h1, h2⟩ := minI_le r x
    have all : ∀ y ∈ x :: r, minI r x ≤ y := fun y hy => by
      rcases List.mem_cons.mp hy with rfl | hy
      · exact h1
      · exact h2 y hy
    rw [← e] at all
    exact ⟨all far (by simp), fun t ht => all _ (List.mem_append_left _ (List.mem_map.mpr ⟨t, ht, rfl⟩))⟩
theorem least_at (far : Int) (w : List Int) (os : List Nat) : leastZ far w os = far ∨ ∃ t ∈ os, leastZ far w os = w.getD t 0 := by
  unfold leastZ
  cases e : os.map (fun t => w.getD t 0) ++ [far] with
  | nil => simp at e
  | cons x r =>
    have z : minI r x ∈ x :: r := by
      rcases minI_mem2 r x with q | q
      · rw [q]; simp
      · exact List.mem_cons_of_mem _ q
    rw [← e] at z
    rcases List.mem_append.mp z with z | z
    · obtain ⟨t, t1, t2⟩ := List.mem_map.mp z
      exact .inr ⟨t, t1, t2.symm⟩
    · simp at z
      exact .inl z
theorem most_ge (far : Int) (w : List Int) : ∀ (ms : List (List Nat)) (m : Int), m ≤ mostZ far w m ms ∧ ∀ os ∈ ms, leastZ far w os ≤ mostZ far w m ms
  | [], m => ⟨Int.le_refl _, fun x h => by simp at h⟩
  | os :: ms, m => by
    have q : mostZ far w m (os :: ms) = mostZ far w (if leastZ far w os > m then leastZ far w os else m) ms := rfl
    rw [q]
    have hc : m ≤ (if leastZ far w os > m then leastZ far w os else m) ∧ leastZ far w os ≤ (if leastZ far w os > m then leastZ far w os else m) := by split <;> omega
    generalize (if leastZ far w os > m then leastZ far w os else m) = c at hc
    obtain ⟨h1, h2⟩ := most_ge far w ms c
    refine ⟨by omega, fun x hx => ?_⟩
    rcases List.mem_cons.mp hx with rfl | hx
    · omega
    · exact h2 x hx
theorem most_at (far : Int) (w : List Int) : ∀ (ms : List (List Nat)) (m : Int), mostZ far w m ms = m ∨ ∃ os ∈ ms, mostZ far w m ms = leastZ far w os
  | [], m => .inl rfl
  | os :: ms, m => by
    have q : mostZ far w m (os :: ms) = mostZ far w (if leastZ far w os > m then leastZ far w os else m) ms := rfl
    rw [q]
    rcases most_at far w ms (if leastZ far w os > m then leastZ far w os else m) with e | ⟨x, x1, x2⟩
    · rw [e]
      split
      · exact .inr ⟨os, by simp, rfl⟩
      · exact .inl rfl
    · exact .inr ⟨x, List.mem_cons_of_mem _ x1, x2⟩
def wz (h : Gr) (k j : Nat) : Int := if fz h k j = -1 then (h.length : Int) else fz h k j
theorem wz_step (hg : GrOk h.length h) {k j : Nat} (hj : j < h.length) (hk : k + 1 ≤ h.length) (w : List Int) (hw : ∀ t, t < h.length → w.getD t 0 = wz h k t) : worthZ h.length w (h.getD j []) = wz h (k + 1) j := by
  have hrow : h.getD j [] ∈ h := by simp [hj]
  have hro := (hg _ hrow).2
  have wr : ∀ os ∈ h.getD j [], ∀ t ∈ os, w.getD t 0 = wz h k t := fun os ho t ht => hw t ((hro os ho).2 t ht)
  have wzr : ∀ t, wz h k t = h.length ∨ (0 ≤ wz h k t ∧ wz h k t ≤ k ∧ fz h k t = wz h k t) := fun t => by
    unfold wz
    rcases fz_range (h := h) k t with y | y
    · rw [if_pos y]; exact .inl rfl
    · rw [if_neg (by omega)]
      exact .inr ⟨y.1, y.2, rfl⟩
  have goal : ∀ M : Int, mostZ h.length w (-1) (h.getD j []) = M → wz h (k + 1) j = (if M + 1 < h.length then M + 1 else h.length) := by
    intro M eM
    by_cases he : h.getD j [] = []
    · rw [he] at eM
      have eM : (-1 : Int) = M := eM
      unfold wz
      rw [fz_zero he, if_neg (by decide), if_pos (by omega)]
      omega
    · obtain ⟨os0, l0, el0⟩ := List.exists_cons_of_ne_nil he
      have up := (most_ge h.length w (h.getD j []) (-1)).2
      have least0 : ∀ os ∈ h.getD j [], 0 ≤ leastZ h.length w os := fun os ho => by
        rcases least_at h.length w os with e | ⟨t, t1, t2⟩
        · omega
        · rw [t2, wr os ho t t1]
          rcases wzr t with y | y <;> omega
      have M0 : 0 ≤ M := by
        have a := up os0 (by rw [el0]; simp)
        have b := least0 os0 (by rw [el0]; simp)
        omega
      have hM : ∃ os ∈ h.getD j [], M = leastZ h.length w os := by
        rcases most_at h.length w (h.getD j []) (-1) with e | ⟨os, o1, o2⟩
        · omega
        · exact ⟨os, o1, by omega⟩
      by_cases hr : rdy h (fz h k) j = true
      · -- each move has a ranked outcome
        have lk : ∀ os ∈ h.getD j [], leastZ h.length w os ≤ k := fun os ho => by
          obtain ⟨t, t1, t2⟩ := rdy_iff.mp hr os ho
          have a := (least_le h.length w os).2 t t1
          rw [wr os ho t t1] at a
          rcases wzr t with y | y
          · unfold wz at y
            rw [if_neg (by omega)] at y
            rcases fz_range (h := h) k t with z | z <;> omega
          · omega
        have Mk : M ≤ k := by
          obtain ⟨os, o1, o2⟩ := hM
          have := lk os o1
          omega
        -- ready with ranks up to M
        obtain ⟨m, em⟩ : ∃ m : Nat, M = m := ⟨M.toNat, by omega⟩
        have rM : rdy h (fz h m) j = true := by
          rw [rdy_iff]
          intro os ho
          have a := up os ho
          rcases least_at h.length w os with e | ⟨t, t1, t2⟩
          · have := lk os ho; omega
          · rw [wr os ho t t1] at t2
            have b := lk os ho
            rcases wzr t with y | y
            · omega
            · refine ⟨t, t1, ?_⟩
              rw [fz_at (h := h) (k := k) (j := t) (by omega) m (by omega)]
              omega
        -- and not earlier
        have nM : ∀ r : Nat, r < m → ¬ rdy h (fz h r) j = true := fun r hrm q => by
          obtain ⟨os, o1, o2⟩ := hM
          obtain ⟨t, t1, t2⟩ := rdy_iff.mp q os o1
          have a := (least_le h.length w os).2 t t1
          rw [wr os o1 t t1] at a
          have b := fz_keep t2 k (by omega)
          rcases fz_range (h := h) r t with z | z
          · omega
          · unfold wz at a
            rw [if_neg (by omega)] at a
            omega
        have f0 : ∀ r : Nat, r ≤ m → fz h r j = -1 := fun r => by
          induction r with
          | zero =>
            intro _
            unfold fz
            rw [if_neg he]
          | succ r ih =>
            intro q
            rw [fz_succ, if_neg (fun z => nM r (by omega) z.2)]
            exact ih (by omega)
        have f1 : fz h (m + 1) j = m + 1 := by
          rw [fz_succ, if_pos ⟨f0 m (Nat.le_refl _), rM⟩]
        have f2 : fz h (k + 1) j = m + 1 := by
          rw [fz_keep (k := m + 1) (by omega) (k + 1) (by omega), f1]
        unfold wz
        rw [f2, if_neg (by omega)]
        split <;> omega
      · -- a move without one
        have M1 : M = h.length := by
          rw [rdy_iff] at hr
          have ⟨os, hr2⟩ := Classical.not_forall.mp hr
          have ⟨o1, o2⟩ := Classical.not_imp.mp hr2
          have a := up os o1
          have e : leastZ h.length w os = h.length := by
            rcases least_at h.length w os with e | ⟨t, t1, t2⟩
            · exact e
            · rw [t2, wr os o1 t t1]
              rcases wzr t with y | y
              · exact y
              · exact absurd ⟨t, t1, by omega⟩ o2
          obtain ⟨os', p1, p2⟩ := hM
          have b := (least_le h.length w os').1
          omega
        have f0 : fz h (k + 1) j = -1 := by
          rcases fz_range (h := h) (k + 1) j with y | y
          · exact y
          · exfalso
            apply hr
            obtain ⟨r, er⟩ : ∃ r : Nat, fz h (k + 1) j = r := ⟨(fz h (k + 1) j).toNat, by omega⟩
            cases r with
            | zero =>
              have := fz_at (h := h) (k := k + 1) (j := j) (by omega) 0 (by omega)
              rw [er] at this
              unfold fz at this
              rw [if_neg he] at this
              omega
            | succ r =>
              have q := fz_rank er
              exact rdy_mono (fun t ht => by rw [fz_keep ht k (by omega)]; exact ht) q.1
        unfold wz
        rw [f0, if_pos rfl, M1, if_neg (by omega)]
  rw [goal _ rfl]
  rfl
theorem it_wz (hg : GrOk h.length h) : ∀ (m k : Nat) (w : List Int), k + m = h.length → w = (List.range h.length).map (wz h k) → itZ h.length h m w = (List.range h.length).map (wz h h.length)
  | 0, k, w, e, hw => by
    have : k = h.length := by omega
    rw [hw, this]
    rfl
  | m + 1, k, w, e, hw => by
    show itZ h.length h m (h.map (worthZ h.length w)) = _
    refine it_wz hg m (k + 1) _ (by omega) ?_
    apply List.ext_getElem
    · simp
    · intro j j1 j2
      have hj : j < h.length := by simpa using j1
      rw [List.getElem_map, List.getElem_map, List.getElem_range]
      have z := wz_step hg (k := k) hj (by omega) w (fun t ht => by rw [hw]; simp [ht])
      have e1 : h.getD j [] = h[j] := by simp [hj]
      rw [e1] at z
      exact z
theorem values_fz (hg : GrOk h.length h) : valuesZ h = (List.range h.length).map (fz h h.length) := by
  unfold valuesZ
  rw [it_wz hg h.length 0 _ (by omega)]
  · rw [List.map_map]
    apply List.map_congr_left
    intro j hj
    have hj := List.mem_range.mp hj
    have l := fz_lt hg (k := h.length) hj
    show (if wz h h.length j < (h.length : Int) then wz h h.length j else -1) = _
    unfold wz
    by_cases q : fz h h.length j = -1
    · rw [if_pos q, if_neg (by omega), q]
    · rw [if_neg q, if_pos l]
  · apply List.ext_getElem
    · simp [w0Z]
    · intro j j1 j2
      have hj : j < h.length := by simpa [w0Z] using j1
      have e1 : h.getD j [] = h[j] := by simp [hj]
      simp only [w0Z, List.getElem_map, List.getElem_range]
      unfold wz fz
      rw [e1]
      by_cases q : h[j] = []
      · simp [q]
      · simp [q]
end K56

/-! K56J: which rows are ready; permuted graphs; the chain's ranks. -/
namespace K56
open Dn
theorem fz_perm {g h : Gr} {n : Nat} {ps : List Nat} {pos : Nat → Nat} (hg : GrOk n g) (hl : g.length = n) (hp : ∀ p ∈ ps, p < n) (hps : ps.length = n) (hpos : ∀ t, t < n → pos t < n ∧ ps.getD (pos t) 0 = t) (hh : h = ps.map fun p => (g.getD p []).map fun os => os.map pos) :
    ∀ k j, j < n → fz h k j = fz g k (ps.getD j 0) := by
  have row : ∀ j, j < n → h.getD j [] = (g.getD (ps.getD j 0) []).map fun os => os.map pos := fun j hj => by
    have : j < ps.length := by omega
    rw [hh]
    simp [this]
  intro k
  induction k with
  | zero =>
    intro j hj
    unfold fz
    rw [row j hj]
    by_cases q : g.getD (ps.getD j 0) [] = []
    · rw [q]; rfl
    · rw [if_neg q, if_neg (by simpa using q)]
  | succ k ih =>
    intro j hj
    have hpj : ps.getD j 0 < n := by
      have : j < ps.length := by omega
      have e : ps.getD j 0 = ps[j] := by simp [this]
      rw [e]
      exact hp _ (List.getElem_mem this)
    have hrow : g.getD (ps.getD j 0) [] ∈ g := by
      rw [← hl] at hpj
      have e : g.getD (ps.getD j 0) [] = g[ps.getD j 0] := by
        rw [List.getD_eq_getElem?_getD, List.getElem?_eq_getElem hpj]
        rfl
      rw [e]
      exact List.getElem_mem hpj
    have r : rdy h (fz h k) j = true ↔ rdy g (fz g k) (ps.getD j 0) = true := by
      rw [rdy_iff, rdy_iff, row j hj]
      constructor
      · intro q os ho
        obtain ⟨t, t1, t2⟩ := q (os.map pos) (List.mem_map.mpr ⟨os, ho, rfl⟩)
        obtain ⟨s, s1, rfl⟩ := List.mem_map.mp t1
        have hs := ((hg _ hrow).2 os ho).2 s s1
        have z := hpos s hs
        rw [ih _ z.1, z.2] at t2
        exact ⟨s, s1, t2⟩
      · intro q os' ho
        obtain ⟨os, o1, rfl⟩ := List.mem_map.mp ho
        obtain ⟨s, s1, s2⟩ := q os o1
        have hs := ((hg _ hrow).2 os o1).2 s s1
        have z := hpos s hs
        refine ⟨pos s, List.mem_map.mpr ⟨s, s1, rfl⟩, ?_⟩
        rw [ih _ z.1, z.2]
        exact s2
    rw [fz_succ, fz_succ, ih j hj]
    by_cases q : fz g k (ps.getD j 0) = -1 ∧ rdy g (fz g k) (ps.getD j 0) = true
    · rw [if_pos q, if_pos ⟨q.1, r.mpr q.2⟩]
    · rw [if_neg q, if_neg fun z => q ⟨z.1, r.mp z.2⟩]
theorem chain_at {sz : Nat} {g : Gr} (c : ChOk sz g) : g.length = sz + 1 ∧ g.getD 0 [] = [] ∧ (∀ i, i + 1 < sz → ChRow sz i (g.getD (i + 1) [])) ∧ g.getD sz [] = [[sz], [0]] := by
  obtain ⟨body, rfl, b1, b2⟩ := c
  refine ⟨by simp; omega, rfl, fun i hi => ?_, ?_⟩
  · have hb : i < body.length := by omega
    have e : ([] :: (body ++ [[[sz], [0]]]) : Gr).getD (i + 1) [] = body[i] := by
      show ((body ++ [[[sz], [0]]])[i]?).getD [] = body[i]
      rw [List.getElem?_append_left hb, List.getElem?_eq_getElem hb]
      rfl
    rw [e]
    exact b2 i _ (List.getElem?_eq_getElem hb)
  · subst b1
    simp
theorem chain_gr {sz : Nat} {g : Gr} (c : ChOk sz g) : GrOk g.length g := by
  obtain ⟨l, _⟩ := chain_at c
  rw [l]
  obtain ⟨body, rfl, b1, b2⟩ := c
  intro ms hms
  rcases List.mem_cons.mp hms with rfl | hms
  · exact ⟨by simp, fun os h => by simp at h⟩
  · rcases List.mem_append.mp hms with hms | hms
    · obtain ⟨i, hi, rfl⟩ := List.getElem_of_mem hms
      exact (b2 i _ (List.getElem?_eq_getElem hi)).2.1
    · simp at hms
      subst hms
      refine ⟨by simp, fun os h => ?_⟩
      simp at h
      rcases h with rfl | rfl
      · exact ⟨by simp, fun t ht => by simp at ht; omega⟩
      · exact ⟨by simp, fun t ht => by simp at ht; omega⟩
theorem chain_fz {sz : Nat} {g : Gr} (c : ChOk sz g) (h1 : 1 ≤ sz) : ∀ k i, i ≤ sz → fz g k i = if i ≤ k ∧ i < sz then (i : Int) else -1 := by
  obtain ⟨l, c0, c1, c2⟩ := chain_at c
  intro k
  induction k with
  | zero =>
    intro i hi
    unfold fz
    cases i with
    | zero => rw [c0, if_pos rfl, if_pos ⟨Nat.le_refl _, by omega⟩]; rfl
    | succ i =>
      rw [if_neg (c := i + 1 ≤ 0 ∧ i + 1 < sz) (by omega)]
      by_cases q : i + 1 < sz
      · rw [if_neg (c1 i q).1]
      · have e : i + 1 = sz := by omega
        rw [e, c2, if_neg (by simp)]
  | succ k ih =>
    intro i hi
    rw [fz_succ, ih i hi]
    cases i with
    | zero => simp; omega
    | succ i =>
      by_cases q : i + 1 < sz
      · have row := c1 i q
        have rd : rdy g (fz g k) (i + 1) = true ↔ i ≤ k := by
          rw [rdy_iff]
          constructor
          · intro z
            obtain ⟨os, o1, o2⟩ := row.2.2.1
            obtain ⟨t, t1, t2⟩ := z os o1
            have ht := (row.2.1.2 os o1).2 t t1
            have hit := o2 t t1
            rw [ih t (by omega)] at t2
            split at t2
            · omega
            · omega
          · intro z os ho
            obtain ⟨t, t1, t2⟩ := row.2.2.2 os ho
            refine ⟨t, t1, ?_⟩
            rw [ih t (by omega), if_pos ⟨by omega, by omega⟩]
            omega
        by_cases q1 : i + 1 ≤ k
        · rw [if_pos (c := i + 1 ≤ k ∧ i + 1 < sz) ⟨q1, q⟩, if_neg (fun z => by have := z.1; omega), if_pos ⟨by omega, q⟩]
        · rw [if_neg (c := i + 1 ≤ k ∧ i + 1 < sz) (by omega)]
          by_cases q2 : i ≤ k
          · rw [if_pos ⟨rfl, rd.mpr q2⟩, if_pos ⟨by omega, q⟩]
            have : i = k := by omega
            omega
          · rw [if_neg (fun z => q2 (rd.mp z.2)), if_neg (by omega)]
      · have e : i + 1 = sz := by omega
        rw [e]
        rw [if_neg (c := sz ≤ k ∧ sz < sz) (by omega), if_neg (c := sz ≤ k + 1 ∧ sz < sz) (by omega)]
        rw [if_neg]
        rintro ⟨_, z⟩
        rw [rdy_iff, c2] at z
        obtain ⟨t, t1, t2⟩ := z [sz] (by simp)
        simp at t1
        subst t1
        rw [ih t (Nat.le_refl _), if_neg (by omega)] at t2
        omega

/-! ### ready_rows -/
def Kx (S S' : Sto) : Prop := S.length ≤ S'.length ∧ ∀ k, k < S.length → S'[k]? = S[k]?
theorem Kx.refl (S : Sto) : Kx S S := ⟨Nat.le_refl _, fun _ _ => rfl⟩
theorem Kx.trans {S S1 S2 : Sto} (h : Kx S S1) (g : Kx S1 S2) : Kx S S2 := ⟨Nat.le_trans h.1 g.1, fun k hk => (g.2 k (Nat.lt_of_lt_of_le hk h.1)).trans (h.2 k hk)⟩
theorem Kx.app {S S1 : Sto} {c : Cell} (h : Kx S S1) : Kx S (S1 ++ [c]) := h.trans ⟨by simp, fun k hk => List.getElem?_append_left hk⟩
theorem Kx.own {S S1 : Sto} {c : Cell} {k : Nat} (h : Kx S S1) (hk : S.length ≤ k) : Kx S (S1.set k c) := ⟨by rw [List.length_set]; exact h.1, fun j hj => by rw [List.getElem?_set_ne (by omega)]; exact h.2 j hj⟩
theorem Kx.at_ {S S' : Sto} {k : Nat} {c : Cell} (h : Kx S S') (hk : S[k]? = some c) : S'[k]? = some c := (h.2 k (List.getElem?_eq_some_iff.mp hk).1).trans hk
theorem enum_at {ds d r : List D} {x : D} (h : enumD 0 ds = d ++ x :: r) : ∃ hd : d.length < ds.length, x = .tup [.int (d.length : Nat), ds[d.length]] := by
  have l := congrArg List.length h
  simp [enumD_len] at l
  have hl : d.length < ds.length := by omega
  refine ⟨hl, ?_⟩
  have e1 : (enumD 0 ds)[d.length]? = some x := by rw [h]; simp
  rw [enumD_get ds 0 _ _ (List.getElem?_eq_getElem hl)] at e1
  rw [← Option.some.inj e1]
  simp
theorem maxI_ge : ∀ (r : List Int) (m : Int), (0 ≤ maxI r m) ↔ (0 ≤ m ∨ ∃ x ∈ r, 0 ≤ x)
  | [], m => by simp [maxI]
  | y :: r, m => by
    show 0 ≤ maxI r (if m < y then y else m) ↔ _
    rw [maxI_ge r]
    simp only [List.mem_cons, exists_eq_or_imp]
    constructor
    · rintro (q | q)
      · split at q
        · exact .inr (.inl q)
        · exact .inl q
      · exact .inr (.inr q)
    · rintro (q | q | q)
      · left; split <;> omega
      · left; split <;> omega
      · exact .inr q
theorem minI_ge (r : List Int) (m : Int) : (0 ≤ minI r m) ↔ (0 ≤ m ∧ ∀ x ∈ r, 0 ≤ x) := by
  have h := minI_le r m
  constructor
  · intro q
    exact ⟨by omega, fun x hx => by have := h.2 x hx; omega⟩
  · rintro ⟨q1, q2⟩
    rcases minI_mem2 r m with e | e
    · omega
    · exact q2 _ e
def gmax (found : List Int) (os : List Nat) : Int := match os.map (fun t => found.getD t 0) with
  | [] => -1
  | i :: r => maxI r i
theorem gmax_ge (found : List Int) (os : List Nat) : 0 ≤ gmax found os ↔ ∃ t ∈ os, 0 ≤ found.getD t 0 := by
  unfold gmax
  cases os with
  | nil => simp
  | cons t os =>
    show 0 ≤ maxI (os.map fun t => found.getD t 0) (found.getD t 0) ↔ _
    rw [maxI_ge]
    simp only [List.mem_map, List.mem_cons, exists_eq_or_imp]
    constructor
    · rintro (q | ⟨x, ⟨s, s1, rfl⟩, q⟩)
      · exact .inl q
      · exact .inr ⟨s, s1, q⟩
    · rintro (q | ⟨s, s1, q⟩)
      · exact .inl q
      · exact .inr ⟨_, ⟨s, s1, rfl⟩, q⟩
def rd (h : Gr) (found : List Int) (j : Nat) : Bool := found.getD j 0 == -1 && rdy h (fun t => found.getD t 0) j
def ReadyC (e : Sp) : Prop := ∀ {h : Gr} {found : List Int} {F : Nat} {S : Sto} {R : KD} {E : KX}, GrOk h.length h → h.length ≤ 1000 → found.length = h.length → S[F]? = some (.lst (found.map .int)) → (∀ j, j < h.length → found.getD j 0 = -1 → h.getD j [] ≠ []) →
  (∀ S', Kx S S' → R (.lst (((List.range h.length).filter (rd h found)).map fun j : Nat => D.int (j : Int))) S') → e [gD h, .loc F] S R E
theorem ready_ok : ReadyC p_ready_rows := by
  intro h found F S R E hg hl hf hF hne hR
  have hsz := PySem.sizeLine_eq
  have hFl := (List.getElem?_eq_some_iff.mp hF).1
  simp [dfn, envOf, sq, asS, cst, gN, ifS, tsB, tsT, trD, bop, eqO, neO, eqB, ltO, leO, gtO, geO, cmpO, vr, bi, lenB, consA, nilA, seqOf, lstOf, addO, subO, mulO, fdivO, modO, powO, negU, intB, absB, max2B, min2B, sub, subO_, atD, ixD, smallI, nxS, rtS, exS, lstC, lstD, tupD, cal, foS, itR1, itS, mtL, appM, popAtM, gSub, setO, isaB, isT, notT, notV, orT, andT, andV, iteV, tupB, lstB, lstCB, lc, wipD, agS, addI, d_ready_rows, b_ready_rows, gD, itEnL]
  refine for_inv (fun done env S' => Kx S S' ∧ (∃ a3 a4 a5 a6 a7, env = [some (.lst (h.map msD)), some (.loc F), some (.loc S.length), a3, a4, a5, a6, a7]) ∧ S'[S.length]? = some (.lst (((List.range done.length).filter (rd h found)).map fun j : Nat => D.int (j : Int)))) _ [] _ _ ?_ ?_ ?_
  · exact ⟨(Kx.refl S).app, ⟨_, _, _, _, _, rfl⟩, by simp⟩
  · rintro d x r env S1 Z' ed ⟨kx, ⟨a3, a4, a5, a6, a7, rfl⟩, m1⟩ nx _ _
    obtain ⟨hd, rfl⟩ := enum_at (by simpa using ed)
    have hj : d.length < h.length := by simpa using hd
    have hF1 := kx.at_ hF
    have hrow : RowOk h.length h[d.length] := hg _ (List.getElem_mem hj)
    have hfj : d.length < found.length := by omega
    have hlt := (List.getElem?_eq_some_iff.mp m1).1
    have hgd : h.getD d.length [] = h[d.length] := by simp [hj]
    have hfd : found.getD d.length 0 = found[d.length] := by simp [hfj]
    have next : ∀ env', (∃ a3 a4 a5 a6 a7, env' = [some (.lst (h.map msD)), some (.loc F), some (.loc S.length), a3, a4, a5, a6, a7]) → ∀ b : Bool, rd h found d.length = b → Z'.nx env' (if b then S1.set S.length (.lst ((((List.range d.length).filter (rd h found)).map fun j : Nat => D.int (j : Int)) ++ [.int (d.length : Nat)])) else S1) := by
      intro env' he b hb
      cases b with
      | true =>
        refine nx _ _ ⟨kx.own (Nat.le_refl _), he, ?_⟩
        simp [List.getElem?_set, hlt, List.range_succ, List.filter_append, hb]
      | false =>
        refine nx _ _ ⟨kx, he, ?_⟩
        rw [if_neg (by simp), m1]
        simp [List.range_succ, List.filter_append, hb]
    have hcl : ((List.range d.length).filter (rd h found)).length < PySem.sizeLine := by
      have := List.length_filter_le (rd h found) (List.range d.length)
      simp at this
      omega
    simp [dfn, envOf, sq, asS, cst, gN, ifS, tsB, tsT, trD, bop, eqO, neO, eqB, ltO, leO, gtO, geO, cmpO, vr, bi, lenB, consA, nilA, seqOf, lstOf, addO, subO, mulO, fdivO, modO, powO, negU, intB, absB, max2B, min2B, sub, subO_, atD, ixD, smallI, nxS, rtS, exS, lstC, lstD, tupD, cal, foS, itR1, itS, mtL, appM, popAtM, gSub, setO, isaB, isT, notT, notV, orT, andT, andV, iteV, tupB, lstB, lstCB, lc, wipD, agS, addI, gT, gsC, gsN, hF1, hfj]
    by_cases q : found[d.length] = -1
    · simp [q, msD]
      have hne1 : h[d.length] ≠ [] := by
        rw [← hgd]
        exact hne _ hj (by rw [hfd]; exact q)
      refine lc_mapA osD (fun os => D.int (gmax found os)) h[d.length] [] (fun os ho k hk => ?_) ?_
      · have hos := hrow.2 os ho
        simp [dfn, envOf, sq, asS, cst, gN, ifS, tsB, tsT, trD, bop, eqO, neO, eqB, ltO, leO, gtO, geO, cmpO, vr, bi, lenB, consA, nilA, seqOf, lstOf, addO, subO, mulO, fdivO, modO, powO, negU, intB, absB, max2B, min2B, sub, subO_, atD, ixD, smallI, nxS, rtS, exS, lstC, lstD, tupD, cal, foS, itR1, itS, mtL, appM, popAtM, gSub, setO, isaB, isT, notT, notV, orT, andT, andV, iteV, tupB, lstB, lstCB, lc, wipD, agS, addI, osD]
        refine lc_mapA (fun t : Nat => D.int (t : Int)) (fun t : Nat => D.int (found.getD t 0)) os [] (fun t t1 k hk => ?_) ?_
        · have t2 : t < found.length := by rw [hf]; exact hos.2 t t1
          simp [dfn, envOf, sq, asS, cst, gN, ifS, tsB, tsT, trD, bop, eqO, neO, eqB, ltO, leO, gtO, geO, cmpO, vr, bi, lenB, consA, nilA, seqOf, lstOf, addO, subO, mulO, fdivO, modO, powO, negU, intB, absB, max2B, min2B, sub, subO_, atD, ixD, smallI, nxS, rtS, exS, lstC, lstD, tupD, cal, foS, itR1, itS, mtL, appM, popAtM, gSub, setO, isaB, isT, notT, notV, orT, andT, andV, iteV, tupB, lstB, lstCB, lc, wipD, agS, addI, hF1, t2]
          simpa [t2] using hk
        · have e1 : os.map (fun t : Nat => D.int (found.getD t 0)) = (os.map fun t => found.getD t 0).map D.int := by simp [Function.comp_def]
          unfold gmax at hk
          rw [List.nil_append, e1]
          revert hk
          generalize os.map (fun t => found.getD t 0) = L
          intro hk
          cases L with
          | nil => simpa [maxdB, lstOf, intsOf] using hk
          | cons i L => simpa [maxdB, lstOf, intsOf, intsOf_map] using hk
      · obtain ⟨os0, l0, el0⟩ := List.exists_cons_of_ne_nil hne1
        have e1 : h[d.length].map (fun os => D.int (gmax found os)) = (h[d.length].map (gmax found)).map D.int := by simp [Function.comp_def]
        have hall : rdy h (fun t => found.getD t 0) d.length = decide (0 ≤ minI (l0.map (gmax found)) (gmax found os0)) := by
          rw [Bool.eq_iff_iff, decide_eq_true_iff, rdy_iff, minI_ge, hgd, el0]
          simp only [List.mem_cons, forall_eq_or_imp, gmax_ge]
          constructor
          · rintro ⟨q1, q2⟩
            refine ⟨q1, fun x hx => ?_⟩
            obtain ⟨os, o1, rfl⟩ := List.mem_map.mp hx
            exact (gmax_ge found os).mpr (q2 os o1)
          · rintro ⟨q1, q2⟩
            exact ⟨q1, fun os ho => (gmax_ge found os).mp (q2 _ (List.mem_map.mpr ⟨os, ho, rfl⟩))⟩
        have hrd : rd h found d.length = decide (0 ≤ minI (l0.map (gmax found)) (gmax found os0)) := by
          unfold rd
          rw [hall, hfd, q]
          rfl
        rw [List.nil_append, e1, el0]
        simp only [minB, lstOf, List.map_cons, intsOf, intsOf_map, Option.map, Option.bind]
        revert hrd
        generalize decide (0 ≤ minI (l0.map (gmax found)) (gmax found os0)) = b
        intro hrd
        cases b with
        | true =>
          simp only [m1]
          refine ⟨rfl, by simpa using hcl, ?_⟩
          exact next _ ⟨_, _, _, _, _, rfl⟩ true hrd
        | false => exact next _ ⟨_, _, _, _, _, rfl⟩ false hrd
    · have hrd : rd h found d.length = false := by
        unfold rd
        rw [hfd]
        simp [q]
      simp [q]
      exact next _ ⟨_, _, _, _, _, rfl⟩ false hrd
  · rintro env S1 ⟨kx, ⟨a3, a4, a5, a6, a7, rfl⟩, m1⟩
    simp [enumD_len] at m1
    simp [dfn, envOf, sq, asS, cst, gN, ifS, tsB, tsT, trD, bop, eqO, neO, eqB, ltO, leO, gtO, geO, cmpO, vr, bi, lenB, consA, nilA, seqOf, lstOf, addO, subO, mulO, fdivO, modO, powO, negU, intB, absB, max2B, min2B, sub, subO_, atD, ixD, smallI, nxS, rtS, exS, lstC, lstD, tupD, cal, foS, itR1, itS, mtL, appM, popAtM, gSub, setO, isaB, isT, notT, notV, orT, andT, andV, iteV, tupB, lstB, lstCB, lc, wipD, agS, addI, vrz, m1]
    exact hR _ (kx.own (Nat.le_refl _))
end K56

/-! K56L: ranks. -/
namespace K56
open Dn
def rkT (e : Sp) : TSt := sq (asS (cal e noX (consA (vr 2) (consA (vr 3) nilA))) (gN 5)) (sq (whS (tsT (vr 5)) (sq (foS (itS (vr 5)) (gN 6) (asS (vr 4) (gSub (vr 3) (vr 6)))) (sq (agS 4 addI (cst (.int 1))) (asS (cal e noX (consA (vr 2) (consA (vr 3) nilA))) (gN 5))))) (rtS (bi tupB (consA (vr 3) nilA))))
theorem rk_eq (e : Sp) : b_ranks e = sq (asS (dc [6] (itR1 (bi lenB (consA (vr 0) nilA))) (gN 6) (sub (sub (vr 0) (vr 6)) (cst (.int 0))) (vr 6)) (gN 1))
  (sq (asS (lc [7, 8] (itS (vr 0)) (gT (gsC (gN 7) (gsC (gN 8) gsN))) (yesT) (lc [7, 9] (itS (vr 8)) (gT (gsC (gN 7) (gsC (gN 9) gsN))) (yesT) (lc [7, 10] (itS (vr 9)) (gT (gsC (gN 7) (gsC (gN 10) gsN))) (yesT) (sub (vr 1) (vr 10))))) (gN 2))
  (sq (asS (lcC [8] (itS (vr 2)) (gN 8) (yesT) (iteV (tsB (bop eqO (bi lenB (consA (vr 8) nilA)) (cst (.int 0)))) (cst (.int 0)) (negU (cst (.int 1))))) (gN 3)) (sq (asS (cst (.int 1)) (gN 4)) (rkT e)))) := rfl
abbrev fnd (h : Gr) (k : Nat) : List Int := (List.range h.length).map (fz h k)
theorem fnd_at {h : Gr} {k j : Nat} (hj : j < h.length) : (fnd h k).getD j 0 = fz h k j := by simp [hj]
theorem rd_iff {h : Gr} (hg : GrOk h.length h) {k j : Nat} (hj : j < h.length) : rd h (fnd h k) j = true ↔ fz h k j = -1 ∧ rdy h (fz h k) j = true := by
  unfold rd
  rw [fnd_at hj, Bool.and_eq_true, beq_iff_eq, rdy_iff, rdy_iff]
  have hrow : h.getD j [] ∈ h := by simp [hj]
  have e : ∀ os ∈ h.getD j [], ∀ t ∈ os, (fnd h k).getD t 0 = fz h k t := fun os ho t ht => fnd_at (((hg _ hrow).2 os ho).2 t ht)
  constructor
  · rintro ⟨q1, q2⟩
    refine ⟨q1, fun os ho => ?_⟩
    obtain ⟨t, t1, t2⟩ := q2 os ho
    exact ⟨t, t1, by rw [← e os ho t t1]; exact t2⟩
  · rintro ⟨q1, q2⟩
    refine ⟨q1, fun os ho => ?_⟩
    obtain ⟨t, t1, t2⟩ := q2 os ho
    exact ⟨t, t1, by rw [e os ho t t1]; exact t2⟩
theorem map_range_set (f : Nat → Int) (v : Int) (x n : Nat) : ((List.range n).map f).set x v = (List.range n).map fun j => if j = x then v else f j := by
  apply List.ext_getElem
  · simp
  · intro i i1 i2
    simp at i1 i2
    rw [List.getElem_set]
    simp
    by_cases q : x = i
    · subst q; simp
    · rw [if_neg q, if_neg (Ne.symm q)]
theorem rkT_ok {e : Sp} (he : ReadyC e) {h : Gr} (hg : GrOk h.length h) (hl : h.length ≤ 1000) {S0 S : Sto} {F : Nat} {R : KD} {nx : KE} {a0 a1 a5 a6 a7 a8 a9 a10 : Option D} (hF0 : S0.length ≤ F) (kx0 : Kx S0 S) (hF : S[F]? = some (.lst ((fnd h 0).map .int)))
    (hR : ∀ S', Kx S0 S' → R (.tup ((fnd h h.length).map .int)) S') : rkT e { nx := nx, rt := R } [a0, a1, some (gD h), some (.loc F), some (.int 1), a5, a6, a7, a8, a9, a10] S := by
  have hsz := PySem.sizeLine_eq
  have hne : ∀ k j, j < h.length → (fnd h k).getD j 0 = -1 → h.getD j [] ≠ [] := fun k j hj e1 e2 => by
    rw [fnd_at hj, fz_zero e2] at e1
    omega
  have hlen : ∀ k, (fnd h k).length = h.length := fun k => by simp
  unfold rkT
  simp [dfn, envOf, sq, asS, cst, gN, ifS, tsB, tsT, trD, bop, eqO, neO, eqB, ltO, leO, gtO, geO, cmpO, vr, bi, lenB, consA, nilA, seqOf, lstOf, addO, subO, mulO, fdivO, modO, powO, negU, intB, absB, max2B, min2B, sub, subO_, atD, ixD, smallI, nxS, rtS, exS, lstC, lstD, tupD, cal, foS, itR1, itS, mtL, appM, popAtM, gSub, setO, isaB, isT, notT, notV, orT, andT, andV, iteV, tupB, lstB, lstCB, lc, wipD, agS, addI]
  refine he hg hl (hlen 0) hF (hne 0) fun S1 kx1 => ?_
  refine ⟨fun m env S' => ∃ k b6, m = cnt h k ∧ env = [a0, a1, some (gD h), some (.loc F), some (.int ((k : Int) + 1)), some (.lst (((List.range h.length).filter (rd h (fnd h k))).map fun j : Nat => D.int (j : Int))), b6, a7, a8, a9, a10] ∧ S'[F]? = some (.lst ((fnd h k).map .int)) ∧ Kx S0 S', ⟨_, 0, a6, rfl, rfl, kx1.at_ hF, kx0.trans kx1⟩, ?_⟩
  rintro m env S2 ⟨k, b6, rfl, rfl, hF2, kx2⟩
  have mem : ∀ x ∈ (List.range h.length).filter (rd h (fnd h k)), x < h.length := fun x hx => List.mem_range.mp (List.mem_filter.mp hx).1
  cases er : (List.range h.length).filter (rd h (fnd h k)) with
  | nil =>
    have st : Stable h k := fun j => by
      by_cases hj : j < h.length
      · rw [fz_succ, if_neg]
        intro q
        have z : j ∈ (List.range h.length).filter (rd h (fnd h k)) := List.mem_filter.mpr ⟨List.mem_range.mpr hj, (rd_iff hg hj).mpr q⟩
        rw [er] at z
        simp at z
      · rw [fz_out (by omega), fz_out (by omega)]
    have ef : fnd h k = fnd h h.length := by
      apply List.map_congr_left
      intro j hj
      exact stable_end hg st (List.mem_range.mp hj)
    simp [dfn, envOf, sq, asS, cst, gN, ifS, tsB, tsT, trD, bop, eqO, neO, eqB, ltO, leO, gtO, geO, cmpO, vr, bi, lenB, consA, nilA, seqOf, lstOf, addO, subO, mulO, fdivO, modO, powO, negU, intB, absB, max2B, min2B, sub, subO_, atD, ixD, smallI, nxS, rtS, exS, lstC, lstD, tupD, cal, foS, itR1, itS, mtL, appM, popAtM, gSub, setO, isaB, isT, notT, notV, orT, andT, andV, iteV, tupB, lstB, lstCB, lc, wipD, agS, addI, hF2]
    have q := hR S2 kx2
    rw [← ef] at q
    simpa using q
  | cons x0 xs =>
    simp [dfn, envOf, sq, asS, cst, gN, ifS, tsB, tsT, trD, bop, eqO, neO, eqB, ltO, leO, gtO, geO, cmpO, vr, bi, lenB, consA, nilA, seqOf, lstOf, addO, subO, mulO, fdivO, modO, powO, negU, intB, absB, max2B, min2B, sub, subO_, atD, ixD, smallI, nxS, rtS, exS, lstC, lstD, tupD, cal, foS, itR1, itS, mtL, appM, popAtM, gSub, setO, isaB, isT, notT, notV, orT, andT, andV, iteV, tupB, lstB, lstCB, lc, wipD, agS, addI]
    rw [show D.int (x0 : Int) :: xs.map (fun j : Nat => D.int (j : Int)) = (x0 :: xs).map fun j : Nat => D.int (j : Int) from rfl, ← er]
    refine for_inv (fun done env S' => Kx S0 S' ∧ ∃ (d : List Nat) (b6 : Option D), done = d.map (fun j : Nat => D.int (j : Int)) ∧ (∀ x ∈ d, x < h.length) ∧ env = [a0, a1, some (gD h), some (.loc F), some (.int ((k : Int) + 1)), some (.lst (((List.range h.length).filter (rd h (fnd h k))).map fun j : Nat => D.int (j : Int))), b6, a7, a8, a9, a10] ∧ S'[F]? = some (.lst (((List.range h.length).map fun j => if j ∈ d then (k : Int) + 1 else fz h k j).map .int))) _ [] _ _ ?_ ?_ ?_
    · exact ⟨kx2, [], b6, rfl, fun _ h => by simp at h, rfl, by simpa using hF2⟩
    · rintro done y r env S3 Z' ed ⟨kx3, d, c6, rfl, d1, rfl, hF3⟩ nx _ _
      have hy : y ∈ ((List.range h.length).filter (rd h (fnd h k))).map fun j : Nat => D.int (j : Int) := by
        have : y ∈ (d.map fun j : Nat => D.int (j : Int)) ++ y :: r := by simp
        rw [← ed] at this
        simpa using this
      obtain ⟨x, x1, rfl⟩ := List.mem_map.mp hy
      have hx := mem x x1
      have hlt := (List.getElem?_eq_some_iff.mp hF3).1
      simp [dfn, envOf, sq, asS, cst, gN, ifS, tsB, tsT, trD, bop, eqO, neO, eqB, ltO, leO, gtO, geO, cmpO, vr, bi, lenB, consA, nilA, seqOf, lstOf, addO, subO, mulO, fdivO, modO, powO, negU, intB, absB, max2B, min2B, sub, subO_, atD, ixD, smallI, nxS, rtS, exS, lstC, lstD, tupD, cal, foS, itR1, itS, mtL, appM, popAtM, gSub, setO, isaB, isT, notT, notV, orT, andT, andV, iteV, tupB, lstB, lstCB, lc, wipD, agS, addI, hF3, hx]
      refine nx _ _ ⟨kx3.own hF0, d ++ [x], _, by simp, fun z hz => ?_, rfl, ?_⟩
      · rcases List.mem_append.mp hz with q | q
        · exact d1 z q
        · simp at q; omega
      · rw [List.getElem?_set_self hlt]
        congr 2
        have e1 := map_range_set (fun j => if j ∈ d then (k : Int) + 1 else fz h k j) ((k : Int) + 1) x h.length
        have e2 := congrArg (List.map D.int) e1
        rw [List.map_set] at e2
        have e3 : (List.range h.length).map (fun j => if j = x then (k : Int) + 1 else if j ∈ d then (k : Int) + 1 else fz h k j) = (List.range h.length).map (fun j => if j ∈ d ++ [x] then (k : Int) + 1 else fz h k j) := by
          apply List.map_congr_left
          intro j _
          by_cases q1 : j = x
          · simp [q1]
          · by_cases q2 : j ∈ d <;> simp [q1, q2]
        rw [e3] at e2
        rw [← e2]
        simp [Function.comp_def]
    · rintro env S3 ⟨kx3, d, c6, ed, d1, rfl, hF3⟩
      have ed2 : d = (List.range h.length).filter (rd h (fnd h k)) := by
        have q := congrArg (List.map fun x : D => match x with
          | .int i => i.toNat
          | _ => 0) ed
        simpa [Function.comp_def] using q.symm
      have ef : ((List.range h.length).map fun j => if j ∈ d then (k : Int) + 1 else fz h k j) = fnd h (k + 1) := by
        apply List.map_congr_left
        intro j hj
        have hj := List.mem_range.mp hj
        rw [fz_succ, ed2]
        by_cases q : fz h k j = -1 ∧ rdy h (fz h k) j = true
        · rw [if_pos q, if_pos (List.mem_filter.mpr ⟨List.mem_range.mpr hj, (rd_iff hg hj).mpr q⟩)]
        · rw [if_neg q, if_neg fun z => q ((rd_iff hg hj).mp (List.mem_filter.mp z).2)]
      rw [ef] at hF3
      simp [dfn, envOf, sq, asS, cst, gN, ifS, tsB, tsT, trD, bop, eqO, neO, eqB, ltO, leO, gtO, geO, cmpO, vr, bi, lenB, consA, nilA, seqOf, lstOf, addO, subO, mulO, fdivO, modO, powO, negU, intB, absB, max2B, min2B, sub, subO_, atD, ixD, smallI, nxS, rtS, exS, lstC, lstD, tupD, cal, foS, itR1, itS, mtL, appM, popAtM, gSub, setO, isaB, isT, notT, notV, orT, andT, andV, iteV, tupB, lstB, lstCB, lc, wipD, agS, addI]
      refine he hg hl (hlen (k + 1)) hF3 (hne (k + 1)) fun S4 kx4 => ?_
      have hx0 : x0 ∈ (List.range h.length).filter (rd h (fnd h k)) := by rw [er]; simp
      have hxl := mem x0 hx0
      have hch : fz h (k + 1) x0 ≠ fz h k x0 := by
        have q := (rd_iff hg hxl).mp (List.mem_filter.mp hx0).2
        rw [fz_succ, if_pos q, q.1]
        omega
      have hlt : cnt h (k + 1) < cnt h k := by have := cnt_step hxl hch; omega
      exact ⟨cnt h (k + 1), hlt, k + 1, rfl, ⟨by omega, rfl⟩, by simpa using kx4.at_ hF3, kx3.trans kx4⟩
end K56

/-! K56M: ranks, whole. -/
namespace K56
open Dn
theorem dc_inv {g : TGt} {kk v : TEx} {env : Env} {R : List (D × D) → Sto → Prop} (I : List D → List (D × D) → Sto → Prop) : ∀ (xs done : List D) (acc : List (D × D)) (S : Sto), I done acc S →
    (∀ d x r acc S (k : List (D × D) → Sto → Prop), done ++ xs = d ++ x :: r → I d acc S → (∀ acc' S', I (d ++ [x]) acc' S' → k acc' S') → g x env S fun env1 S1 => kk env1 S1 fun y S2 => v env1 S2 fun z S3 => kOk acc y = true ∧ k (putD acc y z) S3) →
    (∀ acc S, I (done ++ xs) acc S → R acc S) → dcGo g kk v env xs acc S R
  | [], done, acc, S, h, _, hz => by
    rw [List.append_nil] at hz
    exact hz acc S h
  | x :: xs, done, acc, S, h, hs, hz => by
    unfold dcGo
    exact hs done x xs acc S (fun acc' S' => dcGo g kk v env xs acc' S' R) rfl h fun acc' S' h' => dc_inv I xs (done ++ [x]) acc' S' h' (fun d x' r acc S k e => hs d x' r acc S k (by rw [← e]; simp)) fun acc S h2 => hz acc S (by simpa using h2)
theorem lc_all2 {α : Type} {r : α → D → Prop} {g : TGt} {e : TEx} {env : Env} {R : KDs} {S : Sto} (f : α → D) : ∀ {as : List α} {xs : List D} (acc : List D), All2 r as xs → (∀ a x, a ∈ as → r a x → ∀ k : KD, k (f a) S → g x env S fun env1 S1 => e env1 S1 k) → R (acc ++ as.map f) S → lcGo g yesT e env xs acc S R := by
  intro as xs acc h2
  induction h2 generalizing acc with
  | nil => intro _ h; simpa [lcGo] using h
  | @cons a x l m q _ ih =>
    intro hs h
    unfold lcGo yesT
    refine hs a x List.mem_cons_self q _ ?_
    exact ih (acc ++ [f a]) (fun b y hb => hs b y (List.mem_cons_of_mem _ hb)) (by simpa using h)
theorem putD_new {k v : D} : ∀ {kvs : List (D × D)}, lookD kvs k = none → putD kvs k v = kvs ++ [(k, v)]
  | [], _ => rfl
  | (k', v') :: r, h => by
    unfold lookD at h
    unfold putD
    split at h
    · cases h
    · rename_i q
      rw [if_neg q, putD_new h]
      rfl
/-- look-ups in a table of distinct keys -/
theorem look_tab {key : Nat → D} {n : Nat} (hk : ∀ i, i < n → D.key 8 (key i) = true) (inj : ∀ i j, i < n → j < n → toK (key i) = toK (key j) → i = j) {j : Nat} (hj : j < n) : ∀ l : List Nat, (∀ i ∈ l, i < n) → lookD (l.map fun i : Nat => (key i, D.int (i : Int))) (key j) = if j ∈ l then some (.int j) else none
  | [], _ => by simp [lookD]
  | i :: l, hl => by
    have ih := look_tab hk inj hj l fun x hx => hl x (List.mem_cons_of_mem _ hx)
    have hi := hl i List.mem_cons_self
    show (if D.eqv (key i) (key j) then some (D.int (i : Int)) else lookD (l.map fun i : Nat => (key i, D.int (i : Int))) (key j)) = _
    by_cases q : i = j
    · subst q
      have e : D.eqv (key i) (key i) = true := (eqv_toK 8 8 _ _ (hk i hi) (hk i hi)).mpr rfl
      simp [e]
    · have e : ¬ D.eqv (key i) (key j) = true := fun z => q (inj i j hi hj ((eqv_toK 8 8 _ _ (hk i hi) (hk j hj)).mp z))
      rw [if_neg e, ih]
      simp [Ne.symm q]
theorem kOk_tab {key : Nat → D} {n : Nat} (hk : ∀ i, i < n → D.key 8 (key i) = true) (kind : (∀ i, i < n → isTp (key i) = true) ∨ ∀ i, i < n → ∃ z, key i = .int z) {j : Nat} (hj : j < n) : ∀ l : List Nat, (∀ i ∈ l, i < n) → kOk (l.map fun i : Nat => (key i, D.int (i : Int))) (key j) = true := by
  intro l hl
  unfold kOk
  rw [hk j hj]
  rcases kind with kind | kind
  · rw [kind j hj]
    cases l with
    | nil => rfl
    | cons i l =>
      show (_ && (isTp (key i) == true)) = true
      rw [kind i (hl i List.mem_cons_self)]
      rfl
  · obtain ⟨z, ez⟩ := kind j hj
    rw [ez]
    cases l with
    | nil => rfl
    | cons i l =>
      obtain ⟨y, ey⟩ := kind i (hl i List.mem_cons_self)
      show (_ && (isTp (key i) == _)) = true
      rw [ey]
      rfl
/-- d[k] -/
theorem sub_dct {P : Nat} {kvs : List (D × D)} {k d : D} {S : Sto} {R : KD} (hP : S[P]? = some (.dct kvs)) (hk : kOk kvs k = true) (hl : lookD kvs k = some d) (h : R d S) : subO_ (.loc P) k S R := by
  have e1 : seqOf S (.loc P) = none := by simp [seqOf, lstOf, hP]
  have e2 : dctOf S (.loc P) = some kvs := by simp [dctOf, hP]
  unfold subO_
  split
  · rename_i i
    rw [e1]
    simp only [e2]
    refine ⟨hk, ?_⟩
    rw [hl]
    exact h
  · rw [e2]
    refine ⟨hk, ?_⟩
    rw [hl]
    exact h
theorem All2.get {α β : Type} {r : α → β → Prop} {l : List α} {m : List β} (h : All2 r l m) : ∀ {i : Nat} {a : α}, l[i]? = some a → ∃ b, m[i]? = some b ∧ r a b := by
  induction h with
  | nil => intro i a h; simp at h
  | @cons x y l m q _ ih =>
    intro i a h
    cases i with
    | zero =>
      simp at h
      subst h
      exact ⟨y, rfl, q⟩
    | succ i => simpa using ih (by simpa using h)
def RanksC (e : Sp) : Prop := ∀ {g : Gr} {ks rows : List D} {ps : List Nat} {S : Sto} {R : KD} {E : KX}, All2 (RwOk ks g) ps rows → KsOk ks → ks.length = g.length → ps.Perm (List.range g.length) → GrOk g.length g → g.length ≤ 1000 →
  (∀ S', Kx S S' → R (.tup (ps.map fun p => D.int (fz g g.length p))) S') → e [.tup rows] S R E
theorem ranks_ok {e : Sp} (he : ReadyC e) : RanksC (d_ranks e) := by
  intro g ks rows ps S R E h2 hks hkl hpm hg hl hR
  have hsz := PySem.sizeLine_eq
  have hrl : rows.length = ps.length := h2.length
  have hpl : ps.length = g.length := by rw [hpm.length_eq, List.length_range]
  have hpn : ∀ p ∈ ps, p < g.length := fun p hp => List.mem_range.mp (hpm.mem_iff.mp hp)
  have hnd : ps.Nodup := hpm.nodup_iff.mpr List.nodup_range
  have hpat : ∀ j, j < g.length → ps.getD j 0 < g.length := fun j hj => by
    have : j < ps.length := by omega
    have e : ps.getD j 0 = ps[j] := by simp [this]
    rw [e]
    exact hpn _ (List.getElem_mem this)
  -- the keys by place
  let key : Nat → D := fun j => ks.getD (ps.getD j 0) .non
  have hkm : ∀ j, j < g.length → key j ∈ ks := fun j hj => by
    have z := hpat j hj
    rw [← hkl] at z
    show ks.getD (ps.getD j 0) .non ∈ ks
    have e : ks.getD (ps.getD j 0) .non = ks[ps.getD j 0] := by
      rw [List.getD_eq_getElem?_getD, List.getElem?_eq_getElem z]
      rfl
    rw [e]
    exact List.getElem_mem z
  have hk8 : ∀ j, j < g.length → D.key 8 (key j) = true := fun j hj => hks.key _ (hkm j hj)
  have kind : (∀ i, i < g.length → isTp (key i) = true) ∨ ∀ i, i < g.length → ∃ z, key i = .int z := hks.kind.imp (fun q i hi => q _ (hkm i hi)) (fun q i hi => q _ (hkm i hi))
  have inj : ∀ i j, i < g.length → j < g.length → toK (key i) = toK (key j) → i = j := fun i j hi hj e => by
    have nd1 := List.pairwise_iff_getElem.mp hks.nd
    have nd2 := List.pairwise_iff_getElem.mp hnd
    have zi := hpat i hi
    have zj := hpat j hj
    have ei : ∀ i, i < g.length → (h : ps.getD i 0 < (ks.map toK).length) → (ks.map toK)[ps.getD i 0] = toK (key i) := fun i hi h => by
      have h' : ps.getD i 0 < ks.length := by simpa using h
      rw [List.getElem_map]
      congr 1
      show _ = ks.getD (ps.getD i 0) .non
      rw [List.getD_eq_getElem?_getD (l := ks), List.getElem?_eq_getElem h']
      rfl
    have li : ps.getD i 0 < (ks.map toK).length := by simp only [List.length_map]; omega
    have lj : ps.getD j 0 < (ks.map toK).length := by simp only [List.length_map]; omega
    have e2 : ps.getD i 0 = ps.getD j 0 := by
      rcases Nat.lt_trichotomy (ps.getD i 0) (ps.getD j 0) with q | q | q
      · exact absurd (by rw [ei i hi li, ei j hj lj]; exact e) (nd1 _ _ li lj q)
      · exact q
      · exact absurd (by rw [ei i hi li, ei j hj lj]; exact e.symm) (nd1 _ _ lj li q)
    have pi : i < ps.length := by omega
    have pj : j < ps.length := by omega
    have e3 : ps[i] = ps[j] := by simpa [pi, pj] using e2
    rcases Nat.lt_trichotomy i j with q | q | q
    · exact absurd e3 (nd2 _ _ pi pj q)
    · exact q
    · exact absurd e3.symm (nd2 _ _ pj pi q)
  have hex : ∀ t, ∃ j, t < g.length → j < g.length ∧ ps.getD j 0 = t := fun t => by
    by_cases ht : t < g.length
    · have : t ∈ ps := hpm.mem_iff.mpr (List.mem_range.mpr ht)
      obtain ⟨j, j1, j2⟩ := List.getElem_of_mem this
      exact ⟨j, fun _ => ⟨by omega, by simp [j1, j2]⟩⟩
    · exact ⟨0, fun z => absurd z ht⟩
  let pos : Nat → Nat := fun t => Classical.choose (hex t)
  have hpos : ∀ t, t < g.length → pos t < g.length ∧ ps.getD (pos t) 0 = t := fun t ht => Classical.choose_spec (hex t) ht
  -- the graph by places
  let h : Gr := ps.map fun p => (g.getD p []).map fun os => os.map pos
  have hhl : h.length = g.length := by simp [h, hpl]
  have hgp : ∀ p, p < g.length → RowOk g.length (g.getD p []) := fun p hp => by
    have e : g.getD p [] = g[p] := by simp [hp]
    rw [e]
    exact hg _ (List.getElem_mem hp)
  have hhg : GrOk h.length h := by
    rw [hhl]
    intro ms hms
    obtain ⟨p, p1, rfl⟩ := List.mem_map.mp hms
    have q := hgp p (hpn p p1)
    refine ⟨by simpa using q.1, fun os ho => ?_⟩
    obtain ⟨os, o1, rfl⟩ := List.mem_map.mp ho
    refine ⟨by simpa using (q.2 os o1).1, fun t ht => ?_⟩
    obtain ⟨s, s1, rfl⟩ := List.mem_map.mp ht
    exact (hpos s ((q.2 os o1).2 s s1)).1
  unfold d_ranks
  rw [rk_eq]
  generalize hT : rkT e = T
  simp [dfn, envOf, sq, asS, cst, gN, ifS, tsB, tsT, trD, bop, eqO, neO, eqB, ltO, leO, gtO, geO, cmpO, vr, bi, lenB, consA, nilA, seqOf, lstOf, addO, subO, mulO, fdivO, modO, powO, negU, intB, absB, max2B, min2B, sub, subO_, atD, ixD, smallI, nxS, rtS, exS, lstC, lstD, tupD, cal, foS, itR1, itS, mtL, appM, popAtM, gSub, setO, isaB, isT, notT, notV, orT, andT, andV, iteV, tupB, lstB, lstCB, lc, wipD, agS, addI, dc, dctC]
  refine ⟨by omega, ?_⟩
  refine dc_inv (fun done acc S' => S' = S ∧ acc = (List.range done.length).map fun i : Nat => (key i, D.int (i : Int))) _ [] _ _ ⟨rfl, rfl⟩ ?_ ?_
  · rintro d x r acc S1 k ed ⟨rfl, rfl⟩ hk
    obtain ⟨hj, rfl⟩ := rng_at (by simpa using ed)
    have hj2 : d.length < g.length := by omega
    have pj : d.length < ps.length := by omega
    obtain ⟨row, r1, moves, rfl, r2⟩ := h2.get (List.getElem?_eq_getElem pj)
    have r3 : rows[d.length] = .tup [ks.getD ps[d.length] .non, .tup moves] := by
      rw [List.getElem?_eq_getElem hj] at r1
      exact Option.some.inj r1
    have ekey : ks.getD ps[d.length] .non = key d.length := by
      show _ = ks.getD (ps.getD d.length 0) .non
      simp [pj]
    rw [ekey] at r3
    simp [dfn, envOf, sq, asS, cst, gN, ifS, tsB, tsT, trD, bop, eqO, neO, eqB, ltO, leO, gtO, geO, cmpO, vr, bi, lenB, consA, nilA, seqOf, lstOf, addO, subO, mulO, fdivO, modO, powO, negU, intB, absB, max2B, min2B, sub, subO_, atD, ixD, smallI, nxS, rtS, exS, lstC, lstD, tupD, cal, foS, itR1, itS, mtL, appM, popAtM, gSub, setO, isaB, isT, notT, notV, orT, andT, andV, iteV, tupB, lstB, lstCB, lc, wipD, agS, addI, hj, r3]
    refine ⟨kOk_tab hk8 kind hj2 _ fun i hi => by have := List.mem_range.mp hi; omega, ?_⟩
    have nl : lookD ((List.range d.length).map fun i : Nat => (key i, D.int (i : Int))) (key d.length) = none := by
      rw [look_tab hk8 inj hj2 _ fun i hi => by have := List.mem_range.mp hi; omega]
      simp
    rw [putD_new nl]
    refine hk _ _ ⟨rfl, ?_⟩
    simp [List.range_succ]
  · rintro acc S1 ⟨rfl, rfl⟩
    simp only [List.nil_append, rngD_len, hrl, hpl]
    generalize hkv : (List.range g.length).map (fun i : Nat => (key i, D.int (i : Int))) = kvs
    have hP : (S1 ++ [Cell.dct kvs])[S1.length]? = some (.dct kvs) := by simp
    have hlk : ∀ t, t < g.length → kOk kvs (ks.getD t .non) = true ∧ lookD kvs (ks.getD t .non) = some (.int (pos t : Nat)) := fun t ht => by
      obtain ⟨p1, p2⟩ := hpos t ht
      have ek : ks.getD t .non = key (pos t) := by
        show _ = ks.getD (ps.getD (pos t) 0) .non
        rw [p2]
      rw [ek, ← hkv]
      refine ⟨kOk_tab hk8 kind p1 _ fun i hi => List.mem_range.mp hi, ?_⟩
      rw [look_tab hk8 inj p1 _ fun i hi => List.mem_range.mp hi, if_pos (List.mem_range.mpr p1)]
    refine lc_all2 (fun p => msD ((g.getD p []).map fun os => os.map pos)) [] h2 (fun p row hp hr k hk => ?_) ?_
    · obtain ⟨moves, rfl, hm⟩ := hr
      have hrow := hgp p (hpn p hp)
      simp [dfn, envOf, sq, asS, cst, gN, ifS, tsB, tsT, trD, bop, eqO, neO, eqB, ltO, leO, gtO, geO, cmpO, vr, bi, lenB, consA, nilA, seqOf, lstOf, addO, subO, mulO, fdivO, modO, powO, negU, intB, absB, max2B, min2B, sub, subO_, atD, ixD, smallI, nxS, rtS, exS, lstC, lstD, tupD, cal, foS, itR1, itS, mtL, appM, popAtM, gSub, setO, isaB, isT, notT, notV, orT, andT, andV, iteV, tupB, lstB, lstCB, lc, wipD, agS, addI, gT, gsC, gsN]
      refine lc_all2 (fun os : List Nat => osD (os.map pos)) [] hm (fun os mv ho hmv k hk => ?_) ?_
      · obtain ⟨hd, outs, rfl, hou⟩ := hmv
        have hos := hrow.2 os ho
        simp [dfn, envOf, sq, asS, cst, gN, ifS, tsB, tsT, trD, bop, eqO, neO, eqB, ltO, leO, gtO, geO, cmpO, vr, bi, lenB, consA, nilA, seqOf, lstOf, addO, subO, mulO, fdivO, modO, powO, negU, intB, absB, max2B, min2B, sub, subO_, atD, ixD, smallI, nxS, rtS, exS, lstC, lstD, tupD, cal, foS, itR1, itS, mtL, appM, popAtM, gSub, setO, isaB, isT, notT, notV, orT, andT, andV, iteV, tupB, lstB, lstCB, lc, wipD, agS, addI, gT, gsC, gsN]
        refine lc_all2 (fun t : Nat => D.int (pos t : Nat)) [] hou (fun t o ht hot k hk => ?_) ?_
        · obtain ⟨hd2, rfl⟩ := hot
          have hlt := hlk t (hos.2 t ht)
          have z := sub_dct (R := k) hP hlt.1 hlt.2 hk
          simpa [gT, gsC, gsN, gN, bop, vr] using z
        · simpa [osD, Function.comp_def] using hk
      · simpa [msD, Function.comp_def] using hk
    · have eh : ([] ++ ps.map fun p => msD ((g.getD p []).map fun os => os.map pos)) = h.map msD := by simp [h, Function.comp_def]
      rw [eh]
      have hT2 := fun (S2 : Sto) (F : Nat) (nx : KE) (a0 a1 a5 a6 a7 a8 a9 a10 : Option D) h1 h2 h3 => rkT_ok (e := e) he hhg (by omega) (S0 := S1) (S := S2) (F := F) (R := R) (nx := nx) (a0 := a0) (a1 := a1) (a5 := a5) (a6 := a6) (a7 := a7) (a8 := a8) (a9 := a9) (a10 := a10) h1 h2 h3 (fun S3 kx => by
        have z := hR S3 kx
        have e1 : (ps.map fun p => D.int (fz g g.length p)) = (fnd h h.length).map D.int := by
          apply List.ext_getElem
          · simp [hhl, hpl]
          · intro i i1 i2
            have hi : i < g.length := by simpa [hpl] using i1
            have hip : i < ps.length := by omega
            have q := fz_perm (h := h) hg rfl hpn hpl hpos rfl g.length i hi
            simp only [List.getElem_map, List.getElem_range, hhl]
            rw [q]
            simp [hip]
        rw [e1] at z
        exact z)
      rw [hT] at hT2
      simp [dfn, envOf, sq, asS, cst, gN, ifS, tsB, tsT, trD, bop, eqO, neO, eqB, ltO, leO, gtO, geO, cmpO, vr, bi, lenB, consA, nilA, seqOf, lstOf, addO, subO, mulO, fdivO, modO, powO, negU, intB, absB, max2B, min2B, sub, subO_, atD, ixD, smallI, nxS, rtS, exS, lstC, lstD, tupD, cal, foS, itR1, itS, mtL, appM, popAtM, gSub, setO, isaB, isT, notT, notV, orT, andT, andV, iteV, tupB, lstB, lstCB, lc, wipD, agS, addI, lcC]
      refine lc_mapA msD (fun ms => D.int (if ms = [] then 0 else -1)) h [] (fun ms m1 k hk => ?_) ?_
      · by_cases q : ms = []
        · subst q
          simp [dfn, envOf, sq, asS, cst, gN, ifS, tsB, tsT, trD, bop, eqO, neO, eqB, ltO, leO, gtO, geO, cmpO, vr, bi, lenB, consA, nilA, seqOf, lstOf, addO, subO, mulO, fdivO, modO, powO, negU, intB, absB, max2B, min2B, sub, subO_, atD, ixD, smallI, nxS, rtS, exS, lstC, lstD, tupD, cal, foS, itR1, itS, mtL, appM, popAtM, gSub, setO, isaB, isT, notT, notV, orT, andT, andV, iteV, tupB, lstB, lstCB, lc, wipD, agS, addI, msD]
          simpa using hk
        · have q2 : ms.length ≠ 0 := fun z => q (List.eq_nil_of_length_eq_zero z)
          simp [dfn, envOf, sq, asS, cst, gN, ifS, tsB, tsT, trD, bop, eqO, neO, eqB, ltO, leO, gtO, geO, cmpO, vr, bi, lenB, consA, nilA, seqOf, lstOf, addO, subO, mulO, fdivO, modO, powO, negU, intB, absB, max2B, min2B, sub, subO_, atD, ixD, smallI, nxS, rtS, exS, lstC, lstD, tupD, cal, foS, itR1, itS, mtL, appM, popAtM, gSub, setO, isaB, isT, notT, notV, orT, andT, andV, iteV, tupB, lstB, lstCB, lc, wipD, agS, addI, msD, q]
          simpa [q] using hk
      · simp only [List.nil_append]
        have ef : (h.map fun ms => D.int (if ms = [] then 0 else -1)) = (fnd h 0).map D.int := by
          apply List.ext_getElem
          · simp
          · intro i i1 i2
            have hi : i < h.length := by simpa using i1
            have e1 : h.getD i [] = h[i] := by simp [hi]
            simp only [List.getElem_map, List.getElem_range]
            unfold fz
            rw [e1]
        rw [ef]
        exact hT2 _ _ _ _ _ _ _ _ _ _ _ (by simp) ((Kx.refl S1).app.app) (by simp)
end K56

/-! K56N: the law. -/
namespace K56
open Dn
def lw19 (e_law_same e_ranks e_law_rows e_law_some e_law_keys e_law_chain e_law_pool e_law_values e_law_changed e_law_graph : Sp) : TSt := rtS (cal e_law_same noX (consA (cal e_ranks noX (consA (vr 6) nilA)) (consA (vr 8) nilA)))
def lw18 (e_law_same e_ranks e_law_rows e_law_some e_law_keys e_law_chain e_law_pool e_law_values e_law_changed e_law_graph : Sp) : TSt := sq (ifS (notT (tsB (cal e_law_same noX (consA (cal e_ranks noX (consA (cal e_law_rows noX (consA (vr 10) (consA (vr 2) (consA (vr 4) (consA (vr 5) nilA))))) nilA)) (consA (bi tupB (consA (lc [12] (itS (vr 5)) (gN 12) (yesT) (sub (vr 7) (vr 12))) nilA)) nilA))))) (rtS (cst (.bl false))) (nxS)) (lw19 e_law_same e_ranks e_law_rows e_law_some e_law_keys e_law_chain e_law_pool e_law_values e_law_changed e_law_graph)
def lw17 (e_law_same e_ranks e_law_rows e_law_some e_law_keys e_law_chain e_law_pool e_law_values e_law_changed e_law_graph : Sp) : TSt := sq (asS (bop addO (lc [11] (itR1 (bop subO (vr 3) (cst (.int 1)))) (gN 11) (yesT) (vr 11)) (lstD (consA (negU (cst (.int 1))) nilA))) (gN 7)) (lw18 e_law_same e_ranks e_law_rows e_law_some e_law_keys e_law_chain e_law_pool e_law_values e_law_changed e_law_graph)
def lw16 (e_law_same e_ranks e_law_rows e_law_some e_law_keys e_law_chain e_law_pool e_law_values e_law_changed e_law_graph : Sp) : TSt := sq (asS (cal e_law_some noX (consA (vr 10) (consA (lc [11] (itR1 (vr 3)) (gN 11) (yesT) (vr 11)) (consA (vr 3) nilA)))) (gN 5)) (lw17 e_law_same e_ranks e_law_rows e_law_some e_law_keys e_law_chain e_law_pool e_law_values e_law_changed e_law_graph)
def lw15 (e_law_same e_ranks e_law_rows e_law_some e_law_keys e_law_chain e_law_pool e_law_values e_law_changed e_law_graph : Sp) : TSt := sq (asS (cal e_law_keys noX (consA (vr 10) (consA (vr 3) nilA))) (gN 4)) (lw16 e_law_same e_ranks e_law_rows e_law_some e_law_keys e_law_chain e_law_pool e_law_values e_law_changed e_law_graph)
def lw14 (e_law_same e_ranks e_law_rows e_law_some e_law_keys e_law_chain e_law_pool e_law_values e_law_changed e_law_graph : Sp) : TSt := sq (asS (bi lenB (consA (vr 2) nilA)) (gN 3)) (lw15 e_law_same e_ranks e_law_rows e_law_some e_law_keys e_law_chain e_law_pool e_law_values e_law_changed e_law_graph)
def lw13 (e_law_same e_ranks e_law_rows e_law_some e_law_keys e_law_chain e_law_pool e_law_values e_law_changed e_law_graph : Sp) : TSt := sq (asS (cal e_law_chain noX (consA (vr 10) nilA)) (gN 2)) (lw14 e_law_same e_ranks e_law_rows e_law_some e_law_keys e_law_chain e_law_pool e_law_values e_law_changed e_law_graph)
def lw12 (e_law_same e_ranks e_law_rows e_law_some e_law_keys e_law_chain e_law_pool e_law_values e_law_changed e_law_graph : Sp) : TSt := sq (asS (cal e_law_pool noX (consA (vr 0) (consA (cst (.int 1)) nilA))) (gN 10)) (lw13 e_law_same e_ranks e_law_rows e_law_some e_law_keys e_law_chain e_law_pool e_law_values e_law_changed e_law_graph)
def lw11 (e_law_same e_ranks e_law_rows e_law_some e_law_keys e_law_chain e_law_pool e_law_values e_law_changed e_law_graph : Sp) : TSt := sq (ifS (notT (tsB (cal e_law_same noX (consA (cal e_ranks noX (consA (cal e_law_rows noX (consA (vr 1) (consA (vr 9) (consA (vr 4) (consA (vr 5) nilA))))) nilA)) (consA (bi tupB (consA (lc [12] (itS (vr 5)) (gN 12) (yesT) (sub (vr 7) (vr 12))) nilA)) nilA))))) (rtS (cst (.bl false))) (nxS)) (lw12 e_law_same e_ranks e_law_rows e_law_some e_law_keys e_law_chain e_law_pool e_law_values e_law_changed e_law_graph)
def lw10 (e_law_same e_ranks e_law_rows e_law_some e_law_keys e_law_chain e_law_pool e_law_values e_law_changed e_law_graph : Sp) : TSt := sq (asS (cal e_law_values noX (consA (vr 9) nilA)) (gN 7)) (lw11 e_law_same e_ranks e_law_rows e_law_some e_law_keys e_law_chain e_law_pool e_law_values e_law_changed e_law_graph)
def lw9 (e_law_same e_ranks e_law_rows e_law_some e_law_keys e_law_chain e_law_pool e_law_values e_law_changed e_law_graph : Sp) : TSt := sq (asS (cal e_law_changed noX (consA (vr 1) (consA (vr 2) (consA (vr 7) nilA)))) (gN 9)) (lw10 e_law_same e_ranks e_law_rows e_law_some e_law_keys e_law_chain e_law_pool e_law_values e_law_changed e_law_graph)
def lw8 (e_law_same e_ranks e_law_rows e_law_some e_law_keys e_law_chain e_law_pool e_law_values e_law_changed e_law_graph : Sp) : TSt := sq (ifS (notT (tsB (cal e_law_same noX (consA (cal e_ranks noX (consA (vr 6) nilA)) (consA (vr 8) nilA))))) (rtS (cst (.bl false))) (nxS)) (lw9 e_law_same e_ranks e_law_rows e_law_some e_law_keys e_law_chain e_law_pool e_law_values e_law_changed e_law_graph)
def lw7 (e_law_same e_ranks e_law_rows e_law_some e_law_keys e_law_chain e_law_pool e_law_values e_law_changed e_law_graph : Sp) : TSt := sq (asS (bi tupB (consA (lc [12] (itS (vr 5)) (gN 12) (yesT) (sub (vr 7) (vr 12))) nilA)) (gN 8)) (lw8 e_law_same e_ranks e_law_rows e_law_some e_law_keys e_law_chain e_law_pool e_law_values e_law_changed e_law_graph)
def lw6 (e_law_same e_ranks e_law_rows e_law_some e_law_keys e_law_chain e_law_pool e_law_values e_law_changed e_law_graph : Sp) : TSt := sq (asS (cal e_law_values noX (consA (vr 2) nilA)) (gN 7)) (lw7 e_law_same e_ranks e_law_rows e_law_some e_law_keys e_law_chain e_law_pool e_law_values e_law_changed e_law_graph)
def lw5 (e_law_same e_ranks e_law_rows e_law_some e_law_keys e_law_chain e_law_pool e_law_values e_law_changed e_law_graph : Sp) : TSt := sq (asS (cal e_law_rows noX (consA (vr 1) (consA (vr 2) (consA (vr 4) (consA (vr 5) nilA))))) (gN 6)) (lw6 e_law_same e_ranks e_law_rows e_law_some e_law_keys e_law_chain e_law_pool e_law_values e_law_changed e_law_graph)
def lw4 (e_law_same e_ranks e_law_rows e_law_some e_law_keys e_law_chain e_law_pool e_law_values e_law_changed e_law_graph : Sp) : TSt := sq (asS (cal e_law_some noX (consA (vr 1) (consA (lc [11] (itR1 (vr 3)) (gN 11) (yesT) (vr 11)) (consA (vr 3) nilA)))) (gN 5)) (lw5 e_law_same e_ranks e_law_rows e_law_some e_law_keys e_law_chain e_law_pool e_law_values e_law_changed e_law_graph)
def lw3 (e_law_same e_ranks e_law_rows e_law_some e_law_keys e_law_chain e_law_pool e_law_values e_law_changed e_law_graph : Sp) : TSt := sq (asS (cal e_law_keys noX (consA (vr 1) (consA (vr 3) nilA))) (gN 4)) (lw4 e_law_same e_ranks e_law_rows e_law_some e_law_keys e_law_chain e_law_pool e_law_values e_law_changed e_law_graph)
def lw2 (e_law_same e_ranks e_law_rows e_law_some e_law_keys e_law_chain e_law_pool e_law_values e_law_changed e_law_graph : Sp) : TSt := sq (asS (bi lenB (consA (vr 2) nilA)) (gN 3)) (lw3 e_law_same e_ranks e_law_rows e_law_some e_law_keys e_law_chain e_law_pool e_law_values e_law_changed e_law_graph)
def lw1 (e_law_same e_ranks e_law_rows e_law_some e_law_keys e_law_chain e_law_pool e_law_values e_law_changed e_law_graph : Sp) : TSt := sq (asS (cal e_law_graph noX (consA (vr 1) nilA)) (gN 2)) (lw2 e_law_same e_ranks e_law_rows e_law_some e_law_keys e_law_chain e_law_pool e_law_values e_law_changed e_law_graph)
def lw0 (e_law_same e_ranks e_law_rows e_law_some e_law_keys e_law_chain e_law_pool e_law_values e_law_changed e_law_graph : Sp) : TSt := sq (asS (cal e_law_pool noX (consA (vr 0) (consA (cst (.int 0)) nilA))) (gN 1)) (lw1 e_law_same e_ranks e_law_rows e_law_some e_law_keys e_law_chain e_law_pool e_law_values e_law_changed e_law_graph)
theorem lw_eq (e_law_same e_ranks e_law_rows e_law_some e_law_keys e_law_chain e_law_pool e_law_values e_law_changed e_law_graph : Sp) : b_law e_law_same e_ranks e_law_rows e_law_some e_law_keys e_law_chain e_law_pool e_law_values e_law_changed e_law_graph = lw0 e_law_same e_ranks e_law_rows e_law_some e_law_keys e_law_chain e_law_pool e_law_values e_law_changed e_law_graph := rfl
def SameC' (e : Sp) : Prop := ∀ {is : List Int} {S : Sto} {R : KD} {E : KX}, is.length ≤ 1000 → R (.bl true) S → e [.tup (is.map .int), .tup (is.map .int)] S R E
def PoolC' (e : Sp) : Prop := ∀ {ns : List Int} {p : Nat} {S : Sto} {R : KD} {E : KX}, ns.length ≤ 63 → (∀ c, PoolC c → R (.loc S.length) (S ++ [c])) → e [.arg (ns.map .int), .int p] S R E
theorem perm_ints {n : Nat} {es : List D} (h : es.Perm ((List.range n).map fun i : Nat => D.int (i : Int))) : ∃ ps : List Nat, es = ps.map (fun i : Nat => D.int (i : Int)) ∧ ps.Perm (List.range n) := by
  let f : D → Nat := fun x => match x with
    | .int i => i.toNat
    | _ => 0
  refine ⟨es.map f, ?_, ?_⟩
  · rw [List.map_map]
    have e : es.map ((fun i : Nat => D.int (i : Int)) ∘ f) = es.map id := by
      apply List.map_congr_left
      intro x hx
      obtain ⟨i, _, rfl⟩ := List.mem_map.mp (h.mem_iff.mp hx)
      simp [f]
    rw [e, List.map_id]
  · have q := h.map f
    rw [List.map_map] at q
    have e : (List.range n).map (f ∘ fun i : Nat => D.int (i : Int)) = (List.range n).map id := by
      apply List.map_congr_left
      intro i _
      simp [f]
    rw [e, List.map_id] at q
    exact q
/-- tuple([values[p] for p in places]) -/
theorem due_ok {vs rk : List Int} {ps : List Nat} {env : Env} {S : Sto} {K : KDs} (h7 : env[7]? = some (some (.lst (vs.map .int)))) (hl : env.length = 13) (hp : ∀ p ∈ ps, p < vs.length) (hrk : rk = ps.map fun p => vs.getD p 0) (h : K (rk.map .int) S) :
    lcGo (gN 12) yesT (bop subO_ (vr 7) (vr 12)) env (ps.map fun p : Nat => D.int (p : Int)) [] S K := by
  have e7 : ∀ x, (env.set 12 (some x))[7]? = some (some (.lst (vs.map .int))) := fun x => by
    rw [List.getElem?_set_ne (by decide)]
    exact h7
  have e12 : ∀ x, (env.set 12 (some x))[12]? = some (some x) := fun x => List.getElem?_set_self (by simp [hl])
  refine lc_mapA (fun p : Nat => D.int (p : Int)) (fun p : Nat => D.int (vs.getD p 0)) ps [] (fun p p1 k hk => ?_) ?_
  · have p2 := hp p p1
    show gN 12 _ env S _
    simp only [gN, bop, vr, e7, e12, subO_, seqOf, lstOf]
    have e1 : atD (vs.map D.int) (p : Int) = some (.int vs[p]) := by simp [atD, ixD, p2]
    rw [e1]
    simpa [p2] using hk
  · subst hrk
    simpa [Function.comp_def] using h
theorem PoolOk.kx {S S' : Sto} {n : Nat} (h : PoolOk S n) (k : Kx S S') : PoolOk S' n := by
  obtain ⟨c, h1, h2⟩ := h
  exact ⟨c, k.at_ h1, h2⟩
section
variable {e_law_same e_ranks e_law_rows e_law_some e_law_keys e_law_chain e_law_pool e_law_values e_law_changed e_law_graph : Sp}
theorem law_ok (hsame : SameC' e_law_same) (hranks : RanksC e_ranks) (hrows : RowsC e_law_rows) (hsome : SomeC e_law_some) (hkeys : KeysC e_law_keys) (hchain : ChainC e_law_chain) (hpool : PoolC' e_law_pool) (hvals : ValuesC e_law_values) (hch : ChangedC e_law_changed) (hgr : GraphC e_law_graph)
    (ns : List Int) (hns : ns.length ≤ 63) (E : KX) : d_law e_law_same e_ranks e_law_rows e_law_some e_law_keys e_law_chain e_law_pool e_law_values e_law_changed e_law_graph [.arg (ns.map .int)] [] (fun d _ => d = .bl true) E := by
  have hsz := PySem.sizeLine_eq
  unfold d_law
  rw [lw_eq]
  unfold lw0
  simp [dfn, envOf, sq, asS, cst, gN, ifS, tsB, tsT, trD, bop, eqO, neO, eqB, ltO, leO, gtO, geO, cmpO, vr, bi, lenB, consA, nilA, seqOf, lstOf, addO, subO, mulO, fdivO, modO, powO, negU, intB, absB, max2B, min2B, sub, subO_, atD, ixD, smallI, nxS, rtS, exS, lstC, lstD, tupD, cal, foS, itR1, itS, mtL, appM, popAtM, gSub, setO, isaB, isT, notT, notV, orT, andT, andV, iteV, tupB, lstB, lstCB, lc, wipD, agS, addI]
  refine hpool (p := 0) hns fun c0 hc0 => ?_
  have kp0 : PoolOk [c0] 0 := ⟨c0, rfl, hc0⟩
  unfold lw1
  simp [dfn, envOf, sq, asS, cst, gN, ifS, tsB, tsT, trD, bop, eqO, neO, eqB, ltO, leO, gtO, geO, cmpO, vr, bi, lenB, consA, nilA, seqOf, lstOf, addO, subO, mulO, fdivO, modO, powO, negU, intB, absB, max2B, min2B, sub, subO_, atD, ixD, smallI, nxS, rtS, exS, lstC, lstD, tupD, cal, foS, itR1, itS, mtL, appM, popAtM, gSub, setO, isaB, isT, notT, notV, orT, andT, andV, iteV, tupB, lstB, lstCB, lc, wipD, agS, addI]
  refine hgr kp0 fun g S1 hg hgl kp1 => ?_
  unfold lw2
  simp [dfn, envOf, sq, asS, cst, gN, ifS, tsB, tsT, trD, bop, eqO, neO, eqB, ltO, leO, gtO, geO, cmpO, vr, bi, lenB, consA, nilA, seqOf, lstOf, addO, subO, mulO, fdivO, modO, powO, negU, intB, absB, max2B, min2B, sub, subO_, atD, ixD, smallI, nxS, rtS, exS, lstC, lstD, tupD, cal, foS, itR1, itS, mtL, appM, popAtM, gSub, setO, isaB, isT, notT, notV, orT, andT, andV, iteV, tupB, lstB, lstCB, lc, wipD, agS, addI, gD]
  unfold lw3
  simp [dfn, envOf, sq, asS, cst, gN, ifS, tsB, tsT, trD, bop, eqO, neO, eqB, ltO, leO, gtO, geO, cmpO, vr, bi, lenB, consA, nilA, seqOf, lstOf, addO, subO, mulO, fdivO, modO, powO, negU, intB, absB, max2B, min2B, sub, subO_, atD, ixD, smallI, nxS, rtS, exS, lstC, lstD, tupD, cal, foS, itR1, itS, mtL, appM, popAtM, gSub, setO, isaB, isT, notT, notV, orT, andT, andV, iteV, tupB, lstB, lstCB, lc, wipD, agS, addI]
  refine hkeys (n := 0) kp1.pool (by omega) fun ks S2 hkl hks kp2 => ?_
  unfold lw4
  simp [dfn, envOf, sq, asS, cst, gN, ifS, tsB, tsT, trD, bop, eqO, neO, eqB, ltO, leO, gtO, geO, cmpO, vr, bi, lenB, consA, nilA, seqOf, lstOf, addO, subO, mulO, fdivO, modO, powO, negU, intB, absB, max2B, min2B, sub, subO_, atD, ixD, smallI, nxS, rtS, exS, lstC, lstD, tupD, cal, foS, itR1, itS, mtL, appM, popAtM, gSub, setO, isaB, isT, notT, notV, orT, andT, andV, iteV, tupB, lstB, lstCB, lc, wipD, agS, addI]
  refine ⟨by omega, ?_⟩
  rw [rng0]
  refine lc_mapA (fun i : Nat => D.int (i : Int)) (fun i : Nat => D.int (i : Int)) _ [] (fun i i1 k hk => ?_) ?_
  · simp [dfn, envOf, sq, asS, cst, gN, ifS, tsB, tsT, trD, bop, eqO, neO, eqB, ltO, leO, gtO, geO, cmpO, vr, bi, lenB, consA, nilA, seqOf, lstOf, addO, subO, mulO, fdivO, modO, powO, negU, intB, absB, max2B, min2B, sub, subO_, atD, ixD, smallI, nxS, rtS, exS, lstC, lstD, tupD, cal, foS, itR1, itS, mtL, appM, popAtM, gSub, setO, isaB, isT, notT, notV, orT, andT, andV, iteV, tupB, lstB, lstCB, lc, wipD, agS, addI]
    exact hk
  simp only [List.nil_append]
  have hrl : (g.length : Int) = (((List.range g.length).map fun i : Nat => D.int (i : Int)).length : Int) := by simp
  have z4 := fun (R : KD) (h : ∀ es S', es.Perm ((List.range g.length).map fun i : Nat => D.int (i : Int)) → Kp 0 S2 S' → R (.tup es) S') => hsome (n := 0) (E := noX) (R := R) kp2.pool (by simp; omega) h _ (.inl rfl)
  rw [← hrl] at z4
  refine z4 _ fun es S3 hes kp3 => ?_
  obtain ⟨ps, rfl, hps⟩ := perm_ints hes
  have hpl : ps.length = g.length := by rw [hps.length_eq, List.length_range]
  have hpn : ∀ p ∈ ps, p < g.length := fun p hp => List.mem_range.mp (hps.mem_iff.mp hp)
  unfold lw5
  simp [dfn, envOf, sq, asS, cst, gN, ifS, tsB, tsT, trD, bop, eqO, neO, eqB, ltO, leO, gtO, geO, cmpO, vr, bi, lenB, consA, nilA, seqOf, lstOf, addO, subO, mulO, fdivO, modO, powO, negU, intB, absB, max2B, min2B, sub, subO_, atD, ixD, smallI, nxS, rtS, exS, lstC, lstD, tupD, cal, foS, itR1, itS, mtL, appM, popAtM, gSub, setO, isaB, isT, notT, notV, orT, andT, andV, iteV, tupB, lstB, lstCB, lc, wipD, agS, addI]
  refine hrows (n := 0) kp3.pool hg hkl (by omega) hpn fun rows S4 hro kp4 => ?_
  unfold lw6
  simp [dfn, envOf, sq, asS, cst, gN, ifS, tsB, tsT, trD, bop, eqO, neO, eqB, ltO, leO, gtO, geO, cmpO, vr, bi, lenB, consA, nilA, seqOf, lstOf, addO, subO, mulO, fdivO, modO, powO, negU, intB, absB, max2B, min2B, sub, subO_, atD, ixD, smallI, nxS, rtS, exS, lstC, lstD, tupD, cal, foS, itR1, itS, mtL, appM, popAtM, gSub, setO, isaB, isT, notT, notV, orT, andT, andV, iteV, tupB, lstB, lstCB, lc, wipD, agS, addI]
  refine hvals hg (by omega) ?_
  rw [values_fz hg]
  have vl : ((List.range g.length).map (fz g g.length)).length = g.length := by simp
  have vg : ∀ p, p < g.length → ((List.range g.length).map (fz g g.length)).getD p 0 = fz g g.length p := fun p hp => by simp [hp]
  generalize (List.range g.length).map (fz g g.length) = vs at vl vg
  have rk_eq : ∀ (g : Gr) (ps : List Nat), (ps.map fun p => D.int (fz g g.length p)) = (ps.map (fz g g.length)).map .int := fun g ps => by simp [Function.comp_def]
  unfold lw7
  simp [dfn, envOf, sq, asS, cst, gN, ifS, tsB, tsT, trD, bop, eqO, neO, eqB, ltO, leO, gtO, geO, cmpO, vr, bi, lenB, consA, nilA, seqOf, lstOf, addO, subO, mulO, fdivO, modO, powO, negU, intB, absB, max2B, min2B, sub, subO_, atD, ixD, smallI, nxS, rtS, exS, lstC, lstD, tupD, cal, foS, itR1, itS, mtL, appM, popAtM, gSub, setO, isaB, isT, notT, notV, orT, andT, andV, iteV, tupB, lstB, lstCB, lc, wipD, agS, addI]
  refine due_ok (rk := ps.map (fz g g.length)) (vs := vs) rfl rfl (fun p hp => by rw [vl]; exact hpn p hp) ?_ ?_
  · apply List.map_congr_left
    intro p hp
    rw [vg p (hpn p hp)]
  generalize hrk : ps.map (fz g g.length) = rk
  have hrkl : rk.length ≤ 1000 := by rw [← hrk, List.length_map]; omega
  have again : ∀ (S : Sto) (E : KX) (R : KD), (∀ S', Kx S S' → R (.tup (rk.map .int)) S') → e_ranks [.tup rows] S R E := fun S E R h => hranks hro hks hkl hps hg (by omega) fun S' kx => by
    rw [rk_eq, hrk]
    exact h S' kx
  unfold lw8
  simp [dfn, envOf, sq, asS, cst, gN, ifS, tsB, tsT, trD, bop, eqO, neO, eqB, ltO, leO, gtO, geO, cmpO, vr, bi, lenB, consA, nilA, seqOf, lstOf, addO, subO, mulO, fdivO, modO, powO, negU, intB, absB, max2B, min2B, sub, subO_, atD, ixD, smallI, nxS, rtS, exS, lstC, lstD, tupD, cal, foS, itR1, itS, mtL, appM, popAtM, gSub, setO, isaB, isT, notT, notV, orT, andT, andV, iteV, tupB, lstB, lstCB, lc, wipD, agS, addI]
  refine again _ _ _ fun S5 kx5 => ?_
  refine hsame hrkl ?_
  have p5 := kp4.pool.kx kx5
  simp
  unfold lw9
  simp [dfn, envOf, sq, asS, cst, gN, ifS, tsB, tsT, trD, bop, eqO, neO, eqB, ltO, leO, gtO, geO, cmpO, vr, bi, lenB, consA, nilA, seqOf, lstOf, addO, subO, mulO, fdivO, modO, powO, negU, intB, absB, max2B, min2B, sub, subO_, atD, ixD, smallI, nxS, rtS, exS, lstC, lstD, tupD, cal, foS, itR1, itS, mtL, appM, popAtM, gSub, setO, isaB, isT, notT, notV, orT, andT, andV, iteV, tupB, lstB, lstCB, lc, wipD, agS, addI]
  refine hch (n := 0) p5 hg hgl vl fun g2 S6 hg2 hgl2 kp6 => ?_
  unfold lw10
  simp [dfn, envOf, sq, asS, cst, gN, ifS, tsB, tsT, trD, bop, eqO, neO, eqB, ltO, leO, gtO, geO, cmpO, vr, bi, lenB, consA, nilA, seqOf, lstOf, addO, subO, mulO, fdivO, modO, powO, negU, intB, absB, max2B, min2B, sub, subO_, atD, ixD, smallI, nxS, rtS, exS, lstC, lstD, tupD, cal, foS, itR1, itS, mtL, appM, popAtM, gSub, setO, isaB, isT, notT, notV, orT, andT, andV, iteV, tupB, lstB, lstCB, lc, wipD, agS, addI]
  refine hvals hg2 (by omega) ?_
  rw [values_fz hg2]
  have vl2 : ((List.range g2.length).map (fz g2 g2.length)).length = g.length := by simp [hgl2]
  have vg2 : ∀ p, p < g.length → ((List.range g2.length).map (fz g2 g2.length)).getD p 0 = fz g2 g2.length p := fun p hp => by
    have : p < g2.length := by omega
    simp [this]
  generalize (List.range g2.length).map (fz g2 g2.length) = vs2 at vl2 vg2
  unfold lw11
  simp [dfn, envOf, sq, asS, cst, gN, ifS, tsB, tsT, trD, bop, eqO, neO, eqB, ltO, leO, gtO, geO, cmpO, vr, bi, lenB, consA, nilA, seqOf, lstOf, addO, subO, mulO, fdivO, modO, powO, negU, intB, absB, max2B, min2B, sub, subO_, atD, ixD, smallI, nxS, rtS, exS, lstC, lstD, tupD, cal, foS, itR1, itS, mtL, appM, popAtM, gSub, setO, isaB, isT, notT, notV, orT, andT, andV, iteV, tupB, lstB, lstCB, lc, wipD, agS, addI]
  refine hrows (n := 0) (g := g2) kp6.pool hg2 (by omega) (by omega) (fun p hp => by rw [hgl2]; exact hpn p hp) fun rows2 S7 hro2 kp7 => ?_
  refine hranks hro2 hks (by omega) (by rw [hgl2]; exact hps) hg2 (by omega) fun S8 kx8 => ?_
  rw [rk_eq]
  refine due_ok (rk := ps.map (fz g2 g2.length)) (vs := vs2) rfl rfl (fun p hp => by rw [vl2]; exact hpn p hp) ?_ ?_
  · apply List.map_congr_left
    intro p hp
    rw [vg2 p (hpn p hp)]
  refine hsame (by rw [List.length_map]; omega) ?_
  simp
  -- the chain
  unfold lw12
  simp [dfn, envOf, sq, asS, cst, gN, ifS, tsB, tsT, trD, bop, eqO, neO, eqB, ltO, leO, gtO, geO, cmpO, vr, bi, lenB, consA, nilA, seqOf, lstOf, addO, subO, mulO, fdivO, modO, powO, negU, intB, absB, max2B, min2B, sub, subO_, atD, ixD, smallI, nxS, rtS, exS, lstC, lstD, tupD, cal, foS, itR1, itS, mtL, appM, popAtM, gSub, setO, isaB, isT, notT, notV, orT, andT, andV, iteV, tupB, lstB, lstCB, lc, wipD, agS, addI]
  refine hpool (p := 1) hns fun c1 hc1 => ?_
  have p9 : PoolOk (S8 ++ [c1]) S8.length := ⟨c1, at_new, hc1⟩
  unfold lw13
  simp [dfn, envOf, sq, asS, cst, gN, ifS, tsB, tsT, trD, bop, eqO, neO, eqB, ltO, leO, gtO, geO, cmpO, vr, bi, lenB, consA, nilA, seqOf, lstOf, addO, subO, mulO, fdivO, modO, powO, negU, intB, absB, max2B, min2B, sub, subO_, atD, ixD, smallI, nxS, rtS, exS, lstC, lstD, tupD, cal, foS, itR1, itS, mtL, appM, popAtM, gSub, setO, isaB, isT, notT, notV, orT, andT, andV, iteV, tupB, lstB, lstCB, lc, wipD, agS, addI]
  refine hchain p9 fun sz gc S10 hsz1 hcg kp10 => ?_
  obtain ⟨gcl, _⟩ := chain_at hcg
  have hcgr := chain_gr hcg
  unfold lw14
  simp [dfn, envOf, sq, asS, cst, gN, ifS, tsB, tsT, trD, bop, eqO, neO, eqB, ltO, leO, gtO, geO, cmpO, vr, bi, lenB, consA, nilA, seqOf, lstOf, addO, subO, mulO, fdivO, modO, powO, negU, intB, absB, max2B, min2B, sub, subO_, atD, ixD, smallI, nxS, rtS, exS, lstC, lstD, tupD, cal, foS, itR1, itS, mtL, appM, popAtM, gSub, setO, isaB, isT, notT, notV, orT, andT, andV, iteV, tupB, lstB, lstCB, lc, wipD, agS, addI, gD]
  unfold lw15
  simp [dfn, envOf, sq, asS, cst, gN, ifS, tsB, tsT, trD, bop, eqO, neO, eqB, ltO, leO, gtO, geO, cmpO, vr, bi, lenB, consA, nilA, seqOf, lstOf, addO, subO, mulO, fdivO, modO, powO, negU, intB, absB, max2B, min2B, sub, subO_, atD, ixD, smallI, nxS, rtS, exS, lstC, lstD, tupD, cal, foS, itR1, itS, mtL, appM, popAtM, gSub, setO, isaB, isT, notT, notV, orT, andT, andV, iteV, tupB, lstB, lstCB, lc, wipD, agS, addI]
  refine hkeys kp10.pool (by omega) fun ks3 S11 hkl3 hks3 kp11 => ?_
  unfold lw16
  simp [dfn, envOf, sq, asS, cst, gN, ifS, tsB, tsT, trD, bop, eqO, neO, eqB, ltO, leO, gtO, geO, cmpO, vr, bi, lenB, consA, nilA, seqOf, lstOf, addO, subO, mulO, fdivO, modO, powO, negU, intB, absB, max2B, min2B, sub, subO_, atD, ixD, smallI, nxS, rtS, exS, lstC, lstD, tupD, cal, foS, itR1, itS, mtL, appM, popAtM, gSub, setO, isaB, isT, notT, notV, orT, andT, andV, iteV, tupB, lstB, lstCB, lc, wipD, agS, addI]
  refine ⟨by omega, ?_⟩
  rw [rng0]
  refine lc_mapA (fun i : Nat => D.int (i : Int)) (fun i : Nat => D.int (i : Int)) _ [] (fun i i1 k hk => ?_) ?_
  · simp [dfn, envOf, sq, asS, cst, gN, ifS, tsB, tsT, trD, bop, eqO, neO, eqB, ltO, leO, gtO, geO, cmpO, vr, bi, lenB, consA, nilA, seqOf, lstOf, addO, subO, mulO, fdivO, modO, powO, negU, intB, absB, max2B, min2B, sub, subO_, atD, ixD, smallI, nxS, rtS, exS, lstC, lstD, tupD, cal, foS, itR1, itS, mtL, appM, popAtM, gSub, setO, isaB, isT, notT, notV, orT, andT, andV, iteV, tupB, lstB, lstCB, lc, wipD, agS, addI]
    exact hk
  simp only [List.nil_append]
  have hrl3 : (gc.length : Int) = (((List.range gc.length).map fun i : Nat => D.int (i : Int)).length : Int) := by simp
  have z16 := fun (R : KD) (h : ∀ es S', es.Perm ((List.range gc.length).map fun i : Nat => D.int (i : Int)) → Kp S8.length S11 S' → R (.tup es) S') => hsome (E := noX) (R := R) kp11.pool (by simp; omega) h _ (.inl rfl)
  rw [← hrl3] at z16
  refine z16 _ fun es3 S12 hes3 kp12 => ?_
  obtain ⟨ps3, rfl, hps3⟩ := perm_ints hes3
  have hpl3 : ps3.length = gc.length := by rw [hps3.length_eq, List.length_range]
  have hpn3 : ∀ p ∈ ps3, p < gc.length := fun p hp => List.mem_range.mp (hps3.mem_iff.mp hp)
  unfold lw17
  simp [dfn, envOf, sq, asS, cst, gN, ifS, tsB, tsT, trD, bop, eqO, neO, eqB, ltO, leO, gtO, geO, cmpO, vr, bi, lenB, consA, nilA, seqOf, lstOf, addO, subO, mulO, fdivO, modO, powO, negU, intB, absB, max2B, min2B, sub, subO_, atD, ixD, smallI, nxS, rtS, exS, lstC, lstD, tupD, cal, foS, itR1, itS, mtL, appM, popAtM, gSub, setO, isaB, isT, notT, notV, orT, andT, andV, iteV, tupB, lstB, lstCB, lc, wipD, agS, addI]
  refine ⟨by omega, ?_⟩
  have hsz1' : 1 ≤ sz := by
    obtain ⟨_, _, b1, _⟩ := hcg
    omega
  rw [rng0]
  refine lc_mapA (fun i : Nat => D.int (i : Int)) (fun i : Nat => D.int (i : Int)) _ [] (fun i i1 k hk => ?_) ?_
  · simp [dfn, envOf, sq, asS, cst, gN, ifS, tsB, tsT, trD, bop, eqO, neO, eqB, ltO, leO, gtO, geO, cmpO, vr, bi, lenB, consA, nilA, seqOf, lstOf, addO, subO, mulO, fdivO, modO, powO, negU, intB, absB, max2B, min2B, sub, subO_, atD, ixD, smallI, nxS, rtS, exS, lstC, lstD, tupD, cal, foS, itR1, itS, mtL, appM, popAtM, gSub, setO, isaB, isT, notT, notV, orT, andT, andV, iteV, tupB, lstB, lstCB, lc, wipD, agS, addI]
    exact hk
  simp only [List.nil_append, List.length_map, List.length_range]
  refine ⟨by omega, ?_⟩
  have evs : (((List.range (gc.length - 1)).map fun i : Nat => D.int (i : Int)) ++ [D.int (-1)]) = (((List.range (gc.length - 1)).map fun i : Nat => (i : Int)) ++ [-1]).map D.int := by simp [Function.comp_def]
  rw [evs]
  have vl3 : (((List.range (gc.length - 1)).map fun i : Nat => (i : Int)) ++ [-1]).length = gc.length := by simp; omega
  have vg3 : ∀ p, p < gc.length → (((List.range (gc.length - 1)).map fun i : Nat => (i : Int)) ++ [-1]).getD p 0 = fz gc gc.length p := fun p hp => by
    rw [chain_fz hcg hsz1' gc.length p (by omega)]
    by_cases q : p < sz
    · rw [if_pos ⟨by omega, q⟩]
      have q2 : p < gc.length - 1 := by omega
      rw [List.getD_eq_getElem?_getD, List.getElem?_append_left (by simpa using q2)]
      simp [q2]
    · have q2 : p = gc.length - 1 := by omega
      rw [if_neg (by omega), q2, List.getD_eq_getElem?_getD, List.getElem?_append_right (by simp)]
      simp
  generalize ((List.range (gc.length - 1)).map fun i : Nat => (i : Int)) ++ [-1] = vs3 at vl3 vg3
  unfold lw18
  simp [dfn, envOf, sq, asS, cst, gN, ifS, tsB, tsT, trD, bop, eqO, neO, eqB, ltO, leO, gtO, geO, cmpO, vr, bi, lenB, consA, nilA, seqOf, lstOf, addO, subO, mulO, fdivO, modO, powO, negU, intB, absB, max2B, min2B, sub, subO_, atD, ixD, smallI, nxS, rtS, exS, lstC, lstD, tupD, cal, foS, itR1, itS, mtL, appM, popAtM, gSub, setO, isaB, isT, notT, notV, orT, andT, andV, iteV, tupB, lstB, lstCB, lc, wipD, agS, addI]
  refine hrows (g := gc) kp12.pool hcgr (by omega) (by omega) hpn3 fun rows3 S13 hro3 kp13 => ?_
  refine hranks hro3 hks3 (by omega) hps3 hcgr (by omega) fun S14 kx14 => ?_
  rw [rk_eq]
  refine due_ok (rk := ps3.map (fz gc gc.length)) (vs := vs3) rfl rfl (fun p hp => by rw [vl3]; exact hpn3 p hp) ?_ ?_
  · apply List.map_congr_left
    intro p hp
    rw [vg3 p (hpn3 p hp)]
  refine hsame (by rw [List.length_map]; omega) ?_
  simp
  unfold lw19
  simp [dfn, envOf, sq, asS, cst, gN, ifS, tsB, tsT, trD, bop, eqO, neO, eqB, ltO, leO, gtO, geO, cmpO, vr, bi, lenB, consA, nilA, seqOf, lstOf, addO, subO, mulO, fdivO, modO, powO, negU, intB, absB, max2B, min2B, sub, subO_, atD, ixD, smallI, nxS, rtS, exS, lstC, lstD, tupD, cal, foS, itR1, itS, mtL, appM, popAtM, gSub, setO, isaB, isT, notT, notV, orT, andT, andV, iteV, tupB, lstB, lstCB, lc, wipD, agS, addI]
  refine again _ _ _ fun S15 _ => ?_
  exact hsame hrkl rfl
end
theorem law_D (ns : List Int) (hns : ns.length ≤ 63) : p_law [.arg (ns.map .int)] [] (fun d _ => d = .bl true) noX := by
  have hd : DrawC p_law_draw := @draw_ok
  have hp : PickC p_law_pick := @pick_ok _ @hd
  have hs : SomeC p_law_some := @some_ok _ @hd
  have ht : TargetC p_law_target := @target_ok _ @hd
  have hw : WorthC p_law_worth := @worth_ok
  have hr : ReadyC p_ready_rows := @ready_ok
  have h1 : SameC' p_law_same := fun h k => same_ok h k
  have h2 : RanksC p_ranks := @ranks_ok _ @hr
  have h3 : RowsC p_law_rows := @rows_ok _ _ @hd @hp
  have h5 : KeysC p_law_keys := @keys_ok _ _ @hs @hd
  have h6 : ChainC p_law_chain := @chain_ok _ _ @hd @hp
  have h7 : PoolC' p_law_pool := fun h k => pool_ok h k
  have h8 : ValuesC p_law_values := @values_ok _ @hw
  have h9 : ChangedC p_law_changed := @changed_ok _ _ @hd @hp
  have h10 : GraphC p_law_graph := @graph_ok _ _ _ @hd @ht @hp
  exact law_ok @h1 @h2 @h3 @hs @h5 @h6 @h7 @h8 @h9 @h10 ns hns noX
end K56

/-! K56Head: what the top has written; the statement from the plain law. -/
namespace K56
open PySem PySem.Spec PyProof.Rows L2 Dn
def spLaw (K : PySem.W.Frag) : L2.Sp := fun vs H Q _ => ∃ (a : Addr) (ns : List Int), vs = [.ref a] ∧ SqL K H a (ns.map V.int) ∧ ns.length ≤ 63 ∧ ∀ H', Q (.bl true) H'
theorem rds_ints {T : Tx} {W : Wd} : ∀ ns : List Int, RDs T W (ns.map D.int) (ns.map V.int)
  | [] => .nil
  | _ :: ns => .cons .int (rds_ints ns)
theorem to_law {P : Program} {w : World} {K : PySem.W.Frag} (law_D : ∀ ns : List Int, ns.length ≤ 63 → p_law [.arg (ns.map .int)] [] (fun d _ => d = .bl true) noX) (vs : List V) (H : Hp) (Q : VK) (E : XK) (h : spLaw K vs H Q E) : lSp (TT P w K) p_law vs H Q E := by
  obtain ⟨a, ns, rfl, hS, hl, q⟩ := h
  refine ⟨⟨H, fun _ => 0, [], []⟩, [.arg (ns.map .int)], fun d _ => d = .bl true, rfl, ⟨fun n m c c' h => by simp at h, fun n c h => by simp at h, fun a h => by simp at h⟩, .one ?_, law_D ns hl, fun W' d v _ _ r e => ?_⟩
  · unfold RD
    refine ⟨a, ns.map V.int, rfl, ?_, rds_ints ns⟩
    rcases hS with h | h
    · refine .inl ⟨h, fun l => ?_⟩
      rcases l with ⟨n, c, h, _⟩ | l
      · simp at h
      · simp at l
    · exact .inr h
  · subst e
    rw [r.bl_inv]
    exact q _
theorem all_mk {l : PySem.W.OpenLaw} {w : World} {K : PySem.W.Frag} {h : Heap} {mg : Str → Option Value} {fa f0 f1 f2 f3 f4 f5 f6 f7 f8 f9 f10 f11 f12 f13 f14 f15 : Addr} (X : K.In h) (G : h.Ns mainGlobals mg) (hfa : mg "law" = some (.ref fa))
    {od0 an0 od1 an1 od2 an2 od3 an3 od4 an4 od5 an5 od6 an6 od7 an7 od8 an8 od9 an9 od10 an10 od11 an11 od12 an12 od13 an13 od14 an14 od15 an15 : Option Addr} {sl0 sl1 sl2 sl3 sl4 sl5 sl6 sl7 sl8 sl9 sl10 sl11 sl12 sl13 sl14 sl15 : Array (Option Value)} {oc0 kV0 dc0 pm0 cd0 ct0 oc1 kV1 dc1 pm1 cd1 ct1 oc2 kV2 dc2 pm2 cd2 ct2 oc3 kV3 dc3 pm3 cd3 ct3 oc4 kV4 dc4 pm4 cd4 ct4 oc5 kV5 dc5 pm5 cd5 ct5 oc6 kV6 dc6 pm6 cd6 ct6 oc7 kV7 dc7 pm7 cd7 ct7 oc8 kV8 dc8 pm8 cd8 ct8 oc9 kV9 dc9 pm9 cd9 ct9 oc10 kV10 dc10 pm10 cd10 ct10 oc11 kV11 dc11 pm11 cd11 ct11 oc12 kV12 dc12 pm12 cd12 ct12 oc13 kV13 dc13 pm13 cd13 ct13 oc14 kV14 dc14 pm14 cd14 ct14 oc15 kV15 dc15 pm15 cd15 ct15 : Value}
    (a0 : PySem.W.nsIn K mainGlobals "ranks" = some (some (.ref f0))) (l0 : K.lookup f0 = some ⟨oc0, od0, .func (PySem.W.fnOf "ranks" "ranks" (defArgs s_ranks) (defBody s_ranks) (defScope s_ranks) .none kV0 dc0 pm0 an0 cd0 ct0), sl0⟩) (c0 : PySem.W.codeIn K cd0 "ranks" = true) (k0 : PySem.W.keepIn K (.ref f0) = true)
    (a1 : PySem.W.nsIn K mainGlobals "ready_rows" = some (some (.ref f1))) (l1 : K.lookup f1 = some ⟨oc1, od1, .func (PySem.W.fnOf "ready_rows" "ready_rows" (defArgs s_ready_rows) (defBody s_ready_rows) (defScope s_ready_rows) .none kV1 dc1 pm1 an1 cd1 ct1), sl1⟩) (c1 : PySem.W.codeIn K cd1 "ready_rows" = true) (k1 : PySem.W.keepIn K (.ref f1) = true)
    (a2 : PySem.W.nsIn K mainGlobals "_law_pool" = some (some (.ref f2))) (l2 : K.lookup f2 = some ⟨oc2, od2, .func (PySem.W.fnOf "_law_pool" "_law_pool" (defArgs s_law_pool) (defBody s_law_pool) (defScope s_law_pool) .none kV2 dc2 pm2 an2 cd2 ct2), sl2⟩) (c2 : PySem.W.codeIn K cd2 "_law_pool" = true) (k2 : PySem.W.keepIn K (.ref f2) = true)
    (a3 : PySem.W.nsIn K mainGlobals "_law_draw" = some (some (.ref f3))) (l3 : K.lookup f3 = some ⟨oc3, od3, .func (PySem.W.fnOf "_law_draw" "_law_draw" (defArgs s_law_draw) (defBody s_law_draw) (defScope s_law_draw) .none kV3 dc3 pm3 an3 cd3 ct3), sl3⟩) (c3 : PySem.W.codeIn K cd3 "_law_draw" = true) (k3 : PySem.W.keepIn K (.ref f3) = true)
    (a4 : PySem.W.nsIn K mainGlobals "_law_pick" = some (some (.ref f4))) (l4 : K.lookup f4 = some ⟨oc4, od4, .func (PySem.W.fnOf "_law_pick" "_law_pick" (defArgs s_law_pick) (defBody s_law_pick) (defScope s_law_pick) .none kV4 dc4 pm4 an4 cd4 ct4), sl4⟩) (c4 : PySem.W.codeIn K cd4 "_law_pick" = true) (k4 : PySem.W.keepIn K (.ref f4) = true)
    (a5 : PySem.W.nsIn K mainGlobals "_law_some" = some (some (.ref f5))) (l5 : K.lookup f5 = some ⟨oc5, od5, .func (PySem.W.fnOf "_law_some" "_law_some" (defArgs s_law_some) (defBody s_law_some) (defScope s_law_some) .none kV5 dc5 pm5 an5 cd5 ct5), sl5⟩) (c5 : PySem.W.codeIn K cd5 "_law_some" = true) (k5 : PySem.W.keepIn K (.ref f5) = true)
    (a6 : PySem.W.nsIn K mainGlobals "_law_same" = some (some (.ref f6))) (l6 : K.lookup f6 = some ⟨oc6, od6, .func (PySem.W.fnOf "_law_same" "_law_same" (defArgs s_law_same) (defBody s_law_same) (defScope s_law_same) .none kV6 dc6 pm6 an6 cd6 ct6), sl6⟩) (c6 : PySem.W.codeIn K cd6 "_law_same" = true) (k6 : PySem.W.keepIn K (.ref f6) = true)
    (a7 : PySem.W.nsIn K mainGlobals "_law_target" = some (some (.ref f7))) (l7 : K.lookup f7 = some ⟨oc7, od7, .func (PySem.W.fnOf "_law_target" "_law_target" (defArgs s_law_target) (defBody s_law_target) (defScope s_law_target) .none kV7 dc7 pm7 an7 cd7 ct7), sl7⟩) (c7 : PySem.W.codeIn K cd7 "_law_target" = true) (k7 : PySem.W.keepIn K (.ref f7) = true)
    (a8 : PySem.W.nsIn K mainGlobals "_law_graph" = some (some (.ref f8))) (l8 : K.lookup f8 = some ⟨oc8, od8, .func (PySem.W.fnOf "_law_graph" "_law_graph" (defArgs s_law_graph) (defBody s_law_graph) (defScope s_law_graph) .none kV8 dc8 pm8 an8 cd8 ct8), sl8⟩) (c8 : PySem.W.codeIn K cd8 "_law_graph" = true) (k8 : PySem.W.keepIn K (.ref f8) = true)
    (a9 : PySem.W.nsIn K mainGlobals "_law_changed" = some (some (.ref f9))) (l9 : K.lookup f9 = some ⟨oc9, od9, .func (PySem.W.fnOf "_law_changed" "_law_changed" (defArgs s_law_changed) (defBody s_law_changed) (defScope s_law_changed) .none kV9 dc9 pm9 an9 cd9 ct9), sl9⟩) (c9 : PySem.W.codeIn K cd9 "_law_changed" = true) (k9 : PySem.W.keepIn K (.ref f9) = true)
    (a10 : PySem.W.nsIn K mainGlobals "_law_chain" = some (some (.ref f10))) (l10 : K.lookup f10 = some ⟨oc10, od10, .func (PySem.W.fnOf "_law_chain" "_law_chain" (defArgs s_law_chain) (defBody s_law_chain) (defScope s_law_chain) .none kV10 dc10 pm10 an10 cd10 ct10), sl10⟩) (c10 : PySem.W.codeIn K cd10 "_law_chain" = true) (k10 : PySem.W.keepIn K (.ref f10) = true)
    (a11 : PySem.W.nsIn K mainGlobals "_law_keys" = some (some (.ref f11))) (l11 : K.lookup f11 = some ⟨oc11, od11, .func (PySem.W.fnOf "_law_keys" "_law_keys" (defArgs s_law_keys) (defBody s_law_keys) (defScope s_law_keys) .none kV11 dc11 pm11 an11 cd11 ct11), sl11⟩) (c11 : PySem.W.codeIn K cd11 "_law_keys" = true) (k11 : PySem.W.keepIn K (.ref f11) = true)
    (a12 : PySem.W.nsIn K mainGlobals "_law_rows" = some (some (.ref f12))) (l12 : K.lookup f12 = some ⟨oc12, od12, .func (PySem.W.fnOf "_law_rows" "_law_rows" (defArgs s_law_rows) (defBody s_law_rows) (defScope s_law_rows) .none kV12 dc12 pm12 an12 cd12 ct12), sl12⟩) (c12 : PySem.W.codeIn K cd12 "_law_rows" = true) (k12 : PySem.W.keepIn K (.ref f12) = true)
    (a13 : PySem.W.nsIn K mainGlobals "_law_worth" = some (some (.ref f13))) (l13 : K.lookup f13 = some ⟨oc13, od13, .func (PySem.W.fnOf "_law_worth" "_law_worth" (defArgs s_law_worth) (defBody s_law_worth) (defScope s_law_worth) .none kV13 dc13 pm13 an13 cd13 ct13), sl13⟩) (c13 : PySem.W.codeIn K cd13 "_law_worth" = true) (k13 : PySem.W.keepIn K (.ref f13) = true)
    (a14 : PySem.W.nsIn K mainGlobals "_law_values" = some (some (.ref f14))) (l14 : K.lookup f14 = some ⟨oc14, od14, .func (PySem.W.fnOf "_law_values" "_law_values" (defArgs s_law_values) (defBody s_law_values) (defScope s_law_values) .none kV14 dc14 pm14 an14 cd14 ct14), sl14⟩) (c14 : PySem.W.codeIn K cd14 "_law_values" = true) (k14 : PySem.W.keepIn K (.ref f14) = true)
    (a15 : PySem.W.nsIn K mainGlobals "law" = some (some (.ref f15))) (l15 : K.lookup f15 = some ⟨oc15, od15, .func (PySem.W.fnOf "law" "law" (defArgs s_law) (defBody s_law) (defScope s_law) .none kV15 dc15 pm15 an15 cd15 ct15), sl15⟩) (c15 : PySem.W.codeIn K cd15 "law" = true) (k15 : PySem.W.keepIn K (.ref f15) = true)
    (y_tuple : PySem.W.nsIn K mainGlobals "tuple" = some none) (y_len : PySem.W.nsIn K mainGlobals "len" = some none) (y_range : PySem.W.nsIn K mainGlobals "range" = some none) (y_enumerate : PySem.W.nsIn K mainGlobals "enumerate" = some none) (y_min : PySem.W.nsIn K mainGlobals "min" = some none) (y_max : PySem.W.nsIn K mainGlobals "max" = some none) (y_int : PySem.W.nsIn K mainGlobals "int" = some none) (y_abs : PySem.W.nsIn K mainGlobals "abs" = some none) (y_list : PySem.W.nsIn K mainGlobals "list" = some none) (y_isinstance : PySem.W.nsIn K mainGlobals "isinstance" = some none) (y_bool : PySem.W.nsIn K mainGlobals "bool" = some none) :
    ∃ fd : FuncData, (∀ (s : Shared) (v : Value), BindsTo s fd ⟨[v], []⟩ [("script", v)]) ∧ ∀ base : Heap, K.In base → base.Ns mainGlobals mg → FnOk l.prog w K mg base CX0 4 fa fd ["script"] (spLaw K) := by
  have e := hfa.symm.trans (PySem.W.mg_of X G a15)
  cases e
  refine ⟨PySem.W.fnOf "law" "law" (defArgs s_law) (defBody s_law) (defScope s_law) .none kV15 dc15 pm15 an15 cd15 ct15, fun s v => .of_eq rfl, fun base _ _ => ?_⟩
  have z_tuple := PySem.W.mg_none_of X G y_tuple
  have z_len := PySem.W.mg_none_of X G y_len
  have z_range := PySem.W.mg_none_of X G y_range
  have z_enumerate := PySem.W.mg_none_of X G y_enumerate
  have z_min := PySem.W.mg_none_of X G y_min
  have z_max := PySem.W.mg_none_of X G y_max
  have z_int := PySem.W.mg_none_of X G y_int
  have z_abs := PySem.W.mg_none_of X G y_abs
  have z_list := PySem.W.mg_none_of X G y_list
  have z_isinstance := PySem.W.mg_none_of X G y_isinstance
  have z_bool := PySem.W.mg_none_of X G y_bool
  have F6 := fun_mk (st := s_law_same) l6 c6 k6
  have b6 := F6.binds (ps := ["got", "due"]) fun _ _ _ _ _ _ us hl => match us, hl with | [_, _], _ => rfl
  have R0 : FnOk l.prog w K mg base CX0 0 f6 (PySem.W.fnOf "_law_same" "_law_same" (defArgs s_law_same) (defBody s_law_same) (defScope s_law_same) .none kV6 dc6 pm6 an6 cd6 ct6) ["got", "due"] (lSp (TT l.prog w K) (r_law_same 0)) := ⟨fun _ _ _ _ h => (by obtain ⟨_, _, _, _, _, _, q, _⟩ := h; exact q.elim), fun _ _ _ _ _ _ _ _ _ _ _ _ _ h => (by obtain ⟨_, _, _, _, _, _, q, _⟩ := h; exact q.elim)⟩
  have D0 : Df l.prog w K mg base "_law_same" 0 ["got", "due"] (r_law_same 0) := ⟨f6, _, R0, PySem.W.mg_of X G a6, k6, b6⟩
  have D1 : Df l.prog w K mg base "_law_same" 1 ["got", "due"] (r_law_same 1) := ⟨f6, _, ok_law_same F6 D0 z_isinstance z_bool z_int z_tuple z_range z_len, PySem.W.mg_of X G a6, k6, b6⟩
  have D2 : Df l.prog w K mg base "_law_same" 2 ["got", "due"] (r_law_same 2) := ⟨f6, _, ok_law_same F6 D1 z_isinstance z_bool z_int z_tuple z_range z_len, PySem.W.mg_of X G a6, k6, b6⟩
  have D_law_same := D2
  have F1 := fun_mk (st := s_ready_rows) l1 c1 k1
  have b1 := F1.binds (ps := ["graph", "found"]) fun _ _ _ _ _ _ us hl => match us, hl with | [_, _], _ => rfl
  have D_ready_rows : Df l.prog w K mg base "ready_rows" 1 ["graph", "found"] p_ready_rows := ⟨f1, _, ok_ready_rows F1 z_enumerate z_min z_max, PySem.W.mg_of X G a1, k1, b1⟩
  have F0 := fun_mk (st := s_ranks) l0 c0 k0
  have b0 := F0.binds (ps := ["rows"]) fun _ _ _ _ _ _ us hl => match us, hl with | [_], _ => rfl
  have D_ranks : Df l.prog w K mg base "ranks" 2 ["rows"] p_ranks := ⟨f0, _, ok_ranks F0 D_ready_rows z_tuple z_len z_range, PySem.W.mg_of X G a0, k0, b0⟩
  have F3 := fun_mk (st := s_law_draw) l3 c3 k3
  have b3 := F3.binds (ps := ["pool", "many"]) fun _ _ _ _ _ _ us hl => match us, hl with | [_, _], _ => rfl
  have D_law_draw : Df l.prog w K mg base "_law_draw" 1 ["pool", "many"] p_law_draw := ⟨f3, _, ok_law_draw F3 z_int, PySem.W.mg_of X G a3, k3, b3⟩
  have F4 := fun_mk (st := s_law_pick) l4 c4 k4
  have b4 := F4.binds (ps := ["pool", "row"]) fun _ _ _ _ _ _ us hl => match us, hl with | [_, _], _ => rfl
  have D_law_pick : Df l.prog w K mg base "_law_pick" 2 ["pool", "row"] p_law_pick := ⟨f4, _, ok_law_pick F4 D_law_draw z_len, PySem.W.mg_of X G a4, k4, b4⟩
  have F12 := fun_mk (st := s_law_rows) l12 c12 k12
  have b12 := F12.binds (ps := ["pool", "graph", "keys", "places"]) fun _ _ _ _ _ _ us hl => match us, hl with | [_, _, _, _], _ => rfl
  have D_law_rows : Df l.prog w K mg base "_law_rows" 3 ["pool", "graph", "keys", "places"] p_law_rows := ⟨f12, _, ok_law_rows F12 D_law_draw D_law_pick z_tuple z_range z_len, PySem.W.mg_of X G a12, k12, b12⟩
  have F5 := fun_mk (st := s_law_some) l5 c5 k5
  have b5 := F5.binds (ps := ["pool", "row", "many"]) fun _ _ _ _ _ _ us hl => match us, hl with | [_, _, _], _ => rfl
  have D_law_some : Df l.prog w K mg base "_law_some" 2 ["pool", "row", "many"] p_law_some := ⟨f5, _, ok_law_some F5 D_law_draw z_tuple z_range z_len z_list, PySem.W.mg_of X G a5, k5, b5⟩
  have F11 := fun_mk (st := s_law_keys) l11 c11 k11
  have b11 := F11.binds (ps := ["pool", "size"]) fun _ _ _ _ _ _ us hl => match us, hl with | [_, _], _ => rfl
  have D_law_keys : Df l.prog w K mg base "_law_keys" 3 ["pool", "size"] p_law_keys := ⟨f11, _, ok_law_keys F11 D_law_some D_law_draw z_range, PySem.W.mg_of X G a11, k11, b11⟩
  have F10 := fun_mk (st := s_law_chain) l10 c10 k10
  have b10 := F10.binds (ps := ["pool"]) fun _ _ _ _ _ _ us hl => match us, hl with | [_], _ => rfl
  have D_law_chain : Df l.prog w K mg base "_law_chain" 3 ["pool"] p_law_chain := ⟨f10, _, ok_law_chain F10 D_law_pick D_law_draw z_range, PySem.W.mg_of X G a10, k10, b10⟩
  have F2 := fun_mk (st := s_law_pool) l2 c2 k2
  have b2 := F2.binds (ps := ["script", "place"]) fun _ _ _ _ _ _ us hl => match us, hl with | [_, _], _ => rfl
  have D_law_pool : Df l.prog w K mg base "_law_pool" 1 ["script", "place"] p_law_pool := ⟨f2, _, ok_law_pool F2 z_int z_len z_abs, PySem.W.mg_of X G a2, k2, b2⟩
  have F13 := fun_mk (st := s_law_worth) l13 c13 k13
  have b13 := F13.binds (ps := ["moves", "worth", "far"]) fun _ _ _ _ _ _ us hl => match us, hl with | [_, _, _], _ => rfl
  have D_law_worth : Df l.prog w K mg base "_law_worth" 1 ["moves", "worth", "far"] p_law_worth := ⟨f13, _, ok_law_worth F13 z_min z_max, PySem.W.mg_of X G a13, k13, b13⟩
  have F14 := fun_mk (st := s_law_values) l14 c14 k14
  have b14 := F14.binds (ps := ["graph"]) fun _ _ _ _ _ _ us hl => match us, hl with | [_], _ => rfl
  have D_law_values : Df l.prog w K mg base "_law_values" 2 ["graph"] p_law_values := ⟨f14, _, ok_law_values F14 D_law_worth z_range z_int z_len, PySem.W.mg_of X G a14, k14, b14⟩
  have F9 := fun_mk (st := s_law_changed) l9 c9 k9
  have b9 := F9.binds (ps := ["pool", "graph", "values"]) fun _ _ _ _ _ _ us hl => match us, hl with | [_, _, _], _ => rfl
  have D_law_changed : Df l.prog w K mg base "_law_changed" 3 ["pool", "graph", "values"] p_law_changed := ⟨f9, _, ok_law_changed F9 D_law_pick D_law_draw z_len z_range z_list, PySem.W.mg_of X G a9, k9, b9⟩
  have F7 := fun_mk (st := s_law_target) l7 c7 k7
  have b7 := F7.binds (ps := ["pool", "way", "i", "size"]) fun _ _ _ _ _ _ us hl => match us, hl with | [_, _, _, _], _ => rfl
  have D_law_target : Df l.prog w K mg base "_law_target" 2 ["pool", "way", "i", "size"] p_law_target := ⟨f7, _, ok_law_target F7 D_law_draw z_max, PySem.W.mg_of X G a7, k7, b7⟩
  have F8 := fun_mk (st := s_law_graph) l8 c8 k8
  have b8 := F8.binds (ps := ["pool"]) fun _ _ _ _ _ _ us hl => match us, hl with | [_], _ => rfl
  have D_law_graph : Df l.prog w K mg base "_law_graph" 3 ["pool"] p_law_graph := ⟨f8, _, ok_law_graph F8 D_law_target D_law_pick D_law_draw z_range, PySem.W.mg_of X G a8, k8, b8⟩
  have F15 := fun_mk (st := s_law) l15 c15 k15
  exact (ok_law F15 D_law_same D_ranks D_law_rows D_law_some D_law_keys D_law_chain D_law_pool D_law_values D_law_changed D_law_graph z_tuple z_range z_len).imp (to_law law_D)
end K56
open PySem PySem.W PyProof.Rows
set_option maxHeartbeats 0 in
theorem PySem.Challenge.cw_gridstead_k56_ranks_of_any_graph_holds : PySem.Challenge.rw_gridstead_k56_ranks_of_any_graph.Holds := by
  w_on; o_law; k_head; (case hw => w_witness2)
  k_fill
  refine L2.walk_of (l := PySem.Challenge.rw_gridstead_k56_ranks_of_any_graph) (n := 63) (k := 4) (x := "script") (CX := fun _ => L2.CX0) (sp := fun w => K56.spLaw _) rfl (by decide) rfl ⟨rfl, by decide, by decide⟩ (fun w h Y => PySem.W.kIn_of Y) ?F (fun _ _ a ns hl _ hS => ⟨a, ns, rfl, hS, hl, fun _ => rfl⟩) (fun _ _ _ _ _ h => h)
  case F =>
    intro w mg fa h KX G hmg
    refine' K56.all_mk KX G hmg ?a0 ?l0 ?c0 ?k0 ?a1 ?l1 ?c1 ?k1 ?a2 ?l2 ?c2 ?k2 ?a3 ?l3 ?c3 ?k3 ?a4 ?l4 ?c4 ?k4 ?a5 ?l5 ?c5 ?k5 ?a6 ?l6 ?c6 ?k6 ?a7 ?l7 ?c7 ?k7 ?a8 ?l8 ?c8 ?k8 ?a9 ?l9 ?c9 ?k9 ?a10 ?l10 ?c10 ?k10 ?a11 ?l11 ?c11 ?k11 ?a12 ?l12 ?c12 ?k12 ?a13 ?l13 ?c13 ?k13 ?a14 ?l14 ?c14 ?k14 ?a15 ?l15 ?c15 ?k15 ?y_tuple ?y_len ?y_range ?y_enumerate ?y_min ?y_max ?y_int ?y_abs ?y_list ?y_isinstance ?y_bool
    (case a0 => k_is); (case l0 => k_is); (case c0 => k_is); (case k0 => k_is); (case a1 => k_is); (case l1 => k_is); (case c1 => k_is); (case k1 => k_is); (case a2 => k_is); (case l2 => k_is); (case c2 => k_is); (case k2 => k_is); (case a3 => k_is); (case l3 => k_is); (case c3 => k_is); (case k3 => k_is); (case a4 => k_is); (case l4 => k_is); (case c4 => k_is); (case k4 => k_is); (case a5 => k_is); (case l5 => k_is); (case c5 => k_is); (case k5 => k_is); (case a6 => k_is); (case l6 => k_is); (case c6 => k_is); (case k6 => k_is); (case a7 => k_is); (case l7 => k_is); (case c7 => k_is); (case k7 => k_is); (case a8 => k_is); (case l8 => k_is); (case c8 => k_is); (case k8 => k_is); (case a9 => k_is); (case l9 => k_is); (case c9 => k_is); (case k9 => k_is); (case a10 => k_is); (case l10 => k_is); (case c10 => k_is); (case k10 => k_is); (case a11 => k_is); (case l11 => k_is); (case c11 => k_is); (case k11 => k_is); (case a12 => k_is); (case l12 => k_is); (case c12 => k_is); (case k12 => k_is); (case a13 => k_is); (case l13 => k_is); (case c13 => k_is); (case k13 => k_is); (case a14 => k_is); (case l14 => k_is); (case c14 => k_is); (case k14 => k_is); (case a15 => k_is); (case l15 => k_is); (case c15 => k_is); (case k15 => k_is); (case y_tuple => k_is); (case y_len => k_is); (case y_range => k_is); (case y_enumerate => k_is); (case y_min => k_is); (case y_max => k_is); (case y_int => k_is); (case y_abs => k_is); (case y_list => k_is); (case y_isinstance => k_is); (case y_bool => k_is)
