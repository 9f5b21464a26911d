import PyProof.Rows.All
import Wide.All
import OpenK.AllK
import Wide.FinOn
import HandS.ForMost
import HandS.Flow
import HandS.TupAny
import HandS.IsInst
import HandS.Zip
import HandS.Conv
import HandS.EndBits
import HandS.Text
import HandS.SortInts
import HandS.Star
import HandS.Small
import HandS.Dict
import HandS.DictComp
import KE.KDictSum
import HandS.Iter
import KE.GoesZip
import KE.GoesMore
import KE.GoesEnum
import KE.KDictList
import KE.KRevIter
import HandS.RevTup
import HandS.Rev
import PySem.Challenge.RW_metorshut_k30_values
section PartPdCore
set_option linter.all false
/-! Pd: a data-level weakest-precondition semantics of the Python that the laws use.
Values are plain data (tuples are values, lists and dicts are numbers of cells of a store).
A reading takes what is wanted behind. Own work. -/
namespace Pd
open PySem

inductive D where
  | non
  | bl (b : Bool)
  | int (i : Int)
  | str (x : Str)
  | tup (xs : List D)
  | ref (n : Nat)
  deriving Inhabited

/-- a cell of the store -/
inductive C where
  | lst (xs : List D)
  | frz (xs : List D)
  | dic (kvs : List (Sum Int Str × D))
  deriving Inhabited

abbrev Store := List C
abbrev Env := List (Option D)
abbrev K := D → Store → Prop
abbrev TE := Env → Store → K → Prop
abbrev TT := Env → Store → (Bool → Store → Prop) → Prop
abbrev TA := Env → Store → (List D → Store → Prop) → Prop
structure Ends where
  nx : Env → Store → Prop
  rt : K
  bk : Env → Store → Prop := fun _ _ => False
  ct : Env → Store → Prop := fun _ _ => False
abbrev TS := Ends → Env → Store → Prop
/-- what the calls of own defs do -/
abbrev Cl := String → List D → Store → K → Prop

/-- the longest that the model's lists and texts may be -/
def szl : Nat := 16777216

def lk : Env → Nat → Option D
  | [], _ => none
  | x :: _, 0 => x
  | _ :: r, n + 1 => lk r n
def wipeE : Env → List Nat → Env
  | ρ, [] => ρ
  | ρ, v :: vs => (wipeE ρ vs).set v none

/-! ### data: pure, depth, equality -/
/-- a text of code points -/
def okS (x : Str) : Bool := x.cps.toList.all fun c => decide (c < 1114112)
mutual
def D.okd : Nat → D → Bool
  | _, .non => true
  | _, .bl _ => true
  | _, .int _ => true
  | _, .str x => okS x
  | 0, .tup _ => false
  | n + 1, .tup xs => okds n xs
  | _, .ref _ => false
def okds : Nat → List D → Bool
  | _, [] => true
  | n, x :: xs => D.okd n x && okds n xs
end
def b2i (b : Bool) : Int := if b then 1 else 0
mutual
def D.eqb : D → D → Bool
  | .non, .non => true
  | .bl a, .bl b => a == b
  | .bl a, .int j => b2i a == j
  | .int i, .bl b => i == b2i b
  | .int i, .int j => i == j
  | .str x, .str y => decide (x = y)
  | .tup xs, .tup ys => eqbs xs ys
  | _, _ => false
def eqbs : List D → List D → Bool
  | [], [] => true
  | x :: xs, y :: ys => D.eqb x y && eqbs xs ys
  | _, _ => false
end
def D.flat : D → Bool
  | .non => true
  | .bl _ => true
  | .int _ => true
  | .str _ => true
  | _ => false

/-! ### the store -/
/-- at n a list that may be changed -/
def rdL (st : Store) (n : Nat) (xs : List D) : Prop := st[n]? = some (.lst xs)
/-- at n a list -/
def rdA (st : Store) (n : Nat) (xs : List D) : Prop := st[n]? = some (.lst xs) ∨ st[n]? = some (.frz xs)
def rdD (st : Store) (n : Nat) (kvs : List (Sum Int Str × D)) : Prop := st[n]? = some (.dic kvs)

/-! ### expressions -/
def dC (d : D) : TE := fun _ st Q => Q d st
def dVar (i : Nat) : TE := fun σ st Q => ∃ d, lk σ i = some d ∧ Q d st
abbrev K2 := D → D → Store → K → Prop
def dOp (k : K2) (ta tb : TE) : TE := fun σ st Q => ta σ st fun x st1 => tb σ st1 fun y st2 => k x y st2 Q
def dUn (k : D → Store → K → Prop) (ta : TE) : TE := fun σ st Q => ta σ st fun x st1 => k x st1 Q

def cMul (i j : Int) : Prop := (-(2 ^ 64) < i ∧ i < 2 ^ 64) ∨ (-(2 ^ 64) < j ∧ j < 2 ^ 64)
def cPow (i j : Int) : Prop := 0 ≤ j ∧ j ≤ 1000000 ∧ i.natAbs < 2 ^ 64
def addK : K2
  | .int a, .int b, st, Q => Q (.int (a + b)) st
  | .str a, .str b, st, Q => a.length + b.length ≤ szl ∧ Q (.str (a ++ b)) st
  | .tup a, .tup b, st, Q => a.length + b.length ≤ szl ∧ Q (.tup (a ++ b)) st
  | .ref m, .ref n, st, Q => ∃ a b, rdL st m a ∧ rdL st n b ∧ a.length + b.length ≤ szl ∧ Q (.ref st.length) (st ++ [.lst (a ++ b)])
  | _, _, _, _ => False
def subK : K2
  | .int a, .int b, st, Q => Q (.int (a - b)) st
  | _, _, _, _ => False
def mulK : K2
  | .int a, .int b, st, Q => cMul a b ∧ Q (.int (a * b)) st
  | .ref m, .int k, st, Q => ∃ xs, rdL st m xs ∧ -(2 ^ 63) ≤ k ∧ k < 2 ^ 63 ∧ xs.length * k.toNat ≤ szl ∧ Q (.ref st.length) (st ++ [.lst (List.replicate k.toNat xs).flatten])
  | _, _, _, _ => False
def fdivK : K2
  | .int a, .int b, st, Q => (0 < b ∧ b < 1073741824) ∧ Q (.int (a / b)) st
  | _, _, _, _ => False
def modK : K2
  | .int a, .int b, st, Q => 0 < b ∧ Q (.int (a % b)) st
  | _, _, _, _ => False
def powK : K2
  | .int a, .int b, st, Q => cPow a b ∧ Q (.int (a ^ b.toNat)) st
  | _, _, _, _ => False
def shlK : K2
  | .int a, .int b, st, Q => cPow a b ∧ Q (.int (a * 2 ^ b.toNat)) st
  | _, _, _, _ => False
def shrK : K2
  | .int a, .int b, st, Q => 0 ≤ b ∧ Q (.int (a / 2 ^ b.toNat)) st
  | _, _, _, _ => False
def andK : K2
  | .int a, .int b, st, Q => Q (.int (Builtin.bitAnd a b)) st
  | _, _, _, _ => False
def orK : K2
  | .int a, .int b, st, Q => Q (.int (Builtin.bitOr a b)) st
  | _, _, _, _ => False
def xorK : K2
  | .int a, .int b, st, Q => Q (.int (Builtin.bitXor a b)) st
  | _, _, _, _ => False
/-- op= of ints and texts -/
def iaddK : K2
  | .int a, .int b, st, Q => Q (.int (a + b)) st
  | .str a, .str b, st, Q => a.length + b.length ≤ szl ∧ Q (.str (a ++ b)) st
  | _, _, _, _ => False
def negK : D → Store → K → Prop
  | .int a, st, Q => Q (.int (-a)) st
  | _, _, _ => False
def invK : D → Store → K → Prop
  | .int a, st, Q => Q (.int (Builtin.bitNot a)) st
  | _, _, _ => False

/-! ### comparisons -/
abbrev KC := D → D → Store → (Bool → Prop) → Prop
def dCmp (k : KC) (ta tb : TE) : TE := fun σ st Q => ta σ st fun x st1 => tb σ st1 fun y st2 => k x y st2 fun b => Q (.bl b) st2
def dChain (k k' : KC) (ta tb tc : TE) : TE := fun σ st Q => ta σ st fun x st1 => tb σ st1 fun y st2 => k x y st2 fun b =>
  (b = true → tc σ st2 fun z st3 => k' y z st3 fun b' => Q (.bl b') st3) ∧ (b = false → Q (.bl false) st2)
/-- == -/
def eqC : KC
  | .ref m, .ref n, st, Q => ∃ xs ys, rdA st m xs ∧ rdA st n ys ∧ okds 60 xs = true ∧ okds 60 ys = true ∧ Q (eqbs xs ys)
  | .ref m, y, st, Q => ∃ xs, rdA st m xs ∧ okds 60 xs = true ∧ D.okd 60 y = true ∧ Q false
  | x, .ref n, st, Q => ∃ ys, rdA st n ys ∧ okds 60 ys = true ∧ D.okd 60 x = true ∧ Q false
  | x, y, st, Q => D.okd 60 x = true ∧ D.okd 60 y = true ∧ Q (D.eqb x y)
def neC : KC := fun x y st Q => eqC x y st fun b => Q (!b)
def ltC : KC
  | .int a, .int b, _, Q => Q (decide (a < b))
  | _, _, _, _ => False
def leC : KC
  | .int a, .int b, _, Q => Q (decide (a ≤ b))
  | _, _, _, _ => False
def gtC : KC
  | .int a, .int b, _, Q => Q (decide (b < a))
  | _, _, _, _ => False
def geC : KC
  | .int a, .int b, _, Q => Q (decide (b ≤ a))
  | _, _, _, _ => False
def isNon : D → Bool
  | .non => true
  | _ => false
def isC : KC
  | x, .non, _, Q => Q (isNon x)
  | _, _, _, _ => False
def isntC : KC
  | x, .non, _, Q => Q (!isNon x)
  | _, _, _, _ => False
def inC : KC
  | x, .tup xs, _, Q => x.flat = true ∧ xs.all D.flat = true ∧ Q (xs.any fun y => D.eqb y x)
  | x, .ref n, st, Q => ∃ xs, rdA st n xs ∧ x.flat = true ∧ xs.all D.flat = true ∧ Q (xs.any fun y => D.eqb y x)
  | _, _, _, _ => False
def notinC : KC := fun x y st Q => inC x y st fun b => Q (!b)

/-! ### truth -/
def truK : D → Store → (Bool → Prop) → Prop
  | .non, _, Q => Q false
  | .bl b, _, Q => Q b
  | .int i, _, Q => Q (i != 0)
  | .str y, _, Q => y.length ≤ szl ∧ Q ((y.length : Int) != 0)
  | .tup xs, _, Q => Q (!xs.isEmpty)
  | .ref n, st, Q => ∃ xs, rdA st n xs ∧ Q (!xs.isEmpty)
def tTru (t : TE) : TT := fun σ st Q => t σ st fun x st1 => truK x st1 fun b => Q b st1
def tAnd (t u : TT) : TT := fun σ st Q => t σ st fun c st1 => (c = true → u σ st1 Q) ∧ (c = false → Q false st1)
def tOr (t u : TT) : TT := fun σ st Q => t σ st fun c st1 => (c = true → Q true st1) ∧ (c = false → u σ st1 Q)
def tNot (t : TT) : TT := fun σ st Q => t σ st fun c st1 => Q (!c) st1
def dAndT (ta tb : TE) : TE := fun σ st Q => ta σ st fun x st1 => truK x st1 fun c => (c = true → tb σ st1 Q) ∧ (c = false → Q x st1)
def dOrT (ta tb : TE) : TE := fun σ st Q => ta σ st fun x st1 => truK x st1 fun c => (c = true → Q x st1) ∧ (c = false → tb σ st1 Q)
def dNotT (ta : TE) : TE := fun σ st Q => ta σ st fun x st1 => truK x st1 fun c => Q (.bl (!c)) st1
def dIf (c : TT) (a b : TE) : TE := fun σ st Q => c σ st fun k st1 => (k = true → a σ st1 Q) ∧ (k = false → b σ st1 Q)

/-! ### items, slices, displays, calls -/
def atD {α : Type} (xs : List α) (i : Int) : Option α := if 0 ≤ i then xs[i.toNat]? else if -(xs.length : Int) ≤ i then xs[(i + xs.length).toNat]? else none
def ixK : K2
  | .tup xs, .int i, st, Q => ∃ d, atD xs i = some d ∧ Q d st
  | .ref n, .int i, st, Q => ∃ xs d, rdA st n xs ∧ atD xs i = some d ∧ Q d st
  | .str z, .int i, st, Q => ∃ c, z.length ≤ szl ∧ atD z.cps.toList i = some c ∧ Q (.str ⟨#[c]⟩) st
  | _, _, _, _ => False
/-- where a slice's end lies -/
def cl (n : Nat) (i : Int) : Nat := if i < 0 then (i + n).toNat else min i.toNat n
def cutD {α : Type} (xs : List α) (lo hi : Option Int) : List α :=
  (xs.drop ((lo.map (cl xs.length)).getD 0)).take ((hi.map (cl xs.length)).getD xs.length - (lo.map (cl xs.length)).getD 0)
abbrev TO := Env → Store → (Option Int → Store → Prop) → Prop
def oNone : TO := fun _ st Q => Q none st
def oSome (t : TE) : TO := fun σ st Q => t σ st fun x st1 => ∃ i, x = .int i ∧ Q (some i) st1
def slK : D → Option Int → Option Int → Store → K → Prop
  | .tup xs, lo, hi, st, Q => Q (.tup (cutD xs lo hi)) st
  | .ref n, lo, hi, st, Q => ∃ xs, rdA st n xs ∧ Q (.ref st.length) (st ++ [.lst (cutD xs lo hi)])
  | _, _, _, _, _ => False
def dSl (te : TE) (tl th : TO) : TE := fun σ st Q => te σ st fun x st1 => tl σ st1 fun lo st2 => th σ st2 fun hi st3 => slK x lo hi st3 Q
def aNil : TA := fun _ st Q => Q [] st
def aCons (t : TE) (r : TA) : TA := fun σ st Q => t σ st fun x st1 => r σ st1 fun xs st2 => Q (x :: xs) st2
def dTup (t : TA) : TE := fun σ st Q => t σ st fun xs st1 => xs.length ≤ szl ∧ Q (.tup xs) st1
def dLst (t : TA) : TE := fun σ st Q => t σ st fun xs st1 => xs.length ≤ szl ∧ Q (.ref st1.length) (st1 ++ [.lst xs])
def dCall (c : Cl) (f : String) (t : TA) : TE := fun σ st Q => t σ st fun xs st1 => c f xs st1 Q
/-- a built-in -/
abbrev KB := List D → Store → K → Prop
def dB (k : KB) (t : TA) : TE := fun σ st Q => t σ st fun xs st1 => k xs st1 Q
/-- a method of a built-in type -/
abbrev KM := D → List D → Store → K → Prop
def dM (ty : D → Store → Prop) (k : KM) (to : TE) (t : TA) : TE := fun σ st Q => to σ st fun o st1 => ty o st1 ∧ t σ st1 fun xs st2 => k o xs st2 Q
def tyLst : D → Store → Prop
  | .ref n, st => ∃ xs, rdL st n xs
  | _, _ => False
def tyLstA : D → Store → Prop
  | .ref n, st => ∃ xs, rdA st n xs
  | _, _ => False
def tyStr : D → Store → Prop
  | .str _, _ => True
  | _, _ => False

def intB : KB
  | [.int i], st, Q => Q (.int i) st
  | [.bl b], st, Q => Q (.int (b2i b)) st
  | _, _, _ => False
def absB : KB
  | [.int i], st, Q => Q (.int (if i < 0 then -i else i)) st
  | _, _, _ => False
def lenB : KB
  | [.tup xs], st, Q => Q (.int xs.length) st
  | [.ref n], st, Q => ∃ xs, rdA st n xs ∧ Q (.int xs.length) st
  | [.str z], st, Q => z.length ≤ szl ∧ Q (.int z.length) st
  | _, _, _ => False
def min2B : KB
  | [.int i, .int j], st, Q => Q (.int (if j < i then j else i)) st
  | _, _, _ => False
def max2B : KB
  | [.int i, .int j], st, Q => Q (.int (if j > i then j else i)) st
  | _, _, _ => False
def listB : KB
  | [.tup xs], st, Q => Q (.ref st.length) (st ++ [.lst xs])
  | [.ref n], st, Q => ∃ xs, rdA st n xs ∧ Q (.ref st.length) (st ++ [.lst xs])
  | _, _, _ => False
def tupleB : KB
  | [.tup xs], st, Q => Q (.tup xs) st
  | [.ref n], st, Q => ∃ xs, rdA st n xs ∧ Q (.tup xs) st
  | _, _, _ => False
def sumB : KB
  | [.ref n], st, Q => ∃ ns : List Int, rdA st n (ns.map D.int) ∧ Q (.int ns.sum) st
  | _, _, _ => False
/-- None, a bool, an int: its truth -/
def D.tflat : D → Bool
  | .non => true
  | .bl _ => true
  | .int _ => true
  | _ => false
def D.tru : D → Bool
  | .bl b => b
  | .int i => i != 0
  | _ => false
def allB : KB
  | [.ref n], st, Q => ∃ xs : List D, rdA st n xs ∧ xs.all D.tflat = true ∧ Q (.bl (xs.all D.tru)) st
  | _, _, _ => False
def anyB : KB
  | [.ref n], st, Q => ∃ xs : List D, rdA st n xs ∧ xs.all D.tflat = true ∧ Q (.bl (xs.any D.tru)) st
  | _, _, _ => False
def min1B : KB
  | [.ref n], st, Q => ∃ ns : List Int, rdA st n (ns.map D.int) ∧ 0 < ns.length ∧ ∀ m, m ∈ ns → (∀ y, y ∈ ns → m ≤ y) → Q (.int m) st
  | _, _, _ => False
def max1B : KB
  | [.ref n], st, Q => ∃ ns : List Int, rdA st n (ns.map D.int) ∧ 0 < ns.length ∧ ∀ m, m ∈ ns → (∀ y, y ∈ ns → y ≤ m) → Q (.int m) st
  | _, _, _ => False
/-- isinstance(x, T), T a built-in class -/
inductive Ty where | int | bool | str | tuple | list
  deriving DecidableEq
def isTy : D → Store → Ty → (Bool → Prop) → Prop
  | .non, _, _, Q => Q false
  | .bl _, _, t, Q => Q (decide (t = .bool) || decide (t = .int))
  | .int _, _, t, Q => Q (decide (t = .int))
  | .str _, _, t, Q => Q (decide (t = .str))
  | .tup _, _, t, Q => Q (decide (t = .tuple))
  | .ref n, st, t, Q => ∃ xs, rdL st n xs ∧ Q (decide (t = .list))
def dIsi (ty : Ty) (t : TE) : TE := fun σ st Q => t σ st fun x st1 => isTy x st1 ty fun b => Q (.bl b) st1

/-! methods -/
def appendM : KM
  | .ref n, [x], st, Q => ∃ xs, rdL st n xs ∧ xs.length < szl ∧ Q .non (st.set n (.lst (xs ++ [x])))
  | _, _, _, _ => False
/-- .pop(i), the place in the list -/
def popM : KM
  | .ref n, [.int i], st, Q => ∃ xs d, rdL st n xs ∧ (0 ≤ i ∧ i < 2 ^ 62) ∧ atD xs i = some d ∧ Q d (st.set n (.lst (xs.eraseIdx i.toNat)))
  | _, _, _, _ => False
def extendM : KM
  | .ref n, [.ref m], st, Q => ∃ xs ys, rdL st n xs ∧ rdL st m ys ∧ n ≠ m ∧ xs.length + ys.length ≤ szl ∧ Q .non (st.set n (.lst (xs ++ ys)))
  | _, _, _, _ => False
/-- .index(x): the first place of what is there -/
def indexM : KM
  | .ref n, [x], st, Q => ∃ xs j z, rdA st n xs ∧ x.flat = true ∧ xs.all D.flat = true ∧ xs[j]? = some z ∧ D.eqb z x = true ∧ (∀ (m : Nat) (z' : D), m < j → xs[m]? = some z' → D.eqb z' x = false) ∧ Q (.int j) st
  | _, _, _, _ => False

/-! ### targets, iterables -/
abbrev TG := D → Env → Store → (Env → Store → Prop) → Prop
abbrev TGs := List D → Env → Store → (Env → Store → Prop) → Prop
def gName (i : Nat) : TG := fun d σ st Q => Q (σ.set i (some d)) st
def gsNil : TGs := fun ds σ st Q => ds = [] ∧ Q σ st
def gsCons (g : TG) (r : TGs) : TGs := fun ds σ st Q => ∃ d ds', ds = d :: ds' ∧ g d σ st fun σ1 st1 => r ds' σ1 st1 Q
def gTup (gs : TGs) (n : Nat) : TG := fun d σ st Q => ∃ ds, d = .tup ds ∧ ds.length = n ∧ gs ds σ st Q
def setK : D → D → D → Store → (Store → Prop) → Prop
  | .ref n, .int i, v, st, Q => ∃ xs, rdL st n xs ∧ (∃ d, atD xs i = some d) ∧ 0 ≤ i ∧ Q (st.set n (.lst (xs.set i.toNat v)))
  | _, _, _, _, _ => False
def gSub (to ti : TE) : TG := fun v σ st Q => to σ st fun o st1 => ti σ st1 fun i st2 => setK o i v st2 fun st3 => Q σ st3
structure Iter where
  items : List D
  guard : Store → Prop
abbrev TI := Env → Store → (Iter → Store → Prop) → Prop
/-- a list or a tuple -/
def itK : D → Store → (Iter → Store → Prop) → Prop
  | .tup xs, st, R => R ⟨xs, fun _ => True⟩ st
  | .ref n, st, R => ∃ xs, rdA st n xs ∧ R ⟨xs, fun s => rdA s n xs⟩ st
  | _, _, _ => False
def iSeq (t : TE) : TI := fun σ st R => t σ st fun x st1 => itK x st1 R
def rng (lo : Int) (n : Nat) : List D := (List.range n).map fun (k : Nat) => D.int (lo + k)
def iR1 (t : TE) : TI := fun σ st R => t σ st fun x st1 => ∃ j, x = .int j ∧ -(2 ^ 62) ≤ j ∧ j < 2 ^ 62 ∧ R ⟨rng 0 j.toNat, fun _ => True⟩ st1
def iR2 (t u : TE) : TI := fun σ st R => t σ st fun x st1 => u σ st1 fun y st2 => ∃ i j, x = .int i ∧ y = .int j ∧ (-(2 ^ 62) ≤ i ∧ i < 2 ^ 62 ∧ -(2 ^ 62) ≤ j ∧ j < 2 ^ 62) ∧ R ⟨rng i (j - i).toNat, fun _ => True⟩ st2
def zipD : List D → List D → List D
  | x :: xs, y :: ys => .tup [x, y] :: zipD xs ys
  | _, _ => []
/-- zip(a, b): both lists, or both tuples -/
def zipK : D → D → Store → (Iter → Store → Prop) → Prop
  | .tup xs, .tup ys, st, R => R ⟨zipD xs ys, fun _ => True⟩ st
  | .ref m, .ref n, st, R => ∃ xs ys, rdA st m xs ∧ rdA st n ys ∧ R ⟨zipD xs ys, fun s => rdA s m xs ∧ rdA s n ys⟩ st
  | _, _, _, _ => False
def iZip2 (t u : TE) : TI := fun σ st R => t σ st fun x st1 => u σ st1 fun y st2 => zipK x y st2 R

/-! ### comprehensions -/
def tYes : TT := fun _ st Q => Q true st
/-- n: the new list's cell -/
def lcLoop (gd : Store → Prop) (g : TG) (tt : TT) (te : TE) (ρ : Env) (n : Nat) (Q : K) : List D → List D → Store → Prop
  | [], acc, st => gd st ∧ rdL st n acc ∧ Q (.ref n) st
  | x :: xs, acc, st => gd st ∧ g x ρ st fun ρ2 st2 => tt ρ2 st2 fun b st3 =>
      (b = true → te ρ2 st3 fun y st4 => rdL st4 n acc ∧ acc.length < szl ∧ lcLoop gd g tt te ρ n Q xs (acc ++ [y]) (st4.set n (.lst (acc ++ [y])))) ∧ (b = false → rdL st3 n acc ∧ lcLoop gd g tt te ρ n Q xs acc st3)
def dLc (i : TI) (g : TG) (tt : TT) (te : TE) (vs : List Nat) : TE := fun σ st Q => i σ st fun I st1 => lcLoop I.guard g tt te (wipeE σ vs) st1.length Q I.items [] (st1 ++ [.lst []])

/-! ### statements -/
def sNext : TS := fun D σ st => D.nx σ st
/-- a statement's end, where a walk may rest -/
structure Nxt (P : Prop) : Prop where
  go : P
def sSeq (t u : TS) : TS := fun D σ st => t { D with nx := fun σ' st' => Nxt (u D σ' st') } σ st
def sBreak : TS := fun D σ st => D.bk σ st
def sCont : TS := fun D σ st => D.ct σ st
def sExpr (t : TE) : TS := fun D σ st => t σ st fun _ st1 => D.nx σ st1
def sRet (t : TE) : TS := fun D σ st => t σ st D.rt
def sRetN : TS := fun D _ st => D.rt .non st
def sIf (c : TT) (t u : TS) : TS := fun D σ st => c σ st fun b st1 => (b = true → t D σ st1) ∧ (b = false → u D σ st1)
def sAsg (t : TE) (g : TG) : TS := fun D σ st => t σ st fun x st1 => g x σ st1 D.nx
/-- a, b = e, f of two locals: no tuple is made -/
def sPar (i j : Nat) (t : TA) : TS := fun D σ st => t σ st fun xs st1 => ∃ x y, xs = [x, y] ∧ D.nx ((σ.set i (some x)).set j (some y)) st1
def sAug (i : Nat) (k : K2) (t : TE) : TS := fun D σ st => ∃ x, lk σ i = some x ∧ t σ st fun y st1 => k x y st1 fun z st2 => D.nx (σ.set i (some z)) st2
/-- the item of a list alone -/
def ixLK : K2
  | .ref n, .int i, st, Q => ∃ xs d, rdA st n xs ∧ atD xs i = some d ∧ Q d st
  | _, _, _, _ => False
def sAugL (k : K2) (to ti te : TE) : TS := fun D σ st => to σ st fun o st1 => ti σ st1 fun i st2 => ixLK o i st2 fun x st3 => te σ st3 fun y st4 => k x y st4 fun z st5 => setK o i z st5 fun st6 => D.nx σ st6
def forLoop (gd : Store → Prop) (g : TG) (tb : TS) (D : Ends) : List Pd.D → Env → Store → Prop
  | [], σ, st => gd st ∧ D.nx σ st
  | x :: xs, σ, st => gd st ∧ g x σ st fun σ2 st2 => tb { D with nx := fun σ3 st3 => forLoop gd g tb D xs σ3 st3, ct := fun σ3 st3 => forLoop gd g tb D xs σ3 st3, bk := D.nx } σ2 st2
def sFor (i : TI) (g : TG) (tb : TS) : TS := fun D σ st => i σ st fun I st1 => forLoop I.guard g tb D I.items σ st1
def whileN (c : TT) (tb : TS) (D : Ends) : Nat → Env → Store → Prop
  | 0, _, _ => False
  | n + 1, σ, st => c σ st fun b st1 => (b = true → tb { D with nx := fun σ2 st2 => whileN c tb D n σ2 st2, ct := fun σ2 st2 => whileN c tb D n σ2 st2, bk := D.nx } σ st1) ∧ (b = false → D.nx σ st1)
def sWhile (c : TT) (tb : TS) : TS := fun D σ st => ∃ n, whileN c tb D n σ st

/-! ### defs: parameters, number of names, body -/
structure Def where
  ps : Nat
  ns : Nat
  body : Cl → TS
def start (n : Nat) (ds : List D) : Env := ds.map some ++ List.replicate (n - ds.length) none
def Def.run (d : Def) (c : Cl) (ds : List D) (st : Store) (Q : K) : Prop :=
  ds.length = d.ps ∧ d.body c { nx := fun _ st' => Q .non st', rt := Q } (start d.ns ds) st
/-- calls, at most k deep -/
def callN (prog : String → Option Def) : Nat → Cl
  | 0 => fun _ _ _ _ => False
  | k + 1 => fun f ds st Q => ∃ d, prog f = some d ∧ d.run (callN prog k) ds st Q
end Pd
end PartPdCore

section PartPdSoundA
set_option Elab.async false
set_option linter.all false
set_option maxRecDepth 100000
set_option maxHeartbeats 1000000
/-! Pd over the hand layer: data against values and heaps; lifting; expressions. Own work. -/
namespace Pd
open PySem PySem.Spec
abbrev Kf := PySem.W.Frag
abbrev Vv := L2.V
abbrev Hp := L2.Hp

theorem szl_eq : szl = sizeLine := by rfl

/-! ### data against values -/
mutual
def RD (K : Kf) (f : List Addr) (H : Hp) : D → L2.V → Prop
  | .non, v => v = .non
  | .bl b, v => v = .bl b
  | .int i, v => v = .int i
  | .str s, v => v = .str s
  | .ref n, v => ∃ a, f[n]? = some a ∧ v = .ref a
  | .tup ds, v => ∃ a vs, v = .ref a ∧ L2.SqT K H a vs ∧ RDs K f H ds vs
def RDs (K : Kf) (f : List Addr) (H : Hp) : List D → List L2.V → Prop
  | [], vs => vs = []
  | d :: ds, vs => ∃ v r, vs = v :: r ∧ RD K f H d v ∧ RDs K f H ds r
end
section
variable {K : Kf} {f f' : List Addr} {H H' : Hp} {st st' : Store} {ρ : Env} {σ : L2.St}
theorem RD.non {v : L2.V} : RD K f H .non v ↔ v = .non := by simp [RD]
theorem RD.bl {b : Bool} {v : L2.V} : RD K f H (.bl b) v ↔ v = .bl b := by simp [RD]
theorem RD.int {i : Int} {v : L2.V} : RD K f H (.int i) v ↔ v = .int i := by simp [RD]
theorem RD.str {x : Str} {v : L2.V} : RD K f H (.str x) v ↔ v = .str x := by simp [RD]
theorem RD.ref {n : Nat} {v : L2.V} : RD K f H (.ref n) v ↔ ∃ a, f[n]? = some a ∧ v = .ref a := by simp [RD]
theorem RD.tup {ds : List D} {v : L2.V} : RD K f H (.tup ds) v ↔ ∃ a vs, v = .ref a ∧ L2.SqT K H a vs ∧ RDs K f H ds vs := by simp [RD]
theorem RDs.nil {vs : List L2.V} : RDs K f H [] vs ↔ vs = [] := by simp [RDs]
theorem RDs.cons {d : D} {ds : List D} {vs : List L2.V} : RDs K f H (d :: ds) vs ↔ ∃ v r, vs = v :: r ∧ RD K f H d v ∧ RDs K f H ds r := by simp [RDs]

/-- later: more cells, the tuples as they were -/
structure Ext (K : Kf) (f : List Addr) (H : Hp) (f' : List Addr) (H' : Hp) : Prop where
  pre : ∃ g, f' = f ++ g
  tup : ∀ a xs, L2.SqT K H a xs → L2.SqT K H' a xs
theorem Ext.refl : Ext K f H f H := ⟨⟨[], by simp⟩, fun _ _ h => h⟩
theorem Ext.trans {f2 : List Addr} {H2 : Hp} (a : Ext K f H f' H') (b : Ext K f' H' f2 H2) : Ext K f H f2 H2 := by
  obtain ⟨g, rfl⟩ := a.pre
  obtain ⟨g2, rfl⟩ := b.pre
  exact ⟨⟨g ++ g2, by simp⟩, fun x xs h => b.tup x xs (a.tup x xs h)⟩
theorem Ext.at (e : Ext K f H f' H') {n : Nat} {a : Addr} (h : f[n]? = some a) : f'[n]? = some a := by
  obtain ⟨g, rfl⟩ := e.pre
  have hn := (List.getElem?_eq_some_iff.mp h).1
  rw [List.getElem?_append_left hn]; exact h
mutual
theorem RD.mono (e : Ext K f H f' H') : ∀ (d : D) {v : L2.V}, RD K f H d v → RD K f' H' d v
  | .non, _, h => by rw [RD.non] at *; exact h
  | .bl _, _, h => by rw [RD.bl] at *; exact h
  | .int _, _, h => by rw [RD.int] at *; exact h
  | .str _, _, h => by rw [RD.str] at *; exact h
  | .ref _, _, h => by
    rw [RD.ref] at *
    obtain ⟨a, h1, h2⟩ := h
    exact ⟨a, e.at h1, h2⟩
  | .tup ds, _, h => by
    rw [RD.tup] at *
    obtain ⟨a, vs, h1, h2, h3⟩ := h
    exact ⟨a, vs, h1, e.tup _ _ h2, RDs.mono e ds h3⟩
theorem RDs.mono (e : Ext K f H f' H') : ∀ (ds : List D) {vs : List L2.V}, RDs K f H ds vs → RDs K f' H' ds vs
  | [], _, h => by rw [RDs.nil] at *; exact h
  | d :: ds, _, h => by
    rw [RDs.cons] at *
    obtain ⟨v, r, h1, h2, h3⟩ := h
    exact ⟨v, r, h1, RD.mono e d h2, RDs.mono e ds h3⟩
end
theorem RDs.length : ∀ {ds : List D} {vs : List L2.V}, RDs K f H ds vs → vs.length = ds.length
  | [], _, h => by rw [RDs.nil] at h; subst h; rfl
  | d :: ds, _, h => by
    rw [RDs.cons] at h
    obtain ⟨v, r, rfl, _, h3⟩ := h
    simp [RDs.length h3]
theorem RDs.get : ∀ {ds : List D} {vs : List L2.V} {i : Nat} {d : D}, RDs K f H ds vs → ds[i]? = some d → ∃ v, vs[i]? = some v ∧ RD K f H d v
  | [], _, _, _, _, e => by simp at e
  | x :: ds, _, 0, d, h, e => by
    rw [RDs.cons] at h
    obtain ⟨v, r, rfl, h2, _⟩ := h
    simp at e; subst e; exact ⟨v, rfl, h2⟩
  | x :: ds, _, i + 1, d, h, e => by
    rw [RDs.cons] at h
    obtain ⟨v, r, rfl, _, h3⟩ := h
    obtain ⟨w, h4, h5⟩ := RDs.get (i := i) h3 (by simpa using e)
    exact ⟨w, by simpa using h4, h5⟩
theorem RDs.append : ∀ {xs ys : List D} {us vs : List L2.V}, RDs K f H xs us → RDs K f H ys vs → RDs K f H (xs ++ ys) (us ++ vs)
  | [], _, _, _, h, h' => by rw [RDs.nil] at h; subst h; exact h'
  | x :: xs, _, _, _, h, h' => by
    rw [RDs.cons] at h
    obtain ⟨v, r, rfl, h2, h3⟩ := h
    rw [List.cons_append, RDs.cons]
    exact ⟨v, _, rfl, h2, RDs.append h3 h'⟩
theorem RDs.one {d : D} {v : L2.V} (h : RD K f H d v) : RDs K f H [d] [v] := by
  rw [RDs.cons]; exact ⟨v, [], rfl, h, by rw [RDs.nil]⟩
theorem RDs.take : ∀ {ds : List D} {vs : List L2.V} (n : Nat), RDs K f H ds vs → RDs K f H (ds.take n) (vs.take n)
  | _, _, 0, _ => by simp [RDs.nil]
  | [], _, n + 1, h => by rw [RDs.nil] at h; subst h; simp [RDs.nil]
  | d :: ds, _, n + 1, h => by
    rw [RDs.cons] at h
    obtain ⟨v, r, rfl, h2, h3⟩ := h
    rw [List.take_succ_cons, List.take_succ_cons, RDs.cons]
    exact ⟨v, _, rfl, h2, RDs.take n h3⟩
theorem RDs.drop : ∀ {ds : List D} {vs : List L2.V} (n : Nat), RDs K f H ds vs → RDs K f H (ds.drop n) (vs.drop n)
  | _, _, 0, h => by simpa using h
  | [], _, n + 1, h => by rw [RDs.nil] at h; subst h; simp [RDs.nil]
  | d :: ds, _, n + 1, h => by
    rw [RDs.cons] at h
    obtain ⟨v, r, rfl, h2, h3⟩ := h
    rw [List.drop_succ_cons, List.drop_succ_cons]
    exact RDs.drop n h3
theorem RDs.set : ∀ {ds : List D} {vs : List L2.V} (n : Nat) {d : D} {v : L2.V}, RD K f H d v → RDs K f H ds vs → RDs K f H (ds.set n d) (vs.set n v)
  | [], _, _, _, _, _, h => by rw [RDs.nil] at h; subst h; simp [RDs.nil]
  | x :: ds, _, 0, d, v, hd, h => by
    rw [RDs.cons] at h
    obtain ⟨w, r, rfl, h2, h3⟩ := h
    rw [List.set_cons_zero, List.set_cons_zero, RDs.cons]
    exact ⟨v, r, rfl, hd, h3⟩
  | x :: ds, _, n + 1, d, v, hd, h => by
    rw [RDs.cons] at h
    obtain ⟨w, r, rfl, h2, h3⟩ := h
    rw [List.set_cons_succ, List.set_cons_succ, RDs.cons]
    exact ⟨w, _, rfl, h2, RDs.set n hd h3⟩
theorem RDs.eraseIdx : ∀ {ds : List D} {vs : List L2.V} (n : Nat), RDs K f H ds vs → RDs K f H (ds.eraseIdx n) (vs.eraseIdx n)
  | [], _, _, h => by rw [RDs.nil] at h; subst h; simp [RDs.nil]
  | x :: ds, _, 0, h => by
    rw [RDs.cons] at h
    obtain ⟨w, r, rfl, h2, h3⟩ := h
    simpa using h3
  | x :: ds, _, n + 1, h => by
    rw [RDs.cons] at h
    obtain ⟨w, r, rfl, h2, h3⟩ := h
    rw [List.eraseIdx_cons_succ, List.eraseIdx_cons_succ, RDs.cons]
    exact ⟨w, _, rfl, h2, RDs.eraseIdx n h3⟩
theorem RDs.ints : ∀ {ns : List Int} {vs : List L2.V}, RDs K f H (ns.map D.int) vs → vs = ns.map L2.V.int
  | [], _, h => by rw [List.map_nil, RDs.nil] at h; subst h; rfl
  | n :: ns, _, h => by
    rw [List.map_cons, RDs.cons] at h
    obtain ⟨v, r, rfl, h2, h3⟩ := h
    rw [RD.int] at h2
    rw [h2, RDs.ints h3]; rfl
theorem RDs.of_ints : ∀ (ns : List Int), RDs K f H (ns.map D.int) (ns.map L2.V.int)
  | [] => by simp [RDs.nil]
  | n :: ns => by
    rw [List.map_cons, List.map_cons, RDs.cons]
    exact ⟨_, _, rfl, by rw [RD.int], RDs.of_ints ns⟩
theorem RDs.bools : ∀ {bs : List Bool} {vs : List L2.V}, RDs K f H (bs.map D.bl) vs → vs = bs.map L2.V.bl
  | [], _, h => by rw [List.map_nil, RDs.nil] at h; subst h; rfl
  | n :: ns, _, h => by
    rw [List.map_cons, RDs.cons] at h
    obtain ⟨v, r, rfl, h2, h3⟩ := h
    rw [RD.bl] at h2
    rw [h2, RDs.bools h3]; rfl

/-! ### the store against the heap -/
/-- a list that may not be changed: frozen, or the module's -/
def FzL (K : Kf) (H : Hp) (a : Addr) (xs : List L2.V) : Prop :=
  (∃ o, H a = some (.frz o (.lst xs))) ∨
    ∃ (o : Obj) (its : Array Value) (n : Nat), K.lookup a = some o ∧ o.cls = .type "list" ∧ o.dict = none ∧ o.data = .seq its n ∧ its.size ≤ sizeLine ∧ L2.Vals xs its.toList
theorem FzL.sq {a : Addr} {xs : List L2.V} (h : FzL K H a xs) : L2.SqL K H a xs := by
  rcases h with h | h
  · exact .inl (.inr h)
  · exact .inr h
def RC (K : Kf) (f : List Addr) (H : Hp) : C → Addr → Prop
  | .lst ds, a => ∃ vs, H a = some (.lst vs) ∧ RDs K f H ds vs
  | .frz ds, a => ∃ vs, FzL K H a vs ∧ RDs K f H ds vs
  | .dic kvs, a => ∃ ks : List (L2.Key × L2.V), H a = some (.dK ks) ∧ ks.map (·.1) = kvs.map (·.1) ∧ RDs K f H (kvs.map (·.2)) (ks.map (·.2))
/-- a cell that may be changed -/
def mutC : C → Bool
  | .frz _ => false
  | _ => true
structure RelS (K : Kf) (f : List Addr) (st : Store) (H : Hp) : Prop where
  len : f.length = st.length
  nd : ∀ (n m : Nat) (c c' : C) (a : Addr), st[n]? = some c → st[m]? = some c' → mutC c = true → mutC c' = true → f[n]? = some a → f[m]? = some a → n = m
  cell : ∀ (n : Nat) (c : C) (a : Addr), st[n]? = some c → f[n]? = some a → RC K f H c a
structure Rel (K : Kf) (f : List Addr) (ρ : Env) (st : Store) (σ : L2.St) (H : Hp) : Prop extends RelS K f st H where
  env : ∀ (i : Nat) (d : D), lk ρ i = some d → ∃ v, σ[i]? = some (some v) ∧ RD K f H d v
  le : ρ.length ≤ σ.length
theorem RelS.at (r : RelS K f st H) {n : Nat} {c : C} (h : st[n]? = some c) : ∃ a, f[n]? = some a ∧ RC K f H c a := by
  have hn := (List.getElem?_eq_some_iff.mp h).1
  have hn' : n < f.length := by rw [r.len]; exact hn
  exact ⟨f[n], by simp [hn'], r.cell n c _ h (by simp [hn'])⟩
theorem RelS.rdL (r : RelS K f st H) {n : Nat} {xs : List D} (h : rdL st n xs) : ∃ a vs, f[n]? = some a ∧ H a = some (.lst vs) ∧ RDs K f H xs vs := by
  obtain ⟨a, h1, vs, h2, h3⟩ := r.at h
  exact ⟨a, vs, h1, h2, h3⟩
theorem RelS.rdD (r : RelS K f st H) {n : Nat} {kvs : List (Sum Int Str × D)} (h : Pd.rdD st n kvs) : ∃ a ks, f[n]? = some a ∧ H a = some (.dK ks) ∧ ks.map (·.1) = kvs.map (·.1) ∧ RDs K f H (kvs.map (·.2)) (ks.map (·.2)) := by
  obtain ⟨a, h1, ks, h2, h3⟩ := r.at h
  exact ⟨a, ks, h1, h2, h3⟩
theorem RelS.rdA (r : RelS K f st H) {n : Nat} {xs : List D} (h : rdA st n xs) : ∃ a vs, f[n]? = some a ∧ L2.SqL K H a vs ∧ RDs K f H xs vs := by
  rcases h with h | h
  · obtain ⟨a, h1, vs, h2, h3⟩ := r.at h
    exact ⟨a, vs, h1, .of h2, h3⟩
  · obtain ⟨a, h1, vs, h2, h3⟩ := r.at h
    exact ⟨a, vs, h1, h2.sq, h3⟩
theorem Rel.later (r : Rel K f ρ st σ H) (e : Ext K f H f' H') (s : RelS K f' st' H') : Rel K f' ρ st' σ H' :=
  ⟨s, fun i d h => by
    obtain ⟨v, h1, h2⟩ := r.env i d h
    exact ⟨v, h1, h2.mono e⟩, r.le⟩
theorem lk_lt : ∀ {ρ : Env} {i : Nat} {d : D}, lk ρ i = some d → i < ρ.length
  | [], _, _, h => by simp [lk] at h
  | _ :: _, 0, _, _ => by simp
  | _ :: r, i + 1, _, h => by
    have := lk_lt (ρ := r) (i := i) (by simpa [lk] using h)
    simp; omega
theorem wipeE_length (ρ : Env) : ∀ vs : List Nat, (wipeE ρ vs).length = ρ.length
  | [] => rfl
  | v :: vs => by unfold wipeE; rw [List.length_set, wipeE_length ρ vs]
theorem lk_set {ρ : Env} {i j : Nat} {d x : D} (h : lk (ρ.set i (some x)) j = some d) : (j = i ∧ d = x) ∨ (j ≠ i ∧ lk ρ j = some d) := by
  induction ρ generalizing i j with
  | nil => simp [lk] at h
  | cons y r ih =>
    cases i with
    | zero =>
      cases j with
      | zero => simp [lk] at h; exact .inl ⟨rfl, h.symm⟩
      | succ j => simp [lk] at h; exact .inr ⟨by simp, by simpa [lk] using h⟩
    | succ i =>
      cases j with
      | zero => simp [lk] at h; exact .inr ⟨by simp, by simpa [lk] using h⟩
      | succ j =>
        simp [lk] at h
        rcases ih h with ⟨e, h⟩ | ⟨e, h⟩
        · exact .inl ⟨by omega, h⟩
        · exact .inr ⟨by omega, by simpa [lk] using h⟩
theorem lk_none {ρ : Env} {i j : Nat} {d : D} (h : lk (ρ.set i none) j = some d) : j ≠ i ∧ lk ρ j = some d := by
  induction ρ generalizing i j with
  | nil => simp [lk] at h
  | cons y r ih =>
    cases i with
    | zero =>
      cases j with
      | zero => simp [lk] at h
      | succ j => simp [lk] at h; exact ⟨by simp, by simpa [lk] using h⟩
    | succ i =>
      cases j with
      | zero => simp [lk] at h; exact ⟨by simp, by simpa [lk] using h⟩
      | succ j =>
        simp [lk] at h
        obtain ⟨e, h⟩ := ih h
        exact ⟨by omega, by simpa [lk] using h⟩
theorem lk_wipe {ρ : Env} {j : Nat} {d : D} : ∀ {vs : List Nat}, lk (wipeE ρ vs) j = some d → j ∉ vs ∧ lk ρ j = some d
  | [], h => ⟨by simp, h⟩
  | v :: vs, h => by
    unfold wipeE at h
    obtain ⟨h1, h2⟩ := lk_none h
    obtain ⟨h3, h4⟩ := lk_wipe h2
    exact ⟨by simp [h1, h3], h4⟩
/-- the slots a target may write: all others as they were -/
def Out (vs : List Nat) (σ σ' : L2.St) : Prop := σ'.length = σ.length ∧ ∀ j, j ∉ vs → σ'[j]? = σ[j]?
theorem Rel.put {i : Nat} {d : D} {v : L2.V} (r : Rel K f ρ st σ H) (h : RD K f H d v) : Rel K f (ρ.set i (some d)) st (σ.set i (some v)) H :=
  ⟨r.toRelS, fun j x hx => by
    have hl := lk_lt hx
    rw [List.length_set] at hl
    have hle := r.le
    rcases lk_set hx with ⟨rfl, rfl⟩ | ⟨ne, h'⟩
    · exact ⟨v, by rw [List.getElem?_set_self (by omega)], h⟩
    · obtain ⟨w, h1, h2⟩ := r.env j x h'
      exact ⟨w, by rw [List.getElem?_set_ne (Ne.symm ne)]; exact h1, h2⟩, by rw [List.length_set, List.length_set]; exact r.le⟩
theorem wipe_keep {σ : L2.St} {i : Nat} : ∀ {vs : List Nat}, i ∉ vs → (L2.wipe σ vs)[i]? = σ[i]?
  | [], _ => rfl
  | v :: vs, h => by
    have h1 : i ≠ v := fun e => h (by simp [e])
    unfold L2.wipe
    rw [List.getElem?_set_ne (Ne.symm h1)]
    exact wipe_keep fun e => h (List.mem_cons_of_mem _ e)
theorem Rel.wipe {vs : List Nat} (r : Rel K f ρ st σ H) : Rel K f (wipeE ρ vs) st (L2.wipe σ vs) H :=
  ⟨r.toRelS, fun j x hx => by
    obtain ⟨h1, h2⟩ := lk_wipe hx
    obtain ⟨v, h3, h4⟩ := r.env j x h2
    exact ⟨v, by rw [wipe_keep h1]; exact h3, h4⟩, by rw [wipeE_length, L2.wipe_length]; exact r.le⟩
theorem Out.wipe {vs : List Nat} {σ σ' : L2.St} (h : Out vs (L2.wipe σ vs) σ') : L2.wipe σ' vs = L2.wipe σ vs := by
  obtain ⟨h1, h2⟩ := h
  apply List.ext_getElem?
  intro j
  have wiped : ∀ (τ : L2.St) (ws : List Nat), j ∈ ws → (L2.wipe τ ws)[j]? = if j < τ.length then some none else none := by
    intro τ ws
    induction ws with
    | nil => intro h; cases h
    | cons v ws ih =>
      intro h
      unfold L2.wipe
      by_cases e : v = j
      · subst e
        by_cases hl : v < τ.length
        · rw [List.getElem?_set_self (by rw [L2.wipe_length]; exact hl), if_pos hl]
        · rw [List.getElem?_eq_none (by rw [List.length_set, L2.wipe_length]; omega), if_neg hl]
      · rw [List.getElem?_set_ne e]
        rcases List.mem_cons.mp h with q | q
        · exact absurd q.symm e
        · exact ih q
  by_cases hj : j ∈ vs
  · rw [wiped σ' vs hj, wiped σ vs hj, h1, L2.wipe_length]
  · rw [wipe_keep hj, h2 j hj]

/-! a new object, a changed one -/
/-- what may stand where something is laid or changed -/
def Wr (H : Hp) (b : Addr) : Prop := H b = none ∨ (∃ ys, H b = some (.lst ys)) ∨ ∃ ys, H b = some (.dK ys)
theorem SqT.upd {a b : Addr} {xs : List L2.V} {o : L2.HO} (h : L2.SqT K H a xs) (n : Wr H b) : L2.SqT K (L2.upd H b o) a xs := by
  rcases h with (h | ⟨q, h⟩) | h
  · have : a ≠ b := by
      rintro rfl
      rcases n with n | ⟨ys, n⟩ | ⟨ys, n⟩ <;> rw [n] at h <;> cases h
    exact .inl (.inl (by rw [L2.upd_ne this]; exact h))
  · have : a ≠ b := by
      rintro rfl
      rcases n with n | ⟨ys, n⟩ | ⟨ys, n⟩ <;> rw [n] at h <;> cases h
    exact .inl (.inr ⟨q, by rw [L2.upd_ne this]; exact h⟩)
  · exact .inr h
theorem FzL.upd {a b : Addr} {xs : List L2.V} {o : L2.HO} (h : FzL K H a xs) (n : Wr H b) : FzL K (L2.upd H b o) a xs := by
  rcases h with ⟨q, h⟩ | h
  · have : a ≠ b := by
      rintro rfl
      rcases n with n | ⟨ys, n⟩ | ⟨ys, n⟩ <;> rw [n] at h <;> cases h
    exact .inl ⟨q, by rw [L2.upd_ne this]; exact h⟩
  · exact .inr h
theorem Ext.upd {b : Addr} {o : L2.HO} {g : List Addr} (n : Wr H b) : Ext K f H (f ++ g) (L2.upd H b o) := ⟨⟨g, rfl⟩, fun _ _ h => SqT.upd h n⟩
theorem Ext.upd0 {b : Addr} {o : L2.HO} (n : Wr H b) : Ext K f H f (L2.upd H b o) := ⟨⟨[], by simp⟩, fun _ _ h => SqT.upd h n⟩
theorem RC.upd {c : C} {a b : Addr} {o : L2.HO} (h : RC K f H c a) (e : Ext K f H f' (L2.upd H b o)) (n : Wr H b) (ne : mutC c = true → a ≠ b) : RC K f' (L2.upd H b o) c a := by
  cases c with
  | lst ds =>
    obtain ⟨vs, h1, h2⟩ := h
    exact ⟨vs, by rw [L2.upd_ne (ne rfl)]; exact h1, h2.mono e⟩
  | frz ds =>
    obtain ⟨vs, h1, h2⟩ := h
    exact ⟨vs, h1.upd n, h2.mono e⟩
  | dic kvs =>
    obtain ⟨ks, h1, h2, h3⟩ := h
    exact ⟨ks, by rw [L2.upd_ne (ne rfl)]; exact h1, h2, h3.mono e⟩
theorem RC.some {c : C} {a : Addr} (h : RC K f H c a) (m : mutC c = true) : H a ≠ none := by
  cases c with
  | lst ds => obtain ⟨vs, h1, _⟩ := h; rw [h1]; simp
  | frz ds => cases m
  | dic kvs => obtain ⟨ks, h1, _⟩ := h; rw [h1]; simp
/-- a new tracked object that is no cell (a tuple) -/
theorem RelS.lay (r : RelS K f st H) {p : Addr} {o : L2.HO} (hp : H p = none) : RelS K f st (L2.upd H p o) ∧ Ext K f H f (L2.upd H p o) := by
  have e : Ext K f H f (L2.upd H p o) := Ext.upd0 (.inl hp)
  exact ⟨⟨r.len, r.nd, fun n c a h1 h2 => (r.cell n c a h1 h2).upd e (.inl hp) fun m z => (r.cell n c a h1 h2).some m (z ▸ hp)⟩, e⟩
/-- a new cell -/
theorem RelS.new (r : RelS K f st H) {p : Addr} {o : L2.HO} {c : C} (hp : H p = none) (hc : RC K (f ++ [p]) (L2.upd H p o) c p) : RelS K (f ++ [p]) (st ++ [c]) (L2.upd H p o) ∧ Ext K f H (f ++ [p]) (L2.upd H p o) := by
  have e : Ext K f H (f ++ [p]) (L2.upd H p o) := Ext.upd (.inl hp)
  have split : ∀ {n : Nat} {c' : C} {a : Addr}, (st ++ [c])[n]? = some c' → (f ++ [p])[n]? = some a → (n < st.length ∧ st[n]? = some c' ∧ f[n]? = some a) ∨ (n = st.length ∧ c' = c ∧ a = p) := fun {n c' a} h1 h2 => by
    have hl := r.len
    by_cases hn : n < st.length
    · rw [List.getElem?_append_left hn] at h1
      rw [List.getElem?_append_left (by rw [r.len]; exact hn)] at h2
      exact .inl ⟨hn, h1, h2⟩
    · rw [List.getElem?_append_right (by omega)] at h1
      rw [List.getElem?_append_right (by rw [r.len]; omega)] at h2
      have e0 : n - st.length = 0 := by
        have := (List.getElem?_eq_some_iff.mp h1).1
        simp at this; omega
      rw [e0] at h1
      rw [hl, e0] at h2
      simp at h1 h2
      exact .inr ⟨by omega, h1.symm, h2.symm⟩
  refine ⟨⟨by simp [r.len], fun n m c1 c2 a h1 h2 m1 m2 h3 h4 => ?_, fun n c' a h1 h2 => ?_⟩, e⟩
  · rcases split h1 h3 with ⟨l1, s1, t1⟩ | ⟨l1, rfl, rfl⟩ <;> rcases split h2 h4 with ⟨l2, s2, t2⟩ | ⟨l2, rfl, e2⟩
    · exact r.nd n m c1 c2 a s1 s2 m1 m2 t1 t2
    · subst e2
      exact absurd hp ((r.cell n c1 _ s1 t1).some m1)
    · exact absurd hp ((r.cell m c2 _ s2 t2).some m2)
    · omega
  · rcases split h1 h2 with ⟨l1, s1, t1⟩ | ⟨l1, rfl, rfl⟩
    · exact (r.cell n c' a s1 t1).upd e (.inl hp) fun m z => (r.cell n c' a s1 t1).some m (z ▸ hp)
    · exact hc
/-- a cell is changed -/
theorem RelS.chg (r : RelS K f st H) {p : Addr} {n : Nat} {c c' : C} {o : L2.HO} (hs : st[n]? = some c) (hm : mutC c = true) (hn : f[n]? = some p) (hp : Wr H p) (hm' : mutC c' = true) (hd : RC K f (L2.upd H p o) c' p) :
    RelS K f (st.set n c') (L2.upd H p o) ∧ Ext K f H f (L2.upd H p o) := by
  have e : Ext K f H f (L2.upd H p o) := Ext.upd0 hp
  have hl : n < st.length := (List.getElem?_eq_some_iff.mp hs).1
  have split : ∀ {m : Nat} {d : C}, (st.set n c')[m]? = some d → (m = n ∧ d = c') ∨ (m ≠ n ∧ st[m]? = some d) := fun {m d} h => by
    by_cases hmn : m = n
    · subst hmn
      rw [List.getElem?_set_self hl] at h
      cases h
      exact .inl ⟨rfl, rfl⟩
    · rw [List.getElem?_set_ne (Ne.symm hmn)] at h
      exact .inr ⟨hmn, h⟩
  refine ⟨⟨by simp [r.len], fun i j c1 c2 a h1 h2 m1 m2 h3 h4 => ?_, fun m d a h1 h2 => ?_⟩, e⟩
  · rcases split h1 with ⟨rfl, rfl⟩ | ⟨n1, s1⟩ <;> rcases split h2 with ⟨rfl, rfl⟩ | ⟨n2, s2⟩
    · rfl
    · exact r.nd _ _ _ _ a hs s2 hm m2 h3 h4
    · exact r.nd _ _ _ _ a s1 hs m1 hm h3 h4
    · exact r.nd _ _ _ _ a s1 s2 m1 m2 h3 h4
  · rcases split h1 with ⟨rfl, rfl⟩ | ⟨n1, s1⟩
    · rw [hn] at h2; cases h2
      exact hd
    · exact (r.cell m d a s1 h2).upd e hp fun md z => by
        subst z
        exact n1 (r.nd _ _ _ _ a s1 hs md hm h2 hn)
end
end Pd
end PartPdSoundA

section PartPdSoundB
set_option Elab.async false
set_option linter.all false
set_option maxRecDepth 100000
set_option maxHeartbeats 1000000
/-! Pd over the hand layer: lifting, expressions. Own work. -/
namespace Pd
open PySem PySem.Spec

/-! ### what is wanted, lifted -/
def LQ (K : Kf) (f : List Addr) (H : Hp) (Q' : Pd.K) (Q : L2.VK) : Prop :=
  ∀ (d : D) (st' : Store) (v : L2.V) (f' : List Addr) (H' : Hp), Q' d st' → Ext K f H f' H' → RelS K f' st' H' → RD K f' H' d v → Q v H'
def LT (K : Kf) (f : List Addr) (H : Hp) (Q' : Bool → Store → Prop) (Q : Bool → Hp → Prop) : Prop :=
  ∀ (b : Bool) (st' : Store) (f' : List Addr) (H' : Hp), Q' b st' → Ext K f H f' H' → RelS K f' st' H' → Q b H'
def LA (K : Kf) (f : List Addr) (H : Hp) (Q' : List D → Store → Prop) (Q : List L2.V → Hp → Prop) : Prop :=
  ∀ (ds : List D) (st' : Store) (vs : List L2.V) (f' : List Addr) (H' : Hp), Q' ds st' → Ext K f H f' H' → RelS K f' st' H' → RDs K f' H' ds vs → Q vs H'
def lift (K : Kf) (t : TE) : L2.TE := fun σ H Q => ∃ f ρ st Q', Rel K f ρ st σ H ∧ t ρ st Q' ∧ LQ K f H Q' Q
def liftT (K : Kf) (t : TT) : L2.TT := fun σ H Q => ∃ f ρ st Q', Rel K f ρ st σ H ∧ t ρ st Q' ∧ LT K f H Q' Q
def liftA (K : Kf) (t : TA) : L2.TA := fun σ H Q => ∃ f ρ st Q', Rel K f ρ st σ H ∧ t ρ st Q' ∧ LA K f H Q' Q
abbrev PD (X : L2.Cx) (e : Expr) (t : TE) : Prop := L2.PE X e (lift X.K t)
abbrev PDT (X : L2.Cx) (e : Expr) (t : TT) : Prop := L2.PT X e (liftT X.K t)
abbrev PDA (X : L2.Cx) (es : List Expr) (t : TA) : Prop := L2.PA X es (liftA X.K t)
section
variable {X : L2.Cx} {K : Kf} {f f' : List Addr} {H H' : Hp} {st st' : Store} {ρ : Env} {σ : L2.St}
theorem pe_imp {e : Expr} {t t' : L2.TE} (h : L2.PE X e t) (m : ∀ σ H Q, t' σ H Q → t σ H Q) : L2.PE X e t' := ⟨fun pins s σ H Q I q => h.run pins s σ H Q I (m σ H Q q)⟩
theorem pt_imp {e : Expr} {t t' : L2.TT} (h : L2.PT X e t) (m : ∀ σ H Q, t' σ H Q → t σ H Q) : L2.PT X e t' := ⟨fun pins s σ H Q I q => h.run pins s σ H Q I (m σ H Q q)⟩
theorem pa_imp {e : List Expr} {t t' : L2.TA} (h : L2.PA X e t) (m : ∀ σ H Q, t' σ H Q → t σ H Q) : L2.PA X e t' := ⟨fun pos pins s σ H Q I q => h.run pos pins s σ H Q I (m σ H Q q)⟩
theorem LQ.later {Q' : Pd.K} {Q : L2.VK} (l : LQ K f H Q' Q) (e : Ext K f H f' H') : LQ K f' H' Q' Q := fun d st' v f2 H2 q e2 s r => l d st' v f2 H2 q (e.trans e2) s r
theorem LQ.now {Q' : Pd.K} {Q : L2.VK} {d : D} {v : L2.V} (l : LQ K f H Q' Q) (s : RelS K f st H) (q : Q' d st) (r : RD K f H d v) : Q v H := l d st v f H q .refl s r
/-- a new tuple -/
theorem LQ.tup {Q' : Pd.K} {Q : L2.VK} {ds : List D} {vs : List L2.V} (l : LQ K f H Q' Q) (s : RelS K f st H) (q : Q' (.tup ds) st) (r : RDs K f H ds vs) {p : Addr} (hp : H p = none) : Q (.ref p) (L2.upd H p (.tup vs)) := by
  obtain ⟨s', e⟩ := s.lay (o := .tup vs) hp
  exact l _ st _ f _ q e s' (RD.tup.mpr ⟨p, vs, rfl, .of L2.upd_same, r.mono e⟩)
/-- a new list -/
theorem LQ.lst {Q' : Pd.K} {Q : L2.VK} {ds : List D} {vs : List L2.V} (l : LQ K f H Q' Q) (s : RelS K f st H) (q : Q' (.ref st.length) (st ++ [.lst ds])) (r : RDs K f H ds vs) {p : Addr} (hp : H p = none) : Q (.ref p) (L2.upd H p (.lst vs)) := by
  have e : Ext K f H (f ++ [p]) (L2.upd H p (.lst vs)) := Ext.upd (.inl hp)
  obtain ⟨s', e⟩ := s.new (o := .lst vs) (c := .lst ds) hp ⟨vs, L2.upd_same, r.mono e⟩
  exact l _ _ _ _ _ q e s' (RD.ref.mpr ⟨p, by rw [← s.len]; simp, rfl⟩)
/-- a changed list -/
theorem RelS.put {n : Nat} {a : Addr} {xs ds : List D} {vs ws : List L2.V} (s : RelS K f st H) (hn : f[n]? = some a) (h : Pd.rdL st n xs) (hH : H a = some (.lst vs)) (r : RDs K f H ds ws) :
    RelS K f (st.set n (.lst ds)) (L2.upd H a (.lst ws)) ∧ Ext K f H f (L2.upd H a (.lst ws)) :=
  s.chg (c := .lst xs) h rfl hn (.inr (.inl ⟨vs, hH⟩)) rfl ⟨ws, L2.upd_same, r.mono (Ext.upd0 (.inr (.inl ⟨vs, hH⟩)))⟩

/-! ### names, constants -/
theorem pd_var {i : Nat} {x : Str} {pos : Pos} (hN : X.N[i]? = some x) (hv : L2.Vis X.env.scope x := by first | exact .inl rfl | exact .inr (.inl rfl) | exact .inr (.inr rfl)) (hd : (x == ("__debug__" : Str)) = false := by decide) (hcd : (x == ("__classdict__" : Str)) = false := by decide) : PD X (.Name x pos) (dVar i) := by
  refine pe_imp (L2.pe_var hN hv hd hcd) fun σ H Q ⟨f, ρ, st, Q', R, ⟨d, h1, h2⟩, l⟩ => ?_
  obtain ⟨v, e, r⟩ := R.env i d h1
  exact ⟨v, e, l.now R.toRelS h2 r⟩
theorem pd_int {i : Int} {j pos} : PD X (.Constant (.int i) j pos) (dC (.int i)) := pe_imp L2.pe_int fun σ H Q ⟨f, ρ, st, Q', R, h, l⟩ => l.now R.toRelS h (RD.int.mpr rfl)
theorem pd_bl {b : Bool} {j pos} : PD X (.Constant (.bool b) j pos) (dC (.bl b)) := pe_imp L2.pe_bl fun σ H Q ⟨f, ρ, st, Q', R, h, l⟩ => l.now R.toRelS h (RD.bl.mpr rfl)
theorem pd_non {j pos} : PD X (.Constant .none j pos) (dC .non) := pe_imp L2.pe_non fun σ H Q ⟨f, ρ, st, Q', R, h, l⟩ => l.now R.toRelS h (RD.non.mpr rfl)
theorem pd_str {x : Str} {j pos} : PD X (.Constant (.str x) j pos) (dC (.str x)) := pe_imp L2.pe_str fun σ H Q ⟨f, ρ, st, Q', R, h, l⟩ => l.now R.toRelS h (RD.str.mpr rfl)
/-- a constant of the module: data -/
theorem pd_glob {x : Str} {d : D} {u : Value} {pos : Pos} (hg : L2.Gl X x) (hm : X.mg x = some u) (h : ∃ v, L2.RelV v u ∧ ∀ f H, RD X.K f H d v) (hd : (x == ("__debug__" : Str)) = false := by decide) : PD X (.Name x pos) (dC d) := by
  obtain ⟨v, r, hr⟩ := h
  exact pe_imp (L2.pe_glob hg hm r hd) fun σ H Q ⟨f, ρ, st, Q', R, h, l⟩ => l.now R.toRelS h (hr f H)

/-! ### operators -/
def Real2 (K : Kf) (r : L2.R2) (k : K2) : Prop := ∀ (f : List Addr) (st : Store) (H : Hp) (x y : D) (v w : L2.V) (Q' : Pd.K) (Q : L2.VK), RelS K f st H → RD K f H x v → RD K f H y w → k x y st Q' → LQ K f H Q' Q → r v w H Q
def Real1 (K : Kf) (r : L2.V → Hp → L2.VK → Prop) (k : D → Store → Pd.K → Prop) : Prop := ∀ (f : List Addr) (st : Store) (H : Hp) (x : D) (v : L2.V) (Q' : Pd.K) (Q : L2.VK), RelS K f st H → RD K f H x v → k x st Q' → LQ K f H Q' Q → r v H Q
theorem two_imp {r : L2.R2} {k : K2} {ta tb : TE} (hr : Real2 K r k) {Q : L2.VK} (h : lift K (dOp k ta tb) σ H Q) : L2.tOp r (lift K ta) (lift K tb) σ H Q := by
  obtain ⟨f, ρ, st, Q', R, h, l⟩ := h
  refine ⟨f, ρ, st, _, R, h, fun x st1 v f1 H1 h1 e1 s1 r1 => ⟨f1, ρ, st1, _, R.later e1 s1, h1, fun y st2 w f2 H2 h2 e2 s2 r2 => ?_⟩⟩
  exact hr f2 st2 H2 x y v w Q' Q s2 (r1.mono e2) r2 h2 (l.later (e1.trans e2))
section
variable {a b c : Expr} {ta tb tc : TE} {pos : Pos}
theorem pd_op {op : Operator} {r : L2.R2} {k : K2} (ho : L2.OpR X (binaryOp op) r) (hr : Real2 X.K r k) (ha : PD X a ta) (hb : PD X b tb) : PD X (.BinOp a op b pos) (dOp k ta tb) :=
  pe_imp (L2.pe_op ho ha hb) fun σ H Q h => two_imp hr h
theorem pd_un {op : UnaryOp} {r : L2.V → Hp → L2.VK → Prop} {k : D → Store → Pd.K → Prop} (ho : L2.UnR X (unaryOp op) r) (hr : Real1 X.K r k) (ha : PD X a ta) : PD X (.UnaryOp op a pos) (dUn k ta) := by
  refine pe_imp (L2.pe_un ho ha) fun σ H Q ⟨f, ρ, st, Q', R, h, l⟩ => ?_
  exact ⟨f, ρ, st, _, R, h, fun x st1 v f1 H1 h1 e1 s1 r1 => hr f1 st1 H1 x v Q' Q s1 r1 h1 (l.later e1)⟩
end
theorem real_int {g : Int → Int → Int} {C : Int → Int → Prop} {k : K2} (hk : ∀ x y st Q, k x y st Q → ∃ i j, x = .int i ∧ y = .int j ∧ C i j ∧ Q (.int (g i j)) st) : Real2 K (L2.rI C fun i j => .int (g i j)) k := by
  intro f st H x y v w Q' Q s r1 r2 h l
  obtain ⟨i, j, rfl, rfl, hc, q⟩ := hk x y st Q' h
  rw [RD.int] at r1 r2
  exact ⟨i, j, r1, r2, hc, l.now s q (RD.int.mpr rfl)⟩
theorem real_int0 {g : Int → Int → Int} {k : K2} (hk : ∀ x y st Q, k x y st Q → ∃ i j, x = .int i ∧ y = .int j ∧ Q (.int (g i j)) st) : Real2 K (L2.rI0 fun i j => .int (g i j)) k := by
  intro f st H x y v w Q' Q s r1 r2 h l
  obtain ⟨i, j, rfl, rfl, q⟩ := hk x y st Q' h
  rw [RD.int] at r1 r2
  exact ⟨i, j, r1, r2, l.now s q (RD.int.mpr rfl)⟩
/-- + -/
def rAdd (K : Kf) : L2.R2 := fun x y H Q => (∃ i j, x = .int i ∧ y = .int j ∧ Q (.int (i + j)) H) ∨ (∃ i j, x = .str i ∧ y = .str j ∧ i.length + j.length ≤ sizeLine ∧ Q (.str (i ++ j)) H) ∨ L2.rCatA K x y H Q ∨ L2.rCat x y H Q
theorem op_addA : L2.OpR X (binaryOp .Add) (rAdd X.K) := (L2.op_add (X := X)).or (L2.op_add_str.or (L2.op_catA.or L2.op_cat))
theorem RDs.isNil {ds : List D} {vs : List L2.V} (h : RDs K f H ds vs) : ds = [] ↔ vs = [] := by
  have := h.length
  constructor
  · rintro rfl; exact List.length_eq_zero_iff.mp (by simpa using this)
  · rintro rfl; exact List.length_eq_zero_iff.mp (by simpa using this.symm)
theorem real_add : Real2 K (rAdd K) addK := by
  intro f st H x y v w Q' Q s r1 r2 h l
  cases x <;> cases y <;> try (exact h.elim)
  · rw [RD.int] at r1 r2
    exact .inl ⟨_, _, r1, r2, l.now s h (RD.int.mpr rfl)⟩
  · rw [RD.str] at r1 r2
    obtain ⟨h1, h2⟩ := h
    exact .inr (.inl ⟨_, _, r1, r2, by rw [← szl_eq]; exact h1, l.now s h2 (RD.str.mpr rfl)⟩)
  · rw [RD.tup] at r1 r2
    obtain ⟨a, vs, rfl, t1, d1⟩ := r1
    obtain ⟨b, ws, rfl, t2, d2⟩ := r2
    obtain ⟨h1, h2⟩ := h
    refine .inr (.inr (.inl ⟨a, b, vs, ws, rfl, rfl, t1, t2, by rw [d1.length, d2.length, ← szl_eq]; exact h1, fun e => ?_, fun _ e => ?_, fun _ _ p hp => ?_⟩))
    · have e' := d1.isNil.mpr e
      subst e'
      exact l.now s h2 (RD.tup.mpr ⟨b, ws, rfl, t2, d2⟩)
    · have e' := d2.isNil.mpr e
      subst e'
      rw [List.append_nil] at h2
      exact l.now s h2 (RD.tup.mpr ⟨a, vs, rfl, t1, d1⟩)
    · exact l.tup s h2 (d1.append d2) hp
  · rw [RD.ref] at r1 r2
    obtain ⟨a, e1, rfl⟩ := r1
    obtain ⟨b, e2, rfl⟩ := r2
    obtain ⟨xs, ys, h1, h2, h3, h4⟩ := h
    obtain ⟨a', vs, g1, g2, g3⟩ := s.rdL h1
    obtain ⟨b', ws, k1, k2, k3⟩ := s.rdL h2
    rw [e1] at g1; cases g1
    rw [e2] at k1; cases k1
    exact .inr (.inr (.inr ⟨a, b, vs, ws, rfl, rfl, g2, k2, by rw [g3.length, k3.length, ← szl_eq]; exact h3, fun p hp => l.lst s h4 (g3.append k3) hp⟩))
theorem real_sub : Real2 K (L2.rI0 fun i j => .int (i - j)) subK := real_int0 fun x y st Q h => by
  cases x <;> cases y <;> first | exact h.elim | exact ⟨_, _, rfl, rfl, h⟩
def rMul : L2.R2 := fun x y H Q => L2.rI L2.CMul (fun i j => .int (i * j)) x y H Q ∨ L2.rRep x y H Q
theorem op_mulA : L2.OpR X (binaryOp .Mult) rMul := (L2.op_mul (X := X)).or L2.op_rep
theorem RDs.rep {ds : List D} {vs : List L2.V} (h : RDs K f H ds vs) : ∀ n : Nat, RDs K f H (List.replicate n ds).flatten (List.replicate n vs).flatten
  | 0 => by simp [RDs.nil]
  | n + 1 => by
    rw [List.replicate_succ, List.replicate_succ, List.flatten_cons, List.flatten_cons]
    exact h.append (RDs.rep h n)
theorem real_mul : Real2 K rMul mulK := by
  intro f st H x y v w Q' Q s r1 r2 h l
  cases x <;> cases y <;> try (exact h.elim)
  · rw [RD.int] at r1 r2
    obtain ⟨h1, h2⟩ := h
    exact .inl ⟨_, _, r1, r2, h1, l.now s h2 (RD.int.mpr rfl)⟩
  · rw [RD.ref] at r1
    rw [RD.int] at r2
    obtain ⟨a, e1, rfl⟩ := r1
    obtain ⟨xs, h1, h2, h3, h4, h5⟩ := h
    obtain ⟨a', vs, g1, g2, g3⟩ := s.rdL h1
    rw [e1] at g1; cases g1
    exact .inr ⟨a, _, vs, rfl, r2, g2, h2, h3, by rw [g3.length, ← szl_eq]; exact h4, fun p hp => l.lst s h5 (g3.rep _) hp⟩
theorem real_fdiv : Real2 K (L2.rI L2.CDiv fun i j => .int (i / j)) fdivK := real_int fun x y st Q h => by
  cases x <;> cases y <;> first | exact h.elim | exact ⟨_, _, rfl, rfl, h⟩
theorem real_mod : Real2 K (L2.rI (fun _ j => 0 < j) fun i j => .int (i % j)) modK := real_int fun x y st Q h => by
  cases x <;> cases y <;> first | exact h.elim | exact ⟨_, _, rfl, rfl, h⟩
theorem real_pow : Real2 K (L2.rI L2.CPow fun i j => .int (i ^ j.toNat)) powK := real_int fun x y st Q h => by
  cases x <;> cases y <;> first | exact h.elim | exact ⟨_, _, rfl, rfl, h⟩
theorem real_shl : Real2 K (L2.rI L2.CPow fun i j => .int (i * 2 ^ j.toNat)) shlK := real_int fun x y st Q h => by
  cases x <;> cases y <;> first | exact h.elim | exact ⟨_, _, rfl, rfl, h⟩
theorem real_shr : Real2 K (L2.rI (fun _ j => 0 ≤ j) fun i j => .int (i / 2 ^ j.toNat)) shrK := real_int fun x y st Q h => by
  cases x <;> cases y <;> first | exact h.elim | exact ⟨_, _, rfl, rfl, h⟩
theorem real_and : Real2 K (L2.rI0 fun i j => .int (Builtin.bitAnd i j)) andK := real_int0 fun x y st Q h => by
  cases x <;> cases y <;> first | exact h.elim | exact ⟨_, _, rfl, rfl, h⟩
theorem real_or : Real2 K (L2.rI0 fun i j => .int (Builtin.bitOr i j)) orK := real_int0 fun x y st Q h => by
  cases x <;> cases y <;> first | exact h.elim | exact ⟨_, _, rfl, rfl, h⟩
theorem real_xor : Real2 K (L2.rI0 fun i j => .int (Builtin.bitXor i j)) xorK := real_int0 fun x y st Q h => by
  cases x <;> cases y <;> first | exact h.elim | exact ⟨_, _, rfl, rfl, h⟩
theorem real_neg : Real1 K (L2.rU fun i => .int (-i)) negK := by
  intro f st H x v Q' Q s r1 h l
  cases x <;> try (exact h.elim)
  rw [RD.int] at r1
  exact ⟨_, r1, l.now s h (RD.int.mpr rfl)⟩
theorem real_inv : Real1 K (L2.rU fun i => .int (Builtin.bitNot i)) invK := by
  intro f st H x v Q' Q s r1 h l
  cases x <;> try (exact h.elim)
  rw [RD.int] at r1
  exact ⟨_, r1, l.now s h (RD.int.mpr rfl)⟩
section
variable {a b c : Expr} {ta tb tc : TE} {pos : Pos}
theorem pd_add (ha : PD X a ta) (hb : PD X b tb) : PD X (.BinOp a .Add b pos) (dOp addK ta tb) := pd_op op_addA real_add ha hb
theorem pd_sub (ha : PD X a ta) (hb : PD X b tb) : PD X (.BinOp a .Sub b pos) (dOp subK ta tb) := pd_op L2.op_sub real_sub ha hb
theorem pd_mul (ha : PD X a ta) (hb : PD X b tb) : PD X (.BinOp a .Mult b pos) (dOp mulK ta tb) := pd_op op_mulA real_mul ha hb
theorem pd_fdiv (ha : PD X a ta) (hb : PD X b tb) : PD X (.BinOp a .FloorDiv b pos) (dOp fdivK ta tb) := pd_op L2.op_fdiv real_fdiv ha hb
theorem pd_mod (ha : PD X a ta) (hb : PD X b tb) : PD X (.BinOp a .Mod b pos) (dOp modK ta tb) := pd_op L2.op_mod real_mod ha hb
theorem pd_pow (ha : PD X a ta) (hb : PD X b tb) : PD X (.BinOp a .Pow b pos) (dOp powK ta tb) := pd_op L2.op_pow real_pow ha hb
theorem pd_shl (ha : PD X a ta) (hb : PD X b tb) : PD X (.BinOp a .LShift b pos) (dOp shlK ta tb) := pd_op L2.op_shl real_shl ha hb
theorem pd_shr (ha : PD X a ta) (hb : PD X b tb) : PD X (.BinOp a .RShift b pos) (dOp shrK ta tb) := pd_op L2.op_shr real_shr ha hb
theorem pd_and (ha : PD X a ta) (hb : PD X b tb) : PD X (.BinOp a .BitAnd b pos) (dOp andK ta tb) := pd_op L2.op_and real_and ha hb
theorem pd_or (ha : PD X a ta) (hb : PD X b tb) : PD X (.BinOp a .BitOr b pos) (dOp orK ta tb) := pd_op L2.op_or real_or ha hb
theorem pd_xor (ha : PD X a ta) (hb : PD X b tb) : PD X (.BinOp a .BitXor b pos) (dOp xorK ta tb) := pd_op L2.op_xor real_xor ha hb
theorem pd_neg (ha : PD X a ta) : PD X (.UnaryOp .USub a pos) (dUn negK ta) := pd_un L2.un_neg real_neg ha
theorem pd_inv (ha : PD X a ta) : PD X (.UnaryOp .Invert a pos) (dUn invK ta) := pd_un L2.un_inv real_inv ha
end

/-! ### comparisons -/
mutual
def toP : D → PyData
  | .non => .none
  | .bl b => .bool b
  | .int i => .int i
  | .str x => .str x
  | .tup xs => .tuple (toPs xs)
  | .ref _ => .none
def toPs : List D → List PyData
  | [] => []
  | x :: xs => toP x :: toPs xs
end
theorem strOk_of {x : Str} (h : okS x = true) : PyData.strOk x = true := by
  unfold okS at h
  unfold PyData.strOk
  rw [← Array.all_toList]
  exact h
mutual
theorem toP_dp {n : Nat} : ∀ (d : D) {v : L2.V}, D.okd n d = true → RD K f H d v → L2.Dp K H v (toP d)
  | .non, _, _, h => by rw [RD.non] at h; subst h; exact .non
  | .bl b, _, _, h => by rw [RD.bl] at h; subst h; exact .bl b
  | .int i, _, _, h => by rw [RD.int] at h; subst h; exact .int i
  | .str x, _, _, h => by rw [RD.str] at h; subst h; exact .str x
  | .ref _, _, ok, h => by simp [D.okd] at ok
  | .tup xs, _, ok, h => by
    cases n with
    | zero => simp [D.okd] at ok
    | succ n =>
      rw [RD.tup] at h
      obtain ⟨a, vs, rfl, h1, h2⟩ := h
      exact .tup h1 (toPs_dp xs (n := n) (by simpa [D.okd] using ok) h2)
theorem toPs_dp {n : Nat} : ∀ (ds : List D) {vs : List L2.V}, okds n ds = true → RDs K f H ds vs → L2.DpAll K H vs (toPs ds)
  | [], _, _, h => by rw [RDs.nil] at h; subst h; exact .nil
  | d :: ds, _, ok, h => by
    rw [RDs.cons] at h
    obtain ⟨v, r, rfl, h1, h2⟩ := h
    have ok' : D.okd n d = true ∧ okds n ds = true := by simpa [okds] using ok
    exact .cons (toP_dp d ok'.1 h1) (toPs_dp ds ok'.2 h2)
end
mutual
theorem toP_ok {n : Nat} : ∀ (d : D), D.okd n d = true → (toP d).canLay0 = true ∧ (toP d).depth ≤ n
  | .non, _ => by simp [toP, PyData.canLay0, PyData.depth]
  | .bl b, _ => by simp [toP, PyData.canLay0, PyData.depth]
  | .int i, _ => by simp [toP, PyData.canLay0, PyData.depth]
  | .str x, ok => by
    have : okS x = true := by simpa [D.okd] using ok
    simp [toP, PyData.canLay0, PyData.depth, strOk_of this]
  | .ref _, ok => by simp [D.okd] at ok
  | .tup xs, ok => by
    cases n with
    | zero => simp [D.okd] at ok
    | succ n =>
      obtain ⟨h1, h2⟩ := toPs_ok xs (n := n) (by simpa [D.okd] using ok)
      simp [toP, PyData.canLay0, PyData.depth, h1, h2]
theorem toPs_ok {n : Nat} : ∀ (ds : List D), okds n ds = true → PyData.canLayAll0 (toPs ds) = true ∧ PyData.depthAll (toPs ds) ≤ n
  | [], _ => by simp [toPs, PyData.canLayAll0, PyData.depthAll]
  | d :: ds, ok => by
    have ok' : D.okd n d = true ∧ okds n ds = true := by simpa [okds] using ok
    obtain ⟨h1, h2⟩ := toP_ok d ok'.1
    obtain ⟨h3, h4⟩ := toPs_ok ds ok'.2
    simp [toPs, PyData.canLayAll0, PyData.depthAll, h1, h3]
    omega
end
theorem shaped_of {d : D} (h : D.okd 60 d = true) : SeqAt.shaped (toP d) = true := by
  obtain ⟨h1, h2⟩ := toP_ok d h
  unfold SeqAt.shaped
  rw [h1, decide_eq_true (by omega)]
  rfl
theorem shaped_ofs {ds : List D} (h : okds 60 ds = true) : SeqAt.shaped (.list (toPs ds)) = true := by
  obtain ⟨h1, h2⟩ := toPs_ok ds h
  have e1 : (PyData.list (toPs ds)).canLay0 = true := by simpa [PyData.canLay0] using h1
  have e2 : (PyData.list (toPs ds)).depth = PyData.depthAll (toPs ds) + 1 := by simp [PyData.depth]
  unfold SeqAt.shaped
  rw [e1, e2, decide_eq_true (by omega)]
  rfl
mutual
theorem toP_eqv {n m : Nat} : ∀ (d e : D), D.okd n d = true → D.okd m e = true → PyData.eqv (toP d) (toP e) = D.eqb d e
  | .tup xs, .tup ys, h1, h2 => by
    cases n with
    | zero => simp [D.okd] at h1
    | succ n =>
      cases m with
      | zero => simp [D.okd] at h2
      | succ m => simpa [toP, PyData.eqv, D.eqb] using toPs_eqv xs ys (n := n) (m := m) (by simpa [D.okd] using h1) (by simpa [D.okd] using h2)
  | .ref _, _, h1, _ => by simp [D.okd] at h1
  | d, .ref _, _, h2 => by simp [D.okd] at h2
  | .non, .non, _, _ => by simp [toP, PyData.eqv, D.eqb]
  | .non, .bl _, _, _ => by simp [toP, PyData.eqv, D.eqb]
  | .non, .int _, _, _ => by simp [toP, PyData.eqv, D.eqb]
  | .non, .str _, _, _ => by simp [toP, PyData.eqv, D.eqb]
  | .non, .tup _, _, _ => by simp [toP, PyData.eqv, D.eqb]
  | .bl _, .non, _, _ => by simp [toP, PyData.eqv, D.eqb]
  | .bl _, .bl _, _, _ => by simp [toP, PyData.eqv, D.eqb]
  | .bl b, .int _, _, _ => by cases b <;> simp [toP, PyData.eqv, D.eqb, b2i]
  | .bl _, .str _, _, _ => by simp [toP, PyData.eqv, D.eqb]
  | .bl _, .tup _, _, _ => by simp [toP, PyData.eqv, D.eqb]
  | .int _, .non, _, _ => by simp [toP, PyData.eqv, D.eqb]
  | .int _, .bl b, _, _ => by cases b <;> simp [toP, PyData.eqv, D.eqb, b2i]
  | .int _, .int _, _, _ => by simp [toP, PyData.eqv, D.eqb]
  | .int _, .str _, _, _ => by simp [toP, PyData.eqv, D.eqb]
  | .int _, .tup _, _, _ => by simp [toP, PyData.eqv, D.eqb]
  | .str _, .non, _, _ => by simp [toP, PyData.eqv, D.eqb]
  | .str _, .bl _, _, _ => by simp [toP, PyData.eqv, D.eqb]
  | .str _, .int _, _, _ => by simp [toP, PyData.eqv, D.eqb]
  | .str x, .str y, _, _ => by simp only [toP, PyData.eqv, D.eqb]; by_cases h : x = y <;> simp [h]
  | .str _, .tup _, _, _ => by simp [toP, PyData.eqv, D.eqb]
  | .tup _, .non, _, _ => by simp [toP, PyData.eqv, D.eqb]
  | .tup _, .bl _, _, _ => by simp [toP, PyData.eqv, D.eqb]
  | .tup _, .int _, _, _ => by simp [toP, PyData.eqv, D.eqb]
  | .tup _, .str _, _, _ => by simp [toP, PyData.eqv, D.eqb]
theorem toPs_eqv {n m : Nat} : ∀ (ds es : List D), okds n ds = true → okds m es = true → PyData.eqvAll (toPs ds) (toPs es) = eqbs ds es
  | [], [], _, _ => by simp [toPs, PyData.eqvAll, eqbs]
  | [], _ :: _, _, _ => by simp [toPs, PyData.eqvAll, eqbs]
  | _ :: _, [], _, _ => by simp [toPs, PyData.eqvAll, eqbs]
  | d :: ds, e :: es, h1, h2 => by
    have ok1 : D.okd n d = true ∧ okds n ds = true := by simpa [okds] using h1
    have ok2 : D.okd m e = true ∧ okds m es = true := by simpa [okds] using h2
    simp [toPs, PyData.eqvAll, eqbs, toP_eqv d e ok1.1 ok2.1, toPs_eqv ds es ok1.2 ok2.2]
end
/-- a comparison's rule against the data-level one -/
def RealC (K : Kf) (r : L2.R2) (k : KC) : Prop := ∀ (f : List Addr) (st : Store) (H : Hp) (x y : D) (v w : L2.V) (Q' : Bool → Prop) (Q : L2.VK), RelS K f st H → RD K f H x v → RD K f H y w → k x y st Q' → (∀ b, Q' b → Q (.bl b) H) → r v w H Q
theorem RealC.real {r : L2.R2} {k : KC} (h : RealC K r k) : Real2 K r fun x y st Q => k x y st fun b => Q (.bl b) st := fun f st H x y v w Q' Q s r1 r2 hk l =>
  h f st H x y v w _ Q s r1 r2 hk fun b q => l.now s q (RD.bl.mpr rfl)
theorem eqC_dp {x y : D} {v w : L2.V} {Q' : Bool → Prop} (s : RelS K f st H) (r1 : RD K f H x v) (r2 : RD K f H y w) (h : eqC x y st Q') :
    ∃ d e, L2.Dp K H v d ∧ L2.Dp K H w e ∧ SeqAt.shaped d = true ∧ SeqAt.shaped e = true ∧ Q' (PyData.eqv d e) := by
  have lst : ∀ {n : Nat} {xs : List D} {u : L2.V}, rdA st n xs → okds 60 xs = true → RD K f H (.ref n) u → L2.Dp K H u (.list (toPs xs)) := fun {n xs u} h1 h2 h3 => by
    rw [RD.ref] at h3
    obtain ⟨a, e1, rfl⟩ := h3
    obtain ⟨a', vs, g1, g2, g3⟩ := s.rdA h1
    rw [e1] at g1; cases g1
    exact .lst g2 (toPs_dp xs h2 g3)
  have pur : ∀ {x y : D} {v w : L2.V}, RD K f H x v → RD K f H y w → (D.okd 60 x = true ∧ D.okd 60 y = true ∧ Q' (D.eqb x y)) → ∃ d e, L2.Dp K H v d ∧ L2.Dp K H w e ∧ SeqAt.shaped d = true ∧ SeqAt.shaped e = true ∧ Q' (PyData.eqv d e) := fun {x y v w} r1 r2 ⟨h1, h2, h3⟩ =>
    ⟨toP x, toP y, toP_dp x h1 r1, toP_dp y h2 r2, shaped_of h1, shaped_of h2, by rw [toP_eqv x y h1 h2]; exact h3⟩
  have lefts : ∀ {n : Nat} {xs : List D} {y : D}, (∀ m, y ≠ .ref m) → rdA st n xs → okds 60 xs = true → D.okd 60 y = true → Q' false → RD K f H (.ref n) v → RD K f H y w → ∃ d e, L2.Dp K H v d ∧ L2.Dp K H w e ∧ SeqAt.shaped d = true ∧ SeqAt.shaped e = true ∧ Q' (PyData.eqv d e) := fun {n xs y} hy h1 h2 h3 h4 r1 r2 =>
    ⟨_, toP y, lst h1 h2 r1, toP_dp y h3 r2, shaped_ofs h2, shaped_of h3, by
      have : PyData.eqv (.list (toPs xs)) (toP y) = false := by
        cases y <;> first | exact absurd rfl (hy _) | simp [toP, PyData.eqv]
      rw [this]; exact h4⟩
  have rights : ∀ {n : Nat} {xs : List D} {x : D}, (∀ m, x ≠ .ref m) → rdA st n xs → okds 60 xs = true → D.okd 60 x = true → Q' false → RD K f H x v → RD K f H (.ref n) w → ∃ d e, L2.Dp K H v d ∧ L2.Dp K H w e ∧ SeqAt.shaped d = true ∧ SeqAt.shaped e = true ∧ Q' (PyData.eqv d e) := fun {n xs x} hy h1 h2 h3 h4 r1 r2 =>
    ⟨toP x, _, toP_dp x h3 r1, lst h1 h2 r2, shaped_of h3, shaped_ofs h2, by
      have : PyData.eqv (toP x) (.list (toPs xs)) = false := by
        cases x <;> first | exact absurd rfl (hy _) | simp [toP, PyData.eqv]
      rw [this]; exact h4⟩
  by_cases hx : ∃ m, x = .ref m
  · obtain ⟨m, rfl⟩ := hx
    by_cases hy : ∃ n, y = .ref n
    · obtain ⟨n, rfl⟩ := hy
      obtain ⟨xs, ys, h1, h2, h3, h4, h5⟩ := h
      exact ⟨_, _, lst h1 h3 r1, lst h2 h4 r2, shaped_ofs h3, shaped_ofs h4, by rw [show PyData.eqv (.list (toPs xs)) (.list (toPs ys)) = PyData.eqvAll (toPs xs) (toPs ys) by simp [PyData.eqv], toPs_eqv xs ys h3 h4]; exact h5⟩
    · have h' : ∃ xs, rdA st m xs ∧ okds 60 xs = true ∧ D.okd 60 y = true ∧ Q' false := by
        cases y <;> first | exact h | exact absurd ⟨_, rfl⟩ hy
      obtain ⟨xs, h1, h2, h3, h4⟩ := h'
      exact lefts (fun k e => hy ⟨k, e⟩) h1 h2 h3 h4 r1 r2
  · by_cases hy : ∃ n, y = .ref n
    · obtain ⟨n, rfl⟩ := hy
      have h' : ∃ ys, rdA st n ys ∧ okds 60 ys = true ∧ D.okd 60 x = true ∧ Q' false := by
        cases x <;> first | exact h | exact absurd ⟨_, rfl⟩ hx
      obtain ⟨xs, h1, h2, h3, h4⟩ := h'
      exact rights (fun k e => hx ⟨k, e⟩) h1 h2 h3 h4 r1 r2
    · exact pur r1 r2 (by cases x <;> cases y <;> first | exact h | exact absurd ⟨_, rfl⟩ hx | exact absurd ⟨_, rfl⟩ hy)
theorem real_eq : RealC K (L2.rEqD K) eqC := fun f st H x y v w Q' Q s r1 r2 h l => by
  obtain ⟨d, e, h1, h2, h3, h4, h5⟩ := eqC_dp s r1 r2 h
  exact ⟨d, e, h1, h2, h3, h4, l _ h5⟩
theorem real_ne : RealC K (L2.rNeD K) neC := fun f st H x y v w Q' Q s r1 r2 h l => by
  obtain ⟨d, e, h1, h2, h3, h4, h5⟩ := eqC_dp s r1 r2 h
  exact ⟨d, e, h1, h2, h3, h4, l _ h5⟩
theorem real_cmp {g : Int → Int → Bool} {k : KC} (hk : ∀ x y st Q, k x y st Q → ∃ i j, x = .int i ∧ y = .int j ∧ Q (g i j)) : RealC K (L2.rI0 fun i j => .bl (g i j)) k := by
  intro f st H x y v w Q' Q s r1 r2 h l
  obtain ⟨i, j, rfl, rfl, q⟩ := hk x y st Q' h
  rw [RD.int] at r1 r2
  exact ⟨i, j, r1, r2, l _ q⟩
theorem real_lt : RealC K (L2.rI0 fun i j => .bl (decide (i < j))) ltC := real_cmp fun x y st Q h => by
  cases x <;> cases y <;> first | exact h.elim | exact ⟨_, _, rfl, rfl, h⟩
theorem real_le : RealC K (L2.rI0 fun i j => .bl (decide (i ≤ j))) leC := real_cmp fun x y st Q h => by
  cases x <;> cases y <;> first | exact h.elim | exact ⟨_, _, rfl, rfl, h⟩
theorem real_gt : RealC K (L2.rI0 fun i j => .bl (decide (j < i))) gtC := real_cmp fun x y st Q h => by
  cases x <;> cases y <;> first | exact h.elim | exact ⟨_, _, rfl, rfl, h⟩
theorem real_ge : RealC K (L2.rI0 fun i j => .bl (decide (j ≤ i))) geC := real_cmp fun x y st Q h => by
  cases x <;> cases y <;> first | exact h.elim | exact ⟨_, _, rfl, rfl, h⟩
theorem RD.isNon {x : D} {v : L2.V} (h : RD K f H x v) : decide (v = .non) = isNon x := by
  cases x with
  | non => rw [RD.non] at h; subst h; rfl
  | bl b => rw [RD.bl] at h; subst h; rfl
  | int i => rw [RD.int] at h; subst h; rfl
  | str y => rw [RD.str] at h; subst h; rfl
  | tup ds => rw [RD.tup] at h; obtain ⟨a, vs, rfl, _⟩ := h; rfl
  | ref n => rw [RD.ref] at h; obtain ⟨a, _, rfl⟩ := h; rfl
theorem real_is : RealC K (fun x y H Q => y = .non ∧ Q (.bl (decide (x = .non))) H) isC := fun f st H x y v w Q' Q s r1 r2 h l => by
  cases y <;> try (cases x <;> exact h.elim)
  rw [RD.non] at r2
  have h' : Q' (isNon x) := by cases x <;> exact h
  exact ⟨r2, by rw [r1.isNon]; exact l _ h'⟩
theorem real_isnt : RealC K (fun x y H Q => y = .non ∧ Q (.bl (!decide (x = .non))) H) isntC := fun f st H x y v w Q' Q s r1 r2 h l => by
  cases y <;> try (cases x <;> exact h.elim)
  rw [RD.non] at r2
  have h' : Q' (!isNon x) := by cases x <;> exact h
  exact ⟨r2, by rw [r1.isNon]; exact l _ h'⟩
theorem RD.flatV {x : D} {v : L2.V} (h : RD K f H x v) (hf : x.flat = true) : L2.flatV v = true := by
  cases x with
  | non => rw [RD.non] at h; subst h; rfl
  | bl b => rw [RD.bl] at h; subst h; rfl
  | int i => rw [RD.int] at h; subst h; rfl
  | str y => rw [RD.str] at h; subst h; rfl
  | tup ds => cases hf
  | ref n => cases hf
theorem RDs.flatV : ∀ {xs : List D} {vs : List L2.V}, RDs K f H xs vs → xs.all D.flat = true → vs.all L2.flatV = true
  | [], _, h, _ => by rw [RDs.nil] at h; subst h; rfl
  | x :: xs, _, h, hf => by
    rw [RDs.cons] at h
    obtain ⟨v, r, rfl, h1, h2⟩ := h
    have hf' : x.flat = true ∧ xs.all D.flat = true := by simpa using hf
    rw [List.all_cons, h1.flatV hf'.1, RDs.flatV h2 hf'.2]; rfl
end
end Pd
end PartPdSoundB

section PartPdSoundC
set_option Elab.async false
set_option linter.all false
set_option maxRecDepth 100000
set_option maxHeartbeats 1000000
/-! Pd over the hand layer: tests, items, slices, calls, built-ins. Own work. -/
namespace Pd
open PySem PySem.Spec
section
variable {X : L2.Cx} {K : Kf} {f f' : List Addr} {H H' : Hp} {st st' : Store} {ρ : Env} {σ : L2.St}
theorem b2i_eq (b : Bool) : b2i b = (if b then 1 else 0) := rfl
theorem RD.eqV {x y : D} {v w : L2.V} (h : RD K f H x v) (h' : RD K f H y w) (hx : x.flat = true) (hy : y.flat = true) : L2.eqV v w = D.eqb x y := by
  cases x <;> cases y <;> first | (exfalso; revert hx; simp [D.flat]; done) | (exfalso; revert hy; simp [D.flat]; done) | skip
  all_goals (simp only [RD.non, RD.bl, RD.int, RD.str] at h h'; subst h; subst h'; simp [L2.eqV, D.eqb, b2i])
  rename_i s t
  by_cases e : s = t <;> simp [e]
theorem RDs.inV {y : D} {w : L2.V} (h' : RD K f H y w) (hy : y.flat = true) : ∀ {xs : List D} {vs : List L2.V}, RDs K f H xs vs → xs.all D.flat = true → L2.inV w vs = xs.any fun x => D.eqb x y
  | [], _, h, _ => by rw [RDs.nil] at h; subst h; rfl
  | x :: xs, _, h, hf => by
    rw [RDs.cons] at h
    obtain ⟨v, r, rfl, h1, h2⟩ := h
    have hf' : x.flat = true ∧ xs.all D.flat = true := by simpa using hf
    have ih := RDs.inV h' hy h2 hf'.2
    unfold L2.inV at ih ⊢
    rw [List.any_cons, List.any_cons, ih, h1.eqV h' hf'.1 hy]
theorem real_in (neg : Bool) : RealC K (L2.rIn K neg) (fun x y st Q => inC x y st fun b => Q (if neg then !b else b)) := fun f st H x y v w Q' Q s r1 r2 h l => by
  cases y <;> try (exact h.elim)
  · rw [RD.tup] at r2
    obtain ⟨a, vs, rfl, t, d⟩ := r2
    obtain ⟨h1, h2, h3⟩ := h
    refine ⟨a, vs, rfl, .inr t, r1.flatV h1, d.flatV h2, ?_⟩
    rw [RDs.inV r1 h1 d h2]
    exact l _ h3
  · rw [RD.ref] at r2
    obtain ⟨a, e, rfl⟩ := r2
    obtain ⟨xs, h0, h1, h2, h3⟩ := h
    obtain ⟨a', vs, g1, g2, g3⟩ := s.rdA h0
    rw [e] at g1; cases g1
    refine ⟨a, vs, rfl, .inl g2, r1.flatV h1, g3.flatV h2, ?_⟩
    rw [RDs.inV r1 h1 g3 h2]
    exact l _ h3
section
variable {a b c : Expr} {ta tb tc : TE} {pos : Pos}
theorem pd_cmp {op : CmpOp} {r : L2.R2} {k : KC} (ho : L2.OpR X (compareOp op) r) (hr : RealC X.K r k) (hm : behindInMarks op b = false) (ha : PD X a ta) (hb : PD X b tb) : PD X (.Compare a [op] [b] pos) (dCmp k ta tb) :=
  pe_imp (L2.pe_cmpR ho ha hb hm) fun σ H Q h => two_imp hr.real h
theorem pt_cmp {op : CmpOp} {r : L2.R2} {k : KC} (ho : L2.OpR X (compareOp op) r) (hr : RealC X.K r k) (hm : behindInMarks op b = false) (ha : PD X a ta) (hb : PD X b tb) : PDT X (.Compare a [op] [b] pos) (tTru (dCmp k ta tb)) := by
  refine pt_imp (L2.pt_cmpR ho ha hb hm) fun σ H Q ⟨f, ρ, st, Q', R, h, l⟩ => ?_
  refine ⟨f, ρ, st, _, R, h, fun x st1 v f1 H1 h1 e1 s1 r1 => ⟨f1, ρ, st1, _, R.later e1 s1, h1, fun y st2 w f2 H2 h2 e2 s2 r2 => ?_⟩⟩
  exact hr f2 st2 H2 x y v w (fun b => Q' b st2) _ s2 (r1.mono e2) r2 h2 fun b q => ⟨b, rfl, l b st2 f2 H2 q (e1.trans e2) s2⟩
theorem chain_core {r r' : L2.R2} {k k' : KC} (hr : RealC K r k) (hr' : RealC K r' k') {Q' : Bool → Store → Prop} {Q : L2.VK} {f : List Addr} {ρ : Env} {st : Store}
    (R : Rel K f ρ st σ H) (h : ta ρ st fun x st1 => tb ρ st1 fun y st2 => k x y st2 fun b => (b = true → tc ρ st2 fun z st3 => k' y z st3 fun b' => Q' b' st3) ∧ (b = false → Q' false st2))
    (l : ∀ b st' f' H', Q' b st' → Ext K f H f' H' → RelS K f' st' H' → Q (.bl b) H') : L2.tChain r r' (lift K ta) (lift K tb) (lift K tc) σ H Q := by
  refine ⟨f, ρ, st, _, R, h, fun x st1 v f1 H1 h1 e1 s1 r1 => ⟨f1, ρ, st1, _, R.later e1 s1, h1, fun y st2 w f2 H2 h2 e2 s2 r2 => ?_⟩⟩
  refine hr f2 st2 H2 x y v w _ _ s2 (r1.mono e2) r2 h2 fun b q => ⟨b, rfl, ?_⟩
  cases b with
  | false => exact l false st2 f2 H2 (q.2 rfl) (e1.trans e2) s2
  | true => exact ⟨f2, ρ, st2, _, R.later (e1.trans e2) s2, q.1 rfl, fun z st3 u f3 H3 h3 e3 s3 r3 => hr' f3 st3 H3 y z w u (fun b' => Q' b' st3) _ s3 (r2.mono e3) r3 h3 fun b' q' => l b' st3 f3 H3 q' ((e1.trans e2).trans e3) s3⟩
theorem pd_chain {op op' : CmpOp} {r r' : L2.R2} {k k' : KC} (ho : L2.OpR X (compareOp op) r) (hr : RealC X.K r k) (ho' : L2.OpR X (compareOp op') r') (hr' : RealC X.K r' k') (ha : PD X a ta) (hb : PD X b tb) (hc : PD X c tc)
    (hm : lastMarks [op, op'] [b, c] = false := by with_unfolding_all rfl) : PD X (.Compare a [op, op'] [b, c] pos) (dChain k k' ta tb tc) := by
  refine pe_imp (L2.pe_chain ho ho' ha hb hc hm) fun σ H Q ⟨f, ρ, st, Q', R, h, l⟩ => ?_
  exact chain_core hr hr' (Q' := fun b st => Q' (.bl b) st) R h fun b st' f' H' q e s => l (.bl b) st' _ f' H' q e s (RD.bl.mpr rfl)
theorem pt_chain {op op' : CmpOp} {r r' : L2.R2} {k k' : KC} (ho : L2.OpR X (compareOp op) r) (hr : RealC X.K r k) (ho' : L2.OpR X (compareOp op') r') (hr' : RealC X.K r' k') (ha : PD X a ta) (hb : PD X b tb) (hc : PD X c tc)
    (hm : lastMarks [op, op'] [b, c] = false := by with_unfolding_all rfl) : PDT X (.Compare a [op, op'] [b, c] pos) (tTru (dChain k k' ta tb tc)) := by
  refine pt_imp (L2.pt_chain ho ho' ha hb hc hm) fun σ H Q ⟨f, ρ, st, Q', R, h, l⟩ => ?_
  exact chain_core (Q := fun x H' => ∃ k, x = .bl k ∧ Q k H') hr hr' (Q' := Q') R h fun b st' f' H' q e s => ⟨b, rfl, l b st' f' H' q e s⟩

/-! ### truth -/
theorem tru_of {x : D} {v : L2.V} {Q' : Bool → Prop} (s : RelS K f st H) (r : RD K f H x v) (h : truK x st Q') : ∃ k, L2.TruV K v H k ∧ Q' k := by
  cases x with
  | non => rw [RD.non] at r; subst r; exact ⟨_, rfl, h⟩
  | bl b => rw [RD.bl] at r; subst r; exact ⟨_, rfl, h⟩
  | int i => rw [RD.int] at r; subst r; exact ⟨_, rfl, h⟩
  | str y => rw [RD.str] at r; subst r; exact ⟨_, ⟨by rw [← szl_eq]; exact h.1, rfl⟩, h.2⟩
  | tup xs =>
    rw [RD.tup] at r
    obtain ⟨a, vs, rfl, t, d⟩ := r
    refine ⟨_, .inr (.inl ⟨vs, t, rfl⟩), ?_⟩
    have : vs.isEmpty = xs.isEmpty := by
      cases xs with
      | nil => rw [RDs.nil] at d; subst d; rfl
      | cons x xs => rw [RDs.cons] at d; obtain ⟨_, _, rfl, _⟩ := d; rfl
    rw [this]; exact h
  | ref n =>
    rw [RD.ref] at r
    obtain ⟨a, e, rfl⟩ := r
    obtain ⟨xs, h1, h2⟩ := h
    obtain ⟨a', vs, g1, g2, d⟩ := s.rdA h1
    rw [e] at g1; cases g1
    refine ⟨_, .inl ⟨vs, g2, rfl⟩, ?_⟩
    have : vs.isEmpty = xs.isEmpty := by
      cases xs with
      | nil => rw [RDs.nil] at d; subst d; rfl
      | cons x xs => rw [RDs.cons] at d; obtain ⟨_, _, rfl, _⟩ := d; rfl
    rw [this]; exact h2
theorem pt_tru (ha : PD X a ta) (he : ∀ whole, isTrue a X.env whole = (do let v ← whole; standAt a.pos; holding [v] (truthy v)) := by intro _; rfl) : PDT X a (tTru ta) := by
  refine pt_imp (L2.pt_truth ha he) fun σ H Q ⟨f, ρ, st, Q', R, h, l⟩ => ?_
  refine ⟨f, ρ, st, _, R, h, fun x st1 v f1 H1 h1 e1 s1 r1 => ?_⟩
  obtain ⟨k, t, q⟩ := tru_of s1 r1 h1
  exact ⟨k, t, l k st1 f1 H1 q e1 s1⟩
abbrev PDW (X : L2.Cx) (e : Expr) (t : TT) : Prop := L2.PW X e (liftT X.K t)
theorem ptw {e : Expr} {t : TT} (h : PDW X e t) : PDT X e t := L2.PW.pt h
theorem pw_imp {e : Expr} {t t' : L2.TT} (h : L2.PW X e t) (m : ∀ σ H Q, t' σ H Q → t σ H Q) : L2.PW X e t' := ⟨fun whole pins s σ H Q I q => h.run whole pins s σ H Q I (m σ H Q q)⟩
variable {es : List Expr} {tA tB tC : TT}
theorem pw_and1 (ha : PDT X a tA) : PDW X (.BoolOp .And [a] pos) tA := L2.pw_and1 ha
theorem pw_or1 (ha : PDT X a tA) : PDW X (.BoolOp .Or [a] pos) tA := L2.pw_or1 ha
theorem pw_and (ha : PDT X a tA) (hb : PDW X (.BoolOp .And (b :: es) pos) tB) : PDW X (.BoolOp .And (a :: b :: es) pos) (tAnd tA tB) :=
  pw_imp (L2.pw_and ha hb) fun σ H Q ⟨f, ρ, st, Q', R, h, l⟩ => ⟨f, ρ, st, _, R, h, fun c st1 f1 H1 h1 e1 s1 => by
    cases c with
    | false => exact l false st1 f1 H1 (h1.2 rfl) e1 s1
    | true => exact ⟨f1, ρ, st1, Q', R.later e1 s1, h1.1 rfl, fun b st2 f2 H2 q e2 s2 => l b st2 f2 H2 q (e1.trans e2) s2⟩⟩
theorem pw_or (ha : PDT X a tA) (hb : PDW X (.BoolOp .Or (b :: es) pos) tB) : PDW X (.BoolOp .Or (a :: b :: es) pos) (tOr tA tB) :=
  pw_imp (L2.pw_or ha hb) fun σ H Q ⟨f, ρ, st, Q', R, h, l⟩ => ⟨f, ρ, st, _, R, h, fun c st1 f1 H1 h1 e1 s1 => by
    cases c with
    | true => exact l true st1 f1 H1 (h1.1 rfl) e1 s1
    | false => exact ⟨f1, ρ, st1, Q', R.later e1 s1, h1.2 rfl, fun b st2 f2 H2 q e2 s2 => l b st2 f2 H2 q (e1.trans e2) s2⟩⟩
theorem pt_not (ha : PDT X a tA) : PDT X (.UnaryOp .Not a pos) (tNot tA) :=
  pt_imp (L2.pt_not ha) fun σ H Q ⟨f, ρ, st, Q', R, h, l⟩ => ⟨f, ρ, st, _, R, h, fun c st1 f1 H1 h1 e1 s1 => l _ st1 f1 H1 h1 e1 s1⟩
theorem pd_one {op : BoolOp} (ha : PD X a ta) : PD X (.BoolOp op [a] pos) ta := L2.pe_one ha
theorem pd_and' (ha : PD X a ta) (hb : PD X (.BoolOp .And (b :: es) pos) tb) : PD X (.BoolOp .And (a :: b :: es) pos) (dAndT ta tb) :=
  pe_imp (L2.pe_andT ha hb) fun σ H Q ⟨f, ρ, st, Q', R, h, l⟩ => ⟨f, ρ, st, _, R, h, fun x st1 v f1 H1 h1 e1 s1 r1 => by
    obtain ⟨k, t, q⟩ := tru_of s1 r1 h1
    refine ⟨k, t, ?_⟩
    cases k with
    | false => exact l x st1 v f1 H1 (q.2 rfl) e1 s1 r1
    | true => exact ⟨f1, ρ, st1, Q', R.later e1 s1, q.1 rfl, l.later e1⟩⟩
theorem pd_or' (ha : PD X a ta) (hb : PD X (.BoolOp .Or (b :: es) pos) tb) : PD X (.BoolOp .Or (a :: b :: es) pos) (dOrT ta tb) :=
  pe_imp (L2.pe_orT ha hb) fun σ H Q ⟨f, ρ, st, Q', R, h, l⟩ => ⟨f, ρ, st, _, R, h, fun x st1 v f1 H1 h1 e1 s1 r1 => by
    obtain ⟨k, t, q⟩ := tru_of s1 r1 h1
    refine ⟨k, t, ?_⟩
    cases k with
    | true => exact l x st1 v f1 H1 (q.1 rfl) e1 s1 r1
    | false => exact ⟨f1, ρ, st1, Q', R.later e1 s1, q.2 rfl, l.later e1⟩⟩
theorem pd_not (ha : PD X a ta) : PD X (.UnaryOp .Not a pos) (dNotT ta) :=
  pe_imp (L2.pe_notT ha) fun σ H Q ⟨f, ρ, st, Q', R, h, l⟩ => ⟨f, ρ, st, _, R, h, fun x st1 v f1 H1 h1 e1 s1 r1 => by
    obtain ⟨k, t, q⟩ := tru_of s1 r1 h1
    exact ⟨k, t, l _ st1 _ f1 H1 q e1 s1 (RD.bl.mpr rfl)⟩⟩
theorem pd_if (hc : PDT X c tC) (ha : PD X a ta) (hb : PD X b tb) : PD X (.IfExp c a b pos) (dIf tC ta tb) :=
  pe_imp (L2.pe_ifExp hc ha hb) fun σ H Q ⟨f, ρ, st, Q', R, h, l⟩ => ⟨f, ρ, st, _, R, h, fun k st1 f1 H1 h1 e1 s1 => by
    cases k with
    | true => exact ⟨f1, ρ, st1, Q', R.later e1 s1, h1.1 rfl, l.later e1⟩
    | false => exact ⟨f1, ρ, st1, Q', R.later e1 s1, h1.2 rfl, l.later e1⟩⟩
/-- a test that is an if-expression -/
theorem pt_if {t1 t2 : TT} (hc : PDT X c tC) (ha : PDT X a t1) (hb : PDT X b t2) : PDT X (.IfExp c a b pos) (fun σ st Q => tC σ st fun k st1 => (k = true → t1 σ st1 Q) ∧ (k = false → t2 σ st1 Q)) := by
  refine ⟨fun pins s σ H Q I ⟨f, ρ, st, Q', R, h, l⟩ => ?_⟩
  show wpAny _ _ (do if ← isTrue c X.env (eval c X.env) then isTrue a X.env (eval a X.env) else isTrue b X.env (eval b X.env)) _ _ s
  refine wpAny_bind (L2.thn (hc.run pins s σ H (fun k H1 => (k = true → liftT X.K t1 σ H1 Q) ∧ (k = false → liftT X.K t2 σ H1 Q)) I ⟨f, ρ, st, _, R, h, fun k st1 f1 H1 h1 e1 s1 => ?_⟩) fun k s1 ⟨H1, I1, q⟩ => ?_)
  · exact ⟨fun e => ⟨f1, ρ, st1, Q', R.later e1 s1, h1.1 e, fun b st2 f2 H2 q e2 s2 => l b st2 f2 H2 q (e1.trans e2) s2⟩, fun e => ⟨f1, ρ, st1, Q', R.later e1 s1, h1.2 e, fun b st2 f2 H2 q e2 s2 => l b st2 f2 H2 q (e1.trans e2) s2⟩⟩
  · cases k with
    | true => exact ha.run pins s1 σ H1 Q I1 (q.1 rfl)
    | false => exact hb.run pins s1 σ H1 Q I1 (q.2 rfl)

/-! ### items and slices -/
theorem atD_at {α : Type} (xs : List α) (i : Int) : L2.atI xs i = atD xs i := by
  unfold L2.atI L2.ixN atD
  by_cases h : 0 ≤ i
  · rw [if_pos h, if_pos h]
    by_cases h2 : i < xs.length
    · rw [if_pos h2]; rfl
    · rw [if_neg h2]
      show none = _
      rw [List.getElem?_eq_none (by omega)]
  · rw [if_neg h, if_neg h]
    by_cases h2 : -(xs.length : Int) ≤ i
    · rw [if_pos h2, if_pos h2]; rfl
    · rw [if_neg h2, if_neg h2]; rfl
theorem RDs.atD {ds : List D} {vs : List L2.V} {i : Int} {d : D} (h : RDs K f H ds vs) (e : atD ds i = some d) : ∃ v, L2.atI vs i = some v ∧ RD K f H d v := by
  rw [atD_at]
  unfold Pd.atD at e ⊢
  rw [h.length]
  by_cases c : 0 ≤ i
  · rw [if_pos c] at e ⊢
    obtain ⟨v, h1, h2⟩ := h.get e; exact ⟨v, h1, h2⟩
  · rw [if_neg c] at e ⊢
    by_cases c2 : -(ds.length : Int) ≤ i
    · rw [if_pos c2] at e ⊢
      obtain ⟨v, h1, h2⟩ := h.get e; exact ⟨v, h1, h2⟩
    · rw [if_neg c2] at e; cases e
theorem real_ix : Real2 K (L2.rIx K) ixK := fun f st H x y v w Q' Q s r1 r2 h l => by
  cases x <;> cases y <;> try (exact h.elim)
  · rw [RD.str] at r1
    rw [RD.int] at r2
    obtain ⟨c, h1, h2, h3⟩ := h
    exact .inr (.inr ⟨_, _, c, r1, r2, by rw [← szl_eq]; exact h1, by rw [atD_at]; exact h2, l.now s h3 (RD.str.mpr rfl)⟩)
  · rw [RD.tup] at r1
    rw [RD.int] at r2
    obtain ⟨a, vs, rfl, t, d⟩ := r1
    obtain ⟨d', h1, h2⟩ := h
    obtain ⟨v, g1, g2⟩ := d.atD h1
    exact .inr (.inl ⟨a, vs, _, v, rfl, r2, t, g1, l.now s h2 g2⟩)
  · rw [RD.ref] at r1
    rw [RD.int] at r2
    obtain ⟨a, e, rfl⟩ := r1
    obtain ⟨xs, d', h0, h1, h2⟩ := h
    obtain ⟨a', vs, k1, k2, d⟩ := s.rdA h0
    rw [e] at k1; cases k1
    obtain ⟨v, g1, g2⟩ := d.atD h1
    exact .inl ⟨a, vs, _, v, rfl, r2, k2, g1, l.now s h2 g2⟩
theorem pd_ix (hs : L2.PlainIx b) (ha : PD X a ta) (hb : PD X b tb) : PD X (.Subscript a b pos) (dOp ixK ta tb) :=
  pe_imp (L2.pe_ix L2.ix_seq ha hb hs) fun σ H Q h => two_imp real_ix h
def liftO (K : Kf) (t : TO) : L2.TO := fun σ H Q => ∃ f ρ st Q', Rel K f ρ st σ H ∧ t ρ st Q' ∧ ∀ (o : Option Int) (st' : Store) (f' : List Addr) (H' : Hp), Q' o st' → Ext K f H f' H' → RelS K f' st' H' → Q o H'
abbrev PDO (X : L2.Cx) (e : Option Expr) (t : TO) : Prop := L2.PO X e (liftO X.K t)
theorem po_imp {e : Option Expr} {t t' : L2.TO} (h : L2.PO X e t) (m : ∀ σ H Q, t' σ H Q → t σ H Q) : L2.PO X e t' := ⟨fun pins s σ H Q I q => h.run pins s σ H Q I (m σ H Q q)⟩
theorem po_none : PDO X none oNone := po_imp L2.po_none fun σ H Q ⟨f, ρ, st, Q', R, h, l⟩ => l none st f H h .refl R.toRelS
theorem po_some (ha : PD X a ta) : PDO X (some a) (oSome ta) := po_imp (L2.po_some ha) fun σ H Q ⟨f, ρ, st, Q', R, h, l⟩ => ⟨f, ρ, st, _, R, h, fun x st1 v f1 H1 h1 e1 s1 r1 => by
    obtain ⟨i, rfl, q⟩ := h1
    rw [RD.int] at r1
    exact ⟨i, r1, l _ st1 f1 H1 q e1 s1⟩⟩
theorem sIx_cl (n d : Nat) (o : Option Int) : HT.sIx n d o = (o.map (cl n)).getD d := by
  cases o with
  | none => rfl
  | some i => rfl
theorem cut_eq (xs : List L2.V) (lo hi : Option Int) : L2.cutV xs lo hi = cutD xs lo hi := by
  unfold L2.cutV cutD
  rw [sIx_cl, sIx_cl]
theorem RDs.cut {ds : List D} {vs : List L2.V} (h : RDs K f H ds vs) (lo hi : Option Int) : RDs K f H (cutD ds lo hi) (cutD vs lo hi) := by
  unfold cutD
  rw [h.length]
  exact (h.drop _).take _
theorem cut_whole {α : Type} (xs : List α) (lo hi : Option Int) (h1 : HT.sIx xs.length 0 lo = 0) (h2 : HT.sIx xs.length xs.length hi = xs.length) : cutD xs lo hi = xs := by
  unfold cutD
  rw [← sIx_cl, ← sIx_cl, h1, h2]
  simp
def rSl (K : Kf) : L2.V → Option Int → Option Int → Hp → L2.VK → Prop := fun x lo hi H Q => L2.rSlL K x lo hi H Q ∨ L2.rSlA K x lo hi H Q
theorem pd_sl {lo hi : Option Expr} {tl th : TO} {p2 : Pos} (ha : PD X a ta) (hl : PDO X lo tl) (hh : PDO X hi th) : PD X (.Subscript a (.Slice lo hi none p2) pos) (dSl ta tl th) := by
  refine pe_imp (L2.pe_slice (r := rSl X.K) (L2.SlR.or L2.sl_list L2.sl_tupA) ha hl hh) fun σ H Q ⟨f, ρ, st, Q', R, h, l⟩ => ?_
  refine ⟨f, ρ, st, _, R, h, fun x st1 v f1 H1 h1 e1 s1 r1 => ⟨f1, ρ, st1, _, R.later e1 s1, h1, fun o st2 f2 H2 h2 e2 s2 => ⟨f2, ρ, st2, _, R.later (e1.trans e2) s2, h2, fun o' st3 f3 H3 h3 e3 s3 => ?_⟩⟩⟩
  have r1' := r1.mono (e2.trans e3)
  have l' := l.later ((e1.trans e2).trans e3)
  cases x <;> try (exact h3.elim)
  · rw [RD.tup] at r1'
    obtain ⟨a, vs, rfl, t, d⟩ := r1'
    refine .inr ⟨a, vs, rfl, t, fun ⟨w1, w2⟩ => ?_, fun _ p hp => ?_⟩
    · rw [d.length] at w1 w2
      refine l'.now s3 h3 (RD.tup.mpr ⟨a, vs, rfl, t, ?_⟩)
      rw [cut_whole _ _ _ w1 w2]
      exact d
    · rw [cut_eq]
      exact l'.tup s3 h3 (d.cut o o') hp
  · rw [RD.ref] at r1'
    obtain ⟨a, e, rfl⟩ := r1'
    obtain ⟨xs, g0, g1⟩ := h3
    obtain ⟨a', vs, k1, k2, d⟩ := s3.rdA g0
    rw [e] at k1; cases k1
    refine .inl ⟨a, vs, rfl, k2, fun p hp => ?_⟩
    rw [cut_eq]
    exact l'.lst s3 g1 (d.cut o o') hp

/-! ### arguments, displays -/
theorem pa_nil : PDA X [] aNil := pa_imp L2.pa_nil fun σ H Q ⟨f, ρ, st, Q', R, h, l⟩ => l [] st [] f H h .refl R.toRelS (RDs.nil.mpr rfl)
theorem pa_cons {ts : TA} (ha : PD X a ta) (hr : PDA X es ts) (hs : starEach (a :: es) X.env = (false, eval a X.env) :: starEach es X.env := by rfl) : PDA X (a :: es) (aCons ta ts) :=
  pa_imp (L2.pa_cons ha hr hs) fun σ H Q ⟨f, ρ, st, Q', R, h, l⟩ => ⟨f, ρ, st, _, R, h, fun x st1 v f1 H1 h1 e1 s1 r1 => ⟨f1, ρ, st1, _, R.later e1 s1, h1, fun xs st2 vs f2 H2 h2 e2 s2 r2 =>
    l (x :: xs) st2 (v :: vs) f2 H2 h2 (e1.trans e2) s2 (RDs.cons.mpr ⟨v, vs, rfl, r1.mono e2, r2⟩)⟩⟩
theorem pd_tup {ts : TA} {x1} (h : PDA X es ts) : PD X (.Tuple es x1 pos) (dTup ts) :=
  pe_imp (L2.pe_tup h) fun σ H Q ⟨f, ρ, st, Q', R, h, l⟩ => ⟨f, ρ, st, _, R, h, fun xs st1 vs f1 H1 h1 e1 s1 r1 => ⟨by rw [r1.length, ← szl_eq]; exact h1.1, fun p hp => (l.later e1).tup s1 h1.2 r1 hp⟩⟩
theorem pd_lst {ts : TA} (h : PDA X es ts) : PD X (.List es pos) (dLst ts) :=
  pe_imp (L2.pe_lst h) fun σ H Q ⟨f, ρ, st, Q', R, h, l⟩ => ⟨f, ρ, st, _, R, h, fun xs st1 vs f1 H1 h1 e1 s1 r1 => ⟨by rw [r1.length, ← szl_eq]; exact h1.1, fun p hp => (l.later e1).lst s1 h1.2 r1 hp⟩⟩

/-! ### own defs -/
def liftF (K : Kf) (n : Nat) (c : List D → Store → Pd.K → Prop) : L2.Sp := fun vs H Q _ => vs.length = n ∧ ∃ f st ds Q', RelS K f st H ∧ RDs K f H ds vs ∧ c ds st Q' ∧ LQ K f H Q' Q
/-- a def that may be called by its name -/
structure Own (P : Program) (w : World) (K : Kf) (mg : Str → Option Value) (base : Heap) (k : Nat) (x : Str) (c : List D → Store → Pd.K → Prop) : Prop where
  ex : ∃ (fa : Addr) (fd : FuncData) (ps : List Str), L2.FnOk P w K mg base L2.CX0 k fa fd ps (liftF K ps.length c) ∧ mg x = some (.ref fa) ∧ PySem.W.keepIn K (.ref fa) = true ∧ L2.Binds K fd ps [] ∧ (∀ ds st Q, c ds st Q → ds.length = ps.length)
theorem pd_call {x : Str} {p : Pos} {k : Nat} {ts : TA} {cl : Cl} {y : String} (o : Own X.prog X.w X.K X.mg X.base k x (cl y)) (hr : L2.Room k X.A) (hg : L2.Gl X x) (ha : PDA X (a :: es) ts) (hdb : (x == ("__debug__" : Str)) = false := by decide)
    (he : starEach (a :: es) X.env = (false, eval a X.env) :: starEach es X.env := by rfl) (hpl : (backTo pos (starEach es X.env)).any (·.1) = false := by rfl) : PD X (.Call (.Name x p) (a :: es) [] pos) (dCall cl y ts) := by
  obtain ⟨fa, fd, ps, F, hm, hk, hb, hlen⟩ := o.ex
  refine pe_imp (L2.pe_call (E := fun _ _ _ => False) F hr hg hm hk hb .nil L2.pass0 ha hdb he hpl) fun σ H Q ⟨f, ρ, st, Q', R, h, l⟩ => ?_
  refine ⟨f, ρ, st, _, R, h, fun xs st1 vs f1 H1 h1 e1 s1 r1 => ?_⟩
  show liftF X.K ps.length (cl y) (vs ++ []) H1 Q _
  rw [List.append_nil]
  exact ⟨r1.length.trans (hlen _ _ _ h1), f1, st1, xs, Q', s1, r1, h1, l.later e1⟩
theorem pd_call0 {x : Str} {p : Pos} {k : Nat} {cl : Cl} {y : String} (o : Own X.prog X.w X.K X.mg X.base k x (cl y)) (hr : L2.Room k X.A) (hg : L2.Gl X x) (hdb : (x == ("__debug__" : Str)) = false := by decide) : PD X (.Call (.Name x p) [] [] pos) (dCall cl y aNil) := by
  obtain ⟨fa, fd, ps, F, hm, hk, hb, hlen⟩ := o.ex
  refine pe_imp (L2.pe_call0 (E := fun _ _ _ => False) F hr hg hm hk hb .nil L2.pass0 hdb) fun σ H Q ⟨f, ρ, st, Q', R, h, l⟩ => ?_
  exact (show liftF X.K ps.length (cl y) ([] ++ []) H Q (fun _ _ _ => False) from ⟨hlen _ _ _ h, f, st, [], Q', R.toRelS, RDs.nil.mpr rfl, h, l⟩)

/-! ### built-ins -/
def RealB (K : Kf) (r : List L2.V → Hp → L2.VK → Prop) (k : KB) : Prop := ∀ (f : List Addr) (st : Store) (H : Hp) (xs : List D) (vs : List L2.V) (Q' : Pd.K) (Q : L2.VK), RelS K f st H → RDs K f H xs vs → k xs st Q' → LQ K f H Q' Q → r vs H Q
theorem pd_callB {x : Str} {p : Pos} {id : String} {r : List L2.V → Hp → L2.VK → Prop} {k : KB} {ts : TA} (hc : L2.CallR X (.builtin id) r) (hr : RealB X.K r k) (hg : L2.Gl X x) (hm : X.mg x = none) (hv : bootBuiltins x = some (.builtin id)) (ha : PDA X (a :: es) ts) (hn : x ≠ "__name__" := by decide) (hdb : (x == ("__debug__" : Str)) = false := by decide)
    (he : starEach (a :: es) X.env = (false, eval a X.env) :: starEach es X.env := by rfl) (hpl : (backTo pos (starEach es X.env)).any (·.1) = false := by rfl) : PD X (.Call (.Name x p) (a :: es) [] pos) (dB k ts) :=
  pe_imp (L2.pe_callB hc hg hm hv ha hn hdb he hpl) fun σ H Q ⟨f, ρ, st, Q', R, h, l⟩ => ⟨f, ρ, st, _, R, h, fun xs st1 vs f1 H1 h1 e1 s1 r1 => hr f1 st1 H1 xs vs Q' Q s1 r1 h1 (l.later e1)⟩
theorem pd_callTy {x : Str} {p : Pos} {T : String} {r : List L2.V → Hp → L2.VK → Prop} {k : KB} {ts : TA} (hc : L2.CallR X (.type T) r) (hr : RealB X.K r k) (hg : L2.Gl X x) (hm : X.mg x = none) (hv : bootBuiltins x = some (.type T)) (ha : PDA X (a :: es) ts) (hn : x ≠ "__name__" := by decide) (hdb : (x == ("__debug__" : Str)) = false := by decide)
    (he : starEach (a :: es) X.env = (false, eval a X.env) :: starEach es X.env := by rfl) (hpl : (backTo pos (starEach es X.env)).any (·.1) = false := by rfl) : PD X (.Call (.Name x p) (a :: es) [] pos) (dB k ts) :=
  pe_imp (L2.pe_callTy hc hg hm hv ha hn hdb he hpl) fun σ H Q ⟨f, ρ, st, Q', R, h, l⟩ => ⟨f, ρ, st, _, R, h, fun xs st1 vs f1 H1 h1 e1 s1 r1 => hr f1 st1 H1 xs vs Q' Q s1 r1 h1 (l.later e1)⟩
end
theorem RDs.inv1 {x : D} {vs : List L2.V} (h : RDs K f H [x] vs) : ∃ v, vs = [v] ∧ RD K f H x v := by
  rw [RDs.cons] at h
  obtain ⟨v, r, rfl, h1, h2⟩ := h
  rw [RDs.nil] at h2
  subst h2
  exact ⟨v, rfl, h1⟩
theorem RDs.inv2 {x y : D} {vs : List L2.V} (h : RDs K f H [x, y] vs) : ∃ v w, vs = [v, w] ∧ RD K f H x v ∧ RD K f H y w := by
  rw [RDs.cons] at h
  obtain ⟨v, r, rfl, h1, h2⟩ := h
  obtain ⟨w, rfl, h3⟩ := h2.inv1
  exact ⟨v, w, rfl, h1, h3⟩
/-- one argument, two arguments, by cases -/
theorem realB1 {r : List L2.V → Hp → L2.VK → Prop} {k : KB} (h0 : ∀ xs st Q, k xs st Q → ∃ x, xs = [x])
    (h : ∀ (f : List Addr) (st : Store) (H : Hp) (x : D) (v : L2.V) (Q' : Pd.K) (Q : L2.VK), RelS K f st H → RD K f H x v → k [x] st Q' → LQ K f H Q' Q → r [v] H Q) : RealB K r k := fun f st H xs vs Q' Q s r1 hk l => by
  obtain ⟨x, rfl⟩ := h0 xs st Q' hk
  obtain ⟨v, rfl, h1⟩ := r1.inv1
  exact h f st H x v Q' Q s h1 hk l
theorem kb1 {k : KB} (h0 : ∀ st Q, ¬ k [] st Q) (h2 : ∀ x y xs st Q, ¬ k (x :: y :: xs) st Q) : ∀ xs st Q, k xs st Q → ∃ x, xs = [x] := fun xs st Q h => by
  match xs, h with
  | [], h => exact (h0 _ _ h).elim
  | [x], _ => exact ⟨x, rfl⟩
  | x :: y :: xs, h => exact (h2 _ _ _ _ _ h).elim
theorem real_intB : RealB K (fun xs H Q => (∃ i, xs = [.int i] ∧ Q (.int i) H) ∨ ∃ k, xs = [.bl k] ∧ Q (.int (if k then 1 else 0)) H) intB :=
  realB1 (kb1 (fun _ _ h => h) fun x y xs st Q h => by cases x <;> exact h) fun f st H x v Q' Q s r h l => by
    cases x <;> try (exact h.elim)
    · rw [RD.bl] at r; subst r; exact .inr ⟨_, rfl, l.now s h (RD.int.mpr rfl)⟩
    · rw [RD.int] at r; subst r; exact .inl ⟨_, rfl, l.now s h (RD.int.mpr rfl)⟩
theorem real_absB : RealB K (fun xs H Q => ∃ i, xs = [.int i] ∧ Q (.int (if i < 0 then -i else i)) H) absB :=
  realB1 (kb1 (fun _ _ h => h) fun x y xs st Q h => by cases x <;> exact h) fun f st H x v Q' Q s r h l => by
    cases x <;> try (exact h.elim)
    rw [RD.int] at r; subst r; exact ⟨_, rfl, l.now s h (RD.int.mpr rfl)⟩
theorem real_lenB : RealB K (fun xs H Q => ∃ x n, xs = [x] ∧ L2.LenV K x H n ∧ Q (.int n) H) lenB :=
  realB1 (kb1 (fun _ _ h => h) fun x y xs st Q h => by cases x <;> exact h) fun f st H x v Q' Q s r h l => by
    cases x <;> try (exact h.elim)
    · rw [RD.str] at r; subst r
      exact ⟨_, _, rfl, ⟨by rw [← szl_eq]; exact h.1, rfl⟩, l.now s h.2 (RD.int.mpr rfl)⟩
    · rw [RD.tup] at r
      obtain ⟨a, vs, rfl, t, d⟩ := r
      exact ⟨_, vs.length, rfl, .inr ⟨vs, t, rfl⟩, by rw [d.length]; exact l.now s h (RD.int.mpr rfl)⟩
    · rw [RD.ref] at r
      obtain ⟨a, e, rfl⟩ := r
      obtain ⟨xs, h1, h2⟩ := h
      obtain ⟨a', vs, k1, k2, d⟩ := s.rdA h1
      rw [e] at k1; cases k1
      exact ⟨_, vs.length, rfl, .inl ⟨vs, k2, rfl⟩, by rw [d.length]; exact l.now s h2 (RD.int.mpr rfl)⟩
theorem kb2 {k : KB} (h0 : ∀ st Q, ¬ k [] st Q) (h1 : ∀ x st Q, ¬ k [x] st Q) (h3 : ∀ x y z xs st Q, ¬ k (x :: y :: z :: xs) st Q) : ∀ xs st Q, k xs st Q → ∃ x y, xs = [x, y] := fun xs st Q h => by
  match xs, h with
  | [], h => exact (h0 _ _ h).elim
  | [x], h => exact (h1 _ _ _ h).elim
  | [x, y], _ => exact ⟨x, y, rfl⟩
  | x :: y :: z :: xs, h => exact (h3 _ _ _ _ _ _ h).elim
theorem real_min2B : RealB K (fun xs H Q => ∃ i j, xs = [.int i, .int j] ∧ Q (.int (if j < i then j else i)) H) min2B := fun f st H xs vs Q' Q s r h l => by
  obtain ⟨x, y, rfl⟩ := kb2 (k := min2B) (fun _ _ h => h) (fun x st Q h => by cases x <;> exact h) (fun x y z xs st Q h => by cases x <;> cases y <;> exact h) xs st Q' h
  obtain ⟨v, w, rfl, r1, r2⟩ := r.inv2
  cases x <;> cases y <;> try (exact h.elim)
  rw [RD.int] at r1 r2
  subst r1; subst r2
  exact ⟨_, _, rfl, l.now s h (RD.int.mpr rfl)⟩
theorem real_max2B : RealB K (fun xs H Q => ∃ i j, xs = [.int i, .int j] ∧ Q (.int (if j > i then j else i)) H) max2B := fun f st H xs vs Q' Q s r h l => by
  obtain ⟨x, y, rfl⟩ := kb2 (k := max2B) (fun _ _ h => h) (fun x st Q h => by cases x <;> exact h) (fun x y z xs st Q h => by cases x <;> cases y <;> exact h) xs st Q' h
  obtain ⟨v, w, rfl, r1, r2⟩ := r.inv2
  cases x <;> cases y <;> try (exact h.elim)
  rw [RD.int] at r1 r2
  subst r1; subst r2
  exact ⟨_, _, rfl, l.now s h (RD.int.mpr rfl)⟩
theorem real_listB : RealB K (fun xs H Q => ∃ p ys, xs = [.ref p] ∧ (L2.SqL K H p ys ∨ L2.SqT K H p ys) ∧ ∀ l, H l = none → Q (.ref l) (L2.upd H l (.lst ys))) listB :=
  realB1 (kb1 (fun _ _ h => h) fun x y xs st Q h => by cases x <;> exact h) fun f st H x v Q' Q s r h l => by
    cases x <;> try (exact h.elim)
    · rw [RD.tup] at r
      obtain ⟨a, vs, rfl, t, d⟩ := r
      exact ⟨a, vs, rfl, .inr t, fun p hp => l.lst s h d hp⟩
    · rw [RD.ref] at r
      obtain ⟨a, e, rfl⟩ := r
      obtain ⟨xs, h1, h2⟩ := h
      obtain ⟨a', vs, k1, k2, d⟩ := s.rdA h1
      rw [e] at k1; cases k1
      exact ⟨a, vs, rfl, .inl k2, fun p hp => l.lst s h2 d hp⟩
theorem real_tupleB : RealB K (fun xs H Q => ∃ p ys, xs = [.ref p] ∧ ((L2.SqL K H p ys ∧ ∀ l, H l = none → Q (.ref l) (L2.upd H l (.tup ys))) ∨ (L2.SqT K H p ys ∧ Q (.ref p) H))) tupleB :=
  realB1 (kb1 (fun _ _ h => h) fun x y xs st Q h => by cases x <;> exact h) fun f st H x v Q' Q s r h l => by
    cases x <;> try (exact h.elim)
    · rw [RD.tup] at r
      obtain ⟨a, vs, rfl, t, d⟩ := r
      exact ⟨a, vs, rfl, .inr ⟨t, l.now s h (RD.tup.mpr ⟨a, vs, rfl, t, d⟩)⟩⟩
    · rw [RD.ref] at r
      obtain ⟨a, e, rfl⟩ := r
      obtain ⟨xs, h1, h2⟩ := h
      obtain ⟨a', vs, k1, k2, d⟩ := s.rdA h1
      rw [e] at k1; cases k1
      exact ⟨a, vs, rfl, .inl ⟨k2, fun p hp => l.tup s h2 d hp⟩⟩
theorem real_sumB : RealB K (L2.rSum K) sumB :=
  realB1 (kb1 (fun _ _ h => h) fun x y xs st Q h => by cases x <;> exact h) fun f st H x v Q' Q s r h l => by
    cases x <;> try (exact h.elim)
    rw [RD.ref] at r
    obtain ⟨a, e, rfl⟩ := r
    obtain ⟨ns, h1, h2⟩ := h
    obtain ⟨a', vs, k1, k2, d⟩ := s.rdA h1
    rw [e] at k1; cases k1
    exact ⟨a, ns, rfl, by rw [← d.ints]; exact k2, l.now s h2 (RD.int.mpr rfl)⟩
def truV : L2.V → Bool
  | .bl b => b
  | .int i => i != 0
  | _ => false
def tfl : L2.V → Bool
  | .non => true
  | .bl _ => true
  | .int _ => true
  | _ => false
def rAnyF (K : Kf) : List L2.V → Hp → L2.VK → Prop := fun vs H Q => ∃ (a : Addr) (xs : List L2.V), vs = [L2.V.ref a] ∧ L2.SqL K H a xs ∧ xs.all tfl = true ∧ Q (.bl (xs.any truV)) H
def rAllF (K : Kf) : List L2.V → Hp → L2.VK → Prop := fun vs H Q => ∃ (a : Addr) (xs : List L2.V), vs = [L2.V.ref a] ∧ L2.SqL K H a xs ∧ xs.all tfl = true ∧ Q (.bl (xs.all truV)) H
theorem truth_tfl {prog : Program} {w : World} {A : Around} {xs : List L2.V} {its : List Value} (r : L2.Vals xs its) (h : xs.all tfl = true) :
    TruthOf prog w A (fun i v => its.toArray[i]? = some v) (fun i => (xs.map truV).getD i false) := fun i v s Q E hv hq => by
  have hv' : its[i]? = some v := by simpa using hv
  have hi : i < xs.length := by rw [r.length]; exact (List.getElem?_eq_some_iff.mp hv').1
  have hx : xs[i]? = some xs[i] := by simp [hi]
  obtain ⟨u, hu, ru⟩ := r.get hx
  rw [hv'] at hu; cases hu
  have hg : (xs.map truV).getD i false = truV xs[i] := by rw [List.getD_eq_getElem?_getD, List.getElem?_map, hx]; rfl
  have hq' : Q ((xs.map truV).getD i false) s := hq
  rw [hg] at hq'
  have ht : tfl xs[i] = true := by
    rw [List.all_eq_true] at h
    exact h _ (List.getElem_mem hi)
  generalize xs[i] = x at ru hq' ht
  cases x with
  | non => cases ru; exact PyProof.Rows.truthy_none hq'
  | bl b => cases ru; exact wpAny_truthy_bool hq'
  | int j => obtain ⟨t, rfl⟩ := ru; exact PySem.P.truthy_int hq'
  | _ => exact absurd ht (by simp [tfl])
theorem cr_anyF (hc : X.calm = true) : L2.CallR X (.builtin "any") (rAnyF X.K) := by
  intro pins s σ H vs us Q I r h
  obtain ⟨a, xs, rfl, hs, ht, q⟩ := h
  obtain ⟨its, rv, hl, _⟩ := I.list hs
  rw [L2.Vals.ref1 r]
  refine call_any_walk (L2.iter_any hl.isList fun s₂ e2 st hne => ?_)
  subst e2
  refine ⟨_, _, _, _, _, _, _, rfl, Walks.list (A := X.A.in1) (I.ok.hd hc) _ a hne its.toArray, st, truth_tfl rv ht, fun h' tk hk => ?_⟩
  refine ⟨.bl _, H, I.kept fun b o eo => hk b o (fun hmem => ?_) (Heap.get?_push_of_some _ eo), ?_, q⟩
  · rcases List.mem_cons.mp hmem with e1 | hmem
    · exact absurd (e1 ▸ Heap.lt_size eo) (Nat.lt_irrefl _)
    · cases hmem
  · show Value.bool _ = Value.bool _
    have e1 : its.toArray.size = (xs.map truV).length := by rw [List.size_toArray, List.length_map]; exact rv.length.symm
    rw [e1, L2.any_range, List.any_map]
    rfl
theorem cr_allF (hc : X.calm = true) : L2.CallR X (.builtin "all") (rAllF X.K) := by
  intro pins s σ H vs us Q I r h
  obtain ⟨a, xs, rfl, hs, ht, q⟩ := h
  obtain ⟨its, rv, hl, _⟩ := I.list hs
  rw [L2.Vals.ref1 r]
  refine call_all_walk (L2.iter_any hl.isList fun s₂ e2 st hne => ?_)
  subst e2
  refine ⟨_, _, _, _, _, _, _, rfl, Walks.list (A := X.A.in1) (I.ok.hd hc) _ a hne its.toArray, st, truth_tfl rv ht, fun h' tk hk => ?_⟩
  refine ⟨.bl _, H, I.kept fun b o eo => hk b o (fun hmem => ?_) (Heap.get?_push_of_some _ eo), ?_, q⟩
  · rcases List.mem_cons.mp hmem with e1 | hmem
    · exact absurd (e1 ▸ Heap.lt_size eo) (Nat.lt_irrefl _)
    · cases hmem
  · show Value.bool _ = Value.bool _
    have e1 : its.toArray.size = (xs.map truV).length := by rw [List.size_toArray, List.length_map]; exact rv.length.symm
    rw [e1, L2.all_range, List.all_map]
    rfl
theorem RD.tru {x : D} {v : L2.V} (h : RD K f H x v) (hx : x.tflat = true) : tfl v = true ∧ truV v = x.tru := by
  cases x with
  | non => rw [RD.non] at h; subst h; exact ⟨rfl, rfl⟩
  | bl b => rw [RD.bl] at h; subst h; exact ⟨rfl, rfl⟩
  | int i => rw [RD.int] at h; subst h; exact ⟨rfl, rfl⟩
  | str _ => cases hx
  | tup _ => cases hx
  | ref _ => cases hx
theorem RDs.tru : ∀ {xs : List D} {vs : List L2.V}, RDs K f H xs vs → xs.all D.tflat = true → vs.all tfl = true ∧ vs.any truV = xs.any D.tru ∧ vs.all truV = xs.all D.tru
  | [], _, h, _ => by rw [RDs.nil] at h; subst h; exact ⟨rfl, rfl, rfl⟩
  | x :: xs, _, h, hf => by
    rw [RDs.cons] at h
    obtain ⟨v, r, rfl, h1, h2⟩ := h
    have hf' : x.tflat = true ∧ xs.all D.tflat = true := by simpa using hf
    obtain ⟨a, b⟩ := h1.tru hf'.1
    obtain ⟨c, d, e⟩ := RDs.tru h2 hf'.2
    simp [a, b, c, d, e]
theorem real_allB : RealB K (rAllF K) allB :=
  realB1 (kb1 (fun _ _ h => h) fun x y xs st Q h => by cases x <;> exact h) fun f st H x v Q' Q s r h l => by
    cases x <;> try (exact h.elim)
    rw [RD.ref] at r
    obtain ⟨a, e, rfl⟩ := r
    obtain ⟨xs, h1, h2, h3⟩ := h
    obtain ⟨a', vs, k1, k2, d⟩ := s.rdA h1
    rw [e] at k1; cases k1
    obtain ⟨t1, t2, t3⟩ := d.tru h2
    exact ⟨a, vs, rfl, k2, t1, by rw [t3]; exact l.now s h3 (RD.bl.mpr rfl)⟩
theorem real_anyB : RealB K (rAnyF K) anyB :=
  realB1 (kb1 (fun _ _ h => h) fun x y xs st Q h => by cases x <;> exact h) fun f st H x v Q' Q s r h l => by
    cases x <;> try (exact h.elim)
    rw [RD.ref] at r
    obtain ⟨a, e, rfl⟩ := r
    obtain ⟨xs, h1, h2, h3⟩ := h
    obtain ⟨a', vs, k1, k2, d⟩ := s.rdA h1
    rw [e] at k1; cases k1
    obtain ⟨t1, t2, t3⟩ := d.tru h2
    exact ⟨a, vs, rfl, k2, t1, by rw [t2]; exact l.now s h3 (RD.bl.mpr rfl)⟩
theorem real_min1B : RealB K (L2.rMin K) min1B :=
  realB1 (kb1 (fun _ _ h => h) fun x y xs st Q h => by cases x <;> exact h) fun f st H x v Q' Q s r h l => by
    cases x <;> try (exact h.elim)
    rw [RD.ref] at r
    obtain ⟨a, e, rfl⟩ := r
    obtain ⟨ns, h1, h2, h3⟩ := h
    obtain ⟨a', vs, k1, k2, d⟩ := s.rdA h1
    rw [e] at k1; cases k1
    exact ⟨a, ns, rfl, by rw [← d.ints]; exact k2, h2, fun m hm hy => l.now s (h3 m hm hy) (RD.int.mpr rfl)⟩
theorem real_max1B : RealB K (L2.rMax K) max1B :=
  realB1 (kb1 (fun _ _ h => h) fun x y xs st Q h => by cases x <;> exact h) fun f st H x v Q' Q s r h l => by
    cases x <;> try (exact h.elim)
    rw [RD.ref] at r
    obtain ⟨a, e, rfl⟩ := r
    obtain ⟨ns, h1, h2, h3⟩ := h
    obtain ⟨a', vs, k1, k2, d⟩ := s.rdA h1
    rw [e] at k1; cases k1
    exact ⟨a, ns, rfl, by rw [← d.ints]; exact k2, h2, fun m hm hy => l.now s (h3 m hm hy) (RD.int.mpr rfl)⟩
end
end Pd
end PartPdSoundC

section PartPdSoundD
set_option Elab.async false
set_option linter.all false
set_option maxRecDepth 100000
set_option maxHeartbeats 1000000
/-! Pd over the hand layer: targets, loops, statements, comprehensions, methods, defs. Own work. -/
namespace Pd
open PySem PySem.Spec
section
variable {X : L2.Cx} {K : Kf} {f f' : List Addr} {H H' : Hp} {st st' : Store} {ρ : Env} {σ : L2.St}
/-! ### targets -/
def LG (K : Kf) (f : List Addr) (H : Hp) (σ : L2.St) (vs : List Nat) (Q' : Env → Store → Prop) (Q : L2.St → Hp → Prop) : Prop :=
  ∀ (ρ' : Env) (st' : Store) (σ' : L2.St) (f' : List Addr) (H' : Hp), Q' ρ' st' → Ext K f H f' H' → Rel K f' ρ' st' σ' H' → Out vs σ σ' → Q σ' H'
def liftG (K : Kf) (g : TG) (vs : List Nat) : L2.TG := fun v σ H Q => ∃ f ρ st d Q', Rel K f ρ st σ H ∧ RD K f H d v ∧ g d ρ st Q' ∧ LG K f H σ vs Q' Q
def liftGs (K : Kf) (g : TGs) (vs : List Nat) : L2.TGs := fun us σ H Q => ∃ f ρ st ds Q', Rel K f ρ st σ H ∧ RDs K f H ds us ∧ g ds ρ st Q' ∧ LG K f H σ vs Q' Q
abbrev PDG (X : L2.Cx) (e : Expr) (g : TG) (vs : List Nat) : Prop := L2.PG X e (liftG X.K g vs)
abbrev PDGs (X : L2.Cx) (es : List Expr) (g : TGs) (vs : List Nat) : Prop := L2.PGs X es (liftGs X.K g vs)
theorem pg_imp {e : Expr} {t t' : L2.TG} (h : L2.PG X e t) (m : ∀ v σ H Q, t' v σ H Q → t v σ H Q) : L2.PG X e t' := ⟨fun pins s σ H v u Q I r q => h.run pins s σ H v u Q I r (m v σ H Q q)⟩
theorem pgs_imp {e : List Expr} {t t' : L2.TGs} (h : L2.PGs X e t) (m : ∀ v σ H Q, t' v σ H Q → t v σ H Q) : L2.PGs X e t' := ⟨fun pins s σ H v u Q I r q => h.run pins s σ H v u Q I r (m v σ H Q q)⟩
theorem Out.refl {vs : List Nat} {σ : L2.St} : Out vs σ σ := ⟨rfl, fun _ _ => rfl⟩
theorem Out.set {i : Nat} {v : L2.V} {σ : L2.St} : Out [i] σ (σ.set i (some v)) := ⟨by rw [List.length_set], fun j h => by
  have : j ≠ i := fun e => h (by simp [e])
  rw [List.getElem?_set_ne (Ne.symm this)]⟩
theorem Out.trans {vs ws : List Nat} {σ σ1 σ2 : L2.St} (a : Out vs σ σ1) (b : Out ws σ1 σ2) : Out (vs ++ ws) σ σ2 :=
  ⟨b.1.trans a.1, fun j h => (b.2 j fun e => h (List.mem_append_right _ e)).trans (a.2 j fun e => h (List.mem_append_left _ e))⟩
theorem pg_name {i : Nat} {x : Str} {pos : Pos} (hN : X.N.Nodup) (hi : X.N[i]? = some x) (hx : L2.Loc X.env.scope x) (hf : X.fn x = true ∨ X.env.scope.names.lookup x = some .local := by first | exact .inl rfl | exact .inr rfl | assumption) : PDG X (.Name x pos) (gName i) [i] :=
  pg_imp (L2.pg_name hN hi hx hf) fun v σ H Q ⟨f, ρ, st, d, Q', R, r, h, l⟩ => l _ st _ f H h .refl (R.put r) Out.set
theorem pgs_nil : PDGs X [] gsNil [] := pgs_imp L2.pgs_nil fun us σ H Q ⟨f, ρ, st, ds, Q', R, r, h, l⟩ => by
  obtain ⟨rfl, h⟩ := h
  rw [RDs.nil] at r
  exact ⟨r, l ρ st σ f H h .refl R .refl⟩
theorem pgs_cons {e : Expr} {es : List Expr} {g : TG} {gs : TGs} {vs ws : List Nat} (h1 : PDG X e g vs) (h2 : PDGs X es gs ws) (hs : (assignEach (e :: es) X.env).map (·.2) = assign e X.env :: (assignEach es X.env).map (·.2) := by rfl) : PDGs X (e :: es) (gsCons g gs) (vs ++ ws) :=
  pgs_imp (L2.pgs_cons h1 h2 hs) fun us σ H Q ⟨f, ρ, st, ds, Q', R, r, h, l⟩ => by
    obtain ⟨d, ds', rfl, h⟩ := h
    rw [RDs.cons] at r
    obtain ⟨v, rr, rfl, r1, r2⟩ := r
    refine ⟨v, rr, rfl, f, ρ, st, d, _, R, r1, h, fun ρ1 st1 σ1 f1 H1 q e1 R1 o1 => ?_⟩
    exact ⟨f1, ρ1, st1, ds', Q', R1, r2.mono e1, q, fun ρ2 st2 σ2 f2 H2 q2 e2 R2 o2 => l ρ2 st2 σ2 f2 H2 q2 (e1.trans e2) R2 (o1.trans o2)⟩
theorem pg_tup {es : List Expr} {k : Nat} {pos : Pos} {gs : TGs} {vs : List Nat} {n : Nat} (hc : X.calm = true) (h : PDGs X es gs vs)
    (hn : (assignEach es X.env).length = n := by rfl) (hst : (assignEach es X.env).findIdx? (·.1) = none := by rfl) : PDG X (.Tuple es k pos) (gTup gs n) vs :=
  pg_imp (L2.pg_tup hc h hn hst) fun v σ H Q ⟨f, ρ, st, d, Q', R, r, h, l⟩ => by
    obtain ⟨ds, rfl, hl, h⟩ := h
    rw [RD.tup] at r
    obtain ⟨a, us, rfl, t, rs⟩ := r
    exact ⟨a, us, rfl, t, by rw [rs.length]; exact hl, f, ρ, st, ds, Q', R, rs, h, l⟩
def RealSet (K : Kf) (r : L2.V → L2.V → L2.V → Hp → (Hp → Prop) → Prop) (k : D → D → D → Store → (Store → Prop) → Prop) : Prop :=
  ∀ (f : List Addr) (st : Store) (H : Hp) (o i v : D) (ov iv vv : L2.V) (Q' : Store → Prop) (Q : Hp → Prop), RelS K f st H → RD K f H o ov → RD K f H i iv → RD K f H v vv → k o i v st Q' →
    (∀ st' H', Q' st' → Ext K f H f H' → RelS K f st' H' → Q H') → r ov iv vv H Q
theorem real_set : RealSet K L2.rSetL setK := fun f st H o i v ov iv vv Q' Q s r1 r2 r3 h l => by
  cases o <;> try (exact h.elim)
  cases i <;> try (exact h.elim)
  rename_i n i
  rw [RD.ref] at r1
  rw [RD.int] at r2
  obtain ⟨a, e, rfl⟩ := r1
  obtain ⟨xs, h1, ⟨d, h2⟩, h3, h4⟩ := h
  obtain ⟨a', vs, k1, k2, k3⟩ := s.rdL h1
  rw [e] at k1; cases k1
  have hlt : i < (vs.length : Int) := by
    rw [k3.length]
    unfold atD at h2
    rw [if_pos h3] at h2
    have := (List.getElem?_eq_some_iff.mp h2).1
    omega
  obtain ⟨s', e'⟩ := s.put e h1 k2 (k3.set i.toNat r3)
  exact ⟨a, vs, i, i.toNat, rfl, r2, k2, by unfold L2.ixN; rw [if_pos h3, if_pos hlt], l _ _ h4 e' s'⟩
section
variable {a b c e o i : Expr} {es : List Expr} {ta tb te to ti : TE} {pos tpos : Pos}
theorem pg_sub (h1 : PD X o to) (h2 : PD X i ti) (ha : ∀ v, assign (.Subscript o i pos) X.env v = (do
      let ov ← holding [v] (eval o X.env)
      let iv ← holding [v, ov] (eval i X.env)
      standAt pos
      holding [v, ov, iv] (setItem ov iv v)
      release [v, ov, iv] []) := by intro _; rfl) : PDG X (.Subscript o i pos) (gSub to ti) [] :=
  pg_imp (L2.pg_sub h1 h2 L2.set_list ha) fun v σ H Q ⟨f, ρ, st, d, Q', R, r, h, l⟩ => ⟨f, ρ, st, _, R, h, fun x st1 u f1 H1 q1 e1 s1 r1 => ⟨f1, ρ, st1, _, R.later e1 s1, q1, fun y st2 w f2 H2 q2 e2 s2 r2 =>
    real_set f2 st2 H2 x y d u w v _ _ s2 (r1.mono e2) r2 (r.mono (e1.trans e2)) q2 fun st3 H3 q3 e3 s3 => l ρ st3 σ f2 H3 q3 ((e1.trans e2).trans e3) (R.later ((e1.trans e2).trans e3) s3) .refl⟩⟩

/-! ### iterables -/
/-- what is walked: data and walk -/
structure RealI (K : Kf) (f : List Addr) (H : Hp) (I : Iter) (J : L2.It) : Prop where
  go : ∀ (i : Nat) (f2 : List Addr) (st2 : Store) (H2 : Hp), Ext K f H f2 H2 → RelS K f2 st2 H2 → I.guard st2 → i < I.items.length → J.go i H2
  stop : ∀ (f2 : List Addr) (st2 : Store) (H2 : Hp), Ext K f H f2 H2 → RelS K f2 st2 H2 → I.guard st2 → J.stop I.items.length H2
  yld : ∀ (i : Nat) (f2 : List Addr) (st2 : Store) (H2 : Hp) (d : D) (x : L2.V) (H3 : Hp), Ext K f H f2 H2 → RelS K f2 st2 H2 → I.guard st2 → I.items[i]? = some d → J.yld i H2 x H3 → Ext K f2 H2 f2 H3 ∧ RelS K f2 st2 H3 ∧ RD K f2 H3 d x
def liftI (K : Kf) (t : TI) : L2.TI := fun σ H R => ∃ f ρ st R', Rel K f ρ st σ H ∧ t ρ st R' ∧ ∀ (I : Iter) (st' : Store) (J : L2.It) (f' : List Addr) (H' : Hp), R' I st' → Ext K f H f' H' → RelS K f' st' H' → RealI K f' H' I J → R J H'
abbrev PDI (X : L2.Cx) (tg e : Expr) (t : TI) : Prop := L2.PI X tg e (liftI X.K t)
theorem pi_imp {tg e : Expr} {t t' : L2.TI} (h : L2.PI X tg e t) (m : ∀ σ H R, t' σ H R → t σ H R) : L2.PI X tg e t' := ⟨fun pins s σ H R I q => h.run pins s σ H R I (m σ H R q)⟩
def iSeqV (K : Kf) (tl : L2.TE) : L2.TI := fun σ H R => tl σ H fun x H1 => ∃ a, x = .ref a ∧ ((∃ xs, L2.SqL K H1 a xs ∧ R (L2.Itl K a) H1) ∨ (∃ xs, L2.SqT K H1 a xs ∧ R (L2.Itt K a) H1))
theorem pi_seqV {tg l : Expr} {tl : L2.TE} (hl : L2.PE X l tl) : L2.PI X tg l (iSeqV X.K tl) := by
  refine ⟨fun pins s σ H R I h => ?_⟩
  refine L2.thn (hl.run pins s σ H _ I h) fun v s1 ⟨x, H1, I1, r1, q1⟩ => ?_
  obtain ⟨a, e, q1⟩ := q1
  subst e
  cases r1
  have fin : ∀ b ∈ [s1.heap.objs.size], L2.FpOk X pins H1 b := fun b hb => by
    have e : b = s1.heap.objs.size := by simpa using hb
    subst e
    exact I1.fpOk (Nat.le_refl _) (I1.hok.fresh (Nat.le_refl _))
  rcases q1 with ⟨xs, hq, q⟩ | ⟨xs, hq, q⟩
  · obtain ⟨its, rv, p, hz⟩ := I1.list hq
    refine wpAny_pyIter_list p.isList ?_
    exact ⟨s1.heap.objs.size, [s1.heap.objs.size], _, _, H1, rfl, I1.kept (t' := s1.toks) fun b o e => Heap.get?_push_of_some _ e, L2.turn_list a _, ⟨_, Heap.get?_push_size _ rfl, rfl, rfl⟩, fin, q⟩
  · obtain ⟨its, rv, p, hz⟩ := I1.tuple hq
    refine wpAny_pyIter_tuple (show s1.heap.IsTuple a its.toArray from p) ?_
    exact ⟨s1.heap.objs.size, [s1.heap.objs.size], _, _, H1, rfl, I1.kept (t' := s1.toks) fun b o e => Heap.get?_push_of_some _ e, L2.turn_tuple a _, ⟨_, Heap.get?_push_size _ rfl, rfl, rfl⟩, fin, q⟩
theorem RDs.at_lt {ds : List D} {vs : List L2.V} (h : RDs K f H ds vs) {i : Nat} (hi : i < ds.length) : ∃ v, vs[i]? = some v := by
  have := h.length
  exact ⟨vs[i]'(by omega), by simp [this, hi]⟩
theorem realI_list {n : Nat} {a : Addr} {xs : List D} (hn : f[n]? = some a) : RealI K f H ⟨xs, fun s => rdA s n xs⟩ (L2.Itl K a) where
  go := fun i f2 st2 H2 e2 s2 g hi => by
    obtain ⟨a', vs, k1, k2, k3⟩ := s2.rdA g
    rw [e2.at hn] at k1; cases k1
    obtain ⟨v, hv⟩ := k3.at_lt hi
    exact ⟨vs, v, k2, hv⟩
  stop := fun f2 st2 H2 e2 s2 g => by
    obtain ⟨a', vs, k1, k2, k3⟩ := s2.rdA g
    rw [e2.at hn] at k1; cases k1
    exact ⟨vs, k2, by rw [k3.length]; exact Nat.le_refl _⟩
  yld := fun i f2 st2 H2 d x H3 e2 s2 g hd y => by
    obtain ⟨a', vs, k1, k2, k3⟩ := s2.rdA g
    rw [e2.at hn] at k1; cases k1
    obtain ⟨rfl, y⟩ := y
    obtain ⟨v, h1, h2⟩ := k3.get hd
    have := y vs k2
    rw [h1] at this; cases this
    exact ⟨.refl, s2, h2⟩
theorem realI_tup {a : Addr} {xs : List D} {vs : List L2.V} (t : L2.SqT K H a vs) (r : RDs K f H xs vs) : RealI K f H ⟨xs, fun _ => True⟩ (L2.Itt K a) where
  go := fun i f2 st2 H2 e2 s2 g hi => by
    obtain ⟨v, hv⟩ := r.at_lt hi
    exact ⟨vs, v, e2.tup _ _ t, hv⟩
  stop := fun f2 st2 H2 e2 s2 g => ⟨vs, e2.tup _ _ t, by rw [r.length]; exact Nat.le_refl _⟩
  yld := fun i f2 st2 H2 d x H3 e2 s2 g hd y => by
    obtain ⟨rfl, y⟩ := y
    obtain ⟨v, h1, h2⟩ := r.get hd
    have := y vs (e2.tup _ _ t)
    rw [h1] at this; cases this
    exact ⟨.refl, s2, h2.mono e2⟩
theorem realI_rng {lo : Int} {n : Nat} : RealI K f H ⟨rng lo n, fun _ => True⟩ (L2.Itr lo n) where
  go := fun i f2 st2 H2 e2 s2 g hi => by
    have : i < n := by simpa [rng] using hi
    exact this
  stop := fun f2 st2 H2 e2 s2 g => by
    show n ≤ (rng lo n).length
    simp [rng]
  yld := fun i f2 st2 H2 d x H3 e2 s2 g hd y => by
    obtain ⟨rfl, rfl⟩ := y
    refine ⟨.refl, s2, ?_⟩
    have hd' : (rng lo n)[i]? = some d := hd
    unfold rng at hd'
    rw [List.getElem?_map] at hd'
    cases q : (List.range n)[i]? with
    | none => rw [q] at hd'; cases hd'
    | some j =>
      rw [q] at hd'
      obtain ⟨h1, h2⟩ := List.getElem?_eq_some_iff.mp q
      simp at h2
      subst h2
      simp at hd'
      subst hd'
      rw [RD.int]
theorem pi_seq {tg : Expr} (h : PD X a ta) : PDI X tg a (iSeq ta) :=
  pi_imp (pi_seqV h) fun σ H R ⟨f, ρ, st, R', Re, h, l⟩ => ⟨f, ρ, st, _, Re, h, fun x st1 v f1 H1 q1 e1 s1 r1 => by
    cases x <;> try (exact q1.elim)
    · rw [RD.tup] at r1
      obtain ⟨a, vs, rfl, t, d⟩ := r1
      exact ⟨a, rfl, .inr ⟨vs, t, l _ st1 _ f1 H1 q1 e1 s1 (realI_tup t d)⟩⟩
    · rw [RD.ref] at r1
      obtain ⟨a, e, rfl⟩ := r1
      obtain ⟨xs, g1, g2⟩ := q1
      obtain ⟨a', vs, k1, k2, k3⟩ := s1.rdA g1
      rw [e] at k1; cases k1
      exact ⟨a, rfl, .inl ⟨vs, k2, l _ st1 _ f1 H1 g2 e1 s1 (realI_list e)⟩⟩⟩
theorem pi_r1 {tg : Expr} {p : Pos} (hg : L2.Gl X "range") (hm : X.mg "range" = none) (h : PD X a ta) (hs : starEach [a] X.env = [(false, eval a X.env)] := by rfl) : PDI X tg (.Call (.Name "range" p) [a] [] pos) (iR1 ta) :=
  pi_imp (L2.pi_range1 hg hm (L2.pa_cons h L2.pa_nil hs) hs) fun σ H R ⟨f, ρ, st, R', Re, h, l⟩ => ⟨f, ρ, st, _, Re, h, fun x st1 v f1 H1 q1 e1 s1 r1 => by
    obtain ⟨j, rfl, h1, h2, h3⟩ := q1
    rw [RD.int] at r1
    subst r1
    exact ⟨j, rfl, h1, h2, l _ st1 _ f1 H1 h3 e1 s1 realI_rng⟩⟩
theorem pi_r2 {tg : Expr} {p : Pos} (hg : L2.Gl X "range") (hm : X.mg "range" = none) (h : PD X a ta) (h' : PD X b tb) (hs : starEach [a, b] X.env = [(false, eval a X.env), (false, eval b X.env)] := by rfl) (hs2 : starEach [b] X.env = [(false, eval b X.env)] := by rfl) : PDI X tg (.Call (.Name "range" p) [a, b] [] pos) (iR2 ta tb) :=
  pi_imp (L2.pi_range2 hg hm (L2.pa_cons h (L2.pa_cons h' L2.pa_nil hs2) (hs.trans (by rw [hs2]))) hs hs2) fun σ H R ⟨f, ρ, st, R', Re, h, l⟩ => ⟨f, ρ, st, _, Re, h, fun x st1 v f1 H1 q1 e1 s1 r1 => ⟨f1, ρ, st1, _, Re.later e1 s1, q1, fun y st2 w f2 H2 q2 e2 s2 r2 => by
    obtain ⟨i, j, rfl, rfl, h2, h3⟩ := q2
    have r1' := r1.mono e2
    rw [RD.int] at r1' r2
    subst r1'; subst r2
    exact ⟨i, j, rfl, h2, l _ st2 _ f2 H2 h3 (e1.trans e2) s2 realI_rng⟩⟩⟩
theorem zipD_get : ∀ {xs ys : List D} {i : Nat} {d : D}, (zipD xs ys)[i]? = some d → ∃ x y, d = .tup [x, y] ∧ xs[i]? = some x ∧ ys[i]? = some y
  | [], _, _, _, h => by simp [zipD] at h
  | _ :: _, [], _, _, h => by simp [zipD] at h
  | x :: xs, y :: ys, 0, d, h => by simp [zipD] at h; exact ⟨x, y, h.symm, rfl, rfl⟩
  | x :: xs, y :: ys, i + 1, d, h => by
    obtain ⟨x', y', h1, h2, h3⟩ := zipD_get (xs := xs) (ys := ys) (i := i) (by simpa [zipD] using h)
    exact ⟨x', y', h1, by simpa using h2, by simpa using h3⟩
theorem zipD_length : ∀ (xs ys : List D), (zipD xs ys).length = min xs.length ys.length
  | [], _ => by simp [zipD]
  | _ :: _, [] => by simp [zipD]
  | x :: xs, y :: ys => by simp [zipD, zipD_length xs ys]
theorem realI_zipT {a b : Addr} {xs ys : List D} {vs ws : List L2.V} (t : L2.SqT K H a vs) (r : RDs K f H xs vs) (t' : L2.SqT K H b ws) (r' : RDs K f H ys ws) : RealI K f H ⟨zipD xs ys, fun _ => True⟩ (RZ.ItzT K a b) where
  go := fun i f2 st2 H2 e2 s2 g hi => by
    have hi : i < (zipD xs ys).length := hi
    rw [zipD_length] at hi
    obtain ⟨v, hv⟩ := r.at_lt (i := i) (by omega)
    obtain ⟨w, hw⟩ := r'.at_lt (i := i) (by omega)
    exact ⟨vs, ws, v, w, e2.tup _ _ t, e2.tup _ _ t', hv, hw⟩
  stop := fun f2 st2 H2 e2 s2 g => ⟨vs, ws, e2.tup _ _ t, e2.tup _ _ t', by
    show vs.length ≤ (zipD xs ys).length ∨ ws.length ≤ (zipD xs ys).length
    rw [zipD_length, r.length, r'.length]; omega⟩
  yld := fun i f2 st2 H2 d x H3 e2 s2 g hd y => by
    obtain ⟨T, x1, x2, rfl, hT, rfl, y1, y2⟩ := y
    obtain ⟨d1, d2, rfl, g1, g2⟩ := zipD_get hd
    obtain ⟨v, h1, h2⟩ := r.get g1
    obtain ⟨w, h3, h4⟩ := r'.get g2
    have q1 := y1 vs (e2.tup _ _ t)
    have q2 := y2 ws (e2.tup _ _ t')
    rw [h1] at q1; cases q1
    rw [h3] at q2; cases q2
    obtain ⟨s', e'⟩ := s2.lay (o := .tup [x1, x2]) hT
    refine ⟨e', s', RD.tup.mpr ⟨T, [x1, x2], rfl, .of L2.upd_same, ?_⟩⟩
    rw [RDs.cons]
    exact ⟨x1, [x2], rfl, (h2.mono e2).mono e', RDs.one ((h4.mono e2).mono e')⟩
theorem realI_zipL {m n : Nat} {a b : Addr} {xs ys : List D} (hm : f[m]? = some a) (hn : f[n]? = some b) : RealI K f H ⟨zipD xs ys, fun s => rdA s m xs ∧ rdA s n ys⟩ (L2.Itz K a b) where
  go := fun i f2 st2 H2 e2 s2 g hi => by
    have hi : i < (zipD xs ys).length := hi
    rw [zipD_length] at hi
    obtain ⟨a', vs, k1, k2, k3⟩ := s2.rdA g.1
    obtain ⟨b', ws, j1, j2, j3⟩ := s2.rdA g.2
    rw [e2.at hm] at k1; cases k1
    rw [e2.at hn] at j1; cases j1
    obtain ⟨v, hv⟩ := k3.at_lt (i := i) (by omega)
    obtain ⟨w, hw⟩ := j3.at_lt (i := i) (by omega)
    exact ⟨vs, ws, v, w, k2, j2, hv, hw⟩
  stop := fun f2 st2 H2 e2 s2 g => by
    obtain ⟨a', vs, k1, k2, k3⟩ := s2.rdA g.1
    obtain ⟨b', ws, j1, j2, j3⟩ := s2.rdA g.2
    rw [e2.at hm] at k1; cases k1
    rw [e2.at hn] at j1; cases j1
    refine ⟨vs, ws, k2, j2, ?_⟩
    show vs.length ≤ (zipD xs ys).length ∨ ws.length ≤ (zipD xs ys).length
    rw [zipD_length, k3.length, j3.length]; omega
  yld := fun i f2 st2 H2 d x H3 e2 s2 g hd y => by
    obtain ⟨a', vs, k1, k2, k3⟩ := s2.rdA g.1
    obtain ⟨b', ws, j1, j2, j3⟩ := s2.rdA g.2
    rw [e2.at hm] at k1; cases k1
    rw [e2.at hn] at j1; cases j1
    obtain ⟨T, x1, x2, rfl, hT, rfl, y1, y2⟩ := y
    obtain ⟨d1, d2, rfl, g1, g2⟩ := zipD_get hd
    obtain ⟨v, h1, h2⟩ := k3.get g1
    obtain ⟨w, h3, h4⟩ := j3.get g2
    have q1 := y1 vs k2
    have q2 := y2 ws j2
    rw [h1] at q1; cases q1
    rw [h3] at q2; cases q2
    obtain ⟨s', e'⟩ := s2.lay (o := .tup [x1, x2]) hT
    refine ⟨e', s', RD.tup.mpr ⟨T, [x1, x2], rfl, .of L2.upd_same, ?_⟩⟩
    rw [RDs.cons]
    exact ⟨x1, [x2], rfl, h2.mono e', RDs.one (h4.mono e')⟩
theorem pi_zip {p tp : Pos} {kk : Nat} (hg : L2.Gl X "zip") (hm : X.mg "zip" = none) (h : PD X a ta) (h' : PD X b tb) (hs : starEach [a, b] X.env = (false, eval a X.env) :: starEach [b] X.env := by rfl) (hs2 : starEach [b] X.env = (false, eval b X.env) :: starEach [] X.env := by rfl)
    (hpl : (backTo pos (starEach [b] X.env)).any (·.1) = false := by rfl) : PDI X (.Tuple es kk tp) (.Call (.Name "zip" p) [a, b] [] pos) (iZip2 ta tb) :=
  pi_imp (RZ.pi_zipA hg hm (L2.pa_cons h (L2.pa_cons h' L2.pa_nil hs2) hs) hs hpl) fun σ H R ⟨f, ρ, st, R', Re, h, l⟩ => ⟨f, ρ, st, _, Re, h, fun x st1 v f1 H1 q1 e1 s1 r1 => ⟨f1, ρ, st1, _, Re.later e1 s1, q1, fun y st2 w f2 H2 q2 e2 s2 r2 => by
    have r1' := r1.mono e2
    cases x <;> cases y <;> try (exact q2.elim)
    · rw [RD.tup] at r1' r2
      obtain ⟨a, vs, rfl, t, d⟩ := r1'
      obtain ⟨b, ws, rfl, t', d'⟩ := r2
      exact ⟨a, b, vs, ws, rfl, .inr ⟨t, t', l _ st2 _ f2 H2 q2 (e1.trans e2) s2 (realI_zipT t d t' d')⟩⟩
    · rw [RD.ref] at r1' r2
      obtain ⟨a, g1, rfl⟩ := r1'
      obtain ⟨b, g2, rfl⟩ := r2
      obtain ⟨xs, ys, q3, q4, q5⟩ := q2
      obtain ⟨a', vs, k1, k2, k3⟩ := s2.rdA q3
      obtain ⟨b', ws, j1, j2, j3⟩ := s2.rdA q4
      rw [g1] at k1; cases k1
      rw [g2] at j1; cases j1
      exact ⟨a, b, vs, ws, rfl, .inl ⟨k2, j2, l _ st2 _ f2 H2 q5 (e1.trans e2) s2 (realI_zipL g1 g2)⟩⟩⟩⟩
end
end
end Pd
end PartPdSoundD

section PartPdSoundE
set_option Elab.async false
set_option linter.all false
set_option maxRecDepth 100000
set_option maxHeartbeats 1000000
/-! Pd over the hand layer: statements, comprehensions, methods, defs. Own work. -/
namespace Pd
open PySem PySem.Spec
section
variable {X : L2.Cx} {K : Kf} {f f' : List Addr} {H H' : Hp} {st st' : Store} {ρ : Env} {σ : L2.St}
/-! ### statements -/
structure LD (K : Kf) (f : List Addr) (H : Hp) (D' : Ends) (D : L2.Ends) : Prop where
  nx : ∀ (ρ' : Env) (st' : Store) (σ' : L2.St) (f' : List Addr) (H' : Hp), D'.nx ρ' st' → Ext K f H f' H' → Rel K f' ρ' st' σ' H' → D.nx σ' H'
  rt : LQ K f H D'.rt D.rt
  bk : ∀ (ρ' : Env) (st' : Store) (σ' : L2.St) (f' : List Addr) (H' : Hp), D'.bk ρ' st' → Ext K f H f' H' → Rel K f' ρ' st' σ' H' → D.bk σ' H'
  ct : ∀ (ρ' : Env) (st' : Store) (σ' : L2.St) (f' : List Addr) (H' : Hp), D'.ct ρ' st' → Ext K f H f' H' → Rel K f' ρ' st' σ' H' → D.ct σ' H'
def liftS (K : Kf) (t : TS) : L2.TS := fun D σ H => ∃ f ρ st D', Rel K f ρ st σ H ∧ t D' ρ st ∧ LD K f H D' D
abbrev PDS (X : L2.Cx) (s : Stmt) (t : TS) : Prop := L2.PS X s (liftS X.K t)
abbrev PDSs (X : L2.Cx) (s : List Stmt) (t : TS) : Prop := L2.PSs X s (liftS X.K t)
theorem ps_imp {s : Stmt} {t t' : L2.TS} (h : L2.PS X s t) (m : ∀ D σ H, t' D σ H → t D σ H) : L2.PS X s t' := ⟨fun pins s σ H D I q => h.run pins s σ H D I (m D σ H q)⟩
theorem pss_imp {s : List Stmt} {t t' : L2.TS} (h : L2.PSs X s t) (m : ∀ D σ H, t' D σ H → t D σ H) : L2.PSs X s t' := ⟨fun pins s σ H D I q => h.run pins s σ H D I (m D σ H q)⟩
theorem LD.later {D' : Ends} {D : L2.Ends} (l : LD K f H D' D) (e : Ext K f H f' H') : LD K f' H' D' D :=
  ⟨fun a b c d g q e2 r => l.nx a b c d g q (e.trans e2) r, l.rt.later e, fun a b c d g q e2 r => l.bk a b c d g q (e.trans e2) r, fun a b c d g q e2 r => l.ct a b c d g q (e.trans e2) r⟩
section
variable {a b c e o i : Expr} {es : List Expr} {ta tb te to ti : TE} {tC : TT} {pos tpos : Pos} {s : Stmt} {ss ss' : List Stmt} {t u : TS}
theorem pss_nil : PDSs X [] sNext := pss_imp L2.pss_nil fun D σ H ⟨f, ρ, st, D', R, h, l⟩ => l.nx ρ st σ f H h .refl R
theorem pss_cons (h1 : PDS X s t) (h2 : PDSs X ss u) : PDSs X (s :: ss) (sSeq t u) := pss_imp (L2.pss_cons h1 h2) fun D σ H ⟨f, ρ, st, D', R, h, l⟩ =>
  ⟨f, ρ, st, _, R, h, fun ρ1 st1 σ1 f1 H1 q e r => ⟨f1, ρ1, st1, D', r, q.go, l.later e⟩, l.rt, l.bk, l.ct⟩
theorem pss_one (h1 : PDS X s t) : PDSs X [s] t := L2.pss_one h1
theorem ps_pass : PDS X (.Pass pos) sNext := ps_imp L2.ps_pass fun D σ H ⟨f, ρ, st, D', R, h, l⟩ => l.nx ρ st σ f H h .refl R
theorem ps_doc {x j pos'} : PDS X (.Expr (.Constant (.str x) j pos) pos') sNext := ps_imp L2.ps_doc fun D σ H ⟨f, ρ, st, D', R, h, l⟩ => l.nx ρ st σ f H h .refl R
theorem ps_break : PDS X (.Break pos) sBreak := ps_imp L2.ps_break fun D σ H ⟨f, ρ, st, D', R, h, l⟩ => l.bk ρ st σ f H h .refl R
theorem ps_continue : PDS X (.Continue pos) sCont := ps_imp L2.ps_continue fun D σ H ⟨f, ρ, st, D', R, h, l⟩ => l.ct ρ st σ f H h .refl R
theorem ps_expr (he : PD X e te) (hs : swapsWith e none pos.line X.env = pure false := by rfl) : PDS X (.Expr e pos) (sExpr te) := ps_imp (L2.ps_expr he hs) fun D σ H ⟨f, ρ, st, D', R, h, l⟩ =>
  ⟨f, ρ, st, _, R, h, fun x st1 v f1 H1 q e1 s1 r1 => l.nx ρ st1 σ f1 H1 q e1 (R.later e1 s1)⟩
theorem ps_ret (he : PD X e te) : PDS X (.Return (some e) pos) (sRet te) := ps_imp (L2.ps_ret he) fun D σ H ⟨f, ρ, st, D', R, h, l⟩ => ⟨f, ρ, st, _, R, h, l.rt⟩
theorem ps_retN : PDS X (.Return none pos) sRetN := ps_imp L2.ps_retN fun D σ H ⟨f, ρ, st, D', R, h, l⟩ => l.rt.now R.toRelS h (RD.non.mpr rfl)
theorem ps_if (hc : PDT X c tC) (ha : PDSs X ss t) (hb : PDSs X ss' u) : PDS X (.If c ss ss' pos) (sIf tC t u) := ps_imp (L2.ps_if hc ha hb) fun D σ H ⟨f, ρ, st, D', R, h, l⟩ =>
  ⟨f, ρ, st, _, R, h, fun k st1 f1 H1 q e1 s1 => by
    cases k with
    | true => exact ⟨f1, ρ, st1, D', R.later e1 s1, q.1 rfl, l.later e1⟩
    | false => exact ⟨f1, ρ, st1, D', R.later e1 s1, q.2 rfl, l.later e1⟩⟩
theorem asg_core {g : TG} {vs : List Nat} {te : TE} {D : L2.Ends} (h : liftS K (sAsg te g) D σ H) : L2.tAsg (lift K te) (liftG K g vs) D σ H := by
  obtain ⟨f, ρ, st, D', R, h, l⟩ := h
  exact ⟨f, ρ, st, _, R, h, fun x st1 v f1 H1 q e1 s1 r1 => ⟨f1, ρ, st1, x, _, R.later e1 s1, r1, q, fun ρ2 st2 σ2 f2 H2 q2 e2 R2 _ => l.nx ρ2 st2 σ2 f2 H2 q2 (e1.trans e2) R2⟩⟩
theorem ps_asg {tg : Expr} {g : TG} {vs : List Nat} (he : PD X e te) (hg : PDG X tg g vs) (hs : swapsWithSole [tg] e pos.line X.env = pure false := by rfl) (hw : swappedStores [tg] e X.env = pure none := by rfl)
    (h1 : (assignEach [tg] X.env).map (·.2) = [assign tg X.env] := by rfl) : PDS X (.Assign [tg] e pos) (sAsg te g) := ps_imp (L2.ps_asg he hg hs hw h1) fun D σ H h => asg_core h
theorem ps_set {i : Nat} {x : Str} {pos' : Pos} (hN : X.N.Nodup) (hi : X.N[i]? = some x) (hx : L2.Loc X.env.scope x) (he : PD X e te) (hs : swapsWith e (some (.Name x pos')) pos.line X.env = pure false := by rfl) (hf : X.fn x = true ∨ X.env.scope.names.lookup x = some .local := by first | exact .inl rfl | exact .inr rfl | assumption) :
    PDS X (.Assign [.Name x pos'] e pos) (sAsg te (gName i)) := ps_imp (L2.ps_set hN hi hx he hs hf) fun D σ H ⟨f, ρ, st, D', R, h, l⟩ =>
  ⟨f, ρ, st, _, R, h, fun y st1 v f1 H1 q e1 s1 r1 => l.nx _ st1 _ f1 H1 q e1 ((R.later e1 s1).put r1)⟩
theorem ps_par {i j : Nat} {x y : Str} {ts : TA} {px py pt : Pos} {kt k2 pt2} (hc : X.calm = true) (hN : X.N.Nodup) (hi : X.N[i]? = some x) (hj : X.N[j]? = some y) (hij : i ≠ j)
    (h0 : L2.PS X (.Assign [.Tuple [.Name x px, .Name y py] kt pt] (.Tuple [a, b] k2 pt2) pos) (L2.tPar i j (liftA X.K ts))) : PDS X (.Assign [.Tuple [.Name x px, .Name y py] kt pt] (.Tuple [a, b] k2 pt2) pos) (sPar i j ts) := ps_imp h0 fun D σ H ⟨f, ρ, st, D', R, h, l⟩ =>
  ⟨f, ρ, st, _, R, h, fun xs st1 vs f1 H1 q e1 s1 r1 => by
    obtain ⟨x, y, rfl, q⟩ := q
    obtain ⟨v, w, rfl, r2, r3⟩ := r1.inv2
    exact ⟨v, w, rfl, l.nx _ st1 _ f1 H1 q e1 (((R.later e1 s1).put r2).put r3)⟩⟩
theorem real_iadd : Real2 K (fun x y H Q => (∃ i j, x = .int i ∧ y = .int j ∧ Q (.int (i + j)) H) ∨ (∃ i j, x = .str i ∧ y = .str j ∧ i.length + j.length ≤ sizeLine ∧ Q (.str (i ++ j)) H)) iaddK := by
  intro f st H x y v w Q' Q s r1 r2 h l
  cases x <;> cases y <;> try (exact h.elim)
  · rw [RD.int] at r1 r2
    exact .inl ⟨_, _, r1, r2, l.now s h (RD.int.mpr rfl)⟩
  · rw [RD.str] at r1 r2
    exact .inr ⟨_, _, r1, r2, by rw [← szl_eq]; exact h.1, l.now s h.2 (RD.str.mpr rfl)⟩
theorem ip_add : L2.PIp X .Add (fun x y H Q => (∃ i j, x = .int i ∧ y = .int j ∧ Q (.int (i + j)) H) ∨ (∃ i j, x = .str i ∧ y = .str j ∧ i.length + j.length ≤ sizeLine ∧ Q (.str (i ++ j)) H)) :=
  fun pins s σ H x y v u Q I rx ry h => (L2.OpR.or (X := X) L2.iop_add L2.iop_add_str) pins s σ H x y v u Q I rx ry h
theorem ip_of {op : Operator} {r : L2.R2} (h : L2.OpR X (inplaceOp op) r) : L2.PIp X op r := fun pins s σ H x y v u Q I rx ry q => h pins s σ H x y v u Q I rx ry q
theorem ps_aug {i : Nat} {x : Str} {op : Operator} {r : L2.R2} {k : K2} {pos' : Pos} (hp : L2.PIp X op r) (hr : Real2 X.K r k) (hN : X.N.Nodup) (hi : X.N[i]? = some x) (hx : L2.Loc X.env.scope x) (he : PD X e te)
    (hf : X.fn x = true ∨ X.env.scope.names.lookup x = some .local := by first | exact .inl rfl | exact .inr rfl | assumption) : PDS X (.AugAssign (.Name x pos') op e pos) (sAug i k te) := ps_imp (L2.ps_aug hN hi hx he hp hf) fun D σ H ⟨f, ρ, st, D', R, h, l⟩ => by
  obtain ⟨d, h1, h⟩ := h
  obtain ⟨v, e, rv⟩ := R.env i d h1
  exact ⟨v, e, f, ρ, st, _, R, h, fun y st1 w f1 H1 q e1 s1 r1 => hr f1 st1 H1 d y v w _ _ s1 (rv.mono e1) r1 q fun z st2 u f2 H2 q2 e2 s2 r2 => l.nx _ st2 _ f2 H2 q2 (e1.trans e2) ((R.later (e1.trans e2) s2).put r2)⟩
/-- xs[i] op= e of a list -/
theorem get_list : L2.PGet X (L2.rIxL X.K) := by
  intro pins s σ H x y v u Q I rx ry h
  obtain ⟨p, xs, i, z, rfl, rfl, hq, he, q⟩ := h
  cases rx
  obtain ⟨t, rfl⟩ := ry
  obtain ⟨its, r, pl, hz⟩ := I.list hq
  obtain ⟨j, h1, h2, h3, h4, h5⟩ := L2.atI_get he
  obtain ⟨w, ew, rw'⟩ := r.get h2
  have hl := r.length
  have hn := L2.line63
  have fin : L2.EP X pins σ Q w s := ⟨z, H, I, rw', q⟩
  by_cases h0 : 0 ≤ i
  · have hj : i.toNat = j := by
      rw [seqIndex_of h0 h5] at h1
      exact Option.some.inj h1
    exact wpAny_getItem_list (x := w) pl.isList h0 (by omega) (by rw [hj]; simpa using ew) fin
  · have hj : (i + (its.toArray.size : Int)).toNat = j := by
      rw [seqIndex_neg (by omega) h4] at h1
      rw [List.size_toArray, ← hl]
      exact Option.some.inj h1
    exact wpAny_getItem_list_neg (x := w) pl.isList (by omega) (by rw [List.size_toArray] <;> omega) (by omega) (by rw [hj]; simpa using ew) fin
theorem real_ixL : Real2 K (L2.rIxL K) ixLK := fun f st H x y v w Q' Q s r1 r2 h l => by
  cases x <;> cases y <;> try (exact h.elim)
  rw [RD.ref] at r1
  rw [RD.int] at r2
  obtain ⟨a, e, rfl⟩ := r1
  obtain ⟨xs, d', h0, h1, h2⟩ := h
  obtain ⟨a', vs, k1, k2, d⟩ := s.rdA h0
  rw [e] at k1; cases k1
  obtain ⟨v, g1, g2⟩ := d.atD h1
  exact ⟨a, vs, _, v, rfl, r2, k2, g1, l.now s h2 g2⟩
theorem ps_augS {op : Operator} {r : L2.R2} {k : K2} (hp : L2.PIp X op r) (hr : Real2 X.K r k) (ho : PD X o to) (hi : PD X i ti) (he : PD X e te)
    (ha : ∀ ov iv new, augStore i ov iv new = (do holding [new, ov, iv] (setItem ov iv new); release [new, ov, iv] []; pure .next) := by intros; rfl) : PDS X (.AugAssign (.Subscript o i tpos) op e pos) (sAugL k to ti te) :=
  ps_imp (L2.ps_augS ho hi get_list he hp L2.set_list ha) fun D σ H ⟨f, ρ, st, D', R, h, l⟩ => ⟨f, ρ, st, _, R, h, fun x st1 v f1 H1 q1 e1 s1 r1 => ⟨f1, ρ, st1, _, R.later e1 s1, q1, fun y st2 w f2 H2 q2 e2 s2 r2 =>
    real_ixL f2 st2 H2 x y v w _ _ s2 (r1.mono e2) r2 q2 fun z st3 u f3 H3 q3 e3 s3 r3 => ⟨f3, ρ, st3, _, R.later ((e1.trans e2).trans e3) s3, q3, fun z' st4 u' f4 H4 q4 e4 s4 r4 =>
      hr f4 st4 H4 z z' u u' _ _ s4 (r3.mono e4) r4 q4 fun z5 st5 u5 f5 H5 q5 e5 s5 r5 =>
        real_set f5 st5 H5 x y z5 v w u5 _ _ s5 (r1.mono (((e2.trans e3).trans e4).trans e5)) (r2.mono ((e3.trans e4).trans e5)) r5 q5 fun st6 H6 q6 e6 s6 =>
          have ee := (((((e1.trans e2).trans e3).trans e4).trans e5).trans e6)
          l.nx ρ st6 σ f5 H6 q6 ee (R.later ee s6)⟩⟩⟩

/-! ### loops -/
theorem ps_for {tg iter : Expr} {wi : TI} {g : TG} {vs : List Nat} {tb : TS} (hp : PassesOwn (model X.prog X.w) X.A X.env X.xe) (hc : X.calm = true) (hi : PDI X tg iter wi) (hg : PDG X tg g vs) (hb : PDSs X ss tb)
    (hs : ∀ x, foldedSetIterable iter X.env x = pure x := by intro _; rfl) : PDS X (.For tg iter ss [] pos) (sFor wi g tb) :=
  ps_imp (L2.ps_for hp hc hi hg hb hs) fun D σ H ⟨f, ρ, st, D', R, h, l⟩ => ⟨f, ρ, st, _, R, h, fun I st1 J f1 H1 q1 e1 s1 rI => by
    refine ⟨fun i m σ2 H2 => m = I.items.length - i ∧ i ≤ I.items.length ∧ ∃ f2 ρ2 st2, Ext X.K f1 H1 f2 H2 ∧ Rel X.K f2 ρ2 st2 σ2 H2 ∧ forLoop I.guard g tb D' (I.items.drop i) ρ2 st2, ⟨_, rfl, Nat.zero_le _, f1, ρ, st1, .refl, R.later e1 s1, by simpa using q1⟩, ?_⟩
    rintro i m σ2 H2 ⟨rfl, hi, f2, ρ2, st2, e2, R2, q2⟩
    by_cases hlt : i < I.items.length
    · have hd : I.items.drop i = I.items[i] :: I.items.drop (i + 1) := by rw [List.drop_eq_getElem_cons hlt]
      rw [hd] at q2
      obtain ⟨gd, q2⟩ := q2
      refine .inr ⟨rI.go i f2 st2 H2 e2 R2.toRelS gd hlt, fun σ3 H3 => ∃ f3 ρ3 st3, Ext X.K f1 H1 f3 H3 ∧ Rel X.K f3 ρ3 st3 σ3 H3 ∧ forLoop I.guard g tb D' (I.items.drop (i + 1)) ρ3 st3, fun σ3 H3 ⟨f3, ρ3, st3, e3, R3, q3⟩ => ⟨I.items.length - (i + 1), by omega, rfl, hlt, f3, ρ3, st3, e3, R3, q3⟩, fun x H3 y => ?_⟩
      obtain ⟨e3, s3, r3⟩ := rI.yld i f2 st2 H2 I.items[i] x H3 e2 R2.toRelS gd (by simp [hlt]) y
      refine ⟨f2, ρ2, st2, I.items[i], _, R2.later e3 s3, r3, q2, fun ρ4 st4 σ4 f4 H4 q4 e4 R4 _ => ⟨f4, ρ4, st4, _, R4, q4, ?_⟩⟩
      have ee := (e1.trans (e2.trans (e3.trans e4)))
      have e1' := (e2.trans (e3.trans e4))
      exact ⟨fun ρ5 st5 σ5 f5 H5 q5 e5 R5 => ⟨f5, ρ5, st5, e1'.trans e5, R5, q5⟩, l.rt.later ee, fun ρ5 st5 σ5 f5 H5 q5 e5 R5 => l.nx ρ5 st5 σ5 f5 H5 q5 (ee.trans e5) R5, fun ρ5 st5 σ5 f5 H5 q5 e5 R5 => ⟨f5, ρ5, st5, e1'.trans e5, R5, q5⟩⟩
    · have e : i = I.items.length := by omega
      subst e
      rw [List.drop_length] at q2
      obtain ⟨gd, q2⟩ := q2
      exact .inl ⟨rI.stop f2 st2 H2 e2 R2.toRelS gd, l.nx ρ2 st2 σ2 f2 H2 q2 (e1.trans e2) R2⟩⟩
theorem ps_while {tb : TS} (hp : PassesOwn (model X.prog X.w) X.A X.env X.xe) (hc : PDT X c tC) (hb : PDSs X ss tb) : PDS X (.While c ss [] pos) (sWhile tC tb) :=
  ps_imp (L2.ps_while hp hc hb) fun D σ H ⟨f, ρ, st, D', R, h, l⟩ => by
    obtain ⟨n, h⟩ := h
    refine ⟨fun m σ2 H2 => ∃ f2 ρ2 st2, Ext X.K f H f2 H2 ∧ Rel X.K f2 ρ2 st2 σ2 H2 ∧ whileN tC tb D' m ρ2 st2, ⟨n, f, ρ, st, .refl, R, h⟩, ?_⟩
    rintro m σ2 H2 ⟨f2, ρ2, st2, e2, R2, q2⟩
    cases m with
    | zero => exact q2.elim
    | succ m =>
      refine ⟨f2, ρ2, st2, _, R2, q2, fun k st3 f3 H3 q3 e3 s3 => ?_⟩
      have ee := e2.trans e3
      cases k with
      | false => exact l.nx ρ2 st3 σ2 f3 H3 (q3.2 rfl) ee (R2.later e3 s3)
      | true =>
        refine ⟨fun σ4 H4 => ∃ f4 ρ4 st4, Ext X.K f H f4 H4 ∧ Rel X.K f4 ρ4 st4 σ4 H4 ∧ whileN tC tb D' m ρ4 st4, fun σ4 H4 q4 => ⟨m, Nat.lt_succ_self _, q4⟩, f3, ρ2, st3, _, R2.later e3 s3, q3.1 rfl, ?_⟩
        exact ⟨fun ρ5 st5 σ5 f5 H5 q5 e5 R5 => ⟨f5, ρ5, st5, ee.trans e5, R5, q5⟩, l.rt.later ee, fun ρ5 st5 σ5 f5 H5 q5 e5 R5 => l.nx ρ5 st5 σ5 f5 H5 q5 (ee.trans e5) R5, fun ρ5 st5 σ5 f5 H5 q5 e5 R5 => ⟨f5, ρ5, st5, ee.trans e5, R5, q5⟩⟩

/-! ### comprehensions -/
abbrev PDTs (X : L2.Cx) (es : List Expr) (t : TT) : Prop := L2.PTs X es (liftT X.K t)
theorem pts_imp {e : List Expr} {t t' : L2.TT} (h : L2.PTs X e t) (m : ∀ σ H Q, t' σ H Q → t σ H Q) : L2.PTs X e t' := ⟨fun pins s σ H Q I q => h.run pins s σ H Q I (m σ H Q q)⟩
theorem pts_nil : PDTs X [] tYes := pts_imp L2.pts_nil fun σ H Q ⟨f, ρ, st, Q', R, h, l⟩ => l true st f H h .refl R.toRelS
theorem pts_one {t : TT} (h : PDT X c t) : PDTs X [c] t := L2.pts_one h
theorem lc_core {wi : TI} {g : TG} {tt : TT} {te : TE} {vs ws : List Nat} {Q : L2.VK} (hws : ∀ j, j ∈ ws → j ∈ vs) (h : lift K (dLc wi g tt te vs) σ H Q) : L2.tLc (liftI K wi) (liftG K g ws) (liftT K tt) (lift K te) vs σ H Q := by
  obtain ⟨f, ρ, st, Q', R, h, l⟩ := h
  refine ⟨f, ρ, st, _, R, h, fun I st1 J f1 H1 q1 e1 s1 rI D hD => ?_⟩
  obtain ⟨s0, e0⟩ := s1.new (o := .lst []) (c := .lst []) hD ⟨[], L2.upd_same, RDs.nil.mpr rfl⟩
  have hn0 : (f1 ++ [D])[st1.length]? = some D := by rw [← s1.len]; simp
  refine ⟨fun i m H2 => m = I.items.length - i ∧ i ≤ I.items.length ∧ ∃ f2 st2 acc, Ext K (f1 ++ [D]) (L2.upd H1 D (.lst [])) f2 H2 ∧ RelS K f2 st2 H2 ∧ rdL st2 st1.length acc ∧ lcLoop I.guard g tt te (wipeE ρ vs) st1.length Q' (I.items.drop i) acc st2,
    ⟨_, rfl, Nat.zero_le _, f1 ++ [D], st1 ++ [.lst []], [], .refl, s0, by unfold rdL; simp, by simpa using q1⟩, ?_⟩
  rintro i m H2 ⟨rfl, hi, f2, st2, acc, e2, s2, hacc, q2⟩
  have eI : Ext K f1 H1 f2 H2 := e0.trans e2
  by_cases hlt : i < I.items.length
  · have hd : I.items.drop i = I.items[i] :: I.items.drop (i + 1) := by rw [List.drop_eq_getElem_cons hlt]
    rw [hd] at q2
    obtain ⟨gd, q2⟩ := q2
    refine .inr ⟨rI.go i f2 st2 H2 eI s2 gd hlt, fun H3 => ∃ f3 st3 acc', Ext K (f1 ++ [D]) (L2.upd H1 D (.lst [])) f3 H3 ∧ RelS K f3 st3 H3 ∧ rdL st3 st1.length acc' ∧ lcLoop I.guard g tt te (wipeE ρ vs) st1.length Q' (I.items.drop (i + 1)) acc' st3,
      fun H3 q3 => ⟨I.items.length - (i + 1), by omega, rfl, hlt, q3⟩, fun x H3 y => ?_⟩
    obtain ⟨e3, s3, r3⟩ := rI.yld i f2 st2 H2 I.items[i] x H3 eI s2 gd (by simp [hlt]) y
    have R3 : Rel K f2 (wipeE ρ vs) st2 (L2.wipe σ vs) H3 := (Rel.wipe R).later ((e1.trans eI).trans e3) s3
    refine ⟨f2, _, st2, I.items[i], _, R3, r3, q2, fun ρ4 st4 σ4 f4 H4 q4 e4 R4 o4 => ⟨Out.wipe ⟨o4.1, fun j hj => o4.2 j fun z => hj (hws j z)⟩, ?_⟩⟩
    refine ⟨f4, ρ4, st4, _, R4, q4, fun b st5 f5 H5 q5 e5 s5 => ?_⟩
    have e15 := e2.trans (e3.trans (e4.trans e5))
    cases b with
    | false =>
      obtain ⟨h1, h2⟩ := q5.2 rfl
      exact ⟨f5, st5, acc, e15, s5, h1, h2⟩
    | true =>
      refine ⟨f5, ρ4, st5, _, R4.later e5 s5, q5.1 rfl, fun y st6 v f6 H6 q6 e6 s6 r6 => ?_⟩
      obtain ⟨h1, h2, h3⟩ := q6
      have e16 := e15.trans e6
      obtain ⟨a', us, k1, k2, k3⟩ := s6.rdL h1
      rw [e16.at hn0] at k1; cases k1
      obtain ⟨s7, e7⟩ := s6.put (e16.at hn0) h1 k2 (k3.append (RDs.one r6))
      refine ⟨us, k2, by rw [k3.length, ← szl_eq]; exact h2, f6, _, acc ++ [y], e16.trans e7, s7, ?_, h3⟩
      have hl : st1.length < st6.length := (List.getElem?_eq_some_iff.mp h1).1
      unfold rdL
      rw [List.getElem?_set_self hl]
  · have e : i = I.items.length := by omega
    subst e
    rw [List.drop_length] at q2
    obtain ⟨gd, h1, h2⟩ := q2
    exact .inl ⟨rI.stop f2 st2 H2 eI s2 gd, l _ st2 _ f2 H2 h2 (e1.trans eI) s2 (RD.ref.mpr ⟨D, e2.at hn0, rfl⟩)⟩
theorem pd_lc {elt tg iter : Expr} {ifs : List Expr} {scope : Scope} {own : List (Str × Nat)} {wi : TI} {g : TG} {tt : TT} {te : TE} {ws : List Nat} (hc : X.calm = true) (hN : X.N.Nodup) (hi : PDI X tg iter wi) (ok : L2.BlkOk X.N X.env.scope scope own)
    (hg : ∀ (s : Shared) (H : Hp) (C : Addr) (cl : List (Str × Addr)) (fp : List Addr), PDG (X.blk s H scope (compEnvC scope cl C X.env) fp) tg g ws) (ht : ∀ (s : Shared) (H : Hp) (C : Addr) (cl : List (Str × Addr)) (fp : List Addr), PDTs (X.blk s H scope (compEnvC scope cl C X.env) fp) ifs tt)
    (he : ∀ (s : Shared) (H : Hp) (C : Addr) (cl : List (Str × Addr)) (fp : List Addr), PD (X.blk s H scope (compEnvC scope cl C X.env) fp) elt te) (hws : ∀ j, j ∈ ws → j ∈ own.map (·.2)) (hs : ∀ x, foldedSetIterable iter X.env x = pure x := by intro _; rfl) :
    PD X (.ListComp elt [⟨tg, iter, ifs, 0⟩] scope pos) (dLc wi g tt te (own.map (·.2))) :=
  pe_imp (L2.pe_lc hc hN hi ok hg ht he hs) fun σ H Q h => lc_core hws h
theorem ps_setLc {j : Nat} {y : Str} {py spos : Pos} {elt tg iter : Expr} {ifs : List Expr} {scope : Scope} {own : List (Str × Nat)} {wi : TI} {g : TG} {tt : TT} {te : TE} {ws : List Nat} (hc : X.calm = true) (hN : X.N.Nodup) (hy : X.N[j]? = some y) (hyl : X.env.scope.names.lookup y = some .local)
    (hsw : swapsWith (.ListComp elt [⟨tg, iter, ifs, 0⟩] scope pos) (some (.Name y py)) spos.line X.env = pure true) (hi : PDI X tg iter wi) (ok : L2.BlkOk X.N X.env.scope scope own)
    (hg : ∀ (s : Shared) (H : Hp) (C : Addr) (cl : List (Str × Addr)) (fp : List Addr), PDG (X.blk s H scope (compEnvC scope cl C X.env) fp) tg g ws) (ht : ∀ (s : Shared) (H : Hp) (C : Addr) (cl : List (Str × Addr)) (fp : List Addr), PDTs (X.blk s H scope (compEnvC scope cl C X.env) fp) ifs tt)
    (he : ∀ (s : Shared) (H : Hp) (C : Addr) (cl : List (Str × Addr)) (fp : List Addr), PD (X.blk s H scope (compEnvC scope cl C X.env) fp) elt te) (hws : ∀ j, j ∈ ws → j ∈ own.map (·.2)) (hs : ∀ x, foldedSetIterable iter X.env x = pure x := by intro _; rfl) :
    PDS X (.Assign [.Name y py] (.ListComp elt [⟨tg, iter, ifs, 0⟩] scope pos) spos) (sAsg (dLc wi g tt te (own.map (·.2))) (gName j)) :=
  ps_imp (L2.ps_setLc hc hN hy hyl hsw hi ok hg ht he hs) fun D σ H ⟨f, ρ, st, D', R, h, l⟩ =>
    lc_core (Q := fun x H1 => L2.gName j x σ H1 D.nx) hws ⟨f, ρ, st, _, R, h, fun x st1 v f1 H1 q e1 s1 r1 => l.nx _ st1 _ f1 H1 q e1 ((R.later e1 s1).put r1)⟩
end
end
end Pd
end PartPdSoundE

section PartPdSoundF
set_option Elab.async false
set_option linter.all false
set_option maxRecDepth 100000
set_option maxHeartbeats 1000000
/-! Pd over the hand layer: methods, isinstance, defs, the end. Own work. -/
namespace Pd
open PySem PySem.Spec
open PyProof.Rows (envOfC)
section
variable {X : L2.Cx} {K : Kf} {f f' : List Addr} {H H' : Hp} {st st' : Store} {ρ : Env} {σ : L2.St}
/-! ### methods -/
def RealM (K : Kf) (r : L2.V → List L2.V → Hp → L2.VK → Prop) (k : KM) : Prop := ∀ (f : List Addr) (st : Store) (H : Hp) (x : D) (xs : List D) (v : L2.V) (vs : List L2.V) (Q' : Pd.K) (Q : L2.VK), RelS K f st H → RD K f H x v → RDs K f H xs vs → k x xs st Q' → LQ K f H Q' Q → r v vs H Q
def RealTy (K : Kf) (T : String) (ty : D → Store → Prop) : Prop := ∀ (f : List Addr) (st : Store) (H : Hp) (x : D) (v : L2.V), RelS K f st H → RD K f H x v → ty x st → L2.tyV K T v H
section
variable {a b c e o i : Expr} {es : List Expr} {ta tb te to ti : TE} {pos apos : Pos} {name : Str} {T id : String}
theorem pd_m {r : L2.V → List L2.V → Hp → L2.VK → Prop} {k : KM} {ty : D → Store → Prop} {ts : TA} (hm : L2.MtR X id r) (hk : RealM X.K r k) (ht : RealTy X.K T ty) (pa : PlainAttrs T) (slot : Slot T name id) (hty : typeOf (.builtin id) = pure (.type "method_descriptor")) (ho : PD X o to) (ha : PDA X (e :: es) ts)
    (hbase : attributeBase o name X.env (eval o X.env) = eval o X.env := by rfl)
    (hfew : ((backTo pos (starEach (e :: es) X.env)).all (fun x => !x.1) && (backToKw pos (keywordEach [] X.env)).all (fun x => x.1.isSome)
      && decide ((e :: es).length + ([] : List Keyword).length + (if ([] : List Keyword).isEmpty then 0 else 1) < 30)) = true := by rfl)
    (hline : (apos.endLine == pos.line) = true := by rfl) (hs : starEach (e :: es) X.env = (false, eval e X.env) :: starEach es X.env := by rfl) (hplain : (backTo pos (starEach es X.env)).any (·.1) = false := by rfl) :
    PD X (.Call (.Attribute o name apos) (e :: es) [] pos) (dM ty k to ts) :=
  pe_imp (L2.pe_bm pa slot hty hm ho ha hbase hfew hline hs hplain) fun σ H Q ⟨f, ρ, st, Q', R, h, l⟩ => ⟨f, ρ, st, _, R, h, fun x st1 v f1 H1 q1 e1 s1 r1 => ⟨ht f1 st1 H1 x v s1 r1 q1.1, f1, ρ, st1, _, R.later e1 s1, q1.2, fun xs st2 vs f2 H2 q2 e2 s2 r2 => hk f2 st2 H2 x xs v vs Q' Q s2 (r1.mono e2) r2 q2 (l.later (e1.trans e2))⟩⟩
end
theorem ty_list : RealTy K "list" tyLst := fun f st H x v s r h => by
  cases x <;> try (exact h.elim)
  rw [RD.ref] at r
  obtain ⟨a, e, rfl⟩ := r
  obtain ⟨xs, h⟩ := h
  obtain ⟨a', vs, k1, k2, k3⟩ := s.rdL h
  rw [e] at k1; cases k1
  exact .inl ⟨rfl, vs, .of k2⟩
theorem ty_str : RealTy K "str" tyStr := fun f st H x v s r h => by
  cases x <;> try (exact h.elim)
  rw [RD.str] at r
  subst r
  rfl
theorem real_append : RealM K L2.rAppend appendM := fun f st H x xs v vs Q' Q s r1 r2 h l => by
  cases x <;> try (exact h.elim)
  match xs, h with
  | [], h => exact h.elim
  | _ :: _ :: _, h => exact h.elim
  | [y], h =>
    rw [RD.ref] at r1
    obtain ⟨a, e, rfl⟩ := r1
    obtain ⟨w, rfl, r3⟩ := r2.inv1
    obtain ⟨ys, h1, h2, h3⟩ := h
    obtain ⟨a', us, k1, k2, k3⟩ := s.rdL h1
    rw [e] at k1; cases k1
    obtain ⟨s', e'⟩ := s.put e h1 k2 (k3.append (RDs.one r3))
    exact ⟨a, us, w, rfl, rfl, k2, by rw [k3.length, ← szl_eq]; exact h2, l _ _ _ f _ h3 e' s' (RD.non.mpr rfl)⟩
theorem real_extend : RealM K L2.rExtend extendM := fun f st H x xs v vs Q' Q s r1 r2 h l => by
  cases x <;> try (exact h.elim)
  match xs, h with
  | [], h => exact h.elim
  | _ :: _ :: _, h => rename_i y _ _; cases y <;> exact h.elim
  | [.non], h => exact h.elim
  | [.bl _], h => exact h.elim
  | [.int _], h => exact h.elim
  | [.str _], h => exact h.elim
  | [.tup _], h => exact h.elim
  | [.ref m], h =>
    rw [RD.ref] at r1
    obtain ⟨a, e, rfl⟩ := r1
    obtain ⟨w, rfl, r3⟩ := r2.inv1
    rw [RD.ref] at r3
    obtain ⟨b, e2, rfl⟩ := r3
    obtain ⟨ys, zs, h1, h2, h3, h4, h5⟩ := h
    obtain ⟨a', us, k1, k2, k3⟩ := s.rdL h1
    obtain ⟨b', ws, j1, j2, j3⟩ := s.rdL h2
    rw [e] at k1; cases k1
    rw [e2] at j1; cases j1
    obtain ⟨s', e'⟩ := s.put e h1 k2 (k3.append j3)
    exact ⟨a, b, us, ws, rfl, rfl, k2, j2, by rw [k3.length, j3.length, ← szl_eq]; exact h4, l _ _ _ f _ h5 e' s' (RD.non.mpr rfl)⟩
theorem real_popAt : RealM K L2.rPopAt popM := fun f st H x xs v vs Q' Q s r1 r2 h l => by
  cases x <;> try (exact h.elim)
  match xs, h with
  | [], h => exact h.elim
  | _ :: _ :: _, h => rename_i y _ _; cases y <;> exact h.elim
  | [.non], h => exact h.elim
  | [.bl _], h => exact h.elim
  | [.ref _], h => exact h.elim
  | [.str _], h => exact h.elim
  | [.tup _], h => exact h.elim
  | [.int i], h =>
    rw [RD.ref] at r1
    obtain ⟨a, e, rfl⟩ := r1
    obtain ⟨w, rfl, r3⟩ := r2.inv1
    rw [RD.int] at r3
    subst r3
    obtain ⟨ys, d, h1, h2, h3, h4⟩ := h
    obtain ⟨a', us, k1, k2, k3⟩ := s.rdL h1
    rw [e] at k1; cases k1
    unfold atD at h3
    rw [if_pos h2.1] at h3
    have hl := (List.getElem?_eq_some_iff.mp h3).1
    obtain ⟨u, g1, g2⟩ := k3.get h3
    obtain ⟨s', e'⟩ := s.put e h1 k2 (k3.eraseIdx i.toNat)
    have hus := k3.length
    exact ⟨a, us, i, i.toNat, u, rfl, rfl, k2, by omega, by omega, seqIndex_of h2.1 (by omega), g1, l _ _ _ f _ h4 e' s' (g2.mono e')⟩
theorem real_index : RealM K (L2.rIndex K) indexM := fun f st H x xs v vs Q' Q s r1 r2 h l => by
  cases x <;> try (exact h.elim)
  match xs, h with
  | [], h => exact h.elim
  | _ :: _ :: _, h => exact h.elim
  | [y], h =>
    rw [RD.ref] at r1
    obtain ⟨a, e, rfl⟩ := r1
    obtain ⟨w, rfl, r3⟩ := r2.inv1
    obtain ⟨ys, j, z, h1, h2, h3, h4, h5, h6, h7⟩ := h
    obtain ⟨a', us, k1, k2, k3⟩ := s.rdA h1
    rw [e] at k1; cases k1
    obtain ⟨u, g1, g2⟩ := k3.get h4
    have fl : ∀ (m : Nat) (z : D), ys[m]? = some z → z.flat = true := fun m z hz => by
      rw [List.all_eq_true] at h3
      exact h3 z (List.mem_of_getElem? hz)
    refine ⟨a, us, w, j, u, rfl, rfl, k2, r3.flatV h2, k3.flatV h3, g1, by rw [g2.eqV r3 (fl j z h4) h2]; exact h5, fun m z' hm hz => ?_, l.now s h7 (RD.int.mpr rfl)⟩
    have hml : m < ys.length := by rw [← k3.length]; exact (List.getElem?_eq_some_iff.mp hz).1
    obtain ⟨u', g3, g4⟩ := k3.get (show ys[m]? = some ys[m] by simp [hml])
    rw [hz] at g3; cases g3
    rw [g4.eqV r3 (fl m _ (by simp [hml])) h2]
    exact h6 m _ hm (by simp [hml])

/-! ### the built-ins' values -/
theorem bt_int : bootBuiltins "int" = some (.type "int") := by decide +kernel
theorem bt_abs : bootBuiltins "abs" = some (.builtin "abs") := by decide +kernel
theorem bt_len : bootBuiltins "len" = some (.builtin "len") := by decide +kernel
theorem bt_min : bootBuiltins "min" = some (.builtin "min") := by decide +kernel
theorem bt_max : bootBuiltins "max" = some (.builtin "max") := by decide +kernel
theorem bt_list : bootBuiltins "list" = some (.type "list") := by decide +kernel
theorem bt_tuple : bootBuiltins "tuple" = some (.type "tuple") := by decide +kernel
theorem bt_sum : bootBuiltins "sum" = some (.builtin "sum") := by decide +kernel
theorem bt_all : bootBuiltins "all" = some (.builtin "all") := by decide +kernel
theorem bt_any : bootBuiltins "any" = some (.builtin "any") := by decide +kernel
theorem bt_sorted : bootBuiltins "sorted" = some (.builtin "sorted") := by decide +kernel
theorem bt_bool : bootBuiltins "bool" = some (.type "bool") := by decide +kernel
theorem bt_str : bootBuiltins "str" = some (.type "str") := by decide +kernel
theorem bt_repr : bootBuiltins "repr" = some (.builtin "repr") := by decide +kernel
theorem bt_set : bootBuiltins "set" = some (.type "set") := by decide +kernel
theorem bt_dict : bootBuiltins "dict" = some (.type "dict") := by decide +kernel

/-! ### isinstance -/
def tyN : Ty → String
  | .int => "int" | .bool => "bool" | .str => "str" | .tuple => "tuple" | .list => "list"
theorem SqT.ty {a : Addr} {vs : List L2.V} (h : L2.SqT K H a vs) : L2.TyX K H (.ref a) (.type "tuple") := by
  rcases h with (h | ⟨o, h⟩) | ⟨o, its, n, h1, h2, _⟩
  · exact .base (.tup h)
  · exact .fTuple h
  · exact .kTuple h1 h2
theorem isTy_kit {x : D} {v : L2.V} {t : Ty} {Q' : Bool → Prop} (s : RelS K f st H) (r : RD K f H x v) (h : isTy x st t Q') : ∃ (u : Value) (b : Bool), L2.TyX K H v u ∧ PySem.W.kitOne K u (.type (tyN t)) = some b ∧ Q' b := by
  cases x with
  | non => rw [RD.non] at r; subst r; exact ⟨_, false, .base .non, L2.kit_ty (by cases t <;> decide +kernel), h⟩
  | bl b => rw [RD.bl] at r; subst r; exact ⟨_, _, .base (.bl b), L2.kit_ty (by cases t <;> decide +kernel), h⟩
  | int i => rw [RD.int] at r; subst r; exact ⟨_, _, .base (.int i), L2.kit_ty (by cases t <;> decide +kernel), h⟩
  | str y => rw [RD.str] at r; subst r; exact ⟨_, _, .base (.str y), L2.kit_ty (by cases t <;> decide +kernel), h⟩
  | tup xs =>
    rw [RD.tup] at r
    obtain ⟨a, vs, rfl, q, d⟩ := r
    exact ⟨_, _, SqT.ty q, L2.kit_ty (by cases t <;> decide +kernel), h⟩
  | ref n =>
    rw [RD.ref] at r
    obtain ⟨a, e, rfl⟩ := r
    obtain ⟨xs, h1, h2⟩ := h
    obtain ⟨a', vs, k1, k2, k3⟩ := s.rdL h1
    rw [e] at k1; cases k1
    exact ⟨_, _, .base (.lst k2), L2.kit_ty (by cases t <;> decide +kernel), h2⟩
theorem pd_isi {a : Expr} {ta : TE} {p pos q : Pos} {T : Str} (t : Ty) (hg : L2.Gl X "isinstance") (hm : X.mg "isinstance" = none) (hT : T = Str.ofString (tyN t)) (hgT : L2.Gl X T) (hmT : X.mg T = none) (hv : bootBuiltins T = some (.type (tyN t))) (ha : PD X a ta)
    (hs : starEach [a, .Name T q] X.env = (false, eval a X.env) :: starEach [.Name T q] X.env := by rfl) : PD X (.Call (.Name "isinstance" p) [a, .Name T q] [] pos) (dIsi t ta) := by
  have hT1 : T ≠ "__name__" := by rw [hT]; cases t <;> decide
  have hT2 : (T == ("__debug__" : Str)) = false := by rw [hT]; cases t <;> decide
  have pT : L2.PE X (.Name T q) (L2.tC (.ty (tyN t))) := L2.pe_bltn hgT hmT hv rfl hT1 hT2
  refine pe_imp (L2.pe_callB L2.call_isi hg hm (by decide +kernel) (L2.pa_cons ha (L2.pa_cons pT L2.pa_nil rfl) hs) (by decide) (by decide) hs rfl) fun σ H Q ⟨f, ρ, st, Q', R, h, l⟩ => ⟨f, ρ, st, _, R, h, fun x st1 v f1 H1 q1 e1 s1 r1 => ?_⟩
  obtain ⟨u, b, h1, h2, h3⟩ := isTy_kit s1 r1 q1
  exact ⟨v, .ty (tyN t), u, _, b, rfl, .ty _, h1, h2, l _ st1 _ f1 H1 h3 e1 s1 (RD.bl.mpr rfl)⟩

/-! ### defs -/
theorem start_rel {n : Nat} {ds : List D} {vs : List L2.V} {N : List Str} (s : RelS K f st H) (r : RDs K f H ds vs) (hn : n = N.length) : Rel K f (start n ds) st (L2.start N vs) H := by
  have hl := r.length
  have lk_app : ∀ (ds : List D) (m i : Nat) (d : D), lk (ds.map some ++ List.replicate m none) i = some d → ds[i]? = some d := by
    intro ds
    induction ds with
    | nil =>
      intro m
      induction m with
      | zero => intro i d h; simp [lk] at h
      | succ m ih =>
        intro i d h
        cases i with
        | zero => simp [lk, List.replicate_succ] at h
        | succ i =>
          have := ih i d (by simpa [lk, List.replicate_succ] using h)
          simp at this
    | cons x ds ih =>
      intro m i d h
      cases i with
      | zero => simpa [lk] using h
      | succ i =>
        have := ih m i d (by simpa [lk] using h)
        simpa using this
  refine ⟨s, fun i d h => ?_, ?_⟩
  · have hd := lk_app ds _ i d h
    obtain ⟨v, h1, h2⟩ := r.get hd
    refine ⟨v, ?_, h2⟩
    unfold L2.start
    have hi := (List.getElem?_eq_some_iff.mp h1).1
    rw [List.getElem?_append_left (by simpa using hi), List.getElem?_map, h1]
    rfl
  · unfold start L2.start
    simp only [List.length_append, List.length_map, List.length_replicate]
    omega
/-- the def's own facts, and that its body keeps what is run -/
structure Step (P : Program) (w : World) (K : Kf) (mg : Str → Option Value) (base : Heap) (names : List String) (x : String) (d : Def) : Prop where
  ex : ∃ (fa : Addr) (fd : FuncData) (ps : List Str), mg x = some (.ref fa) ∧ PySem.W.keepIn K (.ref fa) = true ∧ L2.Binds K fd ps [] ∧ d.ps = ps.length ∧
    ∀ (k : Nat) (c : Cl), (∀ y ∈ names, Own P w K mg base k (Str.ofString y) (c y)) → L2.FnOk P w K mg base L2.CX0 (k + 1) fa fd ps (liftF K ps.length (d.run c))
variable {P : Program} {w : World} {mg : Str → Option Value} {base : Heap} {names : List String}
theorem fn_ok {qual x : Str} {sm : Stmt} {fa : Addr} {fd : FuncData} {N ps : List Str} {k : Nat} {d : Def} {c : Cl} (F : L2.Fun K x qual sm fa fd) (S : L2.FnScope N ps (L2.defScope sm)) (hn : d.ns = N.length) (hp : d.ps = ps.length)
    (der : ∀ (cdv : Value) (A : Around) (outer : List PySem.Env) (s : Shared) (H : Hp) (E : L2.XK), L2.Room k (A.deeper (envOfC qual (L2.defScope sm) s.heap.objs.size fa cdv)) →
      PDSs (L2.cxOf L2.CX0 P w K mg base N qual (L2.defScope sm) fa cdv A outer s H E).nox (L2.defBody sm) (d.body c)) : L2.FnOk P w K mg base L2.CX0 (k + 1) fa fd ps (liftF K ps.length (d.run c)) := by
  refine F.ok S (fun vs H Q E h => h.1) (fun cdv A outer s H vs Q E hr h => ⟨_, der cdv A outer s H E hr, ?_⟩)
  obtain ⟨_, f, st, ds, Q', s', r, ⟨hl, h⟩, l⟩ := h
  refine ⟨f, start d.ns ds, st, _, start_rel s' r hn, h, ?_⟩
  exact ⟨fun ρ1 st1 σ1 f1 H1 q e r1 => l .non st1 .non f1 H1 q e r1.toRelS (RD.non.mpr rfl), l, fun _ _ _ _ _ q _ _ => q, fun _ _ _ _ _ q _ _ => q⟩
theorem fn_zero {fa : Addr} {fd : FuncData} {ps : List Str} {n : Nat} : L2.FnOk P w K mg base L2.CX0 0 fa fd ps (liftF K n fun _ _ _ => False) :=
  ⟨fun vs H Q E h => by obtain ⟨_, _, _, _, _, _, _, h, _⟩ := h; exact h.elim, fun A outer s H args us vs Q E hr e0 hb hv h => by obtain ⟨_, _, _, _, _, _, _, h, _⟩ := h; exact h.elim⟩
theorem all_own {prog : String → Option Def} (hs : ∀ x ∈ names, ∃ d, prog x = some d ∧ Step P w K mg base names x d) : ∀ (k : Nat) (x : String), x ∈ names → Own P w K mg base k (Str.ofString x) (callN prog k x)
  | 0, x, hx => by
    obtain ⟨d, h1, fa, fd, ps, h2, h3, h4, h5, h6⟩ := hs x hx
    exact ⟨fa, fd, ps, fn_zero, h2, h3, h4, fun _ _ _ h => h.elim⟩
  | k + 1, x, hx => by
    obtain ⟨d, h1, fa, fd, ps, h2, h3, h4, h5, h6⟩ := hs x hx
    refine ⟨fa, fd, ps, (h6 k _ fun y hy => all_own hs k y hy).imp fun vs H Q E ⟨g0, f, st, ds, Q', s, r, ⟨d', e', g⟩, l⟩ => ?_, h2, h3, h4, fun ds st Q ⟨d', e', g⟩ => ?_⟩
    · rw [h1] at e'; cases e'
      exact ⟨g0, f, st, ds, Q', s, r, g, l⟩
    · rw [h1] at e'; cases e'
      exact g.1.trans h5
/-- the law's call, from the data-level statement -/
theorem law_sp {c : List D → Store → Pd.K → Prop} {H : Hp} {a : Addr} {ns : List Int} (h : c [.ref 0] [.frz (ns.map D.int)] fun d _ => d = .bl true) (hO : L2.Only H) (hS : L2.SqL K H a (ns.map L2.V.int)) : liftF K 1 c [.ref a] H (fun v _ => v = .bl true) fun _ _ _ => False := by
  refine ⟨rfl, [a], [.frz (ns.map D.int)], [.ref 0], _, ⟨rfl, fun n m c c' b h1 h2 m1 m2 h3 h4 => ?_, fun n c' b h1 h2 => ?_⟩, RDs.one (RD.ref.mpr ⟨a, rfl, rfl⟩), h, fun d st' v f' H' q e s r => ?_⟩
  · match n, h1 with
    | 0, h1 => simp at h1; subst h1; cases m1
    | n + 1, h1 => simp at h1
  · match n, h1, h2 with
    | 0, h1, h2 =>
      simp at h1 h2
      subst h1; subst h2
      refine ⟨ns.map L2.V.int, ?_, RDs.of_ints ns⟩
      rcases hS with (hS | ⟨o, hS⟩) | hS
      · rcases hO a with q | ⟨o, xs, q⟩ <;> rw [q] at hS <;> cases hS
      · exact .inl ⟨o, hS⟩
      · exact .inr hS
    | n + 1, h1, _ => simp at h1
  · subst q
    rw [RD.bl] at r
    exact r
end
end Pd
end PartPdSoundF

section PartPdTac
set_option Elab.async false
set_option linter.all false
set_option maxRecDepth 100000
/-! Pd: how a data-level statement is walked. Own work. -/
namespace Pd
open PySem

/-- one step of a reading: it suffices to show P' -/
class Red (P : Prop) (P' : outParam Prop) : Prop where
  red : P' → P
/-- look-up and store of slots, by the environment's shape -/
class Lk (σ : Env) (i : Nat) (d : outParam D) : Prop where
  eq : lk σ i = some d
class SetE (σ : Env) (i : Nat) (d : Option D) (σ' : outParam Env) : Prop where
  eq : σ.set i d = σ'
instance : Lk (some d :: σ) 0 d := ⟨rfl⟩
instance [h : Lk σ n d] : Lk (x :: σ) (n + 1) d := ⟨h.eq⟩
instance : SetE (x :: σ) 0 d (d :: σ) := ⟨rfl⟩
instance [h : SetE σ n d σ'] : SetE (x :: σ) (n + 1) d (x :: σ') := ⟨by rw [List.set_cons_succ, h.eq]⟩
class WipeE (σ : Env) (vs : List Nat) (σ' : outParam Env) : Prop where
  eq : wipeE σ vs = σ'
instance : WipeE σ [] σ := ⟨rfl⟩
instance [h : WipeE σ vs σ'] [h2 : SetE σ' v none σ''] : WipeE σ (v :: vs) σ'' := ⟨by show (wipeE σ vs).set v none = σ''; rw [h.eq, h2.eq]⟩

section
variable {σ σ' : Env} {st st' : Store} {Q : K} {d x y z : D} {ta tb tc te to ti : TE} {T U : TT} {Ar Br : TA} {D0 : Ends} {S S' : TS} {xs ys : List D}
-- statements
instance : Red (sSeq S S' D0 σ st) (S { D0 with nx := fun σ' st' => Nxt (S' D0 σ' st') } σ st) := ⟨id⟩
instance : Red (sNext D0 σ st) (D0.nx σ st) := ⟨id⟩
instance : Red (sBreak D0 σ st) (D0.bk σ st) := ⟨id⟩
instance : Red (sCont D0 σ st) (D0.ct σ st) := ⟨id⟩
instance : Red (sExpr te D0 σ st) (te σ st fun _ st1 => D0.nx σ st1) := ⟨id⟩
instance : Red (sRet te D0 σ st) (te σ st D0.rt) := ⟨id⟩
instance : Red (sRetN D0 σ st) (D0.rt .non st) := ⟨id⟩
instance : Red (sIf T S S' D0 σ st) (T σ st fun b st1 => (b = true → S D0 σ st1) ∧ (b = false → S' D0 σ st1)) := ⟨id⟩
instance {g : TG} : Red (sAsg te g D0 σ st) (te σ st fun x st1 => g x σ st1 D0.nx) := ⟨id⟩
instance : Red (sPar i j Ar D0 σ st) (Ar σ st fun xs st1 => ∃ x y, xs = [x, y] ∧ D0.nx ((σ.set i (some x)).set j (some y)) st1) := ⟨id⟩
instance [h : Lk σ i x] : Red (sAug i k te D0 σ st) (te σ st fun y st1 => k x y st1 fun z st2 => gName i z σ st2 D0.nx) := ⟨fun p => ⟨x, h.eq, p⟩⟩
instance : Red (sAugL k to ti te D0 σ st) (to σ st fun o st1 => ti σ st1 fun i st2 => ixLK o i st2 fun x st3 => te σ st3 fun y st4 => k x y st4 fun z st5 => setK o i z st5 fun st6 => D0.nx σ st6) := ⟨id⟩
instance {i : TI} {g : TG} : Red (sFor i g S D0 σ st) (i σ st fun I st1 => forLoop I.guard g S D0 I.items σ st1) := ⟨id⟩
-- targets
instance {q : Env → Store → Prop} [h : SetE σ i (some d) σ'] : Red (gName i d σ st q) (q σ' st) := ⟨fun p => by show q (σ.set i (some d)) st; rw [h.eq]; exact p⟩
instance {q : Env → Store → Prop} : Red (gSub to ti d σ st q) (to σ st fun o st1 => ti σ st1 fun i st2 => setK o i d st2 fun st3 => q σ st3) := ⟨id⟩
instance {q : Env → Store → Prop} {gs : TGs} : Red (gTup gs n (.tup xs) σ st q) (xs.length = n ∧ gs xs σ st q) := ⟨fun p => ⟨xs, rfl, p⟩⟩
instance {q : Env → Store → Prop} : Red (gsNil [] σ st q) (q σ st) := ⟨fun p => ⟨rfl, p⟩⟩
instance {q : Env → Store → Prop} {g : TG} {gs : TGs} : Red (gsCons g gs (d :: xs) σ st q) (g d σ st fun σ1 st1 => gs xs σ1 st1 q) := ⟨fun p => ⟨d, xs, rfl, p⟩⟩
-- expressions
instance : Red (dC d σ st Q) (Q d st) := ⟨id⟩
instance [h : Lk σ i d] : Red (dVar i σ st Q) (Q d st) := ⟨fun p => ⟨d, h.eq, p⟩⟩
instance : Red (dOp k ta tb σ st Q) (ta σ st fun x st1 => tb σ st1 fun y st2 => k x y st2 Q) := ⟨id⟩
instance : Red (dUn k ta σ st Q) (ta σ st fun x st1 => k x st1 Q) := ⟨id⟩
instance : Red (dCmp k ta tb σ st Q) (ta σ st fun x st1 => tb σ st1 fun y st2 => k x y st2 fun b => Q (.bl b) st2) := ⟨id⟩
instance : Red (dChain k k' ta tb tc σ st Q) (ta σ st fun x st1 => tb σ st1 fun y st2 => k x y st2 fun b => (b = true → tc σ st2 fun z st3 => k' y z st3 fun b' => Q (.bl b') st3) ∧ (b = false → Q (.bl false) st2)) := ⟨id⟩
instance : Red (dAndT ta tb σ st Q) (ta σ st fun x st1 => truK x st1 fun c => (c = true → tb σ st1 Q) ∧ (c = false → Q x st1)) := ⟨id⟩
instance : Red (dOrT ta tb σ st Q) (ta σ st fun x st1 => truK x st1 fun c => (c = true → Q x st1) ∧ (c = false → tb σ st1 Q)) := ⟨id⟩
instance : Red (dNotT ta σ st Q) (ta σ st fun x st1 => truK x st1 fun c => Q (.bl (!c)) st1) := ⟨id⟩
instance : Red (dIf T ta tb σ st Q) (T σ st fun k st1 => (k = true → ta σ st1 Q) ∧ (k = false → tb σ st1 Q)) := ⟨id⟩
instance : Red (dSl te tl th σ st Q) (te σ st fun x st1 => tl σ st1 fun lo st2 => th σ st2 fun hi st3 => slK x lo hi st3 Q) := ⟨id⟩
instance {q : Option Int → Store → Prop} : Red (oNone σ st q) (q none st) := ⟨id⟩
instance {q : Option Int → Store → Prop} : Red (oSome te σ st q) (te σ st fun x st1 => ∃ i, x = .int i ∧ q (some i) st1) := ⟨id⟩
instance {q : List D → Store → Prop} : Red (aNil σ st q) (q [] st) := ⟨id⟩
instance {q : List D → Store → Prop} : Red (aCons te Ar σ st q) (te σ st fun x st1 => Ar σ st1 fun xs st2 => q (x :: xs) st2) := ⟨id⟩
instance : Red (dTup Ar σ st Q) (Ar σ st fun xs st1 => xs.length ≤ szl ∧ Q (.tup xs) st1) := ⟨id⟩
instance : Red (dLst Ar σ st Q) (Ar σ st fun xs st1 => xs.length ≤ szl ∧ Q (.ref st1.length) (st1 ++ [.lst xs])) := ⟨id⟩
instance : Red (dCall c f Ar σ st Q) (Ar σ st fun xs st1 => c f xs st1 Q) := ⟨id⟩
instance : Red (dB k Ar σ st Q) (Ar σ st fun xs st1 => k xs st1 Q) := ⟨id⟩
instance : Red (dM ty k to Ar σ st Q) (to σ st fun o st1 => ty o st1 ∧ Ar σ st1 fun xs st2 => k o xs st2 Q) := ⟨id⟩
instance : Red (dIsi t te σ st Q) (te σ st fun x st1 => isTy x st1 t fun b => Q (.bl b) st1) := ⟨id⟩
instance {i : TI} {g : TG} [h : WipeE σ vs σ'] : Red (dLc i g T te vs σ st Q) (i σ st fun I st1 => lcLoop I.guard g T te σ' st1.length Q I.items [] (st1 ++ [.lst []])) := ⟨fun p => by unfold dLc; rw [h.eq]; exact p⟩
-- tests
instance {q : Bool → Store → Prop} : Red (tTru te σ st q) (te σ st fun x st1 => truK x st1 fun b => q b st1) := ⟨id⟩
instance {q : Bool → Store → Prop} : Red (tAnd T U σ st q) (T σ st fun c st1 => (c = true → U σ st1 q) ∧ (c = false → q false st1)) := ⟨id⟩
instance {q : Bool → Store → Prop} : Red (tOr T U σ st q) (T σ st fun c st1 => (c = true → q true st1) ∧ (c = false → U σ st1 q)) := ⟨id⟩
instance {q : Bool → Store → Prop} : Red (tNot T σ st q) (T σ st fun c st1 => q (!c) st1) := ⟨id⟩
instance {q : Bool → Store → Prop} : Red (tYes σ st q) (q true st) := ⟨id⟩
-- iterables
instance {R : Iter → Store → Prop} : Red (iSeq te σ st R) (te σ st fun x st1 => itK x st1 R) := ⟨id⟩
instance {R : Iter → Store → Prop} : Red (iR1 te σ st R) (te σ st fun x st1 => ∃ j, x = .int j ∧ -(2 ^ 62) ≤ j ∧ j < 2 ^ 62 ∧ R ⟨rng 0 j.toNat, fun _ => True⟩ st1) := ⟨id⟩
instance {R : Iter → Store → Prop} : Red (iR2 ta tb σ st R) (ta σ st fun x st1 => tb σ st1 fun y st2 => ∃ i j, x = .int i ∧ y = .int j ∧ (-(2 ^ 62) ≤ i ∧ i < 2 ^ 62 ∧ -(2 ^ 62) ≤ j ∧ j < 2 ^ 62) ∧ R ⟨rng i (j - i).toNat, fun _ => True⟩ st2) := ⟨id⟩
instance {R : Iter → Store → Prop} : Red (iZip2 ta tb σ st R) (ta σ st fun x st1 => tb σ st1 fun y st2 => zipK x y st2 R) := ⟨id⟩
instance {R : Iter → Store → Prop} : Red (itK (.tup xs) st R) (R ⟨xs, fun _ => True⟩ st) := ⟨id⟩
instance {R : Iter → Store → Prop} : Red (zipK (.tup xs) (.tup ys) st R) (R ⟨zipD xs ys, fun _ => True⟩ st) := ⟨id⟩
-- values
section
variable {a b : Int} {u v : Str} {p q : Bool}
instance : Red (addK (.int a) (.int b) st Q) (Q (.int (a + b)) st) := ⟨id⟩
instance : Red (addK (.tup xs) (.tup ys) st Q) (xs.length + ys.length ≤ szl ∧ Q (.tup (xs ++ ys)) st) := ⟨id⟩
instance : Red (addK (.str u) (.str v) st Q) (u.length + v.length ≤ szl ∧ Q (.str (u ++ v)) st) := ⟨id⟩
instance : Red (iaddK (.int a) (.int b) st Q) (Q (.int (a + b)) st) := ⟨id⟩
instance : Red (subK (.int a) (.int b) st Q) (Q (.int (a - b)) st) := ⟨id⟩
instance : Red (mulK (.int a) (.int b) st Q) (cMul a b ∧ Q (.int (a * b)) st) := ⟨id⟩
instance : Red (fdivK (.int a) (.int b) st Q) ((0 < b ∧ b < 1073741824) ∧ Q (.int (a / b)) st) := ⟨id⟩
instance : Red (modK (.int a) (.int b) st Q) (0 < b ∧ Q (.int (a % b)) st) := ⟨id⟩
instance : Red (powK (.int a) (.int b) st Q) (cPow a b ∧ Q (.int (a ^ b.toNat)) st) := ⟨id⟩
instance : Red (shlK (.int a) (.int b) st Q) (cPow a b ∧ Q (.int (a * 2 ^ b.toNat)) st) := ⟨id⟩
instance : Red (shrK (.int a) (.int b) st Q) (0 ≤ b ∧ Q (.int (a / 2 ^ b.toNat)) st) := ⟨id⟩
instance : Red (andK (.int a) (.int b) st Q) (Q (.int (Builtin.bitAnd a b)) st) := ⟨id⟩
instance : Red (orK (.int a) (.int b) st Q) (Q (.int (Builtin.bitOr a b)) st) := ⟨id⟩
instance : Red (xorK (.int a) (.int b) st Q) (Q (.int (Builtin.bitXor a b)) st) := ⟨id⟩
instance : Red (negK (.int a) st Q) (Q (.int (-a)) st) := ⟨id⟩
instance : Red (invK (.int a) st Q) (Q (.int (Builtin.bitNot a)) st) := ⟨id⟩
instance {r : Bool → Prop} : Red (ltC (.int a) (.int b) st r) (r (decide (a < b))) := ⟨id⟩
instance {r : Bool → Prop} : Red (leC (.int a) (.int b) st r) (r (decide (a ≤ b))) := ⟨id⟩
instance {r : Bool → Prop} : Red (gtC (.int a) (.int b) st r) (r (decide (b < a))) := ⟨id⟩
instance {r : Bool → Prop} : Red (geC (.int a) (.int b) st r) (r (decide (b ≤ a))) := ⟨id⟩
theorem eq_ii {r : Bool → Prop} (h : r (decide (a = b))) : eqC (.int a) (.int b) st r := by
  have e : D.eqb (.int a) (.int b) = decide (a = b) := by
    simp only [D.eqb]
    by_cases e : a = b <;> simp [e]
  refine ⟨by simp [D.okd], by simp [D.okd], ?_⟩
  rw [e]; exact h
theorem eq_ss {r : Bool → Prop} (h : okS u = true ∧ okS v = true ∧ r (decide (u = v))) : eqC (.str u) (.str v) st r := by
  refine ⟨by simpa [D.okd] using h.1, by simpa [D.okd] using h.2.1, ?_⟩
  simpa [D.eqb] using h.2.2
instance {r : Bool → Prop} : Red (eqC (.int a) (.int b) st r) (r (decide (a = b))) := ⟨eq_ii⟩
instance {r : Bool → Prop} : Red (neC (.int a) (.int b) st r) (r (!decide (a = b))) := ⟨fun h => eq_ii (r := fun b => r (!b)) h⟩
instance {r : Bool → Prop} : Red (eqC (.str u) (.str v) st r) (okS u = true ∧ okS v = true ∧ r (decide (u = v))) := ⟨eq_ss⟩
instance {r : Bool → Prop} : Red (neC (.str u) (.str v) st r) (okS u = true ∧ okS v = true ∧ r (!decide (u = v))) := ⟨fun h => eq_ss (r := fun b => r (!b)) h⟩
instance {r : Bool → Prop} : Red (isC x .non st r) (r (isNon x)) := ⟨fun h => by cases x <;> exact h⟩
instance {r : Bool → Prop} : Red (isntC x .non st r) (r (!isNon x)) := ⟨fun h => by cases x <;> exact h⟩
instance {r : Bool → Prop} : Red (truK (.bl p) st r) (r p) := ⟨id⟩
instance {r : Bool → Prop} : Red (truK (.int a) st r) (r (a != 0)) := ⟨id⟩
instance {r : Bool → Prop} : Red (truK .non st r) (r false) := ⟨id⟩
instance {r : Bool → Prop} : Red (truK (.tup xs) st r) (r (!xs.isEmpty)) := ⟨id⟩
instance : Red (ixK (.tup xs) (.int a) st Q) (∃ d, atD xs a = some d ∧ Q d st) := ⟨id⟩
instance : Red (slK (.tup xs) lo hi st Q) (Q (.tup (cutD xs lo hi)) st) := ⟨id⟩
instance : Red (intB [.int a] st Q) (Q (.int a) st) := ⟨id⟩
instance : Red (intB [.bl p] st Q) (Q (.int (b2i p)) st) := ⟨id⟩
instance : Red (absB [.int a] st Q) (Q (.int (if a < 0 then -a else a)) st) := ⟨id⟩
instance : Red (lenB [.tup xs] st Q) (Q (.int xs.length) st) := ⟨id⟩
instance : Red (min2B [.int a, .int b] st Q) (Q (.int (if b < a then b else a)) st) := ⟨id⟩
instance : Red (max2B [.int a, .int b] st Q) (Q (.int (if b > a then b else a)) st) := ⟨id⟩
instance : Red (listB [.tup xs] st Q) (Q (.ref st.length) (st ++ [.lst xs])) := ⟨id⟩
instance : Red (tupleB [.tup xs] st Q) (Q (.tup xs) st) := ⟨id⟩
instance {r : Bool → Prop} : Red (isTy (.int a) st t r) (r (decide (t = .int))) := ⟨id⟩
instance {r : Bool → Prop} : Red (isTy (.bl p) st t r) (r (decide (t = .bool) || decide (t = .int))) := ⟨id⟩
instance {r : Bool → Prop} : Red (isTy (.tup xs) st t r) (r (decide (t = .tuple))) := ⟨id⟩
instance {r : Bool → Prop} : Red (isTy .non st t r) (r false) := ⟨id⟩
instance {P : Int → Prop} : Red (∃ i, D.int a = D.int i ∧ P i) (P a) := ⟨fun h => ⟨a, rfl, h⟩⟩
instance {P : Int → Int → Prop} : Red (∃ i j, D.int a = D.int i ∧ D.int b = D.int j ∧ P i j) (P a b) := ⟨fun h => ⟨a, b, rfl, rfl, h⟩⟩
-- known ways
instance {A B : Prop} : Red ((true = true → A) ∧ (true = false → B)) A := ⟨fun h => ⟨fun _ => h, fun e => nomatch e⟩⟩
instance {A B : Prop} : Red ((false = true → A) ∧ (false = false → B)) B := ⟨fun h => ⟨fun e => (nomatch e), fun _ => h⟩⟩
end
end

/-! lemmas for what is open -/
theorem way {b : Bool} {A B : Prop} (h1 : b = true → A) (h2 : b = false → B) : (b = true → A) ∧ (b = false → B) := ⟨h1, h2⟩
theorem wayT {b : Bool} {A B : Prop} (h : b = true) (h1 : A) : (b = true → A) ∧ (b = false → B) := ⟨fun _ => h1, fun e => by rw [h] at e; cases e⟩
theorem wayF {b : Bool} {A B : Prop} (h : b = false) (h1 : B) : (b = true → A) ∧ (b = false → B) := ⟨fun e => (by rw [h] at e; cases e), fun _ => h1⟩
/-- where ways meet: J holds there -/
theorem seq_cut {S S' : TS} {D0 : Ends} {σ : Env} {st : Store} (J : Env → Store → Prop) (h : ∀ N : Env → Store → Prop, (∀ σ st, J σ st → N σ st) → S { D0 with nx := N } σ st) (hJ : ∀ σ st, J σ st → S' D0 σ st) : sSeq S S' D0 σ st := h _ fun σ st j => ⟨hJ σ st j⟩
class StartE (n : Nat) (ds : List D) (σ : outParam Env) : Prop where
  eq : start n ds = σ
instance : StartE 0 [] [] := ⟨rfl⟩
instance [h : StartE n [] σ] : StartE (n + 1) [] (none :: σ) := ⟨by rw [← h.eq]; unfold start; simp [List.replicate_succ]⟩
instance [h : StartE n ds σ] : StartE (n + 1) (d :: ds) (some d :: σ) := ⟨by rw [← h.eq]; unfold start; simp⟩
/-- a call of a def of the program -/
theorem call_intro {prog : String → Option Def} {k : Nat} {f : String} {ds : List D} {st : Store} {Q : K} {ps ns : Nat} {body : Cl → TS} {σ : Env} (h : prog f = some ⟨ps, ns, body⟩) (hl : ds.length = ps) [hσ : StartE ns ds σ] (hb : body (callN prog k) { nx := fun _ st' => Q .non st', rt := Q } σ st) : callN prog (k + 1) f ds st Q :=
  ⟨_, h, hl, by rw [hσ.eq]; exact hb⟩

/-! ### loops -/
/-- a for by an invariant over the items gone through; N: what the body is to reach -/
theorem for_inv {gd : Store → Prop} {g : TG} {tb : TS} {D0 : Ends} (Pv : List D → Env → Store → Prop) {items : List D} 
    (hs : ∀ pre x post σ st, items = pre ++ x :: post → Pv pre σ st → ∀ N : Env → Store → Prop, (∀ σ st, Pv (pre ++ [x]) σ st → N σ st) → gd st ∧ g x σ st fun σ2 st2 => tb { D0 with nx := N, ct := N, bk := D0.nx } σ2 st2)
    (hd : ∀ σ st, Pv items σ st → gd st ∧ D0.nx σ st) : ∀ (todo pre : List D) {σ : Env} {st : Store}, items = pre ++ todo → Pv pre σ st → forLoop gd g tb D0 todo σ st
  | [], pre, σ, st, e, h => by
    rw [List.append_nil] at e
    subst e
    exact hd σ st h
  | x :: post, pre, σ, st, e, h => hs pre x post σ st e h _ fun σ st h' => for_inv Pv hs hd post (pre ++ [x]) (by rw [e]; simp) h'
theorem for_by {gd : Store → Prop} {g : TG} {tb : TS} {D0 : Ends} {items : List D} {σ : Env} {st : Store} (Pv : List D → Env → Store → Prop) (h0 : Pv [] σ st)
    (hs : ∀ pre x post σ st, items = pre ++ x :: post → Pv pre σ st → ∀ N : Env → Store → Prop, (∀ σ st, Pv (pre ++ [x]) σ st → N σ st) → gd st ∧ g x σ st fun σ2 st2 => tb { D0 with nx := N, ct := N, bk := D0.nx } σ2 st2)
    (hd : ∀ σ st, Pv items σ st → gd st ∧ D0.nx σ st) : forLoop gd g tb D0 items σ st := for_inv Pv hs hd items [] rfl h0
/-- over range(n) -/
theorem for_rng {gd : Store → Prop} {g : TG} {tb : TS} {D0 : Ends} {lo : Int} {n : Nat} {σ : Env} {st : Store} (Pv : Nat → Env → Store → Prop) (h0 : Pv 0 σ st)
    (hs : ∀ k σ st, k < n → Pv k σ st → ∀ N : Env → Store → Prop, (∀ σ st, Pv (k + 1) σ st → N σ st) → gd st ∧ g (.int (lo + k)) σ st fun σ2 st2 => tb { D0 with nx := N, ct := N, bk := D0.nx } σ2 st2)
    (hd : ∀ σ st, Pv n σ st → gd st ∧ D0.nx σ st) : forLoop gd g tb D0 (rng lo n) σ st := by
  refine for_by (fun pre σ st => Pv pre.length σ st) h0 (fun pre x post σ st e h N hN => ?_) (fun σ st h => hd σ st (by simpa [rng] using h))
  have hl : pre.length < n := by
    have := congrArg List.length e
    simp [rng] at this
    omega
  have hx : x = .int (lo + pre.length) := by
    have h2 : (rng lo n)[pre.length]? = some x := by rw [e]; simp
    unfold rng at h2
    rw [List.getElem?_map, List.getElem?_range hl] at h2
    simpa using h2.symm
  subst hx
  exact hs pre.length σ st hl h N fun σ st h' => hN σ st (by simpa using h')
/-- a comprehension by an invariant; N: behind the element, M: where a test leaves it out -/
theorem lc_inv {gd : Store → Prop} {g : TG} {tt : TT} {te : TE} {ρ : Env} {n : Nat} {Q : K} (Pv : List D → List D → Store → Prop) {items : List D}
    (hs : ∀ pre x post acc st, items = pre ++ x :: post → Pv pre acc st → ∀ (N : D → Store → Prop) (M : Store → Prop), (∀ y st', rdL st' n acc → acc.length < szl → Pv (pre ++ [x]) (acc ++ [y]) (st'.set n (.lst (acc ++ [y]))) → N y st') → (∀ st', rdL st' n acc → Pv (pre ++ [x]) acc st' → M st') →
      gd st ∧ g x ρ st fun ρ2 st2 => tt ρ2 st2 fun b st3 => (b = true → te ρ2 st3 N) ∧ (b = false → M st3))
    (hd : ∀ acc st, Pv items acc st → gd st ∧ rdL st n acc ∧ Q (.ref n) st) : ∀ (todo pre acc : List D) {st : Store}, items = pre ++ todo → Pv pre acc st → lcLoop gd g tt te ρ n Q todo acc st
  | [], pre, acc, st, e, h => by
    rw [List.append_nil] at e
    subst e
    exact hd acc st h
  | x :: post, pre, acc, st, e, h => hs pre x post acc st e h _ _ (fun y st' h1 h2 h3 => ⟨h1, h2, lc_inv Pv hs hd post (pre ++ [x]) (acc ++ [y]) (by rw [e]; simp) h3⟩) fun st' h1 h2 => ⟨h1, lc_inv Pv hs hd post (pre ++ [x]) acc (by rw [e]; simp) h2⟩
theorem lc_by {gd : Store → Prop} {g : TG} {tt : TT} {te : TE} {ρ : Env} {n : Nat} {Q : K} {items : List D} {st : Store} (Pv : List D → List D → Store → Prop) (h0 : Pv [] [] st)
    (hs : ∀ pre x post acc st, items = pre ++ x :: post → Pv pre acc st → ∀ (N : D → Store → Prop) (M : Store → Prop), (∀ y st', rdL st' n acc → acc.length < szl → Pv (pre ++ [x]) (acc ++ [y]) (st'.set n (.lst (acc ++ [y]))) → N y st') → (∀ st', rdL st' n acc → Pv (pre ++ [x]) acc st' → M st') →
      gd st ∧ g x ρ st fun ρ2 st2 => tt ρ2 st2 fun b st3 => (b = true → te ρ2 st3 N) ∧ (b = false → M st3))
    (hd : ∀ acc st, Pv items acc st → gd st ∧ rdL st n acc ∧ Q (.ref n) st) : lcLoop gd g tt te ρ n Q items [] st := lc_inv Pv hs hd items [] [] rfl h0
theorem set_app {α : Type} (xs : List α) (a b : α) : (xs ++ [a]).set xs.length b = xs ++ [b] := by
  rw [List.set_append_right _ _ (Nat.le_refl _)]; simp
/-- the element reads alone: the new list is the map -/
theorem lc_map {α : Type} {gd : Store → Prop} {g : TG} {te : TE} {ρ : Env} {st : Store} {Q : K} (xs : List α) (f h : α → D) {items : List D} (hi : items = xs.map f) (hl : xs.length ≤ szl) (hg : ∀ acc, gd (st ++ [.lst acc]))
    (hs : ∀ x, x ∈ xs → ∀ (acc : List D) (N : D → Store → Prop), N (h x) (st ++ [.lst acc]) → g (f x) ρ (st ++ [.lst acc]) fun ρ2 st2 => te ρ2 st2 N)
    (hd : Q (.ref st.length) (st ++ [.lst (xs.map h)])) : lcLoop gd g tYes te ρ st.length Q items [] (st ++ [.lst []]) := by
  subst hi
  refine lc_by (fun pre acc st' => acc = (xs.take pre.length).map h ∧ st' = st ++ [.lst acc]) ⟨rfl, rfl⟩ (fun pre x post acc st' e ⟨h1, h2⟩ N M hN hM => ?_) (fun acc st' ⟨h1, h2⟩ => ?_)
  · subst h1; subst h2
    refine ⟨hg _, ?_⟩
    have hlen : pre.length < xs.length := by
      have := congrArg List.length e
      simp at this; omega
    have hx : xs[pre.length] ∈ xs := List.getElem_mem hlen
    have hfx : x = f xs[pre.length] := by
      have h2 : (xs.map f)[pre.length]? = some x := by rw [e]; simp
      rw [List.getElem?_map, List.getElem?_eq_getElem hlen] at h2
      simpa using h2.symm
    subst hfx
    have e1 : (fun (ρ2 : Env) (st2 : Store) => tYes ρ2 st2 fun b st3 => (b = true → te ρ2 st3 N) ∧ (b = false → M st3)) = fun ρ2 st2 => te ρ2 st2 N := by
      funext ρ2 st2
      exact propext ⟨fun q => q.1 rfl, fun q => ⟨fun _ => q, fun e => nomatch e⟩⟩
    rw [e1]
    refine hs _ hx _ N (hN _ _ (by unfold rdL; simp) (by simp; omega) ⟨?_, ?_⟩)
    · rw [List.length_append]
      show _ = List.map h (List.take (pre.length + 1) xs)
      rw [List.take_add_one, List.map_append, List.getElem?_eq_getElem hlen]
      rfl
    · rw [set_app]
  · subst h1; subst h2
    have e2 : List.take (List.map f xs).length xs = xs := by simp
    rw [e2] at *
    exact ⟨hg _, by unfold rdL; simp, hd⟩
theorem map_id_int (xs : List Int) : xs.map D.int = xs.map D.int := rfl
end Pd
end PartPdTac

section PartPdMore
set_option Elab.async false
set_option linter.all false
set_option maxRecDepth 100000
/-! Pd: more readings: texts split, range as a list or a tuple, sorted. Own work. -/
namespace Pd
open PySem
def splitM : KM
  | .str a, [.str b], st, Q => (b.length == 0) = false ∧ a.length + 2 ≤ szl ∧ Q (.ref st.length) (st ++ [.lst ((PySem.Txt.split a b).map D.str)])
  | _, _, _, _ => False
/-- range(..) as an argument -/
abbrev TR := Env → Store → (Int → Int → Store → Prop) → Prop
def rg1 (t : TE) : TR := fun σ st Q => t σ st fun x st1 => ∃ j, x = .int j ∧ Q 0 j st1
def rg2 (t u : TE) : TR := fun σ st Q => t σ st fun x st1 => u σ st1 fun y st2 => ∃ i j, x = .int i ∧ y = .int j ∧ Q i j st2
def rgOk (a b : Int) : Prop := -(2 ^ 62) ≤ a ∧ a < 2 ^ 62 ∧ -(2 ^ 62) ≤ b ∧ b < 2 ^ 62 ∧ (b - a).toNat ≤ 2 ^ 24
def dLR (r : TR) : TE := fun σ st Q => r σ st fun a b st1 => rgOk a b ∧ Q (.ref st1.length) (st1 ++ [.lst (rng a (b - a).toNat)])
def dTR (r : TR) : TE := fun σ st Q => r σ st fun a b st1 => rgOk a b ∧ Q (.tup (rng a (b - a).toNat)) st1
/-- sorted: of whole numbers -/
def sortedB : KB
  | [.ref n], st, Q => ∃ ns : List Int, rdA st n (ns.map D.int) ∧ ∀ ns' : List Int, ns'.Perm ns → ns'.Pairwise (· ≤ ·) → Q (.ref st.length) (st ++ [.lst (ns'.map D.int)])
  | _, _, _ => False
/-- a call of a def with n parameters and one that takes what is left over -/
def dCallS (c : Cl) (f : String) (n : Nat) (t : TA) : TE := fun σ st Q => t σ st fun xs st1 => n ≤ xs.length ∧ (xs.drop n).length ≤ szl ∧ c f (xs.take n ++ [.tup (xs.drop n)]) st1 Q
section
variable {c : Cl} {fn : String} {nn : Nat} {Ar : TA}
instance {σ : Env} {st : Store} {Q : K} : Red (dCallS c fn nn Ar σ st Q) (Ar σ st fun xs st1 => nn ≤ xs.length ∧ (xs.drop nn).length ≤ szl ∧ c fn (xs.take nn ++ [.tup (xs.drop nn)]) st1 Q) := ⟨id⟩
end
section
variable {σ : Env} {st : Store} {Q : K} {r : TR} {ta tb : TE} {q : Int → Int → Store → Prop} {a b : Int} {u v : Str}
instance : Red (dLR r σ st Q) (r σ st fun a b st1 => rgOk a b ∧ Q (.ref st1.length) (st1 ++ [.lst (rng a (b - a).toNat)])) := ⟨id⟩
instance : Red (dTR r σ st Q) (r σ st fun a b st1 => rgOk a b ∧ Q (.tup (rng a (b - a).toNat)) st1) := ⟨id⟩
instance : Red (rg1 ta σ st q) (ta σ st fun x st1 => ∃ j, x = .int j ∧ q 0 j st1) := ⟨id⟩
instance : Red (rg2 ta tb σ st q) (ta σ st fun x st1 => tb σ st1 fun y st2 => ∃ i j, x = .int i ∧ y = .int j ∧ q i j st2) := ⟨id⟩
instance : Red (splitM (.str u) [.str v] st Q) ((v.length == 0) = false ∧ u.length + 2 ≤ szl ∧ Q (.ref st.length) (st ++ [.lst ((PySem.Txt.split u v).map D.str)])) := ⟨id⟩
instance : Red (tyStr (.str u) st) True := ⟨id⟩
end
end Pd
end PartPdMore

section PartPdSoundG
set_option Elab.async false
set_option linter.all false
set_option maxRecDepth 100000
set_option maxHeartbeats 1000000
/-! Pd over the hand layer: texts split, range as a list or a tuple, sorted. Own work. -/
namespace Pd
open PySem PySem.Spec
section
variable {X : L2.Cx} {K : Kf} {f f' : List Addr} {H H' : Hp} {st st' : Store} {ρ : Env} {σ : L2.St}
theorem RDs.of_strs : ∀ (ss : List Str), RDs K f H (ss.map D.str) (ss.map L2.V.str)
  | [] => by simp [RDs.nil]
  | n :: ns => by
    rw [List.map_cons, List.map_cons, RDs.cons]
    exact ⟨_, _, rfl, by rw [RD.str], RDs.of_strs ns⟩
theorem real_split : RealM K (fun x xs H Q => ∃ a b, x = .str a ∧ xs = [.str b] ∧ (b.length == 0) = false ∧ a.length + 2 ≤ sizeLine ∧ L2.rNewStrs (Txt.split a b) H Q) splitM := fun f st H x xs v vs Q' Q s r1 r2 h l => by
  cases x <;> try (exact h.elim)
  match xs, h with
  | [], h => exact h.elim
  | y :: _ :: _, h => cases y <;> exact (show False from h).elim
  | [y], h =>
    cases y <;> try (exact h.elim)
    rw [RD.str] at r1
    obtain ⟨w, rfl, r3⟩ := r2.inv1
    rw [RD.str] at r3
    subst r1; subst r3
    obtain ⟨h1, h2, h3⟩ := h
    exact ⟨_, _, rfl, rfl, h1, by rw [← szl_eq]; exact h2, fun p hp => l.lst s h3 (RDs.of_strs _) hp⟩
/-! range(..) as an argument -/
def liftR (K : Kf) (t : TR) : L2.St → Hp → (Int → Int → Hp → Prop) → Prop := fun σ H Q => ∃ f ρ st Q', Rel K f ρ st σ H ∧ t ρ st Q' ∧ ∀ (a b : Int) (st' : Store) (f' : List Addr) (H' : Hp), Q' a b st' → Ext K f H f' H' → RelS K f' st' H' → Q a b H'
abbrev PDR (X : L2.Cx) (e : Expr) (t : TR) : Prop := L2.PRg X e (liftR X.K t)
theorem prg_imp {e : Expr} {t t' : L2.St → Hp → (Int → Int → Hp → Prop) → Prop} (h : L2.PRg X e t) (m : ∀ σ H Q, t' σ H Q → t σ H Q) : L2.PRg X e t' := fun pins s σ H Q I q => h pins s σ H Q I (m σ H Q q)
section
variable {a b e : Expr} {ta tb : TE} {tr : TR} {pos : Pos}
theorem pr_1 {p : Pos} (hg : L2.Gl X "range") (hm : X.mg "range" = none) (ha : PD X a ta) (na : starEach [a] X.env = (false, eval a X.env) :: starEach [] X.env := by rfl) : PDR X (.Call (.Name "range" p) [a] [] pos) (rg1 ta) :=
  prg_imp (L2.prg_1 hg hm ha na) fun σ H R ⟨f, ρ, st, R', Re, h, l⟩ => ⟨f, ρ, st, _, Re, h, fun x st1 v f1 H1 q1 e1 s1 r1 => by
    obtain ⟨j, rfl, h1⟩ := q1
    rw [RD.int] at r1
    subst r1
    exact ⟨j, rfl, l _ _ st1 f1 H1 h1 e1 s1⟩⟩
theorem pr_2 {p : Pos} (hg : L2.Gl X "range") (hm : X.mg "range" = none) (ha : PD X a ta) (hb : PD X b tb) (na : starEach [a, b] X.env = (false, eval a X.env) :: starEach [b] X.env := by rfl)
    (nb : starEach [b] X.env = (false, eval b X.env) :: starEach [] X.env := by rfl) (hp : (backTo pos (starEach [b] X.env)).any (·.1) = false := by rfl) : PDR X (.Call (.Name "range" p) [a, b] [] pos) (rg2 ta tb) :=
  prg_imp (L2.prg_2 hg hm ha hb na nb hp) fun σ H R ⟨f, ρ, st, R', Re, h, l⟩ => ⟨f, ρ, st, _, Re, h, fun x st1 v f1 H1 q1 e1 s1 r1 => ⟨f1, ρ, st1, _, Re.later e1 s1, q1, fun y st2 w f2 H2 q2 e2 s2 r2 => by
    obtain ⟨i, j, rfl, rfl, h3⟩ := q2
    have r1' := r1.mono e2
    rw [RD.int] at r1' r2
    subst r1'; subst r2
    exact ⟨i, j, rfl, rfl, l _ _ st2 f2 H2 h3 (e1.trans e2) s2⟩⟩⟩
theorem rng_rgV (a b : Int) : RDs K f H (rng a (b - a).toNat) (L2.rgV a b) := by
  have e1 : rng a (b - a).toNat = ((List.range (b - a).toNat).map fun (k : Nat) => a + (k : Int)).map D.int := by unfold rng; simp
  have e2 : L2.rgV a b = ((List.range (b - a).toNat).map fun (k : Nat) => a + (k : Int)).map L2.V.int := by unfold L2.rgV; simp
  rw [e1, e2]; exact RDs.of_ints _
theorem pd_listRg {p : Pos} (hc : X.calm = true) (hg : L2.Gl X "list") (hm : X.mg "list" = none) (he : PDR X e tr) (na : starEach [e] X.env = (false, eval e X.env) :: starEach [] X.env := by rfl) : PD X (.Call (.Name "list" p) [e] [] pos) (dLR tr) :=
  pe_imp (L2.pe_listRg hc hg hm he na) fun σ H Q ⟨f, ρ, st, Q', R, h, l⟩ => ⟨f, ρ, st, _, R, h, fun a b st1 f1 H1 q1 e1 s1 => ⟨q1.1, fun p hp => (l.later e1).lst s1 q1.2 (rng_rgV a b) hp⟩⟩
theorem pd_tupRg {p : Pos} (hc : X.calm = true) (hg : L2.Gl X "tuple") (hm : X.mg "tuple" = none) (he : PDR X e tr) (na : starEach [e] X.env = (false, eval e X.env) :: starEach [] X.env := by rfl) : PD X (.Call (.Name "tuple" p) [e] [] pos) (dTR tr) :=
  pe_imp (L2.pe_tupRg hc hg hm he na) fun σ H Q ⟨f, ρ, st, Q', R, h, l⟩ => ⟨f, ρ, st, _, R, h, fun a b st1 f1 H1 q1 e1 s1 => ⟨q1.1, fun p hp => (l.later e1).tup s1 q1.2 (rng_rgV a b) hp⟩⟩
end
theorem real_sortedB : RealB K (L2.rSortedI K) sortedB :=
  realB1 (kb1 (fun _ _ h => h) fun x y xs st Q h => by cases x <;> exact h) fun f st H x v Q' Q s r h l => by
    cases x <;> try (exact h.elim)
    rw [RD.ref] at r
    obtain ⟨a, e, rfl⟩ := r
    obtain ⟨ns, h1, h2⟩ := h
    obtain ⟨a', vs, k1, k2, d⟩ := s.rdA h1
    rw [e] at k1; cases k1
    exact ⟨a, ns, rfl, by rw [← d.ints]; exact k2, fun ns' p hp hi hn => l.lst s (h2 ns' hp hi) (RDs.of_ints ns') hn⟩
end
end Pd
end PartPdSoundG

section PartPdSoundH
set_option Elab.async false
set_option linter.all false
set_option maxRecDepth 100000
set_option maxHeartbeats 1000000
/-! Pd over the hand layer: defs whose last parameter takes what is left over. Own work. -/
namespace Pd
open PySem PySem.Spec
open PyProof.Rows (envOfC)
/-- what a def with n parameters and a star one promises -/
def starF (K : Kf) (n : Nat) (c : List D → Store → Pd.K → Prop) : L2.Sp := fun vs H Q E => ∃ ws rest : List L2.V, vs = ws ++ rest ∧ ws.length = n ∧ rest.length ≤ sizeLine ∧ ∀ p, H p = Option.none → liftF K (n + 1) c (ws ++ [L2.V.ref p]) (L2.upd H p (.tup rest)) Q E
structure OwnS (P : Program) (w : World) (K : Kf) (mg : Str → Option Value) (base : Heap) (k : Nat) (n : Nat) (x : Str) (c : List D → Store → Pd.K → Prop) : Prop where
  ex : ∃ fa : Addr, L2.FnR P w K mg base L2.CX0 k fa (starF K n c) ∧ mg x = some (.ref fa) ∧ PySem.W.keepIn K (.ref fa) = true
section
variable {X : L2.Cx} {K : Kf} {f f' : List Addr} {H H' : Hp} {st st' : Store} {a : Expr} {es : List Expr} {pos : Pos}
theorem pd_callS {x : Str} {p : Pos} {k n : Nat} {ts : TA} {cl : Cl} {y : String} (o : OwnS X.prog X.w X.K X.mg X.base k n x (cl y)) (hr : L2.Room k X.A) (hg : L2.Gl X x) (ha : PDA X (a :: es) ts) (hdb : (x == ("__debug__" : Str)) = false := by decide)
    (he : starEach (a :: es) X.env = (false, eval a X.env) :: starEach es X.env := by rfl) (hpl : (backTo pos (starEach es X.env)).any (·.1) = false := by rfl) : PD X (.Call (.Name x p) (a :: es) [] pos) (dCallS cl y n ts) := by
  obtain ⟨fa, F, hm, hk⟩ := o.ex
  have step : L2.PE X (.Call (.Name x p) (a :: es) [] pos) (fun σ H Q => liftA X.K ts σ H fun vs H1 => starF X.K n (cl y) vs H1 Q fun _ _ _ => False) := by
    constructor
    intro pins s σ H Q I h
    refine wpAny_Call_Name_kw (L2.ld_glob I hg hm ?_ hdb)
    have args := ha.run pos pins s σ H _ I h
    exact PySem.W.callWith_K (h₀ := X.base) I.ok.mod.kin hk (wpAny_mono args (fun us s1 ⟨vs, H1, I1, r, q⟩ => ⟨I1.kIn, wpAny_call (L2.run_fnR F hr L2.pass0 I1 r q)⟩) fun _ _ z => z) he hpl
  refine pe_imp step fun σ H Q ⟨f, ρ, st, Q', R, h, l⟩ => ⟨f, ρ, st, _, R, h, fun xs st1 vs f1 H1 ⟨h1, h2, h3⟩ e1 s1 r1 => ?_⟩
  have hvl := r1.length
  refine ⟨vs.take n, vs.drop n, (List.take_append_drop n vs).symm, by rw [List.length_take]; omega, ?_, fun p hp => ?_⟩
  · rw [List.length_drop, hvl, ← szl_eq]; rw [List.length_drop] at h2; exact h2
  · have s2 := s1.lay (o := .tup (vs.drop n)) hp
    obtain ⟨s2, e2⟩ := s2
    refine ⟨by rw [List.length_append, List.length_take]; simp; omega, f1, st1, xs.take n ++ [.tup (xs.drop n)], Q', s2, ?_, h3, (l.later e1).later e2⟩
    refine RDs.append ((r1.take n).mono e2) (RDs.one (RD.tup.mpr ⟨p, vs.drop n, rfl, .of L2.upd_same, (r1.drop n).mono e2⟩))
end
section
variable {P : Program} {w : World} {K : Kf} {mg : Str → Option Value} {base : Heap} {names : List String} {snames : List (String × Nat)}
/-- as Step, with both kinds of own defs -/
structure Step2 (P : Program) (w : World) (K : Kf) (mg : Str → Option Value) (base : Heap) (names : List String) (snames : List (String × Nat)) (x : String) (d : Def) : Prop where
  ex : ∃ (fa : Addr) (fd : FuncData) (ps : List Str), mg x = some (.ref fa) ∧ PySem.W.keepIn K (.ref fa) = true ∧ L2.Binds K fd ps [] ∧ d.ps = ps.length ∧
    ∀ (k : Nat) (c : Cl), (∀ y ∈ names, Own P w K mg base k (Str.ofString y) (c y)) → (∀ q ∈ snames, OwnS P w K mg base k q.2 (Str.ofString q.1) (c q.1)) → L2.FnOk P w K mg base L2.CX0 (k + 1) fa fd ps (liftF K ps.length (d.run c))
structure StepS (P : Program) (w : World) (K : Kf) (mg : Str → Option Value) (base : Heap) (names : List String) (snames : List (String × Nat)) (x : String) (n : Nat) (d : Def) : Prop where
  ex : ∃ fa : Addr, mg x = some (.ref fa) ∧ PySem.W.keepIn K (.ref fa) = true ∧
    ∀ (k : Nat) (c : Cl), (∀ y ∈ names, Own P w K mg base k (Str.ofString y) (c y)) → (∀ q ∈ snames, OwnS P w K mg base k q.2 (Str.ofString q.1) (c q.1)) → L2.FnR P w K mg base L2.CX0 (k + 1) fa (starF K n (d.run c))
theorem fnS_ok {qual x pv : Str} {sm : Stmt} {fa : Addr} {fd : FuncData} {N ps : List Str} {k : Nat} {d : Def} {c : Cl} (F : L2.Fun K x qual sm fa fd) (S : L2.FnScope N (ps ++ [pv]) (L2.defScope sm)) (hn : d.ns = N.length) (hp : d.ps = ps.length + 1)
    (hb : ∀ (kV doc pm : Value) (an : Option Addr) (cdv ct : Value) (us rest : List Value), us.length = ps.length → bindArgs (PySem.W.fnOf x qual (L2.defArgs sm) (L2.defBody sm) (L2.defScope sm) .none kV doc pm an cdv ct) ⟨us ++ rest, []⟩ = (newTuple rest >>= fun t => pure (ps.zip us ++ [(pv, t)])))
    (der : ∀ (cdv : Value) (A : Around) (outer : List PySem.Env) (s : Shared) (H : Hp) (E : L2.XK), L2.Room k (A.deeper (envOfC qual (L2.defScope sm) s.heap.objs.size fa cdv)) →
      PDSs (L2.cxOf L2.CX0 P w K mg base N qual (L2.defScope sm) fa cdv A outer s H E).nox (L2.defBody sm) (d.body c)) : L2.FnR P w K mg base L2.CX0 (k + 1) fa (starF K ps.length (d.run c)) := by
  obtain ⟨oc, od, kV, doc, pm, an, cdv, ct, osl, rfl, look, code⟩ := F.ex
  refine StX.fn_star (sp := liftF K (ps.length + 1) (d.run c)) look code S StX.cxUp_none (hb kV doc pm an cdv ct) fun A outer s H vs Q E hr h => ?_
  refine ⟨_, (der cdv A outer s H E hr).nox, ?_⟩
  obtain ⟨_, f, st, ds, Q', s', r, ⟨hl, h⟩, l⟩ := h
  refine ⟨f, start d.ns ds, st, _, start_rel s' r hn, h, ?_⟩
  exact ⟨fun ρ1 st1 σ1 f1 H1 q e r1 => l .non st1 .non f1 H1 q e r1.toRelS (RD.non.mpr rfl), l, fun _ _ _ _ _ q _ _ => q, fun _ _ _ _ _ q _ _ => q⟩
theorem all_own2 {prog : String → Option Def} (hs : ∀ x ∈ names, ∃ d, prog x = some d ∧ Step2 P w K mg base names snames x d) (hs2 : ∀ q ∈ snames, ∃ d, prog q.1 = some d ∧ StepS P w K mg base names snames q.1 q.2 d) :
    ∀ k : Nat, (∀ x ∈ names, Own P w K mg base k (Str.ofString x) (callN prog k x)) ∧ ∀ q ∈ snames, OwnS P w K mg base k q.2 (Str.ofString q.1) (callN prog k q.1)
  | 0 => by
    refine ⟨fun x hx => ?_, fun q hq => ?_⟩
    · obtain ⟨d, h1, fa, fd, ps, h2, h3, h4, h5, h6⟩ := hs x hx
      exact ⟨fa, fd, ps, fn_zero, h2, h3, h4, fun _ _ _ h => h.elim⟩
    · obtain ⟨d, h1, fa, h2, h3, h4⟩ := hs2 q hq
      refine ⟨fa, fun A outer s H us vs Q E hr e0 r h => ?_, h2, h3⟩
      obtain ⟨ws, rest, _, _, _, h⟩ := h
      obtain ⟨_, _, _, _, _, _, _, z, _⟩ := h s.heap.objs.size (e0.hok.fresh (Nat.le_refl _))
      exact z.elim
  | k + 1 => by
    have ih := all_own2 hs hs2 k
    refine ⟨fun x hx => ?_, fun q hq => ?_⟩
    · obtain ⟨d, h1, fa, fd, ps, h2, h3, h4, h5, h6⟩ := hs x hx
      refine ⟨fa, fd, ps, (h6 k _ ih.1 ih.2).imp fun vs H Q E ⟨g0, f, st, ds, Q', s, r, ⟨d', e', g⟩, l⟩ => ?_, h2, h3, h4, fun ds st Q ⟨d', e', g⟩ => ?_⟩
      · rw [h1] at e'; cases e'
        exact ⟨g0, f, st, ds, Q', s, r, g, l⟩
      · rw [h1] at e'; cases e'
        exact g.1.trans h5
    · obtain ⟨d, h1, fa, h2, h3, h4⟩ := hs2 q hq
      refine ⟨fa, (h4 k _ ih.1 ih.2).imp fun vs H Q E ⟨ws, rest, e1, e2, e3, h⟩ => ⟨ws, rest, e1, e2, e3, fun p hp => ?_⟩, h2, h3⟩
      obtain ⟨g0, f, st, ds, Q', s, r, ⟨d', e', g⟩, l⟩ := h p hp
      rw [h1] at e'; cases e'
      exact ⟨g0, f, st, ds, Q', s, r, g, l⟩
end
end Pd
end PartPdSoundH

section PartPdDict
set_option Elab.async false
set_option linter.all false
set_option maxRecDepth 100000
/-! Pd: dicts of ints and texts. Own work. -/
namespace Pd
open PySem
abbrev Ky := Sum Int Str
def keyD : Ky → D
  | .inl i => .int i
  | .inr s => .str s
theorem keyD_inj : ∀ {a b : Ky}, keyD a = keyD b → a = b
  | .inl _, .inl _, h => by injection h with h; rw [h]
  | .inr _, .inr _, h => by injection h with h; rw [h]
  | .inl _, .inr _, h => nomatch h
  | .inr _, .inl _, h => nomatch h
def valD (kvs : List (Ky × D)) (k : Ky) : Option D := (kvs.find? fun kv => decide (kv.1 = k)).map (·.2)
def putD (kvs : List (Ky × D)) (k : Ky) (v : D) : List (Ky × D) :=
  if (kvs.any fun kv => decide (kv.1 = k)) = true then kvs.map (fun kv => if kv.1 = k then (kv.1, v) else kv) else kvs ++ [(k, v)]
/-- {} -/
def dDic : TE := fun _ st Q => Q (.ref st.length) (st ++ [.dic []])
/-- d[k] -/
def getDK : K2
  | .ref n, y, st, Q => ∃ kvs k d, rdD st n kvs ∧ y = keyD k ∧ valD kvs k = some d ∧ Q d st
  | _, _, _, _ => False
def dGet (to ti : TE) : TE := fun σ st Q => to σ st fun x st1 => ti σ st1 fun y st2 => getDK x y st2 Q
/-- d[k] = v -/
def setDK : D → D → D → Store → (Store → Prop) → Prop
  | .ref n, y, v, st, Q => ∃ kvs k, rdD st n kvs ∧ y = keyD k ∧ kvs.length < szl ∧ Q (st.set n (.dic (putD kvs k v)))
  | _, _, _, _, _ => False
def gSubD (to ti : TE) : TG := fun v σ st Q => to σ st fun o st1 => ti σ st1 fun i st2 => setDK o i v st2 fun st3 => Q σ st3
/-- sorted(d), keys whole numbers -/
def sortedDB : KB
  | [.ref n], st, Q => ∃ (kvs : List (Ky × D)) (ns : List Int), rdD st n kvs ∧ kvs.map (·.1) = ns.map Sum.inl ∧ ∀ ns' : List Int, ns'.Perm ns → ns'.Pairwise (· ≤ ·) → Q (.ref st.length) (st ++ [.lst (ns'.map D.int)])
  | _, _, _ => False
/-- {k: v for ..}: n the new cell -/
def dcLoop (gd : Store → Prop) (g : TG) (tt : TT) (tk tv : TE) (ρ : Env) (n : Nat) (Q : K) : List D → List (Ky × D) → Store → Prop
  | [], acc, st => gd st ∧ rdD st n acc ∧ Q (.ref n) st
  | x :: xs, acc, st => gd st ∧ g x ρ st fun ρ2 st2 => tt ρ2 st2 fun b st3 =>
      (b = true → tk ρ2 st3 fun y st4 => tv ρ2 st4 fun z st5 => ∃ k, y = keyD k ∧ rdD st5 n acc ∧ acc.length < szl ∧ dcLoop gd g tt tk tv ρ n Q xs (putD acc k z) (st5.set n (.dic (putD acc k z)))) ∧ (b = false → rdD st3 n acc ∧ dcLoop gd g tt tk tv ρ n Q xs acc st3)
def dDc (i : TI) (g : TG) (tt : TT) (tk tv : TE) (vs : List Nat) : TE := fun σ st Q => i σ st fun I st1 => dcLoop I.guard g tt tk tv (wipeE σ vs) st1.length Q I.items [] (st1 ++ [.dic []])
section
variable {σ σ' : Env} {st : Store} {Q : K} {to ti tk tv : TE} {d x : D} {g : TG} {tt : TT} {i : TI} {vs : List Nat} {q : Env → Store → Prop}
instance : Red (dDic σ st Q) (Q (.ref st.length) (st ++ [.dic []])) := ⟨id⟩
instance : Red (dGet to ti σ st Q) (to σ st fun x st1 => ti σ st1 fun y st2 => getDK x y st2 Q) := ⟨id⟩
instance : Red (gSubD to ti d σ st q) (to σ st fun o st1 => ti σ st1 fun i st2 => setDK o i d st2 fun st3 => q σ st3) := ⟨id⟩
instance [h : WipeE σ vs σ'] : Red (dDc i g tt tk tv vs σ st Q) (i σ st fun I st1 => dcLoop I.guard g tt tk tv σ' st1.length Q I.items [] (st1 ++ [.dic []])) := ⟨fun p => by unfold dDc; rw [h.eq]; exact p⟩
end
end Pd
end PartPdDict

section PartPdSoundI
set_option Elab.async false
set_option linter.all false
set_option maxRecDepth 100000
set_option maxHeartbeats 1000000
/-! Pd over the hand layer: dicts of ints and texts. Own work. -/
namespace Pd
open PySem PySem.Spec
section
variable {X : L2.Cx} {K : Kf} {f f' : List Addr} {H H' : Hp} {st st' : Store} {ρ : Env} {σ : L2.St}
theorem keyD_V {k : Ky} {v : L2.V} (h : RD K f H (keyD k) v) : v = L2.kV k := by
  cases k with
  | inl i => exact RD.int.mp h
  | inr s => exact RD.str.mp h
theorem vals_at : ∀ {kvs : List (Ky × D)} {ks : List (L2.Key × L2.V)}, ks.map (·.1) = kvs.map (·.1) → RDs K f H (kvs.map (·.2)) (ks.map (·.2)) → ∀ (k : Ky) (d : D), valD kvs k = some d → ∃ v, L2.valV ks k = some v ∧ RD K f H d v
  | [], _, _, _, k, d, h => by simp [valD] at h
  | (k0, d0) :: kvs, [], e, _, _, _, _ => by simp at e
  | (k0, d0) :: kvs, (k1, v1) :: ks, e, r, k, d, h => by
    simp only [List.map_cons, List.cons.injEq] at e
    obtain ⟨e1, e2⟩ := e
    rw [List.map_cons, List.map_cons, RDs.cons] at r
    obtain ⟨v, rr, er, r1, r2⟩ := r
    injection er with er1 er2
    subst er1
    have e1 : k1 = k0 := e1
    subst e1
    by_cases hk : k1 = k
    · refine ⟨v1, L2.valV_pos hk, ?_⟩
      have : valD ((k1, d0) :: kvs) k = some d0 := by simp [valD, List.find?_cons, hk]
      rw [this] at h; cases h
      exact r1
    · have : valD ((k1, d0) :: kvs) k = valD kvs k := by simp [valD, List.find?_cons, hk]
      rw [this] at h
      obtain ⟨w, h1, h2⟩ := vals_at e2 (by rw [er2]; exact r2) k d h
      exact ⟨w, (L2.valV_neg hk).trans h1, h2⟩
theorem put_at {k : Ky} {d : D} {v : L2.V} (rv : RD K f H d v) {kvs : List (Ky × D)} {ks : List (L2.Key × L2.V)} (e : ks.map (·.1) = kvs.map (·.1)) (r : RDs K f H (kvs.map (·.2)) (ks.map (·.2))) :
    (L2.putK ks k v).map (·.1) = (putD kvs k d).map (·.1) ∧ RDs K f H ((putD kvs k d).map (·.2)) ((L2.putK ks k v).map (·.2)) := by
  have hany : ∀ {kvs : List (Ky × D)} {ks : List (L2.Key × L2.V)}, ks.map (·.1) = kvs.map (·.1) → (ks.any fun kv => decide (kv.1 = k)) = (kvs.any fun kv => decide (kv.1 = k)) := by
    intro kvs ks e
    have h1 : ∀ l : List (Ky × D), (l.any fun kv => decide (kv.1 = k)) = (l.map (·.1)).any fun x => decide (x = k) := fun l => by rw [List.any_map]; rfl
    have h2 : ∀ l : List (L2.Key × L2.V), (l.any fun kv => decide (kv.1 = k)) = (l.map (·.1)).any fun x => decide (x = k) := fun l => by rw [List.any_map]; rfl
    rw [h1, h2, e]
  have hmap : ∀ {kvs : List (Ky × D)} {ks : List (L2.Key × L2.V)}, ks.map (·.1) = kvs.map (·.1) → RDs K f H (kvs.map (·.2)) (ks.map (·.2)) →
      (ks.map fun kv => if kv.1 = k then (kv.1, v) else kv).map (·.1) = (kvs.map fun kv => if kv.1 = k then (kv.1, d) else kv).map (·.1) ∧ RDs K f H ((kvs.map fun kv => if kv.1 = k then (kv.1, d) else kv).map (·.2)) ((ks.map fun kv => if kv.1 = k then (kv.1, v) else kv).map (·.2)) := by
    intro kvs
    induction kvs with
    | nil => intro ks e r; cases ks with
      | nil => exact ⟨rfl, r⟩
      | cons _ _ => simp at e
    | cons p kvs ih =>
      intro ks e r
      cases ks with
      | nil => simp at e
      | cons q ks =>
        obtain ⟨k0, d0⟩ := p
        obtain ⟨k1, v1⟩ := q
        simp only [List.map_cons, List.cons.injEq] at e
        obtain ⟨e1, e2⟩ := e
        rw [List.map_cons, List.map_cons, RDs.cons] at r
        obtain ⟨u, rr, er, r1, r2⟩ := r
        injection er with er1 er2
        have e1 : k1 = k0 := e1
        subst e1
        obtain ⟨h1, h2⟩ := ih e2 (by rw [er2]; exact r2)
        by_cases hk : k1 = k
        · simp only [List.map_cons, hk, if_true]
          refine ⟨by rw [h1], ?_⟩
          rw [RDs.cons]; exact ⟨v, _, rfl, rv, h2⟩
        · simp only [List.map_cons, hk, if_false]
          refine ⟨by rw [h1], ?_⟩
          have er1 : v1 = u := er1
          subst er1
          rw [RDs.cons]; exact ⟨v1, _, rfl, r1, h2⟩
  unfold L2.putK putD
  rw [hany e]
  split
  · exact hmap e r
  · refine ⟨by rw [List.map_append, List.map_append, e]; rfl, ?_⟩
    rw [List.map_append, List.map_append]
    exact r.append (RDs.one rv)
theorem RelS.putDic {n : Nat} {a : Addr} {kvs kvs' : List (Ky × D)} {ks ks' : List (L2.Key × L2.V)} (s : RelS K f st H) (hn : f[n]? = some a) (h : Pd.rdD st n kvs) (hH : H a = some (.dK ks)) (e : ks'.map (·.1) = kvs'.map (·.1)) (r : RDs K f H (kvs'.map (·.2)) (ks'.map (·.2))) :
    RelS K f (st.set n (.dic kvs')) (L2.upd H a (.dK ks')) ∧ Ext K f H f (L2.upd H a (.dK ks')) :=
  s.chg (c := .dic kvs) h rfl hn (.inr (.inr ⟨ks, hH⟩)) rfl ⟨ks', L2.upd_same, e, r.mono (Ext.upd0 (.inr (.inr ⟨ks, hH⟩)))⟩
section
variable {o i a b e : Expr} {to ti ta tb te : TE} {pos : Pos}
theorem pd_dic : PD X (.Dict [] [] pos) dDic :=
  pe_imp L2.pe_dnewK fun σ H Q ⟨f, ρ, st, Q', R, h, l⟩ p hp => by
    obtain ⟨s', e⟩ := R.toRelS.new (o := .dK []) (c := .dic []) hp ⟨[], L2.upd_same, rfl, RDs.nil.mpr rfl⟩
    exact l _ _ _ _ _ h e s' (RD.ref.mpr ⟨p, by rw [← R.toRelS.len]; simp, rfl⟩)
theorem pd_get {k : Nat} (hr : L2.Room k X.A) (ho : PD X o to) (hi : PD X i ti) (hs : L2.NoSl i := by intro _ _; rfl) : PD X (.Subscript o i pos) (dGet to ti) :=
  pe_imp (L2.pe_dget (L2.hu_of hr) ho hi hs) fun σ H Q ⟨f, ρ, st, Q', R, h, l⟩ => ⟨f, ρ, st, _, R, h, fun x st1 v f1 H1 q1 e1 s1 r1 => ⟨f1, ρ, st1, _, R.later e1 s1, q1, fun y st2 w f2 H2 q2 e2 s2 r2 => by
    cases x <;> try (exact q2.elim)
    obtain ⟨kvs, k, d, h1, rfl, h3, h4⟩ := q2
    have r1' := r1.mono e2
    rw [RD.ref] at r1'
    obtain ⟨a, ea, rfl⟩ := r1'
    obtain ⟨a', ks, g1, g2, g3, g4⟩ := s2.rdD h1
    rw [ea] at g1; cases g1
    obtain ⟨v, g5, g6⟩ := vals_at g3 g4 k d h3
    obtain rfl := keyD_V r2
    exact ⟨a, v, rfl, by rw [← g5]; exact L2.DGet.k g2, l d st2 v f2 H2 h4 (e1.trans e2) s2 g6⟩⟩⟩
theorem pg_subD {k : Nat} (hr : L2.Room k X.A) (h1 : PD X o to) (h2 : PD X i ti) (ha : ∀ v, assign (.Subscript o i pos) X.env v = (do
      let ov ← holding [v] (eval o X.env)
      let iv ← holding [v, ov] (eval i X.env)
      standAt pos
      holding [v, ov, iv] (setItem ov iv v)
      release [v, ov, iv] []) := by intro _; rfl) : PDG X (.Subscript o i pos) (gSubD to ti) [] :=
  pg_imp (L2.pg_sub h1 h2 (L2.set_dict (L2.hu_of hr)) ha) fun v σ H Q ⟨f, ρ, st, d, Q', R, r, h, l⟩ => ⟨f, ρ, st, _, R, h, fun x st1 u f1 H1 q1 e1 s1 r1 => ⟨f1, ρ, st1, _, R.later e1 s1, q1, fun y st2 w f2 H2 q2 e2 s2 r2 => by
    cases x <;> try (exact q2.elim)
    obtain ⟨kvs, k, h3, rfl, h4, h5⟩ := q2
    have r1' := r1.mono e2
    rw [RD.ref] at r1'
    obtain ⟨a, ea, rfl⟩ := r1'
    obtain ⟨a', ks, g1, g2, g3, g4⟩ := s2.rdD h3
    rw [ea] at g1; cases g1
    obtain ⟨p1, p2⟩ := put_at (k := k) (r.mono (e1.trans e2)) g3 g4
    obtain ⟨s3, e3⟩ := s2.putDic ea h3 g2 p1 p2
    obtain rfl := keyD_V r2
    have hlen : ks.length < sizeLine := by
      have := congrArg List.length g3
      simp at this
      rw [this, ← szl_eq]; exact h4
    exact ⟨a, _, rfl, L2.DPut.k g2 hlen, l ρ _ σ f2 _ h5 ((e1.trans e2).trans e3) (R.later ((e1.trans e2).trans e3) s3) .refl⟩⟩⟩

theorem dc_core {wi : TI} {g : TG} {tt : TT} {tk tv : TE} {vs ws : List Nat} {Q : L2.VK} (hws : ∀ j, j ∈ ws → j ∈ vs) (h : lift K (dDc wi g tt tk tv vs) σ H Q) : L2.tDc (liftI K wi) (liftG K g ws) (liftT K tt) (lift K tk) (lift K tv) vs σ H Q := by
  obtain ⟨f, ρ, st, Q', R, h, l⟩ := h
  refine ⟨f, ρ, st, _, R, h, fun I st1 J f1 H1 q1 e1 s1 rI D hD => ?_⟩
  obtain ⟨s0, e0⟩ := s1.new (o := .dK []) (c := .dic []) hD ⟨[], L2.upd_same, rfl, RDs.nil.mpr rfl⟩
  have hn0 : (f1 ++ [D])[st1.length]? = some D := by rw [← s1.len]; simp
  refine ⟨fun i m H2 => m = I.items.length - i ∧ i ≤ I.items.length ∧ ∃ f2 st2 acc, Ext K (f1 ++ [D]) (L2.upd H1 D (.dK [])) f2 H2 ∧ RelS K f2 st2 H2 ∧ Pd.rdD st2 st1.length acc ∧ dcLoop I.guard g tt tk tv (wipeE ρ vs) st1.length Q' (I.items.drop i) acc st2,
    ⟨_, rfl, Nat.zero_le _, f1 ++ [D], st1 ++ [.dic []], [], .refl, s0, by unfold Pd.rdD; simp, by simpa using q1⟩, ?_⟩
  rintro i m H2 ⟨rfl, hi, f2, st2, acc, e2, s2, hacc, q2⟩
  have eI : Ext K f1 H1 f2 H2 := e0.trans e2
  by_cases hlt : i < I.items.length
  · have hd : I.items.drop i = I.items[i] :: I.items.drop (i + 1) := by rw [List.drop_eq_getElem_cons hlt]
    rw [hd] at q2
    obtain ⟨gd, q2⟩ := q2
    refine .inr ⟨rI.go i f2 st2 H2 eI s2 gd hlt, fun H3 => ∃ f3 st3 acc', Ext K (f1 ++ [D]) (L2.upd H1 D (.dK [])) f3 H3 ∧ RelS K f3 st3 H3 ∧ Pd.rdD st3 st1.length acc' ∧ dcLoop I.guard g tt tk tv (wipeE ρ vs) st1.length Q' (I.items.drop (i + 1)) acc' st3,
      fun H3 q3 => ⟨I.items.length - (i + 1), by omega, rfl, hlt, q3⟩, fun x H3 y => ?_⟩
    obtain ⟨e3, s3, r3⟩ := rI.yld i f2 st2 H2 I.items[i] x H3 eI s2 gd (by simp [hlt]) y
    have R3 : Rel K f2 (wipeE ρ vs) st2 (L2.wipe σ vs) H3 := (Rel.wipe R).later ((e1.trans eI).trans e3) s3
    refine ⟨f2, _, st2, I.items[i], _, R3, r3, q2, fun ρ4 st4 σ4 f4 H4 q4 e4 R4 o4 => ⟨Out.wipe ⟨o4.1, fun j hj => o4.2 j fun z => hj (hws j z)⟩, ?_⟩⟩
    refine ⟨f4, ρ4, st4, _, R4, q4, fun b st5 f5 H5 q5 e5 s5 => ?_⟩
    have e15 := e2.trans (e3.trans (e4.trans e5))
    cases b with
    | false =>
      obtain ⟨h1, h2⟩ := q5.2 rfl
      exact ⟨f5, st5, acc, e15, s5, h1, h2⟩
    | true =>
      refine ⟨f5, ρ4, st5, _, R4.later e5 s5, q5.1 rfl, fun y st6 v f6 H6 q6 e6 s6 r6 => ⟨f6, ρ4, st6, _, R4.later (e5.trans e6) s6, q6, fun z st7 w f7 H7 q7 e7 s7 r7 => ?_⟩⟩
      obtain ⟨k, rfl, h1, h2, h3⟩ := q7
      have e17 := (e15.trans e6).trans e7
      obtain ⟨a', ks, k1, k2, k3, k4⟩ := s7.rdD h1
      rw [e17.at hn0] at k1; cases k1
      obtain ⟨p1, p2⟩ := put_at (k := k) r7 k3 k4
      obtain ⟨s8, e8⟩ := s7.putDic (e17.at hn0) h1 k2 p1 p2
      obtain rfl := keyD_V r6
      have hlen : ks.length < sizeLine := by
        have := congrArg List.length k3
        simp at this
        rw [this, ← szl_eq]; exact h2
      refine ⟨ks, k, rfl, k2, hlen, f7, _, putD acc k z, e17.trans e8, s8, ?_, h3⟩
      have hl : st1.length < st7.length := (List.getElem?_eq_some_iff.mp h1).1
      unfold Pd.rdD
      rw [List.getElem?_set_self hl]
  · have e : i = I.items.length := by omega
    subst e
    rw [List.drop_length] at q2
    obtain ⟨gd, h1, h2⟩ := q2
    exact .inl ⟨rI.stop f2 st2 H2 eI s2 gd, l _ st2 _ f2 H2 h2 (e1.trans eI) s2 (RD.ref.mpr ⟨D, e2.at hn0, rfl⟩)⟩
theorem pd_dc {kx vx tg iter : Expr} {ifs : List Expr} {scope : Scope} {own : List (Str × Nat)} {wi : TI} {g : TG} {tt : TT} {tk tv : TE} {ws : List Nat} (hc : X.calm = true) (hN : X.N.Nodup) (hi : PDI X tg iter wi) (ok : L2.BlkOk X.N X.env.scope scope own)
    (hg : ∀ (s : Shared) (H : Hp) (C : Addr) (cl : List (Str × Addr)) (fp : List Addr), PDG (X.blk s H scope (compEnvC scope cl C X.env) fp) tg g ws) (ht : ∀ (s : Shared) (H : Hp) (C : Addr) (cl : List (Str × Addr)) (fp : List Addr), PDTs (X.blk s H scope (compEnvC scope cl C X.env) fp) ifs tt)
    (hk : ∀ (s : Shared) (H : Hp) (C : Addr) (cl : List (Str × Addr)) (fp : List Addr), PD (X.blk s H scope (compEnvC scope cl C X.env) fp) kx tk) (he : ∀ (s : Shared) (H : Hp) (C : Addr) (cl : List (Str × Addr)) (fp : List Addr), PD (X.blk s H scope (compEnvC scope cl C X.env) fp) vx tv)
    (hws : ∀ j, j ∈ ws → j ∈ own.map (·.2)) (hs : ∀ x, foldedSetIterable iter X.env x = pure x := by intro _; rfl) :
    PD X (.DictComp kx vx [⟨tg, iter, ifs, 0⟩] scope pos) (dDc wi g tt tk tv (own.map (·.2))) :=
  pe_imp (L2.pe_dc hc hN hi ok hg ht hk he hs) fun σ H Q h => dc_core hws h
end
end
section
open PySem.W PyProof.Rows
/-- the int that a key is -/
theorem int_key {i : Int} {v : Value} (h : L2.keyIs (.inl i) v = true) : ∃ t, v = .int i t := by
  rcases L2.keyIs_shape h with ⟨j, t, e1, e2⟩ | ⟨x, t, e1, _⟩
  · cases e1; exact ⟨t, e2⟩
  · cases e1
theorem ints_keys : ∀ {vs : List Value} {ns : List Int}, vs.length = ns.length → (∀ (j : Nat) (v : Value) (i : Int), vs[j]? = some v → ns[j]? = some i → ∃ t, v = .int i t) → IntsAre vs ns
  | [], [], _, _ => .nil
  | [], _ :: _, h, _ => by simp at h
  | _ :: _, [], h, _ => by simp at h
  | v :: vs, i :: ns, h, g => by
    obtain ⟨t, rfl⟩ := g 0 v i rfl rfl
    exact .cons i t (ints_keys (by simpa using h) fun j v i h1 h2 => g (j + 1) v i (by simpa using h1) (by simpa using h2))
theorem kv_keys {ks : List (L2.Key × L2.V)} {xs : List (L2.Key × Value)} (h : L2.KV ks xs) : xs.map (·.1) = ks.map (·.1) := by
  induction h with
  | nil => rfl
  | cons p _ ih => rw [List.map_cons, List.map_cons, ih, p.1]
def rSortedDK : List L2.V → Hp → L2.VK → Prop := fun vs H Q => ∃ (a : Addr) (ks : List (L2.Key × L2.V)) (ns : List Int), vs = [L2.V.ref a] ∧ H a = some (.dK ks) ∧ ks.map (·.1) = ns.map Sum.inl ∧
  ∀ (ns' : List Int) (p : Addr), ns'.Perm ns → ns'.Pairwise (· ≤ ·) → H p = none → Q (.ref p) (L2.upd H p (.lst (ns'.map L2.V.int)))
theorem cr_sortedDK {X : L2.Cx} (hc : X.calm = true) : L2.CallR X (.builtin "sorted") rSortedDK := by
  intro pins s σ H vs us Q I r h
  obtain ⟨a, ks, ns, rfl, ha, hk, q⟩ := h
  have held := I.ok.hd hc
  rw [L2.Vals.ref1 r]
  obtain ⟨size, other, xs, rel, dict⟩ := L2.dk_rd I.hok (.inl ha)
  obtain ⟨ep, there⟩ := dict.dictAt
  have keys := (kv_keys rel).trans hk
  have many : xs.length = ns.length := by simpa using congrArg List.length keys
  have few : xs.length ≤ sizeLine := by
    have := congrArg List.length (kv_keys rel)
    simp at this
    omega
  have source := kdl_dict (prog := X.prog) (w := X.w) (knd := L2.mixKind X.prog X.w) (d := a) (kvs := xs) (ep := ep) other
  refine Calls.call_function_entry kind_sorted plain_sorted entry_sorted (args_sorted1 _) ?_
  unfold Builtin.«sorted»
  refine wpAny_bind (m := checkCount "sorted" 1 1 _) (wpAny_pure (wpAny_bind (kdu_collect (A := X.A.in1) source held there few fun h1 t1 acc old items => ?_)))
  have long : acc.toList.length = xs.length := by rw [Array.length_toList]; exact items.1
  have nums : IntsAre acc.toList ns := ints_keys (by rw [long, many]) fun j v i hv hi => by
    obtain ⟨k, x, hx, is⟩ := items.2 j v (by rw [← Array.getElem?_toList]; exact hv)
    have e : (xs.map (·.1))[j]? = some k := by rw [List.getElem?_map, hx]; rfl
    rw [keys, List.getElem?_map, hi] at e
    cases e
    exact int_key is
  refine wpAny_bind (wpAny_newList ?_ (by rw [long]; exact few))
  have made : (h1.push (seqObj "list" acc.toList.toArray 0)).get? h1.objs.size = some (seqObj "list" acc.toList.toArray 0) := Heap.get?_push_size _ rfl
  have sort := SrtO.list_sort_ord (prog := X.prog) (w := X.w) (A := X.A.in1.in1) (s := { s with heap := h1.push (seqObj "list" acc.toList.toArray 0), toks := t1 }) (E := X.xe) (vs := acc.toList)
    (R := fun fin s' => ∃ out : List Value, fin = .done (.ret .none) ∧ SrtO.Srtd SrtO.ltIv out ∧ SrtO.Stb SrtO.ltIv out acc.toList ∧ s' = { s with heap := sortedHeap (h1.push (seqObj "list" acc.toList.toArray 0)) h1.objs.size acc.toList out.toArray, toks := t1 })
    SrtO.swo_int made (by rw [long]; exact few) (fun two => SrtO.ints_sortable nums two) fun out g1 g2 => ⟨out, rfl, g1, g2, rfl⟩
  refine wpAny_bind (wpAny_holding (wpAny_call_entry slot_list_sort ⟨_, made, rfl⟩ entry_list_sort (wpAny_mono sort (fun fin s' ⟨out, e1, g1, g2, e2⟩ => ?_) fun _ _ z => z) (args_list_sort _)))
  subst e1; subst e2
  refine ⟨_, rfl, wpAny_pure ⟨_, rfl, ?_⟩⟩
  obtain ⟨k1, k2, k3⟩ := SrtO.ints_out nums g1 g2
  obtain ⟨ep', at'⟩ := sortedHeap_at (vs := acc.toList) (out := out.toArray) made
  have I1 : L2.Inv X pins σ H { s with heap := h1, toks := t1 } := I.kept (t' := t1) old
  have small : ((out.map SrtO.iv).map L2.V.int).length ≤ sizeLine := by
    rw [List.length_map, k2.length_eq, ← many]; exact few
  refine ⟨.ref h1.objs.size, L2.upd H h1.objs.size (.lst ((out.map SrtO.iv).map L2.V.int)), I1.laid (t' := t1) (fun b u z1 => ?_) (Nat.le_refl _) ⟨small, out, ep', L2.vals_of_ints k1, at'⟩, rfl, q _ _ k2 k3 (I1.hok.fresh (Nat.le_refl _))⟩
  have z2 := Heap.lt_size z1
  rw [sortedHeap_old (Nat.ne_of_lt z2) (by rw [size_push']; exact Nat.lt_succ_of_lt z2)]
  exact Heap.get?_push_of_some _ z1
theorem real_sortedDB {K : Kf} : RealB K rSortedDK sortedDB :=
  realB1 (kb1 (fun _ _ h => h) fun x y xs st Q h => by cases x <;> exact h) fun f st H x v Q' Q s r h l => by
    cases x <;> try (exact h.elim)
    rw [RD.ref] at r
    obtain ⟨a, e, rfl⟩ := r
    obtain ⟨kvs, ns, h1, h2, h3⟩ := h
    obtain ⟨a', ks, k1, k2, k3, k4⟩ := s.rdD h1
    rw [e] at k1; cases k1
    exact ⟨a, ks, ns, rfl, k2, k3.trans h2, fun ns' p hp hi hn => l.lst s (h3 ns' hp hi) (RDs.of_ints ns') hn⟩
end
section
variable {X : L2.Cx} {K : Kf} {pos : Pos}
open L2 in
/-- y = {k: v for ..}: the name is written within the comprehension's frame -/
theorem asg_dc {i : Nat} {y : Str} {py line : Pos} {kx vx tg iter : Expr} {ifs : List Expr} {scope : Scope} {own : List (Str × Nat)} {wi : L2.TI} {g : L2.TG} {tt : L2.TT} {tk tv : L2.TE} (calm : X.calm = true) (nd : X.N.Nodup) (slot : X.N[i]? = some y) (local' : X.env.scope.names.lookup y = some .local)
    (sw : swapsWith (.DictComp kx vx [⟨tg, iter, ifs, 0⟩] scope pos) (some (.Name y py)) line.line X.env = pure true) (hi : L2.PI X tg iter wi) (ok : L2.BlkOk X.N X.env.scope scope own)
    (hg : ∀ (s : Shared) (H : Hp) (C : Addr) (cl : List (Str × Addr)) (fp : List Addr), L2.PG (X.blk s H scope (compEnvC scope cl C X.env) fp) tg g)
    (ht : ∀ (s : Shared) (H : Hp) (C : Addr) (cl : List (Str × Addr)) (fp : List Addr), L2.PTs (X.blk s H scope (compEnvC scope cl C X.env) fp) ifs tt)
    (hk : ∀ (s : Shared) (H : Hp) (C : Addr) (cl : List (Str × Addr)) (fp : List Addr), L2.PE (X.blk s H scope (compEnvC scope cl C X.env) fp) kx tk)
    (hv : ∀ (s : Shared) (H : Hp) (C : Addr) (cl : List (Str × Addr)) (fp : List Addr), L2.PE (X.blk s H scope (compEnvC scope cl C X.env) fp) vx tv) (fold : ∀ x, foldedSetIterable iter X.env x = pure x := by intro _; rfl) :
    L2.PS X (.Assign [.Name y py] (.DictComp kx vx [⟨tg, iter, ifs, 0⟩] scope pos) line) (fun D σ H => L2.tDc wi g tt tk tv (own.map (·.2)) σ H fun x H1 => L2.gName i x σ H1 D.nx) := by
  constructor
  intro pins s σ H D I want
  rw [exec_Assign_Name_used _ _ _ _ sw]
  have made := L2.dc_core (pos := pos) (use := some (assign (.Name y py) X.env)) (pos' := firstIterPos [⟨tg, iter, ifs, 0⟩] pos) (Qf := fun _ s' => L2.SP X pins D .next s') calm nd I hi ok hg ht hk hv fold want fun L C s1 m H1 I1 at' ns ⟨fr0, fr1, fr2, fr3, fr4, fr5⟩ => by
    show wpAny _ _ (assign (.Name y py) X.env (.ref L)) _ _ _
    refine wpAny_assign_Name (L2.store_ok2 (v := L2.V.ref L) I1 nd slot (.inl local') rfl (fun s2 I2 ⟨b, same, where'⟩ => ?_) (.inr local'))
    have apart : C ≠ b := where'.elim (fun z => by rw [z]; exact fr1) fun z e => fr4 y b z e.symm
    exact ⟨m, ns.sameBut same apart, fun h3 sb3 => ⟨_, H1, I2.turned (t' := s2.toks) (fun c o hc z => (sb3.2 c hc).trans z) fr0 fr1 fr3 fr4 fr5, at'⟩⟩
  refine wpAny_bind (wpAny_standAt (wpAny_bind ?_))
  show wpAny _ X.A (comprehension (.DictComp kx vx [⟨tg, iter, ifs, 0⟩] scope pos) scope X.env (firstIterPos [⟨tg, iter, ifs, 0⟩] pos) newDict false (eval iter X.env) (some (assign (.Name y py) X.env)) >>= fun _ => pure ()) _ _ s
  exact wpAny_bind (wpAny_mono made (fun _ s' q => wpAny_pure (wpAny_pure q)) fun _ _ z => z)
theorem swD_true {kx vx : Expr} {gs : List Comprehension} {scope : Scope} {py : Pos} {y : Str} {l : Nat} {env : PySem.Env} (kind : env.scope.kind = .function) (loc : env.scope.names.lookup y = some .local) (at' : (py.line == pos.line) = true)
    (free : (scope.names.any fun (n, k) => n == y && (k == .local || k == .cell)) = false) : swapsWith (.DictComp kx vx gs scope pos) (some (.Name y py)) l env = pure true := by
  have k1 : env.kindOf y = some .local := loc
  have k2 : env.blockKind = .function := by unfold PySem.Env.blockKind; rw [kind]; rfl
  unfold swapsWith
  simp only [k1, k2, free, Expr.pos, at']
  rfl
theorem ps_setDc {j : Nat} {y : Str} {py spos : Pos} {kx vx tg iter : Expr} {ifs : List Expr} {scope : Scope} {own : List (Str × Nat)} {wi : TI} {g : TG} {tt : TT} {tk tv : TE} {ws : List Nat} (hc : X.calm = true) (hN : X.N.Nodup) (hy : X.N[j]? = some y) (hyl : X.env.scope.names.lookup y = some .local)
    (hsw : swapsWith (.DictComp kx vx [⟨tg, iter, ifs, 0⟩] scope pos) (some (.Name y py)) spos.line X.env = pure true) (hi : PDI X tg iter wi) (ok : L2.BlkOk X.N X.env.scope scope own)
    (hg : ∀ (s : Shared) (H : Hp) (C : Addr) (cl : List (Str × Addr)) (fp : List Addr), PDG (X.blk s H scope (compEnvC scope cl C X.env) fp) tg g ws) (ht : ∀ (s : Shared) (H : Hp) (C : Addr) (cl : List (Str × Addr)) (fp : List Addr), PDTs (X.blk s H scope (compEnvC scope cl C X.env) fp) ifs tt)
    (hk : ∀ (s : Shared) (H : Hp) (C : Addr) (cl : List (Str × Addr)) (fp : List Addr), PD (X.blk s H scope (compEnvC scope cl C X.env) fp) kx tk) (he : ∀ (s : Shared) (H : Hp) (C : Addr) (cl : List (Str × Addr)) (fp : List Addr), PD (X.blk s H scope (compEnvC scope cl C X.env) fp) vx tv)
    (hws : ∀ j, j ∈ ws → j ∈ own.map (·.2)) (hs : ∀ x, foldedSetIterable iter X.env x = pure x := by intro _; rfl) :
    PDS X (.Assign [.Name y py] (.DictComp kx vx [⟨tg, iter, ifs, 0⟩] scope pos) spos) (sAsg (dDc wi g tt tk tv (own.map (·.2))) (gName j)) :=
  ps_imp (asg_dc hc hN hy hyl hsw hi ok hg ht hk he hs) fun D σ H ⟨f, ρ, st, D', R, h, l⟩ =>
    dc_core (Q := fun x H1 => L2.gName j x σ H1 D.nx) hws ⟨f, ρ, st, _, R, h, fun x st1 v f1 H1 q e1 s1 r1 => l.nx _ st1 _ f1 H1 q e1 ((R.later e1 s1).put r1)⟩
end
end Pd
end PartPdSoundI

section PartPdMore3
set_option Elab.async false
set_option linter.all false
set_option maxRecDepth 100000
/-! Pd: more readings: list.extend of lists and tuples, list.pop(), list.reverse(), range downwards. Own work. -/
namespace Pd
open PySem
/-- extend by a list or a tuple -/
def extendAM : KM
  | .ref n, [.tup ys], st, Q => ∃ xs, rdL st n xs ∧ xs.length + ys.length ≤ szl ∧ Q .non (st.set n (.lst (xs ++ ys)))
  | x, ys, st, Q => extendM x ys st Q
/-- .pop() -/
def popEM : KM
  | .ref n, [], st, Q => ∃ xs d, rdL st n (xs ++ [d]) ∧ Q d (st.set n (.lst xs))
  | _, _, _, _ => False
def reverseM : KM
  | .ref n, [], st, Q => ∃ xs, rdL st n xs ∧ Q .non (st.set n (.lst xs.reverse))
  | _, _, _, _ => False
/-- a method without arguments -/
def dM0 (ty : D → Store → Prop) (k : KM) (to : TE) : TE := fun σ st Q => to σ st fun o st1 => ty o st1 ∧ k o [] st1 Q
def rngD (hi : Int) (n : Nat) : List D := (List.range n).map fun (k : Nat) => D.int (hi - k)
/-- range(i, j, -1) -/
def iRD (t u : TE) : TI := fun σ st R => t σ st fun x st1 => u σ st1 fun y st2 => ∃ i j, x = .int i ∧ y = .int j ∧ (-(2 ^ 62) ≤ i ∧ i < 2 ^ 62 ∧ -(2 ^ 62) ≤ j ∧ j < 2 ^ 62) ∧ R ⟨rngD i (i - j).toNat, fun _ => True⟩ st2
section
variable {σ : Env} {st : Store} {Q : K} {ta tb to : TE} {ty : D → Store → Prop} {k : KM}
instance : Red (dM0 ty k to σ st Q) (to σ st fun o st1 => ty o st1 ∧ k o [] st1 Q) := ⟨id⟩
instance {R : Iter → Store → Prop} : Red (iRD ta tb σ st R) (ta σ st fun x st1 => tb σ st1 fun y st2 => ∃ i j, x = .int i ∧ y = .int j ∧ (-(2 ^ 62) ≤ i ∧ i < 2 ^ 62 ∧ -(2 ^ 62) ≤ j ∧ j < 2 ^ 62) ∧ R ⟨rngD i (i - j).toNat, fun _ => True⟩ st2) := ⟨id⟩
end
theorem extendT_at {st : Store} {n : Nat} {xs ys : List D} {Q : K} (h : rdL st n xs) (hl : xs.length + ys.length ≤ szl) (q : Q .non (st.set n (.lst (xs ++ ys)))) : extendAM (.ref n) [.tup ys] st Q := ⟨xs, h, hl, q⟩
theorem pop_at {st : Store} {n : Nat} {xs : List D} {d : D} {Q : K} (h : rdL st n (xs ++ [d])) (q : Q d (st.set n (.lst xs))) : popEM (.ref n) [] st Q := ⟨xs, d, h, q⟩
/-- over range(i, j, -1) -/
theorem for_rngD {gd : Store → Prop} {g : TG} {tb : TS} {D0 : Ends} {hi : Int} {n : Nat} {σ : Env} {st : Store} (Pv : Nat → Env → Store → Prop) (h0 : Pv 0 σ st)
    (hs : ∀ k σ st, k < n → Pv k σ st → ∀ N : Env → Store → Prop, (∀ σ st, Pv (k + 1) σ st → N σ st) → gd st ∧ g (.int (hi - k)) σ st fun σ2 st2 => tb { D0 with nx := N, ct := N, bk := D0.nx } σ2 st2)
    (hd : ∀ σ st, Pv n σ st → gd st ∧ D0.nx σ st) : forLoop gd g tb D0 (rngD hi n) σ st := by
  refine for_by (fun pre σ st => Pv pre.length σ st) h0 (fun pre x post σ st e h N hN => ?_) (fun σ st h => hd σ st (by simpa [rngD] using h))
  have hl : pre.length < n := by
    have := congrArg List.length e
    simp [rngD] at this
    omega
  have hx : x = .int (hi - pre.length) := by
    have h2 : (rngD hi n)[pre.length]? = some x := by rw [e]; simp
    unfold rngD at h2
    rw [List.getElem?_map, List.getElem?_range hl] at h2
    simpa using h2.symm
  subst hx
  exact hs pre.length σ st hl h N fun σ st h' => hN σ st (by simpa using h')
end Pd
end PartPdMore3

section PartPdSoundK
set_option Elab.async false
set_option linter.all false
set_option maxRecDepth 100000
set_option maxHeartbeats 1000000
/-! Pd over the hand layer: list.extend, list.pop(), list.reverse(), range downwards. Own work. -/
namespace Pd
open PySem PySem.Spec
section
variable {X : L2.Cx} {K : Kf} {f f' : List Addr} {H H' : Hp} {st st' : Store} {ρ : Env} {σ : L2.St}
def rExtT (K : Kf) : L2.V → List L2.V → Hp → L2.VK → Prop := fun x vs H Q => ∃ l b xs zs, x = .ref l ∧ vs = [.ref b] ∧ H l = some (.lst xs) ∧ L2.SqT K H b zs ∧ xs.length + zs.length ≤ sizeLine ∧ Q .non (L2.upd H l (.lst (xs ++ zs)))
section
open PyProof.Rows L2
theorem list_extend_tup (l : Addr) (items : Array Value) (n : Nat) (b : Addr) (items2 : Array Value) (hs0 : ¬(!items.isEmpty && Builtin.List.listTooLong (items.size + items2.size)) = true) (hs1 : items.size ≤ sizeLine) (hs2 : items.size + items2.size ≤ sizeLine + 1) :
    Meets (Builtin.«list.extend» ⟨[.ref l, .ref b], []⟩) (fun _ R s => s.heap.get? l = some { cls := .type "list", dict := none, data := .seq items n, slots := #[] } ∧ (∃ (od : Option Addr) (os2 : Array (Option Value)) (n2 : Nat), s.heap.get? b = some { cls := .type "tuple", dict := od, data := .seq items2 n2, slots := os2 }) ∧ R (.ok (.ret Value.none)) { s with heap := s.heap.update l (Obj.mapSeq fun x => x ++ items2), toks := s.toks }) :=
  .of_wp fun prog w A R s h => by
    obtain ⟨hp, g, d, tk, os⟩ := s; obtain ⟨hl, ⟨od, os2, n2, hb⟩, h⟩ := h
    have f1 := AutoSeq1.idx_int; have f2 := AutoSeq1.sub_tuple_tuple; have f3 := AutoSeq1.sub_list_list; have f4 := AutoSeq1.sub_tuple_list; have f5 := AutoSeq1.sub_list_tuple
    have hz' : (items ++ items2).size ≤ sizeLine + 1 := by rw [Array.size_append]; exact hs2
    wp_walk using (wpAny_updateSeq hl rfl (hz := hs1) (_hz' := hz')), AutoSeq1.wpAny_loadPart' hl, AutoSeq1.wpAny_loadPart' hb; exact ⟨_, rfl, h⟩
end
theorem mt_extT : L2.MtR X "list.extend" (rExtT X.K) := by
  intro pins s σ H x vs v us Q I rx rv h
  obtain ⟨l, b, xs, zs, rfl, rfl, hH, hB, hz, q⟩ := h
  cases rx
  obtain ⟨u, rfl, ru⟩ := rv.one
  cases ru
  obtain ⟨z, its, n, r, hl, e⟩ := I.lstM hH
  obtain ⟨its2, r2, ⟨o2, e2, c2, n2, d2⟩, z2⟩ := I.tuple hB
  have hl2 := r2.length
  obtain ⟨ocls, odict, odata, oslots⟩ := o2
  simp only at c2 d2
  subst c2; subst d2
  have hsz : its.toArray.size + its2.toArray.size ≤ sizeLine := by rw [List.size_toArray, List.size_toArray]; omega
  have hlong : ¬ (!its.toArray.isEmpty && Builtin.List.listTooLong (its.toArray.size + its2.toArray.size)) = true := by
    rw [L2.notLongL hsz, Bool.and_false]
    exact Bool.false_ne_true
  refine call_meets F.slot_list_extend ⟨_, e, rfl⟩ F.entry_list_extend (F.args_list_extend_2 _ _)
    (list_extend_tup l its.toArray n b its2.toArray hlong (by rw [List.size_toArray]; omega) (by omega)) ⟨e, ⟨odict, oslots, n2, e2⟩, ?_⟩
  refine ⟨.non, _, I.lset (its' := its ++ its2) hH e (by simp) (r.append r2) ?_, rfl, q⟩
  rw [List.length_append]
  omega
theorem real_extendA : RealM K (fun x vs H Q => rExtT K x vs H Q ∨ L2.rExtend x vs H Q) extendAM := fun f st H x xs v vs Q' Q s r1 r2 h l => by
  by_cases ht : ∃ n ys, x = .ref n ∧ xs = [.tup ys]
  · obtain ⟨n, ys, rfl, rfl⟩ := ht
    obtain ⟨zs, h1, h2, h3⟩ := h
    rw [RD.ref] at r1
    obtain ⟨a, e, rfl⟩ := r1
    obtain ⟨w, rfl, r3⟩ := r2.inv1
    rw [RD.tup] at r3
    obtain ⟨b, ws, rfl, j2, j3⟩ := r3
    obtain ⟨a', us, k1, k2, k3⟩ := s.rdL h1
    rw [e] at k1; cases k1
    obtain ⟨s', e'⟩ := s.put e h1 k2 (k3.append j3)
    exact .inl ⟨a, b, us, ws, rfl, rfl, k2, j2, by rw [k3.length, j3.length, ← szl_eq]; exact h2, l _ _ _ f _ h3 e' s' (RD.non.mpr rfl)⟩
  · have h' : extendM x xs st Q' := by
      unfold extendAM at h
      split at h
      · exact absurd ⟨_, _, rfl, rfl⟩ ht
      · exact h
    exact .inr (real_extend f st H x xs v vs Q' Q s r1 r2 h' l)
theorem mt_extendA : L2.MtR X "list.extend" (fun x vs H Q => rExtT X.K x vs H Q ∨ L2.rExtend x vs H Q) := L2.MtR.or mt_extT L2.mt_extend
theorem real_popE : RealM K L2.rPop popEM := fun f st H x xs v vs Q' Q s r1 r2 h l => by
  cases x <;> try (exact h.elim)
  match xs, h with
  | _ :: _, h => exact h.elim
  | [], h =>
    obtain ⟨ys, d, h1, h2⟩ := h
    rw [RD.ref] at r1
    obtain ⟨a, e, rfl⟩ := r1
    rw [RDs.nil] at r2
    subst r2
    obtain ⟨a', us, k1, k2, k3⟩ := s.rdL h1
    rw [e] at k1; cases k1
    have hlen := k3.length
    rw [List.length_append] at hlen
    have hlen : us.length = ys.length + 1 := hlen
    obtain ⟨w, hw, rw'⟩ := k3.get (i := ys.length) (d := d) (by simp)
    have kd : RDs K f H ys us.dropLast := by
      have := k3.take ys.length
      rw [List.take_left] at this
      rw [List.dropLast_eq_take, hlen]
      exact this
    obtain ⟨s', e'⟩ := s.put e h1 k2 kd
    exact ⟨a, us, w, rfl, rfl, k2, by rw [hlen]; exact hw, l _ _ _ f _ h2 e' s' (rw'.mono e')⟩
theorem RDs.reverse : ∀ {ds : List D} {vs : List L2.V}, RDs K f H ds vs → RDs K f H ds.reverse vs.reverse
  | [], _, h => by rw [RDs.nil] at h; subst h; simp [RDs.nil]
  | d :: ds, _, h => by
    rw [RDs.cons] at h
    obtain ⟨v, r, rfl, h2, h3⟩ := h
    rw [List.reverse_cons, List.reverse_cons]
    exact (RDs.reverse h3).append (RDs.one h2)
theorem real_reverse : RealM K L2.rReverse reverseM := fun f st H x xs v vs Q' Q s r1 r2 h l => by
  cases x <;> try (exact h.elim)
  match xs, h with
  | _ :: _, h => exact h.elim
  | [], h =>
    obtain ⟨ys, h1, h2⟩ := h
    rw [RD.ref] at r1
    obtain ⟨a, e, rfl⟩ := r1
    rw [RDs.nil] at r2
    subst r2
    obtain ⟨a', us, k1, k2, k3⟩ := s.rdL h1
    rw [e] at k1; cases k1
    obtain ⟨s', e'⟩ := s.put e h1 k2 k3.reverse
    exact ⟨a, us, rfl, rfl, k2, l _ _ _ f _ h2 e' s' (RD.non.mpr rfl)⟩
section
variable {o : Expr} {to : TE} {pos apos : Pos} {name : Str} {T id : String}
theorem pd_m0 {r : L2.V → List L2.V → Hp → L2.VK → Prop} {k : KM} {ty : D → Store → Prop} (hm : L2.MtR X id r) (hk : RealM X.K r k) (ht : RealTy X.K T ty) (pa : PlainAttrs T) (slot : Slot T name id) (hty : typeOf (.builtin id) = pure (.type "method_descriptor")) (ho : PD X o to)
    (hbase : attributeBase o name X.env (eval o X.env) = eval o X.env := by rfl) (hline : (apos.endLine == pos.line) = true := by rfl) : PD X (.Call (.Attribute o name apos) [] [] pos) (dM0 ty k to) :=
  pe_imp (L2.pe_bm0 pa slot hty hm ho hbase hline) fun σ H Q ⟨f, ρ, st, Q', R, h, l⟩ => ⟨f, ρ, st, _, R, h, fun x st1 v f1 H1 q1 e1 s1 r1 => ⟨ht f1 st1 H1 x v s1 r1 q1.1, hk f1 st1 H1 x [] v [] Q' Q s1 r1 (RDs.nil.mpr rfl) q1.2 (l.later e1)⟩⟩
end
theorem realI_rngD {i : Int} {n : Nat} : RealI K f H ⟨rngD i n, fun _ => True⟩ (L2.Itc i (-1) n) where
  go := fun k f2 st2 H2 e2 s2 g hk => by
    have : k < (rngD i n).length := hk
    unfold rngD at this
    rw [List.length_map, List.length_range] at this
    exact this
  stop := fun f2 st2 H2 e2 s2 g => by
    show n ≤ (rngD i n).length
    unfold rngD
    simp
  yld := fun k f2 st2 H2 d x H3 e2 s2 g hd y => by
    obtain ⟨rfl, rfl⟩ := y
    refine ⟨.refl, s2, ?_⟩
    have hd' : (rngD i n)[k]? = some d := hd
    unfold rngD at hd'
    rw [List.getElem?_map] at hd'
    cases q : (List.range n)[k]? with
    | none => rw [q] at hd'; cases hd'
    | some j =>
      rw [q] at hd'
      obtain ⟨h1, h2⟩ := List.getElem?_eq_some_iff.mp q
      simp at h2
      subst h2
      simp at hd'
      subst hd'
      rw [RD.int]
      congr 1
      omega
theorem pi_rD {tg a b : Expr} {ta tb : TE} {p p1 p2 pos : Pos} {k1 : _} (hg : L2.Gl X "range") (hm : X.mg "range" = none) (h : PD X a ta) (h' : PD X b tb)
    (hs : starEach [a, b, .UnaryOp .USub (.Constant (.int 1) k1 p1) p2] X.env = (false, eval a X.env) :: starEach [b, .UnaryOp .USub (.Constant (.int 1) k1 p1) p2] X.env := by rfl) (hs2 : starEach [b, .UnaryOp .USub (.Constant (.int 1) k1 p1) p2] X.env = (false, eval b X.env) :: starEach [.UnaryOp .USub (.Constant (.int 1) k1 p1) p2] X.env := by rfl)
    (hs3 : starEach [.UnaryOp .USub (.Constant (.int 1) k1 p1) p2] X.env = (false, eval (.UnaryOp .USub (.Constant (.int 1) k1 p1) p2) X.env) :: starEach [] X.env := by rfl) (hpl : (backTo pos (starEach [b, .UnaryOp .USub (.Constant (.int 1) k1 p1) p2] X.env)).any (·.1) = false := by rfl) :
    PDI X tg (.Call (.Name "range" p) [a, b, .UnaryOp .USub (.Constant (.int 1) k1 p1) p2] [] pos) (iRD ta tb) :=
  pi_imp (L2.pi_range3 hg hm (L2.pa_cons h (L2.pa_cons h' (L2.pa_cons (pd_neg pd_int) L2.pa_nil hs3) hs2) hs) hs hpl) fun σ H R ⟨f, ρ, st, R', Re, h, l⟩ => ⟨f, ρ, st, _, Re, h, fun x st1 v f1 H1 q1 e1 s1 r1 => ⟨f1, ρ, st1, _, Re.later e1 s1, q1, fun y st2 w f2 H2 q2 e2 s2 r2 => by
    obtain ⟨i, j, rfl, rfl, ⟨b1, b2, b3, b4⟩, h3⟩ := q2
    have r1' := r1.mono e2
    rw [RD.int] at r1' r2
    subst r1'; subst r2
    refine ⟨f2, ρ, st2, fun z st3 => z = .int (-1) ∧ st3 = st2, Re.later (e1.trans e2) s2, ⟨rfl, rfl⟩, fun z st3 u f3 H3 q3 e3 s3 r3 => ?_⟩
    obtain ⟨rfl, rfl⟩ := q3
    rw [RD.int] at r3
    subst r3
    exact ⟨i, j, -1, _, rfl, L2.RgC.neg b1 b2 b3 b4, l _ _ _ f3 H3 h3 ((e1.trans e2).trans e3) s3 realI_rngD⟩⟩⟩
end
end Pd
end PartPdSoundK

section PartPdMore4
set_option Elab.async false
set_option linter.all false
set_option maxRecDepth 100000
/-! Pd: more readings: *x in a call's arguments, `in` of any pure data. Own work. -/
namespace Pd
open PySem
/-- the items of a list or a tuple, as arguments -/
def starK : D → Store → (List D → Prop) → Prop
  | .tup xs, _, Q => Q xs
  | .ref n, st, Q => ∃ xs, rdA st n xs ∧ Q xs
  | _, _, _ => False
def aStar (te : TE) (r : TA) : TA := fun σ st Q => te σ st fun x st1 => starK x st1 fun xs => r σ st1 fun ys st2 => Q (xs ++ ys) st2
/-- x in a list or a tuple, of any pure data -/
def inDC : KC
  | x, .tup xs, _, Q => D.okd 60 x = true ∧ okds 60 xs = true ∧ Q (xs.any fun y => D.eqb y x)
  | x, .ref n, st, Q => ∃ xs, rdA st n xs ∧ D.okd 60 x = true ∧ okds 60 xs = true ∧ Q (xs.any fun y => D.eqb y x)
  | _, _, _, _ => False
def notinDC : KC := fun x y st Q => inDC x y st fun b => Q (!b)
section
variable {σ : Env} {st : Store} {te : TE} {r : TA} {q : List D → Store → Prop} {x : D} {xs : List D}
instance : Red (aStar te r σ st q) (te σ st fun x st1 => starK x st1 fun xs => r σ st1 fun ys st2 => q (xs ++ ys) st2) := ⟨id⟩
instance {Q : List D → Prop} : Red (starK (.tup xs) st Q) (Q xs) := ⟨id⟩
end
theorem star_at {st : Store} {n : Nat} {xs : List D} {Q : List D → Prop} (h : rdL st n xs) (q : Q xs) : starK (.ref n) st Q := ⟨xs, .inl h, q⟩
end Pd
end PartPdMore4

section PartPdSoundL
set_option Elab.async false
set_option linter.all false
set_option maxRecDepth 100000
set_option maxHeartbeats 1000000
/-! Pd over the hand layer: starred arguments, `in` of any pure data. Own work. -/
namespace Pd
open PySem PySem.Spec
mutual
theorem reads_fun {h : Heap} : ∀ (d d' : PyData) (v : Value) (as as' : List Addr), d.canLay0 = true → Reads h v d as → Reads h v d' as' → d = d'
  | .none, _, _, _, _, _, r, r' => by cases r; cases r'; rfl
  | .bool _, _, _, _, _, _, r, r' => by cases r; cases r'; rfl
  | .int _, _, _, _, _, _, r, r' => by cases r; cases r'; rfl
  | .str _, _, _, _, _, _, r, r' => by cases r; cases r'; rfl
  | .list xs, d', _, _, _, ha, r, r' => by
    cases r with
    | list h1 h2 h3 h4 =>
      cases r' with
      | list k1 k2 k3 k4 =>
        rw [h1] at k1; cases k1
        rw [h3] at k3; cases k3
        rw [readsAll_fun xs _ _ _ _ (by simpa [PyData.canLay0] using ha) h4 k4]
      | tuple k1 k2 k3 k4 =>
        rw [h1] at k1; cases k1
        rw [h2] at k2; exact absurd k2 (by decide)
      | dict k1 k2 k3 k4 k5 =>
        rw [h1] at k1; cases k1
        rw [h2] at k2; exact absurd k2 (by decide)
  | .tuple xs, d', _, _, _, ha, r, r' => by
    cases r with
    | tuple h1 h2 h3 h4 =>
      cases r' with
      | tuple k1 k2 k3 k4 =>
        rw [h1] at k1; cases k1
        rw [h3] at k3; cases k3
        rw [readsAll_fun xs _ _ _ _ (by simpa [PyData.canLay0] using ha) h4 k4]
      | list k1 k2 k3 k4 =>
        rw [h1] at k1; cases k1
        rw [h2] at k2; exact absurd k2 (by decide)
      | dict k1 k2 k3 k4 k5 =>
        rw [h1] at k1; cases k1
        rw [h2] at k2; exact absurd k2 (by decide)
  | .dict _, d', _, _, _, ha, _, _ => absurd ha (by simp [PyData.canLay0])
theorem readsAll_fun {h : Heap} : ∀ (xs ys : List PyData) (vs : List Value) (as as' : List Addr), PyData.canLayAll0 xs = true → ReadsAll h vs xs as → ReadsAll h vs ys as' → xs = ys
  | [], _, _, _, _, _, r, r' => by cases r; cases r'; rfl
  | x :: xs, ys, _, _, _, ha, r, r' => by
    cases r with
    | cons h1 h2 =>
      cases r' with
      | cons k1 k2 =>
        have ha' : x.canLay0 = true ∧ PyData.canLayAll0 xs = true := by simpa [PyData.canLayAll0] using ha
        rw [reads_fun x _ _ _ _ ha'.1 h1 k1, readsAll_fun xs _ _ _ _ ha'.2 h2 k2]
end
/-- x in a list or a tuple, of any data -/
def rInD (K : Kf) (neg : Bool) : L2.R2 := fun x y H Q => ∃ p xs d es, y = .ref p ∧ (L2.SqL K H p xs ∨ L2.SqT K H p xs) ∧ L2.Dp K H x d ∧ L2.DpAll K H xs es ∧ (d.canLay0 = true ∧ d.depth ≤ 60) ∧ PyData.canLayAll0 es = true ∧ Q (.bl (if neg then !es.any (fun e => PyData.eqv e d) else es.any fun e => PyData.eqv e d)) H
theorem canLay_mem : ∀ {es : List PyData}, PyData.canLayAll0 es = true → ∀ e ∈ es, e.canLay0 = true
  | x :: xs, h, e, he => by
    have h' : x.canLay0 = true ∧ PyData.canLayAll0 xs = true := by simpa [PyData.canLayAll0] using h
    rcases List.mem_cons.mp he with he | he
    · rw [he]; exact h'.1
    · exact canLay_mem h'.2 e he
theorem readsAll_mem {h : Heap} : ∀ {vs : List Value} {es : List PyData} {as : List Addr}, ReadsAll h vs es as → (∀ u ∈ vs, ∃ e ∈ es, ∃ bs, Reads h u e bs) ∧ ∀ e ∈ es, ∃ u ∈ vs, ∃ bs, Reads h u e bs
  | [], _, _, r => by cases r; exact ⟨by simp, by simp⟩
  | u :: vs, _, _, r => by
    cases r with
    | cons h1 h2 =>
      obtain ⟨a, b⟩ := readsAll_mem h2
      refine ⟨fun x hx => ?_, fun e he => ?_⟩
      · rcases List.mem_cons.mp hx with hx | hx
        · rw [hx]; exact ⟨_, List.mem_cons_self, _, h1⟩
        · obtain ⟨e, he, z⟩ := a x hx
          exact ⟨e, List.mem_cons_of_mem _ he, z⟩
      · rcases List.mem_cons.mp he with he | he
        · rw [he]; exact ⟨_, List.mem_cons_self, _, h1⟩
        · obtain ⟨x, hx, z⟩ := b e he
          exact ⟨x, List.mem_cons_of_mem _ hx, z⟩
open Classical in
/-- whether a value reads as data equal to d -/
noncomputable def hitV (h : Heap) (d : PyData) (u : Value) : Bool := decide (∃ e bs, Reads h u e bs ∧ PyData.eqv e d = true)
open Classical in
theorem hitV_iff {h : Heap} {d : PyData} {u : Value} : hitV h d u = true ↔ ∃ e bs, Reads h u e bs ∧ PyData.eqv e d = true := by
  unfold hitV
  exact decide_eq_true_iff
section
variable {X : L2.Cx} {pins : List (Addr × Obj)} {σ : L2.St} {H : Hp} {s : Shared}
theorem hit_eqAt {A : Around} {v : Value} {d : PyData} {as : List Addr} (rv : Reads s.heap v d as) (hd : d.canLay0 = true ∧ d.depth ≤ 60) {u : Value} {e : PyData} {bs : List Addr} (ru : Reads s.heap u e bs) (he : e.canLay0 = true) (hu : A.units + 61 < cLine) : SeqAt.EqAt A s u v (hitV s.heap d u) := by
  have e1 : hitV s.heap d u = PyData.eqv e d := by
    cases h : PyData.eqv e d with
    | true => exact hitV_iff.mpr ⟨e, bs, ru, h⟩
    | false =>
      cases h2 : hitV s.heap d u with
      | false => rfl
      | true =>
        obtain ⟨e', bs', r', h'⟩ := hitV_iff.mp h2
        rw [← reads_fun e e' u _ _ he ru r', h] at h'
        cases h'
  rw [e1]
  refine SeqAt.eqAt_reads e d A s u v bs as ru rv he hd.1 ?_
  have : min e.depth d.depth ≤ d.depth := Nat.min_le_right _ _
  have := hd.2
  omega
theorem hit_any {h : Heap} {d : PyData} {us : List Value} {es : List PyData} {as : List Addr} (r : ReadsAll h us es as) (hes : PyData.canLayAll0 es = true) : us.any (hitV h d) = es.any fun e => PyData.eqv e d := by
  obtain ⟨a, b⟩ := readsAll_mem r
  cases h1 : es.any fun e => PyData.eqv e d with
  | true =>
    obtain ⟨e, he, h2⟩ := List.any_eq_true.mp h1
    obtain ⟨u, hu, bs, ru⟩ := b e he
    exact List.any_eq_true.mpr ⟨u, hu, hitV_iff.mpr ⟨e, bs, ru, h2⟩⟩
  | false =>
    rw [List.any_eq_false] at h1 ⊢
    intro u hu h2
    obtain ⟨e, he, bs, ru⟩ := a u hu
    obtain ⟨e', bs', r', h'⟩ := hitV_iff.mp h2
    rw [← reads_fun e e' u _ _ (canLay_mem hes e he) ru r'] at h'
    exact h1 e he h'
end
section
variable {X : L2.Cx}
theorem op_inD (hu : X.A.units + 64 < cLine) : L2.OpR X (compareOp .In) (rInD X.K false) := by
  intro pins s σ H x y v u Q I rx ry h
  obtain ⟨p, xs, d, es, rfl, hq, hx, hxs, hd, hes, q⟩ := h
  cases ry
  obtain ⟨as, rv⟩ := L2.Dp.reads I d x v hx rx
  have hA : X.A.in1.units + 61 < cLine := by show X.A.units + 1 + 61 < cLine; omega
  rcases hq with hq | hq
  · obtain ⟨its, r, pl, hz⟩ := I.list hq
    obtain ⟨bs, ra⟩ := L2.Dp.readsAll I es xs its hxs r
    obtain ⟨m1, _⟩ := readsAll_mem ra
    refine SeqAt.in_listAt (hitV s.heap d) pl.isList (fun w hw => ?_) ⟨.bl _, H, I, rfl, ?_⟩
    · obtain ⟨e, he, cs, rw⟩ := m1 w (by simpa using hw)
      exact hit_eqAt rv hd rw (canLay_mem hes e he) hA
    · rw [show its.toArray.any (hitV s.heap d) = its.any (hitV s.heap d) by simp, hit_any ra hes]
      exact q
  · obtain ⟨its, r, pl, hz⟩ := I.tuple hq
    obtain ⟨bs, ra⟩ := L2.Dp.readsAll I es xs its hxs r
    obtain ⟨m1, _⟩ := readsAll_mem ra
    refine SeqAt.in_tupleAt (hitV s.heap d) pl (fun w hw => ?_) ⟨.bl _, H, I, rfl, ?_⟩
    · obtain ⟨e, he, cs, rw⟩ := m1 w (by simpa using hw)
      exact hit_eqAt rv hd rw (canLay_mem hes e he) hA
    · rw [show its.toArray.any (hitV s.heap d) = its.any (hitV s.heap d) by simp, hit_any ra hes]
      exact q
theorem op_notinD (hu : X.A.units + 64 < cLine) : L2.OpR X (compareOp .NotIn) (rInD X.K true) := by
  intro pins s σ H x y v u Q I rx ry h
  obtain ⟨p, xs, d, es, rfl, hq, hx, hxs, hd, hes, q⟩ := h
  cases ry
  obtain ⟨as, rv⟩ := L2.Dp.reads I d x v hx rx
  have hA : X.A.in1.units + 61 < cLine := by show X.A.units + 1 + 61 < cLine; omega
  rcases hq with hq | hq
  · obtain ⟨its, r, pl, hz⟩ := I.list hq
    obtain ⟨bs, ra⟩ := L2.Dp.readsAll I es xs its hxs r
    obtain ⟨m1, _⟩ := readsAll_mem ra
    refine SeqAt.notIn_listAt (hitV s.heap d) pl.isList (fun w hw => ?_) ⟨.bl _, H, I, rfl, ?_⟩
    · obtain ⟨e, he, cs, rw⟩ := m1 w (by simpa using hw)
      exact hit_eqAt rv hd rw (canLay_mem hes e he) hA
    · rw [show its.toArray.any (hitV s.heap d) = its.any (hitV s.heap d) by simp, hit_any ra hes]
      exact q
  · obtain ⟨its, r, pl, hz⟩ := I.tuple hq
    obtain ⟨bs, ra⟩ := L2.Dp.readsAll I es xs its hxs r
    obtain ⟨m1, _⟩ := readsAll_mem ra
    refine SeqAt.notIn_tupleAt (hitV s.heap d) pl (fun w hw => ?_) ⟨.bl _, H, I, rfl, ?_⟩
    · obtain ⟨e, he, cs, rw⟩ := m1 w (by simpa using hw)
      exact hit_eqAt rv hd rw (canLay_mem hes e he) hA
    · rw [show its.toArray.any (hitV s.heap d) = its.any (hitV s.heap d) by simp, hit_any ra hes]
      exact q
end
section
variable {K : Kf}
theorem any_toP {x : D} (hx : D.okd 60 x = true) : ∀ {xs : List D}, okds 60 xs = true → ((toPs xs).any fun e => PyData.eqv e (toP x)) = xs.any fun y => D.eqb y x
  | [], _ => by simp [toPs]
  | y :: ys, h => by
    have h' : D.okd 60 y = true ∧ okds 60 ys = true := by simpa [okds] using h
    simp only [toPs, List.any_cons]
    rw [toP_eqv y x h'.1 hx, any_toP hx h'.2]
theorem real_inD (neg : Bool) : RealC K (rInD K neg) (fun x y st Q => inDC x y st fun b => Q (if neg then !b else b)) := fun f st H x y v w Q' Q s r1 r2 h l => by
  cases y <;> try (exact h.elim)
  · rw [RD.tup] at r2
    obtain ⟨a, vs, rfl, t, d⟩ := r2
    obtain ⟨h1, h2, h3⟩ := h
    refine ⟨a, vs, _, _, rfl, .inr t, toP_dp x h1 r1, toPs_dp _ h2 d, toP_ok x h1, (toPs_ok _ h2).1, ?_⟩
    rw [any_toP h1 h2]
    exact l _ h3
  · rw [RD.ref] at r2
    obtain ⟨a, e, rfl⟩ := r2
    obtain ⟨xs, h0, h1, h2, h3⟩ := h
    obtain ⟨a', vs, g1, g2, g3⟩ := s.rdA h0
    rw [e] at g1; cases g1
    refine ⟨a, vs, _, _, rfl, .inl g2, toP_dp x h1 r1, toPs_dp _ h2 g3, toP_ok x h1, (toPs_ok _ h2).1, ?_⟩
    rw [any_toP h1 h2]
    exact l _ h3
end
/-! starred arguments -/
section
variable {X : L2.Cx} {a : Expr} {es : List Expr} {ta : TE} {ts : TA} {pos p : Pos}
theorem pa_starD (ha : PD X a ta) (hr : PDA X es ts) (hs : starEach (.Starred a p :: es) X.env = (true, eval a X.env) :: starEach es X.env := by rfl) : PDA X (.Starred a p :: es) (aStar ta ts) :=
  pa_imp (StX.pa_star ha hr hs) fun σ H Q ⟨f, ρ, st, Q', R, h, l⟩ => ⟨f, ρ, st, _, R, h, fun x st1 v f1 H1 h1 e1 s1 r1 => by
    cases x <;> try (exact h1.elim)
    · rw [RD.tup] at r1
      obtain ⟨b, vs, rfl, t, d⟩ := r1
      exact ⟨b, vs, rfl, .inl t, f1, ρ, st1, _, R.later e1 s1, h1, fun ys st2 us f2 H2 q e2 s2 r2 => l _ st2 _ f2 H2 q (e1.trans e2) s2 ((d.mono e2).append r2)⟩
    · rw [RD.ref] at r1
      obtain ⟨b, e, rfl⟩ := r1
      obtain ⟨xs, h0, h2⟩ := h1
      obtain ⟨b', vs, g1, g2, g3⟩ := s1.rdA h0
      rw [e] at g1; cases g1
      exact ⟨b, vs, rfl, .inr g2, f1, ρ, st1, _, R.later e1 s1, h2, fun ys st2 us f2 H2 q e2 s2 r2 => l _ st2 _ f2 H2 q (e1.trans e2) s2 ((g3.mono e2).append r2)⟩⟩
/-- a call with a starred argument of a def whose last parameter takes what is left over -/
theorem pd_callS2 {x : Str} {q : Pos} {k n : Nat} {ts : TA} {cl : Cl} {y : String} (o : OwnS X.prog X.w X.K X.mg X.base k n x (cl y)) (hr : L2.Room k X.A) (hg : L2.Gl X x) (ha : PDA X (a :: es) ts) (hdb : (x == ("__debug__" : Str)) = false := by decide)
    (he : starEach (a :: es) X.env = (false, eval a X.env) :: starEach es X.env := by rfl) (hst : (backTo pos (starEach es X.env)).any (·.1) = true := by rfl) : PD X (.Call (.Name x q) (a :: es) [] pos) (dCallS cl y n ts) := by
  obtain ⟨fa, F, hm, hk⟩ := o.ex
  have step : L2.PE X (.Call (.Name x q) (a :: es) [] pos) (fun σ H Q => liftA X.K ts σ H fun vs H1 => starF X.K n (cl y) vs H1 Q fun _ _ _ => False) := StX.pe_callS2 F hr hk hg hm L2.pass0 ha hdb he hst
  refine pe_imp step fun σ H Q ⟨f, ρ, st, Q', R, h, l⟩ => ⟨f, ρ, st, _, R, h, fun xs st1 vs f1 H1 ⟨h1, h2, h3⟩ e1 s1 r1 => ?_⟩
  have hvl := r1.length
  refine ⟨vs.take n, vs.drop n, (List.take_append_drop n vs).symm, by rw [List.length_take]; omega, ?_, fun p hp => ?_⟩
  · rw [List.length_drop, hvl, ← szl_eq]; rw [List.length_drop] at h2; exact h2
  · have s2 := s1.lay (o := .tup (vs.drop n)) hp
    obtain ⟨s2, e2⟩ := s2
    refine ⟨by rw [List.length_append, List.length_take]; simp; omega, f1, st1, xs.take n ++ [.tup (xs.drop n)], Q', s2, ?_, h3, (l.later e1).later e2⟩
    refine RDs.append ((r1.take n).mono e2) (RDs.one (RD.tup.mpr ⟨p, vs.drop n, rfl, .of L2.upd_same, (r1.drop n).mono e2⟩))
end
end Pd
end PartPdSoundL

section PartPdMore5
set_option Elab.async false
set_option linter.all false
set_option maxRecDepth 100000
/-! Pd: more readings: zip of a tuple and a list; list(reversed(a list)). Own work. -/
namespace Pd
open PySem
def zipTLK : D → D → Store → (Iter → Store → Prop) → Prop
  | .tup xs, .ref n, st, R => ∃ ys, rdA st n ys ∧ R ⟨zipD xs ys, fun s => rdA s n ys⟩ st
  | _, _, _, _ => False
def iZipTL (t u : TE) : TI := fun σ st R => t σ st fun x st1 => u σ st1 fun y st2 => zipTLK x y st2 R
/-- list(reversed(a list)) -/
def revK : D → Store → K → Prop
  | .ref n, st, Q => ∃ xs, rdL st n xs ∧ Q (.ref st.length) (st ++ [.lst xs.reverse])
  | _, _, _ => False
def dLRv (t : TE) : TE := fun σ st Q => t σ st fun x st1 => revK x st1 Q
theorem rev_at {st : Store} {n : Nat} {xs : List D} {Q : K} (h : rdL st n xs) (q : Q (.ref st.length) (st ++ [.lst xs.reverse])) : revK (.ref n) st Q := ⟨xs, h, q⟩
instance {σ : Env} {st : Store} {ta : TE} {Q : K} : Red (dLRv ta σ st Q) (ta σ st fun x st1 => revK x st1 Q) := ⟨id⟩
section
variable {σ : Env} {st : Store} {ta tb : TE}
instance {R : Iter → Store → Prop} : Red (iZipTL ta tb σ st R) (ta σ st fun x st1 => tb σ st1 fun y st2 => zipTLK x y st2 R) := ⟨id⟩
end
theorem zipTL_at {st : Store} {n : Nat} {xs ys : List D} {R : Iter → Store → Prop} (h : rdL st n ys) (q : R ⟨zipD xs ys, fun s => rdA s n ys⟩ st) : zipTLK (.tup xs) (.ref n) st R := ⟨ys, .inl h, q⟩
end Pd
end PartPdMore5

section PartPdSoundM
set_option Elab.async false
set_option linter.all false
set_option maxRecDepth 100000
set_option maxHeartbeats 1000000
/-! Pd over the hand layer: zip of a tuple and a list. Own work. -/
namespace Pd
open PySem PySem.Spec PyProof.Rows
/-- the tuple at a and the list at b as they stand at each turn, the items in new pairs -/
def ItzTL (K : Kf) (a b : Addr) : L2.It :=
  ⟨fun i H => ∃ (xs ys : List L2.V) (x y : L2.V), L2.SqT K H a xs ∧ L2.SqL K H b ys ∧ xs[i]? = some x ∧ ys[i]? = some y,
    fun i H v H' => ∃ T x y, v = .ref T ∧ H T = none ∧ H' = L2.upd H T (.tup [x, y]) ∧ (∀ xs, L2.SqT K H a xs → xs[i]? = some x) ∧ ∀ ys, L2.SqL K H b ys → ys[i]? = some y,
    fun i H => ∃ xs ys : List L2.V, L2.SqT K H a xs ∧ L2.SqL K H b ys ∧ i ≤ xs.length ∧ i ≤ ys.length ∧ (i = xs.length ∨ i = ys.length)⟩
theorem turn_zipTL {P : Program} {w : World} {K : Kf} {elts : List Expr} {kk : Nat} {tpos : Pos} {a b z TI TO i1 i2 : Addr} (D : ZipSep2 z TI TO i1 i2 [i1, a] [i2, b]) (na : a ≠ i1) (nb : b ≠ i2) :
    L2.Turn P w K (.Tuple elts kk tpos) (ItzTL K a b) [z, TI, TO, i1, i2] z (fun i h => IsZip h z TI TO .none ∧ IsTupOf2 h TI (.ref i1) (.ref i2) ∧ (∃ x y, IsTupOf2 h TO x y) ∧ h.IsTupleIter i1 a i ∧ h.IsListIter i2 b i) where
  mem := by simp
  obj := fun i h st c hc => by
    obtain ⟨hz, hTI, ⟨x, y, hTO⟩, ⟨o1, e1, _, d1⟩, ⟨o2, e2, _, d2⟩⟩ := st
    have e' : c = z ∨ c = TI ∨ c = TO ∨ c = i1 ∨ c = i2 := by simpa using hc
    rcases e' with q | q | q | q | q
    · rw [q]; exact ⟨_, hz, fun v q => nomatch q⟩
    · rw [q]; exact ⟨_, hTI, fun v q => nomatch q⟩
    · rw [q]; exact ⟨_, hTO, fun v q => nomatch q⟩
    · rw [q]; exact ⟨o1, e1, fun v q => by rw [d1] at q; cases q⟩
    · rw [q]; exact ⟨o2, e2, fun v q => by rw [d2] at q; cases q⟩
  keep := fun i h h' st k => by
    obtain ⟨hz, hTI, ⟨x, y, hTO⟩, h1, h2⟩ := st
    exact ⟨k z (by simp) _ hz, k TI (by simp) _ hTI, ⟨x, y, k TO (by simp) _ hTO⟩, h1.at fun o q => k i1 (by simp) o q, h2.at fun o q => k i2 (by simp) o q⟩
  item := by
    intro X hP hw hK hc i pins s σ H E I hf st hg
    subst hP hw hK
    obtain ⟨hz, hTI, ⟨x0, y0, hTO⟩, h1, h2⟩ := st
    obtain ⟨xs, ys, x, y, hqx, hqy, hx, hy⟩ := hg
    obtain ⟨its, rv, p, _⟩ := I.tuple hqx
    obtain ⟨its2, rv2, p2, _⟩ := I.list hqy
    obtain ⟨u, hu, ru⟩ := rv.get hx
    obtain ⟨u2, hu2, ru2⟩ := rv2.get hy
    have hzl : z < s.heap.objs.size := Heap.lt_size hz
    have l1 := (List.getElem?_eq_some_iff.mp hu).1
    have l2 := (List.getElem?_eq_some_iff.mp hu2).1
    refine wpAny_pyNext_zipD2_item D (Draws.tuple (A := X.A.in1) (I.ok.hd hc) i1 a na its.toArray) (Draws.list (A := X.A.in1) (I.ok.hd hc) i2 b nb its2.toArray) hz hTI hTO ⟨h1, p⟩ ⟨h2, p2.isList⟩ (by simpa using l1) (by simpa using l2) fun u' u2' h' tk v1 v2 z' TO' st1' st2' hT hsz hk => ?_
    have eu : u' = u := by
      have : its.toArray[i]? = some u' := v1
      rw [show its.toArray[i]? = its[i]? by simp, hu] at this
      exact (Option.some.inj this).symm
    have eu2 : u2' = u2 := by
      have : its2.toArray[i]? = some u2' := v2
      rw [show its2.toArray[i]? = its2[i]? by simp, hu2] at this
      exact (Option.some.inj this).symm
    subst eu; subst eu2
    refine ⟨_, rfl, wpAny_letOwnedTupleGo_zip (s := { s with heap := h', toks := tk }) z' fun h'' z'' sb => ?_⟩
    have hT2 : h''.get? s.heap.objs.size = some { cls := .type "tuple", data := .seq #[u', u2'] } := (sb.2 _ (Nat.ne_of_gt hzl)).trans hT
    have new : L2.ObjOk X.prog X.w (L2.upd H s.heap.objs.size (.tup [x, y])) h'' s.heap.objs.size (.tup [x, y]) :=
      ⟨by show 2 ≤ sizeLine; decide, [u', u2'], .cons ru (.cons ru2 .nil), ⟨_, hT2, rfl, _, rfl⟩⟩
    have I1 : L2.Inv X pins σ (L2.upd H s.heap.objs.size (.tup [x, y])) { s with heap := h'', toks := tk } :=
      I.turnedNew (t' := tk) (ch := [z, TI, TO, i1, i2]) (fun c o hb q => (sb.2 c (fun q' => hb (by simp [q']))).trans (hk c o (fun q' => hb (by simp [q'])) (fun q' => hb (by simp [q'])) (fun q' => hb (by simp [q'])) (fun q' => hb (by simp [q'])) q)) hf (Nat.le_refl _) new
    refine ⟨.ref s.heap.objs.size, _, I1, rfl, ⟨_, x, y, rfl, I.hok.fresh (Nat.le_refl _), rfl, fun l hl => by rw [I.tuple_inj hl hqx]; exact hx, fun l hl => by rw [I.list_inj hl hqy]; exact hy⟩, ⟨z'', ?_, ⟨u', u2', ?_⟩, ?_, ?_⟩, fun c hcm => ?_⟩
    · exact (sb.2 _ D.TIz).trans (hk _ _ D.TIz D.TITO D.TIi1 D.TIi2 hTI)
    · exact (sb.2 _ D.TOz).trans TO'
    · exact st1'.1.at fun o q => (sb.2 _ (Ne.symm D.zi1)).trans q
    · exact st2'.1.at fun o q => (sb.2 _ (Ne.symm D.zi2)).trans q
    · have hlt : c < s.heap.objs.size := by
        have e' : c = z ∨ c = TI ∨ c = TO ∨ c = i1 ∨ c = i2 := by simpa using hcm
        rcases e' with q | q | q | q | q
        · rw [q]; exact hzl
        · rw [q]; exact Heap.lt_size hTI
        · rw [q]; exact Heap.lt_size hTO
        · rw [q]; obtain ⟨_, e1, _⟩ := h1; exact Heap.lt_size e1
        · rw [q]; obtain ⟨_, e2, _⟩ := h2; exact Heap.lt_size e2
      rw [L2.upd_ne (Nat.ne_of_lt hlt)]
      exact (hf c hcm).1
  done := by
    intro X hP hw hK hc i pins s σ H E I hf st hg
    subst hP hw hK
    obtain ⟨hz, hTI, ⟨x0, y0, hTO⟩, h1, h2⟩ := st
    obtain ⟨xs, ys, hqx, hqy, hle1, hle2, hend⟩ := hg
    obtain ⟨its, rv, p, _⟩ := I.tuple hqx
    obtain ⟨its2, rv2, p2, _⟩ := I.list hqy
    have l1 := rv.length
    have l2 := rv2.length
    exact wpAny_pyNext_zipD2_end D (Draws.tuple (A := X.A.in1) (I.ok.hd hc) i1 a na its.toArray) (Draws.list (A := X.A.in1) (I.ok.hd hc) i2 b nb its2.toArray) hz hTI hTO ⟨h1, p⟩ ⟨h2, p2.isList⟩ (by simp; omega) (by simp; omega) (by simp; omega) fun h' tk hk => ⟨rfl, I.turnedL (t' := tk) (ch := [z, TI, TO, i1, i2]) (fun c o hb q =>
      hk c o (fun q' => hb (by simp [q'])) (fun q' => hb (by simp [q'])) (fun q' => hb (by simp [q'])) (fun q' => hb (by simp [q'])) q) hf⟩
  self := fun A i s Q E st h => wpAny_pyIter_zip st.1 h
def iZipTLA (K : Kf) (ta : L2.TA) : L2.TI := fun σ H R => ta σ H fun vs H1 => ∃ a b xs ys, vs = [.ref a, .ref b] ∧ L2.SqT K H1 a xs ∧ L2.SqL K H1 b ys ∧ R (ItzTL K a b) H1
theorem pi_zipTLA {X : L2.Cx} {e e2 : Expr} {ta : L2.TA} {p pos tpos : Pos} {elts : List Expr} {kk : Nat} (hg : L2.Gl X "zip") (hm : X.mg "zip" = none) (ha : L2.PA X [e, e2] ta)
    (hs : starEach [e, e2] X.env = (false, eval e X.env) :: starEach [e2] X.env := by rfl) (hpl : (backTo pos (starEach [e2] X.env)).any (·.1) = false := by rfl) :
    L2.PI X (.Tuple elts kk tpos) (.Call (.Name "zip" p) [e, e2] [] pos) (iZipTLA X.K ta) := by
  refine ⟨fun pins s σ H R I h => ?_⟩
  refine Call_ (L2.ld_blt I hg hm PyProof.Rows.boot_zip (PyProof.Rows.callWith_type1 (L2.thn (ha.run pos pins s σ H _ I h) fun us s1 ⟨vs, H1, I1, r1, q1⟩ => ?_) hs hpl))
  obtain ⟨a, b, xs, ys, ex, hqx, hqy, q⟩ := q1
  subst ex
  cases r1 with
  | cons r rr =>
    cases rr with
    | cons r' rr =>
      cases rr
      cases r
      cases r'
      have fresh5 : ∀ c, c ∈ [s1.heap.objs.size + 4, s1.heap.objs.size + 2, s1.heap.objs.size + 3, s1.heap.objs.size, s1.heap.objs.size + 1] → L2.FpOk X pins H1 c := fun c hcm => by
        have e' : c = s1.heap.objs.size + 4 ∨ c = s1.heap.objs.size + 2 ∨ c = s1.heap.objs.size + 3 ∨ c = s1.heap.objs.size ∨ c = s1.heap.objs.size + 1 := by simpa using hcm
        have hle : s1.heap.objs.size ≤ c := by
          rcases e' with z | z | z | z | z
          · rw [z]; exact Nat.le_add_right _ _
          · rw [z]; exact Nat.le_add_right _ _
          · rw [z]; exact Nat.le_add_right _ _
          · rw [z]; exact Nat.le_refl _
          · rw [z]; exact Nat.le_add_right _ _
        exact I1.fpOk hle (I1.hok.fresh hle)
      obtain ⟨its, rv, p1, _⟩ := I1.tuple hqx
      obtain ⟨its2, rv2, p2, _⟩ := I1.list hqy
      obtain ⟨o1, ho1, _⟩ := id p1
      have la : a < s1.heap.objs.size := Heap.lt_size ho1
      have lb : b < s1.heap.objs.size := p2.lt
      refine zip_begins2 (begins_tuple a its.toArray) (begins_list b its2.toArray) p1 p2.isList fun h' hz hTI hTO g1 g2 hsz hk => wpAny_pyIter_zip hz ?_
      have I2 : L2.Inv X pins σ H1 { s1 with heap := h' } := I1.kept (t' := s1.toks) hk
      have sep := zip_sep2 (N := s1.heap.objs.size) (fp1 := [a]) (fp2 := [b]) (fun c hc => by rw [List.mem_singleton] at hc; rw [hc]; exact la) (fun c hc => by rw [List.mem_singleton] at hc; rw [hc]; exact lb)
      exact ⟨s1.heap.objs.size + 4, [s1.heap.objs.size + 4, s1.heap.objs.size + 2, s1.heap.objs.size + 3, s1.heap.objs.size, s1.heap.objs.size + 1], _, _, H1, rfl, I2, turn_zipTL sep (Nat.ne_of_lt la) (Nat.ne_of_lt (Nat.lt_succ_of_lt lb)), ⟨hz, hTI, ⟨_, _, hTO⟩, ⟨_, g1, rfl, rfl⟩, ⟨_, g2, rfl, rfl⟩⟩, fresh5, q⟩
section
variable {X : L2.Cx} {K : Kf} {f : List Addr} {H : Hp} {a b : Expr} {ta tb : TE} {es : List Expr} {pos : Pos}
theorem realI_zipTL {n : Nat} {a b : Addr} {xs ys : List D} {vs : List L2.V} (t : L2.SqT K H a vs) (r : RDs K f H xs vs) (hn : f[n]? = some b) : RealI K f H ⟨zipD xs ys, fun s => rdA s n ys⟩ (ItzTL K a b) where
  go := fun i f2 st2 H2 e2 s2 g hi => by
    have hi : i < (zipD xs ys).length := hi
    rw [zipD_length] at hi
    obtain ⟨b', ws, j1, j2, j3⟩ := s2.rdA g
    rw [e2.at hn] at j1; cases j1
    obtain ⟨v, hv⟩ := r.at_lt (i := i) (by omega)
    obtain ⟨w, hw⟩ := j3.at_lt (i := i) (by omega)
    exact ⟨vs, ws, v, w, e2.tup _ _ t, j2, hv, hw⟩
  stop := fun f2 st2 H2 e2 s2 g => by
    obtain ⟨b', ws, j1, j2, j3⟩ := s2.rdA g
    rw [e2.at hn] at j1; cases j1
    refine ⟨vs, ws, e2.tup _ _ t, j2, ?_⟩
    show (zipD xs ys).length ≤ vs.length ∧ (zipD xs ys).length ≤ ws.length ∧ ((zipD xs ys).length = vs.length ∨ (zipD xs ys).length = ws.length)
    rw [zipD_length, r.length, j3.length]; omega
  yld := fun i f2 st2 H2 d x H3 e2 s2 g hd y => by
    obtain ⟨b', ws, j1, j2, j3⟩ := s2.rdA g
    rw [e2.at hn] at j1; cases j1
    obtain ⟨T, x1, x2, rfl, hT, rfl, y1, y2⟩ := y
    obtain ⟨d1, d2, rfl, g1, g2⟩ := zipD_get hd
    obtain ⟨v, h1, h2⟩ := r.get g1
    obtain ⟨w, h3, h4⟩ := j3.get g2
    have q1 := y1 vs (e2.tup _ _ t)
    have q2 := y2 ws j2
    rw [h1] at q1; cases q1
    rw [h3] at q2; cases q2
    obtain ⟨s', e'⟩ := s2.lay (o := .tup [x1, x2]) hT
    refine ⟨e', s', RD.tup.mpr ⟨T, [x1, x2], rfl, .of L2.upd_same, ?_⟩⟩
    rw [RDs.cons]
    exact ⟨x1, [x2], rfl, (h2.mono e2).mono e', RDs.one (h4.mono e')⟩
theorem pi_zipTL {p tp : Pos} {kk : Nat} (hg : L2.Gl X "zip") (hm : X.mg "zip" = none) (h : PD X a ta) (h' : PD X b tb) (hs : starEach [a, b] X.env = (false, eval a X.env) :: starEach [b] X.env := by rfl) (hs2 : starEach [b] X.env = (false, eval b X.env) :: starEach [] X.env := by rfl)
    (hpl : (backTo pos (starEach [b] X.env)).any (·.1) = false := by rfl) : PDI X (.Tuple es kk tp) (.Call (.Name "zip" p) [a, b] [] pos) (iZipTL ta tb) :=
  pi_imp (pi_zipTLA hg hm (L2.pa_cons h (L2.pa_cons h' L2.pa_nil hs2) hs) hs hpl) fun σ H R ⟨f, ρ, st, R', Re, h, l⟩ => ⟨f, ρ, st, _, Re, h, fun x st1 v f1 H1 q1 e1 s1 r1 => ⟨f1, ρ, st1, _, Re.later e1 s1, q1, fun y st2 w f2 H2 q2 e2 s2 r2 => by
    have r1' := r1.mono e2
    cases x <;> cases y <;> try (exact q2.elim)
    rw [RD.tup] at r1'
    rw [RD.ref] at r2
    obtain ⟨a, vs, rfl, t, d⟩ := r1'
    obtain ⟨b, g2, rfl⟩ := r2
    obtain ⟨ys, q3, q4⟩ := q2
    obtain ⟨b', ws, j1, j2, j3⟩ := s2.rdA q3
    rw [g2] at j1; cases j1
    exact ⟨a, b, vs, ws, rfl, t, j2, l _ st2 _ f2 H2 q4 (e1.trans e2) s2 (realI_zipTL t d g2)⟩⟩⟩
end
end Pd
end PartPdSoundM

section PartPdSoundN
set_option Elab.async false
set_option linter.all false
set_option maxRecDepth 100000
set_option maxHeartbeats 1000000
/-! Pd over the hand layer: list(reversed(a list)). Own work. -/
namespace PdN
open PySem PySem.Spec PyProof.Rows RT
section
variable {prog : Program} {w : World} {A : Around} {E : Value → Shared → Prop} {s : Shared}
theorem rev_extend {it l S : Addr} {items : Array Value} {R : Result → Shared → Prop} (hh : A.handled = none) (hit : s.heap.IsRevIter it l ((items.size : Int) - 1)) (hl : s.heap.IsList l items) (hne : l ≠ it) (hn : items.size ≤ sizeLine) (hSi : S ≠ it) (hSl : S ≠ l) (res : Value) (c₀ : Nat) (hS : s.heap.get? S = some { cls := .type "list", data := .seq #[] c₀ })
    (hR : ∀ h' tk acc' c', (∀ b o, b ≠ S → b ≠ it → s.heap.get? b = some o → h'.get? b = some o) → h'.get? S = some { cls := .type "list", dict := none, data := .seq acc' c', slots := #[] } → ItemsOf (fun i v => items[items.size - 1 - i]? = some v) acc' items.size → R (.ok (.ret res)) { s with heap := h', toks := tk }) :
    wpAny (model prog w) A.in1 (Builtin.List.listExtendWith (.ref S) (.ref it) res)
      (fun fin s' => match fin with | .done f => R (.ok f) s' | .again c' => c'.quiet = true ∧ codeAny (model prog w) A c' R s') (fun e s' => R (.error e) s') s := by
  have W := (Walks.listRev (prog := prog) (w := w) (A := A.in1) hh it l hne items).toS
  have hSf : S ∉ [it, l] := by simp only [List.mem_cons, List.not_mem_nil, or_false, not_or]; exact ⟨hSi, hSl⟩
  have hT : s.TypeIs (.ref it) "list_reverseiterator" := Heap.IsRevIter.typeIs (s := s) hit
  have h1 : Builtin.List.listSameRef (.ref S) (.ref it) = false := by simp [Builtin.List.listSameRef, hSi]
  unfold Builtin.List.listExtendWith
  refine wpAny_bind (wpAny_typeOf hT ?_)
  rw [if_neg (by rw [h1]; decide)]
  refine wpAny_bind (wpAny_pyIter_revIter hit ?_)
  refine wpAny_bind (wpAny_holding ?_)
  unfold Builtin.List.listLengthHint
  refine wpAny_bind (wpAny_specialOf hT nolen_lri ?_)
  show wpAny _ A.in1 (specialOf (Value.ref it) (Str.ofString "__length_hint__") >>= _) _ _ _
  refine wpAny_bind (wpAny_specialOf hT hint_lri ?_)
  generalize hid : ("list_reverseiterator.__length_hint__" : String) = id0
  wp_delta
  rw [show splitId id0 = some ("list_reverseiterator", "__length_hint__") from by subst hid; decide +kernel]
  subst hid
  refine wpAny_bind (wpAny_isInstance (b := true) hT (by rw [isSubtype_type]; kernel_rfl) ?_)
  refine wpAny_pure ?_
  rw [if_neg (by decide)]
  have e0 : ((items.size : Nat) : Int) - 1 - ((0 : Nat) : Int) = (items.size : Int) - 1 := by omega
  refine wpAny_pure ⟨plainId_quiet F.plain_extend_loop _, codeAny_extend_loopS W hn _ hSf _ items.size 0 _ _ _ rfl (Nat.zero_le _) ⟨Nat.zero_le _, by rw [e0]; exact hit, hl⟩ hS (ItemsOf.nil _) fun s' acc' c' hm hS' hacc => ?_⟩
  rw [Moved.eq_with hm]
  refine hR s'.heap s'.toks acc' c' (fun b o hb hb2 e => hm.heap b o (fun hmem => ?_) e) hS' hacc
  rcases List.mem_cons.mp hmem with e' | hmem
  · exact hb e'
  · exact hb2 (List.mem_singleton.mp hmem)
theorem rev_init {it l S : Addr} {items : Array Value} {R : Result → Shared → Prop} (hh : A.handled = none) (hit : s.heap.IsRevIter it l ((items.size : Int) - 1)) (hl : s.heap.IsList l items) (hne : l ≠ it) (hn : items.size ≤ sizeLine) (hSi : S ≠ it) (hSl : S ≠ l) (hS : s.heap.get? S = some { cls := .type "list", data := .seq #[] })
    (hR : ∀ h' tk acc' c', (∀ b o, b ≠ S → b ≠ it → s.heap.get? b = some o → h'.get? b = some o) → h'.get? S = some { cls := .type "list", dict := none, data := .seq acc' c', slots := #[] } → ItemsOf (fun i v => items[items.size - 1 - i]? = some v) acc' items.size → R (.ok (.ret .none)) { s with heap := h', toks := tk }) :
    wpAny (model prog w) A.in1 (Builtin.«list.__init__» ⟨[.ref S, .ref it], []⟩)
      (fun fin s' => match fin with | .done f => R (.ok f) s' | .again c' => c'.quiet = true ∧ codeAny (model prog w) A c' R s') (fun e s' => R (.error e) s') s := by
  show wpAny _ _ (do let old ← Builtin.List.listItems (.ref S); Builtin.List.listUpdate (.ref S) (fun _ => #[]); letGo old.toList.reverse; Builtin.List.listExtendWith (.ref S) (.ref it) .none) _ _ s
  refine wpAny_bind ?_
  unfold Builtin.List.listItems
  refine wpAny_bind (wpAny_seqItems hS rfl (wpAny_pure ?_))
  show wpAny _ _ (updateSeq S (fun _ => #[]) >>= fun _ => letGo (#[] : Array Value).toList.reverse >>= fun _ => Builtin.List.listExtendWith (.ref S) (.ref it) .none) _ _ s
  refine wpAny_bind (wpAny_updateSeq hS rfl ?_)
  have hS₂ := Heap.get?_update_self (Obj.mapSeq (fun _ => (#[] : Array Value))) hS rfl
  have oth : ∀ b o, b ≠ S → s.heap.get? b = some o → (s.heap.update S (Obj.mapSeq (fun _ => (#[] : Array Value)))).get? b = some o :=
    fun b o hb e => (Heap.get?_update_other _ _ (Ne.symm hb)).trans e
  refine wpAny_bind (wpAny_letGo ?_)
  refine rev_extend hh (hit.at fun o e => oth _ o (Ne.symm hSi) e) (hl.at fun o e => oth _ o (Ne.symm hSl) e) hne hn hSi hSl .none _ hS₂ (fun h' tk acc' c' hk hS' hacc => ?_)
  exact hR h' tk acc' c' (fun b o hb hb2 e => hk b o hb hb2 (oth b o hb e)) hS' hacc
theorem rev_call {it l : Addr} {items : Array Value} {Q : Value → Shared → Prop} (hh : A.handled = none) (hit : s.heap.IsRevIter it l ((items.size : Int) - 1)) (hl : s.heap.IsList l items) (hne : l ≠ it) (hn : items.size ≤ sizeLine)
    (hQ : ∀ h' tk acc' c', (∀ b o, b ≠ it → s.heap.get? b = some o → h'.get? b = some o) → h'.get? s.heap.objs.size = some { cls := .type "list", dict := none, data := .seq acc' c', slots := #[] } → ItemsOf (fun i v => items[items.size - 1 - i]? = some v) acc' items.size → Q (.ref s.heap.objs.size) { s with heap := h', toks := tk }) :
    wpAny (model prog w) A (call (.type "list") [.ref it]) Q E s := by
  refine callType_codes (Q₁ := fun obj s₁ => obj = .ref s.heap.objs.size ∧ s₁ = { s with heap := s.heap.push { cls := .type "list", data := .seq #[] } }) PySem.F.called_list (PySem.F.typeCall_list_1 _) PySem.F.entry_list_init
    (code_list_new _ ⟨rfl, rfl⟩) fun obj s₁ h₁ => ?_
  obtain ⟨rfl, rfl⟩ := h₁
  have hS : (s.heap.push { cls := .type "list", data := .seq #[] }).get? s.heap.objs.size = some { cls := .type "list", data := .seq #[] } := Heap.get?_push_size _ rfl
  obtain ⟨oi, hoi, _⟩ := id hit
  obtain ⟨ol, hol, _⟩ := id hl
  refine ⟨⟨_, hS, rfl⟩, PySem.F.args_list_init_2 _ _, rev_init (A := A.in1) hh (hit.at fun o e => Heap.get?_push_of_some _ e) (hl.push _) hne hn (Nat.ne_of_gt (Heap.lt_size hoi)) (Nat.ne_of_gt (Heap.lt_size hol)) hS (fun h' tk acc' c' hk hS' hacc => ?_)⟩
  exact ⟨rfl, hQ h' tk acc' c' (fun b o hb e => hk b o (Nat.ne_of_lt (Heap.lt_size e)) hb (Heap.get?_push_of_some _ e)) hS' hacc⟩
end
section
open L2
variable {X : L2.Cx}
/-- list(reversed(x)), x a list: a new list -/
def tLstRev (K : PySem.W.Frag) (te : L2.TE) : L2.TE := fun σ H Q => te σ H fun v H1 => ∃ (a : Addr) (xs : List L2.V), v = .ref a ∧ L2.SqL K H1 a xs ∧ ∀ q, H1 q = none → Q (.ref q) (L2.upd H1 q (.lst xs.reverse))
theorem pe_lstRev {e : Expr} {te : L2.TE} {p p2 pos pos2 : Pos} (hc : X.calm = true) (hg : L2.Gl X "list") (hm : X.mg "list" = none) (hg2 : L2.Gl X "reversed") (hm2 : X.mg "reversed" = none) (he : L2.PE X e te)
    (hs : starEach [e] X.env = (false, eval e X.env) :: starEach [] X.env := by rfl)
    (hs2 : starEach [.Call (.Name "reversed" p2) [e] [] pos2] X.env = (false, eval (.Call (.Name "reversed" p2) [e] [] pos2) X.env) :: starEach [] X.env := by rfl) :
    L2.PE X (.Call (.Name "list" p) [.Call (.Name "reversed" p2) [e] [] pos2] [] pos) (tLstRev X.K te) := by
  refine ⟨fun pins s σ H Q I h => ?_⟩
  refine Call_ (L2.ld_blt I hg hm (by rfl) (PyProof.Rows.callWith_type1 (args_cons (Call_ (L2.ld_blt I hg2 hm2 PyProof.Rows.boot_reversed (PyProof.Rows.callWith_type1 (args_cons (L2.thn (he.run pins s σ H _ I h) fun u s1 ⟨v, H1, I1, r1, q1⟩ => args_nil ?_) hs) hs rfl))) hs2) hs2 rfl))
  obtain ⟨a, xs, ev, hq, q⟩ := q1
  subst ev
  obtain rfl : u = Value.ref a := r1
  obtain ⟨its, rv, p', hz⟩ := I1.list hq
  refine call_reversed_list p'.isList (args_nil ?_)
  have k0 : ∀ b o, s1.heap.get? b = some o → (s1.heap.push (revObj a ((its.toArray.size : Int) - 1))).get? b = some o := fun b o e => Heap.get?_push_of_some _ e
  have I2 : L2.Inv X pins σ H1 { s1 with heap := s1.heap.push (revObj a ((its.toArray.size : Int) - 1)) } := I1.kept (t' := s1.toks) k0
  have fp : L2.FpOk X pins H1 s1.heap.objs.size := I1.fpOk (H' := H1) (b := s1.heap.objs.size) (Nat.le_refl _) (I1.hok.fresh (Nat.le_refl _))
  have hl := p'.isList
  obtain ⟨ol, hol, _⟩ := id hl
  have hne : a ≠ s1.heap.objs.size := Nat.ne_of_lt (Heap.lt_size hol)
  have hn : its.toArray.size ≤ sizeLine := by rw [List.size_toArray, ← rv.length]; exact hz
  refine rev_call (s := { s1 with heap := s1.heap.push (revObj a ((its.toArray.size : Int) - 1)) }) (I1.ok.hd hc) ⟨_, Heap.get?_push_size _ rfl, rfl, rfl⟩ (hl.push _) hne hn fun h' tk acc c' hk hS hi => ?_
  have new : L2.ObjOk X.prog X.w (L2.upd H1 (s1.heap.push (revObj a ((its.toArray.size : Int) - 1))).objs.size (.lst xs.reverse)) h' (s1.heap.push (revObj a ((its.toArray.size : Int) - 1))).objs.size (.lst xs.reverse) :=
    ⟨by rw [List.length_reverse]; exact hz, acc.toList, c', vals_rev rv hi, by rw [Array.toArray_toList]; exact hS⟩
  have I3 := I2.turnedNew (t' := tk) (h' := h') (ch := [s1.heap.objs.size]) (fun c o hb e => hk c o (fun q' => hb (by simp [q'])) e) (fun b hb => by rw [List.mem_singleton] at hb; rw [hb]; exact fp) (Nat.le_refl _) new
  exact ⟨.ref (s1.heap.push (revObj a ((its.toArray.size : Int) - 1))).objs.size, _, I3, rfl, q _ (I2.hok.fresh (Nat.le_refl _))⟩
end
end PdN
namespace Pd
open PySem PySem.Spec
section
variable {X : L2.Cx}
theorem pd_lstRev {a : Expr} {ta : TE} {p p2 pos pos2 : Pos} (hc : X.calm = true) (hg : L2.Gl X "list") (hm : X.mg "list" = none) (hg2 : L2.Gl X "reversed") (hm2 : X.mg "reversed" = none) (ha : PD X a ta)
    (hs : starEach [a] X.env = (false, eval a X.env) :: starEach [] X.env := by rfl)
    (hs2 : starEach [.Call (.Name "reversed" p2) [a] [] pos2] X.env = (false, eval (.Call (.Name "reversed" p2) [a] [] pos2) X.env) :: starEach [] X.env := by rfl) :
    PD X (.Call (.Name "list" p) [.Call (.Name "reversed" p2) [a] [] pos2] [] pos) (dLRv ta) :=
  pe_imp (PdN.pe_lstRev hc hg hm hg2 hm2 ha hs hs2) fun σ H Q ⟨f, ρ, st, Q', R, h, l⟩ => ⟨f, ρ, st, _, R, h, fun x st1 v f1 H1 q1 e1 s1 r1 => by
    cases x <;> try (exact q1.elim)
    rw [RD.ref] at r1
    obtain ⟨b, e, rfl⟩ := r1
    obtain ⟨xs, h0, h1⟩ := q1
    obtain ⟨b', vs, g1, g2, g3⟩ := s1.rdA (.inl h0)
    rw [e] at g1; cases g1
    exact ⟨b, vs, rfl, g2, fun q hq => (l.later e1).lst s1 h1 g3.reverse hq⟩⟩
end
end Pd
end PartPdSoundN

section PartPdDraw
set_option Elab.async false
set_option linter.all false
set_option maxRecDepth 100000
/-! Pd: the laws' drawing def. Own work. -/
namespace Pd
open PySem
local macro_rules | `(tactic| walk_at "s") => `(tactic| (repeat (refine Red.red ?_)))
local macro_rules | `(tactic| walk_at "r") => `(tactic| (repeat (first | refine Red.red ?_ | refine Nxt.mk ?_)))
/-- the drawer stands at 2, the script's numbers at 1 -/
def DrawAt (st : Store) : Prop := ∃ (ns : List Int) (a b v : Int), rdL st 1 (ns.map D.int) ∧ rdL st 2 [.ref 1, .int a, .int b, .int v, .int 2] ∧ 0 ≤ a ∧ 0 ≤ b ∧ 0 ≤ v ∧ ns.length ≤ 63
/-- later: the drawer goes on, cells are added, all others are as they were -/
structure Fra (st st' : Store) : Prop where
  dr : DrawAt st'
  le : st.length ≤ st'.length
  at' : ∀ n, n < st.length → n ≠ 2 → st'[n]? = st[n]?
theorem Fra.refl {st : Store} (h : DrawAt st) : Fra st st := ⟨h, Nat.le_refl _, fun _ _ _ => rfl⟩
theorem Fra.trans {a b c : Store} (h : Fra a b) (h' : Fra b c) : Fra a c := ⟨h'.dr, Nat.le_trans h.le h'.le, fun n hn ne => (h'.at' n (Nat.lt_of_lt_of_le hn h.le) ne).trans (h.at' n hn ne)⟩
theorem rdL_lt {st : Store} {n : Nat} {xs : List D} (h : rdL st n xs) : n < st.length := (List.getElem?_eq_some_iff.mp h).1
theorem rdL_app {st : Store} {n : Nat} {xs : List D} {c : C} (h : rdL st n xs) : rdL (st ++ [c]) n xs := by
  unfold rdL at *
  rw [List.getElem?_append_left (rdL_lt h)]; exact h
theorem rdL_new {st : Store} {xs : List D} : rdL (st ++ [.lst xs]) st.length xs := by unfold rdL; simp
theorem rdL_set {st : Store} {n : Nat} {xs ys : List D} (h : rdL st n xs) : rdL (st.set n (.lst ys)) n ys := by unfold rdL; rw [List.getElem?_set_self (rdL_lt h)]
theorem rdL_ne {st : Store} {n m : Nat} {xs : List D} {c : C} (h : rdL st n xs) (ne : n ≠ m) : rdL (st.set m c) n xs := by unfold rdL at *; rw [List.getElem?_set_ne (Ne.symm ne)]; exact h
theorem rdL_inj {st : Store} {n : Nat} {xs ys : List D} (h : rdL st n xs) (h' : rdL st n ys) : xs = ys := by
  unfold rdL at *
  rw [h] at h'
  cases h'; rfl
theorem Fra.rd {st st' : Store} (f : Fra st st') {n : Nat} {xs : List D} (h : rdL st n xs) (ne : n ≠ 2) : rdL st' n xs := by
  unfold rdL at *
  rw [f.at' n (rdL_lt h) ne]; exact h
theorem DrawAt.lt {st : Store} (h : DrawAt st) : 2 < st.length := by
  obtain ⟨_, _, _, _, _, h2, _⟩ := h
  exact rdL_lt h2
theorem DrawAt.app {st : Store} {c : C} (h : DrawAt st) : DrawAt (st ++ [c]) := by
  obtain ⟨ns, a, b, v, h1, h2, h3⟩ := h
  exact ⟨ns, a, b, v, rdL_app h1, rdL_app h2, h3⟩
theorem DrawAt.set {st : Store} {n : Nat} {c : C} (h : DrawAt st) (hn : 2 < n) : DrawAt (st.set n c) := by
  obtain ⟨ns, a, b, v, h1, h2, h3⟩ := h
  exact ⟨ns, a, b, v, rdL_ne h1 (by omega), rdL_ne h2 (by omega), h3⟩
theorem Fra.app {st st' : Store} {c : C} (f : Fra st st') : Fra st (st' ++ [c]) := ⟨f.dr.app, by simp; have := f.le; omega, fun n hn ne => by
  rw [List.getElem?_append_left (Nat.lt_of_lt_of_le hn f.le)]; exact f.at' n hn ne⟩
theorem Fra.set {st st' : Store} {n : Nat} {c : C} (f : Fra st st') (hn : st.length ≤ n) (h2 : 2 < n) : Fra st (st'.set n c) := ⟨f.dr.set h2, by simp; exact f.le, fun m hm ne => by
  rw [List.getElem?_set_ne (by omega)]; exact f.at' m hm ne⟩
def drawBody (c : Cl) : TS := sSeq (sIf (tTru (dCmp gtC (dOp ixK (dVar 0) (dC (.int 2))) (dC (.int 0)))) (sSeq (sAsg (dOp ixK (dVar 0) (dC (.int 2))) (gName 2)) (sSeq (sAsg (dOp fdivK (dVar 2) (dVar 1)) (gSub (dVar 0) (dC (.int 2)))) (sRet (dOp modK (dB intB (aCons (dVar 2) (aNil))) (dVar 1))))) (sNext)) (sSeq (sAsg (dC (.int 0)) (gName 3)) (sSeq (sIf (tTru (dCmp ltC (dOp ixK (dVar 0) (dC (.int 1))) (dB lenB (aCons (dOp ixK (dVar 0) (dC (.int 0))) (aNil))))) (sSeq (sAsg (dOp ixK (dOp ixK (dVar 0) (dC (.int 0))) (dOp ixK (dVar 0) (dC (.int 1)))) (gName 4)) (sAsg (dOp addK (dOp mulK (dC (.int 2)) (dB absB (aCons (dVar 4) (aNil)))) (dB intB (aCons (dCmp ltC (dVar 4) (dC (.int 0))) (aNil)))) (gName 3))) (sNext)) (sSeq (sAugL iaddK (dVar 0) (dC (.int 1)) (dC (.int 1))) (sSeq (sIf (tTru (dCmp geC (dVar 3) (dOp mulK (dC (.int 2)) (dOp powK (dC (.int 10)) (dC (.int 18)))))) (sSeq (sAsg (dOp modK (dB intB (aCons (dOp fdivK (dVar 3) (dC (.int 2))) (aNil))) (dOp shlK (dC (.int 1)) (dC (.int 6000)))) (gName 2)) (sSeq (sAsg (dOp fdivK (dVar 2) (dVar 1)) (gSub (dVar 0) (dC (.int 2)))) (sRet (dOp modK (dB intB (aCons (dVar 2) (aNil))) (dVar 1))))) (sNext)) (sSeq (sAsg (dOp modK (dB intB (aCons (dOp addK (dOp addK (dOp addK (dOp mulK (dOp ixK (dVar 0) (dC (.int 3))) (dC (.int 48271))) (dOp mulK (dOp modK (dB intB (aCons (dVar 3) (aNil))) (dC (.int 2147483629))) (dC (.int 16807)))) (dOp mulK (dOp ixK (dVar 0) (dC (.int 1))) (dC (.int 69621)))) (dC (.int 11))) (aNil))) (dC (.int 2147483647))) (gSub (dVar 0) (dC (.int 3)))) (sRet (dOp modK (dB intB (aCons (dOp fdivK (dOp ixK (dVar 0) (dC (.int 3))) (dC (.int 16))) (aNil))) (dVar 1))))))))
theorem ix_at {st : Store} {n : Nat} {xs : List D} {i : Int} {d : D} {Q : K} (h : rdL st n xs) (e : atD xs i = some d) (q : Q d st) : ixK (.ref n) (.int i) st Q := ⟨xs, d, .inl h, e, q⟩
theorem ixL_at {st : Store} {n : Nat} {xs : List D} {i : Int} {d : D} {Q : K} (h : rdL st n xs) (e : atD xs i = some d) (q : Q d st) : ixLK (.ref n) (.int i) st Q := ⟨xs, d, .inl h, e, q⟩
theorem set_at {st : Store} {n : Nat} {xs : List D} {i : Int} {v d : D} {Q : Store → Prop} (h : rdL st n xs) (e : atD xs i = some d) (h0 : 0 ≤ i) (q : Q (st.set n (.lst (xs.set i.toNat v)))) : setK (.ref n) (.int i) v st Q := ⟨xs, h, ⟨d, e⟩, h0, q⟩
theorem len_at {st : Store} {n : Nat} {xs : List D} {Q : K} (h : rdL st n xs) (q : Q (.int xs.length) st) : lenB [.ref n] st Q := ⟨xs, .inl h, q⟩
theorem atD_map {ns : List Int} {i : Int} (h0 : 0 ≤ i) (h1 : i < ns.length) : ∃ n, n ∈ ns ∧ atD (ns.map D.int) i = some (.int n) := by
  refine ⟨ns[i.toNat]'(by omega), List.getElem_mem _, ?_⟩
  unfold atD
  rw [if_pos h0, List.getElem?_map, List.getElem?_eq_getElem (by omega)]
  rfl
theorem draw_ok {prog : String → Option Def} (hp : prog "_law_draw" = some ⟨2, 5, drawBody⟩) {k : Nat} {st : Store} {many : Int} {Q : K} (h : DrawAt st) (h0 : 0 < many) (h1 : many < 1073741824)
    (hQ : ∀ r st', 0 ≤ r → r < many → Fra st st' → st'.length = st.length → Q (.int r) st') : callN prog (k + 1) "_law_draw" [.ref 2, .int many] st Q := by
  obtain ⟨ns, a, b, v, d1, d2, ha, hb, hv, hn⟩ := h
  have l2 := rdL_lt d2
  -- the end of each way: a drawer behind it
  have fin : ∀ {a b v : Int} {xs : List D} {r : Int}, xs = [.ref 1, .int a, .int b, .int v, .int 2] → 0 ≤ a → 0 ≤ b → 0 ≤ v → Q (.int (r % many)) (st.set 2 (.lst xs)) := fun {a b v xs r} e ha hb hv => by
    subst e
    refine hQ _ _ (Int.emod_nonneg _ (by omega)) (Int.emod_lt_of_pos _ h0) ⟨⟨ns, a, b, v, rdL_ne d1 (by decide), rdL_set d2, ha, hb, hv, hn⟩, by simp, fun n _ ne => by rw [List.getElem?_set_ne (Ne.symm ne)]⟩ (by simp)
  have set2 : ∀ {xs ys : List D}, (st.set 2 (.lst xs)).set 2 (.lst ys) = st.set 2 (.lst ys) := fun {xs ys} => by rw [List.set_set]
  refine call_intro hp rfl ?_
  unfold drawBody
  walk_at "r"
  refine ix_at d2 rfl ?_
  walk_at "r"
  refine way (fun e => ?_) (fun e => ?_)
  · have e : 0 < b := by simpa using e
    walk_at "r"
    refine ix_at d2 rfl ?_
    walk_at "r"
    refine ⟨⟨h0, h1⟩, ?_⟩
    walk_at "r"
    refine set_at d2 rfl (by decide) ?_
    walk_at "r"
    refine ⟨h0, ?_⟩
    exact fin (a := a) (b := b / many) (v := v) rfl ha (Int.ediv_nonneg hb (by omega)) hv
  · walk_at "s"
    refine Nxt.mk ?_
    walk_at "s"
    refine Nxt.mk ?_
    refine seq_cut (fun σ st' => ∃ sz y4, 0 ≤ sz ∧ σ = [some (.ref 2), some (.int many), none, some (.int sz), y4] ∧ st' = st) (fun N hN => ?_) (fun σ st' hJ => ?_)
    · walk_at "r"
      refine ix_at d2 rfl ?_
      walk_at "r"
      refine ix_at d2 rfl ?_
      walk_at "r"
      refine len_at d1 ?_
      walk_at "r"
      refine way (fun e => ?_) (fun e => ?_)
      · have e : a < (ns.length : Int) := by simpa using e
        walk_at "r"
        refine ix_at d2 rfl ?_
        walk_at "r"
        refine ix_at d2 rfl ?_
        obtain ⟨n, _, hat⟩ := atD_map ha e
        refine ix_at d1 hat ?_
        walk_at "r"
        refine ⟨.inl (by decide), ?_⟩
        walk_at "r"
        refine hN _ _ ⟨_, _, ?_, rfl, rfl⟩
        have hb2 : 0 ≤ b2i (decide (n < 0)) := by unfold b2i; split <;> decide
        split <;> omega
      · walk_at "r"
        exact hN _ _ ⟨0, _, by decide, rfl, rfl⟩
    · obtain ⟨sz, y4, hsz, rfl, e0⟩ := hJ
      rw [e0]
      walk_at "r"
      refine ixL_at d2 rfl ?_
      walk_at "r"
      refine set_at d2 rfl (by decide) ?_
      walk_at "r"
      have d3 : rdL (st.set 2 (.lst [.ref 1, .int (a + 1), .int b, .int v, .int 2])) 2 [.ref 1, .int (a + 1), .int b, .int v, .int 2] := rdL_set d2
      refine ⟨by unfold cPow; decide, ?_⟩
      walk_at "r"
      refine ⟨.inl (by decide), ?_⟩
      walk_at "r"
      refine way (fun _ => ?_) (fun _ => ?_)
      · walk_at "r"
        refine ⟨by decide, ?_⟩
        walk_at "r"
        refine ⟨by unfold cPow; decide, ?_⟩
        walk_at "r"
        have hp6 : (0 : Int) < 1 * 2 ^ (6000 : Int).toNat := by rw [Int.one_mul]; exact Int.pow_pos (by decide)
        refine ⟨hp6, ?_⟩
        walk_at "r"
        refine ⟨⟨h0, h1⟩, ?_⟩
        walk_at "r"
        refine set_at d3 rfl (by decide) ?_
        walk_at "r"
        refine ⟨h0, ?_⟩
        show Q _ ((st.set 2 _).set 2 _)
        rw [set2]
        exact fin (a := a + 1) (b := sz / 2 % (1 * 2 ^ (6000 : Int).toNat) / many) (v := v) rfl (by omega) (Int.ediv_nonneg (Int.emod_nonneg _ (by omega)) (by omega)) hv
      · walk_at "r"
        refine ix_at d3 rfl ?_
        walk_at "r"
        refine ⟨.inr (by decide), ?_⟩
        walk_at "r"
        refine ⟨by decide, ?_⟩
        walk_at "r"
        refine ⟨.inr (by decide), ?_⟩
        walk_at "r"
        refine ix_at d3 rfl ?_
        walk_at "r"
        refine ⟨.inr (by decide), ?_⟩
        walk_at "r"
        refine ⟨by decide, ?_⟩
        walk_at "r"
        refine set_at d3 rfl (by decide) ?_
        walk_at "r"
        refine ix_at (rdL_set d3) rfl ?_
        walk_at "r"
        refine ⟨by decide, ?_⟩
        walk_at "r"
        refine ⟨h0, ?_⟩
        rw [set2]
        exact fin (a := a + 1) (b := b) (v := (v * 48271 + sz % 2147483629 * 16807 + (a + 1) * 69621 + 11) % 2147483647) rfl (by omega) hb (Int.emod_nonneg _ (by omega))
end Pd
end PartPdDraw

section PartPdLib
set_option Elab.async false
set_option linter.all false
set_option maxRecDepth 100000
/-! Pd: what the laws share: list cells, draws in comprehensions, masks. Own work. -/
namespace Pd
open PySem
local macro_rules | `(tactic| walk_at "s") => `(tactic| (repeat (refine Red.red ?_)))
local macro_rules | `(tactic| walk_at "r") => `(tactic| (repeat (first | refine Red.red ?_ | refine Nxt.mk ?_)))
/-! ### list cells -/
theorem list_at {st : Store} {n : Nat} {xs : List D} {Q : K} (h : rdL st n xs) (q : Q (.ref st.length) (st ++ [.lst xs])) : listB [.ref n] st Q := ⟨xs, .inl h, q⟩
theorem tuple_at {st : Store} {n : Nat} {xs : List D} {Q : K} (h : rdL st n xs) (q : Q (.tup xs) st) : tupleB [.ref n] st Q := ⟨xs, .inl h, q⟩
theorem sum_at {st : Store} {n : Nat} {ns : List Int} {Q : K} (h : rdL st n (ns.map D.int)) (q : Q (.int ns.sum) st) : sumB [.ref n] st Q := ⟨ns, .inl h, q⟩
theorem it_at {st : Store} {n : Nat} {xs : List D} {R : Iter → Store → Prop} (h : rdL st n xs) (q : R ⟨xs, fun s => rdA s n xs⟩ st) : itK (.ref n) st R := ⟨xs, .inl h, q⟩
theorem append_at {st : Store} {n : Nat} {xs : List D} {x : D} {Q : K} (h : rdL st n xs) (hl : xs.length < szl) (q : Q .non (st.set n (.lst (xs ++ [x])))) : appendM (.ref n) [x] st Q := ⟨xs, h, hl, q⟩
theorem extend_at {st : Store} {n m : Nat} {xs ys : List D} {Q : K} (h : rdL st n xs) (h' : rdL st m ys) (ne : n ≠ m) (hl : xs.length + ys.length ≤ szl) (q : Q .non (st.set n (.lst (xs ++ ys)))) : extendM (.ref n) [.ref m] st Q := ⟨xs, ys, h, h', ne, hl, q⟩
theorem ty_at {st : Store} {n : Nat} {xs : List D} (h : rdL st n xs) : tyLst (.ref n) st := ⟨xs, h⟩
theorem sl_at {st : Store} {n : Nat} {xs : List D} {lo hi : Option Int} {Q : K} (h : rdL st n xs) (q : Q (.ref st.length) (st ++ [.lst (cutD xs lo hi)])) : slK (.ref n) lo hi st Q := ⟨xs, .inl h, q⟩
theorem add_at {st : Store} {n m : Nat} {xs ys : List D} {Q : K} (h : rdL st n xs) (h' : rdL st m ys) (hl : xs.length + ys.length ≤ szl) (q : Q (.ref st.length) (st ++ [.lst (xs ++ ys)])) : addK (.ref n) (.ref m) st Q := ⟨xs, ys, h, h', hl, q⟩
theorem rep_at {st : Store} {n : Nat} {xs : List D} {k : Int} {Q : K} (h : rdL st n xs) (h0 : 0 ≤ k) (h1 : k < 1000000) (hl : xs.length ≤ 1) (q : Q (.ref st.length) (st ++ [.lst (List.replicate k.toNat xs).flatten])) : mulK (.ref n) (.int k) st Q :=
  ⟨xs, h, by omega, by omega, by
    have : xs.length * k.toNat ≤ 1 * k.toNat := Nat.mul_le_mul_right _ hl
    unfold szl; omega, q⟩
theorem flat_one (x : D) (n : Nat) : (List.replicate n [x]).flatten = List.replicate n x := by
  induction n with
  | zero => rfl
  | succ n ih => rw [List.replicate_succ, List.flatten_cons, ih, List.replicate_succ]; rfl
theorem atD_nat {α : Type} {xs : List α} {i : Int} {x : α} (h0 : 0 ≤ i) (h : xs[i.toNat]? = some x) : atD xs i = some x := by unfold atD; rw [if_pos h0]; exact h
theorem atD_of {α : Type} {xs : List α} {i : Int} (h0 : 0 ≤ i) (h1 : i < xs.length) : ∃ x, x ∈ xs ∧ xs[i.toNat]? = some x ∧ atD xs i = some x :=
  ⟨xs[i.toNat]'(by omega), List.getElem_mem _, List.getElem?_eq_getElem (by omega), atD_nat h0 (List.getElem?_eq_getElem (by omega))⟩
theorem atD_mapI {α : Type} {f : α → D} {xs : List α} {i : Int} (h0 : 0 ≤ i) (h1 : i < xs.length) : ∃ x, x ∈ xs ∧ xs[i.toNat]? = some x ∧ atD (xs.map f) i = some (f x) := by
  obtain ⟨x, h2, h3, h4⟩ := atD_of h0 h1
  exact ⟨x, h2, h3, atD_nat h0 (by rw [List.getElem?_map, h3]; rfl)⟩
theorem cut_take {α : Type} (xs : List α) {i : Int} (h : 0 ≤ i) : cutD xs none (some i) = xs.take i.toNat := by
  unfold cutD cl
  simp only [Option.map_none, Option.getD_none, Option.map_some, Option.getD_some, List.drop_zero, Nat.sub_zero]
  rw [if_neg (by omega)]
  by_cases h2 : i.toNat ≤ xs.length
  · rw [Nat.min_eq_left h2]
  · rw [Nat.min_eq_right (by omega), List.take_of_length_le (Nat.le_refl _), List.take_of_length_le (by omega)]
theorem cut_drop {α : Type} (xs : List α) {i : Int} (h : 0 ≤ i) : cutD xs (some i) none = xs.drop i.toNat := by
  unfold cutD cl
  simp only [Option.map_none, Option.getD_none, Option.map_some, Option.getD_some]
  rw [if_neg (by omega)]
  by_cases h2 : i.toNat ≤ xs.length
  · rw [Nat.min_eq_left h2, List.take_of_length_le (by simp)]
  · rw [Nat.min_eq_right (by omega), List.drop_of_length_le (Nat.le_refl _), List.drop_of_length_le (by omega)]
    simp
theorem cut_last {α : Type} (xs : List α) : cutD xs none (some (-1)) = xs.dropLast := by
  unfold cutD cl
  simp only [Option.map_none, Option.getD_none, Option.map_some, Option.getD_some, List.drop_zero, Nat.sub_zero]
  rw [if_pos (by decide), List.dropLast_eq_take]
  congr 1
  omega
/-- cells are added, all others as they were -/
def Grw (st st' : Store) : Prop := ∃ m, st' = st ++ m
theorem Grw.refl (st : Store) : Grw st st := ⟨[], by simp⟩
theorem Grw.app {st st' : Store} {c : C} (h : Grw st st') : Grw st (st' ++ [c]) := by
  obtain ⟨m, rfl⟩ := h
  exact ⟨m ++ [c], by simp⟩
theorem Grw.trans {a b c : Store} (h : Grw a b) (h' : Grw b c) : Grw a c := by
  obtain ⟨m, rfl⟩ := h
  obtain ⟨m', rfl⟩ := h'
  exact ⟨m ++ m', by simp⟩
theorem Grw.rd {st st' : Store} (f : Grw st st') {n : Nat} {xs : List D} (h : rdL st n xs) : rdL st' n xs := by
  obtain ⟨m, rfl⟩ := f
  unfold rdL at *
  rw [List.getElem?_append_left (rdL_lt h)]; exact h
theorem Grw.fra {st st' : Store} (f : Grw st st') (h : DrawAt st) : Fra st st' := by
  obtain ⟨m, rfl⟩ := f
  refine ⟨?_, by simp, fun n hn _ => List.getElem?_append_left hn⟩
  obtain ⟨ns, a, b, v, h1, h2, h3⟩ := h
  exact ⟨ns, a, b, v, Grw.rd ⟨m, rfl⟩ h1, Grw.rd ⟨m, rfl⟩ h2, h3⟩
theorem Grw.le {st st' : Store} (f : Grw st st') : st.length ≤ st'.length := by
  obtain ⟨m, rfl⟩ := f
  simp
theorem Fra.set' {st st' : Store} {n : Nat} {c : C} (f : Fra st st') (hn : st.length ≤ n) (h2 : 2 < st.length) : Fra st (st'.set n c) := f.set hn (by omega)
/-! ### the drawer is made -/
def beginBody (c : Cl) : TS := sRet (dLst (aCons (dLc (iSeq (dVar 0)) (gName 1) (tYes) (dB intB (aCons (dVar 1) (aNil))) [1]) (aCons (dC (.int 0)) (aCons (dC (.int 0)) (aCons (dC (.int 7)) (aCons (dC (.int 2)) (aNil)))))))
theorem begin_ok {prog : String → Option Def} (hp : prog "_law_begin" = some ⟨1, 2, beginBody⟩) {k : Nat} {ns : List Int} {Q : K} (hn : ns.length ≤ 63)
    (hQ : ∀ st', DrawAt st' → st'.length = 3 → Q (.ref 2) st') : callN prog (k + 1) "_law_begin" [.ref 0] [.frz (ns.map D.int)] Q := by
  refine call_intro hp rfl ?_
  unfold beginBody
  walk_at "r"
  have hfz : ∀ acc : List D, rdA ([.frz (ns.map D.int)] ++ [.lst acc]) 0 (ns.map D.int) := fun acc => .inr rfl
  refine ⟨ns.map D.int, .inr rfl, ?_⟩
  refine lc_map ns D.int D.int rfl (by unfold szl; omega) hfz (fun x hx acc N hN => ?_) ?_
  · walk_at "r"
    exact hN
  · walk_at "r"
    refine ⟨by show 5 ≤ szl; decide, ?_⟩
    exact hQ _ ⟨ns, 0, 0, 7, rfl, rfl, by decide, by decide, by decide, hn⟩ rfl
/-! ### comprehensions of draws -/
theorem lc_ints {gd : Store → Prop} {g : TG} {te : TE} {ρ : Env} {st : Store} {Q : K} {items : List D} (P : Int → Prop) (hd : DrawAt st) (hl : items.length ≤ szl) (hg : ∀ st', Fra st st' → gd st')
    (hs : ∀ x ∈ items, ∀ st', Fra st st' → ∀ N : D → Store → Prop, (∀ r st2, P r → Fra st' st2 → N (.int r) st2) → g x ρ st' fun ρ2 st2 => te ρ2 st2 N)
    (hQ : ∀ (rs : List Int) st', rs.length = items.length → (∀ r ∈ rs, P r) → Fra st st' → rdL st' st.length (rs.map D.int) → Q (.ref st.length) st') : lcLoop gd g tYes te ρ st.length Q items [] (st ++ [.lst []]) := by
  have h2 := hd.lt
  refine lc_by (fun pre acc st' => ∃ rs : List Int, acc = rs.map D.int ∧ rs.length = pre.length ∧ (∀ r ∈ rs, P r) ∧ Fra st st' ∧ rdL st' st.length acc) ⟨[], rfl, rfl, by simp, (Fra.refl hd).app, rdL_new⟩ (fun pre x post acc st' e ⟨rs, h1, h3, h4, h5, h6⟩ N M hN hM => ?_) (fun acc st' ⟨rs, h1, h3, h4, h5, h6⟩ => ?_)
  · subst h1
    refine ⟨hg _ h5, ?_⟩
    have e1 : (fun (ρ2 : Env) (st2 : Store) => tYes ρ2 st2 fun b st3 => (b = true → te ρ2 st3 N) ∧ (b = false → M st3)) = fun ρ2 st2 => te ρ2 st2 N := by
      funext ρ2 st2
      exact propext ⟨fun q => q.1 rfl, fun q => ⟨fun _ => q, fun e => nomatch e⟩⟩
    rw [e1]
    have hlen := congrArg List.length e
    simp at hlen
    refine hs x (by rw [e]; simp) st' h5 N fun r st2 hr f => ?_
    have h7 := f.rd h6 (by omega)
    refine hN _ _ h7 (by simp; omega) ⟨rs ++ [r], by simp, by simp [h3], ?_, (h5.trans f).set (Nat.le_refl _) (by omega), rdL_set h7⟩
    intro y hy
    rcases List.mem_append.mp hy with hy | hy
    · exact h4 y hy
    · simp at hy; subst hy; exact hr
  · subst h1
    exact ⟨hg _ h5, h6, hQ rs st' h3 h4 h5 h6⟩
/-- two lists, place by place -/
inductive Two {α β : Type} (P : α → β → Prop) : List α → List β → Prop
  | nil : Two P [] []
  | cons {a : α} {b : β} {as : List α} {bs : List β} : P a b → Two P as bs → Two P (a :: as) (b :: bs)
theorem Two.snoc {α β : Type} {P : α → β → Prop} : ∀ {as : List α} {bs : List β} {a : α} {b : β}, Two P as bs → P a b → Two P (as ++ [a]) (bs ++ [b])
  | _, _, _, _, .nil, h => .cons h .nil
  | _, _, _, _, .cons h t, h' => .cons h (Two.snoc t h')
theorem Two.length {α β : Type} {P : α → β → Prop} : ∀ {as : List α} {bs : List β}, Two P as bs → as.length = bs.length
  | _, _, .nil => rfl
  | _, _, .cons _ t => by simp [Two.length t]
theorem Two.imp {α β : Type} {P P' : α → β → Prop} (f : ∀ a b, P a b → P' a b) : ∀ {as : List α} {bs : List β}, Two P as bs → Two P' as bs
  | _, _, .nil => .nil
  | _, _, .cons h t => .cons (f _ _ h) (Two.imp f t)
theorem lc_vals {gd : Store → Prop} {g : TG} {te : TE} {ρ : Env} {st : Store} {Q : K} {items : List D} (P : D → D → Prop) (hd : DrawAt st) (hl : items.length ≤ szl) (hg : ∀ st', Fra st st' → gd st')
    (hs : ∀ x ∈ items, ∀ st', Fra st st' → ∀ N : D → Store → Prop, (∀ y st2, P x y → Fra st' st2 → N y st2) → g x ρ st' fun ρ2 st2 => te ρ2 st2 N)
    (hQ : ∀ (ys : List D) st', Two P items ys → Fra st st' → rdL st' st.length ys → Q (.ref st.length) st') : lcLoop gd g tYes te ρ st.length Q items [] (st ++ [.lst []]) := by
  have h2 := hd.lt
  refine lc_by (fun pre acc st' => Two P pre acc ∧ Fra st st' ∧ rdL st' st.length acc) ⟨.nil, (Fra.refl hd).app, rdL_new⟩ (fun pre x post acc st' e ⟨h1, h5, h6⟩ N M hN hM => ?_) (fun acc st' ⟨h1, h5, h6⟩ => ?_)
  · refine ⟨hg _ h5, ?_⟩
    have e1 : (fun (ρ2 : Env) (st2 : Store) => tYes ρ2 st2 fun b st3 => (b = true → te ρ2 st3 N) ∧ (b = false → M st3)) = fun ρ2 st2 => te ρ2 st2 N := by
      funext ρ2 st2
      exact propext ⟨fun q => q.1 rfl, fun q => ⟨fun _ => q, fun e => nomatch e⟩⟩
    rw [e1]
    have hlen := congrArg List.length e
    simp at hlen
    refine hs x (by rw [e]; simp) st' h5 N fun y st2 hr f => ?_
    have h7 := f.rd h6 (by omega)
    exact hN _ _ h7 (by have := h1.length; omega) ⟨h1.snoc hr, (h5.trans f).set (Nat.le_refl _) (by omega), rdL_set h7⟩
  · exact ⟨hg _ h5, h6, hQ acc st' h1 h5 h6⟩
theorem not_any {α : Type} {p q : α → Bool} : ∀ {l : List α}, (∀ x ∈ l, p x = !q x) → (!l.any p) = l.all q
  | [], _ => rfl
  | x :: l, h => by
    rw [List.any_cons, List.all_cons, Bool.not_or, not_any (l := l) fun y hy => h y (List.mem_cons_of_mem _ hy), h x List.mem_cons_self, Bool.not_not]
/-- a filtered comprehension whose test and element read alone -/
theorem lc_filter {α : Type} {gd : Store → Prop} {g : TG} {tt : TT} {te : TE} {ρ : Env} {st : Store} {Q : K} (xs : List α) (f h : α → D) (p : α → Bool) {items : List D} (hi : items = xs.map f) (hl : xs.length ≤ szl) (hg : ∀ acc, gd (st ++ [.lst acc]))
    (hs : ∀ x, x ∈ xs → ∀ (acc : List D) (N : D → Store → Prop) (M : Store → Prop), (p x = true → N (h x) (st ++ [.lst acc])) → (p x = false → M (st ++ [.lst acc])) → g (f x) ρ (st ++ [.lst acc]) fun ρ2 st2 => tt ρ2 st2 fun b st3 => (b = true → te ρ2 st3 N) ∧ (b = false → M st3))
    (hd : Q (.ref st.length) (st ++ [.lst ((xs.filter p).map h)])) : lcLoop gd g tt te ρ st.length Q items [] (st ++ [.lst []]) := by
  subst hi
  refine lc_by (fun pre acc st' => acc = ((xs.take pre.length).filter p).map h ∧ st' = st ++ [.lst acc]) ⟨rfl, rfl⟩ (fun pre x post acc st' e ⟨h1, h2⟩ N M hN hM => ?_) (fun acc st' ⟨h1, h2⟩ => ?_)
  · subst h1; subst h2
    refine ⟨hg _, ?_⟩
    have hlen : pre.length < xs.length := by
      have := congrArg List.length e
      simp at this; omega
    have hx : xs[pre.length] ∈ xs := List.getElem_mem hlen
    have hfx : x = f xs[pre.length] := by
      have h2 : (xs.map f)[pre.length]? = some x := by rw [e]; simp
      rw [List.getElem?_map, List.getElem?_eq_getElem hlen] at h2
      simpa using h2.symm
    subst hfx
    have take1 : List.take (pre ++ [f xs[pre.length]]).length xs = List.take pre.length xs ++ [xs[pre.length]] := by
      rw [List.length_append]
      show List.take (pre.length + 1) xs = _
      rw [List.take_add_one, List.getElem?_eq_getElem hlen]
      rfl
    have hsz : (List.map h (List.filter p (List.take pre.length xs))).length < szl := by
      rw [List.length_map]
      have h3 := List.length_filter_le p (List.take pre.length xs)
      rw [List.length_take] at h3
      omega
    refine hs _ hx _ N M (fun hp => hN _ _ (by unfold rdL; simp) hsz ⟨?_, by rw [set_app]⟩) fun hp => hM _ (by unfold rdL; simp) ⟨?_, rfl⟩
    · rw [take1, List.filter_append, List.map_append]
      simp [hp]
    · rw [take1, List.filter_append, List.map_append]
      simp [hp]
  · subst h1; subst h2
    have e2 : List.take (List.map f xs).length xs = xs := by simp
    rw [e2] at *
    exact ⟨hg _, by unfold rdL; simp, hd⟩
/-- a comprehension with a test, of ints -/
theorem lc_some {gd : Store → Prop} {g : TG} {tt : TT} {te : TE} {ρ : Env} {st : Store} {Q : K} {items : List D} (P : Int → Prop) (hd : DrawAt st) (hl : items.length ≤ szl) (hg : ∀ st', Fra st st' → gd st')
    (hs : ∀ x ∈ items, ∀ st', Fra st st' → ∀ (N : D → Store → Prop) (M : Store → Prop), (∀ r st2, P r → Fra st' st2 → N (.int r) st2) → (∀ st2, Fra st' st2 → M st2) → g x ρ st' fun ρ2 st2 => tt ρ2 st2 fun b st3 => (b = true → te ρ2 st3 N) ∧ (b = false → M st3))
    (hQ : ∀ (rs : List Int) st', rs.length ≤ items.length → (∀ r ∈ rs, P r) → Fra st st' → rdL st' st.length (rs.map D.int) → Q (.ref st.length) st') : lcLoop gd g tt te ρ st.length Q items [] (st ++ [.lst []]) := by
  have h2 := hd.lt
  refine lc_by (fun pre acc st' => ∃ rs : List Int, acc = rs.map D.int ∧ rs.length ≤ pre.length ∧ (∀ r ∈ rs, P r) ∧ Fra st st' ∧ rdL st' st.length acc) ⟨[], rfl, Nat.le_refl _, by simp, (Fra.refl hd).app, rdL_new⟩ (fun pre x post acc st' e ⟨rs, h1, h3, h4, h5, h6⟩ N M hN hM => ?_) (fun acc st' ⟨rs, h1, h3, h4, h5, h6⟩ => ?_)
  · subst h1
    refine ⟨hg _ h5, ?_⟩
    have hlen := congrArg List.length e
    simp at hlen
    refine hs x (by rw [e]; simp) st' h5 N M (fun r st2 hr f => ?_) fun st2 f => hM _ (f.rd h6 (by omega)) ⟨rs, rfl, by simp; omega, h4, h5.trans f, f.rd h6 (by omega)⟩
    have h7 := f.rd h6 (by omega)
    refine hN _ _ h7 (by simp; omega) ⟨rs ++ [r], by simp, by simp [h3], ?_, (h5.trans f).set (Nat.le_refl _) (by omega), rdL_set h7⟩
    intro y hy
    rcases List.mem_append.mp hy with hy | hy
    · exact h4 y hy
    · simp at hy; subst hy; exact hr
  · subst h1
    exact ⟨hg _ h5, h6, hQ rs st' h3 h4 h5 h6⟩
/-- a comprehension of new lists -/
theorem lc_cells {gd : Store → Prop} {g : TG} {te : TE} {ρ : Env} {st : Store} {Q : K} {items : List D} (P : List D → Prop) (hd : DrawAt st) (hl : items.length ≤ szl) (hg : ∀ st', Fra st st' → gd st')
    (hs : ∀ x ∈ items, ∀ st', Fra st st' → ∀ N : D → Store → Prop, (∀ r xs st2, st'.length ≤ r → rdL st2 r xs → P xs → Fra st' st2 → N (.ref r) st2) → g x ρ st' fun ρ2 st2 => te ρ2 st2 N)
    (hQ : ∀ (rs : List Nat) st', rs.length = items.length → (∀ r ∈ rs, st.length < r ∧ ∃ xs, rdL st' r xs ∧ P xs) → Fra st st' → rdL st' st.length (rs.map D.ref) → Q (.ref st.length) st') : lcLoop gd g tYes te ρ st.length Q items [] (st ++ [.lst []]) := by
  have h2 := hd.lt
  refine lc_by (fun pre acc st' => ∃ rs : List Nat, acc = rs.map D.ref ∧ rs.length = pre.length ∧ (∀ r ∈ rs, st.length < r ∧ ∃ xs, rdL st' r xs ∧ P xs) ∧ Fra st st' ∧ rdL st' st.length acc) ⟨[], rfl, rfl, by simp, (Fra.refl hd).app, rdL_new⟩ (fun pre x post acc st' e ⟨rs, h1, h3, h4, h5, h6⟩ N M hN hM => ?_) (fun acc st' ⟨rs, h1, h3, h4, h5, h6⟩ => ?_)
  · subst h1
    refine ⟨hg _ h5, ?_⟩
    have e1 : (fun (ρ2 : Env) (st2 : Store) => tYes ρ2 st2 fun b st3 => (b = true → te ρ2 st3 N) ∧ (b = false → M st3)) = fun ρ2 st2 => te ρ2 st2 N := by
      funext ρ2 st2
      exact propext ⟨fun q => q.1 rfl, fun q => ⟨fun _ => q, fun e => nomatch e⟩⟩
    rw [e1]
    have hlen := congrArg List.length e
    simp at hlen
    refine hs x (by rw [e]; simp) st' h5 N fun r xs st2 hb hr hp f => ?_
    have h7 := f.rd h6 (by omega)
    have h8 := rdL_lt h6
    refine hN _ _ h7 (by simp; omega) ⟨rs ++ [r], by simp, by simp [h3], ?_, (h5.trans f).set (Nat.le_refl _) (by omega), rdL_set h7⟩
    intro y hy
    rcases List.mem_append.mp hy with hy | hy
    · obtain ⟨q1, ys, q2, q3⟩ := h4 y hy
      exact ⟨q1, ys, rdL_ne (f.rd q2 (by omega)) (by omega), q3⟩
    · simp at hy; subst hy
      exact ⟨by omega, xs, rdL_ne hr (by omega), hp⟩
  · subst h1
    exact ⟨hg _ h5, h6, hQ rs st' h3 h4 h5 h6⟩
theorem Two.mem {α β : Type} {P : α → β → Prop} {S : List α} : ∀ {as : List α} {bs : List β}, (∀ a ∈ as, a ∈ S) → Two (fun a b => a ∈ S → P a b) as bs → Two P as bs
  | _, _, _, .nil => .nil
  | _, _, hS, .cons h t => .cons (h (hS _ List.mem_cons_self)) (Two.mem (fun a ha => hS a (List.mem_cons_of_mem _ ha)) t)
theorem Two.on {α β : Type} {P : α → β → Prop} {as : List α} {bs : List β} (h : Two (fun a b => a ∈ as → P a b) as bs) : Two P as bs := Two.mem (fun _ h => h) h
theorem Two.split {α β γ : Type} {P : α → β → Prop} {R : γ → Prop} {f : γ → β} (h : ∀ a b, P a b → ∃ c, b = f c ∧ R c) : ∀ {as : List α} {bs : List β}, Two P as bs → ∃ cs : List γ, bs = cs.map f ∧ cs.length = as.length ∧ ∀ c ∈ cs, R c
  | _, _, .nil => ⟨[], rfl, rfl, by simp⟩
  | _, _, .cons p t => by
    obtain ⟨c, h1, h2⟩ := h _ _ p
    obtain ⟨cs, h3, h4, h5⟩ := Two.split h t
    refine ⟨c :: cs, by rw [h1, h3]; rfl, by simp [h4], ?_⟩
    intro x hx
    rcases List.mem_cons.mp hx with hx | hx
    · rw [hx]; exact h2
    · exact h5 x hx
/-! ### masks -/
theorem pow2_pos (n : Nat) : (0 : Int) < 2 ^ n := Int.pow_pos (by decide)
theorem pw_bd {w : Int} (h0 : 0 ≤ w) (h1 : w ≤ 8) : 0 < (2 : Int) ^ w.toNat ∧ (2 : Int) ^ w.toNat ≤ 256 := by
  have h2 : w.toNat ≤ 8 := by omega
  have h := pow2_pos w.toNat
  have h3 := Nat.pow_le_pow_right (n := 2) (by decide) h2
  have e : ((2 : Int) ^ w.toNat) = ((2 ^ w.toNat : Nat) : Int) := by simp
  constructor
  · exact h
  · rw [e]; omega
theorem and_le {x m : Int} (hm : 0 ≤ m) : 0 ≤ Builtin.bitAnd x m ∧ Builtin.bitAnd x m ≤ m := by
  unfold Builtin.bitAnd
  by_cases hx : 0 ≤ x
  · simp only [hx, hm, decide_true]
    have := Nat.and_le_right (n := x.toNat) (m := m.toNat)
    omega
  · simp only [hx, hm, decide_true, decide_false]
    have := Nat.and_le_left (n := m.toNat) (m := (Builtin.bitNot x).toNat)
    omega
theorem and_mask {x : Int} {n : Nat} (hx : 0 ≤ x) : Builtin.bitAnd x (2 ^ n - 1) = x % 2 ^ n := by
  have hm : (0 : Int) ≤ 2 ^ n - 1 := by have := pow2_pos n; omega
  unfold Builtin.bitAnd
  simp only [hx, hm, decide_true]
  have e1 : (2 ^ n - 1 : Int).toNat = 2 ^ n - 1 := by
    have : (2 ^ n : Int) = ((2 ^ n : Nat) : Int) := by simp
    rw [this]
    have := Nat.two_pow_pos n
    omega
  rw [e1, Nat.and_two_pow_sub_one_eq_mod]
  have : (2 ^ n : Int) = ((2 ^ n : Nat) : Int) := by simp
  rw [this, Int.natCast_emod, Int.toNat_of_nonneg hx]
theorem or_one {x : Int} (hx : 0 ≤ x) : Builtin.bitOr x 1 = x + 1 - x % 2 := by
  unfold Builtin.bitOr Builtin.bitNot Builtin.bitAnd
  have h1 : ¬ (0 ≤ -x - 1) := by omega
  have h2 : ¬ ((0 : Int) ≤ -1 - 1) := by omega
  simp only [h1, h2, decide_false]
  unfold Builtin.bitNot
  have e1 : (-(-x - 1) - 1).toNat = x.toNat := by omega
  have e2 : (-(-1 - 1 : Int) - 1).toNat = 1 := by decide
  rw [e1, e2]
  have h3 : x.toNat ||| 1 = x.toNat + 1 - x.toNat % 2 := by
    have h4 := Nat.div_add_mod x.toNat 2
    have h6 : 2 * (x.toNat / 2) ||| 1 = 2 * (x.toNat / 2) + 1 := (Nat.two_pow_add_eq_or_of_lt (i := 1) (by decide) (x.toNat / 2)).symm
    rcases Nat.mod_two_eq_zero_or_one x.toNat with h5 | h5
    · have : x.toNat = 2 * (x.toNat / 2) := by omega
      rw [h5]
      rw [← this] at h6
      omega
    · have : x.toNat = 2 * (x.toNat / 2) ||| 1 := by omega
      rw [h5]
      have h7 : x.toNat ||| 1 = x.toNat := by
        conv => lhs; rw [this]
        rw [Nat.or_assoc, Nat.or_self]
        exact this.symm
      omega
  rw [h3]
  omega
end Pd
end PartPdLib

section PartPdKit
set_option Elab.async false
set_option linter.all false
set_option maxRecDepth 100000
/-! Pd: small defs that several laws have. Own work. -/
namespace Pd
open PySem
local macro_rules | `(tactic| walk_at "s") => `(tactic| (repeat (refine Red.red ?_)))
local macro_rules | `(tactic| walk_at "r") => `(tactic| (repeat (first | refine Red.red ?_ | refine Nxt.mk ?_)))
instance {x : D} {xs : List D} {st : Store} {r : Bool → Prop} : Red (inC x (.tup xs) st r) (x.flat = true ∧ xs.all D.flat = true ∧ r (xs.any fun y => D.eqb y x)) := ⟨id⟩
instance {x : D} {xs : List D} {st : Store} {r : Bool → Prop} : Red (notinC x (.tup xs) st r) (x.flat = true ∧ xs.all D.flat = true ∧ r (!xs.any fun y => D.eqb y x)) := ⟨id⟩
/-- a, b = x, y -/
def ParK (i j : Nat) (xs : List D) (σ : Env) (q : Env → Prop) : Prop := ∃ x y, xs = [x, y] ∧ q ((σ.set i (some x)).set j (some y))
instance {i j : Nat} {Ar : TA} {D0 : Ends} {σ : Env} {st : Store} : Red (sPar i j Ar D0 σ st) (Ar σ st fun xs st1 => ParK i j xs σ fun σ' => D0.nx σ' st1) := ⟨id⟩
instance {i j : Nat} {σ σ' σ'' : Env} {x y : D} {q : Env → Prop} [h : SetE σ i (some x) σ'] [h' : SetE σ' j (some y) σ''] : Red (ParK i j [x, y] σ q) (q σ'') := ⟨fun z => ⟨x, y, rfl, by rw [h.eq, h'.eq]; exact z⟩⟩
instance {a b : Bool} {st : Store} {r : Bool → Prop} : Red (eqC (.bl a) (.bl b) st r) (r (a == b)) := ⟨fun h => ⟨rfl, rfl, h⟩⟩
instance {a b : Bool} {st : Store} {r : Bool → Prop} : Red (neC (.bl a) (.bl b) st r) (r (!(a == b))) := ⟨fun h => ⟨rfl, rfl, h⟩⟩
theorem at_is {xs : List D} {i : Int} {d : D} {P : D → Prop} (h : atD xs i = some d) (q : P d) : ∃ d, atD xs i = some d ∧ P d := ⟨d, h, q⟩
theorem zipD_maps {α β : Type} (f : α → D) (g : β → D) : ∀ (xs : List α) (ys : List β), zipD (xs.map f) (ys.map g) = (xs.zip ys).map fun p => D.tup [f p.1, g p.2]
  | [], ys => by cases ys <;> rfl
  | x :: xs, [] => rfl
  | x :: xs, y :: ys => by simp [zipD, zipD_maps f g xs ys]
mutual
theorem eqb_refl : ∀ (n : Nat) (d : D), D.okd n d = true → D.eqb d d = true
  | _, .non, _ => rfl
  | _, .bl b, _ => by simp [D.eqb]
  | _, .int i, _ => by simp [D.eqb]
  | _, .str x, _ => by simp [D.eqb]
  | 0, .tup _, h => by simp [D.okd] at h
  | n + 1, .tup xs, h => by
    have := eqbs_refl n xs (by simpa [D.okd] using h)
    simpa [D.eqb] using this
  | _, .ref _, h => by simp [D.okd] at h
theorem eqbs_refl : ∀ (n : Nat) (ds : List D), okds n ds = true → eqbs ds ds = true
  | _, [], _ => rfl
  | n, d :: ds, h => by
    have h' : D.okd n d = true ∧ okds n ds = true := by simpa [okds] using h
    have h1 := eqb_refl n d h'.1
    have h2 := eqbs_refl n ds h'.2
    simp [eqbs, h1, h2]
end
theorem okds_all (n : Nat) : ∀ ds : List D, okds n ds = ds.all (D.okd n)
  | [] => rfl
  | d :: ds => by simp [okds, okds_all n ds]
theorem ne_self {d : D} {st : Store} {r : Bool → Prop} (h : D.okd 60 d = true) (hr : ∀ n, d ≠ .ref n) (q : r false) : neC d d st r := by
  have e := eqb_refl 60 d h
  have key : eqC d d st fun b => r (!b) := by
    cases d with
    | ref n => exact absurd rfl (hr n)
    | non => exact ⟨h, h, by rw [e]; exact q⟩
    | bl b => exact ⟨h, h, by rw [e]; exact q⟩
    | int b => exact ⟨h, h, by rw [e]; exact q⟩
    | str b => exact ⟨h, h, by rw [e]; exact q⟩
    | tup b => exact ⟨h, h, by rw [e]; exact q⟩
  exact key
/-! dicts -/
theorem put_len (kvs : List (Ky × D)) (k : Ky) (v : D) : (putD kvs k v).length ≤ kvs.length + 1 := by
  unfold putD
  split <;> simp
theorem val_put (kvs : List (Ky × D)) (k j : Ky) (v : D) : valD (putD kvs k v) j = if j = k then some v else valD kvs j := by
  unfold putD
  split
  · rename_i h
    induction kvs with
    | nil => simp at h
    | cons p kvs ih =>
      obtain ⟨a, d⟩ := p
      by_cases e : a = k
      · subst e
        by_cases ej : j = a
        · subst ej; simp [valD]
        · have ej' : ¬ a = j := fun z => ej z.symm
          have rest : ∀ l : List (Ky × D), valD (l.map fun kv => if kv.1 = a then (kv.1, v) else kv) j = valD l j := by
            intro l
            induction l with
            | nil => rfl
            | cons q l ih2 =>
              obtain ⟨b, z⟩ := q
              by_cases eb : b = a
              · subst eb
                simp [valD, ej'] at ih2 ⊢
                exact ih2
              · by_cases ebj : b = j
                · subst ebj; simp [valD, eb]
                · simp [valD, eb, ebj] at ih2 ⊢
                  exact ih2
          rw [if_neg ej]
          exact rest _
      · have h' : (kvs.any fun kv => decide (kv.1 = k)) = true := by simpa [e] using h
        have ih' := ih h'
        by_cases ea : a = j
        · subst ea
          simp [valD, e]
        · simp [valD, e, ea] at ih' ⊢
          exact ih'
  · rename_i h
    have hno : ∀ p ∈ kvs, ¬ p.1 = k := fun p hp e => h (List.any_eq_true.mpr ⟨p, hp, by simp [e]⟩)
    clear h
    induction kvs with
    | nil =>
      by_cases e : j = k
      · subst e; simp [valD]
      · have : ¬ k = j := fun z => e z.symm
        simp [valD, e, this]
    | cons p kvs ih =>
      obtain ⟨a, d⟩ := p
      have hak : ¬ a = k := hno (a, d) List.mem_cons_self
      have ih' := ih fun q hq => hno q (List.mem_cons_of_mem _ hq)
      by_cases ea : a = j
      · subst ea
        rw [if_neg hak]
        simp [valD]
      · simp [valD, ea] at ih' ⊢
        exact ih'
theorem dc_pure {α : Type} {gd : Store → Prop} {g : TG} {tk tv : TE} {ρ : Env} {st : Store} {Q : K} (f : α → D) (kf : α → Ky) (vf : α → D) (hg : ∀ acc, gd (st ++ [.dic acc])) : ∀ (xs : List α) (acc : List (Ky × D)) {items : List D}, items = xs.map f → acc.length + xs.length ≤ szl →
    (∀ x, x ∈ xs → ∀ (acc : List (Ky × D)) (N : D → D → Store → Prop), N (keyD (kf x)) (vf x) (st ++ [.dic acc]) → g (f x) ρ (st ++ [.dic acc]) fun ρ2 st2 => tk ρ2 st2 fun y st4 => tv ρ2 st4 fun z st5 => N y z st5) →
    Q (.ref st.length) (st ++ [.dic (xs.foldl (fun acc x => putD acc (kf x) (vf x)) acc)]) → dcLoop gd g tYes tk tv ρ st.length Q items acc (st ++ [.dic acc])
  | [], acc, items, e, hl, hs, hd => by
    subst e
    exact ⟨hg _, by unfold rdD; simp, hd⟩
  | x :: xs, acc, items, e, hl, hs, hd => by
    subst e
    refine ⟨hg _, ?_⟩
    have e1 : ∀ (R : D → D → Store → Prop), (fun (ρ2 : Env) (st2 : Store) => tYes ρ2 st2 fun b st3 => (b = true → tk ρ2 st3 fun y st4 => tv ρ2 st4 fun z st5 => R y z st5) ∧ (b = false → rdD st3 st.length acc ∧ dcLoop gd g tYes tk tv ρ st.length Q (xs.map f) acc st3)) = fun ρ2 st2 => tk ρ2 st2 fun y st4 => tv ρ2 st4 fun z st5 => R y z st5 := fun R => by
      funext ρ2 st2
      exact propext ⟨fun q => q.1 rfl, fun q => ⟨fun _ => q, fun e => nomatch e⟩⟩
    rw [e1]
    simp only [List.length_cons] at hl
    refine hs x List.mem_cons_self acc _ ⟨kf x, rfl, by unfold rdD; simp, by omega, ?_⟩
    have e2 : (st ++ [C.dic acc]).set st.length (.dic (putD acc (kf x) (vf x))) = st ++ [.dic (putD acc (kf x) (vf x))] := by
      rw [List.set_append_right _ _ (Nat.le_refl _)]; simp
    rw [e2]
    have := put_len acc (kf x) (vf x)
    exact dc_pure f kf vf hg xs _ rfl (by omega) (fun y hy => hs y (List.mem_cons_of_mem _ hy)) hd
section
variable {prog : String → Option Def} {k : Nat} {st : Store} {Q : K}
def pickBody (c : Cl) : TS := sRet (dOp ixK (dVar 1) (dCall c "_law_draw" (aCons (dVar 0) (aCons (dB lenB (aCons (dVar 1) (aNil))) (aNil)))))
theorem pick_ok (hp : prog "_law_pick" = some ⟨2, 2, pickBody⟩) (hp2 : prog "_law_draw" = some ⟨2, 5, drawBody⟩) {n : Nat} {xs : List D} (hd : DrawAt st) (h : rdL st n xs) (hn : n ≠ 2) (h0 : 0 < xs.length) (h1 : xs.length < 1073741824)
    (q : ∀ x st', x ∈ xs → Fra st st' → st'.length = st.length → Q x st') : callN prog (k + 2) "_law_pick" [.ref 2, .ref n] st Q := by
  refine call_intro hp rfl ?_
  unfold pickBody
  walk_at "r"
  refine len_at h ?_
  walk_at "r"
  refine draw_ok hp2 hd (by omega) (by omega) fun r st' r0 r1 f fl => ?_
  obtain ⟨x, hx, _, e⟩ := atD_of (xs := xs) r0 r1
  exact ix_at (f.rd h hn) e (q x st' hx f fl)
theorem pickT_ok (hp : prog "_law_pick" = some ⟨2, 2, pickBody⟩) (hp2 : prog "_law_draw" = some ⟨2, 5, drawBody⟩) {xs : List D} (hd : DrawAt st) (h0 : 0 < xs.length) (h1 : xs.length < 1073741824)
    (q : ∀ x st', x ∈ xs → Fra st st' → st'.length = st.length → Q x st') : callN prog (k + 2) "_law_pick" [.ref 2, .tup xs] st Q := by
  refine call_intro hp rfl ?_
  unfold pickBody
  walk_at "r"
  refine draw_ok hp2 hd (by omega) (by omega) fun r st' r0 r1 f fl => ?_
  obtain ⟨x, hx, _, e⟩ := atD_of (xs := xs) r0 r1
  exact ⟨x, e, q x st' hx f fl⟩
def rareBody (c : Cl) : TS := sRet (dCmp eqC (dCall c "_law_draw" (aCons (dVar 0) (aCons (dVar 1) (aNil)))) (dOp fdivK (dVar 1) (dC (.int 2))))
theorem rareK_ok (hp : prog "_law_rare" = some ⟨2, 2, rareBody⟩) (hp2 : prog "_law_draw" = some ⟨2, 5, drawBody⟩) {many : Int} (h : DrawAt st) (h0 : 0 < many) (h1 : many < 1073741824) (q : ∀ b st', Fra st st' → st'.length = st.length → Q (.bl b) st') : callN prog (k + 2) "_law_rare" [.ref 2, .int many] st Q := by
  refine call_intro hp rfl ?_
  unfold rareBody
  walk_at "r"
  refine draw_ok hp2 h h0 h1 fun r st' r0 r1 f fl => ?_
  walk_at "r"
  refine ⟨⟨by decide, by decide⟩, ?_⟩
  walk_at "r"
  exact q _ _ f fl
def isIntBody (c : Cl) : TS := sRet (dAndT (dIsi .int (dVar 0)) (dNotT (dIsi .bool (dVar 0))))
theorem isInt_ok (hp : prog "_law_is_int" = some ⟨1, 1, isIntBody⟩) {i : Int} (q : Q (.bl true) st) : callN prog (k + 1) "_law_is_int" [.int i] st Q := by
  refine call_intro hp rfl ?_
  unfold isIntBody
  walk_at "r"
  refine wayT rfl ?_
  walk_at "r"
  exact q
def fullI (w : Int) : Int := 2 ^ w.toNat - 1
theorem fullI_bd {w : Int} (h0 : 0 ≤ w) (h1 : w ≤ 8) : 0 ≤ fullI w ∧ fullI w ≤ 255 := by
  have := pw_bd h0 h1
  unfold fullI
  omega
theorem cmul_small {a b : Int} (h0 : 0 ≤ b) (h1 : b ≤ 1000000) : cMul a b := .inr ⟨by omega, by omega⟩
theorem cpow_small {w : Int} (h0 : 0 ≤ w) (h1 : w ≤ 1000) : cPow 1 w := ⟨h0, by omega, by decide⟩
def greatestBody (c : Cl) : TS := sRet (dOp subK (dOp shlK (dC (.int 1)) (dVar 0)) (dC (.int 1)))
theorem greatest_ok (hp : prog "greatest" = some ⟨1, 1, greatestBody⟩) {w : Int} (h0 : 0 ≤ w) (h1 : w ≤ 8) (q : Q (.int (fullI w)) st) : callN prog (k + 1) "greatest" [.int w] st Q := by
  refine call_intro hp rfl ?_
  unfold greatestBody
  walk_at "r"
  refine ⟨cpow_small h0 (by omega), ?_⟩
  walk_at "r"
  rw [Int.one_mul]
  exact q
/-- the first place of n at which P holds -/
def Fnd (P : Nat → Prop) (n : Nat) : Option Nat → Prop
  | some t => t < n ∧ P t ∧ ∀ u, u < t → ¬ P u
  | none => ∀ u, u < n → ¬ P u
theorem Fnd.uniq {P : Nat → Prop} {n : Nat} : ∀ {r r' : Option Nat}, Fnd P n r → Fnd P n r' → r = r'
  | none, none, _, _ => rfl
  | some t, none, h, h' => absurd h.2.1 (h' t h.1)
  | none, some t, h, h' => absurd h'.2.1 (h t h'.1)
  | some t, some t', h, h' => by
    rcases Nat.lt_trichotomy t t' with e | e | e
    · exact absurd h.2.1 (h'.2.2 t e)
    · rw [e]
    · exact absurd h'.2.1 (h.2.2 t' e)
def optD : Option Nat → D
  | some t => .int t
  | none => .non
/-- cells are as they were, but the drawer and p -/
structure FraE (p : Nat) (st st' : Store) : Prop where
  dr : DrawAt st'
  le : st.length ≤ st'.length
  at' : ∀ n, n < st.length → n ≠ 2 → n ≠ p → st'[n]? = st[n]?
theorem FraE.rd {p : Nat} {st st' : Store} (f : FraE p st st') {n : Nat} {xs : List D} (h : rdL st n xs) (ne : n ≠ 2) (ne' : n ≠ p) : rdL st' n xs := by
  unfold rdL at *
  rw [f.at' n (rdL_lt h) ne ne']; exact h
theorem FraE.of {p : Nat} {st st' : Store} (f : Fra st st') : FraE p st st' := ⟨f.dr, f.le, fun n h1 h2 _ => f.at' n h1 h2⟩
theorem FraE.trans {p : Nat} {a b c : Store} (h : FraE p a b) (h' : FraE p b c) : FraE p a c := ⟨h'.dr, Nat.le_trans h.le h'.le, fun n hn ne ne' => (h'.at' n (Nat.lt_of_lt_of_le hn h.le) ne ne').trans (h.at' n hn ne ne')⟩
theorem FraE.setP {p : Nat} {st st' : Store} {c : C} (f : FraE p st st') (h2 : 2 < p) : FraE p st (st'.set p c) := ⟨f.dr.set h2, by simp; exact f.le, fun m hm ne ne' => by
  rw [List.getElem?_set_ne (Ne.symm ne')]; exact f.at' m hm ne ne'⟩
theorem FraE.fra {p : Nat} {st st' : Store} (f : FraE p st st') (h : st.length ≤ p) : Fra st st' := ⟨f.dr, f.le, fun n hn ne => f.at' n hn ne (by omega)⟩
theorem FraE.setN {p : Nat} {st st' : Store} {n : Nat} {c : C} (f : FraE p st st') (hn : st.length ≤ n) (h2 : 2 < n) : FraE p st (st'.set n c) := ⟨f.dr.set h2, by simp; exact f.le, fun m hm ne ne' => by
  rw [List.getElem?_set_ne (by omega)]; exact f.at' m hm ne ne'⟩
/-- cells of before are as they were; the new ones, g among them, as they come -/
structure FraG (g : Nat) (st st' : Store) : Prop where
  big : st.length ≤ g
  at' : ∀ n, n < st.length → st'[n]? = st[n]?
  le : st.length ≤ st'.length
theorem FraG.new {st : Store} {c : C} : FraG st.length st (st ++ [c]) := ⟨Nat.le_refl _, fun n h => List.getElem?_append_left h, by simp⟩
theorem FraG.refl {st : Store} {g : Nat} (h : st.length ≤ g) : FraG g st st := ⟨h, fun _ _ => rfl, Nat.le_refl _⟩
theorem FraG.rd {g : Nat} {st st' : Store} (f : FraG g st st') {n : Nat} {xs : List D} (h : rdL st n xs) (hn : n < st.length) : rdL st' n xs := by
  unfold rdL at *
  rw [f.at' n hn]; exact h
theorem FraG.app {g : Nat} {st st' : Store} {c : C} (f : FraG g st st') : FraG g st (st' ++ [c]) := ⟨f.big, fun n h => by rw [List.getElem?_append_left (Nat.lt_of_lt_of_le h f.le)]; exact f.at' n h, by simp; have := f.le; omega⟩
theorem FraG.setG {g : Nat} {st st' : Store} {c : C} (f : FraG g st st') : FraG g st (st'.set g c) := ⟨f.big, fun n h => by
  have := f.big
  rw [List.getElem?_set_ne (by omega)]; exact f.at' n h, by simp; exact f.le⟩
theorem FraG.setN {g n : Nat} {st st' : Store} {c : C} (f : FraG g st st') (hn : st.length ≤ n) : FraG g st (st'.set n c) := ⟨f.big, fun m h => by
  rw [List.getElem?_set_ne (by omega)]; exact f.at' m h, by simp; exact f.le⟩
theorem FraG.grw {g : Nat} {st st' : Store} (f : FraG g st st') : Grw st st' := by
  refine ⟨st'.drop st.length, ?_⟩
  apply List.ext_getElem?
  intro n
  by_cases h : n < st.length
  · rw [f.at' n h, List.getElem?_append_left h]
  · rw [List.getElem?_append_right (by omega), List.getElem?_drop, show st.length + (n - st.length) = n by omega]
theorem FraG.more {g : Nat} {st st' st2 : Store} (f : FraG g st st') (h : Grw st' st2) : FraG g st st2 := by
  obtain ⟨m, rfl⟩ := h
  exact ⟨f.big, fun n h => by rw [List.getElem?_append_left (Nat.lt_of_lt_of_le h f.le)]; exact f.at' n h, by simp; have := f.le; omega⟩
/-- the element adds cells alone: the new list is the map -/
theorem lc_mapG {α : Type} {gd : Store → Prop} {g : TG} {te : TE} {ρ : Env} (xs : List α) (f h : α → D) {items : List D} (hi : items = xs.map f) (hl : xs.length ≤ szl) (hg : ∀ st', FraG st.length st st' → gd st')
    (hs : ∀ x, x ∈ xs → ∀ (st1 : Store) (N : D → Store → Prop), FraG st.length st st1 → (∀ st2, Grw st1 st2 → N (h x) st2) → g (f x) ρ st1 fun ρ2 st2 => te ρ2 st2 N)
    (hd : ∀ st', FraG st.length st st' → rdL st' st.length (xs.map h) → Q (.ref st.length) st') : lcLoop gd g tYes te ρ st.length Q items [] (st ++ [.lst []]) := by
  subst hi
  refine lc_by (fun pre acc st' => acc = (xs.take pre.length).map h ∧ FraG st.length st st' ∧ rdL st' st.length acc) ⟨rfl, FraG.new, rdL_new⟩ (fun pre x post acc st' e ⟨h1, h5, h6⟩ N M hN hM => ?_) (fun acc st' ⟨h1, h5, h6⟩ => ?_)
  · refine ⟨hg _ h5, ?_⟩
    have e1 : (fun (ρ2 : Env) (st2 : Store) => tYes ρ2 st2 fun b st3 => (b = true → te ρ2 st3 N) ∧ (b = false → M st3)) = fun ρ2 st2 => te ρ2 st2 N := by
      funext ρ2 st2
      exact propext ⟨fun q => q.1 rfl, fun q => ⟨fun _ => q, fun e => nomatch e⟩⟩
    rw [e1]
    have hlen := congrArg List.length e
    simp at hlen
    have hx : (xs.map f)[pre.length]? = some x := by rw [e]; simp
    rw [List.getElem?_map] at hx
    cases hy : xs[pre.length]? with
    | none => rw [hy] at hx; cases hx
    | some y =>
      rw [hy] at hx
      cases hx
      refine hs y (List.mem_of_getElem? hy) st' _ h5 fun st2 gr => ?_
      have h7 := gr.rd h6
      refine hN _ _ h7 (by rw [h1]; simp; omega) ⟨?_, (h5.more gr).setG, rdL_set h7⟩
      rw [List.length_append]
      show _ = (xs.take (pre.length + 1)).map h
      rw [List.take_add_one, hy, List.map_append, h1]; rfl
  · rw [List.length_map, List.take_length] at h1
    subst h1
    exact ⟨hg _ h5, h6, hd st' h5 h6⟩
def popBody (c : Cl) : TS := sRet (dM tyLst popM (dVar 1) (aCons (dCall c "_law_draw" (aCons (dVar 0) (aCons (dB lenB (aCons (dVar 1) (aNil))) (aNil)))) (aNil)))
theorem pop_ok (hp : prog "_law_pop" = some ⟨2, 2, popBody⟩) (hp2 : prog "_law_draw" = some ⟨2, 5, drawBody⟩) {n : Nat} {xs : List D} (hd : DrawAt st) (h : rdL st n xs) (hn : 2 < n) (h0 : 0 < xs.length) (h1 : xs.length < 1073741824)
    (q : ∀ (i : Nat) x st', xs[i]? = some x → FraE n st st' → rdL st' n (xs.eraseIdx i) → st'.length = st.length → Q x st') : callN prog (k + 2) "_law_pop" [.ref 2, .ref n] st Q := by
  refine call_intro hp rfl ?_
  unfold popBody
  walk_at "r"
  refine ⟨ty_at h, ?_⟩
  walk_at "r"
  refine len_at h ?_
  walk_at "r"
  refine draw_ok hp2 hd (by omega) (by omega) fun r st' r0 r1 f fl => ?_
  walk_at "r"
  obtain ⟨x, hx, e', e⟩ := atD_of (xs := xs) r0 r1
  have h' := f.rd h (by omega)
  exact ⟨xs, x, h', ⟨r0, by omega⟩, e, q r.toNat x _ e' ((FraE.of f).setP hn) (rdL_set h') (by simp [fl])⟩

def shuffledBody (c : Cl) : TS := sSeq (sAsg (dB listB (aCons (dVar 1) (aNil))) (gName 2)) (sSeq (sAsg (dLst (aNil)) (gName 3)) (sSeq (sFor (iR1 (dB lenB (aCons (dVar 2) (aNil)))) (gName 4) (sExpr (dM tyLst appendM (dVar 3) (aCons (dM tyLst popM (dVar 2) (aCons (dCall c "_law_draw" (aCons (dVar 0) (aCons (dB lenB (aCons (dVar 2) (aNil))) (aNil)))) (aNil))) (aNil))))) (sRet (dVar 3))))
theorem perm_erase {α : Type} {x : α} : ∀ {l : List α} {i : Nat}, l[i]? = some x → (x :: l.eraseIdx i).Perm l
  | [], _, h => by simp at h
  | a :: l, 0, h => by simp at h; subst h; exact List.Perm.refl _
  | a :: l, i + 1, h => (List.Perm.swap a x _).trans ((perm_erase (l := l) (i := i) (by simpa using h)).cons a)
theorem shuffled_ok (hp : prog "_law_shuffled" = some ⟨2, 5, shuffledBody⟩) (hp2 : prog "_law_draw" = some ⟨2, 5, drawBody⟩) {n : Nat} {xs : List D} (hd : DrawAt st) (h : rdL st n xs) (hn : 2 < n) (h1 : xs.length < 1000000)
    (q : ∀ fn ys st', ys.Perm xs → st.length ≤ fn → rdL st' fn ys → Fra st st' → Q (.ref fn) st') : callN prog (k + 2) "_law_shuffled" [.ref 2, .ref n] st Q := by
  refine call_intro hp rfl ?_
  unfold shuffledBody
  have d2 := hd.lt
  walk_at "r"
  refine list_at h ?_
  walk_at "r"
  refine ⟨by show 0 ≤ szl; decide, ?_⟩
  walk_at "r"
  refine len_at (rdL_app rdL_new) ?_
  walk_at "r"
  refine ⟨by omega, by omega, ?_⟩
  have l1 : st.length < (st ++ [C.lst xs]).length := by simp
  have f0 := ((Fra.refl hd).app (c := C.lst xs)).app (c := C.lst [])
  have hf0 := rdL_new (st := st ++ [C.lst xs]) (xs := [])
  have hl0 : rdL (st ++ [C.lst xs] ++ [C.lst []]) st.length xs := rdL_app rdL_new
  generalize (st ++ [C.lst xs]).length = fn at l1 hf0 ⊢
  generalize (st ++ [C.lst xs] ++ [C.lst []]) = st1 at f0 hf0 hl0 ⊢
  refine for_rng (fun j σ st' => ∃ y4 ls fs, σ = [some (.ref 2), some (.ref n), some (.ref st.length), some (.ref fn), y4] ∧ rdL st' st.length ls ∧ rdL st' fn fs ∧ (fs ++ ls).Perm xs ∧ fs.length = j ∧ Fra st st') ⟨none, xs, [], rfl, hl0, hf0, List.Perm.refl _, rfl, f0⟩ (fun j σ st' hj ⟨y4, ls, fs, e, hls, hfs, pm, hfl, f⟩ N hN => ?_) (fun σ st' ⟨y4, ls, fs, e, hls, hfs, pm, hfl, f⟩ => ?_)
  · subst e
    have hpl := pm.length_eq
    rw [List.length_append] at hpl
    refine ⟨trivial, ?_⟩
    walk_at "r"
    refine ⟨ty_at hfs, ?_⟩
    walk_at "r"
    refine ⟨ty_at hls, ?_⟩
    walk_at "r"
    refine len_at hls ?_
    walk_at "r"
    refine draw_ok hp2 f.dr (by omega) (by omega) fun r st2 r0 r1 f2 l2 => ?_
    walk_at "r"
    obtain ⟨x, hx, e', e⟩ := atD_of (xs := ls) r0 r1
    have hls2 := f2.rd hls (by omega)
    have hfs2 := f2.rd hfs (by omega)
    refine ⟨ls, x, hls2, ⟨r0, by omega⟩, e, ?_⟩
    walk_at "r"
    have hfs3 : rdL (st2.set st.length (.lst (ls.eraseIdx r.toNat))) fn fs := rdL_ne hfs2 (by omega)
    refine append_at hfs3 (by unfold szl; omega) ?_
    refine hN _ _ ⟨_, ls.eraseIdx r.toNat, fs ++ [x], rfl, rdL_ne (rdL_set hls2) (by omega), rdL_set hfs3, ?_, by simp [hfl], ((f.trans f2).set (Nat.le_refl _) d2).set (by omega) (by omega)⟩
    rw [List.append_assoc]
    exact ((perm_erase e').append_left fs).trans pm
  · subst e
    refine ⟨trivial, ?_⟩
    walk_at "r"
    have hpl := pm.length_eq
    rw [List.length_append] at hpl
    have hl : ls = [] := List.eq_nil_of_length_eq_zero (by omega)
    subst hl
    rw [List.append_nil] at pm
    exact q fn fs st' pm (by omega) hfs f
theorem and_maskZ (x : Int) (n : Nat) : Builtin.bitAnd x (2 ^ n - 1) = x % 2 ^ n := by
  by_cases hx : 0 ≤ x
  · exact and_mask hx
  · have hm : (0 : Int) ≤ 2 ^ n - 1 := by have := pow2_pos n; omega
    unfold Builtin.bitAnd
    simp only [hx, hm, decide_true, decide_false]
    unfold Builtin.bitNot
    have e1 : (2 ^ n - 1 : Int).toNat = 2 ^ n - 1 := by
      have : (2 ^ n : Int) = ((2 ^ n : Nat) : Int) := by simp
      rw [this]
      have := Nat.two_pow_pos n
      omega
    obtain ⟨m, hm2⟩ : ∃ m : Nat, (-x - 1).toNat = m := ⟨_, rfl⟩
    have hx2 : x = -(m : Int) - 1 := by omega
    rw [hm2, e1, Nat.and_comm, Nat.and_two_pow_sub_one_eq_mod, hx2]
    have hp := pow2_pos n
    have c : ((2 : Int) ^ n) = ((2 ^ n : Nat) : Int) := by simp
    have h1 := Nat.div_add_mod m (2 ^ n)
    have h2 := Nat.mod_lt m (Nat.two_pow_pos n)
    have h3 : -(m : Int) - 1 = ((2 : Int) ^ n - 1 - ((m % 2 ^ n : Nat) : Int)) + 2 ^ n * (-((m / 2 ^ n : Nat) : Int) - 1) := by
      have h4 : (m : Int) = 2 ^ n * ((m / 2 ^ n : Nat) : Int) + ((m % 2 ^ n : Nat) : Int) := by
        rw [c, ← Int.natCast_mul, ← Int.natCast_add, h1]
      rw [Int.mul_sub, Int.mul_neg, Int.mul_one]
      omega
    rw [h3, Int.add_mul_emod_self_left, Int.emod_eq_of_lt (by omega) (by omega)]

/-- a for over known items, by the place -/
theorem for_map {α : Type} {gd : Store → Prop} {g : TG} {tb : TS} {D0 : Ends} {σ : Env} (xs : List α) (f : α → D) {items : List D} (hi : items = xs.map f) (Pv : Nat → Env → Store → Prop) (h0 : Pv 0 σ st)
    (hs : ∀ j x σ st, xs[j]? = some x → Pv j σ st → ∀ N : Env → Store → Prop, (∀ σ st, Pv (j + 1) σ st → N σ st) → gd st ∧ g (f x) σ st fun σ2 st2 => tb { D0 with nx := N, ct := N, bk := D0.nx } σ2 st2)
    (hd : ∀ σ st, Pv xs.length σ st → gd st ∧ D0.nx σ st) : forLoop gd g tb D0 items σ st := by
  subst hi
  refine for_by (fun pre σ st => Pv pre.length σ st) h0 (fun pre x post σ st e h N hN => ?_) (fun σ st h => hd σ st (by simpa using h))
  have hx : (xs.map f)[pre.length]? = some x := by rw [e]; simp
  rw [List.getElem?_map] at hx
  cases hy : xs[pre.length]? with
  | none => rw [hy] at hx; cases hx
  | some y =>
    rw [hy] at hx
    cases hx
    exact hs pre.length y σ st hy h N fun σ st h' => hN σ st (by simpa using h')
theorem lc_two {α β : Type} {gd : Store → Prop} {g : TG} {te : TE} {ρ : Env} (xs : List α) (f : α → D) (f' : β → D) (P : α → β → Prop) {items : List D} (hi : items = xs.map f) (hd : DrawAt st) (hl : xs.length ≤ szl) (hg : ∀ st', Fra st st' → gd st')
    (hs : ∀ x ∈ xs, ∀ st', Fra st st' → ∀ N : D → Store → Prop, (∀ y st2, P x y → Fra st' st2 → N (f' y) st2) → g (f x) ρ st' fun ρ2 st2 => te ρ2 st2 N)
    (hQ : ∀ (ys : List β) st', Two P xs ys → Fra st st' → rdL st' st.length (ys.map f') → Q (.ref st.length) st') : lcLoop gd g tYes te ρ st.length Q items [] (st ++ [.lst []]) := by
  subst hi
  have key : ∀ {as : List α} {zs : List D}, Two (fun a z => ∃ b, z = f' b ∧ P a b) as zs → ∃ bs : List β, zs = bs.map f' ∧ Two P as bs := by
    intro as zs h
    induction h with
    | nil => exact ⟨[], rfl, .nil⟩
    | cons p _ ih =>
      obtain ⟨b, h1, h2⟩ := p
      obtain ⟨bs, h3, h4⟩ := ih
      exact ⟨b :: bs, by rw [h1, h3]; rfl, .cons h2 h4⟩
  have h2 := hd.lt
  refine lc_by (fun pre acc st' => Two (fun a z => ∃ b, z = f' b ∧ P a b) (xs.take pre.length) acc ∧ Fra st st' ∧ rdL st' st.length acc) ⟨.nil, (Fra.refl hd).app, rdL_new⟩ (fun pre x post acc st' e ⟨h1, h5, h6⟩ N M hN hM => ?_) (fun acc st' ⟨h1, h5, h6⟩ => ?_)
  · refine ⟨hg _ h5, ?_⟩
    have e1 : (fun (ρ2 : Env) (st2 : Store) => tYes ρ2 st2 fun b st3 => (b = true → te ρ2 st3 N) ∧ (b = false → M st3)) = fun ρ2 st2 => te ρ2 st2 N := by
      funext ρ2 st2
      exact propext ⟨fun q => q.1 rfl, fun q => ⟨fun _ => q, fun e => nomatch e⟩⟩
    rw [e1]
    have hlen := congrArg List.length e
    simp at hlen
    have hx : (xs.map f)[pre.length]? = some x := by rw [e]; simp
    rw [List.getElem?_map] at hx
    cases hy : xs[pre.length]? with
    | none => rw [hy] at hx; cases hx
    | some y =>
      rw [hy] at hx
      cases hx
      refine hs y (List.mem_of_getElem? hy) st' h5 N fun z st2 hr fr => ?_
      have h7 := fr.rd h6 (by omega)
      have hal := h1.length
      rw [List.length_take] at hal
      refine hN _ _ h7 (by omega) ⟨?_, (h5.trans fr).set (Nat.le_refl _) (by omega), rdL_set h7⟩
      rw [List.length_append]
      show Two _ (xs.take (pre.length + 1)) _
      rw [List.take_add_one, hy]
      exact h1.snoc ⟨z, rfl, hr⟩
  · rw [List.length_map, List.take_length] at h1
    obtain ⟨bs, rfl, h8⟩ := key h1
    exact ⟨hg _ h5, h6, hQ bs st' h8 h5 h6⟩
end
end Pd
end PartPdKit

section PartPdk30B
set_option linter.all false
set_option maxRecDepth 100000
namespace Pk30
open PySem Pd
def b_p_greatest (c : Cl) : TS := sRet (dOp subK (dOp shlK (dC (.int 1)) (dVar 0)) (dC (.int 1)))
def b_p_related (c : Cl) : TS := sSeq (sIf (tTru (dCmp eqC (dVar 0) (dC (.str "==")))) (sRet (dB intB (aCons (dCmp eqC (dVar 1) (dVar 2)) (aNil)))) (sNext)) (sSeq (sIf (tTru (dCmp eqC (dVar 0) (dC (.str "!=")))) (sRet (dB intB (aCons (dCmp neC (dVar 1) (dVar 2)) (aNil)))) (sNext)) (sSeq (sIf (tTru (dCmp eqC (dVar 0) (dC (.str "<")))) (sRet (dB intB (aCons (dCmp ltC (dVar 1) (dVar 2)) (aNil)))) (sNext)) (sRet (dB intB (aCons (dCmp leC (dVar 1) (dVar 2)) (aNil))))))
def b_p_shifted (c : Cl) : TS := sSeq (sIf (tTru (dCmp geC (dVar 3) (dVar 1))) (sRet (dC (.int 0))) (sNext)) (sSeq (sIf (tTru (dCmp eqC (dVar 0) (dC (.str "<<")))) (sRet (dOp andK (dOp shlK (dVar 2) (dVar 3)) (dCall c "greatest" (aCons (dVar 1) (aNil))))) (sNext)) (sRet (dOp shrK (dVar 2) (dVar 3))))
def b_p_divided (c : Cl) : TS := sSeq (sIf (tTru (dCmp eqC (dVar 2) (dC (.int 0)))) (sRet (dC (.int 0))) (sNext)) (sSeq (sIf (tTru (dCmp eqC (dVar 0) (dC (.str "div")))) (sRet (dOp fdivK (dVar 1) (dVar 2))) (sNext)) (sRet (dOp subK (dVar 1) (dOp mulK (dVar 2) (dOp fdivK (dVar 1) (dVar 2))))))
def b_p_reckoned (c : Cl) : TS := sSeq (sIf (tTru (dCmp eqC (dVar 0) (dC (.str "+")))) (sRet (dOp addK (dVar 1) (dVar 2))) (sNext)) (sSeq (sIf (tTru (dCmp eqC (dVar 0) (dC (.str "-")))) (sRet (dOp subK (dVar 1) (dVar 2))) (sNext)) (sSeq (sIf (tTru (dCmp eqC (dVar 0) (dC (.str "*")))) (sRet (dOp mulK (dVar 1) (dVar 2))) (sNext)) (sSeq (sIf (tTru (dCmp eqC (dVar 0) (dC (.str "&")))) (sRet (dOp andK (dVar 1) (dVar 2))) (sNext)) (sSeq (sIf (tTru (dCmp eqC (dVar 0) (dC (.str "|")))) (sRet (dOp orK (dVar 1) (dVar 2))) (sNext)) (sRet (dOp xorK (dVar 1) (dVar 2)))))))
def b_p_result (c : Cl) : TS := sSeq (sAsg (dOp ixK (dVar 2) (dC (.int 0))) (gName 3)) (sSeq (sIf (tTru (dCmp eqC (dVar 0) (dC (.str "not")))) (sRet (dOp subK (dCall c "greatest" (aCons (dVar 1) (aNil))) (dVar 3))) (sNext)) (sSeq (sIf (tTru (dCmp eqC (dVar 0) (dC (.str "neg")))) (sRet (dOp andK (dUn negK (dVar 3)) (dCall c "greatest" (aCons (dVar 1) (aNil))))) (sNext)) (sSeq (sIf (tTru (dCmp eqC (dVar 0) (dC (.str "wide")))) (sRet (dOp andK (dVar 3) (dCall c "greatest" (aCons (dVar 1) (aNil))))) (sNext)) (sSeq (sIf (tTru (dCmp eqC (dVar 0) (dC (.str "pick")))) (sRet (dIf (tTru (dCmp eqC (dVar 3) (dC (.int 1)))) (dOp ixK (dVar 2) (dC (.int 1))) (dOp ixK (dVar 2) (dC (.int 2))))) (sNext)) (sSeq (sAsg (dOp ixK (dVar 2) (dC (.int 1))) (gName 4)) (sSeq (sIf (tTru (dCmp inC (dVar 0) (dTup (aCons (dC (.str "==")) (aCons (dC (.str "!=")) (aCons (dC (.str "<")) (aCons (dC (.str "<=")) (aNil)))))))) (sRet (dCall c "related" (aCons (dVar 0) (aCons (dVar 3) (aCons (dVar 4) (aNil)))))) (sNext)) (sSeq (sIf (tTru (dCmp inC (dVar 0) (dTup (aCons (dC (.str "<<")) (aCons (dC (.str ">>")) (aNil)))))) (sRet (dCall c "shifted" (aCons (dVar 0) (aCons (dVar 1) (aCons (dVar 3) (aCons (dVar 4) (aNil))))))) (sNext)) (sSeq (sIf (tTru (dCmp inC (dVar 0) (dTup (aCons (dC (.str "div")) (aCons (dC (.str "rem")) (aNil)))))) (sRet (dCall c "divided" (aCons (dVar 0) (aCons (dVar 3) (aCons (dVar 4) (aNil)))))) (sNext)) (sRet (dOp andK (dCall c "reckoned" (aCons (dVar 0) (aCons (dVar 3) (aCons (dVar 4) (aNil))))) (dCall c "greatest" (aCons (dVar 1) (aNil)))))))))))))
def b_p_values_of (c : Cl) : TS := sSeq (sAsg (dLst (aNil)) (gName 2)) (sSeq (sFor (iSeq (dVar 0)) (gName 3) (sIf (tTru (dCmp eqC (dOp ixK (dVar 3) (dC (.int 0))) (dC (.str "word")))) (sExpr (dM tyLst appendM (dVar 2) (aCons (dOp ixK (dVar 3) (dC (.int 2))) (aNil)))) (sIf (tTru (dCmp eqC (dOp ixK (dVar 3) (dC (.int 0))) (dC (.str "input")))) (sExpr (dM tyLst appendM (dVar 2) (aCons (dIf (tTru (dCmp ltC (dOp ixK (dVar 3) (dC (.int 2))) (dB lenB (aCons (dVar 1) (aNil))))) (dOp andK (dOp ixK (dVar 1) (dOp ixK (dVar 3) (dC (.int 2)))) (dCall c "greatest" (aCons (dOp ixK (dVar 3) (dC (.int 1))) (aNil)))) (dC (.int 0))) (aNil)))) (sSeq (sAsg (dLc (iSeq (dSl (dVar 3) (oSome (dC (.int 2))) (oNone))) (gName 5) (tYes) (dOp ixK (dVar 2) (dVar 5)) [5]) (gName 4)) (sExpr (dM tyLst appendM (dVar 2) (aCons (dCallS c "result" 2 (aCons (dOp ixK (dVar 3) (dC (.int 0))) (aCons (dOp ixK (dVar 3) (dC (.int 1))) (aStar (dVar 4) (aNil))))) (aNil)))))))) (sRet (dB tupleB (aCons (dVar 2) (aNil)))))
def b_p_value_of (c : Cl) : TS := sRet (dOp ixK (dCall c "values_of" (aCons (dSl (dVar 0) (oNone) (oSome (dOp addK (dVar 2) (dC (.int 1))))) (aCons (dVar 1) (aNil)))) (dVar 2))
def b_l_begin (c : Cl) : TS := sRet (dLst (aCons (dLc (iSeq (dVar 0)) (gName 1) (tYes) (dB intB (aCons (dVar 1) (aNil))) [1]) (aCons (dC (.int 0)) (aCons (dC (.int 0)) (aCons (dC (.int 7)) (aCons (dC (.int 2)) (aNil)))))))
def b_l_draw (c : Cl) : TS := sSeq (sIf (tTru (dCmp gtC (dOp ixK (dVar 0) (dC (.int 2))) (dC (.int 0)))) (sSeq (sAsg (dOp ixK (dVar 0) (dC (.int 2))) (gName 2)) (sSeq (sAsg (dOp fdivK (dVar 2) (dVar 1)) (gSub (dVar 0) (dC (.int 2)))) (sRet (dOp modK (dB intB (aCons (dVar 2) (aNil))) (dVar 1))))) (sNext)) (sSeq (sAsg (dC (.int 0)) (gName 3)) (sSeq (sIf (tTru (dCmp ltC (dOp ixK (dVar 0) (dC (.int 1))) (dB lenB (aCons (dOp ixK (dVar 0) (dC (.int 0))) (aNil))))) (sSeq (sAsg (dOp ixK (dOp ixK (dVar 0) (dC (.int 0))) (dOp ixK (dVar 0) (dC (.int 1)))) (gName 4)) (sAsg (dOp addK (dOp mulK (dC (.int 2)) (dB absB (aCons (dVar 4) (aNil)))) (dB intB (aCons (dCmp ltC (dVar 4) (dC (.int 0))) (aNil)))) (gName 3))) (sNext)) (sSeq (sAugL iaddK (dVar 0) (dC (.int 1)) (dC (.int 1))) (sSeq (sIf (tTru (dCmp geC (dVar 3) (dOp mulK (dC (.int 2)) (dOp powK (dC (.int 10)) (dC (.int 18)))))) (sSeq (sAsg (dOp modK (dB intB (aCons (dOp fdivK (dVar 3) (dC (.int 2))) (aNil))) (dOp shlK (dC (.int 1)) (dC (.int 6000)))) (gName 2)) (sSeq (sAsg (dOp fdivK (dVar 2) (dVar 1)) (gSub (dVar 0) (dC (.int 2)))) (sRet (dOp modK (dB intB (aCons (dVar 2) (aNil))) (dVar 1))))) (sNext)) (sSeq (sAsg (dOp modK (dB intB (aCons (dOp addK (dOp addK (dOp addK (dOp mulK (dOp ixK (dVar 0) (dC (.int 3))) (dC (.int 48271))) (dOp mulK (dOp modK (dB intB (aCons (dVar 3) (aNil))) (dC (.int 2147483629))) (dC (.int 16807)))) (dOp mulK (dOp ixK (dVar 0) (dC (.int 1))) (dC (.int 69621)))) (dC (.int 11))) (aNil))) (dC (.int 2147483647))) (gSub (dVar 0) (dC (.int 3)))) (sRet (dOp modK (dB intB (aCons (dOp fdivK (dOp ixK (dVar 0) (dC (.int 3))) (dC (.int 16))) (aNil))) (dVar 1))))))))
def b_l_pick (c : Cl) : TS := sRet (dOp ixK (dVar 1) (dCall c "_law_draw" (aCons (dVar 0) (aCons (dB lenB (aCons (dVar 1) (aNil))) (aNil)))))
def b_l_rare (c : Cl) : TS := sRet (dCmp eqC (dCall c "_law_draw" (aCons (dVar 0) (aCons (dVar 1) (aNil)))) (dOp fdivK (dVar 1) (dC (.int 2))))
def b_l_is_int (c : Cl) : TS := sRet (dAndT (dIsi .int (dVar 0)) (dNotT (dIsi .bool (dVar 0))))
def b_l_ops (c : Cl) : TS := sRet (dLst (aCons (dC (.str "+")) (aCons (dC (.str "-")) (aCons (dC (.str "*")) (aCons (dC (.str "&")) (aCons (dC (.str "|")) (aCons (dC (.str "^")) (aCons (dC (.str "<<")) (aCons (dC (.str ">>")) (aCons (dC (.str "div")) (aCons (dC (.str "rem")) (aCons (dC (.str "==")) (aCons (dC (.str "!=")) (aCons (dC (.str "<")) (aCons (dC (.str "<=")) (aCons (dC (.str "not")) (aCons (dC (.str "neg")) (aCons (dC (.str "wide")) (aCons (dC (.str "pick")) (aNil))))))))))))))))))))
def b_l_leaf_drawn (c : Cl) : TS := sSeq (sIf (tTru (dCmp eqC (dCall c "_law_draw" (aCons (dVar 0) (aCons (dC (.int 2)) (aNil)))) (dC (.int 1)))) (sSeq (sAsg (dOp subK (dOp shlK (dC (.int 1)) (dVar 1)) (dC (.int 1))) (gName 2)) (sRet (dTup (aCons (dC (.str "word")) (aCons (dVar 1) (aCons (dCall c "_law_pick" (aCons (dVar 0) (aCons (dLst (aCons (dC (.int 0)) (aCons (dC (.int 1)) (aCons (dVar 2) (aCons (dOp shrK (dVar 2) (dC (.int 1))) (aCons (dVar 1) (aCons (dCall c "_law_draw" (aCons (dVar 0) (aCons (dOp addK (dVar 2) (dC (.int 1))) (aNil)))) (aNil)))))))) (aNil)))) (aNil))))))) (sNext)) (sRet (dTup (aCons (dC (.str "input")) (aCons (dVar 1) (aCons (dCall c "_law_pick" (aCons (dVar 0) (aCons (dLst (aCons (dC (.int 0)) (aCons (dC (.int 1)) (aCons (dC (.int 2)) (aCons (dC (.int 3)) (aCons (dCall c "_law_draw" (aCons (dVar 0) (aCons (dC (.int 8)) (aNil)))) (aCons (dC (.int 300)) (aNil)))))))) (aNil)))) (aNil))))))
def b_l_node_drawn (c : Cl) : TS := sSeq (sAsg (dB lenB (aCons (dVar 1) (aNil))) (gName 2)) (sSeq (sIf (tTru (dCmp eqC (dCall c "_law_draw" (aCons (dVar 0) (aCons (dC (.int 3)) (aNil)))) (dC (.int 1)))) (sAsg (dB min2B (aCons (dC (.int 4)) (aCons (dVar 2) (aNil)))) (gName 2)) (sNext)) (sSeq (sAsg (dOp subK (dOp subK (dB lenB (aCons (dVar 1) (aNil))) (dC (.int 1))) (dCall c "_law_draw" (aCons (dVar 0) (aCons (dVar 2) (aNil))))) (gName 3)) (sSeq (sAsg (dOp ixK (dOp ixK (dVar 1) (dVar 3)) (dC (.int 1))) (gName 4)) (sSeq (sAsg (dLc (iR1 (dB lenB (aCons (dVar 1) (aNil)))) (gName 9) (tTru (dCmp eqC (dOp ixK (dOp ixK (dVar 1) (dVar 9)) (dC (.int 1))) (dVar 4))) (dVar 9) [9]) (gName 5)) (sSeq (sAsg (dLc (iR1 (dB lenB (aCons (dVar 1) (aNil)))) (gName 9) (tTru (dCmp eqC (dOp ixK (dOp ixK (dVar 1) (dVar 9)) (dC (.int 1))) (dC (.int 1)))) (dVar 9) [9]) (gName 6)) (sSeq (sAsg (dCall c "_law_pick" (aCons (dVar 0) (aCons (dCall c "_law_ops" aNil) (aNil)))) (gName 7)) (sSeq (sIf (tTru (dCmp inC (dVar 7) (dLst (aCons (dC (.str "not")) (aCons (dC (.str "neg")) (aNil)))))) (sRet (dTup (aCons (dVar 7) (aCons (dVar 4) (aCons (dVar 3) (aNil)))))) (sNext)) (sSeq (sIf (tTru (dCmp eqC (dVar 7) (dC (.str "wide")))) (sRet (dTup (aCons (dVar 7) (aCons (dOp addK (dC (.int 1)) (dCall c "_law_draw" (aCons (dVar 0) (aCons (dC (.int 8)) (aNil))))) (aCons (dVar 3) (aNil)))))) (sNext)) (sSeq (sIf (tTru (dCmp inC (dVar 7) (dLst (aCons (dC (.str "<<")) (aCons (dC (.str ">>")) (aNil)))))) (sRet (dTup (aCons (dVar 7) (aCons (dVar 4) (aCons (dVar 3) (aCons (dCall c "_law_draw" (aCons (dVar 0) (aCons (dB lenB (aCons (dVar 1) (aNil))) (aNil)))) (aNil))))))) (sNext)) (sSeq (sAsg (dCall c "_law_pick" (aCons (dVar 0) (aCons (dVar 5) (aNil)))) (gName 8)) (sSeq (sIf (tAnd (tTru (dCmp eqC (dVar 7) (dC (.str "pick")))) (tTru (dVar 6))) (sRet (dTup (aCons (dVar 7) (aCons (dVar 4) (aCons (dCall c "_law_pick" (aCons (dVar 0) (aCons (dVar 6) (aNil)))) (aCons (dVar 3) (aCons (dVar 8) (aNil)))))))) (sNext)) (sSeq (sIf (tTru (dCmp inC (dVar 7) (dLst (aCons (dC (.str "==")) (aCons (dC (.str "!=")) (aCons (dC (.str "<")) (aCons (dC (.str "<=")) (aCons (dC (.str "pick")) (aNil))))))))) (sRet (dTup (aCons (dIf (tTru (dCmp eqC (dVar 7) (dC (.str "pick")))) (dC (.str "==")) (dVar 7)) (aCons (dC (.int 1)) (aCons (dVar 3) (aCons (dVar 8) (aNil))))))) (sNext)) (sRet (dTup (aCons (dVar 7) (aCons (dVar 4) (aCons (dVar 3) (aCons (dVar 8) (aNil)))))))))))))))))))
def b_l_sheet_drawn (c : Cl) : TS := sSeq (sAsg (dOp addK (dC (.int 1)) (dCall c "_law_draw" (aCons (dVar 0) (aCons (dC (.int 8)) (aNil))))) (gName 3)) (sSeq (sAsg (dOp addK (dC (.int 1)) (dCall c "_law_draw" (aCons (dVar 0) (aCons (dC (.int 8)) (aNil))))) (gName 4)) (sSeq (sAsg (dLst (aNil)) (gName 5)) (sSeq (sFor (iR1 (dVar 1)) (gName 6) (sSeq (sAsg (dCall c "_law_leaf_drawn" (aCons (dVar 0) (aCons (dCall c "_law_pick" (aCons (dVar 0) (aCons (dLst (aCons (dVar 3) (aCons (dVar 3) (aCons (dVar 4) (aCons (dC (.int 1)) (aNil)))))) (aNil)))) (aNil)))) (gName 7)) (sIf (tTru (dCmp notinDC (dVar 7) (dVar 5))) (sExpr (dM tyLst appendM (dVar 5) (aCons (dVar 7) (aNil)))) (sNext)))) (sSeq (sFor (iR1 (dIf (tTru (dVar 5)) (dVar 2) (dC (.int 0)))) (gName 6) (sSeq (sAsg (dCall c "_law_node_drawn" (aCons (dVar 0) (aCons (dVar 5) (aNil)))) (gName 7)) (sIf (tTru (dCmp notinDC (dVar 7) (dVar 5))) (sExpr (dM tyLst appendM (dVar 5) (aCons (dVar 7) (aNil)))) (sNext)))) (sRet (dB tupleB (aCons (dVar 5) (aNil))))))))
def b_l_reckoned (c : Cl) : TS := sSeq (sAsg (dOp subK (dOp shlK (dC (.int 1)) (dVar 1)) (dC (.int 1))) (gName 3)) (sSeq (sAsg (dOp ixK (dVar 2) (dC (.int 0))) (gName 4)) (sSeq (sIf (tTru (dCmp eqC (dVar 0) (dC (.str "not")))) (sRet (dOp subK (dVar 3) (dVar 4))) (sNext)) (sSeq (sIf (tTru (dCmp eqC (dVar 0) (dC (.str "neg")))) (sRet (dOp andK (dOp subK (dOp addK (dVar 3) (dC (.int 1))) (dVar 4)) (dVar 3))) (sNext)) (sSeq (sIf (tTru (dCmp eqC (dVar 0) (dC (.str "wide")))) (sRet (dOp andK (dVar 4) (dVar 3))) (sNext)) (sSeq (sIf (tTru (dCmp eqC (dVar 0) (dC (.str "pick")))) (sRet (dIf (tTru (dCmp eqC (dVar 4) (dC (.int 1)))) (dOp ixK (dVar 2) (dC (.int 1))) (dOp ixK (dVar 2) (dC (.int 2))))) (sNext)) (sSeq (sAsg (dOp ixK (dVar 2) (dC (.int 1))) (gName 5)) (sSeq (sIf (tTru (dCmp inC (dVar 0) (dLst (aCons (dC (.str "==")) (aCons (dC (.str "!=")) (aNil)))))) (sRet (dIf (tTru (dCmp eqC (dVar 0) (dC (.str "==")))) (dB intB (aCons (dCmp eqC (dVar 4) (dVar 5)) (aNil))) (dB intB (aCons (dCmp neC (dVar 4) (dVar 5)) (aNil))))) (sNext)) (sSeq (sIf (tTru (dCmp inC (dVar 0) (dLst (aCons (dC (.str "<")) (aCons (dC (.str "<=")) (aNil)))))) (sRet (dIf (tTru (dCmp eqC (dVar 0) (dC (.str "<")))) (dB intB (aCons (dCmp ltC (dVar 4) (dVar 5)) (aNil))) (dB intB (aCons (dCmp leC (dVar 4) (dVar 5)) (aNil))))) (sNext)) (sSeq (sIf (tTru (dCmp inC (dVar 0) (dLst (aCons (dC (.str "div")) (aCons (dC (.str "rem")) (aNil)))))) (sSeq (sIf (tTru (dCmp eqC (dVar 5) (dC (.int 0)))) (sRet (dC (.int 0))) (sNext)) (sRet (dIf (tTru (dCmp eqC (dVar 0) (dC (.str "div")))) (dOp fdivK (dVar 4) (dVar 5)) (dOp subK (dVar 4) (dOp mulK (dVar 5) (dOp fdivK (dVar 4) (dVar 5))))))) (sNext)) (sSeq (sIf (tTru (dCmp eqC (dVar 0) (dC (.str ">>")))) (sRet (dOp shrK (dVar 4) (dVar 5))) (sNext)) (sSeq (sIf (tTru (dCmp eqC (dVar 0) (dC (.str "<<")))) (sRet (dOp andK (dOp shlK (dVar 4) (dVar 5)) (dVar 3))) (sNext)) (sSeq (sIf (tTru (dCmp inC (dVar 0) (dLst (aCons (dC (.str "&")) (aCons (dC (.str "|")) (aNil)))))) (sRet (dIf (tTru (dCmp eqC (dVar 0) (dC (.str "&")))) (dOp andK (dVar 4) (dVar 5)) (dOp orK (dVar 4) (dVar 5)))) (sNext)) (sSeq (sIf (tTru (dCmp eqC (dVar 0) (dC (.str "^")))) (sRet (dOp xorK (dVar 4) (dVar 5))) (sNext)) (sSeq (sIf (tTru (dCmp eqC (dVar 0) (dC (.str "*")))) (sRet (dOp andK (dOp mulK (dVar 4) (dVar 5)) (dVar 3))) (sNext)) (sRet (dIf (tTru (dCmp eqC (dVar 0) (dC (.str "+")))) (dOp andK (dOp addK (dVar 4) (dVar 5)) (dVar 3)) (dOp andK (dOp subK (dVar 4) (dVar 5)) (dVar 3))))))))))))))))))
def b_l_reckoned_all (c : Cl) : TS := sSeq (sAsg (dLst (aNil)) (gName 2)) (sSeq (sFor (iSeq (dVar 0)) (gName 3) (sIf (tTru (dCmp eqC (dOp ixK (dVar 3) (dC (.int 0))) (dC (.str "word")))) (sExpr (dM tyLst appendM (dVar 2) (aCons (dOp ixK (dVar 3) (dC (.int 2))) (aNil)))) (sIf (tTru (dCmp eqC (dOp ixK (dVar 3) (dC (.int 0))) (dC (.str "input")))) (sExpr (dM tyLst appendM (dVar 2) (aCons (dIf (tTru (dCmp ltC (dOp ixK (dVar 3) (dC (.int 2))) (dB lenB (aCons (dVar 1) (aNil))))) (dOp andK (dOp ixK (dVar 1) (dOp ixK (dVar 3) (dC (.int 2)))) (dOp subK (dOp shlK (dC (.int 1)) (dOp ixK (dVar 3) (dC (.int 1)))) (dC (.int 1)))) (dC (.int 0))) (aNil)))) (sExpr (dM tyLst appendM (dVar 2) (aCons (dCall c "_law_reckoned" (aCons (dOp ixK (dVar 3) (dC (.int 0))) (aCons (dOp ixK (dVar 3) (dC (.int 1))) (aCons (dLc (iSeq (dSl (dVar 3) (oSome (dC (.int 2))) (oNone))) (gName 4) (tYes) (dOp ixK (dVar 2) (dVar 4)) [4]) (aNil))))) (aNil))))))) (sRet (dVar 2)))
def b_l_same_values (c : Cl) : TS := sSeq (sIf (tOr (tNot (tTru (dIsi .tuple (dVar 0)))) (tTru (dCmp neC (dB lenB (aCons (dVar 0) (aNil))) (dB lenB (aCons (dVar 1) (aNil)))))) (sRet (dC (.bl false))) (sNext)) (sSeq (sFor (iZipTL (dVar 0) (dVar 1)) (gTup (gsCons (gName 2) (gsCons (gName 3) (gsNil))) 2) (sIf (tOr (tNot (tTru (dCall c "_law_is_int" (aCons (dVar 2) (aNil))))) (tTru (dCmp neC (dVar 2) (dVar 3)))) (sRet (dC (.bl false))) (sNext))) (sRet (dC (.bl true))))
def b_l_law (c : Cl) : TS := sSeq (sAsg (dCall c "_law_begin" (aCons (dVar 0) (aNil))) (gName 1)) (sSeq (sAsg (dLst (aNil)) (gName 2)) (sSeq (sFor (iR1 (dC (.int 2))) (gName 3) (sSeq (sAsg (dOp addK (dC (.int 1)) (dCall c "_law_draw" (aCons (dVar 1) (aCons (dC (.int 6)) (aNil))))) (gName 4)) (sSeq (sIf (tTru (dCall c "_law_rare" (aCons (dVar 1) (aCons (dC (.int 11)) (aNil))))) (sAsg (dC (.int 0)) (gName 4)) (sNext)) (sSeq (sAsg (dCall c "_law_sheet_drawn" (aCons (dVar 1) (aCons (dVar 4) (aCons (dCall c "_law_draw" (aCons (dVar 1) (aCons (dC (.int 21)) (aNil)))) (aNil))))) (gName 5)) (sFor (iR1 (dC (.int 3))) (gName 6) (sSeq (sAsg (dB tupleB (aCons (dLc (iR1 (dCall c "_law_draw" (aCons (dVar 1) (aCons (dC (.int 7)) (aNil))))) (gName 12) (tYes) (dCall c "_law_pick" (aCons (dVar 1) (aCons (dLst (aCons (dC (.int 0)) (aCons (dC (.int 1)) (aCons (dC (.int 255)) (aCons (dC (.int 128)) (aCons (dCall c "_law_draw" (aCons (dVar 1) (aCons (dC (.int 256)) (aNil)))) (aNil))))))) (aNil)))) [12]) (aNil))) (gName 7)) (sSeq (sAsg (dCall c "_law_draw" (aCons (dVar 1) (aCons (dB max2B (aCons (dC (.int 1)) (aCons (dB lenB (aCons (dVar 5) (aNil))) (aNil)))) (aNil)))) (gName 8)) (sExpr (dM tyLst appendM (dVar 2) (aCons (dTup (aCons (dVar 5) (aCons (dVar 7) (aCons (dVar 8) (aCons (dCall c "_law_reckoned_all" (aCons (dVar 5) (aCons (dVar 7) (aNil)))) (aNil)))))) (aNil))))))))))) (sSeq (sFor (iSeq (dOp addK (dVar 2) (dLRv (dVar 2)))) (gTup (gsCons (gName 5) (gsCons (gName 7) (gsCons (gName 8) (gsCons (gName 9) (gsNil))))) 4) (sSeq (sIf (tNot (tTru (dCall c "_law_same_values" (aCons (dCall c "values_of" (aCons (dVar 5) (aCons (dVar 7) (aNil)))) (aCons (dVar 9) (aNil)))))) (sRet (dC (.bl false))) (sNext)) (sFor (iSeq (dLst (aCons (dC (.int 0)) (aCons (dVar 8) (aCons (dOp subK (dB lenB (aCons (dVar 5) (aNil))) (dC (.int 1))) (aNil)))))) (gName 10) (sIf (tTru (dVar 5)) (sSeq (sAsg (dCall c "value_of" (aCons (dVar 5) (aCons (dVar 7) (aCons (dVar 10) (aNil))))) (gName 11)) (sIf (tOr (tNot (tTru (dCall c "_law_is_int" (aCons (dVar 11) (aNil))))) (tTru (dCmp neC (dVar 11) (dOp ixK (dVar 9) (dVar 10))))) (sRet (dC (.bl false))) (sNext))) (sNext))))) (sRet (dC (.bl true))))))
def prog : String → Option Def
  | "greatest" => some ⟨1, 1, b_p_greatest⟩
  | "related" => some ⟨3, 3, b_p_related⟩
  | "shifted" => some ⟨4, 4, b_p_shifted⟩
  | "divided" => some ⟨3, 3, b_p_divided⟩
  | "reckoned" => some ⟨3, 3, b_p_reckoned⟩
  | "result" => some ⟨3, 5, b_p_result⟩
  | "values_of" => some ⟨2, 6, b_p_values_of⟩
  | "value_of" => some ⟨3, 3, b_p_value_of⟩
  | "_law_begin" => some ⟨1, 2, b_l_begin⟩
  | "_law_draw" => some ⟨2, 5, b_l_draw⟩
  | "_law_pick" => some ⟨2, 2, b_l_pick⟩
  | "_law_rare" => some ⟨2, 2, b_l_rare⟩
  | "_law_is_int" => some ⟨1, 1, b_l_is_int⟩
  | "_law_ops" => some ⟨0, 0, b_l_ops⟩
  | "_law_leaf_drawn" => some ⟨2, 3, b_l_leaf_drawn⟩
  | "_law_node_drawn" => some ⟨2, 10, b_l_node_drawn⟩
  | "_law_sheet_drawn" => some ⟨3, 8, b_l_sheet_drawn⟩
  | "_law_reckoned" => some ⟨3, 6, b_l_reckoned⟩
  | "_law_reckoned_all" => some ⟨2, 5, b_l_reckoned_all⟩
  | "_law_same_values" => some ⟨2, 4, b_l_same_values⟩
  | "law" => some ⟨1, 13, b_l_law⟩
  | _ => none
end Pk30
end PartPdk30B

section PartPdk30L
set_option Elab.async false
set_option linter.all false
set_option maxRecDepth 100000
set_option maxHeartbeats 4000000
namespace Pk30
open PySem PySem.Spec Pd
open PyProof.Rows (envOfC)
def topS (i : Nat) : Stmt := PySem.Challenge.pw_metorshut_k30_values.main.body.getD i (.Pass ⟨0, 0, 0, 0⟩)
abbrev names : List String := ["greatest", "related", "shifted", "divided", "reckoned", "values_of", "value_of", "_law_begin", "_law_draw", "_law_pick", "_law_rare", "_law_is_int", "_law_ops", "_law_leaf_drawn", "_law_node_drawn", "_law_sheet_drawn", "_law_reckoned", "_law_reckoned_all", "_law_same_values", "law"]
abbrev snames : List (String × Nat) := [("result", 2)]
abbrev blts : List String := ["abs", "bool", "int", "isinstance", "len", "list", "max", "min", "range", "reversed", "tuple", "zip"]
abbrev sp_greatest : Stmt := topS 1
abbrev np_greatest : List Str := ["width"]
theorem scp_greatest : L2.FnScope np_greatest ["width"] (L2.defScope sp_greatest) := ⟨rfl, rfl, rfl, by decide +kernel, rfl, by decide +kernel, by decide +kernel⟩
abbrev sp_related : Stmt := topS 2
abbrev np_related : List Str := ["op", "left", "right"]
theorem scp_related : L2.FnScope np_related ["op", "left", "right"] (L2.defScope sp_related) := ⟨rfl, rfl, rfl, by decide +kernel, rfl, by decide +kernel, by decide +kernel⟩
abbrev sp_shifted : Stmt := topS 3
abbrev np_shifted : List Str := ["op", "width", "left", "right"]
theorem scp_shifted : L2.FnScope np_shifted ["op", "width", "left", "right"] (L2.defScope sp_shifted) := ⟨rfl, rfl, rfl, by decide +kernel, rfl, by decide +kernel, by decide +kernel⟩
abbrev sp_divided : Stmt := topS 4
abbrev np_divided : List Str := ["op", "left", "right"]
theorem scp_divided : L2.FnScope np_divided ["op", "left", "right"] (L2.defScope sp_divided) := ⟨rfl, rfl, rfl, by decide +kernel, rfl, by decide +kernel, by decide +kernel⟩
abbrev sp_reckoned : Stmt := topS 5
abbrev np_reckoned : List Str := ["op", "left", "right"]
theorem scp_reckoned : L2.FnScope np_reckoned ["op", "left", "right"] (L2.defScope sp_reckoned) := ⟨rfl, rfl, rfl, by decide +kernel, rfl, by decide +kernel, by decide +kernel⟩
abbrev sp_result : Stmt := topS 6
abbrev np_result : List Str := ["op", "width", "words", "left", "right"]
theorem scp_result : L2.FnScope np_result ["op", "width", "words"] (L2.defScope sp_result) := ⟨rfl, rfl, rfl, by decide +kernel, rfl, by decide +kernel, by decide +kernel⟩
abbrev sp_values_of : Stmt := topS 8
abbrev np_values_of : List Str := ["nodes", "words", "found", "node", "parts", "part"]
theorem scp_values_of : L2.FnScope np_values_of ["nodes", "words"] (L2.defScope sp_values_of) := ⟨rfl, rfl, rfl, by decide +kernel, rfl, by decide +kernel, by decide +kernel⟩
abbrev sp_value_of : Stmt := topS 9
abbrev np_value_of : List Str := ["nodes", "words", "term"]
theorem scp_value_of : L2.FnScope np_value_of ["nodes", "words", "term"] (L2.defScope sp_value_of) := ⟨rfl, rfl, rfl, by decide +kernel, rfl, by decide +kernel, by decide +kernel⟩
abbrev sl_begin : Stmt := topS 11
abbrev nl_begin : List Str := ["_law_script", "_law_cell"]
theorem scl_begin : L2.FnScope nl_begin ["_law_script"] (L2.defScope sl_begin) := ⟨rfl, rfl, rfl, by decide +kernel, rfl, by decide +kernel, by decide +kernel⟩
abbrev sl_draw : Stmt := topS 12
abbrev nl_draw : List Str := ["_law_d", "_law_many", "_law_found", "_law_size", "_law_cell"]
theorem scl_draw : L2.FnScope nl_draw ["_law_d", "_law_many"] (L2.defScope sl_draw) := ⟨rfl, rfl, rfl, by decide +kernel, rfl, by decide +kernel, by decide +kernel⟩
abbrev sl_pick : Stmt := topS 13
abbrev nl_pick : List Str := ["_law_d", "_law_row"]
theorem scl_pick : L2.FnScope nl_pick ["_law_d", "_law_row"] (L2.defScope sl_pick) := ⟨rfl, rfl, rfl, by decide +kernel, rfl, by decide +kernel, by decide +kernel⟩
abbrev sl_rare : Stmt := topS 14
abbrev nl_rare : List Str := ["_law_d", "_law_many"]
theorem scl_rare : L2.FnScope nl_rare ["_law_d", "_law_many"] (L2.defScope sl_rare) := ⟨rfl, rfl, rfl, by decide +kernel, rfl, by decide +kernel, by decide +kernel⟩
abbrev sl_is_int : Stmt := topS 15
abbrev nl_is_int : List Str := ["_law_thing"]
theorem scl_is_int : L2.FnScope nl_is_int ["_law_thing"] (L2.defScope sl_is_int) := ⟨rfl, rfl, rfl, by decide +kernel, rfl, by decide +kernel, by decide +kernel⟩
abbrev sl_ops : Stmt := topS 16
abbrev nl_ops : List Str := []
theorem scl_ops : L2.FnScope nl_ops [] (L2.defScope sl_ops) := ⟨rfl, rfl, rfl, by decide +kernel, rfl, by decide +kernel, by decide +kernel⟩
abbrev sl_leaf_drawn : Stmt := topS 17
abbrev nl_leaf_drawn : List Str := ["_law_d", "_law_width", "_law_ones"]
theorem scl_leaf_drawn : L2.FnScope nl_leaf_drawn ["_law_d", "_law_width"] (L2.defScope sl_leaf_drawn) := ⟨rfl, rfl, rfl, by decide +kernel, rfl, by decide +kernel, by decide +kernel⟩
abbrev sl_node_drawn : Stmt := topS 18
abbrev nl_node_drawn : List Str := ["_law_d", "_law_nodes", "_law_near", "_law_a", "_law_width", "_law_mates", "_law_bits", "_law_op", "_law_b", "_law_k"]
theorem scl_node_drawn : L2.FnScope nl_node_drawn ["_law_d", "_law_nodes"] (L2.defScope sl_node_drawn) := ⟨rfl, rfl, rfl, by decide +kernel, rfl, by decide +kernel, by decide +kernel⟩
abbrev sl_sheet_drawn : Stmt := topS 19
abbrev nl_sheet_drawn : List Str := ["_law_d", "_law_leaves", "_law_many", "_law_main", "_law_side", "_law_nodes", "_law_step", "_law_node"]
theorem scl_sheet_drawn : L2.FnScope nl_sheet_drawn ["_law_d", "_law_leaves", "_law_many"] (L2.defScope sl_sheet_drawn) := ⟨rfl, rfl, rfl, by decide +kernel, rfl, by decide +kernel, by decide +kernel⟩
abbrev sl_reckoned : Stmt := topS 20
abbrev nl_reckoned : List Str := ["_law_op", "_law_width", "_law_words", "_law_ones", "_law_one", "_law_two"]
theorem scl_reckoned : L2.FnScope nl_reckoned ["_law_op", "_law_width", "_law_words"] (L2.defScope sl_reckoned) := ⟨rfl, rfl, rfl, by decide +kernel, rfl, by decide +kernel, by decide +kernel⟩
abbrev sl_reckoned_all : Stmt := topS 21
abbrev nl_reckoned_all : List Str := ["_law_nodes", "_law_words", "_law_found", "_law_node", "_law_part"]
theorem scl_reckoned_all : L2.FnScope nl_reckoned_all ["_law_nodes", "_law_words"] (L2.defScope sl_reckoned_all) := ⟨rfl, rfl, rfl, by decide +kernel, rfl, by decide +kernel, by decide +kernel⟩
abbrev sl_same_values : Stmt := topS 22
abbrev nl_same_values : List Str := ["_law_told", "_law_due", "_law_one", "_law_other"]
theorem scl_same_values : L2.FnScope nl_same_values ["_law_told", "_law_due"] (L2.defScope sl_same_values) := ⟨rfl, rfl, rfl, by decide +kernel, rfl, by decide +kernel, by decide +kernel⟩
abbrev sl_law : Stmt := topS 23
abbrev nl_law : List Str := ["_law_script", "_law_d", "_law_asked", "_law_turn", "_law_leaves", "_law_nodes", "_law_step", "_law_words", "_law_spot", "_law_due", "_law_term", "_law_one", "_law_k"]
theorem scl_law : L2.FnScope nl_law ["_law_script"] (L2.defScope sl_law) := ⟨rfl, rfl, rfl, by decide +kernel, rfl, by decide +kernel, by decide +kernel⟩
section
variable {P : Program} {w : World} {K : PySem.W.Frag} {mg : Str → Option Value} {base : Heap}
theorem der_p_greatest {k : Nat} {c : Cl} (ok : ∀ y ∈ names, Own P w K mg base k (Str.ofString y) (c y)) (oks : ∀ q ∈ snames, OwnS P w K mg base k q.2 (Str.ofString q.1) (c q.1)) (zs : ∀ y ∈ blts, mg (Str.ofString y) = none) {fa : Addr} (cdv : Value) (A : Around) (outer : List PySem.Env) (s : Shared) (H : L2.Hp) (E : L2.XK) (hr : L2.Room k (A.deeper (envOfC "greatest" (L2.defScope sp_greatest) s.heap.objs.size fa cdv))) :
    PDSs (L2.cxOf L2.CX0 P w K mg base np_greatest "greatest" (L2.defScope sp_greatest) fa cdv A outer s H E).nox (L2.defBody sp_greatest) (b_p_greatest c) := by
  have nd := scp_greatest.nd
  unfold b_p_greatest
  exact pss_one (ps_ret (pd_sub (pd_shl (pd_int) (pd_var (i := 0) rfl)) (pd_int)))
theorem der_p_related {k : Nat} {c : Cl} (ok : ∀ y ∈ names, Own P w K mg base k (Str.ofString y) (c y)) (oks : ∀ q ∈ snames, OwnS P w K mg base k q.2 (Str.ofString q.1) (c q.1)) (zs : ∀ y ∈ blts, mg (Str.ofString y) = none) {fa : Addr} (cdv : Value) (A : Around) (outer : List PySem.Env) (s : Shared) (H : L2.Hp) (E : L2.XK) (hr : L2.Room k (A.deeper (envOfC "related" (L2.defScope sp_related) s.heap.objs.size fa cdv))) :
    PDSs (L2.cxOf L2.CX0 P w K mg base np_related "related" (L2.defScope sp_related) fa cdv A outer s H E).nox (L2.defBody sp_related) (b_p_related c) := by
  have nd := scp_related.nd
  unfold b_p_related
  exact pss_cons (ps_if (pt_cmp (L2.op_eqD hr.units) real_eq (by rfl) (pd_var (i := 0) rfl) (pd_str)) (pss_one (ps_ret (pd_callTy L2.call_int1 real_intB rfl (zs "int" (by decide)) bt_int (pa_cons (pd_cmp (L2.op_eqD hr.units) real_eq (by rfl) (pd_var (i := 1) rfl) (pd_var (i := 2) rfl)) (pa_nil))))) (pss_nil)) (pss_cons (ps_if (pt_cmp (L2.op_eqD hr.units) real_eq (by rfl) (pd_var (i := 0) rfl) (pd_str)) (pss_one (ps_ret (pd_callTy L2.call_int1 real_intB rfl (zs "int" (by decide)) bt_int (pa_cons (pd_cmp (L2.op_neD hr.units) real_ne (by rfl) (pd_var (i := 1) rfl) (pd_var (i := 2) rfl)) (pa_nil))))) (pss_nil)) (pss_cons (ps_if (pt_cmp (L2.op_eqD hr.units) real_eq (by rfl) (pd_var (i := 0) rfl) (pd_str)) (pss_one (ps_ret (pd_callTy L2.call_int1 real_intB rfl (zs "int" (by decide)) bt_int (pa_cons (pd_cmp L2.op_lt real_lt (by rfl) (pd_var (i := 1) rfl) (pd_var (i := 2) rfl)) (pa_nil))))) (pss_nil)) (pss_one (ps_ret (pd_callTy L2.call_int1 real_intB rfl (zs "int" (by decide)) bt_int (pa_cons (pd_cmp L2.op_le real_le (by rfl) (pd_var (i := 1) rfl) (pd_var (i := 2) rfl)) (pa_nil)))))))
theorem der_p_shifted {k : Nat} {c : Cl} (ok : ∀ y ∈ names, Own P w K mg base k (Str.ofString y) (c y)) (oks : ∀ q ∈ snames, OwnS P w K mg base k q.2 (Str.ofString q.1) (c q.1)) (zs : ∀ y ∈ blts, mg (Str.ofString y) = none) {fa : Addr} (cdv : Value) (A : Around) (outer : List PySem.Env) (s : Shared) (H : L2.Hp) (E : L2.XK) (hr : L2.Room k (A.deeper (envOfC "shifted" (L2.defScope sp_shifted) s.heap.objs.size fa cdv))) :
    PDSs (L2.cxOf L2.CX0 P w K mg base np_shifted "shifted" (L2.defScope sp_shifted) fa cdv A outer s H E).nox (L2.defBody sp_shifted) (b_p_shifted c) := by
  have nd := scp_shifted.nd
  unfold b_p_shifted
  exact pss_cons (ps_if (pt_cmp L2.op_ge real_ge (by rfl) (pd_var (i := 3) rfl) (pd_var (i := 1) rfl)) (pss_one (ps_ret (pd_int))) (pss_nil)) (pss_cons (ps_if (pt_cmp (L2.op_eqD hr.units) real_eq (by rfl) (pd_var (i := 0) rfl) (pd_str)) (pss_one (ps_ret (pd_and (pd_shl (pd_var (i := 2) rfl) (pd_var (i := 3) rfl)) (pd_call (y := "greatest") (ok "greatest" (by decide)) hr rfl (pa_cons (pd_var (i := 1) rfl) (pa_nil)))))) (pss_nil)) (pss_one (ps_ret (pd_shr (pd_var (i := 2) rfl) (pd_var (i := 3) rfl)))))
theorem der_p_divided {k : Nat} {c : Cl} (ok : ∀ y ∈ names, Own P w K mg base k (Str.ofString y) (c y)) (oks : ∀ q ∈ snames, OwnS P w K mg base k q.2 (Str.ofString q.1) (c q.1)) (zs : ∀ y ∈ blts, mg (Str.ofString y) = none) {fa : Addr} (cdv : Value) (A : Around) (outer : List PySem.Env) (s : Shared) (H : L2.Hp) (E : L2.XK) (hr : L2.Room k (A.deeper (envOfC "divided" (L2.defScope sp_divided) s.heap.objs.size fa cdv))) :
    PDSs (L2.cxOf L2.CX0 P w K mg base np_divided "divided" (L2.defScope sp_divided) fa cdv A outer s H E).nox (L2.defBody sp_divided) (b_p_divided c) := by
  have nd := scp_divided.nd
  unfold b_p_divided
  exact pss_cons (ps_if (pt_cmp (L2.op_eqD hr.units) real_eq (by rfl) (pd_var (i := 2) rfl) (pd_int)) (pss_one (ps_ret (pd_int))) (pss_nil)) (pss_cons (ps_if (pt_cmp (L2.op_eqD hr.units) real_eq (by rfl) (pd_var (i := 0) rfl) (pd_str)) (pss_one (ps_ret (pd_fdiv (pd_var (i := 1) rfl) (pd_var (i := 2) rfl)))) (pss_nil)) (pss_one (ps_ret (pd_sub (pd_var (i := 1) rfl) (pd_mul (pd_var (i := 2) rfl) (pd_fdiv (pd_var (i := 1) rfl) (pd_var (i := 2) rfl)))))))
theorem der_p_reckoned {k : Nat} {c : Cl} (ok : ∀ y ∈ names, Own P w K mg base k (Str.ofString y) (c y)) (oks : ∀ q ∈ snames, OwnS P w K mg base k q.2 (Str.ofString q.1) (c q.1)) (zs : ∀ y ∈ blts, mg (Str.ofString y) = none) {fa : Addr} (cdv : Value) (A : Around) (outer : List PySem.Env) (s : Shared) (H : L2.Hp) (E : L2.XK) (hr : L2.Room k (A.deeper (envOfC "reckoned" (L2.defScope sp_reckoned) s.heap.objs.size fa cdv))) :
    PDSs (L2.cxOf L2.CX0 P w K mg base np_reckoned "reckoned" (L2.defScope sp_reckoned) fa cdv A outer s H E).nox (L2.defBody sp_reckoned) (b_p_reckoned c) := by
  have nd := scp_reckoned.nd
  unfold b_p_reckoned
  exact pss_cons (ps_if (pt_cmp (L2.op_eqD hr.units) real_eq (by rfl) (pd_var (i := 0) rfl) (pd_str)) (pss_one (ps_ret (pd_add (pd_var (i := 1) rfl) (pd_var (i := 2) rfl)))) (pss_nil)) (pss_cons (ps_if (pt_cmp (L2.op_eqD hr.units) real_eq (by rfl) (pd_var (i := 0) rfl) (pd_str)) (pss_one (ps_ret (pd_sub (pd_var (i := 1) rfl) (pd_var (i := 2) rfl)))) (pss_nil)) (pss_cons (ps_if (pt_cmp (L2.op_eqD hr.units) real_eq (by rfl) (pd_var (i := 0) rfl) (pd_str)) (pss_one (ps_ret (pd_mul (pd_var (i := 1) rfl) (pd_var (i := 2) rfl)))) (pss_nil)) (pss_cons (ps_if (pt_cmp (L2.op_eqD hr.units) real_eq (by rfl) (pd_var (i := 0) rfl) (pd_str)) (pss_one (ps_ret (pd_and (pd_var (i := 1) rfl) (pd_var (i := 2) rfl)))) (pss_nil)) (pss_cons (ps_if (pt_cmp (L2.op_eqD hr.units) real_eq (by rfl) (pd_var (i := 0) rfl) (pd_str)) (pss_one (ps_ret (pd_or (pd_var (i := 1) rfl) (pd_var (i := 2) rfl)))) (pss_nil)) (pss_one (ps_ret (pd_xor (pd_var (i := 1) rfl) (pd_var (i := 2) rfl))))))))
theorem der_p_result {k : Nat} {c : Cl} (ok : ∀ y ∈ names, Own P w K mg base k (Str.ofString y) (c y)) (oks : ∀ q ∈ snames, OwnS P w K mg base k q.2 (Str.ofString q.1) (c q.1)) (zs : ∀ y ∈ blts, mg (Str.ofString y) = none) {fa : Addr} (cdv : Value) (A : Around) (outer : List PySem.Env) (s : Shared) (H : L2.Hp) (E : L2.XK) (hr : L2.Room k (A.deeper (envOfC "result" (L2.defScope sp_result) s.heap.objs.size fa cdv))) :
    PDSs (L2.cxOf L2.CX0 P w K mg base np_result "result" (L2.defScope sp_result) fa cdv A outer s H E).nox (L2.defBody sp_result) (b_p_result c) := by
  have nd := scp_result.nd
  unfold b_p_result
  exact pss_cons (ps_set (i := 3) nd rfl (by first | exact .inl rfl | exact .inr rfl) (pd_ix (fun _ _ => rfl) (pd_var (i := 2) rfl) (pd_int))) (pss_cons (ps_if (pt_cmp (L2.op_eqD hr.units) real_eq (by rfl) (pd_var (i := 0) rfl) (pd_str)) (pss_one (ps_ret (pd_sub (pd_call (y := "greatest") (ok "greatest" (by decide)) hr rfl (pa_cons (pd_var (i := 1) rfl) (pa_nil))) (pd_var (i := 3) rfl)))) (pss_nil)) (pss_cons (ps_if (pt_cmp (L2.op_eqD hr.units) real_eq (by rfl) (pd_var (i := 0) rfl) (pd_str)) (pss_one (ps_ret (pd_and (pd_neg (pd_var (i := 3) rfl)) (pd_call (y := "greatest") (ok "greatest" (by decide)) hr rfl (pa_cons (pd_var (i := 1) rfl) (pa_nil)))))) (pss_nil)) (pss_cons (ps_if (pt_cmp (L2.op_eqD hr.units) real_eq (by rfl) (pd_var (i := 0) rfl) (pd_str)) (pss_one (ps_ret (pd_and (pd_var (i := 3) rfl) (pd_call (y := "greatest") (ok "greatest" (by decide)) hr rfl (pa_cons (pd_var (i := 1) rfl) (pa_nil)))))) (pss_nil)) (pss_cons (ps_if (pt_cmp (L2.op_eqD hr.units) real_eq (by rfl) (pd_var (i := 0) rfl) (pd_str)) (pss_one (ps_ret (pd_if (pt_cmp (L2.op_eqD hr.units) real_eq (by rfl) (pd_var (i := 3) rfl) (pd_int)) (pd_ix (fun _ _ => rfl) (pd_var (i := 2) rfl) (pd_int)) (pd_ix (fun _ _ => rfl) (pd_var (i := 2) rfl) (pd_int))))) (pss_nil)) (pss_cons (ps_set (i := 4) nd rfl (by first | exact .inl rfl | exact .inr rfl) (pd_ix (fun _ _ => rfl) (pd_var (i := 2) rfl) (pd_int))) (pss_cons (ps_if (pt_cmp L2.op_in_seq (real_in false) (by rfl) (pd_var (i := 0) rfl) (pd_tup (pa_cons (pd_str) (pa_cons (pd_str) (pa_cons (pd_str) (pa_cons (pd_str) (pa_nil))))))) (pss_one (ps_ret (pd_call (y := "related") (ok "related" (by decide)) hr rfl (pa_cons (pd_var (i := 0) rfl) (pa_cons (pd_var (i := 3) rfl) (pa_cons (pd_var (i := 4) rfl) (pa_nil))))))) (pss_nil)) (pss_cons (ps_if (pt_cmp L2.op_in_seq (real_in false) (by rfl) (pd_var (i := 0) rfl) (pd_tup (pa_cons (pd_str) (pa_cons (pd_str) (pa_nil))))) (pss_one (ps_ret (pd_call (y := "shifted") (ok "shifted" (by decide)) hr rfl (pa_cons (pd_var (i := 0) rfl) (pa_cons (pd_var (i := 1) rfl) (pa_cons (pd_var (i := 3) rfl) (pa_cons (pd_var (i := 4) rfl) (pa_nil)))))))) (pss_nil)) (pss_cons (ps_if (pt_cmp L2.op_in_seq (real_in false) (by rfl) (pd_var (i := 0) rfl) (pd_tup (pa_cons (pd_str) (pa_cons (pd_str) (pa_nil))))) (pss_one (ps_ret (pd_call (y := "divided") (ok "divided" (by decide)) hr rfl (pa_cons (pd_var (i := 0) rfl) (pa_cons (pd_var (i := 3) rfl) (pa_cons (pd_var (i := 4) rfl) (pa_nil))))))) (pss_nil)) (pss_one (ps_ret (pd_and (pd_call (y := "reckoned") (ok "reckoned" (by decide)) hr rfl (pa_cons (pd_var (i := 0) rfl) (pa_cons (pd_var (i := 3) rfl) (pa_cons (pd_var (i := 4) rfl) (pa_nil))))) (pd_call (y := "greatest") (ok "greatest" (by decide)) hr rfl (pa_cons (pd_var (i := 1) rfl) (pa_nil))))))))))))))
theorem der_p_values_of {k : Nat} {c : Cl} (ok : ∀ y ∈ names, Own P w K mg base k (Str.ofString y) (c y)) (oks : ∀ q ∈ snames, OwnS P w K mg base k q.2 (Str.ofString q.1) (c q.1)) (zs : ∀ y ∈ blts, mg (Str.ofString y) = none) {fa : Addr} (cdv : Value) (A : Around) (outer : List PySem.Env) (s : Shared) (H : L2.Hp) (E : L2.XK) (hr : L2.Room k (A.deeper (envOfC "values_of" (L2.defScope sp_values_of) s.heap.objs.size fa cdv))) :
    PDSs (L2.cxOf L2.CX0 P w K mg base np_values_of "values_of" (L2.defScope sp_values_of) fa cdv A outer s H E).nox (L2.defBody sp_values_of) (b_p_values_of c) := by
  have nd := scp_values_of.nd
  unfold b_p_values_of
  exact pss_cons (ps_set (i := 2) nd rfl (by first | exact .inl rfl | exact .inr rfl) (pd_lst (pa_nil))) (pss_cons (ps_for PassesOwn.never rfl (pi_seq (pd_var (i := 0) rfl)) (pg_name (i := 3) nd rfl (by first | exact .inl rfl | exact .inr rfl)) (pss_one (ps_if (pt_cmp (L2.op_eqD hr.units) real_eq (by rfl) (pd_ix (fun _ _ => rfl) (pd_var (i := 3) rfl) (pd_int)) (pd_str)) (pss_one (ps_expr (pd_m L2.mt_append real_append ty_list PySem.F.plainAttrs_list PySem.F.slot_list_append PySem.F.type_list_append (pd_var (i := 2) rfl) (pa_cons (pd_ix (fun _ _ => rfl) (pd_var (i := 3) rfl) (pd_int)) (pa_nil))))) (pss_one (ps_if (pt_cmp (L2.op_eqD hr.units) real_eq (by rfl) (pd_ix (fun _ _ => rfl) (pd_var (i := 3) rfl) (pd_int)) (pd_str)) (pss_one (ps_expr (pd_m L2.mt_append real_append ty_list PySem.F.plainAttrs_list PySem.F.slot_list_append PySem.F.type_list_append (pd_var (i := 2) rfl) (pa_cons (pd_if (pt_cmp L2.op_lt real_lt (by rfl) (pd_ix (fun _ _ => rfl) (pd_var (i := 3) rfl) (pd_int)) (pd_callB L2.call_len real_lenB rfl (zs "len" (by decide)) bt_len (pa_cons (pd_var (i := 1) rfl) (pa_nil)))) (pd_and (pd_ix (fun _ _ => rfl) (pd_var (i := 1) rfl) (pd_ix (fun _ _ => rfl) (pd_var (i := 3) rfl) (pd_int))) (pd_call (y := "greatest") (ok "greatest" (by decide)) hr rfl (pa_cons (pd_ix (fun _ _ => rfl) (pd_var (i := 3) rfl) (pd_int)) (pa_nil)))) (pd_int)) (pa_nil))))) (pss_cons (ps_setLc (j := 4) (own := [("part", 5)]) rfl nd rfl rfl (L2.sw_true rfl rfl rfl (by decide +kernel)) (pi_seq (pd_sl (pd_var (i := 3) rfl) (po_some (pd_int)) (po_none))) (L2.blkOk_by (N := np_values_of) (sc := L2.defScope sp_values_of) (by decide +kernel)) (fun _ _ _ _ _ => pg_name (i := 5) nd rfl (by first | exact .inl rfl | exact .inr rfl)) (fun _ _ _ _ _ => pts_nil) (fun _ _ _ _ _ => pd_ix (fun _ _ => rfl) (pd_var (i := 2) rfl) (pd_var (i := 5) rfl)) (by decide)) (pss_one (ps_expr (pd_m L2.mt_append real_append ty_list PySem.F.plainAttrs_list PySem.F.slot_list_append PySem.F.type_list_append (pd_var (i := 2) rfl) (pa_cons (pd_callS2 (y := "result") (oks ("result", 2) (by decide)) hr rfl (pa_cons (pd_ix (fun _ _ => rfl) (pd_var (i := 3) rfl) (pd_int)) (pa_cons (pd_ix (fun _ _ => rfl) (pd_var (i := 3) rfl) (pd_int)) (pa_starD (pd_var (i := 4) rfl) (pa_nil))))) (pa_nil))))))))))) (pss_one (ps_ret (pd_callTy L2.call_tuple_of real_tupleB rfl (zs "tuple" (by decide)) bt_tuple (pa_cons (pd_var (i := 2) rfl) (pa_nil))))))
theorem der_p_value_of {k : Nat} {c : Cl} (ok : ∀ y ∈ names, Own P w K mg base k (Str.ofString y) (c y)) (oks : ∀ q ∈ snames, OwnS P w K mg base k q.2 (Str.ofString q.1) (c q.1)) (zs : ∀ y ∈ blts, mg (Str.ofString y) = none) {fa : Addr} (cdv : Value) (A : Around) (outer : List PySem.Env) (s : Shared) (H : L2.Hp) (E : L2.XK) (hr : L2.Room k (A.deeper (envOfC "value_of" (L2.defScope sp_value_of) s.heap.objs.size fa cdv))) :
    PDSs (L2.cxOf L2.CX0 P w K mg base np_value_of "value_of" (L2.defScope sp_value_of) fa cdv A outer s H E).nox (L2.defBody sp_value_of) (b_p_value_of c) := by
  have nd := scp_value_of.nd
  unfold b_p_value_of
  exact pss_one (ps_ret (pd_ix (fun _ _ => rfl) (pd_call (y := "values_of") (ok "values_of" (by decide)) hr rfl (pa_cons (pd_sl (pd_var (i := 0) rfl) (po_none) (po_some (pd_add (pd_var (i := 2) rfl) (pd_int)))) (pa_cons (pd_var (i := 1) rfl) (pa_nil)))) (pd_var (i := 2) rfl)))
theorem der_l_begin {k : Nat} {c : Cl} (ok : ∀ y ∈ names, Own P w K mg base k (Str.ofString y) (c y)) (oks : ∀ q ∈ snames, OwnS P w K mg base k q.2 (Str.ofString q.1) (c q.1)) (zs : ∀ y ∈ blts, mg (Str.ofString y) = none) {fa : Addr} (cdv : Value) (A : Around) (outer : List PySem.Env) (s : Shared) (H : L2.Hp) (E : L2.XK) (hr : L2.Room k (A.deeper (envOfC "_law_begin" (L2.defScope sl_begin) s.heap.objs.size fa cdv))) :
    PDSs (L2.cxOf L2.CX0 P w K mg base nl_begin "_law_begin" (L2.defScope sl_begin) fa cdv A outer s H E).nox (L2.defBody sl_begin) (b_l_begin c) := by
  have nd := scl_begin.nd
  unfold b_l_begin
  exact pss_one (ps_ret (pd_lst (pa_cons (pd_lc (own := [("_law_cell", 1)]) rfl nd (pi_seq (pd_var (i := 0) rfl)) (L2.blkOk_by (N := nl_begin) (sc := L2.defScope sl_begin) (by decide +kernel)) (fun _ _ _ _ _ => pg_name (i := 1) nd rfl (by first | exact .inl rfl | exact .inr rfl)) (fun _ _ _ _ _ => pts_nil) (fun _ _ _ _ _ => pd_callTy L2.call_int1 real_intB rfl (zs "int" (by decide)) bt_int (pa_cons (pd_var (i := 1) rfl) (pa_nil))) (by decide)) (pa_cons (pd_int) (pa_cons (pd_int) (pa_cons (pd_int) (pa_cons (pd_int) (pa_nil))))))))
theorem der_l_draw {k : Nat} {c : Cl} (ok : ∀ y ∈ names, Own P w K mg base k (Str.ofString y) (c y)) (oks : ∀ q ∈ snames, OwnS P w K mg base k q.2 (Str.ofString q.1) (c q.1)) (zs : ∀ y ∈ blts, mg (Str.ofString y) = none) {fa : Addr} (cdv : Value) (A : Around) (outer : List PySem.Env) (s : Shared) (H : L2.Hp) (E : L2.XK) (hr : L2.Room k (A.deeper (envOfC "_law_draw" (L2.defScope sl_draw) s.heap.objs.size fa cdv))) :
    PDSs (L2.cxOf L2.CX0 P w K mg base nl_draw "_law_draw" (L2.defScope sl_draw) fa cdv A outer s H E).nox (L2.defBody sl_draw) (b_l_draw c) := by
  have nd := scl_draw.nd
  unfold b_l_draw
  exact pss_cons (ps_if (pt_cmp L2.op_gt real_gt (by rfl) (pd_ix (fun _ _ => rfl) (pd_var (i := 0) rfl) (pd_int)) (pd_int)) (pss_cons (ps_set (i := 2) nd rfl (by first | exact .inl rfl | exact .inr rfl) (pd_ix (fun _ _ => rfl) (pd_var (i := 0) rfl) (pd_int))) (pss_cons (ps_asg (pd_fdiv (pd_var (i := 2) rfl) (pd_var (i := 1) rfl)) (pg_sub (pd_var (i := 0) rfl) (pd_int))) (pss_one (ps_ret (pd_mod (pd_callTy L2.call_int1 real_intB rfl (zs "int" (by decide)) bt_int (pa_cons (pd_var (i := 2) rfl) (pa_nil))) (pd_var (i := 1) rfl)))))) (pss_nil)) (pss_cons (ps_set (i := 3) nd rfl (by first | exact .inl rfl | exact .inr rfl) (pd_int)) (pss_cons (ps_if (pt_cmp L2.op_lt real_lt (by rfl) (pd_ix (fun _ _ => rfl) (pd_var (i := 0) rfl) (pd_int)) (pd_callB L2.call_len real_lenB rfl (zs "len" (by decide)) bt_len (pa_cons (pd_ix (fun _ _ => rfl) (pd_var (i := 0) rfl) (pd_int)) (pa_nil)))) (pss_cons (ps_set (i := 4) nd rfl (by first | exact .inl rfl | exact .inr rfl) (pd_ix (fun _ _ => rfl) (pd_ix (fun _ _ => rfl) (pd_var (i := 0) rfl) (pd_int)) (pd_ix (fun _ _ => rfl) (pd_var (i := 0) rfl) (pd_int)))) (pss_one (ps_set (i := 3) nd rfl (by first | exact .inl rfl | exact .inr rfl) (pd_add (pd_mul (pd_int) (pd_callB L2.call_abs real_absB rfl (zs "abs" (by decide)) bt_abs (pa_cons (pd_var (i := 4) rfl) (pa_nil)))) (pd_callTy L2.call_int1 real_intB rfl (zs "int" (by decide)) bt_int (pa_cons (pd_cmp L2.op_lt real_lt (by rfl) (pd_var (i := 4) rfl) (pd_int)) (pa_nil))))))) (pss_nil)) (pss_cons (ps_augS ip_add real_iadd (pd_var (i := 0) rfl) (pd_int) (pd_int)) (pss_cons (ps_if (pt_cmp L2.op_ge real_ge (by rfl) (pd_var (i := 3) rfl) (pd_mul (pd_int) (pd_pow (pd_int) (pd_int)))) (pss_cons (ps_set (i := 2) nd rfl (by first | exact .inl rfl | exact .inr rfl) (pd_mod (pd_callTy L2.call_int1 real_intB rfl (zs "int" (by decide)) bt_int (pa_cons (pd_fdiv (pd_var (i := 3) rfl) (pd_int)) (pa_nil))) (pd_shl (pd_int) (pd_int)))) (pss_cons (ps_asg (pd_fdiv (pd_var (i := 2) rfl) (pd_var (i := 1) rfl)) (pg_sub (pd_var (i := 0) rfl) (pd_int))) (pss_one (ps_ret (pd_mod (pd_callTy L2.call_int1 real_intB rfl (zs "int" (by decide)) bt_int (pa_cons (pd_var (i := 2) rfl) (pa_nil))) (pd_var (i := 1) rfl)))))) (pss_nil)) (pss_cons (ps_asg (pd_mod (pd_callTy L2.call_int1 real_intB rfl (zs "int" (by decide)) bt_int (pa_cons (pd_add (pd_add (pd_add (pd_mul (pd_ix (fun _ _ => rfl) (pd_var (i := 0) rfl) (pd_int)) (pd_int)) (pd_mul (pd_mod (pd_callTy L2.call_int1 real_intB rfl (zs "int" (by decide)) bt_int (pa_cons (pd_var (i := 3) rfl) (pa_nil))) (pd_int)) (pd_int))) (pd_mul (pd_ix (fun _ _ => rfl) (pd_var (i := 0) rfl) (pd_int)) (pd_int))) (pd_int)) (pa_nil))) (pd_int)) (pg_sub (pd_var (i := 0) rfl) (pd_int))) (pss_one (ps_ret (pd_mod (pd_callTy L2.call_int1 real_intB rfl (zs "int" (by decide)) bt_int (pa_cons (pd_fdiv (pd_ix (fun _ _ => rfl) (pd_var (i := 0) rfl) (pd_int)) (pd_int)) (pa_nil))) (pd_var (i := 1) rfl)))))))))
theorem der_l_pick {k : Nat} {c : Cl} (ok : ∀ y ∈ names, Own P w K mg base k (Str.ofString y) (c y)) (oks : ∀ q ∈ snames, OwnS P w K mg base k q.2 (Str.ofString q.1) (c q.1)) (zs : ∀ y ∈ blts, mg (Str.ofString y) = none) {fa : Addr} (cdv : Value) (A : Around) (outer : List PySem.Env) (s : Shared) (H : L2.Hp) (E : L2.XK) (hr : L2.Room k (A.deeper (envOfC "_law_pick" (L2.defScope sl_pick) s.heap.objs.size fa cdv))) :
    PDSs (L2.cxOf L2.CX0 P w K mg base nl_pick "_law_pick" (L2.defScope sl_pick) fa cdv A outer s H E).nox (L2.defBody sl_pick) (b_l_pick c) := by
  have nd := scl_pick.nd
  unfold b_l_pick
  exact pss_one (ps_ret (pd_ix (fun _ _ => rfl) (pd_var (i := 1) rfl) (pd_call (y := "_law_draw") (ok "_law_draw" (by decide)) hr rfl (pa_cons (pd_var (i := 0) rfl) (pa_cons (pd_callB L2.call_len real_lenB rfl (zs "len" (by decide)) bt_len (pa_cons (pd_var (i := 1) rfl) (pa_nil))) (pa_nil))))))
theorem der_l_rare {k : Nat} {c : Cl} (ok : ∀ y ∈ names, Own P w K mg base k (Str.ofString y) (c y)) (oks : ∀ q ∈ snames, OwnS P w K mg base k q.2 (Str.ofString q.1) (c q.1)) (zs : ∀ y ∈ blts, mg (Str.ofString y) = none) {fa : Addr} (cdv : Value) (A : Around) (outer : List PySem.Env) (s : Shared) (H : L2.Hp) (E : L2.XK) (hr : L2.Room k (A.deeper (envOfC "_law_rare" (L2.defScope sl_rare) s.heap.objs.size fa cdv))) :
    PDSs (L2.cxOf L2.CX0 P w K mg base nl_rare "_law_rare" (L2.defScope sl_rare) fa cdv A outer s H E).nox (L2.defBody sl_rare) (b_l_rare c) := by
  have nd := scl_rare.nd
  unfold b_l_rare
  exact pss_one (ps_ret (pd_cmp (L2.op_eqD hr.units) real_eq (by rfl) (pd_call (y := "_law_draw") (ok "_law_draw" (by decide)) hr rfl (pa_cons (pd_var (i := 0) rfl) (pa_cons (pd_var (i := 1) rfl) (pa_nil)))) (pd_fdiv (pd_var (i := 1) rfl) (pd_int))))
theorem der_l_is_int {k : Nat} {c : Cl} (ok : ∀ y ∈ names, Own P w K mg base k (Str.ofString y) (c y)) (oks : ∀ q ∈ snames, OwnS P w K mg base k q.2 (Str.ofString q.1) (c q.1)) (zs : ∀ y ∈ blts, mg (Str.ofString y) = none) {fa : Addr} (cdv : Value) (A : Around) (outer : List PySem.Env) (s : Shared) (H : L2.Hp) (E : L2.XK) (hr : L2.Room k (A.deeper (envOfC "_law_is_int" (L2.defScope sl_is_int) s.heap.objs.size fa cdv))) :
    PDSs (L2.cxOf L2.CX0 P w K mg base nl_is_int "_law_is_int" (L2.defScope sl_is_int) fa cdv A outer s H E).nox (L2.defBody sl_is_int) (b_l_is_int c) := by
  have nd := scl_is_int.nd
  unfold b_l_is_int
  exact pss_one (ps_ret (pd_and' (pd_isi (T := "int") .int rfl (zs "isinstance" (by decide)) rfl rfl (zs "int" (by decide)) bt_int (pd_var (i := 0) rfl)) (pd_one (pd_not (pd_isi (T := "bool") .bool rfl (zs "isinstance" (by decide)) rfl rfl (zs "bool" (by decide)) bt_bool (pd_var (i := 0) rfl))))))
theorem der_l_ops {k : Nat} {c : Cl} (ok : ∀ y ∈ names, Own P w K mg base k (Str.ofString y) (c y)) (oks : ∀ q ∈ snames, OwnS P w K mg base k q.2 (Str.ofString q.1) (c q.1)) (zs : ∀ y ∈ blts, mg (Str.ofString y) = none) {fa : Addr} (cdv : Value) (A : Around) (outer : List PySem.Env) (s : Shared) (H : L2.Hp) (E : L2.XK) (hr : L2.Room k (A.deeper (envOfC "_law_ops" (L2.defScope sl_ops) s.heap.objs.size fa cdv))) :
    PDSs (L2.cxOf L2.CX0 P w K mg base nl_ops "_law_ops" (L2.defScope sl_ops) fa cdv A outer s H E).nox (L2.defBody sl_ops) (b_l_ops c) := by
  have nd := scl_ops.nd
  unfold b_l_ops
  exact pss_one (ps_ret (pd_lst (pa_cons (pd_str) (pa_cons (pd_str) (pa_cons (pd_str) (pa_cons (pd_str) (pa_cons (pd_str) (pa_cons (pd_str) (pa_cons (pd_str) (pa_cons (pd_str) (pa_cons (pd_str) (pa_cons (pd_str) (pa_cons (pd_str) (pa_cons (pd_str) (pa_cons (pd_str) (pa_cons (pd_str) (pa_cons (pd_str) (pa_cons (pd_str) (pa_cons (pd_str) (pa_cons (pd_str) (pa_nil)))))))))))))))))))))
theorem der_l_leaf_drawn {k : Nat} {c : Cl} (ok : ∀ y ∈ names, Own P w K mg base k (Str.ofString y) (c y)) (oks : ∀ q ∈ snames, OwnS P w K mg base k q.2 (Str.ofString q.1) (c q.1)) (zs : ∀ y ∈ blts, mg (Str.ofString y) = none) {fa : Addr} (cdv : Value) (A : Around) (outer : List PySem.Env) (s : Shared) (H : L2.Hp) (E : L2.XK) (hr : L2.Room k (A.deeper (envOfC "_law_leaf_drawn" (L2.defScope sl_leaf_drawn) s.heap.objs.size fa cdv))) :
    PDSs (L2.cxOf L2.CX0 P w K mg base nl_leaf_drawn "_law_leaf_drawn" (L2.defScope sl_leaf_drawn) fa cdv A outer s H E).nox (L2.defBody sl_leaf_drawn) (b_l_leaf_drawn c) := by
  have nd := scl_leaf_drawn.nd
  unfold b_l_leaf_drawn
  exact pss_cons (ps_if (pt_cmp (L2.op_eqD hr.units) real_eq (by rfl) (pd_call (y := "_law_draw") (ok "_law_draw" (by decide)) hr rfl (pa_cons (pd_var (i := 0) rfl) (pa_cons (pd_int) (pa_nil)))) (pd_int)) (pss_cons (ps_set (i := 2) nd rfl (by first | exact .inl rfl | exact .inr rfl) (pd_sub (pd_shl (pd_int) (pd_var (i := 1) rfl)) (pd_int))) (pss_one (ps_ret (pd_tup (pa_cons (pd_str) (pa_cons (pd_var (i := 1) rfl) (pa_cons (pd_call (y := "_law_pick") (ok "_law_pick" (by decide)) hr rfl (pa_cons (pd_var (i := 0) rfl) (pa_cons (pd_lst (pa_cons (pd_int) (pa_cons (pd_int) (pa_cons (pd_var (i := 2) rfl) (pa_cons (pd_shr (pd_var (i := 2) rfl) (pd_int)) (pa_cons (pd_var (i := 1) rfl) (pa_cons (pd_call (y := "_law_draw") (ok "_law_draw" (by decide)) hr rfl (pa_cons (pd_var (i := 0) rfl) (pa_cons (pd_add (pd_var (i := 2) rfl) (pd_int)) (pa_nil)))) (pa_nil)))))))) (pa_nil)))) (pa_nil)))))))) (pss_nil)) (pss_one (ps_ret (pd_tup (pa_cons (pd_str) (pa_cons (pd_var (i := 1) rfl) (pa_cons (pd_call (y := "_law_pick") (ok "_law_pick" (by decide)) hr rfl (pa_cons (pd_var (i := 0) rfl) (pa_cons (pd_lst (pa_cons (pd_int) (pa_cons (pd_int) (pa_cons (pd_int) (pa_cons (pd_int) (pa_cons (pd_call (y := "_law_draw") (ok "_law_draw" (by decide)) hr rfl (pa_cons (pd_var (i := 0) rfl) (pa_cons (pd_int) (pa_nil)))) (pa_cons (pd_int) (pa_nil)))))))) (pa_nil)))) (pa_nil)))))))
theorem der_l_node_drawn {k : Nat} {c : Cl} (ok : ∀ y ∈ names, Own P w K mg base k (Str.ofString y) (c y)) (oks : ∀ q ∈ snames, OwnS P w K mg base k q.2 (Str.ofString q.1) (c q.1)) (zs : ∀ y ∈ blts, mg (Str.ofString y) = none) {fa : Addr} (cdv : Value) (A : Around) (outer : List PySem.Env) (s : Shared) (H : L2.Hp) (E : L2.XK) (hr : L2.Room k (A.deeper (envOfC "_law_node_drawn" (L2.defScope sl_node_drawn) s.heap.objs.size fa cdv))) :
    PDSs (L2.cxOf L2.CX0 P w K mg base nl_node_drawn "_law_node_drawn" (L2.defScope sl_node_drawn) fa cdv A outer s H E).nox (L2.defBody sl_node_drawn) (b_l_node_drawn c) := by
  have nd := scl_node_drawn.nd
  unfold b_l_node_drawn
  exact pss_cons (ps_set (i := 2) nd rfl (by first | exact .inl rfl | exact .inr rfl) (pd_callB L2.call_len real_lenB rfl (zs "len" (by decide)) bt_len (pa_cons (pd_var (i := 1) rfl) (pa_nil)))) (pss_cons (ps_if (pt_cmp (L2.op_eqD hr.units) real_eq (by rfl) (pd_call (y := "_law_draw") (ok "_law_draw" (by decide)) hr rfl (pa_cons (pd_var (i := 0) rfl) (pa_cons (pd_int) (pa_nil)))) (pd_int)) (pss_one (ps_set (i := 2) nd rfl (by first | exact .inl rfl | exact .inr rfl) (pd_callB (L2.call_min2 rfl) real_min2B rfl (zs "min" (by decide)) bt_min (pa_cons (pd_int) (pa_cons (pd_var (i := 2) rfl) (pa_nil)))))) (pss_nil)) (pss_cons (ps_set (i := 3) nd rfl (by first | exact .inl rfl | exact .inr rfl) (pd_sub (pd_sub (pd_callB L2.call_len real_lenB rfl (zs "len" (by decide)) bt_len (pa_cons (pd_var (i := 1) rfl) (pa_nil))) (pd_int)) (pd_call (y := "_law_draw") (ok "_law_draw" (by decide)) hr rfl (pa_cons (pd_var (i := 0) rfl) (pa_cons (pd_var (i := 2) rfl) (pa_nil)))))) (pss_cons (ps_set (i := 4) nd rfl (by first | exact .inl rfl | exact .inr rfl) (pd_ix (fun _ _ => rfl) (pd_ix (fun _ _ => rfl) (pd_var (i := 1) rfl) (pd_var (i := 3) rfl)) (pd_int))) (pss_cons (ps_setLc (j := 5) (own := [("_law_k", 9)]) rfl nd rfl rfl (L2.sw_true rfl rfl rfl (by decide +kernel)) (pi_r1 rfl (zs "range" (by decide)) (pd_callB L2.call_len real_lenB rfl (zs "len" (by decide)) bt_len (pa_cons (pd_var (i := 1) rfl) (pa_nil)))) (L2.blkOk_by (N := nl_node_drawn) (sc := L2.defScope sl_node_drawn) (by decide +kernel)) (fun _ _ _ _ _ => pg_name (i := 9) nd rfl (by first | exact .inl rfl | exact .inr rfl)) (fun _ _ _ _ _ => pts_one (pt_cmp (L2.op_eqD hr.units) real_eq (by rfl) (pd_ix (fun _ _ => rfl) (pd_ix (fun _ _ => rfl) (pd_var (i := 1) rfl) (pd_var (i := 9) rfl)) (pd_int)) (pd_var (i := 4) rfl))) (fun _ _ _ _ _ => pd_var (i := 9) rfl) (by decide)) (pss_cons (ps_setLc (j := 6) (own := [("_law_k", 9)]) rfl nd rfl rfl (L2.sw_true rfl rfl rfl (by decide +kernel)) (pi_r1 rfl (zs "range" (by decide)) (pd_callB L2.call_len real_lenB rfl (zs "len" (by decide)) bt_len (pa_cons (pd_var (i := 1) rfl) (pa_nil)))) (L2.blkOk_by (N := nl_node_drawn) (sc := L2.defScope sl_node_drawn) (by decide +kernel)) (fun _ _ _ _ _ => pg_name (i := 9) nd rfl (by first | exact .inl rfl | exact .inr rfl)) (fun _ _ _ _ _ => pts_one (pt_cmp (L2.op_eqD hr.units) real_eq (by rfl) (pd_ix (fun _ _ => rfl) (pd_ix (fun _ _ => rfl) (pd_var (i := 1) rfl) (pd_var (i := 9) rfl)) (pd_int)) (pd_int))) (fun _ _ _ _ _ => pd_var (i := 9) rfl) (by decide)) (pss_cons (ps_set (i := 7) nd rfl (by first | exact .inl rfl | exact .inr rfl) (pd_call (y := "_law_pick") (ok "_law_pick" (by decide)) hr rfl (pa_cons (pd_var (i := 0) rfl) (pa_cons (pd_call0 (y := "_law_ops") (ok "_law_ops" (by decide)) hr rfl) (pa_nil))))) (pss_cons (ps_if (pt_cmp L2.op_in_seq (real_in false) (by rfl) (pd_var (i := 7) rfl) (pd_lst (pa_cons (pd_str) (pa_cons (pd_str) (pa_nil))))) (pss_one (ps_ret (pd_tup (pa_cons (pd_var (i := 7) rfl) (pa_cons (pd_var (i := 4) rfl) (pa_cons (pd_var (i := 3) rfl) (pa_nil))))))) (pss_nil)) (pss_cons (ps_if (pt_cmp (L2.op_eqD hr.units) real_eq (by rfl) (pd_var (i := 7) rfl) (pd_str)) (pss_one (ps_ret (pd_tup (pa_cons (pd_var (i := 7) rfl) (pa_cons (pd_add (pd_int) (pd_call (y := "_law_draw") (ok "_law_draw" (by decide)) hr rfl (pa_cons (pd_var (i := 0) rfl) (pa_cons (pd_int) (pa_nil))))) (pa_cons (pd_var (i := 3) rfl) (pa_nil))))))) (pss_nil)) (pss_cons (ps_if (pt_cmp L2.op_in_seq (real_in false) (by rfl) (pd_var (i := 7) rfl) (pd_lst (pa_cons (pd_str) (pa_cons (pd_str) (pa_nil))))) (pss_one (ps_ret (pd_tup (pa_cons (pd_var (i := 7) rfl) (pa_cons (pd_var (i := 4) rfl) (pa_cons (pd_var (i := 3) rfl) (pa_cons (pd_call (y := "_law_draw") (ok "_law_draw" (by decide)) hr rfl (pa_cons (pd_var (i := 0) rfl) (pa_cons (pd_callB L2.call_len real_lenB rfl (zs "len" (by decide)) bt_len (pa_cons (pd_var (i := 1) rfl) (pa_nil))) (pa_nil)))) (pa_nil)))))))) (pss_nil)) (pss_cons (ps_set (i := 8) nd rfl (by first | exact .inl rfl | exact .inr rfl) (pd_call (y := "_law_pick") (ok "_law_pick" (by decide)) hr rfl (pa_cons (pd_var (i := 0) rfl) (pa_cons (pd_var (i := 5) rfl) (pa_nil))))) (pss_cons (ps_if (ptw (pw_and (pt_cmp (L2.op_eqD hr.units) real_eq (by rfl) (pd_var (i := 7) rfl) (pd_str)) (pw_and1 (pt_tru (pd_var (i := 6) rfl))))) (pss_one (ps_ret (pd_tup (pa_cons (pd_var (i := 7) rfl) (pa_cons (pd_var (i := 4) rfl) (pa_cons (pd_call (y := "_law_pick") (ok "_law_pick" (by decide)) hr rfl (pa_cons (pd_var (i := 0) rfl) (pa_cons (pd_var (i := 6) rfl) (pa_nil)))) (pa_cons (pd_var (i := 3) rfl) (pa_cons (pd_var (i := 8) rfl) (pa_nil))))))))) (pss_nil)) (pss_cons (ps_if (pt_cmp L2.op_in_seq (real_in false) (by rfl) (pd_var (i := 7) rfl) (pd_lst (pa_cons (pd_str) (pa_cons (pd_str) (pa_cons (pd_str) (pa_cons (pd_str) (pa_cons (pd_str) (pa_nil)))))))) (pss_one (ps_ret (pd_tup (pa_cons (pd_if (pt_cmp (L2.op_eqD hr.units) real_eq (by rfl) (pd_var (i := 7) rfl) (pd_str)) (pd_str) (pd_var (i := 7) rfl)) (pa_cons (pd_int) (pa_cons (pd_var (i := 3) rfl) (pa_cons (pd_var (i := 8) rfl) (pa_nil)))))))) (pss_nil)) (pss_one (ps_ret (pd_tup (pa_cons (pd_var (i := 7) rfl) (pa_cons (pd_var (i := 4) rfl) (pa_cons (pd_var (i := 3) rfl) (pa_cons (pd_var (i := 8) rfl) (pa_nil))))))))))))))))))))
theorem der_l_sheet_drawn {k : Nat} {c : Cl} (ok : ∀ y ∈ names, Own P w K mg base k (Str.ofString y) (c y)) (oks : ∀ q ∈ snames, OwnS P w K mg base k q.2 (Str.ofString q.1) (c q.1)) (zs : ∀ y ∈ blts, mg (Str.ofString y) = none) {fa : Addr} (cdv : Value) (A : Around) (outer : List PySem.Env) (s : Shared) (H : L2.Hp) (E : L2.XK) (hr : L2.Room k (A.deeper (envOfC "_law_sheet_drawn" (L2.defScope sl_sheet_drawn) s.heap.objs.size fa cdv))) :
    PDSs (L2.cxOf L2.CX0 P w K mg base nl_sheet_drawn "_law_sheet_drawn" (L2.defScope sl_sheet_drawn) fa cdv A outer s H E).nox (L2.defBody sl_sheet_drawn) (b_l_sheet_drawn c) := by
  have nd := scl_sheet_drawn.nd
  unfold b_l_sheet_drawn
  exact pss_cons (ps_set (i := 3) nd rfl (by first | exact .inl rfl | exact .inr rfl) (pd_add (pd_int) (pd_call (y := "_law_draw") (ok "_law_draw" (by decide)) hr rfl (pa_cons (pd_var (i := 0) rfl) (pa_cons (pd_int) (pa_nil)))))) (pss_cons (ps_set (i := 4) nd rfl (by first | exact .inl rfl | exact .inr rfl) (pd_add (pd_int) (pd_call (y := "_law_draw") (ok "_law_draw" (by decide)) hr rfl (pa_cons (pd_var (i := 0) rfl) (pa_cons (pd_int) (pa_nil)))))) (pss_cons (ps_set (i := 5) nd rfl (by first | exact .inl rfl | exact .inr rfl) (pd_lst (pa_nil))) (pss_cons (ps_for PassesOwn.never rfl (pi_r1 rfl (zs "range" (by decide)) (pd_var (i := 1) rfl)) (pg_name (i := 6) nd rfl (by first | exact .inl rfl | exact .inr rfl)) (pss_cons (ps_set (i := 7) nd rfl (by first | exact .inl rfl | exact .inr rfl) (pd_call (y := "_law_leaf_drawn") (ok "_law_leaf_drawn" (by decide)) hr rfl (pa_cons (pd_var (i := 0) rfl) (pa_cons (pd_call (y := "_law_pick") (ok "_law_pick" (by decide)) hr rfl (pa_cons (pd_var (i := 0) rfl) (pa_cons (pd_lst (pa_cons (pd_var (i := 3) rfl) (pa_cons (pd_var (i := 3) rfl) (pa_cons (pd_var (i := 4) rfl) (pa_cons (pd_int) (pa_nil)))))) (pa_nil)))) (pa_nil))))) (pss_one (ps_if (pt_cmp (op_notinD hr.units) (real_inD true) (by rfl) (pd_var (i := 7) rfl) (pd_var (i := 5) rfl)) (pss_one (ps_expr (pd_m L2.mt_append real_append ty_list PySem.F.plainAttrs_list PySem.F.slot_list_append PySem.F.type_list_append (pd_var (i := 5) rfl) (pa_cons (pd_var (i := 7) rfl) (pa_nil))))) (pss_nil))))) (pss_cons (ps_for PassesOwn.never rfl (pi_r1 rfl (zs "range" (by decide)) (pd_if (pt_tru (pd_var (i := 5) rfl)) (pd_var (i := 2) rfl) (pd_int))) (pg_name (i := 6) nd rfl (by first | exact .inl rfl | exact .inr rfl)) (pss_cons (ps_set (i := 7) nd rfl (by first | exact .inl rfl | exact .inr rfl) (pd_call (y := "_law_node_drawn") (ok "_law_node_drawn" (by decide)) hr rfl (pa_cons (pd_var (i := 0) rfl) (pa_cons (pd_var (i := 5) rfl) (pa_nil))))) (pss_one (ps_if (pt_cmp (op_notinD hr.units) (real_inD true) (by rfl) (pd_var (i := 7) rfl) (pd_var (i := 5) rfl)) (pss_one (ps_expr (pd_m L2.mt_append real_append ty_list PySem.F.plainAttrs_list PySem.F.slot_list_append PySem.F.type_list_append (pd_var (i := 5) rfl) (pa_cons (pd_var (i := 7) rfl) (pa_nil))))) (pss_nil))))) (pss_one (ps_ret (pd_callTy L2.call_tuple_of real_tupleB rfl (zs "tuple" (by decide)) bt_tuple (pa_cons (pd_var (i := 5) rfl) (pa_nil)))))))))
theorem der_l_reckoned {k : Nat} {c : Cl} (ok : ∀ y ∈ names, Own P w K mg base k (Str.ofString y) (c y)) (oks : ∀ q ∈ snames, OwnS P w K mg base k q.2 (Str.ofString q.1) (c q.1)) (zs : ∀ y ∈ blts, mg (Str.ofString y) = none) {fa : Addr} (cdv : Value) (A : Around) (outer : List PySem.Env) (s : Shared) (H : L2.Hp) (E : L2.XK) (hr : L2.Room k (A.deeper (envOfC "_law_reckoned" (L2.defScope sl_reckoned) s.heap.objs.size fa cdv))) :
    PDSs (L2.cxOf L2.CX0 P w K mg base nl_reckoned "_law_reckoned" (L2.defScope sl_reckoned) fa cdv A outer s H E).nox (L2.defBody sl_reckoned) (b_l_reckoned c) := by
  have nd := scl_reckoned.nd
  unfold b_l_reckoned
  exact pss_cons (ps_set (i := 3) nd rfl (by first | exact .inl rfl | exact .inr rfl) (pd_sub (pd_shl (pd_int) (pd_var (i := 1) rfl)) (pd_int))) (pss_cons (ps_set (i := 4) nd rfl (by first | exact .inl rfl | exact .inr rfl) (pd_ix (fun _ _ => rfl) (pd_var (i := 2) rfl) (pd_int))) (pss_cons (ps_if (pt_cmp (L2.op_eqD hr.units) real_eq (by rfl) (pd_var (i := 0) rfl) (pd_str)) (pss_one (ps_ret (pd_sub (pd_var (i := 3) rfl) (pd_var (i := 4) rfl)))) (pss_nil)) (pss_cons (ps_if (pt_cmp (L2.op_eqD hr.units) real_eq (by rfl) (pd_var (i := 0) rfl) (pd_str)) (pss_one (ps_ret (pd_and (pd_sub (pd_add (pd_var (i := 3) rfl) (pd_int)) (pd_var (i := 4) rfl)) (pd_var (i := 3) rfl)))) (pss_nil)) (pss_cons (ps_if (pt_cmp (L2.op_eqD hr.units) real_eq (by rfl) (pd_var (i := 0) rfl) (pd_str)) (pss_one (ps_ret (pd_and (pd_var (i := 4) rfl) (pd_var (i := 3) rfl)))) (pss_nil)) (pss_cons (ps_if (pt_cmp (L2.op_eqD hr.units) real_eq (by rfl) (pd_var (i := 0) rfl) (pd_str)) (pss_one (ps_ret (pd_if (pt_cmp (L2.op_eqD hr.units) real_eq (by rfl) (pd_var (i := 4) rfl) (pd_int)) (pd_ix (fun _ _ => rfl) (pd_var (i := 2) rfl) (pd_int)) (pd_ix (fun _ _ => rfl) (pd_var (i := 2) rfl) (pd_int))))) (pss_nil)) (pss_cons (ps_set (i := 5) nd rfl (by first | exact .inl rfl | exact .inr rfl) (pd_ix (fun _ _ => rfl) (pd_var (i := 2) rfl) (pd_int))) (pss_cons (ps_if (pt_cmp L2.op_in_seq (real_in false) (by rfl) (pd_var (i := 0) rfl) (pd_lst (pa_cons (pd_str) (pa_cons (pd_str) (pa_nil))))) (pss_one (ps_ret (pd_if (pt_cmp (L2.op_eqD hr.units) real_eq (by rfl) (pd_var (i := 0) rfl) (pd_str)) (pd_callTy L2.call_int1 real_intB rfl (zs "int" (by decide)) bt_int (pa_cons (pd_cmp (L2.op_eqD hr.units) real_eq (by rfl) (pd_var (i := 4) rfl) (pd_var (i := 5) rfl)) (pa_nil))) (pd_callTy L2.call_int1 real_intB rfl (zs "int" (by decide)) bt_int (pa_cons (pd_cmp (L2.op_neD hr.units) real_ne (by rfl) (pd_var (i := 4) rfl) (pd_var (i := 5) rfl)) (pa_nil)))))) (pss_nil)) (pss_cons (ps_if (pt_cmp L2.op_in_seq (real_in false) (by rfl) (pd_var (i := 0) rfl) (pd_lst (pa_cons (pd_str) (pa_cons (pd_str) (pa_nil))))) (pss_one (ps_ret (pd_if (pt_cmp (L2.op_eqD hr.units) real_eq (by rfl) (pd_var (i := 0) rfl) (pd_str)) (pd_callTy L2.call_int1 real_intB rfl (zs "int" (by decide)) bt_int (pa_cons (pd_cmp L2.op_lt real_lt (by rfl) (pd_var (i := 4) rfl) (pd_var (i := 5) rfl)) (pa_nil))) (pd_callTy L2.call_int1 real_intB rfl (zs "int" (by decide)) bt_int (pa_cons (pd_cmp L2.op_le real_le (by rfl) (pd_var (i := 4) rfl) (pd_var (i := 5) rfl)) (pa_nil)))))) (pss_nil)) (pss_cons (ps_if (pt_cmp L2.op_in_seq (real_in false) (by rfl) (pd_var (i := 0) rfl) (pd_lst (pa_cons (pd_str) (pa_cons (pd_str) (pa_nil))))) (pss_cons (ps_if (pt_cmp (L2.op_eqD hr.units) real_eq (by rfl) (pd_var (i := 5) rfl) (pd_int)) (pss_one (ps_ret (pd_int))) (pss_nil)) (pss_one (ps_ret (pd_if (pt_cmp (L2.op_eqD hr.units) real_eq (by rfl) (pd_var (i := 0) rfl) (pd_str)) (pd_fdiv (pd_var (i := 4) rfl) (pd_var (i := 5) rfl)) (pd_sub (pd_var (i := 4) rfl) (pd_mul (pd_var (i := 5) rfl) (pd_fdiv (pd_var (i := 4) rfl) (pd_var (i := 5) rfl)))))))) (pss_nil)) (pss_cons (ps_if (pt_cmp (L2.op_eqD hr.units) real_eq (by rfl) (pd_var (i := 0) rfl) (pd_str)) (pss_one (ps_ret (pd_shr (pd_var (i := 4) rfl) (pd_var (i := 5) rfl)))) (pss_nil)) (pss_cons (ps_if (pt_cmp (L2.op_eqD hr.units) real_eq (by rfl) (pd_var (i := 0) rfl) (pd_str)) (pss_one (ps_ret (pd_and (pd_shl (pd_var (i := 4) rfl) (pd_var (i := 5) rfl)) (pd_var (i := 3) rfl)))) (pss_nil)) (pss_cons (ps_if (pt_cmp L2.op_in_seq (real_in false) (by rfl) (pd_var (i := 0) rfl) (pd_lst (pa_cons (pd_str) (pa_cons (pd_str) (pa_nil))))) (pss_one (ps_ret (pd_if (pt_cmp (L2.op_eqD hr.units) real_eq (by rfl) (pd_var (i := 0) rfl) (pd_str)) (pd_and (pd_var (i := 4) rfl) (pd_var (i := 5) rfl)) (pd_or (pd_var (i := 4) rfl) (pd_var (i := 5) rfl))))) (pss_nil)) (pss_cons (ps_if (pt_cmp (L2.op_eqD hr.units) real_eq (by rfl) (pd_var (i := 0) rfl) (pd_str)) (pss_one (ps_ret (pd_xor (pd_var (i := 4) rfl) (pd_var (i := 5) rfl)))) (pss_nil)) (pss_cons (ps_if (pt_cmp (L2.op_eqD hr.units) real_eq (by rfl) (pd_var (i := 0) rfl) (pd_str)) (pss_one (ps_ret (pd_and (pd_mul (pd_var (i := 4) rfl) (pd_var (i := 5) rfl)) (pd_var (i := 3) rfl)))) (pss_nil)) (pss_one (ps_ret (pd_if (pt_cmp (L2.op_eqD hr.units) real_eq (by rfl) (pd_var (i := 0) rfl) (pd_str)) (pd_and (pd_add (pd_var (i := 4) rfl) (pd_var (i := 5) rfl)) (pd_var (i := 3) rfl)) (pd_and (pd_sub (pd_var (i := 4) rfl) (pd_var (i := 5) rfl)) (pd_var (i := 3) rfl)))))))))))))))))))
theorem der_l_reckoned_all {k : Nat} {c : Cl} (ok : ∀ y ∈ names, Own P w K mg base k (Str.ofString y) (c y)) (oks : ∀ q ∈ snames, OwnS P w K mg base k q.2 (Str.ofString q.1) (c q.1)) (zs : ∀ y ∈ blts, mg (Str.ofString y) = none) {fa : Addr} (cdv : Value) (A : Around) (outer : List PySem.Env) (s : Shared) (H : L2.Hp) (E : L2.XK) (hr : L2.Room k (A.deeper (envOfC "_law_reckoned_all" (L2.defScope sl_reckoned_all) s.heap.objs.size fa cdv))) :
    PDSs (L2.cxOf L2.CX0 P w K mg base nl_reckoned_all "_law_reckoned_all" (L2.defScope sl_reckoned_all) fa cdv A outer s H E).nox (L2.defBody sl_reckoned_all) (b_l_reckoned_all c) := by
  have nd := scl_reckoned_all.nd
  unfold b_l_reckoned_all
  exact pss_cons (ps_set (i := 2) nd rfl (by first | exact .inl rfl | exact .inr rfl) (pd_lst (pa_nil))) (pss_cons (ps_for PassesOwn.never rfl (pi_seq (pd_var (i := 0) rfl)) (pg_name (i := 3) nd rfl (by first | exact .inl rfl | exact .inr rfl)) (pss_one (ps_if (pt_cmp (L2.op_eqD hr.units) real_eq (by rfl) (pd_ix (fun _ _ => rfl) (pd_var (i := 3) rfl) (pd_int)) (pd_str)) (pss_one (ps_expr (pd_m L2.mt_append real_append ty_list PySem.F.plainAttrs_list PySem.F.slot_list_append PySem.F.type_list_append (pd_var (i := 2) rfl) (pa_cons (pd_ix (fun _ _ => rfl) (pd_var (i := 3) rfl) (pd_int)) (pa_nil))))) (pss_one (ps_if (pt_cmp (L2.op_eqD hr.units) real_eq (by rfl) (pd_ix (fun _ _ => rfl) (pd_var (i := 3) rfl) (pd_int)) (pd_str)) (pss_one (ps_expr (pd_m L2.mt_append real_append ty_list PySem.F.plainAttrs_list PySem.F.slot_list_append PySem.F.type_list_append (pd_var (i := 2) rfl) (pa_cons (pd_if (pt_cmp L2.op_lt real_lt (by rfl) (pd_ix (fun _ _ => rfl) (pd_var (i := 3) rfl) (pd_int)) (pd_callB L2.call_len real_lenB rfl (zs "len" (by decide)) bt_len (pa_cons (pd_var (i := 1) rfl) (pa_nil)))) (pd_and (pd_ix (fun _ _ => rfl) (pd_var (i := 1) rfl) (pd_ix (fun _ _ => rfl) (pd_var (i := 3) rfl) (pd_int))) (pd_sub (pd_shl (pd_int) (pd_ix (fun _ _ => rfl) (pd_var (i := 3) rfl) (pd_int))) (pd_int))) (pd_int)) (pa_nil))))) (pss_one (ps_expr (pd_m L2.mt_append real_append ty_list PySem.F.plainAttrs_list PySem.F.slot_list_append PySem.F.type_list_append (pd_var (i := 2) rfl) (pa_cons (pd_call (y := "_law_reckoned") (ok "_law_reckoned" (by decide)) hr rfl (pa_cons (pd_ix (fun _ _ => rfl) (pd_var (i := 3) rfl) (pd_int)) (pa_cons (pd_ix (fun _ _ => rfl) (pd_var (i := 3) rfl) (pd_int)) (pa_cons (pd_lc (own := [("_law_part", 4)]) rfl nd (pi_seq (pd_sl (pd_var (i := 3) rfl) (po_some (pd_int)) (po_none))) (L2.blkOk_by (N := nl_reckoned_all) (sc := L2.defScope sl_reckoned_all) (by decide +kernel)) (fun _ _ _ _ _ => pg_name (i := 4) nd rfl (by first | exact .inl rfl | exact .inr rfl)) (fun _ _ _ _ _ => pts_nil) (fun _ _ _ _ _ => pd_ix (fun _ _ => rfl) (pd_var (i := 2) rfl) (pd_var (i := 4) rfl)) (by decide)) (pa_nil))))) (pa_nil)))))))))) (pss_one (ps_ret (pd_var (i := 2) rfl))))
theorem der_l_same_values {k : Nat} {c : Cl} (ok : ∀ y ∈ names, Own P w K mg base k (Str.ofString y) (c y)) (oks : ∀ q ∈ snames, OwnS P w K mg base k q.2 (Str.ofString q.1) (c q.1)) (zs : ∀ y ∈ blts, mg (Str.ofString y) = none) {fa : Addr} (cdv : Value) (A : Around) (outer : List PySem.Env) (s : Shared) (H : L2.Hp) (E : L2.XK) (hr : L2.Room k (A.deeper (envOfC "_law_same_values" (L2.defScope sl_same_values) s.heap.objs.size fa cdv))) :
    PDSs (L2.cxOf L2.CX0 P w K mg base nl_same_values "_law_same_values" (L2.defScope sl_same_values) fa cdv A outer s H E).nox (L2.defBody sl_same_values) (b_l_same_values c) := by
  have nd := scl_same_values.nd
  unfold b_l_same_values
  exact pss_cons (ps_if (ptw (pw_or (pt_not (pt_tru (pd_isi (T := "tuple") .tuple rfl (zs "isinstance" (by decide)) rfl rfl (zs "tuple" (by decide)) bt_tuple (pd_var (i := 0) rfl)))) (pw_or1 (pt_cmp (L2.op_neD hr.units) real_ne (by rfl) (pd_callB L2.call_len real_lenB rfl (zs "len" (by decide)) bt_len (pa_cons (pd_var (i := 0) rfl) (pa_nil))) (pd_callB L2.call_len real_lenB rfl (zs "len" (by decide)) bt_len (pa_cons (pd_var (i := 1) rfl) (pa_nil))))))) (pss_one (ps_ret (pd_bl))) (pss_nil)) (pss_cons (ps_for PassesOwn.never rfl (pi_zipTL rfl (zs "zip" (by decide)) (pd_var (i := 0) rfl) (pd_var (i := 1) rfl)) (pg_tup rfl (pgs_cons (pg_name (i := 2) nd rfl (by first | exact .inl rfl | exact .inr rfl)) (pgs_cons (pg_name (i := 3) nd rfl (by first | exact .inl rfl | exact .inr rfl)) (pgs_nil)))) (pss_one (ps_if (ptw (pw_or (pt_not (pt_tru (pd_call (y := "_law_is_int") (ok "_law_is_int" (by decide)) hr rfl (pa_cons (pd_var (i := 2) rfl) (pa_nil))))) (pw_or1 (pt_cmp (L2.op_neD hr.units) real_ne (by rfl) (pd_var (i := 2) rfl) (pd_var (i := 3) rfl))))) (pss_one (ps_ret (pd_bl))) (pss_nil)))) (pss_one (ps_ret (pd_bl))))
theorem der_l_law {k : Nat} {c : Cl} (ok : ∀ y ∈ names, Own P w K mg base k (Str.ofString y) (c y)) (oks : ∀ q ∈ snames, OwnS P w K mg base k q.2 (Str.ofString q.1) (c q.1)) (zs : ∀ y ∈ blts, mg (Str.ofString y) = none) {fa : Addr} (cdv : Value) (A : Around) (outer : List PySem.Env) (s : Shared) (H : L2.Hp) (E : L2.XK) (hr : L2.Room k (A.deeper (envOfC "law" (L2.defScope sl_law) s.heap.objs.size fa cdv))) :
    PDSs (L2.cxOf L2.CX0 P w K mg base nl_law "law" (L2.defScope sl_law) fa cdv A outer s H E).nox (L2.defBody sl_law) (b_l_law c) := by
  have nd := scl_law.nd
  unfold b_l_law
  exact pss_cons (ps_set (i := 1) nd rfl (by first | exact .inl rfl | exact .inr rfl) (pd_call (y := "_law_begin") (ok "_law_begin" (by decide)) hr rfl (pa_cons (pd_var (i := 0) rfl) (pa_nil)))) (pss_cons (ps_set (i := 2) nd rfl (by first | exact .inl rfl | exact .inr rfl) (pd_lst (pa_nil))) (pss_cons (ps_for PassesOwn.never rfl (pi_r1 rfl (zs "range" (by decide)) (pd_int)) (pg_name (i := 3) nd rfl (by first | exact .inl rfl | exact .inr rfl)) (pss_cons (ps_set (i := 4) nd rfl (by first | exact .inl rfl | exact .inr rfl) (pd_add (pd_int) (pd_call (y := "_law_draw") (ok "_law_draw" (by decide)) hr rfl (pa_cons (pd_var (i := 1) rfl) (pa_cons (pd_int) (pa_nil)))))) (pss_cons (ps_if (pt_tru (pd_call (y := "_law_rare") (ok "_law_rare" (by decide)) hr rfl (pa_cons (pd_var (i := 1) rfl) (pa_cons (pd_int) (pa_nil))))) (pss_one (ps_set (i := 4) nd rfl (by first | exact .inl rfl | exact .inr rfl) (pd_int))) (pss_nil)) (pss_cons (ps_set (i := 5) nd rfl (by first | exact .inl rfl | exact .inr rfl) (pd_call (y := "_law_sheet_drawn") (ok "_law_sheet_drawn" (by decide)) hr rfl (pa_cons (pd_var (i := 1) rfl) (pa_cons (pd_var (i := 4) rfl) (pa_cons (pd_call (y := "_law_draw") (ok "_law_draw" (by decide)) hr rfl (pa_cons (pd_var (i := 1) rfl) (pa_cons (pd_int) (pa_nil)))) (pa_nil)))))) (pss_one (ps_for PassesOwn.never rfl (pi_r1 rfl (zs "range" (by decide)) (pd_int)) (pg_name (i := 6) nd rfl (by first | exact .inl rfl | exact .inr rfl)) (pss_cons (ps_set (i := 7) nd rfl (by first | exact .inl rfl | exact .inr rfl) (pd_callTy L2.call_tuple_of real_tupleB rfl (zs "tuple" (by decide)) bt_tuple (pa_cons (pd_lc (own := [("_law_k", 12)]) rfl nd (pi_r1 rfl (zs "range" (by decide)) (pd_call (y := "_law_draw") (ok "_law_draw" (by decide)) hr rfl (pa_cons (pd_var (i := 1) rfl) (pa_cons (pd_int) (pa_nil))))) (L2.blkOk_by (N := nl_law) (sc := L2.defScope sl_law) (by decide +kernel)) (fun _ _ _ _ _ => pg_name (i := 12) nd rfl (by first | exact .inl rfl | exact .inr rfl)) (fun _ _ _ _ _ => pts_nil) (fun _ _ _ _ _ => pd_call (y := "_law_pick") (ok "_law_pick" (by decide)) hr rfl (pa_cons (pd_var (i := 1) rfl) (pa_cons (pd_lst (pa_cons (pd_int) (pa_cons (pd_int) (pa_cons (pd_int) (pa_cons (pd_int) (pa_cons (pd_call (y := "_law_draw") (ok "_law_draw" (by decide)) hr rfl (pa_cons (pd_var (i := 1) rfl) (pa_cons (pd_int) (pa_nil)))) (pa_nil))))))) (pa_nil)))) (by decide)) (pa_nil)))) (pss_cons (ps_set (i := 8) nd rfl (by first | exact .inl rfl | exact .inr rfl) (pd_call (y := "_law_draw") (ok "_law_draw" (by decide)) hr rfl (pa_cons (pd_var (i := 1) rfl) (pa_cons (pd_callB (L2.call_max2 rfl) real_max2B rfl (zs "max" (by decide)) bt_max (pa_cons (pd_int) (pa_cons (pd_callB L2.call_len real_lenB rfl (zs "len" (by decide)) bt_len (pa_cons (pd_var (i := 5) rfl) (pa_nil))) (pa_nil)))) (pa_nil))))) (pss_one (ps_expr (pd_m L2.mt_append real_append ty_list PySem.F.plainAttrs_list PySem.F.slot_list_append PySem.F.type_list_append (pd_var (i := 2) rfl) (pa_cons (pd_tup (pa_cons (pd_var (i := 5) rfl) (pa_cons (pd_var (i := 7) rfl) (pa_cons (pd_var (i := 8) rfl) (pa_cons (pd_call (y := "_law_reckoned_all") (ok "_law_reckoned_all" (by decide)) hr rfl (pa_cons (pd_var (i := 5) rfl) (pa_cons (pd_var (i := 7) rfl) (pa_nil)))) (pa_nil)))))) (pa_nil))))))))))))) (pss_cons (ps_for PassesOwn.never rfl (pi_seq (pd_add (pd_var (i := 2) rfl) (pd_lstRev rfl rfl (zs "list" (by decide)) rfl (zs "reversed" (by decide)) (pd_var (i := 2) rfl)))) (pg_tup rfl (pgs_cons (pg_name (i := 5) nd rfl (by first | exact .inl rfl | exact .inr rfl)) (pgs_cons (pg_name (i := 7) nd rfl (by first | exact .inl rfl | exact .inr rfl)) (pgs_cons (pg_name (i := 8) nd rfl (by first | exact .inl rfl | exact .inr rfl)) (pgs_cons (pg_name (i := 9) nd rfl (by first | exact .inl rfl | exact .inr rfl)) (pgs_nil)))))) (pss_cons (ps_if (pt_not (pt_tru (pd_call (y := "_law_same_values") (ok "_law_same_values" (by decide)) hr rfl (pa_cons (pd_call (y := "values_of") (ok "values_of" (by decide)) hr rfl (pa_cons (pd_var (i := 5) rfl) (pa_cons (pd_var (i := 7) rfl) (pa_nil)))) (pa_cons (pd_var (i := 9) rfl) (pa_nil)))))) (pss_one (ps_ret (pd_bl))) (pss_nil)) (pss_one (ps_for PassesOwn.never rfl (pi_seq (pd_lst (pa_cons (pd_int) (pa_cons (pd_var (i := 8) rfl) (pa_cons (pd_sub (pd_callB L2.call_len real_lenB rfl (zs "len" (by decide)) bt_len (pa_cons (pd_var (i := 5) rfl) (pa_nil))) (pd_int)) (pa_nil)))))) (pg_name (i := 10) nd rfl (by first | exact .inl rfl | exact .inr rfl)) (pss_one (ps_if (pt_tru (pd_var (i := 5) rfl)) (pss_cons (ps_set (i := 11) nd rfl (by first | exact .inl rfl | exact .inr rfl) (pd_call (y := "value_of") (ok "value_of" (by decide)) hr rfl (pa_cons (pd_var (i := 5) rfl) (pa_cons (pd_var (i := 7) rfl) (pa_cons (pd_var (i := 10) rfl) (pa_nil)))))) (pss_one (ps_if (ptw (pw_or (pt_not (pt_tru (pd_call (y := "_law_is_int") (ok "_law_is_int" (by decide)) hr rfl (pa_cons (pd_var (i := 11) rfl) (pa_nil))))) (pw_or1 (pt_cmp (L2.op_neD hr.units) real_ne (by rfl) (pd_var (i := 11) rfl) (pd_ix (fun _ _ => rfl) (pd_var (i := 9) rfl) (pd_var (i := 10) rfl)))))) (pss_one (ps_ret (pd_bl))) (pss_nil)))) (pss_nil))))))) (pss_one (ps_ret (pd_bl))))))
end
theorem all_mk {l : PySem.W.OpenLaw} {w : World} {K : PySem.W.Frag} {h : Heap} {mg : Str → Option Value} {fa : Addr} (X : K.In h) (G : h.Ns mainGlobals mg) (hfa : mg "law" = some (.ref fa))
    {f1 : Addr} {od1 an1 : Option Addr} {sl1 : Array (Option Value)} {oc1 kV1 dc1 pm1 cd1 ct1 : Value}
    {f2 : Addr} {od2 an2 : Option Addr} {sl2 : Array (Option Value)} {oc2 kV2 dc2 pm2 cd2 ct2 : Value}
    {f3 : Addr} {od3 an3 : Option Addr} {sl3 : Array (Option Value)} {oc3 kV3 dc3 pm3 cd3 ct3 : Value}
    {f4 : Addr} {od4 an4 : Option Addr} {sl4 : Array (Option Value)} {oc4 kV4 dc4 pm4 cd4 ct4 : Value}
    {f5 : Addr} {od5 an5 : Option Addr} {sl5 : Array (Option Value)} {oc5 kV5 dc5 pm5 cd5 ct5 : Value}
    {f6 : Addr} {od6 an6 : Option Addr} {sl6 : Array (Option Value)} {oc6 kV6 dc6 pm6 cd6 ct6 : Value}
    {f7 : Addr} {od7 an7 : Option Addr} {sl7 : Array (Option Value)} {oc7 kV7 dc7 pm7 cd7 ct7 : Value}
    {f8 : Addr} {od8 an8 : Option Addr} {sl8 : Array (Option Value)} {oc8 kV8 dc8 pm8 cd8 ct8 : Value}
    {f9 : Addr} {od9 an9 : Option Addr} {sl9 : Array (Option Value)} {oc9 kV9 dc9 pm9 cd9 ct9 : Value}
    {f10 : Addr} {od10 an10 : Option Addr} {sl10 : Array (Option Value)} {oc10 kV10 dc10 pm10 cd10 ct10 : Value}
    {f11 : Addr} {od11 an11 : Option Addr} {sl11 : Array (Option Value)} {oc11 kV11 dc11 pm11 cd11 ct11 : Value}
    {f12 : Addr} {od12 an12 : Option Addr} {sl12 : Array (Option Value)} {oc12 kV12 dc12 pm12 cd12 ct12 : Value}
    {f13 : Addr} {od13 an13 : Option Addr} {sl13 : Array (Option Value)} {oc13 kV13 dc13 pm13 cd13 ct13 : Value}
    {f14 : Addr} {od14 an14 : Option Addr} {sl14 : Array (Option Value)} {oc14 kV14 dc14 pm14 cd14 ct14 : Value}
    {f15 : Addr} {od15 an15 : Option Addr} {sl15 : Array (Option Value)} {oc15 kV15 dc15 pm15 cd15 ct15 : Value}
    {f16 : Addr} {od16 an16 : Option Addr} {sl16 : Array (Option Value)} {oc16 kV16 dc16 pm16 cd16 ct16 : Value}
    {f17 : Addr} {od17 an17 : Option Addr} {sl17 : Array (Option Value)} {oc17 kV17 dc17 pm17 cd17 ct17 : Value}
    {f18 : Addr} {od18 an18 : Option Addr} {sl18 : Array (Option Value)} {oc18 kV18 dc18 pm18 cd18 ct18 : Value}
    {f19 : Addr} {od19 an19 : Option Addr} {sl19 : Array (Option Value)} {oc19 kV19 dc19 pm19 cd19 ct19 : Value}
    {f20 : Addr} {od20 an20 : Option Addr} {sl20 : Array (Option Value)} {oc20 kV20 dc20 pm20 cd20 ct20 : Value}
    {f21 : Addr} {od21 an21 : Option Addr} {sl21 : Array (Option Value)} {oc21 kV21 dc21 pm21 cd21 ct21 : Value}
    (a1 : PySem.W.nsIn K mainGlobals "greatest" = some (some (.ref f1))) (l1 : K.lookup f1 = some ⟨oc1, od1, .func (PySem.W.fnOf "greatest" "greatest" (L2.defArgs sp_greatest) (L2.defBody sp_greatest) (L2.defScope sp_greatest) .none kV1 dc1 pm1 an1 cd1 ct1), sl1⟩) (c1 : PySem.W.codeIn K cd1 "greatest" = true) (k1 : PySem.W.keepIn K (.ref f1) = true)
    (a2 : PySem.W.nsIn K mainGlobals "related" = some (some (.ref f2))) (l2 : K.lookup f2 = some ⟨oc2, od2, .func (PySem.W.fnOf "related" "related" (L2.defArgs sp_related) (L2.defBody sp_related) (L2.defScope sp_related) .none kV2 dc2 pm2 an2 cd2 ct2), sl2⟩) (c2 : PySem.W.codeIn K cd2 "related" = true) (k2 : PySem.W.keepIn K (.ref f2) = true)
    (a3 : PySem.W.nsIn K mainGlobals "shifted" = some (some (.ref f3))) (l3 : K.lookup f3 = some ⟨oc3, od3, .func (PySem.W.fnOf "shifted" "shifted" (L2.defArgs sp_shifted) (L2.defBody sp_shifted) (L2.defScope sp_shifted) .none kV3 dc3 pm3 an3 cd3 ct3), sl3⟩) (c3 : PySem.W.codeIn K cd3 "shifted" = true) (k3 : PySem.W.keepIn K (.ref f3) = true)
    (a4 : PySem.W.nsIn K mainGlobals "divided" = some (some (.ref f4))) (l4 : K.lookup f4 = some ⟨oc4, od4, .func (PySem.W.fnOf "divided" "divided" (L2.defArgs sp_divided) (L2.defBody sp_divided) (L2.defScope sp_divided) .none kV4 dc4 pm4 an4 cd4 ct4), sl4⟩) (c4 : PySem.W.codeIn K cd4 "divided" = true) (k4 : PySem.W.keepIn K (.ref f4) = true)
    (a5 : PySem.W.nsIn K mainGlobals "reckoned" = some (some (.ref f5))) (l5 : K.lookup f5 = some ⟨oc5, od5, .func (PySem.W.fnOf "reckoned" "reckoned" (L2.defArgs sp_reckoned) (L2.defBody sp_reckoned) (L2.defScope sp_reckoned) .none kV5 dc5 pm5 an5 cd5 ct5), sl5⟩) (c5 : PySem.W.codeIn K cd5 "reckoned" = true) (k5 : PySem.W.keepIn K (.ref f5) = true)
    (a6 : PySem.W.nsIn K mainGlobals "result" = some (some (.ref f6))) (l6 : K.lookup f6 = some ⟨oc6, od6, .func (PySem.W.fnOf "result" "result" (L2.defArgs sp_result) (L2.defBody sp_result) (L2.defScope sp_result) .none kV6 dc6 pm6 an6 cd6 ct6), sl6⟩) (c6 : PySem.W.codeIn K cd6 "result" = true) (k6 : PySem.W.keepIn K (.ref f6) = true)
    (a7 : PySem.W.nsIn K mainGlobals "values_of" = some (some (.ref f7))) (l7 : K.lookup f7 = some ⟨oc7, od7, .func (PySem.W.fnOf "values_of" "values_of" (L2.defArgs sp_values_of) (L2.defBody sp_values_of) (L2.defScope sp_values_of) .none kV7 dc7 pm7 an7 cd7 ct7), sl7⟩) (c7 : PySem.W.codeIn K cd7 "values_of" = true) (k7 : PySem.W.keepIn K (.ref f7) = true)
    (a8 : PySem.W.nsIn K mainGlobals "value_of" = some (some (.ref f8))) (l8 : K.lookup f8 = some ⟨oc8, od8, .func (PySem.W.fnOf "value_of" "value_of" (L2.defArgs sp_value_of) (L2.defBody sp_value_of) (L2.defScope sp_value_of) .none kV8 dc8 pm8 an8 cd8 ct8), sl8⟩) (c8 : PySem.W.codeIn K cd8 "value_of" = true) (k8 : PySem.W.keepIn K (.ref f8) = true)
    (a9 : PySem.W.nsIn K mainGlobals "_law_begin" = some (some (.ref f9))) (l9 : K.lookup f9 = some ⟨oc9, od9, .func (PySem.W.fnOf "_law_begin" "_law_begin" (L2.defArgs sl_begin) (L2.defBody sl_begin) (L2.defScope sl_begin) .none kV9 dc9 pm9 an9 cd9 ct9), sl9⟩) (c9 : PySem.W.codeIn K cd9 "_law_begin" = true) (k9 : PySem.W.keepIn K (.ref f9) = true)
    (a10 : PySem.W.nsIn K mainGlobals "_law_draw" = some (some (.ref f10))) (l10 : K.lookup f10 = some ⟨oc10, od10, .func (PySem.W.fnOf "_law_draw" "_law_draw" (L2.defArgs sl_draw) (L2.defBody sl_draw) (L2.defScope sl_draw) .none kV10 dc10 pm10 an10 cd10 ct10), sl10⟩) (c10 : PySem.W.codeIn K cd10 "_law_draw" = true) (k10 : PySem.W.keepIn K (.ref f10) = true)
    (a11 : PySem.W.nsIn K mainGlobals "_law_pick" = some (some (.ref f11))) (l11 : K.lookup f11 = some ⟨oc11, od11, .func (PySem.W.fnOf "_law_pick" "_law_pick" (L2.defArgs sl_pick) (L2.defBody sl_pick) (L2.defScope sl_pick) .none kV11 dc11 pm11 an11 cd11 ct11), sl11⟩) (c11 : PySem.W.codeIn K cd11 "_law_pick" = true) (k11 : PySem.W.keepIn K (.ref f11) = true)
    (a12 : PySem.W.nsIn K mainGlobals "_law_rare" = some (some (.ref f12))) (l12 : K.lookup f12 = some ⟨oc12, od12, .func (PySem.W.fnOf "_law_rare" "_law_rare" (L2.defArgs sl_rare) (L2.defBody sl_rare) (L2.defScope sl_rare) .none kV12 dc12 pm12 an12 cd12 ct12), sl12⟩) (c12 : PySem.W.codeIn K cd12 "_law_rare" = true) (k12 : PySem.W.keepIn K (.ref f12) = true)
    (a13 : PySem.W.nsIn K mainGlobals "_law_is_int" = some (some (.ref f13))) (l13 : K.lookup f13 = some ⟨oc13, od13, .func (PySem.W.fnOf "_law_is_int" "_law_is_int" (L2.defArgs sl_is_int) (L2.defBody sl_is_int) (L2.defScope sl_is_int) .none kV13 dc13 pm13 an13 cd13 ct13), sl13⟩) (c13 : PySem.W.codeIn K cd13 "_law_is_int" = true) (k13 : PySem.W.keepIn K (.ref f13) = true)
    (a14 : PySem.W.nsIn K mainGlobals "_law_ops" = some (some (.ref f14))) (l14 : K.lookup f14 = some ⟨oc14, od14, .func (PySem.W.fnOf "_law_ops" "_law_ops" (L2.defArgs sl_ops) (L2.defBody sl_ops) (L2.defScope sl_ops) .none kV14 dc14 pm14 an14 cd14 ct14), sl14⟩) (c14 : PySem.W.codeIn K cd14 "_law_ops" = true) (k14 : PySem.W.keepIn K (.ref f14) = true)
    (a15 : PySem.W.nsIn K mainGlobals "_law_leaf_drawn" = some (some (.ref f15))) (l15 : K.lookup f15 = some ⟨oc15, od15, .func (PySem.W.fnOf "_law_leaf_drawn" "_law_leaf_drawn" (L2.defArgs sl_leaf_drawn) (L2.defBody sl_leaf_drawn) (L2.defScope sl_leaf_drawn) .none kV15 dc15 pm15 an15 cd15 ct15), sl15⟩) (c15 : PySem.W.codeIn K cd15 "_law_leaf_drawn" = true) (k15 : PySem.W.keepIn K (.ref f15) = true)
    (a16 : PySem.W.nsIn K mainGlobals "_law_node_drawn" = some (some (.ref f16))) (l16 : K.lookup f16 = some ⟨oc16, od16, .func (PySem.W.fnOf "_law_node_drawn" "_law_node_drawn" (L2.defArgs sl_node_drawn) (L2.defBody sl_node_drawn) (L2.defScope sl_node_drawn) .none kV16 dc16 pm16 an16 cd16 ct16), sl16⟩) (c16 : PySem.W.codeIn K cd16 "_law_node_drawn" = true) (k16 : PySem.W.keepIn K (.ref f16) = true)
    (a17 : PySem.W.nsIn K mainGlobals "_law_sheet_drawn" = some (some (.ref f17))) (l17 : K.lookup f17 = some ⟨oc17, od17, .func (PySem.W.fnOf "_law_sheet_drawn" "_law_sheet_drawn" (L2.defArgs sl_sheet_drawn) (L2.defBody sl_sheet_drawn) (L2.defScope sl_sheet_drawn) .none kV17 dc17 pm17 an17 cd17 ct17), sl17⟩) (c17 : PySem.W.codeIn K cd17 "_law_sheet_drawn" = true) (k17 : PySem.W.keepIn K (.ref f17) = true)
    (a18 : PySem.W.nsIn K mainGlobals "_law_reckoned" = some (some (.ref f18))) (l18 : K.lookup f18 = some ⟨oc18, od18, .func (PySem.W.fnOf "_law_reckoned" "_law_reckoned" (L2.defArgs sl_reckoned) (L2.defBody sl_reckoned) (L2.defScope sl_reckoned) .none kV18 dc18 pm18 an18 cd18 ct18), sl18⟩) (c18 : PySem.W.codeIn K cd18 "_law_reckoned" = true) (k18 : PySem.W.keepIn K (.ref f18) = true)
    (a19 : PySem.W.nsIn K mainGlobals "_law_reckoned_all" = some (some (.ref f19))) (l19 : K.lookup f19 = some ⟨oc19, od19, .func (PySem.W.fnOf "_law_reckoned_all" "_law_reckoned_all" (L2.defArgs sl_reckoned_all) (L2.defBody sl_reckoned_all) (L2.defScope sl_reckoned_all) .none kV19 dc19 pm19 an19 cd19 ct19), sl19⟩) (c19 : PySem.W.codeIn K cd19 "_law_reckoned_all" = true) (k19 : PySem.W.keepIn K (.ref f19) = true)
    (a20 : PySem.W.nsIn K mainGlobals "_law_same_values" = some (some (.ref f20))) (l20 : K.lookup f20 = some ⟨oc20, od20, .func (PySem.W.fnOf "_law_same_values" "_law_same_values" (L2.defArgs sl_same_values) (L2.defBody sl_same_values) (L2.defScope sl_same_values) .none kV20 dc20 pm20 an20 cd20 ct20), sl20⟩) (c20 : PySem.W.codeIn K cd20 "_law_same_values" = true) (k20 : PySem.W.keepIn K (.ref f20) = true)
    (a21 : PySem.W.nsIn K mainGlobals "law" = some (some (.ref f21))) (l21 : K.lookup f21 = some ⟨oc21, od21, .func (PySem.W.fnOf "law" "law" (L2.defArgs sl_law) (L2.defBody sl_law) (L2.defScope sl_law) .none kV21 dc21 pm21 an21 cd21 ct21), sl21⟩) (c21 : PySem.W.codeIn K cd21 "law" = true) (k21 : PySem.W.keepIn K (.ref f21) = true)
    (z1 : PySem.W.nsIn K mainGlobals "abs" = some none) (z2 : PySem.W.nsIn K mainGlobals "bool" = some none) (z3 : PySem.W.nsIn K mainGlobals "int" = some none) (z4 : PySem.W.nsIn K mainGlobals "isinstance" = some none) (z5 : PySem.W.nsIn K mainGlobals "len" = some none) (z6 : PySem.W.nsIn K mainGlobals "list" = some none) (z7 : PySem.W.nsIn K mainGlobals "max" = some none) (z8 : PySem.W.nsIn K mainGlobals "min" = some none) (z9 : PySem.W.nsIn K mainGlobals "range" = some none) (z10 : PySem.W.nsIn K mainGlobals "reversed" = some none) (z11 : PySem.W.nsIn K mainGlobals "tuple" = some none) (z12 : PySem.W.nsIn K mainGlobals "zip" = some none) :
    ∃ fd : FuncData, (∀ (s : Shared) (v : Value), BindsTo s fd ⟨[v], []⟩ [("_law_script", v)]) ∧ ∀ base : Heap, K.In base → base.Ns mainGlobals mg → L2.FnOk l.prog w K mg base L2.CX0 61 fa fd ["_law_script"] (liftF K 1 (callN prog 61 "law")) := by
  have e := hfa.symm.trans (PySem.W.mg_of X G a21)
  cases e
  have F1 := L2.fun_mk (st := sp_greatest) l1 c1 k1
  have b1 := F1.binds (ps := ["width"]) fun _ _ _ _ _ _ us hl => match us, hl with | [_], _ => rfl
  have F2 := L2.fun_mk (st := sp_related) l2 c2 k2
  have b2 := F2.binds (ps := ["op", "left", "right"]) fun _ _ _ _ _ _ us hl => match us, hl with | [_, _, _], _ => rfl
  have F3 := L2.fun_mk (st := sp_shifted) l3 c3 k3
  have b3 := F3.binds (ps := ["op", "width", "left", "right"]) fun _ _ _ _ _ _ us hl => match us, hl with | [_, _, _, _], _ => rfl
  have F4 := L2.fun_mk (st := sp_divided) l4 c4 k4
  have b4 := F4.binds (ps := ["op", "left", "right"]) fun _ _ _ _ _ _ us hl => match us, hl with | [_, _, _], _ => rfl
  have F5 := L2.fun_mk (st := sp_reckoned) l5 c5 k5
  have b5 := F5.binds (ps := ["op", "left", "right"]) fun _ _ _ _ _ _ us hl => match us, hl with | [_, _, _], _ => rfl
  have F6 := L2.fun_mk (st := sp_result) l6 c6 k6
  have F7 := L2.fun_mk (st := sp_values_of) l7 c7 k7
  have b7 := F7.binds (ps := ["nodes", "words"]) fun _ _ _ _ _ _ us hl => match us, hl with | [_, _], _ => rfl
  have F8 := L2.fun_mk (st := sp_value_of) l8 c8 k8
  have b8 := F8.binds (ps := ["nodes", "words", "term"]) fun _ _ _ _ _ _ us hl => match us, hl with | [_, _, _], _ => rfl
  have F9 := L2.fun_mk (st := sl_begin) l9 c9 k9
  have b9 := F9.binds (ps := ["_law_script"]) fun _ _ _ _ _ _ us hl => match us, hl with | [_], _ => rfl
  have F10 := L2.fun_mk (st := sl_draw) l10 c10 k10
  have b10 := F10.binds (ps := ["_law_d", "_law_many"]) fun _ _ _ _ _ _ us hl => match us, hl with | [_, _], _ => rfl
  have F11 := L2.fun_mk (st := sl_pick) l11 c11 k11
  have b11 := F11.binds (ps := ["_law_d", "_law_row"]) fun _ _ _ _ _ _ us hl => match us, hl with | [_, _], _ => rfl
  have F12 := L2.fun_mk (st := sl_rare) l12 c12 k12
  have b12 := F12.binds (ps := ["_law_d", "_law_many"]) fun _ _ _ _ _ _ us hl => match us, hl with | [_, _], _ => rfl
  have F13 := L2.fun_mk (st := sl_is_int) l13 c13 k13
  have b13 := F13.binds (ps := ["_law_thing"]) fun _ _ _ _ _ _ us hl => match us, hl with | [_], _ => rfl
  have F14 := L2.fun_mk (st := sl_ops) l14 c14 k14
  have b14 := F14.binds (ps := []) fun _ _ _ _ _ _ us hl => match us, hl with | [], _ => rfl
  have F15 := L2.fun_mk (st := sl_leaf_drawn) l15 c15 k15
  have b15 := F15.binds (ps := ["_law_d", "_law_width"]) fun _ _ _ _ _ _ us hl => match us, hl with | [_, _], _ => rfl
  have F16 := L2.fun_mk (st := sl_node_drawn) l16 c16 k16
  have b16 := F16.binds (ps := ["_law_d", "_law_nodes"]) fun _ _ _ _ _ _ us hl => match us, hl with | [_, _], _ => rfl
  have F17 := L2.fun_mk (st := sl_sheet_drawn) l17 c17 k17
  have b17 := F17.binds (ps := ["_law_d", "_law_leaves", "_law_many"]) fun _ _ _ _ _ _ us hl => match us, hl with | [_, _, _], _ => rfl
  have F18 := L2.fun_mk (st := sl_reckoned) l18 c18 k18
  have b18 := F18.binds (ps := ["_law_op", "_law_width", "_law_words"]) fun _ _ _ _ _ _ us hl => match us, hl with | [_, _, _], _ => rfl
  have F19 := L2.fun_mk (st := sl_reckoned_all) l19 c19 k19
  have b19 := F19.binds (ps := ["_law_nodes", "_law_words"]) fun _ _ _ _ _ _ us hl => match us, hl with | [_, _], _ => rfl
  have F20 := L2.fun_mk (st := sl_same_values) l20 c20 k20
  have b20 := F20.binds (ps := ["_law_told", "_law_due"]) fun _ _ _ _ _ _ us hl => match us, hl with | [_, _], _ => rfl
  have F21 := L2.fun_mk (st := sl_law) l21 c21 k21
  have b21 := F21.binds (ps := ["_law_script"]) fun _ _ _ _ _ _ us hl => match us, hl with | [_], _ => rfl
  have zs : ∀ y ∈ blts, mg (Str.ofString y) = none := by
    intro y hy
    simp only [blts, List.mem_cons, List.not_mem_nil, or_false] at hy
    rcases hy with rfl | rfl | rfl | rfl | rfl | rfl | rfl | rfl | rfl | rfl | rfl | rfl
    · exact PySem.W.mg_none_of X G z1
    · exact PySem.W.mg_none_of X G z2
    · exact PySem.W.mg_none_of X G z3
    · exact PySem.W.mg_none_of X G z4
    · exact PySem.W.mg_none_of X G z5
    · exact PySem.W.mg_none_of X G z6
    · exact PySem.W.mg_none_of X G z7
    · exact PySem.W.mg_none_of X G z8
    · exact PySem.W.mg_none_of X G z9
    · exact PySem.W.mg_none_of X G z10
    · exact PySem.W.mg_none_of X G z11
    · exact PySem.W.mg_none_of X G z12
  refine ⟨PySem.W.fnOf "law" "law" (L2.defArgs sl_law) (L2.defBody sl_law) (L2.defScope sl_law) .none kV21 dc21 pm21 an21 cd21 ct21, fun s v => .of_eq rfl, fun base _ _ => ?_⟩
  have st : ∀ x ∈ names, ∃ d, prog x = some d ∧ Step2 l.prog w K mg base names snames x d := by
    intro x hx
    simp only [names, List.mem_cons, List.not_mem_nil, or_false] at hx
    rcases hx with rfl | rfl | rfl | rfl | rfl | rfl | rfl | rfl | rfl | rfl | rfl | rfl | rfl | rfl | rfl | rfl | rfl | rfl | rfl | rfl
    · exact ⟨_, rfl, _, _, ["width"], PySem.W.mg_of X G a1, F1.kp, b1, rfl, fun k c ok oks => fn_ok F1 scp_greatest rfl rfl (der_p_greatest ok oks zs)⟩
    · exact ⟨_, rfl, _, _, ["op", "left", "right"], PySem.W.mg_of X G a2, F2.kp, b2, rfl, fun k c ok oks => fn_ok F2 scp_related rfl rfl (der_p_related ok oks zs)⟩
    · exact ⟨_, rfl, _, _, ["op", "width", "left", "right"], PySem.W.mg_of X G a3, F3.kp, b3, rfl, fun k c ok oks => fn_ok F3 scp_shifted rfl rfl (der_p_shifted ok oks zs)⟩
    · exact ⟨_, rfl, _, _, ["op", "left", "right"], PySem.W.mg_of X G a4, F4.kp, b4, rfl, fun k c ok oks => fn_ok F4 scp_divided rfl rfl (der_p_divided ok oks zs)⟩
    · exact ⟨_, rfl, _, _, ["op", "left", "right"], PySem.W.mg_of X G a5, F5.kp, b5, rfl, fun k c ok oks => fn_ok F5 scp_reckoned rfl rfl (der_p_reckoned ok oks zs)⟩
    · exact ⟨_, rfl, _, _, ["nodes", "words"], PySem.W.mg_of X G a7, F7.kp, b7, rfl, fun k c ok oks => fn_ok F7 scp_values_of rfl rfl (der_p_values_of ok oks zs)⟩
    · exact ⟨_, rfl, _, _, ["nodes", "words", "term"], PySem.W.mg_of X G a8, F8.kp, b8, rfl, fun k c ok oks => fn_ok F8 scp_value_of rfl rfl (der_p_value_of ok oks zs)⟩
    · exact ⟨_, rfl, _, _, ["_law_script"], PySem.W.mg_of X G a9, F9.kp, b9, rfl, fun k c ok oks => fn_ok F9 scl_begin rfl rfl (der_l_begin ok oks zs)⟩
    · exact ⟨_, rfl, _, _, ["_law_d", "_law_many"], PySem.W.mg_of X G a10, F10.kp, b10, rfl, fun k c ok oks => fn_ok F10 scl_draw rfl rfl (der_l_draw ok oks zs)⟩
    · exact ⟨_, rfl, _, _, ["_law_d", "_law_row"], PySem.W.mg_of X G a11, F11.kp, b11, rfl, fun k c ok oks => fn_ok F11 scl_pick rfl rfl (der_l_pick ok oks zs)⟩
    · exact ⟨_, rfl, _, _, ["_law_d", "_law_many"], PySem.W.mg_of X G a12, F12.kp, b12, rfl, fun k c ok oks => fn_ok F12 scl_rare rfl rfl (der_l_rare ok oks zs)⟩
    · exact ⟨_, rfl, _, _, ["_law_thing"], PySem.W.mg_of X G a13, F13.kp, b13, rfl, fun k c ok oks => fn_ok F13 scl_is_int rfl rfl (der_l_is_int ok oks zs)⟩
    · exact ⟨_, rfl, _, _, [], PySem.W.mg_of X G a14, F14.kp, b14, rfl, fun k c ok oks => fn_ok F14 scl_ops rfl rfl (der_l_ops ok oks zs)⟩
    · exact ⟨_, rfl, _, _, ["_law_d", "_law_width"], PySem.W.mg_of X G a15, F15.kp, b15, rfl, fun k c ok oks => fn_ok F15 scl_leaf_drawn rfl rfl (der_l_leaf_drawn ok oks zs)⟩
    · exact ⟨_, rfl, _, _, ["_law_d", "_law_nodes"], PySem.W.mg_of X G a16, F16.kp, b16, rfl, fun k c ok oks => fn_ok F16 scl_node_drawn rfl rfl (der_l_node_drawn ok oks zs)⟩
    · exact ⟨_, rfl, _, _, ["_law_d", "_law_leaves", "_law_many"], PySem.W.mg_of X G a17, F17.kp, b17, rfl, fun k c ok oks => fn_ok F17 scl_sheet_drawn rfl rfl (der_l_sheet_drawn ok oks zs)⟩
    · exact ⟨_, rfl, _, _, ["_law_op", "_law_width", "_law_words"], PySem.W.mg_of X G a18, F18.kp, b18, rfl, fun k c ok oks => fn_ok F18 scl_reckoned rfl rfl (der_l_reckoned ok oks zs)⟩
    · exact ⟨_, rfl, _, _, ["_law_nodes", "_law_words"], PySem.W.mg_of X G a19, F19.kp, b19, rfl, fun k c ok oks => fn_ok F19 scl_reckoned_all rfl rfl (der_l_reckoned_all ok oks zs)⟩
    · exact ⟨_, rfl, _, _, ["_law_told", "_law_due"], PySem.W.mg_of X G a20, F20.kp, b20, rfl, fun k c ok oks => fn_ok F20 scl_same_values rfl rfl (der_l_same_values ok oks zs)⟩
    · exact ⟨_, rfl, _, _, ["_law_script"], PySem.W.mg_of X G a21, F21.kp, b21, rfl, fun k c ok oks => fn_ok F21 scl_law rfl rfl (der_l_law ok oks zs)⟩
  have st2 : ∀ q ∈ snames, ∃ d, prog q.1 = some d ∧ StepS l.prog w K mg base names snames q.1 q.2 d := by
    intro q hq
    simp only [snames, List.mem_cons, List.not_mem_nil, or_false] at hq
    rcases hq with rfl
    · exact ⟨_, rfl, _, PySem.W.mg_of X G a6, F6.kp, fun k c ok oks => fnS_ok (ps := ["op", "width"]) (pv := "words") F6 scp_result rfl rfl (fun kV doc pm an cdv ct => StX.bind_star2 (B := fun us => bindArgs (PySem.W.fnOf "result" "result" (L2.defArgs sp_result) (L2.defBody sp_result) (L2.defScope sp_result) .none kV doc pm an cdv ct) ⟨us, []⟩) (fun _ _ => rfl) (fun _ _ _ _ => rfl)) (der_p_result ok oks zs)⟩
  have ow := all_own2 (P := l.prog) (w := w) (base := base) st st2 60
  refine (fn_ok (P := l.prog) (w := w) (mg := mg) (base := base) (k := 60) (d := ⟨1, 13, b_l_law⟩) (c := callN prog 60) F21 scl_law rfl rfl (der_l_law ow.1 ow.2 zs)).imp fun vs H Q E ⟨g0, f, st, ds, Q', s, r, ⟨d', e', g⟩, l⟩ => ?_
  cases (Option.some.inj e' : (⟨1, 13, b_l_law⟩ : Def) = d')
  exact ⟨g0, f, st, ds, Q', s, r, g, l⟩
end Pk30
end PartPdk30L

section PartPdk30P
set_option Elab.async false
set_option linter.all false
set_option maxRecDepth 100000
set_option maxHeartbeats 1000000
namespace Pk30
open PySem Pd
local macro_rules | `(tactic| walk_at "s") => `(tactic| (repeat (refine Red.red ?_)))
local macro_rules | `(tactic| walk_at "r") => `(tactic| (repeat (first | refine Red.red ?_ | refine Nxt.mk ?_)))
local macro_rules | `(tactic| walk_at "t") => `(tactic| (repeat (first | refine Red.red ?_ | refine Nxt.mk ?_ | refine ⟨by decide +kernel, by decide +kernel, wayF (by decide +kernel) ?_⟩ | refine ⟨by decide +kernel, by decide +kernel, wayT (by decide +kernel) ?_⟩ | refine ⟨by decide +kernel, ?_⟩ | refine at_is rfl ?_)))
inductive Op where | not | neg | wide | pick | add | sub | mul | and | or | xor | shl | shr | div | rem | eq | ne | lt | le
def opS : Op → Str
  | .not => "not"
  | .neg => "neg"
  | .wide => "wide"
  | .pick => "pick"
  | .add => "+"
  | .sub => "-"
  | .mul => "*"
  | .and => "&"
  | .or => "|"
  | .xor => "^"
  | .shl => "<<"
  | .shr => ">>"
  | .div => "div"
  | .rem => "rem"
  | .eq => "=="
  | .ne => "!="
  | .lt => "<"
  | .le => "<="
def v1 : Op → Int → Int → Int
  | .not, w, l => fullI w - l
  | .neg, w, l => Builtin.bitAnd (-l) (fullI w)
  | _, w, l => Builtin.bitAnd l (fullI w)
def v2 : Op → Int → Int → Int → Int
  | .add, w, l, r => Builtin.bitAnd (l + r) (fullI w)
  | .sub, w, l, r => Builtin.bitAnd (l - r) (fullI w)
  | .mul, w, l, r => Builtin.bitAnd (l * r) (fullI w)
  | .and, w, l, r => Builtin.bitAnd (Builtin.bitAnd l r) (fullI w)
  | .or, w, l, r => Builtin.bitAnd (Builtin.bitOr l r) (fullI w)
  | .xor, w, l, r => Builtin.bitAnd (Builtin.bitXor l r) (fullI w)
  | .shl, w, l, r => if w ≤ r then 0 else Builtin.bitAnd (l * 2 ^ r.toNat) (fullI w)
  | .shr, w, l, r => if w ≤ r then 0 else l / 2 ^ r.toNat
  | .div, w, l, r => if r = 0 then 0 else l / r
  | .rem, w, l, r => if r = 0 then 0 else l - r * (l / r)
  | .eq, w, l, r => b2i (decide (l = r))
  | .ne, w, l, r => b2i (!decide (l = r))
  | .lt, w, l, r => b2i (decide (l < r))
  | _, w, l, r => b2i (decide (l ≤ r))
def one : Op → Bool
  | .not => true
  | .neg => true
  | .wide => true
  | _ => false
section
variable {k : Nat} {st : Store} {Q : K} {w l r a b : Int}
theorem res1 {o : Op} (ho : one o = true) (w0 : 1 ≤ w) (w1 : w ≤ 8) (q : Q (.int (v1 o w l)) st) : callN prog (k + 2) "result" [.str (opS o), .int w, .tup [.int l]] st Q := by
  refine call_intro rfl rfl ?_
  unfold b_p_result
  cases o <;> try (cases ho; done)
  all_goals (unfold opS; walk_at "t"; refine greatest_ok (prog := prog) rfl (by omega) w1 ?_; walk_at "t"; exact q)
theorem res3 (w0 : 1 ≤ w) (w1 : w ≤ 8) (q : Q (.int (if l = 1 then a else b)) st) : callN prog (k + 2) "result" [.str (opS .pick), .int w, .tup [.int l, .int a, .int b]] st Q := by
  refine call_intro rfl rfl ?_
  unfold b_p_result opS
  walk_at "t"
  by_cases h : l = 1
  · rw [if_pos h] at q
    refine wayT (by simpa using h) ?_
    walk_at "t"
    exact q
  · rw [if_neg h] at q
    refine wayF (by simpa using h) ?_
    walk_at "t"
    exact q

theorem rel_ok {o : Op} (ho : (match o with | .eq => true | .ne => true | .lt => true | .le => true | _ => false) = true) (q : Q (.int (v2 o w l r)) st) : callN prog (k + 1) "related" [.str (opS o), .int l, .int r] st Q := by
  refine call_intro rfl rfl ?_
  unfold b_p_related
  cases o <;> try (cases ho; done)
  all_goals (unfold opS; walk_at "t"; exact q)
theorem rek_ok {o : Op} (ho : (match o with | .add => true | .sub => true | .mul => true | .and => true | .or => true | .xor => true | _ => false) = true) (r0 : 0 ≤ r) (r1 : r ≤ 1000000) (q : ∀ z, v2 o w l r = Builtin.bitAnd z (fullI w) → Q (.int z) st) : callN prog (k + 1) "reckoned" [.str (opS o), .int l, .int r] st Q := by
  refine call_intro rfl rfl ?_
  unfold b_p_reckoned
  cases o <;> try (cases ho; done)
  · unfold opS; walk_at "t"; exact q _ rfl
  · unfold opS; walk_at "t"; exact q _ rfl
  · unfold opS; walk_at "t"
    refine ⟨cmul_small r0 r1, ?_⟩
    walk_at "t"; exact q _ rfl
  · unfold opS; walk_at "t"; exact q _ rfl
  · unfold opS; walk_at "t"; exact q _ rfl
  · unfold opS; walk_at "t"; exact q _ rfl
theorem div_ok {o : Op} (ho : (match o with | .div => true | .rem => true | _ => false) = true) (l0 : 0 ≤ l) (l1 : l ≤ 255) (r0 : 0 ≤ r) (r1 : r ≤ 255) (q : Q (.int (v2 o w l r)) st) : callN prog (k + 1) "divided" [.str (opS o), .int l, .int r] st Q := by
  refine call_intro rfl rfl ?_
  unfold b_p_divided
  walk_at "t"
  by_cases h : r = 0
  · refine wayT (by simpa using h) ?_
    walk_at "t"
    have e : v2 o w l r = 0 := by cases o <;> first | (cases ho; done) | exact if_pos h
    rw [e] at q
    exact q
  · refine wayF (by simpa using h) ?_
    walk_at "t"
    cases o <;> try (cases ho; done)
    · unfold opS; walk_at "t"
      refine ⟨⟨by omega, by omega⟩, ?_⟩
      walk_at "t"
      have e : v2 .div w l r = l / r := if_neg h
      rw [e] at q
      exact q
    · unfold opS; walk_at "t"
      refine ⟨⟨by omega, by omega⟩, ?_⟩
      walk_at "t"
      have h1 : 0 ≤ l / r := Int.ediv_nonneg l0 r0
      have h2 : l / r ≤ l := Int.ediv_le_self r l0
      refine ⟨cmul_small h1 (by omega), ?_⟩
      walk_at "t"
      have e : v2 .rem w l r = l - r * (l / r) := if_neg h
      rw [e] at q
      exact q
theorem sh_ok {o : Op} (ho : (match o with | .shl => true | .shr => true | _ => false) = true) (w0 : 1 ≤ w) (w1 : w ≤ 8) (l0 : 0 ≤ l) (l1 : l ≤ 255) (r0 : 0 ≤ r) (r1 : r ≤ 255) (q : Q (.int (v2 o w l r)) st) : callN prog (k + 2) "shifted" [.str (opS o), .int w, .int l, .int r] st Q := by
  refine call_intro rfl rfl ?_
  unfold b_p_shifted
  walk_at "t"
  by_cases h : w ≤ r
  · refine wayT (by simpa using h) ?_
    walk_at "t"
    have e : v2 o w l r = 0 := by cases o <;> first | (cases ho; done) | exact if_pos h
    rw [e] at q
    exact q
  · refine wayF (by simpa using h) ?_
    walk_at "t"
    cases o <;> try (cases ho; done)
    · unfold opS; walk_at "t"
      refine ⟨⟨r0, by omega, by omega⟩, ?_⟩
      walk_at "t"
      refine greatest_ok (prog := prog) rfl (by omega) w1 ?_
      walk_at "t"
      have e : v2 .shl w l r = Builtin.bitAnd (l * 2 ^ r.toNat) (fullI w) := if_neg h
      rw [e] at q
      exact q
    · unfold opS; walk_at "t"
      refine ⟨r0, ?_⟩
      have e : v2 .shr w l r = l / 2 ^ r.toNat := if_neg h
      rw [e] at q
      exact q
def two : Op → Bool
  | .not => false
  | .neg => false
  | .wide => false
  | .pick => false
  | _ => true
theorem res2 {o : Op} (ho : two o = true) (w0 : 1 ≤ w) (w1 : w ≤ 8) (l0 : 0 ≤ l) (l1 : l ≤ 255) (r0 : 0 ≤ r) (r1 : r ≤ 255) (q : Q (.int (v2 o w l r)) st) : callN prog (k + 3) "result" [.str (opS o), .int w, .tup [.int l, .int r]] st Q := by
  refine call_intro rfl rfl ?_
  unfold b_p_result
  cases o <;> try (cases ho; done)
  case add => unfold opS; walk_at "t"; refine rek_ok (o := .add) (w := w) rfl r0 (by omega) fun z hz => ?_; walk_at "t"; refine greatest_ok (prog := prog) rfl (by omega) w1 ?_; walk_at "t"; rw [hz] at q; exact q
  case sub => unfold opS; walk_at "t"; refine rek_ok (o := .sub) (w := w) rfl r0 (by omega) fun z hz => ?_; walk_at "t"; refine greatest_ok (prog := prog) rfl (by omega) w1 ?_; walk_at "t"; rw [hz] at q; exact q
  case mul => unfold opS; walk_at "t"; refine rek_ok (o := .mul) (w := w) rfl r0 (by omega) fun z hz => ?_; walk_at "t"; refine greatest_ok (prog := prog) rfl (by omega) w1 ?_; walk_at "t"; rw [hz] at q; exact q
  case and => unfold opS; walk_at "t"; refine rek_ok (o := .and) (w := w) rfl r0 (by omega) fun z hz => ?_; walk_at "t"; refine greatest_ok (prog := prog) rfl (by omega) w1 ?_; walk_at "t"; rw [hz] at q; exact q
  case or => unfold opS; walk_at "t"; refine rek_ok (o := .or) (w := w) rfl r0 (by omega) fun z hz => ?_; walk_at "t"; refine greatest_ok (prog := prog) rfl (by omega) w1 ?_; walk_at "t"; rw [hz] at q; exact q
  case xor => unfold opS; walk_at "t"; refine rek_ok (o := .xor) (w := w) rfl r0 (by omega) fun z hz => ?_; walk_at "t"; refine greatest_ok (prog := prog) rfl (by omega) w1 ?_; walk_at "t"; rw [hz] at q; exact q
  case shl => unfold opS; walk_at "t"; exact sh_ok (o := .shl) rfl w0 w1 l0 l1 r0 r1 q
  case shr => unfold opS; walk_at "t"; exact sh_ok (o := .shr) rfl w0 w1 l0 l1 r0 r1 q
  case div => unfold opS; walk_at "t"; exact div_ok (o := .div) (w := w) rfl l0 l1 r0 r1 q
  case rem => unfold opS; walk_at "t"; exact div_ok (o := .rem) (w := w) rfl l0 l1 r0 r1 q
  case eq => unfold opS; walk_at "t"; exact rel_ok (o := .eq) (w := w) rfl q
  case ne => unfold opS; walk_at "t"; exact rel_ok (o := .ne) (w := w) rfl q
  case lt => unfold opS; walk_at "t"; exact rel_ok (o := .lt) (w := w) rfl q
  case le => unfold opS; walk_at "t"; exact rel_ok (o := .le) (w := w) rfl q

theorem full1 (w0 : 1 ≤ w) (w1 : w ≤ 8) : 1 * 2 ^ w.toNat - 1 = fullI w := by rw [Int.one_mul]; rfl
theorem mask_in {x : Int} (h0 : 0 ≤ x) (h1 : x ≤ fullI w) : Builtin.bitAnd x (fullI w) = x := by
  unfold fullI at *
  rw [and_maskZ, Int.emod_eq_of_lt h0 (by omega)]
theorem not_mask (h0 : 0 ≤ l) (h1 : l ≤ fullI w) : Builtin.bitAnd (-l - 1) (fullI w) = fullI w - l := by
  unfold fullI at *
  rw [and_maskZ]
  have e : -l - 1 = (2 ^ w.toNat - 1 - l) + 2 ^ w.toNat * (-1) := by rw [Int.mul_neg, Int.mul_one]; omega
  rw [e, Int.add_mul_emod_self_left, Int.emod_eq_of_lt (by omega) (by omega)]
theorem nat_of {x : Int} (h : 0 ≤ x) : ∃ n : Nat, x = (n : Int) := ⟨x.toNat, by omega⟩
theorem fullN {w : Int} : fullI w = ((2 ^ w.toNat - 1 : Nat) : Int) := by
  unfold fullI
  have := Nat.two_pow_pos w.toNat
  have c : ((2 : Int) ^ w.toNat) = ((2 ^ w.toNat : Nat) : Int) := by simp
  rw [c]; omega
theorem andN (m n : Nat) : Builtin.bitAnd (m : Int) (n : Int) = ((m &&& n : Nat) : Int) := by
  unfold Builtin.bitAnd
  have h1 : (0 : Int) ≤ m := by omega
  have h2 : (0 : Int) ≤ n := by omega
  simp only [h1, h2, decide_true, Int.toNat_natCast]
theorem notN (m : Nat) : Builtin.bitNot (m : Int) = -(m : Int) - 1 := rfl
theorem orN (m n : Nat) : Builtin.bitOr (m : Int) (n : Int) = ((m ||| n : Nat) : Int) := by
  unfold Builtin.bitOr Builtin.bitNot Builtin.bitAnd
  have h1 : ¬ ((0 : Int) ≤ -(m : Int) - 1) := by omega
  have h2 : ¬ ((0 : Int) ≤ -(n : Int) - 1) := by omega
  simp only [h1, h2, decide_false]
  unfold Builtin.bitNot
  have e1 : (-(-(m : Int) - 1) - 1).toNat = m := by omega
  have e2 : (-(-(n : Int) - 1) - 1).toNat = n := by omega
  rw [e1, e2]
  omega
theorem or_le {m n k : Nat} (h1 : m < 2 ^ k) (h2 : n < 2 ^ k) : m ||| n < 2 ^ k := Nat.or_lt_two_pow h1 h2
theorem xorN (m n : Nat) : ∃ z : Nat, Builtin.bitXor (m : Int) (n : Int) = (z : Int) ∧ z ≤ m ||| n := by
  unfold Builtin.bitXor
  rw [orN, andN]
  have h : m &&& n ≤ m ||| n := Nat.le_trans Nat.and_le_left Nat.left_le_or
  exact ⟨(m ||| n) - (m &&& n), by omega, Nat.sub_le _ _⟩
theorem bits_in (l0 : 0 ≤ l) (l1 : l ≤ fullI w) (r0 : 0 ≤ r) (r1 : r ≤ fullI w) : v2 .and w l r = Builtin.bitAnd l r ∧ v2 .or w l r = Builtin.bitOr l r ∧ v2 .xor w l r = Builtin.bitXor l r := by
  obtain ⟨m, rfl⟩ := nat_of l0
  obtain ⟨n, rfl⟩ := nat_of r0
  have hp := Nat.two_pow_pos w.toNat
  have hf := fullN (w := w)
  have hm : m < 2 ^ w.toNat := by omega
  have hn : n < 2 ^ w.toNat := by omega
  have h1 : m &&& n < 2 ^ w.toNat := Nat.lt_of_le_of_lt Nat.and_le_left hm
  have h2 : m ||| n < 2 ^ w.toNat := or_le hm hn
  obtain ⟨z, hz, hz2⟩ := xorN m n
  refine ⟨?_, ?_, ?_⟩
  · show Builtin.bitAnd (Builtin.bitAnd _ _) _ = _
    rw [andN]; exact mask_in (by omega) (by omega)
  · show Builtin.bitAnd (Builtin.bitOr _ _) _ = _
    rw [orN]; exact mask_in (by omega) (by omega)
  · show Builtin.bitAnd (Builtin.bitXor _ _) _ = _
    rw [hz]; exact mask_in (by omega) (by omega)
theorem shl_big (w0 : 1 ≤ w) (w1 : w ≤ 8) (h : w ≤ r) : Builtin.bitAnd (l * 2 ^ (if 8 < r then 8 else r).toNat) (fullI w) = 0 := by
  unfold fullI
  rw [and_maskZ]
  have h1 : w.toNat ≤ (if 8 < r then 8 else r).toNat := by split <;> omega
  obtain ⟨j, hj⟩ := Nat.exists_eq_add_of_le h1
  rw [hj, Int.pow_add, ← Int.mul_assoc, Int.mul_comm l, Int.mul_assoc]
  exact Int.mul_emod_right _ _
theorem shr_big (w0 : 1 ≤ w) (w1 : w ≤ 8) (l0 : 0 ≤ l) (l1 : l ≤ fullI w) (h : w ≤ r) : l / 2 ^ (if 8 < r then 8 else r).toNat = 0 := by
  have h1 : w.toNat ≤ (if 8 < r then 8 else r).toNat := by split <;> omega
  have h2 := Nat.pow_le_pow_right (n := 2) (by decide) h1
  have c : ∀ n : Nat, ((2 : Int) ^ n) = ((2 ^ n : Nat) : Int) := fun n => by simp
  unfold fullI at l1
  rw [c] at l1
  rw [c]
  exact Int.ediv_eq_zero_of_lt l0 (by omega)
theorem min_small (h : ¬ w ≤ r) (w1 : w ≤ 8) : (if 8 < r then 8 else r) = r := if_neg (by omega)
end
end Pk30
end PartPdk30P

section PartPdk30P2
set_option Elab.async false
set_option linter.all false
set_option maxRecDepth 100000
set_option maxHeartbeats 1000000
namespace Pk30
open PySem Pd
local macro_rules | `(tactic| walk_at "s") => `(tactic| (repeat (refine Red.red ?_)))
local macro_rules | `(tactic| walk_at "r") => `(tactic| (repeat (first | refine Red.red ?_ | refine Nxt.mk ?_)))
local macro_rules | `(tactic| walk_at "t") => `(tactic| (repeat (first | refine Red.red ?_ | refine Nxt.mk ?_ | refine ⟨by decide +kernel, by decide +kernel, wayF (by decide +kernel) ?_⟩ | refine ⟨by decide +kernel, by decide +kernel, wayT (by decide +kernel) ?_⟩ | refine ⟨by decide +kernel, ?_⟩ | refine at_is rfl ?_)))

/-! k30, second text: `_law_reckoned` gives v1, v2 and the pick. Own work. -/
section
local instance inNew {x : D} {xs : List D} {st : Store} {r : Bool → Prop} : Red (inC x (.ref st.length) (st ++ [.lst xs]) r) (x.flat = true ∧ xs.all D.flat = true ∧ r (xs.any fun y => D.eqb y x)) := ⟨fun h => ⟨xs, .inl (by simp [rdL]), h⟩⟩
variable {w l r a b : Int} {k n : Nat} {st : Store} {Q : K}
theorem ix_ref {st : Store} {n : Nat} {xs : List D} {d : D} {i : Int} {Q : K} (h : rdL st n xs) (h' : atD xs i = some d) (q : Q d st) : ixK (.ref n) (.int i) st Q := ⟨xs, d, .inl h, h', q⟩
theorem rek1 {o : Op} (ho : one o = true) (w0 : 1 ≤ w) (w1 : w ≤ 8) (l0 : 0 ≤ l) (h : rdL st n [.int l]) (q : ∀ st', Grw st st' → Q (.int (v1 o w l)) st') : callN prog (k + 1) "_law_reckoned" [.str (opS o), .int w, .ref n] st Q := by
  refine call_intro rfl rfl ?_
  unfold b_l_reckoned
  have q' := q st (.refl st)
  have cp := cpow_small (w := w) (by omega) (by omega)
  have hf := full1 w0 w1
  cases o <;> try (cases ho; done)
  all_goals (unfold opS; walk_at "t"; refine ⟨cp, ?_⟩; walk_at "t"; refine ix_ref h rfl ?_; walk_at "t"; rw [hf])
  · exact q'
  · have e : Builtin.bitAnd (fullI w + 1 - l) (fullI w) = v1 .neg w l := by
      show _ = Builtin.bitAnd (-l) (fullI w)
      unfold fullI
      rw [and_maskZ, and_maskZ, show (2 : Int) ^ w.toNat - 1 + 1 - l = -l + 2 ^ w.toNat * 1 by omega, Int.add_mul_emod_self_left]
    rw [e]; exact q'
  · exact q'
theorem rek3 (w0 : 1 ≤ w) (w1 : w ≤ 8) (h : rdL st n [.int l, .int a, .int b]) (q : Q (.int (if l = 1 then a else b)) st) : callN prog (k + 1) "_law_reckoned" [.str (opS .pick), .int w, .ref n] st Q := by
  refine call_intro rfl rfl ?_
  unfold b_l_reckoned opS
  walk_at "t"
  refine ⟨cpow_small (by omega) (by omega), ?_⟩
  walk_at "t"
  refine ix_ref h rfl ?_
  walk_at "t"
  by_cases e : l = 1
  · rw [if_pos e] at q
    refine wayT (by simpa using e) ?_
    walk_at "t"
    exact ix_ref h rfl q
  · rw [if_neg e] at q
    refine wayF (by simpa using e) ?_
    walk_at "t"
    exact ix_ref h rfl q
theorem shl_off (w0 : 1 ≤ w) (h : w ≤ r) : Builtin.bitAnd (l * 2 ^ r.toNat) (fullI w) = 0 := by
  unfold fullI
  rw [and_maskZ]
  obtain ⟨j, hj⟩ := Nat.exists_eq_add_of_le (show w.toNat ≤ r.toNat by omega)
  rw [hj, Int.pow_add, ← Int.mul_assoc, Int.mul_comm l, Int.mul_assoc]
  exact Int.mul_emod_right _ _
theorem shr_off (w0 : 1 ≤ w) (l0 : 0 ≤ l) (l1 : l ≤ fullI w) (h : w ≤ r) : l / 2 ^ r.toNat = 0 := by
  have h2 := Nat.pow_le_pow_right (n := 2) (by decide) (show w.toNat ≤ r.toNat by omega)
  have c : ∀ n : Nat, ((2 : Int) ^ n) = ((2 ^ n : Nat) : Int) := fun n => by simp
  unfold fullI at l1
  rw [c] at l1
  rw [c]
  exact Int.ediv_eq_zero_of_lt l0 (by omega)
theorem rek2 {o : Op} (ho : two o = true) (w0 : 1 ≤ w) (w1 : w ≤ 8) (l0 : 0 ≤ l) (l2 : l ≤ 255) (r0 : 0 ≤ r) (r1 : r ≤ 255) (rs : (o = .shr ∨ o = .and ∨ o = .or ∨ o = .xor) → l ≤ fullI w) (rb : (o = .and ∨ o = .or ∨ o = .xor) → r ≤ fullI w) (h : rdL st n [.int l, .int r]) (q : ∀ st', Grw st st' → Q (.int (v2 o w l r)) st') : callN prog (k + 1) "_law_reckoned" [.str (opS o), .int w, .ref n] st Q := by
  refine call_intro rfl rfl ?_
  unfold b_l_reckoned
  have cp := cpow_small (w := w) (by omega) (by omega)
  have hf := full1 w0 w1
  cases o <;> try (cases ho; done)
  all_goals (unfold opS; walk_at "t"; refine ⟨cp, ?_⟩; walk_at "t"; refine ix_ref h rfl ?_; walk_at "t"; refine ix_ref h rfl ?_; walk_at "t")
  case add => rw [hf]; exact q _ (.app (.app (.app (.app (.refl st)))))
  case sub => rw [hf]; exact q _ (.app (.app (.app (.app (.refl st)))))
  case mul => refine ⟨cmul_small r0 (by omega), ?_⟩; walk_at "t"; rw [hf]; exact q _ (.app (.app (.app (.app (.refl st)))))
  case and => have e := (bits_in l0 (rs (by simp)) r0 (rb (by simp))).1; rw [← e]; exact q _ (.app (.app (.app (.app (.refl st)))))
  case or => have e := (bits_in l0 (rs (by simp)) r0 (rb (by simp))).2.1; rw [← e]; exact q _ (.app (.app (.app (.app (.refl st)))))
  case xor => have e := (bits_in l0 (rs (by simp)) r0 (rb (by simp))).2.2; rw [← e]; exact q _ (.app (.app (.app (.app (.refl st)))))
  case shl =>
    refine ⟨⟨r0, by omega, by omega⟩, ?_⟩
    walk_at "t"
    rw [hf]
    have e : v2 .shl w l r = Builtin.bitAnd (l * 2 ^ r.toNat) (fullI w) := by
      show (if w ≤ r then _ else _) = _
      split
      · rename_i hh; rw [shl_off w0 hh]
      · rfl
    rw [← e]; exact q _ (.app (.app (.app (.refl st))))
  case shr =>
    refine ⟨r0, ?_⟩
    have e : v2 .shr w l r = l / 2 ^ r.toNat := by
      show (if w ≤ r then _ else _) = _
      split
      · rename_i hh; rw [shr_off w0 l0 (rs (by simp)) hh]
      · rfl
    rw [← e]; exact q _ (.app (.app (.app (.refl st))))
  case div =>
    by_cases e : r = 0
    · refine wayT (by simpa using e) ?_
      walk_at "t"
      have e' : v2 .div w l r = 0 := if_pos e
      rw [← e']; exact q _ (.app (.app (.app (.refl st))))
    · refine wayF (by simpa using e) ?_
      walk_at "t"
      refine ⟨⟨by omega, by omega⟩, ?_⟩
      have e' : v2 .div w l r = l / r := if_neg e
      rw [← e']; exact q _ (.app (.app (.app (.refl st))))
  case rem =>
    by_cases e : r = 0
    · refine wayT (by simpa using e) ?_
      walk_at "t"
      have e' : v2 .rem w l r = 0 := if_pos e
      rw [← e']; exact q _ (.app (.app (.app (.refl st))))
    · refine wayF (by simpa using e) ?_
      walk_at "t"
      refine ⟨⟨by omega, by omega⟩, ?_⟩
      walk_at "t"
      have hd : 0 ≤ l / r := Int.ediv_nonneg l0 r0
      have hd' : l / r ≤ l := Int.ediv_le_self _ l0
      refine ⟨cmul_small hd (by omega), ?_⟩
      walk_at "t"
      have e' : v2 .rem w l r = l - r * (l / r) := if_neg e
      rw [← e']; exact q _ (.app (.app (.app (.refl st))))
  case eq => exact q _ (.app (.refl st))
  case ne => exact q _ (.app (.refl st))
  case lt => exact q _ (.app (.app (.refl st)))
  case le => exact q _ (.app (.app (.refl st)))
end
end Pk30
end PartPdk30P2

section PartPdk30P3
set_option Elab.async false
set_option linter.all false
set_option maxRecDepth 100000
set_option maxHeartbeats 1000000
namespace Pk30
open PySem Pd
/-! k30, third text: sheets as lists of nodes, and their values. Own work. -/
inductive Nd where
  | word (w v : Int)
  | inp (w : Int) (i : Nat)
  | one (o : Op) (w : Int) (a : Nat)
  | two (o : Op) (w : Int) (a b : Nat)
  | pick (w : Int) (c a b : Nat)
namespace Nd
def wd : Nd → Int
  | word w _ => w
  | inp w _ => w
  | one _ w _ => w
  | two _ w _ _ => w
  | pick w _ _ _ => w
def dat : Nd → D
  | word w v => .tup [.str (Str.ofString "word"), .int w, .int v]
  | inp w i => .tup [.str (Str.ofString "input"), .int w, .int i]
  | one o w a => .tup [.str (opS o), .int w, .int a]
  | two o w a b => .tup [.str (opS o), .int w, .int a, .int b]
  | pick w c a b => .tup [.str (opS .pick), .int w, .int c, .int a, .int b]
end Nd
def cmp : Op → Bool
  | .eq => true
  | .ne => true
  | .lt => true
  | .le => true
  | _ => false
def shf : Op → Bool
  | .shl => true
  | .shr => true
  | _ => false
def Has (ws : List Int) (a : Nat) (w : Int) : Prop := ws[a]? = some w
def Good (ws : List Int) : Nd → Prop
  | .word w v => 1 ≤ w ∧ w ≤ 8 ∧ 0 ≤ v ∧ v ≤ fullI w
  | .inp w i => 1 ≤ w ∧ w ≤ 8 ∧ i ≤ 300
  | .one o w a => 1 ≤ w ∧ w ≤ 8 ∧ Pk30.one o = true ∧ ∃ u, Has ws a u ∧ (o ≠ .wide → u = w)
  | .two o w a b => 1 ≤ w ∧ w ≤ 8 ∧ Pk30.two o = true ∧ ∃ u v, Has ws a u ∧ Has ws b v ∧ (cmp o = true → w = 1) ∧ (cmp o = false → u = w) ∧ (cmp o = false → shf o = false → v = w)
  | .pick w c a b => 1 ≤ w ∧ w ≤ 8 ∧ Has ws c 1 ∧ Has ws a w ∧ Has ws b w
inductive Sheet : List Nd → Prop
  | nil : Sheet []
  | snoc {ns : List Nd} {x : Nd} : Sheet ns → Good (ns.map Nd.wd) x → Sheet (ns ++ [x])
def val (is : List Int) (vs : List Int) : Nd → Int
  | .word _ v => v
  | .inp w i => if i < is.length then Builtin.bitAnd (is.getD i 0) (fullI w) else 0
  | .one o w a => v1 o w (vs.getD a 0)
  | .two o w a b => v2 o w (vs.getD a 0) (vs.getD b 0)
  | .pick _ c a b => if vs.getD c 0 = 1 then vs.getD a 0 else vs.getD b 0
def vals (is : List Int) (ns : List Nd) : List Int := ns.foldl (fun vs x => vs ++ [val is vs x]) []
theorem vals_snoc (is : List Int) (ns : List Nd) (x : Nd) : vals is (ns ++ [x]) = vals is ns ++ [val is (vals is ns) x] := by
  unfold vals
  rw [List.foldl_append]
  rfl
/-- values within the widths -/
def Fits (ws vs : List Int) : Prop := ∀ (a : Nat) (w : Int), ws[a]? = some w → ∃ v : Int, vs[a]? = some v ∧ 0 ≤ v ∧ v ≤ fullI w
theorem and_in (x w : Int) : 0 ≤ Builtin.bitAnd x (fullI w) ∧ Builtin.bitAnd x (fullI w) ≤ fullI w := by
  unfold fullI
  rw [and_maskZ]
  have h : (0 : Int) < 2 ^ w.toNat := Int.pow_pos (by decide)
  have h1 := Int.emod_nonneg x (Int.ne_of_gt h)
  have h2 := Int.emod_lt_of_pos x h
  omega
theorem b2i_in (b : Bool) : 0 ≤ b2i b ∧ b2i b ≤ fullI 1 := by cases b <;> decide
theorem v1_in {o : Op} {w l : Int} (l0 : 0 ≤ l) (l1 : o ≠ .wide → l ≤ fullI w) : 0 ≤ v1 o w l ∧ v1 o w l ≤ fullI w := by
  cases o
  case not =>
    have := l1 (by intro h; cases h)
    show 0 ≤ fullI w - l ∧ fullI w - l ≤ fullI w
    omega
  all_goals exact and_in _ w
theorem v2_in {o : Op} {w l r : Int} (l0 : 0 ≤ l) (r0 : 0 ≤ r) (l1 : cmp o = false → l ≤ fullI w) (hc : cmp o = true → w = 1) (ho : two o = true) : 0 ≤ v2 o w l r ∧ v2 o w l r ≤ fullI w := by
  have hw : 0 ≤ fullI w := by
    have h : (0 : Int) < 2 ^ w.toNat := Int.pow_pos (by decide)
    unfold fullI; omega
  have pw : (0 : Int) < 2 ^ r.toNat := Int.pow_pos (by decide)
  cases o <;> try (cases ho; done)
  case add => exact and_in _ w
  case sub => exact and_in _ w
  case mul => exact and_in _ w
  case and => exact and_in _ w
  case or => exact and_in _ w
  case xor => exact and_in _ w
  case shl =>
    show 0 ≤ (if w ≤ r then _ else _) ∧ (if w ≤ r then _ else _) ≤ fullI w
    split
    · exact ⟨by decide, hw⟩
    · exact and_in _ w
  case shr =>
    show 0 ≤ (if w ≤ r then _ else _) ∧ (if w ≤ r then _ else _) ≤ fullI w
    split
    · exact ⟨by decide, hw⟩
    · have h1 := Int.ediv_nonneg l0 (Int.le_of_lt pw)
      have h2 := Int.ediv_le_self (2 ^ r.toNat) l0
      have := l1 rfl
      omega
  case div =>
    show 0 ≤ (if r = 0 then _ else _) ∧ (if r = 0 then _ else _) ≤ fullI w
    split
    · exact ⟨by decide, hw⟩
    · have h1 := Int.ediv_nonneg l0 r0
      have h2 := Int.ediv_le_self r l0
      have := l1 rfl
      omega
  case rem =>
    show 0 ≤ (if r = 0 then _ else _) ∧ (if r = 0 then _ else _) ≤ fullI w
    split
    · exact ⟨by decide, hw⟩
    · rename_i hr
      have h0 : l - r * (l / r) = l % r := (Int.emod_def l r).symm
      have h1 := Int.emod_nonneg l hr
      have h3 : 0 ≤ r * (l / r) := Int.mul_nonneg r0 (Int.ediv_nonneg l0 r0)
      have := l1 rfl
      omega
  all_goals
    rw [hc rfl]
    exact b2i_in _
theorem fits_val {ws vs is : List Int} {x : Nd} (h : Fits ws vs) (g : Good ws x) (hi : ∀ i, i ∈ is → 0 ≤ i) : 0 ≤ val is vs x ∧ val is vs x ≤ fullI x.wd := by
  have gd : ∀ {a : Nat} {w : Int}, Has ws a w → 0 ≤ vs.getD a 0 ∧ vs.getD a 0 ≤ fullI w := by
    intro a w ha
    obtain ⟨v, e, h0, h1⟩ := h a w ha
    rw [List.getD_eq_getElem?_getD, e]
    exact ⟨h0, h1⟩
  cases x with
  | word w v => exact ⟨g.2.2.1, g.2.2.2⟩
  | inp w i =>
    show 0 ≤ (if i < is.length then _ else _) ∧ (if i < is.length then _ else _) ≤ fullI w
    split
    · exact and_in _ w
    · exact ⟨by decide, Int.le_trans (and_in 0 w).1 (and_in 0 w).2⟩
  | one o w a =>
    obtain ⟨w0, w1, ho, u, ha, hu⟩ := g
    have := gd ha
    exact v1_in this.1 (fun hne => by rw [← hu hne]; exact this.2)
  | two o w a b =>
    obtain ⟨w0, w1, ho, u, v, ha, hb, h1, h2, h3⟩ := g
    have A := gd ha
    have B := gd hb
    exact v2_in A.1 B.1 (fun hc => by rw [← h2 hc]; exact A.2) h1 ho
  | pick w c a b =>
    obtain ⟨w0, w1, hc, ha, hb⟩ := g
    show 0 ≤ (if vs.getD c 0 = 1 then _ else _) ∧ (if vs.getD c 0 = 1 then _ else _) ≤ fullI w
    split
    · exact gd ha
    · exact gd hb
theorem vals_len (is : List Int) {ns : List Nd} (h : Sheet ns) : (vals is ns).length = ns.length := by
  induction h with
  | nil => rfl
  | snoc h g ih => rw [vals_snoc, List.length_append, List.length_append, ih]; rfl
theorem fits_all (is : List Int) (hi : ∀ i, i ∈ is → 0 ≤ i) {ns : List Nd} (h : Sheet ns) : Fits (ns.map Nd.wd) (vals is ns) := by
  induction h with
  | nil => intro a w ha; cases ha
  | @snoc ns x h g ih =>
    intro a w ha
    rw [vals_snoc]
    rw [List.map_append] at ha
    have hl := vals_len is h
    by_cases e : a < ns.length
    · rw [List.getElem?_append_left (by simpa using e)] at ha
      rw [List.getElem?_append_left (by omega)]
      exact ih a w ha
    · rw [List.getElem?_append_right (by simpa using e)] at ha
      rw [List.getElem?_append_right (by omega)]
      have ea : a = ns.length := by
        have := (List.getElem?_eq_some_iff.1 ha).1
        simp only [List.length_map, List.length_cons, List.length_nil] at this
        omega
      subst ea
      rw [List.length_map, Nat.sub_self] at ha
      rw [hl, Nat.sub_self]
      have e' : x.wd = w := by simpa using ha
      subst e'
      exact ⟨_, rfl, fits_val ih g hi⟩
end Pk30
end PartPdk30P3

section PartPdk30P4
set_option Elab.async false
set_option linter.all false
set_option maxRecDepth 100000
set_option maxHeartbeats 1000000
namespace Pk30
open PySem Pd
local macro_rules | `(tactic| walk_at "s") => `(tactic| (repeat (refine Red.red ?_)))
local macro_rules | `(tactic| walk_at "r") => `(tactic| (repeat (first | refine Red.red ?_ | refine Nxt.mk ?_)))
local macro_rules | `(tactic| walk_at "t") => `(tactic| (repeat (first | refine Red.red ?_ | refine Nxt.mk ?_ | refine ⟨by decide +kernel, by decide +kernel, wayF (by decide +kernel) ?_⟩ | refine ⟨by decide +kernel, by decide +kernel, wayT (by decide +kernel) ?_⟩ | refine ⟨by decide +kernel, ?_⟩ | refine at_is rfl ?_)))
/-! k30, fourth text: `values_of` gives the values. Own work. -/
theorem Sheet.pre {ns : List Nd} (S : Sheet ns) {j : Nat} {x : Nd} (hx : ns[j]? = some x) : Sheet (ns.take j) ∧ Good ((ns.take j).map Nd.wd) x := by
  induction S with
  | nil => cases hx
  | @snoc ns y h g ih =>
    by_cases e : j < ns.length
    · rw [List.getElem?_append_left e] at hx
      rw [List.take_append_of_le_length (by omega)]
      exact ih hx
    · have hj := (List.getElem?_eq_some_iff.1 hx).1
      simp only [List.length_append, List.length_cons, List.length_nil] at hj
      have ej : j = ns.length := by omega
      subst ej
      rw [List.getElem?_append_right (Nat.le_refl _), Nat.sub_self] at hx
      cases hx
      rw [List.take_append_of_le_length (Nat.le_refl _), List.take_length]
      exact ⟨h, g⟩
theorem vals_take {is : List Int} {ns : List Nd} {j : Nat} {x : Nd} (hx : ns[j]? = some x) : vals is (ns.take (j + 1)) = vals is (ns.take j) ++ [val is (vals is (ns.take j)) x] := by
  rw [List.take_add_one, hx]
  exact vals_snoc _ _ _
theorem ix_refN {st : Store} {n a : Nat} {vs : List Int} {Q : K} (h : rdL st n (vs.map D.int)) (ha : a < vs.length) (q : Q (.int (vs.getD a 0)) st) : ixK (.ref n) (.int (a : Int)) st Q := by
  refine ⟨vs.map D.int, .int (vs.getD a 0), .inl h, ?_, q⟩
  unfold atD
  simp only [List.length_map]
  have e1 : ¬ ((a : Int) < 0) := by omega
  simp [e1, List.getD_eq_getElem?_getD, List.getElem?_eq_getElem ha, ha]
theorem opS_w (o : Op) : okS (opS o) = true ∧ decide (opS o = Str.ofString "word") = false ∧ decide (opS o = Str.ofString "input") = false := by
  cases o <;> exact ⟨by decide +kernel, by decide +kernel, by decide +kernel⟩
theorem Sheet.wid {ns : List Nd} (S : Sheet ns) : ∀ (a : Nat) (w : Int), Has (ns.map Nd.wd) a w → 1 ≤ w ∧ w ≤ 8 := by
  induction S with
  | nil => intro a w h; cases h
  | @snoc ns x h g ih =>
    intro a w ha
    unfold Has at ha
    rw [List.map_append] at ha
    by_cases e : a < ns.length
    · rw [List.getElem?_append_left (by simpa using e)] at ha
      exact ih a w ha
    · rw [List.getElem?_append_right (by simpa using e)] at ha
      have e' := List.mem_of_getElem? ha
      simp at e'
      subst e'
      cases x <;> exact ⟨g.1, g.2.1⟩
theorem le255 {ns : List Nd} (S : Sheet ns) {a : Nat} {w z : Int} (ha : Has (ns.map Nd.wd) a w) (h : z ≤ fullI w) : z ≤ 255 := by
  have := S.wid a w ha
  have := fullI_bd (w := w) (by omega) this.2
  omega
def parts : Nd → List Nat
  | .one _ _ a => [a]
  | .two _ _ a b => [a, b]
  | .pick _ c a b => [c, a, b]
  | _ => []
theorem lc_parts {gd : Store → Prop} {ρ : Pd.Env} {te : TE} {g : TG} {st : Store} {Q : K} {vs : List Int} {n : Nat} (ps : List Nat) (h : rdL st n (vs.map D.int)) (hp : ∀ a ∈ ps, a < vs.length) (hl : ps.length ≤ 3) (hg : ∀ acc, gd (st ++ [.lst acc]))
    (hs : ∀ a, a ∈ ps → ∀ (acc : List D) (N : D → Store → Prop), rdL (st ++ [.lst acc]) n (vs.map D.int) → N (.int (vs.getD a 0)) (st ++ [.lst acc]) → g (.int (a : Int)) ρ (st ++ [.lst acc]) fun ρ2 st2 => te ρ2 st2 N)
    (hd : Q (.ref st.length) (st ++ [.lst (ps.map fun (a : Nat) => D.int (vs.getD a 0))])) : lcLoop gd g tYes te ρ st.length Q (ps.map fun (a : Nat) => D.int (a : Int)) [] (st ++ [.lst []]) :=
  lc_map ps (fun (a : Nat) => D.int (a : Int)) (fun (a : Nat) => D.int (vs.getD a 0)) rfl (by unfold szl; omega) hg (fun a ha acc N hN => hs a ha acc N (rdL_app h) hN) hd
theorem values_ok {m : Nat} {st : Store} {Q : K} {is : List Int} {ns : List Nd} (hm : 5 ≤ m) (S : Sheet ns) (hi : ∀ i, i ∈ is → 0 ≤ i) (hl : ns.length ≤ 1000) (q : ∀ st', FraG st.length st st' → Q (.tup ((vals is ns).map D.int)) st') : callN prog m "values_of" [.tup (ns.map Nd.dat), .tup (is.map D.int)] st Q := by
  obtain ⟨k, rfl⟩ : ∃ n, m = n + 5 := ⟨m - 5, by omega⟩
  refine call_intro rfl rfl ?_
  unfold b_p_values_of
  walk_at "s"
  refine ⟨Nat.le_of_ble_eq_true rfl, ?_⟩
  walk_at "s"
  refine Nxt.mk ?_
  walk_at "s"
  refine for_map ns Nd.dat rfl (fun j σ st' => ∃ o3 o4 : Option D, σ = [some (.tup (ns.map Nd.dat)), some (.tup (is.map D.int)), some (.ref st.length), o3, o4, none] ∧ rdL st' st.length ((vals is (ns.take j)).map D.int) ∧ FraG st.length st st') ⟨none, none, rfl, rdL_new, FraG.new⟩ (fun j x σ st' hx ⟨o3, o4, e, h, f⟩ N hN => ?_) (fun σ st' ⟨o3, o4, e, h, f⟩ => ?_)
  · subst e
    refine ⟨trivial, ?_⟩
    obtain ⟨S', G⟩ := S.pre hx
    have F := fits_all is hi S'
    have hlen := vals_len is S'
    have hj : (ns.take j).length ≤ 1000 := by rw [List.length_take]; omega
    have ap : ∀ {st2 : Store} {o4 : Option D} {z : Int}, z = val is (vals is (ns.take j)) x → Grw st' st2 → appendM (.ref st.length) [.int z] st2 fun _ st3 => N [some (.tup (ns.map Nd.dat)), some (.tup (is.map D.int)), some (.ref st.length), some x.dat, o4, none] st3 := by
      intro st2 o4 z ez g
      have h2 := g.rd h
      refine append_at h2 (by simp [szl]; omega) ?_
      refine hN _ _ ⟨some x.dat, o4, rfl, ?_, (f.more g).setG⟩
      rw [vals_take hx, List.map_append, ez]
      exact rdL_set h2
    have gd : ∀ {a : Nat} {w : Int}, Has ((ns.take j).map Nd.wd) a w → a < (vals is (ns.take j)).length ∧ 0 ≤ (vals is (ns.take j)).getD a 0 ∧ (vals is (ns.take j)).getD a 0 ≤ fullI w := by
      intro a w ha
      obtain ⟨v, e, h0, h1⟩ := F a w ha
      refine ⟨(List.getElem?_eq_some_iff.1 e).1, ?_⟩
      rw [List.getD_eq_getElem?_getD, e]
      exact ⟨h0, h1⟩
    cases x with
    | word w v =>
      walk_at "t"
      refine ⟨ty_at h, ?_⟩
      walk_at "t"
      exact ap rfl (.refl _)
    | inp w i =>
      obtain ⟨w0, w1, hi3⟩ := G
      walk_at "t"
      refine ⟨ty_at h, ?_⟩
      walk_at "t"
      rw [List.length_map]
      refine way (fun hh => ?_) (fun hh => ?_)
      · have h' : i < is.length := by have := of_decide_eq_true hh; omega
        walk_at "t"
        refine ⟨.int (is.getD i 0), ?_, ?_⟩
        · unfold atD
          rw [if_pos (by omega), Int.toNat_natCast, List.getElem?_map, List.getElem?_eq_getElem h', List.getD_eq_getElem?_getD, List.getElem?_eq_getElem h']
          rfl
        · walk_at "t"
          refine greatest_ok (prog := prog) rfl (by omega) w1 ?_
          walk_at "t"
          refine ap ?_ (.refl _)
          exact (if_pos h').symm
      · have h' : ¬ i < is.length := by have := of_decide_eq_false hh; omega
        walk_at "t"
        exact ap (if_neg h').symm (.refl _)
    | one o w a =>
      obtain ⟨w0, w1, ho, u, ha, hu⟩ := G
      walk_at "t"
      refine ⟨(opS_w o).1, by decide +kernel, wayF (opS_w o).2.1 ?_⟩
      walk_at "t"
      refine ⟨(opS_w o).1, by decide +kernel, wayF (opS_w o).2.2 ?_⟩
      walk_at "t"
      refine lc_parts [a] h (by simp; exact (gd ha).1) (by simp) (fun _ => trivial) (fun b hb acc N' h3 hN' => ?_) ?_
      · walk_at "t"
        exact ix_refN h3 (by simp at hb; subst hb; exact (gd ha).1) hN'
      · walk_at "t"
        refine ⟨ty_at (rdL_app h), ?_⟩
        walk_at "t"
        refine star_at rdL_new ?_
        walk_at "t"
        refine ⟨by simp, by simp [szl], ?_⟩
        refine res1 (k := k + 2) ho w0 w1 ?_
        exact ap rfl (.app (.refl _))
    | two o w a b =>
      obtain ⟨w0, w1, ho, u, v, ha, hb, g1, g2, g3⟩ := G
      walk_at "t"
      refine ⟨(opS_w o).1, by decide +kernel, wayF (opS_w o).2.1 ?_⟩
      walk_at "t"
      refine ⟨(opS_w o).1, by decide +kernel, wayF (opS_w o).2.2 ?_⟩
      walk_at "t"
      have hp : ∀ c' ∈ [a, b], c' < (vals is (ns.take j)).length := by
        intro c' hc'
        simp only [List.mem_cons, List.not_mem_nil, or_false] at hc'
        rcases hc' with rfl | rfl
        · exact (gd ha).1
        · exact (gd hb).1
      refine lc_parts [a, b] h hp (by simp) (fun _ => trivial) (fun b' hb' acc N' h3 hN' => ?_) ?_
      · walk_at "t"
        exact ix_refN h3 (hp _ hb') hN'
      · walk_at "t"
        refine ⟨ty_at (rdL_app h), ?_⟩
        walk_at "t"
        refine star_at rdL_new ?_
        walk_at "t"
        refine ⟨by simp, by simp [szl], ?_⟩
        refine res2 (k := k + 1) ho w0 w1 (gd ha).2.1 (le255 S' ha (gd ha).2.2) (gd hb).2.1 (le255 S' hb (gd hb).2.2) ?_
        exact ap rfl (.app (.refl _))
    | pick w c a b =>
      obtain ⟨w0, w1, hc, ha, hb⟩ := G
      walk_at "s"
      refine at_is rfl ?_
      walk_at "s"
      refine ⟨(opS_w .pick).1, by decide +kernel, wayF (opS_w .pick).2.1 ?_⟩
      walk_at "s"
      refine at_is rfl ?_
      walk_at "s"
      refine ⟨(opS_w .pick).1, by decide +kernel, wayF (opS_w .pick).2.2 ?_⟩
      walk_at "s"
      have hp : ∀ c' ∈ [c, a, b], c' < (vals is (ns.take j)).length := by
        intro c' hc'
        simp only [List.mem_cons, List.not_mem_nil, or_false] at hc'
        rcases hc' with rfl | rfl | rfl
        · exact (gd hc).1
        · exact (gd ha).1
        · exact (gd hb).1
      refine lc_parts [c, a, b] h hp (by simp) (fun _ => trivial) (fun b' hb' acc N' h3 hN' => ?_) ?_
      · walk_at "t"
        exact ix_refN h3 (hp _ hb') hN'
      · walk_at "t"
        refine ⟨ty_at (rdL_app h), ?_⟩
        walk_at "t"
        refine star_at rdL_new ?_
        walk_at "t"
        refine ⟨by simp, by simp [szl], ?_⟩
        refine res3 (k := k + 2) w0 w1 ?_
        exact ap rfl (.app (.refl _))
  · subst e
    refine ⟨trivial, ?_⟩
    walk_at "r"
    rw [List.take_length] at h
    exact tuple_at h (q _ f)
end Pk30
end PartPdk30P4

section PartPdk30P5
set_option Elab.async false
set_option linter.all false
set_option maxRecDepth 100000
set_option maxHeartbeats 1000000
namespace Pk30
open PySem Pd
local macro_rules | `(tactic| walk_at "s") => `(tactic| (repeat (refine Red.red ?_)))
local macro_rules | `(tactic| walk_at "r") => `(tactic| (repeat (first | refine Red.red ?_ | refine Nxt.mk ?_)))
local macro_rules | `(tactic| walk_at "t") => `(tactic| (repeat (first | refine Red.red ?_ | refine Nxt.mk ?_ | refine ⟨by decide +kernel, by decide +kernel, wayF (by decide +kernel) ?_⟩ | refine ⟨by decide +kernel, by decide +kernel, wayT (by decide +kernel) ?_⟩ | refine ⟨by decide +kernel, ?_⟩ | refine at_is rfl ?_)))
/-! k30, fifth text: `_law_reckoned_all` gives the same values. Own work. -/
theorem all_ok {m : Nat} {st : Store} {Q : K} {is : List Int} {ns : List Nd} (hm : 5 ≤ m) (S : Sheet ns) (hi : ∀ i, i ∈ is → 0 ≤ i) (hl : ns.length ≤ 1000) (q : ∀ st', FraG st.length st st' → rdL st' st.length ((vals is ns).map D.int) → Q (.ref st.length) st') : callN prog m "_law_reckoned_all" [.tup (ns.map Nd.dat), .tup (is.map D.int)] st Q := by
  obtain ⟨k, rfl⟩ : ∃ n, m = n + 5 := ⟨m - 5, by omega⟩
  refine call_intro rfl rfl ?_
  unfold b_l_reckoned_all
  walk_at "s"
  refine ⟨Nat.le_of_ble_eq_true rfl, ?_⟩
  walk_at "s"
  refine Nxt.mk ?_
  walk_at "s"
  refine for_map ns Nd.dat rfl (fun j σ st' => ∃ o3 o4 : Option D, σ = [some (.tup (ns.map Nd.dat)), some (.tup (is.map D.int)), some (.ref st.length), o3, o4] ∧ rdL st' st.length ((vals is (ns.take j)).map D.int) ∧ FraG st.length st st') ⟨none, none, rfl, rdL_new, FraG.new⟩ (fun j x σ st' hx ⟨o3, o4, e, h, f⟩ N hN => ?_) (fun σ st' ⟨o3, o4, e, h, f⟩ => ?_)
  · subst e
    refine ⟨trivial, ?_⟩
    obtain ⟨S', G⟩ := S.pre hx
    have F := fits_all is hi S'
    have hlen := vals_len is S'
    have hj : (ns.take j).length ≤ 1000 := by rw [List.length_take]; omega
    have ap : ∀ {st2 : Store} {o4 : Option D} {z : Int}, z = val is (vals is (ns.take j)) x → Grw st' st2 → appendM (.ref st.length) [.int z] st2 fun _ st3 => N [some (.tup (ns.map Nd.dat)), some (.tup (is.map D.int)), some (.ref st.length), some x.dat, o4] st3 := by
      intro st2 o4 z ez g
      have h2 := g.rd h
      refine append_at h2 (by simp [szl]; omega) ?_
      refine hN _ _ ⟨some x.dat, o4, rfl, ?_, (f.more g).setG⟩
      rw [vals_take hx, List.map_append, ez]
      exact rdL_set h2
    have gd : ∀ {a : Nat} {w : Int}, Has ((ns.take j).map Nd.wd) a w → a < (vals is (ns.take j)).length ∧ 0 ≤ (vals is (ns.take j)).getD a 0 ∧ (vals is (ns.take j)).getD a 0 ≤ fullI w := by
      intro a w ha
      obtain ⟨v, e, h0, h1⟩ := F a w ha
      refine ⟨(List.getElem?_eq_some_iff.1 e).1, ?_⟩
      rw [List.getD_eq_getElem?_getD, e]
      exact ⟨h0, h1⟩
    cases x with
    | word w v =>
      walk_at "t"
      refine ⟨ty_at h, ?_⟩
      walk_at "t"
      exact ap rfl (.refl _)
    | inp w i =>
      obtain ⟨w0, w1, hi3⟩ := G
      walk_at "t"
      refine ⟨ty_at h, ?_⟩
      walk_at "t"
      rw [List.length_map]
      refine way (fun hh => ?_) (fun hh => ?_)
      · have h' : i < is.length := by have := of_decide_eq_true hh; omega
        walk_at "t"
        refine ⟨.int (is.getD i 0), ?_, ?_⟩
        · unfold atD
          rw [if_pos (by omega), Int.toNat_natCast, List.getElem?_map, List.getElem?_eq_getElem h', List.getD_eq_getElem?_getD, List.getElem?_eq_getElem h']
          rfl
        · walk_at "t"
          refine ⟨cpow_small (by omega) (by omega), ?_⟩
          walk_at "t"
          rw [full1 w0 w1]
          refine ap ?_ (.refl _)
          exact (if_pos h').symm
      · have h' : ¬ i < is.length := by have := of_decide_eq_false hh; omega
        walk_at "t"
        exact ap (if_neg h').symm (.refl _)
    | one o w a =>
      obtain ⟨w0, w1, ho, u, ha, hu⟩ := G
      walk_at "t"
      refine ⟨(opS_w o).1, by decide +kernel, wayF (opS_w o).2.1 ?_⟩
      walk_at "t"
      refine ⟨(opS_w o).1, by decide +kernel, wayF (opS_w o).2.2 ?_⟩
      walk_at "t"
      refine ⟨ty_at h, ?_⟩
      walk_at "t"
      refine lc_parts [a] h (by simp; exact (gd ha).1) (by simp) (fun _ => trivial) (fun b hb acc N' h3 hN' => ?_) ?_
      · walk_at "t"
        exact ix_refN h3 (by simp at hb; subst hb; exact (gd ha).1) hN'
      · walk_at "t"
        refine rek1 (k := k + 3) ho w0 w1 (gd ha).2.1 rdL_new (fun st2 g => ?_)
        exact ap rfl (Grw.trans (.app (.refl _)) g)
    | two o w a b =>
      obtain ⟨w0, w1, ho, u, v, ha, hb, g1, g2, g3⟩ := G
      walk_at "t"
      refine ⟨(opS_w o).1, by decide +kernel, wayF (opS_w o).2.1 ?_⟩
      walk_at "t"
      refine ⟨(opS_w o).1, by decide +kernel, wayF (opS_w o).2.2 ?_⟩
      walk_at "t"
      have hp : ∀ c' ∈ [a, b], c' < (vals is (ns.take j)).length := by
        intro c' hc'
        simp only [List.mem_cons, List.not_mem_nil, or_false] at hc'
        rcases hc' with rfl | rfl
        · exact (gd ha).1
        · exact (gd hb).1
      refine ⟨ty_at h, ?_⟩
      walk_at "t"
      refine lc_parts [a, b] h hp (by simp) (fun _ => trivial) (fun b' hb' acc N' h3 hN' => ?_) ?_
      · walk_at "t"
        exact ix_refN h3 (hp _ hb') hN'
      · walk_at "t"
        refine rek2 (k := k + 3) ho w0 w1 (gd ha).2.1 (le255 S' ha (gd ha).2.2) (gd hb).2.1 (le255 S' hb (gd hb).2.2) ?_ ?_ rdL_new (fun st2 g => ?_)
        · intro ho'
          rw [← g2 (by rcases ho' with rfl | rfl | rfl | rfl <;> rfl)]
          exact (gd ha).2.2
        · intro ho'
          rw [← g3 (by rcases ho' with rfl | rfl | rfl <;> rfl) (by rcases ho' with rfl | rfl | rfl <;> rfl)]
          exact (gd hb).2.2
        · exact ap rfl (Grw.trans (.app (.refl _)) g)
    | pick w c a b =>
      obtain ⟨w0, w1, hc, ha, hb⟩ := G
      walk_at "s"
      refine at_is rfl ?_
      walk_at "s"
      refine ⟨(opS_w .pick).1, by decide +kernel, wayF (opS_w .pick).2.1 ?_⟩
      walk_at "s"
      refine at_is rfl ?_
      walk_at "s"
      refine ⟨(opS_w .pick).1, by decide +kernel, wayF (opS_w .pick).2.2 ?_⟩
      walk_at "s"
      have hp : ∀ c' ∈ [c, a, b], c' < (vals is (ns.take j)).length := by
        intro c' hc'
        simp only [List.mem_cons, List.not_mem_nil, or_false] at hc'
        rcases hc' with rfl | rfl | rfl
        · exact (gd hc).1
        · exact (gd ha).1
        · exact (gd hb).1
      refine ⟨ty_at h, ?_⟩
      walk_at "t"
      refine lc_parts [c, a, b] h hp (by simp) (fun _ => trivial) (fun b' hb' acc N' h3 hN' => ?_) ?_
      · walk_at "t"
        exact ix_refN h3 (hp _ hb') hN'
      · walk_at "t"
        refine rek3 (k := k + 3) w0 w1 rdL_new ?_
        exact ap rfl (.app (.refl _))
  · subst e
    refine ⟨trivial, ?_⟩
    walk_at "r"
    rw [List.take_length] at h
    exact q _ f h
end Pk30
end PartPdk30P5

section PartPdk30P6
set_option Elab.async false
set_option linter.all false
set_option maxRecDepth 100000
set_option maxHeartbeats 1000000
namespace Pk30
open PySem Pd
local macro_rules | `(tactic| walk_at "s") => `(tactic| (repeat (refine Red.red ?_)))
local macro_rules | `(tactic| walk_at "r") => `(tactic| (repeat (first | refine Red.red ?_ | refine Nxt.mk ?_)))
local macro_rules | `(tactic| walk_at "t") => `(tactic| (repeat (first | refine Red.red ?_ | refine Nxt.mk ?_ | refine ⟨by decide +kernel, by decide +kernel, wayF (by decide +kernel) ?_⟩ | refine ⟨by decide +kernel, by decide +kernel, wayT (by decide +kernel) ?_⟩ | refine ⟨by decide +kernel, ?_⟩ | refine at_is rfl ?_)))
/-! k30, sixth text: `value_of`, `_law_same_values`. Own work. -/
theorem vals_pre (is : List Int) {ns : List Nd} (S : Sheet ns) (j : Nat) : vals is (ns.take j) = (vals is ns).take j := by
  induction S with
  | nil => rw [List.take_nil]; exact (List.take_nil).symm
  | @snoc ns x h g ih =>
    have hl := vals_len is h
    rw [vals_snoc]
    by_cases e : j ≤ ns.length
    · rw [List.take_append_of_le_length e, List.take_append_of_le_length (by omega), ih]
    · rw [List.take_of_length_le (by simp; omega), List.take_of_length_le (by simp; omega), vals_snoc]
theorem Sheet.take {ns : List Nd} (S : Sheet ns) (j : Nat) : Sheet (ns.take j) := by
  by_cases e : j < ns.length
  · exact (S.pre (List.getElem?_eq_getElem e)).1
  · rw [List.take_of_length_le (by omega)]; exact S
theorem at_int {vs : List Int} {t : Nat} (h : t < vs.length) : atD (vs.map D.int) (t : Int) = some (.int (vs.getD t 0)) := by
  unfold atD
  rw [if_pos (by omega), Int.toNat_natCast, List.getElem?_map, List.getElem?_eq_getElem h, List.getD_eq_getElem?_getD, List.getElem?_eq_getElem h]
  rfl
theorem value_ok {m t : Nat} {st : Store} {Q : K} {is : List Int} {ns : List Nd} (hm : 6 ≤ m) (S : Sheet ns) (hi : ∀ i, i ∈ is → 0 ≤ i) (hl : ns.length ≤ 1000) (ht : t < ns.length) (q : ∀ st', FraG st.length st st' → Q (.int ((vals is ns).getD t 0)) st') : callN prog m "value_of" [.tup (ns.map Nd.dat), .tup (is.map D.int), .int t] st Q := by
  obtain ⟨k, rfl⟩ : ∃ n, m = n + 6 := ⟨m - 6, by omega⟩
  refine call_intro rfl rfl ?_
  unfold b_p_value_of
  walk_at "s"
  rw [cut_take _ (by omega), ← List.map_take, show ((t : Int) + 1).toNat = t + 1 by omega]
  refine values_ok (m := k + 5) (by omega) (S.take (t + 1)) hi (by rw [List.length_take]; omega) (fun st' f => ?_)
  walk_at "s"
  have hlen := vals_len is (S.take (t + 1))
  rw [List.length_take] at hlen
  refine ⟨_, at_int (by omega), ?_⟩
  rw [vals_pre is S, List.getD_eq_getElem?_getD, List.getElem?_take_of_lt (by omega), ← List.getD_eq_getElem?_getD]
  walk_at "s"
  exact q _ f
theorem zip_self (vs : List Int) : zipD (vs.map D.int) (vs.map D.int) = vs.map fun v => .tup [.int v, .int v] := by
  induction vs with
  | nil => rfl
  | cons v vs ih => exact congrArg (_ :: ·) ih
theorem same_ok {m n : Nat} {st : Store} {Q : K} {vs : List Int} (hm : 2 ≤ m) (h : rdL st n (vs.map D.int)) (q : Q (.bl true) st) : callN prog m "_law_same_values" [.tup (vs.map D.int), .ref n] st Q := by
  obtain ⟨k, rfl⟩ : ∃ n, m = n + 2 := ⟨m - 2, by omega⟩
  refine call_intro rfl rfl ?_
  unfold b_l_same_values
  walk_at "s"
  refine wayF (by decide) ?_
  walk_at "s"
  refine len_at h ?_
  walk_at "s"
  refine wayF (by simp) ?_
  walk_at "r"
  refine zipTL_at h ?_
  rw [zip_self]
  refine for_map vs (fun v => .tup [.int v, .int v]) rfl (fun j σ st' => st' = st ∧ ∃ o2 o3, σ = [some (.tup (vs.map D.int)), some (.ref n), o2, o3]) ⟨rfl, none, none, rfl⟩ (fun j x σ st' hx ⟨e, o2, o3, e2⟩ N hN => ?_) (fun σ st' ⟨e, o2, o3, e2⟩ => ?_)
  · subst e; subst e2
    refine ⟨.inl h, ?_⟩
    walk_at "s"
    refine ⟨rfl, ?_⟩
    walk_at "s"
    refine isInt_ok (prog := prog) rfl ?_
    walk_at "s"
    refine wayF rfl ?_
    walk_at "s"
    refine wayF (by simp) ?_
    walk_at "s"
    exact hN _ _ ⟨rfl, _, _, rfl⟩
  · subst e; subst e2
    refine ⟨.inl h, ?_⟩
    walk_at "r"
    exact q
end Pk30
end PartPdk30P6

section PartPdk30P7
set_option Elab.async false
set_option linter.all false
set_option maxRecDepth 100000
set_option maxHeartbeats 1000000
namespace Pk30
open PySem Pd
local macro_rules | `(tactic| walk_at "s") => `(tactic| (repeat (refine Red.red ?_)))
local macro_rules | `(tactic| walk_at "r") => `(tactic| (repeat (first | refine Red.red ?_ | refine Nxt.mk ?_)))
local macro_rules | `(tactic| walk_at "t") => `(tactic| (repeat (first | refine Red.red ?_ | refine Nxt.mk ?_ | refine ⟨by decide +kernel, by decide +kernel, wayF (by decide +kernel) ?_⟩ | refine ⟨by decide +kernel, by decide +kernel, wayT (by decide +kernel) ?_⟩ | refine ⟨by decide +kernel, ?_⟩ | refine at_is rfl ?_)))
/-! k30, seventh text: leaves as drawn. Own work. -/
theorem drawM {m : Nat} {st : Store} {Q : K} (hm : 1 ≤ m) {many : Int} (h : DrawAt st) (h0 : 0 < many) (h1 : many < 1073741824) (q : ∀ r st', 0 ≤ r → r < many → Fra st st' → Q (.int r) st') : callN prog m "_law_draw" [.ref 2, .int many] st Q := by
  obtain ⟨m, rfl⟩ : ∃ n, m = n + 1 := ⟨m - 1, by omega⟩
  exact draw_ok rfl h h0 h1 fun r st' r0 r1 f _ => q r st' r0 r1 f
theorem pickF {α : Type} {f : α → D} {xs : List α} {m n : Nat} {st : Store} {Q : K} (hm : 2 ≤ m) (hd : DrawAt st) (h : rdL st n (xs.map f)) (hn : n ≠ 2) (h0 : 0 < xs.length) (h1 : xs.length ≤ 1000) (q : ∀ x st', x ∈ xs → Fra st st' → Q (f x) st') : callN prog m "_law_pick" [.ref 2, .ref n] st Q := by
  obtain ⟨m, rfl⟩ : ∃ n, m = n + 2 := ⟨m - 2, by omega⟩
  refine pick_ok rfl rfl hd h hn (by simpa using h0) (by simp; omega) fun x st' hx f _ => ?_
  obtain ⟨a, ha, rfl⟩ := List.mem_map.mp hx
  exact q a st' ha f
def isLeaf : Nd → Prop
  | .word _ _ => True
  | .inp _ _ => True
  | _ => False
theorem leaf_ok {m : Nat} {st : Store} {Q : K} {w : Int} (hm : 3 ≤ m) (hd : DrawAt st) (w0 : 1 ≤ w) (w1 : w ≤ 8) (q : ∀ x st', (∀ ws, Good ws x) → Fra st st' → Q x.dat st') : callN prog m "_law_leaf_drawn" [.ref 2, .int w] st Q := by
  obtain ⟨k, rfl⟩ : ∃ n, m = n + 3 := ⟨m - 3, by omega⟩
  refine call_intro rfl rfl ?_
  unfold b_l_leaf_drawn
  have hf := full1 w0 w1
  have fb := fullI_bd (w := w) (by omega) w1
  walk_at "s"
  refine drawM (by omega) hd (by omega) (by omega) (fun r1 st1 r1a r1b f1 => ?_)
  walk_at "s"
  refine way (fun e => ?_) (fun e => ?_)
  · walk_at "r"
    refine ⟨cpow_small (by omega) (by omega), ?_⟩
    walk_at "r"
    rw [hf]
    refine ⟨by omega, ?_⟩
    walk_at "r"
    refine drawM (by omega) f1.dr (by omega) (by omega) (fun r2 st2 r2a r2b f2 => ?_)
    walk_at "r"
    refine ⟨Nat.le_of_ble_eq_true rfl, ?_⟩
    walk_at "r"
    refine pickF (f := D.int) (xs := [0, 1, fullI w, fullI w / 2 ^ (1 : Int).toNat, w, r2]) (by omega) (f2.dr.app) rdL_new (by have := f2.dr.lt; omega) (by simp) (by simp) (fun x st3 hx f3 => ?_)
    walk_at "r"
    refine ⟨Nat.le_of_ble_eq_true rfl, ?_⟩
    walk_at "r"
    refine q (.word w x) st3 (fun ws => ⟨w0, w1, ?_⟩) (((f1.trans f2).app).trans f3)
    have hw : 1 ≤ fullI w ∧ w ≤ fullI w := by
      obtain rfl | rfl | rfl | rfl | rfl | rfl | rfl | rfl : w = 1 ∨ w = 2 ∨ w = 3 ∨ w = 4 ∨ w = 5 ∨ w = 6 ∨ w = 7 ∨ w = 8 := by omega
      all_goals decide
    have hh : 0 ≤ fullI w / 2 ^ (1 : Int).toNat ∧ fullI w / 2 ^ (1 : Int).toNat ≤ fullI w := by
      show 0 ≤ fullI w / 2 ∧ fullI w / 2 ≤ fullI w
      omega
    simp only [List.mem_cons, List.not_mem_nil, or_false] at hx
    rcases hx with rfl | rfl | rfl | rfl | rfl | rfl <;> omega
  · walk_at "r"
    refine drawM (by omega) f1.dr (by omega) (by omega) (fun r2 st2 r2a r2b f2 => ?_)
    walk_at "r"
    refine ⟨Nat.le_of_ble_eq_true rfl, ?_⟩
    walk_at "r"
    refine pickF (f := D.int) (xs := [0, 1, 2, 3, r2, 300]) (by omega) (f2.dr.app) rdL_new (by have := f2.dr.lt; omega) (by simp) (by simp) (fun x st3 hx f3 => ?_)
    walk_at "r"
    refine ⟨Nat.le_of_ble_eq_true rfl, ?_⟩
    walk_at "r"
    have hx3 : 0 ≤ x ∧ x ≤ 300 := by
      simp only [List.mem_cons, List.not_mem_nil, or_false] at hx
      rcases hx with rfl | rfl | rfl | rfl | rfl | rfl <;> omega
    have ex : (x.toNat : Int) = x := by omega
    have h9 : Q (.tup [.str (Str.ofString "input"), .int w, .int (x.toNat : Int)]) st3 := q (.inp w x.toNat) st3 (fun ws => ⟨w0, w1, by omega⟩) (((f1.trans f2).app).trans f3)
    rw [ex] at h9
    exact h9
end Pk30
end PartPdk30P7

section PartPdk30P8
set_option Elab.async false
set_option linter.all false
set_option maxRecDepth 100000
set_option maxHeartbeats 1000000
namespace Pk30
open PySem Pd
local macro_rules | `(tactic| walk_at "s") => `(tactic| (repeat (refine Red.red ?_)))
local macro_rules | `(tactic| walk_at "r") => `(tactic| (repeat (first | refine Red.red ?_ | refine Nxt.mk ?_)))
local macro_rules | `(tactic| walk_at "t") => `(tactic| (repeat (first | refine Red.red ?_ | refine Nxt.mk ?_ | refine ⟨by decide +kernel, by decide +kernel, wayF (by decide +kernel) ?_⟩ | refine ⟨by decide +kernel, by decide +kernel, wayT (by decide +kernel) ?_⟩ | refine ⟨by decide +kernel, ?_⟩ | refine at_is rfl ?_)))
/-! k30, eighth text: operations as drawn. Own work. -/
local instance inNew8 {x : D} {xs : List D} {st : Store} {r : Bool → Prop} : Red (inC x (.ref st.length) (st ++ [.lst xs]) r) (x.flat = true ∧ xs.all D.flat = true ∧ r (xs.any fun y => D.eqb y x)) := ⟨fun h => ⟨xs, .inl (by simp [rdL]), h⟩⟩
theorem ix_ref8 {st : Store} {n : Nat} {xs : List D} {d : D} {i : Int} {Q : K} (h : rdL st n xs) (h' : atD xs i = some d) (q : Q d st) : ixK (.ref n) (.int i) st Q := ⟨xs, d, .inl h, h', q⟩
theorem tru_ref {st : Store} {n : Nat} {xs : List D} {r : Bool → Prop} (h : rdL st n xs) (q : r (!xs.isEmpty)) : truK (.ref n) st r := ⟨xs, .inl h, q⟩
theorem seq_J {S S' : TS} {D0 : Ends} {σ : Pd.Env} {st : Store} (J : Pd.Env → Store → Prop) (h : ∀ N : Pd.Env → Store → Prop, (∀ σ' st', J σ' st' → N σ' st') → S { D0 with nx := N } σ st) (hJ : ∀ σ' st', J σ' st' → S' D0 σ' st') : sSeq S S' D0 σ st :=
  h _ fun σ' st' e => Nxt.mk (hJ σ' st' e)
def ops : List Op := [.add, .sub, .mul, .and, .or, .xor, .shl, .shr, .div, .rem, .eq, .ne, .lt, .le, .not, .neg, .wide, .pick]
theorem ops_ok {m : Nat} {st : Store} {Q : K} (hm : 1 ≤ m) (q : Q (.ref st.length) (st ++ [.lst (ops.map fun o => .str (opS o))])) : callN prog m "_law_ops" [] st Q := by
  obtain ⟨k, rfl⟩ : ∃ n, m = n + 1 := ⟨m - 1, by omega⟩
  refine call_intro rfl rfl ?_
  unfold b_l_ops
  walk_at "s"
  refine ⟨Nat.le_of_ble_eq_true rfl, ?_⟩
  exact q
theorem dat_wd (x : Nd) : ∃ s ps, x.dat = .tup (s :: .int x.wd :: ps) := by cases x <;> exact ⟨_, _, rfl⟩
theorem at_nd {ns : List Nd} {a : Nat} (h : a < ns.length) : atD (ns.map Nd.dat) (a : Int) = some (ns[a]).dat := by
  unfold atD
  rw [if_pos (by omega), Int.toNat_natCast, List.getElem?_map, List.getElem?_eq_getElem h]
  rfl
theorem wd_at {x : Nd} {st : Store} {Q : K} (q : Q (.int x.wd) st) : ixK x.dat (.int 1) st Q := by
  obtain ⟨s, ps, e⟩ := dat_wd x
  rw [e]
  exact ⟨.int x.wd, rfl, q⟩
def mates (ns : List Nd) (w : Int) : List Nat := (List.range ns.length).filter fun i => decide (((ns[i]?).map Nd.wd).getD 0 = w)
theorem mate_has {ns : List Nd} {w : Int} {i : Nat} (h : i ∈ mates ns w) : i < ns.length ∧ Has (ns.map Nd.wd) i w := by
  unfold mates at h
  rw [List.mem_filter, List.mem_range] at h
  obtain ⟨h1, h2⟩ := h
  refine ⟨h1, ?_⟩
  unfold Has
  rw [List.getElem?_map]
  rw [List.getElem?_eq_getElem h1] at h2 ⊢
  have := of_decide_eq_true h2
  exact congrArg some this
theorem has_wd {ns : List Nd} {a : Nat} (h : a < ns.length) : Has (ns.map Nd.wd) a (ns[a]).wd := by
  unfold Has
  rw [List.getElem?_map, List.getElem?_eq_getElem h]
  rfl
theorem self_mate {ns : List Nd} {a : Nat} (h : a < ns.length) : a ∈ mates ns (ns[a]).wd := by
  unfold mates
  rw [List.mem_filter, List.mem_range]
  refine ⟨h, ?_⟩
  rw [List.getElem?_eq_getElem h]
  exact decide_eq_true rfl
def n0 (i : Nat) : D := .int (0 + (i : Int))
theorem n0_eq (i : Nat) : n0 i = .int (i : Int) := by unfold n0; rw [Int.zero_add]
theorem lc_mates {te : TE} {tt : TT} {g : TG} {ρ : Pd.Env} {st : Store} {Q : K} {ns : List Nd} (w : Int) (hl : ns.length ≤ 200)
    (hs : ∀ (i : Nat) (hi : i < ns.length) (acc : List D) (N : D → Store → Prop) (M : Store → Prop), (decide ((ns[i]).wd = w) = true → N (n0 i) (st ++ [.lst acc])) → (decide ((ns[i]).wd = w) = false → M (st ++ [.lst acc])) → g (n0 i) ρ (st ++ [.lst acc]) fun ρ2 st2 => tt ρ2 st2 fun b st3 => (b = true → te ρ2 st3 N) ∧ (b = false → M st3))
    (hd : Q (.ref st.length) (st ++ [.lst ((mates ns w).map n0)])) : lcLoop (fun _ => True) g tt te ρ st.length Q (rng 0 (ns.length : Int).toNat) [] (st ++ [.lst []]) := by
  refine lc_filter (List.range ns.length) n0 n0 (fun i => decide (((ns[i]?).map Nd.wd).getD 0 = w)) rfl (by simp [szl]; omega) (fun _ => trivial) (fun i hi acc N M hN hM => ?_) hd
  have h1 := List.mem_range.mp hi
  rw [List.getElem?_eq_getElem h1] at hN hM
  exact hs i h1 acc N M hN hM
theorem node_ok {m n : Nat} {st : Store} {Q : K} {ns : List Nd} (hm : 3 ≤ m) (hd : DrawAt st) (h : rdL st n (ns.map Nd.dat)) (hn : 2 < n) (S : Sheet ns) (h0 : 0 < ns.length) (hl : ns.length ≤ 200) (q : ∀ x st', Good (ns.map Nd.wd) x → Fra st st' → Q x.dat st') : callN prog m "_law_node_drawn" [.ref 2, .ref n] st Q := by
  obtain ⟨k, rfl⟩ : ∃ n, m = n + 3 := ⟨m - 3, by omega⟩
  refine call_intro rfl rfl ?_
  unfold b_l_node_drawn
  walk_at "s"
  refine len_at h ?_
  rw [List.length_map]
  walk_at "s"
  refine Nxt.mk ?_
  refine seq_J (fun σ st' => ∃ near : Int, 1 ≤ near ∧ near ≤ ns.length ∧ Fra st st' ∧ σ = [some (.ref 2), some (.ref n), some (.int near), none, none, none, none, none, none, none]) (fun N hN => ?_) (fun σ st1 ⟨near, n1, n2, f1, e⟩ => ?_)
  · walk_at "s"
    refine drawM (by omega) hd (by omega) (by omega) (fun r st1 ra rb f => ?_)
    walk_at "s"
    refine way (fun e => ?_) (fun e => ?_)
    · walk_at "r"
      refine hN _ _ ⟨_, ?_, ?_, f, rfl⟩ <;> split <;> omega
    · walk_at "r"
      exact hN _ _ ⟨_, by omega, by omega, f, rfl⟩
  subst e
  walk_at "s"
  refine len_at (f1.rd h (by omega)) ?_
  rw [List.length_map]
  walk_at "s"
  refine drawM (by omega) f1.dr (by omega) (by omega) (fun r st2 ra rb f2 => ?_)
  walk_at "r"
  obtain ⟨a, ea⟩ : ∃ a : Nat, (ns.length : Int) - 1 - r = a := ⟨((ns.length : Int) - 1 - r).toNat, by omega⟩
  have ha : a < ns.length := by omega
  rw [ea]
  have f3 := f1.trans f2
  have h2 := f3.rd h (by omega)
  refine ix_ref8 h2 (at_nd ha) ?_
  walk_at "r"
  refine wd_at ?_
  walk_at "r"
  refine len_at h2 ?_
  rw [List.length_map]
  refine ⟨_, rfl, by omega, by omega, ?_⟩
  refine lc_mates (ns[a]).wd hl (fun i hi acc N M hN hM => ?_) ?_
  · rw [n0_eq] at hN ⊢
    walk_at "s"
    refine ix_ref8 (rdL_app h2) (at_nd hi) ?_
    walk_at "s"
    refine wd_at ?_
    walk_at "s"
    exact ⟨fun e => by walk_at "s"; exact hN e, fun e => hM e⟩
  have f4 := f3.app (c := C.lst ((mates ns (ns[a]).wd).map n0))
  have hm1 := rdL_new (st := st2) (xs := (mates ns (ns[a]).wd).map n0)
  generalize st2 ++ [C.lst ((mates ns (ns[a]).wd).map n0)] = st3 at f4 hm1 ⊢
  have h3 := f4.rd h (by omega)
  have l3 := f3.dr.lt
  walk_at "r"
  refine len_at h3 ?_
  rw [List.length_map]
  refine ⟨_, rfl, by omega, by omega, ?_⟩
  refine lc_mates 1 hl (fun i hi acc N M hN hM => ?_) ?_
  · rw [n0_eq] at hN ⊢
    walk_at "s"
    refine ix_ref8 (rdL_app h3) (at_nd hi) ?_
    walk_at "s"
    refine wd_at ?_
    walk_at "s"
    exact ⟨fun e => by walk_at "s"; exact hN e, fun e => hM e⟩
  have f5 := f4.app (c := C.lst ((mates ns 1).map n0))
  have hm2 := rdL_app (c := C.lst ((mates ns 1).map n0)) hm1
  have hb2 := rdL_new (st := st3) (xs := (mates ns 1).map n0)
  have l4 := f4.dr.lt
  generalize st3 ++ [C.lst ((mates ns 1).map n0)] = st4 at f5 hm2 hb2 ⊢
  walk_at "r"
  refine ops_ok (by omega) ?_
  walk_at "s"
  refine pickF (f := fun o => D.str (opS o)) (xs := ops) (by omega) (f5.dr.app) rdL_new (by have := f5.dr.lt; omega) (by decide) (by decide) (fun o st5 ho f6 => ?_)
  have f7 := f5.app.trans f6
  have hm3 := f6.rd (rdL_app hm2) (by omega)
  have hb3 := f6.rd (rdL_app hb2) (by omega)
  have h5 := f7.rd h (by omega)
  have hw := S.wid a _ (has_wd ha)
  have tn : ∀ {b : Int}, 0 ≤ b → b < ns.length → ∃ c : Nat, b = c ∧ c < ns.length := fun {b} b0 b1 => ⟨b.toNat, by omega, by omega⟩
  have mw : ∀ {i : Nat}, i ∈ mates ns (ns[a]).wd → Has (ns.map Nd.wd) i (ns[a]).wd := fun hi => (mate_has hi).2
  have ml : ∀ w, (mates ns w).length ≤ 1000 := fun w => by
    have := List.length_filter_le (fun i => decide (((ns[i]?).map Nd.wd).getD 0 = w)) (List.range ns.length)
    rw [List.length_range] at this
    unfold mates
    omega
  have mp : 0 < (mates ns (ns[a]).wd).length := List.length_pos_of_mem (self_mate ha)
  cases o
  case not =>
    unfold opS; walk_at "t"
    refine ⟨Nat.le_of_ble_eq_true rfl, ?_⟩
    exact q (.one .not _ a) _ ⟨hw.1, hw.2, rfl, _, has_wd ha, fun _ => rfl⟩ f7.app
  case neg =>
    unfold opS; walk_at "t"
    refine ⟨Nat.le_of_ble_eq_true rfl, ?_⟩
    exact q (.one .neg _ a) _ ⟨hw.1, hw.2, rfl, _, has_wd ha, fun _ => rfl⟩ f7.app
  case wide =>
    unfold opS; walk_at "t"
    refine drawM (by omega) (f7.app).dr (by omega) (by omega) (fun r9 st9 r9a r9b f9 => ?_)
    walk_at "t"
    refine ⟨Nat.le_of_ble_eq_true rfl, ?_⟩
    exact q (.one .wide _ a) _ ⟨by show 1 ≤ 1 + r9; omega, by show 1 + r9 ≤ 8; omega, rfl, _, has_wd ha, fun hh => absurd rfl hh⟩ ((f7.app).trans f9)
  case shl =>
    unfold opS; walk_at "t"
    refine len_at (rdL_app (rdL_app h5)) ?_
    rw [List.length_map]
    walk_at "t"
    refine drawM (by omega) (f7.app.app).dr (by omega) (by omega) (fun r9 st9 r9a r9b f9 => ?_)
    walk_at "t"
    obtain ⟨b, eb, hb⟩ := tn r9a r9b
    subst eb
    refine ⟨Nat.le_of_ble_eq_true rfl, ?_⟩
    exact q (.two .shl _ a b) _ ⟨hw.1, hw.2, rfl, _, _, has_wd ha, has_wd hb, fun h => (by cases h), fun _ => rfl, fun _ h => (by cases h)⟩ ((f7.app.app).trans f9)
  case shr =>
    unfold opS; walk_at "t"
    refine len_at (rdL_app (rdL_app h5)) ?_
    rw [List.length_map]
    walk_at "t"
    refine drawM (by omega) (f7.app.app).dr (by omega) (by omega) (fun r9 st9 r9a r9b f9 => ?_)
    walk_at "t"
    obtain ⟨b, eb, hb⟩ := tn r9a r9b
    subst eb
    refine ⟨Nat.le_of_ble_eq_true rfl, ?_⟩
    exact q (.two .shr _ a b) _ ⟨hw.1, hw.2, rfl, _, _, has_wd ha, has_wd hb, fun h => (by cases h), fun _ => rfl, fun _ h => (by cases h)⟩ ((f7.app.app).trans f9)
  case add =>
    unfold opS; walk_at "t"
    refine pickF (n := st2.length) (f := n0) (xs := mates ns (ns[a]).wd) (by omega) (f7.app.app).dr (rdL_app (rdL_app hm3)) (by omega) mp (ml _) (fun b st9 hb f9 => ?_)
    rw [n0_eq]
    walk_at "t"
    refine ⟨Nat.le_of_ble_eq_true rfl, ?_⟩
    exact q (.two .add _ a b) _ ⟨hw.1, hw.2, rfl, _, _, has_wd ha, mw hb, fun h => (by cases h), fun _ => rfl, fun _ _ => rfl⟩ ((f7.app.app.trans f9).app)
  case sub =>
    unfold opS; walk_at "t"
    refine pickF (n := st2.length) (f := n0) (xs := mates ns (ns[a]).wd) (by omega) (f7.app.app).dr (rdL_app (rdL_app hm3)) (by omega) mp (ml _) (fun b st9 hb f9 => ?_)
    rw [n0_eq]
    walk_at "t"
    refine ⟨Nat.le_of_ble_eq_true rfl, ?_⟩
    exact q (.two .sub _ a b) _ ⟨hw.1, hw.2, rfl, _, _, has_wd ha, mw hb, fun h => (by cases h), fun _ => rfl, fun _ _ => rfl⟩ ((f7.app.app.trans f9).app)
  case mul =>
    unfold opS; walk_at "t"
    refine pickF (n := st2.length) (f := n0) (xs := mates ns (ns[a]).wd) (by omega) (f7.app.app).dr (rdL_app (rdL_app hm3)) (by omega) mp (ml _) (fun b st9 hb f9 => ?_)
    rw [n0_eq]
    walk_at "t"
    refine ⟨Nat.le_of_ble_eq_true rfl, ?_⟩
    exact q (.two .mul _ a b) _ ⟨hw.1, hw.2, rfl, _, _, has_wd ha, mw hb, fun h => (by cases h), fun _ => rfl, fun _ _ => rfl⟩ ((f7.app.app.trans f9).app)
  case and =>
    unfold opS; walk_at "t"
    refine pickF (n := st2.length) (f := n0) (xs := mates ns (ns[a]).wd) (by omega) (f7.app.app).dr (rdL_app (rdL_app hm3)) (by omega) mp (ml _) (fun b st9 hb f9 => ?_)
    rw [n0_eq]
    walk_at "t"
    refine ⟨Nat.le_of_ble_eq_true rfl, ?_⟩
    exact q (.two .and _ a b) _ ⟨hw.1, hw.2, rfl, _, _, has_wd ha, mw hb, fun h => (by cases h), fun _ => rfl, fun _ _ => rfl⟩ ((f7.app.app.trans f9).app)
  case or =>
    unfold opS; walk_at "t"
    refine pickF (n := st2.length) (f := n0) (xs := mates ns (ns[a]).wd) (by omega) (f7.app.app).dr (rdL_app (rdL_app hm3)) (by omega) mp (ml _) (fun b st9 hb f9 => ?_)
    rw [n0_eq]
    walk_at "t"
    refine ⟨Nat.le_of_ble_eq_true rfl, ?_⟩
    exact q (.two .or _ a b) _ ⟨hw.1, hw.2, rfl, _, _, has_wd ha, mw hb, fun h => (by cases h), fun _ => rfl, fun _ _ => rfl⟩ ((f7.app.app.trans f9).app)
  case xor =>
    unfold opS; walk_at "t"
    refine pickF (n := st2.length) (f := n0) (xs := mates ns (ns[a]).wd) (by omega) (f7.app.app).dr (rdL_app (rdL_app hm3)) (by omega) mp (ml _) (fun b st9 hb f9 => ?_)
    rw [n0_eq]
    walk_at "t"
    refine ⟨Nat.le_of_ble_eq_true rfl, ?_⟩
    exact q (.two .xor _ a b) _ ⟨hw.1, hw.2, rfl, _, _, has_wd ha, mw hb, fun h => (by cases h), fun _ => rfl, fun _ _ => rfl⟩ ((f7.app.app.trans f9).app)
  case div =>
    unfold opS; walk_at "t"
    refine pickF (n := st2.length) (f := n0) (xs := mates ns (ns[a]).wd) (by omega) (f7.app.app).dr (rdL_app (rdL_app hm3)) (by omega) mp (ml _) (fun b st9 hb f9 => ?_)
    rw [n0_eq]
    walk_at "t"
    refine ⟨Nat.le_of_ble_eq_true rfl, ?_⟩
    exact q (.two .div _ a b) _ ⟨hw.1, hw.2, rfl, _, _, has_wd ha, mw hb, fun h => (by cases h), fun _ => rfl, fun _ _ => rfl⟩ ((f7.app.app.trans f9).app)
  case rem =>
    unfold opS; walk_at "t"
    refine pickF (n := st2.length) (f := n0) (xs := mates ns (ns[a]).wd) (by omega) (f7.app.app).dr (rdL_app (rdL_app hm3)) (by omega) mp (ml _) (fun b st9 hb f9 => ?_)
    rw [n0_eq]
    walk_at "t"
    refine ⟨Nat.le_of_ble_eq_true rfl, ?_⟩
    exact q (.two .rem _ a b) _ ⟨hw.1, hw.2, rfl, _, _, has_wd ha, mw hb, fun h => (by cases h), fun _ => rfl, fun _ _ => rfl⟩ ((f7.app.app.trans f9).app)
  case eq =>
    unfold opS; walk_at "t"
    refine pickF (n := st2.length) (f := n0) (xs := mates ns (ns[a]).wd) (by omega) (f7.app.app).dr (rdL_app (rdL_app hm3)) (by omega) mp (ml _) (fun b st9 hb f9 => ?_)
    rw [n0_eq]
    walk_at "t"
    refine ⟨Nat.le_of_ble_eq_true rfl, ?_⟩
    exact q (.two .eq 1 a b) _ ⟨by omega, by omega, rfl, _, _, has_wd ha, mw hb, fun _ => rfl, fun h => (by cases h), fun h => (by cases h)⟩ ((f7.app.app.trans f9).app)
  case ne =>
    unfold opS; walk_at "t"
    refine pickF (n := st2.length) (f := n0) (xs := mates ns (ns[a]).wd) (by omega) (f7.app.app).dr (rdL_app (rdL_app hm3)) (by omega) mp (ml _) (fun b st9 hb f9 => ?_)
    rw [n0_eq]
    walk_at "t"
    refine ⟨Nat.le_of_ble_eq_true rfl, ?_⟩
    exact q (.two .ne 1 a b) _ ⟨by omega, by omega, rfl, _, _, has_wd ha, mw hb, fun _ => rfl, fun h => (by cases h), fun h => (by cases h)⟩ ((f7.app.app.trans f9).app)
  case lt =>
    unfold opS; walk_at "t"
    refine pickF (n := st2.length) (f := n0) (xs := mates ns (ns[a]).wd) (by omega) (f7.app.app).dr (rdL_app (rdL_app hm3)) (by omega) mp (ml _) (fun b st9 hb f9 => ?_)
    rw [n0_eq]
    walk_at "t"
    refine ⟨Nat.le_of_ble_eq_true rfl, ?_⟩
    exact q (.two .lt 1 a b) _ ⟨by omega, by omega, rfl, _, _, has_wd ha, mw hb, fun _ => rfl, fun h => (by cases h), fun h => (by cases h)⟩ ((f7.app.app.trans f9).app)
  case le =>
    unfold opS; walk_at "t"
    refine pickF (n := st2.length) (f := n0) (xs := mates ns (ns[a]).wd) (by omega) (f7.app.app).dr (rdL_app (rdL_app hm3)) (by omega) mp (ml _) (fun b st9 hb f9 => ?_)
    rw [n0_eq]
    walk_at "t"
    refine ⟨Nat.le_of_ble_eq_true rfl, ?_⟩
    exact q (.two .le 1 a b) _ ⟨by omega, by omega, rfl, _, _, has_wd ha, mw hb, fun _ => rfl, fun h => (by cases h), fun h => (by cases h)⟩ ((f7.app.app.trans f9).app)
  case pick =>
    unfold opS; walk_at "t"
    refine pickF (n := st2.length) (f := n0) (xs := mates ns (ns[a]).wd) (by omega) (f7.app.app).dr (rdL_app (rdL_app hm3)) (by omega) mp (ml _) (fun b st9 hb f9 => ?_)
    rw [n0_eq]
    walk_at "t"
    have f10 := f7.app.app.trans f9
    have hb4 := f9.rd (rdL_app (rdL_app hb3)) (by omega)
    refine tru_ref hb4 ?_
    refine way (fun e => ?_) (fun e => ?_)
    · have e1 : 0 < (mates ns 1).length := by
        cases hh : mates ns 1 with
        | nil => rw [hh] at e; cases e
        | cons => simp
      walk_at "t"
      refine pickF (n := st3.length) (f := n0) (xs := mates ns 1) (by omega) f10.dr hb4 (by omega) e1 (ml _) (fun c st10 hc f11 => ?_)
      rw [n0_eq]
      walk_at "t"
      refine ⟨Nat.le_of_ble_eq_true rfl, ?_⟩
      exact q (.pick _ c a b) _ ⟨hw.1, hw.2, (mate_has hc).2, has_wd ha, mw hb⟩ (f10.trans f11)
    · walk_at "t"
      refine ⟨Nat.le_of_ble_eq_true rfl, ?_⟩
      exact q (.two .eq 1 a b) _ ⟨by omega, by omega, rfl, _, _, has_wd ha, mw hb, fun _ => rfl, fun h => (by cases h), fun h => (by cases h)⟩ f10.app
end Pk30
end PartPdk30P8

section PartPdk30P9
set_option Elab.async false
set_option linter.all false
set_option maxRecDepth 100000
set_option maxHeartbeats 1000000
namespace Pk30
open PySem Pd
local macro_rules | `(tactic| walk_at "s") => `(tactic| (repeat (refine Red.red ?_)))
local macro_rules | `(tactic| walk_at "r") => `(tactic| (repeat (first | refine Red.red ?_ | refine Nxt.mk ?_)))
local macro_rules | `(tactic| walk_at "t") => `(tactic| (repeat (first | refine Red.red ?_ | refine Nxt.mk ?_ | refine ⟨by decide +kernel, by decide +kernel, wayF (by decide +kernel) ?_⟩ | refine ⟨by decide +kernel, by decide +kernel, wayT (by decide +kernel) ?_⟩ | refine ⟨by decide +kernel, ?_⟩ | refine at_is rfl ?_)))
/-! k30, ninth text: sheets as drawn. Own work. -/
theorem opS_ok (o : Op) : okS (opS o) = true := by cases o <;> decide +kernel
theorem dat_ok (x : Nd) : D.okd 60 x.dat = true := by
  have hw : okS (Str.ofString "word") = true := by decide +kernel
  have hi : okS (Str.ofString "input") = true := by decide +kernel
  cases x <;> simp [Nd.dat, D.okd, okds, opS_ok, hw, hi]
theorem dats_ok (ns : List Nd) : okds 60 (ns.map Nd.dat) = true := by
  rw [okds_all, List.all_eq_true]
  intro d hd
  obtain ⟨x, _, rfl⟩ := List.mem_map.mp hd
  exact dat_ok x
theorem notin_at {st : Store} {n : Nat} {xs : List D} {x : D} {r : Bool → Prop} (h : rdL st n xs) (hx : D.okd 60 x = true) (hxs : okds 60 xs = true) (q : r (!(xs.any fun y => D.eqb y x))) : notinDC x (.ref n) st r := ⟨xs, .inl h, hx, hxs, q⟩
def putS : TS := sIf (tTru (dCmp notinDC (dVar 7) (dVar 5))) (sExpr (dM tyLst appendM (dVar 5) (aCons (dVar 7) (aNil)))) (sNext)
theorem put_step {p : Nat} {st0 st : Store} {ns : List Nd} {x : Nd} {D0 : Ends} {a b c d e f : Option D} (f0 : Fra st0 st) (hp : st0.length ≤ p) (h2 : 2 < p) (h : rdL st p (ns.map Nd.dat)) (hl : ns.length ≤ 1000)
    (q : ∀ ns' st', (ns' = ns ∧ ns ≠ [] ∨ ns' = ns ++ [x]) → rdL st' p (ns'.map Nd.dat) → Fra st0 st' → D0.nx [a, b, c, d, e, some (.ref p), f, some x.dat] st') : putS D0 [a, b, c, d, e, some (.ref p), f, some x.dat] st := by
  unfold putS
  walk_at "s"
  refine notin_at h (dat_ok x) (dats_ok ns) ?_
  walk_at "s"
  refine way (fun hb => ?_) (fun hb => ?_)
  · walk_at "s"
    refine ⟨ty_at h, ?_⟩
    walk_at "s"
    refine append_at h (by simp [szl]; omega) ?_
    walk_at "s"
    refine q (ns ++ [x]) _ (.inr rfl) ?_ (f0.set hp h2)
    rw [List.map_append]
    exact rdL_set h
  · walk_at "s"
    refine q ns _ (.inl ⟨rfl, ?_⟩) h f0
    intro e0
    subst e0
    cases hb
theorem sheet_ok {m : Nat} {st : Store} {Q : K} {lv mn : Int} (hm : 4 ≤ m) (hd : DrawAt st) (l0 : 0 ≤ lv) (l1 : lv ≤ 60) (m0 : 0 ≤ mn) (m1 : mn ≤ 60) (q : ∀ ns st', Sheet ns → (ns.length : Int) ≤ lv + mn → (0 < lv → 0 < ns.length) → Fra st st' → Q (.tup (ns.map Nd.dat)) st') : callN prog m "_law_sheet_drawn" [.ref 2, .int lv, .int mn] st Q := by
  obtain ⟨k, rfl⟩ : ∃ n, m = n + 4 := ⟨m - 4, by omega⟩
  refine call_intro rfl rfl ?_
  unfold b_l_sheet_drawn
  walk_at "s"
  refine drawM (by omega) hd (by omega) (by omega) (fun w1 st1 w1a w1b f1 => ?_)
  walk_at "r"
  refine drawM (by omega) f1.dr (by omega) (by omega) (fun w2 st2 w2a w2b f2 => ?_)
  have f3 := f1.trans f2
  have lt2 := f3.dr.lt
  walk_at "r"
  refine ⟨by simp [szl], ?_⟩
  walk_at "r"
  refine ⟨by omega, by omega, ?_⟩
  refine for_rng (fun j σ st' => ∃ ns o6 o7, σ = [some (.ref 2), some (.int lv), some (.int mn), some (.int (1 + w1)), some (.int (1 + w2)), some (.ref st2.length), o6, o7] ∧ Sheet ns ∧ ns.length ≤ j ∧ (0 < j → 0 < ns.length) ∧ rdL st' st2.length (ns.map Nd.dat) ∧ Fra st2 st') ⟨[], none, none, rfl, .nil, Nat.le_refl _, fun h => h, rdL_new, (Fra.refl f3.dr).app⟩ (fun j σ st' hj ⟨ns, o6, o7, e, S, hl, hne, hr, f⟩ N hN => ?_) (fun σ st' ⟨ns, o6, o7, e, S, hl, hne, hr, f⟩ => ?_)
  · subst e
    refine ⟨trivial, ?_⟩
    walk_at "r"
    refine ⟨Nat.le_of_ble_eq_true rfl, ?_⟩
    walk_at "r"
    refine pickF (f := D.int) (xs := [1 + w1, 1 + w1, 1 + w2, 1]) (by omega) f.dr.app rdL_new (by have := f.dr.lt; omega) (by simp) (by simp) (fun w st5 hw f5 => ?_)
    have hw8 : 1 ≤ w ∧ w ≤ 8 := by
      simp only [List.mem_cons, List.not_mem_nil, or_false] at hw
      rcases hw with rfl | rfl | rfl | rfl <;> omega
    walk_at "r"
    refine leaf_ok (by omega) f5.dr hw8.1 hw8.2 (fun x st6 hx f6 => ?_)
    walk_at "s"
    refine Nxt.mk ?_
    have f7 := ((f.app).trans f5).trans f6
    refine put_step (st0 := st2) (x := x) f7 (Nat.le_refl _) lt2 (f6.rd (f5.rd (rdL_app hr) (by omega)) (by omega)) (by omega) (fun ns' st8 hn' hr' f8 => ?_)
    refine hN _ _ ⟨ns', _, _, rfl, ?_, ?_, ?_, hr', f8⟩
    · rcases hn' with ⟨rfl, _⟩ | rfl
      · exact S
      · exact .snoc S (hx _)
    · rcases hn' with ⟨rfl, _⟩ | rfl
      · omega
      · rw [List.length_append, List.length_singleton]; omega
    · intro _
      rcases hn' with ⟨rfl, hh⟩ | rfl
      · exact List.length_pos_iff.mpr hh
      · simp
  · subst e
    refine ⟨trivial, ?_⟩
    walk_at "r"
    refine tru_ref hr ?_
    rw [show (List.map Nd.dat ns).isEmpty = ns.isEmpty by cases ns <;> rfl]
    have hne0 : 0 < lv → 0 < ns.length := fun h => hne (by omega)
    have goal2 : ∀ mm : Int, 0 ≤ mm → mm ≤ mn → (0 < mm → 0 < ns.length) → forLoop (fun _ => True) (gName 6) (sSeq (sAsg (dCall (callN prog (k + 3)) "_law_node_drawn" (aCons (dVar 0) (aCons (dVar 5) (aNil)))) (gName 7)) putS) { nx := fun σ' st' => Nxt ((sRet (dB tupleB (aCons (dVar 5) (aNil)))) { nx := fun _ st' => Q .non st', rt := Q } σ' st'), rt := Q } (rng 0 mm.toNat) [some (.ref 2), some (.int lv), some (.int mn), some (.int (1 + w1)), some (.int (1 + w2)), some (.ref st2.length), o6, o7] st' := by
      intro mm mm0 mm1 mmp
      refine for_rng (fun j σ st' => ∃ ns o6 o7, σ = [some (.ref 2), some (.int lv), some (.int mn), some (.int (1 + w1)), some (.int (1 + w2)), some (.ref st2.length), o6, o7] ∧ Sheet ns ∧ ns.length ≤ lv + j ∧ (0 < lv ∨ 0 < mm → 0 < ns.length) ∧ rdL st' st2.length (ns.map Nd.dat) ∧ Fra st2 st') ⟨ns, o6, o7, rfl, S, by omega, fun h => h.elim hne0 mmp, hr, f⟩ (fun j σ st' hj ⟨ns, o6, o7, e, S, hl, hne, hr, f⟩ N hN => ?_) (fun σ st' ⟨ns, o6, o7, e, S, hl, hne, hr, f⟩ => ?_)
      · subst e
        refine ⟨trivial, ?_⟩
        have hpos : 0 < ns.length := hne (.inr (by omega))
        walk_at "r"
        refine node_ok (by omega) f.dr hr lt2 S hpos (by omega) (fun x st6 hx f6 => ?_)
        walk_at "s"
        refine Nxt.mk ?_
        refine put_step (st0 := st2) (x := x) (f.trans f6) (Nat.le_refl _) lt2 (f6.rd hr (by omega)) (by omega) (fun ns' st8 hn' hr' f8 => ?_)
        refine hN _ _ ⟨ns', _, _, rfl, ?_, ?_, ?_, hr', f8⟩
        · rcases hn' with ⟨rfl, _⟩ | rfl
          · exact S
          · exact .snoc S hx
        · rcases hn' with ⟨rfl, _⟩ | rfl
          · omega
          · rw [List.length_append, List.length_singleton]; omega
        · intro _
          rcases hn' with ⟨rfl, hh⟩ | rfl
          · exact hpos
          · simp
      · subst e
        refine ⟨trivial, ?_⟩
        walk_at "r"
        refine tuple_at hr ?_
        exact q ns st' S (by omega) (fun h => hne (.inl h)) (f3.trans f)
    refine way (fun e => ?_) (fun e => ?_)
    · have hp : 0 < ns.length := by cases ns with | nil => cases e | cons => simp
      walk_at "r"
      refine ⟨by omega, by omega, ?_⟩
      exact goal2 mn m0 (Int.le_refl _) (fun _ => hp)
    · walk_at "r"
      refine ⟨by omega, by omega, ?_⟩
      exact goal2 0 (Int.le_refl _) m0 (fun h => absurd h (by omega))
/-! the law -/
structure Ask where
  ns : List Nd
  is : List Int
  sp : Nat
  cell : Nat
def Ask.dat (a : Ask) : D := .tup [.tup (a.ns.map Nd.dat), .tup (a.is.map D.int), .int a.sp, .ref a.cell]
structure Ask.Ok (p : Nat) (st : Store) (a : Ask) : Prop where
  sh : Sheet a.ns
  ln : a.ns.length ≤ 100
  nn : ∀ i ∈ a.is, 0 ≤ i
  spt : 0 < a.ns.length → a.sp < a.ns.length
  rd : rdL st a.cell ((vals a.is a.ns).map D.int)
  big : 2 < a.cell
  ne : a.cell ≠ p
theorem Ask.Ok.fra {p : Nat} {st st' : Store} {a : Ask} (h : a.Ok p st) (f : Fra st st') : a.Ok p st' := ⟨h.sh, h.ln, h.nn, h.spt, f.rd h.rd (by have := h.big; omega), h.big, h.ne⟩
theorem Ask.Ok.setP {p : Nat} {st : Store} {a : Ask} {c : C} (h : a.Ok p st) : a.Ok p (st.set p c) := ⟨h.sh, h.ln, h.nn, h.spt, rdL_ne h.rd h.ne, h.big, h.ne⟩
theorem neI {i : Int} {st : Store} {r : Bool → Prop} (q : r false) : neC (.int i) (.int i) st r := ne_self (by simp [D.okd]) (by intro n h; cases h) q
theorem law_holds (ns : List Int) (hl : ns.length ≤ 63) (hb : ∀ z ∈ ns, PySem.Builtin.Int.intBits z ≤ 1048576) : callN prog 61 "law" [.ref 0] [.frz (ns.map D.int)] (fun d _ => d = .bl true) := by
  refine call_intro rfl rfl ?_
  unfold b_l_law
  walk_at "s"
  refine begin_ok rfl hl fun st1 hd1 hl1 => ?_
  walk_at "r"
  refine ⟨by simp [szl], ?_⟩
  walk_at "r"
  refine ⟨by decide, by decide, ?_⟩
  have hp3 : st1.length = 3 := hl1
  refine for_rng (fun j σ st' => ∃ as y3 y4 y5 y6 y7 y8 y9 y10 y11 y12, σ = [some (.ref 0), some (.ref 2), some (.ref 3), y3, y4, y5, y6, y7, y8, y9, y10, y11, y12] ∧ DrawAt st' ∧ as.length ≤ 3 * j ∧ (∀ a ∈ as, Ask.Ok 3 st' a) ∧ rdL st' 3 (as.map Ask.dat)) ⟨[], none, none, none, none, none, none, none, none, none, none, by rw [hp3], hd1.app, by simp, by simp, by rw [← hp3]; exact rdL_new⟩ (fun j σ st2 hj ⟨as, y3, y4, y5, y6, y7, y8, y9, y10, y11, y12, e, hd2, hal, ha, hr⟩ N hN => ?_) (fun σ st2 ⟨as, y3, y4, y5, y6, y7, y8, y9, y10, y11, y12, e, hd2, hal, ha, hr⟩ => ?_)
  · subst e
    refine ⟨trivial, ?_⟩
    walk_at "r"
    refine drawM (by omega) hd2 (by omega) (by omega) (fun lv st3 l0 l1 f3 => ?_)
    walk_at "s"
    refine Nxt.mk ?_
    refine seq_J (fun σ st' => ∃ lv : Int, 0 ≤ lv ∧ lv ≤ 20 ∧ Fra st2 st' ∧ σ = [some (.ref 0), some (.ref 2), some (.ref 3), some (.int (0 + (j : Int))), some (.int lv), y5, y6, y7, y8, y9, y10, y11, y12]) (fun N' hN' => ?_) (fun σ st4 ⟨lv, l0, l1, f4, e⟩ => ?_)
    · walk_at "s"
      refine rareK_ok (k := 58) rfl rfl f3.dr (by omega) (by omega) fun b st4 f4 _ => ?_
      walk_at "s"
      refine way (fun e => ?_) (fun e => ?_)
      · walk_at "s"
        exact hN' _ _ ⟨0, by omega, by omega, f3.trans f4, rfl⟩
      · walk_at "s"
        exact hN' _ _ ⟨1 + lv, by omega, by omega, f3.trans f4, rfl⟩
    · subst e
      walk_at "s"
      refine drawM (by omega) f4.dr (by omega) (by omega) (fun mn st5 m0 m1 f5 => ?_)
      walk_at "s"
      refine sheet_ok (by omega) f5.dr l0 (by omega) m0 (by omega) (fun xs st6 S hlen _ f6 => ?_)
      walk_at "r"
      refine ⟨by decide, by decide, ?_⟩
      have f7 := (f4.trans f5).trans f6
      refine for_rng (fun i σ st' => ∃ as y6 y7 y8 y9 y10 y11 y12, σ = [some (.ref 0), some (.ref 2), some (.ref 3), some (.int (0 + (j : Int))), some (.int lv), some (.tup (xs.map Nd.dat)), y6, y7, y8, y9, y10, y11, y12] ∧ DrawAt st' ∧ as.length ≤ 3 * j + i ∧ (∀ a ∈ as, Ask.Ok 3 st' a) ∧ rdL st' 3 (as.map Ask.dat)) ⟨as, y6, y7, y8, y9, y10, y11, y12, rfl, f7.dr, by omega, fun a h => (ha a h).fra f7, f7.rd hr (by omega)⟩ (fun i σ st8 hi ⟨as, y6, y7, y8, y9, y10, y11, y12, e, hd8, hal, ha, hr⟩ N' hN' => ?_) (fun σ st8 ⟨as, y6, y7, y8, y9, y10, y11, y12, e, hd8, hal, ha, hr⟩ => ?_)
      · subst e
        refine ⟨trivial, ?_⟩
        walk_at "s"
        refine drawM (by omega) hd8 (by omega) (by omega) (fun nw st9 n0 n1 f9 => ?_)
        walk_at "s"
        refine ⟨by omega, by omega, ?_⟩
        refine lc_ints (fun i => 0 ≤ i) f9.dr (by simp [rng, szl]; omega) (fun _ _ => trivial) (fun x hx st10 f10 N2 hN2 => ?_) (fun rs st10 hrl hrs f10 h10 => ?_)
        · obtain ⟨x, rfl⟩ : ∃ z : Int, x = .int z := by
            unfold rng at hx
            obtain ⟨z, _, rfl⟩ := List.mem_map.mp hx
            exact ⟨_, rfl⟩
          walk_at "s"
          refine drawM (by omega) f10.dr (by omega) (by omega) (fun r st11 r0 r1 f11 => ?_)
          walk_at "s"
          refine ⟨Nat.le_of_ble_eq_true rfl, ?_⟩
          refine pickF (f := D.int) (xs := [0, 1, 255, 128, r]) (by omega) f11.dr.app rdL_new (by have := f11.dr.lt; omega) (by simp) (by simp) (fun w st12 hw f12 => ?_)
          refine hN2 _ _ ?_ ((f11.app).trans f12)
          simp only [List.mem_cons, List.not_mem_nil, or_false] at hw
          rcases hw with rfl | rfl | rfl | rfl | rfl <;> omega
        · walk_at "s"
          refine tuple_at h10 ?_
          have f11 := f9.trans f10
          walk_at "r"
          rw [List.length_map]
          have hmx : 0 < (if (xs.length : Int) > 1 then (xs.length : Int) else 1) ∧ (if (xs.length : Int) > 1 then (xs.length : Int) else 1) ≤ xs.length + 1 := by split <;> omega
          have hmx2 : 0 < xs.length → (if (xs.length : Int) > 1 then (xs.length : Int) else 1) ≤ xs.length := by intro _; split <;> omega
          refine drawM (by omega) f11.dr hmx.1 (by omega) (fun sp st12 s0 s1 f12 => ?_)
          walk_at "r"
          have f13 := f11.trans f12
          refine ⟨ty_at (f13.rd hr (by omega)), ?_⟩
          walk_at "s"
          have lt12 := f13.dr.lt
          refine all_ok (by omega) S hrs (by omega) (fun st14 f14 h14 => ?_)
          walk_at "s"
          refine ⟨Nat.le_of_ble_eq_true rfl, ?_⟩
          walk_at "s"
          have f15 : Fra st8 st14 := f13.trans (f14.grw.fra f13.dr)
          refine append_at (f15.rd hr (by omega)) (by simp [szl]; omega) ?_
          walk_at "s"
          have h3 := rdL_lt hr
          refine hN' _ _ ⟨as ++ [⟨xs, rs, sp.toNat, st12.length⟩], _, _, _, _, _, _, _, rfl, f15.dr.set (by omega), by rw [List.length_append, List.length_singleton]; omega, ?_, ?_⟩
          · intro a hmem
            rcases List.mem_append.mp hmem with hmem | hmem
            · exact ((ha a hmem).fra f15).setP
            · rw [List.mem_singleton] at hmem
              subst hmem
              have l12 := f13.le
              exact (Ask.Ok.setP ⟨S, by show xs.length ≤ 100; omega, hrs, fun h => by have := hmx2 h; show sp.toNat < xs.length; omega, h14, lt12, by show st12.length ≠ 3; omega⟩)
          · rw [List.map_append]
            have e9 : Ask.dat ⟨xs, rs, sp.toNat, st12.length⟩ = .tup [.tup (xs.map Nd.dat), .tup (rs.map D.int), .int sp, .ref st12.length] := by
              unfold Ask.dat
              rw [show ((sp.toNat : Nat) : Int) = sp by omega]
            rw [List.map_singleton, e9]
            exact rdL_set (f15.rd hr (by omega))
      · subst e
        refine ⟨trivial, ?_⟩
        exact hN _ _ ⟨as, _, _, _, _, _, _, _, _, _, _, rfl, hd8, by omega, ha, hr⟩
  · subst e
    refine ⟨trivial, ?_⟩
    walk_at "r"
    refine rev_at hr ?_
    have hr1 := rdL_app (c := C.lst (as.map Ask.dat).reverse) hr
    refine add_at hr1 rdL_new (by simp [szl]; omega) ?_
    walk_at "s"
    have e1 : as.map Ask.dat ++ (as.map Ask.dat).reverse = (as ++ as.reverse).map Ask.dat := by rw [List.map_append, List.map_reverse]
    rw [e1]
    have hbs : ∀ a ∈ as ++ as.reverse, Ask.Ok 3 (st2 ++ [C.lst (as.map Ask.dat).reverse] ++ [C.lst ((as ++ as.reverse).map Ask.dat)]) a := by
      intro a h
      have h' : a ∈ as := by
        rcases List.mem_append.mp h with h | h
        · exact h
        · exact List.mem_reverse.mp h
      exact (ha a h').fra (((Fra.refl hd2).app).app)
    have d5 := (hd2.app (c := C.lst (as.map Ask.dat).reverse)).app (c := C.lst ((as ++ as.reverse).map Ask.dat))
    have h5 := rdL_new (st := st2 ++ [C.lst (as.map Ask.dat).reverse]) (xs := (as ++ as.reverse).map Ask.dat)
    generalize as ++ as.reverse = bs at hbs d5 h5 ⊢
    generalize (st2 ++ [C.lst (as.map Ask.dat).reverse]).length = zn at h5 ⊢
    generalize st2 ++ [C.lst (as.map Ask.dat).reverse] ++ [C.lst (bs.map Ask.dat)] = st5 at hbs d5 h5 ⊢
    refine it_at h5 ?_
    refine for_map bs Ask.dat rfl (fun i σ st' => ∃ y3 y4 y5 y6 y7 y8 y9 y10 y11 y12, σ = [some (.ref 0), some (.ref 2), some (.ref 3), y3, y4, y5, y6, y7, y8, y9, y10, y11, y12] ∧ Grw st5 st') ⟨_, _, _, _, _, _, _, _, _, _, rfl, Grw.refl _⟩ (fun i a σ st6 hi ⟨y3, y4, y5, y6, y7, y8, y9, y10, y11, y12, e, g6⟩ N' hN' => ?_) (fun σ st6 ⟨y3, y4, y5, y6, y7, y8, y9, y10, y11, y12, e, g6⟩ => ?_)
    · subst e
      have hA := hbs a (List.mem_of_getElem? hi)
      refine ⟨.inl (g6.rd h5), ?_⟩
      unfold Ask.dat
      walk_at "s"
      refine ⟨rfl, ?_⟩
      walk_at "s"
      refine values_ok (by omega) hA.sh hA.nn (by have := hA.ln; omega) (fun st7 f7 => ?_)
      have g7 := g6.trans f7.grw
      walk_at "s"
      refine same_ok (by omega) (g7.rd hA.rd) ?_
      walk_at "r"
      refine wayF rfl ?_
      walk_at "r"
      refine ⟨Nat.le_of_ble_eq_true rfl, ?_⟩
      rw [List.length_map]
      walk_at "s"
      have h8 := rdL_new (st := st7) (xs := [D.int 0, D.int a.sp, D.int ((a.ns.length : Int) - 1)])
      refine it_at h8 ?_
      refine for_map [0, (a.sp : Int), (a.ns.length : Int) - 1] D.int rfl (fun i σ st' => ∃ y10 y11, σ = [some (.ref 0), some (.ref 2), some (.ref 3), y3, y4, some (.tup (a.ns.map Nd.dat)), y6, some (.tup (a.is.map D.int)), some (.int a.sp), some (.ref a.cell), y10, y11, y12] ∧ Grw (st7 ++ [C.lst [D.int 0, D.int a.sp, D.int ((a.ns.length : Int) - 1)]]) st') ⟨_, _, rfl, Grw.refl _⟩ (fun i t σ st9 hi ⟨y10, y11, e, g9⟩ N2 hN2 => ?_) (fun σ st9 ⟨y10, y11, e, g9⟩ => ?_)
      · subst e
        refine ⟨.inl (g9.rd h8), ?_⟩
        walk_at "s"
        have gg := (g7.trans ((Grw.refl st7).app)).trans g9
        rw [show (List.map Nd.dat a.ns).isEmpty = a.ns.isEmpty by cases a.ns <;> rfl]
        refine way (fun hb => ?_) (fun hb => ?_)
        · have hpos : 0 < a.ns.length := by cases h0 : a.ns with | nil => rw [h0] at hb; cases hb | cons => simp
          have hsp := hA.spt hpos
          have ht : 0 ≤ t ∧ t < a.ns.length := by
            have := List.mem_of_getElem? hi
            simp only [List.mem_cons, List.not_mem_nil, or_false] at this
            rcases this with rfl | rfl | rfl <;> omega
          obtain ⟨u, rfl⟩ : ∃ u : Nat, t = u := ⟨t.toNat, by omega⟩
          walk_at "s"
          refine value_ok (by omega) hA.sh hA.nn (by have := hA.ln; omega) (by omega) (fun st10 f10 => ?_)
          walk_at "r"
          refine isInt_ok rfl ?_
          walk_at "r"
          refine wayF rfl ?_
          walk_at "r"
          refine ix_ref ((gg.trans f10.grw).rd hA.rd) (at_int (by rw [vals_len _ hA.sh]; omega)) ?_
          refine neI ?_
          walk_at "r"
          exact hN2 _ _ ⟨_, _, rfl, g9.trans f10.grw⟩
        · walk_at "s"
          exact hN2 _ _ ⟨_, _, rfl, g9⟩
      · subst e
        refine ⟨.inl (g9.rd h8), ?_⟩
        exact hN' _ _ ⟨_, _, _, _, _, _, _, _, _, _, rfl, (g7.trans ((Grw.refl st7).app)).trans g9⟩
    · subst e
      refine ⟨.inl (g6.rd h5), ?_⟩
      walk_at "r"
      rfl
end Pk30
end PartPdk30P9

section PartPdk30T
open PySem PySem.W PyProof.Rows
set_option maxRecDepth 100000 in
set_option maxHeartbeats 0 in
theorem PySem.Challenge.cw_metorshut_k30_values_holds : PySem.Challenge.rw_metorshut_k30_values.Holds := by
  w_on; o_law; k_head; (case hw => w_witness2)
  k_fill
  refine L2.walk_ofB (l := PySem.Challenge.rw_metorshut_k30_values) (n := 63) (k := 61) (x := "_law_script") (CX := fun _ => L2.CX0) (sp := fun w => Pd.liftF _ 1 (Pd.callN Pk30.prog 61 "law")) rfl (by decide) rfl ⟨rfl, by decide, by decide⟩ (fun w h Y => PySem.W.kIn_of Y) ?F (fun _ _ a ns hl hb hO hS => Pd.law_sp (Pk30.law_holds ns hl hb) hO hS) (fun _ _ _ _ _ h => h)
  case F =>
    intro w mg fa h KX G hmg
    refine' Pk30.all_mk KX G hmg ?a1 ?l1 ?c1 ?k1 ?a2 ?l2 ?c2 ?k2 ?a3 ?l3 ?c3 ?k3 ?a4 ?l4 ?c4 ?k4 ?a5 ?l5 ?c5 ?k5 ?a6 ?l6 ?c6 ?k6 ?a7 ?l7 ?c7 ?k7 ?a8 ?l8 ?c8 ?k8 ?a9 ?l9 ?c9 ?k9 ?a10 ?l10 ?c10 ?k10 ?a11 ?l11 ?c11 ?k11 ?a12 ?l12 ?c12 ?k12 ?a13 ?l13 ?c13 ?k13 ?a14 ?l14 ?c14 ?k14 ?a15 ?l15 ?c15 ?k15 ?a16 ?l16 ?c16 ?k16 ?a17 ?l17 ?c17 ?k17 ?a18 ?l18 ?c18 ?k18 ?a19 ?l19 ?c19 ?k19 ?a20 ?l20 ?c20 ?k20 ?a21 ?l21 ?c21 ?k21 ?z1 ?z2 ?z3 ?z4 ?z5 ?z6 ?z7 ?z8 ?z9 ?z10 ?z11 ?z12
    (case a1 => k_is); (case l1 => k_is); (case c1 => k_is); (case k1 => k_is)
    (case a2 => k_is); (case l2 => k_is); (case c2 => k_is); (case k2 => k_is)
    (case a3 => k_is); (case l3 => k_is); (case c3 => k_is); (case k3 => k_is)
    (case a4 => k_is); (case l4 => k_is); (case c4 => k_is); (case k4 => k_is)
    (case a5 => k_is); (case l5 => k_is); (case c5 => k_is); (case k5 => k_is)
    (case a6 => k_is); (case l6 => k_is); (case c6 => k_is); (case k6 => k_is)
    (case a7 => k_is); (case l7 => k_is); (case c7 => k_is); (case k7 => k_is)
    (case a8 => k_is); (case l8 => k_is); (case c8 => k_is); (case k8 => k_is)
    (case a9 => k_is); (case l9 => k_is); (case c9 => k_is); (case k9 => k_is)
    (case a10 => k_is); (case l10 => k_is); (case c10 => k_is); (case k10 => k_is)
    (case a11 => k_is); (case l11 => k_is); (case c11 => k_is); (case k11 => k_is)
    (case a12 => k_is); (case l12 => k_is); (case c12 => k_is); (case k12 => k_is)
    (case a13 => k_is); (case l13 => k_is); (case c13 => k_is); (case k13 => k_is)
    (case a14 => k_is); (case l14 => k_is); (case c14 => k_is); (case k14 => k_is)
    (case a15 => k_is); (case l15 => k_is); (case c15 => k_is); (case k15 => k_is)
    (case a16 => k_is); (case l16 => k_is); (case c16 => k_is); (case k16 => k_is)
    (case a17 => k_is); (case l17 => k_is); (case c17 => k_is); (case k17 => k_is)
    (case a18 => k_is); (case l18 => k_is); (case c18 => k_is); (case k18 => k_is)
    (case a19 => k_is); (case l19 => k_is); (case c19 => k_is); (case k19 => k_is)
    (case a20 => k_is); (case l20 => k_is); (case c20 => k_is); (case k20 => k_is)
    (case a21 => k_is); (case l21 => k_is); (case c21 => k_is); (case k21 => k_is)
    (case z1 => k_is)
    (case z2 => k_is)
    (case z3 => k_is)
    (case z4 => k_is)
    (case z5 => k_is)
    (case z6 => k_is)
    (case z7 => k_is)
    (case z8 => k_is)
    (case z9 => k_is)
    (case z10 => k_is)
    (case z11 => k_is)
    (case z12 => k_is)
end PartPdk30T
