import PyProof.Rows.All
import HandS.Base
import Wide.All
import OpenK.AllK
import Wide.FinOn
import HandS.ForMost
import HandS.Flow
import HandS.TupAny
import HandS.IsInst
import HandS.Zip
import HandS.Conv
import HandS.EndBits
import HandS.Text
import HandS.SortInts
import HandS.Star
import HandS.Small
import HandS.Dict
import HandS.DictComp
import KE.KDictSum
import HandS.Iter
import HandS.TryOnly
import HandS.Style
import KE.GoesZip
import KE.GoesMore
import KE.GoesEnum
import KE.KDictZip
import KE.KDictList
import KE.KRevIter
import HandS.RevTup
import HandS.Rev
import HandS.ExcValue
import PySem.Challenge.RW_metorshut_k35_whole_cubes
section PartPdCore
set_option linter.all false
/-! Pd: a data-level weakest-precondition semantics of the Python that the laws use.
Values are plain data (tuples are values, lists and dicts are numbers of cells of a store).
A reading takes what is wanted behind. Own work. -/
namespace Pd
open PySem

inductive D where
  | non
  | bl (b : Bool)
  | int (i : Int)
  | str (x : Str)
  | tup (xs : List D)
  | ref (n : Nat)
  deriving Inhabited

/-- what a locked dict is, for the soundness alone -/
abbrev Tok := PySem.Obj × List (L2.Key × L2.V)
/-- a cell of the store -/
inductive C where
  | lst (xs : List D)
  | frz (xs : List D)
  | dic (kvs : List (Sum Int Str × D))
  /-- a dict that a walk has locked -/
  | frd (kvs : List (Sum Int Str × D)) (tk : Tok)

abbrev Store := List C
abbrev Env := List (Option D)
abbrev K := D → Store → Prop
abbrev TE := Env → Store → K → Prop
abbrev TT := Env → Store → (Bool → Store → Prop) → Prop
abbrev TA := Env → Store → (List D → Store → Prop) → Prop
structure Ends where
  nx : Env → Store → Prop
  rt : K
  bk : Env → Store → Prop := fun _ _ => False
  ct : Env → Store → Prop := fun _ _ => False
abbrev TS := Ends → Env → Store → Prop
/-- what the calls of own defs do -/
abbrev Cl := String → List D → Store → K → Prop

/-- the longest that the model's lists and texts may be -/
def szl : Nat := 16777216

def lk : Env → Nat → Option D
  | [], _ => none
  | x :: _, 0 => x
  | _ :: r, n + 1 => lk r n
def wipeE : Env → List Nat → Env
  | ρ, [] => ρ
  | ρ, v :: vs => (wipeE ρ vs).set v none

/-! ### data: pure, depth, equality -/
/-- a text of code points -/
def okS (x : Str) : Bool := x.cps.toList.all fun c => decide (c < 1114112)
mutual
def D.okd : Nat → D → Bool
  | _, .non => true
  | _, .bl _ => true
  | _, .int _ => true
  | _, .str x => okS x
  | 0, .tup _ => false
  | n + 1, .tup xs => okds n xs
  | _, .ref _ => false
def okds : Nat → List D → Bool
  | _, [] => true
  | n, x :: xs => D.okd n x && okds n xs
end
def b2i (b : Bool) : Int := if b then 1 else 0
mutual
def D.eqb : D → D → Bool
  | .non, .non => true
  | .bl a, .bl b => a == b
  | .bl a, .int j => b2i a == j
  | .int i, .bl b => i == b2i b
  | .int i, .int j => i == j
  | .str x, .str y => decide (x = y)
  | .tup xs, .tup ys => eqbs xs ys
  | _, _ => false
def eqbs : List D → List D → Bool
  | [], [] => true
  | x :: xs, y :: ys => D.eqb x y && eqbs xs ys
  | _, _ => false
end
def D.flat : D → Bool
  | .non => true
  | .bl _ => true
  | .int _ => true
  | .str _ => true
  | _ => false

/-! ### the store -/
/-- at n a list that may be changed -/
def rdL (st : Store) (n : Nat) (xs : List D) : Prop := st[n]? = some (.lst xs)
/-- at n a list -/
def rdA (st : Store) (n : Nat) (xs : List D) : Prop := st[n]? = some (.lst xs) ∨ st[n]? = some (.frz xs)
def rdD (st : Store) (n : Nat) (kvs : List (Sum Int Str × D)) : Prop := st[n]? = some (.dic kvs)
/-- at n a dict, locked or not -/
def rdDA (st : Store) (n : Nat) (kvs : List (Sum Int Str × D)) : Prop := st[n]? = some (.dic kvs) ∨ ∃ tk, st[n]? = some (.frd kvs tk)

/-! ### expressions -/
def dC (d : D) : TE := fun _ st Q => Q d st
def dVar (i : Nat) : TE := fun σ st Q => ∃ d, lk σ i = some d ∧ Q d st
abbrev K2 := D → D → Store → K → Prop
def dOp (k : K2) (ta tb : TE) : TE := fun σ st Q => ta σ st fun x st1 => tb σ st1 fun y st2 => k x y st2 Q
def dUn (k : D → Store → K → Prop) (ta : TE) : TE := fun σ st Q => ta σ st fun x st1 => k x st1 Q

def cMul (i j : Int) : Prop := (-(2 ^ 64) < i ∧ i < 2 ^ 64) ∨ (-(2 ^ 64) < j ∧ j < 2 ^ 64)
def cPow (i j : Int) : Prop := 0 ≤ j ∧ j ≤ 1000000 ∧ i.natAbs < 2 ^ 64
def addK : K2
  | .int a, .int b, st, Q => Q (.int (a + b)) st
  | .str a, .str b, st, Q => a.length + b.length ≤ szl ∧ Q (.str (a ++ b)) st
  | .tup a, .tup b, st, Q => a.length + b.length ≤ szl ∧ Q (.tup (a ++ b)) st
  | .ref m, .ref n, st, Q => ∃ a b, rdL st m a ∧ rdL st n b ∧ a.length + b.length ≤ szl ∧ Q (.ref st.length) (st ++ [.lst (a ++ b)])
  | _, _, _, _ => False
def subK : K2
  | .int a, .int b, st, Q => Q (.int (a - b)) st
  | _, _, _, _ => False
def mulK : K2
  | .int a, .int b, st, Q => cMul a b ∧ Q (.int (a * b)) st
  | .ref m, .int k, st, Q => ∃ xs, rdL st m xs ∧ -(2 ^ 63) ≤ k ∧ k < 2 ^ 63 ∧ xs.length * k.toNat ≤ szl ∧ Q (.ref st.length) (st ++ [.lst (List.replicate k.toNat xs).flatten])
  | _, _, _, _ => False
def fdivK : K2
  | .int a, .int b, st, Q => (0 < b ∧ b < 1073741824) ∧ Q (.int (a / b)) st
  | _, _, _, _ => False
def modK : K2
  | .int a, .int b, st, Q => 0 < b ∧ Q (.int (a % b)) st
  | _, _, _, _ => False
def powK : K2
  | .int a, .int b, st, Q => cPow a b ∧ Q (.int (a ^ b.toNat)) st
  | _, _, _, _ => False
def shlK : K2
  | .int a, .int b, st, Q => cPow a b ∧ Q (.int (a * 2 ^ b.toNat)) st
  | _, _, _, _ => False
def shrK : K2
  | .int a, .int b, st, Q => 0 ≤ b ∧ Q (.int (a / 2 ^ b.toNat)) st
  | _, _, _, _ => False
def andK : K2
  | .int a, .int b, st, Q => Q (.int (Builtin.bitAnd a b)) st
  | _, _, _, _ => False
def orK : K2
  | .int a, .int b, st, Q => Q (.int (Builtin.bitOr a b)) st
  | _, _, _, _ => False
def xorK : K2
  | .int a, .int b, st, Q => Q (.int (Builtin.bitXor a b)) st
  | _, _, _, _ => False
/-- op= of ints and texts -/
def iaddK : K2
  | .int a, .int b, st, Q => Q (.int (a + b)) st
  | .str a, .str b, st, Q => a.length + b.length ≤ szl ∧ Q (.str (a ++ b)) st
  | _, _, _, _ => False
def negK : D → Store → K → Prop
  | .int a, st, Q => Q (.int (-a)) st
  | _, _, _ => False
def invK : D → Store → K → Prop
  | .int a, st, Q => Q (.int (Builtin.bitNot a)) st
  | _, _, _ => False

/-! ### comparisons -/
abbrev KC := D → D → Store → (Bool → Prop) → Prop
def dCmp (k : KC) (ta tb : TE) : TE := fun σ st Q => ta σ st fun x st1 => tb σ st1 fun y st2 => k x y st2 fun b => Q (.bl b) st2
def dChain (k k' : KC) (ta tb tc : TE) : TE := fun σ st Q => ta σ st fun x st1 => tb σ st1 fun y st2 => k x y st2 fun b =>
  (b = true → tc σ st2 fun z st3 => k' y z st3 fun b' => Q (.bl b') st3) ∧ (b = false → Q (.bl false) st2)
/-- == -/
def eqC : KC
  | .ref m, .ref n, st, Q => ∃ xs ys, rdA st m xs ∧ rdA st n ys ∧ okds 60 xs = true ∧ okds 60 ys = true ∧ Q (eqbs xs ys)
  | .ref m, y, st, Q => ∃ xs, rdA st m xs ∧ okds 60 xs = true ∧ D.okd 60 y = true ∧ Q false
  | x, .ref n, st, Q => ∃ ys, rdA st n ys ∧ okds 60 ys = true ∧ D.okd 60 x = true ∧ Q false
  | x, y, st, Q => D.okd 60 x = true ∧ D.okd 60 y = true ∧ Q (D.eqb x y)
def neC : KC := fun x y st Q => eqC x y st fun b => Q (!b)
def ltC : KC
  | .int a, .int b, _, Q => Q (decide (a < b))
  | _, _, _, _ => False
def leC : KC
  | .int a, .int b, _, Q => Q (decide (a ≤ b))
  | _, _, _, _ => False
def gtC : KC
  | .int a, .int b, _, Q => Q (decide (b < a))
  | _, _, _, _ => False
def geC : KC
  | .int a, .int b, _, Q => Q (decide (b ≤ a))
  | _, _, _, _ => False
def isNon : D → Bool
  | .non => true
  | _ => false
def isC : KC
  | x, .non, _, Q => Q (isNon x)
  | _, _, _, _ => False
def isntC : KC
  | x, .non, _, Q => Q (!isNon x)
  | _, _, _, _ => False
def inC : KC
  | x, .tup xs, _, Q => x.flat = true ∧ xs.all D.flat = true ∧ Q (xs.any fun y => D.eqb y x)
  | x, .ref n, st, Q => ∃ xs, rdA st n xs ∧ x.flat = true ∧ xs.all D.flat = true ∧ Q (xs.any fun y => D.eqb y x)
  | _, _, _, _ => False
def notinC : KC := fun x y st Q => inC x y st fun b => Q (!b)

/-! ### truth -/
def truK : D → Store → (Bool → Prop) → Prop
  | .non, _, Q => Q false
  | .bl b, _, Q => Q b
  | .int i, _, Q => Q (i != 0)
  | .str y, _, Q => y.length ≤ szl ∧ Q ((y.length : Int) != 0)
  | .tup xs, _, Q => Q (!xs.isEmpty)
  | .ref n, st, Q => ∃ xs, rdA st n xs ∧ Q (!xs.isEmpty)
def tTru (t : TE) : TT := fun σ st Q => t σ st fun x st1 => truK x st1 fun b => Q b st1
def tAnd (t u : TT) : TT := fun σ st Q => t σ st fun c st1 => (c = true → u σ st1 Q) ∧ (c = false → Q false st1)
def tOr (t u : TT) : TT := fun σ st Q => t σ st fun c st1 => (c = true → Q true st1) ∧ (c = false → u σ st1 Q)
def tNot (t : TT) : TT := fun σ st Q => t σ st fun c st1 => Q (!c) st1
def dAndT (ta tb : TE) : TE := fun σ st Q => ta σ st fun x st1 => truK x st1 fun c => (c = true → tb σ st1 Q) ∧ (c = false → Q x st1)
def dOrT (ta tb : TE) : TE := fun σ st Q => ta σ st fun x st1 => truK x st1 fun c => (c = true → Q x st1) ∧ (c = false → tb σ st1 Q)
def dNotT (ta : TE) : TE := fun σ st Q => ta σ st fun x st1 => truK x st1 fun c => Q (.bl (!c)) st1
def dIf (c : TT) (a b : TE) : TE := fun σ st Q => c σ st fun k st1 => (k = true → a σ st1 Q) ∧ (k = false → b σ st1 Q)

/-! ### items, slices, displays, calls -/
def atD {α : Type} (xs : List α) (i : Int) : Option α := if 0 ≤ i then xs[i.toNat]? else if -(xs.length : Int) ≤ i then xs[(i + xs.length).toNat]? else none
def ixK : K2
  | .tup xs, .int i, st, Q => ∃ d, atD xs i = some d ∧ Q d st
  | .ref n, .int i, st, Q => ∃ xs d, rdA st n xs ∧ atD xs i = some d ∧ Q d st
  | .str z, .int i, st, Q => ∃ c, z.length ≤ szl ∧ atD z.cps.toList i = some c ∧ Q (.str ⟨#[c]⟩) st
  | _, _, _, _ => False
/-- where a slice's end lies -/
def cl (n : Nat) (i : Int) : Nat := if i < 0 then (i + n).toNat else min i.toNat n
def cutD {α : Type} (xs : List α) (lo hi : Option Int) : List α :=
  (xs.drop ((lo.map (cl xs.length)).getD 0)).take ((hi.map (cl xs.length)).getD xs.length - (lo.map (cl xs.length)).getD 0)
abbrev TO := Env → Store → (Option Int → Store → Prop) → Prop
def oNone : TO := fun _ st Q => Q none st
def oSome (t : TE) : TO := fun σ st Q => t σ st fun x st1 => ∃ i, x = .int i ∧ Q (some i) st1
def slK : D → Option Int → Option Int → Store → K → Prop
  | .tup xs, lo, hi, st, Q => Q (.tup (cutD xs lo hi)) st
  | .ref n, lo, hi, st, Q => ∃ xs, rdA st n xs ∧ Q (.ref st.length) (st ++ [.lst (cutD xs lo hi)])
  | _, _, _, _, _ => False
def dSl (te : TE) (tl th : TO) : TE := fun σ st Q => te σ st fun x st1 => tl σ st1 fun lo st2 => th σ st2 fun hi st3 => slK x lo hi st3 Q
def aNil : TA := fun _ st Q => Q [] st
def aCons (t : TE) (r : TA) : TA := fun σ st Q => t σ st fun x st1 => r σ st1 fun xs st2 => Q (x :: xs) st2
def dTup (t : TA) : TE := fun σ st Q => t σ st fun xs st1 => xs.length ≤ szl ∧ Q (.tup xs) st1
def dLst (t : TA) : TE := fun σ st Q => t σ st fun xs st1 => xs.length ≤ szl ∧ Q (.ref st1.length) (st1 ++ [.lst xs])
def dCall (c : Cl) (f : String) (t : TA) : TE := fun σ st Q => t σ st fun xs st1 => c f xs st1 Q
/-- a built-in -/
abbrev KB := List D → Store → K → Prop
def dB (k : KB) (t : TA) : TE := fun σ st Q => t σ st fun xs st1 => k xs st1 Q
/-- a method of a built-in type -/
abbrev KM := D → List D → Store → K → Prop
def dM (ty : D → Store → Prop) (k : KM) (to : TE) (t : TA) : TE := fun σ st Q => to σ st fun o st1 => ty o st1 ∧ t σ st1 fun xs st2 => k o xs st2 Q
def tyLst : D → Store → Prop
  | .ref n, st => ∃ xs, rdL st n xs
  | _, _ => False
def tyLstA : D → Store → Prop
  | .ref n, st => ∃ xs, rdA st n xs
  | _, _ => False
def tyStr : D → Store → Prop
  | .str _, _ => True
  | _, _ => False

def intB : KB
  | [.int i], st, Q => Q (.int i) st
  | [.bl b], st, Q => Q (.int (b2i b)) st
  | _, _, _ => False
def absB : KB
  | [.int i], st, Q => Q (.int (if i < 0 then -i else i)) st
  | _, _, _ => False
def lenB : KB
  | [.tup xs], st, Q => Q (.int xs.length) st
  | [.ref n], st, Q => ∃ xs, rdA st n xs ∧ Q (.int xs.length) st
  | [.str z], st, Q => z.length ≤ szl ∧ Q (.int z.length) st
  | _, _, _ => False
def min2B : KB
  | [.int i, .int j], st, Q => Q (.int (if j < i then j else i)) st
  | _, _, _ => False
def max2B : KB
  | [.int i, .int j], st, Q => Q (.int (if j > i then j else i)) st
  | _, _, _ => False
def listB : KB
  | [.tup xs], st, Q => Q (.ref st.length) (st ++ [.lst xs])
  | [.ref n], st, Q => ∃ xs, rdA st n xs ∧ Q (.ref st.length) (st ++ [.lst xs])
  | _, _, _ => False
def tupleB : KB
  | [.tup xs], st, Q => Q (.tup xs) st
  | [.ref n], st, Q => ∃ xs, rdA st n xs ∧ Q (.tup xs) st
  | _, _, _ => False
def sumB : KB
  | [.ref n], st, Q => ∃ ns : List Int, rdA st n (ns.map D.int) ∧ Q (.int ns.sum) st
  | _, _, _ => False
/-- None, a bool, an int: its truth -/
def D.tflat : D → Bool
  | .non => true
  | .bl _ => true
  | .int _ => true
  | _ => false
def D.tru : D → Bool
  | .bl b => b
  | .int i => i != 0
  | _ => false
def allB : KB
  | [.ref n], st, Q => ∃ xs : List D, rdA st n xs ∧ xs.all D.tflat = true ∧ Q (.bl (xs.all D.tru)) st
  | _, _, _ => False
def anyB : KB
  | [.ref n], st, Q => ∃ xs : List D, rdA st n xs ∧ xs.all D.tflat = true ∧ Q (.bl (xs.any D.tru)) st
  | _, _, _ => False
def min1B : KB
  | [.ref n], st, Q => ∃ ns : List Int, rdA st n (ns.map D.int) ∧ 0 < ns.length ∧ ∀ m, m ∈ ns → (∀ y, y ∈ ns → m ≤ y) → Q (.int m) st
  | _, _, _ => False
def max1B : KB
  | [.ref n], st, Q => ∃ ns : List Int, rdA st n (ns.map D.int) ∧ 0 < ns.length ∧ ∀ m, m ∈ ns → (∀ y, y ∈ ns → y ≤ m) → Q (.int m) st
  | _, _, _ => False
/-- isinstance(x, T), T a built-in class -/
inductive Ty where | int | bool | str | tuple | list
  deriving DecidableEq
def isTy : D → Store → Ty → (Bool → Prop) → Prop
  | .non, _, _, Q => Q false
  | .bl _, _, t, Q => Q (decide (t = .bool) || decide (t = .int))
  | .int _, _, t, Q => Q (decide (t = .int))
  | .str _, _, t, Q => Q (decide (t = .str))
  | .tup _, _, t, Q => Q (decide (t = .tuple))
  | .ref n, st, t, Q => ∃ xs, rdL st n xs ∧ Q (decide (t = .list))
def dIsi (ty : Ty) (t : TE) : TE := fun σ st Q => t σ st fun x st1 => isTy x st1 ty fun b => Q (.bl b) st1

/-! methods -/
def appendM : KM
  | .ref n, [x], st, Q => ∃ xs, rdL st n xs ∧ xs.length < szl ∧ Q .non (st.set n (.lst (xs ++ [x])))
  | _, _, _, _ => False
/-- .pop(i), the place in the list -/
def popM : KM
  | .ref n, [.int i], st, Q => ∃ xs d, rdL st n xs ∧ (0 ≤ i ∧ i < 2 ^ 62) ∧ atD xs i = some d ∧ Q d (st.set n (.lst (xs.eraseIdx i.toNat)))
  | _, _, _, _ => False
def extendM : KM
  | .ref n, [.ref m], st, Q => ∃ xs ys, rdL st n xs ∧ rdL st m ys ∧ n ≠ m ∧ xs.length + ys.length ≤ szl ∧ Q .non (st.set n (.lst (xs ++ ys)))
  | _, _, _, _ => False
/-- .index(x): the first place of what is there -/
def indexM : KM
  | .ref n, [x], st, Q => ∃ xs j z, rdA st n xs ∧ x.flat = true ∧ xs.all D.flat = true ∧ xs[j]? = some z ∧ D.eqb z x = true ∧ (∀ (m : Nat) (z' : D), m < j → xs[m]? = some z' → D.eqb z' x = false) ∧ Q (.int j) st
  | _, _, _, _ => False

/-! ### targets, iterables -/
abbrev TG := D → Env → Store → (Env → Store → Prop) → Prop
abbrev TGs := List D → Env → Store → (Env → Store → Prop) → Prop
def gName (i : Nat) : TG := fun d σ st Q => Q (σ.set i (some d)) st
def gsNil : TGs := fun ds σ st Q => ds = [] ∧ Q σ st
def gsCons (g : TG) (r : TGs) : TGs := fun ds σ st Q => ∃ d ds', ds = d :: ds' ∧ g d σ st fun σ1 st1 => r ds' σ1 st1 Q
def gTup (gs : TGs) (n : Nat) : TG := fun d σ st Q => ∃ ds, d = .tup ds ∧ ds.length = n ∧ gs ds σ st Q
def setK : D → D → D → Store → (Store → Prop) → Prop
  | .ref n, .int i, v, st, Q => ∃ xs, rdL st n xs ∧ (∃ d, atD xs i = some d) ∧ 0 ≤ i ∧ Q (st.set n (.lst (xs.set i.toNat v)))
  | _, _, _, _, _ => False
def gSub (to ti : TE) : TG := fun v σ st Q => to σ st fun o st1 => ti σ st1 fun i st2 => setK o i v st2 fun st3 => Q σ st3
structure Iter where
  items : List D
  guard : Store → Prop
abbrev TI := Env → Store → (Iter → Store → Prop) → Prop
/-- a list or a tuple -/
def itK : D → Store → (Iter → Store → Prop) → Prop
  | .tup xs, st, R => R ⟨xs, fun _ => True⟩ st
  | .ref n, st, R => ∃ xs, rdA st n xs ∧ R ⟨xs, fun s => rdA s n xs⟩ st
  | _, _, _ => False
def iSeq (t : TE) : TI := fun σ st R => t σ st fun x st1 => itK x st1 R
def rng (lo : Int) (n : Nat) : List D := (List.range n).map fun (k : Nat) => D.int (lo + k)
def iR1 (t : TE) : TI := fun σ st R => t σ st fun x st1 => ∃ j, x = .int j ∧ -(2 ^ 62) ≤ j ∧ j < 2 ^ 62 ∧ R ⟨rng 0 j.toNat, fun _ => True⟩ st1
def iR2 (t u : TE) : TI := fun σ st R => t σ st fun x st1 => u σ st1 fun y st2 => ∃ i j, x = .int i ∧ y = .int j ∧ (-(2 ^ 62) ≤ i ∧ i < 2 ^ 62 ∧ -(2 ^ 62) ≤ j ∧ j < 2 ^ 62) ∧ R ⟨rng i (j - i).toNat, fun _ => True⟩ st2
def zipD : List D → List D → List D
  | x :: xs, y :: ys => .tup [x, y] :: zipD xs ys
  | _, _ => []
/-- zip(a, b): both lists, or both tuples -/
def zipK : D → D → Store → (Iter → Store → Prop) → Prop
  | .tup xs, .tup ys, st, R => R ⟨zipD xs ys, fun _ => True⟩ st
  | .ref m, .ref n, st, R => ∃ xs ys, rdA st m xs ∧ rdA st n ys ∧ R ⟨zipD xs ys, fun s => rdA s m xs ∧ rdA s n ys⟩ st
  | _, _, _, _ => False
def iZip2 (t u : TE) : TI := fun σ st R => t σ st fun x st1 => u σ st1 fun y st2 => zipK x y st2 R

/-! ### comprehensions -/
def tYes : TT := fun _ st Q => Q true st
/-- n: the new list's cell -/
def lcLoop (gd : Store → Prop) (g : TG) (tt : TT) (te : TE) (ρ : Env) (n : Nat) (Q : K) : List D → List D → Store → Prop
  | [], acc, st => gd st ∧ rdL st n acc ∧ Q (.ref n) st
  | x :: xs, acc, st => gd st ∧ g x ρ st fun ρ2 st2 => tt ρ2 st2 fun b st3 =>
      (b = true → te ρ2 st3 fun y st4 => rdL st4 n acc ∧ acc.length < szl ∧ lcLoop gd g tt te ρ n Q xs (acc ++ [y]) (st4.set n (.lst (acc ++ [y])))) ∧ (b = false → rdL st3 n acc ∧ lcLoop gd g tt te ρ n Q xs acc st3)
def dLc (i : TI) (g : TG) (tt : TT) (te : TE) (vs : List Nat) : TE := fun σ st Q => i σ st fun I st1 => lcLoop I.guard g tt te (wipeE σ vs) st1.length Q I.items [] (st1 ++ [.lst []])

/-! ### statements -/
def sNext : TS := fun D σ st => D.nx σ st
/-- a statement's end, where a walk may rest -/
structure Nxt (P : Prop) : Prop where
  go : P
def sSeq (t u : TS) : TS := fun D σ st => t { D with nx := fun σ' st' => Nxt (u D σ' st') } σ st
def sBreak : TS := fun D σ st => D.bk σ st
def sCont : TS := fun D σ st => D.ct σ st
def sExpr (t : TE) : TS := fun D σ st => t σ st fun _ st1 => D.nx σ st1
def sRet (t : TE) : TS := fun D σ st => t σ st D.rt
def sRetN : TS := fun D _ st => D.rt .non st
def sIf (c : TT) (t u : TS) : TS := fun D σ st => c σ st fun b st1 => (b = true → t D σ st1) ∧ (b = false → u D σ st1)
def sAsg (t : TE) (g : TG) : TS := fun D σ st => t σ st fun x st1 => g x σ st1 D.nx
/-- a, b = e, f of two locals: no tuple is made -/
def sPar (i j : Nat) (t : TA) : TS := fun D σ st => t σ st fun xs st1 => ∃ x y, xs = [x, y] ∧ D.nx ((σ.set i (some x)).set j (some y)) st1
def sAug (i : Nat) (k : K2) (t : TE) : TS := fun D σ st => ∃ x, lk σ i = some x ∧ t σ st fun y st1 => k x y st1 fun z st2 => D.nx (σ.set i (some z)) st2
/-- the item of a list alone -/
def ixLK : K2
  | .ref n, .int i, st, Q => ∃ xs d, rdA st n xs ∧ atD xs i = some d ∧ Q d st
  | _, _, _, _ => False
def sAugL (k : K2) (to ti te : TE) : TS := fun D σ st => to σ st fun o st1 => ti σ st1 fun i st2 => ixLK o i st2 fun x st3 => te σ st3 fun y st4 => k x y st4 fun z st5 => setK o i z st5 fun st6 => D.nx σ st6
def forLoop (gd : Store → Prop) (g : TG) (tb : TS) (D : Ends) : List Pd.D → Env → Store → Prop
  | [], σ, st => gd st ∧ D.nx σ st
  | x :: xs, σ, st => gd st ∧ g x σ st fun σ2 st2 => tb { D with nx := fun σ3 st3 => forLoop gd g tb D xs σ3 st3, ct := fun σ3 st3 => forLoop gd g tb D xs σ3 st3, bk := D.nx } σ2 st2
def sFor (i : TI) (g : TG) (tb : TS) : TS := fun D σ st => i σ st fun I st1 => forLoop I.guard g tb D I.items σ st1
def whileN (c : TT) (tb : TS) (D : Ends) : Nat → Env → Store → Prop
  | 0, _, _ => False
  | n + 1, σ, st => c σ st fun b st1 => (b = true → tb { D with nx := fun σ2 st2 => whileN c tb D n σ2 st2, ct := fun σ2 st2 => whileN c tb D n σ2 st2, bk := D.nx } σ st1) ∧ (b = false → D.nx σ st1)
def sWhile (c : TT) (tb : TS) : TS := fun D σ st => ∃ n, whileN c tb D n σ st

/-! ### defs: parameters, number of names, body -/
structure Def where
  ps : Nat
  ns : Nat
  body : Cl → TS
def start (n : Nat) (ds : List D) : Env := ds.map some ++ List.replicate (n - ds.length) none
def Def.run (d : Def) (c : Cl) (ds : List D) (st : Store) (Q : K) : Prop :=
  ds.length = d.ps ∧ d.body c { nx := fun _ st' => Q .non st', rt := Q } (start d.ns ds) st
/-- calls, at most k deep -/
def callN (prog : String → Option Def) : Nat → Cl
  | 0 => fun _ _ _ _ => False
  | k + 1 => fun f ds st Q => ∃ d, prog f = some d ∧ d.run (callN prog k) ds st Q
end Pd
end PartPdCore

section PartPdSoundA
set_option Elab.async false
set_option linter.all false
set_option maxRecDepth 100000
set_option maxHeartbeats 1000000
/-! Pd over the hand layer: data against values and heaps; lifting; expressions. Own work. -/
namespace Pd
open PySem PySem.Spec
abbrev Kf := PySem.W.Frag
abbrev Vv := L2.V
abbrev Hp := L2.Hp

theorem szl_eq : szl = sizeLine := by rfl

/-! ### data against values -/
mutual
def RD (K : Kf) (f : List Addr) (H : Hp) : D → L2.V → Prop
  | .non, v => v = .non
  | .bl b, v => v = .bl b
  | .int i, v => v = .int i
  | .str s, v => v = .str s
  | .ref n, v => ∃ a, f[n]? = some a ∧ v = .ref a
  | .tup ds, v => ∃ a vs, v = .ref a ∧ L2.SqT K H a vs ∧ RDs K f H ds vs
def RDs (K : Kf) (f : List Addr) (H : Hp) : List D → List L2.V → Prop
  | [], vs => vs = []
  | d :: ds, vs => ∃ v r, vs = v :: r ∧ RD K f H d v ∧ RDs K f H ds r
end
section
variable {K : Kf} {f f' : List Addr} {H H' : Hp} {st st' : Store} {ρ : Env} {σ : L2.St}
theorem RD.non {v : L2.V} : RD K f H .non v ↔ v = .non := by simp [RD]
theorem RD.bl {b : Bool} {v : L2.V} : RD K f H (.bl b) v ↔ v = .bl b := by simp [RD]
theorem RD.int {i : Int} {v : L2.V} : RD K f H (.int i) v ↔ v = .int i := by simp [RD]
theorem RD.str {x : Str} {v : L2.V} : RD K f H (.str x) v ↔ v = .str x := by simp [RD]
theorem RD.ref {n : Nat} {v : L2.V} : RD K f H (.ref n) v ↔ ∃ a, f[n]? = some a ∧ v = .ref a := by simp [RD]
theorem RD.tup {ds : List D} {v : L2.V} : RD K f H (.tup ds) v ↔ ∃ a vs, v = .ref a ∧ L2.SqT K H a vs ∧ RDs K f H ds vs := by simp [RD]
theorem RDs.nil {vs : List L2.V} : RDs K f H [] vs ↔ vs = [] := by simp [RDs]
theorem RDs.cons {d : D} {ds : List D} {vs : List L2.V} : RDs K f H (d :: ds) vs ↔ ∃ v r, vs = v :: r ∧ RD K f H d v ∧ RDs K f H ds r := by simp [RDs]

/-- later: more cells, the tuples as they were -/
structure Ext (K : Kf) (f : List Addr) (H : Hp) (f' : List Addr) (H' : Hp) : Prop where
  pre : ∃ g, f' = f ++ g
  tup : ∀ a xs, L2.SqT K H a xs → L2.SqT K H' a xs
theorem Ext.refl : Ext K f H f H := ⟨⟨[], by simp⟩, fun _ _ h => h⟩
theorem Ext.trans {f2 : List Addr} {H2 : Hp} (a : Ext K f H f' H') (b : Ext K f' H' f2 H2) : Ext K f H f2 H2 := by
  obtain ⟨g, rfl⟩ := a.pre
  obtain ⟨g2, rfl⟩ := b.pre
  exact ⟨⟨g ++ g2, by simp⟩, fun x xs h => b.tup x xs (a.tup x xs h)⟩
theorem Ext.at (e : Ext K f H f' H') {n : Nat} {a : Addr} (h : f[n]? = some a) : f'[n]? = some a := by
  obtain ⟨g, rfl⟩ := e.pre
  have hn := (List.getElem?_eq_some_iff.mp h).1
  rw [List.getElem?_append_left hn]; exact h
mutual
theorem RD.mono (e : Ext K f H f' H') : ∀ (d : D) {v : L2.V}, RD K f H d v → RD K f' H' d v
  | .non, _, h => by rw [RD.non] at *; exact h
  | .bl _, _, h => by rw [RD.bl] at *; exact h
  | .int _, _, h => by rw [RD.int] at *; exact h
  | .str _, _, h => by rw [RD.str] at *; exact h
  | .ref _, _, h => by
    rw [RD.ref] at *
    obtain ⟨a, h1, h2⟩ := h
    exact ⟨a, e.at h1, h2⟩
  | .tup ds, _, h => by
    rw [RD.tup] at *
    obtain ⟨a, vs, h1, h2, h3⟩ := h
    exact ⟨a, vs, h1, e.tup _ _ h2, RDs.mono e ds h3⟩
theorem RDs.mono (e : Ext K f H f' H') : ∀ (ds : List D) {vs : List L2.V}, RDs K f H ds vs → RDs K f' H' ds vs
  | [], _, h => by rw [RDs.nil] at *; exact h
  | d :: ds, _, h => by
    rw [RDs.cons] at *
    obtain ⟨v, r, h1, h2, h3⟩ := h
    exact ⟨v, r, h1, RD.mono e d h2, RDs.mono e ds h3⟩
end
theorem RDs.length : ∀ {ds : List D} {vs : List L2.V}, RDs K f H ds vs → vs.length = ds.length
  | [], _, h => by rw [RDs.nil] at h; subst h; rfl
  | d :: ds, _, h => by
    rw [RDs.cons] at h
    obtain ⟨v, r, rfl, _, h3⟩ := h
    simp [RDs.length h3]
theorem RDs.get : ∀ {ds : List D} {vs : List L2.V} {i : Nat} {d : D}, RDs K f H ds vs → ds[i]? = some d → ∃ v, vs[i]? = some v ∧ RD K f H d v
  | [], _, _, _, _, e => by simp at e
  | x :: ds, _, 0, d, h, e => by
    rw [RDs.cons] at h
    obtain ⟨v, r, rfl, h2, _⟩ := h
    simp at e; subst e; exact ⟨v, rfl, h2⟩
  | x :: ds, _, i + 1, d, h, e => by
    rw [RDs.cons] at h
    obtain ⟨v, r, rfl, _, h3⟩ := h
    obtain ⟨w, h4, h5⟩ := RDs.get (i := i) h3 (by simpa using e)
    exact ⟨w, by simpa using h4, h5⟩
theorem RDs.append : ∀ {xs ys : List D} {us vs : List L2.V}, RDs K f H xs us → RDs K f H ys vs → RDs K f H (xs ++ ys) (us ++ vs)
  | [], _, _, _, h, h' => by rw [RDs.nil] at h; subst h; exact h'
  | x :: xs, _, _, _, h, h' => by
    rw [RDs.cons] at h
    obtain ⟨v, r, rfl, h2, h3⟩ := h
    rw [List.cons_append, RDs.cons]
    exact ⟨v, _, rfl, h2, RDs.append h3 h'⟩
theorem RDs.one {d : D} {v : L2.V} (h : RD K f H d v) : RDs K f H [d] [v] := by
  rw [RDs.cons]; exact ⟨v, [], rfl, h, by rw [RDs.nil]⟩
theorem RDs.take : ∀ {ds : List D} {vs : List L2.V} (n : Nat), RDs K f H ds vs → RDs K f H (ds.take n) (vs.take n)
  | _, _, 0, _ => by simp [RDs.nil]
  | [], _, n + 1, h => by rw [RDs.nil] at h; subst h; simp [RDs.nil]
  | d :: ds, _, n + 1, h => by
    rw [RDs.cons] at h
    obtain ⟨v, r, rfl, h2, h3⟩ := h
    rw [List.take_succ_cons, List.take_succ_cons, RDs.cons]
    exact ⟨v, _, rfl, h2, RDs.take n h3⟩
theorem RDs.drop : ∀ {ds : List D} {vs : List L2.V} (n : Nat), RDs K f H ds vs → RDs K f H (ds.drop n) (vs.drop n)
  | _, _, 0, h => by simpa using h
  | [], _, n + 1, h => by rw [RDs.nil] at h; subst h; simp [RDs.nil]
  | d :: ds, _, n + 1, h => by
    rw [RDs.cons] at h
    obtain ⟨v, r, rfl, h2, h3⟩ := h
    rw [List.drop_succ_cons, List.drop_succ_cons]
    exact RDs.drop n h3
theorem RDs.set : ∀ {ds : List D} {vs : List L2.V} (n : Nat) {d : D} {v : L2.V}, RD K f H d v → RDs K f H ds vs → RDs K f H (ds.set n d) (vs.set n v)
  | [], _, _, _, _, _, h => by rw [RDs.nil] at h; subst h; simp [RDs.nil]
  | x :: ds, _, 0, d, v, hd, h => by
    rw [RDs.cons] at h
    obtain ⟨w, r, rfl, h2, h3⟩ := h
    rw [List.set_cons_zero, List.set_cons_zero, RDs.cons]
    exact ⟨v, r, rfl, hd, h3⟩
  | x :: ds, _, n + 1, d, v, hd, h => by
    rw [RDs.cons] at h
    obtain ⟨w, r, rfl, h2, h3⟩ := h
    rw [List.set_cons_succ, List.set_cons_succ, RDs.cons]
    exact ⟨w, _, rfl, h2, RDs.set n hd h3⟩
theorem RDs.eraseIdx : ∀ {ds : List D} {vs : List L2.V} (n : Nat), RDs K f H ds vs → RDs K f H (ds.eraseIdx n) (vs.eraseIdx n)
  | [], _, _, h => by rw [RDs.nil] at h; subst h; simp [RDs.nil]
  | x :: ds, _, 0, h => by
    rw [RDs.cons] at h
    obtain ⟨w, r, rfl, h2, h3⟩ := h
    simpa using h3
  | x :: ds, _, n + 1, h => by
    rw [RDs.cons] at h
    obtain ⟨w, r, rfl, h2, h3⟩ := h
    rw [List.eraseIdx_cons_succ, List.eraseIdx_cons_succ, RDs.cons]
    exact ⟨w, _, rfl, h2, RDs.eraseIdx n h3⟩
theorem RDs.ints : ∀ {ns : List Int} {vs : List L2.V}, RDs K f H (ns.map D.int) vs → vs = ns.map L2.V.int
  | [], _, h => by rw [List.map_nil, RDs.nil] at h; subst h; rfl
  | n :: ns, _, h => by
    rw [List.map_cons, RDs.cons] at h
    obtain ⟨v, r, rfl, h2, h3⟩ := h
    rw [RD.int] at h2
    rw [h2, RDs.ints h3]; rfl
theorem RDs.of_ints : ∀ (ns : List Int), RDs K f H (ns.map D.int) (ns.map L2.V.int)
  | [] => by simp [RDs.nil]
  | n :: ns => by
    rw [List.map_cons, List.map_cons, RDs.cons]
    exact ⟨_, _, rfl, by rw [RD.int], RDs.of_ints ns⟩
theorem RDs.bools : ∀ {bs : List Bool} {vs : List L2.V}, RDs K f H (bs.map D.bl) vs → vs = bs.map L2.V.bl
  | [], _, h => by rw [List.map_nil, RDs.nil] at h; subst h; rfl
  | n :: ns, _, h => by
    rw [List.map_cons, RDs.cons] at h
    obtain ⟨v, r, rfl, h2, h3⟩ := h
    rw [RD.bl] at h2
    rw [h2, RDs.bools h3]; rfl

/-! ### the store against the heap -/
/-- a list that may not be changed: frozen, or the module's -/
def FzL (K : Kf) (H : Hp) (a : Addr) (xs : List L2.V) : Prop :=
  (∃ o, H a = some (.frz o (.lst xs))) ∨
    ∃ (o : Obj) (its : Array Value) (n : Nat), K.lookup a = some o ∧ o.cls = .type "list" ∧ o.dict = none ∧ o.data = .seq its n ∧ its.size ≤ sizeLine ∧ L2.Vals xs its.toList
theorem FzL.sq {a : Addr} {xs : List L2.V} (h : FzL K H a xs) : L2.SqL K H a xs := by
  rcases h with h | h
  · exact .inl (.inr h)
  · exact .inr h
def RC (K : Kf) (f : List Addr) (H : Hp) : C → Addr → Prop
  | .lst ds, a => ∃ vs, H a = some (.lst vs) ∧ RDs K f H ds vs
  | .frz ds, a => ∃ vs, FzL K H a vs ∧ RDs K f H ds vs
  | .dic kvs, a => ∃ ks : List (L2.Key × L2.V), H a = some (.dK ks) ∧ ks.map (·.1) = kvs.map (·.1) ∧ RDs K f H (kvs.map (·.2)) (ks.map (·.2))
  | .frd kvs tk, a => H a = some (.frz tk.1 (.dK tk.2)) ∧ tk.2.map (·.1) = kvs.map (·.1) ∧ RDs K f H (kvs.map (·.2)) (tk.2.map (·.2))
/-- a cell that may be changed -/
def mutC : C → Bool
  | .frz _ => false
  | _ => true
structure RelS (K : Kf) (f : List Addr) (st : Store) (H : Hp) : Prop where
  len : f.length = st.length
  nd : ∀ (n m : Nat) (c c' : C) (a : Addr), st[n]? = some c → st[m]? = some c' → mutC c = true → mutC c' = true → f[n]? = some a → f[m]? = some a → n = m
  cell : ∀ (n : Nat) (c : C) (a : Addr), st[n]? = some c → f[n]? = some a → RC K f H c a
structure Rel (K : Kf) (f : List Addr) (ρ : Env) (st : Store) (σ : L2.St) (H : Hp) : Prop extends RelS K f st H where
  env : ∀ (i : Nat) (d : D), lk ρ i = some d → ∃ v, σ[i]? = some (some v) ∧ RD K f H d v
  le : ρ.length ≤ σ.length
theorem RelS.at (r : RelS K f st H) {n : Nat} {c : C} (h : st[n]? = some c) : ∃ a, f[n]? = some a ∧ RC K f H c a := by
  have hn := (List.getElem?_eq_some_iff.mp h).1
  have hn' : n < f.length := by rw [r.len]; exact hn
  exact ⟨f[n], by simp [hn'], r.cell n c _ h (by simp [hn'])⟩
theorem RelS.rdL (r : RelS K f st H) {n : Nat} {xs : List D} (h : rdL st n xs) : ∃ a vs, f[n]? = some a ∧ H a = some (.lst vs) ∧ RDs K f H xs vs := by
  obtain ⟨a, h1, vs, h2, h3⟩ := r.at h
  exact ⟨a, vs, h1, h2, h3⟩
theorem RelS.rdD (r : RelS K f st H) {n : Nat} {kvs : List (Sum Int Str × D)} (h : Pd.rdD st n kvs) : ∃ a ks, f[n]? = some a ∧ H a = some (.dK ks) ∧ ks.map (·.1) = kvs.map (·.1) ∧ RDs K f H (kvs.map (·.2)) (ks.map (·.2)) := by
  obtain ⟨a, h1, ks, h2, h3⟩ := r.at h
  exact ⟨a, ks, h1, h2, h3⟩
theorem RelS.rdDA (r : RelS K f st H) {n : Nat} {kvs : List (Sum Int Str × D)} (h : Pd.rdDA st n kvs) : ∃ a ks, f[n]? = some a ∧ L2.Rd H a (.dK ks) ∧ ks.map (·.1) = kvs.map (·.1) ∧ RDs K f H (kvs.map (·.2)) (ks.map (·.2)) := by
  rcases h with h | ⟨tk, h⟩
  · obtain ⟨a, h1, ks, h2, h3⟩ := r.at h
    exact ⟨a, ks, h1, .inl h2, h3⟩
  · obtain ⟨a, h1, h2, h3⟩ := r.at h
    exact ⟨a, tk.2, h1, .inr ⟨_, h2⟩, h3⟩
theorem RelS.rdA (r : RelS K f st H) {n : Nat} {xs : List D} (h : rdA st n xs) : ∃ a vs, f[n]? = some a ∧ L2.SqL K H a vs ∧ RDs K f H xs vs := by
  rcases h with h | h
  · obtain ⟨a, h1, vs, h2, h3⟩ := r.at h
    exact ⟨a, vs, h1, .of h2, h3⟩
  · obtain ⟨a, h1, vs, h2, h3⟩ := r.at h
    exact ⟨a, vs, h1, h2.sq, h3⟩
theorem Rel.later (r : Rel K f ρ st σ H) (e : Ext K f H f' H') (s : RelS K f' st' H') : Rel K f' ρ st' σ H' :=
  ⟨s, fun i d h => by
    obtain ⟨v, h1, h2⟩ := r.env i d h
    exact ⟨v, h1, h2.mono e⟩, r.le⟩
theorem lk_lt : ∀ {ρ : Env} {i : Nat} {d : D}, lk ρ i = some d → i < ρ.length
  | [], _, _, h => by simp [lk] at h
  | _ :: _, 0, _, _ => by simp
  | _ :: r, i + 1, _, h => by
    have := lk_lt (ρ := r) (i := i) (by simpa [lk] using h)
    simp; omega
theorem wipeE_length (ρ : Env) : ∀ vs : List Nat, (wipeE ρ vs).length = ρ.length
  | [] => rfl
  | v :: vs => by unfold wipeE; rw [List.length_set, wipeE_length ρ vs]
theorem lk_set {ρ : Env} {i j : Nat} {d x : D} (h : lk (ρ.set i (some x)) j = some d) : (j = i ∧ d = x) ∨ (j ≠ i ∧ lk ρ j = some d) := by
  induction ρ generalizing i j with
  | nil => simp [lk] at h
  | cons y r ih =>
    cases i with
    | zero =>
      cases j with
      | zero => simp [lk] at h; exact .inl ⟨rfl, h.symm⟩
      | succ j => simp [lk] at h; exact .inr ⟨by simp, by simpa [lk] using h⟩
    | succ i =>
      cases j with
      | zero => simp [lk] at h; exact .inr ⟨by simp, by simpa [lk] using h⟩
      | succ j =>
        simp [lk] at h
        rcases ih h with ⟨e, h⟩ | ⟨e, h⟩
        · exact .inl ⟨by omega, h⟩
        · exact .inr ⟨by omega, by simpa [lk] using h⟩
theorem lk_none {ρ : Env} {i j : Nat} {d : D} (h : lk (ρ.set i none) j = some d) : j ≠ i ∧ lk ρ j = some d := by
  induction ρ generalizing i j with
  | nil => simp [lk] at h
  | cons y r ih =>
    cases i with
    | zero =>
      cases j with
      | zero => simp [lk] at h
      | succ j => simp [lk] at h; exact ⟨by simp, by simpa [lk] using h⟩
    | succ i =>
      cases j with
      | zero => simp [lk] at h; exact ⟨by simp, by simpa [lk] using h⟩
      | succ j =>
        simp [lk] at h
        obtain ⟨e, h⟩ := ih h
        exact ⟨by omega, by simpa [lk] using h⟩
theorem lk_wipe {ρ : Env} {j : Nat} {d : D} : ∀ {vs : List Nat}, lk (wipeE ρ vs) j = some d → j ∉ vs ∧ lk ρ j = some d
  | [], h => ⟨by simp, h⟩
  | v :: vs, h => by
    unfold wipeE at h
    obtain ⟨h1, h2⟩ := lk_none h
    obtain ⟨h3, h4⟩ := lk_wipe h2
    exact ⟨by simp [h1, h3], h4⟩
/-- the slots a target may write: all others as they were -/
def Out (vs : List Nat) (σ σ' : L2.St) : Prop := σ'.length = σ.length ∧ ∀ j, j ∉ vs → σ'[j]? = σ[j]?
theorem Rel.put {i : Nat} {d : D} {v : L2.V} (r : Rel K f ρ st σ H) (h : RD K f H d v) : Rel K f (ρ.set i (some d)) st (σ.set i (some v)) H :=
  ⟨r.toRelS, fun j x hx => by
    have hl := lk_lt hx
    rw [List.length_set] at hl
    have hle := r.le
    rcases lk_set hx with ⟨rfl, rfl⟩ | ⟨ne, h'⟩
    · exact ⟨v, by rw [List.getElem?_set_self (by omega)], h⟩
    · obtain ⟨w, h1, h2⟩ := r.env j x h'
      exact ⟨w, by rw [List.getElem?_set_ne (Ne.symm ne)]; exact h1, h2⟩, by rw [List.length_set, List.length_set]; exact r.le⟩
theorem wipe_keep {σ : L2.St} {i : Nat} : ∀ {vs : List Nat}, i ∉ vs → (L2.wipe σ vs)[i]? = σ[i]?
  | [], _ => rfl
  | v :: vs, h => by
    have h1 : i ≠ v := fun e => h (by simp [e])
    unfold L2.wipe
    rw [List.getElem?_set_ne (Ne.symm h1)]
    exact wipe_keep fun e => h (List.mem_cons_of_mem _ e)
theorem Rel.wipe {vs : List Nat} (r : Rel K f ρ st σ H) : Rel K f (wipeE ρ vs) st (L2.wipe σ vs) H :=
  ⟨r.toRelS, fun j x hx => by
    obtain ⟨h1, h2⟩ := lk_wipe hx
    obtain ⟨v, h3, h4⟩ := r.env j x h2
    exact ⟨v, by rw [wipe_keep h1]; exact h3, h4⟩, by rw [wipeE_length, L2.wipe_length]; exact r.le⟩
theorem Out.wipe {vs : List Nat} {σ σ' : L2.St} (h : Out vs (L2.wipe σ vs) σ') : L2.wipe σ' vs = L2.wipe σ vs := by
  obtain ⟨h1, h2⟩ := h
  apply List.ext_getElem?
  intro j
  have wiped : ∀ (τ : L2.St) (ws : List Nat), j ∈ ws → (L2.wipe τ ws)[j]? = if j < τ.length then some none else none := by
    intro τ ws
    induction ws with
    | nil => intro h; cases h
    | cons v ws ih =>
      intro h
      unfold L2.wipe
      by_cases e : v = j
      · subst e
        by_cases hl : v < τ.length
        · rw [List.getElem?_set_self (by rw [L2.wipe_length]; exact hl), if_pos hl]
        · rw [List.getElem?_eq_none (by rw [List.length_set, L2.wipe_length]; omega), if_neg hl]
      · rw [List.getElem?_set_ne e]
        rcases List.mem_cons.mp h with q | q
        · exact absurd q.symm e
        · exact ih q
  by_cases hj : j ∈ vs
  · rw [wiped σ' vs hj, wiped σ vs hj, h1, L2.wipe_length]
  · rw [wipe_keep hj, h2 j hj]

/-! a new object, a changed one -/
/-- what may stand where something is laid or changed -/
def Wr (H : Hp) (b : Addr) : Prop := H b = none ∨ (∃ ys, H b = some (.lst ys)) ∨ (∃ ys, H b = some (.dK ys)) ∨ ∃ o ys, H b = some (.frz o (.dK ys))
theorem SqT.upd {a b : Addr} {xs : List L2.V} {o : L2.HO} (h : L2.SqT K H a xs) (n : Wr H b) : L2.SqT K (L2.upd H b o) a xs := by
  rcases h with (h | ⟨q, h⟩) | h
  · have : a ≠ b := by
      rintro rfl
      rcases n with n | ⟨ys, n⟩ | ⟨ys, n⟩ | ⟨o, ys, n⟩ <;> rw [n] at h <;> cases h
    exact .inl (.inl (by rw [L2.upd_ne this]; exact h))
  · have : a ≠ b := by
      rintro rfl
      rcases n with n | ⟨ys, n⟩ | ⟨ys, n⟩ | ⟨o, ys, n⟩ <;> rw [n] at h <;> cases h
    exact .inl (.inr ⟨q, by rw [L2.upd_ne this]; exact h⟩)
  · exact .inr h
theorem FzL.upd {a b : Addr} {xs : List L2.V} {o : L2.HO} (h : FzL K H a xs) (n : Wr H b) : FzL K (L2.upd H b o) a xs := by
  rcases h with ⟨q, h⟩ | h
  · have : a ≠ b := by
      rintro rfl
      rcases n with n | ⟨ys, n⟩ | ⟨ys, n⟩ | ⟨o, ys, n⟩ <;> rw [n] at h <;> cases h
    exact .inl ⟨q, by rw [L2.upd_ne this]; exact h⟩
  · exact .inr h
theorem Ext.upd {b : Addr} {o : L2.HO} {g : List Addr} (n : Wr H b) : Ext K f H (f ++ g) (L2.upd H b o) := ⟨⟨g, rfl⟩, fun _ _ h => SqT.upd h n⟩
theorem Ext.upd0 {b : Addr} {o : L2.HO} (n : Wr H b) : Ext K f H f (L2.upd H b o) := ⟨⟨[], by simp⟩, fun _ _ h => SqT.upd h n⟩
theorem RC.upd {c : C} {a b : Addr} {o : L2.HO} (h : RC K f H c a) (e : Ext K f H f' (L2.upd H b o)) (n : Wr H b) (ne : mutC c = true → a ≠ b) : RC K f' (L2.upd H b o) c a := by
  cases c with
  | lst ds =>
    obtain ⟨vs, h1, h2⟩ := h
    exact ⟨vs, by rw [L2.upd_ne (ne rfl)]; exact h1, h2.mono e⟩
  | frz ds =>
    obtain ⟨vs, h1, h2⟩ := h
    exact ⟨vs, h1.upd n, h2.mono e⟩
  | dic kvs =>
    obtain ⟨ks, h1, h2, h3⟩ := h
    exact ⟨ks, by rw [L2.upd_ne (ne rfl)]; exact h1, h2, h3.mono e⟩
  | frd kvs tk =>
    obtain ⟨h1, h2, h3⟩ := h
    exact ⟨by rw [L2.upd_ne (ne rfl)]; exact h1, h2, h3.mono e⟩
theorem RC.some {c : C} {a : Addr} (h : RC K f H c a) (m : mutC c = true) : H a ≠ none := by
  cases c with
  | lst ds => obtain ⟨vs, h1, _⟩ := h; rw [h1]; simp
  | frz ds => cases m
  | dic kvs => obtain ⟨ks, h1, _⟩ := h; rw [h1]; simp
  | frd kvs tk => obtain ⟨h1, _⟩ := h; rw [h1]; simp
/-- a new tracked object that is no cell (a tuple) -/
theorem RelS.lay (r : RelS K f st H) {p : Addr} {o : L2.HO} (hp : H p = none) : RelS K f st (L2.upd H p o) ∧ Ext K f H f (L2.upd H p o) := by
  have e : Ext K f H f (L2.upd H p o) := Ext.upd0 (.inl hp)
  exact ⟨⟨r.len, r.nd, fun n c a h1 h2 => (r.cell n c a h1 h2).upd e (.inl hp) fun m z => (r.cell n c a h1 h2).some m (z ▸ hp)⟩, e⟩
/-- a new cell -/
theorem RelS.new (r : RelS K f st H) {p : Addr} {o : L2.HO} {c : C} (hp : H p = none) (hc : RC K (f ++ [p]) (L2.upd H p o) c p) : RelS K (f ++ [p]) (st ++ [c]) (L2.upd H p o) ∧ Ext K f H (f ++ [p]) (L2.upd H p o) := by
  have e : Ext K f H (f ++ [p]) (L2.upd H p o) := Ext.upd (.inl hp)
  have split : ∀ {n : Nat} {c' : C} {a : Addr}, (st ++ [c])[n]? = some c' → (f ++ [p])[n]? = some a → (n < st.length ∧ st[n]? = some c' ∧ f[n]? = some a) ∨ (n = st.length ∧ c' = c ∧ a = p) := fun {n c' a} h1 h2 => by
    have hl := r.len
    by_cases hn : n < st.length
    · rw [List.getElem?_append_left hn] at h1
      rw [List.getElem?_append_left (by rw [r.len]; exact hn)] at h2
      exact .inl ⟨hn, h1, h2⟩
    · rw [List.getElem?_append_right (by omega)] at h1
      rw [List.getElem?_append_right (by rw [r.len]; omega)] at h2
      have e0 : n - st.length = 0 := by
        have := (List.getElem?_eq_some_iff.mp h1).1
        simp at this; omega
      rw [e0] at h1
      rw [hl, e0] at h2
      simp at h1 h2
      exact .inr ⟨by omega, h1.symm, h2.symm⟩
  refine ⟨⟨by simp [r.len], fun n m c1 c2 a h1 h2 m1 m2 h3 h4 => ?_, fun n c' a h1 h2 => ?_⟩, e⟩
  · rcases split h1 h3 with ⟨l1, s1, t1⟩ | ⟨l1, rfl, rfl⟩ <;> rcases split h2 h4 with ⟨l2, s2, t2⟩ | ⟨l2, rfl, e2⟩
    · exact r.nd n m c1 c2 a s1 s2 m1 m2 t1 t2
    · subst e2
      exact absurd hp ((r.cell n c1 _ s1 t1).some m1)
    · exact absurd hp ((r.cell m c2 _ s2 t2).some m2)
    · omega
  · rcases split h1 h2 with ⟨l1, s1, t1⟩ | ⟨l1, rfl, rfl⟩
    · exact (r.cell n c' a s1 t1).upd e (.inl hp) fun m z => (r.cell n c' a s1 t1).some m (z ▸ hp)
    · exact hc
/-- a cell is changed -/
theorem RelS.chg (r : RelS K f st H) {p : Addr} {n : Nat} {c c' : C} {o : L2.HO} (hs : st[n]? = some c) (hm : mutC c = true) (hn : f[n]? = some p) (hp : Wr H p) (hm' : mutC c' = true) (hd : RC K f (L2.upd H p o) c' p) :
    RelS K f (st.set n c') (L2.upd H p o) ∧ Ext K f H f (L2.upd H p o) := by
  have e : Ext K f H f (L2.upd H p o) := Ext.upd0 hp
  have hl : n < st.length := (List.getElem?_eq_some_iff.mp hs).1
  have split : ∀ {m : Nat} {d : C}, (st.set n c')[m]? = some d → (m = n ∧ d = c') ∨ (m ≠ n ∧ st[m]? = some d) := fun {m d} h => by
    by_cases hmn : m = n
    · subst hmn
      rw [List.getElem?_set_self hl] at h
      cases h
      exact .inl ⟨rfl, rfl⟩
    · rw [List.getElem?_set_ne (Ne.symm hmn)] at h
      exact .inr ⟨hmn, h⟩
  refine ⟨⟨by simp [r.len], fun i j c1 c2 a h1 h2 m1 m2 h3 h4 => ?_, fun m d a h1 h2 => ?_⟩, e⟩
  · rcases split h1 with ⟨rfl, rfl⟩ | ⟨n1, s1⟩ <;> rcases split h2 with ⟨rfl, rfl⟩ | ⟨n2, s2⟩
    · rfl
    · exact r.nd _ _ _ _ a hs s2 hm m2 h3 h4
    · exact r.nd _ _ _ _ a s1 hs m1 hm h3 h4
    · exact r.nd _ _ _ _ a s1 s2 m1 m2 h3 h4
  · rcases split h1 with ⟨rfl, rfl⟩ | ⟨n1, s1⟩
    · rw [hn] at h2; cases h2
      exact hd
    · exact (r.cell m d a s1 h2).upd e hp fun md z => by
        subst z
        exact n1 (r.nd _ _ _ _ a s1 hs md hm h2 hn)
end
end Pd
end PartPdSoundA

section PartPdSoundB
set_option Elab.async false
set_option linter.all false
set_option maxRecDepth 100000
set_option maxHeartbeats 1000000
/-! Pd over the hand layer: lifting, expressions. Own work. -/
namespace Pd
open PySem PySem.Spec

/-! ### what is wanted, lifted -/
def LQ (K : Kf) (f : List Addr) (H : Hp) (Q' : Pd.K) (Q : L2.VK) : Prop :=
  ∀ (d : D) (st' : Store) (v : L2.V) (f' : List Addr) (H' : Hp), Q' d st' → Ext K f H f' H' → RelS K f' st' H' → RD K f' H' d v → Q v H'
def LT (K : Kf) (f : List Addr) (H : Hp) (Q' : Bool → Store → Prop) (Q : Bool → Hp → Prop) : Prop :=
  ∀ (b : Bool) (st' : Store) (f' : List Addr) (H' : Hp), Q' b st' → Ext K f H f' H' → RelS K f' st' H' → Q b H'
def LA (K : Kf) (f : List Addr) (H : Hp) (Q' : List D → Store → Prop) (Q : List L2.V → Hp → Prop) : Prop :=
  ∀ (ds : List D) (st' : Store) (vs : List L2.V) (f' : List Addr) (H' : Hp), Q' ds st' → Ext K f H f' H' → RelS K f' st' H' → RDs K f' H' ds vs → Q vs H'
def lift (K : Kf) (t : TE) : L2.TE := fun σ H Q => ∃ f ρ st Q', Rel K f ρ st σ H ∧ t ρ st Q' ∧ LQ K f H Q' Q
def liftT (K : Kf) (t : TT) : L2.TT := fun σ H Q => ∃ f ρ st Q', Rel K f ρ st σ H ∧ t ρ st Q' ∧ LT K f H Q' Q
def liftA (K : Kf) (t : TA) : L2.TA := fun σ H Q => ∃ f ρ st Q', Rel K f ρ st σ H ∧ t ρ st Q' ∧ LA K f H Q' Q
abbrev PD (X : L2.Cx) (e : Expr) (t : TE) : Prop := L2.PE X e (lift X.K t)
abbrev PDT (X : L2.Cx) (e : Expr) (t : TT) : Prop := L2.PT X e (liftT X.K t)
abbrev PDA (X : L2.Cx) (es : List Expr) (t : TA) : Prop := L2.PA X es (liftA X.K t)
section
variable {X : L2.Cx} {K : Kf} {f f' : List Addr} {H H' : Hp} {st st' : Store} {ρ : Env} {σ : L2.St}
theorem pe_imp {e : Expr} {t t' : L2.TE} (h : L2.PE X e t) (m : ∀ σ H Q, t' σ H Q → t σ H Q) : L2.PE X e t' := ⟨fun pins s σ H Q I q => h.run pins s σ H Q I (m σ H Q q)⟩
theorem pt_imp {e : Expr} {t t' : L2.TT} (h : L2.PT X e t) (m : ∀ σ H Q, t' σ H Q → t σ H Q) : L2.PT X e t' := ⟨fun pins s σ H Q I q => h.run pins s σ H Q I (m σ H Q q)⟩
theorem pa_imp {e : List Expr} {t t' : L2.TA} (h : L2.PA X e t) (m : ∀ σ H Q, t' σ H Q → t σ H Q) : L2.PA X e t' := ⟨fun pos pins s σ H Q I q => h.run pos pins s σ H Q I (m σ H Q q)⟩
theorem LQ.later {Q' : Pd.K} {Q : L2.VK} (l : LQ K f H Q' Q) (e : Ext K f H f' H') : LQ K f' H' Q' Q := fun d st' v f2 H2 q e2 s r => l d st' v f2 H2 q (e.trans e2) s r
theorem LQ.now {Q' : Pd.K} {Q : L2.VK} {d : D} {v : L2.V} (l : LQ K f H Q' Q) (s : RelS K f st H) (q : Q' d st) (r : RD K f H d v) : Q v H := l d st v f H q .refl s r
/-- a new tuple -/
theorem LQ.tup {Q' : Pd.K} {Q : L2.VK} {ds : List D} {vs : List L2.V} (l : LQ K f H Q' Q) (s : RelS K f st H) (q : Q' (.tup ds) st) (r : RDs K f H ds vs) {p : Addr} (hp : H p = none) : Q (.ref p) (L2.upd H p (.tup vs)) := by
  obtain ⟨s', e⟩ := s.lay (o := .tup vs) hp
  exact l _ st _ f _ q e s' (RD.tup.mpr ⟨p, vs, rfl, .of L2.upd_same, r.mono e⟩)
/-- a new list -/
theorem LQ.lst {Q' : Pd.K} {Q : L2.VK} {ds : List D} {vs : List L2.V} (l : LQ K f H Q' Q) (s : RelS K f st H) (q : Q' (.ref st.length) (st ++ [.lst ds])) (r : RDs K f H ds vs) {p : Addr} (hp : H p = none) : Q (.ref p) (L2.upd H p (.lst vs)) := by
  have e : Ext K f H (f ++ [p]) (L2.upd H p (.lst vs)) := Ext.upd (.inl hp)
  obtain ⟨s', e⟩ := s.new (o := .lst vs) (c := .lst ds) hp ⟨vs, L2.upd_same, r.mono e⟩
  exact l _ _ _ _ _ q e s' (RD.ref.mpr ⟨p, by rw [← s.len]; simp, rfl⟩)
/-- a changed list -/
theorem RelS.put {n : Nat} {a : Addr} {xs ds : List D} {vs ws : List L2.V} (s : RelS K f st H) (hn : f[n]? = some a) (h : Pd.rdL st n xs) (hH : H a = some (.lst vs)) (r : RDs K f H ds ws) :
    RelS K f (st.set n (.lst ds)) (L2.upd H a (.lst ws)) ∧ Ext K f H f (L2.upd H a (.lst ws)) :=
  s.chg (c := .lst xs) h rfl hn (.inr (.inl ⟨vs, hH⟩)) rfl ⟨ws, L2.upd_same, r.mono (Ext.upd0 (.inr (.inl ⟨vs, hH⟩)))⟩

/-! ### names, constants -/
theorem pd_var {i : Nat} {x : Str} {pos : Pos} (hN : X.N[i]? = some x) (hv : L2.Vis X.env.scope x := by first | exact .inl rfl | exact .inr (.inl rfl) | exact .inr (.inr rfl)) (hd : (x == ("__debug__" : Str)) = false := by decide) (hcd : (x == ("__classdict__" : Str)) = false := by decide) : PD X (.Name x pos) (dVar i) := by
  refine pe_imp (L2.pe_var hN hv hd hcd) fun σ H Q ⟨f, ρ, st, Q', R, ⟨d, h1, h2⟩, l⟩ => ?_
  obtain ⟨v, e, r⟩ := R.env i d h1
  exact ⟨v, e, l.now R.toRelS h2 r⟩
theorem pd_int {i : Int} {j pos} : PD X (.Constant (.int i) j pos) (dC (.int i)) := pe_imp L2.pe_int fun σ H Q ⟨f, ρ, st, Q', R, h, l⟩ => l.now R.toRelS h (RD.int.mpr rfl)
theorem pd_bl {b : Bool} {j pos} : PD X (.Constant (.bool b) j pos) (dC (.bl b)) := pe_imp L2.pe_bl fun σ H Q ⟨f, ρ, st, Q', R, h, l⟩ => l.now R.toRelS h (RD.bl.mpr rfl)
theorem pd_non {j pos} : PD X (.Constant .none j pos) (dC .non) := pe_imp L2.pe_non fun σ H Q ⟨f, ρ, st, Q', R, h, l⟩ => l.now R.toRelS h (RD.non.mpr rfl)
theorem pd_str {x : Str} {j pos} : PD X (.Constant (.str x) j pos) (dC (.str x)) := pe_imp L2.pe_str fun σ H Q ⟨f, ρ, st, Q', R, h, l⟩ => l.now R.toRelS h (RD.str.mpr rfl)
/-- a constant of the module: data -/
theorem pd_glob {x : Str} {d : D} {u : Value} {pos : Pos} (hg : L2.Gl X x) (hm : X.mg x = some u) (h : ∃ v, L2.RelV v u ∧ ∀ f H, RD X.K f H d v) (hd : (x == ("__debug__" : Str)) = false := by decide) : PD X (.Name x pos) (dC d) := by
  obtain ⟨v, r, hr⟩ := h
  exact pe_imp (L2.pe_glob hg hm r hd) fun σ H Q ⟨f, ρ, st, Q', R, h, l⟩ => l.now R.toRelS h (hr f H)

/-! ### operators -/
def Real2 (K : Kf) (r : L2.R2) (k : K2) : Prop := ∀ (f : List Addr) (st : Store) (H : Hp) (x y : D) (v w : L2.V) (Q' : Pd.K) (Q : L2.VK), RelS K f st H → RD K f H x v → RD K f H y w → k x y st Q' → LQ K f H Q' Q → r v w H Q
def Real1 (K : Kf) (r : L2.V → Hp → L2.VK → Prop) (k : D → Store → Pd.K → Prop) : Prop := ∀ (f : List Addr) (st : Store) (H : Hp) (x : D) (v : L2.V) (Q' : Pd.K) (Q : L2.VK), RelS K f st H → RD K f H x v → k x st Q' → LQ K f H Q' Q → r v H Q
theorem two_imp {r : L2.R2} {k : K2} {ta tb : TE} (hr : Real2 K r k) {Q : L2.VK} (h : lift K (dOp k ta tb) σ H Q) : L2.tOp r (lift K ta) (lift K tb) σ H Q := by
  obtain ⟨f, ρ, st, Q', R, h, l⟩ := h
  refine ⟨f, ρ, st, _, R, h, fun x st1 v f1 H1 h1 e1 s1 r1 => ⟨f1, ρ, st1, _, R.later e1 s1, h1, fun y st2 w f2 H2 h2 e2 s2 r2 => ?_⟩⟩
  exact hr f2 st2 H2 x y v w Q' Q s2 (r1.mono e2) r2 h2 (l.later (e1.trans e2))
section
variable {a b c : Expr} {ta tb tc : TE} {pos : Pos}
theorem pd_op {op : Operator} {r : L2.R2} {k : K2} (ho : L2.OpR X (binaryOp op) r) (hr : Real2 X.K r k) (ha : PD X a ta) (hb : PD X b tb) : PD X (.BinOp a op b pos) (dOp k ta tb) :=
  pe_imp (L2.pe_op ho ha hb) fun σ H Q h => two_imp hr h
theorem pd_un {op : UnaryOp} {r : L2.V → Hp → L2.VK → Prop} {k : D → Store → Pd.K → Prop} (ho : L2.UnR X (unaryOp op) r) (hr : Real1 X.K r k) (ha : PD X a ta) : PD X (.UnaryOp op a pos) (dUn k ta) := by
  refine pe_imp (L2.pe_un ho ha) fun σ H Q ⟨f, ρ, st, Q', R, h, l⟩ => ?_
  exact ⟨f, ρ, st, _, R, h, fun x st1 v f1 H1 h1 e1 s1 r1 => hr f1 st1 H1 x v Q' Q s1 r1 h1 (l.later e1)⟩
end
theorem real_int {g : Int → Int → Int} {C : Int → Int → Prop} {k : K2} (hk : ∀ x y st Q, k x y st Q → ∃ i j, x = .int i ∧ y = .int j ∧ C i j ∧ Q (.int (g i j)) st) : Real2 K (L2.rI C fun i j => .int (g i j)) k := by
  intro f st H x y v w Q' Q s r1 r2 h l
  obtain ⟨i, j, rfl, rfl, hc, q⟩ := hk x y st Q' h
  rw [RD.int] at r1 r2
  exact ⟨i, j, r1, r2, hc, l.now s q (RD.int.mpr rfl)⟩
theorem real_int0 {g : Int → Int → Int} {k : K2} (hk : ∀ x y st Q, k x y st Q → ∃ i j, x = .int i ∧ y = .int j ∧ Q (.int (g i j)) st) : Real2 K (L2.rI0 fun i j => .int (g i j)) k := by
  intro f st H x y v w Q' Q s r1 r2 h l
  obtain ⟨i, j, rfl, rfl, q⟩ := hk x y st Q' h
  rw [RD.int] at r1 r2
  exact ⟨i, j, r1, r2, l.now s q (RD.int.mpr rfl)⟩
/-- + -/
def rAdd (K : Kf) : L2.R2 := fun x y H Q => (∃ i j, x = .int i ∧ y = .int j ∧ Q (.int (i + j)) H) ∨ (∃ i j, x = .str i ∧ y = .str j ∧ i.length + j.length ≤ sizeLine ∧ Q (.str (i ++ j)) H) ∨ L2.rCatA K x y H Q ∨ L2.rCat x y H Q
theorem op_addA : L2.OpR X (binaryOp .Add) (rAdd X.K) := (L2.op_add (X := X)).or (L2.op_add_str.or (L2.op_catA.or L2.op_cat))
theorem RDs.isNil {ds : List D} {vs : List L2.V} (h : RDs K f H ds vs) : ds = [] ↔ vs = [] := by
  have := h.length
  constructor
  · rintro rfl; exact List.length_eq_zero_iff.mp (by simpa using this)
  · rintro rfl; exact List.length_eq_zero_iff.mp (by simpa using this.symm)
theorem real_add : Real2 K (rAdd K) addK := by
  intro f st H x y v w Q' Q s r1 r2 h l
  cases x <;> cases y <;> try (exact h.elim)
  · rw [RD.int] at r1 r2
    exact .inl ⟨_, _, r1, r2, l.now s h (RD.int.mpr rfl)⟩
  · rw [RD.str] at r1 r2
    obtain ⟨h1, h2⟩ := h
    exact .inr (.inl ⟨_, _, r1, r2, by rw [← szl_eq]; exact h1, l.now s h2 (RD.str.mpr rfl)⟩)
  · rw [RD.tup] at r1 r2
    obtain ⟨a, vs, rfl, t1, d1⟩ := r1
    obtain ⟨b, ws, rfl, t2, d2⟩ := r2
    obtain ⟨h1, h2⟩ := h
    refine .inr (.inr (.inl ⟨a, b, vs, ws, rfl, rfl, t1, t2, by rw [d1.length, d2.length, ← szl_eq]; exact h1, fun e => ?_, fun _ e => ?_, fun _ _ p hp => ?_⟩))
    · have e' := d1.isNil.mpr e
      subst e'
      exact l.now s h2 (RD.tup.mpr ⟨b, ws, rfl, t2, d2⟩)
    · have e' := d2.isNil.mpr e
      subst e'
      rw [List.append_nil] at h2
      exact l.now s h2 (RD.tup.mpr ⟨a, vs, rfl, t1, d1⟩)
    · exact l.tup s h2 (d1.append d2) hp
  · rw [RD.ref] at r1 r2
    obtain ⟨a, e1, rfl⟩ := r1
    obtain ⟨b, e2, rfl⟩ := r2
    obtain ⟨xs, ys, h1, h2, h3, h4⟩ := h
    obtain ⟨a', vs, g1, g2, g3⟩ := s.rdL h1
    obtain ⟨b', ws, k1, k2, k3⟩ := s.rdL h2
    rw [e1] at g1; cases g1
    rw [e2] at k1; cases k1
    exact .inr (.inr (.inr ⟨a, b, vs, ws, rfl, rfl, g2, k2, by rw [g3.length, k3.length, ← szl_eq]; exact h3, fun p hp => l.lst s h4 (g3.append k3) hp⟩))
theorem real_sub : Real2 K (L2.rI0 fun i j => .int (i - j)) subK := real_int0 fun x y st Q h => by
  cases x <;> cases y <;> first | exact h.elim | exact ⟨_, _, rfl, rfl, h⟩
def rMul : L2.R2 := fun x y H Q => L2.rI L2.CMul (fun i j => .int (i * j)) x y H Q ∨ L2.rRep x y H Q
theorem op_mulA : L2.OpR X (binaryOp .Mult) rMul := (L2.op_mul (X := X)).or L2.op_rep
theorem RDs.rep {ds : List D} {vs : List L2.V} (h : RDs K f H ds vs) : ∀ n : Nat, RDs K f H (List.replicate n ds).flatten (List.replicate n vs).flatten
  | 0 => by simp [RDs.nil]
  | n + 1 => by
    rw [List.replicate_succ, List.replicate_succ, List.flatten_cons, List.flatten_cons]
    exact h.append (RDs.rep h n)
theorem real_mul : Real2 K rMul mulK := by
  intro f st H x y v w Q' Q s r1 r2 h l
  cases x <;> cases y <;> try (exact h.elim)
  · rw [RD.int] at r1 r2
    obtain ⟨h1, h2⟩ := h
    exact .inl ⟨_, _, r1, r2, h1, l.now s h2 (RD.int.mpr rfl)⟩
  · rw [RD.ref] at r1
    rw [RD.int] at r2
    obtain ⟨a, e1, rfl⟩ := r1
    obtain ⟨xs, h1, h2, h3, h4, h5⟩ := h
    obtain ⟨a', vs, g1, g2, g3⟩ := s.rdL h1
    rw [e1] at g1; cases g1
    exact .inr ⟨a, _, vs, rfl, r2, g2, h2, h3, by rw [g3.length, ← szl_eq]; exact h4, fun p hp => l.lst s h5 (g3.rep _) hp⟩
theorem real_fdiv : Real2 K (L2.rI L2.CDiv fun i j => .int (i / j)) fdivK := real_int fun x y st Q h => by
  cases x <;> cases y <;> first | exact h.elim | exact ⟨_, _, rfl, rfl, h⟩
theorem real_mod : Real2 K (L2.rI (fun _ j => 0 < j) fun i j => .int (i % j)) modK := real_int fun x y st Q h => by
  cases x <;> cases y <;> first | exact h.elim | exact ⟨_, _, rfl, rfl, h⟩
theorem real_pow : Real2 K (L2.rI L2.CPow fun i j => .int (i ^ j.toNat)) powK := real_int fun x y st Q h => by
  cases x <;> cases y <;> first | exact h.elim | exact ⟨_, _, rfl, rfl, h⟩
theorem real_shl : Real2 K (L2.rI L2.CPow fun i j => .int (i * 2 ^ j.toNat)) shlK := real_int fun x y st Q h => by
  cases x <;> cases y <;> first | exact h.elim | exact ⟨_, _, rfl, rfl, h⟩
theorem real_shr : Real2 K (L2.rI (fun _ j => 0 ≤ j) fun i j => .int (i / 2 ^ j.toNat)) shrK := real_int fun x y st Q h => by
  cases x <;> cases y <;> first | exact h.elim | exact ⟨_, _, rfl, rfl, h⟩
theorem real_and : Real2 K (L2.rI0 fun i j => .int (Builtin.bitAnd i j)) andK := real_int0 fun x y st Q h => by
  cases x <;> cases y <;> first | exact h.elim | exact ⟨_, _, rfl, rfl, h⟩
theorem real_or : Real2 K (L2.rI0 fun i j => .int (Builtin.bitOr i j)) orK := real_int0 fun x y st Q h => by
  cases x <;> cases y <;> first | exact h.elim | exact ⟨_, _, rfl, rfl, h⟩
theorem real_xor : Real2 K (L2.rI0 fun i j => .int (Builtin.bitXor i j)) xorK := real_int0 fun x y st Q h => by
  cases x <;> cases y <;> first | exact h.elim | exact ⟨_, _, rfl, rfl, h⟩
theorem real_neg : Real1 K (L2.rU fun i => .int (-i)) negK := by
  intro f st H x v Q' Q s r1 h l
  cases x <;> try (exact h.elim)
  rw [RD.int] at r1
  exact ⟨_, r1, l.now s h (RD.int.mpr rfl)⟩
theorem real_inv : Real1 K (L2.rU fun i => .int (Builtin.bitNot i)) invK := by
  intro f st H x v Q' Q s r1 h l
  cases x <;> try (exact h.elim)
  rw [RD.int] at r1
  exact ⟨_, r1, l.now s h (RD.int.mpr rfl)⟩
section
variable {a b c : Expr} {ta tb tc : TE} {pos : Pos}
theorem pd_add (ha : PD X a ta) (hb : PD X b tb) : PD X (.BinOp a .Add b pos) (dOp addK ta tb) := pd_op op_addA real_add ha hb
theorem pd_sub (ha : PD X a ta) (hb : PD X b tb) : PD X (.BinOp a .Sub b pos) (dOp subK ta tb) := pd_op L2.op_sub real_sub ha hb
theorem pd_mul (ha : PD X a ta) (hb : PD X b tb) : PD X (.BinOp a .Mult b pos) (dOp mulK ta tb) := pd_op op_mulA real_mul ha hb
theorem pd_fdiv (ha : PD X a ta) (hb : PD X b tb) : PD X (.BinOp a .FloorDiv b pos) (dOp fdivK ta tb) := pd_op L2.op_fdiv real_fdiv ha hb
theorem pd_mod (ha : PD X a ta) (hb : PD X b tb) : PD X (.BinOp a .Mod b pos) (dOp modK ta tb) := pd_op L2.op_mod real_mod ha hb
theorem pd_pow (ha : PD X a ta) (hb : PD X b tb) : PD X (.BinOp a .Pow b pos) (dOp powK ta tb) := pd_op L2.op_pow real_pow ha hb
theorem pd_shl (ha : PD X a ta) (hb : PD X b tb) : PD X (.BinOp a .LShift b pos) (dOp shlK ta tb) := pd_op L2.op_shl real_shl ha hb
theorem pd_shr (ha : PD X a ta) (hb : PD X b tb) : PD X (.BinOp a .RShift b pos) (dOp shrK ta tb) := pd_op L2.op_shr real_shr ha hb
theorem pd_and (ha : PD X a ta) (hb : PD X b tb) : PD X (.BinOp a .BitAnd b pos) (dOp andK ta tb) := pd_op L2.op_and real_and ha hb
theorem pd_or (ha : PD X a ta) (hb : PD X b tb) : PD X (.BinOp a .BitOr b pos) (dOp orK ta tb) := pd_op L2.op_or real_or ha hb
theorem pd_xor (ha : PD X a ta) (hb : PD X b tb) : PD X (.BinOp a .BitXor b pos) (dOp xorK ta tb) := pd_op L2.op_xor real_xor ha hb
theorem pd_neg (ha : PD X a ta) : PD X (.UnaryOp .USub a pos) (dUn negK ta) := pd_un L2.un_neg real_neg ha
theorem pd_inv (ha : PD X a ta) : PD X (.UnaryOp .Invert a pos) (dUn invK ta) := pd_un L2.un_inv real_inv ha
end

/-! ### comparisons -/
mutual
def toP : D → PyData
  | .non => .none
  | .bl b => .bool b
  | .int i => .int i
  | .str x => .str x
  | .tup xs => .tuple (toPs xs)
  | .ref _ => .none
def toPs : List D → List PyData
  | [] => []
  | x :: xs => toP x :: toPs xs
end
theorem strOk_of {x : Str} (h : okS x = true) : PyData.strOk x = true := by
  unfold okS at h
  unfold PyData.strOk
  rw [← Array.all_toList]
  exact h
mutual
theorem toP_dp {n : Nat} : ∀ (d : D) {v : L2.V}, D.okd n d = true → RD K f H d v → L2.Dp K H v (toP d)
  | .non, _, _, h => by rw [RD.non] at h; subst h; exact .non
  | .bl b, _, _, h => by rw [RD.bl] at h; subst h; exact .bl b
  | .int i, _, _, h => by rw [RD.int] at h; subst h; exact .int i
  | .str x, _, _, h => by rw [RD.str] at h; subst h; exact .str x
  | .ref _, _, ok, h => by simp [D.okd] at ok
  | .tup xs, _, ok, h => by
    cases n with
    | zero => simp [D.okd] at ok
    | succ n =>
      rw [RD.tup] at h
      obtain ⟨a, vs, rfl, h1, h2⟩ := h
      exact .tup h1 (toPs_dp xs (n := n) (by simpa [D.okd] using ok) h2)
theorem toPs_dp {n : Nat} : ∀ (ds : List D) {vs : List L2.V}, okds n ds = true → RDs K f H ds vs → L2.DpAll K H vs (toPs ds)
  | [], _, _, h => by rw [RDs.nil] at h; subst h; exact .nil
  | d :: ds, _, ok, h => by
    rw [RDs.cons] at h
    obtain ⟨v, r, rfl, h1, h2⟩ := h
    have ok' : D.okd n d = true ∧ okds n ds = true := by simpa [okds] using ok
    exact .cons (toP_dp d ok'.1 h1) (toPs_dp ds ok'.2 h2)
end
mutual
theorem toP_ok {n : Nat} : ∀ (d : D), D.okd n d = true → (toP d).canLay0 = true ∧ (toP d).depth ≤ n
  | .non, _ => by simp [toP, PyData.canLay0, PyData.depth]
  | .bl b, _ => by simp [toP, PyData.canLay0, PyData.depth]
  | .int i, _ => by simp [toP, PyData.canLay0, PyData.depth]
  | .str x, ok => by
    have : okS x = true := by simpa [D.okd] using ok
    simp [toP, PyData.canLay0, PyData.depth, strOk_of this]
  | .ref _, ok => by simp [D.okd] at ok
  | .tup xs, ok => by
    cases n with
    | zero => simp [D.okd] at ok
    | succ n =>
      obtain ⟨h1, h2⟩ := toPs_ok xs (n := n) (by simpa [D.okd] using ok)
      simp [toP, PyData.canLay0, PyData.depth, h1, h2]
theorem toPs_ok {n : Nat} : ∀ (ds : List D), okds n ds = true → PyData.canLayAll0 (toPs ds) = true ∧ PyData.depthAll (toPs ds) ≤ n
  | [], _ => by simp [toPs, PyData.canLayAll0, PyData.depthAll]
  | d :: ds, ok => by
    have ok' : D.okd n d = true ∧ okds n ds = true := by simpa [okds] using ok
    obtain ⟨h1, h2⟩ := toP_ok d ok'.1
    obtain ⟨h3, h4⟩ := toPs_ok ds ok'.2
    simp [toPs, PyData.canLayAll0, PyData.depthAll, h1, h3]
    omega
end
theorem shaped_of {d : D} (h : D.okd 60 d = true) : SeqAt.shaped (toP d) = true := by
  obtain ⟨h1, h2⟩ := toP_ok d h
  unfold SeqAt.shaped
  rw [h1, decide_eq_true (by omega)]
  rfl
theorem shaped_ofs {ds : List D} (h : okds 60 ds = true) : SeqAt.shaped (.list (toPs ds)) = true := by
  obtain ⟨h1, h2⟩ := toPs_ok ds h
  have e1 : (PyData.list (toPs ds)).canLay0 = true := by simpa [PyData.canLay0] using h1
  have e2 : (PyData.list (toPs ds)).depth = PyData.depthAll (toPs ds) + 1 := by simp [PyData.depth]
  unfold SeqAt.shaped
  rw [e1, e2, decide_eq_true (by omega)]
  rfl
mutual
theorem toP_eqv {n m : Nat} : ∀ (d e : D), D.okd n d = true → D.okd m e = true → PyData.eqv (toP d) (toP e) = D.eqb d e
  | .tup xs, .tup ys, h1, h2 => by
    cases n with
    | zero => simp [D.okd] at h1
    | succ n =>
      cases m with
      | zero => simp [D.okd] at h2
      | succ m => simpa [toP, PyData.eqv, D.eqb] using toPs_eqv xs ys (n := n) (m := m) (by simpa [D.okd] using h1) (by simpa [D.okd] using h2)
  | .ref _, _, h1, _ => by simp [D.okd] at h1
  | d, .ref _, _, h2 => by simp [D.okd] at h2
  | .non, .non, _, _ => by simp [toP, PyData.eqv, D.eqb]
  | .non, .bl _, _, _ => by simp [toP, PyData.eqv, D.eqb]
  | .non, .int _, _, _ => by simp [toP, PyData.eqv, D.eqb]
  | .non, .str _, _, _ => by simp [toP, PyData.eqv, D.eqb]
  | .non, .tup _, _, _ => by simp [toP, PyData.eqv, D.eqb]
  | .bl _, .non, _, _ => by simp [toP, PyData.eqv, D.eqb]
  | .bl _, .bl _, _, _ => by simp [toP, PyData.eqv, D.eqb]
  | .bl b, .int _, _, _ => by cases b <;> simp [toP, PyData.eqv, D.eqb, b2i]
  | .bl _, .str _, _, _ => by simp [toP, PyData.eqv, D.eqb]
  | .bl _, .tup _, _, _ => by simp [toP, PyData.eqv, D.eqb]
  | .int _, .non, _, _ => by simp [toP, PyData.eqv, D.eqb]
  | .int _, .bl b, _, _ => by cases b <;> simp [toP, PyData.eqv, D.eqb, b2i]
  | .int _, .int _, _, _ => by simp [toP, PyData.eqv, D.eqb]
  | .int _, .str _, _, _ => by simp [toP, PyData.eqv, D.eqb]
  | .int _, .tup _, _, _ => by simp [toP, PyData.eqv, D.eqb]
  | .str _, .non, _, _ => by simp [toP, PyData.eqv, D.eqb]
  | .str _, .bl _, _, _ => by simp [toP, PyData.eqv, D.eqb]
  | .str _, .int _, _, _ => by simp [toP, PyData.eqv, D.eqb]
  | .str x, .str y, _, _ => by simp only [toP, PyData.eqv, D.eqb]; by_cases h : x = y <;> simp [h]
  | .str _, .tup _, _, _ => by simp [toP, PyData.eqv, D.eqb]
  | .tup _, .non, _, _ => by simp [toP, PyData.eqv, D.eqb]
  | .tup _, .bl _, _, _ => by simp [toP, PyData.eqv, D.eqb]
  | .tup _, .int _, _, _ => by simp [toP, PyData.eqv, D.eqb]
  | .tup _, .str _, _, _ => by simp [toP, PyData.eqv, D.eqb]
theorem toPs_eqv {n m : Nat} : ∀ (ds es : List D), okds n ds = true → okds m es = true → PyData.eqvAll (toPs ds) (toPs es) = eqbs ds es
  | [], [], _, _ => by simp [toPs, PyData.eqvAll, eqbs]
  | [], _ :: _, _, _ => by simp [toPs, PyData.eqvAll, eqbs]
  | _ :: _, [], _, _ => by simp [toPs, PyData.eqvAll, eqbs]
  | d :: ds, e :: es, h1, h2 => by
    have ok1 : D.okd n d = true ∧ okds n ds = true := by simpa [okds] using h1
    have ok2 : D.okd m e = true ∧ okds m es = true := by simpa [okds] using h2
    simp [toPs, PyData.eqvAll, eqbs, toP_eqv d e ok1.1 ok2.1, toPs_eqv ds es ok1.2 ok2.2]
end
/-- a comparison's rule against the data-level one -/
def RealC (K : Kf) (r : L2.R2) (k : KC) : Prop := ∀ (f : List Addr) (st : Store) (H : Hp) (x y : D) (v w : L2.V) (Q' : Bool → Prop) (Q : L2.VK), RelS K f st H → RD K f H x v → RD K f H y w → k x y st Q' → (∀ b, Q' b → Q (.bl b) H) → r v w H Q
theorem RealC.real {r : L2.R2} {k : KC} (h : RealC K r k) : Real2 K r fun x y st Q => k x y st fun b => Q (.bl b) st := fun f st H x y v w Q' Q s r1 r2 hk l =>
  h f st H x y v w _ Q s r1 r2 hk fun b q => l.now s q (RD.bl.mpr rfl)
theorem eqC_dp {x y : D} {v w : L2.V} {Q' : Bool → Prop} (s : RelS K f st H) (r1 : RD K f H x v) (r2 : RD K f H y w) (h : eqC x y st Q') :
    ∃ d e, L2.Dp K H v d ∧ L2.Dp K H w e ∧ SeqAt.shaped d = true ∧ SeqAt.shaped e = true ∧ Q' (PyData.eqv d e) := by
  have lst : ∀ {n : Nat} {xs : List D} {u : L2.V}, rdA st n xs → okds 60 xs = true → RD K f H (.ref n) u → L2.Dp K H u (.list (toPs xs)) := fun {n xs u} h1 h2 h3 => by
    rw [RD.ref] at h3
    obtain ⟨a, e1, rfl⟩ := h3
    obtain ⟨a', vs, g1, g2, g3⟩ := s.rdA h1
    rw [e1] at g1; cases g1
    exact .lst g2 (toPs_dp xs h2 g3)
  have pur : ∀ {x y : D} {v w : L2.V}, RD K f H x v → RD K f H y w → (D.okd 60 x = true ∧ D.okd 60 y = true ∧ Q' (D.eqb x y)) → ∃ d e, L2.Dp K H v d ∧ L2.Dp K H w e ∧ SeqAt.shaped d = true ∧ SeqAt.shaped e = true ∧ Q' (PyData.eqv d e) := fun {x y v w} r1 r2 ⟨h1, h2, h3⟩ =>
    ⟨toP x, toP y, toP_dp x h1 r1, toP_dp y h2 r2, shaped_of h1, shaped_of h2, by rw [toP_eqv x y h1 h2]; exact h3⟩
  have lefts : ∀ {n : Nat} {xs : List D} {y : D}, (∀ m, y ≠ .ref m) → rdA st n xs → okds 60 xs = true → D.okd 60 y = true → Q' false → RD K f H (.ref n) v → RD K f H y w → ∃ d e, L2.Dp K H v d ∧ L2.Dp K H w e ∧ SeqAt.shaped d = true ∧ SeqAt.shaped e = true ∧ Q' (PyData.eqv d e) := fun {n xs y} hy h1 h2 h3 h4 r1 r2 =>
    ⟨_, toP y, lst h1 h2 r1, toP_dp y h3 r2, shaped_ofs h2, shaped_of h3, by
      have : PyData.eqv (.list (toPs xs)) (toP y) = false := by
        cases y <;> first | exact absurd rfl (hy _) | simp [toP, PyData.eqv]
      rw [this]; exact h4⟩
  have rights : ∀ {n : Nat} {xs : List D} {x : D}, (∀ m, x ≠ .ref m) → rdA st n xs → okds 60 xs = true → D.okd 60 x = true → Q' false → RD K f H x v → RD K f H (.ref n) w → ∃ d e, L2.Dp K H v d ∧ L2.Dp K H w e ∧ SeqAt.shaped d = true ∧ SeqAt.shaped e = true ∧ Q' (PyData.eqv d e) := fun {n xs x} hy h1 h2 h3 h4 r1 r2 =>
    ⟨toP x, _, toP_dp x h3 r1, lst h1 h2 r2, shaped_of h3, shaped_ofs h2, by
      have : PyData.eqv (toP x) (.list (toPs xs)) = false := by
        cases x <;> first | exact absurd rfl (hy _) | simp [toP, PyData.eqv]
      rw [this]; exact h4⟩
  by_cases hx : ∃ m, x = .ref m
  · obtain ⟨m, rfl⟩ := hx
    by_cases hy : ∃ n, y = .ref n
    · obtain ⟨n, rfl⟩ := hy
      obtain ⟨xs, ys, h1, h2, h3, h4, h5⟩ := h
      exact ⟨_, _, lst h1 h3 r1, lst h2 h4 r2, shaped_ofs h3, shaped_ofs h4, by rw [show PyData.eqv (.list (toPs xs)) (.list (toPs ys)) = PyData.eqvAll (toPs xs) (toPs ys) by simp [PyData.eqv], toPs_eqv xs ys h3 h4]; exact h5⟩
    · have h' : ∃ xs, rdA st m xs ∧ okds 60 xs = true ∧ D.okd 60 y = true ∧ Q' false := by
        cases y <;> first | exact h | exact absurd ⟨_, rfl⟩ hy
      obtain ⟨xs, h1, h2, h3, h4⟩ := h'
      exact lefts (fun k e => hy ⟨k, e⟩) h1 h2 h3 h4 r1 r2
  · by_cases hy : ∃ n, y = .ref n
    · obtain ⟨n, rfl⟩ := hy
      have h' : ∃ ys, rdA st n ys ∧ okds 60 ys = true ∧ D.okd 60 x = true ∧ Q' false := by
        cases x <;> first | exact h | exact absurd ⟨_, rfl⟩ hx
      obtain ⟨xs, h1, h2, h3, h4⟩ := h'
      exact rights (fun k e => hx ⟨k, e⟩) h1 h2 h3 h4 r1 r2
    · exact pur r1 r2 (by cases x <;> cases y <;> first | exact h | exact absurd ⟨_, rfl⟩ hx | exact absurd ⟨_, rfl⟩ hy)
theorem real_eq : RealC K (L2.rEqD K) eqC := fun f st H x y v w Q' Q s r1 r2 h l => by
  obtain ⟨d, e, h1, h2, h3, h4, h5⟩ := eqC_dp s r1 r2 h
  exact ⟨d, e, h1, h2, h3, h4, l _ h5⟩
theorem real_ne : RealC K (L2.rNeD K) neC := fun f st H x y v w Q' Q s r1 r2 h l => by
  obtain ⟨d, e, h1, h2, h3, h4, h5⟩ := eqC_dp s r1 r2 h
  exact ⟨d, e, h1, h2, h3, h4, l _ h5⟩
theorem real_cmp {g : Int → Int → Bool} {k : KC} (hk : ∀ x y st Q, k x y st Q → ∃ i j, x = .int i ∧ y = .int j ∧ Q (g i j)) : RealC K (L2.rI0 fun i j => .bl (g i j)) k := by
  intro f st H x y v w Q' Q s r1 r2 h l
  obtain ⟨i, j, rfl, rfl, q⟩ := hk x y st Q' h
  rw [RD.int] at r1 r2
  exact ⟨i, j, r1, r2, l _ q⟩
theorem real_lt : RealC K (L2.rI0 fun i j => .bl (decide (i < j))) ltC := real_cmp fun x y st Q h => by
  cases x <;> cases y <;> first | exact h.elim | exact ⟨_, _, rfl, rfl, h⟩
theorem real_le : RealC K (L2.rI0 fun i j => .bl (decide (i ≤ j))) leC := real_cmp fun x y st Q h => by
  cases x <;> cases y <;> first | exact h.elim | exact ⟨_, _, rfl, rfl, h⟩
theorem real_gt : RealC K (L2.rI0 fun i j => .bl (decide (j < i))) gtC := real_cmp fun x y st Q h => by
  cases x <;> cases y <;> first | exact h.elim | exact ⟨_, _, rfl, rfl, h⟩
theorem real_ge : RealC K (L2.rI0 fun i j => .bl (decide (j ≤ i))) geC := real_cmp fun x y st Q h => by
  cases x <;> cases y <;> first | exact h.elim | exact ⟨_, _, rfl, rfl, h⟩
theorem RD.isNon {x : D} {v : L2.V} (h : RD K f H x v) : decide (v = .non) = isNon x := by
  cases x with
  | non => rw [RD.non] at h; subst h; rfl
  | bl b => rw [RD.bl] at h; subst h; rfl
  | int i => rw [RD.int] at h; subst h; rfl
  | str y => rw [RD.str] at h; subst h; rfl
  | tup ds => rw [RD.tup] at h; obtain ⟨a, vs, rfl, _⟩ := h; rfl
  | ref n => rw [RD.ref] at h; obtain ⟨a, _, rfl⟩ := h; rfl
theorem real_is : RealC K (fun x y H Q => y = .non ∧ Q (.bl (decide (x = .non))) H) isC := fun f st H x y v w Q' Q s r1 r2 h l => by
  cases y <;> try (cases x <;> exact h.elim)
  rw [RD.non] at r2
  have h' : Q' (isNon x) := by cases x <;> exact h
  exact ⟨r2, by rw [r1.isNon]; exact l _ h'⟩
theorem real_isnt : RealC K (fun x y H Q => y = .non ∧ Q (.bl (!decide (x = .non))) H) isntC := fun f st H x y v w Q' Q s r1 r2 h l => by
  cases y <;> try (cases x <;> exact h.elim)
  rw [RD.non] at r2
  have h' : Q' (!isNon x) := by cases x <;> exact h
  exact ⟨r2, by rw [r1.isNon]; exact l _ h'⟩
theorem RD.flatV {x : D} {v : L2.V} (h : RD K f H x v) (hf : x.flat = true) : L2.flatV v = true := by
  cases x with
  | non => rw [RD.non] at h; subst h; rfl
  | bl b => rw [RD.bl] at h; subst h; rfl
  | int i => rw [RD.int] at h; subst h; rfl
  | str y => rw [RD.str] at h; subst h; rfl
  | tup ds => cases hf
  | ref n => cases hf
theorem RDs.flatV : ∀ {xs : List D} {vs : List L2.V}, RDs K f H xs vs → xs.all D.flat = true → vs.all L2.flatV = true
  | [], _, h, _ => by rw [RDs.nil] at h; subst h; rfl
  | x :: xs, _, h, hf => by
    rw [RDs.cons] at h
    obtain ⟨v, r, rfl, h1, h2⟩ := h
    have hf' : x.flat = true ∧ xs.all D.flat = true := by simpa using hf
    rw [List.all_cons, h1.flatV hf'.1, RDs.flatV h2 hf'.2]; rfl
end
end Pd
end PartPdSoundB

section PartPdSoundC
set_option Elab.async false
set_option linter.all false
set_option maxRecDepth 100000
set_option maxHeartbeats 1000000
/-! Pd over the hand layer: tests, items, slices, calls, built-ins. Own work. -/
namespace Pd
open PySem PySem.Spec
section
variable {X : L2.Cx} {K : Kf} {f f' : List Addr} {H H' : Hp} {st st' : Store} {ρ : Env} {σ : L2.St}
theorem b2i_eq (b : Bool) : b2i b = (if b then 1 else 0) := rfl
theorem RD.eqV {x y : D} {v w : L2.V} (h : RD K f H x v) (h' : RD K f H y w) (hx : x.flat = true) (hy : y.flat = true) : L2.eqV v w = D.eqb x y := by
  cases x <;> cases y <;> first | (exfalso; revert hx; simp [D.flat]; done) | (exfalso; revert hy; simp [D.flat]; done) | skip
  all_goals (simp only [RD.non, RD.bl, RD.int, RD.str] at h h'; subst h; subst h'; simp [L2.eqV, D.eqb, b2i])
  rename_i s t
  by_cases e : s = t <;> simp [e]
theorem RDs.inV {y : D} {w : L2.V} (h' : RD K f H y w) (hy : y.flat = true) : ∀ {xs : List D} {vs : List L2.V}, RDs K f H xs vs → xs.all D.flat = true → L2.inV w vs = xs.any fun x => D.eqb x y
  | [], _, h, _ => by rw [RDs.nil] at h; subst h; rfl
  | x :: xs, _, h, hf => by
    rw [RDs.cons] at h
    obtain ⟨v, r, rfl, h1, h2⟩ := h
    have hf' : x.flat = true ∧ xs.all D.flat = true := by simpa using hf
    have ih := RDs.inV h' hy h2 hf'.2
    unfold L2.inV at ih ⊢
    rw [List.any_cons, List.any_cons, ih, h1.eqV h' hf'.1 hy]
theorem real_in (neg : Bool) : RealC K (L2.rIn K neg) (fun x y st Q => inC x y st fun b => Q (if neg then !b else b)) := fun f st H x y v w Q' Q s r1 r2 h l => by
  cases y <;> try (exact h.elim)
  · rw [RD.tup] at r2
    obtain ⟨a, vs, rfl, t, d⟩ := r2
    obtain ⟨h1, h2, h3⟩ := h
    refine ⟨a, vs, rfl, .inr t, r1.flatV h1, d.flatV h2, ?_⟩
    rw [RDs.inV r1 h1 d h2]
    exact l _ h3
  · rw [RD.ref] at r2
    obtain ⟨a, e, rfl⟩ := r2
    obtain ⟨xs, h0, h1, h2, h3⟩ := h
    obtain ⟨a', vs, g1, g2, g3⟩ := s.rdA h0
    rw [e] at g1; cases g1
    refine ⟨a, vs, rfl, .inl g2, r1.flatV h1, g3.flatV h2, ?_⟩
    rw [RDs.inV r1 h1 g3 h2]
    exact l _ h3
section
variable {a b c : Expr} {ta tb tc : TE} {pos : Pos}
theorem pd_cmp {op : CmpOp} {r : L2.R2} {k : KC} (ho : L2.OpR X (compareOp op) r) (hr : RealC X.K r k) (hm : behindInMarks op b = false) (ha : PD X a ta) (hb : PD X b tb) : PD X (.Compare a [op] [b] pos) (dCmp k ta tb) :=
  pe_imp (L2.pe_cmpR ho ha hb hm) fun σ H Q h => two_imp hr.real h
theorem pt_cmp {op : CmpOp} {r : L2.R2} {k : KC} (ho : L2.OpR X (compareOp op) r) (hr : RealC X.K r k) (hm : behindInMarks op b = false) (ha : PD X a ta) (hb : PD X b tb) : PDT X (.Compare a [op] [b] pos) (tTru (dCmp k ta tb)) := by
  refine pt_imp (L2.pt_cmpR ho ha hb hm) fun σ H Q ⟨f, ρ, st, Q', R, h, l⟩ => ?_
  refine ⟨f, ρ, st, _, R, h, fun x st1 v f1 H1 h1 e1 s1 r1 => ⟨f1, ρ, st1, _, R.later e1 s1, h1, fun y st2 w f2 H2 h2 e2 s2 r2 => ?_⟩⟩
  exact hr f2 st2 H2 x y v w (fun b => Q' b st2) _ s2 (r1.mono e2) r2 h2 fun b q => ⟨b, rfl, l b st2 f2 H2 q (e1.trans e2) s2⟩
theorem chain_core {r r' : L2.R2} {k k' : KC} (hr : RealC K r k) (hr' : RealC K r' k') {Q' : Bool → Store → Prop} {Q : L2.VK} {f : List Addr} {ρ : Env} {st : Store}
    (R : Rel K f ρ st σ H) (h : ta ρ st fun x st1 => tb ρ st1 fun y st2 => k x y st2 fun b => (b = true → tc ρ st2 fun z st3 => k' y z st3 fun b' => Q' b' st3) ∧ (b = false → Q' false st2))
    (l : ∀ b st' f' H', Q' b st' → Ext K f H f' H' → RelS K f' st' H' → Q (.bl b) H') : L2.tChain r r' (lift K ta) (lift K tb) (lift K tc) σ H Q := by
  refine ⟨f, ρ, st, _, R, h, fun x st1 v f1 H1 h1 e1 s1 r1 => ⟨f1, ρ, st1, _, R.later e1 s1, h1, fun y st2 w f2 H2 h2 e2 s2 r2 => ?_⟩⟩
  refine hr f2 st2 H2 x y v w _ _ s2 (r1.mono e2) r2 h2 fun b q => ⟨b, rfl, ?_⟩
  cases b with
  | false => exact l false st2 f2 H2 (q.2 rfl) (e1.trans e2) s2
  | true => exact ⟨f2, ρ, st2, _, R.later (e1.trans e2) s2, q.1 rfl, fun z st3 u f3 H3 h3 e3 s3 r3 => hr' f3 st3 H3 y z w u (fun b' => Q' b' st3) _ s3 (r2.mono e3) r3 h3 fun b' q' => l b' st3 f3 H3 q' ((e1.trans e2).trans e3) s3⟩
theorem pd_chain {op op' : CmpOp} {r r' : L2.R2} {k k' : KC} (ho : L2.OpR X (compareOp op) r) (hr : RealC X.K r k) (ho' : L2.OpR X (compareOp op') r') (hr' : RealC X.K r' k') (ha : PD X a ta) (hb : PD X b tb) (hc : PD X c tc)
    (hm : lastMarks [op, op'] [b, c] = false := by with_unfolding_all rfl) : PD X (.Compare a [op, op'] [b, c] pos) (dChain k k' ta tb tc) := by
  refine pe_imp (L2.pe_chain ho ho' ha hb hc hm) fun σ H Q ⟨f, ρ, st, Q', R, h, l⟩ => ?_
  exact chain_core hr hr' (Q' := fun b st => Q' (.bl b) st) R h fun b st' f' H' q e s => l (.bl b) st' _ f' H' q e s (RD.bl.mpr rfl)
theorem pt_chain {op op' : CmpOp} {r r' : L2.R2} {k k' : KC} (ho : L2.OpR X (compareOp op) r) (hr : RealC X.K r k) (ho' : L2.OpR X (compareOp op') r') (hr' : RealC X.K r' k') (ha : PD X a ta) (hb : PD X b tb) (hc : PD X c tc)
    (hm : lastMarks [op, op'] [b, c] = false := by with_unfolding_all rfl) : PDT X (.Compare a [op, op'] [b, c] pos) (tTru (dChain k k' ta tb tc)) := by
  refine pt_imp (L2.pt_chain ho ho' ha hb hc hm) fun σ H Q ⟨f, ρ, st, Q', R, h, l⟩ => ?_
  exact chain_core (Q := fun x H' => ∃ k, x = .bl k ∧ Q k H') hr hr' (Q' := Q') R h fun b st' f' H' q e s => ⟨b, rfl, l b st' f' H' q e s⟩

/-! ### truth -/
theorem tru_of {x : D} {v : L2.V} {Q' : Bool → Prop} (s : RelS K f st H) (r : RD K f H x v) (h : truK x st Q') : ∃ k, L2.TruV K v H k ∧ Q' k := by
  cases x with
  | non => rw [RD.non] at r; subst r; exact ⟨_, rfl, h⟩
  | bl b => rw [RD.bl] at r; subst r; exact ⟨_, rfl, h⟩
  | int i => rw [RD.int] at r; subst r; exact ⟨_, rfl, h⟩
  | str y => rw [RD.str] at r; subst r; exact ⟨_, ⟨by rw [← szl_eq]; exact h.1, rfl⟩, h.2⟩
  | tup xs =>
    rw [RD.tup] at r
    obtain ⟨a, vs, rfl, t, d⟩ := r
    refine ⟨_, .inr (.inl ⟨vs, t, rfl⟩), ?_⟩
    have : vs.isEmpty = xs.isEmpty := by
      cases xs with
      | nil => rw [RDs.nil] at d; subst d; rfl
      | cons x xs => rw [RDs.cons] at d; obtain ⟨_, _, rfl, _⟩ := d; rfl
    rw [this]; exact h
  | ref n =>
    rw [RD.ref] at r
    obtain ⟨a, e, rfl⟩ := r
    obtain ⟨xs, h1, h2⟩ := h
    obtain ⟨a', vs, g1, g2, d⟩ := s.rdA h1
    rw [e] at g1; cases g1
    refine ⟨_, .inl ⟨vs, g2, rfl⟩, ?_⟩
    have : vs.isEmpty = xs.isEmpty := by
      cases xs with
      | nil => rw [RDs.nil] at d; subst d; rfl
      | cons x xs => rw [RDs.cons] at d; obtain ⟨_, _, rfl, _⟩ := d; rfl
    rw [this]; exact h2
theorem pt_tru (ha : PD X a ta) (he : ∀ whole, isTrue a X.env whole = (do let v ← whole; standAt a.pos; holding [v] (truthy v)) := by intro _; rfl) : PDT X a (tTru ta) := by
  refine pt_imp (L2.pt_truth ha he) fun σ H Q ⟨f, ρ, st, Q', R, h, l⟩ => ?_
  refine ⟨f, ρ, st, _, R, h, fun x st1 v f1 H1 h1 e1 s1 r1 => ?_⟩
  obtain ⟨k, t, q⟩ := tru_of s1 r1 h1
  exact ⟨k, t, l k st1 f1 H1 q e1 s1⟩
abbrev PDW (X : L2.Cx) (e : Expr) (t : TT) : Prop := L2.PW X e (liftT X.K t)
theorem ptw {e : Expr} {t : TT} (h : PDW X e t) : PDT X e t := L2.PW.pt h
theorem pw_imp {e : Expr} {t t' : L2.TT} (h : L2.PW X e t) (m : ∀ σ H Q, t' σ H Q → t σ H Q) : L2.PW X e t' := ⟨fun whole pins s σ H Q I q => h.run whole pins s σ H Q I (m σ H Q q)⟩
variable {es : List Expr} {tA tB tC : TT}
theorem pw_and1 (ha : PDT X a tA) : PDW X (.BoolOp .And [a] pos) tA := L2.pw_and1 ha
theorem pw_or1 (ha : PDT X a tA) : PDW X (.BoolOp .Or [a] pos) tA := L2.pw_or1 ha
theorem pw_and (ha : PDT X a tA) (hb : PDW X (.BoolOp .And (b :: es) pos) tB) : PDW X (.BoolOp .And (a :: b :: es) pos) (tAnd tA tB) :=
  pw_imp (L2.pw_and ha hb) fun σ H Q ⟨f, ρ, st, Q', R, h, l⟩ => ⟨f, ρ, st, _, R, h, fun c st1 f1 H1 h1 e1 s1 => by
    cases c with
    | false => exact l false st1 f1 H1 (h1.2 rfl) e1 s1
    | true => exact ⟨f1, ρ, st1, Q', R.later e1 s1, h1.1 rfl, fun b st2 f2 H2 q e2 s2 => l b st2 f2 H2 q (e1.trans e2) s2⟩⟩
theorem pw_or (ha : PDT X a tA) (hb : PDW X (.BoolOp .Or (b :: es) pos) tB) : PDW X (.BoolOp .Or (a :: b :: es) pos) (tOr tA tB) :=
  pw_imp (L2.pw_or ha hb) fun σ H Q ⟨f, ρ, st, Q', R, h, l⟩ => ⟨f, ρ, st, _, R, h, fun c st1 f1 H1 h1 e1 s1 => by
    cases c with
    | true => exact l true st1 f1 H1 (h1.1 rfl) e1 s1
    | false => exact ⟨f1, ρ, st1, Q', R.later e1 s1, h1.2 rfl, fun b st2 f2 H2 q e2 s2 => l b st2 f2 H2 q (e1.trans e2) s2⟩⟩
theorem pt_not (ha : PDT X a tA) : PDT X (.UnaryOp .Not a pos) (tNot tA) :=
  pt_imp (L2.pt_not ha) fun σ H Q ⟨f, ρ, st, Q', R, h, l⟩ => ⟨f, ρ, st, _, R, h, fun c st1 f1 H1 h1 e1 s1 => l _ st1 f1 H1 h1 e1 s1⟩
theorem pd_one {op : BoolOp} (ha : PD X a ta) : PD X (.BoolOp op [a] pos) ta := L2.pe_one ha
theorem pd_and' (ha : PD X a ta) (hb : PD X (.BoolOp .And (b :: es) pos) tb) : PD X (.BoolOp .And (a :: b :: es) pos) (dAndT ta tb) :=
  pe_imp (L2.pe_andT ha hb) fun σ H Q ⟨f, ρ, st, Q', R, h, l⟩ => ⟨f, ρ, st, _, R, h, fun x st1 v f1 H1 h1 e1 s1 r1 => by
    obtain ⟨k, t, q⟩ := tru_of s1 r1 h1
    refine ⟨k, t, ?_⟩
    cases k with
    | false => exact l x st1 v f1 H1 (q.2 rfl) e1 s1 r1
    | true => exact ⟨f1, ρ, st1, Q', R.later e1 s1, q.1 rfl, l.later e1⟩⟩
theorem pd_or' (ha : PD X a ta) (hb : PD X (.BoolOp .Or (b :: es) pos) tb) : PD X (.BoolOp .Or (a :: b :: es) pos) (dOrT ta tb) :=
  pe_imp (L2.pe_orT ha hb) fun σ H Q ⟨f, ρ, st, Q', R, h, l⟩ => ⟨f, ρ, st, _, R, h, fun x st1 v f1 H1 h1 e1 s1 r1 => by
    obtain ⟨k, t, q⟩ := tru_of s1 r1 h1
    refine ⟨k, t, ?_⟩
    cases k with
    | true => exact l x st1 v f1 H1 (q.1 rfl) e1 s1 r1
    | false => exact ⟨f1, ρ, st1, Q', R.later e1 s1, q.2 rfl, l.later e1⟩⟩
theorem pd_not (ha : PD X a ta) : PD X (.UnaryOp .Not a pos) (dNotT ta) :=
  pe_imp (L2.pe_notT ha) fun σ H Q ⟨f, ρ, st, Q', R, h, l⟩ => ⟨f, ρ, st, _, R, h, fun x st1 v f1 H1 h1 e1 s1 r1 => by
    obtain ⟨k, t, q⟩ := tru_of s1 r1 h1
    exact ⟨k, t, l _ st1 _ f1 H1 q e1 s1 (RD.bl.mpr rfl)⟩⟩
theorem pd_if (hc : PDT X c tC) (ha : PD X a ta) (hb : PD X b tb) : PD X (.IfExp c a b pos) (dIf tC ta tb) :=
  pe_imp (L2.pe_ifExp hc ha hb) fun σ H Q ⟨f, ρ, st, Q', R, h, l⟩ => ⟨f, ρ, st, _, R, h, fun k st1 f1 H1 h1 e1 s1 => by
    cases k with
    | true => exact ⟨f1, ρ, st1, Q', R.later e1 s1, h1.1 rfl, l.later e1⟩
    | false => exact ⟨f1, ρ, st1, Q', R.later e1 s1, h1.2 rfl, l.later e1⟩⟩
/-- a test that is an if-expression -/
theorem pt_if {t1 t2 : TT} (hc : PDT X c tC) (ha : PDT X a t1) (hb : PDT X b t2) : PDT X (.IfExp c a b pos) (fun σ st Q => tC σ st fun k st1 => (k = true → t1 σ st1 Q) ∧ (k = false → t2 σ st1 Q)) := by
  refine ⟨fun pins s σ H Q I ⟨f, ρ, st, Q', R, h, l⟩ => ?_⟩
  show wpAny _ _ (do if ← isTrue c X.env (eval c X.env) then isTrue a X.env (eval a X.env) else isTrue b X.env (eval b X.env)) _ _ s
  refine wpAny_bind (L2.thn (hc.run pins s σ H (fun k H1 => (k = true → liftT X.K t1 σ H1 Q) ∧ (k = false → liftT X.K t2 σ H1 Q)) I ⟨f, ρ, st, _, R, h, fun k st1 f1 H1 h1 e1 s1 => ?_⟩) fun k s1 ⟨H1, I1, q⟩ => ?_)
  · exact ⟨fun e => ⟨f1, ρ, st1, Q', R.later e1 s1, h1.1 e, fun b st2 f2 H2 q e2 s2 => l b st2 f2 H2 q (e1.trans e2) s2⟩, fun e => ⟨f1, ρ, st1, Q', R.later e1 s1, h1.2 e, fun b st2 f2 H2 q e2 s2 => l b st2 f2 H2 q (e1.trans e2) s2⟩⟩
  · cases k with
    | true => exact ha.run pins s1 σ H1 Q I1 (q.1 rfl)
    | false => exact hb.run pins s1 σ H1 Q I1 (q.2 rfl)

/-! ### items and slices -/
theorem atD_at {α : Type} (xs : List α) (i : Int) : L2.atI xs i = atD xs i := by
  unfold L2.atI L2.ixN atD
  by_cases h : 0 ≤ i
  · rw [if_pos h, if_pos h]
    by_cases h2 : i < xs.length
    · rw [if_pos h2]; rfl
    · rw [if_neg h2]
      show none = _
      rw [List.getElem?_eq_none (by omega)]
  · rw [if_neg h, if_neg h]
    by_cases h2 : -(xs.length : Int) ≤ i
    · rw [if_pos h2, if_pos h2]; rfl
    · rw [if_neg h2, if_neg h2]; rfl
theorem RDs.atD {ds : List D} {vs : List L2.V} {i : Int} {d : D} (h : RDs K f H ds vs) (e : atD ds i = some d) : ∃ v, L2.atI vs i = some v ∧ RD K f H d v := by
  rw [atD_at]
  unfold Pd.atD at e ⊢
  rw [h.length]
  by_cases c : 0 ≤ i
  · rw [if_pos c] at e ⊢
    obtain ⟨v, h1, h2⟩ := h.get e; exact ⟨v, h1, h2⟩
  · rw [if_neg c] at e ⊢
    by_cases c2 : -(ds.length : Int) ≤ i
    · rw [if_pos c2] at e ⊢
      obtain ⟨v, h1, h2⟩ := h.get e; exact ⟨v, h1, h2⟩
    · rw [if_neg c2] at e; cases e
theorem real_ix : Real2 K (L2.rIx K) ixK := fun f st H x y v w Q' Q s r1 r2 h l => by
  cases x <;> cases y <;> try (exact h.elim)
  · rw [RD.str] at r1
    rw [RD.int] at r2
    obtain ⟨c, h1, h2, h3⟩ := h
    exact .inr (.inr ⟨_, _, c, r1, r2, by rw [← szl_eq]; exact h1, by rw [atD_at]; exact h2, l.now s h3 (RD.str.mpr rfl)⟩)
  · rw [RD.tup] at r1
    rw [RD.int] at r2
    obtain ⟨a, vs, rfl, t, d⟩ := r1
    obtain ⟨d', h1, h2⟩ := h
    obtain ⟨v, g1, g2⟩ := d.atD h1
    exact .inr (.inl ⟨a, vs, _, v, rfl, r2, t, g1, l.now s h2 g2⟩)
  · rw [RD.ref] at r1
    rw [RD.int] at r2
    obtain ⟨a, e, rfl⟩ := r1
    obtain ⟨xs, d', h0, h1, h2⟩ := h
    obtain ⟨a', vs, k1, k2, d⟩ := s.rdA h0
    rw [e] at k1; cases k1
    obtain ⟨v, g1, g2⟩ := d.atD h1
    exact .inl ⟨a, vs, _, v, rfl, r2, k2, g1, l.now s h2 g2⟩
theorem pd_ix (hs : L2.PlainIx b) (ha : PD X a ta) (hb : PD X b tb) : PD X (.Subscript a b pos) (dOp ixK ta tb) :=
  pe_imp (L2.pe_ix L2.ix_seq ha hb hs) fun σ H Q h => two_imp real_ix h
def liftO (K : Kf) (t : TO) : L2.TO := fun σ H Q => ∃ f ρ st Q', Rel K f ρ st σ H ∧ t ρ st Q' ∧ ∀ (o : Option Int) (st' : Store) (f' : List Addr) (H' : Hp), Q' o st' → Ext K f H f' H' → RelS K f' st' H' → Q o H'
abbrev PDO (X : L2.Cx) (e : Option Expr) (t : TO) : Prop := L2.PO X e (liftO X.K t)
theorem po_imp {e : Option Expr} {t t' : L2.TO} (h : L2.PO X e t) (m : ∀ σ H Q, t' σ H Q → t σ H Q) : L2.PO X e t' := ⟨fun pins s σ H Q I q => h.run pins s σ H Q I (m σ H Q q)⟩
theorem po_none : PDO X none oNone := po_imp L2.po_none fun σ H Q ⟨f, ρ, st, Q', R, h, l⟩ => l none st f H h .refl R.toRelS
theorem po_some (ha : PD X a ta) : PDO X (some a) (oSome ta) := po_imp (L2.po_some ha) fun σ H Q ⟨f, ρ, st, Q', R, h, l⟩ => ⟨f, ρ, st, _, R, h, fun x st1 v f1 H1 h1 e1 s1 r1 => by
    obtain ⟨i, rfl, q⟩ := h1
    rw [RD.int] at r1
    exact ⟨i, r1, l _ st1 f1 H1 q e1 s1⟩⟩
theorem sIx_cl (n d : Nat) (o : Option Int) : HT.sIx n d o = (o.map (cl n)).getD d := by
  cases o with
  | none => rfl
  | some i => rfl
theorem cut_eq (xs : List L2.V) (lo hi : Option Int) : L2.cutV xs lo hi = cutD xs lo hi := by
  unfold L2.cutV cutD
  rw [sIx_cl, sIx_cl]
theorem RDs.cut {ds : List D} {vs : List L2.V} (h : RDs K f H ds vs) (lo hi : Option Int) : RDs K f H (cutD ds lo hi) (cutD vs lo hi) := by
  unfold cutD
  rw [h.length]
  exact (h.drop _).take _
theorem cut_whole {α : Type} (xs : List α) (lo hi : Option Int) (h1 : HT.sIx xs.length 0 lo = 0) (h2 : HT.sIx xs.length xs.length hi = xs.length) : cutD xs lo hi = xs := by
  unfold cutD
  rw [← sIx_cl, ← sIx_cl, h1, h2]
  simp
def rSl (K : Kf) : L2.V → Option Int → Option Int → Hp → L2.VK → Prop := fun x lo hi H Q => L2.rSlL K x lo hi H Q ∨ L2.rSlA K x lo hi H Q
theorem pd_sl {lo hi : Option Expr} {tl th : TO} {p2 : Pos} (ha : PD X a ta) (hl : PDO X lo tl) (hh : PDO X hi th) : PD X (.Subscript a (.Slice lo hi none p2) pos) (dSl ta tl th) := by
  refine pe_imp (L2.pe_slice (r := rSl X.K) (L2.SlR.or L2.sl_list L2.sl_tupA) ha hl hh) fun σ H Q ⟨f, ρ, st, Q', R, h, l⟩ => ?_
  refine ⟨f, ρ, st, _, R, h, fun x st1 v f1 H1 h1 e1 s1 r1 => ⟨f1, ρ, st1, _, R.later e1 s1, h1, fun o st2 f2 H2 h2 e2 s2 => ⟨f2, ρ, st2, _, R.later (e1.trans e2) s2, h2, fun o' st3 f3 H3 h3 e3 s3 => ?_⟩⟩⟩
  have r1' := r1.mono (e2.trans e3)
  have l' := l.later ((e1.trans e2).trans e3)
  cases x <;> try (exact h3.elim)
  · rw [RD.tup] at r1'
    obtain ⟨a, vs, rfl, t, d⟩ := r1'
    refine .inr ⟨a, vs, rfl, t, fun ⟨w1, w2⟩ => ?_, fun _ p hp => ?_⟩
    · rw [d.length] at w1 w2
      refine l'.now s3 h3 (RD.tup.mpr ⟨a, vs, rfl, t, ?_⟩)
      rw [cut_whole _ _ _ w1 w2]
      exact d
    · rw [cut_eq]
      exact l'.tup s3 h3 (d.cut o o') hp
  · rw [RD.ref] at r1'
    obtain ⟨a, e, rfl⟩ := r1'
    obtain ⟨xs, g0, g1⟩ := h3
    obtain ⟨a', vs, k1, k2, d⟩ := s3.rdA g0
    rw [e] at k1; cases k1
    refine .inl ⟨a, vs, rfl, k2, fun p hp => ?_⟩
    rw [cut_eq]
    exact l'.lst s3 g1 (d.cut o o') hp

/-! ### arguments, displays -/
theorem pa_nil : PDA X [] aNil := pa_imp L2.pa_nil fun σ H Q ⟨f, ρ, st, Q', R, h, l⟩ => l [] st [] f H h .refl R.toRelS (RDs.nil.mpr rfl)
theorem pa_cons {ts : TA} (ha : PD X a ta) (hr : PDA X es ts) (hs : starEach (a :: es) X.env = (false, eval a X.env) :: starEach es X.env := by rfl) : PDA X (a :: es) (aCons ta ts) :=
  pa_imp (L2.pa_cons ha hr hs) fun σ H Q ⟨f, ρ, st, Q', R, h, l⟩ => ⟨f, ρ, st, _, R, h, fun x st1 v f1 H1 h1 e1 s1 r1 => ⟨f1, ρ, st1, _, R.later e1 s1, h1, fun xs st2 vs f2 H2 h2 e2 s2 r2 =>
    l (x :: xs) st2 (v :: vs) f2 H2 h2 (e1.trans e2) s2 (RDs.cons.mpr ⟨v, vs, rfl, r1.mono e2, r2⟩)⟩⟩
theorem pd_tup {ts : TA} {x1} (h : PDA X es ts) : PD X (.Tuple es x1 pos) (dTup ts) :=
  pe_imp (L2.pe_tup h) fun σ H Q ⟨f, ρ, st, Q', R, h, l⟩ => ⟨f, ρ, st, _, R, h, fun xs st1 vs f1 H1 h1 e1 s1 r1 => ⟨by rw [r1.length, ← szl_eq]; exact h1.1, fun p hp => (l.later e1).tup s1 h1.2 r1 hp⟩⟩
theorem pd_lst {ts : TA} (h : PDA X es ts) : PD X (.List es pos) (dLst ts) :=
  pe_imp (L2.pe_lst h) fun σ H Q ⟨f, ρ, st, Q', R, h, l⟩ => ⟨f, ρ, st, _, R, h, fun xs st1 vs f1 H1 h1 e1 s1 r1 => ⟨by rw [r1.length, ← szl_eq]; exact h1.1, fun p hp => (l.later e1).lst s1 h1.2 r1 hp⟩⟩

/-! ### own defs -/
def liftF (K : Kf) (n : Nat) (c : List D → Store → Pd.K → Prop) : L2.Sp := fun vs H Q _ => vs.length = n ∧ ∃ f st ds Q', RelS K f st H ∧ RDs K f H ds vs ∧ c ds st Q' ∧ LQ K f H Q' Q
/-- a def that may be called by its name -/
structure Own (P : Program) (w : World) (K : Kf) (mg : Str → Option Value) (base : Heap) (k : Nat) (x : Str) (c : List D → Store → Pd.K → Prop) : Prop where
  ex : ∃ (fa : Addr) (fd : FuncData) (ps : List Str), L2.FnOk P w K mg base L2.CX0 k fa fd ps (liftF K ps.length c) ∧ mg x = some (.ref fa) ∧ PySem.W.keepIn K (.ref fa) = true ∧ L2.Binds K fd ps [] ∧ (∀ ds st Q, c ds st Q → ds.length = ps.length)
theorem pd_call {x : Str} {p : Pos} {k : Nat} {ts : TA} {cl : Cl} {y : String} (o : Own X.prog X.w X.K X.mg X.base k x (cl y)) (hr : L2.Room k X.A) (hg : L2.Gl X x) (ha : PDA X (a :: es) ts) (hdb : (x == ("__debug__" : Str)) = false := by decide)
    (he : starEach (a :: es) X.env = (false, eval a X.env) :: starEach es X.env := by rfl) (hpl : (backTo pos (starEach es X.env)).any (·.1) = false := by rfl) : PD X (.Call (.Name x p) (a :: es) [] pos) (dCall cl y ts) := by
  obtain ⟨fa, fd, ps, F, hm, hk, hb, hlen⟩ := o.ex
  refine pe_imp (L2.pe_call (E := fun _ _ _ => False) F hr hg hm hk hb .nil L2.pass0 ha hdb he hpl) fun σ H Q ⟨f, ρ, st, Q', R, h, l⟩ => ?_
  refine ⟨f, ρ, st, _, R, h, fun xs st1 vs f1 H1 h1 e1 s1 r1 => ?_⟩
  show liftF X.K ps.length (cl y) (vs ++ []) H1 Q _
  rw [List.append_nil]
  exact ⟨r1.length.trans (hlen _ _ _ h1), f1, st1, xs, Q', s1, r1, h1, l.later e1⟩
theorem pd_call0 {x : Str} {p : Pos} {k : Nat} {cl : Cl} {y : String} (o : Own X.prog X.w X.K X.mg X.base k x (cl y)) (hr : L2.Room k X.A) (hg : L2.Gl X x) (hdb : (x == ("__debug__" : Str)) = false := by decide) : PD X (.Call (.Name x p) [] [] pos) (dCall cl y aNil) := by
  obtain ⟨fa, fd, ps, F, hm, hk, hb, hlen⟩ := o.ex
  refine pe_imp (L2.pe_call0 (E := fun _ _ _ => False) F hr hg hm hk hb .nil L2.pass0 hdb) fun σ H Q ⟨f, ρ, st, Q', R, h, l⟩ => ?_
  exact (show liftF X.K ps.length (cl y) ([] ++ []) H Q (fun _ _ _ => False) from ⟨hlen _ _ _ h, f, st, [], Q', R.toRelS, RDs.nil.mpr rfl, h, l⟩)

/-! ### built-ins -/
def RealB (K : Kf) (r : List L2.V → Hp → L2.VK → Prop) (k : KB) : Prop := ∀ (f : List Addr) (st : Store) (H : Hp) (xs : List D) (vs : List L2.V) (Q' : Pd.K) (Q : L2.VK), RelS K f st H → RDs K f H xs vs → k xs st Q' → LQ K f H Q' Q → r vs H Q
theorem pd_callB {x : Str} {p : Pos} {id : String} {r : List L2.V → Hp → L2.VK → Prop} {k : KB} {ts : TA} (hc : L2.CallR X (.builtin id) r) (hr : RealB X.K r k) (hg : L2.Gl X x) (hm : X.mg x = none) (hv : bootBuiltins x = some (.builtin id)) (ha : PDA X (a :: es) ts) (hn : x ≠ "__name__" := by decide) (hdb : (x == ("__debug__" : Str)) = false := by decide)
    (he : starEach (a :: es) X.env = (false, eval a X.env) :: starEach es X.env := by rfl) (hpl : (backTo pos (starEach es X.env)).any (·.1) = false := by rfl) : PD X (.Call (.Name x p) (a :: es) [] pos) (dB k ts) :=
  pe_imp (L2.pe_callB hc hg hm hv ha hn hdb he hpl) fun σ H Q ⟨f, ρ, st, Q', R, h, l⟩ => ⟨f, ρ, st, _, R, h, fun xs st1 vs f1 H1 h1 e1 s1 r1 => hr f1 st1 H1 xs vs Q' Q s1 r1 h1 (l.later e1)⟩
theorem pd_callTy {x : Str} {p : Pos} {T : String} {r : List L2.V → Hp → L2.VK → Prop} {k : KB} {ts : TA} (hc : L2.CallR X (.type T) r) (hr : RealB X.K r k) (hg : L2.Gl X x) (hm : X.mg x = none) (hv : bootBuiltins x = some (.type T)) (ha : PDA X (a :: es) ts) (hn : x ≠ "__name__" := by decide) (hdb : (x == ("__debug__" : Str)) = false := by decide)
    (he : starEach (a :: es) X.env = (false, eval a X.env) :: starEach es X.env := by rfl) (hpl : (backTo pos (starEach es X.env)).any (·.1) = false := by rfl) : PD X (.Call (.Name x p) (a :: es) [] pos) (dB k ts) :=
  pe_imp (L2.pe_callTy hc hg hm hv ha hn hdb he hpl) fun σ H Q ⟨f, ρ, st, Q', R, h, l⟩ => ⟨f, ρ, st, _, R, h, fun xs st1 vs f1 H1 h1 e1 s1 r1 => hr f1 st1 H1 xs vs Q' Q s1 r1 h1 (l.later e1)⟩
end
theorem RDs.inv1 {x : D} {vs : List L2.V} (h : RDs K f H [x] vs) : ∃ v, vs = [v] ∧ RD K f H x v := by
  rw [RDs.cons] at h
  obtain ⟨v, r, rfl, h1, h2⟩ := h
  rw [RDs.nil] at h2
  subst h2
  exact ⟨v, rfl, h1⟩
theorem RDs.inv2 {x y : D} {vs : List L2.V} (h : RDs K f H [x, y] vs) : ∃ v w, vs = [v, w] ∧ RD K f H x v ∧ RD K f H y w := by
  rw [RDs.cons] at h
  obtain ⟨v, r, rfl, h1, h2⟩ := h
  obtain ⟨w, rfl, h3⟩ := h2.inv1
  exact ⟨v, w, rfl, h1, h3⟩
/-- one argument, two arguments, by cases -/
theorem realB1 {r : List L2.V → Hp → L2.VK → Prop} {k : KB} (h0 : ∀ xs st Q, k xs st Q → ∃ x, xs = [x])
    (h : ∀ (f : List Addr) (st : Store) (H : Hp) (x : D) (v : L2.V) (Q' : Pd.K) (Q : L2.VK), RelS K f st H → RD K f H x v → k [x] st Q' → LQ K f H Q' Q → r [v] H Q) : RealB K r k := fun f st H xs vs Q' Q s r1 hk l => by
  obtain ⟨x, rfl⟩ := h0 xs st Q' hk
  obtain ⟨v, rfl, h1⟩ := r1.inv1
  exact h f st H x v Q' Q s h1 hk l
theorem kb1 {k : KB} (h0 : ∀ st Q, ¬ k [] st Q) (h2 : ∀ x y xs st Q, ¬ k (x :: y :: xs) st Q) : ∀ xs st Q, k xs st Q → ∃ x, xs = [x] := fun xs st Q h => by
  match xs, h with
  | [], h => exact (h0 _ _ h).elim
  | [x], _ => exact ⟨x, rfl⟩
  | x :: y :: xs, h => exact (h2 _ _ _ _ _ h).elim
theorem real_intB : RealB K (fun xs H Q => (∃ i, xs = [.int i] ∧ Q (.int i) H) ∨ ∃ k, xs = [.bl k] ∧ Q (.int (if k then 1 else 0)) H) intB :=
  realB1 (kb1 (fun _ _ h => h) fun x y xs st Q h => by cases x <;> exact h) fun f st H x v Q' Q s r h l => by
    cases x <;> try (exact h.elim)
    · rw [RD.bl] at r; subst r; exact .inr ⟨_, rfl, l.now s h (RD.int.mpr rfl)⟩
    · rw [RD.int] at r; subst r; exact .inl ⟨_, rfl, l.now s h (RD.int.mpr rfl)⟩
theorem real_absB : RealB K (fun xs H Q => ∃ i, xs = [.int i] ∧ Q (.int (if i < 0 then -i else i)) H) absB :=
  realB1 (kb1 (fun _ _ h => h) fun x y xs st Q h => by cases x <;> exact h) fun f st H x v Q' Q s r h l => by
    cases x <;> try (exact h.elim)
    rw [RD.int] at r; subst r; exact ⟨_, rfl, l.now s h (RD.int.mpr rfl)⟩
theorem real_lenB : RealB K (fun xs H Q => ∃ x n, xs = [x] ∧ L2.LenV K x H n ∧ Q (.int n) H) lenB :=
  realB1 (kb1 (fun _ _ h => h) fun x y xs st Q h => by cases x <;> exact h) fun f st H x v Q' Q s r h l => by
    cases x <;> try (exact h.elim)
    · rw [RD.str] at r; subst r
      exact ⟨_, _, rfl, ⟨by rw [← szl_eq]; exact h.1, rfl⟩, l.now s h.2 (RD.int.mpr rfl)⟩
    · rw [RD.tup] at r
      obtain ⟨a, vs, rfl, t, d⟩ := r
      exact ⟨_, vs.length, rfl, .inr ⟨vs, t, rfl⟩, by rw [d.length]; exact l.now s h (RD.int.mpr rfl)⟩
    · rw [RD.ref] at r
      obtain ⟨a, e, rfl⟩ := r
      obtain ⟨xs, h1, h2⟩ := h
      obtain ⟨a', vs, k1, k2, d⟩ := s.rdA h1
      rw [e] at k1; cases k1
      exact ⟨_, vs.length, rfl, .inl ⟨vs, k2, rfl⟩, by rw [d.length]; exact l.now s h2 (RD.int.mpr rfl)⟩
theorem kb2 {k : KB} (h0 : ∀ st Q, ¬ k [] st Q) (h1 : ∀ x st Q, ¬ k [x] st Q) (h3 : ∀ x y z xs st Q, ¬ k (x :: y :: z :: xs) st Q) : ∀ xs st Q, k xs st Q → ∃ x y, xs = [x, y] := fun xs st Q h => by
  match xs, h with
  | [], h => exact (h0 _ _ h).elim
  | [x], h => exact (h1 _ _ _ h).elim
  | [x, y], _ => exact ⟨x, y, rfl⟩
  | x :: y :: z :: xs, h => exact (h3 _ _ _ _ _ _ h).elim
theorem real_min2B : RealB K (fun xs H Q => ∃ i j, xs = [.int i, .int j] ∧ Q (.int (if j < i then j else i)) H) min2B := fun f st H xs vs Q' Q s r h l => by
  obtain ⟨x, y, rfl⟩ := kb2 (k := min2B) (fun _ _ h => h) (fun x st Q h => by cases x <;> exact h) (fun x y z xs st Q h => by cases x <;> cases y <;> exact h) xs st Q' h
  obtain ⟨v, w, rfl, r1, r2⟩ := r.inv2
  cases x <;> cases y <;> try (exact h.elim)
  rw [RD.int] at r1 r2
  subst r1; subst r2
  exact ⟨_, _, rfl, l.now s h (RD.int.mpr rfl)⟩
theorem real_max2B : RealB K (fun xs H Q => ∃ i j, xs = [.int i, .int j] ∧ Q (.int (if j > i then j else i)) H) max2B := fun f st H xs vs Q' Q s r h l => by
  obtain ⟨x, y, rfl⟩ := kb2 (k := max2B) (fun _ _ h => h) (fun x st Q h => by cases x <;> exact h) (fun x y z xs st Q h => by cases x <;> cases y <;> exact h) xs st Q' h
  obtain ⟨v, w, rfl, r1, r2⟩ := r.inv2
  cases x <;> cases y <;> try (exact h.elim)
  rw [RD.int] at r1 r2
  subst r1; subst r2
  exact ⟨_, _, rfl, l.now s h (RD.int.mpr rfl)⟩
theorem real_listB : RealB K (fun xs H Q => ∃ p ys, xs = [.ref p] ∧ (L2.SqL K H p ys ∨ L2.SqT K H p ys) ∧ ∀ l, H l = none → Q (.ref l) (L2.upd H l (.lst ys))) listB :=
  realB1 (kb1 (fun _ _ h => h) fun x y xs st Q h => by cases x <;> exact h) fun f st H x v Q' Q s r h l => by
    cases x <;> try (exact h.elim)
    · rw [RD.tup] at r
      obtain ⟨a, vs, rfl, t, d⟩ := r
      exact ⟨a, vs, rfl, .inr t, fun p hp => l.lst s h d hp⟩
    · rw [RD.ref] at r
      obtain ⟨a, e, rfl⟩ := r
      obtain ⟨xs, h1, h2⟩ := h
      obtain ⟨a', vs, k1, k2, d⟩ := s.rdA h1
      rw [e] at k1; cases k1
      exact ⟨a, vs, rfl, .inl k2, fun p hp => l.lst s h2 d hp⟩
theorem real_tupleB : RealB K (fun xs H Q => ∃ p ys, xs = [.ref p] ∧ ((L2.SqL K H p ys ∧ ∀ l, H l = none → Q (.ref l) (L2.upd H l (.tup ys))) ∨ (L2.SqT K H p ys ∧ Q (.ref p) H))) tupleB :=
  realB1 (kb1 (fun _ _ h => h) fun x y xs st Q h => by cases x <;> exact h) fun f st H x v Q' Q s r h l => by
    cases x <;> try (exact h.elim)
    · rw [RD.tup] at r
      obtain ⟨a, vs, rfl, t, d⟩ := r
      exact ⟨a, vs, rfl, .inr ⟨t, l.now s h (RD.tup.mpr ⟨a, vs, rfl, t, d⟩)⟩⟩
    · rw [RD.ref] at r
      obtain ⟨a, e, rfl⟩ := r
      obtain ⟨xs, h1, h2⟩ := h
      obtain ⟨a', vs, k1, k2, d⟩ := s.rdA h1
      rw [e] at k1; cases k1
      exact ⟨a, vs, rfl, .inl ⟨k2, fun p hp => l.tup s h2 d hp⟩⟩
theorem real_sumB : RealB K (L2.rSum K) sumB :=
  realB1 (kb1 (fun _ _ h => h) fun x y xs st Q h => by cases x <;> exact h) fun f st H x v Q' Q s r h l => by
    cases x <;> try (exact h.elim)
    rw [RD.ref] at r
    obtain ⟨a, e, rfl⟩ := r
    obtain ⟨ns, h1, h2⟩ := h
    obtain ⟨a', vs, k1, k2, d⟩ := s.rdA h1
    rw [e] at k1; cases k1
    exact ⟨a, ns, rfl, by rw [← d.ints]; exact k2, l.now s h2 (RD.int.mpr rfl)⟩
def truV : L2.V → Bool
  | .bl b => b
  | .int i => i != 0
  | _ => false
def tfl : L2.V → Bool
  | .non => true
  | .bl _ => true
  | .int _ => true
  | _ => false
def rAnyF (K : Kf) : List L2.V → Hp → L2.VK → Prop := fun vs H Q => ∃ (a : Addr) (xs : List L2.V), vs = [L2.V.ref a] ∧ L2.SqL K H a xs ∧ xs.all tfl = true ∧ Q (.bl (xs.any truV)) H
def rAllF (K : Kf) : List L2.V → Hp → L2.VK → Prop := fun vs H Q => ∃ (a : Addr) (xs : List L2.V), vs = [L2.V.ref a] ∧ L2.SqL K H a xs ∧ xs.all tfl = true ∧ Q (.bl (xs.all truV)) H
theorem truth_tfl {prog : Program} {w : World} {A : Around} {xs : List L2.V} {its : List Value} (r : L2.Vals xs its) (h : xs.all tfl = true) :
    TruthOf prog w A (fun i v => its.toArray[i]? = some v) (fun i => (xs.map truV).getD i false) := fun i v s Q E hv hq => by
  have hv' : its[i]? = some v := by simpa using hv
  have hi : i < xs.length := by rw [r.length]; exact (List.getElem?_eq_some_iff.mp hv').1
  have hx : xs[i]? = some xs[i] := by simp [hi]
  obtain ⟨u, hu, ru⟩ := r.get hx
  rw [hv'] at hu; cases hu
  have hg : (xs.map truV).getD i false = truV xs[i] := by rw [List.getD_eq_getElem?_getD, List.getElem?_map, hx]; rfl
  have hq' : Q ((xs.map truV).getD i false) s := hq
  rw [hg] at hq'
  have ht : tfl xs[i] = true := by
    rw [List.all_eq_true] at h
    exact h _ (List.getElem_mem hi)
  generalize xs[i] = x at ru hq' ht
  cases x with
  | non => cases ru; exact PyProof.Rows.truthy_none hq'
  | bl b => cases ru; exact wpAny_truthy_bool hq'
  | int j => obtain ⟨t, rfl⟩ := ru; exact PySem.P.truthy_int hq'
  | _ => exact absurd ht (by simp [tfl])
theorem cr_anyF (hc : X.calm = true) : L2.CallR X (.builtin "any") (rAnyF X.K) := by
  intro pins s σ H vs us Q I r h
  obtain ⟨a, xs, rfl, hs, ht, q⟩ := h
  obtain ⟨its, rv, hl, _⟩ := I.list hs
  rw [L2.Vals.ref1 r]
  refine call_any_walk (L2.iter_any hl.isList fun s₂ e2 st hne => ?_)
  subst e2
  refine ⟨_, _, _, _, _, _, _, rfl, Walks.list (A := X.A.in1) (I.ok.hd hc) _ a hne its.toArray, st, truth_tfl rv ht, fun h' tk hk => ?_⟩
  refine ⟨.bl _, H, I.kept fun b o eo => hk b o (fun hmem => ?_) (Heap.get?_push_of_some _ eo), ?_, q⟩
  · rcases List.mem_cons.mp hmem with e1 | hmem
    · exact absurd (e1 ▸ Heap.lt_size eo) (Nat.lt_irrefl _)
    · cases hmem
  · show Value.bool _ = Value.bool _
    have e1 : its.toArray.size = (xs.map truV).length := by rw [List.size_toArray, List.length_map]; exact rv.length.symm
    rw [e1, L2.any_range, List.any_map]
    rfl
theorem cr_allF (hc : X.calm = true) : L2.CallR X (.builtin "all") (rAllF X.K) := by
  intro pins s σ H vs us Q I r h
  obtain ⟨a, xs, rfl, hs, ht, q⟩ := h
  obtain ⟨its, rv, hl, _⟩ := I.list hs
  rw [L2.Vals.ref1 r]
  refine call_all_walk (L2.iter_any hl.isList fun s₂ e2 st hne => ?_)
  subst e2
  refine ⟨_, _, _, _, _, _, _, rfl, Walks.list (A := X.A.in1) (I.ok.hd hc) _ a hne its.toArray, st, truth_tfl rv ht, fun h' tk hk => ?_⟩
  refine ⟨.bl _, H, I.kept fun b o eo => hk b o (fun hmem => ?_) (Heap.get?_push_of_some _ eo), ?_, q⟩
  · rcases List.mem_cons.mp hmem with e1 | hmem
    · exact absurd (e1 ▸ Heap.lt_size eo) (Nat.lt_irrefl _)
    · cases hmem
  · show Value.bool _ = Value.bool _
    have e1 : its.toArray.size = (xs.map truV).length := by rw [List.size_toArray, List.length_map]; exact rv.length.symm
    rw [e1, L2.all_range, List.all_map]
    rfl
theorem RD.tru {x : D} {v : L2.V} (h : RD K f H x v) (hx : x.tflat = true) : tfl v = true ∧ truV v = x.tru := by
  cases x with
  | non => rw [RD.non] at h; subst h; exact ⟨rfl, rfl⟩
  | bl b => rw [RD.bl] at h; subst h; exact ⟨rfl, rfl⟩
  | int i => rw [RD.int] at h; subst h; exact ⟨rfl, rfl⟩
  | str _ => cases hx
  | tup _ => cases hx
  | ref _ => cases hx
theorem RDs.tru : ∀ {xs : List D} {vs : List L2.V}, RDs K f H xs vs → xs.all D.tflat = true → vs.all tfl = true ∧ vs.any truV = xs.any D.tru ∧ vs.all truV = xs.all D.tru
  | [], _, h, _ => by rw [RDs.nil] at h; subst h; exact ⟨rfl, rfl, rfl⟩
  | x :: xs, _, h, hf => by
    rw [RDs.cons] at h
    obtain ⟨v, r, rfl, h1, h2⟩ := h
    have hf' : x.tflat = true ∧ xs.all D.tflat = true := by simpa using hf
    obtain ⟨a, b⟩ := h1.tru hf'.1
    obtain ⟨c, d, e⟩ := RDs.tru h2 hf'.2
    simp [a, b, c, d, e]
theorem real_allB : RealB K (rAllF K) allB :=
  realB1 (kb1 (fun _ _ h => h) fun x y xs st Q h => by cases x <;> exact h) fun f st H x v Q' Q s r h l => by
    cases x <;> try (exact h.elim)
    rw [RD.ref] at r
    obtain ⟨a, e, rfl⟩ := r
    obtain ⟨xs, h1, h2, h3⟩ := h
    obtain ⟨a', vs, k1, k2, d⟩ := s.rdA h1
    rw [e] at k1; cases k1
    obtain ⟨t1, t2, t3⟩ := d.tru h2
    exact ⟨a, vs, rfl, k2, t1, by rw [t3]; exact l.now s h3 (RD.bl.mpr rfl)⟩
theorem real_anyB : RealB K (rAnyF K) anyB :=
  realB1 (kb1 (fun _ _ h => h) fun x y xs st Q h => by cases x <;> exact h) fun f st H x v Q' Q s r h l => by
    cases x <;> try (exact h.elim)
    rw [RD.ref] at r
    obtain ⟨a, e, rfl⟩ := r
    obtain ⟨xs, h1, h2, h3⟩ := h
    obtain ⟨a', vs, k1, k2, d⟩ := s.rdA h1
    rw [e] at k1; cases k1
    obtain ⟨t1, t2, t3⟩ := d.tru h2
    exact ⟨a, vs, rfl, k2, t1, by rw [t2]; exact l.now s h3 (RD.bl.mpr rfl)⟩
theorem real_min1B : RealB K (L2.rMin K) min1B :=
  realB1 (kb1 (fun _ _ h => h) fun x y xs st Q h => by cases x <;> exact h) fun f st H x v Q' Q s r h l => by
    cases x <;> try (exact h.elim)
    rw [RD.ref] at r
    obtain ⟨a, e, rfl⟩ := r
    obtain ⟨ns, h1, h2, h3⟩ := h
    obtain ⟨a', vs, k1, k2, d⟩ := s.rdA h1
    rw [e] at k1; cases k1
    exact ⟨a, ns, rfl, by rw [← d.ints]; exact k2, h2, fun m hm hy => l.now s (h3 m hm hy) (RD.int.mpr rfl)⟩
theorem real_max1B : RealB K (L2.rMax K) max1B :=
  realB1 (kb1 (fun _ _ h => h) fun x y xs st Q h => by cases x <;> exact h) fun f st H x v Q' Q s r h l => by
    cases x <;> try (exact h.elim)
    rw [RD.ref] at r
    obtain ⟨a, e, rfl⟩ := r
    obtain ⟨ns, h1, h2, h3⟩ := h
    obtain ⟨a', vs, k1, k2, d⟩ := s.rdA h1
    rw [e] at k1; cases k1
    exact ⟨a, ns, rfl, by rw [← d.ints]; exact k2, h2, fun m hm hy => l.now s (h3 m hm hy) (RD.int.mpr rfl)⟩
end
end Pd
end PartPdSoundC

section PartPdSoundD
set_option Elab.async false
set_option linter.all false
set_option maxRecDepth 100000
set_option maxHeartbeats 1000000
/-! Pd over the hand layer: targets, loops, statements, comprehensions, methods, defs. Own work. -/
namespace Pd
open PySem PySem.Spec
section
variable {X : L2.Cx} {K : Kf} {f f' : List Addr} {H H' : Hp} {st st' : Store} {ρ : Env} {σ : L2.St}
/-! ### targets -/
def LG (K : Kf) (f : List Addr) (H : Hp) (σ : L2.St) (vs : List Nat) (Q' : Env → Store → Prop) (Q : L2.St → Hp → Prop) : Prop :=
  ∀ (ρ' : Env) (st' : Store) (σ' : L2.St) (f' : List Addr) (H' : Hp), Q' ρ' st' → Ext K f H f' H' → Rel K f' ρ' st' σ' H' → Out vs σ σ' → Q σ' H'
def liftG (K : Kf) (g : TG) (vs : List Nat) : L2.TG := fun v σ H Q => ∃ f ρ st d Q', Rel K f ρ st σ H ∧ RD K f H d v ∧ g d ρ st Q' ∧ LG K f H σ vs Q' Q
def liftGs (K : Kf) (g : TGs) (vs : List Nat) : L2.TGs := fun us σ H Q => ∃ f ρ st ds Q', Rel K f ρ st σ H ∧ RDs K f H ds us ∧ g ds ρ st Q' ∧ LG K f H σ vs Q' Q
abbrev PDG (X : L2.Cx) (e : Expr) (g : TG) (vs : List Nat) : Prop := L2.PG X e (liftG X.K g vs)
abbrev PDGs (X : L2.Cx) (es : List Expr) (g : TGs) (vs : List Nat) : Prop := L2.PGs X es (liftGs X.K g vs)
theorem pg_imp {e : Expr} {t t' : L2.TG} (h : L2.PG X e t) (m : ∀ v σ H Q, t' v σ H Q → t v σ H Q) : L2.PG X e t' := ⟨fun pins s σ H v u Q I r q => h.run pins s σ H v u Q I r (m v σ H Q q)⟩
theorem pgs_imp {e : List Expr} {t t' : L2.TGs} (h : L2.PGs X e t) (m : ∀ v σ H Q, t' v σ H Q → t v σ H Q) : L2.PGs X e t' := ⟨fun pins s σ H v u Q I r q => h.run pins s σ H v u Q I r (m v σ H Q q)⟩
theorem Out.refl {vs : List Nat} {σ : L2.St} : Out vs σ σ := ⟨rfl, fun _ _ => rfl⟩
theorem Out.set {i : Nat} {v : L2.V} {σ : L2.St} : Out [i] σ (σ.set i (some v)) := ⟨by rw [List.length_set], fun j h => by
  have : j ≠ i := fun e => h (by simp [e])
  rw [List.getElem?_set_ne (Ne.symm this)]⟩
theorem Out.trans {vs ws : List Nat} {σ σ1 σ2 : L2.St} (a : Out vs σ σ1) (b : Out ws σ1 σ2) : Out (vs ++ ws) σ σ2 :=
  ⟨b.1.trans a.1, fun j h => (b.2 j fun e => h (List.mem_append_right _ e)).trans (a.2 j fun e => h (List.mem_append_left _ e))⟩
theorem pg_name {i : Nat} {x : Str} {pos : Pos} (hN : X.N.Nodup) (hi : X.N[i]? = some x) (hx : L2.Loc X.env.scope x) (hf : X.fn x = true ∨ X.env.scope.names.lookup x = some .local := by first | exact .inl rfl | exact .inr rfl | assumption) : PDG X (.Name x pos) (gName i) [i] :=
  pg_imp (L2.pg_name hN hi hx hf) fun v σ H Q ⟨f, ρ, st, d, Q', R, r, h, l⟩ => l _ st _ f H h .refl (R.put r) Out.set
theorem pgs_nil : PDGs X [] gsNil [] := pgs_imp L2.pgs_nil fun us σ H Q ⟨f, ρ, st, ds, Q', R, r, h, l⟩ => by
  obtain ⟨rfl, h⟩ := h
  rw [RDs.nil] at r
  exact ⟨r, l ρ st σ f H h .refl R .refl⟩
theorem pgs_cons {e : Expr} {es : List Expr} {g : TG} {gs : TGs} {vs ws : List Nat} (h1 : PDG X e g vs) (h2 : PDGs X es gs ws) (hs : (assignEach (e :: es) X.env).map (·.2) = assign e X.env :: (assignEach es X.env).map (·.2) := by rfl) : PDGs X (e :: es) (gsCons g gs) (vs ++ ws) :=
  pgs_imp (L2.pgs_cons h1 h2 hs) fun us σ H Q ⟨f, ρ, st, ds, Q', R, r, h, l⟩ => by
    obtain ⟨d, ds', rfl, h⟩ := h
    rw [RDs.cons] at r
    obtain ⟨v, rr, rfl, r1, r2⟩ := r
    refine ⟨v, rr, rfl, f, ρ, st, d, _, R, r1, h, fun ρ1 st1 σ1 f1 H1 q e1 R1 o1 => ?_⟩
    exact ⟨f1, ρ1, st1, ds', Q', R1, r2.mono e1, q, fun ρ2 st2 σ2 f2 H2 q2 e2 R2 o2 => l ρ2 st2 σ2 f2 H2 q2 (e1.trans e2) R2 (o1.trans o2)⟩
theorem pg_tup {es : List Expr} {k : Nat} {pos : Pos} {gs : TGs} {vs : List Nat} {n : Nat} (hc : X.calm = true) (h : PDGs X es gs vs)
    (hn : (assignEach es X.env).length = n := by rfl) (hst : (assignEach es X.env).findIdx? (·.1) = none := by rfl) : PDG X (.Tuple es k pos) (gTup gs n) vs :=
  pg_imp (L2.pg_tup hc h hn hst) fun v σ H Q ⟨f, ρ, st, d, Q', R, r, h, l⟩ => by
    obtain ⟨ds, rfl, hl, h⟩ := h
    rw [RD.tup] at r
    obtain ⟨a, us, rfl, t, rs⟩ := r
    exact ⟨a, us, rfl, t, by rw [rs.length]; exact hl, f, ρ, st, ds, Q', R, rs, h, l⟩
def RealSet (K : Kf) (r : L2.V → L2.V → L2.V → Hp → (Hp → Prop) → Prop) (k : D → D → D → Store → (Store → Prop) → Prop) : Prop :=
  ∀ (f : List Addr) (st : Store) (H : Hp) (o i v : D) (ov iv vv : L2.V) (Q' : Store → Prop) (Q : Hp → Prop), RelS K f st H → RD K f H o ov → RD K f H i iv → RD K f H v vv → k o i v st Q' →
    (∀ st' H', Q' st' → Ext K f H f H' → RelS K f st' H' → Q H') → r ov iv vv H Q
theorem real_set : RealSet K L2.rSetL setK := fun f st H o i v ov iv vv Q' Q s r1 r2 r3 h l => by
  cases o <;> try (exact h.elim)
  cases i <;> try (exact h.elim)
  rename_i n i
  rw [RD.ref] at r1
  rw [RD.int] at r2
  obtain ⟨a, e, rfl⟩ := r1
  obtain ⟨xs, h1, ⟨d, h2⟩, h3, h4⟩ := h
  obtain ⟨a', vs, k1, k2, k3⟩ := s.rdL h1
  rw [e] at k1; cases k1
  have hlt : i < (vs.length : Int) := by
    rw [k3.length]
    unfold atD at h2
    rw [if_pos h3] at h2
    have := (List.getElem?_eq_some_iff.mp h2).1
    omega
  obtain ⟨s', e'⟩ := s.put e h1 k2 (k3.set i.toNat r3)
  exact ⟨a, vs, i, i.toNat, rfl, r2, k2, by unfold L2.ixN; rw [if_pos h3, if_pos hlt], l _ _ h4 e' s'⟩
section
variable {a b c e o i : Expr} {es : List Expr} {ta tb te to ti : TE} {pos tpos : Pos}
theorem pg_sub (h1 : PD X o to) (h2 : PD X i ti) (ha : ∀ v, assign (.Subscript o i pos) X.env v = (do
      let ov ← holding [v] (eval o X.env)
      let iv ← holding [v, ov] (eval i X.env)
      standAt pos
      holding [v, ov, iv] (setItem ov iv v)
      release [v, ov, iv] []) := by intro _; rfl) : PDG X (.Subscript o i pos) (gSub to ti) [] :=
  pg_imp (L2.pg_sub h1 h2 L2.set_list ha) fun v σ H Q ⟨f, ρ, st, d, Q', R, r, h, l⟩ => ⟨f, ρ, st, _, R, h, fun x st1 u f1 H1 q1 e1 s1 r1 => ⟨f1, ρ, st1, _, R.later e1 s1, q1, fun y st2 w f2 H2 q2 e2 s2 r2 =>
    real_set f2 st2 H2 x y d u w v _ _ s2 (r1.mono e2) r2 (r.mono (e1.trans e2)) q2 fun st3 H3 q3 e3 s3 => l ρ st3 σ f2 H3 q3 ((e1.trans e2).trans e3) (R.later ((e1.trans e2).trans e3) s3) .refl⟩⟩

/-! ### iterables -/
/-- what is walked: data and walk -/
structure RealI (K : Kf) (f : List Addr) (H : Hp) (I : Iter) (J : L2.It) : Prop where
  go : ∀ (i : Nat) (f2 : List Addr) (st2 : Store) (H2 : Hp), Ext K f H f2 H2 → RelS K f2 st2 H2 → I.guard st2 → i < I.items.length → J.go i H2
  stop : ∀ (f2 : List Addr) (st2 : Store) (H2 : Hp), Ext K f H f2 H2 → RelS K f2 st2 H2 → I.guard st2 → J.stop I.items.length H2
  yld : ∀ (i : Nat) (f2 : List Addr) (st2 : Store) (H2 : Hp) (d : D) (x : L2.V) (H3 : Hp), Ext K f H f2 H2 → RelS K f2 st2 H2 → I.guard st2 → I.items[i]? = some d → J.yld i H2 x H3 → Ext K f2 H2 f2 H3 ∧ RelS K f2 st2 H3 ∧ RD K f2 H3 d x
def liftI (K : Kf) (t : TI) : L2.TI := fun σ H R => ∃ f ρ st R', Rel K f ρ st σ H ∧ t ρ st R' ∧ ∀ (I : Iter) (st' : Store) (J : L2.It) (f' : List Addr) (H' : Hp), R' I st' → Ext K f H f' H' → RelS K f' st' H' → RealI K f' H' I J → R J H'
abbrev PDI (X : L2.Cx) (tg e : Expr) (t : TI) : Prop := L2.PI X tg e (liftI X.K t)
theorem pi_imp {tg e : Expr} {t t' : L2.TI} (h : L2.PI X tg e t) (m : ∀ σ H R, t' σ H R → t σ H R) : L2.PI X tg e t' := ⟨fun pins s σ H R I q => h.run pins s σ H R I (m σ H R q)⟩
def iSeqV (K : Kf) (tl : L2.TE) : L2.TI := fun σ H R => tl σ H fun x H1 => ∃ a, x = .ref a ∧ ((∃ xs, L2.SqL K H1 a xs ∧ R (L2.Itl K a) H1) ∨ (∃ xs, L2.SqT K H1 a xs ∧ R (L2.Itt K a) H1))
theorem pi_seqV {tg l : Expr} {tl : L2.TE} (hl : L2.PE X l tl) : L2.PI X tg l (iSeqV X.K tl) := by
  refine ⟨fun pins s σ H R I h => ?_⟩
  refine L2.thn (hl.run pins s σ H _ I h) fun v s1 ⟨x, H1, I1, r1, q1⟩ => ?_
  obtain ⟨a, e, q1⟩ := q1
  subst e
  cases r1
  have fin : ∀ b ∈ [s1.heap.objs.size], L2.FpOk X pins H1 b := fun b hb => by
    have e : b = s1.heap.objs.size := by simpa using hb
    subst e
    exact I1.fpOk (Nat.le_refl _) (I1.hok.fresh (Nat.le_refl _))
  rcases q1 with ⟨xs, hq, q⟩ | ⟨xs, hq, q⟩
  · obtain ⟨its, rv, p, hz⟩ := I1.list hq
    refine wpAny_pyIter_list p.isList ?_
    exact ⟨s1.heap.objs.size, [s1.heap.objs.size], _, _, H1, rfl, I1.kept (t' := s1.toks) fun b o e => Heap.get?_push_of_some _ e, L2.turn_list a _, ⟨_, Heap.get?_push_size _ rfl, rfl, rfl⟩, fin, q⟩
  · obtain ⟨its, rv, p, hz⟩ := I1.tuple hq
    refine wpAny_pyIter_tuple (show s1.heap.IsTuple a its.toArray from p) ?_
    exact ⟨s1.heap.objs.size, [s1.heap.objs.size], _, _, H1, rfl, I1.kept (t' := s1.toks) fun b o e => Heap.get?_push_of_some _ e, L2.turn_tuple a _, ⟨_, Heap.get?_push_size _ rfl, rfl, rfl⟩, fin, q⟩
theorem RDs.at_lt {ds : List D} {vs : List L2.V} (h : RDs K f H ds vs) {i : Nat} (hi : i < ds.length) : ∃ v, vs[i]? = some v := by
  have := h.length
  exact ⟨vs[i]'(by omega), by simp [this, hi]⟩
theorem realI_list {n : Nat} {a : Addr} {xs : List D} (hn : f[n]? = some a) : RealI K f H ⟨xs, fun s => rdA s n xs⟩ (L2.Itl K a) where
  go := fun i f2 st2 H2 e2 s2 g hi => by
    obtain ⟨a', vs, k1, k2, k3⟩ := s2.rdA g
    rw [e2.at hn] at k1; cases k1
    obtain ⟨v, hv⟩ := k3.at_lt hi
    exact ⟨vs, v, k2, hv⟩
  stop := fun f2 st2 H2 e2 s2 g => by
    obtain ⟨a', vs, k1, k2, k3⟩ := s2.rdA g
    rw [e2.at hn] at k1; cases k1
    exact ⟨vs, k2, by rw [k3.length]; exact Nat.le_refl _⟩
  yld := fun i f2 st2 H2 d x H3 e2 s2 g hd y => by
    obtain ⟨a', vs, k1, k2, k3⟩ := s2.rdA g
    rw [e2.at hn] at k1; cases k1
    obtain ⟨rfl, y⟩ := y
    obtain ⟨v, h1, h2⟩ := k3.get hd
    have := y vs k2
    rw [h1] at this; cases this
    exact ⟨.refl, s2, h2⟩
theorem realI_tup {a : Addr} {xs : List D} {vs : List L2.V} (t : L2.SqT K H a vs) (r : RDs K f H xs vs) : RealI K f H ⟨xs, fun _ => True⟩ (L2.Itt K a) where
  go := fun i f2 st2 H2 e2 s2 g hi => by
    obtain ⟨v, hv⟩ := r.at_lt hi
    exact ⟨vs, v, e2.tup _ _ t, hv⟩
  stop := fun f2 st2 H2 e2 s2 g => ⟨vs, e2.tup _ _ t, by rw [r.length]; exact Nat.le_refl _⟩
  yld := fun i f2 st2 H2 d x H3 e2 s2 g hd y => by
    obtain ⟨rfl, y⟩ := y
    obtain ⟨v, h1, h2⟩ := r.get hd
    have := y vs (e2.tup _ _ t)
    rw [h1] at this; cases this
    exact ⟨.refl, s2, h2.mono e2⟩
theorem realI_rng {lo : Int} {n : Nat} : RealI K f H ⟨rng lo n, fun _ => True⟩ (L2.Itr lo n) where
  go := fun i f2 st2 H2 e2 s2 g hi => by
    have : i < n := by simpa [rng] using hi
    exact this
  stop := fun f2 st2 H2 e2 s2 g => by
    show n ≤ (rng lo n).length
    simp [rng]
  yld := fun i f2 st2 H2 d x H3 e2 s2 g hd y => by
    obtain ⟨rfl, rfl⟩ := y
    refine ⟨.refl, s2, ?_⟩
    have hd' : (rng lo n)[i]? = some d := hd
    unfold rng at hd'
    rw [List.getElem?_map] at hd'
    cases q : (List.range n)[i]? with
    | none => rw [q] at hd'; cases hd'
    | some j =>
      rw [q] at hd'
      obtain ⟨h1, h2⟩ := List.getElem?_eq_some_iff.mp q
      simp at h2
      subst h2
      simp at hd'
      subst hd'
      rw [RD.int]
theorem pi_seq {tg : Expr} (h : PD X a ta) : PDI X tg a (iSeq ta) :=
  pi_imp (pi_seqV h) fun σ H R ⟨f, ρ, st, R', Re, h, l⟩ => ⟨f, ρ, st, _, Re, h, fun x st1 v f1 H1 q1 e1 s1 r1 => by
    cases x <;> try (exact q1.elim)
    · rw [RD.tup] at r1
      obtain ⟨a, vs, rfl, t, d⟩ := r1
      exact ⟨a, rfl, .inr ⟨vs, t, l _ st1 _ f1 H1 q1 e1 s1 (realI_tup t d)⟩⟩
    · rw [RD.ref] at r1
      obtain ⟨a, e, rfl⟩ := r1
      obtain ⟨xs, g1, g2⟩ := q1
      obtain ⟨a', vs, k1, k2, k3⟩ := s1.rdA g1
      rw [e] at k1; cases k1
      exact ⟨a, rfl, .inl ⟨vs, k2, l _ st1 _ f1 H1 g2 e1 s1 (realI_list e)⟩⟩⟩
theorem pi_r1 {tg : Expr} {p : Pos} (hg : L2.Gl X "range") (hm : X.mg "range" = none) (h : PD X a ta) (hs : starEach [a] X.env = [(false, eval a X.env)] := by rfl) : PDI X tg (.Call (.Name "range" p) [a] [] pos) (iR1 ta) :=
  pi_imp (L2.pi_range1 hg hm (L2.pa_cons h L2.pa_nil hs) hs) fun σ H R ⟨f, ρ, st, R', Re, h, l⟩ => ⟨f, ρ, st, _, Re, h, fun x st1 v f1 H1 q1 e1 s1 r1 => by
    obtain ⟨j, rfl, h1, h2, h3⟩ := q1
    rw [RD.int] at r1
    subst r1
    exact ⟨j, rfl, h1, h2, l _ st1 _ f1 H1 h3 e1 s1 realI_rng⟩⟩
theorem pi_r2 {tg : Expr} {p : Pos} (hg : L2.Gl X "range") (hm : X.mg "range" = none) (h : PD X a ta) (h' : PD X b tb) (hs : starEach [a, b] X.env = [(false, eval a X.env), (false, eval b X.env)] := by rfl) (hs2 : starEach [b] X.env = [(false, eval b X.env)] := by rfl) : PDI X tg (.Call (.Name "range" p) [a, b] [] pos) (iR2 ta tb) :=
  pi_imp (L2.pi_range2 hg hm (L2.pa_cons h (L2.pa_cons h' L2.pa_nil hs2) (hs.trans (by rw [hs2]))) hs hs2) fun σ H R ⟨f, ρ, st, R', Re, h, l⟩ => ⟨f, ρ, st, _, Re, h, fun x st1 v f1 H1 q1 e1 s1 r1 => ⟨f1, ρ, st1, _, Re.later e1 s1, q1, fun y st2 w f2 H2 q2 e2 s2 r2 => by
    obtain ⟨i, j, rfl, rfl, h2, h3⟩ := q2
    have r1' := r1.mono e2
    rw [RD.int] at r1' r2
    subst r1'; subst r2
    exact ⟨i, j, rfl, h2, l _ st2 _ f2 H2 h3 (e1.trans e2) s2 realI_rng⟩⟩⟩
theorem zipD_get : ∀ {xs ys : List D} {i : Nat} {d : D}, (zipD xs ys)[i]? = some d → ∃ x y, d = .tup [x, y] ∧ xs[i]? = some x ∧ ys[i]? = some y
  | [], _, _, _, h => by simp [zipD] at h
  | _ :: _, [], _, _, h => by simp [zipD] at h
  | x :: xs, y :: ys, 0, d, h => by simp [zipD] at h; exact ⟨x, y, h.symm, rfl, rfl⟩
  | x :: xs, y :: ys, i + 1, d, h => by
    obtain ⟨x', y', h1, h2, h3⟩ := zipD_get (xs := xs) (ys := ys) (i := i) (by simpa [zipD] using h)
    exact ⟨x', y', h1, by simpa using h2, by simpa using h3⟩
theorem zipD_length : ∀ (xs ys : List D), (zipD xs ys).length = min xs.length ys.length
  | [], _ => by simp [zipD]
  | _ :: _, [] => by simp [zipD]
  | x :: xs, y :: ys => by simp [zipD, zipD_length xs ys]
theorem realI_zipT {a b : Addr} {xs ys : List D} {vs ws : List L2.V} (t : L2.SqT K H a vs) (r : RDs K f H xs vs) (t' : L2.SqT K H b ws) (r' : RDs K f H ys ws) : RealI K f H ⟨zipD xs ys, fun _ => True⟩ (RZ.ItzT K a b) where
  go := fun i f2 st2 H2 e2 s2 g hi => by
    have hi : i < (zipD xs ys).length := hi
    rw [zipD_length] at hi
    obtain ⟨v, hv⟩ := r.at_lt (i := i) (by omega)
    obtain ⟨w, hw⟩ := r'.at_lt (i := i) (by omega)
    exact ⟨vs, ws, v, w, e2.tup _ _ t, e2.tup _ _ t', hv, hw⟩
  stop := fun f2 st2 H2 e2 s2 g => ⟨vs, ws, e2.tup _ _ t, e2.tup _ _ t', by
    show vs.length ≤ (zipD xs ys).length ∨ ws.length ≤ (zipD xs ys).length
    rw [zipD_length, r.length, r'.length]; omega⟩
  yld := fun i f2 st2 H2 d x H3 e2 s2 g hd y => by
    obtain ⟨T, x1, x2, rfl, hT, rfl, y1, y2⟩ := y
    obtain ⟨d1, d2, rfl, g1, g2⟩ := zipD_get hd
    obtain ⟨v, h1, h2⟩ := r.get g1
    obtain ⟨w, h3, h4⟩ := r'.get g2
    have q1 := y1 vs (e2.tup _ _ t)
    have q2 := y2 ws (e2.tup _ _ t')
    rw [h1] at q1; cases q1
    rw [h3] at q2; cases q2
    obtain ⟨s', e'⟩ := s2.lay (o := .tup [x1, x2]) hT
    refine ⟨e', s', RD.tup.mpr ⟨T, [x1, x2], rfl, .of L2.upd_same, ?_⟩⟩
    rw [RDs.cons]
    exact ⟨x1, [x2], rfl, (h2.mono e2).mono e', RDs.one ((h4.mono e2).mono e')⟩
theorem realI_zipL {m n : Nat} {a b : Addr} {xs ys : List D} (hm : f[m]? = some a) (hn : f[n]? = some b) : RealI K f H ⟨zipD xs ys, fun s => rdA s m xs ∧ rdA s n ys⟩ (L2.Itz K a b) where
  go := fun i f2 st2 H2 e2 s2 g hi => by
    have hi : i < (zipD xs ys).length := hi
    rw [zipD_length] at hi
    obtain ⟨a', vs, k1, k2, k3⟩ := s2.rdA g.1
    obtain ⟨b', ws, j1, j2, j3⟩ := s2.rdA g.2
    rw [e2.at hm] at k1; cases k1
    rw [e2.at hn] at j1; cases j1
    obtain ⟨v, hv⟩ := k3.at_lt (i := i) (by omega)
    obtain ⟨w, hw⟩ := j3.at_lt (i := i) (by omega)
    exact ⟨vs, ws, v, w, k2, j2, hv, hw⟩
  stop := fun f2 st2 H2 e2 s2 g => by
    obtain ⟨a', vs, k1, k2, k3⟩ := s2.rdA g.1
    obtain ⟨b', ws, j1, j2, j3⟩ := s2.rdA g.2
    rw [e2.at hm] at k1; cases k1
    rw [e2.at hn] at j1; cases j1
    refine ⟨vs, ws, k2, j2, ?_⟩
    show vs.length ≤ (zipD xs ys).length ∨ ws.length ≤ (zipD xs ys).length
    rw [zipD_length, k3.length, j3.length]; omega
  yld := fun i f2 st2 H2 d x H3 e2 s2 g hd y => by
    obtain ⟨a', vs, k1, k2, k3⟩ := s2.rdA g.1
    obtain ⟨b', ws, j1, j2, j3⟩ := s2.rdA g.2
    rw [e2.at hm] at k1; cases k1
    rw [e2.at hn] at j1; cases j1
    obtain ⟨T, x1, x2, rfl, hT, rfl, y1, y2⟩ := y
    obtain ⟨d1, d2, rfl, g1, g2⟩ := zipD_get hd
    obtain ⟨v, h1, h2⟩ := k3.get g1
    obtain ⟨w, h3, h4⟩ := j3.get g2
    have q1 := y1 vs k2
    have q2 := y2 ws j2
    rw [h1] at q1; cases q1
    rw [h3] at q2; cases q2
    obtain ⟨s', e'⟩ := s2.lay (o := .tup [x1, x2]) hT
    refine ⟨e', s', RD.tup.mpr ⟨T, [x1, x2], rfl, .of L2.upd_same, ?_⟩⟩
    rw [RDs.cons]
    exact ⟨x1, [x2], rfl, h2.mono e', RDs.one (h4.mono e')⟩
theorem pi_zip {p tp : Pos} {kk : Nat} (hg : L2.Gl X "zip") (hm : X.mg "zip" = none) (h : PD X a ta) (h' : PD X b tb) (hs : starEach [a, b] X.env = (false, eval a X.env) :: starEach [b] X.env := by rfl) (hs2 : starEach [b] X.env = (false, eval b X.env) :: starEach [] X.env := by rfl)
    (hpl : (backTo pos (starEach [b] X.env)).any (·.1) = false := by rfl) : PDI X (.Tuple es kk tp) (.Call (.Name "zip" p) [a, b] [] pos) (iZip2 ta tb) :=
  pi_imp (RZ.pi_zipA hg hm (L2.pa_cons h (L2.pa_cons h' L2.pa_nil hs2) hs) hs hpl) fun σ H R ⟨f, ρ, st, R', Re, h, l⟩ => ⟨f, ρ, st, _, Re, h, fun x st1 v f1 H1 q1 e1 s1 r1 => ⟨f1, ρ, st1, _, Re.later e1 s1, q1, fun y st2 w f2 H2 q2 e2 s2 r2 => by
    have r1' := r1.mono e2
    cases x <;> cases y <;> try (exact q2.elim)
    · rw [RD.tup] at r1' r2
      obtain ⟨a, vs, rfl, t, d⟩ := r1'
      obtain ⟨b, ws, rfl, t', d'⟩ := r2
      exact ⟨a, b, vs, ws, rfl, .inr ⟨t, t', l _ st2 _ f2 H2 q2 (e1.trans e2) s2 (realI_zipT t d t' d')⟩⟩
    · rw [RD.ref] at r1' r2
      obtain ⟨a, g1, rfl⟩ := r1'
      obtain ⟨b, g2, rfl⟩ := r2
      obtain ⟨xs, ys, q3, q4, q5⟩ := q2
      obtain ⟨a', vs, k1, k2, k3⟩ := s2.rdA q3
      obtain ⟨b', ws, j1, j2, j3⟩ := s2.rdA q4
      rw [g1] at k1; cases k1
      rw [g2] at j1; cases j1
      exact ⟨a, b, vs, ws, rfl, .inl ⟨k2, j2, l _ st2 _ f2 H2 q5 (e1.trans e2) s2 (realI_zipL g1 g2)⟩⟩⟩⟩
end
end
end Pd
end PartPdSoundD

section PartPdSoundE
set_option Elab.async false
set_option linter.all false
set_option maxRecDepth 100000
set_option maxHeartbeats 1000000
/-! Pd over the hand layer: statements, comprehensions, methods, defs. Own work. -/
namespace Pd
open PySem PySem.Spec
section
variable {X : L2.Cx} {K : Kf} {f f' : List Addr} {H H' : Hp} {st st' : Store} {ρ : Env} {σ : L2.St}
/-! ### statements -/
structure LD (K : Kf) (f : List Addr) (H : Hp) (D' : Ends) (D : L2.Ends) : Prop where
  nx : ∀ (ρ' : Env) (st' : Store) (σ' : L2.St) (f' : List Addr) (H' : Hp), D'.nx ρ' st' → Ext K f H f' H' → Rel K f' ρ' st' σ' H' → D.nx σ' H'
  rt : LQ K f H D'.rt D.rt
  bk : ∀ (ρ' : Env) (st' : Store) (σ' : L2.St) (f' : List Addr) (H' : Hp), D'.bk ρ' st' → Ext K f H f' H' → Rel K f' ρ' st' σ' H' → D.bk σ' H'
  ct : ∀ (ρ' : Env) (st' : Store) (σ' : L2.St) (f' : List Addr) (H' : Hp), D'.ct ρ' st' → Ext K f H f' H' → Rel K f' ρ' st' σ' H' → D.ct σ' H'
def liftS (K : Kf) (t : TS) : L2.TS := fun D σ H => ∃ f ρ st D', Rel K f ρ st σ H ∧ t D' ρ st ∧ LD K f H D' D
abbrev PDS (X : L2.Cx) (s : Stmt) (t : TS) : Prop := L2.PS X s (liftS X.K t)
abbrev PDSs (X : L2.Cx) (s : List Stmt) (t : TS) : Prop := L2.PSs X s (liftS X.K t)
theorem ps_imp {s : Stmt} {t t' : L2.TS} (h : L2.PS X s t) (m : ∀ D σ H, t' D σ H → t D σ H) : L2.PS X s t' := ⟨fun pins s σ H D I q => h.run pins s σ H D I (m D σ H q)⟩
theorem pss_imp {s : List Stmt} {t t' : L2.TS} (h : L2.PSs X s t) (m : ∀ D σ H, t' D σ H → t D σ H) : L2.PSs X s t' := ⟨fun pins s σ H D I q => h.run pins s σ H D I (m D σ H q)⟩
theorem LD.later {D' : Ends} {D : L2.Ends} (l : LD K f H D' D) (e : Ext K f H f' H') : LD K f' H' D' D :=
  ⟨fun a b c d g q e2 r => l.nx a b c d g q (e.trans e2) r, l.rt.later e, fun a b c d g q e2 r => l.bk a b c d g q (e.trans e2) r, fun a b c d g q e2 r => l.ct a b c d g q (e.trans e2) r⟩
section
variable {a b c e o i : Expr} {es : List Expr} {ta tb te to ti : TE} {tC : TT} {pos tpos : Pos} {s : Stmt} {ss ss' : List Stmt} {t u : TS}
theorem pss_nil : PDSs X [] sNext := pss_imp L2.pss_nil fun D σ H ⟨f, ρ, st, D', R, h, l⟩ => l.nx ρ st σ f H h .refl R
theorem pss_cons (h1 : PDS X s t) (h2 : PDSs X ss u) : PDSs X (s :: ss) (sSeq t u) := pss_imp (L2.pss_cons h1 h2) fun D σ H ⟨f, ρ, st, D', R, h, l⟩ =>
  ⟨f, ρ, st, _, R, h, fun ρ1 st1 σ1 f1 H1 q e r => ⟨f1, ρ1, st1, D', r, q.go, l.later e⟩, l.rt, l.bk, l.ct⟩
theorem pss_one (h1 : PDS X s t) : PDSs X [s] t := L2.pss_one h1
theorem ps_pass : PDS X (.Pass pos) sNext := ps_imp L2.ps_pass fun D σ H ⟨f, ρ, st, D', R, h, l⟩ => l.nx ρ st σ f H h .refl R
theorem ps_doc {x j pos'} : PDS X (.Expr (.Constant (.str x) j pos) pos') sNext := ps_imp L2.ps_doc fun D σ H ⟨f, ρ, st, D', R, h, l⟩ => l.nx ρ st σ f H h .refl R
theorem ps_break : PDS X (.Break pos) sBreak := ps_imp L2.ps_break fun D σ H ⟨f, ρ, st, D', R, h, l⟩ => l.bk ρ st σ f H h .refl R
theorem ps_continue : PDS X (.Continue pos) sCont := ps_imp L2.ps_continue fun D σ H ⟨f, ρ, st, D', R, h, l⟩ => l.ct ρ st σ f H h .refl R
theorem ps_expr (he : PD X e te) (hs : swapsWith e none pos.line X.env = pure false := by rfl) : PDS X (.Expr e pos) (sExpr te) := ps_imp (L2.ps_expr he hs) fun D σ H ⟨f, ρ, st, D', R, h, l⟩ =>
  ⟨f, ρ, st, _, R, h, fun x st1 v f1 H1 q e1 s1 r1 => l.nx ρ st1 σ f1 H1 q e1 (R.later e1 s1)⟩
theorem ps_ret (he : PD X e te) : PDS X (.Return (some e) pos) (sRet te) := ps_imp (L2.ps_ret he) fun D σ H ⟨f, ρ, st, D', R, h, l⟩ => ⟨f, ρ, st, _, R, h, l.rt⟩
theorem ps_retN : PDS X (.Return none pos) sRetN := ps_imp L2.ps_retN fun D σ H ⟨f, ρ, st, D', R, h, l⟩ => l.rt.now R.toRelS h (RD.non.mpr rfl)
theorem ps_if (hc : PDT X c tC) (ha : PDSs X ss t) (hb : PDSs X ss' u) : PDS X (.If c ss ss' pos) (sIf tC t u) := ps_imp (L2.ps_if hc ha hb) fun D σ H ⟨f, ρ, st, D', R, h, l⟩ =>
  ⟨f, ρ, st, _, R, h, fun k st1 f1 H1 q e1 s1 => by
    cases k with
    | true => exact ⟨f1, ρ, st1, D', R.later e1 s1, q.1 rfl, l.later e1⟩
    | false => exact ⟨f1, ρ, st1, D', R.later e1 s1, q.2 rfl, l.later e1⟩⟩
theorem asg_core {g : TG} {vs : List Nat} {te : TE} {D : L2.Ends} (h : liftS K (sAsg te g) D σ H) : L2.tAsg (lift K te) (liftG K g vs) D σ H := by
  obtain ⟨f, ρ, st, D', R, h, l⟩ := h
  exact ⟨f, ρ, st, _, R, h, fun x st1 v f1 H1 q e1 s1 r1 => ⟨f1, ρ, st1, x, _, R.later e1 s1, r1, q, fun ρ2 st2 σ2 f2 H2 q2 e2 R2 _ => l.nx ρ2 st2 σ2 f2 H2 q2 (e1.trans e2) R2⟩⟩
theorem ps_asg {tg : Expr} {g : TG} {vs : List Nat} (he : PD X e te) (hg : PDG X tg g vs) (hs : swapsWithSole [tg] e pos.line X.env = pure false := by rfl) (hw : swappedStores [tg] e X.env = pure none := by rfl)
    (h1 : (assignEach [tg] X.env).map (·.2) = [assign tg X.env] := by rfl) : PDS X (.Assign [tg] e pos) (sAsg te g) := ps_imp (L2.ps_asg he hg hs hw h1) fun D σ H h => asg_core h
theorem ps_set {i : Nat} {x : Str} {pos' : Pos} (hN : X.N.Nodup) (hi : X.N[i]? = some x) (hx : L2.Loc X.env.scope x) (he : PD X e te) (hs : swapsWith e (some (.Name x pos')) pos.line X.env = pure false := by rfl) (hf : X.fn x = true ∨ X.env.scope.names.lookup x = some .local := by first | exact .inl rfl | exact .inr rfl | assumption) :
    PDS X (.Assign [.Name x pos'] e pos) (sAsg te (gName i)) := ps_imp (L2.ps_set hN hi hx he hs hf) fun D σ H ⟨f, ρ, st, D', R, h, l⟩ =>
  ⟨f, ρ, st, _, R, h, fun y st1 v f1 H1 q e1 s1 r1 => l.nx _ st1 _ f1 H1 q e1 ((R.later e1 s1).put r1)⟩
theorem ps_par {i j : Nat} {x y : Str} {ts : TA} {px py pt : Pos} {kt k2 pt2} (hc : X.calm = true) (hN : X.N.Nodup) (hi : X.N[i]? = some x) (hj : X.N[j]? = some y) (hij : i ≠ j)
    (h0 : L2.PS X (.Assign [.Tuple [.Name x px, .Name y py] kt pt] (.Tuple [a, b] k2 pt2) pos) (L2.tPar i j (liftA X.K ts))) : PDS X (.Assign [.Tuple [.Name x px, .Name y py] kt pt] (.Tuple [a, b] k2 pt2) pos) (sPar i j ts) := ps_imp h0 fun D σ H ⟨f, ρ, st, D', R, h, l⟩ =>
  ⟨f, ρ, st, _, R, h, fun xs st1 vs f1 H1 q e1 s1 r1 => by
    obtain ⟨x, y, rfl, q⟩ := q
    obtain ⟨v, w, rfl, r2, r3⟩ := r1.inv2
    exact ⟨v, w, rfl, l.nx _ st1 _ f1 H1 q e1 (((R.later e1 s1).put r2).put r3)⟩⟩
theorem real_iadd : Real2 K (fun x y H Q => (∃ i j, x = .int i ∧ y = .int j ∧ Q (.int (i + j)) H) ∨ (∃ i j, x = .str i ∧ y = .str j ∧ i.length + j.length ≤ sizeLine ∧ Q (.str (i ++ j)) H)) iaddK := by
  intro f st H x y v w Q' Q s r1 r2 h l
  cases x <;> cases y <;> try (exact h.elim)
  · rw [RD.int] at r1 r2
    exact .inl ⟨_, _, r1, r2, l.now s h (RD.int.mpr rfl)⟩
  · rw [RD.str] at r1 r2
    exact .inr ⟨_, _, r1, r2, by rw [← szl_eq]; exact h.1, l.now s h.2 (RD.str.mpr rfl)⟩
theorem ip_add : L2.PIp X .Add (fun x y H Q => (∃ i j, x = .int i ∧ y = .int j ∧ Q (.int (i + j)) H) ∨ (∃ i j, x = .str i ∧ y = .str j ∧ i.length + j.length ≤ sizeLine ∧ Q (.str (i ++ j)) H)) :=
  fun pins s σ H x y v u Q I rx ry h => (L2.OpR.or (X := X) L2.iop_add L2.iop_add_str) pins s σ H x y v u Q I rx ry h
theorem ip_of {op : Operator} {r : L2.R2} (h : L2.OpR X (inplaceOp op) r) : L2.PIp X op r := fun pins s σ H x y v u Q I rx ry q => h pins s σ H x y v u Q I rx ry q
theorem ps_aug {i : Nat} {x : Str} {op : Operator} {r : L2.R2} {k : K2} {pos' : Pos} (hp : L2.PIp X op r) (hr : Real2 X.K r k) (hN : X.N.Nodup) (hi : X.N[i]? = some x) (hx : L2.Loc X.env.scope x) (he : PD X e te)
    (hf : X.fn x = true ∨ X.env.scope.names.lookup x = some .local := by first | exact .inl rfl | exact .inr rfl | assumption) : PDS X (.AugAssign (.Name x pos') op e pos) (sAug i k te) := ps_imp (L2.ps_aug hN hi hx he hp hf) fun D σ H ⟨f, ρ, st, D', R, h, l⟩ => by
  obtain ⟨d, h1, h⟩ := h
  obtain ⟨v, e, rv⟩ := R.env i d h1
  exact ⟨v, e, f, ρ, st, _, R, h, fun y st1 w f1 H1 q e1 s1 r1 => hr f1 st1 H1 d y v w _ _ s1 (rv.mono e1) r1 q fun z st2 u f2 H2 q2 e2 s2 r2 => l.nx _ st2 _ f2 H2 q2 (e1.trans e2) ((R.later (e1.trans e2) s2).put r2)⟩
/-- xs[i] op= e of a list -/
theorem get_list : L2.PGet X (L2.rIxL X.K) := by
  intro pins s σ H x y v u Q I rx ry h
  obtain ⟨p, xs, i, z, rfl, rfl, hq, he, q⟩ := h
  cases rx
  obtain ⟨t, rfl⟩ := ry
  obtain ⟨its, r, pl, hz⟩ := I.list hq
  obtain ⟨j, h1, h2, h3, h4, h5⟩ := L2.atI_get he
  obtain ⟨w, ew, rw'⟩ := r.get h2
  have hl := r.length
  have hn := L2.line63
  have fin : L2.EP X pins σ Q w s := ⟨z, H, I, rw', q⟩
  by_cases h0 : 0 ≤ i
  · have hj : i.toNat = j := by
      rw [seqIndex_of h0 h5] at h1
      exact Option.some.inj h1
    exact wpAny_getItem_list (x := w) pl.isList h0 (by omega) (by rw [hj]; simpa using ew) fin
  · have hj : (i + (its.toArray.size : Int)).toNat = j := by
      rw [seqIndex_neg (by omega) h4] at h1
      rw [List.size_toArray, ← hl]
      exact Option.some.inj h1
    exact wpAny_getItem_list_neg (x := w) pl.isList (by omega) (by rw [List.size_toArray] <;> omega) (by omega) (by rw [hj]; simpa using ew) fin
theorem real_ixL : Real2 K (L2.rIxL K) ixLK := fun f st H x y v w Q' Q s r1 r2 h l => by
  cases x <;> cases y <;> try (exact h.elim)
  rw [RD.ref] at r1
  rw [RD.int] at r2
  obtain ⟨a, e, rfl⟩ := r1
  obtain ⟨xs, d', h0, h1, h2⟩ := h
  obtain ⟨a', vs, k1, k2, d⟩ := s.rdA h0
  rw [e] at k1; cases k1
  obtain ⟨v, g1, g2⟩ := d.atD h1
  exact ⟨a, vs, _, v, rfl, r2, k2, g1, l.now s h2 g2⟩
theorem ps_augS {op : Operator} {r : L2.R2} {k : K2} (hp : L2.PIp X op r) (hr : Real2 X.K r k) (ho : PD X o to) (hi : PD X i ti) (he : PD X e te)
    (ha : ∀ ov iv new, augStore i ov iv new = (do holding [new, ov, iv] (setItem ov iv new); release [new, ov, iv] []; pure .next) := by intros; rfl) : PDS X (.AugAssign (.Subscript o i tpos) op e pos) (sAugL k to ti te) :=
  ps_imp (L2.ps_augS ho hi get_list he hp L2.set_list ha) fun D σ H ⟨f, ρ, st, D', R, h, l⟩ => ⟨f, ρ, st, _, R, h, fun x st1 v f1 H1 q1 e1 s1 r1 => ⟨f1, ρ, st1, _, R.later e1 s1, q1, fun y st2 w f2 H2 q2 e2 s2 r2 =>
    real_ixL f2 st2 H2 x y v w _ _ s2 (r1.mono e2) r2 q2 fun z st3 u f3 H3 q3 e3 s3 r3 => ⟨f3, ρ, st3, _, R.later ((e1.trans e2).trans e3) s3, q3, fun z' st4 u' f4 H4 q4 e4 s4 r4 =>
      hr f4 st4 H4 z z' u u' _ _ s4 (r3.mono e4) r4 q4 fun z5 st5 u5 f5 H5 q5 e5 s5 r5 =>
        real_set f5 st5 H5 x y z5 v w u5 _ _ s5 (r1.mono (((e2.trans e3).trans e4).trans e5)) (r2.mono ((e3.trans e4).trans e5)) r5 q5 fun st6 H6 q6 e6 s6 =>
          have ee := (((((e1.trans e2).trans e3).trans e4).trans e5).trans e6)
          l.nx ρ st6 σ f5 H6 q6 ee (R.later ee s6)⟩⟩⟩

/-! ### loops -/
theorem ps_for {tg iter : Expr} {wi : TI} {g : TG} {vs : List Nat} {tb : TS} (hp : PassesOwn (model X.prog X.w) X.A X.env X.xe) (hc : X.calm = true) (hi : PDI X tg iter wi) (hg : PDG X tg g vs) (hb : PDSs X ss tb)
    (hs : ∀ x, foldedSetIterable iter X.env x = pure x := by intro _; rfl) : PDS X (.For tg iter ss [] pos) (sFor wi g tb) :=
  ps_imp (L2.ps_for hp hc hi hg hb hs) fun D σ H ⟨f, ρ, st, D', R, h, l⟩ => ⟨f, ρ, st, _, R, h, fun I st1 J f1 H1 q1 e1 s1 rI => by
    refine ⟨fun i m σ2 H2 => m = I.items.length - i ∧ i ≤ I.items.length ∧ ∃ f2 ρ2 st2, Ext X.K f1 H1 f2 H2 ∧ Rel X.K f2 ρ2 st2 σ2 H2 ∧ forLoop I.guard g tb D' (I.items.drop i) ρ2 st2, ⟨_, rfl, Nat.zero_le _, f1, ρ, st1, .refl, R.later e1 s1, by simpa using q1⟩, ?_⟩
    rintro i m σ2 H2 ⟨rfl, hi, f2, ρ2, st2, e2, R2, q2⟩
    by_cases hlt : i < I.items.length
    · have hd : I.items.drop i = I.items[i] :: I.items.drop (i + 1) := by rw [List.drop_eq_getElem_cons hlt]
      rw [hd] at q2
      obtain ⟨gd, q2⟩ := q2
      refine .inr ⟨rI.go i f2 st2 H2 e2 R2.toRelS gd hlt, fun σ3 H3 => ∃ f3 ρ3 st3, Ext X.K f1 H1 f3 H3 ∧ Rel X.K f3 ρ3 st3 σ3 H3 ∧ forLoop I.guard g tb D' (I.items.drop (i + 1)) ρ3 st3, fun σ3 H3 ⟨f3, ρ3, st3, e3, R3, q3⟩ => ⟨I.items.length - (i + 1), by omega, rfl, hlt, f3, ρ3, st3, e3, R3, q3⟩, fun x H3 y => ?_⟩
      obtain ⟨e3, s3, r3⟩ := rI.yld i f2 st2 H2 I.items[i] x H3 e2 R2.toRelS gd (by simp [hlt]) y
      refine ⟨f2, ρ2, st2, I.items[i], _, R2.later e3 s3, r3, q2, fun ρ4 st4 σ4 f4 H4 q4 e4 R4 _ => ⟨f4, ρ4, st4, _, R4, q4, ?_⟩⟩
      have ee := (e1.trans (e2.trans (e3.trans e4)))
      have e1' := (e2.trans (e3.trans e4))
      exact ⟨fun ρ5 st5 σ5 f5 H5 q5 e5 R5 => ⟨f5, ρ5, st5, e1'.trans e5, R5, q5⟩, l.rt.later ee, fun ρ5 st5 σ5 f5 H5 q5 e5 R5 => l.nx ρ5 st5 σ5 f5 H5 q5 (ee.trans e5) R5, fun ρ5 st5 σ5 f5 H5 q5 e5 R5 => ⟨f5, ρ5, st5, e1'.trans e5, R5, q5⟩⟩
    · have e : i = I.items.length := by omega
      subst e
      rw [List.drop_length] at q2
      obtain ⟨gd, q2⟩ := q2
      exact .inl ⟨rI.stop f2 st2 H2 e2 R2.toRelS gd, l.nx ρ2 st2 σ2 f2 H2 q2 (e1.trans e2) R2⟩⟩
theorem ps_while {tb : TS} (hp : PassesOwn (model X.prog X.w) X.A X.env X.xe) (hc : PDT X c tC) (hb : PDSs X ss tb) : PDS X (.While c ss [] pos) (sWhile tC tb) :=
  ps_imp (L2.ps_while hp hc hb) fun D σ H ⟨f, ρ, st, D', R, h, l⟩ => by
    obtain ⟨n, h⟩ := h
    refine ⟨fun m σ2 H2 => ∃ f2 ρ2 st2, Ext X.K f H f2 H2 ∧ Rel X.K f2 ρ2 st2 σ2 H2 ∧ whileN tC tb D' m ρ2 st2, ⟨n, f, ρ, st, .refl, R, h⟩, ?_⟩
    rintro m σ2 H2 ⟨f2, ρ2, st2, e2, R2, q2⟩
    cases m with
    | zero => exact q2.elim
    | succ m =>
      refine ⟨f2, ρ2, st2, _, R2, q2, fun k st3 f3 H3 q3 e3 s3 => ?_⟩
      have ee := e2.trans e3
      cases k with
      | false => exact l.nx ρ2 st3 σ2 f3 H3 (q3.2 rfl) ee (R2.later e3 s3)
      | true =>
        refine ⟨fun σ4 H4 => ∃ f4 ρ4 st4, Ext X.K f H f4 H4 ∧ Rel X.K f4 ρ4 st4 σ4 H4 ∧ whileN tC tb D' m ρ4 st4, fun σ4 H4 q4 => ⟨m, Nat.lt_succ_self _, q4⟩, f3, ρ2, st3, _, R2.later e3 s3, q3.1 rfl, ?_⟩
        exact ⟨fun ρ5 st5 σ5 f5 H5 q5 e5 R5 => ⟨f5, ρ5, st5, ee.trans e5, R5, q5⟩, l.rt.later ee, fun ρ5 st5 σ5 f5 H5 q5 e5 R5 => l.nx ρ5 st5 σ5 f5 H5 q5 (ee.trans e5) R5, fun ρ5 st5 σ5 f5 H5 q5 e5 R5 => ⟨f5, ρ5, st5, ee.trans e5, R5, q5⟩⟩

/-! ### comprehensions -/
abbrev PDTs (X : L2.Cx) (es : List Expr) (t : TT) : Prop := L2.PTs X es (liftT X.K t)
theorem pts_imp {e : List Expr} {t t' : L2.TT} (h : L2.PTs X e t) (m : ∀ σ H Q, t' σ H Q → t σ H Q) : L2.PTs X e t' := ⟨fun pins s σ H Q I q => h.run pins s σ H Q I (m σ H Q q)⟩
theorem pts_nil : PDTs X [] tYes := pts_imp L2.pts_nil fun σ H Q ⟨f, ρ, st, Q', R, h, l⟩ => l true st f H h .refl R.toRelS
theorem pts_one {t : TT} (h : PDT X c t) : PDTs X [c] t := L2.pts_one h
theorem lc_core {wi : TI} {g : TG} {tt : TT} {te : TE} {vs ws : List Nat} {Q : L2.VK} (hws : ∀ j, j ∈ ws → j ∈ vs) (h : lift K (dLc wi g tt te vs) σ H Q) : L2.tLc (liftI K wi) (liftG K g ws) (liftT K tt) (lift K te) vs σ H Q := by
  obtain ⟨f, ρ, st, Q', R, h, l⟩ := h
  refine ⟨f, ρ, st, _, R, h, fun I st1 J f1 H1 q1 e1 s1 rI D hD => ?_⟩
  obtain ⟨s0, e0⟩ := s1.new (o := .lst []) (c := .lst []) hD ⟨[], L2.upd_same, RDs.nil.mpr rfl⟩
  have hn0 : (f1 ++ [D])[st1.length]? = some D := by rw [← s1.len]; simp
  refine ⟨fun i m H2 => m = I.items.length - i ∧ i ≤ I.items.length ∧ ∃ f2 st2 acc, Ext K (f1 ++ [D]) (L2.upd H1 D (.lst [])) f2 H2 ∧ RelS K f2 st2 H2 ∧ rdL st2 st1.length acc ∧ lcLoop I.guard g tt te (wipeE ρ vs) st1.length Q' (I.items.drop i) acc st2,
    ⟨_, rfl, Nat.zero_le _, f1 ++ [D], st1 ++ [.lst []], [], .refl, s0, by unfold rdL; simp, by simpa using q1⟩, ?_⟩
  rintro i m H2 ⟨rfl, hi, f2, st2, acc, e2, s2, hacc, q2⟩
  have eI : Ext K f1 H1 f2 H2 := e0.trans e2
  by_cases hlt : i < I.items.length
  · have hd : I.items.drop i = I.items[i] :: I.items.drop (i + 1) := by rw [List.drop_eq_getElem_cons hlt]
    rw [hd] at q2
    obtain ⟨gd, q2⟩ := q2
    refine .inr ⟨rI.go i f2 st2 H2 eI s2 gd hlt, fun H3 => ∃ f3 st3 acc', Ext K (f1 ++ [D]) (L2.upd H1 D (.lst [])) f3 H3 ∧ RelS K f3 st3 H3 ∧ rdL st3 st1.length acc' ∧ lcLoop I.guard g tt te (wipeE ρ vs) st1.length Q' (I.items.drop (i + 1)) acc' st3,
      fun H3 q3 => ⟨I.items.length - (i + 1), by omega, rfl, hlt, q3⟩, fun x H3 y => ?_⟩
    obtain ⟨e3, s3, r3⟩ := rI.yld i f2 st2 H2 I.items[i] x H3 eI s2 gd (by simp [hlt]) y
    have R3 : Rel K f2 (wipeE ρ vs) st2 (L2.wipe σ vs) H3 := (Rel.wipe R).later ((e1.trans eI).trans e3) s3
    refine ⟨f2, _, st2, I.items[i], _, R3, r3, q2, fun ρ4 st4 σ4 f4 H4 q4 e4 R4 o4 => ⟨Out.wipe ⟨o4.1, fun j hj => o4.2 j fun z => hj (hws j z)⟩, ?_⟩⟩
    refine ⟨f4, ρ4, st4, _, R4, q4, fun b st5 f5 H5 q5 e5 s5 => ?_⟩
    have e15 := e2.trans (e3.trans (e4.trans e5))
    cases b with
    | false =>
      obtain ⟨h1, h2⟩ := q5.2 rfl
      exact ⟨f5, st5, acc, e15, s5, h1, h2⟩
    | true =>
      refine ⟨f5, ρ4, st5, _, R4.later e5 s5, q5.1 rfl, fun y st6 v f6 H6 q6 e6 s6 r6 => ?_⟩
      obtain ⟨h1, h2, h3⟩ := q6
      have e16 := e15.trans e6
      obtain ⟨a', us, k1, k2, k3⟩ := s6.rdL h1
      rw [e16.at hn0] at k1; cases k1
      obtain ⟨s7, e7⟩ := s6.put (e16.at hn0) h1 k2 (k3.append (RDs.one r6))
      refine ⟨us, k2, by rw [k3.length, ← szl_eq]; exact h2, f6, _, acc ++ [y], e16.trans e7, s7, ?_, h3⟩
      have hl : st1.length < st6.length := (List.getElem?_eq_some_iff.mp h1).1
      unfold rdL
      rw [List.getElem?_set_self hl]
  · have e : i = I.items.length := by omega
    subst e
    rw [List.drop_length] at q2
    obtain ⟨gd, h1, h2⟩ := q2
    exact .inl ⟨rI.stop f2 st2 H2 eI s2 gd, l _ st2 _ f2 H2 h2 (e1.trans eI) s2 (RD.ref.mpr ⟨D, e2.at hn0, rfl⟩)⟩
theorem pd_lc {elt tg iter : Expr} {ifs : List Expr} {scope : Scope} {own : List (Str × Nat)} {wi : TI} {g : TG} {tt : TT} {te : TE} {ws : List Nat} (hc : X.calm = true) (hN : X.N.Nodup) (hi : PDI X tg iter wi) (ok : L2.BlkOk X.N X.env.scope scope own)
    (hg : ∀ (s : Shared) (H : Hp) (C : Addr) (cl : List (Str × Addr)) (fp : List Addr), PDG (X.blk s H scope (compEnvC scope cl C X.env) fp) tg g ws) (ht : ∀ (s : Shared) (H : Hp) (C : Addr) (cl : List (Str × Addr)) (fp : List Addr), PDTs (X.blk s H scope (compEnvC scope cl C X.env) fp) ifs tt)
    (he : ∀ (s : Shared) (H : Hp) (C : Addr) (cl : List (Str × Addr)) (fp : List Addr), PD (X.blk s H scope (compEnvC scope cl C X.env) fp) elt te) (hws : ∀ j, j ∈ ws → j ∈ own.map (·.2)) (hs : ∀ x, foldedSetIterable iter X.env x = pure x := by intro _; rfl) :
    PD X (.ListComp elt [⟨tg, iter, ifs, 0⟩] scope pos) (dLc wi g tt te (own.map (·.2))) :=
  pe_imp (L2.pe_lc hc hN hi ok hg ht he hs) fun σ H Q h => lc_core hws h
theorem ps_setLc {j : Nat} {y : Str} {py spos : Pos} {elt tg iter : Expr} {ifs : List Expr} {scope : Scope} {own : List (Str × Nat)} {wi : TI} {g : TG} {tt : TT} {te : TE} {ws : List Nat} (hc : X.calm = true) (hN : X.N.Nodup) (hy : X.N[j]? = some y) (hyl : X.env.scope.names.lookup y = some .local)
    (hsw : swapsWith (.ListComp elt [⟨tg, iter, ifs, 0⟩] scope pos) (some (.Name y py)) spos.line X.env = pure true) (hi : PDI X tg iter wi) (ok : L2.BlkOk X.N X.env.scope scope own)
    (hg : ∀ (s : Shared) (H : Hp) (C : Addr) (cl : List (Str × Addr)) (fp : List Addr), PDG (X.blk s H scope (compEnvC scope cl C X.env) fp) tg g ws) (ht : ∀ (s : Shared) (H : Hp) (C : Addr) (cl : List (Str × Addr)) (fp : List Addr), PDTs (X.blk s H scope (compEnvC scope cl C X.env) fp) ifs tt)
    (he : ∀ (s : Shared) (H : Hp) (C : Addr) (cl : List (Str × Addr)) (fp : List Addr), PD (X.blk s H scope (compEnvC scope cl C X.env) fp) elt te) (hws : ∀ j, j ∈ ws → j ∈ own.map (·.2)) (hs : ∀ x, foldedSetIterable iter X.env x = pure x := by intro _; rfl) :
    PDS X (.Assign [.Name y py] (.ListComp elt [⟨tg, iter, ifs, 0⟩] scope pos) spos) (sAsg (dLc wi g tt te (own.map (·.2))) (gName j)) :=
  ps_imp (L2.ps_setLc hc hN hy hyl hsw hi ok hg ht he hs) fun D σ H ⟨f, ρ, st, D', R, h, l⟩ =>
    lc_core (Q := fun x H1 => L2.gName j x σ H1 D.nx) hws ⟨f, ρ, st, _, R, h, fun x st1 v f1 H1 q e1 s1 r1 => l.nx _ st1 _ f1 H1 q e1 ((R.later e1 s1).put r1)⟩
end
end
end Pd
end PartPdSoundE

section PartPdSoundF
set_option Elab.async false
set_option linter.all false
set_option maxRecDepth 100000
set_option maxHeartbeats 1000000
/-! Pd over the hand layer: methods, isinstance, defs, the end. Own work. -/
namespace Pd
open PySem PySem.Spec
open PyProof.Rows (envOfC)
section
variable {X : L2.Cx} {K : Kf} {f f' : List Addr} {H H' : Hp} {st st' : Store} {ρ : Env} {σ : L2.St}
/-! ### methods -/
def RealM (K : Kf) (r : L2.V → List L2.V → Hp → L2.VK → Prop) (k : KM) : Prop := ∀ (f : List Addr) (st : Store) (H : Hp) (x : D) (xs : List D) (v : L2.V) (vs : List L2.V) (Q' : Pd.K) (Q : L2.VK), RelS K f st H → RD K f H x v → RDs K f H xs vs → k x xs st Q' → LQ K f H Q' Q → r v vs H Q
def RealTy (K : Kf) (T : String) (ty : D → Store → Prop) : Prop := ∀ (f : List Addr) (st : Store) (H : Hp) (x : D) (v : L2.V), RelS K f st H → RD K f H x v → ty x st → L2.tyV K T v H
section
variable {a b c e o i : Expr} {es : List Expr} {ta tb te to ti : TE} {pos apos : Pos} {name : Str} {T id : String}
theorem pd_m {r : L2.V → List L2.V → Hp → L2.VK → Prop} {k : KM} {ty : D → Store → Prop} {ts : TA} (hm : L2.MtR X id r) (hk : RealM X.K r k) (ht : RealTy X.K T ty) (pa : PlainAttrs T) (slot : Slot T name id) (hty : typeOf (.builtin id) = pure (.type "method_descriptor")) (ho : PD X o to) (ha : PDA X (e :: es) ts)
    (hbase : attributeBase o name X.env (eval o X.env) = eval o X.env := by rfl)
    (hfew : ((backTo pos (starEach (e :: es) X.env)).all (fun x => !x.1) && (backToKw pos (keywordEach [] X.env)).all (fun x => x.1.isSome)
      && decide ((e :: es).length + ([] : List Keyword).length + (if ([] : List Keyword).isEmpty then 0 else 1) < 30)) = true := by rfl)
    (hline : (apos.endLine == pos.line) = true := by rfl) (hs : starEach (e :: es) X.env = (false, eval e X.env) :: starEach es X.env := by rfl) (hplain : (backTo pos (starEach es X.env)).any (·.1) = false := by rfl) :
    PD X (.Call (.Attribute o name apos) (e :: es) [] pos) (dM ty k to ts) :=
  pe_imp (L2.pe_bm pa slot hty hm ho ha hbase hfew hline hs hplain) fun σ H Q ⟨f, ρ, st, Q', R, h, l⟩ => ⟨f, ρ, st, _, R, h, fun x st1 v f1 H1 q1 e1 s1 r1 => ⟨ht f1 st1 H1 x v s1 r1 q1.1, f1, ρ, st1, _, R.later e1 s1, q1.2, fun xs st2 vs f2 H2 q2 e2 s2 r2 => hk f2 st2 H2 x xs v vs Q' Q s2 (r1.mono e2) r2 q2 (l.later (e1.trans e2))⟩⟩
end
theorem ty_list : RealTy K "list" tyLst := fun f st H x v s r h => by
  cases x <;> try (exact h.elim)
  rw [RD.ref] at r
  obtain ⟨a, e, rfl⟩ := r
  obtain ⟨xs, h⟩ := h
  obtain ⟨a', vs, k1, k2, k3⟩ := s.rdL h
  rw [e] at k1; cases k1
  exact .inl ⟨rfl, vs, .of k2⟩
theorem ty_str : RealTy K "str" tyStr := fun f st H x v s r h => by
  cases x <;> try (exact h.elim)
  rw [RD.str] at r
  subst r
  rfl
theorem real_append : RealM K L2.rAppend appendM := fun f st H x xs v vs Q' Q s r1 r2 h l => by
  cases x <;> try (exact h.elim)
  match xs, h with
  | [], h => exact h.elim
  | _ :: _ :: _, h => exact h.elim
  | [y], h =>
    rw [RD.ref] at r1
    obtain ⟨a, e, rfl⟩ := r1
    obtain ⟨w, rfl, r3⟩ := r2.inv1
    obtain ⟨ys, h1, h2, h3⟩ := h
    obtain ⟨a', us, k1, k2, k3⟩ := s.rdL h1
    rw [e] at k1; cases k1
    obtain ⟨s', e'⟩ := s.put e h1 k2 (k3.append (RDs.one r3))
    exact ⟨a, us, w, rfl, rfl, k2, by rw [k3.length, ← szl_eq]; exact h2, l _ _ _ f _ h3 e' s' (RD.non.mpr rfl)⟩
theorem real_extend : RealM K L2.rExtend extendM := fun f st H x xs v vs Q' Q s r1 r2 h l => by
  cases x <;> try (exact h.elim)
  match xs, h with
  | [], h => exact h.elim
  | _ :: _ :: _, h => rename_i y _ _; cases y <;> exact h.elim
  | [.non], h => exact h.elim
  | [.bl _], h => exact h.elim
  | [.int _], h => exact h.elim
  | [.str _], h => exact h.elim
  | [.tup _], h => exact h.elim
  | [.ref m], h =>
    rw [RD.ref] at r1
    obtain ⟨a, e, rfl⟩ := r1
    obtain ⟨w, rfl, r3⟩ := r2.inv1
    rw [RD.ref] at r3
    obtain ⟨b, e2, rfl⟩ := r3
    obtain ⟨ys, zs, h1, h2, h3, h4, h5⟩ := h
    obtain ⟨a', us, k1, k2, k3⟩ := s.rdL h1
    obtain ⟨b', ws, j1, j2, j3⟩ := s.rdL h2
    rw [e] at k1; cases k1
    rw [e2] at j1; cases j1
    obtain ⟨s', e'⟩ := s.put e h1 k2 (k3.append j3)
    exact ⟨a, b, us, ws, rfl, rfl, k2, j2, by rw [k3.length, j3.length, ← szl_eq]; exact h4, l _ _ _ f _ h5 e' s' (RD.non.mpr rfl)⟩
theorem real_popAt : RealM K L2.rPopAt popM := fun f st H x xs v vs Q' Q s r1 r2 h l => by
  cases x <;> try (exact h.elim)
  match xs, h with
  | [], h => exact h.elim
  | _ :: _ :: _, h => rename_i y _ _; cases y <;> exact h.elim
  | [.non], h => exact h.elim
  | [.bl _], h => exact h.elim
  | [.ref _], h => exact h.elim
  | [.str _], h => exact h.elim
  | [.tup _], h => exact h.elim
  | [.int i], h =>
    rw [RD.ref] at r1
    obtain ⟨a, e, rfl⟩ := r1
    obtain ⟨w, rfl, r3⟩ := r2.inv1
    rw [RD.int] at r3
    subst r3
    obtain ⟨ys, d, h1, h2, h3, h4⟩ := h
    obtain ⟨a', us, k1, k2, k3⟩ := s.rdL h1
    rw [e] at k1; cases k1
    unfold atD at h3
    rw [if_pos h2.1] at h3
    have hl := (List.getElem?_eq_some_iff.mp h3).1
    obtain ⟨u, g1, g2⟩ := k3.get h3
    obtain ⟨s', e'⟩ := s.put e h1 k2 (k3.eraseIdx i.toNat)
    have hus := k3.length
    exact ⟨a, us, i, i.toNat, u, rfl, rfl, k2, by omega, by omega, seqIndex_of h2.1 (by omega), g1, l _ _ _ f _ h4 e' s' (g2.mono e')⟩
theorem real_index : RealM K (L2.rIndex K) indexM := fun f st H x xs v vs Q' Q s r1 r2 h l => by
  cases x <;> try (exact h.elim)
  match xs, h with
  | [], h => exact h.elim
  | _ :: _ :: _, h => exact h.elim
  | [y], h =>
    rw [RD.ref] at r1
    obtain ⟨a, e, rfl⟩ := r1
    obtain ⟨w, rfl, r3⟩ := r2.inv1
    obtain ⟨ys, j, z, h1, h2, h3, h4, h5, h6, h7⟩ := h
    obtain ⟨a', us, k1, k2, k3⟩ := s.rdA h1
    rw [e] at k1; cases k1
    obtain ⟨u, g1, g2⟩ := k3.get h4
    have fl : ∀ (m : Nat) (z : D), ys[m]? = some z → z.flat = true := fun m z hz => by
      rw [List.all_eq_true] at h3
      exact h3 z (List.mem_of_getElem? hz)
    refine ⟨a, us, w, j, u, rfl, rfl, k2, r3.flatV h2, k3.flatV h3, g1, by rw [g2.eqV r3 (fl j z h4) h2]; exact h5, fun m z' hm hz => ?_, l.now s h7 (RD.int.mpr rfl)⟩
    have hml : m < ys.length := by rw [← k3.length]; exact (List.getElem?_eq_some_iff.mp hz).1
    obtain ⟨u', g3, g4⟩ := k3.get (show ys[m]? = some ys[m] by simp [hml])
    rw [hz] at g3; cases g3
    rw [g4.eqV r3 (fl m _ (by simp [hml])) h2]
    exact h6 m _ hm (by simp [hml])

/-! ### the built-ins' values -/
theorem bt_int : bootBuiltins "int" = some (.type "int") := by decide +kernel
theorem bt_abs : bootBuiltins "abs" = some (.builtin "abs") := by decide +kernel
theorem bt_len : bootBuiltins "len" = some (.builtin "len") := by decide +kernel
theorem bt_min : bootBuiltins "min" = some (.builtin "min") := by decide +kernel
theorem bt_max : bootBuiltins "max" = some (.builtin "max") := by decide +kernel
theorem bt_list : bootBuiltins "list" = some (.type "list") := by decide +kernel
theorem bt_tuple : bootBuiltins "tuple" = some (.type "tuple") := by decide +kernel
theorem bt_sum : bootBuiltins "sum" = some (.builtin "sum") := by decide +kernel
theorem bt_all : bootBuiltins "all" = some (.builtin "all") := by decide +kernel
theorem bt_any : bootBuiltins "any" = some (.builtin "any") := by decide +kernel
theorem bt_sorted : bootBuiltins "sorted" = some (.builtin "sorted") := by decide +kernel
theorem bt_bool : bootBuiltins "bool" = some (.type "bool") := by decide +kernel
theorem bt_str : bootBuiltins "str" = some (.type "str") := by decide +kernel
theorem bt_repr : bootBuiltins "repr" = some (.builtin "repr") := by decide +kernel
theorem bt_set : bootBuiltins "set" = some (.type "set") := by decide +kernel
theorem bt_dict : bootBuiltins "dict" = some (.type "dict") := by decide +kernel

/-! ### isinstance -/
def tyN : Ty → String
  | .int => "int" | .bool => "bool" | .str => "str" | .tuple => "tuple" | .list => "list"
theorem SqT.ty {a : Addr} {vs : List L2.V} (h : L2.SqT K H a vs) : L2.TyX K H (.ref a) (.type "tuple") := by
  rcases h with (h | ⟨o, h⟩) | ⟨o, its, n, h1, h2, _⟩
  · exact .base (.tup h)
  · exact .fTuple h
  · exact .kTuple h1 h2
theorem isTy_kit {x : D} {v : L2.V} {t : Ty} {Q' : Bool → Prop} (s : RelS K f st H) (r : RD K f H x v) (h : isTy x st t Q') : ∃ (u : Value) (b : Bool), L2.TyX K H v u ∧ PySem.W.kitOne K u (.type (tyN t)) = some b ∧ Q' b := by
  cases x with
  | non => rw [RD.non] at r; subst r; exact ⟨_, false, .base .non, L2.kit_ty (by cases t <;> decide +kernel), h⟩
  | bl b => rw [RD.bl] at r; subst r; exact ⟨_, _, .base (.bl b), L2.kit_ty (by cases t <;> decide +kernel), h⟩
  | int i => rw [RD.int] at r; subst r; exact ⟨_, _, .base (.int i), L2.kit_ty (by cases t <;> decide +kernel), h⟩
  | str y => rw [RD.str] at r; subst r; exact ⟨_, _, .base (.str y), L2.kit_ty (by cases t <;> decide +kernel), h⟩
  | tup xs =>
    rw [RD.tup] at r
    obtain ⟨a, vs, rfl, q, d⟩ := r
    exact ⟨_, _, SqT.ty q, L2.kit_ty (by cases t <;> decide +kernel), h⟩
  | ref n =>
    rw [RD.ref] at r
    obtain ⟨a, e, rfl⟩ := r
    obtain ⟨xs, h1, h2⟩ := h
    obtain ⟨a', vs, k1, k2, k3⟩ := s.rdL h1
    rw [e] at k1; cases k1
    exact ⟨_, _, .base (.lst k2), L2.kit_ty (by cases t <;> decide +kernel), h2⟩
theorem pd_isi {a : Expr} {ta : TE} {p pos q : Pos} {T : Str} (t : Ty) (hg : L2.Gl X "isinstance") (hm : X.mg "isinstance" = none) (hT : T = Str.ofString (tyN t)) (hgT : L2.Gl X T) (hmT : X.mg T = none) (hv : bootBuiltins T = some (.type (tyN t))) (ha : PD X a ta)
    (hs : starEach [a, .Name T q] X.env = (false, eval a X.env) :: starEach [.Name T q] X.env := by rfl) : PD X (.Call (.Name "isinstance" p) [a, .Name T q] [] pos) (dIsi t ta) := by
  have hT1 : T ≠ "__name__" := by rw [hT]; cases t <;> decide
  have hT2 : (T == ("__debug__" : Str)) = false := by rw [hT]; cases t <;> decide
  have pT : L2.PE X (.Name T q) (L2.tC (.ty (tyN t))) := L2.pe_bltn hgT hmT hv rfl hT1 hT2
  refine pe_imp (L2.pe_callB L2.call_isi hg hm (by decide +kernel) (L2.pa_cons ha (L2.pa_cons pT L2.pa_nil rfl) hs) (by decide) (by decide) hs rfl) fun σ H Q ⟨f, ρ, st, Q', R, h, l⟩ => ⟨f, ρ, st, _, R, h, fun x st1 v f1 H1 q1 e1 s1 r1 => ?_⟩
  obtain ⟨u, b, h1, h2, h3⟩ := isTy_kit s1 r1 q1
  exact ⟨v, .ty (tyN t), u, _, b, rfl, .ty _, h1, h2, l _ st1 _ f1 H1 h3 e1 s1 (RD.bl.mpr rfl)⟩

/-! ### defs -/
theorem start_rel {n : Nat} {ds : List D} {vs : List L2.V} {N : List Str} (s : RelS K f st H) (r : RDs K f H ds vs) (hn : n = N.length) : Rel K f (start n ds) st (L2.start N vs) H := by
  have hl := r.length
  have lk_app : ∀ (ds : List D) (m i : Nat) (d : D), lk (ds.map some ++ List.replicate m none) i = some d → ds[i]? = some d := by
    intro ds
    induction ds with
    | nil =>
      intro m
      induction m with
      | zero => intro i d h; simp [lk] at h
      | succ m ih =>
        intro i d h
        cases i with
        | zero => simp [lk, List.replicate_succ] at h
        | succ i =>
          have := ih i d (by simpa [lk, List.replicate_succ] using h)
          simp at this
    | cons x ds ih =>
      intro m i d h
      cases i with
      | zero => simpa [lk] using h
      | succ i =>
        have := ih m i d (by simpa [lk] using h)
        simpa using this
  refine ⟨s, fun i d h => ?_, ?_⟩
  · have hd := lk_app ds _ i d h
    obtain ⟨v, h1, h2⟩ := r.get hd
    refine ⟨v, ?_, h2⟩
    unfold L2.start
    have hi := (List.getElem?_eq_some_iff.mp h1).1
    rw [List.getElem?_append_left (by simpa using hi), List.getElem?_map, h1]
    rfl
  · unfold start L2.start
    simp only [List.length_append, List.length_map, List.length_replicate]
    omega
/-- the def's own facts, and that its body keeps what is run -/
structure Step (P : Program) (w : World) (K : Kf) (mg : Str → Option Value) (base : Heap) (names : List String) (x : String) (d : Def) : Prop where
  ex : ∃ (fa : Addr) (fd : FuncData) (ps : List Str), mg x = some (.ref fa) ∧ PySem.W.keepIn K (.ref fa) = true ∧ L2.Binds K fd ps [] ∧ d.ps = ps.length ∧
    ∀ (k : Nat) (c : Cl), (∀ y ∈ names, Own P w K mg base k (Str.ofString y) (c y)) → L2.FnOk P w K mg base L2.CX0 (k + 1) fa fd ps (liftF K ps.length (d.run c))
variable {P : Program} {w : World} {mg : Str → Option Value} {base : Heap} {names : List String}
theorem fn_ok {qual x : Str} {sm : Stmt} {fa : Addr} {fd : FuncData} {N ps : List Str} {k : Nat} {d : Def} {c : Cl} (F : L2.Fun K x qual sm fa fd) (S : L2.FnScope N ps (L2.defScope sm)) (hn : d.ns = N.length) (hp : d.ps = ps.length)
    (der : ∀ (cdv : Value) (A : Around) (outer : List PySem.Env) (s : Shared) (H : Hp) (E : L2.XK), L2.Room k (A.deeper (envOfC qual (L2.defScope sm) s.heap.objs.size fa cdv)) →
      PDSs (L2.cxOf L2.CX0 P w K mg base N qual (L2.defScope sm) fa cdv A outer s H E).nox (L2.defBody sm) (d.body c)) : L2.FnOk P w K mg base L2.CX0 (k + 1) fa fd ps (liftF K ps.length (d.run c)) := by
  refine F.ok S (fun vs H Q E h => h.1) (fun cdv A outer s H vs Q E hr h => ⟨_, der cdv A outer s H E hr, ?_⟩)
  obtain ⟨_, f, st, ds, Q', s', r, ⟨hl, h⟩, l⟩ := h
  refine ⟨f, start d.ns ds, st, _, start_rel s' r hn, h, ?_⟩
  exact ⟨fun ρ1 st1 σ1 f1 H1 q e r1 => l .non st1 .non f1 H1 q e r1.toRelS (RD.non.mpr rfl), l, fun _ _ _ _ _ q _ _ => q, fun _ _ _ _ _ q _ _ => q⟩
theorem fn_zero {fa : Addr} {fd : FuncData} {ps : List Str} {n : Nat} : L2.FnOk P w K mg base L2.CX0 0 fa fd ps (liftF K n fun _ _ _ => False) :=
  ⟨fun vs H Q E h => by obtain ⟨_, _, _, _, _, _, _, h, _⟩ := h; exact h.elim, fun A outer s H args us vs Q E hr e0 hb hv h => by obtain ⟨_, _, _, _, _, _, _, h, _⟩ := h; exact h.elim⟩
theorem all_own {prog : String → Option Def} (hs : ∀ x ∈ names, ∃ d, prog x = some d ∧ Step P w K mg base names x d) : ∀ (k : Nat) (x : String), x ∈ names → Own P w K mg base k (Str.ofString x) (callN prog k x)
  | 0, x, hx => by
    obtain ⟨d, h1, fa, fd, ps, h2, h3, h4, h5, h6⟩ := hs x hx
    exact ⟨fa, fd, ps, fn_zero, h2, h3, h4, fun _ _ _ h => h.elim⟩
  | k + 1, x, hx => by
    obtain ⟨d, h1, fa, fd, ps, h2, h3, h4, h5, h6⟩ := hs x hx
    refine ⟨fa, fd, ps, (h6 k _ fun y hy => all_own hs k y hy).imp fun vs H Q E ⟨g0, f, st, ds, Q', s, r, ⟨d', e', g⟩, l⟩ => ?_, h2, h3, h4, fun ds st Q ⟨d', e', g⟩ => ?_⟩
    · rw [h1] at e'; cases e'
      exact ⟨g0, f, st, ds, Q', s, r, g, l⟩
    · rw [h1] at e'; cases e'
      exact g.1.trans h5
/-- the law's call, from the data-level statement -/
theorem law_sp {c : List D → Store → Pd.K → Prop} {H : Hp} {a : Addr} {ns : List Int} (h : c [.ref 0] [.frz (ns.map D.int)] fun d _ => d = .bl true) (hO : L2.Only H) (hS : L2.SqL K H a (ns.map L2.V.int)) : liftF K 1 c [.ref a] H (fun v _ => v = .bl true) fun _ _ _ => False := by
  refine ⟨rfl, [a], [.frz (ns.map D.int)], [.ref 0], _, ⟨rfl, fun n m c c' b h1 h2 m1 m2 h3 h4 => ?_, fun n c' b h1 h2 => ?_⟩, RDs.one (RD.ref.mpr ⟨a, rfl, rfl⟩), h, fun d st' v f' H' q e s r => ?_⟩
  · match n, h1 with
    | 0, h1 => simp at h1; subst h1; cases m1
    | n + 1, h1 => simp at h1
  · match n, h1, h2 with
    | 0, h1, h2 =>
      simp at h1 h2
      subst h1; subst h2
      refine ⟨ns.map L2.V.int, ?_, RDs.of_ints ns⟩
      rcases hS with (hS | ⟨o, hS⟩) | hS
      · rcases hO a with q | ⟨o, xs, q⟩ <;> rw [q] at hS <;> cases hS
      · exact .inl ⟨o, hS⟩
      · exact .inr hS
    | n + 1, h1, _ => simp at h1
  · subst q
    rw [RD.bl] at r
    exact r
end
end Pd
end PartPdSoundF

section PartPdTac
set_option Elab.async false
set_option linter.all false
set_option maxRecDepth 100000
/-! Pd: how a data-level statement is walked. Own work. -/
namespace Pd
open PySem

/-- one step of a reading: it suffices to show P' -/
class Red (P : Prop) (P' : outParam Prop) : Prop where
  red : P' → P
/-- look-up and store of slots, by the environment's shape -/
class Lk (σ : Env) (i : Nat) (d : outParam D) : Prop where
  eq : lk σ i = some d
class SetE (σ : Env) (i : Nat) (d : Option D) (σ' : outParam Env) : Prop where
  eq : σ.set i d = σ'
instance : Lk (some d :: σ) 0 d := ⟨rfl⟩
instance [h : Lk σ n d] : Lk (x :: σ) (n + 1) d := ⟨h.eq⟩
instance : SetE (x :: σ) 0 d (d :: σ) := ⟨rfl⟩
instance [h : SetE σ n d σ'] : SetE (x :: σ) (n + 1) d (x :: σ') := ⟨by rw [List.set_cons_succ, h.eq]⟩
class WipeE (σ : Env) (vs : List Nat) (σ' : outParam Env) : Prop where
  eq : wipeE σ vs = σ'
instance : WipeE σ [] σ := ⟨rfl⟩
instance [h : WipeE σ vs σ'] [h2 : SetE σ' v none σ''] : WipeE σ (v :: vs) σ'' := ⟨by show (wipeE σ vs).set v none = σ''; rw [h.eq, h2.eq]⟩

section
variable {σ σ' : Env} {st st' : Store} {Q : K} {d x y z : D} {ta tb tc te to ti : TE} {T U : TT} {Ar Br : TA} {D0 : Ends} {S S' : TS} {xs ys : List D}
-- statements
instance : Red (sSeq S S' D0 σ st) (S { D0 with nx := fun σ' st' => Nxt (S' D0 σ' st') } σ st) := ⟨id⟩
instance : Red (sNext D0 σ st) (D0.nx σ st) := ⟨id⟩
instance : Red (sBreak D0 σ st) (D0.bk σ st) := ⟨id⟩
instance : Red (sCont D0 σ st) (D0.ct σ st) := ⟨id⟩
instance : Red (sExpr te D0 σ st) (te σ st fun _ st1 => D0.nx σ st1) := ⟨id⟩
instance : Red (sRet te D0 σ st) (te σ st D0.rt) := ⟨id⟩
instance : Red (sRetN D0 σ st) (D0.rt .non st) := ⟨id⟩
instance : Red (sIf T S S' D0 σ st) (T σ st fun b st1 => (b = true → S D0 σ st1) ∧ (b = false → S' D0 σ st1)) := ⟨id⟩
instance {g : TG} : Red (sAsg te g D0 σ st) (te σ st fun x st1 => g x σ st1 D0.nx) := ⟨id⟩
instance : Red (sPar i j Ar D0 σ st) (Ar σ st fun xs st1 => ∃ x y, xs = [x, y] ∧ D0.nx ((σ.set i (some x)).set j (some y)) st1) := ⟨id⟩
instance [h : Lk σ i x] : Red (sAug i k te D0 σ st) (te σ st fun y st1 => k x y st1 fun z st2 => gName i z σ st2 D0.nx) := ⟨fun p => ⟨x, h.eq, p⟩⟩
instance : Red (sAugL k to ti te D0 σ st) (to σ st fun o st1 => ti σ st1 fun i st2 => ixLK o i st2 fun x st3 => te σ st3 fun y st4 => k x y st4 fun z st5 => setK o i z st5 fun st6 => D0.nx σ st6) := ⟨id⟩
instance {i : TI} {g : TG} : Red (sFor i g S D0 σ st) (i σ st fun I st1 => forLoop I.guard g S D0 I.items σ st1) := ⟨id⟩
-- targets
instance {q : Env → Store → Prop} [h : SetE σ i (some d) σ'] : Red (gName i d σ st q) (q σ' st) := ⟨fun p => by show q (σ.set i (some d)) st; rw [h.eq]; exact p⟩
instance {q : Env → Store → Prop} : Red (gSub to ti d σ st q) (to σ st fun o st1 => ti σ st1 fun i st2 => setK o i d st2 fun st3 => q σ st3) := ⟨id⟩
instance {q : Env → Store → Prop} {gs : TGs} : Red (gTup gs n (.tup xs) σ st q) (xs.length = n ∧ gs xs σ st q) := ⟨fun p => ⟨xs, rfl, p⟩⟩
instance {q : Env → Store → Prop} : Red (gsNil [] σ st q) (q σ st) := ⟨fun p => ⟨rfl, p⟩⟩
instance {q : Env → Store → Prop} {g : TG} {gs : TGs} : Red (gsCons g gs (d :: xs) σ st q) (g d σ st fun σ1 st1 => gs xs σ1 st1 q) := ⟨fun p => ⟨d, xs, rfl, p⟩⟩
-- expressions
instance : Red (dC d σ st Q) (Q d st) := ⟨id⟩
instance [h : Lk σ i d] : Red (dVar i σ st Q) (Q d st) := ⟨fun p => ⟨d, h.eq, p⟩⟩
instance : Red (dOp k ta tb σ st Q) (ta σ st fun x st1 => tb σ st1 fun y st2 => k x y st2 Q) := ⟨id⟩
instance : Red (dUn k ta σ st Q) (ta σ st fun x st1 => k x st1 Q) := ⟨id⟩
instance : Red (dCmp k ta tb σ st Q) (ta σ st fun x st1 => tb σ st1 fun y st2 => k x y st2 fun b => Q (.bl b) st2) := ⟨id⟩
instance : Red (dChain k k' ta tb tc σ st Q) (ta σ st fun x st1 => tb σ st1 fun y st2 => k x y st2 fun b => (b = true → tc σ st2 fun z st3 => k' y z st3 fun b' => Q (.bl b') st3) ∧ (b = false → Q (.bl false) st2)) := ⟨id⟩
instance : Red (dAndT ta tb σ st Q) (ta σ st fun x st1 => truK x st1 fun c => (c = true → tb σ st1 Q) ∧ (c = false → Q x st1)) := ⟨id⟩
instance : Red (dOrT ta tb σ st Q) (ta σ st fun x st1 => truK x st1 fun c => (c = true → Q x st1) ∧ (c = false → tb σ st1 Q)) := ⟨id⟩
instance : Red (dNotT ta σ st Q) (ta σ st fun x st1 => truK x st1 fun c => Q (.bl (!c)) st1) := ⟨id⟩
instance : Red (dIf T ta tb σ st Q) (T σ st fun k st1 => (k = true → ta σ st1 Q) ∧ (k = false → tb σ st1 Q)) := ⟨id⟩
instance : Red (dSl te tl th σ st Q) (te σ st fun x st1 => tl σ st1 fun lo st2 => th σ st2 fun hi st3 => slK x lo hi st3 Q) := ⟨id⟩
instance {q : Option Int → Store → Prop} : Red (oNone σ st q) (q none st) := ⟨id⟩
instance {q : Option Int → Store → Prop} : Red (oSome te σ st q) (te σ st fun x st1 => ∃ i, x = .int i ∧ q (some i) st1) := ⟨id⟩
instance {q : List D → Store → Prop} : Red (aNil σ st q) (q [] st) := ⟨id⟩
instance {q : List D → Store → Prop} : Red (aCons te Ar σ st q) (te σ st fun x st1 => Ar σ st1 fun xs st2 => q (x :: xs) st2) := ⟨id⟩
instance : Red (dTup Ar σ st Q) (Ar σ st fun xs st1 => xs.length ≤ szl ∧ Q (.tup xs) st1) := ⟨id⟩
instance : Red (dLst Ar σ st Q) (Ar σ st fun xs st1 => xs.length ≤ szl ∧ Q (.ref st1.length) (st1 ++ [.lst xs])) := ⟨id⟩
instance : Red (dCall c f Ar σ st Q) (Ar σ st fun xs st1 => c f xs st1 Q) := ⟨id⟩
instance : Red (dB k Ar σ st Q) (Ar σ st fun xs st1 => k xs st1 Q) := ⟨id⟩
instance : Red (dM ty k to Ar σ st Q) (to σ st fun o st1 => ty o st1 ∧ Ar σ st1 fun xs st2 => k o xs st2 Q) := ⟨id⟩
instance : Red (dIsi t te σ st Q) (te σ st fun x st1 => isTy x st1 t fun b => Q (.bl b) st1) := ⟨id⟩
instance {i : TI} {g : TG} [h : WipeE σ vs σ'] : Red (dLc i g T te vs σ st Q) (i σ st fun I st1 => lcLoop I.guard g T te σ' st1.length Q I.items [] (st1 ++ [.lst []])) := ⟨fun p => by unfold dLc; rw [h.eq]; exact p⟩
-- tests
instance {q : Bool → Store → Prop} : Red (tTru te σ st q) (te σ st fun x st1 => truK x st1 fun b => q b st1) := ⟨id⟩
instance {q : Bool → Store → Prop} : Red (tAnd T U σ st q) (T σ st fun c st1 => (c = true → U σ st1 q) ∧ (c = false → q false st1)) := ⟨id⟩
instance {q : Bool → Store → Prop} : Red (tOr T U σ st q) (T σ st fun c st1 => (c = true → q true st1) ∧ (c = false → U σ st1 q)) := ⟨id⟩
instance {q : Bool → Store → Prop} : Red (tNot T σ st q) (T σ st fun c st1 => q (!c) st1) := ⟨id⟩
instance {q : Bool → Store → Prop} : Red (tYes σ st q) (q true st) := ⟨id⟩
-- iterables
instance {R : Iter → Store → Prop} : Red (iSeq te σ st R) (te σ st fun x st1 => itK x st1 R) := ⟨id⟩
instance {R : Iter → Store → Prop} : Red (iR1 te σ st R) (te σ st fun x st1 => ∃ j, x = .int j ∧ -(2 ^ 62) ≤ j ∧ j < 2 ^ 62 ∧ R ⟨rng 0 j.toNat, fun _ => True⟩ st1) := ⟨id⟩
instance {R : Iter → Store → Prop} : Red (iR2 ta tb σ st R) (ta σ st fun x st1 => tb σ st1 fun y st2 => ∃ i j, x = .int i ∧ y = .int j ∧ (-(2 ^ 62) ≤ i ∧ i < 2 ^ 62 ∧ -(2 ^ 62) ≤ j ∧ j < 2 ^ 62) ∧ R ⟨rng i (j - i).toNat, fun _ => True⟩ st2) := ⟨id⟩
instance {R : Iter → Store → Prop} : Red (iZip2 ta tb σ st R) (ta σ st fun x st1 => tb σ st1 fun y st2 => zipK x y st2 R) := ⟨id⟩
instance {R : Iter → Store → Prop} : Red (itK (.tup xs) st R) (R ⟨xs, fun _ => True⟩ st) := ⟨id⟩
instance {R : Iter → Store → Prop} : Red (zipK (.tup xs) (.tup ys) st R) (R ⟨zipD xs ys, fun _ => True⟩ st) := ⟨id⟩
-- values
section
variable {a b : Int} {u v : Str} {p q : Bool}
instance : Red (addK (.int a) (.int b) st Q) (Q (.int (a + b)) st) := ⟨id⟩
instance : Red (addK (.tup xs) (.tup ys) st Q) (xs.length + ys.length ≤ szl ∧ Q (.tup (xs ++ ys)) st) := ⟨id⟩
instance : Red (addK (.str u) (.str v) st Q) (u.length + v.length ≤ szl ∧ Q (.str (u ++ v)) st) := ⟨id⟩
instance : Red (iaddK (.int a) (.int b) st Q) (Q (.int (a + b)) st) := ⟨id⟩
instance : Red (subK (.int a) (.int b) st Q) (Q (.int (a - b)) st) := ⟨id⟩
instance : Red (mulK (.int a) (.int b) st Q) (cMul a b ∧ Q (.int (a * b)) st) := ⟨id⟩
instance : Red (fdivK (.int a) (.int b) st Q) ((0 < b ∧ b < 1073741824) ∧ Q (.int (a / b)) st) := ⟨id⟩
instance : Red (modK (.int a) (.int b) st Q) (0 < b ∧ Q (.int (a % b)) st) := ⟨id⟩
instance : Red (powK (.int a) (.int b) st Q) (cPow a b ∧ Q (.int (a ^ b.toNat)) st) := ⟨id⟩
instance : Red (shlK (.int a) (.int b) st Q) (cPow a b ∧ Q (.int (a * 2 ^ b.toNat)) st) := ⟨id⟩
instance : Red (shrK (.int a) (.int b) st Q) (0 ≤ b ∧ Q (.int (a / 2 ^ b.toNat)) st) := ⟨id⟩
instance : Red (andK (.int a) (.int b) st Q) (Q (.int (Builtin.bitAnd a b)) st) := ⟨id⟩
instance : Red (orK (.int a) (.int b) st Q) (Q (.int (Builtin.bitOr a b)) st) := ⟨id⟩
instance : Red (xorK (.int a) (.int b) st Q) (Q (.int (Builtin.bitXor a b)) st) := ⟨id⟩
instance : Red (negK (.int a) st Q) (Q (.int (-a)) st) := ⟨id⟩
instance : Red (invK (.int a) st Q) (Q (.int (Builtin.bitNot a)) st) := ⟨id⟩
instance {r : Bool → Prop} : Red (ltC (.int a) (.int b) st r) (r (decide (a < b))) := ⟨id⟩
instance {r : Bool → Prop} : Red (leC (.int a) (.int b) st r) (r (decide (a ≤ b))) := ⟨id⟩
instance {r : Bool → Prop} : Red (gtC (.int a) (.int b) st r) (r (decide (b < a))) := ⟨id⟩
instance {r : Bool → Prop} : Red (geC (.int a) (.int b) st r) (r (decide (b ≤ a))) := ⟨id⟩
theorem eq_ii {r : Bool → Prop} (h : r (decide (a = b))) : eqC (.int a) (.int b) st r := by
  have e : D.eqb (.int a) (.int b) = decide (a = b) := by
    simp only [D.eqb]
    by_cases e : a = b <;> simp [e]
  refine ⟨by simp [D.okd], by simp [D.okd], ?_⟩
  rw [e]; exact h
theorem eq_ss {r : Bool → Prop} (h : okS u = true ∧ okS v = true ∧ r (decide (u = v))) : eqC (.str u) (.str v) st r := by
  refine ⟨by simpa [D.okd] using h.1, by simpa [D.okd] using h.2.1, ?_⟩
  simpa [D.eqb] using h.2.2
instance {r : Bool → Prop} : Red (eqC (.int a) (.int b) st r) (r (decide (a = b))) := ⟨eq_ii⟩
instance {r : Bool → Prop} : Red (neC (.int a) (.int b) st r) (r (!decide (a = b))) := ⟨fun h => eq_ii (r := fun b => r (!b)) h⟩
instance {r : Bool → Prop} : Red (eqC (.str u) (.str v) st r) (okS u = true ∧ okS v = true ∧ r (decide (u = v))) := ⟨eq_ss⟩
instance {r : Bool → Prop} : Red (neC (.str u) (.str v) st r) (okS u = true ∧ okS v = true ∧ r (!decide (u = v))) := ⟨fun h => eq_ss (r := fun b => r (!b)) h⟩
instance {r : Bool → Prop} : Red (isC x .non st r) (r (isNon x)) := ⟨fun h => by cases x <;> exact h⟩
instance {r : Bool → Prop} : Red (isntC x .non st r) (r (!isNon x)) := ⟨fun h => by cases x <;> exact h⟩
instance {r : Bool → Prop} : Red (truK (.bl p) st r) (r p) := ⟨id⟩
instance {r : Bool → Prop} : Red (truK (.int a) st r) (r (a != 0)) := ⟨id⟩
instance {r : Bool → Prop} : Red (truK .non st r) (r false) := ⟨id⟩
instance {r : Bool → Prop} : Red (truK (.tup xs) st r) (r (!xs.isEmpty)) := ⟨id⟩
instance : Red (ixK (.tup xs) (.int a) st Q) (∃ d, atD xs a = some d ∧ Q d st) := ⟨id⟩
instance : Red (slK (.tup xs) lo hi st Q) (Q (.tup (cutD xs lo hi)) st) := ⟨id⟩
instance : Red (intB [.int a] st Q) (Q (.int a) st) := ⟨id⟩
instance : Red (intB [.bl p] st Q) (Q (.int (b2i p)) st) := ⟨id⟩
instance : Red (absB [.int a] st Q) (Q (.int (if a < 0 then -a else a)) st) := ⟨id⟩
instance : Red (lenB [.tup xs] st Q) (Q (.int xs.length) st) := ⟨id⟩
instance : Red (min2B [.int a, .int b] st Q) (Q (.int (if b < a then b else a)) st) := ⟨id⟩
instance : Red (max2B [.int a, .int b] st Q) (Q (.int (if b > a then b else a)) st) := ⟨id⟩
instance : Red (listB [.tup xs] st Q) (Q (.ref st.length) (st ++ [.lst xs])) := ⟨id⟩
instance : Red (tupleB [.tup xs] st Q) (Q (.tup xs) st) := ⟨id⟩
instance {r : Bool → Prop} : Red (isTy (.int a) st t r) (r (decide (t = .int))) := ⟨id⟩
instance {r : Bool → Prop} : Red (isTy (.bl p) st t r) (r (decide (t = .bool) || decide (t = .int))) := ⟨id⟩
instance {r : Bool → Prop} : Red (isTy (.tup xs) st t r) (r (decide (t = .tuple))) := ⟨id⟩
instance {r : Bool → Prop} : Red (isTy .non st t r) (r false) := ⟨id⟩
instance {P : Int → Prop} : Red (∃ i, D.int a = D.int i ∧ P i) (P a) := ⟨fun h => ⟨a, rfl, h⟩⟩
instance {P : Int → Int → Prop} : Red (∃ i j, D.int a = D.int i ∧ D.int b = D.int j ∧ P i j) (P a b) := ⟨fun h => ⟨a, b, rfl, rfl, h⟩⟩
-- known ways
instance {A B : Prop} : Red ((true = true → A) ∧ (true = false → B)) A := ⟨fun h => ⟨fun _ => h, fun e => nomatch e⟩⟩
instance {A B : Prop} : Red ((false = true → A) ∧ (false = false → B)) B := ⟨fun h => ⟨fun e => (nomatch e), fun _ => h⟩⟩
end
end

/-! lemmas for what is open -/
theorem way {b : Bool} {A B : Prop} (h1 : b = true → A) (h2 : b = false → B) : (b = true → A) ∧ (b = false → B) := ⟨h1, h2⟩
theorem wayT {b : Bool} {A B : Prop} (h : b = true) (h1 : A) : (b = true → A) ∧ (b = false → B) := ⟨fun _ => h1, fun e => by rw [h] at e; cases e⟩
theorem wayF {b : Bool} {A B : Prop} (h : b = false) (h1 : B) : (b = true → A) ∧ (b = false → B) := ⟨fun e => (by rw [h] at e; cases e), fun _ => h1⟩
/-- where ways meet: J holds there -/
theorem seq_cut {S S' : TS} {D0 : Ends} {σ : Env} {st : Store} (J : Env → Store → Prop) (h : ∀ N : Env → Store → Prop, (∀ σ st, J σ st → N σ st) → S { D0 with nx := N } σ st) (hJ : ∀ σ st, J σ st → S' D0 σ st) : sSeq S S' D0 σ st := h _ fun σ st j => ⟨hJ σ st j⟩
class StartE (n : Nat) (ds : List D) (σ : outParam Env) : Prop where
  eq : start n ds = σ
instance : StartE 0 [] [] := ⟨rfl⟩
instance [h : StartE n [] σ] : StartE (n + 1) [] (none :: σ) := ⟨by rw [← h.eq]; unfold start; simp [List.replicate_succ]⟩
instance [h : StartE n ds σ] : StartE (n + 1) (d :: ds) (some d :: σ) := ⟨by rw [← h.eq]; unfold start; simp⟩
/-- a call of a def of the program -/
theorem call_intro {prog : String → Option Def} {k : Nat} {f : String} {ds : List D} {st : Store} {Q : K} {ps ns : Nat} {body : Cl → TS} {σ : Env} (h : prog f = some ⟨ps, ns, body⟩) (hl : ds.length = ps) [hσ : StartE ns ds σ] (hb : body (callN prog k) { nx := fun _ st' => Q .non st', rt := Q } σ st) : callN prog (k + 1) f ds st Q :=
  ⟨_, h, hl, by rw [hσ.eq]; exact hb⟩

/-! ### loops -/
/-- a for by an invariant over the items gone through; N: what the body is to reach -/
theorem for_inv {gd : Store → Prop} {g : TG} {tb : TS} {D0 : Ends} (Pv : List D → Env → Store → Prop) {items : List D} 
    (hs : ∀ pre x post σ st, items = pre ++ x :: post → Pv pre σ st → ∀ N : Env → Store → Prop, (∀ σ st, Pv (pre ++ [x]) σ st → N σ st) → gd st ∧ g x σ st fun σ2 st2 => tb { D0 with nx := N, ct := N, bk := D0.nx } σ2 st2)
    (hd : ∀ σ st, Pv items σ st → gd st ∧ D0.nx σ st) : ∀ (todo pre : List D) {σ : Env} {st : Store}, items = pre ++ todo → Pv pre σ st → forLoop gd g tb D0 todo σ st
  | [], pre, σ, st, e, h => by
    rw [List.append_nil] at e
    subst e
    exact hd σ st h
  | x :: post, pre, σ, st, e, h => hs pre x post σ st e h _ fun σ st h' => for_inv Pv hs hd post (pre ++ [x]) (by rw [e]; simp) h'
theorem for_by {gd : Store → Prop} {g : TG} {tb : TS} {D0 : Ends} {items : List D} {σ : Env} {st : Store} (Pv : List D → Env → Store → Prop) (h0 : Pv [] σ st)
    (hs : ∀ pre x post σ st, items = pre ++ x :: post → Pv pre σ st → ∀ N : Env → Store → Prop, (∀ σ st, Pv (pre ++ [x]) σ st → N σ st) → gd st ∧ g x σ st fun σ2 st2 => tb { D0 with nx := N, ct := N, bk := D0.nx } σ2 st2)
    (hd : ∀ σ st, Pv items σ st → gd st ∧ D0.nx σ st) : forLoop gd g tb D0 items σ st := for_inv Pv hs hd items [] rfl h0
/-- over range(n) -/
theorem for_rng {gd : Store → Prop} {g : TG} {tb : TS} {D0 : Ends} {lo : Int} {n : Nat} {σ : Env} {st : Store} (Pv : Nat → Env → Store → Prop) (h0 : Pv 0 σ st)
    (hs : ∀ k σ st, k < n → Pv k σ st → ∀ N : Env → Store → Prop, (∀ σ st, Pv (k + 1) σ st → N σ st) → gd st ∧ g (.int (lo + k)) σ st fun σ2 st2 => tb { D0 with nx := N, ct := N, bk := D0.nx } σ2 st2)
    (hd : ∀ σ st, Pv n σ st → gd st ∧ D0.nx σ st) : forLoop gd g tb D0 (rng lo n) σ st := by
  refine for_by (fun pre σ st => Pv pre.length σ st) h0 (fun pre x post σ st e h N hN => ?_) (fun σ st h => hd σ st (by simpa [rng] using h))
  have hl : pre.length < n := by
    have := congrArg List.length e
    simp [rng] at this
    omega
  have hx : x = .int (lo + pre.length) := by
    have h2 : (rng lo n)[pre.length]? = some x := by rw [e]; simp
    unfold rng at h2
    rw [List.getElem?_map, List.getElem?_range hl] at h2
    simpa using h2.symm
  subst hx
  exact hs pre.length σ st hl h N fun σ st h' => hN σ st (by simpa using h')
/-- a comprehension by an invariant; N: behind the element, M: where a test leaves it out -/
theorem lc_inv {gd : Store → Prop} {g : TG} {tt : TT} {te : TE} {ρ : Env} {n : Nat} {Q : K} (Pv : List D → List D → Store → Prop) {items : List D}
    (hs : ∀ pre x post acc st, items = pre ++ x :: post → Pv pre acc st → ∀ (N : D → Store → Prop) (M : Store → Prop), (∀ y st', rdL st' n acc → acc.length < szl → Pv (pre ++ [x]) (acc ++ [y]) (st'.set n (.lst (acc ++ [y]))) → N y st') → (∀ st', rdL st' n acc → Pv (pre ++ [x]) acc st' → M st') →
      gd st ∧ g x ρ st fun ρ2 st2 => tt ρ2 st2 fun b st3 => (b = true → te ρ2 st3 N) ∧ (b = false → M st3))
    (hd : ∀ acc st, Pv items acc st → gd st ∧ rdL st n acc ∧ Q (.ref n) st) : ∀ (todo pre acc : List D) {st : Store}, items = pre ++ todo → Pv pre acc st → lcLoop gd g tt te ρ n Q todo acc st
  | [], pre, acc, st, e, h => by
    rw [List.append_nil] at e
    subst e
    exact hd acc st h
  | x :: post, pre, acc, st, e, h => hs pre x post acc st e h _ _ (fun y st' h1 h2 h3 => ⟨h1, h2, lc_inv Pv hs hd post (pre ++ [x]) (acc ++ [y]) (by rw [e]; simp) h3⟩) fun st' h1 h2 => ⟨h1, lc_inv Pv hs hd post (pre ++ [x]) acc (by rw [e]; simp) h2⟩
theorem lc_by {gd : Store → Prop} {g : TG} {tt : TT} {te : TE} {ρ : Env} {n : Nat} {Q : K} {items : List D} {st : Store} (Pv : List D → List D → Store → Prop) (h0 : Pv [] [] st)
    (hs : ∀ pre x post acc st, items = pre ++ x :: post → Pv pre acc st → ∀ (N : D → Store → Prop) (M : Store → Prop), (∀ y st', rdL st' n acc → acc.length < szl → Pv (pre ++ [x]) (acc ++ [y]) (st'.set n (.lst (acc ++ [y]))) → N y st') → (∀ st', rdL st' n acc → Pv (pre ++ [x]) acc st' → M st') →
      gd st ∧ g x ρ st fun ρ2 st2 => tt ρ2 st2 fun b st3 => (b = true → te ρ2 st3 N) ∧ (b = false → M st3))
    (hd : ∀ acc st, Pv items acc st → gd st ∧ rdL st n acc ∧ Q (.ref n) st) : lcLoop gd g tt te ρ n Q items [] st := lc_inv Pv hs hd items [] [] rfl h0
theorem set_app {α : Type} (xs : List α) (a b : α) : (xs ++ [a]).set xs.length b = xs ++ [b] := by
  rw [List.set_append_right _ _ (Nat.le_refl _)]; simp
/-- the element reads alone: the new list is the map -/
theorem lc_map {α : Type} {gd : Store → Prop} {g : TG} {te : TE} {ρ : Env} {st : Store} {Q : K} (xs : List α) (f h : α → D) {items : List D} (hi : items = xs.map f) (hl : xs.length ≤ szl) (hg : ∀ acc, gd (st ++ [.lst acc]))
    (hs : ∀ x, x ∈ xs → ∀ (acc : List D) (N : D → Store → Prop), N (h x) (st ++ [.lst acc]) → g (f x) ρ (st ++ [.lst acc]) fun ρ2 st2 => te ρ2 st2 N)
    (hd : Q (.ref st.length) (st ++ [.lst (xs.map h)])) : lcLoop gd g tYes te ρ st.length Q items [] (st ++ [.lst []]) := by
  subst hi
  refine lc_by (fun pre acc st' => acc = (xs.take pre.length).map h ∧ st' = st ++ [.lst acc]) ⟨rfl, rfl⟩ (fun pre x post acc st' e ⟨h1, h2⟩ N M hN hM => ?_) (fun acc st' ⟨h1, h2⟩ => ?_)
  · subst h1; subst h2
    refine ⟨hg _, ?_⟩
    have hlen : pre.length < xs.length := by
      have := congrArg List.length e
      simp at this; omega
    have hx : xs[pre.length] ∈ xs := List.getElem_mem hlen
    have hfx : x = f xs[pre.length] := by
      have h2 : (xs.map f)[pre.length]? = some x := by rw [e]; simp
      rw [List.getElem?_map, List.getElem?_eq_getElem hlen] at h2
      simpa using h2.symm
    subst hfx
    have e1 : (fun (ρ2 : Env) (st2 : Store) => tYes ρ2 st2 fun b st3 => (b = true → te ρ2 st3 N) ∧ (b = false → M st3)) = fun ρ2 st2 => te ρ2 st2 N := by
      funext ρ2 st2
      exact propext ⟨fun q => q.1 rfl, fun q => ⟨fun _ => q, fun e => nomatch e⟩⟩
    rw [e1]
    refine hs _ hx _ N (hN _ _ (by unfold rdL; simp) (by simp; omega) ⟨?_, ?_⟩)
    · rw [List.length_append]
      show _ = List.map h (List.take (pre.length + 1) xs)
      rw [List.take_add_one, List.map_append, List.getElem?_eq_getElem hlen]
      rfl
    · rw [set_app]
  · subst h1; subst h2
    have e2 : List.take (List.map f xs).length xs = xs := by simp
    rw [e2] at *
    exact ⟨hg _, by unfold rdL; simp, hd⟩
theorem map_id_int (xs : List Int) : xs.map D.int = xs.map D.int := rfl
end Pd
end PartPdTac

section PartPdMore
set_option Elab.async false
set_option linter.all false
set_option maxRecDepth 100000
/-! Pd: more readings: texts split, range as a list or a tuple, sorted. Own work. -/
namespace Pd
open PySem
def splitM : KM
  | .str a, [.str b], st, Q => (b.length == 0) = false ∧ a.length + 2 ≤ szl ∧ Q (.ref st.length) (st ++ [.lst ((PySem.Txt.split a b).map D.str)])
  | _, _, _, _ => False
/-- range(..) as an argument -/
abbrev TR := Env → Store → (Int → Int → Store → Prop) → Prop
def rg1 (t : TE) : TR := fun σ st Q => t σ st fun x st1 => ∃ j, x = .int j ∧ Q 0 j st1
def rg2 (t u : TE) : TR := fun σ st Q => t σ st fun x st1 => u σ st1 fun y st2 => ∃ i j, x = .int i ∧ y = .int j ∧ Q i j st2
def rgOk (a b : Int) : Prop := -(2 ^ 62) ≤ a ∧ a < 2 ^ 62 ∧ -(2 ^ 62) ≤ b ∧ b < 2 ^ 62 ∧ (b - a).toNat ≤ 2 ^ 24
def dLR (r : TR) : TE := fun σ st Q => r σ st fun a b st1 => rgOk a b ∧ Q (.ref st1.length) (st1 ++ [.lst (rng a (b - a).toNat)])
def dTR (r : TR) : TE := fun σ st Q => r σ st fun a b st1 => rgOk a b ∧ Q (.tup (rng a (b - a).toNat)) st1
/-- sorted: of whole numbers -/
def sortedB : KB
  | [.ref n], st, Q => ∃ ns : List Int, rdA st n (ns.map D.int) ∧ ∀ ns' : List Int, ns'.Perm ns → ns'.Pairwise (· ≤ ·) → Q (.ref st.length) (st ++ [.lst (ns'.map D.int)])
  | _, _, _ => False
/-- a call of a def with n parameters and one that takes what is left over -/
def dCallS (c : Cl) (f : String) (n : Nat) (t : TA) : TE := fun σ st Q => t σ st fun xs st1 => n ≤ xs.length ∧ (xs.drop n).length ≤ szl ∧ c f (xs.take n ++ [.tup (xs.drop n)]) st1 Q
section
variable {c : Cl} {fn : String} {nn : Nat} {Ar : TA}
instance {σ : Env} {st : Store} {Q : K} : Red (dCallS c fn nn Ar σ st Q) (Ar σ st fun xs st1 => nn ≤ xs.length ∧ (xs.drop nn).length ≤ szl ∧ c fn (xs.take nn ++ [.tup (xs.drop nn)]) st1 Q) := ⟨id⟩
end
section
variable {σ : Env} {st : Store} {Q : K} {r : TR} {ta tb : TE} {q : Int → Int → Store → Prop} {a b : Int} {u v : Str}
instance : Red (dLR r σ st Q) (r σ st fun a b st1 => rgOk a b ∧ Q (.ref st1.length) (st1 ++ [.lst (rng a (b - a).toNat)])) := ⟨id⟩
instance : Red (dTR r σ st Q) (r σ st fun a b st1 => rgOk a b ∧ Q (.tup (rng a (b - a).toNat)) st1) := ⟨id⟩
instance : Red (rg1 ta σ st q) (ta σ st fun x st1 => ∃ j, x = .int j ∧ q 0 j st1) := ⟨id⟩
instance : Red (rg2 ta tb σ st q) (ta σ st fun x st1 => tb σ st1 fun y st2 => ∃ i j, x = .int i ∧ y = .int j ∧ q i j st2) := ⟨id⟩
instance : Red (splitM (.str u) [.str v] st Q) ((v.length == 0) = false ∧ u.length + 2 ≤ szl ∧ Q (.ref st.length) (st ++ [.lst ((PySem.Txt.split u v).map D.str)])) := ⟨id⟩
instance : Red (tyStr (.str u) st) True := ⟨id⟩
end
end Pd
end PartPdMore

section PartPdSoundG
set_option Elab.async false
set_option linter.all false
set_option maxRecDepth 100000
set_option maxHeartbeats 1000000
/-! Pd over the hand layer: texts split, range as a list or a tuple, sorted. Own work. -/
namespace Pd
open PySem PySem.Spec
section
variable {X : L2.Cx} {K : Kf} {f f' : List Addr} {H H' : Hp} {st st' : Store} {ρ : Env} {σ : L2.St}
theorem RDs.of_strs : ∀ (ss : List Str), RDs K f H (ss.map D.str) (ss.map L2.V.str)
  | [] => by simp [RDs.nil]
  | n :: ns => by
    rw [List.map_cons, List.map_cons, RDs.cons]
    exact ⟨_, _, rfl, by rw [RD.str], RDs.of_strs ns⟩
theorem real_split : RealM K (fun x xs H Q => ∃ a b, x = .str a ∧ xs = [.str b] ∧ (b.length == 0) = false ∧ a.length + 2 ≤ sizeLine ∧ L2.rNewStrs (Txt.split a b) H Q) splitM := fun f st H x xs v vs Q' Q s r1 r2 h l => by
  cases x <;> try (exact h.elim)
  match xs, h with
  | [], h => exact h.elim
  | y :: _ :: _, h => cases y <;> exact (show False from h).elim
  | [y], h =>
    cases y <;> try (exact h.elim)
    rw [RD.str] at r1
    obtain ⟨w, rfl, r3⟩ := r2.inv1
    rw [RD.str] at r3
    subst r1; subst r3
    obtain ⟨h1, h2, h3⟩ := h
    exact ⟨_, _, rfl, rfl, h1, by rw [← szl_eq]; exact h2, fun p hp => l.lst s h3 (RDs.of_strs _) hp⟩
/-! range(..) as an argument -/
def liftR (K : Kf) (t : TR) : L2.St → Hp → (Int → Int → Hp → Prop) → Prop := fun σ H Q => ∃ f ρ st Q', Rel K f ρ st σ H ∧ t ρ st Q' ∧ ∀ (a b : Int) (st' : Store) (f' : List Addr) (H' : Hp), Q' a b st' → Ext K f H f' H' → RelS K f' st' H' → Q a b H'
abbrev PDR (X : L2.Cx) (e : Expr) (t : TR) : Prop := L2.PRg X e (liftR X.K t)
theorem prg_imp {e : Expr} {t t' : L2.St → Hp → (Int → Int → Hp → Prop) → Prop} (h : L2.PRg X e t) (m : ∀ σ H Q, t' σ H Q → t σ H Q) : L2.PRg X e t' := fun pins s σ H Q I q => h pins s σ H Q I (m σ H Q q)
section
variable {a b e : Expr} {ta tb : TE} {tr : TR} {pos : Pos}
theorem pr_1 {p : Pos} (hg : L2.Gl X "range") (hm : X.mg "range" = none) (ha : PD X a ta) (na : starEach [a] X.env = (false, eval a X.env) :: starEach [] X.env := by rfl) : PDR X (.Call (.Name "range" p) [a] [] pos) (rg1 ta) :=
  prg_imp (L2.prg_1 hg hm ha na) fun σ H R ⟨f, ρ, st, R', Re, h, l⟩ => ⟨f, ρ, st, _, Re, h, fun x st1 v f1 H1 q1 e1 s1 r1 => by
    obtain ⟨j, rfl, h1⟩ := q1
    rw [RD.int] at r1
    subst r1
    exact ⟨j, rfl, l _ _ st1 f1 H1 h1 e1 s1⟩⟩
theorem pr_2 {p : Pos} (hg : L2.Gl X "range") (hm : X.mg "range" = none) (ha : PD X a ta) (hb : PD X b tb) (na : starEach [a, b] X.env = (false, eval a X.env) :: starEach [b] X.env := by rfl)
    (nb : starEach [b] X.env = (false, eval b X.env) :: starEach [] X.env := by rfl) (hp : (backTo pos (starEach [b] X.env)).any (·.1) = false := by rfl) : PDR X (.Call (.Name "range" p) [a, b] [] pos) (rg2 ta tb) :=
  prg_imp (L2.prg_2 hg hm ha hb na nb hp) fun σ H R ⟨f, ρ, st, R', Re, h, l⟩ => ⟨f, ρ, st, _, Re, h, fun x st1 v f1 H1 q1 e1 s1 r1 => ⟨f1, ρ, st1, _, Re.later e1 s1, q1, fun y st2 w f2 H2 q2 e2 s2 r2 => by
    obtain ⟨i, j, rfl, rfl, h3⟩ := q2
    have r1' := r1.mono e2
    rw [RD.int] at r1' r2
    subst r1'; subst r2
    exact ⟨i, j, rfl, rfl, l _ _ st2 f2 H2 h3 (e1.trans e2) s2⟩⟩⟩
theorem rng_rgV (a b : Int) : RDs K f H (rng a (b - a).toNat) (L2.rgV a b) := by
  have e1 : rng a (b - a).toNat = ((List.range (b - a).toNat).map fun (k : Nat) => a + (k : Int)).map D.int := by unfold rng; simp
  have e2 : L2.rgV a b = ((List.range (b - a).toNat).map fun (k : Nat) => a + (k : Int)).map L2.V.int := by unfold L2.rgV; simp
  rw [e1, e2]; exact RDs.of_ints _
theorem pd_listRg {p : Pos} (hc : X.calm = true) (hg : L2.Gl X "list") (hm : X.mg "list" = none) (he : PDR X e tr) (na : starEach [e] X.env = (false, eval e X.env) :: starEach [] X.env := by rfl) : PD X (.Call (.Name "list" p) [e] [] pos) (dLR tr) :=
  pe_imp (L2.pe_listRg hc hg hm he na) fun σ H Q ⟨f, ρ, st, Q', R, h, l⟩ => ⟨f, ρ, st, _, R, h, fun a b st1 f1 H1 q1 e1 s1 => ⟨q1.1, fun p hp => (l.later e1).lst s1 q1.2 (rng_rgV a b) hp⟩⟩
theorem pd_tupRg {p : Pos} (hc : X.calm = true) (hg : L2.Gl X "tuple") (hm : X.mg "tuple" = none) (he : PDR X e tr) (na : starEach [e] X.env = (false, eval e X.env) :: starEach [] X.env := by rfl) : PD X (.Call (.Name "tuple" p) [e] [] pos) (dTR tr) :=
  pe_imp (L2.pe_tupRg hc hg hm he na) fun σ H Q ⟨f, ρ, st, Q', R, h, l⟩ => ⟨f, ρ, st, _, R, h, fun a b st1 f1 H1 q1 e1 s1 => ⟨q1.1, fun p hp => (l.later e1).tup s1 q1.2 (rng_rgV a b) hp⟩⟩
end
theorem real_sortedB : RealB K (L2.rSortedI K) sortedB :=
  realB1 (kb1 (fun _ _ h => h) fun x y xs st Q h => by cases x <;> exact h) fun f st H x v Q' Q s r h l => by
    cases x <;> try (exact h.elim)
    rw [RD.ref] at r
    obtain ⟨a, e, rfl⟩ := r
    obtain ⟨ns, h1, h2⟩ := h
    obtain ⟨a', vs, k1, k2, d⟩ := s.rdA h1
    rw [e] at k1; cases k1
    exact ⟨a, ns, rfl, by rw [← d.ints]; exact k2, fun ns' p hp hi hn => l.lst s (h2 ns' hp hi) (RDs.of_ints ns') hn⟩
end
end Pd
end PartPdSoundG

section PartPdSoundH
set_option Elab.async false
set_option linter.all false
set_option maxRecDepth 100000
set_option maxHeartbeats 1000000
/-! Pd over the hand layer: defs whose last parameter takes what is left over. Own work. -/
namespace Pd
open PySem PySem.Spec
open PyProof.Rows (envOfC)
/-- what a def with n parameters and a star one promises -/
def starF (K : Kf) (n : Nat) (c : List D → Store → Pd.K → Prop) : L2.Sp := fun vs H Q E => ∃ ws rest : List L2.V, vs = ws ++ rest ∧ ws.length = n ∧ rest.length ≤ sizeLine ∧ ∀ p, H p = Option.none → liftF K (n + 1) c (ws ++ [L2.V.ref p]) (L2.upd H p (.tup rest)) Q E
structure OwnS (P : Program) (w : World) (K : Kf) (mg : Str → Option Value) (base : Heap) (k : Nat) (n : Nat) (x : Str) (c : List D → Store → Pd.K → Prop) : Prop where
  ex : ∃ fa : Addr, L2.FnR P w K mg base L2.CX0 k fa (starF K n c) ∧ mg x = some (.ref fa) ∧ PySem.W.keepIn K (.ref fa) = true
section
variable {X : L2.Cx} {K : Kf} {f f' : List Addr} {H H' : Hp} {st st' : Store} {a : Expr} {es : List Expr} {pos : Pos}
theorem pd_callS {x : Str} {p : Pos} {k n : Nat} {ts : TA} {cl : Cl} {y : String} (o : OwnS X.prog X.w X.K X.mg X.base k n x (cl y)) (hr : L2.Room k X.A) (hg : L2.Gl X x) (ha : PDA X (a :: es) ts) (hdb : (x == ("__debug__" : Str)) = false := by decide)
    (he : starEach (a :: es) X.env = (false, eval a X.env) :: starEach es X.env := by rfl) (hpl : (backTo pos (starEach es X.env)).any (·.1) = false := by rfl) : PD X (.Call (.Name x p) (a :: es) [] pos) (dCallS cl y n ts) := by
  obtain ⟨fa, F, hm, hk⟩ := o.ex
  have step : L2.PE X (.Call (.Name x p) (a :: es) [] pos) (fun σ H Q => liftA X.K ts σ H fun vs H1 => starF X.K n (cl y) vs H1 Q fun _ _ _ => False) := by
    constructor
    intro pins s σ H Q I h
    refine wpAny_Call_Name_kw (L2.ld_glob I hg hm ?_ hdb)
    have args := ha.run pos pins s σ H _ I h
    exact PySem.W.callWith_K (h₀ := X.base) I.ok.mod.kin hk (wpAny_mono args (fun us s1 ⟨vs, H1, I1, r, q⟩ => ⟨I1.kIn, wpAny_call (L2.run_fnR F hr L2.pass0 I1 r q)⟩) fun _ _ z => z) he hpl
  refine pe_imp step fun σ H Q ⟨f, ρ, st, Q', R, h, l⟩ => ⟨f, ρ, st, _, R, h, fun xs st1 vs f1 H1 ⟨h1, h2, h3⟩ e1 s1 r1 => ?_⟩
  have hvl := r1.length
  refine ⟨vs.take n, vs.drop n, (List.take_append_drop n vs).symm, by rw [List.length_take]; omega, ?_, fun p hp => ?_⟩
  · rw [List.length_drop, hvl, ← szl_eq]; rw [List.length_drop] at h2; exact h2
  · have s2 := s1.lay (o := .tup (vs.drop n)) hp
    obtain ⟨s2, e2⟩ := s2
    refine ⟨by rw [List.length_append, List.length_take]; simp; omega, f1, st1, xs.take n ++ [.tup (xs.drop n)], Q', s2, ?_, h3, (l.later e1).later e2⟩
    refine RDs.append ((r1.take n).mono e2) (RDs.one (RD.tup.mpr ⟨p, vs.drop n, rfl, .of L2.upd_same, (r1.drop n).mono e2⟩))
end
section
variable {P : Program} {w : World} {K : Kf} {mg : Str → Option Value} {base : Heap} {names : List String} {snames : List (String × Nat)}
/-- as Step, with both kinds of own defs -/
structure Step2 (P : Program) (w : World) (K : Kf) (mg : Str → Option Value) (base : Heap) (names : List String) (snames : List (String × Nat)) (x : String) (d : Def) : Prop where
  ex : ∃ (fa : Addr) (fd : FuncData) (ps : List Str), mg x = some (.ref fa) ∧ PySem.W.keepIn K (.ref fa) = true ∧ L2.Binds K fd ps [] ∧ d.ps = ps.length ∧
    ∀ (k : Nat) (c : Cl), (∀ y ∈ names, Own P w K mg base k (Str.ofString y) (c y)) → (∀ q ∈ snames, OwnS P w K mg base k q.2 (Str.ofString q.1) (c q.1)) → L2.FnOk P w K mg base L2.CX0 (k + 1) fa fd ps (liftF K ps.length (d.run c))
structure StepS (P : Program) (w : World) (K : Kf) (mg : Str → Option Value) (base : Heap) (names : List String) (snames : List (String × Nat)) (x : String) (n : Nat) (d : Def) : Prop where
  ex : ∃ fa : Addr, mg x = some (.ref fa) ∧ PySem.W.keepIn K (.ref fa) = true ∧
    ∀ (k : Nat) (c : Cl), (∀ y ∈ names, Own P w K mg base k (Str.ofString y) (c y)) → (∀ q ∈ snames, OwnS P w K mg base k q.2 (Str.ofString q.1) (c q.1)) → L2.FnR P w K mg base L2.CX0 (k + 1) fa (starF K n (d.run c))
theorem fnS_ok {qual x pv : Str} {sm : Stmt} {fa : Addr} {fd : FuncData} {N ps : List Str} {k : Nat} {d : Def} {c : Cl} (F : L2.Fun K x qual sm fa fd) (S : L2.FnScope N (ps ++ [pv]) (L2.defScope sm)) (hn : d.ns = N.length) (hp : d.ps = ps.length + 1)
    (hb : ∀ (kV doc pm : Value) (an : Option Addr) (cdv ct : Value) (us rest : List Value), us.length = ps.length → bindArgs (PySem.W.fnOf x qual (L2.defArgs sm) (L2.defBody sm) (L2.defScope sm) .none kV doc pm an cdv ct) ⟨us ++ rest, []⟩ = (newTuple rest >>= fun t => pure (ps.zip us ++ [(pv, t)])))
    (der : ∀ (cdv : Value) (A : Around) (outer : List PySem.Env) (s : Shared) (H : Hp) (E : L2.XK), L2.Room k (A.deeper (envOfC qual (L2.defScope sm) s.heap.objs.size fa cdv)) →
      PDSs (L2.cxOf L2.CX0 P w K mg base N qual (L2.defScope sm) fa cdv A outer s H E).nox (L2.defBody sm) (d.body c)) : L2.FnR P w K mg base L2.CX0 (k + 1) fa (starF K ps.length (d.run c)) := by
  obtain ⟨oc, od, kV, doc, pm, an, cdv, ct, osl, rfl, look, code⟩ := F.ex
  refine StX.fn_star (sp := liftF K (ps.length + 1) (d.run c)) look code S StX.cxUp_none (hb kV doc pm an cdv ct) fun A outer s H vs Q E hr h => ?_
  refine ⟨_, (der cdv A outer s H E hr).nox, ?_⟩
  obtain ⟨_, f, st, ds, Q', s', r, ⟨hl, h⟩, l⟩ := h
  refine ⟨f, start d.ns ds, st, _, start_rel s' r hn, h, ?_⟩
  exact ⟨fun ρ1 st1 σ1 f1 H1 q e r1 => l .non st1 .non f1 H1 q e r1.toRelS (RD.non.mpr rfl), l, fun _ _ _ _ _ q _ _ => q, fun _ _ _ _ _ q _ _ => q⟩
theorem all_own2 {prog : String → Option Def} (hs : ∀ x ∈ names, ∃ d, prog x = some d ∧ Step2 P w K mg base names snames x d) (hs2 : ∀ q ∈ snames, ∃ d, prog q.1 = some d ∧ StepS P w K mg base names snames q.1 q.2 d) :
    ∀ k : Nat, (∀ x ∈ names, Own P w K mg base k (Str.ofString x) (callN prog k x)) ∧ ∀ q ∈ snames, OwnS P w K mg base k q.2 (Str.ofString q.1) (callN prog k q.1)
  | 0 => by
    refine ⟨fun x hx => ?_, fun q hq => ?_⟩
    · obtain ⟨d, h1, fa, fd, ps, h2, h3, h4, h5, h6⟩ := hs x hx
      exact ⟨fa, fd, ps, fn_zero, h2, h3, h4, fun _ _ _ h => h.elim⟩
    · obtain ⟨d, h1, fa, h2, h3, h4⟩ := hs2 q hq
      refine ⟨fa, fun A outer s H us vs Q E hr e0 r h => ?_, h2, h3⟩
      obtain ⟨ws, rest, _, _, _, h⟩ := h
      obtain ⟨_, _, _, _, _, _, _, z, _⟩ := h s.heap.objs.size (e0.hok.fresh (Nat.le_refl _))
      exact z.elim
  | k + 1 => by
    have ih := all_own2 hs hs2 k
    refine ⟨fun x hx => ?_, fun q hq => ?_⟩
    · obtain ⟨d, h1, fa, fd, ps, h2, h3, h4, h5, h6⟩ := hs x hx
      refine ⟨fa, fd, ps, (h6 k _ ih.1 ih.2).imp fun vs H Q E ⟨g0, f, st, ds, Q', s, r, ⟨d', e', g⟩, l⟩ => ?_, h2, h3, h4, fun ds st Q ⟨d', e', g⟩ => ?_⟩
      · rw [h1] at e'; cases e'
        exact ⟨g0, f, st, ds, Q', s, r, g, l⟩
      · rw [h1] at e'; cases e'
        exact g.1.trans h5
    · obtain ⟨d, h1, fa, h2, h3, h4⟩ := hs2 q hq
      refine ⟨fa, (h4 k _ ih.1 ih.2).imp fun vs H Q E ⟨ws, rest, e1, e2, e3, h⟩ => ⟨ws, rest, e1, e2, e3, fun p hp => ?_⟩, h2, h3⟩
      obtain ⟨g0, f, st, ds, Q', s, r, ⟨d', e', g⟩, l⟩ := h p hp
      rw [h1] at e'; cases e'
      exact ⟨g0, f, st, ds, Q', s, r, g, l⟩
end
end Pd
end PartPdSoundH

section PartPdDict
set_option Elab.async false
set_option linter.all false
set_option maxRecDepth 100000
/-! Pd: dicts of ints and texts. Own work. -/
namespace Pd
open PySem
abbrev Ky := Sum Int Str
def keyD : Ky → D
  | .inl i => .int i
  | .inr s => .str s
theorem keyD_inj : ∀ {a b : Ky}, keyD a = keyD b → a = b
  | .inl _, .inl _, h => by injection h with h; rw [h]
  | .inr _, .inr _, h => by injection h with h; rw [h]
  | .inl _, .inr _, h => nomatch h
  | .inr _, .inl _, h => nomatch h
def valD (kvs : List (Ky × D)) (k : Ky) : Option D := (kvs.find? fun kv => decide (kv.1 = k)).map (·.2)
def putD (kvs : List (Ky × D)) (k : Ky) (v : D) : List (Ky × D) :=
  if (kvs.any fun kv => decide (kv.1 = k)) = true then kvs.map (fun kv => if kv.1 = k then (kv.1, v) else kv) else kvs ++ [(k, v)]
/-- {} -/
def dDic : TE := fun _ st Q => Q (.ref st.length) (st ++ [.dic []])
/-- d[k] -/
def getDK : K2
  | .ref n, y, st, Q => ∃ kvs k d, rdD st n kvs ∧ y = keyD k ∧ valD kvs k = some d ∧ Q d st
  | _, _, _, _ => False
def dGet (to ti : TE) : TE := fun σ st Q => to σ st fun x st1 => ti σ st1 fun y st2 => getDK x y st2 Q
/-- d[k] = v -/
def setDK : D → D → D → Store → (Store → Prop) → Prop
  | .ref n, y, v, st, Q => ∃ kvs k, rdD st n kvs ∧ y = keyD k ∧ kvs.length < szl ∧ Q (st.set n (.dic (putD kvs k v)))
  | _, _, _, _, _ => False
def gSubD (to ti : TE) : TG := fun v σ st Q => to σ st fun o st1 => ti σ st1 fun i st2 => setDK o i v st2 fun st3 => Q σ st3
/-- sorted(d), keys whole numbers -/
def sortedDB : KB
  | [.ref n], st, Q => ∃ (kvs : List (Ky × D)) (ns : List Int), rdD st n kvs ∧ kvs.map (·.1) = ns.map Sum.inl ∧ ∀ ns' : List Int, ns'.Perm ns → ns'.Pairwise (· ≤ ·) → Q (.ref st.length) (st ++ [.lst (ns'.map D.int)])
  | _, _, _ => False
/-- {k: v for ..}: n the new cell -/
def dcLoop (gd : Store → Prop) (g : TG) (tt : TT) (tk tv : TE) (ρ : Env) (n : Nat) (Q : K) : List D → List (Ky × D) → Store → Prop
  | [], acc, st => gd st ∧ rdD st n acc ∧ Q (.ref n) st
  | x :: xs, acc, st => gd st ∧ g x ρ st fun ρ2 st2 => tt ρ2 st2 fun b st3 =>
      (b = true → tk ρ2 st3 fun y st4 => tv ρ2 st4 fun z st5 => ∃ k, y = keyD k ∧ rdD st5 n acc ∧ acc.length < szl ∧ dcLoop gd g tt tk tv ρ n Q xs (putD acc k z) (st5.set n (.dic (putD acc k z)))) ∧ (b = false → rdD st3 n acc ∧ dcLoop gd g tt tk tv ρ n Q xs acc st3)
def dDc (i : TI) (g : TG) (tt : TT) (tk tv : TE) (vs : List Nat) : TE := fun σ st Q => i σ st fun I st1 => dcLoop I.guard g tt tk tv (wipeE σ vs) st1.length Q I.items [] (st1 ++ [.dic []])
section
variable {σ σ' : Env} {st : Store} {Q : K} {to ti tk tv : TE} {d x : D} {g : TG} {tt : TT} {i : TI} {vs : List Nat} {q : Env → Store → Prop}
instance : Red (dDic σ st Q) (Q (.ref st.length) (st ++ [.dic []])) := ⟨id⟩
instance : Red (dGet to ti σ st Q) (to σ st fun x st1 => ti σ st1 fun y st2 => getDK x y st2 Q) := ⟨id⟩
instance : Red (gSubD to ti d σ st q) (to σ st fun o st1 => ti σ st1 fun i st2 => setDK o i d st2 fun st3 => q σ st3) := ⟨id⟩
instance [h : WipeE σ vs σ'] : Red (dDc i g tt tk tv vs σ st Q) (i σ st fun I st1 => dcLoop I.guard g tt tk tv σ' st1.length Q I.items [] (st1 ++ [.dic []])) := ⟨fun p => by unfold dDc; rw [h.eq]; exact p⟩
end
end Pd
end PartPdDict

section PartPdSoundI
set_option Elab.async false
set_option linter.all false
set_option maxRecDepth 100000
set_option maxHeartbeats 1000000
/-! Pd over the hand layer: dicts of ints and texts. Own work. -/
namespace Pd
open PySem PySem.Spec
section
variable {X : L2.Cx} {K : Kf} {f f' : List Addr} {H H' : Hp} {st st' : Store} {ρ : Env} {σ : L2.St}
theorem keyD_V {k : Ky} {v : L2.V} (h : RD K f H (keyD k) v) : v = L2.kV k := by
  cases k with
  | inl i => exact RD.int.mp h
  | inr s => exact RD.str.mp h
theorem vals_at : ∀ {kvs : List (Ky × D)} {ks : List (L2.Key × L2.V)}, ks.map (·.1) = kvs.map (·.1) → RDs K f H (kvs.map (·.2)) (ks.map (·.2)) → ∀ (k : Ky) (d : D), valD kvs k = some d → ∃ v, L2.valV ks k = some v ∧ RD K f H d v
  | [], _, _, _, k, d, h => by simp [valD] at h
  | (k0, d0) :: kvs, [], e, _, _, _, _ => by simp at e
  | (k0, d0) :: kvs, (k1, v1) :: ks, e, r, k, d, h => by
    simp only [List.map_cons, List.cons.injEq] at e
    obtain ⟨e1, e2⟩ := e
    rw [List.map_cons, List.map_cons, RDs.cons] at r
    obtain ⟨v, rr, er, r1, r2⟩ := r
    injection er with er1 er2
    subst er1
    have e1 : k1 = k0 := e1
    subst e1
    by_cases hk : k1 = k
    · refine ⟨v1, L2.valV_pos hk, ?_⟩
      have : valD ((k1, d0) :: kvs) k = some d0 := by simp [valD, List.find?_cons, hk]
      rw [this] at h; cases h
      exact r1
    · have : valD ((k1, d0) :: kvs) k = valD kvs k := by simp [valD, List.find?_cons, hk]
      rw [this] at h
      obtain ⟨w, h1, h2⟩ := vals_at e2 (by rw [er2]; exact r2) k d h
      exact ⟨w, (L2.valV_neg hk).trans h1, h2⟩
theorem put_at {k : Ky} {d : D} {v : L2.V} (rv : RD K f H d v) {kvs : List (Ky × D)} {ks : List (L2.Key × L2.V)} (e : ks.map (·.1) = kvs.map (·.1)) (r : RDs K f H (kvs.map (·.2)) (ks.map (·.2))) :
    (L2.putK ks k v).map (·.1) = (putD kvs k d).map (·.1) ∧ RDs K f H ((putD kvs k d).map (·.2)) ((L2.putK ks k v).map (·.2)) := by
  have hany : ∀ {kvs : List (Ky × D)} {ks : List (L2.Key × L2.V)}, ks.map (·.1) = kvs.map (·.1) → (ks.any fun kv => decide (kv.1 = k)) = (kvs.any fun kv => decide (kv.1 = k)) := by
    intro kvs ks e
    have h1 : ∀ l : List (Ky × D), (l.any fun kv => decide (kv.1 = k)) = (l.map (·.1)).any fun x => decide (x = k) := fun l => by rw [List.any_map]; rfl
    have h2 : ∀ l : List (L2.Key × L2.V), (l.any fun kv => decide (kv.1 = k)) = (l.map (·.1)).any fun x => decide (x = k) := fun l => by rw [List.any_map]; rfl
    rw [h1, h2, e]
  have hmap : ∀ {kvs : List (Ky × D)} {ks : List (L2.Key × L2.V)}, ks.map (·.1) = kvs.map (·.1) → RDs K f H (kvs.map (·.2)) (ks.map (·.2)) →
      (ks.map fun kv => if kv.1 = k then (kv.1, v) else kv).map (·.1) = (kvs.map fun kv => if kv.1 = k then (kv.1, d) else kv).map (·.1) ∧ RDs K f H ((kvs.map fun kv => if kv.1 = k then (kv.1, d) else kv).map (·.2)) ((ks.map fun kv => if kv.1 = k then (kv.1, v) else kv).map (·.2)) := by
    intro kvs
    induction kvs with
    | nil => intro ks e r; cases ks with
      | nil => exact ⟨rfl, r⟩
      | cons _ _ => simp at e
    | cons p kvs ih =>
      intro ks e r
      cases ks with
      | nil => simp at e
      | cons q ks =>
        obtain ⟨k0, d0⟩ := p
        obtain ⟨k1, v1⟩ := q
        simp only [List.map_cons, List.cons.injEq] at e
        obtain ⟨e1, e2⟩ := e
        rw [List.map_cons, List.map_cons, RDs.cons] at r
        obtain ⟨u, rr, er, r1, r2⟩ := r
        injection er with er1 er2
        have e1 : k1 = k0 := e1
        subst e1
        obtain ⟨h1, h2⟩ := ih e2 (by rw [er2]; exact r2)
        by_cases hk : k1 = k
        · simp only [List.map_cons, hk, if_true]
          refine ⟨by rw [h1], ?_⟩
          rw [RDs.cons]; exact ⟨v, _, rfl, rv, h2⟩
        · simp only [List.map_cons, hk, if_false]
          refine ⟨by rw [h1], ?_⟩
          have er1 : v1 = u := er1
          subst er1
          rw [RDs.cons]; exact ⟨v1, _, rfl, r1, h2⟩
  unfold L2.putK putD
  rw [hany e]
  split
  · exact hmap e r
  · refine ⟨by rw [List.map_append, List.map_append, e]; rfl, ?_⟩
    rw [List.map_append, List.map_append]
    exact r.append (RDs.one rv)
theorem RelS.putDic {n : Nat} {a : Addr} {kvs kvs' : List (Ky × D)} {ks ks' : List (L2.Key × L2.V)} (s : RelS K f st H) (hn : f[n]? = some a) (h : Pd.rdD st n kvs) (hH : H a = some (.dK ks)) (e : ks'.map (·.1) = kvs'.map (·.1)) (r : RDs K f H (kvs'.map (·.2)) (ks'.map (·.2))) :
    RelS K f (st.set n (.dic kvs')) (L2.upd H a (.dK ks')) ∧ Ext K f H f (L2.upd H a (.dK ks')) :=
  s.chg (c := .dic kvs) h rfl hn (.inr (.inr (.inl ⟨ks, hH⟩))) rfl ⟨ks', L2.upd_same, e, r.mono (Ext.upd0 (.inr (.inr (.inl ⟨ks, hH⟩))))⟩
section
variable {o i a b e : Expr} {to ti ta tb te : TE} {pos : Pos}
theorem pd_dic : PD X (.Dict [] [] pos) dDic :=
  pe_imp L2.pe_dnewK fun σ H Q ⟨f, ρ, st, Q', R, h, l⟩ p hp => by
    obtain ⟨s', e⟩ := R.toRelS.new (o := .dK []) (c := .dic []) hp ⟨[], L2.upd_same, rfl, RDs.nil.mpr rfl⟩
    exact l _ _ _ _ _ h e s' (RD.ref.mpr ⟨p, by rw [← R.toRelS.len]; simp, rfl⟩)
theorem pd_get {k : Nat} (hr : L2.Room k X.A) (ho : PD X o to) (hi : PD X i ti) (hs : L2.NoSl i := by intro _ _; rfl) : PD X (.Subscript o i pos) (dGet to ti) :=
  pe_imp (L2.pe_dget (L2.hu_of hr) ho hi hs) fun σ H Q ⟨f, ρ, st, Q', R, h, l⟩ => ⟨f, ρ, st, _, R, h, fun x st1 v f1 H1 q1 e1 s1 r1 => ⟨f1, ρ, st1, _, R.later e1 s1, q1, fun y st2 w f2 H2 q2 e2 s2 r2 => by
    cases x <;> try (exact q2.elim)
    obtain ⟨kvs, k, d, h1, rfl, h3, h4⟩ := q2
    have r1' := r1.mono e2
    rw [RD.ref] at r1'
    obtain ⟨a, ea, rfl⟩ := r1'
    obtain ⟨a', ks, g1, g2, g3, g4⟩ := s2.rdD h1
    rw [ea] at g1; cases g1
    obtain ⟨v, g5, g6⟩ := vals_at g3 g4 k d h3
    obtain rfl := keyD_V r2
    exact ⟨a, v, rfl, by rw [← g5]; exact L2.DGet.k g2, l d st2 v f2 H2 h4 (e1.trans e2) s2 g6⟩⟩⟩
theorem pg_subD {k : Nat} (hr : L2.Room k X.A) (h1 : PD X o to) (h2 : PD X i ti) (ha : ∀ v, assign (.Subscript o i pos) X.env v = (do
      let ov ← holding [v] (eval o X.env)
      let iv ← holding [v, ov] (eval i X.env)
      standAt pos
      holding [v, ov, iv] (setItem ov iv v)
      release [v, ov, iv] []) := by intro _; rfl) : PDG X (.Subscript o i pos) (gSubD to ti) [] :=
  pg_imp (L2.pg_sub h1 h2 (L2.set_dict (L2.hu_of hr)) ha) fun v σ H Q ⟨f, ρ, st, d, Q', R, r, h, l⟩ => ⟨f, ρ, st, _, R, h, fun x st1 u f1 H1 q1 e1 s1 r1 => ⟨f1, ρ, st1, _, R.later e1 s1, q1, fun y st2 w f2 H2 q2 e2 s2 r2 => by
    cases x <;> try (exact q2.elim)
    obtain ⟨kvs, k, h3, rfl, h4, h5⟩ := q2
    have r1' := r1.mono e2
    rw [RD.ref] at r1'
    obtain ⟨a, ea, rfl⟩ := r1'
    obtain ⟨a', ks, g1, g2, g3, g4⟩ := s2.rdD h3
    rw [ea] at g1; cases g1
    obtain ⟨p1, p2⟩ := put_at (k := k) (r.mono (e1.trans e2)) g3 g4
    obtain ⟨s3, e3⟩ := s2.putDic ea h3 g2 p1 p2
    obtain rfl := keyD_V r2
    have hlen : ks.length < sizeLine := by
      have := congrArg List.length g3
      simp at this
      rw [this, ← szl_eq]; exact h4
    exact ⟨a, _, rfl, L2.DPut.k g2 hlen, l ρ _ σ f2 _ h5 ((e1.trans e2).trans e3) (R.later ((e1.trans e2).trans e3) s3) .refl⟩⟩⟩

theorem dc_core {wi : TI} {g : TG} {tt : TT} {tk tv : TE} {vs ws : List Nat} {Q : L2.VK} (hws : ∀ j, j ∈ ws → j ∈ vs) (h : lift K (dDc wi g tt tk tv vs) σ H Q) : L2.tDc (liftI K wi) (liftG K g ws) (liftT K tt) (lift K tk) (lift K tv) vs σ H Q := by
  obtain ⟨f, ρ, st, Q', R, h, l⟩ := h
  refine ⟨f, ρ, st, _, R, h, fun I st1 J f1 H1 q1 e1 s1 rI D hD => ?_⟩
  obtain ⟨s0, e0⟩ := s1.new (o := .dK []) (c := .dic []) hD ⟨[], L2.upd_same, rfl, RDs.nil.mpr rfl⟩
  have hn0 : (f1 ++ [D])[st1.length]? = some D := by rw [← s1.len]; simp
  refine ⟨fun i m H2 => m = I.items.length - i ∧ i ≤ I.items.length ∧ ∃ f2 st2 acc, Ext K (f1 ++ [D]) (L2.upd H1 D (.dK [])) f2 H2 ∧ RelS K f2 st2 H2 ∧ Pd.rdD st2 st1.length acc ∧ dcLoop I.guard g tt tk tv (wipeE ρ vs) st1.length Q' (I.items.drop i) acc st2,
    ⟨_, rfl, Nat.zero_le _, f1 ++ [D], st1 ++ [.dic []], [], .refl, s0, by unfold Pd.rdD; simp, by simpa using q1⟩, ?_⟩
  rintro i m H2 ⟨rfl, hi, f2, st2, acc, e2, s2, hacc, q2⟩
  have eI : Ext K f1 H1 f2 H2 := e0.trans e2
  by_cases hlt : i < I.items.length
  · have hd : I.items.drop i = I.items[i] :: I.items.drop (i + 1) := by rw [List.drop_eq_getElem_cons hlt]
    rw [hd] at q2
    obtain ⟨gd, q2⟩ := q2
    refine .inr ⟨rI.go i f2 st2 H2 eI s2 gd hlt, fun H3 => ∃ f3 st3 acc', Ext K (f1 ++ [D]) (L2.upd H1 D (.dK [])) f3 H3 ∧ RelS K f3 st3 H3 ∧ Pd.rdD st3 st1.length acc' ∧ dcLoop I.guard g tt tk tv (wipeE ρ vs) st1.length Q' (I.items.drop (i + 1)) acc' st3,
      fun H3 q3 => ⟨I.items.length - (i + 1), by omega, rfl, hlt, q3⟩, fun x H3 y => ?_⟩
    obtain ⟨e3, s3, r3⟩ := rI.yld i f2 st2 H2 I.items[i] x H3 eI s2 gd (by simp [hlt]) y
    have R3 : Rel K f2 (wipeE ρ vs) st2 (L2.wipe σ vs) H3 := (Rel.wipe R).later ((e1.trans eI).trans e3) s3
    refine ⟨f2, _, st2, I.items[i], _, R3, r3, q2, fun ρ4 st4 σ4 f4 H4 q4 e4 R4 o4 => ⟨Out.wipe ⟨o4.1, fun j hj => o4.2 j fun z => hj (hws j z)⟩, ?_⟩⟩
    refine ⟨f4, ρ4, st4, _, R4, q4, fun b st5 f5 H5 q5 e5 s5 => ?_⟩
    have e15 := e2.trans (e3.trans (e4.trans e5))
    cases b with
    | false =>
      obtain ⟨h1, h2⟩ := q5.2 rfl
      exact ⟨f5, st5, acc, e15, s5, h1, h2⟩
    | true =>
      refine ⟨f5, ρ4, st5, _, R4.later e5 s5, q5.1 rfl, fun y st6 v f6 H6 q6 e6 s6 r6 => ⟨f6, ρ4, st6, _, R4.later (e5.trans e6) s6, q6, fun z st7 w f7 H7 q7 e7 s7 r7 => ?_⟩⟩
      obtain ⟨k, rfl, h1, h2, h3⟩ := q7
      have e17 := (e15.trans e6).trans e7
      obtain ⟨a', ks, k1, k2, k3, k4⟩ := s7.rdD h1
      rw [e17.at hn0] at k1; cases k1
      obtain ⟨p1, p2⟩ := put_at (k := k) r7 k3 k4
      obtain ⟨s8, e8⟩ := s7.putDic (e17.at hn0) h1 k2 p1 p2
      obtain rfl := keyD_V r6
      have hlen : ks.length < sizeLine := by
        have := congrArg List.length k3
        simp at this
        rw [this, ← szl_eq]; exact h2
      refine ⟨ks, k, rfl, k2, hlen, f7, _, putD acc k z, e17.trans e8, s8, ?_, h3⟩
      have hl : st1.length < st7.length := (List.getElem?_eq_some_iff.mp h1).1
      unfold Pd.rdD
      rw [List.getElem?_set_self hl]
  · have e : i = I.items.length := by omega
    subst e
    rw [List.drop_length] at q2
    obtain ⟨gd, h1, h2⟩ := q2
    exact .inl ⟨rI.stop f2 st2 H2 eI s2 gd, l _ st2 _ f2 H2 h2 (e1.trans eI) s2 (RD.ref.mpr ⟨D, e2.at hn0, rfl⟩)⟩
theorem pd_dc {kx vx tg iter : Expr} {ifs : List Expr} {scope : Scope} {own : List (Str × Nat)} {wi : TI} {g : TG} {tt : TT} {tk tv : TE} {ws : List Nat} (hc : X.calm = true) (hN : X.N.Nodup) (hi : PDI X tg iter wi) (ok : L2.BlkOk X.N X.env.scope scope own)
    (hg : ∀ (s : Shared) (H : Hp) (C : Addr) (cl : List (Str × Addr)) (fp : List Addr), PDG (X.blk s H scope (compEnvC scope cl C X.env) fp) tg g ws) (ht : ∀ (s : Shared) (H : Hp) (C : Addr) (cl : List (Str × Addr)) (fp : List Addr), PDTs (X.blk s H scope (compEnvC scope cl C X.env) fp) ifs tt)
    (hk : ∀ (s : Shared) (H : Hp) (C : Addr) (cl : List (Str × Addr)) (fp : List Addr), PD (X.blk s H scope (compEnvC scope cl C X.env) fp) kx tk) (he : ∀ (s : Shared) (H : Hp) (C : Addr) (cl : List (Str × Addr)) (fp : List Addr), PD (X.blk s H scope (compEnvC scope cl C X.env) fp) vx tv)
    (hws : ∀ j, j ∈ ws → j ∈ own.map (·.2)) (hs : ∀ x, foldedSetIterable iter X.env x = pure x := by intro _; rfl) :
    PD X (.DictComp kx vx [⟨tg, iter, ifs, 0⟩] scope pos) (dDc wi g tt tk tv (own.map (·.2))) :=
  pe_imp (L2.pe_dc hc hN hi ok hg ht hk he hs) fun σ H Q h => dc_core hws h
end
end
section
open PySem.W PyProof.Rows
/-- the int that a key is -/
theorem int_key {i : Int} {v : Value} (h : L2.keyIs (.inl i) v = true) : ∃ t, v = .int i t := by
  rcases L2.keyIs_shape h with ⟨j, t, e1, e2⟩ | ⟨x, t, e1, _⟩
  · cases e1; exact ⟨t, e2⟩
  · cases e1
theorem ints_keys : ∀ {vs : List Value} {ns : List Int}, vs.length = ns.length → (∀ (j : Nat) (v : Value) (i : Int), vs[j]? = some v → ns[j]? = some i → ∃ t, v = .int i t) → IntsAre vs ns
  | [], [], _, _ => .nil
  | [], _ :: _, h, _ => by simp at h
  | _ :: _, [], h, _ => by simp at h
  | v :: vs, i :: ns, h, g => by
    obtain ⟨t, rfl⟩ := g 0 v i rfl rfl
    exact .cons i t (ints_keys (by simpa using h) fun j v i h1 h2 => g (j + 1) v i (by simpa using h1) (by simpa using h2))
theorem kv_keys {ks : List (L2.Key × L2.V)} {xs : List (L2.Key × Value)} (h : L2.KV ks xs) : xs.map (·.1) = ks.map (·.1) := by
  induction h with
  | nil => rfl
  | cons p _ ih => rw [List.map_cons, List.map_cons, ih, p.1]
def rSortedDK : List L2.V → Hp → L2.VK → Prop := fun vs H Q => ∃ (a : Addr) (ks : List (L2.Key × L2.V)) (ns : List Int), vs = [L2.V.ref a] ∧ H a = some (.dK ks) ∧ ks.map (·.1) = ns.map Sum.inl ∧
  ∀ (ns' : List Int) (p : Addr), ns'.Perm ns → ns'.Pairwise (· ≤ ·) → H p = none → Q (.ref p) (L2.upd H p (.lst (ns'.map L2.V.int)))
theorem cr_sortedDK {X : L2.Cx} (hc : X.calm = true) : L2.CallR X (.builtin "sorted") rSortedDK := by
  intro pins s σ H vs us Q I r h
  obtain ⟨a, ks, ns, rfl, ha, hk, q⟩ := h
  have held := I.ok.hd hc
  rw [L2.Vals.ref1 r]
  obtain ⟨size, other, xs, rel, dict⟩ := L2.dk_rd I.hok (.inl ha)
  obtain ⟨ep, there⟩ := dict.dictAt
  have keys := (kv_keys rel).trans hk
  have many : xs.length = ns.length := by simpa using congrArg List.length keys
  have few : xs.length ≤ sizeLine := by
    have := congrArg List.length (kv_keys rel)
    simp at this
    omega
  have source := kdl_dict (prog := X.prog) (w := X.w) (knd := L2.mixKind X.prog X.w) (d := a) (kvs := xs) (ep := ep) other
  refine Calls.call_function_entry kind_sorted plain_sorted entry_sorted (args_sorted1 _) ?_
  unfold Builtin.«sorted»
  refine wpAny_bind (m := checkCount "sorted" 1 1 _) (wpAny_pure (wpAny_bind (kdu_collect (A := X.A.in1) source held there few fun h1 t1 acc old items => ?_)))
  have long : acc.toList.length = xs.length := by rw [Array.length_toList]; exact items.1
  have nums : IntsAre acc.toList ns := ints_keys (by rw [long, many]) fun j v i hv hi => by
    obtain ⟨k, x, hx, is⟩ := items.2 j v (by rw [← Array.getElem?_toList]; exact hv)
    have e : (xs.map (·.1))[j]? = some k := by rw [List.getElem?_map, hx]; rfl
    rw [keys, List.getElem?_map, hi] at e
    cases e
    exact int_key is
  refine wpAny_bind (wpAny_newList ?_ (by rw [long]; exact few))
  have made : (h1.push (seqObj "list" acc.toList.toArray 0)).get? h1.objs.size = some (seqObj "list" acc.toList.toArray 0) := Heap.get?_push_size _ rfl
  have sort := SrtO.list_sort_ord (prog := X.prog) (w := X.w) (A := X.A.in1.in1) (s := { s with heap := h1.push (seqObj "list" acc.toList.toArray 0), toks := t1 }) (E := X.xe) (vs := acc.toList)
    (R := fun fin s' => ∃ out : List Value, fin = .done (.ret .none) ∧ SrtO.Srtd SrtO.ltIv out ∧ SrtO.Stb SrtO.ltIv out acc.toList ∧ s' = { s with heap := sortedHeap (h1.push (seqObj "list" acc.toList.toArray 0)) h1.objs.size acc.toList out.toArray, toks := t1 })
    SrtO.swo_int made (by rw [long]; exact few) (fun two => SrtO.ints_sortable nums two) fun out g1 g2 => ⟨out, rfl, g1, g2, rfl⟩
  refine wpAny_bind (wpAny_holding (wpAny_call_entry slot_list_sort ⟨_, made, rfl⟩ entry_list_sort (wpAny_mono sort (fun fin s' ⟨out, e1, g1, g2, e2⟩ => ?_) fun _ _ z => z) (args_list_sort _)))
  subst e1; subst e2
  refine ⟨_, rfl, wpAny_pure ⟨_, rfl, ?_⟩⟩
  obtain ⟨k1, k2, k3⟩ := SrtO.ints_out nums g1 g2
  obtain ⟨ep', at'⟩ := sortedHeap_at (vs := acc.toList) (out := out.toArray) made
  have I1 : L2.Inv X pins σ H { s with heap := h1, toks := t1 } := I.kept (t' := t1) old
  have small : ((out.map SrtO.iv).map L2.V.int).length ≤ sizeLine := by
    rw [List.length_map, k2.length_eq, ← many]; exact few
  refine ⟨.ref h1.objs.size, L2.upd H h1.objs.size (.lst ((out.map SrtO.iv).map L2.V.int)), I1.laid (t' := t1) (fun b u z1 => ?_) (Nat.le_refl _) ⟨small, out, ep', L2.vals_of_ints k1, at'⟩, rfl, q _ _ k2 k3 (I1.hok.fresh (Nat.le_refl _))⟩
  have z2 := Heap.lt_size z1
  rw [sortedHeap_old (Nat.ne_of_lt z2) (by rw [size_push']; exact Nat.lt_succ_of_lt z2)]
  exact Heap.get?_push_of_some _ z1
theorem real_sortedDB {K : Kf} : RealB K rSortedDK sortedDB :=
  realB1 (kb1 (fun _ _ h => h) fun x y xs st Q h => by cases x <;> exact h) fun f st H x v Q' Q s r h l => by
    cases x <;> try (exact h.elim)
    rw [RD.ref] at r
    obtain ⟨a, e, rfl⟩ := r
    obtain ⟨kvs, ns, h1, h2, h3⟩ := h
    obtain ⟨a', ks, k1, k2, k3, k4⟩ := s.rdD h1
    rw [e] at k1; cases k1
    exact ⟨a, ks, ns, rfl, k2, k3.trans h2, fun ns' p hp hi hn => l.lst s (h3 ns' hp hi) (RDs.of_ints ns') hn⟩
end
section
variable {X : L2.Cx} {K : Kf} {pos : Pos}
open L2 in
/-- y = {k: v for ..}: the name is written within the comprehension's frame -/
theorem asg_dc {i : Nat} {y : Str} {py line : Pos} {kx vx tg iter : Expr} {ifs : List Expr} {scope : Scope} {own : List (Str × Nat)} {wi : L2.TI} {g : L2.TG} {tt : L2.TT} {tk tv : L2.TE} (calm : X.calm = true) (nd : X.N.Nodup) (slot : X.N[i]? = some y) (local' : X.env.scope.names.lookup y = some .local)
    (sw : swapsWith (.DictComp kx vx [⟨tg, iter, ifs, 0⟩] scope pos) (some (.Name y py)) line.line X.env = pure true) (hi : L2.PI X tg iter wi) (ok : L2.BlkOk X.N X.env.scope scope own)
    (hg : ∀ (s : Shared) (H : Hp) (C : Addr) (cl : List (Str × Addr)) (fp : List Addr), L2.PG (X.blk s H scope (compEnvC scope cl C X.env) fp) tg g)
    (ht : ∀ (s : Shared) (H : Hp) (C : Addr) (cl : List (Str × Addr)) (fp : List Addr), L2.PTs (X.blk s H scope (compEnvC scope cl C X.env) fp) ifs tt)
    (hk : ∀ (s : Shared) (H : Hp) (C : Addr) (cl : List (Str × Addr)) (fp : List Addr), L2.PE (X.blk s H scope (compEnvC scope cl C X.env) fp) kx tk)
    (hv : ∀ (s : Shared) (H : Hp) (C : Addr) (cl : List (Str × Addr)) (fp : List Addr), L2.PE (X.blk s H scope (compEnvC scope cl C X.env) fp) vx tv) (fold : ∀ x, foldedSetIterable iter X.env x = pure x := by intro _; rfl) :
    L2.PS X (.Assign [.Name y py] (.DictComp kx vx [⟨tg, iter, ifs, 0⟩] scope pos) line) (fun D σ H => L2.tDc wi g tt tk tv (own.map (·.2)) σ H fun x H1 => L2.gName i x σ H1 D.nx) := by
  constructor
  intro pins s σ H D I want
  rw [exec_Assign_Name_used _ _ _ _ sw]
  have made := L2.dc_core (pos := pos) (use := some (assign (.Name y py) X.env)) (pos' := firstIterPos [⟨tg, iter, ifs, 0⟩] pos) (Qf := fun _ s' => L2.SP X pins D .next s') calm nd I hi ok hg ht hk hv fold want fun L C s1 m H1 I1 at' ns ⟨fr0, fr1, fr2, fr3, fr4, fr5⟩ => by
    show wpAny _ _ (assign (.Name y py) X.env (.ref L)) _ _ _
    refine wpAny_assign_Name (L2.store_ok2 (v := L2.V.ref L) I1 nd slot (.inl local') rfl (fun s2 I2 ⟨b, same, where'⟩ => ?_) (.inr local'))
    have apart : C ≠ b := where'.elim (fun z => by rw [z]; exact fr1) fun z e => fr4 y b z e.symm
    exact ⟨m, ns.sameBut same apart, fun h3 sb3 => ⟨_, H1, I2.turned (t' := s2.toks) (fun c o hc z => (sb3.2 c hc).trans z) fr0 fr1 fr3 fr4 fr5, at'⟩⟩
  refine wpAny_bind (wpAny_standAt (wpAny_bind ?_))
  show wpAny _ X.A (comprehension (.DictComp kx vx [⟨tg, iter, ifs, 0⟩] scope pos) scope X.env (firstIterPos [⟨tg, iter, ifs, 0⟩] pos) newDict false (eval iter X.env) (some (assign (.Name y py) X.env)) >>= fun _ => pure ()) _ _ s
  exact wpAny_bind (wpAny_mono made (fun _ s' q => wpAny_pure (wpAny_pure q)) fun _ _ z => z)
theorem swD_true {kx vx : Expr} {gs : List Comprehension} {scope : Scope} {py : Pos} {y : Str} {l : Nat} {env : PySem.Env} (kind : env.scope.kind = .function) (loc : env.scope.names.lookup y = some .local) (at' : (py.line == pos.line) = true)
    (free : (scope.names.any fun (n, k) => n == y && (k == .local || k == .cell)) = false) : swapsWith (.DictComp kx vx gs scope pos) (some (.Name y py)) l env = pure true := by
  have k1 : env.kindOf y = some .local := loc
  have k2 : env.blockKind = .function := by unfold PySem.Env.blockKind; rw [kind]; rfl
  unfold swapsWith
  simp only [k1, k2, free, Expr.pos, at']
  rfl
theorem ps_setDc {j : Nat} {y : Str} {py spos : Pos} {kx vx tg iter : Expr} {ifs : List Expr} {scope : Scope} {own : List (Str × Nat)} {wi : TI} {g : TG} {tt : TT} {tk tv : TE} {ws : List Nat} (hc : X.calm = true) (hN : X.N.Nodup) (hy : X.N[j]? = some y) (hyl : X.env.scope.names.lookup y = some .local)
    (hsw : swapsWith (.DictComp kx vx [⟨tg, iter, ifs, 0⟩] scope pos) (some (.Name y py)) spos.line X.env = pure true) (hi : PDI X tg iter wi) (ok : L2.BlkOk X.N X.env.scope scope own)
    (hg : ∀ (s : Shared) (H : Hp) (C : Addr) (cl : List (Str × Addr)) (fp : List Addr), PDG (X.blk s H scope (compEnvC scope cl C X.env) fp) tg g ws) (ht : ∀ (s : Shared) (H : Hp) (C : Addr) (cl : List (Str × Addr)) (fp : List Addr), PDTs (X.blk s H scope (compEnvC scope cl C X.env) fp) ifs tt)
    (hk : ∀ (s : Shared) (H : Hp) (C : Addr) (cl : List (Str × Addr)) (fp : List Addr), PD (X.blk s H scope (compEnvC scope cl C X.env) fp) kx tk) (he : ∀ (s : Shared) (H : Hp) (C : Addr) (cl : List (Str × Addr)) (fp : List Addr), PD (X.blk s H scope (compEnvC scope cl C X.env) fp) vx tv)
    (hws : ∀ j, j ∈ ws → j ∈ own.map (·.2)) (hs : ∀ x, foldedSetIterable iter X.env x = pure x := by intro _; rfl) :
    PDS X (.Assign [.Name y py] (.DictComp kx vx [⟨tg, iter, ifs, 0⟩] scope pos) spos) (sAsg (dDc wi g tt tk tv (own.map (·.2))) (gName j)) :=
  ps_imp (asg_dc hc hN hy hyl hsw hi ok hg ht hk he hs) fun D σ H ⟨f, ρ, st, D', R, h, l⟩ =>
    dc_core (Q := fun x H1 => L2.gName j x σ H1 D.nx) hws ⟨f, ρ, st, _, R, h, fun x st1 v f1 H1 q e1 s1 r1 => l.nx _ st1 _ f1 H1 q e1 ((R.later e1 s1).put r1)⟩
end
end Pd
end PartPdSoundI

section PartPdMore3
set_option Elab.async false
set_option linter.all false
set_option maxRecDepth 100000
/-! Pd: more readings: list.extend of lists and tuples, list.pop(), list.reverse(), range downwards. Own work. -/
namespace Pd
open PySem
/-- extend by a list or a tuple -/
def extendAM : KM
  | .ref n, [.tup ys], st, Q => ∃ xs, rdL st n xs ∧ xs.length + ys.length ≤ szl ∧ Q .non (st.set n (.lst (xs ++ ys)))
  | x, ys, st, Q => extendM x ys st Q
/-- .pop() -/
def popEM : KM
  | .ref n, [], st, Q => ∃ xs d, rdL st n (xs ++ [d]) ∧ Q d (st.set n (.lst xs))
  | _, _, _, _ => False
def reverseM : KM
  | .ref n, [], st, Q => ∃ xs, rdL st n xs ∧ Q .non (st.set n (.lst xs.reverse))
  | _, _, _, _ => False
/-- a method without arguments -/
def dM0 (ty : D → Store → Prop) (k : KM) (to : TE) : TE := fun σ st Q => to σ st fun o st1 => ty o st1 ∧ k o [] st1 Q
def rngD (hi : Int) (n : Nat) : List D := (List.range n).map fun (k : Nat) => D.int (hi - k)
/-- range(i, j, -1) -/
def iRD (t u : TE) : TI := fun σ st R => t σ st fun x st1 => u σ st1 fun y st2 => ∃ i j, x = .int i ∧ y = .int j ∧ (-(2 ^ 62) ≤ i ∧ i < 2 ^ 62 ∧ -(2 ^ 62) ≤ j ∧ j < 2 ^ 62) ∧ R ⟨rngD i (i - j).toNat, fun _ => True⟩ st2
section
variable {σ : Env} {st : Store} {Q : K} {ta tb to : TE} {ty : D → Store → Prop} {k : KM}
instance : Red (dM0 ty k to σ st Q) (to σ st fun o st1 => ty o st1 ∧ k o [] st1 Q) := ⟨id⟩
instance {R : Iter → Store → Prop} : Red (iRD ta tb σ st R) (ta σ st fun x st1 => tb σ st1 fun y st2 => ∃ i j, x = .int i ∧ y = .int j ∧ (-(2 ^ 62) ≤ i ∧ i < 2 ^ 62 ∧ -(2 ^ 62) ≤ j ∧ j < 2 ^ 62) ∧ R ⟨rngD i (i - j).toNat, fun _ => True⟩ st2) := ⟨id⟩
end
theorem extendT_at {st : Store} {n : Nat} {xs ys : List D} {Q : K} (h : rdL st n xs) (hl : xs.length + ys.length ≤ szl) (q : Q .non (st.set n (.lst (xs ++ ys)))) : extendAM (.ref n) [.tup ys] st Q := ⟨xs, h, hl, q⟩
theorem pop_at {st : Store} {n : Nat} {xs : List D} {d : D} {Q : K} (h : rdL st n (xs ++ [d])) (q : Q d (st.set n (.lst xs))) : popEM (.ref n) [] st Q := ⟨xs, d, h, q⟩
/-- over range(i, j, -1) -/
theorem for_rngD {gd : Store → Prop} {g : TG} {tb : TS} {D0 : Ends} {hi : Int} {n : Nat} {σ : Env} {st : Store} (Pv : Nat → Env → Store → Prop) (h0 : Pv 0 σ st)
    (hs : ∀ k σ st, k < n → Pv k σ st → ∀ N : Env → Store → Prop, (∀ σ st, Pv (k + 1) σ st → N σ st) → gd st ∧ g (.int (hi - k)) σ st fun σ2 st2 => tb { D0 with nx := N, ct := N, bk := D0.nx } σ2 st2)
    (hd : ∀ σ st, Pv n σ st → gd st ∧ D0.nx σ st) : forLoop gd g tb D0 (rngD hi n) σ st := by
  refine for_by (fun pre σ st => Pv pre.length σ st) h0 (fun pre x post σ st e h N hN => ?_) (fun σ st h => hd σ st (by simpa [rngD] using h))
  have hl : pre.length < n := by
    have := congrArg List.length e
    simp [rngD] at this
    omega
  have hx : x = .int (hi - pre.length) := by
    have h2 : (rngD hi n)[pre.length]? = some x := by rw [e]; simp
    unfold rngD at h2
    rw [List.getElem?_map, List.getElem?_range hl] at h2
    simpa using h2.symm
  subst hx
  exact hs pre.length σ st hl h N fun σ st h' => hN σ st (by simpa using h')
end Pd
end PartPdMore3

section PartPdSoundK
set_option Elab.async false
set_option linter.all false
set_option maxRecDepth 100000
set_option maxHeartbeats 1000000
/-! Pd over the hand layer: list.extend, list.pop(), list.reverse(), range downwards. Own work. -/
namespace Pd
open PySem PySem.Spec
section
variable {X : L2.Cx} {K : Kf} {f f' : List Addr} {H H' : Hp} {st st' : Store} {ρ : Env} {σ : L2.St}
def rExtT (K : Kf) : L2.V → List L2.V → Hp → L2.VK → Prop := fun x vs H Q => ∃ l b xs zs, x = .ref l ∧ vs = [.ref b] ∧ H l = some (.lst xs) ∧ L2.SqT K H b zs ∧ xs.length + zs.length ≤ sizeLine ∧ Q .non (L2.upd H l (.lst (xs ++ zs)))
section
open PyProof.Rows L2
theorem list_extend_tup (l : Addr) (items : Array Value) (n : Nat) (b : Addr) (items2 : Array Value) (hs0 : ¬(!items.isEmpty && Builtin.List.listTooLong (items.size + items2.size)) = true) (hs1 : items.size ≤ sizeLine) (hs2 : items.size + items2.size ≤ sizeLine + 1) :
    Meets (Builtin.«list.extend» ⟨[.ref l, .ref b], []⟩) (fun _ R s => s.heap.get? l = some { cls := .type "list", dict := none, data := .seq items n, slots := #[] } ∧ (∃ (od : Option Addr) (os2 : Array (Option Value)) (n2 : Nat), s.heap.get? b = some { cls := .type "tuple", dict := od, data := .seq items2 n2, slots := os2 }) ∧ R (.ok (.ret Value.none)) { s with heap := s.heap.update l (Obj.mapSeq fun x => x ++ items2), toks := s.toks }) :=
  .of_wp fun prog w A R s h => by
    obtain ⟨hp, g, d, tk, os⟩ := s; obtain ⟨hl, ⟨od, os2, n2, hb⟩, h⟩ := h
    have f1 := AutoSeq1.idx_int; have f2 := AutoSeq1.sub_tuple_tuple; have f3 := AutoSeq1.sub_list_list; have f4 := AutoSeq1.sub_tuple_list; have f5 := AutoSeq1.sub_list_tuple
    have hz' : (items ++ items2).size ≤ sizeLine + 1 := by rw [Array.size_append]; exact hs2
    wp_walk using (wpAny_updateSeq hl rfl (hz := hs1) (_hz' := hz')), AutoSeq1.wpAny_loadPart' hl, AutoSeq1.wpAny_loadPart' hb; exact ⟨_, rfl, h⟩
end
theorem mt_extT : L2.MtR X "list.extend" (rExtT X.K) := by
  intro pins s σ H x vs v us Q I rx rv h
  obtain ⟨l, b, xs, zs, rfl, rfl, hH, hB, hz, q⟩ := h
  cases rx
  obtain ⟨u, rfl, ru⟩ := rv.one
  cases ru
  obtain ⟨z, its, n, r, hl, e⟩ := I.lstM hH
  obtain ⟨its2, r2, ⟨o2, e2, c2, n2, d2⟩, z2⟩ := I.tuple hB
  have hl2 := r2.length
  obtain ⟨ocls, odict, odata, oslots⟩ := o2
  simp only at c2 d2
  subst c2; subst d2
  have hsz : its.toArray.size + its2.toArray.size ≤ sizeLine := by rw [List.size_toArray, List.size_toArray]; omega
  have hlong : ¬ (!its.toArray.isEmpty && Builtin.List.listTooLong (its.toArray.size + its2.toArray.size)) = true := by
    rw [L2.notLongL hsz, Bool.and_false]
    exact Bool.false_ne_true
  refine call_meets F.slot_list_extend ⟨_, e, rfl⟩ F.entry_list_extend (F.args_list_extend_2 _ _)
    (list_extend_tup l its.toArray n b its2.toArray hlong (by rw [List.size_toArray]; omega) (by omega)) ⟨e, ⟨odict, oslots, n2, e2⟩, ?_⟩
  refine ⟨.non, _, I.lset (its' := its ++ its2) hH e (by simp) (r.append r2) ?_, rfl, q⟩
  rw [List.length_append]
  omega
theorem real_extendA : RealM K (fun x vs H Q => rExtT K x vs H Q ∨ L2.rExtend x vs H Q) extendAM := fun f st H x xs v vs Q' Q s r1 r2 h l => by
  by_cases ht : ∃ n ys, x = .ref n ∧ xs = [.tup ys]
  · obtain ⟨n, ys, rfl, rfl⟩ := ht
    obtain ⟨zs, h1, h2, h3⟩ := h
    rw [RD.ref] at r1
    obtain ⟨a, e, rfl⟩ := r1
    obtain ⟨w, rfl, r3⟩ := r2.inv1
    rw [RD.tup] at r3
    obtain ⟨b, ws, rfl, j2, j3⟩ := r3
    obtain ⟨a', us, k1, k2, k3⟩ := s.rdL h1
    rw [e] at k1; cases k1
    obtain ⟨s', e'⟩ := s.put e h1 k2 (k3.append j3)
    exact .inl ⟨a, b, us, ws, rfl, rfl, k2, j2, by rw [k3.length, j3.length, ← szl_eq]; exact h2, l _ _ _ f _ h3 e' s' (RD.non.mpr rfl)⟩
  · have h' : extendM x xs st Q' := by
      unfold extendAM at h
      split at h
      · exact absurd ⟨_, _, rfl, rfl⟩ ht
      · exact h
    exact .inr (real_extend f st H x xs v vs Q' Q s r1 r2 h' l)
theorem mt_extendA : L2.MtR X "list.extend" (fun x vs H Q => rExtT X.K x vs H Q ∨ L2.rExtend x vs H Q) := L2.MtR.or mt_extT L2.mt_extend
theorem real_popE : RealM K L2.rPop popEM := fun f st H x xs v vs Q' Q s r1 r2 h l => by
  cases x <;> try (exact h.elim)
  match xs, h with
  | _ :: _, h => exact h.elim
  | [], h =>
    obtain ⟨ys, d, h1, h2⟩ := h
    rw [RD.ref] at r1
    obtain ⟨a, e, rfl⟩ := r1
    rw [RDs.nil] at r2
    subst r2
    obtain ⟨a', us, k1, k2, k3⟩ := s.rdL h1
    rw [e] at k1; cases k1
    have hlen := k3.length
    rw [List.length_append] at hlen
    have hlen : us.length = ys.length + 1 := hlen
    obtain ⟨w, hw, rw'⟩ := k3.get (i := ys.length) (d := d) (by simp)
    have kd : RDs K f H ys us.dropLast := by
      have := k3.take ys.length
      rw [List.take_left] at this
      rw [List.dropLast_eq_take, hlen]
      exact this
    obtain ⟨s', e'⟩ := s.put e h1 k2 kd
    exact ⟨a, us, w, rfl, rfl, k2, by rw [hlen]; exact hw, l _ _ _ f _ h2 e' s' (rw'.mono e')⟩
theorem RDs.reverse : ∀ {ds : List D} {vs : List L2.V}, RDs K f H ds vs → RDs K f H ds.reverse vs.reverse
  | [], _, h => by rw [RDs.nil] at h; subst h; simp [RDs.nil]
  | d :: ds, _, h => by
    rw [RDs.cons] at h
    obtain ⟨v, r, rfl, h2, h3⟩ := h
    rw [List.reverse_cons, List.reverse_cons]
    exact (RDs.reverse h3).append (RDs.one h2)
theorem real_reverse : RealM K L2.rReverse reverseM := fun f st H x xs v vs Q' Q s r1 r2 h l => by
  cases x <;> try (exact h.elim)
  match xs, h with
  | _ :: _, h => exact h.elim
  | [], h =>
    obtain ⟨ys, h1, h2⟩ := h
    rw [RD.ref] at r1
    obtain ⟨a, e, rfl⟩ := r1
    rw [RDs.nil] at r2
    subst r2
    obtain ⟨a', us, k1, k2, k3⟩ := s.rdL h1
    rw [e] at k1; cases k1
    obtain ⟨s', e'⟩ := s.put e h1 k2 k3.reverse
    exact ⟨a, us, rfl, rfl, k2, l _ _ _ f _ h2 e' s' (RD.non.mpr rfl)⟩
section
variable {o : Expr} {to : TE} {pos apos : Pos} {name : Str} {T id : String}
theorem pd_m0 {r : L2.V → List L2.V → Hp → L2.VK → Prop} {k : KM} {ty : D → Store → Prop} (hm : L2.MtR X id r) (hk : RealM X.K r k) (ht : RealTy X.K T ty) (pa : PlainAttrs T) (slot : Slot T name id) (hty : typeOf (.builtin id) = pure (.type "method_descriptor")) (ho : PD X o to)
    (hbase : attributeBase o name X.env (eval o X.env) = eval o X.env := by rfl) (hline : (apos.endLine == pos.line) = true := by rfl) : PD X (.Call (.Attribute o name apos) [] [] pos) (dM0 ty k to) :=
  pe_imp (L2.pe_bm0 pa slot hty hm ho hbase hline) fun σ H Q ⟨f, ρ, st, Q', R, h, l⟩ => ⟨f, ρ, st, _, R, h, fun x st1 v f1 H1 q1 e1 s1 r1 => ⟨ht f1 st1 H1 x v s1 r1 q1.1, hk f1 st1 H1 x [] v [] Q' Q s1 r1 (RDs.nil.mpr rfl) q1.2 (l.later e1)⟩⟩
end
theorem realI_rngD {i : Int} {n : Nat} : RealI K f H ⟨rngD i n, fun _ => True⟩ (L2.Itc i (-1) n) where
  go := fun k f2 st2 H2 e2 s2 g hk => by
    have : k < (rngD i n).length := hk
    unfold rngD at this
    rw [List.length_map, List.length_range] at this
    exact this
  stop := fun f2 st2 H2 e2 s2 g => by
    show n ≤ (rngD i n).length
    unfold rngD
    simp
  yld := fun k f2 st2 H2 d x H3 e2 s2 g hd y => by
    obtain ⟨rfl, rfl⟩ := y
    refine ⟨.refl, s2, ?_⟩
    have hd' : (rngD i n)[k]? = some d := hd
    unfold rngD at hd'
    rw [List.getElem?_map] at hd'
    cases q : (List.range n)[k]? with
    | none => rw [q] at hd'; cases hd'
    | some j =>
      rw [q] at hd'
      obtain ⟨h1, h2⟩ := List.getElem?_eq_some_iff.mp q
      simp at h2
      subst h2
      simp at hd'
      subst hd'
      rw [RD.int]
      congr 1
      omega
theorem pi_rD {tg a b : Expr} {ta tb : TE} {p p1 p2 pos : Pos} {k1 : _} (hg : L2.Gl X "range") (hm : X.mg "range" = none) (h : PD X a ta) (h' : PD X b tb)
    (hs : starEach [a, b, .UnaryOp .USub (.Constant (.int 1) k1 p1) p2] X.env = (false, eval a X.env) :: starEach [b, .UnaryOp .USub (.Constant (.int 1) k1 p1) p2] X.env := by rfl) (hs2 : starEach [b, .UnaryOp .USub (.Constant (.int 1) k1 p1) p2] X.env = (false, eval b X.env) :: starEach [.UnaryOp .USub (.Constant (.int 1) k1 p1) p2] X.env := by rfl)
    (hs3 : starEach [.UnaryOp .USub (.Constant (.int 1) k1 p1) p2] X.env = (false, eval (.UnaryOp .USub (.Constant (.int 1) k1 p1) p2) X.env) :: starEach [] X.env := by rfl) (hpl : (backTo pos (starEach [b, .UnaryOp .USub (.Constant (.int 1) k1 p1) p2] X.env)).any (·.1) = false := by rfl) :
    PDI X tg (.Call (.Name "range" p) [a, b, .UnaryOp .USub (.Constant (.int 1) k1 p1) p2] [] pos) (iRD ta tb) :=
  pi_imp (L2.pi_range3 hg hm (L2.pa_cons h (L2.pa_cons h' (L2.pa_cons (pd_neg pd_int) L2.pa_nil hs3) hs2) hs) hs hpl) fun σ H R ⟨f, ρ, st, R', Re, h, l⟩ => ⟨f, ρ, st, _, Re, h, fun x st1 v f1 H1 q1 e1 s1 r1 => ⟨f1, ρ, st1, _, Re.later e1 s1, q1, fun y st2 w f2 H2 q2 e2 s2 r2 => by
    obtain ⟨i, j, rfl, rfl, ⟨b1, b2, b3, b4⟩, h3⟩ := q2
    have r1' := r1.mono e2
    rw [RD.int] at r1' r2
    subst r1'; subst r2
    refine ⟨f2, ρ, st2, fun z st3 => z = .int (-1) ∧ st3 = st2, Re.later (e1.trans e2) s2, ⟨rfl, rfl⟩, fun z st3 u f3 H3 q3 e3 s3 r3 => ?_⟩
    obtain ⟨rfl, rfl⟩ := q3
    rw [RD.int] at r3
    subst r3
    exact ⟨i, j, -1, _, rfl, L2.RgC.neg b1 b2 b3 b4, l _ _ _ f3 H3 h3 ((e1.trans e2).trans e3) s3 realI_rngD⟩⟩⟩
end
end Pd
end PartPdSoundK

section PartPdMore4
set_option Elab.async false
set_option linter.all false
set_option maxRecDepth 100000
/-! Pd: more readings: *x in a call's arguments, `in` of any pure data. Own work. -/
namespace Pd
open PySem
/-- the items of a list or a tuple, as arguments -/
def starK : D → Store → (List D → Prop) → Prop
  | .tup xs, _, Q => Q xs
  | .ref n, st, Q => ∃ xs, rdA st n xs ∧ Q xs
  | _, _, _ => False
def aStar (te : TE) (r : TA) : TA := fun σ st Q => te σ st fun x st1 => starK x st1 fun xs => r σ st1 fun ys st2 => Q (xs ++ ys) st2
/-- x in a list or a tuple, of any pure data -/
def inDC : KC
  | x, .tup xs, _, Q => D.okd 60 x = true ∧ okds 60 xs = true ∧ Q (xs.any fun y => D.eqb y x)
  | x, .ref n, st, Q => ∃ xs, rdA st n xs ∧ D.okd 60 x = true ∧ okds 60 xs = true ∧ Q (xs.any fun y => D.eqb y x)
  | _, _, _, _ => False
def notinDC : KC := fun x y st Q => inDC x y st fun b => Q (!b)
section
variable {σ : Env} {st : Store} {te : TE} {r : TA} {q : List D → Store → Prop} {x : D} {xs : List D}
instance : Red (aStar te r σ st q) (te σ st fun x st1 => starK x st1 fun xs => r σ st1 fun ys st2 => q (xs ++ ys) st2) := ⟨id⟩
instance {Q : List D → Prop} : Red (starK (.tup xs) st Q) (Q xs) := ⟨id⟩
end
theorem star_at {st : Store} {n : Nat} {xs : List D} {Q : List D → Prop} (h : rdL st n xs) (q : Q xs) : starK (.ref n) st Q := ⟨xs, .inl h, q⟩
end Pd
end PartPdMore4

section PartPdSoundL
set_option Elab.async false
set_option linter.all false
set_option maxRecDepth 100000
set_option maxHeartbeats 1000000
/-! Pd over the hand layer: starred arguments, `in` of any pure data. Own work. -/
namespace Pd
open PySem PySem.Spec
mutual
theorem reads_fun {h : Heap} : ∀ (d d' : PyData) (v : Value) (as as' : List Addr), d.canLay0 = true → Reads h v d as → Reads h v d' as' → d = d'
  | .none, _, _, _, _, _, r, r' => by cases r; cases r'; rfl
  | .bool _, _, _, _, _, _, r, r' => by cases r; cases r'; rfl
  | .int _, _, _, _, _, _, r, r' => by cases r; cases r'; rfl
  | .str _, _, _, _, _, _, r, r' => by cases r; cases r'; rfl
  | .list xs, d', _, _, _, ha, r, r' => by
    cases r with
    | list h1 h2 h3 h4 =>
      cases r' with
      | list k1 k2 k3 k4 =>
        rw [h1] at k1; cases k1
        rw [h3] at k3; cases k3
        rw [readsAll_fun xs _ _ _ _ (by simpa [PyData.canLay0] using ha) h4 k4]
      | tuple k1 k2 k3 k4 =>
        rw [h1] at k1; cases k1
        rw [h2] at k2; exact absurd k2 (by decide)
      | dict k1 k2 k3 k4 k5 =>
        rw [h1] at k1; cases k1
        rw [h2] at k2; exact absurd k2 (by decide)
  | .tuple xs, d', _, _, _, ha, r, r' => by
    cases r with
    | tuple h1 h2 h3 h4 =>
      cases r' with
      | tuple k1 k2 k3 k4 =>
        rw [h1] at k1; cases k1
        rw [h3] at k3; cases k3
        rw [readsAll_fun xs _ _ _ _ (by simpa [PyData.canLay0] using ha) h4 k4]
      | list k1 k2 k3 k4 =>
        rw [h1] at k1; cases k1
        rw [h2] at k2; exact absurd k2 (by decide)
      | dict k1 k2 k3 k4 k5 =>
        rw [h1] at k1; cases k1
        rw [h2] at k2; exact absurd k2 (by decide)
  | .dict _, d', _, _, _, ha, _, _ => absurd ha (by simp [PyData.canLay0])
theorem readsAll_fun {h : Heap} : ∀ (xs ys : List PyData) (vs : List Value) (as as' : List Addr), PyData.canLayAll0 xs = true → ReadsAll h vs xs as → ReadsAll h vs ys as' → xs = ys
  | [], _, _, _, _, _, r, r' => by cases r; cases r'; rfl
  | x :: xs, ys, _, _, _, ha, r, r' => by
    cases r with
    | cons h1 h2 =>
      cases r' with
      | cons k1 k2 =>
        have ha' : x.canLay0 = true ∧ PyData.canLayAll0 xs = true := by simpa [PyData.canLayAll0] using ha
        rw [reads_fun x _ _ _ _ ha'.1 h1 k1, readsAll_fun xs _ _ _ _ ha'.2 h2 k2]
end
/-- x in a list or a tuple, of any data -/
def rInD (K : Kf) (neg : Bool) : L2.R2 := fun x y H Q => ∃ p xs d es, y = .ref p ∧ (L2.SqL K H p xs ∨ L2.SqT K H p xs) ∧ L2.Dp K H x d ∧ L2.DpAll K H xs es ∧ (d.canLay0 = true ∧ d.depth ≤ 60) ∧ PyData.canLayAll0 es = true ∧ Q (.bl (if neg then !es.any (fun e => PyData.eqv e d) else es.any fun e => PyData.eqv e d)) H
theorem canLay_mem : ∀ {es : List PyData}, PyData.canLayAll0 es = true → ∀ e ∈ es, e.canLay0 = true
  | x :: xs, h, e, he => by
    have h' : x.canLay0 = true ∧ PyData.canLayAll0 xs = true := by simpa [PyData.canLayAll0] using h
    rcases List.mem_cons.mp he with he | he
    · rw [he]; exact h'.1
    · exact canLay_mem h'.2 e he
theorem readsAll_mem {h : Heap} : ∀ {vs : List Value} {es : List PyData} {as : List Addr}, ReadsAll h vs es as → (∀ u ∈ vs, ∃ e ∈ es, ∃ bs, Reads h u e bs) ∧ ∀ e ∈ es, ∃ u ∈ vs, ∃ bs, Reads h u e bs
  | [], _, _, r => by cases r; exact ⟨by simp, by simp⟩
  | u :: vs, _, _, r => by
    cases r with
    | cons h1 h2 =>
      obtain ⟨a, b⟩ := readsAll_mem h2
      refine ⟨fun x hx => ?_, fun e he => ?_⟩
      · rcases List.mem_cons.mp hx with hx | hx
        · rw [hx]; exact ⟨_, List.mem_cons_self, _, h1⟩
        · obtain ⟨e, he, z⟩ := a x hx
          exact ⟨e, List.mem_cons_of_mem _ he, z⟩
      · rcases List.mem_cons.mp he with he | he
        · rw [he]; exact ⟨_, List.mem_cons_self, _, h1⟩
        · obtain ⟨x, hx, z⟩ := b e he
          exact ⟨x, List.mem_cons_of_mem _ hx, z⟩
open Classical in
/-- whether a value reads as data equal to d -/
noncomputable def hitV (h : Heap) (d : PyData) (u : Value) : Bool := decide (∃ e bs, Reads h u e bs ∧ PyData.eqv e d = true)
open Classical in
theorem hitV_iff {h : Heap} {d : PyData} {u : Value} : hitV h d u = true ↔ ∃ e bs, Reads h u e bs ∧ PyData.eqv e d = true := by
  unfold hitV
  exact decide_eq_true_iff
section
variable {X : L2.Cx} {pins : List (Addr × Obj)} {σ : L2.St} {H : Hp} {s : Shared}
theorem hit_eqAt {A : Around} {v : Value} {d : PyData} {as : List Addr} (rv : Reads s.heap v d as) (hd : d.canLay0 = true ∧ d.depth ≤ 60) {u : Value} {e : PyData} {bs : List Addr} (ru : Reads s.heap u e bs) (he : e.canLay0 = true) (hu : A.units + 61 < cLine) : SeqAt.EqAt A s u v (hitV s.heap d u) := by
  have e1 : hitV s.heap d u = PyData.eqv e d := by
    cases h : PyData.eqv e d with
    | true => exact hitV_iff.mpr ⟨e, bs, ru, h⟩
    | false =>
      cases h2 : hitV s.heap d u with
      | false => rfl
      | true =>
        obtain ⟨e', bs', r', h'⟩ := hitV_iff.mp h2
        rw [← reads_fun e e' u _ _ he ru r', h] at h'
        cases h'
  rw [e1]
  refine SeqAt.eqAt_reads e d A s u v bs as ru rv he hd.1 ?_
  have : min e.depth d.depth ≤ d.depth := Nat.min_le_right _ _
  have := hd.2
  omega
theorem hit_any {h : Heap} {d : PyData} {us : List Value} {es : List PyData} {as : List Addr} (r : ReadsAll h us es as) (hes : PyData.canLayAll0 es = true) : us.any (hitV h d) = es.any fun e => PyData.eqv e d := by
  obtain ⟨a, b⟩ := readsAll_mem r
  cases h1 : es.any fun e => PyData.eqv e d with
  | true =>
    obtain ⟨e, he, h2⟩ := List.any_eq_true.mp h1
    obtain ⟨u, hu, bs, ru⟩ := b e he
    exact List.any_eq_true.mpr ⟨u, hu, hitV_iff.mpr ⟨e, bs, ru, h2⟩⟩
  | false =>
    rw [List.any_eq_false] at h1 ⊢
    intro u hu h2
    obtain ⟨e, he, bs, ru⟩ := a u hu
    obtain ⟨e', bs', r', h'⟩ := hitV_iff.mp h2
    rw [← reads_fun e e' u _ _ (canLay_mem hes e he) ru r'] at h'
    exact h1 e he h'
end
section
variable {X : L2.Cx}
theorem op_inD (hu : X.A.units + 64 < cLine) : L2.OpR X (compareOp .In) (rInD X.K false) := by
  intro pins s σ H x y v u Q I rx ry h
  obtain ⟨p, xs, d, es, rfl, hq, hx, hxs, hd, hes, q⟩ := h
  cases ry
  obtain ⟨as, rv⟩ := L2.Dp.reads I d x v hx rx
  have hA : X.A.in1.units + 61 < cLine := by show X.A.units + 1 + 61 < cLine; omega
  rcases hq with hq | hq
  · obtain ⟨its, r, pl, hz⟩ := I.list hq
    obtain ⟨bs, ra⟩ := L2.Dp.readsAll I es xs its hxs r
    obtain ⟨m1, _⟩ := readsAll_mem ra
    refine SeqAt.in_listAt (hitV s.heap d) pl.isList (fun w hw => ?_) ⟨.bl _, H, I, rfl, ?_⟩
    · obtain ⟨e, he, cs, rw⟩ := m1 w (by simpa using hw)
      exact hit_eqAt rv hd rw (canLay_mem hes e he) hA
    · rw [show its.toArray.any (hitV s.heap d) = its.any (hitV s.heap d) by simp, hit_any ra hes]
      exact q
  · obtain ⟨its, r, pl, hz⟩ := I.tuple hq
    obtain ⟨bs, ra⟩ := L2.Dp.readsAll I es xs its hxs r
    obtain ⟨m1, _⟩ := readsAll_mem ra
    refine SeqAt.in_tupleAt (hitV s.heap d) pl (fun w hw => ?_) ⟨.bl _, H, I, rfl, ?_⟩
    · obtain ⟨e, he, cs, rw⟩ := m1 w (by simpa using hw)
      exact hit_eqAt rv hd rw (canLay_mem hes e he) hA
    · rw [show its.toArray.any (hitV s.heap d) = its.any (hitV s.heap d) by simp, hit_any ra hes]
      exact q
theorem op_notinD (hu : X.A.units + 64 < cLine) : L2.OpR X (compareOp .NotIn) (rInD X.K true) := by
  intro pins s σ H x y v u Q I rx ry h
  obtain ⟨p, xs, d, es, rfl, hq, hx, hxs, hd, hes, q⟩ := h
  cases ry
  obtain ⟨as, rv⟩ := L2.Dp.reads I d x v hx rx
  have hA : X.A.in1.units + 61 < cLine := by show X.A.units + 1 + 61 < cLine; omega
  rcases hq with hq | hq
  · obtain ⟨its, r, pl, hz⟩ := I.list hq
    obtain ⟨bs, ra⟩ := L2.Dp.readsAll I es xs its hxs r
    obtain ⟨m1, _⟩ := readsAll_mem ra
    refine SeqAt.notIn_listAt (hitV s.heap d) pl.isList (fun w hw => ?_) ⟨.bl _, H, I, rfl, ?_⟩
    · obtain ⟨e, he, cs, rw⟩ := m1 w (by simpa using hw)
      exact hit_eqAt rv hd rw (canLay_mem hes e he) hA
    · rw [show its.toArray.any (hitV s.heap d) = its.any (hitV s.heap d) by simp, hit_any ra hes]
      exact q
  · obtain ⟨its, r, pl, hz⟩ := I.tuple hq
    obtain ⟨bs, ra⟩ := L2.Dp.readsAll I es xs its hxs r
    obtain ⟨m1, _⟩ := readsAll_mem ra
    refine SeqAt.notIn_tupleAt (hitV s.heap d) pl (fun w hw => ?_) ⟨.bl _, H, I, rfl, ?_⟩
    · obtain ⟨e, he, cs, rw⟩ := m1 w (by simpa using hw)
      exact hit_eqAt rv hd rw (canLay_mem hes e he) hA
    · rw [show its.toArray.any (hitV s.heap d) = its.any (hitV s.heap d) by simp, hit_any ra hes]
      exact q
end
section
variable {K : Kf}
theorem any_toP {x : D} (hx : D.okd 60 x = true) : ∀ {xs : List D}, okds 60 xs = true → ((toPs xs).any fun e => PyData.eqv e (toP x)) = xs.any fun y => D.eqb y x
  | [], _ => by simp [toPs]
  | y :: ys, h => by
    have h' : D.okd 60 y = true ∧ okds 60 ys = true := by simpa [okds] using h
    simp only [toPs, List.any_cons]
    rw [toP_eqv y x h'.1 hx, any_toP hx h'.2]
theorem real_inD (neg : Bool) : RealC K (rInD K neg) (fun x y st Q => inDC x y st fun b => Q (if neg then !b else b)) := fun f st H x y v w Q' Q s r1 r2 h l => by
  cases y <;> try (exact h.elim)
  · rw [RD.tup] at r2
    obtain ⟨a, vs, rfl, t, d⟩ := r2
    obtain ⟨h1, h2, h3⟩ := h
    refine ⟨a, vs, _, _, rfl, .inr t, toP_dp x h1 r1, toPs_dp _ h2 d, toP_ok x h1, (toPs_ok _ h2).1, ?_⟩
    rw [any_toP h1 h2]
    exact l _ h3
  · rw [RD.ref] at r2
    obtain ⟨a, e, rfl⟩ := r2
    obtain ⟨xs, h0, h1, h2, h3⟩ := h
    obtain ⟨a', vs, g1, g2, g3⟩ := s.rdA h0
    rw [e] at g1; cases g1
    refine ⟨a, vs, _, _, rfl, .inl g2, toP_dp x h1 r1, toPs_dp _ h2 g3, toP_ok x h1, (toPs_ok _ h2).1, ?_⟩
    rw [any_toP h1 h2]
    exact l _ h3
end
/-! starred arguments -/
section
variable {X : L2.Cx} {a : Expr} {es : List Expr} {ta : TE} {ts : TA} {pos p : Pos}
theorem pa_starD (ha : PD X a ta) (hr : PDA X es ts) (hs : starEach (.Starred a p :: es) X.env = (true, eval a X.env) :: starEach es X.env := by rfl) : PDA X (.Starred a p :: es) (aStar ta ts) :=
  pa_imp (StX.pa_star ha hr hs) fun σ H Q ⟨f, ρ, st, Q', R, h, l⟩ => ⟨f, ρ, st, _, R, h, fun x st1 v f1 H1 h1 e1 s1 r1 => by
    cases x <;> try (exact h1.elim)
    · rw [RD.tup] at r1
      obtain ⟨b, vs, rfl, t, d⟩ := r1
      exact ⟨b, vs, rfl, .inl t, f1, ρ, st1, _, R.later e1 s1, h1, fun ys st2 us f2 H2 q e2 s2 r2 => l _ st2 _ f2 H2 q (e1.trans e2) s2 ((d.mono e2).append r2)⟩
    · rw [RD.ref] at r1
      obtain ⟨b, e, rfl⟩ := r1
      obtain ⟨xs, h0, h2⟩ := h1
      obtain ⟨b', vs, g1, g2, g3⟩ := s1.rdA h0
      rw [e] at g1; cases g1
      exact ⟨b, vs, rfl, .inr g2, f1, ρ, st1, _, R.later e1 s1, h2, fun ys st2 us f2 H2 q e2 s2 r2 => l _ st2 _ f2 H2 q (e1.trans e2) s2 ((g3.mono e2).append r2)⟩⟩
/-- a call with a starred argument of a def whose last parameter takes what is left over -/
theorem pd_callS2 {x : Str} {q : Pos} {k n : Nat} {ts : TA} {cl : Cl} {y : String} (o : OwnS X.prog X.w X.K X.mg X.base k n x (cl y)) (hr : L2.Room k X.A) (hg : L2.Gl X x) (ha : PDA X (a :: es) ts) (hdb : (x == ("__debug__" : Str)) = false := by decide)
    (he : starEach (a :: es) X.env = (false, eval a X.env) :: starEach es X.env := by rfl) (hst : (backTo pos (starEach es X.env)).any (·.1) = true := by rfl) : PD X (.Call (.Name x q) (a :: es) [] pos) (dCallS cl y n ts) := by
  obtain ⟨fa, F, hm, hk⟩ := o.ex
  have step : L2.PE X (.Call (.Name x q) (a :: es) [] pos) (fun σ H Q => liftA X.K ts σ H fun vs H1 => starF X.K n (cl y) vs H1 Q fun _ _ _ => False) := StX.pe_callS2 F hr hk hg hm L2.pass0 ha hdb he hst
  refine pe_imp step fun σ H Q ⟨f, ρ, st, Q', R, h, l⟩ => ⟨f, ρ, st, _, R, h, fun xs st1 vs f1 H1 ⟨h1, h2, h3⟩ e1 s1 r1 => ?_⟩
  have hvl := r1.length
  refine ⟨vs.take n, vs.drop n, (List.take_append_drop n vs).symm, by rw [List.length_take]; omega, ?_, fun p hp => ?_⟩
  · rw [List.length_drop, hvl, ← szl_eq]; rw [List.length_drop] at h2; exact h2
  · have s2 := s1.lay (o := .tup (vs.drop n)) hp
    obtain ⟨s2, e2⟩ := s2
    refine ⟨by rw [List.length_append, List.length_take]; simp; omega, f1, st1, xs.take n ++ [.tup (xs.drop n)], Q', s2, ?_, h3, (l.later e1).later e2⟩
    refine RDs.append ((r1.take n).mono e2) (RDs.one (RD.tup.mpr ⟨p, vs.drop n, rfl, .of L2.upd_same, (r1.drop n).mono e2⟩))
end
end Pd
end PartPdSoundL

section PartPdMore6
set_option Elab.async false
set_option linter.all false
set_option maxRecDepth 100000
/-! Pd: more readings of dicts (locked or not), walks over them, list(range(i, j, -1)), list.index of any pure data. Own work. -/
namespace Pd
open PySem
/-- d[k] -/
def getDAK : K2
  | .ref n, y, st, Q => ∃ kvs k d, rdDA st n kvs ∧ y = keyD k ∧ valD kvs k = some d ∧ Q d st
  | _, _, _, _ => False
def dGetA (to ti : TE) : TE := fun σ st Q => to σ st fun x st1 => ti σ st1 fun y st2 => getDAK x y st2 Q
/-- k in d -/
def inKC : KC
  | y, .ref n, st, Q => ∃ kvs k, rdDA st n kvs ∧ y = keyD k ∧ Q (valD kvs k).isSome
  | _, _, _, _ => False
def notinKC : KC := fun x y st Q => inKC x y st fun b => Q (!b)
/-- d.get(k, z) -/
def getD2K : D → D → D → Store → K → Prop
  | .ref n, y, z, st, Q => ∃ kvs k, rdDA st n kvs ∧ y = keyD k ∧ Q ((valD kvs k).getD z) st
  | _, _, _, _, _ => False
def isDD : D → Store → Prop
  | .ref n, st => ∃ kvs, rdDA st n kvs
  | _, _ => False
def dGet2 (to ti tx : TE) : TE := fun σ st Q => to σ st fun x st1 => isDD x st1 ∧ ti σ st1 fun y st2 => tx σ st2 fun z st3 => getD2K x y z st3 Q
/-- {k: v, ..} -/
def pairsD : List (TE × TE) → Env → Store → (List (D × D) → Store → Prop) → Prop
  | [], _, st, Q => Q [] st
  | p :: r, σ, st, Q => p.1 σ st fun x st1 => p.2 σ st1 fun y st2 => pairsD r σ st2 fun ps st3 => Q ((x, y) :: ps) st3
def putAll (kvs : List (Ky × D)) : List (Ky × D) := kvs.foldl (fun acc kv => putD acc kv.1 kv.2) []
def dDisp (prs : List (TE × TE)) : TE := fun σ st Q => pairsD prs σ (st ++ [.dic []]) fun ps st2 => ∃ kvs : List (Ky × D), ps = kvs.map (fun kv => (keyD kv.1, kv.2)) ∧ kvs.length ≤ 15 ∧ rdD st2 st.length [] ∧ Q (.ref st.length) (st2.set st.length (.dic (putAll kvs)))
/-! a dict is locked while it is walked -/
def keysD (kvs : List (Ky × D)) : List D := kvs.map fun kv => keyD kv.1
def iKeysD (t : TE) : TI := fun σ st R => t σ st fun x st1 => ∃ n kvs tk, x = .ref n ∧ st1[n]? = some (.frd kvs tk) ∧ R ⟨keysD kvs, fun s => s[n]? = some (.frd kvs tk)⟩ st1
def sLockD (t : TS) : TS := fun D σ st => ∃ n kvs, rdD st n kvs ∧ ∀ tk, t { nx := fun σ' st' => st'[n]? = some (.frd kvs tk) ∧ D.nx σ' (st'.set n (.dic kvs)), rt := fun v st' => st'[n]? = some (.frd kvs tk) ∧ D.rt v (st'.set n (.dic kvs)), bk := fun σ' st' => st'[n]? = some (.frd kvs tk) ∧ D.bk σ' (st'.set n (.dic kvs)), ct := fun σ' st' => st'[n]? = some (.frd kvs tk) ∧ D.ct σ' (st'.set n (.dic kvs)) } σ (st.set n (.frd kvs tk))
def dLockD (t : TE) : TE := fun σ st Q => ∃ n kvs, rdD st n kvs ∧ ∀ tk, t σ (st.set n (.frd kvs tk)) fun v st' => st'[n]? = some (.frd kvs tk) ∧ Q v (st'.set n (.dic kvs))
/-- .index(x), any pure data -/
def indexDM : KM
  | .ref n, [x], st, Q => ∃ xs j z, rdA st n xs ∧ D.okd 60 x = true ∧ okds 60 xs = true ∧ xs[j]? = some z ∧ D.eqb z x = true ∧ (∀ (m : Nat) (z' : D), m < j → xs[m]? = some z' → D.eqb z' x = false) ∧ Q (.int j) st
  | _, _, _, _ => False
/-- list(range(i, j, -1)) -/
def dLRD (t u : TE) : TE := fun σ st Q => t σ st fun x st1 => u σ st1 fun y st2 => ∃ i j, x = .int i ∧ y = .int j ∧ (-(2 ^ 62) ≤ i ∧ i < 2 ^ 62 ∧ -(2 ^ 62) ≤ j ∧ j < 2 ^ 62 ∧ (i - j).toNat ≤ szl) ∧ Q (.ref st2.length) (st2 ++ [.lst (rngD i (i - j).toNat)])
section
variable {σ σ' : Env} {st : Store} {Q : K} {to ti tx ta tb : TE} {d x y : D}
instance : Red (dGetA to ti σ st Q) (to σ st fun x st1 => ti σ st1 fun y st2 => getDAK x y st2 Q) := ⟨id⟩
instance : Red (dGet2 to ti tx σ st Q) (to σ st fun x st1 => isDD x st1 ∧ ti σ st1 fun y st2 => tx σ st2 fun z st3 => getD2K x y z st3 Q) := ⟨id⟩
instance {prs : List (TE × TE)} : Red (dDisp prs σ st Q) (pairsD prs σ (st ++ [.dic []]) fun ps st2 => ∃ kvs : List (Ky × D), ps = kvs.map (fun kv => (keyD kv.1, kv.2)) ∧ kvs.length ≤ 15 ∧ rdD st2 st.length [] ∧ Q (.ref st.length) (st2.set st.length (.dic (putAll kvs)))) := ⟨id⟩
instance {q : List (D × D) → Store → Prop} : Red (pairsD [] σ st q) (q [] st) := ⟨id⟩
instance {p : TE × TE} {r : List (TE × TE)} {q : List (D × D) → Store → Prop} : Red (pairsD (p :: r) σ st q) (p.1 σ st fun x st1 => p.2 σ st1 fun y st2 => pairsD r σ st2 fun ps st3 => q ((x, y) :: ps) st3) := ⟨id⟩
instance {R : Iter → Store → Prop} : Red (iKeysD ta σ st R) (ta σ st fun x st1 => ∃ n kvs tk, x = .ref n ∧ st1[n]? = some (.frd kvs tk) ∧ R ⟨keysD kvs, fun s => s[n]? = some (.frd kvs tk)⟩ st1) := ⟨id⟩
instance : Red (dLRD ta tb σ st Q) (ta σ st fun x st1 => tb σ st1 fun y st2 => ∃ i j, x = .int i ∧ y = .int j ∧ (-(2 ^ 62) ≤ i ∧ i < 2 ^ 62 ∧ -(2 ^ 62) ≤ j ∧ j < 2 ^ 62 ∧ (i - j).toNat ≤ szl) ∧ Q (.ref st2.length) (st2 ++ [.lst (rngD i (i - j).toNat)])) := ⟨id⟩
end
theorem getA_at {st : Store} {n : Nat} {kvs : List (Ky × D)} {k : Ky} {d : D} {Q : K} (h : rdDA st n kvs) (e : valD kvs k = some d) (q : Q d st) : getDAK (.ref n) (keyD k) st Q := ⟨kvs, k, d, h, rfl, e, q⟩
theorem getAI_at {st : Store} {n : Nat} {kvs : List (Ky × D)} {k : Int} {d : D} {Q : K} (h : rdDA st n kvs) (e : valD kvs (.inl k) = some d) (q : Q d st) : getDAK (.ref n) (.int k) st Q := ⟨kvs, .inl k, d, h, rfl, e, q⟩
theorem inKI_at {st : Store} {n : Nat} {kvs : List (Ky × D)} {k : Int} {r : Bool → Prop} (h : rdDA st n kvs) (q : r (valD kvs (.inl k)).isSome) : inKC (.int k) (.ref n) st r := ⟨kvs, .inl k, h, rfl, q⟩
theorem notinKI_at {st : Store} {n : Nat} {kvs : List (Ky × D)} {k : Int} {r : Bool → Prop} (h : rdDA st n kvs) (q : r (!(valD kvs (.inl k)).isSome)) : notinKC (.int k) (.ref n) st r := ⟨kvs, .inl k, h, rfl, q⟩
theorem get2I_at {st : Store} {n : Nat} {kvs : List (Ky × D)} {k : Int} {z : D} {Q : K} (h : rdDA st n kvs) (q : Q ((valD kvs (.inl k)).getD z) st) : getD2K (.ref n) (.int k) z st Q := ⟨kvs, .inl k, h, rfl, q⟩
theorem setDI_at {st : Store} {n : Nat} {kvs : List (Ky × D)} {k : Int} {v : D} {Q : Store → Prop} (h : rdD st n kvs) (hl : kvs.length < szl) (q : Q (st.set n (.dic (putD kvs (.inl k) v)))) : setDK (.ref n) (.int k) v st Q := ⟨kvs, .inl k, h, rfl, hl, q⟩
theorem rdDA.of {st : Store} {n : Nat} {kvs : List (Ky × D)} (h : rdD st n kvs) : rdDA st n kvs := .inl h
end Pd
end PartPdMore6

section PartPdSoundO
set_option Elab.async false
set_option linter.all false
set_option maxRecDepth 100000
set_option maxHeartbeats 1000000
/-! Pd over the hand layer: dicts read, displayed and walked; list.index of data; list(range(i, j, -1)). Own work. -/
namespace Pd
open PySem PySem.Spec
section
variable {X : L2.Cx} {K : Kf} {f f' : List Addr} {H H' : Hp} {st st' : Store} {ρ : Env} {σ : L2.St}
theorem vals_none : ∀ {kvs : List (Ky × D)} {ks : List (L2.Key × L2.V)}, ks.map (·.1) = kvs.map (·.1) → ∀ (k : Ky), valD kvs k = none → L2.valV ks k = none
  | [], [], _, _, _ => rfl
  | [], _ :: _, e, _, _ => by simp at e
  | _ :: _, [], e, _, _ => by simp at e
  | (k0, d0) :: kvs, (k1, v1) :: ks, e, k, h => by
    simp only [List.map_cons, List.cons.injEq] at e
    obtain ⟨e1, e2⟩ := e
    have e1 : k1 = k0 := e1
    subst e1
    by_cases hk : k1 = k
    · have : valD ((k1, d0) :: kvs) k = some d0 := by simp [valD, List.find?_cons, hk]
      rw [this] at h; cases h
    · have : valD ((k1, d0) :: kvs) k = valD kvs k := by simp [valD, List.find?_cons, hk]
      rw [this] at h
      exact (L2.valV_neg hk).trans (vals_none e2 k h)
theorem dget_of {a : Addr} {ks : List (L2.Key × L2.V)} {k : Ky} (h : L2.Rd H a (.dK ks)) : L2.DGet H a (L2.kV k) (L2.valV ks k) := .inl ⟨ks, k, h, rfl, rfl⟩
section
variable {o i e a b : Expr} {to ti tx ta tb : TE} {pos apos cpos : Pos}
theorem pd_getA {k : Nat} (hr : L2.Room k X.A) (ho : PD X o to) (hi : PD X i ti) (hs : L2.NoSl i := by intro _ _; rfl) : PD X (.Subscript o i pos) (dGetA to ti) :=
  pe_imp (L2.pe_dget (L2.hu_of hr) ho hi hs) fun σ H Q ⟨f, ρ, st, Q', R, h, l⟩ => ⟨f, ρ, st, _, R, h, fun x st1 v f1 H1 q1 e1 s1 r1 => ⟨f1, ρ, st1, _, R.later e1 s1, q1, fun y st2 w f2 H2 q2 e2 s2 r2 => by
    cases x <;> try (exact q2.elim)
    obtain ⟨kvs, k, d, h1, rfl, h3, h4⟩ := q2
    have r1' := r1.mono e2
    rw [RD.ref] at r1'
    obtain ⟨a, ea, rfl⟩ := r1'
    obtain ⟨a', ks, g1, g2, g3, g4⟩ := s2.rdDA h1
    rw [ea] at g1; cases g1
    obtain ⟨v, g5, g6⟩ := vals_at g3 g4 k d h3
    obtain rfl := keyD_V r2
    exact ⟨a, v, rfl, by rw [← g5]; exact dget_of g2, l d st2 v f2 H2 h4 (e1.trans e2) s2 g6⟩⟩⟩
theorem in_some {kvs : List (Ky × D)} {ks : List (L2.Key × L2.V)} (e : ks.map (·.1) = kvs.map (·.1)) (r : RDs K f H (kvs.map (·.2)) (ks.map (·.2))) (k : Ky) : (L2.valV ks k).isSome = (valD kvs k).isSome := by
  cases h : valD kvs k with
  | none => rw [vals_none e k h]; rfl
  | some d =>
    obtain ⟨v, g, _⟩ := vals_at e r k d h
    rw [g]; rfl
theorem in_core {Q' : Pd.K} {Q : L2.VK} {neg : Bool} {hi : lift K ti σ H (fun y H1 => lift K to σ H1 fun _ _ => True) → True}
    (R : Rel K f ρ st σ H) (h : ti ρ st fun y st1 => to ρ st1 fun x st2 => inKC y x st2 fun b => Q' (.bl (if neg then !b else b)) st2) (l : LQ K f H Q' Q) :
    lift K ti σ H fun y H1 => lift K to σ H1 fun x H2 => ∃ a o, x = .ref a ∧ L2.DGet H2 a y o ∧ Q (.bl (if neg then !o.isSome else o.isSome)) H2 :=
  ⟨f, ρ, st, _, R, h, fun y st1 v f1 H1 q1 e1 s1 r1 => ⟨f1, ρ, st1, _, R.later e1 s1, q1, fun x st2 w f2 H2 q2 e2 s2 r2 => by
    cases x <;> try (exact q2.elim)
    obtain ⟨kvs, k, h1, rfl, h3⟩ := q2
    rw [RD.ref] at r2
    obtain ⟨a, ea, rfl⟩ := r2
    obtain ⟨a', ks, g1, g2, g3, g4⟩ := s2.rdDA h1
    rw [ea] at g1; cases g1
    obtain rfl := keyD_V (r1.mono e2)
    refine ⟨a, _, rfl, dget_of g2, ?_⟩
    rw [in_some g3 g4 k]
    exact l _ st2 _ f2 H2 h3 (e1.trans e2) s2 (RD.bl.mpr rfl)⟩⟩
theorem pd_inK {k : Nat} (hr : L2.Room k X.A) (hi : PD X i ti) (ho : PD X o to) (hm : behindInMarks .In o = false := by rfl) : PD X (.Compare i [.In] [o] pos) (dCmp inKC ti to) :=
  pe_imp (L2.pe_cmp (L2.pc_din (L2.hu_of hr) hi ho) hm) fun σ H Q ⟨f, ρ, st, Q', R, h, l⟩ => in_core (neg := false) (hi := fun _ => trivial) R h l
theorem pd_notinK {k : Nat} (hr : L2.Room k X.A) (hi : PD X i ti) (ho : PD X o to) (hm : behindInMarks .NotIn o = false := by rfl) : PD X (.Compare i [.NotIn] [o] pos) (dCmp notinKC ti to) :=
  pe_imp (L2.pe_cmp (L2.pc_dnotin (L2.hu_of hr) hi ho) hm) fun σ H Q ⟨f, ρ, st, Q', R, h, l⟩ => in_core (neg := true) (hi := fun _ => trivial) R h l
theorem pt_inK {k : Nat} (hr : L2.Room k X.A) (hi : PD X i ti) (ho : PD X o to) (hm : behindInMarks .In o = false := by rfl) : PDT X (.Compare i [.In] [o] pos) (tTru (dCmp inKC ti to)) :=
  pt_imp (L2.pt_cmp (L2.pc_din (L2.hu_of hr) hi ho) hm) fun σ H Q ⟨f, ρ, st, Q', R, h, l⟩ =>
    in_core (neg := false) (hi := fun _ => trivial) (Q' := fun x st' => ∃ b, x = .bl b ∧ Q' b st') (Q := fun x H' => ∃ b, x = .bl b ∧ Q b H') R
      (by
        refine (show (ti ρ st fun y st1 => to ρ st1 fun x st2 => inKC y x st2 fun b => ∃ b', D.bl (if false = true then !b else b) = .bl b' ∧ Q' b' st2) from ?_)
        have e : (fun (y : D) (st1 : Store) => to ρ st1 fun x st2 => inKC y x st2 fun b => ∃ b', D.bl (if false = true then !b else b) = .bl b' ∧ Q' b' st2) = fun y st1 => to ρ st1 fun x st2 => inKC y x st2 fun b => Q' b st2 := by
          funext y st1
          congr
          funext x st2
          congr
          funext b
          exact propext ⟨fun ⟨b', e, q⟩ => by cases e; exact q, fun q => ⟨b, rfl, q⟩⟩
        rw [e]; exact h)
      fun x st' v f' H' ⟨b, hx, q⟩ e s r => by
        subst hx
        rw [RD.bl] at r
        exact ⟨b, r, l b st' f' H' q e s⟩
theorem pt_notinK {k : Nat} (hr : L2.Room k X.A) (hi : PD X i ti) (ho : PD X o to) (hm : behindInMarks .NotIn o = false := by rfl) : PDT X (.Compare i [.NotIn] [o] pos) (tTru (dCmp notinKC ti to)) :=
  pt_imp (L2.pt_cmp (L2.pc_dnotin (L2.hu_of hr) hi ho) hm) fun σ H Q ⟨f, ρ, st, Q', R, h, l⟩ =>
    in_core (neg := true) (hi := fun _ => trivial) (Q' := fun x st' => ∃ b, x = .bl b ∧ Q' b st') (Q := fun x H' => ∃ b, x = .bl b ∧ Q b H') R
      (by
        have e : (fun (y : D) (st1 : Store) => to ρ st1 fun x st2 => inKC y x st2 fun b => ∃ b', D.bl (if true = true then !b else b) = .bl b' ∧ Q' b' st2) = fun y st1 => to ρ st1 fun x st2 => inKC y x st2 fun b => Q' (!b) st2 := by
          funext y st1
          congr
          funext x st2
          congr
          funext b
          exact propext ⟨fun ⟨b', e, q⟩ => by cases e; exact q, fun q => ⟨!b, rfl, q⟩⟩
        rw [e]; exact h)
      fun x st' v f' H' ⟨b, hx, q⟩ e s r => by
        subst hx
        rw [RD.bl] at r
        exact ⟨b, r, l b st' f' H' q e s⟩
theorem pd_get2 {k : Nat} {e g : Expr} (hr : L2.Room k X.A) (ho : PD X o to) (he : PD X e ti) (hf : PD X g tx) (m : L2.M2 X o "get" apos e g cpos := by exact ⟨rfl, rfl, rfl, rfl⟩) : PD X (.Call (.Attribute o "get" apos) [e, g] [] cpos) (dGet2 to ti tx) :=
  pe_imp (L2.pe_dget2 (L2.hu_of hr) ho he hf m) fun σ H Q ⟨f, ρ, st, Q', R, h, l⟩ => ⟨f, ρ, st, _, R, h, fun x st1 v f1 H1 ⟨hx, q1⟩ e1 s1 r1 => by
    cases x <;> try (exact hx.elim)
    obtain ⟨kvs0, h0⟩ := hx
    have r1' := r1
    rw [RD.ref] at r1'
    obtain ⟨a, ea, rfl⟩ := r1'
    obtain ⟨a', ks0, g1, g2, g3, g4⟩ := s1.rdDA h0
    rw [ea] at g1; cases g1
    refine ⟨a, rfl, .inl ⟨ks0, g2⟩, f1, ρ, st1, _, R.later e1 s1, q1, fun y st2 w f2 H2 q2 e2 s2 r2 => ⟨f2, ρ, st2, _, R.later (e1.trans e2) s2, q2, fun z st3 u f3 H3 q3 e3 s3 r3 => ?_⟩⟩
    obtain ⟨kvs, k, h1, rfl, h3⟩ := q3
    obtain ⟨a', ks, k1, k2, k3, k4⟩ := s3.rdDA h1
    have ea3 := (e2.trans e3).at ea
    rw [ea3] at k1; cases k1
    obtain rfl := keyD_V (r2.mono e3)
    refine ⟨_, dget_of k2, ?_⟩
    cases hv : valD kvs k with
    | none =>
      rw [hv] at h3
      rw [vals_none k3 k hv]
      exact l _ st3 _ f3 H3 h3 (e1.trans (e2.trans e3)) s3 r3
    | some d =>
      rw [hv] at h3
      obtain ⟨v, p1, p2⟩ := vals_at k3 k4 k d hv
      rw [p1]
      exact l _ st3 _ f3 H3 h3 (e1.trans (e2.trans e3)) s3 p2⟩
/-! displays -/
inductive PPD (X : L2.Cx) : List (Option Expr) → List Expr → List (TE × TE) → Prop
  | nil : PPD X [] [] []
  | cons {k v : Expr} {ks : List (Option Expr)} {vs : List Expr} {tk tv : TE} {r : List (TE × TE)} : PD X k tk → PD X v tv → PPD X ks vs r → PPD X (some k :: ks) (v :: vs) ((tk, tv) :: r)
theorem PPD.pps {ks : List (Option Expr)} {vs : List Expr} {prs : List (TE × TE)} (h : PPD X ks vs prs) : L2.PPs X pos ks vs (prs.map fun p => (lift X.K p.1, lift X.K p.2)) := by
  induction h with
  | nil => exact L2.pps_nil
  | cons hk hv _ ih => exact L2.pps_cons hk hv ih
theorem pairs_lift : ∀ (prs : List (TE × TE)) {f : List Addr} {ρ : Env} {st : Store} {σ : L2.St} {H : Hp} {Q' : List (D × D) → Store → Prop} {Q : List (L2.V × L2.V) → Hp → Prop}, Rel K f ρ st σ H → pairsD prs ρ st Q' →
    (∀ ps st' us f' H', Q' ps st' → Ext K f H f' H' → RelS K f' st' H' → RDs K f' H' (ps.map (·.1)) (us.map (·.1)) → RDs K f' H' (ps.map (·.2)) (us.map (·.2)) → Q us H') → L2.tPairs (prs.map fun p => (lift K p.1, lift K p.2)) σ H Q
  | [], f, ρ, st, σ, H, Q', Q, R, h, l => l [] st [] f H h .refl R.toRelS (RDs.nil.mpr rfl) (RDs.nil.mpr rfl)
  | p :: prs, f, ρ, st, σ, H, Q', Q, R, h, l =>
    ⟨f, ρ, st, _, R, h, fun x st1 v f1 H1 q1 e1 s1 r1 => ⟨f1, ρ, st1, _, R.later e1 s1, q1, fun y st2 w f2 H2 q2 e2 s2 r2 =>
      pairs_lift prs (R.later (e1.trans e2) s2) q2 fun ps st3 us f3 H3 q3 e3 s3 ra rb => l _ st3 _ f3 H3 q3 ((e1.trans e2).trans e3) s3 (RDs.cons.mpr ⟨_, _, rfl, r1.mono (e2.trans e3), ra⟩) (RDs.cons.mpr ⟨_, _, rfl, r2.mono e3, rb⟩)⟩⟩
theorem keys_V : ∀ {kvs : List (Ky × D)} {us : List (L2.V × L2.V)}, RDs K f H (kvs.map fun kv => keyD kv.1) (us.map (·.1)) → RDs K f H (kvs.map (·.2)) (us.map (·.2)) → ∃ ks : List (L2.Key × L2.V), us = ks.map (fun kv => (L2.kV kv.1, kv.2)) ∧ ks.map (·.1) = kvs.map (·.1) ∧ RDs K f H (kvs.map (·.2)) (ks.map (·.2))
  | [], us, h, h' => by
    rw [List.map_nil, RDs.nil] at h
    rw [List.map_eq_nil_iff] at h
    subst h
    exact ⟨[], rfl, rfl, RDs.nil.mpr rfl⟩
  | kv :: kvs, [], h, h' => by
    rw [List.map_cons, List.map_nil, RDs.cons] at h
    obtain ⟨v, r, e, _⟩ := h
    cases e
  | kv :: kvs, u :: us, h, h' => by
    rw [List.map_cons, List.map_cons, RDs.cons] at h h'
    obtain ⟨v, r, e, h1, h2⟩ := h
    obtain ⟨v', r', e', h1', h2'⟩ := h'
    injection e with e1 e2
    injection e' with e1' e2'
    obtain ⟨ks, p1, p2, p3⟩ := keys_V (us := us) (by rw [e2]; exact h2) (by rw [e2']; exact h2')
    refine ⟨(kv.1, u.2) :: ks, ?_, ?_, ?_⟩
    · rw [List.map_cons, ← p1]
      have := keyD_V h1
      rw [← e1] at this
      rw [← this]
    · rw [List.map_cons, List.map_cons, p2]
    · rw [List.map_cons, List.map_cons, RDs.cons]
      exact ⟨_, _, rfl, by rw [e1']; exact h1', p3⟩
theorem merge_at : ∀ {kvs : List (Ky × D)} {ks : List (L2.Key × L2.V)} {acc : List (Ky × D)} {ac : List (L2.Key × L2.V)}, ks.map (·.1) = kvs.map (·.1) → RDs K f H (kvs.map (·.2)) (ks.map (·.2)) → ac.map (·.1) = acc.map (·.1) → RDs K f H (acc.map (·.2)) (ac.map (·.2)) →
    (L2.mergeK ac ks).map (·.1) = (kvs.foldl (fun acc kv => putD acc kv.1 kv.2) acc).map (·.1) ∧ RDs K f H ((kvs.foldl (fun acc kv => putD acc kv.1 kv.2) acc).map (·.2)) ((L2.mergeK ac ks).map (·.2))
  | [], [], acc, ac, _, _, e, r => ⟨e, r⟩
  | [], _ :: _, _, _, e, _, _, _ => by simp at e
  | _ :: _, [], _, _, e, _, _, _ => by simp at e
  | kv :: kvs, u :: ks, acc, ac, e, r, e', r' => by
    simp only [List.map_cons, List.cons.injEq] at e
    rw [List.map_cons, List.map_cons, RDs.cons] at r
    obtain ⟨v, rr, er, r1, r2⟩ := r
    injection er with er1 er2
    have hu : RD K f H kv.2 u.2 := by rw [er1]; exact r1
    obtain ⟨p1, p2⟩ := put_at (k := kv.1) hu e' r'
    have hk : u.1 = kv.1 := e.1
    have := merge_at (kvs := kvs) (ks := ks) (acc := putD acc kv.1 kv.2) (ac := L2.putK ac u.1 u.2) e.2 (by rw [er2]; exact r2) (by rw [hk]; exact p1) (by rw [hk]; exact p2)
    exact this
theorem pd_disp {ks : List (Option Expr)} {vs : List Expr} {prs : List (TE × TE)} (h : PPD X ks vs prs) (hall : ks.all (·.isSome) = true := by rfl) (hl : ks.length = vs.length := by rfl) (h0 : ks ≠ [] := by (intro h; cases h)) (h15 : ks.length ≤ 15 := by decide) : PD X (.Dict ks vs pos) (dDisp prs) :=
  pe_imp (L2.pe_disp (h.pps (pos := pos)) hall hl h0 h15) fun σ H Q ⟨f, ρ, st, Q', R, h, l⟩ p hp => by
    obtain ⟨s', e⟩ := R.toRelS.new (o := .dK []) (c := .dic []) hp ⟨[], L2.upd_same, rfl, RDs.nil.mpr rfl⟩
    refine pairs_lift prs (R.later e s') h fun ps st2 us f2 H2 q2 e2 s2 ra rb => ?_
    obtain ⟨kvs, rfl, h1, h2, h3⟩ := q2
    obtain ⟨a, ks, g1, g2, g3, g4⟩ := s2.rdD h2
    have hn : (f ++ [p])[st.length]? = some p := by rw [← R.toRelS.len]; simp
    have hn2 := e2.at hn
    rw [hn2] at g1; cases g1
    cases ks with
    | cons _ _ => simp at g3
    | nil =>
      rw [List.map_map] at ra rb
      obtain ⟨ks, p1, p2, p3⟩ := keys_V (kvs := kvs) ra rb
      obtain ⟨m1, m2⟩ := merge_at p2 p3 (acc := []) (ac := []) rfl (RDs.nil.mpr rfl)
      obtain ⟨s3, e3⟩ := s2.putDic hn2 h2 g2 (kvs' := putAll kvs) m1 m2
      have hlk : ks.length ≤ 15 := by
        have := congrArg List.length p2
        rw [List.length_map, List.length_map] at this
        omega
      exact ⟨g2, ks, p1, hlk, l _ _ _ f2 _ h3 ((e.trans e2).trans e3) s3 (RD.ref.mpr ⟨p, hn2, rfl⟩)⟩
end
/-! ### a dict is locked -/
theorem frd_at {n : Nat} {a : Addr} {kvs : List (Ky × D)} {tk : Tok} (s : RelS K f st H) (hn : f[n]? = some a) (h : st[n]? = some (.frd kvs tk)) : H a = some (.frz tk.1 (.dK tk.2)) ∧ tk.2.map (·.1) = kvs.map (·.1) ∧ RDs K f H (kvs.map (·.2)) (tk.2.map (·.2)) := by
  obtain ⟨a', h1, h2, h3⟩ := s.at h
  rw [hn] at h1; cases h1
  exact ⟨h2, h3⟩
theorem lock_at {n : Nat} {a : Addr} {kvs : List (Ky × D)} {ks : List (L2.Key × L2.V)} {od : Obj} (s : RelS K f st H) (hn : f[n]? = some a) (h : rdD st n kvs) (hH : H a = some (.dK ks)) (e : ks.map (·.1) = kvs.map (·.1)) (r : RDs K f H (kvs.map (·.2)) (ks.map (·.2))) :
    RelS K f (st.set n (.frd kvs (od, ks))) (L2.upd H a (.frz od (.dK ks))) ∧ Ext K f H f (L2.upd H a (.frz od (.dK ks))) :=
  s.chg (c := .dic kvs) h rfl hn (.inr (.inr (.inl ⟨ks, hH⟩))) rfl ⟨L2.upd_same, e, r.mono (Ext.upd0 (.inr (.inr (.inl ⟨ks, hH⟩))))⟩
theorem unlock_at {n : Nat} {a : Addr} {kvs : List (Ky × D)} {ks : List (L2.Key × L2.V)} {od : Obj} (s : RelS K f st H) (hn : f[n]? = some a) (h : st[n]? = some (.frd kvs (od, ks))) :
    H a = some (.frz od (.dK ks)) ∧ RelS K f (st.set n (.dic kvs)) (L2.upd H a (.dK ks)) ∧ Ext K f H f (L2.upd H a (.dK ks)) := by
  obtain ⟨h1, h2, h3⟩ := frd_at s hn h
  have w : Wr H a := .inr (.inr (.inr ⟨od, ks, h1⟩))
  exact ⟨h1, s.chg (c := .frd kvs (od, ks)) h rfl hn w rfl ⟨ks, L2.upd_same, h2, h3.mono (Ext.upd0 w)⟩⟩
theorem pd_lockD {e : Expr} {t : TE} (h : PD X e t) : PD X e (dLockD t) :=
  pe_imp (L2.pe_lock h) fun σ H Q ⟨f, ρ, st, Q', R, ⟨n, kvs, h1, h2⟩, l⟩ => by
    obtain ⟨a, ks, g1, g2, g3, g4⟩ := R.toRelS.rdD h1
    refine ⟨a, .dK ks, g2, trivial, fun od => ?_⟩
    obtain ⟨s1, e1⟩ := lock_at (od := od) R.toRelS g1 h1 g2 g3 g4
    refine ⟨f, ρ, _, _, R.later e1 s1, h2 (od, ks), fun x st2 v f2 H2 ⟨q1, q2⟩ e2 s2 r2 => ?_⟩
    obtain ⟨u1, u2, u3⟩ := unlock_at s2 (e2.at g1) q1
    exact ⟨u1, l x _ v f2 _ q2 ((e1.trans e2).trans u3) u2 (r2.mono u3)⟩
theorem realI_keys {n : Nat} {a : Addr} {kvs : List (Ky × D)} {tk : Tok} (hn : f[n]? = some a) (hk : tk.2.map (·.1) = kvs.map (·.1)) : RealI K f H ⟨keysD kvs, fun s => s[n]? = some (.frd kvs tk)⟩ (L2.Itk a tk.1 tk.2) where
  go := fun k f2 st2 H2 e2 s2 g hlt => by
    obtain ⟨h1, h2, h3⟩ := frd_at s2 (e2.at hn) g
    refine ⟨h1, ?_⟩
    have := congrArg List.length hk
    rw [List.length_map, List.length_map] at this
    have hlt' : k < (keysD kvs).length := hlt
    unfold keysD at hlt'
    rw [List.length_map] at hlt'
    omega
  stop := fun f2 st2 H2 e2 s2 g => by
    obtain ⟨h1, h2, h3⟩ := frd_at s2 (e2.at hn) g
    refine ⟨h1, ?_⟩
    have := congrArg List.length hk
    rw [List.length_map, List.length_map] at this
    show tk.2.length ≤ (keysD kvs).length
    unfold keysD
    rw [List.length_map]
    omega
  yld := fun k f2 st2 H2 d x H3 e2 s2 g hd y => by
    obtain ⟨rfl, k', v, hk', rfl⟩ := y
    refine ⟨.refl, s2, ?_⟩
    have hd' : (keysD kvs)[k]? = some d := hd
    unfold keysD at hd'
    rw [show (List.map (fun kv : Ky × D => keyD kv.1) kvs) = (kvs.map (·.1)).map keyD by rw [List.map_map]; rfl, List.getElem?_map, ← hk, List.getElem?_map, hk'] at hd'
    have e9 : keyD k' = d := by simpa using hd'
    subst e9
    cases k' with
    | inl i => exact RD.int.mpr rfl
    | inr s => exact RD.str.mpr rfl
theorem pi_keysD {tg e : Expr} {td : TE} (h : PD X e td) : PDI X tg e (iKeysD td) :=
  pi_imp (L2.pi_keys h) fun σ H R ⟨f, ρ, st, R', Re, h, l⟩ => ⟨f, ρ, st, _, Re, h, fun x st1 v f1 H1 q1 e1 s1 r1 => by
    obtain ⟨n, kvs, tk, rfl, q2, q3⟩ := q1
    rw [RD.ref] at r1
    obtain ⟨a, ea, rfl⟩ := r1
    obtain ⟨h1, h2, h3⟩ := frd_at s1 ea q2
    exact ⟨a, tk.1, rfl, .inl ⟨tk.2, h1, l _ _ _ f1 H1 q3 e1 s1 (realI_keys ea h2)⟩⟩⟩
theorem ps_lockD {sm : Stmt} {t : TS} (h : PDS X sm t) : PDS X sm (sLockD t) :=
  ps_imp (L2.ps_lock h) fun D σ H ⟨f, ρ, st, D', R, ⟨n, kvs, h1, h2⟩, l⟩ => by
    obtain ⟨a, ks, g1, g2, g3, g4⟩ := R.toRelS.rdD h1
    refine ⟨a, .dK ks, g2, trivial, fun od => ?_⟩
    obtain ⟨s1, e1⟩ := lock_at (od := od) R.toRelS g1 h1 g2 g3 g4
    refine ⟨f, ρ, _, _, R.later e1 s1, h2 (od, ks), ⟨?_, ?_, ?_, ?_⟩⟩
    · intro ρ' st' σ' f' H' ⟨q1, q2⟩ e2 R2
      obtain ⟨u1, u2, u3⟩ := unlock_at R2.toRelS (e2.at g1) q1
      exact ⟨u1, l.nx _ _ _ f' _ q2 ((e1.trans e2).trans u3) (R2.later u3 u2)⟩
    · intro x st' v f' H' ⟨q1, q2⟩ e2 s2 r2
      obtain ⟨u1, u2, u3⟩ := unlock_at s2 (e2.at g1) q1
      exact ⟨u1, l.rt x _ v f' _ q2 ((e1.trans e2).trans u3) u2 (r2.mono u3)⟩
    · intro ρ' st' σ' f' H' ⟨q1, q2⟩ e2 R2
      obtain ⟨u1, u2, u3⟩ := unlock_at R2.toRelS (e2.at g1) q1
      exact ⟨u1, l.bk _ _ _ f' _ q2 ((e1.trans e2).trans u3) (R2.later u3 u2)⟩
    · intro ρ' st' σ' f' H' ⟨q1, q2⟩ e2 R2
      obtain ⟨u1, u2, u3⟩ := unlock_at R2.toRelS (e2.at g1) q1
      exact ⟨u1, l.ct _ _ _ f' _ q2 ((e1.trans e2).trans u3) (R2.later u3 u2)⟩
/-! ### list.index of any data -/
def rIndexD (K : Kf) : L2.V → List L2.V → Hp → L2.VK → Prop := fun x xs H Q => ∃ (a : Addr) (ys : List L2.V) (y : L2.V) (d : PyData) (es : List PyData) (j : Nat) (e : PyData), x = L2.V.ref a ∧ xs = [y] ∧ L2.SqL K H a ys ∧ L2.Dp K H y d ∧ L2.DpAll K H ys es ∧ (d.canLay0 = true ∧ d.depth ≤ 60) ∧ PyData.canLayAll0 es = true ∧ es[j]? = some e ∧ PyData.eqv e d = true ∧
  (∀ (m : Nat) (e' : PyData), m < j → es[m]? = some e' → PyData.eqv e' d = false) ∧ Q (.int (j : Nat)) H
theorem readsAll_at {h : Heap} : ∀ {vs : List Value} {es : List PyData} {as : List Addr}, ReadsAll h vs es as → vs.length = es.length ∧ ∀ (i : Nat) (e : PyData), es[i]? = some e → ∃ u, vs[i]? = some u ∧ ∃ bs, Reads h u e bs
  | [], _, _, r => by cases r; exact ⟨rfl, by simp⟩
  | u :: vs, _, _, r => by
    cases r with
    | cons h1 h2 =>
      obtain ⟨a, b⟩ := readsAll_at h2
      refine ⟨by simp [a], fun i e he => ?_⟩
      cases i with
      | zero => simp at he; subst he; exact ⟨u, rfl, _, h1⟩
      | succ i => exact b i e (by simpa using he)
theorem hit_eq {h : Heap} {d : PyData} {u : Value} {e : PyData} {bs : List Addr} (ru : Reads h u e bs) (he : e.canLay0 = true) : hitV h d u = PyData.eqv e d := by
  cases h1 : PyData.eqv e d with
  | true => exact hitV_iff.mpr ⟨e, bs, ru, h1⟩
  | false =>
    cases h2 : hitV h d u with
    | false => rfl
    | true =>
      obtain ⟨e', bs', r', h'⟩ := hitV_iff.mp h2
      rw [← reads_fun e e' u _ _ he ru r', h1] at h'
      cases h'
theorem mt_indexD (hu : X.A.units + 64 < cLine) : L2.MtR X "list.index" (rIndexD X.K) := by
  intro pins s σ H x xs v us Q I rx rxs h
  obtain ⟨a, ys, y, d, es, j, e, rfl, rfl, hs, hx, hxs, hd, hes, hz, hzj, hno, q⟩ := h
  cases rx
  cases rxs with
  | cons ry rt =>
    rename_i uy ut
    cases rt
    obtain ⟨as, rv0⟩ := L2.Dp.reads I d y uy hx ry
    obtain ⟨its, rv, ⟨⟨cls, dd, data, sl⟩, n, ho, hc, hdn, hdt⟩, hlen⟩ := I.list hs
    simp only at hc hdt
    subst hc hdt
    obtain ⟨bs, ra⟩ := L2.Dp.readsAll I es ys its hxs rv
    obtain ⟨hl1, hat⟩ := readsAll_at ra
    obtain ⟨m1, _⟩ := readsAll_mem ra
    obtain ⟨u, hu1, cs, ru⟩ := hat j e hz
    obtain ⟨hjl, hje⟩ := List.getElem?_eq_some_iff.mp hu1
    have hj : j < its.toArray.size := by simpa using hjl
    have hsl := sizeLine_eq
    have hvl := rv.length
    have hA : X.A.in1.units + 61 < cLine := by show X.A.units + 1 + 61 < cLine; omega
    refine call_meets PySem.F.slot_list_index ⟨_, ho, rfl⟩ PySem.F.entry_list_index (PySem.F.args_list_index_2 _ _)
      (SeqAt.list_indexAt a its.toArray n dd sl uy (hitV s.heap d) j hj (by omega) ?_ ?_) ⟨ho, fun u' hu' => ?_, ?_⟩
    · have e1 : its.toArray[j] = u := by simpa using hje
      rw [e1, hit_eq ru (canLay_mem hes e (List.mem_of_getElem? hz))]
      exact hzj
    · intro m hm hmj
      have hml : m < its.length := by simpa using hm
      have hme : m < es.length := by omega
      have hy' : es[m]? = some es[m] := List.getElem?_eq_getElem hme
      obtain ⟨u2, hu2, cs2, ru2⟩ := hat m _ hy'
      obtain ⟨_, hme2⟩ := List.getElem?_eq_some_iff.mp hu2
      have e1 : its.toArray[m] = u2 := by simpa using hme2
      rw [e1, hit_eq ru2 (canLay_mem hes _ (List.mem_of_getElem? hy'))]
      exact hno m _ hmj hy'
    · obtain ⟨e', he', cs', rw'⟩ := m1 u' (by simpa using hu')
      exact hit_eqAt rv0 hd rw' (canLay_mem hes e' he') hA
    · exact ⟨.int (j : Nat), H, I.tok _, ⟨_, rfl⟩, q⟩
theorem toPs_at : ∀ {xs : List D} {i : Nat}, (toPs xs)[i]? = (xs[i]?).map toP
  | [], i => by simp [toPs]
  | x :: xs, 0 => by simp [toPs]
  | x :: xs, i + 1 => by
    have := toPs_at (xs := xs) (i := i)
    simp only [toPs, List.getElem?_cons_succ]
    exact this
theorem okds_mem : ∀ {xs : List D} {i : Nat} {z : D}, okds 60 xs = true → xs[i]? = some z → D.okd 60 z = true
  | [], _, _, _, h => by simp at h
  | x :: xs, 0, z, h, e => by
    have h' : D.okd 60 x = true ∧ okds 60 xs = true := by simpa [okds] using h
    simp at e; subst e; exact h'.1
  | x :: xs, i + 1, z, h, e => by
    have h' : D.okd 60 x = true ∧ okds 60 xs = true := by simpa [okds] using h
    exact okds_mem h'.2 (by simpa using e)
theorem real_indexD : RealM K (rIndexD K) indexDM := fun f st H x xs v vs Q' Q s r1 r2 h l => by
  cases x <;> try (exact h.elim)
  match xs, h with
  | [], h => exact h.elim
  | y :: _ :: _, h => exact (show False from h).elim
  | [y], h =>
    obtain ⟨ys, j, z, h0, h1, h2, h3, h4, h5, h6⟩ := h
    rw [RD.ref] at r1
    obtain ⟨a, e, rfl⟩ := r1
    obtain ⟨w, rfl, r3⟩ := r2.inv1
    obtain ⟨a', us, g1, g2, g3⟩ := s.rdA h0
    rw [e] at g1; cases g1
    have okz : ∀ {i : Nat} {z : D}, ys[i]? = some z → D.okd 60 z = true := fun hz => okds_mem h2 hz
    refine ⟨a, us, w, _, _, j, toP z, rfl, rfl, g2, toP_dp y h1 r3, toPs_dp _ h2 g3, toP_ok y h1, (toPs_ok _ h2).1, ?_, ?_, fun m e' hm he' => ?_, l.now s h6 (RD.int.mpr rfl)⟩
    · rw [toPs_at, h3]; rfl
    · rw [toP_eqv z y (okz h3) h1]; exact h4
    · rw [toPs_at] at he'
      cases hq : ys[m]? with
      | none => rw [hq] at he'; cases he'
      | some z' =>
        rw [hq] at he'
        cases he'
        rw [toP_eqv z' y (okz hq) h1]
        exact h5 m z' hm hq
/-! ### list(range(i, j, -1)) -/
def dnV (a b : Int) : List L2.V := (List.range (a - b).toNat).map fun i => L2.V.int (a - (i : Nat))
theorem dnV_length (a b : Int) : (dnV a b).length = (a - b).toNat := by unfold dnV; rw [List.length_map, List.length_range]
theorem vals_dn {a b : Int} {acc : Array Value} (h : ItemsOf (fun i v => ∃ t, v = .int (a + i * (-1)) t) acc (a - b).toNat) : L2.Vals (dnV a b) acc.toList := by
  have e : acc.toList.length = (a - b).toNat := by rw [Array.length_toList]; exact h.1
  unfold dnV
  rw [← e]
  refine L2.vals_of_get acc.toList _ fun j u hj => ?_
  obtain ⟨t, rfl⟩ := h.2 j u (by rw [← hj, Array.getElem?_toList])
  exact ⟨t, by congr 1; omega⟩
theorem rngD_dnV (a b : Int) : RDs K f H (rngD a (a - b).toNat) (dnV a b) := by
  have e1 : rngD a (a - b).toNat = ((List.range (a - b).toNat).map fun (k : Nat) => a - (k : Int)).map D.int := by unfold rngD; simp
  have e2 : dnV a b = ((List.range (a - b).toNat).map fun (k : Nat) => a - (k : Int)).map L2.V.int := by unfold dnV; simp
  rw [e1, e2]; exact RDs.of_ints _
def tLstDn (ta : L2.TA) : L2.TE := fun σ H Q => ta σ H fun vs H1 => ∃ i j : Int, vs = [.int i, .int j, .int (-1)] ∧ (-(2 ^ 62) ≤ i ∧ i < 2 ^ 62 ∧ -(2 ^ 62) ≤ j ∧ j < 2 ^ 62 ∧ (i - j).toNat ≤ 2 ^ 24) ∧ ∀ q, H1 q = none → Q (.ref q) (L2.upd H1 q (.lst (dnV i j)))
open PyProof.Rows L2 in
theorem pe_lstDn {a b c : Expr} {ta : L2.TA} {p p2 pos pos2 : Pos} (hc : X.calm = true) (hg : L2.Gl X "list") (hm : X.mg "list" = none) (hg2 : L2.Gl X "range") (hm2 : X.mg "range" = none) (ha : L2.PA X [a, b, c] ta)
    (na : starEach [.Call (.Name "range" p2) [a, b, c] [] pos2] X.env = (false, eval (.Call (.Name "range" p2) [a, b, c] [] pos2) X.env) :: starEach [] X.env := by rfl)
    (hs : starEach [a, b, c] X.env = (false, eval a X.env) :: starEach [b, c] X.env := by rfl) (hpl : (backTo pos2 (starEach [b, c] X.env)).any (·.1) = false := by rfl) :
    L2.PE X (.Call (.Name "list" p) [.Call (.Name "range" p2) [a, b, c] [] pos2] [] pos) (tLstDn ta) := by
  refine ⟨fun pins s σ H Q I h => ?_⟩
  have inner : wpAny (model X.prog X.w) X.A (eval (.Call (.Name "range" p2) [a, b, c] [] pos2) X.env) (fun x s' => ∃ (r : Addr) (i j : Int) (t u v : PySem.Tok) (H' : Hp), x = .ref r ∧ IsRange s'.heap r i j (-1) t u v ∧ L2.Inv X pins σ H' s' ∧ ((-(2 ^ 62) ≤ i ∧ i < 2 ^ 62 ∧ -(2 ^ 62) ≤ j ∧ j < 2 ^ 62 ∧ (i - j).toNat ≤ 2 ^ 24) ∧ ∀ q, H' q = none → Q (.ref q) (L2.upd H' q (.lst (dnV i j))))) X.xe s := by
    refine Call_ (ld_blt I hg2 hm2 boot_range (PyProof.Rows.callWith_type1 (thn (ha.run pos2 pins s σ H _ I h) fun us s1 ⟨vs, H1, I1, r1, q1⟩ => ?_) hs hpl))
    obtain ⟨i, j, e, q⟩ := q1
    subst e
    cases r1 with
    | cons r rr =>
      cases rr with
      | cons r' rr =>
        cases rr with
        | cons r'' rr =>
          cases rr
          obtain ⟨t, rfl⟩ := r
          obtain ⟨t', rfl⟩ := r'
          obtain ⟨t'', rfl⟩ := r''
          refine call_range_3 (by decide) ?_ (.inl (PyProof.noPylong_small (by decide)))
          exact ⟨_, i, j, _, _, _, H1, rfl, IsRange.new .., I1.kept fun b o e => Heap.get?_push_of_some _ e, q⟩
  refine Call_ (ld_blt I hg hm boot_list (PyProof.Rows.callWith_type1 (args_cons (thn inner fun x s1 ⟨r, i, j, t, u, v, H1, ex, hr, I1, ok, q⟩ => args_nil ?_) na) na))
  subst ex
  obtain ⟨b1, b2, b3, b4, b5⟩ := ok
  refine call_list_range (n := (i - j).toNat) (I1.ok.hd hc) hr (PySem.W.small_down b1 b2 b3 b4) (PySem.W.rangeSize_downNat i j) b5 fun h' tk acc c' hk e' hi => ?_
  refine ⟨.ref s1.heap.objs.size, L2.upd H1 s1.heap.objs.size (.lst (dnV i j)), I1.laid hk (Nat.le_refl _) (show L2.ObjOk X.prog X.w _ _ _ (.lst (dnV i j)) from ⟨?_, acc.toList, c', vals_dn hi, ?_⟩), rfl, q _ (I1.hok.fresh (Nat.le_refl _))⟩
  · rw [dnV_length, sizeLine_eq]; omega
  · rw [Array.toArray_toList]; exact e'
theorem pd_lstRD {a b : Expr} {ta tb : TE} {p p1 p2 p3 pos pos2 : Pos} {k1 : _} (hc : X.calm = true) (hg : L2.Gl X "list") (hm : X.mg "list" = none) (hg2 : L2.Gl X "range") (hm2 : X.mg "range" = none) (h : PD X a ta) (h' : PD X b tb)
    (na : starEach [.Call (.Name "range" p2) [a, b, .UnaryOp .USub (.Constant (.int 1) k1 p1) p3] [] pos2] X.env = (false, eval (.Call (.Name "range" p2) [a, b, .UnaryOp .USub (.Constant (.int 1) k1 p1) p3] [] pos2) X.env) :: starEach [] X.env := by rfl)
    (hs : starEach [a, b, .UnaryOp .USub (.Constant (.int 1) k1 p1) p3] X.env = (false, eval a X.env) :: starEach [b, .UnaryOp .USub (.Constant (.int 1) k1 p1) p3] X.env := by rfl) (hs2 : starEach [b, .UnaryOp .USub (.Constant (.int 1) k1 p1) p3] X.env = (false, eval b X.env) :: starEach [.UnaryOp .USub (.Constant (.int 1) k1 p1) p3] X.env := by rfl)
    (hs3 : starEach [.UnaryOp .USub (.Constant (.int 1) k1 p1) p3] X.env = (false, eval (.UnaryOp .USub (.Constant (.int 1) k1 p1) p3) X.env) :: starEach [] X.env := by rfl) (hpl : (backTo pos2 (starEach [b, .UnaryOp .USub (.Constant (.int 1) k1 p1) p3] X.env)).any (·.1) = false := by rfl) :
    PD X (.Call (.Name "list" p) [.Call (.Name "range" p2) [a, b, .UnaryOp .USub (.Constant (.int 1) k1 p1) p3] [] pos2] [] pos) (dLRD ta tb) :=
  pe_imp (pe_lstDn hc hg hm hg2 hm2 (L2.pa_cons h (L2.pa_cons h' (L2.pa_cons (pd_neg pd_int) L2.pa_nil hs3) hs2) hs) na hs hpl) fun σ H Q ⟨f, ρ, st, Q', Re, h, l⟩ => ⟨f, ρ, st, _, Re, h, fun x st1 v f1 H1 q1 e1 s1 r1 => ⟨f1, ρ, st1, _, Re.later e1 s1, q1, fun y st2 w f2 H2 q2 e2 s2 r2 => by
    obtain ⟨i, j, rfl, rfl, hb, h3⟩ := q2
    have r1' := r1.mono e2
    rw [RD.int] at r1' r2
    subst r1'; subst r2
    refine ⟨f2, ρ, st2, fun z st3 => z = .int (-1) ∧ st3 = st2, Re.later (e1.trans e2) s2, ⟨rfl, rfl⟩, fun z st3 u f3 H3 q3 e3 s3 r3 => ?_⟩
    obtain ⟨rfl, rfl⟩ := q3
    rw [RD.int] at r3
    subst r3
    exact ⟨i, j, rfl, hb, fun p hp => (l.later ((e1.trans e2).trans e3)).lst s3 h3 (rngD_dnV i j) hp⟩⟩⟩
end
end Pd
end PartPdSoundO

section PartPdMore7
set_option Elab.async false
set_option linter.all false
set_option maxRecDepth 100000
/-! Pd: more readings: a list's items to names, list.count of any pure data. Own work. -/
namespace Pd
open PySem
/-- a, b = a list or a tuple -/
def gLstT (gs : TGs) (n : Nat) : TG := fun d σ st Q => ∃ m xs, d = .ref m ∧ rdA st m xs ∧ xs.length = n ∧ gs xs σ st Q
/-- .count(x), any pure data -/
def countDM : KM
  | .ref n, [x], st, Q => ∃ xs, rdA st n xs ∧ D.okd 60 x = true ∧ okds 60 xs = true ∧ Q (.int (xs.countP fun y => D.eqb y x : Nat)) st
  | _, _, _, _ => False
/-- a, b, c = e, f, g of three locals: no tuple is made -/
def Par3K (i j l : Nat) (xs : List D) (σ : Env) (q : Env → Prop) : Prop := ∃ x y z, xs = [x, y, z] ∧ q (((σ.set i (some x)).set j (some y)).set l (some z))
def sPar3 (i j l : Nat) (t : TA) : TS := fun D σ st => t σ st fun xs st1 => Par3K i j l xs σ fun σ' => D.nx σ' st1
instance {i j l : Nat} {Ar : TA} {D0 : Ends} {σ : Env} {st : Store} : Red (sPar3 i j l Ar D0 σ st) (Ar σ st fun xs st1 => Par3K i j l xs σ fun σ' => D0.nx σ' st1) := ⟨id⟩
instance {i j l : Nat} {σ σ1 σ2 σ3 : Env} {x y z : D} {q : Env → Prop} [h : SetE σ i (some x) σ1] [h' : SetE σ1 j (some y) σ2] [h'' : SetE σ2 l (some z) σ3] : Red (Par3K i j l [x, y, z] σ q) (q σ3) := ⟨fun p => ⟨x, y, z, rfl, by rw [h.eq, h'.eq, h''.eq]; exact p⟩⟩
theorem gLst_at {gs : TGs} {n m : Nat} {xs : List D} {σ : Env} {st : Store} {Q : Env → Store → Prop} (h : rdL st m xs) (hl : xs.length = n) (q : gs xs σ st Q) : gLstT gs n (.ref m) σ st Q := ⟨m, xs, rfl, .inl h, hl, q⟩
theorem countD_at {st : Store} {n : Nat} {xs : List D} {x : D} {Q : K} (h : rdL st n xs) (hx : D.okd 60 x = true) (hxs : okds 60 xs = true) (q : Q (.int (xs.countP fun y => D.eqb y x : Nat)) st) : countDM (.ref n) [x] st Q := ⟨xs, .inl h, hx, hxs, q⟩
end Pd
end PartPdMore7

section PartPdSoundP
set_option Elab.async false
set_option linter.all false
set_option maxRecDepth 100000
set_option maxHeartbeats 1000000
/-! Pd over the hand layer: a list's items to names, list.count of data. Own work. -/
namespace Pd
open PySem PySem.Spec
section
variable {X : L2.Cx} {K : Kf} {f f' : List Addr} {H H' : Hp} {st st' : Store} {ρ : Env} {σ : L2.St}
theorem pg_lstT {es : List Expr} {k : Nat} {pos : Pos} {gs : TGs} {vs : List Nat} {n : Nat} (hc : X.calm = true) (h : PDGs X es gs vs)
    (hn : (assignEach es X.env).length = n := by rfl) (hst : (assignEach es X.env).findIdx? (·.1) = none := by rfl) : PDG X (.Tuple es k pos) (gLstT gs n) vs :=
  pg_imp (L2.pg_lst hc h hn hst) fun v σ H Q ⟨f, ρ, st, d, Q', R, r, h, l⟩ => by
    obtain ⟨m, ds, rfl, hr, hl, h⟩ := h
    rw [RD.ref] at r
    obtain ⟨a, ea, rfl⟩ := r
    obtain ⟨a', us, g1, g2, g3⟩ := R.toRelS.rdA hr
    rw [ea] at g1; cases g1
    exact ⟨a, us, rfl, g2, by rw [g3.length]; exact hl, f, ρ, st, ds, Q', R, g3, h, l⟩
theorem inv3 {x y z : D} {vs : List L2.V} (h : RDs K f H [x, y, z] vs) : ∃ u v w, vs = [u, v, w] ∧ RD K f H x u ∧ RD K f H y v ∧ RD K f H z w := by
  rw [RDs.cons] at h
  obtain ⟨u, r, rfl, h1, h2⟩ := h
  obtain ⟨v, w, rfl, h3, h4⟩ := h2.inv2
  exact ⟨u, v, w, rfl, h1, h3, h4⟩
theorem ps_par3 {i j l : Nat} {x y z : Str} {a b c : Expr} {ts : TA} {px py pz pt pos : Pos} {kt k2 pt2} (h0 : L2.PS X (.Assign [.Tuple [.Name x px, .Name y py, .Name z pz] kt pt] (.Tuple [a, b, c] k2 pt2) pos) (L2.tPar3 i j l (liftA X.K ts))) : PDS X (.Assign [.Tuple [.Name x px, .Name y py, .Name z pz] kt pt] (.Tuple [a, b, c] k2 pt2) pos) (sPar3 i j l ts) := ps_imp h0 fun D σ H ⟨f, ρ, st, D', R, h, l⟩ =>
  ⟨f, ρ, st, _, R, h, fun xs st1 vs f1 H1 q e1 s1 r1 => by
    obtain ⟨x, y, z, rfl, q⟩ := q
    obtain ⟨u, v, w, rfl, r2, r3, r4⟩ := inv3 r1
    exact ⟨u, v, w, rfl, l.nx _ st1 _ f1 H1 q e1 ((((R.later e1 s1).put r2).put r3).put r4)⟩⟩
def rCountD (K : Kf) : L2.V → List L2.V → Hp → L2.VK → Prop := fun x xs H Q => ∃ (a : Addr) (ys : List L2.V) (y : L2.V) (d : PyData) (es : List PyData), x = L2.V.ref a ∧ xs = [y] ∧ L2.SqL K H a ys ∧ L2.Dp K H y d ∧ L2.DpAll K H ys es ∧ (d.canLay0 = true ∧ d.depth ≤ 60) ∧ PyData.canLayAll0 es = true ∧ Q (.int (es.countP fun e => PyData.eqv e d : Nat)) H
theorem count_hit {h : Heap} {d : PyData} : ∀ {us : List Value} {es : List PyData} {as : List Addr}, ReadsAll h us es as → PyData.canLayAll0 es = true → us.countP (hitV h d) = es.countP fun e => PyData.eqv e d
  | [], _, _, r, _ => by cases r; rfl
  | u :: us, _, _, r, hc => by
    cases r with
    | cons h1 h2 =>
      simp only [PyData.canLayAll0, Bool.and_eq_true] at hc
      rw [List.countP_cons, List.countP_cons, count_hit h2 hc.2, hit_eq h1 hc.1]
theorem mt_countD (hu : X.A.units + 64 < cLine) : L2.MtR X "list.count" (rCountD X.K) := by
  intro pins s σ H x xs v us Q I rx rxs h
  obtain ⟨a, ys, y, d, es, rfl, rfl, hs, hx, hxs, hd, hes, q⟩ := h
  cases rx
  cases rxs with
  | cons ry rt =>
    rename_i uy ut
    cases rt
    obtain ⟨as, rv0⟩ := L2.Dp.reads I d y uy hx ry
    obtain ⟨its, rv, ⟨⟨cls, dd, data, sl⟩, n, ho, hc, hdn, hdt⟩, hlen⟩ := I.list hs
    simp only at hc hdt
    subst hc hdt
    obtain ⟨bs, ra⟩ := L2.Dp.readsAll I es ys its hxs rv
    obtain ⟨m1, _⟩ := readsAll_mem ra
    have hA : X.A.in1.units + 61 < cLine := by show X.A.units + 1 + 61 < cLine; omega
    refine call_meets PySem.F.slot_list_count ⟨_, ho, rfl⟩ PySem.F.entry_list_count (PySem.F.args_list_count_2 _ _)
      (SeqAt.list_countAt a its.toArray n dd sl uy (hitV s.heap d)) ⟨ho, fun u' hu' => ?_, ?_⟩
    · obtain ⟨e', he', cs', rw'⟩ := m1 u' (by simpa using hu')
      exact hit_eqAt rv0 hd rw' (canLay_mem hes e' he') hA
    · refine ⟨.int (es.countP fun e => PyData.eqv e d : Nat), H, I.tok _, ⟨s.toks, ?_⟩, q⟩
      rw [← count_hit ra hes]
theorem toPs_count {x : D} (hx : D.okd 60 x = true) : ∀ {xs : List D}, okds 60 xs = true → ((toPs xs).countP fun e => PyData.eqv e (toP x)) = xs.countP fun y => D.eqb y x
  | [], _ => by simp [toPs]
  | y :: ys, h => by
    have h' : D.okd 60 y = true ∧ okds 60 ys = true := by simpa [okds] using h
    simp only [toPs, List.countP_cons]
    rw [toP_eqv y x h'.1 hx, toPs_count hx h'.2]
theorem real_countD : RealM K (rCountD K) countDM := fun f st H x xs v vs Q' Q s r1 r2 h l => by
  cases x <;> try (exact h.elim)
  match xs, h with
  | [], h => exact h.elim
  | y :: _ :: _, h => exact (show False from h).elim
  | [y], h =>
    obtain ⟨ys, h0, h1, h2, h6⟩ := h
    rw [RD.ref] at r1
    obtain ⟨a, e, rfl⟩ := r1
    obtain ⟨w, rfl, r3⟩ := r2.inv1
    obtain ⟨a', us, g1, g2, g3⟩ := s.rdA h0
    rw [e] at g1; cases g1
    refine ⟨a, us, w, _, _, rfl, rfl, g2, toP_dp y h1 r3, toPs_dp _ h2 g3, toP_ok y h1, (toPs_ok _ h2).1, ?_⟩
    rw [toPs_count h1 h2]
    exact l.now s h6 (RD.int.mpr rfl)
end
end Pd
end PartPdSoundP

section PartPdMore8
set_option Elab.async false
set_option linter.all false
set_option maxRecDepth 100000
/-! Pd: more readings: zip of three lists. Own work. -/
namespace Pd
open PySem
def zip3D : List D → List D → List D → List D
  | x :: xs, y :: ys, u :: us => .tup [x, y, u] :: zip3D xs ys us
  | _, _, _ => []
def zip3K : D → D → D → Store → (Iter → Store → Prop) → Prop
  | .ref m, .ref n, .ref p, st, R => ∃ xs ys us, rdA st m xs ∧ rdA st n ys ∧ rdA st p us ∧ R ⟨zip3D xs ys us, fun s => rdA s m xs ∧ rdA s n ys ∧ rdA s p us⟩ st
  | _, _, _, _, _ => False
def iZip3 (t u v : TE) : TI := fun σ st R => t σ st fun x st1 => u σ st1 fun y st2 => v σ st2 fun z st3 => zip3K x y z st3 R
section
variable {σ : Env} {st : Store} {ta tb tc : TE}
instance {R : Iter → Store → Prop} : Red (iZip3 ta tb tc σ st R) (ta σ st fun x st1 => tb σ st1 fun y st2 => tc σ st2 fun z st3 => zip3K x y z st3 R) := ⟨id⟩
end
theorem zip3_at {st : Store} {m n p : Nat} {xs ys us : List D} {R : Iter → Store → Prop} (h : rdL st m xs) (h' : rdL st n ys) (h'' : rdL st p us) (q : R ⟨zip3D xs ys us, fun s => rdA s m xs ∧ rdA s n ys ∧ rdA s p us⟩ st) : zip3K (.ref m) (.ref n) (.ref p) st R := ⟨xs, ys, us, .inl h, .inl h', .inl h'', q⟩
theorem zip3D_maps {α β γ : Type} (f : α → D) (g : β → D) (h : γ → D) : ∀ (xs : List α) (ys : List β) (us : List γ), zip3D (xs.map f) (ys.map g) (us.map h) = (xs.zip (ys.zip us)).map fun p => D.tup [f p.1, g p.2.1, h p.2.2]
  | [], _, _ => by simp [zip3D]
  | _ :: _, [], _ => by simp [zip3D]
  | _ :: _, _ :: _, [] => by simp [zip3D]
  | x :: xs, y :: ys, u :: us => by simp [zip3D, zip3D_maps f g h xs ys us]
end Pd
end PartPdMore8

section PartPdSoundQ
set_option Elab.async false
set_option linter.all false
set_option maxRecDepth 100000
set_option maxHeartbeats 1000000
/-! Pd over the hand layer: zip of three lists. Own work. -/
namespace Pd
open PySem PySem.Spec PyProof.Rows
/-- the lists at a, b and c as they stand at each turn, the items in new tuples -/
def Itz3 (K : Kf) (a b c : Addr) : L2.It :=
  ⟨fun i H => ∃ (xs ys us : List L2.V) (x y u : L2.V), L2.SqL K H a xs ∧ L2.SqL K H b ys ∧ L2.SqL K H c us ∧ xs[i]? = some x ∧ ys[i]? = some y ∧ us[i]? = some u,
    fun i H v H' => ∃ T x y u, v = .ref T ∧ H T = none ∧ H' = L2.upd H T (.tup [x, y, u]) ∧ (∀ xs, L2.SqL K H a xs → xs[i]? = some x) ∧ (∀ ys, L2.SqL K H b ys → ys[i]? = some y) ∧ ∀ us, L2.SqL K H c us → us[i]? = some u,
    fun i H => ∃ xs ys us : List L2.V, L2.SqL K H a xs ∧ L2.SqL K H b ys ∧ L2.SqL K H c us ∧ i ≤ xs.length ∧ i ≤ ys.length ∧ i ≤ us.length ∧ (i = xs.length ∨ i = ys.length ∨ i = us.length)⟩
theorem turn_zip3 {P : Program} {w : World} {K : Kf} {elts : List Expr} {kk : Nat} {tpos : Pos} {a b e z TI TO i1 i2 i3 : Addr} (D : ZipSep3 z TI TO i1 i2 i3 [i1, a] [i2, b] [i3, e]) (na : a ≠ i1) (nb : b ≠ i2) (ne : e ≠ i3) :
    L2.Turn P w K (.Tuple elts kk tpos) (Itz3 K a b e) [z, TI, TO, i1, i2, i3] z (fun i h => IsZip h z TI TO .none ∧ IsTupOf3 h TI (.ref i1) (.ref i2) (.ref i3) ∧ (∃ x y u, IsTupOf3 h TO x y u) ∧ h.IsListIter i1 a i ∧ h.IsListIter i2 b i ∧ h.IsListIter i3 e i) where
  mem := by simp
  obj := fun i h st c hc => by
    obtain ⟨hz, hTI, ⟨x, y, u, hTO⟩, ⟨o1, e1, _, d1⟩, ⟨o2, e2, _, d2⟩, ⟨o3, e3, _, d3⟩⟩ := st
    have e' : c = z ∨ c = TI ∨ c = TO ∨ c = i1 ∨ c = i2 ∨ c = i3 := by simpa using hc
    rcases e' with q | q | q | q | q | q
    · rw [q]; exact ⟨_, hz, fun v q => nomatch q⟩
    · rw [q]; exact ⟨_, hTI, fun v q => nomatch q⟩
    · rw [q]; exact ⟨_, hTO, fun v q => nomatch q⟩
    · rw [q]; exact ⟨o1, e1, fun v q => by rw [d1] at q; cases q⟩
    · rw [q]; exact ⟨o2, e2, fun v q => by rw [d2] at q; cases q⟩
    · rw [q]; exact ⟨o3, e3, fun v q => by rw [d3] at q; cases q⟩
  keep := fun i h h' st k => by
    obtain ⟨hz, hTI, ⟨x, y, u, hTO⟩, h1, h2, h3⟩ := st
    exact ⟨k z (by simp) _ hz, k TI (by simp) _ hTI, ⟨x, y, u, k TO (by simp) _ hTO⟩, h1.at fun o q => k i1 (by simp) o q, h2.at fun o q => k i2 (by simp) o q, h3.at fun o q => k i3 (by simp) o q⟩
  item := by
    intro X hP hw hK hc i pins s σ H E I hf st hg
    subst hP hw hK
    obtain ⟨hz, hTI, ⟨x0, y0, u0, hTO⟩, h1, h2, h3⟩ := st
    obtain ⟨xs, ys, us, x, y, u, hqx, hqy, hqu, hx, hy, hu3⟩ := hg
    obtain ⟨its, rv, p, _⟩ := I.list hqx
    obtain ⟨its2, rv2, p2, _⟩ := I.list hqy
    obtain ⟨its3, rv3, p3, _⟩ := I.list hqu
    obtain ⟨v1, hv1, ru⟩ := rv.get hx
    obtain ⟨v2, hv2, ru2⟩ := rv2.get hy
    obtain ⟨v3, hv3, ru3⟩ := rv3.get hu3
    have hzl : z < s.heap.objs.size := Heap.lt_size hz
    have l1 := (List.getElem?_eq_some_iff.mp hv1).1
    have l2 := (List.getElem?_eq_some_iff.mp hv2).1
    have l3 := (List.getElem?_eq_some_iff.mp hv3).1
    refine wpAny_pyNext_zipD3_item D (Draws.list (A := X.A.in1) (I.ok.hd hc) i1 a na its.toArray) (Draws.list (A := X.A.in1) (I.ok.hd hc) i2 b nb its2.toArray) (Draws.list (A := X.A.in1) (I.ok.hd hc) i3 e ne its3.toArray) hz hTI hTO ⟨h1, p.isList⟩ ⟨h2, p2.isList⟩ ⟨h3, p3.isList⟩ (by simpa using l1) (by simpa using l2) (by simpa using l3) fun u1' u2' u3' h' tk w1 w2 w3 z' TO' st1' st2' st3' hT hsz hk => ?_
    have eu : u1' = v1 := by
      have : its.toArray[i]? = some u1' := w1
      rw [show its.toArray[i]? = its[i]? by simp, hv1] at this
      exact (Option.some.inj this).symm
    have eu2 : u2' = v2 := by
      have : its2.toArray[i]? = some u2' := w2
      rw [show its2.toArray[i]? = its2[i]? by simp, hv2] at this
      exact (Option.some.inj this).symm
    have eu3 : u3' = v3 := by
      have : its3.toArray[i]? = some u3' := w3
      rw [show its3.toArray[i]? = its3[i]? by simp, hv3] at this
      exact (Option.some.inj this).symm
    subst eu; subst eu2; subst eu3
    refine ⟨_, rfl, wpAny_letOwnedTupleGo_zip (s := { s with heap := h', toks := tk }) z' fun h'' z'' sb => ?_⟩
    have hT2 : h''.get? s.heap.objs.size = some { cls := .type "tuple", data := .seq #[u1', u2', u3'] } := (sb.2 _ (Nat.ne_of_gt hzl)).trans hT
    have new : L2.ObjOk X.prog X.w (L2.upd H s.heap.objs.size (.tup [x, y, u])) h'' s.heap.objs.size (.tup [x, y, u]) :=
      ⟨by show 3 ≤ sizeLine; decide, [u1', u2', u3'], .cons ru (.cons ru2 (.cons ru3 .nil)), ⟨_, hT2, rfl, _, rfl⟩⟩
    have I1 : L2.Inv X pins σ (L2.upd H s.heap.objs.size (.tup [x, y, u])) { s with heap := h'', toks := tk } :=
      I.turnedNew (t' := tk) (ch := [z, TI, TO, i1, i2, i3]) (fun c o hb q => (sb.2 c (fun q' => hb (by simp [q']))).trans (hk c o (fun q' => hb (by simp [q'])) (fun q' => hb (by simp [q'])) (fun q' => hb (by simp [q'])) (fun q' => hb (by simp [q'])) (fun q' => hb (by simp [q'])) q)) hf (Nat.le_refl _) new
    refine ⟨.ref s.heap.objs.size, _, I1, rfl, ⟨_, x, y, u, rfl, I.hok.fresh (Nat.le_refl _), rfl, fun l hl => by rw [I.list_inj hl hqx]; exact hx, fun l hl => by rw [I.list_inj hl hqy]; exact hy, fun l hl => by rw [I.list_inj hl hqu]; exact hu3⟩, ⟨z'', ?_, ⟨u1', u2', u3', ?_⟩, ?_, ?_, ?_⟩, fun c hcm => ?_⟩
    · exact (sb.2 _ D.TIz).trans (hk _ _ D.TIz D.TITO D.TIi1 D.TIi2 D.TIi3 hTI)
    · exact (sb.2 _ D.TOz).trans TO'
    · exact st1'.1.at fun o q => (sb.2 _ (Ne.symm D.zi1)).trans q
    · exact st2'.1.at fun o q => (sb.2 _ (Ne.symm D.zi2)).trans q
    · exact st3'.1.at fun o q => (sb.2 _ (Ne.symm D.zi3)).trans q
    · have hlt : c < s.heap.objs.size := by
        have e' : c = z ∨ c = TI ∨ c = TO ∨ c = i1 ∨ c = i2 ∨ c = i3 := by simpa using hcm
        rcases e' with q | q | q | q | q | q
        · rw [q]; exact hzl
        · rw [q]; exact Heap.lt_size hTI
        · rw [q]; exact Heap.lt_size hTO
        · rw [q]; obtain ⟨_, e1, _⟩ := h1; exact Heap.lt_size e1
        · rw [q]; obtain ⟨_, e2, _⟩ := h2; exact Heap.lt_size e2
        · rw [q]; obtain ⟨_, e3, _⟩ := h3; exact Heap.lt_size e3
      rw [L2.upd_ne (Nat.ne_of_lt hlt)]
      exact (hf c hcm).1
  done := by
    intro X hP hw hK hc i pins s σ H E I hf st hg
    subst hP hw hK
    obtain ⟨hz, hTI, ⟨x0, y0, u0, hTO⟩, h1, h2, h3⟩ := st
    obtain ⟨xs, ys, us, hqx, hqy, hqu, hle1, hle2, hle3, hend⟩ := hg
    obtain ⟨its, rv, p, _⟩ := I.list hqx
    obtain ⟨its2, rv2, p2, _⟩ := I.list hqy
    obtain ⟨its3, rv3, p3, _⟩ := I.list hqu
    have l1 := rv.length
    have l2 := rv2.length
    have l3 := rv3.length
    exact wpAny_pyNext_zipD3_end D (Draws.list (A := X.A.in1) (I.ok.hd hc) i1 a na its.toArray) (Draws.list (A := X.A.in1) (I.ok.hd hc) i2 b nb its2.toArray) (Draws.list (A := X.A.in1) (I.ok.hd hc) i3 e ne its3.toArray) hz hTI hTO ⟨h1, p.isList⟩ ⟨h2, p2.isList⟩ ⟨h3, p3.isList⟩ (by simp; omega) (by simp; omega) (by simp; omega) (by simp; omega) fun h' tk hk => ⟨rfl, I.turnedL (t' := tk) (ch := [z, TI, TO, i1, i2, i3]) (fun c o hb q =>
      hk c o (fun q' => hb (by simp [q'])) (fun q' => hb (by simp [q'])) (fun q' => hb (by simp [q'])) (fun q' => hb (by simp [q'])) (fun q' => hb (by simp [q'])) q) hf⟩
  self := fun A i s Q E st h => wpAny_pyIter_zip st.1 h
def iZip3A (K : Kf) (ta : L2.TA) : L2.TI := fun σ H R => ta σ H fun vs H1 => ∃ a b c xs ys us, vs = [.ref a, .ref b, .ref c] ∧ L2.SqL K H1 a xs ∧ L2.SqL K H1 b ys ∧ L2.SqL K H1 c us ∧ R (Itz3 K a b c) H1
theorem pi_zip3A {X : L2.Cx} {e e2 e3 : Expr} {ta : L2.TA} {p pos tpos : Pos} {elts : List Expr} {kk : Nat} (hg : L2.Gl X "zip") (hm : X.mg "zip" = none) (ha : L2.PA X [e, e2, e3] ta)
    (hs : starEach [e, e2, e3] X.env = (false, eval e X.env) :: starEach [e2, e3] X.env := by rfl) (hpl : (backTo pos (starEach [e2, e3] X.env)).any (·.1) = false := by rfl) :
    L2.PI X (.Tuple elts kk tpos) (.Call (.Name "zip" p) [e, e2, e3] [] pos) (iZip3A X.K ta) := by
  refine ⟨fun pins s σ H R I h => ?_⟩
  refine Call_ (L2.ld_blt I hg hm PyProof.Rows.boot_zip (PyProof.Rows.callWith_type1 (L2.thn (ha.run pos pins s σ H _ I h) fun us s1 ⟨vs, H1, I1, r1, q1⟩ => ?_) hs hpl))
  obtain ⟨a, b, c3, xs, ys, us', ex, hqx, hqy, hqu, q⟩ := q1
  subst ex
  cases r1 with
  | cons r rr =>
    cases rr with
    | cons r' rr =>
      cases rr with
      | cons r'' rr =>
        cases rr
        cases r
        cases r'
        cases r''
        have fresh6 : ∀ c, c ∈ [s1.heap.objs.size + 5, s1.heap.objs.size + 3, s1.heap.objs.size + 4, s1.heap.objs.size, s1.heap.objs.size + 1, s1.heap.objs.size + 2] → L2.FpOk X pins H1 c := fun c hcm => by
          have e' : c = s1.heap.objs.size + 5 ∨ c = s1.heap.objs.size + 3 ∨ c = s1.heap.objs.size + 4 ∨ c = s1.heap.objs.size ∨ c = s1.heap.objs.size + 1 ∨ c = s1.heap.objs.size + 2 := by simpa using hcm
          have hle : s1.heap.objs.size ≤ c := by
            rcases e' with z | z | z | z | z | z
            · rw [z]; exact Nat.le_add_right _ _
            · rw [z]; exact Nat.le_add_right _ _
            · rw [z]; exact Nat.le_add_right _ _
            · rw [z]; exact Nat.le_refl _
            · rw [z]; exact Nat.le_add_right _ _
            · rw [z]; exact Nat.le_add_right _ _
          exact I1.fpOk hle (I1.hok.fresh hle)
        obtain ⟨its, rv, p1, _⟩ := I1.list hqx
        obtain ⟨its2, rv2, p2, _⟩ := I1.list hqy
        obtain ⟨its3, rv3, p3, _⟩ := I1.list hqu
        have la : a < s1.heap.objs.size := p1.lt
        have lb : b < s1.heap.objs.size := p2.lt
        have lc : c3 < s1.heap.objs.size := p3.lt
        refine zip_begins3 (begins_list a its.toArray) (begins_list b its2.toArray) (begins_list c3 its3.toArray) p1.isList p2.isList p3.isList fun h' hz hTI hTO g1 g2 g3 hsz hk => wpAny_pyIter_zip hz ?_
        have I2 : L2.Inv X pins σ H1 { s1 with heap := h' } := I1.kept (t' := s1.toks) hk
        have sep := zip_sep3 (N := s1.heap.objs.size) (fp1 := [a]) (fp2 := [b]) (fp3 := [c3]) (fun c hc => by rw [List.mem_singleton] at hc; rw [hc]; exact la) (fun c hc => by rw [List.mem_singleton] at hc; rw [hc]; exact lb) (fun c hc => by rw [List.mem_singleton] at hc; rw [hc]; exact lc)
        exact ⟨s1.heap.objs.size + 5, [s1.heap.objs.size + 5, s1.heap.objs.size + 3, s1.heap.objs.size + 4, s1.heap.objs.size, s1.heap.objs.size + 1, s1.heap.objs.size + 2], _, _, H1, rfl, I2, turn_zip3 sep (Nat.ne_of_lt la) (Nat.ne_of_lt (Nat.lt_succ_of_lt lb)) (Nat.ne_of_lt (Nat.lt_succ_of_lt (Nat.lt_succ_of_lt lc))), ⟨hz, hTI, ⟨_, _, _, hTO⟩, ⟨_, g1, rfl, rfl⟩, ⟨_, g2, rfl, rfl⟩, ⟨_, g3, rfl, rfl⟩⟩, fresh6, q⟩
section
variable {X : L2.Cx} {K : Kf} {f : List Addr} {H : Hp} {a b c : Expr} {ta tb tc : TE} {es : List Expr} {pos : Pos}
theorem zip3D_get : ∀ {xs ys us : List D} {i : Nat} {d : D}, (zip3D xs ys us)[i]? = some d → ∃ x y u, d = .tup [x, y, u] ∧ xs[i]? = some x ∧ ys[i]? = some y ∧ us[i]? = some u
  | [], _, _, _, _, h => by simp [zip3D] at h
  | _ :: _, [], _, _, _, h => by simp [zip3D] at h
  | _ :: _, _ :: _, [], _, _, h => by simp [zip3D] at h
  | x :: xs, y :: ys, u :: us, 0, d, h => by simp [zip3D] at h; exact ⟨x, y, u, h.symm, rfl, rfl, rfl⟩
  | x :: xs, y :: ys, u :: us, i + 1, d, h => by
    obtain ⟨x', y', u', h1, h2, h3, h4⟩ := zip3D_get (xs := xs) (ys := ys) (us := us) (i := i) (by simpa [zip3D] using h)
    exact ⟨x', y', u', h1, by simpa using h2, by simpa using h3, by simpa using h4⟩
theorem zip3D_length : ∀ (xs ys us : List D), (zip3D xs ys us).length = min xs.length (min ys.length us.length)
  | [], _, _ => by simp [zip3D]
  | _ :: _, [], _ => by simp [zip3D]
  | _ :: _, _ :: _, [] => by simp [zip3D]
  | x :: xs, y :: ys, u :: us => by simp [zip3D, zip3D_length xs ys us]
theorem realI_zip3 {m n p : Nat} {a b c : Addr} {xs ys us : List D} (hm : f[m]? = some a) (hn : f[n]? = some b) (hp : f[p]? = some c) : RealI K f H ⟨zip3D xs ys us, fun s => rdA s m xs ∧ rdA s n ys ∧ rdA s p us⟩ (Itz3 K a b c) where
  go := fun i f2 st2 H2 e2 s2 g hi => by
    have hi : i < (zip3D xs ys us).length := hi
    rw [zip3D_length] at hi
    obtain ⟨a', vs, k1, k2, k3⟩ := s2.rdA g.1
    obtain ⟨b', ws, j1, j2, j3⟩ := s2.rdA g.2.1
    obtain ⟨c', ts, l1, l2, l3⟩ := s2.rdA g.2.2
    rw [e2.at hm] at k1; cases k1
    rw [e2.at hn] at j1; cases j1
    rw [e2.at hp] at l1; cases l1
    obtain ⟨v, hv⟩ := k3.at_lt (i := i) (by omega)
    obtain ⟨w, hw⟩ := j3.at_lt (i := i) (by omega)
    obtain ⟨t, ht⟩ := l3.at_lt (i := i) (by omega)
    exact ⟨vs, ws, ts, v, w, t, k2, j2, l2, hv, hw, ht⟩
  stop := fun f2 st2 H2 e2 s2 g => by
    obtain ⟨a', vs, k1, k2, k3⟩ := s2.rdA g.1
    obtain ⟨b', ws, j1, j2, j3⟩ := s2.rdA g.2.1
    obtain ⟨c', ts, l1, l2, l3⟩ := s2.rdA g.2.2
    rw [e2.at hm] at k1; cases k1
    rw [e2.at hn] at j1; cases j1
    rw [e2.at hp] at l1; cases l1
    refine ⟨vs, ws, ts, k2, j2, l2, ?_⟩
    show (zip3D xs ys us).length ≤ vs.length ∧ (zip3D xs ys us).length ≤ ws.length ∧ (zip3D xs ys us).length ≤ ts.length ∧ ((zip3D xs ys us).length = vs.length ∨ (zip3D xs ys us).length = ws.length ∨ (zip3D xs ys us).length = ts.length)
    rw [zip3D_length, k3.length, j3.length, l3.length]; omega
  yld := fun i f2 st2 H2 d x H3 e2 s2 g hd y => by
    obtain ⟨a', vs, k1, k2, k3⟩ := s2.rdA g.1
    obtain ⟨b', ws, j1, j2, j3⟩ := s2.rdA g.2.1
    obtain ⟨c', ts, l1, l2, l3⟩ := s2.rdA g.2.2
    rw [e2.at hm] at k1; cases k1
    rw [e2.at hn] at j1; cases j1
    rw [e2.at hp] at l1; cases l1
    obtain ⟨T, x1, x2, x3, rfl, hT, rfl, y1, y2, y3⟩ := y
    obtain ⟨d1, d2, d3, rfl, g1, g2, g3⟩ := zip3D_get hd
    obtain ⟨v, h1, h2⟩ := k3.get g1
    obtain ⟨w, h3, h4⟩ := j3.get g2
    obtain ⟨t, h5, h6⟩ := l3.get g3
    have q1 := y1 vs k2
    have q2 := y2 ws j2
    have q3 := y3 ts l2
    rw [h1] at q1; cases q1
    rw [h3] at q2; cases q2
    rw [h5] at q3; cases q3
    obtain ⟨s', e'⟩ := s2.lay (o := .tup [x1, x2, x3]) hT
    refine ⟨e', s', RD.tup.mpr ⟨T, [x1, x2, x3], rfl, .of L2.upd_same, ?_⟩⟩
    rw [RDs.cons]
    refine ⟨x1, [x2, x3], rfl, h2.mono e', ?_⟩
    rw [RDs.cons]
    exact ⟨x2, [x3], rfl, h4.mono e', RDs.one (h6.mono e')⟩
theorem pi_zip3 {p tp : Pos} {kk : Nat} (hg : L2.Gl X "zip") (hm : X.mg "zip" = none) (h : PD X a ta) (h' : PD X b tb) (h'' : PD X c tc) (hs : starEach [a, b, c] X.env = (false, eval a X.env) :: starEach [b, c] X.env := by rfl) (hs2 : starEach [b, c] X.env = (false, eval b X.env) :: starEach [c] X.env := by rfl) (hs3 : starEach [c] X.env = (false, eval c X.env) :: starEach [] X.env := by rfl)
    (hpl : (backTo pos (starEach [b, c] X.env)).any (·.1) = false := by rfl) : PDI X (.Tuple es kk tp) (.Call (.Name "zip" p) [a, b, c] [] pos) (iZip3 ta tb tc) :=
  pi_imp (pi_zip3A hg hm (L2.pa_cons h (L2.pa_cons h' (L2.pa_cons h'' L2.pa_nil hs3) hs2) hs) hs hpl) fun σ H R ⟨f, ρ, st, R', Re, h, l⟩ => ⟨f, ρ, st, _, Re, h, fun x st1 v f1 H1 q1 e1 s1 r1 => ⟨f1, ρ, st1, _, Re.later e1 s1, q1, fun y st2 w f2 H2 q2 e2 s2 r2 => ⟨f2, ρ, st2, _, (Re.later e1 s1).later e2 s2, q2, fun z st3 w3 f3 H3 q3 e3 s3 r3 => by
    have r1' := (r1.mono e2).mono e3
    have r2' := r2.mono e3
    cases x <;> cases y <;> cases z <;> try (exact q3.elim)
    rw [RD.ref] at r1' r2' r3
    obtain ⟨a, g1, rfl⟩ := r1'
    obtain ⟨b, g2, rfl⟩ := r2'
    obtain ⟨c, g3, rfl⟩ := r3
    obtain ⟨xs, ys, us, q4, q5, q6, q7⟩ := q3
    obtain ⟨a', vs, k1, k2, k3⟩ := s3.rdA q4
    obtain ⟨b', ws, j1, j2, j3⟩ := s3.rdA q5
    obtain ⟨c', ts, l1, l2, l3⟩ := s3.rdA q6
    rw [g1] at k1; cases k1
    rw [g2] at j1; cases j1
    rw [g3] at l1; cases l1
    exact ⟨a, b, c, vs, ws, ts, rfl, k2, j2, l2, l _ st3 _ f3 H3 q7 ((e1.trans e2).trans e3) s3 (realI_zip3 g1 g2 g3)⟩⟩⟩⟩
end
end Pd
end PartPdSoundQ

section PartPdMore9
set_option Elab.async false
set_option linter.all false
set_option maxRecDepth 100000
/-! Pd: more readings: list(zip(a, b)) of two lists. Own work. -/
namespace Pd
open PySem
def lzK : D → D → Store → K → Prop
  | .ref m, .ref n, st, Q => ∃ xs ys, rdA st m xs ∧ rdA st n ys ∧ Q (.ref st.length) (st ++ [.lst (zipD xs ys)])
  | _, _, _, _ => False
def dLZ (t u : TE) : TE := fun σ st Q => t σ st fun x st1 => u σ st1 fun y st2 => lzK x y st2 Q
theorem lz_at {st : Store} {m n : Nat} {xs ys : List D} {Q : K} (h : rdL st m xs) (h' : rdL st n ys) (q : Q (.ref st.length) (st ++ [.lst (zipD xs ys)])) : lzK (.ref m) (.ref n) st Q := ⟨xs, ys, .inl h, .inl h', q⟩
instance {σ : Env} {st : Store} {ta tb : TE} {Q : K} : Red (dLZ ta tb σ st Q) (ta σ st fun x st1 => tb σ st1 fun y st2 => lzK x y st2 Q) := ⟨id⟩
end Pd
end PartPdMore9

section PartPdSoundR
set_option Elab.async false
set_option linter.all false
set_option maxRecDepth 100000
set_option maxHeartbeats 1000000
/-! Pd over the hand layer: list(zip(a, b)) of two lists. Own work. -/
namespace PdR
open PySem PySem.Spec PyProof.Rows
theorem nolen_zip : typeLookup (.type "zip") "__len__" = pure none := by rw [typeLookup_type, builtinLookup_eq_fast]; kernel_rfl
theorem nohint_zip : typeLookup (.type "zip") "__length_hint__" = pure none := by rw [typeLookup_type, builtinLookup_eq_fast]; kernel_rfl
/-- the zip in the midst of a list's making: Ts the tuples made so far, all at N or behind -/
structure ZL (N z TI TO i1 i2 l1 l2 S : Addr) (xs ys : Array Value) (Ts : List Addr) (h : Heap) : Prop where
  zip : (Ts = [] ∧ IsZip h z TI TO .none ∧ ∃ a b, IsPair h TO a b) ∨ (∃ T f, T ∈ Ts ∧ IsZipHeld h z TI TO T f)
  ti : IsPair h TI (.ref i1) (.ref i2)
  h1 : h.IsListIter i1 l1 Ts.length
  h2 : h.IsListIter i2 l2 Ts.length
  L1 : h.IsList l1 xs
  L2 : h.IsList l2 ys
  prs : ∀ (j : Nat) T, Ts[j]? = some T → ∃ x y, xs[j]? = some x ∧ ys[j]? = some y ∧ IsPair h T x y
  asc : Ts.Pairwise (· < ·)
  low : ∀ T ∈ Ts, N ≤ T
  lst : ∃ c, h.get? S = some { cls := .type "list", dict := none, data := .seq (Ts.map Value.ref).toArray c, slots := #[] }
  big : N ≤ h.objs.size
structure Apart (N z TI TO i1 i2 l1 l2 S : Addr) : Prop where
  D : ZipApart z TI TO i1 i2 l1 l2
  zN : z < N
  tiN : TI < N
  toN : TO < N
  i1N : i1 < N
  i2N : i2 < N
  l1N : l1 < N
  l2N : l2 < N
  SN : S < N
  Sz : S ≠ z
  STI : S ≠ TI
  STO : S ≠ TO
  Si1 : S ≠ i1
  Si2 : S ≠ i2
  Sl1 : S ≠ l1
  Sl2 : S ≠ l2
section
variable {prog : Program} {w : World} {A : Around} {R : Result → Shared → Prop} {N z TI TO i1 i2 l1 l2 S : Addr} {xs ys : Array Value}
/-- one more tuple, and it is put at the list's end -/
theorem ZL.next {Ts : List Addr} {h h' h'' : Heap} (P : Apart N z TI TO i1 i2 l1 l2 S) (Z : ZL N z TI TO i1 i2 l1 l2 S xs ys Ts h) {x y : Value} {f : Bool} {T : Addr}
    (hz : IsZipHeld h' z TI TO T f) (hT : T = h.objs.size ∨ T ∈ Ts) (a1 : h'.IsListIter i1 l1 (Ts.length + 1)) (a2 : h'.IsListIter i2 l2 (Ts.length + 1)) (hx : xs[Ts.length]? = some x) (hy : ys[Ts.length]? = some y) (hp : IsPair h' h.objs.size x y) (hs : h'.objs.size = h.objs.size + 1)
    (k : ∀ c o, c ≠ z → c ≠ TO → c ≠ i1 → c ≠ i2 → h.get? c = some o → h'.get? c = some o) (k2 : ∀ c, c ≠ S → h''.get? c = h'.get? c) (hs2 : h''.objs.size = h'.objs.size)
    (hS : ∃ c, h''.get? S = some { cls := .type "list", dict := none, data := .seq ((Ts ++ [h.objs.size]).map Value.ref).toArray c, slots := #[] }) : ZL N z TI TO i1 i2 l1 l2 S xs ys (Ts ++ [h.objs.size]) h'' := by
  have up : ∀ {c : Addr} {o : Obj}, c ≠ S → h'.get? c = some o → h''.get? c = some o := fun hc e => (k2 _ hc).trans e
  have all : ∀ T', T' ∈ Ts → T' < h.objs.size := fun T' hT' => by
    obtain ⟨j, hj⟩ := List.mem_iff_getElem?.mp hT'
    obtain ⟨x', y', _, _, e⟩ := Z.prs j T' hj
    exact Heap.lt_size e
  have big := Z.big
  refine ⟨.inr ⟨T, f, ?_, up P.Sz.symm hz⟩, up P.STI.symm (k _ _ P.D.TIz P.D.TITO P.D.TIi1 P.D.TIi2 Z.ti), ?_, ?_, ?_, ?_, fun j T' hj => ?_, ?_, fun T' hT' => ?_, hS, by rw [hs2, hs]; exact Nat.le_succ_of_le big⟩
  · rcases hT with e | e
    · rw [e]; simp
    · exact List.mem_append_left _ e
  · rw [List.length_append]; exact a1.at fun o e => up P.Si1.symm e
  · rw [List.length_append]; exact a2.at fun o e => up P.Si2.symm e
  · exact Z.L1.at fun o e => up P.Sl1.symm (k _ _ P.D.l1z P.D.l1TO P.D.l1i1 P.D.l1i2 e)
  · exact Z.L2.at fun o e => up P.Sl2.symm (k _ _ P.D.l2z P.D.l2TO P.D.l2i1 P.D.l2i2 e)
  · have SN := P.SN
    have zN := P.zN
    have toN := P.toN
    have i1N := P.i1N
    have i2N := P.i2N
    rcases Nat.lt_or_ge j Ts.length with hlt | hge
    · rw [List.getElem?_append_left hlt] at hj
      obtain ⟨x', y', e1, e2, e3⟩ := Z.prs j T' hj
      have := Z.low T' (List.mem_of_getElem? hj)
      exact ⟨x', y', e1, e2, up (Nat.ne_of_gt (Nat.lt_of_lt_of_le SN this)) (k _ _ (Nat.ne_of_gt (Nat.lt_of_lt_of_le zN this)) (Nat.ne_of_gt (Nat.lt_of_lt_of_le toN this)) (Nat.ne_of_gt (Nat.lt_of_lt_of_le i1N this)) (Nat.ne_of_gt (Nat.lt_of_lt_of_le i2N this)) e3)⟩
    · have hj2 := (List.getElem?_eq_some_iff.mp hj).1
      rw [List.length_append] at hj2
      have e : j = Ts.length := Nat.le_antisymm (Nat.le_of_lt_succ hj2) hge
      subst e
      rw [List.getElem?_append_right (Nat.le_refl _), Nat.sub_self] at hj
      have e : h.objs.size = T' := by injection hj
      subst e
      exact ⟨x, y, hx, hy, up (Nat.ne_of_gt (Nat.lt_of_lt_of_le SN big)) hp⟩
  · rw [List.pairwise_append]
    exact ⟨Z.asc, by simp, fun a ha b hb => by rw [List.mem_singleton] at hb; rw [hb]; exact all a ha⟩
  · rcases List.mem_append.mp hT' with e | e
    · exact Z.low T' e
    · rw [List.mem_singleton] at e; rw [e]; exact big
/-- the list is made -/
structure ZE (N S : Addr) (xs ys : Array Value) (Ts : List Addr) (h : Heap) : Prop where
  len : Ts.length = min xs.size ys.size
  prs : ∀ (j : Nat) T, Ts[j]? = some T → ∃ x y, xs[j]? = some x ∧ ys[j]? = some y ∧ IsPair h T x y
  asc : Ts.Pairwise (· < ·)
  low : ∀ T ∈ Ts, N ≤ T
  lst : ∃ c, h.get? S = some { cls := .type "list", dict := none, data := .seq (Ts.map Value.ref).toArray c, slots := #[] }
theorem ZL.done {Ts : List Addr} {h h' : Heap} (P : Apart N z TI TO i1 i2 l1 l2 S) (Z : ZL N z TI TO i1 i2 l1 l2 S xs ys Ts h) (hl : Ts.length = min xs.size ys.size) (k : ∀ c o, c ≠ z → c ≠ TO → c ≠ i1 → c ≠ i2 → h.get? c = some o → h'.get? c = some o) : ZE N S xs ys Ts h' := by
  refine ⟨hl, fun j T hj => ?_, Z.asc, Z.low, ?_⟩
  · obtain ⟨x, y, e1, e2, e3⟩ := Z.prs j T hj
    have := Z.low T (List.mem_of_getElem? hj)
    exact ⟨x, y, e1, e2, k _ _ (Nat.ne_of_gt (Nat.lt_of_lt_of_le P.zN this)) (Nat.ne_of_gt (Nat.lt_of_lt_of_le P.toN this)) (Nat.ne_of_gt (Nat.lt_of_lt_of_le P.i1N this)) (Nat.ne_of_gt (Nat.lt_of_lt_of_le P.i2N this)) e3⟩
  · obtain ⟨c, e⟩ := Z.lst
    exact ⟨c, k _ _ P.Sz P.STO P.Si1 P.Si2 e⟩
theorem zip_loop (hh : A.handled = none) (P : Apart N z TI TO i1 i2 l1 l2 S) (hn : min xs.size ys.size ≤ sizeLine) (res : Value) :
    ∀ (k : Nat) (s : Shared) (Ts : List Addr), min xs.size ys.size - Ts.length = k → Ts.length ≤ min xs.size ys.size → ZL N z TI TO i1 i2 l1 l2 S xs ys Ts s.heap →
    (∀ h' Ts', (∀ b o, b < N → b ≠ S → b ≠ z → b ≠ TO → b ≠ i1 → b ≠ i2 → s.heap.get? b = some o → h'.get? b = some o) → ZE N S xs ys Ts' h' → R (.ok (.ret res)) { s with heap := h' }) →
    codeAny (model prog w) A (.builtin "list.extend.loop" ⟨[.ref S, .ref z, res], []⟩) R s := by
  intro k
  induction k with
  | zero =>
    intro s Ts hk hle Z hR
    have hl : Ts.length = min xs.size ys.size := by omega
    refine codeAny_builtin F.entry_extend_loop ?_
    rw [Around.under_plainId F.plain_extend_loop _]
    show wpAny _ A.in1 (pyNext (.ref z) >>= _) _ _ s
    have hend : xs[Ts.length]? = none ∨ ys[Ts.length]? = none := by
      rcases Nat.le_total xs.size ys.size with h | h
      · exact .inl (Array.getElem?_eq_none (by omega))
      · exact .inr (Array.getElem?_eq_none (by omega))
    rcases Z.zip with ⟨_, hz, a, b, hTO⟩ | ⟨T, f, hT, hz⟩
    · refine wpAny_bind (wpAny_pyNext_zip_end (A := A.in1) hh P.D hz Z.ti hTO Z.h1 Z.h2 Z.L1 Z.L2 hend fun h' kp => ?_)
      exact wpAny_pure (hR h' Ts (fun b o _ _ q1 q2 q3 q4 e => kp b o q1 q2 q3 q4 e) (Z.done P hl kp))
    · obtain ⟨j, hj⟩ := List.mem_iff_getElem?.mp hT
      obtain ⟨x, y, _, _, eT⟩ := Z.prs j T hj
      refine wpAny_bind (wpAny_pyNext_zip_end_held (A := A.in1) hh P.D hz eT Z.ti Z.h1 Z.h2 Z.L1 Z.L2 hend fun h' kp => ?_)
      exact wpAny_pure (hR h' Ts (fun b o _ _ q1 q2 q3 q4 e => kp b o q1 q3 q4 e) (Z.done P hl fun c o q1 q2 q3 q4 e => kp c o q1 q3 q4 e))
  | succ k ih =>
    intro s Ts hk hle Z hR
    have hlt : Ts.length < min xs.size ys.size := by omega
    have hx1 : Ts.length < xs.size := by omega
    have hy1 : Ts.length < ys.size := by omega
    have hx : xs[Ts.length]? = some xs[Ts.length] := Array.getElem?_eq_getElem hx1
    have hy : ys[Ts.length]? = some ys[Ts.length] := Array.getElem?_eq_getElem hy1
    refine codeAny_builtin F.entry_extend_loop ?_
    rw [Around.under_plainId F.plain_extend_loop _]
    show wpAny _ A.in1 (pyNext (.ref z) >>= _) _ _ s
    obtain ⟨c, hS⟩ := Z.lst
    have go : ∀ (T : Addr) (f : Bool) (h' : Heap), (T = s.heap.objs.size ∨ T ∈ Ts) → IsZipHeld h' z TI TO T f → h'.IsListIter i1 l1 (Ts.length + 1) → h'.IsListIter i2 l2 (Ts.length + 1) → IsPair h' s.heap.objs.size xs[Ts.length] ys[Ts.length] → h'.objs.size = s.heap.objs.size + 1 →
        (∀ c o, c ≠ z → c ≠ TO → c ≠ i1 → c ≠ i2 → s.heap.get? c = some o → h'.get? c = some o) →
        wpAny (model prog w) A.in1 (updateSeq S (·.push (.ref s.heap.objs.size)) >>= fun _ => again (.builtin "list.extend.loop" ⟨[.ref S, .ref z, res], []⟩)) (fun fin s' => match fin with | .done f => R (.ok f) s' | .again c' => c'.quiet = true ∧ codeAny (model prog w) A c' R s') (fun e s' => R (.error e) s') { s with heap := h' } := by
      intro T f h' hT hz a1 a2 hp hsz kp
      have hS' := kp _ _ P.Sz P.STO P.Si1 P.Si2 hS
      refine wpAny_bind ?_
      have hU := Heap.get?_update_self (Obj.mapSeq (·.push (Value.ref s.heap.objs.size))) hS' rfl
      have oth : ∀ b, b ≠ S → (h'.update S (Obj.mapSeq (·.push (Value.ref s.heap.objs.size)))).get? b = h'.get? b := fun b hb => Heap.get?_update_other _ _ (Ne.symm hb)
      have Z' := Z.next P (h'' := h'.update S (Obj.mapSeq (·.push (Value.ref s.heap.objs.size)))) hz hT a1 a2 hx hy hp hsz kp oth (Heap.size_update ..) (by
        have e : ((Ts ++ [s.heap.objs.size]).map Value.ref).toArray = (Ts.map Value.ref).toArray.push (Value.ref s.heap.objs.size) := by simp
        rw [e]
        exact ⟨_, hU⟩)
      refine wpAny_updateSeq (s := { s with heap := h' }) hS' rfl (wpAny_pure ⟨plainId_quiet F.plain_extend_loop _, ih _ (Ts ++ [s.heap.objs.size]) (by rw [List.length_append]; simp; omega) (by rw [List.length_append]; simp; omega) Z' fun h3 Ts' kp3 ZE' => ?_⟩) (by simp; omega) (by simp; omega)
      exact hR h3 Ts' (fun b o bN q0 q1 q2 q3 q4 e => kp3 b o bN q0 q1 q2 q3 q4 ((oth b q0).trans (kp b o q1 q2 q3 q4 e))) ZE'
    rcases Z.zip with ⟨_, hz, a, b, hTO⟩ | ⟨T, f, hT, hz⟩
    · refine wpAny_bind (wpAny_pyNext_zip_item (A := A.in1) P.D hz Z.ti hTO Z.h1 Z.h2 Z.L1 Z.L2 hx hy fun h' z' TO' b1 b2 b3 b4 kp => ?_)
      exact go s.heap.objs.size false h' (.inl rfl) z' b1 b2 b3 b4 kp
    · obtain ⟨j, hj⟩ := List.mem_iff_getElem?.mp hT
      obtain ⟨x, y, _, _, eT⟩ := Z.prs j T hj
      refine wpAny_bind (wpAny_pyNext_zip_item_held (A := A.in1) P.D hz eT Z.ti Z.h1 Z.h2 Z.L1 Z.L2 hx hy fun h' z' b1 b2 b3 b4 kp => ?_)
      exact go T true h' (.inr hT) z' b1 b2 b3 b4 fun c o q1 q2 q3 q4 e => kp c o q1 q3 q4 e
theorem ZL.fresh {h h' : Heap} (P : Apart N z TI TO i1 i2 l1 l2 S) (Z : ZL N z TI TO i1 i2 l1 l2 S xs ys [] h) (oth : ∀ b, b ≠ S → h'.get? b = h.get? b) (hs : h'.objs.size = h.objs.size)
    (hS : ∃ c, h'.get? S = some { cls := .type "list", dict := none, data := .seq #[] c, slots := #[] }) : ZL N z TI TO i1 i2 l1 l2 S xs ys [] h' := by
  have up : ∀ {c : Addr} {o : Obj}, c ≠ S → h.get? c = some o → h'.get? c = some o := fun hc e => (oth _ hc).trans e
  refine ⟨.inl ⟨rfl, ?_⟩, up P.STI.symm Z.ti, Z.h1.at fun o e => up P.Si1.symm e, Z.h2.at fun o e => up P.Si2.symm e, Z.L1.at fun o e => up P.Sl1.symm e, Z.L2.at fun o e => up P.Sl2.symm e, fun j T hj => by simp at hj, .nil, fun T hT => by simp at hT, hS, by rw [hs]; exact Z.big⟩
  rcases Z.zip with ⟨_, hz, a, b, hTO⟩ | ⟨T, f, hT, _⟩
  · exact ⟨up P.Sz.symm hz, a, b, up P.STO.symm hTO⟩
  · simp at hT
theorem zip_extend {s : Shared} (hh : A.handled = none) (P : Apart N z TI TO i1 i2 l1 l2 S) (hn : min xs.size ys.size ≤ sizeLine) (res : Value) (Z : ZL N z TI TO i1 i2 l1 l2 S xs ys [] s.heap)
    (hR : ∀ h' Ts', (∀ b o, b < N → b ≠ S → b ≠ z → b ≠ TO → b ≠ i1 → b ≠ i2 → s.heap.get? b = some o → h'.get? b = some o) → ZE N S xs ys Ts' h' → R (.ok (.ret res)) { s with heap := h' }) :
    wpAny (model prog w) A.in1 (Builtin.List.listExtendWith (.ref S) (.ref z) res)
      (fun fin s' => match fin with | .done f => R (.ok f) s' | .again c' => c'.quiet = true ∧ codeAny (model prog w) A c' R s') (fun e s' => R (.error e) s') s := by
  have hz : IsZip s.heap z TI TO .none := by
    rcases Z.zip with ⟨_, hz, _⟩ | ⟨T, f, hT, _⟩
    · exact hz
    · simp at hT
  have hT : s.TypeIs (.ref z) "zip" := ⟨_, hz, rfl⟩
  have h1 : Builtin.List.listSameRef (.ref S) (.ref z) = false := by simp [Builtin.List.listSameRef, P.Sz]
  obtain ⟨c, hS⟩ := Z.lst
  replace hS : s.heap.get? S = some { cls := .type "list", dict := none, data := .seq #[] c, slots := #[] } := hS
  unfold Builtin.List.listExtendWith
  refine wpAny_bind (wpAny_typeOf hT ?_)
  rw [if_neg (by rw [h1]; decide)]
  refine wpAny_bind (wpAny_pyIter_zip hz ?_)
  refine wpAny_bind (wpAny_holding ?_)
  unfold Builtin.List.listLengthHint
  refine wpAny_bind (wpAny_specialOf hT nolen_zip ?_)
  show wpAny _ A.in1 (specialOf (Value.ref z) (Str.ofString "__length_hint__") >>= _) _ _ _
  refine wpAny_bind (wpAny_specialOf hT nohint_zip ?_)
  refine wpAny_pure ?_
  show wpAny _ A.in1 (rule "list.extend.makes-room" >>= fun _ => Builtin.List.listTouch (.ref S) >>= fun _ =>
    again (.builtin "list.extend.loop" ⟨[.ref S, .ref z, res], []⟩)) _ _ _
  refine wpAny_bind (wpAny_rule ?_)
  refine wpAny_bind ?_
  show wpAny _ A.in1 (updateSeq S (·.push .none) >>= fun _ => updateSeq S (·.pop)) _ _ _
  refine wpAny_bind (wpAny_updateSeq hS rfl ?_)
  have hS₂ := Heap.get?_update_self (Obj.mapSeq (·.push Value.none)) hS rfl
  refine wpAny_updateSeq hS₂ rfl ?_
  have hS₃ := Heap.get?_update_self (Obj.mapSeq (·.pop)) hS₂ rfl
  have oth : ∀ b, b ≠ S → ((s.heap.update S (Obj.mapSeq (·.push Value.none))).update S (Obj.mapSeq (·.pop))).get? b = s.heap.get? b := fun b hb => (Heap.get?_update_other _ _ (Ne.symm hb)).trans (Heap.get?_update_other _ _ (Ne.symm hb))
  have Z' := Z.fresh P oth (by rw [Heap.size_update, Heap.size_update]) ⟨_, hS₃⟩
  refine wpAny_pure ⟨plainId_quiet F.plain_extend_loop _, zip_loop (s := { s with heap := (s.heap.update S (Obj.mapSeq (·.push Value.none))).update S (Obj.mapSeq (·.pop)) }) hh P hn res _ [] rfl (Nat.zero_le _) Z' fun h' Ts' kp ZE' => ?_⟩
  exact hR h' Ts' (fun b o q q0 q1 q2 q3 q4 e => kp b o q q0 q1 q2 q3 q4 ((oth b q0).trans e)) ZE'
theorem zip_init {s : Shared} (hh : A.handled = none) (P : Apart N z TI TO i1 i2 l1 l2 S) (hn : min xs.size ys.size ≤ sizeLine) (Z : ZL N z TI TO i1 i2 l1 l2 S xs ys [] s.heap)
    (hR : ∀ h' Ts', (∀ b o, b < N → b ≠ S → b ≠ z → b ≠ TO → b ≠ i1 → b ≠ i2 → s.heap.get? b = some o → h'.get? b = some o) → ZE N S xs ys Ts' h' → R (.ok (.ret .none)) { s with heap := h' }) :
    wpAny (model prog w) A.in1 (Builtin.«list.__init__» ⟨[.ref S, .ref z], []⟩)
      (fun fin s' => match fin with | .done f => R (.ok f) s' | .again c' => c'.quiet = true ∧ codeAny (model prog w) A c' R s') (fun e s' => R (.error e) s') s := by
  obtain ⟨c, hS⟩ := Z.lst
  replace hS : s.heap.get? S = some { cls := .type "list", dict := none, data := .seq #[] c, slots := #[] } := hS
  show wpAny _ _ (do let old ← Builtin.List.listItems (.ref S); Builtin.List.listUpdate (.ref S) (fun _ => #[]); letGo old.toList.reverse; Builtin.List.listExtendWith (.ref S) (.ref z) .none) _ _ s
  refine wpAny_bind ?_
  unfold Builtin.List.listItems
  refine wpAny_bind (wpAny_seqItems hS rfl (wpAny_pure ?_))
  show wpAny _ _ (updateSeq S (fun _ => #[]) >>= fun _ => letGo (#[] : Array Value).toList.reverse >>= fun _ => Builtin.List.listExtendWith (.ref S) (.ref z) .none) _ _ s
  refine wpAny_bind (wpAny_updateSeq hS rfl ?_)
  have hS₂ := Heap.get?_update_self (Obj.mapSeq (fun _ => (#[] : Array Value))) hS rfl
  have oth : ∀ b, b ≠ S → (s.heap.update S (Obj.mapSeq (fun _ => (#[] : Array Value)))).get? b = s.heap.get? b := fun b hb => Heap.get?_update_other _ _ (Ne.symm hb)
  refine wpAny_bind (wpAny_letGo ?_)
  have Z' := Z.fresh P oth (Heap.size_update ..) ⟨_, hS₂⟩
  exact zip_extend (s := { s with heap := s.heap.update S (Obj.mapSeq (fun _ => (#[] : Array Value))) }) hh P hn .none Z' fun h' Ts' kp ZE' => hR h' Ts' (fun b o q q0 q1 q2 q3 q4 e => kp b o q q0 q1 q2 q3 q4 ((oth b q0).trans e)) ZE'
end
section
variable {prog : Program} {w : World} {A : Around} {E : Value → Shared → Prop} {s : Shared} {z TI TO i1 i2 l1 l2 : Addr} {xs ys : Array Value}
/-- list(a zip): the new list stands at size, its tuples behind it -/
theorem zip_call {Q : Value → Shared → Prop} (hh : A.handled = none) (D : ZipApart z TI TO i1 i2 l1 l2) (hn : min xs.size ys.size ≤ sizeLine) (hz : IsZip s.heap z TI TO .none) (hTI : IsPair s.heap TI (.ref i1) (.ref i2)) (hTO : ∃ a b, IsPair s.heap TO a b)
    (h1 : s.heap.IsListIter i1 l1 0) (h2 : s.heap.IsListIter i2 l2 0) (L1 : s.heap.IsList l1 xs) (L2 : s.heap.IsList l2 ys)
    (hQ : ∀ h' Ts, (∀ b o, b ≠ z → b ≠ TO → b ≠ i1 → b ≠ i2 → s.heap.get? b = some o → h'.get? b = some o) → ZE (s.heap.objs.size + 1) s.heap.objs.size xs ys Ts h' → Q (.ref s.heap.objs.size) { s with heap := h' }) :
    wpAny (model prog w) A (call (.type "list") [.ref z]) Q E s := by
  refine callType_codes (Q₁ := fun obj s₁ => obj = .ref s.heap.objs.size ∧ s₁ = { s with heap := s.heap.push { cls := .type "list", data := .seq #[] } }) PySem.F.called_list (PySem.F.typeCall_list_1 _) PySem.F.entry_list_init
    (code_list_new _ ⟨rfl, rfl⟩) fun obj s₁ h₁ => ?_
  obtain ⟨rfl, rfl⟩ := h₁
  have hS : (s.heap.push { cls := .type "list", data := .seq #[] }).get? s.heap.objs.size = some { cls := .type "list", data := .seq #[] } := Heap.get?_push_size _ rfl
  obtain ⟨a, b, hTO⟩ := hTO
  have lz : z < s.heap.objs.size := Heap.lt_size hz
  have lTI : TI < s.heap.objs.size := Heap.lt_size hTI
  have lTO : TO < s.heap.objs.size := Heap.lt_size hTO
  have li1 : i1 < s.heap.objs.size := by obtain ⟨o, e, _⟩ := h1; exact Heap.lt_size e
  have li2 : i2 < s.heap.objs.size := by obtain ⟨o, e, _⟩ := h2; exact Heap.lt_size e
  have ll1 : l1 < s.heap.objs.size := by obtain ⟨o, e, _⟩ := id L1; exact Heap.lt_size e
  have ll2 : l2 < s.heap.objs.size := by obtain ⟨o, e, _⟩ := id L2; exact Heap.lt_size e
  have P : Apart (s.heap.objs.size + 1) z TI TO i1 i2 l1 l2 s.heap.objs.size := ⟨D, Nat.lt_succ_of_lt lz, Nat.lt_succ_of_lt lTI, Nat.lt_succ_of_lt lTO, Nat.lt_succ_of_lt li1, Nat.lt_succ_of_lt li2, Nat.lt_succ_of_lt ll1, Nat.lt_succ_of_lt ll2, Nat.lt_succ_self _, Nat.ne_of_gt lz, Nat.ne_of_gt lTI, Nat.ne_of_gt lTO, Nat.ne_of_gt li1, Nat.ne_of_gt li2, Nat.ne_of_gt ll1, Nat.ne_of_gt ll2⟩
  have up : ∀ {b : Addr} {o : Obj}, s.heap.get? b = some o → (s.heap.push { cls := .type "list", data := .seq #[] }).get? b = some o := fun e => Heap.get?_push_of_some _ e
  have Z : ZL (s.heap.objs.size + 1) z TI TO i1 i2 l1 l2 s.heap.objs.size xs ys [] (s.heap.push { cls := .type "list", data := .seq #[] }) :=
    ⟨.inl ⟨rfl, up hz, a, b, up hTO⟩, up hTI, h1.at fun o e => up e, h2.at fun o e => up e, L1.push _, L2.push _, fun j T hj => by simp at hj, .nil, fun T hT => by simp at hT, ⟨_, hS⟩, by rw [Heap.size_push]; exact Nat.le_refl _⟩
  refine ⟨⟨_, hS, rfl⟩, PySem.F.args_list_init_2 _ _, zip_init (A := A.in1) (s := { s with heap := s.heap.push { cls := .type "list", data := .seq #[] } }) hh P hn Z (fun h' Ts kp ZE' => ?_)⟩
  exact ⟨rfl, hQ h' Ts (fun b o q1 q2 q3 q4 e => kp b o (Nat.lt_succ_of_lt (Heap.lt_size e)) (Nat.ne_of_lt (Heap.lt_size e)) q1 q2 q3 q4 (up e)) ZE'⟩
end
/-- pairs laid at their places -/
def layT (H : L2.Hp) : List (Addr × L2.V × L2.V) → L2.Hp
  | [] => H
  | p :: r => L2.upd (layT H r) p.1 (.tup [p.2.1, p.2.2])
theorem vals_refs : ∀ Ts : List Addr, L2.Vals (Ts.map L2.V.ref) (Ts.map Value.ref)
  | [] => .nil
  | T :: r => .cons (show L2.RelV (.ref T) (.ref T) from rfl) (vals_refs r)
theorem layT_old {H : L2.Hp} {b : Addr} : ∀ {ts : List (Addr × L2.V × L2.V)}, (∀ p ∈ ts, p.1 ≠ b) → layT H ts b = H b
  | [], _ => rfl
  | p :: r, h => by
    show L2.upd (layT H r) p.1 _ b = _
    rw [L2.upd_ne (h p (by simp)).symm]
    exact layT_old fun q hq => h q (List.mem_cons_of_mem _ hq)
theorem layT_some {H : L2.Hp} {b : Addr} {o : L2.HO} : ∀ {ts : List (Addr × L2.V × L2.V)}, layT H ts b = some o → (∃ p ∈ ts, b = p.1 ∧ o = .tup [p.2.1, p.2.2]) ∨ H b = some o
  | [], h => .inr h
  | p :: r, h => by
    have h : L2.upd (layT H r) p.1 _ b = some o := h
    by_cases e : b = p.1
    · subst e
      rw [L2.upd_same] at h
      cases h
      exact .inl ⟨p, by simp, rfl, rfl⟩
    · rw [L2.upd_ne e] at h
      rcases layT_some h with ⟨q, hq, e1, e2⟩ | h
      · exact .inl ⟨q, List.mem_cons_of_mem _ hq, e1, e2⟩
      · exact .inr h
section
open L2
variable {X : L2.Cx} {pins : List (Addr × Obj)} {σ : List (Option L2.V)} {H H' : Hp} {s : Shared} {h' : Heap}
theorem turnedMany {t' : Nat} {ch : List Addr} (I : L2.Inv X pins σ H s) (k : ∀ b o, b ∉ ch → s.heap.get? b = some o → h'.get? b = some o) (hf : ∀ b ∈ ch, L2.FpOk X pins H b) (hnew : ∀ b, b < s.heap.objs.size → H' b = H b)
    (new : ∀ b o, ¬ b < s.heap.objs.size → H' b = some o → L2.ObjOk X.prog X.w H' h' b o) : L2.Inv X pins σ H' { s with heap := h', toks := t' } := by
  have nit : ∀ b u, H b = some u → b ∉ ch := fun b u e z => by
    have q := (hf b z).1
    rw [q] at e; cases e
  have old : ∀ {b u}, H b = some u → H' b = some u := fun {b u} e => by rw [hnew b (I.hok.lt e)]; exact e
  refine I.step (g' := s.gens) (d' := s.drawn) (ch := ch) (fun b hb => ⟨(hf b hb).2.2.2.1, (hf b hb).2.1, (hf b hb).2.2.2.2.1, (hf b hb).2.2.2.2.2⟩) (fun b o _ _ hc e _ => k b o hc e) (fun b o _ _ hc e _ => ⟨o.slots, k b o hc e⟩)
    (fun b o _ e n => ?_) (fun b o hc e => ⟨o, k b o hc e⟩) (fun b xs e => old e) (fun b o u e => old e) (fun b ps e => ⟨#[], ?_⟩) (fun m hm => ?_) (fun b u e => ?_) I.bare
  · rw [hnew b (Heap.lt_size e)]; exact n
  · rw [old e]; simp
  · obtain ⟨o, es, ep, ho, r⟩ := hm
    exact ⟨o, es, ep, k _ o (fun z => (hf _ z).2.1 rfl) ho, r⟩
  · by_cases hb : b < s.heap.objs.size
    · have e' : H b = some u := by rw [← hnew b hb]; exact e
      refine (I.hok b u e').stay (fun c v hc q => k c v ?_ q) (fun c q => old q) fun c xs q => old q
      rcases hc with z | z
      · rw [z]; exact nit b u e'
      · exact nit c _ z
    · exact new b u hb e
/-- list(zip(x, y)), x and y lists: a new list of new tuples -/
def tLstZip (K : PySem.W.Frag) (ta : L2.TA) : L2.TE := fun σ H Q => ta σ H fun vs H1 => ∃ (a b : Addr) (xs ys : List L2.V), vs = [.ref a, .ref b] ∧ L2.SqL K H1 a xs ∧ L2.SqL K H1 b ys ∧
  ∀ (S : Addr) (Ts : List Addr), H1 S = none → S ∉ Ts → (∀ T ∈ Ts, H1 T = none) → Ts.Pairwise (· < ·) → Ts.length = min xs.length ys.length → Q (.ref S) (L2.upd (layT H1 (Ts.zip (xs.zip ys))) S (.lst (Ts.map L2.V.ref)))
theorem pe_lstZip {e e2 : Expr} {ta : L2.TA} {p p2 pos pos2 : Pos} (hc : X.calm = true) (hg : L2.Gl X "list") (hm : X.mg "list" = none) (hg2 : L2.Gl X "zip") (hm2 : X.mg "zip" = none) (ha : L2.PA X [e, e2] ta)
    (hs : starEach [e, e2] X.env = (false, eval e X.env) :: starEach [e2] X.env := by rfl) (hpl : (backTo pos2 (starEach [e2] X.env)).any (·.1) = false := by rfl)
    (hs2 : starEach [.Call (.Name "zip" p2) [e, e2] [] pos2] X.env = (false, eval (.Call (.Name "zip" p2) [e, e2] [] pos2) X.env) :: starEach [] X.env := by rfl) :
    L2.PE X (.Call (.Name "list" p) [.Call (.Name "zip" p2) [e, e2] [] pos2] [] pos) (tLstZip X.K ta) := by
  refine ⟨fun pins s σ H Q I h => ?_⟩
  refine Call_ (L2.ld_blt I hg hm (by rfl) (PyProof.Rows.callWith_type1 (args_cons (Call_ (L2.ld_blt I hg2 hm2 PyProof.Rows.boot_zip (PyProof.Rows.callWith_type1 (L2.thn (ha.run pos2 pins s σ H _ I h) fun us s1 ⟨vs, H1, I1, r1, q1⟩ => ?_) hs hpl))) hs2) hs2 rfl))
  obtain ⟨a, b, xs, ys, ex, hqx, hqy, q⟩ := q1
  subst ex
  cases r1 with
  | cons r rr =>
    cases rr with
    | cons r' rr =>
      cases rr
      cases r
      cases r'
      obtain ⟨its, rv, p1, hzx⟩ := I1.list hqx
      obtain ⟨its2, rv2, p2', hzy⟩ := I1.list hqy
      have la : a < s1.heap.objs.size := p1.lt
      have lb : b < s1.heap.objs.size := p2'.lt
      refine zip_begins2 (begins_list a its.toArray) (begins_list b its2.toArray) p1.isList p2'.isList fun h' hz hTI hTO g1 g2 hsz hk => args_nil ?_
      have fr : ∀ {c : Addr}, s1.heap.objs.size ≤ c → L2.FpOk X pins H1 c := fun hle => I1.fpOk hle (I1.hok.fresh hle)
      have I2 : L2.Inv X pins σ H1 { s1 with heap := h' } := I1.kept (t' := s1.toks) hk
      have e1 := rv.length
      have e2 := rv2.length
      refine zip_call (s := { s1 with heap := h' }) (I1.ok.hd hc) (PySem.W.ktu_apart s1.heap.objs.size a b la lb) (xs := its.toArray) (ys := its2.toArray) (by rw [List.size_toArray, List.size_toArray]; omega) hz hTI ⟨_, _, hTO⟩ ⟨_, g1, rfl, rfl⟩ ⟨_, g2, rfl, rfl⟩ (p1.isList.at fun o e => hk _ o e) (p2'.isList.at fun o e => hk _ o e) fun h'' Ts kp Z => ?_
      have hlen : Ts.length = min xs.length ys.length := by rw [Z.len, List.size_toArray, List.size_toArray, e1, e2]
      have hbig : ∀ T ∈ Ts, h'.objs.size < T := fun T hT => Z.low T hT
      have hmem : ∀ p ∈ Ts.zip (xs.zip ys), p.1 ∈ Ts := fun p hp => (List.of_mem_zip hp).1
      obtain ⟨c, hS⟩ := Z.lst
      have I3 : L2.Inv X pins σ (L2.upd (layT H1 (Ts.zip (xs.zip ys))) h'.objs.size (.lst (Ts.map L2.V.ref))) { { s1 with heap := h' } with heap := h'', toks := s1.toks } :=
        turnedMany (s := { s1 with heap := h' }) I2 (ch := [s1.heap.objs.size + 4, s1.heap.objs.size + 3, s1.heap.objs.size, s1.heap.objs.size + 1]) (fun b o hb e => kp b o (fun q' => hb (by simp [q'])) (fun q' => hb (by simp [q'])) (fun q' => hb (by simp [q'])) (fun q' => hb (by simp [q'])) e)
          (fun b hb => by
            have e' : b = s1.heap.objs.size + 4 ∨ b = s1.heap.objs.size + 3 ∨ b = s1.heap.objs.size ∨ b = s1.heap.objs.size + 1 := by simpa using hb
            rcases e' with q | q | q | q
            · rw [q]; exact fr (Nat.le_add_right _ _)
            · rw [q]; exact fr (Nat.le_add_right _ _)
            · rw [q]; exact fr (Nat.le_refl _)
            · rw [q]; exact fr (Nat.le_add_right _ _))
          (fun b hb => by
            have hb : b < h'.objs.size := hb
            rw [L2.upd_ne (Nat.ne_of_lt hb)]
            exact layT_old fun p hp => Nat.ne_of_gt (Nat.lt_trans hb (hbig _ (hmem p hp))))
          (fun b o hb e => by
            have hb : ¬ b < h'.objs.size := hb
            by_cases hbS : b = h'.objs.size
            · subst hbS
              rw [L2.upd_same] at e
              cases e
              exact ⟨by rw [List.length_map]; omega, Ts.map Value.ref, c, vals_refs Ts, hS⟩
            · rw [L2.upd_ne hbS] at e
              rcases layT_some e with ⟨p, hp, rfl, rfl⟩ | e
              · obtain ⟨j, hj⟩ := List.mem_iff_getElem?.mp hp
                obtain ⟨j1, j2⟩ := List.getElem?_zip_eq_some.mp hj
                obtain ⟨j3, j4⟩ := List.getElem?_zip_eq_some.mp j2
                obtain ⟨x, y, x1, y1, pr⟩ := Z.prs j _ j1
                obtain ⟨u, hu, ru⟩ := rv.get j3
                obtain ⟨u2, hu2, ru2⟩ := rv2.get j4
                have ex : u = x := by
                  rw [show its.toArray[j]? = its[j]? by simp, hu] at x1
                  exact Option.some.inj x1
                have ey : u2 = y := by
                  rw [show its2.toArray[j]? = its2[j]? by simp, hu2] at y1
                  exact Option.some.inj y1
                subst ex; subst ey
                exact ⟨by show 2 ≤ sizeLine; decide, [u, u2], .cons ru (.cons ru2 .nil), ⟨_, pr, rfl, _, rfl⟩⟩
              · rw [I2.hok.fresh (Nat.le_of_not_lt hb)] at e
                cases e)
      exact ⟨.ref h'.objs.size, _, I3, rfl, q _ Ts (I2.hok.fresh (Nat.le_refl _)) (fun hT => Nat.lt_irrefl _ (hbig _ hT)) (fun T hT => I2.hok.fresh (Nat.le_of_lt (hbig T hT))) Z.asc hlen⟩
end
end PdR
namespace Pd
open PySem PySem.Spec
section
variable {X : L2.Cx} {K : Kf} {f : List Addr} {st : Store}
theorem lz_rel : ∀ (Ts : List Addr) {H : Hp} {xs ys : List D} {vs ws : List L2.V}, RelS K f st H → RDs K f H xs vs → RDs K f H ys ws → (∀ T ∈ Ts, H T = none) → Ts.Pairwise (· < ·) → Ts.length = min vs.length ws.length →
    RelS K f st (PdR.layT H (Ts.zip (vs.zip ws))) ∧ Ext K f H f (PdR.layT H (Ts.zip (vs.zip ws))) ∧ RDs K f (PdR.layT H (Ts.zip (vs.zip ws))) (zipD xs ys) (Ts.map L2.V.ref)
  | [], H, xs, ys, vs, ws, s, r, r', hn, ha, hl => by
    have hz : zipD xs ys = [] := by
      have := zipD_length xs ys
      rw [← r.length, ← r'.length, ← hl] at this
      exact List.length_eq_zero_iff.mp this
    rw [hz]
    exact ⟨s, Ext.refl, RDs.nil.mpr rfl⟩
  | T :: Ts, H, xs, ys, vs, ws, s, r, r', hn, ha, hl => by
    cases xs with
    | nil =>
      rw [RDs.nil] at r; subst r
      simp at hl
    | cons x xs =>
      cases ys with
      | nil =>
        rw [RDs.nil] at r'; subst r'
        simp at hl
      | cons y ys =>
        rw [RDs.cons] at r r'
        obtain ⟨v, vs, rfl, rx, r⟩ := r
        obtain ⟨w, ws, rfl, ry, r'⟩ := r'
        rw [List.pairwise_cons] at ha
        obtain ⟨s1, e1, q1⟩ := lz_rel Ts s r r' (fun T' hT' => hn T' (List.mem_cons_of_mem _ hT')) ha.2 (by simp at hl; omega)
        have hT : PdR.layT H (Ts.zip (vs.zip ws)) T = none := by
          rw [PdR.layT_old fun p hp => Nat.ne_of_gt (ha.1 _ (List.of_mem_zip hp).1)]
          exact hn T (by simp)
        obtain ⟨s2, e2⟩ := s1.lay (o := .tup [v, w]) hT
        show RelS K f st (L2.upd (PdR.layT H (Ts.zip (vs.zip ws))) T (.tup [v, w])) ∧ Ext K f H f (L2.upd (PdR.layT H (Ts.zip (vs.zip ws))) T (.tup [v, w])) ∧ RDs K f (L2.upd (PdR.layT H (Ts.zip (vs.zip ws))) T (.tup [v, w])) (.tup [x, y] :: zipD xs ys) (.ref T :: Ts.map L2.V.ref)
        refine ⟨s2, e1.trans e2, ?_⟩
        rw [RDs.cons]
        refine ⟨.ref T, Ts.map L2.V.ref, rfl, RD.tup.mpr ⟨T, [v, w], rfl, .of L2.upd_same, ?_⟩, q1.mono e2⟩
        rw [RDs.cons]
        exact ⟨v, [w], rfl, (rx.mono e1).mono e2, RDs.one ((ry.mono e1).mono e2)⟩
theorem pd_lz {a b : Expr} {ta tb : TE} {p p2 pos pos2 : Pos} (hc : X.calm = true) (hg : L2.Gl X "list") (hm : X.mg "list" = none) (hg2 : L2.Gl X "zip") (hm2 : X.mg "zip" = none) (ha : PD X a ta) (hb : PD X b tb)
    (hs : starEach [a, b] X.env = (false, eval a X.env) :: starEach [b] X.env := by rfl) (hs3 : starEach [b] X.env = (false, eval b X.env) :: starEach [] X.env := by rfl) (hpl : (backTo pos2 (starEach [b] X.env)).any (·.1) = false := by rfl)
    (hs2 : starEach [.Call (.Name "zip" p2) [a, b] [] pos2] X.env = (false, eval (.Call (.Name "zip" p2) [a, b] [] pos2) X.env) :: starEach [] X.env := by rfl) :
    PD X (.Call (.Name "list" p) [.Call (.Name "zip" p2) [a, b] [] pos2] [] pos) (dLZ ta tb) :=
  pe_imp (PdR.pe_lstZip hc hg hm hg2 hm2 (L2.pa_cons ha (L2.pa_cons hb L2.pa_nil hs3) hs) hs hpl hs2) fun σ H Q ⟨f, ρ, st, Q', R, h, l⟩ => ⟨f, ρ, st, _, R, h, fun x st1 v f1 H1 q1 e1 s1 r1 => ⟨f1, ρ, st1, _, R.later e1 s1, q1, fun y st2 w f2 H2 q2 e2 s2 r2 => by
    have r1' := r1.mono e2
    cases x <;> cases y <;> try (exact q2.elim)
    rw [RD.ref] at r1' r2
    obtain ⟨a, g1, rfl⟩ := r1'
    obtain ⟨b, g2, rfl⟩ := r2
    obtain ⟨xs, ys, q3, q4, q5⟩ := q2
    obtain ⟨a', vs, k1, k2, k3⟩ := s2.rdA q3
    obtain ⟨b', ws, j1, j2, j3⟩ := s2.rdA q4
    rw [g1] at k1; cases k1
    rw [g2] at j1; cases j1
    refine ⟨a, b, vs, ws, rfl, k2, j2, fun S Ts hS hST hT hasc hlen => ?_⟩
    obtain ⟨s3, e3, r3⟩ := lz_rel Ts s2 k3 j3 hT hasc hlen
    have hS' : PdR.layT H2 (Ts.zip (vs.zip ws)) S = none := by
      rw [PdR.layT_old (b := S) fun p hp e => hST (by rw [← e]; exact (List.of_mem_zip hp).1)]
      exact hS
    exact ((l.later (e1.trans e2)).later e3).lst s3 q5 r3 hS'⟩⟩
end
end Pd
end PartPdSoundR

section PartPdDraw
set_option Elab.async false
set_option linter.all false
set_option maxRecDepth 100000
/-! Pd: the laws' drawing def. Own work. -/
namespace Pd
open PySem
local macro_rules | `(tactic| walk_at "s") => `(tactic| (repeat (refine Red.red ?_)))
local macro_rules | `(tactic| walk_at "r") => `(tactic| (repeat (first | refine Red.red ?_ | refine Nxt.mk ?_)))
/-- the drawer stands at 2, the script's numbers at 1 -/
def DrawAt (st : Store) : Prop := ∃ (ns : List Int) (a b v : Int), rdL st 1 (ns.map D.int) ∧ rdL st 2 [.ref 1, .int a, .int b, .int v, .int 2] ∧ 0 ≤ a ∧ 0 ≤ b ∧ 0 ≤ v ∧ ns.length ≤ 63
/-- later: the drawer goes on, cells are added, all others are as they were -/
structure Fra (st st' : Store) : Prop where
  dr : DrawAt st'
  le : st.length ≤ st'.length
  at' : ∀ n, n < st.length → n ≠ 2 → st'[n]? = st[n]?
theorem Fra.refl {st : Store} (h : DrawAt st) : Fra st st := ⟨h, Nat.le_refl _, fun _ _ _ => rfl⟩
theorem Fra.trans {a b c : Store} (h : Fra a b) (h' : Fra b c) : Fra a c := ⟨h'.dr, Nat.le_trans h.le h'.le, fun n hn ne => (h'.at' n (Nat.lt_of_lt_of_le hn h.le) ne).trans (h.at' n hn ne)⟩
theorem rdL_lt {st : Store} {n : Nat} {xs : List D} (h : rdL st n xs) : n < st.length := (List.getElem?_eq_some_iff.mp h).1
theorem rdL_app {st : Store} {n : Nat} {xs : List D} {c : C} (h : rdL st n xs) : rdL (st ++ [c]) n xs := by
  unfold rdL at *
  rw [List.getElem?_append_left (rdL_lt h)]; exact h
theorem rdL_new {st : Store} {xs : List D} : rdL (st ++ [.lst xs]) st.length xs := by unfold rdL; simp
theorem rdL_set {st : Store} {n : Nat} {xs ys : List D} (h : rdL st n xs) : rdL (st.set n (.lst ys)) n ys := by unfold rdL; rw [List.getElem?_set_self (rdL_lt h)]
theorem rdL_ne {st : Store} {n m : Nat} {xs : List D} {c : C} (h : rdL st n xs) (ne : n ≠ m) : rdL (st.set m c) n xs := by unfold rdL at *; rw [List.getElem?_set_ne (Ne.symm ne)]; exact h
theorem rdL_inj {st : Store} {n : Nat} {xs ys : List D} (h : rdL st n xs) (h' : rdL st n ys) : xs = ys := by
  unfold rdL at *
  rw [h] at h'
  cases h'; rfl
theorem Fra.rd {st st' : Store} (f : Fra st st') {n : Nat} {xs : List D} (h : rdL st n xs) (ne : n ≠ 2) : rdL st' n xs := by
  unfold rdL at *
  rw [f.at' n (rdL_lt h) ne]; exact h
theorem DrawAt.lt {st : Store} (h : DrawAt st) : 2 < st.length := by
  obtain ⟨_, _, _, _, _, h2, _⟩ := h
  exact rdL_lt h2
theorem DrawAt.app {st : Store} {c : C} (h : DrawAt st) : DrawAt (st ++ [c]) := by
  obtain ⟨ns, a, b, v, h1, h2, h3⟩ := h
  exact ⟨ns, a, b, v, rdL_app h1, rdL_app h2, h3⟩
theorem DrawAt.set {st : Store} {n : Nat} {c : C} (h : DrawAt st) (hn : 2 < n) : DrawAt (st.set n c) := by
  obtain ⟨ns, a, b, v, h1, h2, h3⟩ := h
  exact ⟨ns, a, b, v, rdL_ne h1 (by omega), rdL_ne h2 (by omega), h3⟩
theorem Fra.app {st st' : Store} {c : C} (f : Fra st st') : Fra st (st' ++ [c]) := ⟨f.dr.app, by simp; have := f.le; omega, fun n hn ne => by
  rw [List.getElem?_append_left (Nat.lt_of_lt_of_le hn f.le)]; exact f.at' n hn ne⟩
theorem Fra.set {st st' : Store} {n : Nat} {c : C} (f : Fra st st') (hn : st.length ≤ n) (h2 : 2 < n) : Fra st (st'.set n c) := ⟨f.dr.set h2, by simp; exact f.le, fun m hm ne => by
  rw [List.getElem?_set_ne (by omega)]; exact f.at' m hm ne⟩
def drawBody (c : Cl) : TS := sSeq (sIf (tTru (dCmp gtC (dOp ixK (dVar 0) (dC (.int 2))) (dC (.int 0)))) (sSeq (sAsg (dOp ixK (dVar 0) (dC (.int 2))) (gName 2)) (sSeq (sAsg (dOp fdivK (dVar 2) (dVar 1)) (gSub (dVar 0) (dC (.int 2)))) (sRet (dOp modK (dB intB (aCons (dVar 2) (aNil))) (dVar 1))))) (sNext)) (sSeq (sAsg (dC (.int 0)) (gName 3)) (sSeq (sIf (tTru (dCmp ltC (dOp ixK (dVar 0) (dC (.int 1))) (dB lenB (aCons (dOp ixK (dVar 0) (dC (.int 0))) (aNil))))) (sSeq (sAsg (dOp ixK (dOp ixK (dVar 0) (dC (.int 0))) (dOp ixK (dVar 0) (dC (.int 1)))) (gName 4)) (sAsg (dOp addK (dOp mulK (dC (.int 2)) (dB absB (aCons (dVar 4) (aNil)))) (dB intB (aCons (dCmp ltC (dVar 4) (dC (.int 0))) (aNil)))) (gName 3))) (sNext)) (sSeq (sAugL iaddK (dVar 0) (dC (.int 1)) (dC (.int 1))) (sSeq (sIf (tTru (dCmp geC (dVar 3) (dOp mulK (dC (.int 2)) (dOp powK (dC (.int 10)) (dC (.int 18)))))) (sSeq (sAsg (dOp modK (dB intB (aCons (dOp fdivK (dVar 3) (dC (.int 2))) (aNil))) (dOp shlK (dC (.int 1)) (dC (.int 6000)))) (gName 2)) (sSeq (sAsg (dOp fdivK (dVar 2) (dVar 1)) (gSub (dVar 0) (dC (.int 2)))) (sRet (dOp modK (dB intB (aCons (dVar 2) (aNil))) (dVar 1))))) (sNext)) (sSeq (sAsg (dOp modK (dB intB (aCons (dOp addK (dOp addK (dOp addK (dOp mulK (dOp ixK (dVar 0) (dC (.int 3))) (dC (.int 48271))) (dOp mulK (dOp modK (dB intB (aCons (dVar 3) (aNil))) (dC (.int 2147483629))) (dC (.int 16807)))) (dOp mulK (dOp ixK (dVar 0) (dC (.int 1))) (dC (.int 69621)))) (dC (.int 11))) (aNil))) (dC (.int 2147483647))) (gSub (dVar 0) (dC (.int 3)))) (sRet (dOp modK (dB intB (aCons (dOp fdivK (dOp ixK (dVar 0) (dC (.int 3))) (dC (.int 16))) (aNil))) (dVar 1))))))))
theorem ix_at {st : Store} {n : Nat} {xs : List D} {i : Int} {d : D} {Q : K} (h : rdL st n xs) (e : atD xs i = some d) (q : Q d st) : ixK (.ref n) (.int i) st Q := ⟨xs, d, .inl h, e, q⟩
theorem ixL_at {st : Store} {n : Nat} {xs : List D} {i : Int} {d : D} {Q : K} (h : rdL st n xs) (e : atD xs i = some d) (q : Q d st) : ixLK (.ref n) (.int i) st Q := ⟨xs, d, .inl h, e, q⟩
theorem set_at {st : Store} {n : Nat} {xs : List D} {i : Int} {v d : D} {Q : Store → Prop} (h : rdL st n xs) (e : atD xs i = some d) (h0 : 0 ≤ i) (q : Q (st.set n (.lst (xs.set i.toNat v)))) : setK (.ref n) (.int i) v st Q := ⟨xs, h, ⟨d, e⟩, h0, q⟩
theorem len_at {st : Store} {n : Nat} {xs : List D} {Q : K} (h : rdL st n xs) (q : Q (.int xs.length) st) : lenB [.ref n] st Q := ⟨xs, .inl h, q⟩
theorem atD_map {ns : List Int} {i : Int} (h0 : 0 ≤ i) (h1 : i < ns.length) : ∃ n, n ∈ ns ∧ atD (ns.map D.int) i = some (.int n) := by
  refine ⟨ns[i.toNat]'(by omega), List.getElem_mem _, ?_⟩
  unfold atD
  rw [if_pos h0, List.getElem?_map, List.getElem?_eq_getElem (by omega)]
  rfl
theorem draw_ok {prog : String → Option Def} (hp : prog "_law_draw" = some ⟨2, 5, drawBody⟩) {k : Nat} {st : Store} {many : Int} {Q : K} (h : DrawAt st) (h0 : 0 < many) (h1 : many < 1073741824)
    (hQ : ∀ r st', 0 ≤ r → r < many → Fra st st' → st'.length = st.length → Q (.int r) st') : callN prog (k + 1) "_law_draw" [.ref 2, .int many] st Q := by
  obtain ⟨ns, a, b, v, d1, d2, ha, hb, hv, hn⟩ := h
  have l2 := rdL_lt d2
  -- the end of each way: a drawer behind it
  have fin : ∀ {a b v : Int} {xs : List D} {r : Int}, xs = [.ref 1, .int a, .int b, .int v, .int 2] → 0 ≤ a → 0 ≤ b → 0 ≤ v → Q (.int (r % many)) (st.set 2 (.lst xs)) := fun {a b v xs r} e ha hb hv => by
    subst e
    refine hQ _ _ (Int.emod_nonneg _ (by omega)) (Int.emod_lt_of_pos _ h0) ⟨⟨ns, a, b, v, rdL_ne d1 (by decide), rdL_set d2, ha, hb, hv, hn⟩, by simp, fun n _ ne => by rw [List.getElem?_set_ne (Ne.symm ne)]⟩ (by simp)
  have set2 : ∀ {xs ys : List D}, (st.set 2 (.lst xs)).set 2 (.lst ys) = st.set 2 (.lst ys) := fun {xs ys} => by rw [List.set_set]
  refine call_intro hp rfl ?_
  unfold drawBody
  walk_at "r"
  refine ix_at d2 rfl ?_
  walk_at "r"
  refine way (fun e => ?_) (fun e => ?_)
  · have e : 0 < b := by simpa using e
    walk_at "r"
    refine ix_at d2 rfl ?_
    walk_at "r"
    refine ⟨⟨h0, h1⟩, ?_⟩
    walk_at "r"
    refine set_at d2 rfl (by decide) ?_
    walk_at "r"
    refine ⟨h0, ?_⟩
    exact fin (a := a) (b := b / many) (v := v) rfl ha (Int.ediv_nonneg hb (by omega)) hv
  · walk_at "s"
    refine Nxt.mk ?_
    walk_at "s"
    refine Nxt.mk ?_
    refine seq_cut (fun σ st' => ∃ sz y4, 0 ≤ sz ∧ σ = [some (.ref 2), some (.int many), none, some (.int sz), y4] ∧ st' = st) (fun N hN => ?_) (fun σ st' hJ => ?_)
    · walk_at "r"
      refine ix_at d2 rfl ?_
      walk_at "r"
      refine ix_at d2 rfl ?_
      walk_at "r"
      refine len_at d1 ?_
      walk_at "r"
      refine way (fun e => ?_) (fun e => ?_)
      · have e : a < (ns.length : Int) := by simpa using e
        walk_at "r"
        refine ix_at d2 rfl ?_
        walk_at "r"
        refine ix_at d2 rfl ?_
        obtain ⟨n, _, hat⟩ := atD_map ha e
        refine ix_at d1 hat ?_
        walk_at "r"
        refine ⟨.inl (by decide), ?_⟩
        walk_at "r"
        refine hN _ _ ⟨_, _, ?_, rfl, rfl⟩
        have hb2 : 0 ≤ b2i (decide (n < 0)) := by unfold b2i; split <;> decide
        split <;> omega
      · walk_at "r"
        exact hN _ _ ⟨0, _, by decide, rfl, rfl⟩
    · obtain ⟨sz, y4, hsz, rfl, e0⟩ := hJ
      rw [e0]
      walk_at "r"
      refine ixL_at d2 rfl ?_
      walk_at "r"
      refine set_at d2 rfl (by decide) ?_
      walk_at "r"
      have d3 : rdL (st.set 2 (.lst [.ref 1, .int (a + 1), .int b, .int v, .int 2])) 2 [.ref 1, .int (a + 1), .int b, .int v, .int 2] := rdL_set d2
      refine ⟨by unfold cPow; decide, ?_⟩
      walk_at "r"
      refine ⟨.inl (by decide), ?_⟩
      walk_at "r"
      refine way (fun _ => ?_) (fun _ => ?_)
      · walk_at "r"
        refine ⟨by decide, ?_⟩
        walk_at "r"
        refine ⟨by unfold cPow; decide, ?_⟩
        walk_at "r"
        have hp6 : (0 : Int) < 1 * 2 ^ (6000 : Int).toNat := by rw [Int.one_mul]; exact Int.pow_pos (by decide)
        refine ⟨hp6, ?_⟩
        walk_at "r"
        refine ⟨⟨h0, h1⟩, ?_⟩
        walk_at "r"
        refine set_at d3 rfl (by decide) ?_
        walk_at "r"
        refine ⟨h0, ?_⟩
        show Q _ ((st.set 2 _).set 2 _)
        rw [set2]
        exact fin (a := a + 1) (b := sz / 2 % (1 * 2 ^ (6000 : Int).toNat) / many) (v := v) rfl (by omega) (Int.ediv_nonneg (Int.emod_nonneg _ (by omega)) (by omega)) hv
      · walk_at "r"
        refine ix_at d3 rfl ?_
        walk_at "r"
        refine ⟨.inr (by decide), ?_⟩
        walk_at "r"
        refine ⟨by decide, ?_⟩
        walk_at "r"
        refine ⟨.inr (by decide), ?_⟩
        walk_at "r"
        refine ix_at d3 rfl ?_
        walk_at "r"
        refine ⟨.inr (by decide), ?_⟩
        walk_at "r"
        refine ⟨by decide, ?_⟩
        walk_at "r"
        refine set_at d3 rfl (by decide) ?_
        walk_at "r"
        refine ix_at (rdL_set d3) rfl ?_
        walk_at "r"
        refine ⟨by decide, ?_⟩
        walk_at "r"
        refine ⟨h0, ?_⟩
        rw [set2]
        exact fin (a := a + 1) (b := b) (v := (v * 48271 + sz % 2147483629 * 16807 + (a + 1) * 69621 + 11) % 2147483647) rfl (by omega) hb (Int.emod_nonneg _ (by omega))
end Pd
end PartPdDraw

section PartPdLib
set_option Elab.async false
set_option linter.all false
set_option maxRecDepth 100000
/-! Pd: what the laws share: list cells, draws in comprehensions, masks. Own work. -/
namespace Pd
open PySem
local macro_rules | `(tactic| walk_at "s") => `(tactic| (repeat (refine Red.red ?_)))
local macro_rules | `(tactic| walk_at "r") => `(tactic| (repeat (first | refine Red.red ?_ | refine Nxt.mk ?_)))
/-! ### list cells -/
theorem list_at {st : Store} {n : Nat} {xs : List D} {Q : K} (h : rdL st n xs) (q : Q (.ref st.length) (st ++ [.lst xs])) : listB [.ref n] st Q := ⟨xs, .inl h, q⟩
theorem tuple_at {st : Store} {n : Nat} {xs : List D} {Q : K} (h : rdL st n xs) (q : Q (.tup xs) st) : tupleB [.ref n] st Q := ⟨xs, .inl h, q⟩
theorem sum_at {st : Store} {n : Nat} {ns : List Int} {Q : K} (h : rdL st n (ns.map D.int)) (q : Q (.int ns.sum) st) : sumB [.ref n] st Q := ⟨ns, .inl h, q⟩
theorem it_at {st : Store} {n : Nat} {xs : List D} {R : Iter → Store → Prop} (h : rdL st n xs) (q : R ⟨xs, fun s => rdA s n xs⟩ st) : itK (.ref n) st R := ⟨xs, .inl h, q⟩
theorem append_at {st : Store} {n : Nat} {xs : List D} {x : D} {Q : K} (h : rdL st n xs) (hl : xs.length < szl) (q : Q .non (st.set n (.lst (xs ++ [x])))) : appendM (.ref n) [x] st Q := ⟨xs, h, hl, q⟩
theorem extend_at {st : Store} {n m : Nat} {xs ys : List D} {Q : K} (h : rdL st n xs) (h' : rdL st m ys) (ne : n ≠ m) (hl : xs.length + ys.length ≤ szl) (q : Q .non (st.set n (.lst (xs ++ ys)))) : extendM (.ref n) [.ref m] st Q := ⟨xs, ys, h, h', ne, hl, q⟩
theorem ty_at {st : Store} {n : Nat} {xs : List D} (h : rdL st n xs) : tyLst (.ref n) st := ⟨xs, h⟩
theorem sl_at {st : Store} {n : Nat} {xs : List D} {lo hi : Option Int} {Q : K} (h : rdL st n xs) (q : Q (.ref st.length) (st ++ [.lst (cutD xs lo hi)])) : slK (.ref n) lo hi st Q := ⟨xs, .inl h, q⟩
theorem add_at {st : Store} {n m : Nat} {xs ys : List D} {Q : K} (h : rdL st n xs) (h' : rdL st m ys) (hl : xs.length + ys.length ≤ szl) (q : Q (.ref st.length) (st ++ [.lst (xs ++ ys)])) : addK (.ref n) (.ref m) st Q := ⟨xs, ys, h, h', hl, q⟩
theorem rep_at {st : Store} {n : Nat} {xs : List D} {k : Int} {Q : K} (h : rdL st n xs) (h0 : 0 ≤ k) (h1 : k < 1000000) (hl : xs.length ≤ 1) (q : Q (.ref st.length) (st ++ [.lst (List.replicate k.toNat xs).flatten])) : mulK (.ref n) (.int k) st Q :=
  ⟨xs, h, by omega, by omega, by
    have : xs.length * k.toNat ≤ 1 * k.toNat := Nat.mul_le_mul_right _ hl
    unfold szl; omega, q⟩
theorem flat_one (x : D) (n : Nat) : (List.replicate n [x]).flatten = List.replicate n x := by
  induction n with
  | zero => rfl
  | succ n ih => rw [List.replicate_succ, List.flatten_cons, ih, List.replicate_succ]; rfl
theorem atD_nat {α : Type} {xs : List α} {i : Int} {x : α} (h0 : 0 ≤ i) (h : xs[i.toNat]? = some x) : atD xs i = some x := by unfold atD; rw [if_pos h0]; exact h
theorem atD_of {α : Type} {xs : List α} {i : Int} (h0 : 0 ≤ i) (h1 : i < xs.length) : ∃ x, x ∈ xs ∧ xs[i.toNat]? = some x ∧ atD xs i = some x :=
  ⟨xs[i.toNat]'(by omega), List.getElem_mem _, List.getElem?_eq_getElem (by omega), atD_nat h0 (List.getElem?_eq_getElem (by omega))⟩
theorem atD_mapI {α : Type} {f : α → D} {xs : List α} {i : Int} (h0 : 0 ≤ i) (h1 : i < xs.length) : ∃ x, x ∈ xs ∧ xs[i.toNat]? = some x ∧ atD (xs.map f) i = some (f x) := by
  obtain ⟨x, h2, h3, h4⟩ := atD_of h0 h1
  exact ⟨x, h2, h3, atD_nat h0 (by rw [List.getElem?_map, h3]; rfl)⟩
theorem cut_take {α : Type} (xs : List α) {i : Int} (h : 0 ≤ i) : cutD xs none (some i) = xs.take i.toNat := by
  unfold cutD cl
  simp only [Option.map_none, Option.getD_none, Option.map_some, Option.getD_some, List.drop_zero, Nat.sub_zero]
  rw [if_neg (by omega)]
  by_cases h2 : i.toNat ≤ xs.length
  · rw [Nat.min_eq_left h2]
  · rw [Nat.min_eq_right (by omega), List.take_of_length_le (Nat.le_refl _), List.take_of_length_le (by omega)]
theorem cut_drop {α : Type} (xs : List α) {i : Int} (h : 0 ≤ i) : cutD xs (some i) none = xs.drop i.toNat := by
  unfold cutD cl
  simp only [Option.map_none, Option.getD_none, Option.map_some, Option.getD_some]
  rw [if_neg (by omega)]
  by_cases h2 : i.toNat ≤ xs.length
  · rw [Nat.min_eq_left h2, List.take_of_length_le (by simp)]
  · rw [Nat.min_eq_right (by omega), List.drop_of_length_le (Nat.le_refl _), List.drop_of_length_le (by omega)]
    simp
theorem cut_last {α : Type} (xs : List α) : cutD xs none (some (-1)) = xs.dropLast := by
  unfold cutD cl
  simp only [Option.map_none, Option.getD_none, Option.map_some, Option.getD_some, List.drop_zero, Nat.sub_zero]
  rw [if_pos (by decide), List.dropLast_eq_take]
  congr 1
  omega
/-- cells are added, all others as they were -/
def Grw (st st' : Store) : Prop := ∃ m, st' = st ++ m
theorem Grw.refl (st : Store) : Grw st st := ⟨[], by simp⟩
theorem Grw.app {st st' : Store} {c : C} (h : Grw st st') : Grw st (st' ++ [c]) := by
  obtain ⟨m, rfl⟩ := h
  exact ⟨m ++ [c], by simp⟩
theorem Grw.trans {a b c : Store} (h : Grw a b) (h' : Grw b c) : Grw a c := by
  obtain ⟨m, rfl⟩ := h
  obtain ⟨m', rfl⟩ := h'
  exact ⟨m ++ m', by simp⟩
theorem Grw.rd {st st' : Store} (f : Grw st st') {n : Nat} {xs : List D} (h : rdL st n xs) : rdL st' n xs := by
  obtain ⟨m, rfl⟩ := f
  unfold rdL at *
  rw [List.getElem?_append_left (rdL_lt h)]; exact h
theorem Grw.fra {st st' : Store} (f : Grw st st') (h : DrawAt st) : Fra st st' := by
  obtain ⟨m, rfl⟩ := f
  refine ⟨?_, by simp, fun n hn _ => List.getElem?_append_left hn⟩
  obtain ⟨ns, a, b, v, h1, h2, h3⟩ := h
  exact ⟨ns, a, b, v, Grw.rd ⟨m, rfl⟩ h1, Grw.rd ⟨m, rfl⟩ h2, h3⟩
theorem Grw.le {st st' : Store} (f : Grw st st') : st.length ≤ st'.length := by
  obtain ⟨m, rfl⟩ := f
  simp
theorem Fra.set' {st st' : Store} {n : Nat} {c : C} (f : Fra st st') (hn : st.length ≤ n) (h2 : 2 < st.length) : Fra st (st'.set n c) := f.set hn (by omega)
/-! ### the drawer is made -/
def beginBody (c : Cl) : TS := sRet (dLst (aCons (dLc (iSeq (dVar 0)) (gName 1) (tYes) (dB intB (aCons (dVar 1) (aNil))) [1]) (aCons (dC (.int 0)) (aCons (dC (.int 0)) (aCons (dC (.int 7)) (aCons (dC (.int 2)) (aNil)))))))
theorem begin_ok {prog : String → Option Def} (hp : prog "_law_begin" = some ⟨1, 2, beginBody⟩) {k : Nat} {ns : List Int} {Q : K} (hn : ns.length ≤ 63)
    (hQ : ∀ st', DrawAt st' → st'.length = 3 → Q (.ref 2) st') : callN prog (k + 1) "_law_begin" [.ref 0] [.frz (ns.map D.int)] Q := by
  refine call_intro hp rfl ?_
  unfold beginBody
  walk_at "r"
  have hfz : ∀ acc : List D, rdA ([.frz (ns.map D.int)] ++ [.lst acc]) 0 (ns.map D.int) := fun acc => .inr rfl
  refine ⟨ns.map D.int, .inr rfl, ?_⟩
  refine lc_map ns D.int D.int rfl (by unfold szl; omega) hfz (fun x hx acc N hN => ?_) ?_
  · walk_at "r"
    exact hN
  · walk_at "r"
    refine ⟨by show 5 ≤ szl; decide, ?_⟩
    exact hQ _ ⟨ns, 0, 0, 7, rfl, rfl, by decide, by decide, by decide, hn⟩ rfl
/-! ### comprehensions of draws -/
theorem lc_ints {gd : Store → Prop} {g : TG} {te : TE} {ρ : Env} {st : Store} {Q : K} {items : List D} (P : Int → Prop) (hd : DrawAt st) (hl : items.length ≤ szl) (hg : ∀ st', Fra st st' → gd st')
    (hs : ∀ x ∈ items, ∀ st', Fra st st' → ∀ N : D → Store → Prop, (∀ r st2, P r → Fra st' st2 → N (.int r) st2) → g x ρ st' fun ρ2 st2 => te ρ2 st2 N)
    (hQ : ∀ (rs : List Int) st', rs.length = items.length → (∀ r ∈ rs, P r) → Fra st st' → rdL st' st.length (rs.map D.int) → Q (.ref st.length) st') : lcLoop gd g tYes te ρ st.length Q items [] (st ++ [.lst []]) := by
  have h2 := hd.lt
  refine lc_by (fun pre acc st' => ∃ rs : List Int, acc = rs.map D.int ∧ rs.length = pre.length ∧ (∀ r ∈ rs, P r) ∧ Fra st st' ∧ rdL st' st.length acc) ⟨[], rfl, rfl, by simp, (Fra.refl hd).app, rdL_new⟩ (fun pre x post acc st' e ⟨rs, h1, h3, h4, h5, h6⟩ N M hN hM => ?_) (fun acc st' ⟨rs, h1, h3, h4, h5, h6⟩ => ?_)
  · subst h1
    refine ⟨hg _ h5, ?_⟩
    have e1 : (fun (ρ2 : Env) (st2 : Store) => tYes ρ2 st2 fun b st3 => (b = true → te ρ2 st3 N) ∧ (b = false → M st3)) = fun ρ2 st2 => te ρ2 st2 N := by
      funext ρ2 st2
      exact propext ⟨fun q => q.1 rfl, fun q => ⟨fun _ => q, fun e => nomatch e⟩⟩
    rw [e1]
    have hlen := congrArg List.length e
    simp at hlen
    refine hs x (by rw [e]; simp) st' h5 N fun r st2 hr f => ?_
    have h7 := f.rd h6 (by omega)
    refine hN _ _ h7 (by simp; omega) ⟨rs ++ [r], by simp, by simp [h3], ?_, (h5.trans f).set (Nat.le_refl _) (by omega), rdL_set h7⟩
    intro y hy
    rcases List.mem_append.mp hy with hy | hy
    · exact h4 y hy
    · simp at hy; subst hy; exact hr
  · subst h1
    exact ⟨hg _ h5, h6, hQ rs st' h3 h4 h5 h6⟩
/-- two lists, place by place -/
inductive Two {α β : Type} (P : α → β → Prop) : List α → List β → Prop
  | nil : Two P [] []
  | cons {a : α} {b : β} {as : List α} {bs : List β} : P a b → Two P as bs → Two P (a :: as) (b :: bs)
theorem Two.snoc {α β : Type} {P : α → β → Prop} : ∀ {as : List α} {bs : List β} {a : α} {b : β}, Two P as bs → P a b → Two P (as ++ [a]) (bs ++ [b])
  | _, _, _, _, .nil, h => .cons h .nil
  | _, _, _, _, .cons h t, h' => .cons h (Two.snoc t h')
theorem Two.length {α β : Type} {P : α → β → Prop} : ∀ {as : List α} {bs : List β}, Two P as bs → as.length = bs.length
  | _, _, .nil => rfl
  | _, _, .cons _ t => by simp [Two.length t]
theorem Two.imp {α β : Type} {P P' : α → β → Prop} (f : ∀ a b, P a b → P' a b) : ∀ {as : List α} {bs : List β}, Two P as bs → Two P' as bs
  | _, _, .nil => .nil
  | _, _, .cons h t => .cons (f _ _ h) (Two.imp f t)
theorem lc_vals {gd : Store → Prop} {g : TG} {te : TE} {ρ : Env} {st : Store} {Q : K} {items : List D} (P : D → D → Prop) (hd : DrawAt st) (hl : items.length ≤ szl) (hg : ∀ st', Fra st st' → gd st')
    (hs : ∀ x ∈ items, ∀ st', Fra st st' → ∀ N : D → Store → Prop, (∀ y st2, P x y → Fra st' st2 → N y st2) → g x ρ st' fun ρ2 st2 => te ρ2 st2 N)
    (hQ : ∀ (ys : List D) st', Two P items ys → Fra st st' → rdL st' st.length ys → Q (.ref st.length) st') : lcLoop gd g tYes te ρ st.length Q items [] (st ++ [.lst []]) := by
  have h2 := hd.lt
  refine lc_by (fun pre acc st' => Two P pre acc ∧ Fra st st' ∧ rdL st' st.length acc) ⟨.nil, (Fra.refl hd).app, rdL_new⟩ (fun pre x post acc st' e ⟨h1, h5, h6⟩ N M hN hM => ?_) (fun acc st' ⟨h1, h5, h6⟩ => ?_)
  · refine ⟨hg _ h5, ?_⟩
    have e1 : (fun (ρ2 : Env) (st2 : Store) => tYes ρ2 st2 fun b st3 => (b = true → te ρ2 st3 N) ∧ (b = false → M st3)) = fun ρ2 st2 => te ρ2 st2 N := by
      funext ρ2 st2
      exact propext ⟨fun q => q.1 rfl, fun q => ⟨fun _ => q, fun e => nomatch e⟩⟩
    rw [e1]
    have hlen := congrArg List.length e
    simp at hlen
    refine hs x (by rw [e]; simp) st' h5 N fun y st2 hr f => ?_
    have h7 := f.rd h6 (by omega)
    exact hN _ _ h7 (by have := h1.length; omega) ⟨h1.snoc hr, (h5.trans f).set (Nat.le_refl _) (by omega), rdL_set h7⟩
  · exact ⟨hg _ h5, h6, hQ acc st' h1 h5 h6⟩
theorem not_any {α : Type} {p q : α → Bool} : ∀ {l : List α}, (∀ x ∈ l, p x = !q x) → (!l.any p) = l.all q
  | [], _ => rfl
  | x :: l, h => by
    rw [List.any_cons, List.all_cons, Bool.not_or, not_any (l := l) fun y hy => h y (List.mem_cons_of_mem _ hy), h x List.mem_cons_self, Bool.not_not]
/-- a filtered comprehension whose test and element read alone -/
theorem lc_filter {α : Type} {gd : Store → Prop} {g : TG} {tt : TT} {te : TE} {ρ : Env} {st : Store} {Q : K} (xs : List α) (f h : α → D) (p : α → Bool) {items : List D} (hi : items = xs.map f) (hl : xs.length ≤ szl) (hg : ∀ acc, gd (st ++ [.lst acc]))
    (hs : ∀ x, x ∈ xs → ∀ (acc : List D) (N : D → Store → Prop) (M : Store → Prop), (p x = true → N (h x) (st ++ [.lst acc])) → (p x = false → M (st ++ [.lst acc])) → g (f x) ρ (st ++ [.lst acc]) fun ρ2 st2 => tt ρ2 st2 fun b st3 => (b = true → te ρ2 st3 N) ∧ (b = false → M st3))
    (hd : Q (.ref st.length) (st ++ [.lst ((xs.filter p).map h)])) : lcLoop gd g tt te ρ st.length Q items [] (st ++ [.lst []]) := by
  subst hi
  refine lc_by (fun pre acc st' => acc = ((xs.take pre.length).filter p).map h ∧ st' = st ++ [.lst acc]) ⟨rfl, rfl⟩ (fun pre x post acc st' e ⟨h1, h2⟩ N M hN hM => ?_) (fun acc st' ⟨h1, h2⟩ => ?_)
  · subst h1; subst h2
    refine ⟨hg _, ?_⟩
    have hlen : pre.length < xs.length := by
      have := congrArg List.length e
      simp at this; omega
    have hx : xs[pre.length] ∈ xs := List.getElem_mem hlen
    have hfx : x = f xs[pre.length] := by
      have h2 : (xs.map f)[pre.length]? = some x := by rw [e]; simp
      rw [List.getElem?_map, List.getElem?_eq_getElem hlen] at h2
      simpa using h2.symm
    subst hfx
    have take1 : List.take (pre ++ [f xs[pre.length]]).length xs = List.take pre.length xs ++ [xs[pre.length]] := by
      rw [List.length_append]
      show List.take (pre.length + 1) xs = _
      rw [List.take_add_one, List.getElem?_eq_getElem hlen]
      rfl
    have hsz : (List.map h (List.filter p (List.take pre.length xs))).length < szl := by
      rw [List.length_map]
      have h3 := List.length_filter_le p (List.take pre.length xs)
      rw [List.length_take] at h3
      omega
    refine hs _ hx _ N M (fun hp => hN _ _ (by unfold rdL; simp) hsz ⟨?_, by rw [set_app]⟩) fun hp => hM _ (by unfold rdL; simp) ⟨?_, rfl⟩
    · rw [take1, List.filter_append, List.map_append]
      simp [hp]
    · rw [take1, List.filter_append, List.map_append]
      simp [hp]
  · subst h1; subst h2
    have e2 : List.take (List.map f xs).length xs = xs := by simp
    rw [e2] at *
    exact ⟨hg _, by unfold rdL; simp, hd⟩
/-- a comprehension with a test, of ints -/
theorem lc_some {gd : Store → Prop} {g : TG} {tt : TT} {te : TE} {ρ : Env} {st : Store} {Q : K} {items : List D} (P : Int → Prop) (hd : DrawAt st) (hl : items.length ≤ szl) (hg : ∀ st', Fra st st' → gd st')
    (hs : ∀ x ∈ items, ∀ st', Fra st st' → ∀ (N : D → Store → Prop) (M : Store → Prop), (∀ r st2, P r → Fra st' st2 → N (.int r) st2) → (∀ st2, Fra st' st2 → M st2) → g x ρ st' fun ρ2 st2 => tt ρ2 st2 fun b st3 => (b = true → te ρ2 st3 N) ∧ (b = false → M st3))
    (hQ : ∀ (rs : List Int) st', rs.length ≤ items.length → (∀ r ∈ rs, P r) → Fra st st' → rdL st' st.length (rs.map D.int) → Q (.ref st.length) st') : lcLoop gd g tt te ρ st.length Q items [] (st ++ [.lst []]) := by
  have h2 := hd.lt
  refine lc_by (fun pre acc st' => ∃ rs : List Int, acc = rs.map D.int ∧ rs.length ≤ pre.length ∧ (∀ r ∈ rs, P r) ∧ Fra st st' ∧ rdL st' st.length acc) ⟨[], rfl, Nat.le_refl _, by simp, (Fra.refl hd).app, rdL_new⟩ (fun pre x post acc st' e ⟨rs, h1, h3, h4, h5, h6⟩ N M hN hM => ?_) (fun acc st' ⟨rs, h1, h3, h4, h5, h6⟩ => ?_)
  · subst h1
    refine ⟨hg _ h5, ?_⟩
    have hlen := congrArg List.length e
    simp at hlen
    refine hs x (by rw [e]; simp) st' h5 N M (fun r st2 hr f => ?_) fun st2 f => hM _ (f.rd h6 (by omega)) ⟨rs, rfl, by simp; omega, h4, h5.trans f, f.rd h6 (by omega)⟩
    have h7 := f.rd h6 (by omega)
    refine hN _ _ h7 (by simp; omega) ⟨rs ++ [r], by simp, by simp [h3], ?_, (h5.trans f).set (Nat.le_refl _) (by omega), rdL_set h7⟩
    intro y hy
    rcases List.mem_append.mp hy with hy | hy
    · exact h4 y hy
    · simp at hy; subst hy; exact hr
  · subst h1
    exact ⟨hg _ h5, h6, hQ rs st' h3 h4 h5 h6⟩
/-- a comprehension of new lists -/
theorem lc_cells {gd : Store → Prop} {g : TG} {te : TE} {ρ : Env} {st : Store} {Q : K} {items : List D} (P : List D → Prop) (hd : DrawAt st) (hl : items.length ≤ szl) (hg : ∀ st', Fra st st' → gd st')
    (hs : ∀ x ∈ items, ∀ st', Fra st st' → ∀ N : D → Store → Prop, (∀ r xs st2, st'.length ≤ r → rdL st2 r xs → P xs → Fra st' st2 → N (.ref r) st2) → g x ρ st' fun ρ2 st2 => te ρ2 st2 N)
    (hQ : ∀ (rs : List Nat) st', rs.length = items.length → (∀ r ∈ rs, st.length < r ∧ ∃ xs, rdL st' r xs ∧ P xs) → Fra st st' → rdL st' st.length (rs.map D.ref) → Q (.ref st.length) st') : lcLoop gd g tYes te ρ st.length Q items [] (st ++ [.lst []]) := by
  have h2 := hd.lt
  refine lc_by (fun pre acc st' => ∃ rs : List Nat, acc = rs.map D.ref ∧ rs.length = pre.length ∧ (∀ r ∈ rs, st.length < r ∧ ∃ xs, rdL st' r xs ∧ P xs) ∧ Fra st st' ∧ rdL st' st.length acc) ⟨[], rfl, rfl, by simp, (Fra.refl hd).app, rdL_new⟩ (fun pre x post acc st' e ⟨rs, h1, h3, h4, h5, h6⟩ N M hN hM => ?_) (fun acc st' ⟨rs, h1, h3, h4, h5, h6⟩ => ?_)
  · subst h1
    refine ⟨hg _ h5, ?_⟩
    have e1 : (fun (ρ2 : Env) (st2 : Store) => tYes ρ2 st2 fun b st3 => (b = true → te ρ2 st3 N) ∧ (b = false → M st3)) = fun ρ2 st2 => te ρ2 st2 N := by
      funext ρ2 st2
      exact propext ⟨fun q => q.1 rfl, fun q => ⟨fun _ => q, fun e => nomatch e⟩⟩
    rw [e1]
    have hlen := congrArg List.length e
    simp at hlen
    refine hs x (by rw [e]; simp) st' h5 N fun r xs st2 hb hr hp f => ?_
    have h7 := f.rd h6 (by omega)
    have h8 := rdL_lt h6
    refine hN _ _ h7 (by simp; omega) ⟨rs ++ [r], by simp, by simp [h3], ?_, (h5.trans f).set (Nat.le_refl _) (by omega), rdL_set h7⟩
    intro y hy
    rcases List.mem_append.mp hy with hy | hy
    · obtain ⟨q1, ys, q2, q3⟩ := h4 y hy
      exact ⟨q1, ys, rdL_ne (f.rd q2 (by omega)) (by omega), q3⟩
    · simp at hy; subst hy
      exact ⟨by omega, xs, rdL_ne hr (by omega), hp⟩
  · subst h1
    exact ⟨hg _ h5, h6, hQ rs st' h3 h4 h5 h6⟩
theorem Two.mem {α β : Type} {P : α → β → Prop} {S : List α} : ∀ {as : List α} {bs : List β}, (∀ a ∈ as, a ∈ S) → Two (fun a b => a ∈ S → P a b) as bs → Two P as bs
  | _, _, _, .nil => .nil
  | _, _, hS, .cons h t => .cons (h (hS _ List.mem_cons_self)) (Two.mem (fun a ha => hS a (List.mem_cons_of_mem _ ha)) t)
theorem Two.on {α β : Type} {P : α → β → Prop} {as : List α} {bs : List β} (h : Two (fun a b => a ∈ as → P a b) as bs) : Two P as bs := Two.mem (fun _ h => h) h
theorem Two.split {α β γ : Type} {P : α → β → Prop} {R : γ → Prop} {f : γ → β} (h : ∀ a b, P a b → ∃ c, b = f c ∧ R c) : ∀ {as : List α} {bs : List β}, Two P as bs → ∃ cs : List γ, bs = cs.map f ∧ cs.length = as.length ∧ ∀ c ∈ cs, R c
  | _, _, .nil => ⟨[], rfl, rfl, by simp⟩
  | _, _, .cons p t => by
    obtain ⟨c, h1, h2⟩ := h _ _ p
    obtain ⟨cs, h3, h4, h5⟩ := Two.split h t
    refine ⟨c :: cs, by rw [h1, h3]; rfl, by simp [h4], ?_⟩
    intro x hx
    rcases List.mem_cons.mp hx with hx | hx
    · rw [hx]; exact h2
    · exact h5 x hx
/-! ### masks -/
theorem pow2_pos (n : Nat) : (0 : Int) < 2 ^ n := Int.pow_pos (by decide)
theorem pw_bd {w : Int} (h0 : 0 ≤ w) (h1 : w ≤ 8) : 0 < (2 : Int) ^ w.toNat ∧ (2 : Int) ^ w.toNat ≤ 256 := by
  have h2 : w.toNat ≤ 8 := by omega
  have h := pow2_pos w.toNat
  have h3 := Nat.pow_le_pow_right (n := 2) (by decide) h2
  have e : ((2 : Int) ^ w.toNat) = ((2 ^ w.toNat : Nat) : Int) := by simp
  constructor
  · exact h
  · rw [e]; omega
theorem and_le {x m : Int} (hm : 0 ≤ m) : 0 ≤ Builtin.bitAnd x m ∧ Builtin.bitAnd x m ≤ m := by
  unfold Builtin.bitAnd
  by_cases hx : 0 ≤ x
  · simp only [hx, hm, decide_true]
    have := Nat.and_le_right (n := x.toNat) (m := m.toNat)
    omega
  · simp only [hx, hm, decide_true, decide_false]
    have := Nat.and_le_left (n := m.toNat) (m := (Builtin.bitNot x).toNat)
    omega
theorem and_mask {x : Int} {n : Nat} (hx : 0 ≤ x) : Builtin.bitAnd x (2 ^ n - 1) = x % 2 ^ n := by
  have hm : (0 : Int) ≤ 2 ^ n - 1 := by have := pow2_pos n; omega
  unfold Builtin.bitAnd
  simp only [hx, hm, decide_true]
  have e1 : (2 ^ n - 1 : Int).toNat = 2 ^ n - 1 := by
    have : (2 ^ n : Int) = ((2 ^ n : Nat) : Int) := by simp
    rw [this]
    have := Nat.two_pow_pos n
    omega
  rw [e1, Nat.and_two_pow_sub_one_eq_mod]
  have : (2 ^ n : Int) = ((2 ^ n : Nat) : Int) := by simp
  rw [this, Int.natCast_emod, Int.toNat_of_nonneg hx]
theorem or_one {x : Int} (hx : 0 ≤ x) : Builtin.bitOr x 1 = x + 1 - x % 2 := by
  unfold Builtin.bitOr Builtin.bitNot Builtin.bitAnd
  have h1 : ¬ (0 ≤ -x - 1) := by omega
  have h2 : ¬ ((0 : Int) ≤ -1 - 1) := by omega
  simp only [h1, h2, decide_false]
  unfold Builtin.bitNot
  have e1 : (-(-x - 1) - 1).toNat = x.toNat := by omega
  have e2 : (-(-1 - 1 : Int) - 1).toNat = 1 := by decide
  rw [e1, e2]
  have h3 : x.toNat ||| 1 = x.toNat + 1 - x.toNat % 2 := by
    have h4 := Nat.div_add_mod x.toNat 2
    have h6 : 2 * (x.toNat / 2) ||| 1 = 2 * (x.toNat / 2) + 1 := (Nat.two_pow_add_eq_or_of_lt (i := 1) (by decide) (x.toNat / 2)).symm
    rcases Nat.mod_two_eq_zero_or_one x.toNat with h5 | h5
    · have : x.toNat = 2 * (x.toNat / 2) := by omega
      rw [h5]
      rw [← this] at h6
      omega
    · have : x.toNat = 2 * (x.toNat / 2) ||| 1 := by omega
      rw [h5]
      have h7 : x.toNat ||| 1 = x.toNat := by
        conv => lhs; rw [this]
        rw [Nat.or_assoc, Nat.or_self]
        exact this.symm
      omega
  rw [h3]
  omega
end Pd
end PartPdLib

section PartPdKit
set_option Elab.async false
set_option linter.all false
set_option maxRecDepth 100000
/-! Pd: small defs that several laws have. Own work. -/
namespace Pd
open PySem
local macro_rules | `(tactic| walk_at "s") => `(tactic| (repeat (refine Red.red ?_)))
local macro_rules | `(tactic| walk_at "r") => `(tactic| (repeat (first | refine Red.red ?_ | refine Nxt.mk ?_)))
instance {x : D} {xs : List D} {st : Store} {r : Bool → Prop} : Red (inC x (.tup xs) st r) (x.flat = true ∧ xs.all D.flat = true ∧ r (xs.any fun y => D.eqb y x)) := ⟨id⟩
instance {x : D} {xs : List D} {st : Store} {r : Bool → Prop} : Red (notinC x (.tup xs) st r) (x.flat = true ∧ xs.all D.flat = true ∧ r (!xs.any fun y => D.eqb y x)) := ⟨id⟩
/-- a, b = x, y -/
def ParK (i j : Nat) (xs : List D) (σ : Env) (q : Env → Prop) : Prop := ∃ x y, xs = [x, y] ∧ q ((σ.set i (some x)).set j (some y))
instance {i j : Nat} {Ar : TA} {D0 : Ends} {σ : Env} {st : Store} : Red (sPar i j Ar D0 σ st) (Ar σ st fun xs st1 => ParK i j xs σ fun σ' => D0.nx σ' st1) := ⟨id⟩
instance {i j : Nat} {σ σ' σ'' : Env} {x y : D} {q : Env → Prop} [h : SetE σ i (some x) σ'] [h' : SetE σ' j (some y) σ''] : Red (ParK i j [x, y] σ q) (q σ'') := ⟨fun z => ⟨x, y, rfl, by rw [h.eq, h'.eq]; exact z⟩⟩
instance {a b : Bool} {st : Store} {r : Bool → Prop} : Red (eqC (.bl a) (.bl b) st r) (r (a == b)) := ⟨fun h => ⟨rfl, rfl, h⟩⟩
instance {a b : Bool} {st : Store} {r : Bool → Prop} : Red (neC (.bl a) (.bl b) st r) (r (!(a == b))) := ⟨fun h => ⟨rfl, rfl, h⟩⟩
theorem at_is {xs : List D} {i : Int} {d : D} {P : D → Prop} (h : atD xs i = some d) (q : P d) : ∃ d, atD xs i = some d ∧ P d := ⟨d, h, q⟩
theorem zipD_maps {α β : Type} (f : α → D) (g : β → D) : ∀ (xs : List α) (ys : List β), zipD (xs.map f) (ys.map g) = (xs.zip ys).map fun p => D.tup [f p.1, g p.2]
  | [], ys => by cases ys <;> rfl
  | x :: xs, [] => rfl
  | x :: xs, y :: ys => by simp [zipD, zipD_maps f g xs ys]
mutual
theorem eqb_refl : ∀ (n : Nat) (d : D), D.okd n d = true → D.eqb d d = true
  | _, .non, _ => rfl
  | _, .bl b, _ => by simp [D.eqb]
  | _, .int i, _ => by simp [D.eqb]
  | _, .str x, _ => by simp [D.eqb]
  | 0, .tup _, h => by simp [D.okd] at h
  | n + 1, .tup xs, h => by
    have := eqbs_refl n xs (by simpa [D.okd] using h)
    simpa [D.eqb] using this
  | _, .ref _, h => by simp [D.okd] at h
theorem eqbs_refl : ∀ (n : Nat) (ds : List D), okds n ds = true → eqbs ds ds = true
  | _, [], _ => rfl
  | n, d :: ds, h => by
    have h' : D.okd n d = true ∧ okds n ds = true := by simpa [okds] using h
    have h1 := eqb_refl n d h'.1
    have h2 := eqbs_refl n ds h'.2
    simp [eqbs, h1, h2]
end
theorem okds_all (n : Nat) : ∀ ds : List D, okds n ds = ds.all (D.okd n)
  | [] => rfl
  | d :: ds => by simp [okds, okds_all n ds]
theorem ne_self {d : D} {st : Store} {r : Bool → Prop} (h : D.okd 60 d = true) (hr : ∀ n, d ≠ .ref n) (q : r false) : neC d d st r := by
  have e := eqb_refl 60 d h
  have key : eqC d d st fun b => r (!b) := by
    cases d with
    | ref n => exact absurd rfl (hr n)
    | non => exact ⟨h, h, by rw [e]; exact q⟩
    | bl b => exact ⟨h, h, by rw [e]; exact q⟩
    | int b => exact ⟨h, h, by rw [e]; exact q⟩
    | str b => exact ⟨h, h, by rw [e]; exact q⟩
    | tup b => exact ⟨h, h, by rw [e]; exact q⟩
  exact key
/-! dicts -/
theorem put_len (kvs : List (Ky × D)) (k : Ky) (v : D) : (putD kvs k v).length ≤ kvs.length + 1 := by
  unfold putD
  split <;> simp
theorem val_put (kvs : List (Ky × D)) (k j : Ky) (v : D) : valD (putD kvs k v) j = if j = k then some v else valD kvs j := by
  unfold putD
  split
  · rename_i h
    induction kvs with
    | nil => simp at h
    | cons p kvs ih =>
      obtain ⟨a, d⟩ := p
      by_cases e : a = k
      · subst e
        by_cases ej : j = a
        · subst ej; simp [valD]
        · have ej' : ¬ a = j := fun z => ej z.symm
          have rest : ∀ l : List (Ky × D), valD (l.map fun kv => if kv.1 = a then (kv.1, v) else kv) j = valD l j := by
            intro l
            induction l with
            | nil => rfl
            | cons q l ih2 =>
              obtain ⟨b, z⟩ := q
              by_cases eb : b = a
              · subst eb
                simp [valD, ej'] at ih2 ⊢
                exact ih2
              · by_cases ebj : b = j
                · subst ebj; simp [valD, eb]
                · simp [valD, eb, ebj] at ih2 ⊢
                  exact ih2
          rw [if_neg ej]
          exact rest _
      · have h' : (kvs.any fun kv => decide (kv.1 = k)) = true := by simpa [e] using h
        have ih' := ih h'
        by_cases ea : a = j
        · subst ea
          simp [valD, e]
        · simp [valD, e, ea] at ih' ⊢
          exact ih'
  · rename_i h
    have hno : ∀ p ∈ kvs, ¬ p.1 = k := fun p hp e => h (List.any_eq_true.mpr ⟨p, hp, by simp [e]⟩)
    clear h
    induction kvs with
    | nil =>
      by_cases e : j = k
      · subst e; simp [valD]
      · have : ¬ k = j := fun z => e z.symm
        simp [valD, e, this]
    | cons p kvs ih =>
      obtain ⟨a, d⟩ := p
      have hak : ¬ a = k := hno (a, d) List.mem_cons_self
      have ih' := ih fun q hq => hno q (List.mem_cons_of_mem _ hq)
      by_cases ea : a = j
      · subst ea
        rw [if_neg hak]
        simp [valD]
      · simp [valD, ea] at ih' ⊢
        exact ih'
theorem dc_pure {α : Type} {gd : Store → Prop} {g : TG} {tk tv : TE} {ρ : Env} {st : Store} {Q : K} (f : α → D) (kf : α → Ky) (vf : α → D) (hg : ∀ acc, gd (st ++ [.dic acc])) : ∀ (xs : List α) (acc : List (Ky × D)) {items : List D}, items = xs.map f → acc.length + xs.length ≤ szl →
    (∀ x, x ∈ xs → ∀ (acc : List (Ky × D)) (N : D → D → Store → Prop), N (keyD (kf x)) (vf x) (st ++ [.dic acc]) → g (f x) ρ (st ++ [.dic acc]) fun ρ2 st2 => tk ρ2 st2 fun y st4 => tv ρ2 st4 fun z st5 => N y z st5) →
    Q (.ref st.length) (st ++ [.dic (xs.foldl (fun acc x => putD acc (kf x) (vf x)) acc)]) → dcLoop gd g tYes tk tv ρ st.length Q items acc (st ++ [.dic acc])
  | [], acc, items, e, hl, hs, hd => by
    subst e
    exact ⟨hg _, by unfold rdD; simp, hd⟩
  | x :: xs, acc, items, e, hl, hs, hd => by
    subst e
    refine ⟨hg _, ?_⟩
    have e1 : ∀ (R : D → D → Store → Prop), (fun (ρ2 : Env) (st2 : Store) => tYes ρ2 st2 fun b st3 => (b = true → tk ρ2 st3 fun y st4 => tv ρ2 st4 fun z st5 => R y z st5) ∧ (b = false → rdD st3 st.length acc ∧ dcLoop gd g tYes tk tv ρ st.length Q (xs.map f) acc st3)) = fun ρ2 st2 => tk ρ2 st2 fun y st4 => tv ρ2 st4 fun z st5 => R y z st5 := fun R => by
      funext ρ2 st2
      exact propext ⟨fun q => q.1 rfl, fun q => ⟨fun _ => q, fun e => nomatch e⟩⟩
    rw [e1]
    simp only [List.length_cons] at hl
    refine hs x List.mem_cons_self acc _ ⟨kf x, rfl, by unfold rdD; simp, by omega, ?_⟩
    have e2 : (st ++ [C.dic acc]).set st.length (.dic (putD acc (kf x) (vf x))) = st ++ [.dic (putD acc (kf x) (vf x))] := by
      rw [List.set_append_right _ _ (Nat.le_refl _)]; simp
    rw [e2]
    have := put_len acc (kf x) (vf x)
    exact dc_pure f kf vf hg xs _ rfl (by omega) (fun y hy => hs y (List.mem_cons_of_mem _ hy)) hd
section
variable {prog : String → Option Def} {k : Nat} {st : Store} {Q : K}
def pickBody (c : Cl) : TS := sRet (dOp ixK (dVar 1) (dCall c "_law_draw" (aCons (dVar 0) (aCons (dB lenB (aCons (dVar 1) (aNil))) (aNil)))))
theorem pick_ok (hp : prog "_law_pick" = some ⟨2, 2, pickBody⟩) (hp2 : prog "_law_draw" = some ⟨2, 5, drawBody⟩) {n : Nat} {xs : List D} (hd : DrawAt st) (h : rdL st n xs) (hn : n ≠ 2) (h0 : 0 < xs.length) (h1 : xs.length < 1073741824)
    (q : ∀ x st', x ∈ xs → Fra st st' → st'.length = st.length → Q x st') : callN prog (k + 2) "_law_pick" [.ref 2, .ref n] st Q := by
  refine call_intro hp rfl ?_
  unfold pickBody
  walk_at "r"
  refine len_at h ?_
  walk_at "r"
  refine draw_ok hp2 hd (by omega) (by omega) fun r st' r0 r1 f fl => ?_
  obtain ⟨x, hx, _, e⟩ := atD_of (xs := xs) r0 r1
  exact ix_at (f.rd h hn) e (q x st' hx f fl)
theorem pickT_ok (hp : prog "_law_pick" = some ⟨2, 2, pickBody⟩) (hp2 : prog "_law_draw" = some ⟨2, 5, drawBody⟩) {xs : List D} (hd : DrawAt st) (h0 : 0 < xs.length) (h1 : xs.length < 1073741824)
    (q : ∀ x st', x ∈ xs → Fra st st' → st'.length = st.length → Q x st') : callN prog (k + 2) "_law_pick" [.ref 2, .tup xs] st Q := by
  refine call_intro hp rfl ?_
  unfold pickBody
  walk_at "r"
  refine draw_ok hp2 hd (by omega) (by omega) fun r st' r0 r1 f fl => ?_
  obtain ⟨x, hx, _, e⟩ := atD_of (xs := xs) r0 r1
  exact ⟨x, e, q x st' hx f fl⟩
def rareBody (c : Cl) : TS := sRet (dCmp eqC (dCall c "_law_draw" (aCons (dVar 0) (aCons (dVar 1) (aNil)))) (dOp fdivK (dVar 1) (dC (.int 2))))
theorem rareK_ok (hp : prog "_law_rare" = some ⟨2, 2, rareBody⟩) (hp2 : prog "_law_draw" = some ⟨2, 5, drawBody⟩) {many : Int} (h : DrawAt st) (h0 : 0 < many) (h1 : many < 1073741824) (q : ∀ b st', Fra st st' → st'.length = st.length → Q (.bl b) st') : callN prog (k + 2) "_law_rare" [.ref 2, .int many] st Q := by
  refine call_intro hp rfl ?_
  unfold rareBody
  walk_at "r"
  refine draw_ok hp2 h h0 h1 fun r st' r0 r1 f fl => ?_
  walk_at "r"
  refine ⟨⟨by decide, by decide⟩, ?_⟩
  walk_at "r"
  exact q _ _ f fl
def isIntBody (c : Cl) : TS := sRet (dAndT (dIsi .int (dVar 0)) (dNotT (dIsi .bool (dVar 0))))
theorem isInt_ok (hp : prog "_law_is_int" = some ⟨1, 1, isIntBody⟩) {i : Int} (q : Q (.bl true) st) : callN prog (k + 1) "_law_is_int" [.int i] st Q := by
  refine call_intro hp rfl ?_
  unfold isIntBody
  walk_at "r"
  refine wayT rfl ?_
  walk_at "r"
  exact q
def fullI (w : Int) : Int := 2 ^ w.toNat - 1
theorem fullI_bd {w : Int} (h0 : 0 ≤ w) (h1 : w ≤ 8) : 0 ≤ fullI w ∧ fullI w ≤ 255 := by
  have := pw_bd h0 h1
  unfold fullI
  omega
theorem cmul_small {a b : Int} (h0 : 0 ≤ b) (h1 : b ≤ 1000000) : cMul a b := .inr ⟨by omega, by omega⟩
theorem cpow_small {w : Int} (h0 : 0 ≤ w) (h1 : w ≤ 1000) : cPow 1 w := ⟨h0, by omega, by decide⟩
def greatestBody (c : Cl) : TS := sRet (dOp subK (dOp shlK (dC (.int 1)) (dVar 0)) (dC (.int 1)))
theorem greatest_ok (hp : prog "greatest" = some ⟨1, 1, greatestBody⟩) {w : Int} (h0 : 0 ≤ w) (h1 : w ≤ 8) (q : Q (.int (fullI w)) st) : callN prog (k + 1) "greatest" [.int w] st Q := by
  refine call_intro hp rfl ?_
  unfold greatestBody
  walk_at "r"
  refine ⟨cpow_small h0 (by omega), ?_⟩
  walk_at "r"
  rw [Int.one_mul]
  exact q
/-- the first place of n at which P holds -/
def Fnd (P : Nat → Prop) (n : Nat) : Option Nat → Prop
  | some t => t < n ∧ P t ∧ ∀ u, u < t → ¬ P u
  | none => ∀ u, u < n → ¬ P u
theorem Fnd.uniq {P : Nat → Prop} {n : Nat} : ∀ {r r' : Option Nat}, Fnd P n r → Fnd P n r' → r = r'
  | none, none, _, _ => rfl
  | some t, none, h, h' => absurd h.2.1 (h' t h.1)
  | none, some t, h, h' => absurd h'.2.1 (h t h'.1)
  | some t, some t', h, h' => by
    rcases Nat.lt_trichotomy t t' with e | e | e
    · exact absurd h.2.1 (h'.2.2 t e)
    · rw [e]
    · exact absurd h'.2.1 (h.2.2 t' e)
def optD : Option Nat → D
  | some t => .int t
  | none => .non
/-- cells are as they were, but the drawer and p -/
structure FraE (p : Nat) (st st' : Store) : Prop where
  dr : DrawAt st'
  le : st.length ≤ st'.length
  at' : ∀ n, n < st.length → n ≠ 2 → n ≠ p → st'[n]? = st[n]?
theorem FraE.rd {p : Nat} {st st' : Store} (f : FraE p st st') {n : Nat} {xs : List D} (h : rdL st n xs) (ne : n ≠ 2) (ne' : n ≠ p) : rdL st' n xs := by
  unfold rdL at *
  rw [f.at' n (rdL_lt h) ne ne']; exact h
theorem FraE.of {p : Nat} {st st' : Store} (f : Fra st st') : FraE p st st' := ⟨f.dr, f.le, fun n h1 h2 _ => f.at' n h1 h2⟩
theorem FraE.trans {p : Nat} {a b c : Store} (h : FraE p a b) (h' : FraE p b c) : FraE p a c := ⟨h'.dr, Nat.le_trans h.le h'.le, fun n hn ne ne' => (h'.at' n (Nat.lt_of_lt_of_le hn h.le) ne ne').trans (h.at' n hn ne ne')⟩
theorem FraE.setP {p : Nat} {st st' : Store} {c : C} (f : FraE p st st') (h2 : 2 < p) : FraE p st (st'.set p c) := ⟨f.dr.set h2, by simp; exact f.le, fun m hm ne ne' => by
  rw [List.getElem?_set_ne (Ne.symm ne')]; exact f.at' m hm ne ne'⟩
theorem FraE.fra {p : Nat} {st st' : Store} (f : FraE p st st') (h : st.length ≤ p) : Fra st st' := ⟨f.dr, f.le, fun n hn ne => f.at' n hn ne (by omega)⟩
theorem FraE.setN {p : Nat} {st st' : Store} {n : Nat} {c : C} (f : FraE p st st') (hn : st.length ≤ n) (h2 : 2 < n) : FraE p st (st'.set n c) := ⟨f.dr.set h2, by simp; exact f.le, fun m hm ne ne' => by
  rw [List.getElem?_set_ne (by omega)]; exact f.at' m hm ne ne'⟩
/-- cells of before are as they were; the new ones, g among them, as they come -/
structure FraG (g : Nat) (st st' : Store) : Prop where
  big : st.length ≤ g
  at' : ∀ n, n < st.length → st'[n]? = st[n]?
  le : st.length ≤ st'.length
theorem FraG.new {st : Store} {c : C} : FraG st.length st (st ++ [c]) := ⟨Nat.le_refl _, fun n h => List.getElem?_append_left h, by simp⟩
theorem FraG.refl {st : Store} {g : Nat} (h : st.length ≤ g) : FraG g st st := ⟨h, fun _ _ => rfl, Nat.le_refl _⟩
theorem FraG.rd {g : Nat} {st st' : Store} (f : FraG g st st') {n : Nat} {xs : List D} (h : rdL st n xs) (hn : n < st.length) : rdL st' n xs := by
  unfold rdL at *
  rw [f.at' n hn]; exact h
theorem FraG.app {g : Nat} {st st' : Store} {c : C} (f : FraG g st st') : FraG g st (st' ++ [c]) := ⟨f.big, fun n h => by rw [List.getElem?_append_left (Nat.lt_of_lt_of_le h f.le)]; exact f.at' n h, by simp; have := f.le; omega⟩
theorem FraG.setG {g : Nat} {st st' : Store} {c : C} (f : FraG g st st') : FraG g st (st'.set g c) := ⟨f.big, fun n h => by
  have := f.big
  rw [List.getElem?_set_ne (by omega)]; exact f.at' n h, by simp; exact f.le⟩
theorem FraG.setN {g n : Nat} {st st' : Store} {c : C} (f : FraG g st st') (hn : st.length ≤ n) : FraG g st (st'.set n c) := ⟨f.big, fun m h => by
  rw [List.getElem?_set_ne (by omega)]; exact f.at' m h, by simp; exact f.le⟩
theorem FraG.grw {g : Nat} {st st' : Store} (f : FraG g st st') : Grw st st' := by
  refine ⟨st'.drop st.length, ?_⟩
  apply List.ext_getElem?
  intro n
  by_cases h : n < st.length
  · rw [f.at' n h, List.getElem?_append_left h]
  · rw [List.getElem?_append_right (by omega), List.getElem?_drop, show st.length + (n - st.length) = n by omega]
theorem FraG.more {g : Nat} {st st' st2 : Store} (f : FraG g st st') (h : Grw st' st2) : FraG g st st2 := by
  obtain ⟨m, rfl⟩ := h
  exact ⟨f.big, fun n h => by rw [List.getElem?_append_left (Nat.lt_of_lt_of_le h f.le)]; exact f.at' n h, by simp; have := f.le; omega⟩
/-- the element adds cells alone: the new list is the map -/
theorem lc_mapG {α : Type} {gd : Store → Prop} {g : TG} {te : TE} {ρ : Env} (xs : List α) (f h : α → D) {items : List D} (hi : items = xs.map f) (hl : xs.length ≤ szl) (hg : ∀ st', FraG st.length st st' → gd st')
    (hs : ∀ x, x ∈ xs → ∀ (st1 : Store) (N : D → Store → Prop), FraG st.length st st1 → (∀ st2, Grw st1 st2 → N (h x) st2) → g (f x) ρ st1 fun ρ2 st2 => te ρ2 st2 N)
    (hd : ∀ st', FraG st.length st st' → rdL st' st.length (xs.map h) → Q (.ref st.length) st') : lcLoop gd g tYes te ρ st.length Q items [] (st ++ [.lst []]) := by
  subst hi
  refine lc_by (fun pre acc st' => acc = (xs.take pre.length).map h ∧ FraG st.length st st' ∧ rdL st' st.length acc) ⟨rfl, FraG.new, rdL_new⟩ (fun pre x post acc st' e ⟨h1, h5, h6⟩ N M hN hM => ?_) (fun acc st' ⟨h1, h5, h6⟩ => ?_)
  · refine ⟨hg _ h5, ?_⟩
    have e1 : (fun (ρ2 : Env) (st2 : Store) => tYes ρ2 st2 fun b st3 => (b = true → te ρ2 st3 N) ∧ (b = false → M st3)) = fun ρ2 st2 => te ρ2 st2 N := by
      funext ρ2 st2
      exact propext ⟨fun q => q.1 rfl, fun q => ⟨fun _ => q, fun e => nomatch e⟩⟩
    rw [e1]
    have hlen := congrArg List.length e
    simp at hlen
    have hx : (xs.map f)[pre.length]? = some x := by rw [e]; simp
    rw [List.getElem?_map] at hx
    cases hy : xs[pre.length]? with
    | none => rw [hy] at hx; cases hx
    | some y =>
      rw [hy] at hx
      cases hx
      refine hs y (List.mem_of_getElem? hy) st' _ h5 fun st2 gr => ?_
      have h7 := gr.rd h6
      refine hN _ _ h7 (by rw [h1]; simp; omega) ⟨?_, (h5.more gr).setG, rdL_set h7⟩
      rw [List.length_append]
      show _ = (xs.take (pre.length + 1)).map h
      rw [List.take_add_one, hy, List.map_append, h1]; rfl
  · rw [List.length_map, List.take_length] at h1
    subst h1
    exact ⟨hg _ h5, h6, hd st' h5 h6⟩
def popBody (c : Cl) : TS := sRet (dM tyLst popM (dVar 1) (aCons (dCall c "_law_draw" (aCons (dVar 0) (aCons (dB lenB (aCons (dVar 1) (aNil))) (aNil)))) (aNil)))
theorem pop_ok (hp : prog "_law_pop" = some ⟨2, 2, popBody⟩) (hp2 : prog "_law_draw" = some ⟨2, 5, drawBody⟩) {n : Nat} {xs : List D} (hd : DrawAt st) (h : rdL st n xs) (hn : 2 < n) (h0 : 0 < xs.length) (h1 : xs.length < 1073741824)
    (q : ∀ (i : Nat) x st', xs[i]? = some x → FraE n st st' → rdL st' n (xs.eraseIdx i) → st'.length = st.length → Q x st') : callN prog (k + 2) "_law_pop" [.ref 2, .ref n] st Q := by
  refine call_intro hp rfl ?_
  unfold popBody
  walk_at "r"
  refine ⟨ty_at h, ?_⟩
  walk_at "r"
  refine len_at h ?_
  walk_at "r"
  refine draw_ok hp2 hd (by omega) (by omega) fun r st' r0 r1 f fl => ?_
  walk_at "r"
  obtain ⟨x, hx, e', e⟩ := atD_of (xs := xs) r0 r1
  have h' := f.rd h (by omega)
  exact ⟨xs, x, h', ⟨r0, by omega⟩, e, q r.toNat x _ e' ((FraE.of f).setP hn) (rdL_set h') (by simp [fl])⟩

def shuffledBody (c : Cl) : TS := sSeq (sAsg (dB listB (aCons (dVar 1) (aNil))) (gName 2)) (sSeq (sAsg (dLst (aNil)) (gName 3)) (sSeq (sFor (iR1 (dB lenB (aCons (dVar 2) (aNil)))) (gName 4) (sExpr (dM tyLst appendM (dVar 3) (aCons (dM tyLst popM (dVar 2) (aCons (dCall c "_law_draw" (aCons (dVar 0) (aCons (dB lenB (aCons (dVar 2) (aNil))) (aNil)))) (aNil))) (aNil))))) (sRet (dVar 3))))
theorem perm_erase {α : Type} {x : α} : ∀ {l : List α} {i : Nat}, l[i]? = some x → (x :: l.eraseIdx i).Perm l
  | [], _, h => by simp at h
  | a :: l, 0, h => by simp at h; subst h; exact List.Perm.refl _
  | a :: l, i + 1, h => (List.Perm.swap a x _).trans ((perm_erase (l := l) (i := i) (by simpa using h)).cons a)
theorem shuffled_ok (hp : prog "_law_shuffled" = some ⟨2, 5, shuffledBody⟩) (hp2 : prog "_law_draw" = some ⟨2, 5, drawBody⟩) {n : Nat} {xs : List D} (hd : DrawAt st) (h : rdL st n xs) (hn : 2 < n) (h1 : xs.length < 1000000)
    (q : ∀ fn ys st', ys.Perm xs → st.length ≤ fn → rdL st' fn ys → Fra st st' → Q (.ref fn) st') : callN prog (k + 2) "_law_shuffled" [.ref 2, .ref n] st Q := by
  refine call_intro hp rfl ?_
  unfold shuffledBody
  have d2 := hd.lt
  walk_at "r"
  refine list_at h ?_
  walk_at "r"
  refine ⟨by show 0 ≤ szl; decide, ?_⟩
  walk_at "r"
  refine len_at (rdL_app rdL_new) ?_
  walk_at "r"
  refine ⟨by omega, by omega, ?_⟩
  have l1 : st.length < (st ++ [C.lst xs]).length := by simp
  have f0 := ((Fra.refl hd).app (c := C.lst xs)).app (c := C.lst [])
  have hf0 := rdL_new (st := st ++ [C.lst xs]) (xs := [])
  have hl0 : rdL (st ++ [C.lst xs] ++ [C.lst []]) st.length xs := rdL_app rdL_new
  generalize (st ++ [C.lst xs]).length = fn at l1 hf0 ⊢
  generalize (st ++ [C.lst xs] ++ [C.lst []]) = st1 at f0 hf0 hl0 ⊢
  refine for_rng (fun j σ st' => ∃ y4 ls fs, σ = [some (.ref 2), some (.ref n), some (.ref st.length), some (.ref fn), y4] ∧ rdL st' st.length ls ∧ rdL st' fn fs ∧ (fs ++ ls).Perm xs ∧ fs.length = j ∧ Fra st st') ⟨none, xs, [], rfl, hl0, hf0, List.Perm.refl _, rfl, f0⟩ (fun j σ st' hj ⟨y4, ls, fs, e, hls, hfs, pm, hfl, f⟩ N hN => ?_) (fun σ st' ⟨y4, ls, fs, e, hls, hfs, pm, hfl, f⟩ => ?_)
  · subst e
    have hpl := pm.length_eq
    rw [List.length_append] at hpl
    refine ⟨trivial, ?_⟩
    walk_at "r"
    refine ⟨ty_at hfs, ?_⟩
    walk_at "r"
    refine ⟨ty_at hls, ?_⟩
    walk_at "r"
    refine len_at hls ?_
    walk_at "r"
    refine draw_ok hp2 f.dr (by omega) (by omega) fun r st2 r0 r1 f2 l2 => ?_
    walk_at "r"
    obtain ⟨x, hx, e', e⟩ := atD_of (xs := ls) r0 r1
    have hls2 := f2.rd hls (by omega)
    have hfs2 := f2.rd hfs (by omega)
    refine ⟨ls, x, hls2, ⟨r0, by omega⟩, e, ?_⟩
    walk_at "r"
    have hfs3 : rdL (st2.set st.length (.lst (ls.eraseIdx r.toNat))) fn fs := rdL_ne hfs2 (by omega)
    refine append_at hfs3 (by unfold szl; omega) ?_
    refine hN _ _ ⟨_, ls.eraseIdx r.toNat, fs ++ [x], rfl, rdL_ne (rdL_set hls2) (by omega), rdL_set hfs3, ?_, by simp [hfl], ((f.trans f2).set (Nat.le_refl _) d2).set (by omega) (by omega)⟩
    rw [List.append_assoc]
    exact ((perm_erase e').append_left fs).trans pm
  · subst e
    refine ⟨trivial, ?_⟩
    walk_at "r"
    have hpl := pm.length_eq
    rw [List.length_append] at hpl
    have hl : ls = [] := List.eq_nil_of_length_eq_zero (by omega)
    subst hl
    rw [List.append_nil] at pm
    exact q fn fs st' pm (by omega) hfs f
theorem and_maskZ (x : Int) (n : Nat) : Builtin.bitAnd x (2 ^ n - 1) = x % 2 ^ n := by
  by_cases hx : 0 ≤ x
  · exact and_mask hx
  · have hm : (0 : Int) ≤ 2 ^ n - 1 := by have := pow2_pos n; omega
    unfold Builtin.bitAnd
    simp only [hx, hm, decide_true, decide_false]
    unfold Builtin.bitNot
    have e1 : (2 ^ n - 1 : Int).toNat = 2 ^ n - 1 := by
      have : (2 ^ n : Int) = ((2 ^ n : Nat) : Int) := by simp
      rw [this]
      have := Nat.two_pow_pos n
      omega
    obtain ⟨m, hm2⟩ : ∃ m : Nat, (-x - 1).toNat = m := ⟨_, rfl⟩
    have hx2 : x = -(m : Int) - 1 := by omega
    rw [hm2, e1, Nat.and_comm, Nat.and_two_pow_sub_one_eq_mod, hx2]
    have hp := pow2_pos n
    have c : ((2 : Int) ^ n) = ((2 ^ n : Nat) : Int) := by simp
    have h1 := Nat.div_add_mod m (2 ^ n)
    have h2 := Nat.mod_lt m (Nat.two_pow_pos n)
    have h3 : -(m : Int) - 1 = ((2 : Int) ^ n - 1 - ((m % 2 ^ n : Nat) : Int)) + 2 ^ n * (-((m / 2 ^ n : Nat) : Int) - 1) := by
      have h4 : (m : Int) = 2 ^ n * ((m / 2 ^ n : Nat) : Int) + ((m % 2 ^ n : Nat) : Int) := by
        rw [c, ← Int.natCast_mul, ← Int.natCast_add, h1]
      rw [Int.mul_sub, Int.mul_neg, Int.mul_one]
      omega
    rw [h3, Int.add_mul_emod_self_left, Int.emod_eq_of_lt (by omega) (by omega)]

/-- a for over known items, by the place -/
theorem for_map {α : Type} {gd : Store → Prop} {g : TG} {tb : TS} {D0 : Ends} {σ : Env} (xs : List α) (f : α → D) {items : List D} (hi : items = xs.map f) (Pv : Nat → Env → Store → Prop) (h0 : Pv 0 σ st)
    (hs : ∀ j x σ st, xs[j]? = some x → Pv j σ st → ∀ N : Env → Store → Prop, (∀ σ st, Pv (j + 1) σ st → N σ st) → gd st ∧ g (f x) σ st fun σ2 st2 => tb { D0 with nx := N, ct := N, bk := D0.nx } σ2 st2)
    (hd : ∀ σ st, Pv xs.length σ st → gd st ∧ D0.nx σ st) : forLoop gd g tb D0 items σ st := by
  subst hi
  refine for_by (fun pre σ st => Pv pre.length σ st) h0 (fun pre x post σ st e h N hN => ?_) (fun σ st h => hd σ st (by simpa using h))
  have hx : (xs.map f)[pre.length]? = some x := by rw [e]; simp
  rw [List.getElem?_map] at hx
  cases hy : xs[pre.length]? with
  | none => rw [hy] at hx; cases hx
  | some y =>
    rw [hy] at hx
    cases hx
    exact hs pre.length y σ st hy h N fun σ st h' => hN σ st (by simpa using h')
theorem lc_two {α β : Type} {gd : Store → Prop} {g : TG} {te : TE} {ρ : Env} (xs : List α) (f : α → D) (f' : β → D) (P : α → β → Prop) {items : List D} (hi : items = xs.map f) (hd : DrawAt st) (hl : xs.length ≤ szl) (hg : ∀ st', Fra st st' → gd st')
    (hs : ∀ x ∈ xs, ∀ st', Fra st st' → ∀ N : D → Store → Prop, (∀ y st2, P x y → Fra st' st2 → N (f' y) st2) → g (f x) ρ st' fun ρ2 st2 => te ρ2 st2 N)
    (hQ : ∀ (ys : List β) st', Two P xs ys → Fra st st' → rdL st' st.length (ys.map f') → Q (.ref st.length) st') : lcLoop gd g tYes te ρ st.length Q items [] (st ++ [.lst []]) := by
  subst hi
  have key : ∀ {as : List α} {zs : List D}, Two (fun a z => ∃ b, z = f' b ∧ P a b) as zs → ∃ bs : List β, zs = bs.map f' ∧ Two P as bs := by
    intro as zs h
    induction h with
    | nil => exact ⟨[], rfl, .nil⟩
    | cons p _ ih =>
      obtain ⟨b, h1, h2⟩ := p
      obtain ⟨bs, h3, h4⟩ := ih
      exact ⟨b :: bs, by rw [h1, h3]; rfl, .cons h2 h4⟩
  have h2 := hd.lt
  refine lc_by (fun pre acc st' => Two (fun a z => ∃ b, z = f' b ∧ P a b) (xs.take pre.length) acc ∧ Fra st st' ∧ rdL st' st.length acc) ⟨.nil, (Fra.refl hd).app, rdL_new⟩ (fun pre x post acc st' e ⟨h1, h5, h6⟩ N M hN hM => ?_) (fun acc st' ⟨h1, h5, h6⟩ => ?_)
  · refine ⟨hg _ h5, ?_⟩
    have e1 : (fun (ρ2 : Env) (st2 : Store) => tYes ρ2 st2 fun b st3 => (b = true → te ρ2 st3 N) ∧ (b = false → M st3)) = fun ρ2 st2 => te ρ2 st2 N := by
      funext ρ2 st2
      exact propext ⟨fun q => q.1 rfl, fun q => ⟨fun _ => q, fun e => nomatch e⟩⟩
    rw [e1]
    have hlen := congrArg List.length e
    simp at hlen
    have hx : (xs.map f)[pre.length]? = some x := by rw [e]; simp
    rw [List.getElem?_map] at hx
    cases hy : xs[pre.length]? with
    | none => rw [hy] at hx; cases hx
    | some y =>
      rw [hy] at hx
      cases hx
      refine hs y (List.mem_of_getElem? hy) st' h5 N fun z st2 hr fr => ?_
      have h7 := fr.rd h6 (by omega)
      have hal := h1.length
      rw [List.length_take] at hal
      refine hN _ _ h7 (by omega) ⟨?_, (h5.trans fr).set (Nat.le_refl _) (by omega), rdL_set h7⟩
      rw [List.length_append]
      show Two _ (xs.take (pre.length + 1)) _
      rw [List.take_add_one, hy]
      exact h1.snoc ⟨z, rfl, hr⟩
  · rw [List.length_map, List.take_length] at h1
    obtain ⟨bs, rfl, h8⟩ := key h1
    exact ⟨hg _ h5, h6, hQ bs st' h8 h5 h6⟩
end
end Pd
end PartPdKit

section PartPdWhile
set_option Elab.async false
set_option linter.all false
set_option maxRecDepth 100000
/-! Pd: a while by an invariant and a measure. Own work. -/
namespace Pd
theorem whileN_by {c : TT} {tb : TS} {D0 : Ends} (Pv : Nat → Env → Store → Prop)
    (hs : ∀ m σ st, Pv m σ st → ∀ N : Env → Store → Prop, (∀ m' σ' st', m' < m → Pv m' σ' st' → N σ' st') → c σ st fun b st1 => (b = true → tb { D0 with nx := N, ct := N, bk := D0.nx } σ st1) ∧ (b = false → D0.nx σ st1)) :
    ∀ (n m : Nat) (σ : Env) (st : Store), m < n → Pv m σ st → whileN c tb D0 n σ st
  | 0, m, _, _, h, _ => absurd h (by omega)
  | n + 1, m, σ, st, h, p => hs m σ st p _ fun m' σ' st' hlt hp => whileN_by Pv hs n m' σ' st' (by omega) hp
theorem while_by {c : TT} {tb : TS} {D0 : Ends} {σ : Env} {st : Store} (Pv : Nat → Env → Store → Prop) {m : Nat} (h0 : Pv m σ st)
    (hs : ∀ m σ st, Pv m σ st → ∀ N : Env → Store → Prop, (∀ m' σ' st', m' < m → Pv m' σ' st' → N σ' st') → c σ st fun b st1 => (b = true → tb { D0 with nx := N, ct := N, bk := D0.nx } σ st1) ∧ (b = false → D0.nx σ st1)) : sWhile c tb D0 σ st :=
  ⟨m + 1, whileN_by Pv hs (m + 1) m σ st (by omega) h0⟩
end Pd
end PartPdWhile

section PartPdNodes
set_option Elab.async false
set_option linter.all false
set_option maxRecDepth 100000
set_option maxHeartbeats 1000000
/-! Pd: sheets of nodes, plain: operations, nodes, values, widths. Own work. -/
namespace Pd
open PySem
local macro_rules | `(tactic| walk_at "s") => `(tactic| (repeat (refine Red.red ?_)))
inductive Op where | not | neg | wide | pick | add | sub | mul | and | or | xor | shl | shr | div | rem | eq | ne | lt | le
def opS : Op → Str
  | .not => "not"
  | .neg => "neg"
  | .wide => "wide"
  | .pick => "pick"
  | .add => "+"
  | .sub => "-"
  | .mul => "*"
  | .and => "&"
  | .or => "|"
  | .xor => "^"
  | .shl => "<<"
  | .shr => ">>"
  | .div => "div"
  | .rem => "rem"
  | .eq => "=="
  | .ne => "!="
  | .lt => "<"
  | .le => "<="
def v1 : Op → Int → Int → Int
  | .not, w, l => fullI w - l
  | .neg, w, l => Builtin.bitAnd (-l) (fullI w)
  | _, w, l => Builtin.bitAnd l (fullI w)
def v2 : Op → Int → Int → Int → Int
  | .add, w, l, r => Builtin.bitAnd (l + r) (fullI w)
  | .sub, w, l, r => Builtin.bitAnd (l - r) (fullI w)
  | .mul, w, l, r => Builtin.bitAnd (l * r) (fullI w)
  | .and, w, l, r => Builtin.bitAnd (Builtin.bitAnd l r) (fullI w)
  | .or, w, l, r => Builtin.bitAnd (Builtin.bitOr l r) (fullI w)
  | .xor, w, l, r => Builtin.bitAnd (Builtin.bitXor l r) (fullI w)
  | .shl, w, l, r => if w ≤ r then 0 else Builtin.bitAnd (l * 2 ^ r.toNat) (fullI w)
  | .shr, w, l, r => if w ≤ r then 0 else l / 2 ^ r.toNat
  | .div, w, l, r => if r = 0 then 0 else l / r
  | .rem, w, l, r => if r = 0 then 0 else l - r * (l / r)
  | .eq, w, l, r => b2i (decide (l = r))
  | .ne, w, l, r => b2i (!decide (l = r))
  | .lt, w, l, r => b2i (decide (l < r))
  | _, w, l, r => b2i (decide (l ≤ r))
def one : Op → Bool
  | .not => true
  | .neg => true
  | .wide => true
  | _ => false
def two : Op → Bool
  | .not => false
  | .neg => false
  | .wide => false
  | .pick => false
  | _ => true
section
variable {w l r a b : Int}
theorem full1 (w0 : 1 ≤ w) (w1 : w ≤ 8) : 1 * 2 ^ w.toNat - 1 = fullI w := by rw [Int.one_mul]; rfl
theorem mask_in {x : Int} (h0 : 0 ≤ x) (h1 : x ≤ fullI w) : Builtin.bitAnd x (fullI w) = x := by
  unfold fullI at *
  rw [and_maskZ, Int.emod_eq_of_lt h0 (by omega)]
theorem not_mask (h0 : 0 ≤ l) (h1 : l ≤ fullI w) : Builtin.bitAnd (-l - 1) (fullI w) = fullI w - l := by
  unfold fullI at *
  rw [and_maskZ]
  have e : -l - 1 = (2 ^ w.toNat - 1 - l) + 2 ^ w.toNat * (-1) := by rw [Int.mul_neg, Int.mul_one]; omega
  rw [e, Int.add_mul_emod_self_left, Int.emod_eq_of_lt (by omega) (by omega)]
theorem nat_of {x : Int} (h : 0 ≤ x) : ∃ n : Nat, x = (n : Int) := ⟨x.toNat, by omega⟩
theorem fullN {w : Int} : fullI w = ((2 ^ w.toNat - 1 : Nat) : Int) := by
  unfold fullI
  have := Nat.two_pow_pos w.toNat
  have c : ((2 : Int) ^ w.toNat) = ((2 ^ w.toNat : Nat) : Int) := by simp
  rw [c]; omega
theorem andN (m n : Nat) : Builtin.bitAnd (m : Int) (n : Int) = ((m &&& n : Nat) : Int) := by
  unfold Builtin.bitAnd
  have h1 : (0 : Int) ≤ m := by omega
  have h2 : (0 : Int) ≤ n := by omega
  simp only [h1, h2, decide_true, Int.toNat_natCast]
theorem notN (m : Nat) : Builtin.bitNot (m : Int) = -(m : Int) - 1 := rfl
theorem orN (m n : Nat) : Builtin.bitOr (m : Int) (n : Int) = ((m ||| n : Nat) : Int) := by
  unfold Builtin.bitOr Builtin.bitNot Builtin.bitAnd
  have h1 : ¬ ((0 : Int) ≤ -(m : Int) - 1) := by omega
  have h2 : ¬ ((0 : Int) ≤ -(n : Int) - 1) := by omega
  simp only [h1, h2, decide_false]
  unfold Builtin.bitNot
  have e1 : (-(-(m : Int) - 1) - 1).toNat = m := by omega
  have e2 : (-(-(n : Int) - 1) - 1).toNat = n := by omega
  rw [e1, e2]
  omega
theorem or_le {m n k : Nat} (h1 : m < 2 ^ k) (h2 : n < 2 ^ k) : m ||| n < 2 ^ k := Nat.or_lt_two_pow h1 h2
theorem xorN (m n : Nat) : ∃ z : Nat, Builtin.bitXor (m : Int) (n : Int) = (z : Int) ∧ z ≤ m ||| n := by
  unfold Builtin.bitXor
  rw [orN, andN]
  have h : m &&& n ≤ m ||| n := Nat.le_trans Nat.and_le_left Nat.left_le_or
  exact ⟨(m ||| n) - (m &&& n), by omega, Nat.sub_le _ _⟩
theorem bits_in (l0 : 0 ≤ l) (l1 : l ≤ fullI w) (r0 : 0 ≤ r) (r1 : r ≤ fullI w) : v2 .and w l r = Builtin.bitAnd l r ∧ v2 .or w l r = Builtin.bitOr l r ∧ v2 .xor w l r = Builtin.bitXor l r := by
  obtain ⟨m, rfl⟩ := nat_of l0
  obtain ⟨n, rfl⟩ := nat_of r0
  have hp := Nat.two_pow_pos w.toNat
  have hf := fullN (w := w)
  have hm : m < 2 ^ w.toNat := by omega
  have hn : n < 2 ^ w.toNat := by omega
  have h1 : m &&& n < 2 ^ w.toNat := Nat.lt_of_le_of_lt Nat.and_le_left hm
  have h2 : m ||| n < 2 ^ w.toNat := or_le hm hn
  obtain ⟨z, hz, hz2⟩ := xorN m n
  refine ⟨?_, ?_, ?_⟩
  · show Builtin.bitAnd (Builtin.bitAnd _ _) _ = _
    rw [andN]; exact mask_in (by omega) (by omega)
  · show Builtin.bitAnd (Builtin.bitOr _ _) _ = _
    rw [orN]; exact mask_in (by omega) (by omega)
  · show Builtin.bitAnd (Builtin.bitXor _ _) _ = _
    rw [hz]; exact mask_in (by omega) (by omega)
theorem shl_big (w0 : 1 ≤ w) (w1 : w ≤ 8) (h : w ≤ r) : Builtin.bitAnd (l * 2 ^ (if 8 < r then 8 else r).toNat) (fullI w) = 0 := by
  unfold fullI
  rw [and_maskZ]
  have h1 : w.toNat ≤ (if 8 < r then 8 else r).toNat := by split <;> omega
  obtain ⟨j, hj⟩ := Nat.exists_eq_add_of_le h1
  rw [hj, Int.pow_add, ← Int.mul_assoc, Int.mul_comm l, Int.mul_assoc]
  exact Int.mul_emod_right _ _
theorem shr_big (w0 : 1 ≤ w) (w1 : w ≤ 8) (l0 : 0 ≤ l) (l1 : l ≤ fullI w) (h : w ≤ r) : l / 2 ^ (if 8 < r then 8 else r).toNat = 0 := by
  have h1 : w.toNat ≤ (if 8 < r then 8 else r).toNat := by split <;> omega
  have h2 := Nat.pow_le_pow_right (n := 2) (by decide) h1
  have c : ∀ n : Nat, ((2 : Int) ^ n) = ((2 ^ n : Nat) : Int) := fun n => by simp
  unfold fullI at l1
  rw [c] at l1
  rw [c]
  exact Int.ediv_eq_zero_of_lt l0 (by omega)
theorem min_small (h : ¬ w ≤ r) (w1 : w ≤ 8) : (if 8 < r then 8 else r) = r := if_neg (by omega)
end
inductive Nd where
  | word (w v : Int)
  | inp (w : Int) (i : Nat)
  | one (o : Op) (w : Int) (a : Nat)
  | two (o : Op) (w : Int) (a b : Nat)
  | pick (w : Int) (c a b : Nat)
namespace Nd
def wd : Nd → Int
  | word w _ => w
  | inp w _ => w
  | one _ w _ => w
  | two _ w _ _ => w
  | pick w _ _ _ => w
def dat : Nd → D
  | word w v => .tup [.str (Str.ofString "word"), .int w, .int v]
  | inp w i => .tup [.str (Str.ofString "input"), .int w, .int i]
  | one o w a => .tup [.str (opS o), .int w, .int a]
  | two o w a b => .tup [.str (opS o), .int w, .int a, .int b]
  | pick w c a b => .tup [.str (opS .pick), .int w, .int c, .int a, .int b]
end Nd
def cmp : Op → Bool
  | .eq => true
  | .ne => true
  | .lt => true
  | .le => true
  | _ => false
def shf : Op → Bool
  | .shl => true
  | .shr => true
  | _ => false
def Has (ws : List Int) (a : Nat) (w : Int) : Prop := ws[a]? = some w
def Good (ws : List Int) : Nd → Prop
  | .word w v => 1 ≤ w ∧ w ≤ 8 ∧ 0 ≤ v ∧ v ≤ fullI w
  | .inp w i => 1 ≤ w ∧ w ≤ 8 ∧ i ≤ 300
  | .one o w a => 1 ≤ w ∧ w ≤ 8 ∧ Pd.one o = true ∧ ∃ u, Has ws a u ∧ (o ≠ .wide → u = w)
  | .two o w a b => 1 ≤ w ∧ w ≤ 8 ∧ Pd.two o = true ∧ ∃ u v, Has ws a u ∧ Has ws b v ∧ (cmp o = true → w = 1) ∧ (cmp o = false → u = w) ∧ (cmp o = false → shf o = false → v = w)
  | .pick w c a b => 1 ≤ w ∧ w ≤ 8 ∧ Has ws c 1 ∧ Has ws a w ∧ Has ws b w
inductive Sheet : List Nd → Prop
  | nil : Sheet []
  | snoc {ns : List Nd} {x : Nd} : Sheet ns → Good (ns.map Nd.wd) x → Sheet (ns ++ [x])
def val (is : List Int) (vs : List Int) : Nd → Int
  | .word _ v => v
  | .inp w i => if i < is.length then Builtin.bitAnd (is.getD i 0) (fullI w) else 0
  | .one o w a => v1 o w (vs.getD a 0)
  | .two o w a b => v2 o w (vs.getD a 0) (vs.getD b 0)
  | .pick _ c a b => if vs.getD c 0 = 1 then vs.getD a 0 else vs.getD b 0
def vals (is : List Int) (ns : List Nd) : List Int := ns.foldl (fun vs x => vs ++ [val is vs x]) []
theorem vals_snoc (is : List Int) (ns : List Nd) (x : Nd) : vals is (ns ++ [x]) = vals is ns ++ [val is (vals is ns) x] := by
  unfold vals
  rw [List.foldl_append]
  rfl
/-- values within the widths -/
def Fits (ws vs : List Int) : Prop := ∀ (a : Nat) (w : Int), ws[a]? = some w → ∃ v : Int, vs[a]? = some v ∧ 0 ≤ v ∧ v ≤ fullI w
theorem and_in (x w : Int) : 0 ≤ Builtin.bitAnd x (fullI w) ∧ Builtin.bitAnd x (fullI w) ≤ fullI w := by
  unfold fullI
  rw [and_maskZ]
  have h : (0 : Int) < 2 ^ w.toNat := Int.pow_pos (by decide)
  have h1 := Int.emod_nonneg x (Int.ne_of_gt h)
  have h2 := Int.emod_lt_of_pos x h
  omega
theorem b2i_in (b : Bool) : 0 ≤ b2i b ∧ b2i b ≤ fullI 1 := by cases b <;> decide
theorem v1_in {o : Op} {w l : Int} (l0 : 0 ≤ l) (l1 : o ≠ .wide → l ≤ fullI w) : 0 ≤ v1 o w l ∧ v1 o w l ≤ fullI w := by
  cases o
  case not =>
    have := l1 (by intro h; cases h)
    show 0 ≤ fullI w - l ∧ fullI w - l ≤ fullI w
    omega
  all_goals exact and_in _ w
theorem v2_in {o : Op} {w l r : Int} (l0 : 0 ≤ l) (r0 : 0 ≤ r) (l1 : cmp o = false → l ≤ fullI w) (hc : cmp o = true → w = 1) (ho : two o = true) : 0 ≤ v2 o w l r ∧ v2 o w l r ≤ fullI w := by
  have hw : 0 ≤ fullI w := by
    have h : (0 : Int) < 2 ^ w.toNat := Int.pow_pos (by decide)
    unfold fullI; omega
  have pw : (0 : Int) < 2 ^ r.toNat := Int.pow_pos (by decide)
  cases o <;> try (cases ho; done)
  case add => exact and_in _ w
  case sub => exact and_in _ w
  case mul => exact and_in _ w
  case and => exact and_in _ w
  case or => exact and_in _ w
  case xor => exact and_in _ w
  case shl =>
    show 0 ≤ (if w ≤ r then _ else _) ∧ (if w ≤ r then _ else _) ≤ fullI w
    split
    · exact ⟨by decide, hw⟩
    · exact and_in _ w
  case shr =>
    show 0 ≤ (if w ≤ r then _ else _) ∧ (if w ≤ r then _ else _) ≤ fullI w
    split
    · exact ⟨by decide, hw⟩
    · have h1 := Int.ediv_nonneg l0 (Int.le_of_lt pw)
      have h2 := Int.ediv_le_self (2 ^ r.toNat) l0
      have := l1 rfl
      omega
  case div =>
    show 0 ≤ (if r = 0 then _ else _) ∧ (if r = 0 then _ else _) ≤ fullI w
    split
    · exact ⟨by decide, hw⟩
    · have h1 := Int.ediv_nonneg l0 r0
      have h2 := Int.ediv_le_self r l0
      have := l1 rfl
      omega
  case rem =>
    show 0 ≤ (if r = 0 then _ else _) ∧ (if r = 0 then _ else _) ≤ fullI w
    split
    · exact ⟨by decide, hw⟩
    · rename_i hr
      have h0 : l - r * (l / r) = l % r := (Int.emod_def l r).symm
      have h1 := Int.emod_nonneg l hr
      have h3 : 0 ≤ r * (l / r) := Int.mul_nonneg r0 (Int.ediv_nonneg l0 r0)
      have := l1 rfl
      omega
  all_goals
    rw [hc rfl]
    exact b2i_in _
theorem fits_val {ws vs is : List Int} {x : Nd} (h : Fits ws vs) (g : Good ws x) (hi : ∀ i, i ∈ is → 0 ≤ i) : 0 ≤ val is vs x ∧ val is vs x ≤ fullI x.wd := by
  have gd : ∀ {a : Nat} {w : Int}, Has ws a w → 0 ≤ vs.getD a 0 ∧ vs.getD a 0 ≤ fullI w := by
    intro a w ha
    obtain ⟨v, e, h0, h1⟩ := h a w ha
    rw [List.getD_eq_getElem?_getD, e]
    exact ⟨h0, h1⟩
  cases x with
  | word w v => exact ⟨g.2.2.1, g.2.2.2⟩
  | inp w i =>
    show 0 ≤ (if i < is.length then _ else _) ∧ (if i < is.length then _ else _) ≤ fullI w
    split
    · exact and_in _ w
    · exact ⟨by decide, Int.le_trans (and_in 0 w).1 (and_in 0 w).2⟩
  | one o w a =>
    obtain ⟨w0, w1, ho, u, ha, hu⟩ := g
    have := gd ha
    exact v1_in this.1 (fun hne => by rw [← hu hne]; exact this.2)
  | two o w a b =>
    obtain ⟨w0, w1, ho, u, v, ha, hb, h1, h2, h3⟩ := g
    have A := gd ha
    have B := gd hb
    exact v2_in A.1 B.1 (fun hc => by rw [← h2 hc]; exact A.2) h1 ho
  | pick w c a b =>
    obtain ⟨w0, w1, hc, ha, hb⟩ := g
    show 0 ≤ (if vs.getD c 0 = 1 then _ else _) ∧ (if vs.getD c 0 = 1 then _ else _) ≤ fullI w
    split
    · exact gd ha
    · exact gd hb
theorem vals_len (is : List Int) {ns : List Nd} (h : Sheet ns) : (vals is ns).length = ns.length := by
  induction h with
  | nil => rfl
  | snoc h g ih => rw [vals_snoc, List.length_append, List.length_append, ih]; rfl
theorem fits_all (is : List Int) (hi : ∀ i, i ∈ is → 0 ≤ i) {ns : List Nd} (h : Sheet ns) : Fits (ns.map Nd.wd) (vals is ns) := by
  induction h with
  | nil => intro a w ha; cases ha
  | @snoc ns x h g ih =>
    intro a w ha
    rw [vals_snoc]
    rw [List.map_append] at ha
    have hl := vals_len is h
    by_cases e : a < ns.length
    · rw [List.getElem?_append_left (by simpa using e)] at ha
      rw [List.getElem?_append_left (by omega)]
      exact ih a w ha
    · rw [List.getElem?_append_right (by simpa using e)] at ha
      rw [List.getElem?_append_right (by omega)]
      have ea : a = ns.length := by
        have := (List.getElem?_eq_some_iff.1 ha).1
        simp only [List.length_map, List.length_cons, List.length_nil] at this
        omega
      subst ea
      rw [List.length_map, Nat.sub_self] at ha
      rw [hl, Nat.sub_self]
      have e' : x.wd = w := by simpa using ha
      subst e'
      exact ⟨_, rfl, fits_val ih g hi⟩
theorem Sheet.pre {ns : List Nd} (S : Sheet ns) {j : Nat} {x : Nd} (hx : ns[j]? = some x) : Sheet (ns.take j) ∧ Good ((ns.take j).map Nd.wd) x := by
  induction S with
  | nil => cases hx
  | @snoc ns y h g ih =>
    by_cases e : j < ns.length
    · rw [List.getElem?_append_left e] at hx
      rw [List.take_append_of_le_length (by omega)]
      exact ih hx
    · have hj := (List.getElem?_eq_some_iff.1 hx).1
      simp only [List.length_append, List.length_cons, List.length_nil] at hj
      have ej : j = ns.length := by omega
      subst ej
      rw [List.getElem?_append_right (Nat.le_refl _), Nat.sub_self] at hx
      cases hx
      rw [List.take_append_of_le_length (Nat.le_refl _), List.take_length]
      exact ⟨h, g⟩
theorem vals_take {is : List Int} {ns : List Nd} {j : Nat} {x : Nd} (hx : ns[j]? = some x) : vals is (ns.take (j + 1)) = vals is (ns.take j) ++ [val is (vals is (ns.take j)) x] := by
  rw [List.take_add_one, hx]
  exact vals_snoc _ _ _
theorem ix_refN {st : Store} {n a : Nat} {vs : List Int} {Q : K} (h : rdL st n (vs.map D.int)) (ha : a < vs.length) (q : Q (.int (vs.getD a 0)) st) : ixK (.ref n) (.int (a : Int)) st Q := by
  refine ⟨vs.map D.int, .int (vs.getD a 0), .inl h, ?_, q⟩
  unfold atD
  simp only [List.length_map]
  have e1 : ¬ ((a : Int) < 0) := by omega
  simp [e1, List.getD_eq_getElem?_getD, List.getElem?_eq_getElem ha, ha]
theorem opS_w (o : Op) : okS (opS o) = true ∧ decide (opS o = Str.ofString "word") = false ∧ decide (opS o = Str.ofString "input") = false := by
  cases o <;> exact ⟨by decide +kernel, by decide +kernel, by decide +kernel⟩
theorem Sheet.wid {ns : List Nd} (S : Sheet ns) : ∀ (a : Nat) (w : Int), Has (ns.map Nd.wd) a w → 1 ≤ w ∧ w ≤ 8 := by
  induction S with
  | nil => intro a w h; cases h
  | @snoc ns x h g ih =>
    intro a w ha
    unfold Has at ha
    rw [List.map_append] at ha
    by_cases e : a < ns.length
    · rw [List.getElem?_append_left (by simpa using e)] at ha
      exact ih a w ha
    · rw [List.getElem?_append_right (by simpa using e)] at ha
      have e' := List.mem_of_getElem? ha
      simp at e'
      subst e'
      cases x <;> exact ⟨g.1, g.2.1⟩
theorem le255 {ns : List Nd} (S : Sheet ns) {a : Nat} {w z : Int} (ha : Has (ns.map Nd.wd) a w) (h : z ≤ fullI w) : z ≤ 255 := by
  have := S.wid a w ha
  have := fullI_bd (w := w) (by omega) this.2
  omega
def parts : Nd → List Nat
  | .one _ _ a => [a]
  | .two _ _ a b => [a, b]
  | .pick _ c a b => [c, a, b]
  | _ => []
theorem lc_parts {gd : Store → Prop} {ρ : Env} {te : TE} {g : TG} {st : Store} {Q : K} {vs : List Int} {n : Nat} (ps : List Nat) (h : rdL st n (vs.map D.int)) (hp : ∀ a ∈ ps, a < vs.length) (hl : ps.length ≤ 3) (hg : ∀ acc, gd (st ++ [.lst acc]))
    (hs : ∀ a, a ∈ ps → ∀ (acc : List D) (N : D → Store → Prop), rdL (st ++ [.lst acc]) n (vs.map D.int) → N (.int (vs.getD a 0)) (st ++ [.lst acc]) → g (.int (a : Int)) ρ (st ++ [.lst acc]) fun ρ2 st2 => te ρ2 st2 N)
    (hd : Q (.ref st.length) (st ++ [.lst (ps.map fun (a : Nat) => D.int (vs.getD a 0))])) : lcLoop gd g tYes te ρ st.length Q (ps.map fun (a : Nat) => D.int (a : Int)) [] (st ++ [.lst []]) :=
  lc_map ps (fun (a : Nat) => D.int (a : Int)) (fun (a : Nat) => D.int (vs.getD a 0)) rfl (by unfold szl; omega) hg (fun a ha acc N hN => hs a ha acc N (rdL_app h) hN) hd
theorem vals_pre (is : List Int) {ns : List Nd} (S : Sheet ns) (j : Nat) : vals is (ns.take j) = (vals is ns).take j := by
  induction S with
  | nil => rw [List.take_nil]; exact (List.take_nil).symm
  | @snoc ns x h g ih =>
    have hl := vals_len is h
    rw [vals_snoc]
    by_cases e : j ≤ ns.length
    · rw [List.take_append_of_le_length e, List.take_append_of_le_length (by omega), ih]
    · rw [List.take_of_length_le (by simp; omega), List.take_of_length_le (by simp; omega), vals_snoc]
theorem Sheet.take {ns : List Nd} (S : Sheet ns) (j : Nat) : Sheet (ns.take j) := by
  by_cases e : j < ns.length
  · exact (S.pre (List.getElem?_eq_getElem e)).1
  · rw [List.take_of_length_le (by omega)]; exact S
theorem at_int {vs : List Int} {t : Nat} (h : t < vs.length) : atD (vs.map D.int) (t : Int) = some (.int (vs.getD t 0)) := by
  unfold atD
  rw [if_pos (by omega), Int.toNat_natCast, List.getElem?_map, List.getElem?_eq_getElem h, List.getD_eq_getElem?_getD, List.getElem?_eq_getElem h]
  rfl
theorem zip_self (vs : List Int) : zipD (vs.map D.int) (vs.map D.int) = vs.map fun v => .tup [.int v, .int v] := by
  induction vs with
  | nil => rfl
  | cons v vs ih => exact congrArg (_ :: ·) ih
theorem ix_ref {st : Store} {n : Nat} {xs : List D} {d : D} {i : Int} {Q : K} (h : rdL st n xs) (h' : atD xs i = some d) (q : Q d st) : ixK (.ref n) (.int i) st Q := ⟨xs, d, .inl h, h', q⟩
theorem tru_ref {st : Store} {n : Nat} {xs : List D} {r : Bool → Prop} (h : rdL st n xs) (q : r (!xs.isEmpty)) : truK (.ref n) st r := ⟨xs, .inl h, q⟩
theorem seq_J {S S' : TS} {D0 : Ends} {σ : Env} {st : Store} (J : Env → Store → Prop) (h : ∀ N : Env → Store → Prop, (∀ σ' st', J σ' st' → N σ' st') → S { D0 with nx := N } σ st) (hJ : ∀ σ' st', J σ' st' → S' D0 σ' st') : sSeq S S' D0 σ st :=
  h _ fun σ' st' e => Nxt.mk (hJ σ' st' e)
theorem dat_wd (x : Nd) : ∃ s ps, x.dat = .tup (s :: .int x.wd :: ps) := by cases x <;> exact ⟨_, _, rfl⟩
theorem at_nd {ns : List Nd} {a : Nat} (h : a < ns.length) : atD (ns.map Nd.dat) (a : Int) = some (ns[a]).dat := by
  unfold atD
  rw [if_pos (by omega), Int.toNat_natCast, List.getElem?_map, List.getElem?_eq_getElem h]
  rfl
theorem wd_at {x : Nd} {st : Store} {Q : K} (q : Q (.int x.wd) st) : ixK x.dat (.int 1) st Q := by
  obtain ⟨s, ps, e⟩ := dat_wd x
  rw [e]
  exact ⟨.int x.wd, rfl, q⟩
def mates (ns : List Nd) (w : Int) : List Nat := (List.range ns.length).filter fun i => decide (((ns[i]?).map Nd.wd).getD 0 = w)
theorem mate_has {ns : List Nd} {w : Int} {i : Nat} (h : i ∈ mates ns w) : i < ns.length ∧ Has (ns.map Nd.wd) i w := by
  unfold mates at h
  rw [List.mem_filter, List.mem_range] at h
  obtain ⟨h1, h2⟩ := h
  refine ⟨h1, ?_⟩
  unfold Has
  rw [List.getElem?_map]
  rw [List.getElem?_eq_getElem h1] at h2 ⊢
  have := of_decide_eq_true h2
  exact congrArg some this
theorem has_wd {ns : List Nd} {a : Nat} (h : a < ns.length) : Has (ns.map Nd.wd) a (ns[a]).wd := by
  unfold Has
  rw [List.getElem?_map, List.getElem?_eq_getElem h]
  rfl
theorem self_mate {ns : List Nd} {a : Nat} (h : a < ns.length) : a ∈ mates ns (ns[a]).wd := by
  unfold mates
  rw [List.mem_filter, List.mem_range]
  refine ⟨h, ?_⟩
  rw [List.getElem?_eq_getElem h]
  exact decide_eq_true rfl
def n0 (i : Nat) : D := .int (0 + (i : Int))
theorem n0_eq (i : Nat) : n0 i = .int (i : Int) := by unfold n0; rw [Int.zero_add]
theorem lc_mates {te : TE} {tt : TT} {g : TG} {ρ : Env} {st : Store} {Q : K} {ns : List Nd} (w : Int) (hl : ns.length ≤ 200)
    (hs : ∀ (i : Nat) (hi : i < ns.length) (acc : List D) (N : D → Store → Prop) (M : Store → Prop), (decide ((ns[i]).wd = w) = true → N (n0 i) (st ++ [.lst acc])) → (decide ((ns[i]).wd = w) = false → M (st ++ [.lst acc])) → g (n0 i) ρ (st ++ [.lst acc]) fun ρ2 st2 => tt ρ2 st2 fun b st3 => (b = true → te ρ2 st3 N) ∧ (b = false → M st3))
    (hd : Q (.ref st.length) (st ++ [.lst ((mates ns w).map n0)])) : lcLoop (fun _ => True) g tt te ρ st.length Q (rng 0 (ns.length : Int).toNat) [] (st ++ [.lst []]) := by
  refine lc_filter (List.range ns.length) n0 n0 (fun i => decide (((ns[i]?).map Nd.wd).getD 0 = w)) rfl (by simp [szl]; omega) (fun _ => trivial) (fun i hi acc N M hN hM => ?_) hd
  have h1 := List.mem_range.mp hi
  rw [List.getElem?_eq_getElem h1] at hN hM
  exact hs i h1 acc N M hN hM
theorem opS_ok (o : Op) : okS (opS o) = true := by cases o <;> decide +kernel
theorem dat_ok (x : Nd) : D.okd 60 x.dat = true := by
  have hw : okS (Str.ofString "word") = true := by decide +kernel
  have hi : okS (Str.ofString "input") = true := by decide +kernel
  cases x <;> simp [Nd.dat, D.okd, okds, opS_ok, hw, hi]
theorem dats_ok (ns : List Nd) : okds 60 (ns.map Nd.dat) = true := by
  rw [okds_all, List.all_eq_true]
  intro d hd
  obtain ⟨x, _, rfl⟩ := List.mem_map.mp hd
  exact dat_ok x
theorem notin_at {st : Store} {n : Nat} {xs : List D} {x : D} {r : Bool → Prop} (h : rdL st n xs) (hx : D.okd 60 x = true) (hxs : okds 60 xs = true) (q : r (!(xs.any fun y => D.eqb y x))) : notinDC x (.ref n) st r := ⟨xs, .inl h, hx, hxs, q⟩
end Pd
end PartPdNodes

section PartPdNeeded
set_option Elab.async false
set_option linter.all false
set_option maxRecDepth 100000
set_option maxHeartbeats 1000000
/-! Pd: `needed_for`: the nodes that are reached, ascending. Own work. -/
namespace Pd
open PySem
local macro_rules | `(tactic| walk_at "s") => `(tactic| (repeat (refine Red.red ?_)))
local macro_rules | `(tactic| walk_at "r") => `(tactic| (repeat (first | refine Red.red ?_ | refine Nxt.mk ?_)))
theorem rdD_lt {st : Store} {n : Nat} {kvs : List (Ky × D)} (h : rdD st n kvs) : n < st.length := (List.getElem?_eq_some_iff.mp h).1
theorem rdD_new {st : Store} {kvs : List (Ky × D)} : rdD (st ++ [.dic kvs]) st.length kvs := by unfold rdD; simp
theorem rdD_app {st : Store} {n : Nat} {kvs : List (Ky × D)} {c : C} (h : rdD st n kvs) : rdD (st ++ [c]) n kvs := by
  unfold rdD at *
  rw [List.getElem?_append_left (rdD_lt h)]; exact h
theorem rdD_set {st : Store} {n : Nat} {kvs kvs' : List (Ky × D)} (h : rdD st n kvs) : rdD (st.set n (.dic kvs')) n kvs' := by unfold rdD; rw [List.getElem?_set_self (rdD_lt h)]
theorem rdD_ne {st : Store} {n m : Nat} {kvs : List (Ky × D)} {c : C} (h : rdD st n kvs) (ne : n ≠ m) : rdD (st.set m c) n kvs := by unfold rdD at *; rw [List.getElem?_set_ne (Ne.symm ne)]; exact h
theorem Grw.rdD {st st' : Store} (f : Grw st st') {n : Nat} {kvs : List (Ky × D)} (h : rdD st n kvs) : rdD st' n kvs := by
  obtain ⟨m, rfl⟩ := f
  unfold Pd.rdD at *
  rw [List.getElem?_append_left (rdD_lt h)]; exact h
def kOf (M : List Nat) : List (Ky × D) := M.map fun k : Nat => (Sum.inl (k : Int), D.bl true)
theorem kOf_has (M : List Nat) (k : Nat) : (valD (kOf M) (.inl (k : Int))).isSome = decide (k ∈ M) := by
  induction M with
  | nil => rfl
  | cons j M ih =>
    unfold kOf valD at *
    rw [List.map_cons, List.find?_cons]
    by_cases h : j = k
    · subst h
      simp
    · have h1 : decide ((Sum.inl (j : Int) : Ky) = Sum.inl (k : Int)) = false := by
        rw [decide_eq_false_iff_not]
        intro e
        injection e with e
        exact h (by omega)
      simp only [h1]
      rw [ih]
      simp [Ne.symm h]
theorem kOf_put {M : List Nat} {k : Nat} (h : k ∉ M) : putD (kOf M) (.inl (k : Int)) (.bl true) = kOf (M ++ [k]) := by
  have h1 : ((kOf M).any fun kv => decide (kv.1 = (.inl (k : Int) : Ky))) = false := by
    rw [List.any_eq_false]
    intro kv hk e
    unfold kOf at hk
    obtain ⟨j, hj, rfl⟩ := List.mem_map.mp hk
    have e := of_decide_eq_true e
    injection e with e
    have : j = k := by omega
    subst this
    exact h hj
  unfold putD
  rw [h1, if_neg (by decide)]
  unfold kOf
  rw [List.map_append]
  rfl
def leafB : Nd → Bool
  | .word _ _ => true
  | .inp _ _ => true
  | _ => false
theorem leaf_word : ([D.str (Str.ofString "word"), D.str (Str.ofString "input")].any fun y => D.eqb y (.str (Str.ofString "word"))) = true := by decide +kernel
theorem leaf_inp : ([D.str (Str.ofString "word"), D.str (Str.ofString "input")].any fun y => D.eqb y (.str (Str.ofString "input"))) = true := by decide +kernel
theorem leaf_op (o : Op) : ([D.str (Str.ofString "word"), D.str (Str.ofString "input")].any fun y => D.eqb y (.str (opS o))) = false := by cases o <;> decide +kernel
theorem dat_leaf (x : Nd) : ∃ s ps, x.dat = .tup (.str s :: .int x.wd :: ps) ∧ ([D.str (Str.ofString "word"), D.str (Str.ofString "input")].any fun y => D.eqb y (.str s)) = leafB x ∧ (leafB x = false → ps = (parts x).map fun p : Nat => D.int (p : Int)) := by
  cases x with
  | word w v => exact ⟨_, _, rfl, leaf_word, fun h => by cases h⟩
  | inp w i => exact ⟨_, _, rfl, leaf_inp, fun h => by cases h⟩
  | one o w a => exact ⟨_, _, rfl, leaf_op o, fun _ => rfl⟩
  | two o w a b => exact ⟨_, _, rfl, leaf_op o, fun _ => rfl⟩
  | pick w c a b => exact ⟨_, _, rfl, leaf_op .pick, fun _ => rfl⟩
theorem parts_leaf {x : Nd} (h : leafB x = true) : parts x = [] := by cases x <;> first | rfl | cases h
theorem parts_le (x : Nd) : (parts x).length ≤ 3 := by cases x <;> simp [parts]
theorem Has.lt {ws : List Int} {a : Nat} {w : Int} (h : Has ws a w) : a < ws.length := (List.getElem?_eq_some_iff.mp h).1
theorem Good.parts {ws : List Int} {x : Nd} (g : Good ws x) : ∀ p ∈ Pd.parts x, p < ws.length := by
  intro p hp
  cases x with
  | word w v => cases hp
  | inp w i => cases hp
  | one o w a =>
    obtain ⟨_, _, _, u, h, _⟩ := g
    simp only [Pd.parts, List.mem_cons, List.not_mem_nil, or_false] at hp
    subst hp; exact h.lt
  | two o w a b =>
    obtain ⟨_, _, _, u, v, h, h', _⟩ := g
    simp only [Pd.parts, List.mem_cons, List.not_mem_nil, or_false] at hp
    rcases hp with rfl | rfl
    · exact h.lt
    · exact h'.lt
  | pick w c a b =>
    obtain ⟨_, _, h, h', h''⟩ := g
    simp only [Pd.parts, List.mem_cons, List.not_mem_nil, or_false] at hp
    rcases hp with rfl | rfl | rfl
    · exact h.lt
    · exact h'.lt
    · exact h''.lt
theorem Sheet.part_lt {ns : List Nd} (S : Sheet ns) {j : Nat} {x : Nd} (hx : ns[j]? = some x) : ∀ p ∈ Pd.parts x, p < j := by
  intro p hp
  have := (S.pre hx).2.parts p hp
  rw [List.length_map, List.length_take] at this
  omega
structure Need (ns : List Nd) (ts : List Nat) (L : List Nat) : Prop where
  lt : ∀ k ∈ L, k < ns.length
  asc : L.Pairwise (· < ·)
  has : ∀ t ∈ ts, t ∈ L
  cl : ∀ k ∈ L, ∀ x, ns[k]? = some x → ∀ p ∈ Pd.parts x, p ∈ L
def iN (k : Nat) : D := .int (k : Int)
theorem notinS_at {x : D} {xs : List D} {st : Store} {r : Bool → Prop} (h1 : x.flat = true) (h2 : xs.all D.flat = true) (q : r (!(xs.any fun y => D.eqb y x))) : notinC x (.tup xs) st r := ⟨h1, h2, q⟩
def neededBody (c : Cl) : TS := sSeq (sAsg (dDic) (gName 2)) (sSeq (sAsg (dB listB (aCons (dVar 1) (aNil))) (gName 3)) (sSeq (sWhile (tTru (dVar 3)) (sSeq (sAsg (dM0 tyLst popEM (dVar 3)) (gName 4)) (sIf (tTru (dCmp notinKC (dVar 4) (dVar 2))) (sSeq (sAsg (dC (.bl true)) (gSubD (dVar 2) (dVar 4))) (sIf (tTru (dCmp notinC (dOp ixK (dOp ixK (dVar 0) (dVar 4)) (dC (.int 0))) (dTup (aCons (dC (.str "word")) (aCons (dC (.str "input")) (aNil)))))) (sExpr (dM tyLst extendAM (dVar 3) (aCons (dSl (dOp ixK (dVar 0) (dVar 4)) (oSome (dC (.int 2))) (oNone)) (aNil)))) (sNext))) (sNext)))) (sRet (dB sortedDB (aCons (dVar 2) (aNil))))))
theorem nodup_le {M : List Nat} {n : Nat} (h : M.Nodup) (hl : ∀ k ∈ M, k < n) : M.length ≤ n := by
  induction n generalizing M with
  | zero =>
    cases M with
    | nil => exact Nat.le_refl _
    | cons x M => exact absurd (hl x (by simp)) (by omega)
  | succ n ih =>
    by_cases hn : n ∈ M
    · have h1 := ih (M := M.erase n) (h.erase n) (fun k hk => by
        rw [h.mem_erase_iff] at hk
        have := hl k hk.2
        have := hk.1
        omega)
      rw [List.length_erase_of_mem hn] at h1
      omega
    · exact Nat.le_succ_of_le (ih h fun k hk => by
        have := hl k hk
        have : k ≠ n := fun e => hn (e ▸ hk)
        omega)
theorem needed_ok {prog : String → Option Def} (hp : prog "needed_for" = some ⟨2, 5, neededBody⟩) {k : Nat} {st : Store} {Q : K} {ns : List Nd} {ts : List Nat} {n : Nat} (S : Sheet ns) (hl : ns.length ≤ 1000) (h : rdL st n (ts.map iN)) (ht : ∀ t ∈ ts, t < ns.length) (htl : ts.length ≤ 1000)
    (q : ∀ L st', Need ns ts L → Grw st st' → rdL st' (st'.length - 1) (L.map iN) → st.length < st'.length → Q (.ref (st'.length - 1)) st') : callN prog (k + 1) "needed_for" [.tup (ns.map Nd.dat), .ref n] st Q := by
  refine call_intro hp rfl ?_
  unfold neededBody
  walk_at "r"
  refine list_at (rdL_app h) ?_
  walk_at "s"
  refine Nxt.mk ?_
  rw [List.length_append, List.length_singleton]
  have d0 := rdD_app (c := C.lst (ts.map iN)) (rdD_new (st := st) (kvs := []))
  have w0 := rdL_new (st := st ++ [C.dic []]) (xs := ts.map iN)
  rw [List.length_append, List.length_singleton] at w0
  have f0 : FraG st.length st (st ++ [C.dic []] ++ [C.lst (ts.map iN)]) := FraG.new.app
  generalize st ++ [C.dic []] ++ [C.lst (ts.map iN)] = st1 at d0 w0 f0 ⊢
  refine seq_cut (fun σ st' => ∃ M o4, σ = [some (.tup (ns.map Nd.dat)), some (.ref n), some (.ref st.length), some (.ref (st.length + 1)), o4] ∧ rdD st' st.length (kOf M) ∧ FraG st.length st st' ∧ M.Nodup ∧ (∀ k ∈ M, k < ns.length) ∧ (∀ t ∈ ts, t ∈ M) ∧ ∀ k ∈ M, ∀ x, ns[k]? = some x → ∀ p ∈ Pd.parts x, p ∈ M) (fun N hN => ?_) (fun σ st2 ⟨M, o4, e, hd, f, nd, hlt, hts, hcl⟩ => ?_)
  · refine while_by (fun m σ st' => ∃ M W o4, σ = [some (.tup (ns.map Nd.dat)), some (.ref n), some (.ref st.length), some (.ref (st.length + 1)), o4] ∧ rdD st' st.length (kOf M) ∧ rdL st' (st.length + 1) (W.map iN) ∧ FraG st.length st st' ∧ M.Nodup ∧ (∀ k ∈ M, k < ns.length) ∧ (∀ k ∈ W, k < ns.length) ∧ (∀ t ∈ ts, t ∈ M ∨ t ∈ W) ∧ (∀ k ∈ M, ∀ x, ns[k]? = some x → ∀ p ∈ Pd.parts x, p ∈ M ∨ p ∈ W) ∧ m = 4 * (ns.length - M.length) + W.length ∧ m ≤ 4 * ns.length + ts.length) (m := 4 * ns.length + ts.length) ⟨[], ts, none, rfl, d0, w0, f0, by simp, by simp, ht, fun t h => .inr h, by simp, by simp, Nat.le_refl _⟩ (fun m σ st' ⟨M, W, o4, e, hd, hw, f, nd, hlt, hwl, hts, hcl, em, hm⟩ N' hN' => ?_)
    subst e
    walk_at "s"
    refine ⟨W.map iN, .inl hw, ?_⟩
    rcases W.eq_nil_or_concat with rfl | ⟨W', t, hW⟩
    · refine wayF rfl ?_
      exact hN _ _ ⟨M, o4, rfl, hd, f, nd, hlt, fun t h => (hts t h).elim id (fun h => by cases h), fun k hk x hx p hp => (hcl k hk x hx p hp).elim id (fun h => by cases h)⟩
    · rw [List.concat_eq_append] at hW
      subst hW
      refine wayT (by simp) ?_
      have htn : t < ns.length := hwl t (by simp)
      have hml := nodup_le nd hlt
      rw [List.length_append, List.length_singleton] at em
      rw [List.map_append] at hw
      walk_at "s"
      refine ⟨⟨_, hw⟩, ?_⟩
      refine pop_at hw ?_
      walk_at "s"
      refine Nxt.mk ?_
      have hd1 := rdD_ne (c := C.lst (W'.map iN)) hd (show st.length ≠ st.length + 1 by omega)
      have hw1 := rdL_set (ys := W'.map iN) hw
      have f1 : FraG st.length st (st'.set (st.length + 1) (.lst (W'.map iN))) := f.setN (by omega)
      generalize st'.set (st.length + 1) (.lst (W'.map iN)) = st3 at hd1 hw1 f1 ⊢
      walk_at "s"
      refine notinKI_at (.inl hd1) ?_
      rw [kOf_has]
      walk_at "s"
      by_cases ht2 : t ∈ M
      · refine wayF (by simp [ht2]) ?_
        walk_at "s"
        refine hN' (m - 1) _ _ (by omega) ⟨M, W', _, rfl, hd1, hw1, f1, nd, hlt, fun k hk => hwl k (by simp [hk]), fun t' h => ?_, fun k hk x hx p hp => ?_, by omega, by omega⟩
        · rcases hts t' h with h | h
          · exact .inl h
          · simp only [List.mem_append, List.mem_singleton] at h
            rcases h with h | rfl
            · exact .inr h
            · exact .inl ht2
        · rcases hcl k hk x hx p hp with h | h
          · exact .inl h
          · simp only [List.mem_append, List.mem_singleton] at h
            rcases h with h | rfl
            · exact .inr h
            · exact .inl ht2
      · refine wayT (by simp [ht2]) ?_
        walk_at "s"
        refine setDI_at hd1 (by unfold kOf; rw [List.length_map]; simp [szl]; omega) ?_
        rw [kOf_put ht2]
        have hd2 := rdD_set (kvs' := kOf (M ++ [t])) hd1
        have hw2 := rdL_ne (c := C.dic (kOf (M ++ [t]))) hw1 (show st.length + 1 ≠ st.length by omega)
        have f2 : FraG st.length st (st3.set st.length (.dic (kOf (M ++ [t])))) := f1.setN (by omega)
        generalize st3.set st.length (.dic (kOf (M ++ [t]))) = st4 at hd2 hw2 f2 ⊢
        walk_at "r"
        refine at_is (at_nd htn) ?_
        obtain ⟨s, ps, ed, el, ep⟩ := dat_leaf (ns[t])
        rw [ed]
        walk_at "r"
        refine at_is rfl ?_
        refine ⟨Nat.le_of_ble_eq_true rfl, ?_⟩
        refine notinS_at rfl rfl ?_
        rw [el]
        walk_at "s"
        have nd2 : (M ++ [t]).Nodup := by
          rw [List.nodup_append]
          exact ⟨nd, by simp, fun a ha b hb => by simp at hb; subst hb; rintro rfl; exact ht2 ha⟩
        have hlt2 : ∀ k ∈ M ++ [t], k < ns.length := fun k hk => by
          simp only [List.mem_append, List.mem_singleton] at hk
          rcases hk with hk | rfl
          · exact hlt k hk
          · exact htn
        have hml2 := nodup_le nd2 hlt2
        rw [List.length_append, List.length_singleton] at hml2
        have fin : ∀ st5, rdD st5 st.length (kOf (M ++ [t])) → rdL st5 (st.length + 1) ((W' ++ Pd.parts ns[t]).map iN) → FraG st.length st st5 → N' [some (.tup (ns.map Nd.dat)), some (.ref n), some (.ref st.length), some (.ref (st.length + 1)), some (.int t)] st5 := by
          intro st5 hd5 hw5 f5
          have hpl := parts_le ns[t]
          refine hN' (4 * (ns.length - (M ++ [t]).length) + (W' ++ Pd.parts ns[t]).length) _ _ (by rw [List.length_append, List.length_append, List.length_singleton]; omega) ⟨M ++ [t], W' ++ Pd.parts ns[t], _, rfl, hd5, hw5, f5, nd2, hlt2, fun k hk => ?_, fun t' h => ?_, fun k hk x hx p hp => ?_, rfl, by rw [List.length_append, List.length_append, List.length_singleton]; omega⟩
          · simp only [List.mem_append] at hk
            rcases hk with hk | hk
            · exact hwl k (by simp [hk])
            · have := S.part_lt (List.getElem?_eq_getElem htn) k hk
              omega
          · rcases hts t' h with h | h
            · exact .inl (by simp [h])
            · simp only [List.mem_append, List.mem_singleton] at h
              rcases h with h | rfl
              · exact .inr (by simp [h])
              · exact .inl (by simp)
          · simp only [List.mem_append, List.mem_singleton] at hk
            rcases hk with hk | rfl
            · rcases hcl k hk x hx p hp with h | h
              · exact .inl (by simp [h])
              · simp only [List.mem_append, List.mem_singleton] at h
                rcases h with h | rfl
                · exact .inr (by simp [h])
                · exact .inl (by simp)
            · rw [List.getElem?_eq_getElem htn] at hx
              cases hx
              exact .inr (by simp [hp])
        cases hlf : leafB ns[t] with
        | true =>
          refine wayF rfl ?_
          walk_at "s"
          exact fin _ hd2 (by rw [parts_leaf hlf, List.append_nil]; exact hw2) f2
        | false =>
          refine wayT rfl ?_
          walk_at "s"
          refine ⟨⟨_, hw2⟩, ?_⟩
          walk_at "s"
          refine at_is (at_nd htn) ?_
          rw [ed, ep hlf]
          walk_at "s"
          have ec : cutD (D.str s :: .int ns[t].wd :: (Pd.parts ns[t]).map fun p : Nat => D.int (p : Int)) (some 2) none = (Pd.parts ns[t]).map iN := by
            rw [cut_drop _ (by decide)]; rfl
          rw [ec]
          have hpl := parts_le ns[t]
          refine extendT_at hw2 (by rw [List.length_map, List.length_map]; simp [szl]; omega) ?_
          walk_at "s"
          refine fin _ (rdD_ne hd2 (by omega)) ?_ (f2.setN (by omega))
          rw [List.map_append]
          exact rdL_set hw2
  · subst e
    walk_at "s"
    refine ⟨kOf M, M.map fun k : Nat => (k : Int), hd, by unfold kOf; rw [List.map_map, List.map_map]; rfl, fun ns' hperm hpw => ?_⟩
    have e1 : ns' = (ns'.map Int.toNat).map fun k : Nat => (k : Int) := by
      rw [List.map_map]
      have e0 : ns'.map ((fun k : Nat => (k : Int)) ∘ Int.toNat) = ns'.map id := List.map_congr_left fun z hz => by
        obtain ⟨k, _, rfl⟩ := List.mem_map.mp (hperm.mem_iff.mp hz)
        rfl
      rw [e0, List.map_id]
    have hmem : ∀ k : Nat, k ∈ ns'.map Int.toNat ↔ k ∈ M := by
      intro k
      constructor
      · intro h
        obtain ⟨z, hz, rfl⟩ := List.mem_map.mp h
        obtain ⟨j, hj, rfl⟩ := List.mem_map.mp (hperm.mem_iff.mp hz)
        exact hj
      · intro h
        exact List.mem_map.mpr ⟨(k : Int), hperm.mem_iff.mpr (List.mem_map.mpr ⟨k, h, rfl⟩), rfl⟩
    have hnd : ns'.Nodup := hperm.nodup_iff.mpr (by
      exact List.Pairwise.map _ (fun a b h e => h (by omega)) nd)
    have asc : (ns'.map Int.toNat).Pairwise (· < ·) := by
      rw [List.pairwise_map]
      have hboth : ns'.Pairwise (fun a b => a ≤ b ∧ a ≠ b) := List.Pairwise.and hpw hnd
      refine List.Pairwise.imp_of_mem (fun {a b} ha hb hab => ?_) hboth
      obtain ⟨j, hj, rfl⟩ := List.mem_map.mp (hperm.mem_iff.mp ha)
      obtain ⟨j', hj', rfl⟩ := List.mem_map.mp (hperm.mem_iff.mp hb)
      obtain ⟨h1, h2⟩ := hab
      simp only [Int.toNat_natCast]
      omega
    have nl : st.length < (st2 ++ [C.lst ((ns'.map Int.toNat).map iN)]).length := by
      have := f.grw.le
      rw [List.length_append, List.length_singleton]; omega
    have e2 : ns'.map D.int = (ns'.map Int.toNat).map iN := by
      rw [congrArg (List.map D.int) e1, List.map_map]; rfl
    rw [e2]
    have e3 : (st2 ++ [C.lst ((ns'.map Int.toNat).map iN)]).length - 1 = st2.length := by simp
    have := q (ns'.map Int.toNat) (st2 ++ [C.lst ((ns'.map Int.toNat).map iN)]) ⟨fun k hk => hlt k ((hmem k).mp hk), asc, fun t h => (hmem t).mpr (hts t h), fun k hk x hx p hp => (hmem p).mpr (hcl k ((hmem k).mp hk) x hx p hp)⟩ f.grw.app (by rw [e3]; exact rdL_new) nl
    rw [e3] at this
    exact this
def nameOf : Nd → Str
  | .word _ _ => Str.ofString "word"
  | .inp _ _ => Str.ofString "input"
  | .one o _ _ => opS o
  | .two o _ _ _ => opS o
  | .pick _ _ _ _ => opS .pick
def tailOf : Nd → List D
  | .word _ v => [.int v]
  | .inp _ i => [.int (i : Int)]
  | .one _ _ a => [.int (a : Int)]
  | .two _ _ a b => [.int (a : Int), .int (b : Int)]
  | .pick _ c a b => [.int (c : Int), .int (a : Int), .int (b : Int)]
theorem dat_eq (x : Nd) : x.dat = .tup (.str (nameOf x) :: .int x.wd :: tailOf x) := by cases x <;> rfl
def isWord : Nd → Bool
  | .word _ _ => true
  | _ => false
theorem name_ok (x : Nd) : okS (nameOf x) = true := by
  cases x with
  | word w v => show okS (Str.ofString "word") = true; decide +kernel
  | inp w i => show okS (Str.ofString "input") = true; decide +kernel
  | one o w a => exact opS_ok o
  | two o w a b => exact opS_ok o
  | pick w c a b => exact opS_ok .pick
theorem name_word (x : Nd) : decide (nameOf x = Str.ofString "word") = isWord x := by
  cases x with
  | word w v => show decide (Str.ofString "word" = Str.ofString "word") = true; decide +kernel
  | inp w i => show decide (Str.ofString "input" = Str.ofString "word") = false; decide +kernel
  | one o w a => exact (opS_w o).2.1
  | two o w a b => exact (opS_w o).2.1
  | pick w c a b => exact (opS_w .pick).2.1
end Pd
end PartPdNeeded

section PartPdBits
set_option Elab.async false
set_option linter.all false
set_option maxRecDepth 100000
set_option maxHeartbeats 1000000
/-! Pd: words of bits that are known or not. Own work. -/
namespace Pd
open PySem
abbrev Tri := Option Bool
abbrev TriL := List Tri
def bitsN : List Bool → Nat
  | [] => 0
  | b :: r => b.toNat + 2 * bitsN r
theorem bitsN_bit : ∀ (l : List Bool) (k : Nat), (bitsN l).testBit k = l.getD k false
  | [], k => by simp [bitsN]
  | b :: r, 0 => by
    unfold bitsN
    rw [Nat.testBit_zero]
    cases b <;> simp <;> omega
  | b :: r, k + 1 => by
    unfold bitsN
    rw [Nat.testBit_succ, show (b.toNat + 2 * bitsN r) / 2 = bitsN r by cases b <;> simp <;> omega, bitsN_bit r k]
    rfl
theorem bitsN_lt : ∀ l : List Bool, bitsN l < 2 ^ l.length
  | [] => by simp [bitsN]
  | b :: r => by
    have := bitsN_lt r
    unfold bitsN
    rw [List.length_cons, Nat.pow_succ]
    cases b <;> simp <;> omega
def kn (t : TriL) : Nat := bitsN (t.map Option.isSome)
def vl (t : TriL) : Nat := bitsN (t.map (· == some true))
def tb (t : TriL) (k : Nat) : Tri := t.getD k none
theorem kn_bit (t : TriL) (k : Nat) : (kn t).testBit k = (tb t k).isSome := by
  unfold kn tb
  rw [bitsN_bit, List.getD_eq_getElem?_getD, List.getD_eq_getElem?_getD, List.getElem?_map]
  cases t[k]? <;> rfl
theorem vl_bit (t : TriL) (k : Nat) : (vl t).testBit k = (tb t k == some true) := by
  unfold vl tb
  rw [bitsN_bit, List.getD_eq_getElem?_getD, List.getD_eq_getElem?_getD, List.getElem?_map]
  cases t[k]? <;> rfl
theorem kn_lt (t : TriL) : kn t < 2 ^ t.length := by have := bitsN_lt (t.map Option.isSome); rwa [List.length_map] at this
theorem vl_lt (t : TriL) : vl t < 2 ^ t.length := by have := bitsN_lt (t.map (· == some true)); rwa [List.length_map] at this
theorem tb_lt {t : TriL} {k : Nat} (h : k < t.length) : tb t k = t[k] := by unfold tb; rw [List.getD_eq_getElem?_getD, List.getElem?_eq_getElem h]; rfl
theorem tb_ge {t : TriL} {k : Nat} (h : t.length ≤ k) : tb t k = none := by unfold tb; rw [List.getD_eq_getElem?_getD, List.getElem?_eq_none h]; rfl
theorem kn_is {x : Nat} {t : TriL} (h : ∀ k, x.testBit k = (tb t k).isSome) : x = kn t := Nat.eq_of_testBit_eq fun k => by rw [h, kn_bit]
theorem vl_is {x : Nat} {t : TriL} (h : ∀ k, x.testBit k = (tb t k == some true)) : x = vl t := Nat.eq_of_testBit_eq fun k => by rw [h, vl_bit]
theorem tri_ext {t u : TriL} (hl : t.length = u.length) (h : ∀ k, k < t.length → tb t k = tb u k) : t = u := by
  apply List.ext_getElem hl
  intro k h1 h2
  have := h k h1
  rwa [tb_lt h1, tb_lt h2] at this
theorem or_split (m : Nat) : ∀ n, m ||| n = (m ^^^ n) + (m &&& n) := by
  induction m using Nat.strongRecOn with
  | ind m ih =>
    intro n
    by_cases hm : m = 0
    · subst hm; simp
    · have := ih (m / 2) (by omega) (n / 2)
      have e1 := Nat.div_add_mod (m ||| n) 2
      have e2 := Nat.div_add_mod (m ^^^ n) 2
      have e3 := Nat.div_add_mod (m &&& n) 2
      rw [Nat.or_div_two] at e1
      rw [Nat.xor_div_two] at e2
      rw [Nat.and_div_two] at e3
      have b : ∀ x : Nat, x % 2 = (x.testBit 0).toNat := fun x => by
        rw [Nat.testBit_zero]
        rcases Nat.mod_two_eq_zero_or_one x with h | h <;> rw [h] <;> rfl
      have m1 := b (m ||| n)
      have m2 := b (m ^^^ n)
      have m3 := b (m &&& n)
      rw [Nat.testBit_or] at m1
      rw [Nat.testBit_xor] at m2
      rw [Nat.testBit_and] at m3
      have : (m ||| n) % 2 = (m ^^^ n) % 2 + (m &&& n) % 2 := by
        rw [m1, m2, m3]
        cases m.testBit 0 <;> cases n.testBit 0 <;> rfl
      omega
theorem xorN' (m n : Nat) : Builtin.bitXor (m : Int) (n : Int) = ((m ^^^ n : Nat) : Int) := by
  unfold Builtin.bitXor
  rw [orN, andN, or_split]
  omega
def ldiff (m n : Nat) : Nat := m ^^^ (m &&& n)
theorem ldiff_sub (m n : Nat) : m - (m &&& n) = ldiff m n := by
  have h := or_split m (m &&& n)
  have e1 : m ||| (m &&& n) = m := by
    apply Nat.eq_of_testBit_eq; intro k
    rw [Nat.testBit_or, Nat.testBit_and]
    cases m.testBit k <;> simp
  have e2 : m &&& (m &&& n) = m &&& n := by
    apply Nat.eq_of_testBit_eq; intro k
    rw [Nat.testBit_and, Nat.testBit_and]
    cases m.testBit k <;> simp
  rw [e1, e2] at h
  unfold ldiff
  omega
theorem ldiff_bit (m n k : Nat) : (ldiff m n).testBit k = (m.testBit k && !n.testBit k) := by
  unfold ldiff
  rw [Nat.testBit_xor, Nat.testBit_and]
  cases m.testBit k <;> cases n.testBit k <;> rfl
theorem andnotN (m n : Nat) : Builtin.bitAnd (m : Int) (Builtin.bitNot (n : Int)) = ((ldiff m n : Nat) : Int) := by
  unfold Builtin.bitAnd Builtin.bitNot
  have h1 : (0 : Int) ≤ m := by omega
  have h2 : ¬ ((0 : Int) ≤ -(n : Int) - 1) := by omega
  simp only [h1, h2, decide_true, decide_false]
  have e2 : (-(-(n : Int) - 1) - 1).toNat = n := by omega
  rw [e2, Int.toNat_natCast, ← ldiff_sub]
  have : m &&& n ≤ m := Nat.and_le_left
  omega
theorem notandN (m n : Nat) : Builtin.bitAnd (Builtin.bitNot (n : Int)) (m : Int) = ((ldiff m n : Nat) : Int) := by
  unfold Builtin.bitAnd Builtin.bitNot
  have h1 : (0 : Int) ≤ m := by omega
  have h2 : ¬ ((0 : Int) ≤ -(n : Int) - 1) := by omega
  simp only [h1, h2, decide_true, decide_false]
  have e2 : (-(-(n : Int) - 1) - 1).toNat = n := by omega
  rw [e2, Int.toNat_natCast, ← ldiff_sub]
  have : m &&& n ≤ m := Nat.and_le_left
  omega
theorem pow_cast (n : Nat) : ((2 : Int) ^ n) = ((2 ^ n : Nat) : Int) := by simp
theorem shlN (m k : Nat) : (m : Int) * 2 ^ k = ((m <<< k : Nat) : Int) := by
  rw [pow_cast, Nat.shiftLeft_eq]
  exact (Int.natCast_mul m (2 ^ k)).symm
theorem shrN (m k : Nat) : (m : Int) / 2 ^ k = ((m >>> k : Nat) : Int) := by
  rw [pow_cast, Nat.shiftRight_eq_div_pow]
  exact (Int.natCast_ediv m (2 ^ k)).symm
theorem one_bit (m k : Nat) : Builtin.bitAnd ((m >>> k : Nat) : Int) 1 = ((m.testBit k).toNat : Nat) := by
  have e := andN (m >>> k) 1
  rw [show ((1 : Nat) : Int) = 1 from rfl] at e
  rw [e]
  congr 1
  rw [Nat.and_one_is_mod, Nat.shiftRight_eq_div_pow, Nat.testBit_eq_decide_div_mod_eq]
  rcases Nat.mod_two_eq_zero_or_one (m / 2 ^ k) with h | h <;> rw [h] <;> rfl
/-- the greatest word -/
def fulN (w : Nat) : Nat := 2 ^ w - 1
theorem fulN_bit (w k : Nat) : (fulN w).testBit k = decide (k < w) := Nat.testBit_two_pow_sub_one w k
theorem fullI_N (w : Nat) : fullI (w : Int) = ((fulN w : Nat) : Int) := by
  rw [fullN]
  rfl
theorem fulN_le {w x : Nat} (h : x < 2 ^ w) : x ≤ fulN w := by unfold fulN; omega
theorem fulN_lt (w : Nat) : fulN w < 2 ^ w := by have := Nat.two_pow_pos w; unfold fulN; omega
theorem compl_bit {w x : Nat} (h : x < 2 ^ w) (k : Nat) : (fulN w - x).testBit k = (decide (k < w) && !x.testBit k) := by
  have := Nat.testBit_two_pow_sub_succ h k
  rw [show fulN w - x = 2 ^ w - (x + 1) by unfold fulN; omega]
  exact this
theorem full_iff {t : TriL} : kn t = fulN t.length ↔ ∀ k, k < t.length → (tb t k).isSome = true := by
  constructor
  · intro h k hk
    rw [← kn_bit, h, fulN_bit]
    exact decide_eq_true hk
  · intro h
    refine (kn_is fun k => ?_).symm
    rw [fulN_bit]
    by_cases hk : k < t.length
    · rw [h k hk, decide_eq_true hk]
    · rw [tb_ge (by omega), decide_eq_false hk]; rfl
/-! as data -/
def triD : Tri → D
  | none => .non
  | some b => .int (b2i b)
def pairD (t : TriL) : D := .tup [.int (kn t : Nat), .int (vl t : Nat)]
theorem kn_le {t : TriL} {w : Nat} (h : t.length = w) : kn t ≤ fulN w := by subst h; exact fulN_le (kn_lt t)
theorem vl_le {t : TriL} {w : Nat} (h : t.length = w) : vl t ≤ fulN w := by subst h; exact fulN_le (vl_lt t)
theorem small8 {w : Nat} (h : w ≤ 8) : fulN w ≤ 255 := by
  obtain rfl | rfl | rfl | rfl | rfl | rfl | rfl | rfl | rfl : w = 0 ∨ w = 1 ∨ w = 2 ∨ w = 3 ∨ w = 4 ∨ w = 5 ∨ w = 6 ∨ w = 7 ∨ w = 8 := by omega
  all_goals decide
/-- the bits of a word -/
def ofN (w x : Nat) : TriL := (List.range w).map fun k => some (x.testBit k)
theorem ofN_len (w x : Nat) : (ofN w x).length = w := by simp [ofN]
theorem tb_map_range {f : Nat → Tri} {w k : Nat} : tb ((List.range w).map f) k = if k < w then f k else none := by
  by_cases h : k < w
  · rw [tb_lt (by simpa using h), if_pos h]; simp
  · rw [tb_ge (by simp; omega), if_neg h]
theorem ofN_kn (w x : Nat) : kn (ofN w x) = fulN w := by
  have := (full_iff (t := ofN w x)).mpr fun k hk => by
    rw [ofN_len] at hk
    unfold ofN
    rw [tb_map_range, if_pos hk]; rfl
  rwa [ofN_len] at this
theorem ofN_vl {w x : Nat} (h : x < 2 ^ w) : vl (ofN w x) = x := by
  refine (vl_is fun k => ?_).symm
  unfold ofN
  rw [tb_map_range]
  split
  · cases x.testBit k <;> rfl
  · rename_i hk
    rw [Nat.testBit_lt_two_pow (Nat.lt_of_lt_of_le h (Nat.pow_le_pow_right (by decide) (by omega)))]; rfl
end Pd
end PartPdBits

section PartPdCubes
set_option Elab.async false
set_option linter.all false
set_option maxRecDepth 100000
set_option maxHeartbeats 1000000
namespace Pd
open PySem
local macro_rules | `(tactic| walk_at "s") => `(tactic| (repeat (refine Red.red ?_)))
local macro_rules | `(tactic| walk_at "r") => `(tactic| (repeat (first | refine Red.red ?_ | refine Nxt.mk ?_)))
local macro_rules | `(tactic| walk_at "t") => `(tactic| (repeat (first | refine Red.red ?_ | refine Nxt.mk ?_ | refine ⟨by decide +kernel, by decide +kernel, wayF (by decide +kernel) ?_⟩ | refine ⟨by decide +kernel, by decide +kernel, wayT (by decide +kernel) ?_⟩ | refine ⟨by decide +kernel, ?_⟩ | refine ⟨Nat.le_of_ble_eq_true rfl, ?_⟩ | refine at_is rfl ?_)))
local macro_rules | `(tactic| walk_at "w") => `(tactic| (repeat (first | refine Red.red ?_ | refine Nxt.mk ?_ | refine wayF rfl ?_ | refine wayT rfl ?_ | refine at_is rfl ?_)))
local macro_rules | `(tactic| walk_at "d") => `(tactic| (repeat (first | refine Red.red ?_ | refine ⟨by decide +kernel, by decide +kernel, wayF (by decide +kernel) ?_⟩ | refine ⟨by decide +kernel, by decide +kernel, wayT (by decide +kernel) ?_⟩ | refine ⟨by decide +kernel, ?_⟩ | refine ⟨Nat.le_of_ble_eq_true rfl, ?_⟩ | refine at_is rfl ?_)))
local instance inTupC {x : D} {xs : List D} {st : Store} {r : Bool → Prop} : Red (inC x (.tup xs) st r) (x.flat = true ∧ xs.all D.flat = true ∧ r (xs.any fun y => D.eqb y x)) := ⟨id⟩
/-! Pd: `metorshut.cubes`, operation by operation. Own work. -/
def rd_bitsBody (c : Cl) : TS := sSeq (sAsg (dOp andK (dOp ixK (dVar 1) (dC (.int 0))) (dOp ixK (dVar 2) (dC (.int 0)))) (gName 3)) (sSeq (sIf (tTru (dCmp eqC (dVar 0) (dC (.str "^")))) (sRet (dTup (aCons (dVar 3) (aCons (dOp andK (dOp xorK (dOp ixK (dVar 1) (dC (.int 1))) (dOp ixK (dVar 2) (dC (.int 1)))) (dVar 3)) (aNil))))) (sNext)) (sSeq (sIf (tTru (dCmp eqC (dVar 0) (dC (.str "&")))) (sSeq (sAsg (dOp orK (dOp andK (dOp ixK (dVar 1) (dC (.int 0))) (dUn invK (dOp ixK (dVar 1) (dC (.int 1))))) (dOp andK (dOp ixK (dVar 2) (dC (.int 0))) (dUn invK (dOp ixK (dVar 2) (dC (.int 1)))))) (gName 4)) (sRet (dTup (aCons (dOp orK (dVar 3) (dVar 4)) (aCons (dOp andK (dOp ixK (dVar 1) (dC (.int 1))) (dOp ixK (dVar 2) (dC (.int 1)))) (aNil)))))) (sNext)) (sRet (dTup (aCons (dOp orK (dOp orK (dVar 3) (dOp ixK (dVar 1) (dC (.int 1)))) (dOp ixK (dVar 2) (dC (.int 1)))) (aCons (dOp orK (dOp ixK (dVar 1) (dC (.int 1))) (dOp ixK (dVar 2) (dC (.int 1)))) (aNil)))))))
def rd_sumBody (c : Cl) : TS := sSeq (sAsg (dCall c "greatest" (aCons (dVar 1) (aNil))) (gName 3)) (sSeq (sPar3 4 5 6 (aCons (dOp ixK (dVar 2) (dC (.int 0))) (aCons (dOp ixK (dVar 2) (dUn negK (dC (.int 1)))) (aCons (dC (.int 0)) (aNil))))) (sSeq (sIf (tTru (dCmp neC (dVar 0) (dC (.str "+")))) (sSeq (sAsg (dTup (aCons (dOp ixK (dVar 5) (dC (.int 0))) (aCons (dOp andK (dUn invK (dOp ixK (dVar 5) (dC (.int 1)))) (dOp ixK (dVar 5) (dC (.int 0)))) (aNil)))) (gName 5)) (sAsg (dC (.int 1)) (gName 6))) (sNext)) (sSeq (sIf (tTru (dCmp eqC (dVar 0) (dC (.str "neg")))) (sAsg (dTup (aCons (dVar 3) (aCons (dC (.int 0)) (aNil)))) (gName 4)) (sNext)) (sSeq (sAsg (dTup (aCons (dC (.int 0)) (aCons (dC (.int 0)) (aNil)))) (gTup (gsCons (gName 7) (gsCons (gName 8) (gsNil))) 2)) (sSeq (sAsg (dC (.int 1)) (gName 9)) (sSeq (sFor (iR1 (dVar 1)) (gName 10) (sSeq (sAsg (dTup (aCons (dOp andK (dOp shrK (dOp ixK (dVar 4) (dC (.int 0))) (dVar 10)) (dC (.int 1))) (aCons (dOp andK (dOp shrK (dOp ixK (dVar 4) (dC (.int 1))) (dVar 10)) (dC (.int 1))) (aNil)))) (gName 11)) (sSeq (sAsg (dTup (aCons (dOp andK (dOp shrK (dOp ixK (dVar 5) (dC (.int 0))) (dVar 10)) (dC (.int 1))) (aCons (dOp andK (dOp shrK (dOp ixK (dVar 5) (dC (.int 1))) (dVar 10)) (dC (.int 1))) (aNil)))) (gName 12)) (sSeq (sIf (tAnd (tTru (dOp ixK (dVar 11) (dC (.int 0)))) (tAnd (tTru (dOp ixK (dVar 12) (dC (.int 0)))) (tTru (dVar 9)))) (sSeq (sAug 7 orK (dOp shlK (dC (.int 1)) (dVar 10))) (sAug 8 orK (dOp shlK (dOp xorK (dOp xorK (dOp ixK (dVar 11) (dC (.int 1))) (dOp ixK (dVar 12) (dC (.int 1)))) (dVar 6)) (dVar 10)))) (sNext)) (sSeq (sAsg (dOp addK (dOp addK (dOp ixK (dVar 11) (dC (.int 1))) (dOp ixK (dVar 12) (dC (.int 1)))) (dIf (tTru (dVar 9)) (dVar 6) (dC (.int 0)))) (gName 13)) (sSeq (sAsg (dOp addK (dOp subK (dOp addK (dOp subK (dOp ixK (dVar 11) (dC (.int 0))) (dOp ixK (dVar 11) (dC (.int 1)))) (dOp ixK (dVar 12) (dC (.int 0)))) (dOp ixK (dVar 12) (dC (.int 1)))) (dIf (tTru (dVar 9)) (dOp subK (dC (.int 1)) (dVar 6)) (dC (.int 0)))) (gName 14)) (sSeq (sAsg (dB intB (aCons (dOrT (dCmp geC (dVar 13) (dC (.int 2))) (dCmp geC (dVar 14) (dC (.int 2)))) (aNil))) (gName 9)) (sAsg (dB intB (aCons (dCmp geC (dVar 13) (dC (.int 2))) (aNil))) (gName 6))))))))) (sRet (dTup (aCons (dVar 7) (aCons (dVar 8) (aNil)))))))))))
def rd_productBody (c : Cl) : TS := sSeq (sAsg (dCall c "greatest" (aCons (dVar 0) (aNil))) (gName 3)) (sSeq (sIf (tOr (tTru (dCmp eqC (dVar 1) (dTup (aCons (dVar 3) (aCons (dC (.int 0)) (aNil)))))) (tTru (dCmp eqC (dVar 2) (dTup (aCons (dVar 3) (aCons (dC (.int 0)) (aNil))))))) (sRet (dTup (aCons (dVar 3) (aCons (dC (.int 0)) (aNil))))) (sNext)) (sSeq (sAsg (dC (.int 0)) (gName 4)) (sSeq (sWhile (tAnd (tTru (dCmp ltC (dVar 4) (dVar 0))) (tAnd (tTru (dOp andK (dOp shrK (dOp ixK (dVar 1) (dC (.int 0))) (dVar 4)) (dC (.int 1)))) (tTru (dOp andK (dOp shrK (dOp ixK (dVar 2) (dC (.int 0))) (dVar 4)) (dC (.int 1)))))) (sAug 4 iaddK (dC (.int 1)))) (sSeq (sAsg (dOp subK (dOp shlK (dC (.int 1)) (dVar 4)) (dC (.int 1))) (gName 5)) (sRet (dTup (aCons (dVar 5) (aCons (dOp andK (dOp mulK (dOp ixK (dVar 1) (dC (.int 1))) (dOp ixK (dVar 2) (dC (.int 1)))) (dVar 5)) (aNil)))))))))
def rd_shiftBody (c : Cl) : TS := sSeq (sAsg (dOp ixK (dVar 3) (dC (.int 0))) (gName 4)) (sSeq (sIf (tTru (dCmp neC (dOp ixK (dVar 2) (dC (.int 0))) (dOp ixK (dVar 3) (dC (.int 1))))) (sRet (dIf (tTru (dCmp eqC (dVar 1) (dTup (aCons (dVar 4) (aCons (dC (.int 0)) (aNil)))))) (dTup (aCons (dVar 4) (aCons (dC (.int 0)) (aNil)))) (dTup (aCons (dC (.int 0)) (aCons (dC (.int 0)) (aNil)))))) (sNext)) (sSeq (sIf (tTru (dCmp geC (dOp ixK (dVar 2) (dC (.int 1))) (dC (.int 8)))) (sRet (dTup (aCons (dVar 4) (aCons (dC (.int 0)) (aNil))))) (sNext)) (sSeq (sIf (tTru (dCmp eqC (dVar 0) (dC (.str "<<")))) (sSeq (sAsg (dOp subK (dOp shlK (dC (.int 1)) (dOp ixK (dVar 2) (dC (.int 1)))) (dC (.int 1))) (gName 5)) (sRet (dTup (aCons (dOp andK (dOp orK (dOp shlK (dOp ixK (dVar 1) (dC (.int 0))) (dOp ixK (dVar 2) (dC (.int 1)))) (dVar 5)) (dVar 4)) (aCons (dOp andK (dOp shlK (dOp ixK (dVar 1) (dC (.int 1))) (dOp ixK (dVar 2) (dC (.int 1)))) (dVar 4)) (aNil)))))) (sNext)) (sSeq (sAsg (dOp shrK (dVar 4) (dOp ixK (dVar 2) (dC (.int 1)))) (gName 6)) (sRet (dTup (aCons (dOp orK (dOp shrK (dOp ixK (dVar 1) (dC (.int 0))) (dOp ixK (dVar 2) (dC (.int 1)))) (dOp subK (dVar 4) (dVar 6))) (aCons (dOp shrK (dOp ixK (dVar 1) (dC (.int 1))) (dOp ixK (dVar 2) (dC (.int 1)))) (aNil)))))))))
def rd_pickBody (c : Cl) : TS := sSeq (sAsg (dVar 0) (gLstT (gsCons (gName 1) (gsCons (gName 2) (gsCons (gName 3) (gsNil)))) 3)) (sSeq (sIf (tTru (dCmp eqC (dOp ixK (dVar 1) (dC (.int 0))) (dC (.int 1)))) (sRet (dIf (tTru (dCmp eqC (dOp ixK (dVar 1) (dC (.int 1))) (dC (.int 1)))) (dVar 2) (dVar 3))) (sNext)) (sSeq (sAsg (dOp andK (dOp andK (dOp ixK (dVar 2) (dC (.int 0))) (dOp ixK (dVar 3) (dC (.int 0)))) (dUn invK (dOp xorK (dOp ixK (dVar 2) (dC (.int 1))) (dOp ixK (dVar 3) (dC (.int 1)))))) (gName 4)) (sRet (dTup (aCons (dVar 4) (aCons (dOp andK (dOp ixK (dVar 2) (dC (.int 1))) (dVar 4)) (aNil)))))))
def rd_wideBody (c : Cl) : TS := sSeq (sIf (tTru (dCmp gtC (dVar 0) (dVar 1))) (sRet (dTup (aCons (dOp orK (dOp ixK (dVar 2) (dC (.int 0))) (dOp subK (dVar 0) (dVar 1))) (aCons (dOp ixK (dVar 2) (dC (.int 1))) (aNil))))) (sNext)) (sRet (dTup (aCons (dOp andK (dOp ixK (dVar 2) (dC (.int 0))) (dVar 0)) (aCons (dOp andK (dOp ixK (dVar 2) (dC (.int 1))) (dVar 0)) (aNil)))))
def rd_relationBody (c : Cl) : TS := sSeq (sIf (tTru (dCmp inC (dVar 0) (dTup (aCons (dC (.str "==")) (aCons (dC (.str "!=")) (aNil)))))) (sSeq (sAsg (dC .non) (gName 4)) (sSeq (sIf (tTru (dOp andK (dOp andK (dOp xorK (dOp ixK (dVar 1) (dC (.int 1))) (dOp ixK (dVar 2) (dC (.int 1)))) (dOp ixK (dVar 1) (dC (.int 0)))) (dOp ixK (dVar 2) (dC (.int 0))))) (sAsg (dC (.int 0)) (gName 4)) (sIf (tAnd (tTru (dCmp eqC (dOp ixK (dVar 1) (dC (.int 0))) (dVar 3))) (tTru (dCmp eqC (dOp ixK (dVar 2) (dC (.int 0))) (dVar 3)))) (sAsg (dC (.int 1)) (gName 4)) (sNext))) (sSeq (sIf (tTru (dCmp isC (dVar 4) (dC .non))) (sRet (dTup (aCons (dC (.int 0)) (aCons (dC (.int 0)) (aNil))))) (sNext)) (sRet (dTup (aCons (dC (.int 1)) (aCons (dIf (tTru (dCmp eqC (dVar 0) (dC (.str "==")))) (dVar 4) (dOp subK (dC (.int 1)) (dVar 4))) (aNil)))))))) (sNext)) (sSeq (sPar 5 6 (aCons (dOp ixK (dVar 1) (dC (.int 1))) (aCons (dOp orK (dOp ixK (dVar 1) (dC (.int 1))) (dOp subK (dVar 3) (dOp ixK (dVar 1) (dC (.int 0))))) (aNil)))) (sSeq (sPar 7 8 (aCons (dOp ixK (dVar 2) (dC (.int 1))) (aCons (dOp orK (dOp ixK (dVar 2) (dC (.int 1))) (dOp subK (dVar 3) (dOp ixK (dVar 2) (dC (.int 0))))) (aNil)))) (sSeq (sIf (tTru (dCmp eqC (dVar 0) (dC (.str "<")))) (sPar 9 10 (aCons (dCmp ltC (dVar 6) (dVar 7)) (aCons (dCmp geC (dVar 5) (dVar 8)) (aNil)))) (sPar 9 10 (aCons (dCmp leC (dVar 6) (dVar 7)) (aCons (dCmp gtC (dVar 5) (dVar 8)) (aNil))))) (sSeq (sIf (tOr (tTru (dVar 9)) (tTru (dVar 10))) (sRet (dTup (aCons (dC (.int 1)) (aCons (dB intB (aCons (dVar 9) (aNil))) (aNil))))) (sNext)) (sRet (dTup (aCons (dC (.int 0)) (aCons (dC (.int 0)) (aNil)))))))))
def rd_oneBody (c : Cl) : TS := sSeq (sAsg (dOp ixK (dVar 0) (dC (.int 0))) (gName 3)) (sSeq (sAsg (dOp ixK (dVar 2) (dC (.int 0))) (gName 4)) (sSeq (sIf (tTru (dCmp eqC (dVar 3) (dC (.str "not")))) (sRet (dTup (aCons (dOp ixK (dOp ixK (dVar 1) (dC (.int 0))) (dC (.int 0))) (aCons (dOp andK (dOp subK (dVar 4) (dOp ixK (dOp ixK (dVar 1) (dC (.int 0))) (dC (.int 1)))) (dOp ixK (dOp ixK (dVar 1) (dC (.int 0))) (dC (.int 0)))) (aNil))))) (sNext)) (sSeq (sIf (tTru (dCmp inC (dVar 3) (dTup (aCons (dC (.str "&")) (aCons (dC (.str "|")) (aCons (dC (.str "^")) (aNil))))))) (sRet (dCall c "read_bits" (aCons (dVar 3) (aCons (dOp ixK (dVar 1) (dC (.int 0))) (aCons (dOp ixK (dVar 1) (dC (.int 1))) (aNil)))))) (sNext)) (sSeq (sIf (tTru (dCmp inC (dVar 3) (dTup (aCons (dC (.str "+")) (aCons (dC (.str "-")) (aCons (dC (.str "neg")) (aNil))))))) (sRet (dCall c "read_sum" (aCons (dVar 3) (aCons (dOp ixK (dVar 0) (dC (.int 1))) (aCons (dVar 1) (aNil)))))) (sNext)) (sSeq (sIf (tTru (dCmp eqC (dVar 3) (dC (.str "*")))) (sRet (dCall c "read_product" (aCons (dOp ixK (dVar 0) (dC (.int 1))) (aCons (dOp ixK (dVar 1) (dC (.int 0))) (aCons (dOp ixK (dVar 1) (dC (.int 1))) (aNil)))))) (sNext)) (sSeq (sIf (tTru (dCmp inC (dVar 3) (dTup (aCons (dC (.str "<<")) (aCons (dC (.str ">>")) (aNil)))))) (sRet (dCall c "read_shift" (aCons (dVar 3) (aCons (dOp ixK (dVar 1) (dC (.int 0))) (aCons (dOp ixK (dVar 1) (dC (.int 1))) (aCons (dVar 2) (aNil))))))) (sNext)) (sSeq (sIf (tTru (dCmp inC (dVar 3) (dTup (aCons (dC (.str "div")) (aCons (dC (.str "rem")) (aNil)))))) (sSeq (sIf (tAnd (tTru (dCmp eqC (dOp ixK (dOp ixK (dVar 1) (dC (.int 0))) (dC (.int 0))) (dVar 4))) (tTru (dCmp eqC (dOp ixK (dOp ixK (dVar 1) (dC (.int 1))) (dC (.int 0))) (dVar 4)))) (sRet (dTup (aCons (dVar 4) (aCons (dCallS c "result" 2 (aCons (dVar 3) (aCons (dOp ixK (dVar 0) (dC (.int 1))) (aCons (dOp ixK (dOp ixK (dVar 1) (dC (.int 0))) (dC (.int 1))) (aCons (dOp ixK (dOp ixK (dVar 1) (dC (.int 1))) (dC (.int 1))) (aNil)))))) (aNil))))) (sNext)) (sRet (dTup (aCons (dC (.int 0)) (aCons (dC (.int 0)) (aNil)))))) (sNext)) (sSeq (sIf (tTru (dCmp eqC (dVar 3) (dC (.str "pick")))) (sRet (dCall c "read_pick" (aCons (dVar 1) (aNil)))) (sNext)) (sSeq (sIf (tTru (dCmp eqC (dVar 3) (dC (.str "wide")))) (sRet (dCall c "read_wide" (aCons (dCall c "greatest" (aCons (dOp ixK (dVar 0) (dC (.int 1))) (aNil))) (aCons (dVar 4) (aCons (dOp ixK (dVar 1) (dC (.int 0))) (aNil)))))) (sNext)) (sRet (dCall c "read_relation" (aCons (dVar 3) (aCons (dOp ixK (dVar 1) (dC (.int 0))) (aCons (dOp ixK (dVar 1) (dC (.int 1))) (aCons (dVar 4) (aNil))))))))))))))))
def rd_nodesBody (c : Cl) : TS := sSeq (sAsg (dDic) (gName 3)) (sSeq (sFor (iSeq (dVar 1)) (gName 4) (sSeq (sAsg (dOp ixK (dVar 0) (dVar 4)) (gName 5)) (sSeq (sAsg (dCall c "greatest" (aCons (dOp ixK (dVar 5) (dC (.int 1))) (aNil))) (gName 6)) (sIf (tTru (dCmp eqC (dOp ixK (dVar 5) (dC (.int 0))) (dC (.str "word")))) (sAsg (dTup (aCons (dVar 6) (aCons (dOp ixK (dVar 5) (dC (.int 2))) (aNil)))) (gSubD (dVar 3) (dVar 4))) (sIf (tTru (dCmp eqC (dOp ixK (dVar 5) (dC (.int 0))) (dC (.str "input")))) (sSeq (sAsg (dIf (tTru (dCmp ltC (dOp ixK (dVar 5) (dC (.int 2))) (dB lenB (aCons (dVar 2) (aNil))))) (dOp ixK (dVar 2) (dOp ixK (dVar 5) (dC (.int 2)))) (dTup (aCons (dC (.int 0)) (aCons (dC (.int 0)) (aNil))))) (gName 7)) (sAsg (dTup (aCons (dOp andK (dOp ixK (dVar 7) (dC (.int 0))) (dVar 6)) (aCons (dOp andK (dOp ixK (dVar 7) (dC (.int 1))) (dVar 6)) (aNil)))) (gSubD (dVar 3) (dVar 4)))) (sSeq (sAsg (dLc (iSeq (dSl (dVar 5) (oSome (dC (.int 2))) (oNone))) (gName 9) (tYes) (dGetA (dVar 3) (dVar 9)) [9]) (gName 8)) (sAsg (dCall c "read_one" (aCons (dVar 5) (aCons (dVar 8) (aCons (dLc (iSeq (dSl (dVar 5) (oSome (dC (.int 2))) (oNone))) (gName 9) (tYes) (dCall c "greatest" (aCons (dOp ixK (dOp ixK (dVar 0) (dVar 9)) (dC (.int 1))) (aNil))) [9]) (aNil))))) (gSubD (dVar 3) (dVar 4))))))))) (sRet (dVar 3)))
def rd_termBody (c : Cl) : TS := sRet (dGetA (dCall c "read_nodes" (aCons (dVar 0) (aCons (dCall c "needed_for" (aCons (dVar 0) (aCons (dLst (aCons (dVar 2) (aNil))) (aNil)))) (aCons (dVar 1) (aNil))))) (dVar 2))
def mk3 (w : Nat) (f : Nat → Tri) : TriL := (List.range w).map f
theorem mk3_len (w : Nat) (f : Nat → Tri) : (mk3 w f).length = w := by simp [mk3]
theorem tb_mk (w : Nat) (f : Nat → Tri) (k : Nat) : tb (mk3 w f) k = if k < w then f k else none := tb_map_range
theorem mk_tb {t : TriL} {w : Nat} (h : t.length = w) : mk3 w (tb t) = t := tri_ext (by rw [mk3_len, h]) fun k hk => by rw [mk3_len] at hk; rw [tb_mk, if_pos hk]
section
variable {prog : String → Option Def} {st : Store} {Q : K} {k w : Nat} {a b c t : TriL}
theorem pair_is {n1 n2 : Nat} (h1 : ∀ k, n1.testBit k = (tb t k).isSome) (h2 : ∀ k, n2.testBit k = (tb t k == some true)) (q : Q (pairD t) st) : Q (.tup [.int (n1 : Nat), .int (n2 : Nat)]) st := by
  rw [kn_is h1, vl_is h2]
  exact q
def gand : Tri → Tri → Tri
  | some false, _ => some false
  | _, some false => some false
  | some true, some true => some true
  | _, _ => none
def gor : Tri → Tri → Tri
  | some true, _ => some true
  | _, some true => some true
  | some false, some false => some false
  | _, _ => none
def gxor : Tri → Tri → Tri
  | some x, some y => some (x != y)
  | _, _ => none
theorem bits_and (hp : prog "read_bits" = some ⟨3, 5, rd_bitsBody⟩) (ha : a.length = w) (hb : b.length = w) (q : Q (pairD (mk3 w fun k => gand (tb a k) (tb b k))) st) : callN prog (k + 1) "read_bits" [.str (Str.ofString "&"), pairD a, pairD b] st Q := by
  refine call_intro hp rfl ?_
  unfold rd_bitsBody pairD
  walk_at "t"
  simp only [andN, orN, andnotN]
  refine pair_is (fun k => ?_) (fun k => ?_) q
  all_goals
    simp only [Nat.testBit_or, Nat.testBit_and, ldiff_bit, kn_bit, vl_bit, tb_mk]
    by_cases h : k < w
    · rw [if_pos h]
      rcases tb a k with _ | _ | _ <;> rcases tb b k with _ | _ | _ <;> rfl
    · rw [if_neg h, tb_ge (by omega), tb_ge (by omega)]; rfl
theorem bits_or (hp : prog "read_bits" = some ⟨3, 5, rd_bitsBody⟩) (ha : a.length = w) (hb : b.length = w) (q : Q (pairD (mk3 w fun k => gor (tb a k) (tb b k))) st) : callN prog (k + 1) "read_bits" [.str (Str.ofString "|"), pairD a, pairD b] st Q := by
  refine call_intro hp rfl ?_
  unfold rd_bitsBody pairD
  walk_at "t"
  simp only [andN, orN, andnotN]
  refine pair_is (fun k => ?_) (fun k => ?_) q
  all_goals
    simp only [Nat.testBit_or, Nat.testBit_and, ldiff_bit, kn_bit, vl_bit, tb_mk]
    by_cases h : k < w
    · rw [if_pos h]
      rcases tb a k with _ | _ | _ <;> rcases tb b k with _ | _ | _ <;> rfl
    · rw [if_neg h, tb_ge (by omega), tb_ge (by omega)]; rfl
theorem bits_xor (hp : prog "read_bits" = some ⟨3, 5, rd_bitsBody⟩) (ha : a.length = w) (hb : b.length = w) (q : Q (pairD (mk3 w fun k => gxor (tb a k) (tb b k))) st) : callN prog (k + 1) "read_bits" [.str (Str.ofString "^"), pairD a, pairD b] st Q := by
  refine call_intro hp rfl ?_
  unfold rd_bitsBody pairD
  walk_at "t"
  simp only [andN, xorN']
  refine pair_is (fun k => ?_) (fun k => ?_) q
  all_goals
    simp only [Nat.testBit_xor, Nat.testBit_and, kn_bit, vl_bit, tb_mk]
    by_cases h : k < w
    · rw [if_pos h]
      rcases tb a k with _ | _ | _ <;> rcases tb b k with _ | _ | _ <;> rfl
    · rw [if_neg h, tb_ge (by omega), tb_ge (by omega)]; rfl
theorem cast_sub {m n : Nat} (h : n ≤ m) : (m : Int) - (n : Int) = ((m - n : Nat) : Int) := (Int.ofNat_sub h).symm
theorem fulN_mono {u w : Nat} (h : u ≤ w) : fulN u ≤ fulN w := by
  have := Nat.pow_le_pow_right (n := 2) (by decide) h
  unfold fulN; omega
theorem fulN_diff_bit {u w : Nat} (h : u ≤ w) (k : Nat) : (fulN w - fulN u).testBit k = (decide (k < w) && !decide (k < u)) := by
  rw [compl_bit (Nat.lt_of_lt_of_le (fulN_lt u) (Nat.pow_le_pow_right (by decide) h)), fulN_bit]
theorem fulN_lt_iff {u w : Nat} : fulN u < fulN w ↔ u < w := by
  constructor
  · intro h
    rcases Nat.lt_or_ge u w with h' | h'
    · exact h'
    · have := fulN_mono h'; omega
  · intro h
    have h1 := Nat.pow_lt_pow_right (a := 2) (by decide) h
    have h2 := Nat.two_pow_pos u
    unfold fulN; omega
theorem wide_ok {u : Nat} (hp : prog "read_wide" = some ⟨3, 3, rd_wideBody⟩) (ha : a.length = u) (q : Q (pairD (mk3 w fun k => if k < u then tb a k else some false)) st) : callN prog (k + 1) "read_wide" [.int (fulN w : Nat), .int (fulN u : Nat), pairD a] st Q := by
  refine call_intro hp rfl ?_
  unfold rd_wideBody pairD
  walk_at "t"
  by_cases h : u < w
  · refine wayT (decide_eq_true (by have := fulN_lt_iff.mpr h; omega)) ?_
    walk_at "t"
    rw [cast_sub (fulN_mono (by omega)), orN]
    refine pair_is (fun k => ?_) (fun k => ?_) q
    · rw [Nat.testBit_or, kn_bit, fulN_diff_bit (by omega), tb_mk]
      by_cases h1 : k < u
      · rw [if_pos (by omega), if_pos h1, decide_eq_true h1]; simp
      · rw [tb_ge (by omega), decide_eq_false h1]
        by_cases h2 : k < w
        · rw [if_pos h2, if_neg h1, decide_eq_true h2]; rfl
        · rw [if_neg h2, decide_eq_false h2]; rfl
    · rw [vl_bit, tb_mk]
      by_cases h1 : k < u
      · rw [if_pos (by omega), if_pos h1]
      · rw [tb_ge (by omega)]
        by_cases h2 : k < w
        · rw [if_pos h2, if_neg h1]; rfl
        · rw [if_neg h2]
  · refine wayF (decide_eq_false (by have := fulN_mono (show w ≤ u by omega); omega)) ?_
    walk_at "t"
    rw [andN, andN]
    refine pair_is (fun k => ?_) (fun k => ?_) q
    all_goals
      rw [Nat.testBit_and, fulN_bit, tb_mk]
      try rw [kn_bit]
      try rw [vl_bit]
      by_cases h2 : k < w
      · rw [if_pos h2, if_pos (by omega), decide_eq_true h2, Bool.and_true]
      · rw [if_neg h2, decide_eq_false h2, Bool.and_false]; rfl
theorem small_tri {c : TriL} (hc : c.length = 1) : kn c = (tb c 0).isSome.toNat ∧ vl c = (tb c 0 == some true).toNat := by
  match c, hc with
  | [x], _ => rcases x with _ | _ | _ <;> exact ⟨rfl, rfl⟩
theorem pick_okC {n : Nat} (hp : prog "read_pick" = some ⟨1, 5, rd_pickBody⟩) (h : rdL st n [pairD c, pairD a, pairD b]) (hc : c.length = 1) (ha : a.length = w) (hb : b.length = w)
    (q : Q (pairD (match tb c 0 with | none => mk3 w fun k => if tb a k = tb b k then tb a k else none | some true => a | some false => b)) st) : callN prog (k + 1) "read_pick" [.ref n] st Q := by
  refine call_intro hp rfl ?_
  unfold rd_pickBody
  obtain ⟨e1, e2⟩ := small_tri hc
  walk_at "s"
  refine gLst_at h rfl ?_
  have ec : pairD c = .tup [.int ((tb c 0).isSome.toNat : Nat), .int ((tb c 0 == some true).toNat : Nat)] := by unfold pairD; rw [e1, e2]
  rw [ec]
  cases hc0 : tb c 0 with
  | none =>
    rw [hc0] at q
    walk_at "t"
    refine wayF (by decide) ?_
    unfold pairD
    walk_at "t"
    simp only [xorN', andN, andnotN]
    refine pair_is (fun k => ?_) (fun k => ?_) q
    all_goals
      simp only [Nat.testBit_xor, Nat.testBit_and, ldiff_bit, kn_bit, vl_bit, tb_mk]
      by_cases h : k < w
      · rw [if_pos h]
        rcases tb a k with _ | _ | _ <;> rcases tb b k with _ | _ | _ <;> rfl
      · rw [if_neg h, tb_ge (by omega), tb_ge (by omega)]; rfl
  | some x =>
    rw [hc0] at q
    walk_at "t"
    refine wayT rfl ?_
    cases x with
    | true => walk_at "t"; refine wayT (by decide) ?_; walk_at "t"; exact q
    | false => walk_at "t"; refine wayF (by decide) ?_; walk_at "t"; exact q
/-! comparisons -/
def allK (w : Nat) (t : TriL) : Bool := (List.range w).all fun k => (tb t k).isSome
def allZ (w : Nat) (t : TriL) : Bool := (List.range w).all fun k => tb t k == some false
theorem allK_iff (h : a.length = w) : decide ((kn a : Int) = (fulN w : Nat)) = allK w a := by
  subst h
  unfold allK
  by_cases e : kn a = fulN a.length
  · rw [decide_eq_true (by omega)]
    symm
    rw [List.all_eq_true]
    intro k hk
    exact full_iff.mp e k (List.mem_range.mp hk)
  · rw [decide_eq_false (by omega)]
    symm
    rw [Bool.eq_false_iff]
    intro h
    rw [List.all_eq_true] at h
    exact e (full_iff.mpr fun k hk => h k (List.mem_range.mpr hk))
theorem allZ_iff (h : a.length = w) : allZ w a = true ↔ kn a = fulN w ∧ vl a = 0 := by
  subst h
  unfold allZ
  rw [List.all_eq_true]
  constructor
  · intro h
    have h' : ∀ k, k < a.length → tb a k = some false := fun k hk => by simpa using h k (List.mem_range.mpr hk)
    refine ⟨full_iff.mpr fun k hk => by rw [h' k hk]; rfl, ?_⟩
    apply Nat.eq_of_testBit_eq
    intro k
    rw [vl_bit, Nat.zero_testBit]
    by_cases hk : k < a.length
    · rw [h' k hk]; rfl
    · rw [tb_ge (by omega)]; rfl
  · rintro ⟨h1, h2⟩ k hk
    have hk := List.mem_range.mp hk
    have h3 := full_iff.mp h1 k hk
    have h4 := vl_bit a k
    rw [h2, Nat.zero_testBit] at h4
    rcases hx : tb a k with _ | _ | _
    · rw [hx] at h3; cases h3
    · rfl
    · rw [hx] at h4; cases h4
theorem zero_eq (h : a.length = w) : D.eqb (pairD a) (.tup [.int (fulN w : Nat), .int 0]) = allZ w a := by
  unfold pairD
  simp only [D.eqb, eqbs, Bool.and_true]
  cases hz : allZ w a with
  | true =>
    obtain ⟨h1, h2⟩ := (allZ_iff h).mp hz
    rw [h1, h2]; simp
  | false =>
    rw [Bool.eq_false_iff]
    intro e
    rw [Bool.and_eq_true, beq_iff_eq, beq_iff_eq] at e
    have := (allZ_iff h).mpr ⟨by omega, by omega⟩
    rw [hz] at this; cases this
theorem pair_okd (t : TriL) : D.okd 60 (pairD t) = true := rfl
theorem zeros_pair (w : Nat) : pairD (mk3 w fun _ => some false) = .tup [.int (fulN w : Nat), .int 0] := by
  have := (allZ_iff (mk3_len w fun _ => some false)).mp (by
    unfold allZ
    rw [List.all_eq_true]
    intro k hk
    rw [tb_mk, if_pos (List.mem_range.mp hk)]; rfl)
  unfold pairD
  rw [this.1, this.2]; rfl
theorem nones_pair (w : Nat) : pairD (mk3 w fun _ => none) = .tup [.int 0, .int 0] := by
  have h1 : (0 : Nat) = kn (mk3 w fun _ => none) := kn_is fun k => by rw [tb_mk, Nat.zero_testBit]; split <;> rfl
  have h2 : (0 : Nat) = vl (mk3 w fun _ => none) := vl_is fun k => by rw [tb_mk, Nat.zero_testBit]; split <;> rfl
  unfold pairD
  rw [← h1, ← h2]; rfl
def unl (w : Nat) (a b : TriL) : Bool := (List.range w).any fun k => match tb a k, tb b k with | some x, some y => x != y | _, _ => false
def eqT (w : Nat) (a b : TriL) : Tri := if unl w a b then some false else if allK w a && allK w b then some true else none
theorem ne_zero_any {n w : Nat} (h : ∀ k, w ≤ k → n.testBit k = false) : (((n : Nat) : Int) != 0) = (List.range w).any fun k => n.testBit k := by
  by_cases e : n = 0
  · subst e
    simp
  · have h1 : (((n : Nat) : Int) != 0) = true := by simp [e]
    rw [h1]
    symm
    rw [List.any_eq_true]
    obtain ⟨k, hk⟩ := Nat.exists_testBit_of_ne_zero e
    refine ⟨k, List.mem_range.mpr ?_, hk⟩
    rcases Nat.lt_or_ge k w with hh | hh
    · exact hh
    · rw [h k hh] at hk; cases hk
def mxN (w : Nat) (t : TriL) : Nat := vl t ||| (fulN w - kn t)
def ltT (w : Nat) (a b : TriL) : Tri := if mxN w a < vl b then some true else if mxN w b ≤ vl a then some false else none
def leT (w : Nat) (a b : TriL) : Tri := if mxN w a ≤ vl b then some true else if mxN w b < vl a then some false else none
theorem pair1 (x : Tri) : pairD [x] = .tup [.int (b2i x.isSome), .int (b2i (x == some true))] := by rcases x with _ | _ | _ <;> rfl
theorem rel_unl (ha : a.length = w) (hb : b.length = w) : (((((vl a ^^^ vl b) &&& kn a) &&& kn b : Nat) : Int) != 0) = unl w a b := by
  rw [ne_zero_any (w := w) (fun k hk => by rw [Nat.testBit_and, Nat.testBit_and, kn_bit, kn_bit, tb_ge (by omega)]; simp)]
  unfold unl
  congr 1
  funext k
  rw [Nat.testBit_and, Nat.testBit_and, Nat.testBit_xor, kn_bit, kn_bit, vl_bit, vl_bit]
  rcases tb a k with _ | _ | _ <;> rcases tb b k with _ | _ | _ <;> rfl
theorem rel_eq (hp : prog "read_relation" = some ⟨4, 11, rd_relationBody⟩) (ha : a.length = w) (hb : b.length = w) (q : Q (pairD [eqT w a b]) st) : callN prog (k + 1) "read_relation" [.str (Str.ofString "=="), pairD a, pairD b, .int (fulN w : Nat)] st Q := by
  refine call_intro hp rfl ?_
  unfold rd_relationBody
  rw [pair1] at q
  unfold eqT at q
  unfold pairD
  walk_at "t"
  simp only [xorN', andN]
  rw [rel_unl ha hb]
  cases hu : unl w a b with
  | true =>
    rw [hu] at q
    refine wayT rfl ?_
    walk_at "t"
    refine wayF rfl ?_
    walk_at "t"
    exact q
  | false =>
    rw [hu] at q
    refine wayF rfl ?_
    walk_at "t"
    rw [allK_iff ha]
    cases h1 : allK w a with
    | false =>
      rw [h1] at q
      refine wayF rfl ?_
      walk_at "t"
      refine wayT rfl ?_
      walk_at "t"
      exact q
    | true =>
      refine wayT rfl ?_
      walk_at "t"
      rw [allK_iff hb]
      cases h2 : allK w b with
      | false =>
        rw [h1, h2] at q
        refine wayF rfl ?_
        walk_at "t"
        refine wayT rfl ?_
        walk_at "t"
        exact q
      | true =>
        rw [h1, h2] at q
        refine wayT rfl ?_
        walk_at "t"
        refine wayF rfl ?_
        walk_at "t"
        exact q
theorem rel_ne (hp : prog "read_relation" = some ⟨4, 11, rd_relationBody⟩) (ha : a.length = w) (hb : b.length = w) (q : Q (pairD [(eqT w a b).map not]) st) : callN prog (k + 1) "read_relation" [.str (Str.ofString "!="), pairD a, pairD b, .int (fulN w : Nat)] st Q := by
  refine call_intro hp rfl ?_
  unfold rd_relationBody
  rw [pair1] at q
  unfold eqT at q
  unfold pairD
  walk_at "t"
  simp only [xorN', andN]
  rw [rel_unl ha hb]
  cases hu : unl w a b with
  | true =>
    rw [hu] at q
    refine wayT rfl ?_
    walk_at "t"
    refine wayF rfl ?_
    walk_at "t"
    exact q
  | false =>
    rw [hu] at q
    refine wayF rfl ?_
    walk_at "t"
    rw [allK_iff ha]
    cases h1 : allK w a with
    | false =>
      rw [h1] at q
      refine wayF rfl ?_
      walk_at "t"
      refine wayT rfl ?_
      walk_at "t"
      exact q
    | true =>
      refine wayT rfl ?_
      walk_at "t"
      rw [allK_iff hb]
      cases h2 : allK w b with
      | false =>
        rw [h1, h2] at q
        refine wayF rfl ?_
        walk_at "t"
        refine wayT rfl ?_
        walk_at "t"
        exact q
      | true =>
        rw [h1, h2] at q
        refine wayT rfl ?_
        walk_at "t"
        refine wayF rfl ?_
        walk_at "t"
        exact q
theorem mx_cast (ha : a.length = w) : Builtin.bitOr ((vl a : Nat) : Int) ((fulN w : Nat) - (kn a : Nat)) = ((mxN w a : Nat) : Int) := by
  rw [cast_sub (kn_le ha), orN]; rfl
theorem rel_lt (hp : prog "read_relation" = some ⟨4, 11, rd_relationBody⟩) (ha : a.length = w) (hb : b.length = w) (q : Q (pairD [ltT w a b]) st) : callN prog (k + 1) "read_relation" [.str (Str.ofString "<"), pairD a, pairD b, .int (fulN w : Nat)] st Q := by
  refine call_intro hp rfl ?_
  unfold rd_relationBody
  rw [pair1] at q
  unfold ltT at q
  unfold pairD
  walk_at "t"
  rw [mx_cast ha]
  walk_at "t"
  rw [mx_cast hb]
  walk_at "t"
  by_cases h1 : mxN w a < vl b
  · rw [if_pos h1] at q
    rw [decide_eq_true (show ((mxN w a : Nat) : Int) < (vl b : Nat) by omega)]
    walk_at "t"
    exact q
  · rw [if_neg h1] at q
    rw [decide_eq_false (show ¬ ((mxN w a : Nat) : Int) < (vl b : Nat) by omega)]
    walk_at "t"
    by_cases h2 : mxN w b ≤ vl a
    · rw [if_pos h2] at q
      refine wayT (decide_eq_true (by omega)) ?_
      walk_at "t"
      exact q
    · rw [if_neg h2] at q
      refine wayF (decide_eq_false (by omega)) ?_
      walk_at "t"
      exact q
theorem rel_le (hp : prog "read_relation" = some ⟨4, 11, rd_relationBody⟩) (ha : a.length = w) (hb : b.length = w) (q : Q (pairD [leT w a b]) st) : callN prog (k + 1) "read_relation" [.str (Str.ofString "<="), pairD a, pairD b, .int (fulN w : Nat)] st Q := by
  refine call_intro hp rfl ?_
  unfold rd_relationBody
  rw [pair1] at q
  unfold leT at q
  unfold pairD
  walk_at "t"
  rw [mx_cast ha]
  walk_at "t"
  rw [mx_cast hb]
  walk_at "t"
  by_cases h1 : mxN w a ≤ vl b
  · rw [if_pos h1] at q
    rw [decide_eq_true (show ((mxN w a : Nat) : Int) ≤ (vl b : Nat) by omega)]
    walk_at "t"
    exact q
  · rw [if_neg h1] at q
    rw [decide_eq_false (show ¬ ((mxN w a : Nat) : Int) ≤ (vl b : Nat) by omega)]
    walk_at "t"
    by_cases h2 : mxN w b < vl a
    · rw [if_pos h2] at q
      refine wayT (decide_eq_true (by omega)) ?_
      walk_at "t"
      exact q
    · rw [if_neg h2] at q
      refine wayF (decide_eq_false (by omega)) ?_
      walk_at "t"
      exact q
/-! sums -/
def maj (x y z : Tri) : Tri := if 2 ≤ (x == some true).toNat + (y == some true).toNat + (z == some true).toNat then some true else if 2 ≤ (x == some false).toNat + (y == some false).toNat + (z == some false).toNat then some false else none
def par (x y z : Tri) : Tri := match x, y, z with
  | some p, some q, some r => some ((p != q) != r)
  | _, _, _ => none
def carI (F G : Nat → Tri) (c : Tri) : Nat → Tri
  | 0 => c
  | k + 1 => maj (F k) (G k) (carI F G c k)
def sumF (F G : Nat → Tri) (c : Tri) (k : Nat) : Tri := par (F k) (G k) (carI F G c k)
theorem mk_snoc (f : Nat → Tri) (j : Nat) : mk3 (j + 1) f = mk3 j f ++ [f j] := by unfold mk3; rw [List.range_succ, List.map_append]; rfl
theorem kn_snoc (f : Nat → Tri) (j : Nat) : kn (mk3 (j + 1) f) = kn (mk3 j f) ||| ((f j).isSome.toNat <<< j) := by
  refine (kn_is fun k => ?_).symm
  rw [Nat.testBit_or, kn_bit, tb_mk, tb_mk, Nat.testBit_shiftLeft]
  rcases Nat.lt_trichotomy k j with h | h | h
  · rw [if_pos h, if_pos (by omega), decide_eq_false (by omega)]; simp
  · subst h
    rw [if_neg (by omega), if_pos (by omega), decide_eq_true (by omega), Nat.sub_self]
    rcases f k with _ | x
    · rfl
    · simp
  · rw [if_neg (by omega), if_neg (by omega), decide_eq_true (by omega)]
    have : ((f j).isSome.toNat).testBit (k - j) = false := by
      apply Nat.testBit_lt_two_pow
      have h2 := Nat.pow_le_pow_right (n := 2) (by decide) (show 1 ≤ k - j by omega)
      cases (f j).isSome <;> simp <;> omega
    rw [this]; rfl
theorem vl_snoc (f : Nat → Tri) (j : Nat) : vl (mk3 (j + 1) f) = vl (mk3 j f) ||| ((f j == some true).toNat <<< j) := by
  refine (vl_is fun k => ?_).symm
  rw [Nat.testBit_or, vl_bit, tb_mk, tb_mk, Nat.testBit_shiftLeft]
  rcases Nat.lt_trichotomy k j with h | h | h
  · rw [if_pos h, if_pos (by omega), decide_eq_false (by omega)]; simp
  · subst h
    rw [if_neg (by omega), if_pos (by omega), decide_eq_true (by omega), Nat.sub_self]
    rcases f k with _ | _ | _ <;> first | rfl | (show Nat.testBit 1 0 = true; decide) | (show Nat.testBit 0 0 = false; decide)
  · rw [if_neg (by omega), if_neg (by omega), decide_eq_true (by omega)]
    have : ((f j == some true).toNat).testBit (k - j) = false := by
      apply Nat.testBit_lt_two_pow
      have h2 := Nat.pow_le_pow_right (n := 2) (by decide) (show 1 ≤ k - j by omega)
      cases (f j == some true) <;> simp <;> omega
    rw [this]; rfl
theorem or_zero_shl (n j : Nat) : n ||| (0 <<< j) = n := by simp
def sumLoop : TS := sFor (iR1 (dVar 1)) (gName 10) (sSeq (sAsg (dTup (aCons (dOp andK (dOp shrK (dOp ixK (dVar 4) (dC (.int 0))) (dVar 10)) (dC (.int 1))) (aCons (dOp andK (dOp shrK (dOp ixK (dVar 4) (dC (.int 1))) (dVar 10)) (dC (.int 1))) (aNil)))) (gName 11)) (sSeq (sAsg (dTup (aCons (dOp andK (dOp shrK (dOp ixK (dVar 5) (dC (.int 0))) (dVar 10)) (dC (.int 1))) (aCons (dOp andK (dOp shrK (dOp ixK (dVar 5) (dC (.int 1))) (dVar 10)) (dC (.int 1))) (aNil)))) (gName 12)) (sSeq (sIf (tAnd (tTru (dOp ixK (dVar 11) (dC (.int 0)))) (tAnd (tTru (dOp ixK (dVar 12) (dC (.int 0)))) (tTru (dVar 9)))) (sSeq (sAug 7 orK (dOp shlK (dC (.int 1)) (dVar 10))) (sAug 8 orK (dOp shlK (dOp xorK (dOp xorK (dOp ixK (dVar 11) (dC (.int 1))) (dOp ixK (dVar 12) (dC (.int 1)))) (dVar 6)) (dVar 10)))) (sNext)) (sSeq (sAsg (dOp addK (dOp addK (dOp ixK (dVar 11) (dC (.int 1))) (dOp ixK (dVar 12) (dC (.int 1)))) (dIf (tTru (dVar 9)) (dVar 6) (dC (.int 0)))) (gName 13)) (sSeq (sAsg (dOp addK (dOp subK (dOp addK (dOp subK (dOp ixK (dVar 11) (dC (.int 0))) (dOp ixK (dVar 11) (dC (.int 1)))) (dOp ixK (dVar 12) (dC (.int 0)))) (dOp ixK (dVar 12) (dC (.int 1)))) (dIf (tTru (dVar 9)) (dOp subK (dC (.int 1)) (dVar 6)) (dC (.int 0)))) (gName 14)) (sSeq (sAsg (dB intB (aCons (dOrT (dCmp geC (dVar 13) (dC (.int 2))) (dCmp geC (dVar 14) (dC (.int 2)))) (aNil))) (gName 9)) (sAsg (dB intB (aCons (dCmp geC (dVar 13) (dC (.int 2))) (aNil))) (gName 6))))))))
theorem xor_small : ∀ x y : Bool, Builtin.bitXor ((x.toNat : Nat) : Int) ((y.toNat : Nat) : Int) = (((x != y).toNat : Nat) : Int) := by
  intro x y
  rw [xorN']
  cases x <;> cases y <;> rfl
theorem sum_loop {D0 : Ends} {o0 o2 o3 o10 o11 o12 o13 o14 : Option D} {n1 n2 m1 m2 : Nat} {F G : Nat → Tri} {c : Bool} (hw : w ≤ 8)
    (hF : ∀ k, k < w → n1.testBit k = (F k).isSome ∧ n2.testBit k = (F k == some true)) (hG : ∀ k, k < w → m1.testBit k = (G k).isSome ∧ m2.testBit k = (G k == some true))
    (q : ∀ p6 p9 p10 p11 p12 p13 p14, D0.nx [o0, some (.int (w : Nat)), o2, o3, some (.tup [.int (n1 : Nat), .int (n2 : Nat)]), some (.tup [.int (m1 : Nat), .int (m2 : Nat)]), p6, some (.int (kn (mk3 w (sumF F G (some c))) : Nat)), some (.int (vl (mk3 w (sumF F G (some c))) : Nat)), p9, p10, p11, p12, p13, p14] st) :
    sumLoop D0 [o0, some (.int (w : Nat)), o2, o3, some (.tup [.int (n1 : Nat), .int (n2 : Nat)]), some (.tup [.int (m1 : Nat), .int (m2 : Nat)]), some (.int (c.toNat : Nat)), some (.int 0), some (.int 0), some (.int 1), o10, o11, o12, o13, o14] st := by
  unfold sumLoop
  walk_at "s"
  refine ⟨by omega, by omega, ?_⟩
  refine for_rng (fun j σ st' => st' = st ∧ ∃ p10 p11 p12 p13 p14, σ = [o0, some (.int (w : Nat)), o2, o3, some (.tup [.int (n1 : Nat), .int (n2 : Nat)]), some (.tup [.int (m1 : Nat), .int (m2 : Nat)]), some (.int ((carI F G (some c) j == some true).toNat : Nat)), some (.int (kn (mk3 j (sumF F G (some c))) : Nat)), some (.int (vl (mk3 j (sumF F G (some c))) : Nat)), some (.int ((carI F G (some c) j).isSome.toNat : Nat)), p10, p11, p12, p13, p14]) ⟨rfl, o10, o11, o12, o13, o14, ?_⟩ (fun j σ st' hj ⟨es, p10, p11, p12, p13, p14, e⟩ N hN => ?_) (fun σ st' ⟨es, p10, p11, p12, p13, p14, e⟩ => ?_)
  · cases c <;> rfl
  · subst es; subst e
    refine ⟨trivial, ?_⟩
    rw [Int.zero_add]
    have hjw : j < w := by omega
    obtain ⟨f1, f2⟩ := hF j hjw
    obtain ⟨g1, g2⟩ := hG j hjw
    have ks := kn_snoc (sumF F G (some c)) j
    have vs := vl_snoc (sumF F G (some c)) j
    have es : sumF F G (some c) j = par (F j) (G j) (carI F G (some c) j) := rfl
    have ec : carI F G (some c) (j + 1) = maj (F j) (G j) (carI F G (some c) j) := rfl
    rw [es] at ks vs
    have cp : ∀ b : Bool, cPow ((b.toNat : Nat) : Int) (j : Nat) := fun b => ⟨by omega, by omega, by cases b <;> decide⟩
    have cp1 : cPow 1 (j : Nat) := ⟨by omega, by omega, by decide⟩
    walk_at "s"
    refine at_is rfl ?_
    walk_at "s"
    refine ⟨by omega, ?_⟩
    rw [Int.toNat_natCast, shrN]
    walk_at "s"
    rw [one_bit, f1]
    refine at_is rfl ?_
    walk_at "s"
    refine ⟨by omega, ?_⟩
    rw [Int.toNat_natCast, shrN]
    walk_at "s"
    rw [one_bit, f2]
    refine ⟨Nat.le_of_ble_eq_true rfl, ?_⟩
    walk_at "r"
    refine at_is rfl ?_
    walk_at "s"
    refine ⟨by omega, ?_⟩
    rw [Int.toNat_natCast, shrN]
    walk_at "s"
    rw [one_bit, g1]
    refine at_is rfl ?_
    walk_at "s"
    refine ⟨by omega, ?_⟩
    rw [Int.toNat_natCast, shrN]
    walk_at "s"
    rw [one_bit, g2]
    refine ⟨Nat.le_of_ble_eq_true rfl, ?_⟩
    walk_at "r"
    refine at_is rfl ?_
    have fin : ∀ (x9 x6 : Int) (p10 p11 p12 p13 p14 : Option D), x9 = ((maj (F j) (G j) (carI F G (some c) j)).isSome.toNat : Nat) → x6 = ((maj (F j) (G j) (carI F G (some c) j) == some true).toNat : Nat) → ∀ x7 x8 : Int, x7 = (kn (mk3 (j + 1) (sumF F G (some c))) : Nat) → x8 = (vl (mk3 (j + 1) (sumF F G (some c))) : Nat) → N [o0, some (.int (w : Nat)), o2, o3, some (.tup [.int (n1 : Nat), .int (n2 : Nat)]), some (.tup [.int (m1 : Nat), .int (m2 : Nat)]), some (.int x6), some (.int x7), some (.int x8), some (.int x9), p10, p11, p12, p13, p14] st' := by
      rintro x9 x6 p10 p11 p12 p13 p14 rfl rfl x7 x8 rfl rfl
      exact hN _ _ ⟨rfl, p10, p11, p12, p13, p14, by rw [ec]⟩
    generalize kn (mk3 (j + 1) (sumF F G (some c))) = kn1 at ks fin
    generalize vl (mk3 (j + 1) (sumF F G (some c))) = vl1 at vs fin
    generalize kn (mk3 j (sumF F G (some c))) = kn0 at ks ⊢
    generalize vl (mk3 j (sumF F G (some c))) = vl0 at vs ⊢
    generalize carI F G (some c) j = z at ks vs fin ⊢
    generalize F j = x at ks vs fin ⊢
    generalize G j = y at ks vs fin ⊢
    clear es ec f1 f2 g1 g2 hF hG hN q
    rcases x with _ | x <;> rcases y with _ | y <;> rcases z with _ | z
    case some.some.some =>
      walk_at "w"
      refine ⟨cp1, ?_⟩
      walk_at "w"
      rw [xor_small, xor_small]
      refine ⟨cp _, ?_⟩
      rw [Int.toNat_natCast, show (1 : Int) = ((1 : Nat) : Int) from rfl, shlN, shlN, orN]
      walk_at "w"
      rw [orN]
      have ks2 : kn1 = kn0 ||| 1 <<< j := ks
      have vs2 : vl1 = vl0 ||| ((some ((x != y) != z) == some true).toNat <<< j) := vs
      clear ks vs
      cases x <;> cases y <;> cases z <;> (walk_at "w"; exact fin _ _ _ _ _ _ _ rfl rfl _ _ (by rw [ks2]) (by rw [vs2]; rfl))
    all_goals
      have ks : kn1 = kn0 := ks.trans (or_zero_shl _ _)
      have vs : vl1 = vl0 := vs.trans (or_zero_shl _ _)
      subst ks; subst vs
      first
        | (cases x <;> cases y <;> (walk_at "w"; exact fin _ _ _ _ _ _ _ rfl rfl _ _ rfl rfl))
        | (cases x <;> cases z <;> (walk_at "w"; exact fin _ _ _ _ _ _ _ rfl rfl _ _ rfl rfl))
        | (cases y <;> cases z <;> (walk_at "w"; exact fin _ _ _ _ _ _ _ rfl rfl _ _ rfl rfl))
        | (cases x <;> (walk_at "w"; exact fin _ _ _ _ _ _ _ rfl rfl _ _ rfl rfl))
        | (cases y <;> (walk_at "w"; exact fin _ _ _ _ _ _ _ rfl rfl _ _ rfl rfl))
        | (cases z <;> (walk_at "w"; exact fin _ _ _ _ _ _ _ rfl rfl _ _ rfl rfl))
        | (walk_at "w"; exact fin _ _ _ _ _ _ _ rfl rfl _ _ rfl rfl)
  · subst es; subst e
    exact ⟨trivial, q _ _ _ _ _ _ _⟩
theorem ixr {n : Nat} {xs : List D} {d : D} {i : Int} (h : rdL st n xs) (h' : atD xs i = some d) (q : Q d st) : ixK (.ref n) (.int i) st Q := ⟨xs, d, .inl h, h', q⟩
theorem neg_bits {b : TriL} (kk : Nat) : (kn b).testBit kk = ((tb b kk).map not).isSome ∧ (ldiff (kn b) (vl b)).testBit kk = ((tb b kk).map not == some true) := by
  rw [ldiff_bit, kn_bit, vl_bit]
  rcases tb b kk with _ | _ | _ <;> exact ⟨rfl, rfl⟩
theorem sum_add (hp : prog "read_sum" = some ⟨3, 15, rd_sumBody⟩) (hg : prog "greatest" = some ⟨1, 1, greatestBody⟩) {n : Nat} (hw : w ≤ 8) (h : rdL st n [pairD a, pairD b]) (q : Q (pairD (mk3 w (sumF (tb a) (tb b) (some false)))) st) : callN prog (k + 2) "read_sum" [.str (Str.ofString "+"), .int (w : Nat), .ref n] st Q := by
  refine call_intro hp rfl ?_
  unfold rd_sumBody
  walk_at "s"
  refine greatest_ok hg (by omega) (by omega) ?_
  walk_at "r"
  refine ixr h rfl ?_
  walk_at "r"
  refine ixr h rfl ?_
  walk_at "d"
  refine Nxt.mk ?_
  walk_at "d"
  refine Nxt.mk ?_
  walk_at "d"
  refine Nxt.mk ?_
  walk_at "d"
  refine Nxt.mk ?_
  refine Red.red ?_
  refine sum_loop (F := tb a) (G := tb b) (c := false) hw (fun kk _ => ⟨kn_bit a kk, vl_bit a kk⟩) (fun kk _ => ⟨kn_bit b kk, vl_bit b kk⟩) (fun p6 p9 p10 p11 p12 p13 p14 => ?_)
  walk_at "t"
  exact q
theorem sum_sub (hp : prog "read_sum" = some ⟨3, 15, rd_sumBody⟩) (hg : prog "greatest" = some ⟨1, 1, greatestBody⟩) {n : Nat} (hw : w ≤ 8) (h : rdL st n [pairD a, pairD b]) (q : Q (pairD (mk3 w (sumF (tb a) (fun k => (tb b k).map not) (some true)))) st) : callN prog (k + 2) "read_sum" [.str (Str.ofString "-"), .int (w : Nat), .ref n] st Q := by
  refine call_intro hp rfl ?_
  unfold rd_sumBody
  walk_at "s"
  refine greatest_ok hg (by omega) (by omega) ?_
  walk_at "r"
  refine ixr h rfl ?_
  walk_at "r"
  refine ixr h rfl ?_
  unfold pairD
  walk_at "d"
  refine Nxt.mk ?_
  walk_at "d"
  rw [notandN]
  walk_at "d"
  refine Nxt.mk ?_
  walk_at "d"
  refine Nxt.mk ?_
  walk_at "d"
  refine Nxt.mk ?_
  walk_at "d"
  refine Nxt.mk ?_
  refine Red.red ?_
  refine sum_loop (F := tb a) (G := fun k => (tb b k).map not) (c := true) hw (fun kk _ => ⟨kn_bit a kk, vl_bit a kk⟩) (fun kk _ => neg_bits kk) (fun p6 p9 p10 p11 p12 p13 p14 => ?_)
  walk_at "t"
  exact q
theorem sum_neg (hp : prog "read_sum" = some ⟨3, 15, rd_sumBody⟩) (hg : prog "greatest" = some ⟨1, 1, greatestBody⟩) {n : Nat} (hw : w ≤ 8) (h : rdL st n [pairD b]) (q : Q (pairD (mk3 w (sumF (fun _ => some false) (fun k => (tb b k).map not) (some true)))) st) : callN prog (k + 2) "read_sum" [.str (Str.ofString "neg"), .int (w : Nat), .ref n] st Q := by
  refine call_intro hp rfl ?_
  unfold rd_sumBody
  walk_at "s"
  refine greatest_ok hg (by omega) (by omega) ?_
  rw [fullI_N]
  walk_at "r"
  refine ixr h rfl ?_
  walk_at "r"
  refine ixr h rfl ?_
  unfold pairD
  walk_at "d"
  refine Nxt.mk ?_
  walk_at "d"
  rw [notandN]
  walk_at "d"
  refine Nxt.mk ?_
  walk_at "d"
  refine Nxt.mk ?_
  walk_at "d"
  refine Nxt.mk ?_
  walk_at "d"
  refine Nxt.mk ?_
  refine Red.red ?_
  refine sum_loop (n2 := 0) (F := fun _ => some false) (G := fun k => (tb b k).map not) (c := true) hw (fun kk hk => ⟨by rw [fulN_bit, decide_eq_true hk]; rfl, by rw [Nat.zero_testBit]; rfl⟩) (fun kk _ => neg_bits kk) (fun p6 p9 p10 p11 p12 p13 p14 => ?_)
  walk_at "t"
  exact q
/-! products -/
def IsLow (w : Nat) (B : Nat → Bool) (l : Nat) : Prop := l ≤ w ∧ (∀ k, k < l → B k = true) ∧ (l < w → B l = false)
theorem IsLow.uniq {w : Nat} {B : Nat → Bool} {l m : Nat} (h : IsLow w B l) (h' : IsLow w B m) : l = m := by
  obtain ⟨a1, a2, a3⟩ := h
  obtain ⟨b1, b2, b3⟩ := h'
  rcases Nat.lt_trichotomy l m with h | h | h
  · have := b2 l h
    rw [a3 (by omega)] at this; cases this
  · exact h
  · have := a2 m h
    rw [b3 (by omega)] at this; cases this
def bothK (a b : TriL) (k : Nat) : Bool := (tb a k).isSome && (tb b k).isSome
def prodT (w : Nat) (a b : TriL) (low : Nat) : TriL := if allZ w a || allZ w b then mk3 w fun _ => some false else mk3 w fun k => if k < low then some ((vl a * vl b).testBit k) else none
theorem eq_tup {x y : List D} {r : Bool → Prop} (h1 : D.okd 60 (.tup x) = true) (h2 : D.okd 60 (.tup y) = true) (q : r (D.eqb (.tup x) (.tup y))) : eqC (.tup x) (.tup y) st r := ⟨h1, h2, q⟩
theorem prod_ok (hp : prog "read_product" = some ⟨3, 6, rd_productBody⟩) (hg : prog "greatest" = some ⟨1, 1, greatestBody⟩) (hw : w ≤ 8) (ha : a.length = w) (hb : b.length = w) {low : Nat} (hlow : IsLow w (bothK a b) low) (q : Q (pairD (prodT w a b low)) st) : callN prog (k + 2) "read_product" [.int (w : Nat), pairD a, pairD b] st Q := by
  refine call_intro hp rfl ?_
  unfold rd_productBody
  unfold prodT at q
  walk_at "s"
  refine greatest_ok hg (by omega) (by omega) ?_
  rw [fullI_N]
  walk_at "r"
  refine ⟨Nat.le_of_ble_eq_true rfl, ?_⟩
  refine eq_tup rfl rfl ?_
  rw [show (D.tup [.int (kn a : Nat), .int (vl a : Nat)]) = pairD a from rfl, zero_eq ha]
  walk_at "s"
  have zz : Q (.tup [.int (fulN w : Nat), .int 0]) st → Q (.tup [.int (fulN w : Nat), .int 0]) st := id
  cases h1 : allZ w a with
  | true =>
    rw [h1, Bool.true_or, if_pos rfl, zeros_pair] at q
    refine wayT rfl ?_
    refine wayT rfl ?_
    walk_at "t"
    exact q
  | false =>
    refine wayF rfl ?_
    walk_at "s"
    refine ⟨Nat.le_of_ble_eq_true rfl, ?_⟩
    refine eq_tup rfl rfl ?_
    rw [show (D.tup [.int (kn b : Nat), .int (vl b : Nat)]) = pairD b from rfl, zero_eq hb]
    walk_at "s"
    cases h2 : allZ w b with
    | true =>
      rw [h1, h2, Bool.or_true, if_pos rfl, zeros_pair] at q
      refine wayT rfl ?_
      walk_at "t"
      exact q
    | false =>
      rw [h1, h2, Bool.or_false, if_neg (by decide)] at q
      refine wayF rfl ?_
      walk_at "s"
      refine Nxt.mk ?_
      walk_at "s"
      refine Nxt.mk ?_
      refine seq_cut (fun σ st' => st' = st ∧ σ = [some (.int (w : Nat)), some (pairD a), some (pairD b), some (.int (fulN w : Nat)), some (.int (low : Nat)), none]) (fun N hN => ?_) (fun σ st' ⟨es, e⟩ => ?_)
      · refine while_by (fun m σ st' => st' = st ∧ ∃ l : Nat, m = w - l ∧ l ≤ w ∧ (∀ k, k < l → bothK a b k = true) ∧ σ = [some (.int (w : Nat)), some (pairD a), some (pairD b), some (.int (fulN w : Nat)), some (.int (l : Nat)), none]) (m := w) ⟨rfl, 0, rfl, by omega, fun k h => by omega, rfl⟩ (fun m σ st' ⟨es, l, em, hl, hb', e⟩ N' hN' => ?_)
        subst es; subst e
        walk_at "s"
        by_cases hlw : l < w
        · refine wayT (decide_eq_true (by omega)) ?_
          unfold pairD
          walk_at "s"
          refine at_is rfl ?_
          walk_at "s"
          refine ⟨by omega, ?_⟩
          rw [Int.toNat_natCast, shrN]
          walk_at "s"
          rw [one_bit, kn_bit]
          have fin : bothK a b l = false → N [some (.int (w : Nat)), some (pairD a), some (pairD b), some (.int (fulN w : Nat)), some (.int (l : Nat)), none] st' := fun hh => by
            have := hlow.uniq ⟨hl, hb', fun _ => hh⟩
            subst this
            exact hN _ _ ⟨rfl, rfl⟩
          cases hka : (tb a l).isSome with
          | false =>
            refine wayF rfl ?_
            refine wayF rfl ?_
            exact fin (by unfold bothK; rw [hka]; rfl)
          | true =>
            refine wayT rfl ?_
            walk_at "s"
            refine at_is rfl ?_
            walk_at "s"
            refine ⟨by omega, ?_⟩
            rw [Int.toNat_natCast, shrN]
            walk_at "s"
            rw [one_bit, kn_bit]
            cases hkb : (tb b l).isSome with
            | false =>
              refine wayF rfl ?_
              exact fin (by unfold bothK; rw [hka, hkb]; rfl)
            | true =>
              refine wayT rfl ?_
              walk_at "s"
              refine hN' (w - (l + 1)) _ _ (by omega) ⟨rfl, l + 1, rfl, by omega, fun k hk => ?_, rfl⟩
              rcases Nat.lt_or_eq_of_le (Nat.le_of_lt_succ hk) with h | h
              · exact hb' k h
              · subst h; unfold bothK; rw [hka, hkb]; rfl
        · refine wayF (decide_eq_false (by omega)) ?_
          refine wayF rfl ?_
          have hlw' : l = w := by omega
          have := hlow.uniq ⟨hl, hb', fun hh => absurd hh hlw⟩
          subst this
          exact hN _ _ ⟨rfl, rfl⟩
      · subst es; subst e
        have hl8 := hlow.1
        walk_at "s"
        refine ⟨cpow_small (by omega) (by omega), ?_⟩
        walk_at "r"
        have hf : (1 : Int) * 2 ^ ((low : Nat) : Int).toNat - 1 = (fulN low : Nat) := by
          rw [Int.toNat_natCast, Int.one_mul, pow_cast]
          have := Nat.two_pow_pos low
          unfold fulN
          omega
        rw [hf]
        unfold pairD
        walk_at "s"
        refine at_is rfl ?_
        walk_at "s"
        refine at_is rfl ?_
        walk_at "s"
        have h255 := small8 hw
        have hvb := vl_le hb
        refine ⟨cmul_small (by omega) (by omega), ?_⟩
        walk_at "s"
        rw [← Int.natCast_mul, andN]
        refine ⟨Nat.le_of_ble_eq_true rfl, ?_⟩
        refine pair_is (fun kk => ?_) (fun kk => ?_) q
        · rw [fulN_bit, tb_mk]
          by_cases hk : kk < low
          · rw [if_pos (by omega), if_pos hk, decide_eq_true hk]; rfl
          · rw [decide_eq_false hk, if_neg hk]; split <;> rfl
        · rw [Nat.testBit_and, fulN_bit, tb_mk]
          by_cases hk : kk < low
          · rw [if_pos (by omega), if_pos hk, decide_eq_true hk, Bool.and_true]
            cases (vl a * vl b).testBit kk <;> rfl
          · rw [decide_eq_false hk, if_neg hk, Bool.and_false]; split <;> rfl
/-! shifts -/
def shT (left : Bool) (w v : Nat) (a b : TriL) : TriL := if allK v b then (if left then mk3 w fun k => if vl b ≤ k then tb a (k - vl b) else some false else mk3 w fun k => if k + vl b < w then tb a (k + vl b) else some false) else if allZ w a then mk3 w fun _ => some false else mk3 w fun _ => none
theorem shift_ok {left : Bool} {v n : Nat} {op : Str} (hop : op = if left then Str.ofString "<<" else Str.ofString ">>") (hp : prog "read_shift" = some ⟨4, 7, rd_shiftBody⟩) (hw : w ≤ 8) (hv : v ≤ 8) (ha : a.length = w) (hb : b.length = v) (h : rdL st n [.int (fulN w : Nat), .int (fulN v : Nat)]) (q : Q (pairD (shT left w v a b)) st) : callN prog (k + 1) "read_shift" [.str op, pairD a, pairD b, .ref n] st Q := by
  refine call_intro hp rfl ?_
  unfold rd_shiftBody
  unfold shT at q
  walk_at "s"
  refine ixr h rfl ?_
  have eb : pairD b = .tup [.int (kn b : Nat), .int (vl b : Nat)] := rfl
  rw [eb]
  walk_at "r"
  refine at_is rfl ?_
  walk_at "s"
  refine ixr h rfl ?_
  walk_at "s"
  rw [allK_iff hb]
  cases h1 : allK v b with
  | false =>
    rw [h1, if_neg (by decide)] at q
    refine wayT rfl ?_
    walk_at "s"
    refine ⟨Nat.le_of_ble_eq_true rfl, ?_⟩
    rw [show pairD a = .tup [.int (kn a : Nat), .int (vl a : Nat)] from rfl]
    refine eq_tup rfl rfl ?_
    rw [show (D.tup [.int (kn a : Nat), .int (vl a : Nat)]) = pairD a from rfl, zero_eq ha]
    walk_at "s"
    cases h2 : allZ w a with
    | true =>
      rw [h2, if_pos rfl, zeros_pair] at q
      refine wayT rfl ?_
      walk_at "t"
      exact q
    | false =>
      rw [h2, if_neg (by decide), nones_pair] at q
      refine wayF rfl ?_
      walk_at "t"
      exact q
  | true =>
    rw [h1, if_pos rfl] at q
    refine wayF rfl ?_
    walk_at "r"
    refine at_is rfl ?_
    walk_at "s"
    by_cases h8 : 8 ≤ vl b
    · refine wayT (decide_eq_true (by omega)) ?_
      have e : (if left = true then mk3 w fun k => if vl b ≤ k then tb a (k - vl b) else some false else mk3 w fun k => if k + vl b < w then tb a (k + vl b) else some false) = mk3 w fun _ => some false := by
        cases left
        · rw [if_neg (by decide)]
          refine tri_ext (by rw [mk3_len, mk3_len]) fun kk hk => ?_
          rw [mk3_len] at hk
          rw [tb_mk, tb_mk, if_pos hk, if_pos hk, if_neg (by omega)]
        · rw [if_pos rfl]
          refine tri_ext (by rw [mk3_len, mk3_len]) fun kk hk => ?_
          rw [mk3_len] at hk
          rw [tb_mk, tb_mk, if_pos hk, if_pos hk, if_neg (by omega)]
      rw [e, zeros_pair] at q
      walk_at "t"
      exact q
    · refine wayF (decide_eq_false (by omega)) ?_
      walk_at "r"
      have cp : ∀ m : Nat, m ≤ 255 → cPow (m : Int) ((vl b : Nat) : Int) := fun m hm => ⟨by omega, by omega, by omega⟩
      have k255 := small8 hw
      have ka := kn_le ha
      have va := vl_le ha
      cases left with
      | true =>
        rw [if_pos rfl] at hop q
        subst hop
        refine ⟨by decide +kernel, by decide +kernel, wayT (by decide +kernel) ?_⟩
        walk_at "s"
        refine at_is rfl ?_
        walk_at "s"
        refine ⟨cp 1 (by decide), ?_⟩
        walk_at "r"
        have hf : (1 : Int) * 2 ^ ((vl b : Nat) : Int).toNat - 1 = (fulN (vl b) : Nat) := by
          rw [Int.toNat_natCast, Int.one_mul, pow_cast]
          have := Nat.two_pow_pos (vl b)
          unfold fulN
          omega
        rw [hf]
        unfold pairD
        walk_at "s"
        refine at_is rfl ?_
        walk_at "s"
        refine at_is rfl ?_
        walk_at "s"
        refine ⟨cp _ (by omega), ?_⟩
        walk_at "s"
        refine at_is rfl ?_
        walk_at "s"
        refine at_is rfl ?_
        walk_at "s"
        refine ⟨cp _ (by omega), ?_⟩
        walk_at "s"
        rw [Int.toNat_natCast, shlN, shlN, orN, andN, andN]
        refine ⟨Nat.le_of_ble_eq_true rfl, ?_⟩
        refine pair_is (fun kk => ?_) (fun kk => ?_) q
        all_goals
          simp only [Nat.testBit_and, Nat.testBit_or, Nat.testBit_shiftLeft, fulN_bit, kn_bit, vl_bit, tb_mk]
          by_cases hk : kk < w
          · rw [if_pos hk, decide_eq_true hk]
            by_cases hl : vl b ≤ kk
            · rw [if_pos hl, decide_eq_true (show kk ≥ vl b from hl)]
              try rw [decide_eq_false (show ¬ kk < vl b by omega)]
              simp
            · rw [if_neg hl, decide_eq_false (show ¬ kk ≥ vl b from hl)]
              try rw [decide_eq_true (show kk < vl b by omega)]
              rfl
          · rw [if_neg hk, decide_eq_false hk, Bool.and_false]; rfl
      | false =>
        rw [if_neg (by decide)] at hop q
        subst hop
        refine ⟨by decide +kernel, by decide +kernel, wayF (by decide +kernel) ?_⟩
        walk_at "r"
        refine at_is rfl ?_
        walk_at "s"
        refine ⟨by omega, ?_⟩
        rw [Int.toNat_natCast, shrN]
        walk_at "r"
        unfold pairD
        walk_at "s"
        refine at_is rfl ?_
        walk_at "s"
        refine at_is rfl ?_
        walk_at "s"
        refine ⟨by omega, ?_⟩
        rw [Int.toNat_natCast, shrN]
        walk_at "s"
        refine at_is rfl ?_
        walk_at "s"
        refine at_is rfl ?_
        walk_at "s"
        refine ⟨by omega, ?_⟩
        rw [Int.toNat_natCast, shrN]
        have hmv : fulN w >>> vl b = fulN (w - vl b) := by
          apply Nat.eq_of_testBit_eq
          intro kk
          rw [Nat.testBit_shiftRight, fulN_bit, fulN_bit]
          by_cases hk : vl b + kk < w
          · rw [decide_eq_true hk, decide_eq_true (by omega)]
          · rw [decide_eq_false hk, decide_eq_false (by omega)]
        rw [hmv, cast_sub (fulN_mono (by omega)), orN]
        walk_at "s"
        refine ⟨Nat.le_of_ble_eq_true rfl, ?_⟩
        refine pair_is (fun kk => ?_) (fun kk => ?_) q
        · rw [Nat.testBit_or, Nat.testBit_shiftRight, kn_bit, fulN_diff_bit (by omega), tb_mk, Nat.add_comm]
          by_cases hk : kk < w
          · rw [if_pos hk, decide_eq_true hk]
            by_cases hl : kk + vl b < w
            · rw [if_pos hl, decide_eq_true (by omega)]; simp
            · rw [if_neg hl, decide_eq_false (by omega)]; simp
          · rw [if_neg hk, decide_eq_false hk, tb_ge (by omega)]; rfl
        · rw [Nat.testBit_shiftRight, vl_bit, tb_mk, Nat.add_comm]
          by_cases hk : kk < w
          · rw [if_pos hk]
            by_cases hl : kk + vl b < w
            · rw [if_pos hl]
            · rw [if_neg hl, tb_ge (by omega)]; rfl
          · rw [if_neg hk, tb_ge (by omega)]
end
end Pd
end PartPdCubes

section PartPdCubes2
set_option Elab.async false
set_option linter.all false
set_option maxRecDepth 100000
set_option maxHeartbeats 1000000
namespace Pd
open PySem
local macro_rules | `(tactic| walk_at "s") => `(tactic| (repeat (refine Red.red ?_)))
local macro_rules | `(tactic| walk_at "r") => `(tactic| (repeat (first | refine Red.red ?_ | refine Nxt.mk ?_)))
local macro_rules | `(tactic| walk_at "t") => `(tactic| (repeat (first | refine Red.red ?_ | refine Nxt.mk ?_ | refine ⟨by decide +kernel, by decide +kernel, wayF (by decide +kernel) ?_⟩ | refine ⟨by decide +kernel, by decide +kernel, wayT (by decide +kernel) ?_⟩ | refine ⟨by decide +kernel, ?_⟩ | refine ⟨Nat.le_of_ble_eq_true rfl, ?_⟩ | refine at_is rfl ?_)))
local macro_rules | `(tactic| walk_at "w") => `(tactic| (repeat (first | refine Red.red ?_ | refine Nxt.mk ?_ | refine wayF rfl ?_ | refine wayT rfl ?_ | refine at_is rfl ?_)))
local macro_rules | `(tactic| walk_at "d") => `(tactic| (repeat (first | refine Red.red ?_ | refine ⟨by decide +kernel, by decide +kernel, wayF (by decide +kernel) ?_⟩ | refine ⟨by decide +kernel, by decide +kernel, wayT (by decide +kernel) ?_⟩ | refine ⟨by decide +kernel, ?_⟩ | refine ⟨Nat.le_of_ble_eq_true rfl, ?_⟩ | refine at_is rfl ?_)))
local instance inTupC2 {x : D} {xs : List D} {st : Store} {r : Bool → Prop} : Red (inC x (.tup xs) st r) (x.flat = true ∧ xs.all D.flat = true ∧ r (xs.any fun y => D.eqb y x)) := ⟨id⟩
/-! Pd: `read_one`, `read_nodes`, `read_term`. Own work. -/
def resultBody (c : Cl) : TS := sSeq (sAsg (dOp ixK (dVar 2) (dC (.int 0))) (gName 3)) (sSeq (sIf (tTru (dCmp eqC (dVar 0) (dC (.str "not")))) (sRet (dOp subK (dCall c "greatest" (aCons (dVar 1) (aNil))) (dVar 3))) (sNext)) (sSeq (sIf (tTru (dCmp eqC (dVar 0) (dC (.str "neg")))) (sRet (dOp andK (dUn negK (dVar 3)) (dCall c "greatest" (aCons (dVar 1) (aNil))))) (sNext)) (sSeq (sIf (tTru (dCmp eqC (dVar 0) (dC (.str "wide")))) (sRet (dOp andK (dVar 3) (dCall c "greatest" (aCons (dVar 1) (aNil))))) (sNext)) (sSeq (sIf (tTru (dCmp eqC (dVar 0) (dC (.str "pick")))) (sRet (dIf (tTru (dCmp eqC (dVar 3) (dC (.int 1)))) (dOp ixK (dVar 2) (dC (.int 1))) (dOp ixK (dVar 2) (dC (.int 2))))) (sNext)) (sSeq (sAsg (dOp ixK (dVar 2) (dC (.int 1))) (gName 4)) (sSeq (sIf (tTru (dCmp inC (dVar 0) (dTup (aCons (dC (.str "==")) (aCons (dC (.str "!=")) (aCons (dC (.str "<")) (aCons (dC (.str "<=")) (aNil)))))))) (sRet (dCall c "related" (aCons (dVar 0) (aCons (dVar 3) (aCons (dVar 4) (aNil)))))) (sNext)) (sSeq (sIf (tTru (dCmp inC (dVar 0) (dTup (aCons (dC (.str "<<")) (aCons (dC (.str ">>")) (aNil)))))) (sRet (dCall c "shifted" (aCons (dVar 0) (aCons (dVar 1) (aCons (dVar 3) (aCons (dVar 4) (aNil))))))) (sNext)) (sSeq (sIf (tTru (dCmp inC (dVar 0) (dTup (aCons (dC (.str "div")) (aCons (dC (.str "rem")) (aNil)))))) (sRet (dCall c "divided" (aCons (dVar 0) (aCons (dVar 3) (aCons (dVar 4) (aNil)))))) (sNext)) (sRet (dOp andK (dCall c "reckoned" (aCons (dVar 0) (aCons (dVar 3) (aCons (dVar 4) (aNil))))) (dCall c "greatest" (aCons (dVar 1) (aNil)))))))))))))
def dividedBody (c : Cl) : TS := sSeq (sIf (tTru (dCmp eqC (dVar 2) (dC (.int 0)))) (sRet (dC (.int 0))) (sNext)) (sSeq (sIf (tTru (dCmp eqC (dVar 0) (dC (.str "div")))) (sRet (dOp fdivK (dVar 1) (dVar 2))) (sNext)) (sRet (dOp subK (dVar 1) (dOp mulK (dVar 2) (dOp fdivK (dVar 1) (dVar 2))))))
structure CubeProg (prog : String → Option Def) : Prop where
  greatest : prog "greatest" = some ⟨1, 1, greatestBody⟩
  result : prog "result" = some ⟨3, 5, resultBody⟩
  divided : prog "divided" = some ⟨3, 3, dividedBody⟩
  needed : prog "needed_for" = some ⟨2, 5, neededBody⟩
  bits : prog "read_bits" = some ⟨3, 5, rd_bitsBody⟩
  sum : prog "read_sum" = some ⟨3, 15, rd_sumBody⟩
  product : prog "read_product" = some ⟨3, 6, rd_productBody⟩
  shift : prog "read_shift" = some ⟨4, 7, rd_shiftBody⟩
  pick : prog "read_pick" = some ⟨1, 5, rd_pickBody⟩
  wide : prog "read_wide" = some ⟨3, 3, rd_wideBody⟩
  relation : prog "read_relation" = some ⟨4, 11, rd_relationBody⟩
  one : prog "read_one" = some ⟨3, 5, rd_oneBody⟩
  nodes : prog "read_nodes" = some ⟨3, 10, rd_nodesBody⟩
  term : prog "read_term" = some ⟨3, 3, rd_termBody⟩
section
variable {prog : String → Option Def} {st : Store} {Q : K} {k : Nat}
theorem res_div (P : CubeProg prog) {o : Op} (ho : o = .div ∨ o = .rem) {w l r : Int} (l0 : 0 ≤ l) (l1 : l ≤ 255) (r0 : 0 ≤ r) (r1 : r ≤ 255) (q : Q (.int (v2 o w l r)) st) : callN prog (k + 2) "result" [.str (opS o), .int w, .tup [.int l, .int r]] st Q := by
  refine call_intro P.result rfl ?_
  unfold resultBody
  have dv : ∀ o, (o = Op.div ∨ o = .rem) → Q (.int (v2 o w l r)) st → callN prog (k + 1) "divided" [.str (opS o), .int l, .int r] st Q := by
    intro o ho q
    refine call_intro P.divided rfl ?_
    unfold dividedBody
    walk_at "t"
    by_cases h : r = 0
    · refine wayT (by simpa using h) ?_
      walk_at "t"
      have e : v2 o w l r = 0 := by rcases ho with rfl | rfl <;> exact if_pos h
      rw [e] at q
      exact q
    · refine wayF (by simpa using h) ?_
      walk_at "t"
      rcases ho with rfl | rfl
      · rw [show opS .div = Str.ofString "div" from rfl]
        walk_at "t"
        refine ⟨⟨by omega, by omega⟩, ?_⟩
        have e : v2 .div w l r = l / r := if_neg h
        rw [e] at q
        exact q
      · rw [show opS .rem = Str.ofString "rem" from rfl]
        walk_at "t"
        refine ⟨⟨by omega, by omega⟩, ?_⟩
        walk_at "t"
        have h1 : 0 ≤ l / r := Int.ediv_nonneg l0 r0
        have h2 : l / r ≤ l := Int.ediv_le_self r l0
        refine ⟨cmul_small h1 (by omega), ?_⟩
        walk_at "t"
        have e : v2 .rem w l r = l - r * (l / r) := if_neg h
        rw [e] at q
        exact q
  rcases ho with rfl | rfl
  · rw [show opS .div = Str.ofString "div" from rfl]
    walk_at "t"
    exact dv .div (.inl rfl) q
  · rw [show opS .rem = Str.ofString "rem" from rfl]
    walk_at "t"
    exact dv .rem (.inr rfl) q
/-- the lowest place where one of both is not known -/
def lowN (w : Nat) (B : Nat → Bool) : Nat → Nat
  | 0 => 0
  | k + 1 => if lowN w B k = k ∧ B k = true then k + 1 else lowN w B k
theorem lowN_is (w : Nat) (B : Nat → Bool) : ∀ k, IsLow k B (lowN w B k)
  | 0 => ⟨Nat.le_refl _, fun k h => absurd h (by unfold lowN; omega), fun h => absurd h (by unfold lowN; omega)⟩
  | k + 1 => by
    obtain ⟨a1, a2, a3⟩ := lowN_is w B k
    unfold lowN
    by_cases h : lowN w B k = k ∧ B k = true
    · rw [if_pos h]
      refine ⟨Nat.le_refl _, fun j hj => ?_, fun hh => absurd hh (by omega)⟩
      rcases Nat.lt_or_eq_of_le (Nat.le_of_lt_succ hj) with h' | h'
      · exact a2 j (by omega)
      · rw [h']; exact h.2
    · rw [if_neg h]
      refine ⟨by omega, a2, fun hh => ?_⟩
      by_cases e : lowN w B k = k
      · rw [e]
        cases hb : B k with
        | false => rfl
        | true => exact absurd ⟨e, hb⟩ h
      · exact a3 (by omega)
def rd1 (T : Nat → TriL) (cube : List (Nat × Nat)) : Nd → TriL
  | .word w v => ofN w.toNat v.toNat
  | .inp w i => match cube[i]? with
    | some p => mk3 w.toNat fun k => if p.1.testBit k then some (p.2.testBit k) else none
    | none => mk3 w.toNat fun _ => none
  | .one .not w a => mk3 w.toNat fun k => (tb (T a) k).map Bool.not
  | .one .neg w a => mk3 w.toNat (sumF (fun _ => some false) (fun k => (tb (T a) k).map Bool.not) (some true))
  | .one _ w a => mk3 w.toNat fun k => if k < (T a).length then tb (T a) k else some false
  | .two .add w a b => mk3 w.toNat (sumF (tb (T a)) (tb (T b)) (some false))
  | .two .sub w a b => mk3 w.toNat (sumF (tb (T a)) (fun k => (tb (T b) k).map Bool.not) (some true))
  | .two .mul w a b => prodT w.toNat (T a) (T b) (lowN 0 (bothK (T a) (T b)) w.toNat)
  | .two .and w a b => mk3 w.toNat fun k => gand (tb (T a) k) (tb (T b) k)
  | .two .or w a b => mk3 w.toNat fun k => gor (tb (T a) k) (tb (T b) k)
  | .two .xor w a b => mk3 w.toNat fun k => gxor (tb (T a) k) (tb (T b) k)
  | .two .shl w a b => shT true w.toNat (T b).length (T a) (T b)
  | .two .shr w a b => shT false w.toNat (T b).length (T a) (T b)
  | .two .div w a b => if allK w.toNat (T a) && allK w.toNat (T b) then ofN w.toNat (v2 .div w (vl (T a) : Nat) (vl (T b) : Nat)).toNat else mk3 w.toNat fun _ => none
  | .two .rem w a b => if allK w.toNat (T a) && allK w.toNat (T b) then ofN w.toNat (v2 .rem w (vl (T a) : Nat) (vl (T b) : Nat)).toNat else mk3 w.toNat fun _ => none
  | .two .eq _ a b => [eqT (T a).length (T a) (T b)]
  | .two .ne _ a b => [(eqT (T a).length (T a) (T b)).map Bool.not]
  | .two .lt _ a b => [ltT (T a).length (T a) (T b)]
  | .two _ _ a b => [leT (T a).length (T a) (T b)]
  | .pick w c a b => match tb (T c) 0 with | none => mk3 w.toNat fun k => if tb (T a) k = tb (T b) k then tb (T a) k else none | some true => T a | some false => T b
def GoodL (T : Nat → TriL) (ws : List Int) : Prop := ∀ (a : Nat) (w : Int), Has ws a w → (T a).length = w.toNat
theorem rd1_len {T : Nat → TriL} {ws : List Int} {cube : List (Nat × Nat)} {x : Nd} (G : Good ws x) (hT : GoodL T ws) : (rd1 T cube x).length = x.wd.toNat := by
  cases x with
  | word w v => exact ofN_len _ _
  | inp w i =>
    show (match cube[i]? with | some p => mk3 w.toNat _ | none => mk3 w.toNat _).length = w.toNat
    cases cube[i]? <;> exact mk3_len _ _
  | one o w a => cases o <;> exact mk3_len _ _
  | two o w a b =>
    obtain ⟨w0, w1, ho, u, v, ha, hb, g1, g2, g3⟩ := G
    have sh : ∀ l v a b, (shT l w.toNat v a b).length = w.toNat := fun l v a b => by
      unfold shT
      cases allK v b <;> cases l <;> cases allZ w.toNat a <;> exact mk3_len _ _
    cases o <;> try (cases ho; done)
    case mul =>
      show (prodT _ _ _ _).length = w.toNat
      unfold prodT
      split <;> exact mk3_len _ _
    case shl => exact sh _ _ _ _
    case shr => exact sh _ _ _ _
    case div =>
      show (if _ then ofN _ _ else mk3 _ _).length = w.toNat
      split
      · exact ofN_len _ _
      · exact mk3_len _ _
    case rem =>
      show (if _ then ofN _ _ else mk3 _ _).length = w.toNat
      split
      · exact ofN_len _ _
      · exact mk3_len _ _
    case eq => rw [show (Nd.two .eq w a b).wd = 1 from g1 rfl]; rfl
    case ne => rw [show (Nd.two .ne w a b).wd = 1 from g1 rfl]; rfl
    case lt => rw [show (Nd.two .lt w a b).wd = 1 from g1 rfl]; rfl
    case le => rw [show (Nd.two .le w a b).wd = 1 from g1 rfl]; rfl
    all_goals exact mk3_len _ _
  | pick w c a b =>
    obtain ⟨w0, w1, hc, ha, hb⟩ := G
    show (match tb (T c) 0 with | none => mk3 w.toNat _ | some true => T a | some false => T b).length = w.toNat
    rcases tb (T c) 0 with _ | _ | _
    · exact mk3_len _ _
    · exact hT b w hb
    · exact hT a w ha
theorem read_one_ok (P : CubeProg prog) {T : Nat → TriL} {ws : List Int} {cube : List (Nat × Nat)} {x : Nd} {np nf : Nat} (G : Good ws x) (hW : ∀ a w, Has ws a w → 1 ≤ w ∧ w ≤ 8) (hT : GoodL T ws) (hcw : ∀ o w a b, x = .two o w a b → cmp o = true → (T b).length = (T a).length) (hlf : leafB x = false) (h1 : rdL st np ((Pd.parts x).map fun p => pairD (T p))) (h2 : rdL st nf ((Pd.parts x).map fun p => .int (fulN (T p).length : Nat)))
    (q : Q (pairD (rd1 T cube x)) st) : callN prog (k + 3) "read_one" [x.dat, .ref np, .ref nf] st Q := by
  refine call_intro P.one rfl ?_
  unfold rd_oneBody
  cases x with
  | word w v => cases hlf
  | inp w i => cases hlf
  | one o w a =>
    obtain ⟨w0, w1, ho, u, ha, hu⟩ := G
    obtain ⟨W, rfl⟩ : ∃ W : Nat, w = W := ⟨w.toNat, by omega⟩
    have hla := hT a u ha
    have hub := hW a u ha
    have p1 : rdL st np [pairD (T a)] := h1
    have p2 : rdL st nf [.int (fulN (T a).length : Nat)] := h2
    cases o <;> try (cases ho; done)
    case not =>
      have hu := hu (by intro h; cases h)
      subst hu
      rw [Int.toNat_natCast] at hla
      rw [show (Nd.one .not (W : Int) a).dat = .tup [.str (Str.ofString "not"), .int (W : Int), .int (a : Int)] from rfl]
      walk_at "t"
      refine ixr p2 rfl ?_
      walk_at "t"
      refine ixr p1 rfl ?_
      unfold pairD
      walk_at "t"
      refine ixr p1 rfl ?_
      walk_at "t"
      refine ixr p1 rfl ?_
      walk_at "t"
      rw [cast_sub (fulN_le (vl_lt _)), andN]
      refine pair_is (fun kk => ?_) (fun kk => ?_) q
      · show _ = (tb (mk3 ((W : Int)).toNat _) kk).isSome
        rw [kn_bit, tb_mk, Int.toNat_natCast]
        by_cases hk : kk < W
        · rw [if_pos hk]; rcases tb (T a) kk with _ | _ | _ <;> rfl
        · rw [if_neg hk, tb_ge (by omega)]
      · show _ = (tb (mk3 ((W : Int)).toNat _) kk == some true)
        rw [Nat.testBit_and, compl_bit (vl_lt _), kn_bit, vl_bit, tb_mk, Int.toNat_natCast, hla]
        by_cases hk : kk < W
        · rw [if_pos hk, decide_eq_true hk]; rcases tb (T a) kk with _ | _ | _ <;> rfl
        · rw [if_neg hk, tb_ge (by omega), decide_eq_false hk]; rfl
    case neg =>
      have hu := hu (by intro h; cases h)
      subst hu
      rw [show (Nd.one .neg (W : Int) a).dat = .tup [.str (Str.ofString "neg"), .int (W : Int), .int (a : Int)] from rfl]
      walk_at "t"
      refine ixr p2 rfl ?_
      walk_at "t"
      exact sum_neg (k := k) P.sum P.greatest (by omega) p1 q
    case wide =>
      rw [show (Nd.one .wide (W : Int) a).dat = .tup [.str (Str.ofString "wide"), .int (W : Int), .int (a : Int)] from rfl]
      walk_at "t"
      refine ixr p2 rfl ?_
      walk_at "t"
      refine greatest_ok P.greatest (by omega) (by omega) ?_
      rw [fullI_N]
      walk_at "t"
      refine ixr p1 rfl ?_
      exact wide_ok (k := k + 1) P.wide rfl q
  | two o w a b =>
    obtain ⟨w0, w1, ho, u, v, ha, hb, g1, g2, g3⟩ := G
    obtain ⟨W, rfl⟩ : ∃ W : Nat, w = W := ⟨w.toNat, by omega⟩
    have hla := hT a u ha
    have hlb := hT b v hb
    have hub := hW a u ha
    have hvb := hW b v hb
    have p1 : rdL st np [pairD (T a), pairD (T b)] := h1
    have p2 : rdL st nf [.int (fulN (T a).length : Nat), .int (fulN (T b).length : Nat)] := h2
    cases o <;> try (cases ho; done)
    case and =>
      rw [show (Nd.two .and (W : Int) a b).dat = .tup [.str (Str.ofString "&"), .int (W : Int), .int (a : Int), .int (b : Int)] from rfl]
      have hu := g2 rfl
      subst hu
      rw [Int.toNat_natCast] at hla
      have hv := g3 rfl rfl
      subst hv
      rw [Int.toNat_natCast] at hlb
      walk_at "t"
      refine ixr p2 rfl ?_
      walk_at "t"
      refine ixr p1 rfl ?_
      walk_at "t"
      refine ixr p1 rfl ?_
      exact bits_and (k := k + 1) P.bits hla hlb q
    case or =>
      rw [show (Nd.two .or (W : Int) a b).dat = .tup [.str (Str.ofString "|"), .int (W : Int), .int (a : Int), .int (b : Int)] from rfl]
      have hu := g2 rfl
      subst hu
      rw [Int.toNat_natCast] at hla
      have hv := g3 rfl rfl
      subst hv
      rw [Int.toNat_natCast] at hlb
      walk_at "t"
      refine ixr p2 rfl ?_
      walk_at "t"
      refine ixr p1 rfl ?_
      walk_at "t"
      refine ixr p1 rfl ?_
      exact bits_or (k := k + 1) P.bits hla hlb q
    case xor =>
      rw [show (Nd.two .xor (W : Int) a b).dat = .tup [.str (Str.ofString "^"), .int (W : Int), .int (a : Int), .int (b : Int)] from rfl]
      have hu := g2 rfl
      subst hu
      rw [Int.toNat_natCast] at hla
      have hv := g3 rfl rfl
      subst hv
      rw [Int.toNat_natCast] at hlb
      walk_at "t"
      refine ixr p2 rfl ?_
      walk_at "t"
      refine ixr p1 rfl ?_
      walk_at "t"
      refine ixr p1 rfl ?_
      exact bits_xor (k := k + 1) P.bits hla hlb q
    case add =>
      rw [show (Nd.two .add (W : Int) a b).dat = .tup [.str (Str.ofString "+"), .int (W : Int), .int (a : Int), .int (b : Int)] from rfl]
      have hu := g2 rfl
      subst hu
      rw [Int.toNat_natCast] at hla
      have hv := g3 rfl rfl
      subst hv
      rw [Int.toNat_natCast] at hlb
      walk_at "t"
      refine ixr p2 rfl ?_
      walk_at "t"
      exact sum_add (k := k) P.sum P.greatest (by omega) p1 q
    case sub =>
      rw [show (Nd.two .sub (W : Int) a b).dat = .tup [.str (Str.ofString "-"), .int (W : Int), .int (a : Int), .int (b : Int)] from rfl]
      have hu := g2 rfl
      subst hu
      rw [Int.toNat_natCast] at hla
      have hv := g3 rfl rfl
      subst hv
      rw [Int.toNat_natCast] at hlb
      walk_at "t"
      refine ixr p2 rfl ?_
      walk_at "t"
      exact sum_sub (k := k) P.sum P.greatest (by omega) p1 q
    case mul =>
      rw [show (Nd.two .mul (W : Int) a b).dat = .tup [.str (Str.ofString "*"), .int (W : Int), .int (a : Int), .int (b : Int)] from rfl]
      have hu := g2 rfl
      subst hu
      rw [Int.toNat_natCast] at hla
      have hv := g3 rfl rfl
      subst hv
      rw [Int.toNat_natCast] at hlb
      walk_at "t"
      refine ixr p2 rfl ?_
      walk_at "t"
      refine ixr p1 rfl ?_
      walk_at "t"
      refine ixr p1 rfl ?_
      exact prod_ok (k := k) P.product P.greatest (by omega) hla hlb (lowN_is 0 _ W) q
    case shl =>
      rw [show (Nd.two .shl (W : Int) a b).dat = .tup [.str (Str.ofString "<<"), .int (W : Int), .int (a : Int), .int (b : Int)] from rfl]
      have hu := g2 rfl
      subst hu
      rw [Int.toNat_natCast] at hla
      walk_at "t"
      refine ixr p2 rfl ?_
      walk_at "t"
      refine ixr p1 rfl ?_
      walk_at "t"
      refine ixr p1 rfl ?_
      rw [hla] at p2
      walk_at "s"
      exact shift_ok (left := true) (k := k + 1) rfl P.shift (by omega) (by omega) hla rfl p2 q
    case shr =>
      rw [show (Nd.two .shr (W : Int) a b).dat = .tup [.str (Str.ofString ">>"), .int (W : Int), .int (a : Int), .int (b : Int)] from rfl]
      have hu := g2 rfl
      subst hu
      rw [Int.toNat_natCast] at hla
      walk_at "t"
      refine ixr p2 rfl ?_
      walk_at "t"
      refine ixr p1 rfl ?_
      walk_at "t"
      refine ixr p1 rfl ?_
      rw [hla] at p2
      walk_at "s"
      exact shift_ok (left := false) (k := k + 1) rfl P.shift (by omega) (by omega) hla rfl p2 q
    case div =>
      rw [show (Nd.two .div (W : Int) a b).dat = .tup [.str (Str.ofString "div"), .int (W : Int), .int (a : Int), .int (b : Int)] from rfl]
      have hu := g2 rfl
      subst hu
      rw [Int.toNat_natCast] at hla
      have hv := g3 rfl rfl
      subst hv
      rw [Int.toNat_natCast] at hlb
      walk_at "t"
      refine ixr p2 rfl ?_
      walk_at "t"
      have q : Q (pairD (if allK W (T a) && allK W (T b) then ofN W (v2 .div (W : Int) (vl (T a) : Nat) (vl (T b) : Nat)).toNat else mk3 W fun _ => none)) st := q
      have h8 := small8 (show W ≤ 8 by omega)
      have va := vl_le hla
      have vb := vl_le hlb
      refine ixr p1 rfl ?_
      rw [show (T a).length = W from hla]
      unfold pairD
      walk_at "t"
      rw [allK_iff hla]
      cases k1 : allK W (T a) with
      | false =>
        rw [k1, Bool.false_and, if_neg (by decide), nones_pair] at q
        refine wayF rfl ?_
        refine wayF rfl ?_
        walk_at "t"
        exact q
      | true =>
        refine wayT rfl ?_
        walk_at "t"
        refine ixr p1 rfl ?_
        unfold pairD
        walk_at "t"
        rw [allK_iff hlb]
        cases k2 : allK W (T b) with
        | false =>
          rw [k1, k2, Bool.and_false, if_neg (by decide), nones_pair] at q
          refine wayF rfl ?_
          walk_at "t"
          exact q
        | true =>
          rw [k1, k2, Bool.and_true, if_pos rfl] at q
          refine wayT rfl ?_
          walk_at "t"
          refine ixr p1 rfl ?_
          unfold pairD
          walk_at "t"
          refine ixr p1 rfl ?_
          unfold pairD
          walk_at "t"
          refine res_div (o := .div) (k := k) P (.inl rfl) (by omega) (by omega) (by omega) (by omega) ?_
          have hin := v2_in (o := .div) (w := (W : Int)) (l := (vl (T a) : Nat)) (r := (vl (T b) : Nat)) (by omega) (by omega) (fun _ => by rw [fullI_N]; omega) (fun h => by cases h) rfl
          rw [fullI_N] at hin
          obtain ⟨z, hz⟩ := nat_of hin.1
          rw [hz] at q hin ⊢
          rw [Int.toNat_natCast] at q
          walk_at "t"
          have hzl : z < 2 ^ W := by have := fulN_lt W; omega
          unfold pairD at q
          rw [ofN_kn, ofN_vl hzl] at q
          exact q
    case rem =>
      rw [show (Nd.two .rem (W : Int) a b).dat = .tup [.str (Str.ofString "rem"), .int (W : Int), .int (a : Int), .int (b : Int)] from rfl]
      have hu := g2 rfl
      subst hu
      rw [Int.toNat_natCast] at hla
      have hv := g3 rfl rfl
      subst hv
      rw [Int.toNat_natCast] at hlb
      walk_at "t"
      refine ixr p2 rfl ?_
      walk_at "t"
      have q : Q (pairD (if allK W (T a) && allK W (T b) then ofN W (v2 .rem (W : Int) (vl (T a) : Nat) (vl (T b) : Nat)).toNat else mk3 W fun _ => none)) st := q
      have h8 := small8 (show W ≤ 8 by omega)
      have va := vl_le hla
      have vb := vl_le hlb
      refine ixr p1 rfl ?_
      rw [show (T a).length = W from hla]
      unfold pairD
      walk_at "t"
      rw [allK_iff hla]
      cases k1 : allK W (T a) with
      | false =>
        rw [k1, Bool.false_and, if_neg (by decide), nones_pair] at q
        refine wayF rfl ?_
        refine wayF rfl ?_
        walk_at "t"
        exact q
      | true =>
        refine wayT rfl ?_
        walk_at "t"
        refine ixr p1 rfl ?_
        unfold pairD
        walk_at "t"
        rw [allK_iff hlb]
        cases k2 : allK W (T b) with
        | false =>
          rw [k1, k2, Bool.and_false, if_neg (by decide), nones_pair] at q
          refine wayF rfl ?_
          walk_at "t"
          exact q
        | true =>
          rw [k1, k2, Bool.and_true, if_pos rfl] at q
          refine wayT rfl ?_
          walk_at "t"
          refine ixr p1 rfl ?_
          unfold pairD
          walk_at "t"
          refine ixr p1 rfl ?_
          unfold pairD
          walk_at "t"
          refine res_div (o := .rem) (k := k) P (.inr rfl) (by omega) (by omega) (by omega) (by omega) ?_
          have hin := v2_in (o := .rem) (w := (W : Int)) (l := (vl (T a) : Nat)) (r := (vl (T b) : Nat)) (by omega) (by omega) (fun _ => by rw [fullI_N]; omega) (fun h => by cases h) rfl
          rw [fullI_N] at hin
          obtain ⟨z, hz⟩ := nat_of hin.1
          rw [hz] at q hin ⊢
          rw [Int.toNat_natCast] at q
          walk_at "t"
          have hzl : z < 2 ^ W := by have := fulN_lt W; omega
          unfold pairD at q
          rw [ofN_kn, ofN_vl hzl] at q
          exact q
    case eq =>
      rw [show (Nd.two .eq (W : Int) a b).dat = .tup [.str (Str.ofString "=="), .int (W : Int), .int (a : Int), .int (b : Int)] from rfl]
      walk_at "t"
      refine ixr p2 rfl ?_
      walk_at "t"
      refine ixr p1 rfl ?_
      walk_at "t"
      refine ixr p1 rfl ?_
      walk_at "t"
      exact rel_eq (k := k + 1) P.relation rfl (hcw .eq _ a b rfl rfl) q
    case ne =>
      rw [show (Nd.two .ne (W : Int) a b).dat = .tup [.str (Str.ofString "!="), .int (W : Int), .int (a : Int), .int (b : Int)] from rfl]
      walk_at "t"
      refine ixr p2 rfl ?_
      walk_at "t"
      refine ixr p1 rfl ?_
      walk_at "t"
      refine ixr p1 rfl ?_
      walk_at "t"
      exact rel_ne (k := k + 1) P.relation rfl (hcw .ne _ a b rfl rfl) q
    case lt =>
      rw [show (Nd.two .lt (W : Int) a b).dat = .tup [.str (Str.ofString "<"), .int (W : Int), .int (a : Int), .int (b : Int)] from rfl]
      walk_at "t"
      refine ixr p2 rfl ?_
      walk_at "t"
      refine ixr p1 rfl ?_
      walk_at "t"
      refine ixr p1 rfl ?_
      walk_at "t"
      exact rel_lt (k := k + 1) P.relation rfl (hcw .lt _ a b rfl rfl) q
    case le =>
      rw [show (Nd.two .le (W : Int) a b).dat = .tup [.str (Str.ofString "<="), .int (W : Int), .int (a : Int), .int (b : Int)] from rfl]
      walk_at "t"
      refine ixr p2 rfl ?_
      walk_at "t"
      refine ixr p1 rfl ?_
      walk_at "t"
      refine ixr p1 rfl ?_
      walk_at "t"
      exact rel_le (k := k + 1) P.relation rfl (hcw .le _ a b rfl rfl) q
  | pick w c a b =>
    obtain ⟨w0, w1, hc, ha, hb⟩ := G
    obtain ⟨W, rfl⟩ : ∃ W : Nat, w = W := ⟨w.toNat, by omega⟩
    rw [show (Nd.pick (W : Int) c a b).dat = .tup [.str (Str.ofString "pick"), .int (W : Int), .int (c : Int), .int (a : Int), .int (b : Int)] from rfl]
    have p1 : rdL st np [pairD (T c), pairD (T a), pairD (T b)] := h1
    have p2 : rdL st nf [.int (fulN (T c).length : Nat), .int (fulN (T a).length : Nat), .int (fulN (T b).length : Nat)] := h2
    walk_at "t"
    refine ixr p2 rfl ?_
    walk_at "t"
    exact pick_okC (k := k + 1) P.pick p1 (hT c 1 hc) (hT a _ ha) (hT b _ hb) q
end
/-! all nodes of a sheet -/
theorem rd1_congr {T U : Nat → TriL} {cube : List (Nat × Nat)} {x : Nd} (h : ∀ p ∈ Pd.parts x, T p = U p) : rd1 T cube x = rd1 U cube x := by
  cases x with
  | word w v => rfl
  | inp w i => rfl
  | one o w a =>
    have ha := h a (by simp [Pd.parts])
    cases o <;> simp only [rd1, ha]
  | two o w a b =>
    have ha := h a (by simp [Pd.parts])
    have hb := h b (by simp [Pd.parts])
    cases o <;> simp only [rd1, ha, hb]
  | pick w c a b =>
    have hc := h c (by simp [Pd.parts])
    have ha := h a (by simp [Pd.parts])
    have hb := h b (by simp [Pd.parts])
    simp only [rd1, ha, hb, hc]
def trL (cube : List (Nat × Nat)) (ns : List Nd) : List TriL := ns.foldl (fun fs x => fs ++ [rd1 (fun p => fs.getD p []) cube x]) []
def trT (cube : List (Nat × Nat)) (ns : List Nd) (k : Nat) : TriL := (trL cube ns).getD k []
theorem trL_snoc (cube : List (Nat × Nat)) (ns : List Nd) (x : Nd) : trL cube (ns ++ [x]) = trL cube ns ++ [rd1 (fun p => (trL cube ns).getD p []) cube x] := by
  unfold trL
  rw [List.foldl_append]
  rfl
theorem trL_len (cube : List (Nat × Nat)) (ns : List Nd) : (trL cube ns).length = ns.length := by
  generalize hn : ns.length = n
  induction n generalizing ns with
  | zero => rw [List.length_eq_zero_iff] at hn; subst hn; rfl
  | succ n ih =>
    rcases ns.eq_nil_or_concat with rfl | ⟨xs, x, e⟩
    · cases hn
    · rw [List.concat_eq_append] at e
      subst e
      rw [List.length_append, List.length_singleton] at hn
      rw [trL_snoc, List.length_append, List.length_singleton, ih xs (by omega)]
theorem trL_take (cube : List (Nat × Nat)) (ns : List Nd) (j : Nat) : trL cube (ns.take j) = (trL cube ns).take j := by
  generalize hn : ns.length = n
  induction n generalizing ns with
  | zero => rw [List.length_eq_zero_iff] at hn; subst hn; rw [List.take_nil]; exact (List.take_nil).symm
  | succ n ih =>
    rcases ns.eq_nil_or_concat with rfl | ⟨xs, x, e⟩
    · cases hn
    · rw [List.concat_eq_append] at e
      subst e
      rw [List.length_append, List.length_singleton] at hn
      have hl := trL_len cube xs
      rw [trL_snoc]
      by_cases e : j ≤ xs.length
      · rw [List.take_append_of_le_length e, List.take_append_of_le_length (by omega), ih xs (by omega)]
      · rw [List.take_of_length_le (by simp; omega), List.take_of_length_le (by simp; omega), trL_snoc]
theorem trT_eq {cube : List (Nat × Nat)} {ns : List Nd} (S : Sheet ns) {j : Nat} {x : Nd} (hx : ns[j]? = some x) : trT cube ns j = rd1 (trT cube ns) cube x := by
  have hj := (List.getElem?_eq_some_iff.mp hx).1
  have e1 : trL cube (ns.take (j + 1)) = trL cube (ns.take j) ++ [rd1 (fun p => (trL cube (ns.take j)).getD p []) cube x] := by
    rw [List.take_add_one, hx]
    exact trL_snoc _ _ _
  rw [trL_take, trL_take] at e1
  have e2 : (trL cube ns)[j]? = some (rd1 (fun p => ((trL cube ns).take j).getD p []) cube x) := by
    have h3 : ((trL cube ns).take (j + 1))[j]? = (trL cube ns)[j]? := List.getElem?_take_of_lt (by omega)
    rw [← h3, e1, List.getElem?_append_right (by rw [List.length_take, trL_len]; omega)]
    rw [List.length_take, trL_len, Nat.min_eq_left (by omega), Nat.sub_self]
    rfl
  unfold trT
  rw [List.getD_eq_getElem?_getD, e2]
  refine rd1_congr fun p hp => ?_
  have := S.part_lt hx p hp
  rw [List.getD_eq_getElem?_getD, List.getElem?_take_of_lt this, ← List.getD_eq_getElem?_getD]
theorem trT_len {cube : List (Nat × Nat)} {ns : List Nd} (S : Sheet ns) : ∀ j (hj : j < ns.length), (trT cube ns j).length = (ns[j]).wd.toNat := by
  intro j
  induction j using Nat.strongRecOn with
  | ind j ih =>
    intro hj
    have hx := List.getElem?_eq_getElem hj
    obtain ⟨S', G⟩ := S.pre hx
    rw [trT_eq S hx]
    refine rd1_len G fun a w ha => ?_
    have hal := Has.lt ha
    rw [List.length_map, List.length_take] at hal
    have haj : a < j := by omega
    rw [ih a haj (by omega)]
    unfold Has at ha
    rw [List.getElem?_map, List.getElem?_take_of_lt haj, List.getElem?_eq_getElem (by omega)] at ha
    have : (ns[a]'(by omega)).wd = w := by simpa using ha
    rw [this]
def CubeOk (cube : List (Nat × Nat)) : Prop := ∀ p ∈ cube, ∀ k, p.2.testBit k = true → p.1.testBit k = true
def pairI (p : Nat × Nat) : D := .tup [.int (p.1 : Nat), .int (p.2 : Nat)]
def CmpS (ns : List Nd) : Prop := ∀ (j : Nat) (o : Op) (w : Int) (a b : Nat), ns[j]? = some (.two o w a b) → cmp o = true → ∀ u v, Has (ns.map Nd.wd) a u → Has (ns.map Nd.wd) b v → u = v
section
variable {prog : String → Option Def} {st : Store} {Q : K} {k : Nat}
theorem lc_partsT {gd : Store → Prop} {ρ : Env} {te : TE} {g : TG} {h : Nat → D} (ps : List Nat) (hl : ps.length ≤ 3) (hg : ∀ acc, gd (st ++ [.lst acc]))
    (hs : ∀ p ∈ ps, ∀ (acc : List D) (N : D → Store → Prop), N (h p) (st ++ [.lst acc]) → g (.int (p : Int)) ρ (st ++ [.lst acc]) fun ρ2 st2 => te ρ2 st2 N)
    (hd : Q (.ref st.length) (st ++ [.lst (ps.map h)])) : lcLoop gd g tYes te ρ st.length Q (ps.map iN) [] (st ++ [.lst []]) :=
  lc_map ps iN h rfl (by simp [szl]; omega) hg hs hd
theorem read_nodes_ok (P : CubeProg prog) {cube : List (Nat × Nat)} {ns : List Nd} {ts L : List Nat} {n : Nat} (S : Sheet ns) (hcs : CmpS ns) (hl : ns.length ≤ 1000) (hcl : cube.length ≤ 1000) (hcu : CubeOk cube) (nd : Need ns ts L) (hL : rdL st n (L.map iN))
    (q : ∀ st' m K, Grw st st' → rdD st' m K → (∀ j ∈ L, valD K (.inl (j : Int)) = some (pairD (trT cube ns j))) → Q (.ref m) st') : callN prog (k + 4) "read_nodes" [.tup (ns.map Nd.dat), .ref n, .tup (cube.map pairI)] st Q := by
  refine call_intro P.nodes rfl ?_
  unfold rd_nodesBody
  walk_at "s"
  refine Nxt.mk ?_
  walk_at "s"
  have d1 := rdD_new (st := st) (kvs := [])
  refine it_at (rdL_app hL) ?_
  have hLl := nodup_le (nd.asc.imp (fun h => Nat.ne_of_lt h)) nd.lt
  refine for_map L iN rfl (fun i σ st' => ∃ o4 o5 o6 o7 o8 o9 K, σ = [some (.tup (ns.map Nd.dat)), some (.ref n), some (.tup (cube.map pairI)), some (.ref st.length), o4, o5, o6, o7, o8, o9] ∧ FraG st.length st st' ∧ rdD st' st.length K ∧ K.length ≤ i ∧ ∀ j ∈ L.take i, valD K (.inl (j : Int)) = some (pairD (trT cube ns j))) ⟨none, none, none, none, none, none, [], rfl, FraG.new, d1, by simp, by simp⟩ (fun i j σ st' hj ⟨o4, o5, o6, o7, o8, o9, K, e, f, hd, hkl, hK⟩ N hN => ?_) (fun σ st' ⟨o4, o5, o6, o7, o8, o9, K, e, f, hd, hkl, hK⟩ => ?_)
  · subst e
    refine ⟨.inl (f.grw.rd hL), ?_⟩
    have hjL := List.mem_of_getElem? hj
    have hjn := nd.lt j hjL
    have hx := List.getElem?_eq_getElem hjn
    have hil := (List.getElem?_eq_some_iff.mp hj).1
    obtain ⟨S', G⟩ := S.pre hx
    have hwd := S.wid j _ (has_wd hjn)
    have fin : ∀ (st2 : Store) (d : D) (o5 o6 o7 o8 o9 : Option D), Grw st' st2 → d = pairD (trT cube ns j) → setDK (.ref st.length) (.int (j : Int)) d st2 fun st3 => N [some (.tup (ns.map Nd.dat)), some (.ref n), some (.tup (cube.map pairI)), some (.ref st.length), some (.int (j : Int)), o5, o6, o7, o8, o9] st3 := by
      rintro st2 d o5 o6 o7 o8 o9 g rfl
      have hd2 := g.rdD hd
      refine setDI_at hd2 (by simp [szl]; omega) ?_
      refine hN _ _ ⟨_, _, _, _, _, _, putD K (.inl (j : Int)) (pairD (trT cube ns j)), rfl, (f.more g).setG, rdD_set hd2, by have := put_len K (.inl (j : Int)) (pairD (trT cube ns j)); omega, fun m hm => ?_⟩
      rw [List.take_add_one, hj] at hm
      rw [val_put]
      by_cases e : m = j
      · subst e; simp
      · have hm' : m ∈ L.take i := by simpa [e] using hm
        have : ¬ ((Sum.inl (m : Int) : Ky) = Sum.inl (j : Int)) := fun e' => by injection e' with e'; exact e (by omega)
        rw [if_neg this]
        exact hK m hm'
    unfold iN
    walk_at "s"
    refine at_is (at_nd hjn) ?_
    walk_at "r"
    obtain ⟨W, hW⟩ : ∃ W : Nat, (ns[j]).wd = W := ⟨(ns[j]).wd.toNat, by omega⟩
    rw [dat_eq, hW]
    refine at_is rfl ?_
    walk_at "s"
    refine greatest_ok P.greatest (by omega) (by omega) ?_
    rw [fullI_N]
    walk_at "s"
    refine Nxt.mk ?_
    have eT := trT_eq (cube := cube) S hx
    walk_at "s"
    refine at_is rfl ?_
    walk_at "s"
    refine ⟨name_ok _, by decide +kernel, ?_⟩
    rw [name_word]
    walk_at "s"
    cases hlf : leafB ns[j] with
    | true =>
      cases hy : ns[j] with
      | word w v =>
        rw [hy] at G hW eT
        have hW : w = W := hW
        subst hW
        refine wayT rfl ?_
        walk_at "s"
        refine at_is rfl ?_
        walk_at "s"
        refine ⟨Nat.le_of_ble_eq_true rfl, ?_⟩
        walk_at "s"
        refine fin _ _ _ _ _ _ _ (.refl _) ?_
        rw [eT]
        obtain ⟨z, rfl⟩ := nat_of G.2.2.1
        have hz := G.2.2.2
        rw [fullI_N] at hz
        show D.tup _ = pairD (ofN _ _)
        unfold pairD
        rw [Int.toNat_natCast, Int.toNat_natCast, ofN_kn, ofN_vl (by have := fulN_lt W; omega)]
      | inp w i =>
        rw [hy] at G hW eT
        have hW : w = W := hW
        subst hW
        have eT : trT cube ns j = (match cube[i]? with | some p => mk3 W fun k => if p.1.testBit k then some (p.2.testBit k) else none | none => mk3 W fun _ => none) := eT
        refine wayF rfl ?_
        walk_at "s"
        refine at_is rfl ?_
        walk_at "s"
        refine ⟨name_ok _, by decide +kernel, wayT (by show decide (Str.ofString "input" = Str.ofString "input") = true; decide +kernel) ?_⟩
        walk_at "t"
        rw [List.length_map]
        refine way (fun hh => ?_) (fun hh => ?_)
        · have h' : i < cube.length := by have := of_decide_eq_true hh; omega
          have hp : cube[i]? = some cube[i] := List.getElem?_eq_getElem h'
          rw [hp] at eT
          have hok := hcu _ (List.getElem_mem h')
          walk_at "s"
          refine at_is rfl ?_
          walk_at "s"
          refine at_is (atD_nat (by omega) (by rw [Int.toNat_natCast, List.getElem?_map, hp]; rfl)) ?_
          unfold pairI
          walk_at "t"
          rw [andN, andN]
          refine fin _ _ _ _ _ _ _ (.refl _) ?_
          rw [eT]
          refine pair_is (Q := fun d _ => d = _) (st := st') (fun kk => ?_) (fun kk => ?_) rfl
          · rw [Nat.testBit_and, fulN_bit, tb_mk]
            by_cases hk : kk < W
            · rw [if_pos hk, decide_eq_true hk, Bool.and_true]
              cases (cube[i]).1.testBit kk <;> rfl
            · rw [if_neg hk, decide_eq_false hk, Bool.and_false]; rfl
          · rw [Nat.testBit_and, fulN_bit, tb_mk]
            by_cases hk : kk < W
            · rw [if_pos hk, decide_eq_true hk, Bool.and_true]
              have := hok kk
              cases h1 : (cube[i]).1.testBit kk with
              | true => cases (cube[i]).2.testBit kk <;> rfl
              | false =>
                cases h2 : (cube[i]).2.testBit kk with
                | true => rw [this h2] at h1; cases h1
                | false => rfl
            · rw [if_neg hk, decide_eq_false hk, Bool.and_false]; rfl
        · have h' : ¬ i < cube.length := by have := of_decide_eq_false hh; omega
          rw [List.getElem?_eq_none (by omega)] at eT
          walk_at "t"
          rw [show Builtin.bitAnd 0 ((fulN W : Nat) : Int) = 0 by rw [← fullI_N]; unfold fullI; rw [and_maskZ, Int.zero_emod]]
          refine fin _ _ _ _ _ _ _ (.refl _) ?_
          rw [eT, nones_pair]
      | one o w a => rw [hy] at hlf; cases hlf
      | two o w a b => rw [hy] at hlf; cases hlf
      | pick w c a b => rw [hy] at hlf; cases hlf
    | false =>
      have hnw : isWord ns[j] = false := by cases hy : ns[j] <;> rw [hy] at hlf <;> first | rfl | cases hlf
      have hni : decide (nameOf ns[j] = Str.ofString "input") = false := by
        cases hy : ns[j] with
        | word w v => rw [hy] at hlf; cases hlf
        | inp w i => rw [hy] at hlf; cases hlf
        | one o w a => exact (opS_w o).2.2
        | two o w a c => exact (opS_w o).2.2
        | pick w c a b => exact (opS_w .pick).2.2
      obtain ⟨s0, ps, ed, el, ep⟩ := dat_leaf ns[j]
      have etl : tailOf ns[j] = (Pd.parts ns[j]).map iN := by
        have := ep hlf
        rw [dat_eq] at ed
        injection ed with ed
        injection ed with _ ed
        injection ed with _ ed
        rw [ed, this]
        rfl
      have hpin : ∀ p ∈ Pd.parts ns[j], p < j ∧ valD K (.inl (p : Int)) = some (pairD (trT cube ns p)) := fun p hpp => by
        have hpL := nd.cl j hjL _ hx p hpp
        have hpj := S.part_lt hx p hpp
        refine ⟨hpj, hK p ?_⟩
        obtain ⟨m, hm⟩ := List.mem_iff_getElem?.mp hpL
        have hmi : m < i := by
          rcases Nat.lt_or_ge m i with h | h
          · exact h
          · exfalso
            obtain ⟨a1, a2⟩ := List.getElem?_eq_some_iff.mp hm
            obtain ⟨b1, b2⟩ := List.getElem?_eq_some_iff.mp hj
            rcases Nat.lt_or_eq_of_le h with h | h
            · have := List.pairwise_iff_getElem.mp nd.asc i m b1 a1 h
              omega
            · subst h; omega
        rw [← List.getElem?_take_of_lt hmi] at hm
        exact List.mem_of_getElem? hm
      rw [hnw]
      refine wayF rfl ?_
      walk_at "s"
      refine at_is rfl ?_
      walk_at "s"
      refine ⟨name_ok _, by decide +kernel, wayF hni ?_⟩
      walk_at "s"
      have ec : cutD (D.str (nameOf ns[j]) :: .int (W : Int) :: tailOf ns[j]) (some 2) none = (Pd.parts ns[j]).map iN := by
        rw [cut_drop _ (by decide), ← etl]; rfl
      rw [ec]
      refine lc_partsT (h := fun p => pairD (trT cube ns p)) (Pd.parts ns[j]) (parts_le _) (fun _ => trivial) (fun p hpp acc N' hN' => ?_) ?_
      · walk_at "s"
        exact getAI_at (.inl (rdD_app hd)) (hpin p hpp).2 hN'
      · have hp1 := rdL_new (st := st') (xs := (Pd.parts ns[j]).map fun p => pairD (trT cube ns p))
        have g1 : Grw st' (st' ++ [C.lst ((Pd.parts ns[j]).map fun p => pairD (trT cube ns p))]) := .app (.refl _)
        generalize st' ++ [C.lst ((Pd.parts ns[j]).map fun p => pairD (trT cube ns p))] = st2 at hp1 g1 ⊢
        walk_at "r"
        rw [ec]
        refine lc_partsT (h := fun p => .int (fulN (trT cube ns p).length : Nat)) (Pd.parts ns[j]) (parts_le _) (fun _ => trivial) (fun p hpp acc N' hN' => ?_) ?_
        · have hpj := (hpin p hpp).1
          have hpn : p < ns.length := by omega
          have hwp := S.wid p _ (has_wd hpn)
          obtain ⟨U, hU⟩ : ∃ U : Nat, (ns[p]).wd = U := ⟨(ns[p]).wd.toNat, by omega⟩
          have hlen := trT_len (cube := cube) S p hpn
          rw [hU, Int.toNat_natCast] at hlen
          rw [hlen] at hN'
          walk_at "s"
          refine at_is (at_nd hpn) ?_
          refine wd_at ?_
          rw [hU]
          refine greatest_ok P.greatest (by omega) (by omega) ?_
          rw [fullI_N]
          exact hN'
        · walk_at "s"
          rw [← hW, ← dat_eq]
          have hall : GoodL (trT cube ns) ((ns.take j).map Nd.wd) := fun a w ha => by
            have hal := Has.lt ha
            rw [List.length_map, List.length_take] at hal
            have haj : a < j := by omega
            rw [trT_len S a (by omega)]
            unfold Has at ha
            rw [List.getElem?_map, List.getElem?_take_of_lt haj, List.getElem?_eq_getElem (by omega)] at ha
            have : (ns[a]'(by omega)).wd = w := by simpa using ha
            rw [this]
          refine read_one_ok (k := k) P (T := trT cube ns) (cube := cube) G (fun a w ha => S'.wid a w ha) hall (fun o w a b e hc => ?_) hlf (rdL_app hp1) rdL_new ?_
          · rw [e] at hx
            have ha : a < ns.length := by have := S.part_lt hx a (by simp [Pd.parts]); omega
            have hb : b < ns.length := by have := S.part_lt hx b (by simp [Pd.parts]); omega
            have := hcs j o w a b hx hc _ _ (has_wd ha) (has_wd hb)
            rw [trT_len S a ha, trT_len S b hb, this]
          · walk_at "s"
            exact fin _ _ _ _ _ _ _ (g1.app) (by rw [eT])
  · subst e
    refine ⟨.inl (f.grw.rd hL), ?_⟩
    walk_at "r"
    rw [List.take_length] at hK
    exact q st' st.length K f.grw hd hK
theorem read_term_ok (P : CubeProg prog) {cube : List (Nat × Nat)} {ns : List Nd} {t : Nat} (S : Sheet ns) (hcs : CmpS ns) (hl : ns.length ≤ 1000) (hcl : cube.length ≤ 1000) (hcu : CubeOk cube) (ht : t < ns.length)
    (q : ∀ st', Grw st st' → Q (pairD (trT cube ns t)) st') : callN prog (k + 5) "read_term" [.tup (ns.map Nd.dat), .tup (cube.map pairI), .int (t : Int)] st Q := by
  refine call_intro P.term rfl ?_
  unfold rd_termBody
  walk_at "s"
  refine ⟨Nat.le_of_ble_eq_true rfl, ?_⟩
  refine needed_ok (ts := [t]) P.needed S hl rdL_new (by simpa using ht) (by simp) (fun L st2 nd g2 hL hlt => ?_)
  walk_at "s"
  refine read_nodes_ok (k := k) P S hcs hl hcl hcu nd hL (fun st3 m K g3 hd hK => ?_)
  walk_at "s"
  exact getAI_at (.inl hd) (hK t (nd.has t (by simp))) (q st3 (((Grw.refl st).app.trans g2).trans g3))
end
end Pd
end PartPdCubes2

section PartPdCubes3
set_option Elab.async false
set_option linter.all false
set_option maxRecDepth 100000
set_option maxHeartbeats 1000000
namespace Pd
open PySem
/-! Pd: more known bits in a cube, more known bits in each term. Own work. -/
/-- what is known here is known there, with the same bit -/
def Le3 (x y : Tri) : Prop := x = none ∨ x = y
theorem Le3.refl (x : Tri) : Le3 x x := .inr rfl
theorem Le3.non (x : Tri) : Le3 none x := .inl rfl
theorem Le3.trans {x y z : Tri} (h : Le3 x y) (h' : Le3 y z) : Le3 x z := by
  rcases h with rfl | rfl
  · exact .inl rfl
  · exact h'
theorem Le3.some {x : Tri} {b : Bool} (h : Le3 (some b) x) : x = some b := by
  rcases h with h | h
  · cases h
  · exact h.symm
def LeL (t u : TriL) : Prop := t.length = u.length ∧ ∀ k, Le3 (tb t k) (tb u k)
theorem LeL.refl (t : TriL) : LeL t t := ⟨rfl, fun k => .refl _⟩
theorem LeL.trans {t u v : TriL} (h : LeL t u) (h' : LeL u v) : LeL t v := ⟨h.1.trans h'.1, fun k => (h.2 k).trans (h'.2 k)⟩
theorem mk3_le {w : Nat} {f g : Nat → Tri} (h : ∀ k, k < w → Le3 (f k) (g k)) : LeL (mk3 w f) (mk3 w g) := by
  refine ⟨by rw [mk3_len, mk3_len], fun k => ?_⟩
  rw [tb_mk, tb_mk]
  by_cases hk : k < w
  · rw [if_pos hk, if_pos hk]; exact h k hk
  · rw [if_neg hk, if_neg hk]; exact .refl _
theorem mk3_non {w : Nat} {t : TriL} (h : t.length = w) : LeL (mk3 w fun _ => none) t := by
  refine ⟨by rw [mk3_len, h], fun k => ?_⟩
  rw [tb_mk]
  split <;> exact .inl rfl
theorem gand_le {x y x' y' : Tri} (h : Le3 x x') (h' : Le3 y y') : Le3 (gand x y) (gand x' y') := by
  rcases h with rfl | rfl <;> rcases h' with rfl | rfl <;> (try rcases x with _ | _ | _) <;> (try rcases x' with _ | _ | _) <;> (try rcases y with _ | _ | _) <;> (try rcases y' with _ | _ | _) <;> first | exact .inl rfl | exact .inr rfl
theorem gor_le {x y x' y' : Tri} (h : Le3 x x') (h' : Le3 y y') : Le3 (gor x y) (gor x' y') := by
  rcases h with rfl | rfl <;> rcases h' with rfl | rfl <;> (try rcases x with _ | _ | _) <;> (try rcases x' with _ | _ | _) <;> (try rcases y with _ | _ | _) <;> (try rcases y' with _ | _ | _) <;> first | exact .inl rfl | exact .inr rfl
theorem gxor_le {x y x' y' : Tri} (h : Le3 x x') (h' : Le3 y y') : Le3 (gxor x y) (gxor x' y') := by
  rcases h with rfl | rfl <;> rcases h' with rfl | rfl <;> (try rcases x with _ | _ | _) <;> (try rcases x' with _ | _ | _) <;> (try rcases y with _ | _ | _) <;> (try rcases y' with _ | _ | _) <;> first | exact .inl rfl | exact .inr rfl
theorem not_le {x x' : Tri} (h : Le3 x x') : Le3 (x.map Bool.not) (x'.map Bool.not) := by
  rcases h with rfl | rfl
  · exact .inl rfl
  · exact .refl _
theorem par_le {x y z x' y' z' : Tri} (h : Le3 x x') (h1 : Le3 y y') (h2 : Le3 z z') : Le3 (par x y z) (par x' y' z') := by
  rcases h with rfl | rfl
  · exact .inl rfl
  rcases h1 with rfl | rfl
  · rcases x with _ | _ <;> exact .inl rfl
  rcases h2 with rfl | rfl
  · rcases x with _ | _ <;> rcases y with _ | _ <;> exact .inl rfl
  · exact .refl _
theorem maj_le {x y z x' y' z' : Tri} (h : Le3 x x') (h1 : Le3 y y') (h2 : Le3 z z') : Le3 (maj x y z) (maj x' y' z') := by
  have h := h
  rcases h with rfl | rfl <;> rcases h1 with rfl | rfl <;> rcases h2 with rfl | rfl <;> (try rcases x with _ | _ | _) <;> (try rcases x' with _ | _ | _) <;> (try rcases y with _ | _ | _) <;> (try rcases y' with _ | _ | _) <;> (try rcases z with _ | _ | _) <;> (try rcases z' with _ | _ | _) <;> first | exact .inl rfl | exact .inr rfl
theorem car_le {F G F' G' : Nat → Tri} {c : Tri} (hF : ∀ k, Le3 (F k) (F' k)) (hG : ∀ k, Le3 (G k) (G' k)) : ∀ k, Le3 (carI F G c k) (carI F' G' c k)
  | 0 => .refl _
  | k + 1 => maj_le (hF k) (hG k) (car_le hF hG k)
theorem sum_le {F G F' G' : Nat → Tri} {c : Tri} (hF : ∀ k, Le3 (F k) (F' k)) (hG : ∀ k, Le3 (G k) (G' k)) (k : Nat) : Le3 (sumF F G c k) (sumF F' G' c k) := par_le (hF k) (hG k) (car_le hF hG k)
section
variable {t u a b a' b' : TriL} {w v : Nat}
theorem allK_eq (h : LeL t u) (hl : t.length = w) (hk : allK w t = true) : t = u := by
  subst hl
  unfold allK at hk
  rw [List.all_eq_true] at hk
  refine tri_ext h.1 fun k hk' => ?_
  have h1 := hk k (List.mem_range.mpr hk')
  rcases h.2 k with h2 | h2
  · rw [h2] at h1; cases h1
  · exact h2
theorem allZ_K (hk : allZ w t = true) : allK w t = true := by
  unfold allZ at hk
  unfold allK
  rw [List.all_eq_true] at *
  intro k h
  have := hk k h
  cases hx : tb t k with
  | none => rw [hx] at this; cases this
  | some _ => rfl
theorem bits_le {m n : Nat} (h : ∀ k, m.testBit k = true → n.testBit k = true) : m ≤ n := by
  have e : m &&& n = m := by
    apply Nat.eq_of_testBit_eq
    intro k
    rw [Nat.testBit_and]
    cases hm : m.testBit k with
    | false => rfl
    | true => rw [h k hm]; rfl
  rw [← e]
  exact Nat.and_le_right
theorem vl_mono (h : LeL t u) : vl t ≤ vl u := bits_le fun k hk => by
  rw [vl_bit] at *
  rcases h.2 k with h2 | h2
  · rw [h2] at hk; cases hk
  · rw [← h2]; exact hk
theorem mx_bit (hl : t.length = w) (k : Nat) : (mxN w t).testBit k = (decide (k < w) && !(tb t k == some false)) := by
  subst hl
  unfold mxN
  rw [Nat.testBit_or, vl_bit, compl_bit (kn_lt t), kn_bit]
  by_cases hk : k < t.length
  · rw [decide_eq_true hk]
    rcases tb t k with _ | _ | _ <;> rfl
  · rw [decide_eq_false hk, tb_ge (by omega)]; rfl
theorem mx_anti (h : LeL t u) (hl : t.length = w) : mxN w u ≤ mxN w t := bits_le fun k hk => by
  rw [mx_bit (h.1.symm.trans hl)] at hk
  rw [mx_bit hl]
  rcases h.2 k with h2 | h2
  · rw [h2]
    simp only [Bool.and_eq_true] at hk
    rw [hk.1]; rfl
  · rw [h2]; exact hk
theorem vl_mx (hl : t.length = w) : vl t ≤ mxN w t := Nat.left_le_or
theorem lt_le (ha : LeL a a') (hb : LeL b b') (hla : a.length = w) (hlb : b.length = w) : Le3 (ltT w a b) (ltT w a' b') := by
  have h1 := vl_mono ha
  have h2 := vl_mono hb
  have h3 := mx_anti ha hla
  have h4 := mx_anti hb hlb
  have h5 := vl_mx (t := a') (ha.1.symm.trans hla)
  have h6 := vl_mx (t := b') (hb.1.symm.trans hlb)
  unfold ltT
  by_cases e1 : mxN w a < vl b
  · rw [if_pos e1, if_pos (by omega)]; exact .refl _
  · rw [if_neg e1]
    by_cases e2 : mxN w b ≤ vl a
    · rw [if_pos e2, if_neg (by omega), if_pos (by omega)]; exact .refl _
    · rw [if_neg e2]; exact .inl rfl
theorem le_le (ha : LeL a a') (hb : LeL b b') (hla : a.length = w) (hlb : b.length = w) : Le3 (leT w a b) (leT w a' b') := by
  have h1 := vl_mono ha
  have h2 := vl_mono hb
  have h3 := mx_anti ha hla
  have h4 := mx_anti hb hlb
  have h5 := vl_mx (t := a') (ha.1.symm.trans hla)
  have h6 := vl_mx (t := b') (hb.1.symm.trans hlb)
  unfold leT
  by_cases e1 : mxN w a ≤ vl b
  · rw [if_pos e1, if_pos (by omega)]; exact .refl _
  · rw [if_neg e1]
    by_cases e2 : mxN w b < vl a
    · rw [if_pos e2, if_neg (by omega), if_pos (by omega)]; exact .refl _
    · rw [if_neg e2]; exact .inl rfl
theorem unl_mono (ha : LeL a a') (hb : LeL b b') (h : unl w a b = true) : unl w a' b' = true := by
  unfold unl at *
  rw [List.any_eq_true] at *
  obtain ⟨k, hk, h⟩ := h
  refine ⟨k, hk, ?_⟩
  rcases ha.2 k with h1 | h1
  · rw [h1] at h; cases h
  rcases hb.2 k with h2 | h2
  · rw [h2] at h
    rcases hx : tb a k with _ | _ <;> rw [hx] at h <;> cases h
  rw [← h1, ← h2]; exact h
theorem eq_le (ha : LeL a a') (hb : LeL b b') (hla : a.length = w) (hlb : b.length = w) : Le3 (eqT w a b) (eqT w a' b') := by
  unfold eqT
  by_cases e1 : unl w a b = true
  · rw [if_pos e1, if_pos (unl_mono ha hb e1)]; exact .refl _
  · rw [if_neg e1]
    by_cases e2 : (allK w a && allK w b) = true
    · rw [Bool.and_eq_true] at e2
      obtain rfl := allK_eq ha hla e2.1
      obtain rfl := allK_eq hb hlb e2.2
      rw [if_neg e1]; exact .refl _
    · rw [if_neg e2]; exact .inl rfl
theorem sh_le {l : Bool} (ha : LeL a a') (hb : LeL b b') (hla : a.length = w) (hlb : b.length = v) : LeL (shT l w v a b) (shT l w v a' b') := by
  have lv : ∀ t u : TriL, (shT l w v t u).length = w := fun t u => by
    unfold shT
    cases allK v u <;> cases l <;> cases allZ w t <;> exact mk3_len _ _
  by_cases e1 : allK v b = true
  · obtain rfl := allK_eq hb hlb e1
    unfold shT
    rw [if_pos e1, if_pos e1]
    cases l with
    | true =>
      rw [if_pos rfl, if_pos rfl]
      exact mk3_le fun k _ => by split <;> first | exact ha.2 _ | exact .refl _
    | false =>
      rw [if_neg (by decide), if_neg (by decide)]
      exact mk3_le fun k _ => by split <;> first | exact ha.2 _ | exact .refl _
  · by_cases e2 : allZ w a = true
    · obtain rfl := allK_eq ha hla (allZ_K e2)
      have z : ∀ k, k < w → tb a k = some false := fun k hk => by
        unfold allZ at e2
        rw [List.all_eq_true] at e2
        simpa using e2 k (List.mem_range.mpr hk)
      have e : shT l w v a b = mk3 w fun _ => some false := by
        unfold shT
        rw [if_neg e1, if_pos e2]
      rw [e]
      refine ⟨by rw [mk3_len, lv], fun k => ?_⟩
      rw [tb_mk]
      by_cases hk : k < w
      · rw [if_pos hk]
        refine .inr ?_
        unfold shT
        by_cases e3 : allK v b' = true
        · rw [if_pos e3]
          cases l with
          | true =>
            rw [if_pos rfl, tb_mk, if_pos hk]
            split
            · rw [z _ (by omega)]
            · rfl
          | false =>
            rw [if_neg (by decide), tb_mk, if_pos hk]
            split
            · rename_i h; rw [z _ h]
            · rfl
        · rw [if_neg e3, if_pos e2, tb_mk, if_pos hk]
      · rw [if_neg hk]; exact .inl rfl
    · have e : shT l w v a b = mk3 w fun _ => none := by
        unfold shT
        rw [if_neg e1, if_neg e2]
      rw [e]
      exact mk3_non (lv _ _)
theorem mul_lowB {a b low k : Nat} (h : k < low) : ((a % 2 ^ low) * (b % 2 ^ low)).testBit k = (a * b).testBit k := by
  have e : ((a % 2 ^ low) * (b % 2 ^ low)) % 2 ^ low = (a * b) % 2 ^ low := (Nat.mul_mod a b (2 ^ low)).symm
  have h1 := Nat.testBit_mod_two_pow ((a % 2 ^ low) * (b % 2 ^ low)) low k
  rw [e, Nat.testBit_mod_two_pow, decide_eq_true h] at h1
  simpa using h1.symm
theorem vl_low {low : Nat} (h : LeL t u) (hk : ∀ k, k < low → (tb t k).isSome = true) : vl t % 2 ^ low = vl u % 2 ^ low := by
  apply Nat.eq_of_testBit_eq
  intro k
  rw [Nat.testBit_mod_two_pow, Nat.testBit_mod_two_pow, vl_bit, vl_bit]
  by_cases e : k < low
  · rcases h.2 k with h2 | h2
    · have := hk k e
      rw [h2] at this; cases this
    · rw [h2]
  · rw [decide_eq_false e]; rfl
theorem vl_lowZ {low : Nat} (h : LeL t u) (hk : ∀ k, k < low → (tb t k).isSome = true) (hl : low ≤ w) (hz : allZ w u = true) : vl t % 2 ^ low = 0 := by
  rw [vl_low h hk]
  apply Nat.eq_of_testBit_eq
  intro k
  rw [Nat.testBit_mod_two_pow, vl_bit, Nat.zero_testBit]
  by_cases e : k < low
  · unfold allZ at hz
    rw [List.all_eq_true] at hz
    have := hz k (List.mem_range.mpr (by omega))
    rw [show tb u k = some false by simpa using this]
    simp
  · rw [decide_eq_false e]; rfl
theorem prod_le (ha : LeL a a') (hb : LeL b b') (hla : a.length = w) (hlb : b.length = w) : LeL (prodT w a b (lowN 0 (bothK a b) w)) (prodT w a' b' (lowN 0 (bothK a' b') w)) := by
  have lv : ∀ t u l, (prodT w t u l).length = w := fun t u l => by
    unfold prodT
    split <;> exact mk3_len _ _
  obtain ⟨l1, l2, l3⟩ := lowN_is 0 (bothK a b) w
  obtain ⟨m1, m2, m3⟩ := lowN_is 0 (bothK a' b') w
  generalize lowN 0 (bothK a b) w = low at *
  generalize lowN 0 (bothK a' b') w = low' at *
  have ka : ∀ k, k < low → (tb a k).isSome = true := fun k hk => by
    have := l2 k hk
    unfold bothK at this
    rw [Bool.and_eq_true] at this; exact this.1
  have kb : ∀ k, k < low → (tb b k).isSome = true := fun k hk => by
    have := l2 k hk
    unfold bothK at this
    rw [Bool.and_eq_true] at this; exact this.2
  have up : ∀ {t u : TriL} {k : Nat}, LeL t u → (tb t k).isSome = true → (tb u k).isSome = true := fun h hk => by
    rcases h.2 _ with h2 | h2
    · rw [h2] at hk; cases hk
    · rw [← h2]; exact hk
  have hlow : low ≤ low' := by
    rcases Nat.lt_or_ge low' low with h | h
    · have h1 := m3 (by omega)
      unfold bothK at h1
      rw [up ha (ka _ h), up hb (kb _ h)] at h1
      cases h1
    · exact h
  by_cases e1 : (allZ w a || allZ w b) = true
  · have e2 : (allZ w a' || allZ w b') = true := by
      rw [Bool.or_eq_true] at *
      rcases e1 with h | h
      · rw [← allK_eq ha hla (allZ_K h)]; exact .inl h
      · rw [← allK_eq hb hlb (allZ_K h)]; exact .inr h
    unfold prodT
    rw [if_pos e1, if_pos e2]
    exact .refl _
  · have e : prodT w a b low = mk3 w fun k => if k < low then some ((vl a * vl b).testBit k) else none := by
      unfold prodT
      rw [if_neg e1]
    rw [e]
    by_cases e2 : (allZ w a' || allZ w b') = true
    · have e' : prodT w a' b' low' = mk3 w fun _ => some false := by
        unfold prodT
        rw [if_pos e2]
      rw [e']
      refine mk3_le fun k hk => ?_
      by_cases h : k < low
      · rw [if_pos h]
        refine .inr ?_
        rw [← mul_lowB h]
        rw [Bool.or_eq_true] at e2
        rcases e2 with h2 | h2
        · rw [vl_lowZ ha ka l1 h2, Nat.zero_mul, Nat.zero_testBit]
        · rw [vl_lowZ hb kb l1 h2, Nat.mul_zero, Nat.zero_testBit]
      · rw [if_neg h]; exact .inl rfl
    · have e' : prodT w a' b' low' = mk3 w fun k => if k < low' then some ((vl a' * vl b').testBit k) else none := by
        unfold prodT
        rw [if_neg e2]
      rw [e']
      refine mk3_le fun k hk => ?_
      by_cases h : k < low
      · rw [if_pos h, if_pos (by omega)]
        refine .inr ?_
        rw [← mul_lowB h, ← mul_lowB (a := vl a') h, vl_low ha ka, vl_low hb kb]
      · rw [if_neg h]; exact .inl rfl
theorem part_le {o : Op} (ha : LeL a a') (hb : LeL b b') (hla : a.length = w) (hlb : b.length = w) : LeL (if allK w a && allK w b then ofN w (v2 o w (vl a : Nat) (vl b : Nat)).toNat else mk3 w fun _ => none) (if allK w a' && allK w b' then ofN w (v2 o w (vl a' : Nat) (vl b' : Nat)).toNat else mk3 w fun _ => none) := by
  by_cases e : (allK w a && allK w b) = true
  · rw [Bool.and_eq_true] at e
    obtain rfl := allK_eq ha hla e.1
    obtain rfl := allK_eq hb hlb e.2
    exact .refl _
  · rw [if_neg e]
    refine mk3_non ?_
    split
    · exact ofN_len _ _
    · exact mk3_len _ _
theorem wide_le (ha : LeL a a') : LeL (mk3 w fun k => if k < a.length then tb a k else some false) (mk3 w fun k => if k < a'.length then tb a' k else some false) := by
  rw [ha.1]
  refine mk3_le fun k _ => ?_
  split
  · exact ha.2 k
  · exact .refl _
theorem pick_le {c c' : TriL} (hc : LeL c c') (ha : LeL a a') (hb : LeL b b') (hla : a.length = w) (hlb : b.length = w) : LeL (match tb c 0 with | none => mk3 w fun k => if tb a k = tb b k then tb a k else none | some true => a | some false => b) (match tb c' 0 with | none => mk3 w fun k => if tb a' k = tb b' k then tb a' k else none | some true => a' | some false => b') := by
  rcases hc.2 0 with h | h
  · rw [h]
    rcases tb c' 0 with _ | _ | _
    · refine mk3_le fun k _ => ?_
      by_cases e : tb a k = tb b k
      · rw [if_pos e]
        rcases ha.2 k with h2 | h2
        · rw [h2]; exact .inl rfl
        · rcases hb.2 k with h3 | h3
          · rw [e, h3]; exact .inl rfl
          · rw [if_pos (by rw [← h2, ← h3, e])]; exact ha.2 k
      · rw [if_neg e]; exact .inl rfl
    · refine ⟨by rw [mk3_len, ← hb.1, hlb], fun k => ?_⟩
      rw [tb_mk]
      by_cases hk : k < w
      · rw [if_pos hk]
        by_cases e : tb a k = tb b k
        · rw [if_pos e, e]; exact hb.2 k
        · rw [if_neg e]; exact .inl rfl
      · rw [if_neg hk]; exact .inl rfl
    · refine ⟨by rw [mk3_len, ← ha.1, hla], fun k => ?_⟩
      rw [tb_mk]
      by_cases hk : k < w
      · rw [if_pos hk]
        by_cases e : tb a k = tb b k
        · rw [if_pos e]; exact ha.2 k
        · rw [if_neg e]; exact .inl rfl
      · rw [if_neg hk]; exact .inl rfl
  · rw [← h]
    rcases tb c 0 with _ | _ | _
    · refine mk3_le fun k _ => ?_
      by_cases e : tb a k = tb b k
      · rw [if_pos e]
        rcases ha.2 k with h2 | h2
        · rw [h2]; exact .inl rfl
        · rcases hb.2 k with h3 | h3
          · rw [e, h3]; exact .inl rfl
          · rw [if_pos (by rw [← h2, ← h3, e])]; exact ha.2 k
      · rw [if_neg e]; exact .inl rfl
    · exact hb
    · exact ha
end
end Pd
end PartPdCubes3

section PartPdCubes4
set_option Elab.async false
set_option linter.all false
set_option maxRecDepth 100000
set_option maxHeartbeats 1000000
namespace Pd
open PySem
/-! Pd: terms in cubes: more known, more read; the words that fit. Own work. -/
def trC (p : Nat × Nat) (k : Nat) : Tri := if p.1.testBit k then some (p.2.testBit k) else none
def LeC (c c' : List (Nat × Nat)) : Prop := c.length = c'.length ∧ ∀ (i : Nat) p p', c[i]? = some p → c'[i]? = some p' → ∀ k, Le3 (trC p k) (trC p' k)
theorem one_le {x y : Tri} (h : Le3 x y) : LeL [x] [y] := ⟨rfl, fun k => by
  cases k with
  | zero => exact h
  | succ k => exact .inl rfl⟩
theorem inp_le {c c' : List (Nat × Nat)} (h : LeC c c') (w i : Nat) : LeL (match c[i]? with | some p => mk3 w fun k => if p.1.testBit k then some (p.2.testBit k) else none | none => mk3 w fun _ => none) (match c'[i]? with | some p => mk3 w fun k => if p.1.testBit k then some (p.2.testBit k) else none | none => mk3 w fun _ => none) := by
  rcases Nat.lt_or_ge i c.length with hi | hi
  · have hi' : i < c'.length := by rw [← h.1]; exact hi
    have e1 := List.getElem?_eq_getElem hi
    have e2 := List.getElem?_eq_getElem hi'
    rw [e1, e2]
    exact mk3_le fun k _ => h.2 i _ _ e1 e2 k
  · rw [List.getElem?_eq_none hi, List.getElem?_eq_none (by rw [← h.1]; exact hi)]
    exact .refl _
theorem rd1_le {T T' : Nat → TriL} {ws : List Int} {c c' : List (Nat × Nat)} {x : Nd} (G : Good ws x) (hT : GoodL T ws) (h : ∀ p ∈ Pd.parts x, LeL (T p) (T' p)) (hcw : ∀ o w a b, x = .two o w a b → cmp o = true → (T b).length = (T a).length) (hc : LeC c c') : LeL (rd1 T c x) (rd1 T' c' x) := by
  cases x with
  | word w v => exact .refl _
  | inp w i => exact inp_le hc _ _
  | one o w a =>
    have ha := h a (by simp [Pd.parts])
    cases o
    case not => exact mk3_le fun k _ => not_le (ha.2 k)
    case neg => exact mk3_le fun k _ => sum_le (fun _ => .refl _) (fun k => not_le (ha.2 k)) k
    all_goals exact wide_le ha
  | two o w a b =>
    have ha := h a (by simp [Pd.parts])
    have hb := h b (by simp [Pd.parts])
    obtain ⟨w0, w1, ho, u, v, ga, gb, g1, g2, g3⟩ := G
    obtain ⟨W, rfl⟩ : ∃ W : Nat, w = W := ⟨w.toNat, by omega⟩
    have hla := hT a u ga
    have hlb := hT b v gb
    cases o <;> try (cases ho; done)
    case add => exact mk3_le fun k _ => sum_le ha.2 hb.2 k
    case sub => exact mk3_le fun k _ => sum_le ha.2 (fun k => not_le (hb.2 k)) k
    case mul =>
      have hu := g2 rfl
      subst hu
      have hv := g3 rfl rfl
      subst hv
      exact prod_le ha hb hla hlb
    case and => exact mk3_le fun k _ => gand_le (ha.2 k) (hb.2 k)
    case or => exact mk3_le fun k _ => gor_le (ha.2 k) (hb.2 k)
    case xor => exact mk3_le fun k _ => gxor_le (ha.2 k) (hb.2 k)
    case shl =>
      have hu := g2 rfl
      subst hu
      show LeL (shT true _ (T b).length (T a) (T b)) (shT true _ (T' b).length (T' a) (T' b))
      rw [← hb.1]
      exact sh_le ha hb hla rfl
    case shr =>
      have hu := g2 rfl
      subst hu
      show LeL (shT false _ (T b).length (T a) (T b)) (shT false _ (T' b).length (T' a) (T' b))
      rw [← hb.1]
      exact sh_le ha hb hla rfl
    case div =>
      have hu := g2 rfl
      subst hu
      have hv := g3 rfl rfl
      subst hv
      exact part_le (o := .div) (w := W) ha hb hla hlb
    case rem =>
      have hu := g2 rfl
      subst hu
      have hv := g3 rfl rfl
      subst hv
      exact part_le (o := .rem) (w := W) ha hb hla hlb
    case eq =>
      show LeL [eqT (T a).length (T a) (T b)] [eqT (T' a).length (T' a) (T' b)]
      rw [← ha.1]
      exact one_le (eq_le ha hb rfl (hcw _ _ _ _ rfl rfl))
    case ne =>
      show LeL [(eqT (T a).length (T a) (T b)).map Bool.not] [(eqT (T' a).length (T' a) (T' b)).map Bool.not]
      rw [← ha.1]
      exact one_le (not_le (eq_le ha hb rfl (hcw _ _ _ _ rfl rfl)))
    case lt =>
      show LeL [ltT (T a).length (T a) (T b)] [ltT (T' a).length (T' a) (T' b)]
      rw [← ha.1]
      exact one_le (lt_le ha hb rfl (hcw _ _ _ _ rfl rfl))
    case le =>
      show LeL [leT (T a).length (T a) (T b)] [leT (T' a).length (T' a) (T' b)]
      rw [← ha.1]
      exact one_le (le_le ha hb rfl (hcw _ _ _ _ rfl rfl))
  | pick w c a b =>
    obtain ⟨w0, w1, gc, ga, gb⟩ := G
    exact pick_le (h c (by simp [Pd.parts])) (h a (by simp [Pd.parts])) (h b (by simp [Pd.parts])) (hT a _ ga) (hT b _ gb)
/-- what each node's parts are like, in a sheet -/
theorem parts_at {c : List (Nat × Nat)} {ns : List Nd} (S : Sheet ns) (hcs : CmpS ns) {j : Nat} {x : Nd} (hx : ns[j]? = some x) : Good ((ns.take j).map Nd.wd) x ∧ GoodL (trT c ns) ((ns.take j).map Nd.wd) ∧ (∀ p ∈ Pd.parts x, p < j) ∧ ∀ o w a b, x = .two o w a b → cmp o = true → (trT c ns b).length = (trT c ns a).length := by
  have hjn := (List.getElem?_eq_some_iff.mp hx).1
  obtain ⟨S', G⟩ := S.pre hx
  refine ⟨G, fun a w ha => ?_, fun p hp => S.part_lt hx p hp, fun o w a b e hc => ?_⟩
  · have hal := Has.lt ha
    rw [List.length_map, List.length_take] at hal
    have haj : a < j := by omega
    rw [trT_len S a (by omega)]
    unfold Has at ha
    rw [List.getElem?_map, List.getElem?_take_of_lt haj, List.getElem?_eq_getElem (by omega)] at ha
    have : (ns[a]'(by omega)).wd = w := by simpa using ha
    rw [this]
  · rw [e] at hx
    have ha : a < ns.length := by have := S.part_lt hx a (by simp [Pd.parts]); omega
    have hb : b < ns.length := by have := S.part_lt hx b (by simp [Pd.parts]); omega
    have := hcs j o w a b hx hc _ _ (has_wd ha) (has_wd hb)
    rw [trT_len S a ha, trT_len S b hb, this]
/-- more known in the cube: more known of each term -/
theorem trT_le {c c' : List (Nat × Nat)} {ns : List Nd} (S : Sheet ns) (hcs : CmpS ns) (hc : LeC c c') (j : Nat) : j < ns.length → LeL (trT c ns j) (trT c' ns j) := by
  induction j using Nat.strongRecOn with
  | _ j ih =>
    intro hj
    have hx := List.getElem?_eq_getElem hj
    rw [trT_eq S hx, trT_eq S hx]
    obtain ⟨G, hT, hp, hcw⟩ := parts_at (c := c) S hcs hx
    exact rd1_le G hT (fun p hpp => ih p (hp p hpp) (by have := hp p hpp; omega)) hcw hc
end Pd
end PartPdCubes4

section PartPdCubes5
set_option Elab.async false
set_option linter.all false
set_option maxRecDepth 100000
set_option maxHeartbeats 1000000
namespace Pd
open PySem
/-! Pd: terms of known words are read whole. Own work. -/
theorem ofN_mk (w x : Nat) : ofN w x = mk3 w fun k => some (x.testBit k) := rfl
theorem tb_ofN (w x k : Nat) : tb (ofN w x) k = if k < w then some (x.testBit k) else none := by rw [ofN_mk, tb_mk]
theorem mk_congrB {f g : Nat → Tri} {w : Nat} (h : ∀ j, j < w → f j = g j) : mk3 w f = mk3 w g := by
  unfold mk3
  exact List.map_congr_left fun j hj => h j (List.mem_range.mp hj)
theorem ofN_all (w x : Nat) : allK w (ofN w x) = true := by
  unfold allK
  rw [List.all_eq_true]
  intro k hk
  rw [tb_ofN, if_pos (List.mem_range.mp hk)]; rfl
theorem maskN (n w : Nat) : (Builtin.bitAnd (n : Int) (fullI (w : Int))).toNat = n % 2 ^ w := by
  unfold fullI
  rw [and_maskZ, Int.toNat_natCast]
  have e : ((2 : Int) ^ w) = ((2 ^ w : Nat) : Int) := pow_cast w
  rw [e, ← Int.natCast_emod, Int.toNat_natCast]
theorem ofN_mod (w n : Nat) : ofN w (n % 2 ^ w) = ofN w n := by
  rw [ofN_mk, ofN_mk]
  refine mk_congrB fun k hk => ?_
  rw [Nat.testBit_mod_two_pow, decide_eq_true hk, Bool.true_and]
theorem car_bits (W a b : Nat) (c : Bool) {F G : Nat → Tri} (hF : ∀ k, k < W → F k = some (a.testBit k)) (hG : ∀ k, k < W → G k = some (b.testBit k)) : ∀ k, k ≤ W → carI F G (some c) k = some (BitVec.carry k (BitVec.ofNat W a) (BitVec.ofNat W b) c)
  | 0, _ => by
    rw [BitVec.carry_zero]; rfl
  | k + 1, h => by
    show maj (F k) (G k) (carI F G (some c) k) = _
    rw [car_bits W a b c hF hG k (by omega), hF k (by omega), hG k (by omega), BitVec.carry_succ]
    rw [BitVec.getLsbD_ofNat, BitVec.getLsbD_ofNat, decide_eq_true (show k < W by omega), Bool.true_and, Bool.true_and]
    cases a.testBit k <;> cases b.testBit k <;> cases BitVec.carry k (BitVec.ofNat W a) (BitVec.ofNat W b) c <;> rfl
theorem sum_bits (W a b : Nat) (c : Bool) {F G : Nat → Tri} (hF : ∀ k, k < W → F k = some (a.testBit k)) (hG : ∀ k, k < W → G k = some (b.testBit k)) : mk3 W (sumF F G (some c)) = ofN W (a + b + c.toNat) := by
  rw [ofN_mk]
  refine mk_congrB fun k hk => ?_
  show par (F k) (G k) (carI F G (some c) k) = _
  rw [car_bits W a b c hF hG k (by omega), hF k hk, hG k hk]
  show some _ = some _
  congr 1
  have h := BitVec.getLsbD_add_add_bool hk (BitVec.ofNat W a) (BitVec.ofNat W b) c
  rw [BitVec.getLsbD_ofNat, BitVec.getLsbD_ofNat, decide_eq_true hk, Bool.true_and, Bool.true_and] at h
  have e : (BitVec.ofNat W a + BitVec.ofNat W b + BitVec.setWidth W (BitVec.ofBool c)).getLsbD k = (a + b + c.toNat).testBit k := by
    have e2 : (BitVec.ofNat W a + BitVec.ofNat W b + BitVec.setWidth W (BitVec.ofBool c)) = BitVec.ofNat W (a + b + c.toNat) := by
      apply BitVec.eq_of_toNat_eq
      simp [BitVec.toNat_add, BitVec.toNat_ofNat, BitVec.toNat_setWidth, BitVec.toNat_ofBool, Nat.add_mod]
    rw [e2, BitVec.getLsbD_ofNat, decide_eq_true hk, Bool.true_and]
  rw [← e, h]
  cases a.testBit k <;> cases b.testBit k <;> cases BitVec.carry k (BitVec.ofNat W a) (BitVec.ofNat W b) c <;> rfl
theorem gotN {ws vs : List Int} {a : Nat} {u : Nat} (hF : Fits ws vs) (ha : Has ws a (u : Int)) : ∃ A : Nat, vs.getD a 0 = (A : Int) ∧ A < 2 ^ u := by
  obtain ⟨v, e, h0, h1⟩ := hF a _ ha
  obtain ⟨A, rfl⟩ := nat_of h0
  rw [fullI_N] at h1
  have := fulN_lt u
  exact ⟨A, by rw [List.getD_eq_getElem?_getD, e]; rfl, by omega⟩
theorem map_ofN (w A k : Nat) (h : A < 2 ^ w) (hk : k < w) : (tb (ofN w A) k).map Bool.not = some ((fulN w - A).testBit k) := by
  rw [tb_ofN, if_pos hk, compl_bit h, decide_eq_true hk]
  rfl
theorem neg_mod (W A : Nat) (h : A < 2 ^ W) : (Builtin.bitAnd (-(A : Int)) (fullI (W : Int))).toNat = (0 + (fulN W - A) + true.toNat) % 2 ^ W := by
  have p := Nat.two_pow_pos W
  have e : (0 + (fulN W - A) + true.toNat) = 2 ^ W - A := by unfold fulN; show 0 + (2 ^ W - 1 - A) + 1 = _; omega
  rw [e]
  unfold fullI
  rw [and_maskZ, Int.toNat_natCast]
  have e2 : ((2 : Int) ^ W) = ((2 ^ W : Nat) : Int) := pow_cast W
  rw [e2]
  have e3 : (-(A : Int)) = ((2 ^ W - A : Nat) : Int) + ((2 ^ W : Nat) : Int) * (-1) := by rw [Int.mul_neg, Int.mul_one]; omega
  rw [e3, Int.add_mul_emod_self_left, ← Int.natCast_emod, Int.toNat_natCast]
theorem sub_mod (W A B : Nat) (h : B < 2 ^ W) : (Builtin.bitAnd ((A : Int) - (B : Int)) (fullI (W : Int))).toNat = (A + (fulN W - B) + true.toNat) % 2 ^ W := by
  have p := Nat.two_pow_pos W
  have e : (A + (fulN W - B) + true.toNat) = A + (2 ^ W - B) := by unfold fulN; show A + (2 ^ W - 1 - B) + 1 = _; omega
  rw [e]
  unfold fullI
  rw [and_maskZ, Int.toNat_natCast]
  have e2 : ((2 : Int) ^ W) = ((2 ^ W : Nat) : Int) := pow_cast W
  rw [e2]
  have e3 : ((A : Int) - (B : Int)) = ((A + (2 ^ W - B) : Nat) : Int) + ((2 ^ W : Nat) : Int) * (-1) := by rw [Int.mul_neg, Int.mul_one]; omega
  rw [e3, Int.add_mul_emod_self_left, ← Int.natCast_emod, Int.toNat_natCast]
theorem allZ_ofN {w A : Nat} (h : A < 2 ^ w) (hz : allZ w (ofN w A) = true) : A = 0 := by
  have := ((allZ_iff (ofN_len w A)).mp hz).2
  rwa [ofN_vl h] at this
theorem low_ofN (W A B : Nat) : lowN 0 (bothK (ofN W A) (ofN W B)) W = W := by
  obtain ⟨l1, l2, l3⟩ := lowN_is 0 (bothK (ofN W A) (ofN W B)) W
  generalize lowN 0 (bothK (ofN W A) (ofN W B)) W = low at *
  rcases Nat.lt_or_ge low W with h | h
  · have := l3 h
    unfold bothK at this
    rw [tb_ofN, tb_ofN, if_pos h, if_pos h] at this
    cases this
  · omega
theorem mx_ofN {w A : Nat} (h : A < 2 ^ w) : mxN w (ofN w A) = A := by
  unfold mxN
  rw [ofN_vl h, ofN_kn, Nat.sub_self, Nat.or_zero]
theorem unl_ofN {w A B : Nat} (hA : A < 2 ^ w) (hB : B < 2 ^ w) : unl w (ofN w A) (ofN w B) = !decide (A = B) := by
  by_cases e : A = B
  · subst e
    rw [decide_eq_true rfl]
    refine Bool.eq_false_iff.mpr fun h => ?_
    unfold unl at h
    rw [List.any_eq_true] at h
    obtain ⟨k, hk, h⟩ := h
    rw [tb_ofN, if_pos (List.mem_range.mp hk)] at h
    simp at h
  · rw [decide_eq_false e]
    show _ = true
    unfold unl
    rw [List.any_eq_true]
    have : ∃ k, A.testBit k ≠ B.testBit k := by
      refine Classical.byContradiction fun hn => e (Nat.eq_of_testBit_eq fun k => ?_)
      exact Classical.byContradiction fun hk => hn ⟨k, hk⟩
    obtain ⟨k, hk⟩ := this
    have hkw : k < w := by
      rcases Nat.lt_or_ge k w with h | h
      · exact h
      · exfalso
        have pw := Nat.pow_le_pow_right (n := 2) (by decide) h
        exact hk (by rw [Nat.testBit_lt_two_pow (by omega), Nat.testBit_lt_two_pow (by omega)])
    refine ⟨k, List.mem_range.mpr hkw, ?_⟩
    rw [tb_ofN, tb_ofN, if_pos hkw, if_pos hkw]
    show (A.testBit k != B.testBit k) = true
    cases hA : A.testBit k <;> cases hB : B.testBit k <;> first | rfl | (rw [hA, hB] at hk; exact absurd rfl hk)
theorem eq_ofN {w A B : Nat} (hA : A < 2 ^ w) (hB : B < 2 ^ w) : eqT w (ofN w A) (ofN w B) = some (decide (A = B)) := by
  unfold eqT
  rw [unl_ofN hA hB, ofN_all, ofN_all]
  by_cases e : A = B
  · rw [decide_eq_true e]; rfl
  · rw [decide_eq_false e]; rfl
theorem lt_ofN {w A B : Nat} (hA : A < 2 ^ w) (hB : B < 2 ^ w) : ltT w (ofN w A) (ofN w B) = some (decide (A < B)) := by
  unfold ltT
  rw [mx_ofN hA, mx_ofN hB, ofN_vl hA, ofN_vl hB]
  by_cases e : A < B
  · rw [if_pos e, decide_eq_true e]
  · rw [if_neg e, if_pos (by omega), decide_eq_false e]
theorem le_ofN {w A B : Nat} (hA : A < 2 ^ w) (hB : B < 2 ^ w) : leT w (ofN w A) (ofN w B) = some (decide (A ≤ B)) := by
  unfold leT
  rw [mx_ofN hA, mx_ofN hB, ofN_vl hA, ofN_vl hB]
  by_cases e : A ≤ B
  · rw [if_pos e, decide_eq_true e]
  · rw [if_neg e, if_pos (by omega), decide_eq_false e]
theorem bit_one (b : Bool) : [(some b : Tri)] = ofN (1 : Int).toNat (b2i b).toNat := by cases b <;> rfl
/-- of known words an operation is read whole: its value -/
theorem rd1_ofN {T : Nat → TriL} {ws vs is : List Int} {c : List (Nat × Nat)} {x : Nd} (G : Good ws x) (hW : ∀ a w, Has ws a w → 1 ≤ w ∧ w ≤ 8) (hF : Fits ws vs) (hT : ∀ p ∈ Pd.parts x, ∀ u, Has ws p u → T p = ofN u.toNat (vs.getD p 0).toNat) (hcw : ∀ o w a b, x = .two o w a b → cmp o = true → ∃ u, Has ws a u ∧ Has ws b u) (hlf : leafB x = false) : rd1 T c x = ofN x.wd.toNat (val is vs x).toNat := by
  cases x with
  | word w v => cases hlf
  | inp w i => cases hlf
  | one o w a =>
    obtain ⟨w0, w1, ho, u, ha, hu⟩ := G
    obtain ⟨W, rfl⟩ : ∃ W : Nat, w = W := ⟨w.toNat, by omega⟩
    have hub := hW a u ha
    obtain ⟨U, rfl⟩ : ∃ U : Nat, u = U := ⟨u.toNat, by omega⟩
    have eT := hT a (by simp [Pd.parts]) _ ha
    obtain ⟨A, eA, hA⟩ := gotN hF ha
    rw [eA, Int.toNat_natCast, Int.toNat_natCast] at eT
    cases o <;> try (cases ho; done)
    case not =>
      have hu := hu (by intro h; cases h)
      have hu : U = W := by omega
      subst hu
      show mk3 ((U : Int)).toNat (fun k => (tb (T a) k).map Bool.not) = ofN ((U : Int)).toNat (fullI (U : Int) - vs.getD a 0).toNat
      rw [eA, eT, Int.toNat_natCast, fullI_N, ofN_mk]
      have e2 : (((fulN U : Nat) : Int) - (A : Int)).toNat = fulN U - A := by omega
      rw [e2, ofN_mk]
      exact mk_congrB fun k hk => map_ofN U A k hA hk
    case neg =>
      have hu := hu (by intro h; cases h)
      have hu : U = W := by omega
      subst hu
      show mk3 ((U : Int)).toNat (sumF (fun _ => some false) (fun k => (tb (T a) k).map Bool.not) (some true)) = ofN ((U : Int)).toNat (Builtin.bitAnd (-(vs.getD a 0)) (fullI (U : Int))).toNat
      rw [eA, eT, Int.toNat_natCast, neg_mod U A hA, ofN_mod]
      exact sum_bits U 0 (fulN U - A) true (fun k _ => by rw [Nat.zero_testBit]) (fun k hk => map_ofN U A k hA hk)
    case wide =>
      show mk3 ((W : Int)).toNat (fun k => if k < (T a).length then tb (T a) k else some false) = ofN ((W : Int)).toNat (Builtin.bitAnd (vs.getD a 0) (fullI (W : Int))).toNat
      rw [eA, eT, Int.toNat_natCast, maskN, ofN_mod, ofN_len, ofN_mk]
      refine mk_congrB fun k hk => ?_
      by_cases h : k < U
      · rw [if_pos h, ← ofN_mk, tb_ofN, if_pos h]
      · have pw := Nat.pow_le_pow_right (n := 2) (by decide) (Nat.le_of_not_lt h)
        rw [if_neg h, Nat.testBit_lt_two_pow (show A < 2 ^ k by omega)]
  | two o w a b =>
    obtain ⟨w0, w1, ho, u, v, ha, hb, g1, g2, g3⟩ := G
    obtain ⟨W, rfl⟩ : ∃ W : Nat, w = W := ⟨w.toNat, by omega⟩
    have hub := hW a u ha
    have hvb := hW b v hb
    obtain ⟨U, rfl⟩ : ∃ U : Nat, u = U := ⟨u.toNat, by omega⟩
    obtain ⟨V, rfl⟩ : ∃ V : Nat, v = V := ⟨v.toNat, by omega⟩
    have eT := hT a (by simp [Pd.parts]) _ ha
    have eT' := hT b (by simp [Pd.parts]) _ hb
    obtain ⟨A, eA, hA⟩ := gotN hF ha
    obtain ⟨B, eB, hB⟩ := gotN hF hb
    rw [eA, Int.toNat_natCast, Int.toNat_natCast] at eT
    rw [eB, Int.toNat_natCast, Int.toNat_natCast] at eT'
    have evn : ∀ o, val is vs (.two o (W : Int) a b) = v2 o (W : Int) (A : Int) (B : Int) := fun o => by
      show v2 o (W : Int) (vs.getD a 0) (vs.getD b 0) = _
      rw [eA, eB]
    rw [evn, show (Nd.two o (W : Int) a b).wd = (W : Int) from rfl]
    have hcv : cmp o = true → U = V := fun h => by
      obtain ⟨z, z1, z2⟩ := hcw o _ a b rfl h
      unfold Has at *
      rw [ha] at z1
      rw [hb] at z2
      injection z1 with z1
      injection z2 with z2
      omega
    have sW : cmp o = false → shf o = false → W = U ∧ W = V := fun h h2 => by
      have := g2 h
      have := g3 h h2
      omega
    cases o <;> try (cases ho; done)
    case add =>
      obtain ⟨rfl, rfl⟩ := sW rfl rfl
      show mk3 ((W : Int)).toNat (sumF (tb (T a)) (tb (T b)) (some false)) = ofN ((W : Int)).toNat (Builtin.bitAnd ((A : Int) + (B : Int)) (fullI (W : Int))).toNat
      rw [eT, eT', Int.toNat_natCast, ← Int.natCast_add, maskN, ofN_mod]
      exact sum_bits W A B false (fun k hk => by rw [tb_ofN, if_pos hk]) (fun k hk => by rw [tb_ofN, if_pos hk])
    case sub =>
      obtain ⟨rfl, rfl⟩ := sW rfl rfl
      show mk3 ((W : Int)).toNat (sumF (tb (T a)) (fun k => (tb (T b) k).map Bool.not) (some true)) = ofN ((W : Int)).toNat (Builtin.bitAnd ((A : Int) - (B : Int)) (fullI (W : Int))).toNat
      rw [eT, eT', Int.toNat_natCast, sub_mod W A B hB, ofN_mod]
      exact sum_bits W A (fulN W - B) true (fun k hk => by rw [tb_ofN, if_pos hk]) (fun k hk => map_ofN W B k hB hk)
    case mul =>
      obtain ⟨rfl, rfl⟩ := sW rfl rfl
      show prodT ((W : Int)).toNat (T a) (T b) (lowN 0 (bothK (T a) (T b)) ((W : Int)).toNat) = ofN ((W : Int)).toNat (Builtin.bitAnd ((A : Int) * (B : Int)) (fullI (W : Int))).toNat
      rw [eT, eT', Int.toNat_natCast, ← Int.natCast_mul, maskN, ofN_mod, low_ofN]
      unfold prodT
      by_cases hz : (allZ W (ofN W A) || allZ W (ofN W B)) = true
      · rw [if_pos hz]
        have e0 : A * B = 0 := by
          rw [Bool.or_eq_true] at hz
          rcases hz with h | h
          · rw [allZ_ofN hA h, Nat.zero_mul]
          · rw [allZ_ofN hB h, Nat.mul_zero]
        rw [e0, ofN_mk]
        exact mk_congrB fun k hk => by rw [Nat.zero_testBit]
      · rw [if_neg hz, ofN_vl hA, ofN_vl hB, ofN_mk]
        exact mk_congrB fun k hk => by rw [if_pos hk]
    case and =>
      obtain ⟨rfl, rfl⟩ := sW rfl rfl
      show mk3 ((W : Int)).toNat (fun k => gand (tb (T a) k) (tb (T b) k)) = ofN ((W : Int)).toNat (Builtin.bitAnd (Builtin.bitAnd (A : Int) (B : Int)) (fullI (W : Int))).toNat
      rw [eT, eT', Int.toNat_natCast, andN, maskN, ofN_mod, ofN_mk W (A &&& B)]
      refine mk_congrB fun k hk => ?_
      rw [tb_ofN, tb_ofN, if_pos hk, if_pos hk, Nat.testBit_and]
      cases A.testBit k <;> cases B.testBit k <;> rfl
    case or =>
      obtain ⟨rfl, rfl⟩ := sW rfl rfl
      show mk3 ((W : Int)).toNat (fun k => gor (tb (T a) k) (tb (T b) k)) = ofN ((W : Int)).toNat (Builtin.bitAnd (Builtin.bitOr (A : Int) (B : Int)) (fullI (W : Int))).toNat
      rw [eT, eT', Int.toNat_natCast, orN, maskN, ofN_mod, ofN_mk W (A ||| B)]
      refine mk_congrB fun k hk => ?_
      rw [tb_ofN, tb_ofN, if_pos hk, if_pos hk, Nat.testBit_or]
      cases A.testBit k <;> cases B.testBit k <;> rfl
    case xor =>
      obtain ⟨rfl, rfl⟩ := sW rfl rfl
      show mk3 ((W : Int)).toNat (fun k => gxor (tb (T a) k) (tb (T b) k)) = ofN ((W : Int)).toNat (Builtin.bitAnd (Builtin.bitXor (A : Int) (B : Int)) (fullI (W : Int))).toNat
      rw [eT, eT', Int.toNat_natCast, xorN', maskN, ofN_mod, ofN_mk W (A ^^^ B)]
      refine mk_congrB fun k hk => ?_
      rw [tb_ofN, tb_ofN, if_pos hk, if_pos hk, Nat.testBit_xor]
      cases A.testBit k <;> cases B.testBit k <;> rfl
    case shl =>
      have hu := g2 rfl
      have hu : U = W := by omega
      subst hu
      show shT true ((U : Int)).toNat (T b).length (T a) (T b) = ofN ((U : Int)).toNat (if (U : Int) ≤ (B : Int) then 0 else Builtin.bitAnd ((A : Int) * 2 ^ ((B : Int)).toNat) (fullI (U : Int))).toNat
      rw [eT, eT', Int.toNat_natCast, Int.toNat_natCast, ofN_len]
      unfold shT
      rw [if_pos (ofN_all V B), if_pos rfl, ofN_vl hB]
      by_cases e : U ≤ B
      · rw [if_pos (by omega), ofN_mk]
        refine mk_congrB fun k hk => ?_
        rw [if_neg (by omega)]
        show _ = some (Nat.testBit 0 k)
        rw [Nat.zero_testBit]
      · rw [if_neg (by omega), shlN, maskN, ofN_mod, ofN_mk U (A <<< B)]
        refine mk_congrB fun k hk => ?_
        rw [Nat.testBit_shiftLeft]
        by_cases h : B ≤ k
        · rw [if_pos h, tb_ofN, if_pos (by omega), decide_eq_true (show k ≥ B from h)]; rfl
        · rw [if_neg h, decide_eq_false (show ¬ k ≥ B from h)]; rfl
    case shr =>
      have hu := g2 rfl
      have hu : U = W := by omega
      subst hu
      show shT false ((U : Int)).toNat (T b).length (T a) (T b) = ofN ((U : Int)).toNat (if (U : Int) ≤ (B : Int) then 0 else (A : Int) / 2 ^ ((B : Int)).toNat).toNat
      rw [eT, eT', Int.toNat_natCast, Int.toNat_natCast, ofN_len]
      unfold shT
      rw [if_pos (ofN_all V B), if_neg (by decide), ofN_vl hB]
      by_cases e : U ≤ B
      · rw [if_pos (by omega), ofN_mk]
        refine mk_congrB fun k hk => ?_
        rw [if_neg (by omega)]
        show _ = some (Nat.testBit 0 k)
        rw [Nat.zero_testBit]
      · rw [if_neg (by omega), shrN, Int.toNat_natCast, ofN_mk U (A >>> B)]
        refine mk_congrB fun k hk => ?_
        rw [Nat.testBit_shiftRight]
        by_cases h : k + B < U
        · rw [if_pos h, tb_ofN, if_pos h, Nat.add_comm]
        · have pw := Nat.pow_le_pow_right (n := 2) (by decide) (Nat.le_of_not_lt h)
          rw [if_neg h, Nat.add_comm, Nat.testBit_lt_two_pow (show A < 2 ^ (k + B) by omega)]
    case div =>
      obtain ⟨rfl, rfl⟩ := sW rfl rfl
      show (if allK ((W : Int)).toNat (T a) && allK ((W : Int)).toNat (T b) then ofN ((W : Int)).toNat (v2 .div (W : Int) (vl (T a) : Nat) (vl (T b) : Nat)).toNat else _) = _
      rw [eT, eT', Int.toNat_natCast, ofN_all, ofN_all, ofN_vl hA, ofN_vl hB]
      rfl
    case rem =>
      obtain ⟨rfl, rfl⟩ := sW rfl rfl
      show (if allK ((W : Int)).toNat (T a) && allK ((W : Int)).toNat (T b) then ofN ((W : Int)).toNat (v2 .rem (W : Int) (vl (T a) : Nat) (vl (T b) : Nat)).toNat else _) = _
      rw [eT, eT', Int.toNat_natCast, ofN_all, ofN_all, ofN_vl hA, ofN_vl hB]
      rfl
    case eq =>
      have hUV := hcv rfl
      subst hUV
      rw [show (W : Int) = 1 from g1 rfl]
      show [eqT (T a).length (T a) (T b)] = ofN (1 : Int).toNat (b2i (decide ((A : Int) = (B : Int)))).toNat
      rw [eT, eT', ofN_len, eq_ofN hA hB, ← bit_one]
      rw [show decide ((A : Int) = (B : Int)) = decide (A = B) from decide_eq_decide.mpr Int.ofNat_inj]
    case ne =>
      have hUV := hcv rfl
      subst hUV
      rw [show (W : Int) = 1 from g1 rfl]
      show [(eqT (T a).length (T a) (T b)).map Bool.not] = ofN (1 : Int).toNat (b2i (!decide ((A : Int) = (B : Int)))).toNat
      rw [eT, eT', ofN_len, eq_ofN hA hB, ← bit_one]
      rw [show decide ((A : Int) = (B : Int)) = decide (A = B) from decide_eq_decide.mpr Int.ofNat_inj]
      rfl
    case lt =>
      have hUV := hcv rfl
      subst hUV
      rw [show (W : Int) = 1 from g1 rfl]
      show [ltT (T a).length (T a) (T b)] = ofN (1 : Int).toNat (b2i (decide ((A : Int) < (B : Int)))).toNat
      rw [eT, eT', ofN_len, lt_ofN hA hB, ← bit_one]
      rw [show decide ((A : Int) < (B : Int)) = decide (A < B) from decide_eq_decide.mpr Int.ofNat_lt]
    case le =>
      have hUV := hcv rfl
      subst hUV
      rw [show (W : Int) = 1 from g1 rfl]
      show [leT (T a).length (T a) (T b)] = ofN (1 : Int).toNat (b2i (decide ((A : Int) ≤ (B : Int)))).toNat
      rw [eT, eT', ofN_len, le_ofN hA hB, ← bit_one]
      rw [show decide ((A : Int) ≤ (B : Int)) = decide (A ≤ B) from decide_eq_decide.mpr Int.ofNat_le]
  | pick w c a b =>
    obtain ⟨w0, w1, hc, ha, hb⟩ := G
    obtain ⟨W, rfl⟩ : ∃ W : Nat, w = W := ⟨w.toNat, by omega⟩
    have eC := hT c (by simp [Pd.parts]) _ hc
    have eT := hT a (by simp [Pd.parts]) _ ha
    have eT' := hT b (by simp [Pd.parts]) _ hb
    obtain ⟨C, eCv, hC⟩ := gotN (u := 1) hF hc
    show (match tb (T c) 0 with | none => mk3 ((W : Int)).toNat _ | some true => T a | some false => T b) = ofN ((W : Int)).toNat (if vs.getD c 0 = 1 then vs.getD a 0 else vs.getD b 0).toNat
    rw [eC, eCv, tb_ofN, if_pos (by decide), Int.toNat_natCast]
    have hC : C < 2 := hC
    obtain rfl | rfl : C = 0 ∨ C = 1 := by omega
    · rw [if_neg (by decide)]
      exact eT'
    · rw [if_pos (by decide)]
      exact eT
theorem valsN_at {is : List Int} {ns : List Nd} (S : Sheet ns) {j : Nat} {x : Nd} (hx : ns[j]? = some x) : (vals is ns).getD j 0 = val is (vals is (ns.take j)) x := by
  have h1 := vals_pre is S (j + 1)
  rw [vals_take hx] at h1
  have hj := (List.getElem?_eq_some_iff.mp hx).1
  have hl := vals_len is (S.take j)
  rw [List.length_take] at hl
  have hl : (vals is (ns.take j)).length = j := by omega
  have h2 : ((vals is ns).take (j + 1))[j]? = some (val is (vals is (ns.take j)) x) := by
    rw [← h1, List.getElem?_append_right (by omega), hl, Nat.sub_self]; rfl
  rw [List.getElem?_take_of_lt (by omega)] at h2
  rw [List.getD_eq_getElem?_getD, h2]; rfl
theorem vals_lt {is : List Int} {ns : List Nd} (S : Sheet ns) {j p : Nat} (hp : p < j) : (vals is (ns.take j)).getD p 0 = (vals is ns).getD p 0 := by
  rw [vals_pre is S j, List.getD_eq_getElem?_getD, List.getElem?_take_of_lt hp, ← List.getD_eq_getElem?_getD]
theorem LeC.refl (c : List (Nat × Nat)) : LeC c c := ⟨rfl, fun i p p' h h' k => by rw [h] at h'; cases h'; exact .refl _⟩
/-- the words fit what the cube knows -/
def FitC (c : List (Nat × Nat)) (is : List Int) : Prop := ∀ (i : Nat) p, c[i]? = some p → i < is.length ∧ ∀ k, Le3 (trC p k) (some ((is.getD i 0).toNat.testBit k))
theorem Has.at_take {ns : List Nd} {j p : Nat} (hp : p < j) (hj : p < ns.length) : Has ((ns.take j).map Nd.wd) p (ns[p]).wd := by
  unfold Has
  rw [List.getElem?_map, List.getElem?_take_of_lt hp, List.getElem?_eq_getElem hj]; rfl
/-- what is read of a term in a cube holds for all words that fit -/
theorem trT_fits {c : List (Nat × Nat)} {is : List Int} {ns : List Nd} (S : Sheet ns) (hcs : CmpS ns) (hi : ∀ i, i ∈ is → 0 ≤ i) (hf : FitC c is) (j : Nat) : ∀ hj : j < ns.length, LeL (trT c ns j) (ofN (ns[j]).wd.toNat ((vals is ns).getD j 0).toNat) := by
  induction j using Nat.strongRecOn with
  | _ j ih =>
    intro hj
    have hx := List.getElem?_eq_getElem hj
    obtain ⟨G, hT, hp, hcw⟩ := parts_at (c := c) S hcs hx
    rw [trT_eq S hx, valsN_at S hx]
    cases hlf : leafB ns[j] with
    | true =>
      generalize ns[j] = x at *
      cases x with
      | word w v => exact .refl _
      | inp w i =>
        obtain ⟨W, rfl⟩ : ∃ W : Nat, w = W := ⟨w.toNat, by have := G.1; omega⟩
        show LeL (match c[i]? with | some p => mk3 ((W : Int)).toNat fun k => if p.1.testBit k then some (p.2.testBit k) else none | none => mk3 ((W : Int)).toNat fun _ => none) (ofN ((W : Int)).toNat (if i < is.length then Builtin.bitAnd (is.getD i 0) (fullI (W : Int)) else 0).toNat)
        rw [Int.toNat_natCast]
        rcases Nat.lt_or_ge i c.length with h | h
        · have e1 := List.getElem?_eq_getElem h
          obtain ⟨h1, h2⟩ := hf i _ e1
          rw [e1, if_pos h1]
          have h0 : 0 ≤ is.getD i 0 := by
            rw [List.getD_eq_getElem?_getD, List.getElem?_eq_getElem h1]
            exact hi _ (List.getElem_mem h1)
          obtain ⟨z, ez⟩ := nat_of h0
          rw [ez, Int.toNat_natCast] at h2
          rw [ez, maskN, ofN_mod, ofN_mk]
          exact mk3_le fun k _ => h2 k
        · rw [List.getElem?_eq_none h]
          exact mk3_non (ofN_len _ _)
      | one o w a => cases hlf
      | two o w a b => cases hlf
      | pick w c a b => cases hlf
    | false =>
      have hS' := S.take j
      have hF := fits_all is hi hS'
      have hWd : ∀ a w, Has ((ns.take j).map Nd.wd) a w → 1 ≤ w ∧ w ≤ 8 := fun a w h => hS'.wid a w h
      have step := rd1_le (T' := fun p => ofN ((((ns.take j).map Nd.wd).getD p 0).toNat) (((vals is (ns.take j)).getD p 0).toNat)) (c' := c) G hT (fun p hpp => ?_) hcw (LeC.refl c)
      · refine step.trans ?_
        rw [rd1_ofN (ws := (ns.take j).map Nd.wd) (vs := vals is (ns.take j)) (is := is) G hWd hF (fun p hpp u hu => ?_) (fun o w a b e hc => ?_) hlf]
        · exact .refl _
        · show ofN _ _ = _
          rw [List.getD_eq_getElem?_getD, show ((ns.take j).map Nd.wd)[p]? = some u from hu]
          rfl
        · rw [e] at hx hp
          have ha := hp a (by simp [Pd.parts])
          have hb := hp b (by simp [Pd.parts])
          have := hcs j o w a b hx hc _ _ (has_wd (by omega)) (has_wd (by omega))
          refine ⟨_, Has.at_take ha (by omega), ?_⟩
          rw [this]
          exact Has.at_take hb (by omega)
      · have hpj := hp p hpp
        have h := ih p hpj (by omega)
        show LeL _ (ofN _ _)
        rw [vals_lt S hpj, List.getD_eq_getElem?_getD, show ((ns.take j).map Nd.wd)[p]? = some (ns[p]'(by omega)).wd from Has.at_take hpj (by omega)]
        exact h
/-- operands read whole: the node is read whole -/
theorem trT_whole {c : List (Nat × Nat)} {is : List Int} {ns : List Nd} (S : Sheet ns) (hcs : CmpS ns) (hi : ∀ i, i ∈ is → 0 ≤ i) {j : Nat} {x : Nd} (hx : ns[j]? = some x) (hlf : leafB x = false) (h : ∀ p ∈ Pd.parts x, ∀ hp : p < ns.length, trT c ns p = ofN (ns[p]).wd.toNat ((vals is ns).getD p 0).toNat) : trT c ns j = ofN x.wd.toNat ((vals is ns).getD j 0).toNat := by
  have hj := (List.getElem?_eq_some_iff.mp hx).1
  obtain ⟨G, hT, hp, hcw⟩ := parts_at (c := c) S hcs hx
  have hS' := S.take j
  rw [trT_eq S hx, valsN_at S hx]
  refine rd1_ofN (ws := (ns.take j).map Nd.wd) (vs := vals is (ns.take j)) (is := is) G (fun a w h => hS'.wid a w h) (fits_all is hi hS') (fun p hpp u hu => ?_) (fun o w a b e hc => ?_) hlf
  · have hpj := hp p hpp
    rw [h p hpp (by omega), vals_lt S hpj]
    have := Has.at_take hpj (show p < ns.length by omega)
    unfold Has at this hu
    rw [this] at hu
    injection hu with hu
    rw [hu]
  · rw [e] at hx hp
    have ha := hp a (by simp [Pd.parts])
    have hb := hp b (by simp [Pd.parts])
    have := hcs j o w a b hx hc _ _ (has_wd (by omega)) (has_wd (by omega))
    refine ⟨_, Has.at_take ha (by omega), ?_⟩
    rw [this]
    exact Has.at_take hb (by omega)
end Pd
end PartPdCubes5

section PartPdk35B
set_option linter.all false
set_option maxRecDepth 100000
namespace Pk35
open PySem Pd
def b_p_greatest (c : Cl) : TS := sRet (dOp subK (dOp shlK (dC (.int 1)) (dVar 0)) (dC (.int 1)))
def b_p_related (c : Cl) : TS := sSeq (sIf (tTru (dCmp eqC (dVar 0) (dC (.str "==")))) (sRet (dB intB (aCons (dCmp eqC (dVar 1) (dVar 2)) (aNil)))) (sNext)) (sSeq (sIf (tTru (dCmp eqC (dVar 0) (dC (.str "!=")))) (sRet (dB intB (aCons (dCmp neC (dVar 1) (dVar 2)) (aNil)))) (sNext)) (sSeq (sIf (tTru (dCmp eqC (dVar 0) (dC (.str "<")))) (sRet (dB intB (aCons (dCmp ltC (dVar 1) (dVar 2)) (aNil)))) (sNext)) (sRet (dB intB (aCons (dCmp leC (dVar 1) (dVar 2)) (aNil))))))
def b_p_shifted (c : Cl) : TS := sSeq (sIf (tTru (dCmp geC (dVar 3) (dVar 1))) (sRet (dC (.int 0))) (sNext)) (sSeq (sIf (tTru (dCmp eqC (dVar 0) (dC (.str "<<")))) (sRet (dOp andK (dOp shlK (dVar 2) (dVar 3)) (dCall c "greatest" (aCons (dVar 1) (aNil))))) (sNext)) (sRet (dOp shrK (dVar 2) (dVar 3))))
def b_p_divided (c : Cl) : TS := sSeq (sIf (tTru (dCmp eqC (dVar 2) (dC (.int 0)))) (sRet (dC (.int 0))) (sNext)) (sSeq (sIf (tTru (dCmp eqC (dVar 0) (dC (.str "div")))) (sRet (dOp fdivK (dVar 1) (dVar 2))) (sNext)) (sRet (dOp subK (dVar 1) (dOp mulK (dVar 2) (dOp fdivK (dVar 1) (dVar 2))))))
def b_p_reckoned (c : Cl) : TS := sSeq (sIf (tTru (dCmp eqC (dVar 0) (dC (.str "+")))) (sRet (dOp addK (dVar 1) (dVar 2))) (sNext)) (sSeq (sIf (tTru (dCmp eqC (dVar 0) (dC (.str "-")))) (sRet (dOp subK (dVar 1) (dVar 2))) (sNext)) (sSeq (sIf (tTru (dCmp eqC (dVar 0) (dC (.str "*")))) (sRet (dOp mulK (dVar 1) (dVar 2))) (sNext)) (sSeq (sIf (tTru (dCmp eqC (dVar 0) (dC (.str "&")))) (sRet (dOp andK (dVar 1) (dVar 2))) (sNext)) (sSeq (sIf (tTru (dCmp eqC (dVar 0) (dC (.str "|")))) (sRet (dOp orK (dVar 1) (dVar 2))) (sNext)) (sRet (dOp xorK (dVar 1) (dVar 2)))))))
def b_p_result (c : Cl) : TS := sSeq (sAsg (dOp ixK (dVar 2) (dC (.int 0))) (gName 3)) (sSeq (sIf (tTru (dCmp eqC (dVar 0) (dC (.str "not")))) (sRet (dOp subK (dCall c "greatest" (aCons (dVar 1) (aNil))) (dVar 3))) (sNext)) (sSeq (sIf (tTru (dCmp eqC (dVar 0) (dC (.str "neg")))) (sRet (dOp andK (dUn negK (dVar 3)) (dCall c "greatest" (aCons (dVar 1) (aNil))))) (sNext)) (sSeq (sIf (tTru (dCmp eqC (dVar 0) (dC (.str "wide")))) (sRet (dOp andK (dVar 3) (dCall c "greatest" (aCons (dVar 1) (aNil))))) (sNext)) (sSeq (sIf (tTru (dCmp eqC (dVar 0) (dC (.str "pick")))) (sRet (dIf (tTru (dCmp eqC (dVar 3) (dC (.int 1)))) (dOp ixK (dVar 2) (dC (.int 1))) (dOp ixK (dVar 2) (dC (.int 2))))) (sNext)) (sSeq (sAsg (dOp ixK (dVar 2) (dC (.int 1))) (gName 4)) (sSeq (sIf (tTru (dCmp inC (dVar 0) (dTup (aCons (dC (.str "==")) (aCons (dC (.str "!=")) (aCons (dC (.str "<")) (aCons (dC (.str "<=")) (aNil)))))))) (sRet (dCall c "related" (aCons (dVar 0) (aCons (dVar 3) (aCons (dVar 4) (aNil)))))) (sNext)) (sSeq (sIf (tTru (dCmp inC (dVar 0) (dTup (aCons (dC (.str "<<")) (aCons (dC (.str ">>")) (aNil)))))) (sRet (dCall c "shifted" (aCons (dVar 0) (aCons (dVar 1) (aCons (dVar 3) (aCons (dVar 4) (aNil))))))) (sNext)) (sSeq (sIf (tTru (dCmp inC (dVar 0) (dTup (aCons (dC (.str "div")) (aCons (dC (.str "rem")) (aNil)))))) (sRet (dCall c "divided" (aCons (dVar 0) (aCons (dVar 3) (aCons (dVar 4) (aNil)))))) (sNext)) (sRet (dOp andK (dCall c "reckoned" (aCons (dVar 0) (aCons (dVar 3) (aCons (dVar 4) (aNil))))) (dCall c "greatest" (aCons (dVar 1) (aNil)))))))))))))
def b_p_needed_for (c : Cl) : TS := sSeq (sAsg (dDic) (gName 2)) (sSeq (sAsg (dB listB (aCons (dVar 1) (aNil))) (gName 3)) (sSeq (sWhile (tTru (dVar 3)) (sSeq (sAsg (dM0 tyLst popEM (dVar 3)) (gName 4)) (sIf (tTru (dCmp notinKC (dVar 4) (dVar 2))) (sSeq (sAsg (dC (.bl true)) (gSubD (dVar 2) (dVar 4))) (sIf (tTru (dCmp notinC (dOp ixK (dOp ixK (dVar 0) (dVar 4)) (dC (.int 0))) (dTup (aCons (dC (.str "word")) (aCons (dC (.str "input")) (aNil)))))) (sExpr (dM tyLst extendAM (dVar 3) (aCons (dSl (dOp ixK (dVar 0) (dVar 4)) (oSome (dC (.int 2))) (oNone)) (aNil)))) (sNext))) (sNext)))) (sRet (dB sortedDB (aCons (dVar 2) (aNil))))))
def b_p_read_term (c : Cl) : TS := sRet (dGetA (dCall c "read_nodes" (aCons (dVar 0) (aCons (dCall c "needed_for" (aCons (dVar 0) (aCons (dLst (aCons (dVar 2) (aNil))) (aNil)))) (aCons (dVar 1) (aNil))))) (dVar 2))
def b_p_read_nodes (c : Cl) : TS := sSeq (sAsg (dDic) (gName 3)) (sSeq (sFor (iSeq (dVar 1)) (gName 4) (sSeq (sAsg (dOp ixK (dVar 0) (dVar 4)) (gName 5)) (sSeq (sAsg (dCall c "greatest" (aCons (dOp ixK (dVar 5) (dC (.int 1))) (aNil))) (gName 6)) (sIf (tTru (dCmp eqC (dOp ixK (dVar 5) (dC (.int 0))) (dC (.str "word")))) (sAsg (dTup (aCons (dVar 6) (aCons (dOp ixK (dVar 5) (dC (.int 2))) (aNil)))) (gSubD (dVar 3) (dVar 4))) (sIf (tTru (dCmp eqC (dOp ixK (dVar 5) (dC (.int 0))) (dC (.str "input")))) (sSeq (sAsg (dIf (tTru (dCmp ltC (dOp ixK (dVar 5) (dC (.int 2))) (dB lenB (aCons (dVar 2) (aNil))))) (dOp ixK (dVar 2) (dOp ixK (dVar 5) (dC (.int 2)))) (dTup (aCons (dC (.int 0)) (aCons (dC (.int 0)) (aNil))))) (gName 7)) (sAsg (dTup (aCons (dOp andK (dOp ixK (dVar 7) (dC (.int 0))) (dVar 6)) (aCons (dOp andK (dOp ixK (dVar 7) (dC (.int 1))) (dVar 6)) (aNil)))) (gSubD (dVar 3) (dVar 4)))) (sSeq (sAsg (dLc (iSeq (dSl (dVar 5) (oSome (dC (.int 2))) (oNone))) (gName 9) (tYes) (dGetA (dVar 3) (dVar 9)) [9]) (gName 8)) (sAsg (dCall c "read_one" (aCons (dVar 5) (aCons (dVar 8) (aCons (dLc (iSeq (dSl (dVar 5) (oSome (dC (.int 2))) (oNone))) (gName 9) (tYes) (dCall c "greatest" (aCons (dOp ixK (dOp ixK (dVar 0) (dVar 9)) (dC (.int 1))) (aNil))) [9]) (aNil))))) (gSubD (dVar 3) (dVar 4))))))))) (sRet (dVar 3)))
def b_p_read_one (c : Cl) : TS := sSeq (sAsg (dOp ixK (dVar 0) (dC (.int 0))) (gName 3)) (sSeq (sAsg (dOp ixK (dVar 2) (dC (.int 0))) (gName 4)) (sSeq (sIf (tTru (dCmp eqC (dVar 3) (dC (.str "not")))) (sRet (dTup (aCons (dOp ixK (dOp ixK (dVar 1) (dC (.int 0))) (dC (.int 0))) (aCons (dOp andK (dOp subK (dVar 4) (dOp ixK (dOp ixK (dVar 1) (dC (.int 0))) (dC (.int 1)))) (dOp ixK (dOp ixK (dVar 1) (dC (.int 0))) (dC (.int 0)))) (aNil))))) (sNext)) (sSeq (sIf (tTru (dCmp inC (dVar 3) (dTup (aCons (dC (.str "&")) (aCons (dC (.str "|")) (aCons (dC (.str "^")) (aNil))))))) (sRet (dCall c "read_bits" (aCons (dVar 3) (aCons (dOp ixK (dVar 1) (dC (.int 0))) (aCons (dOp ixK (dVar 1) (dC (.int 1))) (aNil)))))) (sNext)) (sSeq (sIf (tTru (dCmp inC (dVar 3) (dTup (aCons (dC (.str "+")) (aCons (dC (.str "-")) (aCons (dC (.str "neg")) (aNil))))))) (sRet (dCall c "read_sum" (aCons (dVar 3) (aCons (dOp ixK (dVar 0) (dC (.int 1))) (aCons (dVar 1) (aNil)))))) (sNext)) (sSeq (sIf (tTru (dCmp eqC (dVar 3) (dC (.str "*")))) (sRet (dCall c "read_product" (aCons (dOp ixK (dVar 0) (dC (.int 1))) (aCons (dOp ixK (dVar 1) (dC (.int 0))) (aCons (dOp ixK (dVar 1) (dC (.int 1))) (aNil)))))) (sNext)) (sSeq (sIf (tTru (dCmp inC (dVar 3) (dTup (aCons (dC (.str "<<")) (aCons (dC (.str ">>")) (aNil)))))) (sRet (dCall c "read_shift" (aCons (dVar 3) (aCons (dOp ixK (dVar 1) (dC (.int 0))) (aCons (dOp ixK (dVar 1) (dC (.int 1))) (aCons (dVar 2) (aNil))))))) (sNext)) (sSeq (sIf (tTru (dCmp inC (dVar 3) (dTup (aCons (dC (.str "div")) (aCons (dC (.str "rem")) (aNil)))))) (sSeq (sIf (tAnd (tTru (dCmp eqC (dOp ixK (dOp ixK (dVar 1) (dC (.int 0))) (dC (.int 0))) (dVar 4))) (tTru (dCmp eqC (dOp ixK (dOp ixK (dVar 1) (dC (.int 1))) (dC (.int 0))) (dVar 4)))) (sRet (dTup (aCons (dVar 4) (aCons (dCallS c "result" 2 (aCons (dVar 3) (aCons (dOp ixK (dVar 0) (dC (.int 1))) (aCons (dOp ixK (dOp ixK (dVar 1) (dC (.int 0))) (dC (.int 1))) (aCons (dOp ixK (dOp ixK (dVar 1) (dC (.int 1))) (dC (.int 1))) (aNil)))))) (aNil))))) (sNext)) (sRet (dTup (aCons (dC (.int 0)) (aCons (dC (.int 0)) (aNil)))))) (sNext)) (sSeq (sIf (tTru (dCmp eqC (dVar 3) (dC (.str "pick")))) (sRet (dCall c "read_pick" (aCons (dVar 1) (aNil)))) (sNext)) (sSeq (sIf (tTru (dCmp eqC (dVar 3) (dC (.str "wide")))) (sRet (dCall c "read_wide" (aCons (dCall c "greatest" (aCons (dOp ixK (dVar 0) (dC (.int 1))) (aNil))) (aCons (dVar 4) (aCons (dOp ixK (dVar 1) (dC (.int 0))) (aNil)))))) (sNext)) (sRet (dCall c "read_relation" (aCons (dVar 3) (aCons (dOp ixK (dVar 1) (dC (.int 0))) (aCons (dOp ixK (dVar 1) (dC (.int 1))) (aCons (dVar 4) (aNil))))))))))))))))
def b_p_read_bits (c : Cl) : TS := sSeq (sAsg (dOp andK (dOp ixK (dVar 1) (dC (.int 0))) (dOp ixK (dVar 2) (dC (.int 0)))) (gName 3)) (sSeq (sIf (tTru (dCmp eqC (dVar 0) (dC (.str "^")))) (sRet (dTup (aCons (dVar 3) (aCons (dOp andK (dOp xorK (dOp ixK (dVar 1) (dC (.int 1))) (dOp ixK (dVar 2) (dC (.int 1)))) (dVar 3)) (aNil))))) (sNext)) (sSeq (sIf (tTru (dCmp eqC (dVar 0) (dC (.str "&")))) (sSeq (sAsg (dOp orK (dOp andK (dOp ixK (dVar 1) (dC (.int 0))) (dUn invK (dOp ixK (dVar 1) (dC (.int 1))))) (dOp andK (dOp ixK (dVar 2) (dC (.int 0))) (dUn invK (dOp ixK (dVar 2) (dC (.int 1)))))) (gName 4)) (sRet (dTup (aCons (dOp orK (dVar 3) (dVar 4)) (aCons (dOp andK (dOp ixK (dVar 1) (dC (.int 1))) (dOp ixK (dVar 2) (dC (.int 1)))) (aNil)))))) (sNext)) (sRet (dTup (aCons (dOp orK (dOp orK (dVar 3) (dOp ixK (dVar 1) (dC (.int 1)))) (dOp ixK (dVar 2) (dC (.int 1)))) (aCons (dOp orK (dOp ixK (dVar 1) (dC (.int 1))) (dOp ixK (dVar 2) (dC (.int 1)))) (aNil)))))))
def b_p_read_sum (c : Cl) : TS := sSeq (sAsg (dCall c "greatest" (aCons (dVar 1) (aNil))) (gName 3)) (sSeq (sPar3 4 5 6 (aCons (dOp ixK (dVar 2) (dC (.int 0))) (aCons (dOp ixK (dVar 2) (dUn negK (dC (.int 1)))) (aCons (dC (.int 0)) (aNil))))) (sSeq (sIf (tTru (dCmp neC (dVar 0) (dC (.str "+")))) (sSeq (sAsg (dTup (aCons (dOp ixK (dVar 5) (dC (.int 0))) (aCons (dOp andK (dUn invK (dOp ixK (dVar 5) (dC (.int 1)))) (dOp ixK (dVar 5) (dC (.int 0)))) (aNil)))) (gName 5)) (sAsg (dC (.int 1)) (gName 6))) (sNext)) (sSeq (sIf (tTru (dCmp eqC (dVar 0) (dC (.str "neg")))) (sAsg (dTup (aCons (dVar 3) (aCons (dC (.int 0)) (aNil)))) (gName 4)) (sNext)) (sSeq (sAsg (dTup (aCons (dC (.int 0)) (aCons (dC (.int 0)) (aNil)))) (gTup (gsCons (gName 7) (gsCons (gName 8) (gsNil))) 2)) (sSeq (sAsg (dC (.int 1)) (gName 9)) (sSeq (sFor (iR1 (dVar 1)) (gName 10) (sSeq (sAsg (dTup (aCons (dOp andK (dOp shrK (dOp ixK (dVar 4) (dC (.int 0))) (dVar 10)) (dC (.int 1))) (aCons (dOp andK (dOp shrK (dOp ixK (dVar 4) (dC (.int 1))) (dVar 10)) (dC (.int 1))) (aNil)))) (gName 11)) (sSeq (sAsg (dTup (aCons (dOp andK (dOp shrK (dOp ixK (dVar 5) (dC (.int 0))) (dVar 10)) (dC (.int 1))) (aCons (dOp andK (dOp shrK (dOp ixK (dVar 5) (dC (.int 1))) (dVar 10)) (dC (.int 1))) (aNil)))) (gName 12)) (sSeq (sIf (tAnd (tTru (dOp ixK (dVar 11) (dC (.int 0)))) (tAnd (tTru (dOp ixK (dVar 12) (dC (.int 0)))) (tTru (dVar 9)))) (sSeq (sAug 7 orK (dOp shlK (dC (.int 1)) (dVar 10))) (sAug 8 orK (dOp shlK (dOp xorK (dOp xorK (dOp ixK (dVar 11) (dC (.int 1))) (dOp ixK (dVar 12) (dC (.int 1)))) (dVar 6)) (dVar 10)))) (sNext)) (sSeq (sAsg (dOp addK (dOp addK (dOp ixK (dVar 11) (dC (.int 1))) (dOp ixK (dVar 12) (dC (.int 1)))) (dIf (tTru (dVar 9)) (dVar 6) (dC (.int 0)))) (gName 13)) (sSeq (sAsg (dOp addK (dOp subK (dOp addK (dOp subK (dOp ixK (dVar 11) (dC (.int 0))) (dOp ixK (dVar 11) (dC (.int 1)))) (dOp ixK (dVar 12) (dC (.int 0)))) (dOp ixK (dVar 12) (dC (.int 1)))) (dIf (tTru (dVar 9)) (dOp subK (dC (.int 1)) (dVar 6)) (dC (.int 0)))) (gName 14)) (sSeq (sAsg (dB intB (aCons (dOrT (dCmp geC (dVar 13) (dC (.int 2))) (dCmp geC (dVar 14) (dC (.int 2)))) (aNil))) (gName 9)) (sAsg (dB intB (aCons (dCmp geC (dVar 13) (dC (.int 2))) (aNil))) (gName 6))))))))) (sRet (dTup (aCons (dVar 7) (aCons (dVar 8) (aNil)))))))))))
def b_p_read_product (c : Cl) : TS := sSeq (sAsg (dCall c "greatest" (aCons (dVar 0) (aNil))) (gName 3)) (sSeq (sIf (tOr (tTru (dCmp eqC (dVar 1) (dTup (aCons (dVar 3) (aCons (dC (.int 0)) (aNil)))))) (tTru (dCmp eqC (dVar 2) (dTup (aCons (dVar 3) (aCons (dC (.int 0)) (aNil))))))) (sRet (dTup (aCons (dVar 3) (aCons (dC (.int 0)) (aNil))))) (sNext)) (sSeq (sAsg (dC (.int 0)) (gName 4)) (sSeq (sWhile (tAnd (tTru (dCmp ltC (dVar 4) (dVar 0))) (tAnd (tTru (dOp andK (dOp shrK (dOp ixK (dVar 1) (dC (.int 0))) (dVar 4)) (dC (.int 1)))) (tTru (dOp andK (dOp shrK (dOp ixK (dVar 2) (dC (.int 0))) (dVar 4)) (dC (.int 1)))))) (sAug 4 iaddK (dC (.int 1)))) (sSeq (sAsg (dOp subK (dOp shlK (dC (.int 1)) (dVar 4)) (dC (.int 1))) (gName 5)) (sRet (dTup (aCons (dVar 5) (aCons (dOp andK (dOp mulK (dOp ixK (dVar 1) (dC (.int 1))) (dOp ixK (dVar 2) (dC (.int 1)))) (dVar 5)) (aNil)))))))))
def b_p_read_shift (c : Cl) : TS := sSeq (sAsg (dOp ixK (dVar 3) (dC (.int 0))) (gName 4)) (sSeq (sIf (tTru (dCmp neC (dOp ixK (dVar 2) (dC (.int 0))) (dOp ixK (dVar 3) (dC (.int 1))))) (sRet (dIf (tTru (dCmp eqC (dVar 1) (dTup (aCons (dVar 4) (aCons (dC (.int 0)) (aNil)))))) (dTup (aCons (dVar 4) (aCons (dC (.int 0)) (aNil)))) (dTup (aCons (dC (.int 0)) (aCons (dC (.int 0)) (aNil)))))) (sNext)) (sSeq (sIf (tTru (dCmp geC (dOp ixK (dVar 2) (dC (.int 1))) (dC (.int 8)))) (sRet (dTup (aCons (dVar 4) (aCons (dC (.int 0)) (aNil))))) (sNext)) (sSeq (sIf (tTru (dCmp eqC (dVar 0) (dC (.str "<<")))) (sSeq (sAsg (dOp subK (dOp shlK (dC (.int 1)) (dOp ixK (dVar 2) (dC (.int 1)))) (dC (.int 1))) (gName 5)) (sRet (dTup (aCons (dOp andK (dOp orK (dOp shlK (dOp ixK (dVar 1) (dC (.int 0))) (dOp ixK (dVar 2) (dC (.int 1)))) (dVar 5)) (dVar 4)) (aCons (dOp andK (dOp shlK (dOp ixK (dVar 1) (dC (.int 1))) (dOp ixK (dVar 2) (dC (.int 1)))) (dVar 4)) (aNil)))))) (sNext)) (sSeq (sAsg (dOp shrK (dVar 4) (dOp ixK (dVar 2) (dC (.int 1)))) (gName 6)) (sRet (dTup (aCons (dOp orK (dOp shrK (dOp ixK (dVar 1) (dC (.int 0))) (dOp ixK (dVar 2) (dC (.int 1)))) (dOp subK (dVar 4) (dVar 6))) (aCons (dOp shrK (dOp ixK (dVar 1) (dC (.int 1))) (dOp ixK (dVar 2) (dC (.int 1)))) (aNil)))))))))
def b_p_read_pick (c : Cl) : TS := sSeq (sAsg (dVar 0) (gLstT (gsCons (gName 1) (gsCons (gName 2) (gsCons (gName 3) (gsNil)))) 3)) (sSeq (sIf (tTru (dCmp eqC (dOp ixK (dVar 1) (dC (.int 0))) (dC (.int 1)))) (sRet (dIf (tTru (dCmp eqC (dOp ixK (dVar 1) (dC (.int 1))) (dC (.int 1)))) (dVar 2) (dVar 3))) (sNext)) (sSeq (sAsg (dOp andK (dOp andK (dOp ixK (dVar 2) (dC (.int 0))) (dOp ixK (dVar 3) (dC (.int 0)))) (dUn invK (dOp xorK (dOp ixK (dVar 2) (dC (.int 1))) (dOp ixK (dVar 3) (dC (.int 1)))))) (gName 4)) (sRet (dTup (aCons (dVar 4) (aCons (dOp andK (dOp ixK (dVar 2) (dC (.int 1))) (dVar 4)) (aNil)))))))
def b_p_read_wide (c : Cl) : TS := sSeq (sIf (tTru (dCmp gtC (dVar 0) (dVar 1))) (sRet (dTup (aCons (dOp orK (dOp ixK (dVar 2) (dC (.int 0))) (dOp subK (dVar 0) (dVar 1))) (aCons (dOp ixK (dVar 2) (dC (.int 1))) (aNil))))) (sNext)) (sRet (dTup (aCons (dOp andK (dOp ixK (dVar 2) (dC (.int 0))) (dVar 0)) (aCons (dOp andK (dOp ixK (dVar 2) (dC (.int 1))) (dVar 0)) (aNil)))))
def b_p_read_relation (c : Cl) : TS := sSeq (sIf (tTru (dCmp inC (dVar 0) (dTup (aCons (dC (.str "==")) (aCons (dC (.str "!=")) (aNil)))))) (sSeq (sAsg (dC .non) (gName 4)) (sSeq (sIf (tTru (dOp andK (dOp andK (dOp xorK (dOp ixK (dVar 1) (dC (.int 1))) (dOp ixK (dVar 2) (dC (.int 1)))) (dOp ixK (dVar 1) (dC (.int 0)))) (dOp ixK (dVar 2) (dC (.int 0))))) (sAsg (dC (.int 0)) (gName 4)) (sIf (tAnd (tTru (dCmp eqC (dOp ixK (dVar 1) (dC (.int 0))) (dVar 3))) (tTru (dCmp eqC (dOp ixK (dVar 2) (dC (.int 0))) (dVar 3)))) (sAsg (dC (.int 1)) (gName 4)) (sNext))) (sSeq (sIf (tTru (dCmp isC (dVar 4) (dC .non))) (sRet (dTup (aCons (dC (.int 0)) (aCons (dC (.int 0)) (aNil))))) (sNext)) (sRet (dTup (aCons (dC (.int 1)) (aCons (dIf (tTru (dCmp eqC (dVar 0) (dC (.str "==")))) (dVar 4) (dOp subK (dC (.int 1)) (dVar 4))) (aNil)))))))) (sNext)) (sSeq (sPar 5 6 (aCons (dOp ixK (dVar 1) (dC (.int 1))) (aCons (dOp orK (dOp ixK (dVar 1) (dC (.int 1))) (dOp subK (dVar 3) (dOp ixK (dVar 1) (dC (.int 0))))) (aNil)))) (sSeq (sPar 7 8 (aCons (dOp ixK (dVar 2) (dC (.int 1))) (aCons (dOp orK (dOp ixK (dVar 2) (dC (.int 1))) (dOp subK (dVar 3) (dOp ixK (dVar 2) (dC (.int 0))))) (aNil)))) (sSeq (sIf (tTru (dCmp eqC (dVar 0) (dC (.str "<")))) (sPar 9 10 (aCons (dCmp ltC (dVar 6) (dVar 7)) (aCons (dCmp geC (dVar 5) (dVar 8)) (aNil)))) (sPar 9 10 (aCons (dCmp leC (dVar 6) (dVar 7)) (aCons (dCmp gtC (dVar 5) (dVar 8)) (aNil))))) (sSeq (sIf (tOr (tTru (dVar 9)) (tTru (dVar 10))) (sRet (dTup (aCons (dC (.int 1)) (aCons (dB intB (aCons (dVar 9) (aNil))) (aNil))))) (sNext)) (sRet (dTup (aCons (dC (.int 0)) (aCons (dC (.int 0)) (aNil)))))))))
def b_l_begin (c : Cl) : TS := sRet (dLst (aCons (dLc (iSeq (dVar 0)) (gName 1) (tYes) (dB intB (aCons (dVar 1) (aNil))) [1]) (aCons (dC (.int 0)) (aCons (dC (.int 0)) (aCons (dC (.int 7)) (aCons (dC (.int 2)) (aNil)))))))
def b_l_draw (c : Cl) : TS := sSeq (sIf (tTru (dCmp gtC (dOp ixK (dVar 0) (dC (.int 2))) (dC (.int 0)))) (sSeq (sAsg (dOp ixK (dVar 0) (dC (.int 2))) (gName 2)) (sSeq (sAsg (dOp fdivK (dVar 2) (dVar 1)) (gSub (dVar 0) (dC (.int 2)))) (sRet (dOp modK (dB intB (aCons (dVar 2) (aNil))) (dVar 1))))) (sNext)) (sSeq (sAsg (dC (.int 0)) (gName 3)) (sSeq (sIf (tTru (dCmp ltC (dOp ixK (dVar 0) (dC (.int 1))) (dB lenB (aCons (dOp ixK (dVar 0) (dC (.int 0))) (aNil))))) (sSeq (sAsg (dOp ixK (dOp ixK (dVar 0) (dC (.int 0))) (dOp ixK (dVar 0) (dC (.int 1)))) (gName 4)) (sAsg (dOp addK (dOp mulK (dC (.int 2)) (dB absB (aCons (dVar 4) (aNil)))) (dB intB (aCons (dCmp ltC (dVar 4) (dC (.int 0))) (aNil)))) (gName 3))) (sNext)) (sSeq (sAugL iaddK (dVar 0) (dC (.int 1)) (dC (.int 1))) (sSeq (sIf (tTru (dCmp geC (dVar 3) (dOp mulK (dC (.int 2)) (dOp powK (dC (.int 10)) (dC (.int 18)))))) (sSeq (sAsg (dOp modK (dB intB (aCons (dOp fdivK (dVar 3) (dC (.int 2))) (aNil))) (dOp shlK (dC (.int 1)) (dC (.int 6000)))) (gName 2)) (sSeq (sAsg (dOp fdivK (dVar 2) (dVar 1)) (gSub (dVar 0) (dC (.int 2)))) (sRet (dOp modK (dB intB (aCons (dVar 2) (aNil))) (dVar 1))))) (sNext)) (sSeq (sAsg (dOp modK (dB intB (aCons (dOp addK (dOp addK (dOp addK (dOp mulK (dOp ixK (dVar 0) (dC (.int 3))) (dC (.int 48271))) (dOp mulK (dOp modK (dB intB (aCons (dVar 3) (aNil))) (dC (.int 2147483629))) (dC (.int 16807)))) (dOp mulK (dOp ixK (dVar 0) (dC (.int 1))) (dC (.int 69621)))) (dC (.int 11))) (aNil))) (dC (.int 2147483647))) (gSub (dVar 0) (dC (.int 3)))) (sRet (dOp modK (dB intB (aCons (dOp fdivK (dOp ixK (dVar 0) (dC (.int 3))) (dC (.int 16))) (aNil))) (dVar 1))))))))
def b_l_pick (c : Cl) : TS := sRet (dOp ixK (dVar 1) (dCall c "_law_draw" (aCons (dVar 0) (aCons (dB lenB (aCons (dVar 1) (aNil))) (aNil)))))
def b_l_rare (c : Cl) : TS := sRet (dCmp eqC (dCall c "_law_draw" (aCons (dVar 0) (aCons (dVar 1) (aNil)))) (dOp fdivK (dVar 1) (dC (.int 2))))
def b_l_shuffled (c : Cl) : TS := sSeq (sAsg (dB listB (aCons (dVar 1) (aNil))) (gName 2)) (sSeq (sAsg (dLst (aNil)) (gName 3)) (sSeq (sFor (iR1 (dB lenB (aCons (dVar 2) (aNil)))) (gName 4) (sExpr (dM tyLst appendM (dVar 3) (aCons (dM tyLst popM (dVar 2) (aCons (dCall c "_law_draw" (aCons (dVar 0) (aCons (dB lenB (aCons (dVar 2) (aNil))) (aNil)))) (aNil))) (aNil))))) (sRet (dVar 3))))
def b_l_is_int (c : Cl) : TS := sRet (dAndT (dIsi .int (dVar 0)) (dNotT (dIsi .bool (dVar 0))))
def b_l_ops (c : Cl) : TS := sRet (dLst (aCons (dC (.str "+")) (aCons (dC (.str "-")) (aCons (dC (.str "*")) (aCons (dC (.str "&")) (aCons (dC (.str "|")) (aCons (dC (.str "^")) (aCons (dC (.str "<<")) (aCons (dC (.str ">>")) (aCons (dC (.str "div")) (aCons (dC (.str "rem")) (aCons (dC (.str "==")) (aCons (dC (.str "!=")) (aCons (dC (.str "<")) (aCons (dC (.str "<=")) (aCons (dC (.str "not")) (aCons (dC (.str "neg")) (aCons (dC (.str "wide")) (aCons (dC (.str "pick")) (aNil))))))))))))))))))))
def b_l_spans (c : Cl) : TS := sRet (dLst (aCons (dLst (aCons (dC (.int 2)) (aNil))) (aCons (dLst (aCons (dC (.int 3)) (aNil))) (aCons (dLst (aCons (dC (.int 2)) (aCons (dC (.int 2)) (aNil)))) (aCons (dLst (aCons (dC (.int 1)) (aCons (dC (.int 3)) (aNil)))) (aCons (dLst (aCons (dC (.int 4)) (aNil))) (aCons (dLst (aCons (dC (.int 3)) (aCons (dC (.int 3)) (aNil)))) (aCons (dLst (aCons (dC (.int 2)) (aCons (dC (.int 1)) (aCons (dC (.int 3)) (aNil))))) (aCons (dLst (aCons (dC (.int 8)) (aNil))) (aCons (dLst (aCons (dC (.int 5)) (aNil))) (aCons (dLst (aCons (dC (.int 4)) (aCons (dC (.int 4)) (aNil)))) (aCons (dLst (aCons (dC (.int 1)) (aNil))) (aCons (dLst (aCons (dC (.int 6)) (aNil))) (aCons (dLst (aCons (dC (.int 1)) (aCons (dC (.int 1)) (aCons (dC (.int 1)) (aNil))))) (aNil)))))))))))))))
def b_l_span_leaf (c : Cl) : TS := sSeq (sIf (tTru (dCmp gtC (dCall c "_law_draw" (aCons (dVar 0) (aCons (dC (.int 3)) (aNil)))) (dC (.int 0)))) (sSeq (sAsg (dOp subK (dOp shlK (dC (.int 1)) (dVar 2)) (dC (.int 1))) (gName 3)) (sRet (dTup (aCons (dC (.str "word")) (aCons (dVar 2) (aCons (dCall c "_law_pick" (aCons (dVar 0) (aCons (dLst (aCons (dC (.int 0)) (aCons (dC (.int 1)) (aCons (dVar 3) (aCons (dOp shrK (dVar 3) (dC (.int 1))) (aCons (dVar 2) (aCons (dCall c "_law_draw" (aCons (dVar 0) (aCons (dOp addK (dVar 3) (dC (.int 1))) (aNil)))) (aNil)))))))) (aNil)))) (aNil))))))) (sNext)) (sSeq (sAsg (dCall c "_law_draw" (aCons (dVar 0) (aCons (dB lenB (aCons (dVar 1) (aNil))) (aNil)))) (gName 4)) (sRet (dTup (aCons (dC (.str "input")) (aCons (dOp addK (dC (.int 1)) (dCall c "_law_draw" (aCons (dVar 0) (aCons (dOp ixK (dVar 1) (dVar 4)) (aNil))))) (aCons (dVar 4) (aNil)))))))
def b_l_node_drawn (c : Cl) : TS := sSeq (sAsg (dB lenB (aCons (dVar 1) (aNil))) (gName 2)) (sSeq (sIf (tTru (dCmp eqC (dCall c "_law_draw" (aCons (dVar 0) (aCons (dC (.int 3)) (aNil)))) (dC (.int 1)))) (sAsg (dB min2B (aCons (dC (.int 4)) (aCons (dVar 2) (aNil)))) (gName 2)) (sNext)) (sSeq (sAsg (dOp subK (dOp subK (dB lenB (aCons (dVar 1) (aNil))) (dC (.int 1))) (dCall c "_law_draw" (aCons (dVar 0) (aCons (dVar 2) (aNil))))) (gName 3)) (sSeq (sAsg (dOp ixK (dOp ixK (dVar 1) (dVar 3)) (dC (.int 1))) (gName 4)) (sSeq (sAsg (dLc (iR1 (dB lenB (aCons (dVar 1) (aNil)))) (gName 9) (tTru (dCmp eqC (dOp ixK (dOp ixK (dVar 1) (dVar 9)) (dC (.int 1))) (dVar 4))) (dVar 9) [9]) (gName 5)) (sSeq (sAsg (dLc (iR1 (dB lenB (aCons (dVar 1) (aNil)))) (gName 9) (tTru (dCmp eqC (dOp ixK (dOp ixK (dVar 1) (dVar 9)) (dC (.int 1))) (dC (.int 1)))) (dVar 9) [9]) (gName 6)) (sSeq (sAsg (dCall c "_law_pick" (aCons (dVar 0) (aCons (dCall c "_law_ops" aNil) (aNil)))) (gName 7)) (sSeq (sIf (tTru (dCmp inC (dVar 7) (dLst (aCons (dC (.str "not")) (aCons (dC (.str "neg")) (aNil)))))) (sRet (dTup (aCons (dVar 7) (aCons (dVar 4) (aCons (dVar 3) (aNil)))))) (sNext)) (sSeq (sIf (tTru (dCmp eqC (dVar 7) (dC (.str "wide")))) (sRet (dTup (aCons (dVar 7) (aCons (dOp addK (dC (.int 1)) (dCall c "_law_draw" (aCons (dVar 0) (aCons (dC (.int 8)) (aNil))))) (aCons (dVar 3) (aNil)))))) (sNext)) (sSeq (sIf (tTru (dCmp inC (dVar 7) (dLst (aCons (dC (.str "<<")) (aCons (dC (.str ">>")) (aNil)))))) (sRet (dTup (aCons (dVar 7) (aCons (dVar 4) (aCons (dVar 3) (aCons (dCall c "_law_draw" (aCons (dVar 0) (aCons (dB lenB (aCons (dVar 1) (aNil))) (aNil)))) (aNil))))))) (sNext)) (sSeq (sAsg (dCall c "_law_pick" (aCons (dVar 0) (aCons (dVar 5) (aNil)))) (gName 8)) (sSeq (sIf (tAnd (tTru (dCmp eqC (dVar 7) (dC (.str "pick")))) (tTru (dVar 6))) (sRet (dTup (aCons (dVar 7) (aCons (dVar 4) (aCons (dCall c "_law_pick" (aCons (dVar 0) (aCons (dVar 6) (aNil)))) (aCons (dVar 3) (aCons (dVar 8) (aNil)))))))) (sNext)) (sSeq (sIf (tTru (dCmp inC (dVar 7) (dLst (aCons (dC (.str "==")) (aCons (dC (.str "!=")) (aCons (dC (.str "<")) (aCons (dC (.str "<=")) (aCons (dC (.str "pick")) (aNil))))))))) (sRet (dTup (aCons (dIf (tTru (dCmp eqC (dVar 7) (dC (.str "pick")))) (dC (.str "==")) (dVar 7)) (aCons (dC (.int 1)) (aCons (dVar 3) (aCons (dVar 8) (aNil))))))) (sNext)) (sRet (dTup (aCons (dVar 7) (aCons (dVar 4) (aCons (dVar 3) (aCons (dVar 8) (aNil)))))))))))))))))))
def b_l_span_sheet (c : Cl) : TS := sSeq (sAsg (dOp addK (dC (.int 1)) (dCall c "_law_draw" (aCons (dVar 0) (aCons (dC (.int 8)) (aNil))))) (gName 4)) (sSeq (sAsg (dLc (iR1 (dB lenB (aCons (dVar 1) (aNil)))) (gName 8) (tYes) (dTup (aCons (dC (.str "input")) (aCons (dOp ixK (dVar 1) (dVar 8)) (aCons (dVar 8) (aNil))))) [8]) (gName 5)) (sSeq (sIf (tTru (dCall c "_law_rare" (aCons (dVar 0) (aCons (dC (.int 5)) (aNil))))) (sAsg (dSl (dVar 5) (oSome (dC (.int 1))) (oNone)) (gName 5)) (sNext)) (sSeq (sFor (iR1 (dVar 2)) (gName 6) (sSeq (sAsg (dCall c "_law_span_leaf" (aCons (dVar 0) (aCons (dVar 1) (aCons (dCall c "_law_pick" (aCons (dVar 0) (aCons (dLst (aCons (dCall c "_law_pick" (aCons (dVar 0) (aCons (dVar 1) (aNil)))) (aCons (dVar 4) (aCons (dC (.int 1)) (aNil))))) (aNil)))) (aNil))))) (gName 7)) (sIf (tTru (dCmp notinDC (dVar 7) (dVar 5))) (sExpr (dM tyLst appendM (dVar 5) (aCons (dVar 7) (aNil)))) (sNext)))) (sSeq (sFor (iR1 (dVar 3)) (gName 6) (sSeq (sAsg (dCall c "_law_node_drawn" (aCons (dVar 0) (aCons (dVar 5) (aNil)))) (gName 7)) (sIf (tTru (dCmp notinDC (dVar 7) (dVar 5))) (sExpr (dM tyLst appendM (dVar 5) (aCons (dVar 7) (aNil)))) (sNext)))) (sRet (dB tupleB (aCons (dVar 5) (aNil))))))))
def b_l_leaf_column (c : Cl) : TS := sSeq (sAsg (dOp shlK (dC (.int 1)) (dB sumB (aCons (dVar 1) (aNil)))) (gName 2)) (sSeq (sIf (tTru (dCmp eqC (dOp ixK (dVar 0) (dC (.int 0))) (dC (.str "word")))) (sRet (dLc (iR1 (dVar 2)) (gName 5) (tYes) (dOp ixK (dVar 0) (dC (.int 2))) [5])) (sNext)) (sSeq (sIf (tTru (dCmp geC (dOp ixK (dVar 0) (dC (.int 2))) (dB lenB (aCons (dVar 1) (aNil))))) (sRet (dLc (iR1 (dVar 2)) (gName 5) (tYes) (dC (.int 0)) [5])) (sNext)) (sSeq (sAsg (dB sumB (aCons (dSl (dVar 1) (oNone) (oSome (dOp ixK (dVar 0) (dC (.int 2))))) (aNil))) (gName 3)) (sSeq (sAsg (dOp subK (dOp shlK (dC (.int 1)) (dB min2B (aCons (dOp ixK (dVar 0) (dC (.int 1))) (aCons (dOp ixK (dVar 1) (dOp ixK (dVar 0) (dC (.int 2)))) (aNil))))) (dC (.int 1))) (gName 4)) (sRet (dLc (iR1 (dVar 2)) (gName 5) (tYes) (dOp andK (dOp shrK (dVar 5) (dVar 3)) (dVar 4)) [5]))))))
def b_l_op_column (c : Cl) : TS := sSeq (sAsg (dOp subK (dOp shlK (dC (.int 1)) (dVar 1)) (dC (.int 1))) (gName 3)) (sSeq (sAsg (dOp ixK (dVar 2) (dC (.int 0))) (gName 4)) (sSeq (sIf (tTru (dCmp eqC (dVar 0) (dC (.str "not")))) (sRet (dLc (iSeq (dVar 4)) (gName 6) (tYes) (dOp subK (dVar 3) (dVar 6)) [6])) (sNext)) (sSeq (sIf (tTru (dCmp eqC (dVar 0) (dC (.str "neg")))) (sRet (dLc (iSeq (dVar 4)) (gName 6) (tYes) (dOp andK (dOp subK (dOp addK (dVar 3) (dC (.int 1))) (dVar 6)) (dVar 3)) [6])) (sNext)) (sSeq (sIf (tTru (dCmp eqC (dVar 0) (dC (.str "wide")))) (sRet (dLc (iSeq (dVar 4)) (gName 6) (tYes) (dOp andK (dVar 6) (dVar 3)) [6])) (sNext)) (sSeq (sIf (tTru (dCmp eqC (dVar 0) (dC (.str "pick")))) (sRet (dLc (iZip3 (dVar 4) (dOp ixK (dVar 2) (dC (.int 1))) (dOp ixK (dVar 2) (dC (.int 2)))) (gTup (gsCons (gName 7) (gsCons (gName 6) (gsCons (gName 8) (gsNil)))) 3) (tYes) (dIf (tTru (dCmp eqC (dVar 7) (dC (.int 1)))) (dVar 6) (dVar 8)) [7, 6, 8])) (sNext)) (sSeq (sAsg (dLZ (dVar 4) (dOp ixK (dVar 2) (dC (.int 1)))) (gName 5)) (sSeq (sIf (tTru (dCmp eqC (dVar 0) (dC (.str "+")))) (sRet (dLc (iSeq (dVar 5)) (gTup (gsCons (gName 6) (gsCons (gName 8) (gsNil))) 2) (tYes) (dOp andK (dOp addK (dVar 6) (dVar 8)) (dVar 3)) [6, 8])) (sNext)) (sSeq (sIf (tTru (dCmp eqC (dVar 0) (dC (.str "-")))) (sRet (dLc (iSeq (dVar 5)) (gTup (gsCons (gName 6) (gsCons (gName 8) (gsNil))) 2) (tYes) (dOp andK (dOp subK (dVar 6) (dVar 8)) (dVar 3)) [6, 8])) (sNext)) (sSeq (sIf (tTru (dCmp eqC (dVar 0) (dC (.str "*")))) (sRet (dLc (iSeq (dVar 5)) (gTup (gsCons (gName 6) (gsCons (gName 8) (gsNil))) 2) (tYes) (dOp andK (dOp mulK (dVar 6) (dVar 8)) (dVar 3)) [6, 8])) (sNext)) (sSeq (sIf (tTru (dCmp eqC (dVar 0) (dC (.str "&")))) (sRet (dLc (iSeq (dVar 5)) (gTup (gsCons (gName 6) (gsCons (gName 8) (gsNil))) 2) (tYes) (dOp andK (dVar 6) (dVar 8)) [6, 8])) (sNext)) (sSeq (sIf (tTru (dCmp eqC (dVar 0) (dC (.str "|")))) (sRet (dLc (iSeq (dVar 5)) (gTup (gsCons (gName 6) (gsCons (gName 8) (gsNil))) 2) (tYes) (dOp orK (dVar 6) (dVar 8)) [6, 8])) (sNext)) (sSeq (sIf (tTru (dCmp eqC (dVar 0) (dC (.str "^")))) (sRet (dLc (iSeq (dVar 5)) (gTup (gsCons (gName 6) (gsCons (gName 8) (gsNil))) 2) (tYes) (dOp xorK (dVar 6) (dVar 8)) [6, 8])) (sNext)) (sRet (dCall c "_law_more_column" (aCons (dVar 0) (aCons (dVar 3) (aCons (dVar 5) (aNil))))))))))))))))))
def b_l_more_column (c : Cl) : TS := sSeq (sIf (tTru (dCmp eqC (dVar 0) (dC (.str "<<")))) (sRet (dLc (iSeq (dVar 2)) (gTup (gsCons (gName 3) (gsCons (gName 4) (gsNil))) 2) (tYes) (dOp andK (dOp shlK (dVar 3) (dVar 4)) (dVar 1)) [3, 4])) (sNext)) (sSeq (sIf (tTru (dCmp eqC (dVar 0) (dC (.str ">>")))) (sRet (dLc (iSeq (dVar 2)) (gTup (gsCons (gName 3) (gsCons (gName 4) (gsNil))) 2) (tYes) (dOp shrK (dVar 3) (dVar 4)) [3, 4])) (sNext)) (sSeq (sIf (tTru (dCmp eqC (dVar 0) (dC (.str "div")))) (sRet (dLc (iSeq (dVar 2)) (gTup (gsCons (gName 3) (gsCons (gName 4) (gsNil))) 2) (tYes) (dIf (tTru (dCmp gtC (dVar 4) (dC (.int 0)))) (dOp fdivK (dVar 3) (dVar 4)) (dC (.int 0))) [3, 4])) (sNext)) (sSeq (sIf (tTru (dCmp eqC (dVar 0) (dC (.str "rem")))) (sRet (dLc (iSeq (dVar 2)) (gTup (gsCons (gName 3) (gsCons (gName 4) (gsNil))) 2) (tYes) (dIf (tTru (dCmp gtC (dVar 4) (dC (.int 0)))) (dOp subK (dVar 3) (dOp mulK (dVar 4) (dOp fdivK (dVar 3) (dVar 4)))) (dC (.int 0))) [3, 4])) (sNext)) (sSeq (sIf (tTru (dCmp eqC (dVar 0) (dC (.str "==")))) (sRet (dLc (iSeq (dVar 2)) (gTup (gsCons (gName 3) (gsCons (gName 4) (gsNil))) 2) (tYes) (dB intB (aCons (dCmp eqC (dVar 3) (dVar 4)) (aNil))) [3, 4])) (sNext)) (sSeq (sIf (tTru (dCmp eqC (dVar 0) (dC (.str "!=")))) (sRet (dLc (iSeq (dVar 2)) (gTup (gsCons (gName 3) (gsCons (gName 4) (gsNil))) 2) (tYes) (dB intB (aCons (dCmp neC (dVar 3) (dVar 4)) (aNil))) [3, 4])) (sNext)) (sSeq (sIf (tTru (dCmp eqC (dVar 0) (dC (.str "<")))) (sRet (dLc (iSeq (dVar 2)) (gTup (gsCons (gName 3) (gsCons (gName 4) (gsNil))) 2) (tYes) (dB intB (aCons (dCmp ltC (dVar 3) (dVar 4)) (aNil))) [3, 4])) (sNext)) (sRet (dLc (iSeq (dVar 2)) (gTup (gsCons (gName 3) (gsCons (gName 4) (gsNil))) 2) (tYes) (dB intB (aCons (dCmp leC (dVar 3) (dVar 4)) (aNil))) [3, 4]))))))))
def b_l_node_column (c : Cl) : TS := sSeq (sIf (tTru (dCmp inC (dOp ixK (dVar 0) (dC (.int 0))) (dLst (aCons (dC (.str "word")) (aCons (dC (.str "input")) (aNil)))))) (sRet (dCall c "_law_leaf_column" (aCons (dVar 0) (aCons (dVar 1) (aNil))))) (sNext)) (sRet (dCall c "_law_op_column" (aCons (dOp ixK (dVar 0) (dC (.int 0))) (aCons (dOp ixK (dVar 0) (dC (.int 1))) (aCons (dLc (iSeq (dSl (dVar 0) (oSome (dC (.int 2))) (oNone))) (gName 3) (tYes) (dOp ixK (dVar 2) (dVar 3)) [3]) (aNil))))))
def b_l_is_pair (c : Cl) : TS := sRet (dAndT (dIsi .tuple (dVar 0)) (dAndT (dCmp eqC (dB lenB (aCons (dVar 0) (aNil))) (dC (.int 2))) (dAndT (dCall c "_law_is_int" (aCons (dOp ixK (dVar 0) (dC (.int 0))) (aNil))) (dCall c "_law_is_int" (aCons (dOp ixK (dVar 0) (dC (.int 1))) (aNil))))))
def b_l_reached_bits (c : Cl) : TS := sSeq (sIf (tTru (dCmp eqC (dOp ixK (dVar 0) (dC (.int 0))) (dC (.str "word")))) (sRet (dC (.int 0))) (sNext)) (sSeq (sIf (tTru (dCmp eqC (dOp ixK (dVar 0) (dC (.int 0))) (dC (.str "input")))) (sRet (dOp shlK (dOp subK (dOp shlK (dC (.int 1)) (dOp ixK (dVar 0) (dC (.int 1)))) (dC (.int 1))) (dB sumB (aCons (dSl (dVar 1) (oNone) (oSome (dOp ixK (dVar 0) (dC (.int 2))))) (aNil))))) (sNext)) (sSeq (sAsg (dC (.int 0)) (gName 3)) (sSeq (sFor (iSeq (dSl (dVar 0) (oSome (dC (.int 2))) (oNone))) (gName 4) (sAsg (dOp orK (dVar 3) (dOp ixK (dVar 2) (dVar 4))) (gName 3))) (sRet (dVar 3)))))
def b_l_pairs_told (c : Cl) : TS := sSeq (sAsg (dLst (aNil)) (gName 4)) (sSeq (sFor (iR1 (dB lenB (aCons (dVar 0) (aNil)))) (gName 5) (sSeq (sAsg (dCall c "read_term" (aCons (dVar 0) (aCons (dVar 1) (aCons (dVar 5) (aNil))))) (gName 6)) (sSeq (sIf (tOr (tNot (tTru (dCall c "_law_is_pair" (aCons (dVar 6) (aNil))))) (tOr (tNot (tTru (dChain leC ltC (dC (.int 0)) (dOp ixK (dVar 6) (dC (.int 0))) (dOp shlK (dC (.int 1)) (dOp ixK (dOp ixK (dVar 0) (dVar 5)) (dC (.int 1))))))) (tTru (dCmp neC (dOp andK (dOp ixK (dVar 6) (dC (.int 1))) (dOp ixK (dVar 6) (dC (.int 0)))) (dOp ixK (dVar 6) (dC (.int 1))))))) (sRet (dC .non)) (sNext)) (sSeq (sAsg (dLc (iSeq (dVar 3)) (gName 8) (tTru (dCmp neC (dOp andK (dOp ixK (dOp ixK (dVar 2) (dVar 5)) (dVar 8)) (dOp ixK (dVar 6) (dC (.int 0)))) (dOp ixK (dVar 6) (dC (.int 1))))) (dVar 8) [8]) (gName 7)) (sSeq (sIf (tTru (dVar 7)) (sRet (dC .non)) (sNext)) (sExpr (dM tyLst appendM (dVar 4) (aCons (dVar 6) (aNil))))))))) (sRet (dVar 4)))
def b_l_pairs_right (c : Cl) : TS := sSeq (sFor (iR1 (dB lenB (aCons (dVar 0) (aNil)))) (gName 7) (sSeq (sIf (tTru (dCmp neC (dOp andK (dOp ixK (dOp ixK (dVar 1) (dVar 7)) (dC (.int 0))) (dOp ixK (dOp ixK (dVar 2) (dVar 7)) (dC (.int 0)))) (dOp ixK (dOp ixK (dVar 2) (dVar 7)) (dC (.int 0))))) (sRet (dC (.bl false))) (sNext)) (sSeq (sIf (tTru (dCmp neC (dOp andK (dOp ixK (dOp ixK (dVar 1) (dVar 7)) (dC (.int 1))) (dOp ixK (dOp ixK (dVar 2) (dVar 7)) (dC (.int 0)))) (dOp ixK (dOp ixK (dVar 2) (dVar 7)) (dC (.int 1))))) (sRet (dC (.bl false))) (sNext)) (sIf (tAnd (tTru (dCmp eqC (dOp andK (dOp ixK (dVar 4) (dVar 7)) (dUn invK (dVar 5))) (dC (.int 0)))) (tTru (dCmp neC (dOp ixK (dVar 1) (dVar 7)) (dTup (aCons (dOp subK (dOp shlK (dC (.int 1)) (dOp ixK (dOp ixK (dVar 0) (dVar 7)) (dC (.int 1)))) (dC (.int 1))) (aCons (dOp ixK (dOp ixK (dVar 3) (dVar 7)) (dVar 6)) (aNil))))))) (sRet (dC (.bl false))) (sNext))))) (sRet (dC (.bl true)))
def b_l_law (c : Cl) : TS := sSeq (sAsg (dCall c "_law_begin" (aCons (dVar 0) (aNil))) (gName 1)) (sSeq (sAsg (dCall c "_law_pick" (aCons (dVar 1) (aCons (dCall c "_law_spans" aNil) (aNil)))) (gName 2)) (sSeq (sAsg (dCall c "_law_span_sheet" (aCons (dVar 1) (aCons (dVar 2) (aCons (dOp addK (dC (.int 2)) (dCall c "_law_draw" (aCons (dVar 1) (aCons (dC (.int 4)) (aNil))))) (aCons (dOp addK (dC (.int 3)) (dCall c "_law_draw" (aCons (dVar 1) (aCons (dC (.int 10)) (aNil))))) (aNil)))))) (gName 3)) (sSeq (sPar 4 5 (aCons (dLst (aNil)) (aCons (dLst (aNil)) (aNil)))) (sSeq (sFor (iSeq (dVar 3)) (gName 6) (sSeq (sExpr (dM tyLst appendM (dVar 4) (aCons (dCall c "_law_node_column" (aCons (dVar 6) (aCons (dVar 2) (aCons (dVar 4) (aNil))))) (aNil)))) (sExpr (dM tyLst appendM (dVar 5) (aCons (dCall c "_law_reached_bits" (aCons (dVar 6) (aCons (dVar 2) (aCons (dVar 5) (aNil))))) (aNil)))))) (sSeq (sAsg (dCall c "_law_draw" (aCons (dVar 1) (aCons (dOp shlK (dC (.int 1)) (dB sumB (aCons (dVar 2) (aNil)))) (aNil)))) (gName 7)) (sSeq (sAsg (dLst (aNil)) (gName 8)) (sSeq (sFor (iR1 (dB lenB (aCons (dVar 2) (aNil)))) (gName 9) (sExpr (dM tyLst extendAM (dVar 8) (aCons (dLc (iR1 (dOp ixK (dVar 2) (dVar 9))) (gName 15) (tYes) (dTup (aCons (dVar 9) (aCons (dVar 15) (aNil)))) [15]) (aNil))))) (sSeq (sAsg (dCall c "_law_shuffled" (aCons (dVar 1) (aCons (dVar 8) (aNil)))) (gName 8)) (sSeq (sAsg (dLc (iSeq (dVar 2)) (gName 19) (tYes) (dTup (aCons (dC (.int 0)) (aCons (dC (.int 0)) (aNil)))) [19]) (gName 10)) (sSeq (sAsg (dLR (rg1 (dOp shlK (dC (.int 1)) (dB sumB (aCons (dVar 2) (aNil)))))) (gName 11)) (sSeq (sAsg (dC (.int 0)) (gName 12)) (sSeq (sAsg (dLc (iSeq (dVar 3)) (gName 6) (tYes) (dTup (aCons (dC (.int 0)) (aCons (dC (.int 0)) (aNil)))) [6]) (gName 13)) (sSeq (sFor (iR1 (dOp addK (dB lenB (aCons (dVar 8) (aNil))) (dC (.int 1)))) (gName 14) (sSeq (sIf (tTru (dCmp gtC (dVar 14) (dC (.int 0)))) (sSeq (sAsg (dOp ixK (dVar 8) (dOp subK (dVar 14) (dC (.int 1)))) (gTup (gsCons (gName 9) (gsCons (gName 15) (gsNil))) 2)) (sSeq (sAsg (dOp addK (dB sumB (aCons (dSl (dVar 2) (oNone) (oSome (dVar 9))) (aNil))) (dVar 15)) (gName 16)) (sSeq (sAsg (dOp andK (dOp shrK (dVar 7) (dVar 16)) (dC (.int 1))) (gName 17)) (sSeq (sAsg (dTup (aCons (dOp orK (dOp ixK (dOp ixK (dVar 10) (dVar 9)) (dC (.int 0))) (dOp shlK (dC (.int 1)) (dVar 15))) (aCons (dOp orK (dOp ixK (dOp ixK (dVar 10) (dVar 9)) (dC (.int 1))) (dOp shlK (dVar 17) (dVar 15))) (aNil)))) (gSub (dVar 10) (dVar 9))) (sSeq (sAsg (dLc (iSeq (dVar 11)) (gName 20) (tTru (dCmp eqC (dOp andK (dOp shrK (dVar 20) (dVar 16)) (dC (.int 1))) (dVar 17))) (dVar 20) [20]) (gName 11)) (sAsg (dOp orK (dVar 12) (dOp shlK (dC (.int 1)) (dVar 16))) (gName 12))))))) (sNext)) (sSeq (sAsg (dCall c "_law_pairs_told" (aCons (dVar 3) (aCons (dB tupleB (aCons (dVar 10) (aNil))) (aCons (dVar 4) (aCons (dVar 11) (aNil)))))) (gName 18)) (sSeq (sIf (tOr (tTru (dCmp isC (dVar 18) (dC .non))) (tNot (tTru (dCall c "_law_pairs_right" (aCons (dVar 3) (aCons (dVar 18) (aCons (dVar 13) (aCons (dVar 4) (aCons (dVar 5) (aCons (dVar 12) (aCons (dVar 7) (aNil)))))))))))) (sRet (dC (.bl false))) (sNext)) (sAsg (dVar 18) (gName 13)))))) (sRet (dC (.bl true))))))))))))))))
def prog : String → Option Def
  | "greatest" => some ⟨1, 1, b_p_greatest⟩
  | "related" => some ⟨3, 3, b_p_related⟩
  | "shifted" => some ⟨4, 4, b_p_shifted⟩
  | "divided" => some ⟨3, 3, b_p_divided⟩
  | "reckoned" => some ⟨3, 3, b_p_reckoned⟩
  | "result" => some ⟨3, 5, b_p_result⟩
  | "needed_for" => some ⟨2, 5, b_p_needed_for⟩
  | "read_term" => some ⟨3, 3, b_p_read_term⟩
  | "read_nodes" => some ⟨3, 10, b_p_read_nodes⟩
  | "read_one" => some ⟨3, 5, b_p_read_one⟩
  | "read_bits" => some ⟨3, 5, b_p_read_bits⟩
  | "read_sum" => some ⟨3, 15, b_p_read_sum⟩
  | "read_product" => some ⟨3, 6, b_p_read_product⟩
  | "read_shift" => some ⟨4, 7, b_p_read_shift⟩
  | "read_pick" => some ⟨1, 5, b_p_read_pick⟩
  | "read_wide" => some ⟨3, 3, b_p_read_wide⟩
  | "read_relation" => some ⟨4, 11, b_p_read_relation⟩
  | "_law_begin" => some ⟨1, 2, b_l_begin⟩
  | "_law_draw" => some ⟨2, 5, b_l_draw⟩
  | "_law_pick" => some ⟨2, 2, b_l_pick⟩
  | "_law_rare" => some ⟨2, 2, b_l_rare⟩
  | "_law_shuffled" => some ⟨2, 5, b_l_shuffled⟩
  | "_law_is_int" => some ⟨1, 1, b_l_is_int⟩
  | "_law_ops" => some ⟨0, 0, b_l_ops⟩
  | "_law_spans" => some ⟨0, 0, b_l_spans⟩
  | "_law_span_leaf" => some ⟨3, 5, b_l_span_leaf⟩
  | "_law_node_drawn" => some ⟨2, 10, b_l_node_drawn⟩
  | "_law_span_sheet" => some ⟨4, 9, b_l_span_sheet⟩
  | "_law_leaf_column" => some ⟨2, 6, b_l_leaf_column⟩
  | "_law_op_column" => some ⟨3, 9, b_l_op_column⟩
  | "_law_more_column" => some ⟨3, 5, b_l_more_column⟩
  | "_law_node_column" => some ⟨3, 4, b_l_node_column⟩
  | "_law_is_pair" => some ⟨1, 1, b_l_is_pair⟩
  | "_law_reached_bits" => some ⟨3, 5, b_l_reached_bits⟩
  | "_law_pairs_told" => some ⟨4, 9, b_l_pairs_told⟩
  | "_law_pairs_right" => some ⟨7, 8, b_l_pairs_right⟩
  | "law" => some ⟨1, 21, b_l_law⟩
  | _ => none
end Pk35
end PartPdk35B

section PartPdk35L
set_option Elab.async false
set_option linter.all false
set_option maxRecDepth 100000
set_option maxHeartbeats 4000000
namespace Pk35
open PySem PySem.Spec Pd
open PyProof.Rows (envOfC)
def topS (i : Nat) : Stmt := PySem.Challenge.pw_metorshut_k35_whole_cubes.main.body.getD i (.Pass ⟨0, 0, 0, 0⟩)
abbrev names : List String := ["greatest", "related", "shifted", "divided", "reckoned", "needed_for", "read_term", "read_nodes", "read_one", "read_bits", "read_sum", "read_product", "read_shift", "read_pick", "read_wide", "read_relation", "_law_begin", "_law_draw", "_law_pick", "_law_rare", "_law_shuffled", "_law_is_int", "_law_ops", "_law_spans", "_law_span_leaf", "_law_node_drawn", "_law_span_sheet", "_law_leaf_column", "_law_op_column", "_law_more_column", "_law_node_column", "_law_is_pair", "_law_reached_bits", "_law_pairs_told", "_law_pairs_right", "law"]
abbrev snames : List (String × Nat) := [("result", 2)]
abbrev blts : List String := ["abs", "bool", "int", "isinstance", "len", "list", "min", "range", "sorted", "sum", "tuple", "zip"]
abbrev sp_greatest : Stmt := topS 1
abbrev np_greatest : List Str := ["width"]
theorem scp_greatest : L2.FnScope np_greatest ["width"] (L2.defScope sp_greatest) := ⟨rfl, rfl, rfl, by decide +kernel, rfl, by decide +kernel, by decide +kernel⟩
abbrev sp_related : Stmt := topS 2
abbrev np_related : List Str := ["op", "left", "right"]
theorem scp_related : L2.FnScope np_related ["op", "left", "right"] (L2.defScope sp_related) := ⟨rfl, rfl, rfl, by decide +kernel, rfl, by decide +kernel, by decide +kernel⟩
abbrev sp_shifted : Stmt := topS 3
abbrev np_shifted : List Str := ["op", "width", "left", "right"]
theorem scp_shifted : L2.FnScope np_shifted ["op", "width", "left", "right"] (L2.defScope sp_shifted) := ⟨rfl, rfl, rfl, by decide +kernel, rfl, by decide +kernel, by decide +kernel⟩
abbrev sp_divided : Stmt := topS 4
abbrev np_divided : List Str := ["op", "left", "right"]
theorem scp_divided : L2.FnScope np_divided ["op", "left", "right"] (L2.defScope sp_divided) := ⟨rfl, rfl, rfl, by decide +kernel, rfl, by decide +kernel, by decide +kernel⟩
abbrev sp_reckoned : Stmt := topS 5
abbrev np_reckoned : List Str := ["op", "left", "right"]
theorem scp_reckoned : L2.FnScope np_reckoned ["op", "left", "right"] (L2.defScope sp_reckoned) := ⟨rfl, rfl, rfl, by decide +kernel, rfl, by decide +kernel, by decide +kernel⟩
abbrev sp_result : Stmt := topS 6
abbrev np_result : List Str := ["op", "width", "words", "left", "right"]
theorem scp_result : L2.FnScope np_result ["op", "width", "words"] (L2.defScope sp_result) := ⟨rfl, rfl, rfl, by decide +kernel, rfl, by decide +kernel, by decide +kernel⟩
abbrev sp_needed_for : Stmt := topS 8
abbrev np_needed_for : List Str := ["nodes", "terms", "met", "waiting", "term"]
theorem scp_needed_for : L2.FnScope np_needed_for ["nodes", "terms"] (L2.defScope sp_needed_for) := ⟨rfl, rfl, rfl, by decide +kernel, rfl, by decide +kernel, by decide +kernel⟩
abbrev sp_read_term : Stmt := topS 10
abbrev np_read_term : List Str := ["nodes", "cube", "term"]
theorem scp_read_term : L2.FnScope np_read_term ["nodes", "cube", "term"] (L2.defScope sp_read_term) := ⟨rfl, rfl, rfl, by decide +kernel, rfl, by decide +kernel, by decide +kernel⟩
abbrev sp_read_nodes : Stmt := topS 11
abbrev np_read_nodes : List Str := ["nodes", "numbers", "cube", "found", "number", "node", "full", "pair", "parts", "part"]
theorem scp_read_nodes : L2.FnScope np_read_nodes ["nodes", "numbers", "cube"] (L2.defScope sp_read_nodes) := ⟨rfl, rfl, rfl, by decide +kernel, rfl, by decide +kernel, by decide +kernel⟩
abbrev sp_read_one : Stmt := topS 12
abbrev np_read_one : List Str := ["node", "parts", "fulls", "op", "full"]
theorem scp_read_one : L2.FnScope np_read_one ["node", "parts", "fulls"] (L2.defScope sp_read_one) := ⟨rfl, rfl, rfl, by decide +kernel, rfl, by decide +kernel, by decide +kernel⟩
abbrev sp_read_bits : Stmt := topS 13
abbrev np_read_bits : List Str := ["op", "one", "other", "both", "zeros"]
theorem scp_read_bits : L2.FnScope np_read_bits ["op", "one", "other"] (L2.defScope sp_read_bits) := ⟨rfl, rfl, rfl, by decide +kernel, rfl, by decide +kernel, by decide +kernel⟩
abbrev sp_read_sum : Stmt := topS 14
abbrev np_read_sum : List Str := ["op", "width", "parts", "full", "one", "other", "carry", "known", "bits", "sure", "k", "left", "right", "ones", "zeros"]
theorem scp_read_sum : L2.FnScope np_read_sum ["op", "width", "parts"] (L2.defScope sp_read_sum) := ⟨rfl, rfl, rfl, by decide +kernel, rfl, by decide +kernel, by decide +kernel⟩
abbrev sp_read_product : Stmt := topS 15
abbrev np_read_product : List Str := ["width", "one", "other", "full", "low", "mask"]
theorem scp_read_product : L2.FnScope np_read_product ["width", "one", "other"] (L2.defScope sp_read_product) := ⟨rfl, rfl, rfl, by decide +kernel, rfl, by decide +kernel, by decide +kernel⟩
abbrev sp_read_shift : Stmt := topS 16
abbrev np_read_shift : List Str := ["op", "one", "other", "fulls", "full", "low", "moved"]
theorem scp_read_shift : L2.FnScope np_read_shift ["op", "one", "other", "fulls"] (L2.defScope sp_read_shift) := ⟨rfl, rfl, rfl, by decide +kernel, rfl, by decide +kernel, by decide +kernel⟩
abbrev sp_read_pick : Stmt := topS 17
abbrev np_read_pick : List Str := ["parts", "choice", "one", "other", "known"]
theorem scp_read_pick : L2.FnScope np_read_pick ["parts"] (L2.defScope sp_read_pick) := ⟨rfl, rfl, rfl, by decide +kernel, rfl, by decide +kernel, by decide +kernel⟩
abbrev sp_read_wide : Stmt := topS 18
abbrev np_read_wide : List Str := ["target", "full", "pair"]
theorem scp_read_wide : L2.FnScope np_read_wide ["target", "full", "pair"] (L2.defScope sp_read_wide) := ⟨rfl, rfl, rfl, by decide +kernel, rfl, by decide +kernel, by decide +kernel⟩
abbrev sp_read_relation : Stmt := topS 19
abbrev np_read_relation : List Str := ["op", "one", "other", "full", "bit", "least", "most", "low", "high", "surely", "never"]
theorem scp_read_relation : L2.FnScope np_read_relation ["op", "one", "other", "full"] (L2.defScope sp_read_relation) := ⟨rfl, rfl, rfl, by decide +kernel, rfl, by decide +kernel, by decide +kernel⟩
abbrev sl_begin : Stmt := topS 21
abbrev nl_begin : List Str := ["_law_script", "_law_cell"]
theorem scl_begin : L2.FnScope nl_begin ["_law_script"] (L2.defScope sl_begin) := ⟨rfl, rfl, rfl, by decide +kernel, rfl, by decide +kernel, by decide +kernel⟩
abbrev sl_draw : Stmt := topS 22
abbrev nl_draw : List Str := ["_law_d", "_law_many", "_law_found", "_law_size", "_law_cell"]
theorem scl_draw : L2.FnScope nl_draw ["_law_d", "_law_many"] (L2.defScope sl_draw) := ⟨rfl, rfl, rfl, by decide +kernel, rfl, by decide +kernel, by decide +kernel⟩
abbrev sl_pick : Stmt := topS 23
abbrev nl_pick : List Str := ["_law_d", "_law_row"]
theorem scl_pick : L2.FnScope nl_pick ["_law_d", "_law_row"] (L2.defScope sl_pick) := ⟨rfl, rfl, rfl, by decide +kernel, rfl, by decide +kernel, by decide +kernel⟩
abbrev sl_rare : Stmt := topS 24
abbrev nl_rare : List Str := ["_law_d", "_law_many"]
theorem scl_rare : L2.FnScope nl_rare ["_law_d", "_law_many"] (L2.defScope sl_rare) := ⟨rfl, rfl, rfl, by decide +kernel, rfl, by decide +kernel, by decide +kernel⟩
abbrev sl_shuffled : Stmt := topS 25
abbrev nl_shuffled : List Str := ["_law_d", "_law_row", "_law_left", "_law_found", "_law_k"]
theorem scl_shuffled : L2.FnScope nl_shuffled ["_law_d", "_law_row"] (L2.defScope sl_shuffled) := ⟨rfl, rfl, rfl, by decide +kernel, rfl, by decide +kernel, by decide +kernel⟩
abbrev sl_is_int : Stmt := topS 26
abbrev nl_is_int : List Str := ["_law_thing"]
theorem scl_is_int : L2.FnScope nl_is_int ["_law_thing"] (L2.defScope sl_is_int) := ⟨rfl, rfl, rfl, by decide +kernel, rfl, by decide +kernel, by decide +kernel⟩
abbrev sl_ops : Stmt := topS 27
abbrev nl_ops : List Str := []
theorem scl_ops : L2.FnScope nl_ops [] (L2.defScope sl_ops) := ⟨rfl, rfl, rfl, by decide +kernel, rfl, by decide +kernel, by decide +kernel⟩
abbrev sl_spans : Stmt := topS 28
abbrev nl_spans : List Str := []
theorem scl_spans : L2.FnScope nl_spans [] (L2.defScope sl_spans) := ⟨rfl, rfl, rfl, by decide +kernel, rfl, by decide +kernel, by decide +kernel⟩
abbrev sl_span_leaf : Stmt := topS 29
abbrev nl_span_leaf : List Str := ["_law_d", "_law_spans_here", "_law_width", "_law_ones", "_law_number"]
theorem scl_span_leaf : L2.FnScope nl_span_leaf ["_law_d", "_law_spans_here", "_law_width"] (L2.defScope sl_span_leaf) := ⟨rfl, rfl, rfl, by decide +kernel, rfl, by decide +kernel, by decide +kernel⟩
abbrev sl_node_drawn : Stmt := topS 30
abbrev nl_node_drawn : List Str := ["_law_d", "_law_nodes", "_law_near", "_law_a", "_law_width", "_law_mates", "_law_bits", "_law_op", "_law_b", "_law_k"]
theorem scl_node_drawn : L2.FnScope nl_node_drawn ["_law_d", "_law_nodes"] (L2.defScope sl_node_drawn) := ⟨rfl, rfl, rfl, by decide +kernel, rfl, by decide +kernel, by decide +kernel⟩
abbrev sl_span_sheet : Stmt := topS 31
abbrev nl_span_sheet : List Str := ["_law_d", "_law_spans_here", "_law_leaves", "_law_many", "_law_side", "_law_nodes", "_law_step", "_law_node", "_law_n"]
theorem scl_span_sheet : L2.FnScope nl_span_sheet ["_law_d", "_law_spans_here", "_law_leaves", "_law_many"] (L2.defScope sl_span_sheet) := ⟨rfl, rfl, rfl, by decide +kernel, rfl, by decide +kernel, by decide +kernel⟩
abbrev sl_leaf_column : Stmt := topS 32
abbrev nl_leaf_column : List Str := ["_law_node", "_law_spans_here", "_law_room", "_law_low", "_law_ones", "_law_k"]
theorem scl_leaf_column : L2.FnScope nl_leaf_column ["_law_node", "_law_spans_here"] (L2.defScope sl_leaf_column) := ⟨rfl, rfl, rfl, by decide +kernel, rfl, by decide +kernel, by decide +kernel⟩
abbrev sl_op_column : Stmt := topS 33
abbrev nl_op_column : List Str := ["_law_op", "_law_width", "_law_parts", "_law_ones", "_law_one", "_law_pairs", "_law_a", "_law_c", "_law_b"]
theorem scl_op_column : L2.FnScope nl_op_column ["_law_op", "_law_width", "_law_parts"] (L2.defScope sl_op_column) := ⟨rfl, rfl, rfl, by decide +kernel, rfl, by decide +kernel, by decide +kernel⟩
abbrev sl_more_column : Stmt := topS 34
abbrev nl_more_column : List Str := ["_law_op", "_law_ones", "_law_pairs", "_law_a", "_law_b"]
theorem scl_more_column : L2.FnScope nl_more_column ["_law_op", "_law_ones", "_law_pairs"] (L2.defScope sl_more_column) := ⟨rfl, rfl, rfl, by decide +kernel, rfl, by decide +kernel, by decide +kernel⟩
abbrev sl_node_column : Stmt := topS 35
abbrev nl_node_column : List Str := ["_law_node", "_law_spans_here", "_law_columns", "_law_part"]
theorem scl_node_column : L2.FnScope nl_node_column ["_law_node", "_law_spans_here", "_law_columns"] (L2.defScope sl_node_column) := ⟨rfl, rfl, rfl, by decide +kernel, rfl, by decide +kernel, by decide +kernel⟩
abbrev sl_is_pair : Stmt := topS 36
abbrev nl_is_pair : List Str := ["_law_thing"]
theorem scl_is_pair : L2.FnScope nl_is_pair ["_law_thing"] (L2.defScope sl_is_pair) := ⟨rfl, rfl, rfl, by decide +kernel, rfl, by decide +kernel, by decide +kernel⟩
abbrev sl_reached_bits : Stmt := topS 37
abbrev nl_reached_bits : List Str := ["_law_node", "_law_spans_here", "_law_reached", "_law_found", "_law_part"]
theorem scl_reached_bits : L2.FnScope nl_reached_bits ["_law_node", "_law_spans_here", "_law_reached"] (L2.defScope sl_reached_bits) := ⟨rfl, rfl, rfl, by decide +kernel, rfl, by decide +kernel, by decide +kernel⟩
abbrev sl_pairs_told : Stmt := topS 38
abbrev nl_pairs_told : List Str := ["_law_nodes", "_law_cube", "_law_columns", "_law_left", "_law_found", "_law_term", "_law_pair", "_law_wrong", "_law_k"]
theorem scl_pairs_told : L2.FnScope nl_pairs_told ["_law_nodes", "_law_cube", "_law_columns", "_law_left"] (L2.defScope sl_pairs_told) := ⟨rfl, rfl, rfl, by decide +kernel, rfl, by decide +kernel, by decide +kernel⟩
abbrev sl_pairs_right : Stmt := topS 39
abbrev nl_pairs_right : List Str := ["_law_nodes", "_law_told", "_law_elder", "_law_columns", "_law_reached", "_law_known", "_law_truth", "_law_term"]
theorem scl_pairs_right : L2.FnScope nl_pairs_right ["_law_nodes", "_law_told", "_law_elder", "_law_columns", "_law_reached", "_law_known", "_law_truth"] (L2.defScope sl_pairs_right) := ⟨rfl, rfl, rfl, by decide +kernel, rfl, by decide +kernel, by decide +kernel⟩
abbrev sl_law : Stmt := topS 40
abbrev nl_law : List Str := ["_law_script", "_law_d", "_law_spans_here", "_law_nodes", "_law_columns", "_law_reached", "_law_node", "_law_truth", "_law_places", "_law_number", "_law_cube", "_law_left", "_law_known", "_law_elder", "_law_step", "_law_bit", "_law_spot", "_law_value", "_law_told", "_law_span", "_law_k"]
theorem scl_law : L2.FnScope nl_law ["_law_script"] (L2.defScope sl_law) := ⟨rfl, rfl, rfl, by decide +kernel, rfl, by decide +kernel, by decide +kernel⟩
section
variable {P : Program} {w : World} {K : PySem.W.Frag} {mg : Str → Option Value} {base : Heap}
theorem der_p_greatest {k : Nat} {c : Cl} (ok : ∀ y ∈ names, Own P w K mg base k (Str.ofString y) (c y)) (oks : ∀ q ∈ snames, OwnS P w K mg base k q.2 (Str.ofString q.1) (c q.1)) (zs : ∀ y ∈ blts, mg (Str.ofString y) = none) {fa : Addr} (cdv : Value) (A : Around) (outer : List PySem.Env) (s : Shared) (H : L2.Hp) (E : L2.XK) (hr : L2.Room k (A.deeper (envOfC "greatest" (L2.defScope sp_greatest) s.heap.objs.size fa cdv))) :
    PDSs (L2.cxOf L2.CX0 P w K mg base np_greatest "greatest" (L2.defScope sp_greatest) fa cdv A outer s H E).nox (L2.defBody sp_greatest) (b_p_greatest c) := by
  have nd := scp_greatest.nd
  unfold b_p_greatest
  exact pss_one (ps_ret (pd_sub (pd_shl (pd_int) (pd_var (i := 0) rfl)) (pd_int)))
theorem der_p_related {k : Nat} {c : Cl} (ok : ∀ y ∈ names, Own P w K mg base k (Str.ofString y) (c y)) (oks : ∀ q ∈ snames, OwnS P w K mg base k q.2 (Str.ofString q.1) (c q.1)) (zs : ∀ y ∈ blts, mg (Str.ofString y) = none) {fa : Addr} (cdv : Value) (A : Around) (outer : List PySem.Env) (s : Shared) (H : L2.Hp) (E : L2.XK) (hr : L2.Room k (A.deeper (envOfC "related" (L2.defScope sp_related) s.heap.objs.size fa cdv))) :
    PDSs (L2.cxOf L2.CX0 P w K mg base np_related "related" (L2.defScope sp_related) fa cdv A outer s H E).nox (L2.defBody sp_related) (b_p_related c) := by
  have nd := scp_related.nd
  unfold b_p_related
  exact pss_cons (ps_if (pt_cmp (L2.op_eqD hr.units) real_eq (by rfl) (pd_var (i := 0) rfl) (pd_str)) (pss_one (ps_ret (pd_callTy L2.call_int1 real_intB rfl (zs "int" (by decide)) bt_int (pa_cons (pd_cmp (L2.op_eqD hr.units) real_eq (by rfl) (pd_var (i := 1) rfl) (pd_var (i := 2) rfl)) (pa_nil))))) (pss_nil)) (pss_cons (ps_if (pt_cmp (L2.op_eqD hr.units) real_eq (by rfl) (pd_var (i := 0) rfl) (pd_str)) (pss_one (ps_ret (pd_callTy L2.call_int1 real_intB rfl (zs "int" (by decide)) bt_int (pa_cons (pd_cmp (L2.op_neD hr.units) real_ne (by rfl) (pd_var (i := 1) rfl) (pd_var (i := 2) rfl)) (pa_nil))))) (pss_nil)) (pss_cons (ps_if (pt_cmp (L2.op_eqD hr.units) real_eq (by rfl) (pd_var (i := 0) rfl) (pd_str)) (pss_one (ps_ret (pd_callTy L2.call_int1 real_intB rfl (zs "int" (by decide)) bt_int (pa_cons (pd_cmp L2.op_lt real_lt (by rfl) (pd_var (i := 1) rfl) (pd_var (i := 2) rfl)) (pa_nil))))) (pss_nil)) (pss_one (ps_ret (pd_callTy L2.call_int1 real_intB rfl (zs "int" (by decide)) bt_int (pa_cons (pd_cmp L2.op_le real_le (by rfl) (pd_var (i := 1) rfl) (pd_var (i := 2) rfl)) (pa_nil)))))))
theorem der_p_shifted {k : Nat} {c : Cl} (ok : ∀ y ∈ names, Own P w K mg base k (Str.ofString y) (c y)) (oks : ∀ q ∈ snames, OwnS P w K mg base k q.2 (Str.ofString q.1) (c q.1)) (zs : ∀ y ∈ blts, mg (Str.ofString y) = none) {fa : Addr} (cdv : Value) (A : Around) (outer : List PySem.Env) (s : Shared) (H : L2.Hp) (E : L2.XK) (hr : L2.Room k (A.deeper (envOfC "shifted" (L2.defScope sp_shifted) s.heap.objs.size fa cdv))) :
    PDSs (L2.cxOf L2.CX0 P w K mg base np_shifted "shifted" (L2.defScope sp_shifted) fa cdv A outer s H E).nox (L2.defBody sp_shifted) (b_p_shifted c) := by
  have nd := scp_shifted.nd
  unfold b_p_shifted
  exact pss_cons (ps_if (pt_cmp L2.op_ge real_ge (by rfl) (pd_var (i := 3) rfl) (pd_var (i := 1) rfl)) (pss_one (ps_ret (pd_int))) (pss_nil)) (pss_cons (ps_if (pt_cmp (L2.op_eqD hr.units) real_eq (by rfl) (pd_var (i := 0) rfl) (pd_str)) (pss_one (ps_ret (pd_and (pd_shl (pd_var (i := 2) rfl) (pd_var (i := 3) rfl)) (pd_call (y := "greatest") (ok "greatest" (by decide)) hr rfl (pa_cons (pd_var (i := 1) rfl) (pa_nil)))))) (pss_nil)) (pss_one (ps_ret (pd_shr (pd_var (i := 2) rfl) (pd_var (i := 3) rfl)))))
theorem der_p_divided {k : Nat} {c : Cl} (ok : ∀ y ∈ names, Own P w K mg base k (Str.ofString y) (c y)) (oks : ∀ q ∈ snames, OwnS P w K mg base k q.2 (Str.ofString q.1) (c q.1)) (zs : ∀ y ∈ blts, mg (Str.ofString y) = none) {fa : Addr} (cdv : Value) (A : Around) (outer : List PySem.Env) (s : Shared) (H : L2.Hp) (E : L2.XK) (hr : L2.Room k (A.deeper (envOfC "divided" (L2.defScope sp_divided) s.heap.objs.size fa cdv))) :
    PDSs (L2.cxOf L2.CX0 P w K mg base np_divided "divided" (L2.defScope sp_divided) fa cdv A outer s H E).nox (L2.defBody sp_divided) (b_p_divided c) := by
  have nd := scp_divided.nd
  unfold b_p_divided
  exact pss_cons (ps_if (pt_cmp (L2.op_eqD hr.units) real_eq (by rfl) (pd_var (i := 2) rfl) (pd_int)) (pss_one (ps_ret (pd_int))) (pss_nil)) (pss_cons (ps_if (pt_cmp (L2.op_eqD hr.units) real_eq (by rfl) (pd_var (i := 0) rfl) (pd_str)) (pss_one (ps_ret (pd_fdiv (pd_var (i := 1) rfl) (pd_var (i := 2) rfl)))) (pss_nil)) (pss_one (ps_ret (pd_sub (pd_var (i := 1) rfl) (pd_mul (pd_var (i := 2) rfl) (pd_fdiv (pd_var (i := 1) rfl) (pd_var (i := 2) rfl)))))))
theorem der_p_reckoned {k : Nat} {c : Cl} (ok : ∀ y ∈ names, Own P w K mg base k (Str.ofString y) (c y)) (oks : ∀ q ∈ snames, OwnS P w K mg base k q.2 (Str.ofString q.1) (c q.1)) (zs : ∀ y ∈ blts, mg (Str.ofString y) = none) {fa : Addr} (cdv : Value) (A : Around) (outer : List PySem.Env) (s : Shared) (H : L2.Hp) (E : L2.XK) (hr : L2.Room k (A.deeper (envOfC "reckoned" (L2.defScope sp_reckoned) s.heap.objs.size fa cdv))) :
    PDSs (L2.cxOf L2.CX0 P w K mg base np_reckoned "reckoned" (L2.defScope sp_reckoned) fa cdv A outer s H E).nox (L2.defBody sp_reckoned) (b_p_reckoned c) := by
  have nd := scp_reckoned.nd
  unfold b_p_reckoned
  exact pss_cons (ps_if (pt_cmp (L2.op_eqD hr.units) real_eq (by rfl) (pd_var (i := 0) rfl) (pd_str)) (pss_one (ps_ret (pd_add (pd_var (i := 1) rfl) (pd_var (i := 2) rfl)))) (pss_nil)) (pss_cons (ps_if (pt_cmp (L2.op_eqD hr.units) real_eq (by rfl) (pd_var (i := 0) rfl) (pd_str)) (pss_one (ps_ret (pd_sub (pd_var (i := 1) rfl) (pd_var (i := 2) rfl)))) (pss_nil)) (pss_cons (ps_if (pt_cmp (L2.op_eqD hr.units) real_eq (by rfl) (pd_var (i := 0) rfl) (pd_str)) (pss_one (ps_ret (pd_mul (pd_var (i := 1) rfl) (pd_var (i := 2) rfl)))) (pss_nil)) (pss_cons (ps_if (pt_cmp (L2.op_eqD hr.units) real_eq (by rfl) (pd_var (i := 0) rfl) (pd_str)) (pss_one (ps_ret (pd_and (pd_var (i := 1) rfl) (pd_var (i := 2) rfl)))) (pss_nil)) (pss_cons (ps_if (pt_cmp (L2.op_eqD hr.units) real_eq (by rfl) (pd_var (i := 0) rfl) (pd_str)) (pss_one (ps_ret (pd_or (pd_var (i := 1) rfl) (pd_var (i := 2) rfl)))) (pss_nil)) (pss_one (ps_ret (pd_xor (pd_var (i := 1) rfl) (pd_var (i := 2) rfl))))))))
theorem der_p_result {k : Nat} {c : Cl} (ok : ∀ y ∈ names, Own P w K mg base k (Str.ofString y) (c y)) (oks : ∀ q ∈ snames, OwnS P w K mg base k q.2 (Str.ofString q.1) (c q.1)) (zs : ∀ y ∈ blts, mg (Str.ofString y) = none) {fa : Addr} (cdv : Value) (A : Around) (outer : List PySem.Env) (s : Shared) (H : L2.Hp) (E : L2.XK) (hr : L2.Room k (A.deeper (envOfC "result" (L2.defScope sp_result) s.heap.objs.size fa cdv))) :
    PDSs (L2.cxOf L2.CX0 P w K mg base np_result "result" (L2.defScope sp_result) fa cdv A outer s H E).nox (L2.defBody sp_result) (b_p_result c) := by
  have nd := scp_result.nd
  unfold b_p_result
  exact pss_cons (ps_set (i := 3) nd rfl (by first | exact .inl rfl | exact .inr rfl) (pd_ix (fun _ _ => rfl) (pd_var (i := 2) rfl) (pd_int))) (pss_cons (ps_if (pt_cmp (L2.op_eqD hr.units) real_eq (by rfl) (pd_var (i := 0) rfl) (pd_str)) (pss_one (ps_ret (pd_sub (pd_call (y := "greatest") (ok "greatest" (by decide)) hr rfl (pa_cons (pd_var (i := 1) rfl) (pa_nil))) (pd_var (i := 3) rfl)))) (pss_nil)) (pss_cons (ps_if (pt_cmp (L2.op_eqD hr.units) real_eq (by rfl) (pd_var (i := 0) rfl) (pd_str)) (pss_one (ps_ret (pd_and (pd_neg (pd_var (i := 3) rfl)) (pd_call (y := "greatest") (ok "greatest" (by decide)) hr rfl (pa_cons (pd_var (i := 1) rfl) (pa_nil)))))) (pss_nil)) (pss_cons (ps_if (pt_cmp (L2.op_eqD hr.units) real_eq (by rfl) (pd_var (i := 0) rfl) (pd_str)) (pss_one (ps_ret (pd_and (pd_var (i := 3) rfl) (pd_call (y := "greatest") (ok "greatest" (by decide)) hr rfl (pa_cons (pd_var (i := 1) rfl) (pa_nil)))))) (pss_nil)) (pss_cons (ps_if (pt_cmp (L2.op_eqD hr.units) real_eq (by rfl) (pd_var (i := 0) rfl) (pd_str)) (pss_one (ps_ret (pd_if (pt_cmp (L2.op_eqD hr.units) real_eq (by rfl) (pd_var (i := 3) rfl) (pd_int)) (pd_ix (fun _ _ => rfl) (pd_var (i := 2) rfl) (pd_int)) (pd_ix (fun _ _ => rfl) (pd_var (i := 2) rfl) (pd_int))))) (pss_nil)) (pss_cons (ps_set (i := 4) nd rfl (by first | exact .inl rfl | exact .inr rfl) (pd_ix (fun _ _ => rfl) (pd_var (i := 2) rfl) (pd_int))) (pss_cons (ps_if (pt_cmp L2.op_in_seq (real_in false) (by rfl) (pd_var (i := 0) rfl) (pd_tup (pa_cons (pd_str) (pa_cons (pd_str) (pa_cons (pd_str) (pa_cons (pd_str) (pa_nil))))))) (pss_one (ps_ret (pd_call (y := "related") (ok "related" (by decide)) hr rfl (pa_cons (pd_var (i := 0) rfl) (pa_cons (pd_var (i := 3) rfl) (pa_cons (pd_var (i := 4) rfl) (pa_nil))))))) (pss_nil)) (pss_cons (ps_if (pt_cmp L2.op_in_seq (real_in false) (by rfl) (pd_var (i := 0) rfl) (pd_tup (pa_cons (pd_str) (pa_cons (pd_str) (pa_nil))))) (pss_one (ps_ret (pd_call (y := "shifted") (ok "shifted" (by decide)) hr rfl (pa_cons (pd_var (i := 0) rfl) (pa_cons (pd_var (i := 1) rfl) (pa_cons (pd_var (i := 3) rfl) (pa_cons (pd_var (i := 4) rfl) (pa_nil)))))))) (pss_nil)) (pss_cons (ps_if (pt_cmp L2.op_in_seq (real_in false) (by rfl) (pd_var (i := 0) rfl) (pd_tup (pa_cons (pd_str) (pa_cons (pd_str) (pa_nil))))) (pss_one (ps_ret (pd_call (y := "divided") (ok "divided" (by decide)) hr rfl (pa_cons (pd_var (i := 0) rfl) (pa_cons (pd_var (i := 3) rfl) (pa_cons (pd_var (i := 4) rfl) (pa_nil))))))) (pss_nil)) (pss_one (ps_ret (pd_and (pd_call (y := "reckoned") (ok "reckoned" (by decide)) hr rfl (pa_cons (pd_var (i := 0) rfl) (pa_cons (pd_var (i := 3) rfl) (pa_cons (pd_var (i := 4) rfl) (pa_nil))))) (pd_call (y := "greatest") (ok "greatest" (by decide)) hr rfl (pa_cons (pd_var (i := 1) rfl) (pa_nil))))))))))))))
theorem der_p_needed_for {k : Nat} {c : Cl} (ok : ∀ y ∈ names, Own P w K mg base k (Str.ofString y) (c y)) (oks : ∀ q ∈ snames, OwnS P w K mg base k q.2 (Str.ofString q.1) (c q.1)) (zs : ∀ y ∈ blts, mg (Str.ofString y) = none) {fa : Addr} (cdv : Value) (A : Around) (outer : List PySem.Env) (s : Shared) (H : L2.Hp) (E : L2.XK) (hr : L2.Room k (A.deeper (envOfC "needed_for" (L2.defScope sp_needed_for) s.heap.objs.size fa cdv))) :
    PDSs (L2.cxOf L2.CX0 P w K mg base np_needed_for "needed_for" (L2.defScope sp_needed_for) fa cdv A outer s H E).nox (L2.defBody sp_needed_for) (b_p_needed_for c) := by
  have nd := scp_needed_for.nd
  unfold b_p_needed_for
  exact pss_cons (ps_set (i := 2) nd rfl (by first | exact .inl rfl | exact .inr rfl) (pd_dic)) (pss_cons (ps_set (i := 3) nd rfl (by first | exact .inl rfl | exact .inr rfl) (pd_callTy L2.call_list_of real_listB rfl (zs "list" (by decide)) bt_list (pa_cons (pd_var (i := 1) rfl) (pa_nil)))) (pss_cons (ps_while PassesOwn.never (pt_tru (pd_var (i := 3) rfl)) (pss_cons (ps_set (i := 4) nd rfl (by first | exact .inl rfl | exact .inr rfl) (pd_m0 L2.mt_pop real_popE ty_list PySem.F.plainAttrs_list PySem.F.slot_list_pop PySem.F.type_list_pop (pd_var (i := 3) rfl))) (pss_one (ps_if (pt_notinK hr (pd_var (i := 4) rfl) (pd_var (i := 2) rfl)) (pss_cons (ps_asg (pd_bl) (pg_subD hr (pd_var (i := 2) rfl) (pd_var (i := 4) rfl))) (pss_one (ps_if (pt_cmp L2.op_notIn_seq (real_in true) (by rfl) (pd_ix (fun _ _ => rfl) (pd_ix (fun _ _ => rfl) (pd_var (i := 0) rfl) (pd_var (i := 4) rfl)) (pd_int)) (pd_tup (pa_cons (pd_str) (pa_cons (pd_str) (pa_nil))))) (pss_one (ps_expr (pd_m mt_extendA real_extendA ty_list PySem.F.plainAttrs_list PySem.F.slot_list_extend PySem.F.type_list_extend (pd_var (i := 3) rfl) (pa_cons (pd_sl (pd_ix (fun _ _ => rfl) (pd_var (i := 0) rfl) (pd_var (i := 4) rfl)) (po_some (pd_int)) (po_none)) (pa_nil))))) (pss_nil)))) (pss_nil))))) (pss_one (ps_ret (pd_callB (cr_sortedDK rfl) real_sortedDB rfl (zs "sorted" (by decide)) bt_sorted (pa_cons (pd_var (i := 2) rfl) (pa_nil)))))))
theorem der_p_read_term {k : Nat} {c : Cl} (ok : ∀ y ∈ names, Own P w K mg base k (Str.ofString y) (c y)) (oks : ∀ q ∈ snames, OwnS P w K mg base k q.2 (Str.ofString q.1) (c q.1)) (zs : ∀ y ∈ blts, mg (Str.ofString y) = none) {fa : Addr} (cdv : Value) (A : Around) (outer : List PySem.Env) (s : Shared) (H : L2.Hp) (E : L2.XK) (hr : L2.Room k (A.deeper (envOfC "read_term" (L2.defScope sp_read_term) s.heap.objs.size fa cdv))) :
    PDSs (L2.cxOf L2.CX0 P w K mg base np_read_term "read_term" (L2.defScope sp_read_term) fa cdv A outer s H E).nox (L2.defBody sp_read_term) (b_p_read_term c) := by
  have nd := scp_read_term.nd
  unfold b_p_read_term
  exact pss_one (ps_ret (pd_getA hr (pd_call (y := "read_nodes") (ok "read_nodes" (by decide)) hr rfl (pa_cons (pd_var (i := 0) rfl) (pa_cons (pd_call (y := "needed_for") (ok "needed_for" (by decide)) hr rfl (pa_cons (pd_var (i := 0) rfl) (pa_cons (pd_lst (pa_cons (pd_var (i := 2) rfl) (pa_nil))) (pa_nil)))) (pa_cons (pd_var (i := 1) rfl) (pa_nil))))) (pd_var (i := 2) rfl)))
theorem der_p_read_nodes {k : Nat} {c : Cl} (ok : ∀ y ∈ names, Own P w K mg base k (Str.ofString y) (c y)) (oks : ∀ q ∈ snames, OwnS P w K mg base k q.2 (Str.ofString q.1) (c q.1)) (zs : ∀ y ∈ blts, mg (Str.ofString y) = none) {fa : Addr} (cdv : Value) (A : Around) (outer : List PySem.Env) (s : Shared) (H : L2.Hp) (E : L2.XK) (hr : L2.Room k (A.deeper (envOfC "read_nodes" (L2.defScope sp_read_nodes) s.heap.objs.size fa cdv))) :
    PDSs (L2.cxOf L2.CX0 P w K mg base np_read_nodes "read_nodes" (L2.defScope sp_read_nodes) fa cdv A outer s H E).nox (L2.defBody sp_read_nodes) (b_p_read_nodes c) := by
  have nd := scp_read_nodes.nd
  unfold b_p_read_nodes
  exact pss_cons (ps_set (i := 3) nd rfl (by first | exact .inl rfl | exact .inr rfl) (pd_dic)) (pss_cons (ps_for PassesOwn.never rfl (pi_seq (pd_var (i := 1) rfl)) (pg_name (i := 4) nd rfl (by first | exact .inl rfl | exact .inr rfl)) (pss_cons (ps_set (i := 5) nd rfl (by first | exact .inl rfl | exact .inr rfl) (pd_ix (fun _ _ => rfl) (pd_var (i := 0) rfl) (pd_var (i := 4) rfl))) (pss_cons (ps_set (i := 6) nd rfl (by first | exact .inl rfl | exact .inr rfl) (pd_call (y := "greatest") (ok "greatest" (by decide)) hr rfl (pa_cons (pd_ix (fun _ _ => rfl) (pd_var (i := 5) rfl) (pd_int)) (pa_nil)))) (pss_one (ps_if (pt_cmp (L2.op_eqD hr.units) real_eq (by rfl) (pd_ix (fun _ _ => rfl) (pd_var (i := 5) rfl) (pd_int)) (pd_str)) (pss_one (ps_asg (pd_tup (pa_cons (pd_var (i := 6) rfl) (pa_cons (pd_ix (fun _ _ => rfl) (pd_var (i := 5) rfl) (pd_int)) (pa_nil)))) (pg_subD hr (pd_var (i := 3) rfl) (pd_var (i := 4) rfl)))) (pss_one (ps_if (pt_cmp (L2.op_eqD hr.units) real_eq (by rfl) (pd_ix (fun _ _ => rfl) (pd_var (i := 5) rfl) (pd_int)) (pd_str)) (pss_cons (ps_set (i := 7) nd rfl (by first | exact .inl rfl | exact .inr rfl) (pd_if (pt_cmp L2.op_lt real_lt (by rfl) (pd_ix (fun _ _ => rfl) (pd_var (i := 5) rfl) (pd_int)) (pd_callB L2.call_len real_lenB rfl (zs "len" (by decide)) bt_len (pa_cons (pd_var (i := 2) rfl) (pa_nil)))) (pd_ix (fun _ _ => rfl) (pd_var (i := 2) rfl) (pd_ix (fun _ _ => rfl) (pd_var (i := 5) rfl) (pd_int))) (pd_tup (pa_cons (pd_int) (pa_cons (pd_int) (pa_nil)))))) (pss_one (ps_asg (pd_tup (pa_cons (pd_and (pd_ix (fun _ _ => rfl) (pd_var (i := 7) rfl) (pd_int)) (pd_var (i := 6) rfl)) (pa_cons (pd_and (pd_ix (fun _ _ => rfl) (pd_var (i := 7) rfl) (pd_int)) (pd_var (i := 6) rfl)) (pa_nil)))) (pg_subD hr (pd_var (i := 3) rfl) (pd_var (i := 4) rfl))))) (pss_cons (ps_setLc (j := 8) (own := [("part", 9)]) rfl nd rfl rfl (L2.sw_true rfl rfl rfl (by decide +kernel)) (pi_seq (pd_sl (pd_var (i := 5) rfl) (po_some (pd_int)) (po_none))) (L2.blkOk_by (N := np_read_nodes) (sc := L2.defScope sp_read_nodes) (by decide +kernel)) (fun _ _ _ _ _ => pg_name (i := 9) nd rfl (by first | exact .inl rfl | exact .inr rfl)) (fun _ _ _ _ _ => pts_nil) (fun _ _ _ _ _ => pd_getA hr (pd_var (i := 3) rfl) (pd_var (i := 9) rfl)) (by decide)) (pss_one (ps_asg (pd_call (y := "read_one") (ok "read_one" (by decide)) hr rfl (pa_cons (pd_var (i := 5) rfl) (pa_cons (pd_var (i := 8) rfl) (pa_cons (pd_lc (own := [("part", 9)]) rfl nd (pi_seq (pd_sl (pd_var (i := 5) rfl) (po_some (pd_int)) (po_none))) (L2.blkOk_by (N := np_read_nodes) (sc := L2.defScope sp_read_nodes) (by decide +kernel)) (fun _ _ _ _ _ => pg_name (i := 9) nd rfl (by first | exact .inl rfl | exact .inr rfl)) (fun _ _ _ _ _ => pts_nil) (fun _ _ _ _ _ => pd_call (y := "greatest") (ok "greatest" (by decide)) hr rfl (pa_cons (pd_ix (fun _ _ => rfl) (pd_ix (fun _ _ => rfl) (pd_var (i := 0) rfl) (pd_var (i := 9) rfl)) (pd_int)) (pa_nil))) (by decide)) (pa_nil))))) (pg_subD hr (pd_var (i := 3) rfl) (pd_var (i := 4) rfl)))))))))))) (pss_one (ps_ret (pd_var (i := 3) rfl))))
theorem der_p_read_one {k : Nat} {c : Cl} (ok : ∀ y ∈ names, Own P w K mg base k (Str.ofString y) (c y)) (oks : ∀ q ∈ snames, OwnS P w K mg base k q.2 (Str.ofString q.1) (c q.1)) (zs : ∀ y ∈ blts, mg (Str.ofString y) = none) {fa : Addr} (cdv : Value) (A : Around) (outer : List PySem.Env) (s : Shared) (H : L2.Hp) (E : L2.XK) (hr : L2.Room k (A.deeper (envOfC "read_one" (L2.defScope sp_read_one) s.heap.objs.size fa cdv))) :
    PDSs (L2.cxOf L2.CX0 P w K mg base np_read_one "read_one" (L2.defScope sp_read_one) fa cdv A outer s H E).nox (L2.defBody sp_read_one) (b_p_read_one c) := by
  have nd := scp_read_one.nd
  unfold b_p_read_one
  exact pss_cons (ps_set (i := 3) nd rfl (by first | exact .inl rfl | exact .inr rfl) (pd_ix (fun _ _ => rfl) (pd_var (i := 0) rfl) (pd_int))) (pss_cons (ps_set (i := 4) nd rfl (by first | exact .inl rfl | exact .inr rfl) (pd_ix (fun _ _ => rfl) (pd_var (i := 2) rfl) (pd_int))) (pss_cons (ps_if (pt_cmp (L2.op_eqD hr.units) real_eq (by rfl) (pd_var (i := 3) rfl) (pd_str)) (pss_one (ps_ret (pd_tup (pa_cons (pd_ix (fun _ _ => rfl) (pd_ix (fun _ _ => rfl) (pd_var (i := 1) rfl) (pd_int)) (pd_int)) (pa_cons (pd_and (pd_sub (pd_var (i := 4) rfl) (pd_ix (fun _ _ => rfl) (pd_ix (fun _ _ => rfl) (pd_var (i := 1) rfl) (pd_int)) (pd_int))) (pd_ix (fun _ _ => rfl) (pd_ix (fun _ _ => rfl) (pd_var (i := 1) rfl) (pd_int)) (pd_int))) (pa_nil)))))) (pss_nil)) (pss_cons (ps_if (pt_cmp L2.op_in_seq (real_in false) (by rfl) (pd_var (i := 3) rfl) (pd_tup (pa_cons (pd_str) (pa_cons (pd_str) (pa_cons (pd_str) (pa_nil)))))) (pss_one (ps_ret (pd_call (y := "read_bits") (ok "read_bits" (by decide)) hr rfl (pa_cons (pd_var (i := 3) rfl) (pa_cons (pd_ix (fun _ _ => rfl) (pd_var (i := 1) rfl) (pd_int)) (pa_cons (pd_ix (fun _ _ => rfl) (pd_var (i := 1) rfl) (pd_int)) (pa_nil))))))) (pss_nil)) (pss_cons (ps_if (pt_cmp L2.op_in_seq (real_in false) (by rfl) (pd_var (i := 3) rfl) (pd_tup (pa_cons (pd_str) (pa_cons (pd_str) (pa_cons (pd_str) (pa_nil)))))) (pss_one (ps_ret (pd_call (y := "read_sum") (ok "read_sum" (by decide)) hr rfl (pa_cons (pd_var (i := 3) rfl) (pa_cons (pd_ix (fun _ _ => rfl) (pd_var (i := 0) rfl) (pd_int)) (pa_cons (pd_var (i := 1) rfl) (pa_nil))))))) (pss_nil)) (pss_cons (ps_if (pt_cmp (L2.op_eqD hr.units) real_eq (by rfl) (pd_var (i := 3) rfl) (pd_str)) (pss_one (ps_ret (pd_call (y := "read_product") (ok "read_product" (by decide)) hr rfl (pa_cons (pd_ix (fun _ _ => rfl) (pd_var (i := 0) rfl) (pd_int)) (pa_cons (pd_ix (fun _ _ => rfl) (pd_var (i := 1) rfl) (pd_int)) (pa_cons (pd_ix (fun _ _ => rfl) (pd_var (i := 1) rfl) (pd_int)) (pa_nil))))))) (pss_nil)) (pss_cons (ps_if (pt_cmp L2.op_in_seq (real_in false) (by rfl) (pd_var (i := 3) rfl) (pd_tup (pa_cons (pd_str) (pa_cons (pd_str) (pa_nil))))) (pss_one (ps_ret (pd_call (y := "read_shift") (ok "read_shift" (by decide)) hr rfl (pa_cons (pd_var (i := 3) rfl) (pa_cons (pd_ix (fun _ _ => rfl) (pd_var (i := 1) rfl) (pd_int)) (pa_cons (pd_ix (fun _ _ => rfl) (pd_var (i := 1) rfl) (pd_int)) (pa_cons (pd_var (i := 2) rfl) (pa_nil)))))))) (pss_nil)) (pss_cons (ps_if (pt_cmp L2.op_in_seq (real_in false) (by rfl) (pd_var (i := 3) rfl) (pd_tup (pa_cons (pd_str) (pa_cons (pd_str) (pa_nil))))) (pss_cons (ps_if (ptw (pw_and (pt_cmp (L2.op_eqD hr.units) real_eq (by rfl) (pd_ix (fun _ _ => rfl) (pd_ix (fun _ _ => rfl) (pd_var (i := 1) rfl) (pd_int)) (pd_int)) (pd_var (i := 4) rfl)) (pw_and1 (pt_cmp (L2.op_eqD hr.units) real_eq (by rfl) (pd_ix (fun _ _ => rfl) (pd_ix (fun _ _ => rfl) (pd_var (i := 1) rfl) (pd_int)) (pd_int)) (pd_var (i := 4) rfl))))) (pss_one (ps_ret (pd_tup (pa_cons (pd_var (i := 4) rfl) (pa_cons (pd_callS (y := "result") (oks ("result", 2) (by decide)) hr rfl (pa_cons (pd_var (i := 3) rfl) (pa_cons (pd_ix (fun _ _ => rfl) (pd_var (i := 0) rfl) (pd_int)) (pa_cons (pd_ix (fun _ _ => rfl) (pd_ix (fun _ _ => rfl) (pd_var (i := 1) rfl) (pd_int)) (pd_int)) (pa_cons (pd_ix (fun _ _ => rfl) (pd_ix (fun _ _ => rfl) (pd_var (i := 1) rfl) (pd_int)) (pd_int)) (pa_nil)))))) (pa_nil)))))) (pss_nil)) (pss_one (ps_ret (pd_tup (pa_cons (pd_int) (pa_cons (pd_int) (pa_nil))))))) (pss_nil)) (pss_cons (ps_if (pt_cmp (L2.op_eqD hr.units) real_eq (by rfl) (pd_var (i := 3) rfl) (pd_str)) (pss_one (ps_ret (pd_call (y := "read_pick") (ok "read_pick" (by decide)) hr rfl (pa_cons (pd_var (i := 1) rfl) (pa_nil))))) (pss_nil)) (pss_cons (ps_if (pt_cmp (L2.op_eqD hr.units) real_eq (by rfl) (pd_var (i := 3) rfl) (pd_str)) (pss_one (ps_ret (pd_call (y := "read_wide") (ok "read_wide" (by decide)) hr rfl (pa_cons (pd_call (y := "greatest") (ok "greatest" (by decide)) hr rfl (pa_cons (pd_ix (fun _ _ => rfl) (pd_var (i := 0) rfl) (pd_int)) (pa_nil))) (pa_cons (pd_var (i := 4) rfl) (pa_cons (pd_ix (fun _ _ => rfl) (pd_var (i := 1) rfl) (pd_int)) (pa_nil))))))) (pss_nil)) (pss_one (ps_ret (pd_call (y := "read_relation") (ok "read_relation" (by decide)) hr rfl (pa_cons (pd_var (i := 3) rfl) (pa_cons (pd_ix (fun _ _ => rfl) (pd_var (i := 1) rfl) (pd_int)) (pa_cons (pd_ix (fun _ _ => rfl) (pd_var (i := 1) rfl) (pd_int)) (pa_cons (pd_var (i := 4) rfl) (pa_nil)))))))))))))))))
theorem der_p_read_bits {k : Nat} {c : Cl} (ok : ∀ y ∈ names, Own P w K mg base k (Str.ofString y) (c y)) (oks : ∀ q ∈ snames, OwnS P w K mg base k q.2 (Str.ofString q.1) (c q.1)) (zs : ∀ y ∈ blts, mg (Str.ofString y) = none) {fa : Addr} (cdv : Value) (A : Around) (outer : List PySem.Env) (s : Shared) (H : L2.Hp) (E : L2.XK) (hr : L2.Room k (A.deeper (envOfC "read_bits" (L2.defScope sp_read_bits) s.heap.objs.size fa cdv))) :
    PDSs (L2.cxOf L2.CX0 P w K mg base np_read_bits "read_bits" (L2.defScope sp_read_bits) fa cdv A outer s H E).nox (L2.defBody sp_read_bits) (b_p_read_bits c) := by
  have nd := scp_read_bits.nd
  unfold b_p_read_bits
  exact pss_cons (ps_set (i := 3) nd rfl (by first | exact .inl rfl | exact .inr rfl) (pd_and (pd_ix (fun _ _ => rfl) (pd_var (i := 1) rfl) (pd_int)) (pd_ix (fun _ _ => rfl) (pd_var (i := 2) rfl) (pd_int)))) (pss_cons (ps_if (pt_cmp (L2.op_eqD hr.units) real_eq (by rfl) (pd_var (i := 0) rfl) (pd_str)) (pss_one (ps_ret (pd_tup (pa_cons (pd_var (i := 3) rfl) (pa_cons (pd_and (pd_xor (pd_ix (fun _ _ => rfl) (pd_var (i := 1) rfl) (pd_int)) (pd_ix (fun _ _ => rfl) (pd_var (i := 2) rfl) (pd_int))) (pd_var (i := 3) rfl)) (pa_nil)))))) (pss_nil)) (pss_cons (ps_if (pt_cmp (L2.op_eqD hr.units) real_eq (by rfl) (pd_var (i := 0) rfl) (pd_str)) (pss_cons (ps_set (i := 4) nd rfl (by first | exact .inl rfl | exact .inr rfl) (pd_or (pd_and (pd_ix (fun _ _ => rfl) (pd_var (i := 1) rfl) (pd_int)) (pd_inv (pd_ix (fun _ _ => rfl) (pd_var (i := 1) rfl) (pd_int)))) (pd_and (pd_ix (fun _ _ => rfl) (pd_var (i := 2) rfl) (pd_int)) (pd_inv (pd_ix (fun _ _ => rfl) (pd_var (i := 2) rfl) (pd_int)))))) (pss_one (ps_ret (pd_tup (pa_cons (pd_or (pd_var (i := 3) rfl) (pd_var (i := 4) rfl)) (pa_cons (pd_and (pd_ix (fun _ _ => rfl) (pd_var (i := 1) rfl) (pd_int)) (pd_ix (fun _ _ => rfl) (pd_var (i := 2) rfl) (pd_int))) (pa_nil))))))) (pss_nil)) (pss_one (ps_ret (pd_tup (pa_cons (pd_or (pd_or (pd_var (i := 3) rfl) (pd_ix (fun _ _ => rfl) (pd_var (i := 1) rfl) (pd_int))) (pd_ix (fun _ _ => rfl) (pd_var (i := 2) rfl) (pd_int))) (pa_cons (pd_or (pd_ix (fun _ _ => rfl) (pd_var (i := 1) rfl) (pd_int)) (pd_ix (fun _ _ => rfl) (pd_var (i := 2) rfl) (pd_int))) (pa_nil))))))))
theorem der_p_read_sum {k : Nat} {c : Cl} (ok : ∀ y ∈ names, Own P w K mg base k (Str.ofString y) (c y)) (oks : ∀ q ∈ snames, OwnS P w K mg base k q.2 (Str.ofString q.1) (c q.1)) (zs : ∀ y ∈ blts, mg (Str.ofString y) = none) {fa : Addr} (cdv : Value) (A : Around) (outer : List PySem.Env) (s : Shared) (H : L2.Hp) (E : L2.XK) (hr : L2.Room k (A.deeper (envOfC "read_sum" (L2.defScope sp_read_sum) s.heap.objs.size fa cdv))) :
    PDSs (L2.cxOf L2.CX0 P w K mg base np_read_sum "read_sum" (L2.defScope sp_read_sum) fa cdv A outer s H E).nox (L2.defBody sp_read_sum) (b_p_read_sum c) := by
  have nd := scp_read_sum.nd
  unfold b_p_read_sum
  exact pss_cons (ps_set (i := 3) nd rfl (by first | exact .inl rfl | exact .inr rfl) (pd_call (y := "greatest") (ok "greatest" (by decide)) hr rfl (pa_cons (pd_var (i := 1) rfl) (pa_nil)))) (pss_cons (ps_par3 (L2.ps_par3 rfl nd rfl rfl rfl (by decide) (by decide) (by decide) rfl rfl rfl (pa_cons (pd_ix (fun _ _ => rfl) (pd_var (i := 2) rfl) (pd_int)) (pa_cons (pd_ix (fun _ _ => rfl) (pd_var (i := 2) rfl) (pd_neg (pd_int))) (pa_cons (pd_int) (pa_nil)))) (by rfl))) (pss_cons (ps_if (pt_cmp (L2.op_neD hr.units) real_ne (by rfl) (pd_var (i := 0) rfl) (pd_str)) (pss_cons (ps_set (i := 5) nd rfl (by first | exact .inl rfl | exact .inr rfl) (pd_tup (pa_cons (pd_ix (fun _ _ => rfl) (pd_var (i := 5) rfl) (pd_int)) (pa_cons (pd_and (pd_inv (pd_ix (fun _ _ => rfl) (pd_var (i := 5) rfl) (pd_int))) (pd_ix (fun _ _ => rfl) (pd_var (i := 5) rfl) (pd_int))) (pa_nil))))) (pss_one (ps_set (i := 6) nd rfl (by first | exact .inl rfl | exact .inr rfl) (pd_int)))) (pss_nil)) (pss_cons (ps_if (pt_cmp (L2.op_eqD hr.units) real_eq (by rfl) (pd_var (i := 0) rfl) (pd_str)) (pss_one (ps_set (i := 4) nd rfl (by first | exact .inl rfl | exact .inr rfl) (pd_tup (pa_cons (pd_var (i := 3) rfl) (pa_cons (pd_int) (pa_nil)))))) (pss_nil)) (pss_cons (ps_asg (pd_tup (pa_cons (pd_int) (pa_cons (pd_int) (pa_nil)))) (pg_tup rfl (pgs_cons (pg_name (i := 7) nd rfl (by first | exact .inl rfl | exact .inr rfl)) (pgs_cons (pg_name (i := 8) nd rfl (by first | exact .inl rfl | exact .inr rfl)) (pgs_nil))))) (pss_cons (ps_set (i := 9) nd rfl (by first | exact .inl rfl | exact .inr rfl) (pd_int)) (pss_cons (ps_for PassesOwn.never rfl (pi_r1 rfl (zs "range" (by decide)) (pd_var (i := 1) rfl)) (pg_name (i := 10) nd rfl (by first | exact .inl rfl | exact .inr rfl)) (pss_cons (ps_set (i := 11) nd rfl (by first | exact .inl rfl | exact .inr rfl) (pd_tup (pa_cons (pd_and (pd_shr (pd_ix (fun _ _ => rfl) (pd_var (i := 4) rfl) (pd_int)) (pd_var (i := 10) rfl)) (pd_int)) (pa_cons (pd_and (pd_shr (pd_ix (fun _ _ => rfl) (pd_var (i := 4) rfl) (pd_int)) (pd_var (i := 10) rfl)) (pd_int)) (pa_nil))))) (pss_cons (ps_set (i := 12) nd rfl (by first | exact .inl rfl | exact .inr rfl) (pd_tup (pa_cons (pd_and (pd_shr (pd_ix (fun _ _ => rfl) (pd_var (i := 5) rfl) (pd_int)) (pd_var (i := 10) rfl)) (pd_int)) (pa_cons (pd_and (pd_shr (pd_ix (fun _ _ => rfl) (pd_var (i := 5) rfl) (pd_int)) (pd_var (i := 10) rfl)) (pd_int)) (pa_nil))))) (pss_cons (ps_if (ptw (pw_and (pt_tru (pd_ix (fun _ _ => rfl) (pd_var (i := 11) rfl) (pd_int))) (pw_and (pt_tru (pd_ix (fun _ _ => rfl) (pd_var (i := 12) rfl) (pd_int))) (pw_and1 (pt_tru (pd_var (i := 9) rfl)))))) (pss_cons (ps_aug (i := 7) (ip_of L2.iop_or) real_or nd rfl (by first | exact .inl rfl | exact .inr rfl) (pd_shl (pd_int) (pd_var (i := 10) rfl))) (pss_one (ps_aug (i := 8) (ip_of L2.iop_or) real_or nd rfl (by first | exact .inl rfl | exact .inr rfl) (pd_shl (pd_xor (pd_xor (pd_ix (fun _ _ => rfl) (pd_var (i := 11) rfl) (pd_int)) (pd_ix (fun _ _ => rfl) (pd_var (i := 12) rfl) (pd_int))) (pd_var (i := 6) rfl)) (pd_var (i := 10) rfl))))) (pss_nil)) (pss_cons (ps_set (i := 13) nd rfl (by first | exact .inl rfl | exact .inr rfl) (pd_add (pd_add (pd_ix (fun _ _ => rfl) (pd_var (i := 11) rfl) (pd_int)) (pd_ix (fun _ _ => rfl) (pd_var (i := 12) rfl) (pd_int))) (pd_if (pt_tru (pd_var (i := 9) rfl)) (pd_var (i := 6) rfl) (pd_int)))) (pss_cons (ps_set (i := 14) nd rfl (by first | exact .inl rfl | exact .inr rfl) (pd_add (pd_sub (pd_add (pd_sub (pd_ix (fun _ _ => rfl) (pd_var (i := 11) rfl) (pd_int)) (pd_ix (fun _ _ => rfl) (pd_var (i := 11) rfl) (pd_int))) (pd_ix (fun _ _ => rfl) (pd_var (i := 12) rfl) (pd_int))) (pd_ix (fun _ _ => rfl) (pd_var (i := 12) rfl) (pd_int))) (pd_if (pt_tru (pd_var (i := 9) rfl)) (pd_sub (pd_int) (pd_var (i := 6) rfl)) (pd_int)))) (pss_cons (ps_set (i := 9) nd rfl (by first | exact .inl rfl | exact .inr rfl) (pd_callTy L2.call_int1 real_intB rfl (zs "int" (by decide)) bt_int (pa_cons (pd_or' (pd_cmp L2.op_ge real_ge (by rfl) (pd_var (i := 13) rfl) (pd_int)) (pd_one (pd_cmp L2.op_ge real_ge (by rfl) (pd_var (i := 14) rfl) (pd_int)))) (pa_nil)))) (pss_one (ps_set (i := 6) nd rfl (by first | exact .inl rfl | exact .inr rfl) (pd_callTy L2.call_int1 real_intB rfl (zs "int" (by decide)) bt_int (pa_cons (pd_cmp L2.op_ge real_ge (by rfl) (pd_var (i := 13) rfl) (pd_int)) (pa_nil)))))))))))) (pss_one (ps_ret (pd_tup (pa_cons (pd_var (i := 7) rfl) (pa_cons (pd_var (i := 8) rfl) (pa_nil))))))))))))
theorem der_p_read_product {k : Nat} {c : Cl} (ok : ∀ y ∈ names, Own P w K mg base k (Str.ofString y) (c y)) (oks : ∀ q ∈ snames, OwnS P w K mg base k q.2 (Str.ofString q.1) (c q.1)) (zs : ∀ y ∈ blts, mg (Str.ofString y) = none) {fa : Addr} (cdv : Value) (A : Around) (outer : List PySem.Env) (s : Shared) (H : L2.Hp) (E : L2.XK) (hr : L2.Room k (A.deeper (envOfC "read_product" (L2.defScope sp_read_product) s.heap.objs.size fa cdv))) :
    PDSs (L2.cxOf L2.CX0 P w K mg base np_read_product "read_product" (L2.defScope sp_read_product) fa cdv A outer s H E).nox (L2.defBody sp_read_product) (b_p_read_product c) := by
  have nd := scp_read_product.nd
  unfold b_p_read_product
  exact pss_cons (ps_set (i := 3) nd rfl (by first | exact .inl rfl | exact .inr rfl) (pd_call (y := "greatest") (ok "greatest" (by decide)) hr rfl (pa_cons (pd_var (i := 0) rfl) (pa_nil)))) (pss_cons (ps_if (ptw (pw_or (pt_cmp (L2.op_eqD hr.units) real_eq (by rfl) (pd_var (i := 1) rfl) (pd_tup (pa_cons (pd_var (i := 3) rfl) (pa_cons (pd_int) (pa_nil))))) (pw_or1 (pt_cmp (L2.op_eqD hr.units) real_eq (by rfl) (pd_var (i := 2) rfl) (pd_tup (pa_cons (pd_var (i := 3) rfl) (pa_cons (pd_int) (pa_nil)))))))) (pss_one (ps_ret (pd_tup (pa_cons (pd_var (i := 3) rfl) (pa_cons (pd_int) (pa_nil)))))) (pss_nil)) (pss_cons (ps_set (i := 4) nd rfl (by first | exact .inl rfl | exact .inr rfl) (pd_int)) (pss_cons (ps_while PassesOwn.never (ptw (pw_and (pt_cmp L2.op_lt real_lt (by rfl) (pd_var (i := 4) rfl) (pd_var (i := 0) rfl)) (pw_and (pt_tru (pd_and (pd_shr (pd_ix (fun _ _ => rfl) (pd_var (i := 1) rfl) (pd_int)) (pd_var (i := 4) rfl)) (pd_int))) (pw_and1 (pt_tru (pd_and (pd_shr (pd_ix (fun _ _ => rfl) (pd_var (i := 2) rfl) (pd_int)) (pd_var (i := 4) rfl)) (pd_int))))))) (pss_one (ps_aug (i := 4) ip_add real_iadd nd rfl (by first | exact .inl rfl | exact .inr rfl) (pd_int)))) (pss_cons (ps_set (i := 5) nd rfl (by first | exact .inl rfl | exact .inr rfl) (pd_sub (pd_shl (pd_int) (pd_var (i := 4) rfl)) (pd_int))) (pss_one (ps_ret (pd_tup (pa_cons (pd_var (i := 5) rfl) (pa_cons (pd_and (pd_mul (pd_ix (fun _ _ => rfl) (pd_var (i := 1) rfl) (pd_int)) (pd_ix (fun _ _ => rfl) (pd_var (i := 2) rfl) (pd_int))) (pd_var (i := 5) rfl)) (pa_nil))))))))))
theorem der_p_read_shift {k : Nat} {c : Cl} (ok : ∀ y ∈ names, Own P w K mg base k (Str.ofString y) (c y)) (oks : ∀ q ∈ snames, OwnS P w K mg base k q.2 (Str.ofString q.1) (c q.1)) (zs : ∀ y ∈ blts, mg (Str.ofString y) = none) {fa : Addr} (cdv : Value) (A : Around) (outer : List PySem.Env) (s : Shared) (H : L2.Hp) (E : L2.XK) (hr : L2.Room k (A.deeper (envOfC "read_shift" (L2.defScope sp_read_shift) s.heap.objs.size fa cdv))) :
    PDSs (L2.cxOf L2.CX0 P w K mg base np_read_shift "read_shift" (L2.defScope sp_read_shift) fa cdv A outer s H E).nox (L2.defBody sp_read_shift) (b_p_read_shift c) := by
  have nd := scp_read_shift.nd
  unfold b_p_read_shift
  exact pss_cons (ps_set (i := 4) nd rfl (by first | exact .inl rfl | exact .inr rfl) (pd_ix (fun _ _ => rfl) (pd_var (i := 3) rfl) (pd_int))) (pss_cons (ps_if (pt_cmp (L2.op_neD hr.units) real_ne (by rfl) (pd_ix (fun _ _ => rfl) (pd_var (i := 2) rfl) (pd_int)) (pd_ix (fun _ _ => rfl) (pd_var (i := 3) rfl) (pd_int))) (pss_one (ps_ret (pd_if (pt_cmp (L2.op_eqD hr.units) real_eq (by rfl) (pd_var (i := 1) rfl) (pd_tup (pa_cons (pd_var (i := 4) rfl) (pa_cons (pd_int) (pa_nil))))) (pd_tup (pa_cons (pd_var (i := 4) rfl) (pa_cons (pd_int) (pa_nil)))) (pd_tup (pa_cons (pd_int) (pa_cons (pd_int) (pa_nil))))))) (pss_nil)) (pss_cons (ps_if (pt_cmp L2.op_ge real_ge (by rfl) (pd_ix (fun _ _ => rfl) (pd_var (i := 2) rfl) (pd_int)) (pd_int)) (pss_one (ps_ret (pd_tup (pa_cons (pd_var (i := 4) rfl) (pa_cons (pd_int) (pa_nil)))))) (pss_nil)) (pss_cons (ps_if (pt_cmp (L2.op_eqD hr.units) real_eq (by rfl) (pd_var (i := 0) rfl) (pd_str)) (pss_cons (ps_set (i := 5) nd rfl (by first | exact .inl rfl | exact .inr rfl) (pd_sub (pd_shl (pd_int) (pd_ix (fun _ _ => rfl) (pd_var (i := 2) rfl) (pd_int))) (pd_int))) (pss_one (ps_ret (pd_tup (pa_cons (pd_and (pd_or (pd_shl (pd_ix (fun _ _ => rfl) (pd_var (i := 1) rfl) (pd_int)) (pd_ix (fun _ _ => rfl) (pd_var (i := 2) rfl) (pd_int))) (pd_var (i := 5) rfl)) (pd_var (i := 4) rfl)) (pa_cons (pd_and (pd_shl (pd_ix (fun _ _ => rfl) (pd_var (i := 1) rfl) (pd_int)) (pd_ix (fun _ _ => rfl) (pd_var (i := 2) rfl) (pd_int))) (pd_var (i := 4) rfl)) (pa_nil))))))) (pss_nil)) (pss_cons (ps_set (i := 6) nd rfl (by first | exact .inl rfl | exact .inr rfl) (pd_shr (pd_var (i := 4) rfl) (pd_ix (fun _ _ => rfl) (pd_var (i := 2) rfl) (pd_int)))) (pss_one (ps_ret (pd_tup (pa_cons (pd_or (pd_shr (pd_ix (fun _ _ => rfl) (pd_var (i := 1) rfl) (pd_int)) (pd_ix (fun _ _ => rfl) (pd_var (i := 2) rfl) (pd_int))) (pd_sub (pd_var (i := 4) rfl) (pd_var (i := 6) rfl))) (pa_cons (pd_shr (pd_ix (fun _ _ => rfl) (pd_var (i := 1) rfl) (pd_int)) (pd_ix (fun _ _ => rfl) (pd_var (i := 2) rfl) (pd_int))) (pa_nil))))))))))
theorem der_p_read_pick {k : Nat} {c : Cl} (ok : ∀ y ∈ names, Own P w K mg base k (Str.ofString y) (c y)) (oks : ∀ q ∈ snames, OwnS P w K mg base k q.2 (Str.ofString q.1) (c q.1)) (zs : ∀ y ∈ blts, mg (Str.ofString y) = none) {fa : Addr} (cdv : Value) (A : Around) (outer : List PySem.Env) (s : Shared) (H : L2.Hp) (E : L2.XK) (hr : L2.Room k (A.deeper (envOfC "read_pick" (L2.defScope sp_read_pick) s.heap.objs.size fa cdv))) :
    PDSs (L2.cxOf L2.CX0 P w K mg base np_read_pick "read_pick" (L2.defScope sp_read_pick) fa cdv A outer s H E).nox (L2.defBody sp_read_pick) (b_p_read_pick c) := by
  have nd := scp_read_pick.nd
  unfold b_p_read_pick
  exact pss_cons (ps_asg (pd_var (i := 0) rfl) (pg_lstT rfl (pgs_cons (pg_name (i := 1) nd rfl (by first | exact .inl rfl | exact .inr rfl)) (pgs_cons (pg_name (i := 2) nd rfl (by first | exact .inl rfl | exact .inr rfl)) (pgs_cons (pg_name (i := 3) nd rfl (by first | exact .inl rfl | exact .inr rfl)) (pgs_nil)))))) (pss_cons (ps_if (pt_cmp (L2.op_eqD hr.units) real_eq (by rfl) (pd_ix (fun _ _ => rfl) (pd_var (i := 1) rfl) (pd_int)) (pd_int)) (pss_one (ps_ret (pd_if (pt_cmp (L2.op_eqD hr.units) real_eq (by rfl) (pd_ix (fun _ _ => rfl) (pd_var (i := 1) rfl) (pd_int)) (pd_int)) (pd_var (i := 2) rfl) (pd_var (i := 3) rfl)))) (pss_nil)) (pss_cons (ps_set (i := 4) nd rfl (by first | exact .inl rfl | exact .inr rfl) (pd_and (pd_and (pd_ix (fun _ _ => rfl) (pd_var (i := 2) rfl) (pd_int)) (pd_ix (fun _ _ => rfl) (pd_var (i := 3) rfl) (pd_int))) (pd_inv (pd_xor (pd_ix (fun _ _ => rfl) (pd_var (i := 2) rfl) (pd_int)) (pd_ix (fun _ _ => rfl) (pd_var (i := 3) rfl) (pd_int)))))) (pss_one (ps_ret (pd_tup (pa_cons (pd_var (i := 4) rfl) (pa_cons (pd_and (pd_ix (fun _ _ => rfl) (pd_var (i := 2) rfl) (pd_int)) (pd_var (i := 4) rfl)) (pa_nil))))))))
theorem der_p_read_wide {k : Nat} {c : Cl} (ok : ∀ y ∈ names, Own P w K mg base k (Str.ofString y) (c y)) (oks : ∀ q ∈ snames, OwnS P w K mg base k q.2 (Str.ofString q.1) (c q.1)) (zs : ∀ y ∈ blts, mg (Str.ofString y) = none) {fa : Addr} (cdv : Value) (A : Around) (outer : List PySem.Env) (s : Shared) (H : L2.Hp) (E : L2.XK) (hr : L2.Room k (A.deeper (envOfC "read_wide" (L2.defScope sp_read_wide) s.heap.objs.size fa cdv))) :
    PDSs (L2.cxOf L2.CX0 P w K mg base np_read_wide "read_wide" (L2.defScope sp_read_wide) fa cdv A outer s H E).nox (L2.defBody sp_read_wide) (b_p_read_wide c) := by
  have nd := scp_read_wide.nd
  unfold b_p_read_wide
  exact pss_cons (ps_if (pt_cmp L2.op_gt real_gt (by rfl) (pd_var (i := 0) rfl) (pd_var (i := 1) rfl)) (pss_one (ps_ret (pd_tup (pa_cons (pd_or (pd_ix (fun _ _ => rfl) (pd_var (i := 2) rfl) (pd_int)) (pd_sub (pd_var (i := 0) rfl) (pd_var (i := 1) rfl))) (pa_cons (pd_ix (fun _ _ => rfl) (pd_var (i := 2) rfl) (pd_int)) (pa_nil)))))) (pss_nil)) (pss_one (ps_ret (pd_tup (pa_cons (pd_and (pd_ix (fun _ _ => rfl) (pd_var (i := 2) rfl) (pd_int)) (pd_var (i := 0) rfl)) (pa_cons (pd_and (pd_ix (fun _ _ => rfl) (pd_var (i := 2) rfl) (pd_int)) (pd_var (i := 0) rfl)) (pa_nil))))))
theorem der_p_read_relation {k : Nat} {c : Cl} (ok : ∀ y ∈ names, Own P w K mg base k (Str.ofString y) (c y)) (oks : ∀ q ∈ snames, OwnS P w K mg base k q.2 (Str.ofString q.1) (c q.1)) (zs : ∀ y ∈ blts, mg (Str.ofString y) = none) {fa : Addr} (cdv : Value) (A : Around) (outer : List PySem.Env) (s : Shared) (H : L2.Hp) (E : L2.XK) (hr : L2.Room k (A.deeper (envOfC "read_relation" (L2.defScope sp_read_relation) s.heap.objs.size fa cdv))) :
    PDSs (L2.cxOf L2.CX0 P w K mg base np_read_relation "read_relation" (L2.defScope sp_read_relation) fa cdv A outer s H E).nox (L2.defBody sp_read_relation) (b_p_read_relation c) := by
  have nd := scp_read_relation.nd
  unfold b_p_read_relation
  exact pss_cons (ps_if (pt_cmp L2.op_in_seq (real_in false) (by rfl) (pd_var (i := 0) rfl) (pd_tup (pa_cons (pd_str) (pa_cons (pd_str) (pa_nil))))) (pss_cons (ps_set (i := 4) nd rfl (by first | exact .inl rfl | exact .inr rfl) (pd_non)) (pss_cons (ps_if (pt_tru (pd_and (pd_and (pd_xor (pd_ix (fun _ _ => rfl) (pd_var (i := 1) rfl) (pd_int)) (pd_ix (fun _ _ => rfl) (pd_var (i := 2) rfl) (pd_int))) (pd_ix (fun _ _ => rfl) (pd_var (i := 1) rfl) (pd_int))) (pd_ix (fun _ _ => rfl) (pd_var (i := 2) rfl) (pd_int)))) (pss_one (ps_set (i := 4) nd rfl (by first | exact .inl rfl | exact .inr rfl) (pd_int))) (pss_one (ps_if (ptw (pw_and (pt_cmp (L2.op_eqD hr.units) real_eq (by rfl) (pd_ix (fun _ _ => rfl) (pd_var (i := 1) rfl) (pd_int)) (pd_var (i := 3) rfl)) (pw_and1 (pt_cmp (L2.op_eqD hr.units) real_eq (by rfl) (pd_ix (fun _ _ => rfl) (pd_var (i := 2) rfl) (pd_int)) (pd_var (i := 3) rfl))))) (pss_one (ps_set (i := 4) nd rfl (by first | exact .inl rfl | exact .inr rfl) (pd_int))) (pss_nil)))) (pss_cons (ps_if (pt_cmp L2.op_isN real_is (by rfl) (pd_var (i := 4) rfl) (pd_non)) (pss_one (ps_ret (pd_tup (pa_cons (pd_int) (pa_cons (pd_int) (pa_nil)))))) (pss_nil)) (pss_one (ps_ret (pd_tup (pa_cons (pd_int) (pa_cons (pd_if (pt_cmp (L2.op_eqD hr.units) real_eq (by rfl) (pd_var (i := 0) rfl) (pd_str)) (pd_var (i := 4) rfl) (pd_sub (pd_int) (pd_var (i := 4) rfl))) (pa_nil))))))))) (pss_nil)) (pss_cons (ps_par rfl nd rfl rfl (by decide) (L2.ps_par rfl nd rfl rfl (by decide) rfl rfl (pa_cons (pd_ix (fun _ _ => rfl) (pd_var (i := 1) rfl) (pd_int)) (pa_cons (pd_or (pd_ix (fun _ _ => rfl) (pd_var (i := 1) rfl) (pd_int)) (pd_sub (pd_var (i := 3) rfl) (pd_ix (fun _ _ => rfl) (pd_var (i := 1) rfl) (pd_int)))) (pa_nil))) (by rfl))) (pss_cons (ps_par rfl nd rfl rfl (by decide) (L2.ps_par rfl nd rfl rfl (by decide) rfl rfl (pa_cons (pd_ix (fun _ _ => rfl) (pd_var (i := 2) rfl) (pd_int)) (pa_cons (pd_or (pd_ix (fun _ _ => rfl) (pd_var (i := 2) rfl) (pd_int)) (pd_sub (pd_var (i := 3) rfl) (pd_ix (fun _ _ => rfl) (pd_var (i := 2) rfl) (pd_int)))) (pa_nil))) (by rfl))) (pss_cons (ps_if (pt_cmp (L2.op_eqD hr.units) real_eq (by rfl) (pd_var (i := 0) rfl) (pd_str)) (pss_one (ps_par rfl nd rfl rfl (by decide) (L2.ps_par rfl nd rfl rfl (by decide) rfl rfl (pa_cons (pd_cmp L2.op_lt real_lt (by rfl) (pd_var (i := 6) rfl) (pd_var (i := 7) rfl)) (pa_cons (pd_cmp L2.op_ge real_ge (by rfl) (pd_var (i := 5) rfl) (pd_var (i := 8) rfl)) (pa_nil))) (by rfl)))) (pss_one (ps_par rfl nd rfl rfl (by decide) (L2.ps_par rfl nd rfl rfl (by decide) rfl rfl (pa_cons (pd_cmp L2.op_le real_le (by rfl) (pd_var (i := 6) rfl) (pd_var (i := 7) rfl)) (pa_cons (pd_cmp L2.op_gt real_gt (by rfl) (pd_var (i := 5) rfl) (pd_var (i := 8) rfl)) (pa_nil))) (by rfl))))) (pss_cons (ps_if (ptw (pw_or (pt_tru (pd_var (i := 9) rfl)) (pw_or1 (pt_tru (pd_var (i := 10) rfl))))) (pss_one (ps_ret (pd_tup (pa_cons (pd_int) (pa_cons (pd_callTy L2.call_int1 real_intB rfl (zs "int" (by decide)) bt_int (pa_cons (pd_var (i := 9) rfl) (pa_nil))) (pa_nil)))))) (pss_nil)) (pss_one (ps_ret (pd_tup (pa_cons (pd_int) (pa_cons (pd_int) (pa_nil))))))))))
theorem der_l_begin {k : Nat} {c : Cl} (ok : ∀ y ∈ names, Own P w K mg base k (Str.ofString y) (c y)) (oks : ∀ q ∈ snames, OwnS P w K mg base k q.2 (Str.ofString q.1) (c q.1)) (zs : ∀ y ∈ blts, mg (Str.ofString y) = none) {fa : Addr} (cdv : Value) (A : Around) (outer : List PySem.Env) (s : Shared) (H : L2.Hp) (E : L2.XK) (hr : L2.Room k (A.deeper (envOfC "_law_begin" (L2.defScope sl_begin) s.heap.objs.size fa cdv))) :
    PDSs (L2.cxOf L2.CX0 P w K mg base nl_begin "_law_begin" (L2.defScope sl_begin) fa cdv A outer s H E).nox (L2.defBody sl_begin) (b_l_begin c) := by
  have nd := scl_begin.nd
  unfold b_l_begin
  exact pss_one (ps_ret (pd_lst (pa_cons (pd_lc (own := [("_law_cell", 1)]) rfl nd (pi_seq (pd_var (i := 0) rfl)) (L2.blkOk_by (N := nl_begin) (sc := L2.defScope sl_begin) (by decide +kernel)) (fun _ _ _ _ _ => pg_name (i := 1) nd rfl (by first | exact .inl rfl | exact .inr rfl)) (fun _ _ _ _ _ => pts_nil) (fun _ _ _ _ _ => pd_callTy L2.call_int1 real_intB rfl (zs "int" (by decide)) bt_int (pa_cons (pd_var (i := 1) rfl) (pa_nil))) (by decide)) (pa_cons (pd_int) (pa_cons (pd_int) (pa_cons (pd_int) (pa_cons (pd_int) (pa_nil))))))))
theorem der_l_draw {k : Nat} {c : Cl} (ok : ∀ y ∈ names, Own P w K mg base k (Str.ofString y) (c y)) (oks : ∀ q ∈ snames, OwnS P w K mg base k q.2 (Str.ofString q.1) (c q.1)) (zs : ∀ y ∈ blts, mg (Str.ofString y) = none) {fa : Addr} (cdv : Value) (A : Around) (outer : List PySem.Env) (s : Shared) (H : L2.Hp) (E : L2.XK) (hr : L2.Room k (A.deeper (envOfC "_law_draw" (L2.defScope sl_draw) s.heap.objs.size fa cdv))) :
    PDSs (L2.cxOf L2.CX0 P w K mg base nl_draw "_law_draw" (L2.defScope sl_draw) fa cdv A outer s H E).nox (L2.defBody sl_draw) (b_l_draw c) := by
  have nd := scl_draw.nd
  unfold b_l_draw
  exact pss_cons (ps_if (pt_cmp L2.op_gt real_gt (by rfl) (pd_ix (fun _ _ => rfl) (pd_var (i := 0) rfl) (pd_int)) (pd_int)) (pss_cons (ps_set (i := 2) nd rfl (by first | exact .inl rfl | exact .inr rfl) (pd_ix (fun _ _ => rfl) (pd_var (i := 0) rfl) (pd_int))) (pss_cons (ps_asg (pd_fdiv (pd_var (i := 2) rfl) (pd_var (i := 1) rfl)) (pg_sub (pd_var (i := 0) rfl) (pd_int))) (pss_one (ps_ret (pd_mod (pd_callTy L2.call_int1 real_intB rfl (zs "int" (by decide)) bt_int (pa_cons (pd_var (i := 2) rfl) (pa_nil))) (pd_var (i := 1) rfl)))))) (pss_nil)) (pss_cons (ps_set (i := 3) nd rfl (by first | exact .inl rfl | exact .inr rfl) (pd_int)) (pss_cons (ps_if (pt_cmp L2.op_lt real_lt (by rfl) (pd_ix (fun _ _ => rfl) (pd_var (i := 0) rfl) (pd_int)) (pd_callB L2.call_len real_lenB rfl (zs "len" (by decide)) bt_len (pa_cons (pd_ix (fun _ _ => rfl) (pd_var (i := 0) rfl) (pd_int)) (pa_nil)))) (pss_cons (ps_set (i := 4) nd rfl (by first | exact .inl rfl | exact .inr rfl) (pd_ix (fun _ _ => rfl) (pd_ix (fun _ _ => rfl) (pd_var (i := 0) rfl) (pd_int)) (pd_ix (fun _ _ => rfl) (pd_var (i := 0) rfl) (pd_int)))) (pss_one (ps_set (i := 3) nd rfl (by first | exact .inl rfl | exact .inr rfl) (pd_add (pd_mul (pd_int) (pd_callB L2.call_abs real_absB rfl (zs "abs" (by decide)) bt_abs (pa_cons (pd_var (i := 4) rfl) (pa_nil)))) (pd_callTy L2.call_int1 real_intB rfl (zs "int" (by decide)) bt_int (pa_cons (pd_cmp L2.op_lt real_lt (by rfl) (pd_var (i := 4) rfl) (pd_int)) (pa_nil))))))) (pss_nil)) (pss_cons (ps_augS ip_add real_iadd (pd_var (i := 0) rfl) (pd_int) (pd_int)) (pss_cons (ps_if (pt_cmp L2.op_ge real_ge (by rfl) (pd_var (i := 3) rfl) (pd_mul (pd_int) (pd_pow (pd_int) (pd_int)))) (pss_cons (ps_set (i := 2) nd rfl (by first | exact .inl rfl | exact .inr rfl) (pd_mod (pd_callTy L2.call_int1 real_intB rfl (zs "int" (by decide)) bt_int (pa_cons (pd_fdiv (pd_var (i := 3) rfl) (pd_int)) (pa_nil))) (pd_shl (pd_int) (pd_int)))) (pss_cons (ps_asg (pd_fdiv (pd_var (i := 2) rfl) (pd_var (i := 1) rfl)) (pg_sub (pd_var (i := 0) rfl) (pd_int))) (pss_one (ps_ret (pd_mod (pd_callTy L2.call_int1 real_intB rfl (zs "int" (by decide)) bt_int (pa_cons (pd_var (i := 2) rfl) (pa_nil))) (pd_var (i := 1) rfl)))))) (pss_nil)) (pss_cons (ps_asg (pd_mod (pd_callTy L2.call_int1 real_intB rfl (zs "int" (by decide)) bt_int (pa_cons (pd_add (pd_add (pd_add (pd_mul (pd_ix (fun _ _ => rfl) (pd_var (i := 0) rfl) (pd_int)) (pd_int)) (pd_mul (pd_mod (pd_callTy L2.call_int1 real_intB rfl (zs "int" (by decide)) bt_int (pa_cons (pd_var (i := 3) rfl) (pa_nil))) (pd_int)) (pd_int))) (pd_mul (pd_ix (fun _ _ => rfl) (pd_var (i := 0) rfl) (pd_int)) (pd_int))) (pd_int)) (pa_nil))) (pd_int)) (pg_sub (pd_var (i := 0) rfl) (pd_int))) (pss_one (ps_ret (pd_mod (pd_callTy L2.call_int1 real_intB rfl (zs "int" (by decide)) bt_int (pa_cons (pd_fdiv (pd_ix (fun _ _ => rfl) (pd_var (i := 0) rfl) (pd_int)) (pd_int)) (pa_nil))) (pd_var (i := 1) rfl)))))))))
theorem der_l_pick {k : Nat} {c : Cl} (ok : ∀ y ∈ names, Own P w K mg base k (Str.ofString y) (c y)) (oks : ∀ q ∈ snames, OwnS P w K mg base k q.2 (Str.ofString q.1) (c q.1)) (zs : ∀ y ∈ blts, mg (Str.ofString y) = none) {fa : Addr} (cdv : Value) (A : Around) (outer : List PySem.Env) (s : Shared) (H : L2.Hp) (E : L2.XK) (hr : L2.Room k (A.deeper (envOfC "_law_pick" (L2.defScope sl_pick) s.heap.objs.size fa cdv))) :
    PDSs (L2.cxOf L2.CX0 P w K mg base nl_pick "_law_pick" (L2.defScope sl_pick) fa cdv A outer s H E).nox (L2.defBody sl_pick) (b_l_pick c) := by
  have nd := scl_pick.nd
  unfold b_l_pick
  exact pss_one (ps_ret (pd_ix (fun _ _ => rfl) (pd_var (i := 1) rfl) (pd_call (y := "_law_draw") (ok "_law_draw" (by decide)) hr rfl (pa_cons (pd_var (i := 0) rfl) (pa_cons (pd_callB L2.call_len real_lenB rfl (zs "len" (by decide)) bt_len (pa_cons (pd_var (i := 1) rfl) (pa_nil))) (pa_nil))))))
theorem der_l_rare {k : Nat} {c : Cl} (ok : ∀ y ∈ names, Own P w K mg base k (Str.ofString y) (c y)) (oks : ∀ q ∈ snames, OwnS P w K mg base k q.2 (Str.ofString q.1) (c q.1)) (zs : ∀ y ∈ blts, mg (Str.ofString y) = none) {fa : Addr} (cdv : Value) (A : Around) (outer : List PySem.Env) (s : Shared) (H : L2.Hp) (E : L2.XK) (hr : L2.Room k (A.deeper (envOfC "_law_rare" (L2.defScope sl_rare) s.heap.objs.size fa cdv))) :
    PDSs (L2.cxOf L2.CX0 P w K mg base nl_rare "_law_rare" (L2.defScope sl_rare) fa cdv A outer s H E).nox (L2.defBody sl_rare) (b_l_rare c) := by
  have nd := scl_rare.nd
  unfold b_l_rare
  exact pss_one (ps_ret (pd_cmp (L2.op_eqD hr.units) real_eq (by rfl) (pd_call (y := "_law_draw") (ok "_law_draw" (by decide)) hr rfl (pa_cons (pd_var (i := 0) rfl) (pa_cons (pd_var (i := 1) rfl) (pa_nil)))) (pd_fdiv (pd_var (i := 1) rfl) (pd_int))))
theorem der_l_shuffled {k : Nat} {c : Cl} (ok : ∀ y ∈ names, Own P w K mg base k (Str.ofString y) (c y)) (oks : ∀ q ∈ snames, OwnS P w K mg base k q.2 (Str.ofString q.1) (c q.1)) (zs : ∀ y ∈ blts, mg (Str.ofString y) = none) {fa : Addr} (cdv : Value) (A : Around) (outer : List PySem.Env) (s : Shared) (H : L2.Hp) (E : L2.XK) (hr : L2.Room k (A.deeper (envOfC "_law_shuffled" (L2.defScope sl_shuffled) s.heap.objs.size fa cdv))) :
    PDSs (L2.cxOf L2.CX0 P w K mg base nl_shuffled "_law_shuffled" (L2.defScope sl_shuffled) fa cdv A outer s H E).nox (L2.defBody sl_shuffled) (b_l_shuffled c) := by
  have nd := scl_shuffled.nd
  unfold b_l_shuffled
  exact pss_cons (ps_set (i := 2) nd rfl (by first | exact .inl rfl | exact .inr rfl) (pd_callTy L2.call_list_of real_listB rfl (zs "list" (by decide)) bt_list (pa_cons (pd_var (i := 1) rfl) (pa_nil)))) (pss_cons (ps_set (i := 3) nd rfl (by first | exact .inl rfl | exact .inr rfl) (pd_lst (pa_nil))) (pss_cons (ps_for PassesOwn.never rfl (pi_r1 rfl (zs "range" (by decide)) (pd_callB L2.call_len real_lenB rfl (zs "len" (by decide)) bt_len (pa_cons (pd_var (i := 2) rfl) (pa_nil)))) (pg_name (i := 4) nd rfl (by first | exact .inl rfl | exact .inr rfl)) (pss_one (ps_expr (pd_m L2.mt_append real_append ty_list PySem.F.plainAttrs_list PySem.F.slot_list_append PySem.F.type_list_append (pd_var (i := 3) rfl) (pa_cons (pd_m L2.mt_popAt real_popAt ty_list PySem.F.plainAttrs_list PySem.F.slot_list_pop PySem.F.type_list_pop (pd_var (i := 2) rfl) (pa_cons (pd_call (y := "_law_draw") (ok "_law_draw" (by decide)) hr rfl (pa_cons (pd_var (i := 0) rfl) (pa_cons (pd_callB L2.call_len real_lenB rfl (zs "len" (by decide)) bt_len (pa_cons (pd_var (i := 2) rfl) (pa_nil))) (pa_nil)))) (pa_nil))) (pa_nil)))))) (pss_one (ps_ret (pd_var (i := 3) rfl)))))
theorem der_l_is_int {k : Nat} {c : Cl} (ok : ∀ y ∈ names, Own P w K mg base k (Str.ofString y) (c y)) (oks : ∀ q ∈ snames, OwnS P w K mg base k q.2 (Str.ofString q.1) (c q.1)) (zs : ∀ y ∈ blts, mg (Str.ofString y) = none) {fa : Addr} (cdv : Value) (A : Around) (outer : List PySem.Env) (s : Shared) (H : L2.Hp) (E : L2.XK) (hr : L2.Room k (A.deeper (envOfC "_law_is_int" (L2.defScope sl_is_int) s.heap.objs.size fa cdv))) :
    PDSs (L2.cxOf L2.CX0 P w K mg base nl_is_int "_law_is_int" (L2.defScope sl_is_int) fa cdv A outer s H E).nox (L2.defBody sl_is_int) (b_l_is_int c) := by
  have nd := scl_is_int.nd
  unfold b_l_is_int
  exact pss_one (ps_ret (pd_and' (pd_isi (T := "int") .int rfl (zs "isinstance" (by decide)) rfl rfl (zs "int" (by decide)) bt_int (pd_var (i := 0) rfl)) (pd_one (pd_not (pd_isi (T := "bool") .bool rfl (zs "isinstance" (by decide)) rfl rfl (zs "bool" (by decide)) bt_bool (pd_var (i := 0) rfl))))))
theorem der_l_ops {k : Nat} {c : Cl} (ok : ∀ y ∈ names, Own P w K mg base k (Str.ofString y) (c y)) (oks : ∀ q ∈ snames, OwnS P w K mg base k q.2 (Str.ofString q.1) (c q.1)) (zs : ∀ y ∈ blts, mg (Str.ofString y) = none) {fa : Addr} (cdv : Value) (A : Around) (outer : List PySem.Env) (s : Shared) (H : L2.Hp) (E : L2.XK) (hr : L2.Room k (A.deeper (envOfC "_law_ops" (L2.defScope sl_ops) s.heap.objs.size fa cdv))) :
    PDSs (L2.cxOf L2.CX0 P w K mg base nl_ops "_law_ops" (L2.defScope sl_ops) fa cdv A outer s H E).nox (L2.defBody sl_ops) (b_l_ops c) := by
  have nd := scl_ops.nd
  unfold b_l_ops
  exact pss_one (ps_ret (pd_lst (pa_cons (pd_str) (pa_cons (pd_str) (pa_cons (pd_str) (pa_cons (pd_str) (pa_cons (pd_str) (pa_cons (pd_str) (pa_cons (pd_str) (pa_cons (pd_str) (pa_cons (pd_str) (pa_cons (pd_str) (pa_cons (pd_str) (pa_cons (pd_str) (pa_cons (pd_str) (pa_cons (pd_str) (pa_cons (pd_str) (pa_cons (pd_str) (pa_cons (pd_str) (pa_cons (pd_str) (pa_nil)))))))))))))))))))))
theorem der_l_spans {k : Nat} {c : Cl} (ok : ∀ y ∈ names, Own P w K mg base k (Str.ofString y) (c y)) (oks : ∀ q ∈ snames, OwnS P w K mg base k q.2 (Str.ofString q.1) (c q.1)) (zs : ∀ y ∈ blts, mg (Str.ofString y) = none) {fa : Addr} (cdv : Value) (A : Around) (outer : List PySem.Env) (s : Shared) (H : L2.Hp) (E : L2.XK) (hr : L2.Room k (A.deeper (envOfC "_law_spans" (L2.defScope sl_spans) s.heap.objs.size fa cdv))) :
    PDSs (L2.cxOf L2.CX0 P w K mg base nl_spans "_law_spans" (L2.defScope sl_spans) fa cdv A outer s H E).nox (L2.defBody sl_spans) (b_l_spans c) := by
  have nd := scl_spans.nd
  unfold b_l_spans
  exact pss_one (ps_ret (pd_lst (pa_cons (pd_lst (pa_cons (pd_int) (pa_nil))) (pa_cons (pd_lst (pa_cons (pd_int) (pa_nil))) (pa_cons (pd_lst (pa_cons (pd_int) (pa_cons (pd_int) (pa_nil)))) (pa_cons (pd_lst (pa_cons (pd_int) (pa_cons (pd_int) (pa_nil)))) (pa_cons (pd_lst (pa_cons (pd_int) (pa_nil))) (pa_cons (pd_lst (pa_cons (pd_int) (pa_cons (pd_int) (pa_nil)))) (pa_cons (pd_lst (pa_cons (pd_int) (pa_cons (pd_int) (pa_cons (pd_int) (pa_nil))))) (pa_cons (pd_lst (pa_cons (pd_int) (pa_nil))) (pa_cons (pd_lst (pa_cons (pd_int) (pa_nil))) (pa_cons (pd_lst (pa_cons (pd_int) (pa_cons (pd_int) (pa_nil)))) (pa_cons (pd_lst (pa_cons (pd_int) (pa_nil))) (pa_cons (pd_lst (pa_cons (pd_int) (pa_nil))) (pa_cons (pd_lst (pa_cons (pd_int) (pa_cons (pd_int) (pa_cons (pd_int) (pa_nil))))) (pa_nil))))))))))))))))
theorem der_l_span_leaf {k : Nat} {c : Cl} (ok : ∀ y ∈ names, Own P w K mg base k (Str.ofString y) (c y)) (oks : ∀ q ∈ snames, OwnS P w K mg base k q.2 (Str.ofString q.1) (c q.1)) (zs : ∀ y ∈ blts, mg (Str.ofString y) = none) {fa : Addr} (cdv : Value) (A : Around) (outer : List PySem.Env) (s : Shared) (H : L2.Hp) (E : L2.XK) (hr : L2.Room k (A.deeper (envOfC "_law_span_leaf" (L2.defScope sl_span_leaf) s.heap.objs.size fa cdv))) :
    PDSs (L2.cxOf L2.CX0 P w K mg base nl_span_leaf "_law_span_leaf" (L2.defScope sl_span_leaf) fa cdv A outer s H E).nox (L2.defBody sl_span_leaf) (b_l_span_leaf c) := by
  have nd := scl_span_leaf.nd
  unfold b_l_span_leaf
  exact pss_cons (ps_if (pt_cmp L2.op_gt real_gt (by rfl) (pd_call (y := "_law_draw") (ok "_law_draw" (by decide)) hr rfl (pa_cons (pd_var (i := 0) rfl) (pa_cons (pd_int) (pa_nil)))) (pd_int)) (pss_cons (ps_set (i := 3) nd rfl (by first | exact .inl rfl | exact .inr rfl) (pd_sub (pd_shl (pd_int) (pd_var (i := 2) rfl)) (pd_int))) (pss_one (ps_ret (pd_tup (pa_cons (pd_str) (pa_cons (pd_var (i := 2) rfl) (pa_cons (pd_call (y := "_law_pick") (ok "_law_pick" (by decide)) hr rfl (pa_cons (pd_var (i := 0) rfl) (pa_cons (pd_lst (pa_cons (pd_int) (pa_cons (pd_int) (pa_cons (pd_var (i := 3) rfl) (pa_cons (pd_shr (pd_var (i := 3) rfl) (pd_int)) (pa_cons (pd_var (i := 2) rfl) (pa_cons (pd_call (y := "_law_draw") (ok "_law_draw" (by decide)) hr rfl (pa_cons (pd_var (i := 0) rfl) (pa_cons (pd_add (pd_var (i := 3) rfl) (pd_int)) (pa_nil)))) (pa_nil)))))))) (pa_nil)))) (pa_nil)))))))) (pss_nil)) (pss_cons (ps_set (i := 4) nd rfl (by first | exact .inl rfl | exact .inr rfl) (pd_call (y := "_law_draw") (ok "_law_draw" (by decide)) hr rfl (pa_cons (pd_var (i := 0) rfl) (pa_cons (pd_callB L2.call_len real_lenB rfl (zs "len" (by decide)) bt_len (pa_cons (pd_var (i := 1) rfl) (pa_nil))) (pa_nil))))) (pss_one (ps_ret (pd_tup (pa_cons (pd_str) (pa_cons (pd_add (pd_int) (pd_call (y := "_law_draw") (ok "_law_draw" (by decide)) hr rfl (pa_cons (pd_var (i := 0) rfl) (pa_cons (pd_ix (fun _ _ => rfl) (pd_var (i := 1) rfl) (pd_var (i := 4) rfl)) (pa_nil))))) (pa_cons (pd_var (i := 4) rfl) (pa_nil))))))))
theorem der_l_node_drawn {k : Nat} {c : Cl} (ok : ∀ y ∈ names, Own P w K mg base k (Str.ofString y) (c y)) (oks : ∀ q ∈ snames, OwnS P w K mg base k q.2 (Str.ofString q.1) (c q.1)) (zs : ∀ y ∈ blts, mg (Str.ofString y) = none) {fa : Addr} (cdv : Value) (A : Around) (outer : List PySem.Env) (s : Shared) (H : L2.Hp) (E : L2.XK) (hr : L2.Room k (A.deeper (envOfC "_law_node_drawn" (L2.defScope sl_node_drawn) s.heap.objs.size fa cdv))) :
    PDSs (L2.cxOf L2.CX0 P w K mg base nl_node_drawn "_law_node_drawn" (L2.defScope sl_node_drawn) fa cdv A outer s H E).nox (L2.defBody sl_node_drawn) (b_l_node_drawn c) := by
  have nd := scl_node_drawn.nd
  unfold b_l_node_drawn
  exact pss_cons (ps_set (i := 2) nd rfl (by first | exact .inl rfl | exact .inr rfl) (pd_callB L2.call_len real_lenB rfl (zs "len" (by decide)) bt_len (pa_cons (pd_var (i := 1) rfl) (pa_nil)))) (pss_cons (ps_if (pt_cmp (L2.op_eqD hr.units) real_eq (by rfl) (pd_call (y := "_law_draw") (ok "_law_draw" (by decide)) hr rfl (pa_cons (pd_var (i := 0) rfl) (pa_cons (pd_int) (pa_nil)))) (pd_int)) (pss_one (ps_set (i := 2) nd rfl (by first | exact .inl rfl | exact .inr rfl) (pd_callB (L2.call_min2 rfl) real_min2B rfl (zs "min" (by decide)) bt_min (pa_cons (pd_int) (pa_cons (pd_var (i := 2) rfl) (pa_nil)))))) (pss_nil)) (pss_cons (ps_set (i := 3) nd rfl (by first | exact .inl rfl | exact .inr rfl) (pd_sub (pd_sub (pd_callB L2.call_len real_lenB rfl (zs "len" (by decide)) bt_len (pa_cons (pd_var (i := 1) rfl) (pa_nil))) (pd_int)) (pd_call (y := "_law_draw") (ok "_law_draw" (by decide)) hr rfl (pa_cons (pd_var (i := 0) rfl) (pa_cons (pd_var (i := 2) rfl) (pa_nil)))))) (pss_cons (ps_set (i := 4) nd rfl (by first | exact .inl rfl | exact .inr rfl) (pd_ix (fun _ _ => rfl) (pd_ix (fun _ _ => rfl) (pd_var (i := 1) rfl) (pd_var (i := 3) rfl)) (pd_int))) (pss_cons (ps_setLc (j := 5) (own := [("_law_k", 9)]) rfl nd rfl rfl (L2.sw_true rfl rfl rfl (by decide +kernel)) (pi_r1 rfl (zs "range" (by decide)) (pd_callB L2.call_len real_lenB rfl (zs "len" (by decide)) bt_len (pa_cons (pd_var (i := 1) rfl) (pa_nil)))) (L2.blkOk_by (N := nl_node_drawn) (sc := L2.defScope sl_node_drawn) (by decide +kernel)) (fun _ _ _ _ _ => pg_name (i := 9) nd rfl (by first | exact .inl rfl | exact .inr rfl)) (fun _ _ _ _ _ => pts_one (pt_cmp (L2.op_eqD hr.units) real_eq (by rfl) (pd_ix (fun _ _ => rfl) (pd_ix (fun _ _ => rfl) (pd_var (i := 1) rfl) (pd_var (i := 9) rfl)) (pd_int)) (pd_var (i := 4) rfl))) (fun _ _ _ _ _ => pd_var (i := 9) rfl) (by decide)) (pss_cons (ps_setLc (j := 6) (own := [("_law_k", 9)]) rfl nd rfl rfl (L2.sw_true rfl rfl rfl (by decide +kernel)) (pi_r1 rfl (zs "range" (by decide)) (pd_callB L2.call_len real_lenB rfl (zs "len" (by decide)) bt_len (pa_cons (pd_var (i := 1) rfl) (pa_nil)))) (L2.blkOk_by (N := nl_node_drawn) (sc := L2.defScope sl_node_drawn) (by decide +kernel)) (fun _ _ _ _ _ => pg_name (i := 9) nd rfl (by first | exact .inl rfl | exact .inr rfl)) (fun _ _ _ _ _ => pts_one (pt_cmp (L2.op_eqD hr.units) real_eq (by rfl) (pd_ix (fun _ _ => rfl) (pd_ix (fun _ _ => rfl) (pd_var (i := 1) rfl) (pd_var (i := 9) rfl)) (pd_int)) (pd_int))) (fun _ _ _ _ _ => pd_var (i := 9) rfl) (by decide)) (pss_cons (ps_set (i := 7) nd rfl (by first | exact .inl rfl | exact .inr rfl) (pd_call (y := "_law_pick") (ok "_law_pick" (by decide)) hr rfl (pa_cons (pd_var (i := 0) rfl) (pa_cons (pd_call0 (y := "_law_ops") (ok "_law_ops" (by decide)) hr rfl) (pa_nil))))) (pss_cons (ps_if (pt_cmp L2.op_in_seq (real_in false) (by rfl) (pd_var (i := 7) rfl) (pd_lst (pa_cons (pd_str) (pa_cons (pd_str) (pa_nil))))) (pss_one (ps_ret (pd_tup (pa_cons (pd_var (i := 7) rfl) (pa_cons (pd_var (i := 4) rfl) (pa_cons (pd_var (i := 3) rfl) (pa_nil))))))) (pss_nil)) (pss_cons (ps_if (pt_cmp (L2.op_eqD hr.units) real_eq (by rfl) (pd_var (i := 7) rfl) (pd_str)) (pss_one (ps_ret (pd_tup (pa_cons (pd_var (i := 7) rfl) (pa_cons (pd_add (pd_int) (pd_call (y := "_law_draw") (ok "_law_draw" (by decide)) hr rfl (pa_cons (pd_var (i := 0) rfl) (pa_cons (pd_int) (pa_nil))))) (pa_cons (pd_var (i := 3) rfl) (pa_nil))))))) (pss_nil)) (pss_cons (ps_if (pt_cmp L2.op_in_seq (real_in false) (by rfl) (pd_var (i := 7) rfl) (pd_lst (pa_cons (pd_str) (pa_cons (pd_str) (pa_nil))))) (pss_one (ps_ret (pd_tup (pa_cons (pd_var (i := 7) rfl) (pa_cons (pd_var (i := 4) rfl) (pa_cons (pd_var (i := 3) rfl) (pa_cons (pd_call (y := "_law_draw") (ok "_law_draw" (by decide)) hr rfl (pa_cons (pd_var (i := 0) rfl) (pa_cons (pd_callB L2.call_len real_lenB rfl (zs "len" (by decide)) bt_len (pa_cons (pd_var (i := 1) rfl) (pa_nil))) (pa_nil)))) (pa_nil)))))))) (pss_nil)) (pss_cons (ps_set (i := 8) nd rfl (by first | exact .inl rfl | exact .inr rfl) (pd_call (y := "_law_pick") (ok "_law_pick" (by decide)) hr rfl (pa_cons (pd_var (i := 0) rfl) (pa_cons (pd_var (i := 5) rfl) (pa_nil))))) (pss_cons (ps_if (ptw (pw_and (pt_cmp (L2.op_eqD hr.units) real_eq (by rfl) (pd_var (i := 7) rfl) (pd_str)) (pw_and1 (pt_tru (pd_var (i := 6) rfl))))) (pss_one (ps_ret (pd_tup (pa_cons (pd_var (i := 7) rfl) (pa_cons (pd_var (i := 4) rfl) (pa_cons (pd_call (y := "_law_pick") (ok "_law_pick" (by decide)) hr rfl (pa_cons (pd_var (i := 0) rfl) (pa_cons (pd_var (i := 6) rfl) (pa_nil)))) (pa_cons (pd_var (i := 3) rfl) (pa_cons (pd_var (i := 8) rfl) (pa_nil))))))))) (pss_nil)) (pss_cons (ps_if (pt_cmp L2.op_in_seq (real_in false) (by rfl) (pd_var (i := 7) rfl) (pd_lst (pa_cons (pd_str) (pa_cons (pd_str) (pa_cons (pd_str) (pa_cons (pd_str) (pa_cons (pd_str) (pa_nil)))))))) (pss_one (ps_ret (pd_tup (pa_cons (pd_if (pt_cmp (L2.op_eqD hr.units) real_eq (by rfl) (pd_var (i := 7) rfl) (pd_str)) (pd_str) (pd_var (i := 7) rfl)) (pa_cons (pd_int) (pa_cons (pd_var (i := 3) rfl) (pa_cons (pd_var (i := 8) rfl) (pa_nil)))))))) (pss_nil)) (pss_one (ps_ret (pd_tup (pa_cons (pd_var (i := 7) rfl) (pa_cons (pd_var (i := 4) rfl) (pa_cons (pd_var (i := 3) rfl) (pa_cons (pd_var (i := 8) rfl) (pa_nil))))))))))))))))))))
theorem der_l_span_sheet {k : Nat} {c : Cl} (ok : ∀ y ∈ names, Own P w K mg base k (Str.ofString y) (c y)) (oks : ∀ q ∈ snames, OwnS P w K mg base k q.2 (Str.ofString q.1) (c q.1)) (zs : ∀ y ∈ blts, mg (Str.ofString y) = none) {fa : Addr} (cdv : Value) (A : Around) (outer : List PySem.Env) (s : Shared) (H : L2.Hp) (E : L2.XK) (hr : L2.Room k (A.deeper (envOfC "_law_span_sheet" (L2.defScope sl_span_sheet) s.heap.objs.size fa cdv))) :
    PDSs (L2.cxOf L2.CX0 P w K mg base nl_span_sheet "_law_span_sheet" (L2.defScope sl_span_sheet) fa cdv A outer s H E).nox (L2.defBody sl_span_sheet) (b_l_span_sheet c) := by
  have nd := scl_span_sheet.nd
  unfold b_l_span_sheet
  exact pss_cons (ps_set (i := 4) nd rfl (by first | exact .inl rfl | exact .inr rfl) (pd_add (pd_int) (pd_call (y := "_law_draw") (ok "_law_draw" (by decide)) hr rfl (pa_cons (pd_var (i := 0) rfl) (pa_cons (pd_int) (pa_nil)))))) (pss_cons (ps_setLc (j := 5) (own := [("_law_n", 8)]) rfl nd rfl rfl (L2.sw_true rfl rfl rfl (by decide +kernel)) (pi_r1 rfl (zs "range" (by decide)) (pd_callB L2.call_len real_lenB rfl (zs "len" (by decide)) bt_len (pa_cons (pd_var (i := 1) rfl) (pa_nil)))) (L2.blkOk_by (N := nl_span_sheet) (sc := L2.defScope sl_span_sheet) (by decide +kernel)) (fun _ _ _ _ _ => pg_name (i := 8) nd rfl (by first | exact .inl rfl | exact .inr rfl)) (fun _ _ _ _ _ => pts_nil) (fun _ _ _ _ _ => pd_tup (pa_cons (pd_str) (pa_cons (pd_ix (fun _ _ => rfl) (pd_var (i := 1) rfl) (pd_var (i := 8) rfl)) (pa_cons (pd_var (i := 8) rfl) (pa_nil))))) (by decide)) (pss_cons (ps_if (pt_tru (pd_call (y := "_law_rare") (ok "_law_rare" (by decide)) hr rfl (pa_cons (pd_var (i := 0) rfl) (pa_cons (pd_int) (pa_nil))))) (pss_one (ps_set (i := 5) nd rfl (by first | exact .inl rfl | exact .inr rfl) (pd_sl (pd_var (i := 5) rfl) (po_some (pd_int)) (po_none)))) (pss_nil)) (pss_cons (ps_for PassesOwn.never rfl (pi_r1 rfl (zs "range" (by decide)) (pd_var (i := 2) rfl)) (pg_name (i := 6) nd rfl (by first | exact .inl rfl | exact .inr rfl)) (pss_cons (ps_set (i := 7) nd rfl (by first | exact .inl rfl | exact .inr rfl) (pd_call (y := "_law_span_leaf") (ok "_law_span_leaf" (by decide)) hr rfl (pa_cons (pd_var (i := 0) rfl) (pa_cons (pd_var (i := 1) rfl) (pa_cons (pd_call (y := "_law_pick") (ok "_law_pick" (by decide)) hr rfl (pa_cons (pd_var (i := 0) rfl) (pa_cons (pd_lst (pa_cons (pd_call (y := "_law_pick") (ok "_law_pick" (by decide)) hr rfl (pa_cons (pd_var (i := 0) rfl) (pa_cons (pd_var (i := 1) rfl) (pa_nil)))) (pa_cons (pd_var (i := 4) rfl) (pa_cons (pd_int) (pa_nil))))) (pa_nil)))) (pa_nil)))))) (pss_one (ps_if (pt_cmp (op_notinD hr.units) (real_inD true) (by rfl) (pd_var (i := 7) rfl) (pd_var (i := 5) rfl)) (pss_one (ps_expr (pd_m L2.mt_append real_append ty_list PySem.F.plainAttrs_list PySem.F.slot_list_append PySem.F.type_list_append (pd_var (i := 5) rfl) (pa_cons (pd_var (i := 7) rfl) (pa_nil))))) (pss_nil))))) (pss_cons (ps_for PassesOwn.never rfl (pi_r1 rfl (zs "range" (by decide)) (pd_var (i := 3) rfl)) (pg_name (i := 6) nd rfl (by first | exact .inl rfl | exact .inr rfl)) (pss_cons (ps_set (i := 7) nd rfl (by first | exact .inl rfl | exact .inr rfl) (pd_call (y := "_law_node_drawn") (ok "_law_node_drawn" (by decide)) hr rfl (pa_cons (pd_var (i := 0) rfl) (pa_cons (pd_var (i := 5) rfl) (pa_nil))))) (pss_one (ps_if (pt_cmp (op_notinD hr.units) (real_inD true) (by rfl) (pd_var (i := 7) rfl) (pd_var (i := 5) rfl)) (pss_one (ps_expr (pd_m L2.mt_append real_append ty_list PySem.F.plainAttrs_list PySem.F.slot_list_append PySem.F.type_list_append (pd_var (i := 5) rfl) (pa_cons (pd_var (i := 7) rfl) (pa_nil))))) (pss_nil))))) (pss_one (ps_ret (pd_callTy L2.call_tuple_of real_tupleB rfl (zs "tuple" (by decide)) bt_tuple (pa_cons (pd_var (i := 5) rfl) (pa_nil)))))))))
theorem der_l_leaf_column {k : Nat} {c : Cl} (ok : ∀ y ∈ names, Own P w K mg base k (Str.ofString y) (c y)) (oks : ∀ q ∈ snames, OwnS P w K mg base k q.2 (Str.ofString q.1) (c q.1)) (zs : ∀ y ∈ blts, mg (Str.ofString y) = none) {fa : Addr} (cdv : Value) (A : Around) (outer : List PySem.Env) (s : Shared) (H : L2.Hp) (E : L2.XK) (hr : L2.Room k (A.deeper (envOfC "_law_leaf_column" (L2.defScope sl_leaf_column) s.heap.objs.size fa cdv))) :
    PDSs (L2.cxOf L2.CX0 P w K mg base nl_leaf_column "_law_leaf_column" (L2.defScope sl_leaf_column) fa cdv A outer s H E).nox (L2.defBody sl_leaf_column) (b_l_leaf_column c) := by
  have nd := scl_leaf_column.nd
  unfold b_l_leaf_column
  exact pss_cons (ps_set (i := 2) nd rfl (by first | exact .inl rfl | exact .inr rfl) (pd_shl (pd_int) (pd_callB (L2.cr_sum rfl) real_sumB rfl (zs "sum" (by decide)) bt_sum (pa_cons (pd_var (i := 1) rfl) (pa_nil))))) (pss_cons (ps_if (pt_cmp (L2.op_eqD hr.units) real_eq (by rfl) (pd_ix (fun _ _ => rfl) (pd_var (i := 0) rfl) (pd_int)) (pd_str)) (pss_one (ps_ret (pd_lc (own := [("_law_k", 5)]) rfl nd (pi_r1 rfl (zs "range" (by decide)) (pd_var (i := 2) rfl)) (L2.blkOk_by (N := nl_leaf_column) (sc := L2.defScope sl_leaf_column) (by decide +kernel)) (fun _ _ _ _ _ => pg_name (i := 5) nd rfl (by first | exact .inl rfl | exact .inr rfl)) (fun _ _ _ _ _ => pts_nil) (fun _ _ _ _ _ => pd_ix (fun _ _ => rfl) (pd_var (i := 0) rfl) (pd_int)) (by decide)))) (pss_nil)) (pss_cons (ps_if (pt_cmp L2.op_ge real_ge (by rfl) (pd_ix (fun _ _ => rfl) (pd_var (i := 0) rfl) (pd_int)) (pd_callB L2.call_len real_lenB rfl (zs "len" (by decide)) bt_len (pa_cons (pd_var (i := 1) rfl) (pa_nil)))) (pss_one (ps_ret (pd_lc (own := [("_law_k", 5)]) rfl nd (pi_r1 rfl (zs "range" (by decide)) (pd_var (i := 2) rfl)) (L2.blkOk_by (N := nl_leaf_column) (sc := L2.defScope sl_leaf_column) (by decide +kernel)) (fun _ _ _ _ _ => pg_name (i := 5) nd rfl (by first | exact .inl rfl | exact .inr rfl)) (fun _ _ _ _ _ => pts_nil) (fun _ _ _ _ _ => pd_int) (by decide)))) (pss_nil)) (pss_cons (ps_set (i := 3) nd rfl (by first | exact .inl rfl | exact .inr rfl) (pd_callB (L2.cr_sum rfl) real_sumB rfl (zs "sum" (by decide)) bt_sum (pa_cons (pd_sl (pd_var (i := 1) rfl) (po_none) (po_some (pd_ix (fun _ _ => rfl) (pd_var (i := 0) rfl) (pd_int)))) (pa_nil)))) (pss_cons (ps_set (i := 4) nd rfl (by first | exact .inl rfl | exact .inr rfl) (pd_sub (pd_shl (pd_int) (pd_callB (L2.call_min2 rfl) real_min2B rfl (zs "min" (by decide)) bt_min (pa_cons (pd_ix (fun _ _ => rfl) (pd_var (i := 0) rfl) (pd_int)) (pa_cons (pd_ix (fun _ _ => rfl) (pd_var (i := 1) rfl) (pd_ix (fun _ _ => rfl) (pd_var (i := 0) rfl) (pd_int))) (pa_nil))))) (pd_int))) (pss_one (ps_ret (pd_lc (own := [("_law_k", 5)]) rfl nd (pi_r1 rfl (zs "range" (by decide)) (pd_var (i := 2) rfl)) (L2.blkOk_by (N := nl_leaf_column) (sc := L2.defScope sl_leaf_column) (by decide +kernel)) (fun _ _ _ _ _ => pg_name (i := 5) nd rfl (by first | exact .inl rfl | exact .inr rfl)) (fun _ _ _ _ _ => pts_nil) (fun _ _ _ _ _ => pd_and (pd_shr (pd_var (i := 5) rfl) (pd_var (i := 3) rfl)) (pd_var (i := 4) rfl)) (by decide))))))))
theorem der_l_op_column {k : Nat} {c : Cl} (ok : ∀ y ∈ names, Own P w K mg base k (Str.ofString y) (c y)) (oks : ∀ q ∈ snames, OwnS P w K mg base k q.2 (Str.ofString q.1) (c q.1)) (zs : ∀ y ∈ blts, mg (Str.ofString y) = none) {fa : Addr} (cdv : Value) (A : Around) (outer : List PySem.Env) (s : Shared) (H : L2.Hp) (E : L2.XK) (hr : L2.Room k (A.deeper (envOfC "_law_op_column" (L2.defScope sl_op_column) s.heap.objs.size fa cdv))) :
    PDSs (L2.cxOf L2.CX0 P w K mg base nl_op_column "_law_op_column" (L2.defScope sl_op_column) fa cdv A outer s H E).nox (L2.defBody sl_op_column) (b_l_op_column c) := by
  have nd := scl_op_column.nd
  unfold b_l_op_column
  exact pss_cons (ps_set (i := 3) nd rfl (by first | exact .inl rfl | exact .inr rfl) (pd_sub (pd_shl (pd_int) (pd_var (i := 1) rfl)) (pd_int))) (pss_cons (ps_set (i := 4) nd rfl (by first | exact .inl rfl | exact .inr rfl) (pd_ix (fun _ _ => rfl) (pd_var (i := 2) rfl) (pd_int))) (pss_cons (ps_if (pt_cmp (L2.op_eqD hr.units) real_eq (by rfl) (pd_var (i := 0) rfl) (pd_str)) (pss_one (ps_ret (pd_lc (own := [("_law_a", 6)]) rfl nd (pi_seq (pd_var (i := 4) rfl)) (L2.blkOk_by (N := nl_op_column) (sc := L2.defScope sl_op_column) (by decide +kernel)) (fun _ _ _ _ _ => pg_name (i := 6) nd rfl (by first | exact .inl rfl | exact .inr rfl)) (fun _ _ _ _ _ => pts_nil) (fun _ _ _ _ _ => pd_sub (pd_var (i := 3) rfl) (pd_var (i := 6) rfl)) (by decide)))) (pss_nil)) (pss_cons (ps_if (pt_cmp (L2.op_eqD hr.units) real_eq (by rfl) (pd_var (i := 0) rfl) (pd_str)) (pss_one (ps_ret (pd_lc (own := [("_law_a", 6)]) rfl nd (pi_seq (pd_var (i := 4) rfl)) (L2.blkOk_by (N := nl_op_column) (sc := L2.defScope sl_op_column) (by decide +kernel)) (fun _ _ _ _ _ => pg_name (i := 6) nd rfl (by first | exact .inl rfl | exact .inr rfl)) (fun _ _ _ _ _ => pts_nil) (fun _ _ _ _ _ => pd_and (pd_sub (pd_add (pd_var (i := 3) rfl) (pd_int)) (pd_var (i := 6) rfl)) (pd_var (i := 3) rfl)) (by decide)))) (pss_nil)) (pss_cons (ps_if (pt_cmp (L2.op_eqD hr.units) real_eq (by rfl) (pd_var (i := 0) rfl) (pd_str)) (pss_one (ps_ret (pd_lc (own := [("_law_a", 6)]) rfl nd (pi_seq (pd_var (i := 4) rfl)) (L2.blkOk_by (N := nl_op_column) (sc := L2.defScope sl_op_column) (by decide +kernel)) (fun _ _ _ _ _ => pg_name (i := 6) nd rfl (by first | exact .inl rfl | exact .inr rfl)) (fun _ _ _ _ _ => pts_nil) (fun _ _ _ _ _ => pd_and (pd_var (i := 6) rfl) (pd_var (i := 3) rfl)) (by decide)))) (pss_nil)) (pss_cons (ps_if (pt_cmp (L2.op_eqD hr.units) real_eq (by rfl) (pd_var (i := 0) rfl) (pd_str)) (pss_one (ps_ret (pd_lc (own := [("_law_c", 7), ("_law_a", 6), ("_law_b", 8)]) rfl nd (pi_zip3 rfl (zs "zip" (by decide)) (pd_var (i := 4) rfl) (pd_ix (fun _ _ => rfl) (pd_var (i := 2) rfl) (pd_int)) (pd_ix (fun _ _ => rfl) (pd_var (i := 2) rfl) (pd_int))) (L2.blkOk_by (N := nl_op_column) (sc := L2.defScope sl_op_column) (by decide +kernel)) (fun _ _ _ _ _ => pg_tup rfl (pgs_cons (pg_name (i := 7) nd rfl (by first | exact .inl rfl | exact .inr rfl)) (pgs_cons (pg_name (i := 6) nd rfl (by first | exact .inl rfl | exact .inr rfl)) (pgs_cons (pg_name (i := 8) nd rfl (by first | exact .inl rfl | exact .inr rfl)) (pgs_nil))))) (fun _ _ _ _ _ => pts_nil) (fun _ _ _ _ _ => pd_if (pt_cmp (L2.op_eqD hr.units) real_eq (by rfl) (pd_var (i := 7) rfl) (pd_int)) (pd_var (i := 6) rfl) (pd_var (i := 8) rfl)) (by decide)))) (pss_nil)) (pss_cons (ps_set (i := 5) nd rfl (by first | exact .inl rfl | exact .inr rfl) (pd_lz rfl rfl (zs "list" (by decide)) rfl (zs "zip" (by decide)) (pd_var (i := 4) rfl) (pd_ix (fun _ _ => rfl) (pd_var (i := 2) rfl) (pd_int)))) (pss_cons (ps_if (pt_cmp (L2.op_eqD hr.units) real_eq (by rfl) (pd_var (i := 0) rfl) (pd_str)) (pss_one (ps_ret (pd_lc (own := [("_law_a", 6), ("_law_b", 8)]) rfl nd (pi_seq (pd_var (i := 5) rfl)) (L2.blkOk_by (N := nl_op_column) (sc := L2.defScope sl_op_column) (by decide +kernel)) (fun _ _ _ _ _ => pg_tup rfl (pgs_cons (pg_name (i := 6) nd rfl (by first | exact .inl rfl | exact .inr rfl)) (pgs_cons (pg_name (i := 8) nd rfl (by first | exact .inl rfl | exact .inr rfl)) (pgs_nil)))) (fun _ _ _ _ _ => pts_nil) (fun _ _ _ _ _ => pd_and (pd_add (pd_var (i := 6) rfl) (pd_var (i := 8) rfl)) (pd_var (i := 3) rfl)) (by decide)))) (pss_nil)) (pss_cons (ps_if (pt_cmp (L2.op_eqD hr.units) real_eq (by rfl) (pd_var (i := 0) rfl) (pd_str)) (pss_one (ps_ret (pd_lc (own := [("_law_a", 6), ("_law_b", 8)]) rfl nd (pi_seq (pd_var (i := 5) rfl)) (L2.blkOk_by (N := nl_op_column) (sc := L2.defScope sl_op_column) (by decide +kernel)) (fun _ _ _ _ _ => pg_tup rfl (pgs_cons (pg_name (i := 6) nd rfl (by first | exact .inl rfl | exact .inr rfl)) (pgs_cons (pg_name (i := 8) nd rfl (by first | exact .inl rfl | exact .inr rfl)) (pgs_nil)))) (fun _ _ _ _ _ => pts_nil) (fun _ _ _ _ _ => pd_and (pd_sub (pd_var (i := 6) rfl) (pd_var (i := 8) rfl)) (pd_var (i := 3) rfl)) (by decide)))) (pss_nil)) (pss_cons (ps_if (pt_cmp (L2.op_eqD hr.units) real_eq (by rfl) (pd_var (i := 0) rfl) (pd_str)) (pss_one (ps_ret (pd_lc (own := [("_law_a", 6), ("_law_b", 8)]) rfl nd (pi_seq (pd_var (i := 5) rfl)) (L2.blkOk_by (N := nl_op_column) (sc := L2.defScope sl_op_column) (by decide +kernel)) (fun _ _ _ _ _ => pg_tup rfl (pgs_cons (pg_name (i := 6) nd rfl (by first | exact .inl rfl | exact .inr rfl)) (pgs_cons (pg_name (i := 8) nd rfl (by first | exact .inl rfl | exact .inr rfl)) (pgs_nil)))) (fun _ _ _ _ _ => pts_nil) (fun _ _ _ _ _ => pd_and (pd_mul (pd_var (i := 6) rfl) (pd_var (i := 8) rfl)) (pd_var (i := 3) rfl)) (by decide)))) (pss_nil)) (pss_cons (ps_if (pt_cmp (L2.op_eqD hr.units) real_eq (by rfl) (pd_var (i := 0) rfl) (pd_str)) (pss_one (ps_ret (pd_lc (own := [("_law_a", 6), ("_law_b", 8)]) rfl nd (pi_seq (pd_var (i := 5) rfl)) (L2.blkOk_by (N := nl_op_column) (sc := L2.defScope sl_op_column) (by decide +kernel)) (fun _ _ _ _ _ => pg_tup rfl (pgs_cons (pg_name (i := 6) nd rfl (by first | exact .inl rfl | exact .inr rfl)) (pgs_cons (pg_name (i := 8) nd rfl (by first | exact .inl rfl | exact .inr rfl)) (pgs_nil)))) (fun _ _ _ _ _ => pts_nil) (fun _ _ _ _ _ => pd_and (pd_var (i := 6) rfl) (pd_var (i := 8) rfl)) (by decide)))) (pss_nil)) (pss_cons (ps_if (pt_cmp (L2.op_eqD hr.units) real_eq (by rfl) (pd_var (i := 0) rfl) (pd_str)) (pss_one (ps_ret (pd_lc (own := [("_law_a", 6), ("_law_b", 8)]) rfl nd (pi_seq (pd_var (i := 5) rfl)) (L2.blkOk_by (N := nl_op_column) (sc := L2.defScope sl_op_column) (by decide +kernel)) (fun _ _ _ _ _ => pg_tup rfl (pgs_cons (pg_name (i := 6) nd rfl (by first | exact .inl rfl | exact .inr rfl)) (pgs_cons (pg_name (i := 8) nd rfl (by first | exact .inl rfl | exact .inr rfl)) (pgs_nil)))) (fun _ _ _ _ _ => pts_nil) (fun _ _ _ _ _ => pd_or (pd_var (i := 6) rfl) (pd_var (i := 8) rfl)) (by decide)))) (pss_nil)) (pss_cons (ps_if (pt_cmp (L2.op_eqD hr.units) real_eq (by rfl) (pd_var (i := 0) rfl) (pd_str)) (pss_one (ps_ret (pd_lc (own := [("_law_a", 6), ("_law_b", 8)]) rfl nd (pi_seq (pd_var (i := 5) rfl)) (L2.blkOk_by (N := nl_op_column) (sc := L2.defScope sl_op_column) (by decide +kernel)) (fun _ _ _ _ _ => pg_tup rfl (pgs_cons (pg_name (i := 6) nd rfl (by first | exact .inl rfl | exact .inr rfl)) (pgs_cons (pg_name (i := 8) nd rfl (by first | exact .inl rfl | exact .inr rfl)) (pgs_nil)))) (fun _ _ _ _ _ => pts_nil) (fun _ _ _ _ _ => pd_xor (pd_var (i := 6) rfl) (pd_var (i := 8) rfl)) (by decide)))) (pss_nil)) (pss_one (ps_ret (pd_call (y := "_law_more_column") (ok "_law_more_column" (by decide)) hr rfl (pa_cons (pd_var (i := 0) rfl) (pa_cons (pd_var (i := 3) rfl) (pa_cons (pd_var (i := 5) rfl) (pa_nil)))))))))))))))))))
theorem der_l_more_column {k : Nat} {c : Cl} (ok : ∀ y ∈ names, Own P w K mg base k (Str.ofString y) (c y)) (oks : ∀ q ∈ snames, OwnS P w K mg base k q.2 (Str.ofString q.1) (c q.1)) (zs : ∀ y ∈ blts, mg (Str.ofString y) = none) {fa : Addr} (cdv : Value) (A : Around) (outer : List PySem.Env) (s : Shared) (H : L2.Hp) (E : L2.XK) (hr : L2.Room k (A.deeper (envOfC "_law_more_column" (L2.defScope sl_more_column) s.heap.objs.size fa cdv))) :
    PDSs (L2.cxOf L2.CX0 P w K mg base nl_more_column "_law_more_column" (L2.defScope sl_more_column) fa cdv A outer s H E).nox (L2.defBody sl_more_column) (b_l_more_column c) := by
  have nd := scl_more_column.nd
  unfold b_l_more_column
  exact pss_cons (ps_if (pt_cmp (L2.op_eqD hr.units) real_eq (by rfl) (pd_var (i := 0) rfl) (pd_str)) (pss_one (ps_ret (pd_lc (own := [("_law_a", 3), ("_law_b", 4)]) rfl nd (pi_seq (pd_var (i := 2) rfl)) (L2.blkOk_by (N := nl_more_column) (sc := L2.defScope sl_more_column) (by decide +kernel)) (fun _ _ _ _ _ => pg_tup rfl (pgs_cons (pg_name (i := 3) nd rfl (by first | exact .inl rfl | exact .inr rfl)) (pgs_cons (pg_name (i := 4) nd rfl (by first | exact .inl rfl | exact .inr rfl)) (pgs_nil)))) (fun _ _ _ _ _ => pts_nil) (fun _ _ _ _ _ => pd_and (pd_shl (pd_var (i := 3) rfl) (pd_var (i := 4) rfl)) (pd_var (i := 1) rfl)) (by decide)))) (pss_nil)) (pss_cons (ps_if (pt_cmp (L2.op_eqD hr.units) real_eq (by rfl) (pd_var (i := 0) rfl) (pd_str)) (pss_one (ps_ret (pd_lc (own := [("_law_a", 3), ("_law_b", 4)]) rfl nd (pi_seq (pd_var (i := 2) rfl)) (L2.blkOk_by (N := nl_more_column) (sc := L2.defScope sl_more_column) (by decide +kernel)) (fun _ _ _ _ _ => pg_tup rfl (pgs_cons (pg_name (i := 3) nd rfl (by first | exact .inl rfl | exact .inr rfl)) (pgs_cons (pg_name (i := 4) nd rfl (by first | exact .inl rfl | exact .inr rfl)) (pgs_nil)))) (fun _ _ _ _ _ => pts_nil) (fun _ _ _ _ _ => pd_shr (pd_var (i := 3) rfl) (pd_var (i := 4) rfl)) (by decide)))) (pss_nil)) (pss_cons (ps_if (pt_cmp (L2.op_eqD hr.units) real_eq (by rfl) (pd_var (i := 0) rfl) (pd_str)) (pss_one (ps_ret (pd_lc (own := [("_law_a", 3), ("_law_b", 4)]) rfl nd (pi_seq (pd_var (i := 2) rfl)) (L2.blkOk_by (N := nl_more_column) (sc := L2.defScope sl_more_column) (by decide +kernel)) (fun _ _ _ _ _ => pg_tup rfl (pgs_cons (pg_name (i := 3) nd rfl (by first | exact .inl rfl | exact .inr rfl)) (pgs_cons (pg_name (i := 4) nd rfl (by first | exact .inl rfl | exact .inr rfl)) (pgs_nil)))) (fun _ _ _ _ _ => pts_nil) (fun _ _ _ _ _ => pd_if (pt_cmp L2.op_gt real_gt (by rfl) (pd_var (i := 4) rfl) (pd_int)) (pd_fdiv (pd_var (i := 3) rfl) (pd_var (i := 4) rfl)) (pd_int)) (by decide)))) (pss_nil)) (pss_cons (ps_if (pt_cmp (L2.op_eqD hr.units) real_eq (by rfl) (pd_var (i := 0) rfl) (pd_str)) (pss_one (ps_ret (pd_lc (own := [("_law_a", 3), ("_law_b", 4)]) rfl nd (pi_seq (pd_var (i := 2) rfl)) (L2.blkOk_by (N := nl_more_column) (sc := L2.defScope sl_more_column) (by decide +kernel)) (fun _ _ _ _ _ => pg_tup rfl (pgs_cons (pg_name (i := 3) nd rfl (by first | exact .inl rfl | exact .inr rfl)) (pgs_cons (pg_name (i := 4) nd rfl (by first | exact .inl rfl | exact .inr rfl)) (pgs_nil)))) (fun _ _ _ _ _ => pts_nil) (fun _ _ _ _ _ => pd_if (pt_cmp L2.op_gt real_gt (by rfl) (pd_var (i := 4) rfl) (pd_int)) (pd_sub (pd_var (i := 3) rfl) (pd_mul (pd_var (i := 4) rfl) (pd_fdiv (pd_var (i := 3) rfl) (pd_var (i := 4) rfl)))) (pd_int)) (by decide)))) (pss_nil)) (pss_cons (ps_if (pt_cmp (L2.op_eqD hr.units) real_eq (by rfl) (pd_var (i := 0) rfl) (pd_str)) (pss_one (ps_ret (pd_lc (own := [("_law_a", 3), ("_law_b", 4)]) rfl nd (pi_seq (pd_var (i := 2) rfl)) (L2.blkOk_by (N := nl_more_column) (sc := L2.defScope sl_more_column) (by decide +kernel)) (fun _ _ _ _ _ => pg_tup rfl (pgs_cons (pg_name (i := 3) nd rfl (by first | exact .inl rfl | exact .inr rfl)) (pgs_cons (pg_name (i := 4) nd rfl (by first | exact .inl rfl | exact .inr rfl)) (pgs_nil)))) (fun _ _ _ _ _ => pts_nil) (fun _ _ _ _ _ => pd_callTy L2.call_int1 real_intB rfl (zs "int" (by decide)) bt_int (pa_cons (pd_cmp (L2.op_eqD hr.units) real_eq (by rfl) (pd_var (i := 3) rfl) (pd_var (i := 4) rfl)) (pa_nil))) (by decide)))) (pss_nil)) (pss_cons (ps_if (pt_cmp (L2.op_eqD hr.units) real_eq (by rfl) (pd_var (i := 0) rfl) (pd_str)) (pss_one (ps_ret (pd_lc (own := [("_law_a", 3), ("_law_b", 4)]) rfl nd (pi_seq (pd_var (i := 2) rfl)) (L2.blkOk_by (N := nl_more_column) (sc := L2.defScope sl_more_column) (by decide +kernel)) (fun _ _ _ _ _ => pg_tup rfl (pgs_cons (pg_name (i := 3) nd rfl (by first | exact .inl rfl | exact .inr rfl)) (pgs_cons (pg_name (i := 4) nd rfl (by first | exact .inl rfl | exact .inr rfl)) (pgs_nil)))) (fun _ _ _ _ _ => pts_nil) (fun _ _ _ _ _ => pd_callTy L2.call_int1 real_intB rfl (zs "int" (by decide)) bt_int (pa_cons (pd_cmp (L2.op_neD hr.units) real_ne (by rfl) (pd_var (i := 3) rfl) (pd_var (i := 4) rfl)) (pa_nil))) (by decide)))) (pss_nil)) (pss_cons (ps_if (pt_cmp (L2.op_eqD hr.units) real_eq (by rfl) (pd_var (i := 0) rfl) (pd_str)) (pss_one (ps_ret (pd_lc (own := [("_law_a", 3), ("_law_b", 4)]) rfl nd (pi_seq (pd_var (i := 2) rfl)) (L2.blkOk_by (N := nl_more_column) (sc := L2.defScope sl_more_column) (by decide +kernel)) (fun _ _ _ _ _ => pg_tup rfl (pgs_cons (pg_name (i := 3) nd rfl (by first | exact .inl rfl | exact .inr rfl)) (pgs_cons (pg_name (i := 4) nd rfl (by first | exact .inl rfl | exact .inr rfl)) (pgs_nil)))) (fun _ _ _ _ _ => pts_nil) (fun _ _ _ _ _ => pd_callTy L2.call_int1 real_intB rfl (zs "int" (by decide)) bt_int (pa_cons (pd_cmp L2.op_lt real_lt (by rfl) (pd_var (i := 3) rfl) (pd_var (i := 4) rfl)) (pa_nil))) (by decide)))) (pss_nil)) (pss_one (ps_ret (pd_lc (own := [("_law_a", 3), ("_law_b", 4)]) rfl nd (pi_seq (pd_var (i := 2) rfl)) (L2.blkOk_by (N := nl_more_column) (sc := L2.defScope sl_more_column) (by decide +kernel)) (fun _ _ _ _ _ => pg_tup rfl (pgs_cons (pg_name (i := 3) nd rfl (by first | exact .inl rfl | exact .inr rfl)) (pgs_cons (pg_name (i := 4) nd rfl (by first | exact .inl rfl | exact .inr rfl)) (pgs_nil)))) (fun _ _ _ _ _ => pts_nil) (fun _ _ _ _ _ => pd_callTy L2.call_int1 real_intB rfl (zs "int" (by decide)) bt_int (pa_cons (pd_cmp L2.op_le real_le (by rfl) (pd_var (i := 3) rfl) (pd_var (i := 4) rfl)) (pa_nil))) (by decide))))))))))
theorem der_l_node_column {k : Nat} {c : Cl} (ok : ∀ y ∈ names, Own P w K mg base k (Str.ofString y) (c y)) (oks : ∀ q ∈ snames, OwnS P w K mg base k q.2 (Str.ofString q.1) (c q.1)) (zs : ∀ y ∈ blts, mg (Str.ofString y) = none) {fa : Addr} (cdv : Value) (A : Around) (outer : List PySem.Env) (s : Shared) (H : L2.Hp) (E : L2.XK) (hr : L2.Room k (A.deeper (envOfC "_law_node_column" (L2.defScope sl_node_column) s.heap.objs.size fa cdv))) :
    PDSs (L2.cxOf L2.CX0 P w K mg base nl_node_column "_law_node_column" (L2.defScope sl_node_column) fa cdv A outer s H E).nox (L2.defBody sl_node_column) (b_l_node_column c) := by
  have nd := scl_node_column.nd
  unfold b_l_node_column
  exact pss_cons (ps_if (pt_cmp L2.op_in_seq (real_in false) (by rfl) (pd_ix (fun _ _ => rfl) (pd_var (i := 0) rfl) (pd_int)) (pd_lst (pa_cons (pd_str) (pa_cons (pd_str) (pa_nil))))) (pss_one (ps_ret (pd_call (y := "_law_leaf_column") (ok "_law_leaf_column" (by decide)) hr rfl (pa_cons (pd_var (i := 0) rfl) (pa_cons (pd_var (i := 1) rfl) (pa_nil)))))) (pss_nil)) (pss_one (ps_ret (pd_call (y := "_law_op_column") (ok "_law_op_column" (by decide)) hr rfl (pa_cons (pd_ix (fun _ _ => rfl) (pd_var (i := 0) rfl) (pd_int)) (pa_cons (pd_ix (fun _ _ => rfl) (pd_var (i := 0) rfl) (pd_int)) (pa_cons (pd_lc (own := [("_law_part", 3)]) rfl nd (pi_seq (pd_sl (pd_var (i := 0) rfl) (po_some (pd_int)) (po_none))) (L2.blkOk_by (N := nl_node_column) (sc := L2.defScope sl_node_column) (by decide +kernel)) (fun _ _ _ _ _ => pg_name (i := 3) nd rfl (by first | exact .inl rfl | exact .inr rfl)) (fun _ _ _ _ _ => pts_nil) (fun _ _ _ _ _ => pd_ix (fun _ _ => rfl) (pd_var (i := 2) rfl) (pd_var (i := 3) rfl)) (by decide)) (pa_nil)))))))
theorem der_l_is_pair {k : Nat} {c : Cl} (ok : ∀ y ∈ names, Own P w K mg base k (Str.ofString y) (c y)) (oks : ∀ q ∈ snames, OwnS P w K mg base k q.2 (Str.ofString q.1) (c q.1)) (zs : ∀ y ∈ blts, mg (Str.ofString y) = none) {fa : Addr} (cdv : Value) (A : Around) (outer : List PySem.Env) (s : Shared) (H : L2.Hp) (E : L2.XK) (hr : L2.Room k (A.deeper (envOfC "_law_is_pair" (L2.defScope sl_is_pair) s.heap.objs.size fa cdv))) :
    PDSs (L2.cxOf L2.CX0 P w K mg base nl_is_pair "_law_is_pair" (L2.defScope sl_is_pair) fa cdv A outer s H E).nox (L2.defBody sl_is_pair) (b_l_is_pair c) := by
  have nd := scl_is_pair.nd
  unfold b_l_is_pair
  exact pss_one (ps_ret (pd_and' (pd_isi (T := "tuple") .tuple rfl (zs "isinstance" (by decide)) rfl rfl (zs "tuple" (by decide)) bt_tuple (pd_var (i := 0) rfl)) (pd_and' (pd_cmp (L2.op_eqD hr.units) real_eq (by rfl) (pd_callB L2.call_len real_lenB rfl (zs "len" (by decide)) bt_len (pa_cons (pd_var (i := 0) rfl) (pa_nil))) (pd_int)) (pd_and' (pd_call (y := "_law_is_int") (ok "_law_is_int" (by decide)) hr rfl (pa_cons (pd_ix (fun _ _ => rfl) (pd_var (i := 0) rfl) (pd_int)) (pa_nil))) (pd_one (pd_call (y := "_law_is_int") (ok "_law_is_int" (by decide)) hr rfl (pa_cons (pd_ix (fun _ _ => rfl) (pd_var (i := 0) rfl) (pd_int)) (pa_nil))))))))
theorem der_l_reached_bits {k : Nat} {c : Cl} (ok : ∀ y ∈ names, Own P w K mg base k (Str.ofString y) (c y)) (oks : ∀ q ∈ snames, OwnS P w K mg base k q.2 (Str.ofString q.1) (c q.1)) (zs : ∀ y ∈ blts, mg (Str.ofString y) = none) {fa : Addr} (cdv : Value) (A : Around) (outer : List PySem.Env) (s : Shared) (H : L2.Hp) (E : L2.XK) (hr : L2.Room k (A.deeper (envOfC "_law_reached_bits" (L2.defScope sl_reached_bits) s.heap.objs.size fa cdv))) :
    PDSs (L2.cxOf L2.CX0 P w K mg base nl_reached_bits "_law_reached_bits" (L2.defScope sl_reached_bits) fa cdv A outer s H E).nox (L2.defBody sl_reached_bits) (b_l_reached_bits c) := by
  have nd := scl_reached_bits.nd
  unfold b_l_reached_bits
  exact pss_cons (ps_if (pt_cmp (L2.op_eqD hr.units) real_eq (by rfl) (pd_ix (fun _ _ => rfl) (pd_var (i := 0) rfl) (pd_int)) (pd_str)) (pss_one (ps_ret (pd_int))) (pss_nil)) (pss_cons (ps_if (pt_cmp (L2.op_eqD hr.units) real_eq (by rfl) (pd_ix (fun _ _ => rfl) (pd_var (i := 0) rfl) (pd_int)) (pd_str)) (pss_one (ps_ret (pd_shl (pd_sub (pd_shl (pd_int) (pd_ix (fun _ _ => rfl) (pd_var (i := 0) rfl) (pd_int))) (pd_int)) (pd_callB (L2.cr_sum rfl) real_sumB rfl (zs "sum" (by decide)) bt_sum (pa_cons (pd_sl (pd_var (i := 1) rfl) (po_none) (po_some (pd_ix (fun _ _ => rfl) (pd_var (i := 0) rfl) (pd_int)))) (pa_nil)))))) (pss_nil)) (pss_cons (ps_set (i := 3) nd rfl (by first | exact .inl rfl | exact .inr rfl) (pd_int)) (pss_cons (ps_for PassesOwn.never rfl (pi_seq (pd_sl (pd_var (i := 0) rfl) (po_some (pd_int)) (po_none))) (pg_name (i := 4) nd rfl (by first | exact .inl rfl | exact .inr rfl)) (pss_one (ps_set (i := 3) nd rfl (by first | exact .inl rfl | exact .inr rfl) (pd_or (pd_var (i := 3) rfl) (pd_ix (fun _ _ => rfl) (pd_var (i := 2) rfl) (pd_var (i := 4) rfl)))))) (pss_one (ps_ret (pd_var (i := 3) rfl))))))
theorem der_l_pairs_told {k : Nat} {c : Cl} (ok : ∀ y ∈ names, Own P w K mg base k (Str.ofString y) (c y)) (oks : ∀ q ∈ snames, OwnS P w K mg base k q.2 (Str.ofString q.1) (c q.1)) (zs : ∀ y ∈ blts, mg (Str.ofString y) = none) {fa : Addr} (cdv : Value) (A : Around) (outer : List PySem.Env) (s : Shared) (H : L2.Hp) (E : L2.XK) (hr : L2.Room k (A.deeper (envOfC "_law_pairs_told" (L2.defScope sl_pairs_told) s.heap.objs.size fa cdv))) :
    PDSs (L2.cxOf L2.CX0 P w K mg base nl_pairs_told "_law_pairs_told" (L2.defScope sl_pairs_told) fa cdv A outer s H E).nox (L2.defBody sl_pairs_told) (b_l_pairs_told c) := by
  have nd := scl_pairs_told.nd
  unfold b_l_pairs_told
  exact pss_cons (ps_set (i := 4) nd rfl (by first | exact .inl rfl | exact .inr rfl) (pd_lst (pa_nil))) (pss_cons (ps_for PassesOwn.never rfl (pi_r1 rfl (zs "range" (by decide)) (pd_callB L2.call_len real_lenB rfl (zs "len" (by decide)) bt_len (pa_cons (pd_var (i := 0) rfl) (pa_nil)))) (pg_name (i := 5) nd rfl (by first | exact .inl rfl | exact .inr rfl)) (pss_cons (ps_set (i := 6) nd rfl (by first | exact .inl rfl | exact .inr rfl) (pd_call (y := "read_term") (ok "read_term" (by decide)) hr rfl (pa_cons (pd_var (i := 0) rfl) (pa_cons (pd_var (i := 1) rfl) (pa_cons (pd_var (i := 5) rfl) (pa_nil)))))) (pss_cons (ps_if (ptw (pw_or (pt_not (pt_tru (pd_call (y := "_law_is_pair") (ok "_law_is_pair" (by decide)) hr rfl (pa_cons (pd_var (i := 6) rfl) (pa_nil))))) (pw_or (pt_not (pt_chain L2.op_le real_le L2.op_lt real_lt (pd_int) (pd_ix (fun _ _ => rfl) (pd_var (i := 6) rfl) (pd_int)) (pd_shl (pd_int) (pd_ix (fun _ _ => rfl) (pd_ix (fun _ _ => rfl) (pd_var (i := 0) rfl) (pd_var (i := 5) rfl)) (pd_int))))) (pw_or1 (pt_cmp (L2.op_neD hr.units) real_ne (by rfl) (pd_and (pd_ix (fun _ _ => rfl) (pd_var (i := 6) rfl) (pd_int)) (pd_ix (fun _ _ => rfl) (pd_var (i := 6) rfl) (pd_int))) (pd_ix (fun _ _ => rfl) (pd_var (i := 6) rfl) (pd_int))))))) (pss_one (ps_ret (pd_non))) (pss_nil)) (pss_cons (ps_setLc (j := 7) (own := [("_law_k", 8)]) rfl nd rfl rfl (L2.sw_true rfl rfl rfl (by decide +kernel)) (pi_seq (pd_var (i := 3) rfl)) (L2.blkOk_by (N := nl_pairs_told) (sc := L2.defScope sl_pairs_told) (by decide +kernel)) (fun _ _ _ _ _ => pg_name (i := 8) nd rfl (by first | exact .inl rfl | exact .inr rfl)) (fun _ _ _ _ _ => pts_one (pt_cmp (L2.op_neD hr.units) real_ne (by rfl) (pd_and (pd_ix (fun _ _ => rfl) (pd_ix (fun _ _ => rfl) (pd_var (i := 2) rfl) (pd_var (i := 5) rfl)) (pd_var (i := 8) rfl)) (pd_ix (fun _ _ => rfl) (pd_var (i := 6) rfl) (pd_int))) (pd_ix (fun _ _ => rfl) (pd_var (i := 6) rfl) (pd_int)))) (fun _ _ _ _ _ => pd_var (i := 8) rfl) (by decide)) (pss_cons (ps_if (pt_tru (pd_var (i := 7) rfl)) (pss_one (ps_ret (pd_non))) (pss_nil)) (pss_one (ps_expr (pd_m L2.mt_append real_append ty_list PySem.F.plainAttrs_list PySem.F.slot_list_append PySem.F.type_list_append (pd_var (i := 4) rfl) (pa_cons (pd_var (i := 6) rfl) (pa_nil)))))))))) (pss_one (ps_ret (pd_var (i := 4) rfl))))
theorem der_l_pairs_right {k : Nat} {c : Cl} (ok : ∀ y ∈ names, Own P w K mg base k (Str.ofString y) (c y)) (oks : ∀ q ∈ snames, OwnS P w K mg base k q.2 (Str.ofString q.1) (c q.1)) (zs : ∀ y ∈ blts, mg (Str.ofString y) = none) {fa : Addr} (cdv : Value) (A : Around) (outer : List PySem.Env) (s : Shared) (H : L2.Hp) (E : L2.XK) (hr : L2.Room k (A.deeper (envOfC "_law_pairs_right" (L2.defScope sl_pairs_right) s.heap.objs.size fa cdv))) :
    PDSs (L2.cxOf L2.CX0 P w K mg base nl_pairs_right "_law_pairs_right" (L2.defScope sl_pairs_right) fa cdv A outer s H E).nox (L2.defBody sl_pairs_right) (b_l_pairs_right c) := by
  have nd := scl_pairs_right.nd
  unfold b_l_pairs_right
  exact pss_cons (ps_for PassesOwn.never rfl (pi_r1 rfl (zs "range" (by decide)) (pd_callB L2.call_len real_lenB rfl (zs "len" (by decide)) bt_len (pa_cons (pd_var (i := 0) rfl) (pa_nil)))) (pg_name (i := 7) nd rfl (by first | exact .inl rfl | exact .inr rfl)) (pss_cons (ps_if (pt_cmp (L2.op_neD hr.units) real_ne (by rfl) (pd_and (pd_ix (fun _ _ => rfl) (pd_ix (fun _ _ => rfl) (pd_var (i := 1) rfl) (pd_var (i := 7) rfl)) (pd_int)) (pd_ix (fun _ _ => rfl) (pd_ix (fun _ _ => rfl) (pd_var (i := 2) rfl) (pd_var (i := 7) rfl)) (pd_int))) (pd_ix (fun _ _ => rfl) (pd_ix (fun _ _ => rfl) (pd_var (i := 2) rfl) (pd_var (i := 7) rfl)) (pd_int))) (pss_one (ps_ret (pd_bl))) (pss_nil)) (pss_cons (ps_if (pt_cmp (L2.op_neD hr.units) real_ne (by rfl) (pd_and (pd_ix (fun _ _ => rfl) (pd_ix (fun _ _ => rfl) (pd_var (i := 1) rfl) (pd_var (i := 7) rfl)) (pd_int)) (pd_ix (fun _ _ => rfl) (pd_ix (fun _ _ => rfl) (pd_var (i := 2) rfl) (pd_var (i := 7) rfl)) (pd_int))) (pd_ix (fun _ _ => rfl) (pd_ix (fun _ _ => rfl) (pd_var (i := 2) rfl) (pd_var (i := 7) rfl)) (pd_int))) (pss_one (ps_ret (pd_bl))) (pss_nil)) (pss_one (ps_if (ptw (pw_and (pt_cmp (L2.op_eqD hr.units) real_eq (by rfl) (pd_and (pd_ix (fun _ _ => rfl) (pd_var (i := 4) rfl) (pd_var (i := 7) rfl)) (pd_inv (pd_var (i := 5) rfl))) (pd_int)) (pw_and1 (pt_cmp (L2.op_neD hr.units) real_ne (by rfl) (pd_ix (fun _ _ => rfl) (pd_var (i := 1) rfl) (pd_var (i := 7) rfl)) (pd_tup (pa_cons (pd_sub (pd_shl (pd_int) (pd_ix (fun _ _ => rfl) (pd_ix (fun _ _ => rfl) (pd_var (i := 0) rfl) (pd_var (i := 7) rfl)) (pd_int))) (pd_int)) (pa_cons (pd_ix (fun _ _ => rfl) (pd_ix (fun _ _ => rfl) (pd_var (i := 3) rfl) (pd_var (i := 7) rfl)) (pd_var (i := 6) rfl)) (pa_nil)))))))) (pss_one (ps_ret (pd_bl))) (pss_nil)))))) (pss_one (ps_ret (pd_bl)))
theorem der_l_law {k : Nat} {c : Cl} (ok : ∀ y ∈ names, Own P w K mg base k (Str.ofString y) (c y)) (oks : ∀ q ∈ snames, OwnS P w K mg base k q.2 (Str.ofString q.1) (c q.1)) (zs : ∀ y ∈ blts, mg (Str.ofString y) = none) {fa : Addr} (cdv : Value) (A : Around) (outer : List PySem.Env) (s : Shared) (H : L2.Hp) (E : L2.XK) (hr : L2.Room k (A.deeper (envOfC "law" (L2.defScope sl_law) s.heap.objs.size fa cdv))) :
    PDSs (L2.cxOf L2.CX0 P w K mg base nl_law "law" (L2.defScope sl_law) fa cdv A outer s H E).nox (L2.defBody sl_law) (b_l_law c) := by
  have nd := scl_law.nd
  unfold b_l_law
  exact pss_cons (ps_set (i := 1) nd rfl (by first | exact .inl rfl | exact .inr rfl) (pd_call (y := "_law_begin") (ok "_law_begin" (by decide)) hr rfl (pa_cons (pd_var (i := 0) rfl) (pa_nil)))) (pss_cons (ps_set (i := 2) nd rfl (by first | exact .inl rfl | exact .inr rfl) (pd_call (y := "_law_pick") (ok "_law_pick" (by decide)) hr rfl (pa_cons (pd_var (i := 1) rfl) (pa_cons (pd_call0 (y := "_law_spans") (ok "_law_spans" (by decide)) hr rfl) (pa_nil))))) (pss_cons (ps_set (i := 3) nd rfl (by first | exact .inl rfl | exact .inr rfl) (pd_call (y := "_law_span_sheet") (ok "_law_span_sheet" (by decide)) hr rfl (pa_cons (pd_var (i := 1) rfl) (pa_cons (pd_var (i := 2) rfl) (pa_cons (pd_add (pd_int) (pd_call (y := "_law_draw") (ok "_law_draw" (by decide)) hr rfl (pa_cons (pd_var (i := 1) rfl) (pa_cons (pd_int) (pa_nil))))) (pa_cons (pd_add (pd_int) (pd_call (y := "_law_draw") (ok "_law_draw" (by decide)) hr rfl (pa_cons (pd_var (i := 1) rfl) (pa_cons (pd_int) (pa_nil))))) (pa_nil))))))) (pss_cons (ps_par rfl nd rfl rfl (by decide) (L2.ps_par rfl nd rfl rfl (by decide) rfl rfl (pa_cons (pd_lst (pa_nil)) (pa_cons (pd_lst (pa_nil)) (pa_nil))) (by rfl))) (pss_cons (ps_for PassesOwn.never rfl (pi_seq (pd_var (i := 3) rfl)) (pg_name (i := 6) nd rfl (by first | exact .inl rfl | exact .inr rfl)) (pss_cons (ps_expr (pd_m L2.mt_append real_append ty_list PySem.F.plainAttrs_list PySem.F.slot_list_append PySem.F.type_list_append (pd_var (i := 4) rfl) (pa_cons (pd_call (y := "_law_node_column") (ok "_law_node_column" (by decide)) hr rfl (pa_cons (pd_var (i := 6) rfl) (pa_cons (pd_var (i := 2) rfl) (pa_cons (pd_var (i := 4) rfl) (pa_nil))))) (pa_nil)))) (pss_one (ps_expr (pd_m L2.mt_append real_append ty_list PySem.F.plainAttrs_list PySem.F.slot_list_append PySem.F.type_list_append (pd_var (i := 5) rfl) (pa_cons (pd_call (y := "_law_reached_bits") (ok "_law_reached_bits" (by decide)) hr rfl (pa_cons (pd_var (i := 6) rfl) (pa_cons (pd_var (i := 2) rfl) (pa_cons (pd_var (i := 5) rfl) (pa_nil))))) (pa_nil))))))) (pss_cons (ps_set (i := 7) nd rfl (by first | exact .inl rfl | exact .inr rfl) (pd_call (y := "_law_draw") (ok "_law_draw" (by decide)) hr rfl (pa_cons (pd_var (i := 1) rfl) (pa_cons (pd_shl (pd_int) (pd_callB (L2.cr_sum rfl) real_sumB rfl (zs "sum" (by decide)) bt_sum (pa_cons (pd_var (i := 2) rfl) (pa_nil)))) (pa_nil))))) (pss_cons (ps_set (i := 8) nd rfl (by first | exact .inl rfl | exact .inr rfl) (pd_lst (pa_nil))) (pss_cons (ps_for PassesOwn.never rfl (pi_r1 rfl (zs "range" (by decide)) (pd_callB L2.call_len real_lenB rfl (zs "len" (by decide)) bt_len (pa_cons (pd_var (i := 2) rfl) (pa_nil)))) (pg_name (i := 9) nd rfl (by first | exact .inl rfl | exact .inr rfl)) (pss_one (ps_expr (pd_m mt_extendA real_extendA ty_list PySem.F.plainAttrs_list PySem.F.slot_list_extend PySem.F.type_list_extend (pd_var (i := 8) rfl) (pa_cons (pd_lc (own := [("_law_bit", 15)]) rfl nd (pi_r1 rfl (zs "range" (by decide)) (pd_ix (fun _ _ => rfl) (pd_var (i := 2) rfl) (pd_var (i := 9) rfl))) (L2.blkOk_by (N := nl_law) (sc := L2.defScope sl_law) (by decide +kernel)) (fun _ _ _ _ _ => pg_name (i := 15) nd rfl (by first | exact .inl rfl | exact .inr rfl)) (fun _ _ _ _ _ => pts_nil) (fun _ _ _ _ _ => pd_tup (pa_cons (pd_var (i := 9) rfl) (pa_cons (pd_var (i := 15) rfl) (pa_nil)))) (by decide)) (pa_nil)))))) (pss_cons (ps_set (i := 8) nd rfl (by first | exact .inl rfl | exact .inr rfl) (pd_call (y := "_law_shuffled") (ok "_law_shuffled" (by decide)) hr rfl (pa_cons (pd_var (i := 1) rfl) (pa_cons (pd_var (i := 8) rfl) (pa_nil))))) (pss_cons (ps_setLc (j := 10) (own := [("_law_span", 19)]) rfl nd rfl rfl (L2.sw_true rfl rfl rfl (by decide +kernel)) (pi_seq (pd_var (i := 2) rfl)) (L2.blkOk_by (N := nl_law) (sc := L2.defScope sl_law) (by decide +kernel)) (fun _ _ _ _ _ => pg_name (i := 19) nd rfl (by first | exact .inl rfl | exact .inr rfl)) (fun _ _ _ _ _ => pts_nil) (fun _ _ _ _ _ => pd_tup (pa_cons (pd_int) (pa_cons (pd_int) (pa_nil)))) (by decide)) (pss_cons (ps_set (i := 11) nd rfl (by first | exact .inl rfl | exact .inr rfl) (pd_listRg rfl rfl (zs "list" (by decide)) (pr_1 rfl (zs "range" (by decide)) (pd_shl (pd_int) (pd_callB (L2.cr_sum rfl) real_sumB rfl (zs "sum" (by decide)) bt_sum (pa_cons (pd_var (i := 2) rfl) (pa_nil))))))) (pss_cons (ps_set (i := 12) nd rfl (by first | exact .inl rfl | exact .inr rfl) (pd_int)) (pss_cons (ps_setLc (j := 13) (own := [("_law_node", 6)]) rfl nd rfl rfl (L2.sw_true rfl rfl rfl (by decide +kernel)) (pi_seq (pd_var (i := 3) rfl)) (L2.blkOk_by (N := nl_law) (sc := L2.defScope sl_law) (by decide +kernel)) (fun _ _ _ _ _ => pg_name (i := 6) nd rfl (by first | exact .inl rfl | exact .inr rfl)) (fun _ _ _ _ _ => pts_nil) (fun _ _ _ _ _ => pd_tup (pa_cons (pd_int) (pa_cons (pd_int) (pa_nil)))) (by decide)) (pss_cons (ps_for PassesOwn.never rfl (pi_r1 rfl (zs "range" (by decide)) (pd_add (pd_callB L2.call_len real_lenB rfl (zs "len" (by decide)) bt_len (pa_cons (pd_var (i := 8) rfl) (pa_nil))) (pd_int))) (pg_name (i := 14) nd rfl (by first | exact .inl rfl | exact .inr rfl)) (pss_cons (ps_if (pt_cmp L2.op_gt real_gt (by rfl) (pd_var (i := 14) rfl) (pd_int)) (pss_cons (ps_asg (pd_ix (fun _ _ => rfl) (pd_var (i := 8) rfl) (pd_sub (pd_var (i := 14) rfl) (pd_int))) (pg_tup rfl (pgs_cons (pg_name (i := 9) nd rfl (by first | exact .inl rfl | exact .inr rfl)) (pgs_cons (pg_name (i := 15) nd rfl (by first | exact .inl rfl | exact .inr rfl)) (pgs_nil))))) (pss_cons (ps_set (i := 16) nd rfl (by first | exact .inl rfl | exact .inr rfl) (pd_add (pd_callB (L2.cr_sum rfl) real_sumB rfl (zs "sum" (by decide)) bt_sum (pa_cons (pd_sl (pd_var (i := 2) rfl) (po_none) (po_some (pd_var (i := 9) rfl))) (pa_nil))) (pd_var (i := 15) rfl))) (pss_cons (ps_set (i := 17) nd rfl (by first | exact .inl rfl | exact .inr rfl) (pd_and (pd_shr (pd_var (i := 7) rfl) (pd_var (i := 16) rfl)) (pd_int))) (pss_cons (ps_asg (pd_tup (pa_cons (pd_or (pd_ix (fun _ _ => rfl) (pd_ix (fun _ _ => rfl) (pd_var (i := 10) rfl) (pd_var (i := 9) rfl)) (pd_int)) (pd_shl (pd_int) (pd_var (i := 15) rfl))) (pa_cons (pd_or (pd_ix (fun _ _ => rfl) (pd_ix (fun _ _ => rfl) (pd_var (i := 10) rfl) (pd_var (i := 9) rfl)) (pd_int)) (pd_shl (pd_var (i := 17) rfl) (pd_var (i := 15) rfl))) (pa_nil)))) (pg_sub (pd_var (i := 10) rfl) (pd_var (i := 9) rfl))) (pss_cons (ps_setLc (j := 11) (own := [("_law_k", 20)]) rfl nd rfl rfl (L2.sw_true rfl rfl rfl (by decide +kernel)) (pi_seq (pd_var (i := 11) rfl)) (L2.blkOk_by (N := nl_law) (sc := L2.defScope sl_law) (by decide +kernel)) (fun _ _ _ _ _ => pg_name (i := 20) nd rfl (by first | exact .inl rfl | exact .inr rfl)) (fun _ _ _ _ _ => pts_one (pt_cmp (L2.op_eqD hr.units) real_eq (by rfl) (pd_and (pd_shr (pd_var (i := 20) rfl) (pd_var (i := 16) rfl)) (pd_int)) (pd_var (i := 17) rfl))) (fun _ _ _ _ _ => pd_var (i := 20) rfl) (by decide)) (pss_one (ps_set (i := 12) nd rfl (by first | exact .inl rfl | exact .inr rfl) (pd_or (pd_var (i := 12) rfl) (pd_shl (pd_int) (pd_var (i := 16) rfl)))))))))) (pss_nil)) (pss_cons (ps_set (i := 18) nd rfl (by first | exact .inl rfl | exact .inr rfl) (pd_call (y := "_law_pairs_told") (ok "_law_pairs_told" (by decide)) hr rfl (pa_cons (pd_var (i := 3) rfl) (pa_cons (pd_callTy L2.call_tuple_of real_tupleB rfl (zs "tuple" (by decide)) bt_tuple (pa_cons (pd_var (i := 10) rfl) (pa_nil))) (pa_cons (pd_var (i := 4) rfl) (pa_cons (pd_var (i := 11) rfl) (pa_nil))))))) (pss_cons (ps_if (ptw (pw_or (pt_cmp L2.op_isN real_is (by rfl) (pd_var (i := 18) rfl) (pd_non)) (pw_or1 (pt_not (pt_tru (pd_call (y := "_law_pairs_right") (ok "_law_pairs_right" (by decide)) hr rfl (pa_cons (pd_var (i := 3) rfl) (pa_cons (pd_var (i := 18) rfl) (pa_cons (pd_var (i := 13) rfl) (pa_cons (pd_var (i := 4) rfl) (pa_cons (pd_var (i := 5) rfl) (pa_cons (pd_var (i := 12) rfl) (pa_cons (pd_var (i := 7) rfl) (pa_nil)))))))))))))) (pss_one (ps_ret (pd_bl))) (pss_nil)) (pss_one (ps_set (i := 13) nd rfl (by first | exact .inl rfl | exact .inr rfl) (pd_var (i := 18) rfl))))))) (pss_one (ps_ret (pd_bl))))))))))))))))
end
theorem all_mk {l : PySem.W.OpenLaw} {w : World} {K : PySem.W.Frag} {h : Heap} {mg : Str → Option Value} {fa : Addr} (X : K.In h) (G : h.Ns mainGlobals mg) (hfa : mg "law" = some (.ref fa))
    {f1 : Addr} {od1 an1 : Option Addr} {sl1 : Array (Option Value)} {oc1 kV1 dc1 pm1 cd1 ct1 : Value}
    {f2 : Addr} {od2 an2 : Option Addr} {sl2 : Array (Option Value)} {oc2 kV2 dc2 pm2 cd2 ct2 : Value}
    {f3 : Addr} {od3 an3 : Option Addr} {sl3 : Array (Option Value)} {oc3 kV3 dc3 pm3 cd3 ct3 : Value}
    {f4 : Addr} {od4 an4 : Option Addr} {sl4 : Array (Option Value)} {oc4 kV4 dc4 pm4 cd4 ct4 : Value}
    {f5 : Addr} {od5 an5 : Option Addr} {sl5 : Array (Option Value)} {oc5 kV5 dc5 pm5 cd5 ct5 : Value}
    {f6 : Addr} {od6 an6 : Option Addr} {sl6 : Array (Option Value)} {oc6 kV6 dc6 pm6 cd6 ct6 : Value}
    {f7 : Addr} {od7 an7 : Option Addr} {sl7 : Array (Option Value)} {oc7 kV7 dc7 pm7 cd7 ct7 : Value}
    {f8 : Addr} {od8 an8 : Option Addr} {sl8 : Array (Option Value)} {oc8 kV8 dc8 pm8 cd8 ct8 : Value}
    {f9 : Addr} {od9 an9 : Option Addr} {sl9 : Array (Option Value)} {oc9 kV9 dc9 pm9 cd9 ct9 : Value}
    {f10 : Addr} {od10 an10 : Option Addr} {sl10 : Array (Option Value)} {oc10 kV10 dc10 pm10 cd10 ct10 : Value}
    {f11 : Addr} {od11 an11 : Option Addr} {sl11 : Array (Option Value)} {oc11 kV11 dc11 pm11 cd11 ct11 : Value}
    {f12 : Addr} {od12 an12 : Option Addr} {sl12 : Array (Option Value)} {oc12 kV12 dc12 pm12 cd12 ct12 : Value}
    {f13 : Addr} {od13 an13 : Option Addr} {sl13 : Array (Option Value)} {oc13 kV13 dc13 pm13 cd13 ct13 : Value}
    {f14 : Addr} {od14 an14 : Option Addr} {sl14 : Array (Option Value)} {oc14 kV14 dc14 pm14 cd14 ct14 : Value}
    {f15 : Addr} {od15 an15 : Option Addr} {sl15 : Array (Option Value)} {oc15 kV15 dc15 pm15 cd15 ct15 : Value}
    {f16 : Addr} {od16 an16 : Option Addr} {sl16 : Array (Option Value)} {oc16 kV16 dc16 pm16 cd16 ct16 : Value}
    {f17 : Addr} {od17 an17 : Option Addr} {sl17 : Array (Option Value)} {oc17 kV17 dc17 pm17 cd17 ct17 : Value}
    {f18 : Addr} {od18 an18 : Option Addr} {sl18 : Array (Option Value)} {oc18 kV18 dc18 pm18 cd18 ct18 : Value}
    {f19 : Addr} {od19 an19 : Option Addr} {sl19 : Array (Option Value)} {oc19 kV19 dc19 pm19 cd19 ct19 : Value}
    {f20 : Addr} {od20 an20 : Option Addr} {sl20 : Array (Option Value)} {oc20 kV20 dc20 pm20 cd20 ct20 : Value}
    {f21 : Addr} {od21 an21 : Option Addr} {sl21 : Array (Option Value)} {oc21 kV21 dc21 pm21 cd21 ct21 : Value}
    {f22 : Addr} {od22 an22 : Option Addr} {sl22 : Array (Option Value)} {oc22 kV22 dc22 pm22 cd22 ct22 : Value}
    {f23 : Addr} {od23 an23 : Option Addr} {sl23 : Array (Option Value)} {oc23 kV23 dc23 pm23 cd23 ct23 : Value}
    {f24 : Addr} {od24 an24 : Option Addr} {sl24 : Array (Option Value)} {oc24 kV24 dc24 pm24 cd24 ct24 : Value}
    {f25 : Addr} {od25 an25 : Option Addr} {sl25 : Array (Option Value)} {oc25 kV25 dc25 pm25 cd25 ct25 : Value}
    {f26 : Addr} {od26 an26 : Option Addr} {sl26 : Array (Option Value)} {oc26 kV26 dc26 pm26 cd26 ct26 : Value}
    {f27 : Addr} {od27 an27 : Option Addr} {sl27 : Array (Option Value)} {oc27 kV27 dc27 pm27 cd27 ct27 : Value}
    {f28 : Addr} {od28 an28 : Option Addr} {sl28 : Array (Option Value)} {oc28 kV28 dc28 pm28 cd28 ct28 : Value}
    {f29 : Addr} {od29 an29 : Option Addr} {sl29 : Array (Option Value)} {oc29 kV29 dc29 pm29 cd29 ct29 : Value}
    {f30 : Addr} {od30 an30 : Option Addr} {sl30 : Array (Option Value)} {oc30 kV30 dc30 pm30 cd30 ct30 : Value}
    {f31 : Addr} {od31 an31 : Option Addr} {sl31 : Array (Option Value)} {oc31 kV31 dc31 pm31 cd31 ct31 : Value}
    {f32 : Addr} {od32 an32 : Option Addr} {sl32 : Array (Option Value)} {oc32 kV32 dc32 pm32 cd32 ct32 : Value}
    {f33 : Addr} {od33 an33 : Option Addr} {sl33 : Array (Option Value)} {oc33 kV33 dc33 pm33 cd33 ct33 : Value}
    {f34 : Addr} {od34 an34 : Option Addr} {sl34 : Array (Option Value)} {oc34 kV34 dc34 pm34 cd34 ct34 : Value}
    {f35 : Addr} {od35 an35 : Option Addr} {sl35 : Array (Option Value)} {oc35 kV35 dc35 pm35 cd35 ct35 : Value}
    {f36 : Addr} {od36 an36 : Option Addr} {sl36 : Array (Option Value)} {oc36 kV36 dc36 pm36 cd36 ct36 : Value}
    {f37 : Addr} {od37 an37 : Option Addr} {sl37 : Array (Option Value)} {oc37 kV37 dc37 pm37 cd37 ct37 : Value}
    (a1 : PySem.W.nsIn K mainGlobals "greatest" = some (some (.ref f1))) (l1 : K.lookup f1 = some ⟨oc1, od1, .func (PySem.W.fnOf "greatest" "greatest" (L2.defArgs sp_greatest) (L2.defBody sp_greatest) (L2.defScope sp_greatest) .none kV1 dc1 pm1 an1 cd1 ct1), sl1⟩) (c1 : PySem.W.codeIn K cd1 "greatest" = true) (k1 : PySem.W.keepIn K (.ref f1) = true)
    (a2 : PySem.W.nsIn K mainGlobals "related" = some (some (.ref f2))) (l2 : K.lookup f2 = some ⟨oc2, od2, .func (PySem.W.fnOf "related" "related" (L2.defArgs sp_related) (L2.defBody sp_related) (L2.defScope sp_related) .none kV2 dc2 pm2 an2 cd2 ct2), sl2⟩) (c2 : PySem.W.codeIn K cd2 "related" = true) (k2 : PySem.W.keepIn K (.ref f2) = true)
    (a3 : PySem.W.nsIn K mainGlobals "shifted" = some (some (.ref f3))) (l3 : K.lookup f3 = some ⟨oc3, od3, .func (PySem.W.fnOf "shifted" "shifted" (L2.defArgs sp_shifted) (L2.defBody sp_shifted) (L2.defScope sp_shifted) .none kV3 dc3 pm3 an3 cd3 ct3), sl3⟩) (c3 : PySem.W.codeIn K cd3 "shifted" = true) (k3 : PySem.W.keepIn K (.ref f3) = true)
    (a4 : PySem.W.nsIn K mainGlobals "divided" = some (some (.ref f4))) (l4 : K.lookup f4 = some ⟨oc4, od4, .func (PySem.W.fnOf "divided" "divided" (L2.defArgs sp_divided) (L2.defBody sp_divided) (L2.defScope sp_divided) .none kV4 dc4 pm4 an4 cd4 ct4), sl4⟩) (c4 : PySem.W.codeIn K cd4 "divided" = true) (k4 : PySem.W.keepIn K (.ref f4) = true)
    (a5 : PySem.W.nsIn K mainGlobals "reckoned" = some (some (.ref f5))) (l5 : K.lookup f5 = some ⟨oc5, od5, .func (PySem.W.fnOf "reckoned" "reckoned" (L2.defArgs sp_reckoned) (L2.defBody sp_reckoned) (L2.defScope sp_reckoned) .none kV5 dc5 pm5 an5 cd5 ct5), sl5⟩) (c5 : PySem.W.codeIn K cd5 "reckoned" = true) (k5 : PySem.W.keepIn K (.ref f5) = true)
    (a6 : PySem.W.nsIn K mainGlobals "result" = some (some (.ref f6))) (l6 : K.lookup f6 = some ⟨oc6, od6, .func (PySem.W.fnOf "result" "result" (L2.defArgs sp_result) (L2.defBody sp_result) (L2.defScope sp_result) .none kV6 dc6 pm6 an6 cd6 ct6), sl6⟩) (c6 : PySem.W.codeIn K cd6 "result" = true) (k6 : PySem.W.keepIn K (.ref f6) = true)
    (a7 : PySem.W.nsIn K mainGlobals "needed_for" = some (some (.ref f7))) (l7 : K.lookup f7 = some ⟨oc7, od7, .func (PySem.W.fnOf "needed_for" "needed_for" (L2.defArgs sp_needed_for) (L2.defBody sp_needed_for) (L2.defScope sp_needed_for) .none kV7 dc7 pm7 an7 cd7 ct7), sl7⟩) (c7 : PySem.W.codeIn K cd7 "needed_for" = true) (k7 : PySem.W.keepIn K (.ref f7) = true)
    (a8 : PySem.W.nsIn K mainGlobals "read_term" = some (some (.ref f8))) (l8 : K.lookup f8 = some ⟨oc8, od8, .func (PySem.W.fnOf "read_term" "read_term" (L2.defArgs sp_read_term) (L2.defBody sp_read_term) (L2.defScope sp_read_term) .none kV8 dc8 pm8 an8 cd8 ct8), sl8⟩) (c8 : PySem.W.codeIn K cd8 "read_term" = true) (k8 : PySem.W.keepIn K (.ref f8) = true)
    (a9 : PySem.W.nsIn K mainGlobals "read_nodes" = some (some (.ref f9))) (l9 : K.lookup f9 = some ⟨oc9, od9, .func (PySem.W.fnOf "read_nodes" "read_nodes" (L2.defArgs sp_read_nodes) (L2.defBody sp_read_nodes) (L2.defScope sp_read_nodes) .none kV9 dc9 pm9 an9 cd9 ct9), sl9⟩) (c9 : PySem.W.codeIn K cd9 "read_nodes" = true) (k9 : PySem.W.keepIn K (.ref f9) = true)
    (a10 : PySem.W.nsIn K mainGlobals "read_one" = some (some (.ref f10))) (l10 : K.lookup f10 = some ⟨oc10, od10, .func (PySem.W.fnOf "read_one" "read_one" (L2.defArgs sp_read_one) (L2.defBody sp_read_one) (L2.defScope sp_read_one) .none kV10 dc10 pm10 an10 cd10 ct10), sl10⟩) (c10 : PySem.W.codeIn K cd10 "read_one" = true) (k10 : PySem.W.keepIn K (.ref f10) = true)
    (a11 : PySem.W.nsIn K mainGlobals "read_bits" = some (some (.ref f11))) (l11 : K.lookup f11 = some ⟨oc11, od11, .func (PySem.W.fnOf "read_bits" "read_bits" (L2.defArgs sp_read_bits) (L2.defBody sp_read_bits) (L2.defScope sp_read_bits) .none kV11 dc11 pm11 an11 cd11 ct11), sl11⟩) (c11 : PySem.W.codeIn K cd11 "read_bits" = true) (k11 : PySem.W.keepIn K (.ref f11) = true)
    (a12 : PySem.W.nsIn K mainGlobals "read_sum" = some (some (.ref f12))) (l12 : K.lookup f12 = some ⟨oc12, od12, .func (PySem.W.fnOf "read_sum" "read_sum" (L2.defArgs sp_read_sum) (L2.defBody sp_read_sum) (L2.defScope sp_read_sum) .none kV12 dc12 pm12 an12 cd12 ct12), sl12⟩) (c12 : PySem.W.codeIn K cd12 "read_sum" = true) (k12 : PySem.W.keepIn K (.ref f12) = true)
    (a13 : PySem.W.nsIn K mainGlobals "read_product" = some (some (.ref f13))) (l13 : K.lookup f13 = some ⟨oc13, od13, .func (PySem.W.fnOf "read_product" "read_product" (L2.defArgs sp_read_product) (L2.defBody sp_read_product) (L2.defScope sp_read_product) .none kV13 dc13 pm13 an13 cd13 ct13), sl13⟩) (c13 : PySem.W.codeIn K cd13 "read_product" = true) (k13 : PySem.W.keepIn K (.ref f13) = true)
    (a14 : PySem.W.nsIn K mainGlobals "read_shift" = some (some (.ref f14))) (l14 : K.lookup f14 = some ⟨oc14, od14, .func (PySem.W.fnOf "read_shift" "read_shift" (L2.defArgs sp_read_shift) (L2.defBody sp_read_shift) (L2.defScope sp_read_shift) .none kV14 dc14 pm14 an14 cd14 ct14), sl14⟩) (c14 : PySem.W.codeIn K cd14 "read_shift" = true) (k14 : PySem.W.keepIn K (.ref f14) = true)
    (a15 : PySem.W.nsIn K mainGlobals "read_pick" = some (some (.ref f15))) (l15 : K.lookup f15 = some ⟨oc15, od15, .func (PySem.W.fnOf "read_pick" "read_pick" (L2.defArgs sp_read_pick) (L2.defBody sp_read_pick) (L2.defScope sp_read_pick) .none kV15 dc15 pm15 an15 cd15 ct15), sl15⟩) (c15 : PySem.W.codeIn K cd15 "read_pick" = true) (k15 : PySem.W.keepIn K (.ref f15) = true)
    (a16 : PySem.W.nsIn K mainGlobals "read_wide" = some (some (.ref f16))) (l16 : K.lookup f16 = some ⟨oc16, od16, .func (PySem.W.fnOf "read_wide" "read_wide" (L2.defArgs sp_read_wide) (L2.defBody sp_read_wide) (L2.defScope sp_read_wide) .none kV16 dc16 pm16 an16 cd16 ct16), sl16⟩) (c16 : PySem.W.codeIn K cd16 "read_wide" = true) (k16 : PySem.W.keepIn K (.ref f16) = true)
    (a17 : PySem.W.nsIn K mainGlobals "read_relation" = some (some (.ref f17))) (l17 : K.lookup f17 = some ⟨oc17, od17, .func (PySem.W.fnOf "read_relation" "read_relation" (L2.defArgs sp_read_relation) (L2.defBody sp_read_relation) (L2.defScope sp_read_relation) .none kV17 dc17 pm17 an17 cd17 ct17), sl17⟩) (c17 : PySem.W.codeIn K cd17 "read_relation" = true) (k17 : PySem.W.keepIn K (.ref f17) = true)
    (a18 : PySem.W.nsIn K mainGlobals "_law_begin" = some (some (.ref f18))) (l18 : K.lookup f18 = some ⟨oc18, od18, .func (PySem.W.fnOf "_law_begin" "_law_begin" (L2.defArgs sl_begin) (L2.defBody sl_begin) (L2.defScope sl_begin) .none kV18 dc18 pm18 an18 cd18 ct18), sl18⟩) (c18 : PySem.W.codeIn K cd18 "_law_begin" = true) (k18 : PySem.W.keepIn K (.ref f18) = true)
    (a19 : PySem.W.nsIn K mainGlobals "_law_draw" = some (some (.ref f19))) (l19 : K.lookup f19 = some ⟨oc19, od19, .func (PySem.W.fnOf "_law_draw" "_law_draw" (L2.defArgs sl_draw) (L2.defBody sl_draw) (L2.defScope sl_draw) .none kV19 dc19 pm19 an19 cd19 ct19), sl19⟩) (c19 : PySem.W.codeIn K cd19 "_law_draw" = true) (k19 : PySem.W.keepIn K (.ref f19) = true)
    (a20 : PySem.W.nsIn K mainGlobals "_law_pick" = some (some (.ref f20))) (l20 : K.lookup f20 = some ⟨oc20, od20, .func (PySem.W.fnOf "_law_pick" "_law_pick" (L2.defArgs sl_pick) (L2.defBody sl_pick) (L2.defScope sl_pick) .none kV20 dc20 pm20 an20 cd20 ct20), sl20⟩) (c20 : PySem.W.codeIn K cd20 "_law_pick" = true) (k20 : PySem.W.keepIn K (.ref f20) = true)
    (a21 : PySem.W.nsIn K mainGlobals "_law_rare" = some (some (.ref f21))) (l21 : K.lookup f21 = some ⟨oc21, od21, .func (PySem.W.fnOf "_law_rare" "_law_rare" (L2.defArgs sl_rare) (L2.defBody sl_rare) (L2.defScope sl_rare) .none kV21 dc21 pm21 an21 cd21 ct21), sl21⟩) (c21 : PySem.W.codeIn K cd21 "_law_rare" = true) (k21 : PySem.W.keepIn K (.ref f21) = true)
    (a22 : PySem.W.nsIn K mainGlobals "_law_shuffled" = some (some (.ref f22))) (l22 : K.lookup f22 = some ⟨oc22, od22, .func (PySem.W.fnOf "_law_shuffled" "_law_shuffled" (L2.defArgs sl_shuffled) (L2.defBody sl_shuffled) (L2.defScope sl_shuffled) .none kV22 dc22 pm22 an22 cd22 ct22), sl22⟩) (c22 : PySem.W.codeIn K cd22 "_law_shuffled" = true) (k22 : PySem.W.keepIn K (.ref f22) = true)
    (a23 : PySem.W.nsIn K mainGlobals "_law_is_int" = some (some (.ref f23))) (l23 : K.lookup f23 = some ⟨oc23, od23, .func (PySem.W.fnOf "_law_is_int" "_law_is_int" (L2.defArgs sl_is_int) (L2.defBody sl_is_int) (L2.defScope sl_is_int) .none kV23 dc23 pm23 an23 cd23 ct23), sl23⟩) (c23 : PySem.W.codeIn K cd23 "_law_is_int" = true) (k23 : PySem.W.keepIn K (.ref f23) = true)
    (a24 : PySem.W.nsIn K mainGlobals "_law_ops" = some (some (.ref f24))) (l24 : K.lookup f24 = some ⟨oc24, od24, .func (PySem.W.fnOf "_law_ops" "_law_ops" (L2.defArgs sl_ops) (L2.defBody sl_ops) (L2.defScope sl_ops) .none kV24 dc24 pm24 an24 cd24 ct24), sl24⟩) (c24 : PySem.W.codeIn K cd24 "_law_ops" = true) (k24 : PySem.W.keepIn K (.ref f24) = true)
    (a25 : PySem.W.nsIn K mainGlobals "_law_spans" = some (some (.ref f25))) (l25 : K.lookup f25 = some ⟨oc25, od25, .func (PySem.W.fnOf "_law_spans" "_law_spans" (L2.defArgs sl_spans) (L2.defBody sl_spans) (L2.defScope sl_spans) .none kV25 dc25 pm25 an25 cd25 ct25), sl25⟩) (c25 : PySem.W.codeIn K cd25 "_law_spans" = true) (k25 : PySem.W.keepIn K (.ref f25) = true)
    (a26 : PySem.W.nsIn K mainGlobals "_law_span_leaf" = some (some (.ref f26))) (l26 : K.lookup f26 = some ⟨oc26, od26, .func (PySem.W.fnOf "_law_span_leaf" "_law_span_leaf" (L2.defArgs sl_span_leaf) (L2.defBody sl_span_leaf) (L2.defScope sl_span_leaf) .none kV26 dc26 pm26 an26 cd26 ct26), sl26⟩) (c26 : PySem.W.codeIn K cd26 "_law_span_leaf" = true) (k26 : PySem.W.keepIn K (.ref f26) = true)
    (a27 : PySem.W.nsIn K mainGlobals "_law_node_drawn" = some (some (.ref f27))) (l27 : K.lookup f27 = some ⟨oc27, od27, .func (PySem.W.fnOf "_law_node_drawn" "_law_node_drawn" (L2.defArgs sl_node_drawn) (L2.defBody sl_node_drawn) (L2.defScope sl_node_drawn) .none kV27 dc27 pm27 an27 cd27 ct27), sl27⟩) (c27 : PySem.W.codeIn K cd27 "_law_node_drawn" = true) (k27 : PySem.W.keepIn K (.ref f27) = true)
    (a28 : PySem.W.nsIn K mainGlobals "_law_span_sheet" = some (some (.ref f28))) (l28 : K.lookup f28 = some ⟨oc28, od28, .func (PySem.W.fnOf "_law_span_sheet" "_law_span_sheet" (L2.defArgs sl_span_sheet) (L2.defBody sl_span_sheet) (L2.defScope sl_span_sheet) .none kV28 dc28 pm28 an28 cd28 ct28), sl28⟩) (c28 : PySem.W.codeIn K cd28 "_law_span_sheet" = true) (k28 : PySem.W.keepIn K (.ref f28) = true)
    (a29 : PySem.W.nsIn K mainGlobals "_law_leaf_column" = some (some (.ref f29))) (l29 : K.lookup f29 = some ⟨oc29, od29, .func (PySem.W.fnOf "_law_leaf_column" "_law_leaf_column" (L2.defArgs sl_leaf_column) (L2.defBody sl_leaf_column) (L2.defScope sl_leaf_column) .none kV29 dc29 pm29 an29 cd29 ct29), sl29⟩) (c29 : PySem.W.codeIn K cd29 "_law_leaf_column" = true) (k29 : PySem.W.keepIn K (.ref f29) = true)
    (a30 : PySem.W.nsIn K mainGlobals "_law_op_column" = some (some (.ref f30))) (l30 : K.lookup f30 = some ⟨oc30, od30, .func (PySem.W.fnOf "_law_op_column" "_law_op_column" (L2.defArgs sl_op_column) (L2.defBody sl_op_column) (L2.defScope sl_op_column) .none kV30 dc30 pm30 an30 cd30 ct30), sl30⟩) (c30 : PySem.W.codeIn K cd30 "_law_op_column" = true) (k30 : PySem.W.keepIn K (.ref f30) = true)
    (a31 : PySem.W.nsIn K mainGlobals "_law_more_column" = some (some (.ref f31))) (l31 : K.lookup f31 = some ⟨oc31, od31, .func (PySem.W.fnOf "_law_more_column" "_law_more_column" (L2.defArgs sl_more_column) (L2.defBody sl_more_column) (L2.defScope sl_more_column) .none kV31 dc31 pm31 an31 cd31 ct31), sl31⟩) (c31 : PySem.W.codeIn K cd31 "_law_more_column" = true) (k31 : PySem.W.keepIn K (.ref f31) = true)
    (a32 : PySem.W.nsIn K mainGlobals "_law_node_column" = some (some (.ref f32))) (l32 : K.lookup f32 = some ⟨oc32, od32, .func (PySem.W.fnOf "_law_node_column" "_law_node_column" (L2.defArgs sl_node_column) (L2.defBody sl_node_column) (L2.defScope sl_node_column) .none kV32 dc32 pm32 an32 cd32 ct32), sl32⟩) (c32 : PySem.W.codeIn K cd32 "_law_node_column" = true) (k32 : PySem.W.keepIn K (.ref f32) = true)
    (a33 : PySem.W.nsIn K mainGlobals "_law_is_pair" = some (some (.ref f33))) (l33 : K.lookup f33 = some ⟨oc33, od33, .func (PySem.W.fnOf "_law_is_pair" "_law_is_pair" (L2.defArgs sl_is_pair) (L2.defBody sl_is_pair) (L2.defScope sl_is_pair) .none kV33 dc33 pm33 an33 cd33 ct33), sl33⟩) (c33 : PySem.W.codeIn K cd33 "_law_is_pair" = true) (k33 : PySem.W.keepIn K (.ref f33) = true)
    (a34 : PySem.W.nsIn K mainGlobals "_law_reached_bits" = some (some (.ref f34))) (l34 : K.lookup f34 = some ⟨oc34, od34, .func (PySem.W.fnOf "_law_reached_bits" "_law_reached_bits" (L2.defArgs sl_reached_bits) (L2.defBody sl_reached_bits) (L2.defScope sl_reached_bits) .none kV34 dc34 pm34 an34 cd34 ct34), sl34⟩) (c34 : PySem.W.codeIn K cd34 "_law_reached_bits" = true) (k34 : PySem.W.keepIn K (.ref f34) = true)
    (a35 : PySem.W.nsIn K mainGlobals "_law_pairs_told" = some (some (.ref f35))) (l35 : K.lookup f35 = some ⟨oc35, od35, .func (PySem.W.fnOf "_law_pairs_told" "_law_pairs_told" (L2.defArgs sl_pairs_told) (L2.defBody sl_pairs_told) (L2.defScope sl_pairs_told) .none kV35 dc35 pm35 an35 cd35 ct35), sl35⟩) (c35 : PySem.W.codeIn K cd35 "_law_pairs_told" = true) (k35 : PySem.W.keepIn K (.ref f35) = true)
    (a36 : PySem.W.nsIn K mainGlobals "_law_pairs_right" = some (some (.ref f36))) (l36 : K.lookup f36 = some ⟨oc36, od36, .func (PySem.W.fnOf "_law_pairs_right" "_law_pairs_right" (L2.defArgs sl_pairs_right) (L2.defBody sl_pairs_right) (L2.defScope sl_pairs_right) .none kV36 dc36 pm36 an36 cd36 ct36), sl36⟩) (c36 : PySem.W.codeIn K cd36 "_law_pairs_right" = true) (k36 : PySem.W.keepIn K (.ref f36) = true)
    (a37 : PySem.W.nsIn K mainGlobals "law" = some (some (.ref f37))) (l37 : K.lookup f37 = some ⟨oc37, od37, .func (PySem.W.fnOf "law" "law" (L2.defArgs sl_law) (L2.defBody sl_law) (L2.defScope sl_law) .none kV37 dc37 pm37 an37 cd37 ct37), sl37⟩) (c37 : PySem.W.codeIn K cd37 "law" = true) (k37 : PySem.W.keepIn K (.ref f37) = true)
    (z1 : PySem.W.nsIn K mainGlobals "abs" = some none) (z2 : PySem.W.nsIn K mainGlobals "bool" = some none) (z3 : PySem.W.nsIn K mainGlobals "int" = some none) (z4 : PySem.W.nsIn K mainGlobals "isinstance" = some none) (z5 : PySem.W.nsIn K mainGlobals "len" = some none) (z6 : PySem.W.nsIn K mainGlobals "list" = some none) (z7 : PySem.W.nsIn K mainGlobals "min" = some none) (z8 : PySem.W.nsIn K mainGlobals "range" = some none) (z9 : PySem.W.nsIn K mainGlobals "sorted" = some none) (z10 : PySem.W.nsIn K mainGlobals "sum" = some none) (z11 : PySem.W.nsIn K mainGlobals "tuple" = some none) (z12 : PySem.W.nsIn K mainGlobals "zip" = some none) :
    ∃ fd : FuncData, (∀ (s : Shared) (v : Value), BindsTo s fd ⟨[v], []⟩ [("_law_script", v)]) ∧ ∀ base : Heap, K.In base → base.Ns mainGlobals mg → L2.FnOk l.prog w K mg base L2.CX0 61 fa fd ["_law_script"] (liftF K 1 (callN prog 61 "law")) := by
  have e := hfa.symm.trans (PySem.W.mg_of X G a37)
  cases e
  have F1 := L2.fun_mk (st := sp_greatest) l1 c1 k1
  have b1 := F1.binds (ps := ["width"]) fun _ _ _ _ _ _ us hl => match us, hl with | [_], _ => rfl
  have F2 := L2.fun_mk (st := sp_related) l2 c2 k2
  have b2 := F2.binds (ps := ["op", "left", "right"]) fun _ _ _ _ _ _ us hl => match us, hl with | [_, _, _], _ => rfl
  have F3 := L2.fun_mk (st := sp_shifted) l3 c3 k3
  have b3 := F3.binds (ps := ["op", "width", "left", "right"]) fun _ _ _ _ _ _ us hl => match us, hl with | [_, _, _, _], _ => rfl
  have F4 := L2.fun_mk (st := sp_divided) l4 c4 k4
  have b4 := F4.binds (ps := ["op", "left", "right"]) fun _ _ _ _ _ _ us hl => match us, hl with | [_, _, _], _ => rfl
  have F5 := L2.fun_mk (st := sp_reckoned) l5 c5 k5
  have b5 := F5.binds (ps := ["op", "left", "right"]) fun _ _ _ _ _ _ us hl => match us, hl with | [_, _, _], _ => rfl
  have F6 := L2.fun_mk (st := sp_result) l6 c6 k6
  have F7 := L2.fun_mk (st := sp_needed_for) l7 c7 k7
  have b7 := F7.binds (ps := ["nodes", "terms"]) fun _ _ _ _ _ _ us hl => match us, hl with | [_, _], _ => rfl
  have F8 := L2.fun_mk (st := sp_read_term) l8 c8 k8
  have b8 := F8.binds (ps := ["nodes", "cube", "term"]) fun _ _ _ _ _ _ us hl => match us, hl with | [_, _, _], _ => rfl
  have F9 := L2.fun_mk (st := sp_read_nodes) l9 c9 k9
  have b9 := F9.binds (ps := ["nodes", "numbers", "cube"]) fun _ _ _ _ _ _ us hl => match us, hl with | [_, _, _], _ => rfl
  have F10 := L2.fun_mk (st := sp_read_one) l10 c10 k10
  have b10 := F10.binds (ps := ["node", "parts", "fulls"]) fun _ _ _ _ _ _ us hl => match us, hl with | [_, _, _], _ => rfl
  have F11 := L2.fun_mk (st := sp_read_bits) l11 c11 k11
  have b11 := F11.binds (ps := ["op", "one", "other"]) fun _ _ _ _ _ _ us hl => match us, hl with | [_, _, _], _ => rfl
  have F12 := L2.fun_mk (st := sp_read_sum) l12 c12 k12
  have b12 := F12.binds (ps := ["op", "width", "parts"]) fun _ _ _ _ _ _ us hl => match us, hl with | [_, _, _], _ => rfl
  have F13 := L2.fun_mk (st := sp_read_product) l13 c13 k13
  have b13 := F13.binds (ps := ["width", "one", "other"]) fun _ _ _ _ _ _ us hl => match us, hl with | [_, _, _], _ => rfl
  have F14 := L2.fun_mk (st := sp_read_shift) l14 c14 k14
  have b14 := F14.binds (ps := ["op", "one", "other", "fulls"]) fun _ _ _ _ _ _ us hl => match us, hl with | [_, _, _, _], _ => rfl
  have F15 := L2.fun_mk (st := sp_read_pick) l15 c15 k15
  have b15 := F15.binds (ps := ["parts"]) fun _ _ _ _ _ _ us hl => match us, hl with | [_], _ => rfl
  have F16 := L2.fun_mk (st := sp_read_wide) l16 c16 k16
  have b16 := F16.binds (ps := ["target", "full", "pair"]) fun _ _ _ _ _ _ us hl => match us, hl with | [_, _, _], _ => rfl
  have F17 := L2.fun_mk (st := sp_read_relation) l17 c17 k17
  have b17 := F17.binds (ps := ["op", "one", "other", "full"]) fun _ _ _ _ _ _ us hl => match us, hl with | [_, _, _, _], _ => rfl
  have F18 := L2.fun_mk (st := sl_begin) l18 c18 k18
  have b18 := F18.binds (ps := ["_law_script"]) fun _ _ _ _ _ _ us hl => match us, hl with | [_], _ => rfl
  have F19 := L2.fun_mk (st := sl_draw) l19 c19 k19
  have b19 := F19.binds (ps := ["_law_d", "_law_many"]) fun _ _ _ _ _ _ us hl => match us, hl with | [_, _], _ => rfl
  have F20 := L2.fun_mk (st := sl_pick) l20 c20 k20
  have b20 := F20.binds (ps := ["_law_d", "_law_row"]) fun _ _ _ _ _ _ us hl => match us, hl with | [_, _], _ => rfl
  have F21 := L2.fun_mk (st := sl_rare) l21 c21 k21
  have b21 := F21.binds (ps := ["_law_d", "_law_many"]) fun _ _ _ _ _ _ us hl => match us, hl with | [_, _], _ => rfl
  have F22 := L2.fun_mk (st := sl_shuffled) l22 c22 k22
  have b22 := F22.binds (ps := ["_law_d", "_law_row"]) fun _ _ _ _ _ _ us hl => match us, hl with | [_, _], _ => rfl
  have F23 := L2.fun_mk (st := sl_is_int) l23 c23 k23
  have b23 := F23.binds (ps := ["_law_thing"]) fun _ _ _ _ _ _ us hl => match us, hl with | [_], _ => rfl
  have F24 := L2.fun_mk (st := sl_ops) l24 c24 k24
  have b24 := F24.binds (ps := []) fun _ _ _ _ _ _ us hl => match us, hl with | [], _ => rfl
  have F25 := L2.fun_mk (st := sl_spans) l25 c25 k25
  have b25 := F25.binds (ps := []) fun _ _ _ _ _ _ us hl => match us, hl with | [], _ => rfl
  have F26 := L2.fun_mk (st := sl_span_leaf) l26 c26 k26
  have b26 := F26.binds (ps := ["_law_d", "_law_spans_here", "_law_width"]) fun _ _ _ _ _ _ us hl => match us, hl with | [_, _, _], _ => rfl
  have F27 := L2.fun_mk (st := sl_node_drawn) l27 c27 k27
  have b27 := F27.binds (ps := ["_law_d", "_law_nodes"]) fun _ _ _ _ _ _ us hl => match us, hl with | [_, _], _ => rfl
  have F28 := L2.fun_mk (st := sl_span_sheet) l28 c28 k28
  have b28 := F28.binds (ps := ["_law_d", "_law_spans_here", "_law_leaves", "_law_many"]) fun _ _ _ _ _ _ us hl => match us, hl with | [_, _, _, _], _ => rfl
  have F29 := L2.fun_mk (st := sl_leaf_column) l29 c29 k29
  have b29 := F29.binds (ps := ["_law_node", "_law_spans_here"]) fun _ _ _ _ _ _ us hl => match us, hl with | [_, _], _ => rfl
  have F30 := L2.fun_mk (st := sl_op_column) l30 c30 k30
  have b30 := F30.binds (ps := ["_law_op", "_law_width", "_law_parts"]) fun _ _ _ _ _ _ us hl => match us, hl with | [_, _, _], _ => rfl
  have F31 := L2.fun_mk (st := sl_more_column) l31 c31 k31
  have b31 := F31.binds (ps := ["_law_op", "_law_ones", "_law_pairs"]) fun _ _ _ _ _ _ us hl => match us, hl with | [_, _, _], _ => rfl
  have F32 := L2.fun_mk (st := sl_node_column) l32 c32 k32
  have b32 := F32.binds (ps := ["_law_node", "_law_spans_here", "_law_columns"]) fun _ _ _ _ _ _ us hl => match us, hl with | [_, _, _], _ => rfl
  have F33 := L2.fun_mk (st := sl_is_pair) l33 c33 k33
  have b33 := F33.binds (ps := ["_law_thing"]) fun _ _ _ _ _ _ us hl => match us, hl with | [_], _ => rfl
  have F34 := L2.fun_mk (st := sl_reached_bits) l34 c34 k34
  have b34 := F34.binds (ps := ["_law_node", "_law_spans_here", "_law_reached"]) fun _ _ _ _ _ _ us hl => match us, hl with | [_, _, _], _ => rfl
  have F35 := L2.fun_mk (st := sl_pairs_told) l35 c35 k35
  have b35 := F35.binds (ps := ["_law_nodes", "_law_cube", "_law_columns", "_law_left"]) fun _ _ _ _ _ _ us hl => match us, hl with | [_, _, _, _], _ => rfl
  have F36 := L2.fun_mk (st := sl_pairs_right) l36 c36 k36
  have b36 := F36.binds (ps := ["_law_nodes", "_law_told", "_law_elder", "_law_columns", "_law_reached", "_law_known", "_law_truth"]) fun _ _ _ _ _ _ us hl => match us, hl with | [_, _, _, _, _, _, _], _ => rfl
  have F37 := L2.fun_mk (st := sl_law) l37 c37 k37
  have b37 := F37.binds (ps := ["_law_script"]) fun _ _ _ _ _ _ us hl => match us, hl with | [_], _ => rfl
  have zs : ∀ y ∈ blts, mg (Str.ofString y) = none := by
    intro y hy
    simp only [blts, List.mem_cons, List.not_mem_nil, or_false] at hy
    rcases hy with rfl | rfl | rfl | rfl | rfl | rfl | rfl | rfl | rfl | rfl | rfl | rfl
    · exact PySem.W.mg_none_of X G z1
    · exact PySem.W.mg_none_of X G z2
    · exact PySem.W.mg_none_of X G z3
    · exact PySem.W.mg_none_of X G z4
    · exact PySem.W.mg_none_of X G z5
    · exact PySem.W.mg_none_of X G z6
    · exact PySem.W.mg_none_of X G z7
    · exact PySem.W.mg_none_of X G z8
    · exact PySem.W.mg_none_of X G z9
    · exact PySem.W.mg_none_of X G z10
    · exact PySem.W.mg_none_of X G z11
    · exact PySem.W.mg_none_of X G z12
  refine ⟨PySem.W.fnOf "law" "law" (L2.defArgs sl_law) (L2.defBody sl_law) (L2.defScope sl_law) .none kV37 dc37 pm37 an37 cd37 ct37, fun s v => .of_eq rfl, fun base _ _ => ?_⟩
  have st : ∀ x ∈ names, ∃ d, prog x = some d ∧ Step2 l.prog w K mg base names snames x d := by
    intro x hx
    simp only [names, List.mem_cons, List.not_mem_nil, or_false] at hx
    rcases hx with rfl | rfl | rfl | rfl | rfl | rfl | rfl | rfl | rfl | rfl | rfl | rfl | rfl | rfl | rfl | rfl | rfl | rfl | rfl | rfl | rfl | rfl | rfl | rfl | rfl | rfl | rfl | rfl | rfl | rfl | rfl | rfl | rfl | rfl | rfl | rfl
    · exact ⟨_, rfl, _, _, ["width"], PySem.W.mg_of X G a1, F1.kp, b1, rfl, fun k c ok oks => fn_ok F1 scp_greatest rfl rfl (der_p_greatest ok oks zs)⟩
    · exact ⟨_, rfl, _, _, ["op", "left", "right"], PySem.W.mg_of X G a2, F2.kp, b2, rfl, fun k c ok oks => fn_ok F2 scp_related rfl rfl (der_p_related ok oks zs)⟩
    · exact ⟨_, rfl, _, _, ["op", "width", "left", "right"], PySem.W.mg_of X G a3, F3.kp, b3, rfl, fun k c ok oks => fn_ok F3 scp_shifted rfl rfl (der_p_shifted ok oks zs)⟩
    · exact ⟨_, rfl, _, _, ["op", "left", "right"], PySem.W.mg_of X G a4, F4.kp, b4, rfl, fun k c ok oks => fn_ok F4 scp_divided rfl rfl (der_p_divided ok oks zs)⟩
    · exact ⟨_, rfl, _, _, ["op", "left", "right"], PySem.W.mg_of X G a5, F5.kp, b5, rfl, fun k c ok oks => fn_ok F5 scp_reckoned rfl rfl (der_p_reckoned ok oks zs)⟩
    · exact ⟨_, rfl, _, _, ["nodes", "terms"], PySem.W.mg_of X G a7, F7.kp, b7, rfl, fun k c ok oks => fn_ok F7 scp_needed_for rfl rfl (der_p_needed_for ok oks zs)⟩
    · exact ⟨_, rfl, _, _, ["nodes", "cube", "term"], PySem.W.mg_of X G a8, F8.kp, b8, rfl, fun k c ok oks => fn_ok F8 scp_read_term rfl rfl (der_p_read_term ok oks zs)⟩
    · exact ⟨_, rfl, _, _, ["nodes", "numbers", "cube"], PySem.W.mg_of X G a9, F9.kp, b9, rfl, fun k c ok oks => fn_ok F9 scp_read_nodes rfl rfl (der_p_read_nodes ok oks zs)⟩
    · exact ⟨_, rfl, _, _, ["node", "parts", "fulls"], PySem.W.mg_of X G a10, F10.kp, b10, rfl, fun k c ok oks => fn_ok F10 scp_read_one rfl rfl (der_p_read_one ok oks zs)⟩
    · exact ⟨_, rfl, _, _, ["op", "one", "other"], PySem.W.mg_of X G a11, F11.kp, b11, rfl, fun k c ok oks => fn_ok F11 scp_read_bits rfl rfl (der_p_read_bits ok oks zs)⟩
    · exact ⟨_, rfl, _, _, ["op", "width", "parts"], PySem.W.mg_of X G a12, F12.kp, b12, rfl, fun k c ok oks => fn_ok F12 scp_read_sum rfl rfl (der_p_read_sum ok oks zs)⟩
    · exact ⟨_, rfl, _, _, ["width", "one", "other"], PySem.W.mg_of X G a13, F13.kp, b13, rfl, fun k c ok oks => fn_ok F13 scp_read_product rfl rfl (der_p_read_product ok oks zs)⟩
    · exact ⟨_, rfl, _, _, ["op", "one", "other", "fulls"], PySem.W.mg_of X G a14, F14.kp, b14, rfl, fun k c ok oks => fn_ok F14 scp_read_shift rfl rfl (der_p_read_shift ok oks zs)⟩
    · exact ⟨_, rfl, _, _, ["parts"], PySem.W.mg_of X G a15, F15.kp, b15, rfl, fun k c ok oks => fn_ok F15 scp_read_pick rfl rfl (der_p_read_pick ok oks zs)⟩
    · exact ⟨_, rfl, _, _, ["target", "full", "pair"], PySem.W.mg_of X G a16, F16.kp, b16, rfl, fun k c ok oks => fn_ok F16 scp_read_wide rfl rfl (der_p_read_wide ok oks zs)⟩
    · exact ⟨_, rfl, _, _, ["op", "one", "other", "full"], PySem.W.mg_of X G a17, F17.kp, b17, rfl, fun k c ok oks => fn_ok F17 scp_read_relation rfl rfl (der_p_read_relation ok oks zs)⟩
    · exact ⟨_, rfl, _, _, ["_law_script"], PySem.W.mg_of X G a18, F18.kp, b18, rfl, fun k c ok oks => fn_ok F18 scl_begin rfl rfl (der_l_begin ok oks zs)⟩
    · exact ⟨_, rfl, _, _, ["_law_d", "_law_many"], PySem.W.mg_of X G a19, F19.kp, b19, rfl, fun k c ok oks => fn_ok F19 scl_draw rfl rfl (der_l_draw ok oks zs)⟩
    · exact ⟨_, rfl, _, _, ["_law_d", "_law_row"], PySem.W.mg_of X G a20, F20.kp, b20, rfl, fun k c ok oks => fn_ok F20 scl_pick rfl rfl (der_l_pick ok oks zs)⟩
    · exact ⟨_, rfl, _, _, ["_law_d", "_law_many"], PySem.W.mg_of X G a21, F21.kp, b21, rfl, fun k c ok oks => fn_ok F21 scl_rare rfl rfl (der_l_rare ok oks zs)⟩
    · exact ⟨_, rfl, _, _, ["_law_d", "_law_row"], PySem.W.mg_of X G a22, F22.kp, b22, rfl, fun k c ok oks => fn_ok F22 scl_shuffled rfl rfl (der_l_shuffled ok oks zs)⟩
    · exact ⟨_, rfl, _, _, ["_law_thing"], PySem.W.mg_of X G a23, F23.kp, b23, rfl, fun k c ok oks => fn_ok F23 scl_is_int rfl rfl (der_l_is_int ok oks zs)⟩
    · exact ⟨_, rfl, _, _, [], PySem.W.mg_of X G a24, F24.kp, b24, rfl, fun k c ok oks => fn_ok F24 scl_ops rfl rfl (der_l_ops ok oks zs)⟩
    · exact ⟨_, rfl, _, _, [], PySem.W.mg_of X G a25, F25.kp, b25, rfl, fun k c ok oks => fn_ok F25 scl_spans rfl rfl (der_l_spans ok oks zs)⟩
    · exact ⟨_, rfl, _, _, ["_law_d", "_law_spans_here", "_law_width"], PySem.W.mg_of X G a26, F26.kp, b26, rfl, fun k c ok oks => fn_ok F26 scl_span_leaf rfl rfl (der_l_span_leaf ok oks zs)⟩
    · exact ⟨_, rfl, _, _, ["_law_d", "_law_nodes"], PySem.W.mg_of X G a27, F27.kp, b27, rfl, fun k c ok oks => fn_ok F27 scl_node_drawn rfl rfl (der_l_node_drawn ok oks zs)⟩
    · exact ⟨_, rfl, _, _, ["_law_d", "_law_spans_here", "_law_leaves", "_law_many"], PySem.W.mg_of X G a28, F28.kp, b28, rfl, fun k c ok oks => fn_ok F28 scl_span_sheet rfl rfl (der_l_span_sheet ok oks zs)⟩
    · exact ⟨_, rfl, _, _, ["_law_node", "_law_spans_here"], PySem.W.mg_of X G a29, F29.kp, b29, rfl, fun k c ok oks => fn_ok F29 scl_leaf_column rfl rfl (der_l_leaf_column ok oks zs)⟩
    · exact ⟨_, rfl, _, _, ["_law_op", "_law_width", "_law_parts"], PySem.W.mg_of X G a30, F30.kp, b30, rfl, fun k c ok oks => fn_ok F30 scl_op_column rfl rfl (der_l_op_column ok oks zs)⟩
    · exact ⟨_, rfl, _, _, ["_law_op", "_law_ones", "_law_pairs"], PySem.W.mg_of X G a31, F31.kp, b31, rfl, fun k c ok oks => fn_ok F31 scl_more_column rfl rfl (der_l_more_column ok oks zs)⟩
    · exact ⟨_, rfl, _, _, ["_law_node", "_law_spans_here", "_law_columns"], PySem.W.mg_of X G a32, F32.kp, b32, rfl, fun k c ok oks => fn_ok F32 scl_node_column rfl rfl (der_l_node_column ok oks zs)⟩
    · exact ⟨_, rfl, _, _, ["_law_thing"], PySem.W.mg_of X G a33, F33.kp, b33, rfl, fun k c ok oks => fn_ok F33 scl_is_pair rfl rfl (der_l_is_pair ok oks zs)⟩
    · exact ⟨_, rfl, _, _, ["_law_node", "_law_spans_here", "_law_reached"], PySem.W.mg_of X G a34, F34.kp, b34, rfl, fun k c ok oks => fn_ok F34 scl_reached_bits rfl rfl (der_l_reached_bits ok oks zs)⟩
    · exact ⟨_, rfl, _, _, ["_law_nodes", "_law_cube", "_law_columns", "_law_left"], PySem.W.mg_of X G a35, F35.kp, b35, rfl, fun k c ok oks => fn_ok F35 scl_pairs_told rfl rfl (der_l_pairs_told ok oks zs)⟩
    · exact ⟨_, rfl, _, _, ["_law_nodes", "_law_told", "_law_elder", "_law_columns", "_law_reached", "_law_known", "_law_truth"], PySem.W.mg_of X G a36, F36.kp, b36, rfl, fun k c ok oks => fn_ok F36 scl_pairs_right rfl rfl (der_l_pairs_right ok oks zs)⟩
    · exact ⟨_, rfl, _, _, ["_law_script"], PySem.W.mg_of X G a37, F37.kp, b37, rfl, fun k c ok oks => fn_ok F37 scl_law rfl rfl (der_l_law ok oks zs)⟩
  have st2 : ∀ q ∈ snames, ∃ d, prog q.1 = some d ∧ StepS l.prog w K mg base names snames q.1 q.2 d := by
    intro q hq
    simp only [snames, List.mem_cons, List.not_mem_nil, or_false] at hq
    rcases hq with rfl
    · exact ⟨_, rfl, _, PySem.W.mg_of X G a6, F6.kp, fun k c ok oks => fnS_ok (ps := ["op", "width"]) (pv := "words") F6 scp_result rfl rfl (fun kV doc pm an cdv ct => StX.bind_star2 (B := fun us => bindArgs (PySem.W.fnOf "result" "result" (L2.defArgs sp_result) (L2.defBody sp_result) (L2.defScope sp_result) .none kV doc pm an cdv ct) ⟨us, []⟩) (fun _ _ => rfl) (fun _ _ _ _ => rfl)) (der_p_result ok oks zs)⟩
  have ow := all_own2 (P := l.prog) (w := w) (base := base) st st2 60
  refine (fn_ok (P := l.prog) (w := w) (mg := mg) (base := base) (k := 60) (d := ⟨1, 21, b_l_law⟩) (c := callN prog 60) F37 scl_law rfl rfl (der_l_law ow.1 ow.2 zs)).imp fun vs H Q E ⟨g0, f, st, ds, Q', s, r, ⟨d', e', g⟩, l⟩ => ?_
  cases (Option.some.inj e' : (⟨1, 21, b_l_law⟩ : Def) = d')
  exact ⟨g0, f, st, ds, Q', s, r, g, l⟩
end Pk35
end PartPdk35L

section PartPdk35P
set_option Elab.async false
set_option linter.all false
set_option maxRecDepth 100000
set_option maxHeartbeats 1000000
namespace Pk35
open PySem Pd
local macro_rules | `(tactic| walk_at "s") => `(tactic| (repeat (refine Red.red ?_)))
local macro_rules | `(tactic| walk_at "r") => `(tactic| (repeat (first | refine Red.red ?_ | refine Nxt.mk ?_)))
local macro_rules | `(tactic| walk_at "t") => `(tactic| (repeat (first | refine Red.red ?_ | refine Nxt.mk ?_ | refine ⟨by decide +kernel, by decide +kernel, wayF (by decide +kernel) ?_⟩ | refine ⟨by decide +kernel, by decide +kernel, wayT (by decide +kernel) ?_⟩ | refine ⟨by decide +kernel, ?_⟩ | refine ⟨Nat.le_of_ble_eq_true rfl, ?_⟩ | refine at_is rfl ?_)))
local instance inNewA {x : D} {xs : List D} {st : Store} {r : Bool → Prop} : Red (inC x (.ref st.length) (st ++ [.lst xs]) r) (x.flat = true ∧ xs.all D.flat = true ∧ r (xs.any fun y => D.eqb y x)) := ⟨fun h => ⟨xs, .inl (by simp [rdL]), h⟩⟩
local macro_rules | `(tactic| walk_at "w") => `(tactic| (repeat (first | refine Red.red ?_ | refine Nxt.mk ?_ | refine wayF rfl ?_ | refine wayT rfl ?_ | refine ⟨Nat.le_of_ble_eq_true rfl, ?_⟩ | refine at_is rfl ?_)))
local macro_rules | `(tactic| walk_at "v") => `(tactic| (repeat (first | refine Red.red ?_ | refine Nxt.mk ?_ | refine ⟨Nat.le_of_ble_eq_true rfl, ?_⟩ | refine at_is rfl ?_)))
local macro_rules | `(tactic| walk_at "u") => `(tactic| (repeat (first | refine Red.red ?_ | refine Nxt.mk ?_ | refine ⟨Nat.le_of_ble_eq_true rfl, ?_⟩ | refine at_is rfl ?_ | refine ⟨by decide +kernel, by decide +kernel, wayF (by decide +kernel) ?_⟩ | refine ⟨by decide +kernel, by decide +kernel, wayT (by decide +kernel) ?_⟩ | refine ⟨by decide +kernel, by decide +kernel, ?_⟩ | refine wayF (by decide +kernel) ?_ | refine wayT (by decide +kernel) ?_)))
/-! k35, first text: the law's columns. Own work. -/
def colD (R : Nat) (c : Nat → Int) : List D := (List.range R).map fun k => .int (c k)
theorem zip_col (R : Nat) (c d : Nat → Int) : zipD (colD R c) (colD R d) = (List.range R).map fun k => D.tup [.int (c k), .int (d k)] := by
  unfold colD
  rw [zipD_maps]
  apply List.ext_getElem
  · rw [List.length_map, List.length_zip, List.length_map, Nat.min_self]
  · intro i h1 h2
    rw [List.getElem_map, List.getElem_zip, List.getElem_map]
theorem zip3_col (R : Nat) (c d e : Nat → Int) : zip3D (colD R c) (colD R d) (colD R e) = (List.range R).map fun k => D.tup [.int (c k), .int (d k), .int (e k)] := by
  unfold colD
  rw [zip3D_maps]
  apply List.ext_getElem
  · rw [List.length_map, List.length_zip, List.length_zip, List.length_map, Nat.min_self, Nat.min_self]
  · intro i h1 h2
    rw [List.getElem_map, List.getElem_zip, List.getElem_zip, List.getElem_map]
section
variable {st : Store} {Q : K} {k R : Nat}
theorem lc_col {gd : Store → Prop} {g : TG} {te : TE} {ρ : Pd.Env} (f : Nat → D) (e : Nat → Int) {items : List D} (hi : items = (List.range R).map f) (hR : R ≤ 256) (hg : ∀ acc, gd (st ++ [.lst acc]))
    (hs : ∀ j, j < R → ∀ (acc : List D) (N : D → Store → Prop), N (.int (e j)) (st ++ [.lst acc]) → g (f j) ρ (st ++ [.lst acc]) fun ρ2 st2 => te ρ2 st2 N)
    (q : ∀ st', Grw st st' → rdL st' st.length (colD R e) → Q (.ref st.length) st') : lcLoop gd g tYes te ρ st.length Q items [] (st ++ [.lst []]) :=
  lc_map (List.range R) f (fun j => .int (e j)) hi (by simp [szl]; omega) hg (fun j hj acc N hN => hs j (List.mem_range.mp hj) acc N hN) (q _ (.app (.refl _)) rdL_new)
theorem ones_eq {W : Nat} : (1 : Int) * 2 ^ W - 1 = fullI (W : Int) := by unfold fullI; rw [Int.one_mul, Int.toNat_natCast]
theorem op1_ok {o : Op} {W np r : Nat} {c : Nat → Int} (hW : W ≤ 8) (hR : R ≤ 256) (ho : one o = true) (hr : rdL st np [.ref r]) (h : rdL st r (colD R c)) (hc : ∀ j, j < R → 0 ≤ c j ∧ c j ≤ 255)
    (q : ∀ st' m, Grw st st' → st.length ≤ m → rdL st' m (colD R fun j => v1 o W (c j)) → Q (.ref m) st') : callN prog (k + 2) "_law_op_column" [.str (opS o), .int (W : Int), .ref np] st Q := by
  refine call_intro rfl rfl ?_
  unfold b_l_op_column
  walk_at "v"
  refine ⟨cpow_small (by omega) (by omega), ?_⟩
  walk_at "v"
  rw [Int.toNat_natCast, ones_eq]
  refine ixr hr rfl ?_
  walk_at "v"
  cases o <;> try (cases ho; done)
  case not =>
    rw [show opS .not = Str.ofString "not" from rfl]
    walk_at "u"
    refine it_at h ?_
    refine lc_col (fun j => .int (c j)) (fun j => v1 .not W (c j)) rfl hR (fun acc => .inl (rdL_app h)) (fun j hj acc N hN => ?_) (fun st' g h' => q st' _ g (Nat.le_refl _) h')
    walk_at "v"
    exact hN
  case neg =>
    rw [show opS .neg = Str.ofString "neg" from rfl]
    walk_at "u"
    refine it_at h ?_
    refine lc_col (fun j => .int (c j)) (fun j => v1 .neg W (c j)) rfl hR (fun acc => .inl (rdL_app h)) (fun j hj acc N hN => ?_) (fun st' g h' => q st' _ g (Nat.le_refl _) h')
    walk_at "v"
    have e : v1 .neg W (c j) = Builtin.bitAnd (fullI (W : Int) + 1 - c j) (fullI (W : Int)) := by
      show Builtin.bitAnd (-(c j)) (fullI (W : Int)) = _
      unfold fullI
      rw [and_maskZ, and_maskZ]
      have e3 : (2 ^ ((W : Int)).toNat - 1 + 1 - c j : Int) = -(c j) + 2 ^ ((W : Int)).toNat * 1 := by omega
      rw [e3, Int.add_mul_emod_self_left]
    rw [e] at hN
    exact hN
  case wide =>
    rw [show opS .wide = Str.ofString "wide" from rfl]
    walk_at "u"
    refine it_at h ?_
    refine lc_col (fun j => .int (c j)) (fun j => v1 .wide W (c j)) rfl hR (fun acc => .inl (rdL_app h)) (fun j hj acc N hN => ?_) (fun st' g h' => q st' _ g (Nat.le_refl _) h')
    walk_at "v"
    exact hN
theorem op3_ok {W np r1 r2 r3 : Nat} {c d e : Nat → Int} (hW : W ≤ 8) (hR : R ≤ 256) (hr : rdL st np [.ref r1, .ref r2, .ref r3]) (h1 : rdL st r1 (colD R c)) (h2 : rdL st r2 (colD R d)) (h3 : rdL st r3 (colD R e))
    (q : ∀ st' m, Grw st st' → st.length ≤ m → rdL st' m (colD R fun j => if c j = 1 then d j else e j) → Q (.ref m) st') : callN prog (k + 2) "_law_op_column" [.str (Str.ofString "pick"), .int (W : Int), .ref np] st Q := by
  refine call_intro rfl rfl ?_
  unfold b_l_op_column
  walk_at "v"
  refine ⟨cpow_small (by omega) (by omega), ?_⟩
  walk_at "v"
  refine ixr hr rfl ?_
  walk_at "u"
  refine ixr hr rfl ?_
  walk_at "v"
  refine ixr hr rfl ?_
  walk_at "v"
  refine zip3_at h1 h2 h3 ?_
  refine lc_col (fun j => D.tup [.int (c j), .int (d j), .int (e j)]) (fun j => if c j = 1 then d j else e j) (zip3_col R c d e) hR (fun acc => ⟨.inl (rdL_app h1), .inl (rdL_app h2), .inl (rdL_app h3)⟩) (fun j hj acc N hN => ?_) (fun st' g h' => q st' _ g (Nat.le_refl _) h')
  walk_at "v"
  refine ⟨rfl, ?_⟩
  walk_at "v"
  refine way (fun e1 => ?_) (fun e1 => ?_)
  · rw [if_pos (by simpa using e1)] at hN
    walk_at "v"
    exact hN
  · rw [if_neg (by simpa using e1)] at hN
    walk_at "v"
    exact hN
/-- two operands -/
theorem and_le {a b : Int} {W : Nat} (a0 : 0 ≤ a) (b0 : 0 ≤ b) (ha : a ≤ fullI (W : Int)) (hb : b ≤ fullI (W : Int)) : Builtin.bitAnd (Builtin.bitAnd a b) (fullI (W : Int)) = Builtin.bitAnd a b ∧ Builtin.bitAnd (Builtin.bitOr a b) (fullI (W : Int)) = Builtin.bitOr a b ∧ Builtin.bitAnd (Builtin.bitXor a b) (fullI (W : Int)) = Builtin.bitXor a b := by
  obtain ⟨x, rfl⟩ := nat_of a0
  obtain ⟨y, rfl⟩ := nat_of b0
  rw [fullI_N] at ha hb
  have p := fulN_lt W
  have hx : x < 2 ^ W := by omega
  have hy : y < 2 ^ W := by omega
  have key : ∀ n : Nat, n < 2 ^ W → Builtin.bitAnd (n : Int) (fullI (W : Int)) = (n : Int) := fun n hn => by
    refine mask_in (by omega) ?_
    rw [fullI_N]
    have := fulN_le hn
    omega
  rw [andN, orN, xorN']
  exact ⟨key _ (Nat.lt_of_le_of_lt Nat.and_le_left hx), key _ (Nat.or_lt_two_pow hx hy), key _ (Nat.xor_lt_two_pow hx hy)⟩
theorem op2_ok {o : Op} {W np r s : Nat} {c d : Nat → Int} (hW : W ≤ 8) (hR : R ≤ 256) (ho : two o = true) (hr : rdL st np [.ref r, .ref s]) (h1 : rdL st r (colD R c)) (h2 : rdL st s (colD R d)) (hc : ∀ j, j < R → 0 ≤ c j ∧ c j ≤ 255) (hd : ∀ j, j < R → 0 ≤ d j ∧ d j ≤ 255)
    (hcw : cmp o = false → ∀ j, j < R → c j ≤ fullI (W : Int)) (hdw : cmp o = false → shf o = false → ∀ j, j < R → d j ≤ fullI (W : Int))
    (q : ∀ st' m, Grw st st' → st.length ≤ m → rdL st' m (colD R fun j => v2 o W (c j) (d j)) → Q (.ref m) st') : callN prog (k + 2) "_law_op_column" [.str (opS o), .int (W : Int), .ref np] st Q := by
  refine call_intro rfl rfl ?_
  unfold b_l_op_column
  walk_at "v"
  refine ⟨cpow_small (by omega) (by omega), ?_⟩
  walk_at "v"
  rw [Int.toNat_natCast, ones_eq]
  refine ixr hr rfl ?_
  walk_at "v"
  cases o <;> try (cases ho; done)
  case add =>
    rw [show opS .add = Str.ofString "+" from rfl]
    walk_at "u"
    refine ixr hr rfl ?_
    walk_at "v"
    refine lz_at h1 h2 ?_
    rw [zip_col]
    have h3 := rdL_new (st := st) (xs := (List.range R).map fun k => D.tup [.int (c k), .int (d k)])
    have g3 : Grw st (st ++ [C.lst ((List.range R).map fun k => D.tup [.int (c k), .int (d k)])]) := .app (.refl _)
    generalize hst : st.length = n3 at h3 ⊢
    generalize st ++ [C.lst ((List.range R).map fun k => D.tup [.int (c k), .int (d k)])] = st3 at h3 g3 ⊢
    walk_at "u"
    refine it_at h3 ?_
    refine lc_col (fun j => D.tup [.int (c j), .int (d j)]) (fun j => v2 .add W (c j) (d j)) rfl hR (fun acc => .inl (rdL_app h3)) (fun j hj acc N hN => ?_) (fun st' g h' => q st' _ (g3.trans g) g3.le h')
    walk_at "v"
    refine ⟨rfl, ?_⟩
    walk_at "v"
    have c0 := hc j hj
    have d0 := hd j hj
    exact hN
  case sub =>
    rw [show opS .sub = Str.ofString "-" from rfl]
    walk_at "u"
    refine ixr hr rfl ?_
    walk_at "v"
    refine lz_at h1 h2 ?_
    rw [zip_col]
    have h3 := rdL_new (st := st) (xs := (List.range R).map fun k => D.tup [.int (c k), .int (d k)])
    have g3 : Grw st (st ++ [C.lst ((List.range R).map fun k => D.tup [.int (c k), .int (d k)])]) := .app (.refl _)
    generalize hst : st.length = n3 at h3 ⊢
    generalize st ++ [C.lst ((List.range R).map fun k => D.tup [.int (c k), .int (d k)])] = st3 at h3 g3 ⊢
    walk_at "u"
    refine it_at h3 ?_
    refine lc_col (fun j => D.tup [.int (c j), .int (d j)]) (fun j => v2 .sub W (c j) (d j)) rfl hR (fun acc => .inl (rdL_app h3)) (fun j hj acc N hN => ?_) (fun st' g h' => q st' _ (g3.trans g) g3.le h')
    walk_at "v"
    refine ⟨rfl, ?_⟩
    walk_at "v"
    have c0 := hc j hj
    have d0 := hd j hj
    exact hN
  case mul =>
    rw [show opS .mul = Str.ofString "*" from rfl]
    walk_at "u"
    refine ixr hr rfl ?_
    walk_at "v"
    refine lz_at h1 h2 ?_
    rw [zip_col]
    have h3 := rdL_new (st := st) (xs := (List.range R).map fun k => D.tup [.int (c k), .int (d k)])
    have g3 : Grw st (st ++ [C.lst ((List.range R).map fun k => D.tup [.int (c k), .int (d k)])]) := .app (.refl _)
    generalize hst : st.length = n3 at h3 ⊢
    generalize st ++ [C.lst ((List.range R).map fun k => D.tup [.int (c k), .int (d k)])] = st3 at h3 g3 ⊢
    walk_at "u"
    refine it_at h3 ?_
    refine lc_col (fun j => D.tup [.int (c j), .int (d j)]) (fun j => v2 .mul W (c j) (d j)) rfl hR (fun acc => .inl (rdL_app h3)) (fun j hj acc N hN => ?_) (fun st' g h' => q st' _ (g3.trans g) g3.le h')
    walk_at "v"
    refine ⟨rfl, ?_⟩
    walk_at "v"
    have c0 := hc j hj
    have d0 := hd j hj
    refine ⟨cmul_small d0.1 (by omega), ?_⟩
    walk_at "v"
    exact hN
  case and =>
    rw [show opS .and = Str.ofString "&" from rfl]
    walk_at "u"
    refine ixr hr rfl ?_
    walk_at "v"
    refine lz_at h1 h2 ?_
    rw [zip_col]
    have h3 := rdL_new (st := st) (xs := (List.range R).map fun k => D.tup [.int (c k), .int (d k)])
    have g3 : Grw st (st ++ [C.lst ((List.range R).map fun k => D.tup [.int (c k), .int (d k)])]) := .app (.refl _)
    generalize hst : st.length = n3 at h3 ⊢
    generalize st ++ [C.lst ((List.range R).map fun k => D.tup [.int (c k), .int (d k)])] = st3 at h3 g3 ⊢
    walk_at "u"
    refine it_at h3 ?_
    refine lc_col (fun j => D.tup [.int (c j), .int (d j)]) (fun j => v2 .and W (c j) (d j)) rfl hR (fun acc => .inl (rdL_app h3)) (fun j hj acc N hN => ?_) (fun st' g h' => q st' _ (g3.trans g) g3.le h')
    walk_at "v"
    refine ⟨rfl, ?_⟩
    walk_at "v"
    have c0 := hc j hj
    have d0 := hd j hj
    have e : v2 .and W (c j) (d j) = Builtin.bitAnd (c j) (d j) := (and_le c0.1 d0.1 (hcw rfl j hj) (hdw rfl rfl j hj)).1
    rw [e] at hN
    exact hN
  case or =>
    rw [show opS .or = Str.ofString "|" from rfl]
    walk_at "u"
    refine ixr hr rfl ?_
    walk_at "v"
    refine lz_at h1 h2 ?_
    rw [zip_col]
    have h3 := rdL_new (st := st) (xs := (List.range R).map fun k => D.tup [.int (c k), .int (d k)])
    have g3 : Grw st (st ++ [C.lst ((List.range R).map fun k => D.tup [.int (c k), .int (d k)])]) := .app (.refl _)
    generalize hst : st.length = n3 at h3 ⊢
    generalize st ++ [C.lst ((List.range R).map fun k => D.tup [.int (c k), .int (d k)])] = st3 at h3 g3 ⊢
    walk_at "u"
    refine it_at h3 ?_
    refine lc_col (fun j => D.tup [.int (c j), .int (d j)]) (fun j => v2 .or W (c j) (d j)) rfl hR (fun acc => .inl (rdL_app h3)) (fun j hj acc N hN => ?_) (fun st' g h' => q st' _ (g3.trans g) g3.le h')
    walk_at "v"
    refine ⟨rfl, ?_⟩
    walk_at "v"
    have c0 := hc j hj
    have d0 := hd j hj
    have e : v2 .or W (c j) (d j) = Builtin.bitOr (c j) (d j) := (and_le c0.1 d0.1 (hcw rfl j hj) (hdw rfl rfl j hj)).2.1
    rw [e] at hN
    exact hN
  case xor =>
    rw [show opS .xor = Str.ofString "^" from rfl]
    walk_at "u"
    refine ixr hr rfl ?_
    walk_at "v"
    refine lz_at h1 h2 ?_
    rw [zip_col]
    have h3 := rdL_new (st := st) (xs := (List.range R).map fun k => D.tup [.int (c k), .int (d k)])
    have g3 : Grw st (st ++ [C.lst ((List.range R).map fun k => D.tup [.int (c k), .int (d k)])]) := .app (.refl _)
    generalize hst : st.length = n3 at h3 ⊢
    generalize st ++ [C.lst ((List.range R).map fun k => D.tup [.int (c k), .int (d k)])] = st3 at h3 g3 ⊢
    walk_at "u"
    refine it_at h3 ?_
    refine lc_col (fun j => D.tup [.int (c j), .int (d j)]) (fun j => v2 .xor W (c j) (d j)) rfl hR (fun acc => .inl (rdL_app h3)) (fun j hj acc N hN => ?_) (fun st' g h' => q st' _ (g3.trans g) g3.le h')
    walk_at "v"
    refine ⟨rfl, ?_⟩
    walk_at "v"
    have c0 := hc j hj
    have d0 := hd j hj
    have e : v2 .xor W (c j) (d j) = Builtin.bitXor (c j) (d j) := (and_le c0.1 d0.1 (hcw rfl j hj) (hdw rfl rfl j hj)).2.2
    rw [e] at hN
    exact hN
  case shl =>
    rw [show opS .shl = Str.ofString "<<" from rfl]
    walk_at "u"
    refine ixr hr rfl ?_
    walk_at "v"
    refine lz_at h1 h2 ?_
    rw [zip_col]
    have h3 := rdL_new (st := st) (xs := (List.range R).map fun k => D.tup [.int (c k), .int (d k)])
    have g3 : Grw st (st ++ [C.lst ((List.range R).map fun k => D.tup [.int (c k), .int (d k)])]) := .app (.refl _)
    generalize hst : st.length = n3 at h3 ⊢
    generalize st ++ [C.lst ((List.range R).map fun k => D.tup [.int (c k), .int (d k)])] = st3 at h3 g3 ⊢
    walk_at "u"
    refine call_intro rfl rfl ?_
    unfold b_l_more_column
    walk_at "u"
    refine it_at h3 ?_
    refine lc_col (fun j => D.tup [.int (c j), .int (d j)]) (fun j => v2 .shl W (c j) (d j)) rfl hR (fun acc => .inl (rdL_app h3)) (fun j hj acc N hN => ?_) (fun st' g h' => q st' _ (g3.trans g) g3.le h')
    walk_at "v"
    refine ⟨rfl, ?_⟩
    walk_at "v"
    have c0 := hc j hj
    have d0 := hd j hj
    have e : v2 .shl W (c j) (d j) = Builtin.bitAnd (c j * 2 ^ (d j).toNat) (fullI (W : Int)) := by
      show (if (W : Int) ≤ d j then (0 : Int) else Builtin.bitAnd (c j * 2 ^ (d j).toNat) (fullI (W : Int))) = _
      by_cases h : (W : Int) ≤ d j
      · rw [if_pos h]
        obtain ⟨x, ex⟩ := nat_of c0.1
        obtain ⟨y, ey⟩ := nat_of d0.1
        rw [ex, ey, Int.toNat_natCast, shlN]
        symm
        have hw : W ≤ y := by omega
        unfold fullI
        rw [and_maskZ, Int.toNat_natCast, pow_cast, ← Int.natCast_emod]
        have : x <<< y % 2 ^ W = 0 := by
          rw [Nat.shiftLeft_eq]
          exact Nat.mod_eq_zero_of_dvd (Nat.dvd_trans (Nat.pow_dvd_pow 2 hw) (Nat.dvd_mul_left _ _))
        rw [this]; rfl
      · rw [if_neg h]
    rw [e] at hN
    refine ⟨⟨d0.1, by omega, by omega⟩, ?_⟩
    walk_at "v"
    exact hN
  case shr =>
    rw [show opS .shr = Str.ofString ">>" from rfl]
    walk_at "u"
    refine ixr hr rfl ?_
    walk_at "v"
    refine lz_at h1 h2 ?_
    rw [zip_col]
    have h3 := rdL_new (st := st) (xs := (List.range R).map fun k => D.tup [.int (c k), .int (d k)])
    have g3 : Grw st (st ++ [C.lst ((List.range R).map fun k => D.tup [.int (c k), .int (d k)])]) := .app (.refl _)
    generalize hst : st.length = n3 at h3 ⊢
    generalize st ++ [C.lst ((List.range R).map fun k => D.tup [.int (c k), .int (d k)])] = st3 at h3 g3 ⊢
    walk_at "u"
    refine call_intro rfl rfl ?_
    unfold b_l_more_column
    walk_at "u"
    refine it_at h3 ?_
    refine lc_col (fun j => D.tup [.int (c j), .int (d j)]) (fun j => v2 .shr W (c j) (d j)) rfl hR (fun acc => .inl (rdL_app h3)) (fun j hj acc N hN => ?_) (fun st' g h' => q st' _ (g3.trans g) g3.le h')
    walk_at "v"
    refine ⟨rfl, ?_⟩
    walk_at "v"
    have c0 := hc j hj
    have d0 := hd j hj
    have e : v2 .shr W (c j) (d j) = c j / 2 ^ (d j).toNat := by
      show (if (W : Int) ≤ d j then (0 : Int) else c j / 2 ^ (d j).toNat) = _
      by_cases h : (W : Int) ≤ d j
      · rw [if_pos h]
        have hcl := hcw rfl j hj
        obtain ⟨x, ex⟩ := nat_of c0.1
        obtain ⟨y, ey⟩ := nat_of d0.1
        rw [ex, fullI_N] at hcl
        have p := fulN_lt W
        rw [ex, ey, Int.toNat_natCast, shrN]
        have hw : W ≤ y := by omega
        have pw := Nat.pow_le_pow_right (n := 2) (by decide) hw
        have : x >>> y = 0 := by
          rw [Nat.shiftRight_eq_div_pow]
          exact Nat.div_eq_of_lt (by omega)
        rw [this]; rfl
      · rw [if_neg h]
    rw [e] at hN
    refine ⟨d0.1, ?_⟩
    walk_at "v"
    exact hN
  case div =>
    rw [show opS .div = Str.ofString "div" from rfl]
    walk_at "u"
    refine ixr hr rfl ?_
    walk_at "v"
    refine lz_at h1 h2 ?_
    rw [zip_col]
    have h3 := rdL_new (st := st) (xs := (List.range R).map fun k => D.tup [.int (c k), .int (d k)])
    have g3 : Grw st (st ++ [C.lst ((List.range R).map fun k => D.tup [.int (c k), .int (d k)])]) := .app (.refl _)
    generalize hst : st.length = n3 at h3 ⊢
    generalize st ++ [C.lst ((List.range R).map fun k => D.tup [.int (c k), .int (d k)])] = st3 at h3 g3 ⊢
    walk_at "u"
    refine call_intro rfl rfl ?_
    unfold b_l_more_column
    walk_at "u"
    refine it_at h3 ?_
    refine lc_col (fun j => D.tup [.int (c j), .int (d j)]) (fun j => v2 .div W (c j) (d j)) rfl hR (fun acc => .inl (rdL_app h3)) (fun j hj acc N hN => ?_) (fun st' g h' => q st' _ (g3.trans g) g3.le h')
    walk_at "v"
    refine ⟨rfl, ?_⟩
    walk_at "v"
    have c0 := hc j hj
    have d0 := hd j hj
    refine way (fun e1 => ?_) (fun e1 => ?_)
    · have e1 : 0 < d j := by simpa using e1
      have e : v2 .div W (c j) (d j) = c j / d j := if_neg (by omega)
      rw [e] at hN
      walk_at "v"
      refine ⟨⟨e1, by omega⟩, ?_⟩
      walk_at "v"
      exact hN
    · have e1 : ¬ 0 < d j := by simpa using e1
      have e : v2 .div W (c j) (d j) = 0 := if_pos (by omega)
      rw [e] at hN
      walk_at "v"
      exact hN
  case rem =>
    rw [show opS .rem = Str.ofString "rem" from rfl]
    walk_at "u"
    refine ixr hr rfl ?_
    walk_at "v"
    refine lz_at h1 h2 ?_
    rw [zip_col]
    have h3 := rdL_new (st := st) (xs := (List.range R).map fun k => D.tup [.int (c k), .int (d k)])
    have g3 : Grw st (st ++ [C.lst ((List.range R).map fun k => D.tup [.int (c k), .int (d k)])]) := .app (.refl _)
    generalize hst : st.length = n3 at h3 ⊢
    generalize st ++ [C.lst ((List.range R).map fun k => D.tup [.int (c k), .int (d k)])] = st3 at h3 g3 ⊢
    walk_at "u"
    refine call_intro rfl rfl ?_
    unfold b_l_more_column
    walk_at "u"
    refine it_at h3 ?_
    refine lc_col (fun j => D.tup [.int (c j), .int (d j)]) (fun j => v2 .rem W (c j) (d j)) rfl hR (fun acc => .inl (rdL_app h3)) (fun j hj acc N hN => ?_) (fun st' g h' => q st' _ (g3.trans g) g3.le h')
    walk_at "v"
    refine ⟨rfl, ?_⟩
    walk_at "v"
    have c0 := hc j hj
    have d0 := hd j hj
    refine way (fun e1 => ?_) (fun e1 => ?_)
    · have e1 : 0 < d j := by simpa using e1
      have e : v2 .rem W (c j) (d j) = c j - d j * (c j / d j) := if_neg (by omega)
      rw [e] at hN
      have q1 := Int.ediv_nonneg c0.1 d0.1
      have q2 := Int.ediv_le_self (d j) c0.1
      walk_at "v"
      refine ⟨⟨e1, by omega⟩, ?_⟩
      walk_at "v"
      refine ⟨cmul_small q1 (by omega), ?_⟩
      walk_at "v"
      exact hN
    · have e1 : ¬ 0 < d j := by simpa using e1
      have e : v2 .rem W (c j) (d j) = 0 := if_pos (by omega)
      rw [e] at hN
      walk_at "v"
      exact hN
  case eq =>
    rw [show opS .eq = Str.ofString "==" from rfl]
    walk_at "u"
    refine ixr hr rfl ?_
    walk_at "v"
    refine lz_at h1 h2 ?_
    rw [zip_col]
    have h3 := rdL_new (st := st) (xs := (List.range R).map fun k => D.tup [.int (c k), .int (d k)])
    have g3 : Grw st (st ++ [C.lst ((List.range R).map fun k => D.tup [.int (c k), .int (d k)])]) := .app (.refl _)
    generalize hst : st.length = n3 at h3 ⊢
    generalize st ++ [C.lst ((List.range R).map fun k => D.tup [.int (c k), .int (d k)])] = st3 at h3 g3 ⊢
    walk_at "u"
    refine call_intro rfl rfl ?_
    unfold b_l_more_column
    walk_at "u"
    refine it_at h3 ?_
    refine lc_col (fun j => D.tup [.int (c j), .int (d j)]) (fun j => v2 .eq W (c j) (d j)) rfl hR (fun acc => .inl (rdL_app h3)) (fun j hj acc N hN => ?_) (fun st' g h' => q st' _ (g3.trans g) g3.le h')
    walk_at "v"
    refine ⟨rfl, ?_⟩
    walk_at "v"
    have c0 := hc j hj
    have d0 := hd j hj
    exact hN
  case ne =>
    rw [show opS .ne = Str.ofString "!=" from rfl]
    walk_at "u"
    refine ixr hr rfl ?_
    walk_at "v"
    refine lz_at h1 h2 ?_
    rw [zip_col]
    have h3 := rdL_new (st := st) (xs := (List.range R).map fun k => D.tup [.int (c k), .int (d k)])
    have g3 : Grw st (st ++ [C.lst ((List.range R).map fun k => D.tup [.int (c k), .int (d k)])]) := .app (.refl _)
    generalize hst : st.length = n3 at h3 ⊢
    generalize st ++ [C.lst ((List.range R).map fun k => D.tup [.int (c k), .int (d k)])] = st3 at h3 g3 ⊢
    walk_at "u"
    refine call_intro rfl rfl ?_
    unfold b_l_more_column
    walk_at "u"
    refine it_at h3 ?_
    refine lc_col (fun j => D.tup [.int (c j), .int (d j)]) (fun j => v2 .ne W (c j) (d j)) rfl hR (fun acc => .inl (rdL_app h3)) (fun j hj acc N hN => ?_) (fun st' g h' => q st' _ (g3.trans g) g3.le h')
    walk_at "v"
    refine ⟨rfl, ?_⟩
    walk_at "v"
    have c0 := hc j hj
    have d0 := hd j hj
    exact hN
  case lt =>
    rw [show opS .lt = Str.ofString "<" from rfl]
    walk_at "u"
    refine ixr hr rfl ?_
    walk_at "v"
    refine lz_at h1 h2 ?_
    rw [zip_col]
    have h3 := rdL_new (st := st) (xs := (List.range R).map fun k => D.tup [.int (c k), .int (d k)])
    have g3 : Grw st (st ++ [C.lst ((List.range R).map fun k => D.tup [.int (c k), .int (d k)])]) := .app (.refl _)
    generalize hst : st.length = n3 at h3 ⊢
    generalize st ++ [C.lst ((List.range R).map fun k => D.tup [.int (c k), .int (d k)])] = st3 at h3 g3 ⊢
    walk_at "u"
    refine call_intro rfl rfl ?_
    unfold b_l_more_column
    walk_at "u"
    refine it_at h3 ?_
    refine lc_col (fun j => D.tup [.int (c j), .int (d j)]) (fun j => v2 .lt W (c j) (d j)) rfl hR (fun acc => .inl (rdL_app h3)) (fun j hj acc N hN => ?_) (fun st' g h' => q st' _ (g3.trans g) g3.le h')
    walk_at "v"
    refine ⟨rfl, ?_⟩
    walk_at "v"
    have c0 := hc j hj
    have d0 := hd j hj
    exact hN
  case le =>
    rw [show opS .le = Str.ofString "<=" from rfl]
    walk_at "u"
    refine ixr hr rfl ?_
    walk_at "v"
    refine lz_at h1 h2 ?_
    rw [zip_col]
    have h3 := rdL_new (st := st) (xs := (List.range R).map fun k => D.tup [.int (c k), .int (d k)])
    have g3 : Grw st (st ++ [C.lst ((List.range R).map fun k => D.tup [.int (c k), .int (d k)])]) := .app (.refl _)
    generalize hst : st.length = n3 at h3 ⊢
    generalize st ++ [C.lst ((List.range R).map fun k => D.tup [.int (c k), .int (d k)])] = st3 at h3 g3 ⊢
    walk_at "u"
    refine call_intro rfl rfl ?_
    unfold b_l_more_column
    walk_at "u"
    refine it_at h3 ?_
    refine lc_col (fun j => D.tup [.int (c j), .int (d j)]) (fun j => v2 .le W (c j) (d j)) rfl hR (fun acc => .inl (rdL_app h3)) (fun j hj acc N hN => ?_) (fun st' g h' => q st' _ (g3.trans g) g3.le h')
    walk_at "v"
    refine ⟨rfl, ?_⟩
    walk_at "v"
    have c0 := hc j hj
    have d0 := hd j hj
    exact hN
end
end Pk35
end PartPdk35P

section PartPdk35P2
set_option Elab.async false
set_option linter.all false
set_option maxRecDepth 100000
set_option maxHeartbeats 1000000
namespace Pk35
open PySem Pd
local macro_rules | `(tactic| walk_at "s") => `(tactic| (repeat (refine Red.red ?_)))
local macro_rules | `(tactic| walk_at "r") => `(tactic| (repeat (first | refine Red.red ?_ | refine Nxt.mk ?_)))
local macro_rules | `(tactic| walk_at "t") => `(tactic| (repeat (first | refine Red.red ?_ | refine Nxt.mk ?_ | refine ⟨by decide +kernel, by decide +kernel, wayF (by decide +kernel) ?_⟩ | refine ⟨by decide +kernel, by decide +kernel, wayT (by decide +kernel) ?_⟩ | refine ⟨by decide +kernel, ?_⟩ | refine ⟨Nat.le_of_ble_eq_true rfl, ?_⟩ | refine at_is rfl ?_)))
local instance inNewB {x : D} {xs : List D} {st : Store} {r : Bool → Prop} : Red (inC x (.ref st.length) (st ++ [.lst xs]) r) (x.flat = true ∧ xs.all D.flat = true ∧ r (xs.any fun y => D.eqb y x)) := ⟨fun h => ⟨xs, .inl (by simp [rdL]), h⟩⟩
local macro_rules | `(tactic| walk_at "w") => `(tactic| (repeat (first | refine Red.red ?_ | refine Nxt.mk ?_ | refine wayF rfl ?_ | refine wayT rfl ?_ | refine ⟨Nat.le_of_ble_eq_true rfl, ?_⟩ | refine at_is rfl ?_)))
local macro_rules | `(tactic| walk_at "v") => `(tactic| (repeat (first | refine Red.red ?_ | refine Nxt.mk ?_ | refine ⟨Nat.le_of_ble_eq_true rfl, ?_⟩ | refine at_is rfl ?_)))
local macro_rules | `(tactic| walk_at "u") => `(tactic| (repeat (first | refine Red.red ?_ | refine Nxt.mk ?_ | refine ⟨Nat.le_of_ble_eq_true rfl, ?_⟩ | refine at_is rfl ?_ | refine ⟨by decide +kernel, by decide +kernel, wayF (by decide +kernel) ?_⟩ | refine ⟨by decide +kernel, by decide +kernel, wayT (by decide +kernel) ?_⟩ | refine ⟨by decide +kernel, by decide +kernel, ?_⟩ | refine wayF (by decide +kernel) ?_ | refine wayT (by decide +kernel) ?_)))
/-! k35, second text: the words of a row; columns of leaves; what a node reaches. Own work. -/
def low (sp : List Nat) (i : Nat) : Nat := (sp.take i).sum
def wordAt (sp : List Nat) (k i : Nat) : Nat := (k >>> low sp i) % 2 ^ sp.getD i 0
def wordsOf (sp : List Nat) (k : Nat) : List Int := (List.range sp.length).map fun i => ((wordAt sp k i : Nat) : Int)
theorem words_nn (sp : List Nat) (k : Nat) : ∀ i, i ∈ wordsOf sp k → 0 ≤ i := by
  intro i hi
  obtain ⟨j, _, rfl⟩ := List.mem_map.mp hi
  omega
theorem words_at {sp : List Nat} {k i : Nat} (h : i < sp.length) : (wordsOf sp k).getD i 0 = ((wordAt sp k i : Nat) : Int) := by
  unfold wordsOf
  rw [List.getD_eq_getElem?_getD, List.getElem?_map, List.getElem?_range h]; rfl
theorem sum_cast : ∀ l : List Nat, (l.map fun n : Nat => (n : Int)).sum = ((l.sum : Nat) : Int)
  | [] => rfl
  | x :: r => by
    rw [List.map_cons, List.sum_cons, List.sum_cons, sum_cast r]; omega
theorem low_le (sp : List Nat) (i : Nat) : low sp i ≤ sp.sum := by
  have := List.take_append_drop i sp
  have h : sp.sum = (sp.take i).sum + (sp.drop i).sum := by rw [← List.sum_append, this]
  unfold low
  omega
structure SpOk (sp : List Nat) : Prop where
  one : ∀ s ∈ sp, 1 ≤ s ∧ s ≤ 8
  tot : sp.sum ≤ 8
  pos : 0 < sp.length
  len : sp.length ≤ 3
theorem iN_int (l : List Nat) : l.map iN = (l.map fun n : Nat => (n : Int)).map D.int := by rw [List.map_map]; rfl
section
variable {st : Store} {Q : K} {k ns : Nat} {sp : List Nat}
theorem room_le (S : SpOk sp) : 2 ^ sp.sum ≤ 256 := Nat.pow_le_pow_right (n := 2) (by decide) S.tot
theorem word_col {W : Nat} {v : Int} (S : SpOk sp) (hs : rdL st ns (sp.map iN)) (q : ∀ st' m, Grw st st' → st.length ≤ m → rdL st' m (colD (2 ^ sp.sum) fun _ => v) → Q (.ref m) st') : callN prog (k + 1) "_law_leaf_column" [(Nd.word (W : Int) v).dat, .ref ns] st Q := by
  refine call_intro rfl rfl ?_
  unfold b_l_leaf_column
  have hR := room_le S
  rw [show (Nd.word (W : Int) v).dat = .tup [.str (Str.ofString "word"), .int (W : Int), .int v] from rfl]
  walk_at "v"
  rw [iN_int] at hs
  refine sum_at hs ?_
  rw [sum_cast]
  walk_at "v"
  refine ⟨cpow_small (by omega) (by have := S.tot; omega), ?_⟩
  rw [Int.toNat_natCast, Int.one_mul, pow_cast]
  generalize 2 ^ sp.sum = R at *
  walk_at "u"
  refine ⟨by omega, by omega, ?_⟩
  rw [Int.toNat_natCast]
  refine lc_col n0 (fun _ => v) rfl hR (fun _ => trivial) (fun j hj acc N hN => ?_) (fun st' g h' => q st' _ g (Nat.le_refl _) h')
  rw [n0_eq]
  walk_at "v"
  exact hN
theorem mod_min (n w s : Nat) : n % 2 ^ s % 2 ^ w = n % 2 ^ min w s := by
  apply Nat.eq_of_testBit_eq
  intro k
  rw [Nat.testBit_mod_two_pow, Nat.testBit_mod_two_pow, Nat.testBit_mod_two_pow]
  by_cases h1 : k < w <;> by_cases h2 : k < s
  · rw [decide_eq_true h1, decide_eq_true h2, decide_eq_true (show k < min w s by omega)]; simp
  · rw [decide_eq_false h2, decide_eq_false (show ¬ k < min w s by omega)]; simp
  · rw [decide_eq_false h1, decide_eq_false (show ¬ k < min w s by omega)]; simp
  · rw [decide_eq_false h1, decide_eq_false (show ¬ k < min w s by omega)]; simp
theorem inp_col {W i : Nat} (S : SpOk sp) (hs : rdL st ns (sp.map iN)) (hi : i < sp.length) (hW : W ≤ 8) (q : ∀ st' m, Grw st st' → st.length ≤ m → rdL st' m (colD (2 ^ sp.sum) fun k => val (wordsOf sp k) [] (.inp (W : Int) i)) → Q (.ref m) st') : callN prog (k + 1) "_law_leaf_column" [(Nd.inp (W : Int) i).dat, .ref ns] st Q := by
  refine call_intro rfl rfl ?_
  unfold b_l_leaf_column
  have hR := room_le S
  rw [show (Nd.inp (W : Int) i).dat = .tup [.str (Str.ofString "input"), .int (W : Int), .int (i : Int)] from rfl]
  have hsi : sp[i]? = some sp[i] := List.getElem?_eq_getElem hi
  have hs1 := S.one _ (List.getElem_mem hi)
  have hlow := low_le sp i
  have htot := S.tot
  walk_at "v"
  refine sum_at (by rw [← iN_int]; exact hs) ?_
  rw [sum_cast]
  walk_at "v"
  refine ⟨cpow_small (by omega) (by omega), ?_⟩
  rw [Int.toNat_natCast, Int.one_mul, pow_cast]
  generalize 2 ^ sp.sum = R at *
  walk_at "u"
  refine len_at hs ?_
  rw [List.length_map]
  walk_at "v"
  refine wayF (decide_eq_false (by omega)) ?_
  walk_at "v"
  refine sl_at hs ?_
  rw [cut_take _ (by omega), Int.toNat_natCast]
  walk_at "v"
  refine sum_at (ns := (sp.take i).map fun n : Nat => (n : Int)) (by rw [← iN_int, List.map_take]; exact rdL_new) ?_
  rw [sum_cast]
  walk_at "v"
  refine ixr (rdL_app hs) (d := iN sp[i]) (atD_nat (by omega) (by rw [Int.toNat_natCast, List.getElem?_map, hsi]; rfl)) ?_
  unfold iN
  walk_at "v"
  have em : (if ((sp[i] : Nat) : Int) < (W : Int) then ((sp[i] : Nat) : Int) else (W : Int)) = ((min W sp[i] : Nat) : Int) := by split <;> omega
  rw [em]
  refine ⟨cpow_small (by omega) (by omega), ?_⟩
  walk_at "v"
  rw [Int.toNat_natCast, ones_eq]
  refine ⟨by omega, by omega, ?_⟩
  rw [Int.toNat_natCast]
  have g1 : Grw st (st ++ [C.lst (List.take i (List.map (fun k : Nat => D.int (k : Int)) sp))]) := .app (.refl _)
  refine lc_col n0 (fun k => val (wordsOf sp k) [] (.inp (W : Int) i)) rfl hR (fun _ => trivial) (fun j hj acc N hN => ?_) (fun st' g h' => q st' _ (g1.trans g) g1.le h')
  rw [n0_eq]
  walk_at "v"
  refine ⟨by omega, ?_⟩
  walk_at "v"
  have e : val (wordsOf sp j) [] (.inp (W : Int) i) = Builtin.bitAnd ((j : Int) / 2 ^ ((((List.take i sp).sum : Nat) : Int)).toNat) (fullI ((min W sp[i] : Nat) : Int)) := by
    show (if i < (wordsOf sp j).length then Builtin.bitAnd ((wordsOf sp j).getD i 0) (fullI (W : Int)) else 0) = _
    rw [if_pos (by unfold wordsOf; simpa using hi), words_at hi]
    unfold fullI
    rw [and_maskZ, and_maskZ, Int.toNat_natCast, Int.toNat_natCast, Int.toNat_natCast, shrN, pow_cast, pow_cast, ← Int.natCast_emod, ← Int.natCast_emod]
    unfold wordAt low
    rw [List.getD_eq_getElem?_getD, hsi]
    show (((j >>> (List.take i sp).sum) % 2 ^ sp[i] % 2 ^ W : Nat) : Int) = _
    rw [mod_min]
  rw [e] at hN
  exact hN
/-- what a leaf reaches -/
def bitsOf (sp : List Nat) (f : Nat → Nat) : Nd → Nat
  | .word _ _ => 0
  | .inp w i => (2 ^ w.toNat - 1) <<< low sp i
  | x => (Pd.parts x).foldl (fun r p => r ||| f p) 0
theorem reached_ok {x : Nd} {ws : List Int} {nr : Nat} {rs : List Nat} (S : SpOk sp) (hs : rdL st ns (sp.map iN)) (hr : rdL st nr (rs.map iN)) (G : Good ws x) (hi : ∀ w i, x = .inp w i → i < sp.length) (hp : ∀ p ∈ Pd.parts x, p < rs.length) (q : ∀ st', Grw st st' → Q (.int (bitsOf sp (fun p => rs.getD p 0) x : Nat)) st') : callN prog (k + 1) "_law_reached_bits" [x.dat, .ref ns, .ref nr] st Q := by
  refine call_intro rfl rfl ?_
  unfold b_l_reached_bits
  cases hlf : leafB x with
  | true =>
    cases x with
    | word w v =>
      rw [show (Nd.word w v).dat = .tup [.str (Str.ofString "word"), .int w, .int v] from rfl]
      walk_at "u"
      exact q _ (.refl _)
    | inp w i =>
      obtain ⟨W, rfl⟩ : ∃ W : Nat, w = W := ⟨w.toNat, by have := G.1; omega⟩
      have hlow := low_le sp i
      have htot := S.tot
      have hW := G.2.1
      rw [show (Nd.inp (W : Int) i).dat = .tup [.str (Str.ofString "input"), .int (W : Int), .int (i : Int)] from rfl]
      walk_at "u"
      refine ⟨cpow_small (by omega) (by omega), ?_⟩
      walk_at "v"
      refine sl_at hs ?_
      rw [cut_take _ (by omega), Int.toNat_natCast, Int.toNat_natCast]
      walk_at "v"
      refine sum_at (ns := (sp.take i).map fun n : Nat => (n : Int)) (by rw [← iN_int, List.map_take]; exact rdL_new) ?_
      rw [sum_cast]
      have p0 := Nat.two_pow_pos W
      have p8 : 2 ^ W ≤ 2 ^ 8 := Nat.pow_le_pow_right (by decide) (by omega)
      have e1 : ((1 : Int) * 2 ^ W - 1) = ((2 ^ W - 1 : Nat) : Int) := by rw [Int.one_mul, pow_cast]; omega
      rw [e1]
      unfold low at hlow
      walk_at "v"
      refine ⟨⟨by omega, by omega, by omega⟩, ?_⟩
      rw [Int.toNat_natCast, shlN]
      exact q _ (.app (.refl _))
    | one o w a => cases hlf
    | two o w a b => cases hlf
    | pick w c a b => cases hlf
  | false =>
    have hnw : isWord x = false := by cases x <;> first | rfl | cases hlf
    have hni : decide (nameOf x = Str.ofString "input") = false := by
      cases x with
      | word w v => cases hlf
      | inp w i => cases hlf
      | one o w a => exact (opS_w o).2.2
      | two o w a c => exact (opS_w o).2.2
      | pick w c a b => exact (opS_w .pick).2.2
    obtain ⟨s0, ps, ed, el, ep⟩ := dat_leaf x
    have etl : tailOf x = (Pd.parts x).map iN := by
      have := ep hlf
      rw [dat_eq] at ed
      injection ed with ed
      injection ed with _ ed
      injection ed with _ ed
      rw [ed, this]
      rfl
    have ec : cutD (D.str (nameOf x) :: .int x.wd :: tailOf x) (some 2) none = (Pd.parts x).map iN := by
      rw [cut_drop _ (by decide), ← etl]; rfl
    rw [dat_eq]
    walk_at "s"
    refine at_is rfl ?_
    walk_at "s"
    refine ⟨name_ok _, by decide +kernel, ?_⟩
    rw [name_word, hnw]
    walk_at "v"
    refine ⟨name_ok _, by decide +kernel, wayF hni ?_⟩
    walk_at "v"
    rw [ec]
    refine for_map (Pd.parts x) iN rfl (fun i σ st' => st' = st ∧ ∃ o4, σ = [some (.tup (D.str (nameOf x) :: .int x.wd :: tailOf x)), some (.ref ns), some (.ref nr), some (.int (((Pd.parts x).take i).foldl (fun r p => r ||| rs.getD p 0) 0 : Nat)), o4]) ⟨rfl, none, rfl⟩ (fun i p σ st' hx ⟨e1, o4, e⟩ N hN => ?_) (fun σ st' ⟨e1, o4, e⟩ => ?_)
    · subst e1; subst e
      refine ⟨trivial, ?_⟩
      have hpl := hp p (List.mem_of_getElem? hx)
      unfold iN
      walk_at "v"
      refine ixr hr (d := iN (rs.getD p 0)) (atD_nat (by omega) (by rw [Int.toNat_natCast, List.getElem?_map, List.getD_eq_getElem?_getD, List.getElem?_eq_getElem hpl]; rfl)) ?_
      unfold iN
      walk_at "v"
      rw [orN]
      refine hN _ _ ⟨rfl, some (.int (p : Int)), ?_⟩
      rw [List.take_add_one, hx, List.foldl_append]
      rfl
    · subst e1; subst e
      refine ⟨trivial, ?_⟩
      walk_at "v"
      rw [List.take_length]
      have eb : bitsOf sp (fun p => rs.getD p 0) x = (Pd.parts x).foldl (fun r p => r ||| rs.getD p 0) 0 := by cases x <;> first | rfl | cases hlf
      rw [← eb]
      exact q _ (.refl _)
end
end Pk35
end PartPdk35P2

section PartPdk35P3
set_option Elab.async false
set_option linter.all false
set_option maxRecDepth 100000
set_option maxHeartbeats 1000000
namespace Pk35
open PySem Pd
local macro_rules | `(tactic| walk_at "s") => `(tactic| (repeat (refine Red.red ?_)))
local macro_rules | `(tactic| walk_at "r") => `(tactic| (repeat (first | refine Red.red ?_ | refine Nxt.mk ?_)))
local macro_rules | `(tactic| walk_at "t") => `(tactic| (repeat (first | refine Red.red ?_ | refine Nxt.mk ?_ | refine ⟨by decide +kernel, by decide +kernel, wayF (by decide +kernel) ?_⟩ | refine ⟨by decide +kernel, by decide +kernel, wayT (by decide +kernel) ?_⟩ | refine ⟨by decide +kernel, ?_⟩ | refine ⟨Nat.le_of_ble_eq_true rfl, ?_⟩ | refine at_is rfl ?_)))
local instance inNewC {x : D} {xs : List D} {st : Store} {r : Bool → Prop} : Red (inC x (.ref st.length) (st ++ [.lst xs]) r) (x.flat = true ∧ xs.all D.flat = true ∧ r (xs.any fun y => D.eqb y x)) := ⟨fun h => ⟨xs, .inl (by simp [rdL]), h⟩⟩
local macro_rules | `(tactic| walk_at "w") => `(tactic| (repeat (first | refine Red.red ?_ | refine Nxt.mk ?_ | refine wayF rfl ?_ | refine wayT rfl ?_ | refine ⟨Nat.le_of_ble_eq_true rfl, ?_⟩ | refine at_is rfl ?_)))
local macro_rules | `(tactic| walk_at "v") => `(tactic| (repeat (first | refine Red.red ?_ | refine Nxt.mk ?_ | refine ⟨Nat.le_of_ble_eq_true rfl, ?_⟩ | refine at_is rfl ?_)))
local macro_rules | `(tactic| walk_at "u") => `(tactic| (repeat (first | refine Red.red ?_ | refine Nxt.mk ?_ | refine ⟨Nat.le_of_ble_eq_true rfl, ?_⟩ | refine at_is rfl ?_ | refine ⟨by decide +kernel, by decide +kernel, wayF (by decide +kernel) ?_⟩ | refine ⟨by decide +kernel, by decide +kernel, wayT (by decide +kernel) ?_⟩ | refine ⟨by decide +kernel, by decide +kernel, ?_⟩ | refine wayF (by decide +kernel) ?_ | refine wayT (by decide +kernel) ?_)))
/-! k35, third text: a node's column. Own work. -/
theorem name_leaf (x : Nd) : ([D.str (Str.ofString "word"), D.str (Str.ofString "input")].any fun y => D.eqb y (.str (nameOf x))) = leafB x := by
  cases x with
  | word w v => exact leaf_word
  | inp w i => exact leaf_inp
  | one o w a => exact leaf_op o
  | two o w a b => exact leaf_op o
  | pick w c a b => exact leaf_op .pick
theorem wd_nat {x : Nd} {ws : List Int} (G : Good ws x) : ∃ W : Nat, x.wd = W ∧ 1 ≤ W ∧ W ≤ 8 := by
  cases x with
  | word w v => exact ⟨w.toNat, show w = _ by have := G.1; omega, by have := G.1; omega, by have := G.2.1; omega⟩
  | inp w v => exact ⟨w.toNat, show w = _ by have := G.1; omega, by have := G.1; omega, by have := G.2.1; omega⟩
  | one o w v => exact ⟨w.toNat, show w = _ by have := G.1; omega, by have := G.1; omega, by have := G.2.1; omega⟩
  | two o w v b => exact ⟨w.toNat, show w = _ by have := G.1; omega, by have := G.1; omega, by have := G.2.1; omega⟩
  | pick w v a b => exact ⟨w.toNat, show w = _ by have := G.1; omega, by have := G.1; omega, by have := G.2.1; omega⟩
section
variable {st : Store} {Q : K} {k nsp : Nat} {sp : List Nat}
/-- the values of a term in each row -/
def valAt (sp : List Nat) (ns : List Nd) (j : Nat) (k : Nat) : Int := (vals (wordsOf sp k) ns).getD j 0
theorem val_bd {ns : List Nd} (S : Sheet ns) {j : Nat} (hj : j < ns.length) (k : Nat) : 0 ≤ valAt sp ns j k ∧ valAt sp ns j k ≤ fullI (ns[j]).wd ∧ valAt sp ns j k ≤ 255 := by
  obtain ⟨v, e, h0, h1⟩ := fits_all (wordsOf sp k) (words_nn sp k) S j _ (has_wd hj)
  have hw := S.wid j _ (has_wd hj)
  have fb := fullI_bd (w := (ns[j]).wd) (by omega) hw.2
  unfold valAt
  rw [List.getD_eq_getElem?_getD, e]
  exact ⟨h0, h1, Int.le_trans h1 (by show fullI _ ≤ 255; omega)⟩
theorem node_column_ok {ns : List Nd} {j nc : Nat} {x : Nd} {rs : List Nat} (P : SpOk sp) (S : Sheet ns) (hx : ns[j]? = some x) (hi : ∀ w i, x = .inp w i → i < sp.length) (hs : rdL st nsp (sp.map iN)) (hc : rdL st nc (rs.map D.ref)) (hcols : ∀ p, p < j → ∃ r, rs[p]? = some r ∧ rdL st r (colD (2 ^ sp.sum) (valAt sp ns p)))
    (q : ∀ st' m, Grw st st' → st.length ≤ m → rdL st' m (colD (2 ^ sp.sum) (valAt sp ns j)) → Q (.ref m) st') : callN prog (k + 3) "_law_node_column" [x.dat, .ref nsp, .ref nc] st Q := by
  refine call_intro rfl rfl ?_
  unfold b_l_node_column
  have hjn := (List.getElem?_eq_some_iff.mp hx).1
  obtain ⟨S', G⟩ := S.pre hx
  obtain ⟨W, hW, W1, W8⟩ := wd_nat G
  have hR := room_le P
  have hv : ∀ k, valAt sp ns j k = val (wordsOf sp k) (vals (wordsOf sp k) (ns.take j)) x := fun k => valsN_at S hx
  have hpv : ∀ p, p < j → ∀ k, (vals (wordsOf sp k) (ns.take j)).getD p 0 = valAt sp ns p k := fun p hp k => vals_lt S hp
  rw [dat_eq]
  walk_at "v"
  refine ⟨by rw [show (D.str (nameOf x)).flat = true from rfl], by rfl, ?_⟩
  rw [name_leaf]
  walk_at "v"
  have g1 : Grw st (st ++ [C.lst [D.str (Str.ofString "word"), D.str (Str.ofString "input")]]) := .app (.refl _)
  refine way (fun hlf => ?_) (fun hlf => ?_)
  · walk_at "v"
    rw [← dat_eq]
    cases x with
    | word w v =>
      have hW : w = W := hW
      subst hW
      refine word_col (k := k + 1) P (g1.rd hs) (fun st' m g hm h => q st' m (g1.trans g) (Nat.le_trans g1.le hm) ?_)
      have e : valAt sp ns j = fun _ => v := by funext k; rw [hv k]; rfl
      rw [e]; exact h
    | inp w i =>
      have hW : w = W := hW
      subst hW
      refine inp_col (k := k + 1) P (g1.rd hs) (hi _ _ rfl) W8 (fun st' m g hm h => q st' m (g1.trans g) (Nat.le_trans g1.le hm) ?_)
      have e : valAt sp ns j = fun k => val (wordsOf sp k) [] (.inp (W : Int) i) := by funext k; rw [hv k]; rfl
      rw [e]; exact h
    | one o w a => cases hlf
    | two o w a b => cases hlf
    | pick w c a b => cases hlf
  · obtain ⟨s0, ps, ed, el, ep⟩ := dat_leaf x
    have etl : tailOf x = (Pd.parts x).map iN := by
      have := ep hlf
      rw [dat_eq] at ed
      injection ed with ed
      injection ed with _ ed
      injection ed with _ ed
      rw [ed, this]
      rfl
    have ec : cutD (D.str (nameOf x) :: .int x.wd :: tailOf x) (some 2) none = (Pd.parts x).map iN := by
      rw [cut_drop _ (by decide), ← etl]; rfl
    have hpr : ∀ p ∈ Pd.parts x, p < j ∧ rdL st (rs.getD p 0) (colD (2 ^ sp.sum) (valAt sp ns p)) ∧ (rs.map D.ref)[p]? = some (.ref (rs.getD p 0)) := fun p hp => by
      have hpj := S.part_lt hx p hp
      obtain ⟨r, h1, h2⟩ := hcols p hpj
      refine ⟨hpj, by rw [List.getD_eq_getElem?_getD, h1]; exact h2, ?_⟩
      rw [List.getElem?_map, List.getD_eq_getElem?_getD, h1]; rfl
    walk_at "v"
    rw [ec]
    refine lc_partsT (h := fun p => .ref (rs.getD p 0)) (Pd.parts x) (parts_le _) (fun _ => trivial) (fun p hpp acc N' hN' => ?_) ?_
    · walk_at "v"
      exact ixr (rdL_app (g1.rd hc)) (atD_nat (by omega) (by rw [Int.toNat_natCast]; exact (hpr p hpp).2.2)) hN'
    · have h3 := rdL_new (st := st ++ [C.lst [D.str (Str.ofString "word"), D.str (Str.ofString "input")]]) (xs := (Pd.parts x).map fun p => D.ref (rs.getD p 0))
      have g3 : Grw st ((st ++ [C.lst [D.str (Str.ofString "word"), D.str (Str.ofString "input")]]) ++ [C.lst ((Pd.parts x).map fun p => D.ref (rs.getD p 0))]) := g1.app
      walk_at "v"
      rw [hW]
      generalize (st ++ [C.lst [D.str (Str.ofString "word"), D.str (Str.ofString "input")]]).length = n3 at h3 ⊢
      generalize (st ++ [C.lst [D.str (Str.ofString "word"), D.str (Str.ofString "input")]]) ++ [C.lst ((Pd.parts x).map fun p => D.ref (rs.getD p 0))] = st3 at h3 g3 ⊢
      have bd : ∀ p, p < j → ∀ k, 0 ≤ valAt sp ns p k ∧ valAt sp ns p k ≤ 255 := fun p hp k => ⟨(val_bd S (by omega) k).1, (val_bd S (by omega) k).2.2⟩
      cases x with
      | word w v => cases hlf
      | inp w i => cases hlf
      | one o w a =>
        have hW : w = W := hW
        subst hW
        have ha := hpr a (by simp [Pd.parts])
        refine op1_ok (k := k) (o := o) W8 hR G.2.2.1 h3 (g3.rd ha.2.1) (fun i _ => bd a ha.1 i) (fun st' m g hm h => q st' m (g3.trans g) (Nat.le_trans g3.le hm) ?_)
        have e : valAt sp ns j = fun k => v1 o (W : Int) (valAt sp ns a k) := by funext k; rw [hv k, ← hpv a ha.1 k]; rfl
        rw [e]; exact h
      | two o w a b =>
        have hW : w = W := hW
        subst hW
        have ha := hpr a (by simp [Pd.parts])
        have hb := hpr b (by simp [Pd.parts])
        obtain ⟨w0, w1, ho, u, v, ga, gb, c1, c2, c3⟩ := G
        have up : ∀ {p : Nat} {z : Int}, p < j → Has ((ns.take j).map Nd.wd) p z → ∀ k, valAt sp ns p k ≤ fullI z := fun hp hz k => by
          have h1 := Has.at_take hp (show _ < ns.length by omega)
          unfold Has at h1 hz
          rw [h1] at hz
          injection hz with hz
          rw [← hz]
          exact (val_bd S (by omega) k).2.1
        refine op2_ok (k := k) (o := o) W8 hR ho h3 (g3.rd ha.2.1) (g3.rd hb.2.1) (fun i _ => bd a ha.1 i) (fun i _ => bd b hb.1 i) (fun h i _ => by rw [← c2 h]; exact up ha.1 ga i) (fun h h' i _ => by rw [← c3 h h']; exact up hb.1 gb i) (fun st' m g hm h => q st' m (g3.trans g) (Nat.le_trans g3.le hm) ?_)
        have e : valAt sp ns j = fun k => v2 o (W : Int) (valAt sp ns a k) (valAt sp ns b k) := by funext k; rw [hv k, ← hpv a ha.1 k, ← hpv b hb.1 k]; rfl
        rw [e]; exact h
      | pick w c a b =>
        have hW : w = W := hW
        subst hW
        have hcc := hpr c (by simp [Pd.parts])
        have ha := hpr a (by simp [Pd.parts])
        have hb := hpr b (by simp [Pd.parts])
        refine op3_ok (k := k) W8 hR h3 (g3.rd hcc.2.1) (g3.rd ha.2.1) (g3.rd hb.2.1) (fun st' m g hm h => q st' m (g3.trans g) (Nat.le_trans g3.le hm) ?_)
        have e : valAt sp ns j = fun k => if valAt sp ns c k = 1 then valAt sp ns a k else valAt sp ns b k := by funext k; rw [hv k, ← hpv c hcc.1 k, ← hpv a ha.1 k, ← hpv b hb.1 k]; rfl
        rw [e]; exact h
end
end Pk35
end PartPdk35P3

section PartPdk35P4
set_option Elab.async false
set_option linter.all false
set_option maxRecDepth 100000
set_option maxHeartbeats 1000000
namespace Pk35
open PySem Pd
local macro_rules | `(tactic| walk_at "s") => `(tactic| (repeat (refine Red.red ?_)))
local macro_rules | `(tactic| walk_at "r") => `(tactic| (repeat (first | refine Red.red ?_ | refine Nxt.mk ?_)))
local macro_rules | `(tactic| walk_at "t") => `(tactic| (repeat (first | refine Red.red ?_ | refine Nxt.mk ?_ | refine ⟨by decide +kernel, by decide +kernel, wayF (by decide +kernel) ?_⟩ | refine ⟨by decide +kernel, by decide +kernel, wayT (by decide +kernel) ?_⟩ | refine ⟨by decide +kernel, ?_⟩ | refine at_is rfl ?_)))
local instance inNewD {x : D} {xs : List D} {st : Store} {r : Bool → Prop} : Red (inC x (.ref st.length) (st ++ [.lst xs]) r) (x.flat = true ∧ xs.all D.flat = true ∧ r (xs.any fun y => D.eqb y x)) := ⟨fun h => ⟨xs, .inl (by simp [rdL]), h⟩⟩
local macro_rules | `(tactic| walk_at "w") => `(tactic| (repeat (first | refine Red.red ?_ | refine Nxt.mk ?_ | refine wayF rfl ?_ | refine wayT rfl ?_ | refine ⟨Nat.le_of_ble_eq_true rfl, ?_⟩ | refine at_is rfl ?_)))
local macro_rules | `(tactic| walk_at "v") => `(tactic| (repeat (first | refine Red.red ?_ | refine Nxt.mk ?_ | refine ⟨Nat.le_of_ble_eq_true rfl, ?_⟩ | refine at_is rfl ?_)))
local macro_rules | `(tactic| walk_at "u") => `(tactic| (repeat (first | refine Red.red ?_ | refine Nxt.mk ?_ | refine ⟨Nat.le_of_ble_eq_true rfl, ?_⟩ | refine at_is rfl ?_ | refine ⟨by decide +kernel, by decide +kernel, wayF (by decide +kernel) ?_⟩ | refine ⟨by decide +kernel, by decide +kernel, wayT (by decide +kernel) ?_⟩ | refine ⟨by decide +kernel, by decide +kernel, ?_⟩ | refine wayF (by decide +kernel) ?_ | refine wayT (by decide +kernel) ?_)))

/-! k35, fourth text: a node as drawn (as k34's). Own work. -/
theorem drawM {m : Nat} {st : Store} {Q : K} (hm : 1 ≤ m) {many : Int} (h : DrawAt st) (h0 : 0 < many) (h1 : many < 1073741824) (q : ∀ r st', 0 ≤ r → r < many → Fra st st' → Q (.int r) st') : callN prog m "_law_draw" [.ref 2, .int many] st Q := by
  obtain ⟨m, rfl⟩ : ∃ n, m = n + 1 := ⟨m - 1, by omega⟩
  exact draw_ok rfl h h0 h1 fun r st' r0 r1 f _ => q r st' r0 r1 f
theorem pickF {α : Type} {f : α → D} {xs : List α} {m n : Nat} {st : Store} {Q : K} (hm : 2 ≤ m) (hd : DrawAt st) (h : rdL st n (xs.map f)) (hn : n ≠ 2) (h0 : 0 < xs.length) (h1 : xs.length ≤ 1000) (q : ∀ x st', x ∈ xs → Fra st st' → Q (f x) st') : callN prog m "_law_pick" [.ref 2, .ref n] st Q := by
  obtain ⟨m, rfl⟩ : ∃ n, m = n + 2 := ⟨m - 2, by omega⟩
  refine pick_ok rfl rfl hd h hn (by simpa using h0) (by simp; omega) fun x st' hx f _ => ?_
  obtain ⟨a, ha, rfl⟩ := List.mem_map.mp hx
  exact q a st' ha f
theorem seq_J {S S' : TS} {D0 : Ends} {σ : Pd.Env} {st : Store} (J : Pd.Env → Store → Prop) (h : ∀ N : Pd.Env → Store → Prop, (∀ σ' st', J σ' st' → N σ' st') → S { D0 with nx := N } σ st) (hJ : ∀ σ' st', J σ' st' → S' D0 σ' st') : sSeq S S' D0 σ st :=
  h _ fun σ' st' e => Nxt.mk (hJ σ' st' e)
def ops : List Op := [.add, .sub, .mul, .and, .or, .xor, .shl, .shr, .div, .rem, .eq, .ne, .lt, .le, .not, .neg, .wide, .pick]
theorem ops_ok {m : Nat} {st : Store} {Q : K} (hm : 1 ≤ m) (q : Q (.ref st.length) (st ++ [.lst (ops.map fun o => .str (opS o))])) : callN prog m "_law_ops" [] st Q := by
  obtain ⟨k, rfl⟩ : ∃ n, m = n + 1 := ⟨m - 1, by omega⟩
  refine call_intro rfl rfl ?_
  unfold b_l_ops
  walk_at "s"
  refine ⟨Nat.le_of_ble_eq_true rfl, ?_⟩
  exact q
theorem tru_ref {st : Store} {n : Nat} {xs : List D} {r : Bool → Prop} (h : rdL st n xs) (q : r (!xs.isEmpty)) : truK (.ref n) st r := ⟨xs, .inl h, q⟩
def CmpW (ws : List Int) (x : Nd) : Prop := ∀ o w a b, x = .two o w a b → cmp o = true → ∃ u, Has ws a u ∧ Has ws b u
theorem node_ok {m n : Nat} {st : Store} {Q : K} {ns : List Nd} (hm : 3 ≤ m) (hd : DrawAt st) (h : rdL st n (ns.map Nd.dat)) (hn : 2 < n) (S : Sheet ns) (h0 : 0 < ns.length) (hl : ns.length ≤ 200) (q0 : ∀ x st', Good (ns.map Nd.wd) x → CmpW (ns.map Nd.wd) x → Fra st st' → leafB x = false → Q x.dat st') : callN prog m "_law_node_drawn" [.ref 2, .ref n] st Q := by
  obtain ⟨k, rfl⟩ : ∃ n, m = n + 3 := ⟨m - 3, by omega⟩
  have q : ∀ x st', Good (ns.map Nd.wd) x → (∀ o w a b, x = .two o w a b → cmp o = false) → Fra st st' → leafB x = false → Q x.dat st' := fun x st' g h f hl => q0 x st' g (fun o w a b e hc => by rw [h o w a b e] at hc; cases hc) f hl
  refine call_intro rfl rfl ?_
  unfold b_l_node_drawn
  walk_at "s"
  refine len_at h ?_
  rw [List.length_map]
  walk_at "s"
  refine Nxt.mk ?_
  refine seq_J (fun σ st' => ∃ near : Int, 1 ≤ near ∧ near ≤ ns.length ∧ Fra st st' ∧ σ = [some (.ref 2), some (.ref n), some (.int near), none, none, none, none, none, none, none]) (fun N hN => ?_) (fun σ st1 ⟨near, n1, n2, f1, e⟩ => ?_)
  · walk_at "s"
    refine drawM (by omega) hd (by omega) (by omega) (fun r st1 ra rb f => ?_)
    walk_at "s"
    refine way (fun e => ?_) (fun e => ?_)
    · walk_at "r"
      refine hN _ _ ⟨_, ?_, ?_, f, rfl⟩ <;> split <;> omega
    · walk_at "r"
      exact hN _ _ ⟨_, by omega, by omega, f, rfl⟩
  subst e
  walk_at "s"
  refine len_at (f1.rd h (by omega)) ?_
  rw [List.length_map]
  walk_at "s"
  refine drawM (by omega) f1.dr (by omega) (by omega) (fun r st2 ra rb f2 => ?_)
  walk_at "r"
  obtain ⟨a, ea⟩ : ∃ a : Nat, (ns.length : Int) - 1 - r = a := ⟨((ns.length : Int) - 1 - r).toNat, by omega⟩
  have ha : a < ns.length := by omega
  rw [ea]
  have f3 := f1.trans f2
  have h2 := f3.rd h (by omega)
  refine ix_ref h2 (at_nd ha) ?_
  walk_at "r"
  refine wd_at ?_
  walk_at "r"
  refine len_at h2 ?_
  rw [List.length_map]
  refine ⟨_, rfl, by omega, by omega, ?_⟩
  refine lc_mates (ns[a]).wd hl (fun i hi acc N M hN hM => ?_) ?_
  · rw [n0_eq] at hN ⊢
    walk_at "s"
    refine ix_ref (rdL_app h2) (at_nd hi) ?_
    walk_at "s"
    refine wd_at ?_
    walk_at "s"
    exact ⟨fun e => by walk_at "s"; exact hN e, fun e => hM e⟩
  have f4 := f3.app (c := C.lst ((mates ns (ns[a]).wd).map n0))
  have hm1 := rdL_new (st := st2) (xs := (mates ns (ns[a]).wd).map n0)
  generalize st2 ++ [C.lst ((mates ns (ns[a]).wd).map n0)] = st3 at f4 hm1 ⊢
  have h3 := f4.rd h (by omega)
  have l3 := f3.dr.lt
  walk_at "r"
  refine len_at h3 ?_
  rw [List.length_map]
  refine ⟨_, rfl, by omega, by omega, ?_⟩
  refine lc_mates 1 hl (fun i hi acc N M hN hM => ?_) ?_
  · rw [n0_eq] at hN ⊢
    walk_at "s"
    refine ix_ref (rdL_app h3) (at_nd hi) ?_
    walk_at "s"
    refine wd_at ?_
    walk_at "s"
    exact ⟨fun e => by walk_at "s"; exact hN e, fun e => hM e⟩
  have f5 := f4.app (c := C.lst ((mates ns 1).map n0))
  have hm2 := rdL_app (c := C.lst ((mates ns 1).map n0)) hm1
  have hb2 := rdL_new (st := st3) (xs := (mates ns 1).map n0)
  have l4 := f4.dr.lt
  generalize st3 ++ [C.lst ((mates ns 1).map n0)] = st4 at f5 hm2 hb2 ⊢
  walk_at "r"
  refine ops_ok (by omega) ?_
  walk_at "s"
  refine pickF (f := fun o => D.str (opS o)) (xs := ops) (by omega) (f5.dr.app) rdL_new (by have := f5.dr.lt; omega) (by decide) (by decide) (fun o st5 ho f6 => ?_)
  have f7 := f5.app.trans f6
  have hm3 := f6.rd (rdL_app hm2) (by omega)
  have hb3 := f6.rd (rdL_app hb2) (by omega)
  have h5 := f7.rd h (by omega)
  have hw := S.wid a _ (has_wd ha)
  have tn : ∀ {b : Int}, 0 ≤ b → b < ns.length → ∃ c : Nat, b = c ∧ c < ns.length := fun {b} b0 b1 => ⟨b.toNat, by omega, by omega⟩
  have mw : ∀ {i : Nat}, i ∈ mates ns (ns[a]).wd → Has (ns.map Nd.wd) i (ns[a]).wd := fun hi => (mate_has hi).2
  have ml : ∀ w, (mates ns w).length ≤ 1000 := fun w => by
    have := List.length_filter_le (fun i => decide (((ns[i]?).map Nd.wd).getD 0 = w)) (List.range ns.length)
    rw [List.length_range] at this
    unfold mates
    omega
  have mp : 0 < (mates ns (ns[a]).wd).length := List.length_pos_of_mem (self_mate ha)
  cases o
  case not =>
    unfold opS; walk_at "t"
    refine ⟨Nat.le_of_ble_eq_true rfl, ?_⟩
    exact q (.one .not _ a) _ ⟨hw.1, hw.2, rfl, _, has_wd ha, fun _ => rfl⟩ (fun _ _ _ _ e => by cases e <;> rfl) f7.app rfl
  case neg =>
    unfold opS; walk_at "t"
    refine ⟨Nat.le_of_ble_eq_true rfl, ?_⟩
    exact q (.one .neg _ a) _ ⟨hw.1, hw.2, rfl, _, has_wd ha, fun _ => rfl⟩ (fun _ _ _ _ e => by cases e <;> rfl) f7.app rfl
  case wide =>
    unfold opS; walk_at "t"
    refine drawM (by omega) (f7.app).dr (by omega) (by omega) (fun r9 st9 r9a r9b f9 => ?_)
    walk_at "t"
    refine ⟨Nat.le_of_ble_eq_true rfl, ?_⟩
    exact q (.one .wide _ a) _ ⟨by show 1 ≤ 1 + r9; omega, by show 1 + r9 ≤ 8; omega, rfl, _, has_wd ha, fun hh => absurd rfl hh⟩ (fun _ _ _ _ e => by cases e <;> rfl) ((f7.app).trans f9) rfl
  case shl =>
    unfold opS; walk_at "t"
    refine len_at (rdL_app (rdL_app h5)) ?_
    rw [List.length_map]
    walk_at "t"
    refine drawM (by omega) (f7.app.app).dr (by omega) (by omega) (fun r9 st9 r9a r9b f9 => ?_)
    walk_at "t"
    obtain ⟨b, eb, hb⟩ := tn r9a r9b
    subst eb
    refine ⟨Nat.le_of_ble_eq_true rfl, ?_⟩
    exact q (.two .shl _ a b) _ ⟨hw.1, hw.2, rfl, _, _, has_wd ha, has_wd hb, fun h => (by cases h), fun _ => rfl, fun _ h => (by cases h)⟩ (fun _ _ _ _ e => by cases e <;> rfl) ((f7.app.app).trans f9) rfl
  case shr =>
    unfold opS; walk_at "t"
    refine len_at (rdL_app (rdL_app h5)) ?_
    rw [List.length_map]
    walk_at "t"
    refine drawM (by omega) (f7.app.app).dr (by omega) (by omega) (fun r9 st9 r9a r9b f9 => ?_)
    walk_at "t"
    obtain ⟨b, eb, hb⟩ := tn r9a r9b
    subst eb
    refine ⟨Nat.le_of_ble_eq_true rfl, ?_⟩
    exact q (.two .shr _ a b) _ ⟨hw.1, hw.2, rfl, _, _, has_wd ha, has_wd hb, fun h => (by cases h), fun _ => rfl, fun _ h => (by cases h)⟩ (fun _ _ _ _ e => by cases e <;> rfl) ((f7.app.app).trans f9) rfl
  case add =>
    unfold opS; walk_at "t"
    refine pickF (n := st2.length) (f := n0) (xs := mates ns (ns[a]).wd) (by omega) (f7.app.app).dr (rdL_app (rdL_app hm3)) (by omega) mp (ml _) (fun b st9 hb f9 => ?_)
    rw [n0_eq]
    walk_at "t"
    refine ⟨Nat.le_of_ble_eq_true rfl, ?_⟩
    exact q (.two .add _ a b) _ ⟨hw.1, hw.2, rfl, _, _, has_wd ha, mw hb, fun h => (by cases h), fun _ => rfl, fun _ _ => rfl⟩ (fun _ _ _ _ e => by cases e <;> rfl) ((f7.app.app.trans f9).app) rfl
  case sub =>
    unfold opS; walk_at "t"
    refine pickF (n := st2.length) (f := n0) (xs := mates ns (ns[a]).wd) (by omega) (f7.app.app).dr (rdL_app (rdL_app hm3)) (by omega) mp (ml _) (fun b st9 hb f9 => ?_)
    rw [n0_eq]
    walk_at "t"
    refine ⟨Nat.le_of_ble_eq_true rfl, ?_⟩
    exact q (.two .sub _ a b) _ ⟨hw.1, hw.2, rfl, _, _, has_wd ha, mw hb, fun h => (by cases h), fun _ => rfl, fun _ _ => rfl⟩ (fun _ _ _ _ e => by cases e <;> rfl) ((f7.app.app.trans f9).app) rfl
  case mul =>
    unfold opS; walk_at "t"
    refine pickF (n := st2.length) (f := n0) (xs := mates ns (ns[a]).wd) (by omega) (f7.app.app).dr (rdL_app (rdL_app hm3)) (by omega) mp (ml _) (fun b st9 hb f9 => ?_)
    rw [n0_eq]
    walk_at "t"
    refine ⟨Nat.le_of_ble_eq_true rfl, ?_⟩
    exact q (.two .mul _ a b) _ ⟨hw.1, hw.2, rfl, _, _, has_wd ha, mw hb, fun h => (by cases h), fun _ => rfl, fun _ _ => rfl⟩ (fun _ _ _ _ e => by cases e <;> rfl) ((f7.app.app.trans f9).app) rfl
  case and =>
    unfold opS; walk_at "t"
    refine pickF (n := st2.length) (f := n0) (xs := mates ns (ns[a]).wd) (by omega) (f7.app.app).dr (rdL_app (rdL_app hm3)) (by omega) mp (ml _) (fun b st9 hb f9 => ?_)
    rw [n0_eq]
    walk_at "t"
    refine ⟨Nat.le_of_ble_eq_true rfl, ?_⟩
    exact q (.two .and _ a b) _ ⟨hw.1, hw.2, rfl, _, _, has_wd ha, mw hb, fun h => (by cases h), fun _ => rfl, fun _ _ => rfl⟩ (fun _ _ _ _ e => by cases e <;> rfl) ((f7.app.app.trans f9).app) rfl
  case or =>
    unfold opS; walk_at "t"
    refine pickF (n := st2.length) (f := n0) (xs := mates ns (ns[a]).wd) (by omega) (f7.app.app).dr (rdL_app (rdL_app hm3)) (by omega) mp (ml _) (fun b st9 hb f9 => ?_)
    rw [n0_eq]
    walk_at "t"
    refine ⟨Nat.le_of_ble_eq_true rfl, ?_⟩
    exact q (.two .or _ a b) _ ⟨hw.1, hw.2, rfl, _, _, has_wd ha, mw hb, fun h => (by cases h), fun _ => rfl, fun _ _ => rfl⟩ (fun _ _ _ _ e => by cases e <;> rfl) ((f7.app.app.trans f9).app) rfl
  case xor =>
    unfold opS; walk_at "t"
    refine pickF (n := st2.length) (f := n0) (xs := mates ns (ns[a]).wd) (by omega) (f7.app.app).dr (rdL_app (rdL_app hm3)) (by omega) mp (ml _) (fun b st9 hb f9 => ?_)
    rw [n0_eq]
    walk_at "t"
    refine ⟨Nat.le_of_ble_eq_true rfl, ?_⟩
    exact q (.two .xor _ a b) _ ⟨hw.1, hw.2, rfl, _, _, has_wd ha, mw hb, fun h => (by cases h), fun _ => rfl, fun _ _ => rfl⟩ (fun _ _ _ _ e => by cases e <;> rfl) ((f7.app.app.trans f9).app) rfl
  case div =>
    unfold opS; walk_at "t"
    refine pickF (n := st2.length) (f := n0) (xs := mates ns (ns[a]).wd) (by omega) (f7.app.app).dr (rdL_app (rdL_app hm3)) (by omega) mp (ml _) (fun b st9 hb f9 => ?_)
    rw [n0_eq]
    walk_at "t"
    refine ⟨Nat.le_of_ble_eq_true rfl, ?_⟩
    exact q (.two .div _ a b) _ ⟨hw.1, hw.2, rfl, _, _, has_wd ha, mw hb, fun h => (by cases h), fun _ => rfl, fun _ _ => rfl⟩ (fun _ _ _ _ e => by cases e <;> rfl) ((f7.app.app.trans f9).app) rfl
  case rem =>
    unfold opS; walk_at "t"
    refine pickF (n := st2.length) (f := n0) (xs := mates ns (ns[a]).wd) (by omega) (f7.app.app).dr (rdL_app (rdL_app hm3)) (by omega) mp (ml _) (fun b st9 hb f9 => ?_)
    rw [n0_eq]
    walk_at "t"
    refine ⟨Nat.le_of_ble_eq_true rfl, ?_⟩
    exact q (.two .rem _ a b) _ ⟨hw.1, hw.2, rfl, _, _, has_wd ha, mw hb, fun h => (by cases h), fun _ => rfl, fun _ _ => rfl⟩ (fun _ _ _ _ e => by cases e <;> rfl) ((f7.app.app.trans f9).app) rfl
  case eq =>
    unfold opS; walk_at "t"
    refine pickF (n := st2.length) (f := n0) (xs := mates ns (ns[a]).wd) (by omega) (f7.app.app).dr (rdL_app (rdL_app hm3)) (by omega) mp (ml _) (fun b st9 hb f9 => ?_)
    rw [n0_eq]
    walk_at "t"
    refine ⟨Nat.le_of_ble_eq_true rfl, ?_⟩
    exact q0 (.two .eq 1 a b) _ ⟨by omega, by omega, rfl, _, _, has_wd ha, mw hb, fun _ => rfl, fun h => (by cases h), fun h => (by cases h)⟩ (fun _ _ _ _ e _ => by cases e; exact ⟨_, has_wd ha, mw hb⟩) ((f7.app.app.trans f9).app) rfl
  case ne =>
    unfold opS; walk_at "t"
    refine pickF (n := st2.length) (f := n0) (xs := mates ns (ns[a]).wd) (by omega) (f7.app.app).dr (rdL_app (rdL_app hm3)) (by omega) mp (ml _) (fun b st9 hb f9 => ?_)
    rw [n0_eq]
    walk_at "t"
    refine ⟨Nat.le_of_ble_eq_true rfl, ?_⟩
    exact q0 (.two .ne 1 a b) _ ⟨by omega, by omega, rfl, _, _, has_wd ha, mw hb, fun _ => rfl, fun h => (by cases h), fun h => (by cases h)⟩ (fun _ _ _ _ e _ => by cases e; exact ⟨_, has_wd ha, mw hb⟩) ((f7.app.app.trans f9).app) rfl
  case lt =>
    unfold opS; walk_at "t"
    refine pickF (n := st2.length) (f := n0) (xs := mates ns (ns[a]).wd) (by omega) (f7.app.app).dr (rdL_app (rdL_app hm3)) (by omega) mp (ml _) (fun b st9 hb f9 => ?_)
    rw [n0_eq]
    walk_at "t"
    refine ⟨Nat.le_of_ble_eq_true rfl, ?_⟩
    exact q0 (.two .lt 1 a b) _ ⟨by omega, by omega, rfl, _, _, has_wd ha, mw hb, fun _ => rfl, fun h => (by cases h), fun h => (by cases h)⟩ (fun _ _ _ _ e _ => by cases e; exact ⟨_, has_wd ha, mw hb⟩) ((f7.app.app.trans f9).app) rfl
  case le =>
    unfold opS; walk_at "t"
    refine pickF (n := st2.length) (f := n0) (xs := mates ns (ns[a]).wd) (by omega) (f7.app.app).dr (rdL_app (rdL_app hm3)) (by omega) mp (ml _) (fun b st9 hb f9 => ?_)
    rw [n0_eq]
    walk_at "t"
    refine ⟨Nat.le_of_ble_eq_true rfl, ?_⟩
    exact q0 (.two .le 1 a b) _ ⟨by omega, by omega, rfl, _, _, has_wd ha, mw hb, fun _ => rfl, fun h => (by cases h), fun h => (by cases h)⟩ (fun _ _ _ _ e _ => by cases e; exact ⟨_, has_wd ha, mw hb⟩) ((f7.app.app.trans f9).app) rfl
  case pick =>
    unfold opS; walk_at "t"
    refine pickF (n := st2.length) (f := n0) (xs := mates ns (ns[a]).wd) (by omega) (f7.app.app).dr (rdL_app (rdL_app hm3)) (by omega) mp (ml _) (fun b st9 hb f9 => ?_)
    rw [n0_eq]
    walk_at "t"
    have f10 := f7.app.app.trans f9
    have hb4 := f9.rd (rdL_app (rdL_app hb3)) (by omega)
    refine tru_ref hb4 ?_
    refine way (fun e => ?_) (fun e => ?_)
    · have e1 : 0 < (mates ns 1).length := by
        cases hh : mates ns 1 with
        | nil => rw [hh] at e; cases e
        | cons => simp
      walk_at "t"
      refine pickF (n := st3.length) (f := n0) (xs := mates ns 1) (by omega) f10.dr hb4 (by omega) e1 (ml _) (fun c st10 hc f11 => ?_)
      rw [n0_eq]
      walk_at "t"
      refine ⟨Nat.le_of_ble_eq_true rfl, ?_⟩
      exact q (.pick _ c a b) _ ⟨hw.1, hw.2, (mate_has hc).2, has_wd ha, mw hb⟩ (fun _ _ _ _ e => by cases e <;> rfl) (f10.trans f11) rfl
    · walk_at "t"
      refine ⟨Nat.le_of_ble_eq_true rfl, ?_⟩
      exact q0 (.two .eq 1 a b) _ ⟨by omega, by omega, rfl, _, _, has_wd ha, mw hb, fun _ => rfl, fun h => (by cases h), fun h => (by cases h)⟩ (fun _ _ _ _ e _ => by cases e; exact ⟨_, has_wd ha, mw hb⟩) f10.app rfl
theorem CmpS.snoc {ns : List Nd} {x : Nd} (S : Sheet ns) (h : CmpS ns) (G : Good (ns.map Nd.wd) x) (c : CmpW (ns.map Nd.wd) x) : CmpS (ns ++ [x]) := by
  intro j o w a b hj hc u v hu hv
  have lift : ∀ {a u}, Has ((ns ++ [x]).map Nd.wd) a u → a < ns.length → Has (ns.map Nd.wd) a u := fun {a u} h ha => by
    unfold Has at *
    rw [List.map_append, List.getElem?_append_left (by simpa using ha)] at h
    exact h
  by_cases e : j < ns.length
  · rw [List.getElem?_append_left e] at hj
    have ha := S.part_lt hj a (by simp [Pd.parts])
    have hb := S.part_lt hj b (by simp [Pd.parts])
    exact h j o w a b hj hc u v (lift hu (by omega)) (lift hv (by omega))
  · have hjl := (List.getElem?_eq_some_iff.1 hj).1
    rw [List.length_append, List.length_singleton] at hjl
    have ej : j = ns.length := by omega
    subst ej
    rw [List.getElem?_append_right (Nat.le_refl _), Nat.sub_self] at hj
    cases hj
    have ha := G.parts a (by simp [Pd.parts])
    have hb := G.parts b (by simp [Pd.parts])
    rw [List.length_map] at ha hb
    obtain ⟨z, h1, h2⟩ := c o w a b rfl hc
    have h3 := lift hu ha
    have h4 := lift hv hb
    unfold Has at *
    rw [h3] at h1; rw [h4] at h2
    cases h1; cases h2; rfl
end Pk35
end PartPdk35P4

section PartPdk35P5
set_option Elab.async false
set_option linter.all false
set_option maxRecDepth 100000
set_option maxHeartbeats 1000000
namespace Pk35
open PySem Pd
local macro_rules | `(tactic| walk_at "s") => `(tactic| (repeat (refine Red.red ?_)))
local macro_rules | `(tactic| walk_at "r") => `(tactic| (repeat (first | refine Red.red ?_ | refine Nxt.mk ?_)))
local macro_rules | `(tactic| walk_at "t") => `(tactic| (repeat (first | refine Red.red ?_ | refine Nxt.mk ?_ | refine ⟨by decide +kernel, by decide +kernel, wayF (by decide +kernel) ?_⟩ | refine ⟨by decide +kernel, by decide +kernel, wayT (by decide +kernel) ?_⟩ | refine ⟨by decide +kernel, ?_⟩ | refine ⟨Nat.le_of_ble_eq_true rfl, ?_⟩ | refine at_is rfl ?_)))
local instance inNewE {x : D} {xs : List D} {st : Store} {r : Bool → Prop} : Red (inC x (.ref st.length) (st ++ [.lst xs]) r) (x.flat = true ∧ xs.all D.flat = true ∧ r (xs.any fun y => D.eqb y x)) := ⟨fun h => ⟨xs, .inl (by simp [rdL]), h⟩⟩
local macro_rules | `(tactic| walk_at "w") => `(tactic| (repeat (first | refine Red.red ?_ | refine Nxt.mk ?_ | refine wayF rfl ?_ | refine wayT rfl ?_ | refine ⟨Nat.le_of_ble_eq_true rfl, ?_⟩ | refine at_is rfl ?_)))
local macro_rules | `(tactic| walk_at "v") => `(tactic| (repeat (first | refine Red.red ?_ | refine Nxt.mk ?_ | refine ⟨Nat.le_of_ble_eq_true rfl, ?_⟩ | refine at_is rfl ?_)))
local macro_rules | `(tactic| walk_at "u") => `(tactic| (repeat (first | refine Red.red ?_ | refine Nxt.mk ?_ | refine ⟨Nat.le_of_ble_eq_true rfl, ?_⟩ | refine at_is rfl ?_ | refine ⟨by decide +kernel, by decide +kernel, wayF (by decide +kernel) ?_⟩ | refine ⟨by decide +kernel, by decide +kernel, wayT (by decide +kernel) ?_⟩ | refine ⟨by decide +kernel, by decide +kernel, ?_⟩ | refine wayF (by decide +kernel) ?_ | refine wayT (by decide +kernel) ?_)))
/-! k35, fifth text: the sheet as drawn over the spans. Own work. -/
def InpS (sp : List Nat) (ns : List Nd) : Prop := ∀ x ∈ ns, ∀ (w : Int) (i : Nat), x = .inp w i → i < sp.length ∧ w ≤ (sp.getD i 0 : Nat)
theorem InpS.snoc {sp : List Nat} {ns : List Nd} {x : Nd} (h : InpS sp ns) (hx : ∀ (w : Int) (i : Nat), x = .inp w i → i < sp.length ∧ w ≤ (sp.getD i 0 : Nat)) : InpS sp (ns ++ [x]) := by
  intro y hy
  rcases List.mem_append.mp hy with e | e
  · exact h y e
  · rw [List.mem_singleton] at e; subst e; exact hx
theorem span_leaf_ok {m nsp : Nat} {st : Store} {Q : K} {sp : List Nat} {w : Int} (hm : 3 ≤ m) (P : SpOk sp) (hd : DrawAt st) (hs : rdL st nsp (sp.map iN)) (hn : 2 < nsp) (w0 : 1 ≤ w) (w1 : w ≤ 8) (q : ∀ x st', (∀ ws, Good ws x) → (∀ o w a b, x ≠ .two o w a b) → (∀ (w : Int) (i : Nat), x = .inp w i → i < sp.length ∧ w ≤ (sp.getD i 0 : Nat)) → Fra st st' → Q x.dat st') : callN prog m "_law_span_leaf" [.ref 2, .ref nsp, .int w] st Q := by
  obtain ⟨k, rfl⟩ : ∃ n, m = n + 3 := ⟨m - 3, by omega⟩
  refine call_intro rfl rfl ?_
  unfold b_l_span_leaf
  have hf := full1 w0 w1
  have fb := fullI_bd (w := w) (by omega) w1
  walk_at "s"
  refine drawM (by omega) hd (by omega) (by omega) (fun r1 st1 r1a r1b f1 => ?_)
  walk_at "s"
  refine way (fun e => ?_) (fun e => ?_)
  · walk_at "r"
    refine ⟨cpow_small (by omega) (by omega), ?_⟩
    walk_at "r"
    rw [hf]
    refine ⟨by omega, ?_⟩
    walk_at "r"
    refine drawM (by omega) f1.dr (by omega) (by omega) (fun r2 st2 r2a r2b f2 => ?_)
    walk_at "r"
    refine ⟨Nat.le_of_ble_eq_true rfl, ?_⟩
    walk_at "r"
    refine pickF (f := D.int) (xs := [0, 1, fullI w, fullI w / 2 ^ (1 : Int).toNat, w, r2]) (by omega) (f2.dr.app) rdL_new (by have := f2.dr.lt; omega) (by simp) (by simp) (fun x st3 hx f3 => ?_)
    walk_at "r"
    refine ⟨Nat.le_of_ble_eq_true rfl, ?_⟩
    walk_at "r"
    refine q (.word w x) st3 (fun ws => ⟨w0, w1, ?_⟩) (fun _ _ _ _ e => by cases e) (fun _ _ e => by cases e) (((f1.trans f2).app).trans f3)
    have hw : 1 ≤ fullI w ∧ w ≤ fullI w := by
      obtain rfl | rfl | rfl | rfl | rfl | rfl | rfl | rfl : w = 1 ∨ w = 2 ∨ w = 3 ∨ w = 4 ∨ w = 5 ∨ w = 6 ∨ w = 7 ∨ w = 8 := by omega
      all_goals decide
    have hh : 0 ≤ fullI w / 2 ^ (1 : Int).toNat ∧ fullI w / 2 ^ (1 : Int).toNat ≤ fullI w := by
      show 0 ≤ fullI w / 2 ∧ fullI w / 2 ≤ fullI w
      omega
    simp only [List.mem_cons, List.not_mem_nil, or_false] at hx
    rcases hx with rfl | rfl | rfl | rfl | rfl | rfl <;> omega
  · walk_at "r"
    have hs1 := f1.rd hs (by omega)
    refine len_at hs1 ?_
    rw [List.length_map]
    have hp := P.pos
    have hl := P.len
    refine drawM (by omega) f1.dr (by omega) (by omega) (fun r2 st2 r2a r2b f2 => ?_)
    obtain ⟨i, rfl⟩ := nat_of r2a
    have hi : i < sp.length := by omega
    have hsi : sp[i]? = some sp[i] := List.getElem?_eq_getElem hi
    have h1 := P.one _ (List.getElem_mem hi)
    walk_at "v"
    refine ixr (f2.rd hs1 (by omega)) (d := iN sp[i]) (atD_nat (by omega) (by rw [Int.toNat_natCast, List.getElem?_map, hsi]; rfl)) ?_
    unfold iN
    walk_at "v"
    refine drawM (by omega) f2.dr (by omega) (by omega) (fun r3 st3 r3a r3b f3 => ?_)
    walk_at "v"
    refine q (.inp (1 + r3) i) st3 (fun ws => ⟨by show 1 ≤ 1 + r3; omega, by show 1 + r3 ≤ 8; omega, by omega⟩) (fun _ _ _ _ e => by cases e) (fun w' i' e => ?_) ((f1.trans f2).trans f3)
    cases e
    refine ⟨hi, ?_⟩
    rw [List.getD_eq_getElem?_getD, hsi]
    show 1 + r3 ≤ ((sp[i] : Nat) : Int)
    omega
def put35 : TS := sIf (tTru (dCmp notinDC (dVar 7) (dVar 5))) (sExpr (dM tyLst appendM (dVar 5) (aCons (dVar 7) (aNil)))) (sNext)
theorem put35_step {p : Nat} {st0 st : Store} {ns : List Nd} {x : Nd} {D0 : Ends} {a b c d e f g : Option D} (f0 : Fra st0 st) (hp : st0.length ≤ p) (h2 : 2 < p) (h : rdL st p (ns.map Nd.dat)) (hl : ns.length ≤ 1000)
    (q : ∀ ns' st', (ns' = ns ∧ ns ≠ [] ∨ ns' = ns ++ [x]) → rdL st' p (ns'.map Nd.dat) → Fra st0 st' → D0.nx [a, b, c, d, e, some (.ref p), f, some x.dat, g] st') : put35 D0 [a, b, c, d, e, some (.ref p), f, some x.dat, g] st := by
  unfold put35
  walk_at "s"
  refine notin_at h (dat_ok x) (dats_ok ns) ?_
  walk_at "s"
  refine way (fun hb => ?_) (fun hb => ?_)
  · walk_at "s"
    refine ⟨ty_at h, ?_⟩
    walk_at "s"
    refine append_at h (by simp [szl]; omega) ?_
    walk_at "s"
    refine q (ns ++ [x]) _ (.inr rfl) ?_ (f0.set hp h2)
    rw [List.map_append]
    exact rdL_set h
  · walk_at "s"
    refine q ns _ (.inl ⟨rfl, ?_⟩) h f0
    intro e0
    subst e0
    cases hb
theorem sheet_leaves {l : List Nd} (h : ∀ x ∈ l, ∀ ws, Good ws x) : Sheet l := by
  have : ∀ n, n ≤ l.length → Sheet (l.take n) := by
    intro n
    induction n with
    | zero => intro _; exact .nil
    | succ n ih =>
      intro hn
      have hx := List.getElem?_eq_getElem (show n < l.length by omega)
      rw [List.take_add_one, hx]
      exact .snoc (ih (by omega)) (h _ (List.getElem_mem _) _)
  have h2 := this l.length (Nat.le_refl _)
  rwa [List.take_length] at h2
theorem cmp_leaves {l : List Nd} (h : ∀ x ∈ l, leafB x = true) : CmpS l := fun j o w a b hj => by
  have := h _ (List.mem_of_getElem? hj)
  cases this
def inps (sp : List Nat) : List Nd := (List.range sp.length).map fun n => .inp (sp.getD n 0 : Nat) n
theorem inps_mem {sp : List Nat} (P : SpOk sp) {x : Nd} (hx : x ∈ inps sp) : (∀ ws, Good ws x) ∧ leafB x = true ∧ ∀ (w : Int) (i : Nat), x = .inp w i → i < sp.length ∧ w ≤ (sp.getD i 0 : Nat) := by
  obtain ⟨n, hn, rfl⟩ := List.mem_map.mp hx
  have hn := List.mem_range.mp hn
  have h1 := P.one _ (List.getElem_mem hn)
  have e : sp.getD n 0 = sp[n] := by rw [List.getD_eq_getElem?_getD, List.getElem?_eq_getElem hn]; rfl
  have hl := P.len
  refine ⟨fun ws => ⟨by rw [e]; omega, by rw [e]; omega, by omega⟩, rfl, fun w i h => ?_⟩
  cases h
  exact ⟨hn, Int.le_refl _⟩
theorem span_sheet_ok {m nsp : Nat} {st : Store} {Q : K} {sp : List Nat} {lv mn : Int} (hm : 4 ≤ m) (P : SpOk sp) (hd : DrawAt st) (hs : rdL st nsp (sp.map iN)) (hn : 2 < nsp) (l0 : 2 ≤ lv) (l1 : lv ≤ 10) (m0 : 0 ≤ mn) (m1 : mn ≤ 20) (q : ∀ ns st', Sheet ns → CmpS ns → InpS sp ns → (ns.length : Int) ≤ 3 + lv + mn → Fra st st' → Q (.tup (ns.map Nd.dat)) st') : callN prog m "_law_span_sheet" [.ref 2, .ref nsp, .int lv, .int mn] st Q := by
  obtain ⟨k, rfl⟩ : ∃ n, m = n + 4 := ⟨m - 4, by omega⟩
  refine call_intro rfl rfl ?_
  unfold b_l_span_sheet
  walk_at "s"
  refine drawM (by omega) hd (by omega) (by omega) (fun w1 st1 w1a w1b f1 => ?_)
  have hs1 := f1.rd hs (by omega)
  have lt1 := f1.dr.lt
  have le1 := f1.le
  walk_at "r"
  refine len_at hs1 ?_
  rw [List.length_map]
  walk_at "r"
  have hpl := P.len
  refine ⟨by omega, by omega, ?_⟩
  rw [Int.toNat_natCast]
  refine lc_map (List.range sp.length) n0 (fun n => (Nd.inp (sp.getD n 0 : Nat) n).dat) rfl (by simp [szl]; omega) (fun _ => trivial) (fun n hn' acc N hN => ?_) ?_
  · have hn' := List.mem_range.mp hn'
    rw [n0_eq]
    walk_at "v"
    refine ixr (rdL_app hs1) (d := iN (sp.getD n 0)) (atD_nat (by omega) (by rw [Int.toNat_natCast, List.getElem?_map, List.getD_eq_getElem?_getD, List.getElem?_eq_getElem hn']; rfl)) ?_
    unfold iN
    walk_at "v"
    exact hN
  · have h2 := rdL_new (st := st1) (xs := (inps sp).map Nd.dat)
    have e2 : ((List.range sp.length).map fun n => (Nd.inp (sp.getD n 0 : Nat) n).dat) = (inps sp).map Nd.dat := by unfold inps; rw [List.map_map]; rfl
    rw [e2]
    have f2 : Fra st (st1 ++ [C.lst ((inps sp).map Nd.dat)]) := f1.app
    walk_at "s"
    refine Nxt.mk ?_
    refine seq_cut (fun σ st' => ∃ (p : Nat) (ns : List Nd), σ = [some (.ref 2), some (.ref nsp), some (.int lv), some (.int mn), some (.int (1 + w1)), some (.ref p), none, none, none] ∧ st.length ≤ p ∧ rdL st' p (ns.map Nd.dat) ∧ Sheet ns ∧ CmpS ns ∧ InpS sp ns ∧ ns.length ≤ 3 ∧ Fra st st') (fun N hN => ?_) (fun σ st' ⟨p, ns, e, hp, hr, S, hcs, hin, hl, f⟩ => ?_)
    · have A0 : Sheet (inps sp) := sheet_leaves fun x hx => (inps_mem P hx).1
      have A1 : CmpS (inps sp) := cmp_leaves fun x hx => (inps_mem P hx).2.1
      have A2 : InpS sp (inps sp) := fun x hx => (inps_mem P hx).2.2
      have A3 : (inps sp).length ≤ 3 := by unfold inps; simpa using hpl
      have d1 : ∀ x ∈ (inps sp).drop 1, x ∈ inps sp := fun x hx => List.mem_of_mem_drop hx
      walk_at "s"
      refine rareK_ok (k := k + 1) rfl rfl f2.dr (by omega) (by omega) (fun b st3 f3 _ => ?_)
      walk_at "v"
      have h3 := f3.rd h2 (by omega)
      have le3 := f3.le
      refine way (fun hb => ?_) (fun hb => ?_)
      · walk_at "v"
        refine sl_at h3 ?_
        rw [cut_drop _ (by decide)]
        walk_at "v"
        refine hN _ _ ⟨st3.length, (inps sp).drop 1, rfl, by simp at le3; omega, ?_, sheet_leaves fun x hx => (inps_mem P (d1 x hx)).1, cmp_leaves fun x hx => (inps_mem P (d1 x hx)).2.1, fun x hx => (inps_mem P (d1 x hx)).2.2, by rw [List.length_drop]; omega, (f2.trans f3).app⟩
        rw [List.map_drop]
        exact rdL_new
      · walk_at "v"
        exact hN _ _ ⟨st1.length, inps sp, rfl, le1, h3, A0, A1, A2, A3, f2.trans f3⟩
    · subst e
      have lt0 := hd.lt
      walk_at "v"
      refine ⟨by omega, by omega, ?_⟩
      refine for_rng (fun j σ st' => ∃ (ns : List Nd) (o6 o7 : Option D), σ = [some (.ref 2), some (.ref nsp), some (.int lv), some (.int mn), some (.int (1 + w1)), some (.ref p), o6, o7, none] ∧ rdL st' p (ns.map Nd.dat) ∧ Sheet ns ∧ CmpS ns ∧ InpS sp ns ∧ ns.length ≤ 3 + j ∧ (0 < j → 0 < ns.length) ∧ Fra st st') ⟨ns, none, none, rfl, hr, S, hcs, hin, hl, fun h => absurd h (by omega), f⟩ (fun j σ st' hj ⟨ns, o6, o7, e, hr, S, hcs, hin, hl, hne, f⟩ N hN => ?_) (fun σ st' ⟨ns, o6, o7, e, hr, S, hcs, hin, hl, hne, f⟩ => ?_)
      · subst e
        refine ⟨trivial, ?_⟩
        have hs' := f.rd hs (by omega)
        have hs2 : rdL st' nsp (sp.map iN) := hs'
        walk_at "v"
        refine pickF (f := iN) (xs := sp) (by omega) f.dr hs2 (by omega) P.pos (by omega) (fun s st4 hss f4 => ?_)
        have h1 := P.one s hss
        unfold iN
        walk_at "v"
        refine pickF (f := D.int) (xs := [(s : Int), 1 + w1, 1]) (by omega) f4.dr.app rdL_new (by have := f4.dr.lt; omega) (by simp) (by simp) (fun w st5 hw f5 => ?_)
        have hw8 : 1 ≤ w ∧ w ≤ 8 := by
          simp only [List.mem_cons, List.not_mem_nil, or_false] at hw
          rcases hw with rfl | rfl | rfl <;> omega
        have f45 := (f4.app).trans f5
        walk_at "v"
        refine span_leaf_ok (by omega) P f5.dr (f45.rd hs2 (by omega)) hn hw8.1 hw8.2 (fun x st6 hx hlw0 hin0 f6 => ?_)
        have hlw : CmpW (ns.map Nd.wd) x := fun o w a b e hc => absurd e (hlw0 o w a b)
        walk_at "s"
        refine Nxt.mk ?_
        refine put35_step (st0 := st) (x := x) ((f.trans f45).trans f6) hp (by omega) (f6.rd (f45.rd hr (by omega)) (by omega)) (by omega) (fun ns' st8 hn' hr' f8 => ?_)
        refine hN _ _ ⟨ns', _, _, rfl, hr', ?_, ?_, ?_, ?_, ?_, f8⟩
        · rcases hn' with ⟨rfl, _⟩ | rfl
          · exact S
          · exact .snoc S (hx _)
        · rcases hn' with ⟨rfl, _⟩ | rfl
          · exact hcs
          · exact CmpS.snoc S hcs (hx _) hlw
        · rcases hn' with ⟨rfl, _⟩ | rfl
          · exact hin
          · exact hin.snoc hin0
        · rcases hn' with ⟨rfl, _⟩ | rfl
          · omega
          · rw [List.length_append, List.length_singleton]; omega
        · intro _
          rcases hn' with ⟨rfl, hh⟩ | rfl
          · exact List.length_pos_iff.mpr hh
          · simp
      · subst e
        refine ⟨trivial, ?_⟩
        have hpos := hne (by omega)
        walk_at "v"
        refine ⟨by omega, by omega, ?_⟩
        refine for_rng (fun j σ st' => ∃ (ns : List Nd) (o6 o7 : Option D), σ = [some (.ref 2), some (.ref nsp), some (.int lv), some (.int mn), some (.int (1 + w1)), some (.ref p), o6, o7, none] ∧ rdL st' p (ns.map Nd.dat) ∧ Sheet ns ∧ CmpS ns ∧ InpS sp ns ∧ (ns.length : Int) ≤ 3 + lv + j ∧ 0 < ns.length ∧ Fra st st') ⟨ns, o6, o7, rfl, hr, S, hcs, hin, by omega, hpos, f⟩ (fun j σ st' hj ⟨ns, o6, o7, e, hr, S, hcs, hin, hl, hne, f⟩ N hN => ?_) (fun σ st' ⟨ns, o6, o7, e, hr, S, hcs, hin, hl, hne, f⟩ => ?_)
        · subst e
          refine ⟨trivial, ?_⟩
          walk_at "v"
          refine node_ok (by omega) f.dr hr (by omega) S hne (by omega) (fun x st6 hx hcw f6 hlf => ?_)
          walk_at "s"
          refine Nxt.mk ?_
          refine put35_step (st0 := st) (x := x) (f.trans f6) hp (by omega) (f6.rd hr (by omega)) (by omega) (fun ns' st8 hn' hr' f8 => ?_)
          refine hN _ _ ⟨ns', _, _, rfl, hr', ?_, ?_, ?_, ?_, ?_, f8⟩
          · rcases hn' with ⟨rfl, _⟩ | rfl
            · exact S
            · exact .snoc S hx
          · rcases hn' with ⟨rfl, _⟩ | rfl
            · exact hcs
            · exact CmpS.snoc S hcs hx hcw
          · rcases hn' with ⟨rfl, _⟩ | rfl
            · exact hin
            · exact hin.snoc fun w i e => by rw [e] at hlf; cases hlf
          · rcases hn' with ⟨rfl, _⟩ | rfl
            · omega
            · rw [List.length_append, List.length_singleton]; omega
          · rcases hn' with ⟨rfl, hh⟩ | rfl
            · exact hne
            · simp
        · subst e
          refine ⟨trivial, ?_⟩
          walk_at "v"
          refine tuple_at hr ?_
          exact q ns st' S hcs hin (by omega) f
end Pk35
end PartPdk35P5

section PartPdk35P6
set_option Elab.async false
set_option linter.all false
set_option maxRecDepth 100000
set_option maxHeartbeats 1000000
namespace Pk35
open PySem Pd
local macro_rules | `(tactic| walk_at "s") => `(tactic| (repeat (refine Red.red ?_)))
local macro_rules | `(tactic| walk_at "r") => `(tactic| (repeat (first | refine Red.red ?_ | refine Nxt.mk ?_)))
local macro_rules | `(tactic| walk_at "t") => `(tactic| (repeat (first | refine Red.red ?_ | refine Nxt.mk ?_ | refine ⟨by decide +kernel, by decide +kernel, wayF (by decide +kernel) ?_⟩ | refine ⟨by decide +kernel, by decide +kernel, wayT (by decide +kernel) ?_⟩ | refine ⟨by decide +kernel, ?_⟩ | refine ⟨Nat.le_of_ble_eq_true rfl, ?_⟩ | refine at_is rfl ?_)))
local instance inNewF {x : D} {xs : List D} {st : Store} {r : Bool → Prop} : Red (inC x (.ref st.length) (st ++ [.lst xs]) r) (x.flat = true ∧ xs.all D.flat = true ∧ r (xs.any fun y => D.eqb y x)) := ⟨fun h => ⟨xs, .inl (by simp [rdL]), h⟩⟩
local macro_rules | `(tactic| walk_at "w") => `(tactic| (repeat (first | refine Red.red ?_ | refine Nxt.mk ?_ | refine wayF rfl ?_ | refine wayT rfl ?_ | refine ⟨Nat.le_of_ble_eq_true rfl, ?_⟩ | refine at_is rfl ?_)))
local macro_rules | `(tactic| walk_at "v") => `(tactic| (repeat (first | refine Red.red ?_ | refine Nxt.mk ?_ | refine ⟨Nat.le_of_ble_eq_true rfl, ?_⟩ | refine at_is rfl ?_)))
local macro_rules | `(tactic| walk_at "u") => `(tactic| (repeat (first | refine Red.red ?_ | refine Nxt.mk ?_ | refine ⟨Nat.le_of_ble_eq_true rfl, ?_⟩ | refine at_is rfl ?_ | refine ⟨by decide +kernel, by decide +kernel, wayF (by decide +kernel) ?_⟩ | refine ⟨by decide +kernel, by decide +kernel, wayT (by decide +kernel) ?_⟩ | refine ⟨by decide +kernel, by decide +kernel, ?_⟩ | refine wayF (by decide +kernel) ?_ | refine wayT (by decide +kernel) ?_)))
/-! k35, sixth text: the spans; what each term tells. Own work. -/
section
variable {st : Store} {Q : K} {k : Nat}
theorem isI_ok {i : Int} (q : Q (.bl true) st) : callN prog (k + 1) "_law_is_int" [.int i] st Q := by
  refine call_intro rfl rfl ?_
  unfold b_l_is_int
  walk_at "u"
  rw [show (!decide (Ty.bool = Ty.int)) = true by decide]
  exact q
theorem is_pair_ok {t : TriL} (q : Q (.bl true) st) : callN prog (k + 2) "_law_is_pair" [pairD t] st Q := by
  refine call_intro rfl rfl ?_
  unfold b_l_is_pair pairD
  walk_at "u"
  refine wayT rfl ?_
  walk_at "u"
  refine isI_ok (k := k) ?_
  walk_at "u"
  refine isI_ok (k := k) ?_
  walk_at "u"
  exact q
theorem vl_kn (t : TriL) : vl t &&& kn t = vl t := by
  apply Nat.eq_of_testBit_eq
  intro k
  rw [Nat.testBit_and, vl_bit, kn_bit]
  rcases tb t k with _ | _ | _ <;> rfl
/-- known bits are the value's -/
theorem fit_eq {t : TriL} {w v : Nat} (h : LeL t (ofN w v)) (hv : v < 2 ^ w) : v &&& kn t = vl t := by
  apply Nat.eq_of_testBit_eq
  intro k
  rw [Nat.testBit_and, vl_bit, kn_bit]
  have h2 := h.2 k
  rw [tb_ofN] at h2
  rcases h2 with e | e
  · rw [e]; simp
  · rw [e]
    by_cases hk : k < w
    · rw [if_pos hk]
      cases hb : v.testBit k <;> rfl
    · rw [if_neg hk]; simp
/-- what was known is known with the same bits -/
theorem mono_eq {t u : TriL} (h : LeL t u) : kn u &&& kn t = kn t ∧ vl u &&& kn t = vl t := by
  constructor <;> (
    apply Nat.eq_of_testBit_eq
    intro k
    simp only [Nat.testBit_and, vl_bit, kn_bit]
    rcases h.2 k with e | e
    · rw [e]; simp
    · rw [e]; rcases tb u k with _ | _ | _ <;> rfl)
theorem cube_prog : CubeProg prog := ⟨rfl, rfl, rfl, rfl, rfl, rfl, rfl, rfl, rfl, rfl, rfl, rfl, rfl, rfl⟩
end
end Pk35
end PartPdk35P6

section PartPdk35P7
set_option Elab.async false
set_option linter.all false
set_option maxRecDepth 100000
set_option maxHeartbeats 1000000
namespace Pk35
open PySem Pd
local macro_rules | `(tactic| walk_at "s") => `(tactic| (repeat (refine Red.red ?_)))
local macro_rules | `(tactic| walk_at "r") => `(tactic| (repeat (first | refine Red.red ?_ | refine Nxt.mk ?_)))
local macro_rules | `(tactic| walk_at "t") => `(tactic| (repeat (first | refine Red.red ?_ | refine Nxt.mk ?_ | refine ⟨by decide +kernel, by decide +kernel, wayF (by decide +kernel) ?_⟩ | refine ⟨by decide +kernel, by decide +kernel, wayT (by decide +kernel) ?_⟩ | refine ⟨by decide +kernel, ?_⟩ | refine ⟨Nat.le_of_ble_eq_true rfl, ?_⟩ | refine at_is rfl ?_)))
local instance inNewG {x : D} {xs : List D} {st : Store} {r : Bool → Prop} : Red (inC x (.ref st.length) (st ++ [.lst xs]) r) (x.flat = true ∧ xs.all D.flat = true ∧ r (xs.any fun y => D.eqb y x)) := ⟨fun h => ⟨xs, .inl (by simp [rdL]), h⟩⟩
local macro_rules | `(tactic| walk_at "w") => `(tactic| (repeat (first | refine Red.red ?_ | refine Nxt.mk ?_ | refine wayF rfl ?_ | refine wayT rfl ?_ | refine ⟨Nat.le_of_ble_eq_true rfl, ?_⟩ | refine at_is rfl ?_)))
local macro_rules | `(tactic| walk_at "v") => `(tactic| (repeat (first | refine Red.red ?_ | refine Nxt.mk ?_ | refine ⟨Nat.le_of_ble_eq_true rfl, ?_⟩ | refine at_is rfl ?_)))
local macro_rules | `(tactic| walk_at "u") => `(tactic| (repeat (first | refine Red.red ?_ | refine Nxt.mk ?_ | refine ⟨Nat.le_of_ble_eq_true rfl, ?_⟩ | refine at_is rfl ?_ | refine ⟨by decide +kernel, by decide +kernel, wayF (by decide +kernel) ?_⟩ | refine ⟨by decide +kernel, by decide +kernel, wayT (by decide +kernel) ?_⟩ | refine ⟨by decide +kernel, by decide +kernel, ?_⟩ | refine wayF (by decide +kernel) ?_ | refine wayT (by decide +kernel) ?_)))
/-! k35, seventh text: the spans. Own work. -/
theorem spans_ok {m : Nat} {st : Store} {Q : K} (hm : 1 ≤ m) (q : ∀ st' n, Grw st st' → (∃ rs : List Nat, rdL st' n (rs.map D.ref) ∧ rs.length = 13 ∧ ∀ r ∈ rs, st.length ≤ r ∧ ∃ sp, SpOk sp ∧ rdL st' r (sp.map iN)) → st.length ≤ n → Q (.ref n) st') : callN prog m "_law_spans" [] st Q := by
  obtain ⟨k, rfl⟩ : ∃ n, m = n + 1 := ⟨m - 1, by omega⟩
  refine call_intro rfl rfl ?_
  unfold b_l_spans
  walk_at "v"
  refine q _ _ (by repeat (first | exact .refl _ | refine Grw.app ?_)) ⟨[_, _, _, _, _, _, _, _, _, _, _, _, _], rdL_new, rfl, ?_⟩ (by simp)
  intro r hr
  simp only [List.mem_cons, List.not_mem_nil, or_false] at hr
  rcases hr with h | h | h | h | h | h | h | h | h | h | h | h | h <;> subst h <;> refine ⟨by simp, ?_⟩
  · exact ⟨[2], ⟨by decide, by decide, by decide, by decide⟩, rdL_app (rdL_app (rdL_app (rdL_app (rdL_app (rdL_app (rdL_app (rdL_app (rdL_app (rdL_app (rdL_app (rdL_app (rdL_app (rdL_new)))))))))))))⟩
  · exact ⟨[3], ⟨by decide, by decide, by decide, by decide⟩, rdL_app (rdL_app (rdL_app (rdL_app (rdL_app (rdL_app (rdL_app (rdL_app (rdL_app (rdL_app (rdL_app (rdL_app (rdL_new))))))))))))⟩
  · exact ⟨[2, 2], ⟨by decide, by decide, by decide, by decide⟩, rdL_app (rdL_app (rdL_app (rdL_app (rdL_app (rdL_app (rdL_app (rdL_app (rdL_app (rdL_app (rdL_app (rdL_new)))))))))))⟩
  · exact ⟨[1, 3], ⟨by decide, by decide, by decide, by decide⟩, rdL_app (rdL_app (rdL_app (rdL_app (rdL_app (rdL_app (rdL_app (rdL_app (rdL_app (rdL_app (rdL_new))))))))))⟩
  · exact ⟨[4], ⟨by decide, by decide, by decide, by decide⟩, rdL_app (rdL_app (rdL_app (rdL_app (rdL_app (rdL_app (rdL_app (rdL_app (rdL_app (rdL_new)))))))))⟩
  · exact ⟨[3, 3], ⟨by decide, by decide, by decide, by decide⟩, rdL_app (rdL_app (rdL_app (rdL_app (rdL_app (rdL_app (rdL_app (rdL_app (rdL_new))))))))⟩
  · exact ⟨[2, 1, 3], ⟨by decide, by decide, by decide, by decide⟩, rdL_app (rdL_app (rdL_app (rdL_app (rdL_app (rdL_app (rdL_app (rdL_new)))))))⟩
  · exact ⟨[8], ⟨by decide, by decide, by decide, by decide⟩, rdL_app (rdL_app (rdL_app (rdL_app (rdL_app (rdL_app (rdL_new))))))⟩
  · exact ⟨[5], ⟨by decide, by decide, by decide, by decide⟩, rdL_app (rdL_app (rdL_app (rdL_app (rdL_app (rdL_new)))))⟩
  · exact ⟨[4, 4], ⟨by decide, by decide, by decide, by decide⟩, rdL_app (rdL_app (rdL_app (rdL_app (rdL_new))))⟩
  · exact ⟨[1], ⟨by decide, by decide, by decide, by decide⟩, rdL_app (rdL_app (rdL_app (rdL_new)))⟩
  · exact ⟨[6], ⟨by decide, by decide, by decide, by decide⟩, rdL_app (rdL_app (rdL_new))⟩
  · exact ⟨[1, 1, 1], ⟨by decide, by decide, by decide, by decide⟩, rdL_app (rdL_new)⟩
end Pk35
end PartPdk35P7

section PartPdk35P8
set_option Elab.async false
set_option linter.all false
set_option maxRecDepth 100000
set_option maxHeartbeats 1000000
namespace Pk35
open PySem Pd
local macro_rules | `(tactic| walk_at "s") => `(tactic| (repeat (refine Red.red ?_)))
local macro_rules | `(tactic| walk_at "r") => `(tactic| (repeat (first | refine Red.red ?_ | refine Nxt.mk ?_)))
local macro_rules | `(tactic| walk_at "t") => `(tactic| (repeat (first | refine Red.red ?_ | refine Nxt.mk ?_ | refine ⟨by decide +kernel, by decide +kernel, wayF (by decide +kernel) ?_⟩ | refine ⟨by decide +kernel, by decide +kernel, wayT (by decide +kernel) ?_⟩ | refine ⟨by decide +kernel, ?_⟩ | refine ⟨Nat.le_of_ble_eq_true rfl, ?_⟩ | refine at_is rfl ?_)))
local instance inNewH {x : D} {xs : List D} {st : Store} {r : Bool → Prop} : Red (inC x (.ref st.length) (st ++ [.lst xs]) r) (x.flat = true ∧ xs.all D.flat = true ∧ r (xs.any fun y => D.eqb y x)) := ⟨fun h => ⟨xs, .inl (by simp [rdL]), h⟩⟩
local macro_rules | `(tactic| walk_at "w") => `(tactic| (repeat (first | refine Red.red ?_ | refine Nxt.mk ?_ | refine wayF rfl ?_ | refine wayT rfl ?_ | refine ⟨Nat.le_of_ble_eq_true rfl, ?_⟩ | refine at_is rfl ?_)))
local macro_rules | `(tactic| walk_at "v") => `(tactic| (repeat (first | refine Red.red ?_ | refine Nxt.mk ?_ | refine ⟨Nat.le_of_ble_eq_true rfl, ?_⟩ | refine at_is rfl ?_)))
local macro_rules | `(tactic| walk_at "u") => `(tactic| (repeat (first | refine Red.red ?_ | refine Nxt.mk ?_ | refine ⟨Nat.le_of_ble_eq_true rfl, ?_⟩ | refine at_is rfl ?_ | refine ⟨by decide +kernel, by decide +kernel, wayF (by decide +kernel) ?_⟩ | refine ⟨by decide +kernel, by decide +kernel, wayT (by decide +kernel) ?_⟩ | refine ⟨by decide +kernel, by decide +kernel, ?_⟩ | refine wayF (by decide +kernel) ?_ | refine wayT (by decide +kernel) ?_)))
/-! k35, eighth text: what each term tells in a cube. Own work. -/
theorem Grw_setN {st st' : Store} (h : Grw st st') {n : Nat} {c : C} (hn : st.length ≤ n) : Grw st (st'.set n c) := by
  obtain ⟨m, rfl⟩ := h
  exact ⟨m.set (n - st.length) c, by rw [List.set_append_right _ _ hn]⟩
section
variable {st : Store} {Q : K} {k : Nat} {sp : List Nat} {ns : List Nd} {cube : List (Nat × Nat)}
def toldD (cube : List (Nat × Nat)) (ns : List Nd) (n : Nat) : List D := (List.range n).map fun t => pairD (trT cube ns t)
def ColsAt (st : Store) (sp : List Nat) (ns : List Nd) (rs : List Nat) (n : Nat) : Prop := ∀ p, p < n → ∃ r, rs[p]? = some r ∧ rdL st r (colD (2 ^ sp.sum) (valAt sp ns p))
theorem pairs_told_ok {nc nl : Nat} {rs L : List Nat} (P : SpOk sp) (S : Sheet ns) (hcs : CmpS ns) (hl : ns.length ≤ 1000) (hcl : cube.length ≤ 1000) (hcu : CubeOk cube) (hc : rdL st nc (rs.map D.ref)) (hcols : ColsAt st sp ns rs ns.length) (hL : rdL st nl (L.map iN)) (hLl : L.length ≤ 1000) (hLr : ∀ r ∈ L, r < 2 ^ sp.sum ∧ FitC cube (wordsOf sp r))
    (q : ∀ st' m, Grw st st' → st.length ≤ m → rdL st' m (toldD cube ns ns.length) → Q (.ref m) st') : callN prog (k + 6) "_law_pairs_told" [.tup (ns.map Nd.dat), .tup (cube.map pairI), .ref nc, .ref nl] st Q := by
  refine call_intro rfl rfl ?_
  unfold b_l_pairs_told
  walk_at "v"
  rw [List.length_map]
  refine ⟨by omega, by omega, ?_⟩
  rw [Int.toNat_natCast]
  refine for_rng (fun j σ st' => ∃ (o5 o6 o7 : Option D), σ = [some (.tup (ns.map Nd.dat)), some (.tup (cube.map pairI)), some (.ref nc), some (.ref nl), some (.ref st.length), o5, o6, o7, none] ∧ Grw st st' ∧ rdL st' st.length (toldD cube ns j)) ⟨none, none, none, rfl, .app (.refl _), rdL_new⟩ (fun t σ st1 ht ⟨o5, o6, o7, e, g, hr⟩ N hN => ?_) (fun σ st1 ⟨o5, o6, o7, e, g, hr⟩ => ?_)
  · subst e
    refine ⟨trivial, ?_⟩
    rw [Int.zero_add]
    walk_at "v"
    refine read_term_ok (k := k) cube_prog S hcs hl hcl hcu ht (fun st2 g2 => ?_)
    have gg := g.trans g2
    walk_at "v"
    refine is_pair_ok (k := k + 3) ?_
    have hlen := trT_len (cube := cube) S t ht
    have hwd := S.wid t _ (has_wd ht)
    obtain ⟨W, hW⟩ : ∃ W : Nat, (ns[t]).wd = W := ⟨(ns[t]).wd.toNat, by omega⟩
    rw [hW, Int.toNat_natCast] at hlen
    have hkn := kn_lt (trT cube ns t)
    rw [hlen] at hkn
    walk_at "v"
    refine wayF rfl ?_
    unfold pairD
    walk_at "v"
    refine wayT (decide_eq_true (by omega)) ?_
    walk_at "v"
    refine at_is (at_nd ht) ?_
    rw [dat_eq ns[t], hW]
    walk_at "v"
    refine ⟨cpow_small (by omega) (by omega), ?_⟩
    walk_at "v"
    rw [Int.toNat_natCast, Int.one_mul, pow_cast]
    refine wayF (by rw [decide_eq_true (by omega)]; rfl) ?_
    walk_at "v"
    rw [andN, vl_kn]
    refine wayF (by simp) ?_
    walk_at "v"
    obtain ⟨r, hr1, hr2⟩ := hcols t ht
    refine it_at (gg.rd hL) ?_
    refine lc_filter L iN iN (fun _ => false) rfl (by simp [szl]; omega) (fun acc => .inl (rdL_app (gg.rd hL))) (fun j hj acc N' M' hN' hM' => ?_) ?_
    · obtain ⟨hjR, hjF⟩ := hLr j hj
      unfold iN
      walk_at "v"
      refine ixr (rdL_app (gg.rd hc)) (d := .ref r) (atD_nat (by omega) (by rw [Int.toNat_natCast, List.getElem?_map, hr1]; rfl)) ?_
      walk_at "v"
      refine ixr (rdL_app (gg.rd hr2)) (d := .int (valAt sp ns t j)) (atD_nat (by omega) (by unfold colD; rw [Int.toNat_natCast, List.getElem?_map, List.getElem?_range hjR]; rfl)) ?_
      walk_at "v"
      have hft := trT_fits S hcs (words_nn sp j) hjF t ht
      obtain ⟨v0, v1, _⟩ := val_bd (sp := sp) S ht j
      obtain ⟨z, hz⟩ := nat_of v0
      have hz' : (vals (wordsOf sp j) ns).getD t 0 = (z : Int) := hz
      rw [hz', hW, Int.toNat_natCast, Int.toNat_natCast] at hft
      rw [hz, hW, fullI_N] at v1
      have hzl : z < 2 ^ W := by have := fulN_lt W; omega
      rw [hz, andN, fit_eq hft hzl]
      exact ⟨fun e => by simp at e, fun _ => hM' rfl⟩
    · rw [show (L.filter fun _ => false) = [] by simp]
      walk_at "v"
      refine ⟨_, .inl rdL_new, ?_⟩
      refine wayF rfl ?_
      walk_at "v"
      have hr3 := rdL_app (c := C.lst (List.map iN [])) (g2.rd hr)
      refine ⟨⟨_, hr3⟩, ?_⟩
      walk_at "v"
      refine append_at hr3 (by unfold toldD; rw [List.length_map, List.length_range]; unfold szl; omega) ?_
      refine hN _ _ ⟨_, _, _, rfl, Grw_setN gg.app (Nat.le_refl _), ?_⟩
      have e : toldD cube ns (t + 1) = toldD cube ns t ++ [pairD (trT cube ns t)] := by unfold toldD; rw [List.range_succ, List.map_append]; rfl
      rw [e]
      exact rdL_set hr3
  · subst e
    refine ⟨trivial, ?_⟩
    walk_at "v"
    exact q _ _ g (Nat.le_refl _) hr
theorem ne_pairD {t u : TriL} {st : Store} {r : Bool → Prop} (e : t = u) (q : r false) : neC (.tup [.int (kn t : Nat), .int (vl t : Nat)]) (.tup [.int (kn u : Nat), .int (vl u : Nat)]) st r := by
  subst e
  have es : D.eqb (.tup [.int (kn t : Nat), .int (vl t : Nat)]) (.tup [.int (kn t : Nat), .int (vl t : Nat)]) = true := by simp [D.eqb, eqbs]
  exact eq_tup (r := fun b => r (!b)) rfl rfl (by rw [es]; exact q)
theorem told_at {c : List (Nat × Nat)} {t : Nat} (h : t < ns.length) : atD (toldD c ns ns.length) (t : Int) = some (pairD (trT c ns t)) := by
  refine atD_nat (by omega) ?_
  unfold toldD
  rw [Int.toNat_natCast, List.getElem?_map, List.getElem?_range h]; rfl
def eldD (E : Nat → TriL) (n : Nat) : List D := (List.range n).map fun t => pairD (E t)
theorem eld_at {E : Nat → TriL} {n t : Nat} (h : t < n) : atD (eldD E n) (t : Int) = some (pairD (E t)) := by
  refine atD_nat (by omega) ?_
  unfold eldD
  rw [Int.toNat_natCast, List.getElem?_map, List.getElem?_range h]; rfl
theorem pairs_right_ok {nt ne nc nr : Nat} {rs : List Nat} {E : Nat → TriL} {known truth : Nat} {R : List Nat} (P : SpOk sp) (S : Sheet ns) (hl : ns.length ≤ 1000) (h1 : rdL st nt (toldD cube ns ns.length)) (h2 : rdL st ne (eldD E ns.length)) (hle : ∀ t, t < ns.length → LeL (E t) (trT cube ns t)) (hc : rdL st nc (rs.map D.ref)) (hcols : ColsAt st sp ns rs ns.length) (hr : rdL st nr (R.map iN)) (hRl : R.length = ns.length) (htr : truth < 2 ^ sp.sum)
    (hwh : ∀ t, ∀ ht : t < ns.length, Builtin.bitAnd (R.getD t 0 : Nat) (Builtin.bitNot (known : Nat)) = 0 → trT cube ns t = ofN (ns[t]).wd.toNat (valAt sp ns t truth).toNat) (q : ∀ st', Grw st st' → Q (.bl true) st') : callN prog (k + 1) "_law_pairs_right" [.tup (ns.map Nd.dat), .ref nt, .ref ne, .ref nc, .ref nr, .int (known : Nat), .int (truth : Nat)] st Q := by
  refine call_intro rfl rfl ?_
  unfold b_l_pairs_right
  walk_at "v"
  rw [List.length_map]
  refine ⟨by omega, by omega, ?_⟩
  rw [Int.toNat_natCast]
  refine for_rng (fun j σ st' => ∃ (o7 : Option D), σ = [some (.tup (ns.map Nd.dat)), some (.ref nt), some (.ref ne), some (.ref nc), some (.ref nr), some (.int (known : Nat)), some (.int (truth : Nat)), o7] ∧ Grw st st') ⟨none, rfl, .refl _⟩ (fun t σ st1 ht ⟨o7, e, g⟩ N hN => ?_) (fun σ st1 ⟨o7, e, g⟩ => ?_)
  · subst e
    refine ⟨trivial, ?_⟩
    rw [Int.zero_add]
    have m1 := mono_eq (hle t ht)
    walk_at "v"
    refine ixr (g.rd h1) (told_at ht) ?_
    unfold pairD
    walk_at "v"
    refine ixr (g.rd h2) (eld_at ht) ?_
    unfold pairD
    walk_at "v"
    refine ixr (g.rd h2) (eld_at ht) ?_
    unfold pairD
    walk_at "v"
    rw [andN, m1.1]
    refine wayF (by simp) ?_
    walk_at "v"
    refine ixr (g.rd h1) (told_at ht) ?_
    unfold pairD
    walk_at "v"
    refine ixr (g.rd h2) (eld_at ht) ?_
    unfold pairD
    walk_at "v"
    refine ixr (g.rd h2) (eld_at ht) ?_
    unfold pairD
    walk_at "v"
    rw [andN, m1.2]
    refine wayF (by simp) ?_
    walk_at "v"
    refine ixr (g.rd hr) (d := iN (R.getD t 0)) (atD_nat (by omega) (by rw [Int.toNat_natCast, List.getElem?_map, List.getD_eq_getElem?_getD, List.getElem?_eq_getElem (show t < R.length by omega)]; rfl)) ?_
    unfold iN
    walk_at "v"
    refine way (fun e0 => ?_) (fun e0 => ?_)
    · have e0 : Builtin.bitAnd (R.getD t 0 : Nat) (Builtin.bitNot (known : Nat)) = 0 := by simpa using e0
      have hw := hwh t ht e0
      have hwd := S.wid t _ (has_wd ht)
      obtain ⟨W, hW⟩ : ∃ W : Nat, (ns[t]).wd = W := ⟨(ns[t]).wd.toNat, by omega⟩
      obtain ⟨v0, v1, _⟩ := val_bd (sp := sp) S ht truth
      obtain ⟨z, hz⟩ := nat_of v0
      rw [hz, hW, fullI_N] at v1
      rw [hW, hz, Int.toNat_natCast, Int.toNat_natCast] at hw
      have hzl : z < 2 ^ W := by have := fulN_lt W; omega
      obtain ⟨r, hr1, hr2⟩ := hcols t ht
      walk_at "v"
      refine ixr (g.rd h1) (told_at ht) ?_
      unfold pairD
      walk_at "v"
      refine at_is (at_nd ht) ?_
      rw [dat_eq ns[t], hW]
      walk_at "v"
      refine ⟨cpow_small (by omega) (by omega), ?_⟩
      walk_at "v"
      rw [Int.toNat_natCast, ones_eq, fullI_N]
      refine ixr (g.rd hc) (d := .ref r) (atD_nat (by omega) (by rw [Int.toNat_natCast, List.getElem?_map, hr1]; rfl)) ?_
      walk_at "v"
      refine ixr (g.rd hr2) (d := .int (valAt sp ns t truth)) (atD_nat (by omega) (by unfold colD; rw [Int.toNat_natCast, List.getElem?_map, List.getElem?_range htr]; rfl)) ?_
      walk_at "v"
      rw [hz]
      have ek : fulN W = kn (ofN W z) := (ofN_kn W z).symm
      have ev : z = vl (ofN W z) := (ofN_vl hzl).symm
      rw [show (D.tup [.int ((fulN W : Nat) : Int), .int ((z : Nat) : Int)]) = .tup [.int (kn (ofN W z) : Nat), .int (vl (ofN W z) : Nat)] by rw [← ek, ← ev]]
      refine ne_pairD hw ?_
      walk_at "v"
      exact hN _ _ ⟨_, rfl, g⟩
    · walk_at "v"
      exact hN _ _ ⟨_, rfl, g⟩
  · subst e
    refine ⟨trivial, ?_⟩
    walk_at "v"
    exact q _ g
end
end Pk35
end PartPdk35P8

section PartPdk35P9
set_option Elab.async false
set_option linter.all false
set_option maxRecDepth 100000
set_option maxHeartbeats 1000000
namespace Pk35
open PySem Pd
local macro_rules | `(tactic| walk_at "s") => `(tactic| (repeat (refine Red.red ?_)))
local macro_rules | `(tactic| walk_at "r") => `(tactic| (repeat (first | refine Red.red ?_ | refine Nxt.mk ?_)))
local macro_rules | `(tactic| walk_at "t") => `(tactic| (repeat (first | refine Red.red ?_ | refine Nxt.mk ?_ | refine ⟨by decide +kernel, by decide +kernel, wayF (by decide +kernel) ?_⟩ | refine ⟨by decide +kernel, by decide +kernel, wayT (by decide +kernel) ?_⟩ | refine ⟨by decide +kernel, ?_⟩ | refine ⟨Nat.le_of_ble_eq_true rfl, ?_⟩ | refine at_is rfl ?_)))
local instance inNewI {x : D} {xs : List D} {st : Store} {r : Bool → Prop} : Red (inC x (.ref st.length) (st ++ [.lst xs]) r) (x.flat = true ∧ xs.all D.flat = true ∧ r (xs.any fun y => D.eqb y x)) := ⟨fun h => ⟨xs, .inl (by simp [rdL]), h⟩⟩
local macro_rules | `(tactic| walk_at "w") => `(tactic| (repeat (first | refine Red.red ?_ | refine Nxt.mk ?_ | refine wayF rfl ?_ | refine wayT rfl ?_ | refine ⟨Nat.le_of_ble_eq_true rfl, ?_⟩ | refine at_is rfl ?_)))
local macro_rules | `(tactic| walk_at "v") => `(tactic| (repeat (first | refine Red.red ?_ | refine Nxt.mk ?_ | refine ⟨Nat.le_of_ble_eq_true rfl, ?_⟩ | refine at_is rfl ?_)))
local macro_rules | `(tactic| walk_at "u") => `(tactic| (repeat (first | refine Red.red ?_ | refine Nxt.mk ?_ | refine ⟨Nat.le_of_ble_eq_true rfl, ?_⟩ | refine at_is rfl ?_ | refine ⟨by decide +kernel, by decide +kernel, wayF (by decide +kernel) ?_⟩ | refine ⟨by decide +kernel, by decide +kernel, wayT (by decide +kernel) ?_⟩ | refine ⟨by decide +kernel, by decide +kernel, ?_⟩ | refine wayF (by decide +kernel) ?_ | refine wayT (by decide +kernel) ?_)))
/-! k35, ninth text: cubes along the row; the law. Own work. -/
theorem low_succ {sp : List Nat} {i : Nat} (h : i < sp.length) : low sp (i + 1) = low sp i + sp.getD i 0 := by
  unfold low
  rw [List.take_add_one, List.getElem?_eq_getElem h, List.sum_append, List.getD_eq_getElem?_getD, List.getElem?_eq_getElem h]
  simp
theorem low_mono (sp : List Nat) {i j : Nat} (h : i ≤ j) : low sp i ≤ low sp j := by
  unfold low
  have e : (sp.take j).take i = sp.take i := by rw [List.take_take, Nat.min_eq_left h]
  have := low_le (sp.take j) i
  unfold low at this
  rw [e] at this
  exact this
theorem low_uniq {sp : List Nat} {i i' b b' : Nat} (hi : i < sp.length) (hi' : i' < sp.length) (hb : b < sp.getD i 0) (hb' : b' < sp.getD i' 0) (h : low sp i + b = low sp i' + b') : i = i' ∧ b = b' := by
  rcases Nat.lt_trichotomy i i' with e | e | e
  · have h1 := low_mono sp (Nat.succ_le_of_lt e)
    have h2 := low_succ hi
    have h3 : low sp i.succ = low sp (i + 1) := rfl
    omega
  · subst e; exact ⟨rfl, by omega⟩
  · have h1 := low_mono sp (Nat.succ_le_of_lt e)
    have h2 := low_succ hi'
    have h3 : low sp i'.succ = low sp (i' + 1) := rfl
    omega
structure CI (sp : List Nat) (truth known : Nat) (cube : List (Nat × Nat)) : Prop where
  len : cube.length = sp.length
  bit : ∀ (i : Nat) p, cube[i]? = some p → ∀ b, p.1.testBit b = true → b < sp.getD i 0 ∧ p.2.testBit b = truth.testBit (low sp i + b)
  non : ∀ (i : Nat) p, cube[i]? = some p → ∀ b, p.1.testBit b = false → p.2.testBit b = false
  kno : ∀ s, known.testBit s = true → ∃ (i : Nat) (p : Nat × Nat) (b : Nat), cube[i]? = some p ∧ p.1.testBit b = true ∧ s = low sp i + b
theorem CI.ok {sp : List Nat} {truth known : Nat} {cube : List (Nat × Nat)} (C : CI sp truth known cube) : CubeOk cube := fun p hp k hk => by
  obtain ⟨i, hi⟩ := List.mem_iff_getElem?.mp hp
  cases h : p.1.testBit k with
  | true => rfl
  | false => rw [C.non i p hi k h] at hk; cases hk
theorem word_bit (sp : List Nat) (k i b : Nat) : (wordAt sp k i).testBit b = (decide (b < sp.getD i 0) && k.testBit (low sp i + b)) := by
  unfold wordAt
  rw [Nat.testBit_mod_two_pow, Nat.testBit_shiftRight]
theorem CI.fit {sp : List Nat} {truth known : Nat} {cube : List (Nat × Nat)} (C : CI sp truth known cube) {k : Nat} (hk : ∀ (i : Nat) p b, cube[i]? = some p → p.1.testBit b = true → k.testBit (low sp i + b) = truth.testBit (low sp i + b)) : FitC cube (wordsOf sp k) := fun i p hp => by
  have hi : i < sp.length := by rw [← C.len]; exact (List.getElem?_eq_some_iff.mp hp).1
  refine ⟨by unfold wordsOf; simpa using hi, fun b => ?_⟩
  unfold trC
  cases h : p.1.testBit b with
  | false => exact .inl rfl
  | true =>
    obtain ⟨h1, h2⟩ := C.bit i p hp b h
    refine .inr ?_
    rw [if_pos rfl, h2, words_at hi, Int.toNat_natCast, word_bit, decide_eq_true h1, hk i p b hp h]
    rfl
theorem or_fold (f : Nat → Nat) (s : Nat) : ∀ (l : List Nat) (a : Nat), (l.foldl (fun r p => r ||| f p) a).testBit s = (a.testBit s || l.any fun p => (f p).testBit s)
  | [], a => by simp
  | p :: l, a => by rw [List.foldl_cons, or_fold f s l, Nat.testBit_or, List.any_cons, Bool.or_assoc]
theorem whole_all {sp : List Nat} {truth known : Nat} {cube : List (Nat × Nat)} {ns : List Nd} {R : List Nat} (C : CI sp truth known cube) (S : Sheet ns) (hcs : CmpS ns) (hin : InpS sp ns) (hR : ∀ (t : Nat) x, ns[t]? = some x → R.getD t 0 = bitsOf sp (fun p => R.getD p 0) x) (t : Nat) : ∀ ht : t < ns.length, (∀ s, (R.getD t 0).testBit s = true → known.testBit s = true) → trT cube ns t = ofN (ns[t]).wd.toNat (valAt sp ns t truth).toNat := by
  induction t using Nat.strongRecOn with
  | _ t ih =>
    intro ht hk
    have hx := List.getElem?_eq_getElem ht
    rw [hR t _ hx] at hk
    cases hlf : leafB ns[t] with
    | true =>
      have hmem := List.getElem_mem ht
      obtain ⟨S', G⟩ := S.pre hx
      rw [trT_eq S hx, show valAt sp ns t truth = _ from valsN_at S hx]
      generalize ns[t] = x at *
      cases x with
      | word w v => rfl
      | inp w i =>
        obtain ⟨W, rfl⟩ : ∃ W : Nat, w = W := ⟨w.toNat, by have := G.1; omega⟩
        obtain ⟨hi, hw⟩ := hin _ hmem _ _ rfl
        have hic : i < cube.length := by rw [C.len]; exact hi
        have hp := List.getElem?_eq_getElem hic
        show (match cube[i]? with | some p => mk3 ((W : Int)).toNat fun k => if p.1.testBit k then some (p.2.testBit k) else none | none => mk3 ((W : Int)).toNat fun _ => none) = ofN ((W : Int)).toNat (if i < (wordsOf sp truth).length then Builtin.bitAnd ((wordsOf sp truth).getD i 0) (fullI (W : Int)) else 0).toNat
        rw [hp, if_pos (by unfold wordsOf; simpa using hi), words_at hi, maskN, Int.toNat_natCast, ofN_mod, ofN_mk]
        refine mk_congrB fun b hb => ?_
        have hs : ((2 ^ W - 1) <<< low sp i).testBit (low sp i + b) = true := by
          rw [Nat.testBit_shiftLeft, decide_eq_true (Nat.le_add_right _ _), Nat.add_sub_cancel_left, Nat.testBit_two_pow_sub_one, decide_eq_true hb]; rfl
        have hk1 := hk (low sp i + b) hs
        obtain ⟨i', p', b', h1, h2, h3⟩ := C.kno _ hk1
        have hi' : i' < sp.length := by rw [← C.len]; exact (List.getElem?_eq_some_iff.mp h1).1
        have hb' := (C.bit i' p' h1 b' h2).1
        obtain ⟨rfl, rfl⟩ := low_uniq hi hi' (show b < sp.getD i 0 by omega) hb' h3
        rw [hp] at h1
        cases h1
        rw [if_pos h2, (C.bit i _ hp b h2).2, word_bit, decide_eq_true hb']
        rfl
      | one o w a => cases hlf
      | two o w a b => cases hlf
      | pick w c a b => cases hlf
    | false =>
      refine trT_whole S hcs (words_nn sp truth) hx hlf fun p hpp hpl => ih p (S.part_lt hx p hpp) hpl fun s hs => hk s ?_
      have eb : bitsOf sp (fun p => R.getD p 0) ns[t] = (Pd.parts ns[t]).foldl (fun r p => r ||| R.getD p 0) 0 := by cases hy : ns[t] <;> first | rfl | (rw [hy] at hlf; cases hlf)
      rw [eb, or_fold, Bool.or_eq_true, List.any_eq_true]
      exact .inr ⟨p, hpp, hs⟩
theorem andnot_bits {r known : Nat} (h : Builtin.bitAnd (r : Int) (Builtin.bitNot (known : Int)) = 0) : ∀ s, r.testBit s = true → known.testBit s = true := by
  rw [andnotN] at h
  have h0 : ldiff r known = 0 := by omega
  intro s hs
  have := ldiff_bit r known s
  rw [h0, Nat.zero_testBit, hs] at this
  cases hk : known.testBit s with
  | true => rfl
  | false => rw [hk] at this; cases this
theorem one_shl (b k : Nat) : (1 <<< b).testBit k = decide (k = b) := by
  rw [Nat.testBit_shiftLeft]
  by_cases h : k = b
  · subst h; simp
  · rw [decide_eq_false h]
    by_cases h2 : b ≤ k
    · rw [decide_eq_true (show k ≥ b from h2), Bool.true_and]
      have : ¬ k - b = 0 := by omega
      obtain ⟨m, hm⟩ : ∃ m, k - b = m + 1 := ⟨k - b - 1, by omega⟩
      rw [hm, Nat.testBit_lt_two_pow (show 1 < 2 ^ (m + 1) by rw [Nat.pow_succ]; have := Nat.two_pow_pos m; omega)]
    · rw [decide_eq_false (show ¬ k ≥ b from h2), Bool.false_and]
theorem bool_shl (v : Bool) (b k : Nat) : (v.toNat <<< b).testBit k = (v && decide (k = b)) := by
  cases v with
  | true => show (1 <<< b).testBit k = _; rw [one_shl, Bool.true_and]
  | false => simp
/-- the pair with one bit more -/
def addBit (p : Nat × Nat) (b : Nat) (v : Bool) : Nat × Nat := (p.1 ||| (1 <<< b), p.2 ||| (v.toNat <<< b))
theorem CI.step {sp : List Nat} {truth known : Nat} {cube : List (Nat × Nat)} (C : CI sp truth known cube) {i b : Nat} {p : Nat × Nat} (hp : cube[i]? = some p) (hb : b < sp.getD i 0) :
    CI sp truth (known ||| (1 <<< (low sp i + b))) (cube.set i (addBit p b (truth.testBit (low sp i + b)))) ∧ LeC cube (cube.set i (addBit p b (truth.testBit (low sp i + b)))) := by
  have hic := (List.getElem?_eq_some_iff.mp hp).1
  have at' : ∀ (j : Nat) q, (cube.set i (addBit p b (truth.testBit (low sp i + b))))[j]? = some q → (j = i ∧ q = addBit p b (truth.testBit (low sp i + b))) ∨ (j ≠ i ∧ cube[j]? = some q) := fun j q hq => by
    by_cases e : j = i
    · subst e
      rw [List.getElem?_set_self hic] at hq
      cases hq
      exact .inl ⟨rfl, rfl⟩
    · rw [List.getElem?_set_ne (Ne.symm e)] at hq
      exact .inr ⟨e, hq⟩
  refine ⟨⟨by rw [List.length_set]; exact C.len, fun j q hq k hk => ?_, fun j q hq k hk => ?_, fun s hs => ?_⟩, by rw [List.length_set], fun j q q' hq hq' k => ?_⟩
  · rcases at' j q hq with ⟨rfl, rfl⟩ | ⟨_, h⟩
    · have hk : (p.1 ||| (1 <<< b)).testBit k = true := hk
      rw [Nat.testBit_or, one_shl, Bool.or_eq_true] at hk
      show _ ∧ (p.2 ||| ((truth.testBit (low sp j + b)).toNat <<< b)).testBit k = _
      rw [Nat.testBit_or, bool_shl]
      by_cases e : k = b
      · subst e
        refine ⟨hb, ?_⟩
        rw [decide_eq_true rfl, Bool.and_true]
        cases h1 : p.1.testBit k with
        | true => rw [(C.bit j p hp k h1).2, Bool.or_self]
        | false => rw [C.non j p hp k h1, Bool.false_or]
      · rw [decide_eq_false e] at hk ⊢
        rcases hk with hk | hk
        · obtain ⟨h1, h2⟩ := C.bit j p hp k hk
          exact ⟨h1, by rw [h2, Bool.and_false, Bool.or_false]⟩
        · cases hk
    · exact C.bit j q h k hk
  · rcases at' j q hq with ⟨rfl, rfl⟩ | ⟨_, h⟩
    · have hk : (p.1 ||| (1 <<< b)).testBit k = false := hk
      rw [Nat.testBit_or, one_shl, Bool.or_eq_false_iff] at hk
      show (p.2 ||| ((truth.testBit (low sp j + b)).toNat <<< b)).testBit k = false
      rw [Nat.testBit_or, bool_shl, hk.2, C.non j p hp k hk.1, Bool.and_false, Bool.or_false]
    · exact C.non j q h k hk
  · rw [Nat.testBit_or, one_shl, Bool.or_eq_true] at hs
    rcases hs with hs | hs
    · obtain ⟨j, q, k, h1, h2, h3⟩ := C.kno s hs
      by_cases e : j = i
      · subst e
        rw [hp] at h1
        cases h1
        refine ⟨j, _, k, List.getElem?_set_self hic, ?_, h3⟩
        show (p.1 ||| (1 <<< b)).testBit k = true
        rw [Nat.testBit_or, h2, Bool.true_or]
      · exact ⟨j, q, k, by rw [List.getElem?_set_ne (Ne.symm e)]; exact h1, h2, h3⟩
    · refine ⟨i, _, b, List.getElem?_set_self hic, ?_, by simpa using hs⟩
      show (p.1 ||| (1 <<< b)).testBit b = true
      rw [Nat.testBit_or, one_shl, decide_eq_true rfl, Bool.or_true]
  · rcases at' j q' hq' with ⟨rfl, rfl⟩ | ⟨_, h⟩
    · rw [hp] at hq
      cases hq
      unfold trC
      cases h1 : p.1.testBit k with
      | false => exact .inl rfl
      | true =>
        refine .inr ?_
        show _ = if (p.1 ||| (1 <<< b)).testBit k then some ((p.2 ||| ((truth.testBit (low sp j + b)).toNat <<< b)).testBit k) else none
        rw [Nat.testBit_or, h1, Bool.true_or, if_pos rfl, if_pos rfl, Nat.testBit_or, bool_shl]
        by_cases e : k = b
        · subst e
          rw [decide_eq_true rfl, (C.bit j p hp k h1).2, Bool.and_true, Bool.or_self]
        · rw [decide_eq_false e, Bool.and_false, Bool.or_false]
    · rw [h] at hq
      cases hq
      exact .refl _
theorem CI.start {sp : List Nat} {truth : Nat} : CI sp truth 0 (sp.map fun _ => (0, 0)) := by
  refine ⟨by simp, fun i p hp b hb => ?_, fun i p hp b _ => ?_, fun s hs => by simp at hs⟩
  · rw [List.getElem?_map] at hp
    cases h : sp[i]? with
    | none => rw [h] at hp; cases hp
    | some x => rw [h] at hp; cases hp; simp at hb
  · rw [List.getElem?_map] at hp
    cases h : sp[i]? with
    | none => rw [h] at hp; cases hp
    | some x => rw [h] at hp; cases hp; simp
theorem fold_congr {f g : Nat → Nat} : ∀ (l : List Nat) (a : Nat), (∀ p ∈ l, f p = g p) → l.foldl (fun r p => r ||| f p) a = l.foldl (fun r p => r ||| g p) a
  | [], _, _ => rfl
  | p :: l, a, h => by rw [List.foldl_cons, List.foldl_cons, h p (by simp), fold_congr l _ fun q hq => h q (List.mem_cons_of_mem _ hq)]
theorem bits_congr {sp : List Nat} {f g : Nat → Nat} {x : Nd} (h : ∀ p ∈ Pd.parts x, f p = g p) : bitsOf sp f x = bitsOf sp g x := by
  cases x with
  | word w v => rfl
  | inp w i => rfl
  | one o w a => exact fold_congr _ 0 h
  | two o w a b => exact fold_congr _ 0 h
  | pick w c a b => exact fold_congr _ 0 h
theorem getD_app {R : List Nat} {b p : Nat} (h : p < R.length) : (R ++ [b]).getD p 0 = R.getD p 0 := by
  rw [List.getD_eq_getElem?_getD, List.getD_eq_getElem?_getD, List.getElem?_append_left h]
theorem inv_map {V : Nat × Nat → Prop} {f : Nat × Nat → D} : ∀ ys : List D, (∀ y ∈ ys, ∃ q, y = f q ∧ V q) → ∃ ql : List (Nat × Nat), ys = ql.map f ∧ ∀ q ∈ ql, V q
  | [], _ => ⟨[], rfl, by simp⟩
  | y :: ys, h => by
    obtain ⟨q, e, hq⟩ := h y (by simp)
    obtain ⟨ql, e2, h2⟩ := inv_map ys fun z hz => h z (List.mem_cons_of_mem _ hz)
    exact ⟨q :: ql, by rw [e, e2]; rfl, fun z hz => (List.mem_cons.mp hz).elim (fun e => by rw [e]; exact hq) (h2 z)⟩
def plD (q : Nat × Nat) : D := .tup [.int (q.1 : Int), .int (q.2 : Int)]
theorem law_holds (ns : List Int) (hl : ns.length ≤ 63) (hb : ∀ z ∈ ns, PySem.Builtin.Int.intBits z ≤ 1048576) : callN prog 61 "law" [.ref 0] [.frz (ns.map D.int)] (fun d _ => d = .bl true) := by
  refine call_intro rfl rfl ?_
  unfold b_l_law
  walk_at "s"
  refine begin_ok rfl hl fun st1 hd1 hl1 => ?_
  walk_at "r"
  refine spans_ok (by omega) (fun st2 n2 g2 ⟨rs0, h0, h01, h02⟩ hn2 => ?_)
  have f2 := g2.fra hd1
  walk_at "r"
  refine pickF (f := D.ref) (xs := rs0) (by omega) f2.dr h0 (by omega) (by omega) (by omega) (fun r st3 hr f3 => ?_)
  obtain ⟨hr1, sp, P, hsp2⟩ := h02 r hr
  have hs3 := f3.rd hsp2 (by omega)
  have hr3 : 2 < r := by omega
  walk_at "r"
  refine drawM (by omega) f3.dr (by omega) (by omega) (fun a1 st4 a1a a1b f4 => ?_)
  walk_at "r"
  refine drawM (by omega) f4.dr (by omega) (by omega) (fun a2 st5 a2a a2b f5 => ?_)
  walk_at "r"
  have hs5 := (f4.trans f5).rd hs3 (by omega)
  refine span_sheet_ok (by omega) P f5.dr hs5 hr3 (by omega) (by omega) (by omega) (by omega) (fun nd st6 S hcs hin hln f6 => ?_)
  have hs6 := f6.rd hs5 (by omega)
  walk_at "v"
  have hd6 := f6.dr
  clear f2 f3 f4 f5 f6 hs3 hs5 h02 h0 g2 hsp2
  have lt6 := hd6.lt
  refine for_map nd Nd.dat rfl (fun j σ st' => ∃ (o6 : Option D) (rs R : List Nat), σ = [some (.ref 0), some (.ref 2), some (.ref r), some (.tup (nd.map Nd.dat)), some (.ref st6.length), some (.ref (st6.length + 1)), o6, none, none, none, none, none, none, none, none, none, none, none, none, none, none] ∧ Grw st6 st' ∧ rdL st' st6.length (rs.map D.ref) ∧ rdL st' (st6.length + 1) (R.map iN) ∧ rs.length = j ∧ R.length = j ∧ (∀ p, p < j → ∃ m, rs[p]? = some m ∧ st6.length + 1 < m ∧ rdL st' m (colD (2 ^ sp.sum) (valAt sp nd p))) ∧ ∀ t x, t < j → nd[t]? = some x → R.getD t 0 = bitsOf sp (fun p => R.getD p 0) x) ⟨none, [], [], ?_, ?_, ?_, ?_, rfl, rfl, fun p hp => absurd hp (by omega), fun t x ht => absurd ht (by omega)⟩ (fun j x σ st' hx ⟨o6, rs, R, e, g, h1, h2, l1, l2, hc, hR⟩ N hN => ?_) (fun σ st' ⟨o6, rs, R, e, g, h1, h2, l1, l2, hc, hR⟩ => ?_)
  · rw [List.length_append]; rfl
  · exact .app (.app (.refl _))
  · exact rdL_app rdL_new
  · have := rdL_new (st := st6 ++ [C.lst []]) (xs := [])
    rwa [List.length_append] at this
  · subst e
    refine ⟨trivial, ?_⟩
    have hjn := (List.getElem?_eq_some_iff.mp hx).1
    have c5 := rdL_lt h2
    have hxm := List.mem_of_getElem? hx
    walk_at "v"
    refine ⟨⟨_, h1⟩, ?_⟩
    walk_at "v"
    refine node_column_ok (k := 57) P S hx (fun w i e => (hin x hxm w i e).1) (g.rd hs6) h1 (fun p hp => by obtain ⟨m, a, _, b⟩ := hc p hp; exact ⟨m, a, b⟩) (fun st7 m7 g7 hm7 h7 => ?_)
    walk_at "v"
    refine append_at (g7.rd h1) (by rw [List.length_map]; unfold szl; omega) ?_
    have n45 : st6.length ≠ st6.length + 1 := by omega
    have h28 := rdL_ne (c := C.lst (rs.map D.ref ++ [.ref m7])) (g7.rd h2) n45.symm
    have g8 : Grw st6 (st7.set st6.length (.lst (rs.map D.ref ++ [.ref m7]))) := Grw_setN (g.trans g7) (Nat.le_refl _)
    walk_at "v"
    refine ⟨⟨_, h28⟩, ?_⟩
    walk_at "v"
    obtain ⟨_, G⟩ := S.pre hx
    refine reached_ok (k := 59) P (g8.rd hs6) h28 G (fun w i e => (hin x hxm w i e).1) (fun p hp => by have := S.part_lt hx p hp; omega) (fun st9 g9 => ?_)
    walk_at "v"
    refine append_at (g9.rd h28) (by rw [List.length_map]; unfold szl; omega) ?_
    refine hN _ _ ⟨_, rs ++ [m7], R ++ [bitsOf sp (fun p => R.getD p 0) x], rfl, Grw_setN (g8.trans g9) (by omega), ?_, ?_, by rw [List.length_append, l1]; rfl, by rw [List.length_append, l2]; rfl, fun p hp => ?_, fun t y ht hy => ?_⟩
    · rw [List.map_append]
      exact rdL_ne (g9.rd (rdL_set (g7.rd h1))) n45
    · rw [List.map_append]
      exact rdL_set (g9.rd h28)
    · rcases Nat.lt_or_eq_of_le (Nat.le_of_lt_succ hp) with h | h
      · obtain ⟨m, a, b, c⟩ := hc p h
        exact ⟨m, by rw [List.getElem?_append_left (by omega)]; exact a, b, rdL_ne (g9.rd (rdL_ne (g7.rd c) (by omega))) (by omega)⟩
      · subst h
        exact ⟨m7, by rw [List.getElem?_append_right (by omega), l1, Nat.sub_self]; rfl, by omega, rdL_ne (g9.rd (rdL_ne h7 (by omega))) (by omega)⟩
    · rcases Nat.lt_or_eq_of_le (Nat.le_of_lt_succ ht) with h | h
      · rw [getD_app (by omega), hR t y h hy]
        exact bits_congr fun p hp => (getD_app (by have := S.part_lt hy p hp; omega)).symm
      · subst h
        rw [hx] at hy
        cases hy
        rw [List.getD_eq_getElem?_getD, List.getElem?_append_right (by omega), l2, Nat.sub_self]
        exact bits_congr fun p hp => (getD_app (by have := S.part_lt hx p hp; omega)).symm
  · subst e
    refine ⟨trivial, ?_⟩
    have f6 := g.fra hd6
    have hs7 := g.rd hs6
    have htot := P.tot
    have hplen := P.len
    walk_at "v"
    refine sum_at (by rw [← iN_int]; exact hs7) ?_
    rw [sum_cast]
    walk_at "v"
    refine ⟨cpow_small (by omega) (by omega), ?_⟩
    have hRm := room_le P
    have hR0 := Nat.two_pow_pos sp.sum
    rw [Int.toNat_natCast, Int.one_mul, pow_cast]
    refine drawM (by omega) f6.dr (by omega) (by omega) (fun tr st8 tr0 tr1 f8 => ?_)
    obtain ⟨truth, rfl⟩ := nat_of tr0
    have hs8 := f8.rd hs7 (by omega)
    walk_at "v"
    refine len_at (rdL_app hs8) ?_
    rw [List.length_map]
    walk_at "v"
    refine ⟨by omega, by omega, ?_⟩
    have c8 := rdL_new (st := st8) (xs := [])
    have hd8 := f8.dr.app (c := C.lst [])
    have lt8 := f8.dr.lt
    have hfix : ∀ {st' : Store}, FraG st8.length (st8 ++ [C.lst []]) st' → True := fun _ => trivial
    refine for_rng (fun j σ st' => ∃ (o9 : Option D) (pl : List (Nat × Nat)), σ = [some (.ref 0), some (.ref 2), some (.ref r), some (.tup (nd.map Nd.dat)), some (.ref st6.length), some (.ref (st6.length + 1)), o6, some (.int (truth : Nat)), some (.ref st8.length), o9, none, none, none, none, none, none, none, none, none, none, none] ∧ Fra st8 st' ∧ rdL st' st8.length (pl.map plD) ∧ pl.length ≤ 8 * j ∧ ∀ q ∈ pl, q.1 < sp.length ∧ q.2 < sp.getD q.1 0) ⟨none, [], rfl, (Fra.refl f8.dr).app, c8, by simp, by simp⟩ (fun j σ st9 hj ⟨o9, pl, e, f9, h9, hpl, hq⟩ N hN => ?_) (fun σ st9 ⟨o9, pl, e, f9, h9, hpl, hq⟩ => ?_)
    · subst e
      refine ⟨trivial, ?_⟩
      rw [Int.zero_add]
      have hj' : j < sp.length := by omega
      have hsj : sp[j]? = some sp[j] := List.getElem?_eq_getElem hj'
      have h1j := P.one _ (List.getElem_mem hj')
      have hs9 := f9.rd hs8 (by omega)
      walk_at "v"
      refine ⟨⟨_, h9⟩, ?_⟩
      walk_at "v"
      refine ixr hs9 (d := iN sp[j]) (atD_nat (by omega) (by rw [Int.toNat_natCast, List.getElem?_map, hsj]; rfl)) ?_
      unfold iN
      walk_at "v"
      refine ⟨by omega, by omega, ?_⟩
      rw [Int.toNat_natCast]
      refine lc_map (List.range sp[j]) n0 (fun b => plD (j, b)) rfl (by simp [szl]; omega) (fun _ => trivial) (fun b hb acc N' hN' => ?_) ?_
      · rw [n0_eq]
        walk_at "v"
        exact hN'
      · walk_at "v"
        have hnew := rdL_new (st := st9) (xs := (List.range sp[j]).map fun b => plD (j, b))
        refine ⟨_, _, rdL_app h9, hnew, Nat.ne_of_lt (rdL_lt h9), by rw [List.length_map, List.length_map, List.length_range]; unfold szl; omega, ?_⟩
        walk_at "v"
        refine hN _ _ ⟨some (.int (j : Int)), pl ++ (List.range sp[j]).map fun b => (j, b), rfl, f9.app.set (Nat.le_refl _) lt8, ?_, ?_, fun q hqm => ?_⟩
        · rw [List.map_append, List.map_map]
          exact rdL_set (rdL_app h9)
        · rw [List.length_append, List.length_map, List.length_range]; omega
        · rcases List.mem_append.mp hqm with h | h
          · exact hq q h
          · obtain ⟨b, hb, rfl⟩ := List.mem_map.mp h
            refine ⟨hj', ?_⟩
            rw [List.getD_eq_getElem?_getD, hsj]
            exact List.mem_range.mp hb
    · subst e
      refine ⟨trivial, ?_⟩
      walk_at "v"
      refine shuffled_ok (k := 58) rfl rfl f9.dr h9 (by omega) (by rw [List.length_map]; omega) (fun fn ys st10 hperm hfn h10 f10 => ?_)
      obtain ⟨ql, rfl, hql, hqln⟩ : ∃ ql : List (Nat × Nat), ys = ql.map plD ∧ (∀ q ∈ ql, q.1 < sp.length ∧ q.2 < sp.getD q.1 0) ∧ ql.length = pl.length := by
        have hlen := hperm.length_eq
        rw [List.length_map] at hlen
        obtain ⟨ql, e1, e2⟩ := inv_map ys fun y hy => by
          obtain ⟨q, hq1, e⟩ := List.mem_map.mp (hperm.mem_iff.mp hy)
          exact ⟨q, e.symm, hq q hq1⟩
        exact ⟨ql, e1, e2, by rw [← hlen, e1, List.length_map]⟩
      have hql24 : ql.length ≤ 24 := by omega
      have f810 := f9.trans f10
      have hs10 := f810.rd hs8 (by omega)
      walk_at "v"
      refine it_at hs10 ?_
      refine lc_map sp iN (fun _ => pairI (0, 0)) rfl (by simp [szl]; omega) (fun acc => .inl (rdL_app hs10)) (fun x hx acc N' hN' => by walk_at "v"; exact hN') ?_
      have hc10 := rdL_new (st := st10) (xs := (sp.map fun _ => ((0 : Nat), (0 : Nat))).map pairI)
      have ec10 : (sp.map fun _ => pairI (0, 0)) = (sp.map fun _ => ((0 : Nat), (0 : Nat))).map pairI := by rw [List.map_map]; rfl
      rw [ec10]
      walk_at "v"
      refine sum_at (by rw [← iN_int]; exact rdL_app hs10) ?_
      rw [sum_cast]
      walk_at "v"
      refine ⟨cpow_small (by omega) (by omega), ?_⟩
      rw [Int.toNat_natCast, Int.one_mul, pow_cast]
      walk_at "v"
      refine ⟨⟨by omega, by omega, by omega, by omega, by omega⟩, ?_⟩
      have erng : rng 0 (((2 ^ sp.sum : Nat) : Int) - 0).toNat = (List.range (2 ^ sp.sum)).map iN := by
        rw [Int.sub_zero, Int.toNat_natCast]
        unfold rng iN
        simp
      rw [erng]
      have hc11 := rdL_app (c := C.lst ((List.range (2 ^ sp.sum)).map iN)) hc10
      have hL11 := rdL_new (st := st10 ++ [C.lst ((sp.map fun _ => ((0 : Nat), (0 : Nat))).map pairI)]) (xs := (List.range (2 ^ sp.sum)).map iN)
      rw [List.length_append] at hL11
      walk_at "v"
      refine lc_map nd Nd.dat (fun _ => pairI (0, 0)) rfl (by simp [szl]; omega) (fun _ => trivial) (fun x hx acc N' hN' => by walk_at "v"; exact hN') ?_
      walk_at "v"
      have hfn := rdL_app (c := C.lst (nd.map fun _ => pairI (0, 0))) (rdL_app (c := C.lst ((List.range (2 ^ sp.sum)).map iN)) (rdL_app (c := C.lst ((sp.map fun _ => ((0 : Nat), (0 : Nat))).map pairI)) h10))
      refine len_at hfn ?_
      rw [List.length_map]
      walk_at "v"
      refine ⟨by omega, by omega, ?_⟩
      have el1 : (st10 ++ [C.lst ((sp.map fun _ => ((0 : Nat), (0 : Nat))).map pairI)]).length = st10.length + 1 := by simp
      have el2 : ((st10 ++ [C.lst ((sp.map fun _ => ((0 : Nat), (0 : Nat))).map pairI)]) ++ [C.lst ((List.range (2 ^ sp.sum)).map iN)]).length = st10.length + 2 := by simp
      have hE13 := rdL_new (st := (st10 ++ [C.lst ((sp.map fun _ => ((0 : Nat), (0 : Nat))).map pairI)]) ++ [C.lst ((List.range (2 ^ sp.sum)).map iN)]) (xs := nd.map fun _ => pairI (0, 0))
      have hc13 := rdL_app (c := C.lst (nd.map fun _ => pairI (0, 0))) hc11
      have hL13 := rdL_app (c := C.lst (nd.map fun _ => pairI (0, 0))) hL11
      have f13 : Fra st10 (((st10 ++ [C.lst ((sp.map fun _ => ((0 : Nat), (0 : Nat))).map pairI)]) ++ [C.lst ((List.range (2 ^ sp.sum)).map iN)]) ++ [C.lst (nd.map fun _ => pairI (0, 0))]) := (((Fra.refl f10.dr).app).app).app
      rw [el2] at hE13
      rw [el1, el2]
      generalize ((st10 ++ [C.lst ((sp.map fun _ => ((0 : Nat), (0 : Nat))).map pairI)]) ++ [C.lst ((List.range (2 ^ sp.sum)).map iN)]) ++ [C.lst (nd.map fun _ => pairI (0, 0))] = st13 at hfn hE13 hc13 hL13 f13 ⊢
      have hE0 : (nd.map fun _ => pairI (0, 0)) = eldD (fun t => mk3 (trT (sp.map fun _ => (0, 0)) nd t).length fun _ => none) nd.length := by
        unfold eldD
        apply List.ext_getElem (by simp)
        intro t _ _
        rw [List.getElem_map, List.getElem_map, nones_pair]; rfl
      rw [hE0] at hE13
      have hCI : CI sp truth 0 (sp.map fun _ => (0, 0)) := CI.start
      refine for_rng (fun j σ st' => ∃ (o9 o14 o15 o16 o17 o18 : Option D) (cL cE : Nat) (cube : List (Nat × Nat)) (known : Nat) (L : List Nat) (E : Nat → TriL), σ = [some (.ref 0), some (.ref 2), some (.ref r), some (.tup (nd.map Nd.dat)), some (.ref st6.length), some (.ref (st6.length + 1)), o6, some (.int (truth : Nat)), some (.ref fn), o9, some (.ref st10.length), some (.ref cL), some (.int (known : Nat)), some (.ref cE), o14, o15, o16, o17, o18, none, none] ∧ Fra st10 st' ∧ st10.length < cL ∧ st10.length < cE ∧ rdL st' st10.length (cube.map pairI) ∧ CI sp truth known cube ∧ rdL st' cL (L.map iN) ∧ L.length ≤ 256 ∧ (∀ k ∈ L, k < 2 ^ sp.sum ∧ ∀ (i : Nat) p b, cube[i]? = some p → p.1.testBit b = true → k.testBit (low sp i + b) = truth.testBit (low sp i + b)) ∧ rdL st' cE (eldD E nd.length) ∧ ∀ t, t < nd.length → LeL (E t) (trT cube nd t)) ?_ (fun j σ st' hj ⟨o9, o14, o15, o16, o17, o18, cL, cE, cube, known, L, E, e, f, lL, lE, hcb, hci, hLc, hLl, hLr, hEc, hle⟩ N hN => ?_) (fun σ st' ⟨o9, o14, o15, o16, o17, o18, cL, cE, cube, known, L, E, e, f, lL, lE, hcb, hci, hLc, hLl, hLr, hEc, hle⟩ => ?_)
      · refine ⟨o9, none, none, none, none, none, st10.length + 1, st10.length + 2, sp.map fun _ => (0, 0), 0, List.range (2 ^ sp.sum), _, rfl, f13, by omega, by omega, hc13, hCI, hL13, by rw [List.length_range]; exact hRm, fun k hk => ⟨List.mem_range.mp hk, fun i p b hp hb => ?_⟩, hE13, fun t ht => mk3_non rfl⟩
        rw [List.getElem?_map] at hp
        cases h : sp[i]? with
        | none => rw [h] at hp; cases hp
        | some x => rw [h] at hp; cases hp; simp at hb
      · subst e
        refine ⟨trivial, ?_⟩
        rw [Int.zero_add]
        refine Red.red ?_
        refine seq_cut (fun σ2 st2 => ∃ (o9 o15 o16 o17 : Option D) (cL : Nat) (cube : List (Nat × Nat)) (known : Nat) (L : List Nat), σ2 = [some (.ref 0), some (.ref 2), some (.ref r), some (.tup (nd.map Nd.dat)), some (.ref st6.length), some (.ref (st6.length + 1)), o6, some (.int (truth : Nat)), some (.ref fn), o9, some (.ref st10.length), some (.ref cL), some (.int (known : Nat)), some (.ref cE), some (.int (j : Int)), o15, o16, o17, o18, none, none] ∧ Fra st10 st2 ∧ st10.length < cL ∧ rdL st2 st10.length (cube.map pairI) ∧ CI sp truth known cube ∧ rdL st2 cL (L.map iN) ∧ L.length ≤ 256 ∧ (∀ k ∈ L, k < 2 ^ sp.sum ∧ ∀ (i : Nat) p b, cube[i]? = some p → p.1.testBit b = true → k.testBit (low sp i + b) = truth.testBit (low sp i + b)) ∧ rdL st2 cE (eldD E nd.length) ∧ ∀ t, t < nd.length → LeL (E t) (trT cube nd t)) (fun N' hN' => ?_) (fun σ2 st2 ⟨o9, o15, o16, o17, cL, cube, known, L, e2, f2, lL, hcb, hci, hLc, hLl, hLr, hEc, hle⟩ => ?_)
        · walk_at "s"
          refine way (fun hj0 => ?_) (fun hj0 => ?_)
          · have hj0 : 0 < j := by simpa using hj0
            have hjq : j - 1 < ql.length := by omega
            have le9 := f9.le
            have hq0 := List.getElem?_eq_getElem hjq
            obtain ⟨hi, hbb⟩ := hql _ (List.getElem_mem hjq)
            have hs' := f.rd hs10 (by omega)
            have hfn' := f.rd h10 (by omega)
            have hB10 : 2 < st10.length := f10.dr.lt
            obtain ⟨i, b, hqe⟩ : ∃ i b, ql[j - 1] = (i, b) := ⟨_, _, rfl⟩
            rw [hqe] at hi hbb
            have hi : i < sp.length := hi
            have hbb : b < sp.getD i 0 := hbb
            have hs1 := P.one _ (List.getElem_mem hi)
            have eg : sp.getD i 0 = sp[i] := by rw [List.getD_eq_getElem?_getD, List.getElem?_eq_getElem hi]; rfl
            have hlow := low_le sp i
            have hic : i < cube.length := by rw [hci.len]; exact hi
            have hp := List.getElem?_eq_getElem hic
            walk_at "v"
            rw [show ((j : Int) - 1) = ((j - 1 : Nat) : Int) by omega]
            refine ixr hfn' (d := .tup [.int (i : Int), .int (b : Int)]) (atD_nat (by omega) (by rw [Int.toNat_natCast, List.getElem?_map, hq0, hqe]; rfl)) ?_
            walk_at "v"
            refine ⟨rfl, ?_⟩
            walk_at "v"
            refine sl_at hs' ?_
            rw [cut_take _ (by omega), Int.toNat_natCast]
            walk_at "v"
            refine sum_at (ns := (sp.take i).map fun n : Nat => (n : Int)) (by rw [← iN_int, List.map_take]; exact rdL_new) ?_
            rw [sum_cast, show (sp.take i).sum = low sp i from rfl]
            walk_at "v"
            rw [← Int.natCast_add]
            refine ⟨by omega, ?_⟩
            walk_at "v"
            rw [Int.toNat_natCast, shrN, one_bit]
            have hcb2 := rdL_app (c := C.lst (List.take i (List.map iN sp))) hcb
            refine ixr hcb2 (d := pairI cube[i]) (atD_nat (by omega) (by rw [Int.toNat_natCast, List.getElem?_map, hp]; rfl)) ?_
            unfold pairI
            walk_at "v"
            refine ⟨⟨by omega, by omega, by decide⟩, ?_⟩
            have e1 : ((1 : Int) * (2 : Int) ^ ((b : Nat) : Int).toNat) = ((1 <<< b : Nat) : Int) := by rw [Int.toNat_natCast]; exact shlN 1 b
            rw [e1]
            walk_at "v"
            refine ixr hcb2 (d := pairI cube[i]) (atD_nat (by omega) (by rw [Int.toNat_natCast, List.getElem?_map, hp]; rfl)) ?_
            unfold pairI
            walk_at "v"
            refine ⟨⟨by omega, by omega, by cases truth.testBit (low sp i + b) <;> decide⟩, ?_⟩
            have e2 : ((((truth.testBit (low sp i + b)).toNat : Nat) : Int) * (2 : Int) ^ ((b : Nat) : Int).toNat) = (((truth.testBit (low sp i + b)).toNat <<< b : Nat) : Int) := by rw [Int.toNat_natCast]; exact shlN _ b
            rw [e2]
            walk_at "v"
            rw [orN, orN]
            refine set_at hcb2 (atD_nat (by omega) (by rw [Int.toNat_natCast, List.getElem?_map, hp]; rfl)) (by omega) ?_
            rw [Int.toNat_natCast]
            walk_at "v"
            obtain ⟨hci2, hlec⟩ := hci.step hp hbb
            have hcs1 := rdL_set (ys := (cube.map pairI).set i (pairI (addBit cube[i] b (truth.testBit (low sp i + b))))) hcb2
            have hL1 := rdL_ne (c := C.lst ((cube.map pairI).set i (pairI (addBit cube[i] b (truth.testBit (low sp i + b)))))) (rdL_app (c := C.lst (List.take i (List.map iN sp))) hLc) (show cL ≠ st10.length by omega)
            have hE1 := rdL_ne (c := C.lst ((cube.map pairI).set i (pairI (addBit cube[i] b (truth.testBit (low sp i + b)))))) (rdL_app (c := C.lst (List.take i (List.map iN sp))) hEc) (show cE ≠ st10.length by omega)
            have f1 : Fra st10 ((st' ++ [C.lst (List.take i (List.map iN sp))]).set st10.length (C.lst ((cube.map pairI).set i (pairI (addBit cube[i] b (truth.testBit (low sp i + b))))))) := f.app.set (Nat.le_refl _) hB10
            refine it_at hL1 ?_
            refine lc_filter L iN iN (fun k => k.testBit (low sp i + b) == truth.testBit (low sp i + b)) rfl (by simp [szl]; omega) (fun acc => .inl (rdL_app hL1)) (fun x hx acc N2 M2 hN2 hM2 => ?_) ?_
            · unfold iN
              walk_at "v"
              refine ⟨by omega, ?_⟩
              walk_at "v"
              rw [Int.toNat_natCast, shrN, one_bit]
              exact ⟨fun e => by walk_at "v"; exact hN2 (by cases h1 : x.testBit (low sp i + b) <;> cases h2 : truth.testBit (low sp i + b) <;> rw [h1, h2] at e <;> first | rfl | (simp at e)), fun e => hM2 (by cases h1 : x.testBit (low sp i + b) <;> cases h2 : truth.testBit (low sp i + b) <;> rw [h1, h2] at e <;> first | rfl | (simp at e))⟩
            · walk_at "v"
              refine ⟨⟨by omega, by omega, by decide⟩, ?_⟩
              rw [Int.toNat_natCast, show ((1 : Int) * (2 : Int) ^ (low sp i + b)) = ((1 <<< (low sp i + b) : Nat) : Int) from shlN 1 _]
              walk_at "v"
              rw [orN]
              have hnewL := rdL_new (st := (st' ++ [C.lst (List.take i (List.map iN sp))]).set st10.length (C.lst ((cube.map pairI).set i (pairI (addBit cube[i] b (truth.testBit (low sp i + b))))))) (xs := (L.filter fun k => k.testBit (low sp i + b) == truth.testBit (low sp i + b)).map iN)
              have le10 := f1.le
              have ltc := rdL_lt hcs1
              refine hN' _ _ ⟨_, _, _, _, _, cube.set i (addBit cube[i] b (truth.testBit (low sp i + b))), known ||| (1 <<< (low sp i + b)), L.filter fun k => k.testBit (low sp i + b) == truth.testBit (low sp i + b), rfl, f1.app, ltc, ?_, hci2, hnewL, Nat.le_trans (List.length_filter_le _ _) hLl, fun x hx => ?_, rdL_app hE1, fun t ht => (hle t ht).trans (trT_le S hcs hlec t ht)⟩
              · rw [List.map_set]; exact rdL_app hcs1
              · obtain ⟨hx1, hx2⟩ := List.mem_filter.mp hx
                obtain ⟨hx3, hx4⟩ := hLr x hx1
                refine ⟨hx3, fun i2 p2 b2 hp2 hb2 => ?_⟩
                by_cases ei : i2 = i
                · subst ei
                  rw [List.getElem?_set_self hic] at hp2
                  cases hp2
                  have hb2 : (cube[i2].1 ||| (1 <<< b)).testBit b2 = true := hb2
                  rw [Nat.testBit_or, one_shl, Bool.or_eq_true] at hb2
                  rcases hb2 with h | h
                  · exact hx4 i2 _ b2 hp h
                  · rw [show b2 = b by simpa using h]
                    simpa using hx2
                · rw [List.getElem?_set_ne (Ne.symm ei)] at hp2
                  exact hx4 i2 p2 b2 hp2 hb2
          · walk_at "v"
            exact hN' _ _ ⟨_, _, _, _, cL, cube, known, L, rfl, f, lL, hcb, hci, hLc, hLl, hLr, hEc, hle⟩
        · subst e2
          have hcl3 : cube.length ≤ 1000 := by rw [hci.len]; omega
          walk_at "v"
          refine tuple_at hcb ?_
          walk_at "v"
          have hB10 : 2 < st10.length := f10.dr.lt
          have F := (f8.trans f810).trans f2
          have hcR := F.rd h1 (by omega)
          have hcols : ColsAt st2 sp nd rs nd.length := fun p hp => by
            obtain ⟨m, a, b, c⟩ := hc p hp
            exact ⟨m, a, F.rd c (by omega)⟩
          have hRR := F.rd h2 (by omega)
          refine pairs_told_ok (k := 54) P S hcs (by omega) hcl3 hci.ok hcR hcols hLc (by omega) (fun k hk => ⟨(hLr k hk).1, hci.fit (hLr k hk).2⟩) (fun st15 m15 g15 hm15 h15 => ?_)
          walk_at "v"
          refine wayF rfl ?_
          walk_at "v"
          refine pairs_right_ok (k := 59) (E := E) P S (by omega) h15 (g15.rd hEc) hle (g15.rd hcR) (fun p hp => by obtain ⟨m, a, b⟩ := hcols p hp; exact ⟨m, a, g15.rd b⟩) (g15.rd hRR) l2 (by omega) (fun t ht h0 => whole_all hci S hcs hin (fun t x hx => hR t x (List.getElem?_eq_some_iff.mp hx).1 hx) t ht (andnot_bits h0)) (fun st16 g16 => ?_)
          walk_at "v"
          refine wayF rfl ?_
          walk_at "v"
          have gg := g15.trans g16
          have le2 := f2.le
          have lB := rdL_lt hcb
          exact hN _ _ ⟨_, _, _, _, _, _, cL, m15, cube, known, L, trT cube nd, rfl, f2.trans (gg.fra f2.dr), lL, by omega, gg.rd hcb, hci, gg.rd hLc, hLl, hLr, g16.rd h15, fun t _ => .refl _⟩
      · subst e
        refine ⟨trivial, ?_⟩
        walk_at "v"
        rfl
end Pk35
end PartPdk35P9

section PartPdk35T
open PySem PySem.W PyProof.Rows
set_option maxRecDepth 100000 in
set_option maxHeartbeats 0 in
theorem PySem.Challenge.cw_metorshut_k35_whole_cubes_holds : PySem.Challenge.rw_metorshut_k35_whole_cubes.Holds := by
  w_on; o_law; k_head; (case hw => w_witness2)
  k_fill
  refine L2.walk_ofB (l := PySem.Challenge.rw_metorshut_k35_whole_cubes) (n := 63) (k := 61) (x := "_law_script") (CX := fun _ => L2.CX0) (sp := fun w => Pd.liftF _ 1 (Pd.callN Pk35.prog 61 "law")) rfl (by decide) rfl ⟨rfl, by decide, by decide⟩ (fun w h Y => PySem.W.kIn_of Y) ?F (fun _ _ a ns hl hb hO hS => Pd.law_sp (Pk35.law_holds ns hl hb) hO hS) (fun _ _ _ _ _ h => h)
  case F =>
    intro w mg fa h KX G hmg
    refine' Pk35.all_mk KX G hmg ?a1 ?l1 ?c1 ?k1 ?a2 ?l2 ?c2 ?k2 ?a3 ?l3 ?c3 ?k3 ?a4 ?l4 ?c4 ?k4 ?a5 ?l5 ?c5 ?k5 ?a6 ?l6 ?c6 ?k6 ?a7 ?l7 ?c7 ?k7 ?a8 ?l8 ?c8 ?k8 ?a9 ?l9 ?c9 ?k9 ?a10 ?l10 ?c10 ?k10 ?a11 ?l11 ?c11 ?k11 ?a12 ?l12 ?c12 ?k12 ?a13 ?l13 ?c13 ?k13 ?a14 ?l14 ?c14 ?k14 ?a15 ?l15 ?c15 ?k15 ?a16 ?l16 ?c16 ?k16 ?a17 ?l17 ?c17 ?k17 ?a18 ?l18 ?c18 ?k18 ?a19 ?l19 ?c19 ?k19 ?a20 ?l20 ?c20 ?k20 ?a21 ?l21 ?c21 ?k21 ?a22 ?l22 ?c22 ?k22 ?a23 ?l23 ?c23 ?k23 ?a24 ?l24 ?c24 ?k24 ?a25 ?l25 ?c25 ?k25 ?a26 ?l26 ?c26 ?k26 ?a27 ?l27 ?c27 ?k27 ?a28 ?l28 ?c28 ?k28 ?a29 ?l29 ?c29 ?k29 ?a30 ?l30 ?c30 ?k30 ?a31 ?l31 ?c31 ?k31 ?a32 ?l32 ?c32 ?k32 ?a33 ?l33 ?c33 ?k33 ?a34 ?l34 ?c34 ?k34 ?a35 ?l35 ?c35 ?k35 ?a36 ?l36 ?c36 ?k36 ?a37 ?l37 ?c37 ?k37 ?z1 ?z2 ?z3 ?z4 ?z5 ?z6 ?z7 ?z8 ?z9 ?z10 ?z11 ?z12
    (case a1 => k_is); (case l1 => k_is); (case c1 => k_is); (case k1 => k_is)
    (case a2 => k_is); (case l2 => k_is); (case c2 => k_is); (case k2 => k_is)
    (case a3 => k_is); (case l3 => k_is); (case c3 => k_is); (case k3 => k_is)
    (case a4 => k_is); (case l4 => k_is); (case c4 => k_is); (case k4 => k_is)
    (case a5 => k_is); (case l5 => k_is); (case c5 => k_is); (case k5 => k_is)
    (case a6 => k_is); (case l6 => k_is); (case c6 => k_is); (case k6 => k_is)
    (case a7 => k_is); (case l7 => k_is); (case c7 => k_is); (case k7 => k_is)
    (case a8 => k_is); (case l8 => k_is); (case c8 => k_is); (case k8 => k_is)
    (case a9 => k_is); (case l9 => k_is); (case c9 => k_is); (case k9 => k_is)
    (case a10 => k_is); (case l10 => k_is); (case c10 => k_is); (case k10 => k_is)
    (case a11 => k_is); (case l11 => k_is); (case c11 => k_is); (case k11 => k_is)
    (case a12 => k_is); (case l12 => k_is); (case c12 => k_is); (case k12 => k_is)
    (case a13 => k_is); (case l13 => k_is); (case c13 => k_is); (case k13 => k_is)
    (case a14 => k_is); (case l14 => k_is); (case c14 => k_is); (case k14 => k_is)
    (case a15 => k_is); (case l15 => k_is); (case c15 => k_is); (case k15 => k_is)
    (case a16 => k_is); (case l16 => k_is); (case c16 => k_is); (case k16 => k_is)
    (case a17 => k_is); (case l17 => k_is); (case c17 => k_is); (case k17 => k_is)
    (case a18 => k_is); (case l18 => k_is); (case c18 => k_is); (case k18 => k_is)
    (case a19 => k_is); (case l19 => k_is); (case c19 => k_is); (case k19 => k_is)
    (case a20 => k_is); (case l20 => k_is); (case c20 => k_is); (case k20 => k_is)
    (case a21 => k_is); (case l21 => k_is); (case c21 => k_is); (case k21 => k_is)
    (case a22 => k_is); (case l22 => k_is); (case c22 => k_is); (case k22 => k_is)
    (case a23 => k_is); (case l23 => k_is); (case c23 => k_is); (case k23 => k_is)
    (case a24 => k_is); (case l24 => k_is); (case c24 => k_is); (case k24 => k_is)
    (case a25 => k_is); (case l25 => k_is); (case c25 => k_is); (case k25 => k_is)
    (case a26 => k_is); (case l26 => k_is); (case c26 => k_is); (case k26 => k_is)
    (case a27 => k_is); (case l27 => k_is); (case c27 => k_is); (case k27 => k_is)
    (case a28 => k_is); (case l28 => k_is); (case c28 => k_is); (case k28 => k_is)
    (case a29 => k_is); (case l29 => k_is); (case c29 => k_is); (case k29 => k_is)
    (case a30 => k_is); (case l30 => k_is); (case c30 => k_is); (case k30 => k_is)
    (case a31 => k_is); (case l31 => k_is); (case c31 => k_is); (case k31 => k_is)
    (case a32 => k_is); (case l32 => k_is); (case c32 => k_is); (case k32 => k_is)
    (case a33 => k_is); (case l33 => k_is); (case c33 => k_is); (case k33 => k_is)
    (case a34 => k_is); (case l34 => k_is); (case c34 => k_is); (case k34 => k_is)
    (case a35 => k_is); (case l35 => k_is); (case c35 => k_is); (case k35 => k_is)
    (case a36 => k_is); (case l36 => k_is); (case c36 => k_is); (case k36 => k_is)
    (case a37 => k_is); (case l37 => k_is); (case c37 => k_is); (case k37 => k_is)
    (case z1 => k_is)
    (case z2 => k_is)
    (case z3 => k_is)
    (case z4 => k_is)
    (case z5 => k_is)
    (case z6 => k_is)
    (case z7 => k_is)
    (case z8 => k_is)
    (case z9 => k_is)
    (case z10 => k_is)
    (case z11 => k_is)
    (case z12 => k_is)
end PartPdk35T
