import PyProof.Rows.All
import HandS.Base
import Wide.All
import OpenK.AllK
import Wide.FinOn
import HandS.ForMost
import HandS.Flow
import HandS.TupAny
import HandS.IsInst
import HandS.Zip
import HandS.Conv
import HandS.EndBits
import HandS.Text
import HandS.SortInts
import HandS.Star
import HandS.Small
import HandS.Dict
import HandS.DictComp
import KE.KDictSum
import HandS.Iter
import HandS.More
import PySem.Challenge.RW_metorshut_k52_counting_loops
section PartPdCore
set_option linter.all false
/-! Pd: a data-level weakest-precondition semantics of the Python that the laws use.
Values are plain data (tuples are values, lists and dicts are numbers of cells of a store).
A reading takes what is wanted behind. Own work. -/
namespace Pd
open PySem

inductive D where
  | non
  | bl (b : Bool)
  | int (i : Int)
  | str (x : Str)
  | tup (xs : List D)
  | ref (n : Nat)
  deriving Inhabited

/-- what a locked dict is, for the soundness alone -/
abbrev Tok := PySem.Obj × List (L2.Key × L2.V)
/-- a cell of the store -/
inductive C where
  | lst (xs : List D)
  | frz (xs : List D)
  | dic (kvs : List (Sum Int Str × D))
  /-- a dict that a walk has locked -/
  | frd (kvs : List (Sum Int Str × D)) (tk : Tok)

abbrev Store := List C
abbrev Env := List (Option D)
abbrev K := D → Store → Prop
abbrev TE := Env → Store → K → Prop
abbrev TT := Env → Store → (Bool → Store → Prop) → Prop
abbrev TA := Env → Store → (List D → Store → Prop) → Prop
structure Ends where
  nx : Env → Store → Prop
  rt : K
  bk : Env → Store → Prop := fun _ _ => False
  ct : Env → Store → Prop := fun _ _ => False
abbrev TS := Ends → Env → Store → Prop
/-- what the calls of own defs do -/
abbrev Cl := String → List D → Store → K → Prop

/-- the longest that the model's lists and texts may be -/
def szl : Nat := 16777216

def lk : Env → Nat → Option D
  | [], _ => none
  | x :: _, 0 => x
  | _ :: r, n + 1 => lk r n
def wipeE : Env → List Nat → Env
  | ρ, [] => ρ
  | ρ, v :: vs => (wipeE ρ vs).set v none

/-! ### data: pure, depth, equality -/
/-- a text of code points -/
def okS (x : Str) : Bool := x.cps.toList.all fun c => decide (c < 1114112)
mutual
def D.okd : Nat → D → Bool
  | _, .non => true
  | _, .bl _ => true
  | _, .int _ => true
  | _, .str x => okS x
  | 0, .tup _ => false
  | n + 1, .tup xs => okds n xs
  | _, .ref _ => false
def okds : Nat → List D → Bool
  | _, [] => true
  | n, x :: xs => D.okd n x && okds n xs
end
def b2i (b : Bool) : Int := if b then 1 else 0
mutual
def D.eqb : D → D → Bool
  | .non, .non => true
  | .bl a, .bl b => a == b
  | .bl a, .int j => b2i a == j
  | .int i, .bl b => i == b2i b
  | .int i, .int j => i == j
  | .str x, .str y => decide (x = y)
  | .tup xs, .tup ys => eqbs xs ys
  | _, _ => false
def eqbs : List D → List D → Bool
  | [], [] => true
  | x :: xs, y :: ys => D.eqb x y && eqbs xs ys
  | _, _ => false
end
def D.flat : D → Bool
  | .non => true
  | .bl _ => true
  | .int _ => true
  | .str _ => true
  | _ => false

/-! ### the store -/
/-- at n a list that may be changed -/
def rdL (st : Store) (n : Nat) (xs : List D) : Prop := st[n]? = some (.lst xs)
/-- at n a list -/
def rdA (st : Store) (n : Nat) (xs : List D) : Prop := st[n]? = some (.lst xs) ∨ st[n]? = some (.frz xs)
def rdD (st : Store) (n : Nat) (kvs : List (Sum Int Str × D)) : Prop := st[n]? = some (.dic kvs)
/-- at n a dict, locked or not -/
def rdDA (st : Store) (n : Nat) (kvs : List (Sum Int Str × D)) : Prop := st[n]? = some (.dic kvs) ∨ ∃ tk, st[n]? = some (.frd kvs tk)

/-! ### expressions -/
def dC (d : D) : TE := fun _ st Q => Q d st
def dVar (i : Nat) : TE := fun σ st Q => ∃ d, lk σ i = some d ∧ Q d st
abbrev K2 := D → D → Store → K → Prop
def dOp (k : K2) (ta tb : TE) : TE := fun σ st Q => ta σ st fun x st1 => tb σ st1 fun y st2 => k x y st2 Q
def dUn (k : D → Store → K → Prop) (ta : TE) : TE := fun σ st Q => ta σ st fun x st1 => k x st1 Q

def cMul (i j : Int) : Prop := (-(2 ^ 64) < i ∧ i < 2 ^ 64) ∨ (-(2 ^ 64) < j ∧ j < 2 ^ 64)
def cPow (i j : Int) : Prop := 0 ≤ j ∧ j ≤ 1000000 ∧ i.natAbs < 2 ^ 64
def addK : K2
  | .int a, .int b, st, Q => Q (.int (a + b)) st
  | .str a, .str b, st, Q => a.length + b.length ≤ szl ∧ Q (.str (a ++ b)) st
  | .tup a, .tup b, st, Q => a.length + b.length ≤ szl ∧ Q (.tup (a ++ b)) st
  | .ref m, .ref n, st, Q => ∃ a b, rdL st m a ∧ rdL st n b ∧ a.length + b.length ≤ szl ∧ Q (.ref st.length) (st ++ [.lst (a ++ b)])
  | _, _, _, _ => False
def subK : K2
  | .int a, .int b, st, Q => Q (.int (a - b)) st
  | _, _, _, _ => False
def mulK : K2
  | .int a, .int b, st, Q => cMul a b ∧ Q (.int (a * b)) st
  | .ref m, .int k, st, Q => ∃ xs, rdL st m xs ∧ -(2 ^ 63) ≤ k ∧ k < 2 ^ 63 ∧ xs.length * k.toNat ≤ szl ∧ Q (.ref st.length) (st ++ [.lst (List.replicate k.toNat xs).flatten])
  | _, _, _, _ => False
def fdivK : K2
  | .int a, .int b, st, Q => (0 < b ∧ b < 1073741824) ∧ Q (.int (a / b)) st
  | _, _, _, _ => False
def modK : K2
  | .int a, .int b, st, Q => 0 < b ∧ Q (.int (a % b)) st
  | _, _, _, _ => False
def powK : K2
  | .int a, .int b, st, Q => cPow a b ∧ Q (.int (a ^ b.toNat)) st
  | _, _, _, _ => False
def shlK : K2
  | .int a, .int b, st, Q => cPow a b ∧ Q (.int (a * 2 ^ b.toNat)) st
  | _, _, _, _ => False
def shrK : K2
  | .int a, .int b, st, Q => 0 ≤ b ∧ Q (.int (a / 2 ^ b.toNat)) st
  | _, _, _, _ => False
def andK : K2
  | .int a, .int b, st, Q => Q (.int (Builtin.bitAnd a b)) st
  | _, _, _, _ => False
def orK : K2
  | .int a, .int b, st, Q => Q (.int (Builtin.bitOr a b)) st
  | _, _, _, _ => False
def xorK : K2
  | .int a, .int b, st, Q => Q (.int (Builtin.bitXor a b)) st
  | _, _, _, _ => False
/-- op= of ints and texts -/
def iaddK : K2
  | .int a, .int b, st, Q => Q (.int (a + b)) st
  | .str a, .str b, st, Q => a.length + b.length ≤ szl ∧ Q (.str (a ++ b)) st
  | _, _, _, _ => False
def negK : D → Store → K → Prop
  | .int a, st, Q => Q (.int (-a)) st
  | _, _, _ => False
def invK : D → Store → K → Prop
  | .int a, st, Q => Q (.int (Builtin.bitNot a)) st
  | _, _, _ => False

/-! ### comparisons -/
abbrev KC := D → D → Store → (Bool → Prop) → Prop
def dCmp (k : KC) (ta tb : TE) : TE := fun σ st Q => ta σ st fun x st1 => tb σ st1 fun y st2 => k x y st2 fun b => Q (.bl b) st2
def dChain (k k' : KC) (ta tb tc : TE) : TE := fun σ st Q => ta σ st fun x st1 => tb σ st1 fun y st2 => k x y st2 fun b =>
  (b = true → tc σ st2 fun z st3 => k' y z st3 fun b' => Q (.bl b') st3) ∧ (b = false → Q (.bl false) st2)
/-- == -/
def eqC : KC
  | .ref m, .ref n, st, Q => ∃ xs ys, rdA st m xs ∧ rdA st n ys ∧ okds 60 xs = true ∧ okds 60 ys = true ∧ Q (eqbs xs ys)
  | .ref m, y, st, Q => ∃ xs, rdA st m xs ∧ okds 60 xs = true ∧ D.okd 60 y = true ∧ Q false
  | x, .ref n, st, Q => ∃ ys, rdA st n ys ∧ okds 60 ys = true ∧ D.okd 60 x = true ∧ Q false
  | x, y, st, Q => D.okd 60 x = true ∧ D.okd 60 y = true ∧ Q (D.eqb x y)
def neC : KC := fun x y st Q => eqC x y st fun b => Q (!b)
def ltC : KC
  | .int a, .int b, _, Q => Q (decide (a < b))
  | _, _, _, _ => False
def leC : KC
  | .int a, .int b, _, Q => Q (decide (a ≤ b))
  | _, _, _, _ => False
def gtC : KC
  | .int a, .int b, _, Q => Q (decide (b < a))
  | _, _, _, _ => False
def geC : KC
  | .int a, .int b, _, Q => Q (decide (b ≤ a))
  | _, _, _, _ => False
def isNon : D → Bool
  | .non => true
  | _ => false
def isC : KC
  | x, .non, _, Q => Q (isNon x)
  | _, _, _, _ => False
def isntC : KC
  | x, .non, _, Q => Q (!isNon x)
  | _, _, _, _ => False
def inC : KC
  | x, .tup xs, _, Q => x.flat = true ∧ xs.all D.flat = true ∧ Q (xs.any fun y => D.eqb y x)
  | x, .ref n, st, Q => ∃ xs, rdA st n xs ∧ x.flat = true ∧ xs.all D.flat = true ∧ Q (xs.any fun y => D.eqb y x)
  | _, _, _, _ => False
def notinC : KC := fun x y st Q => inC x y st fun b => Q (!b)

/-! ### truth -/
def truK : D → Store → (Bool → Prop) → Prop
  | .non, _, Q => Q false
  | .bl b, _, Q => Q b
  | .int i, _, Q => Q (i != 0)
  | .str y, _, Q => y.length ≤ szl ∧ Q ((y.length : Int) != 0)
  | .tup xs, _, Q => Q (!xs.isEmpty)
  | .ref n, st, Q => ∃ xs, rdA st n xs ∧ Q (!xs.isEmpty)
def tTru (t : TE) : TT := fun σ st Q => t σ st fun x st1 => truK x st1 fun b => Q b st1
def tAnd (t u : TT) : TT := fun σ st Q => t σ st fun c st1 => (c = true → u σ st1 Q) ∧ (c = false → Q false st1)
def tOr (t u : TT) : TT := fun σ st Q => t σ st fun c st1 => (c = true → Q true st1) ∧ (c = false → u σ st1 Q)
def tNot (t : TT) : TT := fun σ st Q => t σ st fun c st1 => Q (!c) st1
def dAndT (ta tb : TE) : TE := fun σ st Q => ta σ st fun x st1 => truK x st1 fun c => (c = true → tb σ st1 Q) ∧ (c = false → Q x st1)
def dOrT (ta tb : TE) : TE := fun σ st Q => ta σ st fun x st1 => truK x st1 fun c => (c = true → Q x st1) ∧ (c = false → tb σ st1 Q)
def dNotT (ta : TE) : TE := fun σ st Q => ta σ st fun x st1 => truK x st1 fun c => Q (.bl (!c)) st1
def dIf (c : TT) (a b : TE) : TE := fun σ st Q => c σ st fun k st1 => (k = true → a σ st1 Q) ∧ (k = false → b σ st1 Q)

/-! ### items, slices, displays, calls -/
def atD {α : Type} (xs : List α) (i : Int) : Option α := if 0 ≤ i then xs[i.toNat]? else if -(xs.length : Int) ≤ i then xs[(i + xs.length).toNat]? else none
def ixK : K2
  | .tup xs, .int i, st, Q => ∃ d, atD xs i = some d ∧ Q d st
  | .ref n, .int i, st, Q => ∃ xs d, rdA st n xs ∧ atD xs i = some d ∧ Q d st
  | .str z, .int i, st, Q => ∃ c, z.length ≤ szl ∧ atD z.cps.toList i = some c ∧ Q (.str ⟨#[c]⟩) st
  | _, _, _, _ => False
/-- where a slice's end lies -/
def cl (n : Nat) (i : Int) : Nat := if i < 0 then (i + n).toNat else min i.toNat n
def cutD {α : Type} (xs : List α) (lo hi : Option Int) : List α :=
  (xs.drop ((lo.map (cl xs.length)).getD 0)).take ((hi.map (cl xs.length)).getD xs.length - (lo.map (cl xs.length)).getD 0)
abbrev TO := Env → Store → (Option Int → Store → Prop) → Prop
def oNone : TO := fun _ st Q => Q none st
def oSome (t : TE) : TO := fun σ st Q => t σ st fun x st1 => ∃ i, x = .int i ∧ Q (some i) st1
def slK : D → Option Int → Option Int → Store → K → Prop
  | .tup xs, lo, hi, st, Q => Q (.tup (cutD xs lo hi)) st
  | .ref n, lo, hi, st, Q => ∃ xs, rdA st n xs ∧ Q (.ref st.length) (st ++ [.lst (cutD xs lo hi)])
  | _, _, _, _, _ => False
def dSl (te : TE) (tl th : TO) : TE := fun σ st Q => te σ st fun x st1 => tl σ st1 fun lo st2 => th σ st2 fun hi st3 => slK x lo hi st3 Q
def aNil : TA := fun _ st Q => Q [] st
def aCons (t : TE) (r : TA) : TA := fun σ st Q => t σ st fun x st1 => r σ st1 fun xs st2 => Q (x :: xs) st2
def dTup (t : TA) : TE := fun σ st Q => t σ st fun xs st1 => xs.length ≤ szl ∧ Q (.tup xs) st1
def dLst (t : TA) : TE := fun σ st Q => t σ st fun xs st1 => xs.length ≤ szl ∧ Q (.ref st1.length) (st1 ++ [.lst xs])
def dCall (c : Cl) (f : String) (t : TA) : TE := fun σ st Q => t σ st fun xs st1 => c f xs st1 Q
/-- a built-in -/
abbrev KB := List D → Store → K → Prop
def dB (k : KB) (t : TA) : TE := fun σ st Q => t σ st fun xs st1 => k xs st1 Q
/-- a method of a built-in type -/
abbrev KM := D → List D → Store → K → Prop
def dM (ty : D → Store → Prop) (k : KM) (to : TE) (t : TA) : TE := fun σ st Q => to σ st fun o st1 => ty o st1 ∧ t σ st1 fun xs st2 => k o xs st2 Q
def tyLst : D → Store → Prop
  | .ref n, st => ∃ xs, rdL st n xs
  | _, _ => False
def tyLstA : D → Store → Prop
  | .ref n, st => ∃ xs, rdA st n xs
  | _, _ => False
def tyStr : D → Store → Prop
  | .str _, _ => True
  | _, _ => False

def intB : KB
  | [.int i], st, Q => Q (.int i) st
  | [.bl b], st, Q => Q (.int (b2i b)) st
  | _, _, _ => False
def absB : KB
  | [.int i], st, Q => Q (.int (if i < 0 then -i else i)) st
  | _, _, _ => False
def lenB : KB
  | [.tup xs], st, Q => Q (.int xs.length) st
  | [.ref n], st, Q => ∃ xs, rdA st n xs ∧ Q (.int xs.length) st
  | [.str z], st, Q => z.length ≤ szl ∧ Q (.int z.length) st
  | _, _, _ => False
def min2B : KB
  | [.int i, .int j], st, Q => Q (.int (if j < i then j else i)) st
  | _, _, _ => False
def max2B : KB
  | [.int i, .int j], st, Q => Q (.int (if j > i then j else i)) st
  | _, _, _ => False
def listB : KB
  | [.tup xs], st, Q => Q (.ref st.length) (st ++ [.lst xs])
  | [.ref n], st, Q => ∃ xs, rdA st n xs ∧ Q (.ref st.length) (st ++ [.lst xs])
  | _, _, _ => False
def tupleB : KB
  | [.tup xs], st, Q => Q (.tup xs) st
  | [.ref n], st, Q => ∃ xs, rdA st n xs ∧ Q (.tup xs) st
  | _, _, _ => False
def sumB : KB
  | [.ref n], st, Q => ∃ ns : List Int, rdA st n (ns.map D.int) ∧ Q (.int ns.sum) st
  | _, _, _ => False
/-- None, a bool, an int: its truth -/
def D.tflat : D → Bool
  | .non => true
  | .bl _ => true
  | .int _ => true
  | _ => false
def D.tru : D → Bool
  | .bl b => b
  | .int i => i != 0
  | _ => false
def allB : KB
  | [.ref n], st, Q => ∃ xs : List D, rdA st n xs ∧ xs.all D.tflat = true ∧ Q (.bl (xs.all D.tru)) st
  | _, _, _ => False
def anyB : KB
  | [.ref n], st, Q => ∃ xs : List D, rdA st n xs ∧ xs.all D.tflat = true ∧ Q (.bl (xs.any D.tru)) st
  | _, _, _ => False
def min1B : KB
  | [.ref n], st, Q => ∃ ns : List Int, rdA st n (ns.map D.int) ∧ 0 < ns.length ∧ ∀ m, m ∈ ns → (∀ y, y ∈ ns → m ≤ y) → Q (.int m) st
  | _, _, _ => False
def max1B : KB
  | [.ref n], st, Q => ∃ ns : List Int, rdA st n (ns.map D.int) ∧ 0 < ns.length ∧ ∀ m, m ∈ ns → (∀ y, y ∈ ns → y ≤ m) → Q (.int m) st
  | _, _, _ => False
/-- isinstance(x, T), T a built-in class -/
inductive Ty where | int | bool | str | tuple | list
  deriving DecidableEq
def isTy : D → Store → Ty → (Bool → Prop) → Prop
  | .non, _, _, Q => Q false
  | .bl _, _, t, Q => Q (decide (t = .bool) || decide (t = .int))
  | .int _, _, t, Q => Q (decide (t = .int))
  | .str _, _, t, Q => Q (decide (t = .str))
  | .tup _, _, t, Q => Q (decide (t = .tuple))
  | .ref n, st, t, Q => ∃ xs, rdL st n xs ∧ Q (decide (t = .list))
def dIsi (ty : Ty) (t : TE) : TE := fun σ st Q => t σ st fun x st1 => isTy x st1 ty fun b => Q (.bl b) st1

/-! methods -/
def appendM : KM
  | .ref n, [x], st, Q => ∃ xs, rdL st n xs ∧ xs.length < szl ∧ Q .non (st.set n (.lst (xs ++ [x])))
  | _, _, _, _ => False
/-- .pop(i), the place in the list -/
def popM : KM
  | .ref n, [.int i], st, Q => ∃ xs d, rdL st n xs ∧ (0 ≤ i ∧ i < 2 ^ 62) ∧ atD xs i = some d ∧ Q d (st.set n (.lst (xs.eraseIdx i.toNat)))
  | _, _, _, _ => False
def extendM : KM
  | .ref n, [.ref m], st, Q => ∃ xs ys, rdL st n xs ∧ rdL st m ys ∧ n ≠ m ∧ xs.length + ys.length ≤ szl ∧ Q .non (st.set n (.lst (xs ++ ys)))
  | _, _, _, _ => False
/-- .index(x): the first place of what is there -/
def indexM : KM
  | .ref n, [x], st, Q => ∃ xs j z, rdA st n xs ∧ x.flat = true ∧ xs.all D.flat = true ∧ xs[j]? = some z ∧ D.eqb z x = true ∧ (∀ (m : Nat) (z' : D), m < j → xs[m]? = some z' → D.eqb z' x = false) ∧ Q (.int j) st
  | _, _, _, _ => False

/-! ### targets, iterables -/
abbrev TG := D → Env → Store → (Env → Store → Prop) → Prop
abbrev TGs := List D → Env → Store → (Env → Store → Prop) → Prop
def gName (i : Nat) : TG := fun d σ st Q => Q (σ.set i (some d)) st
def gsNil : TGs := fun ds σ st Q => ds = [] ∧ Q σ st
def gsCons (g : TG) (r : TGs) : TGs := fun ds σ st Q => ∃ d ds', ds = d :: ds' ∧ g d σ st fun σ1 st1 => r ds' σ1 st1 Q
def gTup (gs : TGs) (n : Nat) : TG := fun d σ st Q => ∃ ds, d = .tup ds ∧ ds.length = n ∧ gs ds σ st Q
def setK : D → D → D → Store → (Store → Prop) → Prop
  | .ref n, .int i, v, st, Q => ∃ xs, rdL st n xs ∧ (∃ d, atD xs i = some d) ∧ 0 ≤ i ∧ Q (st.set n (.lst (xs.set i.toNat v)))
  | _, _, _, _, _ => False
def gSub (to ti : TE) : TG := fun v σ st Q => to σ st fun o st1 => ti σ st1 fun i st2 => setK o i v st2 fun st3 => Q σ st3
structure Iter where
  items : List D
  guard : Store → Prop
abbrev TI := Env → Store → (Iter → Store → Prop) → Prop
/-- a list or a tuple -/
def itK : D → Store → (Iter → Store → Prop) → Prop
  | .tup xs, st, R => R ⟨xs, fun _ => True⟩ st
  | .ref n, st, R => ∃ xs, rdA st n xs ∧ R ⟨xs, fun s => rdA s n xs⟩ st
  | _, _, _ => False
def iSeq (t : TE) : TI := fun σ st R => t σ st fun x st1 => itK x st1 R
def rng (lo : Int) (n : Nat) : List D := (List.range n).map fun (k : Nat) => D.int (lo + k)
def iR1 (t : TE) : TI := fun σ st R => t σ st fun x st1 => ∃ j, x = .int j ∧ -(2 ^ 62) ≤ j ∧ j < 2 ^ 62 ∧ R ⟨rng 0 j.toNat, fun _ => True⟩ st1
def iR2 (t u : TE) : TI := fun σ st R => t σ st fun x st1 => u σ st1 fun y st2 => ∃ i j, x = .int i ∧ y = .int j ∧ (-(2 ^ 62) ≤ i ∧ i < 2 ^ 62 ∧ -(2 ^ 62) ≤ j ∧ j < 2 ^ 62) ∧ R ⟨rng i (j - i).toNat, fun _ => True⟩ st2
def zipD : List D → List D → List D
  | x :: xs, y :: ys => .tup [x, y] :: zipD xs ys
  | _, _ => []
/-- zip(a, b): both lists, or both tuples -/
def zipK : D → D → Store → (Iter → Store → Prop) → Prop
  | .tup xs, .tup ys, st, R => R ⟨zipD xs ys, fun _ => True⟩ st
  | .ref m, .ref n, st, R => ∃ xs ys, rdA st m xs ∧ rdA st n ys ∧ R ⟨zipD xs ys, fun s => rdA s m xs ∧ rdA s n ys⟩ st
  | _, _, _, _ => False
def iZip2 (t u : TE) : TI := fun σ st R => t σ st fun x st1 => u σ st1 fun y st2 => zipK x y st2 R

/-! ### comprehensions -/
def tYes : TT := fun _ st Q => Q true st
/-- n: the new list's cell -/
def lcLoop (gd : Store → Prop) (g : TG) (tt : TT) (te : TE) (ρ : Env) (n : Nat) (Q : K) : List D → List D → Store → Prop
  | [], acc, st => gd st ∧ rdL st n acc ∧ Q (.ref n) st
  | x :: xs, acc, st => gd st ∧ g x ρ st fun ρ2 st2 => tt ρ2 st2 fun b st3 =>
      (b = true → te ρ2 st3 fun y st4 => rdL st4 n acc ∧ acc.length < szl ∧ lcLoop gd g tt te ρ n Q xs (acc ++ [y]) (st4.set n (.lst (acc ++ [y])))) ∧ (b = false → rdL st3 n acc ∧ lcLoop gd g tt te ρ n Q xs acc st3)
def dLc (i : TI) (g : TG) (tt : TT) (te : TE) (vs : List Nat) : TE := fun σ st Q => i σ st fun I st1 => lcLoop I.guard g tt te (wipeE σ vs) st1.length Q I.items [] (st1 ++ [.lst []])

/-! ### statements -/
def sNext : TS := fun D σ st => D.nx σ st
/-- a statement's end, where a walk may rest -/
structure Nxt (P : Prop) : Prop where
  go : P
def sSeq (t u : TS) : TS := fun D σ st => t { D with nx := fun σ' st' => Nxt (u D σ' st') } σ st
def sBreak : TS := fun D σ st => D.bk σ st
def sCont : TS := fun D σ st => D.ct σ st
def sExpr (t : TE) : TS := fun D σ st => t σ st fun _ st1 => D.nx σ st1
def sRet (t : TE) : TS := fun D σ st => t σ st D.rt
def sRetN : TS := fun D _ st => D.rt .non st
def sIf (c : TT) (t u : TS) : TS := fun D σ st => c σ st fun b st1 => (b = true → t D σ st1) ∧ (b = false → u D σ st1)
def sAsg (t : TE) (g : TG) : TS := fun D σ st => t σ st fun x st1 => g x σ st1 D.nx
/-- a, b = e, f of two locals: no tuple is made -/
def sPar (i j : Nat) (t : TA) : TS := fun D σ st => t σ st fun xs st1 => ∃ x y, xs = [x, y] ∧ D.nx ((σ.set i (some x)).set j (some y)) st1
def sAug (i : Nat) (k : K2) (t : TE) : TS := fun D σ st => ∃ x, lk σ i = some x ∧ t σ st fun y st1 => k x y st1 fun z st2 => D.nx (σ.set i (some z)) st2
/-- the item of a list alone -/
def ixLK : K2
  | .ref n, .int i, st, Q => ∃ xs d, rdA st n xs ∧ atD xs i = some d ∧ Q d st
  | _, _, _, _ => False
def sAugL (k : K2) (to ti te : TE) : TS := fun D σ st => to σ st fun o st1 => ti σ st1 fun i st2 => ixLK o i st2 fun x st3 => te σ st3 fun y st4 => k x y st4 fun z st5 => setK o i z st5 fun st6 => D.nx σ st6
def forLoop (gd : Store → Prop) (g : TG) (tb : TS) (D : Ends) : List Pd.D → Env → Store → Prop
  | [], σ, st => gd st ∧ D.nx σ st
  | x :: xs, σ, st => gd st ∧ g x σ st fun σ2 st2 => tb { D with nx := fun σ3 st3 => forLoop gd g tb D xs σ3 st3, ct := fun σ3 st3 => forLoop gd g tb D xs σ3 st3, bk := D.nx } σ2 st2
def sFor (i : TI) (g : TG) (tb : TS) : TS := fun D σ st => i σ st fun I st1 => forLoop I.guard g tb D I.items σ st1
def whileN (c : TT) (tb : TS) (D : Ends) : Nat → Env → Store → Prop
  | 0, _, _ => False
  | n + 1, σ, st => c σ st fun b st1 => (b = true → tb { D with nx := fun σ2 st2 => whileN c tb D n σ2 st2, ct := fun σ2 st2 => whileN c tb D n σ2 st2, bk := D.nx } σ st1) ∧ (b = false → D.nx σ st1)
def sWhile (c : TT) (tb : TS) : TS := fun D σ st => ∃ n, whileN c tb D n σ st

/-! ### defs: parameters, number of names, body -/
structure Def where
  ps : Nat
  ns : Nat
  body : Cl → TS
def start (n : Nat) (ds : List D) : Env := ds.map some ++ List.replicate (n - ds.length) none
def Def.run (d : Def) (c : Cl) (ds : List D) (st : Store) (Q : K) : Prop :=
  ds.length = d.ps ∧ d.body c { nx := fun _ st' => Q .non st', rt := Q } (start d.ns ds) st
/-- calls, at most k deep -/
def callN (prog : String → Option Def) : Nat → Cl
  | 0 => fun _ _ _ _ => False
  | k + 1 => fun f ds st Q => ∃ d, prog f = some d ∧ d.run (callN prog k) ds st Q
end Pd
end PartPdCore

section PartPdSoundA
set_option Elab.async false
set_option linter.all false
set_option maxRecDepth 100000
set_option maxHeartbeats 1000000
/-! Pd over the hand layer: data against values and heaps; lifting; expressions. Own work. -/
namespace Pd
open PySem PySem.Spec
abbrev Kf := PySem.W.Frag
abbrev Vv := L2.V
abbrev Hp := L2.Hp

theorem szl_eq : szl = sizeLine := by rfl

/-! ### data against values -/
mutual
def RD (K : Kf) (f : List Addr) (H : Hp) : D → L2.V → Prop
  | .non, v => v = .non
  | .bl b, v => v = .bl b
  | .int i, v => v = .int i
  | .str s, v => v = .str s
  | .ref n, v => ∃ a, f[n]? = some a ∧ v = .ref a
  | .tup ds, v => ∃ a vs, v = .ref a ∧ L2.SqT K H a vs ∧ RDs K f H ds vs
def RDs (K : Kf) (f : List Addr) (H : Hp) : List D → List L2.V → Prop
  | [], vs => vs = []
  | d :: ds, vs => ∃ v r, vs = v :: r ∧ RD K f H d v ∧ RDs K f H ds r
end
section
variable {K : Kf} {f f' : List Addr} {H H' : Hp} {st st' : Store} {ρ : Env} {σ : L2.St}
theorem RD.non {v : L2.V} : RD K f H .non v ↔ v = .non := by simp [RD]
theorem RD.bl {b : Bool} {v : L2.V} : RD K f H (.bl b) v ↔ v = .bl b := by simp [RD]
theorem RD.int {i : Int} {v : L2.V} : RD K f H (.int i) v ↔ v = .int i := by simp [RD]
theorem RD.str {x : Str} {v : L2.V} : RD K f H (.str x) v ↔ v = .str x := by simp [RD]
theorem RD.ref {n : Nat} {v : L2.V} : RD K f H (.ref n) v ↔ ∃ a, f[n]? = some a ∧ v = .ref a := by simp [RD]
theorem RD.tup {ds : List D} {v : L2.V} : RD K f H (.tup ds) v ↔ ∃ a vs, v = .ref a ∧ L2.SqT K H a vs ∧ RDs K f H ds vs := by simp [RD]
theorem RDs.nil {vs : List L2.V} : RDs K f H [] vs ↔ vs = [] := by simp [RDs]
theorem RDs.cons {d : D} {ds : List D} {vs : List L2.V} : RDs K f H (d :: ds) vs ↔ ∃ v r, vs = v :: r ∧ RD K f H d v ∧ RDs K f H ds r := by simp [RDs]

/-- later: more cells, the tuples as they were -/
structure Ext (K : Kf) (f : List Addr) (H : Hp) (f' : List Addr) (H' : Hp) : Prop where
  pre : ∃ g, f' = f ++ g
  tup : ∀ a xs, L2.SqT K H a xs → L2.SqT K H' a xs
theorem Ext.refl : Ext K f H f H := ⟨⟨[], by simp⟩, fun _ _ h => h⟩
theorem Ext.trans {f2 : List Addr} {H2 : Hp} (a : Ext K f H f' H') (b : Ext K f' H' f2 H2) : Ext K f H f2 H2 := by
  obtain ⟨g, rfl⟩ := a.pre
  obtain ⟨g2, rfl⟩ := b.pre
  exact ⟨⟨g ++ g2, by simp⟩, fun x xs h => b.tup x xs (a.tup x xs h)⟩
theorem Ext.at (e : Ext K f H f' H') {n : Nat} {a : Addr} (h : f[n]? = some a) : f'[n]? = some a := by
  obtain ⟨g, rfl⟩ := e.pre
  have hn := (List.getElem?_eq_some_iff.mp h).1
  rw [List.getElem?_append_left hn]; exact h
mutual
theorem RD.mono (e : Ext K f H f' H') : ∀ (d : D) {v : L2.V}, RD K f H d v → RD K f' H' d v
  | .non, _, h => by rw [RD.non] at *; exact h
  | .bl _, _, h => by rw [RD.bl] at *; exact h
  | .int _, _, h => by rw [RD.int] at *; exact h
  | .str _, _, h => by rw [RD.str] at *; exact h
  | .ref _, _, h => by
    rw [RD.ref] at *
    obtain ⟨a, h1, h2⟩ := h
    exact ⟨a, e.at h1, h2⟩
  | .tup ds, _, h => by
    rw [RD.tup] at *
    obtain ⟨a, vs, h1, h2, h3⟩ := h
    exact ⟨a, vs, h1, e.tup _ _ h2, RDs.mono e ds h3⟩
theorem RDs.mono (e : Ext K f H f' H') : ∀ (ds : List D) {vs : List L2.V}, RDs K f H ds vs → RDs K f' H' ds vs
  | [], _, h => by rw [RDs.nil] at *; exact h
  | d :: ds, _, h => by
    rw [RDs.cons] at *
    obtain ⟨v, r, h1, h2, h3⟩ := h
    exact ⟨v, r, h1, RD.mono e d h2, RDs.mono e ds h3⟩
end
theorem RDs.length : ∀ {ds : List D} {vs : List L2.V}, RDs K f H ds vs → vs.length = ds.length
  | [], _, h => by rw [RDs.nil] at h; subst h; rfl
  | d :: ds, _, h => by
    rw [RDs.cons] at h
    obtain ⟨v, r, rfl, _, h3⟩ := h
    simp [RDs.length h3]
theorem RDs.get : ∀ {ds : List D} {vs : List L2.V} {i : Nat} {d : D}, RDs K f H ds vs → ds[i]? = some d → ∃ v, vs[i]? = some v ∧ RD K f H d v
  | [], _, _, _, _, e => by simp at e
  | x :: ds, _, 0, d, h, e => by
    rw [RDs.cons] at h
    obtain ⟨v, r, rfl, h2, _⟩ := h
    simp at e; subst e; exact ⟨v, rfl, h2⟩
  | x :: ds, _, i + 1, d, h, e => by
    rw [RDs.cons] at h
    obtain ⟨v, r, rfl, _, h3⟩ := h
    obtain ⟨w, h4, h5⟩ := RDs.get (i := i) h3 (by simpa using e)
    exact ⟨w, by simpa using h4, h5⟩
theorem RDs.append : ∀ {xs ys : List D} {us vs : List L2.V}, RDs K f H xs us → RDs K f H ys vs → RDs K f H (xs ++ ys) (us ++ vs)
  | [], _, _, _, h, h' => by rw [RDs.nil] at h; subst h; exact h'
  | x :: xs, _, _, _, h, h' => by
    rw [RDs.cons] at h
    obtain ⟨v, r, rfl, h2, h3⟩ := h
    rw [List.cons_append, RDs.cons]
    exact ⟨v, _, rfl, h2, RDs.append h3 h'⟩
theorem RDs.one {d : D} {v : L2.V} (h : RD K f H d v) : RDs K f H [d] [v] := by
  rw [RDs.cons]; exact ⟨v, [], rfl, h, by rw [RDs.nil]⟩
theorem RDs.take : ∀ {ds : List D} {vs : List L2.V} (n : Nat), RDs K f H ds vs → RDs K f H (ds.take n) (vs.take n)
  | _, _, 0, _ => by simp [RDs.nil]
  | [], _, n + 1, h => by rw [RDs.nil] at h; subst h; simp [RDs.nil]
  | d :: ds, _, n + 1, h => by
    rw [RDs.cons] at h
    obtain ⟨v, r, rfl, h2, h3⟩ := h
    rw [List.take_succ_cons, List.take_succ_cons, RDs.cons]
    exact ⟨v, _, rfl, h2, RDs.take n h3⟩
theorem RDs.drop : ∀ {ds : List D} {vs : List L2.V} (n : Nat), RDs K f H ds vs → RDs K f H (ds.drop n) (vs.drop n)
  | _, _, 0, h => by simpa using h
  | [], _, n + 1, h => by rw [RDs.nil] at h; subst h; simp [RDs.nil]
  | d :: ds, _, n + 1, h => by
    rw [RDs.cons] at h
    obtain ⟨v, r, rfl, h2, h3⟩ := h
    rw [List.drop_succ_cons, List.drop_succ_cons]
    exact RDs.drop n h3
theorem RDs.set : ∀ {ds : List D} {vs : List L2.V} (n : Nat) {d : D} {v : L2.V}, RD K f H d v → RDs K f H ds vs → RDs K f H (ds.set n d) (vs.set n v)
  | [], _, _, _, _, _, h => by rw [RDs.nil] at h; subst h; simp [RDs.nil]
  | x :: ds, _, 0, d, v, hd, h => by
    rw [RDs.cons] at h
    obtain ⟨w, r, rfl, h2, h3⟩ := h
    rw [List.set_cons_zero, List.set_cons_zero, RDs.cons]
    exact ⟨v, r, rfl, hd, h3⟩
  | x :: ds, _, n + 1, d, v, hd, h => by
    rw [RDs.cons] at h
    obtain ⟨w, r, rfl, h2, h3⟩ := h
    rw [List.set_cons_succ, List.set_cons_succ, RDs.cons]
    exact ⟨w, _, rfl, h2, RDs.set n hd h3⟩
theorem RDs.eraseIdx : ∀ {ds : List D} {vs : List L2.V} (n : Nat), RDs K f H ds vs → RDs K f H (ds.eraseIdx n) (vs.eraseIdx n)
  | [], _, _, h => by rw [RDs.nil] at h; subst h; simp [RDs.nil]
  | x :: ds, _, 0, h => by
    rw [RDs.cons] at h
    obtain ⟨w, r, rfl, h2, h3⟩ := h
    simpa using h3
  | x :: ds, _, n + 1, h => by
    rw [RDs.cons] at h
    obtain ⟨w, r, rfl, h2, h3⟩ := h
    rw [List.eraseIdx_cons_succ, List.eraseIdx_cons_succ, RDs.cons]
    exact ⟨w, _, rfl, h2, RDs.eraseIdx n h3⟩
theorem RDs.ints : ∀ {ns : List Int} {vs : List L2.V}, RDs K f H (ns.map D.int) vs → vs = ns.map L2.V.int
  | [], _, h => by rw [List.map_nil, RDs.nil] at h; subst h; rfl
  | n :: ns, _, h => by
    rw [List.map_cons, RDs.cons] at h
    obtain ⟨v, r, rfl, h2, h3⟩ := h
    rw [RD.int] at h2
    rw [h2, RDs.ints h3]; rfl
theorem RDs.of_ints : ∀ (ns : List Int), RDs K f H (ns.map D.int) (ns.map L2.V.int)
  | [] => by simp [RDs.nil]
  | n :: ns => by
    rw [List.map_cons, List.map_cons, RDs.cons]
    exact ⟨_, _, rfl, by rw [RD.int], RDs.of_ints ns⟩
theorem RDs.bools : ∀ {bs : List Bool} {vs : List L2.V}, RDs K f H (bs.map D.bl) vs → vs = bs.map L2.V.bl
  | [], _, h => by rw [List.map_nil, RDs.nil] at h; subst h; rfl
  | n :: ns, _, h => by
    rw [List.map_cons, RDs.cons] at h
    obtain ⟨v, r, rfl, h2, h3⟩ := h
    rw [RD.bl] at h2
    rw [h2, RDs.bools h3]; rfl

/-! ### the store against the heap -/
/-- a list that may not be changed: frozen, or the module's -/
def FzL (K : Kf) (H : Hp) (a : Addr) (xs : List L2.V) : Prop :=
  (∃ o, H a = some (.frz o (.lst xs))) ∨
    ∃ (o : Obj) (its : Array Value) (n : Nat), K.lookup a = some o ∧ o.cls = .type "list" ∧ o.dict = none ∧ o.data = .seq its n ∧ its.size ≤ sizeLine ∧ L2.Vals xs its.toList
theorem FzL.sq {a : Addr} {xs : List L2.V} (h : FzL K H a xs) : L2.SqL K H a xs := by
  rcases h with h | h
  · exact .inl (.inr h)
  · exact .inr h
def RC (K : Kf) (f : List Addr) (H : Hp) : C → Addr → Prop
  | .lst ds, a => ∃ vs, H a = some (.lst vs) ∧ RDs K f H ds vs
  | .frz ds, a => ∃ vs, FzL K H a vs ∧ RDs K f H ds vs
  | .dic kvs, a => ∃ ks : List (L2.Key × L2.V), H a = some (.dK ks) ∧ ks.map (·.1) = kvs.map (·.1) ∧ RDs K f H (kvs.map (·.2)) (ks.map (·.2))
  | .frd kvs tk, a => H a = some (.frz tk.1 (.dK tk.2)) ∧ tk.2.map (·.1) = kvs.map (·.1) ∧ RDs K f H (kvs.map (·.2)) (tk.2.map (·.2))
/-- a cell that may be changed -/
def mutC : C → Bool
  | .frz _ => false
  | _ => true
structure RelS (K : Kf) (f : List Addr) (st : Store) (H : Hp) : Prop where
  len : f.length = st.length
  nd : ∀ (n m : Nat) (c c' : C) (a : Addr), st[n]? = some c → st[m]? = some c' → mutC c = true → mutC c' = true → f[n]? = some a → f[m]? = some a → n = m
  cell : ∀ (n : Nat) (c : C) (a : Addr), st[n]? = some c → f[n]? = some a → RC K f H c a
structure Rel (K : Kf) (f : List Addr) (ρ : Env) (st : Store) (σ : L2.St) (H : Hp) : Prop extends RelS K f st H where
  env : ∀ (i : Nat) (d : D), lk ρ i = some d → ∃ v, σ[i]? = some (some v) ∧ RD K f H d v
  le : ρ.length ≤ σ.length
theorem RelS.at (r : RelS K f st H) {n : Nat} {c : C} (h : st[n]? = some c) : ∃ a, f[n]? = some a ∧ RC K f H c a := by
  have hn := (List.getElem?_eq_some_iff.mp h).1
  have hn' : n < f.length := by rw [r.len]; exact hn
  exact ⟨f[n], by simp [hn'], r.cell n c _ h (by simp [hn'])⟩
theorem RelS.rdL (r : RelS K f st H) {n : Nat} {xs : List D} (h : rdL st n xs) : ∃ a vs, f[n]? = some a ∧ H a = some (.lst vs) ∧ RDs K f H xs vs := by
  obtain ⟨a, h1, vs, h2, h3⟩ := r.at h
  exact ⟨a, vs, h1, h2, h3⟩
theorem RelS.rdD (r : RelS K f st H) {n : Nat} {kvs : List (Sum Int Str × D)} (h : Pd.rdD st n kvs) : ∃ a ks, f[n]? = some a ∧ H a = some (.dK ks) ∧ ks.map (·.1) = kvs.map (·.1) ∧ RDs K f H (kvs.map (·.2)) (ks.map (·.2)) := by
  obtain ⟨a, h1, ks, h2, h3⟩ := r.at h
  exact ⟨a, ks, h1, h2, h3⟩
theorem RelS.rdDA (r : RelS K f st H) {n : Nat} {kvs : List (Sum Int Str × D)} (h : Pd.rdDA st n kvs) : ∃ a ks, f[n]? = some a ∧ L2.Rd H a (.dK ks) ∧ ks.map (·.1) = kvs.map (·.1) ∧ RDs K f H (kvs.map (·.2)) (ks.map (·.2)) := by
  rcases h with h | ⟨tk, h⟩
  · obtain ⟨a, h1, ks, h2, h3⟩ := r.at h
    exact ⟨a, ks, h1, .inl h2, h3⟩
  · obtain ⟨a, h1, h2, h3⟩ := r.at h
    exact ⟨a, tk.2, h1, .inr ⟨_, h2⟩, h3⟩
theorem RelS.rdA (r : RelS K f st H) {n : Nat} {xs : List D} (h : rdA st n xs) : ∃ a vs, f[n]? = some a ∧ L2.SqL K H a vs ∧ RDs K f H xs vs := by
  rcases h with h | h
  · obtain ⟨a, h1, vs, h2, h3⟩ := r.at h
    exact ⟨a, vs, h1, .of h2, h3⟩
  · obtain ⟨a, h1, vs, h2, h3⟩ := r.at h
    exact ⟨a, vs, h1, h2.sq, h3⟩
theorem Rel.later (r : Rel K f ρ st σ H) (e : Ext K f H f' H') (s : RelS K f' st' H') : Rel K f' ρ st' σ H' :=
  ⟨s, fun i d h => by
    obtain ⟨v, h1, h2⟩ := r.env i d h
    exact ⟨v, h1, h2.mono e⟩, r.le⟩
theorem lk_lt : ∀ {ρ : Env} {i : Nat} {d : D}, lk ρ i = some d → i < ρ.length
  | [], _, _, h => by simp [lk] at h
  | _ :: _, 0, _, _ => by simp
  | _ :: r, i + 1, _, h => by
    have := lk_lt (ρ := r) (i := i) (by simpa [lk] using h)
    simp; omega
theorem wipeE_length (ρ : Env) : ∀ vs : List Nat, (wipeE ρ vs).length = ρ.length
  | [] => rfl
  | v :: vs => by unfold wipeE; rw [List.length_set, wipeE_length ρ vs]
theorem lk_set {ρ : Env} {i j : Nat} {d x : D} (h : lk (ρ.set i (some x)) j = some d) : (j = i ∧ d = x) ∨ (j ≠ i ∧ lk ρ j = some d) := by
  induction ρ generalizing i j with
  | nil => simp [lk] at h
  | cons y r ih =>
    cases i with
    | zero =>
      cases j with
      | zero => simp [lk] at h; exact .inl ⟨rfl, h.symm⟩
      | succ j => simp [lk] at h; exact .inr ⟨by simp, by simpa [lk] using h⟩
    | succ i =>
      cases j with
      | zero => simp [lk] at h; exact .inr ⟨by simp, by simpa [lk] using h⟩
      | succ j =>
        simp [lk] at h
        rcases ih h with ⟨e, h⟩ | ⟨e, h⟩
        · exact .inl ⟨by omega, h⟩
        · exact .inr ⟨by omega, by simpa [lk] using h⟩
theorem lk_none {ρ : Env} {i j : Nat} {d : D} (h : lk (ρ.set i none) j = some d) : j ≠ i ∧ lk ρ j = some d := by
  induction ρ generalizing i j with
  | nil => simp [lk] at h
  | cons y r ih =>
    cases i with
    | zero =>
      cases j with
      | zero => simp [lk] at h
      | succ j => simp [lk] at h; exact ⟨by simp, by simpa [lk] using h⟩
    | succ i =>
      cases j with
      | zero => simp [lk] at h; exact ⟨by simp, by simpa [lk] using h⟩
      | succ j =>
        simp [lk] at h
        obtain ⟨e, h⟩ := ih h
        exact ⟨by omega, by simpa [lk] using h⟩
theorem lk_wipe {ρ : Env} {j : Nat} {d : D} : ∀ {vs : List Nat}, lk (wipeE ρ vs) j = some d → j ∉ vs ∧ lk ρ j = some d
  | [], h => ⟨by simp, h⟩
  | v :: vs, h => by
    unfold wipeE at h
    obtain ⟨h1, h2⟩ := lk_none h
    obtain ⟨h3, h4⟩ := lk_wipe h2
    exact ⟨by simp [h1, h3], h4⟩
/-- the slots a target may write: all others as they were -/
def Out (vs : List Nat) (σ σ' : L2.St) : Prop := σ'.length = σ.length ∧ ∀ j, j ∉ vs → σ'[j]? = σ[j]?
theorem Rel.put {i : Nat} {d : D} {v : L2.V} (r : Rel K f ρ st σ H) (h : RD K f H d v) : Rel K f (ρ.set i (some d)) st (σ.set i (some v)) H :=
  ⟨r.toRelS, fun j x hx => by
    have hl := lk_lt hx
    rw [List.length_set] at hl
    have hle := r.le
    rcases lk_set hx with ⟨rfl, rfl⟩ | ⟨ne, h'⟩
    · exact ⟨v, by rw [List.getElem?_set_self (by omega)], h⟩
    · obtain ⟨w, h1, h2⟩ := r.env j x h'
      exact ⟨w, by rw [List.getElem?_set_ne (Ne.symm ne)]; exact h1, h2⟩, by rw [List.length_set, List.length_set]; exact r.le⟩
theorem wipe_keep {σ : L2.St} {i : Nat} : ∀ {vs : List Nat}, i ∉ vs → (L2.wipe σ vs)[i]? = σ[i]?
  | [], _ => rfl
  | v :: vs, h => by
    have h1 : i ≠ v := fun e => h (by simp [e])
    unfold L2.wipe
    rw [List.getElem?_set_ne (Ne.symm h1)]
    exact wipe_keep fun e => h (List.mem_cons_of_mem _ e)
theorem Rel.wipe {vs : List Nat} (r : Rel K f ρ st σ H) : Rel K f (wipeE ρ vs) st (L2.wipe σ vs) H :=
  ⟨r.toRelS, fun j x hx => by
    obtain ⟨h1, h2⟩ := lk_wipe hx
    obtain ⟨v, h3, h4⟩ := r.env j x h2
    exact ⟨v, by rw [wipe_keep h1]; exact h3, h4⟩, by rw [wipeE_length, L2.wipe_length]; exact r.le⟩
theorem Out.wipe {vs : List Nat} {σ σ' : L2.St} (h : Out vs (L2.wipe σ vs) σ') : L2.wipe σ' vs = L2.wipe σ vs := by
  obtain ⟨h1, h2⟩ := h
  apply List.ext_getElem?
  intro j
  have wiped : ∀ (τ : L2.St) (ws : List Nat), j ∈ ws → (L2.wipe τ ws)[j]? = if j < τ.length then some none else none := by
    intro τ ws
    induction ws with
    | nil => intro h; cases h
    | cons v ws ih =>
      intro h
      unfold L2.wipe
      by_cases e : v = j
      · subst e
        by_cases hl : v < τ.length
        · rw [List.getElem?_set_self (by rw [L2.wipe_length]; exact hl), if_pos hl]
        · rw [List.getElem?_eq_none (by rw [List.length_set, L2.wipe_length]; omega), if_neg hl]
      · rw [List.getElem?_set_ne e]
        rcases List.mem_cons.mp h with q | q
        · exact absurd q.symm e
        · exact ih q
  by_cases hj : j ∈ vs
  · rw [wiped σ' vs hj, wiped σ vs hj, h1, L2.wipe_length]
  · rw [wipe_keep hj, h2 j hj]

/-! a new object, a changed one -/
/-- what may stand where something is laid or changed -/
def Wr (H : Hp) (b : Addr) : Prop := H b = none ∨ (∃ ys, H b = some (.lst ys)) ∨ (∃ ys, H b = some (.dK ys)) ∨ ∃ o ys, H b = some (.frz o (.dK ys))
theorem SqT.upd {a b : Addr} {xs : List L2.V} {o : L2.HO} (h : L2.SqT K H a xs) (n : Wr H b) : L2.SqT K (L2.upd H b o) a xs := by
  rcases h with (h | ⟨q, h⟩) | h
  · have : a ≠ b := by
      rintro rfl
      rcases n with n | ⟨ys, n⟩ | ⟨ys, n⟩ | ⟨o, ys, n⟩ <;> rw [n] at h <;> cases h
    exact .inl (.inl (by rw [L2.upd_ne this]; exact h))
  · have : a ≠ b := by
      rintro rfl
      rcases n with n | ⟨ys, n⟩ | ⟨ys, n⟩ | ⟨o, ys, n⟩ <;> rw [n] at h <;> cases h
    exact .inl (.inr ⟨q, by rw [L2.upd_ne this]; exact h⟩)
  · exact .inr h
theorem FzL.upd {a b : Addr} {xs : List L2.V} {o : L2.HO} (h : FzL K H a xs) (n : Wr H b) : FzL K (L2.upd H b o) a xs := by
  rcases h with ⟨q, h⟩ | h
  · have : a ≠ b := by
      rintro rfl
      rcases n with n | ⟨ys, n⟩ | ⟨ys, n⟩ | ⟨o, ys, n⟩ <;> rw [n] at h <;> cases h
    exact .inl ⟨q, by rw [L2.upd_ne this]; exact h⟩
  · exact .inr h
theorem Ext.upd {b : Addr} {o : L2.HO} {g : List Addr} (n : Wr H b) : Ext K f H (f ++ g) (L2.upd H b o) := ⟨⟨g, rfl⟩, fun _ _ h => SqT.upd h n⟩
theorem Ext.upd0 {b : Addr} {o : L2.HO} (n : Wr H b) : Ext K f H f (L2.upd H b o) := ⟨⟨[], by simp⟩, fun _ _ h => SqT.upd h n⟩
theorem RC.upd {c : C} {a b : Addr} {o : L2.HO} (h : RC K f H c a) (e : Ext K f H f' (L2.upd H b o)) (n : Wr H b) (ne : mutC c = true → a ≠ b) : RC K f' (L2.upd H b o) c a := by
  cases c with
  | lst ds =>
    obtain ⟨vs, h1, h2⟩ := h
    exact ⟨vs, by rw [L2.upd_ne (ne rfl)]; exact h1, h2.mono e⟩
  | frz ds =>
    obtain ⟨vs, h1, h2⟩ := h
    exact ⟨vs, h1.upd n, h2.mono e⟩
  | dic kvs =>
    obtain ⟨ks, h1, h2, h3⟩ := h
    exact ⟨ks, by rw [L2.upd_ne (ne rfl)]; exact h1, h2, h3.mono e⟩
  | frd kvs tk =>
    obtain ⟨h1, h2, h3⟩ := h
    exact ⟨by rw [L2.upd_ne (ne rfl)]; exact h1, h2, h3.mono e⟩
theorem RC.some {c : C} {a : Addr} (h : RC K f H c a) (m : mutC c = true) : H a ≠ none := by
  cases c with
  | lst ds => obtain ⟨vs, h1, _⟩ := h; rw [h1]; simp
  | frz ds => cases m
  | dic kvs => obtain ⟨ks, h1, _⟩ := h; rw [h1]; simp
  | frd kvs tk => obtain ⟨h1, _⟩ := h; rw [h1]; simp
/-- a new tracked object that is no cell (a tuple) -/
theorem RelS.lay (r : RelS K f st H) {p : Addr} {o : L2.HO} (hp : H p = none) : RelS K f st (L2.upd H p o) ∧ Ext K f H f (L2.upd H p o) := by
  have e : Ext K f H f (L2.upd H p o) := Ext.upd0 (.inl hp)
  exact ⟨⟨r.len, r.nd, fun n c a h1 h2 => (r.cell n c a h1 h2).upd e (.inl hp) fun m z => (r.cell n c a h1 h2).some m (z ▸ hp)⟩, e⟩
/-- a new cell -/
theorem RelS.new (r : RelS K f st H) {p : Addr} {o : L2.HO} {c : C} (hp : H p = none) (hc : RC K (f ++ [p]) (L2.upd H p o) c p) : RelS K (f ++ [p]) (st ++ [c]) (L2.upd H p o) ∧ Ext K f H (f ++ [p]) (L2.upd H p o) := by
  have e : Ext K f H (f ++ [p]) (L2.upd H p o) := Ext.upd (.inl hp)
  have split : ∀ {n : Nat} {c' : C} {a : Addr}, (st ++ [c])[n]? = some c' → (f ++ [p])[n]? = some a → (n < st.length ∧ st[n]? = some c' ∧ f[n]? = some a) ∨ (n = st.length ∧ c' = c ∧ a = p) := fun {n c' a} h1 h2 => by
    have hl := r.len
    by_cases hn : n < st.length
    · rw [List.getElem?_append_left hn] at h1
      rw [List.getElem?_append_left (by rw [r.len]; exact hn)] at h2
      exact .inl ⟨hn, h1, h2⟩
    · rw [List.getElem?_append_right (by omega)] at h1
      rw [List.getElem?_append_right (by rw [r.len]; omega)] at h2
      have e0 : n - st.length = 0 := by
        have := (List.getElem?_eq_some_iff.mp h1).1
        simp at this; omega
      rw [e0] at h1
      rw [hl, e0] at h2
      simp at h1 h2
      exact .inr ⟨by omega, h1.symm, h2.symm⟩
  refine ⟨⟨by simp [r.len], fun n m c1 c2 a h1 h2 m1 m2 h3 h4 => ?_, fun n c' a h1 h2 => ?_⟩, e⟩
  · rcases split h1 h3 with ⟨l1, s1, t1⟩ | ⟨l1, rfl, rfl⟩ <;> rcases split h2 h4 with ⟨l2, s2, t2⟩ | ⟨l2, rfl, e2⟩
    · exact r.nd n m c1 c2 a s1 s2 m1 m2 t1 t2
    · subst e2
      exact absurd hp ((r.cell n c1 _ s1 t1).some m1)
    · exact absurd hp ((r.cell m c2 _ s2 t2).some m2)
    · omega
  · rcases split h1 h2 with ⟨l1, s1, t1⟩ | ⟨l1, rfl, rfl⟩
    · exact (r.cell n c' a s1 t1).upd e (.inl hp) fun m z => (r.cell n c' a s1 t1).some m (z ▸ hp)
    · exact hc
/-- a cell is changed -/
theorem RelS.chg (r : RelS K f st H) {p : Addr} {n : Nat} {c c' : C} {o : L2.HO} (hs : st[n]? = some c) (hm : mutC c = true) (hn : f[n]? = some p) (hp : Wr H p) (hm' : mutC c' = true) (hd : RC K f (L2.upd H p o) c' p) :
    RelS K f (st.set n c') (L2.upd H p o) ∧ Ext K f H f (L2.upd H p o) := by
  have e : Ext K f H f (L2.upd H p o) := Ext.upd0 hp
  have hl : n < st.length := (List.getElem?_eq_some_iff.mp hs).1
  have split : ∀ {m : Nat} {d : C}, (st.set n c')[m]? = some d → (m = n ∧ d = c') ∨ (m ≠ n ∧ st[m]? = some d) := fun {m d} h => by
    by_cases hmn : m = n
    · subst hmn
      rw [List.getElem?_set_self hl] at h
      cases h
      exact .inl ⟨rfl, rfl⟩
    · rw [List.getElem?_set_ne (Ne.symm hmn)] at h
      exact .inr ⟨hmn, h⟩
  refine ⟨⟨by simp [r.len], fun i j c1 c2 a h1 h2 m1 m2 h3 h4 => ?_, fun m d a h1 h2 => ?_⟩, e⟩
  · rcases split h1 with ⟨rfl, rfl⟩ | ⟨n1, s1⟩ <;> rcases split h2 with ⟨rfl, rfl⟩ | ⟨n2, s2⟩
    · rfl
    · exact r.nd _ _ _ _ a hs s2 hm m2 h3 h4
    · exact r.nd _ _ _ _ a s1 hs m1 hm h3 h4
    · exact r.nd _ _ _ _ a s1 s2 m1 m2 h3 h4
  · rcases split h1 with ⟨rfl, rfl⟩ | ⟨n1, s1⟩
    · rw [hn] at h2; cases h2
      exact hd
    · exact (r.cell m d a s1 h2).upd e hp fun md z => by
        subst z
        exact n1 (r.nd _ _ _ _ a s1 hs md hm h2 hn)
end
end Pd
end PartPdSoundA

section PartPdSoundB
set_option Elab.async false
set_option linter.all false
set_option maxRecDepth 100000
set_option maxHeartbeats 1000000
/-! Pd over the hand layer: lifting, expressions. Own work. -/
namespace Pd
open PySem PySem.Spec

/-! ### what is wanted, lifted -/
def LQ (K : Kf) (f : List Addr) (H : Hp) (Q' : Pd.K) (Q : L2.VK) : Prop :=
  ∀ (d : D) (st' : Store) (v : L2.V) (f' : List Addr) (H' : Hp), Q' d st' → Ext K f H f' H' → RelS K f' st' H' → RD K f' H' d v → Q v H'
def LT (K : Kf) (f : List Addr) (H : Hp) (Q' : Bool → Store → Prop) (Q : Bool → Hp → Prop) : Prop :=
  ∀ (b : Bool) (st' : Store) (f' : List Addr) (H' : Hp), Q' b st' → Ext K f H f' H' → RelS K f' st' H' → Q b H'
def LA (K : Kf) (f : List Addr) (H : Hp) (Q' : List D → Store → Prop) (Q : List L2.V → Hp → Prop) : Prop :=
  ∀ (ds : List D) (st' : Store) (vs : List L2.V) (f' : List Addr) (H' : Hp), Q' ds st' → Ext K f H f' H' → RelS K f' st' H' → RDs K f' H' ds vs → Q vs H'
def lift (K : Kf) (t : TE) : L2.TE := fun σ H Q => ∃ f ρ st Q', Rel K f ρ st σ H ∧ t ρ st Q' ∧ LQ K f H Q' Q
def liftT (K : Kf) (t : TT) : L2.TT := fun σ H Q => ∃ f ρ st Q', Rel K f ρ st σ H ∧ t ρ st Q' ∧ LT K f H Q' Q
def liftA (K : Kf) (t : TA) : L2.TA := fun σ H Q => ∃ f ρ st Q', Rel K f ρ st σ H ∧ t ρ st Q' ∧ LA K f H Q' Q
abbrev PD (X : L2.Cx) (e : Expr) (t : TE) : Prop := L2.PE X e (lift X.K t)
abbrev PDT (X : L2.Cx) (e : Expr) (t : TT) : Prop := L2.PT X e (liftT X.K t)
abbrev PDA (X : L2.Cx) (es : List Expr) (t : TA) : Prop := L2.PA X es (liftA X.K t)
section
variable {X : L2.Cx} {K : Kf} {f f' : List Addr} {H H' : Hp} {st st' : Store} {ρ : Env} {σ : L2.St}
theorem pe_imp {e : Expr} {t t' : L2.TE} (h : L2.PE X e t) (m : ∀ σ H Q, t' σ H Q → t σ H Q) : L2.PE X e t' := ⟨fun pins s σ H Q I q => h.run pins s σ H Q I (m σ H Q q)⟩
theorem pt_imp {e : Expr} {t t' : L2.TT} (h : L2.PT X e t) (m : ∀ σ H Q, t' σ H Q → t σ H Q) : L2.PT X e t' := ⟨fun pins s σ H Q I q => h.run pins s σ H Q I (m σ H Q q)⟩
theorem pa_imp {e : List Expr} {t t' : L2.TA} (h : L2.PA X e t) (m : ∀ σ H Q, t' σ H Q → t σ H Q) : L2.PA X e t' := ⟨fun pos pins s σ H Q I q => h.run pos pins s σ H Q I (m σ H Q q)⟩
theorem LQ.later {Q' : Pd.K} {Q : L2.VK} (l : LQ K f H Q' Q) (e : Ext K f H f' H') : LQ K f' H' Q' Q := fun d st' v f2 H2 q e2 s r => l d st' v f2 H2 q (e.trans e2) s r
theorem LQ.now {Q' : Pd.K} {Q : L2.VK} {d : D} {v : L2.V} (l : LQ K f H Q' Q) (s : RelS K f st H) (q : Q' d st) (r : RD K f H d v) : Q v H := l d st v f H q .refl s r
/-- a new tuple -/
theorem LQ.tup {Q' : Pd.K} {Q : L2.VK} {ds : List D} {vs : List L2.V} (l : LQ K f H Q' Q) (s : RelS K f st H) (q : Q' (.tup ds) st) (r : RDs K f H ds vs) {p : Addr} (hp : H p = none) : Q (.ref p) (L2.upd H p (.tup vs)) := by
  obtain ⟨s', e⟩ := s.lay (o := .tup vs) hp
  exact l _ st _ f _ q e s' (RD.tup.mpr ⟨p, vs, rfl, .of L2.upd_same, r.mono e⟩)
/-- a new list -/
theorem LQ.lst {Q' : Pd.K} {Q : L2.VK} {ds : List D} {vs : List L2.V} (l : LQ K f H Q' Q) (s : RelS K f st H) (q : Q' (.ref st.length) (st ++ [.lst ds])) (r : RDs K f H ds vs) {p : Addr} (hp : H p = none) : Q (.ref p) (L2.upd H p (.lst vs)) := by
  have e : Ext K f H (f ++ [p]) (L2.upd H p (.lst vs)) := Ext.upd (.inl hp)
  obtain ⟨s', e⟩ := s.new (o := .lst vs) (c := .lst ds) hp ⟨vs, L2.upd_same, r.mono e⟩
  exact l _ _ _ _ _ q e s' (RD.ref.mpr ⟨p, by rw [← s.len]; simp, rfl⟩)
/-- a changed list -/
theorem RelS.put {n : Nat} {a : Addr} {xs ds : List D} {vs ws : List L2.V} (s : RelS K f st H) (hn : f[n]? = some a) (h : Pd.rdL st n xs) (hH : H a = some (.lst vs)) (r : RDs K f H ds ws) :
    RelS K f (st.set n (.lst ds)) (L2.upd H a (.lst ws)) ∧ Ext K f H f (L2.upd H a (.lst ws)) :=
  s.chg (c := .lst xs) h rfl hn (.inr (.inl ⟨vs, hH⟩)) rfl ⟨ws, L2.upd_same, r.mono (Ext.upd0 (.inr (.inl ⟨vs, hH⟩)))⟩

/-! ### names, constants -/
theorem pd_var {i : Nat} {x : Str} {pos : Pos} (hN : X.N[i]? = some x) (hv : L2.Vis X.env.scope x := by first | exact .inl rfl | exact .inr (.inl rfl) | exact .inr (.inr rfl)) (hd : (x == ("__debug__" : Str)) = false := by decide) (hcd : (x == ("__classdict__" : Str)) = false := by decide) : PD X (.Name x pos) (dVar i) := by
  refine pe_imp (L2.pe_var hN hv hd hcd) fun σ H Q ⟨f, ρ, st, Q', R, ⟨d, h1, h2⟩, l⟩ => ?_
  obtain ⟨v, e, r⟩ := R.env i d h1
  exact ⟨v, e, l.now R.toRelS h2 r⟩
theorem pd_int {i : Int} {j pos} : PD X (.Constant (.int i) j pos) (dC (.int i)) := pe_imp L2.pe_int fun σ H Q ⟨f, ρ, st, Q', R, h, l⟩ => l.now R.toRelS h (RD.int.mpr rfl)
theorem pd_bl {b : Bool} {j pos} : PD X (.Constant (.bool b) j pos) (dC (.bl b)) := pe_imp L2.pe_bl fun σ H Q ⟨f, ρ, st, Q', R, h, l⟩ => l.now R.toRelS h (RD.bl.mpr rfl)
theorem pd_non {j pos} : PD X (.Constant .none j pos) (dC .non) := pe_imp L2.pe_non fun σ H Q ⟨f, ρ, st, Q', R, h, l⟩ => l.now R.toRelS h (RD.non.mpr rfl)
theorem pd_str {x : Str} {j pos} : PD X (.Constant (.str x) j pos) (dC (.str x)) := pe_imp L2.pe_str fun σ H Q ⟨f, ρ, st, Q', R, h, l⟩ => l.now R.toRelS h (RD.str.mpr rfl)
/-- a constant of the module: data -/
theorem pd_glob {x : Str} {d : D} {u : Value} {pos : Pos} (hg : L2.Gl X x) (hm : X.mg x = some u) (h : ∃ v, L2.RelV v u ∧ ∀ f H, RD X.K f H d v) (hd : (x == ("__debug__" : Str)) = false := by decide) : PD X (.Name x pos) (dC d) := by
  obtain ⟨v, r, hr⟩ := h
  exact pe_imp (L2.pe_glob hg hm r hd) fun σ H Q ⟨f, ρ, st, Q', R, h, l⟩ => l.now R.toRelS h (hr f H)

/-! ### operators -/
def Real2 (K : Kf) (r : L2.R2) (k : K2) : Prop := ∀ (f : List Addr) (st : Store) (H : Hp) (x y : D) (v w : L2.V) (Q' : Pd.K) (Q : L2.VK), RelS K f st H → RD K f H x v → RD K f H y w → k x y st Q' → LQ K f H Q' Q → r v w H Q
def Real1 (K : Kf) (r : L2.V → Hp → L2.VK → Prop) (k : D → Store → Pd.K → Prop) : Prop := ∀ (f : List Addr) (st : Store) (H : Hp) (x : D) (v : L2.V) (Q' : Pd.K) (Q : L2.VK), RelS K f st H → RD K f H x v → k x st Q' → LQ K f H Q' Q → r v H Q
theorem two_imp {r : L2.R2} {k : K2} {ta tb : TE} (hr : Real2 K r k) {Q : L2.VK} (h : lift K (dOp k ta tb) σ H Q) : L2.tOp r (lift K ta) (lift K tb) σ H Q := by
  obtain ⟨f, ρ, st, Q', R, h, l⟩ := h
  refine ⟨f, ρ, st, _, R, h, fun x st1 v f1 H1 h1 e1 s1 r1 => ⟨f1, ρ, st1, _, R.later e1 s1, h1, fun y st2 w f2 H2 h2 e2 s2 r2 => ?_⟩⟩
  exact hr f2 st2 H2 x y v w Q' Q s2 (r1.mono e2) r2 h2 (l.later (e1.trans e2))
section
variable {a b c : Expr} {ta tb tc : TE} {pos : Pos}
theorem pd_op {op : Operator} {r : L2.R2} {k : K2} (ho : L2.OpR X (binaryOp op) r) (hr : Real2 X.K r k) (ha : PD X a ta) (hb : PD X b tb) : PD X (.BinOp a op b pos) (dOp k ta tb) :=
  pe_imp (L2.pe_op ho ha hb) fun σ H Q h => two_imp hr h
theorem pd_un {op : UnaryOp} {r : L2.V → Hp → L2.VK → Prop} {k : D → Store → Pd.K → Prop} (ho : L2.UnR X (unaryOp op) r) (hr : Real1 X.K r k) (ha : PD X a ta) : PD X (.UnaryOp op a pos) (dUn k ta) := by
  refine pe_imp (L2.pe_un ho ha) fun σ H Q ⟨f, ρ, st, Q', R, h, l⟩ => ?_
  exact ⟨f, ρ, st, _, R, h, fun x st1 v f1 H1 h1 e1 s1 r1 => hr f1 st1 H1 x v Q' Q s1 r1 h1 (l.later e1)⟩
end
theorem real_int {g : Int → Int → Int} {C : Int → Int → Prop} {k : K2} (hk : ∀ x y st Q, k x y st Q → ∃ i j, x = .int i ∧ y = .int j ∧ C i j ∧ Q (.int (g i j)) st) : Real2 K (L2.rI C fun i j => .int (g i j)) k := by
  intro f st H x y v w Q' Q s r1 r2 h l
  obtain ⟨i, j, rfl, rfl, hc, q⟩ := hk x y st Q' h
  rw [RD.int] at r1 r2
  exact ⟨i, j, r1, r2, hc, l.now s q (RD.int.mpr rfl)⟩
theorem real_int0 {g : Int → Int → Int} {k : K2} (hk : ∀ x y st Q, k x y st Q → ∃ i j, x = .int i ∧ y = .int j ∧ Q (.int (g i j)) st) : Real2 K (L2.rI0 fun i j => .int (g i j)) k := by
  intro f st H x y v w Q' Q s r1 r2 h l
  obtain ⟨i, j, rfl, rfl, q⟩ := hk x y st Q' h
  rw [RD.int] at r1 r2
  exact ⟨i, j, r1, r2, l.now s q (RD.int.mpr rfl)⟩
/-- + -/
def rAdd (K : Kf) : L2.R2 := fun x y H Q => (∃ i j, x = .int i ∧ y = .int j ∧ Q (.int (i + j)) H) ∨ (∃ i j, x = .str i ∧ y = .str j ∧ i.length + j.length ≤ sizeLine ∧ Q (.str (i ++ j)) H) ∨ L2.rCatA K x y H Q ∨ L2.rCat x y H Q
theorem op_addA : L2.OpR X (binaryOp .Add) (rAdd X.K) := (L2.op_add (X := X)).or (L2.op_add_str.or (L2.op_catA.or L2.op_cat))
theorem RDs.isNil {ds : List D} {vs : List L2.V} (h : RDs K f H ds vs) : ds = [] ↔ vs = [] := by
  have := h.length
  constructor
  · rintro rfl; exact List.length_eq_zero_iff.mp (by simpa using this)
  · rintro rfl; exact List.length_eq_zero_iff.mp (by simpa using this.symm)
theorem real_add : Real2 K (rAdd K) addK := by
  intro f st H x y v w Q' Q s r1 r2 h l
  cases x <;> cases y <;> try (exact h.elim)
  · rw [RD.int] at r1 r2
    exact .inl ⟨_, _, r1, r2, l.now s h (RD.int.mpr rfl)⟩
  · rw [RD.str] at r1 r2
    obtain ⟨h1, h2⟩ := h
    exact .inr (.inl ⟨_, _, r1, r2, by rw [← szl_eq]; exact h1, l.now s h2 (RD.str.mpr rfl)⟩)
  · rw [RD.tup] at r1 r2
    obtain ⟨a, vs, rfl, t1, d1⟩ := r1
    obtain ⟨b, ws, rfl, t2, d2⟩ := r2
    obtain ⟨h1, h2⟩ := h
    refine .inr (.inr (.inl ⟨a, b, vs, ws, rfl, rfl, t1, t2, by rw [d1.length, d2.length, ← szl_eq]; exact h1, fun e => ?_, fun _ e => ?_, fun _ _ p hp => ?_⟩))
    · have e' := d1.isNil.mpr e
      subst e'
      exact l.now s h2 (RD.tup.mpr ⟨b, ws, rfl, t2, d2⟩)
    · have e' := d2.isNil.mpr e
      subst e'
      rw [List.append_nil] at h2
      exact l.now s h2 (RD.tup.mpr ⟨a, vs, rfl, t1, d1⟩)
    · exact l.tup s h2 (d1.append d2) hp
  · rw [RD.ref] at r1 r2
    obtain ⟨a, e1, rfl⟩ := r1
    obtain ⟨b, e2, rfl⟩ := r2
    obtain ⟨xs, ys, h1, h2, h3, h4⟩ := h
    obtain ⟨a', vs, g1, g2, g3⟩ := s.rdL h1
    obtain ⟨b', ws, k1, k2, k3⟩ := s.rdL h2
    rw [e1] at g1; cases g1
    rw [e2] at k1; cases k1
    exact .inr (.inr (.inr ⟨a, b, vs, ws, rfl, rfl, g2, k2, by rw [g3.length, k3.length, ← szl_eq]; exact h3, fun p hp => l.lst s h4 (g3.append k3) hp⟩))
theorem real_sub : Real2 K (L2.rI0 fun i j => .int (i - j)) subK := real_int0 fun x y st Q h => by
  cases x <;> cases y <;> first | exact h.elim | exact ⟨_, _, rfl, rfl, h⟩
def rMul : L2.R2 := fun x y H Q => L2.rI L2.CMul (fun i j => .int (i * j)) x y H Q ∨ L2.rRep x y H Q
theorem op_mulA : L2.OpR X (binaryOp .Mult) rMul := (L2.op_mul (X := X)).or L2.op_rep
theorem RDs.rep {ds : List D} {vs : List L2.V} (h : RDs K f H ds vs) : ∀ n : Nat, RDs K f H (List.replicate n ds).flatten (List.replicate n vs).flatten
  | 0 => by simp [RDs.nil]
  | n + 1 => by
    rw [List.replicate_succ, List.replicate_succ, List.flatten_cons, List.flatten_cons]
    exact h.append (RDs.rep h n)
theorem real_mul : Real2 K rMul mulK := by
  intro f st H x y v w Q' Q s r1 r2 h l
  cases x <;> cases y <;> try (exact h.elim)
  · rw [RD.int] at r1 r2
    obtain ⟨h1, h2⟩ := h
    exact .inl ⟨_, _, r1, r2, h1, l.now s h2 (RD.int.mpr rfl)⟩
  · rw [RD.ref] at r1
    rw [RD.int] at r2
    obtain ⟨a, e1, rfl⟩ := r1
    obtain ⟨xs, h1, h2, h3, h4, h5⟩ := h
    obtain ⟨a', vs, g1, g2, g3⟩ := s.rdL h1
    rw [e1] at g1; cases g1
    exact .inr ⟨a, _, vs, rfl, r2, g2, h2, h3, by rw [g3.length, ← szl_eq]; exact h4, fun p hp => l.lst s h5 (g3.rep _) hp⟩
theorem real_fdiv : Real2 K (L2.rI L2.CDiv fun i j => .int (i / j)) fdivK := real_int fun x y st Q h => by
  cases x <;> cases y <;> first | exact h.elim | exact ⟨_, _, rfl, rfl, h⟩
theorem real_mod : Real2 K (L2.rI (fun _ j => 0 < j) fun i j => .int (i % j)) modK := real_int fun x y st Q h => by
  cases x <;> cases y <;> first | exact h.elim | exact ⟨_, _, rfl, rfl, h⟩
theorem real_pow : Real2 K (L2.rI L2.CPow fun i j => .int (i ^ j.toNat)) powK := real_int fun x y st Q h => by
  cases x <;> cases y <;> first | exact h.elim | exact ⟨_, _, rfl, rfl, h⟩
theorem real_shl : Real2 K (L2.rI L2.CPow fun i j => .int (i * 2 ^ j.toNat)) shlK := real_int fun x y st Q h => by
  cases x <;> cases y <;> first | exact h.elim | exact ⟨_, _, rfl, rfl, h⟩
theorem real_shr : Real2 K (L2.rI (fun _ j => 0 ≤ j) fun i j => .int (i / 2 ^ j.toNat)) shrK := real_int fun x y st Q h => by
  cases x <;> cases y <;> first | exact h.elim | exact ⟨_, _, rfl, rfl, h⟩
theorem real_and : Real2 K (L2.rI0 fun i j => .int (Builtin.bitAnd i j)) andK := real_int0 fun x y st Q h => by
  cases x <;> cases y <;> first | exact h.elim | exact ⟨_, _, rfl, rfl, h⟩
theorem real_or : Real2 K (L2.rI0 fun i j => .int (Builtin.bitOr i j)) orK := real_int0 fun x y st Q h => by
  cases x <;> cases y <;> first | exact h.elim | exact ⟨_, _, rfl, rfl, h⟩
theorem real_xor : Real2 K (L2.rI0 fun i j => .int (Builtin.bitXor i j)) xorK := real_int0 fun x y st Q h => by
  cases x <;> cases y <;> first | exact h.elim | exact ⟨_, _, rfl, rfl, h⟩
theorem real_neg : Real1 K (L2.rU fun i => .int (-i)) negK := by
  intro f st H x v Q' Q s r1 h l
  cases x <;> try (exact h.elim)
  rw [RD.int] at r1
  exact ⟨_, r1, l.now s h (RD.int.mpr rfl)⟩
theorem real_inv : Real1 K (L2.rU fun i => .int (Builtin.bitNot i)) invK := by
  intro f st H x v Q' Q s r1 h l
  cases x <;> try (exact h.elim)
  rw [RD.int] at r1
  exact ⟨_, r1, l.now s h (RD.int.mpr rfl)⟩
section
variable {a b c : Expr} {ta tb tc : TE} {pos : Pos}
theorem pd_add (ha : PD X a ta) (hb : PD X b tb) : PD X (.BinOp a .Add b pos) (dOp addK ta tb) := pd_op op_addA real_add ha hb
theorem pd_sub (ha : PD X a ta) (hb : PD X b tb) : PD X (.BinOp a .Sub b pos) (dOp subK ta tb) := pd_op L2.op_sub real_sub ha hb
theorem pd_mul (ha : PD X a ta) (hb : PD X b tb) : PD X (.BinOp a .Mult b pos) (dOp mulK ta tb) := pd_op op_mulA real_mul ha hb
theorem pd_fdiv (ha : PD X a ta) (hb : PD X b tb) : PD X (.BinOp a .FloorDiv b pos) (dOp fdivK ta tb) := pd_op L2.op_fdiv real_fdiv ha hb
theorem pd_mod (ha : PD X a ta) (hb : PD X b tb) : PD X (.BinOp a .Mod b pos) (dOp modK ta tb) := pd_op L2.op_mod real_mod ha hb
theorem pd_pow (ha : PD X a ta) (hb : PD X b tb) : PD X (.BinOp a .Pow b pos) (dOp powK ta tb) := pd_op L2.op_pow real_pow ha hb
theorem pd_shl (ha : PD X a ta) (hb : PD X b tb) : PD X (.BinOp a .LShift b pos) (dOp shlK ta tb) := pd_op L2.op_shl real_shl ha hb
theorem pd_shr (ha : PD X a ta) (hb : PD X b tb) : PD X (.BinOp a .RShift b pos) (dOp shrK ta tb) := pd_op L2.op_shr real_shr ha hb
theorem pd_and (ha : PD X a ta) (hb : PD X b tb) : PD X (.BinOp a .BitAnd b pos) (dOp andK ta tb) := pd_op L2.op_and real_and ha hb
theorem pd_or (ha : PD X a ta) (hb : PD X b tb) : PD X (.BinOp a .BitOr b pos) (dOp orK ta tb) := pd_op L2.op_or real_or ha hb
theorem pd_xor (ha : PD X a ta) (hb : PD X b tb) : PD X (.BinOp a .BitXor b pos) (dOp xorK ta tb) := pd_op L2.op_xor real_xor ha hb
theorem pd_neg (ha : PD X a ta) : PD X (.UnaryOp .USub a pos) (dUn negK ta) := pd_un L2.un_neg real_neg ha
theorem pd_inv (ha : PD X a ta) : PD X (.UnaryOp .Invert a pos) (dUn invK ta) := pd_un L2.un_inv real_inv ha
end

/-! ### comparisons -/
mutual
def toP : D → PyData
  | .non => .none
  | .bl b => .bool b
  | .int i => .int i
  | .str x => .str x
  | .tup xs => .tuple (toPs xs)
  | .ref _ => .none
def toPs : List D → List PyData
  | [] => []
  | x :: xs => toP x :: toPs xs
end
theorem strOk_of {x : Str} (h : okS x = true) : PyData.strOk x = true := by
  unfold okS at h
  unfold PyData.strOk
  rw [← Array.all_toList]
  exact h
mutual
theorem toP_dp {n : Nat} : ∀ (d : D) {v : L2.V}, D.okd n d = true → RD K f H d v → L2.Dp K H v (toP d)
  | .non, _, _, h => by rw [RD.non] at h; subst h; exact .non
  | .bl b, _, _, h => by rw [RD.bl] at h; subst h; exact .bl b
  | .int i, _, _, h => by rw [RD.int] at h; subst h; exact .int i
  | .str x, _, _, h => by rw [RD.str] at h; subst h; exact .str x
  | .ref _, _, ok, h => by simp [D.okd] at ok
  | .tup xs, _, ok, h => by
    cases n with
    | zero => simp [D.okd] at ok
    | succ n =>
      rw [RD.tup] at h
      obtain ⟨a, vs, rfl, h1, h2⟩ := h
      exact .tup h1 (toPs_dp xs (n := n) (by simpa [D.okd] using ok) h2)
theorem toPs_dp {n : Nat} : ∀ (ds : List D) {vs : List L2.V}, okds n ds = true → RDs K f H ds vs → L2.DpAll K H vs (toPs ds)
  | [], _, _, h => by rw [RDs.nil] at h; subst h; exact .nil
  | d :: ds, _, ok, h => by
    rw [RDs.cons] at h
    obtain ⟨v, r, rfl, h1, h2⟩ := h
    have ok' : D.okd n d = true ∧ okds n ds = true := by simpa [okds] using ok
    exact .cons (toP_dp d ok'.1 h1) (toPs_dp ds ok'.2 h2)
end
mutual
theorem toP_ok {n : Nat} : ∀ (d : D), D.okd n d = true → (toP d).canLay0 = true ∧ (toP d).depth ≤ n
  | .non, _ => by simp [toP, PyData.canLay0, PyData.depth]
  | .bl b, _ => by simp [toP, PyData.canLay0, PyData.depth]
  | .int i, _ => by simp [toP, PyData.canLay0, PyData.depth]
  | .str x, ok => by
    have : okS x = true := by simpa [D.okd] using ok
    simp [toP, PyData.canLay0, PyData.depth, strOk_of this]
  | .ref _, ok => by simp [D.okd] at ok
  | .tup xs, ok => by
    cases n with
    | zero => simp [D.okd] at ok
    | succ n =>
      obtain ⟨h1, h2⟩ := toPs_ok xs (n := n) (by simpa [D.okd] using ok)
      simp [toP, PyData.canLay0, PyData.depth, h1, h2]
theorem toPs_ok {n : Nat} : ∀ (ds : List D), okds n ds = true → PyData.canLayAll0 (toPs ds) = true ∧ PyData.depthAll (toPs ds) ≤ n
  | [], _ => by simp [toPs, PyData.canLayAll0, PyData.depthAll]
  | d :: ds, ok => by
    have ok' : D.okd n d = true ∧ okds n ds = true := by simpa [okds] using ok
    obtain ⟨h1, h2⟩ := toP_ok d ok'.1
    obtain ⟨h3, h4⟩ := toPs_ok ds ok'.2
    simp [toPs, PyData.canLayAll0, PyData.depthAll, h1, h3]
    omega
end
theorem shaped_of {d : D} (h : D.okd 60 d = true) : SeqAt.shaped (toP d) = true := by
  obtain ⟨h1, h2⟩ := toP_ok d h
  unfold SeqAt.shaped
  rw [h1, decide_eq_true (by omega)]
  rfl
theorem shaped_ofs {ds : List D} (h : okds 60 ds = true) : SeqAt.shaped (.list (toPs ds)) = true := by
  obtain ⟨h1, h2⟩ := toPs_ok ds h
  have e1 : (PyData.list (toPs ds)).canLay0 = true := by simpa [PyData.canLay0] using h1
  have e2 : (PyData.list (toPs ds)).depth = PyData.depthAll (toPs ds) + 1 := by simp [PyData.depth]
  unfold SeqAt.shaped
  rw [e1, e2, decide_eq_true (by omega)]
  rfl
mutual
theorem toP_eqv {n m : Nat} : ∀ (d e : D), D.okd n d = true → D.okd m e = true → PyData.eqv (toP d) (toP e) = D.eqb d e
  | .tup xs, .tup ys, h1, h2 => by
    cases n with
    | zero => simp [D.okd] at h1
    | succ n =>
      cases m with
      | zero => simp [D.okd] at h2
      | succ m => simpa [toP, PyData.eqv, D.eqb] using toPs_eqv xs ys (n := n) (m := m) (by simpa [D.okd] using h1) (by simpa [D.okd] using h2)
  | .ref _, _, h1, _ => by simp [D.okd] at h1
  | d, .ref _, _, h2 => by simp [D.okd] at h2
  | .non, .non, _, _ => by simp [toP, PyData.eqv, D.eqb]
  | .non, .bl _, _, _ => by simp [toP, PyData.eqv, D.eqb]
  | .non, .int _, _, _ => by simp [toP, PyData.eqv, D.eqb]
  | .non, .str _, _, _ => by simp [toP, PyData.eqv, D.eqb]
  | .non, .tup _, _, _ => by simp [toP, PyData.eqv, D.eqb]
  | .bl _, .non, _, _ => by simp [toP, PyData.eqv, D.eqb]
  | .bl _, .bl _, _, _ => by simp [toP, PyData.eqv, D.eqb]
  | .bl b, .int _, _, _ => by cases b <;> simp [toP, PyData.eqv, D.eqb, b2i]
  | .bl _, .str _, _, _ => by simp [toP, PyData.eqv, D.eqb]
  | .bl _, .tup _, _, _ => by simp [toP, PyData.eqv, D.eqb]
  | .int _, .non, _, _ => by simp [toP, PyData.eqv, D.eqb]
  | .int _, .bl b, _, _ => by cases b <;> simp [toP, PyData.eqv, D.eqb, b2i]
  | .int _, .int _, _, _ => by simp [toP, PyData.eqv, D.eqb]
  | .int _, .str _, _, _ => by simp [toP, PyData.eqv, D.eqb]
  | .int _, .tup _, _, _ => by simp [toP, PyData.eqv, D.eqb]
  | .str _, .non, _, _ => by simp [toP, PyData.eqv, D.eqb]
  | .str _, .bl _, _, _ => by simp [toP, PyData.eqv, D.eqb]
  | .str _, .int _, _, _ => by simp [toP, PyData.eqv, D.eqb]
  | .str x, .str y, _, _ => by simp only [toP, PyData.eqv, D.eqb]; by_cases h : x = y <;> simp [h]
  | .str _, .tup _, _, _ => by simp [toP, PyData.eqv, D.eqb]
  | .tup _, .non, _, _ => by simp [toP, PyData.eqv, D.eqb]
  | .tup _, .bl _, _, _ => by simp [toP, PyData.eqv, D.eqb]
  | .tup _, .int _, _, _ => by simp [toP, PyData.eqv, D.eqb]
  | .tup _, .str _, _, _ => by simp [toP, PyData.eqv, D.eqb]
theorem toPs_eqv {n m : Nat} : ∀ (ds es : List D), okds n ds = true → okds m es = true → PyData.eqvAll (toPs ds) (toPs es) = eqbs ds es
  | [], [], _, _ => by simp [toPs, PyData.eqvAll, eqbs]
  | [], _ :: _, _, _ => by simp [toPs, PyData.eqvAll, eqbs]
  | _ :: _, [], _, _ => by simp [toPs, PyData.eqvAll, eqbs]
  | d :: ds, e :: es, h1, h2 => by
    have ok1 : D.okd n d = true ∧ okds n ds = true := by simpa [okds] using h1
    have ok2 : D.okd m e = true ∧ okds m es = true := by simpa [okds] using h2
    simp [toPs, PyData.eqvAll, eqbs, toP_eqv d e ok1.1 ok2.1, toPs_eqv ds es ok1.2 ok2.2]
end
/-- a comparison's rule against the data-level one -/
def RealC (K : Kf) (r : L2.R2) (k : KC) : Prop := ∀ (f : List Addr) (st : Store) (H : Hp) (x y : D) (v w : L2.V) (Q' : Bool → Prop) (Q : L2.VK), RelS K f st H → RD K f H x v → RD K f H y w → k x y st Q' → (∀ b, Q' b → Q (.bl b) H) → r v w H Q
theorem RealC.real {r : L2.R2} {k : KC} (h : RealC K r k) : Real2 K r fun x y st Q => k x y st fun b => Q (.bl b) st := fun f st H x y v w Q' Q s r1 r2 hk l =>
  h f st H x y v w _ Q s r1 r2 hk fun b q => l.now s q (RD.bl.mpr rfl)
theorem eqC_dp {x y : D} {v w : L2.V} {Q' : Bool → Prop} (s : RelS K f st H) (r1 : RD K f H x v) (r2 : RD K f H y w) (h : eqC x y st Q') :
    ∃ d e, L2.Dp K H v d ∧ L2.Dp K H w e ∧ SeqAt.shaped d = true ∧ SeqAt.shaped e = true ∧ Q' (PyData.eqv d e) := by
  have lst : ∀ {n : Nat} {xs : List D} {u : L2.V}, rdA st n xs → okds 60 xs = true → RD K f H (.ref n) u → L2.Dp K H u (.list (toPs xs)) := fun {n xs u} h1 h2 h3 => by
    rw [RD.ref] at h3
    obtain ⟨a, e1, rfl⟩ := h3
    obtain ⟨a', vs, g1, g2, g3⟩ := s.rdA h1
    rw [e1] at g1; cases g1
    exact .lst g2 (toPs_dp xs h2 g3)
  have pur : ∀ {x y : D} {v w : L2.V}, RD K f H x v → RD K f H y w → (D.okd 60 x = true ∧ D.okd 60 y = true ∧ Q' (D.eqb x y)) → ∃ d e, L2.Dp K H v d ∧ L2.Dp K H w e ∧ SeqAt.shaped d = true ∧ SeqAt.shaped e = true ∧ Q' (PyData.eqv d e) := fun {x y v w} r1 r2 ⟨h1, h2, h3⟩ =>
    ⟨toP x, toP y, toP_dp x h1 r1, toP_dp y h2 r2, shaped_of h1, shaped_of h2, by rw [toP_eqv x y h1 h2]; exact h3⟩
  have lefts : ∀ {n : Nat} {xs : List D} {y : D}, (∀ m, y ≠ .ref m) → rdA st n xs → okds 60 xs = true → D.okd 60 y = true → Q' false → RD K f H (.ref n) v → RD K f H y w → ∃ d e, L2.Dp K H v d ∧ L2.Dp K H w e ∧ SeqAt.shaped d = true ∧ SeqAt.shaped e = true ∧ Q' (PyData.eqv d e) := fun {n xs y} hy h1 h2 h3 h4 r1 r2 =>
    ⟨_, toP y, lst h1 h2 r1, toP_dp y h3 r2, shaped_ofs h2, shaped_of h3, by
      have : PyData.eqv (.list (toPs xs)) (toP y) = false := by
        cases y <;> first | exact absurd rfl (hy _) | simp [toP, PyData.eqv]
      rw [this]; exact h4⟩
  have rights : ∀ {n : Nat} {xs : List D} {x : D}, (∀ m, x ≠ .ref m) → rdA st n xs → okds 60 xs = true → D.okd 60 x = true → Q' false → RD K f H x v → RD K f H (.ref n) w → ∃ d e, L2.Dp K H v d ∧ L2.Dp K H w e ∧ SeqAt.shaped d = true ∧ SeqAt.shaped e = true ∧ Q' (PyData.eqv d e) := fun {n xs x} hy h1 h2 h3 h4 r1 r2 =>
    ⟨toP x, _, toP_dp x h3 r1, lst h1 h2 r2, shaped_of h3, shaped_ofs h2, by
      have : PyData.eqv (toP x) (.list (toPs xs)) = false := by
        cases x <;> first | exact absurd rfl (hy _) | simp [toP, PyData.eqv]
      rw [this]; exact h4⟩
  by_cases hx : ∃ m, x = .ref m
  · obtain ⟨m, rfl⟩ := hx
    by_cases hy : ∃ n, y = .ref n
    · obtain ⟨n, rfl⟩ := hy
      obtain ⟨xs, ys, h1, h2, h3, h4, h5⟩ := h
      exact ⟨_, _, lst h1 h3 r1, lst h2 h4 r2, shaped_ofs h3, shaped_ofs h4, by rw [show PyData.eqv (.list (toPs xs)) (.list (toPs ys)) = PyData.eqvAll (toPs xs) (toPs ys) by simp [PyData.eqv], toPs_eqv xs ys h3 h4]; exact h5⟩
    · have h' : ∃ xs, rdA st m xs ∧ okds 60 xs = true ∧ D.okd 60 y = true ∧ Q' false := by
        cases y <;> first | exact h | exact absurd ⟨_, rfl⟩ hy
      obtain ⟨xs, h1, h2, h3, h4⟩ := h'
      exact lefts (fun k e => hy ⟨k, e⟩) h1 h2 h3 h4 r1 r2
  · by_cases hy : ∃ n, y = .ref n
    · obtain ⟨n, rfl⟩ := hy
      have h' : ∃ ys, rdA st n ys ∧ okds 60 ys = true ∧ D.okd 60 x = true ∧ Q' false := by
        cases x <;> first | exact h | exact absurd ⟨_, rfl⟩ hx
      obtain ⟨xs, h1, h2, h3, h4⟩ := h'
      exact rights (fun k e => hx ⟨k, e⟩) h1 h2 h3 h4 r1 r2
    · exact pur r1 r2 (by cases x <;> cases y <;> first | exact h | exact absurd ⟨_, rfl⟩ hx | exact absurd ⟨_, rfl⟩ hy)
theorem real_eq : RealC K (L2.rEqD K) eqC := fun f st H x y v w Q' Q s r1 r2 h l => by
  obtain ⟨d, e, h1, h2, h3, h4, h5⟩ := eqC_dp s r1 r2 h
  exact ⟨d, e, h1, h2, h3, h4, l _ h5⟩
theorem real_ne : RealC K (L2.rNeD K) neC := fun f st H x y v w Q' Q s r1 r2 h l => by
  obtain ⟨d, e, h1, h2, h3, h4, h5⟩ := eqC_dp s r1 r2 h
  exact ⟨d, e, h1, h2, h3, h4, l _ h5⟩
theorem real_cmp {g : Int → Int → Bool} {k : KC} (hk : ∀ x y st Q, k x y st Q → ∃ i j, x = .int i ∧ y = .int j ∧ Q (g i j)) : RealC K (L2.rI0 fun i j => .bl (g i j)) k := by
  intro f st H x y v w Q' Q s r1 r2 h l
  obtain ⟨i, j, rfl, rfl, q⟩ := hk x y st Q' h
  rw [RD.int] at r1 r2
  exact ⟨i, j, r1, r2, l _ q⟩
theorem real_lt : RealC K (L2.rI0 fun i j => .bl (decide (i < j))) ltC := real_cmp fun x y st Q h => by
  cases x <;> cases y <;> first | exact h.elim | exact ⟨_, _, rfl, rfl, h⟩
theorem real_le : RealC K (L2.rI0 fun i j => .bl (decide (i ≤ j))) leC := real_cmp fun x y st Q h => by
  cases x <;> cases y <;> first | exact h.elim | exact ⟨_, _, rfl, rfl, h⟩
theorem real_gt : RealC K (L2.rI0 fun i j => .bl (decide (j < i))) gtC := real_cmp fun x y st Q h => by
  cases x <;> cases y <;> first | exact h.elim | exact ⟨_, _, rfl, rfl, h⟩
theorem real_ge : RealC K (L2.rI0 fun i j => .bl (decide (j ≤ i))) geC := real_cmp fun x y st Q h => by
  cases x <;> cases y <;> first | exact h.elim | exact ⟨_, _, rfl, rfl, h⟩
theorem RD.isNon {x : D} {v : L2.V} (h : RD K f H x v) : decide (v = .non) = isNon x := by
  cases x with
  | non => rw [RD.non] at h; subst h; rfl
  | bl b => rw [RD.bl] at h; subst h; rfl
  | int i => rw [RD.int] at h; subst h; rfl
  | str y => rw [RD.str] at h; subst h; rfl
  | tup ds => rw [RD.tup] at h; obtain ⟨a, vs, rfl, _⟩ := h; rfl
  | ref n => rw [RD.ref] at h; obtain ⟨a, _, rfl⟩ := h; rfl
theorem real_is : RealC K (fun x y H Q => y = .non ∧ Q (.bl (decide (x = .non))) H) isC := fun f st H x y v w Q' Q s r1 r2 h l => by
  cases y <;> try (cases x <;> exact h.elim)
  rw [RD.non] at r2
  have h' : Q' (isNon x) := by cases x <;> exact h
  exact ⟨r2, by rw [r1.isNon]; exact l _ h'⟩
theorem real_isnt : RealC K (fun x y H Q => y = .non ∧ Q (.bl (!decide (x = .non))) H) isntC := fun f st H x y v w Q' Q s r1 r2 h l => by
  cases y <;> try (cases x <;> exact h.elim)
  rw [RD.non] at r2
  have h' : Q' (!isNon x) := by cases x <;> exact h
  exact ⟨r2, by rw [r1.isNon]; exact l _ h'⟩
theorem RD.flatV {x : D} {v : L2.V} (h : RD K f H x v) (hf : x.flat = true) : L2.flatV v = true := by
  cases x with
  | non => rw [RD.non] at h; subst h; rfl
  | bl b => rw [RD.bl] at h; subst h; rfl
  | int i => rw [RD.int] at h; subst h; rfl
  | str y => rw [RD.str] at h; subst h; rfl
  | tup ds => cases hf
  | ref n => cases hf
theorem RDs.flatV : ∀ {xs : List D} {vs : List L2.V}, RDs K f H xs vs → xs.all D.flat = true → vs.all L2.flatV = true
  | [], _, h, _ => by rw [RDs.nil] at h; subst h; rfl
  | x :: xs, _, h, hf => by
    rw [RDs.cons] at h
    obtain ⟨v, r, rfl, h1, h2⟩ := h
    have hf' : x.flat = true ∧ xs.all D.flat = true := by simpa using hf
    rw [List.all_cons, h1.flatV hf'.1, RDs.flatV h2 hf'.2]; rfl
end
end Pd
end PartPdSoundB

section PartPdSoundC
set_option Elab.async false
set_option linter.all false
set_option maxRecDepth 100000
set_option maxHeartbeats 1000000
/-! Pd over the hand layer: tests, items, slices, calls, built-ins. Own work. -/
namespace Pd
open PySem PySem.Spec
section
variable {X : L2.Cx} {K : Kf} {f f' : List Addr} {H H' : Hp} {st st' : Store} {ρ : Env} {σ : L2.St}
theorem b2i_eq (b : Bool) : b2i b = (if b then 1 else 0) := rfl
theorem RD.eqV {x y : D} {v w : L2.V} (h : RD K f H x v) (h' : RD K f H y w) (hx : x.flat = true) (hy : y.flat = true) : L2.eqV v w = D.eqb x y := by
  cases x <;> cases y <;> first | (exfalso; revert hx; simp [D.flat]; done) | (exfalso; revert hy; simp [D.flat]; done) | skip
  all_goals (simp only [RD.non, RD.bl, RD.int, RD.str] at h h'; subst h; subst h'; simp [L2.eqV, D.eqb, b2i])
  rename_i s t
  by_cases e : s = t <;> simp [e]
theorem RDs.inV {y : D} {w : L2.V} (h' : RD K f H y w) (hy : y.flat = true) : ∀ {xs : List D} {vs : List L2.V}, RDs K f H xs vs → xs.all D.flat = true → L2.inV w vs = xs.any fun x => D.eqb x y
  | [], _, h, _ => by rw [RDs.nil] at h; subst h; rfl
  | x :: xs, _, h, hf => by
    rw [RDs.cons] at h
    obtain ⟨v, r, rfl, h1, h2⟩ := h
    have hf' : x.flat = true ∧ xs.all D.flat = true := by simpa using hf
    have ih := RDs.inV h' hy h2 hf'.2
    unfold L2.inV at ih ⊢
    rw [List.any_cons, List.any_cons, ih, h1.eqV h' hf'.1 hy]
theorem real_in (neg : Bool) : RealC K (L2.rIn K neg) (fun x y st Q => inC x y st fun b => Q (if neg then !b else b)) := fun f st H x y v w Q' Q s r1 r2 h l => by
  cases y <;> try (exact h.elim)
  · rw [RD.tup] at r2
    obtain ⟨a, vs, rfl, t, d⟩ := r2
    obtain ⟨h1, h2, h3⟩ := h
    refine ⟨a, vs, rfl, .inr t, r1.flatV h1, d.flatV h2, ?_⟩
    rw [RDs.inV r1 h1 d h2]
    exact l _ h3
  · rw [RD.ref] at r2
    obtain ⟨a, e, rfl⟩ := r2
    obtain ⟨xs, h0, h1, h2, h3⟩ := h
    obtain ⟨a', vs, g1, g2, g3⟩ := s.rdA h0
    rw [e] at g1; cases g1
    refine ⟨a, vs, rfl, .inl g2, r1.flatV h1, g3.flatV h2, ?_⟩
    rw [RDs.inV r1 h1 g3 h2]
    exact l _ h3
section
variable {a b c : Expr} {ta tb tc : TE} {pos : Pos}
theorem pd_cmp {op : CmpOp} {r : L2.R2} {k : KC} (ho : L2.OpR X (compareOp op) r) (hr : RealC X.K r k) (hm : behindInMarks op b = false) (ha : PD X a ta) (hb : PD X b tb) : PD X (.Compare a [op] [b] pos) (dCmp k ta tb) :=
  pe_imp (L2.pe_cmpR ho ha hb hm) fun σ H Q h => two_imp hr.real h
theorem pt_cmp {op : CmpOp} {r : L2.R2} {k : KC} (ho : L2.OpR X (compareOp op) r) (hr : RealC X.K r k) (hm : behindInMarks op b = false) (ha : PD X a ta) (hb : PD X b tb) : PDT X (.Compare a [op] [b] pos) (tTru (dCmp k ta tb)) := by
  refine pt_imp (L2.pt_cmpR ho ha hb hm) fun σ H Q ⟨f, ρ, st, Q', R, h, l⟩ => ?_
  refine ⟨f, ρ, st, _, R, h, fun x st1 v f1 H1 h1 e1 s1 r1 => ⟨f1, ρ, st1, _, R.later e1 s1, h1, fun y st2 w f2 H2 h2 e2 s2 r2 => ?_⟩⟩
  exact hr f2 st2 H2 x y v w (fun b => Q' b st2) _ s2 (r1.mono e2) r2 h2 fun b q => ⟨b, rfl, l b st2 f2 H2 q (e1.trans e2) s2⟩
theorem chain_core {r r' : L2.R2} {k k' : KC} (hr : RealC K r k) (hr' : RealC K r' k') {Q' : Bool → Store → Prop} {Q : L2.VK} {f : List Addr} {ρ : Env} {st : Store}
    (R : Rel K f ρ st σ H) (h : ta ρ st fun x st1 => tb ρ st1 fun y st2 => k x y st2 fun b => (b = true → tc ρ st2 fun z st3 => k' y z st3 fun b' => Q' b' st3) ∧ (b = false → Q' false st2))
    (l : ∀ b st' f' H', Q' b st' → Ext K f H f' H' → RelS K f' st' H' → Q (.bl b) H') : L2.tChain r r' (lift K ta) (lift K tb) (lift K tc) σ H Q := by
  refine ⟨f, ρ, st, _, R, h, fun x st1 v f1 H1 h1 e1 s1 r1 => ⟨f1, ρ, st1, _, R.later e1 s1, h1, fun y st2 w f2 H2 h2 e2 s2 r2 => ?_⟩⟩
  refine hr f2 st2 H2 x y v w _ _ s2 (r1.mono e2) r2 h2 fun b q => ⟨b, rfl, ?_⟩
  cases b with
  | false => exact l false st2 f2 H2 (q.2 rfl) (e1.trans e2) s2
  | true => exact ⟨f2, ρ, st2, _, R.later (e1.trans e2) s2, q.1 rfl, fun z st3 u f3 H3 h3 e3 s3 r3 => hr' f3 st3 H3 y z w u (fun b' => Q' b' st3) _ s3 (r2.mono e3) r3 h3 fun b' q' => l b' st3 f3 H3 q' ((e1.trans e2).trans e3) s3⟩
theorem pd_chain {op op' : CmpOp} {r r' : L2.R2} {k k' : KC} (ho : L2.OpR X (compareOp op) r) (hr : RealC X.K r k) (ho' : L2.OpR X (compareOp op') r') (hr' : RealC X.K r' k') (ha : PD X a ta) (hb : PD X b tb) (hc : PD X c tc)
    (hm : lastMarks [op, op'] [b, c] = false := by with_unfolding_all rfl) : PD X (.Compare a [op, op'] [b, c] pos) (dChain k k' ta tb tc) := by
  refine pe_imp (L2.pe_chain ho ho' ha hb hc hm) fun σ H Q ⟨f, ρ, st, Q', R, h, l⟩ => ?_
  exact chain_core hr hr' (Q' := fun b st => Q' (.bl b) st) R h fun b st' f' H' q e s => l (.bl b) st' _ f' H' q e s (RD.bl.mpr rfl)
theorem pt_chain {op op' : CmpOp} {r r' : L2.R2} {k k' : KC} (ho : L2.OpR X (compareOp op) r) (hr : RealC X.K r k) (ho' : L2.OpR X (compareOp op') r') (hr' : RealC X.K r' k') (ha : PD X a ta) (hb : PD X b tb) (hc : PD X c tc)
    (hm : lastMarks [op, op'] [b, c] = false := by with_unfolding_all rfl) : PDT X (.Compare a [op, op'] [b, c] pos) (tTru (dChain k k' ta tb tc)) := by
  refine pt_imp (L2.pt_chain ho ho' ha hb hc hm) fun σ H Q ⟨f, ρ, st, Q', R, h, l⟩ => ?_
  exact chain_core (Q := fun x H' => ∃ k, x = .bl k ∧ Q k H') hr hr' (Q' := Q') R h fun b st' f' H' q e s => ⟨b, rfl, l b st' f' H' q e s⟩

/-! ### truth -/
theorem tru_of {x : D} {v : L2.V} {Q' : Bool → Prop} (s : RelS K f st H) (r : RD K f H x v) (h : truK x st Q') : ∃ k, L2.TruV K v H k ∧ Q' k := by
  cases x with
  | non => rw [RD.non] at r; subst r; exact ⟨_, rfl, h⟩
  | bl b => rw [RD.bl] at r; subst r; exact ⟨_, rfl, h⟩
  | int i => rw [RD.int] at r; subst r; exact ⟨_, rfl, h⟩
  | str y => rw [RD.str] at r; subst r; exact ⟨_, ⟨by rw [← szl_eq]; exact h.1, rfl⟩, h.2⟩
  | tup xs =>
    rw [RD.tup] at r
    obtain ⟨a, vs, rfl, t, d⟩ := r
    refine ⟨_, .inr (.inl ⟨vs, t, rfl⟩), ?_⟩
    have : vs.isEmpty = xs.isEmpty := by
      cases xs with
      | nil => rw [RDs.nil] at d; subst d; rfl
      | cons x xs => rw [RDs.cons] at d; obtain ⟨_, _, rfl, _⟩ := d; rfl
    rw [this]; exact h
  | ref n =>
    rw [RD.ref] at r
    obtain ⟨a, e, rfl⟩ := r
    obtain ⟨xs, h1, h2⟩ := h
    obtain ⟨a', vs, g1, g2, d⟩ := s.rdA h1
    rw [e] at g1; cases g1
    refine ⟨_, .inl ⟨vs, g2, rfl⟩, ?_⟩
    have : vs.isEmpty = xs.isEmpty := by
      cases xs with
      | nil => rw [RDs.nil] at d; subst d; rfl
      | cons x xs => rw [RDs.cons] at d; obtain ⟨_, _, rfl, _⟩ := d; rfl
    rw [this]; exact h2
theorem pt_tru (ha : PD X a ta) (he : ∀ whole, isTrue a X.env whole = (do let v ← whole; standAt a.pos; holding [v] (truthy v)) := by intro _; rfl) : PDT X a (tTru ta) := by
  refine pt_imp (L2.pt_truth ha he) fun σ H Q ⟨f, ρ, st, Q', R, h, l⟩ => ?_
  refine ⟨f, ρ, st, _, R, h, fun x st1 v f1 H1 h1 e1 s1 r1 => ?_⟩
  obtain ⟨k, t, q⟩ := tru_of s1 r1 h1
  exact ⟨k, t, l k st1 f1 H1 q e1 s1⟩
abbrev PDW (X : L2.Cx) (e : Expr) (t : TT) : Prop := L2.PW X e (liftT X.K t)
theorem ptw {e : Expr} {t : TT} (h : PDW X e t) : PDT X e t := L2.PW.pt h
theorem pw_imp {e : Expr} {t t' : L2.TT} (h : L2.PW X e t) (m : ∀ σ H Q, t' σ H Q → t σ H Q) : L2.PW X e t' := ⟨fun whole pins s σ H Q I q => h.run whole pins s σ H Q I (m σ H Q q)⟩
variable {es : List Expr} {tA tB tC : TT}
theorem pw_and1 (ha : PDT X a tA) : PDW X (.BoolOp .And [a] pos) tA := L2.pw_and1 ha
theorem pw_or1 (ha : PDT X a tA) : PDW X (.BoolOp .Or [a] pos) tA := L2.pw_or1 ha
theorem pw_and (ha : PDT X a tA) (hb : PDW X (.BoolOp .And (b :: es) pos) tB) : PDW X (.BoolOp .And (a :: b :: es) pos) (tAnd tA tB) :=
  pw_imp (L2.pw_and ha hb) fun σ H Q ⟨f, ρ, st, Q', R, h, l⟩ => ⟨f, ρ, st, _, R, h, fun c st1 f1 H1 h1 e1 s1 => by
    cases c with
    | false => exact l false st1 f1 H1 (h1.2 rfl) e1 s1
    | true => exact ⟨f1, ρ, st1, Q', R.later e1 s1, h1.1 rfl, fun b st2 f2 H2 q e2 s2 => l b st2 f2 H2 q (e1.trans e2) s2⟩⟩
theorem pw_or (ha : PDT X a tA) (hb : PDW X (.BoolOp .Or (b :: es) pos) tB) : PDW X (.BoolOp .Or (a :: b :: es) pos) (tOr tA tB) :=
  pw_imp (L2.pw_or ha hb) fun σ H Q ⟨f, ρ, st, Q', R, h, l⟩ => ⟨f, ρ, st, _, R, h, fun c st1 f1 H1 h1 e1 s1 => by
    cases c with
    | true => exact l true st1 f1 H1 (h1.1 rfl) e1 s1
    | false => exact ⟨f1, ρ, st1, Q', R.later e1 s1, h1.2 rfl, fun b st2 f2 H2 q e2 s2 => l b st2 f2 H2 q (e1.trans e2) s2⟩⟩
theorem pt_not (ha : PDT X a tA) : PDT X (.UnaryOp .Not a pos) (tNot tA) :=
  pt_imp (L2.pt_not ha) fun σ H Q ⟨f, ρ, st, Q', R, h, l⟩ => ⟨f, ρ, st, _, R, h, fun c st1 f1 H1 h1 e1 s1 => l _ st1 f1 H1 h1 e1 s1⟩
theorem pd_one {op : BoolOp} (ha : PD X a ta) : PD X (.BoolOp op [a] pos) ta := L2.pe_one ha
theorem pd_and' (ha : PD X a ta) (hb : PD X (.BoolOp .And (b :: es) pos) tb) : PD X (.BoolOp .And (a :: b :: es) pos) (dAndT ta tb) :=
  pe_imp (L2.pe_andT ha hb) fun σ H Q ⟨f, ρ, st, Q', R, h, l⟩ => ⟨f, ρ, st, _, R, h, fun x st1 v f1 H1 h1 e1 s1 r1 => by
    obtain ⟨k, t, q⟩ := tru_of s1 r1 h1
    refine ⟨k, t, ?_⟩
    cases k with
    | false => exact l x st1 v f1 H1 (q.2 rfl) e1 s1 r1
    | true => exact ⟨f1, ρ, st1, Q', R.later e1 s1, q.1 rfl, l.later e1⟩⟩
theorem pd_or' (ha : PD X a ta) (hb : PD X (.BoolOp .Or (b :: es) pos) tb) : PD X (.BoolOp .Or (a :: b :: es) pos) (dOrT ta tb) :=
  pe_imp (L2.pe_orT ha hb) fun σ H Q ⟨f, ρ, st, Q', R, h, l⟩ => ⟨f, ρ, st, _, R, h, fun x st1 v f1 H1 h1 e1 s1 r1 => by
    obtain ⟨k, t, q⟩ := tru_of s1 r1 h1
    refine ⟨k, t, ?_⟩
    cases k with
    | true => exact l x st1 v f1 H1 (q.1 rfl) e1 s1 r1
    | false => exact ⟨f1, ρ, st1, Q', R.later e1 s1, q.2 rfl, l.later e1⟩⟩
theorem pd_not (ha : PD X a ta) : PD X (.UnaryOp .Not a pos) (dNotT ta) :=
  pe_imp (L2.pe_notT ha) fun σ H Q ⟨f, ρ, st, Q', R, h, l⟩ => ⟨f, ρ, st, _, R, h, fun x st1 v f1 H1 h1 e1 s1 r1 => by
    obtain ⟨k, t, q⟩ := tru_of s1 r1 h1
    exact ⟨k, t, l _ st1 _ f1 H1 q e1 s1 (RD.bl.mpr rfl)⟩⟩
theorem pd_if (hc : PDT X c tC) (ha : PD X a ta) (hb : PD X b tb) : PD X (.IfExp c a b pos) (dIf tC ta tb) :=
  pe_imp (L2.pe_ifExp hc ha hb) fun σ H Q ⟨f, ρ, st, Q', R, h, l⟩ => ⟨f, ρ, st, _, R, h, fun k st1 f1 H1 h1 e1 s1 => by
    cases k with
    | true => exact ⟨f1, ρ, st1, Q', R.later e1 s1, h1.1 rfl, l.later e1⟩
    | false => exact ⟨f1, ρ, st1, Q', R.later e1 s1, h1.2 rfl, l.later e1⟩⟩
/-- a test that is an if-expression -/
theorem pt_if {t1 t2 : TT} (hc : PDT X c tC) (ha : PDT X a t1) (hb : PDT X b t2) : PDT X (.IfExp c a b pos) (fun σ st Q => tC σ st fun k st1 => (k = true → t1 σ st1 Q) ∧ (k = false → t2 σ st1 Q)) := by
  refine ⟨fun pins s σ H Q I ⟨f, ρ, st, Q', R, h, l⟩ => ?_⟩
  show wpAny _ _ (do if ← isTrue c X.env (eval c X.env) then isTrue a X.env (eval a X.env) else isTrue b X.env (eval b X.env)) _ _ s
  refine wpAny_bind (L2.thn (hc.run pins s σ H (fun k H1 => (k = true → liftT X.K t1 σ H1 Q) ∧ (k = false → liftT X.K t2 σ H1 Q)) I ⟨f, ρ, st, _, R, h, fun k st1 f1 H1 h1 e1 s1 => ?_⟩) fun k s1 ⟨H1, I1, q⟩ => ?_)
  · exact ⟨fun e => ⟨f1, ρ, st1, Q', R.later e1 s1, h1.1 e, fun b st2 f2 H2 q e2 s2 => l b st2 f2 H2 q (e1.trans e2) s2⟩, fun e => ⟨f1, ρ, st1, Q', R.later e1 s1, h1.2 e, fun b st2 f2 H2 q e2 s2 => l b st2 f2 H2 q (e1.trans e2) s2⟩⟩
  · cases k with
    | true => exact ha.run pins s1 σ H1 Q I1 (q.1 rfl)
    | false => exact hb.run pins s1 σ H1 Q I1 (q.2 rfl)

/-! ### items and slices -/
theorem atD_at {α : Type} (xs : List α) (i : Int) : L2.atI xs i = atD xs i := by
  unfold L2.atI L2.ixN atD
  by_cases h : 0 ≤ i
  · rw [if_pos h, if_pos h]
    by_cases h2 : i < xs.length
    · rw [if_pos h2]; rfl
    · rw [if_neg h2]
      show none = _
      rw [List.getElem?_eq_none (by omega)]
  · rw [if_neg h, if_neg h]
    by_cases h2 : -(xs.length : Int) ≤ i
    · rw [if_pos h2, if_pos h2]; rfl
    · rw [if_neg h2, if_neg h2]; rfl
theorem RDs.atD {ds : List D} {vs : List L2.V} {i : Int} {d : D} (h : RDs K f H ds vs) (e : atD ds i = some d) : ∃ v, L2.atI vs i = some v ∧ RD K f H d v := by
  rw [atD_at]
  unfold Pd.atD at e ⊢
  rw [h.length]
  by_cases c : 0 ≤ i
  · rw [if_pos c] at e ⊢
    obtain ⟨v, h1, h2⟩ := h.get e; exact ⟨v, h1, h2⟩
  · rw [if_neg c] at e ⊢
    by_cases c2 : -(ds.length : Int) ≤ i
    · rw [if_pos c2] at e ⊢
      obtain ⟨v, h1, h2⟩ := h.get e; exact ⟨v, h1, h2⟩
    · rw [if_neg c2] at e; cases e
theorem real_ix : Real2 K (L2.rIx K) ixK := fun f st H x y v w Q' Q s r1 r2 h l => by
  cases x <;> cases y <;> try (exact h.elim)
  · rw [RD.str] at r1
    rw [RD.int] at r2
    obtain ⟨c, h1, h2, h3⟩ := h
    exact .inr (.inr ⟨_, _, c, r1, r2, by rw [← szl_eq]; exact h1, by rw [atD_at]; exact h2, l.now s h3 (RD.str.mpr rfl)⟩)
  · rw [RD.tup] at r1
    rw [RD.int] at r2
    obtain ⟨a, vs, rfl, t, d⟩ := r1
    obtain ⟨d', h1, h2⟩ := h
    obtain ⟨v, g1, g2⟩ := d.atD h1
    exact .inr (.inl ⟨a, vs, _, v, rfl, r2, t, g1, l.now s h2 g2⟩)
  · rw [RD.ref] at r1
    rw [RD.int] at r2
    obtain ⟨a, e, rfl⟩ := r1
    obtain ⟨xs, d', h0, h1, h2⟩ := h
    obtain ⟨a', vs, k1, k2, d⟩ := s.rdA h0
    rw [e] at k1; cases k1
    obtain ⟨v, g1, g2⟩ := d.atD h1
    exact .inl ⟨a, vs, _, v, rfl, r2, k2, g1, l.now s h2 g2⟩
theorem pd_ix (hs : L2.PlainIx b) (ha : PD X a ta) (hb : PD X b tb) : PD X (.Subscript a b pos) (dOp ixK ta tb) :=
  pe_imp (L2.pe_ix L2.ix_seq ha hb hs) fun σ H Q h => two_imp real_ix h
def liftO (K : Kf) (t : TO) : L2.TO := fun σ H Q => ∃ f ρ st Q', Rel K f ρ st σ H ∧ t ρ st Q' ∧ ∀ (o : Option Int) (st' : Store) (f' : List Addr) (H' : Hp), Q' o st' → Ext K f H f' H' → RelS K f' st' H' → Q o H'
abbrev PDO (X : L2.Cx) (e : Option Expr) (t : TO) : Prop := L2.PO X e (liftO X.K t)
theorem po_imp {e : Option Expr} {t t' : L2.TO} (h : L2.PO X e t) (m : ∀ σ H Q, t' σ H Q → t σ H Q) : L2.PO X e t' := ⟨fun pins s σ H Q I q => h.run pins s σ H Q I (m σ H Q q)⟩
theorem po_none : PDO X none oNone := po_imp L2.po_none fun σ H Q ⟨f, ρ, st, Q', R, h, l⟩ => l none st f H h .refl R.toRelS
theorem po_some (ha : PD X a ta) : PDO X (some a) (oSome ta) := po_imp (L2.po_some ha) fun σ H Q ⟨f, ρ, st, Q', R, h, l⟩ => ⟨f, ρ, st, _, R, h, fun x st1 v f1 H1 h1 e1 s1 r1 => by
    obtain ⟨i, rfl, q⟩ := h1
    rw [RD.int] at r1
    exact ⟨i, r1, l _ st1 f1 H1 q e1 s1⟩⟩
theorem sIx_cl (n d : Nat) (o : Option Int) : HT.sIx n d o = (o.map (cl n)).getD d := by
  cases o with
  | none => rfl
  | some i => rfl
theorem cut_eq (xs : List L2.V) (lo hi : Option Int) : L2.cutV xs lo hi = cutD xs lo hi := by
  unfold L2.cutV cutD
  rw [sIx_cl, sIx_cl]
theorem RDs.cut {ds : List D} {vs : List L2.V} (h : RDs K f H ds vs) (lo hi : Option Int) : RDs K f H (cutD ds lo hi) (cutD vs lo hi) := by
  unfold cutD
  rw [h.length]
  exact (h.drop _).take _
theorem cut_whole {α : Type} (xs : List α) (lo hi : Option Int) (h1 : HT.sIx xs.length 0 lo = 0) (h2 : HT.sIx xs.length xs.length hi = xs.length) : cutD xs lo hi = xs := by
  unfold cutD
  rw [← sIx_cl, ← sIx_cl, h1, h2]
  simp
def rSl (K : Kf) : L2.V → Option Int → Option Int → Hp → L2.VK → Prop := fun x lo hi H Q => L2.rSlL K x lo hi H Q ∨ L2.rSlA K x lo hi H Q
theorem pd_sl {lo hi : Option Expr} {tl th : TO} {p2 : Pos} (ha : PD X a ta) (hl : PDO X lo tl) (hh : PDO X hi th) : PD X (.Subscript a (.Slice lo hi none p2) pos) (dSl ta tl th) := by
  refine pe_imp (L2.pe_slice (r := rSl X.K) (L2.SlR.or L2.sl_list L2.sl_tupA) ha hl hh) fun σ H Q ⟨f, ρ, st, Q', R, h, l⟩ => ?_
  refine ⟨f, ρ, st, _, R, h, fun x st1 v f1 H1 h1 e1 s1 r1 => ⟨f1, ρ, st1, _, R.later e1 s1, h1, fun o st2 f2 H2 h2 e2 s2 => ⟨f2, ρ, st2, _, R.later (e1.trans e2) s2, h2, fun o' st3 f3 H3 h3 e3 s3 => ?_⟩⟩⟩
  have r1' := r1.mono (e2.trans e3)
  have l' := l.later ((e1.trans e2).trans e3)
  cases x <;> try (exact h3.elim)
  · rw [RD.tup] at r1'
    obtain ⟨a, vs, rfl, t, d⟩ := r1'
    refine .inr ⟨a, vs, rfl, t, fun ⟨w1, w2⟩ => ?_, fun _ p hp => ?_⟩
    · rw [d.length] at w1 w2
      refine l'.now s3 h3 (RD.tup.mpr ⟨a, vs, rfl, t, ?_⟩)
      rw [cut_whole _ _ _ w1 w2]
      exact d
    · rw [cut_eq]
      exact l'.tup s3 h3 (d.cut o o') hp
  · rw [RD.ref] at r1'
    obtain ⟨a, e, rfl⟩ := r1'
    obtain ⟨xs, g0, g1⟩ := h3
    obtain ⟨a', vs, k1, k2, d⟩ := s3.rdA g0
    rw [e] at k1; cases k1
    refine .inl ⟨a, vs, rfl, k2, fun p hp => ?_⟩
    rw [cut_eq]
    exact l'.lst s3 g1 (d.cut o o') hp

/-! ### arguments, displays -/
theorem pa_nil : PDA X [] aNil := pa_imp L2.pa_nil fun σ H Q ⟨f, ρ, st, Q', R, h, l⟩ => l [] st [] f H h .refl R.toRelS (RDs.nil.mpr rfl)
theorem pa_cons {ts : TA} (ha : PD X a ta) (hr : PDA X es ts) (hs : starEach (a :: es) X.env = (false, eval a X.env) :: starEach es X.env := by rfl) : PDA X (a :: es) (aCons ta ts) :=
  pa_imp (L2.pa_cons ha hr hs) fun σ H Q ⟨f, ρ, st, Q', R, h, l⟩ => ⟨f, ρ, st, _, R, h, fun x st1 v f1 H1 h1 e1 s1 r1 => ⟨f1, ρ, st1, _, R.later e1 s1, h1, fun xs st2 vs f2 H2 h2 e2 s2 r2 =>
    l (x :: xs) st2 (v :: vs) f2 H2 h2 (e1.trans e2) s2 (RDs.cons.mpr ⟨v, vs, rfl, r1.mono e2, r2⟩)⟩⟩
theorem pd_tup {ts : TA} {x1} (h : PDA X es ts) : PD X (.Tuple es x1 pos) (dTup ts) :=
  pe_imp (L2.pe_tup h) fun σ H Q ⟨f, ρ, st, Q', R, h, l⟩ => ⟨f, ρ, st, _, R, h, fun xs st1 vs f1 H1 h1 e1 s1 r1 => ⟨by rw [r1.length, ← szl_eq]; exact h1.1, fun p hp => (l.later e1).tup s1 h1.2 r1 hp⟩⟩
theorem pd_lst {ts : TA} (h : PDA X es ts) : PD X (.List es pos) (dLst ts) :=
  pe_imp (L2.pe_lst h) fun σ H Q ⟨f, ρ, st, Q', R, h, l⟩ => ⟨f, ρ, st, _, R, h, fun xs st1 vs f1 H1 h1 e1 s1 r1 => ⟨by rw [r1.length, ← szl_eq]; exact h1.1, fun p hp => (l.later e1).lst s1 h1.2 r1 hp⟩⟩

/-! ### own defs -/
def liftF (K : Kf) (n : Nat) (c : List D → Store → Pd.K → Prop) : L2.Sp := fun vs H Q _ => vs.length = n ∧ ∃ f st ds Q', RelS K f st H ∧ RDs K f H ds vs ∧ c ds st Q' ∧ LQ K f H Q' Q
/-- a def that may be called by its name -/
structure Own (P : Program) (w : World) (K : Kf) (mg : Str → Option Value) (base : Heap) (k : Nat) (x : Str) (c : List D → Store → Pd.K → Prop) : Prop where
  ex : ∃ (fa : Addr) (fd : FuncData) (ps : List Str), L2.FnOk P w K mg base L2.CX0 k fa fd ps (liftF K ps.length c) ∧ mg x = some (.ref fa) ∧ PySem.W.keepIn K (.ref fa) = true ∧ L2.Binds K fd ps [] ∧ (∀ ds st Q, c ds st Q → ds.length = ps.length)
theorem pd_call {x : Str} {p : Pos} {k : Nat} {ts : TA} {cl : Cl} {y : String} (o : Own X.prog X.w X.K X.mg X.base k x (cl y)) (hr : L2.Room k X.A) (hg : L2.Gl X x) (ha : PDA X (a :: es) ts) (hdb : (x == ("__debug__" : Str)) = false := by decide)
    (he : starEach (a :: es) X.env = (false, eval a X.env) :: starEach es X.env := by rfl) (hpl : (backTo pos (starEach es X.env)).any (·.1) = false := by rfl) : PD X (.Call (.Name x p) (a :: es) [] pos) (dCall cl y ts) := by
  obtain ⟨fa, fd, ps, F, hm, hk, hb, hlen⟩ := o.ex
  refine pe_imp (L2.pe_call (E := fun _ _ _ => False) F hr hg hm hk hb .nil L2.pass0 ha hdb he hpl) fun σ H Q ⟨f, ρ, st, Q', R, h, l⟩ => ?_
  refine ⟨f, ρ, st, _, R, h, fun xs st1 vs f1 H1 h1 e1 s1 r1 => ?_⟩
  show liftF X.K ps.length (cl y) (vs ++ []) H1 Q _
  rw [List.append_nil]
  exact ⟨r1.length.trans (hlen _ _ _ h1), f1, st1, xs, Q', s1, r1, h1, l.later e1⟩
theorem pd_call0 {x : Str} {p : Pos} {k : Nat} {cl : Cl} {y : String} (o : Own X.prog X.w X.K X.mg X.base k x (cl y)) (hr : L2.Room k X.A) (hg : L2.Gl X x) (hdb : (x == ("__debug__" : Str)) = false := by decide) : PD X (.Call (.Name x p) [] [] pos) (dCall cl y aNil) := by
  obtain ⟨fa, fd, ps, F, hm, hk, hb, hlen⟩ := o.ex
  refine pe_imp (L2.pe_call0 (E := fun _ _ _ => False) F hr hg hm hk hb .nil L2.pass0 hdb) fun σ H Q ⟨f, ρ, st, Q', R, h, l⟩ => ?_
  exact (show liftF X.K ps.length (cl y) ([] ++ []) H Q (fun _ _ _ => False) from ⟨hlen _ _ _ h, f, st, [], Q', R.toRelS, RDs.nil.mpr rfl, h, l⟩)

/-! ### built-ins -/
def RealB (K : Kf) (r : List L2.V → Hp → L2.VK → Prop) (k : KB) : Prop := ∀ (f : List Addr) (st : Store) (H : Hp) (xs : List D) (vs : List L2.V) (Q' : Pd.K) (Q : L2.VK), RelS K f st H → RDs K f H xs vs → k xs st Q' → LQ K f H Q' Q → r vs H Q
theorem pd_callB {x : Str} {p : Pos} {id : String} {r : List L2.V → Hp → L2.VK → Prop} {k : KB} {ts : TA} (hc : L2.CallR X (.builtin id) r) (hr : RealB X.K r k) (hg : L2.Gl X x) (hm : X.mg x = none) (hv : bootBuiltins x = some (.builtin id)) (ha : PDA X (a :: es) ts) (hn : x ≠ "__name__" := by decide) (hdb : (x == ("__debug__" : Str)) = false := by decide)
    (he : starEach (a :: es) X.env = (false, eval a X.env) :: starEach es X.env := by rfl) (hpl : (backTo pos (starEach es X.env)).any (·.1) = false := by rfl) : PD X (.Call (.Name x p) (a :: es) [] pos) (dB k ts) :=
  pe_imp (L2.pe_callB hc hg hm hv ha hn hdb he hpl) fun σ H Q ⟨f, ρ, st, Q', R, h, l⟩ => ⟨f, ρ, st, _, R, h, fun xs st1 vs f1 H1 h1 e1 s1 r1 => hr f1 st1 H1 xs vs Q' Q s1 r1 h1 (l.later e1)⟩
theorem pd_callTy {x : Str} {p : Pos} {T : String} {r : List L2.V → Hp → L2.VK → Prop} {k : KB} {ts : TA} (hc : L2.CallR X (.type T) r) (hr : RealB X.K r k) (hg : L2.Gl X x) (hm : X.mg x = none) (hv : bootBuiltins x = some (.type T)) (ha : PDA X (a :: es) ts) (hn : x ≠ "__name__" := by decide) (hdb : (x == ("__debug__" : Str)) = false := by decide)
    (he : starEach (a :: es) X.env = (false, eval a X.env) :: starEach es X.env := by rfl) (hpl : (backTo pos (starEach es X.env)).any (·.1) = false := by rfl) : PD X (.Call (.Name x p) (a :: es) [] pos) (dB k ts) :=
  pe_imp (L2.pe_callTy hc hg hm hv ha hn hdb he hpl) fun σ H Q ⟨f, ρ, st, Q', R, h, l⟩ => ⟨f, ρ, st, _, R, h, fun xs st1 vs f1 H1 h1 e1 s1 r1 => hr f1 st1 H1 xs vs Q' Q s1 r1 h1 (l.later e1)⟩
end
theorem RDs.inv1 {x : D} {vs : List L2.V} (h : RDs K f H [x] vs) : ∃ v, vs = [v] ∧ RD K f H x v := by
  rw [RDs.cons] at h
  obtain ⟨v, r, rfl, h1, h2⟩ := h
  rw [RDs.nil] at h2
  subst h2
  exact ⟨v, rfl, h1⟩
theorem RDs.inv2 {x y : D} {vs : List L2.V} (h : RDs K f H [x, y] vs) : ∃ v w, vs = [v, w] ∧ RD K f H x v ∧ RD K f H y w := by
  rw [RDs.cons] at h
  obtain ⟨v, r, rfl, h1, h2⟩ := h
  obtain ⟨w, rfl, h3⟩ := h2.inv1
  exact ⟨v, w, rfl, h1, h3⟩
/-- one argument, two arguments, by cases -/
theorem realB1 {r : List L2.V → Hp → L2.VK → Prop} {k : KB} (h0 : ∀ xs st Q, k xs st Q → ∃ x, xs = [x])
    (h : ∀ (f : List Addr) (st : Store) (H : Hp) (x : D) (v : L2.V) (Q' : Pd.K) (Q : L2.VK), RelS K f st H → RD K f H x v → k [x] st Q' → LQ K f H Q' Q → r [v] H Q) : RealB K r k := fun f st H xs vs Q' Q s r1 hk l => by
  obtain ⟨x, rfl⟩ := h0 xs st Q' hk
  obtain ⟨v, rfl, h1⟩ := r1.inv1
  exact h f st H x v Q' Q s h1 hk l
theorem kb1 {k : KB} (h0 : ∀ st Q, ¬ k [] st Q) (h2 : ∀ x y xs st Q, ¬ k (x :: y :: xs) st Q) : ∀ xs st Q, k xs st Q → ∃ x, xs = [x] := fun xs st Q h => by
  match xs, h with
  | [], h => exact (h0 _ _ h).elim
  | [x], _ => exact ⟨x, rfl⟩
  | x :: y :: xs, h => exact (h2 _ _ _ _ _ h).elim
theorem real_intB : RealB K (fun xs H Q => (∃ i, xs = [.int i] ∧ Q (.int i) H) ∨ ∃ k, xs = [.bl k] ∧ Q (.int (if k then 1 else 0)) H) intB :=
  realB1 (kb1 (fun _ _ h => h) fun x y xs st Q h => by cases x <;> exact h) fun f st H x v Q' Q s r h l => by
    cases x <;> try (exact h.elim)
    · rw [RD.bl] at r; subst r; exact .inr ⟨_, rfl, l.now s h (RD.int.mpr rfl)⟩
    · rw [RD.int] at r; subst r; exact .inl ⟨_, rfl, l.now s h (RD.int.mpr rfl)⟩
theorem real_absB : RealB K (fun xs H Q => ∃ i, xs = [.int i] ∧ Q (.int (if i < 0 then -i else i)) H) absB :=
  realB1 (kb1 (fun _ _ h => h) fun x y xs st Q h => by cases x <;> exact h) fun f st H x v Q' Q s r h l => by
    cases x <;> try (exact h.elim)
    rw [RD.int] at r; subst r; exact ⟨_, rfl, l.now s h (RD.int.mpr rfl)⟩
theorem real_lenB : RealB K (fun xs H Q => ∃ x n, xs = [x] ∧ L2.LenV K x H n ∧ Q (.int n) H) lenB :=
  realB1 (kb1 (fun _ _ h => h) fun x y xs st Q h => by cases x <;> exact h) fun f st H x v Q' Q s r h l => by
    cases x <;> try (exact h.elim)
    · rw [RD.str] at r; subst r
      exact ⟨_, _, rfl, ⟨by rw [← szl_eq]; exact h.1, rfl⟩, l.now s h.2 (RD.int.mpr rfl)⟩
    · rw [RD.tup] at r
      obtain ⟨a, vs, rfl, t, d⟩ := r
      exact ⟨_, vs.length, rfl, .inr ⟨vs, t, rfl⟩, by rw [d.length]; exact l.now s h (RD.int.mpr rfl)⟩
    · rw [RD.ref] at r
      obtain ⟨a, e, rfl⟩ := r
      obtain ⟨xs, h1, h2⟩ := h
      obtain ⟨a', vs, k1, k2, d⟩ := s.rdA h1
      rw [e] at k1; cases k1
      exact ⟨_, vs.length, rfl, .inl ⟨vs, k2, rfl⟩, by rw [d.length]; exact l.now s h2 (RD.int.mpr rfl)⟩
theorem kb2 {k : KB} (h0 : ∀ st Q, ¬ k [] st Q) (h1 : ∀ x st Q, ¬ k [x] st Q) (h3 : ∀ x y z xs st Q, ¬ k (x :: y :: z :: xs) st Q) : ∀ xs st Q, k xs st Q → ∃ x y, xs = [x, y] := fun xs st Q h => by
  match xs, h with
  | [], h => exact (h0 _ _ h).elim
  | [x], h => exact (h1 _ _ _ h).elim
  | [x, y], _ => exact ⟨x, y, rfl⟩
  | x :: y :: z :: xs, h => exact (h3 _ _ _ _ _ _ h).elim
theorem real_min2B : RealB K (fun xs H Q => ∃ i j, xs = [.int i, .int j] ∧ Q (.int (if j < i then j else i)) H) min2B := fun f st H xs vs Q' Q s r h l => by
  obtain ⟨x, y, rfl⟩ := kb2 (k := min2B) (fun _ _ h => h) (fun x st Q h => by cases x <;> exact h) (fun x y z xs st Q h => by cases x <;> cases y <;> exact h) xs st Q' h
  obtain ⟨v, w, rfl, r1, r2⟩ := r.inv2
  cases x <;> cases y <;> try (exact h.elim)
  rw [RD.int] at r1 r2
  subst r1; subst r2
  exact ⟨_, _, rfl, l.now s h (RD.int.mpr rfl)⟩
theorem real_max2B : RealB K (fun xs H Q => ∃ i j, xs = [.int i, .int j] ∧ Q (.int (if j > i then j else i)) H) max2B := fun f st H xs vs Q' Q s r h l => by
  obtain ⟨x, y, rfl⟩ := kb2 (k := max2B) (fun _ _ h => h) (fun x st Q h => by cases x <;> exact h) (fun x y z xs st Q h => by cases x <;> cases y <;> exact h) xs st Q' h
  obtain ⟨v, w, rfl, r1, r2⟩ := r.inv2
  cases x <;> cases y <;> try (exact h.elim)
  rw [RD.int] at r1 r2
  subst r1; subst r2
  exact ⟨_, _, rfl, l.now s h (RD.int.mpr rfl)⟩
theorem real_listB : RealB K (fun xs H Q => ∃ p ys, xs = [.ref p] ∧ (L2.SqL K H p ys ∨ L2.SqT K H p ys) ∧ ∀ l, H l = none → Q (.ref l) (L2.upd H l (.lst ys))) listB :=
  realB1 (kb1 (fun _ _ h => h) fun x y xs st Q h => by cases x <;> exact h) fun f st H x v Q' Q s r h l => by
    cases x <;> try (exact h.elim)
    · rw [RD.tup] at r
      obtain ⟨a, vs, rfl, t, d⟩ := r
      exact ⟨a, vs, rfl, .inr t, fun p hp => l.lst s h d hp⟩
    · rw [RD.ref] at r
      obtain ⟨a, e, rfl⟩ := r
      obtain ⟨xs, h1, h2⟩ := h
      obtain ⟨a', vs, k1, k2, d⟩ := s.rdA h1
      rw [e] at k1; cases k1
      exact ⟨a, vs, rfl, .inl k2, fun p hp => l.lst s h2 d hp⟩
theorem real_tupleB : RealB K (fun xs H Q => ∃ p ys, xs = [.ref p] ∧ ((L2.SqL K H p ys ∧ ∀ l, H l = none → Q (.ref l) (L2.upd H l (.tup ys))) ∨ (L2.SqT K H p ys ∧ Q (.ref p) H))) tupleB :=
  realB1 (kb1 (fun _ _ h => h) fun x y xs st Q h => by cases x <;> exact h) fun f st H x v Q' Q s r h l => by
    cases x <;> try (exact h.elim)
    · rw [RD.tup] at r
      obtain ⟨a, vs, rfl, t, d⟩ := r
      exact ⟨a, vs, rfl, .inr ⟨t, l.now s h (RD.tup.mpr ⟨a, vs, rfl, t, d⟩)⟩⟩
    · rw [RD.ref] at r
      obtain ⟨a, e, rfl⟩ := r
      obtain ⟨xs, h1, h2⟩ := h
      obtain ⟨a', vs, k1, k2, d⟩ := s.rdA h1
      rw [e] at k1; cases k1
      exact ⟨a, vs, rfl, .inl ⟨k2, fun p hp => l.tup s h2 d hp⟩⟩
theorem real_sumB : RealB K (L2.rSum K) sumB :=
  realB1 (kb1 (fun _ _ h => h) fun x y xs st Q h => by cases x <;> exact h) fun f st H x v Q' Q s r h l => by
    cases x <;> try (exact h.elim)
    rw [RD.ref] at r
    obtain ⟨a, e, rfl⟩ := r
    obtain ⟨ns, h1, h2⟩ := h
    obtain ⟨a', vs, k1, k2, d⟩ := s.rdA h1
    rw [e] at k1; cases k1
    exact ⟨a, ns, rfl, by rw [← d.ints]; exact k2, l.now s h2 (RD.int.mpr rfl)⟩
def truV : L2.V → Bool
  | .bl b => b
  | .int i => i != 0
  | _ => false
def tfl : L2.V → Bool
  | .non => true
  | .bl _ => true
  | .int _ => true
  | _ => false
def rAnyF (K : Kf) : List L2.V → Hp → L2.VK → Prop := fun vs H Q => ∃ (a : Addr) (xs : List L2.V), vs = [L2.V.ref a] ∧ L2.SqL K H a xs ∧ xs.all tfl = true ∧ Q (.bl (xs.any truV)) H
def rAllF (K : Kf) : List L2.V → Hp → L2.VK → Prop := fun vs H Q => ∃ (a : Addr) (xs : List L2.V), vs = [L2.V.ref a] ∧ L2.SqL K H a xs ∧ xs.all tfl = true ∧ Q (.bl (xs.all truV)) H
theorem truth_tfl {prog : Program} {w : World} {A : Around} {xs : List L2.V} {its : List Value} (r : L2.Vals xs its) (h : xs.all tfl = true) :
    TruthOf prog w A (fun i v => its.toArray[i]? = some v) (fun i => (xs.map truV).getD i false) := fun i v s Q E hv hq => by
  have hv' : its[i]? = some v := by simpa using hv
  have hi : i < xs.length := by rw [r.length]; exact (List.getElem?_eq_some_iff.mp hv').1
  have hx : xs[i]? = some xs[i] := by simp [hi]
  obtain ⟨u, hu, ru⟩ := r.get hx
  rw [hv'] at hu; cases hu
  have hg : (xs.map truV).getD i false = truV xs[i] := by rw [List.getD_eq_getElem?_getD, List.getElem?_map, hx]; rfl
  have hq' : Q ((xs.map truV).getD i false) s := hq
  rw [hg] at hq'
  have ht : tfl xs[i] = true := by
    rw [List.all_eq_true] at h
    exact h _ (List.getElem_mem hi)
  generalize xs[i] = x at ru hq' ht
  cases x with
  | non => cases ru; exact PyProof.Rows.truthy_none hq'
  | bl b => cases ru; exact wpAny_truthy_bool hq'
  | int j => obtain ⟨t, rfl⟩ := ru; exact PySem.P.truthy_int hq'
  | _ => exact absurd ht (by simp [tfl])
theorem cr_anyF (hc : X.calm = true) : L2.CallR X (.builtin "any") (rAnyF X.K) := by
  intro pins s σ H vs us Q I r h
  obtain ⟨a, xs, rfl, hs, ht, q⟩ := h
  obtain ⟨its, rv, hl, _⟩ := I.list hs
  rw [L2.Vals.ref1 r]
  refine call_any_walk (L2.iter_any hl.isList fun s₂ e2 st hne => ?_)
  subst e2
  refine ⟨_, _, _, _, _, _, _, rfl, Walks.list (A := X.A.in1) (I.ok.hd hc) _ a hne its.toArray, st, truth_tfl rv ht, fun h' tk hk => ?_⟩
  refine ⟨.bl _, H, I.kept fun b o eo => hk b o (fun hmem => ?_) (Heap.get?_push_of_some _ eo), ?_, q⟩
  · rcases List.mem_cons.mp hmem with e1 | hmem
    · exact absurd (e1 ▸ Heap.lt_size eo) (Nat.lt_irrefl _)
    · cases hmem
  · show Value.bool _ = Value.bool _
    have e1 : its.toArray.size = (xs.map truV).length := by rw [List.size_toArray, List.length_map]; exact rv.length.symm
    rw [e1, L2.any_range, List.any_map]
    rfl
theorem cr_allF (hc : X.calm = true) : L2.CallR X (.builtin "all") (rAllF X.K) := by
  intro pins s σ H vs us Q I r h
  obtain ⟨a, xs, rfl, hs, ht, q⟩ := h
  obtain ⟨its, rv, hl, _⟩ := I.list hs
  rw [L2.Vals.ref1 r]
  refine call_all_walk (L2.iter_any hl.isList fun s₂ e2 st hne => ?_)
  subst e2
  refine ⟨_, _, _, _, _, _, _, rfl, Walks.list (A := X.A.in1) (I.ok.hd hc) _ a hne its.toArray, st, truth_tfl rv ht, fun h' tk hk => ?_⟩
  refine ⟨.bl _, H, I.kept fun b o eo => hk b o (fun hmem => ?_) (Heap.get?_push_of_some _ eo), ?_, q⟩
  · rcases List.mem_cons.mp hmem with e1 | hmem
    · exact absurd (e1 ▸ Heap.lt_size eo) (Nat.lt_irrefl _)
    · cases hmem
  · show Value.bool _ = Value.bool _
    have e1 : its.toArray.size = (xs.map truV).length := by rw [List.size_toArray, List.length_map]; exact rv.length.symm
    rw [e1, L2.all_range, List.all_map]
    rfl
theorem RD.tru {x : D} {v : L2.V} (h : RD K f H x v) (hx : x.tflat = true) : tfl v = true ∧ truV v = x.tru := by
  cases x with
  | non => rw [RD.non] at h; subst h; exact ⟨rfl, rfl⟩
  | bl b => rw [RD.bl] at h; subst h; exact ⟨rfl, rfl⟩
  | int i => rw [RD.int] at h; subst h; exact ⟨rfl, rfl⟩
  | str _ => cases hx
  | tup _ => cases hx
  | ref _ => cases hx
theorem RDs.tru : ∀ {xs : List D} {vs : List L2.V}, RDs K f H xs vs → xs.all D.tflat = true → vs.all tfl = true ∧ vs.any truV = xs.any D.tru ∧ vs.all truV = xs.all D.tru
  | [], _, h, _ => by rw [RDs.nil] at h; subst h; exact ⟨rfl, rfl, rfl⟩
  | x :: xs, _, h, hf => by
    rw [RDs.cons] at h
    obtain ⟨v, r, rfl, h1, h2⟩ := h
    have hf' : x.tflat = true ∧ xs.all D.tflat = true := by simpa using hf
    obtain ⟨a, b⟩ := h1.tru hf'.1
    obtain ⟨c, d, e⟩ := RDs.tru h2 hf'.2
    simp [a, b, c, d, e]
theorem real_allB : RealB K (rAllF K) allB :=
  realB1 (kb1 (fun _ _ h => h) fun x y xs st Q h => by cases x <;> exact h) fun f st H x v Q' Q s r h l => by
    cases x <;> try (exact h.elim)
    rw [RD.ref] at r
    obtain ⟨a, e, rfl⟩ := r
    obtain ⟨xs, h1, h2, h3⟩ := h
    obtain ⟨a', vs, k1, k2, d⟩ := s.rdA h1
    rw [e] at k1; cases k1
    obtain ⟨t1, t2, t3⟩ := d.tru h2
    exact ⟨a, vs, rfl, k2, t1, by rw [t3]; exact l.now s h3 (RD.bl.mpr rfl)⟩
theorem real_anyB : RealB K (rAnyF K) anyB :=
  realB1 (kb1 (fun _ _ h => h) fun x y xs st Q h => by cases x <;> exact h) fun f st H x v Q' Q s r h l => by
    cases x <;> try (exact h.elim)
    rw [RD.ref] at r
    obtain ⟨a, e, rfl⟩ := r
    obtain ⟨xs, h1, h2, h3⟩ := h
    obtain ⟨a', vs, k1, k2, d⟩ := s.rdA h1
    rw [e] at k1; cases k1
    obtain ⟨t1, t2, t3⟩ := d.tru h2
    exact ⟨a, vs, rfl, k2, t1, by rw [t2]; exact l.now s h3 (RD.bl.mpr rfl)⟩
theorem real_min1B : RealB K (L2.rMin K) min1B :=
  realB1 (kb1 (fun _ _ h => h) fun x y xs st Q h => by cases x <;> exact h) fun f st H x v Q' Q s r h l => by
    cases x <;> try (exact h.elim)
    rw [RD.ref] at r
    obtain ⟨a, e, rfl⟩ := r
    obtain ⟨ns, h1, h2, h3⟩ := h
    obtain ⟨a', vs, k1, k2, d⟩ := s.rdA h1
    rw [e] at k1; cases k1
    exact ⟨a, ns, rfl, by rw [← d.ints]; exact k2, h2, fun m hm hy => l.now s (h3 m hm hy) (RD.int.mpr rfl)⟩
theorem real_max1B : RealB K (L2.rMax K) max1B :=
  realB1 (kb1 (fun _ _ h => h) fun x y xs st Q h => by cases x <;> exact h) fun f st H x v Q' Q s r h l => by
    cases x <;> try (exact h.elim)
    rw [RD.ref] at r
    obtain ⟨a, e, rfl⟩ := r
    obtain ⟨ns, h1, h2, h3⟩ := h
    obtain ⟨a', vs, k1, k2, d⟩ := s.rdA h1
    rw [e] at k1; cases k1
    exact ⟨a, ns, rfl, by rw [← d.ints]; exact k2, h2, fun m hm hy => l.now s (h3 m hm hy) (RD.int.mpr rfl)⟩
end
end Pd
end PartPdSoundC

section PartPdSoundD
set_option Elab.async false
set_option linter.all false
set_option maxRecDepth 100000
set_option maxHeartbeats 1000000
/-! Pd over the hand layer: targets, loops, statements, comprehensions, methods, defs. Own work. -/
namespace Pd
open PySem PySem.Spec
section
variable {X : L2.Cx} {K : Kf} {f f' : List Addr} {H H' : Hp} {st st' : Store} {ρ : Env} {σ : L2.St}
/-! ### targets -/
def LG (K : Kf) (f : List Addr) (H : Hp) (σ : L2.St) (vs : List Nat) (Q' : Env → Store → Prop) (Q : L2.St → Hp → Prop) : Prop :=
  ∀ (ρ' : Env) (st' : Store) (σ' : L2.St) (f' : List Addr) (H' : Hp), Q' ρ' st' → Ext K f H f' H' → Rel K f' ρ' st' σ' H' → Out vs σ σ' → Q σ' H'
def liftG (K : Kf) (g : TG) (vs : List Nat) : L2.TG := fun v σ H Q => ∃ f ρ st d Q', Rel K f ρ st σ H ∧ RD K f H d v ∧ g d ρ st Q' ∧ LG K f H σ vs Q' Q
def liftGs (K : Kf) (g : TGs) (vs : List Nat) : L2.TGs := fun us σ H Q => ∃ f ρ st ds Q', Rel K f ρ st σ H ∧ RDs K f H ds us ∧ g ds ρ st Q' ∧ LG K f H σ vs Q' Q
abbrev PDG (X : L2.Cx) (e : Expr) (g : TG) (vs : List Nat) : Prop := L2.PG X e (liftG X.K g vs)
abbrev PDGs (X : L2.Cx) (es : List Expr) (g : TGs) (vs : List Nat) : Prop := L2.PGs X es (liftGs X.K g vs)
theorem pg_imp {e : Expr} {t t' : L2.TG} (h : L2.PG X e t) (m : ∀ v σ H Q, t' v σ H Q → t v σ H Q) : L2.PG X e t' := ⟨fun pins s σ H v u Q I r q => h.run pins s σ H v u Q I r (m v σ H Q q)⟩
theorem pgs_imp {e : List Expr} {t t' : L2.TGs} (h : L2.PGs X e t) (m : ∀ v σ H Q, t' v σ H Q → t v σ H Q) : L2.PGs X e t' := ⟨fun pins s σ H v u Q I r q => h.run pins s σ H v u Q I r (m v σ H Q q)⟩
theorem Out.refl {vs : List Nat} {σ : L2.St} : Out vs σ σ := ⟨rfl, fun _ _ => rfl⟩
theorem Out.set {i : Nat} {v : L2.V} {σ : L2.St} : Out [i] σ (σ.set i (some v)) := ⟨by rw [List.length_set], fun j h => by
  have : j ≠ i := fun e => h (by simp [e])
  rw [List.getElem?_set_ne (Ne.symm this)]⟩
theorem Out.trans {vs ws : List Nat} {σ σ1 σ2 : L2.St} (a : Out vs σ σ1) (b : Out ws σ1 σ2) : Out (vs ++ ws) σ σ2 :=
  ⟨b.1.trans a.1, fun j h => (b.2 j fun e => h (List.mem_append_right _ e)).trans (a.2 j fun e => h (List.mem_append_left _ e))⟩
theorem pg_name {i : Nat} {x : Str} {pos : Pos} (hN : X.N.Nodup) (hi : X.N[i]? = some x) (hx : L2.Loc X.env.scope x) (hf : X.fn x = true ∨ X.env.scope.names.lookup x = some .local := by first | exact .inl rfl | exact .inr rfl | assumption) : PDG X (.Name x pos) (gName i) [i] :=
  pg_imp (L2.pg_name hN hi hx hf) fun v σ H Q ⟨f, ρ, st, d, Q', R, r, h, l⟩ => l _ st _ f H h .refl (R.put r) Out.set
theorem pgs_nil : PDGs X [] gsNil [] := pgs_imp L2.pgs_nil fun us σ H Q ⟨f, ρ, st, ds, Q', R, r, h, l⟩ => by
  obtain ⟨rfl, h⟩ := h
  rw [RDs.nil] at r
  exact ⟨r, l ρ st σ f H h .refl R .refl⟩
theorem pgs_cons {e : Expr} {es : List Expr} {g : TG} {gs : TGs} {vs ws : List Nat} (h1 : PDG X e g vs) (h2 : PDGs X es gs ws) (hs : (assignEach (e :: es) X.env).map (·.2) = assign e X.env :: (assignEach es X.env).map (·.2) := by rfl) : PDGs X (e :: es) (gsCons g gs) (vs ++ ws) :=
  pgs_imp (L2.pgs_cons h1 h2 hs) fun us σ H Q ⟨f, ρ, st, ds, Q', R, r, h, l⟩ => by
    obtain ⟨d, ds', rfl, h⟩ := h
    rw [RDs.cons] at r
    obtain ⟨v, rr, rfl, r1, r2⟩ := r
    refine ⟨v, rr, rfl, f, ρ, st, d, _, R, r1, h, fun ρ1 st1 σ1 f1 H1 q e1 R1 o1 => ?_⟩
    exact ⟨f1, ρ1, st1, ds', Q', R1, r2.mono e1, q, fun ρ2 st2 σ2 f2 H2 q2 e2 R2 o2 => l ρ2 st2 σ2 f2 H2 q2 (e1.trans e2) R2 (o1.trans o2)⟩
theorem pg_tup {es : List Expr} {k : Nat} {pos : Pos} {gs : TGs} {vs : List Nat} {n : Nat} (hc : X.calm = true) (h : PDGs X es gs vs)
    (hn : (assignEach es X.env).length = n := by rfl) (hst : (assignEach es X.env).findIdx? (·.1) = none := by rfl) : PDG X (.Tuple es k pos) (gTup gs n) vs :=
  pg_imp (L2.pg_tup hc h hn hst) fun v σ H Q ⟨f, ρ, st, d, Q', R, r, h, l⟩ => by
    obtain ⟨ds, rfl, hl, h⟩ := h
    rw [RD.tup] at r
    obtain ⟨a, us, rfl, t, rs⟩ := r
    exact ⟨a, us, rfl, t, by rw [rs.length]; exact hl, f, ρ, st, ds, Q', R, rs, h, l⟩
def RealSet (K : Kf) (r : L2.V → L2.V → L2.V → Hp → (Hp → Prop) → Prop) (k : D → D → D → Store → (Store → Prop) → Prop) : Prop :=
  ∀ (f : List Addr) (st : Store) (H : Hp) (o i v : D) (ov iv vv : L2.V) (Q' : Store → Prop) (Q : Hp → Prop), RelS K f st H → RD K f H o ov → RD K f H i iv → RD K f H v vv → k o i v st Q' →
    (∀ st' H', Q' st' → Ext K f H f H' → RelS K f st' H' → Q H') → r ov iv vv H Q
theorem real_set : RealSet K L2.rSetL setK := fun f st H o i v ov iv vv Q' Q s r1 r2 r3 h l => by
  cases o <;> try (exact h.elim)
  cases i <;> try (exact h.elim)
  rename_i n i
  rw [RD.ref] at r1
  rw [RD.int] at r2
  obtain ⟨a, e, rfl⟩ := r1
  obtain ⟨xs, h1, ⟨d, h2⟩, h3, h4⟩ := h
  obtain ⟨a', vs, k1, k2, k3⟩ := s.rdL h1
  rw [e] at k1; cases k1
  have hlt : i < (vs.length : Int) := by
    rw [k3.length]
    unfold atD at h2
    rw [if_pos h3] at h2
    have := (List.getElem?_eq_some_iff.mp h2).1
    omega
  obtain ⟨s', e'⟩ := s.put e h1 k2 (k3.set i.toNat r3)
  exact ⟨a, vs, i, i.toNat, rfl, r2, k2, by unfold L2.ixN; rw [if_pos h3, if_pos hlt], l _ _ h4 e' s'⟩
section
variable {a b c e o i : Expr} {es : List Expr} {ta tb te to ti : TE} {pos tpos : Pos}
theorem pg_sub (h1 : PD X o to) (h2 : PD X i ti) (ha : ∀ v, assign (.Subscript o i pos) X.env v = (do
      let ov ← holding [v] (eval o X.env)
      let iv ← holding [v, ov] (eval i X.env)
      standAt pos
      holding [v, ov, iv] (setItem ov iv v)
      release [v, ov, iv] []) := by intro _; rfl) : PDG X (.Subscript o i pos) (gSub to ti) [] :=
  pg_imp (L2.pg_sub h1 h2 L2.set_list ha) fun v σ H Q ⟨f, ρ, st, d, Q', R, r, h, l⟩ => ⟨f, ρ, st, _, R, h, fun x st1 u f1 H1 q1 e1 s1 r1 => ⟨f1, ρ, st1, _, R.later e1 s1, q1, fun y st2 w f2 H2 q2 e2 s2 r2 =>
    real_set f2 st2 H2 x y d u w v _ _ s2 (r1.mono e2) r2 (r.mono (e1.trans e2)) q2 fun st3 H3 q3 e3 s3 => l ρ st3 σ f2 H3 q3 ((e1.trans e2).trans e3) (R.later ((e1.trans e2).trans e3) s3) .refl⟩⟩

/-! ### iterables -/
/-- what is walked: data and walk -/
structure RealI (K : Kf) (f : List Addr) (H : Hp) (I : Iter) (J : L2.It) : Prop where
  go : ∀ (i : Nat) (f2 : List Addr) (st2 : Store) (H2 : Hp), Ext K f H f2 H2 → RelS K f2 st2 H2 → I.guard st2 → i < I.items.length → J.go i H2
  stop : ∀ (f2 : List Addr) (st2 : Store) (H2 : Hp), Ext K f H f2 H2 → RelS K f2 st2 H2 → I.guard st2 → J.stop I.items.length H2
  yld : ∀ (i : Nat) (f2 : List Addr) (st2 : Store) (H2 : Hp) (d : D) (x : L2.V) (H3 : Hp), Ext K f H f2 H2 → RelS K f2 st2 H2 → I.guard st2 → I.items[i]? = some d → J.yld i H2 x H3 → Ext K f2 H2 f2 H3 ∧ RelS K f2 st2 H3 ∧ RD K f2 H3 d x
def liftI (K : Kf) (t : TI) : L2.TI := fun σ H R => ∃ f ρ st R', Rel K f ρ st σ H ∧ t ρ st R' ∧ ∀ (I : Iter) (st' : Store) (J : L2.It) (f' : List Addr) (H' : Hp), R' I st' → Ext K f H f' H' → RelS K f' st' H' → RealI K f' H' I J → R J H'
abbrev PDI (X : L2.Cx) (tg e : Expr) (t : TI) : Prop := L2.PI X tg e (liftI X.K t)
theorem pi_imp {tg e : Expr} {t t' : L2.TI} (h : L2.PI X tg e t) (m : ∀ σ H R, t' σ H R → t σ H R) : L2.PI X tg e t' := ⟨fun pins s σ H R I q => h.run pins s σ H R I (m σ H R q)⟩
def iSeqV (K : Kf) (tl : L2.TE) : L2.TI := fun σ H R => tl σ H fun x H1 => ∃ a, x = .ref a ∧ ((∃ xs, L2.SqL K H1 a xs ∧ R (L2.Itl K a) H1) ∨ (∃ xs, L2.SqT K H1 a xs ∧ R (L2.Itt K a) H1))
theorem pi_seqV {tg l : Expr} {tl : L2.TE} (hl : L2.PE X l tl) : L2.PI X tg l (iSeqV X.K tl) := by
  refine ⟨fun pins s σ H R I h => ?_⟩
  refine L2.thn (hl.run pins s σ H _ I h) fun v s1 ⟨x, H1, I1, r1, q1⟩ => ?_
  obtain ⟨a, e, q1⟩ := q1
  subst e
  cases r1
  have fin : ∀ b ∈ [s1.heap.objs.size], L2.FpOk X pins H1 b := fun b hb => by
    have e : b = s1.heap.objs.size := by simpa using hb
    subst e
    exact I1.fpOk (Nat.le_refl _) (I1.hok.fresh (Nat.le_refl _))
  rcases q1 with ⟨xs, hq, q⟩ | ⟨xs, hq, q⟩
  · obtain ⟨its, rv, p, hz⟩ := I1.list hq
    refine wpAny_pyIter_list p.isList ?_
    exact ⟨s1.heap.objs.size, [s1.heap.objs.size], _, _, H1, rfl, I1.kept (t' := s1.toks) fun b o e => Heap.get?_push_of_some _ e, L2.turn_list a _, ⟨_, Heap.get?_push_size _ rfl, rfl, rfl⟩, fin, q⟩
  · obtain ⟨its, rv, p, hz⟩ := I1.tuple hq
    refine wpAny_pyIter_tuple (show s1.heap.IsTuple a its.toArray from p) ?_
    exact ⟨s1.heap.objs.size, [s1.heap.objs.size], _, _, H1, rfl, I1.kept (t' := s1.toks) fun b o e => Heap.get?_push_of_some _ e, L2.turn_tuple a _, ⟨_, Heap.get?_push_size _ rfl, rfl, rfl⟩, fin, q⟩
theorem RDs.at_lt {ds : List D} {vs : List L2.V} (h : RDs K f H ds vs) {i : Nat} (hi : i < ds.length) : ∃ v, vs[i]? = some v := by
  have := h.length
  exact ⟨vs[i]'(by omega), by simp [this, hi]⟩
theorem realI_list {n : Nat} {a : Addr} {xs : List D} (hn : f[n]? = some a) : RealI K f H ⟨xs, fun s => rdA s n xs⟩ (L2.Itl K a) where
  go := fun i f2 st2 H2 e2 s2 g hi => by
    obtain ⟨a', vs, k1, k2, k3⟩ := s2.rdA g
    rw [e2.at hn] at k1; cases k1
    obtain ⟨v, hv⟩ := k3.at_lt hi
    exact ⟨vs, v, k2, hv⟩
  stop := fun f2 st2 H2 e2 s2 g => by
    obtain ⟨a', vs, k1, k2, k3⟩ := s2.rdA g
    rw [e2.at hn] at k1; cases k1
    exact ⟨vs, k2, by rw [k3.length]; exact Nat.le_refl _⟩
  yld := fun i f2 st2 H2 d x H3 e2 s2 g hd y => by
    obtain ⟨a', vs, k1, k2, k3⟩ := s2.rdA g
    rw [e2.at hn] at k1; cases k1
    obtain ⟨rfl, y⟩ := y
    obtain ⟨v, h1, h2⟩ := k3.get hd
    have := y vs k2
    rw [h1] at this; cases this
    exact ⟨.refl, s2, h2⟩
theorem realI_tup {a : Addr} {xs : List D} {vs : List L2.V} (t : L2.SqT K H a vs) (r : RDs K f H xs vs) : RealI K f H ⟨xs, fun _ => True⟩ (L2.Itt K a) where
  go := fun i f2 st2 H2 e2 s2 g hi => by
    obtain ⟨v, hv⟩ := r.at_lt hi
    exact ⟨vs, v, e2.tup _ _ t, hv⟩
  stop := fun f2 st2 H2 e2 s2 g => ⟨vs, e2.tup _ _ t, by rw [r.length]; exact Nat.le_refl _⟩
  yld := fun i f2 st2 H2 d x H3 e2 s2 g hd y => by
    obtain ⟨rfl, y⟩ := y
    obtain ⟨v, h1, h2⟩ := r.get hd
    have := y vs (e2.tup _ _ t)
    rw [h1] at this; cases this
    exact ⟨.refl, s2, h2.mono e2⟩
theorem realI_rng {lo : Int} {n : Nat} : RealI K f H ⟨rng lo n, fun _ => True⟩ (L2.Itr lo n) where
  go := fun i f2 st2 H2 e2 s2 g hi => by
    have : i < n := by simpa [rng] using hi
    exact this
  stop := fun f2 st2 H2 e2 s2 g => by
    show n ≤ (rng lo n).length
    simp [rng]
  yld := fun i f2 st2 H2 d x H3 e2 s2 g hd y => by
    obtain ⟨rfl, rfl⟩ := y
    refine ⟨.refl, s2, ?_⟩
    have hd' : (rng lo n)[i]? = some d := hd
    unfold rng at hd'
    rw [List.getElem?_map] at hd'
    cases q : (List.range n)[i]? with
    | none => rw [q] at hd'; cases hd'
    | some j =>
      rw [q] at hd'
      obtain ⟨h1, h2⟩ := List.getElem?_eq_some_iff.mp q
      simp at h2
      subst h2
      simp at hd'
      subst hd'
      rw [RD.int]
theorem pi_seq {tg : Expr} (h : PD X a ta) : PDI X tg a (iSeq ta) :=
  pi_imp (pi_seqV h) fun σ H R ⟨f, ρ, st, R', Re, h, l⟩ => ⟨f, ρ, st, _, Re, h, fun x st1 v f1 H1 q1 e1 s1 r1 => by
    cases x <;> try (exact q1.elim)
    · rw [RD.tup] at r1
      obtain ⟨a, vs, rfl, t, d⟩ := r1
      exact ⟨a, rfl, .inr ⟨vs, t, l _ st1 _ f1 H1 q1 e1 s1 (realI_tup t d)⟩⟩
    · rw [RD.ref] at r1
      obtain ⟨a, e, rfl⟩ := r1
      obtain ⟨xs, g1, g2⟩ := q1
      obtain ⟨a', vs, k1, k2, k3⟩ := s1.rdA g1
      rw [e] at k1; cases k1
      exact ⟨a, rfl, .inl ⟨vs, k2, l _ st1 _ f1 H1 g2 e1 s1 (realI_list e)⟩⟩⟩
theorem pi_r1 {tg : Expr} {p : Pos} (hg : L2.Gl X "range") (hm : X.mg "range" = none) (h : PD X a ta) (hs : starEach [a] X.env = [(false, eval a X.env)] := by rfl) : PDI X tg (.Call (.Name "range" p) [a] [] pos) (iR1 ta) :=
  pi_imp (L2.pi_range1 hg hm (L2.pa_cons h L2.pa_nil hs) hs) fun σ H R ⟨f, ρ, st, R', Re, h, l⟩ => ⟨f, ρ, st, _, Re, h, fun x st1 v f1 H1 q1 e1 s1 r1 => by
    obtain ⟨j, rfl, h1, h2, h3⟩ := q1
    rw [RD.int] at r1
    subst r1
    exact ⟨j, rfl, h1, h2, l _ st1 _ f1 H1 h3 e1 s1 realI_rng⟩⟩
theorem pi_r2 {tg : Expr} {p : Pos} (hg : L2.Gl X "range") (hm : X.mg "range" = none) (h : PD X a ta) (h' : PD X b tb) (hs : starEach [a, b] X.env = [(false, eval a X.env), (false, eval b X.env)] := by rfl) (hs2 : starEach [b] X.env = [(false, eval b X.env)] := by rfl) : PDI X tg (.Call (.Name "range" p) [a, b] [] pos) (iR2 ta tb) :=
  pi_imp (L2.pi_range2 hg hm (L2.pa_cons h (L2.pa_cons h' L2.pa_nil hs2) (hs.trans (by rw [hs2]))) hs hs2) fun σ H R ⟨f, ρ, st, R', Re, h, l⟩ => ⟨f, ρ, st, _, Re, h, fun x st1 v f1 H1 q1 e1 s1 r1 => ⟨f1, ρ, st1, _, Re.later e1 s1, q1, fun y st2 w f2 H2 q2 e2 s2 r2 => by
    obtain ⟨i, j, rfl, rfl, h2, h3⟩ := q2
    have r1' := r1.mono e2
    rw [RD.int] at r1' r2
    subst r1'; subst r2
    exact ⟨i, j, rfl, h2, l _ st2 _ f2 H2 h3 (e1.trans e2) s2 realI_rng⟩⟩⟩
theorem zipD_get : ∀ {xs ys : List D} {i : Nat} {d : D}, (zipD xs ys)[i]? = some d → ∃ x y, d = .tup [x, y] ∧ xs[i]? = some x ∧ ys[i]? = some y
  | [], _, _, _, h => by simp [zipD] at h
  | _ :: _, [], _, _, h => by simp [zipD] at h
  | x :: xs, y :: ys, 0, d, h => by simp [zipD] at h; exact ⟨x, y, h.symm, rfl, rfl⟩
  | x :: xs, y :: ys, i + 1, d, h => by
    obtain ⟨x', y', h1, h2, h3⟩ := zipD_get (xs := xs) (ys := ys) (i := i) (by simpa [zipD] using h)
    exact ⟨x', y', h1, by simpa using h2, by simpa using h3⟩
theorem zipD_length : ∀ (xs ys : List D), (zipD xs ys).length = min xs.length ys.length
  | [], _ => by simp [zipD]
  | _ :: _, [] => by simp [zipD]
  | x :: xs, y :: ys => by simp [zipD, zipD_length xs ys]
theorem realI_zipT {a b : Addr} {xs ys : List D} {vs ws : List L2.V} (t : L2.SqT K H a vs) (r : RDs K f H xs vs) (t' : L2.SqT K H b ws) (r' : RDs K f H ys ws) : RealI K f H ⟨zipD xs ys, fun _ => True⟩ (RZ.ItzT K a b) where
  go := fun i f2 st2 H2 e2 s2 g hi => by
    have hi : i < (zipD xs ys).length := hi
    rw [zipD_length] at hi
    obtain ⟨v, hv⟩ := r.at_lt (i := i) (by omega)
    obtain ⟨w, hw⟩ := r'.at_lt (i := i) (by omega)
    exact ⟨vs, ws, v, w, e2.tup _ _ t, e2.tup _ _ t', hv, hw⟩
  stop := fun f2 st2 H2 e2 s2 g => ⟨vs, ws, e2.tup _ _ t, e2.tup _ _ t', by
    show vs.length ≤ (zipD xs ys).length ∨ ws.length ≤ (zipD xs ys).length
    rw [zipD_length, r.length, r'.length]; omega⟩
  yld := fun i f2 st2 H2 d x H3 e2 s2 g hd y => by
    obtain ⟨T, x1, x2, rfl, hT, rfl, y1, y2⟩ := y
    obtain ⟨d1, d2, rfl, g1, g2⟩ := zipD_get hd
    obtain ⟨v, h1, h2⟩ := r.get g1
    obtain ⟨w, h3, h4⟩ := r'.get g2
    have q1 := y1 vs (e2.tup _ _ t)
    have q2 := y2 ws (e2.tup _ _ t')
    rw [h1] at q1; cases q1
    rw [h3] at q2; cases q2
    obtain ⟨s', e'⟩ := s2.lay (o := .tup [x1, x2]) hT
    refine ⟨e', s', RD.tup.mpr ⟨T, [x1, x2], rfl, .of L2.upd_same, ?_⟩⟩
    rw [RDs.cons]
    exact ⟨x1, [x2], rfl, (h2.mono e2).mono e', RDs.one ((h4.mono e2).mono e')⟩
theorem realI_zipL {m n : Nat} {a b : Addr} {xs ys : List D} (hm : f[m]? = some a) (hn : f[n]? = some b) : RealI K f H ⟨zipD xs ys, fun s => rdA s m xs ∧ rdA s n ys⟩ (L2.Itz K a b) where
  go := fun i f2 st2 H2 e2 s2 g hi => by
    have hi : i < (zipD xs ys).length := hi
    rw [zipD_length] at hi
    obtain ⟨a', vs, k1, k2, k3⟩ := s2.rdA g.1
    obtain ⟨b', ws, j1, j2, j3⟩ := s2.rdA g.2
    rw [e2.at hm] at k1; cases k1
    rw [e2.at hn] at j1; cases j1
    obtain ⟨v, hv⟩ := k3.at_lt (i := i) (by omega)
    obtain ⟨w, hw⟩ := j3.at_lt (i := i) (by omega)
    exact ⟨vs, ws, v, w, k2, j2, hv, hw⟩
  stop := fun f2 st2 H2 e2 s2 g => by
    obtain ⟨a', vs, k1, k2, k3⟩ := s2.rdA g.1
    obtain ⟨b', ws, j1, j2, j3⟩ := s2.rdA g.2
    rw [e2.at hm] at k1; cases k1
    rw [e2.at hn] at j1; cases j1
    refine ⟨vs, ws, k2, j2, ?_⟩
    show vs.length ≤ (zipD xs ys).length ∨ ws.length ≤ (zipD xs ys).length
    rw [zipD_length, k3.length, j3.length]; omega
  yld := fun i f2 st2 H2 d x H3 e2 s2 g hd y => by
    obtain ⟨a', vs, k1, k2, k3⟩ := s2.rdA g.1
    obtain ⟨b', ws, j1, j2, j3⟩ := s2.rdA g.2
    rw [e2.at hm] at k1; cases k1
    rw [e2.at hn] at j1; cases j1
    obtain ⟨T, x1, x2, rfl, hT, rfl, y1, y2⟩ := y
    obtain ⟨d1, d2, rfl, g1, g2⟩ := zipD_get hd
    obtain ⟨v, h1, h2⟩ := k3.get g1
    obtain ⟨w, h3, h4⟩ := j3.get g2
    have q1 := y1 vs k2
    have q2 := y2 ws j2
    rw [h1] at q1; cases q1
    rw [h3] at q2; cases q2
    obtain ⟨s', e'⟩ := s2.lay (o := .tup [x1, x2]) hT
    refine ⟨e', s', RD.tup.mpr ⟨T, [x1, x2], rfl, .of L2.upd_same, ?_⟩⟩
    rw [RDs.cons]
    exact ⟨x1, [x2], rfl, h2.mono e', RDs.one (h4.mono e')⟩
theorem pi_zip {p tp : Pos} {kk : Nat} (hg : L2.Gl X "zip") (hm : X.mg "zip" = none) (h : PD X a ta) (h' : PD X b tb) (hs : starEach [a, b] X.env = (false, eval a X.env) :: starEach [b] X.env := by rfl) (hs2 : starEach [b] X.env = (false, eval b X.env) :: starEach [] X.env := by rfl)
    (hpl : (backTo pos (starEach [b] X.env)).any (·.1) = false := by rfl) : PDI X (.Tuple es kk tp) (.Call (.Name "zip" p) [a, b] [] pos) (iZip2 ta tb) :=
  pi_imp (RZ.pi_zipA hg hm (L2.pa_cons h (L2.pa_cons h' L2.pa_nil hs2) hs) hs hpl) fun σ H R ⟨f, ρ, st, R', Re, h, l⟩ => ⟨f, ρ, st, _, Re, h, fun x st1 v f1 H1 q1 e1 s1 r1 => ⟨f1, ρ, st1, _, Re.later e1 s1, q1, fun y st2 w f2 H2 q2 e2 s2 r2 => by
    have r1' := r1.mono e2
    cases x <;> cases y <;> try (exact q2.elim)
    · rw [RD.tup] at r1' r2
      obtain ⟨a, vs, rfl, t, d⟩ := r1'
      obtain ⟨b, ws, rfl, t', d'⟩ := r2
      exact ⟨a, b, vs, ws, rfl, .inr ⟨t, t', l _ st2 _ f2 H2 q2 (e1.trans e2) s2 (realI_zipT t d t' d')⟩⟩
    · rw [RD.ref] at r1' r2
      obtain ⟨a, g1, rfl⟩ := r1'
      obtain ⟨b, g2, rfl⟩ := r2
      obtain ⟨xs, ys, q3, q4, q5⟩ := q2
      obtain ⟨a', vs, k1, k2, k3⟩ := s2.rdA q3
      obtain ⟨b', ws, j1, j2, j3⟩ := s2.rdA q4
      rw [g1] at k1; cases k1
      rw [g2] at j1; cases j1
      exact ⟨a, b, vs, ws, rfl, .inl ⟨k2, j2, l _ st2 _ f2 H2 q5 (e1.trans e2) s2 (realI_zipL g1 g2)⟩⟩⟩⟩
end
end
end Pd
end PartPdSoundD

section PartPdSoundE
set_option Elab.async false
set_option linter.all false
set_option maxRecDepth 100000
set_option maxHeartbeats 1000000
/-! Pd over the hand layer: statements, comprehensions, methods, defs. Own work. -/
namespace Pd
open PySem PySem.Spec
section
variable {X : L2.Cx} {K : Kf} {f f' : List Addr} {H H' : Hp} {st st' : Store} {ρ : Env} {σ : L2.St}
/-! ### statements -/
structure LD (K : Kf) (f : List Addr) (H : Hp) (D' : Ends) (D : L2.Ends) : Prop where
  nx : ∀ (ρ' : Env) (st' : Store) (σ' : L2.St) (f' : List Addr) (H' : Hp), D'.nx ρ' st' → Ext K f H f' H' → Rel K f' ρ' st' σ' H' → D.nx σ' H'
  rt : LQ K f H D'.rt D.rt
  bk : ∀ (ρ' : Env) (st' : Store) (σ' : L2.St) (f' : List Addr) (H' : Hp), D'.bk ρ' st' → Ext K f H f' H' → Rel K f' ρ' st' σ' H' → D.bk σ' H'
  ct : ∀ (ρ' : Env) (st' : Store) (σ' : L2.St) (f' : List Addr) (H' : Hp), D'.ct ρ' st' → Ext K f H f' H' → Rel K f' ρ' st' σ' H' → D.ct σ' H'
def liftS (K : Kf) (t : TS) : L2.TS := fun D σ H => ∃ f ρ st D', Rel K f ρ st σ H ∧ t D' ρ st ∧ LD K f H D' D
abbrev PDS (X : L2.Cx) (s : Stmt) (t : TS) : Prop := L2.PS X s (liftS X.K t)
abbrev PDSs (X : L2.Cx) (s : List Stmt) (t : TS) : Prop := L2.PSs X s (liftS X.K t)
theorem ps_imp {s : Stmt} {t t' : L2.TS} (h : L2.PS X s t) (m : ∀ D σ H, t' D σ H → t D σ H) : L2.PS X s t' := ⟨fun pins s σ H D I q => h.run pins s σ H D I (m D σ H q)⟩
theorem pss_imp {s : List Stmt} {t t' : L2.TS} (h : L2.PSs X s t) (m : ∀ D σ H, t' D σ H → t D σ H) : L2.PSs X s t' := ⟨fun pins s σ H D I q => h.run pins s σ H D I (m D σ H q)⟩
theorem LD.later {D' : Ends} {D : L2.Ends} (l : LD K f H D' D) (e : Ext K f H f' H') : LD K f' H' D' D :=
  ⟨fun a b c d g q e2 r => l.nx a b c d g q (e.trans e2) r, l.rt.later e, fun a b c d g q e2 r => l.bk a b c d g q (e.trans e2) r, fun a b c d g q e2 r => l.ct a b c d g q (e.trans e2) r⟩
section
variable {a b c e o i : Expr} {es : List Expr} {ta tb te to ti : TE} {tC : TT} {pos tpos : Pos} {s : Stmt} {ss ss' : List Stmt} {t u : TS}
theorem pss_nil : PDSs X [] sNext := pss_imp L2.pss_nil fun D σ H ⟨f, ρ, st, D', R, h, l⟩ => l.nx ρ st σ f H h .refl R
theorem pss_cons (h1 : PDS X s t) (h2 : PDSs X ss u) : PDSs X (s :: ss) (sSeq t u) := pss_imp (L2.pss_cons h1 h2) fun D σ H ⟨f, ρ, st, D', R, h, l⟩ =>
  ⟨f, ρ, st, _, R, h, fun ρ1 st1 σ1 f1 H1 q e r => ⟨f1, ρ1, st1, D', r, q.go, l.later e⟩, l.rt, l.bk, l.ct⟩
theorem pss_one (h1 : PDS X s t) : PDSs X [s] t := L2.pss_one h1
theorem ps_pass : PDS X (.Pass pos) sNext := ps_imp L2.ps_pass fun D σ H ⟨f, ρ, st, D', R, h, l⟩ => l.nx ρ st σ f H h .refl R
theorem ps_doc {x j pos'} : PDS X (.Expr (.Constant (.str x) j pos) pos') sNext := ps_imp L2.ps_doc fun D σ H ⟨f, ρ, st, D', R, h, l⟩ => l.nx ρ st σ f H h .refl R
theorem ps_break : PDS X (.Break pos) sBreak := ps_imp L2.ps_break fun D σ H ⟨f, ρ, st, D', R, h, l⟩ => l.bk ρ st σ f H h .refl R
theorem ps_continue : PDS X (.Continue pos) sCont := ps_imp L2.ps_continue fun D σ H ⟨f, ρ, st, D', R, h, l⟩ => l.ct ρ st σ f H h .refl R
theorem ps_expr (he : PD X e te) (hs : swapsWith e none pos.line X.env = pure false := by rfl) : PDS X (.Expr e pos) (sExpr te) := ps_imp (L2.ps_expr he hs) fun D σ H ⟨f, ρ, st, D', R, h, l⟩ =>
  ⟨f, ρ, st, _, R, h, fun x st1 v f1 H1 q e1 s1 r1 => l.nx ρ st1 σ f1 H1 q e1 (R.later e1 s1)⟩
theorem ps_ret (he : PD X e te) : PDS X (.Return (some e) pos) (sRet te) := ps_imp (L2.ps_ret he) fun D σ H ⟨f, ρ, st, D', R, h, l⟩ => ⟨f, ρ, st, _, R, h, l.rt⟩
theorem ps_retN : PDS X (.Return none pos) sRetN := ps_imp L2.ps_retN fun D σ H ⟨f, ρ, st, D', R, h, l⟩ => l.rt.now R.toRelS h (RD.non.mpr rfl)
theorem ps_if (hc : PDT X c tC) (ha : PDSs X ss t) (hb : PDSs X ss' u) : PDS X (.If c ss ss' pos) (sIf tC t u) := ps_imp (L2.ps_if hc ha hb) fun D σ H ⟨f, ρ, st, D', R, h, l⟩ =>
  ⟨f, ρ, st, _, R, h, fun k st1 f1 H1 q e1 s1 => by
    cases k with
    | true => exact ⟨f1, ρ, st1, D', R.later e1 s1, q.1 rfl, l.later e1⟩
    | false => exact ⟨f1, ρ, st1, D', R.later e1 s1, q.2 rfl, l.later e1⟩⟩
theorem asg_core {g : TG} {vs : List Nat} {te : TE} {D : L2.Ends} (h : liftS K (sAsg te g) D σ H) : L2.tAsg (lift K te) (liftG K g vs) D σ H := by
  obtain ⟨f, ρ, st, D', R, h, l⟩ := h
  exact ⟨f, ρ, st, _, R, h, fun x st1 v f1 H1 q e1 s1 r1 => ⟨f1, ρ, st1, x, _, R.later e1 s1, r1, q, fun ρ2 st2 σ2 f2 H2 q2 e2 R2 _ => l.nx ρ2 st2 σ2 f2 H2 q2 (e1.trans e2) R2⟩⟩
theorem ps_asg {tg : Expr} {g : TG} {vs : List Nat} (he : PD X e te) (hg : PDG X tg g vs) (hs : swapsWithSole [tg] e pos.line X.env = pure false := by rfl) (hw : swappedStores [tg] e X.env = pure none := by rfl)
    (h1 : (assignEach [tg] X.env).map (·.2) = [assign tg X.env] := by rfl) : PDS X (.Assign [tg] e pos) (sAsg te g) := ps_imp (L2.ps_asg he hg hs hw h1) fun D σ H h => asg_core h
theorem ps_set {i : Nat} {x : Str} {pos' : Pos} (hN : X.N.Nodup) (hi : X.N[i]? = some x) (hx : L2.Loc X.env.scope x) (he : PD X e te) (hs : swapsWith e (some (.Name x pos')) pos.line X.env = pure false := by rfl) (hf : X.fn x = true ∨ X.env.scope.names.lookup x = some .local := by first | exact .inl rfl | exact .inr rfl | assumption) :
    PDS X (.Assign [.Name x pos'] e pos) (sAsg te (gName i)) := ps_imp (L2.ps_set hN hi hx he hs hf) fun D σ H ⟨f, ρ, st, D', R, h, l⟩ =>
  ⟨f, ρ, st, _, R, h, fun y st1 v f1 H1 q e1 s1 r1 => l.nx _ st1 _ f1 H1 q e1 ((R.later e1 s1).put r1)⟩
theorem ps_par {i j : Nat} {x y : Str} {ts : TA} {px py pt : Pos} {kt k2 pt2} (hc : X.calm = true) (hN : X.N.Nodup) (hi : X.N[i]? = some x) (hj : X.N[j]? = some y) (hij : i ≠ j)
    (h0 : L2.PS X (.Assign [.Tuple [.Name x px, .Name y py] kt pt] (.Tuple [a, b] k2 pt2) pos) (L2.tPar i j (liftA X.K ts))) : PDS X (.Assign [.Tuple [.Name x px, .Name y py] kt pt] (.Tuple [a, b] k2 pt2) pos) (sPar i j ts) := ps_imp h0 fun D σ H ⟨f, ρ, st, D', R, h, l⟩ =>
  ⟨f, ρ, st, _, R, h, fun xs st1 vs f1 H1 q e1 s1 r1 => by
    obtain ⟨x, y, rfl, q⟩ := q
    obtain ⟨v, w, rfl, r2, r3⟩ := r1.inv2
    exact ⟨v, w, rfl, l.nx _ st1 _ f1 H1 q e1 (((R.later e1 s1).put r2).put r3)⟩⟩
theorem real_iadd : Real2 K (fun x y H Q => (∃ i j, x = .int i ∧ y = .int j ∧ Q (.int (i + j)) H) ∨ (∃ i j, x = .str i ∧ y = .str j ∧ i.length + j.length ≤ sizeLine ∧ Q (.str (i ++ j)) H)) iaddK := by
  intro f st H x y v w Q' Q s r1 r2 h l
  cases x <;> cases y <;> try (exact h.elim)
  · rw [RD.int] at r1 r2
    exact .inl ⟨_, _, r1, r2, l.now s h (RD.int.mpr rfl)⟩
  · rw [RD.str] at r1 r2
    exact .inr ⟨_, _, r1, r2, by rw [← szl_eq]; exact h.1, l.now s h.2 (RD.str.mpr rfl)⟩
theorem ip_add : L2.PIp X .Add (fun x y H Q => (∃ i j, x = .int i ∧ y = .int j ∧ Q (.int (i + j)) H) ∨ (∃ i j, x = .str i ∧ y = .str j ∧ i.length + j.length ≤ sizeLine ∧ Q (.str (i ++ j)) H)) :=
  fun pins s σ H x y v u Q I rx ry h => (L2.OpR.or (X := X) L2.iop_add L2.iop_add_str) pins s σ H x y v u Q I rx ry h
theorem ip_of {op : Operator} {r : L2.R2} (h : L2.OpR X (inplaceOp op) r) : L2.PIp X op r := fun pins s σ H x y v u Q I rx ry q => h pins s σ H x y v u Q I rx ry q
theorem ps_aug {i : Nat} {x : Str} {op : Operator} {r : L2.R2} {k : K2} {pos' : Pos} (hp : L2.PIp X op r) (hr : Real2 X.K r k) (hN : X.N.Nodup) (hi : X.N[i]? = some x) (hx : L2.Loc X.env.scope x) (he : PD X e te)
    (hf : X.fn x = true ∨ X.env.scope.names.lookup x = some .local := by first | exact .inl rfl | exact .inr rfl | assumption) : PDS X (.AugAssign (.Name x pos') op e pos) (sAug i k te) := ps_imp (L2.ps_aug hN hi hx he hp hf) fun D σ H ⟨f, ρ, st, D', R, h, l⟩ => by
  obtain ⟨d, h1, h⟩ := h
  obtain ⟨v, e, rv⟩ := R.env i d h1
  exact ⟨v, e, f, ρ, st, _, R, h, fun y st1 w f1 H1 q e1 s1 r1 => hr f1 st1 H1 d y v w _ _ s1 (rv.mono e1) r1 q fun z st2 u f2 H2 q2 e2 s2 r2 => l.nx _ st2 _ f2 H2 q2 (e1.trans e2) ((R.later (e1.trans e2) s2).put r2)⟩
/-- xs[i] op= e of a list -/
theorem get_list : L2.PGet X (L2.rIxL X.K) := by
  intro pins s σ H x y v u Q I rx ry h
  obtain ⟨p, xs, i, z, rfl, rfl, hq, he, q⟩ := h
  cases rx
  obtain ⟨t, rfl⟩ := ry
  obtain ⟨its, r, pl, hz⟩ := I.list hq
  obtain ⟨j, h1, h2, h3, h4, h5⟩ := L2.atI_get he
  obtain ⟨w, ew, rw'⟩ := r.get h2
  have hl := r.length
  have hn := L2.line63
  have fin : L2.EP X pins σ Q w s := ⟨z, H, I, rw', q⟩
  by_cases h0 : 0 ≤ i
  · have hj : i.toNat = j := by
      rw [seqIndex_of h0 h5] at h1
      exact Option.some.inj h1
    exact wpAny_getItem_list (x := w) pl.isList h0 (by omega) (by rw [hj]; simpa using ew) fin
  · have hj : (i + (its.toArray.size : Int)).toNat = j := by
      rw [seqIndex_neg (by omega) h4] at h1
      rw [List.size_toArray, ← hl]
      exact Option.some.inj h1
    exact wpAny_getItem_list_neg (x := w) pl.isList (by omega) (by rw [List.size_toArray] <;> omega) (by omega) (by rw [hj]; simpa using ew) fin
theorem real_ixL : Real2 K (L2.rIxL K) ixLK := fun f st H x y v w Q' Q s r1 r2 h l => by
  cases x <;> cases y <;> try (exact h.elim)
  rw [RD.ref] at r1
  rw [RD.int] at r2
  obtain ⟨a, e, rfl⟩ := r1
  obtain ⟨xs, d', h0, h1, h2⟩ := h
  obtain ⟨a', vs, k1, k2, d⟩ := s.rdA h0
  rw [e] at k1; cases k1
  obtain ⟨v, g1, g2⟩ := d.atD h1
  exact ⟨a, vs, _, v, rfl, r2, k2, g1, l.now s h2 g2⟩
theorem ps_augS {op : Operator} {r : L2.R2} {k : K2} (hp : L2.PIp X op r) (hr : Real2 X.K r k) (ho : PD X o to) (hi : PD X i ti) (he : PD X e te)
    (ha : ∀ ov iv new, augStore i ov iv new = (do holding [new, ov, iv] (setItem ov iv new); release [new, ov, iv] []; pure .next) := by intros; rfl) : PDS X (.AugAssign (.Subscript o i tpos) op e pos) (sAugL k to ti te) :=
  ps_imp (L2.ps_augS ho hi get_list he hp L2.set_list ha) fun D σ H ⟨f, ρ, st, D', R, h, l⟩ => ⟨f, ρ, st, _, R, h, fun x st1 v f1 H1 q1 e1 s1 r1 => ⟨f1, ρ, st1, _, R.later e1 s1, q1, fun y st2 w f2 H2 q2 e2 s2 r2 =>
    real_ixL f2 st2 H2 x y v w _ _ s2 (r1.mono e2) r2 q2 fun z st3 u f3 H3 q3 e3 s3 r3 => ⟨f3, ρ, st3, _, R.later ((e1.trans e2).trans e3) s3, q3, fun z' st4 u' f4 H4 q4 e4 s4 r4 =>
      hr f4 st4 H4 z z' u u' _ _ s4 (r3.mono e4) r4 q4 fun z5 st5 u5 f5 H5 q5 e5 s5 r5 =>
        real_set f5 st5 H5 x y z5 v w u5 _ _ s5 (r1.mono (((e2.trans e3).trans e4).trans e5)) (r2.mono ((e3.trans e4).trans e5)) r5 q5 fun st6 H6 q6 e6 s6 =>
          have ee := (((((e1.trans e2).trans e3).trans e4).trans e5).trans e6)
          l.nx ρ st6 σ f5 H6 q6 ee (R.later ee s6)⟩⟩⟩

/-! ### loops -/
theorem ps_for {tg iter : Expr} {wi : TI} {g : TG} {vs : List Nat} {tb : TS} (hp : PassesOwn (model X.prog X.w) X.A X.env X.xe) (hc : X.calm = true) (hi : PDI X tg iter wi) (hg : PDG X tg g vs) (hb : PDSs X ss tb)
    (hs : ∀ x, foldedSetIterable iter X.env x = pure x := by intro _; rfl) : PDS X (.For tg iter ss [] pos) (sFor wi g tb) :=
  ps_imp (L2.ps_for hp hc hi hg hb hs) fun D σ H ⟨f, ρ, st, D', R, h, l⟩ => ⟨f, ρ, st, _, R, h, fun I st1 J f1 H1 q1 e1 s1 rI => by
    refine ⟨fun i m σ2 H2 => m = I.items.length - i ∧ i ≤ I.items.length ∧ ∃ f2 ρ2 st2, Ext X.K f1 H1 f2 H2 ∧ Rel X.K f2 ρ2 st2 σ2 H2 ∧ forLoop I.guard g tb D' (I.items.drop i) ρ2 st2, ⟨_, rfl, Nat.zero_le _, f1, ρ, st1, .refl, R.later e1 s1, by simpa using q1⟩, ?_⟩
    rintro i m σ2 H2 ⟨rfl, hi, f2, ρ2, st2, e2, R2, q2⟩
    by_cases hlt : i < I.items.length
    · have hd : I.items.drop i = I.items[i] :: I.items.drop (i + 1) := by rw [List.drop_eq_getElem_cons hlt]
      rw [hd] at q2
      obtain ⟨gd, q2⟩ := q2
      refine .inr ⟨rI.go i f2 st2 H2 e2 R2.toRelS gd hlt, fun σ3 H3 => ∃ f3 ρ3 st3, Ext X.K f1 H1 f3 H3 ∧ Rel X.K f3 ρ3 st3 σ3 H3 ∧ forLoop I.guard g tb D' (I.items.drop (i + 1)) ρ3 st3, fun σ3 H3 ⟨f3, ρ3, st3, e3, R3, q3⟩ => ⟨I.items.length - (i + 1), by omega, rfl, hlt, f3, ρ3, st3, e3, R3, q3⟩, fun x H3 y => ?_⟩
      obtain ⟨e3, s3, r3⟩ := rI.yld i f2 st2 H2 I.items[i] x H3 e2 R2.toRelS gd (by simp [hlt]) y
      refine ⟨f2, ρ2, st2, I.items[i], _, R2.later e3 s3, r3, q2, fun ρ4 st4 σ4 f4 H4 q4 e4 R4 _ => ⟨f4, ρ4, st4, _, R4, q4, ?_⟩⟩
      have ee := (e1.trans (e2.trans (e3.trans e4)))
      have e1' := (e2.trans (e3.trans e4))
      exact ⟨fun ρ5 st5 σ5 f5 H5 q5 e5 R5 => ⟨f5, ρ5, st5, e1'.trans e5, R5, q5⟩, l.rt.later ee, fun ρ5 st5 σ5 f5 H5 q5 e5 R5 => l.nx ρ5 st5 σ5 f5 H5 q5 (ee.trans e5) R5, fun ρ5 st5 σ5 f5 H5 q5 e5 R5 => ⟨f5, ρ5, st5, e1'.trans e5, R5, q5⟩⟩
    · have e : i = I.items.length := by omega
      subst e
      rw [List.drop_length] at q2
      obtain ⟨gd, q2⟩ := q2
      exact .inl ⟨rI.stop f2 st2 H2 e2 R2.toRelS gd, l.nx ρ2 st2 σ2 f2 H2 q2 (e1.trans e2) R2⟩⟩
theorem ps_while {tb : TS} (hp : PassesOwn (model X.prog X.w) X.A X.env X.xe) (hc : PDT X c tC) (hb : PDSs X ss tb) : PDS X (.While c ss [] pos) (sWhile tC tb) :=
  ps_imp (L2.ps_while hp hc hb) fun D σ H ⟨f, ρ, st, D', R, h, l⟩ => by
    obtain ⟨n, h⟩ := h
    refine ⟨fun m σ2 H2 => ∃ f2 ρ2 st2, Ext X.K f H f2 H2 ∧ Rel X.K f2 ρ2 st2 σ2 H2 ∧ whileN tC tb D' m ρ2 st2, ⟨n, f, ρ, st, .refl, R, h⟩, ?_⟩
    rintro m σ2 H2 ⟨f2, ρ2, st2, e2, R2, q2⟩
    cases m with
    | zero => exact q2.elim
    | succ m =>
      refine ⟨f2, ρ2, st2, _, R2, q2, fun k st3 f3 H3 q3 e3 s3 => ?_⟩
      have ee := e2.trans e3
      cases k with
      | false => exact l.nx ρ2 st3 σ2 f3 H3 (q3.2 rfl) ee (R2.later e3 s3)
      | true =>
        refine ⟨fun σ4 H4 => ∃ f4 ρ4 st4, Ext X.K f H f4 H4 ∧ Rel X.K f4 ρ4 st4 σ4 H4 ∧ whileN tC tb D' m ρ4 st4, fun σ4 H4 q4 => ⟨m, Nat.lt_succ_self _, q4⟩, f3, ρ2, st3, _, R2.later e3 s3, q3.1 rfl, ?_⟩
        exact ⟨fun ρ5 st5 σ5 f5 H5 q5 e5 R5 => ⟨f5, ρ5, st5, ee.trans e5, R5, q5⟩, l.rt.later ee, fun ρ5 st5 σ5 f5 H5 q5 e5 R5 => l.nx ρ5 st5 σ5 f5 H5 q5 (ee.trans e5) R5, fun ρ5 st5 σ5 f5 H5 q5 e5 R5 => ⟨f5, ρ5, st5, ee.trans e5, R5, q5⟩⟩

/-! ### comprehensions -/
abbrev PDTs (X : L2.Cx) (es : List Expr) (t : TT) : Prop := L2.PTs X es (liftT X.K t)
theorem pts_imp {e : List Expr} {t t' : L2.TT} (h : L2.PTs X e t) (m : ∀ σ H Q, t' σ H Q → t σ H Q) : L2.PTs X e t' := ⟨fun pins s σ H Q I q => h.run pins s σ H Q I (m σ H Q q)⟩
theorem pts_nil : PDTs X [] tYes := pts_imp L2.pts_nil fun σ H Q ⟨f, ρ, st, Q', R, h, l⟩ => l true st f H h .refl R.toRelS
theorem pts_one {t : TT} (h : PDT X c t) : PDTs X [c] t := L2.pts_one h
theorem lc_core {wi : TI} {g : TG} {tt : TT} {te : TE} {vs ws : List Nat} {Q : L2.VK} (hws : ∀ j, j ∈ ws → j ∈ vs) (h : lift K (dLc wi g tt te vs) σ H Q) : L2.tLc (liftI K wi) (liftG K g ws) (liftT K tt) (lift K te) vs σ H Q := by
  obtain ⟨f, ρ, st, Q', R, h, l⟩ := h
  refine ⟨f, ρ, st, _, R, h, fun I st1 J f1 H1 q1 e1 s1 rI D hD => ?_⟩
  obtain ⟨s0, e0⟩ := s1.new (o := .lst []) (c := .lst []) hD ⟨[], L2.upd_same, RDs.nil.mpr rfl⟩
  have hn0 : (f1 ++ [D])[st1.length]? = some D := by rw [← s1.len]; simp
  refine ⟨fun i m H2 => m = I.items.length - i ∧ i ≤ I.items.length ∧ ∃ f2 st2 acc, Ext K (f1 ++ [D]) (L2.upd H1 D (.lst [])) f2 H2 ∧ RelS K f2 st2 H2 ∧ rdL st2 st1.length acc ∧ lcLoop I.guard g tt te (wipeE ρ vs) st1.length Q' (I.items.drop i) acc st2,
    ⟨_, rfl, Nat.zero_le _, f1 ++ [D], st1 ++ [.lst []], [], .refl, s0, by unfold rdL; simp, by simpa using q1⟩, ?_⟩
  rintro i m H2 ⟨rfl, hi, f2, st2, acc, e2, s2, hacc, q2⟩
  have eI : Ext K f1 H1 f2 H2 := e0.trans e2
  by_cases hlt : i < I.items.length
  · have hd : I.items.drop i = I.items[i] :: I.items.drop (i + 1) := by rw [List.drop_eq_getElem_cons hlt]
    rw [hd] at q2
    obtain ⟨gd, q2⟩ := q2
    refine .inr ⟨rI.go i f2 st2 H2 eI s2 gd hlt, fun H3 => ∃ f3 st3 acc', Ext K (f1 ++ [D]) (L2.upd H1 D (.lst [])) f3 H3 ∧ RelS K f3 st3 H3 ∧ rdL st3 st1.length acc' ∧ lcLoop I.guard g tt te (wipeE ρ vs) st1.length Q' (I.items.drop (i + 1)) acc' st3,
      fun H3 q3 => ⟨I.items.length - (i + 1), by omega, rfl, hlt, q3⟩, fun x H3 y => ?_⟩
    obtain ⟨e3, s3, r3⟩ := rI.yld i f2 st2 H2 I.items[i] x H3 eI s2 gd (by simp [hlt]) y
    have R3 : Rel K f2 (wipeE ρ vs) st2 (L2.wipe σ vs) H3 := (Rel.wipe R).later ((e1.trans eI).trans e3) s3
    refine ⟨f2, _, st2, I.items[i], _, R3, r3, q2, fun ρ4 st4 σ4 f4 H4 q4 e4 R4 o4 => ⟨Out.wipe ⟨o4.1, fun j hj => o4.2 j fun z => hj (hws j z)⟩, ?_⟩⟩
    refine ⟨f4, ρ4, st4, _, R4, q4, fun b st5 f5 H5 q5 e5 s5 => ?_⟩
    have e15 := e2.trans (e3.trans (e4.trans e5))
    cases b with
    | false =>
      obtain ⟨h1, h2⟩ := q5.2 rfl
      exact ⟨f5, st5, acc, e15, s5, h1, h2⟩
    | true =>
      refine ⟨f5, ρ4, st5, _, R4.later e5 s5, q5.1 rfl, fun y st6 v f6 H6 q6 e6 s6 r6 => ?_⟩
      obtain ⟨h1, h2, h3⟩ := q6
      have e16 := e15.trans e6
      obtain ⟨a', us, k1, k2, k3⟩ := s6.rdL h1
      rw [e16.at hn0] at k1; cases k1
      obtain ⟨s7, e7⟩ := s6.put (e16.at hn0) h1 k2 (k3.append (RDs.one r6))
      refine ⟨us, k2, by rw [k3.length, ← szl_eq]; exact h2, f6, _, acc ++ [y], e16.trans e7, s7, ?_, h3⟩
      have hl : st1.length < st6.length := (List.getElem?_eq_some_iff.mp h1).1
      unfold rdL
      rw [List.getElem?_set_self hl]
  · have e : i = I.items.length := by omega
    subst e
    rw [List.drop_length] at q2
    obtain ⟨gd, h1, h2⟩ := q2
    exact .inl ⟨rI.stop f2 st2 H2 eI s2 gd, l _ st2 _ f2 H2 h2 (e1.trans eI) s2 (RD.ref.mpr ⟨D, e2.at hn0, rfl⟩)⟩
theorem pd_lc {elt tg iter : Expr} {ifs : List Expr} {scope : Scope} {own : List (Str × Nat)} {wi : TI} {g : TG} {tt : TT} {te : TE} {ws : List Nat} (hc : X.calm = true) (hN : X.N.Nodup) (hi : PDI X tg iter wi) (ok : L2.BlkOk X.N X.env.scope scope own)
    (hg : ∀ (s : Shared) (H : Hp) (C : Addr) (cl : List (Str × Addr)) (fp : List Addr), PDG (X.blk s H scope (compEnvC scope cl C X.env) fp) tg g ws) (ht : ∀ (s : Shared) (H : Hp) (C : Addr) (cl : List (Str × Addr)) (fp : List Addr), PDTs (X.blk s H scope (compEnvC scope cl C X.env) fp) ifs tt)
    (he : ∀ (s : Shared) (H : Hp) (C : Addr) (cl : List (Str × Addr)) (fp : List Addr), PD (X.blk s H scope (compEnvC scope cl C X.env) fp) elt te) (hws : ∀ j, j ∈ ws → j ∈ own.map (·.2)) (hs : ∀ x, foldedSetIterable iter X.env x = pure x := by intro _; rfl) :
    PD X (.ListComp elt [⟨tg, iter, ifs, 0⟩] scope pos) (dLc wi g tt te (own.map (·.2))) :=
  pe_imp (L2.pe_lc hc hN hi ok hg ht he hs) fun σ H Q h => lc_core hws h
theorem ps_setLc {j : Nat} {y : Str} {py spos : Pos} {elt tg iter : Expr} {ifs : List Expr} {scope : Scope} {own : List (Str × Nat)} {wi : TI} {g : TG} {tt : TT} {te : TE} {ws : List Nat} (hc : X.calm = true) (hN : X.N.Nodup) (hy : X.N[j]? = some y) (hyl : X.env.scope.names.lookup y = some .local)
    (hsw : swapsWith (.ListComp elt [⟨tg, iter, ifs, 0⟩] scope pos) (some (.Name y py)) spos.line X.env = pure true) (hi : PDI X tg iter wi) (ok : L2.BlkOk X.N X.env.scope scope own)
    (hg : ∀ (s : Shared) (H : Hp) (C : Addr) (cl : List (Str × Addr)) (fp : List Addr), PDG (X.blk s H scope (compEnvC scope cl C X.env) fp) tg g ws) (ht : ∀ (s : Shared) (H : Hp) (C : Addr) (cl : List (Str × Addr)) (fp : List Addr), PDTs (X.blk s H scope (compEnvC scope cl C X.env) fp) ifs tt)
    (he : ∀ (s : Shared) (H : Hp) (C : Addr) (cl : List (Str × Addr)) (fp : List Addr), PD (X.blk s H scope (compEnvC scope cl C X.env) fp) elt te) (hws : ∀ j, j ∈ ws → j ∈ own.map (·.2)) (hs : ∀ x, foldedSetIterable iter X.env x = pure x := by intro _; rfl) :
    PDS X (.Assign [.Name y py] (.ListComp elt [⟨tg, iter, ifs, 0⟩] scope pos) spos) (sAsg (dLc wi g tt te (own.map (·.2))) (gName j)) :=
  ps_imp (L2.ps_setLc hc hN hy hyl hsw hi ok hg ht he hs) fun D σ H ⟨f, ρ, st, D', R, h, l⟩ =>
    lc_core (Q := fun x H1 => L2.gName j x σ H1 D.nx) hws ⟨f, ρ, st, _, R, h, fun x st1 v f1 H1 q e1 s1 r1 => l.nx _ st1 _ f1 H1 q e1 ((R.later e1 s1).put r1)⟩
end
end
end Pd
end PartPdSoundE

section PartPdSoundF
set_option Elab.async false
set_option linter.all false
set_option maxRecDepth 100000
set_option maxHeartbeats 1000000
/-! Pd over the hand layer: methods, isinstance, defs, the end. Own work. -/
namespace Pd
open PySem PySem.Spec
open PyProof.Rows (envOfC)
section
variable {X : L2.Cx} {K : Kf} {f f' : List Addr} {H H' : Hp} {st st' : Store} {ρ : Env} {σ : L2.St}
/-! ### methods -/
def RealM (K : Kf) (r : L2.V → List L2.V → Hp → L2.VK → Prop) (k : KM) : Prop := ∀ (f : List Addr) (st : Store) (H : Hp) (x : D) (xs : List D) (v : L2.V) (vs : List L2.V) (Q' : Pd.K) (Q : L2.VK), RelS K f st H → RD K f H x v → RDs K f H xs vs → k x xs st Q' → LQ K f H Q' Q → r v vs H Q
def RealTy (K : Kf) (T : String) (ty : D → Store → Prop) : Prop := ∀ (f : List Addr) (st : Store) (H : Hp) (x : D) (v : L2.V), RelS K f st H → RD K f H x v → ty x st → L2.tyV K T v H
section
variable {a b c e o i : Expr} {es : List Expr} {ta tb te to ti : TE} {pos apos : Pos} {name : Str} {T id : String}
theorem pd_m {r : L2.V → List L2.V → Hp → L2.VK → Prop} {k : KM} {ty : D → Store → Prop} {ts : TA} (hm : L2.MtR X id r) (hk : RealM X.K r k) (ht : RealTy X.K T ty) (pa : PlainAttrs T) (slot : Slot T name id) (hty : typeOf (.builtin id) = pure (.type "method_descriptor")) (ho : PD X o to) (ha : PDA X (e :: es) ts)
    (hbase : attributeBase o name X.env (eval o X.env) = eval o X.env := by rfl)
    (hfew : ((backTo pos (starEach (e :: es) X.env)).all (fun x => !x.1) && (backToKw pos (keywordEach [] X.env)).all (fun x => x.1.isSome)
      && decide ((e :: es).length + ([] : List Keyword).length + (if ([] : List Keyword).isEmpty then 0 else 1) < 30)) = true := by rfl)
    (hline : (apos.endLine == pos.line) = true := by rfl) (hs : starEach (e :: es) X.env = (false, eval e X.env) :: starEach es X.env := by rfl) (hplain : (backTo pos (starEach es X.env)).any (·.1) = false := by rfl) :
    PD X (.Call (.Attribute o name apos) (e :: es) [] pos) (dM ty k to ts) :=
  pe_imp (L2.pe_bm pa slot hty hm ho ha hbase hfew hline hs hplain) fun σ H Q ⟨f, ρ, st, Q', R, h, l⟩ => ⟨f, ρ, st, _, R, h, fun x st1 v f1 H1 q1 e1 s1 r1 => ⟨ht f1 st1 H1 x v s1 r1 q1.1, f1, ρ, st1, _, R.later e1 s1, q1.2, fun xs st2 vs f2 H2 q2 e2 s2 r2 => hk f2 st2 H2 x xs v vs Q' Q s2 (r1.mono e2) r2 q2 (l.later (e1.trans e2))⟩⟩
end
theorem ty_list : RealTy K "list" tyLst := fun f st H x v s r h => by
  cases x <;> try (exact h.elim)
  rw [RD.ref] at r
  obtain ⟨a, e, rfl⟩ := r
  obtain ⟨xs, h⟩ := h
  obtain ⟨a', vs, k1, k2, k3⟩ := s.rdL h
  rw [e] at k1; cases k1
  exact .inl ⟨rfl, vs, .of k2⟩
theorem ty_str : RealTy K "str" tyStr := fun f st H x v s r h => by
  cases x <;> try (exact h.elim)
  rw [RD.str] at r
  subst r
  rfl
theorem real_append : RealM K L2.rAppend appendM := fun f st H x xs v vs Q' Q s r1 r2 h l => by
  cases x <;> try (exact h.elim)
  match xs, h with
  | [], h => exact h.elim
  | _ :: _ :: _, h => exact h.elim
  | [y], h =>
    rw [RD.ref] at r1
    obtain ⟨a, e, rfl⟩ := r1
    obtain ⟨w, rfl, r3⟩ := r2.inv1
    obtain ⟨ys, h1, h2, h3⟩ := h
    obtain ⟨a', us, k1, k2, k3⟩ := s.rdL h1
    rw [e] at k1; cases k1
    obtain ⟨s', e'⟩ := s.put e h1 k2 (k3.append (RDs.one r3))
    exact ⟨a, us, w, rfl, rfl, k2, by rw [k3.length, ← szl_eq]; exact h2, l _ _ _ f _ h3 e' s' (RD.non.mpr rfl)⟩
theorem real_extend : RealM K L2.rExtend extendM := fun f st H x xs v vs Q' Q s r1 r2 h l => by
  cases x <;> try (exact h.elim)
  match xs, h with
  | [], h => exact h.elim
  | _ :: _ :: _, h => rename_i y _ _; cases y <;> exact h.elim
  | [.non], h => exact h.elim
  | [.bl _], h => exact h.elim
  | [.int _], h => exact h.elim
  | [.str _], h => exact h.elim
  | [.tup _], h => exact h.elim
  | [.ref m], h =>
    rw [RD.ref] at r1
    obtain ⟨a, e, rfl⟩ := r1
    obtain ⟨w, rfl, r3⟩ := r2.inv1
    rw [RD.ref] at r3
    obtain ⟨b, e2, rfl⟩ := r3
    obtain ⟨ys, zs, h1, h2, h3, h4, h5⟩ := h
    obtain ⟨a', us, k1, k2, k3⟩ := s.rdL h1
    obtain ⟨b', ws, j1, j2, j3⟩ := s.rdL h2
    rw [e] at k1; cases k1
    rw [e2] at j1; cases j1
    obtain ⟨s', e'⟩ := s.put e h1 k2 (k3.append j3)
    exact ⟨a, b, us, ws, rfl, rfl, k2, j2, by rw [k3.length, j3.length, ← szl_eq]; exact h4, l _ _ _ f _ h5 e' s' (RD.non.mpr rfl)⟩
theorem real_popAt : RealM K L2.rPopAt popM := fun f st H x xs v vs Q' Q s r1 r2 h l => by
  cases x <;> try (exact h.elim)
  match xs, h with
  | [], h => exact h.elim
  | _ :: _ :: _, h => rename_i y _ _; cases y <;> exact h.elim
  | [.non], h => exact h.elim
  | [.bl _], h => exact h.elim
  | [.ref _], h => exact h.elim
  | [.str _], h => exact h.elim
  | [.tup _], h => exact h.elim
  | [.int i], h =>
    rw [RD.ref] at r1
    obtain ⟨a, e, rfl⟩ := r1
    obtain ⟨w, rfl, r3⟩ := r2.inv1
    rw [RD.int] at r3
    subst r3
    obtain ⟨ys, d, h1, h2, h3, h4⟩ := h
    obtain ⟨a', us, k1, k2, k3⟩ := s.rdL h1
    rw [e] at k1; cases k1
    unfold atD at h3
    rw [if_pos h2.1] at h3
    have hl := (List.getElem?_eq_some_iff.mp h3).1
    obtain ⟨u, g1, g2⟩ := k3.get h3
    obtain ⟨s', e'⟩ := s.put e h1 k2 (k3.eraseIdx i.toNat)
    have hus := k3.length
    exact ⟨a, us, i, i.toNat, u, rfl, rfl, k2, by omega, by omega, seqIndex_of h2.1 (by omega), g1, l _ _ _ f _ h4 e' s' (g2.mono e')⟩
theorem real_index : RealM K (L2.rIndex K) indexM := fun f st H x xs v vs Q' Q s r1 r2 h l => by
  cases x <;> try (exact h.elim)
  match xs, h with
  | [], h => exact h.elim
  | _ :: _ :: _, h => exact h.elim
  | [y], h =>
    rw [RD.ref] at r1
    obtain ⟨a, e, rfl⟩ := r1
    obtain ⟨w, rfl, r3⟩ := r2.inv1
    obtain ⟨ys, j, z, h1, h2, h3, h4, h5, h6, h7⟩ := h
    obtain ⟨a', us, k1, k2, k3⟩ := s.rdA h1
    rw [e] at k1; cases k1
    obtain ⟨u, g1, g2⟩ := k3.get h4
    have fl : ∀ (m : Nat) (z : D), ys[m]? = some z → z.flat = true := fun m z hz => by
      rw [List.all_eq_true] at h3
      exact h3 z (List.mem_of_getElem? hz)
    refine ⟨a, us, w, j, u, rfl, rfl, k2, r3.flatV h2, k3.flatV h3, g1, by rw [g2.eqV r3 (fl j z h4) h2]; exact h5, fun m z' hm hz => ?_, l.now s h7 (RD.int.mpr rfl)⟩
    have hml : m < ys.length := by rw [← k3.length]; exact (List.getElem?_eq_some_iff.mp hz).1
    obtain ⟨u', g3, g4⟩ := k3.get (show ys[m]? = some ys[m] by simp [hml])
    rw [hz] at g3; cases g3
    rw [g4.eqV r3 (fl m _ (by simp [hml])) h2]
    exact h6 m _ hm (by simp [hml])

/-! ### the built-ins' values -/
theorem bt_int : bootBuiltins "int" = some (.type "int") := by decide +kernel
theorem bt_abs : bootBuiltins "abs" = some (.builtin "abs") := by decide +kernel
theorem bt_len : bootBuiltins "len" = some (.builtin "len") := by decide +kernel
theorem bt_min : bootBuiltins "min" = some (.builtin "min") := by decide +kernel
theorem bt_max : bootBuiltins "max" = some (.builtin "max") := by decide +kernel
theorem bt_list : bootBuiltins "list" = some (.type "list") := by decide +kernel
theorem bt_tuple : bootBuiltins "tuple" = some (.type "tuple") := by decide +kernel
theorem bt_sum : bootBuiltins "sum" = some (.builtin "sum") := by decide +kernel
theorem bt_all : bootBuiltins "all" = some (.builtin "all") := by decide +kernel
theorem bt_any : bootBuiltins "any" = some (.builtin "any") := by decide +kernel
theorem bt_sorted : bootBuiltins "sorted" = some (.builtin "sorted") := by decide +kernel
theorem bt_bool : bootBuiltins "bool" = some (.type "bool") := by decide +kernel
theorem bt_str : bootBuiltins "str" = some (.type "str") := by decide +kernel
theorem bt_repr : bootBuiltins "repr" = some (.builtin "repr") := by decide +kernel
theorem bt_set : bootBuiltins "set" = some (.type "set") := by decide +kernel
theorem bt_dict : bootBuiltins "dict" = some (.type "dict") := by decide +kernel

/-! ### isinstance -/
def tyN : Ty → String
  | .int => "int" | .bool => "bool" | .str => "str" | .tuple => "tuple" | .list => "list"
theorem SqT.ty {a : Addr} {vs : List L2.V} (h : L2.SqT K H a vs) : L2.TyX K H (.ref a) (.type "tuple") := by
  rcases h with (h | ⟨o, h⟩) | ⟨o, its, n, h1, h2, _⟩
  · exact .base (.tup h)
  · exact .fTuple h
  · exact .kTuple h1 h2
theorem isTy_kit {x : D} {v : L2.V} {t : Ty} {Q' : Bool → Prop} (s : RelS K f st H) (r : RD K f H x v) (h : isTy x st t Q') : ∃ (u : Value) (b : Bool), L2.TyX K H v u ∧ PySem.W.kitOne K u (.type (tyN t)) = some b ∧ Q' b := by
  cases x with
  | non => rw [RD.non] at r; subst r; exact ⟨_, false, .base .non, L2.kit_ty (by cases t <;> decide +kernel), h⟩
  | bl b => rw [RD.bl] at r; subst r; exact ⟨_, _, .base (.bl b), L2.kit_ty (by cases t <;> decide +kernel), h⟩
  | int i => rw [RD.int] at r; subst r; exact ⟨_, _, .base (.int i), L2.kit_ty (by cases t <;> decide +kernel), h⟩
  | str y => rw [RD.str] at r; subst r; exact ⟨_, _, .base (.str y), L2.kit_ty (by cases t <;> decide +kernel), h⟩
  | tup xs =>
    rw [RD.tup] at r
    obtain ⟨a, vs, rfl, q, d⟩ := r
    exact ⟨_, _, SqT.ty q, L2.kit_ty (by cases t <;> decide +kernel), h⟩
  | ref n =>
    rw [RD.ref] at r
    obtain ⟨a, e, rfl⟩ := r
    obtain ⟨xs, h1, h2⟩ := h
    obtain ⟨a', vs, k1, k2, k3⟩ := s.rdL h1
    rw [e] at k1; cases k1
    exact ⟨_, _, .base (.lst k2), L2.kit_ty (by cases t <;> decide +kernel), h2⟩
theorem pd_isi {a : Expr} {ta : TE} {p pos q : Pos} {T : Str} (t : Ty) (hg : L2.Gl X "isinstance") (hm : X.mg "isinstance" = none) (hT : T = Str.ofString (tyN t)) (hgT : L2.Gl X T) (hmT : X.mg T = none) (hv : bootBuiltins T = some (.type (tyN t))) (ha : PD X a ta)
    (hs : starEach [a, .Name T q] X.env = (false, eval a X.env) :: starEach [.Name T q] X.env := by rfl) : PD X (.Call (.Name "isinstance" p) [a, .Name T q] [] pos) (dIsi t ta) := by
  have hT1 : T ≠ "__name__" := by rw [hT]; cases t <;> decide
  have hT2 : (T == ("__debug__" : Str)) = false := by rw [hT]; cases t <;> decide
  have pT : L2.PE X (.Name T q) (L2.tC (.ty (tyN t))) := L2.pe_bltn hgT hmT hv rfl hT1 hT2
  refine pe_imp (L2.pe_callB L2.call_isi hg hm (by decide +kernel) (L2.pa_cons ha (L2.pa_cons pT L2.pa_nil rfl) hs) (by decide) (by decide) hs rfl) fun σ H Q ⟨f, ρ, st, Q', R, h, l⟩ => ⟨f, ρ, st, _, R, h, fun x st1 v f1 H1 q1 e1 s1 r1 => ?_⟩
  obtain ⟨u, b, h1, h2, h3⟩ := isTy_kit s1 r1 q1
  exact ⟨v, .ty (tyN t), u, _, b, rfl, .ty _, h1, h2, l _ st1 _ f1 H1 h3 e1 s1 (RD.bl.mpr rfl)⟩

/-! ### defs -/
theorem start_rel {n : Nat} {ds : List D} {vs : List L2.V} {N : List Str} (s : RelS K f st H) (r : RDs K f H ds vs) (hn : n = N.length) : Rel K f (start n ds) st (L2.start N vs) H := by
  have hl := r.length
  have lk_app : ∀ (ds : List D) (m i : Nat) (d : D), lk (ds.map some ++ List.replicate m none) i = some d → ds[i]? = some d := by
    intro ds
    induction ds with
    | nil =>
      intro m
      induction m with
      | zero => intro i d h; simp [lk] at h
      | succ m ih =>
        intro i d h
        cases i with
        | zero => simp [lk, List.replicate_succ] at h
        | succ i =>
          have := ih i d (by simpa [lk, List.replicate_succ] using h)
          simp at this
    | cons x ds ih =>
      intro m i d h
      cases i with
      | zero => simpa [lk] using h
      | succ i =>
        have := ih m i d (by simpa [lk] using h)
        simpa using this
  refine ⟨s, fun i d h => ?_, ?_⟩
  · have hd := lk_app ds _ i d h
    obtain ⟨v, h1, h2⟩ := r.get hd
    refine ⟨v, ?_, h2⟩
    unfold L2.start
    have hi := (List.getElem?_eq_some_iff.mp h1).1
    rw [List.getElem?_append_left (by simpa using hi), List.getElem?_map, h1]
    rfl
  · unfold start L2.start
    simp only [List.length_append, List.length_map, List.length_replicate]
    omega
/-- the def's own facts, and that its body keeps what is run -/
structure Step (P : Program) (w : World) (K : Kf) (mg : Str → Option Value) (base : Heap) (names : List String) (x : String) (d : Def) : Prop where
  ex : ∃ (fa : Addr) (fd : FuncData) (ps : List Str), mg x = some (.ref fa) ∧ PySem.W.keepIn K (.ref fa) = true ∧ L2.Binds K fd ps [] ∧ d.ps = ps.length ∧
    ∀ (k : Nat) (c : Cl), (∀ y ∈ names, Own P w K mg base k (Str.ofString y) (c y)) → L2.FnOk P w K mg base L2.CX0 (k + 1) fa fd ps (liftF K ps.length (d.run c))
variable {P : Program} {w : World} {mg : Str → Option Value} {base : Heap} {names : List String}
theorem fn_ok {qual x : Str} {sm : Stmt} {fa : Addr} {fd : FuncData} {N ps : List Str} {k : Nat} {d : Def} {c : Cl} (F : L2.Fun K x qual sm fa fd) (S : L2.FnScope N ps (L2.defScope sm)) (hn : d.ns = N.length) (hp : d.ps = ps.length)
    (der : ∀ (cdv : Value) (A : Around) (outer : List PySem.Env) (s : Shared) (H : Hp) (E : L2.XK), L2.Room k (A.deeper (envOfC qual (L2.defScope sm) s.heap.objs.size fa cdv)) →
      PDSs (L2.cxOf L2.CX0 P w K mg base N qual (L2.defScope sm) fa cdv A outer s H E).nox (L2.defBody sm) (d.body c)) : L2.FnOk P w K mg base L2.CX0 (k + 1) fa fd ps (liftF K ps.length (d.run c)) := by
  refine F.ok S (fun vs H Q E h => h.1) (fun cdv A outer s H vs Q E hr h => ⟨_, der cdv A outer s H E hr, ?_⟩)
  obtain ⟨_, f, st, ds, Q', s', r, ⟨hl, h⟩, l⟩ := h
  refine ⟨f, start d.ns ds, st, _, start_rel s' r hn, h, ?_⟩
  exact ⟨fun ρ1 st1 σ1 f1 H1 q e r1 => l .non st1 .non f1 H1 q e r1.toRelS (RD.non.mpr rfl), l, fun _ _ _ _ _ q _ _ => q, fun _ _ _ _ _ q _ _ => q⟩
theorem fn_zero {fa : Addr} {fd : FuncData} {ps : List Str} {n : Nat} : L2.FnOk P w K mg base L2.CX0 0 fa fd ps (liftF K n fun _ _ _ => False) :=
  ⟨fun vs H Q E h => by obtain ⟨_, _, _, _, _, _, _, h, _⟩ := h; exact h.elim, fun A outer s H args us vs Q E hr e0 hb hv h => by obtain ⟨_, _, _, _, _, _, _, h, _⟩ := h; exact h.elim⟩
theorem all_own {prog : String → Option Def} (hs : ∀ x ∈ names, ∃ d, prog x = some d ∧ Step P w K mg base names x d) : ∀ (k : Nat) (x : String), x ∈ names → Own P w K mg base k (Str.ofString x) (callN prog k x)
  | 0, x, hx => by
    obtain ⟨d, h1, fa, fd, ps, h2, h3, h4, h5, h6⟩ := hs x hx
    exact ⟨fa, fd, ps, fn_zero, h2, h3, h4, fun _ _ _ h => h.elim⟩
  | k + 1, x, hx => by
    obtain ⟨d, h1, fa, fd, ps, h2, h3, h4, h5, h6⟩ := hs x hx
    refine ⟨fa, fd, ps, (h6 k _ fun y hy => all_own hs k y hy).imp fun vs H Q E ⟨g0, f, st, ds, Q', s, r, ⟨d', e', g⟩, l⟩ => ?_, h2, h3, h4, fun ds st Q ⟨d', e', g⟩ => ?_⟩
    · rw [h1] at e'; cases e'
      exact ⟨g0, f, st, ds, Q', s, r, g, l⟩
    · rw [h1] at e'; cases e'
      exact g.1.trans h5
/-- the law's call, from the data-level statement -/
theorem law_sp {c : List D → Store → Pd.K → Prop} {H : Hp} {a : Addr} {ns : List Int} (h : c [.ref 0] [.frz (ns.map D.int)] fun d _ => d = .bl true) (hO : L2.Only H) (hS : L2.SqL K H a (ns.map L2.V.int)) : liftF K 1 c [.ref a] H (fun v _ => v = .bl true) fun _ _ _ => False := by
  refine ⟨rfl, [a], [.frz (ns.map D.int)], [.ref 0], _, ⟨rfl, fun n m c c' b h1 h2 m1 m2 h3 h4 => ?_, fun n c' b h1 h2 => ?_⟩, RDs.one (RD.ref.mpr ⟨a, rfl, rfl⟩), h, fun d st' v f' H' q e s r => ?_⟩
  · match n, h1 with
    | 0, h1 => simp at h1; subst h1; cases m1
    | n + 1, h1 => simp at h1
  · match n, h1, h2 with
    | 0, h1, h2 =>
      simp at h1 h2
      subst h1; subst h2
      refine ⟨ns.map L2.V.int, ?_, RDs.of_ints ns⟩
      rcases hS with (hS | ⟨o, hS⟩) | hS
      · rcases hO a with q | ⟨o, xs, q⟩ <;> rw [q] at hS <;> cases hS
      · exact .inl ⟨o, hS⟩
      · exact .inr hS
    | n + 1, h1, _ => simp at h1
  · subst q
    rw [RD.bl] at r
    exact r
end
end Pd
end PartPdSoundF

section PartPdTac
set_option Elab.async false
set_option linter.all false
set_option maxRecDepth 100000
/-! Pd: how a data-level statement is walked. Own work. -/
namespace Pd
open PySem

/-- one step of a reading: it suffices to show P' -/
class Red (P : Prop) (P' : outParam Prop) : Prop where
  red : P' → P
/-- look-up and store of slots, by the environment's shape -/
class Lk (σ : Env) (i : Nat) (d : outParam D) : Prop where
  eq : lk σ i = some d
class SetE (σ : Env) (i : Nat) (d : Option D) (σ' : outParam Env) : Prop where
  eq : σ.set i d = σ'
instance : Lk (some d :: σ) 0 d := ⟨rfl⟩
instance [h : Lk σ n d] : Lk (x :: σ) (n + 1) d := ⟨h.eq⟩
instance : SetE (x :: σ) 0 d (d :: σ) := ⟨rfl⟩
instance [h : SetE σ n d σ'] : SetE (x :: σ) (n + 1) d (x :: σ') := ⟨by rw [List.set_cons_succ, h.eq]⟩
class WipeE (σ : Env) (vs : List Nat) (σ' : outParam Env) : Prop where
  eq : wipeE σ vs = σ'
instance : WipeE σ [] σ := ⟨rfl⟩
instance [h : WipeE σ vs σ'] [h2 : SetE σ' v none σ''] : WipeE σ (v :: vs) σ'' := ⟨by show (wipeE σ vs).set v none = σ''; rw [h.eq, h2.eq]⟩

section
variable {σ σ' : Env} {st st' : Store} {Q : K} {d x y z : D} {ta tb tc te to ti : TE} {T U : TT} {Ar Br : TA} {D0 : Ends} {S S' : TS} {xs ys : List D}
-- statements
instance : Red (sSeq S S' D0 σ st) (S { D0 with nx := fun σ' st' => Nxt (S' D0 σ' st') } σ st) := ⟨id⟩
instance : Red (sNext D0 σ st) (D0.nx σ st) := ⟨id⟩
instance : Red (sBreak D0 σ st) (D0.bk σ st) := ⟨id⟩
instance : Red (sCont D0 σ st) (D0.ct σ st) := ⟨id⟩
instance : Red (sExpr te D0 σ st) (te σ st fun _ st1 => D0.nx σ st1) := ⟨id⟩
instance : Red (sRet te D0 σ st) (te σ st D0.rt) := ⟨id⟩
instance : Red (sRetN D0 σ st) (D0.rt .non st) := ⟨id⟩
instance : Red (sIf T S S' D0 σ st) (T σ st fun b st1 => (b = true → S D0 σ st1) ∧ (b = false → S' D0 σ st1)) := ⟨id⟩
instance {g : TG} : Red (sAsg te g D0 σ st) (te σ st fun x st1 => g x σ st1 D0.nx) := ⟨id⟩
instance : Red (sPar i j Ar D0 σ st) (Ar σ st fun xs st1 => ∃ x y, xs = [x, y] ∧ D0.nx ((σ.set i (some x)).set j (some y)) st1) := ⟨id⟩
instance [h : Lk σ i x] : Red (sAug i k te D0 σ st) (te σ st fun y st1 => k x y st1 fun z st2 => gName i z σ st2 D0.nx) := ⟨fun p => ⟨x, h.eq, p⟩⟩
instance : Red (sAugL k to ti te D0 σ st) (to σ st fun o st1 => ti σ st1 fun i st2 => ixLK o i st2 fun x st3 => te σ st3 fun y st4 => k x y st4 fun z st5 => setK o i z st5 fun st6 => D0.nx σ st6) := ⟨id⟩
instance {i : TI} {g : TG} : Red (sFor i g S D0 σ st) (i σ st fun I st1 => forLoop I.guard g S D0 I.items σ st1) := ⟨id⟩
-- targets
instance {q : Env → Store → Prop} [h : SetE σ i (some d) σ'] : Red (gName i d σ st q) (q σ' st) := ⟨fun p => by show q (σ.set i (some d)) st; rw [h.eq]; exact p⟩
instance {q : Env → Store → Prop} : Red (gSub to ti d σ st q) (to σ st fun o st1 => ti σ st1 fun i st2 => setK o i d st2 fun st3 => q σ st3) := ⟨id⟩
instance {q : Env → Store → Prop} {gs : TGs} : Red (gTup gs n (.tup xs) σ st q) (xs.length = n ∧ gs xs σ st q) := ⟨fun p => ⟨xs, rfl, p⟩⟩
instance {q : Env → Store → Prop} : Red (gsNil [] σ st q) (q σ st) := ⟨fun p => ⟨rfl, p⟩⟩
instance {q : Env → Store → Prop} {g : TG} {gs : TGs} : Red (gsCons g gs (d :: xs) σ st q) (g d σ st fun σ1 st1 => gs xs σ1 st1 q) := ⟨fun p => ⟨d, xs, rfl, p⟩⟩
-- expressions
instance : Red (dC d σ st Q) (Q d st) := ⟨id⟩
instance [h : Lk σ i d] : Red (dVar i σ st Q) (Q d st) := ⟨fun p => ⟨d, h.eq, p⟩⟩
instance : Red (dOp k ta tb σ st Q) (ta σ st fun x st1 => tb σ st1 fun y st2 => k x y st2 Q) := ⟨id⟩
instance : Red (dUn k ta σ st Q) (ta σ st fun x st1 => k x st1 Q) := ⟨id⟩
instance : Red (dCmp k ta tb σ st Q) (ta σ st fun x st1 => tb σ st1 fun y st2 => k x y st2 fun b => Q (.bl b) st2) := ⟨id⟩
instance : Red (dChain k k' ta tb tc σ st Q) (ta σ st fun x st1 => tb σ st1 fun y st2 => k x y st2 fun b => (b = true → tc σ st2 fun z st3 => k' y z st3 fun b' => Q (.bl b') st3) ∧ (b = false → Q (.bl false) st2)) := ⟨id⟩
instance : Red (dAndT ta tb σ st Q) (ta σ st fun x st1 => truK x st1 fun c => (c = true → tb σ st1 Q) ∧ (c = false → Q x st1)) := ⟨id⟩
instance : Red (dOrT ta tb σ st Q) (ta σ st fun x st1 => truK x st1 fun c => (c = true → Q x st1) ∧ (c = false → tb σ st1 Q)) := ⟨id⟩
instance : Red (dNotT ta σ st Q) (ta σ st fun x st1 => truK x st1 fun c => Q (.bl (!c)) st1) := ⟨id⟩
instance : Red (dIf T ta tb σ st Q) (T σ st fun k st1 => (k = true → ta σ st1 Q) ∧ (k = false → tb σ st1 Q)) := ⟨id⟩
instance : Red (dSl te tl th σ st Q) (te σ st fun x st1 => tl σ st1 fun lo st2 => th σ st2 fun hi st3 => slK x lo hi st3 Q) := ⟨id⟩
instance {q : Option Int → Store → Prop} : Red (oNone σ st q) (q none st) := ⟨id⟩
instance {q : Option Int → Store → Prop} : Red (oSome te σ st q) (te σ st fun x st1 => ∃ i, x = .int i ∧ q (some i) st1) := ⟨id⟩
instance {q : List D → Store → Prop} : Red (aNil σ st q) (q [] st) := ⟨id⟩
instance {q : List D → Store → Prop} : Red (aCons te Ar σ st q) (te σ st fun x st1 => Ar σ st1 fun xs st2 => q (x :: xs) st2) := ⟨id⟩
instance : Red (dTup Ar σ st Q) (Ar σ st fun xs st1 => xs.length ≤ szl ∧ Q (.tup xs) st1) := ⟨id⟩
instance : Red (dLst Ar σ st Q) (Ar σ st fun xs st1 => xs.length ≤ szl ∧ Q (.ref st1.length) (st1 ++ [.lst xs])) := ⟨id⟩
instance : Red (dCall c f Ar σ st Q) (Ar σ st fun xs st1 => c f xs st1 Q) := ⟨id⟩
instance : Red (dB k Ar σ st Q) (Ar σ st fun xs st1 => k xs st1 Q) := ⟨id⟩
instance : Red (dM ty k to Ar σ st Q) (to σ st fun o st1 => ty o st1 ∧ Ar σ st1 fun xs st2 => k o xs st2 Q) := ⟨id⟩
instance : Red (dIsi t te σ st Q) (te σ st fun x st1 => isTy x st1 t fun b => Q (.bl b) st1) := ⟨id⟩
instance {i : TI} {g : TG} [h : WipeE σ vs σ'] : Red (dLc i g T te vs σ st Q) (i σ st fun I st1 => lcLoop I.guard g T te σ' st1.length Q I.items [] (st1 ++ [.lst []])) := ⟨fun p => by unfold dLc; rw [h.eq]; exact p⟩
-- tests
instance {q : Bool → Store → Prop} : Red (tTru te σ st q) (te σ st fun x st1 => truK x st1 fun b => q b st1) := ⟨id⟩
instance {q : Bool → Store → Prop} : Red (tAnd T U σ st q) (T σ st fun c st1 => (c = true → U σ st1 q) ∧ (c = false → q false st1)) := ⟨id⟩
instance {q : Bool → Store → Prop} : Red (tOr T U σ st q) (T σ st fun c st1 => (c = true → q true st1) ∧ (c = false → U σ st1 q)) := ⟨id⟩
instance {q : Bool → Store → Prop} : Red (tNot T σ st q) (T σ st fun c st1 => q (!c) st1) := ⟨id⟩
instance {q : Bool → Store → Prop} : Red (tYes σ st q) (q true st) := ⟨id⟩
-- iterables
instance {R : Iter → Store → Prop} : Red (iSeq te σ st R) (te σ st fun x st1 => itK x st1 R) := ⟨id⟩
instance {R : Iter → Store → Prop} : Red (iR1 te σ st R) (te σ st fun x st1 => ∃ j, x = .int j ∧ -(2 ^ 62) ≤ j ∧ j < 2 ^ 62 ∧ R ⟨rng 0 j.toNat, fun _ => True⟩ st1) := ⟨id⟩
instance {R : Iter → Store → Prop} : Red (iR2 ta tb σ st R) (ta σ st fun x st1 => tb σ st1 fun y st2 => ∃ i j, x = .int i ∧ y = .int j ∧ (-(2 ^ 62) ≤ i ∧ i < 2 ^ 62 ∧ -(2 ^ 62) ≤ j ∧ j < 2 ^ 62) ∧ R ⟨rng i (j - i).toNat, fun _ => True⟩ st2) := ⟨id⟩
instance {R : Iter → Store → Prop} : Red (iZip2 ta tb σ st R) (ta σ st fun x st1 => tb σ st1 fun y st2 => zipK x y st2 R) := ⟨id⟩
instance {R : Iter → Store → Prop} : Red (itK (.tup xs) st R) (R ⟨xs, fun _ => True⟩ st) := ⟨id⟩
instance {R : Iter → Store → Prop} : Red (zipK (.tup xs) (.tup ys) st R) (R ⟨zipD xs ys, fun _ => True⟩ st) := ⟨id⟩
-- values
section
variable {a b : Int} {u v : Str} {p q : Bool}
instance : Red (addK (.int a) (.int b) st Q) (Q (.int (a + b)) st) := ⟨id⟩
instance : Red (addK (.tup xs) (.tup ys) st Q) (xs.length + ys.length ≤ szl ∧ Q (.tup (xs ++ ys)) st) := ⟨id⟩
instance : Red (addK (.str u) (.str v) st Q) (u.length + v.length ≤ szl ∧ Q (.str (u ++ v)) st) := ⟨id⟩
instance : Red (iaddK (.int a) (.int b) st Q) (Q (.int (a + b)) st) := ⟨id⟩
instance : Red (subK (.int a) (.int b) st Q) (Q (.int (a - b)) st) := ⟨id⟩
instance : Red (mulK (.int a) (.int b) st Q) (cMul a b ∧ Q (.int (a * b)) st) := ⟨id⟩
instance : Red (fdivK (.int a) (.int b) st Q) ((0 < b ∧ b < 1073741824) ∧ Q (.int (a / b)) st) := ⟨id⟩
instance : Red (modK (.int a) (.int b) st Q) (0 < b ∧ Q (.int (a % b)) st) := ⟨id⟩
instance : Red (powK (.int a) (.int b) st Q) (cPow a b ∧ Q (.int (a ^ b.toNat)) st) := ⟨id⟩
instance : Red (shlK (.int a) (.int b) st Q) (cPow a b ∧ Q (.int (a * 2 ^ b.toNat)) st) := ⟨id⟩
instance : Red (shrK (.int a) (.int b) st Q) (0 ≤ b ∧ Q (.int (a / 2 ^ b.toNat)) st) := ⟨id⟩
instance : Red (andK (.int a) (.int b) st Q) (Q (.int (Builtin.bitAnd a b)) st) := ⟨id⟩
instance : Red (orK (.int a) (.int b) st Q) (Q (.int (Builtin.bitOr a b)) st) := ⟨id⟩
instance : Red (xorK (.int a) (.int b) st Q) (Q (.int (Builtin.bitXor a b)) st) := ⟨id⟩
instance : Red (negK (.int a) st Q) (Q (.int (-a)) st) := ⟨id⟩
instance : Red (invK (.int a) st Q) (Q (.int (Builtin.bitNot a)) st) := ⟨id⟩
instance {r : Bool → Prop} : Red (ltC (.int a) (.int b) st r) (r (decide (a < b))) := ⟨id⟩
instance {r : Bool → Prop} : Red (leC (.int a) (.int b) st r) (r (decide (a ≤ b))) := ⟨id⟩
instance {r : Bool → Prop} : Red (gtC (.int a) (.int b) st r) (r (decide (b < a))) := ⟨id⟩
instance {r : Bool → Prop} : Red (geC (.int a) (.int b) st r) (r (decide (b ≤ a))) := ⟨id⟩
theorem eq_ii {r : Bool → Prop} (h : r (decide (a = b))) : eqC (.int a) (.int b) st r := by
  have e : D.eqb (.int a) (.int b) = decide (a = b) := by
    simp only [D.eqb]
    by_cases e : a = b <;> simp [e]
  refine ⟨by simp [D.okd], by simp [D.okd], ?_⟩
  rw [e]; exact h
theorem eq_ss {r : Bool → Prop} (h : okS u = true ∧ okS v = true ∧ r (decide (u = v))) : eqC (.str u) (.str v) st r := by
  refine ⟨by simpa [D.okd] using h.1, by simpa [D.okd] using h.2.1, ?_⟩
  simpa [D.eqb] using h.2.2
instance {r : Bool → Prop} : Red (eqC (.int a) (.int b) st r) (r (decide (a = b))) := ⟨eq_ii⟩
instance {r : Bool → Prop} : Red (neC (.int a) (.int b) st r) (r (!decide (a = b))) := ⟨fun h => eq_ii (r := fun b => r (!b)) h⟩
instance {r : Bool → Prop} : Red (eqC (.str u) (.str v) st r) (okS u = true ∧ okS v = true ∧ r (decide (u = v))) := ⟨eq_ss⟩
instance {r : Bool → Prop} : Red (neC (.str u) (.str v) st r) (okS u = true ∧ okS v = true ∧ r (!decide (u = v))) := ⟨fun h => eq_ss (r := fun b => r (!b)) h⟩
instance {r : Bool → Prop} : Red (isC x .non st r) (r (isNon x)) := ⟨fun h => by cases x <;> exact h⟩
instance {r : Bool → Prop} : Red (isntC x .non st r) (r (!isNon x)) := ⟨fun h => by cases x <;> exact h⟩
instance {r : Bool → Prop} : Red (truK (.bl p) st r) (r p) := ⟨id⟩
instance {r : Bool → Prop} : Red (truK (.int a) st r) (r (a != 0)) := ⟨id⟩
instance {r : Bool → Prop} : Red (truK .non st r) (r false) := ⟨id⟩
instance {r : Bool → Prop} : Red (truK (.tup xs) st r) (r (!xs.isEmpty)) := ⟨id⟩
instance : Red (ixK (.tup xs) (.int a) st Q) (∃ d, atD xs a = some d ∧ Q d st) := ⟨id⟩
instance : Red (slK (.tup xs) lo hi st Q) (Q (.tup (cutD xs lo hi)) st) := ⟨id⟩
instance : Red (intB [.int a] st Q) (Q (.int a) st) := ⟨id⟩
instance : Red (intB [.bl p] st Q) (Q (.int (b2i p)) st) := ⟨id⟩
instance : Red (absB [.int a] st Q) (Q (.int (if a < 0 then -a else a)) st) := ⟨id⟩
instance : Red (lenB [.tup xs] st Q) (Q (.int xs.length) st) := ⟨id⟩
instance : Red (min2B [.int a, .int b] st Q) (Q (.int (if b < a then b else a)) st) := ⟨id⟩
instance : Red (max2B [.int a, .int b] st Q) (Q (.int (if b > a then b else a)) st) := ⟨id⟩
instance : Red (listB [.tup xs] st Q) (Q (.ref st.length) (st ++ [.lst xs])) := ⟨id⟩
instance : Red (tupleB [.tup xs] st Q) (Q (.tup xs) st) := ⟨id⟩
instance {r : Bool → Prop} : Red (isTy (.int a) st t r) (r (decide (t = .int))) := ⟨id⟩
instance {r : Bool → Prop} : Red (isTy (.bl p) st t r) (r (decide (t = .bool) || decide (t = .int))) := ⟨id⟩
instance {r : Bool → Prop} : Red (isTy (.tup xs) st t r) (r (decide (t = .tuple))) := ⟨id⟩
instance {r : Bool → Prop} : Red (isTy .non st t r) (r false) := ⟨id⟩
instance {P : Int → Prop} : Red (∃ i, D.int a = D.int i ∧ P i) (P a) := ⟨fun h => ⟨a, rfl, h⟩⟩
instance {P : Int → Int → Prop} : Red (∃ i j, D.int a = D.int i ∧ D.int b = D.int j ∧ P i j) (P a b) := ⟨fun h => ⟨a, b, rfl, rfl, h⟩⟩
-- known ways
instance {A B : Prop} : Red ((true = true → A) ∧ (true = false → B)) A := ⟨fun h => ⟨fun _ => h, fun e => nomatch e⟩⟩
instance {A B : Prop} : Red ((false = true → A) ∧ (false = false → B)) B := ⟨fun h => ⟨fun e => (nomatch e), fun _ => h⟩⟩
end
end

/-! lemmas for what is open -/
theorem way {b : Bool} {A B : Prop} (h1 : b = true → A) (h2 : b = false → B) : (b = true → A) ∧ (b = false → B) := ⟨h1, h2⟩
theorem wayT {b : Bool} {A B : Prop} (h : b = true) (h1 : A) : (b = true → A) ∧ (b = false → B) := ⟨fun _ => h1, fun e => by rw [h] at e; cases e⟩
theorem wayF {b : Bool} {A B : Prop} (h : b = false) (h1 : B) : (b = true → A) ∧ (b = false → B) := ⟨fun e => (by rw [h] at e; cases e), fun _ => h1⟩
/-- where ways meet: J holds there -/
theorem seq_cut {S S' : TS} {D0 : Ends} {σ : Env} {st : Store} (J : Env → Store → Prop) (h : ∀ N : Env → Store → Prop, (∀ σ st, J σ st → N σ st) → S { D0 with nx := N } σ st) (hJ : ∀ σ st, J σ st → S' D0 σ st) : sSeq S S' D0 σ st := h _ fun σ st j => ⟨hJ σ st j⟩
class StartE (n : Nat) (ds : List D) (σ : outParam Env) : Prop where
  eq : start n ds = σ
instance : StartE 0 [] [] := ⟨rfl⟩
instance [h : StartE n [] σ] : StartE (n + 1) [] (none :: σ) := ⟨by rw [← h.eq]; unfold start; simp [List.replicate_succ]⟩
instance [h : StartE n ds σ] : StartE (n + 1) (d :: ds) (some d :: σ) := ⟨by rw [← h.eq]; unfold start; simp⟩
/-- a call of a def of the program -/
theorem call_intro {prog : String → Option Def} {k : Nat} {f : String} {ds : List D} {st : Store} {Q : K} {ps ns : Nat} {body : Cl → TS} {σ : Env} (h : prog f = some ⟨ps, ns, body⟩) (hl : ds.length = ps) [hσ : StartE ns ds σ] (hb : body (callN prog k) { nx := fun _ st' => Q .non st', rt := Q } σ st) : callN prog (k + 1) f ds st Q :=
  ⟨_, h, hl, by rw [hσ.eq]; exact hb⟩

/-! ### loops -/
/-- a for by an invariant over the items gone through; N: what the body is to reach -/
theorem for_inv {gd : Store → Prop} {g : TG} {tb : TS} {D0 : Ends} (Pv : List D → Env → Store → Prop) {items : List D} 
    (hs : ∀ pre x post σ st, items = pre ++ x :: post → Pv pre σ st → ∀ N : Env → Store → Prop, (∀ σ st, Pv (pre ++ [x]) σ st → N σ st) → gd st ∧ g x σ st fun σ2 st2 => tb { D0 with nx := N, ct := N, bk := D0.nx } σ2 st2)
    (hd : ∀ σ st, Pv items σ st → gd st ∧ D0.nx σ st) : ∀ (todo pre : List D) {σ : Env} {st : Store}, items = pre ++ todo → Pv pre σ st → forLoop gd g tb D0 todo σ st
  | [], pre, σ, st, e, h => by
    rw [List.append_nil] at e
    subst e
    exact hd σ st h
  | x :: post, pre, σ, st, e, h => hs pre x post σ st e h _ fun σ st h' => for_inv Pv hs hd post (pre ++ [x]) (by rw [e]; simp) h'
theorem for_by {gd : Store → Prop} {g : TG} {tb : TS} {D0 : Ends} {items : List D} {σ : Env} {st : Store} (Pv : List D → Env → Store → Prop) (h0 : Pv [] σ st)
    (hs : ∀ pre x post σ st, items = pre ++ x :: post → Pv pre σ st → ∀ N : Env → Store → Prop, (∀ σ st, Pv (pre ++ [x]) σ st → N σ st) → gd st ∧ g x σ st fun σ2 st2 => tb { D0 with nx := N, ct := N, bk := D0.nx } σ2 st2)
    (hd : ∀ σ st, Pv items σ st → gd st ∧ D0.nx σ st) : forLoop gd g tb D0 items σ st := for_inv Pv hs hd items [] rfl h0
/-- over range(n) -/
theorem for_rng {gd : Store → Prop} {g : TG} {tb : TS} {D0 : Ends} {lo : Int} {n : Nat} {σ : Env} {st : Store} (Pv : Nat → Env → Store → Prop) (h0 : Pv 0 σ st)
    (hs : ∀ k σ st, k < n → Pv k σ st → ∀ N : Env → Store → Prop, (∀ σ st, Pv (k + 1) σ st → N σ st) → gd st ∧ g (.int (lo + k)) σ st fun σ2 st2 => tb { D0 with nx := N, ct := N, bk := D0.nx } σ2 st2)
    (hd : ∀ σ st, Pv n σ st → gd st ∧ D0.nx σ st) : forLoop gd g tb D0 (rng lo n) σ st := by
  refine for_by (fun pre σ st => Pv pre.length σ st) h0 (fun pre x post σ st e h N hN => ?_) (fun σ st h => hd σ st (by simpa [rng] using h))
  have hl : pre.length < n := by
    have := congrArg List.length e
    simp [rng] at this
    omega
  have hx : x = .int (lo + pre.length) := by
    have h2 : (rng lo n)[pre.length]? = some x := by rw [e]; simp
    unfold rng at h2
    rw [List.getElem?_map, List.getElem?_range hl] at h2
    simpa using h2.symm
  subst hx
  exact hs pre.length σ st hl h N fun σ st h' => hN σ st (by simpa using h')
/-- a comprehension by an invariant; N: behind the element, M: where a test leaves it out -/
theorem lc_inv {gd : Store → Prop} {g : TG} {tt : TT} {te : TE} {ρ : Env} {n : Nat} {Q : K} (Pv : List D → List D → Store → Prop) {items : List D}
    (hs : ∀ pre x post acc st, items = pre ++ x :: post → Pv pre acc st → ∀ (N : D → Store → Prop) (M : Store → Prop), (∀ y st', rdL st' n acc → acc.length < szl → Pv (pre ++ [x]) (acc ++ [y]) (st'.set n (.lst (acc ++ [y]))) → N y st') → (∀ st', rdL st' n acc → Pv (pre ++ [x]) acc st' → M st') →
      gd st ∧ g x ρ st fun ρ2 st2 => tt ρ2 st2 fun b st3 => (b = true → te ρ2 st3 N) ∧ (b = false → M st3))
    (hd : ∀ acc st, Pv items acc st → gd st ∧ rdL st n acc ∧ Q (.ref n) st) : ∀ (todo pre acc : List D) {st : Store}, items = pre ++ todo → Pv pre acc st → lcLoop gd g tt te ρ n Q todo acc st
  | [], pre, acc, st, e, h => by
    rw [List.append_nil] at e
    subst e
    exact hd acc st h
  | x :: post, pre, acc, st, e, h => hs pre x post acc st e h _ _ (fun y st' h1 h2 h3 => ⟨h1, h2, lc_inv Pv hs hd post (pre ++ [x]) (acc ++ [y]) (by rw [e]; simp) h3⟩) fun st' h1 h2 => ⟨h1, lc_inv Pv hs hd post (pre ++ [x]) acc (by rw [e]; simp) h2⟩
theorem lc_by {gd : Store → Prop} {g : TG} {tt : TT} {te : TE} {ρ : Env} {n : Nat} {Q : K} {items : List D} {st : Store} (Pv : List D → List D → Store → Prop) (h0 : Pv [] [] st)
    (hs : ∀ pre x post acc st, items = pre ++ x :: post → Pv pre acc st → ∀ (N : D → Store → Prop) (M : Store → Prop), (∀ y st', rdL st' n acc → acc.length < szl → Pv (pre ++ [x]) (acc ++ [y]) (st'.set n (.lst (acc ++ [y]))) → N y st') → (∀ st', rdL st' n acc → Pv (pre ++ [x]) acc st' → M st') →
      gd st ∧ g x ρ st fun ρ2 st2 => tt ρ2 st2 fun b st3 => (b = true → te ρ2 st3 N) ∧ (b = false → M st3))
    (hd : ∀ acc st, Pv items acc st → gd st ∧ rdL st n acc ∧ Q (.ref n) st) : lcLoop gd g tt te ρ n Q items [] st := lc_inv Pv hs hd items [] [] rfl h0
theorem set_app {α : Type} (xs : List α) (a b : α) : (xs ++ [a]).set xs.length b = xs ++ [b] := by
  rw [List.set_append_right _ _ (Nat.le_refl _)]; simp
/-- the element reads alone: the new list is the map -/
theorem lc_map {α : Type} {gd : Store → Prop} {g : TG} {te : TE} {ρ : Env} {st : Store} {Q : K} (xs : List α) (f h : α → D) {items : List D} (hi : items = xs.map f) (hl : xs.length ≤ szl) (hg : ∀ acc, gd (st ++ [.lst acc]))
    (hs : ∀ x, x ∈ xs → ∀ (acc : List D) (N : D → Store → Prop), N (h x) (st ++ [.lst acc]) → g (f x) ρ (st ++ [.lst acc]) fun ρ2 st2 => te ρ2 st2 N)
    (hd : Q (.ref st.length) (st ++ [.lst (xs.map h)])) : lcLoop gd g tYes te ρ st.length Q items [] (st ++ [.lst []]) := by
  subst hi
  refine lc_by (fun pre acc st' => acc = (xs.take pre.length).map h ∧ st' = st ++ [.lst acc]) ⟨rfl, rfl⟩ (fun pre x post acc st' e ⟨h1, h2⟩ N M hN hM => ?_) (fun acc st' ⟨h1, h2⟩ => ?_)
  · subst h1; subst h2
    refine ⟨hg _, ?_⟩
    have hlen : pre.length < xs.length := by
      have := congrArg List.length e
      simp at this; omega
    have hx : xs[pre.length] ∈ xs := List.getElem_mem hlen
    have hfx : x = f xs[pre.length] := by
      have h2 : (xs.map f)[pre.length]? = some x := by rw [e]; simp
      rw [List.getElem?_map, List.getElem?_eq_getElem hlen] at h2
      simpa using h2.symm
    subst hfx
    have e1 : (fun (ρ2 : Env) (st2 : Store) => tYes ρ2 st2 fun b st3 => (b = true → te ρ2 st3 N) ∧ (b = false → M st3)) = fun ρ2 st2 => te ρ2 st2 N := by
      funext ρ2 st2
      exact propext ⟨fun q => q.1 rfl, fun q => ⟨fun _ => q, fun e => nomatch e⟩⟩
    rw [e1]
    refine hs _ hx _ N (hN _ _ (by unfold rdL; simp) (by simp; omega) ⟨?_, ?_⟩)
    · rw [List.length_append]
      show _ = List.map h (List.take (pre.length + 1) xs)
      rw [List.take_add_one, List.map_append, List.getElem?_eq_getElem hlen]
      rfl
    · rw [set_app]
  · subst h1; subst h2
    have e2 : List.take (List.map f xs).length xs = xs := by simp
    rw [e2] at *
    exact ⟨hg _, by unfold rdL; simp, hd⟩
theorem map_id_int (xs : List Int) : xs.map D.int = xs.map D.int := rfl
end Pd
end PartPdTac

section PartPdMore
set_option Elab.async false
set_option linter.all false
set_option maxRecDepth 100000
/-! Pd: more readings: texts split, range as a list or a tuple, sorted. Own work. -/
namespace Pd
open PySem
def splitM : KM
  | .str a, [.str b], st, Q => (b.length == 0) = false ∧ a.length + 2 ≤ szl ∧ Q (.ref st.length) (st ++ [.lst ((PySem.Txt.split a b).map D.str)])
  | _, _, _, _ => False
/-- range(..) as an argument -/
abbrev TR := Env → Store → (Int → Int → Store → Prop) → Prop
def rg1 (t : TE) : TR := fun σ st Q => t σ st fun x st1 => ∃ j, x = .int j ∧ Q 0 j st1
def rg2 (t u : TE) : TR := fun σ st Q => t σ st fun x st1 => u σ st1 fun y st2 => ∃ i j, x = .int i ∧ y = .int j ∧ Q i j st2
def rgOk (a b : Int) : Prop := -(2 ^ 62) ≤ a ∧ a < 2 ^ 62 ∧ -(2 ^ 62) ≤ b ∧ b < 2 ^ 62 ∧ (b - a).toNat ≤ 2 ^ 24
def dLR (r : TR) : TE := fun σ st Q => r σ st fun a b st1 => rgOk a b ∧ Q (.ref st1.length) (st1 ++ [.lst (rng a (b - a).toNat)])
def dTR (r : TR) : TE := fun σ st Q => r σ st fun a b st1 => rgOk a b ∧ Q (.tup (rng a (b - a).toNat)) st1
/-- sorted: of whole numbers -/
def sortedB : KB
  | [.ref n], st, Q => ∃ ns : List Int, rdA st n (ns.map D.int) ∧ ∀ ns' : List Int, ns'.Perm ns → ns'.Pairwise (· ≤ ·) → Q (.ref st.length) (st ++ [.lst (ns'.map D.int)])
  | _, _, _ => False
/-- a call of a def with n parameters and one that takes what is left over -/
def dCallS (c : Cl) (f : String) (n : Nat) (t : TA) : TE := fun σ st Q => t σ st fun xs st1 => n ≤ xs.length ∧ (xs.drop n).length ≤ szl ∧ c f (xs.take n ++ [.tup (xs.drop n)]) st1 Q
section
variable {c : Cl} {fn : String} {nn : Nat} {Ar : TA}
instance {σ : Env} {st : Store} {Q : K} : Red (dCallS c fn nn Ar σ st Q) (Ar σ st fun xs st1 => nn ≤ xs.length ∧ (xs.drop nn).length ≤ szl ∧ c fn (xs.take nn ++ [.tup (xs.drop nn)]) st1 Q) := ⟨id⟩
end
section
variable {σ : Env} {st : Store} {Q : K} {r : TR} {ta tb : TE} {q : Int → Int → Store → Prop} {a b : Int} {u v : Str}
instance : Red (dLR r σ st Q) (r σ st fun a b st1 => rgOk a b ∧ Q (.ref st1.length) (st1 ++ [.lst (rng a (b - a).toNat)])) := ⟨id⟩
instance : Red (dTR r σ st Q) (r σ st fun a b st1 => rgOk a b ∧ Q (.tup (rng a (b - a).toNat)) st1) := ⟨id⟩
instance : Red (rg1 ta σ st q) (ta σ st fun x st1 => ∃ j, x = .int j ∧ q 0 j st1) := ⟨id⟩
instance : Red (rg2 ta tb σ st q) (ta σ st fun x st1 => tb σ st1 fun y st2 => ∃ i j, x = .int i ∧ y = .int j ∧ q i j st2) := ⟨id⟩
instance : Red (splitM (.str u) [.str v] st Q) ((v.length == 0) = false ∧ u.length + 2 ≤ szl ∧ Q (.ref st.length) (st ++ [.lst ((PySem.Txt.split u v).map D.str)])) := ⟨id⟩
instance : Red (tyStr (.str u) st) True := ⟨id⟩
end
end Pd
end PartPdMore

section PartPdSoundG
set_option Elab.async false
set_option linter.all false
set_option maxRecDepth 100000
set_option maxHeartbeats 1000000
/-! Pd over the hand layer: texts split, range as a list or a tuple, sorted. Own work. -/
namespace Pd
open PySem PySem.Spec
section
variable {X : L2.Cx} {K : Kf} {f f' : List Addr} {H H' : Hp} {st st' : Store} {ρ : Env} {σ : L2.St}
theorem RDs.of_strs : ∀ (ss : List Str), RDs K f H (ss.map D.str) (ss.map L2.V.str)
  | [] => by simp [RDs.nil]
  | n :: ns => by
    rw [List.map_cons, List.map_cons, RDs.cons]
    exact ⟨_, _, rfl, by rw [RD.str], RDs.of_strs ns⟩
theorem real_split : RealM K (fun x xs H Q => ∃ a b, x = .str a ∧ xs = [.str b] ∧ (b.length == 0) = false ∧ a.length + 2 ≤ sizeLine ∧ L2.rNewStrs (Txt.split a b) H Q) splitM := fun f st H x xs v vs Q' Q s r1 r2 h l => by
  cases x <;> try (exact h.elim)
  match xs, h with
  | [], h => exact h.elim
  | y :: _ :: _, h => cases y <;> exact (show False from h).elim
  | [y], h =>
    cases y <;> try (exact h.elim)
    rw [RD.str] at r1
    obtain ⟨w, rfl, r3⟩ := r2.inv1
    rw [RD.str] at r3
    subst r1; subst r3
    obtain ⟨h1, h2, h3⟩ := h
    exact ⟨_, _, rfl, rfl, h1, by rw [← szl_eq]; exact h2, fun p hp => l.lst s h3 (RDs.of_strs _) hp⟩
/-! range(..) as an argument -/
def liftR (K : Kf) (t : TR) : L2.St → Hp → (Int → Int → Hp → Prop) → Prop := fun σ H Q => ∃ f ρ st Q', Rel K f ρ st σ H ∧ t ρ st Q' ∧ ∀ (a b : Int) (st' : Store) (f' : List Addr) (H' : Hp), Q' a b st' → Ext K f H f' H' → RelS K f' st' H' → Q a b H'
abbrev PDR (X : L2.Cx) (e : Expr) (t : TR) : Prop := L2.PRg X e (liftR X.K t)
theorem prg_imp {e : Expr} {t t' : L2.St → Hp → (Int → Int → Hp → Prop) → Prop} (h : L2.PRg X e t) (m : ∀ σ H Q, t' σ H Q → t σ H Q) : L2.PRg X e t' := fun pins s σ H Q I q => h pins s σ H Q I (m σ H Q q)
section
variable {a b e : Expr} {ta tb : TE} {tr : TR} {pos : Pos}
theorem pr_1 {p : Pos} (hg : L2.Gl X "range") (hm : X.mg "range" = none) (ha : PD X a ta) (na : starEach [a] X.env = (false, eval a X.env) :: starEach [] X.env := by rfl) : PDR X (.Call (.Name "range" p) [a] [] pos) (rg1 ta) :=
  prg_imp (L2.prg_1 hg hm ha na) fun σ H R ⟨f, ρ, st, R', Re, h, l⟩ => ⟨f, ρ, st, _, Re, h, fun x st1 v f1 H1 q1 e1 s1 r1 => by
    obtain ⟨j, rfl, h1⟩ := q1
    rw [RD.int] at r1
    subst r1
    exact ⟨j, rfl, l _ _ st1 f1 H1 h1 e1 s1⟩⟩
theorem pr_2 {p : Pos} (hg : L2.Gl X "range") (hm : X.mg "range" = none) (ha : PD X a ta) (hb : PD X b tb) (na : starEach [a, b] X.env = (false, eval a X.env) :: starEach [b] X.env := by rfl)
    (nb : starEach [b] X.env = (false, eval b X.env) :: starEach [] X.env := by rfl) (hp : (backTo pos (starEach [b] X.env)).any (·.1) = false := by rfl) : PDR X (.Call (.Name "range" p) [a, b] [] pos) (rg2 ta tb) :=
  prg_imp (L2.prg_2 hg hm ha hb na nb hp) fun σ H R ⟨f, ρ, st, R', Re, h, l⟩ => ⟨f, ρ, st, _, Re, h, fun x st1 v f1 H1 q1 e1 s1 r1 => ⟨f1, ρ, st1, _, Re.later e1 s1, q1, fun y st2 w f2 H2 q2 e2 s2 r2 => by
    obtain ⟨i, j, rfl, rfl, h3⟩ := q2
    have r1' := r1.mono e2
    rw [RD.int] at r1' r2
    subst r1'; subst r2
    exact ⟨i, j, rfl, rfl, l _ _ st2 f2 H2 h3 (e1.trans e2) s2⟩⟩⟩
theorem rng_rgV (a b : Int) : RDs K f H (rng a (b - a).toNat) (L2.rgV a b) := by
  have e1 : rng a (b - a).toNat = ((List.range (b - a).toNat).map fun (k : Nat) => a + (k : Int)).map D.int := by unfold rng; simp
  have e2 : L2.rgV a b = ((List.range (b - a).toNat).map fun (k : Nat) => a + (k : Int)).map L2.V.int := by unfold L2.rgV; simp
  rw [e1, e2]; exact RDs.of_ints _
theorem pd_listRg {p : Pos} (hc : X.calm = true) (hg : L2.Gl X "list") (hm : X.mg "list" = none) (he : PDR X e tr) (na : starEach [e] X.env = (false, eval e X.env) :: starEach [] X.env := by rfl) : PD X (.Call (.Name "list" p) [e] [] pos) (dLR tr) :=
  pe_imp (L2.pe_listRg hc hg hm he na) fun σ H Q ⟨f, ρ, st, Q', R, h, l⟩ => ⟨f, ρ, st, _, R, h, fun a b st1 f1 H1 q1 e1 s1 => ⟨q1.1, fun p hp => (l.later e1).lst s1 q1.2 (rng_rgV a b) hp⟩⟩
theorem pd_tupRg {p : Pos} (hc : X.calm = true) (hg : L2.Gl X "tuple") (hm : X.mg "tuple" = none) (he : PDR X e tr) (na : starEach [e] X.env = (false, eval e X.env) :: starEach [] X.env := by rfl) : PD X (.Call (.Name "tuple" p) [e] [] pos) (dTR tr) :=
  pe_imp (L2.pe_tupRg hc hg hm he na) fun σ H Q ⟨f, ρ, st, Q', R, h, l⟩ => ⟨f, ρ, st, _, R, h, fun a b st1 f1 H1 q1 e1 s1 => ⟨q1.1, fun p hp => (l.later e1).tup s1 q1.2 (rng_rgV a b) hp⟩⟩
end
theorem real_sortedB : RealB K (L2.rSortedI K) sortedB :=
  realB1 (kb1 (fun _ _ h => h) fun x y xs st Q h => by cases x <;> exact h) fun f st H x v Q' Q s r h l => by
    cases x <;> try (exact h.elim)
    rw [RD.ref] at r
    obtain ⟨a, e, rfl⟩ := r
    obtain ⟨ns, h1, h2⟩ := h
    obtain ⟨a', vs, k1, k2, d⟩ := s.rdA h1
    rw [e] at k1; cases k1
    exact ⟨a, ns, rfl, by rw [← d.ints]; exact k2, fun ns' p hp hi hn => l.lst s (h2 ns' hp hi) (RDs.of_ints ns') hn⟩
end
end Pd
end PartPdSoundG

section PartPdSoundH
set_option Elab.async false
set_option linter.all false
set_option maxRecDepth 100000
set_option maxHeartbeats 1000000
/-! Pd over the hand layer: defs whose last parameter takes what is left over. Own work. -/
namespace Pd
open PySem PySem.Spec
open PyProof.Rows (envOfC)
/-- what a def with n parameters and a star one promises -/
def starF (K : Kf) (n : Nat) (c : List D → Store → Pd.K → Prop) : L2.Sp := fun vs H Q E => ∃ ws rest : List L2.V, vs = ws ++ rest ∧ ws.length = n ∧ rest.length ≤ sizeLine ∧ ∀ p, H p = Option.none → liftF K (n + 1) c (ws ++ [L2.V.ref p]) (L2.upd H p (.tup rest)) Q E
structure OwnS (P : Program) (w : World) (K : Kf) (mg : Str → Option Value) (base : Heap) (k : Nat) (n : Nat) (x : Str) (c : List D → Store → Pd.K → Prop) : Prop where
  ex : ∃ fa : Addr, L2.FnR P w K mg base L2.CX0 k fa (starF K n c) ∧ mg x = some (.ref fa) ∧ PySem.W.keepIn K (.ref fa) = true
section
variable {X : L2.Cx} {K : Kf} {f f' : List Addr} {H H' : Hp} {st st' : Store} {a : Expr} {es : List Expr} {pos : Pos}
theorem pd_callS {x : Str} {p : Pos} {k n : Nat} {ts : TA} {cl : Cl} {y : String} (o : OwnS X.prog X.w X.K X.mg X.base k n x (cl y)) (hr : L2.Room k X.A) (hg : L2.Gl X x) (ha : PDA X (a :: es) ts) (hdb : (x == ("__debug__" : Str)) = false := by decide)
    (he : starEach (a :: es) X.env = (false, eval a X.env) :: starEach es X.env := by rfl) (hpl : (backTo pos (starEach es X.env)).any (·.1) = false := by rfl) : PD X (.Call (.Name x p) (a :: es) [] pos) (dCallS cl y n ts) := by
  obtain ⟨fa, F, hm, hk⟩ := o.ex
  have step : L2.PE X (.Call (.Name x p) (a :: es) [] pos) (fun σ H Q => liftA X.K ts σ H fun vs H1 => starF X.K n (cl y) vs H1 Q fun _ _ _ => False) := by
    constructor
    intro pins s σ H Q I h
    refine wpAny_Call_Name_kw (L2.ld_glob I hg hm ?_ hdb)
    have args := ha.run pos pins s σ H _ I h
    exact PySem.W.callWith_K (h₀ := X.base) I.ok.mod.kin hk (wpAny_mono args (fun us s1 ⟨vs, H1, I1, r, q⟩ => ⟨I1.kIn, wpAny_call (L2.run_fnR F hr L2.pass0 I1 r q)⟩) fun _ _ z => z) he hpl
  refine pe_imp step fun σ H Q ⟨f, ρ, st, Q', R, h, l⟩ => ⟨f, ρ, st, _, R, h, fun xs st1 vs f1 H1 ⟨h1, h2, h3⟩ e1 s1 r1 => ?_⟩
  have hvl := r1.length
  refine ⟨vs.take n, vs.drop n, (List.take_append_drop n vs).symm, by rw [List.length_take]; omega, ?_, fun p hp => ?_⟩
  · rw [List.length_drop, hvl, ← szl_eq]; rw [List.length_drop] at h2; exact h2
  · have s2 := s1.lay (o := .tup (vs.drop n)) hp
    obtain ⟨s2, e2⟩ := s2
    refine ⟨by rw [List.length_append, List.length_take]; simp; omega, f1, st1, xs.take n ++ [.tup (xs.drop n)], Q', s2, ?_, h3, (l.later e1).later e2⟩
    refine RDs.append ((r1.take n).mono e2) (RDs.one (RD.tup.mpr ⟨p, vs.drop n, rfl, .of L2.upd_same, (r1.drop n).mono e2⟩))
end
section
variable {P : Program} {w : World} {K : Kf} {mg : Str → Option Value} {base : Heap} {names : List String} {snames : List (String × Nat)}
/-- as Step, with both kinds of own defs -/
structure Step2 (P : Program) (w : World) (K : Kf) (mg : Str → Option Value) (base : Heap) (names : List String) (snames : List (String × Nat)) (x : String) (d : Def) : Prop where
  ex : ∃ (fa : Addr) (fd : FuncData) (ps : List Str), mg x = some (.ref fa) ∧ PySem.W.keepIn K (.ref fa) = true ∧ L2.Binds K fd ps [] ∧ d.ps = ps.length ∧
    ∀ (k : Nat) (c : Cl), (∀ y ∈ names, Own P w K mg base k (Str.ofString y) (c y)) → (∀ q ∈ snames, OwnS P w K mg base k q.2 (Str.ofString q.1) (c q.1)) → L2.FnOk P w K mg base L2.CX0 (k + 1) fa fd ps (liftF K ps.length (d.run c))
structure StepS (P : Program) (w : World) (K : Kf) (mg : Str → Option Value) (base : Heap) (names : List String) (snames : List (String × Nat)) (x : String) (n : Nat) (d : Def) : Prop where
  ex : ∃ fa : Addr, mg x = some (.ref fa) ∧ PySem.W.keepIn K (.ref fa) = true ∧
    ∀ (k : Nat) (c : Cl), (∀ y ∈ names, Own P w K mg base k (Str.ofString y) (c y)) → (∀ q ∈ snames, OwnS P w K mg base k q.2 (Str.ofString q.1) (c q.1)) → L2.FnR P w K mg base L2.CX0 (k + 1) fa (starF K n (d.run c))
theorem fnS_ok {qual x pv : Str} {sm : Stmt} {fa : Addr} {fd : FuncData} {N ps : List Str} {k : Nat} {d : Def} {c : Cl} (F : L2.Fun K x qual sm fa fd) (S : L2.FnScope N (ps ++ [pv]) (L2.defScope sm)) (hn : d.ns = N.length) (hp : d.ps = ps.length + 1)
    (hb : ∀ (kV doc pm : Value) (an : Option Addr) (cdv ct : Value) (us rest : List Value), us.length = ps.length → bindArgs (PySem.W.fnOf x qual (L2.defArgs sm) (L2.defBody sm) (L2.defScope sm) .none kV doc pm an cdv ct) ⟨us ++ rest, []⟩ = (newTuple rest >>= fun t => pure (ps.zip us ++ [(pv, t)])))
    (der : ∀ (cdv : Value) (A : Around) (outer : List PySem.Env) (s : Shared) (H : Hp) (E : L2.XK), L2.Room k (A.deeper (envOfC qual (L2.defScope sm) s.heap.objs.size fa cdv)) →
      PDSs (L2.cxOf L2.CX0 P w K mg base N qual (L2.defScope sm) fa cdv A outer s H E).nox (L2.defBody sm) (d.body c)) : L2.FnR P w K mg base L2.CX0 (k + 1) fa (starF K ps.length (d.run c)) := by
  obtain ⟨oc, od, kV, doc, pm, an, cdv, ct, osl, rfl, look, code⟩ := F.ex
  refine StX.fn_star (sp := liftF K (ps.length + 1) (d.run c)) look code S StX.cxUp_none (hb kV doc pm an cdv ct) fun A outer s H vs Q E hr h => ?_
  refine ⟨_, (der cdv A outer s H E hr).nox, ?_⟩
  obtain ⟨_, f, st, ds, Q', s', r, ⟨hl, h⟩, l⟩ := h
  refine ⟨f, start d.ns ds, st, _, start_rel s' r hn, h, ?_⟩
  exact ⟨fun ρ1 st1 σ1 f1 H1 q e r1 => l .non st1 .non f1 H1 q e r1.toRelS (RD.non.mpr rfl), l, fun _ _ _ _ _ q _ _ => q, fun _ _ _ _ _ q _ _ => q⟩
theorem all_own2 {prog : String → Option Def} (hs : ∀ x ∈ names, ∃ d, prog x = some d ∧ Step2 P w K mg base names snames x d) (hs2 : ∀ q ∈ snames, ∃ d, prog q.1 = some d ∧ StepS P w K mg base names snames q.1 q.2 d) :
    ∀ k : Nat, (∀ x ∈ names, Own P w K mg base k (Str.ofString x) (callN prog k x)) ∧ ∀ q ∈ snames, OwnS P w K mg base k q.2 (Str.ofString q.1) (callN prog k q.1)
  | 0 => by
    refine ⟨fun x hx => ?_, fun q hq => ?_⟩
    · obtain ⟨d, h1, fa, fd, ps, h2, h3, h4, h5, h6⟩ := hs x hx
      exact ⟨fa, fd, ps, fn_zero, h2, h3, h4, fun _ _ _ h => h.elim⟩
    · obtain ⟨d, h1, fa, h2, h3, h4⟩ := hs2 q hq
      refine ⟨fa, fun A outer s H us vs Q E hr e0 r h => ?_, h2, h3⟩
      obtain ⟨ws, rest, _, _, _, h⟩ := h
      obtain ⟨_, _, _, _, _, _, _, z, _⟩ := h s.heap.objs.size (e0.hok.fresh (Nat.le_refl _))
      exact z.elim
  | k + 1 => by
    have ih := all_own2 hs hs2 k
    refine ⟨fun x hx => ?_, fun q hq => ?_⟩
    · obtain ⟨d, h1, fa, fd, ps, h2, h3, h4, h5, h6⟩ := hs x hx
      refine ⟨fa, fd, ps, (h6 k _ ih.1 ih.2).imp fun vs H Q E ⟨g0, f, st, ds, Q', s, r, ⟨d', e', g⟩, l⟩ => ?_, h2, h3, h4, fun ds st Q ⟨d', e', g⟩ => ?_⟩
      · rw [h1] at e'; cases e'
        exact ⟨g0, f, st, ds, Q', s, r, g, l⟩
      · rw [h1] at e'; cases e'
        exact g.1.trans h5
    · obtain ⟨d, h1, fa, h2, h3, h4⟩ := hs2 q hq
      refine ⟨fa, (h4 k _ ih.1 ih.2).imp fun vs H Q E ⟨ws, rest, e1, e2, e3, h⟩ => ⟨ws, rest, e1, e2, e3, fun p hp => ?_⟩, h2, h3⟩
      obtain ⟨g0, f, st, ds, Q', s, r, ⟨d', e', g⟩, l⟩ := h p hp
      rw [h1] at e'; cases e'
      exact ⟨g0, f, st, ds, Q', s, r, g, l⟩
end
end Pd
end PartPdSoundH

section PartPdDict
set_option Elab.async false
set_option linter.all false
set_option maxRecDepth 100000
/-! Pd: dicts of ints and texts. Own work. -/
namespace Pd
open PySem
abbrev Ky := Sum Int Str
def keyD : Ky → D
  | .inl i => .int i
  | .inr s => .str s
theorem keyD_inj : ∀ {a b : Ky}, keyD a = keyD b → a = b
  | .inl _, .inl _, h => by injection h with h; rw [h]
  | .inr _, .inr _, h => by injection h with h; rw [h]
  | .inl _, .inr _, h => nomatch h
  | .inr _, .inl _, h => nomatch h
def valD (kvs : List (Ky × D)) (k : Ky) : Option D := (kvs.find? fun kv => decide (kv.1 = k)).map (·.2)
def putD (kvs : List (Ky × D)) (k : Ky) (v : D) : List (Ky × D) :=
  if (kvs.any fun kv => decide (kv.1 = k)) = true then kvs.map (fun kv => if kv.1 = k then (kv.1, v) else kv) else kvs ++ [(k, v)]
/-- {} -/
def dDic : TE := fun _ st Q => Q (.ref st.length) (st ++ [.dic []])
/-- d[k] -/
def getDK : K2
  | .ref n, y, st, Q => ∃ kvs k d, rdD st n kvs ∧ y = keyD k ∧ valD kvs k = some d ∧ Q d st
  | _, _, _, _ => False
def dGet (to ti : TE) : TE := fun σ st Q => to σ st fun x st1 => ti σ st1 fun y st2 => getDK x y st2 Q
/-- d[k] = v -/
def setDK : D → D → D → Store → (Store → Prop) → Prop
  | .ref n, y, v, st, Q => ∃ kvs k, rdD st n kvs ∧ y = keyD k ∧ kvs.length < szl ∧ Q (st.set n (.dic (putD kvs k v)))
  | _, _, _, _, _ => False
def gSubD (to ti : TE) : TG := fun v σ st Q => to σ st fun o st1 => ti σ st1 fun i st2 => setDK o i v st2 fun st3 => Q σ st3
/-- sorted(d), keys whole numbers -/
def sortedDB : KB
  | [.ref n], st, Q => ∃ (kvs : List (Ky × D)) (ns : List Int), rdD st n kvs ∧ kvs.map (·.1) = ns.map Sum.inl ∧ ∀ ns' : List Int, ns'.Perm ns → ns'.Pairwise (· ≤ ·) → Q (.ref st.length) (st ++ [.lst (ns'.map D.int)])
  | _, _, _ => False
/-- {k: v for ..}: n the new cell -/
def dcLoop (gd : Store → Prop) (g : TG) (tt : TT) (tk tv : TE) (ρ : Env) (n : Nat) (Q : K) : List D → List (Ky × D) → Store → Prop
  | [], acc, st => gd st ∧ rdD st n acc ∧ Q (.ref n) st
  | x :: xs, acc, st => gd st ∧ g x ρ st fun ρ2 st2 => tt ρ2 st2 fun b st3 =>
      (b = true → tk ρ2 st3 fun y st4 => tv ρ2 st4 fun z st5 => ∃ k, y = keyD k ∧ rdD st5 n acc ∧ acc.length < szl ∧ dcLoop gd g tt tk tv ρ n Q xs (putD acc k z) (st5.set n (.dic (putD acc k z)))) ∧ (b = false → rdD st3 n acc ∧ dcLoop gd g tt tk tv ρ n Q xs acc st3)
def dDc (i : TI) (g : TG) (tt : TT) (tk tv : TE) (vs : List Nat) : TE := fun σ st Q => i σ st fun I st1 => dcLoop I.guard g tt tk tv (wipeE σ vs) st1.length Q I.items [] (st1 ++ [.dic []])
section
variable {σ σ' : Env} {st : Store} {Q : K} {to ti tk tv : TE} {d x : D} {g : TG} {tt : TT} {i : TI} {vs : List Nat} {q : Env → Store → Prop}
instance : Red (dDic σ st Q) (Q (.ref st.length) (st ++ [.dic []])) := ⟨id⟩
instance : Red (dGet to ti σ st Q) (to σ st fun x st1 => ti σ st1 fun y st2 => getDK x y st2 Q) := ⟨id⟩
instance : Red (gSubD to ti d σ st q) (to σ st fun o st1 => ti σ st1 fun i st2 => setDK o i d st2 fun st3 => q σ st3) := ⟨id⟩
instance [h : WipeE σ vs σ'] : Red (dDc i g tt tk tv vs σ st Q) (i σ st fun I st1 => dcLoop I.guard g tt tk tv σ' st1.length Q I.items [] (st1 ++ [.dic []])) := ⟨fun p => by unfold dDc; rw [h.eq]; exact p⟩
end
end Pd
end PartPdDict

section PartPdSoundI
set_option Elab.async false
set_option linter.all false
set_option maxRecDepth 100000
set_option maxHeartbeats 1000000
/-! Pd over the hand layer: dicts of ints and texts. Own work. -/
namespace Pd
open PySem PySem.Spec
section
variable {X : L2.Cx} {K : Kf} {f f' : List Addr} {H H' : Hp} {st st' : Store} {ρ : Env} {σ : L2.St}
theorem keyD_V {k : Ky} {v : L2.V} (h : RD K f H (keyD k) v) : v = L2.kV k := by
  cases k with
  | inl i => exact RD.int.mp h
  | inr s => exact RD.str.mp h
theorem vals_at : ∀ {kvs : List (Ky × D)} {ks : List (L2.Key × L2.V)}, ks.map (·.1) = kvs.map (·.1) → RDs K f H (kvs.map (·.2)) (ks.map (·.2)) → ∀ (k : Ky) (d : D), valD kvs k = some d → ∃ v, L2.valV ks k = some v ∧ RD K f H d v
  | [], _, _, _, k, d, h => by simp [valD] at h
  | (k0, d0) :: kvs, [], e, _, _, _, _ => by simp at e
  | (k0, d0) :: kvs, (k1, v1) :: ks, e, r, k, d, h => by
    simp only [List.map_cons, List.cons.injEq] at e
    obtain ⟨e1, e2⟩ := e
    rw [List.map_cons, List.map_cons, RDs.cons] at r
    obtain ⟨v, rr, er, r1, r2⟩ := r
    injection er with er1 er2
    subst er1
    have e1 : k1 = k0 := e1
    subst e1
    by_cases hk : k1 = k
    · refine ⟨v1, L2.valV_pos hk, ?_⟩
      have : valD ((k1, d0) :: kvs) k = some d0 := by simp [valD, List.find?_cons, hk]
      rw [this] at h; cases h
      exact r1
    · have : valD ((k1, d0) :: kvs) k = valD kvs k := by simp [valD, List.find?_cons, hk]
      rw [this] at h
      obtain ⟨w, h1, h2⟩ := vals_at e2 (by rw [er2]; exact r2) k d h
      exact ⟨w, (L2.valV_neg hk).trans h1, h2⟩
theorem put_at {k : Ky} {d : D} {v : L2.V} (rv : RD K f H d v) {kvs : List (Ky × D)} {ks : List (L2.Key × L2.V)} (e : ks.map (·.1) = kvs.map (·.1)) (r : RDs K f H (kvs.map (·.2)) (ks.map (·.2))) :
    (L2.putK ks k v).map (·.1) = (putD kvs k d).map (·.1) ∧ RDs K f H ((putD kvs k d).map (·.2)) ((L2.putK ks k v).map (·.2)) := by
  have hany : ∀ {kvs : List (Ky × D)} {ks : List (L2.Key × L2.V)}, ks.map (·.1) = kvs.map (·.1) → (ks.any fun kv => decide (kv.1 = k)) = (kvs.any fun kv => decide (kv.1 = k)) := by
    intro kvs ks e
    have h1 : ∀ l : List (Ky × D), (l.any fun kv => decide (kv.1 = k)) = (l.map (·.1)).any fun x => decide (x = k) := fun l => by rw [List.any_map]; rfl
    have h2 : ∀ l : List (L2.Key × L2.V), (l.any fun kv => decide (kv.1 = k)) = (l.map (·.1)).any fun x => decide (x = k) := fun l => by rw [List.any_map]; rfl
    rw [h1, h2, e]
  have hmap : ∀ {kvs : List (Ky × D)} {ks : List (L2.Key × L2.V)}, ks.map (·.1) = kvs.map (·.1) → RDs K f H (kvs.map (·.2)) (ks.map (·.2)) →
      (ks.map fun kv => if kv.1 = k then (kv.1, v) else kv).map (·.1) = (kvs.map fun kv => if kv.1 = k then (kv.1, d) else kv).map (·.1) ∧ RDs K f H ((kvs.map fun kv => if kv.1 = k then (kv.1, d) else kv).map (·.2)) ((ks.map fun kv => if kv.1 = k then (kv.1, v) else kv).map (·.2)) := by
    intro kvs
    induction kvs with
    | nil => intro ks e r; cases ks with
      | nil => exact ⟨rfl, r⟩
      | cons _ _ => simp at e
    | cons p kvs ih =>
      intro ks e r
      cases ks with
      | nil => simp at e
      | cons q ks =>
        obtain ⟨k0, d0⟩ := p
        obtain ⟨k1, v1⟩ := q
        simp only [List.map_cons, List.cons.injEq] at e
        obtain ⟨e1, e2⟩ := e
        rw [List.map_cons, List.map_cons, RDs.cons] at r
        obtain ⟨u, rr, er, r1, r2⟩ := r
        injection er with er1 er2
        have e1 : k1 = k0 := e1
        subst e1
        obtain ⟨h1, h2⟩ := ih e2 (by rw [er2]; exact r2)
        by_cases hk : k1 = k
        · simp only [List.map_cons, hk, if_true]
          refine ⟨by rw [h1], ?_⟩
          rw [RDs.cons]; exact ⟨v, _, rfl, rv, h2⟩
        · simp only [List.map_cons, hk, if_false]
          refine ⟨by rw [h1], ?_⟩
          have er1 : v1 = u := er1
          subst er1
          rw [RDs.cons]; exact ⟨v1, _, rfl, r1, h2⟩
  unfold L2.putK putD
  rw [hany e]
  split
  · exact hmap e r
  · refine ⟨by rw [List.map_append, List.map_append, e]; rfl, ?_⟩
    rw [List.map_append, List.map_append]
    exact r.append (RDs.one rv)
theorem RelS.putDic {n : Nat} {a : Addr} {kvs kvs' : List (Ky × D)} {ks ks' : List (L2.Key × L2.V)} (s : RelS K f st H) (hn : f[n]? = some a) (h : Pd.rdD st n kvs) (hH : H a = some (.dK ks)) (e : ks'.map (·.1) = kvs'.map (·.1)) (r : RDs K f H (kvs'.map (·.2)) (ks'.map (·.2))) :
    RelS K f (st.set n (.dic kvs')) (L2.upd H a (.dK ks')) ∧ Ext K f H f (L2.upd H a (.dK ks')) :=
  s.chg (c := .dic kvs) h rfl hn (.inr (.inr (.inl ⟨ks, hH⟩))) rfl ⟨ks', L2.upd_same, e, r.mono (Ext.upd0 (.inr (.inr (.inl ⟨ks, hH⟩))))⟩
section
variable {o i a b e : Expr} {to ti ta tb te : TE} {pos : Pos}
theorem pd_dic : PD X (.Dict [] [] pos) dDic :=
  pe_imp L2.pe_dnewK fun σ H Q ⟨f, ρ, st, Q', R, h, l⟩ p hp => by
    obtain ⟨s', e⟩ := R.toRelS.new (o := .dK []) (c := .dic []) hp ⟨[], L2.upd_same, rfl, RDs.nil.mpr rfl⟩
    exact l _ _ _ _ _ h e s' (RD.ref.mpr ⟨p, by rw [← R.toRelS.len]; simp, rfl⟩)
theorem pd_get {k : Nat} (hr : L2.Room k X.A) (ho : PD X o to) (hi : PD X i ti) (hs : L2.NoSl i := by intro _ _; rfl) : PD X (.Subscript o i pos) (dGet to ti) :=
  pe_imp (L2.pe_dget (L2.hu_of hr) ho hi hs) fun σ H Q ⟨f, ρ, st, Q', R, h, l⟩ => ⟨f, ρ, st, _, R, h, fun x st1 v f1 H1 q1 e1 s1 r1 => ⟨f1, ρ, st1, _, R.later e1 s1, q1, fun y st2 w f2 H2 q2 e2 s2 r2 => by
    cases x <;> try (exact q2.elim)
    obtain ⟨kvs, k, d, h1, rfl, h3, h4⟩ := q2
    have r1' := r1.mono e2
    rw [RD.ref] at r1'
    obtain ⟨a, ea, rfl⟩ := r1'
    obtain ⟨a', ks, g1, g2, g3, g4⟩ := s2.rdD h1
    rw [ea] at g1; cases g1
    obtain ⟨v, g5, g6⟩ := vals_at g3 g4 k d h3
    obtain rfl := keyD_V r2
    exact ⟨a, v, rfl, by rw [← g5]; exact L2.DGet.k g2, l d st2 v f2 H2 h4 (e1.trans e2) s2 g6⟩⟩⟩
theorem pg_subD {k : Nat} (hr : L2.Room k X.A) (h1 : PD X o to) (h2 : PD X i ti) (ha : ∀ v, assign (.Subscript o i pos) X.env v = (do
      let ov ← holding [v] (eval o X.env)
      let iv ← holding [v, ov] (eval i X.env)
      standAt pos
      holding [v, ov, iv] (setItem ov iv v)
      release [v, ov, iv] []) := by intro _; rfl) : PDG X (.Subscript o i pos) (gSubD to ti) [] :=
  pg_imp (L2.pg_sub h1 h2 (L2.set_dict (L2.hu_of hr)) ha) fun v σ H Q ⟨f, ρ, st, d, Q', R, r, h, l⟩ => ⟨f, ρ, st, _, R, h, fun x st1 u f1 H1 q1 e1 s1 r1 => ⟨f1, ρ, st1, _, R.later e1 s1, q1, fun y st2 w f2 H2 q2 e2 s2 r2 => by
    cases x <;> try (exact q2.elim)
    obtain ⟨kvs, k, h3, rfl, h4, h5⟩ := q2
    have r1' := r1.mono e2
    rw [RD.ref] at r1'
    obtain ⟨a, ea, rfl⟩ := r1'
    obtain ⟨a', ks, g1, g2, g3, g4⟩ := s2.rdD h3
    rw [ea] at g1; cases g1
    obtain ⟨p1, p2⟩ := put_at (k := k) (r.mono (e1.trans e2)) g3 g4
    obtain ⟨s3, e3⟩ := s2.putDic ea h3 g2 p1 p2
    obtain rfl := keyD_V r2
    have hlen : ks.length < sizeLine := by
      have := congrArg List.length g3
      simp at this
      rw [this, ← szl_eq]; exact h4
    exact ⟨a, _, rfl, L2.DPut.k g2 hlen, l ρ _ σ f2 _ h5 ((e1.trans e2).trans e3) (R.later ((e1.trans e2).trans e3) s3) .refl⟩⟩⟩

theorem dc_core {wi : TI} {g : TG} {tt : TT} {tk tv : TE} {vs ws : List Nat} {Q : L2.VK} (hws : ∀ j, j ∈ ws → j ∈ vs) (h : lift K (dDc wi g tt tk tv vs) σ H Q) : L2.tDc (liftI K wi) (liftG K g ws) (liftT K tt) (lift K tk) (lift K tv) vs σ H Q := by
  obtain ⟨f, ρ, st, Q', R, h, l⟩ := h
  refine ⟨f, ρ, st, _, R, h, fun I st1 J f1 H1 q1 e1 s1 rI D hD => ?_⟩
  obtain ⟨s0, e0⟩ := s1.new (o := .dK []) (c := .dic []) hD ⟨[], L2.upd_same, rfl, RDs.nil.mpr rfl⟩
  have hn0 : (f1 ++ [D])[st1.length]? = some D := by rw [← s1.len]; simp
  refine ⟨fun i m H2 => m = I.items.length - i ∧ i ≤ I.items.length ∧ ∃ f2 st2 acc, Ext K (f1 ++ [D]) (L2.upd H1 D (.dK [])) f2 H2 ∧ RelS K f2 st2 H2 ∧ Pd.rdD st2 st1.length acc ∧ dcLoop I.guard g tt tk tv (wipeE ρ vs) st1.length Q' (I.items.drop i) acc st2,
    ⟨_, rfl, Nat.zero_le _, f1 ++ [D], st1 ++ [.dic []], [], .refl, s0, by unfold Pd.rdD; simp, by simpa using q1⟩, ?_⟩
  rintro i m H2 ⟨rfl, hi, f2, st2, acc, e2, s2, hacc, q2⟩
  have eI : Ext K f1 H1 f2 H2 := e0.trans e2
  by_cases hlt : i < I.items.length
  · have hd : I.items.drop i = I.items[i] :: I.items.drop (i + 1) := by rw [List.drop_eq_getElem_cons hlt]
    rw [hd] at q2
    obtain ⟨gd, q2⟩ := q2
    refine .inr ⟨rI.go i f2 st2 H2 eI s2 gd hlt, fun H3 => ∃ f3 st3 acc', Ext K (f1 ++ [D]) (L2.upd H1 D (.dK [])) f3 H3 ∧ RelS K f3 st3 H3 ∧ Pd.rdD st3 st1.length acc' ∧ dcLoop I.guard g tt tk tv (wipeE ρ vs) st1.length Q' (I.items.drop (i + 1)) acc' st3,
      fun H3 q3 => ⟨I.items.length - (i + 1), by omega, rfl, hlt, q3⟩, fun x H3 y => ?_⟩
    obtain ⟨e3, s3, r3⟩ := rI.yld i f2 st2 H2 I.items[i] x H3 eI s2 gd (by simp [hlt]) y
    have R3 : Rel K f2 (wipeE ρ vs) st2 (L2.wipe σ vs) H3 := (Rel.wipe R).later ((e1.trans eI).trans e3) s3
    refine ⟨f2, _, st2, I.items[i], _, R3, r3, q2, fun ρ4 st4 σ4 f4 H4 q4 e4 R4 o4 => ⟨Out.wipe ⟨o4.1, fun j hj => o4.2 j fun z => hj (hws j z)⟩, ?_⟩⟩
    refine ⟨f4, ρ4, st4, _, R4, q4, fun b st5 f5 H5 q5 e5 s5 => ?_⟩
    have e15 := e2.trans (e3.trans (e4.trans e5))
    cases b with
    | false =>
      obtain ⟨h1, h2⟩ := q5.2 rfl
      exact ⟨f5, st5, acc, e15, s5, h1, h2⟩
    | true =>
      refine ⟨f5, ρ4, st5, _, R4.later e5 s5, q5.1 rfl, fun y st6 v f6 H6 q6 e6 s6 r6 => ⟨f6, ρ4, st6, _, R4.later (e5.trans e6) s6, q6, fun z st7 w f7 H7 q7 e7 s7 r7 => ?_⟩⟩
      obtain ⟨k, rfl, h1, h2, h3⟩ := q7
      have e17 := (e15.trans e6).trans e7
      obtain ⟨a', ks, k1, k2, k3, k4⟩ := s7.rdD h1
      rw [e17.at hn0] at k1; cases k1
      obtain ⟨p1, p2⟩ := put_at (k := k) r7 k3 k4
      obtain ⟨s8, e8⟩ := s7.putDic (e17.at hn0) h1 k2 p1 p2
      obtain rfl := keyD_V r6
      have hlen : ks.length < sizeLine := by
        have := congrArg List.length k3
        simp at this
        rw [this, ← szl_eq]; exact h2
      refine ⟨ks, k, rfl, k2, hlen, f7, _, putD acc k z, e17.trans e8, s8, ?_, h3⟩
      have hl : st1.length < st7.length := (List.getElem?_eq_some_iff.mp h1).1
      unfold Pd.rdD
      rw [List.getElem?_set_self hl]
  · have e : i = I.items.length := by omega
    subst e
    rw [List.drop_length] at q2
    obtain ⟨gd, h1, h2⟩ := q2
    exact .inl ⟨rI.stop f2 st2 H2 eI s2 gd, l _ st2 _ f2 H2 h2 (e1.trans eI) s2 (RD.ref.mpr ⟨D, e2.at hn0, rfl⟩)⟩
theorem pd_dc {kx vx tg iter : Expr} {ifs : List Expr} {scope : Scope} {own : List (Str × Nat)} {wi : TI} {g : TG} {tt : TT} {tk tv : TE} {ws : List Nat} (hc : X.calm = true) (hN : X.N.Nodup) (hi : PDI X tg iter wi) (ok : L2.BlkOk X.N X.env.scope scope own)
    (hg : ∀ (s : Shared) (H : Hp) (C : Addr) (cl : List (Str × Addr)) (fp : List Addr), PDG (X.blk s H scope (compEnvC scope cl C X.env) fp) tg g ws) (ht : ∀ (s : Shared) (H : Hp) (C : Addr) (cl : List (Str × Addr)) (fp : List Addr), PDTs (X.blk s H scope (compEnvC scope cl C X.env) fp) ifs tt)
    (hk : ∀ (s : Shared) (H : Hp) (C : Addr) (cl : List (Str × Addr)) (fp : List Addr), PD (X.blk s H scope (compEnvC scope cl C X.env) fp) kx tk) (he : ∀ (s : Shared) (H : Hp) (C : Addr) (cl : List (Str × Addr)) (fp : List Addr), PD (X.blk s H scope (compEnvC scope cl C X.env) fp) vx tv)
    (hws : ∀ j, j ∈ ws → j ∈ own.map (·.2)) (hs : ∀ x, foldedSetIterable iter X.env x = pure x := by intro _; rfl) :
    PD X (.DictComp kx vx [⟨tg, iter, ifs, 0⟩] scope pos) (dDc wi g tt tk tv (own.map (·.2))) :=
  pe_imp (L2.pe_dc hc hN hi ok hg ht hk he hs) fun σ H Q h => dc_core hws h
end
end
section
open PySem.W PyProof.Rows
/-- the int that a key is -/
theorem int_key {i : Int} {v : Value} (h : L2.keyIs (.inl i) v = true) : ∃ t, v = .int i t := by
  rcases L2.keyIs_shape h with ⟨j, t, e1, e2⟩ | ⟨x, t, e1, _⟩
  · cases e1; exact ⟨t, e2⟩
  · cases e1
theorem ints_keys : ∀ {vs : List Value} {ns : List Int}, vs.length = ns.length → (∀ (j : Nat) (v : Value) (i : Int), vs[j]? = some v → ns[j]? = some i → ∃ t, v = .int i t) → IntsAre vs ns
  | [], [], _, _ => .nil
  | [], _ :: _, h, _ => by simp at h
  | _ :: _, [], h, _ => by simp at h
  | v :: vs, i :: ns, h, g => by
    obtain ⟨t, rfl⟩ := g 0 v i rfl rfl
    exact .cons i t (ints_keys (by simpa using h) fun j v i h1 h2 => g (j + 1) v i (by simpa using h1) (by simpa using h2))
theorem kv_keys {ks : List (L2.Key × L2.V)} {xs : List (L2.Key × Value)} (h : L2.KV ks xs) : xs.map (·.1) = ks.map (·.1) := by
  induction h with
  | nil => rfl
  | cons p _ ih => rw [List.map_cons, List.map_cons, ih, p.1]
def rSortedDK : List L2.V → Hp → L2.VK → Prop := fun vs H Q => ∃ (a : Addr) (ks : List (L2.Key × L2.V)) (ns : List Int), vs = [L2.V.ref a] ∧ H a = some (.dK ks) ∧ ks.map (·.1) = ns.map Sum.inl ∧
  ∀ (ns' : List Int) (p : Addr), ns'.Perm ns → ns'.Pairwise (· ≤ ·) → H p = none → Q (.ref p) (L2.upd H p (.lst (ns'.map L2.V.int)))
theorem cr_sortedDK {X : L2.Cx} (hc : X.calm = true) : L2.CallR X (.builtin "sorted") rSortedDK := by
  intro pins s σ H vs us Q I r h
  obtain ⟨a, ks, ns, rfl, ha, hk, q⟩ := h
  have held := I.ok.hd hc
  rw [L2.Vals.ref1 r]
  obtain ⟨size, other, xs, rel, dict⟩ := L2.dk_rd I.hok (.inl ha)
  obtain ⟨ep, there⟩ := dict.dictAt
  have keys := (kv_keys rel).trans hk
  have many : xs.length = ns.length := by simpa using congrArg List.length keys
  have few : xs.length ≤ sizeLine := by
    have := congrArg List.length (kv_keys rel)
    simp at this
    omega
  have source := kdl_dict (prog := X.prog) (w := X.w) (knd := L2.mixKind X.prog X.w) (d := a) (kvs := xs) (ep := ep) other
  refine Calls.call_function_entry kind_sorted plain_sorted entry_sorted (args_sorted1 _) ?_
  unfold Builtin.«sorted»
  refine wpAny_bind (m := checkCount "sorted" 1 1 _) (wpAny_pure (wpAny_bind (kdu_collect (A := X.A.in1) source held there few fun h1 t1 acc old items => ?_)))
  have long : acc.toList.length = xs.length := by rw [Array.length_toList]; exact items.1
  have nums : IntsAre acc.toList ns := ints_keys (by rw [long, many]) fun j v i hv hi => by
    obtain ⟨k, x, hx, is⟩ := items.2 j v (by rw [← Array.getElem?_toList]; exact hv)
    have e : (xs.map (·.1))[j]? = some k := by rw [List.getElem?_map, hx]; rfl
    rw [keys, List.getElem?_map, hi] at e
    cases e
    exact int_key is
  refine wpAny_bind (wpAny_newList ?_ (by rw [long]; exact few))
  have made : (h1.push (seqObj "list" acc.toList.toArray 0)).get? h1.objs.size = some (seqObj "list" acc.toList.toArray 0) := Heap.get?_push_size _ rfl
  have sort := SrtO.list_sort_ord (prog := X.prog) (w := X.w) (A := X.A.in1.in1) (s := { s with heap := h1.push (seqObj "list" acc.toList.toArray 0), toks := t1 }) (E := X.xe) (vs := acc.toList)
    (R := fun fin s' => ∃ out : List Value, fin = .done (.ret .none) ∧ SrtO.Srtd SrtO.ltIv out ∧ SrtO.Stb SrtO.ltIv out acc.toList ∧ s' = { s with heap := sortedHeap (h1.push (seqObj "list" acc.toList.toArray 0)) h1.objs.size acc.toList out.toArray, toks := t1 })
    SrtO.swo_int made (by rw [long]; exact few) (fun two => SrtO.ints_sortable nums two) fun out g1 g2 => ⟨out, rfl, g1, g2, rfl⟩
  refine wpAny_bind (wpAny_holding (wpAny_call_entry slot_list_sort ⟨_, made, rfl⟩ entry_list_sort (wpAny_mono sort (fun fin s' ⟨out, e1, g1, g2, e2⟩ => ?_) fun _ _ z => z) (args_list_sort _)))
  subst e1; subst e2
  refine ⟨_, rfl, wpAny_pure ⟨_, rfl, ?_⟩⟩
  obtain ⟨k1, k2, k3⟩ := SrtO.ints_out nums g1 g2
  obtain ⟨ep', at'⟩ := sortedHeap_at (vs := acc.toList) (out := out.toArray) made
  have I1 : L2.Inv X pins σ H { s with heap := h1, toks := t1 } := I.kept (t' := t1) old
  have small : ((out.map SrtO.iv).map L2.V.int).length ≤ sizeLine := by
    rw [List.length_map, k2.length_eq, ← many]; exact few
  refine ⟨.ref h1.objs.size, L2.upd H h1.objs.size (.lst ((out.map SrtO.iv).map L2.V.int)), I1.laid (t' := t1) (fun b u z1 => ?_) (Nat.le_refl _) ⟨small, out, ep', L2.vals_of_ints k1, at'⟩, rfl, q _ _ k2 k3 (I1.hok.fresh (Nat.le_refl _))⟩
  have z2 := Heap.lt_size z1
  rw [sortedHeap_old (Nat.ne_of_lt z2) (by rw [size_push']; exact Nat.lt_succ_of_lt z2)]
  exact Heap.get?_push_of_some _ z1
theorem real_sortedDB {K : Kf} : RealB K rSortedDK sortedDB :=
  realB1 (kb1 (fun _ _ h => h) fun x y xs st Q h => by cases x <;> exact h) fun f st H x v Q' Q s r h l => by
    cases x <;> try (exact h.elim)
    rw [RD.ref] at r
    obtain ⟨a, e, rfl⟩ := r
    obtain ⟨kvs, ns, h1, h2, h3⟩ := h
    obtain ⟨a', ks, k1, k2, k3, k4⟩ := s.rdD h1
    rw [e] at k1; cases k1
    exact ⟨a, ks, ns, rfl, k2, k3.trans h2, fun ns' p hp hi hn => l.lst s (h3 ns' hp hi) (RDs.of_ints ns') hn⟩
end
section
variable {X : L2.Cx} {K : Kf} {pos : Pos}
open L2 in
/-- y = {k: v for ..}: the name is written within the comprehension's frame -/
theorem asg_dc {i : Nat} {y : Str} {py line : Pos} {kx vx tg iter : Expr} {ifs : List Expr} {scope : Scope} {own : List (Str × Nat)} {wi : L2.TI} {g : L2.TG} {tt : L2.TT} {tk tv : L2.TE} (calm : X.calm = true) (nd : X.N.Nodup) (slot : X.N[i]? = some y) (local' : X.env.scope.names.lookup y = some .local)
    (sw : swapsWith (.DictComp kx vx [⟨tg, iter, ifs, 0⟩] scope pos) (some (.Name y py)) line.line X.env = pure true) (hi : L2.PI X tg iter wi) (ok : L2.BlkOk X.N X.env.scope scope own)
    (hg : ∀ (s : Shared) (H : Hp) (C : Addr) (cl : List (Str × Addr)) (fp : List Addr), L2.PG (X.blk s H scope (compEnvC scope cl C X.env) fp) tg g)
    (ht : ∀ (s : Shared) (H : Hp) (C : Addr) (cl : List (Str × Addr)) (fp : List Addr), L2.PTs (X.blk s H scope (compEnvC scope cl C X.env) fp) ifs tt)
    (hk : ∀ (s : Shared) (H : Hp) (C : Addr) (cl : List (Str × Addr)) (fp : List Addr), L2.PE (X.blk s H scope (compEnvC scope cl C X.env) fp) kx tk)
    (hv : ∀ (s : Shared) (H : Hp) (C : Addr) (cl : List (Str × Addr)) (fp : List Addr), L2.PE (X.blk s H scope (compEnvC scope cl C X.env) fp) vx tv) (fold : ∀ x, foldedSetIterable iter X.env x = pure x := by intro _; rfl) :
    L2.PS X (.Assign [.Name y py] (.DictComp kx vx [⟨tg, iter, ifs, 0⟩] scope pos) line) (fun D σ H => L2.tDc wi g tt tk tv (own.map (·.2)) σ H fun x H1 => L2.gName i x σ H1 D.nx) := by
  constructor
  intro pins s σ H D I want
  rw [exec_Assign_Name_used _ _ _ _ sw]
  have made := L2.dc_core (pos := pos) (use := some (assign (.Name y py) X.env)) (pos' := firstIterPos [⟨tg, iter, ifs, 0⟩] pos) (Qf := fun _ s' => L2.SP X pins D .next s') calm nd I hi ok hg ht hk hv fold want fun L C s1 m H1 I1 at' ns ⟨fr0, fr1, fr2, fr3, fr4, fr5⟩ => by
    show wpAny _ _ (assign (.Name y py) X.env (.ref L)) _ _ _
    refine wpAny_assign_Name (L2.store_ok2 (v := L2.V.ref L) I1 nd slot (.inl local') rfl (fun s2 I2 ⟨b, same, where'⟩ => ?_) (.inr local'))
    have apart : C ≠ b := where'.elim (fun z => by rw [z]; exact fr1) fun z e => fr4 y b z e.symm
    exact ⟨m, ns.sameBut same apart, fun h3 sb3 => ⟨_, H1, I2.turned (t' := s2.toks) (fun c o hc z => (sb3.2 c hc).trans z) fr0 fr1 fr3 fr4 fr5, at'⟩⟩
  refine wpAny_bind (wpAny_standAt (wpAny_bind ?_))
  show wpAny _ X.A (comprehension (.DictComp kx vx [⟨tg, iter, ifs, 0⟩] scope pos) scope X.env (firstIterPos [⟨tg, iter, ifs, 0⟩] pos) newDict false (eval iter X.env) (some (assign (.Name y py) X.env)) >>= fun _ => pure ()) _ _ s
  exact wpAny_bind (wpAny_mono made (fun _ s' q => wpAny_pure (wpAny_pure q)) fun _ _ z => z)
theorem swD_true {kx vx : Expr} {gs : List Comprehension} {scope : Scope} {py : Pos} {y : Str} {l : Nat} {env : PySem.Env} (kind : env.scope.kind = .function) (loc : env.scope.names.lookup y = some .local) (at' : (py.line == pos.line) = true)
    (free : (scope.names.any fun (n, k) => n == y && (k == .local || k == .cell)) = false) : swapsWith (.DictComp kx vx gs scope pos) (some (.Name y py)) l env = pure true := by
  have k1 : env.kindOf y = some .local := loc
  have k2 : env.blockKind = .function := by unfold PySem.Env.blockKind; rw [kind]; rfl
  unfold swapsWith
  simp only [k1, k2, free, Expr.pos, at']
  rfl
theorem ps_setDc {j : Nat} {y : Str} {py spos : Pos} {kx vx tg iter : Expr} {ifs : List Expr} {scope : Scope} {own : List (Str × Nat)} {wi : TI} {g : TG} {tt : TT} {tk tv : TE} {ws : List Nat} (hc : X.calm = true) (hN : X.N.Nodup) (hy : X.N[j]? = some y) (hyl : X.env.scope.names.lookup y = some .local)
    (hsw : swapsWith (.DictComp kx vx [⟨tg, iter, ifs, 0⟩] scope pos) (some (.Name y py)) spos.line X.env = pure true) (hi : PDI X tg iter wi) (ok : L2.BlkOk X.N X.env.scope scope own)
    (hg : ∀ (s : Shared) (H : Hp) (C : Addr) (cl : List (Str × Addr)) (fp : List Addr), PDG (X.blk s H scope (compEnvC scope cl C X.env) fp) tg g ws) (ht : ∀ (s : Shared) (H : Hp) (C : Addr) (cl : List (Str × Addr)) (fp : List Addr), PDTs (X.blk s H scope (compEnvC scope cl C X.env) fp) ifs tt)
    (hk : ∀ (s : Shared) (H : Hp) (C : Addr) (cl : List (Str × Addr)) (fp : List Addr), PD (X.blk s H scope (compEnvC scope cl C X.env) fp) kx tk) (he : ∀ (s : Shared) (H : Hp) (C : Addr) (cl : List (Str × Addr)) (fp : List Addr), PD (X.blk s H scope (compEnvC scope cl C X.env) fp) vx tv)
    (hws : ∀ j, j ∈ ws → j ∈ own.map (·.2)) (hs : ∀ x, foldedSetIterable iter X.env x = pure x := by intro _; rfl) :
    PDS X (.Assign [.Name y py] (.DictComp kx vx [⟨tg, iter, ifs, 0⟩] scope pos) spos) (sAsg (dDc wi g tt tk tv (own.map (·.2))) (gName j)) :=
  ps_imp (asg_dc hc hN hy hyl hsw hi ok hg ht hk he hs) fun D σ H ⟨f, ρ, st, D', R, h, l⟩ =>
    dc_core (Q := fun x H1 => L2.gName j x σ H1 D.nx) hws ⟨f, ρ, st, _, R, h, fun x st1 v f1 H1 q e1 s1 r1 => l.nx _ st1 _ f1 H1 q e1 ((R.later e1 s1).put r1)⟩
end
end Pd
end PartPdSoundI

section PartPdMore3
set_option Elab.async false
set_option linter.all false
set_option maxRecDepth 100000
/-! Pd: more readings: list.extend of lists and tuples, list.pop(), list.reverse(), range downwards. Own work. -/
namespace Pd
open PySem
/-- extend by a list or a tuple -/
def extendAM : KM
  | .ref n, [.tup ys], st, Q => ∃ xs, rdL st n xs ∧ xs.length + ys.length ≤ szl ∧ Q .non (st.set n (.lst (xs ++ ys)))
  | x, ys, st, Q => extendM x ys st Q
/-- .pop() -/
def popEM : KM
  | .ref n, [], st, Q => ∃ xs d, rdL st n (xs ++ [d]) ∧ Q d (st.set n (.lst xs))
  | _, _, _, _ => False
def reverseM : KM
  | .ref n, [], st, Q => ∃ xs, rdL st n xs ∧ Q .non (st.set n (.lst xs.reverse))
  | _, _, _, _ => False
/-- a method without arguments -/
def dM0 (ty : D → Store → Prop) (k : KM) (to : TE) : TE := fun σ st Q => to σ st fun o st1 => ty o st1 ∧ k o [] st1 Q
def rngD (hi : Int) (n : Nat) : List D := (List.range n).map fun (k : Nat) => D.int (hi - k)
/-- range(i, j, -1) -/
def iRD (t u : TE) : TI := fun σ st R => t σ st fun x st1 => u σ st1 fun y st2 => ∃ i j, x = .int i ∧ y = .int j ∧ (-(2 ^ 62) ≤ i ∧ i < 2 ^ 62 ∧ -(2 ^ 62) ≤ j ∧ j < 2 ^ 62) ∧ R ⟨rngD i (i - j).toNat, fun _ => True⟩ st2
section
variable {σ : Env} {st : Store} {Q : K} {ta tb to : TE} {ty : D → Store → Prop} {k : KM}
instance : Red (dM0 ty k to σ st Q) (to σ st fun o st1 => ty o st1 ∧ k o [] st1 Q) := ⟨id⟩
instance {R : Iter → Store → Prop} : Red (iRD ta tb σ st R) (ta σ st fun x st1 => tb σ st1 fun y st2 => ∃ i j, x = .int i ∧ y = .int j ∧ (-(2 ^ 62) ≤ i ∧ i < 2 ^ 62 ∧ -(2 ^ 62) ≤ j ∧ j < 2 ^ 62) ∧ R ⟨rngD i (i - j).toNat, fun _ => True⟩ st2) := ⟨id⟩
end
theorem extendT_at {st : Store} {n : Nat} {xs ys : List D} {Q : K} (h : rdL st n xs) (hl : xs.length + ys.length ≤ szl) (q : Q .non (st.set n (.lst (xs ++ ys)))) : extendAM (.ref n) [.tup ys] st Q := ⟨xs, h, hl, q⟩
theorem pop_at {st : Store} {n : Nat} {xs : List D} {d : D} {Q : K} (h : rdL st n (xs ++ [d])) (q : Q d (st.set n (.lst xs))) : popEM (.ref n) [] st Q := ⟨xs, d, h, q⟩
/-- over range(i, j, -1) -/
theorem for_rngD {gd : Store → Prop} {g : TG} {tb : TS} {D0 : Ends} {hi : Int} {n : Nat} {σ : Env} {st : Store} (Pv : Nat → Env → Store → Prop) (h0 : Pv 0 σ st)
    (hs : ∀ k σ st, k < n → Pv k σ st → ∀ N : Env → Store → Prop, (∀ σ st, Pv (k + 1) σ st → N σ st) → gd st ∧ g (.int (hi - k)) σ st fun σ2 st2 => tb { D0 with nx := N, ct := N, bk := D0.nx } σ2 st2)
    (hd : ∀ σ st, Pv n σ st → gd st ∧ D0.nx σ st) : forLoop gd g tb D0 (rngD hi n) σ st := by
  refine for_by (fun pre σ st => Pv pre.length σ st) h0 (fun pre x post σ st e h N hN => ?_) (fun σ st h => hd σ st (by simpa [rngD] using h))
  have hl : pre.length < n := by
    have := congrArg List.length e
    simp [rngD] at this
    omega
  have hx : x = .int (hi - pre.length) := by
    have h2 : (rngD hi n)[pre.length]? = some x := by rw [e]; simp
    unfold rngD at h2
    rw [List.getElem?_map, List.getElem?_range hl] at h2
    simpa using h2.symm
  subst hx
  exact hs pre.length σ st hl h N fun σ st h' => hN σ st (by simpa using h')
end Pd
end PartPdMore3

section PartPdSoundK
set_option Elab.async false
set_option linter.all false
set_option maxRecDepth 100000
set_option maxHeartbeats 1000000
/-! Pd over the hand layer: list.extend, list.pop(), list.reverse(), range downwards. Own work. -/
namespace Pd
open PySem PySem.Spec
section
variable {X : L2.Cx} {K : Kf} {f f' : List Addr} {H H' : Hp} {st st' : Store} {ρ : Env} {σ : L2.St}
def rExtT (K : Kf) : L2.V → List L2.V → Hp → L2.VK → Prop := fun x vs H Q => ∃ l b xs zs, x = .ref l ∧ vs = [.ref b] ∧ H l = some (.lst xs) ∧ L2.SqT K H b zs ∧ xs.length + zs.length ≤ sizeLine ∧ Q .non (L2.upd H l (.lst (xs ++ zs)))
section
open PyProof.Rows L2
theorem list_extend_tup (l : Addr) (items : Array Value) (n : Nat) (b : Addr) (items2 : Array Value) (hs0 : ¬(!items.isEmpty && Builtin.List.listTooLong (items.size + items2.size)) = true) (hs1 : items.size ≤ sizeLine) (hs2 : items.size + items2.size ≤ sizeLine + 1) :
    Meets (Builtin.«list.extend» ⟨[.ref l, .ref b], []⟩) (fun _ R s => s.heap.get? l = some { cls := .type "list", dict := none, data := .seq items n, slots := #[] } ∧ (∃ (od : Option Addr) (os2 : Array (Option Value)) (n2 : Nat), s.heap.get? b = some { cls := .type "tuple", dict := od, data := .seq items2 n2, slots := os2 }) ∧ R (.ok (.ret Value.none)) { s with heap := s.heap.update l (Obj.mapSeq fun x => x ++ items2), toks := s.toks }) :=
  .of_wp fun prog w A R s h => by
    obtain ⟨hp, g, d, tk, os⟩ := s; obtain ⟨hl, ⟨od, os2, n2, hb⟩, h⟩ := h
    have f1 := AutoSeq1.idx_int; have f2 := AutoSeq1.sub_tuple_tuple; have f3 := AutoSeq1.sub_list_list; have f4 := AutoSeq1.sub_tuple_list; have f5 := AutoSeq1.sub_list_tuple
    have hz' : (items ++ items2).size ≤ sizeLine + 1 := by rw [Array.size_append]; exact hs2
    wp_walk using (wpAny_updateSeq hl rfl (hz := hs1) (_hz' := hz')), AutoSeq1.wpAny_loadPart' hl, AutoSeq1.wpAny_loadPart' hb; exact ⟨_, rfl, h⟩
end
theorem mt_extT : L2.MtR X "list.extend" (rExtT X.K) := by
  intro pins s σ H x vs v us Q I rx rv h
  obtain ⟨l, b, xs, zs, rfl, rfl, hH, hB, hz, q⟩ := h
  cases rx
  obtain ⟨u, rfl, ru⟩ := rv.one
  cases ru
  obtain ⟨z, its, n, r, hl, e⟩ := I.lstM hH
  obtain ⟨its2, r2, ⟨o2, e2, c2, n2, d2⟩, z2⟩ := I.tuple hB
  have hl2 := r2.length
  obtain ⟨ocls, odict, odata, oslots⟩ := o2
  simp only at c2 d2
  subst c2; subst d2
  have hsz : its.toArray.size + its2.toArray.size ≤ sizeLine := by rw [List.size_toArray, List.size_toArray]; omega
  have hlong : ¬ (!its.toArray.isEmpty && Builtin.List.listTooLong (its.toArray.size + its2.toArray.size)) = true := by
    rw [L2.notLongL hsz, Bool.and_false]
    exact Bool.false_ne_true
  refine call_meets F.slot_list_extend ⟨_, e, rfl⟩ F.entry_list_extend (F.args_list_extend_2 _ _)
    (list_extend_tup l its.toArray n b its2.toArray hlong (by rw [List.size_toArray]; omega) (by omega)) ⟨e, ⟨odict, oslots, n2, e2⟩, ?_⟩
  refine ⟨.non, _, I.lset (its' := its ++ its2) hH e (by simp) (r.append r2) ?_, rfl, q⟩
  rw [List.length_append]
  omega
theorem real_extendA : RealM K (fun x vs H Q => rExtT K x vs H Q ∨ L2.rExtend x vs H Q) extendAM := fun f st H x xs v vs Q' Q s r1 r2 h l => by
  by_cases ht : ∃ n ys, x = .ref n ∧ xs = [.tup ys]
  · obtain ⟨n, ys, rfl, rfl⟩ := ht
    obtain ⟨zs, h1, h2, h3⟩ := h
    rw [RD.ref] at r1
    obtain ⟨a, e, rfl⟩ := r1
    obtain ⟨w, rfl, r3⟩ := r2.inv1
    rw [RD.tup] at r3
    obtain ⟨b, ws, rfl, j2, j3⟩ := r3
    obtain ⟨a', us, k1, k2, k3⟩ := s.rdL h1
    rw [e] at k1; cases k1
    obtain ⟨s', e'⟩ := s.put e h1 k2 (k3.append j3)
    exact .inl ⟨a, b, us, ws, rfl, rfl, k2, j2, by rw [k3.length, j3.length, ← szl_eq]; exact h2, l _ _ _ f _ h3 e' s' (RD.non.mpr rfl)⟩
  · have h' : extendM x xs st Q' := by
      unfold extendAM at h
      split at h
      · exact absurd ⟨_, _, rfl, rfl⟩ ht
      · exact h
    exact .inr (real_extend f st H x xs v vs Q' Q s r1 r2 h' l)
theorem mt_extendA : L2.MtR X "list.extend" (fun x vs H Q => rExtT X.K x vs H Q ∨ L2.rExtend x vs H Q) := L2.MtR.or mt_extT L2.mt_extend
theorem real_popE : RealM K L2.rPop popEM := fun f st H x xs v vs Q' Q s r1 r2 h l => by
  cases x <;> try (exact h.elim)
  match xs, h with
  | _ :: _, h => exact h.elim
  | [], h =>
    obtain ⟨ys, d, h1, h2⟩ := h
    rw [RD.ref] at r1
    obtain ⟨a, e, rfl⟩ := r1
    rw [RDs.nil] at r2
    subst r2
    obtain ⟨a', us, k1, k2, k3⟩ := s.rdL h1
    rw [e] at k1; cases k1
    have hlen := k3.length
    rw [List.length_append] at hlen
    have hlen : us.length = ys.length + 1 := hlen
    obtain ⟨w, hw, rw'⟩ := k3.get (i := ys.length) (d := d) (by simp)
    have kd : RDs K f H ys us.dropLast := by
      have := k3.take ys.length
      rw [List.take_left] at this
      rw [List.dropLast_eq_take, hlen]
      exact this
    obtain ⟨s', e'⟩ := s.put e h1 k2 kd
    exact ⟨a, us, w, rfl, rfl, k2, by rw [hlen]; exact hw, l _ _ _ f _ h2 e' s' (rw'.mono e')⟩
theorem RDs.reverse : ∀ {ds : List D} {vs : List L2.V}, RDs K f H ds vs → RDs K f H ds.reverse vs.reverse
  | [], _, h => by rw [RDs.nil] at h; subst h; simp [RDs.nil]
  | d :: ds, _, h => by
    rw [RDs.cons] at h
    obtain ⟨v, r, rfl, h2, h3⟩ := h
    rw [List.reverse_cons, List.reverse_cons]
    exact (RDs.reverse h3).append (RDs.one h2)
theorem real_reverse : RealM K L2.rReverse reverseM := fun f st H x xs v vs Q' Q s r1 r2 h l => by
  cases x <;> try (exact h.elim)
  match xs, h with
  | _ :: _, h => exact h.elim
  | [], h =>
    obtain ⟨ys, h1, h2⟩ := h
    rw [RD.ref] at r1
    obtain ⟨a, e, rfl⟩ := r1
    rw [RDs.nil] at r2
    subst r2
    obtain ⟨a', us, k1, k2, k3⟩ := s.rdL h1
    rw [e] at k1; cases k1
    obtain ⟨s', e'⟩ := s.put e h1 k2 k3.reverse
    exact ⟨a, us, rfl, rfl, k2, l _ _ _ f _ h2 e' s' (RD.non.mpr rfl)⟩
section
variable {o : Expr} {to : TE} {pos apos : Pos} {name : Str} {T id : String}
theorem pd_m0 {r : L2.V → List L2.V → Hp → L2.VK → Prop} {k : KM} {ty : D → Store → Prop} (hm : L2.MtR X id r) (hk : RealM X.K r k) (ht : RealTy X.K T ty) (pa : PlainAttrs T) (slot : Slot T name id) (hty : typeOf (.builtin id) = pure (.type "method_descriptor")) (ho : PD X o to)
    (hbase : attributeBase o name X.env (eval o X.env) = eval o X.env := by rfl) (hline : (apos.endLine == pos.line) = true := by rfl) : PD X (.Call (.Attribute o name apos) [] [] pos) (dM0 ty k to) :=
  pe_imp (L2.pe_bm0 pa slot hty hm ho hbase hline) fun σ H Q ⟨f, ρ, st, Q', R, h, l⟩ => ⟨f, ρ, st, _, R, h, fun x st1 v f1 H1 q1 e1 s1 r1 => ⟨ht f1 st1 H1 x v s1 r1 q1.1, hk f1 st1 H1 x [] v [] Q' Q s1 r1 (RDs.nil.mpr rfl) q1.2 (l.later e1)⟩⟩
end
theorem realI_rngD {i : Int} {n : Nat} : RealI K f H ⟨rngD i n, fun _ => True⟩ (L2.Itc i (-1) n) where
  go := fun k f2 st2 H2 e2 s2 g hk => by
    have : k < (rngD i n).length := hk
    unfold rngD at this
    rw [List.length_map, List.length_range] at this
    exact this
  stop := fun f2 st2 H2 e2 s2 g => by
    show n ≤ (rngD i n).length
    unfold rngD
    simp
  yld := fun k f2 st2 H2 d x H3 e2 s2 g hd y => by
    obtain ⟨rfl, rfl⟩ := y
    refine ⟨.refl, s2, ?_⟩
    have hd' : (rngD i n)[k]? = some d := hd
    unfold rngD at hd'
    rw [List.getElem?_map] at hd'
    cases q : (List.range n)[k]? with
    | none => rw [q] at hd'; cases hd'
    | some j =>
      rw [q] at hd'
      obtain ⟨h1, h2⟩ := List.getElem?_eq_some_iff.mp q
      simp at h2
      subst h2
      simp at hd'
      subst hd'
      rw [RD.int]
      congr 1
      omega
theorem pi_rD {tg a b : Expr} {ta tb : TE} {p p1 p2 pos : Pos} {k1 : _} (hg : L2.Gl X "range") (hm : X.mg "range" = none) (h : PD X a ta) (h' : PD X b tb)
    (hs : starEach [a, b, .UnaryOp .USub (.Constant (.int 1) k1 p1) p2] X.env = (false, eval a X.env) :: starEach [b, .UnaryOp .USub (.Constant (.int 1) k1 p1) p2] X.env := by rfl) (hs2 : starEach [b, .UnaryOp .USub (.Constant (.int 1) k1 p1) p2] X.env = (false, eval b X.env) :: starEach [.UnaryOp .USub (.Constant (.int 1) k1 p1) p2] X.env := by rfl)
    (hs3 : starEach [.UnaryOp .USub (.Constant (.int 1) k1 p1) p2] X.env = (false, eval (.UnaryOp .USub (.Constant (.int 1) k1 p1) p2) X.env) :: starEach [] X.env := by rfl) (hpl : (backTo pos (starEach [b, .UnaryOp .USub (.Constant (.int 1) k1 p1) p2] X.env)).any (·.1) = false := by rfl) :
    PDI X tg (.Call (.Name "range" p) [a, b, .UnaryOp .USub (.Constant (.int 1) k1 p1) p2] [] pos) (iRD ta tb) :=
  pi_imp (L2.pi_range3 hg hm (L2.pa_cons h (L2.pa_cons h' (L2.pa_cons (pd_neg pd_int) L2.pa_nil hs3) hs2) hs) hs hpl) fun σ H R ⟨f, ρ, st, R', Re, h, l⟩ => ⟨f, ρ, st, _, Re, h, fun x st1 v f1 H1 q1 e1 s1 r1 => ⟨f1, ρ, st1, _, Re.later e1 s1, q1, fun y st2 w f2 H2 q2 e2 s2 r2 => by
    obtain ⟨i, j, rfl, rfl, ⟨b1, b2, b3, b4⟩, h3⟩ := q2
    have r1' := r1.mono e2
    rw [RD.int] at r1' r2
    subst r1'; subst r2
    refine ⟨f2, ρ, st2, fun z st3 => z = .int (-1) ∧ st3 = st2, Re.later (e1.trans e2) s2, ⟨rfl, rfl⟩, fun z st3 u f3 H3 q3 e3 s3 r3 => ?_⟩
    obtain ⟨rfl, rfl⟩ := q3
    rw [RD.int] at r3
    subst r3
    exact ⟨i, j, -1, _, rfl, L2.RgC.neg b1 b2 b3 b4, l _ _ _ f3 H3 h3 ((e1.trans e2).trans e3) s3 realI_rngD⟩⟩⟩
end
end Pd
end PartPdSoundK

section PartPdMore4
set_option Elab.async false
set_option linter.all false
set_option maxRecDepth 100000
/-! Pd: more readings: *x in a call's arguments, `in` of any pure data. Own work. -/
namespace Pd
open PySem
/-- the items of a list or a tuple, as arguments -/
def starK : D → Store → (List D → Prop) → Prop
  | .tup xs, _, Q => Q xs
  | .ref n, st, Q => ∃ xs, rdA st n xs ∧ Q xs
  | _, _, _ => False
def aStar (te : TE) (r : TA) : TA := fun σ st Q => te σ st fun x st1 => starK x st1 fun xs => r σ st1 fun ys st2 => Q (xs ++ ys) st2
/-- x in a list or a tuple, of any pure data -/
def inDC : KC
  | x, .tup xs, _, Q => D.okd 60 x = true ∧ okds 60 xs = true ∧ Q (xs.any fun y => D.eqb y x)
  | x, .ref n, st, Q => ∃ xs, rdA st n xs ∧ D.okd 60 x = true ∧ okds 60 xs = true ∧ Q (xs.any fun y => D.eqb y x)
  | _, _, _, _ => False
def notinDC : KC := fun x y st Q => inDC x y st fun b => Q (!b)
section
variable {σ : Env} {st : Store} {te : TE} {r : TA} {q : List D → Store → Prop} {x : D} {xs : List D}
instance : Red (aStar te r σ st q) (te σ st fun x st1 => starK x st1 fun xs => r σ st1 fun ys st2 => q (xs ++ ys) st2) := ⟨id⟩
instance {Q : List D → Prop} : Red (starK (.tup xs) st Q) (Q xs) := ⟨id⟩
end
theorem star_at {st : Store} {n : Nat} {xs : List D} {Q : List D → Prop} (h : rdL st n xs) (q : Q xs) : starK (.ref n) st Q := ⟨xs, .inl h, q⟩
end Pd
end PartPdMore4

section PartPdSoundL
set_option Elab.async false
set_option linter.all false
set_option maxRecDepth 100000
set_option maxHeartbeats 1000000
/-! Pd over the hand layer: starred arguments, `in` of any pure data. Own work. -/
namespace Pd
open PySem PySem.Spec
mutual
theorem reads_fun {h : Heap} : ∀ (d d' : PyData) (v : Value) (as as' : List Addr), d.canLay0 = true → Reads h v d as → Reads h v d' as' → d = d'
  | .none, _, _, _, _, _, r, r' => by cases r; cases r'; rfl
  | .bool _, _, _, _, _, _, r, r' => by cases r; cases r'; rfl
  | .int _, _, _, _, _, _, r, r' => by cases r; cases r'; rfl
  | .str _, _, _, _, _, _, r, r' => by cases r; cases r'; rfl
  | .list xs, d', _, _, _, ha, r, r' => by
    cases r with
    | list h1 h2 h3 h4 =>
      cases r' with
      | list k1 k2 k3 k4 =>
        rw [h1] at k1; cases k1
        rw [h3] at k3; cases k3
        rw [readsAll_fun xs _ _ _ _ (by simpa [PyData.canLay0] using ha) h4 k4]
      | tuple k1 k2 k3 k4 =>
        rw [h1] at k1; cases k1
        rw [h2] at k2; exact absurd k2 (by decide)
      | dict k1 k2 k3 k4 k5 =>
        rw [h1] at k1; cases k1
        rw [h2] at k2; exact absurd k2 (by decide)
  | .tuple xs, d', _, _, _, ha, r, r' => by
    cases r with
    | tuple h1 h2 h3 h4 =>
      cases r' with
      | tuple k1 k2 k3 k4 =>
        rw [h1] at k1; cases k1
        rw [h3] at k3; cases k3
        rw [readsAll_fun xs _ _ _ _ (by simpa [PyData.canLay0] using ha) h4 k4]
      | list k1 k2 k3 k4 =>
        rw [h1] at k1; cases k1
        rw [h2] at k2; exact absurd k2 (by decide)
      | dict k1 k2 k3 k4 k5 =>
        rw [h1] at k1; cases k1
        rw [h2] at k2; exact absurd k2 (by decide)
  | .dict _, d', _, _, _, ha, _, _ => absurd ha (by simp [PyData.canLay0])
theorem readsAll_fun {h : Heap} : ∀ (xs ys : List PyData) (vs : List Value) (as as' : List Addr), PyData.canLayAll0 xs = true → ReadsAll h vs xs as → ReadsAll h vs ys as' → xs = ys
  | [], _, _, _, _, _, r, r' => by cases r; cases r'; rfl
  | x :: xs, ys, _, _, _, ha, r, r' => by
    cases r with
    | cons h1 h2 =>
      cases r' with
      | cons k1 k2 =>
        have ha' : x.canLay0 = true ∧ PyData.canLayAll0 xs = true := by simpa [PyData.canLayAll0] using ha
        rw [reads_fun x _ _ _ _ ha'.1 h1 k1, readsAll_fun xs _ _ _ _ ha'.2 h2 k2]
end
/-- x in a list or a tuple, of any data -/
def rInD (K : Kf) (neg : Bool) : L2.R2 := fun x y H Q => ∃ p xs d es, y = .ref p ∧ (L2.SqL K H p xs ∨ L2.SqT K H p xs) ∧ L2.Dp K H x d ∧ L2.DpAll K H xs es ∧ (d.canLay0 = true ∧ d.depth ≤ 60) ∧ PyData.canLayAll0 es = true ∧ Q (.bl (if neg then !es.any (fun e => PyData.eqv e d) else es.any fun e => PyData.eqv e d)) H
theorem canLay_mem : ∀ {es : List PyData}, PyData.canLayAll0 es = true → ∀ e ∈ es, e.canLay0 = true
  | x :: xs, h, e, he => by
    have h' : x.canLay0 = true ∧ PyData.canLayAll0 xs = true := by simpa [PyData.canLayAll0] using h
    rcases List.mem_cons.mp he with he | he
    · rw [he]; exact h'.1
    · exact canLay_mem h'.2 e he
theorem readsAll_mem {h : Heap} : ∀ {vs : List Value} {es : List PyData} {as : List Addr}, ReadsAll h vs es as → (∀ u ∈ vs, ∃ e ∈ es, ∃ bs, Reads h u e bs) ∧ ∀ e ∈ es, ∃ u ∈ vs, ∃ bs, Reads h u e bs
  | [], _, _, r => by cases r; exact ⟨by simp, by simp⟩
  | u :: vs, _, _, r => by
    cases r with
    | cons h1 h2 =>
      obtain ⟨a, b⟩ := readsAll_mem h2
      refine ⟨fun x hx => ?_, fun e he => ?_⟩
      · rcases List.mem_cons.mp hx with hx | hx
        · rw [hx]; exact ⟨_, List.mem_cons_self, _, h1⟩
        · obtain ⟨e, he, z⟩ := a x hx
          exact ⟨e, List.mem_cons_of_mem _ he, z⟩
      · rcases List.mem_cons.mp he with he | he
        · rw [he]; exact ⟨_, List.mem_cons_self, _, h1⟩
        · obtain ⟨x, hx, z⟩ := b e he
          exact ⟨x, List.mem_cons_of_mem _ hx, z⟩
open Classical in
/-- whether a value reads as data equal to d -/
noncomputable def hitV (h : Heap) (d : PyData) (u : Value) : Bool := decide (∃ e bs, Reads h u e bs ∧ PyData.eqv e d = true)
open Classical in
theorem hitV_iff {h : Heap} {d : PyData} {u : Value} : hitV h d u = true ↔ ∃ e bs, Reads h u e bs ∧ PyData.eqv e d = true := by
  unfold hitV
  exact decide_eq_true_iff
section
variable {X : L2.Cx} {pins : List (Addr × Obj)} {σ : L2.St} {H : Hp} {s : Shared}
theorem hit_eqAt {A : Around} {v : Value} {d : PyData} {as : List Addr} (rv : Reads s.heap v d as) (hd : d.canLay0 = true ∧ d.depth ≤ 60) {u : Value} {e : PyData} {bs : List Addr} (ru : Reads s.heap u e bs) (he : e.canLay0 = true) (hu : A.units + 61 < cLine) : SeqAt.EqAt A s u v (hitV s.heap d u) := by
  have e1 : hitV s.heap d u = PyData.eqv e d := by
    cases h : PyData.eqv e d with
    | true => exact hitV_iff.mpr ⟨e, bs, ru, h⟩
    | false =>
      cases h2 : hitV s.heap d u with
      | false => rfl
      | true =>
        obtain ⟨e', bs', r', h'⟩ := hitV_iff.mp h2
        rw [← reads_fun e e' u _ _ he ru r', h] at h'
        cases h'
  rw [e1]
  refine SeqAt.eqAt_reads e d A s u v bs as ru rv he hd.1 ?_
  have : min e.depth d.depth ≤ d.depth := Nat.min_le_right _ _
  have := hd.2
  omega
theorem hit_any {h : Heap} {d : PyData} {us : List Value} {es : List PyData} {as : List Addr} (r : ReadsAll h us es as) (hes : PyData.canLayAll0 es = true) : us.any (hitV h d) = es.any fun e => PyData.eqv e d := by
  obtain ⟨a, b⟩ := readsAll_mem r
  cases h1 : es.any fun e => PyData.eqv e d with
  | true =>
    obtain ⟨e, he, h2⟩ := List.any_eq_true.mp h1
    obtain ⟨u, hu, bs, ru⟩ := b e he
    exact List.any_eq_true.mpr ⟨u, hu, hitV_iff.mpr ⟨e, bs, ru, h2⟩⟩
  | false =>
    rw [List.any_eq_false] at h1 ⊢
    intro u hu h2
    obtain ⟨e, he, bs, ru⟩ := a u hu
    obtain ⟨e', bs', r', h'⟩ := hitV_iff.mp h2
    rw [← reads_fun e e' u _ _ (canLay_mem hes e he) ru r'] at h'
    exact h1 e he h'
end
section
variable {X : L2.Cx}
theorem op_inD (hu : X.A.units + 64 < cLine) : L2.OpR X (compareOp .In) (rInD X.K false) := by
  intro pins s σ H x y v u Q I rx ry h
  obtain ⟨p, xs, d, es, rfl, hq, hx, hxs, hd, hes, q⟩ := h
  cases ry
  obtain ⟨as, rv⟩ := L2.Dp.reads I d x v hx rx
  have hA : X.A.in1.units + 61 < cLine := by show X.A.units + 1 + 61 < cLine; omega
  rcases hq with hq | hq
  · obtain ⟨its, r, pl, hz⟩ := I.list hq
    obtain ⟨bs, ra⟩ := L2.Dp.readsAll I es xs its hxs r
    obtain ⟨m1, _⟩ := readsAll_mem ra
    refine SeqAt.in_listAt (hitV s.heap d) pl.isList (fun w hw => ?_) ⟨.bl _, H, I, rfl, ?_⟩
    · obtain ⟨e, he, cs, rw⟩ := m1 w (by simpa using hw)
      exact hit_eqAt rv hd rw (canLay_mem hes e he) hA
    · rw [show its.toArray.any (hitV s.heap d) = its.any (hitV s.heap d) by simp, hit_any ra hes]
      exact q
  · obtain ⟨its, r, pl, hz⟩ := I.tuple hq
    obtain ⟨bs, ra⟩ := L2.Dp.readsAll I es xs its hxs r
    obtain ⟨m1, _⟩ := readsAll_mem ra
    refine SeqAt.in_tupleAt (hitV s.heap d) pl (fun w hw => ?_) ⟨.bl _, H, I, rfl, ?_⟩
    · obtain ⟨e, he, cs, rw⟩ := m1 w (by simpa using hw)
      exact hit_eqAt rv hd rw (canLay_mem hes e he) hA
    · rw [show its.toArray.any (hitV s.heap d) = its.any (hitV s.heap d) by simp, hit_any ra hes]
      exact q
theorem op_notinD (hu : X.A.units + 64 < cLine) : L2.OpR X (compareOp .NotIn) (rInD X.K true) := by
  intro pins s σ H x y v u Q I rx ry h
  obtain ⟨p, xs, d, es, rfl, hq, hx, hxs, hd, hes, q⟩ := h
  cases ry
  obtain ⟨as, rv⟩ := L2.Dp.reads I d x v hx rx
  have hA : X.A.in1.units + 61 < cLine := by show X.A.units + 1 + 61 < cLine; omega
  rcases hq with hq | hq
  · obtain ⟨its, r, pl, hz⟩ := I.list hq
    obtain ⟨bs, ra⟩ := L2.Dp.readsAll I es xs its hxs r
    obtain ⟨m1, _⟩ := readsAll_mem ra
    refine SeqAt.notIn_listAt (hitV s.heap d) pl.isList (fun w hw => ?_) ⟨.bl _, H, I, rfl, ?_⟩
    · obtain ⟨e, he, cs, rw⟩ := m1 w (by simpa using hw)
      exact hit_eqAt rv hd rw (canLay_mem hes e he) hA
    · rw [show its.toArray.any (hitV s.heap d) = its.any (hitV s.heap d) by simp, hit_any ra hes]
      exact q
  · obtain ⟨its, r, pl, hz⟩ := I.tuple hq
    obtain ⟨bs, ra⟩ := L2.Dp.readsAll I es xs its hxs r
    obtain ⟨m1, _⟩ := readsAll_mem ra
    refine SeqAt.notIn_tupleAt (hitV s.heap d) pl (fun w hw => ?_) ⟨.bl _, H, I, rfl, ?_⟩
    · obtain ⟨e, he, cs, rw⟩ := m1 w (by simpa using hw)
      exact hit_eqAt rv hd rw (canLay_mem hes e he) hA
    · rw [show its.toArray.any (hitV s.heap d) = its.any (hitV s.heap d) by simp, hit_any ra hes]
      exact q
end
section
variable {K : Kf}
theorem any_toP {x : D} (hx : D.okd 60 x = true) : ∀ {xs : List D}, okds 60 xs = true → ((toPs xs).any fun e => PyData.eqv e (toP x)) = xs.any fun y => D.eqb y x
  | [], _ => by simp [toPs]
  | y :: ys, h => by
    have h' : D.okd 60 y = true ∧ okds 60 ys = true := by simpa [okds] using h
    simp only [toPs, List.any_cons]
    rw [toP_eqv y x h'.1 hx, any_toP hx h'.2]
theorem real_inD (neg : Bool) : RealC K (rInD K neg) (fun x y st Q => inDC x y st fun b => Q (if neg then !b else b)) := fun f st H x y v w Q' Q s r1 r2 h l => by
  cases y <;> try (exact h.elim)
  · rw [RD.tup] at r2
    obtain ⟨a, vs, rfl, t, d⟩ := r2
    obtain ⟨h1, h2, h3⟩ := h
    refine ⟨a, vs, _, _, rfl, .inr t, toP_dp x h1 r1, toPs_dp _ h2 d, toP_ok x h1, (toPs_ok _ h2).1, ?_⟩
    rw [any_toP h1 h2]
    exact l _ h3
  · rw [RD.ref] at r2
    obtain ⟨a, e, rfl⟩ := r2
    obtain ⟨xs, h0, h1, h2, h3⟩ := h
    obtain ⟨a', vs, g1, g2, g3⟩ := s.rdA h0
    rw [e] at g1; cases g1
    refine ⟨a, vs, _, _, rfl, .inl g2, toP_dp x h1 r1, toPs_dp _ h2 g3, toP_ok x h1, (toPs_ok _ h2).1, ?_⟩
    rw [any_toP h1 h2]
    exact l _ h3
end
/-! starred arguments -/
section
variable {X : L2.Cx} {a : Expr} {es : List Expr} {ta : TE} {ts : TA} {pos p : Pos}
theorem pa_starD (ha : PD X a ta) (hr : PDA X es ts) (hs : starEach (.Starred a p :: es) X.env = (true, eval a X.env) :: starEach es X.env := by rfl) : PDA X (.Starred a p :: es) (aStar ta ts) :=
  pa_imp (StX.pa_star ha hr hs) fun σ H Q ⟨f, ρ, st, Q', R, h, l⟩ => ⟨f, ρ, st, _, R, h, fun x st1 v f1 H1 h1 e1 s1 r1 => by
    cases x <;> try (exact h1.elim)
    · rw [RD.tup] at r1
      obtain ⟨b, vs, rfl, t, d⟩ := r1
      exact ⟨b, vs, rfl, .inl t, f1, ρ, st1, _, R.later e1 s1, h1, fun ys st2 us f2 H2 q e2 s2 r2 => l _ st2 _ f2 H2 q (e1.trans e2) s2 ((d.mono e2).append r2)⟩
    · rw [RD.ref] at r1
      obtain ⟨b, e, rfl⟩ := r1
      obtain ⟨xs, h0, h2⟩ := h1
      obtain ⟨b', vs, g1, g2, g3⟩ := s1.rdA h0
      rw [e] at g1; cases g1
      exact ⟨b, vs, rfl, .inr g2, f1, ρ, st1, _, R.later e1 s1, h2, fun ys st2 us f2 H2 q e2 s2 r2 => l _ st2 _ f2 H2 q (e1.trans e2) s2 ((g3.mono e2).append r2)⟩⟩
/-- a call with a starred argument of a def whose last parameter takes what is left over -/
theorem pd_callS2 {x : Str} {q : Pos} {k n : Nat} {ts : TA} {cl : Cl} {y : String} (o : OwnS X.prog X.w X.K X.mg X.base k n x (cl y)) (hr : L2.Room k X.A) (hg : L2.Gl X x) (ha : PDA X (a :: es) ts) (hdb : (x == ("__debug__" : Str)) = false := by decide)
    (he : starEach (a :: es) X.env = (false, eval a X.env) :: starEach es X.env := by rfl) (hst : (backTo pos (starEach es X.env)).any (·.1) = true := by rfl) : PD X (.Call (.Name x q) (a :: es) [] pos) (dCallS cl y n ts) := by
  obtain ⟨fa, F, hm, hk⟩ := o.ex
  have step : L2.PE X (.Call (.Name x q) (a :: es) [] pos) (fun σ H Q => liftA X.K ts σ H fun vs H1 => starF X.K n (cl y) vs H1 Q fun _ _ _ => False) := StX.pe_callS2 F hr hk hg hm L2.pass0 ha hdb he hst
  refine pe_imp step fun σ H Q ⟨f, ρ, st, Q', R, h, l⟩ => ⟨f, ρ, st, _, R, h, fun xs st1 vs f1 H1 ⟨h1, h2, h3⟩ e1 s1 r1 => ?_⟩
  have hvl := r1.length
  refine ⟨vs.take n, vs.drop n, (List.take_append_drop n vs).symm, by rw [List.length_take]; omega, ?_, fun p hp => ?_⟩
  · rw [List.length_drop, hvl, ← szl_eq]; rw [List.length_drop] at h2; exact h2
  · have s2 := s1.lay (o := .tup (vs.drop n)) hp
    obtain ⟨s2, e2⟩ := s2
    refine ⟨by rw [List.length_append, List.length_take]; simp; omega, f1, st1, xs.take n ++ [.tup (xs.drop n)], Q', s2, ?_, h3, (l.later e1).later e2⟩
    refine RDs.append ((r1.take n).mono e2) (RDs.one (RD.tup.mpr ⟨p, vs.drop n, rfl, .of L2.upd_same, (r1.drop n).mono e2⟩))
end
end Pd
end PartPdSoundL

section PartPdMore6
set_option Elab.async false
set_option linter.all false
set_option maxRecDepth 100000
/-! Pd: more readings of dicts (locked or not), walks over them, list(range(i, j, -1)), list.index of any pure data. Own work. -/
namespace Pd
open PySem
/-- d[k] -/
def getDAK : K2
  | .ref n, y, st, Q => ∃ kvs k d, rdDA st n kvs ∧ y = keyD k ∧ valD kvs k = some d ∧ Q d st
  | _, _, _, _ => False
def dGetA (to ti : TE) : TE := fun σ st Q => to σ st fun x st1 => ti σ st1 fun y st2 => getDAK x y st2 Q
/-- k in d -/
def inKC : KC
  | y, .ref n, st, Q => ∃ kvs k, rdDA st n kvs ∧ y = keyD k ∧ Q (valD kvs k).isSome
  | _, _, _, _ => False
def notinKC : KC := fun x y st Q => inKC x y st fun b => Q (!b)
/-- d.get(k, z) -/
def getD2K : D → D → D → Store → K → Prop
  | .ref n, y, z, st, Q => ∃ kvs k, rdDA st n kvs ∧ y = keyD k ∧ Q ((valD kvs k).getD z) st
  | _, _, _, _, _ => False
def isDD : D → Store → Prop
  | .ref n, st => ∃ kvs, rdDA st n kvs
  | _, _ => False
def dGet2 (to ti tx : TE) : TE := fun σ st Q => to σ st fun x st1 => isDD x st1 ∧ ti σ st1 fun y st2 => tx σ st2 fun z st3 => getD2K x y z st3 Q
/-- {k: v, ..} -/
def pairsD : List (TE × TE) → Env → Store → (List (D × D) → Store → Prop) → Prop
  | [], _, st, Q => Q [] st
  | p :: r, σ, st, Q => p.1 σ st fun x st1 => p.2 σ st1 fun y st2 => pairsD r σ st2 fun ps st3 => Q ((x, y) :: ps) st3
def putAll (kvs : List (Ky × D)) : List (Ky × D) := kvs.foldl (fun acc kv => putD acc kv.1 kv.2) []
def dDisp (prs : List (TE × TE)) : TE := fun σ st Q => pairsD prs σ (st ++ [.dic []]) fun ps st2 => ∃ kvs : List (Ky × D), ps = kvs.map (fun kv => (keyD kv.1, kv.2)) ∧ kvs.length ≤ 15 ∧ rdD st2 st.length [] ∧ Q (.ref st.length) (st2.set st.length (.dic (putAll kvs)))
/-! a dict is locked while it is walked -/
def keysD (kvs : List (Ky × D)) : List D := kvs.map fun kv => keyD kv.1
def iKeysD (t : TE) : TI := fun σ st R => t σ st fun x st1 => ∃ n kvs tk, x = .ref n ∧ st1[n]? = some (.frd kvs tk) ∧ R ⟨keysD kvs, fun s => s[n]? = some (.frd kvs tk)⟩ st1
def sLockD (t : TS) : TS := fun D σ st => ∃ n kvs, rdD st n kvs ∧ ∀ tk, t { nx := fun σ' st' => st'[n]? = some (.frd kvs tk) ∧ D.nx σ' (st'.set n (.dic kvs)), rt := fun v st' => st'[n]? = some (.frd kvs tk) ∧ D.rt v (st'.set n (.dic kvs)), bk := fun σ' st' => st'[n]? = some (.frd kvs tk) ∧ D.bk σ' (st'.set n (.dic kvs)), ct := fun σ' st' => st'[n]? = some (.frd kvs tk) ∧ D.ct σ' (st'.set n (.dic kvs)) } σ (st.set n (.frd kvs tk))
def dLockD (t : TE) : TE := fun σ st Q => ∃ n kvs, rdD st n kvs ∧ ∀ tk, t σ (st.set n (.frd kvs tk)) fun v st' => st'[n]? = some (.frd kvs tk) ∧ Q v (st'.set n (.dic kvs))
/-- .index(x), any pure data -/
def indexDM : KM
  | .ref n, [x], st, Q => ∃ xs j z, rdA st n xs ∧ D.okd 60 x = true ∧ okds 60 xs = true ∧ xs[j]? = some z ∧ D.eqb z x = true ∧ (∀ (m : Nat) (z' : D), m < j → xs[m]? = some z' → D.eqb z' x = false) ∧ Q (.int j) st
  | _, _, _, _ => False
/-- list(range(i, j, -1)) -/
def dLRD (t u : TE) : TE := fun σ st Q => t σ st fun x st1 => u σ st1 fun y st2 => ∃ i j, x = .int i ∧ y = .int j ∧ (-(2 ^ 62) ≤ i ∧ i < 2 ^ 62 ∧ -(2 ^ 62) ≤ j ∧ j < 2 ^ 62 ∧ (i - j).toNat ≤ szl) ∧ Q (.ref st2.length) (st2 ++ [.lst (rngD i (i - j).toNat)])
section
variable {σ σ' : Env} {st : Store} {Q : K} {to ti tx ta tb : TE} {d x y : D}
instance : Red (dGetA to ti σ st Q) (to σ st fun x st1 => ti σ st1 fun y st2 => getDAK x y st2 Q) := ⟨id⟩
instance : Red (dGet2 to ti tx σ st Q) (to σ st fun x st1 => isDD x st1 ∧ ti σ st1 fun y st2 => tx σ st2 fun z st3 => getD2K x y z st3 Q) := ⟨id⟩
instance {prs : List (TE × TE)} : Red (dDisp prs σ st Q) (pairsD prs σ (st ++ [.dic []]) fun ps st2 => ∃ kvs : List (Ky × D), ps = kvs.map (fun kv => (keyD kv.1, kv.2)) ∧ kvs.length ≤ 15 ∧ rdD st2 st.length [] ∧ Q (.ref st.length) (st2.set st.length (.dic (putAll kvs)))) := ⟨id⟩
instance {q : List (D × D) → Store → Prop} : Red (pairsD [] σ st q) (q [] st) := ⟨id⟩
instance {p : TE × TE} {r : List (TE × TE)} {q : List (D × D) → Store → Prop} : Red (pairsD (p :: r) σ st q) (p.1 σ st fun x st1 => p.2 σ st1 fun y st2 => pairsD r σ st2 fun ps st3 => q ((x, y) :: ps) st3) := ⟨id⟩
instance {R : Iter → Store → Prop} : Red (iKeysD ta σ st R) (ta σ st fun x st1 => ∃ n kvs tk, x = .ref n ∧ st1[n]? = some (.frd kvs tk) ∧ R ⟨keysD kvs, fun s => s[n]? = some (.frd kvs tk)⟩ st1) := ⟨id⟩
instance : Red (dLRD ta tb σ st Q) (ta σ st fun x st1 => tb σ st1 fun y st2 => ∃ i j, x = .int i ∧ y = .int j ∧ (-(2 ^ 62) ≤ i ∧ i < 2 ^ 62 ∧ -(2 ^ 62) ≤ j ∧ j < 2 ^ 62 ∧ (i - j).toNat ≤ szl) ∧ Q (.ref st2.length) (st2 ++ [.lst (rngD i (i - j).toNat)])) := ⟨id⟩
end
theorem getA_at {st : Store} {n : Nat} {kvs : List (Ky × D)} {k : Ky} {d : D} {Q : K} (h : rdDA st n kvs) (e : valD kvs k = some d) (q : Q d st) : getDAK (.ref n) (keyD k) st Q := ⟨kvs, k, d, h, rfl, e, q⟩
theorem getAI_at {st : Store} {n : Nat} {kvs : List (Ky × D)} {k : Int} {d : D} {Q : K} (h : rdDA st n kvs) (e : valD kvs (.inl k) = some d) (q : Q d st) : getDAK (.ref n) (.int k) st Q := ⟨kvs, .inl k, d, h, rfl, e, q⟩
theorem inKI_at {st : Store} {n : Nat} {kvs : List (Ky × D)} {k : Int} {r : Bool → Prop} (h : rdDA st n kvs) (q : r (valD kvs (.inl k)).isSome) : inKC (.int k) (.ref n) st r := ⟨kvs, .inl k, h, rfl, q⟩
theorem notinKI_at {st : Store} {n : Nat} {kvs : List (Ky × D)} {k : Int} {r : Bool → Prop} (h : rdDA st n kvs) (q : r (!(valD kvs (.inl k)).isSome)) : notinKC (.int k) (.ref n) st r := ⟨kvs, .inl k, h, rfl, q⟩
theorem get2I_at {st : Store} {n : Nat} {kvs : List (Ky × D)} {k : Int} {z : D} {Q : K} (h : rdDA st n kvs) (q : Q ((valD kvs (.inl k)).getD z) st) : getD2K (.ref n) (.int k) z st Q := ⟨kvs, .inl k, h, rfl, q⟩
theorem setDI_at {st : Store} {n : Nat} {kvs : List (Ky × D)} {k : Int} {v : D} {Q : Store → Prop} (h : rdD st n kvs) (hl : kvs.length < szl) (q : Q (st.set n (.dic (putD kvs (.inl k) v)))) : setDK (.ref n) (.int k) v st Q := ⟨kvs, .inl k, h, rfl, hl, q⟩
theorem rdDA.of {st : Store} {n : Nat} {kvs : List (Ky × D)} (h : rdD st n kvs) : rdDA st n kvs := .inl h
end Pd
end PartPdMore6

section PartPdSoundO
set_option Elab.async false
set_option linter.all false
set_option maxRecDepth 100000
set_option maxHeartbeats 1000000
/-! Pd over the hand layer: dicts read, displayed and walked; list.index of data; list(range(i, j, -1)). Own work. -/
namespace Pd
open PySem PySem.Spec
section
variable {X : L2.Cx} {K : Kf} {f f' : List Addr} {H H' : Hp} {st st' : Store} {ρ : Env} {σ : L2.St}
theorem vals_none : ∀ {kvs : List (Ky × D)} {ks : List (L2.Key × L2.V)}, ks.map (·.1) = kvs.map (·.1) → ∀ (k : Ky), valD kvs k = none → L2.valV ks k = none
  | [], [], _, _, _ => rfl
  | [], _ :: _, e, _, _ => by simp at e
  | _ :: _, [], e, _, _ => by simp at e
  | (k0, d0) :: kvs, (k1, v1) :: ks, e, k, h => by
    simp only [List.map_cons, List.cons.injEq] at e
    obtain ⟨e1, e2⟩ := e
    have e1 : k1 = k0 := e1
    subst e1
    by_cases hk : k1 = k
    · have : valD ((k1, d0) :: kvs) k = some d0 := by simp [valD, List.find?_cons, hk]
      rw [this] at h; cases h
    · have : valD ((k1, d0) :: kvs) k = valD kvs k := by simp [valD, List.find?_cons, hk]
      rw [this] at h
      exact (L2.valV_neg hk).trans (vals_none e2 k h)
theorem dget_of {a : Addr} {ks : List (L2.Key × L2.V)} {k : Ky} (h : L2.Rd H a (.dK ks)) : L2.DGet H a (L2.kV k) (L2.valV ks k) := .inl ⟨ks, k, h, rfl, rfl⟩
section
variable {o i e a b : Expr} {to ti tx ta tb : TE} {pos apos cpos : Pos}
theorem pd_getA {k : Nat} (hr : L2.Room k X.A) (ho : PD X o to) (hi : PD X i ti) (hs : L2.NoSl i := by intro _ _; rfl) : PD X (.Subscript o i pos) (dGetA to ti) :=
  pe_imp (L2.pe_dget (L2.hu_of hr) ho hi hs) fun σ H Q ⟨f, ρ, st, Q', R, h, l⟩ => ⟨f, ρ, st, _, R, h, fun x st1 v f1 H1 q1 e1 s1 r1 => ⟨f1, ρ, st1, _, R.later e1 s1, q1, fun y st2 w f2 H2 q2 e2 s2 r2 => by
    cases x <;> try (exact q2.elim)
    obtain ⟨kvs, k, d, h1, rfl, h3, h4⟩ := q2
    have r1' := r1.mono e2
    rw [RD.ref] at r1'
    obtain ⟨a, ea, rfl⟩ := r1'
    obtain ⟨a', ks, g1, g2, g3, g4⟩ := s2.rdDA h1
    rw [ea] at g1; cases g1
    obtain ⟨v, g5, g6⟩ := vals_at g3 g4 k d h3
    obtain rfl := keyD_V r2
    exact ⟨a, v, rfl, by rw [← g5]; exact dget_of g2, l d st2 v f2 H2 h4 (e1.trans e2) s2 g6⟩⟩⟩
theorem in_some {kvs : List (Ky × D)} {ks : List (L2.Key × L2.V)} (e : ks.map (·.1) = kvs.map (·.1)) (r : RDs K f H (kvs.map (·.2)) (ks.map (·.2))) (k : Ky) : (L2.valV ks k).isSome = (valD kvs k).isSome := by
  cases h : valD kvs k with
  | none => rw [vals_none e k h]; rfl
  | some d =>
    obtain ⟨v, g, _⟩ := vals_at e r k d h
    rw [g]; rfl
theorem in_core {Q' : Pd.K} {Q : L2.VK} {neg : Bool} {hi : lift K ti σ H (fun y H1 => lift K to σ H1 fun _ _ => True) → True}
    (R : Rel K f ρ st σ H) (h : ti ρ st fun y st1 => to ρ st1 fun x st2 => inKC y x st2 fun b => Q' (.bl (if neg then !b else b)) st2) (l : LQ K f H Q' Q) :
    lift K ti σ H fun y H1 => lift K to σ H1 fun x H2 => ∃ a o, x = .ref a ∧ L2.DGet H2 a y o ∧ Q (.bl (if neg then !o.isSome else o.isSome)) H2 :=
  ⟨f, ρ, st, _, R, h, fun y st1 v f1 H1 q1 e1 s1 r1 => ⟨f1, ρ, st1, _, R.later e1 s1, q1, fun x st2 w f2 H2 q2 e2 s2 r2 => by
    cases x <;> try (exact q2.elim)
    obtain ⟨kvs, k, h1, rfl, h3⟩ := q2
    rw [RD.ref] at r2
    obtain ⟨a, ea, rfl⟩ := r2
    obtain ⟨a', ks, g1, g2, g3, g4⟩ := s2.rdDA h1
    rw [ea] at g1; cases g1
    obtain rfl := keyD_V (r1.mono e2)
    refine ⟨a, _, rfl, dget_of g2, ?_⟩
    rw [in_some g3 g4 k]
    exact l _ st2 _ f2 H2 h3 (e1.trans e2) s2 (RD.bl.mpr rfl)⟩⟩
theorem pd_inK {k : Nat} (hr : L2.Room k X.A) (hi : PD X i ti) (ho : PD X o to) (hm : behindInMarks .In o = false := by rfl) : PD X (.Compare i [.In] [o] pos) (dCmp inKC ti to) :=
  pe_imp (L2.pe_cmp (L2.pc_din (L2.hu_of hr) hi ho) hm) fun σ H Q ⟨f, ρ, st, Q', R, h, l⟩ => in_core (neg := false) (hi := fun _ => trivial) R h l
theorem pd_notinK {k : Nat} (hr : L2.Room k X.A) (hi : PD X i ti) (ho : PD X o to) (hm : behindInMarks .NotIn o = false := by rfl) : PD X (.Compare i [.NotIn] [o] pos) (dCmp notinKC ti to) :=
  pe_imp (L2.pe_cmp (L2.pc_dnotin (L2.hu_of hr) hi ho) hm) fun σ H Q ⟨f, ρ, st, Q', R, h, l⟩ => in_core (neg := true) (hi := fun _ => trivial) R h l
theorem pt_inK {k : Nat} (hr : L2.Room k X.A) (hi : PD X i ti) (ho : PD X o to) (hm : behindInMarks .In o = false := by rfl) : PDT X (.Compare i [.In] [o] pos) (tTru (dCmp inKC ti to)) :=
  pt_imp (L2.pt_cmp (L2.pc_din (L2.hu_of hr) hi ho) hm) fun σ H Q ⟨f, ρ, st, Q', R, h, l⟩ =>
    in_core (neg := false) (hi := fun _ => trivial) (Q' := fun x st' => ∃ b, x = .bl b ∧ Q' b st') (Q := fun x H' => ∃ b, x = .bl b ∧ Q b H') R
      (by
        refine (show (ti ρ st fun y st1 => to ρ st1 fun x st2 => inKC y x st2 fun b => ∃ b', D.bl (if false = true then !b else b) = .bl b' ∧ Q' b' st2) from ?_)
        have e : (fun (y : D) (st1 : Store) => to ρ st1 fun x st2 => inKC y x st2 fun b => ∃ b', D.bl (if false = true then !b else b) = .bl b' ∧ Q' b' st2) = fun y st1 => to ρ st1 fun x st2 => inKC y x st2 fun b => Q' b st2 := by
          funext y st1
          congr
          funext x st2
          congr
          funext b
          exact propext ⟨fun ⟨b', e, q⟩ => by cases e; exact q, fun q => ⟨b, rfl, q⟩⟩
        rw [e]; exact h)
      fun x st' v f' H' ⟨b, hx, q⟩ e s r => by
        subst hx
        rw [RD.bl] at r
        exact ⟨b, r, l b st' f' H' q e s⟩
theorem pt_notinK {k : Nat} (hr : L2.Room k X.A) (hi : PD X i ti) (ho : PD X o to) (hm : behindInMarks .NotIn o = false := by rfl) : PDT X (.Compare i [.NotIn] [o] pos) (tTru (dCmp notinKC ti to)) :=
  pt_imp (L2.pt_cmp (L2.pc_dnotin (L2.hu_of hr) hi ho) hm) fun σ H Q ⟨f, ρ, st, Q', R, h, l⟩ =>
    in_core (neg := true) (hi := fun _ => trivial) (Q' := fun x st' => ∃ b, x = .bl b ∧ Q' b st') (Q := fun x H' => ∃ b, x = .bl b ∧ Q b H') R
      (by
        have e : (fun (y : D) (st1 : Store) => to ρ st1 fun x st2 => inKC y x st2 fun b => ∃ b', D.bl (if true = true then !b else b) = .bl b' ∧ Q' b' st2) = fun y st1 => to ρ st1 fun x st2 => inKC y x st2 fun b => Q' (!b) st2 := by
          funext y st1
          congr
          funext x st2
          congr
          funext b
          exact propext ⟨fun ⟨b', e, q⟩ => by cases e; exact q, fun q => ⟨!b, rfl, q⟩⟩
        rw [e]; exact h)
      fun x st' v f' H' ⟨b, hx, q⟩ e s r => by
        subst hx
        rw [RD.bl] at r
        exact ⟨b, r, l b st' f' H' q e s⟩
theorem pd_get2 {k : Nat} {e g : Expr} (hr : L2.Room k X.A) (ho : PD X o to) (he : PD X e ti) (hf : PD X g tx) (m : L2.M2 X o "get" apos e g cpos := by exact ⟨rfl, rfl, rfl, rfl⟩) : PD X (.Call (.Attribute o "get" apos) [e, g] [] cpos) (dGet2 to ti tx) :=
  pe_imp (L2.pe_dget2 (L2.hu_of hr) ho he hf m) fun σ H Q ⟨f, ρ, st, Q', R, h, l⟩ => ⟨f, ρ, st, _, R, h, fun x st1 v f1 H1 ⟨hx, q1⟩ e1 s1 r1 => by
    cases x <;> try (exact hx.elim)
    obtain ⟨kvs0, h0⟩ := hx
    have r1' := r1
    rw [RD.ref] at r1'
    obtain ⟨a, ea, rfl⟩ := r1'
    obtain ⟨a', ks0, g1, g2, g3, g4⟩ := s1.rdDA h0
    rw [ea] at g1; cases g1
    refine ⟨a, rfl, .inl ⟨ks0, g2⟩, f1, ρ, st1, _, R.later e1 s1, q1, fun y st2 w f2 H2 q2 e2 s2 r2 => ⟨f2, ρ, st2, _, R.later (e1.trans e2) s2, q2, fun z st3 u f3 H3 q3 e3 s3 r3 => ?_⟩⟩
    obtain ⟨kvs, k, h1, rfl, h3⟩ := q3
    obtain ⟨a', ks, k1, k2, k3, k4⟩ := s3.rdDA h1
    have ea3 := (e2.trans e3).at ea
    rw [ea3] at k1; cases k1
    obtain rfl := keyD_V (r2.mono e3)
    refine ⟨_, dget_of k2, ?_⟩
    cases hv : valD kvs k with
    | none =>
      rw [hv] at h3
      rw [vals_none k3 k hv]
      exact l _ st3 _ f3 H3 h3 (e1.trans (e2.trans e3)) s3 r3
    | some d =>
      rw [hv] at h3
      obtain ⟨v, p1, p2⟩ := vals_at k3 k4 k d hv
      rw [p1]
      exact l _ st3 _ f3 H3 h3 (e1.trans (e2.trans e3)) s3 p2⟩
/-! displays -/
inductive PPD (X : L2.Cx) : List (Option Expr) → List Expr → List (TE × TE) → Prop
  | nil : PPD X [] [] []
  | cons {k v : Expr} {ks : List (Option Expr)} {vs : List Expr} {tk tv : TE} {r : List (TE × TE)} : PD X k tk → PD X v tv → PPD X ks vs r → PPD X (some k :: ks) (v :: vs) ((tk, tv) :: r)
theorem PPD.pps {ks : List (Option Expr)} {vs : List Expr} {prs : List (TE × TE)} (h : PPD X ks vs prs) : L2.PPs X pos ks vs (prs.map fun p => (lift X.K p.1, lift X.K p.2)) := by
  induction h with
  | nil => exact L2.pps_nil
  | cons hk hv _ ih => exact L2.pps_cons hk hv ih
theorem pairs_lift : ∀ (prs : List (TE × TE)) {f : List Addr} {ρ : Env} {st : Store} {σ : L2.St} {H : Hp} {Q' : List (D × D) → Store → Prop} {Q : List (L2.V × L2.V) → Hp → Prop}, Rel K f ρ st σ H → pairsD prs ρ st Q' →
    (∀ ps st' us f' H', Q' ps st' → Ext K f H f' H' → RelS K f' st' H' → RDs K f' H' (ps.map (·.1)) (us.map (·.1)) → RDs K f' H' (ps.map (·.2)) (us.map (·.2)) → Q us H') → L2.tPairs (prs.map fun p => (lift K p.1, lift K p.2)) σ H Q
  | [], f, ρ, st, σ, H, Q', Q, R, h, l => l [] st [] f H h .refl R.toRelS (RDs.nil.mpr rfl) (RDs.nil.mpr rfl)
  | p :: prs, f, ρ, st, σ, H, Q', Q, R, h, l =>
    ⟨f, ρ, st, _, R, h, fun x st1 v f1 H1 q1 e1 s1 r1 => ⟨f1, ρ, st1, _, R.later e1 s1, q1, fun y st2 w f2 H2 q2 e2 s2 r2 =>
      pairs_lift prs (R.later (e1.trans e2) s2) q2 fun ps st3 us f3 H3 q3 e3 s3 ra rb => l _ st3 _ f3 H3 q3 ((e1.trans e2).trans e3) s3 (RDs.cons.mpr ⟨_, _, rfl, r1.mono (e2.trans e3), ra⟩) (RDs.cons.mpr ⟨_, _, rfl, r2.mono e3, rb⟩)⟩⟩
theorem keys_V : ∀ {kvs : List (Ky × D)} {us : List (L2.V × L2.V)}, RDs K f H (kvs.map fun kv => keyD kv.1) (us.map (·.1)) → RDs K f H (kvs.map (·.2)) (us.map (·.2)) → ∃ ks : List (L2.Key × L2.V), us = ks.map (fun kv => (L2.kV kv.1, kv.2)) ∧ ks.map (·.1) = kvs.map (·.1) ∧ RDs K f H (kvs.map (·.2)) (ks.map (·.2))
  | [], us, h, h' => by
    rw [List.map_nil, RDs.nil] at h
    rw [List.map_eq_nil_iff] at h
    subst h
    exact ⟨[], rfl, rfl, RDs.nil.mpr rfl⟩
  | kv :: kvs, [], h, h' => by
    rw [List.map_cons, List.map_nil, RDs.cons] at h
    obtain ⟨v, r, e, _⟩ := h
    cases e
  | kv :: kvs, u :: us, h, h' => by
    rw [List.map_cons, List.map_cons, RDs.cons] at h h'
    obtain ⟨v, r, e, h1, h2⟩ := h
    obtain ⟨v', r', e', h1', h2'⟩ := h'
    injection e with e1 e2
    injection e' with e1' e2'
    obtain ⟨ks, p1, p2, p3⟩ := keys_V (us := us) (by rw [e2]; exact h2) (by rw [e2']; exact h2')
    refine ⟨(kv.1, u.2) :: ks, ?_, ?_, ?_⟩
    · rw [List.map_cons, ← p1]
      have := keyD_V h1
      rw [← e1] at this
      rw [← this]
    · rw [List.map_cons, List.map_cons, p2]
    · rw [List.map_cons, List.map_cons, RDs.cons]
      exact ⟨_, _, rfl, by rw [e1']; exact h1', p3⟩
theorem merge_at : ∀ {kvs : List (Ky × D)} {ks : List (L2.Key × L2.V)} {acc : List (Ky × D)} {ac : List (L2.Key × L2.V)}, ks.map (·.1) = kvs.map (·.1) → RDs K f H (kvs.map (·.2)) (ks.map (·.2)) → ac.map (·.1) = acc.map (·.1) → RDs K f H (acc.map (·.2)) (ac.map (·.2)) →
    (L2.mergeK ac ks).map (·.1) = (kvs.foldl (fun acc kv => putD acc kv.1 kv.2) acc).map (·.1) ∧ RDs K f H ((kvs.foldl (fun acc kv => putD acc kv.1 kv.2) acc).map (·.2)) ((L2.mergeK ac ks).map (·.2))
  | [], [], acc, ac, _, _, e, r => ⟨e, r⟩
  | [], _ :: _, _, _, e, _, _, _ => by simp at e
  | _ :: _, [], _, _, e, _, _, _ => by simp at e
  | kv :: kvs, u :: ks, acc, ac, e, r, e', r' => by
    simp only [List.map_cons, List.cons.injEq] at e
    rw [List.map_cons, List.map_cons, RDs.cons] at r
    obtain ⟨v, rr, er, r1, r2⟩ := r
    injection er with er1 er2
    have hu : RD K f H kv.2 u.2 := by rw [er1]; exact r1
    obtain ⟨p1, p2⟩ := put_at (k := kv.1) hu e' r'
    have hk : u.1 = kv.1 := e.1
    have := merge_at (kvs := kvs) (ks := ks) (acc := putD acc kv.1 kv.2) (ac := L2.putK ac u.1 u.2) e.2 (by rw [er2]; exact r2) (by rw [hk]; exact p1) (by rw [hk]; exact p2)
    exact this
theorem pd_disp {ks : List (Option Expr)} {vs : List Expr} {prs : List (TE × TE)} (h : PPD X ks vs prs) (hall : ks.all (·.isSome) = true := by rfl) (hl : ks.length = vs.length := by rfl) (h0 : ks ≠ [] := by (intro h; cases h)) (h15 : ks.length ≤ 15 := by decide) : PD X (.Dict ks vs pos) (dDisp prs) :=
  pe_imp (L2.pe_disp (h.pps (pos := pos)) hall hl h0 h15) fun σ H Q ⟨f, ρ, st, Q', R, h, l⟩ p hp => by
    obtain ⟨s', e⟩ := R.toRelS.new (o := .dK []) (c := .dic []) hp ⟨[], L2.upd_same, rfl, RDs.nil.mpr rfl⟩
    refine pairs_lift prs (R.later e s') h fun ps st2 us f2 H2 q2 e2 s2 ra rb => ?_
    obtain ⟨kvs, rfl, h1, h2, h3⟩ := q2
    obtain ⟨a, ks, g1, g2, g3, g4⟩ := s2.rdD h2
    have hn : (f ++ [p])[st.length]? = some p := by rw [← R.toRelS.len]; simp
    have hn2 := e2.at hn
    rw [hn2] at g1; cases g1
    cases ks with
    | cons _ _ => simp at g3
    | nil =>
      rw [List.map_map] at ra rb
      obtain ⟨ks, p1, p2, p3⟩ := keys_V (kvs := kvs) ra rb
      obtain ⟨m1, m2⟩ := merge_at p2 p3 (acc := []) (ac := []) rfl (RDs.nil.mpr rfl)
      obtain ⟨s3, e3⟩ := s2.putDic hn2 h2 g2 (kvs' := putAll kvs) m1 m2
      have hlk : ks.length ≤ 15 := by
        have := congrArg List.length p2
        rw [List.length_map, List.length_map] at this
        omega
      exact ⟨g2, ks, p1, hlk, l _ _ _ f2 _ h3 ((e.trans e2).trans e3) s3 (RD.ref.mpr ⟨p, hn2, rfl⟩)⟩
end
/-! ### a dict is locked -/
theorem frd_at {n : Nat} {a : Addr} {kvs : List (Ky × D)} {tk : Tok} (s : RelS K f st H) (hn : f[n]? = some a) (h : st[n]? = some (.frd kvs tk)) : H a = some (.frz tk.1 (.dK tk.2)) ∧ tk.2.map (·.1) = kvs.map (·.1) ∧ RDs K f H (kvs.map (·.2)) (tk.2.map (·.2)) := by
  obtain ⟨a', h1, h2, h3⟩ := s.at h
  rw [hn] at h1; cases h1
  exact ⟨h2, h3⟩
theorem lock_at {n : Nat} {a : Addr} {kvs : List (Ky × D)} {ks : List (L2.Key × L2.V)} {od : Obj} (s : RelS K f st H) (hn : f[n]? = some a) (h : rdD st n kvs) (hH : H a = some (.dK ks)) (e : ks.map (·.1) = kvs.map (·.1)) (r : RDs K f H (kvs.map (·.2)) (ks.map (·.2))) :
    RelS K f (st.set n (.frd kvs (od, ks))) (L2.upd H a (.frz od (.dK ks))) ∧ Ext K f H f (L2.upd H a (.frz od (.dK ks))) :=
  s.chg (c := .dic kvs) h rfl hn (.inr (.inr (.inl ⟨ks, hH⟩))) rfl ⟨L2.upd_same, e, r.mono (Ext.upd0 (.inr (.inr (.inl ⟨ks, hH⟩))))⟩
theorem unlock_at {n : Nat} {a : Addr} {kvs : List (Ky × D)} {ks : List (L2.Key × L2.V)} {od : Obj} (s : RelS K f st H) (hn : f[n]? = some a) (h : st[n]? = some (.frd kvs (od, ks))) :
    H a = some (.frz od (.dK ks)) ∧ RelS K f (st.set n (.dic kvs)) (L2.upd H a (.dK ks)) ∧ Ext K f H f (L2.upd H a (.dK ks)) := by
  obtain ⟨h1, h2, h3⟩ := frd_at s hn h
  have w : Wr H a := .inr (.inr (.inr ⟨od, ks, h1⟩))
  exact ⟨h1, s.chg (c := .frd kvs (od, ks)) h rfl hn w rfl ⟨ks, L2.upd_same, h2, h3.mono (Ext.upd0 w)⟩⟩
theorem pd_lockD {e : Expr} {t : TE} (h : PD X e t) : PD X e (dLockD t) :=
  pe_imp (L2.pe_lock h) fun σ H Q ⟨f, ρ, st, Q', R, ⟨n, kvs, h1, h2⟩, l⟩ => by
    obtain ⟨a, ks, g1, g2, g3, g4⟩ := R.toRelS.rdD h1
    refine ⟨a, .dK ks, g2, trivial, fun od => ?_⟩
    obtain ⟨s1, e1⟩ := lock_at (od := od) R.toRelS g1 h1 g2 g3 g4
    refine ⟨f, ρ, _, _, R.later e1 s1, h2 (od, ks), fun x st2 v f2 H2 ⟨q1, q2⟩ e2 s2 r2 => ?_⟩
    obtain ⟨u1, u2, u3⟩ := unlock_at s2 (e2.at g1) q1
    exact ⟨u1, l x _ v f2 _ q2 ((e1.trans e2).trans u3) u2 (r2.mono u3)⟩
theorem realI_keys {n : Nat} {a : Addr} {kvs : List (Ky × D)} {tk : Tok} (hn : f[n]? = some a) (hk : tk.2.map (·.1) = kvs.map (·.1)) : RealI K f H ⟨keysD kvs, fun s => s[n]? = some (.frd kvs tk)⟩ (L2.Itk a tk.1 tk.2) where
  go := fun k f2 st2 H2 e2 s2 g hlt => by
    obtain ⟨h1, h2, h3⟩ := frd_at s2 (e2.at hn) g
    refine ⟨h1, ?_⟩
    have := congrArg List.length hk
    rw [List.length_map, List.length_map] at this
    have hlt' : k < (keysD kvs).length := hlt
    unfold keysD at hlt'
    rw [List.length_map] at hlt'
    omega
  stop := fun f2 st2 H2 e2 s2 g => by
    obtain ⟨h1, h2, h3⟩ := frd_at s2 (e2.at hn) g
    refine ⟨h1, ?_⟩
    have := congrArg List.length hk
    rw [List.length_map, List.length_map] at this
    show tk.2.length ≤ (keysD kvs).length
    unfold keysD
    rw [List.length_map]
    omega
  yld := fun k f2 st2 H2 d x H3 e2 s2 g hd y => by
    obtain ⟨rfl, k', v, hk', rfl⟩ := y
    refine ⟨.refl, s2, ?_⟩
    have hd' : (keysD kvs)[k]? = some d := hd
    unfold keysD at hd'
    rw [show (List.map (fun kv : Ky × D => keyD kv.1) kvs) = (kvs.map (·.1)).map keyD by rw [List.map_map]; rfl, List.getElem?_map, ← hk, List.getElem?_map, hk'] at hd'
    have e9 : keyD k' = d := by simpa using hd'
    subst e9
    cases k' with
    | inl i => exact RD.int.mpr rfl
    | inr s => exact RD.str.mpr rfl
theorem pi_keysD {tg e : Expr} {td : TE} (h : PD X e td) : PDI X tg e (iKeysD td) :=
  pi_imp (L2.pi_keys h) fun σ H R ⟨f, ρ, st, R', Re, h, l⟩ => ⟨f, ρ, st, _, Re, h, fun x st1 v f1 H1 q1 e1 s1 r1 => by
    obtain ⟨n, kvs, tk, rfl, q2, q3⟩ := q1
    rw [RD.ref] at r1
    obtain ⟨a, ea, rfl⟩ := r1
    obtain ⟨h1, h2, h3⟩ := frd_at s1 ea q2
    exact ⟨a, tk.1, rfl, .inl ⟨tk.2, h1, l _ _ _ f1 H1 q3 e1 s1 (realI_keys ea h2)⟩⟩⟩
theorem ps_lockD {sm : Stmt} {t : TS} (h : PDS X sm t) : PDS X sm (sLockD t) :=
  ps_imp (L2.ps_lock h) fun D σ H ⟨f, ρ, st, D', R, ⟨n, kvs, h1, h2⟩, l⟩ => by
    obtain ⟨a, ks, g1, g2, g3, g4⟩ := R.toRelS.rdD h1
    refine ⟨a, .dK ks, g2, trivial, fun od => ?_⟩
    obtain ⟨s1, e1⟩ := lock_at (od := od) R.toRelS g1 h1 g2 g3 g4
    refine ⟨f, ρ, _, _, R.later e1 s1, h2 (od, ks), ⟨?_, ?_, ?_, ?_⟩⟩
    · intro ρ' st' σ' f' H' ⟨q1, q2⟩ e2 R2
      obtain ⟨u1, u2, u3⟩ := unlock_at R2.toRelS (e2.at g1) q1
      exact ⟨u1, l.nx _ _ _ f' _ q2 ((e1.trans e2).trans u3) (R2.later u3 u2)⟩
    · intro x st' v f' H' ⟨q1, q2⟩ e2 s2 r2
      obtain ⟨u1, u2, u3⟩ := unlock_at s2 (e2.at g1) q1
      exact ⟨u1, l.rt x _ v f' _ q2 ((e1.trans e2).trans u3) u2 (r2.mono u3)⟩
    · intro ρ' st' σ' f' H' ⟨q1, q2⟩ e2 R2
      obtain ⟨u1, u2, u3⟩ := unlock_at R2.toRelS (e2.at g1) q1
      exact ⟨u1, l.bk _ _ _ f' _ q2 ((e1.trans e2).trans u3) (R2.later u3 u2)⟩
    · intro ρ' st' σ' f' H' ⟨q1, q2⟩ e2 R2
      obtain ⟨u1, u2, u3⟩ := unlock_at R2.toRelS (e2.at g1) q1
      exact ⟨u1, l.ct _ _ _ f' _ q2 ((e1.trans e2).trans u3) (R2.later u3 u2)⟩
/-! ### list.index of any data -/
def rIndexD (K : Kf) : L2.V → List L2.V → Hp → L2.VK → Prop := fun x xs H Q => ∃ (a : Addr) (ys : List L2.V) (y : L2.V) (d : PyData) (es : List PyData) (j : Nat) (e : PyData), x = L2.V.ref a ∧ xs = [y] ∧ L2.SqL K H a ys ∧ L2.Dp K H y d ∧ L2.DpAll K H ys es ∧ (d.canLay0 = true ∧ d.depth ≤ 60) ∧ PyData.canLayAll0 es = true ∧ es[j]? = some e ∧ PyData.eqv e d = true ∧
  (∀ (m : Nat) (e' : PyData), m < j → es[m]? = some e' → PyData.eqv e' d = false) ∧ Q (.int (j : Nat)) H
theorem readsAll_at {h : Heap} : ∀ {vs : List Value} {es : List PyData} {as : List Addr}, ReadsAll h vs es as → vs.length = es.length ∧ ∀ (i : Nat) (e : PyData), es[i]? = some e → ∃ u, vs[i]? = some u ∧ ∃ bs, Reads h u e bs
  | [], _, _, r => by cases r; exact ⟨rfl, by simp⟩
  | u :: vs, _, _, r => by
    cases r with
    | cons h1 h2 =>
      obtain ⟨a, b⟩ := readsAll_at h2
      refine ⟨by simp [a], fun i e he => ?_⟩
      cases i with
      | zero => simp at he; subst he; exact ⟨u, rfl, _, h1⟩
      | succ i => exact b i e (by simpa using he)
theorem hit_eq {h : Heap} {d : PyData} {u : Value} {e : PyData} {bs : List Addr} (ru : Reads h u e bs) (he : e.canLay0 = true) : hitV h d u = PyData.eqv e d := by
  cases h1 : PyData.eqv e d with
  | true => exact hitV_iff.mpr ⟨e, bs, ru, h1⟩
  | false =>
    cases h2 : hitV h d u with
    | false => rfl
    | true =>
      obtain ⟨e', bs', r', h'⟩ := hitV_iff.mp h2
      rw [← reads_fun e e' u _ _ he ru r', h1] at h'
      cases h'
theorem mt_indexD (hu : X.A.units + 64 < cLine) : L2.MtR X "list.index" (rIndexD X.K) := by
  intro pins s σ H x xs v us Q I rx rxs h
  obtain ⟨a, ys, y, d, es, j, e, rfl, rfl, hs, hx, hxs, hd, hes, hz, hzj, hno, q⟩ := h
  cases rx
  cases rxs with
  | cons ry rt =>
    rename_i uy ut
    cases rt
    obtain ⟨as, rv0⟩ := L2.Dp.reads I d y uy hx ry
    obtain ⟨its, rv, ⟨⟨cls, dd, data, sl⟩, n, ho, hc, hdn, hdt⟩, hlen⟩ := I.list hs
    simp only at hc hdt
    subst hc hdt
    obtain ⟨bs, ra⟩ := L2.Dp.readsAll I es ys its hxs rv
    obtain ⟨hl1, hat⟩ := readsAll_at ra
    obtain ⟨m1, _⟩ := readsAll_mem ra
    obtain ⟨u, hu1, cs, ru⟩ := hat j e hz
    obtain ⟨hjl, hje⟩ := List.getElem?_eq_some_iff.mp hu1
    have hj : j < its.toArray.size := by simpa using hjl
    have hsl := sizeLine_eq
    have hvl := rv.length
    have hA : X.A.in1.units + 61 < cLine := by show X.A.units + 1 + 61 < cLine; omega
    refine call_meets PySem.F.slot_list_index ⟨_, ho, rfl⟩ PySem.F.entry_list_index (PySem.F.args_list_index_2 _ _)
      (SeqAt.list_indexAt a its.toArray n dd sl uy (hitV s.heap d) j hj (by omega) ?_ ?_) ⟨ho, fun u' hu' => ?_, ?_⟩
    · have e1 : its.toArray[j] = u := by simpa using hje
      rw [e1, hit_eq ru (canLay_mem hes e (List.mem_of_getElem? hz))]
      exact hzj
    · intro m hm hmj
      have hml : m < its.length := by simpa using hm
      have hme : m < es.length := by omega
      have hy' : es[m]? = some es[m] := List.getElem?_eq_getElem hme
      obtain ⟨u2, hu2, cs2, ru2⟩ := hat m _ hy'
      obtain ⟨_, hme2⟩ := List.getElem?_eq_some_iff.mp hu2
      have e1 : its.toArray[m] = u2 := by simpa using hme2
      rw [e1, hit_eq ru2 (canLay_mem hes _ (List.mem_of_getElem? hy'))]
      exact hno m _ hmj hy'
    · obtain ⟨e', he', cs', rw'⟩ := m1 u' (by simpa using hu')
      exact hit_eqAt rv0 hd rw' (canLay_mem hes e' he') hA
    · exact ⟨.int (j : Nat), H, I.tok _, ⟨_, rfl⟩, q⟩
theorem toPs_at : ∀ {xs : List D} {i : Nat}, (toPs xs)[i]? = (xs[i]?).map toP
  | [], i => by simp [toPs]
  | x :: xs, 0 => by simp [toPs]
  | x :: xs, i + 1 => by
    have := toPs_at (xs := xs) (i := i)
    simp only [toPs, List.getElem?_cons_succ]
    exact this
theorem okds_mem : ∀ {xs : List D} {i : Nat} {z : D}, okds 60 xs = true → xs[i]? = some z → D.okd 60 z = true
  | [], _, _, _, h => by simp at h
  | x :: xs, 0, z, h, e => by
    have h' : D.okd 60 x = true ∧ okds 60 xs = true := by simpa [okds] using h
    simp at e; subst e; exact h'.1
  | x :: xs, i + 1, z, h, e => by
    have h' : D.okd 60 x = true ∧ okds 60 xs = true := by simpa [okds] using h
    exact okds_mem h'.2 (by simpa using e)
theorem real_indexD : RealM K (rIndexD K) indexDM := fun f st H x xs v vs Q' Q s r1 r2 h l => by
  cases x <;> try (exact h.elim)
  match xs, h with
  | [], h => exact h.elim
  | y :: _ :: _, h => exact (show False from h).elim
  | [y], h =>
    obtain ⟨ys, j, z, h0, h1, h2, h3, h4, h5, h6⟩ := h
    rw [RD.ref] at r1
    obtain ⟨a, e, rfl⟩ := r1
    obtain ⟨w, rfl, r3⟩ := r2.inv1
    obtain ⟨a', us, g1, g2, g3⟩ := s.rdA h0
    rw [e] at g1; cases g1
    have okz : ∀ {i : Nat} {z : D}, ys[i]? = some z → D.okd 60 z = true := fun hz => okds_mem h2 hz
    refine ⟨a, us, w, _, _, j, toP z, rfl, rfl, g2, toP_dp y h1 r3, toPs_dp _ h2 g3, toP_ok y h1, (toPs_ok _ h2).1, ?_, ?_, fun m e' hm he' => ?_, l.now s h6 (RD.int.mpr rfl)⟩
    · rw [toPs_at, h3]; rfl
    · rw [toP_eqv z y (okz h3) h1]; exact h4
    · rw [toPs_at] at he'
      cases hq : ys[m]? with
      | none => rw [hq] at he'; cases he'
      | some z' =>
        rw [hq] at he'
        cases he'
        rw [toP_eqv z' y (okz hq) h1]
        exact h5 m z' hm hq
/-! ### list(range(i, j, -1)) -/
def dnV (a b : Int) : List L2.V := (List.range (a - b).toNat).map fun i => L2.V.int (a - (i : Nat))
theorem dnV_length (a b : Int) : (dnV a b).length = (a - b).toNat := by unfold dnV; rw [List.length_map, List.length_range]
theorem vals_dn {a b : Int} {acc : Array Value} (h : ItemsOf (fun i v => ∃ t, v = .int (a + i * (-1)) t) acc (a - b).toNat) : L2.Vals (dnV a b) acc.toList := by
  have e : acc.toList.length = (a - b).toNat := by rw [Array.length_toList]; exact h.1
  unfold dnV
  rw [← e]
  refine L2.vals_of_get acc.toList _ fun j u hj => ?_
  obtain ⟨t, rfl⟩ := h.2 j u (by rw [← hj, Array.getElem?_toList])
  exact ⟨t, by congr 1; omega⟩
theorem rngD_dnV (a b : Int) : RDs K f H (rngD a (a - b).toNat) (dnV a b) := by
  have e1 : rngD a (a - b).toNat = ((List.range (a - b).toNat).map fun (k : Nat) => a - (k : Int)).map D.int := by unfold rngD; simp
  have e2 : dnV a b = ((List.range (a - b).toNat).map fun (k : Nat) => a - (k : Int)).map L2.V.int := by unfold dnV; simp
  rw [e1, e2]; exact RDs.of_ints _
def tLstDn (ta : L2.TA) : L2.TE := fun σ H Q => ta σ H fun vs H1 => ∃ i j : Int, vs = [.int i, .int j, .int (-1)] ∧ (-(2 ^ 62) ≤ i ∧ i < 2 ^ 62 ∧ -(2 ^ 62) ≤ j ∧ j < 2 ^ 62 ∧ (i - j).toNat ≤ 2 ^ 24) ∧ ∀ q, H1 q = none → Q (.ref q) (L2.upd H1 q (.lst (dnV i j)))
open PyProof.Rows L2 in
theorem pe_lstDn {a b c : Expr} {ta : L2.TA} {p p2 pos pos2 : Pos} (hc : X.calm = true) (hg : L2.Gl X "list") (hm : X.mg "list" = none) (hg2 : L2.Gl X "range") (hm2 : X.mg "range" = none) (ha : L2.PA X [a, b, c] ta)
    (na : starEach [.Call (.Name "range" p2) [a, b, c] [] pos2] X.env = (false, eval (.Call (.Name "range" p2) [a, b, c] [] pos2) X.env) :: starEach [] X.env := by rfl)
    (hs : starEach [a, b, c] X.env = (false, eval a X.env) :: starEach [b, c] X.env := by rfl) (hpl : (backTo pos2 (starEach [b, c] X.env)).any (·.1) = false := by rfl) :
    L2.PE X (.Call (.Name "list" p) [.Call (.Name "range" p2) [a, b, c] [] pos2] [] pos) (tLstDn ta) := by
  refine ⟨fun pins s σ H Q I h => ?_⟩
  have inner : wpAny (model X.prog X.w) X.A (eval (.Call (.Name "range" p2) [a, b, c] [] pos2) X.env) (fun x s' => ∃ (r : Addr) (i j : Int) (t u v : PySem.Tok) (H' : Hp), x = .ref r ∧ IsRange s'.heap r i j (-1) t u v ∧ L2.Inv X pins σ H' s' ∧ ((-(2 ^ 62) ≤ i ∧ i < 2 ^ 62 ∧ -(2 ^ 62) ≤ j ∧ j < 2 ^ 62 ∧ (i - j).toNat ≤ 2 ^ 24) ∧ ∀ q, H' q = none → Q (.ref q) (L2.upd H' q (.lst (dnV i j))))) X.xe s := by
    refine Call_ (ld_blt I hg2 hm2 boot_range (PyProof.Rows.callWith_type1 (thn (ha.run pos2 pins s σ H _ I h) fun us s1 ⟨vs, H1, I1, r1, q1⟩ => ?_) hs hpl))
    obtain ⟨i, j, e, q⟩ := q1
    subst e
    cases r1 with
    | cons r rr =>
      cases rr with
      | cons r' rr =>
        cases rr with
        | cons r'' rr =>
          cases rr
          obtain ⟨t, rfl⟩ := r
          obtain ⟨t', rfl⟩ := r'
          obtain ⟨t'', rfl⟩ := r''
          refine call_range_3 (by decide) ?_ (.inl (PyProof.noPylong_small (by decide)))
          exact ⟨_, i, j, _, _, _, H1, rfl, IsRange.new .., I1.kept fun b o e => Heap.get?_push_of_some _ e, q⟩
  refine Call_ (ld_blt I hg hm boot_list (PyProof.Rows.callWith_type1 (args_cons (thn inner fun x s1 ⟨r, i, j, t, u, v, H1, ex, hr, I1, ok, q⟩ => args_nil ?_) na) na))
  subst ex
  obtain ⟨b1, b2, b3, b4, b5⟩ := ok
  refine call_list_range (n := (i - j).toNat) (I1.ok.hd hc) hr (PySem.W.small_down b1 b2 b3 b4) (PySem.W.rangeSize_downNat i j) b5 fun h' tk acc c' hk e' hi => ?_
  refine ⟨.ref s1.heap.objs.size, L2.upd H1 s1.heap.objs.size (.lst (dnV i j)), I1.laid hk (Nat.le_refl _) (show L2.ObjOk X.prog X.w _ _ _ (.lst (dnV i j)) from ⟨?_, acc.toList, c', vals_dn hi, ?_⟩), rfl, q _ (I1.hok.fresh (Nat.le_refl _))⟩
  · rw [dnV_length, sizeLine_eq]; omega
  · rw [Array.toArray_toList]; exact e'
theorem pd_lstRD {a b : Expr} {ta tb : TE} {p p1 p2 p3 pos pos2 : Pos} {k1 : _} (hc : X.calm = true) (hg : L2.Gl X "list") (hm : X.mg "list" = none) (hg2 : L2.Gl X "range") (hm2 : X.mg "range" = none) (h : PD X a ta) (h' : PD X b tb)
    (na : starEach [.Call (.Name "range" p2) [a, b, .UnaryOp .USub (.Constant (.int 1) k1 p1) p3] [] pos2] X.env = (false, eval (.Call (.Name "range" p2) [a, b, .UnaryOp .USub (.Constant (.int 1) k1 p1) p3] [] pos2) X.env) :: starEach [] X.env := by rfl)
    (hs : starEach [a, b, .UnaryOp .USub (.Constant (.int 1) k1 p1) p3] X.env = (false, eval a X.env) :: starEach [b, .UnaryOp .USub (.Constant (.int 1) k1 p1) p3] X.env := by rfl) (hs2 : starEach [b, .UnaryOp .USub (.Constant (.int 1) k1 p1) p3] X.env = (false, eval b X.env) :: starEach [.UnaryOp .USub (.Constant (.int 1) k1 p1) p3] X.env := by rfl)
    (hs3 : starEach [.UnaryOp .USub (.Constant (.int 1) k1 p1) p3] X.env = (false, eval (.UnaryOp .USub (.Constant (.int 1) k1 p1) p3) X.env) :: starEach [] X.env := by rfl) (hpl : (backTo pos2 (starEach [b, .UnaryOp .USub (.Constant (.int 1) k1 p1) p3] X.env)).any (·.1) = false := by rfl) :
    PD X (.Call (.Name "list" p) [.Call (.Name "range" p2) [a, b, .UnaryOp .USub (.Constant (.int 1) k1 p1) p3] [] pos2] [] pos) (dLRD ta tb) :=
  pe_imp (pe_lstDn hc hg hm hg2 hm2 (L2.pa_cons h (L2.pa_cons h' (L2.pa_cons (pd_neg pd_int) L2.pa_nil hs3) hs2) hs) na hs hpl) fun σ H Q ⟨f, ρ, st, Q', Re, h, l⟩ => ⟨f, ρ, st, _, Re, h, fun x st1 v f1 H1 q1 e1 s1 r1 => ⟨f1, ρ, st1, _, Re.later e1 s1, q1, fun y st2 w f2 H2 q2 e2 s2 r2 => by
    obtain ⟨i, j, rfl, rfl, hb, h3⟩ := q2
    have r1' := r1.mono e2
    rw [RD.int] at r1' r2
    subst r1'; subst r2
    refine ⟨f2, ρ, st2, fun z st3 => z = .int (-1) ∧ st3 = st2, Re.later (e1.trans e2) s2, ⟨rfl, rfl⟩, fun z st3 u f3 H3 q3 e3 s3 r3 => ?_⟩
    obtain ⟨rfl, rfl⟩ := q3
    rw [RD.int] at r3
    subst r3
    exact ⟨i, j, rfl, hb, fun p hp => (l.later ((e1.trans e2).trans e3)).lst s3 h3 (rngD_dnV i j) hp⟩⟩⟩
end
end Pd
end PartPdSoundO

section PartPdMore11
set_option Elab.async false
set_option linter.all false
set_option maxRecDepth 100000
/-! Pd: more readings of texts: a sign in a text, join, count, str of a number, a walk over the signs; a list's place from the end. Own work. -/
namespace Pd
open PySem
/-- a sign in a text -/
def inSgC : KC
  | .str x, .str z, _, Q => ∃ c, x.cps.toList = [c] ∧ Q (decide (c ∈ z.cps.toList))
  | _, _, _, _ => False
def notinSgC : KC := fun x y st Q => inSgC x y st fun b => Q (!b)
/-- sep.join(xs) -/
def joinM : KM
  | .str a, [.ref n], st, Q => ∃ ys : List Str, rdA st n (ys.map D.str) ∧ (ys.map (·.length)).sum + ys.length * a.length ≤ 16777216 ∧ Q (.str (PySem.Txt.join a ys)) st
  | .str a, [.tup xs], st, Q => ∃ ys : List Str, xs = ys.map D.str ∧ (ys.map (·.length)).sum + ys.length * a.length ≤ 16777216 ∧ Q (.str (PySem.Txt.join a ys)) st
  | _, _, _, _ => False
/-- x.count(y) of texts -/
def countSM : KM
  | .str a, [.str b], st, Q => Q (.int (PySem.Txt.count a b)) st
  | _, _, _, _ => False
/-- str(i) -/
def strIB : KB
  | [.int i], st, Q => i.natAbs.log2 < 1920 ∧ Q (.str (toString i : String)) st
  | _, _, _ => False
/-- the signs of a text -/
def sgD (z : Str) : List D := z.cps.toList.map fun c => D.str ⟨#[c]⟩
def iStrD (t : TE) : TI := fun σ st R => t σ st fun x st1 => ∃ z, x = .str z ∧ R ⟨sgD z, fun _ => True⟩ st1
/-- xs[i] = v, i from the end too -/
def ixJ (n : Nat) (i : Int) : Option Nat := if 0 ≤ i then (if i < n then some i.toNat else none) else if -(n : Int) ≤ i then some (i + n).toNat else none
def setNK : D → D → D → Store → (Store → Prop) → Prop
  | .ref n, .int i, v, st, Q => ∃ xs j, rdL st n xs ∧ ixJ xs.length i = some j ∧ Q (st.set n (.lst (xs.set j v)))
  | _, _, _, _, _ => False
def gSubN (to ti : TE) : TG := fun v σ st Q => to σ st fun o st1 => ti σ st1 fun i st2 => setNK o i v st2 fun st3 => Q σ st3
section
variable {σ : Env} {st : Store} {Q : K} {ta to ti : TE} {d : D} {u v : Str} {r : Bool → Prop}
instance : Red (strIB [.int i] st Q) (i.natAbs.log2 < 1920 ∧ Q (.str (toString i : String)) st) := ⟨id⟩
instance : Red (countSM (.str u) [.str v] st Q) (Q (.int (PySem.Txt.count u v)) st) := ⟨id⟩
instance {R : Iter → Store → Prop} : Red (iStrD ta σ st R) (ta σ st fun x st1 => ∃ z, x = .str z ∧ R ⟨sgD z, fun _ => True⟩ st1) := ⟨id⟩
instance {q : Env → Store → Prop} : Red (gSubN to ti d σ st q) (to σ st fun o st1 => ti σ st1 fun i st2 => setNK o i d st2 fun st3 => q σ st3) := ⟨id⟩
end
end Pd
end PartPdMore11

section PartPdSoundT
set_option Elab.async false
set_option linter.all false
set_option maxRecDepth 100000
set_option maxHeartbeats 1000000
/-! Pd over the hand layer: texts, constants of the module. Own work. -/
namespace Pd
open PySem PySem.Spec
section
variable {X : L2.Cx} {K : Kf} {f f' : List Addr} {H H' : Hp} {st st' : Store} {ρ : Env} {σ : L2.St}
theorem real_insg : RealC K (fun x y H Q => ∃ (c : Nat) (z : Str), x = .str ⟨#[c]⟩ ∧ y = .str z ∧ Q (.bl (decide (c ∈ z.cps.toList))) H) inSgC := fun f st H x y v w Q' Q s r1 r2 h l => by
  cases x <;> try (exact h.elim)
  cases y <;> try (exact h.elim)
  rename_i x z
  obtain ⟨c, e, q⟩ := h
  rw [RD.str] at r1 r2
  have ex : x = ⟨#[c]⟩ := by
    obtain ⟨cps⟩ := x
    obtain ⟨l⟩ := cps
    have e' : l = [c] := e
    rw [e']
  rw [ex] at r1
  exact ⟨c, z, r1, r2, l _ q⟩
theorem real_notinsg : RealC K (fun x y H Q => ∃ (c : Nat) (z : Str), x = .str ⟨#[c]⟩ ∧ y = .str z ∧ Q (.bl (!decide (c ∈ z.cps.toList))) H) notinSgC := fun f st H x y v w Q' Q s r1 r2 h l => by
  cases x <;> try (exact (show False from h).elim)
  cases y <;> try (exact (show False from h).elim)
  rename_i x z
  obtain ⟨c, e, q⟩ := h
  rw [RD.str] at r1 r2
  have ex : x = ⟨#[c]⟩ := by
    obtain ⟨cps⟩ := x
    obtain ⟨l⟩ := cps
    have e' : l = [c] := e
    rw [e']
  rw [ex] at r1
  exact ⟨c, z, r1, r2, l _ q⟩
theorem RDs.strs : ∀ {ys : List Str} {vs : List L2.V}, RDs K f H (ys.map D.str) vs → vs = ys.map L2.V.str
  | [], _, h => by rw [List.map_nil, RDs.nil] at h; subst h; rfl
  | n :: ns, _, h => by
    rw [List.map_cons, RDs.cons] at h
    obtain ⟨v, r, rfl, h2, h3⟩ := h
    rw [RD.str] at h2
    rw [h2, RDs.strs h3]; rfl
theorem real_join : RealM K (fun x xs H Q => ∃ a p, ∃ ys : List Str, x = .str a ∧ xs = [.ref p] ∧ (L2.SqL K H p (ys.map L2.V.str) ∨ L2.SqT K H p (ys.map L2.V.str)) ∧ (ys.map (·.length)).sum + ys.length * a.length ≤ 16777216 ∧ Q (.str (Txt.join a ys)) H) joinM := fun f st H x xs v vs Q' Q s r1 r2 h l => by
  cases x <;> try (exact h.elim)
  rename_i a
  rw [RD.str] at r1
  match xs, h with
  | [], h => exact h.elim
  | y :: _ :: _, h => cases y <;> exact (show False from h).elim
  | [y], h =>
    obtain ⟨w, rfl, r3⟩ := r2.inv1
    cases y <;> try (exact h.elim)
    · rw [RD.tup] at r3
      obtain ⟨p, us, rfl, t, d⟩ := r3
      obtain ⟨ys, rfl, hz, q⟩ := h
      have e := RDs.strs d
      subst e
      exact ⟨a, p, ys, r1, rfl, .inr t, hz, l.now s q (RD.str.mpr rfl)⟩
    · rw [RD.ref] at r3
      obtain ⟨p, e, rfl⟩ := r3
      obtain ⟨ys, g1, hz, q⟩ := h
      obtain ⟨p', us, k1, k2, d⟩ := s.rdA g1
      rw [e] at k1; cases k1
      have e := RDs.strs d
      subst e
      exact ⟨a, p, ys, r1, rfl, .inl k2, hz, l.now s q (RD.str.mpr rfl)⟩
theorem real_countS : RealM K (fun x xs H Q => ∃ a b, x = .str a ∧ xs = [.str b] ∧ Q (.int (Txt.count a b)) H) countSM := fun f st H x xs v vs Q' Q s r1 r2 h l => by
  cases x <;> try (exact h.elim)
  rename_i a
  rw [RD.str] at r1
  match xs, h with
  | [], h => exact h.elim
  | y :: _ :: _, h => cases y <;> exact (show False from h).elim
  | [y], h =>
    obtain ⟨w, rfl, r3⟩ := r2.inv1
    cases y <;> try (exact h.elim)
    rename_i b
    rw [RD.str] at r3
    exact ⟨a, b, r1, by rw [r3], l.now s h (RD.int.mpr rfl)⟩
theorem real_strI : RealB K (fun xs H Q => ∃ i, xs = [.int i] ∧ i.natAbs.log2 < 1920 ∧ Q (.str (toString i : String)) H) strIB :=
  realB1 (kb1 (fun _ _ h => h) fun x y xs st Q h => by cases x <;> exact h) fun f st H x v Q' Q s r h l => by
    cases x <;> try (exact h.elim)
    rw [RD.int] at r; subst r
    exact ⟨_, rfl, h.1, l.now s h.2 (RD.str.mpr rfl)⟩
theorem realI_str {z : Str} : RealI K f H ⟨sgD z, fun _ => True⟩ (L2.Its z) where
  go := fun i f2 st2 H2 e2 s2 g hi => by
    have : i < z.cps.toList.length := by simpa [sgD] using hi
    show i < z.cps.size
    simpa using this
  stop := fun f2 st2 H2 e2 s2 g => by
    show z.cps.size ≤ (sgD z).length
    simp [sgD]
  yld := fun i f2 st2 H2 d x H3 e2 s2 g hd y => by
    obtain ⟨rfl, c, hc, rfl⟩ := y
    refine ⟨.refl, s2, ?_⟩
    have hd' : (sgD z)[i]? = some d := hd
    unfold sgD at hd'
    rw [List.getElem?_map, Array.getElem?_toList, hc] at hd'
    cases hd'
    exact RD.str.mpr rfl
section
variable {a b c e o i : Expr} {es : List Expr} {ta tb te to ti : TE} {pos tpos : Pos}
theorem pi_strD {tg : Expr} (h : PD X a ta) : PDI X tg a (iStrD ta) :=
  pi_imp (L2.pi_str h) fun σ H R ⟨f, ρ, st, R', Re, h, l⟩ => ⟨f, ρ, st, _, Re, h, fun x st1 v f1 H1 q1 e1 s1 r1 => by
    obtain ⟨z, rfl, q⟩ := q1
    rw [RD.str] at r1
    exact ⟨z, r1, l _ st1 _ f1 H1 q e1 s1 realI_str⟩⟩
theorem real_setN : RealSet K L2.rSetL setNK := fun f st H o i v ov iv vv Q' Q s r1 r2 r3 h l => by
  cases o <;> try (exact h.elim)
  cases i <;> try (exact h.elim)
  rename_i n i
  rw [RD.ref] at r1
  rw [RD.int] at r2
  obtain ⟨a, e, rfl⟩ := r1
  obtain ⟨xs, j, h1, h2, h4⟩ := h
  obtain ⟨a', vs, k1, k2, k3⟩ := s.rdL h1
  rw [e] at k1; cases k1
  obtain ⟨s', e'⟩ := s.put e h1 k2 (k3.set j r3)
  exact ⟨a, vs, i, j, rfl, r2, k2, by rw [k3.length]; exact h2, l _ _ h4 e' s'⟩
theorem pg_subN (h1 : PD X o to) (h2 : PD X i ti) (ha : ∀ v, assign (.Subscript o i pos) X.env v = (do
      let ov ← holding [v] (eval o X.env)
      let iv ← holding [v, ov] (eval i X.env)
      standAt pos
      holding [v, ov, iv] (setItem ov iv v)
      release [v, ov, iv] []) := by intro _; rfl) : PDG X (.Subscript o i pos) (gSubN to ti) [] :=
  pg_imp (L2.pg_sub h1 h2 L2.set_list ha) fun v σ H Q ⟨f, ρ, st, d, Q', R, r, h, l⟩ => ⟨f, ρ, st, _, R, h, fun x st1 u f1 H1 q1 e1 s1 r1 => ⟨f1, ρ, st1, _, R.later e1 s1, q1, fun y st2 w f2 H2 q2 e2 s2 r2 =>
    real_setN f2 st2 H2 x y d u w v _ _ s2 (r1.mono e2) r2 (r.mono (e1.trans e2)) q2 fun st3 H3 q3 e3 s3 => l ρ st3 σ f2 H3 q3 ((e1.trans e2).trans e3) (R.later ((e1.trans e2).trans e3) s3) .refl⟩⟩
end
/-! ### constants of the module -/
/-- at the name x stands d -/
def GlobIs (K : Kf) (mg : Str → Option Value) (x : Str) (d : D) : Prop := ∃ u, mg x = some u ∧ ∃ v, L2.RelV v u ∧ ∀ f H, RD K f H d v
theorem pd_globE {x : Str} {d : D} {pos : Pos} (h : GlobIs X.K X.mg x d) (hg : L2.Gl X x) (hd : (x == ("__debug__" : Str)) = false := by decide) : PD X (.Name x pos) (dC d) := by
  obtain ⟨u, h1, h2⟩ := h
  exact pd_glob hg h1 h2 hd
def strOk (u : Value) (s : Str) : Bool := match u with
  | .str z _ => decide (z = s)
  | _ => false
theorem glob_str {mg : Str → Option Value} {x s : Str} {u : Value} (h : mg x = some u) (e : strOk u s = true) : GlobIs K mg x (.str s) := by
  cases u <;> first | (cases e; done) | skip
  rename_i z t
  have e : z = s := by simpa [strOk] using e
  subst e
  exact ⟨_, h, .str z, ⟨t, rfl⟩, fun f H => RD.str.mpr rfl⟩
/-- a written item: a text, a number, a truth, None -/
def itOk (u : Value) (d : D) : Bool := match u, d with
  | .str z _, .str s => decide (z = s)
  | .int i _, .int j => decide (i = j)
  | .bool a, .bl b => a == b
  | .none, .non => true
  | _, _ => false
def itsOk : List Value → List D → Bool
  | [], [] => true
  | u :: us, d :: ds => itOk u d && itsOk us ds
  | _, _ => false
theorem it_rel {u : Value} {d : D} (e : itOk u d = true) : ∃ v, L2.RelV v u ∧ ∀ f H, RD K f H d v := by
  cases u <;> cases d <;> first | (cases e; done) | skip
  · exact ⟨.non, rfl, fun f H => RD.non.mpr rfl⟩
  · rename_i a b
    have e : a = b := by simpa [itOk] using e
    subst e
    exact ⟨.bl a, rfl, fun f H => RD.bl.mpr rfl⟩
  · rename_i i t j
    have e : i = j := by simpa [itOk] using e
    subst e
    exact ⟨.int i, ⟨t, rfl⟩, fun f H => RD.int.mpr rfl⟩
  · rename_i z t s
    have e : z = s := by simpa [itOk] using e
    subst e
    exact ⟨.str z, ⟨t, rfl⟩, fun f H => RD.str.mpr rfl⟩
theorem its_rel : ∀ {us : List Value} {ds : List D}, itsOk us ds = true → ∃ vs, L2.Vals vs us ∧ ∀ f H, RDs K f H ds vs
  | [], [], _ => ⟨[], .nil, fun f H => RDs.nil.mpr rfl⟩
  | [], _ :: _, e => by cases e
  | _ :: _, [], e => by cases e
  | u :: us, d :: ds, e => by
    have e' : itOk u d = true ∧ itsOk us ds = true := by simpa [itsOk] using e
    obtain ⟨v, h1, h2⟩ := it_rel e'.1
    obtain ⟨vs, h3, h4⟩ := its_rel e'.2
    exact ⟨v :: vs, .cons h1 h3, fun f H => RDs.cons.mpr ⟨v, vs, rfl, h2 f H, h4 f H⟩⟩
theorem glob_tup {mg : Str → Option Value} {x : Str} {a : Addr} {oc : Value} {od : Option Addr} {its : Array Value} {n : Nat} {sl : Array (Option Value)} {ds : List D} (h : mg x = some (.ref a)) (l : K.lookup a = some ⟨oc, od, .seq its n, sl⟩) (c : oc = .type "tuple")
    (e : (itsOk its.toList ds && decide (its.size ≤ 1000)) = true) : GlobIs K mg x (.tup ds) := by
  have e' : itsOk its.toList ds = true ∧ its.size ≤ 1000 := by simpa using e
  obtain ⟨vs, h1, h2⟩ := its_rel e'.1
  refine ⟨_, h, .ref a, rfl, fun f H => RD.tup.mpr ⟨a, vs, rfl, .inr ⟨_, its, n, l, c, rfl, ?_, h1⟩, h2 f H⟩⟩
  have := e'.2
  unfold sizeLine
  omega
end
end Pd
end PartPdSoundT

section PartPdMore12
set_option Elab.async false
set_option linter.all false
set_option maxRecDepth 100000
/-! Pd: more readings: a written dict of the module, keys texts. Own work. -/
namespace Pd
open PySem
def inGK (kvs : List (Str × D)) : D → Store → K → Prop
  | .str z, st, Q => Q (.bl (kvs.any fun p => decide (p.1 = z))) st
  | _, _, _ => False
def notinGK (kvs : List (Str × D)) : D → Store → K → Prop
  | .str z, st, Q => Q (.bl (!kvs.any fun p => decide (p.1 = z))) st
  | _, _, _ => False
def getGK (kvs : List (Str × D)) : D → Store → K → Prop
  | .str z, st, Q => ∃ p, kvs.find? (fun p => decide (p.1 = z)) = some p ∧ Q p.2 st
  | _, _, _ => False
section
variable {kvs : List (Str × D)} {z : Str} {st : Store} {Q : K}
instance : Red (inGK kvs (.str z) st Q) (Q (.bl (kvs.any fun p => decide (p.1 = z))) st) := ⟨id⟩
instance : Red (notinGK kvs (.str z) st Q) (Q (.bl (!kvs.any fun p => decide (p.1 = z))) st) := ⟨id⟩
instance : Red (getGK kvs (.str z) st Q) (∃ p, kvs.find? (fun p => decide (p.1 = z)) = some p ∧ Q p.2 st) := ⟨id⟩
end
end Pd
end PartPdMore12

section PartPdSoundU
set_option Elab.async false
set_option linter.all false
set_option maxRecDepth 100000
set_option maxHeartbeats 1000000
/-! Pd over the hand layer: written dicts of the module. Own work. -/
namespace Pd
open PySem PySem.Spec
section
variable {X : L2.Cx} {K : Kf} {f f' : List Addr} {H H' : Hp} {st st' : Store} {ρ : Env} {σ : L2.St}
def kvsOk : List DictEntry → List (Str × D) → Bool
  | [], [] => true
  | e :: es, p :: kvs => strOk e.key p.1 && itOk e.val p.2 && kvsOk es kvs
  | _, _ => false
/-- at the name x stands the module's dict d -/
def GlobDic (K : Kf) (w : World) (mg : Str → Option Value) (x : Str) (kvs : List (Str × D)) : Prop := ∃ d es n, mg x = some (.ref d) ∧ L2.KDict K w d es n ∧ kvsOk es.toList kvs = true
theorem key_str {u : Value} {s : Str} (h : strOk u s = true) : ∃ t, u = .str s t := by
  cases u <;> first | (cases h; done) | skip
  rename_i z t
  have e : z = s := by simpa [strOk] using h
  exact ⟨t, by rw [e]⟩
theorem kvs_split {e : DictEntry} {es : List DictEntry} {p : Str × D} {kvs : List (Str × D)} (h : kvsOk (e :: es) (p :: kvs) = true) : strOk e.key p.1 = true ∧ itOk e.val p.2 = true ∧ kvsOk es kvs = true := by
  have h' : (strOk e.key p.1 && itOk e.val p.2 && kvsOk es kvs) = true := h
  simp only [Bool.and_eq_true] at h'
  exact ⟨h'.1.1, h'.1.2, h'.2⟩
theorem isStr_key {u : Value} {s z : Str} (h : strOk u s = true) : u.isStr z = decide (s = z) := by
  obtain ⟨t, rfl⟩ := key_str h
  show (s == z) = _
  by_cases e : s = z <;> simp [e]
theorem find_kvs : ∀ {es : List DictEntry} {kvs : List (Str × D)} {z : Str}, kvsOk es kvs = true → (es.find? (fun e => e.key.isStr z) = none ∧ kvs.find? (fun p => decide (p.1 = z)) = none) ∨ ∃ e p, es.find? (fun e => e.key.isStr z) = some e ∧ kvs.find? (fun p => decide (p.1 = z)) = some p ∧ itOk e.val p.2 = true
  | [], [], z, _ => .inl ⟨rfl, rfl⟩
  | [], _ :: _, _, h => by cases h
  | _ :: _, [], _, h => by cases h
  | e :: es, p :: kvs, z, h => by
    obtain ⟨h1, h2, h3⟩ := kvs_split h
    rw [List.find?_cons, List.find?_cons, isStr_key h1]
    by_cases ez : p.1 = z
    · rw [decide_eq_true ez]
      exact .inr ⟨e, p, rfl, rfl, h2⟩
    · rw [decide_eq_false ez]
      exact find_kvs h3
theorem noRef_kvs : ∀ {es : List DictEntry} {kvs : List (Str × D)}, kvsOk es kvs = true → es.any (·.refKey) = false
  | [], [], _ => rfl
  | [], _ :: _, h => by cases h
  | _ :: _, [], h => by cases h
  | e :: es, p :: kvs, h => by
    obtain ⟨h1, h2, h3⟩ := kvs_split h
    rw [List.any_cons, noRef_kvs h3]
    obtain ⟨t, ht⟩ := key_str h1
    unfold DictEntry.refKey
    rw [ht]
    rfl
theorem nsIn_kvs {w : World} {d : Addr} {es : Array DictEntry} {n : Nat} {kvs : List (Str × D)} (Dk : L2.KDict K w d es n) (h : kvsOk es.toList kvs = true) (z : Str) :
    ∃ r, PySem.W.nsIn K d z = some r ∧ r.isSome = (kvs.any fun p => decide (p.1 = z)) ∧ ∀ p, kvs.find? (fun p => decide (p.1 = z)) = some p → ∃ u, r = some u ∧ itOk u p.2 = true := by
  have any_find : ∀ l : List (Str × D), (l.any fun p => decide (p.1 = z)) = (l.find? fun p => decide (p.1 = z)).isSome := by
    intro l
    induction l with
    | nil => rfl
    | cons p l ih =>
      rw [List.any_cons, List.find?_cons, ih]
      cases decide (p.1 = z) <;> rfl
  unfold PySem.W.nsIn
  rw [Dk.at_]
  dsimp only
  rw [any_find]
  rcases find_kvs (z := z) h with ⟨h1, h2⟩ | ⟨e, p, h1, h2, h3⟩
  · rw [h1, h2, noRef_kvs h]
    exact ⟨none, rfl, rfl, fun p hp => nomatch hp⟩
  · rw [h1, h2]
    exact ⟨some e.val, rfl, rfl, fun q hq => by cases hq; exact ⟨_, rfl, h3⟩⟩
variable {i : Expr} {ti : TE} {x : Str} {pos npos : Pos} {kvs : List (Str × D)}
theorem pd_inG (g : GlobDic X.K X.w X.mg x kvs) (hg : L2.Gl X x) (hi : PD X i ti) (hm : behindInMarks .In (.Name x npos) = false := by rfl) (hd : (x == ("__debug__" : Str)) = false := by decide) : PD X (.Compare i [.In] [.Name x npos] pos) (dUn (inGK kvs) ti) := by
  obtain ⟨d, es, n, h1, Dk, h2⟩ := g
  refine pe_imp (L2.pe_cmpR (L2.op_in_kd Dk) hi (L2.pe_glob hg h1 (v := .ref d) rfl hd) hm) fun σ H Q ⟨f, ρ, st, Q', R, h, l⟩ => ⟨f, ρ, st, _, R, h, fun y st1 v f1 H1 q1 e1 s1 r1 => ?_⟩
  cases y <;> try (exact q1.elim)
  rename_i z
  rw [RD.str] at r1
  obtain ⟨r, n1, n2, _⟩ := nsIn_kvs Dk h2 z
  exact ⟨z, r, r1, rfl, n1, l _ st1 _ f1 H1 q1 e1 s1 (RD.bl.mpr (by rw [n2]))⟩
theorem pd_notinG (g : GlobDic X.K X.w X.mg x kvs) (hg : L2.Gl X x) (hi : PD X i ti) (hm : behindInMarks .NotIn (.Name x npos) = false := by rfl) (hd : (x == ("__debug__" : Str)) = false := by decide) : PD X (.Compare i [.NotIn] [.Name x npos] pos) (dUn (notinGK kvs) ti) := by
  obtain ⟨d, es, n, h1, Dk, h2⟩ := g
  refine pe_imp (L2.pe_cmpR (L2.op_notIn_kd Dk) hi (L2.pe_glob hg h1 (v := .ref d) rfl hd) hm) fun σ H Q ⟨f, ρ, st, Q', R, h, l⟩ => ⟨f, ρ, st, _, R, h, fun y st1 v f1 H1 q1 e1 s1 r1 => ?_⟩
  cases y <;> try (exact q1.elim)
  rename_i z
  rw [RD.str] at r1
  obtain ⟨r, n1, n2, _⟩ := nsIn_kvs Dk h2 z
  exact ⟨z, r, r1, rfl, n1, l _ st1 _ f1 H1 q1 e1 s1 (RD.bl.mpr (by rw [n2]))⟩
theorem pt_inG (g : GlobDic X.K X.w X.mg x kvs) (hg : L2.Gl X x) (hi : PD X i ti) (hm : behindInMarks .In (.Name x npos) = false := by rfl) (hd : (x == ("__debug__" : Str)) = false := by decide) : PDT X (.Compare i [.In] [.Name x npos] pos) (tTru (dUn (inGK kvs) ti)) := by
  obtain ⟨d, es, n, h1, Dk, h2⟩ := g
  refine pt_imp (L2.pt_cmpR (L2.op_in_kd Dk) hi (L2.pe_glob hg h1 (v := .ref d) rfl hd) hm) fun σ H Q ⟨f, ρ, st, Q', R, h, l⟩ => ⟨f, ρ, st, _, R, h, fun y st1 v f1 H1 q1 e1 s1 r1 => ?_⟩
  cases y <;> try (exact q1.elim)
  rename_i z
  rw [RD.str] at r1
  obtain ⟨r, n1, n2, _⟩ := nsIn_kvs Dk h2 z
  have q2 : Q' (kvs.any fun p => decide (p.1 = z)) st1 := q1
  exact ⟨z, r, r1, rfl, n1, ⟨_, rfl, by rw [n2]; exact l _ st1 f1 H1 q2 e1 s1⟩⟩
theorem pt_notinG (g : GlobDic X.K X.w X.mg x kvs) (hg : L2.Gl X x) (hi : PD X i ti) (hm : behindInMarks .NotIn (.Name x npos) = false := by rfl) (hd : (x == ("__debug__" : Str)) = false := by decide) : PDT X (.Compare i [.NotIn] [.Name x npos] pos) (tTru (dUn (notinGK kvs) ti)) := by
  obtain ⟨d, es, n, h1, Dk, h2⟩ := g
  refine pt_imp (L2.pt_cmpR (L2.op_notIn_kd Dk) hi (L2.pe_glob hg h1 (v := .ref d) rfl hd) hm) fun σ H Q ⟨f, ρ, st, Q', R, h, l⟩ => ⟨f, ρ, st, _, R, h, fun y st1 v f1 H1 q1 e1 s1 r1 => ?_⟩
  cases y <;> try (exact q1.elim)
  rename_i z
  rw [RD.str] at r1
  obtain ⟨r, n1, n2, _⟩ := nsIn_kvs Dk h2 z
  have q2 : Q' (!kvs.any fun p => decide (p.1 = z)) st1 := q1
  exact ⟨z, r, r1, rfl, n1, ⟨_, rfl, by rw [n2]; exact l _ st1 f1 H1 q2 e1 s1⟩⟩
theorem pd_getG (g : GlobDic X.K X.w X.mg x kvs) (hg : L2.Gl X x) (hs : L2.PlainIx i) (hi : PD X i ti) (hd : (x == ("__debug__" : Str)) = false := by decide) : PD X (.Subscript (.Name x npos) i pos) (dUn (getGK kvs) ti) := by
  obtain ⟨d, es, n, h1, Dk, h2⟩ := g
  refine pe_imp (L2.pe_ix L2.ix_kdict (L2.pe_glob hg h1 (v := .ref d) rfl hd) hi hs) fun σ H Q ⟨f, ρ, st, Q', R, h, l⟩ => ?_
  refine (show lift X.K ti σ H (fun y H1 => L2.rIxD X.K X.w (.ref d) y H1 Q) from ⟨f, ρ, st, _, R, h, fun y st1 v f1 H1 q1 e1 s1 r1 => ?_⟩)
  cases y <;> try (exact q1.elim)
  rename_i z
  rw [RD.str] at r1
  obtain ⟨p, p1, p2⟩ := q1
  obtain ⟨r, n1, n2, n3⟩ := nsIn_kvs Dk h2 z
  obtain ⟨u, rfl, n4⟩ := n3 p p1
  obtain ⟨v', v1, v2⟩ := it_rel (K := X.K) n4
  exact ⟨d, z, v', rfl, r1, ⟨es, n, u, Dk.at_, Dk.lit, n1, v1⟩, l _ st1 _ f1 H1 p2 e1 s1 (v2 f1 H1)⟩
theorem glob_dic {w : World} {mg : Str → Option Value} {a : Addr} {es : Array DictEntry} {n : Nat} (h : mg x = some (.ref a)) (l : K.lookup a = some ⟨.type "dict", none, .dict es n, #[]⟩) (lit : PySem.W.KeysLit w.params es.toList) (low : (a == sysModules) = false) (e : kvsOk es.toList kvs = true) : GlobDic K w mg x kvs :=
  ⟨a, es, n, h, ⟨l, lit, low⟩, e⟩
end
end Pd
end PartPdSoundU

section PartPdDraw
set_option Elab.async false
set_option linter.all false
set_option maxRecDepth 100000
/-! Pd: the laws' drawing def. Own work. -/
namespace Pd
open PySem
local macro_rules | `(tactic| walk_at "s") => `(tactic| (repeat (refine Red.red ?_)))
local macro_rules | `(tactic| walk_at "r") => `(tactic| (repeat (first | refine Red.red ?_ | refine Nxt.mk ?_)))
/-- the drawer stands at 2, the script's numbers at 1 -/
def DrawAt (st : Store) : Prop := ∃ (ns : List Int) (a b v : Int), rdL st 1 (ns.map D.int) ∧ rdL st 2 [.ref 1, .int a, .int b, .int v, .int 2] ∧ 0 ≤ a ∧ 0 ≤ b ∧ 0 ≤ v ∧ ns.length ≤ 63
/-- later: the drawer goes on, cells are added, all others are as they were -/
structure Fra (st st' : Store) : Prop where
  dr : DrawAt st'
  le : st.length ≤ st'.length
  at' : ∀ n, n < st.length → n ≠ 2 → st'[n]? = st[n]?
theorem Fra.refl {st : Store} (h : DrawAt st) : Fra st st := ⟨h, Nat.le_refl _, fun _ _ _ => rfl⟩
theorem Fra.trans {a b c : Store} (h : Fra a b) (h' : Fra b c) : Fra a c := ⟨h'.dr, Nat.le_trans h.le h'.le, fun n hn ne => (h'.at' n (Nat.lt_of_lt_of_le hn h.le) ne).trans (h.at' n hn ne)⟩
theorem rdL_lt {st : Store} {n : Nat} {xs : List D} (h : rdL st n xs) : n < st.length := (List.getElem?_eq_some_iff.mp h).1
theorem rdL_app {st : Store} {n : Nat} {xs : List D} {c : C} (h : rdL st n xs) : rdL (st ++ [c]) n xs := by
  unfold rdL at *
  rw [List.getElem?_append_left (rdL_lt h)]; exact h
theorem rdL_new {st : Store} {xs : List D} : rdL (st ++ [.lst xs]) st.length xs := by unfold rdL; simp
theorem rdL_set {st : Store} {n : Nat} {xs ys : List D} (h : rdL st n xs) : rdL (st.set n (.lst ys)) n ys := by unfold rdL; rw [List.getElem?_set_self (rdL_lt h)]
theorem rdL_ne {st : Store} {n m : Nat} {xs : List D} {c : C} (h : rdL st n xs) (ne : n ≠ m) : rdL (st.set m c) n xs := by unfold rdL at *; rw [List.getElem?_set_ne (Ne.symm ne)]; exact h
theorem rdL_inj {st : Store} {n : Nat} {xs ys : List D} (h : rdL st n xs) (h' : rdL st n ys) : xs = ys := by
  unfold rdL at *
  rw [h] at h'
  cases h'; rfl
theorem Fra.rd {st st' : Store} (f : Fra st st') {n : Nat} {xs : List D} (h : rdL st n xs) (ne : n ≠ 2) : rdL st' n xs := by
  unfold rdL at *
  rw [f.at' n (rdL_lt h) ne]; exact h
theorem DrawAt.lt {st : Store} (h : DrawAt st) : 2 < st.length := by
  obtain ⟨_, _, _, _, _, h2, _⟩ := h
  exact rdL_lt h2
theorem DrawAt.app {st : Store} {c : C} (h : DrawAt st) : DrawAt (st ++ [c]) := by
  obtain ⟨ns, a, b, v, h1, h2, h3⟩ := h
  exact ⟨ns, a, b, v, rdL_app h1, rdL_app h2, h3⟩
theorem DrawAt.set {st : Store} {n : Nat} {c : C} (h : DrawAt st) (hn : 2 < n) : DrawAt (st.set n c) := by
  obtain ⟨ns, a, b, v, h1, h2, h3⟩ := h
  exact ⟨ns, a, b, v, rdL_ne h1 (by omega), rdL_ne h2 (by omega), h3⟩
theorem Fra.app {st st' : Store} {c : C} (f : Fra st st') : Fra st (st' ++ [c]) := ⟨f.dr.app, by simp; have := f.le; omega, fun n hn ne => by
  rw [List.getElem?_append_left (Nat.lt_of_lt_of_le hn f.le)]; exact f.at' n hn ne⟩
theorem Fra.set {st st' : Store} {n : Nat} {c : C} (f : Fra st st') (hn : st.length ≤ n) (h2 : 2 < n) : Fra st (st'.set n c) := ⟨f.dr.set h2, by simp; exact f.le, fun m hm ne => by
  rw [List.getElem?_set_ne (by omega)]; exact f.at' m hm ne⟩
def drawBody (c : Cl) : TS := sSeq (sIf (tTru (dCmp gtC (dOp ixK (dVar 0) (dC (.int 2))) (dC (.int 0)))) (sSeq (sAsg (dOp ixK (dVar 0) (dC (.int 2))) (gName 2)) (sSeq (sAsg (dOp fdivK (dVar 2) (dVar 1)) (gSub (dVar 0) (dC (.int 2)))) (sRet (dOp modK (dB intB (aCons (dVar 2) (aNil))) (dVar 1))))) (sNext)) (sSeq (sAsg (dC (.int 0)) (gName 3)) (sSeq (sIf (tTru (dCmp ltC (dOp ixK (dVar 0) (dC (.int 1))) (dB lenB (aCons (dOp ixK (dVar 0) (dC (.int 0))) (aNil))))) (sSeq (sAsg (dOp ixK (dOp ixK (dVar 0) (dC (.int 0))) (dOp ixK (dVar 0) (dC (.int 1)))) (gName 4)) (sAsg (dOp addK (dOp mulK (dC (.int 2)) (dB absB (aCons (dVar 4) (aNil)))) (dB intB (aCons (dCmp ltC (dVar 4) (dC (.int 0))) (aNil)))) (gName 3))) (sNext)) (sSeq (sAugL iaddK (dVar 0) (dC (.int 1)) (dC (.int 1))) (sSeq (sIf (tTru (dCmp geC (dVar 3) (dOp mulK (dC (.int 2)) (dOp powK (dC (.int 10)) (dC (.int 18)))))) (sSeq (sAsg (dOp modK (dB intB (aCons (dOp fdivK (dVar 3) (dC (.int 2))) (aNil))) (dOp shlK (dC (.int 1)) (dC (.int 6000)))) (gName 2)) (sSeq (sAsg (dOp fdivK (dVar 2) (dVar 1)) (gSub (dVar 0) (dC (.int 2)))) (sRet (dOp modK (dB intB (aCons (dVar 2) (aNil))) (dVar 1))))) (sNext)) (sSeq (sAsg (dOp modK (dB intB (aCons (dOp addK (dOp addK (dOp addK (dOp mulK (dOp ixK (dVar 0) (dC (.int 3))) (dC (.int 48271))) (dOp mulK (dOp modK (dB intB (aCons (dVar 3) (aNil))) (dC (.int 2147483629))) (dC (.int 16807)))) (dOp mulK (dOp ixK (dVar 0) (dC (.int 1))) (dC (.int 69621)))) (dC (.int 11))) (aNil))) (dC (.int 2147483647))) (gSub (dVar 0) (dC (.int 3)))) (sRet (dOp modK (dB intB (aCons (dOp fdivK (dOp ixK (dVar 0) (dC (.int 3))) (dC (.int 16))) (aNil))) (dVar 1))))))))
theorem ix_at {st : Store} {n : Nat} {xs : List D} {i : Int} {d : D} {Q : K} (h : rdL st n xs) (e : atD xs i = some d) (q : Q d st) : ixK (.ref n) (.int i) st Q := ⟨xs, d, .inl h, e, q⟩
theorem ixL_at {st : Store} {n : Nat} {xs : List D} {i : Int} {d : D} {Q : K} (h : rdL st n xs) (e : atD xs i = some d) (q : Q d st) : ixLK (.ref n) (.int i) st Q := ⟨xs, d, .inl h, e, q⟩
theorem set_at {st : Store} {n : Nat} {xs : List D} {i : Int} {v d : D} {Q : Store → Prop} (h : rdL st n xs) (e : atD xs i = some d) (h0 : 0 ≤ i) (q : Q (st.set n (.lst (xs.set i.toNat v)))) : setK (.ref n) (.int i) v st Q := ⟨xs, h, ⟨d, e⟩, h0, q⟩
theorem len_at {st : Store} {n : Nat} {xs : List D} {Q : K} (h : rdL st n xs) (q : Q (.int xs.length) st) : lenB [.ref n] st Q := ⟨xs, .inl h, q⟩
theorem atD_map {ns : List Int} {i : Int} (h0 : 0 ≤ i) (h1 : i < ns.length) : ∃ n, n ∈ ns ∧ atD (ns.map D.int) i = some (.int n) := by
  refine ⟨ns[i.toNat]'(by omega), List.getElem_mem _, ?_⟩
  unfold atD
  rw [if_pos h0, List.getElem?_map, List.getElem?_eq_getElem (by omega)]
  rfl
theorem draw_ok {prog : String → Option Def} (hp : prog "_law_draw" = some ⟨2, 5, drawBody⟩) {k : Nat} {st : Store} {many : Int} {Q : K} (h : DrawAt st) (h0 : 0 < many) (h1 : many < 1073741824)
    (hQ : ∀ r st', 0 ≤ r → r < many → Fra st st' → st'.length = st.length → Q (.int r) st') : callN prog (k + 1) "_law_draw" [.ref 2, .int many] st Q := by
  obtain ⟨ns, a, b, v, d1, d2, ha, hb, hv, hn⟩ := h
  have l2 := rdL_lt d2
  -- the end of each way: a drawer behind it
  have fin : ∀ {a b v : Int} {xs : List D} {r : Int}, xs = [.ref 1, .int a, .int b, .int v, .int 2] → 0 ≤ a → 0 ≤ b → 0 ≤ v → Q (.int (r % many)) (st.set 2 (.lst xs)) := fun {a b v xs r} e ha hb hv => by
    subst e
    refine hQ _ _ (Int.emod_nonneg _ (by omega)) (Int.emod_lt_of_pos _ h0) ⟨⟨ns, a, b, v, rdL_ne d1 (by decide), rdL_set d2, ha, hb, hv, hn⟩, by simp, fun n _ ne => by rw [List.getElem?_set_ne (Ne.symm ne)]⟩ (by simp)
  have set2 : ∀ {xs ys : List D}, (st.set 2 (.lst xs)).set 2 (.lst ys) = st.set 2 (.lst ys) := fun {xs ys} => by rw [List.set_set]
  refine call_intro hp rfl ?_
  unfold drawBody
  walk_at "r"
  refine ix_at d2 rfl ?_
  walk_at "r"
  refine way (fun e => ?_) (fun e => ?_)
  · have e : 0 < b := by simpa using e
    walk_at "r"
    refine ix_at d2 rfl ?_
    walk_at "r"
    refine ⟨⟨h0, h1⟩, ?_⟩
    walk_at "r"
    refine set_at d2 rfl (by decide) ?_
    walk_at "r"
    refine ⟨h0, ?_⟩
    exact fin (a := a) (b := b / many) (v := v) rfl ha (Int.ediv_nonneg hb (by omega)) hv
  · walk_at "s"
    refine Nxt.mk ?_
    walk_at "s"
    refine Nxt.mk ?_
    refine seq_cut (fun σ st' => ∃ sz y4, 0 ≤ sz ∧ σ = [some (.ref 2), some (.int many), none, some (.int sz), y4] ∧ st' = st) (fun N hN => ?_) (fun σ st' hJ => ?_)
    · walk_at "r"
      refine ix_at d2 rfl ?_
      walk_at "r"
      refine ix_at d2 rfl ?_
      walk_at "r"
      refine len_at d1 ?_
      walk_at "r"
      refine way (fun e => ?_) (fun e => ?_)
      · have e : a < (ns.length : Int) := by simpa using e
        walk_at "r"
        refine ix_at d2 rfl ?_
        walk_at "r"
        refine ix_at d2 rfl ?_
        obtain ⟨n, _, hat⟩ := atD_map ha e
        refine ix_at d1 hat ?_
        walk_at "r"
        refine ⟨.inl (by decide), ?_⟩
        walk_at "r"
        refine hN _ _ ⟨_, _, ?_, rfl, rfl⟩
        have hb2 : 0 ≤ b2i (decide (n < 0)) := by unfold b2i; split <;> decide
        split <;> omega
      · walk_at "r"
        exact hN _ _ ⟨0, _, by decide, rfl, rfl⟩
    · obtain ⟨sz, y4, hsz, rfl, e0⟩ := hJ
      rw [e0]
      walk_at "r"
      refine ixL_at d2 rfl ?_
      walk_at "r"
      refine set_at d2 rfl (by decide) ?_
      walk_at "r"
      have d3 : rdL (st.set 2 (.lst [.ref 1, .int (a + 1), .int b, .int v, .int 2])) 2 [.ref 1, .int (a + 1), .int b, .int v, .int 2] := rdL_set d2
      refine ⟨by unfold cPow; decide, ?_⟩
      walk_at "r"
      refine ⟨.inl (by decide), ?_⟩
      walk_at "r"
      refine way (fun _ => ?_) (fun _ => ?_)
      · walk_at "r"
        refine ⟨by decide, ?_⟩
        walk_at "r"
        refine ⟨by unfold cPow; decide, ?_⟩
        walk_at "r"
        have hp6 : (0 : Int) < 1 * 2 ^ (6000 : Int).toNat := by rw [Int.one_mul]; exact Int.pow_pos (by decide)
        refine ⟨hp6, ?_⟩
        walk_at "r"
        refine ⟨⟨h0, h1⟩, ?_⟩
        walk_at "r"
        refine set_at d3 rfl (by decide) ?_
        walk_at "r"
        refine ⟨h0, ?_⟩
        show Q _ ((st.set 2 _).set 2 _)
        rw [set2]
        exact fin (a := a + 1) (b := sz / 2 % (1 * 2 ^ (6000 : Int).toNat) / many) (v := v) rfl (by omega) (Int.ediv_nonneg (Int.emod_nonneg _ (by omega)) (by omega)) hv
      · walk_at "r"
        refine ix_at d3 rfl ?_
        walk_at "r"
        refine ⟨.inr (by decide), ?_⟩
        walk_at "r"
        refine ⟨by decide, ?_⟩
        walk_at "r"
        refine ⟨.inr (by decide), ?_⟩
        walk_at "r"
        refine ix_at d3 rfl ?_
        walk_at "r"
        refine ⟨.inr (by decide), ?_⟩
        walk_at "r"
        refine ⟨by decide, ?_⟩
        walk_at "r"
        refine set_at d3 rfl (by decide) ?_
        walk_at "r"
        refine ix_at (rdL_set d3) rfl ?_
        walk_at "r"
        refine ⟨by decide, ?_⟩
        walk_at "r"
        refine ⟨h0, ?_⟩
        rw [set2]
        exact fin (a := a + 1) (b := b) (v := (v * 48271 + sz % 2147483629 * 16807 + (a + 1) * 69621 + 11) % 2147483647) rfl (by omega) hb (Int.emod_nonneg _ (by omega))
end Pd
end PartPdDraw

section PartPdLib
set_option Elab.async false
set_option linter.all false
set_option maxRecDepth 100000
/-! Pd: what the laws share: list cells, draws in comprehensions, masks. Own work. -/
namespace Pd
open PySem
local macro_rules | `(tactic| walk_at "s") => `(tactic| (repeat (refine Red.red ?_)))
local macro_rules | `(tactic| walk_at "r") => `(tactic| (repeat (first | refine Red.red ?_ | refine Nxt.mk ?_)))
/-! ### list cells -/
theorem list_at {st : Store} {n : Nat} {xs : List D} {Q : K} (h : rdL st n xs) (q : Q (.ref st.length) (st ++ [.lst xs])) : listB [.ref n] st Q := ⟨xs, .inl h, q⟩
theorem tuple_at {st : Store} {n : Nat} {xs : List D} {Q : K} (h : rdL st n xs) (q : Q (.tup xs) st) : tupleB [.ref n] st Q := ⟨xs, .inl h, q⟩
theorem sum_at {st : Store} {n : Nat} {ns : List Int} {Q : K} (h : rdL st n (ns.map D.int)) (q : Q (.int ns.sum) st) : sumB [.ref n] st Q := ⟨ns, .inl h, q⟩
theorem it_at {st : Store} {n : Nat} {xs : List D} {R : Iter → Store → Prop} (h : rdL st n xs) (q : R ⟨xs, fun s => rdA s n xs⟩ st) : itK (.ref n) st R := ⟨xs, .inl h, q⟩
theorem append_at {st : Store} {n : Nat} {xs : List D} {x : D} {Q : K} (h : rdL st n xs) (hl : xs.length < szl) (q : Q .non (st.set n (.lst (xs ++ [x])))) : appendM (.ref n) [x] st Q := ⟨xs, h, hl, q⟩
theorem extend_at {st : Store} {n m : Nat} {xs ys : List D} {Q : K} (h : rdL st n xs) (h' : rdL st m ys) (ne : n ≠ m) (hl : xs.length + ys.length ≤ szl) (q : Q .non (st.set n (.lst (xs ++ ys)))) : extendM (.ref n) [.ref m] st Q := ⟨xs, ys, h, h', ne, hl, q⟩
theorem ty_at {st : Store} {n : Nat} {xs : List D} (h : rdL st n xs) : tyLst (.ref n) st := ⟨xs, h⟩
theorem sl_at {st : Store} {n : Nat} {xs : List D} {lo hi : Option Int} {Q : K} (h : rdL st n xs) (q : Q (.ref st.length) (st ++ [.lst (cutD xs lo hi)])) : slK (.ref n) lo hi st Q := ⟨xs, .inl h, q⟩
theorem add_at {st : Store} {n m : Nat} {xs ys : List D} {Q : K} (h : rdL st n xs) (h' : rdL st m ys) (hl : xs.length + ys.length ≤ szl) (q : Q (.ref st.length) (st ++ [.lst (xs ++ ys)])) : addK (.ref n) (.ref m) st Q := ⟨xs, ys, h, h', hl, q⟩
theorem rep_at {st : Store} {n : Nat} {xs : List D} {k : Int} {Q : K} (h : rdL st n xs) (h0 : 0 ≤ k) (h1 : k < 1000000) (hl : xs.length ≤ 1) (q : Q (.ref st.length) (st ++ [.lst (List.replicate k.toNat xs).flatten])) : mulK (.ref n) (.int k) st Q :=
  ⟨xs, h, by omega, by omega, by
    have : xs.length * k.toNat ≤ 1 * k.toNat := Nat.mul_le_mul_right _ hl
    unfold szl; omega, q⟩
theorem flat_one (x : D) (n : Nat) : (List.replicate n [x]).flatten = List.replicate n x := by
  induction n with
  | zero => rfl
  | succ n ih => rw [List.replicate_succ, List.flatten_cons, ih, List.replicate_succ]; rfl
theorem atD_nat {α : Type} {xs : List α} {i : Int} {x : α} (h0 : 0 ≤ i) (h : xs[i.toNat]? = some x) : atD xs i = some x := by unfold atD; rw [if_pos h0]; exact h
theorem atD_of {α : Type} {xs : List α} {i : Int} (h0 : 0 ≤ i) (h1 : i < xs.length) : ∃ x, x ∈ xs ∧ xs[i.toNat]? = some x ∧ atD xs i = some x :=
  ⟨xs[i.toNat]'(by omega), List.getElem_mem _, List.getElem?_eq_getElem (by omega), atD_nat h0 (List.getElem?_eq_getElem (by omega))⟩
theorem atD_mapI {α : Type} {f : α → D} {xs : List α} {i : Int} (h0 : 0 ≤ i) (h1 : i < xs.length) : ∃ x, x ∈ xs ∧ xs[i.toNat]? = some x ∧ atD (xs.map f) i = some (f x) := by
  obtain ⟨x, h2, h3, h4⟩ := atD_of h0 h1
  exact ⟨x, h2, h3, atD_nat h0 (by rw [List.getElem?_map, h3]; rfl)⟩
theorem cut_take {α : Type} (xs : List α) {i : Int} (h : 0 ≤ i) : cutD xs none (some i) = xs.take i.toNat := by
  unfold cutD cl
  simp only [Option.map_none, Option.getD_none, Option.map_some, Option.getD_some, List.drop_zero, Nat.sub_zero]
  rw [if_neg (by omega)]
  by_cases h2 : i.toNat ≤ xs.length
  · rw [Nat.min_eq_left h2]
  · rw [Nat.min_eq_right (by omega), List.take_of_length_le (Nat.le_refl _), List.take_of_length_le (by omega)]
theorem cut_drop {α : Type} (xs : List α) {i : Int} (h : 0 ≤ i) : cutD xs (some i) none = xs.drop i.toNat := by
  unfold cutD cl
  simp only [Option.map_none, Option.getD_none, Option.map_some, Option.getD_some]
  rw [if_neg (by omega)]
  by_cases h2 : i.toNat ≤ xs.length
  · rw [Nat.min_eq_left h2, List.take_of_length_le (by simp)]
  · rw [Nat.min_eq_right (by omega), List.drop_of_length_le (Nat.le_refl _), List.drop_of_length_le (by omega)]
    simp
theorem cut_last {α : Type} (xs : List α) : cutD xs none (some (-1)) = xs.dropLast := by
  unfold cutD cl
  simp only [Option.map_none, Option.getD_none, Option.map_some, Option.getD_some, List.drop_zero, Nat.sub_zero]
  rw [if_pos (by decide), List.dropLast_eq_take]
  congr 1
  omega
/-- cells are added, all others as they were -/
def Grw (st st' : Store) : Prop := ∃ m, st' = st ++ m
theorem Grw.refl (st : Store) : Grw st st := ⟨[], by simp⟩
theorem Grw.app {st st' : Store} {c : C} (h : Grw st st') : Grw st (st' ++ [c]) := by
  obtain ⟨m, rfl⟩ := h
  exact ⟨m ++ [c], by simp⟩
theorem Grw.trans {a b c : Store} (h : Grw a b) (h' : Grw b c) : Grw a c := by
  obtain ⟨m, rfl⟩ := h
  obtain ⟨m', rfl⟩ := h'
  exact ⟨m ++ m', by simp⟩
theorem Grw.rd {st st' : Store} (f : Grw st st') {n : Nat} {xs : List D} (h : rdL st n xs) : rdL st' n xs := by
  obtain ⟨m, rfl⟩ := f
  unfold rdL at *
  rw [List.getElem?_append_left (rdL_lt h)]; exact h
theorem Grw.fra {st st' : Store} (f : Grw st st') (h : DrawAt st) : Fra st st' := by
  obtain ⟨m, rfl⟩ := f
  refine ⟨?_, by simp, fun n hn _ => List.getElem?_append_left hn⟩
  obtain ⟨ns, a, b, v, h1, h2, h3⟩ := h
  exact ⟨ns, a, b, v, Grw.rd ⟨m, rfl⟩ h1, Grw.rd ⟨m, rfl⟩ h2, h3⟩
theorem Grw.le {st st' : Store} (f : Grw st st') : st.length ≤ st'.length := by
  obtain ⟨m, rfl⟩ := f
  simp
theorem Fra.set' {st st' : Store} {n : Nat} {c : C} (f : Fra st st') (hn : st.length ≤ n) (h2 : 2 < st.length) : Fra st (st'.set n c) := f.set hn (by omega)
/-! ### the drawer is made -/
def beginBody (c : Cl) : TS := sRet (dLst (aCons (dLc (iSeq (dVar 0)) (gName 1) (tYes) (dB intB (aCons (dVar 1) (aNil))) [1]) (aCons (dC (.int 0)) (aCons (dC (.int 0)) (aCons (dC (.int 7)) (aCons (dC (.int 2)) (aNil)))))))
theorem begin_ok {prog : String → Option Def} (hp : prog "_law_begin" = some ⟨1, 2, beginBody⟩) {k : Nat} {ns : List Int} {Q : K} (hn : ns.length ≤ 63)
    (hQ : ∀ st', DrawAt st' → st'.length = 3 → Q (.ref 2) st') : callN prog (k + 1) "_law_begin" [.ref 0] [.frz (ns.map D.int)] Q := by
  refine call_intro hp rfl ?_
  unfold beginBody
  walk_at "r"
  have hfz : ∀ acc : List D, rdA ([.frz (ns.map D.int)] ++ [.lst acc]) 0 (ns.map D.int) := fun acc => .inr rfl
  refine ⟨ns.map D.int, .inr rfl, ?_⟩
  refine lc_map ns D.int D.int rfl (by unfold szl; omega) hfz (fun x hx acc N hN => ?_) ?_
  · walk_at "r"
    exact hN
  · walk_at "r"
    refine ⟨by show 5 ≤ szl; decide, ?_⟩
    exact hQ _ ⟨ns, 0, 0, 7, rfl, rfl, by decide, by decide, by decide, hn⟩ rfl
/-! ### comprehensions of draws -/
theorem lc_ints {gd : Store → Prop} {g : TG} {te : TE} {ρ : Env} {st : Store} {Q : K} {items : List D} (P : Int → Prop) (hd : DrawAt st) (hl : items.length ≤ szl) (hg : ∀ st', Fra st st' → gd st')
    (hs : ∀ x ∈ items, ∀ st', Fra st st' → ∀ N : D → Store → Prop, (∀ r st2, P r → Fra st' st2 → N (.int r) st2) → g x ρ st' fun ρ2 st2 => te ρ2 st2 N)
    (hQ : ∀ (rs : List Int) st', rs.length = items.length → (∀ r ∈ rs, P r) → Fra st st' → rdL st' st.length (rs.map D.int) → Q (.ref st.length) st') : lcLoop gd g tYes te ρ st.length Q items [] (st ++ [.lst []]) := by
  have h2 := hd.lt
  refine lc_by (fun pre acc st' => ∃ rs : List Int, acc = rs.map D.int ∧ rs.length = pre.length ∧ (∀ r ∈ rs, P r) ∧ Fra st st' ∧ rdL st' st.length acc) ⟨[], rfl, rfl, by simp, (Fra.refl hd).app, rdL_new⟩ (fun pre x post acc st' e ⟨rs, h1, h3, h4, h5, h6⟩ N M hN hM => ?_) (fun acc st' ⟨rs, h1, h3, h4, h5, h6⟩ => ?_)
  · subst h1
    refine ⟨hg _ h5, ?_⟩
    have e1 : (fun (ρ2 : Env) (st2 : Store) => tYes ρ2 st2 fun b st3 => (b = true → te ρ2 st3 N) ∧ (b = false → M st3)) = fun ρ2 st2 => te ρ2 st2 N := by
      funext ρ2 st2
      exact propext ⟨fun q => q.1 rfl, fun q => ⟨fun _ => q, fun e => nomatch e⟩⟩
    rw [e1]
    have hlen := congrArg List.length e
    simp at hlen
    refine hs x (by rw [e]; simp) st' h5 N fun r st2 hr f => ?_
    have h7 := f.rd h6 (by omega)
    refine hN _ _ h7 (by simp; omega) ⟨rs ++ [r], by simp, by simp [h3], ?_, (h5.trans f).set (Nat.le_refl _) (by omega), rdL_set h7⟩
    intro y hy
    rcases List.mem_append.mp hy with hy | hy
    · exact h4 y hy
    · simp at hy; subst hy; exact hr
  · subst h1
    exact ⟨hg _ h5, h6, hQ rs st' h3 h4 h5 h6⟩
/-- two lists, place by place -/
inductive Two {α β : Type} (P : α → β → Prop) : List α → List β → Prop
  | nil : Two P [] []
  | cons {a : α} {b : β} {as : List α} {bs : List β} : P a b → Two P as bs → Two P (a :: as) (b :: bs)
theorem Two.snoc {α β : Type} {P : α → β → Prop} : ∀ {as : List α} {bs : List β} {a : α} {b : β}, Two P as bs → P a b → Two P (as ++ [a]) (bs ++ [b])
  | _, _, _, _, .nil, h => .cons h .nil
  | _, _, _, _, .cons h t, h' => .cons h (Two.snoc t h')
theorem Two.length {α β : Type} {P : α → β → Prop} : ∀ {as : List α} {bs : List β}, Two P as bs → as.length = bs.length
  | _, _, .nil => rfl
  | _, _, .cons _ t => by simp [Two.length t]
theorem Two.imp {α β : Type} {P P' : α → β → Prop} (f : ∀ a b, P a b → P' a b) : ∀ {as : List α} {bs : List β}, Two P as bs → Two P' as bs
  | _, _, .nil => .nil
  | _, _, .cons h t => .cons (f _ _ h) (Two.imp f t)
theorem lc_vals {gd : Store → Prop} {g : TG} {te : TE} {ρ : Env} {st : Store} {Q : K} {items : List D} (P : D → D → Prop) (hd : DrawAt st) (hl : items.length ≤ szl) (hg : ∀ st', Fra st st' → gd st')
    (hs : ∀ x ∈ items, ∀ st', Fra st st' → ∀ N : D → Store → Prop, (∀ y st2, P x y → Fra st' st2 → N y st2) → g x ρ st' fun ρ2 st2 => te ρ2 st2 N)
    (hQ : ∀ (ys : List D) st', Two P items ys → Fra st st' → rdL st' st.length ys → Q (.ref st.length) st') : lcLoop gd g tYes te ρ st.length Q items [] (st ++ [.lst []]) := by
  have h2 := hd.lt
  refine lc_by (fun pre acc st' => Two P pre acc ∧ Fra st st' ∧ rdL st' st.length acc) ⟨.nil, (Fra.refl hd).app, rdL_new⟩ (fun pre x post acc st' e ⟨h1, h5, h6⟩ N M hN hM => ?_) (fun acc st' ⟨h1, h5, h6⟩ => ?_)
  · refine ⟨hg _ h5, ?_⟩
    have e1 : (fun (ρ2 : Env) (st2 : Store) => tYes ρ2 st2 fun b st3 => (b = true → te ρ2 st3 N) ∧ (b = false → M st3)) = fun ρ2 st2 => te ρ2 st2 N := by
      funext ρ2 st2
      exact propext ⟨fun q => q.1 rfl, fun q => ⟨fun _ => q, fun e => nomatch e⟩⟩
    rw [e1]
    have hlen := congrArg List.length e
    simp at hlen
    refine hs x (by rw [e]; simp) st' h5 N fun y st2 hr f => ?_
    have h7 := f.rd h6 (by omega)
    exact hN _ _ h7 (by have := h1.length; omega) ⟨h1.snoc hr, (h5.trans f).set (Nat.le_refl _) (by omega), rdL_set h7⟩
  · exact ⟨hg _ h5, h6, hQ acc st' h1 h5 h6⟩
theorem not_any {α : Type} {p q : α → Bool} : ∀ {l : List α}, (∀ x ∈ l, p x = !q x) → (!l.any p) = l.all q
  | [], _ => rfl
  | x :: l, h => by
    rw [List.any_cons, List.all_cons, Bool.not_or, not_any (l := l) fun y hy => h y (List.mem_cons_of_mem _ hy), h x List.mem_cons_self, Bool.not_not]
/-- a filtered comprehension whose test and element read alone -/
theorem lc_filter {α : Type} {gd : Store → Prop} {g : TG} {tt : TT} {te : TE} {ρ : Env} {st : Store} {Q : K} (xs : List α) (f h : α → D) (p : α → Bool) {items : List D} (hi : items = xs.map f) (hl : xs.length ≤ szl) (hg : ∀ acc, gd (st ++ [.lst acc]))
    (hs : ∀ x, x ∈ xs → ∀ (acc : List D) (N : D → Store → Prop) (M : Store → Prop), (p x = true → N (h x) (st ++ [.lst acc])) → (p x = false → M (st ++ [.lst acc])) → g (f x) ρ (st ++ [.lst acc]) fun ρ2 st2 => tt ρ2 st2 fun b st3 => (b = true → te ρ2 st3 N) ∧ (b = false → M st3))
    (hd : Q (.ref st.length) (st ++ [.lst ((xs.filter p).map h)])) : lcLoop gd g tt te ρ st.length Q items [] (st ++ [.lst []]) := by
  subst hi
  refine lc_by (fun pre acc st' => acc = ((xs.take pre.length).filter p).map h ∧ st' = st ++ [.lst acc]) ⟨rfl, rfl⟩ (fun pre x post acc st' e ⟨h1, h2⟩ N M hN hM => ?_) (fun acc st' ⟨h1, h2⟩ => ?_)
  · subst h1; subst h2
    refine ⟨hg _, ?_⟩
    have hlen : pre.length < xs.length := by
      have := congrArg List.length e
      simp at this; omega
    have hx : xs[pre.length] ∈ xs := List.getElem_mem hlen
    have hfx : x = f xs[pre.length] := by
      have h2 : (xs.map f)[pre.length]? = some x := by rw [e]; simp
      rw [List.getElem?_map, List.getElem?_eq_getElem hlen] at h2
      simpa using h2.symm
    subst hfx
    have take1 : List.take (pre ++ [f xs[pre.length]]).length xs = List.take pre.length xs ++ [xs[pre.length]] := by
      rw [List.length_append]
      show List.take (pre.length + 1) xs = _
      rw [List.take_add_one, List.getElem?_eq_getElem hlen]
      rfl
    have hsz : (List.map h (List.filter p (List.take pre.length xs))).length < szl := by
      rw [List.length_map]
      have h3 := List.length_filter_le p (List.take pre.length xs)
      rw [List.length_take] at h3
      omega
    refine hs _ hx _ N M (fun hp => hN _ _ (by unfold rdL; simp) hsz ⟨?_, by rw [set_app]⟩) fun hp => hM _ (by unfold rdL; simp) ⟨?_, rfl⟩
    · rw [take1, List.filter_append, List.map_append]
      simp [hp]
    · rw [take1, List.filter_append, List.map_append]
      simp [hp]
  · subst h1; subst h2
    have e2 : List.take (List.map f xs).length xs = xs := by simp
    rw [e2] at *
    exact ⟨hg _, by unfold rdL; simp, hd⟩
/-- a comprehension with a test, of ints -/
theorem lc_some {gd : Store → Prop} {g : TG} {tt : TT} {te : TE} {ρ : Env} {st : Store} {Q : K} {items : List D} (P : Int → Prop) (hd : DrawAt st) (hl : items.length ≤ szl) (hg : ∀ st', Fra st st' → gd st')
    (hs : ∀ x ∈ items, ∀ st', Fra st st' → ∀ (N : D → Store → Prop) (M : Store → Prop), (∀ r st2, P r → Fra st' st2 → N (.int r) st2) → (∀ st2, Fra st' st2 → M st2) → g x ρ st' fun ρ2 st2 => tt ρ2 st2 fun b st3 => (b = true → te ρ2 st3 N) ∧ (b = false → M st3))
    (hQ : ∀ (rs : List Int) st', rs.length ≤ items.length → (∀ r ∈ rs, P r) → Fra st st' → rdL st' st.length (rs.map D.int) → Q (.ref st.length) st') : lcLoop gd g tt te ρ st.length Q items [] (st ++ [.lst []]) := by
  have h2 := hd.lt
  refine lc_by (fun pre acc st' => ∃ rs : List Int, acc = rs.map D.int ∧ rs.length ≤ pre.length ∧ (∀ r ∈ rs, P r) ∧ Fra st st' ∧ rdL st' st.length acc) ⟨[], rfl, Nat.le_refl _, by simp, (Fra.refl hd).app, rdL_new⟩ (fun pre x post acc st' e ⟨rs, h1, h3, h4, h5, h6⟩ N M hN hM => ?_) (fun acc st' ⟨rs, h1, h3, h4, h5, h6⟩ => ?_)
  · subst h1
    refine ⟨hg _ h5, ?_⟩
    have hlen := congrArg List.length e
    simp at hlen
    refine hs x (by rw [e]; simp) st' h5 N M (fun r st2 hr f => ?_) fun st2 f => hM _ (f.rd h6 (by omega)) ⟨rs, rfl, by simp; omega, h4, h5.trans f, f.rd h6 (by omega)⟩
    have h7 := f.rd h6 (by omega)
    refine hN _ _ h7 (by simp; omega) ⟨rs ++ [r], by simp, by simp [h3], ?_, (h5.trans f).set (Nat.le_refl _) (by omega), rdL_set h7⟩
    intro y hy
    rcases List.mem_append.mp hy with hy | hy
    · exact h4 y hy
    · simp at hy; subst hy; exact hr
  · subst h1
    exact ⟨hg _ h5, h6, hQ rs st' h3 h4 h5 h6⟩
/-- a comprehension of new lists -/
theorem lc_cells {gd : Store → Prop} {g : TG} {te : TE} {ρ : Env} {st : Store} {Q : K} {items : List D} (P : List D → Prop) (hd : DrawAt st) (hl : items.length ≤ szl) (hg : ∀ st', Fra st st' → gd st')
    (hs : ∀ x ∈ items, ∀ st', Fra st st' → ∀ N : D → Store → Prop, (∀ r xs st2, st'.length ≤ r → rdL st2 r xs → P xs → Fra st' st2 → N (.ref r) st2) → g x ρ st' fun ρ2 st2 => te ρ2 st2 N)
    (hQ : ∀ (rs : List Nat) st', rs.length = items.length → (∀ r ∈ rs, st.length < r ∧ ∃ xs, rdL st' r xs ∧ P xs) → Fra st st' → rdL st' st.length (rs.map D.ref) → Q (.ref st.length) st') : lcLoop gd g tYes te ρ st.length Q items [] (st ++ [.lst []]) := by
  have h2 := hd.lt
  refine lc_by (fun pre acc st' => ∃ rs : List Nat, acc = rs.map D.ref ∧ rs.length = pre.length ∧ (∀ r ∈ rs, st.length < r ∧ ∃ xs, rdL st' r xs ∧ P xs) ∧ Fra st st' ∧ rdL st' st.length acc) ⟨[], rfl, rfl, by simp, (Fra.refl hd).app, rdL_new⟩ (fun pre x post acc st' e ⟨rs, h1, h3, h4, h5, h6⟩ N M hN hM => ?_) (fun acc st' ⟨rs, h1, h3, h4, h5, h6⟩ => ?_)
  · subst h1
    refine ⟨hg _ h5, ?_⟩
    have e1 : (fun (ρ2 : Env) (st2 : Store) => tYes ρ2 st2 fun b st3 => (b = true → te ρ2 st3 N) ∧ (b = false → M st3)) = fun ρ2 st2 => te ρ2 st2 N := by
      funext ρ2 st2
      exact propext ⟨fun q => q.1 rfl, fun q => ⟨fun _ => q, fun e => nomatch e⟩⟩
    rw [e1]
    have hlen := congrArg List.length e
    simp at hlen
    refine hs x (by rw [e]; simp) st' h5 N fun r xs st2 hb hr hp f => ?_
    have h7 := f.rd h6 (by omega)
    have h8 := rdL_lt h6
    refine hN _ _ h7 (by simp; omega) ⟨rs ++ [r], by simp, by simp [h3], ?_, (h5.trans f).set (Nat.le_refl _) (by omega), rdL_set h7⟩
    intro y hy
    rcases List.mem_append.mp hy with hy | hy
    · obtain ⟨q1, ys, q2, q3⟩ := h4 y hy
      exact ⟨q1, ys, rdL_ne (f.rd q2 (by omega)) (by omega), q3⟩
    · simp at hy; subst hy
      exact ⟨by omega, xs, rdL_ne hr (by omega), hp⟩
  · subst h1
    exact ⟨hg _ h5, h6, hQ rs st' h3 h4 h5 h6⟩
theorem Two.mem {α β : Type} {P : α → β → Prop} {S : List α} : ∀ {as : List α} {bs : List β}, (∀ a ∈ as, a ∈ S) → Two (fun a b => a ∈ S → P a b) as bs → Two P as bs
  | _, _, _, .nil => .nil
  | _, _, hS, .cons h t => .cons (h (hS _ List.mem_cons_self)) (Two.mem (fun a ha => hS a (List.mem_cons_of_mem _ ha)) t)
theorem Two.on {α β : Type} {P : α → β → Prop} {as : List α} {bs : List β} (h : Two (fun a b => a ∈ as → P a b) as bs) : Two P as bs := Two.mem (fun _ h => h) h
theorem Two.split {α β γ : Type} {P : α → β → Prop} {R : γ → Prop} {f : γ → β} (h : ∀ a b, P a b → ∃ c, b = f c ∧ R c) : ∀ {as : List α} {bs : List β}, Two P as bs → ∃ cs : List γ, bs = cs.map f ∧ cs.length = as.length ∧ ∀ c ∈ cs, R c
  | _, _, .nil => ⟨[], rfl, rfl, by simp⟩
  | _, _, .cons p t => by
    obtain ⟨c, h1, h2⟩ := h _ _ p
    obtain ⟨cs, h3, h4, h5⟩ := Two.split h t
    refine ⟨c :: cs, by rw [h1, h3]; rfl, by simp [h4], ?_⟩
    intro x hx
    rcases List.mem_cons.mp hx with hx | hx
    · rw [hx]; exact h2
    · exact h5 x hx
/-! ### masks -/
theorem pow2_pos (n : Nat) : (0 : Int) < 2 ^ n := Int.pow_pos (by decide)
theorem pw_bd {w : Int} (h0 : 0 ≤ w) (h1 : w ≤ 8) : 0 < (2 : Int) ^ w.toNat ∧ (2 : Int) ^ w.toNat ≤ 256 := by
  have h2 : w.toNat ≤ 8 := by omega
  have h := pow2_pos w.toNat
  have h3 := Nat.pow_le_pow_right (n := 2) (by decide) h2
  have e : ((2 : Int) ^ w.toNat) = ((2 ^ w.toNat : Nat) : Int) := by simp
  constructor
  · exact h
  · rw [e]; omega
theorem and_le {x m : Int} (hm : 0 ≤ m) : 0 ≤ Builtin.bitAnd x m ∧ Builtin.bitAnd x m ≤ m := by
  unfold Builtin.bitAnd
  by_cases hx : 0 ≤ x
  · simp only [hx, hm, decide_true]
    have := Nat.and_le_right (n := x.toNat) (m := m.toNat)
    omega
  · simp only [hx, hm, decide_true, decide_false]
    have := Nat.and_le_left (n := m.toNat) (m := (Builtin.bitNot x).toNat)
    omega
theorem and_mask {x : Int} {n : Nat} (hx : 0 ≤ x) : Builtin.bitAnd x (2 ^ n - 1) = x % 2 ^ n := by
  have hm : (0 : Int) ≤ 2 ^ n - 1 := by have := pow2_pos n; omega
  unfold Builtin.bitAnd
  simp only [hx, hm, decide_true]
  have e1 : (2 ^ n - 1 : Int).toNat = 2 ^ n - 1 := by
    have : (2 ^ n : Int) = ((2 ^ n : Nat) : Int) := by simp
    rw [this]
    have := Nat.two_pow_pos n
    omega
  rw [e1, Nat.and_two_pow_sub_one_eq_mod]
  have : (2 ^ n : Int) = ((2 ^ n : Nat) : Int) := by simp
  rw [this, Int.natCast_emod, Int.toNat_of_nonneg hx]
theorem or_one {x : Int} (hx : 0 ≤ x) : Builtin.bitOr x 1 = x + 1 - x % 2 := by
  unfold Builtin.bitOr Builtin.bitNot Builtin.bitAnd
  have h1 : ¬ (0 ≤ -x - 1) := by omega
  have h2 : ¬ ((0 : Int) ≤ -1 - 1) := by omega
  simp only [h1, h2, decide_false]
  unfold Builtin.bitNot
  have e1 : (-(-x - 1) - 1).toNat = x.toNat := by omega
  have e2 : (-(-1 - 1 : Int) - 1).toNat = 1 := by decide
  rw [e1, e2]
  have h3 : x.toNat ||| 1 = x.toNat + 1 - x.toNat % 2 := by
    have h4 := Nat.div_add_mod x.toNat 2
    have h6 : 2 * (x.toNat / 2) ||| 1 = 2 * (x.toNat / 2) + 1 := (Nat.two_pow_add_eq_or_of_lt (i := 1) (by decide) (x.toNat / 2)).symm
    rcases Nat.mod_two_eq_zero_or_one x.toNat with h5 | h5
    · have : x.toNat = 2 * (x.toNat / 2) := by omega
      rw [h5]
      rw [← this] at h6
      omega
    · have : x.toNat = 2 * (x.toNat / 2) ||| 1 := by omega
      rw [h5]
      have h7 : x.toNat ||| 1 = x.toNat := by
        conv => lhs; rw [this]
        rw [Nat.or_assoc, Nat.or_self]
        exact this.symm
      omega
  rw [h3]
  omega
end Pd
end PartPdLib

section PartPdKit
set_option Elab.async false
set_option linter.all false
set_option maxRecDepth 100000
/-! Pd: small defs that several laws have. Own work. -/
namespace Pd
open PySem
local macro_rules | `(tactic| walk_at "s") => `(tactic| (repeat (refine Red.red ?_)))
local macro_rules | `(tactic| walk_at "r") => `(tactic| (repeat (first | refine Red.red ?_ | refine Nxt.mk ?_)))
instance {x : D} {xs : List D} {st : Store} {r : Bool → Prop} : Red (inC x (.tup xs) st r) (x.flat = true ∧ xs.all D.flat = true ∧ r (xs.any fun y => D.eqb y x)) := ⟨id⟩
instance {x : D} {xs : List D} {st : Store} {r : Bool → Prop} : Red (notinC x (.tup xs) st r) (x.flat = true ∧ xs.all D.flat = true ∧ r (!xs.any fun y => D.eqb y x)) := ⟨id⟩
/-- a, b = x, y -/
def ParK (i j : Nat) (xs : List D) (σ : Env) (q : Env → Prop) : Prop := ∃ x y, xs = [x, y] ∧ q ((σ.set i (some x)).set j (some y))
instance {i j : Nat} {Ar : TA} {D0 : Ends} {σ : Env} {st : Store} : Red (sPar i j Ar D0 σ st) (Ar σ st fun xs st1 => ParK i j xs σ fun σ' => D0.nx σ' st1) := ⟨id⟩
instance {i j : Nat} {σ σ' σ'' : Env} {x y : D} {q : Env → Prop} [h : SetE σ i (some x) σ'] [h' : SetE σ' j (some y) σ''] : Red (ParK i j [x, y] σ q) (q σ'') := ⟨fun z => ⟨x, y, rfl, by rw [h.eq, h'.eq]; exact z⟩⟩
instance {a b : Bool} {st : Store} {r : Bool → Prop} : Red (eqC (.bl a) (.bl b) st r) (r (a == b)) := ⟨fun h => ⟨rfl, rfl, h⟩⟩
instance {a b : Bool} {st : Store} {r : Bool → Prop} : Red (neC (.bl a) (.bl b) st r) (r (!(a == b))) := ⟨fun h => ⟨rfl, rfl, h⟩⟩
theorem at_is {xs : List D} {i : Int} {d : D} {P : D → Prop} (h : atD xs i = some d) (q : P d) : ∃ d, atD xs i = some d ∧ P d := ⟨d, h, q⟩
theorem zipD_maps {α β : Type} (f : α → D) (g : β → D) : ∀ (xs : List α) (ys : List β), zipD (xs.map f) (ys.map g) = (xs.zip ys).map fun p => D.tup [f p.1, g p.2]
  | [], ys => by cases ys <;> rfl
  | x :: xs, [] => rfl
  | x :: xs, y :: ys => by simp [zipD, zipD_maps f g xs ys]
mutual
theorem eqb_refl : ∀ (n : Nat) (d : D), D.okd n d = true → D.eqb d d = true
  | _, .non, _ => rfl
  | _, .bl b, _ => by simp [D.eqb]
  | _, .int i, _ => by simp [D.eqb]
  | _, .str x, _ => by simp [D.eqb]
  | 0, .tup _, h => by simp [D.okd] at h
  | n + 1, .tup xs, h => by
    have := eqbs_refl n xs (by simpa [D.okd] using h)
    simpa [D.eqb] using this
  | _, .ref _, h => by simp [D.okd] at h
theorem eqbs_refl : ∀ (n : Nat) (ds : List D), okds n ds = true → eqbs ds ds = true
  | _, [], _ => rfl
  | n, d :: ds, h => by
    have h' : D.okd n d = true ∧ okds n ds = true := by simpa [okds] using h
    have h1 := eqb_refl n d h'.1
    have h2 := eqbs_refl n ds h'.2
    simp [eqbs, h1, h2]
end
theorem okds_all (n : Nat) : ∀ ds : List D, okds n ds = ds.all (D.okd n)
  | [] => rfl
  | d :: ds => by simp [okds, okds_all n ds]
theorem ne_self {d : D} {st : Store} {r : Bool → Prop} (h : D.okd 60 d = true) (hr : ∀ n, d ≠ .ref n) (q : r false) : neC d d st r := by
  have e := eqb_refl 60 d h
  have key : eqC d d st fun b => r (!b) := by
    cases d with
    | ref n => exact absurd rfl (hr n)
    | non => exact ⟨h, h, by rw [e]; exact q⟩
    | bl b => exact ⟨h, h, by rw [e]; exact q⟩
    | int b => exact ⟨h, h, by rw [e]; exact q⟩
    | str b => exact ⟨h, h, by rw [e]; exact q⟩
    | tup b => exact ⟨h, h, by rw [e]; exact q⟩
  exact key
/-! dicts -/
theorem put_len (kvs : List (Ky × D)) (k : Ky) (v : D) : (putD kvs k v).length ≤ kvs.length + 1 := by
  unfold putD
  split <;> simp
theorem val_put (kvs : List (Ky × D)) (k j : Ky) (v : D) : valD (putD kvs k v) j = if j = k then some v else valD kvs j := by
  unfold putD
  split
  · rename_i h
    induction kvs with
    | nil => simp at h
    | cons p kvs ih =>
      obtain ⟨a, d⟩ := p
      by_cases e : a = k
      · subst e
        by_cases ej : j = a
        · subst ej; simp [valD]
        · have ej' : ¬ a = j := fun z => ej z.symm
          have rest : ∀ l : List (Ky × D), valD (l.map fun kv => if kv.1 = a then (kv.1, v) else kv) j = valD l j := by
            intro l
            induction l with
            | nil => rfl
            | cons q l ih2 =>
              obtain ⟨b, z⟩ := q
              by_cases eb : b = a
              · subst eb
                simp [valD, ej'] at ih2 ⊢
                exact ih2
              · by_cases ebj : b = j
                · subst ebj; simp [valD, eb]
                · simp [valD, eb, ebj] at ih2 ⊢
                  exact ih2
          rw [if_neg ej]
          exact rest _
      · have h' : (kvs.any fun kv => decide (kv.1 = k)) = true := by simpa [e] using h
        have ih' := ih h'
        by_cases ea : a = j
        · subst ea
          simp [valD, e]
        · simp [valD, e, ea] at ih' ⊢
          exact ih'
  · rename_i h
    have hno : ∀ p ∈ kvs, ¬ p.1 = k := fun p hp e => h (List.any_eq_true.mpr ⟨p, hp, by simp [e]⟩)
    clear h
    induction kvs with
    | nil =>
      by_cases e : j = k
      · subst e; simp [valD]
      · have : ¬ k = j := fun z => e z.symm
        simp [valD, e, this]
    | cons p kvs ih =>
      obtain ⟨a, d⟩ := p
      have hak : ¬ a = k := hno (a, d) List.mem_cons_self
      have ih' := ih fun q hq => hno q (List.mem_cons_of_mem _ hq)
      by_cases ea : a = j
      · subst ea
        rw [if_neg hak]
        simp [valD]
      · simp [valD, ea] at ih' ⊢
        exact ih'
theorem dc_pure {α : Type} {gd : Store → Prop} {g : TG} {tk tv : TE} {ρ : Env} {st : Store} {Q : K} (f : α → D) (kf : α → Ky) (vf : α → D) (hg : ∀ acc, gd (st ++ [.dic acc])) : ∀ (xs : List α) (acc : List (Ky × D)) {items : List D}, items = xs.map f → acc.length + xs.length ≤ szl →
    (∀ x, x ∈ xs → ∀ (acc : List (Ky × D)) (N : D → D → Store → Prop), N (keyD (kf x)) (vf x) (st ++ [.dic acc]) → g (f x) ρ (st ++ [.dic acc]) fun ρ2 st2 => tk ρ2 st2 fun y st4 => tv ρ2 st4 fun z st5 => N y z st5) →
    Q (.ref st.length) (st ++ [.dic (xs.foldl (fun acc x => putD acc (kf x) (vf x)) acc)]) → dcLoop gd g tYes tk tv ρ st.length Q items acc (st ++ [.dic acc])
  | [], acc, items, e, hl, hs, hd => by
    subst e
    exact ⟨hg _, by unfold rdD; simp, hd⟩
  | x :: xs, acc, items, e, hl, hs, hd => by
    subst e
    refine ⟨hg _, ?_⟩
    have e1 : ∀ (R : D → D → Store → Prop), (fun (ρ2 : Env) (st2 : Store) => tYes ρ2 st2 fun b st3 => (b = true → tk ρ2 st3 fun y st4 => tv ρ2 st4 fun z st5 => R y z st5) ∧ (b = false → rdD st3 st.length acc ∧ dcLoop gd g tYes tk tv ρ st.length Q (xs.map f) acc st3)) = fun ρ2 st2 => tk ρ2 st2 fun y st4 => tv ρ2 st4 fun z st5 => R y z st5 := fun R => by
      funext ρ2 st2
      exact propext ⟨fun q => q.1 rfl, fun q => ⟨fun _ => q, fun e => nomatch e⟩⟩
    rw [e1]
    simp only [List.length_cons] at hl
    refine hs x List.mem_cons_self acc _ ⟨kf x, rfl, by unfold rdD; simp, by omega, ?_⟩
    have e2 : (st ++ [C.dic acc]).set st.length (.dic (putD acc (kf x) (vf x))) = st ++ [.dic (putD acc (kf x) (vf x))] := by
      rw [List.set_append_right _ _ (Nat.le_refl _)]; simp
    rw [e2]
    have := put_len acc (kf x) (vf x)
    exact dc_pure f kf vf hg xs _ rfl (by omega) (fun y hy => hs y (List.mem_cons_of_mem _ hy)) hd
section
variable {prog : String → Option Def} {k : Nat} {st : Store} {Q : K}
def pickBody (c : Cl) : TS := sRet (dOp ixK (dVar 1) (dCall c "_law_draw" (aCons (dVar 0) (aCons (dB lenB (aCons (dVar 1) (aNil))) (aNil)))))
theorem pick_ok (hp : prog "_law_pick" = some ⟨2, 2, pickBody⟩) (hp2 : prog "_law_draw" = some ⟨2, 5, drawBody⟩) {n : Nat} {xs : List D} (hd : DrawAt st) (h : rdL st n xs) (hn : n ≠ 2) (h0 : 0 < xs.length) (h1 : xs.length < 1073741824)
    (q : ∀ x st', x ∈ xs → Fra st st' → st'.length = st.length → Q x st') : callN prog (k + 2) "_law_pick" [.ref 2, .ref n] st Q := by
  refine call_intro hp rfl ?_
  unfold pickBody
  walk_at "r"
  refine len_at h ?_
  walk_at "r"
  refine draw_ok hp2 hd (by omega) (by omega) fun r st' r0 r1 f fl => ?_
  obtain ⟨x, hx, _, e⟩ := atD_of (xs := xs) r0 r1
  exact ix_at (f.rd h hn) e (q x st' hx f fl)
theorem pickT_ok (hp : prog "_law_pick" = some ⟨2, 2, pickBody⟩) (hp2 : prog "_law_draw" = some ⟨2, 5, drawBody⟩) {xs : List D} (hd : DrawAt st) (h0 : 0 < xs.length) (h1 : xs.length < 1073741824)
    (q : ∀ x st', x ∈ xs → Fra st st' → st'.length = st.length → Q x st') : callN prog (k + 2) "_law_pick" [.ref 2, .tup xs] st Q := by
  refine call_intro hp rfl ?_
  unfold pickBody
  walk_at "r"
  refine draw_ok hp2 hd (by omega) (by omega) fun r st' r0 r1 f fl => ?_
  obtain ⟨x, hx, _, e⟩ := atD_of (xs := xs) r0 r1
  exact ⟨x, e, q x st' hx f fl⟩
def rareBody (c : Cl) : TS := sRet (dCmp eqC (dCall c "_law_draw" (aCons (dVar 0) (aCons (dVar 1) (aNil)))) (dOp fdivK (dVar 1) (dC (.int 2))))
theorem rareK_ok (hp : prog "_law_rare" = some ⟨2, 2, rareBody⟩) (hp2 : prog "_law_draw" = some ⟨2, 5, drawBody⟩) {many : Int} (h : DrawAt st) (h0 : 0 < many) (h1 : many < 1073741824) (q : ∀ b st', Fra st st' → st'.length = st.length → Q (.bl b) st') : callN prog (k + 2) "_law_rare" [.ref 2, .int many] st Q := by
  refine call_intro hp rfl ?_
  unfold rareBody
  walk_at "r"
  refine draw_ok hp2 h h0 h1 fun r st' r0 r1 f fl => ?_
  walk_at "r"
  refine ⟨⟨by decide, by decide⟩, ?_⟩
  walk_at "r"
  exact q _ _ f fl
def isIntBody (c : Cl) : TS := sRet (dAndT (dIsi .int (dVar 0)) (dNotT (dIsi .bool (dVar 0))))
theorem isInt_ok (hp : prog "_law_is_int" = some ⟨1, 1, isIntBody⟩) {i : Int} (q : Q (.bl true) st) : callN prog (k + 1) "_law_is_int" [.int i] st Q := by
  refine call_intro hp rfl ?_
  unfold isIntBody
  walk_at "r"
  refine wayT rfl ?_
  walk_at "r"
  exact q
def fullI (w : Int) : Int := 2 ^ w.toNat - 1
theorem fullI_bd {w : Int} (h0 : 0 ≤ w) (h1 : w ≤ 8) : 0 ≤ fullI w ∧ fullI w ≤ 255 := by
  have := pw_bd h0 h1
  unfold fullI
  omega
theorem cmul_small {a b : Int} (h0 : 0 ≤ b) (h1 : b ≤ 1000000) : cMul a b := .inr ⟨by omega, by omega⟩
theorem cpow_small {w : Int} (h0 : 0 ≤ w) (h1 : w ≤ 1000) : cPow 1 w := ⟨h0, by omega, by decide⟩
def greatestBody (c : Cl) : TS := sRet (dOp subK (dOp shlK (dC (.int 1)) (dVar 0)) (dC (.int 1)))
theorem greatest_ok (hp : prog "greatest" = some ⟨1, 1, greatestBody⟩) {w : Int} (h0 : 0 ≤ w) (h1 : w ≤ 8) (q : Q (.int (fullI w)) st) : callN prog (k + 1) "greatest" [.int w] st Q := by
  refine call_intro hp rfl ?_
  unfold greatestBody
  walk_at "r"
  refine ⟨cpow_small h0 (by omega), ?_⟩
  walk_at "r"
  rw [Int.one_mul]
  exact q
/-- the first place of n at which P holds -/
def Fnd (P : Nat → Prop) (n : Nat) : Option Nat → Prop
  | some t => t < n ∧ P t ∧ ∀ u, u < t → ¬ P u
  | none => ∀ u, u < n → ¬ P u
theorem Fnd.uniq {P : Nat → Prop} {n : Nat} : ∀ {r r' : Option Nat}, Fnd P n r → Fnd P n r' → r = r'
  | none, none, _, _ => rfl
  | some t, none, h, h' => absurd h.2.1 (h' t h.1)
  | none, some t, h, h' => absurd h'.2.1 (h t h'.1)
  | some t, some t', h, h' => by
    rcases Nat.lt_trichotomy t t' with e | e | e
    · exact absurd h.2.1 (h'.2.2 t e)
    · rw [e]
    · exact absurd h'.2.1 (h.2.2 t' e)
def optD : Option Nat → D
  | some t => .int t
  | none => .non
/-- cells are as they were, but the drawer and p -/
structure FraE (p : Nat) (st st' : Store) : Prop where
  dr : DrawAt st'
  le : st.length ≤ st'.length
  at' : ∀ n, n < st.length → n ≠ 2 → n ≠ p → st'[n]? = st[n]?
theorem FraE.rd {p : Nat} {st st' : Store} (f : FraE p st st') {n : Nat} {xs : List D} (h : rdL st n xs) (ne : n ≠ 2) (ne' : n ≠ p) : rdL st' n xs := by
  unfold rdL at *
  rw [f.at' n (rdL_lt h) ne ne']; exact h
theorem FraE.of {p : Nat} {st st' : Store} (f : Fra st st') : FraE p st st' := ⟨f.dr, f.le, fun n h1 h2 _ => f.at' n h1 h2⟩
theorem FraE.trans {p : Nat} {a b c : Store} (h : FraE p a b) (h' : FraE p b c) : FraE p a c := ⟨h'.dr, Nat.le_trans h.le h'.le, fun n hn ne ne' => (h'.at' n (Nat.lt_of_lt_of_le hn h.le) ne ne').trans (h.at' n hn ne ne')⟩
theorem FraE.setP {p : Nat} {st st' : Store} {c : C} (f : FraE p st st') (h2 : 2 < p) : FraE p st (st'.set p c) := ⟨f.dr.set h2, by simp; exact f.le, fun m hm ne ne' => by
  rw [List.getElem?_set_ne (Ne.symm ne')]; exact f.at' m hm ne ne'⟩
theorem FraE.fra {p : Nat} {st st' : Store} (f : FraE p st st') (h : st.length ≤ p) : Fra st st' := ⟨f.dr, f.le, fun n hn ne => f.at' n hn ne (by omega)⟩
theorem FraE.setN {p : Nat} {st st' : Store} {n : Nat} {c : C} (f : FraE p st st') (hn : st.length ≤ n) (h2 : 2 < n) : FraE p st (st'.set n c) := ⟨f.dr.set h2, by simp; exact f.le, fun m hm ne ne' => by
  rw [List.getElem?_set_ne (by omega)]; exact f.at' m hm ne ne'⟩
/-- cells of before are as they were; the new ones, g among them, as they come -/
structure FraG (g : Nat) (st st' : Store) : Prop where
  big : st.length ≤ g
  at' : ∀ n, n < st.length → st'[n]? = st[n]?
  le : st.length ≤ st'.length
theorem FraG.new {st : Store} {c : C} : FraG st.length st (st ++ [c]) := ⟨Nat.le_refl _, fun n h => List.getElem?_append_left h, by simp⟩
theorem FraG.refl {st : Store} {g : Nat} (h : st.length ≤ g) : FraG g st st := ⟨h, fun _ _ => rfl, Nat.le_refl _⟩
theorem FraG.rd {g : Nat} {st st' : Store} (f : FraG g st st') {n : Nat} {xs : List D} (h : rdL st n xs) (hn : n < st.length) : rdL st' n xs := by
  unfold rdL at *
  rw [f.at' n hn]; exact h
theorem FraG.app {g : Nat} {st st' : Store} {c : C} (f : FraG g st st') : FraG g st (st' ++ [c]) := ⟨f.big, fun n h => by rw [List.getElem?_append_left (Nat.lt_of_lt_of_le h f.le)]; exact f.at' n h, by simp; have := f.le; omega⟩
theorem FraG.setG {g : Nat} {st st' : Store} {c : C} (f : FraG g st st') : FraG g st (st'.set g c) := ⟨f.big, fun n h => by
  have := f.big
  rw [List.getElem?_set_ne (by omega)]; exact f.at' n h, by simp; exact f.le⟩
theorem FraG.setN {g n : Nat} {st st' : Store} {c : C} (f : FraG g st st') (hn : st.length ≤ n) : FraG g st (st'.set n c) := ⟨f.big, fun m h => by
  rw [List.getElem?_set_ne (by omega)]; exact f.at' m h, by simp; exact f.le⟩
theorem FraG.grw {g : Nat} {st st' : Store} (f : FraG g st st') : Grw st st' := by
  refine ⟨st'.drop st.length, ?_⟩
  apply List.ext_getElem?
  intro n
  by_cases h : n < st.length
  · rw [f.at' n h, List.getElem?_append_left h]
  · rw [List.getElem?_append_right (by omega), List.getElem?_drop, show st.length + (n - st.length) = n by omega]
theorem FraG.more {g : Nat} {st st' st2 : Store} (f : FraG g st st') (h : Grw st' st2) : FraG g st st2 := by
  obtain ⟨m, rfl⟩ := h
  exact ⟨f.big, fun n h => by rw [List.getElem?_append_left (Nat.lt_of_lt_of_le h f.le)]; exact f.at' n h, by simp; have := f.le; omega⟩
/-- the element adds cells alone: the new list is the map -/
theorem lc_mapG {α : Type} {gd : Store → Prop} {g : TG} {te : TE} {ρ : Env} (xs : List α) (f h : α → D) {items : List D} (hi : items = xs.map f) (hl : xs.length ≤ szl) (hg : ∀ st', FraG st.length st st' → gd st')
    (hs : ∀ x, x ∈ xs → ∀ (st1 : Store) (N : D → Store → Prop), FraG st.length st st1 → (∀ st2, Grw st1 st2 → N (h x) st2) → g (f x) ρ st1 fun ρ2 st2 => te ρ2 st2 N)
    (hd : ∀ st', FraG st.length st st' → rdL st' st.length (xs.map h) → Q (.ref st.length) st') : lcLoop gd g tYes te ρ st.length Q items [] (st ++ [.lst []]) := by
  subst hi
  refine lc_by (fun pre acc st' => acc = (xs.take pre.length).map h ∧ FraG st.length st st' ∧ rdL st' st.length acc) ⟨rfl, FraG.new, rdL_new⟩ (fun pre x post acc st' e ⟨h1, h5, h6⟩ N M hN hM => ?_) (fun acc st' ⟨h1, h5, h6⟩ => ?_)
  · refine ⟨hg _ h5, ?_⟩
    have e1 : (fun (ρ2 : Env) (st2 : Store) => tYes ρ2 st2 fun b st3 => (b = true → te ρ2 st3 N) ∧ (b = false → M st3)) = fun ρ2 st2 => te ρ2 st2 N := by
      funext ρ2 st2
      exact propext ⟨fun q => q.1 rfl, fun q => ⟨fun _ => q, fun e => nomatch e⟩⟩
    rw [e1]
    have hlen := congrArg List.length e
    simp at hlen
    have hx : (xs.map f)[pre.length]? = some x := by rw [e]; simp
    rw [List.getElem?_map] at hx
    cases hy : xs[pre.length]? with
    | none => rw [hy] at hx; cases hx
    | some y =>
      rw [hy] at hx
      cases hx
      refine hs y (List.mem_of_getElem? hy) st' _ h5 fun st2 gr => ?_
      have h7 := gr.rd h6
      refine hN _ _ h7 (by rw [h1]; simp; omega) ⟨?_, (h5.more gr).setG, rdL_set h7⟩
      rw [List.length_append]
      show _ = (xs.take (pre.length + 1)).map h
      rw [List.take_add_one, hy, List.map_append, h1]; rfl
  · rw [List.length_map, List.take_length] at h1
    subst h1
    exact ⟨hg _ h5, h6, hd st' h5 h6⟩
def popBody (c : Cl) : TS := sRet (dM tyLst popM (dVar 1) (aCons (dCall c "_law_draw" (aCons (dVar 0) (aCons (dB lenB (aCons (dVar 1) (aNil))) (aNil)))) (aNil)))
theorem pop_ok (hp : prog "_law_pop" = some ⟨2, 2, popBody⟩) (hp2 : prog "_law_draw" = some ⟨2, 5, drawBody⟩) {n : Nat} {xs : List D} (hd : DrawAt st) (h : rdL st n xs) (hn : 2 < n) (h0 : 0 < xs.length) (h1 : xs.length < 1073741824)
    (q : ∀ (i : Nat) x st', xs[i]? = some x → FraE n st st' → rdL st' n (xs.eraseIdx i) → st'.length = st.length → Q x st') : callN prog (k + 2) "_law_pop" [.ref 2, .ref n] st Q := by
  refine call_intro hp rfl ?_
  unfold popBody
  walk_at "r"
  refine ⟨ty_at h, ?_⟩
  walk_at "r"
  refine len_at h ?_
  walk_at "r"
  refine draw_ok hp2 hd (by omega) (by omega) fun r st' r0 r1 f fl => ?_
  walk_at "r"
  obtain ⟨x, hx, e', e⟩ := atD_of (xs := xs) r0 r1
  have h' := f.rd h (by omega)
  exact ⟨xs, x, h', ⟨r0, by omega⟩, e, q r.toNat x _ e' ((FraE.of f).setP hn) (rdL_set h') (by simp [fl])⟩

def shuffledBody (c : Cl) : TS := sSeq (sAsg (dB listB (aCons (dVar 1) (aNil))) (gName 2)) (sSeq (sAsg (dLst (aNil)) (gName 3)) (sSeq (sFor (iR1 (dB lenB (aCons (dVar 2) (aNil)))) (gName 4) (sExpr (dM tyLst appendM (dVar 3) (aCons (dM tyLst popM (dVar 2) (aCons (dCall c "_law_draw" (aCons (dVar 0) (aCons (dB lenB (aCons (dVar 2) (aNil))) (aNil)))) (aNil))) (aNil))))) (sRet (dVar 3))))
theorem perm_erase {α : Type} {x : α} : ∀ {l : List α} {i : Nat}, l[i]? = some x → (x :: l.eraseIdx i).Perm l
  | [], _, h => by simp at h
  | a :: l, 0, h => by simp at h; subst h; exact List.Perm.refl _
  | a :: l, i + 1, h => (List.Perm.swap a x _).trans ((perm_erase (l := l) (i := i) (by simpa using h)).cons a)
theorem shuffled_ok (hp : prog "_law_shuffled" = some ⟨2, 5, shuffledBody⟩) (hp2 : prog "_law_draw" = some ⟨2, 5, drawBody⟩) {n : Nat} {xs : List D} (hd : DrawAt st) (h : rdL st n xs) (hn : 2 < n) (h1 : xs.length < 1000000)
    (q : ∀ fn ys st', ys.Perm xs → st.length ≤ fn → rdL st' fn ys → Fra st st' → Q (.ref fn) st') : callN prog (k + 2) "_law_shuffled" [.ref 2, .ref n] st Q := by
  refine call_intro hp rfl ?_
  unfold shuffledBody
  have d2 := hd.lt
  walk_at "r"
  refine list_at h ?_
  walk_at "r"
  refine ⟨by show 0 ≤ szl; decide, ?_⟩
  walk_at "r"
  refine len_at (rdL_app rdL_new) ?_
  walk_at "r"
  refine ⟨by omega, by omega, ?_⟩
  have l1 : st.length < (st ++ [C.lst xs]).length := by simp
  have f0 := ((Fra.refl hd).app (c := C.lst xs)).app (c := C.lst [])
  have hf0 := rdL_new (st := st ++ [C.lst xs]) (xs := [])
  have hl0 : rdL (st ++ [C.lst xs] ++ [C.lst []]) st.length xs := rdL_app rdL_new
  generalize (st ++ [C.lst xs]).length = fn at l1 hf0 ⊢
  generalize (st ++ [C.lst xs] ++ [C.lst []]) = st1 at f0 hf0 hl0 ⊢
  refine for_rng (fun j σ st' => ∃ y4 ls fs, σ = [some (.ref 2), some (.ref n), some (.ref st.length), some (.ref fn), y4] ∧ rdL st' st.length ls ∧ rdL st' fn fs ∧ (fs ++ ls).Perm xs ∧ fs.length = j ∧ Fra st st') ⟨none, xs, [], rfl, hl0, hf0, List.Perm.refl _, rfl, f0⟩ (fun j σ st' hj ⟨y4, ls, fs, e, hls, hfs, pm, hfl, f⟩ N hN => ?_) (fun σ st' ⟨y4, ls, fs, e, hls, hfs, pm, hfl, f⟩ => ?_)
  · subst e
    have hpl := pm.length_eq
    rw [List.length_append] at hpl
    refine ⟨trivial, ?_⟩
    walk_at "r"
    refine ⟨ty_at hfs, ?_⟩
    walk_at "r"
    refine ⟨ty_at hls, ?_⟩
    walk_at "r"
    refine len_at hls ?_
    walk_at "r"
    refine draw_ok hp2 f.dr (by omega) (by omega) fun r st2 r0 r1 f2 l2 => ?_
    walk_at "r"
    obtain ⟨x, hx, e', e⟩ := atD_of (xs := ls) r0 r1
    have hls2 := f2.rd hls (by omega)
    have hfs2 := f2.rd hfs (by omega)
    refine ⟨ls, x, hls2, ⟨r0, by omega⟩, e, ?_⟩
    walk_at "r"
    have hfs3 : rdL (st2.set st.length (.lst (ls.eraseIdx r.toNat))) fn fs := rdL_ne hfs2 (by omega)
    refine append_at hfs3 (by unfold szl; omega) ?_
    refine hN _ _ ⟨_, ls.eraseIdx r.toNat, fs ++ [x], rfl, rdL_ne (rdL_set hls2) (by omega), rdL_set hfs3, ?_, by simp [hfl], ((f.trans f2).set (Nat.le_refl _) d2).set (by omega) (by omega)⟩
    rw [List.append_assoc]
    exact ((perm_erase e').append_left fs).trans pm
  · subst e
    refine ⟨trivial, ?_⟩
    walk_at "r"
    have hpl := pm.length_eq
    rw [List.length_append] at hpl
    have hl : ls = [] := List.eq_nil_of_length_eq_zero (by omega)
    subst hl
    rw [List.append_nil] at pm
    exact q fn fs st' pm (by omega) hfs f
theorem and_maskZ (x : Int) (n : Nat) : Builtin.bitAnd x (2 ^ n - 1) = x % 2 ^ n := by
  by_cases hx : 0 ≤ x
  · exact and_mask hx
  · have hm : (0 : Int) ≤ 2 ^ n - 1 := by have := pow2_pos n; omega
    unfold Builtin.bitAnd
    simp only [hx, hm, decide_true, decide_false]
    unfold Builtin.bitNot
    have e1 : (2 ^ n - 1 : Int).toNat = 2 ^ n - 1 := by
      have : (2 ^ n : Int) = ((2 ^ n : Nat) : Int) := by simp
      rw [this]
      have := Nat.two_pow_pos n
      omega
    obtain ⟨m, hm2⟩ : ∃ m : Nat, (-x - 1).toNat = m := ⟨_, rfl⟩
    have hx2 : x = -(m : Int) - 1 := by omega
    rw [hm2, e1, Nat.and_comm, Nat.and_two_pow_sub_one_eq_mod, hx2]
    have hp := pow2_pos n
    have c : ((2 : Int) ^ n) = ((2 ^ n : Nat) : Int) := by simp
    have h1 := Nat.div_add_mod m (2 ^ n)
    have h2 := Nat.mod_lt m (Nat.two_pow_pos n)
    have h3 : -(m : Int) - 1 = ((2 : Int) ^ n - 1 - ((m % 2 ^ n : Nat) : Int)) + 2 ^ n * (-((m / 2 ^ n : Nat) : Int) - 1) := by
      have h4 : (m : Int) = 2 ^ n * ((m / 2 ^ n : Nat) : Int) + ((m % 2 ^ n : Nat) : Int) := by
        rw [c, ← Int.natCast_mul, ← Int.natCast_add, h1]
      rw [Int.mul_sub, Int.mul_neg, Int.mul_one]
      omega
    rw [h3, Int.add_mul_emod_self_left, Int.emod_eq_of_lt (by omega) (by omega)]

/-- a for over known items, by the place -/
theorem for_map {α : Type} {gd : Store → Prop} {g : TG} {tb : TS} {D0 : Ends} {σ : Env} (xs : List α) (f : α → D) {items : List D} (hi : items = xs.map f) (Pv : Nat → Env → Store → Prop) (h0 : Pv 0 σ st)
    (hs : ∀ j x σ st, xs[j]? = some x → Pv j σ st → ∀ N : Env → Store → Prop, (∀ σ st, Pv (j + 1) σ st → N σ st) → gd st ∧ g (f x) σ st fun σ2 st2 => tb { D0 with nx := N, ct := N, bk := D0.nx } σ2 st2)
    (hd : ∀ σ st, Pv xs.length σ st → gd st ∧ D0.nx σ st) : forLoop gd g tb D0 items σ st := by
  subst hi
  refine for_by (fun pre σ st => Pv pre.length σ st) h0 (fun pre x post σ st e h N hN => ?_) (fun σ st h => hd σ st (by simpa using h))
  have hx : (xs.map f)[pre.length]? = some x := by rw [e]; simp
  rw [List.getElem?_map] at hx
  cases hy : xs[pre.length]? with
  | none => rw [hy] at hx; cases hx
  | some y =>
    rw [hy] at hx
    cases hx
    exact hs pre.length y σ st hy h N fun σ st h' => hN σ st (by simpa using h')
theorem lc_two {α β : Type} {gd : Store → Prop} {g : TG} {te : TE} {ρ : Env} (xs : List α) (f : α → D) (f' : β → D) (P : α → β → Prop) {items : List D} (hi : items = xs.map f) (hd : DrawAt st) (hl : xs.length ≤ szl) (hg : ∀ st', Fra st st' → gd st')
    (hs : ∀ x ∈ xs, ∀ st', Fra st st' → ∀ N : D → Store → Prop, (∀ y st2, P x y → Fra st' st2 → N (f' y) st2) → g (f x) ρ st' fun ρ2 st2 => te ρ2 st2 N)
    (hQ : ∀ (ys : List β) st', Two P xs ys → Fra st st' → rdL st' st.length (ys.map f') → Q (.ref st.length) st') : lcLoop gd g tYes te ρ st.length Q items [] (st ++ [.lst []]) := by
  subst hi
  have key : ∀ {as : List α} {zs : List D}, Two (fun a z => ∃ b, z = f' b ∧ P a b) as zs → ∃ bs : List β, zs = bs.map f' ∧ Two P as bs := by
    intro as zs h
    induction h with
    | nil => exact ⟨[], rfl, .nil⟩
    | cons p _ ih =>
      obtain ⟨b, h1, h2⟩ := p
      obtain ⟨bs, h3, h4⟩ := ih
      exact ⟨b :: bs, by rw [h1, h3]; rfl, .cons h2 h4⟩
  have h2 := hd.lt
  refine lc_by (fun pre acc st' => Two (fun a z => ∃ b, z = f' b ∧ P a b) (xs.take pre.length) acc ∧ Fra st st' ∧ rdL st' st.length acc) ⟨.nil, (Fra.refl hd).app, rdL_new⟩ (fun pre x post acc st' e ⟨h1, h5, h6⟩ N M hN hM => ?_) (fun acc st' ⟨h1, h5, h6⟩ => ?_)
  · refine ⟨hg _ h5, ?_⟩
    have e1 : (fun (ρ2 : Env) (st2 : Store) => tYes ρ2 st2 fun b st3 => (b = true → te ρ2 st3 N) ∧ (b = false → M st3)) = fun ρ2 st2 => te ρ2 st2 N := by
      funext ρ2 st2
      exact propext ⟨fun q => q.1 rfl, fun q => ⟨fun _ => q, fun e => nomatch e⟩⟩
    rw [e1]
    have hlen := congrArg List.length e
    simp at hlen
    have hx : (xs.map f)[pre.length]? = some x := by rw [e]; simp
    rw [List.getElem?_map] at hx
    cases hy : xs[pre.length]? with
    | none => rw [hy] at hx; cases hx
    | some y =>
      rw [hy] at hx
      cases hx
      refine hs y (List.mem_of_getElem? hy) st' h5 N fun z st2 hr fr => ?_
      have h7 := fr.rd h6 (by omega)
      have hal := h1.length
      rw [List.length_take] at hal
      refine hN _ _ h7 (by omega) ⟨?_, (h5.trans fr).set (Nat.le_refl _) (by omega), rdL_set h7⟩
      rw [List.length_append]
      show Two _ (xs.take (pre.length + 1)) _
      rw [List.take_add_one, hy]
      exact h1.snoc ⟨z, rfl, hr⟩
  · rw [List.length_map, List.take_length] at h1
    obtain ⟨bs, rfl, h8⟩ := key h1
    exact ⟨hg _ h5, h6, hQ bs st' h8 h5 h6⟩
end
end Pd
end PartPdKit

section PartPdNodes
set_option Elab.async false
set_option linter.all false
set_option maxRecDepth 100000
set_option maxHeartbeats 1000000
/-! Pd: sheets of nodes, plain: operations, nodes, values, widths. Own work. -/
namespace Pd
open PySem
local macro_rules | `(tactic| walk_at "s") => `(tactic| (repeat (refine Red.red ?_)))
inductive Op where | not | neg | wide | pick | add | sub | mul | and | or | xor | shl | shr | div | rem | eq | ne | lt | le
def opS : Op → Str
  | .not => "not"
  | .neg => "neg"
  | .wide => "wide"
  | .pick => "pick"
  | .add => "+"
  | .sub => "-"
  | .mul => "*"
  | .and => "&"
  | .or => "|"
  | .xor => "^"
  | .shl => "<<"
  | .shr => ">>"
  | .div => "div"
  | .rem => "rem"
  | .eq => "=="
  | .ne => "!="
  | .lt => "<"
  | .le => "<="
def v1 : Op → Int → Int → Int
  | .not, w, l => fullI w - l
  | .neg, w, l => Builtin.bitAnd (-l) (fullI w)
  | _, w, l => Builtin.bitAnd l (fullI w)
def v2 : Op → Int → Int → Int → Int
  | .add, w, l, r => Builtin.bitAnd (l + r) (fullI w)
  | .sub, w, l, r => Builtin.bitAnd (l - r) (fullI w)
  | .mul, w, l, r => Builtin.bitAnd (l * r) (fullI w)
  | .and, w, l, r => Builtin.bitAnd (Builtin.bitAnd l r) (fullI w)
  | .or, w, l, r => Builtin.bitAnd (Builtin.bitOr l r) (fullI w)
  | .xor, w, l, r => Builtin.bitAnd (Builtin.bitXor l r) (fullI w)
  | .shl, w, l, r => if w ≤ r then 0 else Builtin.bitAnd (l * 2 ^ r.toNat) (fullI w)
  | .shr, w, l, r => if w ≤ r then 0 else l / 2 ^ r.toNat
  | .div, w, l, r => if r = 0 then 0 else l / r
  | .rem, w, l, r => if r = 0 then 0 else l - r * (l / r)
  | .eq, w, l, r => b2i (decide (l = r))
  | .ne, w, l, r => b2i (!decide (l = r))
  | .lt, w, l, r => b2i (decide (l < r))
  | _, w, l, r => b2i (decide (l ≤ r))
def one : Op → Bool
  | .not => true
  | .neg => true
  | .wide => true
  | _ => false
def two : Op → Bool
  | .not => false
  | .neg => false
  | .wide => false
  | .pick => false
  | _ => true
section
variable {w l r a b : Int}
theorem full1 (w0 : 1 ≤ w) (w1 : w ≤ 8) : 1 * 2 ^ w.toNat - 1 = fullI w := by rw [Int.one_mul]; rfl
theorem mask_in {x : Int} (h0 : 0 ≤ x) (h1 : x ≤ fullI w) : Builtin.bitAnd x (fullI w) = x := by
  unfold fullI at *
  rw [and_maskZ, Int.emod_eq_of_lt h0 (by omega)]
theorem not_mask (h0 : 0 ≤ l) (h1 : l ≤ fullI w) : Builtin.bitAnd (-l - 1) (fullI w) = fullI w - l := by
  unfold fullI at *
  rw [and_maskZ]
  have e : -l - 1 = (2 ^ w.toNat - 1 - l) + 2 ^ w.toNat * (-1) := by rw [Int.mul_neg, Int.mul_one]; omega
  rw [e, Int.add_mul_emod_self_left, Int.emod_eq_of_lt (by omega) (by omega)]
theorem nat_of {x : Int} (h : 0 ≤ x) : ∃ n : Nat, x = (n : Int) := ⟨x.toNat, by omega⟩
theorem fullN {w : Int} : fullI w = ((2 ^ w.toNat - 1 : Nat) : Int) := by
  unfold fullI
  have := Nat.two_pow_pos w.toNat
  have c : ((2 : Int) ^ w.toNat) = ((2 ^ w.toNat : Nat) : Int) := by simp
  rw [c]; omega
theorem andN (m n : Nat) : Builtin.bitAnd (m : Int) (n : Int) = ((m &&& n : Nat) : Int) := by
  unfold Builtin.bitAnd
  have h1 : (0 : Int) ≤ m := by omega
  have h2 : (0 : Int) ≤ n := by omega
  simp only [h1, h2, decide_true, Int.toNat_natCast]
theorem notN (m : Nat) : Builtin.bitNot (m : Int) = -(m : Int) - 1 := rfl
theorem orN (m n : Nat) : Builtin.bitOr (m : Int) (n : Int) = ((m ||| n : Nat) : Int) := by
  unfold Builtin.bitOr Builtin.bitNot Builtin.bitAnd
  have h1 : ¬ ((0 : Int) ≤ -(m : Int) - 1) := by omega
  have h2 : ¬ ((0 : Int) ≤ -(n : Int) - 1) := by omega
  simp only [h1, h2, decide_false]
  unfold Builtin.bitNot
  have e1 : (-(-(m : Int) - 1) - 1).toNat = m := by omega
  have e2 : (-(-(n : Int) - 1) - 1).toNat = n := by omega
  rw [e1, e2]
  omega
theorem or_le {m n k : Nat} (h1 : m < 2 ^ k) (h2 : n < 2 ^ k) : m ||| n < 2 ^ k := Nat.or_lt_two_pow h1 h2
theorem xorN (m n : Nat) : ∃ z : Nat, Builtin.bitXor (m : Int) (n : Int) = (z : Int) ∧ z ≤ m ||| n := by
  unfold Builtin.bitXor
  rw [orN, andN]
  have h : m &&& n ≤ m ||| n := Nat.le_trans Nat.and_le_left Nat.left_le_or
  exact ⟨(m ||| n) - (m &&& n), by omega, Nat.sub_le _ _⟩
theorem bits_in (l0 : 0 ≤ l) (l1 : l ≤ fullI w) (r0 : 0 ≤ r) (r1 : r ≤ fullI w) : v2 .and w l r = Builtin.bitAnd l r ∧ v2 .or w l r = Builtin.bitOr l r ∧ v2 .xor w l r = Builtin.bitXor l r := by
  obtain ⟨m, rfl⟩ := nat_of l0
  obtain ⟨n, rfl⟩ := nat_of r0
  have hp := Nat.two_pow_pos w.toNat
  have hf := fullN (w := w)
  have hm : m < 2 ^ w.toNat := by omega
  have hn : n < 2 ^ w.toNat := by omega
  have h1 : m &&& n < 2 ^ w.toNat := Nat.lt_of_le_of_lt Nat.and_le_left hm
  have h2 : m ||| n < 2 ^ w.toNat := or_le hm hn
  obtain ⟨z, hz, hz2⟩ := xorN m n
  refine ⟨?_, ?_, ?_⟩
  · show Builtin.bitAnd (Builtin.bitAnd _ _) _ = _
    rw [andN]; exact mask_in (by omega) (by omega)
  · show Builtin.bitAnd (Builtin.bitOr _ _) _ = _
    rw [orN]; exact mask_in (by omega) (by omega)
  · show Builtin.bitAnd (Builtin.bitXor _ _) _ = _
    rw [hz]; exact mask_in (by omega) (by omega)
theorem shl_big (w0 : 1 ≤ w) (w1 : w ≤ 8) (h : w ≤ r) : Builtin.bitAnd (l * 2 ^ (if 8 < r then 8 else r).toNat) (fullI w) = 0 := by
  unfold fullI
  rw [and_maskZ]
  have h1 : w.toNat ≤ (if 8 < r then 8 else r).toNat := by split <;> omega
  obtain ⟨j, hj⟩ := Nat.exists_eq_add_of_le h1
  rw [hj, Int.pow_add, ← Int.mul_assoc, Int.mul_comm l, Int.mul_assoc]
  exact Int.mul_emod_right _ _
theorem shr_big (w0 : 1 ≤ w) (w1 : w ≤ 8) (l0 : 0 ≤ l) (l1 : l ≤ fullI w) (h : w ≤ r) : l / 2 ^ (if 8 < r then 8 else r).toNat = 0 := by
  have h1 : w.toNat ≤ (if 8 < r then 8 else r).toNat := by split <;> omega
  have h2 := Nat.pow_le_pow_right (n := 2) (by decide) h1
  have c : ∀ n : Nat, ((2 : Int) ^ n) = ((2 ^ n : Nat) : Int) := fun n => by simp
  unfold fullI at l1
  rw [c] at l1
  rw [c]
  exact Int.ediv_eq_zero_of_lt l0 (by omega)
theorem min_small (h : ¬ w ≤ r) (w1 : w ≤ 8) : (if 8 < r then 8 else r) = r := if_neg (by omega)
end
inductive Nd where
  | word (w v : Int)
  | inp (w : Int) (i : Nat)
  | one (o : Op) (w : Int) (a : Nat)
  | two (o : Op) (w : Int) (a b : Nat)
  | pick (w : Int) (c a b : Nat)
namespace Nd
def wd : Nd → Int
  | word w _ => w
  | inp w _ => w
  | one _ w _ => w
  | two _ w _ _ => w
  | pick w _ _ _ => w
def dat : Nd → D
  | word w v => .tup [.str (Str.ofString "word"), .int w, .int v]
  | inp w i => .tup [.str (Str.ofString "input"), .int w, .int i]
  | one o w a => .tup [.str (opS o), .int w, .int a]
  | two o w a b => .tup [.str (opS o), .int w, .int a, .int b]
  | pick w c a b => .tup [.str (opS .pick), .int w, .int c, .int a, .int b]
end Nd
def cmp : Op → Bool
  | .eq => true
  | .ne => true
  | .lt => true
  | .le => true
  | _ => false
def shf : Op → Bool
  | .shl => true
  | .shr => true
  | _ => false
def Has (ws : List Int) (a : Nat) (w : Int) : Prop := ws[a]? = some w
def Good (ws : List Int) : Nd → Prop
  | .word w v => 1 ≤ w ∧ w ≤ 8 ∧ 0 ≤ v ∧ v ≤ fullI w
  | .inp w i => 1 ≤ w ∧ w ≤ 8 ∧ i ≤ 300
  | .one o w a => 1 ≤ w ∧ w ≤ 8 ∧ Pd.one o = true ∧ ∃ u, Has ws a u ∧ (o ≠ .wide → u = w)
  | .two o w a b => 1 ≤ w ∧ w ≤ 8 ∧ Pd.two o = true ∧ ∃ u v, Has ws a u ∧ Has ws b v ∧ (cmp o = true → w = 1) ∧ (cmp o = false → u = w) ∧ (cmp o = false → shf o = false → v = w)
  | .pick w c a b => 1 ≤ w ∧ w ≤ 8 ∧ Has ws c 1 ∧ Has ws a w ∧ Has ws b w
inductive Sheet : List Nd → Prop
  | nil : Sheet []
  | snoc {ns : List Nd} {x : Nd} : Sheet ns → Good (ns.map Nd.wd) x → Sheet (ns ++ [x])
def val (is : List Int) (vs : List Int) : Nd → Int
  | .word _ v => v
  | .inp w i => if i < is.length then Builtin.bitAnd (is.getD i 0) (fullI w) else 0
  | .one o w a => v1 o w (vs.getD a 0)
  | .two o w a b => v2 o w (vs.getD a 0) (vs.getD b 0)
  | .pick _ c a b => if vs.getD c 0 = 1 then vs.getD a 0 else vs.getD b 0
def vals (is : List Int) (ns : List Nd) : List Int := ns.foldl (fun vs x => vs ++ [val is vs x]) []
theorem vals_snoc (is : List Int) (ns : List Nd) (x : Nd) : vals is (ns ++ [x]) = vals is ns ++ [val is (vals is ns) x] := by
  unfold vals
  rw [List.foldl_append]
  rfl
/-- values within the widths -/
def Fits (ws vs : List Int) : Prop := ∀ (a : Nat) (w : Int), ws[a]? = some w → ∃ v : Int, vs[a]? = some v ∧ 0 ≤ v ∧ v ≤ fullI w
theorem and_in (x w : Int) : 0 ≤ Builtin.bitAnd x (fullI w) ∧ Builtin.bitAnd x (fullI w) ≤ fullI w := by
  unfold fullI
  rw [and_maskZ]
  have h : (0 : Int) < 2 ^ w.toNat := Int.pow_pos (by decide)
  have h1 := Int.emod_nonneg x (Int.ne_of_gt h)
  have h2 := Int.emod_lt_of_pos x h
  omega
theorem b2i_in (b : Bool) : 0 ≤ b2i b ∧ b2i b ≤ fullI 1 := by cases b <;> decide
theorem v1_in {o : Op} {w l : Int} (l0 : 0 ≤ l) (l1 : o ≠ .wide → l ≤ fullI w) : 0 ≤ v1 o w l ∧ v1 o w l ≤ fullI w := by
  cases o
  case not =>
    have := l1 (by intro h; cases h)
    show 0 ≤ fullI w - l ∧ fullI w - l ≤ fullI w
    omega
  all_goals exact and_in _ w
theorem v2_in {o : Op} {w l r : Int} (l0 : 0 ≤ l) (r0 : 0 ≤ r) (l1 : cmp o = false → l ≤ fullI w) (hc : cmp o = true → w = 1) (ho : two o = true) : 0 ≤ v2 o w l r ∧ v2 o w l r ≤ fullI w := by
  have hw : 0 ≤ fullI w := by
    have h : (0 : Int) < 2 ^ w.toNat := Int.pow_pos (by decide)
    unfold fullI; omega
  have pw : (0 : Int) < 2 ^ r.toNat := Int.pow_pos (by decide)
  cases o <;> try (cases ho; done)
  case add => exact and_in _ w
  case sub => exact and_in _ w
  case mul => exact and_in _ w
  case and => exact and_in _ w
  case or => exact and_in _ w
  case xor => exact and_in _ w
  case shl =>
    show 0 ≤ (if w ≤ r then _ else _) ∧ (if w ≤ r then _ else _) ≤ fullI w
    split
    · exact ⟨by decide, hw⟩
    · exact and_in _ w
  case shr =>
    show 0 ≤ (if w ≤ r then _ else _) ∧ (if w ≤ r then _ else _) ≤ fullI w
    split
    · exact ⟨by decide, hw⟩
    · have h1 := Int.ediv_nonneg l0 (Int.le_of_lt pw)
      have h2 := Int.ediv_le_self (2 ^ r.toNat) l0
      have := l1 rfl
      omega
  case div =>
    show 0 ≤ (if r = 0 then _ else _) ∧ (if r = 0 then _ else _) ≤ fullI w
    split
    · exact ⟨by decide, hw⟩
    · have h1 := Int.ediv_nonneg l0 r0
      have h2 := Int.ediv_le_self r l0
      have := l1 rfl
      omega
  case rem =>
    show 0 ≤ (if r = 0 then _ else _) ∧ (if r = 0 then _ else _) ≤ fullI w
    split
    · exact ⟨by decide, hw⟩
    · rename_i hr
      have h0 : l - r * (l / r) = l % r := (Int.emod_def l r).symm
      have h1 := Int.emod_nonneg l hr
      have h3 : 0 ≤ r * (l / r) := Int.mul_nonneg r0 (Int.ediv_nonneg l0 r0)
      have := l1 rfl
      omega
  all_goals
    rw [hc rfl]
    exact b2i_in _
theorem fits_val {ws vs is : List Int} {x : Nd} (h : Fits ws vs) (g : Good ws x) (hi : ∀ i, i ∈ is → 0 ≤ i) : 0 ≤ val is vs x ∧ val is vs x ≤ fullI x.wd := by
  have gd : ∀ {a : Nat} {w : Int}, Has ws a w → 0 ≤ vs.getD a 0 ∧ vs.getD a 0 ≤ fullI w := by
    intro a w ha
    obtain ⟨v, e, h0, h1⟩ := h a w ha
    rw [List.getD_eq_getElem?_getD, e]
    exact ⟨h0, h1⟩
  cases x with
  | word w v => exact ⟨g.2.2.1, g.2.2.2⟩
  | inp w i =>
    show 0 ≤ (if i < is.length then _ else _) ∧ (if i < is.length then _ else _) ≤ fullI w
    split
    · exact and_in _ w
    · exact ⟨by decide, Int.le_trans (and_in 0 w).1 (and_in 0 w).2⟩
  | one o w a =>
    obtain ⟨w0, w1, ho, u, ha, hu⟩ := g
    have := gd ha
    exact v1_in this.1 (fun hne => by rw [← hu hne]; exact this.2)
  | two o w a b =>
    obtain ⟨w0, w1, ho, u, v, ha, hb, h1, h2, h3⟩ := g
    have A := gd ha
    have B := gd hb
    exact v2_in A.1 B.1 (fun hc => by rw [← h2 hc]; exact A.2) h1 ho
  | pick w c a b =>
    obtain ⟨w0, w1, hc, ha, hb⟩ := g
    show 0 ≤ (if vs.getD c 0 = 1 then _ else _) ∧ (if vs.getD c 0 = 1 then _ else _) ≤ fullI w
    split
    · exact gd ha
    · exact gd hb
theorem vals_len (is : List Int) {ns : List Nd} (h : Sheet ns) : (vals is ns).length = ns.length := by
  induction h with
  | nil => rfl
  | snoc h g ih => rw [vals_snoc, List.length_append, List.length_append, ih]; rfl
theorem fits_all (is : List Int) (hi : ∀ i, i ∈ is → 0 ≤ i) {ns : List Nd} (h : Sheet ns) : Fits (ns.map Nd.wd) (vals is ns) := by
  induction h with
  | nil => intro a w ha; cases ha
  | @snoc ns x h g ih =>
    intro a w ha
    rw [vals_snoc]
    rw [List.map_append] at ha
    have hl := vals_len is h
    by_cases e : a < ns.length
    · rw [List.getElem?_append_left (by simpa using e)] at ha
      rw [List.getElem?_append_left (by omega)]
      exact ih a w ha
    · rw [List.getElem?_append_right (by simpa using e)] at ha
      rw [List.getElem?_append_right (by omega)]
      have ea : a = ns.length := by
        have := (List.getElem?_eq_some_iff.1 ha).1
        simp only [List.length_map, List.length_cons, List.length_nil] at this
        omega
      subst ea
      rw [List.length_map, Nat.sub_self] at ha
      rw [hl, Nat.sub_self]
      have e' : x.wd = w := by simpa using ha
      subst e'
      exact ⟨_, rfl, fits_val ih g hi⟩
theorem Sheet.pre {ns : List Nd} (S : Sheet ns) {j : Nat} {x : Nd} (hx : ns[j]? = some x) : Sheet (ns.take j) ∧ Good ((ns.take j).map Nd.wd) x := by
  induction S with
  | nil => cases hx
  | @snoc ns y h g ih =>
    by_cases e : j < ns.length
    · rw [List.getElem?_append_left e] at hx
      rw [List.take_append_of_le_length (by omega)]
      exact ih hx
    · have hj := (List.getElem?_eq_some_iff.1 hx).1
      simp only [List.length_append, List.length_cons, List.length_nil] at hj
      have ej : j = ns.length := by omega
      subst ej
      rw [List.getElem?_append_right (Nat.le_refl _), Nat.sub_self] at hx
      cases hx
      rw [List.take_append_of_le_length (Nat.le_refl _), List.take_length]
      exact ⟨h, g⟩
theorem vals_take {is : List Int} {ns : List Nd} {j : Nat} {x : Nd} (hx : ns[j]? = some x) : vals is (ns.take (j + 1)) = vals is (ns.take j) ++ [val is (vals is (ns.take j)) x] := by
  rw [List.take_add_one, hx]
  exact vals_snoc _ _ _
theorem ix_refN {st : Store} {n a : Nat} {vs : List Int} {Q : K} (h : rdL st n (vs.map D.int)) (ha : a < vs.length) (q : Q (.int (vs.getD a 0)) st) : ixK (.ref n) (.int (a : Int)) st Q := by
  refine ⟨vs.map D.int, .int (vs.getD a 0), .inl h, ?_, q⟩
  unfold atD
  simp only [List.length_map]
  have e1 : ¬ ((a : Int) < 0) := by omega
  simp [e1, List.getD_eq_getElem?_getD, List.getElem?_eq_getElem ha, ha]
theorem opS_w (o : Op) : okS (opS o) = true ∧ decide (opS o = Str.ofString "word") = false ∧ decide (opS o = Str.ofString "input") = false := by
  cases o <;> exact ⟨by decide +kernel, by decide +kernel, by decide +kernel⟩
theorem Sheet.wid {ns : List Nd} (S : Sheet ns) : ∀ (a : Nat) (w : Int), Has (ns.map Nd.wd) a w → 1 ≤ w ∧ w ≤ 8 := by
  induction S with
  | nil => intro a w h; cases h
  | @snoc ns x h g ih =>
    intro a w ha
    unfold Has at ha
    rw [List.map_append] at ha
    by_cases e : a < ns.length
    · rw [List.getElem?_append_left (by simpa using e)] at ha
      exact ih a w ha
    · rw [List.getElem?_append_right (by simpa using e)] at ha
      have e' := List.mem_of_getElem? ha
      simp at e'
      subst e'
      cases x <;> exact ⟨g.1, g.2.1⟩
theorem le255 {ns : List Nd} (S : Sheet ns) {a : Nat} {w z : Int} (ha : Has (ns.map Nd.wd) a w) (h : z ≤ fullI w) : z ≤ 255 := by
  have := S.wid a w ha
  have := fullI_bd (w := w) (by omega) this.2
  omega
def parts : Nd → List Nat
  | .one _ _ a => [a]
  | .two _ _ a b => [a, b]
  | .pick _ c a b => [c, a, b]
  | _ => []
theorem lc_parts {gd : Store → Prop} {ρ : Env} {te : TE} {g : TG} {st : Store} {Q : K} {vs : List Int} {n : Nat} (ps : List Nat) (h : rdL st n (vs.map D.int)) (hp : ∀ a ∈ ps, a < vs.length) (hl : ps.length ≤ 3) (hg : ∀ acc, gd (st ++ [.lst acc]))
    (hs : ∀ a, a ∈ ps → ∀ (acc : List D) (N : D → Store → Prop), rdL (st ++ [.lst acc]) n (vs.map D.int) → N (.int (vs.getD a 0)) (st ++ [.lst acc]) → g (.int (a : Int)) ρ (st ++ [.lst acc]) fun ρ2 st2 => te ρ2 st2 N)
    (hd : Q (.ref st.length) (st ++ [.lst (ps.map fun (a : Nat) => D.int (vs.getD a 0))])) : lcLoop gd g tYes te ρ st.length Q (ps.map fun (a : Nat) => D.int (a : Int)) [] (st ++ [.lst []]) :=
  lc_map ps (fun (a : Nat) => D.int (a : Int)) (fun (a : Nat) => D.int (vs.getD a 0)) rfl (by unfold szl; omega) hg (fun a ha acc N hN => hs a ha acc N (rdL_app h) hN) hd
theorem vals_pre (is : List Int) {ns : List Nd} (S : Sheet ns) (j : Nat) : vals is (ns.take j) = (vals is ns).take j := by
  induction S with
  | nil => rw [List.take_nil]; exact (List.take_nil).symm
  | @snoc ns x h g ih =>
    have hl := vals_len is h
    rw [vals_snoc]
    by_cases e : j ≤ ns.length
    · rw [List.take_append_of_le_length e, List.take_append_of_le_length (by omega), ih]
    · rw [List.take_of_length_le (by simp; omega), List.take_of_length_le (by simp; omega), vals_snoc]
theorem Sheet.take {ns : List Nd} (S : Sheet ns) (j : Nat) : Sheet (ns.take j) := by
  by_cases e : j < ns.length
  · exact (S.pre (List.getElem?_eq_getElem e)).1
  · rw [List.take_of_length_le (by omega)]; exact S
theorem at_int {vs : List Int} {t : Nat} (h : t < vs.length) : atD (vs.map D.int) (t : Int) = some (.int (vs.getD t 0)) := by
  unfold atD
  rw [if_pos (by omega), Int.toNat_natCast, List.getElem?_map, List.getElem?_eq_getElem h, List.getD_eq_getElem?_getD, List.getElem?_eq_getElem h]
  rfl
theorem zip_self (vs : List Int) : zipD (vs.map D.int) (vs.map D.int) = vs.map fun v => .tup [.int v, .int v] := by
  induction vs with
  | nil => rfl
  | cons v vs ih => exact congrArg (_ :: ·) ih
theorem ix_ref {st : Store} {n : Nat} {xs : List D} {d : D} {i : Int} {Q : K} (h : rdL st n xs) (h' : atD xs i = some d) (q : Q d st) : ixK (.ref n) (.int i) st Q := ⟨xs, d, .inl h, h', q⟩
theorem tru_ref {st : Store} {n : Nat} {xs : List D} {r : Bool → Prop} (h : rdL st n xs) (q : r (!xs.isEmpty)) : truK (.ref n) st r := ⟨xs, .inl h, q⟩
theorem seq_J {S S' : TS} {D0 : Ends} {σ : Env} {st : Store} (J : Env → Store → Prop) (h : ∀ N : Env → Store → Prop, (∀ σ' st', J σ' st' → N σ' st') → S { D0 with nx := N } σ st) (hJ : ∀ σ' st', J σ' st' → S' D0 σ' st') : sSeq S S' D0 σ st :=
  h _ fun σ' st' e => Nxt.mk (hJ σ' st' e)
theorem dat_wd (x : Nd) : ∃ s ps, x.dat = .tup (s :: .int x.wd :: ps) := by cases x <;> exact ⟨_, _, rfl⟩
theorem at_nd {ns : List Nd} {a : Nat} (h : a < ns.length) : atD (ns.map Nd.dat) (a : Int) = some (ns[a]).dat := by
  unfold atD
  rw [if_pos (by omega), Int.toNat_natCast, List.getElem?_map, List.getElem?_eq_getElem h]
  rfl
theorem wd_at {x : Nd} {st : Store} {Q : K} (q : Q (.int x.wd) st) : ixK x.dat (.int 1) st Q := by
  obtain ⟨s, ps, e⟩ := dat_wd x
  rw [e]
  exact ⟨.int x.wd, rfl, q⟩
def mates (ns : List Nd) (w : Int) : List Nat := (List.range ns.length).filter fun i => decide (((ns[i]?).map Nd.wd).getD 0 = w)
theorem mate_has {ns : List Nd} {w : Int} {i : Nat} (h : i ∈ mates ns w) : i < ns.length ∧ Has (ns.map Nd.wd) i w := by
  unfold mates at h
  rw [List.mem_filter, List.mem_range] at h
  obtain ⟨h1, h2⟩ := h
  refine ⟨h1, ?_⟩
  unfold Has
  rw [List.getElem?_map]
  rw [List.getElem?_eq_getElem h1] at h2 ⊢
  have := of_decide_eq_true h2
  exact congrArg some this
theorem has_wd {ns : List Nd} {a : Nat} (h : a < ns.length) : Has (ns.map Nd.wd) a (ns[a]).wd := by
  unfold Has
  rw [List.getElem?_map, List.getElem?_eq_getElem h]
  rfl
theorem self_mate {ns : List Nd} {a : Nat} (h : a < ns.length) : a ∈ mates ns (ns[a]).wd := by
  unfold mates
  rw [List.mem_filter, List.mem_range]
  refine ⟨h, ?_⟩
  rw [List.getElem?_eq_getElem h]
  exact decide_eq_true rfl
def n0 (i : Nat) : D := .int (0 + (i : Int))
theorem n0_eq (i : Nat) : n0 i = .int (i : Int) := by unfold n0; rw [Int.zero_add]
theorem lc_mates {te : TE} {tt : TT} {g : TG} {ρ : Env} {st : Store} {Q : K} {ns : List Nd} (w : Int) (hl : ns.length ≤ 200)
    (hs : ∀ (i : Nat) (hi : i < ns.length) (acc : List D) (N : D → Store → Prop) (M : Store → Prop), (decide ((ns[i]).wd = w) = true → N (n0 i) (st ++ [.lst acc])) → (decide ((ns[i]).wd = w) = false → M (st ++ [.lst acc])) → g (n0 i) ρ (st ++ [.lst acc]) fun ρ2 st2 => tt ρ2 st2 fun b st3 => (b = true → te ρ2 st3 N) ∧ (b = false → M st3))
    (hd : Q (.ref st.length) (st ++ [.lst ((mates ns w).map n0)])) : lcLoop (fun _ => True) g tt te ρ st.length Q (rng 0 (ns.length : Int).toNat) [] (st ++ [.lst []]) := by
  refine lc_filter (List.range ns.length) n0 n0 (fun i => decide (((ns[i]?).map Nd.wd).getD 0 = w)) rfl (by simp [szl]; omega) (fun _ => trivial) (fun i hi acc N M hN hM => ?_) hd
  have h1 := List.mem_range.mp hi
  rw [List.getElem?_eq_getElem h1] at hN hM
  exact hs i h1 acc N M hN hM
theorem opS_ok (o : Op) : okS (opS o) = true := by cases o <;> decide +kernel
theorem dat_ok (x : Nd) : D.okd 60 x.dat = true := by
  have hw : okS (Str.ofString "word") = true := by decide +kernel
  have hi : okS (Str.ofString "input") = true := by decide +kernel
  cases x <;> simp [Nd.dat, D.okd, okds, opS_ok, hw, hi]
theorem dats_ok (ns : List Nd) : okds 60 (ns.map Nd.dat) = true := by
  rw [okds_all, List.all_eq_true]
  intro d hd
  obtain ⟨x, _, rfl⟩ := List.mem_map.mp hd
  exact dat_ok x
theorem notin_at {st : Store} {n : Nat} {xs : List D} {x : D} {r : Bool → Prop} (h : rdL st n xs) (hx : D.okd 60 x = true) (hxs : okds 60 xs = true) (q : r (!(xs.any fun y => D.eqb y x))) : notinDC x (.ref n) st r := ⟨xs, .inl h, hx, hxs, q⟩
end Pd
end PartPdNodes

section PartPdk52B
set_option linter.all false
set_option maxRecDepth 100000
namespace Pk52
open PySem Pd
def k_FAULTS : List (Str × D) := [("item", .str "index"), ("field", .str "nothing"), ("div", .str "zero"), ("rem", .str "zero")]
def b_p_declared (c : Cl) : TS := sSeq (sFor (iSeq (dVar 0)) (gName 2) (sIf (tTru (dCmp eqC (dOp ixK (dVar 2) (dC (.int 1))) (dVar 1))) (sRet (dVar 2)) (sNext))) (sRet (dC .non))
def b_p_variables_of (c : Cl) : TS := sSeq (sAsg (dDic) (gName 2)) (sSeq (sFor (iSeq (dOp addK (dB listB (aCons (dOp ixK (dVar 1) (dC (.int 2))) (aNil))) (dB listB (aCons (dOp ixK (dVar 1) (dC (.int 5))) (aNil))))) (gName 3) (sIf (tTru (dCmp eqC (dB lenB (aCons (dVar 3) (aNil))) (dC (.int 3)))) (sAsg (dTup (aCons (dC (.str "array")) (aCons (dOp ixK (dVar 3) (dC (.int 1))) (aCons (dOp ixK (dVar 3) (dC (.int 2))) (aNil))))) (gSubD (dVar 2) (dOp ixK (dVar 3) (dC (.int 0))))) (sIf (tTru (dIsi .str (dOp ixK (dVar 3) (dC (.int 1))))) (sAsg (dTup (aCons (dC (.str "record")) (aCons (dOp ixK (dVar 3) (dC (.int 1))) (aNil)))) (gSubD (dVar 2) (dOp ixK (dVar 3) (dC (.int 0))))) (sAsg (dTup (aCons (dC (.str "word")) (aCons (dOp ixK (dVar 3) (dC (.int 1))) (aNil)))) (gSubD (dVar 2) (dOp ixK (dVar 3) (dC (.int 0)))))))) (sRet (dVar 2)))
def b_p_blocks_of (c : Cl) : TS := sSeq (sIf (tTru (dCmp eqC (dOp ixK (dVar 0) (dC (.int 0))) (dC (.str "if")))) (sRet (dLst (aCons (dOp ixK (dVar 0) (dC (.int 2))) (aCons (dOp ixK (dVar 0) (dC (.int 3))) (aNil))))) (sNext)) (sSeq (sIf (tTru (dCmp eqC (dOp ixK (dVar 0) (dC (.int 0))) (dC (.str "while")))) (sRet (dLst (aCons (dOp ixK (dVar 0) (dC (.int 2))) (aNil)))) (sNext)) (sSeq (sIf (tTru (dCmp eqC (dOp ixK (dVar 0) (dC (.int 0))) (dC (.str "try")))) (sRet (dOp addK (dLst (aCons (dOp ixK (dVar 0) (dC (.int 1))) (aNil))) (dLc (iSeq (dOp ixK (dVar 0) (dC (.int 2)))) (gTup (gsCons (gName 1) (gsCons (gName 2) (gsNil))) 2) (tYes) (dVar 2) [1, 2]))) (sNext)) (sRet (dLst (aNil)))))
def b_p_statements_of (c : Cl) : TS := sSeq (sAsg (dLst (aNil)) (gName 1)) (sSeq (sFor (iSeq (dVar 0)) (gName 2) (sSeq (sExpr (dM tyLst appendM (dVar 1) (aCons (dVar 2) (aNil)))) (sFor (iSeq (dCall c "blocks_of" (aCons (dVar 2) (aNil)))) (gName 3) (sExpr (dM tyLst extendAM (dVar 1) (aCons (dCall c "statements_of" (aCons (dVar 3) (aNil))) (aNil))))))) (sRet (dVar 1)))
def b_p_exprs_of (c : Cl) : TS := sSeq (sAsg (dOp ixK (dVar 0) (dC (.int 0))) (gName 1)) (sSeq (sIf (tTru (dCmp eqC (dVar 1) (dC (.str "let")))) (sRet (dLst (aCons (dOp ixK (dVar 0) (dC (.int 1))) (aCons (dOp ixK (dVar 0) (dC (.int 2))) (aNil))))) (sNext)) (sSeq (sIf (tTru (dCmp eqC (dVar 1) (dC (.str "call")))) (sRet (dB listB (aCons (dOp ixK (dVar 0) (dC (.int 3))) (aNil)))) (sNext)) (sSeq (sIf (tTru (dCmp inC (dVar 1) (dTup (aCons (dC (.str "if")) (aCons (dC (.str "while")) (aCons (dC (.str "return")) (aCons (dC (.str "assert")) (aNil)))))))) (sRet (dLst (aCons (dOp ixK (dVar 0) (dC (.int 1))) (aNil)))) (sNext)) (sRet (dLst (aNil))))))
def b_p_operands_of (c : Cl) : TS := sSeq (sIf (tTru (dCmp inC (dOp ixK (dVar 0) (dC (.int 0))) (dTup (aCons (dC (.str "word")) (aCons (dC (.str "name")) (aCons (dC (.str "field")) (aCons (dC (.str "null")) (aNil)))))))) (sRet (dLst (aNil))) (sNext)) (sSeq (sIf (tTru (dCmp eqC (dOp ixK (dVar 0) (dC (.int 0))) (dC (.str "item")))) (sRet (dLst (aCons (dOp ixK (dVar 0) (dC (.int 2))) (aNil)))) (sNext)) (sSeq (sIf (tTru (dCmp eqC (dOp ixK (dVar 0) (dC (.int 0))) (dC (.str "wide")))) (sRet (dLst (aCons (dOp ixK (dVar 0) (dC (.int 1))) (aNil)))) (sNext)) (sRet (dB listB (aCons (dSl (dVar 0) (oSome (dC (.int 1))) (oNone)) (aNil))))))
def b_p_expr_looks (c : Cl) : TS := sSeq (sAsg (dLst (aNil)) (gName 1)) (sSeq (sFor (iSeq (dCall c "operands_of" (aCons (dVar 0) (aNil)))) (gName 2) (sExpr (dM tyLst extendAM (dVar 1) (aCons (dCall c "expr_looks" (aCons (dVar 2) (aNil))) (aNil))))) (sSeq (sIf (tTru (dUn (inGK k_FAULTS) (dOp ixK (dVar 0) (dC (.int 0))))) (sExpr (dM tyLst appendM (dVar 1) (aCons (dVar 0) (aNil)))) (sNext)) (sRet (dVar 1))))
def b_p_statement_looks (c : Cl) : TS := sSeq (sAsg (dLst (aNil)) (gName 1)) (sSeq (sFor (iSeq (dCall c "exprs_of" (aCons (dVar 0) (aNil)))) (gName 2) (sExpr (dM tyLst extendAM (dVar 1) (aCons (dCall c "expr_looks" (aCons (dVar 2) (aNil))) (aNil))))) (sRet (dVar 1)))
def b_p_greatest (c : Cl) : TS := sRet (dOp subK (dOp shlK (dC (.int 1)) (dVar 0)) (dC (.int 1)))
def b_p_related (c : Cl) : TS := sSeq (sIf (tTru (dCmp eqC (dVar 0) (dC (.str "==")))) (sRet (dB intB (aCons (dCmp eqC (dVar 1) (dVar 2)) (aNil)))) (sNext)) (sSeq (sIf (tTru (dCmp eqC (dVar 0) (dC (.str "!=")))) (sRet (dB intB (aCons (dCmp neC (dVar 1) (dVar 2)) (aNil)))) (sNext)) (sSeq (sIf (tTru (dCmp eqC (dVar 0) (dC (.str "<")))) (sRet (dB intB (aCons (dCmp ltC (dVar 1) (dVar 2)) (aNil)))) (sNext)) (sRet (dB intB (aCons (dCmp leC (dVar 1) (dVar 2)) (aNil))))))
def b_p_shifted (c : Cl) : TS := sSeq (sIf (tTru (dCmp geC (dVar 3) (dVar 1))) (sRet (dC (.int 0))) (sNext)) (sSeq (sIf (tTru (dCmp eqC (dVar 0) (dC (.str "<<")))) (sRet (dOp andK (dOp shlK (dVar 2) (dVar 3)) (dCall c "greatest" (aCons (dVar 1) (aNil))))) (sNext)) (sRet (dOp shrK (dVar 2) (dVar 3))))
def b_p_divided (c : Cl) : TS := sSeq (sIf (tTru (dCmp eqC (dVar 2) (dC (.int 0)))) (sRet (dC (.int 0))) (sNext)) (sSeq (sIf (tTru (dCmp eqC (dVar 0) (dC (.str "div")))) (sRet (dOp fdivK (dVar 1) (dVar 2))) (sNext)) (sRet (dOp subK (dVar 1) (dOp mulK (dVar 2) (dOp fdivK (dVar 1) (dVar 2))))))
def b_p_reckoned (c : Cl) : TS := sSeq (sIf (tTru (dCmp eqC (dVar 0) (dC (.str "+")))) (sRet (dOp addK (dVar 1) (dVar 2))) (sNext)) (sSeq (sIf (tTru (dCmp eqC (dVar 0) (dC (.str "-")))) (sRet (dOp subK (dVar 1) (dVar 2))) (sNext)) (sSeq (sIf (tTru (dCmp eqC (dVar 0) (dC (.str "*")))) (sRet (dOp mulK (dVar 1) (dVar 2))) (sNext)) (sSeq (sIf (tTru (dCmp eqC (dVar 0) (dC (.str "&")))) (sRet (dOp andK (dVar 1) (dVar 2))) (sNext)) (sSeq (sIf (tTru (dCmp eqC (dVar 0) (dC (.str "|")))) (sRet (dOp orK (dVar 1) (dVar 2))) (sNext)) (sRet (dOp xorK (dVar 1) (dVar 2)))))))
def b_p_result (c : Cl) : TS := sSeq (sAsg (dOp ixK (dVar 2) (dC (.int 0))) (gName 3)) (sSeq (sIf (tTru (dCmp eqC (dVar 0) (dC (.str "not")))) (sRet (dOp subK (dCall c "greatest" (aCons (dVar 1) (aNil))) (dVar 3))) (sNext)) (sSeq (sIf (tTru (dCmp eqC (dVar 0) (dC (.str "neg")))) (sRet (dOp andK (dUn negK (dVar 3)) (dCall c "greatest" (aCons (dVar 1) (aNil))))) (sNext)) (sSeq (sIf (tTru (dCmp eqC (dVar 0) (dC (.str "wide")))) (sRet (dOp andK (dVar 3) (dCall c "greatest" (aCons (dVar 1) (aNil))))) (sNext)) (sSeq (sIf (tTru (dCmp eqC (dVar 0) (dC (.str "pick")))) (sRet (dIf (tTru (dCmp eqC (dVar 3) (dC (.int 1)))) (dOp ixK (dVar 2) (dC (.int 1))) (dOp ixK (dVar 2) (dC (.int 2))))) (sNext)) (sSeq (sAsg (dOp ixK (dVar 2) (dC (.int 1))) (gName 4)) (sSeq (sIf (tTru (dCmp inC (dVar 0) (dTup (aCons (dC (.str "==")) (aCons (dC (.str "!=")) (aCons (dC (.str "<")) (aCons (dC (.str "<=")) (aNil)))))))) (sRet (dCall c "related" (aCons (dVar 0) (aCons (dVar 3) (aCons (dVar 4) (aNil)))))) (sNext)) (sSeq (sIf (tTru (dCmp inC (dVar 0) (dTup (aCons (dC (.str "<<")) (aCons (dC (.str ">>")) (aNil)))))) (sRet (dCall c "shifted" (aCons (dVar 0) (aCons (dVar 1) (aCons (dVar 3) (aCons (dVar 4) (aNil))))))) (sNext)) (sSeq (sIf (tTru (dCmp inC (dVar 0) (dTup (aCons (dC (.str "div")) (aCons (dC (.str "rem")) (aNil)))))) (sRet (dCall c "divided" (aCons (dVar 0) (aCons (dVar 3) (aCons (dVar 4) (aNil)))))) (sNext)) (sRet (dOp andK (dCall c "reckoned" (aCons (dVar 0) (aCons (dVar 3) (aCons (dVar 4) (aNil))))) (dCall c "greatest" (aCons (dVar 1) (aNil)))))))))))))
def b_p_counting_loops (c : Cl) : TS := sSeq (sAsg (dCall c "declared" (aCons (dVar 0) (aCons (dVar 1) (aNil)))) (gName 2)) (sSeq (sAsg (dCall c "variables_of" (aCons (dVar 0) (aCons (dVar 2) (aNil)))) (gName 3)) (sSeq (sAsg (dLst (aNil)) (gName 4)) (sSeq (sAsg (dC (.int 0)) (gName 5)) (sSeq (sFor (iSeq (dCall c "statements_of" (aCons (dOp ixK (dVar 2) (dC (.int 6))) (aNil)))) (gName 6) (sSeq (sAug 5 iaddK (dB lenB (aCons (dCall c "statement_looks" (aCons (dVar 6) (aNil))) (aNil)))) (sIf (tTru (dCmp inC (dOp ixK (dVar 6) (dC (.int 0))) (dTup (aCons (dC (.str "if")) (aCons (dC (.str "while")) (aCons (dC (.str "assert")) (aNil))))))) (sSeq (sIf (tTru (dCmp eqC (dOp ixK (dVar 6) (dC (.int 0))) (dC (.str "while")))) (sSeq (sAsg (dCall c "shape_of" (aCons (dVar 3) (aCons (dVar 6) (aCons (dVar 5) (aNil))))) (gName 7)) (sIf (tTru (dCmp isntC (dVar 7) (dC .non))) (sExpr (dM tyLst appendM (dVar 4) (aCons (dVar 7) (aNil)))) (sNext))) (sNext)) (sAug 5 iaddK (dC (.int 1)))) (sNext)))) (sRet (dB tupleB (aCons (dVar 4) (aNil))))))))
def b_p_shape_of (c : Cl) : TS := sSeq (sAsg (dOp ixK (dVar 1) (dC (.int 1))) (gName 3)) (sSeq (sIf (tOr (tTru (dCmp notinC (dOp ixK (dVar 3) (dC (.int 0))) (dTup (aCons (dC (.str "<")) (aCons (dC (.str "<=")) (aCons (dC (.str "!=")) (aNil))))))) (tOr (tTru (dCmp neC (dOp ixK (dOp ixK (dVar 3) (dC (.int 1))) (dC (.int 0))) (dC (.str "name")))) (tTru (dCmp notinC (dOp ixK (dOp ixK (dVar 3) (dC (.int 2))) (dC (.int 0))) (dTup (aCons (dC (.str "word")) (aCons (dC (.str "name")) (aNil)))))))) (sRet (dC .non)) (sNext)) (sSeq (sAsg (dLst (aNil)) (gName 4)) (sSeq (sFor (iSeq (dOp ixK (dVar 1) (dC (.int 2)))) (gName 5) (sSeq (sAsg (dCall c "change_of" (aCons (dVar 0) (aCons (dVar 5) (aNil)))) (gName 6)) (sSeq (sIf (tOr (tTru (dCmp isC (dVar 6) (dC .non))) (tTru (dCmp inC (dOp ixK (dVar 6) (dC (.int 0))) (dLc (iSeq (dVar 4)) (gName 8) (tYes) (dOp ixK (dVar 8) (dC (.int 0))) [8])))) (sRet (dC .non)) (sNext)) (sExpr (dM tyLst appendM (dVar 4) (aCons (dVar 6) (aNil))))))) (sSeq (sAsg (dLc (iSeq (dVar 4)) (gName 6) (tYes) (dOp ixK (dVar 6) (dC (.int 0))) [6]) (gName 7)) (sSeq (sIf (tOr (tTru (dCmp notinC (dOp ixK (dOp ixK (dVar 3) (dC (.int 1))) (dC (.int 1))) (dVar 7))) (tAnd (tTru (dCmp eqC (dOp ixK (dOp ixK (dVar 3) (dC (.int 2))) (dC (.int 0))) (dC (.str "name")))) (tTru (dCmp inC (dOp ixK (dOp ixK (dVar 3) (dC (.int 2))) (dC (.int 1))) (dVar 7))))) (sRet (dC .non)) (sNext)) (sRet (dTup (aCons (dC (.str "counting")) (aCons (dVar 2) (aCons (dOp ixK (dOp ixK (dVar 3) (dC (.int 1))) (dC (.int 1))) (aCons (dOp ixK (dVar 3) (dC (.int 0))) (aCons (dOp ixK (dVar 3) (dC (.int 2))) (aCons (dB tupleB (aCons (dVar 4) (aNil))) (aNil))))))))))))))
def b_p_change_of (c : Cl) : TS := sSeq (sIf (tOr (tTru (dCmp neC (dOp ixK (dVar 1) (dC (.int 0))) (dC (.str "let")))) (tOr (tTru (dCmp neC (dOp ixK (dOp ixK (dVar 1) (dC (.int 1))) (dC (.int 0))) (dC (.str "name")))) (tTru (dCmp notinC (dOp ixK (dOp ixK (dVar 1) (dC (.int 2))) (dC (.int 0))) (dTup (aCons (dC (.str "+")) (aCons (dC (.str "-")) (aNil)))))))) (sRet (dC .non)) (sNext)) (sSeq (sIf (tOr (tTru (dCmp neC (dOp ixK (dOp ixK (dVar 1) (dC (.int 2))) (dC (.int 1))) (dOp ixK (dVar 1) (dC (.int 1))))) (tOr (tTru (dCmp neC (dOp ixK (dOp ixK (dOp ixK (dVar 1) (dC (.int 2))) (dC (.int 2))) (dC (.int 0))) (dC (.str "word")))) (tTru (dCmp neC (dOp ixK (dGetA (dVar 0) (dOp ixK (dOp ixK (dVar 1) (dC (.int 1))) (dC (.int 1)))) (dC (.int 0))) (dC (.str "word")))))) (sRet (dC .non)) (sNext)) (sSeq (sPar 2 3 (aCons (dOp ixK (dOp ixK (dOp ixK (dVar 1) (dC (.int 2))) (dC (.int 2))) (dC (.int 1))) (aCons (dOp ixK (dOp ixK (dOp ixK (dVar 1) (dC (.int 2))) (dC (.int 2))) (dC (.int 2))) (aNil)))) (sRet (dTup (aCons (dOp ixK (dOp ixK (dVar 1) (dC (.int 1))) (dC (.int 1))) (aCons (dVar 3) (aCons (dIf (tTru (dCmp eqC (dOp ixK (dOp ixK (dVar 1) (dC (.int 2))) (dC (.int 0))) (dC (.str "+")))) (dVar 2) (dCallS c "result" 2 (aCons (dC (.str "neg")) (aCons (dVar 3) (aCons (dVar 2) (aNil)))))) (aNil))))))))
def b_l_begin (c : Cl) : TS := sRet (dLst (aCons (dLc (iSeq (dVar 0)) (gName 1) (tYes) (dB intB (aCons (dVar 1) (aNil))) [1]) (aCons (dC (.int 0)) (aCons (dC (.int 0)) (aCons (dC (.int 7)) (aCons (dC (.int 2)) (aNil)))))))
def b_l_draw (c : Cl) : TS := sSeq (sIf (tTru (dCmp gtC (dOp ixK (dVar 0) (dC (.int 2))) (dC (.int 0)))) (sSeq (sAsg (dOp ixK (dVar 0) (dC (.int 2))) (gName 2)) (sSeq (sAsg (dOp fdivK (dVar 2) (dVar 1)) (gSub (dVar 0) (dC (.int 2)))) (sRet (dOp modK (dB intB (aCons (dVar 2) (aNil))) (dVar 1))))) (sNext)) (sSeq (sAsg (dC (.int 0)) (gName 3)) (sSeq (sIf (tTru (dCmp ltC (dOp ixK (dVar 0) (dC (.int 1))) (dB lenB (aCons (dOp ixK (dVar 0) (dC (.int 0))) (aNil))))) (sSeq (sAsg (dOp ixK (dOp ixK (dVar 0) (dC (.int 0))) (dOp ixK (dVar 0) (dC (.int 1)))) (gName 4)) (sAsg (dOp addK (dOp mulK (dC (.int 2)) (dB absB (aCons (dVar 4) (aNil)))) (dB intB (aCons (dCmp ltC (dVar 4) (dC (.int 0))) (aNil)))) (gName 3))) (sNext)) (sSeq (sAugL iaddK (dVar 0) (dC (.int 1)) (dC (.int 1))) (sSeq (sIf (tTru (dCmp geC (dVar 3) (dOp mulK (dC (.int 2)) (dOp powK (dC (.int 10)) (dC (.int 18)))))) (sSeq (sAsg (dOp modK (dB intB (aCons (dOp fdivK (dVar 3) (dC (.int 2))) (aNil))) (dOp shlK (dC (.int 1)) (dC (.int 6000)))) (gName 2)) (sSeq (sAsg (dOp fdivK (dVar 2) (dVar 1)) (gSub (dVar 0) (dC (.int 2)))) (sRet (dOp modK (dB intB (aCons (dVar 2) (aNil))) (dVar 1))))) (sNext)) (sSeq (sAsg (dOp modK (dB intB (aCons (dOp addK (dOp addK (dOp addK (dOp mulK (dOp ixK (dVar 0) (dC (.int 3))) (dC (.int 48271))) (dOp mulK (dOp modK (dB intB (aCons (dVar 3) (aNil))) (dC (.int 2147483629))) (dC (.int 16807)))) (dOp mulK (dOp ixK (dVar 0) (dC (.int 1))) (dC (.int 69621)))) (dC (.int 11))) (aNil))) (dC (.int 2147483647))) (gSub (dVar 0) (dC (.int 3)))) (sRet (dOp modK (dB intB (aCons (dOp fdivK (dOp ixK (dVar 0) (dC (.int 3))) (dC (.int 16))) (aNil))) (dVar 1))))))))
def b_l_pick (c : Cl) : TS := sRet (dOp ixK (dVar 1) (dCall c "_law_draw" (aCons (dVar 0) (aCons (dB lenB (aCons (dVar 1) (aNil))) (aNil)))))
def b_l_pop (c : Cl) : TS := sRet (dM tyLst popM (dVar 1) (aCons (dCall c "_law_draw" (aCons (dVar 0) (aCons (dB lenB (aCons (dVar 1) (aNil))) (aNil)))) (aNil)))
def b_l_shuffled (c : Cl) : TS := sSeq (sAsg (dB listB (aCons (dVar 1) (aNil))) (gName 2)) (sSeq (sAsg (dLst (aNil)) (gName 3)) (sSeq (sFor (iR1 (dB lenB (aCons (dVar 2) (aNil)))) (gName 4) (sExpr (dM tyLst appendM (dVar 3) (aCons (dM tyLst popM (dVar 2) (aCons (dCall c "_law_draw" (aCons (dVar 0) (aCons (dB lenB (aCons (dVar 2) (aNil))) (aNil)))) (aNil))) (aNil))))) (sRet (dVar 3))))
def b_l_pool (c : Cl) : TS := sSeq (sAsg (dC (.str "a b2 sum left r k0 kind z9z full tail n m8 aa busy cnt p t4 even2 ab1 head u v2 w lowest high mid mark ")) (gName 0)) (sSeq (sAsg (dOp addK (dVar 0) (dC (.str "s t e f g h i j k x y q7 deep turn gate l5 hold next1 o c0 d two zz1 near far9 last ring2 index "))) (gName 0)) (sRet (dM tyStr splitM (dOp addK (dVar 0) (dC (.str "aaaaaaa8 b c1 top2 net3 row col7 v claim zero result1 duty go"))) (aCons (dC (.str " ")) (aNil)))))
def b_l_is_int (c : Cl) : TS := sRet (dAndT (dIsi .int (dVar 0)) (dNotT (dIsi .bool (dVar 0))))
def b_l_w_count (c : Cl) : TS := sSeq (sIf (tOr (tNot (tTru (dIsi .tuple (dVar 0)))) (tTru (dCmp eqC (dB lenB (aCons (dVar 0) (aNil))) (dC (.int 0))))) (sRet (dC (.int 0))) (sNext)) (sSeq (sAsg (dB sumB (aCons (dLc (iSeq (dVar 0)) (gName 2) (tYes) (dCall c "_law_w_count" (aCons (dVar 2) (aNil))) [2]) (aNil))) (gName 1)) (sRet (dOp addK (dVar 1) (dB intB (aCons (dCmp inDC (dOp ixK (dVar 0) (dC (.int 0))) (dTup (aCons (dC (.str "item")) (aCons (dC (.str "div")) (aCons (dC (.str "rem")) (aCons (dC (.str "if")) (aCons (dC (.str "while")) (aCons (dC (.str "assert")) (aNil))))))))) (aNil))))))
def b_l_w_plan (c : Cl) : TS := sSeq (sAsg (dLst (aNil)) (gName 2)) (sSeq (sFor (iSeq (dVar 0)) (gName 3) (sSeq (sAsg (dIf (tTru (dCmp inC (dOp ixK (dVar 3) (dC (.int 0))) (dTup (aCons (dC (.str "if")) (aCons (dC (.str "while")) (aNil)))))) (dSl (dVar 3) (oSome (dC (.int 2))) (oNone)) (dTup (aNil))) (gName 4)) (sSeq (sIf (tTru (dCmp eqC (dOp ixK (dVar 3) (dC (.int 0))) (dC (.str "try")))) (sAsg (dOp addK (dTup (aCons (dOp ixK (dVar 3) (dC (.int 1))) (aNil))) (dB tupleB (aCons (dLc (iSeq (dOp ixK (dVar 3) (dC (.int 2)))) (gName 9) (tYes) (dOp ixK (dVar 9) (dC (.int 1))) [9]) (aNil)))) (gName 4)) (sNext)) (sSeq (sAsg (dVar 1) (gName 5)) (sSeq (sAug 1 iaddK (dOp subK (dCall c "_law_w_count" (aCons (dVar 3) (aNil))) (dB sumB (aCons (dLc (iSeq (dVar 4)) (gName 7) (tYes) (dCall c "_law_w_count" (aCons (dVar 7) (aNil))) [7]) (aNil))))) (sSeq (sAsg (dLst (aNil)) (gName 6)) (sSeq (sFor (iSeq (dVar 4)) (gName 7) (sSeq (sAsg (dCall c "_law_w_plan" (aCons (dVar 7) (aCons (dVar 1) (aNil)))) (gTup (gsCons (gName 8) (gsCons (gName 1) (gsNil))) 2)) (sExpr (dM tyLst appendM (dVar 6) (aCons (dVar 8) (aNil)))))) (sExpr (dM tyLst appendM (dVar 2) (aCons (dTup (aCons (dVar 3) (aCons (dVar 5) (aCons (dVar 6) (aNil))))) (aNil))))))))))) (sRet (dTup (aCons (dVar 2) (aCons (dVar 1) (aNil))))))
def b_l_w_same (c : Cl) : TS := sSeq (sIf (tTru (dIsi .tuple (dVar 1))) (sSeq (sIf (tOr (tNot (tTru (dIsi .tuple (dVar 0)))) (tTru (dCmp neC (dB lenB (aCons (dVar 0) (aNil))) (dB lenB (aCons (dVar 1) (aNil)))))) (sRet (dC (.bl false))) (sNext)) (sRet (dB allB (aCons (dLc (iR1 (dB lenB (aCons (dVar 1) (aNil)))) (gName 2) (tYes) (dCall c "_law_w_same" (aCons (dOp ixK (dVar 0) (dVar 2)) (aCons (dOp ixK (dVar 1) (dVar 2)) (aNil)))) [2]) (aNil))))) (sNext)) (sSeq (sIf (tTru (dCmp isC (dVar 1) (dC .non))) (sRet (dCmp isC (dVar 0) (dC .non))) (sNext)) (sSeq (sIf (tTru (dIsi .str (dVar 1))) (sRet (dAndT (dIsi .str (dVar 0)) (dCmp eqC (dVar 0) (dVar 1)))) (sNext)) (sRet (dAndT (dCall c "_law_is_int" (aCons (dVar 0) (aNil))) (dCmp eqC (dVar 0) (dVar 1))))))
def b_l_surroundings (c : Cl) : TS := sSeq (sAsg (dLst (aCons (dOp addK (dC (.int 1)) (dCall c "_law_draw" (aCons (dVar 0) (aCons (dC (.int 8)) (aNil))))) (aCons (dOp addK (dC (.int 1)) (dCall c "_law_draw" (aCons (dVar 0) (aCons (dC (.int 8)) (aNil))))) (aNil)))) (gName 3)) (sSeq (sAsg (dLc (iR1 (dC (.int 2))) (gName 7) (tYes) (dTup (aCons (dOp ixK (dVar 3) (dVar 7)) (aCons (dLc (iR1 (dOp subK (dC (.int 4)) (dVar 7))) (gName 8) (tYes) (dCall c "_law_pop" (aCons (dVar 0) (aCons (dVar 1) (aNil)))) [8]) (aNil)))) [7]) (gName 4)) (sSeq (sAsg (dTup (aCons (dCall c "_law_pop" (aCons (dVar 0) (aCons (dVar 1) (aNil)))) (aCons (dOp ixK (dVar 3) (dC (.int 0))) (aCons (dOp addK (dC (.int 1)) (dCall c "_law_draw" (aCons (dVar 0) (aCons (dC (.int 8)) (aNil))))) (aNil))))) (gName 5)) (sSeq (sAsg (dLst (aCons (dCall c "_law_pop" (aCons (dVar 0) (aCons (dVar 1) (aNil)))) (aCons (dCall c "_law_pop" (aCons (dVar 0) (aCons (dVar 1) (aNil)))) (aNil)))) (gName 6)) (sRet (dLst (aCons (dVar 4) (aCons (dVar 5) (aCons (dVar 6) (aCons (dCall c "_law_pop" (aCons (dVar 0) (aCons (dVar 1) (aNil)))) (aCons (dVar 2) (aCons (dOp addK (dC (.int 1)) (dCall c "_law_draw" (aCons (dVar 0) (aCons (dC (.int 8)) (aNil))))) (aNil))))))))))))
def b_l_index (c : Cl) : TS := sSeq (sAsg (dOp addK (dC (.int 1)) (dCall c "_law_draw" (aCons (dVar 0) (aCons (dC (.int 3)) (aNil))))) (gName 1)) (sRet (dTup (aCons (dC (.str "word")) (aCons (dCall c "_law_draw" (aCons (dVar 0) (aCons (dOp shlK (dC (.int 1)) (dVar 1)) (aNil)))) (aCons (dVar 1) (aNil))))))
def b_l_some_test (c : Cl) : TS := sSeq (sAsg (dCall c "_law_pick" (aCons (dVar 0) (aCons (dOp ixK (dVar 1) (dC (.int 0))) (aNil)))) (gTup (gsCons (gName 2) (gsCons (gName 3) (gsNil))) 2)) (sSeq (sAsg (dTup (aCons (dC (.str "name")) (aCons (dCall c "_law_pick" (aCons (dVar 0) (aCons (dVar 3) (aNil)))) (aNil)))) (gName 4)) (sSeq (sAsg (dTup (aCons (dC (.str "word")) (aCons (dCall c "_law_draw" (aCons (dVar 0) (aCons (dOp shlK (dC (.int 1)) (dVar 2)) (aNil)))) (aCons (dVar 2) (aNil))))) (gName 5)) (sSeq (sIf (tTru (dCmp eqC (dCall c "_law_draw" (aCons (dVar 0) (aCons (dC (.int 3)) (aNil)))) (dC (.int 0)))) (sAsg (dTup (aCons (dCall c "_law_pick" (aCons (dVar 0) (aCons (dLst (aCons (dC (.str "div")) (aCons (dC (.str "rem")) (aNil)))) (aNil)))) (aCons (dVar 4) (aCons (dVar 5) (aNil))))) (gName 4)) (sNext)) (sRet (dTup (aCons (dCall c "_law_pick" (aCons (dVar 0) (aCons (dLst (aCons (dC (.str "==")) (aCons (dC (.str "<")) (aCons (dC (.str "<=")) (aCons (dC (.str "!=")) (aNil)))))) (aNil)))) (aCons (dVar 4) (aCons (dVar 5) (aNil)))))))))
def b_l_add (c : Cl) : TS := sRet (dTup (aCons (dC (.str "let")) (aCons (dTup (aCons (dC (.str "name")) (aCons (dVar 0) (aNil)))) (aCons (dTup (aCons (dVar 1) (aCons (dTup (aCons (dC (.str "name")) (aCons (dVar 0) (aNil)))) (aCons (dTup (aCons (dC (.str "word")) (aCons (dVar 2) (aCons (dVar 3) (aNil))))) (aNil))))) (aNil)))))
def b_l_item_row (c : Cl) : TS := sSeq (sAsg (dTup (aCons (dC (.str "item")) (aCons (dOp ixK (dOp ixK (dVar 1) (dC (.int 1))) (dC (.int 0))) (aCons (dCall c "_law_index" (aCons (dVar 0) (aNil))) (aNil))))) (gName 2)) (sRet (dTup (aCons (dC (.str "let")) (aCons (dVar 2) (aCons (dTup (aCons (dC (.str "+")) (aCons (dVar 2) (aCons (dTup (aCons (dC (.str "word")) (aCons (dCall c "_law_draw" (aCons (dVar 0) (aCons (dOp shlK (dC (.int 1)) (dOp ixK (dOp ixK (dVar 1) (dC (.int 1))) (dC (.int 1)))) (aNil)))) (aCons (dOp ixK (dOp ixK (dVar 1) (dC (.int 1))) (dC (.int 1))) (aNil))))) (aNil))))) (aNil))))))
def b_l_other_row (c : Cl) : TS := sSeq (sAsg (dCall c "_law_draw" (aCons (dVar 0) (aCons (dC (.int 8)) (aNil)))) (gName 2)) (sSeq (sIf (tTru (dCmp eqC (dVar 2) (dC (.int 0)))) (sRet (dTup (aCons (dC (.str "assert")) (aCons (dCall c "_law_some_test" (aCons (dVar 0) (aCons (dVar 1) (aNil)))) (aNil))))) (sNext)) (sSeq (sIf (tTru (dCmp eqC (dVar 2) (dC (.int 1)))) (sRet (dTup (aCons (dC (.str "if")) (aCons (dCall c "_law_some_test" (aCons (dVar 0) (aCons (dVar 1) (aNil)))) (aCons (dTup (aNil)) (aCons (dTup (aNil)) (aNil))))))) (sNext)) (sSeq (sIf (tTru (dCmp eqC (dVar 2) (dC (.int 2)))) (sRet (dTup (aCons (dC (.str "raise")) (aCons (dOp ixK (dVar 1) (dC (.int 3))) (aNil))))) (sNext)) (sSeq (sIf (tTru (dCmp eqC (dVar 2) (dC (.int 3)))) (sRet (dTup (aCons (dC (.str "return")) (aCons (dTup (aCons (dC (.str "word")) (aCons (dCall c "_law_draw" (aCons (dVar 0) (aCons (dOp shlK (dC (.int 1)) (dOp ixK (dVar 1) (dC (.int 5)))) (aNil)))) (aCons (dOp ixK (dVar 1) (dC (.int 5))) (aNil))))) (aNil))))) (sNext)) (sSeq (sIf (tTru (dCmp eqC (dVar 2) (dC (.int 4)))) (sRet (dTup (aCons (dC (.str "make")) (aCons (dOp ixK (dOp ixK (dVar 1) (dC (.int 2))) (dC (.int 0))) (aCons (dOp ixK (dVar 1) (dC (.int 4))) (aNil)))))) (sNext)) (sSeq (sIf (tTru (dCmp eqC (dVar 2) (dC (.int 5)))) (sRet (dTup (aCons (dC (.str "let")) (aCons (dTup (aCons (dC (.str "name")) (aCons (dOp ixK (dOp ixK (dVar 1) (dC (.int 2))) (dC (.int 1))) (aNil)))) (aCons (dIf (tTru (dCall c "_law_draw" (aCons (dVar 0) (aCons (dC (.int 2)) (aNil))))) (dTup (aCons (dC (.str "name")) (aCons (dOp ixK (dOp ixK (dVar 1) (dC (.int 2))) (dC (.int 0))) (aNil)))) (dTup (aCons (dC (.str "null")) (aNil)))) (aNil)))))) (sNext)) (sSeq (sIf (tTru (dCmp eqC (dVar 2) (dC (.int 6)))) (sRet (dTup (aCons (dC (.str "try")) (aCons (dTup (aNil)) (aCons (dTup (aCons (dTup (aCons (dOp ixK (dVar 1) (dC (.int 3))) (aCons (dTup (aNil)) (aNil)))) (aNil))) (aNil)))))) (sNext)) (sRet (dCall c "_law_item_row" (aCons (dVar 0) (aCons (dVar 1) (aNil))))))))))))
def b_l_h_changed (c : Cl) : TS := sSeq (sAsg (dLc (iSeq (dSl (dVar 3) (oSome (dC (.int 2))) (oNone))) (gName 8) (tYes) (dTup (aCons (dVar 8) (aCons (dOp ixK (dVar 2) (dC (.int 0))) (aNil)))) [8]) (gName 5)) (sSeq (sIf (tTru (dCmp eqC (dOp ixK (dVar 4) (dC (.int 0))) (dC (.str "word")))) (sExpr (dM tyLst appendM (dVar 5) (aCons (dTup (aCons (dOp ixK (dVar 3) (dC (.int 1))) (aCons (dOp ixK (dVar 2) (dC (.int 0))) (aNil)))) (aNil)))) (sNext)) (sSeq (sFor (iSeq (dOp ixK (dVar 1) (dC (.int 0)))) (gName 6) (sIf (tTru (dCmp neC (dOp ixK (dVar 6) (dC (.int 1))) (dOp ixK (dVar 2) (dC (.int 1))))) (sExpr (dM tyLst extendAM (dVar 5) (aCons (dLc (iSeq (dOp ixK (dVar 6) (dC (.int 1)))) (gName 8) (tYes) (dTup (aCons (dVar 8) (aCons (dOp ixK (dVar 6) (dC (.int 0))) (aNil)))) [8]) (aNil)))) (sNext))) (sSeq (sAsg (dSl (dCall c "_law_shuffled" (aCons (dVar 0) (aCons (dVar 5) (aNil)))) (oNone) (oSome (dCall c "_law_draw" (aCons (dVar 0) (aCons (dC (.int 3)) (aNil)))))) (gName 7)) (sRet (dCall c "_law_shuffled" (aCons (dVar 0) (aCons (dOp addK (dVar 7) (dLst (aCons (dTup (aCons (dOp ixK (dVar 3) (dC (.int 0))) (aCons (dOp ixK (dVar 2) (dC (.int 0))) (aNil)))) (aNil)))) (aNil))))))))
def b_l_h_loop (c : Cl) : TS := sSeq (sAsg (dCall c "_law_pick" (aCons (dVar 0) (aCons (dOp ixK (dVar 1) (dC (.int 0))) (aNil)))) (gName 2)) (sSeq (sAsg (dCall c "_law_shuffled" (aCons (dVar 0) (aCons (dOp ixK (dVar 2) (dC (.int 1))) (aNil)))) (gName 3)) (sSeq (sAsg (dTup (aCons (dC (.str "name")) (aCons (dOp ixK (dVar 3) (dC (.int 1))) (aNil)))) (gName 4)) (sSeq (sIf (tTru (dCall c "_law_draw" (aCons (dVar 0) (aCons (dC (.int 2)) (aNil))))) (sAsg (dTup (aCons (dC (.str "word")) (aCons (dCall c "_law_draw" (aCons (dVar 0) (aCons (dOp shlK (dC (.int 1)) (dOp ixK (dVar 2) (dC (.int 0)))) (aNil)))) (aCons (dOp ixK (dVar 2) (dC (.int 0))) (aNil))))) (gName 4)) (sNext)) (sSeq (sAsg (dLst (aNil)) (gName 5)) (sSeq (sAsg (dLst (aNil)) (gName 6)) (sSeq (sFor (iSeq (dCall c "_law_h_changed" (aCons (dVar 0) (aCons (dVar 1) (aCons (dVar 2) (aCons (dVar 3) (aCons (dVar 4) (aNil)))))))) (gTup (gsCons (gName 7) (gsCons (gName 8) (gsNil))) 2) (sSeq (sAsg (dOp subK (dOp shlK (dC (.int 1)) (dVar 8)) (dC (.int 1))) (gName 9)) (sSeq (sAsg (dCall c "_law_pick" (aCons (dVar 0) (aCons (dLst (aCons (dC (.str "+")) (aCons (dC (.str "-")) (aNil)))) (aNil)))) (gName 10)) (sSeq (sAsg (dIf (tTru (dCall c "_law_draw" (aCons (dVar 0) (aCons (dC (.int 2)) (aNil))))) (dOp ixK (dLst (aCons (dC (.int 0)) (aCons (dC (.int 1)) (aCons (dVar 9) (aNil))))) (dCall c "_law_draw" (aCons (dVar 0) (aCons (dC (.int 3)) (aNil))))) (dCall c "_law_draw" (aCons (dVar 0) (aCons (dOp shlK (dC (.int 1)) (dVar 8)) (aNil))))) (gName 11)) (sSeq (sExpr (dM tyLst appendM (dVar 5) (aCons (dCall c "_law_add" (aCons (dVar 7) (aCons (dVar 10) (aCons (dVar 11) (aCons (dVar 8) (aNil)))))) (aNil)))) (sExpr (dM tyLst appendM (dVar 6) (aCons (dTup (aCons (dVar 7) (aCons (dVar 8) (aCons (dIf (tTru (dCmp eqC (dVar 10) (dC (.str "+")))) (dVar 11) (dOp andK (dUn negK (dVar 11)) (dVar 9))) (aNil))))) (aNil))))))))) (sSeq (sAsg (dCall c "_law_pick" (aCons (dVar 0) (aCons (dLst (aCons (dC (.str "<")) (aCons (dC (.str "<=")) (aCons (dC (.str "!=")) (aNil))))) (aNil)))) (gName 12)) (sSeq (sAsg (dTup (aCons (dVar 12) (aCons (dTup (aCons (dC (.str "name")) (aCons (dOp ixK (dVar 3) (dC (.int 0))) (aNil)))) (aCons (dVar 4) (aNil))))) (gName 13)) (sSeq (sAsg (dCall c "_law_draw" (aCons (dVar 0) (aCons (dC (.int 4)) (aNil)))) (gName 14)) (sSeq (sIf (tTru (dCmp ltC (dVar 14) (dC (.int 2)))) (sRet (dTup (aCons (dTup (aCons (dC (.str "while")) (aCons (dVar 13) (aCons (dB tupleB (aCons (dVar 5) (aNil))) (aNil))))) (aCons (dTup (aCons (dOp ixK (dVar 3) (dC (.int 0))) (aCons (dVar 12) (aCons (dVar 4) (aCons (dB tupleB (aCons (dVar 6) (aNil))) (aNil)))))) (aNil))))) (sNext)) (sSeq (sIf (tTru (dCmp eqC (dVar 14) (dC (.int 2)))) (sRet (dTup (aCons (dTup (aCons (dC (.str "while")) (aCons (dCall c "_law_bad_test" (aCons (dVar 0) (aCons (dVar 1) (aCons (dOp ixK (dVar 2) (dC (.int 0))) (aCons (dVar 13) (aNil)))))) (aCons (dB tupleB (aCons (dVar 5) (aNil))) (aNil))))) (aCons (dC .non) (aNil))))) (sNext)) (sRet (dTup (aCons (dTup (aCons (dC (.str "while")) (aCons (dVar 13) (aCons (dB tupleB (aCons (dCall c "_law_bad_block" (aCons (dVar 0) (aCons (dVar 1) (aCons (dVar 13) (aCons (dVar 5) (aNil)))))) (aNil))) (aNil))))) (aCons (dC .non) (aNil))))))))))))))))
def b_l_bad_test (c : Cl) : TS := sSeq (sAsg (dVar 3) (gTup (gsCons (gName 4) (gsCons (gName 5) (gsCons (gName 6) (gsNil)))) 3)) (sSeq (sAsg (dCall c "_law_draw" (aCons (dVar 0) (aCons (dC (.int 13)) (aNil)))) (gName 7)) (sSeq (sIf (tTru (dCmp eqC (dVar 7) (dC (.int 0)))) (sRet (dTup (aCons (dC (.str "==")) (aCons (dVar 5) (aCons (dVar 6) (aNil)))))) (sNext)) (sSeq (sIf (tTru (dCmp eqC (dVar 7) (dC (.int 1)))) (sRet (dTup (aCons (dVar 4) (aCons (dVar 6) (aCons (dVar 5) (aNil)))))) (sNext)) (sSeq (sIf (tTru (dCmp eqC (dVar 7) (dC (.int 2)))) (sRet (dTup (aCons (dC (.str "not")) (aCons (dVar 3) (aNil))))) (sNext)) (sSeq (sIf (tTru (dCmp eqC (dVar 7) (dC (.int 3)))) (sRet (dTup (aCons (dC (.str "&")) (aCons (dVar 3) (aCons (dTup (aCons (dC (.str "word")) (aCons (dC (.int 1)) (aCons (dC (.int 1)) (aNil))))) (aNil)))))) (sNext)) (sSeq (sIf (tTru (dCmp eqC (dVar 7) (dC (.int 4)))) (sRet (dTup (aCons (dVar 4) (aCons (dVar 5) (aCons (dTup (aCons (dC (.str "+")) (aCons (dVar 6) (aCons (dTup (aCons (dC (.str "word")) (aCons (dC (.int 1)) (aCons (dVar 2) (aNil))))) (aNil))))) (aNil)))))) (sNext)) (sSeq (sIf (tTru (dCmp eqC (dVar 7) (dC (.int 5)))) (sRet (dTup (aCons (dVar 4) (aCons (dTup (aCons (dC (.str "wide")) (aCons (dVar 5) (aCons (dVar 2) (aNil))))) (aCons (dVar 6) (aNil)))))) (sNext)) (sSeq (sIf (tTru (dCmp eqC (dVar 7) (dC (.int 6)))) (sRet (dTup (aCons (dVar 4) (aCons (dVar 5) (aCons (dVar 5) (aNil)))))) (sNext)) (sSeq (sIf (tTru (dCmp eqC (dVar 7) (dC (.int 7)))) (sRet (dTup (aCons (dC (.str "!=")) (aCons (dTup (aCons (dC (.str "name")) (aCons (dOp ixK (dOp ixK (dVar 1) (dC (.int 2))) (dC (.int 0))) (aNil)))) (aCons (dTup (aCons (dC (.str "null")) (aNil))) (aNil)))))) (sNext)) (sSeq (sIf (tTru (dCmp eqC (dVar 7) (dC (.int 8)))) (sRet (dTup (aCons (dC (.str "!=")) (aCons (dTup (aCons (dC (.str "name")) (aCons (dOp ixK (dOp ixK (dVar 1) (dC (.int 2))) (dC (.int 0))) (aNil)))) (aCons (dTup (aCons (dC (.str "name")) (aCons (dOp ixK (dOp ixK (dVar 1) (dC (.int 2))) (dC (.int 1))) (aNil)))) (aNil)))))) (sNext)) (sSeq (sIf (tAnd (tTru (dCmp eqC (dVar 7) (dC (.int 9)))) (tTru (dCmp eqC (dVar 2) (dOp ixK (dOp ixK (dVar 1) (dC (.int 1))) (dC (.int 1)))))) (sRet (dTup (aCons (dVar 4) (aCons (dVar 5) (aCons (dTup (aCons (dC (.str "item")) (aCons (dOp ixK (dOp ixK (dVar 1) (dC (.int 1))) (dC (.int 0))) (aCons (dCall c "_law_index" (aCons (dVar 0) (aNil))) (aNil))))) (aNil)))))) (sNext)) (sSeq (sIf (tAnd (tTru (dCmp eqC (dVar 7) (dC (.int 10)))) (tTru (dCmp eqC (dVar 2) (dOp ixK (dOp ixK (dVar 1) (dC (.int 1))) (dC (.int 1)))))) (sRet (dTup (aCons (dVar 4) (aCons (dTup (aCons (dC (.str "item")) (aCons (dOp ixK (dOp ixK (dVar 1) (dC (.int 1))) (dC (.int 0))) (aCons (dCall c "_law_index" (aCons (dVar 0) (aNil))) (aNil))))) (aCons (dVar 6) (aNil)))))) (sNext)) (sSeq (sIf (tTru (dCmp eqC (dVar 7) (dC (.int 11)))) (sRet (dTup (aCons (dC (.str "wide")) (aCons (dVar 5) (aCons (dC (.int 1)) (aNil)))))) (sNext)) (sRet (dTup (aCons (dC (.str "word")) (aCons (dCall c "_law_draw" (aCons (dVar 0) (aCons (dC (.int 2)) (aNil)))) (aCons (dC (.int 1)) (aNil)))))))))))))))))))
def b_l_bad_block (c : Cl) : TS := sSeq (sAsg (dCall c "_law_draw" (aCons (dVar 0) (aCons (dC (.int 14)) (aNil)))) (gName 4)) (sSeq (sAsg (dCall c "_law_draw" (aCons (dVar 0) (aCons (dB lenB (aCons (dVar 3) (aNil))) (aNil)))) (gName 5)) (sSeq (sAsg (dCall c "_law_draw" (aCons (dVar 0) (aCons (dOp addK (dB lenB (aCons (dVar 3) (aNil))) (dC (.int 1))) (aNil)))) (gName 6)) (sSeq (sPar 7 8 (aCons (dOp ixK (dOp ixK (dVar 3) (dVar 5)) (dC (.int 1))) (aCons (dOp ixK (dOp ixK (dOp ixK (dVar 3) (dVar 5)) (dC (.int 2))) (dC (.int 2))) (aNil)))) (sSeq (sIf (tTru (dCmp eqC (dVar 4) (dC (.int 0)))) (sRet (dLst (aNil))) (sNext)) (sSeq (sIf (tTru (dCmp eqC (dVar 4) (dC (.int 1)))) (sRet (dLc (iSeq (dVar 3)) (gName 12) (tTru (dCmp neC (dOp ixK (dVar 12) (dC (.int 1))) (dOp ixK (dVar 2) (dC (.int 1))))) (dVar 12) [12])) (sNext)) (sSeq (sIf (tAnd (tTru (dCmp eqC (dVar 4) (dC (.int 2)))) (tTru (dCmp eqC (dOp ixK (dOp ixK (dVar 2) (dC (.int 2))) (dC (.int 0))) (dC (.str "name"))))) (sFor (iSeq (dOp ixK (dVar 1) (dC (.int 0)))) (gTup (gsCons (gName 9) (gsCons (gName 10) (gsNil))) 2) (sIf (tTru (dCmp inC (dOp ixK (dOp ixK (dVar 2) (dC (.int 2))) (dC (.int 1))) (dVar 10))) (sSeq (sAsg (dCall c "_law_add" (aCons (dOp ixK (dOp ixK (dVar 2) (dC (.int 2))) (dC (.int 1))) (aCons (dC (.str "+")) (aCons (dCall c "_law_draw" (aCons (dVar 0) (aCons (dOp shlK (dC (.int 1)) (dVar 9)) (aNil)))) (aCons (dVar 9) (aNil)))))) (gName 11)) (sRet (dOp addK (dOp addK (dSl (dVar 3) (oNone) (oSome (dVar 6))) (dLst (aCons (dVar 11) (aNil)))) (dSl (dVar 3) (oSome (dVar 6)) (oNone))))) (sNext))) (sNext)) (sSeq (sIf (tTru (dCmp ltC (dVar 4) (dC (.int 4)))) (sRet (dOp addK (dOp addK (dSl (dVar 3) (oNone) (oSome (dVar 6))) (dLst (aCons (dCall c "_law_add" (aCons (dOp ixK (dVar 7) (dC (.int 1))) (aCons (dC (.str "-")) (aCons (dOp ixK (dVar 8) (dC (.int 1))) (aCons (dOp ixK (dVar 8) (dC (.int 2))) (aNil)))))) (aNil)))) (dSl (dVar 3) (oSome (dVar 6)) (oNone)))) (sNext)) (sSeq (sIf (tTru (dCmp eqC (dVar 4) (dC (.int 4)))) (sRet (dOp addK (dOp addK (dSl (dVar 3) (oNone) (oSome (dVar 6))) (dLst (aCons (dCall c "_law_item_row" (aCons (dVar 0) (aCons (dVar 1) (aNil)))) (aNil)))) (dSl (dVar 3) (oSome (dVar 6)) (oNone)))) (sNext)) (sSeq (sIf (tTru (dCmp eqC (dVar 4) (dC (.int 5)))) (sRet (dOp addK (dOp addK (dSl (dVar 3) (oNone) (oSome (dVar 6))) (dLst (aCons (dCall c "_law_other_row" (aCons (dVar 0) (aCons (dVar 1) (aNil)))) (aNil)))) (dSl (dVar 3) (oSome (dVar 6)) (oNone)))) (sNext)) (sRet (dOp addK (dOp addK (dSl (dVar 3) (oNone) (oSome (dVar 5))) (dLst (aCons (dTup (aCons (dC (.str "let")) (aCons (dVar 7) (aCons (dCall c "_law_bad_sum" (aCons (dVar 0) (aCons (dVar 1) (aCons (dVar 4) (aCons (dOp ixK (dVar 3) (dVar 5)) (aNil)))))) (aNil))))) (aNil)))) (dSl (dVar 3) (oSome (dOp addK (dVar 5) (dC (.int 1)))) (oNone)))))))))))))
def b_l_bad_sum (c : Cl) : TS := sSeq (sAsg (dOp ixK (dVar 3) (dC (.int 1))) (gName 4)) (sSeq (sPar 5 6 (aCons (dOp ixK (dOp ixK (dVar 3) (dC (.int 2))) (dC (.int 0))) (aCons (dOp ixK (dOp ixK (dVar 3) (dC (.int 2))) (dC (.int 2))) (aNil)))) (sSeq (sAsg (dLst (aNil)) (gName 7)) (sSeq (sFor (iSeq (dOp ixK (dVar 1) (dC (.int 0)))) (gTup (gsCons (gName 8) (gsCons (gName 9) (gsNil))) 2) (sIf (tTru (dCmp inC (dOp ixK (dVar 4) (dC (.int 1))) (dVar 9))) (sAsg (dLc (iSeq (dVar 9)) (gName 11) (tTru (dCmp neC (dVar 11) (dOp ixK (dVar 4) (dC (.int 1))))) (dTup (aCons (dC (.str "name")) (aCons (dVar 11) (aNil)))) [11]) (gName 7)) (sNext))) (sSeq (sAsg (dCall c "_law_pick" (aCons (dVar 0) (aCons (dVar 7) (aNil)))) (gName 10)) (sSeq (sIf (tTru (dCmp eqC (dVar 2) (dC (.int 6)))) (sRet (dTup (aCons (dVar 5) (aCons (dVar 6) (aCons (dVar 4) (aNil)))))) (sNext)) (sSeq (sIf (tTru (dCmp eqC (dVar 2) (dC (.int 7)))) (sRet (dTup (aCons (dVar 5) (aCons (dVar 10) (aCons (dVar 6) (aNil)))))) (sNext)) (sSeq (sIf (tTru (dCmp eqC (dVar 2) (dC (.int 8)))) (sRet (dTup (aCons (dVar 5) (aCons (dVar 4) (aCons (dVar 10) (aNil)))))) (sNext)) (sSeq (sIf (tTru (dCmp eqC (dVar 2) (dC (.int 9)))) (sRet (dTup (aCons (dCall c "_law_pick" (aCons (dVar 0) (aCons (dLst (aCons (dC (.str "*")) (aCons (dC (.str "&")) (aCons (dC (.str "|")) (aCons (dC (.str "^")) (aCons (dC (.str "<<")) (aCons (dC (.str ">>")) (aCons (dC (.str "div")) (aCons (dC (.str "rem")) (aNil)))))))))) (aNil)))) (aCons (dVar 4) (aCons (dVar 6) (aNil)))))) (sNext)) (sSeq (sIf (tTru (dCmp eqC (dVar 2) (dC (.int 10)))) (sRet (dVar 10)) (sNext)) (sSeq (sIf (tTru (dCmp eqC (dVar 2) (dC (.int 11)))) (sRet (dVar 6)) (sNext)) (sSeq (sIf (tTru (dCmp eqC (dVar 2) (dC (.int 12)))) (sRet (dTup (aCons (dVar 5) (aCons (dTup (aCons (dVar 5) (aCons (dVar 4) (aCons (dVar 6) (aNil))))) (aCons (dVar 6) (aNil)))))) (sNext)) (sRet (dTup (aCons (dVar 5) (aCons (dVar 4) (aCons (dTup (aCons (dC (.str "neg")) (aCons (dVar 6) (aNil)))) (aNil)))))))))))))))))
def b_l_piece (c : Cl) : TS := sSeq (sAsg (dCall c "_law_h_loop" (aCons (dVar 0) (aCons (dVar 1) (aNil)))) (gTup (gsCons (gName 2) (gsCons (gName 3) (gsNil))) 2)) (sSeq (sAsg (dCall c "_law_draw" (aCons (dVar 0) (aCons (dC (.int 10)) (aNil)))) (gName 4)) (sSeq (sAsg (dCall c "_law_some_test" (aCons (dVar 0) (aCons (dVar 1) (aNil)))) (gName 5)) (sSeq (sIf (tTru (dCmp eqC (dVar 4) (dC (.int 0)))) (sRet (dTup (aCons (dTup (aCons (dC (.str "if")) (aCons (dVar 5) (aCons (dTup (aCons (dVar 2) (aNil))) (aCons (dTup (aNil)) (aNil)))))) (aCons (dLst (aCons (dVar 3) (aNil))) (aNil))))) (sNext)) (sSeq (sIf (tTru (dCmp eqC (dVar 4) (dC (.int 1)))) (sRet (dTup (aCons (dTup (aCons (dC (.str "if")) (aCons (dVar 5) (aCons (dTup (aNil)) (aCons (dTup (aCons (dVar 2) (aNil))) (aNil)))))) (aCons (dLst (aCons (dVar 3) (aNil))) (aNil))))) (sNext)) (sSeq (sIf (tTru (dCmp eqC (dVar 4) (dC (.int 2)))) (sRet (dTup (aCons (dTup (aCons (dC (.str "try")) (aCons (dTup (aCons (dVar 2) (aNil))) (aCons (dTup (aCons (dTup (aCons (dOp ixK (dVar 1) (dC (.int 3))) (aCons (dTup (aNil)) (aNil)))) (aNil))) (aNil))))) (aCons (dLst (aCons (dVar 3) (aNil))) (aNil))))) (sNext)) (sSeq (sIf (tTru (dCmp eqC (dVar 4) (dC (.int 3)))) (sRet (dTup (aCons (dTup (aCons (dC (.str "try")) (aCons (dTup (aCons (dCall c "_law_other_row" (aCons (dVar 0) (aCons (dVar 1) (aNil)))) (aNil))) (aCons (dTup (aCons (dTup (aCons (dOp ixK (dVar 1) (dC (.int 3))) (aCons (dTup (aCons (dVar 2) (aNil))) (aNil)))) (aNil))) (aNil))))) (aCons (dLst (aCons (dVar 3) (aNil))) (aNil))))) (sNext)) (sSeq (sIf (tTru (dCmp eqC (dVar 4) (dC (.int 4)))) (sRet (dTup (aCons (dTup (aCons (dC (.str "while")) (aCons (dVar 5) (aCons (dTup (aCons (dVar 2) (aNil))) (aNil))))) (aCons (dLst (aCons (dC .non) (aCons (dVar 3) (aNil)))) (aNil))))) (sNext)) (sSeq (sIf (tTru (dCmp eqC (dVar 4) (dC (.int 5)))) (sSeq (sAsg (dCall c "_law_h_loop" (aCons (dVar 0) (aCons (dVar 1) (aNil)))) (gTup (gsCons (gName 6) (gsCons (gName 7) (gsNil))) 2)) (sRet (dTup (aCons (dTup (aCons (dC (.str "if")) (aCons (dVar 5) (aCons (dTup (aCons (dVar 6) (aNil))) (aCons (dTup (aCons (dVar 2) (aNil))) (aNil)))))) (aCons (dLst (aCons (dVar 7) (aCons (dVar 3) (aNil)))) (aNil)))))) (sNext)) (sRet (dTup (aCons (dVar 2) (aCons (dLst (aCons (dVar 3) (aNil))) (aNil)))))))))))))
def b_l_whiles (c : Cl) : TS := sSeq (sAsg (dLst (aNil)) (gName 1)) (sSeq (sFor (iSeq (dVar 0)) (gName 2) (sSeq (sIf (tTru (dCmp eqC (dOp ixK (dOp ixK (dVar 2) (dC (.int 0))) (dC (.int 0))) (dC (.str "while")))) (sExpr (dM tyLst appendM (dVar 1) (aCons (dOp addK (dOp ixK (dVar 2) (dC (.int 1))) (dCall c "_law_w_count" (aCons (dOp ixK (dOp ixK (dVar 2) (dC (.int 0))) (dC (.int 1))) (aNil)))) (aNil)))) (sNext)) (sFor (iSeq (dOp ixK (dVar 2) (dC (.int 2)))) (gName 3) (sExpr (dM tyLst extendAM (dVar 1) (aCons (dCall c "_law_whiles" (aCons (dVar 3) (aNil))) (aNil))))))) (sRet (dVar 1)))
def b_l_drawn (c : Cl) : TS := sSeq (sAsg (dCall c "_law_surroundings" (aCons (dVar 0) (aCons (dVar 1) (aCons (dVar 3) (aNil))))) (gName 4)) (sSeq (sAsg (dLst (aNil)) (gName 5)) (sSeq (sAsg (dLst (aNil)) (gName 6)) (sSeq (sFor (iR1 (dCall c "_law_draw" (aCons (dVar 0) (aCons (dC (.int 4)) (aNil))))) (gName 7) (sSeq (sIf (tTru (dCall c "_law_draw" (aCons (dVar 0) (aCons (dC (.int 2)) (aNil))))) (sExpr (dM tyLst appendM (dVar 5) (aCons (dCall c "_law_other_row" (aCons (dVar 0) (aCons (dVar 4) (aNil)))) (aNil)))) (sNext)) (sSeq (sAsg (dCall c "_law_piece" (aCons (dVar 0) (aCons (dVar 4) (aNil)))) (gTup (gsCons (gName 8) (gsCons (gName 9) (gsNil))) 2)) (sSeq (sExpr (dM tyLst appendM (dVar 5) (aCons (dVar 8) (aNil)))) (sExpr (dM tyLst extendAM (dVar 6) (aCons (dVar 9) (aNil)))))))) (sSeq (sAsg (dLst (aNil)) (gName 10)) (sSeq (sFor (iSeq (dOp ixK (dVar 4) (dC (.int 0)))) (gTup (gsCons (gName 11) (gsCons (gName 12) (gsNil))) 2) (sExpr (dM tyLst extendAM (dVar 10) (aCons (dLc (iSeq (dVar 12)) (gName 17) (tYes) (dTup (aCons (dVar 17) (aCons (dVar 11) (aNil)))) [17]) (aNil))))) (sSeq (sAsg (dCall c "_law_shuffled" (aCons (dVar 0) (aCons (dVar 10) (aNil)))) (gName 10)) (sSeq (sAsg (dCall c "_law_draw" (aCons (dVar 0) (aCons (dC (.int 6)) (aNil)))) (gName 13)) (sSeq (sAsg (dOp addK (dOp addK (dSl (dVar 10) (oSome (dVar 13)) (oNone)) (dLst (aCons (dOp ixK (dVar 4) (dC (.int 1))) (aNil)))) (dLc (iSeq (dOp ixK (dVar 4) (dC (.int 2)))) (gName 17) (tYes) (dTup (aCons (dVar 17) (aCons (dVar 3) (aNil)))) [17])) (gName 14)) (sSeq (sAsg (dCall c "_law_whiles" (aCons (dOp ixK (dCall c "_law_w_plan" (aCons (dVar 5) (aCons (dC (.int 0)) (aNil)))) (dC (.int 0))) (aNil))) (gName 15)) (sSeq (sAsg (dLc (iR1 (dB lenB (aCons (dVar 6) (aNil)))) (gName 7) (tTru (dCmp isntC (dOp ixK (dVar 6) (dVar 7)) (dC .non))) (dOp addK (dTup (aCons (dC (.str "counting")) (aCons (dOp ixK (dVar 15) (dVar 7)) (aNil)))) (dOp ixK (dVar 6) (dVar 7))) [7]) (gName 16)) (sRet (dTup (aCons (dTup (aCons (dC (.str "function")) (aCons (dVar 2) (aCons (dB tupleB (aCons (dSl (dVar 10) (oNone) (oSome (dVar 13))) (aNil))) (aCons (dOp ixK (dVar 4) (dC (.int 5))) (aCons (dC (.int 0)) (aCons (dB tupleB (aCons (dVar 14) (aNil))) (aCons (dB tupleB (aCons (dVar 5) (aNil))) (aNil))))))))) (aCons (dB tupleB (aCons (dVar 16) (aNil))) (aNil)))))))))))))))
def b_l_renamed (c : Cl) : TS := sSeq (sIf (tTru (dCmp neC (dOp ixK (dVar 0) (dC (.int 0))) (dC (.str "function")))) (sRet (dVar 0)) (sNext)) (sRet (dOp addK (dOp addK (dSl (dVar 0) (oNone) (oSome (dC (.int 1)))) (dTup (aCons (dOp ixK (dVar 1) (dOp subK (dC (.int 1)) (dM tyLst indexM (dVar 1) (aCons (dOp ixK (dVar 0) (dC (.int 1))) (aNil))))) (aNil)))) (dSl (dVar 0) (oSome (dC (.int 2))) (oNone))))
def b_l_law (c : Cl) : TS := sSeq (sAsg (dCall c "_law_begin" (aCons (dVar 0) (aNil))) (gName 1)) (sSeq (sAsg (dCall c "_law_pool" aNil) (gName 2)) (sSeq (sAsg (dTup (aCons (dC (.str "record")) (aCons (dCall c "_law_pop" (aCons (dVar 1) (aCons (dVar 2) (aNil)))) (aCons (dTup (aNil)) (aNil))))) (gName 3)) (sSeq (sAsg (dLst (aCons (dCall c "_law_pop" (aCons (dVar 1) (aCons (dVar 2) (aNil)))) (aCons (dCall c "_law_pop" (aCons (dVar 1) (aCons (dVar 2) (aNil)))) (aNil)))) (gName 4)) (sSeq (sAsg (dCall c "_law_drawn" (aCons (dVar 1) (aCons (dB listB (aCons (dVar 2) (aNil))) (aCons (dOp ixK (dVar 4) (dC (.int 0))) (aCons (dOp ixK (dVar 3) (dC (.int 1))) (aNil)))))) (gTup (gsCons (gName 5) (gsCons (gName 6) (gsNil))) 2)) (sSeq (sAsg (dCall c "_law_drawn" (aCons (dVar 1) (aCons (dB listB (aCons (dVar 2) (aNil))) (aCons (dOp ixK (dVar 4) (dC (.int 1))) (aCons (dOp ixK (dVar 3) (dC (.int 1))) (aNil)))))) (gTup (gsCons (gName 7) (gsCons (gName 8) (gsNil))) 2)) (sSeq (sAsg (dB tupleB (aCons (dCall c "_law_shuffled" (aCons (dVar 1) (aCons (dLst (aCons (dVar 3) (aCons (dVar 5) (aCons (dVar 7) (aNil))))) (aNil)))) (aNil))) (gName 9)) (sSeq (sFor (iSeq (dLst (aCons (dTup (aCons (dOp ixK (dVar 4) (dC (.int 0))) (aCons (dVar 6) (aNil)))) (aCons (dTup (aCons (dOp ixK (dVar 4) (dC (.int 1))) (aCons (dVar 8) (aNil)))) (aCons (dTup (aCons (dOp ixK (dVar 4) (dC (.int 0))) (aCons (dVar 6) (aNil)))) (aNil)))))) (gTup (gsCons (gName 10) (gsCons (gName 11) (gsNil))) 2) (sIf (tNot (tTru (dCall c "_law_w_same" (aCons (dCall c "counting_loops" (aCons (dVar 9) (aCons (dVar 10) (aNil)))) (aCons (dVar 11) (aNil)))))) (sRet (dC (.bl false))) (sNext))) (sSeq (sAsg (dB tupleB (aCons (dLc (iSeq (dVar 9)) (gName 13) (tYes) (dCall c "_law_renamed" (aCons (dVar 13) (aCons (dVar 4) (aNil)))) [13]) (aNil))) (gName 12)) (sSeq (sFor (iSeq (dLst (aCons (dTup (aCons (dOp ixK (dVar 4) (dC (.int 1))) (aCons (dVar 6) (aNil)))) (aCons (dTup (aCons (dOp ixK (dVar 4) (dC (.int 0))) (aCons (dVar 8) (aNil)))) (aNil))))) (gTup (gsCons (gName 10) (gsCons (gName 11) (gsNil))) 2) (sIf (tNot (tTru (dCall c "_law_w_same" (aCons (dCall c "counting_loops" (aCons (dVar 12) (aCons (dVar 10) (aNil)))) (aCons (dVar 11) (aNil)))))) (sRet (dC (.bl false))) (sNext))) (sRet (dC (.bl true))))))))))))
def prog : String → Option Def
  | "declared" => some ⟨2, 3, b_p_declared⟩
  | "variables_of" => some ⟨2, 4, b_p_variables_of⟩
  | "blocks_of" => some ⟨1, 3, b_p_blocks_of⟩
  | "statements_of" => some ⟨1, 4, b_p_statements_of⟩
  | "exprs_of" => some ⟨1, 2, b_p_exprs_of⟩
  | "operands_of" => some ⟨1, 1, b_p_operands_of⟩
  | "expr_looks" => some ⟨1, 3, b_p_expr_looks⟩
  | "statement_looks" => some ⟨1, 3, b_p_statement_looks⟩
  | "greatest" => some ⟨1, 1, b_p_greatest⟩
  | "related" => some ⟨3, 3, b_p_related⟩
  | "shifted" => some ⟨4, 4, b_p_shifted⟩
  | "divided" => some ⟨3, 3, b_p_divided⟩
  | "reckoned" => some ⟨3, 3, b_p_reckoned⟩
  | "result" => some ⟨3, 5, b_p_result⟩
  | "counting_loops" => some ⟨2, 8, b_p_counting_loops⟩
  | "shape_of" => some ⟨3, 9, b_p_shape_of⟩
  | "change_of" => some ⟨2, 4, b_p_change_of⟩
  | "_law_begin" => some ⟨1, 2, b_l_begin⟩
  | "_law_draw" => some ⟨2, 5, b_l_draw⟩
  | "_law_pick" => some ⟨2, 2, b_l_pick⟩
  | "_law_pop" => some ⟨2, 2, b_l_pop⟩
  | "_law_shuffled" => some ⟨2, 5, b_l_shuffled⟩
  | "_law_pool" => some ⟨0, 1, b_l_pool⟩
  | "_law_is_int" => some ⟨1, 1, b_l_is_int⟩
  | "_law_w_count" => some ⟨1, 3, b_l_w_count⟩
  | "_law_w_plan" => some ⟨2, 10, b_l_w_plan⟩
  | "_law_w_same" => some ⟨2, 3, b_l_w_same⟩
  | "_law_surroundings" => some ⟨3, 9, b_l_surroundings⟩
  | "_law_index" => some ⟨1, 2, b_l_index⟩
  | "_law_some_test" => some ⟨2, 6, b_l_some_test⟩
  | "_law_add" => some ⟨4, 4, b_l_add⟩
  | "_law_item_row" => some ⟨2, 3, b_l_item_row⟩
  | "_law_other_row" => some ⟨2, 3, b_l_other_row⟩
  | "_law_h_changed" => some ⟨5, 9, b_l_h_changed⟩
  | "_law_h_loop" => some ⟨2, 15, b_l_h_loop⟩
  | "_law_bad_test" => some ⟨4, 8, b_l_bad_test⟩
  | "_law_bad_block" => some ⟨4, 13, b_l_bad_block⟩
  | "_law_bad_sum" => some ⟨4, 12, b_l_bad_sum⟩
  | "_law_piece" => some ⟨2, 8, b_l_piece⟩
  | "_law_whiles" => some ⟨1, 4, b_l_whiles⟩
  | "_law_drawn" => some ⟨4, 18, b_l_drawn⟩
  | "_law_renamed" => some ⟨2, 2, b_l_renamed⟩
  | "law" => some ⟨1, 14, b_l_law⟩
  | _ => none
end Pk52
end PartPdk52B

section PartPdk52L
set_option Elab.async false
set_option linter.all false
set_option maxRecDepth 100000
set_option maxHeartbeats 4000000
namespace Pk52
open PySem PySem.Spec Pd
open PyProof.Rows (envOfC)
def topS (i : Nat) : Stmt := PySem.Challenge.pw_metorshut_k52_counting_loops.main.body.getD i (.Pass ⟨0, 0, 0, 0⟩)
abbrev names : List String := ["declared", "variables_of", "blocks_of", "statements_of", "exprs_of", "operands_of", "expr_looks", "statement_looks", "greatest", "related", "shifted", "divided", "reckoned", "counting_loops", "shape_of", "change_of", "_law_begin", "_law_draw", "_law_pick", "_law_pop", "_law_shuffled", "_law_pool", "_law_is_int", "_law_w_count", "_law_w_plan", "_law_w_same", "_law_surroundings", "_law_index", "_law_some_test", "_law_add", "_law_item_row", "_law_other_row", "_law_h_changed", "_law_h_loop", "_law_bad_test", "_law_bad_block", "_law_bad_sum", "_law_piece", "_law_whiles", "_law_drawn", "_law_renamed", "law"]
abbrev snames : List (String × Nat) := [("result", 2)]
abbrev blts : List String := ["abs", "all", "bool", "int", "isinstance", "len", "list", "range", "str", "sum", "tuple"]
abbrev sp_declared : Stmt := topS 1
abbrev np_declared : List Str := ["program", "name", "part"]
theorem scp_declared : L2.FnScope np_declared ["program", "name"] (L2.defScope sp_declared) := ⟨rfl, rfl, rfl, by decide +kernel, rfl, by decide +kernel, by decide +kernel⟩
abbrev sp_variables_of : Stmt := topS 2
abbrev np_variables_of : List Str := ["program", "function", "found", "row"]
theorem scp_variables_of : L2.FnScope np_variables_of ["program", "function"] (L2.defScope sp_variables_of) := ⟨rfl, rfl, rfl, by decide +kernel, rfl, by decide +kernel, by decide +kernel⟩
abbrev sp_blocks_of : Stmt := topS 3
abbrev np_blocks_of : List Str := ["statement", "name", "body"]
theorem scp_blocks_of : L2.FnScope np_blocks_of ["statement"] (L2.defScope sp_blocks_of) := ⟨rfl, rfl, rfl, by decide +kernel, rfl, by decide +kernel, by decide +kernel⟩
abbrev sp_statements_of : Stmt := topS 4
abbrev np_statements_of : List Str := ["body", "found", "statement", "block"]
theorem scp_statements_of : L2.FnScope np_statements_of ["body"] (L2.defScope sp_statements_of) := ⟨rfl, rfl, rfl, by decide +kernel, rfl, by decide +kernel, by decide +kernel⟩
abbrev sp_exprs_of : Stmt := topS 5
abbrev np_exprs_of : List Str := ["statement", "word"]
theorem scp_exprs_of : L2.FnScope np_exprs_of ["statement"] (L2.defScope sp_exprs_of) := ⟨rfl, rfl, rfl, by decide +kernel, rfl, by decide +kernel, by decide +kernel⟩
abbrev sp_operands_of : Stmt := topS 6
abbrev np_operands_of : List Str := ["expr"]
theorem scp_operands_of : L2.FnScope np_operands_of ["expr"] (L2.defScope sp_operands_of) := ⟨rfl, rfl, rfl, by decide +kernel, rfl, by decide +kernel, by decide +kernel⟩
abbrev sp_expr_looks : Stmt := topS 9
abbrev np_expr_looks : List Str := ["expr", "found", "part"]
theorem scp_expr_looks : L2.FnScope np_expr_looks ["expr"] (L2.defScope sp_expr_looks) := ⟨rfl, rfl, rfl, by decide +kernel, rfl, by decide +kernel, by decide +kernel⟩
abbrev sp_statement_looks : Stmt := topS 10
abbrev np_statement_looks : List Str := ["statement", "found", "expr"]
theorem scp_statement_looks : L2.FnScope np_statement_looks ["statement"] (L2.defScope sp_statement_looks) := ⟨rfl, rfl, rfl, by decide +kernel, rfl, by decide +kernel, by decide +kernel⟩
abbrev sp_greatest : Stmt := topS 12
abbrev np_greatest : List Str := ["width"]
theorem scp_greatest : L2.FnScope np_greatest ["width"] (L2.defScope sp_greatest) := ⟨rfl, rfl, rfl, by decide +kernel, rfl, by decide +kernel, by decide +kernel⟩
abbrev sp_related : Stmt := topS 13
abbrev np_related : List Str := ["op", "left", "right"]
theorem scp_related : L2.FnScope np_related ["op", "left", "right"] (L2.defScope sp_related) := ⟨rfl, rfl, rfl, by decide +kernel, rfl, by decide +kernel, by decide +kernel⟩
abbrev sp_shifted : Stmt := topS 14
abbrev np_shifted : List Str := ["op", "width", "left", "right"]
theorem scp_shifted : L2.FnScope np_shifted ["op", "width", "left", "right"] (L2.defScope sp_shifted) := ⟨rfl, rfl, rfl, by decide +kernel, rfl, by decide +kernel, by decide +kernel⟩
abbrev sp_divided : Stmt := topS 15
abbrev np_divided : List Str := ["op", "left", "right"]
theorem scp_divided : L2.FnScope np_divided ["op", "left", "right"] (L2.defScope sp_divided) := ⟨rfl, rfl, rfl, by decide +kernel, rfl, by decide +kernel, by decide +kernel⟩
abbrev sp_reckoned : Stmt := topS 16
abbrev np_reckoned : List Str := ["op", "left", "right"]
theorem scp_reckoned : L2.FnScope np_reckoned ["op", "left", "right"] (L2.defScope sp_reckoned) := ⟨rfl, rfl, rfl, by decide +kernel, rfl, by decide +kernel, by decide +kernel⟩
abbrev sp_result : Stmt := topS 17
abbrev np_result : List Str := ["op", "width", "words", "left", "right"]
theorem scp_result : L2.FnScope np_result ["op", "width", "words"] (L2.defScope sp_result) := ⟨rfl, rfl, rfl, by decide +kernel, rfl, by decide +kernel, by decide +kernel⟩
abbrev sp_counting_loops : Stmt := topS 19
abbrev np_counting_loops : List Str := ["program", "name", "part", "kinds", "found", "number", "statement", "shape"]
theorem scp_counting_loops : L2.FnScope np_counting_loops ["program", "name"] (L2.defScope sp_counting_loops) := ⟨rfl, rfl, rfl, by decide +kernel, rfl, by decide +kernel, by decide +kernel⟩
abbrev sp_shape_of : Stmt := topS 20
abbrev np_shape_of : List Str := ["kinds", "statement", "number", "expr", "changes", "row", "change", "names", "other"]
theorem scp_shape_of : L2.FnScope np_shape_of ["kinds", "statement", "number"] (L2.defScope sp_shape_of) := ⟨rfl, rfl, rfl, by decide +kernel, rfl, by decide +kernel, by decide +kernel⟩
abbrev sp_change_of : Stmt := topS 21
abbrev np_change_of : List Str := ["kinds", "row", "addend", "width"]
theorem scp_change_of : L2.FnScope np_change_of ["kinds", "row"] (L2.defScope sp_change_of) := ⟨rfl, rfl, rfl, by decide +kernel, rfl, by decide +kernel, by decide +kernel⟩
abbrev sl_begin : Stmt := topS 23
abbrev nl_begin : List Str := ["_law_script", "_law_cell"]
theorem scl_begin : L2.FnScope nl_begin ["_law_script"] (L2.defScope sl_begin) := ⟨rfl, rfl, rfl, by decide +kernel, rfl, by decide +kernel, by decide +kernel⟩
abbrev sl_draw : Stmt := topS 24
abbrev nl_draw : List Str := ["_law_d", "_law_many", "_law_found", "_law_size", "_law_cell"]
theorem scl_draw : L2.FnScope nl_draw ["_law_d", "_law_many"] (L2.defScope sl_draw) := ⟨rfl, rfl, rfl, by decide +kernel, rfl, by decide +kernel, by decide +kernel⟩
abbrev sl_pick : Stmt := topS 25
abbrev nl_pick : List Str := ["_law_d", "_law_row"]
theorem scl_pick : L2.FnScope nl_pick ["_law_d", "_law_row"] (L2.defScope sl_pick) := ⟨rfl, rfl, rfl, by decide +kernel, rfl, by decide +kernel, by decide +kernel⟩
abbrev sl_pop : Stmt := topS 26
abbrev nl_pop : List Str := ["_law_d", "_law_row"]
theorem scl_pop : L2.FnScope nl_pop ["_law_d", "_law_row"] (L2.defScope sl_pop) := ⟨rfl, rfl, rfl, by decide +kernel, rfl, by decide +kernel, by decide +kernel⟩
abbrev sl_shuffled : Stmt := topS 27
abbrev nl_shuffled : List Str := ["_law_d", "_law_row", "_law_left", "_law_found", "_law_k"]
theorem scl_shuffled : L2.FnScope nl_shuffled ["_law_d", "_law_row"] (L2.defScope sl_shuffled) := ⟨rfl, rfl, rfl, by decide +kernel, rfl, by decide +kernel, by decide +kernel⟩
abbrev sl_pool : Stmt := topS 28
abbrev nl_pool : List Str := ["_law_text"]
theorem scl_pool : L2.FnScope nl_pool [] (L2.defScope sl_pool) := ⟨rfl, rfl, rfl, by decide +kernel, rfl, by decide +kernel, by decide +kernel⟩
abbrev sl_is_int : Stmt := topS 29
abbrev nl_is_int : List Str := ["_law_thing"]
theorem scl_is_int : L2.FnScope nl_is_int ["_law_thing"] (L2.defScope sl_is_int) := ⟨rfl, rfl, rfl, by decide +kernel, rfl, by decide +kernel, by decide +kernel⟩
abbrev sl_w_count : Stmt := topS 30
abbrev nl_w_count : List Str := ["_law_thing", "_law_many", "_law_part"]
theorem scl_w_count : L2.FnScope nl_w_count ["_law_thing"] (L2.defScope sl_w_count) := ⟨rfl, rfl, rfl, by decide +kernel, rfl, by decide +kernel, by decide +kernel⟩
abbrev sl_w_plan : Stmt := topS 31
abbrev nl_w_plan : List Str := ["_law_body", "_law_at", "_law_rows", "_law_statement", "_law_blocks", "_law_first", "_law_plans", "_law_block", "_law_inner", "_law_row"]
theorem scl_w_plan : L2.FnScope nl_w_plan ["_law_body", "_law_at"] (L2.defScope sl_w_plan) := ⟨rfl, rfl, rfl, by decide +kernel, rfl, by decide +kernel, by decide +kernel⟩
abbrev sl_w_same : Stmt := topS 32
abbrev nl_w_same : List Str := ["_law_told", "_law_due", "_law_k"]
theorem scl_w_same : L2.FnScope nl_w_same ["_law_told", "_law_due"] (L2.defScope sl_w_same) := ⟨rfl, rfl, rfl, by decide +kernel, rfl, by decide +kernel, by decide +kernel⟩
abbrev sl_surroundings : Stmt := topS 33
abbrev nl_surroundings : List Str := ["_law_d", "_law_pool_here", "_law_record", "_law_wide", "_law_groups", "_law_array", "_law_refs", "_law_k", "_law_j"]
theorem scl_surroundings : L2.FnScope nl_surroundings ["_law_d", "_law_pool_here", "_law_record"] (L2.defScope sl_surroundings) := ⟨rfl, rfl, rfl, by decide +kernel, rfl, by decide +kernel, by decide +kernel⟩
abbrev sl_index : Stmt := topS 34
abbrev nl_index : List Str := ["_law_d", "_law_width"]
theorem scl_index : L2.FnScope nl_index ["_law_d"] (L2.defScope sl_index) := ⟨rfl, rfl, rfl, by decide +kernel, rfl, by decide +kernel, by decide +kernel⟩
abbrev sl_some_test : Stmt := topS 35
abbrev nl_some_test : List Str := ["_law_d", "_law_env", "_law_width", "_law_names", "_law_left", "_law_right"]
theorem scl_some_test : L2.FnScope nl_some_test ["_law_d", "_law_env"] (L2.defScope sl_some_test) := ⟨rfl, rfl, rfl, by decide +kernel, rfl, by decide +kernel, by decide +kernel⟩
abbrev sl_add : Stmt := topS 36
abbrev nl_add : List Str := ["_law_name", "_law_sign", "_law_word", "_law_width"]
theorem scl_add : L2.FnScope nl_add ["_law_name", "_law_sign", "_law_word", "_law_width"] (L2.defScope sl_add) := ⟨rfl, rfl, rfl, by decide +kernel, rfl, by decide +kernel, by decide +kernel⟩
abbrev sl_item_row : Stmt := topS 37
abbrev nl_item_row : List Str := ["_law_d", "_law_env", "_law_place"]
theorem scl_item_row : L2.FnScope nl_item_row ["_law_d", "_law_env"] (L2.defScope sl_item_row) := ⟨rfl, rfl, rfl, by decide +kernel, rfl, by decide +kernel, by decide +kernel⟩
abbrev sl_other_row : Stmt := topS 38
abbrev nl_other_row : List Str := ["_law_d", "_law_env", "_law_way"]
theorem scl_other_row : L2.FnScope nl_other_row ["_law_d", "_law_env"] (L2.defScope sl_other_row) := ⟨rfl, rfl, rfl, by decide +kernel, rfl, by decide +kernel, by decide +kernel⟩
abbrev sl_h_changed : Stmt := topS 39
abbrev nl_h_changed : List Str := ["_law_d", "_law_env", "_law_group", "_law_names", "_law_limit", "_law_others", "_law_other", "_law_found", "_law_name"]
theorem scl_h_changed : L2.FnScope nl_h_changed ["_law_d", "_law_env", "_law_group", "_law_names", "_law_limit"] (L2.defScope sl_h_changed) := ⟨rfl, rfl, rfl, by decide +kernel, rfl, by decide +kernel, by decide +kernel⟩
abbrev sl_h_loop : Stmt := topS 40
abbrev nl_h_loop : List Str := ["_law_d", "_law_env", "_law_group", "_law_names", "_law_limit", "_law_lets", "_law_changes", "_law_name", "_law_width", "_law_full", "_law_sign", "_law_word", "_law_op", "_law_test", "_law_way"]
theorem scl_h_loop : L2.FnScope nl_h_loop ["_law_d", "_law_env"] (L2.defScope sl_h_loop) := ⟨rfl, rfl, rfl, by decide +kernel, rfl, by decide +kernel, by decide +kernel⟩
abbrev sl_bad_test : Stmt := topS 41
abbrev nl_bad_test : List Str := ["_law_d", "_law_env", "_law_width", "_law_test", "_law_op", "_law_left", "_law_limit", "_law_way"]
theorem scl_bad_test : L2.FnScope nl_bad_test ["_law_d", "_law_env", "_law_width", "_law_test"] (L2.defScope sl_bad_test) := ⟨rfl, rfl, rfl, by decide +kernel, rfl, by decide +kernel, by decide +kernel⟩
abbrev sl_bad_block : Stmt := topS 42
abbrev nl_bad_block : List Str := ["_law_d", "_law_env", "_law_test", "_law_lets", "_law_way", "_law_spot", "_law_put", "_law_name", "_law_word", "_law_width", "_law_names", "_law_more", "_law_row"]
theorem scl_bad_block : L2.FnScope nl_bad_block ["_law_d", "_law_env", "_law_test", "_law_lets"] (L2.defScope sl_bad_block) := ⟨rfl, rfl, rfl, by decide +kernel, rfl, by decide +kernel, by decide +kernel⟩
abbrev sl_bad_sum : Stmt := topS 43
abbrev nl_bad_sum : List Str := ["_law_d", "_law_env", "_law_way", "_law_row", "_law_name", "_law_sign", "_law_word", "_law_mates", "_law_width", "_law_names", "_law_mate", "_law_other"]
theorem scl_bad_sum : L2.FnScope nl_bad_sum ["_law_d", "_law_env", "_law_way", "_law_row"] (L2.defScope sl_bad_sum) := ⟨rfl, rfl, rfl, by decide +kernel, rfl, by decide +kernel, by decide +kernel⟩
abbrev sl_piece : Stmt := topS 44
abbrev nl_piece : List Str := ["_law_d", "_law_env", "_law_row", "_law_due", "_law_way", "_law_test", "_law_other", "_law_more"]
theorem scl_piece : L2.FnScope nl_piece ["_law_d", "_law_env"] (L2.defScope sl_piece) := ⟨rfl, rfl, rfl, by decide +kernel, rfl, by decide +kernel, by decide +kernel⟩
abbrev sl_whiles : Stmt := topS 45
abbrev nl_whiles : List Str := ["_law_rows", "_law_found", "_law_row", "_law_plan"]
theorem scl_whiles : L2.FnScope nl_whiles ["_law_rows"] (L2.defScope sl_whiles) := ⟨rfl, rfl, rfl, by decide +kernel, rfl, by decide +kernel, by decide +kernel⟩
abbrev sl_drawn : Stmt := topS 46
abbrev nl_drawn : List Str := ["_law_d", "_law_pool_here", "_law_name", "_law_record", "_law_env", "_law_body", "_law_dues", "_law_k", "_law_piece_here", "_law_more", "_law_words", "_law_width", "_law_names", "_law_many", "_law_rows", "_law_numbers", "_law_due", "_law_other"]
theorem scl_drawn : L2.FnScope nl_drawn ["_law_d", "_law_pool_here", "_law_name", "_law_record"] (L2.defScope sl_drawn) := ⟨rfl, rfl, rfl, by decide +kernel, rfl, by decide +kernel, by decide +kernel⟩
abbrev sl_renamed : Stmt := topS 47
abbrev nl_renamed : List Str := ["_law_part", "_law_names"]
theorem scl_renamed : L2.FnScope nl_renamed ["_law_part", "_law_names"] (L2.defScope sl_renamed) := ⟨rfl, rfl, rfl, by decide +kernel, rfl, by decide +kernel, by decide +kernel⟩
abbrev sl_law : Stmt := topS 48
abbrev nl_law : List Str := ["_law_script", "_law_d", "_law_pool_here", "_law_record", "_law_names", "_law_one", "_law_due", "_law_two", "_law_other", "_law_program", "_law_name", "_law_wanted", "_law_turned", "_law_part"]
theorem scl_law : L2.FnScope nl_law ["_law_script"] (L2.defScope sl_law) := ⟨rfl, rfl, rfl, by decide +kernel, rfl, by decide +kernel, by decide +kernel⟩
section
variable {P : Program} {w : World} {K : PySem.W.Frag} {mg : Str → Option Value} {base : Heap}
theorem der_p_declared {k : Nat} {c : Cl} (ok : ∀ y ∈ names, Own P w K mg base k (Str.ofString y) (c y)) (oks : ∀ q ∈ snames, OwnS P w K mg base k q.2 (Str.ofString q.1) (c q.1)) (zs : ∀ y ∈ blts, mg (Str.ofString y) = none) (cs_FAULTS : GlobDic K w mg "FAULTS" k_FAULTS) {fa : Addr} (cdv : Value) (A : Around) (outer : List PySem.Env) (s : Shared) (H : L2.Hp) (E : L2.XK) (hr : L2.Room k (A.deeper (envOfC "declared" (L2.defScope sp_declared) s.heap.objs.size fa cdv))) :
    PDSs (L2.cxOf L2.CX0 P w K mg base np_declared "declared" (L2.defScope sp_declared) fa cdv A outer s H E).nox (L2.defBody sp_declared) (b_p_declared c) := by
  have nd := scp_declared.nd
  unfold b_p_declared
  exact pss_cons (ps_for PassesOwn.never rfl (pi_seq (pd_var (i := 0) rfl)) (pg_name (i := 2) nd rfl (by first | exact .inl rfl | exact .inr rfl)) (pss_one (ps_if (pt_cmp (L2.op_eqD hr.units) real_eq (by rfl) (pd_ix (fun _ _ => rfl) (pd_var (i := 2) rfl) (pd_int)) (pd_var (i := 1) rfl)) (pss_one (ps_ret (pd_var (i := 2) rfl))) (pss_nil)))) (pss_one (ps_ret (pd_non)))
theorem der_p_variables_of {k : Nat} {c : Cl} (ok : ∀ y ∈ names, Own P w K mg base k (Str.ofString y) (c y)) (oks : ∀ q ∈ snames, OwnS P w K mg base k q.2 (Str.ofString q.1) (c q.1)) (zs : ∀ y ∈ blts, mg (Str.ofString y) = none) (cs_FAULTS : GlobDic K w mg "FAULTS" k_FAULTS) {fa : Addr} (cdv : Value) (A : Around) (outer : List PySem.Env) (s : Shared) (H : L2.Hp) (E : L2.XK) (hr : L2.Room k (A.deeper (envOfC "variables_of" (L2.defScope sp_variables_of) s.heap.objs.size fa cdv))) :
    PDSs (L2.cxOf L2.CX0 P w K mg base np_variables_of "variables_of" (L2.defScope sp_variables_of) fa cdv A outer s H E).nox (L2.defBody sp_variables_of) (b_p_variables_of c) := by
  have nd := scp_variables_of.nd
  unfold b_p_variables_of
  exact pss_cons (ps_set (i := 2) nd rfl (by first | exact .inl rfl | exact .inr rfl) (pd_dic)) (pss_cons (ps_for PassesOwn.never rfl (pi_seq (pd_add (pd_callTy L2.call_list_of real_listB rfl (zs "list" (by decide)) bt_list (pa_cons (pd_ix (fun _ _ => rfl) (pd_var (i := 1) rfl) (pd_int)) (pa_nil))) (pd_callTy L2.call_list_of real_listB rfl (zs "list" (by decide)) bt_list (pa_cons (pd_ix (fun _ _ => rfl) (pd_var (i := 1) rfl) (pd_int)) (pa_nil))))) (pg_name (i := 3) nd rfl (by first | exact .inl rfl | exact .inr rfl)) (pss_one (ps_if (pt_cmp (L2.op_eqD hr.units) real_eq (by rfl) (pd_callB L2.call_len real_lenB rfl (zs "len" (by decide)) bt_len (pa_cons (pd_var (i := 3) rfl) (pa_nil))) (pd_int)) (pss_one (ps_asg (pd_tup (pa_cons (pd_str) (pa_cons (pd_ix (fun _ _ => rfl) (pd_var (i := 3) rfl) (pd_int)) (pa_cons (pd_ix (fun _ _ => rfl) (pd_var (i := 3) rfl) (pd_int)) (pa_nil))))) (pg_subD hr (pd_var (i := 2) rfl) (pd_ix (fun _ _ => rfl) (pd_var (i := 3) rfl) (pd_int))))) (pss_one (ps_if (pt_tru (pd_isi (T := "str") .str rfl (zs "isinstance" (by decide)) rfl rfl (zs "str" (by decide)) bt_str (pd_ix (fun _ _ => rfl) (pd_var (i := 3) rfl) (pd_int)))) (pss_one (ps_asg (pd_tup (pa_cons (pd_str) (pa_cons (pd_ix (fun _ _ => rfl) (pd_var (i := 3) rfl) (pd_int)) (pa_nil)))) (pg_subD hr (pd_var (i := 2) rfl) (pd_ix (fun _ _ => rfl) (pd_var (i := 3) rfl) (pd_int))))) (pss_one (ps_asg (pd_tup (pa_cons (pd_str) (pa_cons (pd_ix (fun _ _ => rfl) (pd_var (i := 3) rfl) (pd_int)) (pa_nil)))) (pg_subD hr (pd_var (i := 2) rfl) (pd_ix (fun _ _ => rfl) (pd_var (i := 3) rfl) (pd_int)))))))))) (pss_one (ps_ret (pd_var (i := 2) rfl))))
theorem der_p_blocks_of {k : Nat} {c : Cl} (ok : ∀ y ∈ names, Own P w K mg base k (Str.ofString y) (c y)) (oks : ∀ q ∈ snames, OwnS P w K mg base k q.2 (Str.ofString q.1) (c q.1)) (zs : ∀ y ∈ blts, mg (Str.ofString y) = none) (cs_FAULTS : GlobDic K w mg "FAULTS" k_FAULTS) {fa : Addr} (cdv : Value) (A : Around) (outer : List PySem.Env) (s : Shared) (H : L2.Hp) (E : L2.XK) (hr : L2.Room k (A.deeper (envOfC "blocks_of" (L2.defScope sp_blocks_of) s.heap.objs.size fa cdv))) :
    PDSs (L2.cxOf L2.CX0 P w K mg base np_blocks_of "blocks_of" (L2.defScope sp_blocks_of) fa cdv A outer s H E).nox (L2.defBody sp_blocks_of) (b_p_blocks_of c) := by
  have nd := scp_blocks_of.nd
  unfold b_p_blocks_of
  exact pss_cons (ps_if (pt_cmp (L2.op_eqD hr.units) real_eq (by rfl) (pd_ix (fun _ _ => rfl) (pd_var (i := 0) rfl) (pd_int)) (pd_str)) (pss_one (ps_ret (pd_lst (pa_cons (pd_ix (fun _ _ => rfl) (pd_var (i := 0) rfl) (pd_int)) (pa_cons (pd_ix (fun _ _ => rfl) (pd_var (i := 0) rfl) (pd_int)) (pa_nil)))))) (pss_nil)) (pss_cons (ps_if (pt_cmp (L2.op_eqD hr.units) real_eq (by rfl) (pd_ix (fun _ _ => rfl) (pd_var (i := 0) rfl) (pd_int)) (pd_str)) (pss_one (ps_ret (pd_lst (pa_cons (pd_ix (fun _ _ => rfl) (pd_var (i := 0) rfl) (pd_int)) (pa_nil))))) (pss_nil)) (pss_cons (ps_if (pt_cmp (L2.op_eqD hr.units) real_eq (by rfl) (pd_ix (fun _ _ => rfl) (pd_var (i := 0) rfl) (pd_int)) (pd_str)) (pss_one (ps_ret (pd_add (pd_lst (pa_cons (pd_ix (fun _ _ => rfl) (pd_var (i := 0) rfl) (pd_int)) (pa_nil))) (pd_lc (own := [("name", 1), ("body", 2)]) rfl nd (pi_seq (pd_ix (fun _ _ => rfl) (pd_var (i := 0) rfl) (pd_int))) (L2.blkOk_by (N := np_blocks_of) (sc := L2.defScope sp_blocks_of) (by decide +kernel)) (fun _ _ _ _ _ => pg_tup rfl (pgs_cons (pg_name (i := 1) nd rfl (by first | exact .inl rfl | exact .inr rfl)) (pgs_cons (pg_name (i := 2) nd rfl (by first | exact .inl rfl | exact .inr rfl)) (pgs_nil)))) (fun _ _ _ _ _ => pts_nil) (fun _ _ _ _ _ => pd_var (i := 2) rfl) (by decide))))) (pss_nil)) (pss_one (ps_ret (pd_lst (pa_nil))))))
theorem der_p_statements_of {k : Nat} {c : Cl} (ok : ∀ y ∈ names, Own P w K mg base k (Str.ofString y) (c y)) (oks : ∀ q ∈ snames, OwnS P w K mg base k q.2 (Str.ofString q.1) (c q.1)) (zs : ∀ y ∈ blts, mg (Str.ofString y) = none) (cs_FAULTS : GlobDic K w mg "FAULTS" k_FAULTS) {fa : Addr} (cdv : Value) (A : Around) (outer : List PySem.Env) (s : Shared) (H : L2.Hp) (E : L2.XK) (hr : L2.Room k (A.deeper (envOfC "statements_of" (L2.defScope sp_statements_of) s.heap.objs.size fa cdv))) :
    PDSs (L2.cxOf L2.CX0 P w K mg base np_statements_of "statements_of" (L2.defScope sp_statements_of) fa cdv A outer s H E).nox (L2.defBody sp_statements_of) (b_p_statements_of c) := by
  have nd := scp_statements_of.nd
  unfold b_p_statements_of
  exact pss_cons (ps_set (i := 1) nd rfl (by first | exact .inl rfl | exact .inr rfl) (pd_lst (pa_nil))) (pss_cons (ps_for PassesOwn.never rfl (pi_seq (pd_var (i := 0) rfl)) (pg_name (i := 2) nd rfl (by first | exact .inl rfl | exact .inr rfl)) (pss_cons (ps_expr (pd_m L2.mt_append real_append ty_list PySem.F.plainAttrs_list PySem.F.slot_list_append PySem.F.type_list_append (pd_var (i := 1) rfl) (pa_cons (pd_var (i := 2) rfl) (pa_nil)))) (pss_one (ps_for PassesOwn.never rfl (pi_seq (pd_call (y := "blocks_of") (ok "blocks_of" (by decide)) hr rfl (pa_cons (pd_var (i := 2) rfl) (pa_nil)))) (pg_name (i := 3) nd rfl (by first | exact .inl rfl | exact .inr rfl)) (pss_one (ps_expr (pd_m mt_extendA real_extendA ty_list PySem.F.plainAttrs_list PySem.F.slot_list_extend PySem.F.type_list_extend (pd_var (i := 1) rfl) (pa_cons (pd_call (y := "statements_of") (ok "statements_of" (by decide)) hr rfl (pa_cons (pd_var (i := 3) rfl) (pa_nil))) (pa_nil))))))))) (pss_one (ps_ret (pd_var (i := 1) rfl))))
theorem der_p_exprs_of {k : Nat} {c : Cl} (ok : ∀ y ∈ names, Own P w K mg base k (Str.ofString y) (c y)) (oks : ∀ q ∈ snames, OwnS P w K mg base k q.2 (Str.ofString q.1) (c q.1)) (zs : ∀ y ∈ blts, mg (Str.ofString y) = none) (cs_FAULTS : GlobDic K w mg "FAULTS" k_FAULTS) {fa : Addr} (cdv : Value) (A : Around) (outer : List PySem.Env) (s : Shared) (H : L2.Hp) (E : L2.XK) (hr : L2.Room k (A.deeper (envOfC "exprs_of" (L2.defScope sp_exprs_of) s.heap.objs.size fa cdv))) :
    PDSs (L2.cxOf L2.CX0 P w K mg base np_exprs_of "exprs_of" (L2.defScope sp_exprs_of) fa cdv A outer s H E).nox (L2.defBody sp_exprs_of) (b_p_exprs_of c) := by
  have nd := scp_exprs_of.nd
  unfold b_p_exprs_of
  exact pss_cons (ps_set (i := 1) nd rfl (by first | exact .inl rfl | exact .inr rfl) (pd_ix (fun _ _ => rfl) (pd_var (i := 0) rfl) (pd_int))) (pss_cons (ps_if (pt_cmp (L2.op_eqD hr.units) real_eq (by rfl) (pd_var (i := 1) rfl) (pd_str)) (pss_one (ps_ret (pd_lst (pa_cons (pd_ix (fun _ _ => rfl) (pd_var (i := 0) rfl) (pd_int)) (pa_cons (pd_ix (fun _ _ => rfl) (pd_var (i := 0) rfl) (pd_int)) (pa_nil)))))) (pss_nil)) (pss_cons (ps_if (pt_cmp (L2.op_eqD hr.units) real_eq (by rfl) (pd_var (i := 1) rfl) (pd_str)) (pss_one (ps_ret (pd_callTy L2.call_list_of real_listB rfl (zs "list" (by decide)) bt_list (pa_cons (pd_ix (fun _ _ => rfl) (pd_var (i := 0) rfl) (pd_int)) (pa_nil))))) (pss_nil)) (pss_cons (ps_if (pt_cmp L2.op_in_seq (real_in false) (by rfl) (pd_var (i := 1) rfl) (pd_tup (pa_cons (pd_str) (pa_cons (pd_str) (pa_cons (pd_str) (pa_cons (pd_str) (pa_nil))))))) (pss_one (ps_ret (pd_lst (pa_cons (pd_ix (fun _ _ => rfl) (pd_var (i := 0) rfl) (pd_int)) (pa_nil))))) (pss_nil)) (pss_one (ps_ret (pd_lst (pa_nil)))))))
theorem der_p_operands_of {k : Nat} {c : Cl} (ok : ∀ y ∈ names, Own P w K mg base k (Str.ofString y) (c y)) (oks : ∀ q ∈ snames, OwnS P w K mg base k q.2 (Str.ofString q.1) (c q.1)) (zs : ∀ y ∈ blts, mg (Str.ofString y) = none) (cs_FAULTS : GlobDic K w mg "FAULTS" k_FAULTS) {fa : Addr} (cdv : Value) (A : Around) (outer : List PySem.Env) (s : Shared) (H : L2.Hp) (E : L2.XK) (hr : L2.Room k (A.deeper (envOfC "operands_of" (L2.defScope sp_operands_of) s.heap.objs.size fa cdv))) :
    PDSs (L2.cxOf L2.CX0 P w K mg base np_operands_of "operands_of" (L2.defScope sp_operands_of) fa cdv A outer s H E).nox (L2.defBody sp_operands_of) (b_p_operands_of c) := by
  have nd := scp_operands_of.nd
  unfold b_p_operands_of
  exact pss_cons (ps_if (pt_cmp L2.op_in_seq (real_in false) (by rfl) (pd_ix (fun _ _ => rfl) (pd_var (i := 0) rfl) (pd_int)) (pd_tup (pa_cons (pd_str) (pa_cons (pd_str) (pa_cons (pd_str) (pa_cons (pd_str) (pa_nil))))))) (pss_one (ps_ret (pd_lst (pa_nil)))) (pss_nil)) (pss_cons (ps_if (pt_cmp (L2.op_eqD hr.units) real_eq (by rfl) (pd_ix (fun _ _ => rfl) (pd_var (i := 0) rfl) (pd_int)) (pd_str)) (pss_one (ps_ret (pd_lst (pa_cons (pd_ix (fun _ _ => rfl) (pd_var (i := 0) rfl) (pd_int)) (pa_nil))))) (pss_nil)) (pss_cons (ps_if (pt_cmp (L2.op_eqD hr.units) real_eq (by rfl) (pd_ix (fun _ _ => rfl) (pd_var (i := 0) rfl) (pd_int)) (pd_str)) (pss_one (ps_ret (pd_lst (pa_cons (pd_ix (fun _ _ => rfl) (pd_var (i := 0) rfl) (pd_int)) (pa_nil))))) (pss_nil)) (pss_one (ps_ret (pd_callTy L2.call_list_of real_listB rfl (zs "list" (by decide)) bt_list (pa_cons (pd_sl (pd_var (i := 0) rfl) (po_some (pd_int)) (po_none)) (pa_nil)))))))
theorem der_p_expr_looks {k : Nat} {c : Cl} (ok : ∀ y ∈ names, Own P w K mg base k (Str.ofString y) (c y)) (oks : ∀ q ∈ snames, OwnS P w K mg base k q.2 (Str.ofString q.1) (c q.1)) (zs : ∀ y ∈ blts, mg (Str.ofString y) = none) (cs_FAULTS : GlobDic K w mg "FAULTS" k_FAULTS) {fa : Addr} (cdv : Value) (A : Around) (outer : List PySem.Env) (s : Shared) (H : L2.Hp) (E : L2.XK) (hr : L2.Room k (A.deeper (envOfC "expr_looks" (L2.defScope sp_expr_looks) s.heap.objs.size fa cdv))) :
    PDSs (L2.cxOf L2.CX0 P w K mg base np_expr_looks "expr_looks" (L2.defScope sp_expr_looks) fa cdv A outer s H E).nox (L2.defBody sp_expr_looks) (b_p_expr_looks c) := by
  have nd := scp_expr_looks.nd
  unfold b_p_expr_looks
  exact pss_cons (ps_set (i := 1) nd rfl (by first | exact .inl rfl | exact .inr rfl) (pd_lst (pa_nil))) (pss_cons (ps_for PassesOwn.never rfl (pi_seq (pd_call (y := "operands_of") (ok "operands_of" (by decide)) hr rfl (pa_cons (pd_var (i := 0) rfl) (pa_nil)))) (pg_name (i := 2) nd rfl (by first | exact .inl rfl | exact .inr rfl)) (pss_one (ps_expr (pd_m mt_extendA real_extendA ty_list PySem.F.plainAttrs_list PySem.F.slot_list_extend PySem.F.type_list_extend (pd_var (i := 1) rfl) (pa_cons (pd_call (y := "expr_looks") (ok "expr_looks" (by decide)) hr rfl (pa_cons (pd_var (i := 2) rfl) (pa_nil))) (pa_nil)))))) (pss_cons (ps_if (pt_inG cs_FAULTS rfl (pd_ix (fun _ _ => rfl) (pd_var (i := 0) rfl) (pd_int))) (pss_one (ps_expr (pd_m L2.mt_append real_append ty_list PySem.F.plainAttrs_list PySem.F.slot_list_append PySem.F.type_list_append (pd_var (i := 1) rfl) (pa_cons (pd_var (i := 0) rfl) (pa_nil))))) (pss_nil)) (pss_one (ps_ret (pd_var (i := 1) rfl)))))
theorem der_p_statement_looks {k : Nat} {c : Cl} (ok : ∀ y ∈ names, Own P w K mg base k (Str.ofString y) (c y)) (oks : ∀ q ∈ snames, OwnS P w K mg base k q.2 (Str.ofString q.1) (c q.1)) (zs : ∀ y ∈ blts, mg (Str.ofString y) = none) (cs_FAULTS : GlobDic K w mg "FAULTS" k_FAULTS) {fa : Addr} (cdv : Value) (A : Around) (outer : List PySem.Env) (s : Shared) (H : L2.Hp) (E : L2.XK) (hr : L2.Room k (A.deeper (envOfC "statement_looks" (L2.defScope sp_statement_looks) s.heap.objs.size fa cdv))) :
    PDSs (L2.cxOf L2.CX0 P w K mg base np_statement_looks "statement_looks" (L2.defScope sp_statement_looks) fa cdv A outer s H E).nox (L2.defBody sp_statement_looks) (b_p_statement_looks c) := by
  have nd := scp_statement_looks.nd
  unfold b_p_statement_looks
  exact pss_cons (ps_set (i := 1) nd rfl (by first | exact .inl rfl | exact .inr rfl) (pd_lst (pa_nil))) (pss_cons (ps_for PassesOwn.never rfl (pi_seq (pd_call (y := "exprs_of") (ok "exprs_of" (by decide)) hr rfl (pa_cons (pd_var (i := 0) rfl) (pa_nil)))) (pg_name (i := 2) nd rfl (by first | exact .inl rfl | exact .inr rfl)) (pss_one (ps_expr (pd_m mt_extendA real_extendA ty_list PySem.F.plainAttrs_list PySem.F.slot_list_extend PySem.F.type_list_extend (pd_var (i := 1) rfl) (pa_cons (pd_call (y := "expr_looks") (ok "expr_looks" (by decide)) hr rfl (pa_cons (pd_var (i := 2) rfl) (pa_nil))) (pa_nil)))))) (pss_one (ps_ret (pd_var (i := 1) rfl))))
theorem der_p_greatest {k : Nat} {c : Cl} (ok : ∀ y ∈ names, Own P w K mg base k (Str.ofString y) (c y)) (oks : ∀ q ∈ snames, OwnS P w K mg base k q.2 (Str.ofString q.1) (c q.1)) (zs : ∀ y ∈ blts, mg (Str.ofString y) = none) (cs_FAULTS : GlobDic K w mg "FAULTS" k_FAULTS) {fa : Addr} (cdv : Value) (A : Around) (outer : List PySem.Env) (s : Shared) (H : L2.Hp) (E : L2.XK) (hr : L2.Room k (A.deeper (envOfC "greatest" (L2.defScope sp_greatest) s.heap.objs.size fa cdv))) :
    PDSs (L2.cxOf L2.CX0 P w K mg base np_greatest "greatest" (L2.defScope sp_greatest) fa cdv A outer s H E).nox (L2.defBody sp_greatest) (b_p_greatest c) := by
  have nd := scp_greatest.nd
  unfold b_p_greatest
  exact pss_one (ps_ret (pd_sub (pd_shl (pd_int) (pd_var (i := 0) rfl)) (pd_int)))
theorem der_p_related {k : Nat} {c : Cl} (ok : ∀ y ∈ names, Own P w K mg base k (Str.ofString y) (c y)) (oks : ∀ q ∈ snames, OwnS P w K mg base k q.2 (Str.ofString q.1) (c q.1)) (zs : ∀ y ∈ blts, mg (Str.ofString y) = none) (cs_FAULTS : GlobDic K w mg "FAULTS" k_FAULTS) {fa : Addr} (cdv : Value) (A : Around) (outer : List PySem.Env) (s : Shared) (H : L2.Hp) (E : L2.XK) (hr : L2.Room k (A.deeper (envOfC "related" (L2.defScope sp_related) s.heap.objs.size fa cdv))) :
    PDSs (L2.cxOf L2.CX0 P w K mg base np_related "related" (L2.defScope sp_related) fa cdv A outer s H E).nox (L2.defBody sp_related) (b_p_related c) := by
  have nd := scp_related.nd
  unfold b_p_related
  exact pss_cons (ps_if (pt_cmp (L2.op_eqD hr.units) real_eq (by rfl) (pd_var (i := 0) rfl) (pd_str)) (pss_one (ps_ret (pd_callTy L2.call_int1 real_intB rfl (zs "int" (by decide)) bt_int (pa_cons (pd_cmp (L2.op_eqD hr.units) real_eq (by rfl) (pd_var (i := 1) rfl) (pd_var (i := 2) rfl)) (pa_nil))))) (pss_nil)) (pss_cons (ps_if (pt_cmp (L2.op_eqD hr.units) real_eq (by rfl) (pd_var (i := 0) rfl) (pd_str)) (pss_one (ps_ret (pd_callTy L2.call_int1 real_intB rfl (zs "int" (by decide)) bt_int (pa_cons (pd_cmp (L2.op_neD hr.units) real_ne (by rfl) (pd_var (i := 1) rfl) (pd_var (i := 2) rfl)) (pa_nil))))) (pss_nil)) (pss_cons (ps_if (pt_cmp (L2.op_eqD hr.units) real_eq (by rfl) (pd_var (i := 0) rfl) (pd_str)) (pss_one (ps_ret (pd_callTy L2.call_int1 real_intB rfl (zs "int" (by decide)) bt_int (pa_cons (pd_cmp L2.op_lt real_lt (by rfl) (pd_var (i := 1) rfl) (pd_var (i := 2) rfl)) (pa_nil))))) (pss_nil)) (pss_one (ps_ret (pd_callTy L2.call_int1 real_intB rfl (zs "int" (by decide)) bt_int (pa_cons (pd_cmp L2.op_le real_le (by rfl) (pd_var (i := 1) rfl) (pd_var (i := 2) rfl)) (pa_nil)))))))
theorem der_p_shifted {k : Nat} {c : Cl} (ok : ∀ y ∈ names, Own P w K mg base k (Str.ofString y) (c y)) (oks : ∀ q ∈ snames, OwnS P w K mg base k q.2 (Str.ofString q.1) (c q.1)) (zs : ∀ y ∈ blts, mg (Str.ofString y) = none) (cs_FAULTS : GlobDic K w mg "FAULTS" k_FAULTS) {fa : Addr} (cdv : Value) (A : Around) (outer : List PySem.Env) (s : Shared) (H : L2.Hp) (E : L2.XK) (hr : L2.Room k (A.deeper (envOfC "shifted" (L2.defScope sp_shifted) s.heap.objs.size fa cdv))) :
    PDSs (L2.cxOf L2.CX0 P w K mg base np_shifted "shifted" (L2.defScope sp_shifted) fa cdv A outer s H E).nox (L2.defBody sp_shifted) (b_p_shifted c) := by
  have nd := scp_shifted.nd
  unfold b_p_shifted
  exact pss_cons (ps_if (pt_cmp L2.op_ge real_ge (by rfl) (pd_var (i := 3) rfl) (pd_var (i := 1) rfl)) (pss_one (ps_ret (pd_int))) (pss_nil)) (pss_cons (ps_if (pt_cmp (L2.op_eqD hr.units) real_eq (by rfl) (pd_var (i := 0) rfl) (pd_str)) (pss_one (ps_ret (pd_and (pd_shl (pd_var (i := 2) rfl) (pd_var (i := 3) rfl)) (pd_call (y := "greatest") (ok "greatest" (by decide)) hr rfl (pa_cons (pd_var (i := 1) rfl) (pa_nil)))))) (pss_nil)) (pss_one (ps_ret (pd_shr (pd_var (i := 2) rfl) (pd_var (i := 3) rfl)))))
theorem der_p_divided {k : Nat} {c : Cl} (ok : ∀ y ∈ names, Own P w K mg base k (Str.ofString y) (c y)) (oks : ∀ q ∈ snames, OwnS P w K mg base k q.2 (Str.ofString q.1) (c q.1)) (zs : ∀ y ∈ blts, mg (Str.ofString y) = none) (cs_FAULTS : GlobDic K w mg "FAULTS" k_FAULTS) {fa : Addr} (cdv : Value) (A : Around) (outer : List PySem.Env) (s : Shared) (H : L2.Hp) (E : L2.XK) (hr : L2.Room k (A.deeper (envOfC "divided" (L2.defScope sp_divided) s.heap.objs.size fa cdv))) :
    PDSs (L2.cxOf L2.CX0 P w K mg base np_divided "divided" (L2.defScope sp_divided) fa cdv A outer s H E).nox (L2.defBody sp_divided) (b_p_divided c) := by
  have nd := scp_divided.nd
  unfold b_p_divided
  exact pss_cons (ps_if (pt_cmp (L2.op_eqD hr.units) real_eq (by rfl) (pd_var (i := 2) rfl) (pd_int)) (pss_one (ps_ret (pd_int))) (pss_nil)) (pss_cons (ps_if (pt_cmp (L2.op_eqD hr.units) real_eq (by rfl) (pd_var (i := 0) rfl) (pd_str)) (pss_one (ps_ret (pd_fdiv (pd_var (i := 1) rfl) (pd_var (i := 2) rfl)))) (pss_nil)) (pss_one (ps_ret (pd_sub (pd_var (i := 1) rfl) (pd_mul (pd_var (i := 2) rfl) (pd_fdiv (pd_var (i := 1) rfl) (pd_var (i := 2) rfl)))))))
theorem der_p_reckoned {k : Nat} {c : Cl} (ok : ∀ y ∈ names, Own P w K mg base k (Str.ofString y) (c y)) (oks : ∀ q ∈ snames, OwnS P w K mg base k q.2 (Str.ofString q.1) (c q.1)) (zs : ∀ y ∈ blts, mg (Str.ofString y) = none) (cs_FAULTS : GlobDic K w mg "FAULTS" k_FAULTS) {fa : Addr} (cdv : Value) (A : Around) (outer : List PySem.Env) (s : Shared) (H : L2.Hp) (E : L2.XK) (hr : L2.Room k (A.deeper (envOfC "reckoned" (L2.defScope sp_reckoned) s.heap.objs.size fa cdv))) :
    PDSs (L2.cxOf L2.CX0 P w K mg base np_reckoned "reckoned" (L2.defScope sp_reckoned) fa cdv A outer s H E).nox (L2.defBody sp_reckoned) (b_p_reckoned c) := by
  have nd := scp_reckoned.nd
  unfold b_p_reckoned
  exact pss_cons (ps_if (pt_cmp (L2.op_eqD hr.units) real_eq (by rfl) (pd_var (i := 0) rfl) (pd_str)) (pss_one (ps_ret (pd_add (pd_var (i := 1) rfl) (pd_var (i := 2) rfl)))) (pss_nil)) (pss_cons (ps_if (pt_cmp (L2.op_eqD hr.units) real_eq (by rfl) (pd_var (i := 0) rfl) (pd_str)) (pss_one (ps_ret (pd_sub (pd_var (i := 1) rfl) (pd_var (i := 2) rfl)))) (pss_nil)) (pss_cons (ps_if (pt_cmp (L2.op_eqD hr.units) real_eq (by rfl) (pd_var (i := 0) rfl) (pd_str)) (pss_one (ps_ret (pd_mul (pd_var (i := 1) rfl) (pd_var (i := 2) rfl)))) (pss_nil)) (pss_cons (ps_if (pt_cmp (L2.op_eqD hr.units) real_eq (by rfl) (pd_var (i := 0) rfl) (pd_str)) (pss_one (ps_ret (pd_and (pd_var (i := 1) rfl) (pd_var (i := 2) rfl)))) (pss_nil)) (pss_cons (ps_if (pt_cmp (L2.op_eqD hr.units) real_eq (by rfl) (pd_var (i := 0) rfl) (pd_str)) (pss_one (ps_ret (pd_or (pd_var (i := 1) rfl) (pd_var (i := 2) rfl)))) (pss_nil)) (pss_one (ps_ret (pd_xor (pd_var (i := 1) rfl) (pd_var (i := 2) rfl))))))))
theorem der_p_result {k : Nat} {c : Cl} (ok : ∀ y ∈ names, Own P w K mg base k (Str.ofString y) (c y)) (oks : ∀ q ∈ snames, OwnS P w K mg base k q.2 (Str.ofString q.1) (c q.1)) (zs : ∀ y ∈ blts, mg (Str.ofString y) = none) (cs_FAULTS : GlobDic K w mg "FAULTS" k_FAULTS) {fa : Addr} (cdv : Value) (A : Around) (outer : List PySem.Env) (s : Shared) (H : L2.Hp) (E : L2.XK) (hr : L2.Room k (A.deeper (envOfC "result" (L2.defScope sp_result) s.heap.objs.size fa cdv))) :
    PDSs (L2.cxOf L2.CX0 P w K mg base np_result "result" (L2.defScope sp_result) fa cdv A outer s H E).nox (L2.defBody sp_result) (b_p_result c) := by
  have nd := scp_result.nd
  unfold b_p_result
  exact pss_cons (ps_set (i := 3) nd rfl (by first | exact .inl rfl | exact .inr rfl) (pd_ix (fun _ _ => rfl) (pd_var (i := 2) rfl) (pd_int))) (pss_cons (ps_if (pt_cmp (L2.op_eqD hr.units) real_eq (by rfl) (pd_var (i := 0) rfl) (pd_str)) (pss_one (ps_ret (pd_sub (pd_call (y := "greatest") (ok "greatest" (by decide)) hr rfl (pa_cons (pd_var (i := 1) rfl) (pa_nil))) (pd_var (i := 3) rfl)))) (pss_nil)) (pss_cons (ps_if (pt_cmp (L2.op_eqD hr.units) real_eq (by rfl) (pd_var (i := 0) rfl) (pd_str)) (pss_one (ps_ret (pd_and (pd_neg (pd_var (i := 3) rfl)) (pd_call (y := "greatest") (ok "greatest" (by decide)) hr rfl (pa_cons (pd_var (i := 1) rfl) (pa_nil)))))) (pss_nil)) (pss_cons (ps_if (pt_cmp (L2.op_eqD hr.units) real_eq (by rfl) (pd_var (i := 0) rfl) (pd_str)) (pss_one (ps_ret (pd_and (pd_var (i := 3) rfl) (pd_call (y := "greatest") (ok "greatest" (by decide)) hr rfl (pa_cons (pd_var (i := 1) rfl) (pa_nil)))))) (pss_nil)) (pss_cons (ps_if (pt_cmp (L2.op_eqD hr.units) real_eq (by rfl) (pd_var (i := 0) rfl) (pd_str)) (pss_one (ps_ret (pd_if (pt_cmp (L2.op_eqD hr.units) real_eq (by rfl) (pd_var (i := 3) rfl) (pd_int)) (pd_ix (fun _ _ => rfl) (pd_var (i := 2) rfl) (pd_int)) (pd_ix (fun _ _ => rfl) (pd_var (i := 2) rfl) (pd_int))))) (pss_nil)) (pss_cons (ps_set (i := 4) nd rfl (by first | exact .inl rfl | exact .inr rfl) (pd_ix (fun _ _ => rfl) (pd_var (i := 2) rfl) (pd_int))) (pss_cons (ps_if (pt_cmp L2.op_in_seq (real_in false) (by rfl) (pd_var (i := 0) rfl) (pd_tup (pa_cons (pd_str) (pa_cons (pd_str) (pa_cons (pd_str) (pa_cons (pd_str) (pa_nil))))))) (pss_one (ps_ret (pd_call (y := "related") (ok "related" (by decide)) hr rfl (pa_cons (pd_var (i := 0) rfl) (pa_cons (pd_var (i := 3) rfl) (pa_cons (pd_var (i := 4) rfl) (pa_nil))))))) (pss_nil)) (pss_cons (ps_if (pt_cmp L2.op_in_seq (real_in false) (by rfl) (pd_var (i := 0) rfl) (pd_tup (pa_cons (pd_str) (pa_cons (pd_str) (pa_nil))))) (pss_one (ps_ret (pd_call (y := "shifted") (ok "shifted" (by decide)) hr rfl (pa_cons (pd_var (i := 0) rfl) (pa_cons (pd_var (i := 1) rfl) (pa_cons (pd_var (i := 3) rfl) (pa_cons (pd_var (i := 4) rfl) (pa_nil)))))))) (pss_nil)) (pss_cons (ps_if (pt_cmp L2.op_in_seq (real_in false) (by rfl) (pd_var (i := 0) rfl) (pd_tup (pa_cons (pd_str) (pa_cons (pd_str) (pa_nil))))) (pss_one (ps_ret (pd_call (y := "divided") (ok "divided" (by decide)) hr rfl (pa_cons (pd_var (i := 0) rfl) (pa_cons (pd_var (i := 3) rfl) (pa_cons (pd_var (i := 4) rfl) (pa_nil))))))) (pss_nil)) (pss_one (ps_ret (pd_and (pd_call (y := "reckoned") (ok "reckoned" (by decide)) hr rfl (pa_cons (pd_var (i := 0) rfl) (pa_cons (pd_var (i := 3) rfl) (pa_cons (pd_var (i := 4) rfl) (pa_nil))))) (pd_call (y := "greatest") (ok "greatest" (by decide)) hr rfl (pa_cons (pd_var (i := 1) rfl) (pa_nil))))))))))))))
theorem der_p_counting_loops {k : Nat} {c : Cl} (ok : ∀ y ∈ names, Own P w K mg base k (Str.ofString y) (c y)) (oks : ∀ q ∈ snames, OwnS P w K mg base k q.2 (Str.ofString q.1) (c q.1)) (zs : ∀ y ∈ blts, mg (Str.ofString y) = none) (cs_FAULTS : GlobDic K w mg "FAULTS" k_FAULTS) {fa : Addr} (cdv : Value) (A : Around) (outer : List PySem.Env) (s : Shared) (H : L2.Hp) (E : L2.XK) (hr : L2.Room k (A.deeper (envOfC "counting_loops" (L2.defScope sp_counting_loops) s.heap.objs.size fa cdv))) :
    PDSs (L2.cxOf L2.CX0 P w K mg base np_counting_loops "counting_loops" (L2.defScope sp_counting_loops) fa cdv A outer s H E).nox (L2.defBody sp_counting_loops) (b_p_counting_loops c) := by
  have nd := scp_counting_loops.nd
  unfold b_p_counting_loops
  exact pss_cons (ps_set (i := 2) nd rfl (by first | exact .inl rfl | exact .inr rfl) (pd_call (y := "declared") (ok "declared" (by decide)) hr rfl (pa_cons (pd_var (i := 0) rfl) (pa_cons (pd_var (i := 1) rfl) (pa_nil))))) (pss_cons (ps_set (i := 3) nd rfl (by first | exact .inl rfl | exact .inr rfl) (pd_call (y := "variables_of") (ok "variables_of" (by decide)) hr rfl (pa_cons (pd_var (i := 0) rfl) (pa_cons (pd_var (i := 2) rfl) (pa_nil))))) (pss_cons (ps_set (i := 4) nd rfl (by first | exact .inl rfl | exact .inr rfl) (pd_lst (pa_nil))) (pss_cons (ps_set (i := 5) nd rfl (by first | exact .inl rfl | exact .inr rfl) (pd_int)) (pss_cons (ps_for PassesOwn.never rfl (pi_seq (pd_call (y := "statements_of") (ok "statements_of" (by decide)) hr rfl (pa_cons (pd_ix (fun _ _ => rfl) (pd_var (i := 2) rfl) (pd_int)) (pa_nil)))) (pg_name (i := 6) nd rfl (by first | exact .inl rfl | exact .inr rfl)) (pss_cons (ps_aug (i := 5) ip_add real_iadd nd rfl (by first | exact .inl rfl | exact .inr rfl) (pd_callB L2.call_len real_lenB rfl (zs "len" (by decide)) bt_len (pa_cons (pd_call (y := "statement_looks") (ok "statement_looks" (by decide)) hr rfl (pa_cons (pd_var (i := 6) rfl) (pa_nil))) (pa_nil)))) (pss_one (ps_if (pt_cmp L2.op_in_seq (real_in false) (by rfl) (pd_ix (fun _ _ => rfl) (pd_var (i := 6) rfl) (pd_int)) (pd_tup (pa_cons (pd_str) (pa_cons (pd_str) (pa_cons (pd_str) (pa_nil)))))) (pss_cons (ps_if (pt_cmp (L2.op_eqD hr.units) real_eq (by rfl) (pd_ix (fun _ _ => rfl) (pd_var (i := 6) rfl) (pd_int)) (pd_str)) (pss_cons (ps_set (i := 7) nd rfl (by first | exact .inl rfl | exact .inr rfl) (pd_call (y := "shape_of") (ok "shape_of" (by decide)) hr rfl (pa_cons (pd_var (i := 3) rfl) (pa_cons (pd_var (i := 6) rfl) (pa_cons (pd_var (i := 5) rfl) (pa_nil)))))) (pss_one (ps_if (pt_cmp L2.op_notN real_isnt (by rfl) (pd_var (i := 7) rfl) (pd_non)) (pss_one (ps_expr (pd_m L2.mt_append real_append ty_list PySem.F.plainAttrs_list PySem.F.slot_list_append PySem.F.type_list_append (pd_var (i := 4) rfl) (pa_cons (pd_var (i := 7) rfl) (pa_nil))))) (pss_nil)))) (pss_nil)) (pss_one (ps_aug (i := 5) ip_add real_iadd nd rfl (by first | exact .inl rfl | exact .inr rfl) (pd_int)))) (pss_nil))))) (pss_one (ps_ret (pd_callTy L2.call_tuple_of real_tupleB rfl (zs "tuple" (by decide)) bt_tuple (pa_cons (pd_var (i := 4) rfl) (pa_nil)))))))))
theorem der_p_shape_of {k : Nat} {c : Cl} (ok : ∀ y ∈ names, Own P w K mg base k (Str.ofString y) (c y)) (oks : ∀ q ∈ snames, OwnS P w K mg base k q.2 (Str.ofString q.1) (c q.1)) (zs : ∀ y ∈ blts, mg (Str.ofString y) = none) (cs_FAULTS : GlobDic K w mg "FAULTS" k_FAULTS) {fa : Addr} (cdv : Value) (A : Around) (outer : List PySem.Env) (s : Shared) (H : L2.Hp) (E : L2.XK) (hr : L2.Room k (A.deeper (envOfC "shape_of" (L2.defScope sp_shape_of) s.heap.objs.size fa cdv))) :
    PDSs (L2.cxOf L2.CX0 P w K mg base np_shape_of "shape_of" (L2.defScope sp_shape_of) fa cdv A outer s H E).nox (L2.defBody sp_shape_of) (b_p_shape_of c) := by
  have nd := scp_shape_of.nd
  unfold b_p_shape_of
  exact pss_cons (ps_set (i := 3) nd rfl (by first | exact .inl rfl | exact .inr rfl) (pd_ix (fun _ _ => rfl) (pd_var (i := 1) rfl) (pd_int))) (pss_cons (ps_if (ptw (pw_or (pt_cmp L2.op_notIn_seq (real_in true) (by rfl) (pd_ix (fun _ _ => rfl) (pd_var (i := 3) rfl) (pd_int)) (pd_tup (pa_cons (pd_str) (pa_cons (pd_str) (pa_cons (pd_str) (pa_nil)))))) (pw_or (pt_cmp (L2.op_neD hr.units) real_ne (by rfl) (pd_ix (fun _ _ => rfl) (pd_ix (fun _ _ => rfl) (pd_var (i := 3) rfl) (pd_int)) (pd_int)) (pd_str)) (pw_or1 (pt_cmp L2.op_notIn_seq (real_in true) (by rfl) (pd_ix (fun _ _ => rfl) (pd_ix (fun _ _ => rfl) (pd_var (i := 3) rfl) (pd_int)) (pd_int)) (pd_tup (pa_cons (pd_str) (pa_cons (pd_str) (pa_nil))))))))) (pss_one (ps_ret (pd_non))) (pss_nil)) (pss_cons (ps_set (i := 4) nd rfl (by first | exact .inl rfl | exact .inr rfl) (pd_lst (pa_nil))) (pss_cons (ps_for PassesOwn.never rfl (pi_seq (pd_ix (fun _ _ => rfl) (pd_var (i := 1) rfl) (pd_int))) (pg_name (i := 5) nd rfl (by first | exact .inl rfl | exact .inr rfl)) (pss_cons (ps_set (i := 6) nd rfl (by first | exact .inl rfl | exact .inr rfl) (pd_call (y := "change_of") (ok "change_of" (by decide)) hr rfl (pa_cons (pd_var (i := 0) rfl) (pa_cons (pd_var (i := 5) rfl) (pa_nil))))) (pss_cons (ps_if (ptw (pw_or (pt_cmp L2.op_isN real_is (by rfl) (pd_var (i := 6) rfl) (pd_non)) (pw_or1 (pt_cmp L2.op_in_seq (real_in false) (by rfl) (pd_ix (fun _ _ => rfl) (pd_var (i := 6) rfl) (pd_int)) (pd_lc (own := [("other", 8)]) rfl nd (pi_seq (pd_var (i := 4) rfl)) (L2.blkOk_by (N := np_shape_of) (sc := L2.defScope sp_shape_of) (by decide +kernel)) (fun _ _ _ _ _ => pg_name (i := 8) nd rfl (by first | exact .inl rfl | exact .inr rfl)) (fun _ _ _ _ _ => pts_nil) (fun _ _ _ _ _ => pd_ix (fun _ _ => rfl) (pd_var (i := 8) rfl) (pd_int)) (by decide)))))) (pss_one (ps_ret (pd_non))) (pss_nil)) (pss_one (ps_expr (pd_m L2.mt_append real_append ty_list PySem.F.plainAttrs_list PySem.F.slot_list_append PySem.F.type_list_append (pd_var (i := 4) rfl) (pa_cons (pd_var (i := 6) rfl) (pa_nil)))))))) (pss_cons (ps_setLc (j := 7) (own := [("change", 6)]) rfl nd rfl rfl (L2.sw_true rfl rfl rfl (by decide +kernel)) (pi_seq (pd_var (i := 4) rfl)) (L2.blkOk_by (N := np_shape_of) (sc := L2.defScope sp_shape_of) (by decide +kernel)) (fun _ _ _ _ _ => pg_name (i := 6) nd rfl (by first | exact .inl rfl | exact .inr rfl)) (fun _ _ _ _ _ => pts_nil) (fun _ _ _ _ _ => pd_ix (fun _ _ => rfl) (pd_var (i := 6) rfl) (pd_int)) (by decide)) (pss_cons (ps_if (ptw (pw_or (pt_cmp L2.op_notIn_seq (real_in true) (by rfl) (pd_ix (fun _ _ => rfl) (pd_ix (fun _ _ => rfl) (pd_var (i := 3) rfl) (pd_int)) (pd_int)) (pd_var (i := 7) rfl)) (pw_or1 (ptw (pw_and (pt_cmp (L2.op_eqD hr.units) real_eq (by rfl) (pd_ix (fun _ _ => rfl) (pd_ix (fun _ _ => rfl) (pd_var (i := 3) rfl) (pd_int)) (pd_int)) (pd_str)) (pw_and1 (pt_cmp L2.op_in_seq (real_in false) (by rfl) (pd_ix (fun _ _ => rfl) (pd_ix (fun _ _ => rfl) (pd_var (i := 3) rfl) (pd_int)) (pd_int)) (pd_var (i := 7) rfl)))))))) (pss_one (ps_ret (pd_non))) (pss_nil)) (pss_one (ps_ret (pd_tup (pa_cons (pd_str) (pa_cons (pd_var (i := 2) rfl) (pa_cons (pd_ix (fun _ _ => rfl) (pd_ix (fun _ _ => rfl) (pd_var (i := 3) rfl) (pd_int)) (pd_int)) (pa_cons (pd_ix (fun _ _ => rfl) (pd_var (i := 3) rfl) (pd_int)) (pa_cons (pd_ix (fun _ _ => rfl) (pd_var (i := 3) rfl) (pd_int)) (pa_cons (pd_callTy L2.call_tuple_of real_tupleB rfl (zs "tuple" (by decide)) bt_tuple (pa_cons (pd_var (i := 4) rfl) (pa_nil))) (pa_nil)))))))))))))))
theorem der_p_change_of {k : Nat} {c : Cl} (ok : ∀ y ∈ names, Own P w K mg base k (Str.ofString y) (c y)) (oks : ∀ q ∈ snames, OwnS P w K mg base k q.2 (Str.ofString q.1) (c q.1)) (zs : ∀ y ∈ blts, mg (Str.ofString y) = none) (cs_FAULTS : GlobDic K w mg "FAULTS" k_FAULTS) {fa : Addr} (cdv : Value) (A : Around) (outer : List PySem.Env) (s : Shared) (H : L2.Hp) (E : L2.XK) (hr : L2.Room k (A.deeper (envOfC "change_of" (L2.defScope sp_change_of) s.heap.objs.size fa cdv))) :
    PDSs (L2.cxOf L2.CX0 P w K mg base np_change_of "change_of" (L2.defScope sp_change_of) fa cdv A outer s H E).nox (L2.defBody sp_change_of) (b_p_change_of c) := by
  have nd := scp_change_of.nd
  unfold b_p_change_of
  exact pss_cons (ps_if (ptw (pw_or (pt_cmp (L2.op_neD hr.units) real_ne (by rfl) (pd_ix (fun _ _ => rfl) (pd_var (i := 1) rfl) (pd_int)) (pd_str)) (pw_or (pt_cmp (L2.op_neD hr.units) real_ne (by rfl) (pd_ix (fun _ _ => rfl) (pd_ix (fun _ _ => rfl) (pd_var (i := 1) rfl) (pd_int)) (pd_int)) (pd_str)) (pw_or1 (pt_cmp L2.op_notIn_seq (real_in true) (by rfl) (pd_ix (fun _ _ => rfl) (pd_ix (fun _ _ => rfl) (pd_var (i := 1) rfl) (pd_int)) (pd_int)) (pd_tup (pa_cons (pd_str) (pa_cons (pd_str) (pa_nil))))))))) (pss_one (ps_ret (pd_non))) (pss_nil)) (pss_cons (ps_if (ptw (pw_or (pt_cmp (L2.op_neD hr.units) real_ne (by rfl) (pd_ix (fun _ _ => rfl) (pd_ix (fun _ _ => rfl) (pd_var (i := 1) rfl) (pd_int)) (pd_int)) (pd_ix (fun _ _ => rfl) (pd_var (i := 1) rfl) (pd_int))) (pw_or (pt_cmp (L2.op_neD hr.units) real_ne (by rfl) (pd_ix (fun _ _ => rfl) (pd_ix (fun _ _ => rfl) (pd_ix (fun _ _ => rfl) (pd_var (i := 1) rfl) (pd_int)) (pd_int)) (pd_int)) (pd_str)) (pw_or1 (pt_cmp (L2.op_neD hr.units) real_ne (by rfl) (pd_ix (fun _ _ => rfl) (pd_getA hr (pd_var (i := 0) rfl) (pd_ix (fun _ _ => rfl) (pd_ix (fun _ _ => rfl) (pd_var (i := 1) rfl) (pd_int)) (pd_int))) (pd_int)) (pd_str)))))) (pss_one (ps_ret (pd_non))) (pss_nil)) (pss_cons (ps_par rfl nd rfl rfl (by decide) (L2.ps_par rfl nd rfl rfl (by decide) rfl rfl (pa_cons (pd_ix (fun _ _ => rfl) (pd_ix (fun _ _ => rfl) (pd_ix (fun _ _ => rfl) (pd_var (i := 1) rfl) (pd_int)) (pd_int)) (pd_int)) (pa_cons (pd_ix (fun _ _ => rfl) (pd_ix (fun _ _ => rfl) (pd_ix (fun _ _ => rfl) (pd_var (i := 1) rfl) (pd_int)) (pd_int)) (pd_int)) (pa_nil))) (by rfl))) (pss_one (ps_ret (pd_tup (pa_cons (pd_ix (fun _ _ => rfl) (pd_ix (fun _ _ => rfl) (pd_var (i := 1) rfl) (pd_int)) (pd_int)) (pa_cons (pd_var (i := 3) rfl) (pa_cons (pd_if (pt_cmp (L2.op_eqD hr.units) real_eq (by rfl) (pd_ix (fun _ _ => rfl) (pd_ix (fun _ _ => rfl) (pd_var (i := 1) rfl) (pd_int)) (pd_int)) (pd_str)) (pd_var (i := 2) rfl) (pd_callS (y := "result") (oks ("result", 2) (by decide)) hr rfl (pa_cons (pd_str) (pa_cons (pd_var (i := 3) rfl) (pa_cons (pd_var (i := 2) rfl) (pa_nil)))))) (pa_nil)))))))))
theorem der_l_begin {k : Nat} {c : Cl} (ok : ∀ y ∈ names, Own P w K mg base k (Str.ofString y) (c y)) (oks : ∀ q ∈ snames, OwnS P w K mg base k q.2 (Str.ofString q.1) (c q.1)) (zs : ∀ y ∈ blts, mg (Str.ofString y) = none) (cs_FAULTS : GlobDic K w mg "FAULTS" k_FAULTS) {fa : Addr} (cdv : Value) (A : Around) (outer : List PySem.Env) (s : Shared) (H : L2.Hp) (E : L2.XK) (hr : L2.Room k (A.deeper (envOfC "_law_begin" (L2.defScope sl_begin) s.heap.objs.size fa cdv))) :
    PDSs (L2.cxOf L2.CX0 P w K mg base nl_begin "_law_begin" (L2.defScope sl_begin) fa cdv A outer s H E).nox (L2.defBody sl_begin) (b_l_begin c) := by
  have nd := scl_begin.nd
  unfold b_l_begin
  exact pss_one (ps_ret (pd_lst (pa_cons (pd_lc (own := [("_law_cell", 1)]) rfl nd (pi_seq (pd_var (i := 0) rfl)) (L2.blkOk_by (N := nl_begin) (sc := L2.defScope sl_begin) (by decide +kernel)) (fun _ _ _ _ _ => pg_name (i := 1) nd rfl (by first | exact .inl rfl | exact .inr rfl)) (fun _ _ _ _ _ => pts_nil) (fun _ _ _ _ _ => pd_callTy L2.call_int1 real_intB rfl (zs "int" (by decide)) bt_int (pa_cons (pd_var (i := 1) rfl) (pa_nil))) (by decide)) (pa_cons (pd_int) (pa_cons (pd_int) (pa_cons (pd_int) (pa_cons (pd_int) (pa_nil))))))))
theorem der_l_draw {k : Nat} {c : Cl} (ok : ∀ y ∈ names, Own P w K mg base k (Str.ofString y) (c y)) (oks : ∀ q ∈ snames, OwnS P w K mg base k q.2 (Str.ofString q.1) (c q.1)) (zs : ∀ y ∈ blts, mg (Str.ofString y) = none) (cs_FAULTS : GlobDic K w mg "FAULTS" k_FAULTS) {fa : Addr} (cdv : Value) (A : Around) (outer : List PySem.Env) (s : Shared) (H : L2.Hp) (E : L2.XK) (hr : L2.Room k (A.deeper (envOfC "_law_draw" (L2.defScope sl_draw) s.heap.objs.size fa cdv))) :
    PDSs (L2.cxOf L2.CX0 P w K mg base nl_draw "_law_draw" (L2.defScope sl_draw) fa cdv A outer s H E).nox (L2.defBody sl_draw) (b_l_draw c) := by
  have nd := scl_draw.nd
  unfold b_l_draw
  exact pss_cons (ps_if (pt_cmp L2.op_gt real_gt (by rfl) (pd_ix (fun _ _ => rfl) (pd_var (i := 0) rfl) (pd_int)) (pd_int)) (pss_cons (ps_set (i := 2) nd rfl (by first | exact .inl rfl | exact .inr rfl) (pd_ix (fun _ _ => rfl) (pd_var (i := 0) rfl) (pd_int))) (pss_cons (ps_asg (pd_fdiv (pd_var (i := 2) rfl) (pd_var (i := 1) rfl)) (pg_sub (pd_var (i := 0) rfl) (pd_int))) (pss_one (ps_ret (pd_mod (pd_callTy L2.call_int1 real_intB rfl (zs "int" (by decide)) bt_int (pa_cons (pd_var (i := 2) rfl) (pa_nil))) (pd_var (i := 1) rfl)))))) (pss_nil)) (pss_cons (ps_set (i := 3) nd rfl (by first | exact .inl rfl | exact .inr rfl) (pd_int)) (pss_cons (ps_if (pt_cmp L2.op_lt real_lt (by rfl) (pd_ix (fun _ _ => rfl) (pd_var (i := 0) rfl) (pd_int)) (pd_callB L2.call_len real_lenB rfl (zs "len" (by decide)) bt_len (pa_cons (pd_ix (fun _ _ => rfl) (pd_var (i := 0) rfl) (pd_int)) (pa_nil)))) (pss_cons (ps_set (i := 4) nd rfl (by first | exact .inl rfl | exact .inr rfl) (pd_ix (fun _ _ => rfl) (pd_ix (fun _ _ => rfl) (pd_var (i := 0) rfl) (pd_int)) (pd_ix (fun _ _ => rfl) (pd_var (i := 0) rfl) (pd_int)))) (pss_one (ps_set (i := 3) nd rfl (by first | exact .inl rfl | exact .inr rfl) (pd_add (pd_mul (pd_int) (pd_callB L2.call_abs real_absB rfl (zs "abs" (by decide)) bt_abs (pa_cons (pd_var (i := 4) rfl) (pa_nil)))) (pd_callTy L2.call_int1 real_intB rfl (zs "int" (by decide)) bt_int (pa_cons (pd_cmp L2.op_lt real_lt (by rfl) (pd_var (i := 4) rfl) (pd_int)) (pa_nil))))))) (pss_nil)) (pss_cons (ps_augS ip_add real_iadd (pd_var (i := 0) rfl) (pd_int) (pd_int)) (pss_cons (ps_if (pt_cmp L2.op_ge real_ge (by rfl) (pd_var (i := 3) rfl) (pd_mul (pd_int) (pd_pow (pd_int) (pd_int)))) (pss_cons (ps_set (i := 2) nd rfl (by first | exact .inl rfl | exact .inr rfl) (pd_mod (pd_callTy L2.call_int1 real_intB rfl (zs "int" (by decide)) bt_int (pa_cons (pd_fdiv (pd_var (i := 3) rfl) (pd_int)) (pa_nil))) (pd_shl (pd_int) (pd_int)))) (pss_cons (ps_asg (pd_fdiv (pd_var (i := 2) rfl) (pd_var (i := 1) rfl)) (pg_sub (pd_var (i := 0) rfl) (pd_int))) (pss_one (ps_ret (pd_mod (pd_callTy L2.call_int1 real_intB rfl (zs "int" (by decide)) bt_int (pa_cons (pd_var (i := 2) rfl) (pa_nil))) (pd_var (i := 1) rfl)))))) (pss_nil)) (pss_cons (ps_asg (pd_mod (pd_callTy L2.call_int1 real_intB rfl (zs "int" (by decide)) bt_int (pa_cons (pd_add (pd_add (pd_add (pd_mul (pd_ix (fun _ _ => rfl) (pd_var (i := 0) rfl) (pd_int)) (pd_int)) (pd_mul (pd_mod (pd_callTy L2.call_int1 real_intB rfl (zs "int" (by decide)) bt_int (pa_cons (pd_var (i := 3) rfl) (pa_nil))) (pd_int)) (pd_int))) (pd_mul (pd_ix (fun _ _ => rfl) (pd_var (i := 0) rfl) (pd_int)) (pd_int))) (pd_int)) (pa_nil))) (pd_int)) (pg_sub (pd_var (i := 0) rfl) (pd_int))) (pss_one (ps_ret (pd_mod (pd_callTy L2.call_int1 real_intB rfl (zs "int" (by decide)) bt_int (pa_cons (pd_fdiv (pd_ix (fun _ _ => rfl) (pd_var (i := 0) rfl) (pd_int)) (pd_int)) (pa_nil))) (pd_var (i := 1) rfl)))))))))
theorem der_l_pick {k : Nat} {c : Cl} (ok : ∀ y ∈ names, Own P w K mg base k (Str.ofString y) (c y)) (oks : ∀ q ∈ snames, OwnS P w K mg base k q.2 (Str.ofString q.1) (c q.1)) (zs : ∀ y ∈ blts, mg (Str.ofString y) = none) (cs_FAULTS : GlobDic K w mg "FAULTS" k_FAULTS) {fa : Addr} (cdv : Value) (A : Around) (outer : List PySem.Env) (s : Shared) (H : L2.Hp) (E : L2.XK) (hr : L2.Room k (A.deeper (envOfC "_law_pick" (L2.defScope sl_pick) s.heap.objs.size fa cdv))) :
    PDSs (L2.cxOf L2.CX0 P w K mg base nl_pick "_law_pick" (L2.defScope sl_pick) fa cdv A outer s H E).nox (L2.defBody sl_pick) (b_l_pick c) := by
  have nd := scl_pick.nd
  unfold b_l_pick
  exact pss_one (ps_ret (pd_ix (fun _ _ => rfl) (pd_var (i := 1) rfl) (pd_call (y := "_law_draw") (ok "_law_draw" (by decide)) hr rfl (pa_cons (pd_var (i := 0) rfl) (pa_cons (pd_callB L2.call_len real_lenB rfl (zs "len" (by decide)) bt_len (pa_cons (pd_var (i := 1) rfl) (pa_nil))) (pa_nil))))))
theorem der_l_pop {k : Nat} {c : Cl} (ok : ∀ y ∈ names, Own P w K mg base k (Str.ofString y) (c y)) (oks : ∀ q ∈ snames, OwnS P w K mg base k q.2 (Str.ofString q.1) (c q.1)) (zs : ∀ y ∈ blts, mg (Str.ofString y) = none) (cs_FAULTS : GlobDic K w mg "FAULTS" k_FAULTS) {fa : Addr} (cdv : Value) (A : Around) (outer : List PySem.Env) (s : Shared) (H : L2.Hp) (E : L2.XK) (hr : L2.Room k (A.deeper (envOfC "_law_pop" (L2.defScope sl_pop) s.heap.objs.size fa cdv))) :
    PDSs (L2.cxOf L2.CX0 P w K mg base nl_pop "_law_pop" (L2.defScope sl_pop) fa cdv A outer s H E).nox (L2.defBody sl_pop) (b_l_pop c) := by
  have nd := scl_pop.nd
  unfold b_l_pop
  exact pss_one (ps_ret (pd_m L2.mt_popAt real_popAt ty_list PySem.F.plainAttrs_list PySem.F.slot_list_pop PySem.F.type_list_pop (pd_var (i := 1) rfl) (pa_cons (pd_call (y := "_law_draw") (ok "_law_draw" (by decide)) hr rfl (pa_cons (pd_var (i := 0) rfl) (pa_cons (pd_callB L2.call_len real_lenB rfl (zs "len" (by decide)) bt_len (pa_cons (pd_var (i := 1) rfl) (pa_nil))) (pa_nil)))) (pa_nil))))
theorem der_l_shuffled {k : Nat} {c : Cl} (ok : ∀ y ∈ names, Own P w K mg base k (Str.ofString y) (c y)) (oks : ∀ q ∈ snames, OwnS P w K mg base k q.2 (Str.ofString q.1) (c q.1)) (zs : ∀ y ∈ blts, mg (Str.ofString y) = none) (cs_FAULTS : GlobDic K w mg "FAULTS" k_FAULTS) {fa : Addr} (cdv : Value) (A : Around) (outer : List PySem.Env) (s : Shared) (H : L2.Hp) (E : L2.XK) (hr : L2.Room k (A.deeper (envOfC "_law_shuffled" (L2.defScope sl_shuffled) s.heap.objs.size fa cdv))) :
    PDSs (L2.cxOf L2.CX0 P w K mg base nl_shuffled "_law_shuffled" (L2.defScope sl_shuffled) fa cdv A outer s H E).nox (L2.defBody sl_shuffled) (b_l_shuffled c) := by
  have nd := scl_shuffled.nd
  unfold b_l_shuffled
  exact pss_cons (ps_set (i := 2) nd rfl (by first | exact .inl rfl | exact .inr rfl) (pd_callTy L2.call_list_of real_listB rfl (zs "list" (by decide)) bt_list (pa_cons (pd_var (i := 1) rfl) (pa_nil)))) (pss_cons (ps_set (i := 3) nd rfl (by first | exact .inl rfl | exact .inr rfl) (pd_lst (pa_nil))) (pss_cons (ps_for PassesOwn.never rfl (pi_r1 rfl (zs "range" (by decide)) (pd_callB L2.call_len real_lenB rfl (zs "len" (by decide)) bt_len (pa_cons (pd_var (i := 2) rfl) (pa_nil)))) (pg_name (i := 4) nd rfl (by first | exact .inl rfl | exact .inr rfl)) (pss_one (ps_expr (pd_m L2.mt_append real_append ty_list PySem.F.plainAttrs_list PySem.F.slot_list_append PySem.F.type_list_append (pd_var (i := 3) rfl) (pa_cons (pd_m L2.mt_popAt real_popAt ty_list PySem.F.plainAttrs_list PySem.F.slot_list_pop PySem.F.type_list_pop (pd_var (i := 2) rfl) (pa_cons (pd_call (y := "_law_draw") (ok "_law_draw" (by decide)) hr rfl (pa_cons (pd_var (i := 0) rfl) (pa_cons (pd_callB L2.call_len real_lenB rfl (zs "len" (by decide)) bt_len (pa_cons (pd_var (i := 2) rfl) (pa_nil))) (pa_nil)))) (pa_nil))) (pa_nil)))))) (pss_one (ps_ret (pd_var (i := 3) rfl)))))
theorem der_l_pool {k : Nat} {c : Cl} (ok : ∀ y ∈ names, Own P w K mg base k (Str.ofString y) (c y)) (oks : ∀ q ∈ snames, OwnS P w K mg base k q.2 (Str.ofString q.1) (c q.1)) (zs : ∀ y ∈ blts, mg (Str.ofString y) = none) (cs_FAULTS : GlobDic K w mg "FAULTS" k_FAULTS) {fa : Addr} (cdv : Value) (A : Around) (outer : List PySem.Env) (s : Shared) (H : L2.Hp) (E : L2.XK) (hr : L2.Room k (A.deeper (envOfC "_law_pool" (L2.defScope sl_pool) s.heap.objs.size fa cdv))) :
    PDSs (L2.cxOf L2.CX0 P w K mg base nl_pool "_law_pool" (L2.defScope sl_pool) fa cdv A outer s H E).nox (L2.defBody sl_pool) (b_l_pool c) := by
  have nd := scl_pool.nd
  unfold b_l_pool
  exact pss_cons (ps_set (i := 0) nd rfl (by first | exact .inl rfl | exact .inr rfl) (pd_str)) (pss_cons (ps_set (i := 0) nd rfl (by first | exact .inl rfl | exact .inr rfl) (pd_add (pd_var (i := 0) rfl) (pd_str))) (pss_one (ps_ret (pd_m L2.mt_split real_split ty_str PySem.F.plainAttrs_str PySem.F.slot_str_split PySem.F.type_str_split (pd_add (pd_var (i := 0) rfl) (pd_str)) (pa_cons (pd_str) (pa_nil))))))
theorem der_l_is_int {k : Nat} {c : Cl} (ok : ∀ y ∈ names, Own P w K mg base k (Str.ofString y) (c y)) (oks : ∀ q ∈ snames, OwnS P w K mg base k q.2 (Str.ofString q.1) (c q.1)) (zs : ∀ y ∈ blts, mg (Str.ofString y) = none) (cs_FAULTS : GlobDic K w mg "FAULTS" k_FAULTS) {fa : Addr} (cdv : Value) (A : Around) (outer : List PySem.Env) (s : Shared) (H : L2.Hp) (E : L2.XK) (hr : L2.Room k (A.deeper (envOfC "_law_is_int" (L2.defScope sl_is_int) s.heap.objs.size fa cdv))) :
    PDSs (L2.cxOf L2.CX0 P w K mg base nl_is_int "_law_is_int" (L2.defScope sl_is_int) fa cdv A outer s H E).nox (L2.defBody sl_is_int) (b_l_is_int c) := by
  have nd := scl_is_int.nd
  unfold b_l_is_int
  exact pss_one (ps_ret (pd_and' (pd_isi (T := "int") .int rfl (zs "isinstance" (by decide)) rfl rfl (zs "int" (by decide)) bt_int (pd_var (i := 0) rfl)) (pd_one (pd_not (pd_isi (T := "bool") .bool rfl (zs "isinstance" (by decide)) rfl rfl (zs "bool" (by decide)) bt_bool (pd_var (i := 0) rfl))))))
theorem der_l_w_count {k : Nat} {c : Cl} (ok : ∀ y ∈ names, Own P w K mg base k (Str.ofString y) (c y)) (oks : ∀ q ∈ snames, OwnS P w K mg base k q.2 (Str.ofString q.1) (c q.1)) (zs : ∀ y ∈ blts, mg (Str.ofString y) = none) (cs_FAULTS : GlobDic K w mg "FAULTS" k_FAULTS) {fa : Addr} (cdv : Value) (A : Around) (outer : List PySem.Env) (s : Shared) (H : L2.Hp) (E : L2.XK) (hr : L2.Room k (A.deeper (envOfC "_law_w_count" (L2.defScope sl_w_count) s.heap.objs.size fa cdv))) :
    PDSs (L2.cxOf L2.CX0 P w K mg base nl_w_count "_law_w_count" (L2.defScope sl_w_count) fa cdv A outer s H E).nox (L2.defBody sl_w_count) (b_l_w_count c) := by
  have nd := scl_w_count.nd
  unfold b_l_w_count
  exact pss_cons (ps_if (ptw (pw_or (pt_not (pt_tru (pd_isi (T := "tuple") .tuple rfl (zs "isinstance" (by decide)) rfl rfl (zs "tuple" (by decide)) bt_tuple (pd_var (i := 0) rfl)))) (pw_or1 (pt_cmp (L2.op_eqD hr.units) real_eq (by rfl) (pd_callB L2.call_len real_lenB rfl (zs "len" (by decide)) bt_len (pa_cons (pd_var (i := 0) rfl) (pa_nil))) (pd_int))))) (pss_one (ps_ret (pd_int))) (pss_nil)) (pss_cons (ps_set (i := 1) nd rfl (by first | exact .inl rfl | exact .inr rfl) (pd_callB (L2.cr_sum rfl) real_sumB rfl (zs "sum" (by decide)) bt_sum (pa_cons (pd_lc (own := [("_law_part", 2)]) rfl nd (pi_seq (pd_var (i := 0) rfl)) (L2.blkOk_by (N := nl_w_count) (sc := L2.defScope sl_w_count) (by decide +kernel)) (fun _ _ _ _ _ => pg_name (i := 2) nd rfl (by first | exact .inl rfl | exact .inr rfl)) (fun _ _ _ _ _ => pts_nil) (fun _ _ _ _ _ => pd_call (y := "_law_w_count") (ok "_law_w_count" (by decide)) hr rfl (pa_cons (pd_var (i := 2) rfl) (pa_nil))) (by decide)) (pa_nil)))) (pss_one (ps_ret (pd_add (pd_var (i := 1) rfl) (pd_callTy L2.call_int1 real_intB rfl (zs "int" (by decide)) bt_int (pa_cons (pd_cmp (op_inD hr.units) (real_inD false) (by rfl) (pd_ix (fun _ _ => rfl) (pd_var (i := 0) rfl) (pd_int)) (pd_tup (pa_cons (pd_str) (pa_cons (pd_str) (pa_cons (pd_str) (pa_cons (pd_str) (pa_cons (pd_str) (pa_cons (pd_str) (pa_nil))))))))) (pa_nil)))))))
theorem der_l_w_plan {k : Nat} {c : Cl} (ok : ∀ y ∈ names, Own P w K mg base k (Str.ofString y) (c y)) (oks : ∀ q ∈ snames, OwnS P w K mg base k q.2 (Str.ofString q.1) (c q.1)) (zs : ∀ y ∈ blts, mg (Str.ofString y) = none) (cs_FAULTS : GlobDic K w mg "FAULTS" k_FAULTS) {fa : Addr} (cdv : Value) (A : Around) (outer : List PySem.Env) (s : Shared) (H : L2.Hp) (E : L2.XK) (hr : L2.Room k (A.deeper (envOfC "_law_w_plan" (L2.defScope sl_w_plan) s.heap.objs.size fa cdv))) :
    PDSs (L2.cxOf L2.CX0 P w K mg base nl_w_plan "_law_w_plan" (L2.defScope sl_w_plan) fa cdv A outer s H E).nox (L2.defBody sl_w_plan) (b_l_w_plan c) := by
  have nd := scl_w_plan.nd
  unfold b_l_w_plan
  exact pss_cons (ps_set (i := 2) nd rfl (by first | exact .inl rfl | exact .inr rfl) (pd_lst (pa_nil))) (pss_cons (ps_for PassesOwn.never rfl (pi_seq (pd_var (i := 0) rfl)) (pg_name (i := 3) nd rfl (by first | exact .inl rfl | exact .inr rfl)) (pss_cons (ps_set (i := 4) nd rfl (by first | exact .inl rfl | exact .inr rfl) (pd_if (pt_cmp L2.op_in_seq (real_in false) (by rfl) (pd_ix (fun _ _ => rfl) (pd_var (i := 3) rfl) (pd_int)) (pd_tup (pa_cons (pd_str) (pa_cons (pd_str) (pa_nil))))) (pd_sl (pd_var (i := 3) rfl) (po_some (pd_int)) (po_none)) (pd_tup (pa_nil)))) (pss_cons (ps_if (pt_cmp (L2.op_eqD hr.units) real_eq (by rfl) (pd_ix (fun _ _ => rfl) (pd_var (i := 3) rfl) (pd_int)) (pd_str)) (pss_one (ps_set (i := 4) nd rfl (by first | exact .inl rfl | exact .inr rfl) (pd_add (pd_tup (pa_cons (pd_ix (fun _ _ => rfl) (pd_var (i := 3) rfl) (pd_int)) (pa_nil))) (pd_callTy L2.call_tuple_of real_tupleB rfl (zs "tuple" (by decide)) bt_tuple (pa_cons (pd_lc (own := [("_law_row", 9)]) rfl nd (pi_seq (pd_ix (fun _ _ => rfl) (pd_var (i := 3) rfl) (pd_int))) (L2.blkOk_by (N := nl_w_plan) (sc := L2.defScope sl_w_plan) (by decide +kernel)) (fun _ _ _ _ _ => pg_name (i := 9) nd rfl (by first | exact .inl rfl | exact .inr rfl)) (fun _ _ _ _ _ => pts_nil) (fun _ _ _ _ _ => pd_ix (fun _ _ => rfl) (pd_var (i := 9) rfl) (pd_int)) (by decide)) (pa_nil)))))) (pss_nil)) (pss_cons (ps_set (i := 5) nd rfl (by first | exact .inl rfl | exact .inr rfl) (pd_var (i := 1) rfl)) (pss_cons (ps_aug (i := 1) ip_add real_iadd nd rfl (by first | exact .inl rfl | exact .inr rfl) (pd_sub (pd_call (y := "_law_w_count") (ok "_law_w_count" (by decide)) hr rfl (pa_cons (pd_var (i := 3) rfl) (pa_nil))) (pd_callB (L2.cr_sum rfl) real_sumB rfl (zs "sum" (by decide)) bt_sum (pa_cons (pd_lc (own := [("_law_block", 7)]) rfl nd (pi_seq (pd_var (i := 4) rfl)) (L2.blkOk_by (N := nl_w_plan) (sc := L2.defScope sl_w_plan) (by decide +kernel)) (fun _ _ _ _ _ => pg_name (i := 7) nd rfl (by first | exact .inl rfl | exact .inr rfl)) (fun _ _ _ _ _ => pts_nil) (fun _ _ _ _ _ => pd_call (y := "_law_w_count") (ok "_law_w_count" (by decide)) hr rfl (pa_cons (pd_var (i := 7) rfl) (pa_nil))) (by decide)) (pa_nil))))) (pss_cons (ps_set (i := 6) nd rfl (by first | exact .inl rfl | exact .inr rfl) (pd_lst (pa_nil))) (pss_cons (ps_for PassesOwn.never rfl (pi_seq (pd_var (i := 4) rfl)) (pg_name (i := 7) nd rfl (by first | exact .inl rfl | exact .inr rfl)) (pss_cons (ps_asg (pd_call (y := "_law_w_plan") (ok "_law_w_plan" (by decide)) hr rfl (pa_cons (pd_var (i := 7) rfl) (pa_cons (pd_var (i := 1) rfl) (pa_nil)))) (pg_tup rfl (pgs_cons (pg_name (i := 8) nd rfl (by first | exact .inl rfl | exact .inr rfl)) (pgs_cons (pg_name (i := 1) nd rfl (by first | exact .inl rfl | exact .inr rfl)) (pgs_nil))))) (pss_one (ps_expr (pd_m L2.mt_append real_append ty_list PySem.F.plainAttrs_list PySem.F.slot_list_append PySem.F.type_list_append (pd_var (i := 6) rfl) (pa_cons (pd_var (i := 8) rfl) (pa_nil))))))) (pss_one (ps_expr (pd_m L2.mt_append real_append ty_list PySem.F.plainAttrs_list PySem.F.slot_list_append PySem.F.type_list_append (pd_var (i := 2) rfl) (pa_cons (pd_tup (pa_cons (pd_var (i := 3) rfl) (pa_cons (pd_var (i := 5) rfl) (pa_cons (pd_var (i := 6) rfl) (pa_nil))))) (pa_nil)))))))))))) (pss_one (ps_ret (pd_tup (pa_cons (pd_var (i := 2) rfl) (pa_cons (pd_var (i := 1) rfl) (pa_nil)))))))
theorem der_l_w_same {k : Nat} {c : Cl} (ok : ∀ y ∈ names, Own P w K mg base k (Str.ofString y) (c y)) (oks : ∀ q ∈ snames, OwnS P w K mg base k q.2 (Str.ofString q.1) (c q.1)) (zs : ∀ y ∈ blts, mg (Str.ofString y) = none) (cs_FAULTS : GlobDic K w mg "FAULTS" k_FAULTS) {fa : Addr} (cdv : Value) (A : Around) (outer : List PySem.Env) (s : Shared) (H : L2.Hp) (E : L2.XK) (hr : L2.Room k (A.deeper (envOfC "_law_w_same" (L2.defScope sl_w_same) s.heap.objs.size fa cdv))) :
    PDSs (L2.cxOf L2.CX0 P w K mg base nl_w_same "_law_w_same" (L2.defScope sl_w_same) fa cdv A outer s H E).nox (L2.defBody sl_w_same) (b_l_w_same c) := by
  have nd := scl_w_same.nd
  unfold b_l_w_same
  exact pss_cons (ps_if (pt_tru (pd_isi (T := "tuple") .tuple rfl (zs "isinstance" (by decide)) rfl rfl (zs "tuple" (by decide)) bt_tuple (pd_var (i := 1) rfl))) (pss_cons (ps_if (ptw (pw_or (pt_not (pt_tru (pd_isi (T := "tuple") .tuple rfl (zs "isinstance" (by decide)) rfl rfl (zs "tuple" (by decide)) bt_tuple (pd_var (i := 0) rfl)))) (pw_or1 (pt_cmp (L2.op_neD hr.units) real_ne (by rfl) (pd_callB L2.call_len real_lenB rfl (zs "len" (by decide)) bt_len (pa_cons (pd_var (i := 0) rfl) (pa_nil))) (pd_callB L2.call_len real_lenB rfl (zs "len" (by decide)) bt_len (pa_cons (pd_var (i := 1) rfl) (pa_nil))))))) (pss_one (ps_ret (pd_bl))) (pss_nil)) (pss_one (ps_ret (pd_callB (cr_allF rfl) real_allB rfl (zs "all" (by decide)) bt_all (pa_cons (pd_lc (own := [("_law_k", 2)]) rfl nd (pi_r1 rfl (zs "range" (by decide)) (pd_callB L2.call_len real_lenB rfl (zs "len" (by decide)) bt_len (pa_cons (pd_var (i := 1) rfl) (pa_nil)))) (L2.blkOk_by (N := nl_w_same) (sc := L2.defScope sl_w_same) (by decide +kernel)) (fun _ _ _ _ _ => pg_name (i := 2) nd rfl (by first | exact .inl rfl | exact .inr rfl)) (fun _ _ _ _ _ => pts_nil) (fun _ _ _ _ _ => pd_call (y := "_law_w_same") (ok "_law_w_same" (by decide)) hr rfl (pa_cons (pd_ix (fun _ _ => rfl) (pd_var (i := 0) rfl) (pd_var (i := 2) rfl)) (pa_cons (pd_ix (fun _ _ => rfl) (pd_var (i := 1) rfl) (pd_var (i := 2) rfl)) (pa_nil)))) (by decide)) (pa_nil)))))) (pss_nil)) (pss_cons (ps_if (pt_cmp L2.op_isN real_is (by rfl) (pd_var (i := 1) rfl) (pd_non)) (pss_one (ps_ret (pd_cmp L2.op_isN real_is (by rfl) (pd_var (i := 0) rfl) (pd_non)))) (pss_nil)) (pss_cons (ps_if (pt_tru (pd_isi (T := "str") .str rfl (zs "isinstance" (by decide)) rfl rfl (zs "str" (by decide)) bt_str (pd_var (i := 1) rfl))) (pss_one (ps_ret (pd_and' (pd_isi (T := "str") .str rfl (zs "isinstance" (by decide)) rfl rfl (zs "str" (by decide)) bt_str (pd_var (i := 0) rfl)) (pd_one (pd_cmp (L2.op_eqD hr.units) real_eq (by rfl) (pd_var (i := 0) rfl) (pd_var (i := 1) rfl)))))) (pss_nil)) (pss_one (ps_ret (pd_and' (pd_call (y := "_law_is_int") (ok "_law_is_int" (by decide)) hr rfl (pa_cons (pd_var (i := 0) rfl) (pa_nil))) (pd_one (pd_cmp (L2.op_eqD hr.units) real_eq (by rfl) (pd_var (i := 0) rfl) (pd_var (i := 1) rfl))))))))
theorem der_l_surroundings {k : Nat} {c : Cl} (ok : ∀ y ∈ names, Own P w K mg base k (Str.ofString y) (c y)) (oks : ∀ q ∈ snames, OwnS P w K mg base k q.2 (Str.ofString q.1) (c q.1)) (zs : ∀ y ∈ blts, mg (Str.ofString y) = none) (cs_FAULTS : GlobDic K w mg "FAULTS" k_FAULTS) {fa : Addr} (cdv : Value) (A : Around) (outer : List PySem.Env) (s : Shared) (H : L2.Hp) (E : L2.XK) (hr : L2.Room k (A.deeper (envOfC "_law_surroundings" (L2.defScope sl_surroundings) s.heap.objs.size fa cdv))) :
    PDSs (L2.cxOf L2.CX0 P w K mg base nl_surroundings "_law_surroundings" (L2.defScope sl_surroundings) fa cdv A outer s H E).nox (L2.defBody sl_surroundings) (b_l_surroundings c) := by
  have nd := scl_surroundings.nd
  unfold b_l_surroundings
  exact pss_cons (ps_set (i := 3) nd rfl (by first | exact .inl rfl | exact .inr rfl) (pd_lst (pa_cons (pd_add (pd_int) (pd_call (y := "_law_draw") (ok "_law_draw" (by decide)) hr rfl (pa_cons (pd_var (i := 0) rfl) (pa_cons (pd_int) (pa_nil))))) (pa_cons (pd_add (pd_int) (pd_call (y := "_law_draw") (ok "_law_draw" (by decide)) hr rfl (pa_cons (pd_var (i := 0) rfl) (pa_cons (pd_int) (pa_nil))))) (pa_nil))))) (pss_cons (ps_setLc (j := 4) (own := [("_law_k", 7)]) rfl nd rfl rfl (L2.sw_true rfl rfl rfl (by decide +kernel)) (pi_r1 rfl (zs "range" (by decide)) (pd_int)) (L2.blkOk_by (N := nl_surroundings) (sc := L2.defScope sl_surroundings) (by decide +kernel)) (fun _ _ _ _ _ => pg_name (i := 7) nd rfl (by first | exact .inl rfl | exact .inr rfl)) (fun _ _ _ _ _ => pts_nil) (fun _ _ _ _ _ => pd_tup (pa_cons (pd_ix (fun _ _ => rfl) (pd_var (i := 3) rfl) (pd_var (i := 7) rfl)) (pa_cons (pd_lc (own := [("_law_j", 8)]) rfl nd (pi_r1 rfl (zs "range" (by decide)) (pd_sub (pd_int) (pd_var (i := 7) rfl))) (L2.blkOk_by (by rfl)) (fun _ _ _ _ _ => pg_name (i := 8) nd rfl (by first | exact .inl rfl | exact .inr rfl)) (fun _ _ _ _ _ => pts_nil) (fun _ _ _ _ _ => pd_call (y := "_law_pop") (ok "_law_pop" (by decide)) hr rfl (pa_cons (pd_var (i := 0) rfl) (pa_cons (pd_var (i := 1) rfl) (pa_nil)))) (by decide)) (pa_nil)))) (by decide)) (pss_cons (ps_set (i := 5) nd rfl (by first | exact .inl rfl | exact .inr rfl) (pd_tup (pa_cons (pd_call (y := "_law_pop") (ok "_law_pop" (by decide)) hr rfl (pa_cons (pd_var (i := 0) rfl) (pa_cons (pd_var (i := 1) rfl) (pa_nil)))) (pa_cons (pd_ix (fun _ _ => rfl) (pd_var (i := 3) rfl) (pd_int)) (pa_cons (pd_add (pd_int) (pd_call (y := "_law_draw") (ok "_law_draw" (by decide)) hr rfl (pa_cons (pd_var (i := 0) rfl) (pa_cons (pd_int) (pa_nil))))) (pa_nil)))))) (pss_cons (ps_set (i := 6) nd rfl (by first | exact .inl rfl | exact .inr rfl) (pd_lst (pa_cons (pd_call (y := "_law_pop") (ok "_law_pop" (by decide)) hr rfl (pa_cons (pd_var (i := 0) rfl) (pa_cons (pd_var (i := 1) rfl) (pa_nil)))) (pa_cons (pd_call (y := "_law_pop") (ok "_law_pop" (by decide)) hr rfl (pa_cons (pd_var (i := 0) rfl) (pa_cons (pd_var (i := 1) rfl) (pa_nil)))) (pa_nil))))) (pss_one (ps_ret (pd_lst (pa_cons (pd_var (i := 4) rfl) (pa_cons (pd_var (i := 5) rfl) (pa_cons (pd_var (i := 6) rfl) (pa_cons (pd_call (y := "_law_pop") (ok "_law_pop" (by decide)) hr rfl (pa_cons (pd_var (i := 0) rfl) (pa_cons (pd_var (i := 1) rfl) (pa_nil)))) (pa_cons (pd_var (i := 2) rfl) (pa_cons (pd_add (pd_int) (pd_call (y := "_law_draw") (ok "_law_draw" (by decide)) hr rfl (pa_cons (pd_var (i := 0) rfl) (pa_cons (pd_int) (pa_nil))))) (pa_nil)))))))))))))
theorem der_l_index {k : Nat} {c : Cl} (ok : ∀ y ∈ names, Own P w K mg base k (Str.ofString y) (c y)) (oks : ∀ q ∈ snames, OwnS P w K mg base k q.2 (Str.ofString q.1) (c q.1)) (zs : ∀ y ∈ blts, mg (Str.ofString y) = none) (cs_FAULTS : GlobDic K w mg "FAULTS" k_FAULTS) {fa : Addr} (cdv : Value) (A : Around) (outer : List PySem.Env) (s : Shared) (H : L2.Hp) (E : L2.XK) (hr : L2.Room k (A.deeper (envOfC "_law_index" (L2.defScope sl_index) s.heap.objs.size fa cdv))) :
    PDSs (L2.cxOf L2.CX0 P w K mg base nl_index "_law_index" (L2.defScope sl_index) fa cdv A outer s H E).nox (L2.defBody sl_index) (b_l_index c) := by
  have nd := scl_index.nd
  unfold b_l_index
  exact pss_cons (ps_set (i := 1) nd rfl (by first | exact .inl rfl | exact .inr rfl) (pd_add (pd_int) (pd_call (y := "_law_draw") (ok "_law_draw" (by decide)) hr rfl (pa_cons (pd_var (i := 0) rfl) (pa_cons (pd_int) (pa_nil)))))) (pss_one (ps_ret (pd_tup (pa_cons (pd_str) (pa_cons (pd_call (y := "_law_draw") (ok "_law_draw" (by decide)) hr rfl (pa_cons (pd_var (i := 0) rfl) (pa_cons (pd_shl (pd_int) (pd_var (i := 1) rfl)) (pa_nil)))) (pa_cons (pd_var (i := 1) rfl) (pa_nil)))))))
theorem der_l_some_test {k : Nat} {c : Cl} (ok : ∀ y ∈ names, Own P w K mg base k (Str.ofString y) (c y)) (oks : ∀ q ∈ snames, OwnS P w K mg base k q.2 (Str.ofString q.1) (c q.1)) (zs : ∀ y ∈ blts, mg (Str.ofString y) = none) (cs_FAULTS : GlobDic K w mg "FAULTS" k_FAULTS) {fa : Addr} (cdv : Value) (A : Around) (outer : List PySem.Env) (s : Shared) (H : L2.Hp) (E : L2.XK) (hr : L2.Room k (A.deeper (envOfC "_law_some_test" (L2.defScope sl_some_test) s.heap.objs.size fa cdv))) :
    PDSs (L2.cxOf L2.CX0 P w K mg base nl_some_test "_law_some_test" (L2.defScope sl_some_test) fa cdv A outer s H E).nox (L2.defBody sl_some_test) (b_l_some_test c) := by
  have nd := scl_some_test.nd
  unfold b_l_some_test
  exact pss_cons (ps_asg (pd_call (y := "_law_pick") (ok "_law_pick" (by decide)) hr rfl (pa_cons (pd_var (i := 0) rfl) (pa_cons (pd_ix (fun _ _ => rfl) (pd_var (i := 1) rfl) (pd_int)) (pa_nil)))) (pg_tup rfl (pgs_cons (pg_name (i := 2) nd rfl (by first | exact .inl rfl | exact .inr rfl)) (pgs_cons (pg_name (i := 3) nd rfl (by first | exact .inl rfl | exact .inr rfl)) (pgs_nil))))) (pss_cons (ps_set (i := 4) nd rfl (by first | exact .inl rfl | exact .inr rfl) (pd_tup (pa_cons (pd_str) (pa_cons (pd_call (y := "_law_pick") (ok "_law_pick" (by decide)) hr rfl (pa_cons (pd_var (i := 0) rfl) (pa_cons (pd_var (i := 3) rfl) (pa_nil)))) (pa_nil))))) (pss_cons (ps_set (i := 5) nd rfl (by first | exact .inl rfl | exact .inr rfl) (pd_tup (pa_cons (pd_str) (pa_cons (pd_call (y := "_law_draw") (ok "_law_draw" (by decide)) hr rfl (pa_cons (pd_var (i := 0) rfl) (pa_cons (pd_shl (pd_int) (pd_var (i := 2) rfl)) (pa_nil)))) (pa_cons (pd_var (i := 2) rfl) (pa_nil)))))) (pss_cons (ps_if (pt_cmp (L2.op_eqD hr.units) real_eq (by rfl) (pd_call (y := "_law_draw") (ok "_law_draw" (by decide)) hr rfl (pa_cons (pd_var (i := 0) rfl) (pa_cons (pd_int) (pa_nil)))) (pd_int)) (pss_one (ps_set (i := 4) nd rfl (by first | exact .inl rfl | exact .inr rfl) (pd_tup (pa_cons (pd_call (y := "_law_pick") (ok "_law_pick" (by decide)) hr rfl (pa_cons (pd_var (i := 0) rfl) (pa_cons (pd_lst (pa_cons (pd_str) (pa_cons (pd_str) (pa_nil)))) (pa_nil)))) (pa_cons (pd_var (i := 4) rfl) (pa_cons (pd_var (i := 5) rfl) (pa_nil))))))) (pss_nil)) (pss_one (ps_ret (pd_tup (pa_cons (pd_call (y := "_law_pick") (ok "_law_pick" (by decide)) hr rfl (pa_cons (pd_var (i := 0) rfl) (pa_cons (pd_lst (pa_cons (pd_str) (pa_cons (pd_str) (pa_cons (pd_str) (pa_cons (pd_str) (pa_nil)))))) (pa_nil)))) (pa_cons (pd_var (i := 4) rfl) (pa_cons (pd_var (i := 5) rfl) (pa_nil))))))))))
theorem der_l_add {k : Nat} {c : Cl} (ok : ∀ y ∈ names, Own P w K mg base k (Str.ofString y) (c y)) (oks : ∀ q ∈ snames, OwnS P w K mg base k q.2 (Str.ofString q.1) (c q.1)) (zs : ∀ y ∈ blts, mg (Str.ofString y) = none) (cs_FAULTS : GlobDic K w mg "FAULTS" k_FAULTS) {fa : Addr} (cdv : Value) (A : Around) (outer : List PySem.Env) (s : Shared) (H : L2.Hp) (E : L2.XK) (hr : L2.Room k (A.deeper (envOfC "_law_add" (L2.defScope sl_add) s.heap.objs.size fa cdv))) :
    PDSs (L2.cxOf L2.CX0 P w K mg base nl_add "_law_add" (L2.defScope sl_add) fa cdv A outer s H E).nox (L2.defBody sl_add) (b_l_add c) := by
  have nd := scl_add.nd
  unfold b_l_add
  exact pss_one (ps_ret (pd_tup (pa_cons (pd_str) (pa_cons (pd_tup (pa_cons (pd_str) (pa_cons (pd_var (i := 0) rfl) (pa_nil)))) (pa_cons (pd_tup (pa_cons (pd_var (i := 1) rfl) (pa_cons (pd_tup (pa_cons (pd_str) (pa_cons (pd_var (i := 0) rfl) (pa_nil)))) (pa_cons (pd_tup (pa_cons (pd_str) (pa_cons (pd_var (i := 2) rfl) (pa_cons (pd_var (i := 3) rfl) (pa_nil))))) (pa_nil))))) (pa_nil))))))
theorem der_l_item_row {k : Nat} {c : Cl} (ok : ∀ y ∈ names, Own P w K mg base k (Str.ofString y) (c y)) (oks : ∀ q ∈ snames, OwnS P w K mg base k q.2 (Str.ofString q.1) (c q.1)) (zs : ∀ y ∈ blts, mg (Str.ofString y) = none) (cs_FAULTS : GlobDic K w mg "FAULTS" k_FAULTS) {fa : Addr} (cdv : Value) (A : Around) (outer : List PySem.Env) (s : Shared) (H : L2.Hp) (E : L2.XK) (hr : L2.Room k (A.deeper (envOfC "_law_item_row" (L2.defScope sl_item_row) s.heap.objs.size fa cdv))) :
    PDSs (L2.cxOf L2.CX0 P w K mg base nl_item_row "_law_item_row" (L2.defScope sl_item_row) fa cdv A outer s H E).nox (L2.defBody sl_item_row) (b_l_item_row c) := by
  have nd := scl_item_row.nd
  unfold b_l_item_row
  exact pss_cons (ps_set (i := 2) nd rfl (by first | exact .inl rfl | exact .inr rfl) (pd_tup (pa_cons (pd_str) (pa_cons (pd_ix (fun _ _ => rfl) (pd_ix (fun _ _ => rfl) (pd_var (i := 1) rfl) (pd_int)) (pd_int)) (pa_cons (pd_call (y := "_law_index") (ok "_law_index" (by decide)) hr rfl (pa_cons (pd_var (i := 0) rfl) (pa_nil))) (pa_nil)))))) (pss_one (ps_ret (pd_tup (pa_cons (pd_str) (pa_cons (pd_var (i := 2) rfl) (pa_cons (pd_tup (pa_cons (pd_str) (pa_cons (pd_var (i := 2) rfl) (pa_cons (pd_tup (pa_cons (pd_str) (pa_cons (pd_call (y := "_law_draw") (ok "_law_draw" (by decide)) hr rfl (pa_cons (pd_var (i := 0) rfl) (pa_cons (pd_shl (pd_int) (pd_ix (fun _ _ => rfl) (pd_ix (fun _ _ => rfl) (pd_var (i := 1) rfl) (pd_int)) (pd_int))) (pa_nil)))) (pa_cons (pd_ix (fun _ _ => rfl) (pd_ix (fun _ _ => rfl) (pd_var (i := 1) rfl) (pd_int)) (pd_int)) (pa_nil))))) (pa_nil))))) (pa_nil)))))))
theorem der_l_other_row {k : Nat} {c : Cl} (ok : ∀ y ∈ names, Own P w K mg base k (Str.ofString y) (c y)) (oks : ∀ q ∈ snames, OwnS P w K mg base k q.2 (Str.ofString q.1) (c q.1)) (zs : ∀ y ∈ blts, mg (Str.ofString y) = none) (cs_FAULTS : GlobDic K w mg "FAULTS" k_FAULTS) {fa : Addr} (cdv : Value) (A : Around) (outer : List PySem.Env) (s : Shared) (H : L2.Hp) (E : L2.XK) (hr : L2.Room k (A.deeper (envOfC "_law_other_row" (L2.defScope sl_other_row) s.heap.objs.size fa cdv))) :
    PDSs (L2.cxOf L2.CX0 P w K mg base nl_other_row "_law_other_row" (L2.defScope sl_other_row) fa cdv A outer s H E).nox (L2.defBody sl_other_row) (b_l_other_row c) := by
  have nd := scl_other_row.nd
  unfold b_l_other_row
  exact pss_cons (ps_set (i := 2) nd rfl (by first | exact .inl rfl | exact .inr rfl) (pd_call (y := "_law_draw") (ok "_law_draw" (by decide)) hr rfl (pa_cons (pd_var (i := 0) rfl) (pa_cons (pd_int) (pa_nil))))) (pss_cons (ps_if (pt_cmp (L2.op_eqD hr.units) real_eq (by rfl) (pd_var (i := 2) rfl) (pd_int)) (pss_one (ps_ret (pd_tup (pa_cons (pd_str) (pa_cons (pd_call (y := "_law_some_test") (ok "_law_some_test" (by decide)) hr rfl (pa_cons (pd_var (i := 0) rfl) (pa_cons (pd_var (i := 1) rfl) (pa_nil)))) (pa_nil)))))) (pss_nil)) (pss_cons (ps_if (pt_cmp (L2.op_eqD hr.units) real_eq (by rfl) (pd_var (i := 2) rfl) (pd_int)) (pss_one (ps_ret (pd_tup (pa_cons (pd_str) (pa_cons (pd_call (y := "_law_some_test") (ok "_law_some_test" (by decide)) hr rfl (pa_cons (pd_var (i := 0) rfl) (pa_cons (pd_var (i := 1) rfl) (pa_nil)))) (pa_cons (pd_tup (pa_nil)) (pa_cons (pd_tup (pa_nil)) (pa_nil)))))))) (pss_nil)) (pss_cons (ps_if (pt_cmp (L2.op_eqD hr.units) real_eq (by rfl) (pd_var (i := 2) rfl) (pd_int)) (pss_one (ps_ret (pd_tup (pa_cons (pd_str) (pa_cons (pd_ix (fun _ _ => rfl) (pd_var (i := 1) rfl) (pd_int)) (pa_nil)))))) (pss_nil)) (pss_cons (ps_if (pt_cmp (L2.op_eqD hr.units) real_eq (by rfl) (pd_var (i := 2) rfl) (pd_int)) (pss_one (ps_ret (pd_tup (pa_cons (pd_str) (pa_cons (pd_tup (pa_cons (pd_str) (pa_cons (pd_call (y := "_law_draw") (ok "_law_draw" (by decide)) hr rfl (pa_cons (pd_var (i := 0) rfl) (pa_cons (pd_shl (pd_int) (pd_ix (fun _ _ => rfl) (pd_var (i := 1) rfl) (pd_int))) (pa_nil)))) (pa_cons (pd_ix (fun _ _ => rfl) (pd_var (i := 1) rfl) (pd_int)) (pa_nil))))) (pa_nil)))))) (pss_nil)) (pss_cons (ps_if (pt_cmp (L2.op_eqD hr.units) real_eq (by rfl) (pd_var (i := 2) rfl) (pd_int)) (pss_one (ps_ret (pd_tup (pa_cons (pd_str) (pa_cons (pd_ix (fun _ _ => rfl) (pd_ix (fun _ _ => rfl) (pd_var (i := 1) rfl) (pd_int)) (pd_int)) (pa_cons (pd_ix (fun _ _ => rfl) (pd_var (i := 1) rfl) (pd_int)) (pa_nil))))))) (pss_nil)) (pss_cons (ps_if (pt_cmp (L2.op_eqD hr.units) real_eq (by rfl) (pd_var (i := 2) rfl) (pd_int)) (pss_one (ps_ret (pd_tup (pa_cons (pd_str) (pa_cons (pd_tup (pa_cons (pd_str) (pa_cons (pd_ix (fun _ _ => rfl) (pd_ix (fun _ _ => rfl) (pd_var (i := 1) rfl) (pd_int)) (pd_int)) (pa_nil)))) (pa_cons (pd_if (pt_tru (pd_call (y := "_law_draw") (ok "_law_draw" (by decide)) hr rfl (pa_cons (pd_var (i := 0) rfl) (pa_cons (pd_int) (pa_nil))))) (pd_tup (pa_cons (pd_str) (pa_cons (pd_ix (fun _ _ => rfl) (pd_ix (fun _ _ => rfl) (pd_var (i := 1) rfl) (pd_int)) (pd_int)) (pa_nil)))) (pd_tup (pa_cons (pd_str) (pa_nil)))) (pa_nil))))))) (pss_nil)) (pss_cons (ps_if (pt_cmp (L2.op_eqD hr.units) real_eq (by rfl) (pd_var (i := 2) rfl) (pd_int)) (pss_one (ps_ret (pd_tup (pa_cons (pd_str) (pa_cons (pd_tup (pa_nil)) (pa_cons (pd_tup (pa_cons (pd_tup (pa_cons (pd_ix (fun _ _ => rfl) (pd_var (i := 1) rfl) (pd_int)) (pa_cons (pd_tup (pa_nil)) (pa_nil)))) (pa_nil))) (pa_nil))))))) (pss_nil)) (pss_one (ps_ret (pd_call (y := "_law_item_row") (ok "_law_item_row" (by decide)) hr rfl (pa_cons (pd_var (i := 0) rfl) (pa_cons (pd_var (i := 1) rfl) (pa_nil)))))))))))))
theorem der_l_h_changed {k : Nat} {c : Cl} (ok : ∀ y ∈ names, Own P w K mg base k (Str.ofString y) (c y)) (oks : ∀ q ∈ snames, OwnS P w K mg base k q.2 (Str.ofString q.1) (c q.1)) (zs : ∀ y ∈ blts, mg (Str.ofString y) = none) (cs_FAULTS : GlobDic K w mg "FAULTS" k_FAULTS) {fa : Addr} (cdv : Value) (A : Around) (outer : List PySem.Env) (s : Shared) (H : L2.Hp) (E : L2.XK) (hr : L2.Room k (A.deeper (envOfC "_law_h_changed" (L2.defScope sl_h_changed) s.heap.objs.size fa cdv))) :
    PDSs (L2.cxOf L2.CX0 P w K mg base nl_h_changed "_law_h_changed" (L2.defScope sl_h_changed) fa cdv A outer s H E).nox (L2.defBody sl_h_changed) (b_l_h_changed c) := by
  have nd := scl_h_changed.nd
  unfold b_l_h_changed
  exact pss_cons (ps_setLc (j := 5) (own := [("_law_name", 8)]) rfl nd rfl rfl (L2.sw_true rfl rfl rfl (by decide +kernel)) (pi_seq (pd_sl (pd_var (i := 3) rfl) (po_some (pd_int)) (po_none))) (L2.blkOk_by (N := nl_h_changed) (sc := L2.defScope sl_h_changed) (by decide +kernel)) (fun _ _ _ _ _ => pg_name (i := 8) nd rfl (by first | exact .inl rfl | exact .inr rfl)) (fun _ _ _ _ _ => pts_nil) (fun _ _ _ _ _ => pd_tup (pa_cons (pd_var (i := 8) rfl) (pa_cons (pd_ix (fun _ _ => rfl) (pd_var (i := 2) rfl) (pd_int)) (pa_nil)))) (by decide)) (pss_cons (ps_if (pt_cmp (L2.op_eqD hr.units) real_eq (by rfl) (pd_ix (fun _ _ => rfl) (pd_var (i := 4) rfl) (pd_int)) (pd_str)) (pss_one (ps_expr (pd_m L2.mt_append real_append ty_list PySem.F.plainAttrs_list PySem.F.slot_list_append PySem.F.type_list_append (pd_var (i := 5) rfl) (pa_cons (pd_tup (pa_cons (pd_ix (fun _ _ => rfl) (pd_var (i := 3) rfl) (pd_int)) (pa_cons (pd_ix (fun _ _ => rfl) (pd_var (i := 2) rfl) (pd_int)) (pa_nil)))) (pa_nil))))) (pss_nil)) (pss_cons (ps_for PassesOwn.never rfl (pi_seq (pd_ix (fun _ _ => rfl) (pd_var (i := 1) rfl) (pd_int))) (pg_name (i := 6) nd rfl (by first | exact .inl rfl | exact .inr rfl)) (pss_one (ps_if (pt_cmp (L2.op_neD hr.units) real_ne (by rfl) (pd_ix (fun _ _ => rfl) (pd_var (i := 6) rfl) (pd_int)) (pd_ix (fun _ _ => rfl) (pd_var (i := 2) rfl) (pd_int))) (pss_one (ps_expr (pd_m mt_extendA real_extendA ty_list PySem.F.plainAttrs_list PySem.F.slot_list_extend PySem.F.type_list_extend (pd_var (i := 5) rfl) (pa_cons (pd_lc (own := [("_law_name", 8)]) rfl nd (pi_seq (pd_ix (fun _ _ => rfl) (pd_var (i := 6) rfl) (pd_int))) (L2.blkOk_by (N := nl_h_changed) (sc := L2.defScope sl_h_changed) (by decide +kernel)) (fun _ _ _ _ _ => pg_name (i := 8) nd rfl (by first | exact .inl rfl | exact .inr rfl)) (fun _ _ _ _ _ => pts_nil) (fun _ _ _ _ _ => pd_tup (pa_cons (pd_var (i := 8) rfl) (pa_cons (pd_ix (fun _ _ => rfl) (pd_var (i := 6) rfl) (pd_int)) (pa_nil)))) (by decide)) (pa_nil))))) (pss_nil)))) (pss_cons (ps_set (i := 7) nd rfl (by first | exact .inl rfl | exact .inr rfl) (pd_sl (pd_call (y := "_law_shuffled") (ok "_law_shuffled" (by decide)) hr rfl (pa_cons (pd_var (i := 0) rfl) (pa_cons (pd_var (i := 5) rfl) (pa_nil)))) (po_none) (po_some (pd_call (y := "_law_draw") (ok "_law_draw" (by decide)) hr rfl (pa_cons (pd_var (i := 0) rfl) (pa_cons (pd_int) (pa_nil))))))) (pss_one (ps_ret (pd_call (y := "_law_shuffled") (ok "_law_shuffled" (by decide)) hr rfl (pa_cons (pd_var (i := 0) rfl) (pa_cons (pd_add (pd_var (i := 7) rfl) (pd_lst (pa_cons (pd_tup (pa_cons (pd_ix (fun _ _ => rfl) (pd_var (i := 3) rfl) (pd_int)) (pa_cons (pd_ix (fun _ _ => rfl) (pd_var (i := 2) rfl) (pd_int)) (pa_nil)))) (pa_nil)))) (pa_nil)))))))))
theorem der_l_h_loop {k : Nat} {c : Cl} (ok : ∀ y ∈ names, Own P w K mg base k (Str.ofString y) (c y)) (oks : ∀ q ∈ snames, OwnS P w K mg base k q.2 (Str.ofString q.1) (c q.1)) (zs : ∀ y ∈ blts, mg (Str.ofString y) = none) (cs_FAULTS : GlobDic K w mg "FAULTS" k_FAULTS) {fa : Addr} (cdv : Value) (A : Around) (outer : List PySem.Env) (s : Shared) (H : L2.Hp) (E : L2.XK) (hr : L2.Room k (A.deeper (envOfC "_law_h_loop" (L2.defScope sl_h_loop) s.heap.objs.size fa cdv))) :
    PDSs (L2.cxOf L2.CX0 P w K mg base nl_h_loop "_law_h_loop" (L2.defScope sl_h_loop) fa cdv A outer s H E).nox (L2.defBody sl_h_loop) (b_l_h_loop c) := by
  have nd := scl_h_loop.nd
  unfold b_l_h_loop
  exact pss_cons (ps_set (i := 2) nd rfl (by first | exact .inl rfl | exact .inr rfl) (pd_call (y := "_law_pick") (ok "_law_pick" (by decide)) hr rfl (pa_cons (pd_var (i := 0) rfl) (pa_cons (pd_ix (fun _ _ => rfl) (pd_var (i := 1) rfl) (pd_int)) (pa_nil))))) (pss_cons (ps_set (i := 3) nd rfl (by first | exact .inl rfl | exact .inr rfl) (pd_call (y := "_law_shuffled") (ok "_law_shuffled" (by decide)) hr rfl (pa_cons (pd_var (i := 0) rfl) (pa_cons (pd_ix (fun _ _ => rfl) (pd_var (i := 2) rfl) (pd_int)) (pa_nil))))) (pss_cons (ps_set (i := 4) nd rfl (by first | exact .inl rfl | exact .inr rfl) (pd_tup (pa_cons (pd_str) (pa_cons (pd_ix (fun _ _ => rfl) (pd_var (i := 3) rfl) (pd_int)) (pa_nil))))) (pss_cons (ps_if (pt_tru (pd_call (y := "_law_draw") (ok "_law_draw" (by decide)) hr rfl (pa_cons (pd_var (i := 0) rfl) (pa_cons (pd_int) (pa_nil))))) (pss_one (ps_set (i := 4) nd rfl (by first | exact .inl rfl | exact .inr rfl) (pd_tup (pa_cons (pd_str) (pa_cons (pd_call (y := "_law_draw") (ok "_law_draw" (by decide)) hr rfl (pa_cons (pd_var (i := 0) rfl) (pa_cons (pd_shl (pd_int) (pd_ix (fun _ _ => rfl) (pd_var (i := 2) rfl) (pd_int))) (pa_nil)))) (pa_cons (pd_ix (fun _ _ => rfl) (pd_var (i := 2) rfl) (pd_int)) (pa_nil))))))) (pss_nil)) (pss_cons (ps_set (i := 5) nd rfl (by first | exact .inl rfl | exact .inr rfl) (pd_lst (pa_nil))) (pss_cons (ps_set (i := 6) nd rfl (by first | exact .inl rfl | exact .inr rfl) (pd_lst (pa_nil))) (pss_cons (ps_for PassesOwn.never rfl (pi_seq (pd_call (y := "_law_h_changed") (ok "_law_h_changed" (by decide)) hr rfl (pa_cons (pd_var (i := 0) rfl) (pa_cons (pd_var (i := 1) rfl) (pa_cons (pd_var (i := 2) rfl) (pa_cons (pd_var (i := 3) rfl) (pa_cons (pd_var (i := 4) rfl) (pa_nil)))))))) (pg_tup rfl (pgs_cons (pg_name (i := 7) nd rfl (by first | exact .inl rfl | exact .inr rfl)) (pgs_cons (pg_name (i := 8) nd rfl (by first | exact .inl rfl | exact .inr rfl)) (pgs_nil)))) (pss_cons (ps_set (i := 9) nd rfl (by first | exact .inl rfl | exact .inr rfl) (pd_sub (pd_shl (pd_int) (pd_var (i := 8) rfl)) (pd_int))) (pss_cons (ps_set (i := 10) nd rfl (by first | exact .inl rfl | exact .inr rfl) (pd_call (y := "_law_pick") (ok "_law_pick" (by decide)) hr rfl (pa_cons (pd_var (i := 0) rfl) (pa_cons (pd_lst (pa_cons (pd_str) (pa_cons (pd_str) (pa_nil)))) (pa_nil))))) (pss_cons (ps_set (i := 11) nd rfl (by first | exact .inl rfl | exact .inr rfl) (pd_if (pt_tru (pd_call (y := "_law_draw") (ok "_law_draw" (by decide)) hr rfl (pa_cons (pd_var (i := 0) rfl) (pa_cons (pd_int) (pa_nil))))) (pd_ix (fun _ _ => rfl) (pd_lst (pa_cons (pd_int) (pa_cons (pd_int) (pa_cons (pd_var (i := 9) rfl) (pa_nil))))) (pd_call (y := "_law_draw") (ok "_law_draw" (by decide)) hr rfl (pa_cons (pd_var (i := 0) rfl) (pa_cons (pd_int) (pa_nil))))) (pd_call (y := "_law_draw") (ok "_law_draw" (by decide)) hr rfl (pa_cons (pd_var (i := 0) rfl) (pa_cons (pd_shl (pd_int) (pd_var (i := 8) rfl)) (pa_nil)))))) (pss_cons (ps_expr (pd_m L2.mt_append real_append ty_list PySem.F.plainAttrs_list PySem.F.slot_list_append PySem.F.type_list_append (pd_var (i := 5) rfl) (pa_cons (pd_call (y := "_law_add") (ok "_law_add" (by decide)) hr rfl (pa_cons (pd_var (i := 7) rfl) (pa_cons (pd_var (i := 10) rfl) (pa_cons (pd_var (i := 11) rfl) (pa_cons (pd_var (i := 8) rfl) (pa_nil)))))) (pa_nil)))) (pss_one (ps_expr (pd_m L2.mt_append real_append ty_list PySem.F.plainAttrs_list PySem.F.slot_list_append PySem.F.type_list_append (pd_var (i := 6) rfl) (pa_cons (pd_tup (pa_cons (pd_var (i := 7) rfl) (pa_cons (pd_var (i := 8) rfl) (pa_cons (pd_if (pt_cmp (L2.op_eqD hr.units) real_eq (by rfl) (pd_var (i := 10) rfl) (pd_str)) (pd_var (i := 11) rfl) (pd_and (pd_neg (pd_var (i := 11) rfl)) (pd_var (i := 9) rfl))) (pa_nil))))) (pa_nil)))))))))) (pss_cons (ps_set (i := 12) nd rfl (by first | exact .inl rfl | exact .inr rfl) (pd_call (y := "_law_pick") (ok "_law_pick" (by decide)) hr rfl (pa_cons (pd_var (i := 0) rfl) (pa_cons (pd_lst (pa_cons (pd_str) (pa_cons (pd_str) (pa_cons (pd_str) (pa_nil))))) (pa_nil))))) (pss_cons (ps_set (i := 13) nd rfl (by first | exact .inl rfl | exact .inr rfl) (pd_tup (pa_cons (pd_var (i := 12) rfl) (pa_cons (pd_tup (pa_cons (pd_str) (pa_cons (pd_ix (fun _ _ => rfl) (pd_var (i := 3) rfl) (pd_int)) (pa_nil)))) (pa_cons (pd_var (i := 4) rfl) (pa_nil)))))) (pss_cons (ps_set (i := 14) nd rfl (by first | exact .inl rfl | exact .inr rfl) (pd_call (y := "_law_draw") (ok "_law_draw" (by decide)) hr rfl (pa_cons (pd_var (i := 0) rfl) (pa_cons (pd_int) (pa_nil))))) (pss_cons (ps_if (pt_cmp L2.op_lt real_lt (by rfl) (pd_var (i := 14) rfl) (pd_int)) (pss_one (ps_ret (pd_tup (pa_cons (pd_tup (pa_cons (pd_str) (pa_cons (pd_var (i := 13) rfl) (pa_cons (pd_callTy L2.call_tuple_of real_tupleB rfl (zs "tuple" (by decide)) bt_tuple (pa_cons (pd_var (i := 5) rfl) (pa_nil))) (pa_nil))))) (pa_cons (pd_tup (pa_cons (pd_ix (fun _ _ => rfl) (pd_var (i := 3) rfl) (pd_int)) (pa_cons (pd_var (i := 12) rfl) (pa_cons (pd_var (i := 4) rfl) (pa_cons (pd_callTy L2.call_tuple_of real_tupleB rfl (zs "tuple" (by decide)) bt_tuple (pa_cons (pd_var (i := 6) rfl) (pa_nil))) (pa_nil)))))) (pa_nil)))))) (pss_nil)) (pss_cons (ps_if (pt_cmp (L2.op_eqD hr.units) real_eq (by rfl) (pd_var (i := 14) rfl) (pd_int)) (pss_one (ps_ret (pd_tup (pa_cons (pd_tup (pa_cons (pd_str) (pa_cons (pd_call (y := "_law_bad_test") (ok "_law_bad_test" (by decide)) hr rfl (pa_cons (pd_var (i := 0) rfl) (pa_cons (pd_var (i := 1) rfl) (pa_cons (pd_ix (fun _ _ => rfl) (pd_var (i := 2) rfl) (pd_int)) (pa_cons (pd_var (i := 13) rfl) (pa_nil)))))) (pa_cons (pd_callTy L2.call_tuple_of real_tupleB rfl (zs "tuple" (by decide)) bt_tuple (pa_cons (pd_var (i := 5) rfl) (pa_nil))) (pa_nil))))) (pa_cons (pd_non) (pa_nil)))))) (pss_nil)) (pss_one (ps_ret (pd_tup (pa_cons (pd_tup (pa_cons (pd_str) (pa_cons (pd_var (i := 13) rfl) (pa_cons (pd_callTy L2.call_tuple_of real_tupleB rfl (zs "tuple" (by decide)) bt_tuple (pa_cons (pd_call (y := "_law_bad_block") (ok "_law_bad_block" (by decide)) hr rfl (pa_cons (pd_var (i := 0) rfl) (pa_cons (pd_var (i := 1) rfl) (pa_cons (pd_var (i := 13) rfl) (pa_cons (pd_var (i := 5) rfl) (pa_nil)))))) (pa_nil))) (pa_nil))))) (pa_cons (pd_non) (pa_nil)))))))))))))))))
theorem der_l_bad_test {k : Nat} {c : Cl} (ok : ∀ y ∈ names, Own P w K mg base k (Str.ofString y) (c y)) (oks : ∀ q ∈ snames, OwnS P w K mg base k q.2 (Str.ofString q.1) (c q.1)) (zs : ∀ y ∈ blts, mg (Str.ofString y) = none) (cs_FAULTS : GlobDic K w mg "FAULTS" k_FAULTS) {fa : Addr} (cdv : Value) (A : Around) (outer : List PySem.Env) (s : Shared) (H : L2.Hp) (E : L2.XK) (hr : L2.Room k (A.deeper (envOfC "_law_bad_test" (L2.defScope sl_bad_test) s.heap.objs.size fa cdv))) :
    PDSs (L2.cxOf L2.CX0 P w K mg base nl_bad_test "_law_bad_test" (L2.defScope sl_bad_test) fa cdv A outer s H E).nox (L2.defBody sl_bad_test) (b_l_bad_test c) := by
  have nd := scl_bad_test.nd
  unfold b_l_bad_test
  exact pss_cons (ps_asg (pd_var (i := 3) rfl) (pg_tup rfl (pgs_cons (pg_name (i := 4) nd rfl (by first | exact .inl rfl | exact .inr rfl)) (pgs_cons (pg_name (i := 5) nd rfl (by first | exact .inl rfl | exact .inr rfl)) (pgs_cons (pg_name (i := 6) nd rfl (by first | exact .inl rfl | exact .inr rfl)) (pgs_nil)))))) (pss_cons (ps_set (i := 7) nd rfl (by first | exact .inl rfl | exact .inr rfl) (pd_call (y := "_law_draw") (ok "_law_draw" (by decide)) hr rfl (pa_cons (pd_var (i := 0) rfl) (pa_cons (pd_int) (pa_nil))))) (pss_cons (ps_if (pt_cmp (L2.op_eqD hr.units) real_eq (by rfl) (pd_var (i := 7) rfl) (pd_int)) (pss_one (ps_ret (pd_tup (pa_cons (pd_str) (pa_cons (pd_var (i := 5) rfl) (pa_cons (pd_var (i := 6) rfl) (pa_nil))))))) (pss_nil)) (pss_cons (ps_if (pt_cmp (L2.op_eqD hr.units) real_eq (by rfl) (pd_var (i := 7) rfl) (pd_int)) (pss_one (ps_ret (pd_tup (pa_cons (pd_var (i := 4) rfl) (pa_cons (pd_var (i := 6) rfl) (pa_cons (pd_var (i := 5) rfl) (pa_nil))))))) (pss_nil)) (pss_cons (ps_if (pt_cmp (L2.op_eqD hr.units) real_eq (by rfl) (pd_var (i := 7) rfl) (pd_int)) (pss_one (ps_ret (pd_tup (pa_cons (pd_str) (pa_cons (pd_var (i := 3) rfl) (pa_nil)))))) (pss_nil)) (pss_cons (ps_if (pt_cmp (L2.op_eqD hr.units) real_eq (by rfl) (pd_var (i := 7) rfl) (pd_int)) (pss_one (ps_ret (pd_tup (pa_cons (pd_str) (pa_cons (pd_var (i := 3) rfl) (pa_cons (pd_tup (pa_cons (pd_str) (pa_cons (pd_int) (pa_cons (pd_int) (pa_nil))))) (pa_nil))))))) (pss_nil)) (pss_cons (ps_if (pt_cmp (L2.op_eqD hr.units) real_eq (by rfl) (pd_var (i := 7) rfl) (pd_int)) (pss_one (ps_ret (pd_tup (pa_cons (pd_var (i := 4) rfl) (pa_cons (pd_var (i := 5) rfl) (pa_cons (pd_tup (pa_cons (pd_str) (pa_cons (pd_var (i := 6) rfl) (pa_cons (pd_tup (pa_cons (pd_str) (pa_cons (pd_int) (pa_cons (pd_var (i := 2) rfl) (pa_nil))))) (pa_nil))))) (pa_nil))))))) (pss_nil)) (pss_cons (ps_if (pt_cmp (L2.op_eqD hr.units) real_eq (by rfl) (pd_var (i := 7) rfl) (pd_int)) (pss_one (ps_ret (pd_tup (pa_cons (pd_var (i := 4) rfl) (pa_cons (pd_tup (pa_cons (pd_str) (pa_cons (pd_var (i := 5) rfl) (pa_cons (pd_var (i := 2) rfl) (pa_nil))))) (pa_cons (pd_var (i := 6) rfl) (pa_nil))))))) (pss_nil)) (pss_cons (ps_if (pt_cmp (L2.op_eqD hr.units) real_eq (by rfl) (pd_var (i := 7) rfl) (pd_int)) (pss_one (ps_ret (pd_tup (pa_cons (pd_var (i := 4) rfl) (pa_cons (pd_var (i := 5) rfl) (pa_cons (pd_var (i := 5) rfl) (pa_nil))))))) (pss_nil)) (pss_cons (ps_if (pt_cmp (L2.op_eqD hr.units) real_eq (by rfl) (pd_var (i := 7) rfl) (pd_int)) (pss_one (ps_ret (pd_tup (pa_cons (pd_str) (pa_cons (pd_tup (pa_cons (pd_str) (pa_cons (pd_ix (fun _ _ => rfl) (pd_ix (fun _ _ => rfl) (pd_var (i := 1) rfl) (pd_int)) (pd_int)) (pa_nil)))) (pa_cons (pd_tup (pa_cons (pd_str) (pa_nil))) (pa_nil))))))) (pss_nil)) (pss_cons (ps_if (pt_cmp (L2.op_eqD hr.units) real_eq (by rfl) (pd_var (i := 7) rfl) (pd_int)) (pss_one (ps_ret (pd_tup (pa_cons (pd_str) (pa_cons (pd_tup (pa_cons (pd_str) (pa_cons (pd_ix (fun _ _ => rfl) (pd_ix (fun _ _ => rfl) (pd_var (i := 1) rfl) (pd_int)) (pd_int)) (pa_nil)))) (pa_cons (pd_tup (pa_cons (pd_str) (pa_cons (pd_ix (fun _ _ => rfl) (pd_ix (fun _ _ => rfl) (pd_var (i := 1) rfl) (pd_int)) (pd_int)) (pa_nil)))) (pa_nil))))))) (pss_nil)) (pss_cons (ps_if (ptw (pw_and (pt_cmp (L2.op_eqD hr.units) real_eq (by rfl) (pd_var (i := 7) rfl) (pd_int)) (pw_and1 (pt_cmp (L2.op_eqD hr.units) real_eq (by rfl) (pd_var (i := 2) rfl) (pd_ix (fun _ _ => rfl) (pd_ix (fun _ _ => rfl) (pd_var (i := 1) rfl) (pd_int)) (pd_int)))))) (pss_one (ps_ret (pd_tup (pa_cons (pd_var (i := 4) rfl) (pa_cons (pd_var (i := 5) rfl) (pa_cons (pd_tup (pa_cons (pd_str) (pa_cons (pd_ix (fun _ _ => rfl) (pd_ix (fun _ _ => rfl) (pd_var (i := 1) rfl) (pd_int)) (pd_int)) (pa_cons (pd_call (y := "_law_index") (ok "_law_index" (by decide)) hr rfl (pa_cons (pd_var (i := 0) rfl) (pa_nil))) (pa_nil))))) (pa_nil))))))) (pss_nil)) (pss_cons (ps_if (ptw (pw_and (pt_cmp (L2.op_eqD hr.units) real_eq (by rfl) (pd_var (i := 7) rfl) (pd_int)) (pw_and1 (pt_cmp (L2.op_eqD hr.units) real_eq (by rfl) (pd_var (i := 2) rfl) (pd_ix (fun _ _ => rfl) (pd_ix (fun _ _ => rfl) (pd_var (i := 1) rfl) (pd_int)) (pd_int)))))) (pss_one (ps_ret (pd_tup (pa_cons (pd_var (i := 4) rfl) (pa_cons (pd_tup (pa_cons (pd_str) (pa_cons (pd_ix (fun _ _ => rfl) (pd_ix (fun _ _ => rfl) (pd_var (i := 1) rfl) (pd_int)) (pd_int)) (pa_cons (pd_call (y := "_law_index") (ok "_law_index" (by decide)) hr rfl (pa_cons (pd_var (i := 0) rfl) (pa_nil))) (pa_nil))))) (pa_cons (pd_var (i := 6) rfl) (pa_nil))))))) (pss_nil)) (pss_cons (ps_if (pt_cmp (L2.op_eqD hr.units) real_eq (by rfl) (pd_var (i := 7) rfl) (pd_int)) (pss_one (ps_ret (pd_tup (pa_cons (pd_str) (pa_cons (pd_var (i := 5) rfl) (pa_cons (pd_int) (pa_nil))))))) (pss_nil)) (pss_one (ps_ret (pd_tup (pa_cons (pd_str) (pa_cons (pd_call (y := "_law_draw") (ok "_law_draw" (by decide)) hr rfl (pa_cons (pd_var (i := 0) rfl) (pa_cons (pd_int) (pa_nil)))) (pa_cons (pd_int) (pa_nil))))))))))))))))))))
theorem der_l_bad_block {k : Nat} {c : Cl} (ok : ∀ y ∈ names, Own P w K mg base k (Str.ofString y) (c y)) (oks : ∀ q ∈ snames, OwnS P w K mg base k q.2 (Str.ofString q.1) (c q.1)) (zs : ∀ y ∈ blts, mg (Str.ofString y) = none) (cs_FAULTS : GlobDic K w mg "FAULTS" k_FAULTS) {fa : Addr} (cdv : Value) (A : Around) (outer : List PySem.Env) (s : Shared) (H : L2.Hp) (E : L2.XK) (hr : L2.Room k (A.deeper (envOfC "_law_bad_block" (L2.defScope sl_bad_block) s.heap.objs.size fa cdv))) :
    PDSs (L2.cxOf L2.CX0 P w K mg base nl_bad_block "_law_bad_block" (L2.defScope sl_bad_block) fa cdv A outer s H E).nox (L2.defBody sl_bad_block) (b_l_bad_block c) := by
  have nd := scl_bad_block.nd
  unfold b_l_bad_block
  exact pss_cons (ps_set (i := 4) nd rfl (by first | exact .inl rfl | exact .inr rfl) (pd_call (y := "_law_draw") (ok "_law_draw" (by decide)) hr rfl (pa_cons (pd_var (i := 0) rfl) (pa_cons (pd_int) (pa_nil))))) (pss_cons (ps_set (i := 5) nd rfl (by first | exact .inl rfl | exact .inr rfl) (pd_call (y := "_law_draw") (ok "_law_draw" (by decide)) hr rfl (pa_cons (pd_var (i := 0) rfl) (pa_cons (pd_callB L2.call_len real_lenB rfl (zs "len" (by decide)) bt_len (pa_cons (pd_var (i := 3) rfl) (pa_nil))) (pa_nil))))) (pss_cons (ps_set (i := 6) nd rfl (by first | exact .inl rfl | exact .inr rfl) (pd_call (y := "_law_draw") (ok "_law_draw" (by decide)) hr rfl (pa_cons (pd_var (i := 0) rfl) (pa_cons (pd_add (pd_callB L2.call_len real_lenB rfl (zs "len" (by decide)) bt_len (pa_cons (pd_var (i := 3) rfl) (pa_nil))) (pd_int)) (pa_nil))))) (pss_cons (ps_par rfl nd rfl rfl (by decide) (L2.ps_par rfl nd rfl rfl (by decide) rfl rfl (pa_cons (pd_ix (fun _ _ => rfl) (pd_ix (fun _ _ => rfl) (pd_var (i := 3) rfl) (pd_var (i := 5) rfl)) (pd_int)) (pa_cons (pd_ix (fun _ _ => rfl) (pd_ix (fun _ _ => rfl) (pd_ix (fun _ _ => rfl) (pd_var (i := 3) rfl) (pd_var (i := 5) rfl)) (pd_int)) (pd_int)) (pa_nil))) (by rfl))) (pss_cons (ps_if (pt_cmp (L2.op_eqD hr.units) real_eq (by rfl) (pd_var (i := 4) rfl) (pd_int)) (pss_one (ps_ret (pd_lst (pa_nil)))) (pss_nil)) (pss_cons (ps_if (pt_cmp (L2.op_eqD hr.units) real_eq (by rfl) (pd_var (i := 4) rfl) (pd_int)) (pss_one (ps_ret (pd_lc (own := [("_law_row", 12)]) rfl nd (pi_seq (pd_var (i := 3) rfl)) (L2.blkOk_by (N := nl_bad_block) (sc := L2.defScope sl_bad_block) (by decide +kernel)) (fun _ _ _ _ _ => pg_name (i := 12) nd rfl (by first | exact .inl rfl | exact .inr rfl)) (fun _ _ _ _ _ => pts_one (pt_cmp (L2.op_neD hr.units) real_ne (by rfl) (pd_ix (fun _ _ => rfl) (pd_var (i := 12) rfl) (pd_int)) (pd_ix (fun _ _ => rfl) (pd_var (i := 2) rfl) (pd_int)))) (fun _ _ _ _ _ => pd_var (i := 12) rfl) (by decide)))) (pss_nil)) (pss_cons (ps_if (ptw (pw_and (pt_cmp (L2.op_eqD hr.units) real_eq (by rfl) (pd_var (i := 4) rfl) (pd_int)) (pw_and1 (pt_cmp (L2.op_eqD hr.units) real_eq (by rfl) (pd_ix (fun _ _ => rfl) (pd_ix (fun _ _ => rfl) (pd_var (i := 2) rfl) (pd_int)) (pd_int)) (pd_str))))) (pss_one (ps_for PassesOwn.never rfl (pi_seq (pd_ix (fun _ _ => rfl) (pd_var (i := 1) rfl) (pd_int))) (pg_tup rfl (pgs_cons (pg_name (i := 9) nd rfl (by first | exact .inl rfl | exact .inr rfl)) (pgs_cons (pg_name (i := 10) nd rfl (by first | exact .inl rfl | exact .inr rfl)) (pgs_nil)))) (pss_one (ps_if (pt_cmp L2.op_in_seq (real_in false) (by rfl) (pd_ix (fun _ _ => rfl) (pd_ix (fun _ _ => rfl) (pd_var (i := 2) rfl) (pd_int)) (pd_int)) (pd_var (i := 10) rfl)) (pss_cons (ps_set (i := 11) nd rfl (by first | exact .inl rfl | exact .inr rfl) (pd_call (y := "_law_add") (ok "_law_add" (by decide)) hr rfl (pa_cons (pd_ix (fun _ _ => rfl) (pd_ix (fun _ _ => rfl) (pd_var (i := 2) rfl) (pd_int)) (pd_int)) (pa_cons (pd_str) (pa_cons (pd_call (y := "_law_draw") (ok "_law_draw" (by decide)) hr rfl (pa_cons (pd_var (i := 0) rfl) (pa_cons (pd_shl (pd_int) (pd_var (i := 9) rfl)) (pa_nil)))) (pa_cons (pd_var (i := 9) rfl) (pa_nil))))))) (pss_one (ps_ret (pd_add (pd_add (pd_sl (pd_var (i := 3) rfl) (po_none) (po_some (pd_var (i := 6) rfl))) (pd_lst (pa_cons (pd_var (i := 11) rfl) (pa_nil)))) (pd_sl (pd_var (i := 3) rfl) (po_some (pd_var (i := 6) rfl)) (po_none)))))) (pss_nil))))) (pss_nil)) (pss_cons (ps_if (pt_cmp L2.op_lt real_lt (by rfl) (pd_var (i := 4) rfl) (pd_int)) (pss_one (ps_ret (pd_add (pd_add (pd_sl (pd_var (i := 3) rfl) (po_none) (po_some (pd_var (i := 6) rfl))) (pd_lst (pa_cons (pd_call (y := "_law_add") (ok "_law_add" (by decide)) hr rfl (pa_cons (pd_ix (fun _ _ => rfl) (pd_var (i := 7) rfl) (pd_int)) (pa_cons (pd_str) (pa_cons (pd_ix (fun _ _ => rfl) (pd_var (i := 8) rfl) (pd_int)) (pa_cons (pd_ix (fun _ _ => rfl) (pd_var (i := 8) rfl) (pd_int)) (pa_nil)))))) (pa_nil)))) (pd_sl (pd_var (i := 3) rfl) (po_some (pd_var (i := 6) rfl)) (po_none))))) (pss_nil)) (pss_cons (ps_if (pt_cmp (L2.op_eqD hr.units) real_eq (by rfl) (pd_var (i := 4) rfl) (pd_int)) (pss_one (ps_ret (pd_add (pd_add (pd_sl (pd_var (i := 3) rfl) (po_none) (po_some (pd_var (i := 6) rfl))) (pd_lst (pa_cons (pd_call (y := "_law_item_row") (ok "_law_item_row" (by decide)) hr rfl (pa_cons (pd_var (i := 0) rfl) (pa_cons (pd_var (i := 1) rfl) (pa_nil)))) (pa_nil)))) (pd_sl (pd_var (i := 3) rfl) (po_some (pd_var (i := 6) rfl)) (po_none))))) (pss_nil)) (pss_cons (ps_if (pt_cmp (L2.op_eqD hr.units) real_eq (by rfl) (pd_var (i := 4) rfl) (pd_int)) (pss_one (ps_ret (pd_add (pd_add (pd_sl (pd_var (i := 3) rfl) (po_none) (po_some (pd_var (i := 6) rfl))) (pd_lst (pa_cons (pd_call (y := "_law_other_row") (ok "_law_other_row" (by decide)) hr rfl (pa_cons (pd_var (i := 0) rfl) (pa_cons (pd_var (i := 1) rfl) (pa_nil)))) (pa_nil)))) (pd_sl (pd_var (i := 3) rfl) (po_some (pd_var (i := 6) rfl)) (po_none))))) (pss_nil)) (pss_one (ps_ret (pd_add (pd_add (pd_sl (pd_var (i := 3) rfl) (po_none) (po_some (pd_var (i := 5) rfl))) (pd_lst (pa_cons (pd_tup (pa_cons (pd_str) (pa_cons (pd_var (i := 7) rfl) (pa_cons (pd_call (y := "_law_bad_sum") (ok "_law_bad_sum" (by decide)) hr rfl (pa_cons (pd_var (i := 0) rfl) (pa_cons (pd_var (i := 1) rfl) (pa_cons (pd_var (i := 4) rfl) (pa_cons (pd_ix (fun _ _ => rfl) (pd_var (i := 3) rfl) (pd_var (i := 5) rfl)) (pa_nil)))))) (pa_nil))))) (pa_nil)))) (pd_sl (pd_var (i := 3) rfl) (po_some (pd_add (pd_var (i := 5) rfl) (pd_int))) (po_none))))))))))))))
theorem der_l_bad_sum {k : Nat} {c : Cl} (ok : ∀ y ∈ names, Own P w K mg base k (Str.ofString y) (c y)) (oks : ∀ q ∈ snames, OwnS P w K mg base k q.2 (Str.ofString q.1) (c q.1)) (zs : ∀ y ∈ blts, mg (Str.ofString y) = none) (cs_FAULTS : GlobDic K w mg "FAULTS" k_FAULTS) {fa : Addr} (cdv : Value) (A : Around) (outer : List PySem.Env) (s : Shared) (H : L2.Hp) (E : L2.XK) (hr : L2.Room k (A.deeper (envOfC "_law_bad_sum" (L2.defScope sl_bad_sum) s.heap.objs.size fa cdv))) :
    PDSs (L2.cxOf L2.CX0 P w K mg base nl_bad_sum "_law_bad_sum" (L2.defScope sl_bad_sum) fa cdv A outer s H E).nox (L2.defBody sl_bad_sum) (b_l_bad_sum c) := by
  have nd := scl_bad_sum.nd
  unfold b_l_bad_sum
  exact pss_cons (ps_set (i := 4) nd rfl (by first | exact .inl rfl | exact .inr rfl) (pd_ix (fun _ _ => rfl) (pd_var (i := 3) rfl) (pd_int))) (pss_cons (ps_par rfl nd rfl rfl (by decide) (L2.ps_par rfl nd rfl rfl (by decide) rfl rfl (pa_cons (pd_ix (fun _ _ => rfl) (pd_ix (fun _ _ => rfl) (pd_var (i := 3) rfl) (pd_int)) (pd_int)) (pa_cons (pd_ix (fun _ _ => rfl) (pd_ix (fun _ _ => rfl) (pd_var (i := 3) rfl) (pd_int)) (pd_int)) (pa_nil))) (by rfl))) (pss_cons (ps_set (i := 7) nd rfl (by first | exact .inl rfl | exact .inr rfl) (pd_lst (pa_nil))) (pss_cons (ps_for PassesOwn.never rfl (pi_seq (pd_ix (fun _ _ => rfl) (pd_var (i := 1) rfl) (pd_int))) (pg_tup rfl (pgs_cons (pg_name (i := 8) nd rfl (by first | exact .inl rfl | exact .inr rfl)) (pgs_cons (pg_name (i := 9) nd rfl (by first | exact .inl rfl | exact .inr rfl)) (pgs_nil)))) (pss_one (ps_if (pt_cmp L2.op_in_seq (real_in false) (by rfl) (pd_ix (fun _ _ => rfl) (pd_var (i := 4) rfl) (pd_int)) (pd_var (i := 9) rfl)) (pss_one (ps_setLc (j := 7) (own := [("_law_other", 11)]) rfl nd rfl rfl (L2.sw_true rfl rfl rfl (by decide +kernel)) (pi_seq (pd_var (i := 9) rfl)) (L2.blkOk_by (N := nl_bad_sum) (sc := L2.defScope sl_bad_sum) (by decide +kernel)) (fun _ _ _ _ _ => pg_name (i := 11) nd rfl (by first | exact .inl rfl | exact .inr rfl)) (fun _ _ _ _ _ => pts_one (pt_cmp (L2.op_neD hr.units) real_ne (by rfl) (pd_var (i := 11) rfl) (pd_ix (fun _ _ => rfl) (pd_var (i := 4) rfl) (pd_int)))) (fun _ _ _ _ _ => pd_tup (pa_cons (pd_str) (pa_cons (pd_var (i := 11) rfl) (pa_nil)))) (by decide))) (pss_nil)))) (pss_cons (ps_set (i := 10) nd rfl (by first | exact .inl rfl | exact .inr rfl) (pd_call (y := "_law_pick") (ok "_law_pick" (by decide)) hr rfl (pa_cons (pd_var (i := 0) rfl) (pa_cons (pd_var (i := 7) rfl) (pa_nil))))) (pss_cons (ps_if (pt_cmp (L2.op_eqD hr.units) real_eq (by rfl) (pd_var (i := 2) rfl) (pd_int)) (pss_one (ps_ret (pd_tup (pa_cons (pd_var (i := 5) rfl) (pa_cons (pd_var (i := 6) rfl) (pa_cons (pd_var (i := 4) rfl) (pa_nil))))))) (pss_nil)) (pss_cons (ps_if (pt_cmp (L2.op_eqD hr.units) real_eq (by rfl) (pd_var (i := 2) rfl) (pd_int)) (pss_one (ps_ret (pd_tup (pa_cons (pd_var (i := 5) rfl) (pa_cons (pd_var (i := 10) rfl) (pa_cons (pd_var (i := 6) rfl) (pa_nil))))))) (pss_nil)) (pss_cons (ps_if (pt_cmp (L2.op_eqD hr.units) real_eq (by rfl) (pd_var (i := 2) rfl) (pd_int)) (pss_one (ps_ret (pd_tup (pa_cons (pd_var (i := 5) rfl) (pa_cons (pd_var (i := 4) rfl) (pa_cons (pd_var (i := 10) rfl) (pa_nil))))))) (pss_nil)) (pss_cons (ps_if (pt_cmp (L2.op_eqD hr.units) real_eq (by rfl) (pd_var (i := 2) rfl) (pd_int)) (pss_one (ps_ret (pd_tup (pa_cons (pd_call (y := "_law_pick") (ok "_law_pick" (by decide)) hr rfl (pa_cons (pd_var (i := 0) rfl) (pa_cons (pd_lst (pa_cons (pd_str) (pa_cons (pd_str) (pa_cons (pd_str) (pa_cons (pd_str) (pa_cons (pd_str) (pa_cons (pd_str) (pa_cons (pd_str) (pa_cons (pd_str) (pa_nil)))))))))) (pa_nil)))) (pa_cons (pd_var (i := 4) rfl) (pa_cons (pd_var (i := 6) rfl) (pa_nil))))))) (pss_nil)) (pss_cons (ps_if (pt_cmp (L2.op_eqD hr.units) real_eq (by rfl) (pd_var (i := 2) rfl) (pd_int)) (pss_one (ps_ret (pd_var (i := 10) rfl))) (pss_nil)) (pss_cons (ps_if (pt_cmp (L2.op_eqD hr.units) real_eq (by rfl) (pd_var (i := 2) rfl) (pd_int)) (pss_one (ps_ret (pd_var (i := 6) rfl))) (pss_nil)) (pss_cons (ps_if (pt_cmp (L2.op_eqD hr.units) real_eq (by rfl) (pd_var (i := 2) rfl) (pd_int)) (pss_one (ps_ret (pd_tup (pa_cons (pd_var (i := 5) rfl) (pa_cons (pd_tup (pa_cons (pd_var (i := 5) rfl) (pa_cons (pd_var (i := 4) rfl) (pa_cons (pd_var (i := 6) rfl) (pa_nil))))) (pa_cons (pd_var (i := 6) rfl) (pa_nil))))))) (pss_nil)) (pss_one (ps_ret (pd_tup (pa_cons (pd_var (i := 5) rfl) (pa_cons (pd_var (i := 4) rfl) (pa_cons (pd_tup (pa_cons (pd_str) (pa_cons (pd_var (i := 6) rfl) (pa_nil)))) (pa_nil))))))))))))))))))
theorem der_l_piece {k : Nat} {c : Cl} (ok : ∀ y ∈ names, Own P w K mg base k (Str.ofString y) (c y)) (oks : ∀ q ∈ snames, OwnS P w K mg base k q.2 (Str.ofString q.1) (c q.1)) (zs : ∀ y ∈ blts, mg (Str.ofString y) = none) (cs_FAULTS : GlobDic K w mg "FAULTS" k_FAULTS) {fa : Addr} (cdv : Value) (A : Around) (outer : List PySem.Env) (s : Shared) (H : L2.Hp) (E : L2.XK) (hr : L2.Room k (A.deeper (envOfC "_law_piece" (L2.defScope sl_piece) s.heap.objs.size fa cdv))) :
    PDSs (L2.cxOf L2.CX0 P w K mg base nl_piece "_law_piece" (L2.defScope sl_piece) fa cdv A outer s H E).nox (L2.defBody sl_piece) (b_l_piece c) := by
  have nd := scl_piece.nd
  unfold b_l_piece
  exact pss_cons (ps_asg (pd_call (y := "_law_h_loop") (ok "_law_h_loop" (by decide)) hr rfl (pa_cons (pd_var (i := 0) rfl) (pa_cons (pd_var (i := 1) rfl) (pa_nil)))) (pg_tup rfl (pgs_cons (pg_name (i := 2) nd rfl (by first | exact .inl rfl | exact .inr rfl)) (pgs_cons (pg_name (i := 3) nd rfl (by first | exact .inl rfl | exact .inr rfl)) (pgs_nil))))) (pss_cons (ps_set (i := 4) nd rfl (by first | exact .inl rfl | exact .inr rfl) (pd_call (y := "_law_draw") (ok "_law_draw" (by decide)) hr rfl (pa_cons (pd_var (i := 0) rfl) (pa_cons (pd_int) (pa_nil))))) (pss_cons (ps_set (i := 5) nd rfl (by first | exact .inl rfl | exact .inr rfl) (pd_call (y := "_law_some_test") (ok "_law_some_test" (by decide)) hr rfl (pa_cons (pd_var (i := 0) rfl) (pa_cons (pd_var (i := 1) rfl) (pa_nil))))) (pss_cons (ps_if (pt_cmp (L2.op_eqD hr.units) real_eq (by rfl) (pd_var (i := 4) rfl) (pd_int)) (pss_one (ps_ret (pd_tup (pa_cons (pd_tup (pa_cons (pd_str) (pa_cons (pd_var (i := 5) rfl) (pa_cons (pd_tup (pa_cons (pd_var (i := 2) rfl) (pa_nil))) (pa_cons (pd_tup (pa_nil)) (pa_nil)))))) (pa_cons (pd_lst (pa_cons (pd_var (i := 3) rfl) (pa_nil))) (pa_nil)))))) (pss_nil)) (pss_cons (ps_if (pt_cmp (L2.op_eqD hr.units) real_eq (by rfl) (pd_var (i := 4) rfl) (pd_int)) (pss_one (ps_ret (pd_tup (pa_cons (pd_tup (pa_cons (pd_str) (pa_cons (pd_var (i := 5) rfl) (pa_cons (pd_tup (pa_nil)) (pa_cons (pd_tup (pa_cons (pd_var (i := 2) rfl) (pa_nil))) (pa_nil)))))) (pa_cons (pd_lst (pa_cons (pd_var (i := 3) rfl) (pa_nil))) (pa_nil)))))) (pss_nil)) (pss_cons (ps_if (pt_cmp (L2.op_eqD hr.units) real_eq (by rfl) (pd_var (i := 4) rfl) (pd_int)) (pss_one (ps_ret (pd_tup (pa_cons (pd_tup (pa_cons (pd_str) (pa_cons (pd_tup (pa_cons (pd_var (i := 2) rfl) (pa_nil))) (pa_cons (pd_tup (pa_cons (pd_tup (pa_cons (pd_ix (fun _ _ => rfl) (pd_var (i := 1) rfl) (pd_int)) (pa_cons (pd_tup (pa_nil)) (pa_nil)))) (pa_nil))) (pa_nil))))) (pa_cons (pd_lst (pa_cons (pd_var (i := 3) rfl) (pa_nil))) (pa_nil)))))) (pss_nil)) (pss_cons (ps_if (pt_cmp (L2.op_eqD hr.units) real_eq (by rfl) (pd_var (i := 4) rfl) (pd_int)) (pss_one (ps_ret (pd_tup (pa_cons (pd_tup (pa_cons (pd_str) (pa_cons (pd_tup (pa_cons (pd_call (y := "_law_other_row") (ok "_law_other_row" (by decide)) hr rfl (pa_cons (pd_var (i := 0) rfl) (pa_cons (pd_var (i := 1) rfl) (pa_nil)))) (pa_nil))) (pa_cons (pd_tup (pa_cons (pd_tup (pa_cons (pd_ix (fun _ _ => rfl) (pd_var (i := 1) rfl) (pd_int)) (pa_cons (pd_tup (pa_cons (pd_var (i := 2) rfl) (pa_nil))) (pa_nil)))) (pa_nil))) (pa_nil))))) (pa_cons (pd_lst (pa_cons (pd_var (i := 3) rfl) (pa_nil))) (pa_nil)))))) (pss_nil)) (pss_cons (ps_if (pt_cmp (L2.op_eqD hr.units) real_eq (by rfl) (pd_var (i := 4) rfl) (pd_int)) (pss_one (ps_ret (pd_tup (pa_cons (pd_tup (pa_cons (pd_str) (pa_cons (pd_var (i := 5) rfl) (pa_cons (pd_tup (pa_cons (pd_var (i := 2) rfl) (pa_nil))) (pa_nil))))) (pa_cons (pd_lst (pa_cons (pd_non) (pa_cons (pd_var (i := 3) rfl) (pa_nil)))) (pa_nil)))))) (pss_nil)) (pss_cons (ps_if (pt_cmp (L2.op_eqD hr.units) real_eq (by rfl) (pd_var (i := 4) rfl) (pd_int)) (pss_cons (ps_asg (pd_call (y := "_law_h_loop") (ok "_law_h_loop" (by decide)) hr rfl (pa_cons (pd_var (i := 0) rfl) (pa_cons (pd_var (i := 1) rfl) (pa_nil)))) (pg_tup rfl (pgs_cons (pg_name (i := 6) nd rfl (by first | exact .inl rfl | exact .inr rfl)) (pgs_cons (pg_name (i := 7) nd rfl (by first | exact .inl rfl | exact .inr rfl)) (pgs_nil))))) (pss_one (ps_ret (pd_tup (pa_cons (pd_tup (pa_cons (pd_str) (pa_cons (pd_var (i := 5) rfl) (pa_cons (pd_tup (pa_cons (pd_var (i := 6) rfl) (pa_nil))) (pa_cons (pd_tup (pa_cons (pd_var (i := 2) rfl) (pa_nil))) (pa_nil)))))) (pa_cons (pd_lst (pa_cons (pd_var (i := 7) rfl) (pa_cons (pd_var (i := 3) rfl) (pa_nil)))) (pa_nil))))))) (pss_nil)) (pss_one (ps_ret (pd_tup (pa_cons (pd_var (i := 2) rfl) (pa_cons (pd_lst (pa_cons (pd_var (i := 3) rfl) (pa_nil))) (pa_nil))))))))))))))
theorem der_l_whiles {k : Nat} {c : Cl} (ok : ∀ y ∈ names, Own P w K mg base k (Str.ofString y) (c y)) (oks : ∀ q ∈ snames, OwnS P w K mg base k q.2 (Str.ofString q.1) (c q.1)) (zs : ∀ y ∈ blts, mg (Str.ofString y) = none) (cs_FAULTS : GlobDic K w mg "FAULTS" k_FAULTS) {fa : Addr} (cdv : Value) (A : Around) (outer : List PySem.Env) (s : Shared) (H : L2.Hp) (E : L2.XK) (hr : L2.Room k (A.deeper (envOfC "_law_whiles" (L2.defScope sl_whiles) s.heap.objs.size fa cdv))) :
    PDSs (L2.cxOf L2.CX0 P w K mg base nl_whiles "_law_whiles" (L2.defScope sl_whiles) fa cdv A outer s H E).nox (L2.defBody sl_whiles) (b_l_whiles c) := by
  have nd := scl_whiles.nd
  unfold b_l_whiles
  exact pss_cons (ps_set (i := 1) nd rfl (by first | exact .inl rfl | exact .inr rfl) (pd_lst (pa_nil))) (pss_cons (ps_for PassesOwn.never rfl (pi_seq (pd_var (i := 0) rfl)) (pg_name (i := 2) nd rfl (by first | exact .inl rfl | exact .inr rfl)) (pss_cons (ps_if (pt_cmp (L2.op_eqD hr.units) real_eq (by rfl) (pd_ix (fun _ _ => rfl) (pd_ix (fun _ _ => rfl) (pd_var (i := 2) rfl) (pd_int)) (pd_int)) (pd_str)) (pss_one (ps_expr (pd_m L2.mt_append real_append ty_list PySem.F.plainAttrs_list PySem.F.slot_list_append PySem.F.type_list_append (pd_var (i := 1) rfl) (pa_cons (pd_add (pd_ix (fun _ _ => rfl) (pd_var (i := 2) rfl) (pd_int)) (pd_call (y := "_law_w_count") (ok "_law_w_count" (by decide)) hr rfl (pa_cons (pd_ix (fun _ _ => rfl) (pd_ix (fun _ _ => rfl) (pd_var (i := 2) rfl) (pd_int)) (pd_int)) (pa_nil)))) (pa_nil))))) (pss_nil)) (pss_one (ps_for PassesOwn.never rfl (pi_seq (pd_ix (fun _ _ => rfl) (pd_var (i := 2) rfl) (pd_int))) (pg_name (i := 3) nd rfl (by first | exact .inl rfl | exact .inr rfl)) (pss_one (ps_expr (pd_m mt_extendA real_extendA ty_list PySem.F.plainAttrs_list PySem.F.slot_list_extend PySem.F.type_list_extend (pd_var (i := 1) rfl) (pa_cons (pd_call (y := "_law_whiles") (ok "_law_whiles" (by decide)) hr rfl (pa_cons (pd_var (i := 3) rfl) (pa_nil))) (pa_nil))))))))) (pss_one (ps_ret (pd_var (i := 1) rfl))))
theorem der_l_drawn {k : Nat} {c : Cl} (ok : ∀ y ∈ names, Own P w K mg base k (Str.ofString y) (c y)) (oks : ∀ q ∈ snames, OwnS P w K mg base k q.2 (Str.ofString q.1) (c q.1)) (zs : ∀ y ∈ blts, mg (Str.ofString y) = none) (cs_FAULTS : GlobDic K w mg "FAULTS" k_FAULTS) {fa : Addr} (cdv : Value) (A : Around) (outer : List PySem.Env) (s : Shared) (H : L2.Hp) (E : L2.XK) (hr : L2.Room k (A.deeper (envOfC "_law_drawn" (L2.defScope sl_drawn) s.heap.objs.size fa cdv))) :
    PDSs (L2.cxOf L2.CX0 P w K mg base nl_drawn "_law_drawn" (L2.defScope sl_drawn) fa cdv A outer s H E).nox (L2.defBody sl_drawn) (b_l_drawn c) := by
  have nd := scl_drawn.nd
  unfold b_l_drawn
  exact pss_cons (ps_set (i := 4) nd rfl (by first | exact .inl rfl | exact .inr rfl) (pd_call (y := "_law_surroundings") (ok "_law_surroundings" (by decide)) hr rfl (pa_cons (pd_var (i := 0) rfl) (pa_cons (pd_var (i := 1) rfl) (pa_cons (pd_var (i := 3) rfl) (pa_nil)))))) (pss_cons (ps_set (i := 5) nd rfl (by first | exact .inl rfl | exact .inr rfl) (pd_lst (pa_nil))) (pss_cons (ps_set (i := 6) nd rfl (by first | exact .inl rfl | exact .inr rfl) (pd_lst (pa_nil))) (pss_cons (ps_for PassesOwn.never rfl (pi_r1 rfl (zs "range" (by decide)) (pd_call (y := "_law_draw") (ok "_law_draw" (by decide)) hr rfl (pa_cons (pd_var (i := 0) rfl) (pa_cons (pd_int) (pa_nil))))) (pg_name (i := 7) nd rfl (by first | exact .inl rfl | exact .inr rfl)) (pss_cons (ps_if (pt_tru (pd_call (y := "_law_draw") (ok "_law_draw" (by decide)) hr rfl (pa_cons (pd_var (i := 0) rfl) (pa_cons (pd_int) (pa_nil))))) (pss_one (ps_expr (pd_m L2.mt_append real_append ty_list PySem.F.plainAttrs_list PySem.F.slot_list_append PySem.F.type_list_append (pd_var (i := 5) rfl) (pa_cons (pd_call (y := "_law_other_row") (ok "_law_other_row" (by decide)) hr rfl (pa_cons (pd_var (i := 0) rfl) (pa_cons (pd_var (i := 4) rfl) (pa_nil)))) (pa_nil))))) (pss_nil)) (pss_cons (ps_asg (pd_call (y := "_law_piece") (ok "_law_piece" (by decide)) hr rfl (pa_cons (pd_var (i := 0) rfl) (pa_cons (pd_var (i := 4) rfl) (pa_nil)))) (pg_tup rfl (pgs_cons (pg_name (i := 8) nd rfl (by first | exact .inl rfl | exact .inr rfl)) (pgs_cons (pg_name (i := 9) nd rfl (by first | exact .inl rfl | exact .inr rfl)) (pgs_nil))))) (pss_cons (ps_expr (pd_m L2.mt_append real_append ty_list PySem.F.plainAttrs_list PySem.F.slot_list_append PySem.F.type_list_append (pd_var (i := 5) rfl) (pa_cons (pd_var (i := 8) rfl) (pa_nil)))) (pss_one (ps_expr (pd_m mt_extendA real_extendA ty_list PySem.F.plainAttrs_list PySem.F.slot_list_extend PySem.F.type_list_extend (pd_var (i := 6) rfl) (pa_cons (pd_var (i := 9) rfl) (pa_nil))))))))) (pss_cons (ps_set (i := 10) nd rfl (by first | exact .inl rfl | exact .inr rfl) (pd_lst (pa_nil))) (pss_cons (ps_for PassesOwn.never rfl (pi_seq (pd_ix (fun _ _ => rfl) (pd_var (i := 4) rfl) (pd_int))) (pg_tup rfl (pgs_cons (pg_name (i := 11) nd rfl (by first | exact .inl rfl | exact .inr rfl)) (pgs_cons (pg_name (i := 12) nd rfl (by first | exact .inl rfl | exact .inr rfl)) (pgs_nil)))) (pss_one (ps_expr (pd_m mt_extendA real_extendA ty_list PySem.F.plainAttrs_list PySem.F.slot_list_extend PySem.F.type_list_extend (pd_var (i := 10) rfl) (pa_cons (pd_lc (own := [("_law_other", 17)]) rfl nd (pi_seq (pd_var (i := 12) rfl)) (L2.blkOk_by (N := nl_drawn) (sc := L2.defScope sl_drawn) (by decide +kernel)) (fun _ _ _ _ _ => pg_name (i := 17) nd rfl (by first | exact .inl rfl | exact .inr rfl)) (fun _ _ _ _ _ => pts_nil) (fun _ _ _ _ _ => pd_tup (pa_cons (pd_var (i := 17) rfl) (pa_cons (pd_var (i := 11) rfl) (pa_nil)))) (by decide)) (pa_nil)))))) (pss_cons (ps_set (i := 10) nd rfl (by first | exact .inl rfl | exact .inr rfl) (pd_call (y := "_law_shuffled") (ok "_law_shuffled" (by decide)) hr rfl (pa_cons (pd_var (i := 0) rfl) (pa_cons (pd_var (i := 10) rfl) (pa_nil))))) (pss_cons (ps_set (i := 13) nd rfl (by first | exact .inl rfl | exact .inr rfl) (pd_call (y := "_law_draw") (ok "_law_draw" (by decide)) hr rfl (pa_cons (pd_var (i := 0) rfl) (pa_cons (pd_int) (pa_nil))))) (pss_cons (ps_set (i := 14) nd rfl (by first | exact .inl rfl | exact .inr rfl) (pd_add (pd_add (pd_sl (pd_var (i := 10) rfl) (po_some (pd_var (i := 13) rfl)) (po_none)) (pd_lst (pa_cons (pd_ix (fun _ _ => rfl) (pd_var (i := 4) rfl) (pd_int)) (pa_nil)))) (pd_lc (own := [("_law_other", 17)]) rfl nd (pi_seq (pd_ix (fun _ _ => rfl) (pd_var (i := 4) rfl) (pd_int))) (L2.blkOk_by (N := nl_drawn) (sc := L2.defScope sl_drawn) (by decide +kernel)) (fun _ _ _ _ _ => pg_name (i := 17) nd rfl (by first | exact .inl rfl | exact .inr rfl)) (fun _ _ _ _ _ => pts_nil) (fun _ _ _ _ _ => pd_tup (pa_cons (pd_var (i := 17) rfl) (pa_cons (pd_var (i := 3) rfl) (pa_nil)))) (by decide)))) (pss_cons (ps_set (i := 15) nd rfl (by first | exact .inl rfl | exact .inr rfl) (pd_call (y := "_law_whiles") (ok "_law_whiles" (by decide)) hr rfl (pa_cons (pd_ix (fun _ _ => rfl) (pd_call (y := "_law_w_plan") (ok "_law_w_plan" (by decide)) hr rfl (pa_cons (pd_var (i := 5) rfl) (pa_cons (pd_int) (pa_nil)))) (pd_int)) (pa_nil)))) (pss_cons (ps_setLc (j := 16) (own := [("_law_k", 7)]) rfl nd rfl rfl (L2.sw_true rfl rfl rfl (by decide +kernel)) (pi_r1 rfl (zs "range" (by decide)) (pd_callB L2.call_len real_lenB rfl (zs "len" (by decide)) bt_len (pa_cons (pd_var (i := 6) rfl) (pa_nil)))) (L2.blkOk_by (N := nl_drawn) (sc := L2.defScope sl_drawn) (by decide +kernel)) (fun _ _ _ _ _ => pg_name (i := 7) nd rfl (by first | exact .inl rfl | exact .inr rfl)) (fun _ _ _ _ _ => pts_one (pt_cmp L2.op_notN real_isnt (by rfl) (pd_ix (fun _ _ => rfl) (pd_var (i := 6) rfl) (pd_var (i := 7) rfl)) (pd_non))) (fun _ _ _ _ _ => pd_add (pd_tup (pa_cons (pd_str) (pa_cons (pd_ix (fun _ _ => rfl) (pd_var (i := 15) rfl) (pd_var (i := 7) rfl)) (pa_nil)))) (pd_ix (fun _ _ => rfl) (pd_var (i := 6) rfl) (pd_var (i := 7) rfl))) (by decide)) (pss_one (ps_ret (pd_tup (pa_cons (pd_tup (pa_cons (pd_str) (pa_cons (pd_var (i := 2) rfl) (pa_cons (pd_callTy L2.call_tuple_of real_tupleB rfl (zs "tuple" (by decide)) bt_tuple (pa_cons (pd_sl (pd_var (i := 10) rfl) (po_none) (po_some (pd_var (i := 13) rfl))) (pa_nil))) (pa_cons (pd_ix (fun _ _ => rfl) (pd_var (i := 4) rfl) (pd_int)) (pa_cons (pd_int) (pa_cons (pd_callTy L2.call_tuple_of real_tupleB rfl (zs "tuple" (by decide)) bt_tuple (pa_cons (pd_var (i := 14) rfl) (pa_nil))) (pa_cons (pd_callTy L2.call_tuple_of real_tupleB rfl (zs "tuple" (by decide)) bt_tuple (pa_cons (pd_var (i := 5) rfl) (pa_nil))) (pa_nil))))))))) (pa_cons (pd_callTy L2.call_tuple_of real_tupleB rfl (zs "tuple" (by decide)) bt_tuple (pa_cons (pd_var (i := 16) rfl) (pa_nil))) (pa_nil))))))))))))))))
theorem der_l_renamed {k : Nat} {c : Cl} (ok : ∀ y ∈ names, Own P w K mg base k (Str.ofString y) (c y)) (oks : ∀ q ∈ snames, OwnS P w K mg base k q.2 (Str.ofString q.1) (c q.1)) (zs : ∀ y ∈ blts, mg (Str.ofString y) = none) (cs_FAULTS : GlobDic K w mg "FAULTS" k_FAULTS) {fa : Addr} (cdv : Value) (A : Around) (outer : List PySem.Env) (s : Shared) (H : L2.Hp) (E : L2.XK) (hr : L2.Room k (A.deeper (envOfC "_law_renamed" (L2.defScope sl_renamed) s.heap.objs.size fa cdv))) :
    PDSs (L2.cxOf L2.CX0 P w K mg base nl_renamed "_law_renamed" (L2.defScope sl_renamed) fa cdv A outer s H E).nox (L2.defBody sl_renamed) (b_l_renamed c) := by
  have nd := scl_renamed.nd
  unfold b_l_renamed
  exact pss_cons (ps_if (pt_cmp (L2.op_neD hr.units) real_ne (by rfl) (pd_ix (fun _ _ => rfl) (pd_var (i := 0) rfl) (pd_int)) (pd_str)) (pss_one (ps_ret (pd_var (i := 0) rfl))) (pss_nil)) (pss_one (ps_ret (pd_add (pd_add (pd_sl (pd_var (i := 0) rfl) (po_none) (po_some (pd_int))) (pd_tup (pa_cons (pd_ix (fun _ _ => rfl) (pd_var (i := 1) rfl) (pd_sub (pd_int) (pd_m L2.mt_index real_index ty_list PySem.F.plainAttrs_list PySem.F.slot_list_index PySem.F.type_list_index (pd_var (i := 1) rfl) (pa_cons (pd_ix (fun _ _ => rfl) (pd_var (i := 0) rfl) (pd_int)) (pa_nil))))) (pa_nil)))) (pd_sl (pd_var (i := 0) rfl) (po_some (pd_int)) (po_none)))))
theorem der_l_law {k : Nat} {c : Cl} (ok : ∀ y ∈ names, Own P w K mg base k (Str.ofString y) (c y)) (oks : ∀ q ∈ snames, OwnS P w K mg base k q.2 (Str.ofString q.1) (c q.1)) (zs : ∀ y ∈ blts, mg (Str.ofString y) = none) (cs_FAULTS : GlobDic K w mg "FAULTS" k_FAULTS) {fa : Addr} (cdv : Value) (A : Around) (outer : List PySem.Env) (s : Shared) (H : L2.Hp) (E : L2.XK) (hr : L2.Room k (A.deeper (envOfC "law" (L2.defScope sl_law) s.heap.objs.size fa cdv))) :
    PDSs (L2.cxOf L2.CX0 P w K mg base nl_law "law" (L2.defScope sl_law) fa cdv A outer s H E).nox (L2.defBody sl_law) (b_l_law c) := by
  have nd := scl_law.nd
  unfold b_l_law
  exact pss_cons (ps_set (i := 1) nd rfl (by first | exact .inl rfl | exact .inr rfl) (pd_call (y := "_law_begin") (ok "_law_begin" (by decide)) hr rfl (pa_cons (pd_var (i := 0) rfl) (pa_nil)))) (pss_cons (ps_set (i := 2) nd rfl (by first | exact .inl rfl | exact .inr rfl) (pd_call0 (y := "_law_pool") (ok "_law_pool" (by decide)) hr rfl)) (pss_cons (ps_set (i := 3) nd rfl (by first | exact .inl rfl | exact .inr rfl) (pd_tup (pa_cons (pd_str) (pa_cons (pd_call (y := "_law_pop") (ok "_law_pop" (by decide)) hr rfl (pa_cons (pd_var (i := 1) rfl) (pa_cons (pd_var (i := 2) rfl) (pa_nil)))) (pa_cons (pd_tup (pa_nil)) (pa_nil)))))) (pss_cons (ps_set (i := 4) nd rfl (by first | exact .inl rfl | exact .inr rfl) (pd_lst (pa_cons (pd_call (y := "_law_pop") (ok "_law_pop" (by decide)) hr rfl (pa_cons (pd_var (i := 1) rfl) (pa_cons (pd_var (i := 2) rfl) (pa_nil)))) (pa_cons (pd_call (y := "_law_pop") (ok "_law_pop" (by decide)) hr rfl (pa_cons (pd_var (i := 1) rfl) (pa_cons (pd_var (i := 2) rfl) (pa_nil)))) (pa_nil))))) (pss_cons (ps_asg (pd_call (y := "_law_drawn") (ok "_law_drawn" (by decide)) hr rfl (pa_cons (pd_var (i := 1) rfl) (pa_cons (pd_callTy L2.call_list_of real_listB rfl (zs "list" (by decide)) bt_list (pa_cons (pd_var (i := 2) rfl) (pa_nil))) (pa_cons (pd_ix (fun _ _ => rfl) (pd_var (i := 4) rfl) (pd_int)) (pa_cons (pd_ix (fun _ _ => rfl) (pd_var (i := 3) rfl) (pd_int)) (pa_nil)))))) (pg_tup rfl (pgs_cons (pg_name (i := 5) nd rfl (by first | exact .inl rfl | exact .inr rfl)) (pgs_cons (pg_name (i := 6) nd rfl (by first | exact .inl rfl | exact .inr rfl)) (pgs_nil))))) (pss_cons (ps_asg (pd_call (y := "_law_drawn") (ok "_law_drawn" (by decide)) hr rfl (pa_cons (pd_var (i := 1) rfl) (pa_cons (pd_callTy L2.call_list_of real_listB rfl (zs "list" (by decide)) bt_list (pa_cons (pd_var (i := 2) rfl) (pa_nil))) (pa_cons (pd_ix (fun _ _ => rfl) (pd_var (i := 4) rfl) (pd_int)) (pa_cons (pd_ix (fun _ _ => rfl) (pd_var (i := 3) rfl) (pd_int)) (pa_nil)))))) (pg_tup rfl (pgs_cons (pg_name (i := 7) nd rfl (by first | exact .inl rfl | exact .inr rfl)) (pgs_cons (pg_name (i := 8) nd rfl (by first | exact .inl rfl | exact .inr rfl)) (pgs_nil))))) (pss_cons (ps_set (i := 9) nd rfl (by first | exact .inl rfl | exact .inr rfl) (pd_callTy L2.call_tuple_of real_tupleB rfl (zs "tuple" (by decide)) bt_tuple (pa_cons (pd_call (y := "_law_shuffled") (ok "_law_shuffled" (by decide)) hr rfl (pa_cons (pd_var (i := 1) rfl) (pa_cons (pd_lst (pa_cons (pd_var (i := 3) rfl) (pa_cons (pd_var (i := 5) rfl) (pa_cons (pd_var (i := 7) rfl) (pa_nil))))) (pa_nil)))) (pa_nil)))) (pss_cons (ps_for PassesOwn.never rfl (pi_seq (pd_lst (pa_cons (pd_tup (pa_cons (pd_ix (fun _ _ => rfl) (pd_var (i := 4) rfl) (pd_int)) (pa_cons (pd_var (i := 6) rfl) (pa_nil)))) (pa_cons (pd_tup (pa_cons (pd_ix (fun _ _ => rfl) (pd_var (i := 4) rfl) (pd_int)) (pa_cons (pd_var (i := 8) rfl) (pa_nil)))) (pa_cons (pd_tup (pa_cons (pd_ix (fun _ _ => rfl) (pd_var (i := 4) rfl) (pd_int)) (pa_cons (pd_var (i := 6) rfl) (pa_nil)))) (pa_nil)))))) (pg_tup rfl (pgs_cons (pg_name (i := 10) nd rfl (by first | exact .inl rfl | exact .inr rfl)) (pgs_cons (pg_name (i := 11) nd rfl (by first | exact .inl rfl | exact .inr rfl)) (pgs_nil)))) (pss_one (ps_if (pt_not (pt_tru (pd_call (y := "_law_w_same") (ok "_law_w_same" (by decide)) hr rfl (pa_cons (pd_call (y := "counting_loops") (ok "counting_loops" (by decide)) hr rfl (pa_cons (pd_var (i := 9) rfl) (pa_cons (pd_var (i := 10) rfl) (pa_nil)))) (pa_cons (pd_var (i := 11) rfl) (pa_nil)))))) (pss_one (ps_ret (pd_bl))) (pss_nil)))) (pss_cons (ps_set (i := 12) nd rfl (by first | exact .inl rfl | exact .inr rfl) (pd_callTy L2.call_tuple_of real_tupleB rfl (zs "tuple" (by decide)) bt_tuple (pa_cons (pd_lc (own := [("_law_part", 13)]) rfl nd (pi_seq (pd_var (i := 9) rfl)) (L2.blkOk_by (N := nl_law) (sc := L2.defScope sl_law) (by decide +kernel)) (fun _ _ _ _ _ => pg_name (i := 13) nd rfl (by first | exact .inl rfl | exact .inr rfl)) (fun _ _ _ _ _ => pts_nil) (fun _ _ _ _ _ => pd_call (y := "_law_renamed") (ok "_law_renamed" (by decide)) hr rfl (pa_cons (pd_var (i := 13) rfl) (pa_cons (pd_var (i := 4) rfl) (pa_nil)))) (by decide)) (pa_nil)))) (pss_cons (ps_for PassesOwn.never rfl (pi_seq (pd_lst (pa_cons (pd_tup (pa_cons (pd_ix (fun _ _ => rfl) (pd_var (i := 4) rfl) (pd_int)) (pa_cons (pd_var (i := 6) rfl) (pa_nil)))) (pa_cons (pd_tup (pa_cons (pd_ix (fun _ _ => rfl) (pd_var (i := 4) rfl) (pd_int)) (pa_cons (pd_var (i := 8) rfl) (pa_nil)))) (pa_nil))))) (pg_tup rfl (pgs_cons (pg_name (i := 10) nd rfl (by first | exact .inl rfl | exact .inr rfl)) (pgs_cons (pg_name (i := 11) nd rfl (by first | exact .inl rfl | exact .inr rfl)) (pgs_nil)))) (pss_one (ps_if (pt_not (pt_tru (pd_call (y := "_law_w_same") (ok "_law_w_same" (by decide)) hr rfl (pa_cons (pd_call (y := "counting_loops") (ok "counting_loops" (by decide)) hr rfl (pa_cons (pd_var (i := 12) rfl) (pa_cons (pd_var (i := 10) rfl) (pa_nil)))) (pa_cons (pd_var (i := 11) rfl) (pa_nil)))))) (pss_one (ps_ret (pd_bl))) (pss_nil)))) (pss_one (ps_ret (pd_bl))))))))))))
end
theorem all_mk {l : PySem.W.OpenLaw} {w : World} {K : PySem.W.Frag} {h : Heap} {mg : Str → Option Value} {fa : Addr} (X : K.In h) (G : h.Ns mainGlobals mg) (hfa : mg "law" = some (.ref fa))
    {f1 : Addr} {od1 an1 : Option Addr} {sl1 : Array (Option Value)} {oc1 kV1 dc1 pm1 cd1 ct1 : Value}
    {f2 : Addr} {od2 an2 : Option Addr} {sl2 : Array (Option Value)} {oc2 kV2 dc2 pm2 cd2 ct2 : Value}
    {f3 : Addr} {od3 an3 : Option Addr} {sl3 : Array (Option Value)} {oc3 kV3 dc3 pm3 cd3 ct3 : Value}
    {f4 : Addr} {od4 an4 : Option Addr} {sl4 : Array (Option Value)} {oc4 kV4 dc4 pm4 cd4 ct4 : Value}
    {f5 : Addr} {od5 an5 : Option Addr} {sl5 : Array (Option Value)} {oc5 kV5 dc5 pm5 cd5 ct5 : Value}
    {f6 : Addr} {od6 an6 : Option Addr} {sl6 : Array (Option Value)} {oc6 kV6 dc6 pm6 cd6 ct6 : Value}
    {f7 : Addr} {od7 an7 : Option Addr} {sl7 : Array (Option Value)} {oc7 kV7 dc7 pm7 cd7 ct7 : Value}
    {f8 : Addr} {od8 an8 : Option Addr} {sl8 : Array (Option Value)} {oc8 kV8 dc8 pm8 cd8 ct8 : Value}
    {f9 : Addr} {od9 an9 : Option Addr} {sl9 : Array (Option Value)} {oc9 kV9 dc9 pm9 cd9 ct9 : Value}
    {f10 : Addr} {od10 an10 : Option Addr} {sl10 : Array (Option Value)} {oc10 kV10 dc10 pm10 cd10 ct10 : Value}
    {f11 : Addr} {od11 an11 : Option Addr} {sl11 : Array (Option Value)} {oc11 kV11 dc11 pm11 cd11 ct11 : Value}
    {f12 : Addr} {od12 an12 : Option Addr} {sl12 : Array (Option Value)} {oc12 kV12 dc12 pm12 cd12 ct12 : Value}
    {f13 : Addr} {od13 an13 : Option Addr} {sl13 : Array (Option Value)} {oc13 kV13 dc13 pm13 cd13 ct13 : Value}
    {f14 : Addr} {od14 an14 : Option Addr} {sl14 : Array (Option Value)} {oc14 kV14 dc14 pm14 cd14 ct14 : Value}
    {f15 : Addr} {od15 an15 : Option Addr} {sl15 : Array (Option Value)} {oc15 kV15 dc15 pm15 cd15 ct15 : Value}
    {f16 : Addr} {od16 an16 : Option Addr} {sl16 : Array (Option Value)} {oc16 kV16 dc16 pm16 cd16 ct16 : Value}
    {f17 : Addr} {od17 an17 : Option Addr} {sl17 : Array (Option Value)} {oc17 kV17 dc17 pm17 cd17 ct17 : Value}
    {f18 : Addr} {od18 an18 : Option Addr} {sl18 : Array (Option Value)} {oc18 kV18 dc18 pm18 cd18 ct18 : Value}
    {f19 : Addr} {od19 an19 : Option Addr} {sl19 : Array (Option Value)} {oc19 kV19 dc19 pm19 cd19 ct19 : Value}
    {f20 : Addr} {od20 an20 : Option Addr} {sl20 : Array (Option Value)} {oc20 kV20 dc20 pm20 cd20 ct20 : Value}
    {f21 : Addr} {od21 an21 : Option Addr} {sl21 : Array (Option Value)} {oc21 kV21 dc21 pm21 cd21 ct21 : Value}
    {f22 : Addr} {od22 an22 : Option Addr} {sl22 : Array (Option Value)} {oc22 kV22 dc22 pm22 cd22 ct22 : Value}
    {f23 : Addr} {od23 an23 : Option Addr} {sl23 : Array (Option Value)} {oc23 kV23 dc23 pm23 cd23 ct23 : Value}
    {f24 : Addr} {od24 an24 : Option Addr} {sl24 : Array (Option Value)} {oc24 kV24 dc24 pm24 cd24 ct24 : Value}
    {f25 : Addr} {od25 an25 : Option Addr} {sl25 : Array (Option Value)} {oc25 kV25 dc25 pm25 cd25 ct25 : Value}
    {f26 : Addr} {od26 an26 : Option Addr} {sl26 : Array (Option Value)} {oc26 kV26 dc26 pm26 cd26 ct26 : Value}
    {f27 : Addr} {od27 an27 : Option Addr} {sl27 : Array (Option Value)} {oc27 kV27 dc27 pm27 cd27 ct27 : Value}
    {f28 : Addr} {od28 an28 : Option Addr} {sl28 : Array (Option Value)} {oc28 kV28 dc28 pm28 cd28 ct28 : Value}
    {f29 : Addr} {od29 an29 : Option Addr} {sl29 : Array (Option Value)} {oc29 kV29 dc29 pm29 cd29 ct29 : Value}
    {f30 : Addr} {od30 an30 : Option Addr} {sl30 : Array (Option Value)} {oc30 kV30 dc30 pm30 cd30 ct30 : Value}
    {f31 : Addr} {od31 an31 : Option Addr} {sl31 : Array (Option Value)} {oc31 kV31 dc31 pm31 cd31 ct31 : Value}
    {f32 : Addr} {od32 an32 : Option Addr} {sl32 : Array (Option Value)} {oc32 kV32 dc32 pm32 cd32 ct32 : Value}
    {f33 : Addr} {od33 an33 : Option Addr} {sl33 : Array (Option Value)} {oc33 kV33 dc33 pm33 cd33 ct33 : Value}
    {f34 : Addr} {od34 an34 : Option Addr} {sl34 : Array (Option Value)} {oc34 kV34 dc34 pm34 cd34 ct34 : Value}
    {f35 : Addr} {od35 an35 : Option Addr} {sl35 : Array (Option Value)} {oc35 kV35 dc35 pm35 cd35 ct35 : Value}
    {f36 : Addr} {od36 an36 : Option Addr} {sl36 : Array (Option Value)} {oc36 kV36 dc36 pm36 cd36 ct36 : Value}
    {f37 : Addr} {od37 an37 : Option Addr} {sl37 : Array (Option Value)} {oc37 kV37 dc37 pm37 cd37 ct37 : Value}
    {f38 : Addr} {od38 an38 : Option Addr} {sl38 : Array (Option Value)} {oc38 kV38 dc38 pm38 cd38 ct38 : Value}
    {f39 : Addr} {od39 an39 : Option Addr} {sl39 : Array (Option Value)} {oc39 kV39 dc39 pm39 cd39 ct39 : Value}
    {f40 : Addr} {od40 an40 : Option Addr} {sl40 : Array (Option Value)} {oc40 kV40 dc40 pm40 cd40 ct40 : Value}
    {f41 : Addr} {od41 an41 : Option Addr} {sl41 : Array (Option Value)} {oc41 kV41 dc41 pm41 cd41 ct41 : Value}
    {f42 : Addr} {od42 an42 : Option Addr} {sl42 : Array (Option Value)} {oc42 kV42 dc42 pm42 cd42 ct42 : Value}
    {f43 : Addr} {od43 an43 : Option Addr} {sl43 : Array (Option Value)} {oc43 kV43 dc43 pm43 cd43 ct43 : Value}
    {ag1 : Addr} {ig1 : Array DictEntry} {ng1 : Nat}
    (a1 : PySem.W.nsIn K mainGlobals "declared" = some (some (.ref f1))) (l1 : K.lookup f1 = some ⟨oc1, od1, .func (PySem.W.fnOf "declared" "declared" (L2.defArgs sp_declared) (L2.defBody sp_declared) (L2.defScope sp_declared) .none kV1 dc1 pm1 an1 cd1 ct1), sl1⟩) (c1 : PySem.W.codeIn K cd1 "declared" = true) (k1 : PySem.W.keepIn K (.ref f1) = true)
    (a2 : PySem.W.nsIn K mainGlobals "variables_of" = some (some (.ref f2))) (l2 : K.lookup f2 = some ⟨oc2, od2, .func (PySem.W.fnOf "variables_of" "variables_of" (L2.defArgs sp_variables_of) (L2.defBody sp_variables_of) (L2.defScope sp_variables_of) .none kV2 dc2 pm2 an2 cd2 ct2), sl2⟩) (c2 : PySem.W.codeIn K cd2 "variables_of" = true) (k2 : PySem.W.keepIn K (.ref f2) = true)
    (a3 : PySem.W.nsIn K mainGlobals "blocks_of" = some (some (.ref f3))) (l3 : K.lookup f3 = some ⟨oc3, od3, .func (PySem.W.fnOf "blocks_of" "blocks_of" (L2.defArgs sp_blocks_of) (L2.defBody sp_blocks_of) (L2.defScope sp_blocks_of) .none kV3 dc3 pm3 an3 cd3 ct3), sl3⟩) (c3 : PySem.W.codeIn K cd3 "blocks_of" = true) (k3 : PySem.W.keepIn K (.ref f3) = true)
    (a4 : PySem.W.nsIn K mainGlobals "statements_of" = some (some (.ref f4))) (l4 : K.lookup f4 = some ⟨oc4, od4, .func (PySem.W.fnOf "statements_of" "statements_of" (L2.defArgs sp_statements_of) (L2.defBody sp_statements_of) (L2.defScope sp_statements_of) .none kV4 dc4 pm4 an4 cd4 ct4), sl4⟩) (c4 : PySem.W.codeIn K cd4 "statements_of" = true) (k4 : PySem.W.keepIn K (.ref f4) = true)
    (a5 : PySem.W.nsIn K mainGlobals "exprs_of" = some (some (.ref f5))) (l5 : K.lookup f5 = some ⟨oc5, od5, .func (PySem.W.fnOf "exprs_of" "exprs_of" (L2.defArgs sp_exprs_of) (L2.defBody sp_exprs_of) (L2.defScope sp_exprs_of) .none kV5 dc5 pm5 an5 cd5 ct5), sl5⟩) (c5 : PySem.W.codeIn K cd5 "exprs_of" = true) (k5 : PySem.W.keepIn K (.ref f5) = true)
    (a6 : PySem.W.nsIn K mainGlobals "operands_of" = some (some (.ref f6))) (l6 : K.lookup f6 = some ⟨oc6, od6, .func (PySem.W.fnOf "operands_of" "operands_of" (L2.defArgs sp_operands_of) (L2.defBody sp_operands_of) (L2.defScope sp_operands_of) .none kV6 dc6 pm6 an6 cd6 ct6), sl6⟩) (c6 : PySem.W.codeIn K cd6 "operands_of" = true) (k6 : PySem.W.keepIn K (.ref f6) = true)
    (a7 : PySem.W.nsIn K mainGlobals "expr_looks" = some (some (.ref f7))) (l7 : K.lookup f7 = some ⟨oc7, od7, .func (PySem.W.fnOf "expr_looks" "expr_looks" (L2.defArgs sp_expr_looks) (L2.defBody sp_expr_looks) (L2.defScope sp_expr_looks) .none kV7 dc7 pm7 an7 cd7 ct7), sl7⟩) (c7 : PySem.W.codeIn K cd7 "expr_looks" = true) (k7 : PySem.W.keepIn K (.ref f7) = true)
    (a8 : PySem.W.nsIn K mainGlobals "statement_looks" = some (some (.ref f8))) (l8 : K.lookup f8 = some ⟨oc8, od8, .func (PySem.W.fnOf "statement_looks" "statement_looks" (L2.defArgs sp_statement_looks) (L2.defBody sp_statement_looks) (L2.defScope sp_statement_looks) .none kV8 dc8 pm8 an8 cd8 ct8), sl8⟩) (c8 : PySem.W.codeIn K cd8 "statement_looks" = true) (k8 : PySem.W.keepIn K (.ref f8) = true)
    (a9 : PySem.W.nsIn K mainGlobals "greatest" = some (some (.ref f9))) (l9 : K.lookup f9 = some ⟨oc9, od9, .func (PySem.W.fnOf "greatest" "greatest" (L2.defArgs sp_greatest) (L2.defBody sp_greatest) (L2.defScope sp_greatest) .none kV9 dc9 pm9 an9 cd9 ct9), sl9⟩) (c9 : PySem.W.codeIn K cd9 "greatest" = true) (k9 : PySem.W.keepIn K (.ref f9) = true)
    (a10 : PySem.W.nsIn K mainGlobals "related" = some (some (.ref f10))) (l10 : K.lookup f10 = some ⟨oc10, od10, .func (PySem.W.fnOf "related" "related" (L2.defArgs sp_related) (L2.defBody sp_related) (L2.defScope sp_related) .none kV10 dc10 pm10 an10 cd10 ct10), sl10⟩) (c10 : PySem.W.codeIn K cd10 "related" = true) (k10 : PySem.W.keepIn K (.ref f10) = true)
    (a11 : PySem.W.nsIn K mainGlobals "shifted" = some (some (.ref f11))) (l11 : K.lookup f11 = some ⟨oc11, od11, .func (PySem.W.fnOf "shifted" "shifted" (L2.defArgs sp_shifted) (L2.defBody sp_shifted) (L2.defScope sp_shifted) .none kV11 dc11 pm11 an11 cd11 ct11), sl11⟩) (c11 : PySem.W.codeIn K cd11 "shifted" = true) (k11 : PySem.W.keepIn K (.ref f11) = true)
    (a12 : PySem.W.nsIn K mainGlobals "divided" = some (some (.ref f12))) (l12 : K.lookup f12 = some ⟨oc12, od12, .func (PySem.W.fnOf "divided" "divided" (L2.defArgs sp_divided) (L2.defBody sp_divided) (L2.defScope sp_divided) .none kV12 dc12 pm12 an12 cd12 ct12), sl12⟩) (c12 : PySem.W.codeIn K cd12 "divided" = true) (k12 : PySem.W.keepIn K (.ref f12) = true)
    (a13 : PySem.W.nsIn K mainGlobals "reckoned" = some (some (.ref f13))) (l13 : K.lookup f13 = some ⟨oc13, od13, .func (PySem.W.fnOf "reckoned" "reckoned" (L2.defArgs sp_reckoned) (L2.defBody sp_reckoned) (L2.defScope sp_reckoned) .none kV13 dc13 pm13 an13 cd13 ct13), sl13⟩) (c13 : PySem.W.codeIn K cd13 "reckoned" = true) (k13 : PySem.W.keepIn K (.ref f13) = true)
    (a14 : PySem.W.nsIn K mainGlobals "result" = some (some (.ref f14))) (l14 : K.lookup f14 = some ⟨oc14, od14, .func (PySem.W.fnOf "result" "result" (L2.defArgs sp_result) (L2.defBody sp_result) (L2.defScope sp_result) .none kV14 dc14 pm14 an14 cd14 ct14), sl14⟩) (c14 : PySem.W.codeIn K cd14 "result" = true) (k14 : PySem.W.keepIn K (.ref f14) = true)
    (a15 : PySem.W.nsIn K mainGlobals "counting_loops" = some (some (.ref f15))) (l15 : K.lookup f15 = some ⟨oc15, od15, .func (PySem.W.fnOf "counting_loops" "counting_loops" (L2.defArgs sp_counting_loops) (L2.defBody sp_counting_loops) (L2.defScope sp_counting_loops) .none kV15 dc15 pm15 an15 cd15 ct15), sl15⟩) (c15 : PySem.W.codeIn K cd15 "counting_loops" = true) (k15 : PySem.W.keepIn K (.ref f15) = true)
    (a16 : PySem.W.nsIn K mainGlobals "shape_of" = some (some (.ref f16))) (l16 : K.lookup f16 = some ⟨oc16, od16, .func (PySem.W.fnOf "shape_of" "shape_of" (L2.defArgs sp_shape_of) (L2.defBody sp_shape_of) (L2.defScope sp_shape_of) .none kV16 dc16 pm16 an16 cd16 ct16), sl16⟩) (c16 : PySem.W.codeIn K cd16 "shape_of" = true) (k16 : PySem.W.keepIn K (.ref f16) = true)
    (a17 : PySem.W.nsIn K mainGlobals "change_of" = some (some (.ref f17))) (l17 : K.lookup f17 = some ⟨oc17, od17, .func (PySem.W.fnOf "change_of" "change_of" (L2.defArgs sp_change_of) (L2.defBody sp_change_of) (L2.defScope sp_change_of) .none kV17 dc17 pm17 an17 cd17 ct17), sl17⟩) (c17 : PySem.W.codeIn K cd17 "change_of" = true) (k17 : PySem.W.keepIn K (.ref f17) = true)
    (a18 : PySem.W.nsIn K mainGlobals "_law_begin" = some (some (.ref f18))) (l18 : K.lookup f18 = some ⟨oc18, od18, .func (PySem.W.fnOf "_law_begin" "_law_begin" (L2.defArgs sl_begin) (L2.defBody sl_begin) (L2.defScope sl_begin) .none kV18 dc18 pm18 an18 cd18 ct18), sl18⟩) (c18 : PySem.W.codeIn K cd18 "_law_begin" = true) (k18 : PySem.W.keepIn K (.ref f18) = true)
    (a19 : PySem.W.nsIn K mainGlobals "_law_draw" = some (some (.ref f19))) (l19 : K.lookup f19 = some ⟨oc19, od19, .func (PySem.W.fnOf "_law_draw" "_law_draw" (L2.defArgs sl_draw) (L2.defBody sl_draw) (L2.defScope sl_draw) .none kV19 dc19 pm19 an19 cd19 ct19), sl19⟩) (c19 : PySem.W.codeIn K cd19 "_law_draw" = true) (k19 : PySem.W.keepIn K (.ref f19) = true)
    (a20 : PySem.W.nsIn K mainGlobals "_law_pick" = some (some (.ref f20))) (l20 : K.lookup f20 = some ⟨oc20, od20, .func (PySem.W.fnOf "_law_pick" "_law_pick" (L2.defArgs sl_pick) (L2.defBody sl_pick) (L2.defScope sl_pick) .none kV20 dc20 pm20 an20 cd20 ct20), sl20⟩) (c20 : PySem.W.codeIn K cd20 "_law_pick" = true) (k20 : PySem.W.keepIn K (.ref f20) = true)
    (a21 : PySem.W.nsIn K mainGlobals "_law_pop" = some (some (.ref f21))) (l21 : K.lookup f21 = some ⟨oc21, od21, .func (PySem.W.fnOf "_law_pop" "_law_pop" (L2.defArgs sl_pop) (L2.defBody sl_pop) (L2.defScope sl_pop) .none kV21 dc21 pm21 an21 cd21 ct21), sl21⟩) (c21 : PySem.W.codeIn K cd21 "_law_pop" = true) (k21 : PySem.W.keepIn K (.ref f21) = true)
    (a22 : PySem.W.nsIn K mainGlobals "_law_shuffled" = some (some (.ref f22))) (l22 : K.lookup f22 = some ⟨oc22, od22, .func (PySem.W.fnOf "_law_shuffled" "_law_shuffled" (L2.defArgs sl_shuffled) (L2.defBody sl_shuffled) (L2.defScope sl_shuffled) .none kV22 dc22 pm22 an22 cd22 ct22), sl22⟩) (c22 : PySem.W.codeIn K cd22 "_law_shuffled" = true) (k22 : PySem.W.keepIn K (.ref f22) = true)
    (a23 : PySem.W.nsIn K mainGlobals "_law_pool" = some (some (.ref f23))) (l23 : K.lookup f23 = some ⟨oc23, od23, .func (PySem.W.fnOf "_law_pool" "_law_pool" (L2.defArgs sl_pool) (L2.defBody sl_pool) (L2.defScope sl_pool) .none kV23 dc23 pm23 an23 cd23 ct23), sl23⟩) (c23 : PySem.W.codeIn K cd23 "_law_pool" = true) (k23 : PySem.W.keepIn K (.ref f23) = true)
    (a24 : PySem.W.nsIn K mainGlobals "_law_is_int" = some (some (.ref f24))) (l24 : K.lookup f24 = some ⟨oc24, od24, .func (PySem.W.fnOf "_law_is_int" "_law_is_int" (L2.defArgs sl_is_int) (L2.defBody sl_is_int) (L2.defScope sl_is_int) .none kV24 dc24 pm24 an24 cd24 ct24), sl24⟩) (c24 : PySem.W.codeIn K cd24 "_law_is_int" = true) (k24 : PySem.W.keepIn K (.ref f24) = true)
    (a25 : PySem.W.nsIn K mainGlobals "_law_w_count" = some (some (.ref f25))) (l25 : K.lookup f25 = some ⟨oc25, od25, .func (PySem.W.fnOf "_law_w_count" "_law_w_count" (L2.defArgs sl_w_count) (L2.defBody sl_w_count) (L2.defScope sl_w_count) .none kV25 dc25 pm25 an25 cd25 ct25), sl25⟩) (c25 : PySem.W.codeIn K cd25 "_law_w_count" = true) (k25 : PySem.W.keepIn K (.ref f25) = true)
    (a26 : PySem.W.nsIn K mainGlobals "_law_w_plan" = some (some (.ref f26))) (l26 : K.lookup f26 = some ⟨oc26, od26, .func (PySem.W.fnOf "_law_w_plan" "_law_w_plan" (L2.defArgs sl_w_plan) (L2.defBody sl_w_plan) (L2.defScope sl_w_plan) .none kV26 dc26 pm26 an26 cd26 ct26), sl26⟩) (c26 : PySem.W.codeIn K cd26 "_law_w_plan" = true) (k26 : PySem.W.keepIn K (.ref f26) = true)
    (a27 : PySem.W.nsIn K mainGlobals "_law_w_same" = some (some (.ref f27))) (l27 : K.lookup f27 = some ⟨oc27, od27, .func (PySem.W.fnOf "_law_w_same" "_law_w_same" (L2.defArgs sl_w_same) (L2.defBody sl_w_same) (L2.defScope sl_w_same) .none kV27 dc27 pm27 an27 cd27 ct27), sl27⟩) (c27 : PySem.W.codeIn K cd27 "_law_w_same" = true) (k27 : PySem.W.keepIn K (.ref f27) = true)
    (a28 : PySem.W.nsIn K mainGlobals "_law_surroundings" = some (some (.ref f28))) (l28 : K.lookup f28 = some ⟨oc28, od28, .func (PySem.W.fnOf "_law_surroundings" "_law_surroundings" (L2.defArgs sl_surroundings) (L2.defBody sl_surroundings) (L2.defScope sl_surroundings) .none kV28 dc28 pm28 an28 cd28 ct28), sl28⟩) (c28 : PySem.W.codeIn K cd28 "_law_surroundings" = true) (k28 : PySem.W.keepIn K (.ref f28) = true)
    (a29 : PySem.W.nsIn K mainGlobals "_law_index" = some (some (.ref f29))) (l29 : K.lookup f29 = some ⟨oc29, od29, .func (PySem.W.fnOf "_law_index" "_law_index" (L2.defArgs sl_index) (L2.defBody sl_index) (L2.defScope sl_index) .none kV29 dc29 pm29 an29 cd29 ct29), sl29⟩) (c29 : PySem.W.codeIn K cd29 "_law_index" = true) (k29 : PySem.W.keepIn K (.ref f29) = true)
    (a30 : PySem.W.nsIn K mainGlobals "_law_some_test" = some (some (.ref f30))) (l30 : K.lookup f30 = some ⟨oc30, od30, .func (PySem.W.fnOf "_law_some_test" "_law_some_test" (L2.defArgs sl_some_test) (L2.defBody sl_some_test) (L2.defScope sl_some_test) .none kV30 dc30 pm30 an30 cd30 ct30), sl30⟩) (c30 : PySem.W.codeIn K cd30 "_law_some_test" = true) (k30 : PySem.W.keepIn K (.ref f30) = true)
    (a31 : PySem.W.nsIn K mainGlobals "_law_add" = some (some (.ref f31))) (l31 : K.lookup f31 = some ⟨oc31, od31, .func (PySem.W.fnOf "_law_add" "_law_add" (L2.defArgs sl_add) (L2.defBody sl_add) (L2.defScope sl_add) .none kV31 dc31 pm31 an31 cd31 ct31), sl31⟩) (c31 : PySem.W.codeIn K cd31 "_law_add" = true) (k31 : PySem.W.keepIn K (.ref f31) = true)
    (a32 : PySem.W.nsIn K mainGlobals "_law_item_row" = some (some (.ref f32))) (l32 : K.lookup f32 = some ⟨oc32, od32, .func (PySem.W.fnOf "_law_item_row" "_law_item_row" (L2.defArgs sl_item_row) (L2.defBody sl_item_row) (L2.defScope sl_item_row) .none kV32 dc32 pm32 an32 cd32 ct32), sl32⟩) (c32 : PySem.W.codeIn K cd32 "_law_item_row" = true) (k32 : PySem.W.keepIn K (.ref f32) = true)
    (a33 : PySem.W.nsIn K mainGlobals "_law_other_row" = some (some (.ref f33))) (l33 : K.lookup f33 = some ⟨oc33, od33, .func (PySem.W.fnOf "_law_other_row" "_law_other_row" (L2.defArgs sl_other_row) (L2.defBody sl_other_row) (L2.defScope sl_other_row) .none kV33 dc33 pm33 an33 cd33 ct33), sl33⟩) (c33 : PySem.W.codeIn K cd33 "_law_other_row" = true) (k33 : PySem.W.keepIn K (.ref f33) = true)
    (a34 : PySem.W.nsIn K mainGlobals "_law_h_changed" = some (some (.ref f34))) (l34 : K.lookup f34 = some ⟨oc34, od34, .func (PySem.W.fnOf "_law_h_changed" "_law_h_changed" (L2.defArgs sl_h_changed) (L2.defBody sl_h_changed) (L2.defScope sl_h_changed) .none kV34 dc34 pm34 an34 cd34 ct34), sl34⟩) (c34 : PySem.W.codeIn K cd34 "_law_h_changed" = true) (k34 : PySem.W.keepIn K (.ref f34) = true)
    (a35 : PySem.W.nsIn K mainGlobals "_law_h_loop" = some (some (.ref f35))) (l35 : K.lookup f35 = some ⟨oc35, od35, .func (PySem.W.fnOf "_law_h_loop" "_law_h_loop" (L2.defArgs sl_h_loop) (L2.defBody sl_h_loop) (L2.defScope sl_h_loop) .none kV35 dc35 pm35 an35 cd35 ct35), sl35⟩) (c35 : PySem.W.codeIn K cd35 "_law_h_loop" = true) (k35 : PySem.W.keepIn K (.ref f35) = true)
    (a36 : PySem.W.nsIn K mainGlobals "_law_bad_test" = some (some (.ref f36))) (l36 : K.lookup f36 = some ⟨oc36, od36, .func (PySem.W.fnOf "_law_bad_test" "_law_bad_test" (L2.defArgs sl_bad_test) (L2.defBody sl_bad_test) (L2.defScope sl_bad_test) .none kV36 dc36 pm36 an36 cd36 ct36), sl36⟩) (c36 : PySem.W.codeIn K cd36 "_law_bad_test" = true) (k36 : PySem.W.keepIn K (.ref f36) = true)
    (a37 : PySem.W.nsIn K mainGlobals "_law_bad_block" = some (some (.ref f37))) (l37 : K.lookup f37 = some ⟨oc37, od37, .func (PySem.W.fnOf "_law_bad_block" "_law_bad_block" (L2.defArgs sl_bad_block) (L2.defBody sl_bad_block) (L2.defScope sl_bad_block) .none kV37 dc37 pm37 an37 cd37 ct37), sl37⟩) (c37 : PySem.W.codeIn K cd37 "_law_bad_block" = true) (k37 : PySem.W.keepIn K (.ref f37) = true)
    (a38 : PySem.W.nsIn K mainGlobals "_law_bad_sum" = some (some (.ref f38))) (l38 : K.lookup f38 = some ⟨oc38, od38, .func (PySem.W.fnOf "_law_bad_sum" "_law_bad_sum" (L2.defArgs sl_bad_sum) (L2.defBody sl_bad_sum) (L2.defScope sl_bad_sum) .none kV38 dc38 pm38 an38 cd38 ct38), sl38⟩) (c38 : PySem.W.codeIn K cd38 "_law_bad_sum" = true) (k38 : PySem.W.keepIn K (.ref f38) = true)
    (a39 : PySem.W.nsIn K mainGlobals "_law_piece" = some (some (.ref f39))) (l39 : K.lookup f39 = some ⟨oc39, od39, .func (PySem.W.fnOf "_law_piece" "_law_piece" (L2.defArgs sl_piece) (L2.defBody sl_piece) (L2.defScope sl_piece) .none kV39 dc39 pm39 an39 cd39 ct39), sl39⟩) (c39 : PySem.W.codeIn K cd39 "_law_piece" = true) (k39 : PySem.W.keepIn K (.ref f39) = true)
    (a40 : PySem.W.nsIn K mainGlobals "_law_whiles" = some (some (.ref f40))) (l40 : K.lookup f40 = some ⟨oc40, od40, .func (PySem.W.fnOf "_law_whiles" "_law_whiles" (L2.defArgs sl_whiles) (L2.defBody sl_whiles) (L2.defScope sl_whiles) .none kV40 dc40 pm40 an40 cd40 ct40), sl40⟩) (c40 : PySem.W.codeIn K cd40 "_law_whiles" = true) (k40 : PySem.W.keepIn K (.ref f40) = true)
    (a41 : PySem.W.nsIn K mainGlobals "_law_drawn" = some (some (.ref f41))) (l41 : K.lookup f41 = some ⟨oc41, od41, .func (PySem.W.fnOf "_law_drawn" "_law_drawn" (L2.defArgs sl_drawn) (L2.defBody sl_drawn) (L2.defScope sl_drawn) .none kV41 dc41 pm41 an41 cd41 ct41), sl41⟩) (c41 : PySem.W.codeIn K cd41 "_law_drawn" = true) (k41 : PySem.W.keepIn K (.ref f41) = true)
    (a42 : PySem.W.nsIn K mainGlobals "_law_renamed" = some (some (.ref f42))) (l42 : K.lookup f42 = some ⟨oc42, od42, .func (PySem.W.fnOf "_law_renamed" "_law_renamed" (L2.defArgs sl_renamed) (L2.defBody sl_renamed) (L2.defScope sl_renamed) .none kV42 dc42 pm42 an42 cd42 ct42), sl42⟩) (c42 : PySem.W.codeIn K cd42 "_law_renamed" = true) (k42 : PySem.W.keepIn K (.ref f42) = true)
    (a43 : PySem.W.nsIn K mainGlobals "law" = some (some (.ref f43))) (l43 : K.lookup f43 = some ⟨oc43, od43, .func (PySem.W.fnOf "law" "law" (L2.defArgs sl_law) (L2.defBody sl_law) (L2.defScope sl_law) .none kV43 dc43 pm43 an43 cd43 ct43), sl43⟩) (c43 : PySem.W.codeIn K cd43 "law" = true) (k43 : PySem.W.keepIn K (.ref f43) = true)
    (z1 : PySem.W.nsIn K mainGlobals "abs" = some none) (z2 : PySem.W.nsIn K mainGlobals "all" = some none) (z3 : PySem.W.nsIn K mainGlobals "bool" = some none) (z4 : PySem.W.nsIn K mainGlobals "int" = some none) (z5 : PySem.W.nsIn K mainGlobals "isinstance" = some none) (z6 : PySem.W.nsIn K mainGlobals "len" = some none) (z7 : PySem.W.nsIn K mainGlobals "list" = some none) (z8 : PySem.W.nsIn K mainGlobals "range" = some none) (z9 : PySem.W.nsIn K mainGlobals "str" = some none) (z10 : PySem.W.nsIn K mainGlobals "sum" = some none) (z11 : PySem.W.nsIn K mainGlobals "tuple" = some none)
    (g1 : PySem.W.nsIn K mainGlobals "FAULTS" = some (some (.ref ag1))) (gl1 : K.lookup ag1 = some ⟨.type "dict", none, .dict ig1 ng1, #[]⟩) (gk1 : PySem.W.KeysLit w.params ig1.toList) (gc1 : (ag1 == sysModules) = false) (ge1 : kvsOk ig1.toList [("item", .str "index"), ("field", .str "nothing"), ("div", .str "zero"), ("rem", .str "zero")] = true) :
    ∃ fd : FuncData, (∀ (s : Shared) (v : Value), BindsTo s fd ⟨[v], []⟩ [("_law_script", v)]) ∧ ∀ base : Heap, K.In base → base.Ns mainGlobals mg → L2.FnOk l.prog w K mg base L2.CX0 61 fa fd ["_law_script"] (liftF K 1 (callN prog 61 "law")) := by
  have e := hfa.symm.trans (PySem.W.mg_of X G a43)
  cases e
  have F1 := L2.fun_mk (st := sp_declared) l1 c1 k1
  have b1 := F1.binds (ps := ["program", "name"]) fun _ _ _ _ _ _ us hl => match us, hl with | [_, _], _ => rfl
  have F2 := L2.fun_mk (st := sp_variables_of) l2 c2 k2
  have b2 := F2.binds (ps := ["program", "function"]) fun _ _ _ _ _ _ us hl => match us, hl with | [_, _], _ => rfl
  have F3 := L2.fun_mk (st := sp_blocks_of) l3 c3 k3
  have b3 := F3.binds (ps := ["statement"]) fun _ _ _ _ _ _ us hl => match us, hl with | [_], _ => rfl
  have F4 := L2.fun_mk (st := sp_statements_of) l4 c4 k4
  have b4 := F4.binds (ps := ["body"]) fun _ _ _ _ _ _ us hl => match us, hl with | [_], _ => rfl
  have F5 := L2.fun_mk (st := sp_exprs_of) l5 c5 k5
  have b5 := F5.binds (ps := ["statement"]) fun _ _ _ _ _ _ us hl => match us, hl with | [_], _ => rfl
  have F6 := L2.fun_mk (st := sp_operands_of) l6 c6 k6
  have b6 := F6.binds (ps := ["expr"]) fun _ _ _ _ _ _ us hl => match us, hl with | [_], _ => rfl
  have F7 := L2.fun_mk (st := sp_expr_looks) l7 c7 k7
  have b7 := F7.binds (ps := ["expr"]) fun _ _ _ _ _ _ us hl => match us, hl with | [_], _ => rfl
  have F8 := L2.fun_mk (st := sp_statement_looks) l8 c8 k8
  have b8 := F8.binds (ps := ["statement"]) fun _ _ _ _ _ _ us hl => match us, hl with | [_], _ => rfl
  have F9 := L2.fun_mk (st := sp_greatest) l9 c9 k9
  have b9 := F9.binds (ps := ["width"]) fun _ _ _ _ _ _ us hl => match us, hl with | [_], _ => rfl
  have F10 := L2.fun_mk (st := sp_related) l10 c10 k10
  have b10 := F10.binds (ps := ["op", "left", "right"]) fun _ _ _ _ _ _ us hl => match us, hl with | [_, _, _], _ => rfl
  have F11 := L2.fun_mk (st := sp_shifted) l11 c11 k11
  have b11 := F11.binds (ps := ["op", "width", "left", "right"]) fun _ _ _ _ _ _ us hl => match us, hl with | [_, _, _, _], _ => rfl
  have F12 := L2.fun_mk (st := sp_divided) l12 c12 k12
  have b12 := F12.binds (ps := ["op", "left", "right"]) fun _ _ _ _ _ _ us hl => match us, hl with | [_, _, _], _ => rfl
  have F13 := L2.fun_mk (st := sp_reckoned) l13 c13 k13
  have b13 := F13.binds (ps := ["op", "left", "right"]) fun _ _ _ _ _ _ us hl => match us, hl with | [_, _, _], _ => rfl
  have F14 := L2.fun_mk (st := sp_result) l14 c14 k14
  have F15 := L2.fun_mk (st := sp_counting_loops) l15 c15 k15
  have b15 := F15.binds (ps := ["program", "name"]) fun _ _ _ _ _ _ us hl => match us, hl with | [_, _], _ => rfl
  have F16 := L2.fun_mk (st := sp_shape_of) l16 c16 k16
  have b16 := F16.binds (ps := ["kinds", "statement", "number"]) fun _ _ _ _ _ _ us hl => match us, hl with | [_, _, _], _ => rfl
  have F17 := L2.fun_mk (st := sp_change_of) l17 c17 k17
  have b17 := F17.binds (ps := ["kinds", "row"]) fun _ _ _ _ _ _ us hl => match us, hl with | [_, _], _ => rfl
  have F18 := L2.fun_mk (st := sl_begin) l18 c18 k18
  have b18 := F18.binds (ps := ["_law_script"]) fun _ _ _ _ _ _ us hl => match us, hl with | [_], _ => rfl
  have F19 := L2.fun_mk (st := sl_draw) l19 c19 k19
  have b19 := F19.binds (ps := ["_law_d", "_law_many"]) fun _ _ _ _ _ _ us hl => match us, hl with | [_, _], _ => rfl
  have F20 := L2.fun_mk (st := sl_pick) l20 c20 k20
  have b20 := F20.binds (ps := ["_law_d", "_law_row"]) fun _ _ _ _ _ _ us hl => match us, hl with | [_, _], _ => rfl
  have F21 := L2.fun_mk (st := sl_pop) l21 c21 k21
  have b21 := F21.binds (ps := ["_law_d", "_law_row"]) fun _ _ _ _ _ _ us hl => match us, hl with | [_, _], _ => rfl
  have F22 := L2.fun_mk (st := sl_shuffled) l22 c22 k22
  have b22 := F22.binds (ps := ["_law_d", "_law_row"]) fun _ _ _ _ _ _ us hl => match us, hl with | [_, _], _ => rfl
  have F23 := L2.fun_mk (st := sl_pool) l23 c23 k23
  have b23 := F23.binds (ps := []) fun _ _ _ _ _ _ us hl => match us, hl with | [], _ => rfl
  have F24 := L2.fun_mk (st := sl_is_int) l24 c24 k24
  have b24 := F24.binds (ps := ["_law_thing"]) fun _ _ _ _ _ _ us hl => match us, hl with | [_], _ => rfl
  have F25 := L2.fun_mk (st := sl_w_count) l25 c25 k25
  have b25 := F25.binds (ps := ["_law_thing"]) fun _ _ _ _ _ _ us hl => match us, hl with | [_], _ => rfl
  have F26 := L2.fun_mk (st := sl_w_plan) l26 c26 k26
  have b26 := F26.binds (ps := ["_law_body", "_law_at"]) fun _ _ _ _ _ _ us hl => match us, hl with | [_, _], _ => rfl
  have F27 := L2.fun_mk (st := sl_w_same) l27 c27 k27
  have b27 := F27.binds (ps := ["_law_told", "_law_due"]) fun _ _ _ _ _ _ us hl => match us, hl with | [_, _], _ => rfl
  have F28 := L2.fun_mk (st := sl_surroundings) l28 c28 k28
  have b28 := F28.binds (ps := ["_law_d", "_law_pool_here", "_law_record"]) fun _ _ _ _ _ _ us hl => match us, hl with | [_, _, _], _ => rfl
  have F29 := L2.fun_mk (st := sl_index) l29 c29 k29
  have b29 := F29.binds (ps := ["_law_d"]) fun _ _ _ _ _ _ us hl => match us, hl with | [_], _ => rfl
  have F30 := L2.fun_mk (st := sl_some_test) l30 c30 k30
  have b30 := F30.binds (ps := ["_law_d", "_law_env"]) fun _ _ _ _ _ _ us hl => match us, hl with | [_, _], _ => rfl
  have F31 := L2.fun_mk (st := sl_add) l31 c31 k31
  have b31 := F31.binds (ps := ["_law_name", "_law_sign", "_law_word", "_law_width"]) fun _ _ _ _ _ _ us hl => match us, hl with | [_, _, _, _], _ => rfl
  have F32 := L2.fun_mk (st := sl_item_row) l32 c32 k32
  have b32 := F32.binds (ps := ["_law_d", "_law_env"]) fun _ _ _ _ _ _ us hl => match us, hl with | [_, _], _ => rfl
  have F33 := L2.fun_mk (st := sl_other_row) l33 c33 k33
  have b33 := F33.binds (ps := ["_law_d", "_law_env"]) fun _ _ _ _ _ _ us hl => match us, hl with | [_, _], _ => rfl
  have F34 := L2.fun_mk (st := sl_h_changed) l34 c34 k34
  have b34 := F34.binds (ps := ["_law_d", "_law_env", "_law_group", "_law_names", "_law_limit"]) fun _ _ _ _ _ _ us hl => match us, hl with | [_, _, _, _, _], _ => rfl
  have F35 := L2.fun_mk (st := sl_h_loop) l35 c35 k35
  have b35 := F35.binds (ps := ["_law_d", "_law_env"]) fun _ _ _ _ _ _ us hl => match us, hl with | [_, _], _ => rfl
  have F36 := L2.fun_mk (st := sl_bad_test) l36 c36 k36
  have b36 := F36.binds (ps := ["_law_d", "_law_env", "_law_width", "_law_test"]) fun _ _ _ _ _ _ us hl => match us, hl with | [_, _, _, _], _ => rfl
  have F37 := L2.fun_mk (st := sl_bad_block) l37 c37 k37
  have b37 := F37.binds (ps := ["_law_d", "_law_env", "_law_test", "_law_lets"]) fun _ _ _ _ _ _ us hl => match us, hl with | [_, _, _, _], _ => rfl
  have F38 := L2.fun_mk (st := sl_bad_sum) l38 c38 k38
  have b38 := F38.binds (ps := ["_law_d", "_law_env", "_law_way", "_law_row"]) fun _ _ _ _ _ _ us hl => match us, hl with | [_, _, _, _], _ => rfl
  have F39 := L2.fun_mk (st := sl_piece) l39 c39 k39
  have b39 := F39.binds (ps := ["_law_d", "_law_env"]) fun _ _ _ _ _ _ us hl => match us, hl with | [_, _], _ => rfl
  have F40 := L2.fun_mk (st := sl_whiles) l40 c40 k40
  have b40 := F40.binds (ps := ["_law_rows"]) fun _ _ _ _ _ _ us hl => match us, hl with | [_], _ => rfl
  have F41 := L2.fun_mk (st := sl_drawn) l41 c41 k41
  have b41 := F41.binds (ps := ["_law_d", "_law_pool_here", "_law_name", "_law_record"]) fun _ _ _ _ _ _ us hl => match us, hl with | [_, _, _, _], _ => rfl
  have F42 := L2.fun_mk (st := sl_renamed) l42 c42 k42
  have b42 := F42.binds (ps := ["_law_part", "_law_names"]) fun _ _ _ _ _ _ us hl => match us, hl with | [_, _], _ => rfl
  have F43 := L2.fun_mk (st := sl_law) l43 c43 k43
  have b43 := F43.binds (ps := ["_law_script"]) fun _ _ _ _ _ _ us hl => match us, hl with | [_], _ => rfl
  have zs : ∀ y ∈ blts, mg (Str.ofString y) = none := by
    intro y hy
    simp only [blts, List.mem_cons, List.not_mem_nil, or_false] at hy
    rcases hy with rfl | rfl | rfl | rfl | rfl | rfl | rfl | rfl | rfl | rfl | rfl
    · exact PySem.W.mg_none_of X G z1
    · exact PySem.W.mg_none_of X G z2
    · exact PySem.W.mg_none_of X G z3
    · exact PySem.W.mg_none_of X G z4
    · exact PySem.W.mg_none_of X G z5
    · exact PySem.W.mg_none_of X G z6
    · exact PySem.W.mg_none_of X G z7
    · exact PySem.W.mg_none_of X G z8
    · exact PySem.W.mg_none_of X G z9
    · exact PySem.W.mg_none_of X G z10
    · exact PySem.W.mg_none_of X G z11
  have cs_FAULTS : GlobDic K w mg "FAULTS" k_FAULTS := glob_dic (PySem.W.mg_of X G g1) gl1 gk1 gc1 ge1
  refine ⟨PySem.W.fnOf "law" "law" (L2.defArgs sl_law) (L2.defBody sl_law) (L2.defScope sl_law) .none kV43 dc43 pm43 an43 cd43 ct43, fun s v => .of_eq rfl, fun base _ _ => ?_⟩
  have st : ∀ x ∈ names, ∃ d, prog x = some d ∧ Step2 l.prog w K mg base names snames x d := by
    intro x hx
    simp only [names, List.mem_cons, List.not_mem_nil, or_false] at hx
    rcases hx with rfl | rfl | rfl | rfl | rfl | rfl | rfl | rfl | rfl | rfl | rfl | rfl | rfl | rfl | rfl | rfl | rfl | rfl | rfl | rfl | rfl | rfl | rfl | rfl | rfl | rfl | rfl | rfl | rfl | rfl | rfl | rfl | rfl | rfl | rfl | rfl | rfl | rfl | rfl | rfl | rfl | rfl
    · exact ⟨_, rfl, _, _, ["program", "name"], PySem.W.mg_of X G a1, F1.kp, b1, rfl, fun k c ok oks => fn_ok F1 scp_declared rfl rfl (der_p_declared ok oks zs cs_FAULTS)⟩
    · exact ⟨_, rfl, _, _, ["program", "function"], PySem.W.mg_of X G a2, F2.kp, b2, rfl, fun k c ok oks => fn_ok F2 scp_variables_of rfl rfl (der_p_variables_of ok oks zs cs_FAULTS)⟩
    · exact ⟨_, rfl, _, _, ["statement"], PySem.W.mg_of X G a3, F3.kp, b3, rfl, fun k c ok oks => fn_ok F3 scp_blocks_of rfl rfl (der_p_blocks_of ok oks zs cs_FAULTS)⟩
    · exact ⟨_, rfl, _, _, ["body"], PySem.W.mg_of X G a4, F4.kp, b4, rfl, fun k c ok oks => fn_ok F4 scp_statements_of rfl rfl (der_p_statements_of ok oks zs cs_FAULTS)⟩
    · exact ⟨_, rfl, _, _, ["statement"], PySem.W.mg_of X G a5, F5.kp, b5, rfl, fun k c ok oks => fn_ok F5 scp_exprs_of rfl rfl (der_p_exprs_of ok oks zs cs_FAULTS)⟩
    · exact ⟨_, rfl, _, _, ["expr"], PySem.W.mg_of X G a6, F6.kp, b6, rfl, fun k c ok oks => fn_ok F6 scp_operands_of rfl rfl (der_p_operands_of ok oks zs cs_FAULTS)⟩
    · exact ⟨_, rfl, _, _, ["expr"], PySem.W.mg_of X G a7, F7.kp, b7, rfl, fun k c ok oks => fn_ok F7 scp_expr_looks rfl rfl (der_p_expr_looks ok oks zs cs_FAULTS)⟩
    · exact ⟨_, rfl, _, _, ["statement"], PySem.W.mg_of X G a8, F8.kp, b8, rfl, fun k c ok oks => fn_ok F8 scp_statement_looks rfl rfl (der_p_statement_looks ok oks zs cs_FAULTS)⟩
    · exact ⟨_, rfl, _, _, ["width"], PySem.W.mg_of X G a9, F9.kp, b9, rfl, fun k c ok oks => fn_ok F9 scp_greatest rfl rfl (der_p_greatest ok oks zs cs_FAULTS)⟩
    · exact ⟨_, rfl, _, _, ["op", "left", "right"], PySem.W.mg_of X G a10, F10.kp, b10, rfl, fun k c ok oks => fn_ok F10 scp_related rfl rfl (der_p_related ok oks zs cs_FAULTS)⟩
    · exact ⟨_, rfl, _, _, ["op", "width", "left", "right"], PySem.W.mg_of X G a11, F11.kp, b11, rfl, fun k c ok oks => fn_ok F11 scp_shifted rfl rfl (der_p_shifted ok oks zs cs_FAULTS)⟩
    · exact ⟨_, rfl, _, _, ["op", "left", "right"], PySem.W.mg_of X G a12, F12.kp, b12, rfl, fun k c ok oks => fn_ok F12 scp_divided rfl rfl (der_p_divided ok oks zs cs_FAULTS)⟩
    · exact ⟨_, rfl, _, _, ["op", "left", "right"], PySem.W.mg_of X G a13, F13.kp, b13, rfl, fun k c ok oks => fn_ok F13 scp_reckoned rfl rfl (der_p_reckoned ok oks zs cs_FAULTS)⟩
    · exact ⟨_, rfl, _, _, ["program", "name"], PySem.W.mg_of X G a15, F15.kp, b15, rfl, fun k c ok oks => fn_ok F15 scp_counting_loops rfl rfl (der_p_counting_loops ok oks zs cs_FAULTS)⟩
    · exact ⟨_, rfl, _, _, ["kinds", "statement", "number"], PySem.W.mg_of X G a16, F16.kp, b16, rfl, fun k c ok oks => fn_ok F16 scp_shape_of rfl rfl (der_p_shape_of ok oks zs cs_FAULTS)⟩
    · exact ⟨_, rfl, _, _, ["kinds", "row"], PySem.W.mg_of X G a17, F17.kp, b17, rfl, fun k c ok oks => fn_ok F17 scp_change_of rfl rfl (der_p_change_of ok oks zs cs_FAULTS)⟩
    · exact ⟨_, rfl, _, _, ["_law_script"], PySem.W.mg_of X G a18, F18.kp, b18, rfl, fun k c ok oks => fn_ok F18 scl_begin rfl rfl (der_l_begin ok oks zs cs_FAULTS)⟩
    · exact ⟨_, rfl, _, _, ["_law_d", "_law_many"], PySem.W.mg_of X G a19, F19.kp, b19, rfl, fun k c ok oks => fn_ok F19 scl_draw rfl rfl (der_l_draw ok oks zs cs_FAULTS)⟩
    · exact ⟨_, rfl, _, _, ["_law_d", "_law_row"], PySem.W.mg_of X G a20, F20.kp, b20, rfl, fun k c ok oks => fn_ok F20 scl_pick rfl rfl (der_l_pick ok oks zs cs_FAULTS)⟩
    · exact ⟨_, rfl, _, _, ["_law_d", "_law_row"], PySem.W.mg_of X G a21, F21.kp, b21, rfl, fun k c ok oks => fn_ok F21 scl_pop rfl rfl (der_l_pop ok oks zs cs_FAULTS)⟩
    · exact ⟨_, rfl, _, _, ["_law_d", "_law_row"], PySem.W.mg_of X G a22, F22.kp, b22, rfl, fun k c ok oks => fn_ok F22 scl_shuffled rfl rfl (der_l_shuffled ok oks zs cs_FAULTS)⟩
    · exact ⟨_, rfl, _, _, [], PySem.W.mg_of X G a23, F23.kp, b23, rfl, fun k c ok oks => fn_ok F23 scl_pool rfl rfl (der_l_pool ok oks zs cs_FAULTS)⟩
    · exact ⟨_, rfl, _, _, ["_law_thing"], PySem.W.mg_of X G a24, F24.kp, b24, rfl, fun k c ok oks => fn_ok F24 scl_is_int rfl rfl (der_l_is_int ok oks zs cs_FAULTS)⟩
    · exact ⟨_, rfl, _, _, ["_law_thing"], PySem.W.mg_of X G a25, F25.kp, b25, rfl, fun k c ok oks => fn_ok F25 scl_w_count rfl rfl (der_l_w_count ok oks zs cs_FAULTS)⟩
    · exact ⟨_, rfl, _, _, ["_law_body", "_law_at"], PySem.W.mg_of X G a26, F26.kp, b26, rfl, fun k c ok oks => fn_ok F26 scl_w_plan rfl rfl (der_l_w_plan ok oks zs cs_FAULTS)⟩
    · exact ⟨_, rfl, _, _, ["_law_told", "_law_due"], PySem.W.mg_of X G a27, F27.kp, b27, rfl, fun k c ok oks => fn_ok F27 scl_w_same rfl rfl (der_l_w_same ok oks zs cs_FAULTS)⟩
    · exact ⟨_, rfl, _, _, ["_law_d", "_law_pool_here", "_law_record"], PySem.W.mg_of X G a28, F28.kp, b28, rfl, fun k c ok oks => fn_ok F28 scl_surroundings rfl rfl (der_l_surroundings ok oks zs cs_FAULTS)⟩
    · exact ⟨_, rfl, _, _, ["_law_d"], PySem.W.mg_of X G a29, F29.kp, b29, rfl, fun k c ok oks => fn_ok F29 scl_index rfl rfl (der_l_index ok oks zs cs_FAULTS)⟩
    · exact ⟨_, rfl, _, _, ["_law_d", "_law_env"], PySem.W.mg_of X G a30, F30.kp, b30, rfl, fun k c ok oks => fn_ok F30 scl_some_test rfl rfl (der_l_some_test ok oks zs cs_FAULTS)⟩
    · exact ⟨_, rfl, _, _, ["_law_name", "_law_sign", "_law_word", "_law_width"], PySem.W.mg_of X G a31, F31.kp, b31, rfl, fun k c ok oks => fn_ok F31 scl_add rfl rfl (der_l_add ok oks zs cs_FAULTS)⟩
    · exact ⟨_, rfl, _, _, ["_law_d", "_law_env"], PySem.W.mg_of X G a32, F32.kp, b32, rfl, fun k c ok oks => fn_ok F32 scl_item_row rfl rfl (der_l_item_row ok oks zs cs_FAULTS)⟩
    · exact ⟨_, rfl, _, _, ["_law_d", "_law_env"], PySem.W.mg_of X G a33, F33.kp, b33, rfl, fun k c ok oks => fn_ok F33 scl_other_row rfl rfl (der_l_other_row ok oks zs cs_FAULTS)⟩
    · exact ⟨_, rfl, _, _, ["_law_d", "_law_env", "_law_group", "_law_names", "_law_limit"], PySem.W.mg_of X G a34, F34.kp, b34, rfl, fun k c ok oks => fn_ok F34 scl_h_changed rfl rfl (der_l_h_changed ok oks zs cs_FAULTS)⟩
    · exact ⟨_, rfl, _, _, ["_law_d", "_law_env"], PySem.W.mg_of X G a35, F35.kp, b35, rfl, fun k c ok oks => fn_ok F35 scl_h_loop rfl rfl (der_l_h_loop ok oks zs cs_FAULTS)⟩
    · exact ⟨_, rfl, _, _, ["_law_d", "_law_env", "_law_width", "_law_test"], PySem.W.mg_of X G a36, F36.kp, b36, rfl, fun k c ok oks => fn_ok F36 scl_bad_test rfl rfl (der_l_bad_test ok oks zs cs_FAULTS)⟩
    · exact ⟨_, rfl, _, _, ["_law_d", "_law_env", "_law_test", "_law_lets"], PySem.W.mg_of X G a37, F37.kp, b37, rfl, fun k c ok oks => fn_ok F37 scl_bad_block rfl rfl (der_l_bad_block ok oks zs cs_FAULTS)⟩
    · exact ⟨_, rfl, _, _, ["_law_d", "_law_env", "_law_way", "_law_row"], PySem.W.mg_of X G a38, F38.kp, b38, rfl, fun k c ok oks => fn_ok F38 scl_bad_sum rfl rfl (der_l_bad_sum ok oks zs cs_FAULTS)⟩
    · exact ⟨_, rfl, _, _, ["_law_d", "_law_env"], PySem.W.mg_of X G a39, F39.kp, b39, rfl, fun k c ok oks => fn_ok F39 scl_piece rfl rfl (der_l_piece ok oks zs cs_FAULTS)⟩
    · exact ⟨_, rfl, _, _, ["_law_rows"], PySem.W.mg_of X G a40, F40.kp, b40, rfl, fun k c ok oks => fn_ok F40 scl_whiles rfl rfl (der_l_whiles ok oks zs cs_FAULTS)⟩
    · exact ⟨_, rfl, _, _, ["_law_d", "_law_pool_here", "_law_name", "_law_record"], PySem.W.mg_of X G a41, F41.kp, b41, rfl, fun k c ok oks => fn_ok F41 scl_drawn rfl rfl (der_l_drawn ok oks zs cs_FAULTS)⟩
    · exact ⟨_, rfl, _, _, ["_law_part", "_law_names"], PySem.W.mg_of X G a42, F42.kp, b42, rfl, fun k c ok oks => fn_ok F42 scl_renamed rfl rfl (der_l_renamed ok oks zs cs_FAULTS)⟩
    · exact ⟨_, rfl, _, _, ["_law_script"], PySem.W.mg_of X G a43, F43.kp, b43, rfl, fun k c ok oks => fn_ok F43 scl_law rfl rfl (der_l_law ok oks zs cs_FAULTS)⟩
  have st2 : ∀ q ∈ snames, ∃ d, prog q.1 = some d ∧ StepS l.prog w K mg base names snames q.1 q.2 d := by
    intro q hq
    simp only [snames, List.mem_cons, List.not_mem_nil, or_false] at hq
    rcases hq with rfl
    · exact ⟨_, rfl, _, PySem.W.mg_of X G a14, F14.kp, fun k c ok oks => fnS_ok (ps := ["op", "width"]) (pv := "words") F14 scp_result rfl rfl (fun kV doc pm an cdv ct => StX.bind_star2 (B := fun us => bindArgs (PySem.W.fnOf "result" "result" (L2.defArgs sp_result) (L2.defBody sp_result) (L2.defScope sp_result) .none kV doc pm an cdv ct) ⟨us, []⟩) (fun _ _ => rfl) (fun _ _ _ _ => rfl)) (der_p_result ok oks zs cs_FAULTS)⟩
  have ow := all_own2 (P := l.prog) (w := w) (base := base) st st2 60
  refine (fn_ok (P := l.prog) (w := w) (mg := mg) (base := base) (k := 60) (d := ⟨1, 14, b_l_law⟩) (c := callN prog 60) F43 scl_law rfl rfl (der_l_law ow.1 ow.2 zs cs_FAULTS)).imp fun vs H Q E ⟨g0, f, st, ds, Q', s, r, ⟨d', e', g⟩, l⟩ => ?_
  cases (Option.some.inj e' : (⟨1, 14, b_l_law⟩ : Def) = d')
  exact ⟨g0, f, st, ds, Q', s, r, g, l⟩
end Pk52
end PartPdk52L

section PartPdk52P
set_option Elab.async false
set_option linter.all false
set_option maxRecDepth 100000
set_option maxHeartbeats 2000000
/-! k52, first text: statements, their looks. Own work. -/
namespace Pk52
open PySem Pd
local macro_rules | `(tactic| walk_at "s") => `(tactic| (repeat (refine Red.red ?_)))
local macro_rules | `(tactic| walk_at "r") => `(tactic| (repeat (first | refine Red.red ?_ | refine Nxt.mk ?_)))
local macro_rules | `(tactic| walk_at "t") => `(tactic| (repeat (first | refine Red.red ?_ | refine Nxt.mk ?_ | refine ⟨by decide +kernel, by decide +kernel, wayF (by decide +kernel) ?_⟩ | refine ⟨by decide +kernel, by decide +kernel, wayT (by decide +kernel) ?_⟩ | refine ⟨by decide +kernel, ?_⟩ | refine ⟨Nat.le_of_ble_eq_true rfl, ?_⟩ | refine at_is rfl ?_)))
local instance inTup1 {x : D} {xs : List D} {st : Store} {r : Bool → Prop} : Red (inC x (.tup xs) st r) (x.flat = true ∧ xs.all D.flat = true ∧ r (xs.any fun y => D.eqb y x)) := ⟨id⟩
variable {k m n : Nat} {st st' : Store} {Q : K}
theorem Grw.setN {c : C} (f : Grw st st') (hn : st.length ≤ n) : Grw st (st'.set n c) := by
  obtain ⟨m, rfl⟩ := f
  exact ⟨m.set (n - st.length) c, by rw [List.set_append_right _ _ hn]⟩
theorem extendLL_at {st : Store} {n m : Nat} {xs ys : List D} {Q : K} (h : rdL st n xs) (h' : rdL st m ys) (ne : n ≠ m) (hl : xs.length + ys.length ≤ szl) (q : Q .non (st.set n (.lst (xs ++ ys)))) : extendAM (.ref n) [.ref m] st Q := extend_at h h' ne hl q
inductive Ex where
  | word (v w : Int)
  | name (s : Str)
  | nul
  | item (a : Str) (e : Ex)
  | un (o : Op) (e : Ex)
  | wide (e : Ex) (w : Int)
  | bin (o : Op) (a b : Ex)
def exD : Ex → D
  | .word v w => .tup [.str "word", .int v, .int w]
  | .name s => .tup [.str "name", .str s]
  | .nul => .tup [.str "null"]
  | .item a e => .tup [.str "item", .str a, exD e]
  | .un o e => .tup [.str (opS o), exD e]
  | .wide e w => .tup [.str "wide", exD e, .int w]
  | .bin o a b => .tup [.str (opS o), exD a, exD b]
def sg : Op → Bool
  | .not => true | .neg => true | _ => false
def dv : Op → Bool
  | .div => true | .rem => true | _ => false
def Ok : Ex → Prop
  | .item _ e => Ok e
  | .un o e => sg o = true ∧ Ok e
  | .wide e _ => Ok e
  | .bin o a b => two o = true ∧ Ok a ∧ Ok b
  | _ => True
def dep : Ex → Nat
  | .item _ e => dep e + 1
  | .un _ e => dep e + 1
  | .wide e _ => dep e + 1
  | .bin _ a b => max (dep a) (dep b) + 1
  | _ => 0
/-- how many looks stand in it -/
def cnt : Ex → Nat
  | .item _ e => cnt e + 1
  | .un _ e => cnt e
  | .wide e _ => cnt e
  | .bin o a b => cnt a + cnt b + (if dv o then 1 else 0)
  | _ => 0
theorem cnt_le : ∀ e : Ex, cnt e + 1 ≤ 2 ^ (dep e + 1)
  | .word _ _ => by simp [cnt, dep]
  | .name _ => by simp [cnt, dep]
  | .nul => by simp [cnt, dep]
  | .item _ e => by
    have := cnt_le e
    have h := Nat.two_pow_pos (dep e + 1)
    simp only [cnt, dep]
    rw [Nat.pow_succ]
    omega
  | .un _ e => by
    have := cnt_le e
    simp only [cnt, dep]
    rw [Nat.pow_succ]
    omega
  | .wide e _ => by
    have := cnt_le e
    simp only [cnt, dep]
    rw [Nat.pow_succ]
    omega
  | .bin o a b => by
    have h1 := cnt_le a
    have h2 := cnt_le b
    have g1 := Nat.pow_le_pow_right (n := 2) (by decide) (show dep a + 1 ≤ max (dep a) (dep b) + 1 by omega)
    have g2 := Nat.pow_le_pow_right (n := 2) (by decide) (show dep b + 1 ≤ max (dep a) (dep b) + 1 by omega)
    simp only [cnt, dep]
    rw [Nat.pow_succ 2 (max (dep a) (dep b) + 1)]
    split <;> omega
def ops : Ex → List Ex
  | .item _ e => [e]
  | .un _ e => [e]
  | .wide e _ => [e]
  | .bin _ a b => [a, b]
  | _ => []
theorem ops_ok {e x : Ex} (h : Ok e) (hx : x ∈ ops e) : Ok x ∧ dep x < dep e := by
  cases e <;> simp only [ops, List.mem_cons, List.not_mem_nil, or_false] at hx
  · subst hx; exact ⟨h, by simp only [dep]; omega⟩
  · subst hx; exact ⟨h.2, by simp only [dep]; omega⟩
  · subst hx; exact ⟨h, by simp only [dep]; omega⟩
  · rcases hx with e | e <;> subst e
    · exact ⟨h.2.1, by simp only [dep]; omega⟩
    · exact ⟨h.2.2, by simp only [dep]; omega⟩
theorem opsP_ok {e : Ex} (h : Ok e) (hm : 1 ≤ m) (q : Q (.ref st.length) (st ++ [.lst ((ops e).map exD)])) : callN prog m "operands_of" [exD e] st Q := by
  obtain ⟨m, rfl⟩ : ∃ n, m = n + 1 := ⟨m - 1, by omega⟩
  refine call_intro rfl rfl ?_
  unfold b_p_operands_of
  cases e with
  | word v w => unfold exD; walk_at "t"; exact q
  | name s => unfold exD; walk_at "t"; exact q
  | nul => unfold exD; walk_at "t"; exact q
  | item a e => unfold exD; walk_at "t"; exact q
  | un o e =>
    obtain ⟨h1, _⟩ := h
    unfold exD
    cases o <;> first | (cases h1; done) | (walk_at "t"; exact q)
  | wide e w => unfold exD; walk_at "t"; exact q
  | bin o a b =>
    obtain ⟨h1, _⟩ := h
    unfold exD
    cases o <;> first | (cases h1; done) | (walk_at "t"; exact q)
/-- whether the head bears a look -/
def hd : Ex → Bool
  | .item _ _ => true
  | .bin o _ _ => dv o
  | _ => false
theorem ops_few (e : Ex) : (ops e).length ≤ 2 := by cases e <;> simp [ops]
theorem cnt_eq (e : Ex) : cnt e = ((ops e).map cnt).sum + (if hd e then 1 else 0) := by
  cases e <;> simp [cnt, ops, hd] <;> rfl
theorem looks_ok : ∀ (d : Nat) ⦃e : Ex⦄ ⦃m : Nat⦄ ⦃st : Store⦄ ⦃Q : K⦄, Ok e → dep e ≤ d → d ≤ 10 → d + 2 ≤ m → (∀ n xs st', xs.length = cnt e → st.length ≤ n → rdL st' n xs → Grw st st' → Q (.ref n) st') → callN prog m "expr_looks" [exD e] st Q := by
  intro d
  induction d with
  | zero =>
    intro e m st Q h hd _ hm q
    obtain ⟨m, rfl⟩ : ∃ n, m = n + 1 := ⟨m - 1, by omega⟩
    refine call_intro rfl rfl ?_
    unfold b_p_expr_looks
    cases e with
    | word v w =>
      walk_at "t"
      refine opsP_ok (e := .word v w) trivial (by omega) ?_
      refine it_at rdL_new ?_
      refine ⟨.inl rdL_new, ?_⟩
      unfold exD
      walk_at "t"
      refine wayF (by decide +kernel) ?_
      walk_at "t"
      exact q _ [] _ rfl (Nat.le_refl _) (rdL_app rdL_new) ((Grw.refl st).app.app)
    | name s =>
      walk_at "t"
      refine opsP_ok (e := .name s) trivial (by omega) ?_
      refine it_at rdL_new ?_
      refine ⟨.inl rdL_new, ?_⟩
      unfold exD
      walk_at "t"
      refine wayF (by decide +kernel) ?_
      walk_at "t"
      exact q _ [] _ rfl (Nat.le_refl _) (rdL_app rdL_new) ((Grw.refl st).app.app)
    | nul =>
      walk_at "t"
      refine opsP_ok (e := .nul) trivial (by omega) ?_
      refine it_at rdL_new ?_
      refine ⟨.inl rdL_new, ?_⟩
      unfold exD
      walk_at "t"
      refine wayF (by decide +kernel) ?_
      walk_at "t"
      exact q _ [] _ rfl (Nat.le_refl _) (rdL_app rdL_new) ((Grw.refl st).app.app)
    | item a e => simp only [dep] at hd; omega
    | un o e => simp only [dep] at hd; omega
    | wide e w => simp only [dep] at hd; omega
    | bin o a b => simp only [dep] at hd; omega
  | succ d ih =>
    intro e m st Q h hde h10 hm q
    obtain ⟨m, rfl⟩ : ∃ n, m = n + 1 := ⟨m - 1, by omega⟩
    refine call_intro rfl rfl ?_
    unfold b_p_expr_looks
    have hfew := ops_few e
    have hcb := cnt_le e
    have hpw := Nat.pow_le_pow_right (n := 2) (by decide) (show dep e + 1 ≤ 12 by omega)
    have hp12 : (2 : Nat) ^ 12 = 4096 := by decide
    walk_at "s"
    refine ⟨Nat.le_of_ble_eq_true rfl, ?_⟩
    walk_at "s"
    refine Nxt.mk ?_
    refine seq_cut (fun σ st' => ∃ xs y, xs.length = ((ops e).map cnt).sum ∧ rdL st' st.length xs ∧ Grw st st' ∧ σ = [some (exD e), some (.ref st.length), y]) (fun N hN => ?_) (fun σ st1 ⟨xs, y, h1, h2, h3, e1⟩ => ?_)
    · walk_at "s"
      refine opsP_ok h (by omega) ?_
      have g1 := ((Grw.refl st).app (c := C.lst [])).app (c := C.lst ((ops e).map exD))
      have hop := rdL_new (st := st ++ [C.lst []]) (xs := (ops e).map exD)
      have hl1 : rdL (st ++ [C.lst []] ++ [C.lst ((ops e).map exD)]) st.length [] := rdL_app rdL_new
      have len1 : (st ++ [C.lst []]).length = st.length + 1 := by simp
      rw [len1] at hop ⊢
      generalize st ++ [C.lst []] ++ [C.lst ((ops e).map exD)] = st1 at g1 hop hl1 ⊢
      refine it_at hop ?_
      refine for_map (ops e) exD rfl (fun j σ st' => ∃ xs y, xs.length = (((ops e).take j).map cnt).sum ∧ rdL st' st.length xs ∧ rdL st' (st.length + 1) ((ops e).map exD) ∧ Grw st st' ∧ σ = [some (exD e), some (.ref st.length), y]) ⟨[], _, rfl, hl1, hop, g1, rfl⟩ (fun j x σ st' hj ⟨xs, y, h1, h2, h3, h4, e1⟩ N hN => ?_) (fun σ st' ⟨xs, y, h1, h2, h3, h4, e1⟩ => ?_)
      · subst e1
        refine ⟨.inl h3, ?_⟩
        have hx := ops_ok h (List.mem_of_getElem? hj)
        have hst := rdL_lt h3
        have hsum : (((ops e).take (j + 1)).map cnt).sum = (((ops e).take j).map cnt).sum + cnt x := by
          rw [List.take_add_one, hj, List.map_append, List.sum_append]
          simp
        have hsl : (((ops e).take (j + 1)).map cnt).sum ≤ ((ops e).map cnt).sum := by
          have : ((ops e).map cnt).sum = (((ops e).take (j + 1)).map cnt).sum + (((ops e).drop (j + 1)).map cnt).sum := by
            rw [← List.sum_append, ← List.map_append, List.take_append_drop]
          omega
        have hce := cnt_eq e
        walk_at "s"
        refine ⟨ty_at h2, ?_⟩
        walk_at "s"
        refine ih hx.1 (by omega) (by omega) (by omega) fun n2 ys st2 hy hn2 hr2 g2 => ?_
        walk_at "s"
        refine extendLL_at (g2.rd h2) hr2 (by omega) (by unfold szl; omega) ?_
        refine hN _ _ ⟨xs ++ ys, _, by rw [List.length_append, h1, hy, hsum], rdL_set (g2.rd h2), rdL_ne (g2.rd h3) (by omega), Grw.setN (h4.trans g2) (Nat.le_refl _), rfl⟩
      · subst e1
        refine ⟨.inl h3, ?_⟩
        rw [List.take_length] at h1
        exact hN _ _ ⟨xs, _, h1, h2, h4, rfl⟩
    · subst e1
      have fin : ∀ (b : Bool), hd e = b → (b = true → sExpr (dM tyLst appendM (dVar 1) (aCons (dVar 0) (aNil))) { nx := fun σ' st' => Nxt (sRet (dVar 1) { nx := fun x st' => Q D.non st', rt := Q } σ' st'), rt := Q } [some (exD e), some (.ref st.length), y] st1) ∧ (b = false → sNext { nx := fun σ' st' => Nxt (sRet (dVar 1) { nx := fun x st' => Q D.non st', rt := Q } σ' st'), rt := Q } [some (exD e), some (.ref st.length), y] st1) := by
        intro b hb
        have hce := cnt_eq e
        rw [hb] at hce
        cases b with
        | true =>
          refine ⟨fun _ => ?_, fun z => nomatch z⟩
          walk_at "s"
          refine ⟨ty_at h2, ?_⟩
          walk_at "s"
          refine append_at h2 (by unfold szl; simp at hce; omega) ?_
          walk_at "r"
          exact q _ _ _ (by rw [List.length_append, h1, hce]; rfl) (Nat.le_refl _) (rdL_set h2) (Grw.setN h3 (Nat.le_refl _))
        | false =>
          refine ⟨fun z => (nomatch z), fun _ => ?_⟩
          walk_at "r"
          exact q _ _ _ (by rw [h1, hce]; rfl) (Nat.le_refl _) h2 h3
      cases e with
      | word v w => unfold exD at fin ⊢; walk_at "t"; exact fin false rfl
      | name s => unfold exD at fin ⊢; walk_at "t"; exact fin false rfl
      | nul => unfold exD at fin ⊢; walk_at "t"; exact fin false rfl
      | item a e => unfold exD at fin ⊢; walk_at "t"; exact fin true rfl
      | un o e =>
        obtain ⟨z, _⟩ := h
        unfold exD at fin ⊢
        cases o <;> first | (cases z; done) | (walk_at "t"; exact fin false rfl)
      | wide e w => unfold exD at fin ⊢; walk_at "t"; exact fin false rfl
      | bin o a b =>
        obtain ⟨z, _⟩ := h
        unfold exD at fin ⊢
        cases o <;> first | (cases z; done) | (walk_at "t"; exact fin false rfl) | (walk_at "t"; exact fin true rfl)
end Pk52
end PartPdk52P

section PartPdk52P2
set_option Elab.async false
set_option linter.all false
set_option maxRecDepth 100000
set_option maxHeartbeats 2000000
/-! k52, second text: statements in order. Own work. -/
namespace Pk52
open PySem Pd
local macro_rules | `(tactic| walk_at "s") => `(tactic| (repeat (refine Red.red ?_)))
local macro_rules | `(tactic| walk_at "r") => `(tactic| (repeat (first | refine Red.red ?_ | refine Nxt.mk ?_)))
local macro_rules | `(tactic| walk_at "t") => `(tactic| (repeat (first | refine Red.red ?_ | refine Nxt.mk ?_ | refine ⟨by decide +kernel, by decide +kernel, wayF (by decide +kernel) ?_⟩ | refine ⟨by decide +kernel, by decide +kernel, wayT (by decide +kernel) ?_⟩ | refine ⟨by decide +kernel, ?_⟩ | refine ⟨Nat.le_of_ble_eq_true rfl, ?_⟩ | refine at_is rfl ?_)))
local instance inTup2 {x : D} {xs : List D} {st : Store} {r : Bool → Prop} : Red (inC x (.tup xs) st r) (x.flat = true ∧ xs.all D.flat = true ∧ r (xs.any fun y => D.eqb y x)) := ⟨id⟩
variable {k m n : Nat} {st st' : Store} {Q : K}
mutual
inductive St where
  | lt (p e : Ex)
  | asr (e : Ex)
  | ifs (e : Ex) (a b : Bl)
  | rs (n : Str)
  | rt (e : Ex)
  | mk (v r : Str)
  | tr (a : Bl) (n : Str) (b : Bl)
  | wh (e : Ex) (b : Bl)
inductive Bl where
  | nil
  | cons (s : St) (b : Bl)
end
mutual
def stD : St → D
  | .lt p e => .tup [.str "let", exD p, exD e]
  | .asr e => .tup [.str "assert", exD e]
  | .ifs e a b => .tup [.str "if", exD e, .tup (blL a), .tup (blL b)]
  | .rs n => .tup [.str "raise", .str n]
  | .rt e => .tup [.str "return", exD e]
  | .mk v r => .tup [.str "make", .str v, .str r]
  | .tr a n b => .tup [.str "try", .tup (blL a), .tup [.tup [.str n, .tup (blL b)]]]
  | .wh e b => .tup [.str "while", exD e, .tup (blL b)]
def blL : Bl → List D
  | .nil => []
  | .cons s b => stD s :: blL b
end
mutual
def preS : St → List St
  | .ifs e a b => .ifs e a b :: (pre a ++ pre b)
  | .tr a n b => .tr a n b :: (pre a ++ pre b)
  | .wh e b => .wh e b :: pre b
  | .lt p e => [.lt p e]
  | .asr e => [.asr e]
  | .rs n => [.rs n]
  | .rt e => [.rt e]
  | .mk v r => [.mk v r]
def pre : Bl → List St
  | .nil => []
  | .cons s b => preS s ++ pre b
end
mutual
def bdS : St → Nat
  | .ifs _ a b => max (bd a) (bd b) + 1
  | .tr a _ b => max (bd a) (bd b) + 1
  | .wh _ b => bd b + 1
  | _ => 0
def bd : Bl → Nat
  | .nil => 0
  | .cons s b => max (bdS s) (bd b)
end
def toL : Bl → List St
  | .nil => []
  | .cons s b => s :: toL b
def blks : St → List Bl
  | .ifs _ a b => [a, b]
  | .tr a _ b => [a, b]
  | .wh _ b => [b]
  | _ => []
def exs : St → List Ex
  | .lt p e => [p, e]
  | .asr e => [e]
  | .ifs e _ _ => [e]
  | .rt e => [e]
  | .wh e _ => [e]
  | _ => []
def looks (s : St) : Nat := ((exs s).map cnt).sum
def blD (b : Bl) : D := .tup (blL b)
theorem blL_eq : ∀ b : Bl, blL b = (toL b).map stD
  | .nil => rfl
  | .cons s b => by rw [blL, toL, List.map_cons, blL_eq b]
theorem pre_flat : ∀ b : Bl, pre b = (toL b).flatMap preS
  | .nil => by rw [pre, toL, List.flatMap_nil]
  | .cons s b => by rw [pre, toL, List.flatMap_cons, pre_flat b]
theorem preS_eq (s : St) : preS s = s :: (blks s).flatMap pre := by cases s <;> simp [preS, blks]
theorem bd_mem : ∀ {b : Bl} {s : St}, s ∈ toL b → bdS s ≤ bd b
  | .nil, s, h => by simp [toL] at h
  | .cons t b, s, h => by
    rw [toL] at h
    rw [bd]
    rcases List.mem_cons.mp h with e | h
    · subst e; omega
    · have := bd_mem h; omega
theorem bd_blk {s : St} {b : Bl} (h : b ∈ blks s) : bd b < bdS s := by
  cases s <;> simp only [blks, List.mem_cons, List.not_mem_nil, or_false] at h
  · rcases h with e | e <;> subst e <;> simp only [bdS] <;> omega
  · rcases h with e | e <;> subst e <;> simp only [bdS] <;> omega
  · subst h; simp only [bdS]; omega
theorem pre_le {b : Bl} {s : St} (h : s ∈ toL b) : (preS s).length ≤ (pre b).length := by
  rw [pre_flat]
  generalize toL b = l at h
  induction l with
  | nil => simp at h
  | cons t l ih =>
    rw [List.flatMap_cons, List.length_append]
    rcases List.mem_cons.mp h with e | h
    · subst e; omega
    · have := ih h; omega
theorem blks_ok {s : St} (hm : 1 ≤ m) (q : ∀ n st', st.length ≤ n → rdL st' n ((blks s).map blD) → Grw st st' → Q (.ref n) st') : callN prog m "blocks_of" [stD s] st Q := by
  obtain ⟨m, rfl⟩ : ∃ n, m = n + 1 := ⟨m - 1, by omega⟩
  refine call_intro rfl rfl ?_
  unfold b_p_blocks_of
  cases s with
  | lt p e => unfold stD; walk_at "t"; exact q _ _ (Nat.le_refl _) rdL_new (Grw.refl st).app
  | asr e => unfold stD; walk_at "t"; exact q _ _ (Nat.le_refl _) rdL_new (Grw.refl st).app
  | ifs e a b => unfold stD; walk_at "t"; exact q _ _ (Nat.le_refl _) rdL_new (Grw.refl st).app
  | rs n => unfold stD; walk_at "t"; exact q _ _ (Nat.le_refl _) rdL_new (Grw.refl st).app
  | rt e => unfold stD; walk_at "t"; exact q _ _ (Nat.le_refl _) rdL_new (Grw.refl st).app
  | mk v r => unfold stD; walk_at "t"; exact q _ _ (Nat.le_refl _) rdL_new (Grw.refl st).app
  | wh e b => unfold stD; walk_at "t"; exact q _ _ (Nat.le_refl _) rdL_new (Grw.refl st).app
  | tr a n b =>
    unfold stD
    walk_at "t"
    refine lc_map [b] (fun b => D.tup [.str n, blD b]) blD rfl (by unfold szl; simp) (fun _ => trivial) (fun x hx acc N hN => ?_) ?_
    · walk_at "t"
      refine ⟨rfl, ?_⟩
      walk_at "t"
      exact hN
    · refine add_at (rdL_app rdL_new) rdL_new (by unfold szl; simp) ?_
      exact q _ _ (by simp) rdL_new ((Grw.refl st).app.app.app)
theorem exs_ok {s : St} (hm : 1 ≤ m) (q : ∀ n st', st.length ≤ n → rdL st' n ((exs s).map exD) → Grw st st' → Q (.ref n) st') : callN prog m "exprs_of" [stD s] st Q := by
  obtain ⟨m, rfl⟩ : ∃ n, m = n + 1 := ⟨m - 1, by omega⟩
  refine call_intro rfl rfl ?_
  unfold b_p_exprs_of
  cases s with
  | lt p e => unfold stD; walk_at "t"; exact q _ _ (Nat.le_refl _) rdL_new (Grw.refl st).app
  | asr e => unfold stD; walk_at "t"; exact q _ _ (Nat.le_refl _) rdL_new (Grw.refl st).app
  | ifs e a b => unfold stD; walk_at "t"; exact q _ _ (Nat.le_refl _) rdL_new (Grw.refl st).app
  | rs n => unfold stD; walk_at "t"; exact q _ _ (Nat.le_refl _) rdL_new (Grw.refl st).app
  | rt e => unfold stD; walk_at "t"; exact q _ _ (Nat.le_refl _) rdL_new (Grw.refl st).app
  | mk v r => unfold stD; walk_at "t"; exact q _ _ (Nat.le_refl _) rdL_new (Grw.refl st).app
  | wh e b => unfold stD; walk_at "t"; exact q _ _ (Nat.le_refl _) rdL_new (Grw.refl st).app
  | tr a n b => unfold stD; walk_at "t"; exact q _ _ (Nat.le_refl _) rdL_new (Grw.refl st).app
theorem sum_take {α : Type} {f : α → Nat} {l : List α} {j : Nat} {x : α} (h : l[j]? = some x) : ((l.take (j + 1)).map f).sum = ((l.take j).map f).sum + f x ∧ ((l.take (j + 1)).map f).sum ≤ (l.map f).sum := by
  refine ⟨by rw [List.take_add_one, h, List.map_append, List.sum_append]; simp, ?_⟩
  have : (l.map f).sum = ((l.take (j + 1)).map f).sum + ((l.drop (j + 1)).map f).sum := by
    rw [← List.sum_append, ← List.map_append, List.take_append_drop]
  omega
def EOk (e : Ex) : Prop := Ok e ∧ dep e ≤ 8
theorem slooks_ok {s : St} (hm : 12 ≤ m) (h : ∀ e ∈ exs s, EOk e) (hl : looks s ≤ 100000) (q : ∀ n xs st', xs.length = looks s → rdL st' n xs → Grw st st' → Q (.ref n) st') : callN prog m "statement_looks" [stD s] st Q := by
  obtain ⟨m, rfl⟩ : ∃ n, m = n + 1 := ⟨m - 1, by omega⟩
  refine call_intro rfl rfl ?_
  unfold b_p_statement_looks
  unfold looks at hl q
  walk_at "s"
  refine ⟨Nat.le_of_ble_eq_true rfl, ?_⟩
  walk_at "s"
  refine Nxt.mk ?_
  walk_at "s"
  refine exs_ok (by omega) fun n1 st1 hn1 h1 g1 => ?_
  have hl1 : rdL st1 st.length [] := Grw.rd g1 rdL_new
  have hne : n1 ≠ st.length := by simp at hn1; omega
  have g01 : Grw st st1 := ((Grw.refl st).app).trans g1
  refine it_at h1 ?_
  refine for_map (exs s) exD rfl (fun j σ st' => ∃ xs y, xs.length = (((exs s).take j).map cnt).sum ∧ rdL st' st.length xs ∧ rdL st' n1 ((exs s).map exD) ∧ Grw st st' ∧ σ = [some (stD s), some (.ref st.length), y]) ⟨[], _, rfl, hl1, h1, g01, rfl⟩ (fun j x σ st' hj ⟨xs, y, k1, k2, k3, k4, e1⟩ N hN => ?_) (fun σ st' ⟨xs, y, k1, k2, k3, k4, e1⟩ => ?_)
  · subst e1
    refine ⟨.inl k3, ?_⟩
    obtain ⟨s1, s2⟩ := sum_take (f := cnt) hj
    obtain ⟨x1, x2⟩ := h x (List.mem_of_getElem? hj)
    have b1 := rdL_lt k2
    have b2 := rdL_lt k3
    walk_at "s"
    refine ⟨ty_at k2, ?_⟩
    walk_at "s"
    refine looks_ok 8 x1 x2 (by decide) (by omega) fun n2 ys st2 hy hn2 hr2 g2 => ?_
    walk_at "s"
    refine extendLL_at (g2.rd k2) hr2 (by omega) (by unfold szl; omega) ?_
    refine hN _ _ ⟨xs ++ ys, _, by rw [List.length_append, k1, hy, s1], rdL_set (g2.rd k2), rdL_ne (g2.rd k3) hne, Grw.setN (k4.trans g2) (Nat.le_refl _), rfl⟩
  · subst e1
    refine ⟨.inl k3, ?_⟩
    rw [List.take_length] at k1
    walk_at "r"
    exact q _ xs _ k1 k2 k4
theorem flat_take {α β : Type} {f : α → List β} {l : List α} {j : Nat} {x : α} (h : l[j]? = some x) : (l.take (j + 1)).flatMap f = (l.take j).flatMap f ++ f x ∧ ((l.take (j + 1)).flatMap f).length ≤ (l.flatMap f).length := by
  refine ⟨by rw [List.take_add_one, h, List.flatMap_append]; simp, ?_⟩
  have : (l.flatMap f).length = ((l.take (j + 1)).flatMap f).length + ((l.drop (j + 1)).flatMap f).length := by
    rw [← List.length_append, ← List.flatMap_append, List.take_append_drop]
  omega
def SmOk (d : Nat) : Prop := ∀ ⦃b : Bl⦄ ⦃m : Nat⦄ ⦃st : Store⦄ ⦃Q : K⦄, bd b ≤ d → d + 2 ≤ m → (pre b).length ≤ 1000 → (∀ n st', st.length ≤ n → rdL st' n ((pre b).map stD) → Grw st st' → Q (.ref n) st') → callN prog m "statements_of" [blD b] st Q
theorem sm_step {d : Nat} (ih : ∀ d', d' < d → SmOk d') : SmOk d := by
  intro b m st Q hb hm hl q
  obtain ⟨m, rfl⟩ : ∃ n, m = n + 1 := ⟨m - 1, by omega⟩
  refine call_intro rfl rfl ?_
  unfold b_p_statements_of
  rw [pre_flat] at hl q
  unfold blD
  walk_at "s"
  refine ⟨Nat.le_of_ble_eq_true rfl, ?_⟩
  walk_at "s"
  refine Nxt.mk ?_
  walk_at "s"
  refine for_map (toL b) stD (blL_eq b) (fun j σ st' => ∃ y z, rdL st' st.length ((((toL b).take j).flatMap preS).map stD) ∧ Grw st st' ∧ σ = [some (.tup (blL b)), some (.ref st.length), y, z]) ⟨_, _, rdL_new, (Grw.refl st).app, rfl⟩ (fun j s σ st' hj ⟨y, z, k1, k2, e1⟩ N hN => ?_) (fun σ st' ⟨y, z, k1, k2, e1⟩ => ?_)
  · subst e1
    refine ⟨trivial, ?_⟩
    obtain ⟨f1, f2⟩ := flat_take (f := preS) hj
    rw [f1, List.length_append] at f2
    have hsm := List.mem_of_getElem? hj
    have hbs := bd_mem hsm
    have hpe := preS_eq s
    rw [hpe, List.length_cons] at f2
    walk_at "s"
    refine ⟨ty_at k1, ?_⟩
    walk_at "s"
    refine append_at k1 (by rw [List.length_map]; unfold szl; omega) ?_
    refine Nxt.mk ?_
    have k1' := rdL_set (ys := (((toL b).take j).flatMap preS).map stD ++ [stD s]) k1
    have k2' := Grw.setN (c := C.lst ((((toL b).take j).flatMap preS).map stD ++ [stD s])) k2 (Nat.le_refl _)
    generalize st'.set st.length (.lst ((((toL b).take j).flatMap preS).map stD ++ [stD s])) = st1 at k1' k2'
    walk_at "s"
    refine blks_ok (by omega) fun n2 st2 hn2 h2 g2 => ?_
    have hl2 := rdL_lt k1'
    have r2 := g2.rd k1'
    refine it_at h2 ?_
    refine for_map (blks s) blD rfl (fun i σ st3 => ∃ z, rdL st3 st.length (((((toL b).take j).flatMap preS) ++ s :: (((blks s).take i).flatMap pre)).map stD) ∧ rdL st3 n2 ((blks s).map blD) ∧ Grw st st3 ∧ σ = [some (.tup (blL b)), some (.ref st.length), some (stD s), z]) ⟨_, by rw [List.map_append]; exact r2, h2, k2'.trans g2, rfl⟩ (fun i x σ st3 hi ⟨z, j1, j2, j3, e1⟩ N hN => ?_) (fun σ st3 ⟨z, j1, j2, j3, e1⟩ => ?_)
    · subst e1
      refine ⟨.inl j2, ?_⟩
      obtain ⟨g1', g2'⟩ := flat_take (f := pre) hi
      have hbx := bd_blk (List.mem_of_getElem? hi)
      have hlx : (pre x).length ≤ 1000 := by
        rw [g1', List.length_append] at g2'
        omega
      have b1 := rdL_lt j1
      walk_at "s"
      refine ⟨ty_at j1, ?_⟩
      walk_at "s"
      refine ih (d - 1) (by omega) (by omega) (by omega) hlx fun n4 st4 hn4 h4 g4 => ?_
      walk_at "s"
      refine extendLL_at (g4.rd j1) h4 (by omega) ?_ ?_
      · rw [List.length_map, List.length_map, List.length_append, List.length_cons]
        rw [g1', List.length_append] at g2'
        unfold szl
        omega
      · have e5 : List.map stD (((toL b).take j).flatMap preS ++ s :: ((blks s).take i).flatMap pre) ++ List.map stD (pre x) = List.map stD (((toL b).take j).flatMap preS ++ s :: ((blks s).take (i + 1)).flatMap pre) := by
          rw [g1', ← List.map_append, List.append_assoc, List.cons_append]
        rw [e5]
        exact hN _ _ ⟨_, rdL_set (g4.rd j1), rdL_ne (g4.rd j2) (by omega), Grw.setN (j3.trans g4) (Nat.le_refl _), rfl⟩
    · subst e1
      refine ⟨.inl j2, ?_⟩
      rw [List.take_length, ← hpe, ← f1] at j1
      exact hN _ _ ⟨_, _, j1, j3, rfl⟩
  · subst e1
    refine ⟨trivial, ?_⟩
    rw [List.take_length] at k1
    walk_at "r"
    exact q _ _ (Nat.le_refl _) k1 k2
theorem sm_all : ∀ d : Nat, SmOk d := by
  intro d
  induction d using Nat.strongRecOn with
  | ind d ih => exact sm_step ih
end Pk52
end PartPdk52P2

section PartPdk52P3
set_option Elab.async false
set_option linter.all false
set_option maxRecDepth 100000
set_option maxHeartbeats 2000000
/-! k52, third text: shapes. Own work. -/
namespace Pk52
open PySem Pd
local macro_rules | `(tactic| walk_at "s") => `(tactic| (repeat (refine Red.red ?_)))
local macro_rules | `(tactic| walk_at "r") => `(tactic| (repeat (first | refine Red.red ?_ | refine Nxt.mk ?_)))
local macro_rules | `(tactic| walk_at "t") => `(tactic| (repeat (first | refine Red.red ?_ | refine Nxt.mk ?_ | refine ⟨by decide +kernel, by decide +kernel, wayF (by decide +kernel) ?_⟩ | refine ⟨by decide +kernel, by decide +kernel, wayT (by decide +kernel) ?_⟩ | refine ⟨by decide +kernel, ?_⟩ | refine ⟨Nat.le_of_ble_eq_true rfl, ?_⟩ | refine at_is rfl ?_)))
local instance inTup3 {x : D} {xs : List D} {st : Store} {r : Bool → Prop} : Red (inC x (.tup xs) st r) (x.flat = true ∧ xs.all D.flat = true ∧ r (xs.any fun y => D.eqb y x)) := ⟨id⟩
variable {k m n : Nat} {st st' : Store} {Q : K}
local instance notinTup3 {x : D} {xs : List D} {st : Store} {r : Bool → Prop} : Red (notinC x (.tup xs) st r) (x.flat = true ∧ xs.all D.flat = true ∧ r (!(xs.any fun y => D.eqb y x))) := ⟨id⟩
abbrev Chg := Str × Int × Int
abbrev chD (c : Chg) : D := .tup [.str c.1, .int c.2.1, .int c.2.2]
def isNm (x : Str) : Ex → Bool
  | .name y => decide (y = x)
  | _ => false
theorem heads : ("word" : Str) ≠ "name" ∧ ("null" : Str) ≠ "name" ∧ ("item" : Str) ≠ "name" ∧ ("wide" : Str) ≠ "name" := by decide +kernel
theorem opS_name : ∀ o : Op, opS o ≠ "name" := by
  intro o
  cases o <;> decide +kernel
theorem eqb_nm (x : Str) (a : Ex) : D.eqb (exD a) (exD (.name x)) = isNm x a := by
  obtain ⟨h1, h2, h3, h4⟩ := heads
  cases a with
  | word v w => simp [exD, D.eqb, eqbs, isNm, h1]
  | name y => simp [exD, D.eqb, eqbs, isNm]
  | nul => simp [exD, D.eqb, eqbs, isNm, h2]
  | item b e => simp [exD, D.eqb, eqbs, isNm, h3]
  | un o e => simp [exD, D.eqb, eqbs, isNm, opS_name]
  | wide e w => simp [exD, D.eqb, eqbs, isNm, h4]
  | bin o a b => simp [exD, D.eqb, eqbs, isNm, opS_name]
def chg : St → Option Chg
  | .lt (.name x) (.bin .add a (.word v w)) => if isNm x a then some (x, w, v) else none
  | .lt (.name x) (.bin .sub a (.word v w)) => if isNm x a then some (x, w, v1 .neg w v) else none
  | _ => none
def optC : Option Chg → D
  | none => .non
  | some c => chD c
/-- fine to be read as a change -/
structure Fine (W : List (Str × Int)) (s : St) : Prop where
  ok : ∀ e ∈ exs s, Ok e ∧ D.okd 60 (exD e) = true
  sub : ∀ p o a b, s = .lt p (.bin o a b) → D.okd 60 (exD a) = true
  kn : ∀ x o v w, s = .lt (.name x) (.bin o (.name x) (.word v w)) → (∃ w', (x, w') ∈ W) ∧ 1 ≤ w ∧ w ≤ 8
def KdOk (st : Store) (kn : Nat) (W : List (Str × Int)) : Prop := ∃ kvs, rdD st kn kvs ∧ ∀ x ∈ W, valD kvs (.inr x.1) = some (.tup [.str "word", .int x.2])
variable {W : List (Str × Int)} {kn : Nat}
theorem Grw.rdD {n : Nat} {kvs : List (Ky × D)} (f : Grw st st') (h : rdD st n kvs) : rdD st' n kvs := by
  obtain ⟨m, rfl⟩ := f
  have : n < st.length := (List.getElem?_eq_some_iff.mp h).1
  unfold Pd.rdD at *
  rw [List.getElem?_append_left this]; exact h
theorem KdOk.grw (h : KdOk st kn W) (f : Grw st st') : KdOk st' kn W := by
  obtain ⟨kvs, h1, h2⟩ := h
  exact ⟨kvs, Grw.rdD f h1, h2⟩
theorem okd_nm {x : Str} (h : D.okd 60 (exD (.name x)) = true) : okS x = true := by
  have h' : okds 59 [D.str "name", D.str x] = true := h
  simp [okds, D.okd] at h'
  exact h'.2
theorem getA_str {kvs : List (Ky × D)} {s : Str} {d : D} (h : rdD st n kvs) (e : valD kvs (.inr s) = some d) (q : Q d st) : getDAK (.ref n) (.str s) st Q := ⟨kvs, .inr s, d, .inl h, rfl, e, q⟩
theorem ne_ex {x : Str} {a : Ex} {r : Bool → Prop} (h1 : D.okd 60 (exD a) = true) (h2 : D.okd 60 (exD (.name x)) = true) (q : r (!isNm x a)) : neC (exD a) (exD (.name x)) st r := by
  have key : eqC (exD a) (exD (.name x)) st fun b => r (!b) := by
    rw [← eqb_nm] at q
    cases a <;> exact ⟨h1, h2, q⟩
  exact key
theorem neg_res {w v : Int} (hm : 2 ≤ m) (w0 : 1 ≤ w) (w1 : w ≤ 8) (q : Q (.int (v1 .neg w v)) st) : callN prog m "result" [.str "neg", .int w, .tup [.int v]] st Q := by
  obtain ⟨m, rfl⟩ : ∃ n, m = n + 2 := ⟨m - 2, by omega⟩
  refine call_intro rfl rfl ?_
  unfold b_p_result
  walk_at "t"
  refine greatest_ok rfl (by omega) w1 ?_
  exact q
theorem change_ok {s : St} (hm : 3 ≤ m) (hF : Fine W s) (hK : KdOk st kn W) (q : Q (optC (chg s)) st) : callN prog m "change_of" [.ref kn, stD s] st Q := by
  obtain ⟨m, rfl⟩ : ∃ n, m = n + 1 := ⟨m - 1, by omega⟩
  refine call_intro rfl rfl ?_
  unfold b_p_change_of
  cases s with
  | asr e => unfold stD; walk_at "t"; exact q
  | ifs e a b => unfold stD; walk_at "t"; exact q
  | rs n => unfold stD; walk_at "t"; exact q
  | rt e => unfold stD; walk_at "t"; exact q
  | mk v r => unfold stD; walk_at "t"; exact q
  | wh e b => unfold stD; walk_at "t"; exact q
  | tr a n b => unfold stD; walk_at "t"; exact q
  | lt p e =>
    have hp := hF.ok p (by simp [exs])
    have he := hF.ok e (by simp [exs])
    cases p with
    | word v w => unfold stD; rw [show exD (.word v w) = .tup [.str "word", .int v, .int w] from rfl]; walk_at "t"; exact q
    | nul => unfold stD; rw [show exD .nul = .tup [.str "null"] from rfl]; walk_at "t"; exact q
    | item a b => unfold stD; rw [show exD (.item a b) = .tup [.str "item", .str a, exD b] from rfl]; walk_at "t"; exact q
    | un o b =>
      unfold stD; rw [show exD (.un o b) = .tup [.str (opS o), exD b] from rfl]
      obtain ⟨h1, _⟩ := hp.1
      cases o <;> first | (cases h1; done) | (walk_at "t"; exact q)
    | wide b w => unfold stD; rw [show exD (.wide b w) = .tup [.str "wide", exD b, .int w] from rfl]; walk_at "t"; exact q
    | bin o a b =>
      unfold stD; rw [show exD (.bin o a b) = .tup [.str (opS o), exD a, exD b] from rfl]
      obtain ⟨h1, _⟩ := hp.1
      cases o <;> first | (cases h1; done) | (walk_at "t"; exact q)
    | name x =>
      have hx : exD (.name x) = .tup [.str "name", .str x] := rfl
      have okx := okd_nm hp.2
      cases e with
      | word v w => unfold stD; rw [hx, show exD (.word v w) = .tup [.str "word", .int v, .int w] from rfl]; walk_at "t"; exact q
      | name y => unfold stD; rw [hx, show exD (.name y) = .tup [.str "name", .str y] from rfl]; walk_at "t"; exact q
      | nul => unfold stD; rw [hx, show exD .nul = .tup [.str "null"] from rfl]; walk_at "t"; exact q
      | item a b => unfold stD; rw [hx, show exD (.item a b) = .tup [.str "item", .str a, exD b] from rfl]; walk_at "t"; exact q
      | un o b =>
        unfold stD; rw [hx, show exD (.un o b) = .tup [.str (opS o), exD b] from rfl]
        obtain ⟨h1, _⟩ := he.1
        cases o <;> first | (cases h1; done) | (walk_at "t"; exact q)
      | wide b w => unfold stD; rw [hx, show exD (.wide b w) = .tup [.str "wide", exD b, .int w] from rfl]; walk_at "t"; exact q
      | bin o a b =>
        have hsub := hF.sub _ o a b rfl
        have key : ∀ s : Op, s = o → (o = .add ∨ o = .sub) → callN prog m "result" [.str "neg"] st (fun _ _ => True) ∨ True := fun _ _ _ => .inr trivial
        unfold stD
        rw [hx, show exD (.bin o a b) = .tup [.str (opS o), exD a, exD b] from rfl]
        obtain ⟨h1, h2, h3⟩ := he.1
        have hkn := hF.kn x o
        cases o with
        | add =>
          walk_at "t"
          rw [← hx]
          refine ne_ex hsub hp.2 ?_
          cases hn : isNm x a with
          | false =>
            refine wayT rfl ?_
            walk_at "t"
            have e1 : chg (.lt (.name x) (.bin .add a b)) = none := by cases b <;> simp [chg, hn]
            rw [e1] at q
            exact q
          | true =>
            obtain rfl : a = .name x := by
              cases a <;> first | (cases hn; done) | skip
              rename_i y
              have : y = x := by simpa [isNm] using hn
              rw [this]
            refine wayF rfl ?_
            cases b with
            | name y => rw [show exD (.name y) = .tup [.str "name", .str y] from rfl]; walk_at "t"; exact q
            | nul => rw [show exD .nul = .tup [.str "null"] from rfl]; walk_at "t"; exact q
            | item a b => rw [show exD (.item a b) = .tup [.str "item", .str a, exD b] from rfl]; walk_at "t"; exact q
            | un o b =>
              rw [show exD (.un o b) = .tup [.str (opS o), exD b] from rfl]
              obtain ⟨z, _⟩ := h3
              cases o <;> first | (cases z; done) | (walk_at "t"; exact q)
            | wide b w => rw [show exD (.wide b w) = .tup [.str "wide", exD b, .int w] from rfl]; walk_at "t"; exact q
            | bin o c d =>
              rw [show exD (.bin o c d) = .tup [.str (opS o), exD c, exD d] from rfl]
              obtain ⟨z, _⟩ := h3
              cases o <;> first | (cases z; done) | (walk_at "t"; exact q)
            | word v w =>
              obtain ⟨⟨w', hw'⟩, w0, w1⟩ := hkn v w rfl
              obtain ⟨kvs, k1, k2⟩ := hK
              rw [show exD (.word v w) = .tup [.str "word", .int v, .int w] from rfl, hx]
              walk_at "t"
              refine getA_str k1 (k2 _ hw') ?_
              walk_at "t"
              simp only [chg, hn, if_true] at q
              exact q
        | sub =>
          walk_at "t"
          rw [← hx]
          refine ne_ex hsub hp.2 ?_
          cases hn : isNm x a with
          | false =>
            refine wayT rfl ?_
            walk_at "t"
            have e1 : chg (.lt (.name x) (.bin .sub a b)) = none := by cases b <;> simp [chg, hn]
            rw [e1] at q
            exact q
          | true =>
            obtain rfl : a = .name x := by
              cases a <;> first | (cases hn; done) | skip
              rename_i y
              have : y = x := by simpa [isNm] using hn
              rw [this]
            refine wayF rfl ?_
            cases b with
            | name y => rw [show exD (.name y) = .tup [.str "name", .str y] from rfl]; walk_at "t"; exact q
            | nul => rw [show exD .nul = .tup [.str "null"] from rfl]; walk_at "t"; exact q
            | item a b => rw [show exD (.item a b) = .tup [.str "item", .str a, exD b] from rfl]; walk_at "t"; exact q
            | un o b =>
              rw [show exD (.un o b) = .tup [.str (opS o), exD b] from rfl]
              obtain ⟨z, _⟩ := h3
              cases o <;> first | (cases z; done) | (walk_at "t"; exact q)
            | wide b w => rw [show exD (.wide b w) = .tup [.str "wide", exD b, .int w] from rfl]; walk_at "t"; exact q
            | bin o c d =>
              rw [show exD (.bin o c d) = .tup [.str (opS o), exD c, exD d] from rfl]
              obtain ⟨z, _⟩ := h3
              cases o <;> first | (cases z; done) | (walk_at "t"; exact q)
            | word v w =>
              obtain ⟨⟨w', hw'⟩, w0, w1⟩ := hkn v w rfl
              obtain ⟨kvs, k1, k2⟩ := hK
              rw [show exD (.word v w) = .tup [.str "word", .int v, .int w] from rfl, hx]
              walk_at "t"
              refine getA_str k1 (k2 _ hw') ?_
              walk_at "t"
              refine neg_res (by omega) w0 w1 ?_
              walk_at "t"
              simp only [chg, hn, if_true] at q
              exact q
        | _ => first | (cases h1; done) | (walk_at "t"; exact q)
end Pk52
end PartPdk52P3

section PartPdk52P4
set_option Elab.async false
set_option linter.all false
set_option maxRecDepth 100000
set_option maxHeartbeats 2000000
/-! k52, fourth text: shapes of whiles. Own work. -/
namespace Pk52
open PySem Pd
local macro_rules | `(tactic| walk_at "s") => `(tactic| (repeat (refine Red.red ?_)))
local macro_rules | `(tactic| walk_at "r") => `(tactic| (repeat (first | refine Red.red ?_ | refine Nxt.mk ?_)))
local macro_rules | `(tactic| walk_at "t") => `(tactic| (repeat (first | refine Red.red ?_ | refine Nxt.mk ?_ | refine ⟨by decide +kernel, by decide +kernel, wayF (by decide +kernel) ?_⟩ | refine ⟨by decide +kernel, by decide +kernel, wayT (by decide +kernel) ?_⟩ | refine ⟨by decide +kernel, ?_⟩ | refine ⟨Nat.le_of_ble_eq_true rfl, ?_⟩ | refine at_is rfl ?_)))
local instance inTup4 {x : D} {xs : List D} {st : Store} {r : Bool → Prop} : Red (inC x (.tup xs) st r) (x.flat = true ∧ xs.all D.flat = true ∧ r (xs.any fun y => D.eqb y x)) := ⟨id⟩
variable {k m n : Nat} {st st' : Store} {Q : K}
local instance notinTup4 {x : D} {xs : List D} {st : Store} {r : Bool → Prop} : Red (notinC x (.tup xs) st r) (x.flat = true ∧ xs.all D.flat = true ∧ r (!(xs.any fun y => D.eqb y x))) := ⟨id⟩
variable {W : List (Str × Int)} {kn : Nat}
def cmp3 : Op → Bool
  | .lt => true | .le => true | .ne => true | _ => false
def lim : Ex → Bool
  | .word _ _ => true
  | .name _ => true
  | _ => false
def has (cs : List Chg) (x : Str) : Bool := cs.any fun c => decide (c.1 = x)
def inR (cs : List Chg) : Ex → Bool
  | .name y => has cs y
  | _ => false
def chgs : List St → List Chg → Option (List Chg)
  | [], acc => some acc
  | s :: r, acc => match chg s with
    | none => none
    | some c => if has acc c.1 then none else chgs r (acc ++ [c])
def shB (e : Ex) (cs : List Chg) : Option (Str × Op × Ex × List Chg) := match e with
  | .bin o (.name x) r => if has cs x && !inR cs r then some (x, o, r, cs) else none
  | _ => none
def tst : Ex → Bool
  | .bin o (.name _) r => cmp3 o && lim r
  | _ => false
def shM (e : Ex) (b : List St) : Option (Str × Op × Ex × List Chg) :=
  if tst e then (match chgs b [] with
    | none => none
    | some cs => shB e cs) else none
def shD (N : Int) : Option (Str × Op × Ex × List Chg) → D
  | none => .non
  | some (x, o, r, cs) => .tup [.str "counting", .int N, .str x, .str (opS o), exD r, .tup (cs.map chD)]
theorem inNames {n : Nat} {cs : List Chg} {x : Str} {r : Bool → Prop} (h : rdL st n (cs.map fun c => D.str c.1)) (q : r (has cs x)) : inC (.str x) (.ref n) st r := by
  refine ⟨_, .inl h, rfl, List.all_eq_true.mpr fun d hd => ?_, ?_⟩
  · obtain ⟨_, _, rfl⟩ := List.mem_map.mp hd
    rfl
  · rw [List.any_map]
    exact q
theorem notinNames {n : Nat} {cs : List Chg} {x : Str} {r : Bool → Prop} (h : rdL st n (cs.map fun c => D.str c.1)) (q : r (!has cs x)) : notinC (.str x) (.ref n) st r := inNames (r := fun b => r (!b)) h q
theorem shape_ok {e : Ex} {b : Bl} {N : Int} (hm : 4 ≤ m) (he : Ok e) (hF : ∀ s ∈ toL b, Fine W s) (hl : (toL b).length ≤ 1000) (hK : KdOk st kn W) (q : ∀ st', Grw st st' → Q (shD N (shM e (toL b))) st') : callN prog m "shape_of" [.ref kn, stD (.wh e b), .int N] st Q := by
  obtain ⟨m, rfl⟩ : ∃ n, m = n + 1 := ⟨m - 1, by omega⟩
  refine call_intro rfl rfl ?_
  unfold b_p_shape_of
  have hs : stD (.wh e b) = .tup [.str "while", exD e, .tup (blL b)] := rfl
  rw [hs]
  walk_at "s"
  refine at_is rfl ?_
  walk_at "s"
  refine Nxt.mk ?_
  refine seq_cut (fun σ st' => st' = st ∧ (tst e = true) ∧ σ = [some (.ref kn), some (.tup [.str "while", exD e, .tup (blL b)]), some (.int N), some (exD e), none, none, none, none, none]) (fun N1 hN => ?_) (fun σ st1 ⟨e0, ht, e1⟩ => ?_)
  · have no : tst e = false → Q .non st := fun z => by
      have := q st (.refl st)
      unfold shM at this
      rw [z] at this
      exact this
    have yes : tst e = true → N1 [some (.ref kn), some (.tup [.str "while", exD e, .tup (blL b)]), some (.int N), some (exD e), none, none, none, none, none] st := fun z => hN _ _ ⟨rfl, z, rfl⟩
    cases e with
    | word v w => rw [show exD (.word v w) = .tup [.str "word", .int v, .int w] from rfl]; walk_at "t"; exact no rfl
    | name y => rw [show exD (.name y) = .tup [.str "name", .str y] from rfl]; walk_at "t"; exact no rfl
    | nul => rw [show exD .nul = .tup [.str "null"] from rfl]; walk_at "t"; exact no rfl
    | item a b => rw [show exD (.item a b) = .tup [.str "item", .str a, exD b] from rfl]; walk_at "t"; exact no rfl
    | un o b =>
      rw [show exD (.un o b) = .tup [.str (opS o), exD b] from rfl]
      obtain ⟨z, _⟩ := he
      cases o <;> first | (cases z; done) | (walk_at "t"; exact no rfl)
    | wide b w => rw [show exD (.wide b w) = .tup [.str "wide", exD b, .int w] from rfl]; walk_at "t"; exact no rfl
    | bin o a r =>
      rw [show exD (.bin o a r) = .tup [.str (opS o), exD a, exD r] from rfl] at *
      obtain ⟨z, za, zr⟩ := he
      have third : ∀ {A B : Prop}, True := trivial
      have rest : (cmp3 o = true) → neC (D.str "x") (D.str "x") st (fun _ => True) ∨ True := fun _ => .inr trivial
      -- the sides
      have sides : cmp3 o = true → (match a with
          | .name x => (lim r = true → N1 [some (.ref kn), some (.tup [.str "while", .tup [.str (opS o), exD a, exD r], .tup (blL b)]), some (.int N), some (.tup [.str (opS o), exD a, exD r]), none, none, none, none, none] st) ∧ (lim r = false → Q .non st)
          | _ => Q .non st) := fun hc => by
        cases a with
        | name x => exact ⟨fun hl => yes (by simp [tst, hc, hl]), fun hl => no (by simp [tst, hl])⟩
        | _ => exact no rfl
      cases o <;> first | (cases z; done) | (walk_at "t"; exact no (by cases a <;> rfl)) | skip
      all_goals
        have sd := sides rfl
        walk_at "t"
        cases a with
        | word v w => rw [show exD (.word v w) = .tup [.str "word", .int v, .int w] from rfl]; walk_at "t"; exact sd
        | nul => rw [show exD .nul = .tup [.str "null"] from rfl]; walk_at "t"; exact sd
        | item a b => rw [show exD (.item a b) = .tup [.str "item", .str a, exD b] from rfl]; walk_at "t"; exact sd
        | un o b =>
          rw [show exD (.un o b) = .tup [.str (opS o), exD b] from rfl]
          obtain ⟨z, _⟩ := za
          cases o <;> first | (cases z; done) | (walk_at "t"; exact sd)
        | wide b w => rw [show exD (.wide b w) = .tup [.str "wide", exD b, .int w] from rfl]; walk_at "t"; exact sd
        | bin o c d =>
          rw [show exD (.bin o c d) = .tup [.str (opS o), exD c, exD d] from rfl]
          obtain ⟨z, _⟩ := za
          cases o <;> first | (cases z; done) | (walk_at "t"; exact sd)
        | name x =>
          rw [show exD (.name x) = .tup [.str "name", .str x] from rfl] at *
          walk_at "t"
          cases r with
          | word v w => rw [show exD (.word v w) = .tup [.str "word", .int v, .int w] from rfl] at *; walk_at "t"; exact sd.1 rfl
          | name y => rw [show exD (.name y) = .tup [.str "name", .str y] from rfl] at *; walk_at "t"; exact sd.1 rfl
          | nul => rw [show exD .nul = .tup [.str "null"] from rfl] at *; walk_at "t"; exact sd.2 rfl
          | item a b => rw [show exD (.item a b) = .tup [.str "item", .str a, exD b] from rfl] at *; walk_at "t"; exact sd.2 rfl
          | un o b =>
            rw [show exD (.un o b) = .tup [.str (opS o), exD b] from rfl] at *
            obtain ⟨z, _⟩ := zr
            cases o <;> first | (cases z; done) | (walk_at "t"; exact sd.2 rfl)
          | wide b w => rw [show exD (.wide b w) = .tup [.str "wide", exD b, .int w] from rfl] at *; walk_at "t"; exact sd.2 rfl
          | bin o c d =>
            rw [show exD (.bin o c d) = .tup [.str (opS o), exD c, exD d] from rfl] at *
            obtain ⟨z, _⟩ := zr
            cases o <;> first | (cases z; done) | (walk_at "t"; exact sd.2 rfl)
  subst e0 e1
  obtain ⟨o, x, r, rfl, ho, hr⟩ : ∃ o x r, e = .bin o (.name x) r ∧ cmp3 o = true ∧ lim r = true := by
    cases e with
    | bin o a r =>
      cases a with
      | name x =>
        simp only [tst, Bool.and_eq_true] at ht
        exact ⟨o, x, r, rfl, ht.1, ht.2⟩
      | _ => cases ht
    | _ => cases ht
  have eM : shM (.bin o (.name x) r) (toL b) = match chgs (toL b) [] with | none => none | some cs => shB (.bin o (.name x) r) cs := by
    unfold shM
    exact if_pos ht
  have hex : exD (.bin o (.name x) r) = .tup [.str (opS o), .tup [.str "name", .str x], exD r] := rfl
  rw [hex]
  walk_at "s"
  refine ⟨Nat.le_of_ble_eq_true rfl, ?_⟩
  walk_at "s"
  refine Nxt.mk ?_
  have g0 := (Grw.refl st1).app (c := C.lst [])
  have hn0 := rdL_new (st := st1) (xs := [])
  have hK0 := hK.grw g0
  have hne : kn ≠ st1.length := by
    obtain ⟨kvs, k1, _⟩ := hK
    have := (List.getElem?_eq_some_iff.mp k1).1
    omega
  refine seq_cut (fun σ st' => ∃ cs y5 y6, chgs (toL b) [] = some cs ∧ cs.length ≤ 1000 ∧ rdL st' st1.length (cs.map chD) ∧ Grw st1 st' ∧ σ = [some (.ref kn), some (.tup [.str "while", .tup [.str (opS o), .tup [.str "name", .str x], exD r], .tup (blL b)]), some (.int N), some (.tup [.str (opS o), .tup [.str "name", .str x], exD r]), some (.ref st1.length), y5, y6, none, none]) (fun N1 hN => ?_) (fun σ st2 ⟨cs, y5, y6, h1, hcl, h2, h3, e1⟩ => ?_)
  · walk_at "s"
    refine at_is rfl ?_
    walk_at "s"
    refine for_map (toL b) stD (blL_eq b) (fun j σ st' => ∃ acc y5 y6, chgs (toL b) [] = chgs ((toL b).drop j) acc ∧ acc.length ≤ j ∧ rdL st' st1.length (acc.map chD) ∧ Grw st1 st' ∧ σ = [some (.ref kn), some (.tup [.str "while", .tup [.str (opS o), .tup [.str "name", .str x], exD r], .tup (blL b)]), some (.int N), some (.tup [.str (opS o), .tup [.str "name", .str x], exD r]), some (.ref st1.length), y5, y6, none, none]) ⟨[], _, _, rfl, Nat.zero_le _, hn0, g0, rfl⟩ (fun j s σ st' hj ⟨acc, y5, y6, k1, k2, k3, k4, e1⟩ N2 hN2 => ?_) (fun σ st' ⟨acc, y5, y6, k1, k2, k3, k4, e1⟩ => ?_)
    · subst e1
      refine ⟨trivial, ?_⟩
      have hsm := List.mem_of_getElem? hj
      have hjl := (List.getElem?_eq_some_iff.mp hj).1
      have hdr : (toL b).drop j = s :: (toL b).drop (j + 1) := by
        obtain ⟨hk, e⟩ := List.getElem?_eq_some_iff.mp hj
        rw [List.drop_eq_getElem_cons hk, e]
      rw [hdr, chgs] at k1
      have hst := rdL_lt k3
      walk_at "s"
      refine change_ok (by omega) (hF s hsm) (hK.grw k4) ?_
      walk_at "s"
      refine Nxt.mk ?_
      have dead : chgs (toL b) [] = none → ∀ st3, Grw st1 st3 → Q .non st3 := fun z st3 g => by
        have := q st3 g
        rw [eM, z] at this
        exact this
      cases hc : chg s with
      | none =>
        rw [hc] at k1
        walk_at "s"
        refine wayT rfl ?_
        walk_at "s"
        exact dead k1 _ k4
      | some c =>
        rw [hc] at k1
        show sSeq _ _ _ [_, _, _, _, _, _, some (chD c), _, _] _
        walk_at "s"
        refine wayF rfl ?_
        walk_at "s"
        refine at_is rfl ?_
        walk_at "s"
        refine it_at k3 ?_
        refine lc_map acc chD (fun c => .str c.1) rfl (by unfold szl; omega) (fun _ => .inl (rdL_app k3)) (fun y hy acc' N hN => ?_) ?_
        · walk_at "s"
          refine at_is rfl ?_
          exact hN
        refine inNames rdL_new ?_
        have g5 := k4.app (c := C.lst (acc.map fun c => D.str c.1))
        have k5 := rdL_app (c := C.lst (acc.map fun c => D.str c.1)) k3
        walk_at "s"
        cases hh : has acc c.1 with
        | true =>
          simp only [hh, if_true] at k1
          refine wayT rfl ?_
          walk_at "s"
          exact dead k1 _ g5
        | false =>
          simp only [hh] at k1
          refine wayF rfl ?_
          walk_at "r"
          refine ⟨ty_at k5, ?_⟩
          walk_at "s"
          refine append_at k5 (by rw [List.length_map]; unfold szl; omega) ?_
          refine hN2 _ _ ⟨acc ++ [c], _, _, k1, by rw [List.length_append]; simp; omega, ?_, Grw.setN g5 (Nat.le_refl _), rfl⟩
          rw [List.map_append]
          exact rdL_set k5
    · subst e1
      refine ⟨trivial, ?_⟩
      rw [List.drop_length, chgs] at k1
      exact hN _ _ ⟨acc, _, _, k1, by omega, k3, k4, rfl⟩
  subst e1
  rw [h1] at eM
  have eB : shB (.bin o (.name x) r) cs = if has cs x && !inR cs r then some (x, o, r, cs) else none := rfl
  rw [eM] at q
  simp only [eB] at q
  walk_at "s"
  refine it_at h2 ?_
  refine lc_map cs chD (fun c => .str c.1) rfl (by unfold szl; omega) (fun _ => .inl (rdL_app h2)) (fun y hy acc' N hN => ?_) ?_
  · walk_at "s"
    refine at_is rfl ?_
    exact hN
  have h4 := rdL_new (st := st2) (xs := cs.map fun c => D.str c.1)
  have h5 := rdL_app (c := C.lst (cs.map fun c => D.str c.1)) h2
  have g5 := h3.app (c := C.lst (cs.map fun c => D.str c.1))
  generalize st2.length = n4 at h4
  generalize st2 ++ [C.lst (cs.map fun c => D.str c.1)] = st3 at h4 h5 g5 ⊢
  walk_at "s"
  refine Nxt.mk ?_
  have non : (has cs x && !inR cs r) = false → Q .non st3 := fun z => by
    have := q st3 g5
    rw [z] at this
    exact this
  walk_at "t"
  refine notinNames h4 ?_
  walk_at "s"
  cases hx : has cs x with
  | false =>
    refine wayT rfl ?_
    walk_at "s"
    exact non (by rw [hx]; rfl)
  | true =>
    refine wayF rfl ?_
    cases r with
    | word v w =>
      rw [show exD (.word v w) = .tup [.str "word", .int v, .int w] from rfl] at *
      have := q st3 g5
      rw [if_pos (by rw [hx]; rfl)] at this
      walk_at "t"
      refine tuple_at h5 ?_
      walk_at "t"
      exact this
    | name y =>
      rw [show exD (.name y) = .tup [.str "name", .str y] from rfl] at *
      walk_at "t"
      refine inNames h4 ?_
      walk_at "s"
      cases hy : has cs y with
      | true =>
        refine wayT rfl ?_
        walk_at "s"
        exact non (by simp [inR, hy])
      | false =>
        refine wayF rfl ?_
        have := q st3 g5
        rw [if_pos (by simp [inR, hx, hy])] at this
        walk_at "t"
        refine tuple_at h5 ?_
        walk_at "t"
        exact this
    | _ => cases hr
end Pk52
end PartPdk52P4

section PartPdk52P5
set_option Elab.async false
set_option linter.all false
set_option maxRecDepth 100000
set_option maxHeartbeats 2000000
/-! k52, fifth text: counting_loops. Own work. -/
namespace Pk52
open PySem Pd
local macro_rules | `(tactic| walk_at "s") => `(tactic| (repeat (refine Red.red ?_)))
local macro_rules | `(tactic| walk_at "r") => `(tactic| (repeat (first | refine Red.red ?_ | refine Nxt.mk ?_)))
local macro_rules | `(tactic| walk_at "t") => `(tactic| (repeat (first | refine Red.red ?_ | refine Nxt.mk ?_ | refine ⟨by decide +kernel, by decide +kernel, wayF (by decide +kernel) ?_⟩ | refine ⟨by decide +kernel, by decide +kernel, wayT (by decide +kernel) ?_⟩ | refine ⟨by decide +kernel, ?_⟩ | refine ⟨Nat.le_of_ble_eq_true rfl, ?_⟩ | refine at_is rfl ?_)))
local instance inTup5 {x : D} {xs : List D} {st : Store} {r : Bool → Prop} : Red (inC x (.tup xs) st r) (x.flat = true ∧ xs.all D.flat = true ∧ r (xs.any fun y => D.eqb y x)) := ⟨id⟩
variable {k m n : Nat} {st st' : Store} {Q : K}
local instance notinTup5 {x : D} {xs : List D} {st : Store} {r : Bool → Prop} : Red (notinC x (.tup xs) st r) (x.flat = true ∧ xs.all D.flat = true ∧ r (!(xs.any fun y => D.eqb y x))) := ⟨id⟩
variable {W : List (Str × Int)} {kn : Nat}
inductive Vr where
  | wd (x : Str) (w : Int)
  | ar (x : Str) (w n : Int)
  | rf (x r : Str)
def vrS : Vr → Str
  | .wd x _ => x | .ar x _ _ => x | .rf x _ => x
def vrD : Vr → D
  | .wd x w => .tup [.str x, .int w]
  | .ar x w n => .tup [.str x, .int w, .int n]
  | .rf x r => .tup [.str x, .str r]
def vrV : Vr → D
  | .wd _ w => .tup [.str "word", .int w]
  | .ar _ w n => .tup [.str "array", .int w, .int n]
  | .rf _ r => .tup [.str "record", .str r]
/-- a declaration -/
inductive Dc where
  | rcd (nm : Str)
  | fn (nm : Str) (ps : List Vr) (rw : Int) (vs : List Vr) (b : Bl)
def dcS : Dc → Str
  | .rcd s => s | .fn s _ _ _ _ => s
def dcD : Dc → D
  | .rcd nm => .tup [.str "record", .str nm, .tup []]
  | .fn nm ps rw vs b => .tup [.str "function", .str nm, .tup (ps.map vrD), .int rw, .int 0, .tup (vs.map vrD), blD b]
theorem dcD_1 (x : Dc) : ∃ a b r, dcD x = .tup (a :: .str (dcS x) :: b :: r) := by cases x <;> exact ⟨_, _, _, rfl⟩
theorem declared_ok {ds : List Dc} {x : Dc} (hm : 1 ≤ m) (hx : x ∈ ds) (hu : ∀ y ∈ ds, dcS y = dcS x → y = x) (hs : ∀ y ∈ ds, okS (dcS y) = true) (q : Q (dcD x) st) : callN prog m "declared" [.tup (ds.map dcD), .str (dcS x)] st Q := by
  obtain ⟨m, rfl⟩ : ∃ n, m = n + 1 := ⟨m - 1, by omega⟩
  refine call_intro rfl rfl ?_
  unfold b_p_declared
  walk_at "s"
  refine for_map ds dcD rfl (fun j σ st' => st' = st ∧ x ∉ ds.take j ∧ ∃ y, σ = [some (.tup (ds.map dcD)), some (.str (dcS x)), y]) ⟨rfl, by simp, _, rfl⟩ (fun j d σ st' hj ⟨k1, k2, y, e1⟩ N hN => ?_) (fun σ st' ⟨k1, k2, y, e1⟩ => ?_)
  · subst e1 k1
    refine ⟨trivial, ?_⟩
    have hd := List.mem_of_getElem? hj
    obtain ⟨a, b, r, e⟩ := dcD_1 d
    walk_at "s"
    rw [e]
    refine at_is rfl ?_
    walk_at "s"
    refine ⟨hs d hd, hs x hx, ?_⟩
    by_cases hq : dcS d = dcS x
    · refine wayT (by simp [hq]) ?_
      walk_at "s"
      have := hu d hd hq
      subst this
      rw [← e]
      exact q
    · refine wayF (by simp [hq]) ?_
      refine hN _ _ ⟨rfl, ?_, _, rfl⟩
      rw [List.take_add_one, hj]
      intro h
      rcases List.mem_append.mp h with h | h
      · exact k2 h
      · simp at h
        subst h
        exact hq rfl
  · rw [List.take_length] at k2
    exact absurd hx k2
theorem setS_at {kvs : List (Ky × D)} {s : Str} {v : D} {Q : Store → Prop} (h : rdD st n kvs) (hl : kvs.length < szl) (q : Q (st.set n (.dic (putD kvs (.inr s) v)))) : setDK (.ref n) (.str s) v st Q := ⟨kvs, .inr s, h, rfl, hl, q⟩
theorem rdD_set {kvs kvs' : List (Ky × D)} (h : rdD st n kvs) : rdD (st.set n (.dic kvs')) n kvs' := by
  have : n < st.length := (List.getElem?_eq_some_iff.mp h).1
  unfold rdD; rw [List.getElem?_set_self this]
theorem rdD_new {kvs : List (Ky × D)} : rdD (st ++ [.dic kvs]) st.length kvs := by unfold rdD; simp
theorem rdD_app {kvs : List (Ky × D)} {c : C} (h : rdD st n kvs) : rdD (st ++ [c]) n kvs := Grw.rdD ((Grw.refl st).app) h
def wdOf : Vr → List (Str × Int)
  | .wd x w => [(x, w)]
  | _ => []
theorem wd_take {l : List Vr} {j : Nat} {v : Vr} (h : l[j]? = some v) : (l.take (j + 1)).flatMap wdOf = (l.take j).flatMap wdOf ++ wdOf v := (flat_take (f := wdOf) h).1
theorem vars_ok {pd : D} {nm : Str} {ps vs : List Vr} {rw : Int} {b : Bl} (hm : 1 ≤ m) (hl : (ps ++ vs).length ≤ 100) (nd : ((ps ++ vs).map vrS).Nodup)
    (q : ∀ n st', KdOk st' n ((ps ++ vs).flatMap wdOf) → Grw st st' → Q (.ref n) st') : callN prog m "variables_of" [pd, dcD (.fn nm ps rw vs b)] st Q := by
  obtain ⟨m, rfl⟩ : ∃ n, m = n + 1 := ⟨m - 1, by omega⟩
  refine call_intro rfl rfl ?_
  unfold b_p_variables_of
  rw [show dcD (.fn nm ps rw vs b) = .tup [.str "function", .str nm, .tup (ps.map vrD), .int rw, .int 0, .tup (vs.map vrD), blD b] from rfl]
  have hl' := hl
  rw [List.length_append] at hl'
  walk_at "r"
  refine at_is rfl ?_
  walk_at "s"
  refine at_is rfl ?_
  walk_at "s"
  refine add_at (rdL_app rdL_new) rdL_new (by rw [List.length_map, List.length_map]; unfold szl; omega) ?_
  have g1 := (((Grw.refl st).app (c := C.dic [])).app (c := C.lst (ps.map vrD))).app (c := C.lst (vs.map vrD)) |>.app (c := C.lst (ps.map vrD ++ vs.map vrD))
  have d1 := rdD_app (c := C.lst (ps.map vrD ++ vs.map vrD)) (rdD_app (c := C.lst (vs.map vrD)) (rdD_app (c := C.lst (ps.map vrD)) (rdD_new (st := st) (kvs := []))))
  have r1 := rdL_new (st := st ++ [C.dic []] ++ [C.lst (ps.map vrD)] ++ [C.lst (vs.map vrD)]) (xs := ps.map vrD ++ vs.map vrD)
  have l1 : (st ++ [C.dic []] ++ [C.lst (ps.map vrD)] ++ [C.lst (vs.map vrD)]).length = st.length + 3 := by simp
  rw [l1] at r1 ⊢
  generalize st ++ [C.dic []] ++ [C.lst (ps.map vrD)] ++ [C.lst (vs.map vrD)] ++ [C.lst (ps.map vrD ++ vs.map vrD)] = st1 at g1 d1 r1 ⊢
  generalize hv : ps ++ vs = V at *
  rw [← List.map_append, hv] at r1
  refine it_at r1 ?_
  refine for_map V vrD rfl (fun j σ st' => ∃ y kvs, rdD st' st.length kvs ∧ kvs.length ≤ j ∧ (∀ v ∈ V.take j, valD kvs (.inr (vrS v)) = some (vrV v)) ∧ rdL st' (st.length + 3) (V.map vrD) ∧ Grw st st' ∧ σ = [some pd, some (.tup [.str "function", .str nm, .tup (ps.map vrD), .int rw, .int 0, .tup (vs.map vrD), blD b]), some (.ref st.length), y]) ⟨_, [], d1, by simp, by simp, r1, g1, rfl⟩ (fun j v σ st' hj ⟨y, kvs, k1, k2, k3, k4, k5, e1⟩ N hN => ?_) (fun σ st' ⟨y, kvs, k1, k2, k3, k4, k5, e1⟩ => ?_)
  · subst e1
    refine ⟨.inl k4, ?_⟩
    have hjl := (List.getElem?_eq_some_iff.mp hj).1
    have last : N [some pd, some (.tup [.str "function", .str nm, .tup (ps.map vrD), .int rw, .int 0, .tup (vs.map vrD), blD b]), some (.ref st.length), some (vrD v)] (st'.set st.length (.dic (putD kvs (.inr (vrS v)) (vrV v)))) := by
      refine hN _ _ ⟨_, _, rdD_set k1, by have := put_len kvs (.inr (vrS v)) (vrV v); omega, fun u hu => ?_, rdL_ne k4 (by omega), Grw.setN k5 (Nat.le_refl _), rfl⟩
      rw [List.take_add_one, hj] at hu
      rw [val_put]
      rcases List.mem_append.mp hu with hu | hu
      · have ne : vrS u ≠ vrS v := fun e => by
          have hdr : V = V.take j ++ v :: V.drop (j + 1) := by
            obtain ⟨hk, e⟩ := List.getElem?_eq_some_iff.mp hj
            rw [← e, ← List.drop_eq_getElem_cons hk, List.take_append_drop]
          rw [hdr, List.map_append, List.nodup_append] at nd
          exact nd.2.2 _ (List.mem_map_of_mem hu) _ (by simp) e
        rw [if_neg (fun e => ne (by injection e))]
        exact k3 u hu
      · simp at hu
        subst hu
        rw [if_pos rfl]
    cases v with
    | wd x w =>
      unfold vrD
      walk_at "t"
      refine wayF rfl ?_
      walk_at "t"
      refine wayF rfl ?_
      walk_at "t"
      exact setS_at k1 (by unfold szl; omega) last
    | ar x w n =>
      unfold vrD
      walk_at "t"
      refine wayT rfl ?_
      walk_at "t"
      exact setS_at k1 (by unfold szl; omega) last
    | rf x r =>
      unfold vrD
      walk_at "t"
      refine wayF rfl ?_
      walk_at "t"
      refine wayT rfl ?_
      walk_at "t"
      exact setS_at k1 (by unfold szl; omega) last
  · subst e1
    refine ⟨.inl k4, ?_⟩
    walk_at "r"
    refine q _ _ ⟨kvs, k1, fun x hx => ?_⟩ k5
    obtain ⟨v, hv, hx⟩ := List.mem_flatMap.mp hx
    rw [List.take_length] at k3
    have := k3 v hv
    cases v <;> simp [wdOf] at hx
    subst hx
    exact this
def bmp : St → Int
  | .ifs _ _ _ => 1
  | .wh _ _ => 1
  | .asr _ => 1
  | _ => 0
def at1 (N : Int) : St → List D
  | .wh e b => match shM e (toL b) with
    | none => []
    | some c => [shD N (some c)]
  | _ => []
def cl : List St → Int → List D
  | [], _ => []
  | s :: r, N => at1 (N + (looks s : Int)) s ++ cl r (N + (looks s : Int) + bmp s)
/-- a body that is fine -/
structure BOk (W : List (Str × Int)) (b : Bl) : Prop where
  deep : bd b ≤ 10
  few : (pre b).length ≤ 1000
  ex : ∀ s ∈ pre b, (∀ e ∈ exs s, EOk e) ∧ looks s ≤ 100000
  wh : ∀ e c, St.wh e c ∈ pre b → (toL c).length ≤ 1000 ∧ ∀ s ∈ toL c, Fine W s
theorem counting_ok {ds : List Dc} {nm : Str} {ps vs : List Vr} {rw : Int} {b : Bl} (hm : 20 ≤ m) (hx : Dc.fn nm ps rw vs b ∈ ds) (hu : ∀ y ∈ ds, dcS y = nm → y = .fn nm ps rw vs b) (hs : ∀ y ∈ ds, okS (dcS y) = true) (hl : (ps ++ vs).length ≤ 100) (nd : ((ps ++ vs).map vrS).Nodup)
    (hB : BOk ((ps ++ vs).flatMap wdOf) b) (q : ∀ st', Grw st st' → Q (.tup (cl (pre b) 0)) st') : callN prog m "counting_loops" [.tup (ds.map dcD), .str nm] st Q := by
  obtain ⟨m, rfl⟩ : ∃ n, m = n + 1 := ⟨m - 1, by omega⟩
  refine call_intro rfl rfl ?_
  unfold b_p_counting_loops
  have hfew := hB.few
  walk_at "s"
  refine declared_ok (x := .fn nm ps rw vs b) (by omega) hx hu hs ?_
  walk_at "r"
  refine vars_ok (by omega) hl nd fun kn st1 hK g1 => ?_
  walk_at "s"
  refine Nxt.mk ?_
  walk_at "r"
  refine ⟨Nat.le_of_ble_eq_true rfl, ?_⟩
  walk_at "r"
  have hd6 : ∃ a c d e f g, dcD (.fn nm ps rw vs b) = .tup [a, c, d, e, f, g, blD b] := ⟨_, _, _, _, _, _, rfl⟩
  obtain ⟨a1, a2, a3, a4, a5, a6, hd6⟩ := hd6
  rw [hd6]
  refine at_is rfl ?_
  walk_at "s"
  have hl0 := rdL_new (st := st1) (xs := [])
  have g0 := (Grw.refl st1).app (c := C.lst [])
  generalize st1 ++ [C.lst []] = st2 at hl0 g0 ⊢
  have hlt := rdL_lt hl0
  refine sm_all 10 hB.deep (by omega) hfew fun n3 st3 hn3 h3 g3 => ?_
  have hne : n3 ≠ st1.length := by omega
  refine it_at h3 ?_
  refine for_map (pre b) stD rfl (fun j σ st' => ∃ N y z acc, cl (pre b) 0 = acc ++ cl ((pre b).drop j) N ∧ acc.length ≤ j ∧ rdL st' st1.length acc ∧ rdL st' n3 ((pre b).map stD) ∧ Grw st1 st' ∧ σ = [some (.tup (ds.map dcD)), some (.str nm), some (.tup [a1, a2, a3, a4, a5, a6, blD b]), some (.ref kn), some (.ref st1.length), some (.int N), y, z]) ⟨0, _, _, [], rfl, Nat.zero_le _, g3.rd hl0, h3, g0.trans g3, rfl⟩ (fun j s σ st' hj ⟨N, y, z, acc, k1, k2, k3, k4, k5, e1⟩ N1 hN => ?_) (fun σ st' ⟨N, y, z, acc, k1, k2, k3, k4, k5, e1⟩ => ?_)
  · subst e1
    refine ⟨.inl k4, ?_⟩
    have hsm := List.mem_of_getElem? hj
    have hjl := (List.getElem?_eq_some_iff.mp hj).1
    have hdr : (pre b).drop j = s :: (pre b).drop (j + 1) := by
      obtain ⟨hk, e⟩ := List.getElem?_eq_some_iff.mp hj
      rw [List.drop_eq_getElem_cons hk, e]
    rw [hdr, cl] at k1
    obtain ⟨x1, x2⟩ := hB.ex s hsm
    walk_at "s"
    refine slooks_ok (by omega) x1 x2 fun n4 xs st4 hx4 h4 g4 => ?_
    walk_at "s"
    refine len_at h4 ?_
    rw [hx4]
    walk_at "s"
    refine Nxt.mk ?_
    have k3' := g4.rd k3
    have k4' := g4.rd k4
    have k5' := k5.trans g4
    have plain : bmp s = 0 → at1 (N + (looks s : Int)) s = [] → N1 [some (.tup (ds.map dcD)), some (.str nm), some (.tup [a1, a2, a3, a4, a5, a6, blD b]), some (.ref kn), some (.ref st1.length), some (.int (N + (looks s : Int))), some (stD s), z] st4 := fun e1 e2 => by
      rw [e1, e2, List.nil_append, Int.add_zero] at k1
      exact hN _ _ ⟨_, _, _, acc, k1, by omega, k3', k4', k5', rfl⟩
    have some1 : ∀ z', bmp s = 1 → at1 (N + (looks s : Int)) s = [] → N1 [some (.tup (ds.map dcD)), some (.str nm), some (.tup [a1, a2, a3, a4, a5, a6, blD b]), some (.ref kn), some (.ref st1.length), some (.int (N + (looks s : Int) + 1)), some (stD s), z'] st4 := fun z' e1 e2 => by
      rw [e1, e2, List.nil_append] at k1
      exact hN _ _ ⟨_, _, _, acc, k1, by omega, k3', k4', k5', rfl⟩
    cases s with
    | lt p e => unfold stD at plain ⊢; walk_at "t"; exact plain rfl rfl
    | rs n => unfold stD at plain ⊢; walk_at "t"; exact plain rfl rfl
    | rt e => unfold stD at plain ⊢; walk_at "t"; exact plain rfl rfl
    | mk v r => unfold stD at plain ⊢; walk_at "t"; exact plain rfl rfl
    | tr a n b => unfold stD at plain ⊢; walk_at "t"; exact plain rfl rfl
    | asr e => unfold stD at some1 ⊢; walk_at "t"; exact some1 _ rfl rfl
    | ifs e a b => unfold stD at some1 ⊢; walk_at "t"; exact some1 _ rfl rfl
    | wh e c =>
      obtain ⟨hc, hw⟩ := hB.wh e c hsm
      have he := (x1 e (by simp [exs])).1
      rw [show stD (.wh e c) = .tup [.str "while", exD e, .tup (blL c)] from rfl] at *
      walk_at "t"
      refine shape_ok (by omega) he hw hc (hK.grw k5') fun st5 g5 => ?_
      walk_at "s"
      refine Nxt.mk ?_
      rw [show bmp (.wh e c) = 1 from rfl] at k1
      have ea : at1 (N + (looks (.wh e c) : Int)) (.wh e c) = match shM e (toL c) with | none => [] | some d => [shD (N + (looks (.wh e c) : Int)) (some d)] := rfl
      rw [ea] at k1
      clear ea
      cases hsh : shM e (toL c) with
      | none =>
        rw [hsh] at k1
        simp only [List.nil_append] at k1
        rw [show shD (N + (looks (.wh e c) : Int)) none = .non from rfl]
        walk_at "s"
        refine wayF rfl ?_
        walk_at "r"
        exact hN _ _ ⟨_, _, _, acc, k1, by omega, g5.rd k3', g5.rd k4', k5'.trans g5, rfl⟩
      | some r =>
        rw [hsh] at k1
        simp only [← List.append_assoc] at k1
        obtain ⟨x, o, r, cs⟩ := r
        rw [show shD (N + (looks (.wh e c) : Int)) (some (x, o, r, cs)) = .tup [.str "counting", .int (N + (looks (.wh e c) : Int)), .str x, .str (opS o), exD r, .tup (cs.map chD)] from rfl] at *
        have k3'' := g5.rd k3'
        walk_at "s"
        refine wayT rfl ?_
        walk_at "s"
        refine ⟨ty_at k3'', ?_⟩
        walk_at "s"
        refine append_at k3'' (by unfold szl; omega) ?_
        walk_at "r"
        exact hN _ _ ⟨_, _, _, _, k1, by rw [List.length_append]; simp; omega, rdL_set k3'', rdL_ne (g5.rd k4') hne, Grw.setN (k5'.trans g5) (Nat.le_refl _), rfl⟩
  · subst e1
    refine ⟨.inl k4, ?_⟩
    rw [List.drop_length, cl, List.append_nil] at k1
    subst k1
    walk_at "r"
    refine tuple_at k3 ?_
    exact q _ (g1.trans k5)
end Pk52
end PartPdk52P5

section PartPdk52P6
set_option Elab.async false
set_option linter.all false
set_option maxRecDepth 100000
set_option maxHeartbeats 2000000
/-! k52, sixth text: what the law counts. Own work. -/
namespace Pk52
open PySem Pd
local macro_rules | `(tactic| walk_at "s") => `(tactic| (repeat (refine Red.red ?_)))
local macro_rules | `(tactic| walk_at "r") => `(tactic| (repeat (first | refine Red.red ?_ | refine Nxt.mk ?_)))
local macro_rules | `(tactic| walk_at "t") => `(tactic| (repeat (first | refine Red.red ?_ | refine Nxt.mk ?_ | refine ⟨by decide +kernel, by decide +kernel, wayF (by decide +kernel) ?_⟩ | refine ⟨by decide +kernel, by decide +kernel, wayT (by decide +kernel) ?_⟩ | refine ⟨by decide +kernel, ?_⟩ | refine ⟨Nat.le_of_ble_eq_true rfl, ?_⟩ | refine at_is rfl ?_)))
local instance inTup6 {x : D} {xs : List D} {st : Store} {r : Bool → Prop} : Red (inC x (.tup xs) st r) (x.flat = true ∧ xs.all D.flat = true ∧ r (xs.any fun y => D.eqb y x)) := ⟨id⟩
variable {k m n : Nat} {st st' : Store} {Q : K}
local instance notinTup6 {x : D} {xs : List D} {st : Store} {r : Bool → Prop} : Red (notinC x (.tup xs) st r) (x.flat = true ∧ xs.all D.flat = true ∧ r (!(xs.any fun y => D.eqb y x))) := ⟨id⟩
variable {W : List (Str × Int)} {kn : Nat}
/-! pure data -/
mutual
def wk : Nat → D → Bool
  | _, .str x => okS x
  | _, .int _ => true
  | _, .non => true
  | n + 1, .tup xs => decide (xs.length ≤ 1000) && wks n xs
  | 0, .tup _ => false
  | _, .bl _ => false
  | _, .ref _ => false
def wks : Nat → List D → Bool
  | _, [] => true
  | n, x :: xs => wk n x && wks n xs
end
theorem wks_all (n : Nat) : ∀ ds : List D, wks n ds = ds.all (wk n)
  | [] => rfl
  | d :: ds => by simp [wks, wks_all n ds]
mutual
theorem wk_okd : ∀ (n : Nat) (d : D), wk n d = true → D.okd n d = true
  | 0, .str x, h => by simpa [D.okd, wk] using h
  | 0, .int _, h => rfl
  | 0, .non, h => rfl
  | n + 1, .str x, h => by simpa [D.okd, wk] using h
  | n + 1, .int _, h => rfl
  | n + 1, .non, h => rfl
  | n + 1, .tup xs, h => by
    have h' : xs.length ≤ 1000 ∧ wks n xs = true := by simpa [wk] using h
    show okds n xs = true
    exact wks_okds n xs h'.2
  | 0, .tup _, h => nomatch h
  | 0, .bl _, h => rfl
  | n + 1, .bl _, h => rfl
  | 0, .ref _, h => nomatch h
  | n + 1, .ref _, h => nomatch h
theorem wks_okds : ∀ (n : Nat) (ds : List D), wks n ds = true → okds n ds = true
  | n, [], _ => rfl
  | n, d :: ds, h => by
    have h' : wk n d = true ∧ wks n ds = true := by simpa [wks] using h
    simp [okds, wk_okd n d h'.1, wks_okds n ds h'.2]
end
mutual
theorem wk_mono : ∀ (n k : Nat) (d : D), n ≤ k → wk n d = true → wk k d = true
  | 0, k, .str x, _, h => by cases k <;> simpa [wk] using h
  | 0, k, .int _, _, h => by cases k <;> rfl
  | 0, k, .non, _, h => by cases k <;> rfl
  | n + 1, k, .str x, _, h => by cases k <;> simpa [wk] using h
  | n + 1, k, .int _, _, h => by cases k <;> rfl
  | n + 1, k, .non, _, h => by cases k <;> rfl
  | n + 1, 0, .tup xs, hk, h => by omega
  | n + 1, k + 1, .tup xs, hk, h => by
    have h' : xs.length ≤ 1000 ∧ wks n xs = true := by simpa [wk] using h
    have := wks_mono n k xs (by omega) h'.2
    simp [wk, h'.1, this]
  | 0, _, .tup _, _, h => nomatch h
  | 0, _, .bl _, _, h => nomatch h
  | n + 1, _, .bl _, _, h => nomatch h
  | 0, _, .ref _, _, h => nomatch h
  | n + 1, _, .ref _, _, h => nomatch h
theorem wks_mono : ∀ (n k : Nat) (ds : List D), n ≤ k → wks n ds = true → wks k ds = true
  | n, k, [], _, _ => rfl
  | n, k, d :: ds, hk, h => by
    have h' : wk n d = true ∧ wks n ds = true := by simpa [wks] using h
    simp [wks, wk_mono n k d hk h'.1, wks_mono n k ds hk h'.2]
end
abbrev hds : List D := [.str "item", .str "div", .str "rem", .str "if", .str "while", .str "assert"]
def hdK (d : D) : Int := b2i (hds.any fun y => D.eqb y d)
mutual
def wcD : D → Int
  | .tup [] => 0
  | .tup (x :: xs) => wcs (x :: xs) + hdK x
  | .str _ => 0
  | .int _ => 0
  | .non => 0
  | .bl _ => 0
  | .ref _ => 0
def wcs : List D → Int
  | [] => 0
  | x :: xs => wcD x + wcs xs
end
theorem wcs_sum : ∀ xs : List D, wcs xs = (xs.map wcD).sum
  | [] => by rw [wcs]; rfl
  | x :: xs => by rw [wcs, wcs_sum xs, List.map_cons, List.sum_cons]
theorem hds_ok : okds 60 hds = true := by decide +kernel
theorem count_flat {d : D} (hd : ∀ xs, d ≠ .tup xs) (hw : wk n d = true) (hm : 1 ≤ m) (q : ∀ st', Grw st st' → Q (.int (wcD d)) st') : callN prog m "_law_w_count" [d] st Q := by
  obtain ⟨m, rfl⟩ : ∃ n, m = n + 1 := ⟨m - 1, by omega⟩
  refine call_intro rfl rfl ?_
  unfold b_l_w_count
  have := q st (.refl st)
  cases d with
  | tup xs => exact absurd rfl (hd xs)
  | ref _ => cases n <;> cases hw
  | bl _ => cases n <;> cases hw
  | str s => walk_at "s"; refine wayT rfl ?_; walk_at "s"; exact this
  | int s => walk_at "s"; refine wayT rfl ?_; walk_at "s"; exact this
  | non => walk_at "s"; refine wayT rfl ?_; walk_at "s"; exact this
theorem count_ok : ∀ (n : Nat) ⦃d : D⦄ ⦃m : Nat⦄ ⦃st : Store⦄ ⦃Q : K⦄, wk n d = true → n ≤ 60 → n + 1 ≤ m → (∀ st', Grw st st' → Q (.int (wcD d)) st') → callN prog m "_law_w_count" [d] st Q := by
  intro n
  induction n with
  | zero =>
    intro d m st Q hw hn hm q
    refine count_flat (fun xs e => ?_) hw (by omega) q
    subst e
    cases hw
  | succ n ih =>
    intro d m st Q hw hn hm q
    cases d with
    | str s => exact count_flat (fun xs e => by cases e) hw (by omega) q
    | int s => exact count_flat (fun xs e => by cases e) hw (by omega) q
    | non => exact count_flat (fun xs e => by cases e) hw (by omega) q
    | bl s => cases hw
    | ref s => cases hw
    | tup xs =>
      obtain ⟨m, rfl⟩ : ∃ n, m = n + 1 := ⟨m - 1, by omega⟩
      refine call_intro rfl rfl ?_
      unfold b_l_w_count
      have h' : xs.length ≤ 1000 ∧ wks n xs = true := by simpa [wk] using hw
      rw [wks_all] at h'
      cases xs with
      | nil =>
        walk_at "s"
        refine wayF rfl ?_
        walk_at "s"
        refine wayT rfl ?_
        walk_at "s"
        exact q st (.refl st)
      | cons x xs =>
        walk_at "s"
        refine wayF rfl ?_
        walk_at "s"
        refine wayF (by simp; omega) ?_
        walk_at "r"
        refine lc_mapG (x :: xs) id (fun d => .int (wcD d)) (by simp) (by unfold szl; omega) (fun _ _ => trivial) (fun y hy st1 N f1 hN => ?_) (fun st1 f1 r1 => ?_)
        · walk_at "s"
          exact ih (List.all_eq_true.mp h'.2 y hy) (by omega) (by omega) hN
        · have e : (x :: xs).map (fun d => D.int (wcD d)) = ((x :: xs).map wcD).map D.int := by rw [List.map_map]; rfl
          rw [e] at r1
          walk_at "s"
          refine sum_at r1 ?_
          rw [← wcs_sum]
          walk_at "r"
          refine at_is rfl ?_
          walk_at "s"
          refine ⟨Nat.le_of_ble_eq_true rfl, ?_⟩
          walk_at "s"
          refine ⟨wk_okd 60 x (wk_mono n 60 x (by omega) (List.all_eq_true.mp h'.2 x (by simp))), hds_ok, ?_⟩
          walk_at "s"
          have := q st1 f1.grw
          rw [wcD] at this
          exact this
/-! expressions and statements that are drawn -/
def Xo : Ex → Prop
  | .word _ _ => True
  | .name s => okS s = true
  | .nul => True
  | .item a e => okS a = true ∧ Xo e
  | .un o e => sg o = true ∧ Xo e
  | .wide e _ => Xo e
  | .bin o a b => two o = true ∧ Xo a ∧ Xo b
theorem Xo_Ok : ∀ {e : Ex}, Xo e → Ok e
  | .word _ _, _ => trivial
  | .name _, _ => trivial
  | .nul, _ => trivial
  | .item _ e, h => Xo_Ok (e := e) h.2
  | .un _ e, h => ⟨h.1, Xo_Ok h.2⟩
  | .wide e _, h => Xo_Ok (e := e) h
  | .bin _ a b, h => ⟨h.1, Xo_Ok h.2.1, Xo_Ok h.2.2⟩
theorem wk3 {n : Nat} {a b c : D} (h1 : wk n a = true) (h2 : wk n b = true) (h3 : wk n c = true) : wk (n + 1) (.tup [a, b, c]) = true := by simp [wk, wks, h1, h2, h3]
theorem wk2 {n : Nat} {a b : D} (h1 : wk n a = true) (h2 : wk n b = true) : wk (n + 1) (.tup [a, b]) = true := by simp [wk, wks, h1, h2]
theorem wk4 {n : Nat} {a b c d : D} (h1 : wk n a = true) (h2 : wk n b = true) (h3 : wk n c = true) (h4 : wk n d = true) : wk (n + 1) (.tup [a, b, c, d]) = true := by simp [wk, wks, h1, h2, h3, h4]
theorem wkS {n : Nat} {s : Str} (h : okS s = true) : wk n (.str s) = true := by cases n <;> simpa [wk] using h
theorem wkI {n : Nat} {i : Int} : wk n (.int i) = true := by cases n <;> rfl
theorem wk_ex : ∀ {e : Ex} {n : Nat}, Xo e → dep e + 1 ≤ n → wk n (exD e) = true
  | e, 0, _, hn => by omega
  | .word v w, n + 1, _, _ => wk3 (wkS (by decide +kernel)) wkI wkI
  | .name s, n + 1, h, _ => wk2 (wkS (by decide +kernel)) (wkS h)
  | .nul, n + 1, _, _ => by
    have := wkS (n := n) (s := "null") (by decide +kernel)
    show wk (n + 1) (.tup [.str "null"]) = true
    unfold wk
    unfold wks
    rw [this]
    rfl
  | .item a e, n + 1, h, hn => wk3 (wkS (by decide +kernel)) (wkS h.1) (wk_ex h.2 (by simp only [dep] at hn; omega))
  | .un o e, n + 1, h, hn => wk2 (wkS (opS_ok o)) (wk_ex h.2 (by simp only [dep] at hn; omega))
  | .wide e w, n + 1, h, hn => wk3 (wkS (by decide +kernel)) (wk_ex (e := e) h (by simp only [dep] at hn; omega)) wkI
  | .bin o a b, n + 1, h, hn => wk3 (wkS (opS_ok o)) (wk_ex h.2.1 (by simp only [dep] at hn; omega)) (wk_ex h.2.2 (by simp only [dep] at hn; omega))
theorem wc_ex : ∀ {e : Ex}, Xo e → wcD (exD e) = cnt e
  | .word v w, _ => by
    have : hdK (.str "word") = 0 := by decide +kernel
    simp [exD, wcD, wcs, cnt, this]
  | .name s, _ => by
    have : hdK (.str "name") = 0 := by decide +kernel
    simp [exD, wcD, wcs, cnt, this]
  | .nul, _ => by
    have : hdK (.str "null") = 0 := by decide +kernel
    simp [exD, wcD, wcs, cnt, this]
  | .item a e, h => by
    have : hdK (.str "item") = 1 := by decide +kernel
    simp [exD, wcD, wcs, cnt, this, wc_ex h.2]
  | .un o e, h => by
    have : hdK (.str (opS o)) = 0 := by
      have := h.1
      cases o <;> first | (cases this; done) | decide +kernel
    simp [exD, wcD, wcs, cnt, this, wc_ex h.2]
  | .wide e w, h => by
    have : hdK (.str "wide") = 0 := by decide +kernel
    simp [exD, wcD, wcs, cnt, this, wc_ex (e := e) h]
  | .bin o a b, h => by
    have : hdK (.str (opS o)) = if dv o then 1 else 0 := by
      have := h.1
      cases o <;> first | (cases this; done) | decide +kernel
    simp [exD, wcD, wcs, cnt, this, wc_ex h.2.1, wc_ex h.2.2]
    split <;> omega
end Pk52
end PartPdk52P6

section PartPdk52P7
set_option Elab.async false
set_option linter.all false
set_option maxRecDepth 100000
set_option maxHeartbeats 2000000
/-! k52, seventh text: statements that are drawn. Own work. -/
namespace Pk52
open PySem Pd
local macro_rules | `(tactic| walk_at "s") => `(tactic| (repeat (refine Red.red ?_)))
local macro_rules | `(tactic| walk_at "r") => `(tactic| (repeat (first | refine Red.red ?_ | refine Nxt.mk ?_)))
local macro_rules | `(tactic| walk_at "t") => `(tactic| (repeat (first | refine Red.red ?_ | refine Nxt.mk ?_ | refine ⟨by decide +kernel, by decide +kernel, wayF (by decide +kernel) ?_⟩ | refine ⟨by decide +kernel, by decide +kernel, wayT (by decide +kernel) ?_⟩ | refine ⟨by decide +kernel, ?_⟩ | refine ⟨Nat.le_of_ble_eq_true rfl, ?_⟩ | refine at_is rfl ?_)))
local instance inTup7 {x : D} {xs : List D} {st : Store} {r : Bool → Prop} : Red (inC x (.tup xs) st r) (x.flat = true ∧ xs.all D.flat = true ∧ r (xs.any fun y => D.eqb y x)) := ⟨id⟩
variable {k m n : Nat} {st st' : Store} {Q : K}
local instance notinTup7 {x : D} {xs : List D} {st : Store} {r : Bool → Prop} : Red (notinC x (.tup xs) st r) (x.flat = true ∧ xs.all D.flat = true ∧ r (!(xs.any fun y => D.eqb y x))) := ⟨id⟩
variable {W : List (Str × Int)} {kn : Nat}
def Xd (e : Ex) : Prop := Xo e ∧ dep e ≤ 4
def Kn (W : List (Str × Int)) (p e : Ex) : Prop := ∀ x o v w, p = .name x → e = .bin o (.name x) (.word v w) → (∃ w', (x, w') ∈ W) ∧ 1 ≤ w ∧ w ≤ 8
mutual
def So (W : List (Str × Int)) : St → Prop
  | .lt p e => Xd p ∧ Xd e ∧ Kn W p e
  | .asr e => Xd e
  | .ifs e a b => Xd e ∧ SoB W a ∧ SoB W b
  | .rs n => okS n = true
  | .rt e => Xd e
  | .mk v r => okS v = true ∧ okS r = true
  | .tr a n b => okS n = true ∧ hdK (.str n) = 0 ∧ SoB W a ∧ SoB W b
  | .wh e b => Xd e ∧ (toL b).length ≤ 100 ∧ SoB W b
def SoB (W : List (Str × Int)) : Bl → Prop
  | .nil => True
  | .cons s b => (toL b).length ≤ 100 ∧ So W s ∧ SoB W b
end
theorem SoB_len : ∀ {b : Bl}, SoB W b → (blL b).length ≤ 101
  | .nil, _ => by simp [blL]
  | .cons s b, h => by
    rw [SoB] at h
    rw [blL, blL_eq]
    simp
    omega
theorem wks_cons {n : Nat} {x : D} {xs : List D} (h1 : wk n x = true) (h2 : wks n xs = true) : wks n (x :: xs) = true := by simp [wks, h1, h2]
theorem wkT {n : Nat} {xs : List D} (h1 : xs.length ≤ 1000) (h2 : wks n xs = true) : wk (n + 1) (.tup xs) = true := by simp [wk, h1, h2]
mutual
theorem wk_st : ∀ (s : St) (n : Nat), So W s → 4 * bdS s + 9 ≤ n → wk n (stD s) = true
  | s, 0, _, hn => by omega
  | .lt p e, n + 1, h, hn => by
    rw [So] at h
    have h1 := h.1.2
    have h2 := h.2.1.2
    exact wk3 (wkS (by decide +kernel)) (wk_ex h.1.1 (by omega)) (wk_ex h.2.1.1 (by omega))
  | .asr e, n + 1, h, hn => by
    rw [So] at h
    have h1 := h.2
    exact wk2 (wkS (by decide +kernel)) (wk_ex h.1 (by omega))
  | .ifs e a b, n + 1, h, hn => by
    rw [So] at h
    rw [bdS] at hn
    have h1 := h.1.2
    have la := SoB_len h.2.1
    have lb := SoB_len h.2.2
    obtain ⟨k, rfl⟩ : ∃ k, n = k + 1 := ⟨n - 1, by omega⟩
    exact wk4 (wkS (by decide +kernel)) (wk_ex h.1.1 (by omega)) (wkT (by omega) (wk_bl a k h.2.1 (by omega))) (wkT (by omega) (wk_bl b k h.2.2 (by omega)))
  | .rs s, n + 1, h, hn => by
    rw [So] at h
    exact wk2 (wkS (by decide +kernel)) (wkS h)
  | .rt e, n + 1, h, hn => by
    rw [So] at h
    have h1 := h.2
    exact wk2 (wkS (by decide +kernel)) (wk_ex h.1 (by omega))
  | .mk v r, n + 1, h, hn => by
    rw [So] at h
    exact wk3 (wkS (by decide +kernel)) (wkS h.1) (wkS h.2)
  | .tr a s b, n + 1, h, hn => by
    rw [So] at h
    rw [bdS] at hn
    have la := SoB_len h.2.2.1
    have lb := SoB_len h.2.2.2
    obtain ⟨k, rfl⟩ : ∃ k, n = k + 3 := ⟨n - 3, by omega⟩
    exact wk3 (wkS (by decide +kernel)) (wkT (by omega) (wk_bl a (k + 2) h.2.2.1 (by omega))) (wkT (by simp) (wks_cons (wk2 (wkS h.1) (wkT (by omega) (wk_bl b k h.2.2.2 (by omega)))) rfl))
  | .wh e b, n + 1, h, hn => by
    rw [So] at h
    rw [bdS] at hn
    have h1 := h.1.2
    have lb := SoB_len h.2.2
    obtain ⟨k, rfl⟩ : ∃ k, n = k + 1 := ⟨n - 1, by omega⟩
    exact wk3 (wkS (by decide +kernel)) (wk_ex h.1.1 (by omega)) (wkT (by omega) (wk_bl b k h.2.2 (by omega)))
theorem wk_bl : ∀ (b : Bl) (n : Nat), SoB W b → 4 * bd b + 9 ≤ n → wks n (blL b) = true
  | .nil, n, _, _ => by rw [blL]; cases n <;> rfl
  | .cons s b, n, h, hn => by
    rw [SoB] at h
    rw [bd] at hn
    rw [blL]
    exact wks_cons (wk_st s n h.2.1 (by omega)) (wk_bl b n h.2.2 (by omega))
end
def own (s : St) : Int := (looks s : Int) + bmp s
def tp (l : List St) : Int := (l.map own).sum
theorem tp_app (l l' : List St) : tp (l ++ l') = tp l + tp l' := by unfold tp; rw [List.map_append, List.sum_append]
theorem tp_cons (s : St) (l : List St) : tp (s :: l) = own s + tp l := by unfold tp; rw [List.map_cons, List.sum_cons]
theorem tp_nil : tp [] = 0 := rfl
theorem hd_st (s : St) : hdK (stD s) = 0 := by cases s <;> rfl
theorem wc_bl (b : Bl) : wcD (.tup (blL b)) = wcs (blL b) := by
  cases b with
  | nil => rw [blL, wcD, wcs]
  | cons s b => rw [blL, wcD, hd_st, Int.add_zero]
theorem wc_tup (x : D) (xs : List D) : wcD (.tup (x :: xs)) = wcs (x :: xs) + hdK x := by rw [wcD]
mutual
theorem wc_st : ∀ s : St, So W s → wcD (stD s) = tp (preS s)
  | .lt p e, h => by
    rw [So] at h
    have e1 : hdK (.str "let") = 0 := by decide +kernel
    rw [stD, wc_tup, e1, preS, tp_cons, tp_nil]
    simp [wcs, wcD, own, looks, exs, bmp, wc_ex h.1.1, wc_ex h.2.1.1]
  | .asr e, h => by
    rw [So] at h
    have e1 : hdK (.str "assert") = 1 := by decide +kernel
    rw [stD, wc_tup, e1, preS, tp_cons, tp_nil]
    simp [wcs, wcD, own, looks, exs, bmp, wc_ex h.1]
  | .ifs e a b, h => by
    rw [So] at h
    have e1 : hdK (.str "if") = 1 := by decide +kernel
    rw [stD, wc_tup, e1, preS, tp_cons, tp_app]
    simp only [wcs, wc_bl]
    rw [wc_sb a h.2.1, wc_sb b h.2.2]
    simp [wcD, own, looks, exs, bmp, wc_ex h.1.1]
    omega
  | .rs s, h => by
    have e1 : hdK (.str "raise") = 0 := by decide +kernel
    rw [stD, wc_tup, e1, preS, tp_cons, tp_nil]
    simp [wcs, wcD, own, looks, exs, bmp]
  | .rt e, h => by
    rw [So] at h
    have e1 : hdK (.str "return") = 0 := by decide +kernel
    rw [stD, wc_tup, e1, preS, tp_cons, tp_nil]
    simp [wcs, wcD, own, looks, exs, bmp, wc_ex h.1]
  | .mk v r, h => by
    have e1 : hdK (.str "make") = 0 := by decide +kernel
    rw [stD, wc_tup, e1, preS, tp_cons, tp_nil]
    simp [wcs, wcD, own, looks, exs, bmp]
  | .tr a s b, h => by
    rw [So] at h
    have e1 : hdK (.str "try") = 0 := by decide +kernel
    have e2 : hdK (.tup [.str s, .tup (blL b)]) = 0 := rfl
    rw [stD, wc_tup, e1, preS, tp_cons, tp_app]
    simp only [wcs, wc_bl]
    rw [wc_tup, e2]
    simp only [wcs]
    rw [wc_tup, h.2.1]
    simp only [wcs, wc_bl]
    rw [wc_sb a h.2.2.1, wc_sb b h.2.2.2]
    simp [wcD, own, looks, exs, bmp]
  | .wh e b, h => by
    rw [So] at h
    have e1 : hdK (.str "while") = 1 := by decide +kernel
    rw [stD, wc_tup, e1, preS, tp_cons]
    simp only [wcs, wc_bl]
    rw [wc_sb b h.2.2]
    simp [wcD, own, looks, exs, bmp, wc_ex h.1.1]
    omega
theorem wc_sb : ∀ b : Bl, SoB W b → wcs (blL b) = tp (pre b)
  | .nil, _ => by rw [blL, pre, wcs]; rfl
  | .cons s b, h => by
    rw [SoB] at h
    rw [blL, pre, wcs, tp_app, wc_st s h.2.1, wc_sb b h.2.2]
end
mutual
theorem so_pre : ∀ (s t : St), So W s → t ∈ preS s → So W t
  | .lt p e, t, h, ht => by rw [preS] at ht; simp at ht; subst ht; exact h
  | .asr e, t, h, ht => by rw [preS] at ht; simp at ht; subst ht; exact h
  | .rs e, t, h, ht => by rw [preS] at ht; simp at ht; subst ht; exact h
  | .rt e, t, h, ht => by rw [preS] at ht; simp at ht; subst ht; exact h
  | .mk e _, t, h, ht => by rw [preS] at ht; simp at ht; subst ht; exact h
  | .ifs e a b, t, h, ht => by
    rw [preS] at ht
    rcases List.mem_cons.mp ht with ht | ht
    · subst ht; exact h
    rw [So] at h
    rcases List.mem_append.mp ht with ht | ht
    · exact so_preB a t h.2.1 ht
    · exact so_preB b t h.2.2 ht
  | .tr a n b, t, h, ht => by
    rw [preS] at ht
    rcases List.mem_cons.mp ht with ht | ht
    · subst ht; exact h
    rw [So] at h
    rcases List.mem_append.mp ht with ht | ht
    · exact so_preB a t h.2.2.1 ht
    · exact so_preB b t h.2.2.2 ht
  | .wh e b, t, h, ht => by
    rw [preS] at ht
    rcases List.mem_cons.mp ht with ht | ht
    · subst ht; exact h
    rw [So] at h
    exact so_preB b t h.2.2 ht
theorem so_preB : ∀ (b : Bl) (t : St), SoB W b → t ∈ pre b → So W t
  | .nil, t, _, ht => by rw [pre] at ht; simp at ht
  | .cons s b, t, h, ht => by
    rw [SoB] at h
    rw [pre] at ht
    rcases List.mem_append.mp ht with ht | ht
    · exact so_pre s t h.2.1 ht
    · exact so_preB b t h.2.2 ht
end
theorem so_toL : ∀ {b : Bl} {t : St}, SoB W b → t ∈ toL b → So W t
  | .nil, t, _, ht => by rw [toL] at ht; simp at ht
  | .cons s b, t, h, ht => by
    rw [SoB] at h
    rw [toL] at ht
    rcases List.mem_cons.mp ht with ht | ht
    · subst ht; exact h.2.1
    · exact so_toL h.2.2 ht
theorem so_exs {s : St} (h : So W s) : ∀ e ∈ exs s, Xd e := by
  intro e he
  cases s <;> simp [exs] at he <;> rw [So] at h
  · rcases he with he | he <;> subst he
    · exact h.1
    · exact h.2.1
  · subst he; exact h
  · subst he; exact h.1
  · subst he; exact h
  · subst he; exact h.1
theorem xd_ok {e : Ex} (h : Xd e) : EOk e := ⟨Xo_Ok h.1, by have := h.2; omega⟩
theorem exs_few (s : St) : (exs s).length ≤ 2 := by cases s <;> simp [exs]
theorem sum_le {l : List Nat} {c : Nat} (h : ∀ x ∈ l, x ≤ c) : l.sum ≤ l.length * c := by
  induction l with
  | nil => simp
  | cons x l ih =>
    have h1 := h x (by simp)
    have h2 := ih fun y hy => h y (by simp [hy])
    rw [List.sum_cons, List.length_cons, Nat.succ_mul]
    omega
theorem xd_cnt {e : Ex} (h : Xd e) : cnt e ≤ 32 := by
  have h1 := cnt_le e
  have h2 := Nat.pow_le_pow_right (n := 2) (by decide) (show dep e + 1 ≤ 5 by have := h.2; omega)
  have : (2 : Nat) ^ 5 = 32 := by decide
  omega
theorem so_looks {s : St} (h : So W s) : looks s ≤ 64 := by
  unfold looks
  have h1 := sum_le (l := (exs s).map cnt) (c := 32) fun x hx => by
    obtain ⟨e, he, rfl⟩ := List.mem_map.mp hx
    exact xd_cnt (so_exs h e he)
  have h2 := exs_few s
  rw [List.length_map] at h1
  omega
theorem so_fine {s : St} (h : So W s) : Fine W s := by
  refine ⟨fun e he => ?_, fun p o a b e => ?_, fun x o v w e => ?_⟩
  · have := so_exs h e he
    exact ⟨Xo_Ok this.1, wk_okd 60 _ (wk_ex this.1 (by have := this.2; omega))⟩
  · subst e
    rw [So] at h
    have h1 := h.2.1.1
    have h2 := h.2.1.2
    rw [Xo] at h1
    simp only [dep] at h2
    exact wk_okd 60 _ (wk_ex h1.2.1 (by omega))
  · subst e
    rw [So] at h
    exact h.2.2 x o v w rfl rfl
theorem so_bok {b : Bl} (h : SoB W b) (hd : bd b ≤ 10) (hl : (pre b).length ≤ 1000) : BOk W b := by
  refine ⟨hd, hl, fun s hs => ?_, fun e c hc => ?_⟩
  · have := so_preB b s h hs
    exact ⟨fun e he => xd_ok (so_exs this e he), by have := so_looks this; omega⟩
  · have := so_preB b _ h hc
    rw [So] at this
    exact ⟨by omega, fun s hs => so_fine (so_toL this.2.2 hs)⟩
end Pk52
end PartPdk52P7

section PartPdk52P8
set_option Elab.async false
set_option linter.all false
set_option maxRecDepth 100000
set_option maxHeartbeats 2000000
/-! k52, eighth text: the same data, the law's plan. Own work. -/
namespace Pk52
open PySem Pd
local macro_rules | `(tactic| walk_at "s") => `(tactic| (repeat (refine Red.red ?_)))
local macro_rules | `(tactic| walk_at "r") => `(tactic| (repeat (first | refine Red.red ?_ | refine Nxt.mk ?_)))
local macro_rules | `(tactic| walk_at "t") => `(tactic| (repeat (first | refine Red.red ?_ | refine Nxt.mk ?_ | refine ⟨by decide +kernel, by decide +kernel, wayF (by decide +kernel) ?_⟩ | refine ⟨by decide +kernel, by decide +kernel, wayT (by decide +kernel) ?_⟩ | refine ⟨by decide +kernel, ?_⟩ | refine ⟨Nat.le_of_ble_eq_true rfl, ?_⟩ | refine at_is rfl ?_)))
local instance inTup8 {x : D} {xs : List D} {st : Store} {r : Bool → Prop} : Red (inC x (.tup xs) st r) (x.flat = true ∧ xs.all D.flat = true ∧ r (xs.any fun y => D.eqb y x)) := ⟨id⟩
variable {k m n : Nat} {st st' : Store} {Q : K}
local instance notinTup8 {x : D} {xs : List D} {st : Store} {r : Bool → Prop} : Red (notinC x (.tup xs) st r) (x.flat = true ∧ xs.all D.flat = true ∧ r (!(xs.any fun y => D.eqb y x))) := ⟨id⟩
variable {W : List (Str × Int)} {kn : Nat}
/-! the same data twice -/
theorem same_flat {d : D} (hd : ∀ xs, d ≠ .tup xs) (hw : wk n d = true) (hm : 2 ≤ m) (q : ∀ st', Grw st st' → Q (.bl true) st') : callN prog m "_law_w_same" [d, d] st Q := by
  obtain ⟨m, rfl⟩ : ∃ n, m = n + 2 := ⟨m - 2, by omega⟩
  refine call_intro rfl rfl ?_
  unfold b_l_w_same
  have := q st (.refl st)
  cases d with
  | tup xs => exact absurd rfl (hd xs)
  | ref _ => cases n <;> cases hw
  | bl _ => cases n <;> cases hw
  | str s =>
    have hs : okS s = true := by cases n <;> simpa [wk] using hw
    walk_at "s"
    refine wayF rfl ?_
    walk_at "r"
    refine wayF rfl ?_
    walk_at "r"
    refine wayT rfl ?_
    walk_at "r"
    refine ⟨fun _ => ?_, fun e => nomatch e⟩
    walk_at "s"
    refine ⟨hs, hs, ?_⟩
    rw [decide_eq_true rfl]
    walk_at "s"
    exact this
  | int i =>
    walk_at "s"
    refine wayF rfl ?_
    walk_at "r"
    refine wayF rfl ?_
    walk_at "r"
    refine wayF rfl ?_
    walk_at "r"
    refine isInt_ok rfl ?_
    walk_at "s"
    rw [decide_eq_true rfl]
    exact this
  | non =>
    walk_at "r"
    first | exact this | (refine wayT rfl ?_; walk_at "s"; exact this)
theorem atD_nat {xs : List D} {i : Nat} (h : i < xs.length) : atD xs (i : Int) = some xs[i] := by
  unfold atD
  rw [if_pos (by omega), Int.toNat_natCast, List.getElem?_eq_getElem h]
theorem same_ok : ∀ (n : Nat) ⦃d : D⦄ ⦃m : Nat⦄ ⦃st : Store⦄ ⦃Q : K⦄, wk n d = true → n + 2 ≤ m → (∀ st', Grw st st' → Q (.bl true) st') → callN prog m "_law_w_same" [d, d] st Q := by
  intro n
  induction n with
  | zero =>
    intro d m st Q hw hm q
    refine same_flat (fun xs e => ?_) hw (by omega) q
    subst e
    cases hw
  | succ n ih =>
    intro d m st Q hw hm q
    cases d with
    | str s => exact same_flat (fun xs e => by cases e) hw (by omega) q
    | int s => exact same_flat (fun xs e => by cases e) hw (by omega) q
    | non => exact same_flat (fun xs e => by cases e) hw (by omega) q
    | bl s => cases hw
    | ref s => cases hw
    | tup xs =>
      obtain ⟨m, rfl⟩ : ∃ n, m = n + 1 := ⟨m - 1, by omega⟩
      refine call_intro rfl rfl ?_
      unfold b_l_w_same
      have h' : xs.length ≤ 1000 ∧ wks n xs = true := by simpa [wk] using hw
      rw [wks_all] at h'
      walk_at "s"
      refine wayT rfl ?_
      walk_at "s"
      refine wayF rfl ?_
      walk_at "s"
      refine wayF (by simp) ?_
      walk_at "r"
      refine ⟨by omega, by omega, ?_⟩
      refine lc_mapG (List.range xs.length) (fun (i : Nat) => D.int (i : Int)) (fun _ => .bl true) ?_ (by rw [List.length_range]; unfold szl; omega) (fun _ _ => trivial) (fun i hi st1 N f1 hN => ?_) (fun st1 f1 r1 => ?_)
      · show rng 0 ((xs.length : Int)).toNat = _
        rw [Int.toNat_natCast]
        simp [rng]
      · have hi' := List.mem_range.mp hi
        have hx := atD_nat (xs := xs) hi'
        walk_at "s"
        refine at_is hx ?_
        walk_at "s"
        refine at_is hx ?_
        walk_at "s"
        exact ih (List.all_eq_true.mp h'.2 _ (List.getElem_mem hi')) (by omega) hN
      · walk_at "s"
        refine ⟨_, .inl r1, ?_, ?_⟩
        · rw [List.all_map]
          exact List.all_eq_true.mpr fun _ _ => rfl
        · have e : ((List.range xs.length).map fun _ => D.bl true).all D.tru = true := by
            rw [List.all_map]
            exact List.all_eq_true.mpr fun _ _ => rfl
          rw [e]
          walk_at "s"
          exact q _ f1.grw

/-! the plan -/
def b1 : St → List Bl
  | .ifs _ a b => [a, b]
  | .wh _ b => [b]
  | _ => []
def Blk (P : Bl → Nat → Int → Prop) : List Bl → List D → Int → Prop
  | [], ps, _ => ps = []
  | b :: bs, ps, N => ∃ n ps', ps = .ref n :: ps' ∧ P b n N ∧ Blk P bs ps' (N + tp (pre b))
def Rows (P : Bl → Nat → Int → Prop) (st : Store) (lo : Nat) : List St → List D → Int → Prop
  | [], ds, _ => ds = []
  | s :: r, ds, N => ∃ pn ps ds', ds = .tup [stD s, .int N, .ref pn] :: ds' ∧ lo ≤ pn ∧ rdL st pn ps ∧ Blk P (blks s) ps (N + own s) ∧ Rows P st lo r ds' (N + tp (preS s))
def Pl (st : Store) (lo : Nat) : Nat → Bl → Nat → Int → Prop
  | 0, _, _, _ => False
  | d + 1, b, n, N => ∃ ds, lo ≤ n ∧ rdL st n ds ∧ Rows (Pl st lo d) st lo (toL b) ds N
theorem Blk.mono {P P' : Bl → Nat → Int → Prop} (h : ∀ b n N, P b n N → P' b n N) : ∀ {bs : List Bl} {ps : List D} {N : Int}, Blk P bs ps N → Blk P' bs ps N
  | [], _, _, e => e
  | _ :: _, _, _, ⟨n, ps', e, h1, h2⟩ => ⟨n, ps', e, h _ _ _ h1, Blk.mono h h2⟩
/-- from lo on -/
def Up (lo : Nat) (st st' : Store) : Prop := ∀ n xs, lo ≤ n → rdL st n xs → rdL st' n xs
theorem Rows.mono {P P' : Bl → Nat → Int → Prop} {lo lo' : Nat} (h : ∀ b n N, P b n N → P' b n N) (hl : lo' ≤ lo) (g : Up lo st st') : ∀ {l : List St} {ds : List D} {N : Int}, Rows P st lo l ds N → Rows P' st' lo' l ds N
  | [], _, _, e => e
  | _ :: _, _, _, ⟨pn, ps, ds', e, h0, h1, h2, h3⟩ => ⟨pn, ps, ds', e, Nat.le_trans hl h0, g _ _ h0 h1, h2.mono h, Rows.mono h hl g h3⟩
theorem Pl.mono {lo lo' : Nat} (hl : lo' ≤ lo) (g : Up lo st st') : ∀ {d : Nat} {b : Bl} {n : Nat} {N : Int}, Pl st lo d b n N → Pl st' lo' d b n N
  | 0, _, _, _, h => h
  | d + 1, _, _, _, ⟨ds, h0, h1, h2⟩ => ⟨ds, Nat.le_trans hl h0, g _ _ h0 h1, h2.mono (fun _ _ _ h => Pl.mono hl g h) hl g⟩
theorem Grw.up {lo : Nat} (g : Grw st st') : Up lo st st' := fun _ _ _ h => g.rd h
theorem Up.set {lo : Nat} {c : C} (h : n < lo) : Up lo st (st.set n c) := fun _ _ hl h' => rdL_ne h' (by omega)
theorem Up.trans {lo : Nat} {st2 : Store} (h : Up lo st st') (h' : Up lo st' st2) : Up lo st st2 := fun n xs hl hr => h' n xs hl (h n xs hl hr)
theorem Blk.snoc {P : Bl → Nat → Int → Prop} {b : Bl} {n : Nat} : ∀ {bs : List Bl} {ps : List D} {N : Int}, Blk P bs ps N → P b n (N + tp (bs.flatMap pre)) → Blk P (bs ++ [b]) (ps ++ [.ref n]) N
  | [], _, N, e, h => by
    have e' : _ = [] := e
    subst e'
    exact ⟨n, [], rfl, by simpa [tp_nil] using h, rfl⟩
  | c :: bs, _, N, ⟨n', ps', e, h1, h2⟩, h => by
    subst e
    refine ⟨n', _, rfl, h1, h2.snoc ?_⟩
    rw [List.flatMap_cons, tp_app, ← Int.add_assoc] at h
    exact h
theorem Rows.snoc {P : Bl → Nat → Int → Prop} {s : St} {pn lo : Nat} {ps : List D} : ∀ {l : List St} {ds : List D} {N : Int}, Rows P st lo l ds N → lo ≤ pn → rdL st pn ps → Blk P (blks s) ps (N + tp (l.flatMap preS) + own s) → Rows P st lo (l ++ [s]) (ds ++ [.tup [stD s, .int (N + tp (l.flatMap preS)), .ref pn]]) N
  | [], _, N, e, hl, h, h' => by
    have e' : _ = [] := e
    subst e'
    have e2 : N + tp (([] : List St).flatMap preS) = N := by simp [tp_nil]
    rw [e2] at h' ⊢
    exact ⟨pn, ps, [], rfl, hl, h, h', rfl⟩
  | t :: l, _, N, ⟨pn', ps', ds', e, h0, h1, h2, h3⟩, hl, h, h' => by
    subst e
    rw [List.flatMap_cons, tp_app, ← Int.add_assoc] at h' ⊢
    exact ⟨pn', ps', _, rfl, h0, h1, h2, h3.snoc hl h h'⟩
def SeqIs (st : Store) (v : D) (xs : List D) : Prop := v = .tup xs ∨ ∃ k, v = .ref k ∧ rdL st k xs
theorem it_seq {v : D} {xs : List D} {R : Iter → Store → Prop} (h : SeqIs st v xs) (f : Grw st st') (q : ∀ g : Store → Prop, (∀ st2, Grw st st2 → g st2) → R ⟨xs, g⟩ st') : itK v st' R := by
  rcases h with rfl | ⟨k, rfl, h⟩
  · exact q (fun _ => True) fun _ _ => trivial
  · exact it_at (f.rd h) (q _ fun st2 g => .inl (g.rd h))
theorem so_blks {s : St} {b : Bl} (h : So W s) (hb : b ∈ blks s) : SoB W b := by
  cases s <;> simp [blks] at hb <;> rw [So] at h
  · rcases hb with e | e <;> subst e
    · exact h.2.1
    · exact h.2.2
  · rcases hb with e | e <;> subst e
    · exact h.2.2.1
    · exact h.2.2.2
  · subst hb
    exact h.2.2
theorem tp_flat : ∀ {bs : List Bl}, (∀ b ∈ bs, SoB W b) → (bs.map fun b => wcD (blD b)).sum = tp (bs.flatMap pre)
  | [], _ => rfl
  | b :: bs, h => by
    rw [List.map_cons, List.sum_cons, List.flatMap_cons, tp_app, tp_flat (bs := bs) fun c hc => h c (by simp [hc])]
    rw [show wcD (blD b) = tp (pre b) from (wc_bl b).trans (wc_sb b (h b (by simp)))]
theorem own_eq {s : St} (h : So W s) : wcD (stD s) - ((blks s).map fun b => wcD (blD b)).sum = own s := by
  rw [tp_flat (fun b hb => so_blks h hb), wc_st s h, preS_eq, tp_cons]
  omega
theorem blks_few (s : St) : (blks s).length ≤ 2 := by cases s <;> simp [blks]
def PlOk (W : List (Str × Int)) (d : Nat) : Prop := ∀ ⦃b : Bl⦄ ⦃v : D⦄ ⦃N : Int⦄ ⦃m : Nat⦄ ⦃st : Store⦄ ⦃Q : K⦄, bd b < d → bd b ≤ 4 → SeqIs st v (blL b) → SoB W b → d + 30 ≤ m → (pre b).length ≤ 1000 → (∀ n st', st.length ≤ n → Pl st' st.length d b n N → Grw st st' → Q (.tup [.ref n, .int (N + tp (pre b))]) st') → callN prog m "_law_w_plan" [v, .int N] st Q
theorem plan_ok : ∀ d : Nat, PlOk W d := by
  intro d
  induction d with
  | zero => intro b v N m st Q hb; omega
  | succ d ih =>
    intro b v N m st Q hb hb8 hv hS hm hl q
    obtain ⟨m, rfl⟩ : ∃ n, m = n + 1 := ⟨m - 1, by omega⟩
    refine call_intro rfl rfl ?_
    unfold b_l_w_plan
    walk_at "s"
    refine ⟨Nat.le_of_ble_eq_true rfl, ?_⟩
    walk_at "s"
    refine Nxt.mk ?_
    walk_at "s"
    have g0 := (Grw.refl st).app (c := C.lst [])
    have h0 := rdL_new (st := st) (xs := [])
    generalize st ++ [C.lst []] = st1 at g0 h0 ⊢
    refine it_seq hv g0 fun g hg => ?_
    refine for_map (toL b) stD (blL_eq b) (fun j σ st' => ∃ ds y3 y4 y5 y6 y7 y8 y9, rdL st' st.length ds ∧ ds.length = j ∧ Rows (Pl st' (st.length + 1) d) st' (st.length + 1) ((toL b).take j) ds N ∧ Grw st st' ∧ σ = [some v, some (.int (N + tp (((toL b).take j).flatMap preS))), some (.ref st.length), y3, y4, y5, y6, y7, y8, y9]) ⟨[], _, _, _, _, _, _, _, h0, rfl, rfl, g0, by rw [show N + tp (((toL b).take 0).flatMap preS) = N from by simp [tp_nil]]⟩ (fun j s σ st' hj ⟨ds, y3, y4, y5, y6, y7, y8, y9, k1, k2, k3, k4, e1⟩ N1 hN => ?_) (fun σ st' ⟨ds, y3, y4, y5, y6, y7, y8, y9, k1, k2, k3, k4, e1⟩ => ?_)
    · subst e1
      refine ⟨hg _ k4, ?_⟩
      have hsm := List.mem_of_getElem? hj
      have hSs := so_toL hS hsm
      have hbs := bd_mem hsm
      obtain ⟨f1, f2⟩ := flat_take (f := preS) hj
      have hpl : (preS s).length ≤ 1000 := by
        rw [f1, List.length_append, ← pre_flat] at f2
        omega
      have hjl := (List.getElem?_eq_some_iff.mp hj).1
      have hTl : (toL b).length ≤ 101 := by
        have := SoB_len hS
        rw [blL_eq, List.length_map] at this
        exact this
      generalize hT : tp (((toL b).take j).flatMap preS) = T
      show sSeq _ _ _ [some v, some (.int (N + T)), some (.ref st.length), some (stD s), y4, y5, y6, y7, y8, y9] st'
      refine seq_J (fun σ st2 => ∃ y5 y6 y7 y8 y9, Grw st' st2 ∧ σ = [some v, some (.int (N + T)), some (.ref st.length), some (stD s), some (.tup ((b1 s).map blD)), y5, y6, y7, y8, y9]) (fun N2 hN2 => ?_) (fun σ st2 ⟨y5, y6, y7, y8, y9, g2, e1⟩ => ?_)
      · cases s with
        | lt p e => unfold stD at hN2 ⊢; walk_at "t"; exact hN2 _ _ ⟨_, _, _, _, _, .refl _, rfl⟩
        | rs n => unfold stD at hN2 ⊢; walk_at "t"; exact hN2 _ _ ⟨_, _, _, _, _, .refl _, rfl⟩
        | rt e => unfold stD at hN2 ⊢; walk_at "t"; exact hN2 _ _ ⟨_, _, _, _, _, .refl _, rfl⟩
        | mk v r => unfold stD at hN2 ⊢; walk_at "t"; exact hN2 _ _ ⟨_, _, _, _, _, .refl _, rfl⟩
        | tr a n b => unfold stD at hN2 ⊢; walk_at "t"; exact hN2 _ _ ⟨_, _, _, _, _, .refl _, rfl⟩
        | asr e => unfold stD at hN2 ⊢; walk_at "t"; exact hN2 _ _ ⟨_, _, _, _, _, .refl _, rfl⟩
        | ifs e a b => unfold stD at hN2 ⊢; walk_at "t"; exact hN2 _ _ ⟨_, _, _, _, _, .refl _, rfl⟩
        | wh e c => unfold stD at hN2 ⊢; walk_at "t"; exact hN2 _ _ ⟨_, _, _, _, _, .refl _, rfl⟩
      subst e1
      refine seq_J (fun σ st2 => ∃ y5 y6 y7 y8 y9, Grw st' st2 ∧ σ = [some v, some (.int (N + T)), some (.ref st.length), some (stD s), some (.tup ((blks s).map blD)), y5, y6, y7, y8, y9]) (fun N2 hN2 => ?_) (fun σ st2 ⟨y5, y6, y7, y8, y9, g2, e1⟩ => ?_)
      · cases s with
        | lt p e => unfold stD at hN2 ⊢; walk_at "t"; exact hN2 _ _ ⟨_, _, _, _, _, g2, rfl⟩
        | rs n => unfold stD at hN2 ⊢; walk_at "t"; exact hN2 _ _ ⟨_, _, _, _, _, g2, rfl⟩
        | rt e => unfold stD at hN2 ⊢; walk_at "t"; exact hN2 _ _ ⟨_, _, _, _, _, g2, rfl⟩
        | mk v r => unfold stD at hN2 ⊢; walk_at "t"; exact hN2 _ _ ⟨_, _, _, _, _, g2, rfl⟩
        | asr e => unfold stD at hN2 ⊢; walk_at "t"; exact hN2 _ _ ⟨_, _, _, _, _, g2, rfl⟩
        | ifs e a b => unfold stD at hN2 ⊢; walk_at "t"; exact hN2 _ _ ⟨_, _, _, _, _, g2, rfl⟩
        | wh e c => unfold stD at hN2 ⊢; walk_at "t"; exact hN2 _ _ ⟨_, _, _, _, _, g2, rfl⟩
        | tr a n b =>
          unfold stD at hN2 ⊢
          walk_at "t"
          refine lc_map [b] (fun b => D.tup [.str n, blD b]) blD rfl (by unfold szl; simp) (fun _ => trivial) (fun x hx acc N hN => ?_) ?_
          · walk_at "t"
            exact hN
          · walk_at "s"
            refine tuple_at rdL_new ?_
            walk_at "t"
            exact hN2 _ _ ⟨_, _, _, _, _, g2.app, rfl⟩
      subst e1
      have hwk := wk_st s _ hSs (Nat.le_refl _)
      have hfew := blks_few s
      walk_at "r"
      refine count_ok _ hwk (by omega) (by omega) fun st3 g3 => ?_
      walk_at "s"
      refine lc_mapG (blks s) blD (fun b => .int (wcD (blD b))) rfl (by unfold szl; omega) (fun _ _ => trivial) (fun x hx st4 N3 f4 hN3 => ?_) (fun st4 f4 r4 => ?_)
      · have hbx := bd_blk hx
        have hSx := so_blks hSs hx
        have hlx := SoB_len hSx
        walk_at "s"
        exact count_ok _ (wkT (by omega) (wk_bl x _ hSx (Nat.le_refl _))) (by omega) (by omega) hN3
      have e4 : (blks s).map (fun b => D.int (wcD (blD b))) = ((blks s).map fun b => wcD (blD b)).map D.int := by rw [List.map_map]; rfl
      rw [e4] at r4
      walk_at "s"
      refine sum_at r4 ?_
      walk_at "s"
      rw [own_eq hSs]
      refine Nxt.mk ?_
      walk_at "s"
      refine ⟨Nat.le_of_ble_eq_true rfl, ?_⟩
      walk_at "s"
      refine Nxt.mk ?_
      have gA := ((g2.trans g3).trans f4.grw).app (c := C.lst [])
      have rA := rdL_new (st := st4) (xs := [])
      have lA : st'.length ≤ st4.length := ((g2.trans g3).trans f4.grw).le
      have lS := rdL_lt k1
      generalize st4.length = pn at rA lA ⊢
      generalize st4 ++ [C.lst []] = st5 at gA rA ⊢
      refine seq_J (fun σ st6 => ∃ ps y7 y8 y9, rdL st6 pn ps ∧ Blk (Pl st6 (st.length + 1) d) (blks s) ps (N + T + own s) ∧ Grw st' st6 ∧ σ = [some v, some (.int (N + T + own s + tp ((blks s).flatMap pre))), some (.ref st.length), some (stD s), some (.tup ((blks s).map blD)), some (.int (N + T)), some (.ref pn), y7, y8, y9]) (fun N4 hN4 => ?_) (fun σ st6 ⟨ps, y7, y8, y9, j1, j2, j3, e1⟩ => ?_)
      · walk_at "s"
        refine for_map (blks s) blD rfl (fun i σ st6 => ∃ ps y7 y8 y9, rdL st6 pn ps ∧ ps.length = i ∧ Blk (Pl st6 (pn + 1) d) ((blks s).take i) ps (N + T + own s) ∧ Grw st' st6 ∧ σ = [some v, some (.int (N + T + own s + tp (((blks s).take i).flatMap pre))), some (.ref st.length), some (stD s), some (.tup ((blks s).map blD)), some (.int (N + T)), some (.ref pn), y7, y8, y9]) ⟨[], _, _, _, rA, rfl, rfl, gA, by rw [show N + T + own s + tp (((blks s).take 0).flatMap pre) = N + T + own s from by simp [tp_nil]]⟩ (fun i x σ st6 hi ⟨ps, y7, y8, y9, j1, j2, j3, j4, e1⟩ N5 hN5 => ?_) (fun σ st6 ⟨ps, y7, y8, y9, j1, j2, j3, j4, e1⟩ => ?_)
        · subst e1
          refine ⟨trivial, ?_⟩
          have hx := List.mem_of_getElem? hi
          have hil := (List.getElem?_eq_some_iff.mp hi).1
          have hbx := bd_blk hx
          obtain ⟨f3, f4⟩ := flat_take (f := pre) hi
          have hlx : (pre x).length ≤ 1000 := by
            rw [preS_eq, List.length_cons] at hpl
            rw [f3, List.length_append] at f4
            omega
          have hp6 := rdL_lt j1
          walk_at "s"
          refine ih (by omega) (by omega) (.inl rfl) (so_blks hSs hx) (by omega) hlx fun n7 st7 hn7 hP7 g7 => ?_
          walk_at "s"
          refine ⟨rfl, ?_⟩
          walk_at "r"
          have r7 := g7.rd j1
          refine ⟨ty_at r7, ?_⟩
          walk_at "s"
          refine append_at r7 (by unfold szl; omega) ?_
          have hup : Up (pn + 1) st7 (st7.set pn (.lst (ps ++ [.ref n7]))) := Up.set (by omega)
          refine hN5 _ _ ⟨ps ++ [.ref n7], some (blD x), some (.ref n7), y9, rdL_set r7, by rw [List.length_append, j2]; rfl, ?_, Grw.setN (j4.trans g7) (by omega), ?_⟩
          · have ht : (blks s).take (i + 1) = (blks s).take i ++ [x] := by rw [List.take_add_one, hi]; rfl
            rw [ht]
            refine (j3.mono fun _ _ _ h => Pl.mono (Nat.le_refl _) ((Grw.up g7).trans hup) h).snoc ?_
            exact Pl.mono (by omega) (fun n xs hn h => hup n xs (by omega) h) hP7
          · rw [f3, tp_app, ← Int.add_assoc]
        · subst e1
          refine ⟨trivial, ?_⟩
          rw [List.take_length] at j3 ⊢
          exact hN4 _ _ ⟨ps, _, _, _, j1, j3.mono (fun _ _ _ h => Pl.mono (by omega) (fun _ _ _ h => h) h), j4, rfl⟩
      subst e1
      have r6 : rdL st6 st.length ds := j3.rd k1
      walk_at "s"
      refine ⟨ty_at r6, ?_⟩
      walk_at "r"
      refine ⟨Nat.le_of_ble_eq_true rfl, ?_⟩
      walk_at "s"
      refine append_at r6 (by unfold szl; omega) ?_
      have hup : Up (st.length + 1) st6 (st6.set st.length (.lst (ds ++ [.tup [stD s, .int (N + T), .ref pn]]))) := Up.set (by omega)
      have ht : (toL b).take (j + 1) = (toL b).take j ++ [s] := by rw [List.take_add_one, hj]; rfl
      refine hN _ _ ⟨_, some (stD s), some (.tup ((blks s).map blD)), some (.int (N + T)), some (.ref pn), y7, y8, y9, rdL_set r6, by rw [List.length_append, k2]; rfl, ?_, Grw.setN (k4.trans j3) (Nat.le_refl _), ?_⟩
      · rw [ht, ← hT]
        subst hT
        exact (k3.mono (fun _ _ _ h => Pl.mono (Nat.le_refl _) ((Grw.up j3).trans hup) h) (Nat.le_refl _) ((Grw.up j3).trans hup)).snoc (by omega) (hup _ _ (by omega) j1) (j2.mono fun _ _ _ h => Pl.mono (Nat.le_refl _) hup h)
      · rw [f1, tp_app, hT, preS_eq, tp_cons, ← Int.add_assoc, ← Int.add_assoc]
    · subst e1
      refine ⟨hg _ k4, ?_⟩
      rw [List.take_length] at k3 ⊢
      walk_at "r"
      rw [← pre_flat]
      refine ⟨Nat.le_of_ble_eq_true rfl, ?_⟩
      exact q _ _ (Nat.le_refl _) ⟨ds, Nat.le_refl _, k1, k3.mono (fun _ _ _ h => Pl.mono (by omega) (fun _ _ _ h => h) h) (by omega) (fun _ _ _ h => h)⟩ k4
end Pk52
end PartPdk52P8

section PartPdk52P9
set_option Elab.async false
set_option linter.all false
set_option maxRecDepth 100000
set_option maxHeartbeats 2000000
/-! k52, ninth text: the numbers of the whiles. Own work. -/
namespace Pk52
open PySem Pd
local macro_rules | `(tactic| walk_at "s") => `(tactic| (repeat (refine Red.red ?_)))
local macro_rules | `(tactic| walk_at "r") => `(tactic| (repeat (first | refine Red.red ?_ | refine Nxt.mk ?_)))
local macro_rules | `(tactic| walk_at "t") => `(tactic| (repeat (first | refine Red.red ?_ | refine Nxt.mk ?_ | refine ⟨by decide +kernel, by decide +kernel, wayF (by decide +kernel) ?_⟩ | refine ⟨by decide +kernel, by decide +kernel, wayT (by decide +kernel) ?_⟩ | refine ⟨by decide +kernel, ?_⟩ | refine ⟨Nat.le_of_ble_eq_true rfl, ?_⟩ | refine at_is rfl ?_)))
local instance inTup9 {x : D} {xs : List D} {st : Store} {r : Bool → Prop} : Red (inC x (.tup xs) st r) (x.flat = true ∧ xs.all D.flat = true ∧ r (xs.any fun y => D.eqb y x)) := ⟨id⟩
variable {k m n : Nat} {st st' : Store} {Q : K}
local instance notinTup9 {x : D} {xs : List D} {st : Store} {r : Bool → Prop} : Red (notinC x (.tup xs) st r) (x.flat = true ∧ xs.all D.flat = true ∧ r (!(xs.any fun y => D.eqb y x))) := ⟨id⟩
variable {W : List (Str × Int)} {kn : Nat}
def wh1 (N : Int) : St → List Int
  | .wh e b => [N + (looks (.wh e b) : Int)]
  | _ => []
def whN : List St → Int → List Int
  | [], _ => []
  | s :: r, N => wh1 N s ++ whN r (N + own s)
theorem whN_app : ∀ (l l' : List St) (N : Int), whN (l ++ l') N = whN l N ++ whN l' (N + tp l)
  | [], l', N => by rw [tp_nil, Int.add_zero]; rfl
  | s :: l, l', N => by rw [List.cons_append, whN, whN, whN_app l l', tp_cons, List.append_assoc, Int.add_assoc]
theorem whN_len : ∀ (l : List St) (N : Int), (whN l N).length ≤ l.length
  | [], _ => by simp [whN]
  | s :: l, N => by
    have := whN_len l (N + own s)
    have h1 : (wh1 N s).length ≤ 1 := by cases s <;> simp [wh1]
    rw [whN, List.length_append, List.length_cons]
    omega
theorem looks_wh (e : Ex) (b : Bl) : looks (.wh e b) = cnt e := by simp [looks, exs]
theorem pos_of {a b : Nat} : a = b → a ≤ b := fun h => h ▸ Nat.le_refl _
def WhOk (W : List (Str × Int)) (d : Nat) : Prop := ∀ ⦃b : Bl⦄ ⦃n lo : Nat⦄ ⦃N : Int⦄ ⦃m : Nat⦄ ⦃st : Store⦄ ⦃Q : K⦄, Pl st lo d b n N → SoB W b → d + 10 ≤ m → (pre b).length ≤ 1000 → (∀ k st', st.length ≤ k → rdL st' k ((whN (pre b) N).map D.int) → Grw st st' → Q (.ref k) st') → callN prog m "_law_whiles" [.ref n] st Q
theorem whiles_ok : ∀ d : Nat, WhOk W d := by
  intro d
  induction d with
  | zero => intro b n lo N m st Q h; cases h
  | succ d ih =>
    intro b n lo N m st Q hP hS hm hl q
    obtain ⟨m, rfl⟩ : ∃ n, m = n + 1 := ⟨m - 1, by omega⟩
    obtain ⟨ds, _, hds, hR⟩ := hP
    refine call_intro rfl rfl ?_
    unfold b_l_whiles
    have hn := rdL_lt hds
    walk_at "s"
    refine ⟨Nat.le_of_ble_eq_true rfl, ?_⟩
    walk_at "s"
    refine Nxt.mk ?_
    walk_at "s"
    refine it_at (rdL_app hds) ?_
    refine for_by (fun pr σ st' => ∃ l1 l2 ds2 y2 y3, toL b = l1 ++ l2 ∧ ds = pr ++ ds2 ∧ Rows (Pl st lo d) st lo l2 ds2 (N + tp (l1.flatMap preS)) ∧ rdL st' st.length ((whN (l1.flatMap preS) N).map D.int) ∧ Grw st st' ∧ σ = [some (.ref n), some (.ref st.length), y2, y3]) ⟨[], toL b, ds, _, _, rfl, rfl, by rw [show N + tp (([] : List St).flatMap preS) = N from by simp [tp_nil]]; exact hR, rdL_new, (Grw.refl st).app, rfl⟩ (fun pr x post σ st' hit ⟨l1, l2, ds2, y2, y3, k1, k2, k3, k4, k5, e1⟩ N1 hN => ?_) (fun σ st' ⟨l1, l2, ds2, y2, y3, k1, k2, k3, k4, k5, e1⟩ => ?_)
    · subst e1
      refine ⟨.inl (k5.rd hds), ?_⟩
      have e2 : ds2 = x :: post := List.append_cancel_left (k2.symm.trans hit)
      subst e2
      cases l2 with
      | nil => cases k3
      | cons s l2 =>
        obtain ⟨pn, ps, ds', e3, _, hps, hB, hR'⟩ := k3
        cases e3
        have hsm : s ∈ toL b := by rw [k1]; simp
        have hSs := so_toL hS hsm
        have hpb : (pre b).length = (l1.flatMap preS).length + ((preS s).length + (l2.flatMap preS).length) := by
          rw [pre_flat, k1, List.flatMap_append, List.flatMap_cons, List.length_append, List.length_append]
        have hpe := preS_eq s
        generalize hA : l1.flatMap preS = A at *
        have hal := whN_len A N
        -- its own number
        show sSeq _ _ _ [some (.ref n), some (.ref st.length), some (.tup [stD s, .int (N + tp A), .ref pn]), y3] st'
        refine seq_J (fun σ st2 => ∃ y3, rdL st2 st.length ((whN A N ++ wh1 (N + tp A) s).map D.int) ∧ Grw st st2 ∧ σ = [some (.ref n), some (.ref st.length), some (.tup [stD s, .int (N + tp A), .ref pn]), y3]) (fun N2 hN2 => ?_) (fun σ st2 ⟨y3, j1, j2, e1⟩ => ?_)
        · have no : wh1 (N + tp A) s = [] → N2 [some (.ref n), some (.ref st.length), some (.tup [stD s, .int (N + tp A), .ref pn]), y3] st' := fun e => hN2 _ _ ⟨y3, by rw [e, List.append_nil]; exact k4, k5, rfl⟩
          cases s with
          | lt p e => unfold stD at no ⊢; walk_at "t"; exact no rfl
          | rs n => unfold stD at no ⊢; walk_at "t"; exact no rfl
          | rt e => unfold stD at no ⊢; walk_at "t"; exact no rfl
          | mk v r => unfold stD at no ⊢; walk_at "t"; exact no rfl
          | asr e => unfold stD at no ⊢; walk_at "t"; exact no rfl
          | ifs e a b => unfold stD at no ⊢; walk_at "t"; exact no rfl
          | tr a n b => unfold stD at no ⊢; walk_at "t"; exact no rfl
          | wh e c =>
            have hx : Xd e := so_exs hSs e (by simp [exs])
            have hx2 := hx.2
            rw [show stD (.wh e c) = .tup [.str "while", exD e, .tup (blL c)] from rfl] at *
            walk_at "t"
            refine ⟨ty_at k4, ?_⟩
            walk_at "t"
            refine count_ok (dep e + 1) (wk_ex hx.1 (Nat.le_refl _)) (by omega) (by omega) fun st3 g3 => ?_
            rw [wc_ex hx.1]
            walk_at "s"
            have r3 := g3.rd k4
            refine append_at r3 (by rw [List.length_map]; unfold szl; omega) ?_
            refine hN2 _ _ ⟨_, ?_, Grw.setN (k5.trans g3) (Nat.le_refl _), rfl⟩
            rw [List.map_append, wh1, looks_wh]
            exact rdL_set r3
        · subst e1
          walk_at "t"
          refine it_at (j2.rd hps) ?_
          have hN' : whN (A ++ preS s) N = whN A N ++ (wh1 (N + tp A) s ++ whN ((blks s).flatMap pre) (N + tp A + own s)) := by
            rw [whN_app, hpe, whN]
          refine for_by (fun pr σ st' => ∃ b1 b2 ps2 y3, blks s = b1 ++ b2 ∧ ps = pr ++ ps2 ∧ Blk (Pl st lo d) b2 ps2 (N + tp A + own s + tp (b1.flatMap pre)) ∧ rdL st' st.length ((whN A N ++ (wh1 (N + tp A) s ++ whN (b1.flatMap pre) (N + tp A + own s))).map D.int) ∧ Grw st st' ∧ σ = [some (.ref n), some (.ref st.length), some (.tup [stD s, .int (N + tp A), .ref pn]), y3]) ⟨[], blks s, ps, _, rfl, rfl, by rw [show N + tp A + own s + tp (([] : List Bl).flatMap pre) = N + tp A + own s from by simp [tp_nil]]; exact hB, by simpa [whN] using j1, j2, rfl⟩ (fun pr x post σ st' hit ⟨b1, b2, ps2, y3, i1, i2, i3, i4, i5, e1⟩ N3 hN3 => ?_) (fun σ st' ⟨b1, b2, ps2, y3, i1, i2, i3, i4, i5, e1⟩ => ?_)
          · subst e1
            refine ⟨.inl (i5.rd hps), ?_⟩
            have e2 : ps2 = x :: post := List.append_cancel_left (i2.symm.trans hit)
            subst e2
            cases b2 with
            | nil => cases i3
            | cons c b2 =>
              obtain ⟨nc, ps', e3, hPc, hB'⟩ := i3
              cases e3
              have hc : c ∈ blks s := by rw [i1]; simp
              have hlc : (preS s).length = 1 + ((b1.flatMap pre).length + ((pre c).length + (b2.flatMap pre).length)) := by
                rw [hpe, i1, List.flatMap_append, List.flatMap_cons, List.length_cons, List.length_append, List.length_append]
                omega
              have hi := rdL_lt i4
              walk_at "s"
              refine ⟨ty_at i4, ?_⟩
              walk_at "s"
              refine ih (hPc.mono (Nat.le_refl _) (Grw.up i5)) (so_blks hSs hc) (by omega) (by omega) fun k st3 hk r3 g3 => ?_
              have r4 := g3.rd i4
              have w1 := whN_len (b1.flatMap pre) (N + tp A + own s)
              have w2 := whN_len (pre c) (N + tp A + own s + tp (b1.flatMap pre))
              have w3 : (wh1 (N + tp A) s).length ≤ 1 := by cases s <;> simp [wh1]
              walk_at "s"
              refine extendLL_at r4 r3 (by omega) (by rw [List.length_map, List.length_map, List.length_append, List.length_append]; unfold szl; omega) ?_
              refine hN3 _ _ ⟨b1 ++ [c], b2, post, some (.ref nc), by rw [i1]; simp, by rw [i2]; simp, ?_, ?_, Grw.setN (i5.trans g3) (Nat.le_refl _), rfl⟩
              · rw [List.flatMap_append, tp_app, ← Int.add_assoc]
                simpa using hB'
              · have e5 : (b1 ++ [c]).flatMap pre = b1.flatMap pre ++ pre c := by simp
                have e8 : (whN A N ++ (wh1 (N + tp A) s ++ whN ((b1 ++ [c]).flatMap pre) (N + tp A + own s))).map D.int = (whN A N ++ (wh1 (N + tp A) s ++ whN (b1.flatMap pre) (N + tp A + own s))).map D.int ++ (whN (pre c) (N + tp A + own s + tp (b1.flatMap pre))).map D.int := by
                  rw [e5, whN_app, ← List.map_append]
                  simp only [List.append_assoc]
                rw [e8]
                exact rdL_set r4
          · subst e1
            refine ⟨.inl (i5.rd hps), ?_⟩
            have e6 : ps2 = [] := List.append_cancel_left (i2.symm.trans (List.append_nil ps).symm)
            subst e6
            have e7 : b2 = [] := by
              cases b2 with
              | nil => rfl
              | cons c b2 =>
                obtain ⟨_, _, e, _⟩ := i3
                cases e
            subst e7
            rw [List.append_nil] at i1
            rw [← i1, ← hN'] at i4
            refine hN _ _ ⟨l1 ++ [s], l2, post, some (.tup [stD s, .int (N + tp A), .ref pn]), y3, by rw [k1]; simp, by rw [k2]; simp, ?_, ?_, i5, rfl⟩
            · rw [List.flatMap_append, hA, tp_app, ← Int.add_assoc]
              simpa using hR'
            · rw [List.flatMap_append, hA]
              simpa using i4
    · subst e1
      refine ⟨.inl (k5.rd hds), ?_⟩
      have e6 : ds2 = [] := List.append_cancel_left (k2.symm.trans (List.append_nil ds).symm)
      subst e6
      have e7 : l2 = [] := by
        cases l2 with
        | nil => rfl
        | cons c b2 =>
          obtain ⟨_, _, _, e, _⟩ := k3
          cases e
      subst e7
      rw [List.append_nil] at k1
      rw [← k1, ← pre_flat] at k4
      walk_at "r"
      exact q _ _ (Nat.le_refl _) k4 k5
end Pk52
end PartPdk52P9

section PartPdk52P10
set_option Elab.async false
set_option linter.all false
set_option maxRecDepth 100000
set_option maxHeartbeats 2000000
/-! k52, tenth text: drawing. Own work. -/
namespace Pk52
open PySem Pd
local macro_rules | `(tactic| walk_at "s") => `(tactic| (repeat (refine Red.red ?_)))
local macro_rules | `(tactic| walk_at "r") => `(tactic| (repeat (first | refine Red.red ?_ | refine Nxt.mk ?_)))
local macro_rules | `(tactic| walk_at "t") => `(tactic| (repeat (first | refine Red.red ?_ | refine Nxt.mk ?_ | refine ⟨by decide +kernel, by decide +kernel, wayF (by decide +kernel) ?_⟩ | refine ⟨by decide +kernel, by decide +kernel, wayT (by decide +kernel) ?_⟩ | refine ⟨by decide +kernel, ?_⟩ | refine ⟨Nat.le_of_ble_eq_true rfl, ?_⟩ | refine at_is rfl ?_)))
local instance inTup10 {x : D} {xs : List D} {st : Store} {r : Bool → Prop} : Red (inC x (.tup xs) st r) (x.flat = true ∧ xs.all D.flat = true ∧ r (xs.any fun y => D.eqb y x)) := ⟨id⟩
variable {k m n : Nat} {st st' : Store} {Q : K}
local instance notinTup10 {x : D} {xs : List D} {st : Store} {r : Bool → Prop} : Red (notinC x (.tup xs) st r) (x.flat = true ∧ xs.all D.flat = true ∧ r (!(xs.any fun y => D.eqb y x))) := ⟨id⟩
variable {W : List (Str × Int)} {kn : Nat}
/-! drawing -/
theorem drawM (hm : 1 ≤ m) {many : Int} (h : DrawAt st) (h0 : 0 < many) (h1 : many < 1073741824) (q : ∀ r st', 0 ≤ r → r < many → Fra st st' → Q (.int r) st') : callN prog m "_law_draw" [.ref 2, .int many] st Q := by
  obtain ⟨m, rfl⟩ : ∃ n, m = n + 1 := ⟨m - 1, by omega⟩
  exact draw_ok rfl h h0 h1 fun r st' r0 r1 f _ => q r st' r0 r1 f
theorem pw_bd {w : Int} (w0 : 0 ≤ w) (w1 : w ≤ 8) : 1 ≤ (2 : Int) ^ w.toNat ∧ (2 : Int) ^ w.toNat ≤ 256 := by
  obtain ⟨n, rfl⟩ := Int.eq_ofNat_of_zero_le w0
  rw [Int.toNat_natCast]
  have : n ≤ 8 := by omega
  rcases n with _ | _ | _ | _ | _ | _ | _ | _ | _ | n <;> first | decide | omega
/-- draw(1 << w) behind the shift -/
theorem drawW (hm : 1 ≤ m) {w : Int} (w0 : 1 ≤ w) (w1 : w ≤ 8) (h : DrawAt st) (q : ∀ r st', Fra st st' → Q (.int r) st') : shlK (.int 1) (.int w) st fun x st1 => aNil [] st1 fun xs st2 => callN prog m "_law_draw" (.ref 2 :: x :: xs) st2 Q := by
  refine ⟨cpow_small (by omega) (by omega), ?_⟩
  have hp := pw_bd (w := w) (by omega) w1
  show callN prog m "_law_draw" [.ref 2, .int (1 * 2 ^ w.toNat)] st Q
  rw [Int.one_mul]
  exact drawM hm h (by omega) (by omega) fun r st' _ _ f => q r st' f
theorem pickF {α : Type} {f : α → D} {xs : List α} (hm : 2 ≤ m) (hd : DrawAt st) (h : rdL st n (xs.map f)) (hn : n ≠ 2) (h0 : 0 < xs.length) (h1 : xs.length ≤ 1000) (q : ∀ x st', x ∈ xs → Fra st st' → Q (f x) st') : callN prog m "_law_pick" [.ref 2, .ref n] st Q := by
  obtain ⟨m, rfl⟩ : ∃ n, m = n + 2 := ⟨m - 2, by omega⟩
  refine pick_ok rfl rfl hd h hn (by simpa using h0) (by simp; omega) fun x st' hx f _ => ?_
  obtain ⟨a, ha, rfl⟩ := List.mem_map.mp hx
  exact q a st' ha f
theorem pickNewF {α : Type} {f : α → D} (xs : List α) (hm : 2 ≤ m) (hd : DrawAt st) (h0 : 0 < xs.length) (h1 : xs.length ≤ 1000) {ds : List D} (hds : ds = xs.map f) (q : ∀ x st', x ∈ xs → Fra st st' → Q (f x) st') : callN prog m "_law_pick" [.ref 2, .ref st.length] (st ++ [.lst ds]) Q := by
  subst hds
  have d2 := hd.lt
  have f1 := (Fra.refl hd).app (c := C.lst (xs.map f))
  exact pickF hm f1.dr rdL_new (by omega) h0 h1 fun x st' hx f => q x st' hx (f1.trans f)
theorem shufF {α : Type} {f : α → D} {xs : List α} (g : D → α) (hf : ∀ a, g (f a) = a) (hm : 2 ≤ m) (hd : DrawAt st) (h : rdL st n (xs.map f)) (hn : 2 < n) (h1 : xs.length ≤ 1000) (q : ∀ k (ys : List α) st', ys.Perm xs → st.length ≤ k → rdL st' k (ys.map f) → Fra st st' → Q (.ref k) st') : callN prog m "_law_shuffled" [.ref 2, .ref n] st Q := by
  obtain ⟨m, rfl⟩ : ∃ n, m = n + 2 := ⟨m - 2, by omega⟩
  refine shuffled_ok rfl rfl hd h hn (by simp; omega) fun k ds st' hp hk hr fr => ?_
  have e1 : (xs.map f).map g = xs := by rw [List.map_map]; exact (List.map_congr_left fun a _ => hf a).trans (List.map_id xs)
  have e2 : (ds.map g).map f = ds := by
    rw [List.map_map]
    refine (List.map_congr_left (g := id) fun d hd => ?_).trans (List.map_id ds)
    obtain ⟨a, _, rfl⟩ := List.mem_map.mp (hp.subset hd)
    exact congrArg f (hf a)
  have hp' := hp.map g
  rw [e1] at hp'
  exact q k (ds.map g) st' hp' hk (by rw [e2]; exact hr) fr
/-! names from the pool -/
structure PoolIs (st : Store) (pn : Nat) (pl : List Str) : Prop where
  cell : rdL st pn (pl.map D.str)
  nd : pl.Nodup
  fine : ∀ s ∈ pl, okS s = true ∧ hdK (.str s) = 0
  few : pl.length ≤ 1000
  big : 2 < pn
variable {pn : Nat} {pl : List Str}
theorem map_erase {α β : Type} (f : α → β) : ∀ (l : List α) (i : Nat), (l.map f).eraseIdx i = (l.eraseIdx i).map f
  | [], _ => rfl
  | x :: l, 0 => rfl
  | x :: l, i + 1 => by simp [map_erase f l i]
theorem PoolIs.fra (h : PoolIs st pn pl) (f : Fra st st') : PoolIs st' pn pl := ⟨f.rd h.cell (by have := h.big; omega), h.nd, h.fine, h.few, h.big⟩
theorem popM (hm : 2 ≤ m) (hd : DrawAt st) (hp : PoolIs st pn pl) (h0 : 0 < pl.length) (q : ∀ s pl' st', PoolIs st' pn pl' → pl.length = pl'.length + 1 → s ∉ pl' → s ∈ pl → (∀ x ∈ pl', x ∈ pl) → FraE pn st st' → Q (.str s) st') : callN prog m "_law_pop" [.ref 2, .ref pn] st Q := by
  obtain ⟨m, rfl⟩ : ∃ n, m = n + 2 := ⟨m - 2, by omega⟩
  have few := hp.few
  refine pop_ok rfl rfl hd hp.cell hp.big (by simpa using h0) (by simp; omega) fun i x st' hx f hr _ => ?_
  rw [List.getElem?_map] at hx
  cases hy : pl[i]? with
  | none => rw [hy] at hx; cases hx
  | some s =>
    rw [hy] at hx
    cases hx
    have pm := perm_erase hy
    have nd := pm.nodup_iff.mpr hp.nd
    rw [List.nodup_cons] at nd
    have hl := pm.length_eq
    have hs : ∀ x ∈ pl.eraseIdx i, x ∈ pl := fun x hx => pm.subset (List.mem_cons_of_mem _ hx)
    rw [map_erase] at hr
    exact q s _ st' ⟨hr, nd.2, fun x hx => hp.fine x (hs x hx), by simp at hl; omega, hp.big⟩ (by simpa using hl.symm) nd.1 (List.mem_of_getElem? hy) hs f
/-- what was popped is new: names so far -/
structure Got (pl : List Str) (ns pl' : List Str) : Prop where
  nd : ns.Nodup
  out : ∀ s ∈ ns, s ∉ pl'
  inn : ∀ s ∈ ns, s ∈ pl
  sub : ∀ s ∈ pl', s ∈ pl
  len : pl.length = pl'.length + ns.length
theorem Got.nil : Got pl [] pl := ⟨List.nodup_nil, by simp, by simp, fun _ h => h, by simp⟩
theorem Got.more {ns pl' pl2 : List Str} {s : Str} (h : Got pl ns pl') (hl : pl'.length = pl2.length + 1) (h1 : s ∉ pl2) (h2 : s ∈ pl') (h3 : ∀ x ∈ pl2, x ∈ pl') : Got pl (ns ++ [s]) pl2 := by
  refine ⟨?_, fun x hx => ?_, fun x hx => ?_, fun x hx => h.sub x (h3 x hx), by rw [List.length_append, h.len, hl]; simp; omega⟩
  · rw [List.nodup_append]
    refine ⟨h.nd, by simp, fun a ha b hb => ?_⟩
    simp at hb
    subst hb
    intro e
    subst e
    exact h.out a ha h2
  · rcases List.mem_append.mp hx with hx | hx
    · exact fun h' => h.out x hx (h3 x h')
    · simp at hx
      subst hx
      exact h1
  · rcases List.mem_append.mp hx with hx | hx
    · exact h.inn x hx
    · simp at hx
      subst hx
      exact h.sub x h2
theorem Got.trans {a b pl' pl2 : List Str} (h : Got pl a pl') (h' : Got pl' b pl2) : Got pl (a ++ b) pl2 := by
  refine ⟨?_, fun x hx => ?_, fun x hx => ?_, fun x hx => h.sub x (h'.sub x hx), by rw [List.length_append, h.len, h'.len]; omega⟩
  · rw [List.nodup_append]
    exact ⟨h.nd, h'.nd, fun x hx y hy e => h.out x hx (e ▸ h'.inn y hy)⟩
  · rcases List.mem_append.mp hx with hx | hx
    · exact fun k => h.out x hx (h'.sub x k)
    · exact h'.out x hx
  · rcases List.mem_append.mp hx with hx | hx
    · exact h.inn x hx
    · exact h.sub x (h'.inn x hx)
theorem lc_pops {gd : Store → Prop} {g : TG} {te : TE} {ρ : Pd.Env} {items : List D} (hd : DrawAt st) (hp : PoolIs st pn pl) (hl : items.length ≤ pl.length) (hg : ∀ st', gd st')
    (hs : ∀ x ∈ items, ∀ st' pl', DrawAt st' → PoolIs st' pn pl' → 0 < pl'.length → ∀ N : D → Store → Prop, (∀ s st2 pl2, PoolIs st2 pn pl2 → pl'.length = pl2.length + 1 → s ∉ pl2 → s ∈ pl' → (∀ y ∈ pl2, y ∈ pl') → FraE pn st' st2 → N (.str s) st2) → g x ρ st' fun ρ2 st2 => te ρ2 st2 N)
    (hQ : ∀ (ps : List Str) st' pl', ps.length = items.length → Got pl ps pl' → PoolIs st' pn pl' → FraE pn st st' → rdL st' st.length (ps.map D.str) → Q (.ref st.length) st') : lcLoop gd g tYes te ρ st.length Q items [] (st ++ [.lst []]) := by
  have dl := hd.lt
  have big := hp.big
  have few := hp.few
  have pb := rdL_lt hp.cell
  refine lc_by (fun pre acc st' => ∃ (ps pl' : List Str), acc = ps.map D.str ∧ ps.length = pre.length ∧ Got pl ps pl' ∧ PoolIs st' pn pl' ∧ FraE pn st st' ∧ rdL st' st.length acc) ⟨[], pl, rfl, rfl, Got.nil, hp.fra (Fra.refl hd).app, FraE.of (Fra.refl hd).app, rdL_new⟩ (fun pre x post acc st' e ⟨ps, pl', e1, h1, h2, h3, f, ha⟩ N M hN hM => ?_) (fun acc st' ⟨ps, pl', e1, h1, h2, h3, f, ha⟩ => ?_)
  · subst e1
    refine ⟨hg _, ?_⟩
    have e1 : (fun (ρ2 : Pd.Env) (st2 : Store) => tYes ρ2 st2 fun b st3 => (b = true → te ρ2 st3 N) ∧ (b = false → M st3)) = fun ρ2 st2 => te ρ2 st2 N := by
      funext ρ2 st2
      exact propext ⟨fun q => q.1 rfl, fun q => ⟨fun _ => q, fun e => nomatch e⟩⟩
    rw [e1]
    have hlen := congrArg List.length e
    simp at hlen
    have hlg := h2.len
    refine hs x (by rw [e]; simp) st' pl' f.dr h3 (by omega) N fun s st2 pl2 hp2 hl2 hn2 hi2 hs2 f2 => ?_
    have ha2 := f2.rd ha (by omega) (by omega)
    refine hN _ _ ha2 (by simp [szl]; omega) ⟨ps ++ [s], pl2, by simp, by simp [h1], h2.more hl2 hn2 hi2 hs2, ⟨rdL_ne hp2.cell (by omega), hp2.nd, hp2.fine, hp2.few, hp2.big⟩, (f.trans f2).setN (Nat.le_refl _) (by omega), rdL_set ha2⟩
  · subst e1
    exact ⟨hg _, ha, hQ ps st' pl' h1 h2 h3 f ha⟩
end Pk52
end PartPdk52P10

section PartPdk52P11
set_option Elab.async false
set_option linter.all false
set_option maxRecDepth 100000
set_option maxHeartbeats 2000000
/-! k52, eleventh text: statements at random. Own work. -/
namespace Pk52
open PySem Pd
local macro_rules | `(tactic| walk_at "s") => `(tactic| (repeat (refine Red.red ?_)))
local macro_rules | `(tactic| walk_at "r") => `(tactic| (repeat (first | refine Red.red ?_ | refine Nxt.mk ?_)))
local macro_rules | `(tactic| walk_at "t") => `(tactic| (repeat (first | refine Red.red ?_ | refine Nxt.mk ?_ | refine ⟨by decide +kernel, by decide +kernel, wayF (by decide +kernel) ?_⟩ | refine ⟨by decide +kernel, by decide +kernel, wayT (by decide +kernel) ?_⟩ | refine ⟨by decide +kernel, ?_⟩ | refine ⟨Nat.le_of_ble_eq_true rfl, ?_⟩ | refine at_is rfl ?_)))
local instance inTup11 {x : D} {xs : List D} {st : Store} {r : Bool → Prop} : Red (inC x (.tup xs) st r) (x.flat = true ∧ xs.all D.flat = true ∧ r (xs.any fun y => D.eqb y x)) := ⟨id⟩
variable {k m n : Nat} {st st' : Store} {Q : K}
local instance notinTup11 {x : D} {xs : List D} {st : Store} {r : Bool → Prop} : Red (notinC x (.tup xs) st r) (x.flat = true ∧ xs.all D.flat = true ∧ r (!(xs.any fun y => D.eqb y x))) := ⟨id⟩
variable {W : List (Str × Int)} {kn : Nat}
/-- what stands round a body -/
structure En where
  (gn rn n0 n1 : Nat)
  (w0 w1 : Int)
  (a0 a1 : List Str)
  (ar : Str)
  (al : Int)
  (r0 r1 ca rc : Str)
  (rw : Int)
def gw (e : En) (b : Bool) : Int := if b then e.w1 else e.w0
def ga (e : En) (b : Bool) : List Str := if b then e.a1 else e.a0
def gc (e : En) (b : Bool) : Nat := if b then e.n1 else e.n0
abbrev gD (e : En) (b : Bool) : D := .tup [.int (gw e b), .ref (gc e b)]
def WE (e : En) : List (Str × Int) := e.a0.map (fun x => (x, e.w0)) ++ e.a1.map fun x => (x, e.w1)
structure EnF (e : En) : Prop where
  w0 : 1 ≤ e.w0 ∧ e.w0 ≤ 8
  w1 : 1 ≤ e.w1 ∧ e.w1 ≤ 8
  rw : 1 ≤ e.rw ∧ e.rw ≤ 8
  l0 : e.a0.length = 4
  l1 : e.a1.length = 3
  nd : (e.a0 ++ (e.a1 ++ [e.ar, e.r0, e.r1])).Nodup
  ok : ∀ s ∈ e.a0 ++ (e.a1 ++ [e.ar, e.r0, e.r1]), okS s = true
  oc : okS e.ca = true
  orc : okS e.rc = true
  ca : hdK (.str e.ca) = 0
structure EnAt (st : Store) (en : Nat) (e : En) : Prop where
  c : rdL st en [.ref e.gn, .tup [.str e.ar, .int e.w0, .int e.al], .ref e.rn, .str e.ca, .str e.rc, .int e.rw]
  g : rdL st e.gn ([false, true].map (gD e))
  a : ∀ b, rdL st (gc e b) ((ga e b).map D.str)
  r : rdL st e.rn [.str e.r0, .str e.r1]
  be : 2 < en
  bg : 2 < e.gn
  ba : ∀ b, 2 < gc e b
  br : 2 < e.rn
variable {en : Nat} {e : En}
theorem EnAt.fra (h : EnAt st en e) (f : Fra st st') : EnAt st' en e :=
  have h1 := h.be
  have h2 := h.bg
  have h3 := h.br
  ⟨f.rd h.c (by omega), f.rd h.g (by omega), fun b => f.rd (h.a b) (by have := h.ba b; omega), f.rd h.r (by omega), h1, h2, h.ba, h3⟩
theorem EnF.wid (F : EnF e) (b : Bool) : 1 ≤ gw e b ∧ gw e b ≤ 8 := by cases b; exact F.w0; exact F.w1
theorem EnF.gl (F : EnF e) (b : Bool) : 3 ≤ (ga e b).length ∧ (ga e b).length ≤ 4 := by
  have h1 := F.l0
  have h2 := F.l1
  cases b
  · exact ⟨by show 3 ≤ e.a0.length; omega, by show e.a0.length ≤ 4; omega⟩
  · exact ⟨by show 3 ≤ e.a1.length; omega, by show e.a1.length ≤ 4; omega⟩
theorem EnF.gok (F : EnF e) (b : Bool) : ∀ s ∈ ga e b, okS s = true := fun s hs => by
  refine F.ok s ?_
  cases b
  · exact List.mem_append_left _ hs
  · exact List.mem_append_right _ (List.mem_append_left _ hs)
theorem EnF.gW (b : Bool) {s : Str} (hs : s ∈ ga e b) : (s, gw e b) ∈ WE e := by
  unfold WE
  cases b
  · exact List.mem_append_left _ (List.mem_map.mpr ⟨s, hs, rfl⟩)
  · exact List.mem_append_right _ (List.mem_map.mpr ⟨s, hs, rfl⟩)
theorem EnF.gnd (F : EnF e) (b : Bool) : (ga e b).Nodup := by
  have := F.nd
  rw [List.nodup_append, List.nodup_append] at this
  cases b
  · exact this.1
  · exact this.2.1.1
theorem EnF.apart (F : EnF e) {x : Str} (h0 : x ∈ e.a0) (h1 : x ∈ e.a1) : False := by
  have := F.nd
  rw [List.nodup_append] at this
  exact this.2.2 x h0 x (List.mem_append_left _ h1) rfl
theorem EnF.refs (F : EnF e) {b : Bool} {x : Str} (hx : x ∈ ga e b) : x ≠ e.r0 ∧ x ≠ e.r1 ∧ x ≠ e.ar := by
  have := F.nd
  rw [List.nodup_append, List.nodup_append] at this
  cases b
  · refine ⟨this.2.2 x hx _ (by simp), this.2.2 x hx _ (by simp), this.2.2 x hx _ (by simp)⟩
  · refine ⟨this.2.1.2.2 x hx _ (by simp), this.2.1.2.2 x hx _ (by simp), this.2.1.2.2 x hx _ (by simp)⟩
theorem EnF.o3 (F : EnF e) : okS e.ar = true ∧ okS e.r0 = true ∧ okS e.r1 = true := ⟨F.ok _ (by simp), F.ok _ (by simp), F.ok _ (by simp)⟩
theorem index_ok (hm : 3 ≤ m) (hd : DrawAt st) (q : ∀ v w st', Fra st st' → Q (exD (.word v w)) st') : callN prog m "_law_index" [.ref 2] st Q := by
  obtain ⟨m, rfl⟩ : ∃ n, m = n + 1 := ⟨m - 1, by omega⟩
  refine call_intro rfl rfl ?_
  unfold b_l_index
  walk_at "s"
  refine drawM (by omega) hd (by decide) (by decide) fun r st1 r0 r1 f1 => ?_
  walk_at "r"
  refine drawW (by omega) (by omega) (by omega) f1.dr fun v st2 f2 => ?_
  walk_at "t"
  exact q _ _ _ (f1.trans f2)
theorem test_ok (hm : 3 ≤ m) (hd : DrawAt st) (hE : EnAt st en e) (F : EnF e) (q : ∀ x st', Xd x → Fra st st' → Q (exD x) st') : callN prog m "_law_some_test" [.ref 2, .ref en] st Q := by
  obtain ⟨m, rfl⟩ : ∃ n, m = n + 1 := ⟨m - 1, by omega⟩
  refine call_intro rfl rfl ?_
  unfold b_l_some_test
  walk_at "s"
  refine ix_at hE.c rfl ?_
  walk_at "s"
  refine pickF (f := gD e) (by omega) hd hE.g (by have := hE.bg; omega) (by simp) (by simp) fun b st1 _ f1 => ?_
  walk_at "s"
  refine ⟨rfl, ?_⟩
  walk_at "r"
  have hE1 := hE.fra f1
  have gl := F.gl b
  have gwb := F.wid b
  refine pickF (f := D.str) (by omega) f1.dr (hE1.a b) (by have := hE.ba b; omega) (by omega) (by omega) fun x st2 hx f2 => ?_
  have okx := F.gok b x hx
  walk_at "t"
  refine drawW (by omega) gwb.1 gwb.2 f2.dr fun v st3 f3 => ?_
  walk_at "t"
  have f13 := (f1.trans f2).trans f3
  refine drawM (by omega) f3.dr (by decide) (by decide) fun r st4 r0 r1 f4 => ?_
  have f14 := f13.trans f4
  walk_at "s"
  have fin : ∀ (l : Ex) st5, Xo l → dep l ≤ 1 → Fra st st5 → sRet (dTup (aCons (dCall (callN prog m) "_law_pick" (aCons (dVar 0) (aCons (dLst (aCons (dC (.str "==")) (aCons (dC (.str "<")) (aCons (dC (.str "<=")) (aCons (dC (.str "!=")) (aNil)))))) (aNil)))) (aCons (dVar 4) (aCons (dVar 5) (aNil))))) { nx := fun x st' => Q D.non st', rt := Q } [some (.ref 2), some (.ref en), some (.int (gw e b)), some (.ref (gc e b)), some (exD l), some (exD (.word v (gw e b)))] st5 := by
    intro l st5 hl hdl f5
    walk_at "s"
    refine ⟨Nat.le_of_ble_eq_true rfl, ?_⟩
    walk_at "s"
    refine pickNewF (f := fun o => D.str (opS o)) [.eq, .lt, .le, .ne] (by omega) f5.dr (by simp) (by simp) rfl fun o st6 ho f6 => ?_
    walk_at "t"
    refine q (.bin o l (.word v (gw e b))) _ ⟨⟨?_, hl, trivial⟩, by simp only [dep]; omega⟩ (f5.trans f6)
    simp at ho
    rcases ho with rfl | rfl | rfl | rfl <;> rfl
  refine way (fun h => ?_) (fun h => ?_)
  · walk_at "s"
    refine ⟨Nat.le_of_ble_eq_true rfl, ?_⟩
    walk_at "s"
    refine pickNewF (f := fun o => D.str (opS o)) [.div, .rem] (by omega) f4.dr (by simp) (by simp) rfl fun o st5 ho f5 => ?_
    walk_at "s"
    refine ⟨Nat.le_of_ble_eq_true rfl, ?_⟩
    refine Nxt.mk ?_
    refine fin (.bin o (.name x) (.word v (gw e b))) _ ⟨?_, okx, trivial⟩ (by simp only [dep]; omega) (f14.trans f5)
    simp at ho
    rcases ho with rfl | rfl <;> rfl
  · refine Nxt.mk ?_
    exact fin (.name x) _ okx (by simp only [dep]; omega) f14
structure Oth (W : List (Str × Int)) (s : St) : Prop where
  so : So W s
  dp : bdS s ≤ 1
  one : preS s = [s]
  ch : chg s = none
  nw : ∀ x b, s ≠ .wh x b
theorem add_ok {x : Str} {o : Op} {v w : Int} (hm : 1 ≤ m) (q : Q (stD (.lt (.name x) (.bin o (.name x) (.word v w)))) st) : callN prog m "_law_add" [.str x, .str (opS o), .int v, .int w] st Q := by
  obtain ⟨m, rfl⟩ : ∃ n, m = n + 1 := ⟨m - 1, by omega⟩
  refine call_intro rfl rfl ?_
  unfold b_l_add
  walk_at "t"
  exact q
theorem item_ok (hm : 4 ≤ m) (hd : DrawAt st) (hE : EnAt st en e) (F : EnF e) (q : ∀ s st', Oth W s → Fra st st' → Q (stD s) st') : callN prog m "_law_item_row" [.ref 2, .ref en] st Q := by
  obtain ⟨m, rfl⟩ : ∃ n, m = n + 1 := ⟨m - 1, by omega⟩
  refine call_intro rfl rfl ?_
  unfold b_l_item_row
  walk_at "s"
  refine ix_at hE.c rfl ?_
  walk_at "t"
  refine index_ok (by omega) hd fun v w st1 f1 => ?_
  have hE1 := hE.fra f1
  walk_at "t"
  refine ix_at hE1.c rfl ?_
  walk_at "t"
  refine drawW (by omega) F.w0.1 F.w0.2 f1.dr fun v2 st2 f2 => ?_
  have hE2 := hE1.fra f2
  walk_at "s"
  refine ix_at hE2.c rfl ?_
  walk_at "t"
  have o1 := F.o3.1
  refine q (.lt (.item e.ar (.word v w)) (.bin .add (.item e.ar (.word v w)) (.word v2 e.w0))) _ ⟨?_, by simp only [bdS]; omega, rfl, rfl, fun _ _ h => by cases h⟩ (f1.trans f2)
  rw [So]
  exact ⟨⟨⟨o1, trivial⟩, by simp only [dep]; omega⟩, ⟨⟨rfl, ⟨o1, trivial⟩, trivial⟩, by simp only [dep]; omega⟩, fun x o v w h => by cases h⟩
theorem other_ok (hm : 5 ≤ m) (hd : DrawAt st) (hE : EnAt st en e) (F : EnF e) (q : ∀ s st', Oth W s → Fra st st' → Q (stD s) st') : callN prog m "_law_other_row" [.ref 2, .ref en] st Q := by
  obtain ⟨m, rfl⟩ : ∃ n, m = n + 1 := ⟨m - 1, by omega⟩
  refine call_intro rfl rfl ?_
  unfold b_l_other_row
  obtain ⟨o1, o2, o3⟩ := F.o3
  walk_at "s"
  refine drawM (by omega) hd (by decide) (by decide) fun r st1 r0 r1 f1 => ?_
  have hE1 := hE.fra f1
  walk_at "r"
  refine way (fun h => ?_) (fun h => ?_)
  · walk_at "s"
    refine test_ok (by omega) f1.dr hE1 F fun x st2 hx f2 => ?_
    walk_at "t"
    refine q (.asr x) _ ⟨hx, by simp only [bdS]; omega, rfl, rfl, fun _ _ h => by cases h⟩ (f1.trans f2)
  walk_at "r"
  refine way (fun h => ?_) (fun h => ?_)
  · walk_at "s"
    refine test_ok (by omega) f1.dr hE1 F fun x st2 hx f2 => ?_
    walk_at "t"
    refine q (.ifs x .nil .nil) _ ⟨by rw [So]; exact ⟨hx, trivial, trivial⟩, by simp only [bdS, bd]; omega, by simp [preS, pre], rfl, fun _ _ h => by cases h⟩ (f1.trans f2)
  walk_at "r"
  refine way (fun h => ?_) (fun h => ?_)
  · walk_at "s"
    refine ix_at hE1.c rfl ?_
    walk_at "t"
    refine q (.rs e.ca) _ ⟨F.oc, by simp only [bdS]; omega, rfl, rfl, fun _ _ h => by cases h⟩ f1
  walk_at "r"
  refine way (fun h => ?_) (fun h => ?_)
  · walk_at "s"
    refine ix_at hE1.c rfl ?_
    walk_at "t"
    refine drawW (by omega) F.rw.1 F.rw.2 f1.dr fun v2 st2 f2 => ?_
    have hE2 := hE1.fra f2
    walk_at "s"
    refine ix_at hE2.c rfl ?_
    walk_at "t"
    refine q (.rt (.word v2 e.rw)) _ ⟨⟨trivial, by simp only [dep]; omega⟩, by simp only [bdS]; omega, rfl, rfl, fun _ _ h => by cases h⟩ (f1.trans f2)
  walk_at "r"
  refine way (fun h => ?_) (fun h => ?_)
  · walk_at "s"
    refine ix_at hE1.c rfl ?_
    walk_at "s"
    refine ix_at hE1.r rfl ?_
    walk_at "s"
    refine ix_at hE1.c rfl ?_
    walk_at "t"
    refine q (.mk e.r0 e.rc) _ ⟨⟨o2, F.orc⟩, by simp only [bdS]; omega, rfl, rfl, fun _ _ h => by cases h⟩ f1
  walk_at "r"
  refine way (fun h => ?_) (fun h => ?_)
  · walk_at "s"
    refine ix_at hE1.c rfl ?_
    walk_at "s"
    refine ix_at hE1.r rfl ?_
    walk_at "t"
    refine drawM (by omega) f1.dr (by decide) (by decide) fun r2 st2 r20 r21 f2 => ?_
    have hE2 := hE1.fra f2
    walk_at "s"
    refine way (fun h => ?_) (fun h => ?_)
    · walk_at "s"
      refine ix_at hE2.c rfl ?_
      walk_at "s"
      refine ix_at hE2.r rfl ?_
      walk_at "t"
      refine q (.lt (.name e.r1) (.name e.r0)) _ ⟨?_, by simp only [bdS]; omega, rfl, rfl, fun _ _ h => by cases h⟩ (f1.trans f2)
      rw [So]
      exact ⟨⟨o3, by simp only [dep]; omega⟩, ⟨o2, by simp only [dep]; omega⟩, fun x o v w _ h => by cases h⟩
    · walk_at "t"
      refine q (.lt (.name e.r1) .nul) _ ⟨?_, by simp only [bdS]; omega, rfl, rfl, fun _ _ h => by cases h⟩ (f1.trans f2)
      rw [So]
      exact ⟨⟨o3, by simp only [dep]; omega⟩, ⟨trivial, by simp only [dep]; omega⟩, fun x o v w _ h => by cases h⟩
  walk_at "r"
  refine way (fun h => ?_) (fun h => ?_)
  · walk_at "t"
    refine ix_at hE1.c rfl ?_
    walk_at "t"
    refine q (.tr .nil e.ca .nil) _ ⟨by rw [So]; exact ⟨F.oc, F.ca, trivial, trivial⟩, by simp only [bdS, bd]; omega, by simp [preS, pre], rfl, fun _ _ h => by cases h⟩ f1
  walk_at "r"
  exact item_ok (by omega) f1.dr hE1 F fun s st2 hs f2 => q s st2 hs (f1.trans f2)
end Pk52
end PartPdk52P11

section PartPdk52P12
set_option Elab.async false
set_option linter.all false
set_option maxRecDepth 100000
set_option maxHeartbeats 2000000
/-! k52, twelfth text: what a loop changes. Own work. -/
namespace Pk52
open PySem Pd
local macro_rules | `(tactic| walk_at "s") => `(tactic| (repeat (refine Red.red ?_)))
local macro_rules | `(tactic| walk_at "r") => `(tactic| (repeat (first | refine Red.red ?_ | refine Nxt.mk ?_)))
local macro_rules | `(tactic| walk_at "t") => `(tactic| (repeat (first | refine Red.red ?_ | refine Nxt.mk ?_ | refine ⟨by decide +kernel, by decide +kernel, wayF (by decide +kernel) ?_⟩ | refine ⟨by decide +kernel, by decide +kernel, wayT (by decide +kernel) ?_⟩ | refine ⟨by decide +kernel, ?_⟩ | refine ⟨Nat.le_of_ble_eq_true rfl, ?_⟩ | refine at_is rfl ?_)))
local instance inTup12 {x : D} {xs : List D} {st : Store} {r : Bool → Prop} : Red (inC x (.tup xs) st r) (x.flat = true ∧ xs.all D.flat = true ∧ r (xs.any fun y => D.eqb y x)) := ⟨id⟩
variable {k m n : Nat} {st st' : Store} {Q : K}
local instance notinTup12 {x : D} {xs : List D} {st : Store} {r : Bool → Prop} : Red (notinC x (.tup xs) st r) (x.flat = true ∧ xs.all D.flat = true ∧ r (!(xs.any fun y => D.eqb y x))) := ⟨id⟩
variable {W : List (Str × Int)} {kn : Nat}
variable {en : Nat} {e : En}
abbrev d2 (p : Str × Int) : D := .tup [.str p.1, .int p.2]
def un2 : D → Str × Int
  | .tup [.str x, .int w] => (x, w)
  | _ => ("", 0)
theorem un2_d2 (p : Str × Int) : un2 (d2 p) = p := rfl
def unS : D → Str
  | .str x => x
  | _ => ""
theorem eqbs_len : ∀ {xs ys : List D}, eqbs xs ys = true → xs.length = ys.length
  | [], [], _ => rfl
  | x :: xs, y :: ys, h => by
    simp [eqbs] at h
    simp [eqbs_len h.2]
  | [], y :: ys, h => by cases h
  | x :: xs, [], h => by cases h
theorem okds_str {l : List Str} (h : ∀ s ∈ l, okS s = true) : okds 60 (l.map D.str) = true := by
  rw [okds_all]
  exact List.all_eq_true.mpr fun d hd => by
    obtain ⟨s, hs, rfl⟩ := List.mem_map.mp hd
    exact h s hs
theorem ne_grp {b c : Bool} {r : Bool → Prop} (hE : EnAt st en e) (F : EnF e) (q : r (decide (c ≠ b))) : neC (.ref (gc e c)) (.ref (gc e b)) st r := by
  refine ⟨_, _, .inl (hE.a c), .inl (hE.a b), okds_str (F.gok c), okds_str (F.gok b), ?_⟩
  have l0 := F.l0
  have l1 := F.l1
  by_cases h : c = b
  · subst h
    rw [eqbs_refl 60 _ (okds_str (F.gok c))]
    simpa using q
  · have : eqbs ((ga e c).map D.str) ((ga e b).map D.str) = false := by
      cases hq : eqbs ((ga e c).map D.str) ((ga e b).map D.str) with
      | false => rfl
      | true =>
        have hl := eqbs_len hq
        rw [List.length_map, List.length_map] at hl
        cases b <;> cases c <;> first | (exact absurd rfl h) | (simp only [ga] at hl; simp at hl; omega)
    rw [this]
    simpa [h] using q
/-- a row of variables to be changed -/
structure OsOk (e : En) (x0 x1 : Str) (lw : Bool) (os : List (Str × Int)) : Prop where
  nd : (os.map (·.1)).Nodup
  inn : ∀ p ∈ os, p ∈ WE e
  n0 : ∀ p ∈ os, p.1 ≠ x0
  n1 : lw = false → ∀ p ∈ os, p.1 ≠ x1
theorem OsOk.sub {x0 x1 : Str} {lw : Bool} {os os' : List (Str × Int)} (h : OsOk e x0 x1 lw os) (h' : os'.Sublist os) : OsOk e x0 x1 lw os' :=
  ⟨h.nd.sublist (h'.map _), fun p hp => h.inn p (h'.subset hp), fun p hp => h.n0 p (h'.subset hp), fun z p hp => h.n1 z p (h'.subset hp)⟩
theorem OsOk.perm {x0 x1 : Str} {lw : Bool} {os os' : List (Str × Int)} (h : OsOk e x0 x1 lw os) (h' : os'.Perm os) : OsOk e x0 x1 lw os' :=
  ⟨(h'.map _).nodup_iff.mpr h.nd, fun p hp => h.inn p (h'.subset hp), fun p hp => h.n0 p (h'.subset hp), fun z p hp => h.n1 z p (h'.subset hp)⟩
def o1L (w : Int) (x1 : Str) (rest : List Str) (lw : Bool) : List (Str × Int) := rest.map (fun x => (x, w)) ++ if lw then [(x1, w)] else []
def oth (e : En) (b : Bool) (l : List Bool) : List (Str × Int) := (l.filter fun c => decide (c ≠ b)).flatMap fun c => (ga e c).map fun x => (x, gw e c)
theorem map_fst (l : List Str) (w : Int) : (l.map fun x => (x, w)).map (·.1) = l := by rw [List.map_map]; exact List.map_id l
theorem os_ok {b : Bool} {x0 x1 : Str} {rest : List Str} {lw : Bool} (F : EnF e) (hp : (x0 :: x1 :: rest).Perm (ga e b)) : OsOk e x0 x1 lw (o1L (gw e b) x1 rest lw ++ oth e b [false, true]) := by
  have nd := hp.nodup_iff.mpr (F.gnd b)
  rw [List.nodup_cons, List.nodup_cons] at nd
  have e1 : oth e b [false, true] = (ga e (!b)).map fun x => (x, gw e (!b)) := by cases b <;> simp [oth]
  have ap : ∀ x ∈ ga e b, x ∉ ga e (!b) := fun x h h' => by
    cases b
    · exact F.apart h h'
    · exact F.apart h' h
  have i0 : x0 ∈ ga e b := hp.subset (by simp)
  have i1 : x1 ∈ ga e b := hp.subset (by simp)
  have ir : ∀ x ∈ rest, x ∈ ga e b := fun x hx => hp.subset (by simp [hx])
  rw [e1]
  have mem : ∀ p ∈ o1L (gw e b) x1 rest lw ++ (ga e (!b)).map (fun x => (x, gw e (!b))), (p.1 ∈ rest ∧ p.2 = gw e b) ∨ (lw = true ∧ p = (x1, gw e b)) ∨ (p.1 ∈ ga e (!b) ∧ p.2 = gw e (!b)) := by
    intro p hp
    unfold o1L at hp
    rcases List.mem_append.mp hp with hp | hp
    · rcases List.mem_append.mp hp with hp | hp
      · obtain ⟨x, hx, rfl⟩ := List.mem_map.mp hp
        exact .inl ⟨hx, rfl⟩
      · cases lw with
        | true => exact .inr (.inl ⟨rfl, by simpa using hp⟩)
        | false => cases hp
    · obtain ⟨x, hx, rfl⟩ := List.mem_map.mp hp
      exact .inr (.inr ⟨hx, rfl⟩)
  refine ⟨?_, fun p hp => ?_, fun p hp => ?_, fun z p hp => ?_⟩
  · unfold o1L
    rw [List.map_append, List.map_append, map_fst, map_fst]
    rw [List.nodup_append, List.nodup_append]
    refine ⟨⟨nd.2.2, by cases lw <;> simp, fun x hx y hy h => ?_⟩, F.gnd (!b), fun x hx y hy h => ?_⟩
    · subst h
      cases lw with
      | true => simp at hy; subst hy; exact nd.2.1 hx
      | false => cases hy
    · subst h
      rcases List.mem_append.mp hx with hx | hx
      · exact ap x (ir x hx) hy
      · cases lw with
        | true => simp at hx; subst hx; exact ap x i1 hy
        | false => cases hx
  · rcases mem p hp with ⟨h1, h2⟩ | ⟨_, h⟩ | ⟨h1, h2⟩
    · have := EnF.gW b (ir _ h1)
      rw [← h2] at this
      exact this
    · rw [h]; exact EnF.gW b i1
    · have := EnF.gW (!b) h1
      rw [← h2] at this
      exact this
  · rcases mem p hp with ⟨h1, h2⟩ | ⟨_, h⟩ | ⟨h1, h2⟩
    · intro h
      rw [h] at h1
      exact nd.1 (by simp [h1])
    · rw [h]
      intro h
      have h' : x1 = x0 := h
      exact nd.1 (by simp [h'])
    · intro h
      rw [h] at h1
      exact ap _ i0 h1
  · rcases mem p hp with ⟨h1, h2⟩ | ⟨h, _⟩ | ⟨h1, h2⟩
    · intro h
      rw [h] at h1
      exact nd.2.1 h1
    · rw [z] at h; cases h
    · intro h
      rw [h] at h1
      exact ap _ i1 h1
theorem changed_ok {b : Bool} {x0 x1 : Str} {rest : List Str} {lw : Bool} {nn : Nat} {lm : Ex} (hm : 4 ≤ m) (hd : DrawAt st) (hE : EnAt st en e) (F : EnF e) (hp : (x0 :: x1 :: rest).Perm (ga e b)) (hn : rdL st nn ((x0 :: x1 :: rest).map D.str)) (hn2 : 2 < nn)
    (hlm : (∃ v w, lm = .word v w ∧ lw = true) ∨ (lm = .name x1 ∧ lw = false))
    (q : ∀ k (ps : List (Str × Int)) st', (ps.map (·.1)).Nodup → (∀ p ∈ ps, p ∈ WE e) → (lw = false → ∀ p ∈ ps, p.1 ≠ x1) → (x0, gw e b) ∈ ps → ps.length ≤ 10 → st.length ≤ k → rdL st' k (ps.map d2) → Fra st st' → Q (.ref k) st') : callN prog m "_law_h_changed" [.ref 2, .ref en, gD e b, .ref nn, exD lm] st Q := by
  obtain ⟨m, rfl⟩ : ∃ n, m = n + 1 := ⟨m - 1, by omega⟩
  refine call_intro rfl rfl ?_
  unfold b_l_h_changed
  have hd2 := hd.lt
  have hlen := hp.length_eq
  have gl := F.gl b
  have glo := F.gl (!b)
  simp only [List.length_cons] at hlen
  have i0 : x0 ∈ ga e b := hp.subset (by simp)
  walk_at "s"
  refine sl_at hn ?_
  rw [cut_drop _ (by decide)]
  rw [show ((x0 :: x1 :: rest).map D.str).drop (2 : Int).toNat = rest.map D.str from rfl]
  refine it_at rdL_new ?_
  have f1 := (Fra.refl hd).app (c := C.lst (rest.map D.str))
  have r1 := rdL_new (st := st) (xs := rest.map D.str)
  have l1 : (st ++ [C.lst (rest.map D.str)]).length = st.length + 1 := by simp
  generalize st ++ [C.lst (rest.map D.str)] = st1 at f1 r1 l1 ⊢
  refine lc_map rest D.str (fun x => d2 (x, gw e b)) rfl (by unfold szl; omega) (fun _ => .inl (rdL_app r1)) (fun x hx acc N hN => ?_) ?_
  · walk_at "t"
    exact hN
  have eb : rest.map (fun x => d2 (x, gw e b)) = (rest.map fun x => (x, gw e b)).map d2 := by rw [List.map_map]; rfl
  rw [eb]
  have f2 := f1.app (c := C.lst ((rest.map fun x => (x, gw e b)).map d2))
  have r2 := rdL_new (st := st1) (xs := (rest.map fun x => (x, gw e b)).map d2)
  have hon : st.length ≤ st1.length := by omega
  have lt2 := rdL_lt r2
  generalize hst2 : st1 ++ [C.lst ((rest.map fun x => (x, gw e b)).map d2)] = st2 at f2 r2 lt2 ⊢
  generalize st1.length = on at r2 hon lt2 ⊢
  clear hst2 r1 l1 f1
  refine Nxt.mk ?_
  show sSeq _ _ _ [some (.ref 2), some (.ref en), some (gD e b), some (.ref nn), some (exD lm), some (.ref on), none, none, none] st2
  refine seq_J (fun σ st' => ∃ y8, rdL st' on ((o1L (gw e b) x1 rest lw).map d2) ∧ Fra st st' ∧ σ = [some (.ref 2), some (.ref en), some (gD e b), some (.ref nn), some (exD lm), some (.ref on), none, none, y8]) (fun N hN => ?_) (fun σ st3 ⟨y8, r3, f3, e1⟩ => ?_)
  · rcases hlm with ⟨v, w, rfl, rfl⟩ | ⟨rfl, rfl⟩
    · rw [show exD (.word v w) = .tup [.str "word", .int v, .int w] from rfl] at hN ⊢
      walk_at "t"
      refine ⟨ty_at r2, ?_⟩
      walk_at "s"
      refine ix_at (f2.rd hn (by omega)) rfl ?_
      walk_at "t"
      refine append_at r2 (by rw [List.length_map, List.length_map]; unfold szl; omega) ?_
      refine hN _ _ ⟨_, ?_, f2.set (by omega) (by omega), rfl⟩
      unfold o1L
      rw [List.map_append]
      exact rdL_set r2
    · rw [show exD (.name x1) = .tup [.str "name", .str x1] from rfl] at hN ⊢
      walk_at "t"
      refine hN _ _ ⟨_, ?_, f2, rfl⟩
      unfold o1L
      rw [List.map_append]
      simpa using r2
  subst e1
  have o1l : (o1L (gw e b) x1 rest lw).length ≤ 3 := by
    unfold o1L
    rw [List.length_append, List.length_map]
    cases lw <;> simp <;> omega
  refine seq_J (fun σ st' => ∃ y6 y8, rdL st' on ((o1L (gw e b) x1 rest lw ++ oth e b [false, true]).map d2) ∧ Fra st st' ∧ σ = [some (.ref 2), some (.ref en), some (gD e b), some (.ref nn), some (exD lm), some (.ref on), y6, none, y8]) (fun N hN => ?_) (fun σ st4 ⟨y6, y8, r4, f4, e1⟩ => ?_)
  · have hE3 := hE.fra f3
    walk_at "s"
    refine ix_at hE3.c rfl ?_
    refine it_at hE3.g ?_
    have bg := hE.bg
    have bgl : e.gn < st.length := rdL_lt hE.g
    refine for_map [false, true] (gD e) rfl (fun j σ st' => ∃ y6 y8, rdL st' on ((o1L (gw e b) x1 rest lw ++ oth e b ([false, true].take j)).map d2) ∧ Fra st st' ∧ σ = [some (.ref 2), some (.ref en), some (gD e b), some (.ref nn), some (exD lm), some (.ref on), y6, none, y8]) ⟨_, y8, by simpa [oth] using r3, f3, rfl⟩ (fun j c σ st' hj ⟨y6, y8, k1, k2, e1⟩ N1 hN1 => ?_) (fun σ st' ⟨y6, y8, k1, k2, e1⟩ => ?_)
    · subst e1
      have hE' := hE.fra k2
      refine ⟨.inl hE'.g, ?_⟩
      have hjl : j < 2 := (List.getElem?_eq_some_iff.mp hj).1
      have ht : [false, true].take (j + 1) = [false, true].take j ++ [c] := by rw [List.take_add_one, hj]; rfl
      have lo : (oth e b ([false, true].take j)).length ≤ 4 := by
        have g0 := F.gl false
        have g1 := F.gl true
        rcases j with _ | _ | j
        · simp [oth]
        · cases b <;> simp [oth] <;> omega
        · omega
      walk_at "t"
      refine ne_grp hE' F ?_
      walk_at "s"
      by_cases hc : c = b
      · refine wayF (by simp [hc]) ?_
        refine hN1 _ _ ⟨_, _, ?_, k2, rfl⟩
        rw [ht]
        have : oth e b ([false, true].take j ++ [c]) = oth e b ([false, true].take j) := by simp [oth, hc]
        rw [this]
        exact k1
      · refine wayT (by simp [hc]) ?_
        walk_at "s"
        refine ⟨ty_at k1, ?_⟩
        walk_at "t"
        refine it_at (hE'.a c) ?_
        have glc := F.gl c
        refine lc_map (ga e c) D.str (fun x => d2 (x, gw e c)) rfl (by unfold szl; omega) (fun _ => .inl (rdL_app (hE'.a c))) (fun x hx acc N hN => ?_) ?_
        · walk_at "t"
          exact hN
        have ec : (ga e c).map (fun x => d2 (x, gw e c)) = ((ga e c).map fun x => (x, gw e c)).map d2 := by rw [List.map_map]; rfl
        rw [ec]
        have ltk := rdL_lt k1
        walk_at "s"
        refine extendLL_at (rdL_app k1) rdL_new (by omega) (by rw [List.length_map, List.length_map, List.length_append, List.length_map]; unfold szl; omega) ?_
        refine hN1 _ _ ⟨_, _, ?_, k2.app.set (by omega) (by omega), rfl⟩
        have : oth e b ([false, true].take j ++ [c]) = oth e b ([false, true].take j) ++ (ga e c).map fun x => (x, gw e c) := by
          unfold oth
          rw [List.filter_append, List.flatMap_append]
          simp [hc]
        rw [ht, this, ← List.append_assoc, List.map_append (l₂ := (ga e c).map _)]
        exact rdL_set (rdL_app k1)
    · subst e1
      have hE' := hE.fra k2
      refine ⟨.inl hE'.g, ?_⟩
      exact hN _ _ ⟨_, _, k1, k2, rfl⟩
  subst e1
  have O := os_ok (lw := lw) F hp
  have ol : (o1L (gw e b) x1 rest lw ++ oth e b [false, true]).length ≤ 7 := by
    rw [List.length_append]
    have : (oth e b [false, true]).length ≤ 4 := by
      have g0 := F.gl false
      have g1 := F.gl true
      cases b <;> simp [oth] <;> omega
    omega
  generalize o1L (gw e b) x1 rest lw ++ oth e b [false, true] = os at r4 O ol
  walk_at "s"
  refine shufF un2 un2_d2 (by omega) f4.dr r4 (by omega) (by omega) fun k5 os' st5 hp5 hk5 r5 f5 => ?_
  have O5 := O.perm hp5
  have l5 := hp5.length_eq
  have f45 := f4.trans f5
  have le45 := f4.le
  walk_at "s"
  refine drawM (by omega) f5.dr (by decide) (by decide) fun r st6 h0 h1 f6 => ?_
  have f46 := f45.trans f6
  walk_at "s"
  refine sl_at (f6.rd r5 (by omega)) ?_
  rw [cut_take _ h0, ← List.map_take]
  have O6 := O5.sub (List.take_sublist r.toNat os')
  have l6 : (os'.take r.toNat).length ≤ 7 := by rw [List.length_take]; omega
  generalize os'.take r.toNat = fs at O6 l6
  walk_at "r"
  have f7 := f46.app (c := C.lst (fs.map d2))
  have r7 := rdL_new (st := st6) (xs := fs.map d2)
  have le6 := f46.le
  generalize st6 ++ [C.lst (fs.map d2)] = st7 at f7 r7 ⊢
  generalize st6.length = fn at r7 le6 ⊢
  refine ix_at (f7.rd hn (by omega)) rfl ?_
  walk_at "t"
  have l7 := rdL_lt r7
  refine add_at (rdL_app r7) rdL_new (by rw [List.length_map]; unfold szl; simp; omega) ?_
  have e8 : fs.map d2 ++ [D.tup [.str x0, .int (gw e b)]] = (fs ++ [(x0, gw e b)]).map d2 := by rw [List.map_append]; rfl
  rw [e8]
  have f8 := (f7.app (c := C.lst [D.tup [.str x0, .int (gw e b)]])).app (c := C.lst ((fs ++ [(x0, gw e b)]).map d2))
  have r8 := rdL_new (st := st7 ++ [C.lst [D.tup [.str x0, .int (gw e b)]]]) (xs := (fs ++ [(x0, gw e b)]).map d2)
  have le8 := f8.le
  have b8 : 2 < (st7 ++ [C.lst [D.tup [.str x0, .int (gw e b)]]]).length := by simp; omega
  walk_at "s"
  refine shufF un2 un2_d2 (by omega) f8.dr r8 b8 (by rw [List.length_append]; simp; omega) fun k9 ps st9 hp9 hk9 r9 f9 => ?_
  have hne : x1 ≠ x0 := by
    have nd := hp.nodup_iff.mpr (F.gnd b)
    rw [List.nodup_cons] at nd
    intro h
    exact nd.1 (by simp [h])
  refine q _ ps _ ?_ (fun p hp => ?_) (fun z p hp => ?_) (hp9.symm.subset (by simp)) (by have := hp9.length_eq; rw [List.length_append] at this; simp at this; omega) (by omega) r9 (f8.trans f9)
  · refine (hp9.map _).nodup_iff.mpr ?_
    rw [List.map_append, List.nodup_append]
    refine ⟨O6.nd, by simp, fun x hx y hy h => ?_⟩
    obtain ⟨p, hp, rfl⟩ := List.mem_map.mp hx
    simp at hy
    exact O6.n0 p hp (h.trans hy)
  · rcases List.mem_append.mp (hp9.subset hp) with hp | hp
    · exact O6.inn p hp
    · simp at hp
      subst hp
      exact EnF.gW b i0
  · rcases List.mem_append.mp (hp9.subset hp) with hp | hp
    · exact O6.n1 z p hp
    · simp at hp
      subst hp
      exact fun h => hne h.symm
end Pk52
end PartPdk52P12

section PartPdk52P13
set_option Elab.async false
set_option linter.all false
set_option maxRecDepth 100000
set_option maxHeartbeats 2000000
/-! k52, thirteenth text: what is spoilt. Own work. -/
namespace Pk52
open PySem Pd
local macro_rules | `(tactic| walk_at "s") => `(tactic| (repeat (refine Red.red ?_)))
local macro_rules | `(tactic| walk_at "r") => `(tactic| (repeat (first | refine Red.red ?_ | refine Nxt.mk ?_)))
local macro_rules | `(tactic| walk_at "t") => `(tactic| (repeat (first | refine Red.red ?_ | refine Nxt.mk ?_ | refine ⟨by decide +kernel, by decide +kernel, wayF (by decide +kernel) ?_⟩ | refine ⟨by decide +kernel, by decide +kernel, wayT (by decide +kernel) ?_⟩ | refine ⟨by decide +kernel, ?_⟩ | refine ⟨Nat.le_of_ble_eq_true rfl, ?_⟩ | refine at_is rfl ?_)))
local instance inTup13 {x : D} {xs : List D} {st : Store} {r : Bool → Prop} : Red (inC x (.tup xs) st r) (x.flat = true ∧ xs.all D.flat = true ∧ r (xs.any fun y => D.eqb y x)) := ⟨id⟩
variable {k m n : Nat} {st st' : Store} {Q : K}
local instance notinTup13 {x : D} {xs : List D} {st : Store} {r : Bool → Prop} : Red (notinC x (.tup xs) st r) (x.flat = true ∧ xs.all D.flat = true ∧ r (!(xs.any fun y => D.eqb y x))) := ⟨id⟩
variable {W : List (Str × Int)} {kn : Nat}
variable {en : Nat} {e : En}
abbrev Lt := Str × Bool × Int × Int
def sgn (b : Bool) : Op := if b then .add else .sub
def letS (l : Lt) : St := .lt (.name l.1) (.bin (sgn l.2.1) (.name l.1) (.word l.2.2.1 l.2.2.2))
def chO (l : Lt) : Chg := (l.1, l.2.2.2, if l.2.1 then l.2.2.1 else v1 .neg l.2.2.2 l.2.2.1)
theorem chg_let (l : Lt) : chg (letS l) = some (chO l) := by
  obtain ⟨x, b, v, w⟩ := l
  cases b <;> simp [letS, chg, chO, sgn, isNm]
theorem has_iff {cs : List Chg} {x : Str} : has cs x = true ↔ x ∈ cs.map (·.1) := by
  unfold has
  rw [List.any_eq_true, List.mem_map]
  constructor
  · rintro ⟨c, h, h'⟩; exact ⟨c, h, by simpa using h'⟩
  · rintro ⟨c, h, h'⟩; exact ⟨c, h, by simpa using h'⟩
theorem has_not {cs : List Chg} {x : Str} : has cs x = false ↔ x ∉ cs.map (·.1) := by
  rw [← has_iff]
  cases has cs x <;> simp
theorem chgs_some : ∀ {l : List St} {acc cs : List Chg}, chgs l acc = some cs → (acc.map (·.1)).Nodup → (cs.map (·.1)).Nodup ∧ ∃ xs, cs = acc ++ xs ∧ l.map chg = xs.map some
  | [], acc, cs, h, nd => by
    rw [chgs] at h
    cases h
    exact ⟨nd, [], by simp, rfl⟩
  | s :: l, acc, cs, h, nd => by
    rw [chgs] at h
    cases hc : chg s with
    | none => rw [hc] at h; cases h
    | some c =>
      rw [hc] at h
      cases hh : has acc c.1 with
      | true => simp [hh] at h
      | false =>
        simp only [hh] at h
        have nd' : ((acc ++ [c]).map (·.1)).Nodup := by
          rw [List.map_append, List.nodup_append]
          refine ⟨nd, by simp, fun x hx y hy hxy => ?_⟩
          simp at hy
          rw [hxy, hy] at hx
          exact has_not.mp hh hx
        obtain ⟨h1, xs, h2, h3⟩ := chgs_some (l := l) (by simpa using h) nd'
        exact ⟨h1, c :: xs, by rw [h2]; simp, by rw [List.map_cons, List.map_cons, hc, h3]⟩
theorem chgs_lets : ∀ {ls : List Lt} {acc : List Chg}, (acc.map (·.1) ++ ls.map (·.1)).Nodup → chgs (ls.map letS) acc = some (acc ++ ls.map chO)
  | [], acc, _ => by simp [chgs]
  | l :: ls, acc, nd => by
    rw [List.map_cons, chgs, chg_let]
    have hn : has acc (chO l).1 = false := by
      rw [has_not]
      rw [List.nodup_append] at nd
      intro h
      exact nd.2.2 _ h l.1 (by simp) rfl
    simp only [hn]
    rw [if_neg (by simp), chgs_lets (ls := ls) (acc := acc ++ [chO l]) (by simpa [chO] using nd)]
    simp
theorem fst_chO (ls : List Lt) : (ls.map chO).map (·.1) = ls.map (·.1) := by rw [List.map_map]; rfl
/-! no counting loop -/
theorem shM_out {o : Op} {x : Str} {r : Ex} {l : List St} (h : ∀ cs, chgs l [] = some cs → has cs x = true → ∃ y, r = .name y ∧ has cs y = true) : shM (.bin o (.name x) r) l = none := by
  unfold shM
  cases tst (.bin o (.name x) r) with
  | false => rfl
  | true =>
    rw [if_pos rfl]
    cases hc : chgs l [] with
    | none => rfl
    | some cs =>
      show (if has cs x && !inR cs r then some (x, o, r, cs) else none) = none
      cases hx : has cs x with
      | false => rfl
      | true =>
        obtain ⟨y, rfl, hy⟩ := h cs hc hx
        simp [inR, hy]
theorem shM_tst {t : Ex} {l : List St} (h : tst t = false) : shM t l = none := by
  unfold shM
  rw [h]
  rfl
theorem shM_dead {t : Ex} {l : List St} (h : chgs l [] = none) : shM t l = none := by
  unfold shM
  rw [h]
  split <;> rfl
theorem dead_of {l : List St} {s : St} (hs : s ∈ l) (h : chg s = none) : chgs l [] = none := by
  cases hc : chgs l [] with
  | none => rfl
  | some cs =>
    obtain ⟨_, xs, _, h3⟩ := chgs_some hc (by simp)
    have : chg s ∈ l.map chg := List.mem_map_of_mem hs
    rw [h3, h] at this
    obtain ⟨_, _, h⟩ := List.mem_map.mp this
    cases h
theorem chgs_names {l : List St} {cs : List Chg} (h : chgs l [] = some cs) : (cs.map (·.1)).Nodup ∧ l.map (fun s => (chg s).map (·.1)) = (cs.map (·.1)).map some := by
  obtain ⟨h1, xs, h2, h3⟩ := chgs_some h (by simp)
  refine ⟨h1, ?_⟩
  rw [List.nil_append] at h2
  subst h2
  have := congrArg (List.map (Option.map (·.1))) h3
  rw [List.map_map, List.map_map] at this
  rw [List.map_map]
  exact this
theorem some_inj {α : Type} : ∀ {a b : List α}, a.map some = b.map some → a = b
  | [], [], _ => rfl
  | x :: a, y :: b, h => by
    rw [List.map_cons, List.map_cons] at h
    injection h with h1 h2
    injection h1 with h1
    rw [h1, some_inj h2]
  | [], y :: b, h => by cases h
  | x :: a, [], h => by cases h
theorem dead_twice {ls : List Lt} {p : Nat} {l : Lt} (h : l.1 ∈ ls.map (·.1)) : chgs (ls.map letS |>.take p |>.append [letS l] |>.append ((ls.map letS).drop p)) [] = none := by
  cases hc : chgs (ls.map letS |>.take p |>.append [letS l] |>.append ((ls.map letS).drop p)) [] with
  | none => rfl
  | some cs =>
    obtain ⟨nd, hn⟩ := chgs_names hc
    have e1 : (ls.map letS |>.take p |>.append [letS l] |>.append ((ls.map letS).drop p)) = ((ls.take p ++ [l]) ++ ls.drop p).map letS := by
      show (ls.map letS).take p ++ [letS l] ++ (ls.map letS).drop p = _
      rw [List.map_append, List.map_append, List.map_take, List.map_drop]
      rfl
    rw [e1, List.map_map] at hn
    have e2 : (((ls.take p ++ [l]) ++ ls.drop p).map ((fun s => (chg s).map (·.1)) ∘ letS)) = (((ls.take p ++ [l]) ++ ls.drop p).map (·.1)).map some := by
      rw [List.map_map]
      refine List.map_congr_left fun a _ => ?_
      show (chg (letS a)).map (·.1) = some a.1
      rw [chg_let]
      rfl
    rw [e2] at hn
    have hn' : ((ls.take p ++ [l]) ++ ls.drop p).map (·.1) = cs.map (·.1) := by
      exact some_inj hn
    rw [← hn'] at nd
    have pm : (((ls.take p ++ [l]) ++ ls.drop p)).Perm (l :: ls) := by
      have : ((ls.take p ++ [l]) ++ ls.drop p).Perm (l :: (ls.take p ++ ls.drop p)) := by
        rw [List.append_assoc]
        exact List.perm_middle
      rwa [List.take_append_drop] at this
    have := ((pm.map (·.1)).nodup_iff.mp nd)
    rw [List.map_cons, List.nodup_cons] at this
    exact absurd h this.1
/-- a test that is none -/
def BadT (e : En) (x0 : Str) (lm t : Ex) : Prop := Xd t ∧ ∀ l cs, chgs l [] = some cs → has cs x0 = true → (∀ y, lm = .name y → has cs y = false) → has cs e.r0 = false → shM t l = none
theorem cmp3_ok {o : Op} (h : cmp3 o = true) : two o = true := by cases o <;> first | (cases h; done) | rfl
theorem badT_ok {x0 : Str} {o : Op} {lm : Ex} {W8 : Int} (hm : 4 ≤ m) (hd : DrawAt st) (hE : EnAt st en e) (F : EnF e) (ox : okS x0 = true) (oo : cmp3 o = true) (ol : Xo lm) (dl : dep lm = 0) (ll : lim lm = true) (q : ∀ t st', BadT e x0 lm t → Fra st st' → Q (exD t) st') : callN prog m "_law_bad_test" [.ref 2, .ref en, .int W8, exD (.bin o (.name x0) lm)] st Q := by
  obtain ⟨m, rfl⟩ : ∃ n, m = n + 1 := ⟨m - 1, by omega⟩
  refine call_intro rfl rfl ?_
  unfold b_l_bad_test
  obtain ⟨o1, o2, o3⟩ := F.o3
  have two := cmp3_ok oo
  rw [show exD (.bin o (.name x0) lm) = .tup [.str (opS o), exD (.name x0), exD lm] from rfl]
  walk_at "s"
  refine ⟨rfl, ?_⟩
  walk_at "r"
  refine drawM (by omega) hd (by decide) (by decide) fun r st1 r0 r1 f1 => ?_
  have hE1 := hE.fra f1
  walk_at "r"
  have tstF : ∀ {t : Ex}, Xd t → tst t = false → BadT e x0 lm t := fun h h' => ⟨h, fun _ _ _ _ _ _ => shM_tst h'⟩
  -- 0
  refine way (fun h => ?_) (fun h => ?_)
  · walk_at "t"
    exact q (.bin .eq (.name x0) lm) _ (tstF ⟨⟨rfl, ox, ol⟩, by simp only [dep]; omega⟩ (by simp [tst, cmp3])) f1
  walk_at "r"
  -- 1
  refine way (fun h => ?_) (fun h => ?_)
  · walk_at "t"
    refine q (.bin o lm (.name x0)) _ ⟨⟨⟨two, ol, ox⟩, by simp only [dep]; omega⟩, fun l cs hc hx hy _ => ?_⟩ f1
    cases lm with
    | word v w => exact shM_tst rfl
    | name y =>
      refine shM_out fun cs' hc' hx' => ?_
      rw [hc] at hc'
      cases hc'
      rw [hy y rfl] at hx'
      cases hx'
    | _ => cases ll
  walk_at "r"
  -- 2
  refine way (fun h => ?_) (fun h => ?_)
  · walk_at "t"
    exact q (.un .not (.bin o (.name x0) lm)) _ (tstF ⟨⟨rfl, two, ox, ol⟩, by simp only [dep]; omega⟩ rfl) f1
  walk_at "r"
  -- 3
  refine way (fun h => ?_) (fun h => ?_)
  · walk_at "t"
    exact q (.bin .and (.bin o (.name x0) lm) (.word 1 1)) _ (tstF ⟨⟨rfl, ⟨two, ox, ol⟩, trivial⟩, by simp only [dep]; omega⟩ rfl) f1
  walk_at "r"
  -- 4
  refine way (fun h => ?_) (fun h => ?_)
  · walk_at "t"
    exact q (.bin o (.name x0) (.bin .add lm (.word 1 W8))) _ (tstF ⟨⟨two, ox, rfl, ol, trivial⟩, by simp only [dep]; omega⟩ (by simp [tst, lim])) f1
  walk_at "r"
  -- 5
  refine way (fun h => ?_) (fun h => ?_)
  · walk_at "t"
    exact q (.bin o (.wide (.name x0) W8) lm) _ (tstF ⟨⟨two, ox, ol⟩, by simp only [dep]; omega⟩ rfl) f1
  walk_at "r"
  -- 6
  refine way (fun h => ?_) (fun h => ?_)
  · walk_at "t"
    refine q (.bin o (.name x0) (.name x0)) _ ⟨⟨⟨two, ox, ox⟩, by simp only [dep]; omega⟩, fun l cs hc hx hy _ => shM_out fun cs' hc' hx' => ⟨x0, rfl, hx'⟩⟩ f1
  walk_at "r"
  -- 7
  refine way (fun h => ?_) (fun h => ?_)
  · walk_at "t"
    refine ix_at hE1.c rfl ?_
    walk_at "s"
    refine ix_at hE1.r rfl ?_
    walk_at "t"
    exact q (.bin .ne (.name e.r0) .nul) _ (tstF ⟨⟨rfl, o2, trivial⟩, by simp only [dep]; omega⟩ (by simp [tst, lim])) f1
  walk_at "r"
  -- 8
  refine way (fun h => ?_) (fun h => ?_)
  · walk_at "t"
    refine ix_at hE1.c rfl ?_
    walk_at "s"
    refine ix_at hE1.r rfl ?_
    walk_at "t"
    refine ix_at hE1.c rfl ?_
    walk_at "s"
    refine ix_at hE1.r rfl ?_
    walk_at "t"
    refine q (.bin .ne (.name e.r0) (.name e.r1)) _ ⟨⟨⟨rfl, o2, o3⟩, by simp only [dep]; omega⟩, fun l cs hc hx hy hr => shM_out fun cs' hc' hx' => ?_⟩ f1
    rw [hc] at hc'
    cases hc'
    rw [hr] at hx'
    cases hx'
  walk_at "r"
  have itm : ∀ v w, Xo (.item e.ar (.word v w)) := fun v w => ⟨o1, trivial⟩
  have tail : ∀ st2, Fra st1 st2 → EnAt st2 en e → sSeq (sIf (tAnd (tTru (dCmp eqC (dVar 7) (dC (.int 10)))) (tTru (dCmp eqC (dVar 2) (dOp ixK (dOp ixK (dVar 1) (dC (.int 1))) (dC (.int 1)))))) (sRet (dTup (aCons (dVar 4) (aCons (dTup (aCons (dC (.str "item")) (aCons (dOp ixK (dOp ixK (dVar 1) (dC (.int 1))) (dC (.int 0))) (aCons (dCall (callN prog m) "_law_index" (aCons (dVar 0) (aNil))) (aNil))))) (aCons (dVar 6) (aNil)))))) (sNext)) (sSeq (sIf (tTru (dCmp eqC (dVar 7) (dC (.int 11)))) (sRet (dTup (aCons (dC (.str "wide")) (aCons (dVar 5) (aCons (dC (.int 1)) (aNil)))))) (sNext)) (sRet (dTup (aCons (dC (.str "word")) (aCons (dCall (callN prog m) "_law_draw" (aCons (dVar 0) (aCons (dC (.int 2)) (aNil)))) (aCons (dC (.int 1)) (aNil))))))) { nx := fun x st' => Q D.non st', rt := Q } [some (.ref 2), some (.ref en), some (.int W8), some (.tup [.str (opS o), exD (.name x0), exD lm]), some (.str (opS o)), some (exD (.name x0)), some (exD lm), some (.int r)] st2 := by
    intro st2 f2 hE2
    have f12 := f1.trans f2
    have tail2 : ∀ st3, Fra st1 st3 → sSeq (sIf (tTru (dCmp eqC (dVar 7) (dC (.int 11)))) (sRet (dTup (aCons (dC (.str "wide")) (aCons (dVar 5) (aCons (dC (.int 1)) (aNil)))))) (sNext)) (sRet (dTup (aCons (dC (.str "word")) (aCons (dCall (callN prog m) "_law_draw" (aCons (dVar 0) (aCons (dC (.int 2)) (aNil)))) (aCons (dC (.int 1)) (aNil)))))) { nx := fun x st' => Q D.non st', rt := Q } [some (.ref 2), some (.ref en), some (.int W8), some (.tup [.str (opS o), exD (.name x0), exD lm]), some (.str (opS o)), some (exD (.name x0)), some (exD lm), some (.int r)] st3 := by
      intro st3 f3
      walk_at "s"
      refine way (fun h => ?_) (fun h => ?_)
      · walk_at "t"
        exact q (.wide (.name x0) 1) _ (tstF ⟨ox, by simp only [dep]; omega⟩ rfl) (f1.trans f3)
      · walk_at "r"
        refine drawM (by omega) f3.dr (by decide) (by decide) fun v st4 v0 v1 f4 => ?_
        walk_at "t"
        exact q (.word v 1) _ (tstF ⟨trivial, by simp only [dep]; omega⟩ rfl) ((f1.trans f3).trans f4)
    walk_at "s"
    refine way (fun h => ?_) (fun h => ?_)
    · walk_at "s"
      refine ix_at hE2.c rfl ?_
      walk_at "t"
      refine way (fun h => ?_) (fun h => ?_)
      · walk_at "t"
        refine ix_at hE2.c rfl ?_
        walk_at "t"
        refine index_ok (by omega) f2.dr fun v w st3 f3 => ?_
        walk_at "t"
        exact q (.bin o (.item e.ar (.word v w)) lm) _ (tstF ⟨⟨two, itm v w, ol⟩, by simp only [dep]; omega⟩ rfl) (f12.trans f3)
      · walk_at "s"
        refine Nxt.mk ?_
        exact tail2 st2 f2
    · walk_at "s"
      refine Nxt.mk ?_
      exact tail2 st2 f2
  refine way (fun h => ?_) (fun h => ?_)
  · walk_at "s"
    refine ix_at hE1.c rfl ?_
    walk_at "t"
    refine way (fun h => ?_) (fun h => ?_)
    · walk_at "t"
      refine ix_at hE1.c rfl ?_
      walk_at "t"
      refine index_ok (by omega) f1.dr fun v w st3 f3 => ?_
      walk_at "t"
      exact q (.bin o (.name x0) (.item e.ar (.word v w))) _ (tstF ⟨⟨two, ox, itm v w⟩, by simp only [dep]; omega⟩ (by simp [tst, lim])) (f1.trans f3)
    · walk_at "s"
      refine Nxt.mk ?_
      exact tail st1 (.refl f1.dr) hE1
  · walk_at "s"
    refine Nxt.mk ?_
    exact tail st1 (.refl f1.dr) hE1
end Pk52
end PartPdk52P13

section PartPdk52P14
set_option Elab.async false
set_option linter.all false
set_option maxRecDepth 100000
set_option maxHeartbeats 2000000
/-! k52, fourteenth text: what is spoilt in blocks. Own work. -/
namespace Pk52
open PySem Pd
local macro_rules | `(tactic| walk_at "s") => `(tactic| (repeat (refine Red.red ?_)))
local macro_rules | `(tactic| walk_at "r") => `(tactic| (repeat (first | refine Red.red ?_ | refine Nxt.mk ?_)))
local macro_rules | `(tactic| walk_at "t") => `(tactic| (repeat (first | refine Red.red ?_ | refine Nxt.mk ?_ | refine ⟨by decide +kernel, by decide +kernel, wayF (by decide +kernel) ?_⟩ | refine ⟨by decide +kernel, by decide +kernel, wayT (by decide +kernel) ?_⟩ | refine ⟨by decide +kernel, ?_⟩ | refine ⟨Nat.le_of_ble_eq_true rfl, ?_⟩ | refine at_is rfl ?_)))
local instance inTup14 {x : D} {xs : List D} {st : Store} {r : Bool → Prop} : Red (inC x (.tup xs) st r) (x.flat = true ∧ xs.all D.flat = true ∧ r (xs.any fun y => D.eqb y x)) := ⟨id⟩
variable {k m n : Nat} {st st' : Store} {Q : K}
local instance notinTup14 {x : D} {xs : List D} {st : Store} {r : Bool → Prop} : Red (notinC x (.tup xs) st r) (x.flat = true ∧ xs.all D.flat = true ∧ r (!(xs.any fun y => D.eqb y x))) := ⟨id⟩
variable {W : List (Str × Int)} {kn : Nat}
variable {en : Nat} {e : En}
theorem inStr {l : List Str} {x : Str} {r : Bool → Prop} (h : rdL st n (l.map D.str)) (q : r (decide (x ∈ l))) : inC (.str x) (.ref n) st r := by
  refine ⟨_, .inl h, rfl, List.all_eq_true.mpr fun d hd => ?_, ?_⟩
  · obtain ⟨_, _, rfl⟩ := List.mem_map.mp hd
    rfl
  · have : ((l.map D.str).any fun y => D.eqb y (.str x)) = decide (x ∈ l) := by
      rw [List.any_map]
      rw [Bool.eq_iff_iff, List.any_eq_true, decide_eq_true_iff]
      constructor
      · rintro ⟨y, hy, h⟩
        have : y = x := by simpa [D.eqb] using h
        exact this ▸ hy
      · intro h
        exact ⟨x, h, by simp [D.eqb]⟩
    rw [this]
    exact q
theorem mem_grp (F : EnF e) {p : Str × Int} (h : p ∈ WE e) : ∃ b, p.1 ∈ ga e b ∧ p.2 = gw e b ∧ 1 ≤ p.2 ∧ p.2 ≤ 8 := by
  unfold WE at h
  rcases List.mem_append.mp h with h | h
  · obtain ⟨x, hx, rfl⟩ := List.mem_map.mp h
    exact ⟨false, hx, rfl, F.w0.1, F.w0.2⟩
  · obtain ⟨x, hx, rfl⟩ := List.mem_map.mp h
    exact ⟨true, hx, rfl, F.w1.1, F.w1.2⟩
/-- a value that makes no change -/
def BadS (e : En) (x : Str) (s : Ex) : Prop := Xd s ∧ chg (.lt (.name x) s) = none ∧ Kn (WE e) (.name x) s
theorem sgn_two (b : Bool) : two (sgn b) = true := by cases b <;> rfl
theorem badS_ok {l : Lt} {wy : Int} (hm : 4 ≤ m) (hd : DrawAt st) (hE : EnAt st en e) (F : EnF e) (hl : (l.1, l.2.2.2) ∈ WE e) (q : ∀ s st', BadS e l.1 s → Fra st st' → Q (exD s) st') : callN prog m "_law_bad_sum" [.ref 2, .ref en, .int wy, stD (letS l)] st Q := by
  obtain ⟨m, rfl⟩ : ∃ n, m = n + 1 := ⟨m - 1, by omega⟩
  refine call_intro rfl rfl ?_
  unfold b_l_bad_sum
  obtain ⟨x, pl, v, w⟩ := l
  obtain ⟨b, hxb, hw, w0, w1⟩ := mem_grp F hl
  have ox := F.gok b x hxb
  have hd2 := hd.lt
  rw [show stD (letS (x, pl, v, w)) = .tup [.str "let", exD (.name x), .tup [.str (opS (sgn pl)), exD (.name x), exD (.word v w)]] from rfl]
  walk_at "t"
  have f0 := (Fra.refl hd).app (c := C.lst [])
  have r0 := rdL_new (st := st) (xs := [])
  have hE0 := hE.fra f0
  generalize st ++ [C.lst []] = st0 at f0 r0 hE0 ⊢
  refine ix_at hE0.c rfl ?_
  refine it_at hE0.g ?_
  refine for_map [false, true] (gD e) rfl (fun j σ st' => ∃ (ms : List Str) (y7 : Nat) (z8 z9 z11 : Option D), rdL st' y7 (ms.map fun y => exD (.name y)) ∧ 2 < y7 ∧ ((∃ c ∈ [false, true].take j, x ∈ ga e c) → 0 < ms.length) ∧ ms.length ≤ 4 ∧ (∀ y ∈ ms, y ≠ x ∧ okS y = true) ∧ Fra st st' ∧ σ = [some (.ref 2), some (.ref en), some (.int wy), some (.tup [.str "let", exD (.name x), .tup [.str (opS (sgn pl)), exD (.name x), exD (.word v w)]]), some (exD (.name x)), some (.str (opS (sgn pl))), some (exD (.word v w)), some (.ref y7), z8, z9, none, z11]) ⟨[], _, _, _, _, r0, hd2, by simp, by simp, by simp, f0, rfl⟩ (fun j c σ st' hj ⟨ms, y7, z8, z9, z11, k1, k2, k3, k4, k5, k6, e1⟩ N1 hN1 => ?_) (fun σ st' ⟨ms, y7, z8, z9, z11, k1, k2, k3, k4, k5, k6, e1⟩ => ?_)
  · subst e1
    have hE' := hE.fra k6
    refine ⟨.inl hE'.g, ?_⟩
    have ht : [false, true].take (j + 1) = [false, true].take j ++ [c] := by rw [List.take_add_one, hj]; rfl
    walk_at "s"
    refine ⟨rfl, ?_⟩
    walk_at "t"
    refine inStr (hE'.a c) ?_
    walk_at "s"
    by_cases hx : x ∈ ga e c
    · refine wayT (decide_eq_true hx) ?_
      walk_at "s"
      refine it_at (hE'.a c) ?_
      have glc := F.gl c
      refine lc_filter (ga e c) D.str (fun y => exD (.name y)) (fun y => !decide (y = x)) rfl (by unfold szl; omega) (fun _ => .inl (rdL_app (hE'.a c))) (fun y hy acc N M hN hM => ?_) ?_
      · walk_at "s"
        refine at_is rfl ?_
        walk_at "s"
        refine ⟨F.gok c y hy, ox, ?_⟩
        walk_at "s"
        refine way (fun h => ?_) (fun h => ?_)
        · walk_at "t"
          exact hN h
        · exact hM h
      · have k6' := k6.app (c := C.lst (((ga e c).filter fun y => !decide (y = x)).map fun y => exD (.name y)))
        have lt := k6.le
        refine hN1 _ _ ⟨_, _, _, _, _, rdL_new, by omega, fun _ => ?_, ?_, fun y hy => ?_, k6', rfl⟩
        · have h2 := F.gnd c
          have : ∃ y ∈ ga e c, y ≠ x := by
            match hg : ga e c with
            | [] => rw [hg] at hx; cases hx
            | [a] => rw [hg] at glc; simp at glc
            | a :: a' :: r =>
              rw [hg] at h2
              by_cases ha : a = x
              · refine ⟨a', by simp, fun h => ?_⟩
                rw [List.nodup_cons] at h2
                exact h2.1 (by rw [ha, h]; simp)
              · exact ⟨a, by simp, ha⟩
          obtain ⟨y, hy, hyx⟩ := this
          exact List.length_pos_of_mem (List.mem_filter.mpr ⟨hy, by simpa using hyx⟩)
        · have := List.length_filter_le (fun y => !decide (y = x)) (ga e c)
          omega
        · obtain ⟨h1, h2⟩ := List.mem_filter.mp hy
          exact ⟨by simpa using h2, F.gok c y h1⟩
    · refine wayF (decide_eq_false hx) ?_
      refine hN1 _ _ ⟨ms, _, _, _, _, k1, k2, fun ⟨d, hd, hxd⟩ => ?_, k4, k5, k6, rfl⟩
      rw [ht] at hd
      rcases List.mem_append.mp hd with hd | hd
      · exact k3 ⟨d, hd, hxd⟩
      · simp at hd
        subst hd
        exact absurd hxd hx
  · subst e1
    have hE' := hE.fra k6
    refine ⟨.inl hE'.g, ?_⟩
    have hpos := k3 ⟨b, by cases b <;> simp, hxb⟩
    walk_at "r"
    refine pickF (by omega) k6.dr k1 (by omega) hpos (by omega) fun y st2 hy f2 => ?_
    obtain ⟨yx, oy⟩ := k5 y hy
    have fr := k6.trans f2
    have tw := sgn_two pl
    have knN : ∀ s : Ex, (∀ o a b, s = .bin o (.name x) (.word a b) → False) → Kn (WE e) (.name x) s := fun s h x' o v' w' h1 h2 => by
      cases h1
      exact absurd h2 fun h2 => h o v' w' h2
    have hxW : (∃ w', (x, w') ∈ WE e) := ⟨w, hl⟩
    walk_at "r"
    -- 6
    refine way (fun h => ?_) (fun h => ?_)
    · walk_at "t"
      exact q (.bin (sgn pl) (.word v w) (.name x)) _ ⟨⟨⟨tw, trivial, ox⟩, by simp only [dep]; omega⟩, by cases pl <;> rfl, knN _ fun _ _ _ h => by cases h⟩ fr
    walk_at "r"
    -- 7
    refine way (fun h => ?_) (fun h => ?_)
    · walk_at "t"
      refine q (.bin (sgn pl) (.name y) (.word v w)) _ ⟨⟨⟨tw, oy, trivial⟩, by simp only [dep]; omega⟩, by cases pl <;> simp [sgn, chg, isNm, yx], knN _ fun _ _ _ h => ?_⟩ fr
      cases h
      exact yx rfl
    walk_at "r"
    -- 8
    refine way (fun h => ?_) (fun h => ?_)
    · walk_at "t"
      exact q (.bin (sgn pl) (.name x) (.name y)) _ ⟨⟨⟨tw, ox, oy⟩, by simp only [dep]; omega⟩, by cases pl <;> rfl, knN _ fun _ _ _ h => by cases h⟩ fr
    walk_at "r"
    -- 9
    refine way (fun h => ?_) (fun h => ?_)
    · walk_at "t"
      refine pickNewF (f := fun o => D.str (opS o)) [.mul, .and, .or, .xor, .shl, .shr, .div, .rem] (by omega) fr.dr (by simp) (by simp) rfl fun o st3 ho f3 => ?_
      walk_at "t"
      have oo : two o = true ∧ chg (.lt (.name x) (.bin o (.name x) (.word v w))) = none := by
        simp at ho
        rcases ho with rfl | rfl | rfl | rfl | rfl | rfl | rfl | rfl <;> exact ⟨rfl, rfl⟩
      refine q (.bin o (.name x) (.word v w)) _ ⟨⟨⟨oo.1, ox, trivial⟩, by simp only [dep]; omega⟩, oo.2, fun x' o' v' w' h1 h2 => ?_⟩ (fr.trans f3)
      cases h1
      cases h2
      exact ⟨hxW, w0, w1⟩
    walk_at "r"
    -- 10
    refine way (fun h => ?_) (fun h => ?_)
    · walk_at "t"
      exact q (.name y) _ ⟨⟨oy, by simp only [dep]; omega⟩, rfl, knN _ fun _ _ _ h => by cases h⟩ fr
    walk_at "r"
    -- 11
    refine way (fun h => ?_) (fun h => ?_)
    · walk_at "t"
      exact q (.word v w) _ ⟨⟨trivial, by simp only [dep]; omega⟩, rfl, knN _ fun _ _ _ h => by cases h⟩ fr
    walk_at "r"
    -- 12
    refine way (fun h => ?_) (fun h => ?_)
    · walk_at "t"
      exact q (.bin (sgn pl) (.bin (sgn pl) (.name x) (.word v w)) (.word v w)) _ ⟨⟨⟨tw, ⟨tw, ox, trivial⟩, trivial⟩, by simp only [dep]; omega⟩, by cases pl <;> simp [sgn, chg, isNm], knN _ fun _ _ _ h => by cases h⟩ fr
    walk_at "t"
    exact q (.bin (sgn pl) (.name x) (.un .neg (.word v w))) _ ⟨⟨⟨tw, ox, rfl, trivial⟩, by simp only [dep]; omega⟩, by cases pl <;> rfl, knN _ fun _ _ _ h => by cases h⟩ fr
end Pk52
end PartPdk52P14

section PartPdk52P15
set_option Elab.async false
set_option linter.all false
set_option maxRecDepth 100000
set_option maxHeartbeats 2000000
/-! k52, fifteenth text: blocks that are spoilt. Own work. -/
namespace Pk52
open PySem Pd
local macro_rules | `(tactic| walk_at "s") => `(tactic| (repeat (refine Red.red ?_)))
local macro_rules | `(tactic| walk_at "r") => `(tactic| (repeat (first | refine Red.red ?_ | refine Nxt.mk ?_)))
local macro_rules | `(tactic| walk_at "t") => `(tactic| (repeat (first | refine Red.red ?_ | refine Nxt.mk ?_ | refine ⟨by decide +kernel, by decide +kernel, wayF (by decide +kernel) ?_⟩ | refine ⟨by decide +kernel, by decide +kernel, wayT (by decide +kernel) ?_⟩ | refine ⟨by decide +kernel, ?_⟩ | refine ⟨Nat.le_of_ble_eq_true rfl, ?_⟩ | refine at_is rfl ?_)))
local instance inTup15 {x : D} {xs : List D} {st : Store} {r : Bool → Prop} : Red (inC x (.tup xs) st r) (x.flat = true ∧ xs.all D.flat = true ∧ r (xs.any fun y => D.eqb y x)) := ⟨id⟩
variable {k m n : Nat} {st st' : Store} {Q : K}
local instance notinTup15 {x : D} {xs : List D} {st : Store} {r : Bool → Prop} : Red (notinC x (.tup xs) st r) (x.flat = true ∧ xs.all D.flat = true ∧ r (!(xs.any fun y => D.eqb y x))) := ⟨id⟩
variable {W : List (Str × Int)} {kn : Nat}
variable {en : Nat} {e : En}
structure GoodL (e : En) (l : List St) : Prop where
  few : l.length ≤ 30
  each : ∀ s ∈ l, So (WE e) s ∧ preS s = [s] ∧ bdS s ≤ 1 ∧ ∀ x b, s ≠ .wh x b
theorem let_so (F : EnF e) {l : Lt} (h : (l.1, l.2.2.2) ∈ WE e) : So (WE e) (letS l) := by
  obtain ⟨x, pl, v, w⟩ := l
  obtain ⟨b, hxb, hw, w0, w1⟩ := mem_grp F h
  have ox := F.gok b x hxb
  unfold letS
  rw [So]
  refine ⟨⟨ox, by simp only [dep]; omega⟩, ⟨⟨sgn_two pl, ox, trivial⟩, by simp only [dep]; omega⟩, fun x' o' v' w' h1 h2 => ?_⟩
  cases h1
  cases h2
  exact ⟨⟨w, h⟩, w0, w1⟩
theorem let_each (F : EnF e) {l : Lt} (h : (l.1, l.2.2.2) ∈ WE e) : So (WE e) (letS l) ∧ preS (letS l) = [letS l] ∧ bdS (letS l) ≤ 1 ∧ ∀ x b, letS l ≠ .wh x b :=
  ⟨let_so F h, rfl, by simp only [letS, bdS]; omega, fun x b h => by cases h⟩
theorem GoodL.lets (F : EnF e) {ls : List Lt} (h : ∀ l ∈ ls, (l.1, l.2.2.2) ∈ WE e) (hl : ls.length ≤ 30) : GoodL e (ls.map letS) :=
  ⟨by rw [List.length_map]; exact hl, fun s hs => by
    obtain ⟨l, hm, rfl⟩ := List.mem_map.mp hs
    exact let_each F (h l hm)⟩
theorem Oth.each {W : List (Str × Int)} {s : St} (h : Oth W s) : So W s ∧ preS s = [s] ∧ bdS s ≤ 1 ∧ ∀ x b, s ≠ .wh x b := ⟨h.so, h.one, h.dp, h.nw⟩
theorem GoodL.ins {l : List St} {s : St} {p r : Nat} (h : GoodL e l) (hl : l.length ≤ 10) (hs : So (WE e) s ∧ preS s = [s] ∧ bdS s ≤ 1 ∧ ∀ x b, s ≠ .wh x b) : GoodL e (l.take p ++ [s] ++ l.drop r) := by
  refine ⟨?_, fun t ht => ?_⟩
  · rw [List.length_append, List.length_append, List.length_take, List.length_drop]
    have : [s].length = 1 := rfl
    omega
  · rcases List.mem_append.mp ht with ht | ht
    · rcases List.mem_append.mp ht with ht | ht
      · exact h.each t (List.mem_of_mem_take ht)
      · simp at ht
        subst ht
        exact hs
    · exact h.each t (List.mem_of_mem_drop ht)
structure BlkIn (e : En) (ls : List Lt) (x0 : Str) (lm : Ex) : Prop where
  nd : (ls.map (·.1)).Nodup
  inn : ∀ l ∈ ls, (l.1, l.2.2.2) ∈ WE e
  few : ls.length ≤ 10
  pos : 0 < ls.length
  hx0 : x0 ∈ ls.map (·.1)
  ox : okS x0 = true
  lim : lim lm = true
  l1 : ∀ y, lm = .name y → y ∉ ls.map (·.1) ∧ ∃ b, y ∈ ga e b
theorem badB_ok {ls : List Lt} {x0 : Str} {o : Op} {lm : Ex} {ln : Nat} (hm : 6 ≤ m) (hd : DrawAt st) (hE : EnAt st en e) (F : EnF e) (B : BlkIn e ls x0 lm) (hl : rdL st ln ((ls.map letS).map stD)) (hl2 : 2 < ln)
    (q : ∀ k l st', GoodL e l → shM (.bin o (.name x0) lm) l = none → rdL st' k (l.map stD) → Fra st st' → Q (.ref k) st') : callN prog m "_law_bad_block" [.ref 2, .ref en, exD (.bin o (.name x0) lm), .ref ln] st Q := by
  obtain ⟨m, rfl⟩ : ∃ n, m = n + 1 := ⟨m - 1, by omega⟩
  refine call_intro rfl rfl ?_
  unfold b_l_bad_block
  have few := B.few
  have pos := B.pos
  have hd2 := hd.lt
  rw [show exD (.bin o (.name x0) lm) = .tup [.str (opS o), exD (.name x0), exD lm] from rfl]
  walk_at "s"
  refine drawM (by omega) hd (by decide) (by decide) fun wy st1 w0 w1 f1 => ?_
  have l1 := f1.rd hl (by omega)
  walk_at "r"
  refine len_at l1 ?_
  rw [List.length_map, List.length_map]
  walk_at "s"
  refine drawM (by omega) f1.dr (by omega) (by omega) fun sp st2 s0 s1 f2 => ?_
  have l2 := f2.rd l1 (by omega)
  walk_at "r"
  refine len_at l2 ?_
  rw [List.length_map, List.length_map]
  walk_at "s"
  refine drawM (by omega) f2.dr (by omega) (by omega) fun pt st3 p0 p1 f3 => ?_
  have l3 := f3.rd l2 (by omega)
  have fr := (f1.trans f2).trans f3
  have hE3 := hE.fra fr
  have hst3 := fr.dr.lt
  have ltl := rdL_lt l3
  clear l1 l2
  obtain ⟨l, hls⟩ : ∃ l, ls[sp.toNat]? = some l := ⟨_, List.getElem?_eq_getElem (by omega)⟩
  have hlm := List.mem_of_getElem? hls
  have hat : atD ((ls.map letS).map stD) sp = some (stD (letS l)) := by
    unfold atD
    rw [if_pos s0, List.getElem?_map, List.getElem?_map, hls]
    rfl
  have G := GoodL.lets F B.inn (by omega)
  have lenL : (ls.map letS).length ≤ 10 := by rw [List.length_map]; exact few
  walk_at "r"
  refine ix_at l3 hat ?_
  obtain ⟨x, pl, v, w⟩ := l
  have hx : (x, w) ∈ WE e := B.inn _ hlm
  rw [show stD (letS (x, pl, v, w)) = .tup [.str "let", exD (.name x), .tup [.str (opS (sgn pl)), exD (.name x), exD (.word v w)]] from rfl] at hat ⊢
  walk_at "s"
  refine at_is rfl ?_
  walk_at "s"
  refine ix_at l3 hat ?_
  walk_at "s"
  refine at_is rfl ?_
  walk_at "s"
  refine at_is rfl ?_
  walk_at "r"
  -- 0
  refine way (fun h => ?_) (fun h => ?_)
  · walk_at "t"
    refine q _ [] _ ⟨by simp, by simp⟩ ?_ rdL_new fr.app
    exact shM_out fun cs hc hx => by cases hc; cases hx
  walk_at "r"
  -- 1
  refine way (fun h => ?_) (fun h => ?_)
  · walk_at "s"
    refine it_at l3 ?_
    refine lc_filter ls (fun l => stD (letS l)) (fun l => stD (letS l)) (fun l => !isNm x0 (.name l.1)) (by rw [List.map_map]; rfl) (by unfold szl; omega) (fun _ => .inl (rdL_app l3)) (fun l hl acc N M hN hM => ?_) ?_
    · have hol : okS l.1 = true := by
        obtain ⟨b, hb, _⟩ := mem_grp F (B.inn l hl)
        exact F.gok b _ hb
      rw [show stD (letS l) = .tup [.str "let", exD (.name l.1), .tup [.str (opS (sgn l.2.1)), exD (.name l.1), exD (.word l.2.2.1 l.2.2.2)]] from rfl] at hN ⊢
      walk_at "t"
      refine ne_ex (wk_okd 60 _ (wk_ex (e := .name l.1) hol (by simp only [dep]; omega))) (wk_okd 60 _ (wk_ex (e := .name x0) B.ox (by simp only [dep]; omega))) ?_
      walk_at "s"
      refine way (fun h => ?_) (fun h => ?_)
      · walk_at "s"
        exact hN h
      · exact hM h
    · have e5 : ((ls.filter fun l => !isNm x0 (.name l.1)).map fun l => stD (letS l)) = ((ls.filter fun l => !isNm x0 (.name l.1)).map letS).map stD := by rw [List.map_map]; rfl
      rw [e5]
      have hsub : (ls.filter fun l => !isNm x0 (.name l.1)).Sublist ls := List.filter_sublist
      refine q _ _ _ (GoodL.lets F (fun l hl => B.inn l (hsub.subset hl)) (by have := hsub.length_le; omega)) ?_ rdL_new fr.app
      refine shM_out fun cs hc hx => ?_
      rw [chgs_lets (by simpa using B.nd.sublist (hsub.map _))] at hc
      cases hc
      rw [List.nil_append, has_iff, fst_chO] at hx
      obtain ⟨l, hl, hx⟩ := List.mem_map.mp hx
      have := (List.mem_filter.mp hl).2
      simp [isNm, hx] at this
  -- the places
  have insD : ∀ {T : List St} {s : St}, (T.take pt.toNat).map stD ++ [stD s] ++ (T.drop pt.toNat).map stD = (T.take pt.toNat ++ [s] ++ T.drop pt.toNat).map stD := by
    intro T s
    rw [List.map_append, List.map_append]
    rfl
  generalize hTT : ls.map letS = TT at *
  have put : ∀ {s : St} {a k : Nat} {st5 st6 : Store}, So (WE e) s ∧ preS s = [s] ∧ bdS s ≤ 1 ∧ (∀ x b, s ≠ .wh x b) → (chg s = none ∨ chgs (TT.take pt.toNat ++ [s] ++ TT.drop pt.toNat) [] = none ∨ (∀ cs, chgs (TT.take pt.toNat ++ [s] ++ TT.drop pt.toNat) [] = some cs → has cs x0 = true → ∃ y, lm = .name y ∧ has cs y = true)) → shM (.bin o (.name x0) lm) (TT.take pt.toNat ++ [s] ++ TT.drop pt.toNat) = none := by
    intro s a k st5 st6 _ h
    rcases h with h | h | h
    · exact shM_dead (dead_of (List.mem_append_left _ (List.mem_append_right _ (by simp))) h)
    · exact shM_dead h
    · exact shM_out h
  -- 2
  walk_at "s"
  refine Nxt.mk ?_
  refine seq_J (fun σ st' => st' = st3 ∧ σ = [some (.ref 2), some (.ref en), some (.tup [.str (opS o), exD (.name x0), exD lm]), some (.ref ln), some (.int wy), some (.int sp), some (.int pt), some (exD (.name x)), some (exD (.word v w)), none, none, none, none]) (fun N hN => ?_) (fun σ st4 ⟨e0, e1⟩ => ?_)
  · have no : N [some (.ref 2), some (.ref en), some (.tup [.str (opS o), exD (.name x0), exD lm]), some (.ref ln), some (.int wy), some (.int sp), some (.int pt), some (exD (.name x)), some (exD (.word v w)), none, none, none, none] st3 := hN _ _ ⟨rfl, rfl⟩
    walk_at "s"
    refine way (fun h => ?_) (fun h => ?_)
    · have hlim := B.lim
      cases lm with
      | word v2 w2 =>
        walk_at "t"
        exact no
      | name x1 =>
        obtain ⟨hn1, b1, hb1⟩ := B.l1 x1 rfl
        have ox1 := F.gok b1 x1 hb1
        walk_at "t"
        refine ix_at hE3.c rfl ?_
        refine it_at hE3.g ?_
        refine for_map [false, true] (gD e) rfl (fun j σ st' => st' = st3 ∧ (∀ c ∈ [false, true].take j, x1 ∉ ga e c) ∧ ∃ z9 z10, σ = [some (.ref 2), some (.ref en), some (.tup [.str (opS o), exD (.name x0), exD (.name x1)]), some (.ref ln), some (.int wy), some (.int sp), some (.int pt), some (exD (.name x)), some (exD (.word v w)), z9, z10, none, none]) ⟨rfl, by simp, _, _, rfl⟩ (fun j c σ st' hj ⟨k0, k1, z9, z10, e1⟩ N1 hN1 => ?_) (fun σ st' ⟨k0, k1, z9, z10, e1⟩ => ?_)
        · subst e1 k0
          refine ⟨.inl hE3.g, ?_⟩
          have ht : [false, true].take (j + 1) = [false, true].take j ++ [c] := by rw [List.take_add_one, hj]; rfl
          walk_at "s"
          refine ⟨rfl, ?_⟩
          walk_at "t"
          refine inStr (hE3.a c) ?_
          walk_at "s"
          by_cases hxc : x1 ∈ ga e c
          · refine wayT (decide_eq_true hxc) ?_
            have wc := F.wid c
            walk_at "t"
            refine drawW (by omega) wc.1 wc.2 fr.dr fun v9 st5 f5 => ?_
            walk_at "s"
            refine add_ok (o := .add) (by omega) ?_
            walk_at "r"
            have l5 := f5.rd l3 (by omega)
            refine sl_at l5 ?_
            rw [cut_take _ p0]
            walk_at "t"
            refine add_at (rdL_app rdL_new) rdL_new (by rw [List.length_take, List.length_map]; simp; unfold szl; omega) ?_
            walk_at "s"
            refine sl_at (rdL_app (rdL_app (rdL_app l5))) ?_
            rw [cut_drop _ p0, ← List.map_take, ← List.map_drop]
            refine add_at (rdL_app rdL_new) rdL_new (by simp; unfold szl; omega) ?_
            rw [insD]
            have hW1 : (x1, gw e c) ∈ WE e := EnF.gW c hxc
            have hS := let_each F (l := (x1, true, v9, gw e c)) hW1
            refine q _ _ _ (G.ins lenL hS) (put (a := 0) (k := 0) (st5 := st5) (st6 := st5) hS (.inr (.inr fun cs hc _ => ⟨x1, rfl, ?_⟩))) rdL_new ((((((fr.trans f5).app).app).app).app).app)
            have := (chgs_names hc).2
            have hm : (chg (letS (x1, true, v9, gw e c))).map (·.1) ∈ (TT.take pt.toNat ++ [letS (x1, true, v9, gw e c)] ++ TT.drop pt.toNat).map (fun s => (chg s).map (·.1)) := List.mem_map_of_mem (by simp)
            rw [this, chg_let] at hm
            obtain ⟨y, hy, hy'⟩ := List.mem_map.mp hm
            have hy2 : y = x1 := by simpa [chO] using hy'
            rw [has_iff, ← hy2]
            exact hy
          · refine wayF (decide_eq_false hxc) ?_
            refine hN1 _ _ ⟨rfl, fun d hd => ?_, _, _, rfl⟩
            rw [ht] at hd
            rcases List.mem_append.mp hd with hd | hd
            · exact k1 d hd
            · simp at hd
              subst hd
              exact hxc
        · exact absurd hb1 (k1 b1 (by cases b1 <;> simp))
      | _ => cases hlim
    · walk_at "s"
      exact no
  subst e1
  have e0' := e0.symm
  subst e0'
  have lenT : TT.length ≤ 10 := lenL
  walk_at "s"
  -- 3
  refine way (fun h => ?_) (fun h => ?_)
  · walk_at "s"
    refine sl_at l3 ?_
    rw [cut_take _ p0]
    walk_at "t"
    refine add_ok (o := .sub) (by omega) ?_
    walk_at "t"
    refine add_at (rdL_app rdL_new) rdL_new (by rw [List.length_take, List.length_map]; simp; unfold szl; omega) ?_
    walk_at "s"
    refine sl_at (rdL_app (rdL_app (rdL_app l3))) ?_
    rw [cut_drop _ p0, ← List.map_take, ← List.map_drop]
    refine add_at (rdL_app rdL_new) rdL_new (by simp; unfold szl; omega) ?_
    rw [insD]
    have hS := let_each F (l := (x, false, v, w)) hx
    have hdd := dead_twice (ls := ls) (p := pt.toNat) (l := (x, false, v, w)) (List.mem_map_of_mem (f := (·.1)) hlm)
    rw [hTT] at hdd
    exact q _ _ _ (G.ins lenL hS) (put (a := 0) (k := 0) (st5 := st3) (st6 := st3) hS (.inr (.inl hdd))) rdL_new (((((fr.app).app).app).app).app)
  walk_at "r"
  -- 4
  refine way (fun h => ?_) (fun h => ?_)
  · walk_at "s"
    refine sl_at l3 ?_
    rw [cut_take _ p0]
    walk_at "t"
    have fA := fr.app (c := C.lst ((TT.map stD).take pt.toNat))
    have rA := rdL_new (st := st3) (xs := (TT.map stD).take pt.toNat)
    have lA : rdL (st3 ++ [C.lst ((TT.map stD).take pt.toNat)]) ln (TT.map stD) := rdL_app l3
    generalize st3 ++ [C.lst ((TT.map stD).take pt.toNat)] = stA at fA rA lA ⊢
    refine item_ok (W := WE e) (by omega) fA.dr (hE.fra fA) F fun s st5 hs f5 => ?_
    have r5 := f5.rd rA (by omega)
    have l5 := f5.rd lA (by omega)
    walk_at "t"
    refine add_at (rdL_app r5) rdL_new (by rw [List.length_take, List.length_map]; simp; unfold szl; omega) ?_
    walk_at "s"
    refine sl_at (rdL_app (rdL_app l5)) ?_
    rw [cut_drop _ p0, ← List.map_take, ← List.map_drop]
    refine add_at (rdL_app rdL_new) rdL_new (by simp; unfold szl; omega) ?_
    rw [insD]
    exact q _ _ _ (G.ins lenL hs.each) (put (a := 0) (k := 0) (st5 := st3) (st6 := st3) hs.each (.inl hs.ch)) rdL_new (((((fA.trans f5).app).app).app).app)
  walk_at "r"
  -- 5
  refine way (fun h => ?_) (fun h => ?_)
  · walk_at "s"
    refine sl_at l3 ?_
    rw [cut_take _ p0]
    walk_at "t"
    have fA := fr.app (c := C.lst ((TT.map stD).take pt.toNat))
    have rA := rdL_new (st := st3) (xs := (TT.map stD).take pt.toNat)
    have lA : rdL (st3 ++ [C.lst ((TT.map stD).take pt.toNat)]) ln (TT.map stD) := rdL_app l3
    generalize st3 ++ [C.lst ((TT.map stD).take pt.toNat)] = stA at fA rA lA ⊢
    refine other_ok (W := WE e) (by omega) fA.dr (hE.fra fA) F fun s st5 hs f5 => ?_
    have r5 := f5.rd rA (by omega)
    have l5 := f5.rd lA (by omega)
    walk_at "t"
    refine add_at (rdL_app r5) rdL_new (by rw [List.length_take, List.length_map]; simp; unfold szl; omega) ?_
    walk_at "s"
    refine sl_at (rdL_app (rdL_app l5)) ?_
    rw [cut_drop _ p0, ← List.map_take, ← List.map_drop]
    refine add_at (rdL_app rdL_new) rdL_new (by simp; unfold szl; omega) ?_
    rw [insD]
    exact q _ _ _ (G.ins lenL hs.each) (put (a := 0) (k := 0) (st5 := st3) (st6 := st3) hs.each (.inl hs.ch)) rdL_new (((((fA.trans f5).app).app).app).app)
  walk_at "r"
  -- 6
  refine sl_at l3 ?_
  rw [cut_take _ s0]
  walk_at "t"
  have fA := fr.app (c := C.lst ((TT.map stD).take sp.toNat))
  have rA := rdL_new (st := st3) (xs := (TT.map stD).take sp.toNat)
  have lA : rdL (st3 ++ [C.lst ((TT.map stD).take sp.toNat)]) ln (TT.map stD) := rdL_app l3
  generalize st3 ++ [C.lst ((TT.map stD).take sp.toNat)] = stA at fA rA lA ⊢
  refine ix_at lA hat ?_
  walk_at "s"
  refine badS_ok (l := (x, pl, v, w)) (by omega) fA.dr (hE.fra fA) F hx fun s st5 hs f5 => ?_
  have r5 := f5.rd rA (by omega)
  have l5 := f5.rd lA (by omega)
  walk_at "t"
  refine add_at (rdL_app r5) rdL_new (by rw [List.length_take, List.length_map]; simp; unfold szl; omega) ?_
  walk_at "s"
  refine sl_at (rdL_app (rdL_app l5)) ?_
  rw [cut_drop _ (by omega), ← List.map_take, ← List.map_drop]
  refine add_at (rdL_app rdL_new) rdL_new (by simp; unfold szl; omega) ?_
  have e9 : (TT.take sp.toNat).map stD ++ [D.tup [.str "let", exD (.name x), exD s]] ++ (TT.drop (sp + 1).toNat).map stD = (TT.take sp.toNat ++ [St.lt (.name x) s] ++ TT.drop (sp + 1).toNat).map stD := by
    rw [List.map_append, List.map_append]
    rfl
  obtain ⟨b, hxb, hw, _, _⟩ := mem_grp F hx
  have hS : So (WE e) (.lt (.name x) s) ∧ preS (.lt (.name x) s) = [St.lt (.name x) s] ∧ bdS (.lt (.name x) s) ≤ 1 ∧ ∀ y b, (.lt (.name x) s : St) ≠ .wh y b := by
    refine ⟨?_, rfl, by simp only [bdS]; omega, fun y b h => by cases h⟩
    rw [So]
    exact ⟨⟨F.gok b x hxb, by simp only [dep]; omega⟩, hs.1, hs.2.2⟩
  have e10 := e9
  rw [e9]
  exact q _ _ _ (G.ins lenL hS) (shM_dead (dead_of (s := .lt (.name x) s) (by simp) hs.2.1)) rdL_new (((((fA.trans f5).app).app).app).app)
end Pk52
end PartPdk52P15

section PartPdk52P16
set_option Elab.async false
set_option linter.all false
set_option maxRecDepth 100000
set_option maxHeartbeats 2000000
/-! k52, sixteenth text: loops. Own work. -/
namespace Pk52
open PySem Pd
local macro_rules | `(tactic| walk_at "s") => `(tactic| (repeat (refine Red.red ?_)))
local macro_rules | `(tactic| walk_at "r") => `(tactic| (repeat (first | refine Red.red ?_ | refine Nxt.mk ?_)))
local macro_rules | `(tactic| walk_at "t") => `(tactic| (repeat (first | refine Red.red ?_ | refine Nxt.mk ?_ | refine ⟨by decide +kernel, by decide +kernel, wayF (by decide +kernel) ?_⟩ | refine ⟨by decide +kernel, by decide +kernel, wayT (by decide +kernel) ?_⟩ | refine ⟨by decide +kernel, ?_⟩ | refine ⟨Nat.le_of_ble_eq_true rfl, ?_⟩ | refine at_is rfl ?_)))
local instance inTup16 {x : D} {xs : List D} {st : Store} {r : Bool → Prop} : Red (inC x (.tup xs) st r) (x.flat = true ∧ xs.all D.flat = true ∧ r (xs.any fun y => D.eqb y x)) := ⟨id⟩
variable {k m n : Nat} {st st' : Store} {Q : K}
local instance notinTup16 {x : D} {xs : List D} {st : Store} {r : Bool → Prop} : Red (notinC x (.tup xs) st r) (x.flat = true ∧ xs.all D.flat = true ∧ r (!(xs.any fun y => D.eqb y x))) := ⟨id⟩
variable {W : List (Str × Int)} {kn : Nat}
variable {en : Nat} {e : En}
def ofL : List St → Bl
  | [] => .nil
  | s :: l => .cons s (ofL l)
theorem toL_of : ∀ l : List St, toL (ofL l) = l
  | [] => rfl
  | s :: l => by rw [ofL, toL, toL_of l]
theorem blL_of (l : List St) : blL (ofL l) = l.map stD := by rw [blL_eq, toL_of]
theorem sob_of {W : List (Str × Int)} : ∀ {l : List St}, l.length ≤ 100 → (∀ s ∈ l, So W s) → SoB W (ofL l)
  | [], _, _ => trivial
  | s :: l, hl, h => by
    rw [ofL, SoB, toL_of]
    simp at hl
    exact ⟨by omega, h s (by simp), sob_of (by omega) fun t ht => h t (by simp [ht])⟩
theorem bd_of {k : Nat} : ∀ {l : List St}, (∀ s ∈ l, bdS s ≤ k) → bd (ofL l) ≤ k
  | [], _ => by rw [ofL, bd]; omega
  | s :: l, h => by
    rw [ofL, bd]
    have h1 := h s (by simp)
    have h2 := bd_of (l := l) fun t ht => h t (by simp [ht])
    omega
theorem pre_of (l : List St) : pre (ofL l) = l.flatMap preS := by rw [pre_flat, toL_of]
theorem flat_one : ∀ {l : List St}, (∀ s ∈ l, preS s = [s]) → l.flatMap preS = l
  | [], _ => rfl
  | s :: l, h => by
    rw [List.flatMap_cons, h s (by simp), flat_one fun t ht => h t (by simp [ht])]
    rfl
def dueD : Option (Str × Op × Ex × List Chg) → D
  | none => .non
  | some (x, o, r, cs) => .tup [.str x, .str (opS o), exD r, .tup (cs.map chD)]
def whDue : St → List D
  | .wh t b => [dueD (shM t (toL b))]
  | _ => []
theorem whDue_no {s : St} (h : ∀ x b, s ≠ .wh x b) : whDue s = [] := by
  cases s <;> first | rfl | exact absurd rfl (h _ _)
theorem flat_no : ∀ {l : List St}, (∀ s ∈ l, whDue s = []) → l.flatMap whDue = []
  | [], _ => rfl
  | s :: l, h => by
    rw [List.flatMap_cons, h s (by simp), flat_no fun t ht => h t (by simp [ht])]
    rfl
/-- a loop with its due -/
structure Lp (e : En) (s : St) (d : D) : Prop where
  so : So (WE e) s
  dp : bdS s ≤ 2
  few : (preS s).length ≤ 40
  due : (preS s).flatMap whDue = [d]
  ch : chg s = none
theorem Lp.mk' {t : Ex} {l : List St} (ht : Xd t) (G : GoodL e l) : Lp e (.wh t (ofL l)) (dueD (shM t l)) := by
  have few := G.few
  have hp : pre (ofL l) = l := (pre_of l).trans (flat_one fun s hs => (G.each s hs).2.1)
  refine ⟨?_, ?_, ?_, ?_, rfl⟩
  · rw [So, toL_of]
    exact ⟨ht, by omega, sob_of (by omega) fun s hs => (G.each s hs).1⟩
  · rw [bdS]
    have := bd_of (l := l) fun s hs => (G.each s hs).2.2.1
    omega
  · rw [preS, hp, List.length_cons]
    omega
  · rw [preS, hp, List.flatMap_cons, flat_no fun s hs => whDue_no (G.each s hs).2.2.2]
    show [dueD (shM t (toL (ofL l)))] ++ [] = _
    rw [toL_of, List.append_nil]
theorem shM_good {ls : List Lt} {x0 : Str} {o : Op} {lm : Ex} (oo : cmp3 o = true) (B : BlkIn e ls x0 lm) : shM (.bin o (.name x0) lm) (ls.map letS) = some (x0, o, lm, ls.map chO) := by
  unfold shM
  have ht : tst (.bin o (.name x0) lm) = true := by simp [tst, oo, B.lim]
  rw [ht, if_pos rfl, chgs_lets (by simpa using B.nd), List.nil_append]
  show (if has (ls.map chO) x0 && !inR (ls.map chO) lm then some (x0, o, lm, ls.map chO) else none) = _
  have h1 : has (ls.map chO) x0 = true := by rw [has_iff, fst_chO]; exact B.hx0
  have h2 : inR (ls.map chO) lm = false := by
    cases lm with
    | name y =>
      show has (ls.map chO) y = false
      rw [has_not, fst_chO]
      exact (B.l1 y rfl).1
    | _ => rfl
  rw [h1, h2]
  rfl
theorem loop_ok (hm : 8 ≤ m) (hd : DrawAt st) (hE : EnAt st en e) (F : EnF e) (q : ∀ s d st', Lp e s d → Fra st st' → Q (.tup [stD s, d]) st') : callN prog m "_law_h_loop" [.ref 2, .ref en] st Q := by
  obtain ⟨m, rfl⟩ : ∃ n, m = n + 1 := ⟨m - 1, by omega⟩
  refine call_intro rfl rfl ?_
  unfold b_l_h_loop
  have hd2 := hd.lt
  walk_at "s"
  refine ix_at hE.c rfl ?_
  walk_at "s"
  refine pickF (f := gD e) (by omega) hd hE.g (by have := hE.bg; omega) (by simp) (by simp) fun b st1 _ f1 => ?_
  have hE1 := hE.fra f1
  have gl := F.gl b
  have wc := F.wid b
  walk_at "t"
  refine shufF unS (fun _ => rfl) (by omega) f1.dr (hE1.a b) (by have := hE.ba b; omega) (by omega) fun nn ns st2 hp hnn hn f2 => ?_
  have f12 := f1.trans f2
  have hE2 := hE.fra f12
  have hl1 := f1.le
  obtain ⟨x0, x1, rest, rfl⟩ : ∃ x0 x1 rest, ns = x0 :: x1 :: rest := by
    have := hp.length_eq
    match ns with
    | [] => simp at this; omega
    | [a] => simp at this; omega
    | a :: b :: r => exact ⟨a, b, r, rfl⟩
  have i0 : x0 ∈ ga e b := hp.subset (by simp)
  have i1 : x1 ∈ ga e b := hp.subset (by simp)
  have ox0 := F.gok b x0 i0
  have ox1 := F.gok b x1 i1
  have hn2 : 2 < nn := by omega
  walk_at "r"
  refine ix_at hn rfl ?_
  walk_at "s"
  refine ⟨Nat.le_of_ble_eq_true rfl, ?_⟩
  walk_at "s"
  refine Nxt.mk ?_
  refine seq_J (fun σ st' => ∃ lm lw, ((∃ v w, lm = .word v w ∧ lw = true) ∨ (lm = .name x1 ∧ lw = false)) ∧ Fra st2 st' ∧ σ = [some (.ref 2), some (.ref en), some (gD e b), some (.ref nn), some (exD lm), none, none, none, none, none, none, none, none, none, none]) (fun N hN => ?_) (fun σ st3 ⟨lm, lw, hlm, f3, e1⟩ => ?_)
  · walk_at "s"
    refine drawM (by omega) f2.dr (by decide) (by decide) fun r st3 r0 r1 f3 => ?_
    walk_at "s"
    refine way (fun h => ?_) (fun h => ?_)
    · walk_at "t"
      refine drawW (by omega) wc.1 wc.2 f3.dr fun v st4 f4 => ?_
      walk_at "t"
      exact hN _ _ ⟨.word v (gw e b), true, .inl ⟨v, gw e b, rfl, rfl⟩, f3.trans f4, rfl⟩
    · walk_at "s"
      exact hN _ _ ⟨.name x1, false, .inr ⟨rfl, rfl⟩, f3, rfl⟩
  subst e1
  have f13 := f12.trans f3
  have hE3 := hE.fra f13
  have hn3 := f3.rd hn (by omega)
  walk_at "t"
  have l3 := f13.le
  have f5 := (f13.app (c := C.lst [])).app (c := C.lst [])
  have ra := rdL_app (c := C.lst []) (rdL_new (st := st3) (xs := []))
  have rb := rdL_new (st := st3 ++ [C.lst []]) (xs := [])
  have l35 : (st3 ++ [C.lst []]).length = st3.length + 1 := by simp
  have hn5 := rdL_app (c := C.lst []) (rdL_app (c := C.lst []) hn3)
  rw [l35] at rb ⊢
  generalize st3 ++ [C.lst []] ++ [C.lst []] = st5 at f5 ra rb hn5 ⊢
  have hE5 := hE.fra f5
  refine changed_ok (lw := lw) (lm := lm) (by omega) f5.dr hE5 F hp hn5 hn2 hlm fun k ps st6 nd6 in6 n16 x06 few6 hk6 r6 f6 => ?_
  have f06 := f5.trans f6
  have ra6 := f6.rd ra (by omega)
  have rb6 := f6.rd rb (by omega)
  have k5 := f5.le
  have la5 := rdL_lt ra
  have lb5 := rdL_lt rb
  have ltn := rdL_lt hn3
  generalize hA : st3.length = A at *
  refine it_at r6 ?_
  refine for_map ps d2 rfl (fun j σ st' => ∃ (ls : List Lt) (y7 y8 y9 y10 y11 : Option D), ls.map (fun l => (l.1, l.2.2.2)) = ps.take j ∧ rdL st' A ((ls.map letS).map stD) ∧ rdL st' (A + 1) ((ls.map chO).map chD) ∧ rdL st' k (ps.map d2) ∧ rdL st' nn ((x0 :: x1 :: rest).map D.str) ∧ Fra st st' ∧ σ = [some (.ref 2), some (.ref en), some (gD e b), some (.ref nn), some (exD lm), some (.ref A), some (.ref (A + 1)), y7, y8, y9, y10, y11, none, none, none]) ⟨[], _, _, _, _, _, rfl, ra6, rb6, r6, f6.rd hn5 (by omega), f06, rfl⟩ (fun j p σ st' hj ⟨ls, y7, y8, y9, y10, y11, k1, k2, k3, k4, kn, k5', e1⟩ N1 hN1 => ?_) (fun σ st' ⟨ls, y7, y8, y9, y10, y11, k1, k2, k3, k4, kn, k5', e1⟩ => ?_)
  · subst e1
    refine ⟨.inl k4, ?_⟩
    obtain ⟨x, w⟩ := p
    have hpm := List.mem_of_getElem? hj
    have hjl := (List.getElem?_eq_some_iff.mp hj).1
    have hW := in6 _ hpm
    obtain ⟨c, hxc, hwc, w0, w1⟩ := mem_grp F hW
    have w0 : 1 ≤ w := w0
    have w1 : w ≤ 8 := w1
    have lsl : ls.length ≤ 10 := by
      have := congrArg List.length k1
      rw [List.length_map, List.length_take] at this
      omega
    walk_at "s"
    refine ⟨rfl, ?_⟩
    walk_at "r"
    refine ⟨cpow_small (by omega) (by omega), ?_⟩
    walk_at "r"
    rw [full1 w0 w1]
    refine ⟨Nat.le_of_ble_eq_true rfl, ?_⟩
    walk_at "s"
    refine pickNewF (f := fun b => D.str (opS (sgn b))) [true, false] (by omega) k5'.dr (by simp) (by simp) rfl fun pl st7 _ f7 => ?_
    walk_at "r"
    have fin : ∀ (E : Ends) (v : Int) st8, E.nx = N1 → Fra st7 st8 → sSeq (sExpr (dM tyLst appendM (dVar 5) (aCons (dCall (callN prog m) "_law_add" (aCons (dVar 7) (aCons (dVar 10) (aCons (dVar 11) (aCons (dVar 8) (aNil)))))) (aNil)))) (sExpr (dM tyLst appendM (dVar 6) (aCons (dTup (aCons (dVar 7) (aCons (dVar 8) (aCons (dIf (tTru (dCmp eqC (dVar 10) (dC (.str "+")))) (dVar 11) (dOp andK (dUn negK (dVar 11)) (dVar 9))) (aNil))))) (aNil)))) E [some (.ref 2), some (.ref en), some (gD e b), some (.ref nn), some (exD lm), some (.ref A), some (.ref (A + 1)), some (.str x), some (.int w), some (.int (fullI w)), some (.str (opS (sgn pl))), some (.int v), none, none, none] st8 := by
      intro E v st8 hEn f8
      obtain ⟨nx, rt, bk, ct⟩ := E
      have hEn' : nx = N1 := hEn
      subst hEn'
      have f78 := f7.trans f8
      have r1 := f78.rd k2 (by omega)
      have r2 := f78.rd k3 (by omega)
      have r3 := f78.rd k4 (by omega)
      walk_at "s"
      refine ⟨ty_at r1, ?_⟩
      walk_at "s"
      refine add_ok (by omega) ?_
      walk_at "s"
      refine append_at r1 (by rw [List.length_map, List.length_map]; unfold szl; omega) ?_
      have e1 : (ls.map letS).map stD ++ [stD (.lt (.name x) (.bin (sgn pl) (.name x) (.word v w)))] = ((ls ++ [(x, pl, v, w)]).map letS).map stD := by
        rw [List.map_append, List.map_append]
        rfl
      rw [e1]
      have q1 := rdL_set (ys := ((ls ++ [(x, pl, v, w)]).map letS).map stD) r1
      have q2 := rdL_ne (c := C.lst (((ls ++ [(x, pl, v, w)]).map letS).map stD)) r2 (show A + 1 ≠ A by omega)
      have q3 := rdL_ne (c := C.lst (((ls ++ [(x, pl, v, w)]).map letS).map stD)) r3 (show k ≠ A by omega)
      have q5 := rdL_ne (c := C.lst (((ls ++ [(x, pl, v, w)]).map letS).map stD)) (f78.rd kn (by omega)) (show nn ≠ A by omega)
      have q4 := (k5'.trans f78).set (n := A) (c := C.lst (((ls ++ [(x, pl, v, w)]).map letS).map stD)) (by omega) (by omega)
      generalize st8.set A (C.lst (((ls ++ [(x, pl, v, w)]).map letS).map stD)) = st9 at q1 q2 q3 q4 q5 ⊢
      walk_at "r"
      refine ⟨ty_at q2, ?_⟩
      have last : ∀ d, d = chD (chO (x, pl, v, w)) → nx [some (.ref 2), some (.ref en), some (gD e b), some (.ref nn), some (exD lm), some (.ref A), some (.ref (A + 1)), some (.str x), some (.int w), some (.int (fullI w)), some (.str (opS (sgn pl))), some (.int v), none, none, none] (st9.set (A + 1) (.lst ((ls.map chO).map chD ++ [d]))) := by
        intro d hd
        subst hd
        have e2 : (ls.map chO).map chD ++ [chD (chO (x, pl, v, w))] = ((ls ++ [(x, pl, v, w)]).map chO).map chD := by
          rw [List.map_append, List.map_append]
          rfl
        rw [e2]
        refine hN1 _ _ ⟨ls ++ [(x, pl, v, w)], _, _, _, _, _, ?_, rdL_ne q1 (by omega), rdL_set q2, rdL_ne q3 (by omega), rdL_ne q5 (by omega), q4.set (by omega) (by omega), rfl⟩
        rw [List.map_append, k1, List.take_add_one, hj]
        rfl
      cases pl with
      | true =>
        walk_at "s"
        refine ⟨by decide +kernel, by decide +kernel, ?_⟩
        walk_at "s"
        refine wayT (by decide +kernel) ?_
        walk_at "s"
        refine ⟨Nat.le_of_ble_eq_true rfl, ?_⟩
        walk_at "s"
        exact append_at q2 (by rw [List.length_map, List.length_map]; unfold szl; omega) (last _ rfl)
      | false =>
        walk_at "s"
        refine ⟨by decide +kernel, by decide +kernel, ?_⟩
        walk_at "s"
        refine wayF (by decide +kernel) ?_
        walk_at "s"
        refine ⟨Nat.le_of_ble_eq_true rfl, ?_⟩
        walk_at "s"
        exact append_at q2 (by rw [List.length_map, List.length_map]; unfold szl; omega) (last _ rfl)
    refine drawM (by omega) f7.dr (by decide) (by decide) fun r st8 r0 r1 f8 => ?_
    walk_at "s"
    refine way (fun h => ?_) (fun h => ?_)
    · walk_at "s"
      refine ⟨Nat.le_of_ble_eq_true rfl, ?_⟩
      walk_at "s"
      have f8' := f8.app (c := C.lst [.int 0, .int 1, .int (fullI w)])
      have r8' := rdL_new (st := st8) (xs := [.int 0, .int 1, .int (fullI w)])
      have lt8 := f8.dr.lt
      refine drawM (by omega) f8'.dr (by decide) (by decide) fun r' st9 r0' r1' f9 => ?_
      obtain ⟨v, hv⟩ : ∃ v, atD [D.int 0, .int 1, .int (fullI w)] r' = some (.int v) := by
        have : r' = 0 ∨ r' = 1 ∨ r' = 2 := by omega
        rcases this with rfl | rfl | rfl
        · exact ⟨_, rfl⟩
        · exact ⟨_, rfl⟩
        · exact ⟨_, rfl⟩
      refine ix_at (f9.rd r8' (by omega)) hv ?_
      walk_at "s"
      refine Nxt.mk ?_
      exact fin _ v st9 rfl (f8'.trans f9)
    · walk_at "s"
      refine drawW (by omega) w0 w1 f8.dr fun v st9 f9 => ?_
      walk_at "s"
      refine Nxt.mk ?_
      exact fin _ v st9 rfl (f8.trans f9)
  · subst e1
    refine ⟨.inl k4, ?_⟩
    rw [List.take_length] at k1
    have hfst : ls.map (·.1) = ps.map (·.1) := by
      rw [← k1, List.map_map]
      rfl
    have B : BlkIn e ls x0 lm := by
      have lsl : ls.length = ps.length := by
        have := congrArg List.length k1
        rwa [List.length_map] at this
      refine ⟨by rw [hfst]; exact nd6, fun l hl => in6 _ (k1 ▸ List.mem_map_of_mem hl), by omega, ?_, ?_, ox0, ?_, fun y hy => ?_⟩
      · rw [lsl]
        exact List.length_pos_of_mem x06
      · rw [hfst]
        exact List.mem_map_of_mem (f := (·.1)) x06
      · rcases hlm with ⟨v, w, rfl, _⟩ | ⟨rfl, _⟩ <;> rfl
      · subst hy
        rcases hlm with ⟨v, w, h, _⟩ | ⟨h, hw⟩
        · cases h
        · cases h
          refine ⟨?_, b, i1⟩
          rw [hfst]
          intro h
          obtain ⟨p, hp, h⟩ := List.mem_map.mp h
          exact n16 hw p hp h
    have ol : Xo lm ∧ dep lm = 0 := by
      rcases hlm with ⟨v, w, rfl, _⟩ | ⟨rfl, _⟩
      · exact ⟨trivial, rfl⟩
      · exact ⟨ox1, rfl⟩
    walk_at "r"
    refine ⟨Nat.le_of_ble_eq_true rfl, ?_⟩
    walk_at "s"
    refine pickNewF (f := fun o => D.str (opS o)) [.lt, .le, .ne] (by omega) k5'.dr (by simp) (by simp) rfl fun o st7 ho f7 => ?_
    have oo : cmp3 o = true := by
      simp at ho
      rcases ho with rfl | rfl | rfl <;> rfl
    have n7 := f7.rd kn (by omega)
    walk_at "t"
    refine ix_at n7 rfl ?_
    walk_at "t"
    refine drawM (by omega) f7.dr (by decide) (by decide) fun wy st8 w0 w1 f8 => ?_
    have f78 := f7.trans f8
    have f08 := k5'.trans f78
    have hE8 := hE.fra f08
    have n8 := f8.rd n7 (by omega)
    have a8 := f78.rd k2 (by omega)
    have b8 := f78.rd k3 (by omega)
    have xt : Xd (.bin o (.name x0) lm) := ⟨⟨cmp3_ok oo, ox0, ol.1⟩, by simp only [dep]; omega⟩
    have few := B.few
    have G := GoodL.lets F B.inn (by omega)
    walk_at "r"
    refine way (fun h => ?_) (fun h => ?_)
    · walk_at "s"
      refine tuple_at a8 ?_
      walk_at "t"
      refine ix_at n8 rfl ?_
      walk_at "s"
      refine tuple_at b8 ?_
      walk_at "t"
      have L := Lp.mk' (e := e) xt G
      rw [shM_good oo B] at L
      have e9 : stD (.wh (.bin o (.name x0) lm) (ofL (ls.map letS))) = .tup [.str "while", exD (.bin o (.name x0) lm), .tup ((ls.map letS).map stD)] := by rw [stD, blL_of]
      have := q _ _ _ L f08
      rw [e9] at this
      exact this
    walk_at "r"
    refine way (fun h => ?_) (fun h => ?_)
    · walk_at "t"
      refine badT_ok (by omega) f08.dr hE8 F ox0 oo ol.1 ol.2 B.lim fun t st9 ht f9 => ?_
      walk_at "s"
      refine tuple_at (f9.rd a8 (by omega)) ?_
      walk_at "t"
      have L := Lp.mk' (e := e) ht.1 G
      have hn : shM t (ls.map letS) = none := by
        refine ht.2 _ (ls.map chO) (by rw [chgs_lets (by simpa using B.nd)]; rfl) (by rw [has_iff, fst_chO]; exact B.hx0) (fun y hy => by rw [has_not, fst_chO]; exact (B.l1 y hy).1) ?_
        rw [has_not, fst_chO]
        intro h
        obtain ⟨l, hl, h⟩ := List.mem_map.mp h
        obtain ⟨c, hc, _⟩ := mem_grp F (B.inn l hl)
        exact (F.refs hc).1 h
      rw [hn] at L
      have e9 : stD (.wh t (ofL (ls.map letS))) = .tup [.str "while", exD t, .tup ((ls.map letS).map stD)] := by rw [stD, blL_of]
      have := q _ _ _ L (f08.trans f9)
      rw [e9] at this
      exact this
    walk_at "r"
    refine badB_ok (by omega) f08.dr hE8 F B a8 (by omega) fun k9 l st9 hG hsh hr f9 => ?_
    walk_at "s"
    refine tuple_at hr ?_
    walk_at "t"
    have L := Lp.mk' (e := e) xt hG
    rw [hsh] at L
    have e9 : stD (.wh (.bin o (.name x0) lm) (ofL l)) = .tup [.str "while", exD (.bin o (.name x0) lm), .tup (l.map stD)] := by rw [stD, blL_of]
    have := q _ _ _ L (f08.trans f9)
    rw [e9] at this
    exact this
end Pk52
end PartPdk52P16

section PartPdk52P17
set_option Elab.async false
set_option linter.all false
set_option maxRecDepth 100000
set_option maxHeartbeats 2000000
/-! k52, seventeenth text: pieces. Own work. -/
namespace Pk52
open PySem Pd
local macro_rules | `(tactic| walk_at "s") => `(tactic| (repeat (refine Red.red ?_)))
local macro_rules | `(tactic| walk_at "r") => `(tactic| (repeat (first | refine Red.red ?_ | refine Nxt.mk ?_)))
local macro_rules | `(tactic| walk_at "t") => `(tactic| (repeat (first | refine Red.red ?_ | refine Nxt.mk ?_ | refine ⟨by decide +kernel, by decide +kernel, wayF (by decide +kernel) ?_⟩ | refine ⟨by decide +kernel, by decide +kernel, wayT (by decide +kernel) ?_⟩ | refine ⟨by decide +kernel, ?_⟩ | refine ⟨Nat.le_of_ble_eq_true rfl, ?_⟩ | refine at_is rfl ?_)))
local instance inTup17 {x : D} {xs : List D} {st : Store} {r : Bool → Prop} : Red (inC x (.tup xs) st r) (x.flat = true ∧ xs.all D.flat = true ∧ r (xs.any fun y => D.eqb y x)) := ⟨id⟩
variable {k m n : Nat} {st st' : Store} {Q : K}
local instance notinTup17 {x : D} {xs : List D} {st : Store} {r : Bool → Prop} : Red (notinC x (.tup xs) st r) (x.flat = true ∧ xs.all D.flat = true ∧ r (!(xs.any fun y => D.eqb y x))) := ⟨id⟩
variable {W : List (Str × Int)} {kn : Nat}
variable {en : Nat} {e : En}
/-- a statement with the dues of its whiles -/
structure Pc (e : En) (s : St) (ds : List D) : Prop where
  so : So (WE e) s
  dp : bdS s ≤ 3
  few : (preS s).length ≤ 100
  due : (preS s).flatMap whDue = ds
theorem Lp.pc {s : St} {d : D} (h : Lp e s d) : Pc e s [d] := ⟨h.so, by have := h.dp; omega, by have := h.few; omega, h.due⟩
theorem Oth.pc {s : St} (h : Oth (WE e) s) : Pc e s [] := ⟨h.so, by have := h.dp; omega, by rw [h.one]; simp, by rw [h.one]; simpa using whDue_no h.nw⟩
def B1 (s : St) : Bl := .cons s .nil
theorem B1_D (s : St) : blL (B1 s) = [stD s] := by simp [B1, blL]
theorem B1_so {W : List (Str × Int)} {s : St} (h : So W s) : SoB W (B1 s) := ⟨by simp [toL], h, trivial⟩
theorem B1_pre (s : St) : pre (B1 s) = preS s := by simp [B1, pre]
theorem B1_bd (s : St) : bd (B1 s) = bdS s := by simp [B1, bd]
theorem piece_ok (hm : 9 ≤ m) (hd : DrawAt st) (hE : EnAt st en e) (F : EnF e) (q : ∀ s ds k st', Pc e s ds → ds.length ≤ 2 → st.length ≤ k → rdL st' k ds → Fra st st' → Q (.tup [stD s, .ref k]) st') : callN prog m "_law_piece" [.ref 2, .ref en] st Q := by
  obtain ⟨m, rfl⟩ : ∃ n, m = n + 1 := ⟨m - 1, by omega⟩
  refine call_intro rfl rfl ?_
  unfold b_l_piece
  walk_at "s"
  refine loop_ok (by omega) hd hE F fun s d st1 L f1 => ?_
  have hE1 := hE.fra f1
  walk_at "s"
  refine ⟨rfl, ?_⟩
  walk_at "r"
  refine drawM (by omega) f1.dr (by decide) (by decide) fun r st2 r0 r1 f2 => ?_
  have f12 := f1.trans f2
  have hE2 := hE.fra f12
  walk_at "r"
  refine test_ok (by omega) f12.dr hE2 F fun t st3 ht f3 => ?_
  have f13 := f12.trans f3
  have hE3 := hE.fra f13
  have le3 := f13.le
  have dp := L.dp
  have few := L.few
  walk_at "r"
  -- 0
  refine way (fun h => ?_) (fun h => ?_)
  · walk_at "t"
    have e9 : stD (.ifs t (B1 s) .nil) = .tup [.str "if", exD t, .tup [stD s], .tup []] := by rw [stD, B1_D, blL]
    rw [← e9]
    refine q _ [d] _ _ ⟨by rw [So]; exact ⟨ht, B1_so L.so, trivial⟩, by rw [bdS, B1_bd, bd]; omega, by rw [preS, B1_pre, pre]; simp; omega, ?_⟩ (by simp) le3 rdL_new f13.app
    rw [preS, B1_pre, pre, List.append_nil, List.flatMap_cons, L.due]
    rfl
  walk_at "r"
  -- 1
  refine way (fun h => ?_) (fun h => ?_)
  · walk_at "t"
    have e9 : stD (.ifs t .nil (B1 s)) = .tup [.str "if", exD t, .tup [], .tup [stD s]] := by rw [stD, B1_D, blL]
    rw [← e9]
    refine q _ [d] _ _ ⟨by rw [So]; exact ⟨ht, trivial, B1_so L.so⟩, by rw [bdS, B1_bd, bd]; omega, by rw [preS, B1_pre, pre]; simp; omega, ?_⟩ (by simp) le3 rdL_new f13.app
    rw [preS, B1_pre, pre, List.nil_append, List.flatMap_cons, L.due]
    rfl
  walk_at "r"
  -- 2
  refine way (fun h => ?_) (fun h => ?_)
  · walk_at "t"
    refine ix_at hE3.c rfl ?_
    walk_at "t"
    have e9 : stD (.tr (B1 s) e.ca .nil) = .tup [.str "try", .tup [stD s], .tup [.tup [.str e.ca, .tup []]]] := by rw [stD, B1_D, blL]
    rw [← e9]
    refine q _ [d] _ _ ⟨by rw [So]; exact ⟨F.oc, F.ca, B1_so L.so, trivial⟩, by rw [bdS, B1_bd, bd]; omega, by rw [preS, B1_pre, pre]; simp; omega, ?_⟩ (by simp) le3 rdL_new f13.app
    rw [preS, B1_pre, pre, List.append_nil, List.flatMap_cons, L.due]
    rfl
  walk_at "r"
  -- 3
  refine way (fun h => ?_) (fun h => ?_)
  · walk_at "t"
    refine other_ok (W := WE e) (by omega) f13.dr hE3 F fun u st4 hu f4 => ?_
    have f14 := f13.trans f4
    have hE4 := hE.fra f14
    walk_at "t"
    refine ix_at hE4.c rfl ?_
    walk_at "t"
    have e9 : stD (.tr (B1 u) e.ca (B1 s)) = .tup [.str "try", .tup [stD u], .tup [.tup [.str e.ca, .tup [stD s]]]] := by rw [stD, B1_D, B1_D]
    rw [← e9]
    have up := hu.pc
    have udp := hu.dp
    refine q _ [d] _ _ ⟨by rw [So]; exact ⟨F.oc, F.ca, B1_so hu.so, B1_so L.so⟩, by rw [bdS, B1_bd, B1_bd]; omega, by rw [preS, B1_pre, B1_pre, hu.one]; simp; omega, ?_⟩ (by simp) f14.le rdL_new f14.app
    rw [preS, B1_pre, B1_pre, List.flatMap_cons, List.flatMap_append, up.due, L.due]
    rfl
  walk_at "r"
  -- 4
  refine way (fun h => ?_) (fun h => ?_)
  · walk_at "t"
    have e9 : stD (.wh t (B1 s)) = .tup [.str "while", exD t, .tup [stD s]] := by rw [stD, B1_D]
    rw [← e9]
    refine q _ [.non, d] _ _ ⟨by rw [So]; exact ⟨ht, by simp [B1, toL], B1_so L.so⟩, by rw [bdS, B1_bd]; omega, by rw [preS, B1_pre]; simp; omega, ?_⟩ (by simp) le3 rdL_new f13.app
    rw [preS, B1_pre, List.flatMap_cons, L.due]
    have : shM t (toL (B1 s)) = none := shM_dead (dead_of (s := s) (by simp [B1, toL]) L.ch)
    show [dueD (shM t (toL (B1 s)))] ++ [d] = _
    rw [this]
    rfl
  walk_at "r"
  -- 5
  refine way (fun h => ?_) (fun h => ?_)
  · walk_at "t"
    refine loop_ok (by omega) f13.dr hE3 F fun s' d' st4 L' f4 => ?_
    have f14 := f13.trans f4
    have dp' := L'.dp
    have few' := L'.few
    walk_at "s"
    refine ⟨rfl, ?_⟩
    walk_at "t"
    have e9 : stD (.ifs t (B1 s') (B1 s)) = .tup [.str "if", exD t, .tup [stD s'], .tup [stD s]] := by rw [stD, B1_D, B1_D]
    rw [← e9]
    refine q _ [d', d] _ _ ⟨by rw [So]; exact ⟨ht, B1_so L'.so, B1_so L.so⟩, by rw [bdS, B1_bd, B1_bd]; omega, by rw [preS, B1_pre, B1_pre]; simp; omega, ?_⟩ (by simp) f14.le rdL_new f14.app
    rw [preS, B1_pre, B1_pre, List.flatMap_cons, List.flatMap_append, L'.due, L.due]
    rfl
  walk_at "t"
  exact q _ [d] _ _ L.pc (by simp) le3 rdL_new f13.app
end Pk52
end PartPdk52P17

section PartPdk52P18
set_option Elab.async false
set_option linter.all false
set_option maxRecDepth 100000
set_option maxHeartbeats 2000000
/-! k52, eighteenth text: surroundings. Own work. -/
namespace Pk52
open PySem Pd
local macro_rules | `(tactic| walk_at "s") => `(tactic| (repeat (refine Red.red ?_)))
local macro_rules | `(tactic| walk_at "r") => `(tactic| (repeat (first | refine Red.red ?_ | refine Nxt.mk ?_)))
local macro_rules | `(tactic| walk_at "t") => `(tactic| (repeat (first | refine Red.red ?_ | refine Nxt.mk ?_ | refine ⟨by decide +kernel, by decide +kernel, wayF (by decide +kernel) ?_⟩ | refine ⟨by decide +kernel, by decide +kernel, wayT (by decide +kernel) ?_⟩ | refine ⟨by decide +kernel, ?_⟩ | refine ⟨Nat.le_of_ble_eq_true rfl, ?_⟩ | refine at_is rfl ?_)))
local instance inTup18 {x : D} {xs : List D} {st : Store} {r : Bool → Prop} : Red (inC x (.tup xs) st r) (x.flat = true ∧ xs.all D.flat = true ∧ r (xs.any fun y => D.eqb y x)) := ⟨id⟩
variable {k m n : Nat} {st st' : Store} {Q : K}
local instance notinTup18 {x : D} {xs : List D} {st : Store} {r : Bool → Prop} : Red (notinC x (.tup xs) st r) (x.flat = true ∧ xs.all D.flat = true ∧ r (!(xs.any fun y => D.eqb y x))) := ⟨id⟩
variable {W : List (Str × Int)} {kn : Nat}
variable {en pn : Nat} {e : En} {pl : List Str}
theorem lc_2 {g : TG} {te : TE} {ρ : Pd.Env} {x y : D}
    (h : g x ρ st fun ρ2 st2 => te ρ2 st2 fun d1 st3 => rdL st3 n [] ∧ (g y ρ (st3.set n (.lst [d1])) fun ρ3 st4 => te ρ3 st4 fun d2 st5 => rdL st5 n [d1] ∧ (rdL (st5.set n (.lst [d1, d2])) n [d1, d2] → Q (.ref n) (st5.set n (.lst [d1, d2]))))) : lcLoop (fun _ => True) g tYes te ρ n Q [x, y] [] st := by
  have yes : ∀ (u : D) (st' : Store) (N : D → Store → Prop) (M : Store → Prop), (g u ρ st' fun ρ2 st2 => te ρ2 st2 N) = (g u ρ st' fun ρ2 st2 => tYes ρ2 st2 fun b st3 => (b = true → te ρ2 st3 N) ∧ (b = false → M st3)) := by
    intro u st' N M
    have e1 : (fun (ρ2 : Pd.Env) (st2 : Store) => tYes ρ2 st2 fun b st3 => (b = true → te ρ2 st3 N) ∧ (b = false → M st3)) = fun ρ2 st2 => te ρ2 st2 N := by
      funext ρ2 st2
      exact propext ⟨fun q => q.1 rfl, fun q => ⟨fun _ => q, fun e => nomatch e⟩⟩
    rw [e1]
  refine ⟨trivial, ?_⟩
  rw [← yes]
  have e2 : (fun (d1 : D) (st3 : Store) => rdL st3 n [] ∧ (g y ρ (st3.set n (.lst [d1])) fun ρ3 st4 => te ρ3 st4 fun d2 st5 => rdL st5 n [d1] ∧ (rdL (st5.set n (.lst [d1, d2])) n [d1, d2] → Q (.ref n) (st5.set n (.lst [d1, d2]))))) = fun (y1 : D) (st4 : Store) => rdL st4 n [] ∧ ([] : List D).length < szl ∧ lcLoop (fun _ => True) g tYes te ρ n Q [y] ([] ++ [y1]) (st4.set n (.lst ([] ++ [y1]))) := by
    funext d1 st3
    refine propext ⟨fun ⟨h1, h2⟩ => ⟨h1, by decide, trivial, ?_⟩, fun ⟨h1, _, _, h2⟩ => ⟨h1, ?_⟩⟩
    · rw [← yes]
      have e3 : (fun (d2 : D) (st5 : Store) => rdL st5 n [d1] ∧ (rdL (st5.set n (.lst [d1, d2])) n [d1, d2] → Q (.ref n) (st5.set n (.lst [d1, d2])))) = fun (y2 : D) (st5 : Store) => rdL st5 n ([] ++ [d1]) ∧ ([] ++ [d1]).length < szl ∧ lcLoop (fun _ => True) g tYes te ρ n Q [] ([] ++ [d1] ++ [y2]) (st5.set n (.lst ([] ++ [d1] ++ [y2]))) := by
        funext d2 st5
        refine propext ⟨fun ⟨h1, h2⟩ => ⟨h1, by show 1 < szl; decide, trivial, rdL_set h1, h2 (rdL_set h1)⟩, fun ⟨h1, _, _, _, h2⟩ => ⟨h1, fun _ => h2⟩⟩
      rw [← e3]
      exact h2
    · rw [← yes] at h2
      have e3 : (fun (d2 : D) (st5 : Store) => rdL st5 n [d1] ∧ (rdL (st5.set n (.lst [d1, d2])) n [d1, d2] → Q (.ref n) (st5.set n (.lst [d1, d2])))) = fun (y2 : D) (st5 : Store) => rdL st5 n ([] ++ [d1]) ∧ ([] ++ [d1]).length < szl ∧ lcLoop (fun _ => True) g tYes te ρ n Q [] ([] ++ [d1] ++ [y2]) (st5.set n (.lst ([] ++ [d1] ++ [y2]))) := by
        funext d2 st5
        refine propext ⟨fun ⟨h1, h2⟩ => ⟨h1, by show 1 < szl; decide, trivial, rdL_set h1, h2 (rdL_set h1)⟩, fun ⟨h1, _, _, _, h2⟩ => ⟨h1, fun _ => h2⟩⟩
      rw [← e3] at h2
      exact h2
  rw [← e2]
  exact h
theorem surr_ok {rc : Str} (hm : 4 ≤ m) (hd : DrawAt st) (hp : PoolIs st pn pl) (hl : 20 ≤ pl.length) (orc : okS rc = true) (q : ∀ en e st', EnAt st' en e → EnF e → e.rc = rc → st.length ≤ en → FraE pn st st' → Q (.ref en) st') : callN prog m "_law_surroundings" [.ref 2, .ref pn, .str rc] st Q := by
  obtain ⟨m, rfl⟩ : ∃ n, m = n + 1 := ⟨m - 1, by omega⟩
  refine call_intro rfl rfl ?_
  unfold b_l_surroundings
  have hd2 := hd.lt
  have big := hp.big
  have pb := rdL_lt hp.cell
  walk_at "s"
  refine drawM (by omega) hd (by decide) (by decide) fun u0 st1 u00 u01 f1 => ?_
  walk_at "s"
  refine drawM (by omega) f1.dr (by decide) (by decide) fun u1 st2 u10 u11 f2 => ?_
  have f12 := f1.trans f2
  have le2 := f12.le
  walk_at "s"
  refine ⟨Nat.le_of_ble_eq_true rfl, ?_⟩
  walk_at "s"
  refine Nxt.mk ?_
  have fA := f12.app (c := C.lst [.int (1 + u0), .int (1 + u1)])
  have rA := rdL_new (st := st2) (xs := [.int (1 + u0), .int (1 + u1)])
  have hpA := hp.fra fA
  have lA := rdL_lt rA
  have hwn : 2 < st2.length := by omega
  have hwp : st2.length ≠ pn := by omega
  generalize st2 ++ [C.lst [.int (1 + u0), .int (1 + u1)]] = stA at fA rA hpA lA ⊢
  generalize st2.length = wn at rA lA hwn hwp ⊢
  walk_at "s"
  have fB := fA.app (c := C.lst [])
  have rB := rdL_new (st := stA) (xs := [])
  have hpB := hp.fra fB
  have rAB := rdL_app (c := C.lst []) rA
  have lAl := fA.le
  have hgn : stA.length ≠ pn := by omega
  have hgw : stA.length ≠ wn := by omega
  have hg2 : 2 < stA.length := by omega
  generalize stA ++ [C.lst []] = stB at fB rB hpB rAB ⊢
  generalize stA.length = gn at rB hgn hgw hg2 lA lAl ⊢
  refine ⟨by decide, by decide, ?_⟩
  show lcLoop (fun _ => True) _ tYes _ _ gn _ [.int 0, .int 1] [] stB
  refine lc_2 ?_
  walk_at "s"
  refine ix_at rAB rfl ?_
  walk_at "s"
  refine ⟨by decide, by decide, ?_⟩
  refine lc_pops fB.dr hpB (by show 4 ≤ pl.length; omega) (fun _ => trivial) (fun x _ st' pl' hd' hp' h0' N hN => ?_) (fun a0 stC pl1 h0 G1 hpC fC rC => ?_)
  · walk_at "s"
    exact popM (by omega) hd' hp' h0' fun s pl2 st2 h1 h2 h3 h4 h5 h6 => hN s st2 pl2 h1 h2 h3 h4 h5 h6
  have h0 : a0.length = 4 := h0
  have G1l := G1.len
  walk_at "s"
  refine ⟨Nat.le_of_ble_eq_true rfl, ?_⟩
  have rgC := fC.rd rB (by omega) hgn
  refine ⟨rgC, ?_⟩
  have rwC := fC.rd rAB (by omega) hwp
  have lBC := fC.le
  have lBg := rdL_lt rB
  have n0g : stB.length ≠ gn := by omega
  have pbB := rdL_lt hpB.cell
  have fD := (((FraE.of fB).trans fC).setN (c := C.lst [.tup [.int (1 + u0), .ref stB.length]]) (n := gn) lAl hg2)
  have rgD := rdL_set (ys := [D.tup [.int (1 + u0), .ref stB.length]]) rgC
  have rwD := rdL_ne (c := C.lst [.tup [.int (1 + u0), .ref stB.length]]) rwC (fun h => hgw h.symm)
  have r0D := rdL_ne (c := C.lst [.tup [.int (1 + u0), .ref stB.length]]) rC n0g
  have hpD : PoolIs (stC.set gn (.lst [.tup [.int (1 + u0), .ref stB.length]])) pn pl1 := ⟨rdL_ne hpC.cell (fun h => hgn h.symm), hpC.nd, hpC.fine, hpC.few, hpC.big⟩
  have n0b : 2 < stB.length := by omega
  have n0p : stB.length ≠ pn := by omega
  generalize stC.set gn (C.lst [.tup [.int (1 + u0), .ref stB.length]]) = stD' at fD rgD rwD r0D hpD ⊢
  generalize stB.length = n0 at fD rgD rwD r0D n0g n0b n0p ⊢
  walk_at "s"
  refine ix_at rwD rfl ?_
  walk_at "s"
  refine ⟨by decide, by decide, ?_⟩
  have r0Dl := rdL_lt r0D
  have rgDl := rdL_lt rgD
  have rwDl := rdL_lt rwD
  refine lc_pops fD.dr hpD (by show 3 ≤ pl1.length; omega) (fun _ => trivial) (fun x _ st' pl' hd' hp' h0' N hN => ?_) (fun a1 stE pl2 h1 G2 hpE fE rE => ?_)
  · walk_at "s"
    exact popM (by omega) hd' hp' h0' fun s pl2 st2 h1 h2 h3 h4 h5 h6 => hN s st2 pl2 h1 h2 h3 h4 h5 h6
  have h1 : a1.length = 3 := h1
  have G2l := G2.len
  walk_at "s"
  refine ⟨Nat.le_of_ble_eq_true rfl, ?_⟩
  have rgE := fE.rd rgD (by omega) hgn
  refine ⟨rgE, fun rgF => ?_⟩
  have pbD := rdL_lt hpD.cell
  have lDE := fE.le
  have n1g : stD'.length ≠ gn := by omega
  have fF := ((fD.trans fE).setN (c := C.lst [.tup [.int (1 + u0), .ref n0], .tup [.int (1 + u1), .ref stD'.length]]) (n := gn) lAl hg2)
  have rwF := rdL_ne (c := C.lst [.tup [.int (1 + u0), .ref n0], .tup [.int (1 + u1), .ref stD'.length]]) (fE.rd rwD (by omega) hwp) (fun h => hgw h.symm)
  have r0F := rdL_ne (c := C.lst [.tup [.int (1 + u0), .ref n0], .tup [.int (1 + u1), .ref stD'.length]]) (fE.rd r0D (by omega) n0p) n0g
  have r1F := rdL_ne (c := C.lst [.tup [.int (1 + u0), .ref n0], .tup [.int (1 + u1), .ref stD'.length]]) rE n1g
  have hpF : PoolIs (stE.set gn (.lst [.tup [.int (1 + u0), .ref n0], .tup [.int (1 + u1), .ref stD'.length]])) pn pl2 := ⟨rdL_ne hpE.cell (fun h => hgn h.symm), hpE.nd, hpE.fine, hpE.few, hpE.big⟩
  have n1b : 2 < stD'.length := by omega
  have n1p : stD'.length ≠ pn := by omega
  generalize stE.set gn (C.lst [.tup [.int (1 + u0), .ref n0], .tup [.int (1 + u1), .ref stD'.length]]) = stF at fF rgF rwF r0F r1F hpF ⊢
  generalize stD'.length = n1 at fF rgF rwF r0F r1F n1g n1b n1p ⊢
  have GA := G1.trans G2
  walk_at "r"
  refine popM (by omega) fF.dr hpF (by omega) fun ar pl3 stG hpG lG nG iG sG fG => ?_
  have GB := GA.more lG nG iG sG
  have rwG := fG.rd rwF (by omega) hwp
  walk_at "s"
  refine ix_at rwG rfl ?_
  walk_at "s"
  refine drawM (by omega) fG.dr (by decide) (by decide) fun u2 stH u20 u21 fH => ?_
  have hpH := hpG.fra fH
  walk_at "s"
  refine ⟨Nat.le_of_ble_eq_true rfl, ?_⟩
  walk_at "r"
  refine popM (by omega) fH.dr hpH (by omega) fun r0 pl4 stI hpI lI nI iI sI fI => ?_
  have GC := GB.more lI nI iI sI
  walk_at "s"
  refine popM (by omega) fI.dr hpI (by omega) fun r1 pl5 stJ hpJ lJ nJ iJ sJ fJ => ?_
  have GD := GC.more lJ nJ iJ sJ
  walk_at "s"
  refine ⟨Nat.le_of_ble_eq_true rfl, ?_⟩
  have fFJ := ((fG.trans (.of fH)).trans fI).trans fJ
  have bF := rdL_lt rgF
  have b0 := rdL_lt r0F
  have b1 := rdL_lt r1F
  have leJ := (fF.trans fFJ).le
  have fN : FraE pn st (stJ ++ [C.lst [.str r0, .str r1]]) := (fF.trans fFJ).trans (.of ((Fra.refl fJ.dr).app))
  have rrK := rdL_new (st := stJ) (xs := [.str r0, .str r1])
  have hpK : PoolIs (stJ ++ [C.lst [.str r0, .str r1]]) pn pl5 := hpJ.fra ((Fra.refl fJ.dr).app)
  have rgK := rdL_app (c := C.lst [.str r0, .str r1]) (fFJ.rd rgF (by omega) hgn)
  have r0K := rdL_app (c := C.lst [.str r0, .str r1]) (fFJ.rd r0F (by omega) n0p)
  have r1K := rdL_app (c := C.lst [.str r0, .str r1]) (fFJ.rd r1F (by omega) n1p)
  have dJ := fJ.dr.lt
  have rnp : stJ.length ≠ pn := by omega
  generalize stJ ++ [C.lst [.str r0, .str r1]] = stK at fN rrK hpK rgK r0K r1K ⊢
  generalize stJ.length = rn at rrK leJ rnp dJ ⊢
  walk_at "r"
  refine popM (by omega) fN.dr hpK (by omega) fun ca pl6 stL hpL lL nL iL sL fL => ?_
  have GE := GD.more lL nL iL sL
  walk_at "s"
  refine drawM (by omega) fL.dr (by decide) (by decide) fun u3 stM u30 u31 fM => ?_
  have fKM := fL.trans (.of fM)
  walk_at "s"
  refine ⟨Nat.le_of_ble_eq_true rfl, ?_⟩
  walk_at "s"
  have fine : ∀ s ∈ a0 ++ a1 ++ [ar] ++ [r0] ++ [r1] ++ [ca], okS s = true ∧ hdK (.str s) = 0 := fun s hs => hp.fine s (GE.inn s hs)
  have nd := GD.nd
  have lst := (fN.trans fKM).le
  refine q _ ⟨gn, rn, n0, n1, 1 + u0, 1 + u1, a0, a1, ar, 1 + u2, r0, r1, ca, rc, 1 + u3⟩ _ ⟨rdL_new, rdL_app (fKM.rd rgK (Nat.ne_of_gt hg2) hgn), fun b => ?_, rdL_app (fKM.rd rrK (Nat.ne_of_gt dJ) rnp), by omega, hg2, fun b => ?_, dJ⟩ ⟨by show 1 ≤ 1 + u0 ∧ 1 + u0 ≤ 8; omega, by show 1 ≤ 1 + u1 ∧ 1 + u1 ≤ 8; omega, by show 1 ≤ 1 + u3 ∧ 1 + u3 ≤ 8; omega, h0, h1, ?_, fun s hs => ?_, (fine ca (by simp)).1, orc, (fine ca (by simp)).2⟩ rfl lst ((fN.trans fKM).trans (.of ((Fra.refl fM.dr).app)))
  · cases b
    · exact rdL_app (fKM.rd r0K (Nat.ne_of_gt n0b) n0p)
    · exact rdL_app (fKM.rd r1K (Nat.ne_of_gt n1b) n1p)
  · cases b
    · exact n0b
    · exact n1b
  · simpa [List.append_assoc] using nd
  · refine (fine s ?_).1
    have hs : s ∈ a0 ++ (a1 ++ [ar, r0, r1]) := hs
    simp only [List.mem_append, List.mem_cons, List.not_mem_nil, or_false] at hs ⊢
    rcases hs with h | h | h | h | h
    · exact .inl (.inl (.inl (.inl (.inl h))))
    · exact .inl (.inl (.inl (.inl (.inr h))))
    · exact .inl (.inl (.inl (.inr h)))
    · exact .inl (.inl (.inr h))
    · exact .inl (.inr h)
end Pk52
end PartPdk52P18

section PartPdk52P19
set_option Elab.async false
set_option linter.all false
set_option maxRecDepth 100000
set_option maxHeartbeats 2000000
/-! k52, nineteenth text: what is due. Own work. -/
namespace Pk52
open PySem Pd
local macro_rules | `(tactic| walk_at "s") => `(tactic| (repeat (refine Red.red ?_)))
local macro_rules | `(tactic| walk_at "r") => `(tactic| (repeat (first | refine Red.red ?_ | refine Nxt.mk ?_)))
local macro_rules | `(tactic| walk_at "t") => `(tactic| (repeat (first | refine Red.red ?_ | refine Nxt.mk ?_ | refine ⟨by decide +kernel, by decide +kernel, wayF (by decide +kernel) ?_⟩ | refine ⟨by decide +kernel, by decide +kernel, wayT (by decide +kernel) ?_⟩ | refine ⟨by decide +kernel, ?_⟩ | refine ⟨Nat.le_of_ble_eq_true rfl, ?_⟩ | refine at_is rfl ?_)))
local instance inTup19 {x : D} {xs : List D} {st : Store} {r : Bool → Prop} : Red (inC x (.tup xs) st r) (x.flat = true ∧ xs.all D.flat = true ∧ r (xs.any fun y => D.eqb y x)) := ⟨id⟩
variable {k m n : Nat} {st st' : Store} {Q : K}
local instance notinTup19 {x : D} {xs : List D} {st : Store} {r : Bool → Prop} : Red (notinC x (.tup xs) st r) (x.flat = true ∧ xs.all D.flat = true ∧ r (!(xs.any fun y => D.eqb y x))) := ⟨id⟩
variable {W : List (Str × Int)} {kn : Nat}
variable {en pn : Nat} {e : En} {pl : List Str}
abbrev Sh := Str × Op × Ex × List Chg
/-- the whiles, with numbers -/
def wz1 (N : Int) : St → List (Int × Option Sh)
  | .wh t b => [(N + (looks (.wh t b) : Int), shM t (toL b))]
  | _ => []
def whz : List St → Int → List (Int × Option Sh)
  | [], _ => []
  | s :: r, N => wz1 N s ++ whz r (N + own s)
theorem whz_fst : ∀ (l : List St) (N : Int), (whz l N).map (·.1) = whN l N
  | [], _ => rfl
  | s :: l, N => by
    rw [whz, whN, List.map_append, whz_fst l]
    cases s <;> rfl
theorem whz_snd : ∀ (l : List St) (N : Int), (whz l N).map (fun z => dueD z.2) = l.flatMap whDue
  | [], _ => rfl
  | s :: l, N => by
    rw [whz, List.flatMap_cons, List.map_append, whz_snd l]
    cases s <;> rfl
theorem whz_cl : ∀ (l : List St) (N : Int), ((whz l N).filter fun z => z.2.isSome).map (fun z => shD z.1 z.2) = cl l N
  | [], _ => rfl
  | s :: l, N => by
    rw [whz, cl, List.filter_append, List.map_append, whz_cl l]
    have e1 : N + own s = N + (looks s : Int) + bmp s := by unfold own; omega
    rw [e1]
    congr 1
    cases s with
    | wh t b =>
      have e2 : at1 (N + (looks (.wh t b) : Int)) (.wh t b) = match shM t (toL b) with | none => [] | some d => [shD (N + (looks (.wh t b) : Int)) (some d)] := rfl
      rw [e2]
      show ([(N + (looks (.wh t b) : Int), shM t (toL b))].filter fun z => z.2.isSome).map (fun z => shD z.1 z.2) = _
      cases h : shM t (toL b) with
      | none => rfl
      | some c => rfl
    | _ => rfl
theorem whz_len (l : List St) (N : Int) : (whz l N).length ≤ l.length := by
  have := whN_len l N
  rw [← whz_fst, List.length_map] at this
  exact this
theorem shM_in {t : Ex} {l : List St} {x : Str} {o : Op} {r : Ex} {cs : List Chg} (h : shM t l = some (x, o, r, cs)) : t = .bin o (.name x) r ∧ chgs l [] = some cs := by
  unfold shM at h
  split at h
  · cases hc : chgs l [] with
    | none => rw [hc] at h; cases h
    | some c =>
      rw [hc] at h
      have h' : shB t c = some (x, o, r, cs) := h
      unfold shB at h'
      split at h'
      · split at h'
        · cases h'
          exact ⟨rfl, rfl⟩
        · cases h'
      · cases h'
  · cases h
theorem chg_name {s : St} {c : Chg} {W : List (Str × Int)} (hs : So W s) (h : chg s = some c) : okS c.1 = true := by
  cases s with
  | lt p v =>
    rw [So] at hs
    cases p with
    | name x =>
      have ox : okS x = true := hs.1.1
      cases v with
      | bin o a b =>
        cases b with
        | word v w =>
          cases o <;> simp only [chg] at h <;> first | (split at h <;> cases h; exact ox) | cases h
        | _ => cases o <;> simp [chg] at h
      | _ => simp [chg] at h
    | _ => simp [chg] at h
  | _ => simp [chg] at h
theorem wks_of {n : Nat} {xs : List D} (h : ∀ x ∈ xs, wk n x = true) : wks n xs = true := by
  rw [wks_all]
  exact List.all_eq_true.mpr h
theorem wk_sh {W : List (Str × Int)} {t : Ex} {b : Bl} {N : Int} {c : Sh} (hs : So W (.wh t b)) (h : shM t (toL b) = some c) : wk 12 (shD N (some c)) = true := by
  obtain ⟨x, o, r, cs⟩ := c
  obtain ⟨rfl, hc⟩ := shM_in h
  rw [So] at hs
  obtain ⟨⟨hx, hd⟩, hl, hb⟩ := hs
  rw [Xo] at hx
  simp only [dep] at hd
  obtain ⟨_, xs, h2, h3⟩ := chgs_some hc (by simp)
  rw [List.nil_append] at h2
  subst h2
  have hcl : cs.length ≤ 100 := by
    have := congrArg List.length h3
    rw [List.length_map, List.length_map] at this
    omega
  have hcs : wk 11 (.tup (cs.map chD)) = true := wkT (by rw [List.length_map]; omega) (wks_of fun d hd => by
    obtain ⟨c, hc, rfl⟩ := List.mem_map.mp hd
    have : some c ∈ (toL b).map chg := by rw [h3]; exact List.mem_map_of_mem hc
    obtain ⟨s, hs, hsc⟩ := List.mem_map.mp this
    exact wk3 (wkS (chg_name (so_toL hb hs) hsc)) wkI wkI)
  show wk (11 + 1) (.tup [.str "counting", .int N, .str x, .str (opS o), exD r, .tup (cs.map chD)]) = true
  refine wkT (by simp) (wks_cons (wkS (by decide +kernel)) (wks_cons wkI (wks_cons (wkS hx.2.1) (wks_cons (wkS (opS_ok o)) (wks_cons (wk_ex hx.2.2 (by omega)) (wks_cons hcs rfl))))))
theorem cl_mem : ∀ {l : List St} {N : Int} {d : D}, d ∈ cl l N → ∃ t b M c, St.wh t b ∈ l ∧ shM t (toL b) = some c ∧ d = shD M (some c)
  | [], _, _, h => by rw [cl] at h; cases h
  | s :: l, N, d, h => by
    rw [cl] at h
    rcases List.mem_append.mp h with h | h
    · cases s with
      | wh t b =>
        cases hs : shM t (toL b) with
        | none => simp [at1, hs] at h
        | some c =>
          simp [at1, hs] at h
          exact ⟨t, b, _, c, by simp, hs, h⟩
      | _ => cases h
    · obtain ⟨t, b, M, c, h1, h2, h3⟩ := cl_mem h
      exact ⟨t, b, M, c, by simp [h1], h2, h3⟩
theorem cl_len (l : List St) (N : Int) : (cl l N).length ≤ l.length := by
  rw [← whz_cl, List.length_map]
  have h1 := List.length_filter_le (fun z : Int × Option Sh => z.2.isSome) (whz l N)
  have h2 := whz_len l N
  omega
/-- what a function shows -/
structure FB (ps : List Vr) (vs : List Vr) (b : Bl) (due : List D) : Prop where
  len : (ps ++ vs).length ≤ 100
  nd : ((ps ++ vs).map vrS).Nodup
  bok : BOk ((ps ++ vs).flatMap wdOf) b
  eq : due = cl (pre b) 0
  wk : wk 13 (.tup due) = true
theorem Fine.mono {W W' : List (Str × Int)} {s : St} (h : Fine W s) (hW : ∀ p ∈ W, p ∈ W') : Fine W' s :=
  ⟨h.ok, h.sub, fun x o v w hs => by
    obtain ⟨⟨w', h1⟩, h2⟩ := h.kn x o v w hs
    exact ⟨⟨w', hW _ h1⟩, h2⟩⟩
theorem BOk.mono {W W' : List (Str × Int)} {b : Bl} (h : BOk W b) (hW : ∀ p ∈ W, p ∈ W') : BOk W' b :=
  ⟨h.deep, h.few, h.ex, fun t c hc => ⟨(h.wh t c hc).1, fun s hs => ((h.wh t c hc).2 s hs).mono hW⟩⟩
theorem fb_mk {l : List St} {ws : List (Str × Int)} {mn : Nat} (F : EnF e) (hl : l.length ≤ 8) (hs : ∀ s ∈ l, So (WE e) s ∧ bdS s ≤ 3 ∧ (preS s).length ≤ 100) (hp : ws.Perm (WE e)) :
    FB ((ws.take mn).map fun p => .wd p.1 p.2) ((ws.drop mn).map (fun p => .wd p.1 p.2) ++ [.ar e.ar e.w0 e.al] ++ [.rf e.r0 e.rc, .rf e.r1 e.rc]) (ofL l) (cl (pre (ofL l)) 0) ∧ SoB (WE e) (ofL l) ∧ bd (ofL l) ≤ 3 ∧ (pre (ofL l)).length ≤ 1000 := by
  have hS : SoB (WE e) (ofL l) := sob_of (by omega) fun s h => (hs s h).1
  have hbd : bd (ofL l) ≤ 3 := bd_of fun s h => (hs s h).2.1
  have hpl : (pre (ofL l)).length ≤ 1000 := by
    rw [pre_of]
    have : (l.flatMap preS).length ≤ l.length * 100 := by
      rw [List.length_flatMap]
      have := sum_le (l := l.map fun s => (preS s).length) (c := 100) fun x hx => by
        obtain ⟨s, h, rfl⟩ := List.mem_map.mp hx
        exact (hs s h).2.2
      rwa [List.length_map] at this
    omega
  have eV : (ws.take mn).map (fun p => Vr.wd p.1 p.2) ++ ((ws.drop mn).map (fun p => Vr.wd p.1 p.2) ++ [.ar e.ar e.w0 e.al] ++ [.rf e.r0 e.rc, .rf e.r1 e.rc]) = ws.map (fun p => Vr.wd p.1 p.2) ++ [.ar e.ar e.w0 e.al, .rf e.r0 e.rc, .rf e.r1 e.rc] := by
    rw [← List.append_assoc, ← List.append_assoc, ← List.map_append, List.take_append_drop]
    simp
  have eW : (WE e).map (·.1) = e.a0 ++ e.a1 := by
    unfold WE
    rw [List.map_append, map_fst, map_fst]
  have wl : ws.length = 7 := by
    rw [hp.length_eq, ← List.length_map (f := (·.1)), eW, List.length_append, F.l0, F.l1]
  refine ⟨⟨?_, ?_, ?_, rfl, ?_⟩, hS, hbd, hpl⟩
  · rw [eV]
    simp [wl]
  · rw [eV, List.map_append, List.map_map]
    have e1 : (ws.map (vrS ∘ fun p => Vr.wd p.1 p.2)) = ws.map (·.1) := rfl
    rw [e1]
    have h1 : (ws.map (·.1) ++ [e.ar, e.r0, e.r1]).Perm (e.a0 ++ (e.a1 ++ [e.ar, e.r0, e.r1])) := by
      rw [← List.append_assoc, ← eW]
      exact (hp.map _).append_right _
    exact h1.nodup_iff.mpr F.nd
  · refine (so_bok hS (by omega) hpl).mono fun p h => ?_
    rw [eV, List.flatMap_append]
    refine List.mem_append_left _ (List.mem_flatMap.mpr ⟨.wd p.1 p.2, List.mem_map.mpr ⟨p, hp.symm.subset h, rfl⟩, by simp [wdOf]⟩)
  · refine wkT (by have := cl_len (pre (ofL l)) 0; omega) (wks_of fun d hd => ?_)
    obtain ⟨t, b, M, c, h1, h2, rfl⟩ := cl_mem hd
    exact wk_sh (so_preB _ _ hS h1) h2
end Pk52
end PartPdk52P19

section PartPdk52P20
set_option Elab.async false
set_option linter.all false
set_option maxRecDepth 100000
set_option maxHeartbeats 2000000
/-! k52, twentieth text: a function drawn. Own work. -/
namespace Pk52
open PySem Pd
local macro_rules | `(tactic| walk_at "s") => `(tactic| (repeat (refine Red.red ?_)))
local macro_rules | `(tactic| walk_at "r") => `(tactic| (repeat (first | refine Red.red ?_ | refine Nxt.mk ?_)))
local macro_rules | `(tactic| walk_at "t") => `(tactic| (repeat (first | refine Red.red ?_ | refine Nxt.mk ?_ | refine ⟨by decide +kernel, by decide +kernel, wayF (by decide +kernel) ?_⟩ | refine ⟨by decide +kernel, by decide +kernel, wayT (by decide +kernel) ?_⟩ | refine ⟨by decide +kernel, ?_⟩ | refine ⟨Nat.le_of_ble_eq_true rfl, ?_⟩ | refine at_is rfl ?_)))
local instance inTup20 {x : D} {xs : List D} {st : Store} {r : Bool → Prop} : Red (inC x (.tup xs) st r) (x.flat = true ∧ xs.all D.flat = true ∧ r (xs.any fun y => D.eqb y x)) := ⟨id⟩
variable {k m n : Nat} {st st' : Store} {Q : K}
local instance notinTup20 {x : D} {xs : List D} {st : Store} {r : Bool → Prop} : Red (notinC x (.tup xs) st r) (x.flat = true ∧ xs.all D.flat = true ∧ r (!(xs.any fun y => D.eqb y x))) := ⟨id⟩
variable {W : List (Str × Int)} {kn : Nat}
variable {en pn : Nat} {e : En} {pl : List Str}
theorem zip_range {α : Type} (xs : List α) (g : α → D) : ((xs.zipIdx).map fun p => D.int (p.2 : Int)) = rng 0 xs.length := by
  have : (xs.zipIdx).map (·.2) = List.range xs.length := by
    rw [List.zipIdx_map_snd, List.range_eq_range']
  have h := congrArg (List.map fun (i : Nat) => D.int (i : Int)) this
  rw [List.map_map] at h
  rw [show rng 0 xs.length = (List.range xs.length).map fun (i : Nat) => D.int (i : Int) from by simp [rng], ← h]
  rfl
theorem zip_filter {α : Type} (xs : List α) (p : α → Bool) (g : α → D) : ((xs.zipIdx.filter fun z => p z.1).map fun z => g z.1) = (xs.filter p).map g := by
  have h1 : xs.zipIdx.map (·.1) = xs := List.zipIdx_map_fst 0 xs
  have : (xs.filter p) = (xs.zipIdx.filter fun z => p z.1).map (·.1) := by
    conv => lhs; rw [← h1]
    rw [List.filter_map]
    rfl
  rw [this, List.map_map]
  rfl
theorem drawn_ok {nm rc : Str} (hm : 45 ≤ m) (hd : DrawAt st) (hp : PoolIs st pn pl) (hl : 20 ≤ pl.length) (orc : okS rc = true)
    (q : ∀ ps rw vs b due st', FB ps vs b due → FraE pn st st' → Q (.tup [dcD (.fn nm ps rw vs b), .tup due]) st') : callN prog m "_law_drawn" [.ref 2, .ref pn, .str nm, .str rc] st Q := by
  obtain ⟨m, rfl⟩ : ∃ n, m = n + 1 := ⟨m - 1, by omega⟩
  refine call_intro rfl rfl ?_
  unfold b_l_drawn
  have hd2 := hd.lt
  walk_at "s"
  refine surr_ok (by omega) hd hp hl orc fun en e st1 hE F hrc hen f1 => ?_
  subst hrc
  have l1 := f1.le
  walk_at "r"
  refine ⟨Nat.le_of_ble_eq_true rfl, ?_⟩
  walk_at "r"
  refine ⟨Nat.le_of_ble_eq_true rfl, ?_⟩
  walk_at "s"
  refine Nxt.mk ?_
  have d1 := f1.dr
  have fA := ((Fra.refl d1).app (c := C.lst [])).app (c := C.lst [])
  have rb := rdL_app (c := C.lst []) (rdL_new (st := st1) (xs := []))
  have rd := rdL_new (st := st1 ++ [C.lst []]) (xs := [])
  have len1 : (st1 ++ [C.lst []]).length = st1.length + 1 := by simp
  rw [len1] at rd ⊢
  have dl := d1.lt
  generalize st1 ++ [C.lst []] ++ [C.lst []] = stA at fA rb rd ⊢
  generalize hB : st1.length = B at *
  refine seq_J (fun σ st' => ∃ (l : List St) (dl : List D) (y7 y8 y9 : Option D), rdL st' B (l.map stD) ∧ rdL st' (B + 1) dl ∧ (∀ s ∈ l, So (WE e) s ∧ bdS s ≤ 3 ∧ (preS s).length ≤ 100) ∧ l.length ≤ 8 ∧ (l.flatMap preS).flatMap whDue = dl ∧ Fra st1 st' ∧ σ = [some (.ref 2), some (.ref pn), some (.str nm), some (.str e.rc), some (.ref en), some (.ref B), some (.ref (B + 1)), y7, y8, y9, none, none, none, none, none, none, none, none]) (fun N hN => ?_) (fun σ st2 ⟨l, dl, y7, y8, y9, r1, r2, hs, hl8, hdl, f2, e1⟩ => ?_)
  · walk_at "s"
    refine drawM (by omega) fA.dr (by decide) (by decide) fun r st2 r0 r1 f2 => ?_
    walk_at "s"
    refine ⟨by omega, by omega, ?_⟩
    have fA2 := fA.trans f2
    have rb2 := f2.rd rb (by omega)
    have rd2 := f2.rd rd (by omega)
    refine for_map (List.range r.toNat) (fun (k : Nat) => D.int (0 + (k : Int))) rfl (fun j σ st' => ∃ (l : List St) (dl : List D) (y7 y8 y9 : Option D), rdL st' B (l.map stD) ∧ rdL st' (B + 1) dl ∧ (∀ s ∈ l, So (WE e) s ∧ bdS s ≤ 3 ∧ (preS s).length ≤ 100) ∧ l.length ≤ 2 * j ∧ dl.length ≤ 2 * j ∧ (l.flatMap preS).flatMap whDue = dl ∧ Fra st1 st' ∧ σ = [some (.ref 2), some (.ref pn), some (.str nm), some (.str e.rc), some (.ref en), some (.ref B), some (.ref (B + 1)), y7, y8, y9, none, none, none, none, none, none, none, none]) ⟨[], [], _, _, _, rb2, rd2, by simp, by simp, by simp, rfl, fA2, rfl⟩ (fun j x σ st' hj ⟨l, dl, y7, y8, y9, k1, k2, k3, k4, k4', k5, k6, e1⟩ N1 hN1 => ?_) (fun σ st' ⟨l, dl, y7, y8, y9, k1, k2, k3, k4, k4', k5, k6, e1⟩ => ?_)
    · subst e1
      refine ⟨trivial, ?_⟩
      have hjl := (List.getElem?_eq_some_iff.mp hj).1
      rw [List.length_range] at hjl
      show sSeq _ _ _ [some (.ref 2), some (.ref pn), some (.str nm), some (.str e.rc), some (.ref en), some (.ref B), some (.ref (B + 1)), some (.int (0 + (x : Int))), y8, y9, none, none, none, none, none, none, none, none] st'
      refine seq_J (fun σ st3 => ∃ l' : List St, rdL st3 B (l'.map stD) ∧ rdL st3 (B + 1) dl ∧ (∀ s ∈ l', So (WE e) s ∧ bdS s ≤ 3 ∧ (preS s).length ≤ 100) ∧ l'.length ≤ 2 * j + 1 ∧ (l'.flatMap preS).flatMap whDue = dl ∧ Fra st1 st3 ∧ σ = [some (.ref 2), some (.ref pn), some (.str nm), some (.str e.rc), some (.ref en), some (.ref B), some (.ref (B + 1)), some (.int (0 + (x : Int))), y8, y9, none, none, none, none, none, none, none, none]) (fun N2 hN2 => ?_) (fun σ st3 ⟨l', j1, j2, j3, j4, j5, j6, e1⟩ => ?_)
      · walk_at "s"
        refine drawM (by omega) k6.dr (by decide) (by decide) fun r st3 r0 r1 f3 => ?_
        have k36 := k6.trans f3
        have q1 := f3.rd k1 (by omega)
        have q2 := f3.rd k2 (by omega)
        walk_at "s"
        refine way (fun h => ?_) (fun h => ?_)
        · walk_at "s"
          refine ⟨ty_at q1, ?_⟩
          walk_at "s"
          refine other_ok (W := WE e) (by omega) k36.dr (hE.fra k36) F fun u st4 hu f4 => ?_
          have q1' := f4.rd q1 (by omega)
          walk_at "s"
          refine append_at q1' (by rw [List.length_map]; unfold szl; omega) ?_
          have ud := hu.dp
          refine hN2 _ _ ⟨l ++ [u], ?_, rdL_ne (f4.rd q2 (by omega)) (by omega), fun s hs => ?_, by rw [List.length_append]; simp; omega, ?_, (k36.trans f4).set (by omega) (by omega), rfl⟩
          · rw [List.map_append]
            exact rdL_set q1'
          · rcases List.mem_append.mp hs with hs | hs
            · exact k3 s hs
            · simp at hs
              subst hs
              exact ⟨hu.so, by omega, by rw [hu.one]; simp⟩
          · rw [List.flatMap_append, List.flatMap_append, k5]
            simp [hu.one, whDue_no hu.nw]
        · walk_at "s"
          exact hN2 _ _ ⟨l, q1, q2, k3, by omega, k5, k36, rfl⟩
      · subst e1
        walk_at "s"
        refine piece_ok (by omega) j6.dr (hE.fra j6) F fun s ds k st4 P hds hk hr f4 => ?_
        have q1 := f4.rd j1 (by omega)
        have q2 := f4.rd j2 (by omega)
        have lb1 := rdL_lt j1
        have lb2 := rdL_lt j2
        walk_at "s"
        refine ⟨rfl, ?_⟩
        walk_at "r"
        refine ⟨ty_at q1, ?_⟩
        walk_at "s"
        refine append_at q1 (by rw [List.length_map]; unfold szl; omega) ?_
        have q3 := rdL_set (ys := l'.map stD ++ [stD s]) q1
        have q4 := rdL_ne (c := C.lst (l'.map stD ++ [stD s])) q2 (show B + 1 ≠ B by omega)
        have q5 := rdL_ne (c := C.lst (l'.map stD ++ [stD s])) hr (show k ≠ B by omega)
        have q6 := (j6.trans f4).set (n := B) (c := C.lst (l'.map stD ++ [stD s])) (by omega) (by omega)
        generalize st4.set B (C.lst (l'.map stD ++ [stD s])) = st5 at q3 q4 q5 q6 ⊢
        walk_at "r"
        refine ⟨ty_at q4, ?_⟩
        walk_at "s"
        refine extendLL_at q4 q5 (by omega) (by unfold szl; omega) ?_
        refine hN1 _ _ ⟨l' ++ [s], dl ++ ds, _, _, _, ?_, rdL_set q4, fun t ht => ?_, by rw [List.length_append]; simp; omega, by rw [List.length_append]; omega, ?_, q6.set (by omega) (by omega), rfl⟩
        · rw [List.map_append]
          exact rdL_ne q3 (by omega)
        · rcases List.mem_append.mp ht with ht | ht
          · exact j3 t ht
          · simp at ht
            subst ht
            exact ⟨P.so, P.dp, P.few⟩
        · rw [List.flatMap_append, List.flatMap_append, j5]
          simp [P.due]
    · subst e1
      refine ⟨trivial, ?_⟩
      rw [List.length_range] at k4
      exact hN _ _ ⟨l, dl, _, _, _, k1, k2, k3, by omega, k5, k6, rfl⟩
  subst e1
  have hE2 := hE.fra f2
  walk_at "r"
  refine ⟨Nat.le_of_ble_eq_true rfl, ?_⟩
  walk_at "s"
  refine Nxt.mk ?_
  have le2 := f2.le
  have lB2 := rdL_lt r2
  have fC := f2.app (c := C.lst [])
  have rC := rdL_new (st := st2) (xs := [])
  have r1C := rdL_app (c := C.lst []) r1
  have r2C := rdL_app (c := C.lst []) r2
  have hEC := hE.fra fC
  generalize st2 ++ [C.lst []] = stC at fC rC r1C r2C hEC ⊢
  generalize hw : st2.length = wn at rC lB2 le2 ⊢
  have bg := hE.bg
  have gl0 : (ga e false).length = 4 := F.l0
  have gl1 : (ga e true).length = 3 := F.l1
  refine seq_J (fun σ st' => ∃ (z11 z12 z17 : Option D), rdL st' wn ((WE e).map d2) ∧ rdL st' B (l.map stD) ∧ rdL st' (B + 1) dl ∧ Fra st1 st' ∧ σ = [some (.ref 2), some (.ref pn), some (.str nm), some (.str e.rc), some (.ref en), some (.ref B), some (.ref (B + 1)), y7, y8, y9, some (.ref wn), z11, z12, none, none, none, none, z17]) (fun N hN => ?_) (fun σ st3 ⟨z11, z12, z17, rw3, rb3, rd3, f3, e1⟩ => ?_)
  · walk_at "s"
    refine ix_at hEC.c rfl ?_
    refine it_at hEC.g ?_
    refine for_map [false, true] (gD e) rfl (fun j σ st' => ∃ (z11 z12 z17 : Option D), rdL st' wn ((([false, true].take j).flatMap fun c => (ga e c).map fun x => (x, gw e c)).map d2) ∧ rdL st' B (l.map stD) ∧ rdL st' (B + 1) dl ∧ Fra st1 st' ∧ σ = [some (.ref 2), some (.ref pn), some (.str nm), some (.str e.rc), some (.ref en), some (.ref B), some (.ref (B + 1)), y7, y8, y9, some (.ref wn), z11, z12, none, none, none, none, z17]) ⟨_, _, _, rC, r1C, r2C, fC, rfl⟩ (fun j c σ st' hj ⟨z11, z12, z17, k1, k2, k3, k4, e1⟩ N1 hN1 => ?_) (fun σ st' ⟨z11, z12, z17, k1, k2, k3, k4, e1⟩ => ?_)
    · subst e1
      have hE' := hE.fra k4
      refine ⟨.inl hE'.g, ?_⟩
      have hjl : j < 2 := (List.getElem?_eq_some_iff.mp hj).1
      have ht : [false, true].take (j + 1) = [false, true].take j ++ [c] := by rw [List.take_add_one, hj]; rfl
      have lo : (([false, true].take j).flatMap fun c => (ga e c).map fun x => (x, gw e c)).length ≤ 7 := by
        rcases j with _ | _ | j
        · simp
        · simp [gl0]
        · omega
      walk_at "s"
      refine ⟨rfl, ?_⟩
      walk_at "r"
      refine ⟨ty_at k1, ?_⟩
      walk_at "s"
      refine it_at (hE'.a c) ?_
      have glc := F.gl c
      refine lc_map (ga e c) D.str (fun x => d2 (x, gw e c)) rfl (by unfold szl; omega) (fun _ => .inl (rdL_app (hE'.a c))) (fun x hx acc N hN => ?_) ?_
      · walk_at "t"
        exact hN
      have ec : (ga e c).map (fun x => d2 (x, gw e c)) = ((ga e c).map fun x => (x, gw e c)).map d2 := by rw [List.map_map]; rfl
      rw [ec]
      have ltk := rdL_lt k1
      walk_at "s"
      refine extendLL_at (rdL_app k1) rdL_new (by omega) (by rw [List.length_map, List.length_map, List.length_map]; unfold szl; omega) ?_
      refine hN1 _ _ ⟨_, _, _, ?_, rdL_ne (rdL_app k2) (by omega), rdL_ne (rdL_app k3) (by omega), k4.app.set (by omega) (by omega), rfl⟩
      rw [ht, List.flatMap_append, List.map_append]
      have e6 : (([c] : List Bool).flatMap fun c => (ga e c).map fun x => (x, gw e c)) = (ga e c).map fun x => (x, gw e c) := by simp
      rw [e6]
      exact rdL_set (rdL_app k1)
    · subst e1
      have hE' := hE.fra k4
      refine ⟨.inl hE'.g, ?_⟩
      refine hN _ _ ⟨_, _, _, ?_, k2, k3, k4, rfl⟩
      have e6 : (([false, true].take [false, true].length).flatMap fun c => (ga e c).map fun x => (x, gw e c)) = WE e := by simp [WE, ga, gw]
      rw [e6] at k1
      exact k1
  subst e1
  have wel : (WE e).length = 7 := by
    unfold WE
    rw [List.length_append, List.length_map, List.length_map, F.l0, F.l1]
  walk_at "s"
  refine shufF un2 un2_d2 (by omega) f3.dr rw3 (by omega) (by omega) fun k4 ws st4 hp4 hk4 r4 f4 => ?_
  have wl := hp4.length_eq
  have f14 := f3.trans f4
  have rb4 := f4.rd rb3 (by omega)
  have rd4 := f4.rd rd3 (by omega)
  have le3 := f3.le
  walk_at "r"
  refine drawM (by omega) f14.dr (by decide) (by decide) fun mn st5 m0 m1 f5 => ?_
  have f15 := f14.trans f5
  have rb5 := f5.rd rb4 (by omega)
  have rd5 := f5.rd rd4 (by omega)
  have r5 := f5.rd r4 (by omega)
  have hE5 := hE.fra f15
  have le5 := f15.le
  walk_at "r"
  have b4 : 2 < k4 := by omega
  have be := hE.be
  refine sl_at r5 ?_
  rw [cut_drop _ m0]
  have x1 : rdL (st5 ++ [C.lst ((ws.map d2).drop mn.toNat)]) en [.ref e.gn, .tup [.str e.ar, .int e.w0, .int e.al], .ref e.rn, .str e.ca, .str e.rc, .int e.rw] := rdL_app hE5.c
  walk_at "s"
  refine ix_at x1 rfl ?_
  walk_at "s"
  refine ⟨Nat.le_of_ble_eq_true rfl, ?_⟩
  walk_at "s"
  refine add_at (rdL_app rdL_new) rdL_new (by rw [List.length_drop, List.length_map]; simp; unfold szl; omega) ?_
  walk_at "s"
  refine ix_at (rdL_app (rdL_app x1)) rfl ?_
  walk_at "s"
  have rr := rdL_app (c := C.lst ((ws.map d2).drop mn.toNat ++ [D.tup [.str e.ar, .int e.w0, .int e.al]])) (rdL_app (c := C.lst [D.tup [.str e.ar, .int e.w0, .int e.al]]) (rdL_app (c := C.lst ((ws.map d2).drop mn.toNat)) hE5.r))
  have fD := ((f15.app (c := C.lst ((ws.map d2).drop mn.toNat))).app (c := C.lst [D.tup [.str e.ar, .int e.w0, .int e.al]])).app (c := C.lst ((ws.map d2).drop mn.toNat ++ [D.tup [.str e.ar, .int e.w0, .int e.al]]))
  have rwD := rdL_new (st := st5 ++ [C.lst ((ws.map d2).drop mn.toNat)] ++ [C.lst [D.tup [.str e.ar, .int e.w0, .int e.al]]]) (xs := (ws.map d2).drop mn.toNat ++ [D.tup [.str e.ar, .int e.w0, .int e.al]])
  have g5D : Grw st5 (st5 ++ [C.lst ((ws.map d2).drop mn.toNat)] ++ [C.lst [D.tup [.str e.ar, .int e.w0, .int e.al]]] ++ [C.lst ((ws.map d2).drop mn.toNat ++ [D.tup [.str e.ar, .int e.w0, .int e.al]])]) := (((Grw.refl _).app).app).app
  generalize st5 ++ [C.lst ((ws.map d2).drop mn.toNat)] ++ [C.lst [D.tup [.str e.ar, .int e.w0, .int e.al]]] ++ [C.lst ((ws.map d2).drop mn.toNat ++ [D.tup [.str e.ar, .int e.w0, .int e.al]])] = stD' at rr fD rwD g5D ⊢
  generalize (st5 ++ [C.lst ((ws.map d2).drop mn.toNat)] ++ [C.lst [D.tup [.str e.ar, .int e.w0, .int e.al]]]).length = rn at rwD ⊢
  refine it_at rr ?_
  refine lc_map [e.r0, e.r1] D.str (fun x => .tup [.str x, .str e.rc]) rfl (Nat.le_of_ble_eq_true rfl) (fun _ => .inl (rdL_app rr)) (fun x hx acc N hN => ?_) ?_
  · walk_at "t"
    exact hN
  refine add_at (rdL_app rwD) rdL_new (by rw [List.length_append, List.length_drop, List.length_map]; simp; unfold szl; omega) ?_
  have eV : (ws.map d2).drop mn.toNat ++ [D.tup [.str e.ar, .int e.w0, .int e.al]] ++ [e.r0, e.r1].map (fun x => D.tup [.str x, .str e.rc]) = ((ws.drop mn.toNat).map (fun p : Str × Int => Vr.wd p.1 p.2) ++ [Vr.ar e.ar e.w0 e.al] ++ [Vr.rf e.r0 e.rc, Vr.rf e.r1 e.rc]).map vrD := by
    rw [← List.map_drop, List.map_append, List.map_append, List.map_map]
    rfl
  rw [eV]
  have rvE := rdL_new (st := stD' ++ [C.lst ([e.r0, e.r1].map fun x => D.tup [.str x, .str e.rc])]) (xs := ((ws.drop mn.toNat).map (fun p : Str × Int => Vr.wd p.1 p.2) ++ [Vr.ar e.ar e.w0 e.al] ++ [Vr.rf e.r0 e.rc, Vr.rf e.r1 e.rc]).map vrD)
  have g5E : Grw st5 (stD' ++ [C.lst ([e.r0, e.r1].map fun x => D.tup [.str x, .str e.rc])] ++ [C.lst (((ws.drop mn.toNat).map (fun p : Str × Int => Vr.wd p.1 p.2) ++ [Vr.ar e.ar e.w0 e.al] ++ [Vr.rf e.r0 e.rc, Vr.rf e.r1 e.rc]).map vrD)]) := (g5D.app).app
  generalize hV : (ws.drop mn.toNat).map (fun p : Str × Int => Vr.wd p.1 p.2) ++ [Vr.ar e.ar e.w0 e.al] ++ [Vr.rf e.r0 e.rc, Vr.rf e.r1 e.rc] = V at rvE g5E ⊢
  obtain ⟨FBk, hS, hbd, hpl⟩ := fb_mk (mn := mn.toNat) F hl8 hs hp4
  rw [hV] at FBk
  generalize (stD' ++ [C.lst ([e.r0, e.r1].map fun x => D.tup [.str x, .str e.rc])]).length = vn at rvE ⊢
  generalize stD' ++ [C.lst ([e.r0, e.r1].map fun x => D.tup [.str x, .str e.rc])] ++ [C.lst (V.map vrD)] = stE at rvE g5E ⊢
  walk_at "r"
  have rbE := g5E.rd rb5
  refine plan_ok (W := WE e) 5 (b := ofL l) (by omega) (by omega) (.inr ⟨B, rfl, by rw [blL_of]; exact rbE⟩) hS (by omega) hpl fun n6 st6 hn6 hP g6 => ?_
  walk_at "t"
  refine whiles_ok (W := WE e) 5 hP hS (by omega) hpl fun k7 st7 hk7 r7 g7 => ?_
  walk_at "r"
  have g57 := (g5E.trans g6).trans g7
  have rd7 := g57.rd rd5
  have zl := whz_len (pre (ofL l)) 0
  have zd := whz_snd (pre (ofL l)) 0
  have zf := whz_fst (pre (ofL l)) 0
  have zc := whz_cl (pre (ofL l)) 0
  rw [← zf] at r7
  rw [← pre_of, ← zd] at hdl
  subst hdl
  generalize whz (pre (ofL l)) 0 = zs at *
  refine len_at rd7 ?_
  rw [List.length_map]
  walk_at "s"
  refine ⟨by omega, by omega, ?_⟩
  have zl' : zs.length ≤ 1000 := by omega
  refine lc_filter zs.zipIdx (fun p => .int (p.2 : Int)) (fun p => shD p.1.1 p.1.2) (fun p => p.1.2.isSome) ?_ (by rw [List.length_zipIdx]; unfold szl; omega) (fun _ => trivial) (fun p hp acc N M hN hM => ?_) ?_
  · show rng 0 ((zs.length : Int)).toNat = _
    rw [Int.toNat_natCast, ← zip_range zs fun _ => .non]
  · obtain ⟨⟨v, c⟩, i⟩ := p
    have hz : zs[i]? = some (v, c) := by simpa [List.mem_zipIdx_iff_getElem?] using hp
    have hi := (List.getElem?_eq_some_iff.mp hz).1
    have hd : atD (zs.map fun z => dueD z.2) (i : Int) = some (dueD c) := by
      unfold atD
      rw [if_pos (by omega), Int.toNat_natCast, List.getElem?_map, hz]
      rfl
    have hn : atD ((zs.map (·.1)).map D.int) (i : Int) = some (.int v) := by
      unfold atD
      rw [if_pos (by omega), Int.toNat_natCast, List.getElem?_map, List.getElem?_map, hz]
      rfl
    walk_at "s"
    refine ix_at (rdL_app rd7) hd ?_
    cases c with
    | none =>
      rw [show dueD none = .non from rfl]
      walk_at "s"
      refine wayF rfl ?_
      exact hM rfl
    | some c =>
      obtain ⟨x, o, r, cs⟩ := c
      rw [show dueD (some (x, o, r, cs)) = .tup [.str x, .str (opS o), exD r, .tup (cs.map chD)] from rfl] at hd ⊢
      walk_at "s"
      refine wayT rfl ?_
      walk_at "s"
      refine ix_at (rdL_app r7) hn ?_
      walk_at "t"
      refine ix_at (rdL_app rd7) hd ?_
      walk_at "t"
      exact hN rfl
  have ez : ((zs.zipIdx.filter fun p => p.1.2.isSome).map fun p => shD p.1.1 p.1.2) = cl (pre (ofL l)) 0 := by
    rw [← zc]
    exact zip_filter zs (fun z => z.2.isSome) fun z => shD z.1 z.2
  rw [ez]
  have g5F := g57.app (c := C.lst (cl (pre (ofL l)) 0))
  have rdu := rdL_new (st := st7) (xs := cl (pre (ofL l)) 0)
  have rv7 := rdL_app (c := C.lst (cl (pre (ofL l)) 0)) ((g6.trans g7).rd rvE)
  have rb7 := rdL_app (c := C.lst (cl (pre (ofL l)) 0)) (g57.rd rb5)
  have rw7 := rdL_app (c := C.lst (cl (pre (ofL l)) 0)) (g57.rd r5)
  have re7 := rdL_app (c := C.lst (cl (pre (ofL l)) 0)) (g57.rd hE5.c)
  generalize st7 ++ [C.lst (cl (pre (ofL l)) 0)] = st8 at g5F rdu rv7 rb7 rw7 re7 ⊢
  generalize st7.length = un at rdu ⊢
  walk_at "r"
  refine sl_at rw7 ?_
  rw [cut_take _ m0]
  walk_at "s"
  refine tuple_at rdL_new ?_
  walk_at "s"
  refine ix_at (rdL_app re7) rfl ?_
  walk_at "s"
  refine tuple_at (rdL_app rv7) ?_
  walk_at "s"
  refine tuple_at (rdL_app rb7) ?_
  walk_at "t"
  refine tuple_at (rdL_app rdu) ?_
  walk_at "t"
  have e9 : dcD (.fn nm ((ws.take mn.toNat).map fun p => Vr.wd p.1 p.2) e.rw V (ofL l)) = .tup [.str "function", .str nm, .tup ((ws.map d2).take mn.toNat), .int e.rw, .int 0, .tup (V.map vrD), .tup (l.map stD)] := by
    show D.tup [.str "function", .str nm, .tup (((ws.take mn.toNat).map fun p => Vr.wd p.1 p.2).map vrD), .int e.rw, .int 0, .tup (V.map vrD), .tup (blL (ofL l))] = _
    rw [blL_of, List.map_map, ← List.map_take]
    rfl
  rw [← e9]
  exact q _ _ _ _ _ _ FBk (f1.trans (.of (f15.trans ((g5F.app).fra f15.dr))))
end Pk52
end PartPdk52P20

section PartPdk52P21
set_option Elab.async false
set_option linter.all false
set_option maxRecDepth 100000
set_option maxHeartbeats 2000000
/-! k52, last text: the law. Own work. -/
namespace Pk52
open PySem Pd
local macro_rules | `(tactic| walk_at "s") => `(tactic| (repeat (refine Red.red ?_)))
local macro_rules | `(tactic| walk_at "r") => `(tactic| (repeat (first | refine Red.red ?_ | refine Nxt.mk ?_)))
local macro_rules | `(tactic| walk_at "t") => `(tactic| (repeat (first | refine Red.red ?_ | refine Nxt.mk ?_ | refine ⟨by decide +kernel, by decide +kernel, wayF (by decide +kernel) ?_⟩ | refine ⟨by decide +kernel, by decide +kernel, wayT (by decide +kernel) ?_⟩ | refine ⟨by decide +kernel, ?_⟩ | refine ⟨Nat.le_of_ble_eq_true rfl, ?_⟩ | refine at_is rfl ?_)))
local instance inTup21 {x : D} {xs : List D} {st : Store} {r : Bool → Prop} : Red (inC x (.tup xs) st r) (x.flat = true ∧ xs.all D.flat = true ∧ r (xs.any fun y => D.eqb y x)) := ⟨id⟩
variable {k m n : Nat} {st st' : Store} {Q : K}
local instance notinTup21 {x : D} {xs : List D} {st : Store} {r : Bool → Prop} : Red (notinC x (.tup xs) st r) (x.flat = true ∧ xs.all D.flat = true ∧ r (!(xs.any fun y => D.eqb y x))) := ⟨id⟩
variable {W : List (Str × Int)} {kn : Nat}
variable {pn : Nat} {pl : List Str}
def poolText : Str := ("a b2 sum left r k0 kind z9z full tail n m8 aa busy cnt p t4 even2 ab1 head u v2 w lowest high mid mark " : Str) ++ ("s t e f g h i j k x y q7 deep turn gate l5 hold next1 o c0 d two zz1 near far9 last ring2 index " : Str) ++ ("aaaaaaa8 b c1 top2 net3 row col7 v claim zero result1 duty go" : Str)
def poolL : List Str := PySem.Txt.split poolText " "
theorem pool_fine : decide (45 < poolL.length) && decide (poolL.length < 1000) && poolL.all (fun s => okS s && decide (hdK (.str s) = 0)) && decide poolL.Nodup = true := by decide +kernel
theorem pool_more : 45 < poolL.length ∧ poolL.length < 1000 ∧ (∀ s ∈ poolL, okS s = true ∧ hdK (.str s) = 0) ∧ poolL.Nodup := by
  have h := pool_fine
  simp only [Bool.and_eq_true, decide_eq_true_eq, List.all_eq_true] at h
  exact ⟨h.1.1.1, h.1.1.2, h.1.2, h.2⟩
theorem pool_ok (hm : 1 ≤ m) (q : Q (.ref st.length) (st ++ [.lst (poolL.map D.str)])) : callN prog m "_law_pool" [] st Q := by
  obtain ⟨k, rfl⟩ : ∃ n, m = n + 1 := ⟨m - 1, by omega⟩
  refine call_intro rfl rfl ?_
  unfold b_l_pool
  walk_at "s"
  refine Nxt.mk ?_
  walk_at "s"
  refine ⟨by decide +kernel, ?_⟩
  walk_at "s"
  refine Nxt.mk ?_
  walk_at "s"
  refine ⟨by decide +kernel, ?_⟩
  walk_at "s"
  exact ⟨trivial, by decide +kernel, by decide +kernel, q⟩
theorem nodup_inj {α β : Type} {f : α → β} : ∀ {l : List α}, (l.map f).Nodup → ∀ {x y : α}, x ∈ l → y ∈ l → f x = f y → x = y
  | [], _, x, y, hx, _, _ => by cases hx
  | a :: l, h, x, y, hx, hy, e => by
    rw [List.map_cons, List.nodup_cons] at h
    rcases List.mem_cons.mp hx with h1 | h1
    · rcases List.mem_cons.mp hy with h2 | h2
      · rw [h1, h2]
      · subst h1
        exact absurd (e ▸ List.mem_map_of_mem h2) h.1
    · rcases List.mem_cons.mp hy with h2 | h2
      · subst h2
        exact absurd (e ▸ List.mem_map_of_mem h1) h.1
      · exact nodup_inj h.2 h1 h2 e
theorem perm_map_ex {α β : Type} {f : α → β} {ys zs : List β} (h : ys.Perm zs) : ∀ {xs : List α}, zs = xs.map f → ∃ ws : List α, ws.Perm xs ∧ ys = ws.map f := by
  induction h with
  | nil =>
    intro xs e
    cases xs with
    | nil => exact ⟨[], .refl _, rfl⟩
    | cons x xs => cases e
  | cons a h ih =>
    intro xs e
    cases xs with
    | nil => cases e
    | cons x xs =>
      cases e
      obtain ⟨ws, h1, h2⟩ := ih rfl
      exact ⟨x :: ws, h1.cons x, by rw [h2]; rfl⟩
  | swap a b l =>
    intro xs e
    match xs, e with
    | x :: y :: xs, e =>
      cases e
      exact ⟨y :: x :: xs, List.Perm.swap x y xs, rfl⟩
  | trans h1 h2 ih1 ih2 =>
    intro xs e
    obtain ⟨ws, h3, h4⟩ := ih2 e
    obtain ⟨vs, h5, h6⟩ := ih1 h4
    exact ⟨vs, h5.trans h3, h6⟩
/-- a program to be asked -/
structure Prg (ds : List Dc) : Prop where
  nd : (ds.map dcS).Nodup
  ok : ∀ y ∈ ds, okS (dcS y) = true
/-- a name and what is due -/
def Due (ds : List Dc) (p : Str × List D) : Prop := ∃ ps rw vs b, Dc.fn p.1 ps rw vs b ∈ ds ∧ FB ps vs b p.2
theorem ask_ok {ds : List Dc} {p : Str × List D} (hm : 20 ≤ m) (P : Prg ds) (h : Due ds p) (q : ∀ st', Grw st st' → Q (.tup p.2) st') : callN prog m "counting_loops" [.tup (ds.map dcD), .str p.1] st Q := by
  obtain ⟨ps, rw, vs, b, h1, h2⟩ := h
  refine counting_ok hm h1 (fun y hy e => nodup_inj P.nd hy h1 e) P.ok h2.len h2.nd h2.bok fun st' g => ?_
  rw [← h2.eq]
  exact q st' g
theorem Due.wk {ds : List Dc} {p : Str × List D} (h : Due ds p) : wk 13 (.tup p.2) = true := by
  obtain ⟨ps, rw, vs, b, h1, h2⟩ := h
  exact h2.wk
def rnm (n1 n2 : Str) : Dc → Dc
  | .rcd s => .rcd s
  | .fn s ps rw vs b => .fn (if s = n1 then n2 else n1) ps rw vs b
theorem renamed_ok {n1 n2 : Str} {x : Dc} {nn : Nat} (hm : 1 ≤ m) (hn : rdL st nn [.str n1, .str n2]) (ne : n1 ≠ n2) (hx : ∀ s ps rw vs b, x = .fn s ps rw vs b → s = n1 ∨ s = n2) (q : Q (dcD (rnm n1 n2 x)) st) : callN prog m "_law_renamed" [dcD x, .ref nn] st Q := by
  obtain ⟨m, rfl⟩ : ∃ n, m = n + 1 := ⟨m - 1, by omega⟩
  refine call_intro rfl rfl ?_
  unfold b_l_renamed
  cases x with
  | rcd s =>
    rw [show dcD (.rcd s) = .tup [.str "record", .str s, .tup []] from rfl]
    walk_at "t"
    exact q
  | fn s ps rw vs b =>
    rw [show dcD (.fn s ps rw vs b) = .tup [.str "function", .str s, .tup (ps.map vrD), .int rw, .int 0, .tup (vs.map vrD), blD b] from rfl]
    walk_at "t"
    refine ⟨ty_at hn, ?_⟩
    walk_at "t"
    rcases hx s ps rw vs b rfl with rfl | rfl
    · refine ⟨[.str s, .str n2], 0, .str s, .inl hn, rfl, rfl, rfl, by simp [D.eqb], fun i z hi => by omega, ?_⟩
      walk_at "s"
      refine ix_at hn rfl ?_
      walk_at "t"
      have e : rnm s n2 (.fn s ps rw vs b) = .fn n2 ps rw vs b := by simp [rnm]
      rw [e] at q
      exact q
    · refine ⟨[.str n1, .str s], 1, .str s, .inl hn, rfl, rfl, rfl, by simp [D.eqb], fun i z hi hz => ?_, ?_⟩
      · have : i = 0 := by omega
        subst this
        cases hz
        simp [D.eqb, ne]
      walk_at "s"
      refine ix_at hn rfl ?_
      walk_at "t"
      have e : rnm n1 s (.fn s ps rw vs b) = .fn n1 ps rw vs b := by simp [rnm, Ne.symm ne]
      rw [e] at q
      exact q
theorem law_holds (ns : List Int) (hl : ns.length ≤ 63) (hb : ∀ z ∈ ns, PySem.Builtin.Int.intBits z ≤ 1048576) : callN prog 61 "law" [.ref 0] [.frz (ns.map D.int)] (fun d _ => d = .bl true) := by
  obtain ⟨p45, p1000, pok, pnd⟩ := pool_more
  refine call_intro rfl rfl ?_
  unfold b_l_law
  walk_at "s"
  refine begin_ok rfl hl fun st1 hd1 hl1 => ?_
  have d1 := hd1.lt
  walk_at "r"
  refine pool_ok (by omega) ?_
  have fA := (Fra.refl hd1).app (c := C.lst (poolL.map D.str))
  have hpA : PoolIs (st1 ++ [C.lst (poolL.map D.str)]) st1.length poolL := ⟨rdL_new, pnd, pok, by omega, by omega⟩
  generalize st1 ++ [C.lst (poolL.map D.str)] = stA at fA hpA ⊢
  generalize st1.length = pn at hpA ⊢
  have big := hpA.big
  walk_at "r"
  refine popM (by omega) fA.dr hpA (by omega) fun rn pl1 st2 hp2 l2 n2' i2 s2 f2 => ?_
  have G1 := Got.nil.more (pl := poolL) l2 n2' i2 s2
  walk_at "t"
  refine popM (by omega) f2.dr hp2 (by omega) fun n1 pl2 st3 hp3 l3 n3' i3 s3 f3 => ?_
  have G2 := G1.more l3 n3' i3 s3
  walk_at "s"
  refine popM (by omega) f3.dr hp3 (by omega) fun n2 pl3 st4 hp4 l4 n4' i4 s4 f4 => ?_
  have G3 := G2.more l4 n4' i4 s4
  have nd3 := G3.nd
  have in3 := G3.inn
  walk_at "s"
  refine ⟨Nat.le_of_ble_eq_true rfl, ?_⟩
  walk_at "s"
  refine Nxt.mk ?_
  have d4 := f4.dr.lt
  have f5 := (Fra.refl f4.dr).app (c := C.lst [.str n1, .str n2])
  have hn5 := rdL_new (st := st4) (xs := [.str n1, .str n2])
  have hp5 := hp4.fra f5
  have pb5 := rdL_lt hp5.cell
  have pb4 := rdL_lt hp4.cell
  have nnp : st4.length ≠ pn := by omega
  generalize st4 ++ [C.lst [.str n1, .str n2]] = st5 at f5 hn5 hp5 pb5 ⊢
  generalize st4.length = nn at hn5 nnp d4 ⊢
  walk_at "s"
  refine list_at hp5.cell ?_
  have f6 := (Fra.refl f5.dr).app (c := C.lst (pl3.map D.str))
  have d5 := f5.dr.lt
  have p20 : 20 ≤ pl3.length := by omega
  have hp6 : PoolIs (st5 ++ [C.lst (pl3.map D.str)]) st5.length pl3 := ⟨rdL_new, hp5.nd, hp5.fine, hp5.few, by omega⟩
  have hp6' := hp5.fra f6
  have hn6 := f6.rd hn5 (by omega)
  have l56 : st5.length ≠ pn := by omega
  have nnl := rdL_lt hn5
  have l5n : nn ≠ st5.length := by omega
  generalize st5 ++ [C.lst (pl3.map D.str)] = st6 at f6 hp6 hp6' hn6 ⊢
  generalize st5.length = pc at hp6 l56 l5n ⊢
  walk_at "s"
  refine ix_at hn6 rfl ?_
  walk_at "t"
  have orn := (pok rn i2).1
  refine drawn_ok (by omega) f6.dr hp6 p20 orn fun psA rwA vsA bA dueA st7 FA f7 => ?_
  have hn7 := f7.rd hn6 (by omega) l5n
  have hp7 : PoolIs st7 pn pl3 := ⟨f7.rd hp6'.cell (by omega) (Ne.symm l56), hp5.nd, hp5.fine, hp5.few, big⟩
  walk_at "s"
  refine ⟨rfl, ?_⟩
  walk_at "r"
  refine list_at hp7.cell ?_
  have f8 := (Fra.refl f7.dr).app (c := C.lst (pl3.map D.str))
  have d7 := f7.dr.lt
  have hp8 : PoolIs (st7 ++ [C.lst (pl3.map D.str)]) st7.length pl3 := ⟨rdL_new, hp5.nd, hp5.fine, hp5.few, by omega⟩
  have hn8 := f8.rd hn7 (by omega)
  have nnl7 := rdL_lt hn7
  have l7n : nn ≠ st7.length := by omega
  generalize st7 ++ [C.lst (pl3.map D.str)] = st8 at f8 hp8 hn8 ⊢
  generalize st7.length = pd at hp8 l7n ⊢
  walk_at "s"
  refine ix_at hn8 rfl ?_
  walk_at "t"
  refine drawn_ok (by omega) f8.dr hp8 p20 orn fun psB rwB vsB bB dueB st9 FB' f9 => ?_
  have hn9 := f9.rd hn8 (by omega) l7n
  walk_at "s"
  refine ⟨rfl, ?_⟩
  walk_at "r"
  refine ⟨Nat.le_of_ble_eq_true rfl, ?_⟩
  walk_at "s"
  have d9 := f9.dr.lt
  have fC := (Fra.refl f9.dr).app (c := C.lst [.tup [.str "record", .str rn, .tup []], dcD (.fn n1 psA rwA vsA bA), dcD (.fn n2 psB rwB vsB bB)])
  have hnC := rdL_app (c := C.lst [.tup [.str "record", .str rn, .tup []], dcD (.fn n1 psA rwA vsA bA), dcD (.fn n2 psB rwB vsB bB)]) hn9
  refine shuffled_ok rfl rfl fC.dr rdL_new d9 (by simp) fun k10 ys st10 hpm hk10 hr10 f10 => ?_
  have hn10 := f10.rd hnC (by omega)
  obtain ⟨ds, hds, rfl⟩ := perm_map_ex (f := dcD) hpm (xs := [.rcd rn, .fn n1 psA rwA vsA bA, .fn n2 psB rwB vsB bB]) rfl
  have nd : n1 ≠ n2 ∧ rn ≠ n1 ∧ rn ≠ n2 := by
    simp at nd3
    exact ⟨nd3.2, fun h => nd3.1.1 h, fun h => nd3.1.2 h⟩
  obtain ⟨ne12, nerA, nerB⟩ := nd
  have okn : okS n1 = true ∧ okS n2 = true := ⟨(pok n1 (in3 n1 (by simp))).1, (pok n2 (in3 n2 (by simp))).1⟩
  have hmem : ∀ y ∈ ds, y = .rcd rn ∨ y = .fn n1 psA rwA vsA bA ∨ y = .fn n2 psB rwB vsB bB := fun y hy => by simpa using hds.subset hy
  have P : Prg ds := by
    refine ⟨(hds.map dcS).nodup_iff.mpr ?_, fun y hy => ?_⟩
    · simp [dcS, nerA, nerB, ne12]
    · rcases hmem y hy with rfl | rfl | rfl
      · exact orn
      · exact okn.1
      · exact okn.2
  have DA : Due ds (n1, dueA) := ⟨psA, rwA, vsA, bA, hds.symm.subset (by simp), FA⟩
  have DB : Due ds (n2, dueB) := ⟨psB, rwB, vsB, bB, hds.symm.subset (by simp), FB'⟩
  have g10 : Fra st10 st10 := Fra.refl f10.dr
  clear hpm fC hnC f9 f8 f7 f6 f5 f4 f3 f2 fA hpA hp2 hp3 hp4 hp5 hp6 hp7 hp8 hp6'
  walk_at "s"
  refine tuple_at hr10 ?_
  walk_at "r"
  refine ix_at hn10 rfl ?_
  walk_at "t"
  refine ix_at hn10 rfl ?_
  walk_at "t"
  refine ix_at hn10 rfl ?_
  walk_at "t"
  have gB := (Grw.refl st10).app (c := C.lst ([(n1, dueA), (n2, dueB), (n1, dueA)].map fun p => D.tup [.str p.1, .tup p.2]))
  have rB := rdL_new (st := st10) (xs := [(n1, dueA), (n2, dueB), (n1, dueA)].map fun p => D.tup [.str p.1, .tup p.2])
  have eB : st10 ++ [C.lst [D.tup [.str n1, .tup dueA], .tup [.str n2, .tup dueB], .tup [.str n1, .tup dueA]]] = st10 ++ [C.lst ([(n1, dueA), (n2, dueB), (n1, dueA)].map fun p => D.tup [.str p.1, .tup p.2])] := rfl
  rw [eB]
  generalize st10 ++ [C.lst ([(n1, dueA), (n2, dueB), (n1, dueA)].map fun p => D.tup [.str p.1, .tup p.2])] = stB at gB rB ⊢
  refine it_at rB ?_
  have hall : ∀ p ∈ [(n1, dueA), (n2, dueB), (n1, dueA)], Due ds p := fun p hp => by
    simp at hp
    rcases hp with rfl | rfl | rfl
    · exact DA
    · exact DB
    · exact DA
  refine for_map [(n1, dueA), (n2, dueB), (n1, dueA)] (fun p => D.tup [.str p.1, .tup p.2]) rfl (fun j σ st' => ∃ z10 z11, Grw stB st' ∧ σ = [some (.ref 0), some (.ref 2), some (.ref pn), some (.tup [.str "record", .str rn, .tup []]), some (.ref nn), some (dcD (.fn n1 psA rwA vsA bA)), some (.tup dueA), some (dcD (.fn n2 psB rwB vsB bB)), some (.tup dueB), some (.tup (ds.map dcD)), z10, z11, none, none]) ⟨_, _, Grw.refl _, rfl⟩ (fun j p σ st' hj ⟨z10, z11, k1, e1⟩ N1 hN1 => ?_) (fun σ st' ⟨z10, z11, k1, e1⟩ => ?_)
  · subst e1
    refine ⟨.inl (k1.rd rB), ?_⟩
    have hD := hall p (List.mem_of_getElem? hj)
    walk_at "s"
    refine ⟨rfl, ?_⟩
    walk_at "s"
    refine ask_ok (by omega) P hD fun st2 g2 => ?_
    walk_at "s"
    refine same_ok 13 hD.wk (by omega) fun st3 g3 => ?_
    walk_at "s"
    refine wayF rfl ?_
    exact hN1 _ _ ⟨_, _, (k1.trans g2).trans g3, rfl⟩
  subst e1
  refine ⟨.inl (k1.rd rB), ?_⟩
  have hnE := (gB.trans k1).rd hn10
  walk_at "r"
  refine lc_map ds dcD (fun x => dcD (rnm n1 n2 x)) rfl (by have := hds.length_eq; simp at this; unfold szl; omega) (fun _ => trivial) (fun x hx acc N hN => ?_) ?_
  · walk_at "s"
    refine renamed_ok (by omega) (rdL_app hnE) ne12 (fun s ps rw vs b h => ?_) hN
    rcases hmem x hx with h' | h' | h' <;> rw [h'] at h <;> cases h
    · exact .inl rfl
    · exact .inr rfl
  have eT : ds.map (fun x => dcD (rnm n1 n2 x)) = (ds.map (rnm n1 n2)).map dcD := by rw [List.map_map]; rfl
  rw [eT]
  have hdT := hds.map (rnm n1 n2)
  have hl3 : [Dc.rcd rn, .fn n1 psA rwA vsA bA, .fn n2 psB rwB vsB bB].map (rnm n1 n2) = [.rcd rn, .fn n2 psA rwA vsA bA, .fn n1 psB rwB vsB bB] := by simp [rnm, Ne.symm ne12]
  rw [hl3] at hdT
  have hnF := rdL_app (c := C.lst ((ds.map (rnm n1 n2)).map dcD)) hnE
  generalize ds.map (rnm n1 n2) = dt at hdT hnF ⊢
  have hmemT : ∀ y ∈ dt, y = .rcd rn ∨ y = .fn n2 psA rwA vsA bA ∨ y = .fn n1 psB rwB vsB bB := fun y hy => by simpa using hdT.subset hy
  have PT : Prg dt := by
    refine ⟨(hdT.map dcS).nodup_iff.mpr ?_, fun y hy => ?_⟩
    · simp [dcS, nerA, nerB, Ne.symm ne12]
    · rcases hmemT y hy with rfl | rfl | rfl
      · exact orn
      · exact okn.2
      · exact okn.1
  have DA' : Due dt (n2, dueA) := ⟨psA, rwA, vsA, bA, hdT.symm.subset (by simp), FA⟩
  have DB'' : Due dt (n1, dueB) := ⟨psB, rwB, vsB, bB, hdT.symm.subset (by simp), FB'⟩
  walk_at "s"
  refine tuple_at rdL_new ?_
  generalize st' ++ [C.lst (dt.map dcD)] = stF at hnF ⊢
  walk_at "r"
  refine ix_at hnF rfl ?_
  walk_at "t"
  refine ix_at hnF rfl ?_
  walk_at "t"
  have rG := rdL_new (st := stF) (xs := [(n2, dueA), (n1, dueB)].map fun p => D.tup [.str p.1, .tup p.2])
  have eG : stF ++ [C.lst [D.tup [.str n2, .tup dueA], .tup [.str n1, .tup dueB]]] = stF ++ [C.lst ([(n2, dueA), (n1, dueB)].map fun p => D.tup [.str p.1, .tup p.2])] := rfl
  rw [eG]
  generalize stF ++ [C.lst ([(n2, dueA), (n1, dueB)].map fun p => D.tup [.str p.1, .tup p.2])] = stG at rG ⊢
  refine it_at rG ?_
  have hall2 : ∀ p ∈ [(n2, dueA), (n1, dueB)], Due dt p := fun p hp => by
    simp at hp
    rcases hp with rfl | rfl
    · exact DA'
    · exact DB''
  refine for_map [(n2, dueA), (n1, dueB)] (fun p => D.tup [.str p.1, .tup p.2]) rfl (fun j σ st' => ∃ z10 z11 z13, Grw stG st' ∧ σ = [some (.ref 0), some (.ref 2), some (.ref pn), some (.tup [.str "record", .str rn, .tup []]), some (.ref nn), some (dcD (.fn n1 psA rwA vsA bA)), some (.tup dueA), some (dcD (.fn n2 psB rwB vsB bB)), some (.tup dueB), some (.tup (ds.map dcD)), z10, z11, some (.tup (dt.map dcD)), z13]) ⟨_, _, _, Grw.refl _, rfl⟩ (fun j p σ st' hj ⟨z10, z11, z13, k1, e1⟩ N1 hN1 => ?_) (fun σ st' ⟨z10, z11, z13, k1, e1⟩ => ?_)
  · subst e1
    refine ⟨.inl (k1.rd rG), ?_⟩
    have hD := hall2 p (List.mem_of_getElem? hj)
    walk_at "s"
    refine ⟨rfl, ?_⟩
    walk_at "s"
    refine ask_ok (by omega) PT hD fun st2 g2 => ?_
    walk_at "s"
    refine same_ok 13 hD.wk (by omega) fun st3 g3 => ?_
    walk_at "s"
    refine wayF rfl ?_
    exact hN1 _ _ ⟨_, _, _, (k1.trans g2).trans g3, rfl⟩
  subst e1
  refine ⟨.inl (k1.rd rG), ?_⟩
  walk_at "r"
  rfl
end Pk52
end PartPdk52P21

section PartPdk52T
open PySem PySem.W PyProof.Rows
set_option maxRecDepth 100000 in
set_option maxHeartbeats 0 in
theorem PySem.Challenge.cw_metorshut_k52_counting_loops_holds : PySem.Challenge.rw_metorshut_k52_counting_loops.Holds := by
  w_on; o_law; k_head; (case hw => w_witness2)
  k_fill
  refine L2.walk_ofB (l := PySem.Challenge.rw_metorshut_k52_counting_loops) (n := 63) (k := 61) (x := "_law_script") (CX := fun _ => L2.CX0) (sp := fun w => Pd.liftF _ 1 (Pd.callN Pk52.prog 61 "law")) rfl (by decide) rfl ⟨rfl, by decide, by decide⟩ (fun w h Y => PySem.W.kIn_of Y) ?F (fun _ _ a ns hl hb hO hS => Pd.law_sp (Pk52.law_holds ns hl hb) hO hS) (fun _ _ _ _ _ h => h)
  case F =>
    intro w mg fa h KX G hmg
    refine' Pk52.all_mk KX G hmg ?a1 ?l1 ?c1 ?k1 ?a2 ?l2 ?c2 ?k2 ?a3 ?l3 ?c3 ?k3 ?a4 ?l4 ?c4 ?k4 ?a5 ?l5 ?c5 ?k5 ?a6 ?l6 ?c6 ?k6 ?a7 ?l7 ?c7 ?k7 ?a8 ?l8 ?c8 ?k8 ?a9 ?l9 ?c9 ?k9 ?a10 ?l10 ?c10 ?k10 ?a11 ?l11 ?c11 ?k11 ?a12 ?l12 ?c12 ?k12 ?a13 ?l13 ?c13 ?k13 ?a14 ?l14 ?c14 ?k14 ?a15 ?l15 ?c15 ?k15 ?a16 ?l16 ?c16 ?k16 ?a17 ?l17 ?c17 ?k17 ?a18 ?l18 ?c18 ?k18 ?a19 ?l19 ?c19 ?k19 ?a20 ?l20 ?c20 ?k20 ?a21 ?l21 ?c21 ?k21 ?a22 ?l22 ?c22 ?k22 ?a23 ?l23 ?c23 ?k23 ?a24 ?l24 ?c24 ?k24 ?a25 ?l25 ?c25 ?k25 ?a26 ?l26 ?c26 ?k26 ?a27 ?l27 ?c27 ?k27 ?a28 ?l28 ?c28 ?k28 ?a29 ?l29 ?c29 ?k29 ?a30 ?l30 ?c30 ?k30 ?a31 ?l31 ?c31 ?k31 ?a32 ?l32 ?c32 ?k32 ?a33 ?l33 ?c33 ?k33 ?a34 ?l34 ?c34 ?k34 ?a35 ?l35 ?c35 ?k35 ?a36 ?l36 ?c36 ?k36 ?a37 ?l37 ?c37 ?k37 ?a38 ?l38 ?c38 ?k38 ?a39 ?l39 ?c39 ?k39 ?a40 ?l40 ?c40 ?k40 ?a41 ?l41 ?c41 ?k41 ?a42 ?l42 ?c42 ?k42 ?a43 ?l43 ?c43 ?k43 ?z1 ?z2 ?z3 ?z4 ?z5 ?z6 ?z7 ?z8 ?z9 ?z10 ?z11 ?g1 ?gl1 ?gk1 ?gc1 ?ge1
    (case a1 => k_is); (case l1 => k_is); (case c1 => k_is); (case k1 => k_is)
    (case a2 => k_is); (case l2 => k_is); (case c2 => k_is); (case k2 => k_is)
    (case a3 => k_is); (case l3 => k_is); (case c3 => k_is); (case k3 => k_is)
    (case a4 => k_is); (case l4 => k_is); (case c4 => k_is); (case k4 => k_is)
    (case a5 => k_is); (case l5 => k_is); (case c5 => k_is); (case k5 => k_is)
    (case a6 => k_is); (case l6 => k_is); (case c6 => k_is); (case k6 => k_is)
    (case a7 => k_is); (case l7 => k_is); (case c7 => k_is); (case k7 => k_is)
    (case a8 => k_is); (case l8 => k_is); (case c8 => k_is); (case k8 => k_is)
    (case a9 => k_is); (case l9 => k_is); (case c9 => k_is); (case k9 => k_is)
    (case a10 => k_is); (case l10 => k_is); (case c10 => k_is); (case k10 => k_is)
    (case a11 => k_is); (case l11 => k_is); (case c11 => k_is); (case k11 => k_is)
    (case a12 => k_is); (case l12 => k_is); (case c12 => k_is); (case k12 => k_is)
    (case a13 => k_is); (case l13 => k_is); (case c13 => k_is); (case k13 => k_is)
    (case a14 => k_is); (case l14 => k_is); (case c14 => k_is); (case k14 => k_is)
    (case a15 => k_is); (case l15 => k_is); (case c15 => k_is); (case k15 => k_is)
    (case a16 => k_is); (case l16 => k_is); (case c16 => k_is); (case k16 => k_is)
    (case a17 => k_is); (case l17 => k_is); (case c17 => k_is); (case k17 => k_is)
    (case a18 => k_is); (case l18 => k_is); (case c18 => k_is); (case k18 => k_is)
    (case a19 => k_is); (case l19 => k_is); (case c19 => k_is); (case k19 => k_is)
    (case a20 => k_is); (case l20 => k_is); (case c20 => k_is); (case k20 => k_is)
    (case a21 => k_is); (case l21 => k_is); (case c21 => k_is); (case k21 => k_is)
    (case a22 => k_is); (case l22 => k_is); (case c22 => k_is); (case k22 => k_is)
    (case a23 => k_is); (case l23 => k_is); (case c23 => k_is); (case k23 => k_is)
    (case a24 => k_is); (case l24 => k_is); (case c24 => k_is); (case k24 => k_is)
    (case a25 => k_is); (case l25 => k_is); (case c25 => k_is); (case k25 => k_is)
    (case a26 => k_is); (case l26 => k_is); (case c26 => k_is); (case k26 => k_is)
    (case a27 => k_is); (case l27 => k_is); (case c27 => k_is); (case k27 => k_is)
    (case a28 => k_is); (case l28 => k_is); (case c28 => k_is); (case k28 => k_is)
    (case a29 => k_is); (case l29 => k_is); (case c29 => k_is); (case k29 => k_is)
    (case a30 => k_is); (case l30 => k_is); (case c30 => k_is); (case k30 => k_is)
    (case a31 => k_is); (case l31 => k_is); (case c31 => k_is); (case k31 => k_is)
    (case a32 => k_is); (case l32 => k_is); (case c32 => k_is); (case k32 => k_is)
    (case a33 => k_is); (case l33 => k_is); (case c33 => k_is); (case k33 => k_is)
    (case a34 => k_is); (case l34 => k_is); (case c34 => k_is); (case k34 => k_is)
    (case a35 => k_is); (case l35 => k_is); (case c35 => k_is); (case k35 => k_is)
    (case a36 => k_is); (case l36 => k_is); (case c36 => k_is); (case k36 => k_is)
    (case a37 => k_is); (case l37 => k_is); (case c37 => k_is); (case k37 => k_is)
    (case a38 => k_is); (case l38 => k_is); (case c38 => k_is); (case k38 => k_is)
    (case a39 => k_is); (case l39 => k_is); (case c39 => k_is); (case k39 => k_is)
    (case a40 => k_is); (case l40 => k_is); (case c40 => k_is); (case k40 => k_is)
    (case a41 => k_is); (case l41 => k_is); (case c41 => k_is); (case k41 => k_is)
    (case a42 => k_is); (case l42 => k_is); (case c42 => k_is); (case k42 => k_is)
    (case a43 => k_is); (case l43 => k_is); (case c43 => k_is); (case k43 => k_is)
    (case z1 => k_is)
    (case z2 => k_is)
    (case z3 => k_is)
    (case z4 => k_is)
    (case z5 => k_is)
    (case z6 => k_is)
    (case z7 => k_is)
    (case z8 => k_is)
    (case z9 => k_is)
    (case z10 => k_is)
    (case z11 => k_is)
    (case g1 => k_is); (case gl1 => k_is); (case gk1 => exact ⟨⟨_, _, rfl, rfl⟩, ⟨_, _, rfl, rfl⟩, ⟨_, _, rfl, rfl⟩, ⟨_, _, rfl, rfl⟩, trivial⟩); (case gc1 => exact rfl); (case ge1 => kernel_rfl)
end PartPdk52T
