import PyProof.Rows.All
import HandS.Base
import Wide.All
import OpenK.AllK
import Wide.FinOn
import HandS.ForMost
import HandS.Flow
import HandS.TupAny
import HandS.IsInst
import HandS.Zip
import HandS.Conv
import HandS.EndBits
import HandS.Text
import HandS.SortInts
import HandS.Star
import HandS.Small
import HandS.Dict
import HandS.DictComp
import KE.KDictSum
import HandS.Iter
import KE.KDictList
import KE.KRevIter
import HandS.RevTup
import HandS.Rev
import HandS.Comp
import HandS.More
import HandS.RaiseMore
import PySem.Challenge.RW_metorshut_k06_programs_written
section PartPdCore
set_option linter.all false
/-! Pd: a data-level weakest-precondition semantics of the Python that the laws use.
Values are plain data (tuples are values, lists and dicts are numbers of cells of a store).
A reading takes what is wanted behind. Own work. -/
namespace Pd
open PySem

inductive D where
  | non
  | bl (b : Bool)
  | int (i : Int)
  | str (x : Str)
  | tup (xs : List D)
  | ref (n : Nat)
  deriving Inhabited

/-- what a locked dict is, for the soundness alone -/
abbrev Tok := PySem.Obj × List (L2.Key × L2.V)
/-- a cell of the store -/
inductive C where
  | lst (xs : List D)
  | frz (xs : List D)
  | dic (kvs : List (Sum Int Str × D))
  /-- a dict that a walk has locked -/
  | frd (kvs : List (Sum Int Str × D)) (tk : Tok)

abbrev Store := List C
abbrev Env := List (Option D)
abbrev K := D → Store → Prop
abbrev TE := Env → Store → K → Prop
abbrev TT := Env → Store → (Bool → Store → Prop) → Prop
abbrev TA := Env → Store → (List D → Store → Prop) → Prop
structure Ends where
  nx : Env → Store → Prop
  rt : K
  bk : Env → Store → Prop := fun _ _ => False
  ct : Env → Store → Prop := fun _ _ => False
abbrev TS := Ends → Env → Store → Prop
/-- what the calls of own defs do -/
abbrev Cl := String → List D → Store → K → Prop

/-- the longest that the model's lists and texts may be -/
def szl : Nat := 16777216

def lk : Env → Nat → Option D
  | [], _ => none
  | x :: _, 0 => x
  | _ :: r, n + 1 => lk r n
def wipeE : Env → List Nat → Env
  | ρ, [] => ρ
  | ρ, v :: vs => (wipeE ρ vs).set v none

/-! ### data: pure, depth, equality -/
/-- a text of code points -/
def okS (x : Str) : Bool := x.cps.toList.all fun c => decide (c < 1114112)
mutual
def D.okd : Nat → D → Bool
  | _, .non => true
  | _, .bl _ => true
  | _, .int _ => true
  | _, .str x => okS x
  | 0, .tup _ => false
  | n + 1, .tup xs => okds n xs
  | _, .ref _ => false
def okds : Nat → List D → Bool
  | _, [] => true
  | n, x :: xs => D.okd n x && okds n xs
end
def b2i (b : Bool) : Int := if b then 1 else 0
mutual
def D.eqb : D → D → Bool
  | .non, .non => true
  | .bl a, .bl b => a == b
  | .bl a, .int j => b2i a == j
  | .int i, .bl b => i == b2i b
  | .int i, .int j => i == j
  | .str x, .str y => decide (x = y)
  | .tup xs, .tup ys => eqbs xs ys
  | _, _ => false
def eqbs : List D → List D → Bool
  | [], [] => true
  | x :: xs, y :: ys => D.eqb x y && eqbs xs ys
  | _, _ => false
end
def D.flat : D → Bool
  | .non => true
  | .bl _ => true
  | .int _ => true
  | .str _ => true
  | _ => false

/-! ### the store -/
/-- at n a list that may be changed -/
def rdL (st : Store) (n : Nat) (xs : List D) : Prop := st[n]? = some (.lst xs)
/-- at n a list -/
def rdA (st : Store) (n : Nat) (xs : List D) : Prop := st[n]? = some (.lst xs) ∨ st[n]? = some (.frz xs)
def rdD (st : Store) (n : Nat) (kvs : List (Sum Int Str × D)) : Prop := st[n]? = some (.dic kvs)
/-- at n a dict, locked or not -/
def rdDA (st : Store) (n : Nat) (kvs : List (Sum Int Str × D)) : Prop := st[n]? = some (.dic kvs) ∨ ∃ tk, st[n]? = some (.frd kvs tk)

/-! ### expressions -/
def dC (d : D) : TE := fun _ st Q => Q d st
def dVar (i : Nat) : TE := fun σ st Q => ∃ d, lk σ i = some d ∧ Q d st
abbrev K2 := D → D → Store → K → Prop
def dOp (k : K2) (ta tb : TE) : TE := fun σ st Q => ta σ st fun x st1 => tb σ st1 fun y st2 => k x y st2 Q
def dUn (k : D → Store → K → Prop) (ta : TE) : TE := fun σ st Q => ta σ st fun x st1 => k x st1 Q

def cMul (i j : Int) : Prop := (-(2 ^ 64) < i ∧ i < 2 ^ 64) ∨ (-(2 ^ 64) < j ∧ j < 2 ^ 64)
def cPow (i j : Int) : Prop := 0 ≤ j ∧ j ≤ 1000000 ∧ i.natAbs < 2 ^ 64
def addK : K2
  | .int a, .int b, st, Q => Q (.int (a + b)) st
  | .str a, .str b, st, Q => a.length + b.length ≤ szl ∧ Q (.str (a ++ b)) st
  | .tup a, .tup b, st, Q => a.length + b.length ≤ szl ∧ Q (.tup (a ++ b)) st
  | .ref m, .ref n, st, Q => ∃ a b, rdL st m a ∧ rdL st n b ∧ a.length + b.length ≤ szl ∧ Q (.ref st.length) (st ++ [.lst (a ++ b)])
  | _, _, _, _ => False
def subK : K2
  | .int a, .int b, st, Q => Q (.int (a - b)) st
  | _, _, _, _ => False
def mulK : K2
  | .int a, .int b, st, Q => cMul a b ∧ Q (.int (a * b)) st
  | .ref m, .int k, st, Q => ∃ xs, rdL st m xs ∧ -(2 ^ 63) ≤ k ∧ k < 2 ^ 63 ∧ xs.length * k.toNat ≤ szl ∧ Q (.ref st.length) (st ++ [.lst (List.replicate k.toNat xs).flatten])
  | _, _, _, _ => False
def fdivK : K2
  | .int a, .int b, st, Q => (0 < b ∧ b < 1073741824) ∧ Q (.int (a / b)) st
  | _, _, _, _ => False
def modK : K2
  | .int a, .int b, st, Q => 0 < b ∧ Q (.int (a % b)) st
  | _, _, _, _ => False
def powK : K2
  | .int a, .int b, st, Q => cPow a b ∧ Q (.int (a ^ b.toNat)) st
  | _, _, _, _ => False
def shlK : K2
  | .int a, .int b, st, Q => cPow a b ∧ Q (.int (a * 2 ^ b.toNat)) st
  | _, _, _, _ => False
def shrK : K2
  | .int a, .int b, st, Q => 0 ≤ b ∧ Q (.int (a / 2 ^ b.toNat)) st
  | _, _, _, _ => False
def andK : K2
  | .int a, .int b, st, Q => Q (.int (Builtin.bitAnd a b)) st
  | _, _, _, _ => False
def orK : K2
  | .int a, .int b, st, Q => Q (.int (Builtin.bitOr a b)) st
  | _, _, _, _ => False
def xorK : K2
  | .int a, .int b, st, Q => Q (.int (Builtin.bitXor a b)) st
  | _, _, _, _ => False
/-- op= of ints and texts -/
def iaddK : K2
  | .int a, .int b, st, Q => Q (.int (a + b)) st
  | .str a, .str b, st, Q => a.length + b.length ≤ szl ∧ Q (.str (a ++ b)) st
  | _, _, _, _ => False
def negK : D → Store → K → Prop
  | .int a, st, Q => Q (.int (-a)) st
  | _, _, _ => False
def invK : D → Store → K → Prop
  | .int a, st, Q => Q (.int (Builtin.bitNot a)) st
  | _, _, _ => False

/-! ### comparisons -/
abbrev KC := D → D → Store → (Bool → Prop) → Prop
def dCmp (k : KC) (ta tb : TE) : TE := fun σ st Q => ta σ st fun x st1 => tb σ st1 fun y st2 => k x y st2 fun b => Q (.bl b) st2
def dChain (k k' : KC) (ta tb tc : TE) : TE := fun σ st Q => ta σ st fun x st1 => tb σ st1 fun y st2 => k x y st2 fun b =>
  (b = true → tc σ st2 fun z st3 => k' y z st3 fun b' => Q (.bl b') st3) ∧ (b = false → Q (.bl false) st2)
/-- == -/
def eqC : KC
  | .ref m, .ref n, st, Q => ∃ xs ys, rdA st m xs ∧ rdA st n ys ∧ okds 60 xs = true ∧ okds 60 ys = true ∧ Q (eqbs xs ys)
  | .ref m, y, st, Q => ∃ xs, rdA st m xs ∧ okds 60 xs = true ∧ D.okd 60 y = true ∧ Q false
  | x, .ref n, st, Q => ∃ ys, rdA st n ys ∧ okds 60 ys = true ∧ D.okd 60 x = true ∧ Q false
  | x, y, st, Q => D.okd 60 x = true ∧ D.okd 60 y = true ∧ Q (D.eqb x y)
def neC : KC := fun x y st Q => eqC x y st fun b => Q (!b)
def ltC : KC
  | .int a, .int b, _, Q => Q (decide (a < b))
  | _, _, _, _ => False
def leC : KC
  | .int a, .int b, _, Q => Q (decide (a ≤ b))
  | _, _, _, _ => False
def gtC : KC
  | .int a, .int b, _, Q => Q (decide (b < a))
  | _, _, _, _ => False
def geC : KC
  | .int a, .int b, _, Q => Q (decide (b ≤ a))
  | _, _, _, _ => False
def isNon : D → Bool
  | .non => true
  | _ => false
def isC : KC
  | x, .non, _, Q => Q (isNon x)
  | _, _, _, _ => False
def isntC : KC
  | x, .non, _, Q => Q (!isNon x)
  | _, _, _, _ => False
def inC : KC
  | x, .tup xs, _, Q => x.flat = true ∧ xs.all D.flat = true ∧ Q (xs.any fun y => D.eqb y x)
  | x, .ref n, st, Q => ∃ xs, rdA st n xs ∧ x.flat = true ∧ xs.all D.flat = true ∧ Q (xs.any fun y => D.eqb y x)
  | _, _, _, _ => False
def notinC : KC := fun x y st Q => inC x y st fun b => Q (!b)

/-! ### truth -/
def truK : D → Store → (Bool → Prop) → Prop
  | .non, _, Q => Q false
  | .bl b, _, Q => Q b
  | .int i, _, Q => Q (i != 0)
  | .str y, _, Q => y.length ≤ szl ∧ Q ((y.length : Int) != 0)
  | .tup xs, _, Q => Q (!xs.isEmpty)
  | .ref n, st, Q => ∃ xs, rdA st n xs ∧ Q (!xs.isEmpty)
def tTru (t : TE) : TT := fun σ st Q => t σ st fun x st1 => truK x st1 fun b => Q b st1
def tAnd (t u : TT) : TT := fun σ st Q => t σ st fun c st1 => (c = true → u σ st1 Q) ∧ (c = false → Q false st1)
def tOr (t u : TT) : TT := fun σ st Q => t σ st fun c st1 => (c = true → Q true st1) ∧ (c = false → u σ st1 Q)
def tNot (t : TT) : TT := fun σ st Q => t σ st fun c st1 => Q (!c) st1
def dAndT (ta tb : TE) : TE := fun σ st Q => ta σ st fun x st1 => truK x st1 fun c => (c = true → tb σ st1 Q) ∧ (c = false → Q x st1)
def dOrT (ta tb : TE) : TE := fun σ st Q => ta σ st fun x st1 => truK x st1 fun c => (c = true → Q x st1) ∧ (c = false → tb σ st1 Q)
def dNotT (ta : TE) : TE := fun σ st Q => ta σ st fun x st1 => truK x st1 fun c => Q (.bl (!c)) st1
def dIf (c : TT) (a b : TE) : TE := fun σ st Q => c σ st fun k st1 => (k = true → a σ st1 Q) ∧ (k = false → b σ st1 Q)

/-! ### items, slices, displays, calls -/
def atD {α : Type} (xs : List α) (i : Int) : Option α := if 0 ≤ i then xs[i.toNat]? else if -(xs.length : Int) ≤ i then xs[(i + xs.length).toNat]? else none
def ixK : K2
  | .tup xs, .int i, st, Q => ∃ d, atD xs i = some d ∧ Q d st
  | .ref n, .int i, st, Q => ∃ xs d, rdA st n xs ∧ atD xs i = some d ∧ Q d st
  | .str z, .int i, st, Q => ∃ c, z.length ≤ szl ∧ atD z.cps.toList i = some c ∧ Q (.str ⟨#[c]⟩) st
  | _, _, _, _ => False
/-- where a slice's end lies -/
def cl (n : Nat) (i : Int) : Nat := if i < 0 then (i + n).toNat else min i.toNat n
def cutD {α : Type} (xs : List α) (lo hi : Option Int) : List α :=
  (xs.drop ((lo.map (cl xs.length)).getD 0)).take ((hi.map (cl xs.length)).getD xs.length - (lo.map (cl xs.length)).getD 0)
abbrev TO := Env → Store → (Option Int → Store → Prop) → Prop
def oNone : TO := fun _ st Q => Q none st
def oSome (t : TE) : TO := fun σ st Q => t σ st fun x st1 => ∃ i, x = .int i ∧ Q (some i) st1
def slK : D → Option Int → Option Int → Store → K → Prop
  | .tup xs, lo, hi, st, Q => Q (.tup (cutD xs lo hi)) st
  | .ref n, lo, hi, st, Q => ∃ xs, rdA st n xs ∧ Q (.ref st.length) (st ++ [.lst (cutD xs lo hi)])
  | _, _, _, _, _ => False
def dSl (te : TE) (tl th : TO) : TE := fun σ st Q => te σ st fun x st1 => tl σ st1 fun lo st2 => th σ st2 fun hi st3 => slK x lo hi st3 Q
def aNil : TA := fun _ st Q => Q [] st
def aCons (t : TE) (r : TA) : TA := fun σ st Q => t σ st fun x st1 => r σ st1 fun xs st2 => Q (x :: xs) st2
def dTup (t : TA) : TE := fun σ st Q => t σ st fun xs st1 => xs.length ≤ szl ∧ Q (.tup xs) st1
def dLst (t : TA) : TE := fun σ st Q => t σ st fun xs st1 => xs.length ≤ szl ∧ Q (.ref st1.length) (st1 ++ [.lst xs])
def dCall (c : Cl) (f : String) (t : TA) : TE := fun σ st Q => t σ st fun xs st1 => c f xs st1 Q
/-- a built-in -/
abbrev KB := List D → Store → K → Prop
def dB (k : KB) (t : TA) : TE := fun σ st Q => t σ st fun xs st1 => k xs st1 Q
/-- a method of a built-in type -/
abbrev KM := D → List D → Store → K → Prop
def dM (ty : D → Store → Prop) (k : KM) (to : TE) (t : TA) : TE := fun σ st Q => to σ st fun o st1 => ty o st1 ∧ t σ st1 fun xs st2 => k o xs st2 Q
def tyLst : D → Store → Prop
  | .ref n, st => ∃ xs, rdL st n xs
  | _, _ => False
def tyLstA : D → Store → Prop
  | .ref n, st => ∃ xs, rdA st n xs
  | _, _ => False
def tyStr : D → Store → Prop
  | .str _, _ => True
  | _, _ => False

def intB : KB
  | [.int i], st, Q => Q (.int i) st
  | [.bl b], st, Q => Q (.int (b2i b)) st
  | _, _, _ => False
def absB : KB
  | [.int i], st, Q => Q (.int (if i < 0 then -i else i)) st
  | _, _, _ => False
def lenB : KB
  | [.tup xs], st, Q => Q (.int xs.length) st
  | [.ref n], st, Q => ∃ xs, rdA st n xs ∧ Q (.int xs.length) st
  | [.str z], st, Q => z.length ≤ szl ∧ Q (.int z.length) st
  | _, _, _ => False
def min2B : KB
  | [.int i, .int j], st, Q => Q (.int (if j < i then j else i)) st
  | _, _, _ => False
def max2B : KB
  | [.int i, .int j], st, Q => Q (.int (if j > i then j else i)) st
  | _, _, _ => False
def listB : KB
  | [.tup xs], st, Q => Q (.ref st.length) (st ++ [.lst xs])
  | [.ref n], st, Q => ∃ xs, rdA st n xs ∧ Q (.ref st.length) (st ++ [.lst xs])
  | _, _, _ => False
def tupleB : KB
  | [.tup xs], st, Q => Q (.tup xs) st
  | [.ref n], st, Q => ∃ xs, rdA st n xs ∧ Q (.tup xs) st
  | _, _, _ => False
def sumB : KB
  | [.ref n], st, Q => ∃ ns : List Int, rdA st n (ns.map D.int) ∧ Q (.int ns.sum) st
  | _, _, _ => False
/-- None, a bool, an int: its truth -/
def D.tflat : D → Bool
  | .non => true
  | .bl _ => true
  | .int _ => true
  | _ => false
def D.tru : D → Bool
  | .bl b => b
  | .int i => i != 0
  | _ => false
def allB : KB
  | [.ref n], st, Q => ∃ xs : List D, rdA st n xs ∧ xs.all D.tflat = true ∧ Q (.bl (xs.all D.tru)) st
  | _, _, _ => False
def anyB : KB
  | [.ref n], st, Q => ∃ xs : List D, rdA st n xs ∧ xs.all D.tflat = true ∧ Q (.bl (xs.any D.tru)) st
  | _, _, _ => False
def min1B : KB
  | [.ref n], st, Q => ∃ ns : List Int, rdA st n (ns.map D.int) ∧ 0 < ns.length ∧ ∀ m, m ∈ ns → (∀ y, y ∈ ns → m ≤ y) → Q (.int m) st
  | _, _, _ => False
def max1B : KB
  | [.ref n], st, Q => ∃ ns : List Int, rdA st n (ns.map D.int) ∧ 0 < ns.length ∧ ∀ m, m ∈ ns → (∀ y, y ∈ ns → y ≤ m) → Q (.int m) st
  | _, _, _ => False
/-- isinstance(x, T), T a built-in class -/
inductive Ty where | int | bool | str | tuple | list
  deriving DecidableEq
def isTy : D → Store → Ty → (Bool → Prop) → Prop
  | .non, _, _, Q => Q false
  | .bl _, _, t, Q => Q (decide (t = .bool) || decide (t = .int))
  | .int _, _, t, Q => Q (decide (t = .int))
  | .str _, _, t, Q => Q (decide (t = .str))
  | .tup _, _, t, Q => Q (decide (t = .tuple))
  | .ref n, st, t, Q => ∃ xs, rdL st n xs ∧ Q (decide (t = .list))
def dIsi (ty : Ty) (t : TE) : TE := fun σ st Q => t σ st fun x st1 => isTy x st1 ty fun b => Q (.bl b) st1

/-! methods -/
def appendM : KM
  | .ref n, [x], st, Q => ∃ xs, rdL st n xs ∧ xs.length < szl ∧ Q .non (st.set n (.lst (xs ++ [x])))
  | _, _, _, _ => False
/-- .pop(i), the place in the list -/
def popM : KM
  | .ref n, [.int i], st, Q => ∃ xs d, rdL st n xs ∧ (0 ≤ i ∧ i < 2 ^ 62) ∧ atD xs i = some d ∧ Q d (st.set n (.lst (xs.eraseIdx i.toNat)))
  | _, _, _, _ => False
def extendM : KM
  | .ref n, [.ref m], st, Q => ∃ xs ys, rdL st n xs ∧ rdL st m ys ∧ n ≠ m ∧ xs.length + ys.length ≤ szl ∧ Q .non (st.set n (.lst (xs ++ ys)))
  | _, _, _, _ => False
/-- .index(x): the first place of what is there -/
def indexM : KM
  | .ref n, [x], st, Q => ∃ xs j z, rdA st n xs ∧ x.flat = true ∧ xs.all D.flat = true ∧ xs[j]? = some z ∧ D.eqb z x = true ∧ (∀ (m : Nat) (z' : D), m < j → xs[m]? = some z' → D.eqb z' x = false) ∧ Q (.int j) st
  | _, _, _, _ => False

/-! ### targets, iterables -/
abbrev TG := D → Env → Store → (Env → Store → Prop) → Prop
abbrev TGs := List D → Env → Store → (Env → Store → Prop) → Prop
def gName (i : Nat) : TG := fun d σ st Q => Q (σ.set i (some d)) st
def gsNil : TGs := fun ds σ st Q => ds = [] ∧ Q σ st
def gsCons (g : TG) (r : TGs) : TGs := fun ds σ st Q => ∃ d ds', ds = d :: ds' ∧ g d σ st fun σ1 st1 => r ds' σ1 st1 Q
def gTup (gs : TGs) (n : Nat) : TG := fun d σ st Q => ∃ ds, d = .tup ds ∧ ds.length = n ∧ gs ds σ st Q
def setK : D → D → D → Store → (Store → Prop) → Prop
  | .ref n, .int i, v, st, Q => ∃ xs, rdL st n xs ∧ (∃ d, atD xs i = some d) ∧ 0 ≤ i ∧ Q (st.set n (.lst (xs.set i.toNat v)))
  | _, _, _, _, _ => False
def gSub (to ti : TE) : TG := fun v σ st Q => to σ st fun o st1 => ti σ st1 fun i st2 => setK o i v st2 fun st3 => Q σ st3
structure Iter where
  items : List D
  guard : Store → Prop
abbrev TI := Env → Store → (Iter → Store → Prop) → Prop
/-- a list or a tuple -/
def itK : D → Store → (Iter → Store → Prop) → Prop
  | .tup xs, st, R => R ⟨xs, fun _ => True⟩ st
  | .ref n, st, R => ∃ xs, rdA st n xs ∧ R ⟨xs, fun s => rdA s n xs⟩ st
  | _, _, _ => False
def iSeq (t : TE) : TI := fun σ st R => t σ st fun x st1 => itK x st1 R
def rng (lo : Int) (n : Nat) : List D := (List.range n).map fun (k : Nat) => D.int (lo + k)
def iR1 (t : TE) : TI := fun σ st R => t σ st fun x st1 => ∃ j, x = .int j ∧ -(2 ^ 62) ≤ j ∧ j < 2 ^ 62 ∧ R ⟨rng 0 j.toNat, fun _ => True⟩ st1
def iR2 (t u : TE) : TI := fun σ st R => t σ st fun x st1 => u σ st1 fun y st2 => ∃ i j, x = .int i ∧ y = .int j ∧ (-(2 ^ 62) ≤ i ∧ i < 2 ^ 62 ∧ -(2 ^ 62) ≤ j ∧ j < 2 ^ 62) ∧ R ⟨rng i (j - i).toNat, fun _ => True⟩ st2
def zipD : List D → List D → List D
  | x :: xs, y :: ys => .tup [x, y] :: zipD xs ys
  | _, _ => []
/-- zip(a, b): both lists, or both tuples -/
def zipK : D → D → Store → (Iter → Store → Prop) → Prop
  | .tup xs, .tup ys, st, R => R ⟨zipD xs ys, fun _ => True⟩ st
  | .ref m, .ref n, st, R => ∃ xs ys, rdA st m xs ∧ rdA st n ys ∧ R ⟨zipD xs ys, fun s => rdA s m xs ∧ rdA s n ys⟩ st
  | _, _, _, _ => False
def iZip2 (t u : TE) : TI := fun σ st R => t σ st fun x st1 => u σ st1 fun y st2 => zipK x y st2 R

/-! ### comprehensions -/
def tYes : TT := fun _ st Q => Q true st
/-- n: the new list's cell -/
def lcLoop (gd : Store → Prop) (g : TG) (tt : TT) (te : TE) (ρ : Env) (n : Nat) (Q : K) : List D → List D → Store → Prop
  | [], acc, st => gd st ∧ rdL st n acc ∧ Q (.ref n) st
  | x :: xs, acc, st => gd st ∧ g x ρ st fun ρ2 st2 => tt ρ2 st2 fun b st3 =>
      (b = true → te ρ2 st3 fun y st4 => rdL st4 n acc ∧ acc.length < szl ∧ lcLoop gd g tt te ρ n Q xs (acc ++ [y]) (st4.set n (.lst (acc ++ [y])))) ∧ (b = false → rdL st3 n acc ∧ lcLoop gd g tt te ρ n Q xs acc st3)
def dLc (i : TI) (g : TG) (tt : TT) (te : TE) (vs : List Nat) : TE := fun σ st Q => i σ st fun I st1 => lcLoop I.guard g tt te (wipeE σ vs) st1.length Q I.items [] (st1 ++ [.lst []])

/-! ### statements -/
def sNext : TS := fun D σ st => D.nx σ st
/-- a statement's end, where a walk may rest -/
structure Nxt (P : Prop) : Prop where
  go : P
def sSeq (t u : TS) : TS := fun D σ st => t { D with nx := fun σ' st' => Nxt (u D σ' st') } σ st
def sBreak : TS := fun D σ st => D.bk σ st
def sCont : TS := fun D σ st => D.ct σ st
def sExpr (t : TE) : TS := fun D σ st => t σ st fun _ st1 => D.nx σ st1
def sRet (t : TE) : TS := fun D σ st => t σ st D.rt
def sRetN : TS := fun D _ st => D.rt .non st
def sIf (c : TT) (t u : TS) : TS := fun D σ st => c σ st fun b st1 => (b = true → t D σ st1) ∧ (b = false → u D σ st1)
def sAsg (t : TE) (g : TG) : TS := fun D σ st => t σ st fun x st1 => g x σ st1 D.nx
/-- a, b = e, f of two locals: no tuple is made -/
def sPar (i j : Nat) (t : TA) : TS := fun D σ st => t σ st fun xs st1 => ∃ x y, xs = [x, y] ∧ D.nx ((σ.set i (some x)).set j (some y)) st1
def sAug (i : Nat) (k : K2) (t : TE) : TS := fun D σ st => ∃ x, lk σ i = some x ∧ t σ st fun y st1 => k x y st1 fun z st2 => D.nx (σ.set i (some z)) st2
/-- the item of a list alone -/
def ixLK : K2
  | .ref n, .int i, st, Q => ∃ xs d, rdA st n xs ∧ atD xs i = some d ∧ Q d st
  | _, _, _, _ => False
def sAugL (k : K2) (to ti te : TE) : TS := fun D σ st => to σ st fun o st1 => ti σ st1 fun i st2 => ixLK o i st2 fun x st3 => te σ st3 fun y st4 => k x y st4 fun z st5 => setK o i z st5 fun st6 => D.nx σ st6
def forLoop (gd : Store → Prop) (g : TG) (tb : TS) (D : Ends) : List Pd.D → Env → Store → Prop
  | [], σ, st => gd st ∧ D.nx σ st
  | x :: xs, σ, st => gd st ∧ g x σ st fun σ2 st2 => tb { D with nx := fun σ3 st3 => forLoop gd g tb D xs σ3 st3, ct := fun σ3 st3 => forLoop gd g tb D xs σ3 st3, bk := D.nx } σ2 st2
def sFor (i : TI) (g : TG) (tb : TS) : TS := fun D σ st => i σ st fun I st1 => forLoop I.guard g tb D I.items σ st1
def whileN (c : TT) (tb : TS) (D : Ends) : Nat → Env → Store → Prop
  | 0, _, _ => False
  | n + 1, σ, st => c σ st fun b st1 => (b = true → tb { D with nx := fun σ2 st2 => whileN c tb D n σ2 st2, ct := fun σ2 st2 => whileN c tb D n σ2 st2, bk := D.nx } σ st1) ∧ (b = false → D.nx σ st1)
def sWhile (c : TT) (tb : TS) : TS := fun D σ st => ∃ n, whileN c tb D n σ st

/-! ### defs: parameters, number of names, body -/
structure Def where
  ps : Nat
  ns : Nat
  body : Cl → TS
def start (n : Nat) (ds : List D) : Env := ds.map some ++ List.replicate (n - ds.length) none
def Def.run (d : Def) (c : Cl) (ds : List D) (st : Store) (Q : K) : Prop :=
  ds.length = d.ps ∧ d.body c { nx := fun _ st' => Q .non st', rt := Q } (start d.ns ds) st
/-- calls, at most k deep -/
def callN (prog : String → Option Def) : Nat → Cl
  | 0 => fun _ _ _ _ => False
  | k + 1 => fun f ds st Q => ∃ d, prog f = some d ∧ d.run (callN prog k) ds st Q
end Pd
end PartPdCore

section PartPdSoundA
set_option Elab.async false
set_option linter.all false
set_option maxRecDepth 100000
set_option maxHeartbeats 1000000
/-! Pd over the hand layer: data against values and heaps; lifting; expressions. Own work. -/
namespace Pd
open PySem PySem.Spec
abbrev Kf := PySem.W.Frag
abbrev Vv := L2.V
abbrev Hp := L2.Hp

theorem szl_eq : szl = sizeLine := by rfl

/-! ### data against values -/
mutual
def RD (K : Kf) (f : List Addr) (H : Hp) : D → L2.V → Prop
  | .non, v => v = .non
  | .bl b, v => v = .bl b
  | .int i, v => v = .int i
  | .str s, v => v = .str s
  | .ref n, v => ∃ a, f[n]? = some a ∧ v = .ref a
  | .tup ds, v => ∃ a vs, v = .ref a ∧ L2.SqT K H a vs ∧ RDs K f H ds vs
def RDs (K : Kf) (f : List Addr) (H : Hp) : List D → List L2.V → Prop
  | [], vs => vs = []
  | d :: ds, vs => ∃ v r, vs = v :: r ∧ RD K f H d v ∧ RDs K f H ds r
end
section
variable {K : Kf} {f f' : List Addr} {H H' : Hp} {st st' : Store} {ρ : Env} {σ : L2.St}
theorem RD.non {v : L2.V} : RD K f H .non v ↔ v = .non := by simp [RD]
theorem RD.bl {b : Bool} {v : L2.V} : RD K f H (.bl b) v ↔ v = .bl b := by simp [RD]
theorem RD.int {i : Int} {v : L2.V} : RD K f H (.int i) v ↔ v = .int i := by simp [RD]
theorem RD.str {x : Str} {v : L2.V} : RD K f H (.str x) v ↔ v = .str x := by simp [RD]
theorem RD.ref {n : Nat} {v : L2.V} : RD K f H (.ref n) v ↔ ∃ a, f[n]? = some a ∧ v = .ref a := by simp [RD]
theorem RD.tup {ds : List D} {v : L2.V} : RD K f H (.tup ds) v ↔ ∃ a vs, v = .ref a ∧ L2.SqT K H a vs ∧ RDs K f H ds vs := by simp [RD]
theorem RDs.nil {vs : List L2.V} : RDs K f H [] vs ↔ vs = [] := by simp [RDs]
theorem RDs.cons {d : D} {ds : List D} {vs : List L2.V} : RDs K f H (d :: ds) vs ↔ ∃ v r, vs = v :: r ∧ RD K f H d v ∧ RDs K f H ds r := by simp [RDs]

/-- later: more cells, the tuples as they were -/
structure Ext (K : Kf) (f : List Addr) (H : Hp) (f' : List Addr) (H' : Hp) : Prop where
  pre : ∃ g, f' = f ++ g
  tup : ∀ a xs, L2.SqT K H a xs → L2.SqT K H' a xs
theorem Ext.refl : Ext K f H f H := ⟨⟨[], by simp⟩, fun _ _ h => h⟩
theorem Ext.trans {f2 : List Addr} {H2 : Hp} (a : Ext K f H f' H') (b : Ext K f' H' f2 H2) : Ext K f H f2 H2 := by
  obtain ⟨g, rfl⟩ := a.pre
  obtain ⟨g2, rfl⟩ := b.pre
  exact ⟨⟨g ++ g2, by simp⟩, fun x xs h => b.tup x xs (a.tup x xs h)⟩
theorem Ext.at (e : Ext K f H f' H') {n : Nat} {a : Addr} (h : f[n]? = some a) : f'[n]? = some a := by
  obtain ⟨g, rfl⟩ := e.pre
  have hn := (List.getElem?_eq_some_iff.mp h).1
  rw [List.getElem?_append_left hn]; exact h
mutual
theorem RD.mono (e : Ext K f H f' H') : ∀ (d : D) {v : L2.V}, RD K f H d v → RD K f' H' d v
  | .non, _, h => by rw [RD.non] at *; exact h
  | .bl _, _, h => by rw [RD.bl] at *; exact h
  | .int _, _, h => by rw [RD.int] at *; exact h
  | .str _, _, h => by rw [RD.str] at *; exact h
  | .ref _, _, h => by
    rw [RD.ref] at *
    obtain ⟨a, h1, h2⟩ := h
    exact ⟨a, e.at h1, h2⟩
  | .tup ds, _, h => by
    rw [RD.tup] at *
    obtain ⟨a, vs, h1, h2, h3⟩ := h
    exact ⟨a, vs, h1, e.tup _ _ h2, RDs.mono e ds h3⟩
theorem RDs.mono (e : Ext K f H f' H') : ∀ (ds : List D) {vs : List L2.V}, RDs K f H ds vs → RDs K f' H' ds vs
  | [], _, h => by rw [RDs.nil] at *; exact h
  | d :: ds, _, h => by
    rw [RDs.cons] at *
    obtain ⟨v, r, h1, h2, h3⟩ := h
    exact ⟨v, r, h1, RD.mono e d h2, RDs.mono e ds h3⟩
end
theorem RDs.length : ∀ {ds : List D} {vs : List L2.V}, RDs K f H ds vs → vs.length = ds.length
  | [], _, h => by rw [RDs.nil] at h; subst h; rfl
  | d :: ds, _, h => by
    rw [RDs.cons] at h
    obtain ⟨v, r, rfl, _, h3⟩ := h
    simp [RDs.length h3]
theorem RDs.get : ∀ {ds : List D} {vs : List L2.V} {i : Nat} {d : D}, RDs K f H ds vs → ds[i]? = some d → ∃ v, vs[i]? = some v ∧ RD K f H d v
  | [], _, _, _, _, e => by simp at e
  | x :: ds, _, 0, d, h, e => by
    rw [RDs.cons] at h
    obtain ⟨v, r, rfl, h2, _⟩ := h
    simp at e; subst e; exact ⟨v, rfl, h2⟩
  | x :: ds, _, i + 1, d, h, e => by
    rw [RDs.cons] at h
    obtain ⟨v, r, rfl, _, h3⟩ := h
    obtain ⟨w, h4, h5⟩ := RDs.get (i := i) h3 (by simpa using e)
    exact ⟨w, by simpa using h4, h5⟩
theorem RDs.append : ∀ {xs ys : List D} {us vs : List L2.V}, RDs K f H xs us → RDs K f H ys vs → RDs K f H (xs ++ ys) (us ++ vs)
  | [], _, _, _, h, h' => by rw [RDs.nil] at h; subst h; exact h'
  | x :: xs, _, _, _, h, h' => by
    rw [RDs.cons] at h
    obtain ⟨v, r, rfl, h2, h3⟩ := h
    rw [List.cons_append, RDs.cons]
    exact ⟨v, _, rfl, h2, RDs.append h3 h'⟩
theorem RDs.one {d : D} {v : L2.V} (h : RD K f H d v) : RDs K f H [d] [v] := by
  rw [RDs.cons]; exact ⟨v, [], rfl, h, by rw [RDs.nil]⟩
theorem RDs.take : ∀ {ds : List D} {vs : List L2.V} (n : Nat), RDs K f H ds vs → RDs K f H (ds.take n) (vs.take n)
  | _, _, 0, _ => by simp [RDs.nil]
  | [], _, n + 1, h => by rw [RDs.nil] at h; subst h; simp [RDs.nil]
  | d :: ds, _, n + 1, h => by
    rw [RDs.cons] at h
    obtain ⟨v, r, rfl, h2, h3⟩ := h
    rw [List.take_succ_cons, List.take_succ_cons, RDs.cons]
    exact ⟨v, _, rfl, h2, RDs.take n h3⟩
theorem RDs.drop : ∀ {ds : List D} {vs : List L2.V} (n : Nat), RDs K f H ds vs → RDs K f H (ds.drop n) (vs.drop n)
  | _, _, 0, h => by simpa using h
  | [], _, n + 1, h => by rw [RDs.nil] at h; subst h; simp [RDs.nil]
  | d :: ds, _, n + 1, h => by
    rw [RDs.cons] at h
    obtain ⟨v, r, rfl, h2, h3⟩ := h
    rw [List.drop_succ_cons, List.drop_succ_cons]
    exact RDs.drop n h3
theorem RDs.set : ∀ {ds : List D} {vs : List L2.V} (n : Nat) {d : D} {v : L2.V}, RD K f H d v → RDs K f H ds vs → RDs K f H (ds.set n d) (vs.set n v)
  | [], _, _, _, _, _, h => by rw [RDs.nil] at h; subst h; simp [RDs.nil]
  | x :: ds, _, 0, d, v, hd, h => by
    rw [RDs.cons] at h
    obtain ⟨w, r, rfl, h2, h3⟩ := h
    rw [List.set_cons_zero, List.set_cons_zero, RDs.cons]
    exact ⟨v, r, rfl, hd, h3⟩
  | x :: ds, _, n + 1, d, v, hd, h => by
    rw [RDs.cons] at h
    obtain ⟨w, r, rfl, h2, h3⟩ := h
    rw [List.set_cons_succ, List.set_cons_succ, RDs.cons]
    exact ⟨w, _, rfl, h2, RDs.set n hd h3⟩
theorem RDs.eraseIdx : ∀ {ds : List D} {vs : List L2.V} (n : Nat), RDs K f H ds vs → RDs K f H (ds.eraseIdx n) (vs.eraseIdx n)
  | [], _, _, h => by rw [RDs.nil] at h; subst h; simp [RDs.nil]
  | x :: ds, _, 0, h => by
    rw [RDs.cons] at h
    obtain ⟨w, r, rfl, h2, h3⟩ := h
    simpa using h3
  | x :: ds, _, n + 1, h => by
    rw [RDs.cons] at h
    obtain ⟨w, r, rfl, h2, h3⟩ := h
    rw [List.eraseIdx_cons_succ, List.eraseIdx_cons_succ, RDs.cons]
    exact ⟨w, _, rfl, h2, RDs.eraseIdx n h3⟩
theorem RDs.ints : ∀ {ns : List Int} {vs : List L2.V}, RDs K f H (ns.map D.int) vs → vs = ns.map L2.V.int
  | [], _, h => by rw [List.map_nil, RDs.nil] at h; subst h; rfl
  | n :: ns, _, h => by
    rw [List.map_cons, RDs.cons] at h
    obtain ⟨v, r, rfl, h2, h3⟩ := h
    rw [RD.int] at h2
    rw [h2, RDs.ints h3]; rfl
theorem RDs.of_ints : ∀ (ns : List Int), RDs K f H (ns.map D.int) (ns.map L2.V.int)
  | [] => by simp [RDs.nil]
  | n :: ns => by
    rw [List.map_cons, List.map_cons, RDs.cons]
    exact ⟨_, _, rfl, by rw [RD.int], RDs.of_ints ns⟩
theorem RDs.bools : ∀ {bs : List Bool} {vs : List L2.V}, RDs K f H (bs.map D.bl) vs → vs = bs.map L2.V.bl
  | [], _, h => by rw [List.map_nil, RDs.nil] at h; subst h; rfl
  | n :: ns, _, h => by
    rw [List.map_cons, RDs.cons] at h
    obtain ⟨v, r, rfl, h2, h3⟩ := h
    rw [RD.bl] at h2
    rw [h2, RDs.bools h3]; rfl

/-! ### the store against the heap -/
/-- a list that may not be changed: frozen, or the module's -/
def FzL (K : Kf) (H : Hp) (a : Addr) (xs : List L2.V) : Prop :=
  (∃ o, H a = some (.frz o (.lst xs))) ∨
    ∃ (o : Obj) (its : Array Value) (n : Nat), K.lookup a = some o ∧ o.cls = .type "list" ∧ o.dict = none ∧ o.data = .seq its n ∧ its.size ≤ sizeLine ∧ L2.Vals xs its.toList
theorem FzL.sq {a : Addr} {xs : List L2.V} (h : FzL K H a xs) : L2.SqL K H a xs := by
  rcases h with h | h
  · exact .inl (.inr h)
  · exact .inr h
def RC (K : Kf) (f : List Addr) (H : Hp) : C → Addr → Prop
  | .lst ds, a => ∃ vs, H a = some (.lst vs) ∧ RDs K f H ds vs
  | .frz ds, a => ∃ vs, FzL K H a vs ∧ RDs K f H ds vs
  | .dic kvs, a => ∃ ks : List (L2.Key × L2.V), H a = some (.dK ks) ∧ ks.map (·.1) = kvs.map (·.1) ∧ RDs K f H (kvs.map (·.2)) (ks.map (·.2))
  | .frd kvs tk, a => H a = some (.frz tk.1 (.dK tk.2)) ∧ tk.2.map (·.1) = kvs.map (·.1) ∧ RDs K f H (kvs.map (·.2)) (tk.2.map (·.2))
/-- a cell that may be changed -/
def mutC : C → Bool
  | .frz _ => false
  | _ => true
structure RelS (K : Kf) (f : List Addr) (st : Store) (H : Hp) : Prop where
  len : f.length = st.length
  nd : ∀ (n m : Nat) (c c' : C) (a : Addr), st[n]? = some c → st[m]? = some c' → mutC c = true → mutC c' = true → f[n]? = some a → f[m]? = some a → n = m
  cell : ∀ (n : Nat) (c : C) (a : Addr), st[n]? = some c → f[n]? = some a → RC K f H c a
structure Rel (K : Kf) (f : List Addr) (ρ : Env) (st : Store) (σ : L2.St) (H : Hp) : Prop extends RelS K f st H where
  env : ∀ (i : Nat) (d : D), lk ρ i = some d → ∃ v, σ[i]? = some (some v) ∧ RD K f H d v
  le : ρ.length ≤ σ.length
theorem RelS.at (r : RelS K f st H) {n : Nat} {c : C} (h : st[n]? = some c) : ∃ a, f[n]? = some a ∧ RC K f H c a := by
  have hn := (List.getElem?_eq_some_iff.mp h).1
  have hn' : n < f.length := by rw [r.len]; exact hn
  exact ⟨f[n], by simp [hn'], r.cell n c _ h (by simp [hn'])⟩
theorem RelS.rdL (r : RelS K f st H) {n : Nat} {xs : List D} (h : rdL st n xs) : ∃ a vs, f[n]? = some a ∧ H a = some (.lst vs) ∧ RDs K f H xs vs := by
  obtain ⟨a, h1, vs, h2, h3⟩ := r.at h
  exact ⟨a, vs, h1, h2, h3⟩
theorem RelS.rdD (r : RelS K f st H) {n : Nat} {kvs : List (Sum Int Str × D)} (h : Pd.rdD st n kvs) : ∃ a ks, f[n]? = some a ∧ H a = some (.dK ks) ∧ ks.map (·.1) = kvs.map (·.1) ∧ RDs K f H (kvs.map (·.2)) (ks.map (·.2)) := by
  obtain ⟨a, h1, ks, h2, h3⟩ := r.at h
  exact ⟨a, ks, h1, h2, h3⟩
theorem RelS.rdDA (r : RelS K f st H) {n : Nat} {kvs : List (Sum Int Str × D)} (h : Pd.rdDA st n kvs) : ∃ a ks, f[n]? = some a ∧ L2.Rd H a (.dK ks) ∧ ks.map (·.1) = kvs.map (·.1) ∧ RDs K f H (kvs.map (·.2)) (ks.map (·.2)) := by
  rcases h with h | ⟨tk, h⟩
  · obtain ⟨a, h1, ks, h2, h3⟩ := r.at h
    exact ⟨a, ks, h1, .inl h2, h3⟩
  · obtain ⟨a, h1, h2, h3⟩ := r.at h
    exact ⟨a, tk.2, h1, .inr ⟨_, h2⟩, h3⟩
theorem RelS.rdA (r : RelS K f st H) {n : Nat} {xs : List D} (h : rdA st n xs) : ∃ a vs, f[n]? = some a ∧ L2.SqL K H a vs ∧ RDs K f H xs vs := by
  rcases h with h | h
  · obtain ⟨a, h1, vs, h2, h3⟩ := r.at h
    exact ⟨a, vs, h1, .of h2, h3⟩
  · obtain ⟨a, h1, vs, h2, h3⟩ := r.at h
    exact ⟨a, vs, h1, h2.sq, h3⟩
theorem Rel.later (r : Rel K f ρ st σ H) (e : Ext K f H f' H') (s : RelS K f' st' H') : Rel K f' ρ st' σ H' :=
  ⟨s, fun i d h => by
    obtain ⟨v, h1, h2⟩ := r.env i d h
    exact ⟨v, h1, h2.mono e⟩, r.le⟩
theorem lk_lt : ∀ {ρ : Env} {i : Nat} {d : D}, lk ρ i = some d → i < ρ.length
  | [], _, _, h => by simp [lk] at h
  | _ :: _, 0, _, _ => by simp
  | _ :: r, i + 1, _, h => by
    have := lk_lt (ρ := r) (i := i) (by simpa [lk] using h)
    simp; omega
theorem wipeE_length (ρ : Env) : ∀ vs : List Nat, (wipeE ρ vs).length = ρ.length
  | [] => rfl
  | v :: vs => by unfold wipeE; rw [List.length_set, wipeE_length ρ vs]
theorem lk_set {ρ : Env} {i j : Nat} {d x : D} (h : lk (ρ.set i (some x)) j = some d) : (j = i ∧ d = x) ∨ (j ≠ i ∧ lk ρ j = some d) := by
  induction ρ generalizing i j with
  | nil => simp [lk] at h
  | cons y r ih =>
    cases i with
    | zero =>
      cases j with
      | zero => simp [lk] at h; exact .inl ⟨rfl, h.symm⟩
      | succ j => simp [lk] at h; exact .inr ⟨by simp, by simpa [lk] using h⟩
    | succ i =>
      cases j with
      | zero => simp [lk] at h; exact .inr ⟨by simp, by simpa [lk] using h⟩
      | succ j =>
        simp [lk] at h
        rcases ih h with ⟨e, h⟩ | ⟨e, h⟩
        · exact .inl ⟨by omega, h⟩
        · exact .inr ⟨by omega, by simpa [lk] using h⟩
theorem lk_none {ρ : Env} {i j : Nat} {d : D} (h : lk (ρ.set i none) j = some d) : j ≠ i ∧ lk ρ j = some d := by
  induction ρ generalizing i j with
  | nil => simp [lk] at h
  | cons y r ih =>
    cases i with
    | zero =>
      cases j with
      | zero => simp [lk] at h
      | succ j => simp [lk] at h; exact ⟨by simp, by simpa [lk] using h⟩
    | succ i =>
      cases j with
      | zero => simp [lk] at h; exact ⟨by simp, by simpa [lk] using h⟩
      | succ j =>
        simp [lk] at h
        obtain ⟨e, h⟩ := ih h
        exact ⟨by omega, by simpa [lk] using h⟩
theorem lk_wipe {ρ : Env} {j : Nat} {d : D} : ∀ {vs : List Nat}, lk (wipeE ρ vs) j = some d → j ∉ vs ∧ lk ρ j = some d
  | [], h => ⟨by simp, h⟩
  | v :: vs, h => by
    unfold wipeE at h
    obtain ⟨h1, h2⟩ := lk_none h
    obtain ⟨h3, h4⟩ := lk_wipe h2
    exact ⟨by simp [h1, h3], h4⟩
/-- the slots a target may write: all others as they were -/
def Out (vs : List Nat) (σ σ' : L2.St) : Prop := σ'.length = σ.length ∧ ∀ j, j ∉ vs → σ'[j]? = σ[j]?
theorem Rel.put {i : Nat} {d : D} {v : L2.V} (r : Rel K f ρ st σ H) (h : RD K f H d v) : Rel K f (ρ.set i (some d)) st (σ.set i (some v)) H :=
  ⟨r.toRelS, fun j x hx => by
    have hl := lk_lt hx
    rw [List.length_set] at hl
    have hle := r.le
    rcases lk_set hx with ⟨rfl, rfl⟩ | ⟨ne, h'⟩
    · exact ⟨v, by rw [List.getElem?_set_self (by omega)], h⟩
    · obtain ⟨w, h1, h2⟩ := r.env j x h'
      exact ⟨w, by rw [List.getElem?_set_ne (Ne.symm ne)]; exact h1, h2⟩, by rw [List.length_set, List.length_set]; exact r.le⟩
theorem wipe_keep {σ : L2.St} {i : Nat} : ∀ {vs : List Nat}, i ∉ vs → (L2.wipe σ vs)[i]? = σ[i]?
  | [], _ => rfl
  | v :: vs, h => by
    have h1 : i ≠ v := fun e => h (by simp [e])
    unfold L2.wipe
    rw [List.getElem?_set_ne (Ne.symm h1)]
    exact wipe_keep fun e => h (List.mem_cons_of_mem _ e)
theorem Rel.wipe {vs : List Nat} (r : Rel K f ρ st σ H) : Rel K f (wipeE ρ vs) st (L2.wipe σ vs) H :=
  ⟨r.toRelS, fun j x hx => by
    obtain ⟨h1, h2⟩ := lk_wipe hx
    obtain ⟨v, h3, h4⟩ := r.env j x h2
    exact ⟨v, by rw [wipe_keep h1]; exact h3, h4⟩, by rw [wipeE_length, L2.wipe_length]; exact r.le⟩
theorem Out.wipe {vs : List Nat} {σ σ' : L2.St} (h : Out vs (L2.wipe σ vs) σ') : L2.wipe σ' vs = L2.wipe σ vs := by
  obtain ⟨h1, h2⟩ := h
  apply List.ext_getElem?
  intro j
  have wiped : ∀ (τ : L2.St) (ws : List Nat), j ∈ ws → (L2.wipe τ ws)[j]? = if j < τ.length then some none else none := by
    intro τ ws
    induction ws with
    | nil => intro h; cases h
    | cons v ws ih =>
      intro h
      unfold L2.wipe
      by_cases e : v = j
      · subst e
        by_cases hl : v < τ.length
        · rw [List.getElem?_set_self (by rw [L2.wipe_length]; exact hl), if_pos hl]
        · rw [List.getElem?_eq_none (by rw [List.length_set, L2.wipe_length]; omega), if_neg hl]
      · rw [List.getElem?_set_ne e]
        rcases List.mem_cons.mp h with q | q
        · exact absurd q.symm e
        · exact ih q
  by_cases hj : j ∈ vs
  · rw [wiped σ' vs hj, wiped σ vs hj, h1, L2.wipe_length]
  · rw [wipe_keep hj, h2 j hj]

/-! a new object, a changed one -/
/-- what may stand where something is laid or changed -/
def Wr (H : Hp) (b : Addr) : Prop := H b = none ∨ (∃ ys, H b = some (.lst ys)) ∨ (∃ ys, H b = some (.dK ys)) ∨ ∃ o ys, H b = some (.frz o (.dK ys))
theorem SqT.upd {a b : Addr} {xs : List L2.V} {o : L2.HO} (h : L2.SqT K H a xs) (n : Wr H b) : L2.SqT K (L2.upd H b o) a xs := by
  rcases h with (h | ⟨q, h⟩) | h
  · have : a ≠ b := by
      rintro rfl
      rcases n with n | ⟨ys, n⟩ | ⟨ys, n⟩ | ⟨o, ys, n⟩ <;> rw [n] at h <;> cases h
    exact .inl (.inl (by rw [L2.upd_ne this]; exact h))
  · have : a ≠ b := by
      rintro rfl
      rcases n with n | ⟨ys, n⟩ | ⟨ys, n⟩ | ⟨o, ys, n⟩ <;> rw [n] at h <;> cases h
    exact .inl (.inr ⟨q, by rw [L2.upd_ne this]; exact h⟩)
  · exact .inr h
theorem FzL.upd {a b : Addr} {xs : List L2.V} {o : L2.HO} (h : FzL K H a xs) (n : Wr H b) : FzL K (L2.upd H b o) a xs := by
  rcases h with ⟨q, h⟩ | h
  · have : a ≠ b := by
      rintro rfl
      rcases n with n | ⟨ys, n⟩ | ⟨ys, n⟩ | ⟨o, ys, n⟩ <;> rw [n] at h <;> cases h
    exact .inl ⟨q, by rw [L2.upd_ne this]; exact h⟩
  · exact .inr h
theorem Ext.upd {b : Addr} {o : L2.HO} {g : List Addr} (n : Wr H b) : Ext K f H (f ++ g) (L2.upd H b o) := ⟨⟨g, rfl⟩, fun _ _ h => SqT.upd h n⟩
theorem Ext.upd0 {b : Addr} {o : L2.HO} (n : Wr H b) : Ext K f H f (L2.upd H b o) := ⟨⟨[], by simp⟩, fun _ _ h => SqT.upd h n⟩
theorem RC.upd {c : C} {a b : Addr} {o : L2.HO} (h : RC K f H c a) (e : Ext K f H f' (L2.upd H b o)) (n : Wr H b) (ne : mutC c = true → a ≠ b) : RC K f' (L2.upd H b o) c a := by
  cases c with
  | lst ds =>
    obtain ⟨vs, h1, h2⟩ := h
    exact ⟨vs, by rw [L2.upd_ne (ne rfl)]; exact h1, h2.mono e⟩
  | frz ds =>
    obtain ⟨vs, h1, h2⟩ := h
    exact ⟨vs, h1.upd n, h2.mono e⟩
  | dic kvs =>
    obtain ⟨ks, h1, h2, h3⟩ := h
    exact ⟨ks, by rw [L2.upd_ne (ne rfl)]; exact h1, h2, h3.mono e⟩
  | frd kvs tk =>
    obtain ⟨h1, h2, h3⟩ := h
    exact ⟨by rw [L2.upd_ne (ne rfl)]; exact h1, h2, h3.mono e⟩
theorem RC.some {c : C} {a : Addr} (h : RC K f H c a) (m : mutC c = true) : H a ≠ none := by
  cases c with
  | lst ds => obtain ⟨vs, h1, _⟩ := h; rw [h1]; simp
  | frz ds => cases m
  | dic kvs => obtain ⟨ks, h1, _⟩ := h; rw [h1]; simp
  | frd kvs tk => obtain ⟨h1, _⟩ := h; rw [h1]; simp
/-- a new tracked object that is no cell (a tuple) -/
theorem RelS.lay (r : RelS K f st H) {p : Addr} {o : L2.HO} (hp : H p = none) : RelS K f st (L2.upd H p o) ∧ Ext K f H f (L2.upd H p o) := by
  have e : Ext K f H f (L2.upd H p o) := Ext.upd0 (.inl hp)
  exact ⟨⟨r.len, r.nd, fun n c a h1 h2 => (r.cell n c a h1 h2).upd e (.inl hp) fun m z => (r.cell n c a h1 h2).some m (z ▸ hp)⟩, e⟩
/-- a new cell -/
theorem RelS.new (r : RelS K f st H) {p : Addr} {o : L2.HO} {c : C} (hp : H p = none) (hc : RC K (f ++ [p]) (L2.upd H p o) c p) : RelS K (f ++ [p]) (st ++ [c]) (L2.upd H p o) ∧ Ext K f H (f ++ [p]) (L2.upd H p o) := by
  have e : Ext K f H (f ++ [p]) (L2.upd H p o) := Ext.upd (.inl hp)
  have split : ∀ {n : Nat} {c' : C} {a : Addr}, (st ++ [c])[n]? = some c' → (f ++ [p])[n]? = some a → (n < st.length ∧ st[n]? = some c' ∧ f[n]? = some a) ∨ (n = st.length ∧ c' = c ∧ a = p) := fun {n c' a} h1 h2 => by
    have hl := r.len
    by_cases hn : n < st.length
    · rw [List.getElem?_append_left hn] at h1
      rw [List.getElem?_append_left (by rw [r.len]; exact hn)] at h2
      exact .inl ⟨hn, h1, h2⟩
    · rw [List.getElem?_append_right (by omega)] at h1
      rw [List.getElem?_append_right (by rw [r.len]; omega)] at h2
      have e0 : n - st.length = 0 := by
        have := (List.getElem?_eq_some_iff.mp h1).1
        simp at this; omega
      rw [e0] at h1
      rw [hl, e0] at h2
      simp at h1 h2
      exact .inr ⟨by omega, h1.symm, h2.symm⟩
  refine ⟨⟨by simp [r.len], fun n m c1 c2 a h1 h2 m1 m2 h3 h4 => ?_, fun n c' a h1 h2 => ?_⟩, e⟩
  · rcases split h1 h3 with ⟨l1, s1, t1⟩ | ⟨l1, rfl, rfl⟩ <;> rcases split h2 h4 with ⟨l2, s2, t2⟩ | ⟨l2, rfl, e2⟩
    · exact r.nd n m c1 c2 a s1 s2 m1 m2 t1 t2
    · subst e2
      exact absurd hp ((r.cell n c1 _ s1 t1).some m1)
    · exact absurd hp ((r.cell m c2 _ s2 t2).some m2)
    · omega
  · rcases split h1 h2 with ⟨l1, s1, t1⟩ | ⟨l1, rfl, rfl⟩
    · exact (r.cell n c' a s1 t1).upd e (.inl hp) fun m z => (r.cell n c' a s1 t1).some m (z ▸ hp)
    · exact hc
/-- a cell is changed -/
theorem RelS.chg (r : RelS K f st H) {p : Addr} {n : Nat} {c c' : C} {o : L2.HO} (hs : st[n]? = some c) (hm : mutC c = true) (hn : f[n]? = some p) (hp : Wr H p) (hm' : mutC c' = true) (hd : RC K f (L2.upd H p o) c' p) :
    RelS K f (st.set n c') (L2.upd H p o) ∧ Ext K f H f (L2.upd H p o) := by
  have e : Ext K f H f (L2.upd H p o) := Ext.upd0 hp
  have hl : n < st.length := (List.getElem?_eq_some_iff.mp hs).1
  have split : ∀ {m : Nat} {d : C}, (st.set n c')[m]? = some d → (m = n ∧ d = c') ∨ (m ≠ n ∧ st[m]? = some d) := fun {m d} h => by
    by_cases hmn : m = n
    · subst hmn
      rw [List.getElem?_set_self hl] at h
      cases h
      exact .inl ⟨rfl, rfl⟩
    · rw [List.getElem?_set_ne (Ne.symm hmn)] at h
      exact .inr ⟨hmn, h⟩
  refine ⟨⟨by simp [r.len], fun i j c1 c2 a h1 h2 m1 m2 h3 h4 => ?_, fun m d a h1 h2 => ?_⟩, e⟩
  · rcases split h1 with ⟨rfl, rfl⟩ | ⟨n1, s1⟩ <;> rcases split h2 with ⟨rfl, rfl⟩ | ⟨n2, s2⟩
    · rfl
    · exact r.nd _ _ _ _ a hs s2 hm m2 h3 h4
    · exact r.nd _ _ _ _ a s1 hs m1 hm h3 h4
    · exact r.nd _ _ _ _ a s1 s2 m1 m2 h3 h4
  · rcases split h1 with ⟨rfl, rfl⟩ | ⟨n1, s1⟩
    · rw [hn] at h2; cases h2
      exact hd
    · exact (r.cell m d a s1 h2).upd e hp fun md z => by
        subst z
        exact n1 (r.nd _ _ _ _ a s1 hs md hm h2 hn)
end
end Pd
end PartPdSoundA

section PartPdSoundB
set_option Elab.async false
set_option linter.all false
set_option maxRecDepth 100000
set_option maxHeartbeats 1000000
/-! Pd over the hand layer: lifting, expressions. Own work. -/
namespace Pd
open PySem PySem.Spec

/-! ### what is wanted, lifted -/
def LQ (K : Kf) (f : List Addr) (H : Hp) (Q' : Pd.K) (Q : L2.VK) : Prop :=
  ∀ (d : D) (st' : Store) (v : L2.V) (f' : List Addr) (H' : Hp), Q' d st' → Ext K f H f' H' → RelS K f' st' H' → RD K f' H' d v → Q v H'
def LT (K : Kf) (f : List Addr) (H : Hp) (Q' : Bool → Store → Prop) (Q : Bool → Hp → Prop) : Prop :=
  ∀ (b : Bool) (st' : Store) (f' : List Addr) (H' : Hp), Q' b st' → Ext K f H f' H' → RelS K f' st' H' → Q b H'
def LA (K : Kf) (f : List Addr) (H : Hp) (Q' : List D → Store → Prop) (Q : List L2.V → Hp → Prop) : Prop :=
  ∀ (ds : List D) (st' : Store) (vs : List L2.V) (f' : List Addr) (H' : Hp), Q' ds st' → Ext K f H f' H' → RelS K f' st' H' → RDs K f' H' ds vs → Q vs H'
def lift (K : Kf) (t : TE) : L2.TE := fun σ H Q => ∃ f ρ st Q', Rel K f ρ st σ H ∧ t ρ st Q' ∧ LQ K f H Q' Q
def liftT (K : Kf) (t : TT) : L2.TT := fun σ H Q => ∃ f ρ st Q', Rel K f ρ st σ H ∧ t ρ st Q' ∧ LT K f H Q' Q
def liftA (K : Kf) (t : TA) : L2.TA := fun σ H Q => ∃ f ρ st Q', Rel K f ρ st σ H ∧ t ρ st Q' ∧ LA K f H Q' Q
abbrev PD (X : L2.Cx) (e : Expr) (t : TE) : Prop := L2.PE X e (lift X.K t)
abbrev PDT (X : L2.Cx) (e : Expr) (t : TT) : Prop := L2.PT X e (liftT X.K t)
abbrev PDA (X : L2.Cx) (es : List Expr) (t : TA) : Prop := L2.PA X es (liftA X.K t)
section
variable {X : L2.Cx} {K : Kf} {f f' : List Addr} {H H' : Hp} {st st' : Store} {ρ : Env} {σ : L2.St}
theorem pe_imp {e : Expr} {t t' : L2.TE} (h : L2.PE X e t) (m : ∀ σ H Q, t' σ H Q → t σ H Q) : L2.PE X e t' := ⟨fun pins s σ H Q I q => h.run pins s σ H Q I (m σ H Q q)⟩
theorem pt_imp {e : Expr} {t t' : L2.TT} (h : L2.PT X e t) (m : ∀ σ H Q, t' σ H Q → t σ H Q) : L2.PT X e t' := ⟨fun pins s σ H Q I q => h.run pins s σ H Q I (m σ H Q q)⟩
theorem pa_imp {e : List Expr} {t t' : L2.TA} (h : L2.PA X e t) (m : ∀ σ H Q, t' σ H Q → t σ H Q) : L2.PA X e t' := ⟨fun pos pins s σ H Q I q => h.run pos pins s σ H Q I (m σ H Q q)⟩
theorem LQ.later {Q' : Pd.K} {Q : L2.VK} (l : LQ K f H Q' Q) (e : Ext K f H f' H') : LQ K f' H' Q' Q := fun d st' v f2 H2 q e2 s r => l d st' v f2 H2 q (e.trans e2) s r
theorem LQ.now {Q' : Pd.K} {Q : L2.VK} {d : D} {v : L2.V} (l : LQ K f H Q' Q) (s : RelS K f st H) (q : Q' d st) (r : RD K f H d v) : Q v H := l d st v f H q .refl s r
/-- a new tuple -/
theorem LQ.tup {Q' : Pd.K} {Q : L2.VK} {ds : List D} {vs : List L2.V} (l : LQ K f H Q' Q) (s : RelS K f st H) (q : Q' (.tup ds) st) (r : RDs K f H ds vs) {p : Addr} (hp : H p = none) : Q (.ref p) (L2.upd H p (.tup vs)) := by
  obtain ⟨s', e⟩ := s.lay (o := .tup vs) hp
  exact l _ st _ f _ q e s' (RD.tup.mpr ⟨p, vs, rfl, .of L2.upd_same, r.mono e⟩)
/-- a new list -/
theorem LQ.lst {Q' : Pd.K} {Q : L2.VK} {ds : List D} {vs : List L2.V} (l : LQ K f H Q' Q) (s : RelS K f st H) (q : Q' (.ref st.length) (st ++ [.lst ds])) (r : RDs K f H ds vs) {p : Addr} (hp : H p = none) : Q (.ref p) (L2.upd H p (.lst vs)) := by
  have e : Ext K f H (f ++ [p]) (L2.upd H p (.lst vs)) := Ext.upd (.inl hp)
  obtain ⟨s', e⟩ := s.new (o := .lst vs) (c := .lst ds) hp ⟨vs, L2.upd_same, r.mono e⟩
  exact l _ _ _ _ _ q e s' (RD.ref.mpr ⟨p, by rw [← s.len]; simp, rfl⟩)
/-- a changed list -/
theorem RelS.put {n : Nat} {a : Addr} {xs ds : List D} {vs ws : List L2.V} (s : RelS K f st H) (hn : f[n]? = some a) (h : Pd.rdL st n xs) (hH : H a = some (.lst vs)) (r : RDs K f H ds ws) :
    RelS K f (st.set n (.lst ds)) (L2.upd H a (.lst ws)) ∧ Ext K f H f (L2.upd H a (.lst ws)) :=
  s.chg (c := .lst xs) h rfl hn (.inr (.inl ⟨vs, hH⟩)) rfl ⟨ws, L2.upd_same, r.mono (Ext.upd0 (.inr (.inl ⟨vs, hH⟩)))⟩

/-! ### names, constants -/
theorem pd_var {i : Nat} {x : Str} {pos : Pos} (hN : X.N[i]? = some x) (hv : L2.Vis X.env.scope x := by first | exact .inl rfl | exact .inr (.inl rfl) | exact .inr (.inr rfl)) (hd : (x == ("__debug__" : Str)) = false := by decide) (hcd : (x == ("__classdict__" : Str)) = false := by decide) : PD X (.Name x pos) (dVar i) := by
  refine pe_imp (L2.pe_var hN hv hd hcd) fun σ H Q ⟨f, ρ, st, Q', R, ⟨d, h1, h2⟩, l⟩ => ?_
  obtain ⟨v, e, r⟩ := R.env i d h1
  exact ⟨v, e, l.now R.toRelS h2 r⟩
theorem pd_int {i : Int} {j pos} : PD X (.Constant (.int i) j pos) (dC (.int i)) := pe_imp L2.pe_int fun σ H Q ⟨f, ρ, st, Q', R, h, l⟩ => l.now R.toRelS h (RD.int.mpr rfl)
theorem pd_bl {b : Bool} {j pos} : PD X (.Constant (.bool b) j pos) (dC (.bl b)) := pe_imp L2.pe_bl fun σ H Q ⟨f, ρ, st, Q', R, h, l⟩ => l.now R.toRelS h (RD.bl.mpr rfl)
theorem pd_non {j pos} : PD X (.Constant .none j pos) (dC .non) := pe_imp L2.pe_non fun σ H Q ⟨f, ρ, st, Q', R, h, l⟩ => l.now R.toRelS h (RD.non.mpr rfl)
theorem pd_str {x : Str} {j pos} : PD X (.Constant (.str x) j pos) (dC (.str x)) := pe_imp L2.pe_str fun σ H Q ⟨f, ρ, st, Q', R, h, l⟩ => l.now R.toRelS h (RD.str.mpr rfl)
/-- a constant of the module: data -/
theorem pd_glob {x : Str} {d : D} {u : Value} {pos : Pos} (hg : L2.Gl X x) (hm : X.mg x = some u) (h : ∃ v, L2.RelV v u ∧ ∀ f H, RD X.K f H d v) (hd : (x == ("__debug__" : Str)) = false := by decide) : PD X (.Name x pos) (dC d) := by
  obtain ⟨v, r, hr⟩ := h
  exact pe_imp (L2.pe_glob hg hm r hd) fun σ H Q ⟨f, ρ, st, Q', R, h, l⟩ => l.now R.toRelS h (hr f H)

/-! ### operators -/
def Real2 (K : Kf) (r : L2.R2) (k : K2) : Prop := ∀ (f : List Addr) (st : Store) (H : Hp) (x y : D) (v w : L2.V) (Q' : Pd.K) (Q : L2.VK), RelS K f st H → RD K f H x v → RD K f H y w → k x y st Q' → LQ K f H Q' Q → r v w H Q
def Real1 (K : Kf) (r : L2.V → Hp → L2.VK → Prop) (k : D → Store → Pd.K → Prop) : Prop := ∀ (f : List Addr) (st : Store) (H : Hp) (x : D) (v : L2.V) (Q' : Pd.K) (Q : L2.VK), RelS K f st H → RD K f H x v → k x st Q' → LQ K f H Q' Q → r v H Q
theorem two_imp {r : L2.R2} {k : K2} {ta tb : TE} (hr : Real2 K r k) {Q : L2.VK} (h : lift K (dOp k ta tb) σ H Q) : L2.tOp r (lift K ta) (lift K tb) σ H Q := by
  obtain ⟨f, ρ, st, Q', R, h, l⟩ := h
  refine ⟨f, ρ, st, _, R, h, fun x st1 v f1 H1 h1 e1 s1 r1 => ⟨f1, ρ, st1, _, R.later e1 s1, h1, fun y st2 w f2 H2 h2 e2 s2 r2 => ?_⟩⟩
  exact hr f2 st2 H2 x y v w Q' Q s2 (r1.mono e2) r2 h2 (l.later (e1.trans e2))
section
variable {a b c : Expr} {ta tb tc : TE} {pos : Pos}
theorem pd_op {op : Operator} {r : L2.R2} {k : K2} (ho : L2.OpR X (binaryOp op) r) (hr : Real2 X.K r k) (ha : PD X a ta) (hb : PD X b tb) : PD X (.BinOp a op b pos) (dOp k ta tb) :=
  pe_imp (L2.pe_op ho ha hb) fun σ H Q h => two_imp hr h
theorem pd_un {op : UnaryOp} {r : L2.V → Hp → L2.VK → Prop} {k : D → Store → Pd.K → Prop} (ho : L2.UnR X (unaryOp op) r) (hr : Real1 X.K r k) (ha : PD X a ta) : PD X (.UnaryOp op a pos) (dUn k ta) := by
  refine pe_imp (L2.pe_un ho ha) fun σ H Q ⟨f, ρ, st, Q', R, h, l⟩ => ?_
  exact ⟨f, ρ, st, _, R, h, fun x st1 v f1 H1 h1 e1 s1 r1 => hr f1 st1 H1 x v Q' Q s1 r1 h1 (l.later e1)⟩
end
theorem real_int {g : Int → Int → Int} {C : Int → Int → Prop} {k : K2} (hk : ∀ x y st Q, k x y st Q → ∃ i j, x = .int i ∧ y = .int j ∧ C i j ∧ Q (.int (g i j)) st) : Real2 K (L2.rI C fun i j => .int (g i j)) k := by
  intro f st H x y v w Q' Q s r1 r2 h l
  obtain ⟨i, j, rfl, rfl, hc, q⟩ := hk x y st Q' h
  rw [RD.int] at r1 r2
  exact ⟨i, j, r1, r2, hc, l.now s q (RD.int.mpr rfl)⟩
theorem real_int0 {g : Int → Int → Int} {k : K2} (hk : ∀ x y st Q, k x y st Q → ∃ i j, x = .int i ∧ y = .int j ∧ Q (.int (g i j)) st) : Real2 K (L2.rI0 fun i j => .int (g i j)) k := by
  intro f st H x y v w Q' Q s r1 r2 h l
  obtain ⟨i, j, rfl, rfl, q⟩ := hk x y st Q' h
  rw [RD.int] at r1 r2
  exact ⟨i, j, r1, r2, l.now s q (RD.int.mpr rfl)⟩
/-- + -/
def rAdd (K : Kf) : L2.R2 := fun x y H Q => (∃ i j, x = .int i ∧ y = .int j ∧ Q (.int (i + j)) H) ∨ (∃ i j, x = .str i ∧ y = .str j ∧ i.length + j.length ≤ sizeLine ∧ Q (.str (i ++ j)) H) ∨ L2.rCatA K x y H Q ∨ L2.rCat x y H Q
theorem op_addA : L2.OpR X (binaryOp .Add) (rAdd X.K) := (L2.op_add (X := X)).or (L2.op_add_str.or (L2.op_catA.or L2.op_cat))
theorem RDs.isNil {ds : List D} {vs : List L2.V} (h : RDs K f H ds vs) : ds = [] ↔ vs = [] := by
  have := h.length
  constructor
  · rintro rfl; exact List.length_eq_zero_iff.mp (by simpa using this)
  · rintro rfl; exact List.length_eq_zero_iff.mp (by simpa using this.symm)
theorem real_add : Real2 K (rAdd K) addK := by
  intro f st H x y v w Q' Q s r1 r2 h l
  cases x <;> cases y <;> try (exact h.elim)
  · rw [RD.int] at r1 r2
    exact .inl ⟨_, _, r1, r2, l.now s h (RD.int.mpr rfl)⟩
  · rw [RD.str] at r1 r2
    obtain ⟨h1, h2⟩ := h
    exact .inr (.inl ⟨_, _, r1, r2, by rw [← szl_eq]; exact h1, l.now s h2 (RD.str.mpr rfl)⟩)
  · rw [RD.tup] at r1 r2
    obtain ⟨a, vs, rfl, t1, d1⟩ := r1
    obtain ⟨b, ws, rfl, t2, d2⟩ := r2
    obtain ⟨h1, h2⟩ := h
    refine .inr (.inr (.inl ⟨a, b, vs, ws, rfl, rfl, t1, t2, by rw [d1.length, d2.length, ← szl_eq]; exact h1, fun e => ?_, fun _ e => ?_, fun _ _ p hp => ?_⟩))
    · have e' := d1.isNil.mpr e
      subst e'
      exact l.now s h2 (RD.tup.mpr ⟨b, ws, rfl, t2, d2⟩)
    · have e' := d2.isNil.mpr e
      subst e'
      rw [List.append_nil] at h2
      exact l.now s h2 (RD.tup.mpr ⟨a, vs, rfl, t1, d1⟩)
    · exact l.tup s h2 (d1.append d2) hp
  · rw [RD.ref] at r1 r2
    obtain ⟨a, e1, rfl⟩ := r1
    obtain ⟨b, e2, rfl⟩ := r2
    obtain ⟨xs, ys, h1, h2, h3, h4⟩ := h
    obtain ⟨a', vs, g1, g2, g3⟩ := s.rdL h1
    obtain ⟨b', ws, k1, k2, k3⟩ := s.rdL h2
    rw [e1] at g1; cases g1
    rw [e2] at k1; cases k1
    exact .inr (.inr (.inr ⟨a, b, vs, ws, rfl, rfl, g2, k2, by rw [g3.length, k3.length, ← szl_eq]; exact h3, fun p hp => l.lst s h4 (g3.append k3) hp⟩))
theorem real_sub : Real2 K (L2.rI0 fun i j => .int (i - j)) subK := real_int0 fun x y st Q h => by
  cases x <;> cases y <;> first | exact h.elim | exact ⟨_, _, rfl, rfl, h⟩
def rMul : L2.R2 := fun x y H Q => L2.rI L2.CMul (fun i j => .int (i * j)) x y H Q ∨ L2.rRep x y H Q
theorem op_mulA : L2.OpR X (binaryOp .Mult) rMul := (L2.op_mul (X := X)).or L2.op_rep
theorem RDs.rep {ds : List D} {vs : List L2.V} (h : RDs K f H ds vs) : ∀ n : Nat, RDs K f H (List.replicate n ds).flatten (List.replicate n vs).flatten
  | 0 => by simp [RDs.nil]
  | n + 1 => by
    rw [List.replicate_succ, List.replicate_succ, List.flatten_cons, List.flatten_cons]
    exact h.append (RDs.rep h n)
theorem real_mul : Real2 K rMul mulK := by
  intro f st H x y v w Q' Q s r1 r2 h l
  cases x <;> cases y <;> try (exact h.elim)
  · rw [RD.int] at r1 r2
    obtain ⟨h1, h2⟩ := h
    exact .inl ⟨_, _, r1, r2, h1, l.now s h2 (RD.int.mpr rfl)⟩
  · rw [RD.ref] at r1
    rw [RD.int] at r2
    obtain ⟨a, e1, rfl⟩ := r1
    obtain ⟨xs, h1, h2, h3, h4, h5⟩ := h
    obtain ⟨a', vs, g1, g2, g3⟩ := s.rdL h1
    rw [e1] at g1; cases g1
    exact .inr ⟨a, _, vs, rfl, r2, g2, h2, h3, by rw [g3.length, ← szl_eq]; exact h4, fun p hp => l.lst s h5 (g3.rep _) hp⟩
theorem real_fdiv : Real2 K (L2.rI L2.CDiv fun i j => .int (i / j)) fdivK := real_int fun x y st Q h => by
  cases x <;> cases y <;> first | exact h.elim | exact ⟨_, _, rfl, rfl, h⟩
theorem real_mod : Real2 K (L2.rI (fun _ j => 0 < j) fun i j => .int (i % j)) modK := real_int fun x y st Q h => by
  cases x <;> cases y <;> first | exact h.elim | exact ⟨_, _, rfl, rfl, h⟩
theorem real_pow : Real2 K (L2.rI L2.CPow fun i j => .int (i ^ j.toNat)) powK := real_int fun x y st Q h => by
  cases x <;> cases y <;> first | exact h.elim | exact ⟨_, _, rfl, rfl, h⟩
theorem real_shl : Real2 K (L2.rI L2.CPow fun i j => .int (i * 2 ^ j.toNat)) shlK := real_int fun x y st Q h => by
  cases x <;> cases y <;> first | exact h.elim | exact ⟨_, _, rfl, rfl, h⟩
theorem real_shr : Real2 K (L2.rI (fun _ j => 0 ≤ j) fun i j => .int (i / 2 ^ j.toNat)) shrK := real_int fun x y st Q h => by
  cases x <;> cases y <;> first | exact h.elim | exact ⟨_, _, rfl, rfl, h⟩
theorem real_and : Real2 K (L2.rI0 fun i j => .int (Builtin.bitAnd i j)) andK := real_int0 fun x y st Q h => by
  cases x <;> cases y <;> first | exact h.elim | exact ⟨_, _, rfl, rfl, h⟩
theorem real_or : Real2 K (L2.rI0 fun i j => .int (Builtin.bitOr i j)) orK := real_int0 fun x y st Q h => by
  cases x <;> cases y <;> first | exact h.elim | exact ⟨_, _, rfl, rfl, h⟩
theorem real_xor : Real2 K (L2.rI0 fun i j => .int (Builtin.bitXor i j)) xorK := real_int0 fun x y st Q h => by
  cases x <;> cases y <;> first | exact h.elim | exact ⟨_, _, rfl, rfl, h⟩
theorem real_neg : Real1 K (L2.rU fun i => .int (-i)) negK := by
  intro f st H x v Q' Q s r1 h l
  cases x <;> try (exact h.elim)
  rw [RD.int] at r1
  exact ⟨_, r1, l.now s h (RD.int.mpr rfl)⟩
theorem real_inv : Real1 K (L2.rU fun i => .int (Builtin.bitNot i)) invK := by
  intro f st H x v Q' Q s r1 h l
  cases x <;> try (exact h.elim)
  rw [RD.int] at r1
  exact ⟨_, r1, l.now s h (RD.int.mpr rfl)⟩
section
variable {a b c : Expr} {ta tb tc : TE} {pos : Pos}
theorem pd_add (ha : PD X a ta) (hb : PD X b tb) : PD X (.BinOp a .Add b pos) (dOp addK ta tb) := pd_op op_addA real_add ha hb
theorem pd_sub (ha : PD X a ta) (hb : PD X b tb) : PD X (.BinOp a .Sub b pos) (dOp subK ta tb) := pd_op L2.op_sub real_sub ha hb
theorem pd_mul (ha : PD X a ta) (hb : PD X b tb) : PD X (.BinOp a .Mult b pos) (dOp mulK ta tb) := pd_op op_mulA real_mul ha hb
theorem pd_fdiv (ha : PD X a ta) (hb : PD X b tb) : PD X (.BinOp a .FloorDiv b pos) (dOp fdivK ta tb) := pd_op L2.op_fdiv real_fdiv ha hb
theorem pd_mod (ha : PD X a ta) (hb : PD X b tb) : PD X (.BinOp a .Mod b pos) (dOp modK ta tb) := pd_op L2.op_mod real_mod ha hb
theorem pd_pow (ha : PD X a ta) (hb : PD X b tb) : PD X (.BinOp a .Pow b pos) (dOp powK ta tb) := pd_op L2.op_pow real_pow ha hb
theorem pd_shl (ha : PD X a ta) (hb : PD X b tb) : PD X (.BinOp a .LShift b pos) (dOp shlK ta tb) := pd_op L2.op_shl real_shl ha hb
theorem pd_shr (ha : PD X a ta) (hb : PD X b tb) : PD X (.BinOp a .RShift b pos) (dOp shrK ta tb) := pd_op L2.op_shr real_shr ha hb
theorem pd_and (ha : PD X a ta) (hb : PD X b tb) : PD X (.BinOp a .BitAnd b pos) (dOp andK ta tb) := pd_op L2.op_and real_and ha hb
theorem pd_or (ha : PD X a ta) (hb : PD X b tb) : PD X (.BinOp a .BitOr b pos) (dOp orK ta tb) := pd_op L2.op_or real_or ha hb
theorem pd_xor (ha : PD X a ta) (hb : PD X b tb) : PD X (.BinOp a .BitXor b pos) (dOp xorK ta tb) := pd_op L2.op_xor real_xor ha hb
theorem pd_neg (ha : PD X a ta) : PD X (.UnaryOp .USub a pos) (dUn negK ta) := pd_un L2.un_neg real_neg ha
theorem pd_inv (ha : PD X a ta) : PD X (.UnaryOp .Invert a pos) (dUn invK ta) := pd_un L2.un_inv real_inv ha
end

/-! ### comparisons -/
mutual
def toP : D → PyData
  | .non => .none
  | .bl b => .bool b
  | .int i => .int i
  | .str x => .str x
  | .tup xs => .tuple (toPs xs)
  | .ref _ => .none
def toPs : List D → List PyData
  | [] => []
  | x :: xs => toP x :: toPs xs
end
theorem strOk_of {x : Str} (h : okS x = true) : PyData.strOk x = true := by
  unfold okS at h
  unfold PyData.strOk
  rw [← Array.all_toList]
  exact h
mutual
theorem toP_dp {n : Nat} : ∀ (d : D) {v : L2.V}, D.okd n d = true → RD K f H d v → L2.Dp K H v (toP d)
  | .non, _, _, h => by rw [RD.non] at h; subst h; exact .non
  | .bl b, _, _, h => by rw [RD.bl] at h; subst h; exact .bl b
  | .int i, _, _, h => by rw [RD.int] at h; subst h; exact .int i
  | .str x, _, _, h => by rw [RD.str] at h; subst h; exact .str x
  | .ref _, _, ok, h => by simp [D.okd] at ok
  | .tup xs, _, ok, h => by
    cases n with
    | zero => simp [D.okd] at ok
    | succ n =>
      rw [RD.tup] at h
      obtain ⟨a, vs, rfl, h1, h2⟩ := h
      exact .tup h1 (toPs_dp xs (n := n) (by simpa [D.okd] using ok) h2)
theorem toPs_dp {n : Nat} : ∀ (ds : List D) {vs : List L2.V}, okds n ds = true → RDs K f H ds vs → L2.DpAll K H vs (toPs ds)
  | [], _, _, h => by rw [RDs.nil] at h; subst h; exact .nil
  | d :: ds, _, ok, h => by
    rw [RDs.cons] at h
    obtain ⟨v, r, rfl, h1, h2⟩ := h
    have ok' : D.okd n d = true ∧ okds n ds = true := by simpa [okds] using ok
    exact .cons (toP_dp d ok'.1 h1) (toPs_dp ds ok'.2 h2)
end
mutual
theorem toP_ok {n : Nat} : ∀ (d : D), D.okd n d = true → (toP d).canLay0 = true ∧ (toP d).depth ≤ n
  | .non, _ => by simp [toP, PyData.canLay0, PyData.depth]
  | .bl b, _ => by simp [toP, PyData.canLay0, PyData.depth]
  | .int i, _ => by simp [toP, PyData.canLay0, PyData.depth]
  | .str x, ok => by
    have : okS x = true := by simpa [D.okd] using ok
    simp [toP, PyData.canLay0, PyData.depth, strOk_of this]
  | .ref _, ok => by simp [D.okd] at ok
  | .tup xs, ok => by
    cases n with
    | zero => simp [D.okd] at ok
    | succ n =>
      obtain ⟨h1, h2⟩ := toPs_ok xs (n := n) (by simpa [D.okd] using ok)
      simp [toP, PyData.canLay0, PyData.depth, h1, h2]
theorem toPs_ok {n : Nat} : ∀ (ds : List D), okds n ds = true → PyData.canLayAll0 (toPs ds) = true ∧ PyData.depthAll (toPs ds) ≤ n
  | [], _ => by simp [toPs, PyData.canLayAll0, PyData.depthAll]
  | d :: ds, ok => by
    have ok' : D.okd n d = true ∧ okds n ds = true := by simpa [okds] using ok
    obtain ⟨h1, h2⟩ := toP_ok d ok'.1
    obtain ⟨h3, h4⟩ := toPs_ok ds ok'.2
    simp [toPs, PyData.canLayAll0, PyData.depthAll, h1, h3]
    omega
end
theorem shaped_of {d : D} (h : D.okd 60 d = true) : SeqAt.shaped (toP d) = true := by
  obtain ⟨h1, h2⟩ := toP_ok d h
  unfold SeqAt.shaped
  rw [h1, decide_eq_true (by omega)]
  rfl
theorem shaped_ofs {ds : List D} (h : okds 60 ds = true) : SeqAt.shaped (.list (toPs ds)) = true := by
  obtain ⟨h1, h2⟩ := toPs_ok ds h
  have e1 : (PyData.list (toPs ds)).canLay0 = true := by simpa [PyData.canLay0] using h1
  have e2 : (PyData.list (toPs ds)).depth = PyData.depthAll (toPs ds) + 1 := by simp [PyData.depth]
  unfold SeqAt.shaped
  rw [e1, e2, decide_eq_true (by omega)]
  rfl
mutual
theorem toP_eqv {n m : Nat} : ∀ (d e : D), D.okd n d = true → D.okd m e = true → PyData.eqv (toP d) (toP e) = D.eqb d e
  | .tup xs, .tup ys, h1, h2 => by
    cases n with
    | zero => simp [D.okd] at h1
    | succ n =>
      cases m with
      | zero => simp [D.okd] at h2
      | succ m => simpa [toP, PyData.eqv, D.eqb] using toPs_eqv xs ys (n := n) (m := m) (by simpa [D.okd] using h1) (by simpa [D.okd] using h2)
  | .ref _, _, h1, _ => by simp [D.okd] at h1
  | d, .ref _, _, h2 => by simp [D.okd] at h2
  | .non, .non, _, _ => by simp [toP, PyData.eqv, D.eqb]
  | .non, .bl _, _, _ => by simp [toP, PyData.eqv, D.eqb]
  | .non, .int _, _, _ => by simp [toP, PyData.eqv, D.eqb]
  | .non, .str _, _, _ => by simp [toP, PyData.eqv, D.eqb]
  | .non, .tup _, _, _ => by simp [toP, PyData.eqv, D.eqb]
  | .bl _, .non, _, _ => by simp [toP, PyData.eqv, D.eqb]
  | .bl _, .bl _, _, _ => by simp [toP, PyData.eqv, D.eqb]
  | .bl b, .int _, _, _ => by cases b <;> simp [toP, PyData.eqv, D.eqb, b2i]
  | .bl _, .str _, _, _ => by simp [toP, PyData.eqv, D.eqb]
  | .bl _, .tup _, _, _ => by simp [toP, PyData.eqv, D.eqb]
  | .int _, .non, _, _ => by simp [toP, PyData.eqv, D.eqb]
  | .int _, .bl b, _, _ => by cases b <;> simp [toP, PyData.eqv, D.eqb, b2i]
  | .int _, .int _, _, _ => by simp [toP, PyData.eqv, D.eqb]
  | .int _, .str _, _, _ => by simp [toP, PyData.eqv, D.eqb]
  | .int _, .tup _, _, _ => by simp [toP, PyData.eqv, D.eqb]
  | .str _, .non, _, _ => by simp [toP, PyData.eqv, D.eqb]
  | .str _, .bl _, _, _ => by simp [toP, PyData.eqv, D.eqb]
  | .str _, .int _, _, _ => by simp [toP, PyData.eqv, D.eqb]
  | .str x, .str y, _, _ => by simp only [toP, PyData.eqv, D.eqb]; by_cases h : x = y <;> simp [h]
  | .str _, .tup _, _, _ => by simp [toP, PyData.eqv, D.eqb]
  | .tup _, .non, _, _ => by simp [toP, PyData.eqv, D.eqb]
  | .tup _, .bl _, _, _ => by simp [toP, PyData.eqv, D.eqb]
  | .tup _, .int _, _, _ => by simp [toP, PyData.eqv, D.eqb]
  | .tup _, .str _, _, _ => by simp [toP, PyData.eqv, D.eqb]
theorem toPs_eqv {n m : Nat} : ∀ (ds es : List D), okds n ds = true → okds m es = true → PyData.eqvAll (toPs ds) (toPs es) = eqbs ds es
  | [], [], _, _ => by simp [toPs, PyData.eqvAll, eqbs]
  | [], _ :: _, _, _ => by simp [toPs, PyData.eqvAll, eqbs]
  | _ :: _, [], _, _ => by simp [toPs, PyData.eqvAll, eqbs]
  | d :: ds, e :: es, h1, h2 => by
    have ok1 : D.okd n d = true ∧ okds n ds = true := by simpa [okds] using h1
    have ok2 : D.okd m e = true ∧ okds m es = true := by simpa [okds] using h2
    simp [toPs, PyData.eqvAll, eqbs, toP_eqv d e ok1.1 ok2.1, toPs_eqv ds es ok1.2 ok2.2]
end
/-- a comparison's rule against the data-level one -/
def RealC (K : Kf) (r : L2.R2) (k : KC) : Prop := ∀ (f : List Addr) (st : Store) (H : Hp) (x y : D) (v w : L2.V) (Q' : Bool → Prop) (Q : L2.VK), RelS K f st H → RD K f H x v → RD K f H y w → k x y st Q' → (∀ b, Q' b → Q (.bl b) H) → r v w H Q
theorem RealC.real {r : L2.R2} {k : KC} (h : RealC K r k) : Real2 K r fun x y st Q => k x y st fun b => Q (.bl b) st := fun f st H x y v w Q' Q s r1 r2 hk l =>
  h f st H x y v w _ Q s r1 r2 hk fun b q => l.now s q (RD.bl.mpr rfl)
theorem eqC_dp {x y : D} {v w : L2.V} {Q' : Bool → Prop} (s : RelS K f st H) (r1 : RD K f H x v) (r2 : RD K f H y w) (h : eqC x y st Q') :
    ∃ d e, L2.Dp K H v d ∧ L2.Dp K H w e ∧ SeqAt.shaped d = true ∧ SeqAt.shaped e = true ∧ Q' (PyData.eqv d e) := by
  have lst : ∀ {n : Nat} {xs : List D} {u : L2.V}, rdA st n xs → okds 60 xs = true → RD K f H (.ref n) u → L2.Dp K H u (.list (toPs xs)) := fun {n xs u} h1 h2 h3 => by
    rw [RD.ref] at h3
    obtain ⟨a, e1, rfl⟩ := h3
    obtain ⟨a', vs, g1, g2, g3⟩ := s.rdA h1
    rw [e1] at g1; cases g1
    exact .lst g2 (toPs_dp xs h2 g3)
  have pur : ∀ {x y : D} {v w : L2.V}, RD K f H x v → RD K f H y w → (D.okd 60 x = true ∧ D.okd 60 y = true ∧ Q' (D.eqb x y)) → ∃ d e, L2.Dp K H v d ∧ L2.Dp K H w e ∧ SeqAt.shaped d = true ∧ SeqAt.shaped e = true ∧ Q' (PyData.eqv d e) := fun {x y v w} r1 r2 ⟨h1, h2, h3⟩ =>
    ⟨toP x, toP y, toP_dp x h1 r1, toP_dp y h2 r2, shaped_of h1, shaped_of h2, by rw [toP_eqv x y h1 h2]; exact h3⟩
  have lefts : ∀ {n : Nat} {xs : List D} {y : D}, (∀ m, y ≠ .ref m) → rdA st n xs → okds 60 xs = true → D.okd 60 y = true → Q' false → RD K f H (.ref n) v → RD K f H y w → ∃ d e, L2.Dp K H v d ∧ L2.Dp K H w e ∧ SeqAt.shaped d = true ∧ SeqAt.shaped e = true ∧ Q' (PyData.eqv d e) := fun {n xs y} hy h1 h2 h3 h4 r1 r2 =>
    ⟨_, toP y, lst h1 h2 r1, toP_dp y h3 r2, shaped_ofs h2, shaped_of h3, by
      have : PyData.eqv (.list (toPs xs)) (toP y) = false := by
        cases y <;> first | exact absurd rfl (hy _) | simp [toP, PyData.eqv]
      rw [this]; exact h4⟩
  have rights : ∀ {n : Nat} {xs : List D} {x : D}, (∀ m, x ≠ .ref m) → rdA st n xs → okds 60 xs = true → D.okd 60 x = true → Q' false → RD K f H x v → RD K f H (.ref n) w → ∃ d e, L2.Dp K H v d ∧ L2.Dp K H w e ∧ SeqAt.shaped d = true ∧ SeqAt.shaped e = true ∧ Q' (PyData.eqv d e) := fun {n xs x} hy h1 h2 h3 h4 r1 r2 =>
    ⟨toP x, _, toP_dp x h3 r1, lst h1 h2 r2, shaped_of h3, shaped_ofs h2, by
      have : PyData.eqv (toP x) (.list (toPs xs)) = false := by
        cases x <;> first | exact absurd rfl (hy _) | simp [toP, PyData.eqv]
      rw [this]; exact h4⟩
  by_cases hx : ∃ m, x = .ref m
  · obtain ⟨m, rfl⟩ := hx
    by_cases hy : ∃ n, y = .ref n
    · obtain ⟨n, rfl⟩ := hy
      obtain ⟨xs, ys, h1, h2, h3, h4, h5⟩ := h
      exact ⟨_, _, lst h1 h3 r1, lst h2 h4 r2, shaped_ofs h3, shaped_ofs h4, by rw [show PyData.eqv (.list (toPs xs)) (.list (toPs ys)) = PyData.eqvAll (toPs xs) (toPs ys) by simp [PyData.eqv], toPs_eqv xs ys h3 h4]; exact h5⟩
    · have h' : ∃ xs, rdA st m xs ∧ okds 60 xs = true ∧ D.okd 60 y = true ∧ Q' false := by
        cases y <;> first | exact h | exact absurd ⟨_, rfl⟩ hy
      obtain ⟨xs, h1, h2, h3, h4⟩ := h'
      exact lefts (fun k e => hy ⟨k, e⟩) h1 h2 h3 h4 r1 r2
  · by_cases hy : ∃ n, y = .ref n
    · obtain ⟨n, rfl⟩ := hy
      have h' : ∃ ys, rdA st n ys ∧ okds 60 ys = true ∧ D.okd 60 x = true ∧ Q' false := by
        cases x <;> first | exact h | exact absurd ⟨_, rfl⟩ hx
      obtain ⟨xs, h1, h2, h3, h4⟩ := h'
      exact rights (fun k e => hx ⟨k, e⟩) h1 h2 h3 h4 r1 r2
    · exact pur r1 r2 (by cases x <;> cases y <;> first | exact h | exact absurd ⟨_, rfl⟩ hx | exact absurd ⟨_, rfl⟩ hy)
theorem real_eq : RealC K (L2.rEqD K) eqC := fun f st H x y v w Q' Q s r1 r2 h l => by
  obtain ⟨d, e, h1, h2, h3, h4, h5⟩ := eqC_dp s r1 r2 h
  exact ⟨d, e, h1, h2, h3, h4, l _ h5⟩
theorem real_ne : RealC K (L2.rNeD K) neC := fun f st H x y v w Q' Q s r1 r2 h l => by
  obtain ⟨d, e, h1, h2, h3, h4, h5⟩ := eqC_dp s r1 r2 h
  exact ⟨d, e, h1, h2, h3, h4, l _ h5⟩
theorem real_cmp {g : Int → Int → Bool} {k : KC} (hk : ∀ x y st Q, k x y st Q → ∃ i j, x = .int i ∧ y = .int j ∧ Q (g i j)) : RealC K (L2.rI0 fun i j => .bl (g i j)) k := by
  intro f st H x y v w Q' Q s r1 r2 h l
  obtain ⟨i, j, rfl, rfl, q⟩ := hk x y st Q' h
  rw [RD.int] at r1 r2
  exact ⟨i, j, r1, r2, l _ q⟩
theorem real_lt : RealC K (L2.rI0 fun i j => .bl (decide (i < j))) ltC := real_cmp fun x y st Q h => by
  cases x <;> cases y <;> first | exact h.elim | exact ⟨_, _, rfl, rfl, h⟩
theorem real_le : RealC K (L2.rI0 fun i j => .bl (decide (i ≤ j))) leC := real_cmp fun x y st Q h => by
  cases x <;> cases y <;> first | exact h.elim | exact ⟨_, _, rfl, rfl, h⟩
theorem real_gt : RealC K (L2.rI0 fun i j => .bl (decide (j < i))) gtC := real_cmp fun x y st Q h => by
  cases x <;> cases y <;> first | exact h.elim | exact ⟨_, _, rfl, rfl, h⟩
theorem real_ge : RealC K (L2.rI0 fun i j => .bl (decide (j ≤ i))) geC := real_cmp fun x y st Q h => by
  cases x <;> cases y <;> first | exact h.elim | exact ⟨_, _, rfl, rfl, h⟩
theorem RD.isNon {x : D} {v : L2.V} (h : RD K f H x v) : decide (v = .non) = isNon x := by
  cases x with
  | non => rw [RD.non] at h; subst h; rfl
  | bl b => rw [RD.bl] at h; subst h; rfl
  | int i => rw [RD.int] at h; subst h; rfl
  | str y => rw [RD.str] at h; subst h; rfl
  | tup ds => rw [RD.tup] at h; obtain ⟨a, vs, rfl, _⟩ := h; rfl
  | ref n => rw [RD.ref] at h; obtain ⟨a, _, rfl⟩ := h; rfl
theorem real_is : RealC K (fun x y H Q => y = .non ∧ Q (.bl (decide (x = .non))) H) isC := fun f st H x y v w Q' Q s r1 r2 h l => by
  cases y <;> try (cases x <;> exact h.elim)
  rw [RD.non] at r2
  have h' : Q' (isNon x) := by cases x <;> exact h
  exact ⟨r2, by rw [r1.isNon]; exact l _ h'⟩
theorem real_isnt : RealC K (fun x y H Q => y = .non ∧ Q (.bl (!decide (x = .non))) H) isntC := fun f st H x y v w Q' Q s r1 r2 h l => by
  cases y <;> try (cases x <;> exact h.elim)
  rw [RD.non] at r2
  have h' : Q' (!isNon x) := by cases x <;> exact h
  exact ⟨r2, by rw [r1.isNon]; exact l _ h'⟩
theorem RD.flatV {x : D} {v : L2.V} (h : RD K f H x v) (hf : x.flat = true) : L2.flatV v = true := by
  cases x with
  | non => rw [RD.non] at h; subst h; rfl
  | bl b => rw [RD.bl] at h; subst h; rfl
  | int i => rw [RD.int] at h; subst h; rfl
  | str y => rw [RD.str] at h; subst h; rfl
  | tup ds => cases hf
  | ref n => cases hf
theorem RDs.flatV : ∀ {xs : List D} {vs : List L2.V}, RDs K f H xs vs → xs.all D.flat = true → vs.all L2.flatV = true
  | [], _, h, _ => by rw [RDs.nil] at h; subst h; rfl
  | x :: xs, _, h, hf => by
    rw [RDs.cons] at h
    obtain ⟨v, r, rfl, h1, h2⟩ := h
    have hf' : x.flat = true ∧ xs.all D.flat = true := by simpa using hf
    rw [List.all_cons, h1.flatV hf'.1, RDs.flatV h2 hf'.2]; rfl
end
end Pd
end PartPdSoundB

section PartPdSoundC
set_option Elab.async false
set_option linter.all false
set_option maxRecDepth 100000
set_option maxHeartbeats 1000000
/-! Pd over the hand layer: tests, items, slices, calls, built-ins. Own work. -/
namespace Pd
open PySem PySem.Spec
section
variable {X : L2.Cx} {K : Kf} {f f' : List Addr} {H H' : Hp} {st st' : Store} {ρ : Env} {σ : L2.St}
theorem b2i_eq (b : Bool) : b2i b = (if b then 1 else 0) := rfl
theorem RD.eqV {x y : D} {v w : L2.V} (h : RD K f H x v) (h' : RD K f H y w) (hx : x.flat = true) (hy : y.flat = true) : L2.eqV v w = D.eqb x y := by
  cases x <;> cases y <;> first | (exfalso; revert hx; simp [D.flat]; done) | (exfalso; revert hy; simp [D.flat]; done) | skip
  all_goals (simp only [RD.non, RD.bl, RD.int, RD.str] at h h'; subst h; subst h'; simp [L2.eqV, D.eqb, b2i])
  rename_i s t
  by_cases e : s = t <;> simp [e]
theorem RDs.inV {y : D} {w : L2.V} (h' : RD K f H y w) (hy : y.flat = true) : ∀ {xs : List D} {vs : List L2.V}, RDs K f H xs vs → xs.all D.flat = true → L2.inV w vs = xs.any fun x => D.eqb x y
  | [], _, h, _ => by rw [RDs.nil] at h; subst h; rfl
  | x :: xs, _, h, hf => by
    rw [RDs.cons] at h
    obtain ⟨v, r, rfl, h1, h2⟩ := h
    have hf' : x.flat = true ∧ xs.all D.flat = true := by simpa using hf
    have ih := RDs.inV h' hy h2 hf'.2
    unfold L2.inV at ih ⊢
    rw [List.any_cons, List.any_cons, ih, h1.eqV h' hf'.1 hy]
theorem real_in (neg : Bool) : RealC K (L2.rIn K neg) (fun x y st Q => inC x y st fun b => Q (if neg then !b else b)) := fun f st H x y v w Q' Q s r1 r2 h l => by
  cases y <;> try (exact h.elim)
  · rw [RD.tup] at r2
    obtain ⟨a, vs, rfl, t, d⟩ := r2
    obtain ⟨h1, h2, h3⟩ := h
    refine ⟨a, vs, rfl, .inr t, r1.flatV h1, d.flatV h2, ?_⟩
    rw [RDs.inV r1 h1 d h2]
    exact l _ h3
  · rw [RD.ref] at r2
    obtain ⟨a, e, rfl⟩ := r2
    obtain ⟨xs, h0, h1, h2, h3⟩ := h
    obtain ⟨a', vs, g1, g2, g3⟩ := s.rdA h0
    rw [e] at g1; cases g1
    refine ⟨a, vs, rfl, .inl g2, r1.flatV h1, g3.flatV h2, ?_⟩
    rw [RDs.inV r1 h1 g3 h2]
    exact l _ h3
section
variable {a b c : Expr} {ta tb tc : TE} {pos : Pos}
theorem pd_cmp {op : CmpOp} {r : L2.R2} {k : KC} (ho : L2.OpR X (compareOp op) r) (hr : RealC X.K r k) (hm : behindInMarks op b = false) (ha : PD X a ta) (hb : PD X b tb) : PD X (.Compare a [op] [b] pos) (dCmp k ta tb) :=
  pe_imp (L2.pe_cmpR ho ha hb hm) fun σ H Q h => two_imp hr.real h
theorem pt_cmp {op : CmpOp} {r : L2.R2} {k : KC} (ho : L2.OpR X (compareOp op) r) (hr : RealC X.K r k) (hm : behindInMarks op b = false) (ha : PD X a ta) (hb : PD X b tb) : PDT X (.Compare a [op] [b] pos) (tTru (dCmp k ta tb)) := by
  refine pt_imp (L2.pt_cmpR ho ha hb hm) fun σ H Q ⟨f, ρ, st, Q', R, h, l⟩ => ?_
  refine ⟨f, ρ, st, _, R, h, fun x st1 v f1 H1 h1 e1 s1 r1 => ⟨f1, ρ, st1, _, R.later e1 s1, h1, fun y st2 w f2 H2 h2 e2 s2 r2 => ?_⟩⟩
  exact hr f2 st2 H2 x y v w (fun b => Q' b st2) _ s2 (r1.mono e2) r2 h2 fun b q => ⟨b, rfl, l b st2 f2 H2 q (e1.trans e2) s2⟩
theorem chain_core {r r' : L2.R2} {k k' : KC} (hr : RealC K r k) (hr' : RealC K r' k') {Q' : Bool → Store → Prop} {Q : L2.VK} {f : List Addr} {ρ : Env} {st : Store}
    (R : Rel K f ρ st σ H) (h : ta ρ st fun x st1 => tb ρ st1 fun y st2 => k x y st2 fun b => (b = true → tc ρ st2 fun z st3 => k' y z st3 fun b' => Q' b' st3) ∧ (b = false → Q' false st2))
    (l : ∀ b st' f' H', Q' b st' → Ext K f H f' H' → RelS K f' st' H' → Q (.bl b) H') : L2.tChain r r' (lift K ta) (lift K tb) (lift K tc) σ H Q := by
  refine ⟨f, ρ, st, _, R, h, fun x st1 v f1 H1 h1 e1 s1 r1 => ⟨f1, ρ, st1, _, R.later e1 s1, h1, fun y st2 w f2 H2 h2 e2 s2 r2 => ?_⟩⟩
  refine hr f2 st2 H2 x y v w _ _ s2 (r1.mono e2) r2 h2 fun b q => ⟨b, rfl, ?_⟩
  cases b with
  | false => exact l false st2 f2 H2 (q.2 rfl) (e1.trans e2) s2
  | true => exact ⟨f2, ρ, st2, _, R.later (e1.trans e2) s2, q.1 rfl, fun z st3 u f3 H3 h3 e3 s3 r3 => hr' f3 st3 H3 y z w u (fun b' => Q' b' st3) _ s3 (r2.mono e3) r3 h3 fun b' q' => l b' st3 f3 H3 q' ((e1.trans e2).trans e3) s3⟩
theorem pd_chain {op op' : CmpOp} {r r' : L2.R2} {k k' : KC} (ho : L2.OpR X (compareOp op) r) (hr : RealC X.K r k) (ho' : L2.OpR X (compareOp op') r') (hr' : RealC X.K r' k') (ha : PD X a ta) (hb : PD X b tb) (hc : PD X c tc)
    (hm : lastMarks [op, op'] [b, c] = false := by with_unfolding_all rfl) : PD X (.Compare a [op, op'] [b, c] pos) (dChain k k' ta tb tc) := by
  refine pe_imp (L2.pe_chain ho ho' ha hb hc hm) fun σ H Q ⟨f, ρ, st, Q', R, h, l⟩ => ?_
  exact chain_core hr hr' (Q' := fun b st => Q' (.bl b) st) R h fun b st' f' H' q e s => l (.bl b) st' _ f' H' q e s (RD.bl.mpr rfl)
theorem pt_chain {op op' : CmpOp} {r r' : L2.R2} {k k' : KC} (ho : L2.OpR X (compareOp op) r) (hr : RealC X.K r k) (ho' : L2.OpR X (compareOp op') r') (hr' : RealC X.K r' k') (ha : PD X a ta) (hb : PD X b tb) (hc : PD X c tc)
    (hm : lastMarks [op, op'] [b, c] = false := by with_unfolding_all rfl) : PDT X (.Compare a [op, op'] [b, c] pos) (tTru (dChain k k' ta tb tc)) := by
  refine pt_imp (L2.pt_chain ho ho' ha hb hc hm) fun σ H Q ⟨f, ρ, st, Q', R, h, l⟩ => ?_
  exact chain_core (Q := fun x H' => ∃ k, x = .bl k ∧ Q k H') hr hr' (Q' := Q') R h fun b st' f' H' q e s => ⟨b, rfl, l b st' f' H' q e s⟩

/-! ### truth -/
theorem tru_of {x : D} {v : L2.V} {Q' : Bool → Prop} (s : RelS K f st H) (r : RD K f H x v) (h : truK x st Q') : ∃ k, L2.TruV K v H k ∧ Q' k := by
  cases x with
  | non => rw [RD.non] at r; subst r; exact ⟨_, rfl, h⟩
  | bl b => rw [RD.bl] at r; subst r; exact ⟨_, rfl, h⟩
  | int i => rw [RD.int] at r; subst r; exact ⟨_, rfl, h⟩
  | str y => rw [RD.str] at r; subst r; exact ⟨_, ⟨by rw [← szl_eq]; exact h.1, rfl⟩, h.2⟩
  | tup xs =>
    rw [RD.tup] at r
    obtain ⟨a, vs, rfl, t, d⟩ := r
    refine ⟨_, .inr (.inl ⟨vs, t, rfl⟩), ?_⟩
    have : vs.isEmpty = xs.isEmpty := by
      cases xs with
      | nil => rw [RDs.nil] at d; subst d; rfl
      | cons x xs => rw [RDs.cons] at d; obtain ⟨_, _, rfl, _⟩ := d; rfl
    rw [this]; exact h
  | ref n =>
    rw [RD.ref] at r
    obtain ⟨a, e, rfl⟩ := r
    obtain ⟨xs, h1, h2⟩ := h
    obtain ⟨a', vs, g1, g2, d⟩ := s.rdA h1
    rw [e] at g1; cases g1
    refine ⟨_, .inl ⟨vs, g2, rfl⟩, ?_⟩
    have : vs.isEmpty = xs.isEmpty := by
      cases xs with
      | nil => rw [RDs.nil] at d; subst d; rfl
      | cons x xs => rw [RDs.cons] at d; obtain ⟨_, _, rfl, _⟩ := d; rfl
    rw [this]; exact h2
theorem pt_tru (ha : PD X a ta) (he : ∀ whole, isTrue a X.env whole = (do let v ← whole; standAt a.pos; holding [v] (truthy v)) := by intro _; rfl) : PDT X a (tTru ta) := by
  refine pt_imp (L2.pt_truth ha he) fun σ H Q ⟨f, ρ, st, Q', R, h, l⟩ => ?_
  refine ⟨f, ρ, st, _, R, h, fun x st1 v f1 H1 h1 e1 s1 r1 => ?_⟩
  obtain ⟨k, t, q⟩ := tru_of s1 r1 h1
  exact ⟨k, t, l k st1 f1 H1 q e1 s1⟩
abbrev PDW (X : L2.Cx) (e : Expr) (t : TT) : Prop := L2.PW X e (liftT X.K t)
theorem ptw {e : Expr} {t : TT} (h : PDW X e t) : PDT X e t := L2.PW.pt h
theorem pw_imp {e : Expr} {t t' : L2.TT} (h : L2.PW X e t) (m : ∀ σ H Q, t' σ H Q → t σ H Q) : L2.PW X e t' := ⟨fun whole pins s σ H Q I q => h.run whole pins s σ H Q I (m σ H Q q)⟩
variable {es : List Expr} {tA tB tC : TT}
theorem pw_and1 (ha : PDT X a tA) : PDW X (.BoolOp .And [a] pos) tA := L2.pw_and1 ha
theorem pw_or1 (ha : PDT X a tA) : PDW X (.BoolOp .Or [a] pos) tA := L2.pw_or1 ha
theorem pw_and (ha : PDT X a tA) (hb : PDW X (.BoolOp .And (b :: es) pos) tB) : PDW X (.BoolOp .And (a :: b :: es) pos) (tAnd tA tB) :=
  pw_imp (L2.pw_and ha hb) fun σ H Q ⟨f, ρ, st, Q', R, h, l⟩ => ⟨f, ρ, st, _, R, h, fun c st1 f1 H1 h1 e1 s1 => by
    cases c with
    | false => exact l false st1 f1 H1 (h1.2 rfl) e1 s1
    | true => exact ⟨f1, ρ, st1, Q', R.later e1 s1, h1.1 rfl, fun b st2 f2 H2 q e2 s2 => l b st2 f2 H2 q (e1.trans e2) s2⟩⟩
theorem pw_or (ha : PDT X a tA) (hb : PDW X (.BoolOp .Or (b :: es) pos) tB) : PDW X (.BoolOp .Or (a :: b :: es) pos) (tOr tA tB) :=
  pw_imp (L2.pw_or ha hb) fun σ H Q ⟨f, ρ, st, Q', R, h, l⟩ => ⟨f, ρ, st, _, R, h, fun c st1 f1 H1 h1 e1 s1 => by
    cases c with
    | true => exact l true st1 f1 H1 (h1.1 rfl) e1 s1
    | false => exact ⟨f1, ρ, st1, Q', R.later e1 s1, h1.2 rfl, fun b st2 f2 H2 q e2 s2 => l b st2 f2 H2 q (e1.trans e2) s2⟩⟩
theorem pt_not (ha : PDT X a tA) : PDT X (.UnaryOp .Not a pos) (tNot tA) :=
  pt_imp (L2.pt_not ha) fun σ H Q ⟨f, ρ, st, Q', R, h, l⟩ => ⟨f, ρ, st, _, R, h, fun c st1 f1 H1 h1 e1 s1 => l _ st1 f1 H1 h1 e1 s1⟩
theorem pd_one {op : BoolOp} (ha : PD X a ta) : PD X (.BoolOp op [a] pos) ta := L2.pe_one ha
theorem pd_and' (ha : PD X a ta) (hb : PD X (.BoolOp .And (b :: es) pos) tb) : PD X (.BoolOp .And (a :: b :: es) pos) (dAndT ta tb) :=
  pe_imp (L2.pe_andT ha hb) fun σ H Q ⟨f, ρ, st, Q', R, h, l⟩ => ⟨f, ρ, st, _, R, h, fun x st1 v f1 H1 h1 e1 s1 r1 => by
    obtain ⟨k, t, q⟩ := tru_of s1 r1 h1
    refine ⟨k, t, ?_⟩
    cases k with
    | false => exact l x st1 v f1 H1 (q.2 rfl) e1 s1 r1
    | true => exact ⟨f1, ρ, st1, Q', R.later e1 s1, q.1 rfl, l.later e1⟩⟩
theorem pd_or' (ha : PD X a ta) (hb : PD X (.BoolOp .Or (b :: es) pos) tb) : PD X (.BoolOp .Or (a :: b :: es) pos) (dOrT ta tb) :=
  pe_imp (L2.pe_orT ha hb) fun σ H Q ⟨f, ρ, st, Q', R, h, l⟩ => ⟨f, ρ, st, _, R, h, fun x st1 v f1 H1 h1 e1 s1 r1 => by
    obtain ⟨k, t, q⟩ := tru_of s1 r1 h1
    refine ⟨k, t, ?_⟩
    cases k with
    | true => exact l x st1 v f1 H1 (q.1 rfl) e1 s1 r1
    | false => exact ⟨f1, ρ, st1, Q', R.later e1 s1, q.2 rfl, l.later e1⟩⟩
theorem pd_not (ha : PD X a ta) : PD X (.UnaryOp .Not a pos) (dNotT ta) :=
  pe_imp (L2.pe_notT ha) fun σ H Q ⟨f, ρ, st, Q', R, h, l⟩ => ⟨f, ρ, st, _, R, h, fun x st1 v f1 H1 h1 e1 s1 r1 => by
    obtain ⟨k, t, q⟩ := tru_of s1 r1 h1
    exact ⟨k, t, l _ st1 _ f1 H1 q e1 s1 (RD.bl.mpr rfl)⟩⟩
theorem pd_if (hc : PDT X c tC) (ha : PD X a ta) (hb : PD X b tb) : PD X (.IfExp c a b pos) (dIf tC ta tb) :=
  pe_imp (L2.pe_ifExp hc ha hb) fun σ H Q ⟨f, ρ, st, Q', R, h, l⟩ => ⟨f, ρ, st, _, R, h, fun k st1 f1 H1 h1 e1 s1 => by
    cases k with
    | true => exact ⟨f1, ρ, st1, Q', R.later e1 s1, h1.1 rfl, l.later e1⟩
    | false => exact ⟨f1, ρ, st1, Q', R.later e1 s1, h1.2 rfl, l.later e1⟩⟩
/-- a test that is an if-expression -/
theorem pt_if {t1 t2 : TT} (hc : PDT X c tC) (ha : PDT X a t1) (hb : PDT X b t2) : PDT X (.IfExp c a b pos) (fun σ st Q => tC σ st fun k st1 => (k = true → t1 σ st1 Q) ∧ (k = false → t2 σ st1 Q)) := by
  refine ⟨fun pins s σ H Q I ⟨f, ρ, st, Q', R, h, l⟩ => ?_⟩
  show wpAny _ _ (do if ← isTrue c X.env (eval c X.env) then isTrue a X.env (eval a X.env) else isTrue b X.env (eval b X.env)) _ _ s
  refine wpAny_bind (L2.thn (hc.run pins s σ H (fun k H1 => (k = true → liftT X.K t1 σ H1 Q) ∧ (k = false → liftT X.K t2 σ H1 Q)) I ⟨f, ρ, st, _, R, h, fun k st1 f1 H1 h1 e1 s1 => ?_⟩) fun k s1 ⟨H1, I1, q⟩ => ?_)
  · exact ⟨fun e => ⟨f1, ρ, st1, Q', R.later e1 s1, h1.1 e, fun b st2 f2 H2 q e2 s2 => l b st2 f2 H2 q (e1.trans e2) s2⟩, fun e => ⟨f1, ρ, st1, Q', R.later e1 s1, h1.2 e, fun b st2 f2 H2 q e2 s2 => l b st2 f2 H2 q (e1.trans e2) s2⟩⟩
  · cases k with
    | true => exact ha.run pins s1 σ H1 Q I1 (q.1 rfl)
    | false => exact hb.run pins s1 σ H1 Q I1 (q.2 rfl)

/-! ### items and slices -/
theorem atD_at {α : Type} (xs : List α) (i : Int) : L2.atI xs i = atD xs i := by
  unfold L2.atI L2.ixN atD
  by_cases h : 0 ≤ i
  · rw [if_pos h, if_pos h]
    by_cases h2 : i < xs.length
    · rw [if_pos h2]; rfl
    · rw [if_neg h2]
      show none = _
      rw [List.getElem?_eq_none (by omega)]
  · rw [if_neg h, if_neg h]
    by_cases h2 : -(xs.length : Int) ≤ i
    · rw [if_pos h2, if_pos h2]; rfl
    · rw [if_neg h2, if_neg h2]; rfl
theorem RDs.atD {ds : List D} {vs : List L2.V} {i : Int} {d : D} (h : RDs K f H ds vs) (e : atD ds i = some d) : ∃ v, L2.atI vs i = some v ∧ RD K f H d v := by
  rw [atD_at]
  unfold Pd.atD at e ⊢
  rw [h.length]
  by_cases c : 0 ≤ i
  · rw [if_pos c] at e ⊢
    obtain ⟨v, h1, h2⟩ := h.get e; exact ⟨v, h1, h2⟩
  · rw [if_neg c] at e ⊢
    by_cases c2 : -(ds.length : Int) ≤ i
    · rw [if_pos c2] at e ⊢
      obtain ⟨v, h1, h2⟩ := h.get e; exact ⟨v, h1, h2⟩
    · rw [if_neg c2] at e; cases e
theorem real_ix : Real2 K (L2.rIx K) ixK := fun f st H x y v w Q' Q s r1 r2 h l => by
  cases x <;> cases y <;> try (exact h.elim)
  · rw [RD.str] at r1
    rw [RD.int] at r2
    obtain ⟨c, h1, h2, h3⟩ := h
    exact .inr (.inr ⟨_, _, c, r1, r2, by rw [← szl_eq]; exact h1, by rw [atD_at]; exact h2, l.now s h3 (RD.str.mpr rfl)⟩)
  · rw [RD.tup] at r1
    rw [RD.int] at r2
    obtain ⟨a, vs, rfl, t, d⟩ := r1
    obtain ⟨d', h1, h2⟩ := h
    obtain ⟨v, g1, g2⟩ := d.atD h1
    exact .inr (.inl ⟨a, vs, _, v, rfl, r2, t, g1, l.now s h2 g2⟩)
  · rw [RD.ref] at r1
    rw [RD.int] at r2
    obtain ⟨a, e, rfl⟩ := r1
    obtain ⟨xs, d', h0, h1, h2⟩ := h
    obtain ⟨a', vs, k1, k2, d⟩ := s.rdA h0
    rw [e] at k1; cases k1
    obtain ⟨v, g1, g2⟩ := d.atD h1
    exact .inl ⟨a, vs, _, v, rfl, r2, k2, g1, l.now s h2 g2⟩
theorem pd_ix (hs : L2.PlainIx b) (ha : PD X a ta) (hb : PD X b tb) : PD X (.Subscript a b pos) (dOp ixK ta tb) :=
  pe_imp (L2.pe_ix L2.ix_seq ha hb hs) fun σ H Q h => two_imp real_ix h
def liftO (K : Kf) (t : TO) : L2.TO := fun σ H Q => ∃ f ρ st Q', Rel K f ρ st σ H ∧ t ρ st Q' ∧ ∀ (o : Option Int) (st' : Store) (f' : List Addr) (H' : Hp), Q' o st' → Ext K f H f' H' → RelS K f' st' H' → Q o H'
abbrev PDO (X : L2.Cx) (e : Option Expr) (t : TO) : Prop := L2.PO X e (liftO X.K t)
theorem po_imp {e : Option Expr} {t t' : L2.TO} (h : L2.PO X e t) (m : ∀ σ H Q, t' σ H Q → t σ H Q) : L2.PO X e t' := ⟨fun pins s σ H Q I q => h.run pins s σ H Q I (m σ H Q q)⟩
theorem po_none : PDO X none oNone := po_imp L2.po_none fun σ H Q ⟨f, ρ, st, Q', R, h, l⟩ => l none st f H h .refl R.toRelS
theorem po_some (ha : PD X a ta) : PDO X (some a) (oSome ta) := po_imp (L2.po_some ha) fun σ H Q ⟨f, ρ, st, Q', R, h, l⟩ => ⟨f, ρ, st, _, R, h, fun x st1 v f1 H1 h1 e1 s1 r1 => by
    obtain ⟨i, rfl, q⟩ := h1
    rw [RD.int] at r1
    exact ⟨i, r1, l _ st1 f1 H1 q e1 s1⟩⟩
theorem sIx_cl (n d : Nat) (o : Option Int) : HT.sIx n d o = (o.map (cl n)).getD d := by
  cases o with
  | none => rfl
  | some i => rfl
theorem cut_eq (xs : List L2.V) (lo hi : Option Int) : L2.cutV xs lo hi = cutD xs lo hi := by
  unfold L2.cutV cutD
  rw [sIx_cl, sIx_cl]
theorem RDs.cut {ds : List D} {vs : List L2.V} (h : RDs K f H ds vs) (lo hi : Option Int) : RDs K f H (cutD ds lo hi) (cutD vs lo hi) := by
  unfold cutD
  rw [h.length]
  exact (h.drop _).take _
theorem cut_whole {α : Type} (xs : List α) (lo hi : Option Int) (h1 : HT.sIx xs.length 0 lo = 0) (h2 : HT.sIx xs.length xs.length hi = xs.length) : cutD xs lo hi = xs := by
  unfold cutD
  rw [← sIx_cl, ← sIx_cl, h1, h2]
  simp
def rSl (K : Kf) : L2.V → Option Int → Option Int → Hp → L2.VK → Prop := fun x lo hi H Q => L2.rSlL K x lo hi H Q ∨ L2.rSlA K x lo hi H Q
theorem pd_sl {lo hi : Option Expr} {tl th : TO} {p2 : Pos} (ha : PD X a ta) (hl : PDO X lo tl) (hh : PDO X hi th) : PD X (.Subscript a (.Slice lo hi none p2) pos) (dSl ta tl th) := by
  refine pe_imp (L2.pe_slice (r := rSl X.K) (L2.SlR.or L2.sl_list L2.sl_tupA) ha hl hh) fun σ H Q ⟨f, ρ, st, Q', R, h, l⟩ => ?_
  refine ⟨f, ρ, st, _, R, h, fun x st1 v f1 H1 h1 e1 s1 r1 => ⟨f1, ρ, st1, _, R.later e1 s1, h1, fun o st2 f2 H2 h2 e2 s2 => ⟨f2, ρ, st2, _, R.later (e1.trans e2) s2, h2, fun o' st3 f3 H3 h3 e3 s3 => ?_⟩⟩⟩
  have r1' := r1.mono (e2.trans e3)
  have l' := l.later ((e1.trans e2).trans e3)
  cases x <;> try (exact h3.elim)
  · rw [RD.tup] at r1'
    obtain ⟨a, vs, rfl, t, d⟩ := r1'
    refine .inr ⟨a, vs, rfl, t, fun ⟨w1, w2⟩ => ?_, fun _ p hp => ?_⟩
    · rw [d.length] at w1 w2
      refine l'.now s3 h3 (RD.tup.mpr ⟨a, vs, rfl, t, ?_⟩)
      rw [cut_whole _ _ _ w1 w2]
      exact d
    · rw [cut_eq]
      exact l'.tup s3 h3 (d.cut o o') hp
  · rw [RD.ref] at r1'
    obtain ⟨a, e, rfl⟩ := r1'
    obtain ⟨xs, g0, g1⟩ := h3
    obtain ⟨a', vs, k1, k2, d⟩ := s3.rdA g0
    rw [e] at k1; cases k1
    refine .inl ⟨a, vs, rfl, k2, fun p hp => ?_⟩
    rw [cut_eq]
    exact l'.lst s3 g1 (d.cut o o') hp

/-! ### arguments, displays -/
theorem pa_nil : PDA X [] aNil := pa_imp L2.pa_nil fun σ H Q ⟨f, ρ, st, Q', R, h, l⟩ => l [] st [] f H h .refl R.toRelS (RDs.nil.mpr rfl)
theorem pa_cons {ts : TA} (ha : PD X a ta) (hr : PDA X es ts) (hs : starEach (a :: es) X.env = (false, eval a X.env) :: starEach es X.env := by rfl) : PDA X (a :: es) (aCons ta ts) :=
  pa_imp (L2.pa_cons ha hr hs) fun σ H Q ⟨f, ρ, st, Q', R, h, l⟩ => ⟨f, ρ, st, _, R, h, fun x st1 v f1 H1 h1 e1 s1 r1 => ⟨f1, ρ, st1, _, R.later e1 s1, h1, fun xs st2 vs f2 H2 h2 e2 s2 r2 =>
    l (x :: xs) st2 (v :: vs) f2 H2 h2 (e1.trans e2) s2 (RDs.cons.mpr ⟨v, vs, rfl, r1.mono e2, r2⟩)⟩⟩
theorem pd_tup {ts : TA} {x1} (h : PDA X es ts) : PD X (.Tuple es x1 pos) (dTup ts) :=
  pe_imp (L2.pe_tup h) fun σ H Q ⟨f, ρ, st, Q', R, h, l⟩ => ⟨f, ρ, st, _, R, h, fun xs st1 vs f1 H1 h1 e1 s1 r1 => ⟨by rw [r1.length, ← szl_eq]; exact h1.1, fun p hp => (l.later e1).tup s1 h1.2 r1 hp⟩⟩
theorem pd_lst {ts : TA} (h : PDA X es ts) : PD X (.List es pos) (dLst ts) :=
  pe_imp (L2.pe_lst h) fun σ H Q ⟨f, ρ, st, Q', R, h, l⟩ => ⟨f, ρ, st, _, R, h, fun xs st1 vs f1 H1 h1 e1 s1 r1 => ⟨by rw [r1.length, ← szl_eq]; exact h1.1, fun p hp => (l.later e1).lst s1 h1.2 r1 hp⟩⟩

/-! ### own defs -/
def liftF (K : Kf) (n : Nat) (c : List D → Store → Pd.K → Prop) : L2.Sp := fun vs H Q _ => vs.length = n ∧ ∃ f st ds Q', RelS K f st H ∧ RDs K f H ds vs ∧ c ds st Q' ∧ LQ K f H Q' Q
/-- a def that may be called by its name -/
structure Own (P : Program) (w : World) (K : Kf) (mg : Str → Option Value) (base : Heap) (k : Nat) (x : Str) (c : List D → Store → Pd.K → Prop) : Prop where
  ex : ∃ (fa : Addr) (fd : FuncData) (ps : List Str), L2.FnOk P w K mg base L2.CX0 k fa fd ps (liftF K ps.length c) ∧ mg x = some (.ref fa) ∧ PySem.W.keepIn K (.ref fa) = true ∧ L2.Binds K fd ps [] ∧ (∀ ds st Q, c ds st Q → ds.length = ps.length)
theorem pd_call {x : Str} {p : Pos} {k : Nat} {ts : TA} {cl : Cl} {y : String} (o : Own X.prog X.w X.K X.mg X.base k x (cl y)) (hr : L2.Room k X.A) (hg : L2.Gl X x) (ha : PDA X (a :: es) ts) (hdb : (x == ("__debug__" : Str)) = false := by decide)
    (he : starEach (a :: es) X.env = (false, eval a X.env) :: starEach es X.env := by rfl) (hpl : (backTo pos (starEach es X.env)).any (·.1) = false := by rfl) : PD X (.Call (.Name x p) (a :: es) [] pos) (dCall cl y ts) := by
  obtain ⟨fa, fd, ps, F, hm, hk, hb, hlen⟩ := o.ex
  refine pe_imp (L2.pe_call (E := fun _ _ _ => False) F hr hg hm hk hb .nil L2.pass0 ha hdb he hpl) fun σ H Q ⟨f, ρ, st, Q', R, h, l⟩ => ?_
  refine ⟨f, ρ, st, _, R, h, fun xs st1 vs f1 H1 h1 e1 s1 r1 => ?_⟩
  show liftF X.K ps.length (cl y) (vs ++ []) H1 Q _
  rw [List.append_nil]
  exact ⟨r1.length.trans (hlen _ _ _ h1), f1, st1, xs, Q', s1, r1, h1, l.later e1⟩
theorem pd_call0 {x : Str} {p : Pos} {k : Nat} {cl : Cl} {y : String} (o : Own X.prog X.w X.K X.mg X.base k x (cl y)) (hr : L2.Room k X.A) (hg : L2.Gl X x) (hdb : (x == ("__debug__" : Str)) = false := by decide) : PD X (.Call (.Name x p) [] [] pos) (dCall cl y aNil) := by
  obtain ⟨fa, fd, ps, F, hm, hk, hb, hlen⟩ := o.ex
  refine pe_imp (L2.pe_call0 (E := fun _ _ _ => False) F hr hg hm hk hb .nil L2.pass0 hdb) fun σ H Q ⟨f, ρ, st, Q', R, h, l⟩ => ?_
  exact (show liftF X.K ps.length (cl y) ([] ++ []) H Q (fun _ _ _ => False) from ⟨hlen _ _ _ h, f, st, [], Q', R.toRelS, RDs.nil.mpr rfl, h, l⟩)

/-! ### built-ins -/
def RealB (K : Kf) (r : List L2.V → Hp → L2.VK → Prop) (k : KB) : Prop := ∀ (f : List Addr) (st : Store) (H : Hp) (xs : List D) (vs : List L2.V) (Q' : Pd.K) (Q : L2.VK), RelS K f st H → RDs K f H xs vs → k xs st Q' → LQ K f H Q' Q → r vs H Q
theorem pd_callB {x : Str} {p : Pos} {id : String} {r : List L2.V → Hp → L2.VK → Prop} {k : KB} {ts : TA} (hc : L2.CallR X (.builtin id) r) (hr : RealB X.K r k) (hg : L2.Gl X x) (hm : X.mg x = none) (hv : bootBuiltins x = some (.builtin id)) (ha : PDA X (a :: es) ts) (hn : x ≠ "__name__" := by decide) (hdb : (x == ("__debug__" : Str)) = false := by decide)
    (he : starEach (a :: es) X.env = (false, eval a X.env) :: starEach es X.env := by rfl) (hpl : (backTo pos (starEach es X.env)).any (·.1) = false := by rfl) : PD X (.Call (.Name x p) (a :: es) [] pos) (dB k ts) :=
  pe_imp (L2.pe_callB hc hg hm hv ha hn hdb he hpl) fun σ H Q ⟨f, ρ, st, Q', R, h, l⟩ => ⟨f, ρ, st, _, R, h, fun xs st1 vs f1 H1 h1 e1 s1 r1 => hr f1 st1 H1 xs vs Q' Q s1 r1 h1 (l.later e1)⟩
theorem pd_callTy {x : Str} {p : Pos} {T : String} {r : List L2.V → Hp → L2.VK → Prop} {k : KB} {ts : TA} (hc : L2.CallR X (.type T) r) (hr : RealB X.K r k) (hg : L2.Gl X x) (hm : X.mg x = none) (hv : bootBuiltins x = some (.type T)) (ha : PDA X (a :: es) ts) (hn : x ≠ "__name__" := by decide) (hdb : (x == ("__debug__" : Str)) = false := by decide)
    (he : starEach (a :: es) X.env = (false, eval a X.env) :: starEach es X.env := by rfl) (hpl : (backTo pos (starEach es X.env)).any (·.1) = false := by rfl) : PD X (.Call (.Name x p) (a :: es) [] pos) (dB k ts) :=
  pe_imp (L2.pe_callTy hc hg hm hv ha hn hdb he hpl) fun σ H Q ⟨f, ρ, st, Q', R, h, l⟩ => ⟨f, ρ, st, _, R, h, fun xs st1 vs f1 H1 h1 e1 s1 r1 => hr f1 st1 H1 xs vs Q' Q s1 r1 h1 (l.later e1)⟩
end
theorem RDs.inv1 {x : D} {vs : List L2.V} (h : RDs K f H [x] vs) : ∃ v, vs = [v] ∧ RD K f H x v := by
  rw [RDs.cons] at h
  obtain ⟨v, r, rfl, h1, h2⟩ := h
  rw [RDs.nil] at h2
  subst h2
  exact ⟨v, rfl, h1⟩
theorem RDs.inv2 {x y : D} {vs : List L2.V} (h : RDs K f H [x, y] vs) : ∃ v w, vs = [v, w] ∧ RD K f H x v ∧ RD K f H y w := by
  rw [RDs.cons] at h
  obtain ⟨v, r, rfl, h1, h2⟩ := h
  obtain ⟨w, rfl, h3⟩ := h2.inv1
  exact ⟨v, w, rfl, h1, h3⟩
/-- one argument, two arguments, by cases -/
theorem realB1 {r : List L2.V → Hp → L2.VK → Prop} {k : KB} (h0 : ∀ xs st Q, k xs st Q → ∃ x, xs = [x])
    (h : ∀ (f : List Addr) (st : Store) (H : Hp) (x : D) (v : L2.V) (Q' : Pd.K) (Q : L2.VK), RelS K f st H → RD K f H x v → k [x] st Q' → LQ K f H Q' Q → r [v] H Q) : RealB K r k := fun f st H xs vs Q' Q s r1 hk l => by
  obtain ⟨x, rfl⟩ := h0 xs st Q' hk
  obtain ⟨v, rfl, h1⟩ := r1.inv1
  exact h f st H x v Q' Q s h1 hk l
theorem kb1 {k : KB} (h0 : ∀ st Q, ¬ k [] st Q) (h2 : ∀ x y xs st Q, ¬ k (x :: y :: xs) st Q) : ∀ xs st Q, k xs st Q → ∃ x, xs = [x] := fun xs st Q h => by
  match xs, h with
  | [], h => exact (h0 _ _ h).elim
  | [x], _ => exact ⟨x, rfl⟩
  | x :: y :: xs, h => exact (h2 _ _ _ _ _ h).elim
theorem real_intB : RealB K (fun xs H Q => (∃ i, xs = [.int i] ∧ Q (.int i) H) ∨ ∃ k, xs = [.bl k] ∧ Q (.int (if k then 1 else 0)) H) intB :=
  realB1 (kb1 (fun _ _ h => h) fun x y xs st Q h => by cases x <;> exact h) fun f st H x v Q' Q s r h l => by
    cases x <;> try (exact h.elim)
    · rw [RD.bl] at r; subst r; exact .inr ⟨_, rfl, l.now s h (RD.int.mpr rfl)⟩
    · rw [RD.int] at r; subst r; exact .inl ⟨_, rfl, l.now s h (RD.int.mpr rfl)⟩
theorem real_absB : RealB K (fun xs H Q => ∃ i, xs = [.int i] ∧ Q (.int (if i < 0 then -i else i)) H) absB :=
  realB1 (kb1 (fun _ _ h => h) fun x y xs st Q h => by cases x <;> exact h) fun f st H x v Q' Q s r h l => by
    cases x <;> try (exact h.elim)
    rw [RD.int] at r; subst r; exact ⟨_, rfl, l.now s h (RD.int.mpr rfl)⟩
theorem real_lenB : RealB K (fun xs H Q => ∃ x n, xs = [x] ∧ L2.LenV K x H n ∧ Q (.int n) H) lenB :=
  realB1 (kb1 (fun _ _ h => h) fun x y xs st Q h => by cases x <;> exact h) fun f st H x v Q' Q s r h l => by
    cases x <;> try (exact h.elim)
    · rw [RD.str] at r; subst r
      exact ⟨_, _, rfl, ⟨by rw [← szl_eq]; exact h.1, rfl⟩, l.now s h.2 (RD.int.mpr rfl)⟩
    · rw [RD.tup] at r
      obtain ⟨a, vs, rfl, t, d⟩ := r
      exact ⟨_, vs.length, rfl, .inr ⟨vs, t, rfl⟩, by rw [d.length]; exact l.now s h (RD.int.mpr rfl)⟩
    · rw [RD.ref] at r
      obtain ⟨a, e, rfl⟩ := r
      obtain ⟨xs, h1, h2⟩ := h
      obtain ⟨a', vs, k1, k2, d⟩ := s.rdA h1
      rw [e] at k1; cases k1
      exact ⟨_, vs.length, rfl, .inl ⟨vs, k2, rfl⟩, by rw [d.length]; exact l.now s h2 (RD.int.mpr rfl)⟩
theorem kb2 {k : KB} (h0 : ∀ st Q, ¬ k [] st Q) (h1 : ∀ x st Q, ¬ k [x] st Q) (h3 : ∀ x y z xs st Q, ¬ k (x :: y :: z :: xs) st Q) : ∀ xs st Q, k xs st Q → ∃ x y, xs = [x, y] := fun xs st Q h => by
  match xs, h with
  | [], h => exact (h0 _ _ h).elim
  | [x], h => exact (h1 _ _ _ h).elim
  | [x, y], _ => exact ⟨x, y, rfl⟩
  | x :: y :: z :: xs, h => exact (h3 _ _ _ _ _ _ h).elim
theorem real_min2B : RealB K (fun xs H Q => ∃ i j, xs = [.int i, .int j] ∧ Q (.int (if j < i then j else i)) H) min2B := fun f st H xs vs Q' Q s r h l => by
  obtain ⟨x, y, rfl⟩ := kb2 (k := min2B) (fun _ _ h => h) (fun x st Q h => by cases x <;> exact h) (fun x y z xs st Q h => by cases x <;> cases y <;> exact h) xs st Q' h
  obtain ⟨v, w, rfl, r1, r2⟩ := r.inv2
  cases x <;> cases y <;> try (exact h.elim)
  rw [RD.int] at r1 r2
  subst r1; subst r2
  exact ⟨_, _, rfl, l.now s h (RD.int.mpr rfl)⟩
theorem real_max2B : RealB K (fun xs H Q => ∃ i j, xs = [.int i, .int j] ∧ Q (.int (if j > i then j else i)) H) max2B := fun f st H xs vs Q' Q s r h l => by
  obtain ⟨x, y, rfl⟩ := kb2 (k := max2B) (fun _ _ h => h) (fun x st Q h => by cases x <;> exact h) (fun x y z xs st Q h => by cases x <;> cases y <;> exact h) xs st Q' h
  obtain ⟨v, w, rfl, r1, r2⟩ := r.inv2
  cases x <;> cases y <;> try (exact h.elim)
  rw [RD.int] at r1 r2
  subst r1; subst r2
  exact ⟨_, _, rfl, l.now s h (RD.int.mpr rfl)⟩
theorem real_listB : RealB K (fun xs H Q => ∃ p ys, xs = [.ref p] ∧ (L2.SqL K H p ys ∨ L2.SqT K H p ys) ∧ ∀ l, H l = none → Q (.ref l) (L2.upd H l (.lst ys))) listB :=
  realB1 (kb1 (fun _ _ h => h) fun x y xs st Q h => by cases x <;> exact h) fun f st H x v Q' Q s r h l => by
    cases x <;> try (exact h.elim)
    · rw [RD.tup] at r
      obtain ⟨a, vs, rfl, t, d⟩ := r
      exact ⟨a, vs, rfl, .inr t, fun p hp => l.lst s h d hp⟩
    · rw [RD.ref] at r
      obtain ⟨a, e, rfl⟩ := r
      obtain ⟨xs, h1, h2⟩ := h
      obtain ⟨a', vs, k1, k2, d⟩ := s.rdA h1
      rw [e] at k1; cases k1
      exact ⟨a, vs, rfl, .inl k2, fun p hp => l.lst s h2 d hp⟩
theorem real_tupleB : RealB K (fun xs H Q => ∃ p ys, xs = [.ref p] ∧ ((L2.SqL K H p ys ∧ ∀ l, H l = none → Q (.ref l) (L2.upd H l (.tup ys))) ∨ (L2.SqT K H p ys ∧ Q (.ref p) H))) tupleB :=
  realB1 (kb1 (fun _ _ h => h) fun x y xs st Q h => by cases x <;> exact h) fun f st H x v Q' Q s r h l => by
    cases x <;> try (exact h.elim)
    · rw [RD.tup] at r
      obtain ⟨a, vs, rfl, t, d⟩ := r
      exact ⟨a, vs, rfl, .inr ⟨t, l.now s h (RD.tup.mpr ⟨a, vs, rfl, t, d⟩)⟩⟩
    · rw [RD.ref] at r
      obtain ⟨a, e, rfl⟩ := r
      obtain ⟨xs, h1, h2⟩ := h
      obtain ⟨a', vs, k1, k2, d⟩ := s.rdA h1
      rw [e] at k1; cases k1
      exact ⟨a, vs, rfl, .inl ⟨k2, fun p hp => l.tup s h2 d hp⟩⟩
theorem real_sumB : RealB K (L2.rSum K) sumB :=
  realB1 (kb1 (fun _ _ h => h) fun x y xs st Q h => by cases x <;> exact h) fun f st H x v Q' Q s r h l => by
    cases x <;> try (exact h.elim)
    rw [RD.ref] at r
    obtain ⟨a, e, rfl⟩ := r
    obtain ⟨ns, h1, h2⟩ := h
    obtain ⟨a', vs, k1, k2, d⟩ := s.rdA h1
    rw [e] at k1; cases k1
    exact ⟨a, ns, rfl, by rw [← d.ints]; exact k2, l.now s h2 (RD.int.mpr rfl)⟩
def truV : L2.V → Bool
  | .bl b => b
  | .int i => i != 0
  | _ => false
def tfl : L2.V → Bool
  | .non => true
  | .bl _ => true
  | .int _ => true
  | _ => false
def rAnyF (K : Kf) : List L2.V → Hp → L2.VK → Prop := fun vs H Q => ∃ (a : Addr) (xs : List L2.V), vs = [L2.V.ref a] ∧ L2.SqL K H a xs ∧ xs.all tfl = true ∧ Q (.bl (xs.any truV)) H
def rAllF (K : Kf) : List L2.V → Hp → L2.VK → Prop := fun vs H Q => ∃ (a : Addr) (xs : List L2.V), vs = [L2.V.ref a] ∧ L2.SqL K H a xs ∧ xs.all tfl = true ∧ Q (.bl (xs.all truV)) H
theorem truth_tfl {prog : Program} {w : World} {A : Around} {xs : List L2.V} {its : List Value} (r : L2.Vals xs its) (h : xs.all tfl = true) :
    TruthOf prog w A (fun i v => its.toArray[i]? = some v) (fun i => (xs.map truV).getD i false) := fun i v s Q E hv hq => by
  have hv' : its[i]? = some v := by simpa using hv
  have hi : i < xs.length := by rw [r.length]; exact (List.getElem?_eq_some_iff.mp hv').1
  have hx : xs[i]? = some xs[i] := by simp [hi]
  obtain ⟨u, hu, ru⟩ := r.get hx
  rw [hv'] at hu; cases hu
  have hg : (xs.map truV).getD i false = truV xs[i] := by rw [List.getD_eq_getElem?_getD, List.getElem?_map, hx]; rfl
  have hq' : Q ((xs.map truV).getD i false) s := hq
  rw [hg] at hq'
  have ht : tfl xs[i] = true := by
    rw [List.all_eq_true] at h
    exact h _ (List.getElem_mem hi)
  generalize xs[i] = x at ru hq' ht
  cases x with
  | non => cases ru; exact PyProof.Rows.truthy_none hq'
  | bl b => cases ru; exact wpAny_truthy_bool hq'
  | int j => obtain ⟨t, rfl⟩ := ru; exact PySem.P.truthy_int hq'
  | _ => exact absurd ht (by simp [tfl])
theorem cr_anyF (hc : X.calm = true) : L2.CallR X (.builtin "any") (rAnyF X.K) := by
  intro pins s σ H vs us Q I r h
  obtain ⟨a, xs, rfl, hs, ht, q⟩ := h
  obtain ⟨its, rv, hl, _⟩ := I.list hs
  rw [L2.Vals.ref1 r]
  refine call_any_walk (L2.iter_any hl.isList fun s₂ e2 st hne => ?_)
  subst e2
  refine ⟨_, _, _, _, _, _, _, rfl, Walks.list (A := X.A.in1) (I.ok.hd hc) _ a hne its.toArray, st, truth_tfl rv ht, fun h' tk hk => ?_⟩
  refine ⟨.bl _, H, I.kept fun b o eo => hk b o (fun hmem => ?_) (Heap.get?_push_of_some _ eo), ?_, q⟩
  · rcases List.mem_cons.mp hmem with e1 | hmem
    · exact absurd (e1 ▸ Heap.lt_size eo) (Nat.lt_irrefl _)
    · cases hmem
  · show Value.bool _ = Value.bool _
    have e1 : its.toArray.size = (xs.map truV).length := by rw [List.size_toArray, List.length_map]; exact rv.length.symm
    rw [e1, L2.any_range, List.any_map]
    rfl
theorem cr_allF (hc : X.calm = true) : L2.CallR X (.builtin "all") (rAllF X.K) := by
  intro pins s σ H vs us Q I r h
  obtain ⟨a, xs, rfl, hs, ht, q⟩ := h
  obtain ⟨its, rv, hl, _⟩ := I.list hs
  rw [L2.Vals.ref1 r]
  refine call_all_walk (L2.iter_any hl.isList fun s₂ e2 st hne => ?_)
  subst e2
  refine ⟨_, _, _, _, _, _, _, rfl, Walks.list (A := X.A.in1) (I.ok.hd hc) _ a hne its.toArray, st, truth_tfl rv ht, fun h' tk hk => ?_⟩
  refine ⟨.bl _, H, I.kept fun b o eo => hk b o (fun hmem => ?_) (Heap.get?_push_of_some _ eo), ?_, q⟩
  · rcases List.mem_cons.mp hmem with e1 | hmem
    · exact absurd (e1 ▸ Heap.lt_size eo) (Nat.lt_irrefl _)
    · cases hmem
  · show Value.bool _ = Value.bool _
    have e1 : its.toArray.size = (xs.map truV).length := by rw [List.size_toArray, List.length_map]; exact rv.length.symm
    rw [e1, L2.all_range, List.all_map]
    rfl
theorem RD.tru {x : D} {v : L2.V} (h : RD K f H x v) (hx : x.tflat = true) : tfl v = true ∧ truV v = x.tru := by
  cases x with
  | non => rw [RD.non] at h; subst h; exact ⟨rfl, rfl⟩
  | bl b => rw [RD.bl] at h; subst h; exact ⟨rfl, rfl⟩
  | int i => rw [RD.int] at h; subst h; exact ⟨rfl, rfl⟩
  | str _ => cases hx
  | tup _ => cases hx
  | ref _ => cases hx
theorem RDs.tru : ∀ {xs : List D} {vs : List L2.V}, RDs K f H xs vs → xs.all D.tflat = true → vs.all tfl = true ∧ vs.any truV = xs.any D.tru ∧ vs.all truV = xs.all D.tru
  | [], _, h, _ => by rw [RDs.nil] at h; subst h; exact ⟨rfl, rfl, rfl⟩
  | x :: xs, _, h, hf => by
    rw [RDs.cons] at h
    obtain ⟨v, r, rfl, h1, h2⟩ := h
    have hf' : x.tflat = true ∧ xs.all D.tflat = true := by simpa using hf
    obtain ⟨a, b⟩ := h1.tru hf'.1
    obtain ⟨c, d, e⟩ := RDs.tru h2 hf'.2
    simp [a, b, c, d, e]
theorem real_allB : RealB K (rAllF K) allB :=
  realB1 (kb1 (fun _ _ h => h) fun x y xs st Q h => by cases x <;> exact h) fun f st H x v Q' Q s r h l => by
    cases x <;> try (exact h.elim)
    rw [RD.ref] at r
    obtain ⟨a, e, rfl⟩ := r
    obtain ⟨xs, h1, h2, h3⟩ := h
    obtain ⟨a', vs, k1, k2, d⟩ := s.rdA h1
    rw [e] at k1; cases k1
    obtain ⟨t1, t2, t3⟩ := d.tru h2
    exact ⟨a, vs, rfl, k2, t1, by rw [t3]; exact l.now s h3 (RD.bl.mpr rfl)⟩
theorem real_anyB : RealB K (rAnyF K) anyB :=
  realB1 (kb1 (fun _ _ h => h) fun x y xs st Q h => by cases x <;> exact h) fun f st H x v Q' Q s r h l => by
    cases x <;> try (exact h.elim)
    rw [RD.ref] at r
    obtain ⟨a, e, rfl⟩ := r
    obtain ⟨xs, h1, h2, h3⟩ := h
    obtain ⟨a', vs, k1, k2, d⟩ := s.rdA h1
    rw [e] at k1; cases k1
    obtain ⟨t1, t2, t3⟩ := d.tru h2
    exact ⟨a, vs, rfl, k2, t1, by rw [t2]; exact l.now s h3 (RD.bl.mpr rfl)⟩
theorem real_min1B : RealB K (L2.rMin K) min1B :=
  realB1 (kb1 (fun _ _ h => h) fun x y xs st Q h => by cases x <;> exact h) fun f st H x v Q' Q s r h l => by
    cases x <;> try (exact h.elim)
    rw [RD.ref] at r
    obtain ⟨a, e, rfl⟩ := r
    obtain ⟨ns, h1, h2, h3⟩ := h
    obtain ⟨a', vs, k1, k2, d⟩ := s.rdA h1
    rw [e] at k1; cases k1
    exact ⟨a, ns, rfl, by rw [← d.ints]; exact k2, h2, fun m hm hy => l.now s (h3 m hm hy) (RD.int.mpr rfl)⟩
theorem real_max1B : RealB K (L2.rMax K) max1B :=
  realB1 (kb1 (fun _ _ h => h) fun x y xs st Q h => by cases x <;> exact h) fun f st H x v Q' Q s r h l => by
    cases x <;> try (exact h.elim)
    rw [RD.ref] at r
    obtain ⟨a, e, rfl⟩ := r
    obtain ⟨ns, h1, h2, h3⟩ := h
    obtain ⟨a', vs, k1, k2, d⟩ := s.rdA h1
    rw [e] at k1; cases k1
    exact ⟨a, ns, rfl, by rw [← d.ints]; exact k2, h2, fun m hm hy => l.now s (h3 m hm hy) (RD.int.mpr rfl)⟩
end
end Pd
end PartPdSoundC

section PartPdSoundD
set_option Elab.async false
set_option linter.all false
set_option maxRecDepth 100000
set_option maxHeartbeats 1000000
/-! Pd over the hand layer: targets, loops, statements, comprehensions, methods, defs. Own work. -/
namespace Pd
open PySem PySem.Spec
section
variable {X : L2.Cx} {K : Kf} {f f' : List Addr} {H H' : Hp} {st st' : Store} {ρ : Env} {σ : L2.St}
/-! ### targets -/
def LG (K : Kf) (f : List Addr) (H : Hp) (σ : L2.St) (vs : List Nat) (Q' : Env → Store → Prop) (Q : L2.St → Hp → Prop) : Prop :=
  ∀ (ρ' : Env) (st' : Store) (σ' : L2.St) (f' : List Addr) (H' : Hp), Q' ρ' st' → Ext K f H f' H' → Rel K f' ρ' st' σ' H' → Out vs σ σ' → Q σ' H'
def liftG (K : Kf) (g : TG) (vs : List Nat) : L2.TG := fun v σ H Q => ∃ f ρ st d Q', Rel K f ρ st σ H ∧ RD K f H d v ∧ g d ρ st Q' ∧ LG K f H σ vs Q' Q
def liftGs (K : Kf) (g : TGs) (vs : List Nat) : L2.TGs := fun us σ H Q => ∃ f ρ st ds Q', Rel K f ρ st σ H ∧ RDs K f H ds us ∧ g ds ρ st Q' ∧ LG K f H σ vs Q' Q
abbrev PDG (X : L2.Cx) (e : Expr) (g : TG) (vs : List Nat) : Prop := L2.PG X e (liftG X.K g vs)
abbrev PDGs (X : L2.Cx) (es : List Expr) (g : TGs) (vs : List Nat) : Prop := L2.PGs X es (liftGs X.K g vs)
theorem pg_imp {e : Expr} {t t' : L2.TG} (h : L2.PG X e t) (m : ∀ v σ H Q, t' v σ H Q → t v σ H Q) : L2.PG X e t' := ⟨fun pins s σ H v u Q I r q => h.run pins s σ H v u Q I r (m v σ H Q q)⟩
theorem pgs_imp {e : List Expr} {t t' : L2.TGs} (h : L2.PGs X e t) (m : ∀ v σ H Q, t' v σ H Q → t v σ H Q) : L2.PGs X e t' := ⟨fun pins s σ H v u Q I r q => h.run pins s σ H v u Q I r (m v σ H Q q)⟩
theorem Out.refl {vs : List Nat} {σ : L2.St} : Out vs σ σ := ⟨rfl, fun _ _ => rfl⟩
theorem Out.set {i : Nat} {v : L2.V} {σ : L2.St} : Out [i] σ (σ.set i (some v)) := ⟨by rw [List.length_set], fun j h => by
  have : j ≠ i := fun e => h (by simp [e])
  rw [List.getElem?_set_ne (Ne.symm this)]⟩
theorem Out.trans {vs ws : List Nat} {σ σ1 σ2 : L2.St} (a : Out vs σ σ1) (b : Out ws σ1 σ2) : Out (vs ++ ws) σ σ2 :=
  ⟨b.1.trans a.1, fun j h => (b.2 j fun e => h (List.mem_append_right _ e)).trans (a.2 j fun e => h (List.mem_append_left _ e))⟩
theorem pg_name {i : Nat} {x : Str} {pos : Pos} (hN : X.N.Nodup) (hi : X.N[i]? = some x) (hx : L2.Loc X.env.scope x) (hf : X.fn x = true ∨ X.env.scope.names.lookup x = some .local := by first | exact .inl rfl | exact .inr rfl | assumption) : PDG X (.Name x pos) (gName i) [i] :=
  pg_imp (L2.pg_name hN hi hx hf) fun v σ H Q ⟨f, ρ, st, d, Q', R, r, h, l⟩ => l _ st _ f H h .refl (R.put r) Out.set
theorem pgs_nil : PDGs X [] gsNil [] := pgs_imp L2.pgs_nil fun us σ H Q ⟨f, ρ, st, ds, Q', R, r, h, l⟩ => by
  obtain ⟨rfl, h⟩ := h
  rw [RDs.nil] at r
  exact ⟨r, l ρ st σ f H h .refl R .refl⟩
theorem pgs_cons {e : Expr} {es : List Expr} {g : TG} {gs : TGs} {vs ws : List Nat} (h1 : PDG X e g vs) (h2 : PDGs X es gs ws) (hs : (assignEach (e :: es) X.env).map (·.2) = assign e X.env :: (assignEach es X.env).map (·.2) := by rfl) : PDGs X (e :: es) (gsCons g gs) (vs ++ ws) :=
  pgs_imp (L2.pgs_cons h1 h2 hs) fun us σ H Q ⟨f, ρ, st, ds, Q', R, r, h, l⟩ => by
    obtain ⟨d, ds', rfl, h⟩ := h
    rw [RDs.cons] at r
    obtain ⟨v, rr, rfl, r1, r2⟩ := r
    refine ⟨v, rr, rfl, f, ρ, st, d, _, R, r1, h, fun ρ1 st1 σ1 f1 H1 q e1 R1 o1 => ?_⟩
    exact ⟨f1, ρ1, st1, ds', Q', R1, r2.mono e1, q, fun ρ2 st2 σ2 f2 H2 q2 e2 R2 o2 => l ρ2 st2 σ2 f2 H2 q2 (e1.trans e2) R2 (o1.trans o2)⟩
theorem pg_tup {es : List Expr} {k : Nat} {pos : Pos} {gs : TGs} {vs : List Nat} {n : Nat} (hc : X.calm = true) (h : PDGs X es gs vs)
    (hn : (assignEach es X.env).length = n := by rfl) (hst : (assignEach es X.env).findIdx? (·.1) = none := by rfl) : PDG X (.Tuple es k pos) (gTup gs n) vs :=
  pg_imp (L2.pg_tup hc h hn hst) fun v σ H Q ⟨f, ρ, st, d, Q', R, r, h, l⟩ => by
    obtain ⟨ds, rfl, hl, h⟩ := h
    rw [RD.tup] at r
    obtain ⟨a, us, rfl, t, rs⟩ := r
    exact ⟨a, us, rfl, t, by rw [rs.length]; exact hl, f, ρ, st, ds, Q', R, rs, h, l⟩
def RealSet (K : Kf) (r : L2.V → L2.V → L2.V → Hp → (Hp → Prop) → Prop) (k : D → D → D → Store → (Store → Prop) → Prop) : Prop :=
  ∀ (f : List Addr) (st : Store) (H : Hp) (o i v : D) (ov iv vv : L2.V) (Q' : Store → Prop) (Q : Hp → Prop), RelS K f st H → RD K f H o ov → RD K f H i iv → RD K f H v vv → k o i v st Q' →
    (∀ st' H', Q' st' → Ext K f H f H' → RelS K f st' H' → Q H') → r ov iv vv H Q
theorem real_set : RealSet K L2.rSetL setK := fun f st H o i v ov iv vv Q' Q s r1 r2 r3 h l => by
  cases o <;> try (exact h.elim)
  cases i <;> try (exact h.elim)
  rename_i n i
  rw [RD.ref] at r1
  rw [RD.int] at r2
  obtain ⟨a, e, rfl⟩ := r1
  obtain ⟨xs, h1, ⟨d, h2⟩, h3, h4⟩ := h
  obtain ⟨a', vs, k1, k2, k3⟩ := s.rdL h1
  rw [e] at k1; cases k1
  have hlt : i < (vs.length : Int) := by
    rw [k3.length]
    unfold atD at h2
    rw [if_pos h3] at h2
    have := (List.getElem?_eq_some_iff.mp h2).1
    omega
  obtain ⟨s', e'⟩ := s.put e h1 k2 (k3.set i.toNat r3)
  exact ⟨a, vs, i, i.toNat, rfl, r2, k2, by unfold L2.ixN; rw [if_pos h3, if_pos hlt], l _ _ h4 e' s'⟩
section
variable {a b c e o i : Expr} {es : List Expr} {ta tb te to ti : TE} {pos tpos : Pos}
theorem pg_sub (h1 : PD X o to) (h2 : PD X i ti) (ha : ∀ v, assign (.Subscript o i pos) X.env v = (do
      let ov ← holding [v] (eval o X.env)
      let iv ← holding [v, ov] (eval i X.env)
      standAt pos
      holding [v, ov, iv] (setItem ov iv v)
      release [v, ov, iv] []) := by intro _; rfl) : PDG X (.Subscript o i pos) (gSub to ti) [] :=
  pg_imp (L2.pg_sub h1 h2 L2.set_list ha) fun v σ H Q ⟨f, ρ, st, d, Q', R, r, h, l⟩ => ⟨f, ρ, st, _, R, h, fun x st1 u f1 H1 q1 e1 s1 r1 => ⟨f1, ρ, st1, _, R.later e1 s1, q1, fun y st2 w f2 H2 q2 e2 s2 r2 =>
    real_set f2 st2 H2 x y d u w v _ _ s2 (r1.mono e2) r2 (r.mono (e1.trans e2)) q2 fun st3 H3 q3 e3 s3 => l ρ st3 σ f2 H3 q3 ((e1.trans e2).trans e3) (R.later ((e1.trans e2).trans e3) s3) .refl⟩⟩

/-! ### iterables -/
/-- what is walked: data and walk -/
structure RealI (K : Kf) (f : List Addr) (H : Hp) (I : Iter) (J : L2.It) : Prop where
  go : ∀ (i : Nat) (f2 : List Addr) (st2 : Store) (H2 : Hp), Ext K f H f2 H2 → RelS K f2 st2 H2 → I.guard st2 → i < I.items.length → J.go i H2
  stop : ∀ (f2 : List Addr) (st2 : Store) (H2 : Hp), Ext K f H f2 H2 → RelS K f2 st2 H2 → I.guard st2 → J.stop I.items.length H2
  yld : ∀ (i : Nat) (f2 : List Addr) (st2 : Store) (H2 : Hp) (d : D) (x : L2.V) (H3 : Hp), Ext K f H f2 H2 → RelS K f2 st2 H2 → I.guard st2 → I.items[i]? = some d → J.yld i H2 x H3 → Ext K f2 H2 f2 H3 ∧ RelS K f2 st2 H3 ∧ RD K f2 H3 d x
def liftI (K : Kf) (t : TI) : L2.TI := fun σ H R => ∃ f ρ st R', Rel K f ρ st σ H ∧ t ρ st R' ∧ ∀ (I : Iter) (st' : Store) (J : L2.It) (f' : List Addr) (H' : Hp), R' I st' → Ext K f H f' H' → RelS K f' st' H' → RealI K f' H' I J → R J H'
abbrev PDI (X : L2.Cx) (tg e : Expr) (t : TI) : Prop := L2.PI X tg e (liftI X.K t)
theorem pi_imp {tg e : Expr} {t t' : L2.TI} (h : L2.PI X tg e t) (m : ∀ σ H R, t' σ H R → t σ H R) : L2.PI X tg e t' := ⟨fun pins s σ H R I q => h.run pins s σ H R I (m σ H R q)⟩
def iSeqV (K : Kf) (tl : L2.TE) : L2.TI := fun σ H R => tl σ H fun x H1 => ∃ a, x = .ref a ∧ ((∃ xs, L2.SqL K H1 a xs ∧ R (L2.Itl K a) H1) ∨ (∃ xs, L2.SqT K H1 a xs ∧ R (L2.Itt K a) H1))
theorem pi_seqV {tg l : Expr} {tl : L2.TE} (hl : L2.PE X l tl) : L2.PI X tg l (iSeqV X.K tl) := by
  refine ⟨fun pins s σ H R I h => ?_⟩
  refine L2.thn (hl.run pins s σ H _ I h) fun v s1 ⟨x, H1, I1, r1, q1⟩ => ?_
  obtain ⟨a, e, q1⟩ := q1
  subst e
  cases r1
  have fin : ∀ b ∈ [s1.heap.objs.size], L2.FpOk X pins H1 b := fun b hb => by
    have e : b = s1.heap.objs.size := by simpa using hb
    subst e
    exact I1.fpOk (Nat.le_refl _) (I1.hok.fresh (Nat.le_refl _))
  rcases q1 with ⟨xs, hq, q⟩ | ⟨xs, hq, q⟩
  · obtain ⟨its, rv, p, hz⟩ := I1.list hq
    refine wpAny_pyIter_list p.isList ?_
    exact ⟨s1.heap.objs.size, [s1.heap.objs.size], _, _, H1, rfl, I1.kept (t' := s1.toks) fun b o e => Heap.get?_push_of_some _ e, L2.turn_list a _, ⟨_, Heap.get?_push_size _ rfl, rfl, rfl⟩, fin, q⟩
  · obtain ⟨its, rv, p, hz⟩ := I1.tuple hq
    refine wpAny_pyIter_tuple (show s1.heap.IsTuple a its.toArray from p) ?_
    exact ⟨s1.heap.objs.size, [s1.heap.objs.size], _, _, H1, rfl, I1.kept (t' := s1.toks) fun b o e => Heap.get?_push_of_some _ e, L2.turn_tuple a _, ⟨_, Heap.get?_push_size _ rfl, rfl, rfl⟩, fin, q⟩
theorem RDs.at_lt {ds : List D} {vs : List L2.V} (h : RDs K f H ds vs) {i : Nat} (hi : i < ds.length) : ∃ v, vs[i]? = some v := by
  have := h.length
  exact ⟨vs[i]'(by omega), by simp [this, hi]⟩
theorem realI_list {n : Nat} {a : Addr} {xs : List D} (hn : f[n]? = some a) : RealI K f H ⟨xs, fun s => rdA s n xs⟩ (L2.Itl K a) where
  go := fun i f2 st2 H2 e2 s2 g hi => by
    obtain ⟨a', vs, k1, k2, k3⟩ := s2.rdA g
    rw [e2.at hn] at k1; cases k1
    obtain ⟨v, hv⟩ := k3.at_lt hi
    exact ⟨vs, v, k2, hv⟩
  stop := fun f2 st2 H2 e2 s2 g => by
    obtain ⟨a', vs, k1, k2, k3⟩ := s2.rdA g
    rw [e2.at hn] at k1; cases k1
    exact ⟨vs, k2, by rw [k3.length]; exact Nat.le_refl _⟩
  yld := fun i f2 st2 H2 d x H3 e2 s2 g hd y => by
    obtain ⟨a', vs, k1, k2, k3⟩ := s2.rdA g
    rw [e2.at hn] at k1; cases k1
    obtain ⟨rfl, y⟩ := y
    obtain ⟨v, h1, h2⟩ := k3.get hd
    have := y vs k2
    rw [h1] at this; cases this
    exact ⟨.refl, s2, h2⟩
theorem realI_tup {a : Addr} {xs : List D} {vs : List L2.V} (t : L2.SqT K H a vs) (r : RDs K f H xs vs) : RealI K f H ⟨xs, fun _ => True⟩ (L2.Itt K a) where
  go := fun i f2 st2 H2 e2 s2 g hi => by
    obtain ⟨v, hv⟩ := r.at_lt hi
    exact ⟨vs, v, e2.tup _ _ t, hv⟩
  stop := fun f2 st2 H2 e2 s2 g => ⟨vs, e2.tup _ _ t, by rw [r.length]; exact Nat.le_refl _⟩
  yld := fun i f2 st2 H2 d x H3 e2 s2 g hd y => by
    obtain ⟨rfl, y⟩ := y
    obtain ⟨v, h1, h2⟩ := r.get hd
    have := y vs (e2.tup _ _ t)
    rw [h1] at this; cases this
    exact ⟨.refl, s2, h2.mono e2⟩
theorem realI_rng {lo : Int} {n : Nat} : RealI K f H ⟨rng lo n, fun _ => True⟩ (L2.Itr lo n) where
  go := fun i f2 st2 H2 e2 s2 g hi => by
    have : i < n := by simpa [rng] using hi
    exact this
  stop := fun f2 st2 H2 e2 s2 g => by
    show n ≤ (rng lo n).length
    simp [rng]
  yld := fun i f2 st2 H2 d x H3 e2 s2 g hd y => by
    obtain ⟨rfl, rfl⟩ := y
    refine ⟨.refl, s2, ?_⟩
    have hd' : (rng lo n)[i]? = some d := hd
    unfold rng at hd'
    rw [List.getElem?_map] at hd'
    cases q : (List.range n)[i]? with
    | none => rw [q] at hd'; cases hd'
    | some j =>
      rw [q] at hd'
      obtain ⟨h1, h2⟩ := List.getElem?_eq_some_iff.mp q
      simp at h2
      subst h2
      simp at hd'
      subst hd'
      rw [RD.int]
theorem pi_seq {tg : Expr} (h : PD X a ta) : PDI X tg a (iSeq ta) :=
  pi_imp (pi_seqV h) fun σ H R ⟨f, ρ, st, R', Re, h, l⟩ => ⟨f, ρ, st, _, Re, h, fun x st1 v f1 H1 q1 e1 s1 r1 => by
    cases x <;> try (exact q1.elim)
    · rw [RD.tup] at r1
      obtain ⟨a, vs, rfl, t, d⟩ := r1
      exact ⟨a, rfl, .inr ⟨vs, t, l _ st1 _ f1 H1 q1 e1 s1 (realI_tup t d)⟩⟩
    · rw [RD.ref] at r1
      obtain ⟨a, e, rfl⟩ := r1
      obtain ⟨xs, g1, g2⟩ := q1
      obtain ⟨a', vs, k1, k2, k3⟩ := s1.rdA g1
      rw [e] at k1; cases k1
      exact ⟨a, rfl, .inl ⟨vs, k2, l _ st1 _ f1 H1 g2 e1 s1 (realI_list e)⟩⟩⟩
theorem pi_r1 {tg : Expr} {p : Pos} (hg : L2.Gl X "range") (hm : X.mg "range" = none) (h : PD X a ta) (hs : starEach [a] X.env = [(false, eval a X.env)] := by rfl) : PDI X tg (.Call (.Name "range" p) [a] [] pos) (iR1 ta) :=
  pi_imp (L2.pi_range1 hg hm (L2.pa_cons h L2.pa_nil hs) hs) fun σ H R ⟨f, ρ, st, R', Re, h, l⟩ => ⟨f, ρ, st, _, Re, h, fun x st1 v f1 H1 q1 e1 s1 r1 => by
    obtain ⟨j, rfl, h1, h2, h3⟩ := q1
    rw [RD.int] at r1
    subst r1
    exact ⟨j, rfl, h1, h2, l _ st1 _ f1 H1 h3 e1 s1 realI_rng⟩⟩
theorem pi_r2 {tg : Expr} {p : Pos} (hg : L2.Gl X "range") (hm : X.mg "range" = none) (h : PD X a ta) (h' : PD X b tb) (hs : starEach [a, b] X.env = [(false, eval a X.env), (false, eval b X.env)] := by rfl) (hs2 : starEach [b] X.env = [(false, eval b X.env)] := by rfl) : PDI X tg (.Call (.Name "range" p) [a, b] [] pos) (iR2 ta tb) :=
  pi_imp (L2.pi_range2 hg hm (L2.pa_cons h (L2.pa_cons h' L2.pa_nil hs2) (hs.trans (by rw [hs2]))) hs hs2) fun σ H R ⟨f, ρ, st, R', Re, h, l⟩ => ⟨f, ρ, st, _, Re, h, fun x st1 v f1 H1 q1 e1 s1 r1 => ⟨f1, ρ, st1, _, Re.later e1 s1, q1, fun y st2 w f2 H2 q2 e2 s2 r2 => by
    obtain ⟨i, j, rfl, rfl, h2, h3⟩ := q2
    have r1' := r1.mono e2
    rw [RD.int] at r1' r2
    subst r1'; subst r2
    exact ⟨i, j, rfl, h2, l _ st2 _ f2 H2 h3 (e1.trans e2) s2 realI_rng⟩⟩⟩
theorem zipD_get : ∀ {xs ys : List D} {i : Nat} {d : D}, (zipD xs ys)[i]? = some d → ∃ x y, d = .tup [x, y] ∧ xs[i]? = some x ∧ ys[i]? = some y
  | [], _, _, _, h => by simp [zipD] at h
  | _ :: _, [], _, _, h => by simp [zipD] at h
  | x :: xs, y :: ys, 0, d, h => by simp [zipD] at h; exact ⟨x, y, h.symm, rfl, rfl⟩
  | x :: xs, y :: ys, i + 1, d, h => by
    obtain ⟨x', y', h1, h2, h3⟩ := zipD_get (xs := xs) (ys := ys) (i := i) (by simpa [zipD] using h)
    exact ⟨x', y', h1, by simpa using h2, by simpa using h3⟩
theorem zipD_length : ∀ (xs ys : List D), (zipD xs ys).length = min xs.length ys.length
  | [], _ => by simp [zipD]
  | _ :: _, [] => by simp [zipD]
  | x :: xs, y :: ys => by simp [zipD, zipD_length xs ys]
theorem realI_zipT {a b : Addr} {xs ys : List D} {vs ws : List L2.V} (t : L2.SqT K H a vs) (r : RDs K f H xs vs) (t' : L2.SqT K H b ws) (r' : RDs K f H ys ws) : RealI K f H ⟨zipD xs ys, fun _ => True⟩ (RZ.ItzT K a b) where
  go := fun i f2 st2 H2 e2 s2 g hi => by
    have hi : i < (zipD xs ys).length := hi
    rw [zipD_length] at hi
    obtain ⟨v, hv⟩ := r.at_lt (i := i) (by omega)
    obtain ⟨w, hw⟩ := r'.at_lt (i := i) (by omega)
    exact ⟨vs, ws, v, w, e2.tup _ _ t, e2.tup _ _ t', hv, hw⟩
  stop := fun f2 st2 H2 e2 s2 g => ⟨vs, ws, e2.tup _ _ t, e2.tup _ _ t', by
    show vs.length ≤ (zipD xs ys).length ∨ ws.length ≤ (zipD xs ys).length
    rw [zipD_length, r.length, r'.length]; omega⟩
  yld := fun i f2 st2 H2 d x H3 e2 s2 g hd y => by
    obtain ⟨T, x1, x2, rfl, hT, rfl, y1, y2⟩ := y
    obtain ⟨d1, d2, rfl, g1, g2⟩ := zipD_get hd
    obtain ⟨v, h1, h2⟩ := r.get g1
    obtain ⟨w, h3, h4⟩ := r'.get g2
    have q1 := y1 vs (e2.tup _ _ t)
    have q2 := y2 ws (e2.tup _ _ t')
    rw [h1] at q1; cases q1
    rw [h3] at q2; cases q2
    obtain ⟨s', e'⟩ := s2.lay (o := .tup [x1, x2]) hT
    refine ⟨e', s', RD.tup.mpr ⟨T, [x1, x2], rfl, .of L2.upd_same, ?_⟩⟩
    rw [RDs.cons]
    exact ⟨x1, [x2], rfl, (h2.mono e2).mono e', RDs.one ((h4.mono e2).mono e')⟩
theorem realI_zipL {m n : Nat} {a b : Addr} {xs ys : List D} (hm : f[m]? = some a) (hn : f[n]? = some b) : RealI K f H ⟨zipD xs ys, fun s => rdA s m xs ∧ rdA s n ys⟩ (L2.Itz K a b) where
  go := fun i f2 st2 H2 e2 s2 g hi => by
    have hi : i < (zipD xs ys).length := hi
    rw [zipD_length] at hi
    obtain ⟨a', vs, k1, k2, k3⟩ := s2.rdA g.1
    obtain ⟨b', ws, j1, j2, j3⟩ := s2.rdA g.2
    rw [e2.at hm] at k1; cases k1
    rw [e2.at hn] at j1; cases j1
    obtain ⟨v, hv⟩ := k3.at_lt (i := i) (by omega)
    obtain ⟨w, hw⟩ := j3.at_lt (i := i) (by omega)
    exact ⟨vs, ws, v, w, k2, j2, hv, hw⟩
  stop := fun f2 st2 H2 e2 s2 g => by
    obtain ⟨a', vs, k1, k2, k3⟩ := s2.rdA g.1
    obtain ⟨b', ws, j1, j2, j3⟩ := s2.rdA g.2
    rw [e2.at hm] at k1; cases k1
    rw [e2.at hn] at j1; cases j1
    refine ⟨vs, ws, k2, j2, ?_⟩
    show vs.length ≤ (zipD xs ys).length ∨ ws.length ≤ (zipD xs ys).length
    rw [zipD_length, k3.length, j3.length]; omega
  yld := fun i f2 st2 H2 d x H3 e2 s2 g hd y => by
    obtain ⟨a', vs, k1, k2, k3⟩ := s2.rdA g.1
    obtain ⟨b', ws, j1, j2, j3⟩ := s2.rdA g.2
    rw [e2.at hm] at k1; cases k1
    rw [e2.at hn] at j1; cases j1
    obtain ⟨T, x1, x2, rfl, hT, rfl, y1, y2⟩ := y
    obtain ⟨d1, d2, rfl, g1, g2⟩ := zipD_get hd
    obtain ⟨v, h1, h2⟩ := k3.get g1
    obtain ⟨w, h3, h4⟩ := j3.get g2
    have q1 := y1 vs k2
    have q2 := y2 ws j2
    rw [h1] at q1; cases q1
    rw [h3] at q2; cases q2
    obtain ⟨s', e'⟩ := s2.lay (o := .tup [x1, x2]) hT
    refine ⟨e', s', RD.tup.mpr ⟨T, [x1, x2], rfl, .of L2.upd_same, ?_⟩⟩
    rw [RDs.cons]
    exact ⟨x1, [x2], rfl, h2.mono e', RDs.one (h4.mono e')⟩
theorem pi_zip {p tp : Pos} {kk : Nat} (hg : L2.Gl X "zip") (hm : X.mg "zip" = none) (h : PD X a ta) (h' : PD X b tb) (hs : starEach [a, b] X.env = (false, eval a X.env) :: starEach [b] X.env := by rfl) (hs2 : starEach [b] X.env = (false, eval b X.env) :: starEach [] X.env := by rfl)
    (hpl : (backTo pos (starEach [b] X.env)).any (·.1) = false := by rfl) : PDI X (.Tuple es kk tp) (.Call (.Name "zip" p) [a, b] [] pos) (iZip2 ta tb) :=
  pi_imp (RZ.pi_zipA hg hm (L2.pa_cons h (L2.pa_cons h' L2.pa_nil hs2) hs) hs hpl) fun σ H R ⟨f, ρ, st, R', Re, h, l⟩ => ⟨f, ρ, st, _, Re, h, fun x st1 v f1 H1 q1 e1 s1 r1 => ⟨f1, ρ, st1, _, Re.later e1 s1, q1, fun y st2 w f2 H2 q2 e2 s2 r2 => by
    have r1' := r1.mono e2
    cases x <;> cases y <;> try (exact q2.elim)
    · rw [RD.tup] at r1' r2
      obtain ⟨a, vs, rfl, t, d⟩ := r1'
      obtain ⟨b, ws, rfl, t', d'⟩ := r2
      exact ⟨a, b, vs, ws, rfl, .inr ⟨t, t', l _ st2 _ f2 H2 q2 (e1.trans e2) s2 (realI_zipT t d t' d')⟩⟩
    · rw [RD.ref] at r1' r2
      obtain ⟨a, g1, rfl⟩ := r1'
      obtain ⟨b, g2, rfl⟩ := r2
      obtain ⟨xs, ys, q3, q4, q5⟩ := q2
      obtain ⟨a', vs, k1, k2, k3⟩ := s2.rdA q3
      obtain ⟨b', ws, j1, j2, j3⟩ := s2.rdA q4
      rw [g1] at k1; cases k1
      rw [g2] at j1; cases j1
      exact ⟨a, b, vs, ws, rfl, .inl ⟨k2, j2, l _ st2 _ f2 H2 q5 (e1.trans e2) s2 (realI_zipL g1 g2)⟩⟩⟩⟩
end
end
end Pd
end PartPdSoundD

section PartPdSoundE
set_option Elab.async false
set_option linter.all false
set_option maxRecDepth 100000
set_option maxHeartbeats 1000000
/-! Pd over the hand layer: statements, comprehensions, methods, defs. Own work. -/
namespace Pd
open PySem PySem.Spec
section
variable {X : L2.Cx} {K : Kf} {f f' : List Addr} {H H' : Hp} {st st' : Store} {ρ : Env} {σ : L2.St}
/-! ### statements -/
structure LD (K : Kf) (f : List Addr) (H : Hp) (D' : Ends) (D : L2.Ends) : Prop where
  nx : ∀ (ρ' : Env) (st' : Store) (σ' : L2.St) (f' : List Addr) (H' : Hp), D'.nx ρ' st' → Ext K f H f' H' → Rel K f' ρ' st' σ' H' → D.nx σ' H'
  rt : LQ K f H D'.rt D.rt
  bk : ∀ (ρ' : Env) (st' : Store) (σ' : L2.St) (f' : List Addr) (H' : Hp), D'.bk ρ' st' → Ext K f H f' H' → Rel K f' ρ' st' σ' H' → D.bk σ' H'
  ct : ∀ (ρ' : Env) (st' : Store) (σ' : L2.St) (f' : List Addr) (H' : Hp), D'.ct ρ' st' → Ext K f H f' H' → Rel K f' ρ' st' σ' H' → D.ct σ' H'
def liftS (K : Kf) (t : TS) : L2.TS := fun D σ H => ∃ f ρ st D', Rel K f ρ st σ H ∧ t D' ρ st ∧ LD K f H D' D
abbrev PDS (X : L2.Cx) (s : Stmt) (t : TS) : Prop := L2.PS X s (liftS X.K t)
abbrev PDSs (X : L2.Cx) (s : List Stmt) (t : TS) : Prop := L2.PSs X s (liftS X.K t)
theorem ps_imp {s : Stmt} {t t' : L2.TS} (h : L2.PS X s t) (m : ∀ D σ H, t' D σ H → t D σ H) : L2.PS X s t' := ⟨fun pins s σ H D I q => h.run pins s σ H D I (m D σ H q)⟩
theorem pss_imp {s : List Stmt} {t t' : L2.TS} (h : L2.PSs X s t) (m : ∀ D σ H, t' D σ H → t D σ H) : L2.PSs X s t' := ⟨fun pins s σ H D I q => h.run pins s σ H D I (m D σ H q)⟩
theorem LD.later {D' : Ends} {D : L2.Ends} (l : LD K f H D' D) (e : Ext K f H f' H') : LD K f' H' D' D :=
  ⟨fun a b c d g q e2 r => l.nx a b c d g q (e.trans e2) r, l.rt.later e, fun a b c d g q e2 r => l.bk a b c d g q (e.trans e2) r, fun a b c d g q e2 r => l.ct a b c d g q (e.trans e2) r⟩
section
variable {a b c e o i : Expr} {es : List Expr} {ta tb te to ti : TE} {tC : TT} {pos tpos : Pos} {s : Stmt} {ss ss' : List Stmt} {t u : TS}
theorem pss_nil : PDSs X [] sNext := pss_imp L2.pss_nil fun D σ H ⟨f, ρ, st, D', R, h, l⟩ => l.nx ρ st σ f H h .refl R
theorem pss_cons (h1 : PDS X s t) (h2 : PDSs X ss u) : PDSs X (s :: ss) (sSeq t u) := pss_imp (L2.pss_cons h1 h2) fun D σ H ⟨f, ρ, st, D', R, h, l⟩ =>
  ⟨f, ρ, st, _, R, h, fun ρ1 st1 σ1 f1 H1 q e r => ⟨f1, ρ1, st1, D', r, q.go, l.later e⟩, l.rt, l.bk, l.ct⟩
theorem pss_one (h1 : PDS X s t) : PDSs X [s] t := L2.pss_one h1
theorem ps_pass : PDS X (.Pass pos) sNext := ps_imp L2.ps_pass fun D σ H ⟨f, ρ, st, D', R, h, l⟩ => l.nx ρ st σ f H h .refl R
theorem ps_doc {x j pos'} : PDS X (.Expr (.Constant (.str x) j pos) pos') sNext := ps_imp L2.ps_doc fun D σ H ⟨f, ρ, st, D', R, h, l⟩ => l.nx ρ st σ f H h .refl R
theorem ps_break : PDS X (.Break pos) sBreak := ps_imp L2.ps_break fun D σ H ⟨f, ρ, st, D', R, h, l⟩ => l.bk ρ st σ f H h .refl R
theorem ps_continue : PDS X (.Continue pos) sCont := ps_imp L2.ps_continue fun D σ H ⟨f, ρ, st, D', R, h, l⟩ => l.ct ρ st σ f H h .refl R
theorem ps_expr (he : PD X e te) (hs : swapsWith e none pos.line X.env = pure false := by rfl) : PDS X (.Expr e pos) (sExpr te) := ps_imp (L2.ps_expr he hs) fun D σ H ⟨f, ρ, st, D', R, h, l⟩ =>
  ⟨f, ρ, st, _, R, h, fun x st1 v f1 H1 q e1 s1 r1 => l.nx ρ st1 σ f1 H1 q e1 (R.later e1 s1)⟩
theorem ps_ret (he : PD X e te) : PDS X (.Return (some e) pos) (sRet te) := ps_imp (L2.ps_ret he) fun D σ H ⟨f, ρ, st, D', R, h, l⟩ => ⟨f, ρ, st, _, R, h, l.rt⟩
theorem ps_retN : PDS X (.Return none pos) sRetN := ps_imp L2.ps_retN fun D σ H ⟨f, ρ, st, D', R, h, l⟩ => l.rt.now R.toRelS h (RD.non.mpr rfl)
theorem ps_if (hc : PDT X c tC) (ha : PDSs X ss t) (hb : PDSs X ss' u) : PDS X (.If c ss ss' pos) (sIf tC t u) := ps_imp (L2.ps_if hc ha hb) fun D σ H ⟨f, ρ, st, D', R, h, l⟩ =>
  ⟨f, ρ, st, _, R, h, fun k st1 f1 H1 q e1 s1 => by
    cases k with
    | true => exact ⟨f1, ρ, st1, D', R.later e1 s1, q.1 rfl, l.later e1⟩
    | false => exact ⟨f1, ρ, st1, D', R.later e1 s1, q.2 rfl, l.later e1⟩⟩
theorem asg_core {g : TG} {vs : List Nat} {te : TE} {D : L2.Ends} (h : liftS K (sAsg te g) D σ H) : L2.tAsg (lift K te) (liftG K g vs) D σ H := by
  obtain ⟨f, ρ, st, D', R, h, l⟩ := h
  exact ⟨f, ρ, st, _, R, h, fun x st1 v f1 H1 q e1 s1 r1 => ⟨f1, ρ, st1, x, _, R.later e1 s1, r1, q, fun ρ2 st2 σ2 f2 H2 q2 e2 R2 _ => l.nx ρ2 st2 σ2 f2 H2 q2 (e1.trans e2) R2⟩⟩
theorem ps_asg {tg : Expr} {g : TG} {vs : List Nat} (he : PD X e te) (hg : PDG X tg g vs) (hs : swapsWithSole [tg] e pos.line X.env = pure false := by rfl) (hw : swappedStores [tg] e X.env = pure none := by rfl)
    (h1 : (assignEach [tg] X.env).map (·.2) = [assign tg X.env] := by rfl) : PDS X (.Assign [tg] e pos) (sAsg te g) := ps_imp (L2.ps_asg he hg hs hw h1) fun D σ H h => asg_core h
theorem ps_set {i : Nat} {x : Str} {pos' : Pos} (hN : X.N.Nodup) (hi : X.N[i]? = some x) (hx : L2.Loc X.env.scope x) (he : PD X e te) (hs : swapsWith e (some (.Name x pos')) pos.line X.env = pure false := by rfl) (hf : X.fn x = true ∨ X.env.scope.names.lookup x = some .local := by first | exact .inl rfl | exact .inr rfl | assumption) :
    PDS X (.Assign [.Name x pos'] e pos) (sAsg te (gName i)) := ps_imp (L2.ps_set hN hi hx he hs hf) fun D σ H ⟨f, ρ, st, D', R, h, l⟩ =>
  ⟨f, ρ, st, _, R, h, fun y st1 v f1 H1 q e1 s1 r1 => l.nx _ st1 _ f1 H1 q e1 ((R.later e1 s1).put r1)⟩
theorem ps_par {i j : Nat} {x y : Str} {ts : TA} {px py pt : Pos} {kt k2 pt2} (hc : X.calm = true) (hN : X.N.Nodup) (hi : X.N[i]? = some x) (hj : X.N[j]? = some y) (hij : i ≠ j)
    (h0 : L2.PS X (.Assign [.Tuple [.Name x px, .Name y py] kt pt] (.Tuple [a, b] k2 pt2) pos) (L2.tPar i j (liftA X.K ts))) : PDS X (.Assign [.Tuple [.Name x px, .Name y py] kt pt] (.Tuple [a, b] k2 pt2) pos) (sPar i j ts) := ps_imp h0 fun D σ H ⟨f, ρ, st, D', R, h, l⟩ =>
  ⟨f, ρ, st, _, R, h, fun xs st1 vs f1 H1 q e1 s1 r1 => by
    obtain ⟨x, y, rfl, q⟩ := q
    obtain ⟨v, w, rfl, r2, r3⟩ := r1.inv2
    exact ⟨v, w, rfl, l.nx _ st1 _ f1 H1 q e1 (((R.later e1 s1).put r2).put r3)⟩⟩
theorem real_iadd : Real2 K (fun x y H Q => (∃ i j, x = .int i ∧ y = .int j ∧ Q (.int (i + j)) H) ∨ (∃ i j, x = .str i ∧ y = .str j ∧ i.length + j.length ≤ sizeLine ∧ Q (.str (i ++ j)) H)) iaddK := by
  intro f st H x y v w Q' Q s r1 r2 h l
  cases x <;> cases y <;> try (exact h.elim)
  · rw [RD.int] at r1 r2
    exact .inl ⟨_, _, r1, r2, l.now s h (RD.int.mpr rfl)⟩
  · rw [RD.str] at r1 r2
    exact .inr ⟨_, _, r1, r2, by rw [← szl_eq]; exact h.1, l.now s h.2 (RD.str.mpr rfl)⟩
theorem ip_add : L2.PIp X .Add (fun x y H Q => (∃ i j, x = .int i ∧ y = .int j ∧ Q (.int (i + j)) H) ∨ (∃ i j, x = .str i ∧ y = .str j ∧ i.length + j.length ≤ sizeLine ∧ Q (.str (i ++ j)) H)) :=
  fun pins s σ H x y v u Q I rx ry h => (L2.OpR.or (X := X) L2.iop_add L2.iop_add_str) pins s σ H x y v u Q I rx ry h
theorem ip_of {op : Operator} {r : L2.R2} (h : L2.OpR X (inplaceOp op) r) : L2.PIp X op r := fun pins s σ H x y v u Q I rx ry q => h pins s σ H x y v u Q I rx ry q
theorem ps_aug {i : Nat} {x : Str} {op : Operator} {r : L2.R2} {k : K2} {pos' : Pos} (hp : L2.PIp X op r) (hr : Real2 X.K r k) (hN : X.N.Nodup) (hi : X.N[i]? = some x) (hx : L2.Loc X.env.scope x) (he : PD X e te)
    (hf : X.fn x = true ∨ X.env.scope.names.lookup x = some .local := by first | exact .inl rfl | exact .inr rfl | assumption) : PDS X (.AugAssign (.Name x pos') op e pos) (sAug i k te) := ps_imp (L2.ps_aug hN hi hx he hp hf) fun D σ H ⟨f, ρ, st, D', R, h, l⟩ => by
  obtain ⟨d, h1, h⟩ := h
  obtain ⟨v, e, rv⟩ := R.env i d h1
  exact ⟨v, e, f, ρ, st, _, R, h, fun y st1 w f1 H1 q e1 s1 r1 => hr f1 st1 H1 d y v w _ _ s1 (rv.mono e1) r1 q fun z st2 u f2 H2 q2 e2 s2 r2 => l.nx _ st2 _ f2 H2 q2 (e1.trans e2) ((R.later (e1.trans e2) s2).put r2)⟩
/-- xs[i] op= e of a list -/
theorem get_list : L2.PGet X (L2.rIxL X.K) := by
  intro pins s σ H x y v u Q I rx ry h
  obtain ⟨p, xs, i, z, rfl, rfl, hq, he, q⟩ := h
  cases rx
  obtain ⟨t, rfl⟩ := ry
  obtain ⟨its, r, pl, hz⟩ := I.list hq
  obtain ⟨j, h1, h2, h3, h4, h5⟩ := L2.atI_get he
  obtain ⟨w, ew, rw'⟩ := r.get h2
  have hl := r.length
  have hn := L2.line63
  have fin : L2.EP X pins σ Q w s := ⟨z, H, I, rw', q⟩
  by_cases h0 : 0 ≤ i
  · have hj : i.toNat = j := by
      rw [seqIndex_of h0 h5] at h1
      exact Option.some.inj h1
    exact wpAny_getItem_list (x := w) pl.isList h0 (by omega) (by rw [hj]; simpa using ew) fin
  · have hj : (i + (its.toArray.size : Int)).toNat = j := by
      rw [seqIndex_neg (by omega) h4] at h1
      rw [List.size_toArray, ← hl]
      exact Option.some.inj h1
    exact wpAny_getItem_list_neg (x := w) pl.isList (by omega) (by rw [List.size_toArray] <;> omega) (by omega) (by rw [hj]; simpa using ew) fin
theorem real_ixL : Real2 K (L2.rIxL K) ixLK := fun f st H x y v w Q' Q s r1 r2 h l => by
  cases x <;> cases y <;> try (exact h.elim)
  rw [RD.ref] at r1
  rw [RD.int] at r2
  obtain ⟨a, e, rfl⟩ := r1
  obtain ⟨xs, d', h0, h1, h2⟩ := h
  obtain ⟨a', vs, k1, k2, d⟩ := s.rdA h0
  rw [e] at k1; cases k1
  obtain ⟨v, g1, g2⟩ := d.atD h1
  exact ⟨a, vs, _, v, rfl, r2, k2, g1, l.now s h2 g2⟩
theorem ps_augS {op : Operator} {r : L2.R2} {k : K2} (hp : L2.PIp X op r) (hr : Real2 X.K r k) (ho : PD X o to) (hi : PD X i ti) (he : PD X e te)
    (ha : ∀ ov iv new, augStore i ov iv new = (do holding [new, ov, iv] (setItem ov iv new); release [new, ov, iv] []; pure .next) := by intros; rfl) : PDS X (.AugAssign (.Subscript o i tpos) op e pos) (sAugL k to ti te) :=
  ps_imp (L2.ps_augS ho hi get_list he hp L2.set_list ha) fun D σ H ⟨f, ρ, st, D', R, h, l⟩ => ⟨f, ρ, st, _, R, h, fun x st1 v f1 H1 q1 e1 s1 r1 => ⟨f1, ρ, st1, _, R.later e1 s1, q1, fun y st2 w f2 H2 q2 e2 s2 r2 =>
    real_ixL f2 st2 H2 x y v w _ _ s2 (r1.mono e2) r2 q2 fun z st3 u f3 H3 q3 e3 s3 r3 => ⟨f3, ρ, st3, _, R.later ((e1.trans e2).trans e3) s3, q3, fun z' st4 u' f4 H4 q4 e4 s4 r4 =>
      hr f4 st4 H4 z z' u u' _ _ s4 (r3.mono e4) r4 q4 fun z5 st5 u5 f5 H5 q5 e5 s5 r5 =>
        real_set f5 st5 H5 x y z5 v w u5 _ _ s5 (r1.mono (((e2.trans e3).trans e4).trans e5)) (r2.mono ((e3.trans e4).trans e5)) r5 q5 fun st6 H6 q6 e6 s6 =>
          have ee := (((((e1.trans e2).trans e3).trans e4).trans e5).trans e6)
          l.nx ρ st6 σ f5 H6 q6 ee (R.later ee s6)⟩⟩⟩

/-! ### loops -/
theorem ps_for {tg iter : Expr} {wi : TI} {g : TG} {vs : List Nat} {tb : TS} (hp : PassesOwn (model X.prog X.w) X.A X.env X.xe) (hc : X.calm = true) (hi : PDI X tg iter wi) (hg : PDG X tg g vs) (hb : PDSs X ss tb)
    (hs : ∀ x, foldedSetIterable iter X.env x = pure x := by intro _; rfl) : PDS X (.For tg iter ss [] pos) (sFor wi g tb) :=
  ps_imp (L2.ps_for hp hc hi hg hb hs) fun D σ H ⟨f, ρ, st, D', R, h, l⟩ => ⟨f, ρ, st, _, R, h, fun I st1 J f1 H1 q1 e1 s1 rI => by
    refine ⟨fun i m σ2 H2 => m = I.items.length - i ∧ i ≤ I.items.length ∧ ∃ f2 ρ2 st2, Ext X.K f1 H1 f2 H2 ∧ Rel X.K f2 ρ2 st2 σ2 H2 ∧ forLoop I.guard g tb D' (I.items.drop i) ρ2 st2, ⟨_, rfl, Nat.zero_le _, f1, ρ, st1, .refl, R.later e1 s1, by simpa using q1⟩, ?_⟩
    rintro i m σ2 H2 ⟨rfl, hi, f2, ρ2, st2, e2, R2, q2⟩
    by_cases hlt : i < I.items.length
    · have hd : I.items.drop i = I.items[i] :: I.items.drop (i + 1) := by rw [List.drop_eq_getElem_cons hlt]
      rw [hd] at q2
      obtain ⟨gd, q2⟩ := q2
      refine .inr ⟨rI.go i f2 st2 H2 e2 R2.toRelS gd hlt, fun σ3 H3 => ∃ f3 ρ3 st3, Ext X.K f1 H1 f3 H3 ∧ Rel X.K f3 ρ3 st3 σ3 H3 ∧ forLoop I.guard g tb D' (I.items.drop (i + 1)) ρ3 st3, fun σ3 H3 ⟨f3, ρ3, st3, e3, R3, q3⟩ => ⟨I.items.length - (i + 1), by omega, rfl, hlt, f3, ρ3, st3, e3, R3, q3⟩, fun x H3 y => ?_⟩
      obtain ⟨e3, s3, r3⟩ := rI.yld i f2 st2 H2 I.items[i] x H3 e2 R2.toRelS gd (by simp [hlt]) y
      refine ⟨f2, ρ2, st2, I.items[i], _, R2.later e3 s3, r3, q2, fun ρ4 st4 σ4 f4 H4 q4 e4 R4 _ => ⟨f4, ρ4, st4, _, R4, q4, ?_⟩⟩
      have ee := (e1.trans (e2.trans (e3.trans e4)))
      have e1' := (e2.trans (e3.trans e4))
      exact ⟨fun ρ5 st5 σ5 f5 H5 q5 e5 R5 => ⟨f5, ρ5, st5, e1'.trans e5, R5, q5⟩, l.rt.later ee, fun ρ5 st5 σ5 f5 H5 q5 e5 R5 => l.nx ρ5 st5 σ5 f5 H5 q5 (ee.trans e5) R5, fun ρ5 st5 σ5 f5 H5 q5 e5 R5 => ⟨f5, ρ5, st5, e1'.trans e5, R5, q5⟩⟩
    · have e : i = I.items.length := by omega
      subst e
      rw [List.drop_length] at q2
      obtain ⟨gd, q2⟩ := q2
      exact .inl ⟨rI.stop f2 st2 H2 e2 R2.toRelS gd, l.nx ρ2 st2 σ2 f2 H2 q2 (e1.trans e2) R2⟩⟩
theorem ps_while {tb : TS} (hp : PassesOwn (model X.prog X.w) X.A X.env X.xe) (hc : PDT X c tC) (hb : PDSs X ss tb) : PDS X (.While c ss [] pos) (sWhile tC tb) :=
  ps_imp (L2.ps_while hp hc hb) fun D σ H ⟨f, ρ, st, D', R, h, l⟩ => by
    obtain ⟨n, h⟩ := h
    refine ⟨fun m σ2 H2 => ∃ f2 ρ2 st2, Ext X.K f H f2 H2 ∧ Rel X.K f2 ρ2 st2 σ2 H2 ∧ whileN tC tb D' m ρ2 st2, ⟨n, f, ρ, st, .refl, R, h⟩, ?_⟩
    rintro m σ2 H2 ⟨f2, ρ2, st2, e2, R2, q2⟩
    cases m with
    | zero => exact q2.elim
    | succ m =>
      refine ⟨f2, ρ2, st2, _, R2, q2, fun k st3 f3 H3 q3 e3 s3 => ?_⟩
      have ee := e2.trans e3
      cases k with
      | false => exact l.nx ρ2 st3 σ2 f3 H3 (q3.2 rfl) ee (R2.later e3 s3)
      | true =>
        refine ⟨fun σ4 H4 => ∃ f4 ρ4 st4, Ext X.K f H f4 H4 ∧ Rel X.K f4 ρ4 st4 σ4 H4 ∧ whileN tC tb D' m ρ4 st4, fun σ4 H4 q4 => ⟨m, Nat.lt_succ_self _, q4⟩, f3, ρ2, st3, _, R2.later e3 s3, q3.1 rfl, ?_⟩
        exact ⟨fun ρ5 st5 σ5 f5 H5 q5 e5 R5 => ⟨f5, ρ5, st5, ee.trans e5, R5, q5⟩, l.rt.later ee, fun ρ5 st5 σ5 f5 H5 q5 e5 R5 => l.nx ρ5 st5 σ5 f5 H5 q5 (ee.trans e5) R5, fun ρ5 st5 σ5 f5 H5 q5 e5 R5 => ⟨f5, ρ5, st5, ee.trans e5, R5, q5⟩⟩

/-! ### comprehensions -/
abbrev PDTs (X : L2.Cx) (es : List Expr) (t : TT) : Prop := L2.PTs X es (liftT X.K t)
theorem pts_imp {e : List Expr} {t t' : L2.TT} (h : L2.PTs X e t) (m : ∀ σ H Q, t' σ H Q → t σ H Q) : L2.PTs X e t' := ⟨fun pins s σ H Q I q => h.run pins s σ H Q I (m σ H Q q)⟩
theorem pts_nil : PDTs X [] tYes := pts_imp L2.pts_nil fun σ H Q ⟨f, ρ, st, Q', R, h, l⟩ => l true st f H h .refl R.toRelS
theorem pts_one {t : TT} (h : PDT X c t) : PDTs X [c] t := L2.pts_one h
theorem lc_core {wi : TI} {g : TG} {tt : TT} {te : TE} {vs ws : List Nat} {Q : L2.VK} (hws : ∀ j, j ∈ ws → j ∈ vs) (h : lift K (dLc wi g tt te vs) σ H Q) : L2.tLc (liftI K wi) (liftG K g ws) (liftT K tt) (lift K te) vs σ H Q := by
  obtain ⟨f, ρ, st, Q', R, h, l⟩ := h
  refine ⟨f, ρ, st, _, R, h, fun I st1 J f1 H1 q1 e1 s1 rI D hD => ?_⟩
  obtain ⟨s0, e0⟩ := s1.new (o := .lst []) (c := .lst []) hD ⟨[], L2.upd_same, RDs.nil.mpr rfl⟩
  have hn0 : (f1 ++ [D])[st1.length]? = some D := by rw [← s1.len]; simp
  refine ⟨fun i m H2 => m = I.items.length - i ∧ i ≤ I.items.length ∧ ∃ f2 st2 acc, Ext K (f1 ++ [D]) (L2.upd H1 D (.lst [])) f2 H2 ∧ RelS K f2 st2 H2 ∧ rdL st2 st1.length acc ∧ lcLoop I.guard g tt te (wipeE ρ vs) st1.length Q' (I.items.drop i) acc st2,
    ⟨_, rfl, Nat.zero_le _, f1 ++ [D], st1 ++ [.lst []], [], .refl, s0, by unfold rdL; simp, by simpa using q1⟩, ?_⟩
  rintro i m H2 ⟨rfl, hi, f2, st2, acc, e2, s2, hacc, q2⟩
  have eI : Ext K f1 H1 f2 H2 := e0.trans e2
  by_cases hlt : i < I.items.length
  · have hd : I.items.drop i = I.items[i] :: I.items.drop (i + 1) := by rw [List.drop_eq_getElem_cons hlt]
    rw [hd] at q2
    obtain ⟨gd, q2⟩ := q2
    refine .inr ⟨rI.go i f2 st2 H2 eI s2 gd hlt, fun H3 => ∃ f3 st3 acc', Ext K (f1 ++ [D]) (L2.upd H1 D (.lst [])) f3 H3 ∧ RelS K f3 st3 H3 ∧ rdL st3 st1.length acc' ∧ lcLoop I.guard g tt te (wipeE ρ vs) st1.length Q' (I.items.drop (i + 1)) acc' st3,
      fun H3 q3 => ⟨I.items.length - (i + 1), by omega, rfl, hlt, q3⟩, fun x H3 y => ?_⟩
    obtain ⟨e3, s3, r3⟩ := rI.yld i f2 st2 H2 I.items[i] x H3 eI s2 gd (by simp [hlt]) y
    have R3 : Rel K f2 (wipeE ρ vs) st2 (L2.wipe σ vs) H3 := (Rel.wipe R).later ((e1.trans eI).trans e3) s3
    refine ⟨f2, _, st2, I.items[i], _, R3, r3, q2, fun ρ4 st4 σ4 f4 H4 q4 e4 R4 o4 => ⟨Out.wipe ⟨o4.1, fun j hj => o4.2 j fun z => hj (hws j z)⟩, ?_⟩⟩
    refine ⟨f4, ρ4, st4, _, R4, q4, fun b st5 f5 H5 q5 e5 s5 => ?_⟩
    have e15 := e2.trans (e3.trans (e4.trans e5))
    cases b with
    | false =>
      obtain ⟨h1, h2⟩ := q5.2 rfl
      exact ⟨f5, st5, acc, e15, s5, h1, h2⟩
    | true =>
      refine ⟨f5, ρ4, st5, _, R4.later e5 s5, q5.1 rfl, fun y st6 v f6 H6 q6 e6 s6 r6 => ?_⟩
      obtain ⟨h1, h2, h3⟩ := q6
      have e16 := e15.trans e6
      obtain ⟨a', us, k1, k2, k3⟩ := s6.rdL h1
      rw [e16.at hn0] at k1; cases k1
      obtain ⟨s7, e7⟩ := s6.put (e16.at hn0) h1 k2 (k3.append (RDs.one r6))
      refine ⟨us, k2, by rw [k3.length, ← szl_eq]; exact h2, f6, _, acc ++ [y], e16.trans e7, s7, ?_, h3⟩
      have hl : st1.length < st6.length := (List.getElem?_eq_some_iff.mp h1).1
      unfold rdL
      rw [List.getElem?_set_self hl]
  · have e : i = I.items.length := by omega
    subst e
    rw [List.drop_length] at q2
    obtain ⟨gd, h1, h2⟩ := q2
    exact .inl ⟨rI.stop f2 st2 H2 eI s2 gd, l _ st2 _ f2 H2 h2 (e1.trans eI) s2 (RD.ref.mpr ⟨D, e2.at hn0, rfl⟩)⟩
theorem pd_lc {elt tg iter : Expr} {ifs : List Expr} {scope : Scope} {own : List (Str × Nat)} {wi : TI} {g : TG} {tt : TT} {te : TE} {ws : List Nat} (hc : X.calm = true) (hN : X.N.Nodup) (hi : PDI X tg iter wi) (ok : L2.BlkOk X.N X.env.scope scope own)
    (hg : ∀ (s : Shared) (H : Hp) (C : Addr) (cl : List (Str × Addr)) (fp : List Addr), PDG (X.blk s H scope (compEnvC scope cl C X.env) fp) tg g ws) (ht : ∀ (s : Shared) (H : Hp) (C : Addr) (cl : List (Str × Addr)) (fp : List Addr), PDTs (X.blk s H scope (compEnvC scope cl C X.env) fp) ifs tt)
    (he : ∀ (s : Shared) (H : Hp) (C : Addr) (cl : List (Str × Addr)) (fp : List Addr), PD (X.blk s H scope (compEnvC scope cl C X.env) fp) elt te) (hws : ∀ j, j ∈ ws → j ∈ own.map (·.2)) (hs : ∀ x, foldedSetIterable iter X.env x = pure x := by intro _; rfl) :
    PD X (.ListComp elt [⟨tg, iter, ifs, 0⟩] scope pos) (dLc wi g tt te (own.map (·.2))) :=
  pe_imp (L2.pe_lc hc hN hi ok hg ht he hs) fun σ H Q h => lc_core hws h
theorem ps_setLc {j : Nat} {y : Str} {py spos : Pos} {elt tg iter : Expr} {ifs : List Expr} {scope : Scope} {own : List (Str × Nat)} {wi : TI} {g : TG} {tt : TT} {te : TE} {ws : List Nat} (hc : X.calm = true) (hN : X.N.Nodup) (hy : X.N[j]? = some y) (hyl : X.env.scope.names.lookup y = some .local)
    (hsw : swapsWith (.ListComp elt [⟨tg, iter, ifs, 0⟩] scope pos) (some (.Name y py)) spos.line X.env = pure true) (hi : PDI X tg iter wi) (ok : L2.BlkOk X.N X.env.scope scope own)
    (hg : ∀ (s : Shared) (H : Hp) (C : Addr) (cl : List (Str × Addr)) (fp : List Addr), PDG (X.blk s H scope (compEnvC scope cl C X.env) fp) tg g ws) (ht : ∀ (s : Shared) (H : Hp) (C : Addr) (cl : List (Str × Addr)) (fp : List Addr), PDTs (X.blk s H scope (compEnvC scope cl C X.env) fp) ifs tt)
    (he : ∀ (s : Shared) (H : Hp) (C : Addr) (cl : List (Str × Addr)) (fp : List Addr), PD (X.blk s H scope (compEnvC scope cl C X.env) fp) elt te) (hws : ∀ j, j ∈ ws → j ∈ own.map (·.2)) (hs : ∀ x, foldedSetIterable iter X.env x = pure x := by intro _; rfl) :
    PDS X (.Assign [.Name y py] (.ListComp elt [⟨tg, iter, ifs, 0⟩] scope pos) spos) (sAsg (dLc wi g tt te (own.map (·.2))) (gName j)) :=
  ps_imp (L2.ps_setLc hc hN hy hyl hsw hi ok hg ht he hs) fun D σ H ⟨f, ρ, st, D', R, h, l⟩ =>
    lc_core (Q := fun x H1 => L2.gName j x σ H1 D.nx) hws ⟨f, ρ, st, _, R, h, fun x st1 v f1 H1 q e1 s1 r1 => l.nx _ st1 _ f1 H1 q e1 ((R.later e1 s1).put r1)⟩
end
end
end Pd
end PartPdSoundE

section PartPdSoundF
set_option Elab.async false
set_option linter.all false
set_option maxRecDepth 100000
set_option maxHeartbeats 1000000
/-! Pd over the hand layer: methods, isinstance, defs, the end. Own work. -/
namespace Pd
open PySem PySem.Spec
open PyProof.Rows (envOfC)
section
variable {X : L2.Cx} {K : Kf} {f f' : List Addr} {H H' : Hp} {st st' : Store} {ρ : Env} {σ : L2.St}
/-! ### methods -/
def RealM (K : Kf) (r : L2.V → List L2.V → Hp → L2.VK → Prop) (k : KM) : Prop := ∀ (f : List Addr) (st : Store) (H : Hp) (x : D) (xs : List D) (v : L2.V) (vs : List L2.V) (Q' : Pd.K) (Q : L2.VK), RelS K f st H → RD K f H x v → RDs K f H xs vs → k x xs st Q' → LQ K f H Q' Q → r v vs H Q
def RealTy (K : Kf) (T : String) (ty : D → Store → Prop) : Prop := ∀ (f : List Addr) (st : Store) (H : Hp) (x : D) (v : L2.V), RelS K f st H → RD K f H x v → ty x st → L2.tyV K T v H
section
variable {a b c e o i : Expr} {es : List Expr} {ta tb te to ti : TE} {pos apos : Pos} {name : Str} {T id : String}
theorem pd_m {r : L2.V → List L2.V → Hp → L2.VK → Prop} {k : KM} {ty : D → Store → Prop} {ts : TA} (hm : L2.MtR X id r) (hk : RealM X.K r k) (ht : RealTy X.K T ty) (pa : PlainAttrs T) (slot : Slot T name id) (hty : typeOf (.builtin id) = pure (.type "method_descriptor")) (ho : PD X o to) (ha : PDA X (e :: es) ts)
    (hbase : attributeBase o name X.env (eval o X.env) = eval o X.env := by rfl)
    (hfew : ((backTo pos (starEach (e :: es) X.env)).all (fun x => !x.1) && (backToKw pos (keywordEach [] X.env)).all (fun x => x.1.isSome)
      && decide ((e :: es).length + ([] : List Keyword).length + (if ([] : List Keyword).isEmpty then 0 else 1) < 30)) = true := by rfl)
    (hline : (apos.endLine == pos.line) = true := by rfl) (hs : starEach (e :: es) X.env = (false, eval e X.env) :: starEach es X.env := by rfl) (hplain : (backTo pos (starEach es X.env)).any (·.1) = false := by rfl) :
    PD X (.Call (.Attribute o name apos) (e :: es) [] pos) (dM ty k to ts) :=
  pe_imp (L2.pe_bm pa slot hty hm ho ha hbase hfew hline hs hplain) fun σ H Q ⟨f, ρ, st, Q', R, h, l⟩ => ⟨f, ρ, st, _, R, h, fun x st1 v f1 H1 q1 e1 s1 r1 => ⟨ht f1 st1 H1 x v s1 r1 q1.1, f1, ρ, st1, _, R.later e1 s1, q1.2, fun xs st2 vs f2 H2 q2 e2 s2 r2 => hk f2 st2 H2 x xs v vs Q' Q s2 (r1.mono e2) r2 q2 (l.later (e1.trans e2))⟩⟩
end
theorem ty_list : RealTy K "list" tyLst := fun f st H x v s r h => by
  cases x <;> try (exact h.elim)
  rw [RD.ref] at r
  obtain ⟨a, e, rfl⟩ := r
  obtain ⟨xs, h⟩ := h
  obtain ⟨a', vs, k1, k2, k3⟩ := s.rdL h
  rw [e] at k1; cases k1
  exact .inl ⟨rfl, vs, .of k2⟩
theorem ty_str : RealTy K "str" tyStr := fun f st H x v s r h => by
  cases x <;> try (exact h.elim)
  rw [RD.str] at r
  subst r
  rfl
theorem real_append : RealM K L2.rAppend appendM := fun f st H x xs v vs Q' Q s r1 r2 h l => by
  cases x <;> try (exact h.elim)
  match xs, h with
  | [], h => exact h.elim
  | _ :: _ :: _, h => exact h.elim
  | [y], h =>
    rw [RD.ref] at r1
    obtain ⟨a, e, rfl⟩ := r1
    obtain ⟨w, rfl, r3⟩ := r2.inv1
    obtain ⟨ys, h1, h2, h3⟩ := h
    obtain ⟨a', us, k1, k2, k3⟩ := s.rdL h1
    rw [e] at k1; cases k1
    obtain ⟨s', e'⟩ := s.put e h1 k2 (k3.append (RDs.one r3))
    exact ⟨a, us, w, rfl, rfl, k2, by rw [k3.length, ← szl_eq]; exact h2, l _ _ _ f _ h3 e' s' (RD.non.mpr rfl)⟩
theorem real_extend : RealM K L2.rExtend extendM := fun f st H x xs v vs Q' Q s r1 r2 h l => by
  cases x <;> try (exact h.elim)
  match xs, h with
  | [], h => exact h.elim
  | _ :: _ :: _, h => rename_i y _ _; cases y <;> exact h.elim
  | [.non], h => exact h.elim
  | [.bl _], h => exact h.elim
  | [.int _], h => exact h.elim
  | [.str _], h => exact h.elim
  | [.tup _], h => exact h.elim
  | [.ref m], h =>
    rw [RD.ref] at r1
    obtain ⟨a, e, rfl⟩ := r1
    obtain ⟨w, rfl, r3⟩ := r2.inv1
    rw [RD.ref] at r3
    obtain ⟨b, e2, rfl⟩ := r3
    obtain ⟨ys, zs, h1, h2, h3, h4, h5⟩ := h
    obtain ⟨a', us, k1, k2, k3⟩ := s.rdL h1
    obtain ⟨b', ws, j1, j2, j3⟩ := s.rdL h2
    rw [e] at k1; cases k1
    rw [e2] at j1; cases j1
    obtain ⟨s', e'⟩ := s.put e h1 k2 (k3.append j3)
    exact ⟨a, b, us, ws, rfl, rfl, k2, j2, by rw [k3.length, j3.length, ← szl_eq]; exact h4, l _ _ _ f _ h5 e' s' (RD.non.mpr rfl)⟩
theorem real_popAt : RealM K L2.rPopAt popM := fun f st H x xs v vs Q' Q s r1 r2 h l => by
  cases x <;> try (exact h.elim)
  match xs, h with
  | [], h => exact h.elim
  | _ :: _ :: _, h => rename_i y _ _; cases y <;> exact h.elim
  | [.non], h => exact h.elim
  | [.bl _], h => exact h.elim
  | [.ref _], h => exact h.elim
  | [.str _], h => exact h.elim
  | [.tup _], h => exact h.elim
  | [.int i], h =>
    rw [RD.ref] at r1
    obtain ⟨a, e, rfl⟩ := r1
    obtain ⟨w, rfl, r3⟩ := r2.inv1
    rw [RD.int] at r3
    subst r3
    obtain ⟨ys, d, h1, h2, h3, h4⟩ := h
    obtain ⟨a', us, k1, k2, k3⟩ := s.rdL h1
    rw [e] at k1; cases k1
    unfold atD at h3
    rw [if_pos h2.1] at h3
    have hl := (List.getElem?_eq_some_iff.mp h3).1
    obtain ⟨u, g1, g2⟩ := k3.get h3
    obtain ⟨s', e'⟩ := s.put e h1 k2 (k3.eraseIdx i.toNat)
    have hus := k3.length
    exact ⟨a, us, i, i.toNat, u, rfl, rfl, k2, by omega, by omega, seqIndex_of h2.1 (by omega), g1, l _ _ _ f _ h4 e' s' (g2.mono e')⟩
theorem real_index : RealM K (L2.rIndex K) indexM := fun f st H x xs v vs Q' Q s r1 r2 h l => by
  cases x <;> try (exact h.elim)
  match xs, h with
  | [], h => exact h.elim
  | _ :: _ :: _, h => exact h.elim
  | [y], h =>
    rw [RD.ref] at r1
    obtain ⟨a, e, rfl⟩ := r1
    obtain ⟨w, rfl, r3⟩ := r2.inv1
    obtain ⟨ys, j, z, h1, h2, h3, h4, h5, h6, h7⟩ := h
    obtain ⟨a', us, k1, k2, k3⟩ := s.rdA h1
    rw [e] at k1; cases k1
    obtain ⟨u, g1, g2⟩ := k3.get h4
    have fl : ∀ (m : Nat) (z : D), ys[m]? = some z → z.flat = true := fun m z hz => by
      rw [List.all_eq_true] at h3
      exact h3 z (List.mem_of_getElem? hz)
    refine ⟨a, us, w, j, u, rfl, rfl, k2, r3.flatV h2, k3.flatV h3, g1, by rw [g2.eqV r3 (fl j z h4) h2]; exact h5, fun m z' hm hz => ?_, l.now s h7 (RD.int.mpr rfl)⟩
    have hml : m < ys.length := by rw [← k3.length]; exact (List.getElem?_eq_some_iff.mp hz).1
    obtain ⟨u', g3, g4⟩ := k3.get (show ys[m]? = some ys[m] by simp [hml])
    rw [hz] at g3; cases g3
    rw [g4.eqV r3 (fl m _ (by simp [hml])) h2]
    exact h6 m _ hm (by simp [hml])

/-! ### the built-ins' values -/
theorem bt_int : bootBuiltins "int" = some (.type "int") := by decide +kernel
theorem bt_abs : bootBuiltins "abs" = some (.builtin "abs") := by decide +kernel
theorem bt_len : bootBuiltins "len" = some (.builtin "len") := by decide +kernel
theorem bt_min : bootBuiltins "min" = some (.builtin "min") := by decide +kernel
theorem bt_max : bootBuiltins "max" = some (.builtin "max") := by decide +kernel
theorem bt_list : bootBuiltins "list" = some (.type "list") := by decide +kernel
theorem bt_tuple : bootBuiltins "tuple" = some (.type "tuple") := by decide +kernel
theorem bt_sum : bootBuiltins "sum" = some (.builtin "sum") := by decide +kernel
theorem bt_all : bootBuiltins "all" = some (.builtin "all") := by decide +kernel
theorem bt_any : bootBuiltins "any" = some (.builtin "any") := by decide +kernel
theorem bt_sorted : bootBuiltins "sorted" = some (.builtin "sorted") := by decide +kernel
theorem bt_bool : bootBuiltins "bool" = some (.type "bool") := by decide +kernel
theorem bt_str : bootBuiltins "str" = some (.type "str") := by decide +kernel
theorem bt_repr : bootBuiltins "repr" = some (.builtin "repr") := by decide +kernel
theorem bt_set : bootBuiltins "set" = some (.type "set") := by decide +kernel
theorem bt_dict : bootBuiltins "dict" = some (.type "dict") := by decide +kernel

/-! ### isinstance -/
def tyN : Ty → String
  | .int => "int" | .bool => "bool" | .str => "str" | .tuple => "tuple" | .list => "list"
theorem SqT.ty {a : Addr} {vs : List L2.V} (h : L2.SqT K H a vs) : L2.TyX K H (.ref a) (.type "tuple") := by
  rcases h with (h | ⟨o, h⟩) | ⟨o, its, n, h1, h2, _⟩
  · exact .base (.tup h)
  · exact .fTuple h
  · exact .kTuple h1 h2
theorem isTy_kit {x : D} {v : L2.V} {t : Ty} {Q' : Bool → Prop} (s : RelS K f st H) (r : RD K f H x v) (h : isTy x st t Q') : ∃ (u : Value) (b : Bool), L2.TyX K H v u ∧ PySem.W.kitOne K u (.type (tyN t)) = some b ∧ Q' b := by
  cases x with
  | non => rw [RD.non] at r; subst r; exact ⟨_, false, .base .non, L2.kit_ty (by cases t <;> decide +kernel), h⟩
  | bl b => rw [RD.bl] at r; subst r; exact ⟨_, _, .base (.bl b), L2.kit_ty (by cases t <;> decide +kernel), h⟩
  | int i => rw [RD.int] at r; subst r; exact ⟨_, _, .base (.int i), L2.kit_ty (by cases t <;> decide +kernel), h⟩
  | str y => rw [RD.str] at r; subst r; exact ⟨_, _, .base (.str y), L2.kit_ty (by cases t <;> decide +kernel), h⟩
  | tup xs =>
    rw [RD.tup] at r
    obtain ⟨a, vs, rfl, q, d⟩ := r
    exact ⟨_, _, SqT.ty q, L2.kit_ty (by cases t <;> decide +kernel), h⟩
  | ref n =>
    rw [RD.ref] at r
    obtain ⟨a, e, rfl⟩ := r
    obtain ⟨xs, h1, h2⟩ := h
    obtain ⟨a', vs, k1, k2, k3⟩ := s.rdL h1
    rw [e] at k1; cases k1
    exact ⟨_, _, .base (.lst k2), L2.kit_ty (by cases t <;> decide +kernel), h2⟩
theorem pd_isi {a : Expr} {ta : TE} {p pos q : Pos} {T : Str} (t : Ty) (hg : L2.Gl X "isinstance") (hm : X.mg "isinstance" = none) (hT : T = Str.ofString (tyN t)) (hgT : L2.Gl X T) (hmT : X.mg T = none) (hv : bootBuiltins T = some (.type (tyN t))) (ha : PD X a ta)
    (hs : starEach [a, .Name T q] X.env = (false, eval a X.env) :: starEach [.Name T q] X.env := by rfl) : PD X (.Call (.Name "isinstance" p) [a, .Name T q] [] pos) (dIsi t ta) := by
  have hT1 : T ≠ "__name__" := by rw [hT]; cases t <;> decide
  have hT2 : (T == ("__debug__" : Str)) = false := by rw [hT]; cases t <;> decide
  have pT : L2.PE X (.Name T q) (L2.tC (.ty (tyN t))) := L2.pe_bltn hgT hmT hv rfl hT1 hT2
  refine pe_imp (L2.pe_callB L2.call_isi hg hm (by decide +kernel) (L2.pa_cons ha (L2.pa_cons pT L2.pa_nil rfl) hs) (by decide) (by decide) hs rfl) fun σ H Q ⟨f, ρ, st, Q', R, h, l⟩ => ⟨f, ρ, st, _, R, h, fun x st1 v f1 H1 q1 e1 s1 r1 => ?_⟩
  obtain ⟨u, b, h1, h2, h3⟩ := isTy_kit s1 r1 q1
  exact ⟨v, .ty (tyN t), u, _, b, rfl, .ty _, h1, h2, l _ st1 _ f1 H1 h3 e1 s1 (RD.bl.mpr rfl)⟩

/-! ### defs -/
theorem start_rel {n : Nat} {ds : List D} {vs : List L2.V} {N : List Str} (s : RelS K f st H) (r : RDs K f H ds vs) (hn : n = N.length) : Rel K f (start n ds) st (L2.start N vs) H := by
  have hl := r.length
  have lk_app : ∀ (ds : List D) (m i : Nat) (d : D), lk (ds.map some ++ List.replicate m none) i = some d → ds[i]? = some d := by
    intro ds
    induction ds with
    | nil =>
      intro m
      induction m with
      | zero => intro i d h; simp [lk] at h
      | succ m ih =>
        intro i d h
        cases i with
        | zero => simp [lk, List.replicate_succ] at h
        | succ i =>
          have := ih i d (by simpa [lk, List.replicate_succ] using h)
          simp at this
    | cons x ds ih =>
      intro m i d h
      cases i with
      | zero => simpa [lk] using h
      | succ i =>
        have := ih m i d (by simpa [lk] using h)
        simpa using this
  refine ⟨s, fun i d h => ?_, ?_⟩
  · have hd := lk_app ds _ i d h
    obtain ⟨v, h1, h2⟩ := r.get hd
    refine ⟨v, ?_, h2⟩
    unfold L2.start
    have hi := (List.getElem?_eq_some_iff.mp h1).1
    rw [List.getElem?_append_left (by simpa using hi), List.getElem?_map, h1]
    rfl
  · unfold start L2.start
    simp only [List.length_append, List.length_map, List.length_replicate]
    omega
/-- the def's own facts, and that its body keeps what is run -/
structure Step (P : Program) (w : World) (K : Kf) (mg : Str → Option Value) (base : Heap) (names : List String) (x : String) (d : Def) : Prop where
  ex : ∃ (fa : Addr) (fd : FuncData) (ps : List Str), mg x = some (.ref fa) ∧ PySem.W.keepIn K (.ref fa) = true ∧ L2.Binds K fd ps [] ∧ d.ps = ps.length ∧
    ∀ (k : Nat) (c : Cl), (∀ y ∈ names, Own P w K mg base k (Str.ofString y) (c y)) → L2.FnOk P w K mg base L2.CX0 (k + 1) fa fd ps (liftF K ps.length (d.run c))
variable {P : Program} {w : World} {mg : Str → Option Value} {base : Heap} {names : List String}
theorem fn_ok {qual x : Str} {sm : Stmt} {fa : Addr} {fd : FuncData} {N ps : List Str} {k : Nat} {d : Def} {c : Cl} (F : L2.Fun K x qual sm fa fd) (S : L2.FnScope N ps (L2.defScope sm)) (hn : d.ns = N.length) (hp : d.ps = ps.length)
    (der : ∀ (cdv : Value) (A : Around) (outer : List PySem.Env) (s : Shared) (H : Hp) (E : L2.XK), L2.Room k (A.deeper (envOfC qual (L2.defScope sm) s.heap.objs.size fa cdv)) →
      PDSs (L2.cxOf L2.CX0 P w K mg base N qual (L2.defScope sm) fa cdv A outer s H E).nox (L2.defBody sm) (d.body c)) : L2.FnOk P w K mg base L2.CX0 (k + 1) fa fd ps (liftF K ps.length (d.run c)) := by
  refine F.ok S (fun vs H Q E h => h.1) (fun cdv A outer s H vs Q E hr h => ⟨_, der cdv A outer s H E hr, ?_⟩)
  obtain ⟨_, f, st, ds, Q', s', r, ⟨hl, h⟩, l⟩ := h
  refine ⟨f, start d.ns ds, st, _, start_rel s' r hn, h, ?_⟩
  exact ⟨fun ρ1 st1 σ1 f1 H1 q e r1 => l .non st1 .non f1 H1 q e r1.toRelS (RD.non.mpr rfl), l, fun _ _ _ _ _ q _ _ => q, fun _ _ _ _ _ q _ _ => q⟩
theorem fn_zero {fa : Addr} {fd : FuncData} {ps : List Str} {n : Nat} : L2.FnOk P w K mg base L2.CX0 0 fa fd ps (liftF K n fun _ _ _ => False) :=
  ⟨fun vs H Q E h => by obtain ⟨_, _, _, _, _, _, _, h, _⟩ := h; exact h.elim, fun A outer s H args us vs Q E hr e0 hb hv h => by obtain ⟨_, _, _, _, _, _, _, h, _⟩ := h; exact h.elim⟩
theorem all_own {prog : String → Option Def} (hs : ∀ x ∈ names, ∃ d, prog x = some d ∧ Step P w K mg base names x d) : ∀ (k : Nat) (x : String), x ∈ names → Own P w K mg base k (Str.ofString x) (callN prog k x)
  | 0, x, hx => by
    obtain ⟨d, h1, fa, fd, ps, h2, h3, h4, h5, h6⟩ := hs x hx
    exact ⟨fa, fd, ps, fn_zero, h2, h3, h4, fun _ _ _ h => h.elim⟩
  | k + 1, x, hx => by
    obtain ⟨d, h1, fa, fd, ps, h2, h3, h4, h5, h6⟩ := hs x hx
    refine ⟨fa, fd, ps, (h6 k _ fun y hy => all_own hs k y hy).imp fun vs H Q E ⟨g0, f, st, ds, Q', s, r, ⟨d', e', g⟩, l⟩ => ?_, h2, h3, h4, fun ds st Q ⟨d', e', g⟩ => ?_⟩
    · rw [h1] at e'; cases e'
      exact ⟨g0, f, st, ds, Q', s, r, g, l⟩
    · rw [h1] at e'; cases e'
      exact g.1.trans h5
/-- the law's call, from the data-level statement -/
theorem law_sp {c : List D → Store → Pd.K → Prop} {H : Hp} {a : Addr} {ns : List Int} (h : c [.ref 0] [.frz (ns.map D.int)] fun d _ => d = .bl true) (hO : L2.Only H) (hS : L2.SqL K H a (ns.map L2.V.int)) : liftF K 1 c [.ref a] H (fun v _ => v = .bl true) fun _ _ _ => False := by
  refine ⟨rfl, [a], [.frz (ns.map D.int)], [.ref 0], _, ⟨rfl, fun n m c c' b h1 h2 m1 m2 h3 h4 => ?_, fun n c' b h1 h2 => ?_⟩, RDs.one (RD.ref.mpr ⟨a, rfl, rfl⟩), h, fun d st' v f' H' q e s r => ?_⟩
  · match n, h1 with
    | 0, h1 => simp at h1; subst h1; cases m1
    | n + 1, h1 => simp at h1
  · match n, h1, h2 with
    | 0, h1, h2 =>
      simp at h1 h2
      subst h1; subst h2
      refine ⟨ns.map L2.V.int, ?_, RDs.of_ints ns⟩
      rcases hS with (hS | ⟨o, hS⟩) | hS
      · rcases hO a with q | ⟨o, xs, q⟩ <;> rw [q] at hS <;> cases hS
      · exact .inl ⟨o, hS⟩
      · exact .inr hS
    | n + 1, h1, _ => simp at h1
  · subst q
    rw [RD.bl] at r
    exact r
end
end Pd
end PartPdSoundF

section PartPdTac
set_option Elab.async false
set_option linter.all false
set_option maxRecDepth 100000
/-! Pd: how a data-level statement is walked. Own work. -/
namespace Pd
open PySem

/-- one step of a reading: it suffices to show P' -/
class Red (P : Prop) (P' : outParam Prop) : Prop where
  red : P' → P
/-- look-up and store of slots, by the environment's shape -/
class Lk (σ : Env) (i : Nat) (d : outParam D) : Prop where
  eq : lk σ i = some d
class SetE (σ : Env) (i : Nat) (d : Option D) (σ' : outParam Env) : Prop where
  eq : σ.set i d = σ'
instance : Lk (some d :: σ) 0 d := ⟨rfl⟩
instance [h : Lk σ n d] : Lk (x :: σ) (n + 1) d := ⟨h.eq⟩
instance : SetE (x :: σ) 0 d (d :: σ) := ⟨rfl⟩
instance [h : SetE σ n d σ'] : SetE (x :: σ) (n + 1) d (x :: σ') := ⟨by rw [List.set_cons_succ, h.eq]⟩
class WipeE (σ : Env) (vs : List Nat) (σ' : outParam Env) : Prop where
  eq : wipeE σ vs = σ'
instance : WipeE σ [] σ := ⟨rfl⟩
instance [h : WipeE σ vs σ'] [h2 : SetE σ' v none σ''] : WipeE σ (v :: vs) σ'' := ⟨by show (wipeE σ vs).set v none = σ''; rw [h.eq, h2.eq]⟩

section
variable {σ σ' : Env} {st st' : Store} {Q : K} {d x y z : D} {ta tb tc te to ti : TE} {T U : TT} {Ar Br : TA} {D0 : Ends} {S S' : TS} {xs ys : List D}
-- statements
instance : Red (sSeq S S' D0 σ st) (S { D0 with nx := fun σ' st' => Nxt (S' D0 σ' st') } σ st) := ⟨id⟩
instance : Red (sNext D0 σ st) (D0.nx σ st) := ⟨id⟩
instance : Red (sBreak D0 σ st) (D0.bk σ st) := ⟨id⟩
instance : Red (sCont D0 σ st) (D0.ct σ st) := ⟨id⟩
instance : Red (sExpr te D0 σ st) (te σ st fun _ st1 => D0.nx σ st1) := ⟨id⟩
instance : Red (sRet te D0 σ st) (te σ st D0.rt) := ⟨id⟩
instance : Red (sRetN D0 σ st) (D0.rt .non st) := ⟨id⟩
instance : Red (sIf T S S' D0 σ st) (T σ st fun b st1 => (b = true → S D0 σ st1) ∧ (b = false → S' D0 σ st1)) := ⟨id⟩
instance {g : TG} : Red (sAsg te g D0 σ st) (te σ st fun x st1 => g x σ st1 D0.nx) := ⟨id⟩
instance : Red (sPar i j Ar D0 σ st) (Ar σ st fun xs st1 => ∃ x y, xs = [x, y] ∧ D0.nx ((σ.set i (some x)).set j (some y)) st1) := ⟨id⟩
instance [h : Lk σ i x] : Red (sAug i k te D0 σ st) (te σ st fun y st1 => k x y st1 fun z st2 => gName i z σ st2 D0.nx) := ⟨fun p => ⟨x, h.eq, p⟩⟩
instance : Red (sAugL k to ti te D0 σ st) (to σ st fun o st1 => ti σ st1 fun i st2 => ixLK o i st2 fun x st3 => te σ st3 fun y st4 => k x y st4 fun z st5 => setK o i z st5 fun st6 => D0.nx σ st6) := ⟨id⟩
instance {i : TI} {g : TG} : Red (sFor i g S D0 σ st) (i σ st fun I st1 => forLoop I.guard g S D0 I.items σ st1) := ⟨id⟩
-- targets
instance {q : Env → Store → Prop} [h : SetE σ i (some d) σ'] : Red (gName i d σ st q) (q σ' st) := ⟨fun p => by show q (σ.set i (some d)) st; rw [h.eq]; exact p⟩
instance {q : Env → Store → Prop} : Red (gSub to ti d σ st q) (to σ st fun o st1 => ti σ st1 fun i st2 => setK o i d st2 fun st3 => q σ st3) := ⟨id⟩
instance {q : Env → Store → Prop} {gs : TGs} : Red (gTup gs n (.tup xs) σ st q) (xs.length = n ∧ gs xs σ st q) := ⟨fun p => ⟨xs, rfl, p⟩⟩
instance {q : Env → Store → Prop} : Red (gsNil [] σ st q) (q σ st) := ⟨fun p => ⟨rfl, p⟩⟩
instance {q : Env → Store → Prop} {g : TG} {gs : TGs} : Red (gsCons g gs (d :: xs) σ st q) (g d σ st fun σ1 st1 => gs xs σ1 st1 q) := ⟨fun p => ⟨d, xs, rfl, p⟩⟩
-- expressions
instance : Red (dC d σ st Q) (Q d st) := ⟨id⟩
instance [h : Lk σ i d] : Red (dVar i σ st Q) (Q d st) := ⟨fun p => ⟨d, h.eq, p⟩⟩
instance : Red (dOp k ta tb σ st Q) (ta σ st fun x st1 => tb σ st1 fun y st2 => k x y st2 Q) := ⟨id⟩
instance : Red (dUn k ta σ st Q) (ta σ st fun x st1 => k x st1 Q) := ⟨id⟩
instance : Red (dCmp k ta tb σ st Q) (ta σ st fun x st1 => tb σ st1 fun y st2 => k x y st2 fun b => Q (.bl b) st2) := ⟨id⟩
instance : Red (dChain k k' ta tb tc σ st Q) (ta σ st fun x st1 => tb σ st1 fun y st2 => k x y st2 fun b => (b = true → tc σ st2 fun z st3 => k' y z st3 fun b' => Q (.bl b') st3) ∧ (b = false → Q (.bl false) st2)) := ⟨id⟩
instance : Red (dAndT ta tb σ st Q) (ta σ st fun x st1 => truK x st1 fun c => (c = true → tb σ st1 Q) ∧ (c = false → Q x st1)) := ⟨id⟩
instance : Red (dOrT ta tb σ st Q) (ta σ st fun x st1 => truK x st1 fun c => (c = true → Q x st1) ∧ (c = false → tb σ st1 Q)) := ⟨id⟩
instance : Red (dNotT ta σ st Q) (ta σ st fun x st1 => truK x st1 fun c => Q (.bl (!c)) st1) := ⟨id⟩
instance : Red (dIf T ta tb σ st Q) (T σ st fun k st1 => (k = true → ta σ st1 Q) ∧ (k = false → tb σ st1 Q)) := ⟨id⟩
instance : Red (dSl te tl th σ st Q) (te σ st fun x st1 => tl σ st1 fun lo st2 => th σ st2 fun hi st3 => slK x lo hi st3 Q) := ⟨id⟩
instance {q : Option Int → Store → Prop} : Red (oNone σ st q) (q none st) := ⟨id⟩
instance {q : Option Int → Store → Prop} : Red (oSome te σ st q) (te σ st fun x st1 => ∃ i, x = .int i ∧ q (some i) st1) := ⟨id⟩
instance {q : List D → Store → Prop} : Red (aNil σ st q) (q [] st) := ⟨id⟩
instance {q : List D → Store → Prop} : Red (aCons te Ar σ st q) (te σ st fun x st1 => Ar σ st1 fun xs st2 => q (x :: xs) st2) := ⟨id⟩
instance : Red (dTup Ar σ st Q) (Ar σ st fun xs st1 => xs.length ≤ szl ∧ Q (.tup xs) st1) := ⟨id⟩
instance : Red (dLst Ar σ st Q) (Ar σ st fun xs st1 => xs.length ≤ szl ∧ Q (.ref st1.length) (st1 ++ [.lst xs])) := ⟨id⟩
instance : Red (dCall c f Ar σ st Q) (Ar σ st fun xs st1 => c f xs st1 Q) := ⟨id⟩
instance : Red (dB k Ar σ st Q) (Ar σ st fun xs st1 => k xs st1 Q) := ⟨id⟩
instance : Red (dM ty k to Ar σ st Q) (to σ st fun o st1 => ty o st1 ∧ Ar σ st1 fun xs st2 => k o xs st2 Q) := ⟨id⟩
instance : Red (dIsi t te σ st Q) (te σ st fun x st1 => isTy x st1 t fun b => Q (.bl b) st1) := ⟨id⟩
instance {i : TI} {g : TG} [h : WipeE σ vs σ'] : Red (dLc i g T te vs σ st Q) (i σ st fun I st1 => lcLoop I.guard g T te σ' st1.length Q I.items [] (st1 ++ [.lst []])) := ⟨fun p => by unfold dLc; rw [h.eq]; exact p⟩
-- tests
instance {q : Bool → Store → Prop} : Red (tTru te σ st q) (te σ st fun x st1 => truK x st1 fun b => q b st1) := ⟨id⟩
instance {q : Bool → Store → Prop} : Red (tAnd T U σ st q) (T σ st fun c st1 => (c = true → U σ st1 q) ∧ (c = false → q false st1)) := ⟨id⟩
instance {q : Bool → Store → Prop} : Red (tOr T U σ st q) (T σ st fun c st1 => (c = true → q true st1) ∧ (c = false → U σ st1 q)) := ⟨id⟩
instance {q : Bool → Store → Prop} : Red (tNot T σ st q) (T σ st fun c st1 => q (!c) st1) := ⟨id⟩
instance {q : Bool → Store → Prop} : Red (tYes σ st q) (q true st) := ⟨id⟩
-- iterables
instance {R : Iter → Store → Prop} : Red (iSeq te σ st R) (te σ st fun x st1 => itK x st1 R) := ⟨id⟩
instance {R : Iter → Store → Prop} : Red (iR1 te σ st R) (te σ st fun x st1 => ∃ j, x = .int j ∧ -(2 ^ 62) ≤ j ∧ j < 2 ^ 62 ∧ R ⟨rng 0 j.toNat, fun _ => True⟩ st1) := ⟨id⟩
instance {R : Iter → Store → Prop} : Red (iR2 ta tb σ st R) (ta σ st fun x st1 => tb σ st1 fun y st2 => ∃ i j, x = .int i ∧ y = .int j ∧ (-(2 ^ 62) ≤ i ∧ i < 2 ^ 62 ∧ -(2 ^ 62) ≤ j ∧ j < 2 ^ 62) ∧ R ⟨rng i (j - i).toNat, fun _ => True⟩ st2) := ⟨id⟩
instance {R : Iter → Store → Prop} : Red (iZip2 ta tb σ st R) (ta σ st fun x st1 => tb σ st1 fun y st2 => zipK x y st2 R) := ⟨id⟩
instance {R : Iter → Store → Prop} : Red (itK (.tup xs) st R) (R ⟨xs, fun _ => True⟩ st) := ⟨id⟩
instance {R : Iter → Store → Prop} : Red (zipK (.tup xs) (.tup ys) st R) (R ⟨zipD xs ys, fun _ => True⟩ st) := ⟨id⟩
-- values
section
variable {a b : Int} {u v : Str} {p q : Bool}
instance : Red (addK (.int a) (.int b) st Q) (Q (.int (a + b)) st) := ⟨id⟩
instance : Red (addK (.tup xs) (.tup ys) st Q) (xs.length + ys.length ≤ szl ∧ Q (.tup (xs ++ ys)) st) := ⟨id⟩
instance : Red (addK (.str u) (.str v) st Q) (u.length + v.length ≤ szl ∧ Q (.str (u ++ v)) st) := ⟨id⟩
instance : Red (iaddK (.int a) (.int b) st Q) (Q (.int (a + b)) st) := ⟨id⟩
instance : Red (subK (.int a) (.int b) st Q) (Q (.int (a - b)) st) := ⟨id⟩
instance : Red (mulK (.int a) (.int b) st Q) (cMul a b ∧ Q (.int (a * b)) st) := ⟨id⟩
instance : Red (fdivK (.int a) (.int b) st Q) ((0 < b ∧ b < 1073741824) ∧ Q (.int (a / b)) st) := ⟨id⟩
instance : Red (modK (.int a) (.int b) st Q) (0 < b ∧ Q (.int (a % b)) st) := ⟨id⟩
instance : Red (powK (.int a) (.int b) st Q) (cPow a b ∧ Q (.int (a ^ b.toNat)) st) := ⟨id⟩
instance : Red (shlK (.int a) (.int b) st Q) (cPow a b ∧ Q (.int (a * 2 ^ b.toNat)) st) := ⟨id⟩
instance : Red (shrK (.int a) (.int b) st Q) (0 ≤ b ∧ Q (.int (a / 2 ^ b.toNat)) st) := ⟨id⟩
instance : Red (andK (.int a) (.int b) st Q) (Q (.int (Builtin.bitAnd a b)) st) := ⟨id⟩
instance : Red (orK (.int a) (.int b) st Q) (Q (.int (Builtin.bitOr a b)) st) := ⟨id⟩
instance : Red (xorK (.int a) (.int b) st Q) (Q (.int (Builtin.bitXor a b)) st) := ⟨id⟩
instance : Red (negK (.int a) st Q) (Q (.int (-a)) st) := ⟨id⟩
instance : Red (invK (.int a) st Q) (Q (.int (Builtin.bitNot a)) st) := ⟨id⟩
instance {r : Bool → Prop} : Red (ltC (.int a) (.int b) st r) (r (decide (a < b))) := ⟨id⟩
instance {r : Bool → Prop} : Red (leC (.int a) (.int b) st r) (r (decide (a ≤ b))) := ⟨id⟩
instance {r : Bool → Prop} : Red (gtC (.int a) (.int b) st r) (r (decide (b < a))) := ⟨id⟩
instance {r : Bool → Prop} : Red (geC (.int a) (.int b) st r) (r (decide (b ≤ a))) := ⟨id⟩
theorem eq_ii {r : Bool → Prop} (h : r (decide (a = b))) : eqC (.int a) (.int b) st r := by
  have e : D.eqb (.int a) (.int b) = decide (a = b) := by
    simp only [D.eqb]
    by_cases e : a = b <;> simp [e]
  refine ⟨by simp [D.okd], by simp [D.okd], ?_⟩
  rw [e]; exact h
theorem eq_ss {r : Bool → Prop} (h : okS u = true ∧ okS v = true ∧ r (decide (u = v))) : eqC (.str u) (.str v) st r := by
  refine ⟨by simpa [D.okd] using h.1, by simpa [D.okd] using h.2.1, ?_⟩
  simpa [D.eqb] using h.2.2
instance {r : Bool → Prop} : Red (eqC (.int a) (.int b) st r) (r (decide (a = b))) := ⟨eq_ii⟩
instance {r : Bool → Prop} : Red (neC (.int a) (.int b) st r) (r (!decide (a = b))) := ⟨fun h => eq_ii (r := fun b => r (!b)) h⟩
instance {r : Bool → Prop} : Red (eqC (.str u) (.str v) st r) (okS u = true ∧ okS v = true ∧ r (decide (u = v))) := ⟨eq_ss⟩
instance {r : Bool → Prop} : Red (neC (.str u) (.str v) st r) (okS u = true ∧ okS v = true ∧ r (!decide (u = v))) := ⟨fun h => eq_ss (r := fun b => r (!b)) h⟩
instance {r : Bool → Prop} : Red (isC x .non st r) (r (isNon x)) := ⟨fun h => by cases x <;> exact h⟩
instance {r : Bool → Prop} : Red (isntC x .non st r) (r (!isNon x)) := ⟨fun h => by cases x <;> exact h⟩
instance {r : Bool → Prop} : Red (truK (.bl p) st r) (r p) := ⟨id⟩
instance {r : Bool → Prop} : Red (truK (.int a) st r) (r (a != 0)) := ⟨id⟩
instance {r : Bool → Prop} : Red (truK .non st r) (r false) := ⟨id⟩
instance {r : Bool → Prop} : Red (truK (.tup xs) st r) (r (!xs.isEmpty)) := ⟨id⟩
instance : Red (ixK (.tup xs) (.int a) st Q) (∃ d, atD xs a = some d ∧ Q d st) := ⟨id⟩
instance : Red (slK (.tup xs) lo hi st Q) (Q (.tup (cutD xs lo hi)) st) := ⟨id⟩
instance : Red (intB [.int a] st Q) (Q (.int a) st) := ⟨id⟩
instance : Red (intB [.bl p] st Q) (Q (.int (b2i p)) st) := ⟨id⟩
instance : Red (absB [.int a] st Q) (Q (.int (if a < 0 then -a else a)) st) := ⟨id⟩
instance : Red (lenB [.tup xs] st Q) (Q (.int xs.length) st) := ⟨id⟩
instance : Red (min2B [.int a, .int b] st Q) (Q (.int (if b < a then b else a)) st) := ⟨id⟩
instance : Red (max2B [.int a, .int b] st Q) (Q (.int (if b > a then b else a)) st) := ⟨id⟩
instance : Red (listB [.tup xs] st Q) (Q (.ref st.length) (st ++ [.lst xs])) := ⟨id⟩
instance : Red (tupleB [.tup xs] st Q) (Q (.tup xs) st) := ⟨id⟩
instance {r : Bool → Prop} : Red (isTy (.int a) st t r) (r (decide (t = .int))) := ⟨id⟩
instance {r : Bool → Prop} : Red (isTy (.bl p) st t r) (r (decide (t = .bool) || decide (t = .int))) := ⟨id⟩
instance {r : Bool → Prop} : Red (isTy (.tup xs) st t r) (r (decide (t = .tuple))) := ⟨id⟩
instance {r : Bool → Prop} : Red (isTy .non st t r) (r false) := ⟨id⟩
instance {P : Int → Prop} : Red (∃ i, D.int a = D.int i ∧ P i) (P a) := ⟨fun h => ⟨a, rfl, h⟩⟩
instance {P : Int → Int → Prop} : Red (∃ i j, D.int a = D.int i ∧ D.int b = D.int j ∧ P i j) (P a b) := ⟨fun h => ⟨a, b, rfl, rfl, h⟩⟩
-- known ways
instance {A B : Prop} : Red ((true = true → A) ∧ (true = false → B)) A := ⟨fun h => ⟨fun _ => h, fun e => nomatch e⟩⟩
instance {A B : Prop} : Red ((false = true → A) ∧ (false = false → B)) B := ⟨fun h => ⟨fun e => (nomatch e), fun _ => h⟩⟩
end
end

/-! lemmas for what is open -/
theorem way {b : Bool} {A B : Prop} (h1 : b = true → A) (h2 : b = false → B) : (b = true → A) ∧ (b = false → B) := ⟨h1, h2⟩
theorem wayT {b : Bool} {A B : Prop} (h : b = true) (h1 : A) : (b = true → A) ∧ (b = false → B) := ⟨fun _ => h1, fun e => by rw [h] at e; cases e⟩
theorem wayF {b : Bool} {A B : Prop} (h : b = false) (h1 : B) : (b = true → A) ∧ (b = false → B) := ⟨fun e => (by rw [h] at e; cases e), fun _ => h1⟩
/-- where ways meet: J holds there -/
theorem seq_cut {S S' : TS} {D0 : Ends} {σ : Env} {st : Store} (J : Env → Store → Prop) (h : ∀ N : Env → Store → Prop, (∀ σ st, J σ st → N σ st) → S { D0 with nx := N } σ st) (hJ : ∀ σ st, J σ st → S' D0 σ st) : sSeq S S' D0 σ st := h _ fun σ st j => ⟨hJ σ st j⟩
class StartE (n : Nat) (ds : List D) (σ : outParam Env) : Prop where
  eq : start n ds = σ
instance : StartE 0 [] [] := ⟨rfl⟩
instance [h : StartE n [] σ] : StartE (n + 1) [] (none :: σ) := ⟨by rw [← h.eq]; unfold start; simp [List.replicate_succ]⟩
instance [h : StartE n ds σ] : StartE (n + 1) (d :: ds) (some d :: σ) := ⟨by rw [← h.eq]; unfold start; simp⟩
/-- a call of a def of the program -/
theorem call_intro {prog : String → Option Def} {k : Nat} {f : String} {ds : List D} {st : Store} {Q : K} {ps ns : Nat} {body : Cl → TS} {σ : Env} (h : prog f = some ⟨ps, ns, body⟩) (hl : ds.length = ps) [hσ : StartE ns ds σ] (hb : body (callN prog k) { nx := fun _ st' => Q .non st', rt := Q } σ st) : callN prog (k + 1) f ds st Q :=
  ⟨_, h, hl, by rw [hσ.eq]; exact hb⟩

/-! ### loops -/
/-- a for by an invariant over the items gone through; N: what the body is to reach -/
theorem for_inv {gd : Store → Prop} {g : TG} {tb : TS} {D0 : Ends} (Pv : List D → Env → Store → Prop) {items : List D} 
    (hs : ∀ pre x post σ st, items = pre ++ x :: post → Pv pre σ st → ∀ N : Env → Store → Prop, (∀ σ st, Pv (pre ++ [x]) σ st → N σ st) → gd st ∧ g x σ st fun σ2 st2 => tb { D0 with nx := N, ct := N, bk := D0.nx } σ2 st2)
    (hd : ∀ σ st, Pv items σ st → gd st ∧ D0.nx σ st) : ∀ (todo pre : List D) {σ : Env} {st : Store}, items = pre ++ todo → Pv pre σ st → forLoop gd g tb D0 todo σ st
  | [], pre, σ, st, e, h => by
    rw [List.append_nil] at e
    subst e
    exact hd σ st h
  | x :: post, pre, σ, st, e, h => hs pre x post σ st e h _ fun σ st h' => for_inv Pv hs hd post (pre ++ [x]) (by rw [e]; simp) h'
theorem for_by {gd : Store → Prop} {g : TG} {tb : TS} {D0 : Ends} {items : List D} {σ : Env} {st : Store} (Pv : List D → Env → Store → Prop) (h0 : Pv [] σ st)
    (hs : ∀ pre x post σ st, items = pre ++ x :: post → Pv pre σ st → ∀ N : Env → Store → Prop, (∀ σ st, Pv (pre ++ [x]) σ st → N σ st) → gd st ∧ g x σ st fun σ2 st2 => tb { D0 with nx := N, ct := N, bk := D0.nx } σ2 st2)
    (hd : ∀ σ st, Pv items σ st → gd st ∧ D0.nx σ st) : forLoop gd g tb D0 items σ st := for_inv Pv hs hd items [] rfl h0
/-- over range(n) -/
theorem for_rng {gd : Store → Prop} {g : TG} {tb : TS} {D0 : Ends} {lo : Int} {n : Nat} {σ : Env} {st : Store} (Pv : Nat → Env → Store → Prop) (h0 : Pv 0 σ st)
    (hs : ∀ k σ st, k < n → Pv k σ st → ∀ N : Env → Store → Prop, (∀ σ st, Pv (k + 1) σ st → N σ st) → gd st ∧ g (.int (lo + k)) σ st fun σ2 st2 => tb { D0 with nx := N, ct := N, bk := D0.nx } σ2 st2)
    (hd : ∀ σ st, Pv n σ st → gd st ∧ D0.nx σ st) : forLoop gd g tb D0 (rng lo n) σ st := by
  refine for_by (fun pre σ st => Pv pre.length σ st) h0 (fun pre x post σ st e h N hN => ?_) (fun σ st h => hd σ st (by simpa [rng] using h))
  have hl : pre.length < n := by
    have := congrArg List.length e
    simp [rng] at this
    omega
  have hx : x = .int (lo + pre.length) := by
    have h2 : (rng lo n)[pre.length]? = some x := by rw [e]; simp
    unfold rng at h2
    rw [List.getElem?_map, List.getElem?_range hl] at h2
    simpa using h2.symm
  subst hx
  exact hs pre.length σ st hl h N fun σ st h' => hN σ st (by simpa using h')
/-- a comprehension by an invariant; N: behind the element, M: where a test leaves it out -/
theorem lc_inv {gd : Store → Prop} {g : TG} {tt : TT} {te : TE} {ρ : Env} {n : Nat} {Q : K} (Pv : List D → List D → Store → Prop) {items : List D}
    (hs : ∀ pre x post acc st, items = pre ++ x :: post → Pv pre acc st → ∀ (N : D → Store → Prop) (M : Store → Prop), (∀ y st', rdL st' n acc → acc.length < szl → Pv (pre ++ [x]) (acc ++ [y]) (st'.set n (.lst (acc ++ [y]))) → N y st') → (∀ st', rdL st' n acc → Pv (pre ++ [x]) acc st' → M st') →
      gd st ∧ g x ρ st fun ρ2 st2 => tt ρ2 st2 fun b st3 => (b = true → te ρ2 st3 N) ∧ (b = false → M st3))
    (hd : ∀ acc st, Pv items acc st → gd st ∧ rdL st n acc ∧ Q (.ref n) st) : ∀ (todo pre acc : List D) {st : Store}, items = pre ++ todo → Pv pre acc st → lcLoop gd g tt te ρ n Q todo acc st
  | [], pre, acc, st, e, h => by
    rw [List.append_nil] at e
    subst e
    exact hd acc st h
  | x :: post, pre, acc, st, e, h => hs pre x post acc st e h _ _ (fun y st' h1 h2 h3 => ⟨h1, h2, lc_inv Pv hs hd post (pre ++ [x]) (acc ++ [y]) (by rw [e]; simp) h3⟩) fun st' h1 h2 => ⟨h1, lc_inv Pv hs hd post (pre ++ [x]) acc (by rw [e]; simp) h2⟩
theorem lc_by {gd : Store → Prop} {g : TG} {tt : TT} {te : TE} {ρ : Env} {n : Nat} {Q : K} {items : List D} {st : Store} (Pv : List D → List D → Store → Prop) (h0 : Pv [] [] st)
    (hs : ∀ pre x post acc st, items = pre ++ x :: post → Pv pre acc st → ∀ (N : D → Store → Prop) (M : Store → Prop), (∀ y st', rdL st' n acc → acc.length < szl → Pv (pre ++ [x]) (acc ++ [y]) (st'.set n (.lst (acc ++ [y]))) → N y st') → (∀ st', rdL st' n acc → Pv (pre ++ [x]) acc st' → M st') →
      gd st ∧ g x ρ st fun ρ2 st2 => tt ρ2 st2 fun b st3 => (b = true → te ρ2 st3 N) ∧ (b = false → M st3))
    (hd : ∀ acc st, Pv items acc st → gd st ∧ rdL st n acc ∧ Q (.ref n) st) : lcLoop gd g tt te ρ n Q items [] st := lc_inv Pv hs hd items [] [] rfl h0
theorem set_app {α : Type} (xs : List α) (a b : α) : (xs ++ [a]).set xs.length b = xs ++ [b] := by
  rw [List.set_append_right _ _ (Nat.le_refl _)]; simp
/-- the element reads alone: the new list is the map -/
theorem lc_map {α : Type} {gd : Store → Prop} {g : TG} {te : TE} {ρ : Env} {st : Store} {Q : K} (xs : List α) (f h : α → D) {items : List D} (hi : items = xs.map f) (hl : xs.length ≤ szl) (hg : ∀ acc, gd (st ++ [.lst acc]))
    (hs : ∀ x, x ∈ xs → ∀ (acc : List D) (N : D → Store → Prop), N (h x) (st ++ [.lst acc]) → g (f x) ρ (st ++ [.lst acc]) fun ρ2 st2 => te ρ2 st2 N)
    (hd : Q (.ref st.length) (st ++ [.lst (xs.map h)])) : lcLoop gd g tYes te ρ st.length Q items [] (st ++ [.lst []]) := by
  subst hi
  refine lc_by (fun pre acc st' => acc = (xs.take pre.length).map h ∧ st' = st ++ [.lst acc]) ⟨rfl, rfl⟩ (fun pre x post acc st' e ⟨h1, h2⟩ N M hN hM => ?_) (fun acc st' ⟨h1, h2⟩ => ?_)
  · subst h1; subst h2
    refine ⟨hg _, ?_⟩
    have hlen : pre.length < xs.length := by
      have := congrArg List.length e
      simp at this; omega
    have hx : xs[pre.length] ∈ xs := List.getElem_mem hlen
    have hfx : x = f xs[pre.length] := by
      have h2 : (xs.map f)[pre.length]? = some x := by rw [e]; simp
      rw [List.getElem?_map, List.getElem?_eq_getElem hlen] at h2
      simpa using h2.symm
    subst hfx
    have e1 : (fun (ρ2 : Env) (st2 : Store) => tYes ρ2 st2 fun b st3 => (b = true → te ρ2 st3 N) ∧ (b = false → M st3)) = fun ρ2 st2 => te ρ2 st2 N := by
      funext ρ2 st2
      exact propext ⟨fun q => q.1 rfl, fun q => ⟨fun _ => q, fun e => nomatch e⟩⟩
    rw [e1]
    refine hs _ hx _ N (hN _ _ (by unfold rdL; simp) (by simp; omega) ⟨?_, ?_⟩)
    · rw [List.length_append]
      show _ = List.map h (List.take (pre.length + 1) xs)
      rw [List.take_add_one, List.map_append, List.getElem?_eq_getElem hlen]
      rfl
    · rw [set_app]
  · subst h1; subst h2
    have e2 : List.take (List.map f xs).length xs = xs := by simp
    rw [e2] at *
    exact ⟨hg _, by unfold rdL; simp, hd⟩
theorem map_id_int (xs : List Int) : xs.map D.int = xs.map D.int := rfl
end Pd
end PartPdTac

section PartPdMore
set_option Elab.async false
set_option linter.all false
set_option maxRecDepth 100000
/-! Pd: more readings: texts split, range as a list or a tuple, sorted. Own work. -/
namespace Pd
open PySem
def splitM : KM
  | .str a, [.str b], st, Q => (b.length == 0) = false ∧ a.length + 2 ≤ szl ∧ Q (.ref st.length) (st ++ [.lst ((PySem.Txt.split a b).map D.str)])
  | _, _, _, _ => False
/-- range(..) as an argument -/
abbrev TR := Env → Store → (Int → Int → Store → Prop) → Prop
def rg1 (t : TE) : TR := fun σ st Q => t σ st fun x st1 => ∃ j, x = .int j ∧ Q 0 j st1
def rg2 (t u : TE) : TR := fun σ st Q => t σ st fun x st1 => u σ st1 fun y st2 => ∃ i j, x = .int i ∧ y = .int j ∧ Q i j st2
def rgOk (a b : Int) : Prop := -(2 ^ 62) ≤ a ∧ a < 2 ^ 62 ∧ -(2 ^ 62) ≤ b ∧ b < 2 ^ 62 ∧ (b - a).toNat ≤ 2 ^ 24
def dLR (r : TR) : TE := fun σ st Q => r σ st fun a b st1 => rgOk a b ∧ Q (.ref st1.length) (st1 ++ [.lst (rng a (b - a).toNat)])
def dTR (r : TR) : TE := fun σ st Q => r σ st fun a b st1 => rgOk a b ∧ Q (.tup (rng a (b - a).toNat)) st1
/-- sorted: of whole numbers -/
def sortedB : KB
  | [.ref n], st, Q => ∃ ns : List Int, rdA st n (ns.map D.int) ∧ ∀ ns' : List Int, ns'.Perm ns → ns'.Pairwise (· ≤ ·) → Q (.ref st.length) (st ++ [.lst (ns'.map D.int)])
  | _, _, _ => False
/-- a call of a def with n parameters and one that takes what is left over -/
def dCallS (c : Cl) (f : String) (n : Nat) (t : TA) : TE := fun σ st Q => t σ st fun xs st1 => n ≤ xs.length ∧ (xs.drop n).length ≤ szl ∧ c f (xs.take n ++ [.tup (xs.drop n)]) st1 Q
section
variable {c : Cl} {fn : String} {nn : Nat} {Ar : TA}
instance {σ : Env} {st : Store} {Q : K} : Red (dCallS c fn nn Ar σ st Q) (Ar σ st fun xs st1 => nn ≤ xs.length ∧ (xs.drop nn).length ≤ szl ∧ c fn (xs.take nn ++ [.tup (xs.drop nn)]) st1 Q) := ⟨id⟩
end
section
variable {σ : Env} {st : Store} {Q : K} {r : TR} {ta tb : TE} {q : Int → Int → Store → Prop} {a b : Int} {u v : Str}
instance : Red (dLR r σ st Q) (r σ st fun a b st1 => rgOk a b ∧ Q (.ref st1.length) (st1 ++ [.lst (rng a (b - a).toNat)])) := ⟨id⟩
instance : Red (dTR r σ st Q) (r σ st fun a b st1 => rgOk a b ∧ Q (.tup (rng a (b - a).toNat)) st1) := ⟨id⟩
instance : Red (rg1 ta σ st q) (ta σ st fun x st1 => ∃ j, x = .int j ∧ q 0 j st1) := ⟨id⟩
instance : Red (rg2 ta tb σ st q) (ta σ st fun x st1 => tb σ st1 fun y st2 => ∃ i j, x = .int i ∧ y = .int j ∧ q i j st2) := ⟨id⟩
instance : Red (splitM (.str u) [.str v] st Q) ((v.length == 0) = false ∧ u.length + 2 ≤ szl ∧ Q (.ref st.length) (st ++ [.lst ((PySem.Txt.split u v).map D.str)])) := ⟨id⟩
instance : Red (tyStr (.str u) st) True := ⟨id⟩
end
end Pd
end PartPdMore

section PartPdSoundG
set_option Elab.async false
set_option linter.all false
set_option maxRecDepth 100000
set_option maxHeartbeats 1000000
/-! Pd over the hand layer: texts split, range as a list or a tuple, sorted. Own work. -/
namespace Pd
open PySem PySem.Spec
section
variable {X : L2.Cx} {K : Kf} {f f' : List Addr} {H H' : Hp} {st st' : Store} {ρ : Env} {σ : L2.St}
theorem RDs.of_strs : ∀ (ss : List Str), RDs K f H (ss.map D.str) (ss.map L2.V.str)
  | [] => by simp [RDs.nil]
  | n :: ns => by
    rw [List.map_cons, List.map_cons, RDs.cons]
    exact ⟨_, _, rfl, by rw [RD.str], RDs.of_strs ns⟩
theorem real_split : RealM K (fun x xs H Q => ∃ a b, x = .str a ∧ xs = [.str b] ∧ (b.length == 0) = false ∧ a.length + 2 ≤ sizeLine ∧ L2.rNewStrs (Txt.split a b) H Q) splitM := fun f st H x xs v vs Q' Q s r1 r2 h l => by
  cases x <;> try (exact h.elim)
  match xs, h with
  | [], h => exact h.elim
  | y :: _ :: _, h => cases y <;> exact (show False from h).elim
  | [y], h =>
    cases y <;> try (exact h.elim)
    rw [RD.str] at r1
    obtain ⟨w, rfl, r3⟩ := r2.inv1
    rw [RD.str] at r3
    subst r1; subst r3
    obtain ⟨h1, h2, h3⟩ := h
    exact ⟨_, _, rfl, rfl, h1, by rw [← szl_eq]; exact h2, fun p hp => l.lst s h3 (RDs.of_strs _) hp⟩
/-! range(..) as an argument -/
def liftR (K : Kf) (t : TR) : L2.St → Hp → (Int → Int → Hp → Prop) → Prop := fun σ H Q => ∃ f ρ st Q', Rel K f ρ st σ H ∧ t ρ st Q' ∧ ∀ (a b : Int) (st' : Store) (f' : List Addr) (H' : Hp), Q' a b st' → Ext K f H f' H' → RelS K f' st' H' → Q a b H'
abbrev PDR (X : L2.Cx) (e : Expr) (t : TR) : Prop := L2.PRg X e (liftR X.K t)
theorem prg_imp {e : Expr} {t t' : L2.St → Hp → (Int → Int → Hp → Prop) → Prop} (h : L2.PRg X e t) (m : ∀ σ H Q, t' σ H Q → t σ H Q) : L2.PRg X e t' := fun pins s σ H Q I q => h pins s σ H Q I (m σ H Q q)
section
variable {a b e : Expr} {ta tb : TE} {tr : TR} {pos : Pos}
theorem pr_1 {p : Pos} (hg : L2.Gl X "range") (hm : X.mg "range" = none) (ha : PD X a ta) (na : starEach [a] X.env = (false, eval a X.env) :: starEach [] X.env := by rfl) : PDR X (.Call (.Name "range" p) [a] [] pos) (rg1 ta) :=
  prg_imp (L2.prg_1 hg hm ha na) fun σ H R ⟨f, ρ, st, R', Re, h, l⟩ => ⟨f, ρ, st, _, Re, h, fun x st1 v f1 H1 q1 e1 s1 r1 => by
    obtain ⟨j, rfl, h1⟩ := q1
    rw [RD.int] at r1
    subst r1
    exact ⟨j, rfl, l _ _ st1 f1 H1 h1 e1 s1⟩⟩
theorem pr_2 {p : Pos} (hg : L2.Gl X "range") (hm : X.mg "range" = none) (ha : PD X a ta) (hb : PD X b tb) (na : starEach [a, b] X.env = (false, eval a X.env) :: starEach [b] X.env := by rfl)
    (nb : starEach [b] X.env = (false, eval b X.env) :: starEach [] X.env := by rfl) (hp : (backTo pos (starEach [b] X.env)).any (·.1) = false := by rfl) : PDR X (.Call (.Name "range" p) [a, b] [] pos) (rg2 ta tb) :=
  prg_imp (L2.prg_2 hg hm ha hb na nb hp) fun σ H R ⟨f, ρ, st, R', Re, h, l⟩ => ⟨f, ρ, st, _, Re, h, fun x st1 v f1 H1 q1 e1 s1 r1 => ⟨f1, ρ, st1, _, Re.later e1 s1, q1, fun y st2 w f2 H2 q2 e2 s2 r2 => by
    obtain ⟨i, j, rfl, rfl, h3⟩ := q2
    have r1' := r1.mono e2
    rw [RD.int] at r1' r2
    subst r1'; subst r2
    exact ⟨i, j, rfl, rfl, l _ _ st2 f2 H2 h3 (e1.trans e2) s2⟩⟩⟩
theorem rng_rgV (a b : Int) : RDs K f H (rng a (b - a).toNat) (L2.rgV a b) := by
  have e1 : rng a (b - a).toNat = ((List.range (b - a).toNat).map fun (k : Nat) => a + (k : Int)).map D.int := by unfold rng; simp
  have e2 : L2.rgV a b = ((List.range (b - a).toNat).map fun (k : Nat) => a + (k : Int)).map L2.V.int := by unfold L2.rgV; simp
  rw [e1, e2]; exact RDs.of_ints _
theorem pd_listRg {p : Pos} (hc : X.calm = true) (hg : L2.Gl X "list") (hm : X.mg "list" = none) (he : PDR X e tr) (na : starEach [e] X.env = (false, eval e X.env) :: starEach [] X.env := by rfl) : PD X (.Call (.Name "list" p) [e] [] pos) (dLR tr) :=
  pe_imp (L2.pe_listRg hc hg hm he na) fun σ H Q ⟨f, ρ, st, Q', R, h, l⟩ => ⟨f, ρ, st, _, R, h, fun a b st1 f1 H1 q1 e1 s1 => ⟨q1.1, fun p hp => (l.later e1).lst s1 q1.2 (rng_rgV a b) hp⟩⟩
theorem pd_tupRg {p : Pos} (hc : X.calm = true) (hg : L2.Gl X "tuple") (hm : X.mg "tuple" = none) (he : PDR X e tr) (na : starEach [e] X.env = (false, eval e X.env) :: starEach [] X.env := by rfl) : PD X (.Call (.Name "tuple" p) [e] [] pos) (dTR tr) :=
  pe_imp (L2.pe_tupRg hc hg hm he na) fun σ H Q ⟨f, ρ, st, Q', R, h, l⟩ => ⟨f, ρ, st, _, R, h, fun a b st1 f1 H1 q1 e1 s1 => ⟨q1.1, fun p hp => (l.later e1).tup s1 q1.2 (rng_rgV a b) hp⟩⟩
end
theorem real_sortedB : RealB K (L2.rSortedI K) sortedB :=
  realB1 (kb1 (fun _ _ h => h) fun x y xs st Q h => by cases x <;> exact h) fun f st H x v Q' Q s r h l => by
    cases x <;> try (exact h.elim)
    rw [RD.ref] at r
    obtain ⟨a, e, rfl⟩ := r
    obtain ⟨ns, h1, h2⟩ := h
    obtain ⟨a', vs, k1, k2, d⟩ := s.rdA h1
    rw [e] at k1; cases k1
    exact ⟨a, ns, rfl, by rw [← d.ints]; exact k2, fun ns' p hp hi hn => l.lst s (h2 ns' hp hi) (RDs.of_ints ns') hn⟩
end
end Pd
end PartPdSoundG

section PartPdSoundH
set_option Elab.async false
set_option linter.all false
set_option maxRecDepth 100000
set_option maxHeartbeats 1000000
/-! Pd over the hand layer: defs whose last parameter takes what is left over. Own work. -/
namespace Pd
open PySem PySem.Spec
open PyProof.Rows (envOfC)
/-- what a def with n parameters and a star one promises -/
def starF (K : Kf) (n : Nat) (c : List D → Store → Pd.K → Prop) : L2.Sp := fun vs H Q E => ∃ ws rest : List L2.V, vs = ws ++ rest ∧ ws.length = n ∧ rest.length ≤ sizeLine ∧ ∀ p, H p = Option.none → liftF K (n + 1) c (ws ++ [L2.V.ref p]) (L2.upd H p (.tup rest)) Q E
structure OwnS (P : Program) (w : World) (K : Kf) (mg : Str → Option Value) (base : Heap) (k : Nat) (n : Nat) (x : Str) (c : List D → Store → Pd.K → Prop) : Prop where
  ex : ∃ fa : Addr, L2.FnR P w K mg base L2.CX0 k fa (starF K n c) ∧ mg x = some (.ref fa) ∧ PySem.W.keepIn K (.ref fa) = true
section
variable {X : L2.Cx} {K : Kf} {f f' : List Addr} {H H' : Hp} {st st' : Store} {a : Expr} {es : List Expr} {pos : Pos}
theorem pd_callS {x : Str} {p : Pos} {k n : Nat} {ts : TA} {cl : Cl} {y : String} (o : OwnS X.prog X.w X.K X.mg X.base k n x (cl y)) (hr : L2.Room k X.A) (hg : L2.Gl X x) (ha : PDA X (a :: es) ts) (hdb : (x == ("__debug__" : Str)) = false := by decide)
    (he : starEach (a :: es) X.env = (false, eval a X.env) :: starEach es X.env := by rfl) (hpl : (backTo pos (starEach es X.env)).any (·.1) = false := by rfl) : PD X (.Call (.Name x p) (a :: es) [] pos) (dCallS cl y n ts) := by
  obtain ⟨fa, F, hm, hk⟩ := o.ex
  have step : L2.PE X (.Call (.Name x p) (a :: es) [] pos) (fun σ H Q => liftA X.K ts σ H fun vs H1 => starF X.K n (cl y) vs H1 Q fun _ _ _ => False) := by
    constructor
    intro pins s σ H Q I h
    refine wpAny_Call_Name_kw (L2.ld_glob I hg hm ?_ hdb)
    have args := ha.run pos pins s σ H _ I h
    exact PySem.W.callWith_K (h₀ := X.base) I.ok.mod.kin hk (wpAny_mono args (fun us s1 ⟨vs, H1, I1, r, q⟩ => ⟨I1.kIn, wpAny_call (L2.run_fnR F hr L2.pass0 I1 r q)⟩) fun _ _ z => z) he hpl
  refine pe_imp step fun σ H Q ⟨f, ρ, st, Q', R, h, l⟩ => ⟨f, ρ, st, _, R, h, fun xs st1 vs f1 H1 ⟨h1, h2, h3⟩ e1 s1 r1 => ?_⟩
  have hvl := r1.length
  refine ⟨vs.take n, vs.drop n, (List.take_append_drop n vs).symm, by rw [List.length_take]; omega, ?_, fun p hp => ?_⟩
  · rw [List.length_drop, hvl, ← szl_eq]; rw [List.length_drop] at h2; exact h2
  · have s2 := s1.lay (o := .tup (vs.drop n)) hp
    obtain ⟨s2, e2⟩ := s2
    refine ⟨by rw [List.length_append, List.length_take]; simp; omega, f1, st1, xs.take n ++ [.tup (xs.drop n)], Q', s2, ?_, h3, (l.later e1).later e2⟩
    refine RDs.append ((r1.take n).mono e2) (RDs.one (RD.tup.mpr ⟨p, vs.drop n, rfl, .of L2.upd_same, (r1.drop n).mono e2⟩))
end
section
variable {P : Program} {w : World} {K : Kf} {mg : Str → Option Value} {base : Heap} {names : List String} {snames : List (String × Nat)}
/-- as Step, with both kinds of own defs -/
structure Step2 (P : Program) (w : World) (K : Kf) (mg : Str → Option Value) (base : Heap) (names : List String) (snames : List (String × Nat)) (x : String) (d : Def) : Prop where
  ex : ∃ (fa : Addr) (fd : FuncData) (ps : List Str), mg x = some (.ref fa) ∧ PySem.W.keepIn K (.ref fa) = true ∧ L2.Binds K fd ps [] ∧ d.ps = ps.length ∧
    ∀ (k : Nat) (c : Cl), (∀ y ∈ names, Own P w K mg base k (Str.ofString y) (c y)) → (∀ q ∈ snames, OwnS P w K mg base k q.2 (Str.ofString q.1) (c q.1)) → L2.FnOk P w K mg base L2.CX0 (k + 1) fa fd ps (liftF K ps.length (d.run c))
structure StepS (P : Program) (w : World) (K : Kf) (mg : Str → Option Value) (base : Heap) (names : List String) (snames : List (String × Nat)) (x : String) (n : Nat) (d : Def) : Prop where
  ex : ∃ fa : Addr, mg x = some (.ref fa) ∧ PySem.W.keepIn K (.ref fa) = true ∧
    ∀ (k : Nat) (c : Cl), (∀ y ∈ names, Own P w K mg base k (Str.ofString y) (c y)) → (∀ q ∈ snames, OwnS P w K mg base k q.2 (Str.ofString q.1) (c q.1)) → L2.FnR P w K mg base L2.CX0 (k + 1) fa (starF K n (d.run c))
theorem fnS_ok {qual x pv : Str} {sm : Stmt} {fa : Addr} {fd : FuncData} {N ps : List Str} {k : Nat} {d : Def} {c : Cl} (F : L2.Fun K x qual sm fa fd) (S : L2.FnScope N (ps ++ [pv]) (L2.defScope sm)) (hn : d.ns = N.length) (hp : d.ps = ps.length + 1)
    (hb : ∀ (kV doc pm : Value) (an : Option Addr) (cdv ct : Value) (us rest : List Value), us.length = ps.length → bindArgs (PySem.W.fnOf x qual (L2.defArgs sm) (L2.defBody sm) (L2.defScope sm) .none kV doc pm an cdv ct) ⟨us ++ rest, []⟩ = (newTuple rest >>= fun t => pure (ps.zip us ++ [(pv, t)])))
    (der : ∀ (cdv : Value) (A : Around) (outer : List PySem.Env) (s : Shared) (H : Hp) (E : L2.XK), L2.Room k (A.deeper (envOfC qual (L2.defScope sm) s.heap.objs.size fa cdv)) →
      PDSs (L2.cxOf L2.CX0 P w K mg base N qual (L2.defScope sm) fa cdv A outer s H E).nox (L2.defBody sm) (d.body c)) : L2.FnR P w K mg base L2.CX0 (k + 1) fa (starF K ps.length (d.run c)) := by
  obtain ⟨oc, od, kV, doc, pm, an, cdv, ct, osl, rfl, look, code⟩ := F.ex
  refine StX.fn_star (sp := liftF K (ps.length + 1) (d.run c)) look code S StX.cxUp_none (hb kV doc pm an cdv ct) fun A outer s H vs Q E hr h => ?_
  refine ⟨_, (der cdv A outer s H E hr).nox, ?_⟩
  obtain ⟨_, f, st, ds, Q', s', r, ⟨hl, h⟩, l⟩ := h
  refine ⟨f, start d.ns ds, st, _, start_rel s' r hn, h, ?_⟩
  exact ⟨fun ρ1 st1 σ1 f1 H1 q e r1 => l .non st1 .non f1 H1 q e r1.toRelS (RD.non.mpr rfl), l, fun _ _ _ _ _ q _ _ => q, fun _ _ _ _ _ q _ _ => q⟩
theorem all_own2 {prog : String → Option Def} (hs : ∀ x ∈ names, ∃ d, prog x = some d ∧ Step2 P w K mg base names snames x d) (hs2 : ∀ q ∈ snames, ∃ d, prog q.1 = some d ∧ StepS P w K mg base names snames q.1 q.2 d) :
    ∀ k : Nat, (∀ x ∈ names, Own P w K mg base k (Str.ofString x) (callN prog k x)) ∧ ∀ q ∈ snames, OwnS P w K mg base k q.2 (Str.ofString q.1) (callN prog k q.1)
  | 0 => by
    refine ⟨fun x hx => ?_, fun q hq => ?_⟩
    · obtain ⟨d, h1, fa, fd, ps, h2, h3, h4, h5, h6⟩ := hs x hx
      exact ⟨fa, fd, ps, fn_zero, h2, h3, h4, fun _ _ _ h => h.elim⟩
    · obtain ⟨d, h1, fa, h2, h3, h4⟩ := hs2 q hq
      refine ⟨fa, fun A outer s H us vs Q E hr e0 r h => ?_, h2, h3⟩
      obtain ⟨ws, rest, _, _, _, h⟩ := h
      obtain ⟨_, _, _, _, _, _, _, z, _⟩ := h s.heap.objs.size (e0.hok.fresh (Nat.le_refl _))
      exact z.elim
  | k + 1 => by
    have ih := all_own2 hs hs2 k
    refine ⟨fun x hx => ?_, fun q hq => ?_⟩
    · obtain ⟨d, h1, fa, fd, ps, h2, h3, h4, h5, h6⟩ := hs x hx
      refine ⟨fa, fd, ps, (h6 k _ ih.1 ih.2).imp fun vs H Q E ⟨g0, f, st, ds, Q', s, r, ⟨d', e', g⟩, l⟩ => ?_, h2, h3, h4, fun ds st Q ⟨d', e', g⟩ => ?_⟩
      · rw [h1] at e'; cases e'
        exact ⟨g0, f, st, ds, Q', s, r, g, l⟩
      · rw [h1] at e'; cases e'
        exact g.1.trans h5
    · obtain ⟨d, h1, fa, h2, h3, h4⟩ := hs2 q hq
      refine ⟨fa, (h4 k _ ih.1 ih.2).imp fun vs H Q E ⟨ws, rest, e1, e2, e3, h⟩ => ⟨ws, rest, e1, e2, e3, fun p hp => ?_⟩, h2, h3⟩
      obtain ⟨g0, f, st, ds, Q', s, r, ⟨d', e', g⟩, l⟩ := h p hp
      rw [h1] at e'; cases e'
      exact ⟨g0, f, st, ds, Q', s, r, g, l⟩
end
end Pd
end PartPdSoundH

section PartPdDict
set_option Elab.async false
set_option linter.all false
set_option maxRecDepth 100000
/-! Pd: dicts of ints and texts. Own work. -/
namespace Pd
open PySem
abbrev Ky := Sum Int Str
def keyD : Ky → D
  | .inl i => .int i
  | .inr s => .str s
theorem keyD_inj : ∀ {a b : Ky}, keyD a = keyD b → a = b
  | .inl _, .inl _, h => by injection h with h; rw [h]
  | .inr _, .inr _, h => by injection h with h; rw [h]
  | .inl _, .inr _, h => nomatch h
  | .inr _, .inl _, h => nomatch h
def valD (kvs : List (Ky × D)) (k : Ky) : Option D := (kvs.find? fun kv => decide (kv.1 = k)).map (·.2)
def putD (kvs : List (Ky × D)) (k : Ky) (v : D) : List (Ky × D) :=
  if (kvs.any fun kv => decide (kv.1 = k)) = true then kvs.map (fun kv => if kv.1 = k then (kv.1, v) else kv) else kvs ++ [(k, v)]
/-- {} -/
def dDic : TE := fun _ st Q => Q (.ref st.length) (st ++ [.dic []])
/-- d[k] -/
def getDK : K2
  | .ref n, y, st, Q => ∃ kvs k d, rdD st n kvs ∧ y = keyD k ∧ valD kvs k = some d ∧ Q d st
  | _, _, _, _ => False
def dGet (to ti : TE) : TE := fun σ st Q => to σ st fun x st1 => ti σ st1 fun y st2 => getDK x y st2 Q
/-- d[k] = v -/
def setDK : D → D → D → Store → (Store → Prop) → Prop
  | .ref n, y, v, st, Q => ∃ kvs k, rdD st n kvs ∧ y = keyD k ∧ kvs.length < szl ∧ Q (st.set n (.dic (putD kvs k v)))
  | _, _, _, _, _ => False
def gSubD (to ti : TE) : TG := fun v σ st Q => to σ st fun o st1 => ti σ st1 fun i st2 => setDK o i v st2 fun st3 => Q σ st3
/-- sorted(d), keys whole numbers -/
def sortedDB : KB
  | [.ref n], st, Q => ∃ (kvs : List (Ky × D)) (ns : List Int), rdD st n kvs ∧ kvs.map (·.1) = ns.map Sum.inl ∧ ∀ ns' : List Int, ns'.Perm ns → ns'.Pairwise (· ≤ ·) → Q (.ref st.length) (st ++ [.lst (ns'.map D.int)])
  | _, _, _ => False
/-- {k: v for ..}: n the new cell -/
def dcLoop (gd : Store → Prop) (g : TG) (tt : TT) (tk tv : TE) (ρ : Env) (n : Nat) (Q : K) : List D → List (Ky × D) → Store → Prop
  | [], acc, st => gd st ∧ rdD st n acc ∧ Q (.ref n) st
  | x :: xs, acc, st => gd st ∧ g x ρ st fun ρ2 st2 => tt ρ2 st2 fun b st3 =>
      (b = true → tk ρ2 st3 fun y st4 => tv ρ2 st4 fun z st5 => ∃ k, y = keyD k ∧ rdD st5 n acc ∧ acc.length < szl ∧ dcLoop gd g tt tk tv ρ n Q xs (putD acc k z) (st5.set n (.dic (putD acc k z)))) ∧ (b = false → rdD st3 n acc ∧ dcLoop gd g tt tk tv ρ n Q xs acc st3)
def dDc (i : TI) (g : TG) (tt : TT) (tk tv : TE) (vs : List Nat) : TE := fun σ st Q => i σ st fun I st1 => dcLoop I.guard g tt tk tv (wipeE σ vs) st1.length Q I.items [] (st1 ++ [.dic []])
section
variable {σ σ' : Env} {st : Store} {Q : K} {to ti tk tv : TE} {d x : D} {g : TG} {tt : TT} {i : TI} {vs : List Nat} {q : Env → Store → Prop}
instance : Red (dDic σ st Q) (Q (.ref st.length) (st ++ [.dic []])) := ⟨id⟩
instance : Red (dGet to ti σ st Q) (to σ st fun x st1 => ti σ st1 fun y st2 => getDK x y st2 Q) := ⟨id⟩
instance : Red (gSubD to ti d σ st q) (to σ st fun o st1 => ti σ st1 fun i st2 => setDK o i d st2 fun st3 => q σ st3) := ⟨id⟩
instance [h : WipeE σ vs σ'] : Red (dDc i g tt tk tv vs σ st Q) (i σ st fun I st1 => dcLoop I.guard g tt tk tv σ' st1.length Q I.items [] (st1 ++ [.dic []])) := ⟨fun p => by unfold dDc; rw [h.eq]; exact p⟩
end
end Pd
end PartPdDict

section PartPdSoundI
set_option Elab.async false
set_option linter.all false
set_option maxRecDepth 100000
set_option maxHeartbeats 1000000
/-! Pd over the hand layer: dicts of ints and texts. Own work. -/
namespace Pd
open PySem PySem.Spec
section
variable {X : L2.Cx} {K : Kf} {f f' : List Addr} {H H' : Hp} {st st' : Store} {ρ : Env} {σ : L2.St}
theorem keyD_V {k : Ky} {v : L2.V} (h : RD K f H (keyD k) v) : v = L2.kV k := by
  cases k with
  | inl i => exact RD.int.mp h
  | inr s => exact RD.str.mp h
theorem vals_at : ∀ {kvs : List (Ky × D)} {ks : List (L2.Key × L2.V)}, ks.map (·.1) = kvs.map (·.1) → RDs K f H (kvs.map (·.2)) (ks.map (·.2)) → ∀ (k : Ky) (d : D), valD kvs k = some d → ∃ v, L2.valV ks k = some v ∧ RD K f H d v
  | [], _, _, _, k, d, h => by simp [valD] at h
  | (k0, d0) :: kvs, [], e, _, _, _, _ => by simp at e
  | (k0, d0) :: kvs, (k1, v1) :: ks, e, r, k, d, h => by
    simp only [List.map_cons, List.cons.injEq] at e
    obtain ⟨e1, e2⟩ := e
    rw [List.map_cons, List.map_cons, RDs.cons] at r
    obtain ⟨v, rr, er, r1, r2⟩ := r
    injection er with er1 er2
    subst er1
    have e1 : k1 = k0 := e1
    subst e1
    by_cases hk : k1 = k
    · refine ⟨v1, L2.valV_pos hk, ?_⟩
      have : valD ((k1, d0) :: kvs) k = some d0 := by simp [valD, List.find?_cons, hk]
      rw [this] at h; cases h
      exact r1
    · have : valD ((k1, d0) :: kvs) k = valD kvs k := by simp [valD, List.find?_cons, hk]
      rw [this] at h
      obtain ⟨w, h1, h2⟩ := vals_at e2 (by rw [er2]; exact r2) k d h
      exact ⟨w, (L2.valV_neg hk).trans h1, h2⟩
theorem put_at {k : Ky} {d : D} {v : L2.V} (rv : RD K f H d v) {kvs : List (Ky × D)} {ks : List (L2.Key × L2.V)} (e : ks.map (·.1) = kvs.map (·.1)) (r : RDs K f H (kvs.map (·.2)) (ks.map (·.2))) :
    (L2.putK ks k v).map (·.1) = (putD kvs k d).map (·.1) ∧ RDs K f H ((putD kvs k d).map (·.2)) ((L2.putK ks k v).map (·.2)) := by
  have hany : ∀ {kvs : List (Ky × D)} {ks : List (L2.Key × L2.V)}, ks.map (·.1) = kvs.map (·.1) → (ks.any fun kv => decide (kv.1 = k)) = (kvs.any fun kv => decide (kv.1 = k)) := by
    intro kvs ks e
    have h1 : ∀ l : List (Ky × D), (l.any fun kv => decide (kv.1 = k)) = (l.map (·.1)).any fun x => decide (x = k) := fun l => by rw [List.any_map]; rfl
    have h2 : ∀ l : List (L2.Key × L2.V), (l.any fun kv => decide (kv.1 = k)) = (l.map (·.1)).any fun x => decide (x = k) := fun l => by rw [List.any_map]; rfl
    rw [h1, h2, e]
  have hmap : ∀ {kvs : List (Ky × D)} {ks : List (L2.Key × L2.V)}, ks.map (·.1) = kvs.map (·.1) → RDs K f H (kvs.map (·.2)) (ks.map (·.2)) →
      (ks.map fun kv => if kv.1 = k then (kv.1, v) else kv).map (·.1) = (kvs.map fun kv => if kv.1 = k then (kv.1, d) else kv).map (·.1) ∧ RDs K f H ((kvs.map fun kv => if kv.1 = k then (kv.1, d) else kv).map (·.2)) ((ks.map fun kv => if kv.1 = k then (kv.1, v) else kv).map (·.2)) := by
    intro kvs
    induction kvs with
    | nil => intro ks e r; cases ks with
      | nil => exact ⟨rfl, r⟩
      | cons _ _ => simp at e
    | cons p kvs ih =>
      intro ks e r
      cases ks with
      | nil => simp at e
      | cons q ks =>
        obtain ⟨k0, d0⟩ := p
        obtain ⟨k1, v1⟩ := q
        simp only [List.map_cons, List.cons.injEq] at e
        obtain ⟨e1, e2⟩ := e
        rw [List.map_cons, List.map_cons, RDs.cons] at r
        obtain ⟨u, rr, er, r1, r2⟩ := r
        injection er with er1 er2
        have e1 : k1 = k0 := e1
        subst e1
        obtain ⟨h1, h2⟩ := ih e2 (by rw [er2]; exact r2)
        by_cases hk : k1 = k
        · simp only [List.map_cons, hk, if_true]
          refine ⟨by rw [h1], ?_⟩
          rw [RDs.cons]; exact ⟨v, _, rfl, rv, h2⟩
        · simp only [List.map_cons, hk, if_false]
          refine ⟨by rw [h1], ?_⟩
          have er1 : v1 = u := er1
          subst er1
          rw [RDs.cons]; exact ⟨v1, _, rfl, r1, h2⟩
  unfold L2.putK putD
  rw [hany e]
  split
  · exact hmap e r
  · refine ⟨by rw [List.map_append, List.map_append, e]; rfl, ?_⟩
    rw [List.map_append, List.map_append]
    exact r.append (RDs.one rv)
theorem RelS.putDic {n : Nat} {a : Addr} {kvs kvs' : List (Ky × D)} {ks ks' : List (L2.Key × L2.V)} (s : RelS K f st H) (hn : f[n]? = some a) (h : Pd.rdD st n kvs) (hH : H a = some (.dK ks)) (e : ks'.map (·.1) = kvs'.map (·.1)) (r : RDs K f H (kvs'.map (·.2)) (ks'.map (·.2))) :
    RelS K f (st.set n (.dic kvs')) (L2.upd H a (.dK ks')) ∧ Ext K f H f (L2.upd H a (.dK ks')) :=
  s.chg (c := .dic kvs) h rfl hn (.inr (.inr (.inl ⟨ks, hH⟩))) rfl ⟨ks', L2.upd_same, e, r.mono (Ext.upd0 (.inr (.inr (.inl ⟨ks, hH⟩))))⟩
section
variable {o i a b e : Expr} {to ti ta tb te : TE} {pos : Pos}
theorem pd_dic : PD X (.Dict [] [] pos) dDic :=
  pe_imp L2.pe_dnewK fun σ H Q ⟨f, ρ, st, Q', R, h, l⟩ p hp => by
    obtain ⟨s', e⟩ := R.toRelS.new (o := .dK []) (c := .dic []) hp ⟨[], L2.upd_same, rfl, RDs.nil.mpr rfl⟩
    exact l _ _ _ _ _ h e s' (RD.ref.mpr ⟨p, by rw [← R.toRelS.len]; simp, rfl⟩)
theorem pd_get {k : Nat} (hr : L2.Room k X.A) (ho : PD X o to) (hi : PD X i ti) (hs : L2.NoSl i := by intro _ _; rfl) : PD X (.Subscript o i pos) (dGet to ti) :=
  pe_imp (L2.pe_dget (L2.hu_of hr) ho hi hs) fun σ H Q ⟨f, ρ, st, Q', R, h, l⟩ => ⟨f, ρ, st, _, R, h, fun x st1 v f1 H1 q1 e1 s1 r1 => ⟨f1, ρ, st1, _, R.later e1 s1, q1, fun y st2 w f2 H2 q2 e2 s2 r2 => by
    cases x <;> try (exact q2.elim)
    obtain ⟨kvs, k, d, h1, rfl, h3, h4⟩ := q2
    have r1' := r1.mono e2
    rw [RD.ref] at r1'
    obtain ⟨a, ea, rfl⟩ := r1'
    obtain ⟨a', ks, g1, g2, g3, g4⟩ := s2.rdD h1
    rw [ea] at g1; cases g1
    obtain ⟨v, g5, g6⟩ := vals_at g3 g4 k d h3
    obtain rfl := keyD_V r2
    exact ⟨a, v, rfl, by rw [← g5]; exact L2.DGet.k g2, l d st2 v f2 H2 h4 (e1.trans e2) s2 g6⟩⟩⟩
theorem pg_subD {k : Nat} (hr : L2.Room k X.A) (h1 : PD X o to) (h2 : PD X i ti) (ha : ∀ v, assign (.Subscript o i pos) X.env v = (do
      let ov ← holding [v] (eval o X.env)
      let iv ← holding [v, ov] (eval i X.env)
      standAt pos
      holding [v, ov, iv] (setItem ov iv v)
      release [v, ov, iv] []) := by intro _; rfl) : PDG X (.Subscript o i pos) (gSubD to ti) [] :=
  pg_imp (L2.pg_sub h1 h2 (L2.set_dict (L2.hu_of hr)) ha) fun v σ H Q ⟨f, ρ, st, d, Q', R, r, h, l⟩ => ⟨f, ρ, st, _, R, h, fun x st1 u f1 H1 q1 e1 s1 r1 => ⟨f1, ρ, st1, _, R.later e1 s1, q1, fun y st2 w f2 H2 q2 e2 s2 r2 => by
    cases x <;> try (exact q2.elim)
    obtain ⟨kvs, k, h3, rfl, h4, h5⟩ := q2
    have r1' := r1.mono e2
    rw [RD.ref] at r1'
    obtain ⟨a, ea, rfl⟩ := r1'
    obtain ⟨a', ks, g1, g2, g3, g4⟩ := s2.rdD h3
    rw [ea] at g1; cases g1
    obtain ⟨p1, p2⟩ := put_at (k := k) (r.mono (e1.trans e2)) g3 g4
    obtain ⟨s3, e3⟩ := s2.putDic ea h3 g2 p1 p2
    obtain rfl := keyD_V r2
    have hlen : ks.length < sizeLine := by
      have := congrArg List.length g3
      simp at this
      rw [this, ← szl_eq]; exact h4
    exact ⟨a, _, rfl, L2.DPut.k g2 hlen, l ρ _ σ f2 _ h5 ((e1.trans e2).trans e3) (R.later ((e1.trans e2).trans e3) s3) .refl⟩⟩⟩

theorem dc_core {wi : TI} {g : TG} {tt : TT} {tk tv : TE} {vs ws : List Nat} {Q : L2.VK} (hws : ∀ j, j ∈ ws → j ∈ vs) (h : lift K (dDc wi g tt tk tv vs) σ H Q) : L2.tDc (liftI K wi) (liftG K g ws) (liftT K tt) (lift K tk) (lift K tv) vs σ H Q := by
  obtain ⟨f, ρ, st, Q', R, h, l⟩ := h
  refine ⟨f, ρ, st, _, R, h, fun I st1 J f1 H1 q1 e1 s1 rI D hD => ?_⟩
  obtain ⟨s0, e0⟩ := s1.new (o := .dK []) (c := .dic []) hD ⟨[], L2.upd_same, rfl, RDs.nil.mpr rfl⟩
  have hn0 : (f1 ++ [D])[st1.length]? = some D := by rw [← s1.len]; simp
  refine ⟨fun i m H2 => m = I.items.length - i ∧ i ≤ I.items.length ∧ ∃ f2 st2 acc, Ext K (f1 ++ [D]) (L2.upd H1 D (.dK [])) f2 H2 ∧ RelS K f2 st2 H2 ∧ Pd.rdD st2 st1.length acc ∧ dcLoop I.guard g tt tk tv (wipeE ρ vs) st1.length Q' (I.items.drop i) acc st2,
    ⟨_, rfl, Nat.zero_le _, f1 ++ [D], st1 ++ [.dic []], [], .refl, s0, by unfold Pd.rdD; simp, by simpa using q1⟩, ?_⟩
  rintro i m H2 ⟨rfl, hi, f2, st2, acc, e2, s2, hacc, q2⟩
  have eI : Ext K f1 H1 f2 H2 := e0.trans e2
  by_cases hlt : i < I.items.length
  · have hd : I.items.drop i = I.items[i] :: I.items.drop (i + 1) := by rw [List.drop_eq_getElem_cons hlt]
    rw [hd] at q2
    obtain ⟨gd, q2⟩ := q2
    refine .inr ⟨rI.go i f2 st2 H2 eI s2 gd hlt, fun H3 => ∃ f3 st3 acc', Ext K (f1 ++ [D]) (L2.upd H1 D (.dK [])) f3 H3 ∧ RelS K f3 st3 H3 ∧ Pd.rdD st3 st1.length acc' ∧ dcLoop I.guard g tt tk tv (wipeE ρ vs) st1.length Q' (I.items.drop (i + 1)) acc' st3,
      fun H3 q3 => ⟨I.items.length - (i + 1), by omega, rfl, hlt, q3⟩, fun x H3 y => ?_⟩
    obtain ⟨e3, s3, r3⟩ := rI.yld i f2 st2 H2 I.items[i] x H3 eI s2 gd (by simp [hlt]) y
    have R3 : Rel K f2 (wipeE ρ vs) st2 (L2.wipe σ vs) H3 := (Rel.wipe R).later ((e1.trans eI).trans e3) s3
    refine ⟨f2, _, st2, I.items[i], _, R3, r3, q2, fun ρ4 st4 σ4 f4 H4 q4 e4 R4 o4 => ⟨Out.wipe ⟨o4.1, fun j hj => o4.2 j fun z => hj (hws j z)⟩, ?_⟩⟩
    refine ⟨f4, ρ4, st4, _, R4, q4, fun b st5 f5 H5 q5 e5 s5 => ?_⟩
    have e15 := e2.trans (e3.trans (e4.trans e5))
    cases b with
    | false =>
      obtain ⟨h1, h2⟩ := q5.2 rfl
      exact ⟨f5, st5, acc, e15, s5, h1, h2⟩
    | true =>
      refine ⟨f5, ρ4, st5, _, R4.later e5 s5, q5.1 rfl, fun y st6 v f6 H6 q6 e6 s6 r6 => ⟨f6, ρ4, st6, _, R4.later (e5.trans e6) s6, q6, fun z st7 w f7 H7 q7 e7 s7 r7 => ?_⟩⟩
      obtain ⟨k, rfl, h1, h2, h3⟩ := q7
      have e17 := (e15.trans e6).trans e7
      obtain ⟨a', ks, k1, k2, k3, k4⟩ := s7.rdD h1
      rw [e17.at hn0] at k1; cases k1
      obtain ⟨p1, p2⟩ := put_at (k := k) r7 k3 k4
      obtain ⟨s8, e8⟩ := s7.putDic (e17.at hn0) h1 k2 p1 p2
      obtain rfl := keyD_V r6
      have hlen : ks.length < sizeLine := by
        have := congrArg List.length k3
        simp at this
        rw [this, ← szl_eq]; exact h2
      refine ⟨ks, k, rfl, k2, hlen, f7, _, putD acc k z, e17.trans e8, s8, ?_, h3⟩
      have hl : st1.length < st7.length := (List.getElem?_eq_some_iff.mp h1).1
      unfold Pd.rdD
      rw [List.getElem?_set_self hl]
  · have e : i = I.items.length := by omega
    subst e
    rw [List.drop_length] at q2
    obtain ⟨gd, h1, h2⟩ := q2
    exact .inl ⟨rI.stop f2 st2 H2 eI s2 gd, l _ st2 _ f2 H2 h2 (e1.trans eI) s2 (RD.ref.mpr ⟨D, e2.at hn0, rfl⟩)⟩
theorem pd_dc {kx vx tg iter : Expr} {ifs : List Expr} {scope : Scope} {own : List (Str × Nat)} {wi : TI} {g : TG} {tt : TT} {tk tv : TE} {ws : List Nat} (hc : X.calm = true) (hN : X.N.Nodup) (hi : PDI X tg iter wi) (ok : L2.BlkOk X.N X.env.scope scope own)
    (hg : ∀ (s : Shared) (H : Hp) (C : Addr) (cl : List (Str × Addr)) (fp : List Addr), PDG (X.blk s H scope (compEnvC scope cl C X.env) fp) tg g ws) (ht : ∀ (s : Shared) (H : Hp) (C : Addr) (cl : List (Str × Addr)) (fp : List Addr), PDTs (X.blk s H scope (compEnvC scope cl C X.env) fp) ifs tt)
    (hk : ∀ (s : Shared) (H : Hp) (C : Addr) (cl : List (Str × Addr)) (fp : List Addr), PD (X.blk s H scope (compEnvC scope cl C X.env) fp) kx tk) (he : ∀ (s : Shared) (H : Hp) (C : Addr) (cl : List (Str × Addr)) (fp : List Addr), PD (X.blk s H scope (compEnvC scope cl C X.env) fp) vx tv)
    (hws : ∀ j, j ∈ ws → j ∈ own.map (·.2)) (hs : ∀ x, foldedSetIterable iter X.env x = pure x := by intro _; rfl) :
    PD X (.DictComp kx vx [⟨tg, iter, ifs, 0⟩] scope pos) (dDc wi g tt tk tv (own.map (·.2))) :=
  pe_imp (L2.pe_dc hc hN hi ok hg ht hk he hs) fun σ H Q h => dc_core hws h
end
end
section
open PySem.W PyProof.Rows
/-- the int that a key is -/
theorem int_key {i : Int} {v : Value} (h : L2.keyIs (.inl i) v = true) : ∃ t, v = .int i t := by
  rcases L2.keyIs_shape h with ⟨j, t, e1, e2⟩ | ⟨x, t, e1, _⟩
  · cases e1; exact ⟨t, e2⟩
  · cases e1
theorem ints_keys : ∀ {vs : List Value} {ns : List Int}, vs.length = ns.length → (∀ (j : Nat) (v : Value) (i : Int), vs[j]? = some v → ns[j]? = some i → ∃ t, v = .int i t) → IntsAre vs ns
  | [], [], _, _ => .nil
  | [], _ :: _, h, _ => by simp at h
  | _ :: _, [], h, _ => by simp at h
  | v :: vs, i :: ns, h, g => by
    obtain ⟨t, rfl⟩ := g 0 v i rfl rfl
    exact .cons i t (ints_keys (by simpa using h) fun j v i h1 h2 => g (j + 1) v i (by simpa using h1) (by simpa using h2))
theorem kv_keys {ks : List (L2.Key × L2.V)} {xs : List (L2.Key × Value)} (h : L2.KV ks xs) : xs.map (·.1) = ks.map (·.1) := by
  induction h with
  | nil => rfl
  | cons p _ ih => rw [List.map_cons, List.map_cons, ih, p.1]
def rSortedDK : List L2.V → Hp → L2.VK → Prop := fun vs H Q => ∃ (a : Addr) (ks : List (L2.Key × L2.V)) (ns : List Int), vs = [L2.V.ref a] ∧ H a = some (.dK ks) ∧ ks.map (·.1) = ns.map Sum.inl ∧
  ∀ (ns' : List Int) (p : Addr), ns'.Perm ns → ns'.Pairwise (· ≤ ·) → H p = none → Q (.ref p) (L2.upd H p (.lst (ns'.map L2.V.int)))
theorem cr_sortedDK {X : L2.Cx} (hc : X.calm = true) : L2.CallR X (.builtin "sorted") rSortedDK := by
  intro pins s σ H vs us Q I r h
  obtain ⟨a, ks, ns, rfl, ha, hk, q⟩ := h
  have held := I.ok.hd hc
  rw [L2.Vals.ref1 r]
  obtain ⟨size, other, xs, rel, dict⟩ := L2.dk_rd I.hok (.inl ha)
  obtain ⟨ep, there⟩ := dict.dictAt
  have keys := (kv_keys rel).trans hk
  have many : xs.length = ns.length := by simpa using congrArg List.length keys
  have few : xs.length ≤ sizeLine := by
    have := congrArg List.length (kv_keys rel)
    simp at this
    omega
  have source := kdl_dict (prog := X.prog) (w := X.w) (knd := L2.mixKind X.prog X.w) (d := a) (kvs := xs) (ep := ep) other
  refine Calls.call_function_entry kind_sorted plain_sorted entry_sorted (args_sorted1 _) ?_
  unfold Builtin.«sorted»
  refine wpAny_bind (m := checkCount "sorted" 1 1 _) (wpAny_pure (wpAny_bind (kdu_collect (A := X.A.in1) source held there few fun h1 t1 acc old items => ?_)))
  have long : acc.toList.length = xs.length := by rw [Array.length_toList]; exact items.1
  have nums : IntsAre acc.toList ns := ints_keys (by rw [long, many]) fun j v i hv hi => by
    obtain ⟨k, x, hx, is⟩ := items.2 j v (by rw [← Array.getElem?_toList]; exact hv)
    have e : (xs.map (·.1))[j]? = some k := by rw [List.getElem?_map, hx]; rfl
    rw [keys, List.getElem?_map, hi] at e
    cases e
    exact int_key is
  refine wpAny_bind (wpAny_newList ?_ (by rw [long]; exact few))
  have made : (h1.push (seqObj "list" acc.toList.toArray 0)).get? h1.objs.size = some (seqObj "list" acc.toList.toArray 0) := Heap.get?_push_size _ rfl
  have sort := SrtO.list_sort_ord (prog := X.prog) (w := X.w) (A := X.A.in1.in1) (s := { s with heap := h1.push (seqObj "list" acc.toList.toArray 0), toks := t1 }) (E := X.xe) (vs := acc.toList)
    (R := fun fin s' => ∃ out : List Value, fin = .done (.ret .none) ∧ SrtO.Srtd SrtO.ltIv out ∧ SrtO.Stb SrtO.ltIv out acc.toList ∧ s' = { s with heap := sortedHeap (h1.push (seqObj "list" acc.toList.toArray 0)) h1.objs.size acc.toList out.toArray, toks := t1 })
    SrtO.swo_int made (by rw [long]; exact few) (fun two => SrtO.ints_sortable nums two) fun out g1 g2 => ⟨out, rfl, g1, g2, rfl⟩
  refine wpAny_bind (wpAny_holding (wpAny_call_entry slot_list_sort ⟨_, made, rfl⟩ entry_list_sort (wpAny_mono sort (fun fin s' ⟨out, e1, g1, g2, e2⟩ => ?_) fun _ _ z => z) (args_list_sort _)))
  subst e1; subst e2
  refine ⟨_, rfl, wpAny_pure ⟨_, rfl, ?_⟩⟩
  obtain ⟨k1, k2, k3⟩ := SrtO.ints_out nums g1 g2
  obtain ⟨ep', at'⟩ := sortedHeap_at (vs := acc.toList) (out := out.toArray) made
  have I1 : L2.Inv X pins σ H { s with heap := h1, toks := t1 } := I.kept (t' := t1) old
  have small : ((out.map SrtO.iv).map L2.V.int).length ≤ sizeLine := by
    rw [List.length_map, k2.length_eq, ← many]; exact few
  refine ⟨.ref h1.objs.size, L2.upd H h1.objs.size (.lst ((out.map SrtO.iv).map L2.V.int)), I1.laid (t' := t1) (fun b u z1 => ?_) (Nat.le_refl _) ⟨small, out, ep', L2.vals_of_ints k1, at'⟩, rfl, q _ _ k2 k3 (I1.hok.fresh (Nat.le_refl _))⟩
  have z2 := Heap.lt_size z1
  rw [sortedHeap_old (Nat.ne_of_lt z2) (by rw [size_push']; exact Nat.lt_succ_of_lt z2)]
  exact Heap.get?_push_of_some _ z1
theorem real_sortedDB {K : Kf} : RealB K rSortedDK sortedDB :=
  realB1 (kb1 (fun _ _ h => h) fun x y xs st Q h => by cases x <;> exact h) fun f st H x v Q' Q s r h l => by
    cases x <;> try (exact h.elim)
    rw [RD.ref] at r
    obtain ⟨a, e, rfl⟩ := r
    obtain ⟨kvs, ns, h1, h2, h3⟩ := h
    obtain ⟨a', ks, k1, k2, k3, k4⟩ := s.rdD h1
    rw [e] at k1; cases k1
    exact ⟨a, ks, ns, rfl, k2, k3.trans h2, fun ns' p hp hi hn => l.lst s (h3 ns' hp hi) (RDs.of_ints ns') hn⟩
end
section
variable {X : L2.Cx} {K : Kf} {pos : Pos}
open L2 in
/-- y = {k: v for ..}: the name is written within the comprehension's frame -/
theorem asg_dc {i : Nat} {y : Str} {py line : Pos} {kx vx tg iter : Expr} {ifs : List Expr} {scope : Scope} {own : List (Str × Nat)} {wi : L2.TI} {g : L2.TG} {tt : L2.TT} {tk tv : L2.TE} (calm : X.calm = true) (nd : X.N.Nodup) (slot : X.N[i]? = some y) (local' : X.env.scope.names.lookup y = some .local)
    (sw : swapsWith (.DictComp kx vx [⟨tg, iter, ifs, 0⟩] scope pos) (some (.Name y py)) line.line X.env = pure true) (hi : L2.PI X tg iter wi) (ok : L2.BlkOk X.N X.env.scope scope own)
    (hg : ∀ (s : Shared) (H : Hp) (C : Addr) (cl : List (Str × Addr)) (fp : List Addr), L2.PG (X.blk s H scope (compEnvC scope cl C X.env) fp) tg g)
    (ht : ∀ (s : Shared) (H : Hp) (C : Addr) (cl : List (Str × Addr)) (fp : List Addr), L2.PTs (X.blk s H scope (compEnvC scope cl C X.env) fp) ifs tt)
    (hk : ∀ (s : Shared) (H : Hp) (C : Addr) (cl : List (Str × Addr)) (fp : List Addr), L2.PE (X.blk s H scope (compEnvC scope cl C X.env) fp) kx tk)
    (hv : ∀ (s : Shared) (H : Hp) (C : Addr) (cl : List (Str × Addr)) (fp : List Addr), L2.PE (X.blk s H scope (compEnvC scope cl C X.env) fp) vx tv) (fold : ∀ x, foldedSetIterable iter X.env x = pure x := by intro _; rfl) :
    L2.PS X (.Assign [.Name y py] (.DictComp kx vx [⟨tg, iter, ifs, 0⟩] scope pos) line) (fun D σ H => L2.tDc wi g tt tk tv (own.map (·.2)) σ H fun x H1 => L2.gName i x σ H1 D.nx) := by
  constructor
  intro pins s σ H D I want
  rw [exec_Assign_Name_used _ _ _ _ sw]
  have made := L2.dc_core (pos := pos) (use := some (assign (.Name y py) X.env)) (pos' := firstIterPos [⟨tg, iter, ifs, 0⟩] pos) (Qf := fun _ s' => L2.SP X pins D .next s') calm nd I hi ok hg ht hk hv fold want fun L C s1 m H1 I1 at' ns ⟨fr0, fr1, fr2, fr3, fr4, fr5⟩ => by
    show wpAny _ _ (assign (.Name y py) X.env (.ref L)) _ _ _
    refine wpAny_assign_Name (L2.store_ok2 (v := L2.V.ref L) I1 nd slot (.inl local') rfl (fun s2 I2 ⟨b, same, where'⟩ => ?_) (.inr local'))
    have apart : C ≠ b := where'.elim (fun z => by rw [z]; exact fr1) fun z e => fr4 y b z e.symm
    exact ⟨m, ns.sameBut same apart, fun h3 sb3 => ⟨_, H1, I2.turned (t' := s2.toks) (fun c o hc z => (sb3.2 c hc).trans z) fr0 fr1 fr3 fr4 fr5, at'⟩⟩
  refine wpAny_bind (wpAny_standAt (wpAny_bind ?_))
  show wpAny _ X.A (comprehension (.DictComp kx vx [⟨tg, iter, ifs, 0⟩] scope pos) scope X.env (firstIterPos [⟨tg, iter, ifs, 0⟩] pos) newDict false (eval iter X.env) (some (assign (.Name y py) X.env)) >>= fun _ => pure ()) _ _ s
  exact wpAny_bind (wpAny_mono made (fun _ s' q => wpAny_pure (wpAny_pure q)) fun _ _ z => z)
theorem swD_true {kx vx : Expr} {gs : List Comprehension} {scope : Scope} {py : Pos} {y : Str} {l : Nat} {env : PySem.Env} (kind : env.scope.kind = .function) (loc : env.scope.names.lookup y = some .local) (at' : (py.line == pos.line) = true)
    (free : (scope.names.any fun (n, k) => n == y && (k == .local || k == .cell)) = false) : swapsWith (.DictComp kx vx gs scope pos) (some (.Name y py)) l env = pure true := by
  have k1 : env.kindOf y = some .local := loc
  have k2 : env.blockKind = .function := by unfold PySem.Env.blockKind; rw [kind]; rfl
  unfold swapsWith
  simp only [k1, k2, free, Expr.pos, at']
  rfl
theorem ps_setDc {j : Nat} {y : Str} {py spos : Pos} {kx vx tg iter : Expr} {ifs : List Expr} {scope : Scope} {own : List (Str × Nat)} {wi : TI} {g : TG} {tt : TT} {tk tv : TE} {ws : List Nat} (hc : X.calm = true) (hN : X.N.Nodup) (hy : X.N[j]? = some y) (hyl : X.env.scope.names.lookup y = some .local)
    (hsw : swapsWith (.DictComp kx vx [⟨tg, iter, ifs, 0⟩] scope pos) (some (.Name y py)) spos.line X.env = pure true) (hi : PDI X tg iter wi) (ok : L2.BlkOk X.N X.env.scope scope own)
    (hg : ∀ (s : Shared) (H : Hp) (C : Addr) (cl : List (Str × Addr)) (fp : List Addr), PDG (X.blk s H scope (compEnvC scope cl C X.env) fp) tg g ws) (ht : ∀ (s : Shared) (H : Hp) (C : Addr) (cl : List (Str × Addr)) (fp : List Addr), PDTs (X.blk s H scope (compEnvC scope cl C X.env) fp) ifs tt)
    (hk : ∀ (s : Shared) (H : Hp) (C : Addr) (cl : List (Str × Addr)) (fp : List Addr), PD (X.blk s H scope (compEnvC scope cl C X.env) fp) kx tk) (he : ∀ (s : Shared) (H : Hp) (C : Addr) (cl : List (Str × Addr)) (fp : List Addr), PD (X.blk s H scope (compEnvC scope cl C X.env) fp) vx tv)
    (hws : ∀ j, j ∈ ws → j ∈ own.map (·.2)) (hs : ∀ x, foldedSetIterable iter X.env x = pure x := by intro _; rfl) :
    PDS X (.Assign [.Name y py] (.DictComp kx vx [⟨tg, iter, ifs, 0⟩] scope pos) spos) (sAsg (dDc wi g tt tk tv (own.map (·.2))) (gName j)) :=
  ps_imp (asg_dc hc hN hy hyl hsw hi ok hg ht hk he hs) fun D σ H ⟨f, ρ, st, D', R, h, l⟩ =>
    dc_core (Q := fun x H1 => L2.gName j x σ H1 D.nx) hws ⟨f, ρ, st, _, R, h, fun x st1 v f1 H1 q e1 s1 r1 => l.nx _ st1 _ f1 H1 q e1 ((R.later e1 s1).put r1)⟩
end
end Pd
end PartPdSoundI

section PartPdMore3
set_option Elab.async false
set_option linter.all false
set_option maxRecDepth 100000
/-! Pd: more readings: list.extend of lists and tuples, list.pop(), list.reverse(), range downwards. Own work. -/
namespace Pd
open PySem
/-- extend by a list or a tuple -/
def extendAM : KM
  | .ref n, [.tup ys], st, Q => ∃ xs, rdL st n xs ∧ xs.length + ys.length ≤ szl ∧ Q .non (st.set n (.lst (xs ++ ys)))
  | x, ys, st, Q => extendM x ys st Q
/-- .pop() -/
def popEM : KM
  | .ref n, [], st, Q => ∃ xs d, rdL st n (xs ++ [d]) ∧ Q d (st.set n (.lst xs))
  | _, _, _, _ => False
def reverseM : KM
  | .ref n, [], st, Q => ∃ xs, rdL st n xs ∧ Q .non (st.set n (.lst xs.reverse))
  | _, _, _, _ => False
/-- a method without arguments -/
def dM0 (ty : D → Store → Prop) (k : KM) (to : TE) : TE := fun σ st Q => to σ st fun o st1 => ty o st1 ∧ k o [] st1 Q
def rngD (hi : Int) (n : Nat) : List D := (List.range n).map fun (k : Nat) => D.int (hi - k)
/-- range(i, j, -1) -/
def iRD (t u : TE) : TI := fun σ st R => t σ st fun x st1 => u σ st1 fun y st2 => ∃ i j, x = .int i ∧ y = .int j ∧ (-(2 ^ 62) ≤ i ∧ i < 2 ^ 62 ∧ -(2 ^ 62) ≤ j ∧ j < 2 ^ 62) ∧ R ⟨rngD i (i - j).toNat, fun _ => True⟩ st2
section
variable {σ : Env} {st : Store} {Q : K} {ta tb to : TE} {ty : D → Store → Prop} {k : KM}
instance : Red (dM0 ty k to σ st Q) (to σ st fun o st1 => ty o st1 ∧ k o [] st1 Q) := ⟨id⟩
instance {R : Iter → Store → Prop} : Red (iRD ta tb σ st R) (ta σ st fun x st1 => tb σ st1 fun y st2 => ∃ i j, x = .int i ∧ y = .int j ∧ (-(2 ^ 62) ≤ i ∧ i < 2 ^ 62 ∧ -(2 ^ 62) ≤ j ∧ j < 2 ^ 62) ∧ R ⟨rngD i (i - j).toNat, fun _ => True⟩ st2) := ⟨id⟩
end
theorem extendT_at {st : Store} {n : Nat} {xs ys : List D} {Q : K} (h : rdL st n xs) (hl : xs.length + ys.length ≤ szl) (q : Q .non (st.set n (.lst (xs ++ ys)))) : extendAM (.ref n) [.tup ys] st Q := ⟨xs, h, hl, q⟩
theorem pop_at {st : Store} {n : Nat} {xs : List D} {d : D} {Q : K} (h : rdL st n (xs ++ [d])) (q : Q d (st.set n (.lst xs))) : popEM (.ref n) [] st Q := ⟨xs, d, h, q⟩
/-- over range(i, j, -1) -/
theorem for_rngD {gd : Store → Prop} {g : TG} {tb : TS} {D0 : Ends} {hi : Int} {n : Nat} {σ : Env} {st : Store} (Pv : Nat → Env → Store → Prop) (h0 : Pv 0 σ st)
    (hs : ∀ k σ st, k < n → Pv k σ st → ∀ N : Env → Store → Prop, (∀ σ st, Pv (k + 1) σ st → N σ st) → gd st ∧ g (.int (hi - k)) σ st fun σ2 st2 => tb { D0 with nx := N, ct := N, bk := D0.nx } σ2 st2)
    (hd : ∀ σ st, Pv n σ st → gd st ∧ D0.nx σ st) : forLoop gd g tb D0 (rngD hi n) σ st := by
  refine for_by (fun pre σ st => Pv pre.length σ st) h0 (fun pre x post σ st e h N hN => ?_) (fun σ st h => hd σ st (by simpa [rngD] using h))
  have hl : pre.length < n := by
    have := congrArg List.length e
    simp [rngD] at this
    omega
  have hx : x = .int (hi - pre.length) := by
    have h2 : (rngD hi n)[pre.length]? = some x := by rw [e]; simp
    unfold rngD at h2
    rw [List.getElem?_map, List.getElem?_range hl] at h2
    simpa using h2.symm
  subst hx
  exact hs pre.length σ st hl h N fun σ st h' => hN σ st (by simpa using h')
end Pd
end PartPdMore3

section PartPdSoundK
set_option Elab.async false
set_option linter.all false
set_option maxRecDepth 100000
set_option maxHeartbeats 1000000
/-! Pd over the hand layer: list.extend, list.pop(), list.reverse(), range downwards. Own work. -/
namespace Pd
open PySem PySem.Spec
section
variable {X : L2.Cx} {K : Kf} {f f' : List Addr} {H H' : Hp} {st st' : Store} {ρ : Env} {σ : L2.St}
def rExtT (K : Kf) : L2.V → List L2.V → Hp → L2.VK → Prop := fun x vs H Q => ∃ l b xs zs, x = .ref l ∧ vs = [.ref b] ∧ H l = some (.lst xs) ∧ L2.SqT K H b zs ∧ xs.length + zs.length ≤ sizeLine ∧ Q .non (L2.upd H l (.lst (xs ++ zs)))
section
open PyProof.Rows L2
theorem list_extend_tup (l : Addr) (items : Array Value) (n : Nat) (b : Addr) (items2 : Array Value) (hs0 : ¬(!items.isEmpty && Builtin.List.listTooLong (items.size + items2.size)) = true) (hs1 : items.size ≤ sizeLine) (hs2 : items.size + items2.size ≤ sizeLine + 1) :
    Meets (Builtin.«list.extend» ⟨[.ref l, .ref b], []⟩) (fun _ R s => s.heap.get? l = some { cls := .type "list", dict := none, data := .seq items n, slots := #[] } ∧ (∃ (od : Option Addr) (os2 : Array (Option Value)) (n2 : Nat), s.heap.get? b = some { cls := .type "tuple", dict := od, data := .seq items2 n2, slots := os2 }) ∧ R (.ok (.ret Value.none)) { s with heap := s.heap.update l (Obj.mapSeq fun x => x ++ items2), toks := s.toks }) :=
  .of_wp fun prog w A R s h => by
    obtain ⟨hp, g, d, tk, os⟩ := s; obtain ⟨hl, ⟨od, os2, n2, hb⟩, h⟩ := h
    have f1 := AutoSeq1.idx_int; have f2 := AutoSeq1.sub_tuple_tuple; have f3 := AutoSeq1.sub_list_list; have f4 := AutoSeq1.sub_tuple_list; have f5 := AutoSeq1.sub_list_tuple
    have hz' : (items ++ items2).size ≤ sizeLine + 1 := by rw [Array.size_append]; exact hs2
    wp_walk using (wpAny_updateSeq hl rfl (hz := hs1) (_hz' := hz')), AutoSeq1.wpAny_loadPart' hl, AutoSeq1.wpAny_loadPart' hb; exact ⟨_, rfl, h⟩
end
theorem mt_extT : L2.MtR X "list.extend" (rExtT X.K) := by
  intro pins s σ H x vs v us Q I rx rv h
  obtain ⟨l, b, xs, zs, rfl, rfl, hH, hB, hz, q⟩ := h
  cases rx
  obtain ⟨u, rfl, ru⟩ := rv.one
  cases ru
  obtain ⟨z, its, n, r, hl, e⟩ := I.lstM hH
  obtain ⟨its2, r2, ⟨o2, e2, c2, n2, d2⟩, z2⟩ := I.tuple hB
  have hl2 := r2.length
  obtain ⟨ocls, odict, odata, oslots⟩ := o2
  simp only at c2 d2
  subst c2; subst d2
  have hsz : its.toArray.size + its2.toArray.size ≤ sizeLine := by rw [List.size_toArray, List.size_toArray]; omega
  have hlong : ¬ (!its.toArray.isEmpty && Builtin.List.listTooLong (its.toArray.size + its2.toArray.size)) = true := by
    rw [L2.notLongL hsz, Bool.and_false]
    exact Bool.false_ne_true
  refine call_meets F.slot_list_extend ⟨_, e, rfl⟩ F.entry_list_extend (F.args_list_extend_2 _ _)
    (list_extend_tup l its.toArray n b its2.toArray hlong (by rw [List.size_toArray]; omega) (by omega)) ⟨e, ⟨odict, oslots, n2, e2⟩, ?_⟩
  refine ⟨.non, _, I.lset (its' := its ++ its2) hH e (by simp) (r.append r2) ?_, rfl, q⟩
  rw [List.length_append]
  omega
theorem real_extendA : RealM K (fun x vs H Q => rExtT K x vs H Q ∨ L2.rExtend x vs H Q) extendAM := fun f st H x xs v vs Q' Q s r1 r2 h l => by
  by_cases ht : ∃ n ys, x = .ref n ∧ xs = [.tup ys]
  · obtain ⟨n, ys, rfl, rfl⟩ := ht
    obtain ⟨zs, h1, h2, h3⟩ := h
    rw [RD.ref] at r1
    obtain ⟨a, e, rfl⟩ := r1
    obtain ⟨w, rfl, r3⟩ := r2.inv1
    rw [RD.tup] at r3
    obtain ⟨b, ws, rfl, j2, j3⟩ := r3
    obtain ⟨a', us, k1, k2, k3⟩ := s.rdL h1
    rw [e] at k1; cases k1
    obtain ⟨s', e'⟩ := s.put e h1 k2 (k3.append j3)
    exact .inl ⟨a, b, us, ws, rfl, rfl, k2, j2, by rw [k3.length, j3.length, ← szl_eq]; exact h2, l _ _ _ f _ h3 e' s' (RD.non.mpr rfl)⟩
  · have h' : extendM x xs st Q' := by
      unfold extendAM at h
      split at h
      · exact absurd ⟨_, _, rfl, rfl⟩ ht
      · exact h
    exact .inr (real_extend f st H x xs v vs Q' Q s r1 r2 h' l)
theorem mt_extendA : L2.MtR X "list.extend" (fun x vs H Q => rExtT X.K x vs H Q ∨ L2.rExtend x vs H Q) := L2.MtR.or mt_extT L2.mt_extend
theorem real_popE : RealM K L2.rPop popEM := fun f st H x xs v vs Q' Q s r1 r2 h l => by
  cases x <;> try (exact h.elim)
  match xs, h with
  | _ :: _, h => exact h.elim
  | [], h =>
    obtain ⟨ys, d, h1, h2⟩ := h
    rw [RD.ref] at r1
    obtain ⟨a, e, rfl⟩ := r1
    rw [RDs.nil] at r2
    subst r2
    obtain ⟨a', us, k1, k2, k3⟩ := s.rdL h1
    rw [e] at k1; cases k1
    have hlen := k3.length
    rw [List.length_append] at hlen
    have hlen : us.length = ys.length + 1 := hlen
    obtain ⟨w, hw, rw'⟩ := k3.get (i := ys.length) (d := d) (by simp)
    have kd : RDs K f H ys us.dropLast := by
      have := k3.take ys.length
      rw [List.take_left] at this
      rw [List.dropLast_eq_take, hlen]
      exact this
    obtain ⟨s', e'⟩ := s.put e h1 k2 kd
    exact ⟨a, us, w, rfl, rfl, k2, by rw [hlen]; exact hw, l _ _ _ f _ h2 e' s' (rw'.mono e')⟩
theorem RDs.reverse : ∀ {ds : List D} {vs : List L2.V}, RDs K f H ds vs → RDs K f H ds.reverse vs.reverse
  | [], _, h => by rw [RDs.nil] at h; subst h; simp [RDs.nil]
  | d :: ds, _, h => by
    rw [RDs.cons] at h
    obtain ⟨v, r, rfl, h2, h3⟩ := h
    rw [List.reverse_cons, List.reverse_cons]
    exact (RDs.reverse h3).append (RDs.one h2)
theorem real_reverse : RealM K L2.rReverse reverseM := fun f st H x xs v vs Q' Q s r1 r2 h l => by
  cases x <;> try (exact h.elim)
  match xs, h with
  | _ :: _, h => exact h.elim
  | [], h =>
    obtain ⟨ys, h1, h2⟩ := h
    rw [RD.ref] at r1
    obtain ⟨a, e, rfl⟩ := r1
    rw [RDs.nil] at r2
    subst r2
    obtain ⟨a', us, k1, k2, k3⟩ := s.rdL h1
    rw [e] at k1; cases k1
    obtain ⟨s', e'⟩ := s.put e h1 k2 k3.reverse
    exact ⟨a, us, rfl, rfl, k2, l _ _ _ f _ h2 e' s' (RD.non.mpr rfl)⟩
section
variable {o : Expr} {to : TE} {pos apos : Pos} {name : Str} {T id : String}
theorem pd_m0 {r : L2.V → List L2.V → Hp → L2.VK → Prop} {k : KM} {ty : D → Store → Prop} (hm : L2.MtR X id r) (hk : RealM X.K r k) (ht : RealTy X.K T ty) (pa : PlainAttrs T) (slot : Slot T name id) (hty : typeOf (.builtin id) = pure (.type "method_descriptor")) (ho : PD X o to)
    (hbase : attributeBase o name X.env (eval o X.env) = eval o X.env := by rfl) (hline : (apos.endLine == pos.line) = true := by rfl) : PD X (.Call (.Attribute o name apos) [] [] pos) (dM0 ty k to) :=
  pe_imp (L2.pe_bm0 pa slot hty hm ho hbase hline) fun σ H Q ⟨f, ρ, st, Q', R, h, l⟩ => ⟨f, ρ, st, _, R, h, fun x st1 v f1 H1 q1 e1 s1 r1 => ⟨ht f1 st1 H1 x v s1 r1 q1.1, hk f1 st1 H1 x [] v [] Q' Q s1 r1 (RDs.nil.mpr rfl) q1.2 (l.later e1)⟩⟩
end
theorem realI_rngD {i : Int} {n : Nat} : RealI K f H ⟨rngD i n, fun _ => True⟩ (L2.Itc i (-1) n) where
  go := fun k f2 st2 H2 e2 s2 g hk => by
    have : k < (rngD i n).length := hk
    unfold rngD at this
    rw [List.length_map, List.length_range] at this
    exact this
  stop := fun f2 st2 H2 e2 s2 g => by
    show n ≤ (rngD i n).length
    unfold rngD
    simp
  yld := fun k f2 st2 H2 d x H3 e2 s2 g hd y => by
    obtain ⟨rfl, rfl⟩ := y
    refine ⟨.refl, s2, ?_⟩
    have hd' : (rngD i n)[k]? = some d := hd
    unfold rngD at hd'
    rw [List.getElem?_map] at hd'
    cases q : (List.range n)[k]? with
    | none => rw [q] at hd'; cases hd'
    | some j =>
      rw [q] at hd'
      obtain ⟨h1, h2⟩ := List.getElem?_eq_some_iff.mp q
      simp at h2
      subst h2
      simp at hd'
      subst hd'
      rw [RD.int]
      congr 1
      omega
theorem pi_rD {tg a b : Expr} {ta tb : TE} {p p1 p2 pos : Pos} {k1 : _} (hg : L2.Gl X "range") (hm : X.mg "range" = none) (h : PD X a ta) (h' : PD X b tb)
    (hs : starEach [a, b, .UnaryOp .USub (.Constant (.int 1) k1 p1) p2] X.env = (false, eval a X.env) :: starEach [b, .UnaryOp .USub (.Constant (.int 1) k1 p1) p2] X.env := by rfl) (hs2 : starEach [b, .UnaryOp .USub (.Constant (.int 1) k1 p1) p2] X.env = (false, eval b X.env) :: starEach [.UnaryOp .USub (.Constant (.int 1) k1 p1) p2] X.env := by rfl)
    (hs3 : starEach [.UnaryOp .USub (.Constant (.int 1) k1 p1) p2] X.env = (false, eval (.UnaryOp .USub (.Constant (.int 1) k1 p1) p2) X.env) :: starEach [] X.env := by rfl) (hpl : (backTo pos (starEach [b, .UnaryOp .USub (.Constant (.int 1) k1 p1) p2] X.env)).any (·.1) = false := by rfl) :
    PDI X tg (.Call (.Name "range" p) [a, b, .UnaryOp .USub (.Constant (.int 1) k1 p1) p2] [] pos) (iRD ta tb) :=
  pi_imp (L2.pi_range3 hg hm (L2.pa_cons h (L2.pa_cons h' (L2.pa_cons (pd_neg pd_int) L2.pa_nil hs3) hs2) hs) hs hpl) fun σ H R ⟨f, ρ, st, R', Re, h, l⟩ => ⟨f, ρ, st, _, Re, h, fun x st1 v f1 H1 q1 e1 s1 r1 => ⟨f1, ρ, st1, _, Re.later e1 s1, q1, fun y st2 w f2 H2 q2 e2 s2 r2 => by
    obtain ⟨i, j, rfl, rfl, ⟨b1, b2, b3, b4⟩, h3⟩ := q2
    have r1' := r1.mono e2
    rw [RD.int] at r1' r2
    subst r1'; subst r2
    refine ⟨f2, ρ, st2, fun z st3 => z = .int (-1) ∧ st3 = st2, Re.later (e1.trans e2) s2, ⟨rfl, rfl⟩, fun z st3 u f3 H3 q3 e3 s3 r3 => ?_⟩
    obtain ⟨rfl, rfl⟩ := q3
    rw [RD.int] at r3
    subst r3
    exact ⟨i, j, -1, _, rfl, L2.RgC.neg b1 b2 b3 b4, l _ _ _ f3 H3 h3 ((e1.trans e2).trans e3) s3 realI_rngD⟩⟩⟩
end
end Pd
end PartPdSoundK

section PartPdMore5
set_option Elab.async false
set_option linter.all false
set_option maxRecDepth 100000
/-! Pd: more readings: zip of a tuple and a list; list(reversed(a list)). Own work. -/
namespace Pd
open PySem
def zipTLK : D → D → Store → (Iter → Store → Prop) → Prop
  | .tup xs, .ref n, st, R => ∃ ys, rdA st n ys ∧ R ⟨zipD xs ys, fun s => rdA s n ys⟩ st
  | _, _, _, _ => False
def iZipTL (t u : TE) : TI := fun σ st R => t σ st fun x st1 => u σ st1 fun y st2 => zipTLK x y st2 R
/-- list(reversed(a list)) -/
def revK : D → Store → K → Prop
  | .ref n, st, Q => ∃ xs, rdL st n xs ∧ Q (.ref st.length) (st ++ [.lst xs.reverse])
  | _, _, _ => False
def dLRv (t : TE) : TE := fun σ st Q => t σ st fun x st1 => revK x st1 Q
theorem rev_at {st : Store} {n : Nat} {xs : List D} {Q : K} (h : rdL st n xs) (q : Q (.ref st.length) (st ++ [.lst xs.reverse])) : revK (.ref n) st Q := ⟨xs, h, q⟩
instance {σ : Env} {st : Store} {ta : TE} {Q : K} : Red (dLRv ta σ st Q) (ta σ st fun x st1 => revK x st1 Q) := ⟨id⟩
section
variable {σ : Env} {st : Store} {ta tb : TE}
instance {R : Iter → Store → Prop} : Red (iZipTL ta tb σ st R) (ta σ st fun x st1 => tb σ st1 fun y st2 => zipTLK x y st2 R) := ⟨id⟩
end
theorem zipTL_at {st : Store} {n : Nat} {xs ys : List D} {R : Iter → Store → Prop} (h : rdL st n ys) (q : R ⟨zipD xs ys, fun s => rdA s n ys⟩ st) : zipTLK (.tup xs) (.ref n) st R := ⟨ys, .inl h, q⟩
end Pd
end PartPdMore5

section PartPdSoundN
set_option Elab.async false
set_option linter.all false
set_option maxRecDepth 100000
set_option maxHeartbeats 1000000
/-! Pd over the hand layer: list(reversed(a list)). Own work. -/
namespace PdN
open PySem PySem.Spec PyProof.Rows RT
section
variable {prog : Program} {w : World} {A : Around} {E : Value → Shared → Prop} {s : Shared}
theorem rev_extend {it l S : Addr} {items : Array Value} {R : Result → Shared → Prop} (hh : A.handled = none) (hit : s.heap.IsRevIter it l ((items.size : Int) - 1)) (hl : s.heap.IsList l items) (hne : l ≠ it) (hn : items.size ≤ sizeLine) (hSi : S ≠ it) (hSl : S ≠ l) (res : Value) (c₀ : Nat) (hS : s.heap.get? S = some { cls := .type "list", data := .seq #[] c₀ })
    (hR : ∀ h' tk acc' c', (∀ b o, b ≠ S → b ≠ it → s.heap.get? b = some o → h'.get? b = some o) → h'.get? S = some { cls := .type "list", dict := none, data := .seq acc' c', slots := #[] } → ItemsOf (fun i v => items[items.size - 1 - i]? = some v) acc' items.size → R (.ok (.ret res)) { s with heap := h', toks := tk }) :
    wpAny (model prog w) A.in1 (Builtin.List.listExtendWith (.ref S) (.ref it) res)
      (fun fin s' => match fin with | .done f => R (.ok f) s' | .again c' => c'.quiet = true ∧ codeAny (model prog w) A c' R s') (fun e s' => R (.error e) s') s := by
  have W := (Walks.listRev (prog := prog) (w := w) (A := A.in1) hh it l hne items).toS
  have hSf : S ∉ [it, l] := by simp only [List.mem_cons, List.not_mem_nil, or_false, not_or]; exact ⟨hSi, hSl⟩
  have hT : s.TypeIs (.ref it) "list_reverseiterator" := Heap.IsRevIter.typeIs (s := s) hit
  have h1 : Builtin.List.listSameRef (.ref S) (.ref it) = false := by simp [Builtin.List.listSameRef, hSi]
  unfold Builtin.List.listExtendWith
  refine wpAny_bind (wpAny_typeOf hT ?_)
  rw [if_neg (by rw [h1]; decide)]
  refine wpAny_bind (wpAny_pyIter_revIter hit ?_)
  refine wpAny_bind (wpAny_holding ?_)
  unfold Builtin.List.listLengthHint
  refine wpAny_bind (wpAny_specialOf hT nolen_lri ?_)
  show wpAny _ A.in1 (specialOf (Value.ref it) (Str.ofString "__length_hint__") >>= _) _ _ _
  refine wpAny_bind (wpAny_specialOf hT hint_lri ?_)
  generalize hid : ("list_reverseiterator.__length_hint__" : String) = id0
  wp_delta
  rw [show splitId id0 = some ("list_reverseiterator", "__length_hint__") from by subst hid; decide +kernel]
  subst hid
  refine wpAny_bind (wpAny_isInstance (b := true) hT (by rw [isSubtype_type]; kernel_rfl) ?_)
  refine wpAny_pure ?_
  rw [if_neg (by decide)]
  have e0 : ((items.size : Nat) : Int) - 1 - ((0 : Nat) : Int) = (items.size : Int) - 1 := by omega
  refine wpAny_pure ⟨plainId_quiet F.plain_extend_loop _, codeAny_extend_loopS W hn _ hSf _ items.size 0 _ _ _ rfl (Nat.zero_le _) ⟨Nat.zero_le _, by rw [e0]; exact hit, hl⟩ hS (ItemsOf.nil _) fun s' acc' c' hm hS' hacc => ?_⟩
  rw [Moved.eq_with hm]
  refine hR s'.heap s'.toks acc' c' (fun b o hb hb2 e => hm.heap b o (fun hmem => ?_) e) hS' hacc
  rcases List.mem_cons.mp hmem with e' | hmem
  · exact hb e'
  · exact hb2 (List.mem_singleton.mp hmem)
theorem rev_init {it l S : Addr} {items : Array Value} {R : Result → Shared → Prop} (hh : A.handled = none) (hit : s.heap.IsRevIter it l ((items.size : Int) - 1)) (hl : s.heap.IsList l items) (hne : l ≠ it) (hn : items.size ≤ sizeLine) (hSi : S ≠ it) (hSl : S ≠ l) (hS : s.heap.get? S = some { cls := .type "list", data := .seq #[] })
    (hR : ∀ h' tk acc' c', (∀ b o, b ≠ S → b ≠ it → s.heap.get? b = some o → h'.get? b = some o) → h'.get? S = some { cls := .type "list", dict := none, data := .seq acc' c', slots := #[] } → ItemsOf (fun i v => items[items.size - 1 - i]? = some v) acc' items.size → R (.ok (.ret .none)) { s with heap := h', toks := tk }) :
    wpAny (model prog w) A.in1 (Builtin.«list.__init__» ⟨[.ref S, .ref it], []⟩)
      (fun fin s' => match fin with | .done f => R (.ok f) s' | .again c' => c'.quiet = true ∧ codeAny (model prog w) A c' R s') (fun e s' => R (.error e) s') s := by
  show wpAny _ _ (do let old ← Builtin.List.listItems (.ref S); Builtin.List.listUpdate (.ref S) (fun _ => #[]); letGo old.toList.reverse; Builtin.List.listExtendWith (.ref S) (.ref it) .none) _ _ s
  refine wpAny_bind ?_
  unfold Builtin.List.listItems
  refine wpAny_bind (wpAny_seqItems hS rfl (wpAny_pure ?_))
  show wpAny _ _ (updateSeq S (fun _ => #[]) >>= fun _ => letGo (#[] : Array Value).toList.reverse >>= fun _ => Builtin.List.listExtendWith (.ref S) (.ref it) .none) _ _ s
  refine wpAny_bind (wpAny_updateSeq hS rfl ?_)
  have hS₂ := Heap.get?_update_self (Obj.mapSeq (fun _ => (#[] : Array Value))) hS rfl
  have oth : ∀ b o, b ≠ S → s.heap.get? b = some o → (s.heap.update S (Obj.mapSeq (fun _ => (#[] : Array Value)))).get? b = some o :=
    fun b o hb e => (Heap.get?_update_other _ _ (Ne.symm hb)).trans e
  refine wpAny_bind (wpAny_letGo ?_)
  refine rev_extend hh (hit.at fun o e => oth _ o (Ne.symm hSi) e) (hl.at fun o e => oth _ o (Ne.symm hSl) e) hne hn hSi hSl .none _ hS₂ (fun h' tk acc' c' hk hS' hacc => ?_)
  exact hR h' tk acc' c' (fun b o hb hb2 e => hk b o hb hb2 (oth b o hb e)) hS' hacc
theorem rev_call {it l : Addr} {items : Array Value} {Q : Value → Shared → Prop} (hh : A.handled = none) (hit : s.heap.IsRevIter it l ((items.size : Int) - 1)) (hl : s.heap.IsList l items) (hne : l ≠ it) (hn : items.size ≤ sizeLine)
    (hQ : ∀ h' tk acc' c', (∀ b o, b ≠ it → s.heap.get? b = some o → h'.get? b = some o) → h'.get? s.heap.objs.size = some { cls := .type "list", dict := none, data := .seq acc' c', slots := #[] } → ItemsOf (fun i v => items[items.size - 1 - i]? = some v) acc' items.size → Q (.ref s.heap.objs.size) { s with heap := h', toks := tk }) :
    wpAny (model prog w) A (call (.type "list") [.ref it]) Q E s := by
  refine callType_codes (Q₁ := fun obj s₁ => obj = .ref s.heap.objs.size ∧ s₁ = { s with heap := s.heap.push { cls := .type "list", data := .seq #[] } }) PySem.F.called_list (PySem.F.typeCall_list_1 _) PySem.F.entry_list_init
    (code_list_new _ ⟨rfl, rfl⟩) fun obj s₁ h₁ => ?_
  obtain ⟨rfl, rfl⟩ := h₁
  have hS : (s.heap.push { cls := .type "list", data := .seq #[] }).get? s.heap.objs.size = some { cls := .type "list", data := .seq #[] } := Heap.get?_push_size _ rfl
  obtain ⟨oi, hoi, _⟩ := id hit
  obtain ⟨ol, hol, _⟩ := id hl
  refine ⟨⟨_, hS, rfl⟩, PySem.F.args_list_init_2 _ _, rev_init (A := A.in1) hh (hit.at fun o e => Heap.get?_push_of_some _ e) (hl.push _) hne hn (Nat.ne_of_gt (Heap.lt_size hoi)) (Nat.ne_of_gt (Heap.lt_size hol)) hS (fun h' tk acc' c' hk hS' hacc => ?_)⟩
  exact ⟨rfl, hQ h' tk acc' c' (fun b o hb e => hk b o (Nat.ne_of_lt (Heap.lt_size e)) hb (Heap.get?_push_of_some _ e)) hS' hacc⟩
end
section
open L2
variable {X : L2.Cx}
/-- list(reversed(x)), x a list: a new list -/
def tLstRev (K : PySem.W.Frag) (te : L2.TE) : L2.TE := fun σ H Q => te σ H fun v H1 => ∃ (a : Addr) (xs : List L2.V), v = .ref a ∧ L2.SqL K H1 a xs ∧ ∀ q, H1 q = none → Q (.ref q) (L2.upd H1 q (.lst xs.reverse))
theorem pe_lstRev {e : Expr} {te : L2.TE} {p p2 pos pos2 : Pos} (hc : X.calm = true) (hg : L2.Gl X "list") (hm : X.mg "list" = none) (hg2 : L2.Gl X "reversed") (hm2 : X.mg "reversed" = none) (he : L2.PE X e te)
    (hs : starEach [e] X.env = (false, eval e X.env) :: starEach [] X.env := by rfl)
    (hs2 : starEach [.Call (.Name "reversed" p2) [e] [] pos2] X.env = (false, eval (.Call (.Name "reversed" p2) [e] [] pos2) X.env) :: starEach [] X.env := by rfl) :
    L2.PE X (.Call (.Name "list" p) [.Call (.Name "reversed" p2) [e] [] pos2] [] pos) (tLstRev X.K te) := by
  refine ⟨fun pins s σ H Q I h => ?_⟩
  refine Call_ (L2.ld_blt I hg hm (by rfl) (PyProof.Rows.callWith_type1 (args_cons (Call_ (L2.ld_blt I hg2 hm2 PyProof.Rows.boot_reversed (PyProof.Rows.callWith_type1 (args_cons (L2.thn (he.run pins s σ H _ I h) fun u s1 ⟨v, H1, I1, r1, q1⟩ => args_nil ?_) hs) hs rfl))) hs2) hs2 rfl))
  obtain ⟨a, xs, ev, hq, q⟩ := q1
  subst ev
  obtain rfl : u = Value.ref a := r1
  obtain ⟨its, rv, p', hz⟩ := I1.list hq
  refine call_reversed_list p'.isList (args_nil ?_)
  have k0 : ∀ b o, s1.heap.get? b = some o → (s1.heap.push (revObj a ((its.toArray.size : Int) - 1))).get? b = some o := fun b o e => Heap.get?_push_of_some _ e
  have I2 : L2.Inv X pins σ H1 { s1 with heap := s1.heap.push (revObj a ((its.toArray.size : Int) - 1)) } := I1.kept (t' := s1.toks) k0
  have fp : L2.FpOk X pins H1 s1.heap.objs.size := I1.fpOk (H' := H1) (b := s1.heap.objs.size) (Nat.le_refl _) (I1.hok.fresh (Nat.le_refl _))
  have hl := p'.isList
  obtain ⟨ol, hol, _⟩ := id hl
  have hne : a ≠ s1.heap.objs.size := Nat.ne_of_lt (Heap.lt_size hol)
  have hn : its.toArray.size ≤ sizeLine := by rw [List.size_toArray, ← rv.length]; exact hz
  refine rev_call (s := { s1 with heap := s1.heap.push (revObj a ((its.toArray.size : Int) - 1)) }) (I1.ok.hd hc) ⟨_, Heap.get?_push_size _ rfl, rfl, rfl⟩ (hl.push _) hne hn fun h' tk acc c' hk hS hi => ?_
  have new : L2.ObjOk X.prog X.w (L2.upd H1 (s1.heap.push (revObj a ((its.toArray.size : Int) - 1))).objs.size (.lst xs.reverse)) h' (s1.heap.push (revObj a ((its.toArray.size : Int) - 1))).objs.size (.lst xs.reverse) :=
    ⟨by rw [List.length_reverse]; exact hz, acc.toList, c', vals_rev rv hi, by rw [Array.toArray_toList]; exact hS⟩
  have I3 := I2.turnedNew (t' := tk) (h' := h') (ch := [s1.heap.objs.size]) (fun c o hb e => hk c o (fun q' => hb (by simp [q'])) e) (fun b hb => by rw [List.mem_singleton] at hb; rw [hb]; exact fp) (Nat.le_refl _) new
  exact ⟨.ref (s1.heap.push (revObj a ((its.toArray.size : Int) - 1))).objs.size, _, I3, rfl, q _ (I2.hok.fresh (Nat.le_refl _))⟩
end
end PdN
namespace Pd
open PySem PySem.Spec
section
variable {X : L2.Cx}
theorem pd_lstRev {a : Expr} {ta : TE} {p p2 pos pos2 : Pos} (hc : X.calm = true) (hg : L2.Gl X "list") (hm : X.mg "list" = none) (hg2 : L2.Gl X "reversed") (hm2 : X.mg "reversed" = none) (ha : PD X a ta)
    (hs : starEach [a] X.env = (false, eval a X.env) :: starEach [] X.env := by rfl)
    (hs2 : starEach [.Call (.Name "reversed" p2) [a] [] pos2] X.env = (false, eval (.Call (.Name "reversed" p2) [a] [] pos2) X.env) :: starEach [] X.env := by rfl) :
    PD X (.Call (.Name "list" p) [.Call (.Name "reversed" p2) [a] [] pos2] [] pos) (dLRv ta) :=
  pe_imp (PdN.pe_lstRev hc hg hm hg2 hm2 ha hs hs2) fun σ H Q ⟨f, ρ, st, Q', R, h, l⟩ => ⟨f, ρ, st, _, R, h, fun x st1 v f1 H1 q1 e1 s1 r1 => by
    cases x <;> try (exact q1.elim)
    rw [RD.ref] at r1
    obtain ⟨b, e, rfl⟩ := r1
    obtain ⟨xs, h0, h1⟩ := q1
    obtain ⟨b', vs, g1, g2, g3⟩ := s1.rdA (.inl h0)
    rw [e] at g1; cases g1
    exact ⟨b, vs, rfl, g2, fun q hq => (l.later e1).lst s1 h1 g3.reverse hq⟩⟩
end
end Pd
end PartPdSoundN

section PartPdMore10
set_option Elab.async false
set_option linter.all false
set_option maxRecDepth 100000
/-! Pd: more readings: a comprehension with two walks; a slice of a text. Own work. -/
namespace Pd
open PySem
/-- the inner walk, from acc on -/
def lcIn (gd : Store → Prop) (g : TG) (tt : TT) (te : TE) (ρ : Env) (n : Nat) (Nx : List D → Store → Prop) : List D → List D → Store → Prop
  | [], acc, st => gd st ∧ rdL st n acc ∧ Nx acc st
  | x :: xs, acc, st => gd st ∧ g x ρ st fun ρ2 st2 => tt ρ2 st2 fun b st3 =>
      (b = true → te ρ2 st3 fun y st4 => rdL st4 n acc ∧ acc.length < szl ∧ lcIn gd g tt te ρ n Nx xs (acc ++ [y]) (st4.set n (.lst (acc ++ [y])))) ∧ (b = false → rdL st3 n acc ∧ lcIn gd g tt te ρ n Nx xs acc st3)
def lcOut (gd : Store → Prop) (g : TG) (tt : TT) (w1 : TI) (g1 : TG) (tt1 : TT) (te : TE) (ρ : Env) (vs1 : List Nat) (n : Nat) (Q : K) : List D → List D → Store → Prop
  | [], acc, st => gd st ∧ rdL st n acc ∧ Q (.ref n) st
  | x :: xs, acc, st => gd st ∧ g x ρ st fun ρ2 st2 => tt ρ2 st2 fun b st3 =>
      (b = true → w1 ρ2 st3 fun I1 st4 => lcIn I1.guard g1 tt1 te (wipeE ρ2 vs1) n (fun acc' st5 => lcOut gd g tt w1 g1 tt1 te ρ vs1 n Q xs acc' st5) I1.items acc st4) ∧ (b = false → rdL st3 n acc ∧ lcOut gd g tt w1 g1 tt1 te ρ vs1 n Q xs acc st3)
def dLc2 (i : TI) (g : TG) (tt : TT) (w1 : TI) (g1 : TG) (tt1 : TT) (te : TE) (vs vs1 : List Nat) : TE := fun σ st Q => i σ st fun I st1 => lcOut I.guard g tt w1 g1 tt1 te (wipeE σ vs) vs1 st1.length Q I.items [] (st1 ++ [.lst []])
section
variable {σ σ' : Env} {st : Store} {Q : K}
instance {i : TI} {g : TG} {T : TT} {w1 : TI} {g1 : TG} {T1 : TT} {te : TE} {vs vs1 : List Nat} [h : WipeE σ vs σ'] : Red (dLc2 i g T w1 g1 T1 te vs vs1 σ st Q) (i σ st fun I st1 => lcOut I.guard g T w1 g1 T1 te σ' vs1 st1.length Q I.items [] (st1 ++ [.lst []])) := ⟨fun p => by unfold dLc2; rw [h.eq]; exact p⟩
end
/-- a slice of a text -/
def slSK : D → Option Int → Option Int → Store → K → Prop
  | .str z, lo, hi, st, Q => z.length ≤ szl ∧ Q (.str ⟨(cutD z.cps.toList lo hi).toArray⟩) st
  | _, _, _, _, _ => False
def dSlS (te : TE) (tl th : TO) : TE := fun σ st Q => te σ st fun x st1 => tl σ st1 fun lo st2 => th σ st2 fun hi st3 => slSK x lo hi st3 Q
instance {σ : Env} {st : Store} {te : TE} {tl th : TO} {Q : K} : Red (dSlS te tl th σ st Q) (te σ st fun x st1 => tl σ st1 fun lo st2 => th σ st2 fun hi st3 => slSK x lo hi st3 Q) := ⟨id⟩
end Pd
end PartPdMore10

section PartPdSoundS
set_option Elab.async false
set_option linter.all false
set_option maxRecDepth 100000
set_option maxHeartbeats 1000000
/-! Pd over the hand layer: comprehensions with two walks; slices of texts. Own work. -/
namespace Pd
open PySem PySem.Spec
section
variable {X : L2.Cx} {K : Kf} {f f' : List Addr} {H H' : Hp} {st st' : Store} {ρ : Env} {σ : L2.St}
theorem lc2_core {wi w1 : TI} {g g1 : TG} {tt tt1 : TT} {te : TE} {vs vs1 ws ws1 : List Nat} {Q : L2.VK} (hws : ∀ j, j ∈ ws → j ∈ vs) (hws1 : ∀ j, j ∈ ws1 → j ∈ vs1) (h : lift K (dLc2 wi g tt w1 g1 tt1 te vs vs1) σ H Q) :
    L2.tLc2 (liftI K wi) (liftG K g ws) (liftT K tt) (liftI K w1) (liftG K g1 ws1) (liftT K tt1) (lift K te) vs vs1 σ H Q := by
  obtain ⟨f, ρ, st, Q', R, h, l⟩ := h
  refine ⟨f, ρ, st, _, R, h, fun I st1 J f1 H1 q1 e1 s1 rI D hD => ?_⟩
  obtain ⟨s0, e0⟩ := s1.new (o := .lst []) (c := .lst []) hD ⟨[], L2.upd_same, RDs.nil.mpr rfl⟩
  have hn0 : (f1 ++ [D])[st1.length]? = some D := by rw [← s1.len]; simp
  refine ⟨fun i m H2 => m = I.items.length - i ∧ i ≤ I.items.length ∧ ∃ f2 st2 acc, Ext K (f1 ++ [D]) (L2.upd H1 D (.lst [])) f2 H2 ∧ RelS K f2 st2 H2 ∧ rdL st2 st1.length acc ∧ lcOut I.guard g tt w1 g1 tt1 te (wipeE ρ vs) vs1 st1.length Q' (I.items.drop i) acc st2,
    ⟨_, rfl, Nat.zero_le _, f1 ++ [D], st1 ++ [.lst []], [], .refl, s0, by unfold rdL; simp, by simpa using q1⟩, ?_⟩
  rintro i m H2 ⟨rfl, hi, f2, st2, acc, e2, s2, hacc, q2⟩
  have eI : Ext K f1 H1 f2 H2 := e0.trans e2
  by_cases hlt : i < I.items.length
  · have hd : I.items.drop i = I.items[i] :: I.items.drop (i + 1) := by rw [List.drop_eq_getElem_cons hlt]
    rw [hd] at q2
    obtain ⟨gd, q2⟩ := q2
    refine .inr ⟨rI.go i f2 st2 H2 eI s2 gd hlt, fun H3 => ∃ f3 st3 acc', Ext K (f1 ++ [D]) (L2.upd H1 D (.lst [])) f3 H3 ∧ RelS K f3 st3 H3 ∧ rdL st3 st1.length acc' ∧ lcOut I.guard g tt w1 g1 tt1 te (wipeE ρ vs) vs1 st1.length Q' (I.items.drop (i + 1)) acc' st3,
      fun H3 q3 => ⟨I.items.length - (i + 1), by omega, rfl, hlt, q3⟩, fun x H3 y => ?_⟩
    obtain ⟨e3, s3, r3⟩ := rI.yld i f2 st2 H2 I.items[i] x H3 eI s2 gd (by simp [hlt]) y
    have R3 : Rel K f2 (wipeE ρ vs) st2 (L2.wipe σ vs) H3 := (Rel.wipe R).later ((e1.trans eI).trans e3) s3
    refine ⟨f2, _, st2, I.items[i], _, R3, r3, q2, fun ρ4 st4 σ4 f4 H4 q4 e4 R4 o4 => ⟨Out.wipe ⟨o4.1, fun j hj => o4.2 j fun z => hj (hws j z)⟩, ?_⟩⟩
    refine ⟨f4, ρ4, st4, _, R4, q4, fun b st5 f5 H5 q5 e5 s5 => ?_⟩
    have e15 := e2.trans (e3.trans (e4.trans e5))
    cases b with
    | false =>
      obtain ⟨h1, h2⟩ := q5.2 rfl
      exact ⟨f5, st5, acc, e15, s5, h1, h2⟩
    | true =>
      have R5 : Rel K f5 ρ4 st5 σ4 H5 := R4.later e5 s5
      refine ⟨f5, ρ4, st5, _, R5, q5.1 rfl, fun I1 st6 J1 f6 H6 q6 e6 s6 rI1 => ?_⟩
      have e16 := e15.trans e6
      refine ⟨fun j k H7 => k = I1.items.length - j ∧ j ≤ I1.items.length ∧ ∃ f7 st7 acc7, Ext K f6 H6 f7 H7 ∧ RelS K f7 st7 H7 ∧ lcIn I1.guard g1 tt1 te (wipeE ρ4 vs1) st1.length (fun acc' st' => lcOut I.guard g tt w1 g1 tt1 te (wipeE ρ vs) vs1 st1.length Q' (I.items.drop (i + 1)) acc' st') (I1.items.drop j) acc7 st7,
        ⟨_, rfl, Nat.zero_le _, f6, st6, acc, .refl, s6, by simpa using q6⟩, ?_⟩
      rintro j k H7 ⟨rfl, hj, f7, st7, acc7, e7, s7, q7⟩
      have e17 := e16.trans e7
      by_cases hlt1 : j < I1.items.length
      · have hd1 : I1.items.drop j = I1.items[j] :: I1.items.drop (j + 1) := by rw [List.drop_eq_getElem_cons hlt1]
        rw [hd1] at q7
        obtain ⟨gd1, q7⟩ := q7
        refine .inr ⟨rI1.go j f7 st7 H7 e7 s7 gd1 hlt1, fun H8 => ∃ f8 st8 acc8, Ext K f6 H6 f8 H8 ∧ RelS K f8 st8 H8 ∧ lcIn I1.guard g1 tt1 te (wipeE ρ4 vs1) st1.length (fun acc' st' => lcOut I.guard g tt w1 g1 tt1 te (wipeE ρ vs) vs1 st1.length Q' (I.items.drop (i + 1)) acc' st') (I1.items.drop (j + 1)) acc8 st8,
          fun H8 q8 => ⟨I1.items.length - (j + 1), by omega, rfl, hlt1, q8⟩, fun x1 H8 y1 => ?_⟩
        obtain ⟨e8, s8, r8⟩ := rI1.yld j f7 st7 H7 I1.items[j] x1 H8 e7 s7 gd1 (by simp [hlt1]) y1
        have R8 : Rel K f7 (wipeE ρ4 vs1) st7 (L2.wipe σ4 vs1) H8 := (Rel.wipe R5).later ((e6.trans e7).trans e8) s8
        refine ⟨f7, _, st7, I1.items[j], _, R8, r8, q7, fun ρ9 st9 σ9 f9 H9 q9 e9 R9 o9 => ⟨Out.wipe ⟨o9.1, fun j hj => o9.2 j fun z => hj (hws1 j z)⟩, ?_⟩⟩
        refine ⟨f9, ρ9, st9, _, R9, q9, fun b st10 f10 H10 q10 e10 s10 => ?_⟩
        have e6to10 := e7.trans (e8.trans (e9.trans e10))
        cases b with
        | false =>
          obtain ⟨h1, h2⟩ := q10.2 rfl
          exact ⟨f10, st10, acc7, e6to10, s10, h2⟩
        | true =>
          refine ⟨f10, ρ9, st10, _, R9.later e10 s10, q10.1 rfl, fun y st11 v f11 H11 q11 e11 s11 r11 => ?_⟩
          obtain ⟨h1, h2, h3⟩ := q11
          have e111 := (e16.trans e6to10).trans e11
          obtain ⟨a', us, k1, k2, k3⟩ := s11.rdL h1
          rw [e111.at hn0] at k1; cases k1
          obtain ⟨s12, e12⟩ := s11.put (e111.at hn0) h1 k2 (k3.append (RDs.one r11))
          exact ⟨us, k2, by rw [k3.length, ← szl_eq]; exact h2, f11, _, acc7 ++ [y], (e6to10.trans e11).trans e12, s12, h3⟩
      · have e : j = I1.items.length := by omega
        subst e
        rw [List.drop_length] at q7
        obtain ⟨gd1, h1, h2⟩ := q7
        exact .inl ⟨rI1.stop f7 st7 H7 e7 s7 gd1, f7, st7, acc7, e17, s7, h1, h2⟩
  · have e : i = I.items.length := by omega
    subst e
    rw [List.drop_length] at q2
    obtain ⟨gd, h1, h2⟩ := q2
    exact .inl ⟨rI.stop f2 st2 H2 eI s2 gd, l _ st2 _ f2 H2 h2 (e1.trans eI) s2 (RD.ref.mpr ⟨D, e2.at hn0, rfl⟩)⟩
section
variable {c : Expr} {pos : Pos}
theorem pd_lc2 {elt tg iter tg1 iter1 : Expr} {ifs ifs1 : List Expr} {scope : Scope} {own : List (Str × Nat)} {vs1 ws ws1 : List Nat} {wi w1 : TI} {g g1 : TG} {tt tt1 : TT} {te : TE} (hc : X.calm = true) (hN : X.N.Nodup) (hi : PDI X tg iter wi) (ok : L2.BlkOk X.N X.env.scope scope own)
    (hg : ∀ (s : Shared) (H : Hp) (C : Addr) (cl : List (Str × Addr)) (fp : List Addr), PDG (X.blk s H scope (compEnvC scope cl C X.env) fp) tg g ws) (ht : ∀ (s : Shared) (H : Hp) (C : Addr) (cl : List (Str × Addr)) (fp : List Addr), PDTs (X.blk s H scope (compEnvC scope cl C X.env) fp) ifs tt)
    (hi1 : ∀ (s : Shared) (H : Hp) (C : Addr) (cl : List (Str × Addr)) (fp : List Addr), PDI (X.blk s H scope (compEnvC scope cl C X.env) fp) tg1 iter1 w1)
    (hg1 : ∀ (s : Shared) (H : Hp) (C : Addr) (cl : List (Str × Addr)) (fp : List Addr), PDG (X.blk s H scope (compEnvC scope cl C X.env) fp) tg1 g1 ws1) (ht1 : ∀ (s : Shared) (H : Hp) (C : Addr) (cl : List (Str × Addr)) (fp : List Addr), PDTs (X.blk s H scope (compEnvC scope cl C X.env) fp) ifs1 tt1)
    (he : ∀ (s : Shared) (H : Hp) (C : Addr) (cl : List (Str × Addr)) (fp : List Addr), PD (X.blk s H scope (compEnvC scope cl C X.env) fp) elt te) (hws : ∀ j, j ∈ ws → j ∈ own.map (·.2)) (hws1 : ∀ j, j ∈ ws1 → j ∈ vs1) (hv : ∀ j, j ∈ vs1 → j ∈ own.map (·.2))
    (hs : ∀ x, foldedSetIterable iter X.env x = pure x := by intro _; rfl) (hs1 : ∀ env x, foldedSetIterable iter1 env x = pure x := by intro _ _; rfl) :
    PD X (.ListComp elt [⟨tg, iter, ifs, 0⟩, ⟨tg1, iter1, ifs1, 0⟩] scope pos) (dLc2 wi g tt w1 g1 tt1 te (own.map (·.2)) vs1) :=
  pe_imp (L2.pe_lc2 hc hN hi ok hv hg ht hi1 hg1 ht1 he hs hs1) fun σ H Q h => lc2_core hws hws1 h
theorem ps_setLc2 {j : Nat} {y : Str} {py spos : Pos} {elt tg iter tg1 iter1 : Expr} {ifs ifs1 : List Expr} {scope : Scope} {own : List (Str × Nat)} {vs1 ws ws1 : List Nat} {wi w1 : TI} {g g1 : TG} {tt tt1 : TT} {te : TE} (hc : X.calm = true) (hN : X.N.Nodup) (hy : X.N[j]? = some y) (hyl : X.env.scope.names.lookup y = some .local)
    (hsw : swapsWith (.ListComp elt [⟨tg, iter, ifs, 0⟩, ⟨tg1, iter1, ifs1, 0⟩] scope pos) (some (.Name y py)) spos.line X.env = pure true) (hi : PDI X tg iter wi) (ok : L2.BlkOk X.N X.env.scope scope own)
    (hg : ∀ (s : Shared) (H : Hp) (C : Addr) (cl : List (Str × Addr)) (fp : List Addr), PDG (X.blk s H scope (compEnvC scope cl C X.env) fp) tg g ws) (ht : ∀ (s : Shared) (H : Hp) (C : Addr) (cl : List (Str × Addr)) (fp : List Addr), PDTs (X.blk s H scope (compEnvC scope cl C X.env) fp) ifs tt)
    (hi1 : ∀ (s : Shared) (H : Hp) (C : Addr) (cl : List (Str × Addr)) (fp : List Addr), PDI (X.blk s H scope (compEnvC scope cl C X.env) fp) tg1 iter1 w1)
    (hg1 : ∀ (s : Shared) (H : Hp) (C : Addr) (cl : List (Str × Addr)) (fp : List Addr), PDG (X.blk s H scope (compEnvC scope cl C X.env) fp) tg1 g1 ws1) (ht1 : ∀ (s : Shared) (H : Hp) (C : Addr) (cl : List (Str × Addr)) (fp : List Addr), PDTs (X.blk s H scope (compEnvC scope cl C X.env) fp) ifs1 tt1)
    (he : ∀ (s : Shared) (H : Hp) (C : Addr) (cl : List (Str × Addr)) (fp : List Addr), PD (X.blk s H scope (compEnvC scope cl C X.env) fp) elt te) (hws : ∀ j, j ∈ ws → j ∈ own.map (·.2)) (hws1 : ∀ j, j ∈ ws1 → j ∈ vs1) (hv : ∀ j, j ∈ vs1 → j ∈ own.map (·.2))
    (hs : ∀ x, foldedSetIterable iter X.env x = pure x := by intro _; rfl) (hs1 : ∀ env x, foldedSetIterable iter1 env x = pure x := by intro _ _; rfl) :
    PDS X (.Assign [.Name y py] (.ListComp elt [⟨tg, iter, ifs, 0⟩, ⟨tg1, iter1, ifs1, 0⟩] scope pos) spos) (sAsg (dLc2 wi g tt w1 g1 tt1 te (own.map (·.2)) vs1) (gName j)) :=
  ps_imp (L2.ps_setLc2 hc hN hy hyl hsw hi ok hv hg ht hi1 hg1 ht1 he hs hs1) fun D σ H ⟨f, ρ, st, D', R, h, l⟩ =>
    lc2_core (Q := fun x H1 => L2.gName j x σ H1 D.nx) hws hws1 ⟨f, ρ, st, _, R, h, fun x st1 v f1 H1 q e1 s1 r1 => l.nx _ st1 _ f1 H1 q e1 ((R.later e1 s1).put r1)⟩
/-- x[lo:hi] of a text -/
theorem pd_slS {a : Expr} {ta : TE} {lo hi : Option Expr} {tl th : TO} {p2 : Pos} (ha : PD X a ta) (hl : PDO X lo tl) (hh : PDO X hi th) : PD X (.Subscript a (.Slice lo hi none p2) pos) (dSlS ta tl th) := by
  refine pe_imp (L2.pe_slice L2.sl_str ha hl hh) fun σ H Q ⟨f, ρ, st, Q', R, h, l⟩ => ⟨f, ρ, st, _, R, h, fun x st1 v f1 H1 h1 e1 s1 r1 => ⟨f1, ρ, st1, _, R.later e1 s1, h1, fun o st2 f2 H2 h2 e2 s2 => ⟨f2, ρ, st2, _, R.later (e1.trans e2) s2, h2, fun o' st3 f3 H3 h3 e3 s3 => ?_⟩⟩⟩
  cases x <;> try (exact h3.elim)
  rename_i z
  rw [RD.str] at r1
  refine ⟨z, r1, by rw [← szl_eq]; exact h3.1, ?_⟩
  have e : L2.cutS z o o' = (⟨(cutD z.cps.toList o o').toArray⟩ : Str) := by
    have hl : z.length = z.cps.toList.length := by simp [Str.length]
    unfold L2.cutS cutD
    rw [sIx_cl, sIx_cl, hl]
  rw [e]
  exact l _ st3 _ f3 H3 h3.2 ((e1.trans e2).trans e3) s3 (RD.str.mpr rfl)
end
end
end Pd
end PartPdSoundS

section PartPdMore11
set_option Elab.async false
set_option linter.all false
set_option maxRecDepth 100000
/-! Pd: more readings of texts: a sign in a text, join, count, str of a number, a walk over the signs; a list's place from the end. Own work. -/
namespace Pd
open PySem
/-- a sign in a text -/
def inSgC : KC
  | .str x, .str z, _, Q => ∃ c, x.cps.toList = [c] ∧ Q (decide (c ∈ z.cps.toList))
  | _, _, _, _ => False
def notinSgC : KC := fun x y st Q => inSgC x y st fun b => Q (!b)
/-- sep.join(xs) -/
def joinM : KM
  | .str a, [.ref n], st, Q => ∃ ys : List Str, rdA st n (ys.map D.str) ∧ (ys.map (·.length)).sum + ys.length * a.length ≤ 16777216 ∧ Q (.str (PySem.Txt.join a ys)) st
  | .str a, [.tup xs], st, Q => ∃ ys : List Str, xs = ys.map D.str ∧ (ys.map (·.length)).sum + ys.length * a.length ≤ 16777216 ∧ Q (.str (PySem.Txt.join a ys)) st
  | _, _, _, _ => False
/-- x.count(y) of texts -/
def countSM : KM
  | .str a, [.str b], st, Q => Q (.int (PySem.Txt.count a b)) st
  | _, _, _, _ => False
/-- str(i) -/
def strIB : KB
  | [.int i], st, Q => i.natAbs.log2 < 1920 ∧ Q (.str (toString i : String)) st
  | _, _, _ => False
/-- the signs of a text -/
def sgD (z : Str) : List D := z.cps.toList.map fun c => D.str ⟨#[c]⟩
def iStrD (t : TE) : TI := fun σ st R => t σ st fun x st1 => ∃ z, x = .str z ∧ R ⟨sgD z, fun _ => True⟩ st1
/-- xs[i] = v, i from the end too -/
def ixJ (n : Nat) (i : Int) : Option Nat := if 0 ≤ i then (if i < n then some i.toNat else none) else if -(n : Int) ≤ i then some (i + n).toNat else none
def setNK : D → D → D → Store → (Store → Prop) → Prop
  | .ref n, .int i, v, st, Q => ∃ xs j, rdL st n xs ∧ ixJ xs.length i = some j ∧ Q (st.set n (.lst (xs.set j v)))
  | _, _, _, _, _ => False
def gSubN (to ti : TE) : TG := fun v σ st Q => to σ st fun o st1 => ti σ st1 fun i st2 => setNK o i v st2 fun st3 => Q σ st3
section
variable {σ : Env} {st : Store} {Q : K} {ta to ti : TE} {d : D} {u v : Str} {r : Bool → Prop}
instance : Red (strIB [.int i] st Q) (i.natAbs.log2 < 1920 ∧ Q (.str (toString i : String)) st) := ⟨id⟩
instance : Red (countSM (.str u) [.str v] st Q) (Q (.int (PySem.Txt.count u v)) st) := ⟨id⟩
instance {R : Iter → Store → Prop} : Red (iStrD ta σ st R) (ta σ st fun x st1 => ∃ z, x = .str z ∧ R ⟨sgD z, fun _ => True⟩ st1) := ⟨id⟩
instance {q : Env → Store → Prop} : Red (gSubN to ti d σ st q) (to σ st fun o st1 => ti σ st1 fun i st2 => setNK o i d st2 fun st3 => q σ st3) := ⟨id⟩
end
end Pd
end PartPdMore11

section PartPdSoundT
set_option Elab.async false
set_option linter.all false
set_option maxRecDepth 100000
set_option maxHeartbeats 1000000
/-! Pd over the hand layer: texts, constants of the module. Own work. -/
namespace Pd
open PySem PySem.Spec
section
variable {X : L2.Cx} {K : Kf} {f f' : List Addr} {H H' : Hp} {st st' : Store} {ρ : Env} {σ : L2.St}
theorem real_insg : RealC K (fun x y H Q => ∃ (c : Nat) (z : Str), x = .str ⟨#[c]⟩ ∧ y = .str z ∧ Q (.bl (decide (c ∈ z.cps.toList))) H) inSgC := fun f st H x y v w Q' Q s r1 r2 h l => by
  cases x <;> try (exact h.elim)
  cases y <;> try (exact h.elim)
  rename_i x z
  obtain ⟨c, e, q⟩ := h
  rw [RD.str] at r1 r2
  have ex : x = ⟨#[c]⟩ := by
    obtain ⟨cps⟩ := x
    obtain ⟨l⟩ := cps
    have e' : l = [c] := e
    rw [e']
  rw [ex] at r1
  exact ⟨c, z, r1, r2, l _ q⟩
theorem real_notinsg : RealC K (fun x y H Q => ∃ (c : Nat) (z : Str), x = .str ⟨#[c]⟩ ∧ y = .str z ∧ Q (.bl (!decide (c ∈ z.cps.toList))) H) notinSgC := fun f st H x y v w Q' Q s r1 r2 h l => by
  cases x <;> try (exact (show False from h).elim)
  cases y <;> try (exact (show False from h).elim)
  rename_i x z
  obtain ⟨c, e, q⟩ := h
  rw [RD.str] at r1 r2
  have ex : x = ⟨#[c]⟩ := by
    obtain ⟨cps⟩ := x
    obtain ⟨l⟩ := cps
    have e' : l = [c] := e
    rw [e']
  rw [ex] at r1
  exact ⟨c, z, r1, r2, l _ q⟩
theorem RDs.strs : ∀ {ys : List Str} {vs : List L2.V}, RDs K f H (ys.map D.str) vs → vs = ys.map L2.V.str
  | [], _, h => by rw [List.map_nil, RDs.nil] at h; subst h; rfl
  | n :: ns, _, h => by
    rw [List.map_cons, RDs.cons] at h
    obtain ⟨v, r, rfl, h2, h3⟩ := h
    rw [RD.str] at h2
    rw [h2, RDs.strs h3]; rfl
theorem real_join : RealM K (fun x xs H Q => ∃ a p, ∃ ys : List Str, x = .str a ∧ xs = [.ref p] ∧ (L2.SqL K H p (ys.map L2.V.str) ∨ L2.SqT K H p (ys.map L2.V.str)) ∧ (ys.map (·.length)).sum + ys.length * a.length ≤ 16777216 ∧ Q (.str (Txt.join a ys)) H) joinM := fun f st H x xs v vs Q' Q s r1 r2 h l => by
  cases x <;> try (exact h.elim)
  rename_i a
  rw [RD.str] at r1
  match xs, h with
  | [], h => exact h.elim
  | y :: _ :: _, h => cases y <;> exact (show False from h).elim
  | [y], h =>
    obtain ⟨w, rfl, r3⟩ := r2.inv1
    cases y <;> try (exact h.elim)
    · rw [RD.tup] at r3
      obtain ⟨p, us, rfl, t, d⟩ := r3
      obtain ⟨ys, rfl, hz, q⟩ := h
      have e := RDs.strs d
      subst e
      exact ⟨a, p, ys, r1, rfl, .inr t, hz, l.now s q (RD.str.mpr rfl)⟩
    · rw [RD.ref] at r3
      obtain ⟨p, e, rfl⟩ := r3
      obtain ⟨ys, g1, hz, q⟩ := h
      obtain ⟨p', us, k1, k2, d⟩ := s.rdA g1
      rw [e] at k1; cases k1
      have e := RDs.strs d
      subst e
      exact ⟨a, p, ys, r1, rfl, .inl k2, hz, l.now s q (RD.str.mpr rfl)⟩
theorem real_countS : RealM K (fun x xs H Q => ∃ a b, x = .str a ∧ xs = [.str b] ∧ Q (.int (Txt.count a b)) H) countSM := fun f st H x xs v vs Q' Q s r1 r2 h l => by
  cases x <;> try (exact h.elim)
  rename_i a
  rw [RD.str] at r1
  match xs, h with
  | [], h => exact h.elim
  | y :: _ :: _, h => cases y <;> exact (show False from h).elim
  | [y], h =>
    obtain ⟨w, rfl, r3⟩ := r2.inv1
    cases y <;> try (exact h.elim)
    rename_i b
    rw [RD.str] at r3
    exact ⟨a, b, r1, by rw [r3], l.now s h (RD.int.mpr rfl)⟩
theorem real_strI : RealB K (fun xs H Q => ∃ i, xs = [.int i] ∧ i.natAbs.log2 < 1920 ∧ Q (.str (toString i : String)) H) strIB :=
  realB1 (kb1 (fun _ _ h => h) fun x y xs st Q h => by cases x <;> exact h) fun f st H x v Q' Q s r h l => by
    cases x <;> try (exact h.elim)
    rw [RD.int] at r; subst r
    exact ⟨_, rfl, h.1, l.now s h.2 (RD.str.mpr rfl)⟩
theorem realI_str {z : Str} : RealI K f H ⟨sgD z, fun _ => True⟩ (L2.Its z) where
  go := fun i f2 st2 H2 e2 s2 g hi => by
    have : i < z.cps.toList.length := by simpa [sgD] using hi
    show i < z.cps.size
    simpa using this
  stop := fun f2 st2 H2 e2 s2 g => by
    show z.cps.size ≤ (sgD z).length
    simp [sgD]
  yld := fun i f2 st2 H2 d x H3 e2 s2 g hd y => by
    obtain ⟨rfl, c, hc, rfl⟩ := y
    refine ⟨.refl, s2, ?_⟩
    have hd' : (sgD z)[i]? = some d := hd
    unfold sgD at hd'
    rw [List.getElem?_map, Array.getElem?_toList, hc] at hd'
    cases hd'
    exact RD.str.mpr rfl
section
variable {a b c e o i : Expr} {es : List Expr} {ta tb te to ti : TE} {pos tpos : Pos}
theorem pi_strD {tg : Expr} (h : PD X a ta) : PDI X tg a (iStrD ta) :=
  pi_imp (L2.pi_str h) fun σ H R ⟨f, ρ, st, R', Re, h, l⟩ => ⟨f, ρ, st, _, Re, h, fun x st1 v f1 H1 q1 e1 s1 r1 => by
    obtain ⟨z, rfl, q⟩ := q1
    rw [RD.str] at r1
    exact ⟨z, r1, l _ st1 _ f1 H1 q e1 s1 realI_str⟩⟩
theorem real_setN : RealSet K L2.rSetL setNK := fun f st H o i v ov iv vv Q' Q s r1 r2 r3 h l => by
  cases o <;> try (exact h.elim)
  cases i <;> try (exact h.elim)
  rename_i n i
  rw [RD.ref] at r1
  rw [RD.int] at r2
  obtain ⟨a, e, rfl⟩ := r1
  obtain ⟨xs, j, h1, h2, h4⟩ := h
  obtain ⟨a', vs, k1, k2, k3⟩ := s.rdL h1
  rw [e] at k1; cases k1
  obtain ⟨s', e'⟩ := s.put e h1 k2 (k3.set j r3)
  exact ⟨a, vs, i, j, rfl, r2, k2, by rw [k3.length]; exact h2, l _ _ h4 e' s'⟩
theorem pg_subN (h1 : PD X o to) (h2 : PD X i ti) (ha : ∀ v, assign (.Subscript o i pos) X.env v = (do
      let ov ← holding [v] (eval o X.env)
      let iv ← holding [v, ov] (eval i X.env)
      standAt pos
      holding [v, ov, iv] (setItem ov iv v)
      release [v, ov, iv] []) := by intro _; rfl) : PDG X (.Subscript o i pos) (gSubN to ti) [] :=
  pg_imp (L2.pg_sub h1 h2 L2.set_list ha) fun v σ H Q ⟨f, ρ, st, d, Q', R, r, h, l⟩ => ⟨f, ρ, st, _, R, h, fun x st1 u f1 H1 q1 e1 s1 r1 => ⟨f1, ρ, st1, _, R.later e1 s1, q1, fun y st2 w f2 H2 q2 e2 s2 r2 =>
    real_setN f2 st2 H2 x y d u w v _ _ s2 (r1.mono e2) r2 (r.mono (e1.trans e2)) q2 fun st3 H3 q3 e3 s3 => l ρ st3 σ f2 H3 q3 ((e1.trans e2).trans e3) (R.later ((e1.trans e2).trans e3) s3) .refl⟩⟩
end
/-! ### constants of the module -/
/-- at the name x stands d -/
def GlobIs (K : Kf) (mg : Str → Option Value) (x : Str) (d : D) : Prop := ∃ u, mg x = some u ∧ ∃ v, L2.RelV v u ∧ ∀ f H, RD K f H d v
theorem pd_globE {x : Str} {d : D} {pos : Pos} (h : GlobIs X.K X.mg x d) (hg : L2.Gl X x) (hd : (x == ("__debug__" : Str)) = false := by decide) : PD X (.Name x pos) (dC d) := by
  obtain ⟨u, h1, h2⟩ := h
  exact pd_glob hg h1 h2 hd
def strOk (u : Value) (s : Str) : Bool := match u with
  | .str z _ => decide (z = s)
  | _ => false
theorem glob_str {mg : Str → Option Value} {x s : Str} {u : Value} (h : mg x = some u) (e : strOk u s = true) : GlobIs K mg x (.str s) := by
  cases u <;> first | (cases e; done) | skip
  rename_i z t
  have e : z = s := by simpa [strOk] using e
  subst e
  exact ⟨_, h, .str z, ⟨t, rfl⟩, fun f H => RD.str.mpr rfl⟩
/-- a written item: a text, a number, a truth, None -/
def itOk (u : Value) (d : D) : Bool := match u, d with
  | .str z _, .str s => decide (z = s)
  | .int i _, .int j => decide (i = j)
  | .bool a, .bl b => a == b
  | .none, .non => true
  | _, _ => false
def itsOk : List Value → List D → Bool
  | [], [] => true
  | u :: us, d :: ds => itOk u d && itsOk us ds
  | _, _ => false
theorem it_rel {u : Value} {d : D} (e : itOk u d = true) : ∃ v, L2.RelV v u ∧ ∀ f H, RD K f H d v := by
  cases u <;> cases d <;> first | (cases e; done) | skip
  · exact ⟨.non, rfl, fun f H => RD.non.mpr rfl⟩
  · rename_i a b
    have e : a = b := by simpa [itOk] using e
    subst e
    exact ⟨.bl a, rfl, fun f H => RD.bl.mpr rfl⟩
  · rename_i i t j
    have e : i = j := by simpa [itOk] using e
    subst e
    exact ⟨.int i, ⟨t, rfl⟩, fun f H => RD.int.mpr rfl⟩
  · rename_i z t s
    have e : z = s := by simpa [itOk] using e
    subst e
    exact ⟨.str z, ⟨t, rfl⟩, fun f H => RD.str.mpr rfl⟩
theorem its_rel : ∀ {us : List Value} {ds : List D}, itsOk us ds = true → ∃ vs, L2.Vals vs us ∧ ∀ f H, RDs K f H ds vs
  | [], [], _ => ⟨[], .nil, fun f H => RDs.nil.mpr rfl⟩
  | [], _ :: _, e => by cases e
  | _ :: _, [], e => by cases e
  | u :: us, d :: ds, e => by
    have e' : itOk u d = true ∧ itsOk us ds = true := by simpa [itsOk] using e
    obtain ⟨v, h1, h2⟩ := it_rel e'.1
    obtain ⟨vs, h3, h4⟩ := its_rel e'.2
    exact ⟨v :: vs, .cons h1 h3, fun f H => RDs.cons.mpr ⟨v, vs, rfl, h2 f H, h4 f H⟩⟩
theorem glob_tup {mg : Str → Option Value} {x : Str} {a : Addr} {oc : Value} {od : Option Addr} {its : Array Value} {n : Nat} {sl : Array (Option Value)} {ds : List D} (h : mg x = some (.ref a)) (l : K.lookup a = some ⟨oc, od, .seq its n, sl⟩) (c : oc = .type "tuple")
    (e : (itsOk its.toList ds && decide (its.size ≤ 1000)) = true) : GlobIs K mg x (.tup ds) := by
  have e' : itsOk its.toList ds = true ∧ its.size ≤ 1000 := by simpa using e
  obtain ⟨vs, h1, h2⟩ := its_rel e'.1
  refine ⟨_, h, .ref a, rfl, fun f H => RD.tup.mpr ⟨a, vs, rfl, .inr ⟨_, its, n, l, c, rfl, ?_, h1⟩, h2 f H⟩⟩
  have := e'.2
  unfold sizeLine
  omega
end
end Pd
end PartPdSoundT

section PartPdMore12
set_option Elab.async false
set_option linter.all false
set_option maxRecDepth 100000
/-! Pd: more readings: a written dict of the module, keys texts. Own work. -/
namespace Pd
open PySem
def inGK (kvs : List (Str × D)) : D → Store → K → Prop
  | .str z, st, Q => Q (.bl (kvs.any fun p => decide (p.1 = z))) st
  | _, _, _ => False
def notinGK (kvs : List (Str × D)) : D → Store → K → Prop
  | .str z, st, Q => Q (.bl (!kvs.any fun p => decide (p.1 = z))) st
  | _, _, _ => False
def getGK (kvs : List (Str × D)) : D → Store → K → Prop
  | .str z, st, Q => ∃ p, kvs.find? (fun p => decide (p.1 = z)) = some p ∧ Q p.2 st
  | _, _, _ => False
section
variable {kvs : List (Str × D)} {z : Str} {st : Store} {Q : K}
instance : Red (inGK kvs (.str z) st Q) (Q (.bl (kvs.any fun p => decide (p.1 = z))) st) := ⟨id⟩
instance : Red (notinGK kvs (.str z) st Q) (Q (.bl (!kvs.any fun p => decide (p.1 = z))) st) := ⟨id⟩
instance : Red (getGK kvs (.str z) st Q) (∃ p, kvs.find? (fun p => decide (p.1 = z)) = some p ∧ Q p.2 st) := ⟨id⟩
end
end Pd
end PartPdMore12

section PartPdSoundU
set_option Elab.async false
set_option linter.all false
set_option maxRecDepth 100000
set_option maxHeartbeats 1000000
/-! Pd over the hand layer: written dicts of the module. Own work. -/
namespace Pd
open PySem PySem.Spec
section
variable {X : L2.Cx} {K : Kf} {f f' : List Addr} {H H' : Hp} {st st' : Store} {ρ : Env} {σ : L2.St}
def kvsOk : List DictEntry → List (Str × D) → Bool
  | [], [] => true
  | e :: es, p :: kvs => strOk e.key p.1 && itOk e.val p.2 && kvsOk es kvs
  | _, _ => false
/-- at the name x stands the module's dict d -/
def GlobDic (K : Kf) (w : World) (mg : Str → Option Value) (x : Str) (kvs : List (Str × D)) : Prop := ∃ d es n, mg x = some (.ref d) ∧ L2.KDict K w d es n ∧ kvsOk es.toList kvs = true
theorem key_str {u : Value} {s : Str} (h : strOk u s = true) : ∃ t, u = .str s t := by
  cases u <;> first | (cases h; done) | skip
  rename_i z t
  have e : z = s := by simpa [strOk] using h
  exact ⟨t, by rw [e]⟩
theorem kvs_split {e : DictEntry} {es : List DictEntry} {p : Str × D} {kvs : List (Str × D)} (h : kvsOk (e :: es) (p :: kvs) = true) : strOk e.key p.1 = true ∧ itOk e.val p.2 = true ∧ kvsOk es kvs = true := by
  have h' : (strOk e.key p.1 && itOk e.val p.2 && kvsOk es kvs) = true := h
  simp only [Bool.and_eq_true] at h'
  exact ⟨h'.1.1, h'.1.2, h'.2⟩
theorem isStr_key {u : Value} {s z : Str} (h : strOk u s = true) : u.isStr z = decide (s = z) := by
  obtain ⟨t, rfl⟩ := key_str h
  show (s == z) = _
  by_cases e : s = z <;> simp [e]
theorem find_kvs : ∀ {es : List DictEntry} {kvs : List (Str × D)} {z : Str}, kvsOk es kvs = true → (es.find? (fun e => e.key.isStr z) = none ∧ kvs.find? (fun p => decide (p.1 = z)) = none) ∨ ∃ e p, es.find? (fun e => e.key.isStr z) = some e ∧ kvs.find? (fun p => decide (p.1 = z)) = some p ∧ itOk e.val p.2 = true
  | [], [], z, _ => .inl ⟨rfl, rfl⟩
  | [], _ :: _, _, h => by cases h
  | _ :: _, [], _, h => by cases h
  | e :: es, p :: kvs, z, h => by
    obtain ⟨h1, h2, h3⟩ := kvs_split h
    rw [List.find?_cons, List.find?_cons, isStr_key h1]
    by_cases ez : p.1 = z
    · rw [decide_eq_true ez]
      exact .inr ⟨e, p, rfl, rfl, h2⟩
    · rw [decide_eq_false ez]
      exact find_kvs h3
theorem noRef_kvs : ∀ {es : List DictEntry} {kvs : List (Str × D)}, kvsOk es kvs = true → es.any (·.refKey) = false
  | [], [], _ => rfl
  | [], _ :: _, h => by cases h
  | _ :: _, [], h => by cases h
  | e :: es, p :: kvs, h => by
    obtain ⟨h1, h2, h3⟩ := kvs_split h
    rw [List.any_cons, noRef_kvs h3]
    obtain ⟨t, ht⟩ := key_str h1
    unfold DictEntry.refKey
    rw [ht]
    rfl
theorem nsIn_kvs {w : World} {d : Addr} {es : Array DictEntry} {n : Nat} {kvs : List (Str × D)} (Dk : L2.KDict K w d es n) (h : kvsOk es.toList kvs = true) (z : Str) :
    ∃ r, PySem.W.nsIn K d z = some r ∧ r.isSome = (kvs.any fun p => decide (p.1 = z)) ∧ ∀ p, kvs.find? (fun p => decide (p.1 = z)) = some p → ∃ u, r = some u ∧ itOk u p.2 = true := by
  have any_find : ∀ l : List (Str × D), (l.any fun p => decide (p.1 = z)) = (l.find? fun p => decide (p.1 = z)).isSome := by
    intro l
    induction l with
    | nil => rfl
    | cons p l ih =>
      rw [List.any_cons, List.find?_cons, ih]
      cases decide (p.1 = z) <;> rfl
  unfold PySem.W.nsIn
  rw [Dk.at_]
  dsimp only
  rw [any_find]
  rcases find_kvs (z := z) h with ⟨h1, h2⟩ | ⟨e, p, h1, h2, h3⟩
  · rw [h1, h2, noRef_kvs h]
    exact ⟨none, rfl, rfl, fun p hp => nomatch hp⟩
  · rw [h1, h2]
    exact ⟨some e.val, rfl, rfl, fun q hq => by cases hq; exact ⟨_, rfl, h3⟩⟩
variable {i : Expr} {ti : TE} {x : Str} {pos npos : Pos} {kvs : List (Str × D)}
theorem pd_inG (g : GlobDic X.K X.w X.mg x kvs) (hg : L2.Gl X x) (hi : PD X i ti) (hm : behindInMarks .In (.Name x npos) = false := by rfl) (hd : (x == ("__debug__" : Str)) = false := by decide) : PD X (.Compare i [.In] [.Name x npos] pos) (dUn (inGK kvs) ti) := by
  obtain ⟨d, es, n, h1, Dk, h2⟩ := g
  refine pe_imp (L2.pe_cmpR (L2.op_in_kd Dk) hi (L2.pe_glob hg h1 (v := .ref d) rfl hd) hm) fun σ H Q ⟨f, ρ, st, Q', R, h, l⟩ => ⟨f, ρ, st, _, R, h, fun y st1 v f1 H1 q1 e1 s1 r1 => ?_⟩
  cases y <;> try (exact q1.elim)
  rename_i z
  rw [RD.str] at r1
  obtain ⟨r, n1, n2, _⟩ := nsIn_kvs Dk h2 z
  exact ⟨z, r, r1, rfl, n1, l _ st1 _ f1 H1 q1 e1 s1 (RD.bl.mpr (by rw [n2]))⟩
theorem pd_notinG (g : GlobDic X.K X.w X.mg x kvs) (hg : L2.Gl X x) (hi : PD X i ti) (hm : behindInMarks .NotIn (.Name x npos) = false := by rfl) (hd : (x == ("__debug__" : Str)) = false := by decide) : PD X (.Compare i [.NotIn] [.Name x npos] pos) (dUn (notinGK kvs) ti) := by
  obtain ⟨d, es, n, h1, Dk, h2⟩ := g
  refine pe_imp (L2.pe_cmpR (L2.op_notIn_kd Dk) hi (L2.pe_glob hg h1 (v := .ref d) rfl hd) hm) fun σ H Q ⟨f, ρ, st, Q', R, h, l⟩ => ⟨f, ρ, st, _, R, h, fun y st1 v f1 H1 q1 e1 s1 r1 => ?_⟩
  cases y <;> try (exact q1.elim)
  rename_i z
  rw [RD.str] at r1
  obtain ⟨r, n1, n2, _⟩ := nsIn_kvs Dk h2 z
  exact ⟨z, r, r1, rfl, n1, l _ st1 _ f1 H1 q1 e1 s1 (RD.bl.mpr (by rw [n2]))⟩
theorem pt_inG (g : GlobDic X.K X.w X.mg x kvs) (hg : L2.Gl X x) (hi : PD X i ti) (hm : behindInMarks .In (.Name x npos) = false := by rfl) (hd : (x == ("__debug__" : Str)) = false := by decide) : PDT X (.Compare i [.In] [.Name x npos] pos) (tTru (dUn (inGK kvs) ti)) := by
  obtain ⟨d, es, n, h1, Dk, h2⟩ := g
  refine pt_imp (L2.pt_cmpR (L2.op_in_kd Dk) hi (L2.pe_glob hg h1 (v := .ref d) rfl hd) hm) fun σ H Q ⟨f, ρ, st, Q', R, h, l⟩ => ⟨f, ρ, st, _, R, h, fun y st1 v f1 H1 q1 e1 s1 r1 => ?_⟩
  cases y <;> try (exact q1.elim)
  rename_i z
  rw [RD.str] at r1
  obtain ⟨r, n1, n2, _⟩ := nsIn_kvs Dk h2 z
  have q2 : Q' (kvs.any fun p => decide (p.1 = z)) st1 := q1
  exact ⟨z, r, r1, rfl, n1, ⟨_, rfl, by rw [n2]; exact l _ st1 f1 H1 q2 e1 s1⟩⟩
theorem pt_notinG (g : GlobDic X.K X.w X.mg x kvs) (hg : L2.Gl X x) (hi : PD X i ti) (hm : behindInMarks .NotIn (.Name x npos) = false := by rfl) (hd : (x == ("__debug__" : Str)) = false := by decide) : PDT X (.Compare i [.NotIn] [.Name x npos] pos) (tTru (dUn (notinGK kvs) ti)) := by
  obtain ⟨d, es, n, h1, Dk, h2⟩ := g
  refine pt_imp (L2.pt_cmpR (L2.op_notIn_kd Dk) hi (L2.pe_glob hg h1 (v := .ref d) rfl hd) hm) fun σ H Q ⟨f, ρ, st, Q', R, h, l⟩ => ⟨f, ρ, st, _, R, h, fun y st1 v f1 H1 q1 e1 s1 r1 => ?_⟩
  cases y <;> try (exact q1.elim)
  rename_i z
  rw [RD.str] at r1
  obtain ⟨r, n1, n2, _⟩ := nsIn_kvs Dk h2 z
  have q2 : Q' (!kvs.any fun p => decide (p.1 = z)) st1 := q1
  exact ⟨z, r, r1, rfl, n1, ⟨_, rfl, by rw [n2]; exact l _ st1 f1 H1 q2 e1 s1⟩⟩
theorem pd_getG (g : GlobDic X.K X.w X.mg x kvs) (hg : L2.Gl X x) (hs : L2.PlainIx i) (hi : PD X i ti) (hd : (x == ("__debug__" : Str)) = false := by decide) : PD X (.Subscript (.Name x npos) i pos) (dUn (getGK kvs) ti) := by
  obtain ⟨d, es, n, h1, Dk, h2⟩ := g
  refine pe_imp (L2.pe_ix L2.ix_kdict (L2.pe_glob hg h1 (v := .ref d) rfl hd) hi hs) fun σ H Q ⟨f, ρ, st, Q', R, h, l⟩ => ?_
  refine (show lift X.K ti σ H (fun y H1 => L2.rIxD X.K X.w (.ref d) y H1 Q) from ⟨f, ρ, st, _, R, h, fun y st1 v f1 H1 q1 e1 s1 r1 => ?_⟩)
  cases y <;> try (exact q1.elim)
  rename_i z
  rw [RD.str] at r1
  obtain ⟨p, p1, p2⟩ := q1
  obtain ⟨r, n1, n2, n3⟩ := nsIn_kvs Dk h2 z
  obtain ⟨u, rfl, n4⟩ := n3 p p1
  obtain ⟨v', v1, v2⟩ := it_rel (K := X.K) n4
  exact ⟨d, z, v', rfl, r1, ⟨es, n, u, Dk.at_, Dk.lit, n1, v1⟩, l _ st1 _ f1 H1 p2 e1 s1 (v2 f1 H1)⟩
theorem glob_dic {w : World} {mg : Str → Option Value} {a : Addr} {es : Array DictEntry} {n : Nat} (h : mg x = some (.ref a)) (l : K.lookup a = some ⟨.type "dict", none, .dict es n, #[]⟩) (lit : PySem.W.KeysLit w.params es.toList) (low : (a == sysModules) = false) (e : kvsOk es.toList kvs = true) : GlobDic K w mg x kvs :=
  ⟨a, es, n, h, ⟨l, lit, low⟩, e⟩
end
end Pd
end PartPdSoundU

section PartPdMore18
set_option Elab.async false
set_option linter.all false
set_option maxRecDepth 100000
/-! Pd: d.get(k, z) of a written dict of the module. Own work. -/
namespace Pd
open PySem
def getG2K (kvs : List (Str × D)) (y z : D) : Store → K → Prop := fun st Q => match y with
  | .str s => Q (((kvs.find? fun p => decide (p.1 = s)).map (·.2)).getD z) st
  | _ => False
def dGetG2 (kvs : List (Str × D)) (ti tx : TE) : TE := fun σ st Q => ti σ st fun y st1 => tx σ st1 fun z st2 => getG2K kvs y z st2 Q
section
variable {kvs : List (Str × D)} {z : Str} {d : D} {σ : Env} {st : Store} {Q : K} {ti tx : TE}
instance : Red (dGetG2 kvs ti tx σ st Q) (ti σ st fun y st1 => tx σ st1 fun z st2 => getG2K kvs y z st2 Q) := ⟨id⟩
instance : Red (getG2K kvs (.str z) d st Q) (Q (((kvs.find? fun p => decide (p.1 = z)).map (·.2)).getD d) st) := ⟨id⟩
end
end Pd
end PartPdMore18

section PartPdSoundU2
set_option Elab.async false
set_option linter.all false
set_option maxRecDepth 100000
set_option maxHeartbeats 1000000
/-! Pd over the hand layer: d.get(k, z) of a written dict of the module. Own work; the rule goes the way of the layer's own one for a tracked dict. -/
namespace Pd
open PySem PySem.Spec PyProof.Rows
section
variable {X : L2.Cx} {d : Addr} {es : Array DictEntry} {n : Nat}
def tGetG2 (K : PySem.W.Frag) (d : Addr) (ty tx : L2.TE) : L2.TE := fun σ H Q => ty σ H fun y H2 => tx σ H2 fun z H3 => ∃ (s : Str) (r : Option Value), y = .str s ∧ PySem.W.nsIn K d s = some r ∧ (∀ u, r = some u → ∃ v, L2.RelV v u ∧ Q v H3) ∧ (r = none → Q z H3)
theorem pe_getG2 {o e g : Expr} {apos cpos : Pos} {ty tx : L2.TE} (Dk : L2.KDict X.K X.w d es n) (ho : L2.PE X o fun _ H Q => Q (.ref d) H) (he : L2.PE X e ty) (hf : L2.PE X g tx) (m : L2.M2 X o "get" apos e g cpos) : L2.PE X (.Call (.Attribute o "get" apos) [e, g] [] cpos) (tGetG2 X.K d ty tx) := by
  refine ⟨fun pins s σ H Q I h => ?_⟩
  refine wpAny_Call_method m.base m.few m.line PySem.F.plainAttrs_dict PySem.F.slot_dict_get PySem.F.type_dict_get (L2.thn (ho.run pins s σ H (fun x H1 => x = .ref d ∧ tGetG2 X.K d ty tx σ H1 Q) I ⟨rfl, h⟩) fun u s1 ⟨x, H1, I1, rx, ex, q1⟩ => ?_)
  subst ex
  obtain rfl : u = Value.ref d := rx
  have M := PySem.W.mapOf_K (prog := X.prog) (w := X.w) I1.kIn Dk.at_ Dk.lit
  refine ⟨M.typeIs, M.noDict, ?_⟩
  rw [m.trees]
  refine Calls.callWith_builtin rfl (Calls.evalArgs_plain (Calls.spliced_cons (L2.thn (he.run pins s1 σ H1 _ I1 q1) fun iv s2 ⟨y, H2, I2, ry, q2⟩ =>
    Calls.spliced_cons (L2.thn (hf.run pins s2 σ H2 _ I2 q2) fun fv s3 ⟨z, H3, I3, rz, k, r, ey, hn, q3, q4⟩ => Calls.spliced_nil ?_))))
  subst ey
  obtain ⟨t, rfl⟩ := ry
  have M3 := PySem.W.mapOf_K (prog := X.prog) (w := X.w) I3.kIn Dk.at_ Dk.lit
  refine call_meetsIn PySem.F.slot_dict_get M3.typeIs PySem.F.entry_dict_get (PySem.F.args_dict_get_3 _ _ _) (meets_dict_get_default (strKind X.prog X.w) d (strKind_is X.prog X.w k t) Dk.low fv) ⟨_, M3, ?_⟩
  rw [PySem.W.find_K Dk.at_ hn]
  cases r with
  | none => exact ⟨z, H3, I3.tok _, rz, q4 rfl⟩
  | some u =>
    obtain ⟨v, rv, qv⟩ := q3 u rfl
    exact ⟨v, H3, I3.tok _, rv, qv⟩
variable {K : Kf} {f f' : List Addr} {H H' : Hp} {st st' : Store} {ρ : Env} {σ : L2.St}
variable {i g : Expr} {ti tx : TE} {x : Str} {apos npos cpos : Pos} {kvs : List (Str × D)}
theorem find_none : ∀ {kvs : List (Str × D)} {z : Str}, (kvs.any fun p => decide (p.1 = z)) = false → kvs.find? (fun p => decide (p.1 = z)) = none := fun {kvs z} h => by
  rw [List.find?_eq_none]
  intro p hp e
  have : (kvs.any fun p => decide (p.1 = z)) = true := List.any_eq_true.mpr ⟨p, hp, e⟩
  rw [h] at this
  cases this
theorem find_some : ∀ {kvs : List (Str × D)} {z : Str}, (kvs.any fun p => decide (p.1 = z)) = true → ∃ p, kvs.find? (fun p => decide (p.1 = z)) = some p := fun {kvs z} h => by
  cases e : kvs.find? (fun p => decide (p.1 = z)) with
  | some p => exact ⟨p, rfl⟩
  | none =>
    obtain ⟨p, hp, hz⟩ := List.any_eq_true.mp h
    exact absurd hz (List.find?_eq_none.mp e p hp)
theorem pd_getG2 (gd : GlobDic X.K X.w X.mg x kvs) (hg : L2.Gl X x) (hi : PD X i ti) (hz : PD X g tx) (m : L2.M2 X (.Name x npos) "get" apos i g cpos := by exact ⟨rfl, rfl, rfl, rfl⟩) (hd : (x == ("__debug__" : Str)) = false := by decide) : PD X (.Call (.Attribute (.Name x npos) "get" apos) [i, g] [] cpos) (dGetG2 kvs ti tx) := by
  obtain ⟨d, es, n, h1, Dk, h2⟩ := gd
  refine pe_imp (pe_getG2 Dk (L2.pe_glob hg h1 (v := .ref d) rfl hd) hi hz m) fun σ H Q ⟨f, ρ, st, Q', R, h, l⟩ => ⟨f, ρ, st, _, R, h, fun y st1 v f1 H1 q1 e1 s1 r1 => ?_⟩
  refine ⟨f1, ρ, st1, _, R.later e1 s1, q1, fun y2 st2 v2 f2 H2 q2 e2 s2 r2 => ?_⟩
  cases y <;> try (exact q2.elim)
  rename_i z
  rw [RD.str] at r1
  obtain ⟨r, n1, n2, n3⟩ := nsIn_kvs Dk h2 z
  have q2' : Q' (((kvs.find? fun p => decide (p.1 = z)).map (·.2)).getD y2) st2 := q2
  refine ⟨z, r, r1, n1, fun u hu => ?_, fun hu => ?_⟩
  · subst hu
    obtain ⟨p, hp⟩ := find_some (kvs := kvs) (z := z) (by rw [← n2]; rfl)
    obtain ⟨u', hu', n4⟩ := n3 p hp
    cases hu'
    obtain ⟨v', v1, v2'⟩ := it_rel (K := X.K) n4
    rw [hp] at q2'
    exact ⟨v', v1, l _ st2 _ f2 H2 q2' (e1.trans e2) s2 (v2' f2 H2)⟩
  · subst hu
    have hp := find_none (kvs := kvs) (z := z) (by rw [← n2]; rfl)
    rw [hp] at q2'
    exact l _ st2 _ f2 H2 q2' (e1.trans e2) s2 r2
end
end Pd
end PartPdSoundU2

section PartPdMore19
set_option Elab.async false
set_option linter.all false
set_option maxRecDepth 100000
/-! Pd: str of an int or of a text. Own work. -/
namespace Pd
open PySem
def strXB : KB
  | [.int i], st, Q => i.natAbs.log2 < 1920 ∧ Q (.str (toString i : String)) st
  | [.str s], st, Q => Q (.str s) st
  | _, _, _ => False
section
variable {i : Int} {s : Str} {st : Store} {Q : K}
instance : Red (strXB [.int i] st Q) (i.natAbs.log2 < 1920 ∧ Q (.str (toString i : String)) st) := ⟨id⟩
instance : Red (strXB [.str s] st Q) (Q (.str s) st) := ⟨id⟩
end
end Pd
end PartPdMore19

section PartPdSoundT2
set_option Elab.async false
set_option linter.all false
set_option maxRecDepth 100000
set_option maxHeartbeats 1000000
/-! Pd over the hand layer: str of an int or of a text. Own work. -/
namespace Pd
open PySem PySem.Spec
section
variable {X : L2.Cx} {K : Kf}
def rStrX : List L2.V → Hp → L2.VK → Prop := fun xs H Q => (∃ i : Int, xs = [.int i] ∧ i.natAbs.log2 < 1920 ∧ Q (.str (toString i : String)) H) ∨ (∃ a, xs = [.str a] ∧ Q (.str a) H)
theorem call_strX : L2.CallR X (.type "str") rStrX := by
  intro pins s σ H xs us Q I r h
  rcases h with h | h
  · exact L2.call_str_int pins s σ H xs us Q I r h
  · exact SkE.call_str_str pins s σ H xs us Q I r h
theorem real_strX : RealB K rStrX strXB :=
  realB1 (kb1 (fun _ _ h => h) fun x y xs st Q h => by cases x <;> exact h) fun f st H x v Q' Q s r h l => by
    cases x <;> try (exact h.elim)
    · rw [RD.int] at r; subst r
      exact .inl ⟨_, rfl, h.1, l.now s h.2 (RD.str.mpr rfl)⟩
    · rw [RD.str] at r; subst r
      exact .inr ⟨_, rfl, l.now s h (RD.str.mpr rfl)⟩
end
end Pd
end PartPdSoundT2

section PartPdMore20
set_option Elab.async false
set_option linter.all false
set_option maxRecDepth 100000
/-! Pd: list(reversed(a tuple)). Own work. -/
namespace Pd
open PySem
def revTK : D → Store → K → Prop
  | .tup xs, st, Q => Q (.ref st.length) (st ++ [.lst xs.reverse])
  | _, _, _ => False
def dLRvT (t : TE) : TE := fun σ st Q => t σ st fun x st1 => revTK x st1 Q
instance {σ : Env} {st : Store} {ta : TE} {Q : K} : Red (dLRvT ta σ st Q) (ta σ st fun x st1 => revTK x st1 Q) := ⟨id⟩
instance {xs : List D} {st : Store} {Q : K} : Red (revTK (.tup xs) st Q) (Q (.ref st.length) (st ++ [.lst xs.reverse])) := ⟨id⟩
end Pd
end PartPdMore20

section PartPdSoundN2
set_option Elab.async false
set_option linter.all false
set_option maxRecDepth 100000
set_option maxHeartbeats 1000000
/-! Pd over the hand layer: list(reversed(a tuple)). Own work; it goes the way of PdSoundN. -/
namespace PdN
open PySem PySem.Spec PyProof.Rows RT
section
variable {prog : Program} {w : World} {A : Around} {E : Value → Shared → Prop} {s : Shared}
theorem nolen_rt : typeLookup (.type "reversed") "__len__" = pure none := by rw [typeLookup_type, builtinLookup_eq_fast]; kernel_rfl
theorem hint_rt : typeLookup (.type "reversed") "__length_hint__" = pure (some (.builtin "reversed.__length_hint__")) := by rw [typeLookup_type, builtinLookup_eq_fast]; kernel_rfl
theorem slot_rt_hint : Slot "reversed" "__length_hint__" "reversed.__length_hint__" :=
  .of (owner := "reversed") (n := "__length_hint__") (by rw [typeLookup_type, builtinLookup_eq_fast]; kernel_rfl) (by decide +kernel) (by decide +kernel) (by decide +kernel)
    (by first | exact .inl (by decide +kernel) | exact .inr (by decide +kernel)) (by rw [isSubtype_type]; kernel_rfl)
theorem entry_rt_hint : entryFor table "reversed.__length_hint__" = some Builtin.«reversed.__length_hint__» := entryFor_of_tree (by kernel_rfl)
theorem args_rt_hint (a : Value) : argsOk "reversed.__length_hint__" ⟨[a], []⟩ := by
  unfold argsOk; rw [signature?_of (id := "reversed.__length_hint__") (n := ['_', '_', 't', 'n', 'i', 'h', '_', 'h', 't', 'g', 'n', 'e', 'l', '_', '_']) (o := ['d', 'e', 's', 'r', 'e', 'v', 'e', 'r']) (by kernel_rfl) owner_rt]; kernel_rfl
theorem call_rt_hint {it t : Addr} {items : Array Value} {Q : Value → Shared → Prop} (hit : IsRt s.heap it t ((items.size : Int) - 1)) (ht : IsTup s.heap t items) (hsz : items.size ≤ sizeLine)
    (h : ∀ k k', Q (.int (items.size : Int) k) { s with toks := k' }) : wpAny (model prog w) A (call (.builtin "reversed.__length_hint__") [.ref it]) Q E s := by
  obtain ⟨o, ho, hc, hd⟩ := id hit
  rw [sizeLine_eq] at hsz
  refine wpAny_call_entry slot_rt_hint hit.typeIs entry_rt_hint ?_ (args_rt_hint _)
  unfold Builtin.«reversed.__length_hint__»
  refine wpAny_bind (wpAny_of_eq (a := Value.ref it) rfl ?_)
  refine wpAny_bind (wpAny_field ho hd (x := .ref t) rfl ?_)
  rw [if_neg (by intro e; cases e)]
  refine wpAny_bind (len_tuple ht (by omega) ?_)
  refine wpAny_bind (wpAny_of_eq (a := some ((items.size : Nat) : Int)) rfl ?_)
  refine wpAny_bind (wpAny_field (s := { s with toks := s.toks + 1 + 1 }) ho hd (x := rawInt ((items.size : Int) - 1)) rfl ?_)
  show wpAny _ _ (if ((items.size : Nat) : Int) < (items.size : Int) - 1 + 1 then _ else _) _ _ _
  rw [if_neg (by omega), Int.sub_add_cancel]
  unfold retInt
  refine wpAny_bind (wpAny_mkInt ?_)
  exact wpAny_pure ⟨_, rfl, h _ _⟩
theorem tup_at {h h' : Heap} {t : Addr} {items : Array Value} (x : IsTup h t items) (e : ∀ o, h.get? t = some o → h'.get? t = some o) : IsTup h' t items := let ⟨o, ho, r⟩ := x; ⟨o, e _ ho, r⟩
theorem walks_rt (hh : A.handled = none) (I t : Addr) (hne : t ≠ I) (items : Array Value) (hsz : items.size ≤ sizeLine) :
    Walks prog w A I [I, t] [I] items.size (fun i v => items[items.size - 1 - i]? = some v) (fun i h => i ≤ items.size ∧ IsRt h I t ((items.size : Int) - 1 - (i : Int)) ∧ IsTup h t items) where
  sub := fun b hb => by simp at hb; simp [hb]
  frame := fun _ _ _ x hk => ⟨x.1, x.2.1.at fun o e => hk I (by simp) o e, tup_at x.2.2 fun o e => hk t (by simp) o e⟩
  item := fun i s Q E hi x hQ => by
    have e : (items.size : Int) - 1 - (i : Int) = ((items.size - 1 - i : Nat) : Int) := by omega
    have hit := x.2.1
    rw [e] at hit
    have hx : items[items.size - 1 - i]? = some (items[items.size - 1 - i]'(by omega)) := Array.getElem?_eq_getElem (by omega)
    refine next_rt_item hit x.2.2 hx hsz fun h' hit' hs' => ?_
    have e2 : ((items.size - 1 - i : Nat) : Int) - 1 = (items.size : Int) - 1 - ((i + 1 : Nat) : Int) := by omega
    rw [e2] at hit'
    exact hQ _ h' (s.toks + 1) hx ⟨hi, hit', tup_at x.2.2 fun o eo => (hs'.2 t hne).trans eo⟩ fun b o hb eo => hs'.extBut b o (fun h => hb (by simp [h])) eo
  done := fun s Q E x hQ => by
    have e : (items.size : Int) - 1 - (items.size : Int) = -1 := by omega
    have hit := x.2.1
    rw [e] at hit
    exact next_rt_end hh hit fun h' he' => hQ h' s.toks fun b o hb eo => he' b o (fun h => hb (by simp [h])) eo
  self := fun _ _ _ _ x hQ => iter_rt x.2.1 hQ
theorem one_line : (1 : Nat) ≤ sizeLine := by rw [sizeLine_eq]; omega
theorem rt_extend {it l S : Addr} {items : Array Value} {R : Result → Shared → Prop} (hh : A.handled = none) (hit : IsRt s.heap it l ((items.size : Int) - 1)) (hl : IsTup s.heap l items) (hne : l ≠ it) (hn : items.size ≤ sizeLine) (hSi : S ≠ it) (hSl : S ≠ l) (res : Value) (c₀ : Nat) (hS : s.heap.get? S = some { cls := .type "list", data := .seq #[] c₀ })
    (hR : ∀ h' tk acc' c', (∀ b o, b ≠ S → b ≠ it → s.heap.get? b = some o → h'.get? b = some o) → h'.get? S = some { cls := .type "list", dict := none, data := .seq acc' c', slots := #[] } → ItemsOf (fun i v => items[items.size - 1 - i]? = some v) acc' items.size → R (.ok (.ret res)) { s with heap := h', toks := tk }) :
    wpAny (model prog w) A.in1 (Builtin.List.listExtendWith (.ref S) (.ref it) res)
      (fun fin s' => match fin with | .done f => R (.ok f) s' | .again c' => c'.quiet = true ∧ codeAny (model prog w) A c' R s') (fun e s' => R (.error e) s') s := by
  have W := (walks_rt (prog := prog) (w := w) (A := A.in1) hh it l hne items hn).toS
  have hSf : S ∉ [it, l] := by simp only [List.mem_cons, List.not_mem_nil, or_false, not_or]; exact ⟨hSi, hSl⟩
  have hn' : items.size ≤ 1099511627776 := by
    have h := hn
    rw [sizeLine_eq] at h
    omega
  have hT : s.TypeIs (.ref it) "reversed" := IsRt.typeIs (s := s) hit
  have h1 : Builtin.List.listSameRef (.ref S) (.ref it) = false := by simp [Builtin.List.listSameRef, hSi]
  unfold Builtin.List.listExtendWith
  refine wpAny_bind (wpAny_typeOf hT ?_)
  rw [if_neg (by rw [h1]; decide)]
  refine wpAny_bind (iter_rt hit ?_)
  refine wpAny_bind (wpAny_holding ?_)
  unfold Builtin.List.listLengthHint
  refine wpAny_bind (wpAny_specialOf hT nolen_rt ?_)
  show wpAny _ A.in1 (specialOf (Value.ref it) (Str.ofString "__length_hint__") >>= _) _ _ _
  refine wpAny_bind (wpAny_specialOf hT hint_rt ?_)
  generalize hid : ("reversed.__length_hint__" : String) = id0
  wp_delta
  rw [show splitId id0 = some ("reversed", "__length_hint__") from by subst hid; decide +kernel]
  subst hid
  refine wpAny_bind (wpAny_isInstance (b := true) hT (by rw [isSubtype_type]; kernel_rfl) ?_)
  rw [if_neg (by decide)]
  rw [if_neg (by decide)]
  refine wpAny_bind (wpAny_rule ?_)
  refine wpAny_bind (wpAny_of_eq (slot_rt_hint.bind _) ?_)
  refine wpAny_bind (wpAny_attempt (call_rt_hint hit hl hn fun k k' => ?_))
  have ea : asInt? (Value.int (items.size : Int) k) = pure (some ((items.size : Nat) : Int)) := rfl
  dsimp only
  rw [ea]
  have f1 : Builtin.List.listFitsIndex ((items.size : Nat) : Int) = true := by
    unfold Builtin.List.listFitsIndex
    rw [Bool.and_eq_true, decide_eq_true_eq, decide_eq_true_eq]
    omega
  have f2 : Builtin.List.listTooLong ((items.size : Nat) : Int).toNat = false := by
    unfold Builtin.List.listTooLong
    rw [decide_eq_false_iff_not, Int.toNat_natCast]
    omega
  have f3 : ¬ (((items.size : Nat) : Int) < 0) := by omega
  wp_step
  wp_step
  dsimp only
  simp only [f1, f2, f3, Bool.not_true, Bool.false_eq_true, if_false]
  wp_step
  have e0 : ((items.size : Nat) : Int) - 1 - ((0 : Nat) : Int) = (items.size : Int) - 1 := by omega
  have fin : ∀ (h2 : Heap) (k2 c1 : Nat), IsRt h2 it l ((items.size : Int) - 1) → IsTup h2 l items → h2.get? S = some { cls := .type "list", data := .seq #[] c1 } → (∀ b o, b ≠ S → b ≠ it → s.heap.get? b = some o → h2.get? b = some o) →
      wpAny (model prog w) A.in1 (again (Code.builtin "list.extend.loop" { pos := [Value.ref S, Value.ref it, res] })) (fun fin s' => match fin with | .done f => R (.ok f) s' | .again c' => c'.quiet = true ∧ codeAny (model prog w) A c' R s') (fun e s' => R (.error e) s') { s with heap := h2, toks := k2 } := by
    intro h2 k2 c1 hi2 hl2 hS2 hk2
    refine wpAny_pure ⟨plainId_quiet F.plain_extend_loop _, codeAny_extend_loopS (s := { s with heap := h2, toks := k2 }) W hn _ hSf _ items.size 0 _ _ rfl (Nat.zero_le _) ⟨Nat.zero_le _, by rw [e0]; exact hi2, hl2⟩ hS2 (ItemsOf.nil _) fun s' acc' c' hm hS' hacc => ?_⟩
    rw [Moved.eq_with hm]
    refine hR s'.heap s'.toks acc' c' (fun b o hb hb2 e => hm.heap b o (fun hmem => ?_) (hk2 b o hb hb2 e)) hS' hacc
    rcases List.mem_cons.mp hmem with e' | hmem
    · exact hb e'
    · exact hb2 (List.mem_singleton.mp hmem)
  split
  · refine wpAny_bind (wpAny_rule ?_)
    unfold Builtin.List.listTouch Builtin.List.listUpdate
    refine wpAny_bind ?_
    refine wpAny_bind (wpAny_updateSeq (s := { s with toks := k' }) hS rfl ?_ (hz := Nat.zero_le _) (_hz' := Nat.succ_le_succ (Nat.zero_le _)))
    have hS₂ := Heap.get?_update_self (Obj.mapSeq (fun x => x.push Value.none)) hS rfl
    have oth : ∀ b o, b ≠ S → s.heap.get? b = some o → (s.heap.update S (Obj.mapSeq (fun x => x.push Value.none))).get? b = some o :=
      fun b o hb e => (Heap.get?_update_other _ _ (Ne.symm hb)).trans e
    refine wpAny_updateSeq (s := { s with heap := s.heap.update S (Obj.mapSeq (fun x => x.push Value.none)), toks := k' }) hS₂ rfl ?_ (hz := one_line) (_hz' := Nat.zero_le _)
    have hS₃ := Heap.get?_update_self (Obj.mapSeq (fun x => x.pop)) hS₂ rfl
    have oth2 : ∀ b o, b ≠ S → s.heap.get? b = some o → ((s.heap.update S (Obj.mapSeq (fun x => x.push Value.none))).update S (Obj.mapSeq (fun x => x.pop))).get? b = some o :=
      fun b o hb e => (Heap.get?_update_other _ _ (Ne.symm hb)).trans (oth b o hb e)
    exact fin _ k' _ (hit.at fun o e => oth2 _ o (Ne.symm hSi) e) (tup_at hl fun o e => oth2 _ o (Ne.symm hSl) e) hS₃ fun b o hb hb2 e => oth2 b o hb e
  · exact fin s.heap k' _ hit hl hS fun b o _ _ e => e
theorem rt_init {it l S : Addr} {items : Array Value} {R : Result → Shared → Prop} (hh : A.handled = none) (hit : IsRt s.heap it l ((items.size : Int) - 1)) (hl : IsTup s.heap l items) (hne : l ≠ it) (hn : items.size ≤ sizeLine) (hSi : S ≠ it) (hSl : S ≠ l) (hS : s.heap.get? S = some { cls := .type "list", data := .seq #[] })
    (hR : ∀ h' tk acc' c', (∀ b o, b ≠ S → b ≠ it → s.heap.get? b = some o → h'.get? b = some o) → h'.get? S = some { cls := .type "list", dict := none, data := .seq acc' c', slots := #[] } → ItemsOf (fun i v => items[items.size - 1 - i]? = some v) acc' items.size → R (.ok (.ret .none)) { s with heap := h', toks := tk }) :
    wpAny (model prog w) A.in1 (Builtin.«list.__init__» ⟨[.ref S, .ref it], []⟩)
      (fun fin s' => match fin with | .done f => R (.ok f) s' | .again c' => c'.quiet = true ∧ codeAny (model prog w) A c' R s') (fun e s' => R (.error e) s') s := by
  show wpAny _ _ (do let old ← Builtin.List.listItems (.ref S); Builtin.List.listUpdate (.ref S) (fun _ => #[]); letGo old.toList.reverse; Builtin.List.listExtendWith (.ref S) (.ref it) .none) _ _ s
  refine wpAny_bind ?_
  unfold Builtin.List.listItems
  refine wpAny_bind (wpAny_seqItems hS rfl (wpAny_pure ?_))
  show wpAny _ _ (updateSeq S (fun _ => #[]) >>= fun _ => letGo (#[] : Array Value).toList.reverse >>= fun _ => Builtin.List.listExtendWith (.ref S) (.ref it) .none) _ _ s
  refine wpAny_bind (wpAny_updateSeq hS rfl ?_)
  have hS₂ := Heap.get?_update_self (Obj.mapSeq (fun _ => (#[] : Array Value))) hS rfl
  have oth : ∀ b o, b ≠ S → s.heap.get? b = some o → (s.heap.update S (Obj.mapSeq (fun _ => (#[] : Array Value)))).get? b = some o :=
    fun b o hb e => (Heap.get?_update_other _ _ (Ne.symm hb)).trans e
  refine wpAny_bind (wpAny_letGo ?_)
  refine rt_extend hh (hit.at fun o e => oth _ o (Ne.symm hSi) e) (tup_at hl fun o e => oth _ o (Ne.symm hSl) e) hne hn hSi hSl .none _ hS₂ (fun h' tk acc' c' hk hS' hacc => ?_)
  exact hR h' tk acc' c' (fun b o hb hb2 e => hk b o hb hb2 (oth b o hb e)) hS' hacc
theorem rt_call {it l : Addr} {items : Array Value} {Q : Value → Shared → Prop} (hh : A.handled = none) (hit : IsRt s.heap it l ((items.size : Int) - 1)) (hl : IsTup s.heap l items) (hne : l ≠ it) (hn : items.size ≤ sizeLine)
    (hQ : ∀ h' tk acc' c', (∀ b o, b ≠ it → s.heap.get? b = some o → h'.get? b = some o) → h'.get? s.heap.objs.size = some { cls := .type "list", dict := none, data := .seq acc' c', slots := #[] } → ItemsOf (fun i v => items[items.size - 1 - i]? = some v) acc' items.size → Q (.ref s.heap.objs.size) { s with heap := h', toks := tk }) :
    wpAny (model prog w) A (call (.type "list") [.ref it]) Q E s := by
  refine callType_codes (Q₁ := fun obj s₁ => obj = .ref s.heap.objs.size ∧ s₁ = { s with heap := s.heap.push { cls := .type "list", data := .seq #[] } }) PySem.F.called_list (PySem.F.typeCall_list_1 _) PySem.F.entry_list_init
    (code_list_new _ ⟨rfl, rfl⟩) fun obj s₁ h₁ => ?_
  obtain ⟨rfl, rfl⟩ := h₁
  have hS : (s.heap.push { cls := .type "list", data := .seq #[] }).get? s.heap.objs.size = some { cls := .type "list", data := .seq #[] } := Heap.get?_push_size _ rfl
  obtain ⟨oi, hoi, _⟩ := id hit
  obtain ⟨ol, hol, _⟩ := id hl
  refine ⟨⟨_, hS, rfl⟩, PySem.F.args_list_init_2 _ _, rt_init (A := A.in1) hh (hit.at fun o e => Heap.get?_push_of_some _ e) (hl.push _) hne hn (Nat.ne_of_gt (Heap.lt_size hoi)) (Nat.ne_of_gt (Heap.lt_size hol)) hS (fun h' tk acc' c' hk hS' hacc => ?_)⟩
  exact ⟨rfl, hQ h' tk acc' c' (fun b o hb e => hk b o (Nat.ne_of_lt (Heap.lt_size e)) hb (Heap.get?_push_of_some _ e)) hS' hacc⟩
end
section
open L2
variable {X : L2.Cx}
/-- list(reversed(x)), x a tuple: a new list -/
def tTupRev (K : PySem.W.Frag) (te : L2.TE) : L2.TE := fun σ H Q => te σ H fun v H1 => ∃ (a : Addr) (xs : List L2.V), v = .ref a ∧ L2.SqT K H1 a xs ∧ ∀ q, H1 q = none → Q (.ref q) (L2.upd H1 q (.lst xs.reverse))
theorem pe_tupRevL {e : Expr} {te : L2.TE} {p p2 pos pos2 : Pos} (hc : X.calm = true) (hg : L2.Gl X "list") (hm : X.mg "list" = none) (hg2 : L2.Gl X "reversed") (hm2 : X.mg "reversed" = none) (he : L2.PE X e te)
    (hs : starEach [e] X.env = (false, eval e X.env) :: starEach [] X.env := by rfl)
    (hs2 : starEach [.Call (.Name "reversed" p2) [e] [] pos2] X.env = (false, eval (.Call (.Name "reversed" p2) [e] [] pos2) X.env) :: starEach [] X.env := by rfl) :
    L2.PE X (.Call (.Name "list" p) [.Call (.Name "reversed" p2) [e] [] pos2] [] pos) (tTupRev X.K te) := by
  refine ⟨fun pins s σ H Q I h => ?_⟩
  refine Call_ (L2.ld_blt I hg hm (by rfl) (PyProof.Rows.callWith_type1 (args_cons (Call_ (L2.ld_blt I hg2 hm2 PyProof.Rows.boot_reversed (PyProof.Rows.callWith_type1 (args_cons (L2.thn (he.run pins s σ H _ I h) fun u s1 ⟨v, H1, I1, r1, q1⟩ => args_nil ?_) hs) hs rfl))) hs2) hs2 rfl))
  obtain ⟨a, xs, ev, hq, q⟩ := q1
  subst ev
  obtain rfl : u = Value.ref a := r1
  obtain ⟨its, rv, p', hz⟩ := I1.tuple hq
  have hlx := rv.length
  have hline := line63
  refine call_reversed_tup p' (fun A E Q k => len_tuple p' (by simp only [List.size_toArray] <;> omega) k) (args_nil ?_)
  have k0 : ∀ b o, s1.heap.get? b = some o → (s1.heap.push (rtObj a ((its.toArray.size : Int) - 1))).get? b = some o := fun b o e => Heap.get?_push_of_some _ e
  have I2 : L2.Inv X pins σ H1 { s1 with heap := s1.heap.push (rtObj a ((its.toArray.size : Int) - 1)), toks := s1.toks + 1 + 1 } := I1.kept (t' := s1.toks + 1 + 1) k0
  have fp : L2.FpOk X pins H1 s1.heap.objs.size := I1.fpOk (H' := H1) (b := s1.heap.objs.size) (Nat.le_refl _) (I1.hok.fresh (Nat.le_refl _))
  obtain ⟨ol, hol, _⟩ := id p'
  have hne : a ≠ s1.heap.objs.size := Nat.ne_of_lt (Heap.lt_size hol)
  have hn : its.toArray.size ≤ sizeLine := by rw [List.size_toArray, ← rv.length]; exact hz
  refine rt_call (s := { s1 with heap := s1.heap.push (rtObj a ((its.toArray.size : Int) - 1)), toks := s1.toks + 1 + 1 }) (I1.ok.hd hc) ⟨_, Heap.get?_push_size _ rfl, rfl, rfl⟩ (p'.push _) hne hn fun h' tk acc c' hk hS hi => ?_
  have new : L2.ObjOk X.prog X.w (L2.upd H1 (s1.heap.push (rtObj a ((its.toArray.size : Int) - 1))).objs.size (.lst xs.reverse)) h' (s1.heap.push (rtObj a ((its.toArray.size : Int) - 1))).objs.size (.lst xs.reverse) :=
    ⟨by rw [List.length_reverse]; exact hz, acc.toList, c', vals_rev rv hi, by rw [Array.toArray_toList]; exact hS⟩
  have I3 := I2.turnedNew (t' := tk) (h' := h') (ch := [s1.heap.objs.size]) (fun c o hb e => hk c o (fun q' => hb (by simp [q'])) e) (fun b hb => by rw [List.mem_singleton] at hb; rw [hb]; exact fp) (Nat.le_refl _) new
  exact ⟨.ref (s1.heap.push (rtObj a ((its.toArray.size : Int) - 1))).objs.size, _, I3, rfl, q _ (I2.hok.fresh (Nat.le_refl _))⟩
end
end PdN
namespace Pd
open PySem PySem.Spec
section
variable {X : L2.Cx}
theorem pd_lstRevT {a : Expr} {ta : TE} {p p2 pos pos2 : Pos} (hc : X.calm = true) (hg : L2.Gl X "list") (hm : X.mg "list" = none) (hg2 : L2.Gl X "reversed") (hm2 : X.mg "reversed" = none) (ha : PD X a ta)
    (hs : starEach [a] X.env = (false, eval a X.env) :: starEach [] X.env := by rfl)
    (hs2 : starEach [.Call (.Name "reversed" p2) [a] [] pos2] X.env = (false, eval (.Call (.Name "reversed" p2) [a] [] pos2) X.env) :: starEach [] X.env := by rfl) :
    PD X (.Call (.Name "list" p) [.Call (.Name "reversed" p2) [a] [] pos2] [] pos) (dLRvT ta) :=
  pe_imp (PdN.pe_tupRevL hc hg hm hg2 hm2 ha hs hs2) fun σ H Q ⟨f, ρ, st, Q', R, h, l⟩ => ⟨f, ρ, st, _, R, h, fun x st1 v f1 H1 q1 e1 s1 r1 => by
    cases x <;> try (exact q1.elim)
    rw [RD.tup] at r1
    obtain ⟨b, vs, rfl, g2, g3⟩ := r1
    exact ⟨b, vs, rfl, g2, fun q hq => (l.later e1).lst s1 q1 g3.reverse hq⟩⟩
end
end Pd
end PartPdSoundN2

section PartPdDraw
set_option Elab.async false
set_option linter.all false
set_option maxRecDepth 100000
/-! Pd: the laws' drawing def. Own work. -/
namespace Pd
open PySem
local macro_rules | `(tactic| walk_at "s") => `(tactic| (repeat (refine Red.red ?_)))
local macro_rules | `(tactic| walk_at "r") => `(tactic| (repeat (first | refine Red.red ?_ | refine Nxt.mk ?_)))
/-- the drawer stands at 2, the script's numbers at 1 -/
def DrawAt (st : Store) : Prop := ∃ (ns : List Int) (a b v : Int), rdL st 1 (ns.map D.int) ∧ rdL st 2 [.ref 1, .int a, .int b, .int v, .int 2] ∧ 0 ≤ a ∧ 0 ≤ b ∧ 0 ≤ v ∧ ns.length ≤ 63
/-- later: the drawer goes on, cells are added, all others are as they were -/
structure Fra (st st' : Store) : Prop where
  dr : DrawAt st'
  le : st.length ≤ st'.length
  at' : ∀ n, n < st.length → n ≠ 2 → st'[n]? = st[n]?
theorem Fra.refl {st : Store} (h : DrawAt st) : Fra st st := ⟨h, Nat.le_refl _, fun _ _ _ => rfl⟩
theorem Fra.trans {a b c : Store} (h : Fra a b) (h' : Fra b c) : Fra a c := ⟨h'.dr, Nat.le_trans h.le h'.le, fun n hn ne => (h'.at' n (Nat.lt_of_lt_of_le hn h.le) ne).trans (h.at' n hn ne)⟩
theorem rdL_lt {st : Store} {n : Nat} {xs : List D} (h : rdL st n xs) : n < st.length := (List.getElem?_eq_some_iff.mp h).1
theorem rdL_app {st : Store} {n : Nat} {xs : List D} {c : C} (h : rdL st n xs) : rdL (st ++ [c]) n xs := by
  unfold rdL at *
  rw [List.getElem?_append_left (rdL_lt h)]; exact h
theorem rdL_new {st : Store} {xs : List D} : rdL (st ++ [.lst xs]) st.length xs := by unfold rdL; simp
theorem rdL_set {st : Store} {n : Nat} {xs ys : List D} (h : rdL st n xs) : rdL (st.set n (.lst ys)) n ys := by unfold rdL; rw [List.getElem?_set_self (rdL_lt h)]
theorem rdL_ne {st : Store} {n m : Nat} {xs : List D} {c : C} (h : rdL st n xs) (ne : n ≠ m) : rdL (st.set m c) n xs := by unfold rdL at *; rw [List.getElem?_set_ne (Ne.symm ne)]; exact h
theorem rdL_inj {st : Store} {n : Nat} {xs ys : List D} (h : rdL st n xs) (h' : rdL st n ys) : xs = ys := by
  unfold rdL at *
  rw [h] at h'
  cases h'; rfl
theorem Fra.rd {st st' : Store} (f : Fra st st') {n : Nat} {xs : List D} (h : rdL st n xs) (ne : n ≠ 2) : rdL st' n xs := by
  unfold rdL at *
  rw [f.at' n (rdL_lt h) ne]; exact h
theorem DrawAt.lt {st : Store} (h : DrawAt st) : 2 < st.length := by
  obtain ⟨_, _, _, _, _, h2, _⟩ := h
  exact rdL_lt h2
theorem DrawAt.app {st : Store} {c : C} (h : DrawAt st) : DrawAt (st ++ [c]) := by
  obtain ⟨ns, a, b, v, h1, h2, h3⟩ := h
  exact ⟨ns, a, b, v, rdL_app h1, rdL_app h2, h3⟩
theorem DrawAt.set {st : Store} {n : Nat} {c : C} (h : DrawAt st) (hn : 2 < n) : DrawAt (st.set n c) := by
  obtain ⟨ns, a, b, v, h1, h2, h3⟩ := h
  exact ⟨ns, a, b, v, rdL_ne h1 (by omega), rdL_ne h2 (by omega), h3⟩
theorem Fra.app {st st' : Store} {c : C} (f : Fra st st') : Fra st (st' ++ [c]) := ⟨f.dr.app, by simp; have := f.le; omega, fun n hn ne => by
  rw [List.getElem?_append_left (Nat.lt_of_lt_of_le hn f.le)]; exact f.at' n hn ne⟩
theorem Fra.set {st st' : Store} {n : Nat} {c : C} (f : Fra st st') (hn : st.length ≤ n) (h2 : 2 < n) : Fra st (st'.set n c) := ⟨f.dr.set h2, by simp; exact f.le, fun m hm ne => by
  rw [List.getElem?_set_ne (by omega)]; exact f.at' m hm ne⟩
def drawBody (c : Cl) : TS := sSeq (sIf (tTru (dCmp gtC (dOp ixK (dVar 0) (dC (.int 2))) (dC (.int 0)))) (sSeq (sAsg (dOp ixK (dVar 0) (dC (.int 2))) (gName 2)) (sSeq (sAsg (dOp fdivK (dVar 2) (dVar 1)) (gSub (dVar 0) (dC (.int 2)))) (sRet (dOp modK (dB intB (aCons (dVar 2) (aNil))) (dVar 1))))) (sNext)) (sSeq (sAsg (dC (.int 0)) (gName 3)) (sSeq (sIf (tTru (dCmp ltC (dOp ixK (dVar 0) (dC (.int 1))) (dB lenB (aCons (dOp ixK (dVar 0) (dC (.int 0))) (aNil))))) (sSeq (sAsg (dOp ixK (dOp ixK (dVar 0) (dC (.int 0))) (dOp ixK (dVar 0) (dC (.int 1)))) (gName 4)) (sAsg (dOp addK (dOp mulK (dC (.int 2)) (dB absB (aCons (dVar 4) (aNil)))) (dB intB (aCons (dCmp ltC (dVar 4) (dC (.int 0))) (aNil)))) (gName 3))) (sNext)) (sSeq (sAugL iaddK (dVar 0) (dC (.int 1)) (dC (.int 1))) (sSeq (sIf (tTru (dCmp geC (dVar 3) (dOp mulK (dC (.int 2)) (dOp powK (dC (.int 10)) (dC (.int 18)))))) (sSeq (sAsg (dOp modK (dB intB (aCons (dOp fdivK (dVar 3) (dC (.int 2))) (aNil))) (dOp shlK (dC (.int 1)) (dC (.int 6000)))) (gName 2)) (sSeq (sAsg (dOp fdivK (dVar 2) (dVar 1)) (gSub (dVar 0) (dC (.int 2)))) (sRet (dOp modK (dB intB (aCons (dVar 2) (aNil))) (dVar 1))))) (sNext)) (sSeq (sAsg (dOp modK (dB intB (aCons (dOp addK (dOp addK (dOp addK (dOp mulK (dOp ixK (dVar 0) (dC (.int 3))) (dC (.int 48271))) (dOp mulK (dOp modK (dB intB (aCons (dVar 3) (aNil))) (dC (.int 2147483629))) (dC (.int 16807)))) (dOp mulK (dOp ixK (dVar 0) (dC (.int 1))) (dC (.int 69621)))) (dC (.int 11))) (aNil))) (dC (.int 2147483647))) (gSub (dVar 0) (dC (.int 3)))) (sRet (dOp modK (dB intB (aCons (dOp fdivK (dOp ixK (dVar 0) (dC (.int 3))) (dC (.int 16))) (aNil))) (dVar 1))))))))
theorem ix_at {st : Store} {n : Nat} {xs : List D} {i : Int} {d : D} {Q : K} (h : rdL st n xs) (e : atD xs i = some d) (q : Q d st) : ixK (.ref n) (.int i) st Q := ⟨xs, d, .inl h, e, q⟩
theorem ixL_at {st : Store} {n : Nat} {xs : List D} {i : Int} {d : D} {Q : K} (h : rdL st n xs) (e : atD xs i = some d) (q : Q d st) : ixLK (.ref n) (.int i) st Q := ⟨xs, d, .inl h, e, q⟩
theorem set_at {st : Store} {n : Nat} {xs : List D} {i : Int} {v d : D} {Q : Store → Prop} (h : rdL st n xs) (e : atD xs i = some d) (h0 : 0 ≤ i) (q : Q (st.set n (.lst (xs.set i.toNat v)))) : setK (.ref n) (.int i) v st Q := ⟨xs, h, ⟨d, e⟩, h0, q⟩
theorem len_at {st : Store} {n : Nat} {xs : List D} {Q : K} (h : rdL st n xs) (q : Q (.int xs.length) st) : lenB [.ref n] st Q := ⟨xs, .inl h, q⟩
theorem atD_map {ns : List Int} {i : Int} (h0 : 0 ≤ i) (h1 : i < ns.length) : ∃ n, n ∈ ns ∧ atD (ns.map D.int) i = some (.int n) := by
  refine ⟨ns[i.toNat]'(by omega), List.getElem_mem _, ?_⟩
  unfold atD
  rw [if_pos h0, List.getElem?_map, List.getElem?_eq_getElem (by omega)]
  rfl
theorem draw_ok {prog : String → Option Def} (hp : prog "_law_draw" = some ⟨2, 5, drawBody⟩) {k : Nat} {st : Store} {many : Int} {Q : K} (h : DrawAt st) (h0 : 0 < many) (h1 : many < 1073741824)
    (hQ : ∀ r st', 0 ≤ r → r < many → Fra st st' → st'.length = st.length → Q (.int r) st') : callN prog (k + 1) "_law_draw" [.ref 2, .int many] st Q := by
  obtain ⟨ns, a, b, v, d1, d2, ha, hb, hv, hn⟩ := h
  have l2 := rdL_lt d2
  -- the end of each way: a drawer behind it
  have fin : ∀ {a b v : Int} {xs : List D} {r : Int}, xs = [.ref 1, .int a, .int b, .int v, .int 2] → 0 ≤ a → 0 ≤ b → 0 ≤ v → Q (.int (r % many)) (st.set 2 (.lst xs)) := fun {a b v xs r} e ha hb hv => by
    subst e
    refine hQ _ _ (Int.emod_nonneg _ (by omega)) (Int.emod_lt_of_pos _ h0) ⟨⟨ns, a, b, v, rdL_ne d1 (by decide), rdL_set d2, ha, hb, hv, hn⟩, by simp, fun n _ ne => by rw [List.getElem?_set_ne (Ne.symm ne)]⟩ (by simp)
  have set2 : ∀ {xs ys : List D}, (st.set 2 (.lst xs)).set 2 (.lst ys) = st.set 2 (.lst ys) := fun {xs ys} => by rw [List.set_set]
  refine call_intro hp rfl ?_
  unfold drawBody
  walk_at "r"
  refine ix_at d2 rfl ?_
  walk_at "r"
  refine way (fun e => ?_) (fun e => ?_)
  · have e : 0 < b := by simpa using e
    walk_at "r"
    refine ix_at d2 rfl ?_
    walk_at "r"
    refine ⟨⟨h0, h1⟩, ?_⟩
    walk_at "r"
    refine set_at d2 rfl (by decide) ?_
    walk_at "r"
    refine ⟨h0, ?_⟩
    exact fin (a := a) (b := b / many) (v := v) rfl ha (Int.ediv_nonneg hb (by omega)) hv
  · walk_at "s"
    refine Nxt.mk ?_
    walk_at "s"
    refine Nxt.mk ?_
    refine seq_cut (fun σ st' => ∃ sz y4, 0 ≤ sz ∧ σ = [some (.ref 2), some (.int many), none, some (.int sz), y4] ∧ st' = st) (fun N hN => ?_) (fun σ st' hJ => ?_)
    · walk_at "r"
      refine ix_at d2 rfl ?_
      walk_at "r"
      refine ix_at d2 rfl ?_
      walk_at "r"
      refine len_at d1 ?_
      walk_at "r"
      refine way (fun e => ?_) (fun e => ?_)
      · have e : a < (ns.length : Int) := by simpa using e
        walk_at "r"
        refine ix_at d2 rfl ?_
        walk_at "r"
        refine ix_at d2 rfl ?_
        obtain ⟨n, _, hat⟩ := atD_map ha e
        refine ix_at d1 hat ?_
        walk_at "r"
        refine ⟨.inl (by decide), ?_⟩
        walk_at "r"
        refine hN _ _ ⟨_, _, ?_, rfl, rfl⟩
        have hb2 : 0 ≤ b2i (decide (n < 0)) := by unfold b2i; split <;> decide
        split <;> omega
      · walk_at "r"
        exact hN _ _ ⟨0, _, by decide, rfl, rfl⟩
    · obtain ⟨sz, y4, hsz, rfl, e0⟩ := hJ
      rw [e0]
      walk_at "r"
      refine ixL_at d2 rfl ?_
      walk_at "r"
      refine set_at d2 rfl (by decide) ?_
      walk_at "r"
      have d3 : rdL (st.set 2 (.lst [.ref 1, .int (a + 1), .int b, .int v, .int 2])) 2 [.ref 1, .int (a + 1), .int b, .int v, .int 2] := rdL_set d2
      refine ⟨by unfold cPow; decide, ?_⟩
      walk_at "r"
      refine ⟨.inl (by decide), ?_⟩
      walk_at "r"
      refine way (fun _ => ?_) (fun _ => ?_)
      · walk_at "r"
        refine ⟨by decide, ?_⟩
        walk_at "r"
        refine ⟨by unfold cPow; decide, ?_⟩
        walk_at "r"
        have hp6 : (0 : Int) < 1 * 2 ^ (6000 : Int).toNat := by rw [Int.one_mul]; exact Int.pow_pos (by decide)
        refine ⟨hp6, ?_⟩
        walk_at "r"
        refine ⟨⟨h0, h1⟩, ?_⟩
        walk_at "r"
        refine set_at d3 rfl (by decide) ?_
        walk_at "r"
        refine ⟨h0, ?_⟩
        show Q _ ((st.set 2 _).set 2 _)
        rw [set2]
        exact fin (a := a + 1) (b := sz / 2 % (1 * 2 ^ (6000 : Int).toNat) / many) (v := v) rfl (by omega) (Int.ediv_nonneg (Int.emod_nonneg _ (by omega)) (by omega)) hv
      · walk_at "r"
        refine ix_at d3 rfl ?_
        walk_at "r"
        refine ⟨.inr (by decide), ?_⟩
        walk_at "r"
        refine ⟨by decide, ?_⟩
        walk_at "r"
        refine ⟨.inr (by decide), ?_⟩
        walk_at "r"
        refine ix_at d3 rfl ?_
        walk_at "r"
        refine ⟨.inr (by decide), ?_⟩
        walk_at "r"
        refine ⟨by decide, ?_⟩
        walk_at "r"
        refine set_at d3 rfl (by decide) ?_
        walk_at "r"
        refine ix_at (rdL_set d3) rfl ?_
        walk_at "r"
        refine ⟨by decide, ?_⟩
        walk_at "r"
        refine ⟨h0, ?_⟩
        rw [set2]
        exact fin (a := a + 1) (b := b) (v := (v * 48271 + sz % 2147483629 * 16807 + (a + 1) * 69621 + 11) % 2147483647) rfl (by omega) hb (Int.emod_nonneg _ (by omega))
end Pd
end PartPdDraw

section PartPdLib
set_option Elab.async false
set_option linter.all false
set_option maxRecDepth 100000
/-! Pd: what the laws share: list cells, draws in comprehensions, masks. Own work. -/
namespace Pd
open PySem
local macro_rules | `(tactic| walk_at "s") => `(tactic| (repeat (refine Red.red ?_)))
local macro_rules | `(tactic| walk_at "r") => `(tactic| (repeat (first | refine Red.red ?_ | refine Nxt.mk ?_)))
/-! ### list cells -/
theorem list_at {st : Store} {n : Nat} {xs : List D} {Q : K} (h : rdL st n xs) (q : Q (.ref st.length) (st ++ [.lst xs])) : listB [.ref n] st Q := ⟨xs, .inl h, q⟩
theorem tuple_at {st : Store} {n : Nat} {xs : List D} {Q : K} (h : rdL st n xs) (q : Q (.tup xs) st) : tupleB [.ref n] st Q := ⟨xs, .inl h, q⟩
theorem sum_at {st : Store} {n : Nat} {ns : List Int} {Q : K} (h : rdL st n (ns.map D.int)) (q : Q (.int ns.sum) st) : sumB [.ref n] st Q := ⟨ns, .inl h, q⟩
theorem it_at {st : Store} {n : Nat} {xs : List D} {R : Iter → Store → Prop} (h : rdL st n xs) (q : R ⟨xs, fun s => rdA s n xs⟩ st) : itK (.ref n) st R := ⟨xs, .inl h, q⟩
theorem append_at {st : Store} {n : Nat} {xs : List D} {x : D} {Q : K} (h : rdL st n xs) (hl : xs.length < szl) (q : Q .non (st.set n (.lst (xs ++ [x])))) : appendM (.ref n) [x] st Q := ⟨xs, h, hl, q⟩
theorem extend_at {st : Store} {n m : Nat} {xs ys : List D} {Q : K} (h : rdL st n xs) (h' : rdL st m ys) (ne : n ≠ m) (hl : xs.length + ys.length ≤ szl) (q : Q .non (st.set n (.lst (xs ++ ys)))) : extendM (.ref n) [.ref m] st Q := ⟨xs, ys, h, h', ne, hl, q⟩
theorem ty_at {st : Store} {n : Nat} {xs : List D} (h : rdL st n xs) : tyLst (.ref n) st := ⟨xs, h⟩
theorem sl_at {st : Store} {n : Nat} {xs : List D} {lo hi : Option Int} {Q : K} (h : rdL st n xs) (q : Q (.ref st.length) (st ++ [.lst (cutD xs lo hi)])) : slK (.ref n) lo hi st Q := ⟨xs, .inl h, q⟩
theorem add_at {st : Store} {n m : Nat} {xs ys : List D} {Q : K} (h : rdL st n xs) (h' : rdL st m ys) (hl : xs.length + ys.length ≤ szl) (q : Q (.ref st.length) (st ++ [.lst (xs ++ ys)])) : addK (.ref n) (.ref m) st Q := ⟨xs, ys, h, h', hl, q⟩
theorem rep_at {st : Store} {n : Nat} {xs : List D} {k : Int} {Q : K} (h : rdL st n xs) (h0 : 0 ≤ k) (h1 : k < 1000000) (hl : xs.length ≤ 1) (q : Q (.ref st.length) (st ++ [.lst (List.replicate k.toNat xs).flatten])) : mulK (.ref n) (.int k) st Q :=
  ⟨xs, h, by omega, by omega, by
    have : xs.length * k.toNat ≤ 1 * k.toNat := Nat.mul_le_mul_right _ hl
    unfold szl; omega, q⟩
theorem flat_one (x : D) (n : Nat) : (List.replicate n [x]).flatten = List.replicate n x := by
  induction n with
  | zero => rfl
  | succ n ih => rw [List.replicate_succ, List.flatten_cons, ih, List.replicate_succ]; rfl
theorem atD_nat {α : Type} {xs : List α} {i : Int} {x : α} (h0 : 0 ≤ i) (h : xs[i.toNat]? = some x) : atD xs i = some x := by unfold atD; rw [if_pos h0]; exact h
theorem atD_of {α : Type} {xs : List α} {i : Int} (h0 : 0 ≤ i) (h1 : i < xs.length) : ∃ x, x ∈ xs ∧ xs[i.toNat]? = some x ∧ atD xs i = some x :=
  ⟨xs[i.toNat]'(by omega), List.getElem_mem _, List.getElem?_eq_getElem (by omega), atD_nat h0 (List.getElem?_eq_getElem (by omega))⟩
theorem atD_mapI {α : Type} {f : α → D} {xs : List α} {i : Int} (h0 : 0 ≤ i) (h1 : i < xs.length) : ∃ x, x ∈ xs ∧ xs[i.toNat]? = some x ∧ atD (xs.map f) i = some (f x) := by
  obtain ⟨x, h2, h3, h4⟩ := atD_of h0 h1
  exact ⟨x, h2, h3, atD_nat h0 (by rw [List.getElem?_map, h3]; rfl)⟩
theorem cut_take {α : Type} (xs : List α) {i : Int} (h : 0 ≤ i) : cutD xs none (some i) = xs.take i.toNat := by
  unfold cutD cl
  simp only [Option.map_none, Option.getD_none, Option.map_some, Option.getD_some, List.drop_zero, Nat.sub_zero]
  rw [if_neg (by omega)]
  by_cases h2 : i.toNat ≤ xs.length
  · rw [Nat.min_eq_left h2]
  · rw [Nat.min_eq_right (by omega), List.take_of_length_le (Nat.le_refl _), List.take_of_length_le (by omega)]
theorem cut_drop {α : Type} (xs : List α) {i : Int} (h : 0 ≤ i) : cutD xs (some i) none = xs.drop i.toNat := by
  unfold cutD cl
  simp only [Option.map_none, Option.getD_none, Option.map_some, Option.getD_some]
  rw [if_neg (by omega)]
  by_cases h2 : i.toNat ≤ xs.length
  · rw [Nat.min_eq_left h2, List.take_of_length_le (by simp)]
  · rw [Nat.min_eq_right (by omega), List.drop_of_length_le (Nat.le_refl _), List.drop_of_length_le (by omega)]
    simp
theorem cut_last {α : Type} (xs : List α) : cutD xs none (some (-1)) = xs.dropLast := by
  unfold cutD cl
  simp only [Option.map_none, Option.getD_none, Option.map_some, Option.getD_some, List.drop_zero, Nat.sub_zero]
  rw [if_pos (by decide), List.dropLast_eq_take]
  congr 1
  omega
/-- cells are added, all others as they were -/
def Grw (st st' : Store) : Prop := ∃ m, st' = st ++ m
theorem Grw.refl (st : Store) : Grw st st := ⟨[], by simp⟩
theorem Grw.app {st st' : Store} {c : C} (h : Grw st st') : Grw st (st' ++ [c]) := by
  obtain ⟨m, rfl⟩ := h
  exact ⟨m ++ [c], by simp⟩
theorem Grw.trans {a b c : Store} (h : Grw a b) (h' : Grw b c) : Grw a c := by
  obtain ⟨m, rfl⟩ := h
  obtain ⟨m', rfl⟩ := h'
  exact ⟨m ++ m', by simp⟩
theorem Grw.rd {st st' : Store} (f : Grw st st') {n : Nat} {xs : List D} (h : rdL st n xs) : rdL st' n xs := by
  obtain ⟨m, rfl⟩ := f
  unfold rdL at *
  rw [List.getElem?_append_left (rdL_lt h)]; exact h
theorem Grw.fra {st st' : Store} (f : Grw st st') (h : DrawAt st) : Fra st st' := by
  obtain ⟨m, rfl⟩ := f
  refine ⟨?_, by simp, fun n hn _ => List.getElem?_append_left hn⟩
  obtain ⟨ns, a, b, v, h1, h2, h3⟩ := h
  exact ⟨ns, a, b, v, Grw.rd ⟨m, rfl⟩ h1, Grw.rd ⟨m, rfl⟩ h2, h3⟩
theorem Grw.le {st st' : Store} (f : Grw st st') : st.length ≤ st'.length := by
  obtain ⟨m, rfl⟩ := f
  simp
theorem Fra.set' {st st' : Store} {n : Nat} {c : C} (f : Fra st st') (hn : st.length ≤ n) (h2 : 2 < st.length) : Fra st (st'.set n c) := f.set hn (by omega)
/-! ### the drawer is made -/
def beginBody (c : Cl) : TS := sRet (dLst (aCons (dLc (iSeq (dVar 0)) (gName 1) (tYes) (dB intB (aCons (dVar 1) (aNil))) [1]) (aCons (dC (.int 0)) (aCons (dC (.int 0)) (aCons (dC (.int 7)) (aCons (dC (.int 2)) (aNil)))))))
theorem begin_ok {prog : String → Option Def} (hp : prog "_law_begin" = some ⟨1, 2, beginBody⟩) {k : Nat} {ns : List Int} {Q : K} (hn : ns.length ≤ 63)
    (hQ : ∀ st', DrawAt st' → st'.length = 3 → Q (.ref 2) st') : callN prog (k + 1) "_law_begin" [.ref 0] [.frz (ns.map D.int)] Q := by
  refine call_intro hp rfl ?_
  unfold beginBody
  walk_at "r"
  have hfz : ∀ acc : List D, rdA ([.frz (ns.map D.int)] ++ [.lst acc]) 0 (ns.map D.int) := fun acc => .inr rfl
  refine ⟨ns.map D.int, .inr rfl, ?_⟩
  refine lc_map ns D.int D.int rfl (by unfold szl; omega) hfz (fun x hx acc N hN => ?_) ?_
  · walk_at "r"
    exact hN
  · walk_at "r"
    refine ⟨by show 5 ≤ szl; decide, ?_⟩
    exact hQ _ ⟨ns, 0, 0, 7, rfl, rfl, by decide, by decide, by decide, hn⟩ rfl
/-! ### comprehensions of draws -/
theorem lc_ints {gd : Store → Prop} {g : TG} {te : TE} {ρ : Env} {st : Store} {Q : K} {items : List D} (P : Int → Prop) (hd : DrawAt st) (hl : items.length ≤ szl) (hg : ∀ st', Fra st st' → gd st')
    (hs : ∀ x ∈ items, ∀ st', Fra st st' → ∀ N : D → Store → Prop, (∀ r st2, P r → Fra st' st2 → N (.int r) st2) → g x ρ st' fun ρ2 st2 => te ρ2 st2 N)
    (hQ : ∀ (rs : List Int) st', rs.length = items.length → (∀ r ∈ rs, P r) → Fra st st' → rdL st' st.length (rs.map D.int) → Q (.ref st.length) st') : lcLoop gd g tYes te ρ st.length Q items [] (st ++ [.lst []]) := by
  have h2 := hd.lt
  refine lc_by (fun pre acc st' => ∃ rs : List Int, acc = rs.map D.int ∧ rs.length = pre.length ∧ (∀ r ∈ rs, P r) ∧ Fra st st' ∧ rdL st' st.length acc) ⟨[], rfl, rfl, by simp, (Fra.refl hd).app, rdL_new⟩ (fun pre x post acc st' e ⟨rs, h1, h3, h4, h5, h6⟩ N M hN hM => ?_) (fun acc st' ⟨rs, h1, h3, h4, h5, h6⟩ => ?_)
  · subst h1
    refine ⟨hg _ h5, ?_⟩
    have e1 : (fun (ρ2 : Env) (st2 : Store) => tYes ρ2 st2 fun b st3 => (b = true → te ρ2 st3 N) ∧ (b = false → M st3)) = fun ρ2 st2 => te ρ2 st2 N := by
      funext ρ2 st2
      exact propext ⟨fun q => q.1 rfl, fun q => ⟨fun _ => q, fun e => nomatch e⟩⟩
    rw [e1]
    have hlen := congrArg List.length e
    simp at hlen
    refine hs x (by rw [e]; simp) st' h5 N fun r st2 hr f => ?_
    have h7 := f.rd h6 (by omega)
    refine hN _ _ h7 (by simp; omega) ⟨rs ++ [r], by simp, by simp [h3], ?_, (h5.trans f).set (Nat.le_refl _) (by omega), rdL_set h7⟩
    intro y hy
    rcases List.mem_append.mp hy with hy | hy
    · exact h4 y hy
    · simp at hy; subst hy; exact hr
  · subst h1
    exact ⟨hg _ h5, h6, hQ rs st' h3 h4 h5 h6⟩
/-- two lists, place by place -/
inductive Two {α β : Type} (P : α → β → Prop) : List α → List β → Prop
  | nil : Two P [] []
  | cons {a : α} {b : β} {as : List α} {bs : List β} : P a b → Two P as bs → Two P (a :: as) (b :: bs)
theorem Two.snoc {α β : Type} {P : α → β → Prop} : ∀ {as : List α} {bs : List β} {a : α} {b : β}, Two P as bs → P a b → Two P (as ++ [a]) (bs ++ [b])
  | _, _, _, _, .nil, h => .cons h .nil
  | _, _, _, _, .cons h t, h' => .cons h (Two.snoc t h')
theorem Two.length {α β : Type} {P : α → β → Prop} : ∀ {as : List α} {bs : List β}, Two P as bs → as.length = bs.length
  | _, _, .nil => rfl
  | _, _, .cons _ t => by simp [Two.length t]
theorem Two.imp {α β : Type} {P P' : α → β → Prop} (f : ∀ a b, P a b → P' a b) : ∀ {as : List α} {bs : List β}, Two P as bs → Two P' as bs
  | _, _, .nil => .nil
  | _, _, .cons h t => .cons (f _ _ h) (Two.imp f t)
theorem lc_vals {gd : Store → Prop} {g : TG} {te : TE} {ρ : Env} {st : Store} {Q : K} {items : List D} (P : D → D → Prop) (hd : DrawAt st) (hl : items.length ≤ szl) (hg : ∀ st', Fra st st' → gd st')
    (hs : ∀ x ∈ items, ∀ st', Fra st st' → ∀ N : D → Store → Prop, (∀ y st2, P x y → Fra st' st2 → N y st2) → g x ρ st' fun ρ2 st2 => te ρ2 st2 N)
    (hQ : ∀ (ys : List D) st', Two P items ys → Fra st st' → rdL st' st.length ys → Q (.ref st.length) st') : lcLoop gd g tYes te ρ st.length Q items [] (st ++ [.lst []]) := by
  have h2 := hd.lt
  refine lc_by (fun pre acc st' => Two P pre acc ∧ Fra st st' ∧ rdL st' st.length acc) ⟨.nil, (Fra.refl hd).app, rdL_new⟩ (fun pre x post acc st' e ⟨h1, h5, h6⟩ N M hN hM => ?_) (fun acc st' ⟨h1, h5, h6⟩ => ?_)
  · refine ⟨hg _ h5, ?_⟩
    have e1 : (fun (ρ2 : Env) (st2 : Store) => tYes ρ2 st2 fun b st3 => (b = true → te ρ2 st3 N) ∧ (b = false → M st3)) = fun ρ2 st2 => te ρ2 st2 N := by
      funext ρ2 st2
      exact propext ⟨fun q => q.1 rfl, fun q => ⟨fun _ => q, fun e => nomatch e⟩⟩
    rw [e1]
    have hlen := congrArg List.length e
    simp at hlen
    refine hs x (by rw [e]; simp) st' h5 N fun y st2 hr f => ?_
    have h7 := f.rd h6 (by omega)
    exact hN _ _ h7 (by have := h1.length; omega) ⟨h1.snoc hr, (h5.trans f).set (Nat.le_refl _) (by omega), rdL_set h7⟩
  · exact ⟨hg _ h5, h6, hQ acc st' h1 h5 h6⟩
theorem not_any {α : Type} {p q : α → Bool} : ∀ {l : List α}, (∀ x ∈ l, p x = !q x) → (!l.any p) = l.all q
  | [], _ => rfl
  | x :: l, h => by
    rw [List.any_cons, List.all_cons, Bool.not_or, not_any (l := l) fun y hy => h y (List.mem_cons_of_mem _ hy), h x List.mem_cons_self, Bool.not_not]
/-- a filtered comprehension whose test and element read alone -/
theorem lc_filter {α : Type} {gd : Store → Prop} {g : TG} {tt : TT} {te : TE} {ρ : Env} {st : Store} {Q : K} (xs : List α) (f h : α → D) (p : α → Bool) {items : List D} (hi : items = xs.map f) (hl : xs.length ≤ szl) (hg : ∀ acc, gd (st ++ [.lst acc]))
    (hs : ∀ x, x ∈ xs → ∀ (acc : List D) (N : D → Store → Prop) (M : Store → Prop), (p x = true → N (h x) (st ++ [.lst acc])) → (p x = false → M (st ++ [.lst acc])) → g (f x) ρ (st ++ [.lst acc]) fun ρ2 st2 => tt ρ2 st2 fun b st3 => (b = true → te ρ2 st3 N) ∧ (b = false → M st3))
    (hd : Q (.ref st.length) (st ++ [.lst ((xs.filter p).map h)])) : lcLoop gd g tt te ρ st.length Q items [] (st ++ [.lst []]) := by
  subst hi
  refine lc_by (fun pre acc st' => acc = ((xs.take pre.length).filter p).map h ∧ st' = st ++ [.lst acc]) ⟨rfl, rfl⟩ (fun pre x post acc st' e ⟨h1, h2⟩ N M hN hM => ?_) (fun acc st' ⟨h1, h2⟩ => ?_)
  · subst h1; subst h2
    refine ⟨hg _, ?_⟩
    have hlen : pre.length < xs.length := by
      have := congrArg List.length e
      simp at this; omega
    have hx : xs[pre.length] ∈ xs := List.getElem_mem hlen
    have hfx : x = f xs[pre.length] := by
      have h2 : (xs.map f)[pre.length]? = some x := by rw [e]; simp
      rw [List.getElem?_map, List.getElem?_eq_getElem hlen] at h2
      simpa using h2.symm
    subst hfx
    have take1 : List.take (pre ++ [f xs[pre.length]]).length xs = List.take pre.length xs ++ [xs[pre.length]] := by
      rw [List.length_append]
      show List.take (pre.length + 1) xs = _
      rw [List.take_add_one, List.getElem?_eq_getElem hlen]
      rfl
    have hsz : (List.map h (List.filter p (List.take pre.length xs))).length < szl := by
      rw [List.length_map]
      have h3 := List.length_filter_le p (List.take pre.length xs)
      rw [List.length_take] at h3
      omega
    refine hs _ hx _ N M (fun hp => hN _ _ (by unfold rdL; simp) hsz ⟨?_, by rw [set_app]⟩) fun hp => hM _ (by unfold rdL; simp) ⟨?_, rfl⟩
    · rw [take1, List.filter_append, List.map_append]
      simp [hp]
    · rw [take1, List.filter_append, List.map_append]
      simp [hp]
  · subst h1; subst h2
    have e2 : List.take (List.map f xs).length xs = xs := by simp
    rw [e2] at *
    exact ⟨hg _, by unfold rdL; simp, hd⟩
/-- a comprehension with a test, of ints -/
theorem lc_some {gd : Store → Prop} {g : TG} {tt : TT} {te : TE} {ρ : Env} {st : Store} {Q : K} {items : List D} (P : Int → Prop) (hd : DrawAt st) (hl : items.length ≤ szl) (hg : ∀ st', Fra st st' → gd st')
    (hs : ∀ x ∈ items, ∀ st', Fra st st' → ∀ (N : D → Store → Prop) (M : Store → Prop), (∀ r st2, P r → Fra st' st2 → N (.int r) st2) → (∀ st2, Fra st' st2 → M st2) → g x ρ st' fun ρ2 st2 => tt ρ2 st2 fun b st3 => (b = true → te ρ2 st3 N) ∧ (b = false → M st3))
    (hQ : ∀ (rs : List Int) st', rs.length ≤ items.length → (∀ r ∈ rs, P r) → Fra st st' → rdL st' st.length (rs.map D.int) → Q (.ref st.length) st') : lcLoop gd g tt te ρ st.length Q items [] (st ++ [.lst []]) := by
  have h2 := hd.lt
  refine lc_by (fun pre acc st' => ∃ rs : List Int, acc = rs.map D.int ∧ rs.length ≤ pre.length ∧ (∀ r ∈ rs, P r) ∧ Fra st st' ∧ rdL st' st.length acc) ⟨[], rfl, Nat.le_refl _, by simp, (Fra.refl hd).app, rdL_new⟩ (fun pre x post acc st' e ⟨rs, h1, h3, h4, h5, h6⟩ N M hN hM => ?_) (fun acc st' ⟨rs, h1, h3, h4, h5, h6⟩ => ?_)
  · subst h1
    refine ⟨hg _ h5, ?_⟩
    have hlen := congrArg List.length e
    simp at hlen
    refine hs x (by rw [e]; simp) st' h5 N M (fun r st2 hr f => ?_) fun st2 f => hM _ (f.rd h6 (by omega)) ⟨rs, rfl, by simp; omega, h4, h5.trans f, f.rd h6 (by omega)⟩
    have h7 := f.rd h6 (by omega)
    refine hN _ _ h7 (by simp; omega) ⟨rs ++ [r], by simp, by simp [h3], ?_, (h5.trans f).set (Nat.le_refl _) (by omega), rdL_set h7⟩
    intro y hy
    rcases List.mem_append.mp hy with hy | hy
    · exact h4 y hy
    · simp at hy; subst hy; exact hr
  · subst h1
    exact ⟨hg _ h5, h6, hQ rs st' h3 h4 h5 h6⟩
/-- a comprehension of new lists -/
theorem lc_cells {gd : Store → Prop} {g : TG} {te : TE} {ρ : Env} {st : Store} {Q : K} {items : List D} (P : List D → Prop) (hd : DrawAt st) (hl : items.length ≤ szl) (hg : ∀ st', Fra st st' → gd st')
    (hs : ∀ x ∈ items, ∀ st', Fra st st' → ∀ N : D → Store → Prop, (∀ r xs st2, st'.length ≤ r → rdL st2 r xs → P xs → Fra st' st2 → N (.ref r) st2) → g x ρ st' fun ρ2 st2 => te ρ2 st2 N)
    (hQ : ∀ (rs : List Nat) st', rs.length = items.length → (∀ r ∈ rs, st.length < r ∧ ∃ xs, rdL st' r xs ∧ P xs) → Fra st st' → rdL st' st.length (rs.map D.ref) → Q (.ref st.length) st') : lcLoop gd g tYes te ρ st.length Q items [] (st ++ [.lst []]) := by
  have h2 := hd.lt
  refine lc_by (fun pre acc st' => ∃ rs : List Nat, acc = rs.map D.ref ∧ rs.length = pre.length ∧ (∀ r ∈ rs, st.length < r ∧ ∃ xs, rdL st' r xs ∧ P xs) ∧ Fra st st' ∧ rdL st' st.length acc) ⟨[], rfl, rfl, by simp, (Fra.refl hd).app, rdL_new⟩ (fun pre x post acc st' e ⟨rs, h1, h3, h4, h5, h6⟩ N M hN hM => ?_) (fun acc st' ⟨rs, h1, h3, h4, h5, h6⟩ => ?_)
  · subst h1
    refine ⟨hg _ h5, ?_⟩
    have e1 : (fun (ρ2 : Env) (st2 : Store) => tYes ρ2 st2 fun b st3 => (b = true → te ρ2 st3 N) ∧ (b = false → M st3)) = fun ρ2 st2 => te ρ2 st2 N := by
      funext ρ2 st2
      exact propext ⟨fun q => q.1 rfl, fun q => ⟨fun _ => q, fun e => nomatch e⟩⟩
    rw [e1]
    have hlen := congrArg List.length e
    simp at hlen
    refine hs x (by rw [e]; simp) st' h5 N fun r xs st2 hb hr hp f => ?_
    have h7 := f.rd h6 (by omega)
    have h8 := rdL_lt h6
    refine hN _ _ h7 (by simp; omega) ⟨rs ++ [r], by simp, by simp [h3], ?_, (h5.trans f).set (Nat.le_refl _) (by omega), rdL_set h7⟩
    intro y hy
    rcases List.mem_append.mp hy with hy | hy
    · obtain ⟨q1, ys, q2, q3⟩ := h4 y hy
      exact ⟨q1, ys, rdL_ne (f.rd q2 (by omega)) (by omega), q3⟩
    · simp at hy; subst hy
      exact ⟨by omega, xs, rdL_ne hr (by omega), hp⟩
  · subst h1
    exact ⟨hg _ h5, h6, hQ rs st' h3 h4 h5 h6⟩
theorem Two.mem {α β : Type} {P : α → β → Prop} {S : List α} : ∀ {as : List α} {bs : List β}, (∀ a ∈ as, a ∈ S) → Two (fun a b => a ∈ S → P a b) as bs → Two P as bs
  | _, _, _, .nil => .nil
  | _, _, hS, .cons h t => .cons (h (hS _ List.mem_cons_self)) (Two.mem (fun a ha => hS a (List.mem_cons_of_mem _ ha)) t)
theorem Two.on {α β : Type} {P : α → β → Prop} {as : List α} {bs : List β} (h : Two (fun a b => a ∈ as → P a b) as bs) : Two P as bs := Two.mem (fun _ h => h) h
theorem Two.split {α β γ : Type} {P : α → β → Prop} {R : γ → Prop} {f : γ → β} (h : ∀ a b, P a b → ∃ c, b = f c ∧ R c) : ∀ {as : List α} {bs : List β}, Two P as bs → ∃ cs : List γ, bs = cs.map f ∧ cs.length = as.length ∧ ∀ c ∈ cs, R c
  | _, _, .nil => ⟨[], rfl, rfl, by simp⟩
  | _, _, .cons p t => by
    obtain ⟨c, h1, h2⟩ := h _ _ p
    obtain ⟨cs, h3, h4, h5⟩ := Two.split h t
    refine ⟨c :: cs, by rw [h1, h3]; rfl, by simp [h4], ?_⟩
    intro x hx
    rcases List.mem_cons.mp hx with hx | hx
    · rw [hx]; exact h2
    · exact h5 x hx
/-! ### masks -/
theorem pow2_pos (n : Nat) : (0 : Int) < 2 ^ n := Int.pow_pos (by decide)
theorem pw_bd {w : Int} (h0 : 0 ≤ w) (h1 : w ≤ 8) : 0 < (2 : Int) ^ w.toNat ∧ (2 : Int) ^ w.toNat ≤ 256 := by
  have h2 : w.toNat ≤ 8 := by omega
  have h := pow2_pos w.toNat
  have h3 := Nat.pow_le_pow_right (n := 2) (by decide) h2
  have e : ((2 : Int) ^ w.toNat) = ((2 ^ w.toNat : Nat) : Int) := by simp
  constructor
  · exact h
  · rw [e]; omega
theorem and_le {x m : Int} (hm : 0 ≤ m) : 0 ≤ Builtin.bitAnd x m ∧ Builtin.bitAnd x m ≤ m := by
  unfold Builtin.bitAnd
  by_cases hx : 0 ≤ x
  · simp only [hx, hm, decide_true]
    have := Nat.and_le_right (n := x.toNat) (m := m.toNat)
    omega
  · simp only [hx, hm, decide_true, decide_false]
    have := Nat.and_le_left (n := m.toNat) (m := (Builtin.bitNot x).toNat)
    omega
theorem and_mask {x : Int} {n : Nat} (hx : 0 ≤ x) : Builtin.bitAnd x (2 ^ n - 1) = x % 2 ^ n := by
  have hm : (0 : Int) ≤ 2 ^ n - 1 := by have := pow2_pos n; omega
  unfold Builtin.bitAnd
  simp only [hx, hm, decide_true]
  have e1 : (2 ^ n - 1 : Int).toNat = 2 ^ n - 1 := by
    have : (2 ^ n : Int) = ((2 ^ n : Nat) : Int) := by simp
    rw [this]
    have := Nat.two_pow_pos n
    omega
  rw [e1, Nat.and_two_pow_sub_one_eq_mod]
  have : (2 ^ n : Int) = ((2 ^ n : Nat) : Int) := by simp
  rw [this, Int.natCast_emod, Int.toNat_of_nonneg hx]
theorem or_one {x : Int} (hx : 0 ≤ x) : Builtin.bitOr x 1 = x + 1 - x % 2 := by
  unfold Builtin.bitOr Builtin.bitNot Builtin.bitAnd
  have h1 : ¬ (0 ≤ -x - 1) := by omega
  have h2 : ¬ ((0 : Int) ≤ -1 - 1) := by omega
  simp only [h1, h2, decide_false]
  unfold Builtin.bitNot
  have e1 : (-(-x - 1) - 1).toNat = x.toNat := by omega
  have e2 : (-(-1 - 1 : Int) - 1).toNat = 1 := by decide
  rw [e1, e2]
  have h3 : x.toNat ||| 1 = x.toNat + 1 - x.toNat % 2 := by
    have h4 := Nat.div_add_mod x.toNat 2
    have h6 : 2 * (x.toNat / 2) ||| 1 = 2 * (x.toNat / 2) + 1 := (Nat.two_pow_add_eq_or_of_lt (i := 1) (by decide) (x.toNat / 2)).symm
    rcases Nat.mod_two_eq_zero_or_one x.toNat with h5 | h5
    · have : x.toNat = 2 * (x.toNat / 2) := by omega
      rw [h5]
      rw [← this] at h6
      omega
    · have : x.toNat = 2 * (x.toNat / 2) ||| 1 := by omega
      rw [h5]
      have h7 : x.toNat ||| 1 = x.toNat := by
        conv => lhs; rw [this]
        rw [Nat.or_assoc, Nat.or_self]
        exact this.symm
      omega
  rw [h3]
  omega
end Pd
end PartPdLib

section PartPdKit
set_option Elab.async false
set_option linter.all false
set_option maxRecDepth 100000
/-! Pd: small defs that several laws have. Own work. -/
namespace Pd
open PySem
local macro_rules | `(tactic| walk_at "s") => `(tactic| (repeat (refine Red.red ?_)))
local macro_rules | `(tactic| walk_at "r") => `(tactic| (repeat (first | refine Red.red ?_ | refine Nxt.mk ?_)))
instance {x : D} {xs : List D} {st : Store} {r : Bool → Prop} : Red (inC x (.tup xs) st r) (x.flat = true ∧ xs.all D.flat = true ∧ r (xs.any fun y => D.eqb y x)) := ⟨id⟩
instance {x : D} {xs : List D} {st : Store} {r : Bool → Prop} : Red (notinC x (.tup xs) st r) (x.flat = true ∧ xs.all D.flat = true ∧ r (!xs.any fun y => D.eqb y x)) := ⟨id⟩
/-- a, b = x, y -/
def ParK (i j : Nat) (xs : List D) (σ : Env) (q : Env → Prop) : Prop := ∃ x y, xs = [x, y] ∧ q ((σ.set i (some x)).set j (some y))
instance {i j : Nat} {Ar : TA} {D0 : Ends} {σ : Env} {st : Store} : Red (sPar i j Ar D0 σ st) (Ar σ st fun xs st1 => ParK i j xs σ fun σ' => D0.nx σ' st1) := ⟨id⟩
instance {i j : Nat} {σ σ' σ'' : Env} {x y : D} {q : Env → Prop} [h : SetE σ i (some x) σ'] [h' : SetE σ' j (some y) σ''] : Red (ParK i j [x, y] σ q) (q σ'') := ⟨fun z => ⟨x, y, rfl, by rw [h.eq, h'.eq]; exact z⟩⟩
instance {a b : Bool} {st : Store} {r : Bool → Prop} : Red (eqC (.bl a) (.bl b) st r) (r (a == b)) := ⟨fun h => ⟨rfl, rfl, h⟩⟩
instance {a b : Bool} {st : Store} {r : Bool → Prop} : Red (neC (.bl a) (.bl b) st r) (r (!(a == b))) := ⟨fun h => ⟨rfl, rfl, h⟩⟩
theorem at_is {xs : List D} {i : Int} {d : D} {P : D → Prop} (h : atD xs i = some d) (q : P d) : ∃ d, atD xs i = some d ∧ P d := ⟨d, h, q⟩
theorem zipD_maps {α β : Type} (f : α → D) (g : β → D) : ∀ (xs : List α) (ys : List β), zipD (xs.map f) (ys.map g) = (xs.zip ys).map fun p => D.tup [f p.1, g p.2]
  | [], ys => by cases ys <;> rfl
  | x :: xs, [] => rfl
  | x :: xs, y :: ys => by simp [zipD, zipD_maps f g xs ys]
mutual
theorem eqb_refl : ∀ (n : Nat) (d : D), D.okd n d = true → D.eqb d d = true
  | _, .non, _ => rfl
  | _, .bl b, _ => by simp [D.eqb]
  | _, .int i, _ => by simp [D.eqb]
  | _, .str x, _ => by simp [D.eqb]
  | 0, .tup _, h => by simp [D.okd] at h
  | n + 1, .tup xs, h => by
    have := eqbs_refl n xs (by simpa [D.okd] using h)
    simpa [D.eqb] using this
  | _, .ref _, h => by simp [D.okd] at h
theorem eqbs_refl : ∀ (n : Nat) (ds : List D), okds n ds = true → eqbs ds ds = true
  | _, [], _ => rfl
  | n, d :: ds, h => by
    have h' : D.okd n d = true ∧ okds n ds = true := by simpa [okds] using h
    have h1 := eqb_refl n d h'.1
    have h2 := eqbs_refl n ds h'.2
    simp [eqbs, h1, h2]
end
theorem okds_all (n : Nat) : ∀ ds : List D, okds n ds = ds.all (D.okd n)
  | [] => rfl
  | d :: ds => by simp [okds, okds_all n ds]
theorem ne_self {d : D} {st : Store} {r : Bool → Prop} (h : D.okd 60 d = true) (hr : ∀ n, d ≠ .ref n) (q : r false) : neC d d st r := by
  have e := eqb_refl 60 d h
  have key : eqC d d st fun b => r (!b) := by
    cases d with
    | ref n => exact absurd rfl (hr n)
    | non => exact ⟨h, h, by rw [e]; exact q⟩
    | bl b => exact ⟨h, h, by rw [e]; exact q⟩
    | int b => exact ⟨h, h, by rw [e]; exact q⟩
    | str b => exact ⟨h, h, by rw [e]; exact q⟩
    | tup b => exact ⟨h, h, by rw [e]; exact q⟩
  exact key
/-! dicts -/
theorem put_len (kvs : List (Ky × D)) (k : Ky) (v : D) : (putD kvs k v).length ≤ kvs.length + 1 := by
  unfold putD
  split <;> simp
theorem val_put (kvs : List (Ky × D)) (k j : Ky) (v : D) : valD (putD kvs k v) j = if j = k then some v else valD kvs j := by
  unfold putD
  split
  · rename_i h
    induction kvs with
    | nil => simp at h
    | cons p kvs ih =>
      obtain ⟨a, d⟩ := p
      by_cases e : a = k
      · subst e
        by_cases ej : j = a
        · subst ej; simp [valD]
        · have ej' : ¬ a = j := fun z => ej z.symm
          have rest : ∀ l : List (Ky × D), valD (l.map fun kv => if kv.1 = a then (kv.1, v) else kv) j = valD l j := by
            intro l
            induction l with
            | nil => rfl
            | cons q l ih2 =>
              obtain ⟨b, z⟩ := q
              by_cases eb : b = a
              · subst eb
                simp [valD, ej'] at ih2 ⊢
                exact ih2
              · by_cases ebj : b = j
                · subst ebj; simp [valD, eb]
                · simp [valD, eb, ebj] at ih2 ⊢
                  exact ih2
          rw [if_neg ej]
          exact rest _
      · have h' : (kvs.any fun kv => decide (kv.1 = k)) = true := by simpa [e] using h
        have ih' := ih h'
        by_cases ea : a = j
        · subst ea
          simp [valD, e]
        · simp [valD, e, ea] at ih' ⊢
          exact ih'
  · rename_i h
    have hno : ∀ p ∈ kvs, ¬ p.1 = k := fun p hp e => h (List.any_eq_true.mpr ⟨p, hp, by simp [e]⟩)
    clear h
    induction kvs with
    | nil =>
      by_cases e : j = k
      · subst e; simp [valD]
      · have : ¬ k = j := fun z => e z.symm
        simp [valD, e, this]
    | cons p kvs ih =>
      obtain ⟨a, d⟩ := p
      have hak : ¬ a = k := hno (a, d) List.mem_cons_self
      have ih' := ih fun q hq => hno q (List.mem_cons_of_mem _ hq)
      by_cases ea : a = j
      · subst ea
        rw [if_neg hak]
        simp [valD]
      · simp [valD, ea] at ih' ⊢
        exact ih'
theorem dc_pure {α : Type} {gd : Store → Prop} {g : TG} {tk tv : TE} {ρ : Env} {st : Store} {Q : K} (f : α → D) (kf : α → Ky) (vf : α → D) (hg : ∀ acc, gd (st ++ [.dic acc])) : ∀ (xs : List α) (acc : List (Ky × D)) {items : List D}, items = xs.map f → acc.length + xs.length ≤ szl →
    (∀ x, x ∈ xs → ∀ (acc : List (Ky × D)) (N : D → D → Store → Prop), N (keyD (kf x)) (vf x) (st ++ [.dic acc]) → g (f x) ρ (st ++ [.dic acc]) fun ρ2 st2 => tk ρ2 st2 fun y st4 => tv ρ2 st4 fun z st5 => N y z st5) →
    Q (.ref st.length) (st ++ [.dic (xs.foldl (fun acc x => putD acc (kf x) (vf x)) acc)]) → dcLoop gd g tYes tk tv ρ st.length Q items acc (st ++ [.dic acc])
  | [], acc, items, e, hl, hs, hd => by
    subst e
    exact ⟨hg _, by unfold rdD; simp, hd⟩
  | x :: xs, acc, items, e, hl, hs, hd => by
    subst e
    refine ⟨hg _, ?_⟩
    have e1 : ∀ (R : D → D → Store → Prop), (fun (ρ2 : Env) (st2 : Store) => tYes ρ2 st2 fun b st3 => (b = true → tk ρ2 st3 fun y st4 => tv ρ2 st4 fun z st5 => R y z st5) ∧ (b = false → rdD st3 st.length acc ∧ dcLoop gd g tYes tk tv ρ st.length Q (xs.map f) acc st3)) = fun ρ2 st2 => tk ρ2 st2 fun y st4 => tv ρ2 st4 fun z st5 => R y z st5 := fun R => by
      funext ρ2 st2
      exact propext ⟨fun q => q.1 rfl, fun q => ⟨fun _ => q, fun e => nomatch e⟩⟩
    rw [e1]
    simp only [List.length_cons] at hl
    refine hs x List.mem_cons_self acc _ ⟨kf x, rfl, by unfold rdD; simp, by omega, ?_⟩
    have e2 : (st ++ [C.dic acc]).set st.length (.dic (putD acc (kf x) (vf x))) = st ++ [.dic (putD acc (kf x) (vf x))] := by
      rw [List.set_append_right _ _ (Nat.le_refl _)]; simp
    rw [e2]
    have := put_len acc (kf x) (vf x)
    exact dc_pure f kf vf hg xs _ rfl (by omega) (fun y hy => hs y (List.mem_cons_of_mem _ hy)) hd
section
variable {prog : String → Option Def} {k : Nat} {st : Store} {Q : K}
def pickBody (c : Cl) : TS := sRet (dOp ixK (dVar 1) (dCall c "_law_draw" (aCons (dVar 0) (aCons (dB lenB (aCons (dVar 1) (aNil))) (aNil)))))
theorem pick_ok (hp : prog "_law_pick" = some ⟨2, 2, pickBody⟩) (hp2 : prog "_law_draw" = some ⟨2, 5, drawBody⟩) {n : Nat} {xs : List D} (hd : DrawAt st) (h : rdL st n xs) (hn : n ≠ 2) (h0 : 0 < xs.length) (h1 : xs.length < 1073741824)
    (q : ∀ x st', x ∈ xs → Fra st st' → st'.length = st.length → Q x st') : callN prog (k + 2) "_law_pick" [.ref 2, .ref n] st Q := by
  refine call_intro hp rfl ?_
  unfold pickBody
  walk_at "r"
  refine len_at h ?_
  walk_at "r"
  refine draw_ok hp2 hd (by omega) (by omega) fun r st' r0 r1 f fl => ?_
  obtain ⟨x, hx, _, e⟩ := atD_of (xs := xs) r0 r1
  exact ix_at (f.rd h hn) e (q x st' hx f fl)
theorem pickT_ok (hp : prog "_law_pick" = some ⟨2, 2, pickBody⟩) (hp2 : prog "_law_draw" = some ⟨2, 5, drawBody⟩) {xs : List D} (hd : DrawAt st) (h0 : 0 < xs.length) (h1 : xs.length < 1073741824)
    (q : ∀ x st', x ∈ xs → Fra st st' → st'.length = st.length → Q x st') : callN prog (k + 2) "_law_pick" [.ref 2, .tup xs] st Q := by
  refine call_intro hp rfl ?_
  unfold pickBody
  walk_at "r"
  refine draw_ok hp2 hd (by omega) (by omega) fun r st' r0 r1 f fl => ?_
  obtain ⟨x, hx, _, e⟩ := atD_of (xs := xs) r0 r1
  exact ⟨x, e, q x st' hx f fl⟩
def rareBody (c : Cl) : TS := sRet (dCmp eqC (dCall c "_law_draw" (aCons (dVar 0) (aCons (dVar 1) (aNil)))) (dOp fdivK (dVar 1) (dC (.int 2))))
theorem rareK_ok (hp : prog "_law_rare" = some ⟨2, 2, rareBody⟩) (hp2 : prog "_law_draw" = some ⟨2, 5, drawBody⟩) {many : Int} (h : DrawAt st) (h0 : 0 < many) (h1 : many < 1073741824) (q : ∀ b st', Fra st st' → st'.length = st.length → Q (.bl b) st') : callN prog (k + 2) "_law_rare" [.ref 2, .int many] st Q := by
  refine call_intro hp rfl ?_
  unfold rareBody
  walk_at "r"
  refine draw_ok hp2 h h0 h1 fun r st' r0 r1 f fl => ?_
  walk_at "r"
  refine ⟨⟨by decide, by decide⟩, ?_⟩
  walk_at "r"
  exact q _ _ f fl
def isIntBody (c : Cl) : TS := sRet (dAndT (dIsi .int (dVar 0)) (dNotT (dIsi .bool (dVar 0))))
theorem isInt_ok (hp : prog "_law_is_int" = some ⟨1, 1, isIntBody⟩) {i : Int} (q : Q (.bl true) st) : callN prog (k + 1) "_law_is_int" [.int i] st Q := by
  refine call_intro hp rfl ?_
  unfold isIntBody
  walk_at "r"
  refine wayT rfl ?_
  walk_at "r"
  exact q
def fullI (w : Int) : Int := 2 ^ w.toNat - 1
theorem fullI_bd {w : Int} (h0 : 0 ≤ w) (h1 : w ≤ 8) : 0 ≤ fullI w ∧ fullI w ≤ 255 := by
  have := pw_bd h0 h1
  unfold fullI
  omega
theorem cmul_small {a b : Int} (h0 : 0 ≤ b) (h1 : b ≤ 1000000) : cMul a b := .inr ⟨by omega, by omega⟩
theorem cpow_small {w : Int} (h0 : 0 ≤ w) (h1 : w ≤ 1000) : cPow 1 w := ⟨h0, by omega, by decide⟩
def greatestBody (c : Cl) : TS := sRet (dOp subK (dOp shlK (dC (.int 1)) (dVar 0)) (dC (.int 1)))
theorem greatest_ok (hp : prog "greatest" = some ⟨1, 1, greatestBody⟩) {w : Int} (h0 : 0 ≤ w) (h1 : w ≤ 8) (q : Q (.int (fullI w)) st) : callN prog (k + 1) "greatest" [.int w] st Q := by
  refine call_intro hp rfl ?_
  unfold greatestBody
  walk_at "r"
  refine ⟨cpow_small h0 (by omega), ?_⟩
  walk_at "r"
  rw [Int.one_mul]
  exact q
/-- the first place of n at which P holds -/
def Fnd (P : Nat → Prop) (n : Nat) : Option Nat → Prop
  | some t => t < n ∧ P t ∧ ∀ u, u < t → ¬ P u
  | none => ∀ u, u < n → ¬ P u
theorem Fnd.uniq {P : Nat → Prop} {n : Nat} : ∀ {r r' : Option Nat}, Fnd P n r → Fnd P n r' → r = r'
  | none, none, _, _ => rfl
  | some t, none, h, h' => absurd h.2.1 (h' t h.1)
  | none, some t, h, h' => absurd h'.2.1 (h t h'.1)
  | some t, some t', h, h' => by
    rcases Nat.lt_trichotomy t t' with e | e | e
    · exact absurd h.2.1 (h'.2.2 t e)
    · rw [e]
    · exact absurd h'.2.1 (h.2.2 t' e)
def optD : Option Nat → D
  | some t => .int t
  | none => .non
/-- cells are as they were, but the drawer and p -/
structure FraE (p : Nat) (st st' : Store) : Prop where
  dr : DrawAt st'
  le : st.length ≤ st'.length
  at' : ∀ n, n < st.length → n ≠ 2 → n ≠ p → st'[n]? = st[n]?
theorem FraE.rd {p : Nat} {st st' : Store} (f : FraE p st st') {n : Nat} {xs : List D} (h : rdL st n xs) (ne : n ≠ 2) (ne' : n ≠ p) : rdL st' n xs := by
  unfold rdL at *
  rw [f.at' n (rdL_lt h) ne ne']; exact h
theorem FraE.of {p : Nat} {st st' : Store} (f : Fra st st') : FraE p st st' := ⟨f.dr, f.le, fun n h1 h2 _ => f.at' n h1 h2⟩
theorem FraE.trans {p : Nat} {a b c : Store} (h : FraE p a b) (h' : FraE p b c) : FraE p a c := ⟨h'.dr, Nat.le_trans h.le h'.le, fun n hn ne ne' => (h'.at' n (Nat.lt_of_lt_of_le hn h.le) ne ne').trans (h.at' n hn ne ne')⟩
theorem FraE.setP {p : Nat} {st st' : Store} {c : C} (f : FraE p st st') (h2 : 2 < p) : FraE p st (st'.set p c) := ⟨f.dr.set h2, by simp; exact f.le, fun m hm ne ne' => by
  rw [List.getElem?_set_ne (Ne.symm ne')]; exact f.at' m hm ne ne'⟩
theorem FraE.fra {p : Nat} {st st' : Store} (f : FraE p st st') (h : st.length ≤ p) : Fra st st' := ⟨f.dr, f.le, fun n hn ne => f.at' n hn ne (by omega)⟩
theorem FraE.setN {p : Nat} {st st' : Store} {n : Nat} {c : C} (f : FraE p st st') (hn : st.length ≤ n) (h2 : 2 < n) : FraE p st (st'.set n c) := ⟨f.dr.set h2, by simp; exact f.le, fun m hm ne ne' => by
  rw [List.getElem?_set_ne (by omega)]; exact f.at' m hm ne ne'⟩
/-- cells of before are as they were; the new ones, g among them, as they come -/
structure FraG (g : Nat) (st st' : Store) : Prop where
  big : st.length ≤ g
  at' : ∀ n, n < st.length → st'[n]? = st[n]?
  le : st.length ≤ st'.length
theorem FraG.new {st : Store} {c : C} : FraG st.length st (st ++ [c]) := ⟨Nat.le_refl _, fun n h => List.getElem?_append_left h, by simp⟩
theorem FraG.refl {st : Store} {g : Nat} (h : st.length ≤ g) : FraG g st st := ⟨h, fun _ _ => rfl, Nat.le_refl _⟩
theorem FraG.rd {g : Nat} {st st' : Store} (f : FraG g st st') {n : Nat} {xs : List D} (h : rdL st n xs) (hn : n < st.length) : rdL st' n xs := by
  unfold rdL at *
  rw [f.at' n hn]; exact h
theorem FraG.app {g : Nat} {st st' : Store} {c : C} (f : FraG g st st') : FraG g st (st' ++ [c]) := ⟨f.big, fun n h => by rw [List.getElem?_append_left (Nat.lt_of_lt_of_le h f.le)]; exact f.at' n h, by simp; have := f.le; omega⟩
theorem FraG.setG {g : Nat} {st st' : Store} {c : C} (f : FraG g st st') : FraG g st (st'.set g c) := ⟨f.big, fun n h => by
  have := f.big
  rw [List.getElem?_set_ne (by omega)]; exact f.at' n h, by simp; exact f.le⟩
theorem FraG.setN {g n : Nat} {st st' : Store} {c : C} (f : FraG g st st') (hn : st.length ≤ n) : FraG g st (st'.set n c) := ⟨f.big, fun m h => by
  rw [List.getElem?_set_ne (by omega)]; exact f.at' m h, by simp; exact f.le⟩
theorem FraG.grw {g : Nat} {st st' : Store} (f : FraG g st st') : Grw st st' := by
  refine ⟨st'.drop st.length, ?_⟩
  apply List.ext_getElem?
  intro n
  by_cases h : n < st.length
  · rw [f.at' n h, List.getElem?_append_left h]
  · rw [List.getElem?_append_right (by omega), List.getElem?_drop, show st.length + (n - st.length) = n by omega]
theorem FraG.more {g : Nat} {st st' st2 : Store} (f : FraG g st st') (h : Grw st' st2) : FraG g st st2 := by
  obtain ⟨m, rfl⟩ := h
  exact ⟨f.big, fun n h => by rw [List.getElem?_append_left (Nat.lt_of_lt_of_le h f.le)]; exact f.at' n h, by simp; have := f.le; omega⟩
/-- the element adds cells alone: the new list is the map -/
theorem lc_mapG {α : Type} {gd : Store → Prop} {g : TG} {te : TE} {ρ : Env} (xs : List α) (f h : α → D) {items : List D} (hi : items = xs.map f) (hl : xs.length ≤ szl) (hg : ∀ st', FraG st.length st st' → gd st')
    (hs : ∀ x, x ∈ xs → ∀ (st1 : Store) (N : D → Store → Prop), FraG st.length st st1 → (∀ st2, Grw st1 st2 → N (h x) st2) → g (f x) ρ st1 fun ρ2 st2 => te ρ2 st2 N)
    (hd : ∀ st', FraG st.length st st' → rdL st' st.length (xs.map h) → Q (.ref st.length) st') : lcLoop gd g tYes te ρ st.length Q items [] (st ++ [.lst []]) := by
  subst hi
  refine lc_by (fun pre acc st' => acc = (xs.take pre.length).map h ∧ FraG st.length st st' ∧ rdL st' st.length acc) ⟨rfl, FraG.new, rdL_new⟩ (fun pre x post acc st' e ⟨h1, h5, h6⟩ N M hN hM => ?_) (fun acc st' ⟨h1, h5, h6⟩ => ?_)
  · refine ⟨hg _ h5, ?_⟩
    have e1 : (fun (ρ2 : Env) (st2 : Store) => tYes ρ2 st2 fun b st3 => (b = true → te ρ2 st3 N) ∧ (b = false → M st3)) = fun ρ2 st2 => te ρ2 st2 N := by
      funext ρ2 st2
      exact propext ⟨fun q => q.1 rfl, fun q => ⟨fun _ => q, fun e => nomatch e⟩⟩
    rw [e1]
    have hlen := congrArg List.length e
    simp at hlen
    have hx : (xs.map f)[pre.length]? = some x := by rw [e]; simp
    rw [List.getElem?_map] at hx
    cases hy : xs[pre.length]? with
    | none => rw [hy] at hx; cases hx
    | some y =>
      rw [hy] at hx
      cases hx
      refine hs y (List.mem_of_getElem? hy) st' _ h5 fun st2 gr => ?_
      have h7 := gr.rd h6
      refine hN _ _ h7 (by rw [h1]; simp; omega) ⟨?_, (h5.more gr).setG, rdL_set h7⟩
      rw [List.length_append]
      show _ = (xs.take (pre.length + 1)).map h
      rw [List.take_add_one, hy, List.map_append, h1]; rfl
  · rw [List.length_map, List.take_length] at h1
    subst h1
    exact ⟨hg _ h5, h6, hd st' h5 h6⟩
def popBody (c : Cl) : TS := sRet (dM tyLst popM (dVar 1) (aCons (dCall c "_law_draw" (aCons (dVar 0) (aCons (dB lenB (aCons (dVar 1) (aNil))) (aNil)))) (aNil)))
theorem pop_ok (hp : prog "_law_pop" = some ⟨2, 2, popBody⟩) (hp2 : prog "_law_draw" = some ⟨2, 5, drawBody⟩) {n : Nat} {xs : List D} (hd : DrawAt st) (h : rdL st n xs) (hn : 2 < n) (h0 : 0 < xs.length) (h1 : xs.length < 1073741824)
    (q : ∀ (i : Nat) x st', xs[i]? = some x → FraE n st st' → rdL st' n (xs.eraseIdx i) → st'.length = st.length → Q x st') : callN prog (k + 2) "_law_pop" [.ref 2, .ref n] st Q := by
  refine call_intro hp rfl ?_
  unfold popBody
  walk_at "r"
  refine ⟨ty_at h, ?_⟩
  walk_at "r"
  refine len_at h ?_
  walk_at "r"
  refine draw_ok hp2 hd (by omega) (by omega) fun r st' r0 r1 f fl => ?_
  walk_at "r"
  obtain ⟨x, hx, e', e⟩ := atD_of (xs := xs) r0 r1
  have h' := f.rd h (by omega)
  exact ⟨xs, x, h', ⟨r0, by omega⟩, e, q r.toNat x _ e' ((FraE.of f).setP hn) (rdL_set h') (by simp [fl])⟩

def shuffledBody (c : Cl) : TS := sSeq (sAsg (dB listB (aCons (dVar 1) (aNil))) (gName 2)) (sSeq (sAsg (dLst (aNil)) (gName 3)) (sSeq (sFor (iR1 (dB lenB (aCons (dVar 2) (aNil)))) (gName 4) (sExpr (dM tyLst appendM (dVar 3) (aCons (dM tyLst popM (dVar 2) (aCons (dCall c "_law_draw" (aCons (dVar 0) (aCons (dB lenB (aCons (dVar 2) (aNil))) (aNil)))) (aNil))) (aNil))))) (sRet (dVar 3))))
theorem perm_erase {α : Type} {x : α} : ∀ {l : List α} {i : Nat}, l[i]? = some x → (x :: l.eraseIdx i).Perm l
  | [], _, h => by simp at h
  | a :: l, 0, h => by simp at h; subst h; exact List.Perm.refl _
  | a :: l, i + 1, h => (List.Perm.swap a x _).trans ((perm_erase (l := l) (i := i) (by simpa using h)).cons a)
theorem shuffled_ok (hp : prog "_law_shuffled" = some ⟨2, 5, shuffledBody⟩) (hp2 : prog "_law_draw" = some ⟨2, 5, drawBody⟩) {n : Nat} {xs : List D} (hd : DrawAt st) (h : rdL st n xs) (hn : 2 < n) (h1 : xs.length < 1000000)
    (q : ∀ fn ys st', ys.Perm xs → st.length ≤ fn → rdL st' fn ys → Fra st st' → Q (.ref fn) st') : callN prog (k + 2) "_law_shuffled" [.ref 2, .ref n] st Q := by
  refine call_intro hp rfl ?_
  unfold shuffledBody
  have d2 := hd.lt
  walk_at "r"
  refine list_at h ?_
  walk_at "r"
  refine ⟨by show 0 ≤ szl; decide, ?_⟩
  walk_at "r"
  refine len_at (rdL_app rdL_new) ?_
  walk_at "r"
  refine ⟨by omega, by omega, ?_⟩
  have l1 : st.length < (st ++ [C.lst xs]).length := by simp
  have f0 := ((Fra.refl hd).app (c := C.lst xs)).app (c := C.lst [])
  have hf0 := rdL_new (st := st ++ [C.lst xs]) (xs := [])
  have hl0 : rdL (st ++ [C.lst xs] ++ [C.lst []]) st.length xs := rdL_app rdL_new
  generalize (st ++ [C.lst xs]).length = fn at l1 hf0 ⊢
  generalize (st ++ [C.lst xs] ++ [C.lst []]) = st1 at f0 hf0 hl0 ⊢
  refine for_rng (fun j σ st' => ∃ y4 ls fs, σ = [some (.ref 2), some (.ref n), some (.ref st.length), some (.ref fn), y4] ∧ rdL st' st.length ls ∧ rdL st' fn fs ∧ (fs ++ ls).Perm xs ∧ fs.length = j ∧ Fra st st') ⟨none, xs, [], rfl, hl0, hf0, List.Perm.refl _, rfl, f0⟩ (fun j σ st' hj ⟨y4, ls, fs, e, hls, hfs, pm, hfl, f⟩ N hN => ?_) (fun σ st' ⟨y4, ls, fs, e, hls, hfs, pm, hfl, f⟩ => ?_)
  · subst e
    have hpl := pm.length_eq
    rw [List.length_append] at hpl
    refine ⟨trivial, ?_⟩
    walk_at "r"
    refine ⟨ty_at hfs, ?_⟩
    walk_at "r"
    refine ⟨ty_at hls, ?_⟩
    walk_at "r"
    refine len_at hls ?_
    walk_at "r"
    refine draw_ok hp2 f.dr (by omega) (by omega) fun r st2 r0 r1 f2 l2 => ?_
    walk_at "r"
    obtain ⟨x, hx, e', e⟩ := atD_of (xs := ls) r0 r1
    have hls2 := f2.rd hls (by omega)
    have hfs2 := f2.rd hfs (by omega)
    refine ⟨ls, x, hls2, ⟨r0, by omega⟩, e, ?_⟩
    walk_at "r"
    have hfs3 : rdL (st2.set st.length (.lst (ls.eraseIdx r.toNat))) fn fs := rdL_ne hfs2 (by omega)
    refine append_at hfs3 (by unfold szl; omega) ?_
    refine hN _ _ ⟨_, ls.eraseIdx r.toNat, fs ++ [x], rfl, rdL_ne (rdL_set hls2) (by omega), rdL_set hfs3, ?_, by simp [hfl], ((f.trans f2).set (Nat.le_refl _) d2).set (by omega) (by omega)⟩
    rw [List.append_assoc]
    exact ((perm_erase e').append_left fs).trans pm
  · subst e
    refine ⟨trivial, ?_⟩
    walk_at "r"
    have hpl := pm.length_eq
    rw [List.length_append] at hpl
    have hl : ls = [] := List.eq_nil_of_length_eq_zero (by omega)
    subst hl
    rw [List.append_nil] at pm
    exact q fn fs st' pm (by omega) hfs f
theorem and_maskZ (x : Int) (n : Nat) : Builtin.bitAnd x (2 ^ n - 1) = x % 2 ^ n := by
  by_cases hx : 0 ≤ x
  · exact and_mask hx
  · have hm : (0 : Int) ≤ 2 ^ n - 1 := by have := pow2_pos n; omega
    unfold Builtin.bitAnd
    simp only [hx, hm, decide_true, decide_false]
    unfold Builtin.bitNot
    have e1 : (2 ^ n - 1 : Int).toNat = 2 ^ n - 1 := by
      have : (2 ^ n : Int) = ((2 ^ n : Nat) : Int) := by simp
      rw [this]
      have := Nat.two_pow_pos n
      omega
    obtain ⟨m, hm2⟩ : ∃ m : Nat, (-x - 1).toNat = m := ⟨_, rfl⟩
    have hx2 : x = -(m : Int) - 1 := by omega
    rw [hm2, e1, Nat.and_comm, Nat.and_two_pow_sub_one_eq_mod, hx2]
    have hp := pow2_pos n
    have c : ((2 : Int) ^ n) = ((2 ^ n : Nat) : Int) := by simp
    have h1 := Nat.div_add_mod m (2 ^ n)
    have h2 := Nat.mod_lt m (Nat.two_pow_pos n)
    have h3 : -(m : Int) - 1 = ((2 : Int) ^ n - 1 - ((m % 2 ^ n : Nat) : Int)) + 2 ^ n * (-((m / 2 ^ n : Nat) : Int) - 1) := by
      have h4 : (m : Int) = 2 ^ n * ((m / 2 ^ n : Nat) : Int) + ((m % 2 ^ n : Nat) : Int) := by
        rw [c, ← Int.natCast_mul, ← Int.natCast_add, h1]
      rw [Int.mul_sub, Int.mul_neg, Int.mul_one]
      omega
    rw [h3, Int.add_mul_emod_self_left, Int.emod_eq_of_lt (by omega) (by omega)]

/-- a for over known items, by the place -/
theorem for_map {α : Type} {gd : Store → Prop} {g : TG} {tb : TS} {D0 : Ends} {σ : Env} (xs : List α) (f : α → D) {items : List D} (hi : items = xs.map f) (Pv : Nat → Env → Store → Prop) (h0 : Pv 0 σ st)
    (hs : ∀ j x σ st, xs[j]? = some x → Pv j σ st → ∀ N : Env → Store → Prop, (∀ σ st, Pv (j + 1) σ st → N σ st) → gd st ∧ g (f x) σ st fun σ2 st2 => tb { D0 with nx := N, ct := N, bk := D0.nx } σ2 st2)
    (hd : ∀ σ st, Pv xs.length σ st → gd st ∧ D0.nx σ st) : forLoop gd g tb D0 items σ st := by
  subst hi
  refine for_by (fun pre σ st => Pv pre.length σ st) h0 (fun pre x post σ st e h N hN => ?_) (fun σ st h => hd σ st (by simpa using h))
  have hx : (xs.map f)[pre.length]? = some x := by rw [e]; simp
  rw [List.getElem?_map] at hx
  cases hy : xs[pre.length]? with
  | none => rw [hy] at hx; cases hx
  | some y =>
    rw [hy] at hx
    cases hx
    exact hs pre.length y σ st hy h N fun σ st h' => hN σ st (by simpa using h')
theorem lc_two {α β : Type} {gd : Store → Prop} {g : TG} {te : TE} {ρ : Env} (xs : List α) (f : α → D) (f' : β → D) (P : α → β → Prop) {items : List D} (hi : items = xs.map f) (hd : DrawAt st) (hl : xs.length ≤ szl) (hg : ∀ st', Fra st st' → gd st')
    (hs : ∀ x ∈ xs, ∀ st', Fra st st' → ∀ N : D → Store → Prop, (∀ y st2, P x y → Fra st' st2 → N (f' y) st2) → g (f x) ρ st' fun ρ2 st2 => te ρ2 st2 N)
    (hQ : ∀ (ys : List β) st', Two P xs ys → Fra st st' → rdL st' st.length (ys.map f') → Q (.ref st.length) st') : lcLoop gd g tYes te ρ st.length Q items [] (st ++ [.lst []]) := by
  subst hi
  have key : ∀ {as : List α} {zs : List D}, Two (fun a z => ∃ b, z = f' b ∧ P a b) as zs → ∃ bs : List β, zs = bs.map f' ∧ Two P as bs := by
    intro as zs h
    induction h with
    | nil => exact ⟨[], rfl, .nil⟩
    | cons p _ ih =>
      obtain ⟨b, h1, h2⟩ := p
      obtain ⟨bs, h3, h4⟩ := ih
      exact ⟨b :: bs, by rw [h1, h3]; rfl, .cons h2 h4⟩
  have h2 := hd.lt
  refine lc_by (fun pre acc st' => Two (fun a z => ∃ b, z = f' b ∧ P a b) (xs.take pre.length) acc ∧ Fra st st' ∧ rdL st' st.length acc) ⟨.nil, (Fra.refl hd).app, rdL_new⟩ (fun pre x post acc st' e ⟨h1, h5, h6⟩ N M hN hM => ?_) (fun acc st' ⟨h1, h5, h6⟩ => ?_)
  · refine ⟨hg _ h5, ?_⟩
    have e1 : (fun (ρ2 : Env) (st2 : Store) => tYes ρ2 st2 fun b st3 => (b = true → te ρ2 st3 N) ∧ (b = false → M st3)) = fun ρ2 st2 => te ρ2 st2 N := by
      funext ρ2 st2
      exact propext ⟨fun q => q.1 rfl, fun q => ⟨fun _ => q, fun e => nomatch e⟩⟩
    rw [e1]
    have hlen := congrArg List.length e
    simp at hlen
    have hx : (xs.map f)[pre.length]? = some x := by rw [e]; simp
    rw [List.getElem?_map] at hx
    cases hy : xs[pre.length]? with
    | none => rw [hy] at hx; cases hx
    | some y =>
      rw [hy] at hx
      cases hx
      refine hs y (List.mem_of_getElem? hy) st' h5 N fun z st2 hr fr => ?_
      have h7 := fr.rd h6 (by omega)
      have hal := h1.length
      rw [List.length_take] at hal
      refine hN _ _ h7 (by omega) ⟨?_, (h5.trans fr).set (Nat.le_refl _) (by omega), rdL_set h7⟩
      rw [List.length_append]
      show Two _ (xs.take (pre.length + 1)) _
      rw [List.take_add_one, hy]
      exact h1.snoc ⟨z, rfl, hr⟩
  · rw [List.length_map, List.take_length] at h1
    obtain ⟨bs, rfl, h8⟩ := key h1
    exact ⟨hg _ h5, h6, hQ bs st' h8 h5 h6⟩
end
end Pd
end PartPdKit

section PartPdText
set_option Elab.async false
set_option linter.all false
set_option maxRecDepth 100000
set_option maxHeartbeats 1000000
/-! Pd: texts, plain: their signs, sums, cuts; drawn signs and words. Own work. -/
namespace Pd
open PySem
local macro_rules | `(tactic| walk_at "s") => `(tactic| (repeat (refine Red.red ?_)))
local macro_rules | `(tactic| walk_at "r") => `(tactic| (repeat (first | refine Red.red ?_ | refine Nxt.mk ?_)))
section
variable {prog : String → Option Def} {k m n : Nat} {st st' : Store} {Q : K}
theorem txt_iff (s : Str) : okS s = true ↔ ∀ c ∈ s.cps.toList, c < 1114112 := by
  unfold okS
  rw [List.all_eq_true]
  simp only [decide_eq_true_eq]
theorem txt_cps (a b : Str) : (a ++ b).cps.toList = a.cps.toList ++ b.cps.toList := by
  show (Str.append a b).cps.toList = _
  simp [Str.append]
theorem txt_len (s : Str) : s.length = s.cps.toList.length := by simp [Str.length]
theorem txt_app {a b : Str} (h : okS a = true) (h' : okS b = true) : okS (a ++ b) = true := by
  rw [txt_iff] at *
  rw [txt_cps]
  intro c hc
  rcases List.mem_append.mp hc with hc | hc
  · exact h c hc
  · exact h' c hc
theorem txt_alen (a b : Str) : (a ++ b).length = a.length + b.length := by
  rw [txt_len, txt_len, txt_len, txt_cps, List.length_append]
theorem txt_sub {s : Str} {l : List Nat} (h : okS s = true) (hs : ∀ c ∈ l, c ∈ s.cps.toList) : okS (⟨l.toArray⟩ : Str) = true := by
  rw [txt_iff] at *
  intro c hc
  exact h c (hs c (by simpa using hc))
theorem cutD_mem {α : Type} {l : List α} {lo hi : Option Int} {x : α} (h : x ∈ cutD l lo hi) : x ∈ l := by
  unfold cutD at h
  exact List.mem_of_mem_drop (List.mem_of_mem_take h)
theorem cutD_len {α : Type} (l : List α) (lo hi : Option Int) : (cutD l lo hi).length ≤ l.length := by
  unfold cutD
  rw [List.length_take, List.length_drop]
  omega
theorem txt_cut {s : Str} (h : okS s = true) (lo hi : Option Int) : okS (⟨(cutD s.cps.toList lo hi).toArray⟩ : Str) = true := txt_sub h fun c hc => cutD_mem hc
theorem txt_clen (s : Str) (lo hi : Option Int) : (⟨(cutD s.cps.toList lo hi).toArray⟩ : Str).length ≤ s.length := by
  rw [txt_len, txt_len]
  exact cutD_len _ _ _
/-- fine, and at most n long -/
def Tx (n : Nat) (s : Str) : Prop := okS s = true ∧ s.length ≤ n
theorem Tx.app {a b : Str} {i j : Nat} (h : Tx i a) (h' : Tx j b) : Tx (i + j) (a ++ b) := ⟨txt_app h.1 h'.1, by rw [txt_alen]; have := h.2; have := h'.2; omega⟩
theorem Tx.cut {a : Str} {i : Nat} (h : Tx i a) (lo hi : Option Int) : Tx i ⟨(cutD a.cps.toList lo hi).toArray⟩ := ⟨txt_cut h.1 lo hi, Nat.le_trans (txt_clen a lo hi) h.2⟩
theorem Tx.more {a : Str} {i j : Nat} (h : Tx i a) (hj : i ≤ j) : Tx j a := ⟨h.1, Nat.le_trans h.2 hj⟩
theorem Tx.cutTo {a : Str} {i j : Nat} (h : Tx i a) : Tx j ⟨(cutD a.cps.toList none (some (j : Int))).toArray⟩ := ⟨txt_cut h.1 _ _, by
  rw [txt_len]
  show (cutD a.cps.toList none (some (j : Int))).length ≤ j
  rw [cut_take _ (by omega), List.length_take]
  omega⟩
/-- a word of a list of texts -/
theorem pickX {xs : List Str} {b : Nat} (hp : prog "_law_pick" = some ⟨2, 2, pickBody⟩) (hp2 : prog "_law_draw" = some ⟨2, 5, drawBody⟩) (hm : 2 ≤ m) (hd : DrawAt st) (h : rdL st n (xs.map D.str)) (hn : n ≠ 2) (h0 : 0 < xs.length) (h1 : xs.length ≤ 100000) (ht : ∀ s ∈ xs, Tx b s)
    (q : ∀ s st', s ∈ xs → Tx b s → Fra st st' → Q (.str s) st') : callN prog m "_law_pick" [.ref 2, .ref n] st Q := by
  obtain ⟨m, rfl⟩ : ∃ n, m = n + 2 := ⟨m - 2, by omega⟩
  refine pick_ok hp hp2 hd h hn (by simpa using h0) (by simp; omega) fun x st' hx f _ => ?_
  obtain ⟨s, hs, rfl⟩ := List.mem_map.mp hx
  exact q s st' hs (ht s hs) f
/-- .. of a new list -/
theorem pickXN {xs : List Str} {b : Nat} (hp : prog "_law_pick" = some ⟨2, 2, pickBody⟩) (hp2 : prog "_law_draw" = some ⟨2, 5, drawBody⟩) (hm : 2 ≤ m) (hd : DrawAt st) (h0 : 0 < xs.length) (h1 : xs.length ≤ 100000) (ht : ∀ s ∈ xs, Tx b s)
    (q : ∀ s st', s ∈ xs → Tx b s → Fra st st' → Q (.str s) st') : callN prog m "_law_pick" [.ref 2, .ref st.length] (st ++ [.lst (xs.map D.str)]) Q := by
  have l := hd.lt
  have f := (Fra.refl hd).app (c := C.lst (xs.map D.str))
  exact pickX hp hp2 hm f.dr rdL_new (by omega) h0 h1 ht fun s st' hs t f' => q s st' hs t (f.trans f')
/-- a sign of a text -/
theorem pickSg {z : Str} (hp : prog "_law_pick" = some ⟨2, 2, pickBody⟩) (hp2 : prog "_law_draw" = some ⟨2, 5, drawBody⟩) (hm : 2 ≤ m) (hd : DrawAt st) (hz : okS z = true) (h0 : 0 < z.length) (h1 : z.length ≤ 100000)
    (q : ∀ c st', c ∈ z.cps.toList → Tx 1 ⟨#[c]⟩ → Fra st st' → Q (.str ⟨#[c]⟩) st') : callN prog m "_law_pick" [.ref 2, .str z] st Q := by
  obtain ⟨m, rfl⟩ : ∃ n, m = n + 2 := ⟨m - 2, by omega⟩
  refine call_intro hp rfl ?_
  unfold pickBody
  walk_at "r"
  have hl := txt_len z
  refine ⟨by unfold szl; omega, ?_⟩
  walk_at "r"
  refine draw_ok hp2 hd (by omega) (by omega) fun r st' r0 r1 f fl => ?_
  obtain ⟨c, hc, _, e⟩ := atD_of (xs := z.cps.toList) r0 (by omega)
  refine ⟨c, by unfold szl; omega, e, q c st' hc ⟨?_, Nat.le_refl _⟩ f⟩
  rw [txt_iff] at hz ⊢
  intro d hd
  simp at hd
  subst hd
  exact hz d hc
/-- texts set together -/
theorem join_tx : ∀ (ys : List Str) {b : Nat}, (∀ s ∈ ys, Tx b s) → Tx (ys.length * b) (PySem.Txt.join ("" : Str) ys) := by
  have key : ∀ ys : List Str, (PySem.Txt.join ("" : Str) ys).cps.toList = ys.flatMap fun s => s.cps.toList := by
    intro ys
    rw [TL.join_eq]
    have h0 : ("" : Str).cps.toList = [] := by decide +kernel
    have go : ∀ ys : List Str, (Str.join ("" : Str) ys).cps.toList = ys.flatMap fun s => s.cps.toList := by
      intro ys
      induction ys with
      | nil => rfl
      | cons s ys ih =>
        cases ys with
        | nil => simp [Str.join]
        | cons t ys =>
          show (s ++ ("" : Str) ++ Str.join ("" : Str) (t :: ys)).cps.toList = _
          rw [txt_cps, txt_cps, ih, h0, List.append_nil]; rfl
    exact go ys
  intro ys b h
  refine ⟨?_, ?_⟩
  · rw [txt_iff, key]
    intro c hc
    obtain ⟨s, hs, hc⟩ := List.mem_flatMap.mp hc
    exact (txt_iff s).mp (h s hs).1 c hc
  · rw [txt_len, key]
    clear key
    induction ys with
    | nil => simp
    | cons s ys ih =>
      rw [List.flatMap_cons, List.length_append, List.length_cons, Nat.add_mul, Nat.one_mul, Nat.add_comm]
      have h1 := (h s List.mem_cons_self).2
      rw [txt_len] at h1
      have h2 := ih fun t ht => h t (List.mem_cons_of_mem _ ht)
      omega
end
end Pd
end PartPdText

section PartPdWhile
set_option Elab.async false
set_option linter.all false
set_option maxRecDepth 100000
/-! Pd: a while by an invariant and a measure. Own work. -/
namespace Pd
theorem whileN_by {c : TT} {tb : TS} {D0 : Ends} (Pv : Nat → Env → Store → Prop)
    (hs : ∀ m σ st, Pv m σ st → ∀ N : Env → Store → Prop, (∀ m' σ' st', m' < m → Pv m' σ' st' → N σ' st') → c σ st fun b st1 => (b = true → tb { D0 with nx := N, ct := N, bk := D0.nx } σ st1) ∧ (b = false → D0.nx σ st1)) :
    ∀ (n m : Nat) (σ : Env) (st : Store), m < n → Pv m σ st → whileN c tb D0 n σ st
  | 0, m, _, _, h, _ => absurd h (by omega)
  | n + 1, m, σ, st, h, p => hs m σ st p _ fun m' σ' st' hlt hp => whileN_by Pv hs n m' σ' st' (by omega) hp
theorem while_by {c : TT} {tb : TS} {D0 : Ends} {σ : Env} {st : Store} (Pv : Nat → Env → Store → Prop) {m : Nat} (h0 : Pv m σ st)
    (hs : ∀ m σ st, Pv m σ st → ∀ N : Env → Store → Prop, (∀ m' σ' st', m' < m → Pv m' σ' st' → N σ' st') → c σ st fun b st1 => (b = true → tb { D0 with nx := N, ct := N, bk := D0.nx } σ st1) ∧ (b = false → D0.nx σ st1)) : sWhile c tb D0 σ st :=
  ⟨m + 1, whileN_by Pv hs (m + 1) m σ st (by omega) h0⟩
end Pd
end PartPdWhile

section PartPdk06B
set_option linter.all false
set_option maxRecDepth 100000
namespace Pk06
open PySem Pd
def k_LEVELS : List (Str × D) := [("|", .int 1), ("^", .int 2), ("&", .int 3), ("==", .int 4), ("!=", .int 4), ("<", .int 4), ("<=", .int 4), ("<<", .int 5), (">>", .int 5), ("+", .int 6), ("-", .int 6), ("*", .int 7)]
def b_p_write_program (c : Cl) : TS := sSeq (sAsg (dLst (aNil)) (gName 1)) (sSeq (sFor (iSeq (dVar 0)) (gName 2) (sExpr (dM tyLst extendAM (dVar 1) (aCons (dCall c "declaration_tokens" (aCons (dVar 2) (aNil))) (aNil))))) (sRet (dCall c "joined_lines" (aCons (dVar 1) (aNil)))))
def b_p_text_of (c : Cl) : TS := sRet (dCall c "joined_lines" (aCons (dCall c "declaration_tokens" (aCons (dVar 0) (aNil))) (aNil)))
def b_p_joined_lines (c : Cl) : TS := sRet (dM tyStr joinM (dC (.str "")) (aCons (dLc (iSeq (dVar 0)) (gName 1) (tYes) (dOp addK (dVar 1) (dIf (tTru (dCmp inC (dVar 1) (dTup (aCons (dC (.str "{")) (aCons (dC (.str "}")) (aCons (dC (.str ";")) (aNil))))))) (dC (.str "\n")) (dC (.str " ")))) [1]) (aNil)))
def b_p_declaration_tokens (c : Cl) : TS := sSeq (sIf (tTru (dCmp eqC (dOp ixK (dVar 0) (dC (.int 0))) (dC (.str "record")))) (sSeq (sAsg (dLst (aCons (dC (.str "record")) (aCons (dOp ixK (dVar 0) (dC (.int 1))) (aCons (dC (.str "{")) (aNil))))) (gName 1)) (sSeq (sFor (iSeq (dOp ixK (dVar 0) (dC (.int 2)))) (gTup (gsCons (gName 2) (gsCons (gName 3) (gsNil))) 2) (sExpr (dM tyLst extendAM (dVar 1) (aCons (dLst (aCons (dVar 2) (aCons (dC (.str ":")) (aCons (dB strXB (aCons (dVar 3) (aNil))) (aCons (dC (.str ";")) (aNil)))))) (aNil))))) (sRet (dOp addK (dVar 1) (dLst (aCons (dC (.str "}")) (aNil))))))) (sNext)) (sSeq (sIf (tTru (dCmp eqC (dOp ixK (dVar 0) (dC (.int 0))) (dC (.str "external")))) (sSeq (sAsg (dOp addK (dOp addK (dLst (aCons (dC (.str "external")) (aCons (dOp ixK (dVar 0) (dC (.int 1))) (aNil)))) (dCall c "parameter_tokens" (aCons (dOp ixK (dVar 0) (dC (.int 2))) (aNil)))) (dLst (aCons (dC (.str ":")) (aCons (dB strXB (aCons (dOp ixK (dVar 0) (dC (.int 3))) (aNil))) (aNil))))) (gName 1)) (sSeq (sIf (tTru (dCmp eqC (dOp ixK (dVar 0) (dC (.int 4))) (dC (.int 1)))) (sExpr (dM tyLst appendM (dVar 1) (aCons (dC (.str "steady")) (aNil)))) (sNext)) (sRet (dOp addK (dOp addK (dOp addK (dOp addK (dOp addK (dVar 1) (dLst (aCons (dC (.str "needs")) (aNil)))) (dCall c "expr_tokens" (aCons (dOp ixK (dVar 0) (dC (.int 5))) (aNil)))) (dLst (aCons (dC (.str "gives")) (aNil)))) (dCall c "expr_tokens" (aCons (dOp ixK (dVar 0) (dC (.int 6))) (aNil)))) (dLst (aCons (dC (.str ";")) (aNil))))))) (sNext)) (sSeq (sAsg (dIf (tTru (dCmp eqC (dOp ixK (dVar 0) (dC (.int 4))) (dC (.int 1)))) (dLst (aCons (dC (.str "entry")) (aNil))) (dLst (aNil))) (gName 1)) (sSeq (sExpr (dM tyLst extendAM (dVar 1) (aCons (dOp addK (dOp addK (dLst (aCons (dC (.str "function")) (aCons (dOp ixK (dVar 0) (dC (.int 1))) (aNil)))) (dCall c "parameter_tokens" (aCons (dOp ixK (dVar 0) (dC (.int 2))) (aNil)))) (dLst (aCons (dC (.str ":")) (aCons (dB strXB (aCons (dOp ixK (dVar 0) (dC (.int 3))) (aNil))) (aCons (dC (.str "{")) (aNil)))))) (aNil)))) (sSeq (sFor (iSeq (dOp ixK (dVar 0) (dC (.int 5)))) (gName 4) (sSeq (sExpr (dM tyLst extendAM (dVar 1) (aCons (dLst (aCons (dC (.str "var")) (aCons (dOp ixK (dVar 4) (dC (.int 0))) (aCons (dC (.str ":")) (aCons (dB strXB (aCons (dOp ixK (dVar 4) (dC (.int 1))) (aNil))) (aNil)))))) (aNil)))) (sSeq (sIf (tTru (dCmp eqC (dB lenB (aCons (dVar 4) (aNil))) (dC (.int 3)))) (sExpr (dM tyLst extendAM (dVar 1) (aCons (dLst (aCons (dC (.str "[")) (aCons (dB strXB (aCons (dOp ixK (dVar 4) (dC (.int 2))) (aNil))) (aCons (dC (.str "]")) (aNil))))) (aNil)))) (sNext)) (sExpr (dM tyLst appendM (dVar 1) (aCons (dC (.str ";")) (aNil))))))) (sRet (dOp addK (dOp addK (dVar 1) (dCall c "body_tokens" (aCons (dOp ixK (dVar 0) (dC (.int 6))) (aNil)))) (dLst (aCons (dC (.str "}")) (aNil)))))))))
def b_p_parameter_tokens (c : Cl) : TS := sSeq (sAsg (dLst (aCons (dC (.str "(")) (aNil))) (gName 1)) (sSeq (sFor (iSeq (dVar 0)) (gTup (gsCons (gName 2) (gsCons (gName 3) (gsNil))) 2) (sSeq (sIf (tTru (dCmp gtC (dB lenB (aCons (dVar 1) (aNil))) (dC (.int 1)))) (sExpr (dM tyLst appendM (dVar 1) (aCons (dC (.str ",")) (aNil)))) (sNext)) (sExpr (dM tyLst extendAM (dVar 1) (aCons (dLst (aCons (dVar 2) (aCons (dC (.str ":")) (aCons (dB strXB (aCons (dVar 3) (aNil))) (aNil))))) (aNil)))))) (sRet (dOp addK (dVar 1) (dLst (aCons (dC (.str ")")) (aNil))))))
def b_p_block_tokens (c : Cl) : TS := sRet (dOp addK (dOp addK (dLst (aCons (dC (.str "{")) (aNil))) (dCall c "body_tokens" (aCons (dVar 0) (aNil)))) (dLst (aCons (dC (.str "}")) (aNil))))
def b_p_body_tokens (c : Cl) : TS := sSeq (sAsg (dLst (aNil)) (gName 1)) (sSeq (sFor (iSeq (dVar 0)) (gName 2) (sExpr (dM tyLst extendAM (dVar 1) (aCons (dCall c "statement_tokens" (aCons (dVar 2) (aNil))) (aNil))))) (sRet (dVar 1)))
def b_p_statement_tokens (c : Cl) : TS := sSeq (sAsg (dOp ixK (dVar 0) (dC (.int 0))) (gName 1)) (sSeq (sIf (tTru (dCmp eqC (dVar 1) (dC (.str "if")))) (sSeq (sAsg (dOp addK (dOp addK (dLst (aCons (dC (.str "if")) (aNil))) (dCall c "expr_tokens" (aCons (dOp ixK (dVar 0) (dC (.int 1))) (aNil)))) (dCall c "block_tokens" (aCons (dOp ixK (dVar 0) (dC (.int 2))) (aNil)))) (gName 2)) (sRet (dIf (tTru (dOp ixK (dVar 0) (dC (.int 3)))) (dOp addK (dOp addK (dVar 2) (dLst (aCons (dC (.str "else")) (aNil)))) (dCall c "block_tokens" (aCons (dOp ixK (dVar 0) (dC (.int 3))) (aNil)))) (dVar 2)))) (sNext)) (sSeq (sIf (tTru (dCmp eqC (dVar 1) (dC (.str "while")))) (sRet (dOp addK (dOp addK (dLst (aCons (dC (.str "while")) (aNil))) (dCall c "expr_tokens" (aCons (dOp ixK (dVar 0) (dC (.int 1))) (aNil)))) (dCall c "block_tokens" (aCons (dOp ixK (dVar 0) (dC (.int 2))) (aNil))))) (sNext)) (sSeq (sIf (tTru (dCmp eqC (dVar 1) (dC (.str "try")))) (sSeq (sAsg (dOp addK (dLst (aCons (dC (.str "try")) (aNil))) (dCall c "block_tokens" (aCons (dOp ixK (dVar 0) (dC (.int 1))) (aNil)))) (gName 2)) (sSeq (sFor (iSeq (dOp ixK (dVar 0) (dC (.int 2)))) (gTup (gsCons (gName 3) (gsCons (gName 4) (gsNil))) 2) (sExpr (dM tyLst extendAM (dVar 2) (aCons (dOp addK (dLst (aCons (dC (.str "catch")) (aCons (dVar 3) (aNil)))) (dCall c "block_tokens" (aCons (dVar 4) (aNil)))) (aNil))))) (sRet (dVar 2)))) (sNext)) (sSeq (sIf (tTru (dCmp eqC (dVar 1) (dC (.str "let")))) (sRet (dOp addK (dOp addK (dOp addK (dOp addK (dLst (aCons (dC (.str "let")) (aNil))) (dCall c "expr_tokens" (aCons (dOp ixK (dVar 0) (dC (.int 1))) (aNil)))) (dLst (aCons (dC (.str "=")) (aNil)))) (dCall c "expr_tokens" (aCons (dOp ixK (dVar 0) (dC (.int 2))) (aNil)))) (dLst (aCons (dC (.str ";")) (aNil))))) (sNext)) (sSeq (sIf (tTru (dCmp eqC (dVar 1) (dC (.str "make")))) (sRet (dLst (aCons (dC (.str "make")) (aCons (dOp ixK (dVar 0) (dC (.int 1))) (aCons (dC (.str "=")) (aCons (dOp ixK (dVar 0) (dC (.int 2))) (aCons (dC (.str ";")) (aNil)))))))) (sNext)) (sSeq (sIf (tTru (dCmp eqC (dVar 1) (dC (.str "raise")))) (sRet (dLst (aCons (dC (.str "raise")) (aCons (dOp ixK (dVar 0) (dC (.int 1))) (aCons (dC (.str ";")) (aNil)))))) (sNext)) (sSeq (sIf (tTru (dCmp eqC (dVar 1) (dC (.str "call")))) (sRet (dCall c "call_tokens" (aCons (dVar 0) (aNil)))) (sNext)) (sRet (dOp addK (dOp addK (dLst (aCons (dVar 1) (aNil))) (dCall c "expr_tokens" (aCons (dOp ixK (dVar 0) (dC (.int 1))) (aNil)))) (dLst (aCons (dC (.str ";")) (aNil))))))))))))
def b_p_call_tokens (c : Cl) : TS := sSeq (sAsg (dLst (aCons (dC (.str "call")) (aNil))) (gName 1)) (sSeq (sIf (tTru (dCmp isntC (dOp ixK (dVar 0) (dC (.int 1))) (dC .non))) (sExpr (dM tyLst extendAM (dVar 1) (aCons (dLst (aCons (dOp ixK (dVar 0) (dC (.int 1))) (aCons (dC (.str "=")) (aNil)))) (aNil)))) (sNext)) (sRet (dOp addK (dOp addK (dOp addK (dVar 1) (dLst (aCons (dOp ixK (dVar 0) (dC (.int 2))) (aCons (dC (.str "(")) (aNil))))) (dCall c "listed" (aCons (dOp ixK (dVar 0) (dC (.int 3))) (aNil)))) (dLst (aCons (dC (.str ")")) (aCons (dC (.str ";")) (aNil)))))))
def b_p_listed (c : Cl) : TS := sSeq (sAsg (dLst (aNil)) (gName 1)) (sSeq (sFor (iSeq (dVar 0)) (gName 2) (sSeq (sIf (tTru (dVar 1)) (sExpr (dM tyLst appendM (dVar 1) (aCons (dC (.str ",")) (aNil)))) (sNext)) (sExpr (dM tyLst extendAM (dVar 1) (aCons (dCall c "expr_tokens" (aCons (dVar 2) (aNil))) (aNil)))))) (sRet (dVar 1)))
def b_p_level_of (c : Cl) : TS := sSeq (sIf (tTru (dCmp inC (dOp ixK (dVar 0) (dC (.int 0))) (dTup (aCons (dC (.str "not")) (aCons (dC (.str "neg")) (aNil)))))) (sRet (dC (.int 8))) (sNext)) (sRet (dGetG2 k_LEVELS (dOp ixK (dVar 0) (dC (.int 0))) (dC (.int 9))))
def b_p_within (c : Cl) : TS := sSeq (sIf (tTru (dCmp geC (dCall c "level_of" (aCons (dVar 0) (aNil))) (dVar 1))) (sRet (dCall c "expr_tokens" (aCons (dVar 0) (aNil)))) (sNext)) (sRet (dOp addK (dOp addK (dLst (aCons (dC (.str "(")) (aNil))) (dCall c "expr_tokens" (aCons (dVar 0) (aNil)))) (dLst (aCons (dC (.str ")")) (aNil)))))
def b_p_expr_tokens (c : Cl) : TS := sSeq (sAsg (dOp ixK (dVar 0) (dC (.int 0))) (gName 1)) (sSeq (sIf (tTru (dCmp eqC (dVar 1) (dC (.str "word")))) (sRet (dLst (aCons (dB strXB (aCons (dOp ixK (dVar 0) (dC (.int 1))) (aNil))) (aCons (dC (.str "#")) (aCons (dB strXB (aCons (dOp ixK (dVar 0) (dC (.int 2))) (aNil))) (aNil)))))) (sNext)) (sSeq (sIf (tTru (dCmp eqC (dVar 1) (dC (.str "name")))) (sRet (dLst (aCons (dOp ixK (dVar 0) (dC (.int 1))) (aNil)))) (sNext)) (sSeq (sIf (tTru (dCmp eqC (dVar 1) (dC (.str "field")))) (sRet (dLst (aCons (dOp ixK (dVar 0) (dC (.int 1))) (aCons (dC (.str ".")) (aCons (dOp ixK (dVar 0) (dC (.int 2))) (aNil)))))) (sNext)) (sSeq (sIf (tTru (dCmp eqC (dVar 1) (dC (.str "item")))) (sRet (dOp addK (dOp addK (dLst (aCons (dOp ixK (dVar 0) (dC (.int 1))) (aCons (dC (.str "[")) (aNil)))) (dCall c "expr_tokens" (aCons (dOp ixK (dVar 0) (dC (.int 2))) (aNil)))) (dLst (aCons (dC (.str "]")) (aNil))))) (sNext)) (sSeq (sIf (tTru (dCmp eqC (dVar 1) (dC (.str "null")))) (sRet (dLst (aCons (dC (.str "null")) (aNil)))) (sNext)) (sSeq (sIf (tTru (dCmp inC (dVar 1) (dTup (aCons (dC (.str "not")) (aCons (dC (.str "neg")) (aNil)))))) (sRet (dOp addK (dLst (aCons (dIf (tTru (dCmp eqC (dVar 1) (dC (.str "not")))) (dC (.str "~")) (dC (.str "-"))) (aNil))) (dCall c "within" (aCons (dOp ixK (dVar 0) (dC (.int 1))) (aCons (dC (.int 8)) (aNil)))))) (sNext)) (sSeq (sIf (tTru (dCmp eqC (dVar 1) (dC (.str "wide")))) (sRet (dOp addK (dOp addK (dLst (aCons (dC (.str "wide")) (aCons (dC (.str "(")) (aNil)))) (dCall c "expr_tokens" (aCons (dOp ixK (dVar 0) (dC (.int 1))) (aNil)))) (dLst (aCons (dC (.str ",")) (aCons (dB strXB (aCons (dOp ixK (dVar 0) (dC (.int 2))) (aNil))) (aCons (dC (.str ")")) (aNil))))))) (sNext)) (sSeq (sIf (tTru (dCmp inC (dVar 1) (dTup (aCons (dC (.str "pick")) (aCons (dC (.str "div")) (aCons (dC (.str "rem")) (aNil))))))) (sRet (dOp addK (dOp addK (dLst (aCons (dVar 1) (aCons (dC (.str "(")) (aNil)))) (dCall c "listed" (aCons (dSl (dVar 0) (oSome (dC (.int 1))) (oNone)) (aNil)))) (dLst (aCons (dC (.str ")")) (aNil))))) (sNext)) (sSeq (sAsg (dUn (getGK k_LEVELS) (dVar 1)) (gName 2)) (sSeq (sAsg (dIf (tTru (dCmp eqC (dVar 2) (dC (.int 4)))) (dOp addK (dVar 2) (dC (.int 1))) (dVar 2)) (gName 3)) (sRet (dOp addK (dOp addK (dCall c "within" (aCons (dOp ixK (dVar 0) (dC (.int 1))) (aCons (dVar 3) (aNil)))) (dLst (aCons (dVar 1) (aNil)))) (dCall c "within" (aCons (dOp ixK (dVar 0) (dC (.int 2))) (aCons (dOp addK (dVar 2) (dC (.int 1))) (aNil))))))))))))))))
def b_l_begin (c : Cl) : TS := sRet (dLst (aCons (dLc (iSeq (dVar 0)) (gName 1) (tYes) (dB intB (aCons (dVar 1) (aNil))) [1]) (aCons (dC (.int 0)) (aCons (dC (.int 0)) (aCons (dC (.int 7)) (aCons (dC (.int 2)) (aNil)))))))
def b_l_draw (c : Cl) : TS := sSeq (sIf (tTru (dCmp gtC (dOp ixK (dVar 0) (dC (.int 2))) (dC (.int 0)))) (sSeq (sAsg (dOp ixK (dVar 0) (dC (.int 2))) (gName 2)) (sSeq (sAsg (dOp fdivK (dVar 2) (dVar 1)) (gSub (dVar 0) (dC (.int 2)))) (sRet (dOp modK (dB intB (aCons (dVar 2) (aNil))) (dVar 1))))) (sNext)) (sSeq (sAsg (dC (.int 0)) (gName 3)) (sSeq (sIf (tTru (dCmp ltC (dOp ixK (dVar 0) (dC (.int 1))) (dB lenB (aCons (dOp ixK (dVar 0) (dC (.int 0))) (aNil))))) (sSeq (sAsg (dOp ixK (dOp ixK (dVar 0) (dC (.int 0))) (dOp ixK (dVar 0) (dC (.int 1)))) (gName 4)) (sAsg (dOp addK (dOp mulK (dC (.int 2)) (dB absB (aCons (dVar 4) (aNil)))) (dB intB (aCons (dCmp ltC (dVar 4) (dC (.int 0))) (aNil)))) (gName 3))) (sNext)) (sSeq (sAugL iaddK (dVar 0) (dC (.int 1)) (dC (.int 1))) (sSeq (sIf (tTru (dCmp geC (dVar 3) (dOp mulK (dC (.int 2)) (dOp powK (dC (.int 10)) (dC (.int 18)))))) (sSeq (sAsg (dOp modK (dB intB (aCons (dOp fdivK (dVar 3) (dC (.int 2))) (aNil))) (dOp shlK (dC (.int 1)) (dC (.int 6000)))) (gName 2)) (sSeq (sAsg (dOp fdivK (dVar 2) (dVar 1)) (gSub (dVar 0) (dC (.int 2)))) (sRet (dOp modK (dB intB (aCons (dVar 2) (aNil))) (dVar 1))))) (sNext)) (sSeq (sAsg (dOp modK (dB intB (aCons (dOp addK (dOp addK (dOp addK (dOp mulK (dOp ixK (dVar 0) (dC (.int 3))) (dC (.int 48271))) (dOp mulK (dOp modK (dB intB (aCons (dVar 3) (aNil))) (dC (.int 2147483629))) (dC (.int 16807)))) (dOp mulK (dOp ixK (dVar 0) (dC (.int 1))) (dC (.int 69621)))) (dC (.int 11))) (aNil))) (dC (.int 2147483647))) (gSub (dVar 0) (dC (.int 3)))) (sRet (dOp modK (dB intB (aCons (dOp fdivK (dOp ixK (dVar 0) (dC (.int 3))) (dC (.int 16))) (aNil))) (dVar 1))))))))
def b_l_pick (c : Cl) : TS := sRet (dOp ixK (dVar 1) (dCall c "_law_draw" (aCons (dVar 0) (aCons (dB lenB (aCons (dVar 1) (aNil))) (aNil)))))
def b_l_listed (c : Cl) : TS := sSeq (sAsg (dLst (aNil)) (gName 1)) (sSeq (sFor (iSeq (dVar 0)) (gName 2) (sSeq (sIf (tTru (dVar 1)) (sExpr (dM tyLst appendM (dVar 1) (aCons (dC (.str ",")) (aNil)))) (sNext)) (sExpr (dM tyLst extendAM (dVar 1) (aCons (dCall c "_law_expr_tokens" (aCons (dVar 2) (aNil))) (aNil)))))) (sRet (dVar 1)))
def b_l_level (c : Cl) : TS := sSeq (sIf (tTru (dCmp inC (dOp ixK (dVar 0) (dC (.int 0))) (dTup (aCons (dC (.str "not")) (aCons (dC (.str "neg")) (aNil)))))) (sRet (dC (.int 8))) (sNext)) (sSeq (sAsg (dLst (aCons (dLst (aCons (dC (.str "|")) (aNil))) (aCons (dLst (aCons (dC (.str "^")) (aNil))) (aCons (dLst (aCons (dC (.str "&")) (aNil))) (aCons (dLst (aCons (dC (.str "==")) (aCons (dC (.str "!=")) (aCons (dC (.str "<")) (aCons (dC (.str "<=")) (aNil)))))) (aCons (dLst (aCons (dC (.str "<<")) (aCons (dC (.str ">>")) (aNil)))) (aCons (dLst (aCons (dC (.str "+")) (aCons (dC (.str "-")) (aNil)))) (aCons (dLst (aCons (dC (.str "*")) (aNil))) (aNil))))))))) (gName 1)) (sSeq (sFor (iR1 (dC (.int 7))) (gName 2) (sIf (tTru (dCmp inC (dOp ixK (dVar 0) (dC (.int 0))) (dOp ixK (dVar 1) (dVar 2)))) (sRet (dOp addK (dVar 2) (dC (.int 1)))) (sNext))) (sRet (dC (.int 9)))))
def b_l_inner_tokens (c : Cl) : TS := sSeq (sIf (tTru (dCmp geC (dCall c "_law_level" (aCons (dVar 0) (aNil))) (dVar 1))) (sRet (dCall c "_law_expr_tokens" (aCons (dVar 0) (aNil)))) (sNext)) (sRet (dOp addK (dOp addK (dLst (aCons (dC (.str "(")) (aNil))) (dCall c "_law_expr_tokens" (aCons (dVar 0) (aNil)))) (dLst (aCons (dC (.str ")")) (aNil)))))
def b_l_expr_tokens (c : Cl) : TS := sSeq (sAsg (dOp ixK (dVar 0) (dC (.int 0))) (gName 1)) (sSeq (sIf (tTru (dCmp eqC (dVar 1) (dC (.str "word")))) (sRet (dLst (aCons (dB strXB (aCons (dOp ixK (dVar 0) (dC (.int 1))) (aNil))) (aCons (dC (.str "#")) (aCons (dB strXB (aCons (dOp ixK (dVar 0) (dC (.int 2))) (aNil))) (aNil)))))) (sNext)) (sSeq (sIf (tTru (dCmp eqC (dVar 1) (dC (.str "name")))) (sRet (dLst (aCons (dOp ixK (dVar 0) (dC (.int 1))) (aNil)))) (sNext)) (sSeq (sIf (tTru (dCmp eqC (dVar 1) (dC (.str "field")))) (sRet (dLst (aCons (dOp ixK (dVar 0) (dC (.int 1))) (aCons (dC (.str ".")) (aCons (dOp ixK (dVar 0) (dC (.int 2))) (aNil)))))) (sNext)) (sSeq (sIf (tTru (dCmp eqC (dVar 1) (dC (.str "item")))) (sRet (dOp addK (dOp addK (dLst (aCons (dOp ixK (dVar 0) (dC (.int 1))) (aCons (dC (.str "[")) (aNil)))) (dCall c "_law_expr_tokens" (aCons (dOp ixK (dVar 0) (dC (.int 2))) (aNil)))) (dLst (aCons (dC (.str "]")) (aNil))))) (sNext)) (sSeq (sIf (tTru (dCmp eqC (dVar 1) (dC (.str "null")))) (sRet (dLst (aCons (dC (.str "null")) (aNil)))) (sNext)) (sSeq (sIf (tTru (dCmp eqC (dVar 1) (dC (.str "not")))) (sRet (dOp addK (dLst (aCons (dC (.str "~")) (aNil))) (dCall c "_law_inner_tokens" (aCons (dOp ixK (dVar 0) (dC (.int 1))) (aCons (dC (.int 8)) (aNil)))))) (sNext)) (sSeq (sIf (tTru (dCmp eqC (dVar 1) (dC (.str "neg")))) (sRet (dOp addK (dLst (aCons (dC (.str "-")) (aNil))) (dCall c "_law_inner_tokens" (aCons (dOp ixK (dVar 0) (dC (.int 1))) (aCons (dC (.int 8)) (aNil)))))) (sNext)) (sSeq (sIf (tTru (dCmp eqC (dVar 1) (dC (.str "wide")))) (sRet (dOp addK (dOp addK (dLst (aCons (dC (.str "wide")) (aCons (dC (.str "(")) (aNil)))) (dCall c "_law_expr_tokens" (aCons (dOp ixK (dVar 0) (dC (.int 1))) (aNil)))) (dLst (aCons (dC (.str ",")) (aCons (dB strXB (aCons (dOp ixK (dVar 0) (dC (.int 2))) (aNil))) (aCons (dC (.str ")")) (aNil))))))) (sNext)) (sSeq (sIf (tTru (dCmp inC (dVar 1) (dTup (aCons (dC (.str "pick")) (aCons (dC (.str "div")) (aCons (dC (.str "rem")) (aNil))))))) (sRet (dOp addK (dOp addK (dLst (aCons (dVar 1) (aCons (dC (.str "(")) (aNil)))) (dCall c "_law_listed" (aCons (dSl (dVar 0) (oSome (dC (.int 1))) (oNone)) (aNil)))) (dLst (aCons (dC (.str ")")) (aNil))))) (sNext)) (sSeq (sAsg (dCall c "_law_level" (aCons (dVar 0) (aNil))) (gName 2)) (sRet (dOp addK (dOp addK (dCall c "_law_inner_tokens" (aCons (dOp ixK (dVar 0) (dC (.int 1))) (aCons (dOp addK (dVar 2) (dB intB (aCons (dCmp eqC (dVar 2) (dC (.int 4))) (aNil)))) (aNil)))) (dLst (aCons (dVar 1) (aNil)))) (dCall c "_law_inner_tokens" (aCons (dOp ixK (dVar 0) (dC (.int 2))) (aCons (dOp addK (dVar 2) (dC (.int 1))) (aNil))))))))))))))))
def b_l_block_tokens (c : Cl) : TS := sSeq (sAsg (dLst (aCons (dC (.str "{")) (aNil))) (gName 1)) (sSeq (sFor (iSeq (dVar 0)) (gName 2) (sExpr (dM tyLst extendAM (dVar 1) (aCons (dCall c "_law_statement_tokens" (aCons (dVar 2) (aNil))) (aNil))))) (sRet (dOp addK (dVar 1) (dLst (aCons (dC (.str "}")) (aNil))))))
def b_l_statement_tokens (c : Cl) : TS := sSeq (sAsg (dOp ixK (dVar 0) (dC (.int 0))) (gName 1)) (sSeq (sIf (tTru (dCmp eqC (dVar 1) (dC (.str "let")))) (sRet (dOp addK (dOp addK (dOp addK (dOp addK (dLst (aCons (dVar 1) (aNil))) (dCall c "_law_expr_tokens" (aCons (dOp ixK (dVar 0) (dC (.int 1))) (aNil)))) (dLst (aCons (dC (.str "=")) (aNil)))) (dCall c "_law_expr_tokens" (aCons (dOp ixK (dVar 0) (dC (.int 2))) (aNil)))) (dLst (aCons (dC (.str ";")) (aNil))))) (sNext)) (sSeq (sIf (tTru (dCmp eqC (dVar 1) (dC (.str "make")))) (sRet (dLst (aCons (dVar 1) (aCons (dOp ixK (dVar 0) (dC (.int 1))) (aCons (dC (.str "=")) (aCons (dOp ixK (dVar 0) (dC (.int 2))) (aCons (dC (.str ";")) (aNil)))))))) (sNext)) (sSeq (sIf (tTru (dCmp eqC (dVar 1) (dC (.str "call")))) (sSeq (sAsg (dIf (tTru (dCmp isC (dOp ixK (dVar 0) (dC (.int 1))) (dC .non))) (dLst (aNil)) (dLst (aCons (dOp ixK (dVar 0) (dC (.int 1))) (aCons (dC (.str "=")) (aNil))))) (gName 2)) (sRet (dOp addK (dOp addK (dOp addK (dOp addK (dLst (aCons (dVar 1) (aNil))) (dVar 2)) (dLst (aCons (dOp ixK (dVar 0) (dC (.int 2))) (aCons (dC (.str "(")) (aNil))))) (dCall c "_law_listed" (aCons (dOp ixK (dVar 0) (dC (.int 3))) (aNil)))) (dLst (aCons (dC (.str ")")) (aCons (dC (.str ";")) (aNil))))))) (sNext)) (sSeq (sIf (tTru (dCmp eqC (dVar 1) (dC (.str "if")))) (sSeq (sAsg (dIf (tTru (dOp ixK (dVar 0) (dC (.int 3)))) (dOp addK (dLst (aCons (dC (.str "else")) (aNil))) (dCall c "_law_block_tokens" (aCons (dOp ixK (dVar 0) (dC (.int 3))) (aNil)))) (dLst (aNil))) (gName 3)) (sRet (dOp addK (dOp addK (dOp addK (dLst (aCons (dVar 1) (aNil))) (dCall c "_law_expr_tokens" (aCons (dOp ixK (dVar 0) (dC (.int 1))) (aNil)))) (dCall c "_law_block_tokens" (aCons (dOp ixK (dVar 0) (dC (.int 2))) (aNil)))) (dVar 3)))) (sNext)) (sSeq (sIf (tTru (dCmp eqC (dVar 1) (dC (.str "while")))) (sRet (dOp addK (dOp addK (dLst (aCons (dVar 1) (aNil))) (dCall c "_law_expr_tokens" (aCons (dOp ixK (dVar 0) (dC (.int 1))) (aNil)))) (dCall c "_law_block_tokens" (aCons (dOp ixK (dVar 0) (dC (.int 2))) (aNil))))) (sNext)) (sSeq (sIf (tTru (dCmp eqC (dVar 1) (dC (.str "try")))) (sSeq (sAsg (dOp addK (dLst (aCons (dVar 1) (aNil))) (dCall c "_law_block_tokens" (aCons (dOp ixK (dVar 0) (dC (.int 1))) (aNil)))) (gName 4)) (sSeq (sFor (iSeq (dOp ixK (dVar 0) (dC (.int 2)))) (gTup (gsCons (gName 5) (gsCons (gName 6) (gsNil))) 2) (sExpr (dM tyLst extendAM (dVar 4) (aCons (dOp addK (dLst (aCons (dC (.str "catch")) (aCons (dVar 5) (aNil)))) (dCall c "_law_block_tokens" (aCons (dVar 6) (aNil)))) (aNil))))) (sRet (dVar 4)))) (sNext)) (sSeq (sIf (tTru (dCmp eqC (dVar 1) (dC (.str "raise")))) (sRet (dLst (aCons (dVar 1) (aCons (dOp ixK (dVar 0) (dC (.int 1))) (aCons (dC (.str ";")) (aNil)))))) (sNext)) (sRet (dOp addK (dOp addK (dLst (aCons (dVar 1) (aNil))) (dCall c "_law_expr_tokens" (aCons (dOp ixK (dVar 0) (dC (.int 1))) (aNil)))) (dLst (aCons (dC (.str ";")) (aNil))))))))))))
def b_l_params_tokens (c : Cl) : TS := sSeq (sAsg (dLst (aCons (dC (.str "(")) (aNil))) (gName 1)) (sSeq (sFor (iSeq (dVar 0)) (gName 2) (sSeq (sIf (tTru (dCmp gtC (dB lenB (aCons (dVar 1) (aNil))) (dC (.int 1)))) (sExpr (dM tyLst appendM (dVar 1) (aCons (dC (.str ",")) (aNil)))) (sNext)) (sExpr (dM tyLst extendAM (dVar 1) (aCons (dLst (aCons (dOp ixK (dVar 2) (dC (.int 0))) (aCons (dC (.str ":")) (aCons (dB strXB (aCons (dOp ixK (dVar 2) (dC (.int 1))) (aNil))) (aNil))))) (aNil)))))) (sRet (dOp addK (dVar 1) (dLst (aCons (dC (.str ")")) (aNil))))))
def b_l_part_tokens (c : Cl) : TS := sSeq (sIf (tTru (dCmp eqC (dOp ixK (dVar 0) (dC (.int 0))) (dC (.str "record")))) (sSeq (sAsg (dLst (aCons (dC (.str "record")) (aCons (dOp ixK (dVar 0) (dC (.int 1))) (aCons (dC (.str "{")) (aNil))))) (gName 1)) (sSeq (sFor (iSeq (dOp ixK (dVar 0) (dC (.int 2)))) (gName 2) (sExpr (dM tyLst extendAM (dVar 1) (aCons (dLst (aCons (dOp ixK (dVar 2) (dC (.int 0))) (aCons (dC (.str ":")) (aCons (dB strXB (aCons (dOp ixK (dVar 2) (dC (.int 1))) (aNil))) (aCons (dC (.str ";")) (aNil)))))) (aNil))))) (sRet (dOp addK (dVar 1) (dLst (aCons (dC (.str "}")) (aNil))))))) (sNext)) (sSeq (sIf (tTru (dCmp eqC (dOp ixK (dVar 0) (dC (.int 0))) (dC (.str "external")))) (sSeq (sAsg (dOp addK (dOp addK (dLst (aCons (dC (.str "external")) (aCons (dOp ixK (dVar 0) (dC (.int 1))) (aNil)))) (dCall c "_law_params_tokens" (aCons (dOp ixK (dVar 0) (dC (.int 2))) (aNil)))) (dLst (aCons (dC (.str ":")) (aCons (dB strXB (aCons (dOp ixK (dVar 0) (dC (.int 3))) (aNil))) (aNil))))) (gName 1)) (sSeq (sIf (tTru (dCmp eqC (dOp ixK (dVar 0) (dC (.int 4))) (dC (.int 1)))) (sExpr (dM tyLst appendM (dVar 1) (aCons (dC (.str "steady")) (aNil)))) (sNext)) (sRet (dOp addK (dOp addK (dOp addK (dOp addK (dOp addK (dVar 1) (dLst (aCons (dC (.str "needs")) (aNil)))) (dCall c "_law_expr_tokens" (aCons (dOp ixK (dVar 0) (dC (.int 5))) (aNil)))) (dLst (aCons (dC (.str "gives")) (aNil)))) (dCall c "_law_expr_tokens" (aCons (dOp ixK (dVar 0) (dC (.int 6))) (aNil)))) (dLst (aCons (dC (.str ";")) (aNil))))))) (sNext)) (sSeq (sAsg (dIf (tTru (dCmp eqC (dOp ixK (dVar 0) (dC (.int 4))) (dC (.int 1)))) (dLst (aCons (dC (.str "entry")) (aNil))) (dLst (aNil))) (gName 1)) (sSeq (sExpr (dM tyLst extendAM (dVar 1) (aCons (dOp addK (dOp addK (dLst (aCons (dC (.str "function")) (aCons (dOp ixK (dVar 0) (dC (.int 1))) (aNil)))) (dCall c "_law_params_tokens" (aCons (dOp ixK (dVar 0) (dC (.int 2))) (aNil)))) (dLst (aCons (dC (.str ":")) (aCons (dB strXB (aCons (dOp ixK (dVar 0) (dC (.int 3))) (aNil))) (aCons (dC (.str "{")) (aNil)))))) (aNil)))) (sSeq (sFor (iSeq (dOp ixK (dVar 0) (dC (.int 5)))) (gName 2) (sSeq (sExpr (dM tyLst extendAM (dVar 1) (aCons (dLst (aCons (dC (.str "var")) (aCons (dOp ixK (dVar 2) (dC (.int 0))) (aCons (dC (.str ":")) (aCons (dB strXB (aCons (dOp ixK (dVar 2) (dC (.int 1))) (aNil))) (aNil)))))) (aNil)))) (sSeq (sIf (tTru (dCmp eqC (dB lenB (aCons (dVar 2) (aNil))) (dC (.int 3)))) (sExpr (dM tyLst extendAM (dVar 1) (aCons (dLst (aCons (dC (.str "[")) (aCons (dB strXB (aCons (dOp ixK (dVar 2) (dC (.int 2))) (aNil))) (aCons (dC (.str "]")) (aNil))))) (aNil)))) (sNext)) (sExpr (dM tyLst appendM (dVar 1) (aCons (dC (.str ";")) (aNil))))))) (sRet (dOp addK (dVar 1) (dSl (dCall c "_law_block_tokens" (aCons (dOp ixK (dVar 0) (dC (.int 6))) (aNil))) (oSome (dC (.int 1))) (oNone))))))))
def b_l_lines (c : Cl) : TS := sSeq (sAsg (dC (.str "")) (gName 1)) (sSeq (sFor (iSeq (dVar 0)) (gName 2) (sAsg (dOp addK (dOp addK (dVar 1) (dVar 2)) (dIf (tTru (dCmp inC (dVar 2) (dTup (aCons (dC (.str "{")) (aCons (dC (.str "}")) (aCons (dC (.str ";")) (aNil))))))) (dC (.str "\n")) (dC (.str " ")))) (gName 1))) (sRet (dVar 1)))
def b_l_text (c : Cl) : TS := sRet (dCall c "_law_lines" (aCons (dCall c "_law_part_tokens" (aCons (dVar 0) (aNil))) (aNil)))
def b_l_write (c : Cl) : TS := sRet (dM tyStr joinM (dC (.str "")) (aCons (dLc (iSeq (dVar 0)) (gName 1) (tYes) (dCall c "_law_text" (aCons (dVar 1) (aNil))) [1]) (aNil)))
def b_l_reserved (c : Cl) : TS := sSeq (sAsg (dC (.str "record external steady needs gives entry function var let make call if else while return raise try catch ")) (gName 0)) (sRet (dM tyStr splitM (dOp addK (dVar 0) (dC (.str "assert null pick wide div rem"))) (aCons (dC (.str " ")) (aNil))))
def b_l_any_name (c : Cl) : TS := sSeq (sAsg (dC (.str "abcdefghijklmnopqrstuvwxyz")) (gName 1)) (sSeq (sAsg (dOp addK (dVar 1) (dC (.str "0123456789"))) (gName 2)) (sSeq (sAsg (dCall c "_law_draw" (aCons (dVar 0) (aCons (dC (.int 7)) (aNil)))) (gName 3)) (sSeq (sAsg (dCall c "_law_pick" (aCons (dVar 0) (aCons (dVar 1) (aNil)))) (gName 4)) (sSeq (sIf (tTru (dCmp eqC (dVar 3) (dC (.int 3)))) (sAsg (dOp addK (dCall c "_law_pick" (aCons (dVar 0) (aCons (dCall c "_law_reserved" aNil) (aNil)))) (dCall c "_law_pick" (aCons (dVar 0) (aCons (dVar 2) (aNil))))) (gName 4)) (sIf (tTru (dCmp eqC (dVar 3) (dC (.int 4)))) (sAsg (dCall c "_law_pick" (aCons (dVar 0) (aCons (dLst (aCons (dC (.str "not")) (aCons (dC (.str "neg")) (aCons (dC (.str "word")) (aCons (dC (.str "name")) (aCons (dC (.str "item")) (aCons (dC (.str "field")) (aCons (dC (.str "result")) (aCons (dC (.str "none")) (aCons (dC (.str "index")) (aCons (dC (.str "duty")) (aNil)))))))))))) (aNil)))) (gName 4)) (sNext))) (sSeq (sFor (iR1 (dOp ixK (dLst (aCons (dC (.int 0)) (aCons (dC (.int 2)) (aCons (dC (.int 7)) (aCons (dC (.int 0)) (aCons (dC (.int 0)) (aCons (dC (.int 1)) (aCons (dC (.int 4)) (aNil))))))))) (dVar 3))) (gName 5) (sAsg (dOp addK (dVar 4) (dCall c "_law_pick" (aCons (dVar 0) (aCons (dVar 2) (aNil))))) (gName 4))) (sSeq (sIf (tTru (dCmp inC (dSlS (dVar 4) (oNone) (oSome (dC (.int 8)))) (dCall c "_law_reserved" aNil))) (sRet (dOp addK (dSlS (dVar 4) (oNone) (oSome (dC (.int 7)))) (dC (.str "0")))) (sNext)) (sRet (dSlS (dVar 4) (oNone) (oSome (dC (.int 8)))))))))))
def b_l_any_number (c : Cl) : TS := sSeq (sAsg (dCall c "_law_draw" (aCons (dVar 0) (aCons (dC (.int 3)) (aNil)))) (gName 1)) (sSeq (sIf (tTru (dCmp eqC (dVar 1) (dC (.int 0)))) (sRet (dOp addK (dC (.int 1)) (dCall c "_law_draw" (aCons (dVar 0) (aCons (dC (.int 8)) (aNil)))))) (sNext)) (sSeq (sIf (tTru (dCmp eqC (dVar 1) (dC (.int 1)))) (sRet (dCall c "_law_pick" (aCons (dVar 0) (aCons (dLst (aCons (dC (.int 0)) (aCons (dC (.int 1)) (aCons (dC (.int 9)) (aCons (dC (.int 10)) (aCons (dC (.int 99)) (aCons (dC (.int 100)) (aCons (dC (.int 254)) (aCons (dC (.int 255)) (aNil)))))))))) (aNil))))) (sNext)) (sRet (dCall c "_law_draw" (aCons (dVar 0) (aCons (dC (.int 256)) (aNil)))))))
def b_l_any_leaf (c : Cl) : TS := sSeq (sAsg (dCall c "_law_draw" (aCons (dVar 0) (aCons (dC (.int 6)) (aNil)))) (gName 1)) (sSeq (sIf (tOr (tTru (dCmp eqC (dVar 1) (dC (.int 1)))) (tTru (dCmp eqC (dVar 1) (dC (.int 4))))) (sSeq (sAsg (dCall c "_law_any_number" (aCons (dVar 0) (aNil))) (gName 2)) (sRet (dTup (aCons (dC (.str "word")) (aCons (dVar 2) (aCons (dCall c "_law_any_number" (aCons (dVar 0) (aNil))) (aNil))))))) (sNext)) (sSeq (sIf (tTru (dCmp eqC (dVar 1) (dC (.int 2)))) (sSeq (sAsg (dCall c "_law_any_name" (aCons (dVar 0) (aNil))) (gName 3)) (sRet (dTup (aCons (dC (.str "field")) (aCons (dVar 3) (aCons (dCall c "_law_any_name" (aCons (dVar 0) (aNil))) (aNil))))))) (sNext)) (sSeq (sIf (tTru (dCmp eqC (dVar 1) (dC (.int 3)))) (sRet (dTup (aCons (dC (.str "null")) (aNil)))) (sNext)) (sRet (dTup (aCons (dC (.str "name")) (aCons (dCall c "_law_any_name" (aCons (dVar 0) (aNil))) (aNil))))))))
def b_l_any_expr (c : Cl) : TS := sSeq (sAsg (dCall c "_law_draw" (aCons (dVar 0) (aCons (dC (.int 12)) (aNil)))) (gName 3)) (sSeq (sAsg (dOp subK (dOp ixK (dVar 1) (dC (.int 1))) (dC (.int 1))) (gSub (dVar 1) (dC (.int 1)))) (sSeq (sIf (tOr (tTru (dCmp ltC (dVar 3) (dC (.int 3)))) (tOr (tTru (dCmp eqC (dVar 2) (dC (.int 0)))) (tTru (dCmp ltC (dOp ixK (dVar 1) (dC (.int 1))) (dC (.int 0)))))) (sRet (dCall c "_law_any_leaf" (aCons (dVar 0) (aNil)))) (sNext)) (sSeq (sIf (tTru (dCmp eqC (dVar 3) (dC (.int 3)))) (sRet (dTup (aCons (dCall c "_law_pick" (aCons (dVar 0) (aCons (dLst (aCons (dC (.str "not")) (aCons (dC (.str "neg")) (aNil)))) (aNil)))) (aCons (dCall c "_law_any_expr" (aCons (dVar 0) (aCons (dVar 1) (aCons (dOp subK (dVar 2) (dC (.int 1))) (aNil))))) (aNil))))) (sNext)) (sSeq (sIf (tTru (dCmp eqC (dVar 3) (dC (.int 4)))) (sSeq (sAsg (dCall c "_law_any_name" (aCons (dVar 0) (aNil))) (gName 4)) (sRet (dTup (aCons (dC (.str "item")) (aCons (dVar 4) (aCons (dCall c "_law_any_expr" (aCons (dVar 0) (aCons (dVar 1) (aCons (dOp subK (dVar 2) (dC (.int 1))) (aNil))))) (aNil))))))) (sNext)) (sSeq (sIf (tTru (dCmp eqC (dVar 3) (dC (.int 5)))) (sRet (dCall c "_law_any_call" (aCons (dVar 0) (aCons (dVar 1) (aCons (dVar 2) (aNil)))))) (sNext)) (sSeq (sAsg (dCall c "_law_pick" (aCons (dVar 0) (aCons (dLst (aCons (dC (.str "|")) (aCons (dC (.str "^")) (aCons (dC (.str "&")) (aCons (dC (.str "==")) (aCons (dC (.str "!=")) (aCons (dC (.str "<")) (aCons (dC (.str "<=")) (aCons (dC (.str "<<")) (aCons (dC (.str ">>")) (aCons (dC (.str "+")) (aCons (dC (.str "-")) (aCons (dC (.str "*")) (aNil)))))))))))))) (aNil)))) (gName 5)) (sSeq (sAsg (dCall c "_law_any_expr" (aCons (dVar 0) (aCons (dVar 1) (aCons (dOp subK (dVar 2) (dC (.int 1))) (aNil))))) (gName 6)) (sRet (dTup (aCons (dVar 5) (aCons (dVar 6) (aCons (dCall c "_law_any_expr" (aCons (dVar 0) (aCons (dVar 1) (aCons (dOp subK (dVar 2) (dC (.int 1))) (aNil))))) (aNil)))))))))))))
def b_l_any_call (c : Cl) : TS := sSeq (sAsg (dCall c "_law_pick" (aCons (dVar 0) (aCons (dLst (aCons (dC (.str "div")) (aCons (dC (.str "rem")) (aCons (dC (.str "pick")) (aCons (dC (.str "wide")) (aNil)))))) (aNil)))) (gName 3)) (sSeq (sAsg (dTup (aCons (dVar 3) (aCons (dCall c "_law_any_expr" (aCons (dVar 0) (aCons (dVar 1) (aCons (dOp subK (dVar 2) (dC (.int 1))) (aNil))))) (aNil)))) (gName 4)) (sSeq (sIf (tTru (dCmp eqC (dVar 3) (dC (.str "wide")))) (sRet (dOp addK (dVar 4) (dTup (aCons (dCall c "_law_any_number" (aCons (dVar 0) (aNil))) (aNil))))) (sNext)) (sSeq (sFor (iR1 (dOp addK (dC (.int 1)) (dB intB (aCons (dCmp eqC (dVar 3) (dC (.str "pick"))) (aNil))))) (gName 5) (sAsg (dOp addK (dVar 4) (dTup (aCons (dCall c "_law_any_expr" (aCons (dVar 0) (aCons (dVar 1) (aCons (dOp subK (dVar 2) (dC (.int 1))) (aNil))))) (aNil)))) (gName 4))) (sRet (dVar 4)))))
def b_l_any_place (c : Cl) : TS := sSeq (sAsg (dCall c "_law_draw" (aCons (dVar 0) (aCons (dC (.int 3)) (aNil)))) (gName 2)) (sSeq (sAsg (dCall c "_law_any_name" (aCons (dVar 0) (aNil))) (gName 3)) (sSeq (sIf (tTru (dCmp eqC (dVar 2) (dC (.int 1)))) (sRet (dTup (aCons (dC (.str "item")) (aCons (dVar 3) (aCons (dCall c "_law_any_expr" (aCons (dVar 0) (aCons (dVar 1) (aCons (dC (.int 3)) (aNil))))) (aNil)))))) (sNext)) (sSeq (sIf (tTru (dCmp eqC (dVar 2) (dC (.int 2)))) (sRet (dTup (aCons (dC (.str "field")) (aCons (dVar 3) (aCons (dCall c "_law_any_name" (aCons (dVar 0) (aNil))) (aNil)))))) (sNext)) (sRet (dTup (aCons (dC (.str "name")) (aCons (dVar 3) (aNil))))))))
def b_l_any_plain (c : Cl) : TS := sSeq (sIf (tTru (dCmp eqC (dVar 2) (dC (.int 0)))) (sRet (dTup (aCons (dC (.str "raise")) (aCons (dCall c "_law_any_name" (aCons (dVar 0) (aNil))) (aNil))))) (sNext)) (sSeq (sIf (tTru (dCmp eqC (dVar 2) (dC (.int 1)))) (sSeq (sAsg (dCall c "_law_any_place" (aCons (dVar 0) (aCons (dVar 1) (aNil)))) (gName 3)) (sRet (dTup (aCons (dC (.str "let")) (aCons (dVar 3) (aCons (dCall c "_law_any_expr" (aCons (dVar 0) (aCons (dVar 1) (aCons (dC (.int 4)) (aNil))))) (aNil))))))) (sNext)) (sSeq (sIf (tTru (dCmp eqC (dVar 2) (dC (.int 2)))) (sSeq (sAsg (dIf (tTru (dCmp eqC (dCall c "_law_draw" (aCons (dVar 0) (aCons (dC (.int 2)) (aNil)))) (dC (.int 1)))) (dCall c "_law_any_name" (aCons (dVar 0) (aNil))) (dC .non)) (gName 4)) (sSeq (sAsg (dCall c "_law_any_name" (aCons (dVar 0) (aNil))) (gName 5)) (sRet (dTup (aCons (dC (.str "call")) (aCons (dVar 4) (aCons (dVar 5) (aCons (dB tupleB (aCons (dLc (iR1 (dCall c "_law_draw" (aCons (dVar 0) (aCons (dC (.int 4)) (aNil))))) (gName 7) (tYes) (dCall c "_law_any_expr" (aCons (dVar 0) (aCons (dVar 1) (aCons (dC (.int 3)) (aNil))))) [7]) (aNil))) (aNil))))))))) (sNext)) (sSeq (sIf (tTru (dCmp eqC (dVar 2) (dC (.int 3)))) (sSeq (sAsg (dCall c "_law_any_name" (aCons (dVar 0) (aNil))) (gName 5)) (sRet (dTup (aCons (dC (.str "make")) (aCons (dVar 5) (aCons (dCall c "_law_any_name" (aCons (dVar 0) (aNil))) (aNil))))))) (sNext)) (sSeq (sAsg (dIf (tTru (dCmp eqC (dVar 2) (dC (.int 4)))) (dC (.str "return")) (dC (.str "assert"))) (gName 6)) (sRet (dTup (aCons (dVar 6) (aCons (dCall c "_law_any_expr" (aCons (dVar 0) (aCons (dVar 1) (aCons (dC (.int 4)) (aNil))))) (aNil)))))))))
def b_l_any_statement (c : Cl) : TS := sSeq (sAsg (dCall c "_law_draw" (aCons (dVar 0) (aCons (dC (.int 10)) (aNil)))) (gName 3)) (sSeq (sAsg (dOp subK (dOp ixK (dVar 1) (dC (.int 0))) (dC (.int 1))) (gSub (dVar 1) (dC (.int 0)))) (sSeq (sIf (tTru (dCmp ltC (dVar 3) (dC (.int 6)))) (sRet (dCall c "_law_any_plain" (aCons (dVar 0) (aCons (dVar 1) (aCons (dVar 3) (aNil)))))) (sNext)) (sSeq (sIf (tTru (dCmp eqC (dVar 2) (dC (.int 0)))) (sRet (dCall c "_law_any_plain" (aCons (dVar 0) (aCons (dVar 1) (aCons (dOp subK (dVar 3) (dC (.int 6))) (aNil)))))) (sNext)) (sSeq (sIf (tTru (dCmp eqC (dVar 3) (dC (.int 7)))) (sRet (dCall c "_law_any_try" (aCons (dVar 0) (aCons (dVar 1) (aCons (dVar 2) (aNil)))))) (sNext)) (sSeq (sAsg (dCall c "_law_any_expr" (aCons (dVar 0) (aCons (dVar 1) (aCons (dC (.int 3)) (aNil))))) (gName 4)) (sSeq (sAsg (dCall c "_law_any_body" (aCons (dVar 0) (aCons (dVar 1) (aCons (dOp subK (dVar 2) (dC (.int 1))) (aNil))))) (gName 5)) (sSeq (sIf (tTru (dCmp eqC (dVar 3) (dC (.int 6)))) (sRet (dTup (aCons (dC (.str "while")) (aCons (dVar 4) (aCons (dVar 5) (aNil)))))) (sNext)) (sRet (dTup (aCons (dC (.str "if")) (aCons (dVar 4) (aCons (dVar 5) (aCons (dCall c "_law_any_body" (aCons (dVar 0) (aCons (dVar 1) (aCons (dOp subK (dVar 2) (dC (.int 1))) (aNil))))) (aNil))))))))))))))
def b_l_any_try (c : Cl) : TS := sSeq (sAsg (dCall c "_law_any_body" (aCons (dVar 0) (aCons (dVar 1) (aCons (dOp subK (dVar 2) (dC (.int 1))) (aNil))))) (gName 3)) (sSeq (sAsg (dLst (aNil)) (gName 4)) (sSeq (sFor (iR1 (dOp addK (dC (.int 1)) (dCall c "_law_draw" (aCons (dVar 0) (aCons (dC (.int 3)) (aNil)))))) (gName 5) (sSeq (sAsg (dCall c "_law_any_name" (aCons (dVar 0) (aNil))) (gName 6)) (sExpr (dM tyLst appendM (dVar 4) (aCons (dTup (aCons (dVar 6) (aCons (dCall c "_law_any_body" (aCons (dVar 0) (aCons (dVar 1) (aCons (dOp subK (dVar 2) (dC (.int 1))) (aNil))))) (aNil)))) (aNil)))))) (sRet (dTup (aCons (dC (.str "try")) (aCons (dVar 3) (aCons (dB tupleB (aCons (dVar 4) (aNil))) (aNil))))))))
def b_l_any_body (c : Cl) : TS := sSeq (sAsg (dLst (aNil)) (gName 3)) (sSeq (sFor (iR1 (dCall c "_law_draw" (aCons (dVar 0) (aCons (dC (.int 4)) (aNil))))) (gName 4) (sIf (tTru (dCmp gtC (dOp ixK (dVar 1) (dC (.int 0))) (dC (.int 0)))) (sExpr (dM tyLst appendM (dVar 3) (aCons (dCall c "_law_any_statement" (aCons (dVar 0) (aCons (dVar 1) (aCons (dVar 2) (aNil))))) (aNil)))) (sNext))) (sRet (dB tupleB (aCons (dVar 3) (aNil)))))
def b_l_any_kind (c : Cl) : TS := sSeq (sIf (tTru (dCmp eqC (dCall c "_law_draw" (aCons (dVar 0) (aCons (dC (.int 3)) (aNil)))) (dC (.int 1)))) (sRet (dCall c "_law_any_name" (aCons (dVar 0) (aNil)))) (sNext)) (sRet (dCall c "_law_any_number" (aCons (dVar 0) (aNil))))
def b_l_any_pairs (c : Cl) : TS := sSeq (sAsg (dLst (aNil)) (gName 2)) (sSeq (sFor (iR1 (dCall c "_law_draw" (aCons (dVar 0) (aCons (dOp addK (dVar 1) (dC (.int 1))) (aNil))))) (gName 3) (sSeq (sAsg (dCall c "_law_any_name" (aCons (dVar 0) (aNil))) (gName 4)) (sExpr (dM tyLst appendM (dVar 2) (aCons (dTup (aCons (dVar 4) (aCons (dCall c "_law_any_kind" (aCons (dVar 0) (aNil))) (aNil)))) (aNil)))))) (sRet (dB tupleB (aCons (dVar 2) (aNil)))))
def b_l_any_part (c : Cl) : TS := sSeq (sAsg (dCall c "_law_draw" (aCons (dVar 0) (aCons (dC (.int 5)) (aNil)))) (gName 2)) (sSeq (sAsg (dCall c "_law_any_name" (aCons (dVar 0) (aNil))) (gName 3)) (sSeq (sAsg (dCall c "_law_any_pairs" (aCons (dVar 0) (aCons (dC (.int 3)) (aNil)))) (gName 4)) (sSeq (sIf (tTru (dCmp eqC (dVar 2) (dC (.int 1)))) (sRet (dTup (aCons (dC (.str "record")) (aCons (dVar 3) (aCons (dVar 4) (aNil)))))) (sNext)) (sSeq (sIf (tTru (dCmp eqC (dVar 2) (dC (.int 3)))) (sSeq (sAsg (dCall c "_law_any_number" (aCons (dVar 0) (aNil))) (gName 5)) (sSeq (sAsg (dTup (aCons (dC (.str "external")) (aCons (dVar 3) (aCons (dVar 4) (aCons (dVar 5) (aCons (dCall c "_law_draw" (aCons (dVar 0) (aCons (dC (.int 2)) (aNil)))) (aNil))))))) (gName 6)) (sSeq (sAsg (dCall c "_law_any_expr" (aCons (dVar 0) (aCons (dVar 1) (aCons (dC (.int 4)) (aNil))))) (gName 7)) (sRet (dOp addK (dVar 6) (dTup (aCons (dVar 7) (aCons (dCall c "_law_any_expr" (aCons (dVar 0) (aCons (dVar 1) (aCons (dC (.int 4)) (aNil))))) (aNil))))))))) (sNext)) (sSeq (sAsg (dCall c "_law_any_kind" (aCons (dVar 0) (aNil))) (gName 8)) (sSeq (sAsg (dCall c "_law_draw" (aCons (dVar 0) (aCons (dC (.int 2)) (aNil)))) (gName 9)) (sSeq (sAsg (dLst (aNil)) (gName 10)) (sSeq (sFor (iSeq (dCall c "_law_any_pairs" (aCons (dVar 0) (aCons (dC (.int 3)) (aNil))))) (gName 11) (sIf (tAnd (tNot (tTru (dIsi .str (dOp ixK (dVar 11) (dC (.int 1)))))) (tTru (dCmp eqC (dCall c "_law_draw" (aCons (dVar 0) (aCons (dC (.int 2)) (aNil)))) (dC (.int 1))))) (sExpr (dM tyLst appendM (dVar 10) (aCons (dOp addK (dVar 11) (dTup (aCons (dCall c "_law_any_number" (aCons (dVar 0) (aNil))) (aNil)))) (aNil)))) (sExpr (dM tyLst appendM (dVar 10) (aCons (dVar 11) (aNil)))))) (sRet (dTup (aCons (dC (.str "function")) (aCons (dVar 3) (aCons (dVar 4) (aCons (dVar 8) (aCons (dVar 9) (aCons (dB tupleB (aCons (dVar 10) (aNil))) (aCons (dCall c "_law_any_body" (aCons (dVar 0) (aCons (dVar 1) (aCons (dC (.int 2)) (aNil))))) (aNil))))))))))))))))))
def b_l_any_program (c : Cl) : TS := sRet (dB tupleB (aCons (dLc (iR1 (dOp addK (dC (.int 1)) (dCall c "_law_draw" (aCons (dVar 0) (aCons (dVar 1) (aNil)))))) (gName 3) (tYes) (dCall c "_law_any_part" (aCons (dVar 0) (aCons (dVar 2) (aNil)))) [3]) (aNil)))
def b_l_wide_program (c : Cl) : TS := sSeq (sAsg (dCall c "_law_draw" (aCons (dVar 0) (aCons (dC (.int 8)) (aNil)))) (gName 2)) (sSeq (sAsg (dOp addK (dC (.int 1)) (dCall c "_law_draw" (aCons (dVar 0) (aCons (dVar 1) (aNil))))) (gName 3)) (sSeq (sAsg (dCall c "_law_any_name" (aCons (dVar 0) (aNil))) (gName 4)) (sSeq (sAsg (dLc (iR1 (dC (.int 3))) (gName 8) (tYes) (dTup (aCons (dCall c "_law_any_name" (aCons (dVar 0) (aNil))) (aCons (dCall c "_law_any_kind" (aCons (dVar 0) (aNil))) (aNil)))) [8]) (gName 5)) (sSeq (sAsg (dB tupleB (aCons (dLc (iR1 (dVar 3)) (gName 8) (tYes) (dOp ixK (dVar 5) (dOp modK (dB intB (aCons (dVar 8) (aNil))) (dC (.int 3)))) [8]) (aNil))) (gName 6)) (sSeq (sIf (tTru (dCmp eqC (dVar 2) (dC (.int 0)))) (sRet (dTup (aCons (dTup (aCons (dC (.str "record")) (aCons (dVar 4) (aCons (dVar 6) (aNil))))) (aNil)))) (sNext)) (sSeq (sIf (tTru (dCmp eqC (dVar 2) (dC (.int 1)))) (sRet (dTup (aCons (dTup (aCons (dC (.str "function")) (aCons (dVar 4) (aCons (dVar 6) (aCons (dC (.int 1)) (aCons (dC (.int 0)) (aCons (dTup (aNil)) (aCons (dTup (aNil)) (aNil))))))))) (aNil)))) (sNext)) (sSeq (sIf (tTru (dCmp eqC (dVar 2) (dC (.int 2)))) (sRet (dTup (aCons (dTup (aCons (dC (.str "function")) (aCons (dVar 4) (aCons (dTup (aNil)) (aCons (dC (.int 1)) (aCons (dC (.int 1)) (aCons (dVar 6) (aCons (dTup (aNil)) (aNil))))))))) (aNil)))) (sNext)) (sSeq (sIf (tTru (dCmp eqC (dVar 2) (dC (.int 3)))) (sRet (dTup (aCons (dTup (aCons (dC (.str "function")) (aCons (dVar 4) (aCons (dTup (aNil)) (aCons (dC (.int 1)) (aCons (dC (.int 0)) (aCons (dB tupleB (aCons (dLc (iSeq (dVar 6)) (gName 9) (tYes) (dTup (aCons (dOp ixK (dVar 9) (dC (.int 0))) (aCons (dC (.int 3)) (aCons (dC (.int 2)) (aNil))))) [9]) (aNil))) (aCons (dTup (aNil)) (aNil))))))))) (aNil)))) (sNext)) (sSeq (sIf (tTru (dCmp eqC (dVar 2) (dC (.int 7)))) (sRet (dB tupleB (aCons (dLc (iSeq (dVar 6)) (gName 9) (tYes) (dTup (aCons (dC (.str "record")) (aCons (dOp ixK (dVar 9) (dC (.int 0))) (aCons (dTup (aNil)) (aNil))))) [9]) (aNil)))) (sNext)) (sSeq (sAsg (dB tupleB (aCons (dLc (iSeq (dVar 6)) (gName 9) (tYes) (dTup (aCons (dC (.str "raise")) (aCons (dOp ixK (dVar 9) (dC (.int 0))) (aNil)))) [9]) (aNil))) (gName 7)) (sSeq (sIf (tTru (dCmp eqC (dVar 2) (dC (.int 4)))) (sAsg (dTup (aCons (dTup (aCons (dC (.str "try")) (aCons (dTup (aNil)) (aCons (dB tupleB (aCons (dLc (iSeq (dVar 6)) (gName 9) (tYes) (dTup (aCons (dOp ixK (dVar 9) (dC (.int 0))) (aCons (dTup (aNil)) (aNil)))) [9]) (aNil))) (aNil))))) (aNil))) (gName 7)) (sNext)) (sSeq (sIf (tTru (dCmp eqC (dVar 2) (dC (.int 5)))) (sAsg (dTup (aCons (dTup (aCons (dC (.str "call")) (aCons (dC .non) (aCons (dVar 4) (aCons (dB tupleB (aCons (dLc (iSeq (dVar 6)) (gName 9) (tYes) (dTup (aCons (dC (.str "name")) (aCons (dOp ixK (dVar 9) (dC (.int 0))) (aNil)))) [9]) (aNil))) (aNil)))))) (aNil))) (gName 7)) (sNext)) (sRet (dTup (aCons (dTup (aCons (dC (.str "function")) (aCons (dVar 4) (aCons (dTup (aNil)) (aCons (dVar 4) (aCons (dC (.int 1)) (aCons (dTup (aNil)) (aCons (dVar 7) (aNil))))))))) (aNil))))))))))))))))
def b_l_deep_program (c : Cl) : TS := sSeq (sAsg (dCall c "_law_draw" (aCons (dVar 0) (aCons (dC (.int 6)) (aNil)))) (gName 1)) (sSeq (sAsg (dCall c "_law_any_name" (aCons (dVar 0) (aNil))) (gName 2)) (sSeq (sAsg (dTup (aCons (dC (.str "name")) (aCons (dVar 2) (aNil)))) (gName 3)) (sSeq (sAsg (dTup (aNil)) (gName 4)) (sSeq (sFor (iR1 (dOp subK (dOp ixK (dLst (aCons (dC (.int 18)) (aCons (dC (.int 18)) (aCons (dC (.int 19)) (aCons (dC (.int 20)) (aCons (dC (.int 40)) (aCons (dC (.int 19)) (aNil)))))))) (dVar 1)) (dCall c "_law_draw" (aCons (dVar 0) (aCons (dC (.int 3)) (aNil)))))) (gName 5) (sIf (tTru (dCmp eqC (dVar 1) (dC (.int 0)))) (sAsg (dTup (aCons (dC (.str "item")) (aCons (dVar 2) (aCons (dVar 3) (aNil))))) (gName 3)) (sIf (tTru (dCmp eqC (dVar 1) (dC (.int 1)))) (sAsg (dTup (aCons (dCall c "_law_pick" (aCons (dVar 0) (aCons (dLst (aCons (dC (.str "div")) (aCons (dC (.str "rem")) (aNil)))) (aNil)))) (aCons (dTup (aCons (dC (.str "null")) (aNil))) (aCons (dVar 3) (aNil))))) (gName 3)) (sIf (tTru (dCmp eqC (dVar 1) (dC (.int 2)))) (sAsg (dTup (aCons (dCall c "_law_pick" (aCons (dVar 0) (aCons (dLst (aCons (dC (.str "-")) (aCons (dC (.str "<<")) (aCons (dC (.str "&")) (aNil))))) (aNil)))) (aCons (dTup (aCons (dC (.str "name")) (aCons (dVar 2) (aNil)))) (aCons (dVar 3) (aNil))))) (gName 3)) (sIf (tTru (dCmp eqC (dVar 1) (dC (.int 3)))) (sAsg (dTup (aCons (dCall c "_law_pick" (aCons (dVar 0) (aCons (dLst (aCons (dC (.str "not")) (aCons (dC (.str "neg")) (aNil)))) (aNil)))) (aCons (dVar 3) (aNil)))) (gName 3)) (sIf (tTru (dCmp eqC (dVar 1) (dC (.int 4)))) (sAsg (dTup (aCons (dC (.str "+")) (aCons (dVar 3) (aCons (dTup (aCons (dC (.str "name")) (aCons (dVar 2) (aNil)))) (aNil))))) (gName 3)) (sAsg (dTup (aCons (dTup (aCons (dC (.str "while")) (aCons (dVar 3) (aCons (dVar 4) (aNil))))) (aNil))) (gName 4)))))))) (sSeq (sIf (tTru (dCmp ltC (dVar 1) (dC (.int 5)))) (sAsg (dTup (aCons (dTup (aCons (dC (.str "call")) (aCons (dC .non) (aCons (dVar 2) (aCons (dTup (aCons (dVar 3) (aNil))) (aNil)))))) (aNil))) (gName 4)) (sNext)) (sRet (dTup (aCons (dTup (aCons (dC (.str "function")) (aCons (dVar 2) (aCons (dTup (aNil)) (aCons (dC (.int 1)) (aCons (dC (.int 0)) (aCons (dTup (aNil)) (aCons (dVar 4) (aNil))))))))) (aNil)))))))))
def b_l_any_world (c : Cl) : TS := sSeq (sIf (tTru (dCmp eqC (dVar 1) (dC (.int 7)))) (sRet (dCall c "_law_wide_program" (aCons (dVar 0) (aCons (dC (.int 240)) (aNil))))) (sNext)) (sSeq (sIf (tTru (dCmp eqC (dVar 1) (dC (.int 9)))) (sRet (dCall c "_law_deep_program" (aCons (dVar 0) (aNil)))) (sNext)) (sRet (dCall c "_law_any_program" (aCons (dVar 0) (aCons (dC (.int 3)) (aCons (dVar 2) (aNil)))))))
def b_l_law (c : Cl) : TS := sSeq (sAsg (dCall c "_law_begin" (aCons (dVar 0) (aNil))) (gName 1)) (sSeq (sAsg (dCall c "_law_any_world" (aCons (dVar 1) (aCons (dCall c "_law_draw" (aCons (dVar 1) (aCons (dC (.int 16)) (aNil)))) (aCons (dLst (aCons (dC (.int 6)) (aCons (dC (.int 16)) (aNil)))) (aNil))))) (gName 2)) (sSeq (sAsg (dCall c "write_program" (aCons (dVar 2) (aNil))) (gName 3)) (sSeq (sIf (tOr (tNot (tTru (dIsi .str (dVar 3)))) (tTru (dCmp neC (dVar 3) (dCall c "_law_write" (aCons (dVar 2) (aNil)))))) (sRet (dC (.bl false))) (sNext)) (sSeq (sFor (iSeq (dSl (dVar 2) (oNone) (oSome (dC (.int 6))))) (gName 4) (sSeq (sAsg (dCall c "text_of" (aCons (dVar 4) (aNil))) (gName 5)) (sIf (tOr (tNot (tTru (dIsi .str (dVar 5)))) (tTru (dCmp neC (dVar 5) (dCall c "_law_text" (aCons (dVar 4) (aNil)))))) (sRet (dC (.bl false))) (sNext)))) (sSeq (sAsg (dB tupleB (aCons (dLRvT (dVar 2)) (aNil))) (gName 6)) (sSeq (sAsg (dCall c "write_program" (aCons (dVar 6) (aNil))) (gName 5)) (sSeq (sIf (tOr (tNot (tTru (dIsi .str (dVar 5)))) (tTru (dCmp neC (dVar 5) (dCall c "_law_write" (aCons (dVar 6) (aNil)))))) (sRet (dC (.bl false))) (sNext)) (sSeq (sAsg (dCall c "write_program" (aCons (dVar 2) (aNil))) (gName 5)) (sRet (dAndT (dIsi .str (dVar 5)) (dCmp eqC (dVar 5) (dVar 3))))))))))))
def prog : String → Option Def
  | "write_program" => some ⟨1, 3, b_p_write_program⟩
  | "text_of" => some ⟨1, 1, b_p_text_of⟩
  | "joined_lines" => some ⟨1, 2, b_p_joined_lines⟩
  | "declaration_tokens" => some ⟨1, 5, b_p_declaration_tokens⟩
  | "parameter_tokens" => some ⟨1, 4, b_p_parameter_tokens⟩
  | "block_tokens" => some ⟨1, 1, b_p_block_tokens⟩
  | "body_tokens" => some ⟨1, 3, b_p_body_tokens⟩
  | "statement_tokens" => some ⟨1, 5, b_p_statement_tokens⟩
  | "call_tokens" => some ⟨1, 2, b_p_call_tokens⟩
  | "listed" => some ⟨1, 3, b_p_listed⟩
  | "level_of" => some ⟨1, 1, b_p_level_of⟩
  | "within" => some ⟨2, 2, b_p_within⟩
  | "expr_tokens" => some ⟨1, 4, b_p_expr_tokens⟩
  | "_law_begin" => some ⟨1, 2, b_l_begin⟩
  | "_law_draw" => some ⟨2, 5, b_l_draw⟩
  | "_law_pick" => some ⟨2, 2, b_l_pick⟩
  | "_law_listed" => some ⟨1, 3, b_l_listed⟩
  | "_law_level" => some ⟨1, 3, b_l_level⟩
  | "_law_inner_tokens" => some ⟨2, 2, b_l_inner_tokens⟩
  | "_law_expr_tokens" => some ⟨1, 3, b_l_expr_tokens⟩
  | "_law_block_tokens" => some ⟨1, 3, b_l_block_tokens⟩
  | "_law_statement_tokens" => some ⟨1, 7, b_l_statement_tokens⟩
  | "_law_params_tokens" => some ⟨1, 3, b_l_params_tokens⟩
  | "_law_part_tokens" => some ⟨1, 3, b_l_part_tokens⟩
  | "_law_lines" => some ⟨1, 3, b_l_lines⟩
  | "_law_text" => some ⟨1, 1, b_l_text⟩
  | "_law_write" => some ⟨1, 2, b_l_write⟩
  | "_law_reserved" => some ⟨0, 1, b_l_reserved⟩
  | "_law_any_name" => some ⟨1, 6, b_l_any_name⟩
  | "_law_any_number" => some ⟨1, 2, b_l_any_number⟩
  | "_law_any_leaf" => some ⟨1, 4, b_l_any_leaf⟩
  | "_law_any_expr" => some ⟨3, 7, b_l_any_expr⟩
  | "_law_any_call" => some ⟨3, 6, b_l_any_call⟩
  | "_law_any_place" => some ⟨2, 4, b_l_any_place⟩
  | "_law_any_plain" => some ⟨3, 8, b_l_any_plain⟩
  | "_law_any_statement" => some ⟨3, 6, b_l_any_statement⟩
  | "_law_any_try" => some ⟨3, 7, b_l_any_try⟩
  | "_law_any_body" => some ⟨3, 5, b_l_any_body⟩
  | "_law_any_kind" => some ⟨1, 1, b_l_any_kind⟩
  | "_law_any_pairs" => some ⟨2, 5, b_l_any_pairs⟩
  | "_law_any_part" => some ⟨2, 12, b_l_any_part⟩
  | "_law_any_program" => some ⟨3, 4, b_l_any_program⟩
  | "_law_wide_program" => some ⟨2, 10, b_l_wide_program⟩
  | "_law_deep_program" => some ⟨1, 6, b_l_deep_program⟩
  | "_law_any_world" => some ⟨3, 3, b_l_any_world⟩
  | "law" => some ⟨1, 7, b_l_law⟩
  | _ => none
end Pk06
end PartPdk06B

section PartPdk06L
set_option Elab.async false
set_option linter.all false
set_option maxRecDepth 100000
set_option maxHeartbeats 4000000
namespace Pk06
open PySem PySem.Spec Pd
open PyProof.Rows (envOfC)
def topS (i : Nat) : Stmt := PySem.Challenge.pw_metorshut_k06_programs_written.main.body.getD i (.Pass ⟨0, 0, 0, 0⟩)
abbrev names : List String := ["write_program", "text_of", "joined_lines", "declaration_tokens", "parameter_tokens", "block_tokens", "body_tokens", "statement_tokens", "call_tokens", "listed", "level_of", "within", "expr_tokens", "_law_begin", "_law_draw", "_law_pick", "_law_listed", "_law_level", "_law_inner_tokens", "_law_expr_tokens", "_law_block_tokens", "_law_statement_tokens", "_law_params_tokens", "_law_part_tokens", "_law_lines", "_law_text", "_law_write", "_law_reserved", "_law_any_name", "_law_any_number", "_law_any_leaf", "_law_any_expr", "_law_any_call", "_law_any_place", "_law_any_plain", "_law_any_statement", "_law_any_try", "_law_any_body", "_law_any_kind", "_law_any_pairs", "_law_any_part", "_law_any_program", "_law_wide_program", "_law_deep_program", "_law_any_world", "law"]
abbrev snames : List (String × Nat) := []
abbrev blts : List String := ["abs", "int", "isinstance", "len", "list", "range", "reversed", "str", "tuple"]
abbrev sp_write_program : Stmt := topS 2
abbrev np_write_program : List Str := ["program", "tokens", "part"]
theorem scp_write_program : L2.FnScope np_write_program ["program"] (L2.defScope sp_write_program) := ⟨rfl, rfl, rfl, by decide +kernel, rfl, by decide +kernel, by decide +kernel⟩
abbrev sp_text_of : Stmt := topS 3
abbrev np_text_of : List Str := ["declaration"]
theorem scp_text_of : L2.FnScope np_text_of ["declaration"] (L2.defScope sp_text_of) := ⟨rfl, rfl, rfl, by decide +kernel, rfl, by decide +kernel, by decide +kernel⟩
abbrev sp_joined_lines : Stmt := topS 4
abbrev np_joined_lines : List Str := ["tokens", "token"]
theorem scp_joined_lines : L2.FnScope np_joined_lines ["tokens"] (L2.defScope sp_joined_lines) := ⟨rfl, rfl, rfl, by decide +kernel, rfl, by decide +kernel, by decide +kernel⟩
abbrev sp_declaration_tokens : Stmt := topS 5
abbrev np_declaration_tokens : List Str := ["part", "found", "name", "kind", "row"]
theorem scp_declaration_tokens : L2.FnScope np_declaration_tokens ["part"] (L2.defScope sp_declaration_tokens) := ⟨rfl, rfl, rfl, by decide +kernel, rfl, by decide +kernel, by decide +kernel⟩
abbrev sp_parameter_tokens : Stmt := topS 6
abbrev np_parameter_tokens : List Str := ["parameters", "found", "name", "kind"]
theorem scp_parameter_tokens : L2.FnScope np_parameter_tokens ["parameters"] (L2.defScope sp_parameter_tokens) := ⟨rfl, rfl, rfl, by decide +kernel, rfl, by decide +kernel, by decide +kernel⟩
abbrev sp_block_tokens : Stmt := topS 7
abbrev np_block_tokens : List Str := ["body"]
theorem scp_block_tokens : L2.FnScope np_block_tokens ["body"] (L2.defScope sp_block_tokens) := ⟨rfl, rfl, rfl, by decide +kernel, rfl, by decide +kernel, by decide +kernel⟩
abbrev sp_body_tokens : Stmt := topS 8
abbrev np_body_tokens : List Str := ["body", "found", "statement"]
theorem scp_body_tokens : L2.FnScope np_body_tokens ["body"] (L2.defScope sp_body_tokens) := ⟨rfl, rfl, rfl, by decide +kernel, rfl, by decide +kernel, by decide +kernel⟩
abbrev sp_statement_tokens : Stmt := topS 9
abbrev np_statement_tokens : List Str := ["statement", "word", "found", "name", "body"]
theorem scp_statement_tokens : L2.FnScope np_statement_tokens ["statement"] (L2.defScope sp_statement_tokens) := ⟨rfl, rfl, rfl, by decide +kernel, rfl, by decide +kernel, by decide +kernel⟩
abbrev sp_call_tokens : Stmt := topS 10
abbrev np_call_tokens : List Str := ["statement", "found"]
theorem scp_call_tokens : L2.FnScope np_call_tokens ["statement"] (L2.defScope sp_call_tokens) := ⟨rfl, rfl, rfl, by decide +kernel, rfl, by decide +kernel, by decide +kernel⟩
abbrev sp_listed : Stmt := topS 11
abbrev np_listed : List Str := ["exprs", "found", "expr"]
theorem scp_listed : L2.FnScope np_listed ["exprs"] (L2.defScope sp_listed) := ⟨rfl, rfl, rfl, by decide +kernel, rfl, by decide +kernel, by decide +kernel⟩
abbrev sp_level_of : Stmt := topS 12
abbrev np_level_of : List Str := ["expr"]
theorem scp_level_of : L2.FnScope np_level_of ["expr"] (L2.defScope sp_level_of) := ⟨rfl, rfl, rfl, by decide +kernel, rfl, by decide +kernel, by decide +kernel⟩
abbrev sp_within : Stmt := topS 13
abbrev np_within : List Str := ["expr", "level"]
theorem scp_within : L2.FnScope np_within ["expr", "level"] (L2.defScope sp_within) := ⟨rfl, rfl, rfl, by decide +kernel, rfl, by decide +kernel, by decide +kernel⟩
abbrev sp_expr_tokens : Stmt := topS 14
abbrev np_expr_tokens : List Str := ["expr", "word", "level", "left"]
theorem scp_expr_tokens : L2.FnScope np_expr_tokens ["expr"] (L2.defScope sp_expr_tokens) := ⟨rfl, rfl, rfl, by decide +kernel, rfl, by decide +kernel, by decide +kernel⟩
abbrev sl_begin : Stmt := topS 16
abbrev nl_begin : List Str := ["_law_script", "_law_cell"]
theorem scl_begin : L2.FnScope nl_begin ["_law_script"] (L2.defScope sl_begin) := ⟨rfl, rfl, rfl, by decide +kernel, rfl, by decide +kernel, by decide +kernel⟩
abbrev sl_draw : Stmt := topS 17
abbrev nl_draw : List Str := ["_law_d", "_law_many", "_law_found", "_law_size", "_law_cell"]
theorem scl_draw : L2.FnScope nl_draw ["_law_d", "_law_many"] (L2.defScope sl_draw) := ⟨rfl, rfl, rfl, by decide +kernel, rfl, by decide +kernel, by decide +kernel⟩
abbrev sl_pick : Stmt := topS 18
abbrev nl_pick : List Str := ["_law_d", "_law_row"]
theorem scl_pick : L2.FnScope nl_pick ["_law_d", "_law_row"] (L2.defScope sl_pick) := ⟨rfl, rfl, rfl, by decide +kernel, rfl, by decide +kernel, by decide +kernel⟩
abbrev sl_listed : Stmt := topS 19
abbrev nl_listed : List Str := ["_law_exprs", "_law_found", "_law_expr"]
theorem scl_listed : L2.FnScope nl_listed ["_law_exprs"] (L2.defScope sl_listed) := ⟨rfl, rfl, rfl, by decide +kernel, rfl, by decide +kernel, by decide +kernel⟩
abbrev sl_level : Stmt := topS 20
abbrev nl_level : List Str := ["_law_expr", "_law_rows", "_law_k"]
theorem scl_level : L2.FnScope nl_level ["_law_expr"] (L2.defScope sl_level) := ⟨rfl, rfl, rfl, by decide +kernel, rfl, by decide +kernel, by decide +kernel⟩
abbrev sl_inner_tokens : Stmt := topS 21
abbrev nl_inner_tokens : List Str := ["_law_expr", "_law_level_here"]
theorem scl_inner_tokens : L2.FnScope nl_inner_tokens ["_law_expr", "_law_level_here"] (L2.defScope sl_inner_tokens) := ⟨rfl, rfl, rfl, by decide +kernel, rfl, by decide +kernel, by decide +kernel⟩
abbrev sl_expr_tokens : Stmt := topS 22
abbrev nl_expr_tokens : List Str := ["_law_expr", "_law_word", "_law_level_here"]
theorem scl_expr_tokens : L2.FnScope nl_expr_tokens ["_law_expr"] (L2.defScope sl_expr_tokens) := ⟨rfl, rfl, rfl, by decide +kernel, rfl, by decide +kernel, by decide +kernel⟩
abbrev sl_block_tokens : Stmt := topS 23
abbrev nl_block_tokens : List Str := ["_law_body", "_law_found", "_law_statement"]
theorem scl_block_tokens : L2.FnScope nl_block_tokens ["_law_body"] (L2.defScope sl_block_tokens) := ⟨rfl, rfl, rfl, by decide +kernel, rfl, by decide +kernel, by decide +kernel⟩
abbrev sl_statement_tokens : Stmt := topS 24
abbrev nl_statement_tokens : List Str := ["_law_row", "_law_word", "_law_target", "_law_other", "_law_found", "_law_name", "_law_body"]
theorem scl_statement_tokens : L2.FnScope nl_statement_tokens ["_law_row"] (L2.defScope sl_statement_tokens) := ⟨rfl, rfl, rfl, by decide +kernel, rfl, by decide +kernel, by decide +kernel⟩
abbrev sl_params_tokens : Stmt := topS 25
abbrev nl_params_tokens : List Str := ["_law_rows", "_law_found", "_law_row"]
theorem scl_params_tokens : L2.FnScope nl_params_tokens ["_law_rows"] (L2.defScope sl_params_tokens) := ⟨rfl, rfl, rfl, by decide +kernel, rfl, by decide +kernel, by decide +kernel⟩
abbrev sl_part_tokens : Stmt := topS 26
abbrev nl_part_tokens : List Str := ["_law_part", "_law_found", "_law_row"]
theorem scl_part_tokens : L2.FnScope nl_part_tokens ["_law_part"] (L2.defScope sl_part_tokens) := ⟨rfl, rfl, rfl, by decide +kernel, rfl, by decide +kernel, by decide +kernel⟩
abbrev sl_lines : Stmt := topS 27
abbrev nl_lines : List Str := ["_law_tokens", "_law_found", "_law_token"]
theorem scl_lines : L2.FnScope nl_lines ["_law_tokens"] (L2.defScope sl_lines) := ⟨rfl, rfl, rfl, by decide +kernel, rfl, by decide +kernel, by decide +kernel⟩
abbrev sl_text : Stmt := topS 28
abbrev nl_text : List Str := ["_law_part"]
theorem scl_text : L2.FnScope nl_text ["_law_part"] (L2.defScope sl_text) := ⟨rfl, rfl, rfl, by decide +kernel, rfl, by decide +kernel, by decide +kernel⟩
abbrev sl_write : Stmt := topS 29
abbrev nl_write : List Str := ["_law_program", "_law_part"]
theorem scl_write : L2.FnScope nl_write ["_law_program"] (L2.defScope sl_write) := ⟨rfl, rfl, rfl, by decide +kernel, rfl, by decide +kernel, by decide +kernel⟩
abbrev sl_reserved : Stmt := topS 30
abbrev nl_reserved : List Str := ["_law_text_here"]
theorem scl_reserved : L2.FnScope nl_reserved [] (L2.defScope sl_reserved) := ⟨rfl, rfl, rfl, by decide +kernel, rfl, by decide +kernel, by decide +kernel⟩
abbrev sl_any_name : Stmt := topS 31
abbrev nl_any_name : List Str := ["_law_d", "_law_letters", "_law_signs", "_law_shape", "_law_found", "_law_k"]
theorem scl_any_name : L2.FnScope nl_any_name ["_law_d"] (L2.defScope sl_any_name) := ⟨rfl, rfl, rfl, by decide +kernel, rfl, by decide +kernel, by decide +kernel⟩
abbrev sl_any_number : Stmt := topS 32
abbrev nl_any_number : List Str := ["_law_d", "_law_shape"]
theorem scl_any_number : L2.FnScope nl_any_number ["_law_d"] (L2.defScope sl_any_number) := ⟨rfl, rfl, rfl, by decide +kernel, rfl, by decide +kernel, by decide +kernel⟩
abbrev sl_any_leaf : Stmt := topS 33
abbrev nl_any_leaf : List Str := ["_law_d", "_law_way", "_law_value", "_law_name"]
theorem scl_any_leaf : L2.FnScope nl_any_leaf ["_law_d"] (L2.defScope sl_any_leaf) := ⟨rfl, rfl, rfl, by decide +kernel, rfl, by decide +kernel, by decide +kernel⟩
abbrev sl_any_expr : Stmt := topS 34
abbrev nl_any_expr : List Str := ["_law_d", "_law_left", "_law_deep", "_law_way", "_law_name", "_law_op", "_law_first"]
theorem scl_any_expr : L2.FnScope nl_any_expr ["_law_d", "_law_left", "_law_deep"] (L2.defScope sl_any_expr) := ⟨rfl, rfl, rfl, by decide +kernel, rfl, by decide +kernel, by decide +kernel⟩
abbrev sl_any_call : Stmt := topS 35
abbrev nl_any_call : List Str := ["_law_d", "_law_left", "_law_deep", "_law_word", "_law_found", "_law_k"]
theorem scl_any_call : L2.FnScope nl_any_call ["_law_d", "_law_left", "_law_deep"] (L2.defScope sl_any_call) := ⟨rfl, rfl, rfl, by decide +kernel, rfl, by decide +kernel, by decide +kernel⟩
abbrev sl_any_place : Stmt := topS 36
abbrev nl_any_place : List Str := ["_law_d", "_law_left", "_law_way", "_law_name"]
theorem scl_any_place : L2.FnScope nl_any_place ["_law_d", "_law_left"] (L2.defScope sl_any_place) := ⟨rfl, rfl, rfl, by decide +kernel, rfl, by decide +kernel, by decide +kernel⟩
abbrev sl_any_plain : Stmt := topS 37
abbrev nl_any_plain : List Str := ["_law_d", "_law_left", "_law_way", "_law_place", "_law_target", "_law_name", "_law_word", "_law_k"]
theorem scl_any_plain : L2.FnScope nl_any_plain ["_law_d", "_law_left", "_law_way"] (L2.defScope sl_any_plain) := ⟨rfl, rfl, rfl, by decide +kernel, rfl, by decide +kernel, by decide +kernel⟩
abbrev sl_any_statement : Stmt := topS 38
abbrev nl_any_statement : List Str := ["_law_d", "_law_left", "_law_deep", "_law_way", "_law_test", "_law_first"]
theorem scl_any_statement : L2.FnScope nl_any_statement ["_law_d", "_law_left", "_law_deep"] (L2.defScope sl_any_statement) := ⟨rfl, rfl, rfl, by decide +kernel, rfl, by decide +kernel, by decide +kernel⟩
abbrev sl_any_try : Stmt := topS 39
abbrev nl_any_try : List Str := ["_law_d", "_law_left", "_law_deep", "_law_first", "_law_catches", "_law_k", "_law_name"]
theorem scl_any_try : L2.FnScope nl_any_try ["_law_d", "_law_left", "_law_deep"] (L2.defScope sl_any_try) := ⟨rfl, rfl, rfl, by decide +kernel, rfl, by decide +kernel, by decide +kernel⟩
abbrev sl_any_body : Stmt := topS 40
abbrev nl_any_body : List Str := ["_law_d", "_law_left", "_law_deep", "_law_found", "_law_k"]
theorem scl_any_body : L2.FnScope nl_any_body ["_law_d", "_law_left", "_law_deep"] (L2.defScope sl_any_body) := ⟨rfl, rfl, rfl, by decide +kernel, rfl, by decide +kernel, by decide +kernel⟩
abbrev sl_any_kind : Stmt := topS 41
abbrev nl_any_kind : List Str := ["_law_d"]
theorem scl_any_kind : L2.FnScope nl_any_kind ["_law_d"] (L2.defScope sl_any_kind) := ⟨rfl, rfl, rfl, by decide +kernel, rfl, by decide +kernel, by decide +kernel⟩
abbrev sl_any_pairs : Stmt := topS 42
abbrev nl_any_pairs : List Str := ["_law_d", "_law_most", "_law_found", "_law_k", "_law_name"]
theorem scl_any_pairs : L2.FnScope nl_any_pairs ["_law_d", "_law_most"] (L2.defScope sl_any_pairs) := ⟨rfl, rfl, rfl, by decide +kernel, rfl, by decide +kernel, by decide +kernel⟩
abbrev sl_any_part : Stmt := topS 43
abbrev nl_any_part : List Str := ["_law_d", "_law_left", "_law_way", "_law_name", "_law_pairs", "_law_width", "_law_head", "_law_needs", "_law_gives", "_law_entry", "_law_rows", "_law_row"]
theorem scl_any_part : L2.FnScope nl_any_part ["_law_d", "_law_left"] (L2.defScope sl_any_part) := ⟨rfl, rfl, rfl, by decide +kernel, rfl, by decide +kernel, by decide +kernel⟩
abbrev sl_any_program : Stmt := topS 44
abbrev nl_any_program : List Str := ["_law_d", "_law_many", "_law_left", "_law_k"]
theorem scl_any_program : L2.FnScope nl_any_program ["_law_d", "_law_many", "_law_left"] (L2.defScope sl_any_program) := ⟨rfl, rfl, rfl, by decide +kernel, rfl, by decide +kernel, by decide +kernel⟩
abbrev sl_wide_program : Stmt := topS 45
abbrev nl_wide_program : List Str := ["_law_d", "_law_most", "_law_way", "_law_many", "_law_name", "_law_some", "_law_rows", "_law_body", "_law_k", "_law_row"]
theorem scl_wide_program : L2.FnScope nl_wide_program ["_law_d", "_law_most"] (L2.defScope sl_wide_program) := ⟨rfl, rfl, rfl, by decide +kernel, rfl, by decide +kernel, by decide +kernel⟩
abbrev sl_deep_program : Stmt := topS 46
abbrev nl_deep_program : List Str := ["_law_d", "_law_way", "_law_name", "_law_expr", "_law_body", "_law_k"]
theorem scl_deep_program : L2.FnScope nl_deep_program ["_law_d"] (L2.defScope sl_deep_program) := ⟨rfl, rfl, rfl, by decide +kernel, rfl, by decide +kernel, by decide +kernel⟩
abbrev sl_any_world : Stmt := topS 47
abbrev nl_any_world : List Str := ["_law_d", "_law_way", "_law_left"]
theorem scl_any_world : L2.FnScope nl_any_world ["_law_d", "_law_way", "_law_left"] (L2.defScope sl_any_world) := ⟨rfl, rfl, rfl, by decide +kernel, rfl, by decide +kernel, by decide +kernel⟩
abbrev sl_law : Stmt := topS 48
abbrev nl_law : List Str := ["_law_script", "_law_d", "_law_parts", "_law_text_here", "_law_part", "_law_told", "_law_other"]
theorem scl_law : L2.FnScope nl_law ["_law_script"] (L2.defScope sl_law) := ⟨rfl, rfl, rfl, by decide +kernel, rfl, by decide +kernel, by decide +kernel⟩
section
variable {P : Program} {w : World} {K : PySem.W.Frag} {mg : Str → Option Value} {base : Heap}
theorem der_p_write_program {k : Nat} {c : Cl} (ok : ∀ y ∈ names, Own P w K mg base k (Str.ofString y) (c y)) (oks : ∀ q ∈ snames, OwnS P w K mg base k q.2 (Str.ofString q.1) (c q.1)) (zs : ∀ y ∈ blts, mg (Str.ofString y) = none) (cs_LEVELS : GlobDic K w mg "LEVELS" k_LEVELS) {fa : Addr} (cdv : Value) (A : Around) (outer : List PySem.Env) (s : Shared) (H : L2.Hp) (E : L2.XK) (hr : L2.Room k (A.deeper (envOfC "write_program" (L2.defScope sp_write_program) s.heap.objs.size fa cdv))) :
    PDSs (L2.cxOf L2.CX0 P w K mg base np_write_program "write_program" (L2.defScope sp_write_program) fa cdv A outer s H E).nox (L2.defBody sp_write_program) (b_p_write_program c) := by
  have nd := scp_write_program.nd
  unfold b_p_write_program
  exact pss_cons (ps_set (i := 1) nd rfl (by first | exact .inl rfl | exact .inr rfl) (pd_lst (pa_nil))) (pss_cons (ps_for PassesOwn.never rfl (pi_seq (pd_var (i := 0) rfl)) (pg_name (i := 2) nd rfl (by first | exact .inl rfl | exact .inr rfl)) (pss_one (ps_expr (pd_m mt_extendA real_extendA ty_list PySem.F.plainAttrs_list PySem.F.slot_list_extend PySem.F.type_list_extend (pd_var (i := 1) rfl) (pa_cons (pd_call (y := "declaration_tokens") (ok "declaration_tokens" (by decide)) hr rfl (pa_cons (pd_var (i := 2) rfl) (pa_nil))) (pa_nil)))))) (pss_one (ps_ret (pd_call (y := "joined_lines") (ok "joined_lines" (by decide)) hr rfl (pa_cons (pd_var (i := 1) rfl) (pa_nil))))))
theorem der_p_text_of {k : Nat} {c : Cl} (ok : ∀ y ∈ names, Own P w K mg base k (Str.ofString y) (c y)) (oks : ∀ q ∈ snames, OwnS P w K mg base k q.2 (Str.ofString q.1) (c q.1)) (zs : ∀ y ∈ blts, mg (Str.ofString y) = none) (cs_LEVELS : GlobDic K w mg "LEVELS" k_LEVELS) {fa : Addr} (cdv : Value) (A : Around) (outer : List PySem.Env) (s : Shared) (H : L2.Hp) (E : L2.XK) (hr : L2.Room k (A.deeper (envOfC "text_of" (L2.defScope sp_text_of) s.heap.objs.size fa cdv))) :
    PDSs (L2.cxOf L2.CX0 P w K mg base np_text_of "text_of" (L2.defScope sp_text_of) fa cdv A outer s H E).nox (L2.defBody sp_text_of) (b_p_text_of c) := by
  have nd := scp_text_of.nd
  unfold b_p_text_of
  exact pss_one (ps_ret (pd_call (y := "joined_lines") (ok "joined_lines" (by decide)) hr rfl (pa_cons (pd_call (y := "declaration_tokens") (ok "declaration_tokens" (by decide)) hr rfl (pa_cons (pd_var (i := 0) rfl) (pa_nil))) (pa_nil))))
theorem der_p_joined_lines {k : Nat} {c : Cl} (ok : ∀ y ∈ names, Own P w K mg base k (Str.ofString y) (c y)) (oks : ∀ q ∈ snames, OwnS P w K mg base k q.2 (Str.ofString q.1) (c q.1)) (zs : ∀ y ∈ blts, mg (Str.ofString y) = none) (cs_LEVELS : GlobDic K w mg "LEVELS" k_LEVELS) {fa : Addr} (cdv : Value) (A : Around) (outer : List PySem.Env) (s : Shared) (H : L2.Hp) (E : L2.XK) (hr : L2.Room k (A.deeper (envOfC "joined_lines" (L2.defScope sp_joined_lines) s.heap.objs.size fa cdv))) :
    PDSs (L2.cxOf L2.CX0 P w K mg base np_joined_lines "joined_lines" (L2.defScope sp_joined_lines) fa cdv A outer s H E).nox (L2.defBody sp_joined_lines) (b_p_joined_lines c) := by
  have nd := scp_joined_lines.nd
  unfold b_p_joined_lines
  exact pss_one (ps_ret (pd_m L2.mt_join real_join ty_str PySem.F.plainAttrs_str PySem.F.slot_str_join PySem.F.type_str_join (pd_str) (pa_cons (pd_lc (own := [("token", 1)]) rfl nd (pi_seq (pd_var (i := 0) rfl)) (L2.blkOk_by (N := np_joined_lines) (sc := L2.defScope sp_joined_lines) (by decide +kernel)) (fun _ _ _ _ _ => pg_name (i := 1) nd rfl (by first | exact .inl rfl | exact .inr rfl)) (fun _ _ _ _ _ => pts_nil) (fun _ _ _ _ _ => pd_add (pd_var (i := 1) rfl) (pd_if (pt_cmp L2.op_in_seq (real_in false) (by rfl) (pd_var (i := 1) rfl) (pd_tup (pa_cons (pd_str) (pa_cons (pd_str) (pa_cons (pd_str) (pa_nil)))))) (pd_str) (pd_str))) (by decide)) (pa_nil))))
theorem der_p_declaration_tokens {k : Nat} {c : Cl} (ok : ∀ y ∈ names, Own P w K mg base k (Str.ofString y) (c y)) (oks : ∀ q ∈ snames, OwnS P w K mg base k q.2 (Str.ofString q.1) (c q.1)) (zs : ∀ y ∈ blts, mg (Str.ofString y) = none) (cs_LEVELS : GlobDic K w mg "LEVELS" k_LEVELS) {fa : Addr} (cdv : Value) (A : Around) (outer : List PySem.Env) (s : Shared) (H : L2.Hp) (E : L2.XK) (hr : L2.Room k (A.deeper (envOfC "declaration_tokens" (L2.defScope sp_declaration_tokens) s.heap.objs.size fa cdv))) :
    PDSs (L2.cxOf L2.CX0 P w K mg base np_declaration_tokens "declaration_tokens" (L2.defScope sp_declaration_tokens) fa cdv A outer s H E).nox (L2.defBody sp_declaration_tokens) (b_p_declaration_tokens c) := by
  have nd := scp_declaration_tokens.nd
  unfold b_p_declaration_tokens
  exact pss_cons (ps_if (pt_cmp (L2.op_eqD hr.units) real_eq (by rfl) (pd_ix (fun _ _ => rfl) (pd_var (i := 0) rfl) (pd_int)) (pd_str)) (pss_cons (ps_set (i := 1) nd rfl (by first | exact .inl rfl | exact .inr rfl) (pd_lst (pa_cons (pd_str) (pa_cons (pd_ix (fun _ _ => rfl) (pd_var (i := 0) rfl) (pd_int)) (pa_cons (pd_str) (pa_nil)))))) (pss_cons (ps_for PassesOwn.never rfl (pi_seq (pd_ix (fun _ _ => rfl) (pd_var (i := 0) rfl) (pd_int))) (pg_tup rfl (pgs_cons (pg_name (i := 2) nd rfl (by first | exact .inl rfl | exact .inr rfl)) (pgs_cons (pg_name (i := 3) nd rfl (by first | exact .inl rfl | exact .inr rfl)) (pgs_nil)))) (pss_one (ps_expr (pd_m mt_extendA real_extendA ty_list PySem.F.plainAttrs_list PySem.F.slot_list_extend PySem.F.type_list_extend (pd_var (i := 1) rfl) (pa_cons (pd_lst (pa_cons (pd_var (i := 2) rfl) (pa_cons (pd_str) (pa_cons (pd_callTy call_strX real_strX rfl (zs "str" (by decide)) bt_str (pa_cons (pd_var (i := 3) rfl) (pa_nil))) (pa_cons (pd_str) (pa_nil)))))) (pa_nil)))))) (pss_one (ps_ret (pd_add (pd_var (i := 1) rfl) (pd_lst (pa_cons (pd_str) (pa_nil)))))))) (pss_nil)) (pss_cons (ps_if (pt_cmp (L2.op_eqD hr.units) real_eq (by rfl) (pd_ix (fun _ _ => rfl) (pd_var (i := 0) rfl) (pd_int)) (pd_str)) (pss_cons (ps_set (i := 1) nd rfl (by first | exact .inl rfl | exact .inr rfl) (pd_add (pd_add (pd_lst (pa_cons (pd_str) (pa_cons (pd_ix (fun _ _ => rfl) (pd_var (i := 0) rfl) (pd_int)) (pa_nil)))) (pd_call (y := "parameter_tokens") (ok "parameter_tokens" (by decide)) hr rfl (pa_cons (pd_ix (fun _ _ => rfl) (pd_var (i := 0) rfl) (pd_int)) (pa_nil)))) (pd_lst (pa_cons (pd_str) (pa_cons (pd_callTy call_strX real_strX rfl (zs "str" (by decide)) bt_str (pa_cons (pd_ix (fun _ _ => rfl) (pd_var (i := 0) rfl) (pd_int)) (pa_nil))) (pa_nil)))))) (pss_cons (ps_if (pt_cmp (L2.op_eqD hr.units) real_eq (by rfl) (pd_ix (fun _ _ => rfl) (pd_var (i := 0) rfl) (pd_int)) (pd_int)) (pss_one (ps_expr (pd_m L2.mt_append real_append ty_list PySem.F.plainAttrs_list PySem.F.slot_list_append PySem.F.type_list_append (pd_var (i := 1) rfl) (pa_cons (pd_str) (pa_nil))))) (pss_nil)) (pss_one (ps_ret (pd_add (pd_add (pd_add (pd_add (pd_add (pd_var (i := 1) rfl) (pd_lst (pa_cons (pd_str) (pa_nil)))) (pd_call (y := "expr_tokens") (ok "expr_tokens" (by decide)) hr rfl (pa_cons (pd_ix (fun _ _ => rfl) (pd_var (i := 0) rfl) (pd_int)) (pa_nil)))) (pd_lst (pa_cons (pd_str) (pa_nil)))) (pd_call (y := "expr_tokens") (ok "expr_tokens" (by decide)) hr rfl (pa_cons (pd_ix (fun _ _ => rfl) (pd_var (i := 0) rfl) (pd_int)) (pa_nil)))) (pd_lst (pa_cons (pd_str) (pa_nil)))))))) (pss_nil)) (pss_cons (ps_set (i := 1) nd rfl (by first | exact .inl rfl | exact .inr rfl) (pd_if (pt_cmp (L2.op_eqD hr.units) real_eq (by rfl) (pd_ix (fun _ _ => rfl) (pd_var (i := 0) rfl) (pd_int)) (pd_int)) (pd_lst (pa_cons (pd_str) (pa_nil))) (pd_lst (pa_nil)))) (pss_cons (ps_expr (pd_m mt_extendA real_extendA ty_list PySem.F.plainAttrs_list PySem.F.slot_list_extend PySem.F.type_list_extend (pd_var (i := 1) rfl) (pa_cons (pd_add (pd_add (pd_lst (pa_cons (pd_str) (pa_cons (pd_ix (fun _ _ => rfl) (pd_var (i := 0) rfl) (pd_int)) (pa_nil)))) (pd_call (y := "parameter_tokens") (ok "parameter_tokens" (by decide)) hr rfl (pa_cons (pd_ix (fun _ _ => rfl) (pd_var (i := 0) rfl) (pd_int)) (pa_nil)))) (pd_lst (pa_cons (pd_str) (pa_cons (pd_callTy call_strX real_strX rfl (zs "str" (by decide)) bt_str (pa_cons (pd_ix (fun _ _ => rfl) (pd_var (i := 0) rfl) (pd_int)) (pa_nil))) (pa_cons (pd_str) (pa_nil)))))) (pa_nil)))) (pss_cons (ps_for PassesOwn.never rfl (pi_seq (pd_ix (fun _ _ => rfl) (pd_var (i := 0) rfl) (pd_int))) (pg_name (i := 4) nd rfl (by first | exact .inl rfl | exact .inr rfl)) (pss_cons (ps_expr (pd_m mt_extendA real_extendA ty_list PySem.F.plainAttrs_list PySem.F.slot_list_extend PySem.F.type_list_extend (pd_var (i := 1) rfl) (pa_cons (pd_lst (pa_cons (pd_str) (pa_cons (pd_ix (fun _ _ => rfl) (pd_var (i := 4) rfl) (pd_int)) (pa_cons (pd_str) (pa_cons (pd_callTy call_strX real_strX rfl (zs "str" (by decide)) bt_str (pa_cons (pd_ix (fun _ _ => rfl) (pd_var (i := 4) rfl) (pd_int)) (pa_nil))) (pa_nil)))))) (pa_nil)))) (pss_cons (ps_if (pt_cmp (L2.op_eqD hr.units) real_eq (by rfl) (pd_callB L2.call_len real_lenB rfl (zs "len" (by decide)) bt_len (pa_cons (pd_var (i := 4) rfl) (pa_nil))) (pd_int)) (pss_one (ps_expr (pd_m mt_extendA real_extendA ty_list PySem.F.plainAttrs_list PySem.F.slot_list_extend PySem.F.type_list_extend (pd_var (i := 1) rfl) (pa_cons (pd_lst (pa_cons (pd_str) (pa_cons (pd_callTy call_strX real_strX rfl (zs "str" (by decide)) bt_str (pa_cons (pd_ix (fun _ _ => rfl) (pd_var (i := 4) rfl) (pd_int)) (pa_nil))) (pa_cons (pd_str) (pa_nil))))) (pa_nil))))) (pss_nil)) (pss_one (ps_expr (pd_m L2.mt_append real_append ty_list PySem.F.plainAttrs_list PySem.F.slot_list_append PySem.F.type_list_append (pd_var (i := 1) rfl) (pa_cons (pd_str) (pa_nil)))))))) (pss_one (ps_ret (pd_add (pd_add (pd_var (i := 1) rfl) (pd_call (y := "body_tokens") (ok "body_tokens" (by decide)) hr rfl (pa_cons (pd_ix (fun _ _ => rfl) (pd_var (i := 0) rfl) (pd_int)) (pa_nil)))) (pd_lst (pa_cons (pd_str) (pa_nil))))))))))
theorem der_p_parameter_tokens {k : Nat} {c : Cl} (ok : ∀ y ∈ names, Own P w K mg base k (Str.ofString y) (c y)) (oks : ∀ q ∈ snames, OwnS P w K mg base k q.2 (Str.ofString q.1) (c q.1)) (zs : ∀ y ∈ blts, mg (Str.ofString y) = none) (cs_LEVELS : GlobDic K w mg "LEVELS" k_LEVELS) {fa : Addr} (cdv : Value) (A : Around) (outer : List PySem.Env) (s : Shared) (H : L2.Hp) (E : L2.XK) (hr : L2.Room k (A.deeper (envOfC "parameter_tokens" (L2.defScope sp_parameter_tokens) s.heap.objs.size fa cdv))) :
    PDSs (L2.cxOf L2.CX0 P w K mg base np_parameter_tokens "parameter_tokens" (L2.defScope sp_parameter_tokens) fa cdv A outer s H E).nox (L2.defBody sp_parameter_tokens) (b_p_parameter_tokens c) := by
  have nd := scp_parameter_tokens.nd
  unfold b_p_parameter_tokens
  exact pss_cons (ps_set (i := 1) nd rfl (by first | exact .inl rfl | exact .inr rfl) (pd_lst (pa_cons (pd_str) (pa_nil)))) (pss_cons (ps_for PassesOwn.never rfl (pi_seq (pd_var (i := 0) rfl)) (pg_tup rfl (pgs_cons (pg_name (i := 2) nd rfl (by first | exact .inl rfl | exact .inr rfl)) (pgs_cons (pg_name (i := 3) nd rfl (by first | exact .inl rfl | exact .inr rfl)) (pgs_nil)))) (pss_cons (ps_if (pt_cmp L2.op_gt real_gt (by rfl) (pd_callB L2.call_len real_lenB rfl (zs "len" (by decide)) bt_len (pa_cons (pd_var (i := 1) rfl) (pa_nil))) (pd_int)) (pss_one (ps_expr (pd_m L2.mt_append real_append ty_list PySem.F.plainAttrs_list PySem.F.slot_list_append PySem.F.type_list_append (pd_var (i := 1) rfl) (pa_cons (pd_str) (pa_nil))))) (pss_nil)) (pss_one (ps_expr (pd_m mt_extendA real_extendA ty_list PySem.F.plainAttrs_list PySem.F.slot_list_extend PySem.F.type_list_extend (pd_var (i := 1) rfl) (pa_cons (pd_lst (pa_cons (pd_var (i := 2) rfl) (pa_cons (pd_str) (pa_cons (pd_callTy call_strX real_strX rfl (zs "str" (by decide)) bt_str (pa_cons (pd_var (i := 3) rfl) (pa_nil))) (pa_nil))))) (pa_nil))))))) (pss_one (ps_ret (pd_add (pd_var (i := 1) rfl) (pd_lst (pa_cons (pd_str) (pa_nil)))))))
theorem der_p_block_tokens {k : Nat} {c : Cl} (ok : ∀ y ∈ names, Own P w K mg base k (Str.ofString y) (c y)) (oks : ∀ q ∈ snames, OwnS P w K mg base k q.2 (Str.ofString q.1) (c q.1)) (zs : ∀ y ∈ blts, mg (Str.ofString y) = none) (cs_LEVELS : GlobDic K w mg "LEVELS" k_LEVELS) {fa : Addr} (cdv : Value) (A : Around) (outer : List PySem.Env) (s : Shared) (H : L2.Hp) (E : L2.XK) (hr : L2.Room k (A.deeper (envOfC "block_tokens" (L2.defScope sp_block_tokens) s.heap.objs.size fa cdv))) :
    PDSs (L2.cxOf L2.CX0 P w K mg base np_block_tokens "block_tokens" (L2.defScope sp_block_tokens) fa cdv A outer s H E).nox (L2.defBody sp_block_tokens) (b_p_block_tokens c) := by
  have nd := scp_block_tokens.nd
  unfold b_p_block_tokens
  exact pss_one (ps_ret (pd_add (pd_add (pd_lst (pa_cons (pd_str) (pa_nil))) (pd_call (y := "body_tokens") (ok "body_tokens" (by decide)) hr rfl (pa_cons (pd_var (i := 0) rfl) (pa_nil)))) (pd_lst (pa_cons (pd_str) (pa_nil)))))
theorem der_p_body_tokens {k : Nat} {c : Cl} (ok : ∀ y ∈ names, Own P w K mg base k (Str.ofString y) (c y)) (oks : ∀ q ∈ snames, OwnS P w K mg base k q.2 (Str.ofString q.1) (c q.1)) (zs : ∀ y ∈ blts, mg (Str.ofString y) = none) (cs_LEVELS : GlobDic K w mg "LEVELS" k_LEVELS) {fa : Addr} (cdv : Value) (A : Around) (outer : List PySem.Env) (s : Shared) (H : L2.Hp) (E : L2.XK) (hr : L2.Room k (A.deeper (envOfC "body_tokens" (L2.defScope sp_body_tokens) s.heap.objs.size fa cdv))) :
    PDSs (L2.cxOf L2.CX0 P w K mg base np_body_tokens "body_tokens" (L2.defScope sp_body_tokens) fa cdv A outer s H E).nox (L2.defBody sp_body_tokens) (b_p_body_tokens c) := by
  have nd := scp_body_tokens.nd
  unfold b_p_body_tokens
  exact pss_cons (ps_set (i := 1) nd rfl (by first | exact .inl rfl | exact .inr rfl) (pd_lst (pa_nil))) (pss_cons (ps_for PassesOwn.never rfl (pi_seq (pd_var (i := 0) rfl)) (pg_name (i := 2) nd rfl (by first | exact .inl rfl | exact .inr rfl)) (pss_one (ps_expr (pd_m mt_extendA real_extendA ty_list PySem.F.plainAttrs_list PySem.F.slot_list_extend PySem.F.type_list_extend (pd_var (i := 1) rfl) (pa_cons (pd_call (y := "statement_tokens") (ok "statement_tokens" (by decide)) hr rfl (pa_cons (pd_var (i := 2) rfl) (pa_nil))) (pa_nil)))))) (pss_one (ps_ret (pd_var (i := 1) rfl))))
theorem der_p_statement_tokens {k : Nat} {c : Cl} (ok : ∀ y ∈ names, Own P w K mg base k (Str.ofString y) (c y)) (oks : ∀ q ∈ snames, OwnS P w K mg base k q.2 (Str.ofString q.1) (c q.1)) (zs : ∀ y ∈ blts, mg (Str.ofString y) = none) (cs_LEVELS : GlobDic K w mg "LEVELS" k_LEVELS) {fa : Addr} (cdv : Value) (A : Around) (outer : List PySem.Env) (s : Shared) (H : L2.Hp) (E : L2.XK) (hr : L2.Room k (A.deeper (envOfC "statement_tokens" (L2.defScope sp_statement_tokens) s.heap.objs.size fa cdv))) :
    PDSs (L2.cxOf L2.CX0 P w K mg base np_statement_tokens "statement_tokens" (L2.defScope sp_statement_tokens) fa cdv A outer s H E).nox (L2.defBody sp_statement_tokens) (b_p_statement_tokens c) := by
  have nd := scp_statement_tokens.nd
  unfold b_p_statement_tokens
  exact pss_cons (ps_set (i := 1) nd rfl (by first | exact .inl rfl | exact .inr rfl) (pd_ix (fun _ _ => rfl) (pd_var (i := 0) rfl) (pd_int))) (pss_cons (ps_if (pt_cmp (L2.op_eqD hr.units) real_eq (by rfl) (pd_var (i := 1) rfl) (pd_str)) (pss_cons (ps_set (i := 2) nd rfl (by first | exact .inl rfl | exact .inr rfl) (pd_add (pd_add (pd_lst (pa_cons (pd_str) (pa_nil))) (pd_call (y := "expr_tokens") (ok "expr_tokens" (by decide)) hr rfl (pa_cons (pd_ix (fun _ _ => rfl) (pd_var (i := 0) rfl) (pd_int)) (pa_nil)))) (pd_call (y := "block_tokens") (ok "block_tokens" (by decide)) hr rfl (pa_cons (pd_ix (fun _ _ => rfl) (pd_var (i := 0) rfl) (pd_int)) (pa_nil))))) (pss_one (ps_ret (pd_if (pt_tru (pd_ix (fun _ _ => rfl) (pd_var (i := 0) rfl) (pd_int))) (pd_add (pd_add (pd_var (i := 2) rfl) (pd_lst (pa_cons (pd_str) (pa_nil)))) (pd_call (y := "block_tokens") (ok "block_tokens" (by decide)) hr rfl (pa_cons (pd_ix (fun _ _ => rfl) (pd_var (i := 0) rfl) (pd_int)) (pa_nil)))) (pd_var (i := 2) rfl))))) (pss_nil)) (pss_cons (ps_if (pt_cmp (L2.op_eqD hr.units) real_eq (by rfl) (pd_var (i := 1) rfl) (pd_str)) (pss_one (ps_ret (pd_add (pd_add (pd_lst (pa_cons (pd_str) (pa_nil))) (pd_call (y := "expr_tokens") (ok "expr_tokens" (by decide)) hr rfl (pa_cons (pd_ix (fun _ _ => rfl) (pd_var (i := 0) rfl) (pd_int)) (pa_nil)))) (pd_call (y := "block_tokens") (ok "block_tokens" (by decide)) hr rfl (pa_cons (pd_ix (fun _ _ => rfl) (pd_var (i := 0) rfl) (pd_int)) (pa_nil)))))) (pss_nil)) (pss_cons (ps_if (pt_cmp (L2.op_eqD hr.units) real_eq (by rfl) (pd_var (i := 1) rfl) (pd_str)) (pss_cons (ps_set (i := 2) nd rfl (by first | exact .inl rfl | exact .inr rfl) (pd_add (pd_lst (pa_cons (pd_str) (pa_nil))) (pd_call (y := "block_tokens") (ok "block_tokens" (by decide)) hr rfl (pa_cons (pd_ix (fun _ _ => rfl) (pd_var (i := 0) rfl) (pd_int)) (pa_nil))))) (pss_cons (ps_for PassesOwn.never rfl (pi_seq (pd_ix (fun _ _ => rfl) (pd_var (i := 0) rfl) (pd_int))) (pg_tup rfl (pgs_cons (pg_name (i := 3) nd rfl (by first | exact .inl rfl | exact .inr rfl)) (pgs_cons (pg_name (i := 4) nd rfl (by first | exact .inl rfl | exact .inr rfl)) (pgs_nil)))) (pss_one (ps_expr (pd_m mt_extendA real_extendA ty_list PySem.F.plainAttrs_list PySem.F.slot_list_extend PySem.F.type_list_extend (pd_var (i := 2) rfl) (pa_cons (pd_add (pd_lst (pa_cons (pd_str) (pa_cons (pd_var (i := 3) rfl) (pa_nil)))) (pd_call (y := "block_tokens") (ok "block_tokens" (by decide)) hr rfl (pa_cons (pd_var (i := 4) rfl) (pa_nil)))) (pa_nil)))))) (pss_one (ps_ret (pd_var (i := 2) rfl))))) (pss_nil)) (pss_cons (ps_if (pt_cmp (L2.op_eqD hr.units) real_eq (by rfl) (pd_var (i := 1) rfl) (pd_str)) (pss_one (ps_ret (pd_add (pd_add (pd_add (pd_add (pd_lst (pa_cons (pd_str) (pa_nil))) (pd_call (y := "expr_tokens") (ok "expr_tokens" (by decide)) hr rfl (pa_cons (pd_ix (fun _ _ => rfl) (pd_var (i := 0) rfl) (pd_int)) (pa_nil)))) (pd_lst (pa_cons (pd_str) (pa_nil)))) (pd_call (y := "expr_tokens") (ok "expr_tokens" (by decide)) hr rfl (pa_cons (pd_ix (fun _ _ => rfl) (pd_var (i := 0) rfl) (pd_int)) (pa_nil)))) (pd_lst (pa_cons (pd_str) (pa_nil)))))) (pss_nil)) (pss_cons (ps_if (pt_cmp (L2.op_eqD hr.units) real_eq (by rfl) (pd_var (i := 1) rfl) (pd_str)) (pss_one (ps_ret (pd_lst (pa_cons (pd_str) (pa_cons (pd_ix (fun _ _ => rfl) (pd_var (i := 0) rfl) (pd_int)) (pa_cons (pd_str) (pa_cons (pd_ix (fun _ _ => rfl) (pd_var (i := 0) rfl) (pd_int)) (pa_cons (pd_str) (pa_nil))))))))) (pss_nil)) (pss_cons (ps_if (pt_cmp (L2.op_eqD hr.units) real_eq (by rfl) (pd_var (i := 1) rfl) (pd_str)) (pss_one (ps_ret (pd_lst (pa_cons (pd_str) (pa_cons (pd_ix (fun _ _ => rfl) (pd_var (i := 0) rfl) (pd_int)) (pa_cons (pd_str) (pa_nil))))))) (pss_nil)) (pss_cons (ps_if (pt_cmp (L2.op_eqD hr.units) real_eq (by rfl) (pd_var (i := 1) rfl) (pd_str)) (pss_one (ps_ret (pd_call (y := "call_tokens") (ok "call_tokens" (by decide)) hr rfl (pa_cons (pd_var (i := 0) rfl) (pa_nil))))) (pss_nil)) (pss_one (ps_ret (pd_add (pd_add (pd_lst (pa_cons (pd_var (i := 1) rfl) (pa_nil))) (pd_call (y := "expr_tokens") (ok "expr_tokens" (by decide)) hr rfl (pa_cons (pd_ix (fun _ _ => rfl) (pd_var (i := 0) rfl) (pd_int)) (pa_nil)))) (pd_lst (pa_cons (pd_str) (pa_nil)))))))))))))
theorem der_p_call_tokens {k : Nat} {c : Cl} (ok : ∀ y ∈ names, Own P w K mg base k (Str.ofString y) (c y)) (oks : ∀ q ∈ snames, OwnS P w K mg base k q.2 (Str.ofString q.1) (c q.1)) (zs : ∀ y ∈ blts, mg (Str.ofString y) = none) (cs_LEVELS : GlobDic K w mg "LEVELS" k_LEVELS) {fa : Addr} (cdv : Value) (A : Around) (outer : List PySem.Env) (s : Shared) (H : L2.Hp) (E : L2.XK) (hr : L2.Room k (A.deeper (envOfC "call_tokens" (L2.defScope sp_call_tokens) s.heap.objs.size fa cdv))) :
    PDSs (L2.cxOf L2.CX0 P w K mg base np_call_tokens "call_tokens" (L2.defScope sp_call_tokens) fa cdv A outer s H E).nox (L2.defBody sp_call_tokens) (b_p_call_tokens c) := by
  have nd := scp_call_tokens.nd
  unfold b_p_call_tokens
  exact pss_cons (ps_set (i := 1) nd rfl (by first | exact .inl rfl | exact .inr rfl) (pd_lst (pa_cons (pd_str) (pa_nil)))) (pss_cons (ps_if (pt_cmp L2.op_notN real_isnt (by rfl) (pd_ix (fun _ _ => rfl) (pd_var (i := 0) rfl) (pd_int)) (pd_non)) (pss_one (ps_expr (pd_m mt_extendA real_extendA ty_list PySem.F.plainAttrs_list PySem.F.slot_list_extend PySem.F.type_list_extend (pd_var (i := 1) rfl) (pa_cons (pd_lst (pa_cons (pd_ix (fun _ _ => rfl) (pd_var (i := 0) rfl) (pd_int)) (pa_cons (pd_str) (pa_nil)))) (pa_nil))))) (pss_nil)) (pss_one (ps_ret (pd_add (pd_add (pd_add (pd_var (i := 1) rfl) (pd_lst (pa_cons (pd_ix (fun _ _ => rfl) (pd_var (i := 0) rfl) (pd_int)) (pa_cons (pd_str) (pa_nil))))) (pd_call (y := "listed") (ok "listed" (by decide)) hr rfl (pa_cons (pd_ix (fun _ _ => rfl) (pd_var (i := 0) rfl) (pd_int)) (pa_nil)))) (pd_lst (pa_cons (pd_str) (pa_cons (pd_str) (pa_nil))))))))
theorem der_p_listed {k : Nat} {c : Cl} (ok : ∀ y ∈ names, Own P w K mg base k (Str.ofString y) (c y)) (oks : ∀ q ∈ snames, OwnS P w K mg base k q.2 (Str.ofString q.1) (c q.1)) (zs : ∀ y ∈ blts, mg (Str.ofString y) = none) (cs_LEVELS : GlobDic K w mg "LEVELS" k_LEVELS) {fa : Addr} (cdv : Value) (A : Around) (outer : List PySem.Env) (s : Shared) (H : L2.Hp) (E : L2.XK) (hr : L2.Room k (A.deeper (envOfC "listed" (L2.defScope sp_listed) s.heap.objs.size fa cdv))) :
    PDSs (L2.cxOf L2.CX0 P w K mg base np_listed "listed" (L2.defScope sp_listed) fa cdv A outer s H E).nox (L2.defBody sp_listed) (b_p_listed c) := by
  have nd := scp_listed.nd
  unfold b_p_listed
  exact pss_cons (ps_set (i := 1) nd rfl (by first | exact .inl rfl | exact .inr rfl) (pd_lst (pa_nil))) (pss_cons (ps_for PassesOwn.never rfl (pi_seq (pd_var (i := 0) rfl)) (pg_name (i := 2) nd rfl (by first | exact .inl rfl | exact .inr rfl)) (pss_cons (ps_if (pt_tru (pd_var (i := 1) rfl)) (pss_one (ps_expr (pd_m L2.mt_append real_append ty_list PySem.F.plainAttrs_list PySem.F.slot_list_append PySem.F.type_list_append (pd_var (i := 1) rfl) (pa_cons (pd_str) (pa_nil))))) (pss_nil)) (pss_one (ps_expr (pd_m mt_extendA real_extendA ty_list PySem.F.plainAttrs_list PySem.F.slot_list_extend PySem.F.type_list_extend (pd_var (i := 1) rfl) (pa_cons (pd_call (y := "expr_tokens") (ok "expr_tokens" (by decide)) hr rfl (pa_cons (pd_var (i := 2) rfl) (pa_nil))) (pa_nil))))))) (pss_one (ps_ret (pd_var (i := 1) rfl))))
theorem der_p_level_of {k : Nat} {c : Cl} (ok : ∀ y ∈ names, Own P w K mg base k (Str.ofString y) (c y)) (oks : ∀ q ∈ snames, OwnS P w K mg base k q.2 (Str.ofString q.1) (c q.1)) (zs : ∀ y ∈ blts, mg (Str.ofString y) = none) (cs_LEVELS : GlobDic K w mg "LEVELS" k_LEVELS) {fa : Addr} (cdv : Value) (A : Around) (outer : List PySem.Env) (s : Shared) (H : L2.Hp) (E : L2.XK) (hr : L2.Room k (A.deeper (envOfC "level_of" (L2.defScope sp_level_of) s.heap.objs.size fa cdv))) :
    PDSs (L2.cxOf L2.CX0 P w K mg base np_level_of "level_of" (L2.defScope sp_level_of) fa cdv A outer s H E).nox (L2.defBody sp_level_of) (b_p_level_of c) := by
  have nd := scp_level_of.nd
  unfold b_p_level_of
  exact pss_cons (ps_if (pt_cmp L2.op_in_seq (real_in false) (by rfl) (pd_ix (fun _ _ => rfl) (pd_var (i := 0) rfl) (pd_int)) (pd_tup (pa_cons (pd_str) (pa_cons (pd_str) (pa_nil))))) (pss_one (ps_ret (pd_int))) (pss_nil)) (pss_one (ps_ret (pd_getG2 cs_LEVELS rfl (pd_ix (fun _ _ => rfl) (pd_var (i := 0) rfl) (pd_int)) (pd_int))))
theorem der_p_within {k : Nat} {c : Cl} (ok : ∀ y ∈ names, Own P w K mg base k (Str.ofString y) (c y)) (oks : ∀ q ∈ snames, OwnS P w K mg base k q.2 (Str.ofString q.1) (c q.1)) (zs : ∀ y ∈ blts, mg (Str.ofString y) = none) (cs_LEVELS : GlobDic K w mg "LEVELS" k_LEVELS) {fa : Addr} (cdv : Value) (A : Around) (outer : List PySem.Env) (s : Shared) (H : L2.Hp) (E : L2.XK) (hr : L2.Room k (A.deeper (envOfC "within" (L2.defScope sp_within) s.heap.objs.size fa cdv))) :
    PDSs (L2.cxOf L2.CX0 P w K mg base np_within "within" (L2.defScope sp_within) fa cdv A outer s H E).nox (L2.defBody sp_within) (b_p_within c) := by
  have nd := scp_within.nd
  unfold b_p_within
  exact pss_cons (ps_if (pt_cmp L2.op_ge real_ge (by rfl) (pd_call (y := "level_of") (ok "level_of" (by decide)) hr rfl (pa_cons (pd_var (i := 0) rfl) (pa_nil))) (pd_var (i := 1) rfl)) (pss_one (ps_ret (pd_call (y := "expr_tokens") (ok "expr_tokens" (by decide)) hr rfl (pa_cons (pd_var (i := 0) rfl) (pa_nil))))) (pss_nil)) (pss_one (ps_ret (pd_add (pd_add (pd_lst (pa_cons (pd_str) (pa_nil))) (pd_call (y := "expr_tokens") (ok "expr_tokens" (by decide)) hr rfl (pa_cons (pd_var (i := 0) rfl) (pa_nil)))) (pd_lst (pa_cons (pd_str) (pa_nil))))))
theorem der_p_expr_tokens {k : Nat} {c : Cl} (ok : ∀ y ∈ names, Own P w K mg base k (Str.ofString y) (c y)) (oks : ∀ q ∈ snames, OwnS P w K mg base k q.2 (Str.ofString q.1) (c q.1)) (zs : ∀ y ∈ blts, mg (Str.ofString y) = none) (cs_LEVELS : GlobDic K w mg "LEVELS" k_LEVELS) {fa : Addr} (cdv : Value) (A : Around) (outer : List PySem.Env) (s : Shared) (H : L2.Hp) (E : L2.XK) (hr : L2.Room k (A.deeper (envOfC "expr_tokens" (L2.defScope sp_expr_tokens) s.heap.objs.size fa cdv))) :
    PDSs (L2.cxOf L2.CX0 P w K mg base np_expr_tokens "expr_tokens" (L2.defScope sp_expr_tokens) fa cdv A outer s H E).nox (L2.defBody sp_expr_tokens) (b_p_expr_tokens c) := by
  have nd := scp_expr_tokens.nd
  unfold b_p_expr_tokens
  exact pss_cons (ps_set (i := 1) nd rfl (by first | exact .inl rfl | exact .inr rfl) (pd_ix (fun _ _ => rfl) (pd_var (i := 0) rfl) (pd_int))) (pss_cons (ps_if (pt_cmp (L2.op_eqD hr.units) real_eq (by rfl) (pd_var (i := 1) rfl) (pd_str)) (pss_one (ps_ret (pd_lst (pa_cons (pd_callTy call_strX real_strX rfl (zs "str" (by decide)) bt_str (pa_cons (pd_ix (fun _ _ => rfl) (pd_var (i := 0) rfl) (pd_int)) (pa_nil))) (pa_cons (pd_str) (pa_cons (pd_callTy call_strX real_strX rfl (zs "str" (by decide)) bt_str (pa_cons (pd_ix (fun _ _ => rfl) (pd_var (i := 0) rfl) (pd_int)) (pa_nil))) (pa_nil))))))) (pss_nil)) (pss_cons (ps_if (pt_cmp (L2.op_eqD hr.units) real_eq (by rfl) (pd_var (i := 1) rfl) (pd_str)) (pss_one (ps_ret (pd_lst (pa_cons (pd_ix (fun _ _ => rfl) (pd_var (i := 0) rfl) (pd_int)) (pa_nil))))) (pss_nil)) (pss_cons (ps_if (pt_cmp (L2.op_eqD hr.units) real_eq (by rfl) (pd_var (i := 1) rfl) (pd_str)) (pss_one (ps_ret (pd_lst (pa_cons (pd_ix (fun _ _ => rfl) (pd_var (i := 0) rfl) (pd_int)) (pa_cons (pd_str) (pa_cons (pd_ix (fun _ _ => rfl) (pd_var (i := 0) rfl) (pd_int)) (pa_nil))))))) (pss_nil)) (pss_cons (ps_if (pt_cmp (L2.op_eqD hr.units) real_eq (by rfl) (pd_var (i := 1) rfl) (pd_str)) (pss_one (ps_ret (pd_add (pd_add (pd_lst (pa_cons (pd_ix (fun _ _ => rfl) (pd_var (i := 0) rfl) (pd_int)) (pa_cons (pd_str) (pa_nil)))) (pd_call (y := "expr_tokens") (ok "expr_tokens" (by decide)) hr rfl (pa_cons (pd_ix (fun _ _ => rfl) (pd_var (i := 0) rfl) (pd_int)) (pa_nil)))) (pd_lst (pa_cons (pd_str) (pa_nil)))))) (pss_nil)) (pss_cons (ps_if (pt_cmp (L2.op_eqD hr.units) real_eq (by rfl) (pd_var (i := 1) rfl) (pd_str)) (pss_one (ps_ret (pd_lst (pa_cons (pd_str) (pa_nil))))) (pss_nil)) (pss_cons (ps_if (pt_cmp L2.op_in_seq (real_in false) (by rfl) (pd_var (i := 1) rfl) (pd_tup (pa_cons (pd_str) (pa_cons (pd_str) (pa_nil))))) (pss_one (ps_ret (pd_add (pd_lst (pa_cons (pd_if (pt_cmp (L2.op_eqD hr.units) real_eq (by rfl) (pd_var (i := 1) rfl) (pd_str)) (pd_str) (pd_str)) (pa_nil))) (pd_call (y := "within") (ok "within" (by decide)) hr rfl (pa_cons (pd_ix (fun _ _ => rfl) (pd_var (i := 0) rfl) (pd_int)) (pa_cons (pd_int) (pa_nil))))))) (pss_nil)) (pss_cons (ps_if (pt_cmp (L2.op_eqD hr.units) real_eq (by rfl) (pd_var (i := 1) rfl) (pd_str)) (pss_one (ps_ret (pd_add (pd_add (pd_lst (pa_cons (pd_str) (pa_cons (pd_str) (pa_nil)))) (pd_call (y := "expr_tokens") (ok "expr_tokens" (by decide)) hr rfl (pa_cons (pd_ix (fun _ _ => rfl) (pd_var (i := 0) rfl) (pd_int)) (pa_nil)))) (pd_lst (pa_cons (pd_str) (pa_cons (pd_callTy call_strX real_strX rfl (zs "str" (by decide)) bt_str (pa_cons (pd_ix (fun _ _ => rfl) (pd_var (i := 0) rfl) (pd_int)) (pa_nil))) (pa_cons (pd_str) (pa_nil)))))))) (pss_nil)) (pss_cons (ps_if (pt_cmp L2.op_in_seq (real_in false) (by rfl) (pd_var (i := 1) rfl) (pd_tup (pa_cons (pd_str) (pa_cons (pd_str) (pa_cons (pd_str) (pa_nil)))))) (pss_one (ps_ret (pd_add (pd_add (pd_lst (pa_cons (pd_var (i := 1) rfl) (pa_cons (pd_str) (pa_nil)))) (pd_call (y := "listed") (ok "listed" (by decide)) hr rfl (pa_cons (pd_sl (pd_var (i := 0) rfl) (po_some (pd_int)) (po_none)) (pa_nil)))) (pd_lst (pa_cons (pd_str) (pa_nil)))))) (pss_nil)) (pss_cons (ps_set (i := 2) nd rfl (by first | exact .inl rfl | exact .inr rfl) (pd_getG cs_LEVELS rfl (fun _ _ => rfl) (pd_var (i := 1) rfl))) (pss_cons (ps_set (i := 3) nd rfl (by first | exact .inl rfl | exact .inr rfl) (pd_if (pt_cmp (L2.op_eqD hr.units) real_eq (by rfl) (pd_var (i := 2) rfl) (pd_int)) (pd_add (pd_var (i := 2) rfl) (pd_int)) (pd_var (i := 2) rfl))) (pss_one (ps_ret (pd_add (pd_add (pd_call (y := "within") (ok "within" (by decide)) hr rfl (pa_cons (pd_ix (fun _ _ => rfl) (pd_var (i := 0) rfl) (pd_int)) (pa_cons (pd_var (i := 3) rfl) (pa_nil)))) (pd_lst (pa_cons (pd_var (i := 1) rfl) (pa_nil)))) (pd_call (y := "within") (ok "within" (by decide)) hr rfl (pa_cons (pd_ix (fun _ _ => rfl) (pd_var (i := 0) rfl) (pd_int)) (pa_cons (pd_add (pd_var (i := 2) rfl) (pd_int)) (pa_nil)))))))))))))))))
theorem der_l_begin {k : Nat} {c : Cl} (ok : ∀ y ∈ names, Own P w K mg base k (Str.ofString y) (c y)) (oks : ∀ q ∈ snames, OwnS P w K mg base k q.2 (Str.ofString q.1) (c q.1)) (zs : ∀ y ∈ blts, mg (Str.ofString y) = none) (cs_LEVELS : GlobDic K w mg "LEVELS" k_LEVELS) {fa : Addr} (cdv : Value) (A : Around) (outer : List PySem.Env) (s : Shared) (H : L2.Hp) (E : L2.XK) (hr : L2.Room k (A.deeper (envOfC "_law_begin" (L2.defScope sl_begin) s.heap.objs.size fa cdv))) :
    PDSs (L2.cxOf L2.CX0 P w K mg base nl_begin "_law_begin" (L2.defScope sl_begin) fa cdv A outer s H E).nox (L2.defBody sl_begin) (b_l_begin c) := by
  have nd := scl_begin.nd
  unfold b_l_begin
  exact pss_one (ps_ret (pd_lst (pa_cons (pd_lc (own := [("_law_cell", 1)]) rfl nd (pi_seq (pd_var (i := 0) rfl)) (L2.blkOk_by (N := nl_begin) (sc := L2.defScope sl_begin) (by decide +kernel)) (fun _ _ _ _ _ => pg_name (i := 1) nd rfl (by first | exact .inl rfl | exact .inr rfl)) (fun _ _ _ _ _ => pts_nil) (fun _ _ _ _ _ => pd_callTy L2.call_int1 real_intB rfl (zs "int" (by decide)) bt_int (pa_cons (pd_var (i := 1) rfl) (pa_nil))) (by decide)) (pa_cons (pd_int) (pa_cons (pd_int) (pa_cons (pd_int) (pa_cons (pd_int) (pa_nil))))))))
theorem der_l_draw {k : Nat} {c : Cl} (ok : ∀ y ∈ names, Own P w K mg base k (Str.ofString y) (c y)) (oks : ∀ q ∈ snames, OwnS P w K mg base k q.2 (Str.ofString q.1) (c q.1)) (zs : ∀ y ∈ blts, mg (Str.ofString y) = none) (cs_LEVELS : GlobDic K w mg "LEVELS" k_LEVELS) {fa : Addr} (cdv : Value) (A : Around) (outer : List PySem.Env) (s : Shared) (H : L2.Hp) (E : L2.XK) (hr : L2.Room k (A.deeper (envOfC "_law_draw" (L2.defScope sl_draw) s.heap.objs.size fa cdv))) :
    PDSs (L2.cxOf L2.CX0 P w K mg base nl_draw "_law_draw" (L2.defScope sl_draw) fa cdv A outer s H E).nox (L2.defBody sl_draw) (b_l_draw c) := by
  have nd := scl_draw.nd
  unfold b_l_draw
  exact pss_cons (ps_if (pt_cmp L2.op_gt real_gt (by rfl) (pd_ix (fun _ _ => rfl) (pd_var (i := 0) rfl) (pd_int)) (pd_int)) (pss_cons (ps_set (i := 2) nd rfl (by first | exact .inl rfl | exact .inr rfl) (pd_ix (fun _ _ => rfl) (pd_var (i := 0) rfl) (pd_int))) (pss_cons (ps_asg (pd_fdiv (pd_var (i := 2) rfl) (pd_var (i := 1) rfl)) (pg_sub (pd_var (i := 0) rfl) (pd_int))) (pss_one (ps_ret (pd_mod (pd_callTy L2.call_int1 real_intB rfl (zs "int" (by decide)) bt_int (pa_cons (pd_var (i := 2) rfl) (pa_nil))) (pd_var (i := 1) rfl)))))) (pss_nil)) (pss_cons (ps_set (i := 3) nd rfl (by first | exact .inl rfl | exact .inr rfl) (pd_int)) (pss_cons (ps_if (pt_cmp L2.op_lt real_lt (by rfl) (pd_ix (fun _ _ => rfl) (pd_var (i := 0) rfl) (pd_int)) (pd_callB L2.call_len real_lenB rfl (zs "len" (by decide)) bt_len (pa_cons (pd_ix (fun _ _ => rfl) (pd_var (i := 0) rfl) (pd_int)) (pa_nil)))) (pss_cons (ps_set (i := 4) nd rfl (by first | exact .inl rfl | exact .inr rfl) (pd_ix (fun _ _ => rfl) (pd_ix (fun _ _ => rfl) (pd_var (i := 0) rfl) (pd_int)) (pd_ix (fun _ _ => rfl) (pd_var (i := 0) rfl) (pd_int)))) (pss_one (ps_set (i := 3) nd rfl (by first | exact .inl rfl | exact .inr rfl) (pd_add (pd_mul (pd_int) (pd_callB L2.call_abs real_absB rfl (zs "abs" (by decide)) bt_abs (pa_cons (pd_var (i := 4) rfl) (pa_nil)))) (pd_callTy L2.call_int1 real_intB rfl (zs "int" (by decide)) bt_int (pa_cons (pd_cmp L2.op_lt real_lt (by rfl) (pd_var (i := 4) rfl) (pd_int)) (pa_nil))))))) (pss_nil)) (pss_cons (ps_augS ip_add real_iadd (pd_var (i := 0) rfl) (pd_int) (pd_int)) (pss_cons (ps_if (pt_cmp L2.op_ge real_ge (by rfl) (pd_var (i := 3) rfl) (pd_mul (pd_int) (pd_pow (pd_int) (pd_int)))) (pss_cons (ps_set (i := 2) nd rfl (by first | exact .inl rfl | exact .inr rfl) (pd_mod (pd_callTy L2.call_int1 real_intB rfl (zs "int" (by decide)) bt_int (pa_cons (pd_fdiv (pd_var (i := 3) rfl) (pd_int)) (pa_nil))) (pd_shl (pd_int) (pd_int)))) (pss_cons (ps_asg (pd_fdiv (pd_var (i := 2) rfl) (pd_var (i := 1) rfl)) (pg_sub (pd_var (i := 0) rfl) (pd_int))) (pss_one (ps_ret (pd_mod (pd_callTy L2.call_int1 real_intB rfl (zs "int" (by decide)) bt_int (pa_cons (pd_var (i := 2) rfl) (pa_nil))) (pd_var (i := 1) rfl)))))) (pss_nil)) (pss_cons (ps_asg (pd_mod (pd_callTy L2.call_int1 real_intB rfl (zs "int" (by decide)) bt_int (pa_cons (pd_add (pd_add (pd_add (pd_mul (pd_ix (fun _ _ => rfl) (pd_var (i := 0) rfl) (pd_int)) (pd_int)) (pd_mul (pd_mod (pd_callTy L2.call_int1 real_intB rfl (zs "int" (by decide)) bt_int (pa_cons (pd_var (i := 3) rfl) (pa_nil))) (pd_int)) (pd_int))) (pd_mul (pd_ix (fun _ _ => rfl) (pd_var (i := 0) rfl) (pd_int)) (pd_int))) (pd_int)) (pa_nil))) (pd_int)) (pg_sub (pd_var (i := 0) rfl) (pd_int))) (pss_one (ps_ret (pd_mod (pd_callTy L2.call_int1 real_intB rfl (zs "int" (by decide)) bt_int (pa_cons (pd_fdiv (pd_ix (fun _ _ => rfl) (pd_var (i := 0) rfl) (pd_int)) (pd_int)) (pa_nil))) (pd_var (i := 1) rfl)))))))))
theorem der_l_pick {k : Nat} {c : Cl} (ok : ∀ y ∈ names, Own P w K mg base k (Str.ofString y) (c y)) (oks : ∀ q ∈ snames, OwnS P w K mg base k q.2 (Str.ofString q.1) (c q.1)) (zs : ∀ y ∈ blts, mg (Str.ofString y) = none) (cs_LEVELS : GlobDic K w mg "LEVELS" k_LEVELS) {fa : Addr} (cdv : Value) (A : Around) (outer : List PySem.Env) (s : Shared) (H : L2.Hp) (E : L2.XK) (hr : L2.Room k (A.deeper (envOfC "_law_pick" (L2.defScope sl_pick) s.heap.objs.size fa cdv))) :
    PDSs (L2.cxOf L2.CX0 P w K mg base nl_pick "_law_pick" (L2.defScope sl_pick) fa cdv A outer s H E).nox (L2.defBody sl_pick) (b_l_pick c) := by
  have nd := scl_pick.nd
  unfold b_l_pick
  exact pss_one (ps_ret (pd_ix (fun _ _ => rfl) (pd_var (i := 1) rfl) (pd_call (y := "_law_draw") (ok "_law_draw" (by decide)) hr rfl (pa_cons (pd_var (i := 0) rfl) (pa_cons (pd_callB L2.call_len real_lenB rfl (zs "len" (by decide)) bt_len (pa_cons (pd_var (i := 1) rfl) (pa_nil))) (pa_nil))))))
theorem der_l_listed {k : Nat} {c : Cl} (ok : ∀ y ∈ names, Own P w K mg base k (Str.ofString y) (c y)) (oks : ∀ q ∈ snames, OwnS P w K mg base k q.2 (Str.ofString q.1) (c q.1)) (zs : ∀ y ∈ blts, mg (Str.ofString y) = none) (cs_LEVELS : GlobDic K w mg "LEVELS" k_LEVELS) {fa : Addr} (cdv : Value) (A : Around) (outer : List PySem.Env) (s : Shared) (H : L2.Hp) (E : L2.XK) (hr : L2.Room k (A.deeper (envOfC "_law_listed" (L2.defScope sl_listed) s.heap.objs.size fa cdv))) :
    PDSs (L2.cxOf L2.CX0 P w K mg base nl_listed "_law_listed" (L2.defScope sl_listed) fa cdv A outer s H E).nox (L2.defBody sl_listed) (b_l_listed c) := by
  have nd := scl_listed.nd
  unfold b_l_listed
  exact pss_cons (ps_set (i := 1) nd rfl (by first | exact .inl rfl | exact .inr rfl) (pd_lst (pa_nil))) (pss_cons (ps_for PassesOwn.never rfl (pi_seq (pd_var (i := 0) rfl)) (pg_name (i := 2) nd rfl (by first | exact .inl rfl | exact .inr rfl)) (pss_cons (ps_if (pt_tru (pd_var (i := 1) rfl)) (pss_one (ps_expr (pd_m L2.mt_append real_append ty_list PySem.F.plainAttrs_list PySem.F.slot_list_append PySem.F.type_list_append (pd_var (i := 1) rfl) (pa_cons (pd_str) (pa_nil))))) (pss_nil)) (pss_one (ps_expr (pd_m mt_extendA real_extendA ty_list PySem.F.plainAttrs_list PySem.F.slot_list_extend PySem.F.type_list_extend (pd_var (i := 1) rfl) (pa_cons (pd_call (y := "_law_expr_tokens") (ok "_law_expr_tokens" (by decide)) hr rfl (pa_cons (pd_var (i := 2) rfl) (pa_nil))) (pa_nil))))))) (pss_one (ps_ret (pd_var (i := 1) rfl))))
theorem der_l_level {k : Nat} {c : Cl} (ok : ∀ y ∈ names, Own P w K mg base k (Str.ofString y) (c y)) (oks : ∀ q ∈ snames, OwnS P w K mg base k q.2 (Str.ofString q.1) (c q.1)) (zs : ∀ y ∈ blts, mg (Str.ofString y) = none) (cs_LEVELS : GlobDic K w mg "LEVELS" k_LEVELS) {fa : Addr} (cdv : Value) (A : Around) (outer : List PySem.Env) (s : Shared) (H : L2.Hp) (E : L2.XK) (hr : L2.Room k (A.deeper (envOfC "_law_level" (L2.defScope sl_level) s.heap.objs.size fa cdv))) :
    PDSs (L2.cxOf L2.CX0 P w K mg base nl_level "_law_level" (L2.defScope sl_level) fa cdv A outer s H E).nox (L2.defBody sl_level) (b_l_level c) := by
  have nd := scl_level.nd
  unfold b_l_level
  exact pss_cons (ps_if (pt_cmp L2.op_in_seq (real_in false) (by rfl) (pd_ix (fun _ _ => rfl) (pd_var (i := 0) rfl) (pd_int)) (pd_tup (pa_cons (pd_str) (pa_cons (pd_str) (pa_nil))))) (pss_one (ps_ret (pd_int))) (pss_nil)) (pss_cons (ps_set (i := 1) nd rfl (by first | exact .inl rfl | exact .inr rfl) (pd_lst (pa_cons (pd_lst (pa_cons (pd_str) (pa_nil))) (pa_cons (pd_lst (pa_cons (pd_str) (pa_nil))) (pa_cons (pd_lst (pa_cons (pd_str) (pa_nil))) (pa_cons (pd_lst (pa_cons (pd_str) (pa_cons (pd_str) (pa_cons (pd_str) (pa_cons (pd_str) (pa_nil)))))) (pa_cons (pd_lst (pa_cons (pd_str) (pa_cons (pd_str) (pa_nil)))) (pa_cons (pd_lst (pa_cons (pd_str) (pa_cons (pd_str) (pa_nil)))) (pa_cons (pd_lst (pa_cons (pd_str) (pa_nil))) (pa_nil)))))))))) (pss_cons (ps_for PassesOwn.never rfl (pi_r1 rfl (zs "range" (by decide)) (pd_int)) (pg_name (i := 2) nd rfl (by first | exact .inl rfl | exact .inr rfl)) (pss_one (ps_if (pt_cmp L2.op_in_seq (real_in false) (by rfl) (pd_ix (fun _ _ => rfl) (pd_var (i := 0) rfl) (pd_int)) (pd_ix (fun _ _ => rfl) (pd_var (i := 1) rfl) (pd_var (i := 2) rfl))) (pss_one (ps_ret (pd_add (pd_var (i := 2) rfl) (pd_int)))) (pss_nil)))) (pss_one (ps_ret (pd_int)))))
theorem der_l_inner_tokens {k : Nat} {c : Cl} (ok : ∀ y ∈ names, Own P w K mg base k (Str.ofString y) (c y)) (oks : ∀ q ∈ snames, OwnS P w K mg base k q.2 (Str.ofString q.1) (c q.1)) (zs : ∀ y ∈ blts, mg (Str.ofString y) = none) (cs_LEVELS : GlobDic K w mg "LEVELS" k_LEVELS) {fa : Addr} (cdv : Value) (A : Around) (outer : List PySem.Env) (s : Shared) (H : L2.Hp) (E : L2.XK) (hr : L2.Room k (A.deeper (envOfC "_law_inner_tokens" (L2.defScope sl_inner_tokens) s.heap.objs.size fa cdv))) :
    PDSs (L2.cxOf L2.CX0 P w K mg base nl_inner_tokens "_law_inner_tokens" (L2.defScope sl_inner_tokens) fa cdv A outer s H E).nox (L2.defBody sl_inner_tokens) (b_l_inner_tokens c) := by
  have nd := scl_inner_tokens.nd
  unfold b_l_inner_tokens
  exact pss_cons (ps_if (pt_cmp L2.op_ge real_ge (by rfl) (pd_call (y := "_law_level") (ok "_law_level" (by decide)) hr rfl (pa_cons (pd_var (i := 0) rfl) (pa_nil))) (pd_var (i := 1) rfl)) (pss_one (ps_ret (pd_call (y := "_law_expr_tokens") (ok "_law_expr_tokens" (by decide)) hr rfl (pa_cons (pd_var (i := 0) rfl) (pa_nil))))) (pss_nil)) (pss_one (ps_ret (pd_add (pd_add (pd_lst (pa_cons (pd_str) (pa_nil))) (pd_call (y := "_law_expr_tokens") (ok "_law_expr_tokens" (by decide)) hr rfl (pa_cons (pd_var (i := 0) rfl) (pa_nil)))) (pd_lst (pa_cons (pd_str) (pa_nil))))))
theorem der_l_expr_tokens {k : Nat} {c : Cl} (ok : ∀ y ∈ names, Own P w K mg base k (Str.ofString y) (c y)) (oks : ∀ q ∈ snames, OwnS P w K mg base k q.2 (Str.ofString q.1) (c q.1)) (zs : ∀ y ∈ blts, mg (Str.ofString y) = none) (cs_LEVELS : GlobDic K w mg "LEVELS" k_LEVELS) {fa : Addr} (cdv : Value) (A : Around) (outer : List PySem.Env) (s : Shared) (H : L2.Hp) (E : L2.XK) (hr : L2.Room k (A.deeper (envOfC "_law_expr_tokens" (L2.defScope sl_expr_tokens) s.heap.objs.size fa cdv))) :
    PDSs (L2.cxOf L2.CX0 P w K mg base nl_expr_tokens "_law_expr_tokens" (L2.defScope sl_expr_tokens) fa cdv A outer s H E).nox (L2.defBody sl_expr_tokens) (b_l_expr_tokens c) := by
  have nd := scl_expr_tokens.nd
  unfold b_l_expr_tokens
  exact pss_cons (ps_set (i := 1) nd rfl (by first | exact .inl rfl | exact .inr rfl) (pd_ix (fun _ _ => rfl) (pd_var (i := 0) rfl) (pd_int))) (pss_cons (ps_if (pt_cmp (L2.op_eqD hr.units) real_eq (by rfl) (pd_var (i := 1) rfl) (pd_str)) (pss_one (ps_ret (pd_lst (pa_cons (pd_callTy call_strX real_strX rfl (zs "str" (by decide)) bt_str (pa_cons (pd_ix (fun _ _ => rfl) (pd_var (i := 0) rfl) (pd_int)) (pa_nil))) (pa_cons (pd_str) (pa_cons (pd_callTy call_strX real_strX rfl (zs "str" (by decide)) bt_str (pa_cons (pd_ix (fun _ _ => rfl) (pd_var (i := 0) rfl) (pd_int)) (pa_nil))) (pa_nil))))))) (pss_nil)) (pss_cons (ps_if (pt_cmp (L2.op_eqD hr.units) real_eq (by rfl) (pd_var (i := 1) rfl) (pd_str)) (pss_one (ps_ret (pd_lst (pa_cons (pd_ix (fun _ _ => rfl) (pd_var (i := 0) rfl) (pd_int)) (pa_nil))))) (pss_nil)) (pss_cons (ps_if (pt_cmp (L2.op_eqD hr.units) real_eq (by rfl) (pd_var (i := 1) rfl) (pd_str)) (pss_one (ps_ret (pd_lst (pa_cons (pd_ix (fun _ _ => rfl) (pd_var (i := 0) rfl) (pd_int)) (pa_cons (pd_str) (pa_cons (pd_ix (fun _ _ => rfl) (pd_var (i := 0) rfl) (pd_int)) (pa_nil))))))) (pss_nil)) (pss_cons (ps_if (pt_cmp (L2.op_eqD hr.units) real_eq (by rfl) (pd_var (i := 1) rfl) (pd_str)) (pss_one (ps_ret (pd_add (pd_add (pd_lst (pa_cons (pd_ix (fun _ _ => rfl) (pd_var (i := 0) rfl) (pd_int)) (pa_cons (pd_str) (pa_nil)))) (pd_call (y := "_law_expr_tokens") (ok "_law_expr_tokens" (by decide)) hr rfl (pa_cons (pd_ix (fun _ _ => rfl) (pd_var (i := 0) rfl) (pd_int)) (pa_nil)))) (pd_lst (pa_cons (pd_str) (pa_nil)))))) (pss_nil)) (pss_cons (ps_if (pt_cmp (L2.op_eqD hr.units) real_eq (by rfl) (pd_var (i := 1) rfl) (pd_str)) (pss_one (ps_ret (pd_lst (pa_cons (pd_str) (pa_nil))))) (pss_nil)) (pss_cons (ps_if (pt_cmp (L2.op_eqD hr.units) real_eq (by rfl) (pd_var (i := 1) rfl) (pd_str)) (pss_one (ps_ret (pd_add (pd_lst (pa_cons (pd_str) (pa_nil))) (pd_call (y := "_law_inner_tokens") (ok "_law_inner_tokens" (by decide)) hr rfl (pa_cons (pd_ix (fun _ _ => rfl) (pd_var (i := 0) rfl) (pd_int)) (pa_cons (pd_int) (pa_nil))))))) (pss_nil)) (pss_cons (ps_if (pt_cmp (L2.op_eqD hr.units) real_eq (by rfl) (pd_var (i := 1) rfl) (pd_str)) (pss_one (ps_ret (pd_add (pd_lst (pa_cons (pd_str) (pa_nil))) (pd_call (y := "_law_inner_tokens") (ok "_law_inner_tokens" (by decide)) hr rfl (pa_cons (pd_ix (fun _ _ => rfl) (pd_var (i := 0) rfl) (pd_int)) (pa_cons (pd_int) (pa_nil))))))) (pss_nil)) (pss_cons (ps_if (pt_cmp (L2.op_eqD hr.units) real_eq (by rfl) (pd_var (i := 1) rfl) (pd_str)) (pss_one (ps_ret (pd_add (pd_add (pd_lst (pa_cons (pd_str) (pa_cons (pd_str) (pa_nil)))) (pd_call (y := "_law_expr_tokens") (ok "_law_expr_tokens" (by decide)) hr rfl (pa_cons (pd_ix (fun _ _ => rfl) (pd_var (i := 0) rfl) (pd_int)) (pa_nil)))) (pd_lst (pa_cons (pd_str) (pa_cons (pd_callTy call_strX real_strX rfl (zs "str" (by decide)) bt_str (pa_cons (pd_ix (fun _ _ => rfl) (pd_var (i := 0) rfl) (pd_int)) (pa_nil))) (pa_cons (pd_str) (pa_nil)))))))) (pss_nil)) (pss_cons (ps_if (pt_cmp L2.op_in_seq (real_in false) (by rfl) (pd_var (i := 1) rfl) (pd_tup (pa_cons (pd_str) (pa_cons (pd_str) (pa_cons (pd_str) (pa_nil)))))) (pss_one (ps_ret (pd_add (pd_add (pd_lst (pa_cons (pd_var (i := 1) rfl) (pa_cons (pd_str) (pa_nil)))) (pd_call (y := "_law_listed") (ok "_law_listed" (by decide)) hr rfl (pa_cons (pd_sl (pd_var (i := 0) rfl) (po_some (pd_int)) (po_none)) (pa_nil)))) (pd_lst (pa_cons (pd_str) (pa_nil)))))) (pss_nil)) (pss_cons (ps_set (i := 2) nd rfl (by first | exact .inl rfl | exact .inr rfl) (pd_call (y := "_law_level") (ok "_law_level" (by decide)) hr rfl (pa_cons (pd_var (i := 0) rfl) (pa_nil)))) (pss_one (ps_ret (pd_add (pd_add (pd_call (y := "_law_inner_tokens") (ok "_law_inner_tokens" (by decide)) hr rfl (pa_cons (pd_ix (fun _ _ => rfl) (pd_var (i := 0) rfl) (pd_int)) (pa_cons (pd_add (pd_var (i := 2) rfl) (pd_callTy L2.call_int1 real_intB rfl (zs "int" (by decide)) bt_int (pa_cons (pd_cmp (L2.op_eqD hr.units) real_eq (by rfl) (pd_var (i := 2) rfl) (pd_int)) (pa_nil)))) (pa_nil)))) (pd_lst (pa_cons (pd_var (i := 1) rfl) (pa_nil)))) (pd_call (y := "_law_inner_tokens") (ok "_law_inner_tokens" (by decide)) hr rfl (pa_cons (pd_ix (fun _ _ => rfl) (pd_var (i := 0) rfl) (pd_int)) (pa_cons (pd_add (pd_var (i := 2) rfl) (pd_int)) (pa_nil)))))))))))))))))
theorem der_l_block_tokens {k : Nat} {c : Cl} (ok : ∀ y ∈ names, Own P w K mg base k (Str.ofString y) (c y)) (oks : ∀ q ∈ snames, OwnS P w K mg base k q.2 (Str.ofString q.1) (c q.1)) (zs : ∀ y ∈ blts, mg (Str.ofString y) = none) (cs_LEVELS : GlobDic K w mg "LEVELS" k_LEVELS) {fa : Addr} (cdv : Value) (A : Around) (outer : List PySem.Env) (s : Shared) (H : L2.Hp) (E : L2.XK) (hr : L2.Room k (A.deeper (envOfC "_law_block_tokens" (L2.defScope sl_block_tokens) s.heap.objs.size fa cdv))) :
    PDSs (L2.cxOf L2.CX0 P w K mg base nl_block_tokens "_law_block_tokens" (L2.defScope sl_block_tokens) fa cdv A outer s H E).nox (L2.defBody sl_block_tokens) (b_l_block_tokens c) := by
  have nd := scl_block_tokens.nd
  unfold b_l_block_tokens
  exact pss_cons (ps_set (i := 1) nd rfl (by first | exact .inl rfl | exact .inr rfl) (pd_lst (pa_cons (pd_str) (pa_nil)))) (pss_cons (ps_for PassesOwn.never rfl (pi_seq (pd_var (i := 0) rfl)) (pg_name (i := 2) nd rfl (by first | exact .inl rfl | exact .inr rfl)) (pss_one (ps_expr (pd_m mt_extendA real_extendA ty_list PySem.F.plainAttrs_list PySem.F.slot_list_extend PySem.F.type_list_extend (pd_var (i := 1) rfl) (pa_cons (pd_call (y := "_law_statement_tokens") (ok "_law_statement_tokens" (by decide)) hr rfl (pa_cons (pd_var (i := 2) rfl) (pa_nil))) (pa_nil)))))) (pss_one (ps_ret (pd_add (pd_var (i := 1) rfl) (pd_lst (pa_cons (pd_str) (pa_nil)))))))
theorem der_l_statement_tokens {k : Nat} {c : Cl} (ok : ∀ y ∈ names, Own P w K mg base k (Str.ofString y) (c y)) (oks : ∀ q ∈ snames, OwnS P w K mg base k q.2 (Str.ofString q.1) (c q.1)) (zs : ∀ y ∈ blts, mg (Str.ofString y) = none) (cs_LEVELS : GlobDic K w mg "LEVELS" k_LEVELS) {fa : Addr} (cdv : Value) (A : Around) (outer : List PySem.Env) (s : Shared) (H : L2.Hp) (E : L2.XK) (hr : L2.Room k (A.deeper (envOfC "_law_statement_tokens" (L2.defScope sl_statement_tokens) s.heap.objs.size fa cdv))) :
    PDSs (L2.cxOf L2.CX0 P w K mg base nl_statement_tokens "_law_statement_tokens" (L2.defScope sl_statement_tokens) fa cdv A outer s H E).nox (L2.defBody sl_statement_tokens) (b_l_statement_tokens c) := by
  have nd := scl_statement_tokens.nd
  unfold b_l_statement_tokens
  exact pss_cons (ps_set (i := 1) nd rfl (by first | exact .inl rfl | exact .inr rfl) (pd_ix (fun _ _ => rfl) (pd_var (i := 0) rfl) (pd_int))) (pss_cons (ps_if (pt_cmp (L2.op_eqD hr.units) real_eq (by rfl) (pd_var (i := 1) rfl) (pd_str)) (pss_one (ps_ret (pd_add (pd_add (pd_add (pd_add (pd_lst (pa_cons (pd_var (i := 1) rfl) (pa_nil))) (pd_call (y := "_law_expr_tokens") (ok "_law_expr_tokens" (by decide)) hr rfl (pa_cons (pd_ix (fun _ _ => rfl) (pd_var (i := 0) rfl) (pd_int)) (pa_nil)))) (pd_lst (pa_cons (pd_str) (pa_nil)))) (pd_call (y := "_law_expr_tokens") (ok "_law_expr_tokens" (by decide)) hr rfl (pa_cons (pd_ix (fun _ _ => rfl) (pd_var (i := 0) rfl) (pd_int)) (pa_nil)))) (pd_lst (pa_cons (pd_str) (pa_nil)))))) (pss_nil)) (pss_cons (ps_if (pt_cmp (L2.op_eqD hr.units) real_eq (by rfl) (pd_var (i := 1) rfl) (pd_str)) (pss_one (ps_ret (pd_lst (pa_cons (pd_var (i := 1) rfl) (pa_cons (pd_ix (fun _ _ => rfl) (pd_var (i := 0) rfl) (pd_int)) (pa_cons (pd_str) (pa_cons (pd_ix (fun _ _ => rfl) (pd_var (i := 0) rfl) (pd_int)) (pa_cons (pd_str) (pa_nil))))))))) (pss_nil)) (pss_cons (ps_if (pt_cmp (L2.op_eqD hr.units) real_eq (by rfl) (pd_var (i := 1) rfl) (pd_str)) (pss_cons (ps_set (i := 2) nd rfl (by first | exact .inl rfl | exact .inr rfl) (pd_if (pt_cmp L2.op_isN real_is (by rfl) (pd_ix (fun _ _ => rfl) (pd_var (i := 0) rfl) (pd_int)) (pd_non)) (pd_lst (pa_nil)) (pd_lst (pa_cons (pd_ix (fun _ _ => rfl) (pd_var (i := 0) rfl) (pd_int)) (pa_cons (pd_str) (pa_nil)))))) (pss_one (ps_ret (pd_add (pd_add (pd_add (pd_add (pd_lst (pa_cons (pd_var (i := 1) rfl) (pa_nil))) (pd_var (i := 2) rfl)) (pd_lst (pa_cons (pd_ix (fun _ _ => rfl) (pd_var (i := 0) rfl) (pd_int)) (pa_cons (pd_str) (pa_nil))))) (pd_call (y := "_law_listed") (ok "_law_listed" (by decide)) hr rfl (pa_cons (pd_ix (fun _ _ => rfl) (pd_var (i := 0) rfl) (pd_int)) (pa_nil)))) (pd_lst (pa_cons (pd_str) (pa_cons (pd_str) (pa_nil)))))))) (pss_nil)) (pss_cons (ps_if (pt_cmp (L2.op_eqD hr.units) real_eq (by rfl) (pd_var (i := 1) rfl) (pd_str)) (pss_cons (ps_set (i := 3) nd rfl (by first | exact .inl rfl | exact .inr rfl) (pd_if (pt_tru (pd_ix (fun _ _ => rfl) (pd_var (i := 0) rfl) (pd_int))) (pd_add (pd_lst (pa_cons (pd_str) (pa_nil))) (pd_call (y := "_law_block_tokens") (ok "_law_block_tokens" (by decide)) hr rfl (pa_cons (pd_ix (fun _ _ => rfl) (pd_var (i := 0) rfl) (pd_int)) (pa_nil)))) (pd_lst (pa_nil)))) (pss_one (ps_ret (pd_add (pd_add (pd_add (pd_lst (pa_cons (pd_var (i := 1) rfl) (pa_nil))) (pd_call (y := "_law_expr_tokens") (ok "_law_expr_tokens" (by decide)) hr rfl (pa_cons (pd_ix (fun _ _ => rfl) (pd_var (i := 0) rfl) (pd_int)) (pa_nil)))) (pd_call (y := "_law_block_tokens") (ok "_law_block_tokens" (by decide)) hr rfl (pa_cons (pd_ix (fun _ _ => rfl) (pd_var (i := 0) rfl) (pd_int)) (pa_nil)))) (pd_var (i := 3) rfl))))) (pss_nil)) (pss_cons (ps_if (pt_cmp (L2.op_eqD hr.units) real_eq (by rfl) (pd_var (i := 1) rfl) (pd_str)) (pss_one (ps_ret (pd_add (pd_add (pd_lst (pa_cons (pd_var (i := 1) rfl) (pa_nil))) (pd_call (y := "_law_expr_tokens") (ok "_law_expr_tokens" (by decide)) hr rfl (pa_cons (pd_ix (fun _ _ => rfl) (pd_var (i := 0) rfl) (pd_int)) (pa_nil)))) (pd_call (y := "_law_block_tokens") (ok "_law_block_tokens" (by decide)) hr rfl (pa_cons (pd_ix (fun _ _ => rfl) (pd_var (i := 0) rfl) (pd_int)) (pa_nil)))))) (pss_nil)) (pss_cons (ps_if (pt_cmp (L2.op_eqD hr.units) real_eq (by rfl) (pd_var (i := 1) rfl) (pd_str)) (pss_cons (ps_set (i := 4) nd rfl (by first | exact .inl rfl | exact .inr rfl) (pd_add (pd_lst (pa_cons (pd_var (i := 1) rfl) (pa_nil))) (pd_call (y := "_law_block_tokens") (ok "_law_block_tokens" (by decide)) hr rfl (pa_cons (pd_ix (fun _ _ => rfl) (pd_var (i := 0) rfl) (pd_int)) (pa_nil))))) (pss_cons (ps_for PassesOwn.never rfl (pi_seq (pd_ix (fun _ _ => rfl) (pd_var (i := 0) rfl) (pd_int))) (pg_tup rfl (pgs_cons (pg_name (i := 5) nd rfl (by first | exact .inl rfl | exact .inr rfl)) (pgs_cons (pg_name (i := 6) nd rfl (by first | exact .inl rfl | exact .inr rfl)) (pgs_nil)))) (pss_one (ps_expr (pd_m mt_extendA real_extendA ty_list PySem.F.plainAttrs_list PySem.F.slot_list_extend PySem.F.type_list_extend (pd_var (i := 4) rfl) (pa_cons (pd_add (pd_lst (pa_cons (pd_str) (pa_cons (pd_var (i := 5) rfl) (pa_nil)))) (pd_call (y := "_law_block_tokens") (ok "_law_block_tokens" (by decide)) hr rfl (pa_cons (pd_var (i := 6) rfl) (pa_nil)))) (pa_nil)))))) (pss_one (ps_ret (pd_var (i := 4) rfl))))) (pss_nil)) (pss_cons (ps_if (pt_cmp (L2.op_eqD hr.units) real_eq (by rfl) (pd_var (i := 1) rfl) (pd_str)) (pss_one (ps_ret (pd_lst (pa_cons (pd_var (i := 1) rfl) (pa_cons (pd_ix (fun _ _ => rfl) (pd_var (i := 0) rfl) (pd_int)) (pa_cons (pd_str) (pa_nil))))))) (pss_nil)) (pss_one (ps_ret (pd_add (pd_add (pd_lst (pa_cons (pd_var (i := 1) rfl) (pa_nil))) (pd_call (y := "_law_expr_tokens") (ok "_law_expr_tokens" (by decide)) hr rfl (pa_cons (pd_ix (fun _ _ => rfl) (pd_var (i := 0) rfl) (pd_int)) (pa_nil)))) (pd_lst (pa_cons (pd_str) (pa_nil)))))))))))))
theorem der_l_params_tokens {k : Nat} {c : Cl} (ok : ∀ y ∈ names, Own P w K mg base k (Str.ofString y) (c y)) (oks : ∀ q ∈ snames, OwnS P w K mg base k q.2 (Str.ofString q.1) (c q.1)) (zs : ∀ y ∈ blts, mg (Str.ofString y) = none) (cs_LEVELS : GlobDic K w mg "LEVELS" k_LEVELS) {fa : Addr} (cdv : Value) (A : Around) (outer : List PySem.Env) (s : Shared) (H : L2.Hp) (E : L2.XK) (hr : L2.Room k (A.deeper (envOfC "_law_params_tokens" (L2.defScope sl_params_tokens) s.heap.objs.size fa cdv))) :
    PDSs (L2.cxOf L2.CX0 P w K mg base nl_params_tokens "_law_params_tokens" (L2.defScope sl_params_tokens) fa cdv A outer s H E).nox (L2.defBody sl_params_tokens) (b_l_params_tokens c) := by
  have nd := scl_params_tokens.nd
  unfold b_l_params_tokens
  exact pss_cons (ps_set (i := 1) nd rfl (by first | exact .inl rfl | exact .inr rfl) (pd_lst (pa_cons (pd_str) (pa_nil)))) (pss_cons (ps_for PassesOwn.never rfl (pi_seq (pd_var (i := 0) rfl)) (pg_name (i := 2) nd rfl (by first | exact .inl rfl | exact .inr rfl)) (pss_cons (ps_if (pt_cmp L2.op_gt real_gt (by rfl) (pd_callB L2.call_len real_lenB rfl (zs "len" (by decide)) bt_len (pa_cons (pd_var (i := 1) rfl) (pa_nil))) (pd_int)) (pss_one (ps_expr (pd_m L2.mt_append real_append ty_list PySem.F.plainAttrs_list PySem.F.slot_list_append PySem.F.type_list_append (pd_var (i := 1) rfl) (pa_cons (pd_str) (pa_nil))))) (pss_nil)) (pss_one (ps_expr (pd_m mt_extendA real_extendA ty_list PySem.F.plainAttrs_list PySem.F.slot_list_extend PySem.F.type_list_extend (pd_var (i := 1) rfl) (pa_cons (pd_lst (pa_cons (pd_ix (fun _ _ => rfl) (pd_var (i := 2) rfl) (pd_int)) (pa_cons (pd_str) (pa_cons (pd_callTy call_strX real_strX rfl (zs "str" (by decide)) bt_str (pa_cons (pd_ix (fun _ _ => rfl) (pd_var (i := 2) rfl) (pd_int)) (pa_nil))) (pa_nil))))) (pa_nil))))))) (pss_one (ps_ret (pd_add (pd_var (i := 1) rfl) (pd_lst (pa_cons (pd_str) (pa_nil)))))))
theorem der_l_part_tokens {k : Nat} {c : Cl} (ok : ∀ y ∈ names, Own P w K mg base k (Str.ofString y) (c y)) (oks : ∀ q ∈ snames, OwnS P w K mg base k q.2 (Str.ofString q.1) (c q.1)) (zs : ∀ y ∈ blts, mg (Str.ofString y) = none) (cs_LEVELS : GlobDic K w mg "LEVELS" k_LEVELS) {fa : Addr} (cdv : Value) (A : Around) (outer : List PySem.Env) (s : Shared) (H : L2.Hp) (E : L2.XK) (hr : L2.Room k (A.deeper (envOfC "_law_part_tokens" (L2.defScope sl_part_tokens) s.heap.objs.size fa cdv))) :
    PDSs (L2.cxOf L2.CX0 P w K mg base nl_part_tokens "_law_part_tokens" (L2.defScope sl_part_tokens) fa cdv A outer s H E).nox (L2.defBody sl_part_tokens) (b_l_part_tokens c) := by
  have nd := scl_part_tokens.nd
  unfold b_l_part_tokens
  exact pss_cons (ps_if (pt_cmp (L2.op_eqD hr.units) real_eq (by rfl) (pd_ix (fun _ _ => rfl) (pd_var (i := 0) rfl) (pd_int)) (pd_str)) (pss_cons (ps_set (i := 1) nd rfl (by first | exact .inl rfl | exact .inr rfl) (pd_lst (pa_cons (pd_str) (pa_cons (pd_ix (fun _ _ => rfl) (pd_var (i := 0) rfl) (pd_int)) (pa_cons (pd_str) (pa_nil)))))) (pss_cons (ps_for PassesOwn.never rfl (pi_seq (pd_ix (fun _ _ => rfl) (pd_var (i := 0) rfl) (pd_int))) (pg_name (i := 2) nd rfl (by first | exact .inl rfl | exact .inr rfl)) (pss_one (ps_expr (pd_m mt_extendA real_extendA ty_list PySem.F.plainAttrs_list PySem.F.slot_list_extend PySem.F.type_list_extend (pd_var (i := 1) rfl) (pa_cons (pd_lst (pa_cons (pd_ix (fun _ _ => rfl) (pd_var (i := 2) rfl) (pd_int)) (pa_cons (pd_str) (pa_cons (pd_callTy call_strX real_strX rfl (zs "str" (by decide)) bt_str (pa_cons (pd_ix (fun _ _ => rfl) (pd_var (i := 2) rfl) (pd_int)) (pa_nil))) (pa_cons (pd_str) (pa_nil)))))) (pa_nil)))))) (pss_one (ps_ret (pd_add (pd_var (i := 1) rfl) (pd_lst (pa_cons (pd_str) (pa_nil)))))))) (pss_nil)) (pss_cons (ps_if (pt_cmp (L2.op_eqD hr.units) real_eq (by rfl) (pd_ix (fun _ _ => rfl) (pd_var (i := 0) rfl) (pd_int)) (pd_str)) (pss_cons (ps_set (i := 1) nd rfl (by first | exact .inl rfl | exact .inr rfl) (pd_add (pd_add (pd_lst (pa_cons (pd_str) (pa_cons (pd_ix (fun _ _ => rfl) (pd_var (i := 0) rfl) (pd_int)) (pa_nil)))) (pd_call (y := "_law_params_tokens") (ok "_law_params_tokens" (by decide)) hr rfl (pa_cons (pd_ix (fun _ _ => rfl) (pd_var (i := 0) rfl) (pd_int)) (pa_nil)))) (pd_lst (pa_cons (pd_str) (pa_cons (pd_callTy call_strX real_strX rfl (zs "str" (by decide)) bt_str (pa_cons (pd_ix (fun _ _ => rfl) (pd_var (i := 0) rfl) (pd_int)) (pa_nil))) (pa_nil)))))) (pss_cons (ps_if (pt_cmp (L2.op_eqD hr.units) real_eq (by rfl) (pd_ix (fun _ _ => rfl) (pd_var (i := 0) rfl) (pd_int)) (pd_int)) (pss_one (ps_expr (pd_m L2.mt_append real_append ty_list PySem.F.plainAttrs_list PySem.F.slot_list_append PySem.F.type_list_append (pd_var (i := 1) rfl) (pa_cons (pd_str) (pa_nil))))) (pss_nil)) (pss_one (ps_ret (pd_add (pd_add (pd_add (pd_add (pd_add (pd_var (i := 1) rfl) (pd_lst (pa_cons (pd_str) (pa_nil)))) (pd_call (y := "_law_expr_tokens") (ok "_law_expr_tokens" (by decide)) hr rfl (pa_cons (pd_ix (fun _ _ => rfl) (pd_var (i := 0) rfl) (pd_int)) (pa_nil)))) (pd_lst (pa_cons (pd_str) (pa_nil)))) (pd_call (y := "_law_expr_tokens") (ok "_law_expr_tokens" (by decide)) hr rfl (pa_cons (pd_ix (fun _ _ => rfl) (pd_var (i := 0) rfl) (pd_int)) (pa_nil)))) (pd_lst (pa_cons (pd_str) (pa_nil)))))))) (pss_nil)) (pss_cons (ps_set (i := 1) nd rfl (by first | exact .inl rfl | exact .inr rfl) (pd_if (pt_cmp (L2.op_eqD hr.units) real_eq (by rfl) (pd_ix (fun _ _ => rfl) (pd_var (i := 0) rfl) (pd_int)) (pd_int)) (pd_lst (pa_cons (pd_str) (pa_nil))) (pd_lst (pa_nil)))) (pss_cons (ps_expr (pd_m mt_extendA real_extendA ty_list PySem.F.plainAttrs_list PySem.F.slot_list_extend PySem.F.type_list_extend (pd_var (i := 1) rfl) (pa_cons (pd_add (pd_add (pd_lst (pa_cons (pd_str) (pa_cons (pd_ix (fun _ _ => rfl) (pd_var (i := 0) rfl) (pd_int)) (pa_nil)))) (pd_call (y := "_law_params_tokens") (ok "_law_params_tokens" (by decide)) hr rfl (pa_cons (pd_ix (fun _ _ => rfl) (pd_var (i := 0) rfl) (pd_int)) (pa_nil)))) (pd_lst (pa_cons (pd_str) (pa_cons (pd_callTy call_strX real_strX rfl (zs "str" (by decide)) bt_str (pa_cons (pd_ix (fun _ _ => rfl) (pd_var (i := 0) rfl) (pd_int)) (pa_nil))) (pa_cons (pd_str) (pa_nil)))))) (pa_nil)))) (pss_cons (ps_for PassesOwn.never rfl (pi_seq (pd_ix (fun _ _ => rfl) (pd_var (i := 0) rfl) (pd_int))) (pg_name (i := 2) nd rfl (by first | exact .inl rfl | exact .inr rfl)) (pss_cons (ps_expr (pd_m mt_extendA real_extendA ty_list PySem.F.plainAttrs_list PySem.F.slot_list_extend PySem.F.type_list_extend (pd_var (i := 1) rfl) (pa_cons (pd_lst (pa_cons (pd_str) (pa_cons (pd_ix (fun _ _ => rfl) (pd_var (i := 2) rfl) (pd_int)) (pa_cons (pd_str) (pa_cons (pd_callTy call_strX real_strX rfl (zs "str" (by decide)) bt_str (pa_cons (pd_ix (fun _ _ => rfl) (pd_var (i := 2) rfl) (pd_int)) (pa_nil))) (pa_nil)))))) (pa_nil)))) (pss_cons (ps_if (pt_cmp (L2.op_eqD hr.units) real_eq (by rfl) (pd_callB L2.call_len real_lenB rfl (zs "len" (by decide)) bt_len (pa_cons (pd_var (i := 2) rfl) (pa_nil))) (pd_int)) (pss_one (ps_expr (pd_m mt_extendA real_extendA ty_list PySem.F.plainAttrs_list PySem.F.slot_list_extend PySem.F.type_list_extend (pd_var (i := 1) rfl) (pa_cons (pd_lst (pa_cons (pd_str) (pa_cons (pd_callTy call_strX real_strX rfl (zs "str" (by decide)) bt_str (pa_cons (pd_ix (fun _ _ => rfl) (pd_var (i := 2) rfl) (pd_int)) (pa_nil))) (pa_cons (pd_str) (pa_nil))))) (pa_nil))))) (pss_nil)) (pss_one (ps_expr (pd_m L2.mt_append real_append ty_list PySem.F.plainAttrs_list PySem.F.slot_list_append PySem.F.type_list_append (pd_var (i := 1) rfl) (pa_cons (pd_str) (pa_nil)))))))) (pss_one (ps_ret (pd_add (pd_var (i := 1) rfl) (pd_sl (pd_call (y := "_law_block_tokens") (ok "_law_block_tokens" (by decide)) hr rfl (pa_cons (pd_ix (fun _ _ => rfl) (pd_var (i := 0) rfl) (pd_int)) (pa_nil))) (po_some (pd_int)) (po_none)))))))))
theorem der_l_lines {k : Nat} {c : Cl} (ok : ∀ y ∈ names, Own P w K mg base k (Str.ofString y) (c y)) (oks : ∀ q ∈ snames, OwnS P w K mg base k q.2 (Str.ofString q.1) (c q.1)) (zs : ∀ y ∈ blts, mg (Str.ofString y) = none) (cs_LEVELS : GlobDic K w mg "LEVELS" k_LEVELS) {fa : Addr} (cdv : Value) (A : Around) (outer : List PySem.Env) (s : Shared) (H : L2.Hp) (E : L2.XK) (hr : L2.Room k (A.deeper (envOfC "_law_lines" (L2.defScope sl_lines) s.heap.objs.size fa cdv))) :
    PDSs (L2.cxOf L2.CX0 P w K mg base nl_lines "_law_lines" (L2.defScope sl_lines) fa cdv A outer s H E).nox (L2.defBody sl_lines) (b_l_lines c) := by
  have nd := scl_lines.nd
  unfold b_l_lines
  exact pss_cons (ps_set (i := 1) nd rfl (by first | exact .inl rfl | exact .inr rfl) (pd_str)) (pss_cons (ps_for PassesOwn.never rfl (pi_seq (pd_var (i := 0) rfl)) (pg_name (i := 2) nd rfl (by first | exact .inl rfl | exact .inr rfl)) (pss_one (ps_set (i := 1) nd rfl (by first | exact .inl rfl | exact .inr rfl) (pd_add (pd_add (pd_var (i := 1) rfl) (pd_var (i := 2) rfl)) (pd_if (pt_cmp L2.op_in_seq (real_in false) (by rfl) (pd_var (i := 2) rfl) (pd_tup (pa_cons (pd_str) (pa_cons (pd_str) (pa_cons (pd_str) (pa_nil)))))) (pd_str) (pd_str)))))) (pss_one (ps_ret (pd_var (i := 1) rfl))))
theorem der_l_text {k : Nat} {c : Cl} (ok : ∀ y ∈ names, Own P w K mg base k (Str.ofString y) (c y)) (oks : ∀ q ∈ snames, OwnS P w K mg base k q.2 (Str.ofString q.1) (c q.1)) (zs : ∀ y ∈ blts, mg (Str.ofString y) = none) (cs_LEVELS : GlobDic K w mg "LEVELS" k_LEVELS) {fa : Addr} (cdv : Value) (A : Around) (outer : List PySem.Env) (s : Shared) (H : L2.Hp) (E : L2.XK) (hr : L2.Room k (A.deeper (envOfC "_law_text" (L2.defScope sl_text) s.heap.objs.size fa cdv))) :
    PDSs (L2.cxOf L2.CX0 P w K mg base nl_text "_law_text" (L2.defScope sl_text) fa cdv A outer s H E).nox (L2.defBody sl_text) (b_l_text c) := by
  have nd := scl_text.nd
  unfold b_l_text
  exact pss_one (ps_ret (pd_call (y := "_law_lines") (ok "_law_lines" (by decide)) hr rfl (pa_cons (pd_call (y := "_law_part_tokens") (ok "_law_part_tokens" (by decide)) hr rfl (pa_cons (pd_var (i := 0) rfl) (pa_nil))) (pa_nil))))
theorem der_l_write {k : Nat} {c : Cl} (ok : ∀ y ∈ names, Own P w K mg base k (Str.ofString y) (c y)) (oks : ∀ q ∈ snames, OwnS P w K mg base k q.2 (Str.ofString q.1) (c q.1)) (zs : ∀ y ∈ blts, mg (Str.ofString y) = none) (cs_LEVELS : GlobDic K w mg "LEVELS" k_LEVELS) {fa : Addr} (cdv : Value) (A : Around) (outer : List PySem.Env) (s : Shared) (H : L2.Hp) (E : L2.XK) (hr : L2.Room k (A.deeper (envOfC "_law_write" (L2.defScope sl_write) s.heap.objs.size fa cdv))) :
    PDSs (L2.cxOf L2.CX0 P w K mg base nl_write "_law_write" (L2.defScope sl_write) fa cdv A outer s H E).nox (L2.defBody sl_write) (b_l_write c) := by
  have nd := scl_write.nd
  unfold b_l_write
  exact pss_one (ps_ret (pd_m L2.mt_join real_join ty_str PySem.F.plainAttrs_str PySem.F.slot_str_join PySem.F.type_str_join (pd_str) (pa_cons (pd_lc (own := [("_law_part", 1)]) rfl nd (pi_seq (pd_var (i := 0) rfl)) (L2.blkOk_by (N := nl_write) (sc := L2.defScope sl_write) (by decide +kernel)) (fun _ _ _ _ _ => pg_name (i := 1) nd rfl (by first | exact .inl rfl | exact .inr rfl)) (fun _ _ _ _ _ => pts_nil) (fun _ _ _ _ _ => pd_call (y := "_law_text") (ok "_law_text" (by decide)) hr rfl (pa_cons (pd_var (i := 1) rfl) (pa_nil))) (by decide)) (pa_nil))))
theorem der_l_reserved {k : Nat} {c : Cl} (ok : ∀ y ∈ names, Own P w K mg base k (Str.ofString y) (c y)) (oks : ∀ q ∈ snames, OwnS P w K mg base k q.2 (Str.ofString q.1) (c q.1)) (zs : ∀ y ∈ blts, mg (Str.ofString y) = none) (cs_LEVELS : GlobDic K w mg "LEVELS" k_LEVELS) {fa : Addr} (cdv : Value) (A : Around) (outer : List PySem.Env) (s : Shared) (H : L2.Hp) (E : L2.XK) (hr : L2.Room k (A.deeper (envOfC "_law_reserved" (L2.defScope sl_reserved) s.heap.objs.size fa cdv))) :
    PDSs (L2.cxOf L2.CX0 P w K mg base nl_reserved "_law_reserved" (L2.defScope sl_reserved) fa cdv A outer s H E).nox (L2.defBody sl_reserved) (b_l_reserved c) := by
  have nd := scl_reserved.nd
  unfold b_l_reserved
  exact pss_cons (ps_set (i := 0) nd rfl (by first | exact .inl rfl | exact .inr rfl) (pd_str)) (pss_one (ps_ret (pd_m L2.mt_split real_split ty_str PySem.F.plainAttrs_str PySem.F.slot_str_split PySem.F.type_str_split (pd_add (pd_var (i := 0) rfl) (pd_str)) (pa_cons (pd_str) (pa_nil)))))
theorem der_l_any_name {k : Nat} {c : Cl} (ok : ∀ y ∈ names, Own P w K mg base k (Str.ofString y) (c y)) (oks : ∀ q ∈ snames, OwnS P w K mg base k q.2 (Str.ofString q.1) (c q.1)) (zs : ∀ y ∈ blts, mg (Str.ofString y) = none) (cs_LEVELS : GlobDic K w mg "LEVELS" k_LEVELS) {fa : Addr} (cdv : Value) (A : Around) (outer : List PySem.Env) (s : Shared) (H : L2.Hp) (E : L2.XK) (hr : L2.Room k (A.deeper (envOfC "_law_any_name" (L2.defScope sl_any_name) s.heap.objs.size fa cdv))) :
    PDSs (L2.cxOf L2.CX0 P w K mg base nl_any_name "_law_any_name" (L2.defScope sl_any_name) fa cdv A outer s H E).nox (L2.defBody sl_any_name) (b_l_any_name c) := by
  have nd := scl_any_name.nd
  unfold b_l_any_name
  exact pss_cons (ps_set (i := 1) nd rfl (by first | exact .inl rfl | exact .inr rfl) (pd_str)) (pss_cons (ps_set (i := 2) nd rfl (by first | exact .inl rfl | exact .inr rfl) (pd_add (pd_var (i := 1) rfl) (pd_str))) (pss_cons (ps_set (i := 3) nd rfl (by first | exact .inl rfl | exact .inr rfl) (pd_call (y := "_law_draw") (ok "_law_draw" (by decide)) hr rfl (pa_cons (pd_var (i := 0) rfl) (pa_cons (pd_int) (pa_nil))))) (pss_cons (ps_set (i := 4) nd rfl (by first | exact .inl rfl | exact .inr rfl) (pd_call (y := "_law_pick") (ok "_law_pick" (by decide)) hr rfl (pa_cons (pd_var (i := 0) rfl) (pa_cons (pd_var (i := 1) rfl) (pa_nil))))) (pss_cons (ps_if (pt_cmp (L2.op_eqD hr.units) real_eq (by rfl) (pd_var (i := 3) rfl) (pd_int)) (pss_one (ps_set (i := 4) nd rfl (by first | exact .inl rfl | exact .inr rfl) (pd_add (pd_call (y := "_law_pick") (ok "_law_pick" (by decide)) hr rfl (pa_cons (pd_var (i := 0) rfl) (pa_cons (pd_call0 (y := "_law_reserved") (ok "_law_reserved" (by decide)) hr rfl) (pa_nil)))) (pd_call (y := "_law_pick") (ok "_law_pick" (by decide)) hr rfl (pa_cons (pd_var (i := 0) rfl) (pa_cons (pd_var (i := 2) rfl) (pa_nil))))))) (pss_one (ps_if (pt_cmp (L2.op_eqD hr.units) real_eq (by rfl) (pd_var (i := 3) rfl) (pd_int)) (pss_one (ps_set (i := 4) nd rfl (by first | exact .inl rfl | exact .inr rfl) (pd_call (y := "_law_pick") (ok "_law_pick" (by decide)) hr rfl (pa_cons (pd_var (i := 0) rfl) (pa_cons (pd_lst (pa_cons (pd_str) (pa_cons (pd_str) (pa_cons (pd_str) (pa_cons (pd_str) (pa_cons (pd_str) (pa_cons (pd_str) (pa_cons (pd_str) (pa_cons (pd_str) (pa_cons (pd_str) (pa_cons (pd_str) (pa_nil)))))))))))) (pa_nil)))))) (pss_nil)))) (pss_cons (ps_for PassesOwn.never rfl (pi_r1 rfl (zs "range" (by decide)) (pd_ix (fun _ _ => rfl) (pd_lst (pa_cons (pd_int) (pa_cons (pd_int) (pa_cons (pd_int) (pa_cons (pd_int) (pa_cons (pd_int) (pa_cons (pd_int) (pa_cons (pd_int) (pa_nil))))))))) (pd_var (i := 3) rfl))) (pg_name (i := 5) nd rfl (by first | exact .inl rfl | exact .inr rfl)) (pss_one (ps_set (i := 4) nd rfl (by first | exact .inl rfl | exact .inr rfl) (pd_add (pd_var (i := 4) rfl) (pd_call (y := "_law_pick") (ok "_law_pick" (by decide)) hr rfl (pa_cons (pd_var (i := 0) rfl) (pa_cons (pd_var (i := 2) rfl) (pa_nil)))))))) (pss_cons (ps_if (pt_cmp L2.op_in_seq (real_in false) (by rfl) (pd_slS (pd_var (i := 4) rfl) (po_none) (po_some (pd_int))) (pd_call0 (y := "_law_reserved") (ok "_law_reserved" (by decide)) hr rfl)) (pss_one (ps_ret (pd_add (pd_slS (pd_var (i := 4) rfl) (po_none) (po_some (pd_int))) (pd_str)))) (pss_nil)) (pss_one (ps_ret (pd_slS (pd_var (i := 4) rfl) (po_none) (po_some (pd_int)))))))))))
theorem der_l_any_number {k : Nat} {c : Cl} (ok : ∀ y ∈ names, Own P w K mg base k (Str.ofString y) (c y)) (oks : ∀ q ∈ snames, OwnS P w K mg base k q.2 (Str.ofString q.1) (c q.1)) (zs : ∀ y ∈ blts, mg (Str.ofString y) = none) (cs_LEVELS : GlobDic K w mg "LEVELS" k_LEVELS) {fa : Addr} (cdv : Value) (A : Around) (outer : List PySem.Env) (s : Shared) (H : L2.Hp) (E : L2.XK) (hr : L2.Room k (A.deeper (envOfC "_law_any_number" (L2.defScope sl_any_number) s.heap.objs.size fa cdv))) :
    PDSs (L2.cxOf L2.CX0 P w K mg base nl_any_number "_law_any_number" (L2.defScope sl_any_number) fa cdv A outer s H E).nox (L2.defBody sl_any_number) (b_l_any_number c) := by
  have nd := scl_any_number.nd
  unfold b_l_any_number
  exact pss_cons (ps_set (i := 1) nd rfl (by first | exact .inl rfl | exact .inr rfl) (pd_call (y := "_law_draw") (ok "_law_draw" (by decide)) hr rfl (pa_cons (pd_var (i := 0) rfl) (pa_cons (pd_int) (pa_nil))))) (pss_cons (ps_if (pt_cmp (L2.op_eqD hr.units) real_eq (by rfl) (pd_var (i := 1) rfl) (pd_int)) (pss_one (ps_ret (pd_add (pd_int) (pd_call (y := "_law_draw") (ok "_law_draw" (by decide)) hr rfl (pa_cons (pd_var (i := 0) rfl) (pa_cons (pd_int) (pa_nil))))))) (pss_nil)) (pss_cons (ps_if (pt_cmp (L2.op_eqD hr.units) real_eq (by rfl) (pd_var (i := 1) rfl) (pd_int)) (pss_one (ps_ret (pd_call (y := "_law_pick") (ok "_law_pick" (by decide)) hr rfl (pa_cons (pd_var (i := 0) rfl) (pa_cons (pd_lst (pa_cons (pd_int) (pa_cons (pd_int) (pa_cons (pd_int) (pa_cons (pd_int) (pa_cons (pd_int) (pa_cons (pd_int) (pa_cons (pd_int) (pa_cons (pd_int) (pa_nil)))))))))) (pa_nil)))))) (pss_nil)) (pss_one (ps_ret (pd_call (y := "_law_draw") (ok "_law_draw" (by decide)) hr rfl (pa_cons (pd_var (i := 0) rfl) (pa_cons (pd_int) (pa_nil))))))))
theorem der_l_any_leaf {k : Nat} {c : Cl} (ok : ∀ y ∈ names, Own P w K mg base k (Str.ofString y) (c y)) (oks : ∀ q ∈ snames, OwnS P w K mg base k q.2 (Str.ofString q.1) (c q.1)) (zs : ∀ y ∈ blts, mg (Str.ofString y) = none) (cs_LEVELS : GlobDic K w mg "LEVELS" k_LEVELS) {fa : Addr} (cdv : Value) (A : Around) (outer : List PySem.Env) (s : Shared) (H : L2.Hp) (E : L2.XK) (hr : L2.Room k (A.deeper (envOfC "_law_any_leaf" (L2.defScope sl_any_leaf) s.heap.objs.size fa cdv))) :
    PDSs (L2.cxOf L2.CX0 P w K mg base nl_any_leaf "_law_any_leaf" (L2.defScope sl_any_leaf) fa cdv A outer s H E).nox (L2.defBody sl_any_leaf) (b_l_any_leaf c) := by
  have nd := scl_any_leaf.nd
  unfold b_l_any_leaf
  exact pss_cons (ps_set (i := 1) nd rfl (by first | exact .inl rfl | exact .inr rfl) (pd_call (y := "_law_draw") (ok "_law_draw" (by decide)) hr rfl (pa_cons (pd_var (i := 0) rfl) (pa_cons (pd_int) (pa_nil))))) (pss_cons (ps_if (ptw (pw_or (pt_cmp (L2.op_eqD hr.units) real_eq (by rfl) (pd_var (i := 1) rfl) (pd_int)) (pw_or1 (pt_cmp (L2.op_eqD hr.units) real_eq (by rfl) (pd_var (i := 1) rfl) (pd_int))))) (pss_cons (ps_set (i := 2) nd rfl (by first | exact .inl rfl | exact .inr rfl) (pd_call (y := "_law_any_number") (ok "_law_any_number" (by decide)) hr rfl (pa_cons (pd_var (i := 0) rfl) (pa_nil)))) (pss_one (ps_ret (pd_tup (pa_cons (pd_str) (pa_cons (pd_var (i := 2) rfl) (pa_cons (pd_call (y := "_law_any_number") (ok "_law_any_number" (by decide)) hr rfl (pa_cons (pd_var (i := 0) rfl) (pa_nil))) (pa_nil)))))))) (pss_nil)) (pss_cons (ps_if (pt_cmp (L2.op_eqD hr.units) real_eq (by rfl) (pd_var (i := 1) rfl) (pd_int)) (pss_cons (ps_set (i := 3) nd rfl (by first | exact .inl rfl | exact .inr rfl) (pd_call (y := "_law_any_name") (ok "_law_any_name" (by decide)) hr rfl (pa_cons (pd_var (i := 0) rfl) (pa_nil)))) (pss_one (ps_ret (pd_tup (pa_cons (pd_str) (pa_cons (pd_var (i := 3) rfl) (pa_cons (pd_call (y := "_law_any_name") (ok "_law_any_name" (by decide)) hr rfl (pa_cons (pd_var (i := 0) rfl) (pa_nil))) (pa_nil)))))))) (pss_nil)) (pss_cons (ps_if (pt_cmp (L2.op_eqD hr.units) real_eq (by rfl) (pd_var (i := 1) rfl) (pd_int)) (pss_one (ps_ret (pd_tup (pa_cons (pd_str) (pa_nil))))) (pss_nil)) (pss_one (ps_ret (pd_tup (pa_cons (pd_str) (pa_cons (pd_call (y := "_law_any_name") (ok "_law_any_name" (by decide)) hr rfl (pa_cons (pd_var (i := 0) rfl) (pa_nil))) (pa_nil)))))))))
theorem der_l_any_expr {k : Nat} {c : Cl} (ok : ∀ y ∈ names, Own P w K mg base k (Str.ofString y) (c y)) (oks : ∀ q ∈ snames, OwnS P w K mg base k q.2 (Str.ofString q.1) (c q.1)) (zs : ∀ y ∈ blts, mg (Str.ofString y) = none) (cs_LEVELS : GlobDic K w mg "LEVELS" k_LEVELS) {fa : Addr} (cdv : Value) (A : Around) (outer : List PySem.Env) (s : Shared) (H : L2.Hp) (E : L2.XK) (hr : L2.Room k (A.deeper (envOfC "_law_any_expr" (L2.defScope sl_any_expr) s.heap.objs.size fa cdv))) :
    PDSs (L2.cxOf L2.CX0 P w K mg base nl_any_expr "_law_any_expr" (L2.defScope sl_any_expr) fa cdv A outer s H E).nox (L2.defBody sl_any_expr) (b_l_any_expr c) := by
  have nd := scl_any_expr.nd
  unfold b_l_any_expr
  exact pss_cons (ps_set (i := 3) nd rfl (by first | exact .inl rfl | exact .inr rfl) (pd_call (y := "_law_draw") (ok "_law_draw" (by decide)) hr rfl (pa_cons (pd_var (i := 0) rfl) (pa_cons (pd_int) (pa_nil))))) (pss_cons (ps_asg (pd_sub (pd_ix (fun _ _ => rfl) (pd_var (i := 1) rfl) (pd_int)) (pd_int)) (pg_sub (pd_var (i := 1) rfl) (pd_int))) (pss_cons (ps_if (ptw (pw_or (pt_cmp L2.op_lt real_lt (by rfl) (pd_var (i := 3) rfl) (pd_int)) (pw_or (pt_cmp (L2.op_eqD hr.units) real_eq (by rfl) (pd_var (i := 2) rfl) (pd_int)) (pw_or1 (pt_cmp L2.op_lt real_lt (by rfl) (pd_ix (fun _ _ => rfl) (pd_var (i := 1) rfl) (pd_int)) (pd_int)))))) (pss_one (ps_ret (pd_call (y := "_law_any_leaf") (ok "_law_any_leaf" (by decide)) hr rfl (pa_cons (pd_var (i := 0) rfl) (pa_nil))))) (pss_nil)) (pss_cons (ps_if (pt_cmp (L2.op_eqD hr.units) real_eq (by rfl) (pd_var (i := 3) rfl) (pd_int)) (pss_one (ps_ret (pd_tup (pa_cons (pd_call (y := "_law_pick") (ok "_law_pick" (by decide)) hr rfl (pa_cons (pd_var (i := 0) rfl) (pa_cons (pd_lst (pa_cons (pd_str) (pa_cons (pd_str) (pa_nil)))) (pa_nil)))) (pa_cons (pd_call (y := "_law_any_expr") (ok "_law_any_expr" (by decide)) hr rfl (pa_cons (pd_var (i := 0) rfl) (pa_cons (pd_var (i := 1) rfl) (pa_cons (pd_sub (pd_var (i := 2) rfl) (pd_int)) (pa_nil))))) (pa_nil)))))) (pss_nil)) (pss_cons (ps_if (pt_cmp (L2.op_eqD hr.units) real_eq (by rfl) (pd_var (i := 3) rfl) (pd_int)) (pss_cons (ps_set (i := 4) nd rfl (by first | exact .inl rfl | exact .inr rfl) (pd_call (y := "_law_any_name") (ok "_law_any_name" (by decide)) hr rfl (pa_cons (pd_var (i := 0) rfl) (pa_nil)))) (pss_one (ps_ret (pd_tup (pa_cons (pd_str) (pa_cons (pd_var (i := 4) rfl) (pa_cons (pd_call (y := "_law_any_expr") (ok "_law_any_expr" (by decide)) hr rfl (pa_cons (pd_var (i := 0) rfl) (pa_cons (pd_var (i := 1) rfl) (pa_cons (pd_sub (pd_var (i := 2) rfl) (pd_int)) (pa_nil))))) (pa_nil)))))))) (pss_nil)) (pss_cons (ps_if (pt_cmp (L2.op_eqD hr.units) real_eq (by rfl) (pd_var (i := 3) rfl) (pd_int)) (pss_one (ps_ret (pd_call (y := "_law_any_call") (ok "_law_any_call" (by decide)) hr rfl (pa_cons (pd_var (i := 0) rfl) (pa_cons (pd_var (i := 1) rfl) (pa_cons (pd_var (i := 2) rfl) (pa_nil))))))) (pss_nil)) (pss_cons (ps_set (i := 5) nd rfl (by first | exact .inl rfl | exact .inr rfl) (pd_call (y := "_law_pick") (ok "_law_pick" (by decide)) hr rfl (pa_cons (pd_var (i := 0) rfl) (pa_cons (pd_lst (pa_cons (pd_str) (pa_cons (pd_str) (pa_cons (pd_str) (pa_cons (pd_str) (pa_cons (pd_str) (pa_cons (pd_str) (pa_cons (pd_str) (pa_cons (pd_str) (pa_cons (pd_str) (pa_cons (pd_str) (pa_cons (pd_str) (pa_cons (pd_str) (pa_nil)))))))))))))) (pa_nil))))) (pss_cons (ps_set (i := 6) nd rfl (by first | exact .inl rfl | exact .inr rfl) (pd_call (y := "_law_any_expr") (ok "_law_any_expr" (by decide)) hr rfl (pa_cons (pd_var (i := 0) rfl) (pa_cons (pd_var (i := 1) rfl) (pa_cons (pd_sub (pd_var (i := 2) rfl) (pd_int)) (pa_nil)))))) (pss_one (ps_ret (pd_tup (pa_cons (pd_var (i := 5) rfl) (pa_cons (pd_var (i := 6) rfl) (pa_cons (pd_call (y := "_law_any_expr") (ok "_law_any_expr" (by decide)) hr rfl (pa_cons (pd_var (i := 0) rfl) (pa_cons (pd_var (i := 1) rfl) (pa_cons (pd_sub (pd_var (i := 2) rfl) (pd_int)) (pa_nil))))) (pa_nil))))))))))))))
theorem der_l_any_call {k : Nat} {c : Cl} (ok : ∀ y ∈ names, Own P w K mg base k (Str.ofString y) (c y)) (oks : ∀ q ∈ snames, OwnS P w K mg base k q.2 (Str.ofString q.1) (c q.1)) (zs : ∀ y ∈ blts, mg (Str.ofString y) = none) (cs_LEVELS : GlobDic K w mg "LEVELS" k_LEVELS) {fa : Addr} (cdv : Value) (A : Around) (outer : List PySem.Env) (s : Shared) (H : L2.Hp) (E : L2.XK) (hr : L2.Room k (A.deeper (envOfC "_law_any_call" (L2.defScope sl_any_call) s.heap.objs.size fa cdv))) :
    PDSs (L2.cxOf L2.CX0 P w K mg base nl_any_call "_law_any_call" (L2.defScope sl_any_call) fa cdv A outer s H E).nox (L2.defBody sl_any_call) (b_l_any_call c) := by
  have nd := scl_any_call.nd
  unfold b_l_any_call
  exact pss_cons (ps_set (i := 3) nd rfl (by first | exact .inl rfl | exact .inr rfl) (pd_call (y := "_law_pick") (ok "_law_pick" (by decide)) hr rfl (pa_cons (pd_var (i := 0) rfl) (pa_cons (pd_lst (pa_cons (pd_str) (pa_cons (pd_str) (pa_cons (pd_str) (pa_cons (pd_str) (pa_nil)))))) (pa_nil))))) (pss_cons (ps_set (i := 4) nd rfl (by first | exact .inl rfl | exact .inr rfl) (pd_tup (pa_cons (pd_var (i := 3) rfl) (pa_cons (pd_call (y := "_law_any_expr") (ok "_law_any_expr" (by decide)) hr rfl (pa_cons (pd_var (i := 0) rfl) (pa_cons (pd_var (i := 1) rfl) (pa_cons (pd_sub (pd_var (i := 2) rfl) (pd_int)) (pa_nil))))) (pa_nil))))) (pss_cons (ps_if (pt_cmp (L2.op_eqD hr.units) real_eq (by rfl) (pd_var (i := 3) rfl) (pd_str)) (pss_one (ps_ret (pd_add (pd_var (i := 4) rfl) (pd_tup (pa_cons (pd_call (y := "_law_any_number") (ok "_law_any_number" (by decide)) hr rfl (pa_cons (pd_var (i := 0) rfl) (pa_nil))) (pa_nil)))))) (pss_nil)) (pss_cons (ps_for PassesOwn.never rfl (pi_r1 rfl (zs "range" (by decide)) (pd_add (pd_int) (pd_callTy L2.call_int1 real_intB rfl (zs "int" (by decide)) bt_int (pa_cons (pd_cmp (L2.op_eqD hr.units) real_eq (by rfl) (pd_var (i := 3) rfl) (pd_str)) (pa_nil))))) (pg_name (i := 5) nd rfl (by first | exact .inl rfl | exact .inr rfl)) (pss_one (ps_set (i := 4) nd rfl (by first | exact .inl rfl | exact .inr rfl) (pd_add (pd_var (i := 4) rfl) (pd_tup (pa_cons (pd_call (y := "_law_any_expr") (ok "_law_any_expr" (by decide)) hr rfl (pa_cons (pd_var (i := 0) rfl) (pa_cons (pd_var (i := 1) rfl) (pa_cons (pd_sub (pd_var (i := 2) rfl) (pd_int)) (pa_nil))))) (pa_nil))))))) (pss_one (ps_ret (pd_var (i := 4) rfl))))))
theorem der_l_any_place {k : Nat} {c : Cl} (ok : ∀ y ∈ names, Own P w K mg base k (Str.ofString y) (c y)) (oks : ∀ q ∈ snames, OwnS P w K mg base k q.2 (Str.ofString q.1) (c q.1)) (zs : ∀ y ∈ blts, mg (Str.ofString y) = none) (cs_LEVELS : GlobDic K w mg "LEVELS" k_LEVELS) {fa : Addr} (cdv : Value) (A : Around) (outer : List PySem.Env) (s : Shared) (H : L2.Hp) (E : L2.XK) (hr : L2.Room k (A.deeper (envOfC "_law_any_place" (L2.defScope sl_any_place) s.heap.objs.size fa cdv))) :
    PDSs (L2.cxOf L2.CX0 P w K mg base nl_any_place "_law_any_place" (L2.defScope sl_any_place) fa cdv A outer s H E).nox (L2.defBody sl_any_place) (b_l_any_place c) := by
  have nd := scl_any_place.nd
  unfold b_l_any_place
  exact pss_cons (ps_set (i := 2) nd rfl (by first | exact .inl rfl | exact .inr rfl) (pd_call (y := "_law_draw") (ok "_law_draw" (by decide)) hr rfl (pa_cons (pd_var (i := 0) rfl) (pa_cons (pd_int) (pa_nil))))) (pss_cons (ps_set (i := 3) nd rfl (by first | exact .inl rfl | exact .inr rfl) (pd_call (y := "_law_any_name") (ok "_law_any_name" (by decide)) hr rfl (pa_cons (pd_var (i := 0) rfl) (pa_nil)))) (pss_cons (ps_if (pt_cmp (L2.op_eqD hr.units) real_eq (by rfl) (pd_var (i := 2) rfl) (pd_int)) (pss_one (ps_ret (pd_tup (pa_cons (pd_str) (pa_cons (pd_var (i := 3) rfl) (pa_cons (pd_call (y := "_law_any_expr") (ok "_law_any_expr" (by decide)) hr rfl (pa_cons (pd_var (i := 0) rfl) (pa_cons (pd_var (i := 1) rfl) (pa_cons (pd_int) (pa_nil))))) (pa_nil))))))) (pss_nil)) (pss_cons (ps_if (pt_cmp (L2.op_eqD hr.units) real_eq (by rfl) (pd_var (i := 2) rfl) (pd_int)) (pss_one (ps_ret (pd_tup (pa_cons (pd_str) (pa_cons (pd_var (i := 3) rfl) (pa_cons (pd_call (y := "_law_any_name") (ok "_law_any_name" (by decide)) hr rfl (pa_cons (pd_var (i := 0) rfl) (pa_nil))) (pa_nil))))))) (pss_nil)) (pss_one (ps_ret (pd_tup (pa_cons (pd_str) (pa_cons (pd_var (i := 3) rfl) (pa_nil)))))))))
theorem der_l_any_plain {k : Nat} {c : Cl} (ok : ∀ y ∈ names, Own P w K mg base k (Str.ofString y) (c y)) (oks : ∀ q ∈ snames, OwnS P w K mg base k q.2 (Str.ofString q.1) (c q.1)) (zs : ∀ y ∈ blts, mg (Str.ofString y) = none) (cs_LEVELS : GlobDic K w mg "LEVELS" k_LEVELS) {fa : Addr} (cdv : Value) (A : Around) (outer : List PySem.Env) (s : Shared) (H : L2.Hp) (E : L2.XK) (hr : L2.Room k (A.deeper (envOfC "_law_any_plain" (L2.defScope sl_any_plain) s.heap.objs.size fa cdv))) :
    PDSs (L2.cxOf L2.CX0 P w K mg base nl_any_plain "_law_any_plain" (L2.defScope sl_any_plain) fa cdv A outer s H E).nox (L2.defBody sl_any_plain) (b_l_any_plain c) := by
  have nd := scl_any_plain.nd
  unfold b_l_any_plain
  exact pss_cons (ps_if (pt_cmp (L2.op_eqD hr.units) real_eq (by rfl) (pd_var (i := 2) rfl) (pd_int)) (pss_one (ps_ret (pd_tup (pa_cons (pd_str) (pa_cons (pd_call (y := "_law_any_name") (ok "_law_any_name" (by decide)) hr rfl (pa_cons (pd_var (i := 0) rfl) (pa_nil))) (pa_nil)))))) (pss_nil)) (pss_cons (ps_if (pt_cmp (L2.op_eqD hr.units) real_eq (by rfl) (pd_var (i := 2) rfl) (pd_int)) (pss_cons (ps_set (i := 3) nd rfl (by first | exact .inl rfl | exact .inr rfl) (pd_call (y := "_law_any_place") (ok "_law_any_place" (by decide)) hr rfl (pa_cons (pd_var (i := 0) rfl) (pa_cons (pd_var (i := 1) rfl) (pa_nil))))) (pss_one (ps_ret (pd_tup (pa_cons (pd_str) (pa_cons (pd_var (i := 3) rfl) (pa_cons (pd_call (y := "_law_any_expr") (ok "_law_any_expr" (by decide)) hr rfl (pa_cons (pd_var (i := 0) rfl) (pa_cons (pd_var (i := 1) rfl) (pa_cons (pd_int) (pa_nil))))) (pa_nil)))))))) (pss_nil)) (pss_cons (ps_if (pt_cmp (L2.op_eqD hr.units) real_eq (by rfl) (pd_var (i := 2) rfl) (pd_int)) (pss_cons (ps_set (i := 4) nd rfl (by first | exact .inl rfl | exact .inr rfl) (pd_if (pt_cmp (L2.op_eqD hr.units) real_eq (by rfl) (pd_call (y := "_law_draw") (ok "_law_draw" (by decide)) hr rfl (pa_cons (pd_var (i := 0) rfl) (pa_cons (pd_int) (pa_nil)))) (pd_int)) (pd_call (y := "_law_any_name") (ok "_law_any_name" (by decide)) hr rfl (pa_cons (pd_var (i := 0) rfl) (pa_nil))) (pd_non))) (pss_cons (ps_set (i := 5) nd rfl (by first | exact .inl rfl | exact .inr rfl) (pd_call (y := "_law_any_name") (ok "_law_any_name" (by decide)) hr rfl (pa_cons (pd_var (i := 0) rfl) (pa_nil)))) (pss_one (ps_ret (pd_tup (pa_cons (pd_str) (pa_cons (pd_var (i := 4) rfl) (pa_cons (pd_var (i := 5) rfl) (pa_cons (pd_callTy L2.call_tuple_of real_tupleB rfl (zs "tuple" (by decide)) bt_tuple (pa_cons (pd_lc (own := [("_law_k", 7)]) rfl nd (pi_r1 rfl (zs "range" (by decide)) (pd_call (y := "_law_draw") (ok "_law_draw" (by decide)) hr rfl (pa_cons (pd_var (i := 0) rfl) (pa_cons (pd_int) (pa_nil))))) (L2.blkOk_by (N := nl_any_plain) (sc := L2.defScope sl_any_plain) (by decide +kernel)) (fun _ _ _ _ _ => pg_name (i := 7) nd rfl (by first | exact .inl rfl | exact .inr rfl)) (fun _ _ _ _ _ => pts_nil) (fun _ _ _ _ _ => pd_call (y := "_law_any_expr") (ok "_law_any_expr" (by decide)) hr rfl (pa_cons (pd_var (i := 0) rfl) (pa_cons (pd_var (i := 1) rfl) (pa_cons (pd_int) (pa_nil))))) (by decide)) (pa_nil))) (pa_nil)))))))))) (pss_nil)) (pss_cons (ps_if (pt_cmp (L2.op_eqD hr.units) real_eq (by rfl) (pd_var (i := 2) rfl) (pd_int)) (pss_cons (ps_set (i := 5) nd rfl (by first | exact .inl rfl | exact .inr rfl) (pd_call (y := "_law_any_name") (ok "_law_any_name" (by decide)) hr rfl (pa_cons (pd_var (i := 0) rfl) (pa_nil)))) (pss_one (ps_ret (pd_tup (pa_cons (pd_str) (pa_cons (pd_var (i := 5) rfl) (pa_cons (pd_call (y := "_law_any_name") (ok "_law_any_name" (by decide)) hr rfl (pa_cons (pd_var (i := 0) rfl) (pa_nil))) (pa_nil)))))))) (pss_nil)) (pss_cons (ps_set (i := 6) nd rfl (by first | exact .inl rfl | exact .inr rfl) (pd_if (pt_cmp (L2.op_eqD hr.units) real_eq (by rfl) (pd_var (i := 2) rfl) (pd_int)) (pd_str) (pd_str))) (pss_one (ps_ret (pd_tup (pa_cons (pd_var (i := 6) rfl) (pa_cons (pd_call (y := "_law_any_expr") (ok "_law_any_expr" (by decide)) hr rfl (pa_cons (pd_var (i := 0) rfl) (pa_cons (pd_var (i := 1) rfl) (pa_cons (pd_int) (pa_nil))))) (pa_nil))))))))))
theorem der_l_any_statement {k : Nat} {c : Cl} (ok : ∀ y ∈ names, Own P w K mg base k (Str.ofString y) (c y)) (oks : ∀ q ∈ snames, OwnS P w K mg base k q.2 (Str.ofString q.1) (c q.1)) (zs : ∀ y ∈ blts, mg (Str.ofString y) = none) (cs_LEVELS : GlobDic K w mg "LEVELS" k_LEVELS) {fa : Addr} (cdv : Value) (A : Around) (outer : List PySem.Env) (s : Shared) (H : L2.Hp) (E : L2.XK) (hr : L2.Room k (A.deeper (envOfC "_law_any_statement" (L2.defScope sl_any_statement) s.heap.objs.size fa cdv))) :
    PDSs (L2.cxOf L2.CX0 P w K mg base nl_any_statement "_law_any_statement" (L2.defScope sl_any_statement) fa cdv A outer s H E).nox (L2.defBody sl_any_statement) (b_l_any_statement c) := by
  have nd := scl_any_statement.nd
  unfold b_l_any_statement
  exact pss_cons (ps_set (i := 3) nd rfl (by first | exact .inl rfl | exact .inr rfl) (pd_call (y := "_law_draw") (ok "_law_draw" (by decide)) hr rfl (pa_cons (pd_var (i := 0) rfl) (pa_cons (pd_int) (pa_nil))))) (pss_cons (ps_asg (pd_sub (pd_ix (fun _ _ => rfl) (pd_var (i := 1) rfl) (pd_int)) (pd_int)) (pg_sub (pd_var (i := 1) rfl) (pd_int))) (pss_cons (ps_if (pt_cmp L2.op_lt real_lt (by rfl) (pd_var (i := 3) rfl) (pd_int)) (pss_one (ps_ret (pd_call (y := "_law_any_plain") (ok "_law_any_plain" (by decide)) hr rfl (pa_cons (pd_var (i := 0) rfl) (pa_cons (pd_var (i := 1) rfl) (pa_cons (pd_var (i := 3) rfl) (pa_nil))))))) (pss_nil)) (pss_cons (ps_if (pt_cmp (L2.op_eqD hr.units) real_eq (by rfl) (pd_var (i := 2) rfl) (pd_int)) (pss_one (ps_ret (pd_call (y := "_law_any_plain") (ok "_law_any_plain" (by decide)) hr rfl (pa_cons (pd_var (i := 0) rfl) (pa_cons (pd_var (i := 1) rfl) (pa_cons (pd_sub (pd_var (i := 3) rfl) (pd_int)) (pa_nil))))))) (pss_nil)) (pss_cons (ps_if (pt_cmp (L2.op_eqD hr.units) real_eq (by rfl) (pd_var (i := 3) rfl) (pd_int)) (pss_one (ps_ret (pd_call (y := "_law_any_try") (ok "_law_any_try" (by decide)) hr rfl (pa_cons (pd_var (i := 0) rfl) (pa_cons (pd_var (i := 1) rfl) (pa_cons (pd_var (i := 2) rfl) (pa_nil))))))) (pss_nil)) (pss_cons (ps_set (i := 4) nd rfl (by first | exact .inl rfl | exact .inr rfl) (pd_call (y := "_law_any_expr") (ok "_law_any_expr" (by decide)) hr rfl (pa_cons (pd_var (i := 0) rfl) (pa_cons (pd_var (i := 1) rfl) (pa_cons (pd_int) (pa_nil)))))) (pss_cons (ps_set (i := 5) nd rfl (by first | exact .inl rfl | exact .inr rfl) (pd_call (y := "_law_any_body") (ok "_law_any_body" (by decide)) hr rfl (pa_cons (pd_var (i := 0) rfl) (pa_cons (pd_var (i := 1) rfl) (pa_cons (pd_sub (pd_var (i := 2) rfl) (pd_int)) (pa_nil)))))) (pss_cons (ps_if (pt_cmp (L2.op_eqD hr.units) real_eq (by rfl) (pd_var (i := 3) rfl) (pd_int)) (pss_one (ps_ret (pd_tup (pa_cons (pd_str) (pa_cons (pd_var (i := 4) rfl) (pa_cons (pd_var (i := 5) rfl) (pa_nil))))))) (pss_nil)) (pss_one (ps_ret (pd_tup (pa_cons (pd_str) (pa_cons (pd_var (i := 4) rfl) (pa_cons (pd_var (i := 5) rfl) (pa_cons (pd_call (y := "_law_any_body") (ok "_law_any_body" (by decide)) hr rfl (pa_cons (pd_var (i := 0) rfl) (pa_cons (pd_var (i := 1) rfl) (pa_cons (pd_sub (pd_var (i := 2) rfl) (pd_int)) (pa_nil))))) (pa_nil)))))))))))))))
theorem der_l_any_try {k : Nat} {c : Cl} (ok : ∀ y ∈ names, Own P w K mg base k (Str.ofString y) (c y)) (oks : ∀ q ∈ snames, OwnS P w K mg base k q.2 (Str.ofString q.1) (c q.1)) (zs : ∀ y ∈ blts, mg (Str.ofString y) = none) (cs_LEVELS : GlobDic K w mg "LEVELS" k_LEVELS) {fa : Addr} (cdv : Value) (A : Around) (outer : List PySem.Env) (s : Shared) (H : L2.Hp) (E : L2.XK) (hr : L2.Room k (A.deeper (envOfC "_law_any_try" (L2.defScope sl_any_try) s.heap.objs.size fa cdv))) :
    PDSs (L2.cxOf L2.CX0 P w K mg base nl_any_try "_law_any_try" (L2.defScope sl_any_try) fa cdv A outer s H E).nox (L2.defBody sl_any_try) (b_l_any_try c) := by
  have nd := scl_any_try.nd
  unfold b_l_any_try
  exact pss_cons (ps_set (i := 3) nd rfl (by first | exact .inl rfl | exact .inr rfl) (pd_call (y := "_law_any_body") (ok "_law_any_body" (by decide)) hr rfl (pa_cons (pd_var (i := 0) rfl) (pa_cons (pd_var (i := 1) rfl) (pa_cons (pd_sub (pd_var (i := 2) rfl) (pd_int)) (pa_nil)))))) (pss_cons (ps_set (i := 4) nd rfl (by first | exact .inl rfl | exact .inr rfl) (pd_lst (pa_nil))) (pss_cons (ps_for PassesOwn.never rfl (pi_r1 rfl (zs "range" (by decide)) (pd_add (pd_int) (pd_call (y := "_law_draw") (ok "_law_draw" (by decide)) hr rfl (pa_cons (pd_var (i := 0) rfl) (pa_cons (pd_int) (pa_nil)))))) (pg_name (i := 5) nd rfl (by first | exact .inl rfl | exact .inr rfl)) (pss_cons (ps_set (i := 6) nd rfl (by first | exact .inl rfl | exact .inr rfl) (pd_call (y := "_law_any_name") (ok "_law_any_name" (by decide)) hr rfl (pa_cons (pd_var (i := 0) rfl) (pa_nil)))) (pss_one (ps_expr (pd_m L2.mt_append real_append ty_list PySem.F.plainAttrs_list PySem.F.slot_list_append PySem.F.type_list_append (pd_var (i := 4) rfl) (pa_cons (pd_tup (pa_cons (pd_var (i := 6) rfl) (pa_cons (pd_call (y := "_law_any_body") (ok "_law_any_body" (by decide)) hr rfl (pa_cons (pd_var (i := 0) rfl) (pa_cons (pd_var (i := 1) rfl) (pa_cons (pd_sub (pd_var (i := 2) rfl) (pd_int)) (pa_nil))))) (pa_nil)))) (pa_nil))))))) (pss_one (ps_ret (pd_tup (pa_cons (pd_str) (pa_cons (pd_var (i := 3) rfl) (pa_cons (pd_callTy L2.call_tuple_of real_tupleB rfl (zs "tuple" (by decide)) bt_tuple (pa_cons (pd_var (i := 4) rfl) (pa_nil))) (pa_nil)))))))))
theorem der_l_any_body {k : Nat} {c : Cl} (ok : ∀ y ∈ names, Own P w K mg base k (Str.ofString y) (c y)) (oks : ∀ q ∈ snames, OwnS P w K mg base k q.2 (Str.ofString q.1) (c q.1)) (zs : ∀ y ∈ blts, mg (Str.ofString y) = none) (cs_LEVELS : GlobDic K w mg "LEVELS" k_LEVELS) {fa : Addr} (cdv : Value) (A : Around) (outer : List PySem.Env) (s : Shared) (H : L2.Hp) (E : L2.XK) (hr : L2.Room k (A.deeper (envOfC "_law_any_body" (L2.defScope sl_any_body) s.heap.objs.size fa cdv))) :
    PDSs (L2.cxOf L2.CX0 P w K mg base nl_any_body "_law_any_body" (L2.defScope sl_any_body) fa cdv A outer s H E).nox (L2.defBody sl_any_body) (b_l_any_body c) := by
  have nd := scl_any_body.nd
  unfold b_l_any_body
  exact pss_cons (ps_set (i := 3) nd rfl (by first | exact .inl rfl | exact .inr rfl) (pd_lst (pa_nil))) (pss_cons (ps_for PassesOwn.never rfl (pi_r1 rfl (zs "range" (by decide)) (pd_call (y := "_law_draw") (ok "_law_draw" (by decide)) hr rfl (pa_cons (pd_var (i := 0) rfl) (pa_cons (pd_int) (pa_nil))))) (pg_name (i := 4) nd rfl (by first | exact .inl rfl | exact .inr rfl)) (pss_one (ps_if (pt_cmp L2.op_gt real_gt (by rfl) (pd_ix (fun _ _ => rfl) (pd_var (i := 1) rfl) (pd_int)) (pd_int)) (pss_one (ps_expr (pd_m L2.mt_append real_append ty_list PySem.F.plainAttrs_list PySem.F.slot_list_append PySem.F.type_list_append (pd_var (i := 3) rfl) (pa_cons (pd_call (y := "_law_any_statement") (ok "_law_any_statement" (by decide)) hr rfl (pa_cons (pd_var (i := 0) rfl) (pa_cons (pd_var (i := 1) rfl) (pa_cons (pd_var (i := 2) rfl) (pa_nil))))) (pa_nil))))) (pss_nil)))) (pss_one (ps_ret (pd_callTy L2.call_tuple_of real_tupleB rfl (zs "tuple" (by decide)) bt_tuple (pa_cons (pd_var (i := 3) rfl) (pa_nil))))))
theorem der_l_any_kind {k : Nat} {c : Cl} (ok : ∀ y ∈ names, Own P w K mg base k (Str.ofString y) (c y)) (oks : ∀ q ∈ snames, OwnS P w K mg base k q.2 (Str.ofString q.1) (c q.1)) (zs : ∀ y ∈ blts, mg (Str.ofString y) = none) (cs_LEVELS : GlobDic K w mg "LEVELS" k_LEVELS) {fa : Addr} (cdv : Value) (A : Around) (outer : List PySem.Env) (s : Shared) (H : L2.Hp) (E : L2.XK) (hr : L2.Room k (A.deeper (envOfC "_law_any_kind" (L2.defScope sl_any_kind) s.heap.objs.size fa cdv))) :
    PDSs (L2.cxOf L2.CX0 P w K mg base nl_any_kind "_law_any_kind" (L2.defScope sl_any_kind) fa cdv A outer s H E).nox (L2.defBody sl_any_kind) (b_l_any_kind c) := by
  have nd := scl_any_kind.nd
  unfold b_l_any_kind
  exact pss_cons (ps_if (pt_cmp (L2.op_eqD hr.units) real_eq (by rfl) (pd_call (y := "_law_draw") (ok "_law_draw" (by decide)) hr rfl (pa_cons (pd_var (i := 0) rfl) (pa_cons (pd_int) (pa_nil)))) (pd_int)) (pss_one (ps_ret (pd_call (y := "_law_any_name") (ok "_law_any_name" (by decide)) hr rfl (pa_cons (pd_var (i := 0) rfl) (pa_nil))))) (pss_nil)) (pss_one (ps_ret (pd_call (y := "_law_any_number") (ok "_law_any_number" (by decide)) hr rfl (pa_cons (pd_var (i := 0) rfl) (pa_nil)))))
theorem der_l_any_pairs {k : Nat} {c : Cl} (ok : ∀ y ∈ names, Own P w K mg base k (Str.ofString y) (c y)) (oks : ∀ q ∈ snames, OwnS P w K mg base k q.2 (Str.ofString q.1) (c q.1)) (zs : ∀ y ∈ blts, mg (Str.ofString y) = none) (cs_LEVELS : GlobDic K w mg "LEVELS" k_LEVELS) {fa : Addr} (cdv : Value) (A : Around) (outer : List PySem.Env) (s : Shared) (H : L2.Hp) (E : L2.XK) (hr : L2.Room k (A.deeper (envOfC "_law_any_pairs" (L2.defScope sl_any_pairs) s.heap.objs.size fa cdv))) :
    PDSs (L2.cxOf L2.CX0 P w K mg base nl_any_pairs "_law_any_pairs" (L2.defScope sl_any_pairs) fa cdv A outer s H E).nox (L2.defBody sl_any_pairs) (b_l_any_pairs c) := by
  have nd := scl_any_pairs.nd
  unfold b_l_any_pairs
  exact pss_cons (ps_set (i := 2) nd rfl (by first | exact .inl rfl | exact .inr rfl) (pd_lst (pa_nil))) (pss_cons (ps_for PassesOwn.never rfl (pi_r1 rfl (zs "range" (by decide)) (pd_call (y := "_law_draw") (ok "_law_draw" (by decide)) hr rfl (pa_cons (pd_var (i := 0) rfl) (pa_cons (pd_add (pd_var (i := 1) rfl) (pd_int)) (pa_nil))))) (pg_name (i := 3) nd rfl (by first | exact .inl rfl | exact .inr rfl)) (pss_cons (ps_set (i := 4) nd rfl (by first | exact .inl rfl | exact .inr rfl) (pd_call (y := "_law_any_name") (ok "_law_any_name" (by decide)) hr rfl (pa_cons (pd_var (i := 0) rfl) (pa_nil)))) (pss_one (ps_expr (pd_m L2.mt_append real_append ty_list PySem.F.plainAttrs_list PySem.F.slot_list_append PySem.F.type_list_append (pd_var (i := 2) rfl) (pa_cons (pd_tup (pa_cons (pd_var (i := 4) rfl) (pa_cons (pd_call (y := "_law_any_kind") (ok "_law_any_kind" (by decide)) hr rfl (pa_cons (pd_var (i := 0) rfl) (pa_nil))) (pa_nil)))) (pa_nil))))))) (pss_one (ps_ret (pd_callTy L2.call_tuple_of real_tupleB rfl (zs "tuple" (by decide)) bt_tuple (pa_cons (pd_var (i := 2) rfl) (pa_nil))))))
theorem der_l_any_part {k : Nat} {c : Cl} (ok : ∀ y ∈ names, Own P w K mg base k (Str.ofString y) (c y)) (oks : ∀ q ∈ snames, OwnS P w K mg base k q.2 (Str.ofString q.1) (c q.1)) (zs : ∀ y ∈ blts, mg (Str.ofString y) = none) (cs_LEVELS : GlobDic K w mg "LEVELS" k_LEVELS) {fa : Addr} (cdv : Value) (A : Around) (outer : List PySem.Env) (s : Shared) (H : L2.Hp) (E : L2.XK) (hr : L2.Room k (A.deeper (envOfC "_law_any_part" (L2.defScope sl_any_part) s.heap.objs.size fa cdv))) :
    PDSs (L2.cxOf L2.CX0 P w K mg base nl_any_part "_law_any_part" (L2.defScope sl_any_part) fa cdv A outer s H E).nox (L2.defBody sl_any_part) (b_l_any_part c) := by
  have nd := scl_any_part.nd
  unfold b_l_any_part
  exact pss_cons (ps_set (i := 2) nd rfl (by first | exact .inl rfl | exact .inr rfl) (pd_call (y := "_law_draw") (ok "_law_draw" (by decide)) hr rfl (pa_cons (pd_var (i := 0) rfl) (pa_cons (pd_int) (pa_nil))))) (pss_cons (ps_set (i := 3) nd rfl (by first | exact .inl rfl | exact .inr rfl) (pd_call (y := "_law_any_name") (ok "_law_any_name" (by decide)) hr rfl (pa_cons (pd_var (i := 0) rfl) (pa_nil)))) (pss_cons (ps_set (i := 4) nd rfl (by first | exact .inl rfl | exact .inr rfl) (pd_call (y := "_law_any_pairs") (ok "_law_any_pairs" (by decide)) hr rfl (pa_cons (pd_var (i := 0) rfl) (pa_cons (pd_int) (pa_nil))))) (pss_cons (ps_if (pt_cmp (L2.op_eqD hr.units) real_eq (by rfl) (pd_var (i := 2) rfl) (pd_int)) (pss_one (ps_ret (pd_tup (pa_cons (pd_str) (pa_cons (pd_var (i := 3) rfl) (pa_cons (pd_var (i := 4) rfl) (pa_nil))))))) (pss_nil)) (pss_cons (ps_if (pt_cmp (L2.op_eqD hr.units) real_eq (by rfl) (pd_var (i := 2) rfl) (pd_int)) (pss_cons (ps_set (i := 5) nd rfl (by first | exact .inl rfl | exact .inr rfl) (pd_call (y := "_law_any_number") (ok "_law_any_number" (by decide)) hr rfl (pa_cons (pd_var (i := 0) rfl) (pa_nil)))) (pss_cons (ps_set (i := 6) nd rfl (by first | exact .inl rfl | exact .inr rfl) (pd_tup (pa_cons (pd_str) (pa_cons (pd_var (i := 3) rfl) (pa_cons (pd_var (i := 4) rfl) (pa_cons (pd_var (i := 5) rfl) (pa_cons (pd_call (y := "_law_draw") (ok "_law_draw" (by decide)) hr rfl (pa_cons (pd_var (i := 0) rfl) (pa_cons (pd_int) (pa_nil)))) (pa_nil)))))))) (pss_cons (ps_set (i := 7) nd rfl (by first | exact .inl rfl | exact .inr rfl) (pd_call (y := "_law_any_expr") (ok "_law_any_expr" (by decide)) hr rfl (pa_cons (pd_var (i := 0) rfl) (pa_cons (pd_var (i := 1) rfl) (pa_cons (pd_int) (pa_nil)))))) (pss_one (ps_ret (pd_add (pd_var (i := 6) rfl) (pd_tup (pa_cons (pd_var (i := 7) rfl) (pa_cons (pd_call (y := "_law_any_expr") (ok "_law_any_expr" (by decide)) hr rfl (pa_cons (pd_var (i := 0) rfl) (pa_cons (pd_var (i := 1) rfl) (pa_cons (pd_int) (pa_nil))))) (pa_nil)))))))))) (pss_nil)) (pss_cons (ps_set (i := 8) nd rfl (by first | exact .inl rfl | exact .inr rfl) (pd_call (y := "_law_any_kind") (ok "_law_any_kind" (by decide)) hr rfl (pa_cons (pd_var (i := 0) rfl) (pa_nil)))) (pss_cons (ps_set (i := 9) nd rfl (by first | exact .inl rfl | exact .inr rfl) (pd_call (y := "_law_draw") (ok "_law_draw" (by decide)) hr rfl (pa_cons (pd_var (i := 0) rfl) (pa_cons (pd_int) (pa_nil))))) (pss_cons (ps_set (i := 10) nd rfl (by first | exact .inl rfl | exact .inr rfl) (pd_lst (pa_nil))) (pss_cons (ps_for PassesOwn.never rfl (pi_seq (pd_call (y := "_law_any_pairs") (ok "_law_any_pairs" (by decide)) hr rfl (pa_cons (pd_var (i := 0) rfl) (pa_cons (pd_int) (pa_nil))))) (pg_name (i := 11) nd rfl (by first | exact .inl rfl | exact .inr rfl)) (pss_one (ps_if (ptw (pw_and (pt_not (pt_tru (pd_isi (T := "str") .str rfl (zs "isinstance" (by decide)) rfl rfl (zs "str" (by decide)) bt_str (pd_ix (fun _ _ => rfl) (pd_var (i := 11) rfl) (pd_int))))) (pw_and1 (pt_cmp (L2.op_eqD hr.units) real_eq (by rfl) (pd_call (y := "_law_draw") (ok "_law_draw" (by decide)) hr rfl (pa_cons (pd_var (i := 0) rfl) (pa_cons (pd_int) (pa_nil)))) (pd_int))))) (pss_one (ps_expr (pd_m L2.mt_append real_append ty_list PySem.F.plainAttrs_list PySem.F.slot_list_append PySem.F.type_list_append (pd_var (i := 10) rfl) (pa_cons (pd_add (pd_var (i := 11) rfl) (pd_tup (pa_cons (pd_call (y := "_law_any_number") (ok "_law_any_number" (by decide)) hr rfl (pa_cons (pd_var (i := 0) rfl) (pa_nil))) (pa_nil)))) (pa_nil))))) (pss_one (ps_expr (pd_m L2.mt_append real_append ty_list PySem.F.plainAttrs_list PySem.F.slot_list_append PySem.F.type_list_append (pd_var (i := 10) rfl) (pa_cons (pd_var (i := 11) rfl) (pa_nil)))))))) (pss_one (ps_ret (pd_tup (pa_cons (pd_str) (pa_cons (pd_var (i := 3) rfl) (pa_cons (pd_var (i := 4) rfl) (pa_cons (pd_var (i := 8) rfl) (pa_cons (pd_var (i := 9) rfl) (pa_cons (pd_callTy L2.call_tuple_of real_tupleB rfl (zs "tuple" (by decide)) bt_tuple (pa_cons (pd_var (i := 10) rfl) (pa_nil))) (pa_cons (pd_call (y := "_law_any_body") (ok "_law_any_body" (by decide)) hr rfl (pa_cons (pd_var (i := 0) rfl) (pa_cons (pd_var (i := 1) rfl) (pa_cons (pd_int) (pa_nil))))) (pa_nil)))))))))))))))))))
theorem der_l_any_program {k : Nat} {c : Cl} (ok : ∀ y ∈ names, Own P w K mg base k (Str.ofString y) (c y)) (oks : ∀ q ∈ snames, OwnS P w K mg base k q.2 (Str.ofString q.1) (c q.1)) (zs : ∀ y ∈ blts, mg (Str.ofString y) = none) (cs_LEVELS : GlobDic K w mg "LEVELS" k_LEVELS) {fa : Addr} (cdv : Value) (A : Around) (outer : List PySem.Env) (s : Shared) (H : L2.Hp) (E : L2.XK) (hr : L2.Room k (A.deeper (envOfC "_law_any_program" (L2.defScope sl_any_program) s.heap.objs.size fa cdv))) :
    PDSs (L2.cxOf L2.CX0 P w K mg base nl_any_program "_law_any_program" (L2.defScope sl_any_program) fa cdv A outer s H E).nox (L2.defBody sl_any_program) (b_l_any_program c) := by
  have nd := scl_any_program.nd
  unfold b_l_any_program
  exact pss_one (ps_ret (pd_callTy L2.call_tuple_of real_tupleB rfl (zs "tuple" (by decide)) bt_tuple (pa_cons (pd_lc (own := [("_law_k", 3)]) rfl nd (pi_r1 rfl (zs "range" (by decide)) (pd_add (pd_int) (pd_call (y := "_law_draw") (ok "_law_draw" (by decide)) hr rfl (pa_cons (pd_var (i := 0) rfl) (pa_cons (pd_var (i := 1) rfl) (pa_nil)))))) (L2.blkOk_by (N := nl_any_program) (sc := L2.defScope sl_any_program) (by decide +kernel)) (fun _ _ _ _ _ => pg_name (i := 3) nd rfl (by first | exact .inl rfl | exact .inr rfl)) (fun _ _ _ _ _ => pts_nil) (fun _ _ _ _ _ => pd_call (y := "_law_any_part") (ok "_law_any_part" (by decide)) hr rfl (pa_cons (pd_var (i := 0) rfl) (pa_cons (pd_var (i := 2) rfl) (pa_nil)))) (by decide)) (pa_nil))))
theorem der_l_wide_program {k : Nat} {c : Cl} (ok : ∀ y ∈ names, Own P w K mg base k (Str.ofString y) (c y)) (oks : ∀ q ∈ snames, OwnS P w K mg base k q.2 (Str.ofString q.1) (c q.1)) (zs : ∀ y ∈ blts, mg (Str.ofString y) = none) (cs_LEVELS : GlobDic K w mg "LEVELS" k_LEVELS) {fa : Addr} (cdv : Value) (A : Around) (outer : List PySem.Env) (s : Shared) (H : L2.Hp) (E : L2.XK) (hr : L2.Room k (A.deeper (envOfC "_law_wide_program" (L2.defScope sl_wide_program) s.heap.objs.size fa cdv))) :
    PDSs (L2.cxOf L2.CX0 P w K mg base nl_wide_program "_law_wide_program" (L2.defScope sl_wide_program) fa cdv A outer s H E).nox (L2.defBody sl_wide_program) (b_l_wide_program c) := by
  have nd := scl_wide_program.nd
  unfold b_l_wide_program
  exact pss_cons (ps_set (i := 2) nd rfl (by first | exact .inl rfl | exact .inr rfl) (pd_call (y := "_law_draw") (ok "_law_draw" (by decide)) hr rfl (pa_cons (pd_var (i := 0) rfl) (pa_cons (pd_int) (pa_nil))))) (pss_cons (ps_set (i := 3) nd rfl (by first | exact .inl rfl | exact .inr rfl) (pd_add (pd_int) (pd_call (y := "_law_draw") (ok "_law_draw" (by decide)) hr rfl (pa_cons (pd_var (i := 0) rfl) (pa_cons (pd_var (i := 1) rfl) (pa_nil)))))) (pss_cons (ps_set (i := 4) nd rfl (by first | exact .inl rfl | exact .inr rfl) (pd_call (y := "_law_any_name") (ok "_law_any_name" (by decide)) hr rfl (pa_cons (pd_var (i := 0) rfl) (pa_nil)))) (pss_cons (ps_set (i := 5) nd rfl (by first | exact .inl rfl | exact .inr rfl) (pd_lc (own := [("_law_k", 8)]) rfl nd (pi_r1 rfl (zs "range" (by decide)) (pd_int)) (L2.blkOk_by (N := nl_wide_program) (sc := L2.defScope sl_wide_program) (by decide +kernel)) (fun _ _ _ _ _ => pg_name (i := 8) nd rfl (by first | exact .inl rfl | exact .inr rfl)) (fun _ _ _ _ _ => pts_nil) (fun _ _ _ _ _ => pd_tup (pa_cons (pd_call (y := "_law_any_name") (ok "_law_any_name" (by decide)) hr rfl (pa_cons (pd_var (i := 0) rfl) (pa_nil))) (pa_cons (pd_call (y := "_law_any_kind") (ok "_law_any_kind" (by decide)) hr rfl (pa_cons (pd_var (i := 0) rfl) (pa_nil))) (pa_nil)))) (by decide))) (pss_cons (ps_set (i := 6) nd rfl (by first | exact .inl rfl | exact .inr rfl) (pd_callTy L2.call_tuple_of real_tupleB rfl (zs "tuple" (by decide)) bt_tuple (pa_cons (pd_lc (own := [("_law_k", 8)]) rfl nd (pi_r1 rfl (zs "range" (by decide)) (pd_var (i := 3) rfl)) (L2.blkOk_by (N := nl_wide_program) (sc := L2.defScope sl_wide_program) (by decide +kernel)) (fun _ _ _ _ _ => pg_name (i := 8) nd rfl (by first | exact .inl rfl | exact .inr rfl)) (fun _ _ _ _ _ => pts_nil) (fun _ _ _ _ _ => pd_ix (fun _ _ => rfl) (pd_var (i := 5) rfl) (pd_mod (pd_callTy L2.call_int1 real_intB rfl (zs "int" (by decide)) bt_int (pa_cons (pd_var (i := 8) rfl) (pa_nil))) (pd_int))) (by decide)) (pa_nil)))) (pss_cons (ps_if (pt_cmp (L2.op_eqD hr.units) real_eq (by rfl) (pd_var (i := 2) rfl) (pd_int)) (pss_one (ps_ret (pd_tup (pa_cons (pd_tup (pa_cons (pd_str) (pa_cons (pd_var (i := 4) rfl) (pa_cons (pd_var (i := 6) rfl) (pa_nil))))) (pa_nil))))) (pss_nil)) (pss_cons (ps_if (pt_cmp (L2.op_eqD hr.units) real_eq (by rfl) (pd_var (i := 2) rfl) (pd_int)) (pss_one (ps_ret (pd_tup (pa_cons (pd_tup (pa_cons (pd_str) (pa_cons (pd_var (i := 4) rfl) (pa_cons (pd_var (i := 6) rfl) (pa_cons (pd_int) (pa_cons (pd_int) (pa_cons (pd_tup (pa_nil)) (pa_cons (pd_tup (pa_nil)) (pa_nil))))))))) (pa_nil))))) (pss_nil)) (pss_cons (ps_if (pt_cmp (L2.op_eqD hr.units) real_eq (by rfl) (pd_var (i := 2) rfl) (pd_int)) (pss_one (ps_ret (pd_tup (pa_cons (pd_tup (pa_cons (pd_str) (pa_cons (pd_var (i := 4) rfl) (pa_cons (pd_tup (pa_nil)) (pa_cons (pd_int) (pa_cons (pd_int) (pa_cons (pd_var (i := 6) rfl) (pa_cons (pd_tup (pa_nil)) (pa_nil))))))))) (pa_nil))))) (pss_nil)) (pss_cons (ps_if (pt_cmp (L2.op_eqD hr.units) real_eq (by rfl) (pd_var (i := 2) rfl) (pd_int)) (pss_one (ps_ret (pd_tup (pa_cons (pd_tup (pa_cons (pd_str) (pa_cons (pd_var (i := 4) rfl) (pa_cons (pd_tup (pa_nil)) (pa_cons (pd_int) (pa_cons (pd_int) (pa_cons (pd_callTy L2.call_tuple_of real_tupleB rfl (zs "tuple" (by decide)) bt_tuple (pa_cons (pd_lc (own := [("_law_row", 9)]) rfl nd (pi_seq (pd_var (i := 6) rfl)) (L2.blkOk_by (N := nl_wide_program) (sc := L2.defScope sl_wide_program) (by decide +kernel)) (fun _ _ _ _ _ => pg_name (i := 9) nd rfl (by first | exact .inl rfl | exact .inr rfl)) (fun _ _ _ _ _ => pts_nil) (fun _ _ _ _ _ => pd_tup (pa_cons (pd_ix (fun _ _ => rfl) (pd_var (i := 9) rfl) (pd_int)) (pa_cons (pd_int) (pa_cons (pd_int) (pa_nil))))) (by decide)) (pa_nil))) (pa_cons (pd_tup (pa_nil)) (pa_nil))))))))) (pa_nil))))) (pss_nil)) (pss_cons (ps_if (pt_cmp (L2.op_eqD hr.units) real_eq (by rfl) (pd_var (i := 2) rfl) (pd_int)) (pss_one (ps_ret (pd_callTy L2.call_tuple_of real_tupleB rfl (zs "tuple" (by decide)) bt_tuple (pa_cons (pd_lc (own := [("_law_row", 9)]) rfl nd (pi_seq (pd_var (i := 6) rfl)) (L2.blkOk_by (N := nl_wide_program) (sc := L2.defScope sl_wide_program) (by decide +kernel)) (fun _ _ _ _ _ => pg_name (i := 9) nd rfl (by first | exact .inl rfl | exact .inr rfl)) (fun _ _ _ _ _ => pts_nil) (fun _ _ _ _ _ => pd_tup (pa_cons (pd_str) (pa_cons (pd_ix (fun _ _ => rfl) (pd_var (i := 9) rfl) (pd_int)) (pa_cons (pd_tup (pa_nil)) (pa_nil))))) (by decide)) (pa_nil))))) (pss_nil)) (pss_cons (ps_set (i := 7) nd rfl (by first | exact .inl rfl | exact .inr rfl) (pd_callTy L2.call_tuple_of real_tupleB rfl (zs "tuple" (by decide)) bt_tuple (pa_cons (pd_lc (own := [("_law_row", 9)]) rfl nd (pi_seq (pd_var (i := 6) rfl)) (L2.blkOk_by (N := nl_wide_program) (sc := L2.defScope sl_wide_program) (by decide +kernel)) (fun _ _ _ _ _ => pg_name (i := 9) nd rfl (by first | exact .inl rfl | exact .inr rfl)) (fun _ _ _ _ _ => pts_nil) (fun _ _ _ _ _ => pd_tup (pa_cons (pd_str) (pa_cons (pd_ix (fun _ _ => rfl) (pd_var (i := 9) rfl) (pd_int)) (pa_nil)))) (by decide)) (pa_nil)))) (pss_cons (ps_if (pt_cmp (L2.op_eqD hr.units) real_eq (by rfl) (pd_var (i := 2) rfl) (pd_int)) (pss_one (ps_set (i := 7) nd rfl (by first | exact .inl rfl | exact .inr rfl) (pd_tup (pa_cons (pd_tup (pa_cons (pd_str) (pa_cons (pd_tup (pa_nil)) (pa_cons (pd_callTy L2.call_tuple_of real_tupleB rfl (zs "tuple" (by decide)) bt_tuple (pa_cons (pd_lc (own := [("_law_row", 9)]) rfl nd (pi_seq (pd_var (i := 6) rfl)) (L2.blkOk_by (N := nl_wide_program) (sc := L2.defScope sl_wide_program) (by decide +kernel)) (fun _ _ _ _ _ => pg_name (i := 9) nd rfl (by first | exact .inl rfl | exact .inr rfl)) (fun _ _ _ _ _ => pts_nil) (fun _ _ _ _ _ => pd_tup (pa_cons (pd_ix (fun _ _ => rfl) (pd_var (i := 9) rfl) (pd_int)) (pa_cons (pd_tup (pa_nil)) (pa_nil)))) (by decide)) (pa_nil))) (pa_nil))))) (pa_nil))))) (pss_nil)) (pss_cons (ps_if (pt_cmp (L2.op_eqD hr.units) real_eq (by rfl) (pd_var (i := 2) rfl) (pd_int)) (pss_one (ps_set (i := 7) nd rfl (by first | exact .inl rfl | exact .inr rfl) (pd_tup (pa_cons (pd_tup (pa_cons (pd_str) (pa_cons (pd_non) (pa_cons (pd_var (i := 4) rfl) (pa_cons (pd_callTy L2.call_tuple_of real_tupleB rfl (zs "tuple" (by decide)) bt_tuple (pa_cons (pd_lc (own := [("_law_row", 9)]) rfl nd (pi_seq (pd_var (i := 6) rfl)) (L2.blkOk_by (N := nl_wide_program) (sc := L2.defScope sl_wide_program) (by decide +kernel)) (fun _ _ _ _ _ => pg_name (i := 9) nd rfl (by first | exact .inl rfl | exact .inr rfl)) (fun _ _ _ _ _ => pts_nil) (fun _ _ _ _ _ => pd_tup (pa_cons (pd_str) (pa_cons (pd_ix (fun _ _ => rfl) (pd_var (i := 9) rfl) (pd_int)) (pa_nil)))) (by decide)) (pa_nil))) (pa_nil)))))) (pa_nil))))) (pss_nil)) (pss_one (ps_ret (pd_tup (pa_cons (pd_tup (pa_cons (pd_str) (pa_cons (pd_var (i := 4) rfl) (pa_cons (pd_tup (pa_nil)) (pa_cons (pd_var (i := 4) rfl) (pa_cons (pd_int) (pa_cons (pd_tup (pa_nil)) (pa_cons (pd_var (i := 7) rfl) (pa_nil))))))))) (pa_nil)))))))))))))))))
theorem der_l_deep_program {k : Nat} {c : Cl} (ok : ∀ y ∈ names, Own P w K mg base k (Str.ofString y) (c y)) (oks : ∀ q ∈ snames, OwnS P w K mg base k q.2 (Str.ofString q.1) (c q.1)) (zs : ∀ y ∈ blts, mg (Str.ofString y) = none) (cs_LEVELS : GlobDic K w mg "LEVELS" k_LEVELS) {fa : Addr} (cdv : Value) (A : Around) (outer : List PySem.Env) (s : Shared) (H : L2.Hp) (E : L2.XK) (hr : L2.Room k (A.deeper (envOfC "_law_deep_program" (L2.defScope sl_deep_program) s.heap.objs.size fa cdv))) :
    PDSs (L2.cxOf L2.CX0 P w K mg base nl_deep_program "_law_deep_program" (L2.defScope sl_deep_program) fa cdv A outer s H E).nox (L2.defBody sl_deep_program) (b_l_deep_program c) := by
  have nd := scl_deep_program.nd
  unfold b_l_deep_program
  exact pss_cons (ps_set (i := 1) nd rfl (by first | exact .inl rfl | exact .inr rfl) (pd_call (y := "_law_draw") (ok "_law_draw" (by decide)) hr rfl (pa_cons (pd_var (i := 0) rfl) (pa_cons (pd_int) (pa_nil))))) (pss_cons (ps_set (i := 2) nd rfl (by first | exact .inl rfl | exact .inr rfl) (pd_call (y := "_law_any_name") (ok "_law_any_name" (by decide)) hr rfl (pa_cons (pd_var (i := 0) rfl) (pa_nil)))) (pss_cons (ps_set (i := 3) nd rfl (by first | exact .inl rfl | exact .inr rfl) (pd_tup (pa_cons (pd_str) (pa_cons (pd_var (i := 2) rfl) (pa_nil))))) (pss_cons (ps_set (i := 4) nd rfl (by first | exact .inl rfl | exact .inr rfl) (pd_tup (pa_nil))) (pss_cons (ps_for PassesOwn.never rfl (pi_r1 rfl (zs "range" (by decide)) (pd_sub (pd_ix (fun _ _ => rfl) (pd_lst (pa_cons (pd_int) (pa_cons (pd_int) (pa_cons (pd_int) (pa_cons (pd_int) (pa_cons (pd_int) (pa_cons (pd_int) (pa_nil)))))))) (pd_var (i := 1) rfl)) (pd_call (y := "_law_draw") (ok "_law_draw" (by decide)) hr rfl (pa_cons (pd_var (i := 0) rfl) (pa_cons (pd_int) (pa_nil)))))) (pg_name (i := 5) nd rfl (by first | exact .inl rfl | exact .inr rfl)) (pss_one (ps_if (pt_cmp (L2.op_eqD hr.units) real_eq (by rfl) (pd_var (i := 1) rfl) (pd_int)) (pss_one (ps_set (i := 3) nd rfl (by first | exact .inl rfl | exact .inr rfl) (pd_tup (pa_cons (pd_str) (pa_cons (pd_var (i := 2) rfl) (pa_cons (pd_var (i := 3) rfl) (pa_nil))))))) (pss_one (ps_if (pt_cmp (L2.op_eqD hr.units) real_eq (by rfl) (pd_var (i := 1) rfl) (pd_int)) (pss_one (ps_set (i := 3) nd rfl (by first | exact .inl rfl | exact .inr rfl) (pd_tup (pa_cons (pd_call (y := "_law_pick") (ok "_law_pick" (by decide)) hr rfl (pa_cons (pd_var (i := 0) rfl) (pa_cons (pd_lst (pa_cons (pd_str) (pa_cons (pd_str) (pa_nil)))) (pa_nil)))) (pa_cons (pd_tup (pa_cons (pd_str) (pa_nil))) (pa_cons (pd_var (i := 3) rfl) (pa_nil))))))) (pss_one (ps_if (pt_cmp (L2.op_eqD hr.units) real_eq (by rfl) (pd_var (i := 1) rfl) (pd_int)) (pss_one (ps_set (i := 3) nd rfl (by first | exact .inl rfl | exact .inr rfl) (pd_tup (pa_cons (pd_call (y := "_law_pick") (ok "_law_pick" (by decide)) hr rfl (pa_cons (pd_var (i := 0) rfl) (pa_cons (pd_lst (pa_cons (pd_str) (pa_cons (pd_str) (pa_cons (pd_str) (pa_nil))))) (pa_nil)))) (pa_cons (pd_tup (pa_cons (pd_str) (pa_cons (pd_var (i := 2) rfl) (pa_nil)))) (pa_cons (pd_var (i := 3) rfl) (pa_nil))))))) (pss_one (ps_if (pt_cmp (L2.op_eqD hr.units) real_eq (by rfl) (pd_var (i := 1) rfl) (pd_int)) (pss_one (ps_set (i := 3) nd rfl (by first | exact .inl rfl | exact .inr rfl) (pd_tup (pa_cons (pd_call (y := "_law_pick") (ok "_law_pick" (by decide)) hr rfl (pa_cons (pd_var (i := 0) rfl) (pa_cons (pd_lst (pa_cons (pd_str) (pa_cons (pd_str) (pa_nil)))) (pa_nil)))) (pa_cons (pd_var (i := 3) rfl) (pa_nil)))))) (pss_one (ps_if (pt_cmp (L2.op_eqD hr.units) real_eq (by rfl) (pd_var (i := 1) rfl) (pd_int)) (pss_one (ps_set (i := 3) nd rfl (by first | exact .inl rfl | exact .inr rfl) (pd_tup (pa_cons (pd_str) (pa_cons (pd_var (i := 3) rfl) (pa_cons (pd_tup (pa_cons (pd_str) (pa_cons (pd_var (i := 2) rfl) (pa_nil)))) (pa_nil))))))) (pss_one (ps_set (i := 4) nd rfl (by first | exact .inl rfl | exact .inr rfl) (pd_tup (pa_cons (pd_tup (pa_cons (pd_str) (pa_cons (pd_var (i := 3) rfl) (pa_cons (pd_var (i := 4) rfl) (pa_nil))))) (pa_nil)))))))))))))))) (pss_cons (ps_if (pt_cmp L2.op_lt real_lt (by rfl) (pd_var (i := 1) rfl) (pd_int)) (pss_one (ps_set (i := 4) nd rfl (by first | exact .inl rfl | exact .inr rfl) (pd_tup (pa_cons (pd_tup (pa_cons (pd_str) (pa_cons (pd_non) (pa_cons (pd_var (i := 2) rfl) (pa_cons (pd_tup (pa_cons (pd_var (i := 3) rfl) (pa_nil))) (pa_nil)))))) (pa_nil))))) (pss_nil)) (pss_one (ps_ret (pd_tup (pa_cons (pd_tup (pa_cons (pd_str) (pa_cons (pd_var (i := 2) rfl) (pa_cons (pd_tup (pa_nil)) (pa_cons (pd_int) (pa_cons (pd_int) (pa_cons (pd_tup (pa_nil)) (pa_cons (pd_var (i := 4) rfl) (pa_nil))))))))) (pa_nil))))))))))
theorem der_l_any_world {k : Nat} {c : Cl} (ok : ∀ y ∈ names, Own P w K mg base k (Str.ofString y) (c y)) (oks : ∀ q ∈ snames, OwnS P w K mg base k q.2 (Str.ofString q.1) (c q.1)) (zs : ∀ y ∈ blts, mg (Str.ofString y) = none) (cs_LEVELS : GlobDic K w mg "LEVELS" k_LEVELS) {fa : Addr} (cdv : Value) (A : Around) (outer : List PySem.Env) (s : Shared) (H : L2.Hp) (E : L2.XK) (hr : L2.Room k (A.deeper (envOfC "_law_any_world" (L2.defScope sl_any_world) s.heap.objs.size fa cdv))) :
    PDSs (L2.cxOf L2.CX0 P w K mg base nl_any_world "_law_any_world" (L2.defScope sl_any_world) fa cdv A outer s H E).nox (L2.defBody sl_any_world) (b_l_any_world c) := by
  have nd := scl_any_world.nd
  unfold b_l_any_world
  exact pss_cons (ps_if (pt_cmp (L2.op_eqD hr.units) real_eq (by rfl) (pd_var (i := 1) rfl) (pd_int)) (pss_one (ps_ret (pd_call (y := "_law_wide_program") (ok "_law_wide_program" (by decide)) hr rfl (pa_cons (pd_var (i := 0) rfl) (pa_cons (pd_int) (pa_nil)))))) (pss_nil)) (pss_cons (ps_if (pt_cmp (L2.op_eqD hr.units) real_eq (by rfl) (pd_var (i := 1) rfl) (pd_int)) (pss_one (ps_ret (pd_call (y := "_law_deep_program") (ok "_law_deep_program" (by decide)) hr rfl (pa_cons (pd_var (i := 0) rfl) (pa_nil))))) (pss_nil)) (pss_one (ps_ret (pd_call (y := "_law_any_program") (ok "_law_any_program" (by decide)) hr rfl (pa_cons (pd_var (i := 0) rfl) (pa_cons (pd_int) (pa_cons (pd_var (i := 2) rfl) (pa_nil))))))))
theorem der_l_law {k : Nat} {c : Cl} (ok : ∀ y ∈ names, Own P w K mg base k (Str.ofString y) (c y)) (oks : ∀ q ∈ snames, OwnS P w K mg base k q.2 (Str.ofString q.1) (c q.1)) (zs : ∀ y ∈ blts, mg (Str.ofString y) = none) (cs_LEVELS : GlobDic K w mg "LEVELS" k_LEVELS) {fa : Addr} (cdv : Value) (A : Around) (outer : List PySem.Env) (s : Shared) (H : L2.Hp) (E : L2.XK) (hr : L2.Room k (A.deeper (envOfC "law" (L2.defScope sl_law) s.heap.objs.size fa cdv))) :
    PDSs (L2.cxOf L2.CX0 P w K mg base nl_law "law" (L2.defScope sl_law) fa cdv A outer s H E).nox (L2.defBody sl_law) (b_l_law c) := by
  have nd := scl_law.nd
  unfold b_l_law
  exact pss_cons (ps_set (i := 1) nd rfl (by first | exact .inl rfl | exact .inr rfl) (pd_call (y := "_law_begin") (ok "_law_begin" (by decide)) hr rfl (pa_cons (pd_var (i := 0) rfl) (pa_nil)))) (pss_cons (ps_set (i := 2) nd rfl (by first | exact .inl rfl | exact .inr rfl) (pd_call (y := "_law_any_world") (ok "_law_any_world" (by decide)) hr rfl (pa_cons (pd_var (i := 1) rfl) (pa_cons (pd_call (y := "_law_draw") (ok "_law_draw" (by decide)) hr rfl (pa_cons (pd_var (i := 1) rfl) (pa_cons (pd_int) (pa_nil)))) (pa_cons (pd_lst (pa_cons (pd_int) (pa_cons (pd_int) (pa_nil)))) (pa_nil)))))) (pss_cons (ps_set (i := 3) nd rfl (by first | exact .inl rfl | exact .inr rfl) (pd_call (y := "write_program") (ok "write_program" (by decide)) hr rfl (pa_cons (pd_var (i := 2) rfl) (pa_nil)))) (pss_cons (ps_if (ptw (pw_or (pt_not (pt_tru (pd_isi (T := "str") .str rfl (zs "isinstance" (by decide)) rfl rfl (zs "str" (by decide)) bt_str (pd_var (i := 3) rfl)))) (pw_or1 (pt_cmp (L2.op_neD hr.units) real_ne (by rfl) (pd_var (i := 3) rfl) (pd_call (y := "_law_write") (ok "_law_write" (by decide)) hr rfl (pa_cons (pd_var (i := 2) rfl) (pa_nil))))))) (pss_one (ps_ret (pd_bl))) (pss_nil)) (pss_cons (ps_for PassesOwn.never rfl (pi_seq (pd_sl (pd_var (i := 2) rfl) (po_none) (po_some (pd_int)))) (pg_name (i := 4) nd rfl (by first | exact .inl rfl | exact .inr rfl)) (pss_cons (ps_set (i := 5) nd rfl (by first | exact .inl rfl | exact .inr rfl) (pd_call (y := "text_of") (ok "text_of" (by decide)) hr rfl (pa_cons (pd_var (i := 4) rfl) (pa_nil)))) (pss_one (ps_if (ptw (pw_or (pt_not (pt_tru (pd_isi (T := "str") .str rfl (zs "isinstance" (by decide)) rfl rfl (zs "str" (by decide)) bt_str (pd_var (i := 5) rfl)))) (pw_or1 (pt_cmp (L2.op_neD hr.units) real_ne (by rfl) (pd_var (i := 5) rfl) (pd_call (y := "_law_text") (ok "_law_text" (by decide)) hr rfl (pa_cons (pd_var (i := 4) rfl) (pa_nil))))))) (pss_one (ps_ret (pd_bl))) (pss_nil))))) (pss_cons (ps_set (i := 6) nd rfl (by first | exact .inl rfl | exact .inr rfl) (pd_callTy L2.call_tuple_of real_tupleB rfl (zs "tuple" (by decide)) bt_tuple (pa_cons (pd_lstRevT rfl rfl (zs "list" (by decide)) rfl (zs "reversed" (by decide)) (pd_var (i := 2) rfl)) (pa_nil)))) (pss_cons (ps_set (i := 5) nd rfl (by first | exact .inl rfl | exact .inr rfl) (pd_call (y := "write_program") (ok "write_program" (by decide)) hr rfl (pa_cons (pd_var (i := 6) rfl) (pa_nil)))) (pss_cons (ps_if (ptw (pw_or (pt_not (pt_tru (pd_isi (T := "str") .str rfl (zs "isinstance" (by decide)) rfl rfl (zs "str" (by decide)) bt_str (pd_var (i := 5) rfl)))) (pw_or1 (pt_cmp (L2.op_neD hr.units) real_ne (by rfl) (pd_var (i := 5) rfl) (pd_call (y := "_law_write") (ok "_law_write" (by decide)) hr rfl (pa_cons (pd_var (i := 6) rfl) (pa_nil))))))) (pss_one (ps_ret (pd_bl))) (pss_nil)) (pss_cons (ps_set (i := 5) nd rfl (by first | exact .inl rfl | exact .inr rfl) (pd_call (y := "write_program") (ok "write_program" (by decide)) hr rfl (pa_cons (pd_var (i := 2) rfl) (pa_nil)))) (pss_one (ps_ret (pd_and' (pd_isi (T := "str") .str rfl (zs "isinstance" (by decide)) rfl rfl (zs "str" (by decide)) bt_str (pd_var (i := 5) rfl)) (pd_one (pd_cmp (L2.op_eqD hr.units) real_eq (by rfl) (pd_var (i := 5) rfl) (pd_var (i := 3) rfl))))))))))))))
end
theorem all_mk {l : PySem.W.OpenLaw} {w : World} {K : PySem.W.Frag} {h : Heap} {mg : Str → Option Value} {fa : Addr} (X : K.In h) (G : h.Ns mainGlobals mg) (hfa : mg "law" = some (.ref fa))
    {f1 : Addr} {od1 an1 : Option Addr} {sl1 : Array (Option Value)} {oc1 kV1 dc1 pm1 cd1 ct1 : Value}
    {f2 : Addr} {od2 an2 : Option Addr} {sl2 : Array (Option Value)} {oc2 kV2 dc2 pm2 cd2 ct2 : Value}
    {f3 : Addr} {od3 an3 : Option Addr} {sl3 : Array (Option Value)} {oc3 kV3 dc3 pm3 cd3 ct3 : Value}
    {f4 : Addr} {od4 an4 : Option Addr} {sl4 : Array (Option Value)} {oc4 kV4 dc4 pm4 cd4 ct4 : Value}
    {f5 : Addr} {od5 an5 : Option Addr} {sl5 : Array (Option Value)} {oc5 kV5 dc5 pm5 cd5 ct5 : Value}
    {f6 : Addr} {od6 an6 : Option Addr} {sl6 : Array (Option Value)} {oc6 kV6 dc6 pm6 cd6 ct6 : Value}
    {f7 : Addr} {od7 an7 : Option Addr} {sl7 : Array (Option Value)} {oc7 kV7 dc7 pm7 cd7 ct7 : Value}
    {f8 : Addr} {od8 an8 : Option Addr} {sl8 : Array (Option Value)} {oc8 kV8 dc8 pm8 cd8 ct8 : Value}
    {f9 : Addr} {od9 an9 : Option Addr} {sl9 : Array (Option Value)} {oc9 kV9 dc9 pm9 cd9 ct9 : Value}
    {f10 : Addr} {od10 an10 : Option Addr} {sl10 : Array (Option Value)} {oc10 kV10 dc10 pm10 cd10 ct10 : Value}
    {f11 : Addr} {od11 an11 : Option Addr} {sl11 : Array (Option Value)} {oc11 kV11 dc11 pm11 cd11 ct11 : Value}
    {f12 : Addr} {od12 an12 : Option Addr} {sl12 : Array (Option Value)} {oc12 kV12 dc12 pm12 cd12 ct12 : Value}
    {f13 : Addr} {od13 an13 : Option Addr} {sl13 : Array (Option Value)} {oc13 kV13 dc13 pm13 cd13 ct13 : Value}
    {f14 : Addr} {od14 an14 : Option Addr} {sl14 : Array (Option Value)} {oc14 kV14 dc14 pm14 cd14 ct14 : Value}
    {f15 : Addr} {od15 an15 : Option Addr} {sl15 : Array (Option Value)} {oc15 kV15 dc15 pm15 cd15 ct15 : Value}
    {f16 : Addr} {od16 an16 : Option Addr} {sl16 : Array (Option Value)} {oc16 kV16 dc16 pm16 cd16 ct16 : Value}
    {f17 : Addr} {od17 an17 : Option Addr} {sl17 : Array (Option Value)} {oc17 kV17 dc17 pm17 cd17 ct17 : Value}
    {f18 : Addr} {od18 an18 : Option Addr} {sl18 : Array (Option Value)} {oc18 kV18 dc18 pm18 cd18 ct18 : Value}
    {f19 : Addr} {od19 an19 : Option Addr} {sl19 : Array (Option Value)} {oc19 kV19 dc19 pm19 cd19 ct19 : Value}
    {f20 : Addr} {od20 an20 : Option Addr} {sl20 : Array (Option Value)} {oc20 kV20 dc20 pm20 cd20 ct20 : Value}
    {f21 : Addr} {od21 an21 : Option Addr} {sl21 : Array (Option Value)} {oc21 kV21 dc21 pm21 cd21 ct21 : Value}
    {f22 : Addr} {od22 an22 : Option Addr} {sl22 : Array (Option Value)} {oc22 kV22 dc22 pm22 cd22 ct22 : Value}
    {f23 : Addr} {od23 an23 : Option Addr} {sl23 : Array (Option Value)} {oc23 kV23 dc23 pm23 cd23 ct23 : Value}
    {f24 : Addr} {od24 an24 : Option Addr} {sl24 : Array (Option Value)} {oc24 kV24 dc24 pm24 cd24 ct24 : Value}
    {f25 : Addr} {od25 an25 : Option Addr} {sl25 : Array (Option Value)} {oc25 kV25 dc25 pm25 cd25 ct25 : Value}
    {f26 : Addr} {od26 an26 : Option Addr} {sl26 : Array (Option Value)} {oc26 kV26 dc26 pm26 cd26 ct26 : Value}
    {f27 : Addr} {od27 an27 : Option Addr} {sl27 : Array (Option Value)} {oc27 kV27 dc27 pm27 cd27 ct27 : Value}
    {f28 : Addr} {od28 an28 : Option Addr} {sl28 : Array (Option Value)} {oc28 kV28 dc28 pm28 cd28 ct28 : Value}
    {f29 : Addr} {od29 an29 : Option Addr} {sl29 : Array (Option Value)} {oc29 kV29 dc29 pm29 cd29 ct29 : Value}
    {f30 : Addr} {od30 an30 : Option Addr} {sl30 : Array (Option Value)} {oc30 kV30 dc30 pm30 cd30 ct30 : Value}
    {f31 : Addr} {od31 an31 : Option Addr} {sl31 : Array (Option Value)} {oc31 kV31 dc31 pm31 cd31 ct31 : Value}
    {f32 : Addr} {od32 an32 : Option Addr} {sl32 : Array (Option Value)} {oc32 kV32 dc32 pm32 cd32 ct32 : Value}
    {f33 : Addr} {od33 an33 : Option Addr} {sl33 : Array (Option Value)} {oc33 kV33 dc33 pm33 cd33 ct33 : Value}
    {f34 : Addr} {od34 an34 : Option Addr} {sl34 : Array (Option Value)} {oc34 kV34 dc34 pm34 cd34 ct34 : Value}
    {f35 : Addr} {od35 an35 : Option Addr} {sl35 : Array (Option Value)} {oc35 kV35 dc35 pm35 cd35 ct35 : Value}
    {f36 : Addr} {od36 an36 : Option Addr} {sl36 : Array (Option Value)} {oc36 kV36 dc36 pm36 cd36 ct36 : Value}
    {f37 : Addr} {od37 an37 : Option Addr} {sl37 : Array (Option Value)} {oc37 kV37 dc37 pm37 cd37 ct37 : Value}
    {f38 : Addr} {od38 an38 : Option Addr} {sl38 : Array (Option Value)} {oc38 kV38 dc38 pm38 cd38 ct38 : Value}
    {f39 : Addr} {od39 an39 : Option Addr} {sl39 : Array (Option Value)} {oc39 kV39 dc39 pm39 cd39 ct39 : Value}
    {f40 : Addr} {od40 an40 : Option Addr} {sl40 : Array (Option Value)} {oc40 kV40 dc40 pm40 cd40 ct40 : Value}
    {f41 : Addr} {od41 an41 : Option Addr} {sl41 : Array (Option Value)} {oc41 kV41 dc41 pm41 cd41 ct41 : Value}
    {f42 : Addr} {od42 an42 : Option Addr} {sl42 : Array (Option Value)} {oc42 kV42 dc42 pm42 cd42 ct42 : Value}
    {f43 : Addr} {od43 an43 : Option Addr} {sl43 : Array (Option Value)} {oc43 kV43 dc43 pm43 cd43 ct43 : Value}
    {f44 : Addr} {od44 an44 : Option Addr} {sl44 : Array (Option Value)} {oc44 kV44 dc44 pm44 cd44 ct44 : Value}
    {f45 : Addr} {od45 an45 : Option Addr} {sl45 : Array (Option Value)} {oc45 kV45 dc45 pm45 cd45 ct45 : Value}
    {f46 : Addr} {od46 an46 : Option Addr} {sl46 : Array (Option Value)} {oc46 kV46 dc46 pm46 cd46 ct46 : Value}
    {ag1 : Addr} {ig1 : Array DictEntry} {ng1 : Nat}
    (a1 : PySem.W.nsIn K mainGlobals "write_program" = some (some (.ref f1))) (l1 : K.lookup f1 = some ⟨oc1, od1, .func (PySem.W.fnOf "write_program" "write_program" (L2.defArgs sp_write_program) (L2.defBody sp_write_program) (L2.defScope sp_write_program) .none kV1 dc1 pm1 an1 cd1 ct1), sl1⟩) (c1 : PySem.W.codeIn K cd1 "write_program" = true) (k1 : PySem.W.keepIn K (.ref f1) = true)
    (a2 : PySem.W.nsIn K mainGlobals "text_of" = some (some (.ref f2))) (l2 : K.lookup f2 = some ⟨oc2, od2, .func (PySem.W.fnOf "text_of" "text_of" (L2.defArgs sp_text_of) (L2.defBody sp_text_of) (L2.defScope sp_text_of) .none kV2 dc2 pm2 an2 cd2 ct2), sl2⟩) (c2 : PySem.W.codeIn K cd2 "text_of" = true) (k2 : PySem.W.keepIn K (.ref f2) = true)
    (a3 : PySem.W.nsIn K mainGlobals "joined_lines" = some (some (.ref f3))) (l3 : K.lookup f3 = some ⟨oc3, od3, .func (PySem.W.fnOf "joined_lines" "joined_lines" (L2.defArgs sp_joined_lines) (L2.defBody sp_joined_lines) (L2.defScope sp_joined_lines) .none kV3 dc3 pm3 an3 cd3 ct3), sl3⟩) (c3 : PySem.W.codeIn K cd3 "joined_lines" = true) (k3 : PySem.W.keepIn K (.ref f3) = true)
    (a4 : PySem.W.nsIn K mainGlobals "declaration_tokens" = some (some (.ref f4))) (l4 : K.lookup f4 = some ⟨oc4, od4, .func (PySem.W.fnOf "declaration_tokens" "declaration_tokens" (L2.defArgs sp_declaration_tokens) (L2.defBody sp_declaration_tokens) (L2.defScope sp_declaration_tokens) .none kV4 dc4 pm4 an4 cd4 ct4), sl4⟩) (c4 : PySem.W.codeIn K cd4 "declaration_tokens" = true) (k4 : PySem.W.keepIn K (.ref f4) = true)
    (a5 : PySem.W.nsIn K mainGlobals "parameter_tokens" = some (some (.ref f5))) (l5 : K.lookup f5 = some ⟨oc5, od5, .func (PySem.W.fnOf "parameter_tokens" "parameter_tokens" (L2.defArgs sp_parameter_tokens) (L2.defBody sp_parameter_tokens) (L2.defScope sp_parameter_tokens) .none kV5 dc5 pm5 an5 cd5 ct5), sl5⟩) (c5 : PySem.W.codeIn K cd5 "parameter_tokens" = true) (k5 : PySem.W.keepIn K (.ref f5) = true)
    (a6 : PySem.W.nsIn K mainGlobals "block_tokens" = some (some (.ref f6))) (l6 : K.lookup f6 = some ⟨oc6, od6, .func (PySem.W.fnOf "block_tokens" "block_tokens" (L2.defArgs sp_block_tokens) (L2.defBody sp_block_tokens) (L2.defScope sp_block_tokens) .none kV6 dc6 pm6 an6 cd6 ct6), sl6⟩) (c6 : PySem.W.codeIn K cd6 "block_tokens" = true) (k6 : PySem.W.keepIn K (.ref f6) = true)
    (a7 : PySem.W.nsIn K mainGlobals "body_tokens" = some (some (.ref f7))) (l7 : K.lookup f7 = some ⟨oc7, od7, .func (PySem.W.fnOf "body_tokens" "body_tokens" (L2.defArgs sp_body_tokens) (L2.defBody sp_body_tokens) (L2.defScope sp_body_tokens) .none kV7 dc7 pm7 an7 cd7 ct7), sl7⟩) (c7 : PySem.W.codeIn K cd7 "body_tokens" = true) (k7 : PySem.W.keepIn K (.ref f7) = true)
    (a8 : PySem.W.nsIn K mainGlobals "statement_tokens" = some (some (.ref f8))) (l8 : K.lookup f8 = some ⟨oc8, od8, .func (PySem.W.fnOf "statement_tokens" "statement_tokens" (L2.defArgs sp_statement_tokens) (L2.defBody sp_statement_tokens) (L2.defScope sp_statement_tokens) .none kV8 dc8 pm8 an8 cd8 ct8), sl8⟩) (c8 : PySem.W.codeIn K cd8 "statement_tokens" = true) (k8 : PySem.W.keepIn K (.ref f8) = true)
    (a9 : PySem.W.nsIn K mainGlobals "call_tokens" = some (some (.ref f9))) (l9 : K.lookup f9 = some ⟨oc9, od9, .func (PySem.W.fnOf "call_tokens" "call_tokens" (L2.defArgs sp_call_tokens) (L2.defBody sp_call_tokens) (L2.defScope sp_call_tokens) .none kV9 dc9 pm9 an9 cd9 ct9), sl9⟩) (c9 : PySem.W.codeIn K cd9 "call_tokens" = true) (k9 : PySem.W.keepIn K (.ref f9) = true)
    (a10 : PySem.W.nsIn K mainGlobals "listed" = some (some (.ref f10))) (l10 : K.lookup f10 = some ⟨oc10, od10, .func (PySem.W.fnOf "listed" "listed" (L2.defArgs sp_listed) (L2.defBody sp_listed) (L2.defScope sp_listed) .none kV10 dc10 pm10 an10 cd10 ct10), sl10⟩) (c10 : PySem.W.codeIn K cd10 "listed" = true) (k10 : PySem.W.keepIn K (.ref f10) = true)
    (a11 : PySem.W.nsIn K mainGlobals "level_of" = some (some (.ref f11))) (l11 : K.lookup f11 = some ⟨oc11, od11, .func (PySem.W.fnOf "level_of" "level_of" (L2.defArgs sp_level_of) (L2.defBody sp_level_of) (L2.defScope sp_level_of) .none kV11 dc11 pm11 an11 cd11 ct11), sl11⟩) (c11 : PySem.W.codeIn K cd11 "level_of" = true) (k11 : PySem.W.keepIn K (.ref f11) = true)
    (a12 : PySem.W.nsIn K mainGlobals "within" = some (some (.ref f12))) (l12 : K.lookup f12 = some ⟨oc12, od12, .func (PySem.W.fnOf "within" "within" (L2.defArgs sp_within) (L2.defBody sp_within) (L2.defScope sp_within) .none kV12 dc12 pm12 an12 cd12 ct12), sl12⟩) (c12 : PySem.W.codeIn K cd12 "within" = true) (k12 : PySem.W.keepIn K (.ref f12) = true)
    (a13 : PySem.W.nsIn K mainGlobals "expr_tokens" = some (some (.ref f13))) (l13 : K.lookup f13 = some ⟨oc13, od13, .func (PySem.W.fnOf "expr_tokens" "expr_tokens" (L2.defArgs sp_expr_tokens) (L2.defBody sp_expr_tokens) (L2.defScope sp_expr_tokens) .none kV13 dc13 pm13 an13 cd13 ct13), sl13⟩) (c13 : PySem.W.codeIn K cd13 "expr_tokens" = true) (k13 : PySem.W.keepIn K (.ref f13) = true)
    (a14 : PySem.W.nsIn K mainGlobals "_law_begin" = some (some (.ref f14))) (l14 : K.lookup f14 = some ⟨oc14, od14, .func (PySem.W.fnOf "_law_begin" "_law_begin" (L2.defArgs sl_begin) (L2.defBody sl_begin) (L2.defScope sl_begin) .none kV14 dc14 pm14 an14 cd14 ct14), sl14⟩) (c14 : PySem.W.codeIn K cd14 "_law_begin" = true) (k14 : PySem.W.keepIn K (.ref f14) = true)
    (a15 : PySem.W.nsIn K mainGlobals "_law_draw" = some (some (.ref f15))) (l15 : K.lookup f15 = some ⟨oc15, od15, .func (PySem.W.fnOf "_law_draw" "_law_draw" (L2.defArgs sl_draw) (L2.defBody sl_draw) (L2.defScope sl_draw) .none kV15 dc15 pm15 an15 cd15 ct15), sl15⟩) (c15 : PySem.W.codeIn K cd15 "_law_draw" = true) (k15 : PySem.W.keepIn K (.ref f15) = true)
    (a16 : PySem.W.nsIn K mainGlobals "_law_pick" = some (some (.ref f16))) (l16 : K.lookup f16 = some ⟨oc16, od16, .func (PySem.W.fnOf "_law_pick" "_law_pick" (L2.defArgs sl_pick) (L2.defBody sl_pick) (L2.defScope sl_pick) .none kV16 dc16 pm16 an16 cd16 ct16), sl16⟩) (c16 : PySem.W.codeIn K cd16 "_law_pick" = true) (k16 : PySem.W.keepIn K (.ref f16) = true)
    (a17 : PySem.W.nsIn K mainGlobals "_law_listed" = some (some (.ref f17))) (l17 : K.lookup f17 = some ⟨oc17, od17, .func (PySem.W.fnOf "_law_listed" "_law_listed" (L2.defArgs sl_listed) (L2.defBody sl_listed) (L2.defScope sl_listed) .none kV17 dc17 pm17 an17 cd17 ct17), sl17⟩) (c17 : PySem.W.codeIn K cd17 "_law_listed" = true) (k17 : PySem.W.keepIn K (.ref f17) = true)
    (a18 : PySem.W.nsIn K mainGlobals "_law_level" = some (some (.ref f18))) (l18 : K.lookup f18 = some ⟨oc18, od18, .func (PySem.W.fnOf "_law_level" "_law_level" (L2.defArgs sl_level) (L2.defBody sl_level) (L2.defScope sl_level) .none kV18 dc18 pm18 an18 cd18 ct18), sl18⟩) (c18 : PySem.W.codeIn K cd18 "_law_level" = true) (k18 : PySem.W.keepIn K (.ref f18) = true)
    (a19 : PySem.W.nsIn K mainGlobals "_law_inner_tokens" = some (some (.ref f19))) (l19 : K.lookup f19 = some ⟨oc19, od19, .func (PySem.W.fnOf "_law_inner_tokens" "_law_inner_tokens" (L2.defArgs sl_inner_tokens) (L2.defBody sl_inner_tokens) (L2.defScope sl_inner_tokens) .none kV19 dc19 pm19 an19 cd19 ct19), sl19⟩) (c19 : PySem.W.codeIn K cd19 "_law_inner_tokens" = true) (k19 : PySem.W.keepIn K (.ref f19) = true)
    (a20 : PySem.W.nsIn K mainGlobals "_law_expr_tokens" = some (some (.ref f20))) (l20 : K.lookup f20 = some ⟨oc20, od20, .func (PySem.W.fnOf "_law_expr_tokens" "_law_expr_tokens" (L2.defArgs sl_expr_tokens) (L2.defBody sl_expr_tokens) (L2.defScope sl_expr_tokens) .none kV20 dc20 pm20 an20 cd20 ct20), sl20⟩) (c20 : PySem.W.codeIn K cd20 "_law_expr_tokens" = true) (k20 : PySem.W.keepIn K (.ref f20) = true)
    (a21 : PySem.W.nsIn K mainGlobals "_law_block_tokens" = some (some (.ref f21))) (l21 : K.lookup f21 = some ⟨oc21, od21, .func (PySem.W.fnOf "_law_block_tokens" "_law_block_tokens" (L2.defArgs sl_block_tokens) (L2.defBody sl_block_tokens) (L2.defScope sl_block_tokens) .none kV21 dc21 pm21 an21 cd21 ct21), sl21⟩) (c21 : PySem.W.codeIn K cd21 "_law_block_tokens" = true) (k21 : PySem.W.keepIn K (.ref f21) = true)
    (a22 : PySem.W.nsIn K mainGlobals "_law_statement_tokens" = some (some (.ref f22))) (l22 : K.lookup f22 = some ⟨oc22, od22, .func (PySem.W.fnOf "_law_statement_tokens" "_law_statement_tokens" (L2.defArgs sl_statement_tokens) (L2.defBody sl_statement_tokens) (L2.defScope sl_statement_tokens) .none kV22 dc22 pm22 an22 cd22 ct22), sl22⟩) (c22 : PySem.W.codeIn K cd22 "_law_statement_tokens" = true) (k22 : PySem.W.keepIn K (.ref f22) = true)
    (a23 : PySem.W.nsIn K mainGlobals "_law_params_tokens" = some (some (.ref f23))) (l23 : K.lookup f23 = some ⟨oc23, od23, .func (PySem.W.fnOf "_law_params_tokens" "_law_params_tokens" (L2.defArgs sl_params_tokens) (L2.defBody sl_params_tokens) (L2.defScope sl_params_tokens) .none kV23 dc23 pm23 an23 cd23 ct23), sl23⟩) (c23 : PySem.W.codeIn K cd23 "_law_params_tokens" = true) (k23 : PySem.W.keepIn K (.ref f23) = true)
    (a24 : PySem.W.nsIn K mainGlobals "_law_part_tokens" = some (some (.ref f24))) (l24 : K.lookup f24 = some ⟨oc24, od24, .func (PySem.W.fnOf "_law_part_tokens" "_law_part_tokens" (L2.defArgs sl_part_tokens) (L2.defBody sl_part_tokens) (L2.defScope sl_part_tokens) .none kV24 dc24 pm24 an24 cd24 ct24), sl24⟩) (c24 : PySem.W.codeIn K cd24 "_law_part_tokens" = true) (k24 : PySem.W.keepIn K (.ref f24) = true)
    (a25 : PySem.W.nsIn K mainGlobals "_law_lines" = some (some (.ref f25))) (l25 : K.lookup f25 = some ⟨oc25, od25, .func (PySem.W.fnOf "_law_lines" "_law_lines" (L2.defArgs sl_lines) (L2.defBody sl_lines) (L2.defScope sl_lines) .none kV25 dc25 pm25 an25 cd25 ct25), sl25⟩) (c25 : PySem.W.codeIn K cd25 "_law_lines" = true) (k25 : PySem.W.keepIn K (.ref f25) = true)
    (a26 : PySem.W.nsIn K mainGlobals "_law_text" = some (some (.ref f26))) (l26 : K.lookup f26 = some ⟨oc26, od26, .func (PySem.W.fnOf "_law_text" "_law_text" (L2.defArgs sl_text) (L2.defBody sl_text) (L2.defScope sl_text) .none kV26 dc26 pm26 an26 cd26 ct26), sl26⟩) (c26 : PySem.W.codeIn K cd26 "_law_text" = true) (k26 : PySem.W.keepIn K (.ref f26) = true)
    (a27 : PySem.W.nsIn K mainGlobals "_law_write" = some (some (.ref f27))) (l27 : K.lookup f27 = some ⟨oc27, od27, .func (PySem.W.fnOf "_law_write" "_law_write" (L2.defArgs sl_write) (L2.defBody sl_write) (L2.defScope sl_write) .none kV27 dc27 pm27 an27 cd27 ct27), sl27⟩) (c27 : PySem.W.codeIn K cd27 "_law_write" = true) (k27 : PySem.W.keepIn K (.ref f27) = true)
    (a28 : PySem.W.nsIn K mainGlobals "_law_reserved" = some (some (.ref f28))) (l28 : K.lookup f28 = some ⟨oc28, od28, .func (PySem.W.fnOf "_law_reserved" "_law_reserved" (L2.defArgs sl_reserved) (L2.defBody sl_reserved) (L2.defScope sl_reserved) .none kV28 dc28 pm28 an28 cd28 ct28), sl28⟩) (c28 : PySem.W.codeIn K cd28 "_law_reserved" = true) (k28 : PySem.W.keepIn K (.ref f28) = true)
    (a29 : PySem.W.nsIn K mainGlobals "_law_any_name" = some (some (.ref f29))) (l29 : K.lookup f29 = some ⟨oc29, od29, .func (PySem.W.fnOf "_law_any_name" "_law_any_name" (L2.defArgs sl_any_name) (L2.defBody sl_any_name) (L2.defScope sl_any_name) .none kV29 dc29 pm29 an29 cd29 ct29), sl29⟩) (c29 : PySem.W.codeIn K cd29 "_law_any_name" = true) (k29 : PySem.W.keepIn K (.ref f29) = true)
    (a30 : PySem.W.nsIn K mainGlobals "_law_any_number" = some (some (.ref f30))) (l30 : K.lookup f30 = some ⟨oc30, od30, .func (PySem.W.fnOf "_law_any_number" "_law_any_number" (L2.defArgs sl_any_number) (L2.defBody sl_any_number) (L2.defScope sl_any_number) .none kV30 dc30 pm30 an30 cd30 ct30), sl30⟩) (c30 : PySem.W.codeIn K cd30 "_law_any_number" = true) (k30 : PySem.W.keepIn K (.ref f30) = true)
    (a31 : PySem.W.nsIn K mainGlobals "_law_any_leaf" = some (some (.ref f31))) (l31 : K.lookup f31 = some ⟨oc31, od31, .func (PySem.W.fnOf "_law_any_leaf" "_law_any_leaf" (L2.defArgs sl_any_leaf) (L2.defBody sl_any_leaf) (L2.defScope sl_any_leaf) .none kV31 dc31 pm31 an31 cd31 ct31), sl31⟩) (c31 : PySem.W.codeIn K cd31 "_law_any_leaf" = true) (k31 : PySem.W.keepIn K (.ref f31) = true)
    (a32 : PySem.W.nsIn K mainGlobals "_law_any_expr" = some (some (.ref f32))) (l32 : K.lookup f32 = some ⟨oc32, od32, .func (PySem.W.fnOf "_law_any_expr" "_law_any_expr" (L2.defArgs sl_any_expr) (L2.defBody sl_any_expr) (L2.defScope sl_any_expr) .none kV32 dc32 pm32 an32 cd32 ct32), sl32⟩) (c32 : PySem.W.codeIn K cd32 "_law_any_expr" = true) (k32 : PySem.W.keepIn K (.ref f32) = true)
    (a33 : PySem.W.nsIn K mainGlobals "_law_any_call" = some (some (.ref f33))) (l33 : K.lookup f33 = some ⟨oc33, od33, .func (PySem.W.fnOf "_law_any_call" "_law_any_call" (L2.defArgs sl_any_call) (L2.defBody sl_any_call) (L2.defScope sl_any_call) .none kV33 dc33 pm33 an33 cd33 ct33), sl33⟩) (c33 : PySem.W.codeIn K cd33 "_law_any_call" = true) (k33 : PySem.W.keepIn K (.ref f33) = true)
    (a34 : PySem.W.nsIn K mainGlobals "_law_any_place" = some (some (.ref f34))) (l34 : K.lookup f34 = some ⟨oc34, od34, .func (PySem.W.fnOf "_law_any_place" "_law_any_place" (L2.defArgs sl_any_place) (L2.defBody sl_any_place) (L2.defScope sl_any_place) .none kV34 dc34 pm34 an34 cd34 ct34), sl34⟩) (c34 : PySem.W.codeIn K cd34 "_law_any_place" = true) (k34 : PySem.W.keepIn K (.ref f34) = true)
    (a35 : PySem.W.nsIn K mainGlobals "_law_any_plain" = some (some (.ref f35))) (l35 : K.lookup f35 = some ⟨oc35, od35, .func (PySem.W.fnOf "_law_any_plain" "_law_any_plain" (L2.defArgs sl_any_plain) (L2.defBody sl_any_plain) (L2.defScope sl_any_plain) .none kV35 dc35 pm35 an35 cd35 ct35), sl35⟩) (c35 : PySem.W.codeIn K cd35 "_law_any_plain" = true) (k35 : PySem.W.keepIn K (.ref f35) = true)
    (a36 : PySem.W.nsIn K mainGlobals "_law_any_statement" = some (some (.ref f36))) (l36 : K.lookup f36 = some ⟨oc36, od36, .func (PySem.W.fnOf "_law_any_statement" "_law_any_statement" (L2.defArgs sl_any_statement) (L2.defBody sl_any_statement) (L2.defScope sl_any_statement) .none kV36 dc36 pm36 an36 cd36 ct36), sl36⟩) (c36 : PySem.W.codeIn K cd36 "_law_any_statement" = true) (k36 : PySem.W.keepIn K (.ref f36) = true)
    (a37 : PySem.W.nsIn K mainGlobals "_law_any_try" = some (some (.ref f37))) (l37 : K.lookup f37 = some ⟨oc37, od37, .func (PySem.W.fnOf "_law_any_try" "_law_any_try" (L2.defArgs sl_any_try) (L2.defBody sl_any_try) (L2.defScope sl_any_try) .none kV37 dc37 pm37 an37 cd37 ct37), sl37⟩) (c37 : PySem.W.codeIn K cd37 "_law_any_try" = true) (k37 : PySem.W.keepIn K (.ref f37) = true)
    (a38 : PySem.W.nsIn K mainGlobals "_law_any_body" = some (some (.ref f38))) (l38 : K.lookup f38 = some ⟨oc38, od38, .func (PySem.W.fnOf "_law_any_body" "_law_any_body" (L2.defArgs sl_any_body) (L2.defBody sl_any_body) (L2.defScope sl_any_body) .none kV38 dc38 pm38 an38 cd38 ct38), sl38⟩) (c38 : PySem.W.codeIn K cd38 "_law_any_body" = true) (k38 : PySem.W.keepIn K (.ref f38) = true)
    (a39 : PySem.W.nsIn K mainGlobals "_law_any_kind" = some (some (.ref f39))) (l39 : K.lookup f39 = some ⟨oc39, od39, .func (PySem.W.fnOf "_law_any_kind" "_law_any_kind" (L2.defArgs sl_any_kind) (L2.defBody sl_any_kind) (L2.defScope sl_any_kind) .none kV39 dc39 pm39 an39 cd39 ct39), sl39⟩) (c39 : PySem.W.codeIn K cd39 "_law_any_kind" = true) (k39 : PySem.W.keepIn K (.ref f39) = true)
    (a40 : PySem.W.nsIn K mainGlobals "_law_any_pairs" = some (some (.ref f40))) (l40 : K.lookup f40 = some ⟨oc40, od40, .func (PySem.W.fnOf "_law_any_pairs" "_law_any_pairs" (L2.defArgs sl_any_pairs) (L2.defBody sl_any_pairs) (L2.defScope sl_any_pairs) .none kV40 dc40 pm40 an40 cd40 ct40), sl40⟩) (c40 : PySem.W.codeIn K cd40 "_law_any_pairs" = true) (k40 : PySem.W.keepIn K (.ref f40) = true)
    (a41 : PySem.W.nsIn K mainGlobals "_law_any_part" = some (some (.ref f41))) (l41 : K.lookup f41 = some ⟨oc41, od41, .func (PySem.W.fnOf "_law_any_part" "_law_any_part" (L2.defArgs sl_any_part) (L2.defBody sl_any_part) (L2.defScope sl_any_part) .none kV41 dc41 pm41 an41 cd41 ct41), sl41⟩) (c41 : PySem.W.codeIn K cd41 "_law_any_part" = true) (k41 : PySem.W.keepIn K (.ref f41) = true)
    (a42 : PySem.W.nsIn K mainGlobals "_law_any_program" = some (some (.ref f42))) (l42 : K.lookup f42 = some ⟨oc42, od42, .func (PySem.W.fnOf "_law_any_program" "_law_any_program" (L2.defArgs sl_any_program) (L2.defBody sl_any_program) (L2.defScope sl_any_program) .none kV42 dc42 pm42 an42 cd42 ct42), sl42⟩) (c42 : PySem.W.codeIn K cd42 "_law_any_program" = true) (k42 : PySem.W.keepIn K (.ref f42) = true)
    (a43 : PySem.W.nsIn K mainGlobals "_law_wide_program" = some (some (.ref f43))) (l43 : K.lookup f43 = some ⟨oc43, od43, .func (PySem.W.fnOf "_law_wide_program" "_law_wide_program" (L2.defArgs sl_wide_program) (L2.defBody sl_wide_program) (L2.defScope sl_wide_program) .none kV43 dc43 pm43 an43 cd43 ct43), sl43⟩) (c43 : PySem.W.codeIn K cd43 "_law_wide_program" = true) (k43 : PySem.W.keepIn K (.ref f43) = true)
    (a44 : PySem.W.nsIn K mainGlobals "_law_deep_program" = some (some (.ref f44))) (l44 : K.lookup f44 = some ⟨oc44, od44, .func (PySem.W.fnOf "_law_deep_program" "_law_deep_program" (L2.defArgs sl_deep_program) (L2.defBody sl_deep_program) (L2.defScope sl_deep_program) .none kV44 dc44 pm44 an44 cd44 ct44), sl44⟩) (c44 : PySem.W.codeIn K cd44 "_law_deep_program" = true) (k44 : PySem.W.keepIn K (.ref f44) = true)
    (a45 : PySem.W.nsIn K mainGlobals "_law_any_world" = some (some (.ref f45))) (l45 : K.lookup f45 = some ⟨oc45, od45, .func (PySem.W.fnOf "_law_any_world" "_law_any_world" (L2.defArgs sl_any_world) (L2.defBody sl_any_world) (L2.defScope sl_any_world) .none kV45 dc45 pm45 an45 cd45 ct45), sl45⟩) (c45 : PySem.W.codeIn K cd45 "_law_any_world" = true) (k45 : PySem.W.keepIn K (.ref f45) = true)
    (a46 : PySem.W.nsIn K mainGlobals "law" = some (some (.ref f46))) (l46 : K.lookup f46 = some ⟨oc46, od46, .func (PySem.W.fnOf "law" "law" (L2.defArgs sl_law) (L2.defBody sl_law) (L2.defScope sl_law) .none kV46 dc46 pm46 an46 cd46 ct46), sl46⟩) (c46 : PySem.W.codeIn K cd46 "law" = true) (k46 : PySem.W.keepIn K (.ref f46) = true)
    (z1 : PySem.W.nsIn K mainGlobals "abs" = some none) (z2 : PySem.W.nsIn K mainGlobals "int" = some none) (z3 : PySem.W.nsIn K mainGlobals "isinstance" = some none) (z4 : PySem.W.nsIn K mainGlobals "len" = some none) (z5 : PySem.W.nsIn K mainGlobals "list" = some none) (z6 : PySem.W.nsIn K mainGlobals "range" = some none) (z7 : PySem.W.nsIn K mainGlobals "reversed" = some none) (z8 : PySem.W.nsIn K mainGlobals "str" = some none) (z9 : PySem.W.nsIn K mainGlobals "tuple" = some none)
    (g1 : PySem.W.nsIn K mainGlobals "LEVELS" = some (some (.ref ag1))) (gl1 : K.lookup ag1 = some ⟨.type "dict", none, .dict ig1 ng1, #[]⟩) (gk1 : PySem.W.KeysLit w.params ig1.toList) (gc1 : (ag1 == sysModules) = false) (ge1 : kvsOk ig1.toList [("|", .int 1), ("^", .int 2), ("&", .int 3), ("==", .int 4), ("!=", .int 4), ("<", .int 4), ("<=", .int 4), ("<<", .int 5), (">>", .int 5), ("+", .int 6), ("-", .int 6), ("*", .int 7)] = true) :
    ∃ fd : FuncData, (∀ (s : Shared) (v : Value), BindsTo s fd ⟨[v], []⟩ [("_law_script", v)]) ∧ ∀ base : Heap, K.In base → base.Ns mainGlobals mg → L2.FnOk l.prog w K mg base L2.CX0 200 fa fd ["_law_script"] (liftF K 1 (callN prog 200 "law")) := by
  have e := hfa.symm.trans (PySem.W.mg_of X G a46)
  cases e
  have F1 := L2.fun_mk (st := sp_write_program) l1 c1 k1
  have b1 := F1.binds (ps := ["program"]) fun _ _ _ _ _ _ us hl => match us, hl with | [_], _ => rfl
  have F2 := L2.fun_mk (st := sp_text_of) l2 c2 k2
  have b2 := F2.binds (ps := ["declaration"]) fun _ _ _ _ _ _ us hl => match us, hl with | [_], _ => rfl
  have F3 := L2.fun_mk (st := sp_joined_lines) l3 c3 k3
  have b3 := F3.binds (ps := ["tokens"]) fun _ _ _ _ _ _ us hl => match us, hl with | [_], _ => rfl
  have F4 := L2.fun_mk (st := sp_declaration_tokens) l4 c4 k4
  have b4 := F4.binds (ps := ["part"]) fun _ _ _ _ _ _ us hl => match us, hl with | [_], _ => rfl
  have F5 := L2.fun_mk (st := sp_parameter_tokens) l5 c5 k5
  have b5 := F5.binds (ps := ["parameters"]) fun _ _ _ _ _ _ us hl => match us, hl with | [_], _ => rfl
  have F6 := L2.fun_mk (st := sp_block_tokens) l6 c6 k6
  have b6 := F6.binds (ps := ["body"]) fun _ _ _ _ _ _ us hl => match us, hl with | [_], _ => rfl
  have F7 := L2.fun_mk (st := sp_body_tokens) l7 c7 k7
  have b7 := F7.binds (ps := ["body"]) fun _ _ _ _ _ _ us hl => match us, hl with | [_], _ => rfl
  have F8 := L2.fun_mk (st := sp_statement_tokens) l8 c8 k8
  have b8 := F8.binds (ps := ["statement"]) fun _ _ _ _ _ _ us hl => match us, hl with | [_], _ => rfl
  have F9 := L2.fun_mk (st := sp_call_tokens) l9 c9 k9
  have b9 := F9.binds (ps := ["statement"]) fun _ _ _ _ _ _ us hl => match us, hl with | [_], _ => rfl
  have F10 := L2.fun_mk (st := sp_listed) l10 c10 k10
  have b10 := F10.binds (ps := ["exprs"]) fun _ _ _ _ _ _ us hl => match us, hl with | [_], _ => rfl
  have F11 := L2.fun_mk (st := sp_level_of) l11 c11 k11
  have b11 := F11.binds (ps := ["expr"]) fun _ _ _ _ _ _ us hl => match us, hl with | [_], _ => rfl
  have F12 := L2.fun_mk (st := sp_within) l12 c12 k12
  have b12 := F12.binds (ps := ["expr", "level"]) fun _ _ _ _ _ _ us hl => match us, hl with | [_, _], _ => rfl
  have F13 := L2.fun_mk (st := sp_expr_tokens) l13 c13 k13
  have b13 := F13.binds (ps := ["expr"]) fun _ _ _ _ _ _ us hl => match us, hl with | [_], _ => rfl
  have F14 := L2.fun_mk (st := sl_begin) l14 c14 k14
  have b14 := F14.binds (ps := ["_law_script"]) fun _ _ _ _ _ _ us hl => match us, hl with | [_], _ => rfl
  have F15 := L2.fun_mk (st := sl_draw) l15 c15 k15
  have b15 := F15.binds (ps := ["_law_d", "_law_many"]) fun _ _ _ _ _ _ us hl => match us, hl with | [_, _], _ => rfl
  have F16 := L2.fun_mk (st := sl_pick) l16 c16 k16
  have b16 := F16.binds (ps := ["_law_d", "_law_row"]) fun _ _ _ _ _ _ us hl => match us, hl with | [_, _], _ => rfl
  have F17 := L2.fun_mk (st := sl_listed) l17 c17 k17
  have b17 := F17.binds (ps := ["_law_exprs"]) fun _ _ _ _ _ _ us hl => match us, hl with | [_], _ => rfl
  have F18 := L2.fun_mk (st := sl_level) l18 c18 k18
  have b18 := F18.binds (ps := ["_law_expr"]) fun _ _ _ _ _ _ us hl => match us, hl with | [_], _ => rfl
  have F19 := L2.fun_mk (st := sl_inner_tokens) l19 c19 k19
  have b19 := F19.binds (ps := ["_law_expr", "_law_level_here"]) fun _ _ _ _ _ _ us hl => match us, hl with | [_, _], _ => rfl
  have F20 := L2.fun_mk (st := sl_expr_tokens) l20 c20 k20
  have b20 := F20.binds (ps := ["_law_expr"]) fun _ _ _ _ _ _ us hl => match us, hl with | [_], _ => rfl
  have F21 := L2.fun_mk (st := sl_block_tokens) l21 c21 k21
  have b21 := F21.binds (ps := ["_law_body"]) fun _ _ _ _ _ _ us hl => match us, hl with | [_], _ => rfl
  have F22 := L2.fun_mk (st := sl_statement_tokens) l22 c22 k22
  have b22 := F22.binds (ps := ["_law_row"]) fun _ _ _ _ _ _ us hl => match us, hl with | [_], _ => rfl
  have F23 := L2.fun_mk (st := sl_params_tokens) l23 c23 k23
  have b23 := F23.binds (ps := ["_law_rows"]) fun _ _ _ _ _ _ us hl => match us, hl with | [_], _ => rfl
  have F24 := L2.fun_mk (st := sl_part_tokens) l24 c24 k24
  have b24 := F24.binds (ps := ["_law_part"]) fun _ _ _ _ _ _ us hl => match us, hl with | [_], _ => rfl
  have F25 := L2.fun_mk (st := sl_lines) l25 c25 k25
  have b25 := F25.binds (ps := ["_law_tokens"]) fun _ _ _ _ _ _ us hl => match us, hl with | [_], _ => rfl
  have F26 := L2.fun_mk (st := sl_text) l26 c26 k26
  have b26 := F26.binds (ps := ["_law_part"]) fun _ _ _ _ _ _ us hl => match us, hl with | [_], _ => rfl
  have F27 := L2.fun_mk (st := sl_write) l27 c27 k27
  have b27 := F27.binds (ps := ["_law_program"]) fun _ _ _ _ _ _ us hl => match us, hl with | [_], _ => rfl
  have F28 := L2.fun_mk (st := sl_reserved) l28 c28 k28
  have b28 := F28.binds (ps := []) fun _ _ _ _ _ _ us hl => match us, hl with | [], _ => rfl
  have F29 := L2.fun_mk (st := sl_any_name) l29 c29 k29
  have b29 := F29.binds (ps := ["_law_d"]) fun _ _ _ _ _ _ us hl => match us, hl with | [_], _ => rfl
  have F30 := L2.fun_mk (st := sl_any_number) l30 c30 k30
  have b30 := F30.binds (ps := ["_law_d"]) fun _ _ _ _ _ _ us hl => match us, hl with | [_], _ => rfl
  have F31 := L2.fun_mk (st := sl_any_leaf) l31 c31 k31
  have b31 := F31.binds (ps := ["_law_d"]) fun _ _ _ _ _ _ us hl => match us, hl with | [_], _ => rfl
  have F32 := L2.fun_mk (st := sl_any_expr) l32 c32 k32
  have b32 := F32.binds (ps := ["_law_d", "_law_left", "_law_deep"]) fun _ _ _ _ _ _ us hl => match us, hl with | [_, _, _], _ => rfl
  have F33 := L2.fun_mk (st := sl_any_call) l33 c33 k33
  have b33 := F33.binds (ps := ["_law_d", "_law_left", "_law_deep"]) fun _ _ _ _ _ _ us hl => match us, hl with | [_, _, _], _ => rfl
  have F34 := L2.fun_mk (st := sl_any_place) l34 c34 k34
  have b34 := F34.binds (ps := ["_law_d", "_law_left"]) fun _ _ _ _ _ _ us hl => match us, hl with | [_, _], _ => rfl
  have F35 := L2.fun_mk (st := sl_any_plain) l35 c35 k35
  have b35 := F35.binds (ps := ["_law_d", "_law_left", "_law_way"]) fun _ _ _ _ _ _ us hl => match us, hl with | [_, _, _], _ => rfl
  have F36 := L2.fun_mk (st := sl_any_statement) l36 c36 k36
  have b36 := F36.binds (ps := ["_law_d", "_law_left", "_law_deep"]) fun _ _ _ _ _ _ us hl => match us, hl with | [_, _, _], _ => rfl
  have F37 := L2.fun_mk (st := sl_any_try) l37 c37 k37
  have b37 := F37.binds (ps := ["_law_d", "_law_left", "_law_deep"]) fun _ _ _ _ _ _ us hl => match us, hl with | [_, _, _], _ => rfl
  have F38 := L2.fun_mk (st := sl_any_body) l38 c38 k38
  have b38 := F38.binds (ps := ["_law_d", "_law_left", "_law_deep"]) fun _ _ _ _ _ _ us hl => match us, hl with | [_, _, _], _ => rfl
  have F39 := L2.fun_mk (st := sl_any_kind) l39 c39 k39
  have b39 := F39.binds (ps := ["_law_d"]) fun _ _ _ _ _ _ us hl => match us, hl with | [_], _ => rfl
  have F40 := L2.fun_mk (st := sl_any_pairs) l40 c40 k40
  have b40 := F40.binds (ps := ["_law_d", "_law_most"]) fun _ _ _ _ _ _ us hl => match us, hl with | [_, _], _ => rfl
  have F41 := L2.fun_mk (st := sl_any_part) l41 c41 k41
  have b41 := F41.binds (ps := ["_law_d", "_law_left"]) fun _ _ _ _ _ _ us hl => match us, hl with | [_, _], _ => rfl
  have F42 := L2.fun_mk (st := sl_any_program) l42 c42 k42
  have b42 := F42.binds (ps := ["_law_d", "_law_many", "_law_left"]) fun _ _ _ _ _ _ us hl => match us, hl with | [_, _, _], _ => rfl
  have F43 := L2.fun_mk (st := sl_wide_program) l43 c43 k43
  have b43 := F43.binds (ps := ["_law_d", "_law_most"]) fun _ _ _ _ _ _ us hl => match us, hl with | [_, _], _ => rfl
  have F44 := L2.fun_mk (st := sl_deep_program) l44 c44 k44
  have b44 := F44.binds (ps := ["_law_d"]) fun _ _ _ _ _ _ us hl => match us, hl with | [_], _ => rfl
  have F45 := L2.fun_mk (st := sl_any_world) l45 c45 k45
  have b45 := F45.binds (ps := ["_law_d", "_law_way", "_law_left"]) fun _ _ _ _ _ _ us hl => match us, hl with | [_, _, _], _ => rfl
  have F46 := L2.fun_mk (st := sl_law) l46 c46 k46
  have b46 := F46.binds (ps := ["_law_script"]) fun _ _ _ _ _ _ us hl => match us, hl with | [_], _ => rfl
  have zs : ∀ y ∈ blts, mg (Str.ofString y) = none := by
    intro y hy
    simp only [blts, List.mem_cons, List.not_mem_nil, or_false] at hy
    rcases hy with rfl | rfl | rfl | rfl | rfl | rfl | rfl | rfl | rfl
    · exact PySem.W.mg_none_of X G z1
    · exact PySem.W.mg_none_of X G z2
    · exact PySem.W.mg_none_of X G z3
    · exact PySem.W.mg_none_of X G z4
    · exact PySem.W.mg_none_of X G z5
    · exact PySem.W.mg_none_of X G z6
    · exact PySem.W.mg_none_of X G z7
    · exact PySem.W.mg_none_of X G z8
    · exact PySem.W.mg_none_of X G z9
  have cs_LEVELS : GlobDic K w mg "LEVELS" k_LEVELS := glob_dic (PySem.W.mg_of X G g1) gl1 gk1 gc1 ge1
  refine ⟨PySem.W.fnOf "law" "law" (L2.defArgs sl_law) (L2.defBody sl_law) (L2.defScope sl_law) .none kV46 dc46 pm46 an46 cd46 ct46, fun s v => .of_eq rfl, fun base _ _ => ?_⟩
  have st : ∀ x ∈ names, ∃ d, prog x = some d ∧ Step2 l.prog w K mg base names snames x d := by
    intro x hx
    simp only [names, List.mem_cons, List.not_mem_nil, or_false] at hx
    rcases hx with rfl | rfl | rfl | rfl | rfl | rfl | rfl | rfl | rfl | rfl | rfl | rfl | rfl | rfl | rfl | rfl | rfl | rfl | rfl | rfl | rfl | rfl | rfl | rfl | rfl | rfl | rfl | rfl | rfl | rfl | rfl | rfl | rfl | rfl | rfl | rfl | rfl | rfl | rfl | rfl | rfl | rfl | rfl | rfl | rfl | rfl
    · exact ⟨_, rfl, _, _, ["program"], PySem.W.mg_of X G a1, F1.kp, b1, rfl, fun k c ok oks => fn_ok F1 scp_write_program rfl rfl (der_p_write_program ok oks zs cs_LEVELS)⟩
    · exact ⟨_, rfl, _, _, ["declaration"], PySem.W.mg_of X G a2, F2.kp, b2, rfl, fun k c ok oks => fn_ok F2 scp_text_of rfl rfl (der_p_text_of ok oks zs cs_LEVELS)⟩
    · exact ⟨_, rfl, _, _, ["tokens"], PySem.W.mg_of X G a3, F3.kp, b3, rfl, fun k c ok oks => fn_ok F3 scp_joined_lines rfl rfl (der_p_joined_lines ok oks zs cs_LEVELS)⟩
    · exact ⟨_, rfl, _, _, ["part"], PySem.W.mg_of X G a4, F4.kp, b4, rfl, fun k c ok oks => fn_ok F4 scp_declaration_tokens rfl rfl (der_p_declaration_tokens ok oks zs cs_LEVELS)⟩
    · exact ⟨_, rfl, _, _, ["parameters"], PySem.W.mg_of X G a5, F5.kp, b5, rfl, fun k c ok oks => fn_ok F5 scp_parameter_tokens rfl rfl (der_p_parameter_tokens ok oks zs cs_LEVELS)⟩
    · exact ⟨_, rfl, _, _, ["body"], PySem.W.mg_of X G a6, F6.kp, b6, rfl, fun k c ok oks => fn_ok F6 scp_block_tokens rfl rfl (der_p_block_tokens ok oks zs cs_LEVELS)⟩
    · exact ⟨_, rfl, _, _, ["body"], PySem.W.mg_of X G a7, F7.kp, b7, rfl, fun k c ok oks => fn_ok F7 scp_body_tokens rfl rfl (der_p_body_tokens ok oks zs cs_LEVELS)⟩
    · exact ⟨_, rfl, _, _, ["statement"], PySem.W.mg_of X G a8, F8.kp, b8, rfl, fun k c ok oks => fn_ok F8 scp_statement_tokens rfl rfl (der_p_statement_tokens ok oks zs cs_LEVELS)⟩
    · exact ⟨_, rfl, _, _, ["statement"], PySem.W.mg_of X G a9, F9.kp, b9, rfl, fun k c ok oks => fn_ok F9 scp_call_tokens rfl rfl (der_p_call_tokens ok oks zs cs_LEVELS)⟩
    · exact ⟨_, rfl, _, _, ["exprs"], PySem.W.mg_of X G a10, F10.kp, b10, rfl, fun k c ok oks => fn_ok F10 scp_listed rfl rfl (der_p_listed ok oks zs cs_LEVELS)⟩
    · exact ⟨_, rfl, _, _, ["expr"], PySem.W.mg_of X G a11, F11.kp, b11, rfl, fun k c ok oks => fn_ok F11 scp_level_of rfl rfl (der_p_level_of ok oks zs cs_LEVELS)⟩
    · exact ⟨_, rfl, _, _, ["expr", "level"], PySem.W.mg_of X G a12, F12.kp, b12, rfl, fun k c ok oks => fn_ok F12 scp_within rfl rfl (der_p_within ok oks zs cs_LEVELS)⟩
    · exact ⟨_, rfl, _, _, ["expr"], PySem.W.mg_of X G a13, F13.kp, b13, rfl, fun k c ok oks => fn_ok F13 scp_expr_tokens rfl rfl (der_p_expr_tokens ok oks zs cs_LEVELS)⟩
    · exact ⟨_, rfl, _, _, ["_law_script"], PySem.W.mg_of X G a14, F14.kp, b14, rfl, fun k c ok oks => fn_ok F14 scl_begin rfl rfl (der_l_begin ok oks zs cs_LEVELS)⟩
    · exact ⟨_, rfl, _, _, ["_law_d", "_law_many"], PySem.W.mg_of X G a15, F15.kp, b15, rfl, fun k c ok oks => fn_ok F15 scl_draw rfl rfl (der_l_draw ok oks zs cs_LEVELS)⟩
    · exact ⟨_, rfl, _, _, ["_law_d", "_law_row"], PySem.W.mg_of X G a16, F16.kp, b16, rfl, fun k c ok oks => fn_ok F16 scl_pick rfl rfl (der_l_pick ok oks zs cs_LEVELS)⟩
    · exact ⟨_, rfl, _, _, ["_law_exprs"], PySem.W.mg_of X G a17, F17.kp, b17, rfl, fun k c ok oks => fn_ok F17 scl_listed rfl rfl (der_l_listed ok oks zs cs_LEVELS)⟩
    · exact ⟨_, rfl, _, _, ["_law_expr"], PySem.W.mg_of X G a18, F18.kp, b18, rfl, fun k c ok oks => fn_ok F18 scl_level rfl rfl (der_l_level ok oks zs cs_LEVELS)⟩
    · exact ⟨_, rfl, _, _, ["_law_expr", "_law_level_here"], PySem.W.mg_of X G a19, F19.kp, b19, rfl, fun k c ok oks => fn_ok F19 scl_inner_tokens rfl rfl (der_l_inner_tokens ok oks zs cs_LEVELS)⟩
    · exact ⟨_, rfl, _, _, ["_law_expr"], PySem.W.mg_of X G a20, F20.kp, b20, rfl, fun k c ok oks => fn_ok F20 scl_expr_tokens rfl rfl (der_l_expr_tokens ok oks zs cs_LEVELS)⟩
    · exact ⟨_, rfl, _, _, ["_law_body"], PySem.W.mg_of X G a21, F21.kp, b21, rfl, fun k c ok oks => fn_ok F21 scl_block_tokens rfl rfl (der_l_block_tokens ok oks zs cs_LEVELS)⟩
    · exact ⟨_, rfl, _, _, ["_law_row"], PySem.W.mg_of X G a22, F22.kp, b22, rfl, fun k c ok oks => fn_ok F22 scl_statement_tokens rfl rfl (der_l_statement_tokens ok oks zs cs_LEVELS)⟩
    · exact ⟨_, rfl, _, _, ["_law_rows"], PySem.W.mg_of X G a23, F23.kp, b23, rfl, fun k c ok oks => fn_ok F23 scl_params_tokens rfl rfl (der_l_params_tokens ok oks zs cs_LEVELS)⟩
    · exact ⟨_, rfl, _, _, ["_law_part"], PySem.W.mg_of X G a24, F24.kp, b24, rfl, fun k c ok oks => fn_ok F24 scl_part_tokens rfl rfl (der_l_part_tokens ok oks zs cs_LEVELS)⟩
    · exact ⟨_, rfl, _, _, ["_law_tokens"], PySem.W.mg_of X G a25, F25.kp, b25, rfl, fun k c ok oks => fn_ok F25 scl_lines rfl rfl (der_l_lines ok oks zs cs_LEVELS)⟩
    · exact ⟨_, rfl, _, _, ["_law_part"], PySem.W.mg_of X G a26, F26.kp, b26, rfl, fun k c ok oks => fn_ok F26 scl_text rfl rfl (der_l_text ok oks zs cs_LEVELS)⟩
    · exact ⟨_, rfl, _, _, ["_law_program"], PySem.W.mg_of X G a27, F27.kp, b27, rfl, fun k c ok oks => fn_ok F27 scl_write rfl rfl (der_l_write ok oks zs cs_LEVELS)⟩
    · exact ⟨_, rfl, _, _, [], PySem.W.mg_of X G a28, F28.kp, b28, rfl, fun k c ok oks => fn_ok F28 scl_reserved rfl rfl (der_l_reserved ok oks zs cs_LEVELS)⟩
    · exact ⟨_, rfl, _, _, ["_law_d"], PySem.W.mg_of X G a29, F29.kp, b29, rfl, fun k c ok oks => fn_ok F29 scl_any_name rfl rfl (der_l_any_name ok oks zs cs_LEVELS)⟩
    · exact ⟨_, rfl, _, _, ["_law_d"], PySem.W.mg_of X G a30, F30.kp, b30, rfl, fun k c ok oks => fn_ok F30 scl_any_number rfl rfl (der_l_any_number ok oks zs cs_LEVELS)⟩
    · exact ⟨_, rfl, _, _, ["_law_d"], PySem.W.mg_of X G a31, F31.kp, b31, rfl, fun k c ok oks => fn_ok F31 scl_any_leaf rfl rfl (der_l_any_leaf ok oks zs cs_LEVELS)⟩
    · exact ⟨_, rfl, _, _, ["_law_d", "_law_left", "_law_deep"], PySem.W.mg_of X G a32, F32.kp, b32, rfl, fun k c ok oks => fn_ok F32 scl_any_expr rfl rfl (der_l_any_expr ok oks zs cs_LEVELS)⟩
    · exact ⟨_, rfl, _, _, ["_law_d", "_law_left", "_law_deep"], PySem.W.mg_of X G a33, F33.kp, b33, rfl, fun k c ok oks => fn_ok F33 scl_any_call rfl rfl (der_l_any_call ok oks zs cs_LEVELS)⟩
    · exact ⟨_, rfl, _, _, ["_law_d", "_law_left"], PySem.W.mg_of X G a34, F34.kp, b34, rfl, fun k c ok oks => fn_ok F34 scl_any_place rfl rfl (der_l_any_place ok oks zs cs_LEVELS)⟩
    · exact ⟨_, rfl, _, _, ["_law_d", "_law_left", "_law_way"], PySem.W.mg_of X G a35, F35.kp, b35, rfl, fun k c ok oks => fn_ok F35 scl_any_plain rfl rfl (der_l_any_plain ok oks zs cs_LEVELS)⟩
    · exact ⟨_, rfl, _, _, ["_law_d", "_law_left", "_law_deep"], PySem.W.mg_of X G a36, F36.kp, b36, rfl, fun k c ok oks => fn_ok F36 scl_any_statement rfl rfl (der_l_any_statement ok oks zs cs_LEVELS)⟩
    · exact ⟨_, rfl, _, _, ["_law_d", "_law_left", "_law_deep"], PySem.W.mg_of X G a37, F37.kp, b37, rfl, fun k c ok oks => fn_ok F37 scl_any_try rfl rfl (der_l_any_try ok oks zs cs_LEVELS)⟩
    · exact ⟨_, rfl, _, _, ["_law_d", "_law_left", "_law_deep"], PySem.W.mg_of X G a38, F38.kp, b38, rfl, fun k c ok oks => fn_ok F38 scl_any_body rfl rfl (der_l_any_body ok oks zs cs_LEVELS)⟩
    · exact ⟨_, rfl, _, _, ["_law_d"], PySem.W.mg_of X G a39, F39.kp, b39, rfl, fun k c ok oks => fn_ok F39 scl_any_kind rfl rfl (der_l_any_kind ok oks zs cs_LEVELS)⟩
    · exact ⟨_, rfl, _, _, ["_law_d", "_law_most"], PySem.W.mg_of X G a40, F40.kp, b40, rfl, fun k c ok oks => fn_ok F40 scl_any_pairs rfl rfl (der_l_any_pairs ok oks zs cs_LEVELS)⟩
    · exact ⟨_, rfl, _, _, ["_law_d", "_law_left"], PySem.W.mg_of X G a41, F41.kp, b41, rfl, fun k c ok oks => fn_ok F41 scl_any_part rfl rfl (der_l_any_part ok oks zs cs_LEVELS)⟩
    · exact ⟨_, rfl, _, _, ["_law_d", "_law_many", "_law_left"], PySem.W.mg_of X G a42, F42.kp, b42, rfl, fun k c ok oks => fn_ok F42 scl_any_program rfl rfl (der_l_any_program ok oks zs cs_LEVELS)⟩
    · exact ⟨_, rfl, _, _, ["_law_d", "_law_most"], PySem.W.mg_of X G a43, F43.kp, b43, rfl, fun k c ok oks => fn_ok F43 scl_wide_program rfl rfl (der_l_wide_program ok oks zs cs_LEVELS)⟩
    · exact ⟨_, rfl, _, _, ["_law_d"], PySem.W.mg_of X G a44, F44.kp, b44, rfl, fun k c ok oks => fn_ok F44 scl_deep_program rfl rfl (der_l_deep_program ok oks zs cs_LEVELS)⟩
    · exact ⟨_, rfl, _, _, ["_law_d", "_law_way", "_law_left"], PySem.W.mg_of X G a45, F45.kp, b45, rfl, fun k c ok oks => fn_ok F45 scl_any_world rfl rfl (der_l_any_world ok oks zs cs_LEVELS)⟩
    · exact ⟨_, rfl, _, _, ["_law_script"], PySem.W.mg_of X G a46, F46.kp, b46, rfl, fun k c ok oks => fn_ok F46 scl_law rfl rfl (der_l_law ok oks zs cs_LEVELS)⟩
  have st2 : ∀ q ∈ snames, ∃ d, prog q.1 = some d ∧ StepS l.prog w K mg base names snames q.1 q.2 d := by
    intro q hq
    cases hq
  have ow := all_own2 (P := l.prog) (w := w) (base := base) st st2 199
  refine (fn_ok (P := l.prog) (w := w) (mg := mg) (base := base) (k := 199) (d := ⟨1, 7, b_l_law⟩) (c := callN prog 199) F46 scl_law rfl rfl (der_l_law ow.1 ow.2 zs cs_LEVELS)).imp fun vs H Q E ⟨g0, f, st, ds, Q', s, r, ⟨d', e', g⟩, l⟩ => ?_
  cases (Option.some.inj e' : (⟨1, 7, b_l_law⟩ : Def) = d')
  exact ⟨g0, f, st, ds, Q', s, r, g, l⟩
end Pk06
end PartPdk06L

section PartPdk06P
set_option Elab.async false
set_option linter.all false
set_option maxRecDepth 100000
set_option maxHeartbeats 1000000
namespace Pk06
open PySem Pd
local macro_rules | `(tactic| walk_at "t") => `(tactic| (repeat (first | refine Red.red ?_ | refine Nxt.mk ?_ | refine ⟨by decide +kernel, by decide +kernel, wayF (by decide +kernel) ?_⟩ | refine ⟨by decide +kernel, by decide +kernel, wayT (by decide +kernel) ?_⟩ | refine ⟨by decide +kernel, ?_⟩ | refine ⟨Nat.le_of_ble_eq_true rfl, ?_⟩ | refine at_is rfl ?_)))
local instance notinTup1_06 {x : D} {xs : List D} {st : Store} {r : Bool → Prop} : Red (notinC x (.tup xs) st r) (x.flat = true ∧ xs.all D.flat = true ∧ r (!(xs.any fun y => D.eqb y x))) := ⟨id⟩
local macro_rules | `(tactic| walk_at "s") => `(tactic| (repeat (refine Red.red ?_)))
local macro_rules | `(tactic| walk_at "r") => `(tactic| (repeat (first | refine Red.red ?_ | refine Nxt.mk ?_)))
local macro_rules | `(tactic| walk_at "v") => `(tactic| (repeat (first | refine Red.red ?_ | refine Nxt.mk ?_ | refine ⟨Nat.le_of_ble_eq_true rfl, ?_⟩ | refine at_is rfl ?_)))
local macro_rules | `(tactic| walk_at "w") => `(tactic| (repeat (first | refine Red.red ?_ | refine Nxt.mk ?_ | refine wayF rfl ?_ | refine wayT rfl ?_ | refine ⟨Nat.le_of_ble_eq_true rfl, ?_⟩ | refine at_is rfl ?_)))
local macro_rules | `(tactic| walk_at "u") => `(tactic| (repeat (first | refine Red.red ?_ | refine Nxt.mk ?_ | refine ⟨Nat.le_of_ble_eq_true rfl, ?_⟩ | refine at_is rfl ?_ | refine ⟨by decide +kernel, by decide +kernel, wayF (by decide +kernel) ?_⟩ | refine ⟨by decide +kernel, by decide +kernel, wayT (by decide +kernel) ?_⟩ | refine ⟨by decide +kernel, by decide +kernel, ?_⟩ | refine wayF (by decide +kernel) ?_ | refine wayT (by decide +kernel) ?_)))
local instance inNewB1_06 {x : D} {xs : List D} {st : Store} {r : Bool → Prop} : Red (inC x (.ref st.length) (st ++ [.lst xs]) r) (x.flat = true ∧ xs.all D.flat = true ∧ r (xs.any fun y => D.eqb y x)) := ⟨fun h => ⟨xs, .inl (by simp [rdL]), h⟩⟩
local instance inTupN1_06 {x : D} {xs : List D} {st : Store} {r : Bool → Prop} : Red (inC x (.tup xs) st r) (x.flat = true ∧ xs.all D.flat = true ∧ r (xs.any fun y => D.eqb y x)) := ⟨id⟩
local macro_rules | `(tactic| walk_at "z") => `(tactic| (repeat (first | refine Red.red ?_ | refine Nxt.mk ?_ | refine ⟨by decide +kernel, by decide +kernel, wayF (by decide +kernel) ?_⟩ | refine ⟨by decide +kernel, by decide +kernel, wayT (by decide +kernel) ?_⟩ | refine ⟨by decide +kernel, ?_⟩ | refine ⟨Nat.le_of_ble_eq_true rfl, ?_⟩ | refine wayF rfl ?_ | refine wayT rfl ?_ | refine at_is rfl ?_)))
local macro_rules | `(tactic| walk_at "y") => `(tactic| (repeat (first | refine Red.red ?_ | refine ⟨by decide +kernel, by decide +kernel, wayF (by decide +kernel) ?_⟩ | refine ⟨by decide +kernel, by decide +kernel, wayT (by decide +kernel) ?_⟩ | refine ⟨by decide +kernel, ?_⟩ | refine ⟨Nat.le_of_ble_eq_true rfl, ?_⟩ | refine wayF rfl ?_ | refine wayT rfl ?_ | refine at_is rfl ?_)))
/-! k06, text 1. Own work. -/
variable {k m n : Nat} {st st' : Store} {Q : K} {z : Str}
theorem drawM {m : Nat} (hm : 1 ≤ m) {many : Int} (h : DrawAt st) (h0 : 0 < many) (h1 : many < 1073741824) (q : ∀ r st', 0 ≤ r → r < many → Fra st st' → Q (.int r) st') : callN prog m "_law_draw" [.ref 2, .int many] st Q := by
  obtain ⟨m, rfl⟩ : ∃ n, m = n + 1 := ⟨m - 1, by omega⟩
  exact draw_ok rfl h h0 h1 fun r st' r0 r1 f _ => q r st' r0 r1 f
def txb (b : Nat) (s : Str) : Bool := okS s && decide (s.length ≤ b)
theorem txb_ok {b : Nat} {xs : List Str} (h : xs.all (txb b) = true) : ∀ s ∈ xs, Tx b s := fun s hs => by
  have h1 := List.all_eq_true.mp h s hs
  simp only [txb, Bool.and_eq_true, decide_eq_true_eq] at h1
  exact h1
def resL : List Str := PySem.Txt.split (("record external steady needs gives entry function var let make call if else while return raise try catch " : Str) ++ ("assert null pick wide div rem" : Str)) (" " : Str)
theorem resL_ok : resL.all (txb 8) = true ∧ 0 < resL.length ∧ resL.length ≤ 100 := by decide +kernel
theorem reserved_ok (hm : 1 ≤ m) (q : Q (.ref st.length) (st ++ [.lst (resL.map D.str)])) : callN prog m "_law_reserved" [] st Q := by
  obtain ⟨m, rfl⟩ : ∃ n, m = n + 1 := ⟨m - 1, by omega⟩
  refine call_intro rfl rfl ?_
  unfold b_l_reserved
  have h1 : ("record external steady needs gives entry function var let make call if else while return raise try catch " : Str).length + ("assert null pick wide div rem" : Str).length ≤ szl := by decide +kernel
  have h2 : (("record external steady needs gives entry function var let make call if else while return raise try catch " : Str) ++ ("assert null pick wide div rem" : Str)).length + 2 ≤ szl := by decide +kernel
  walk_at "s"
  refine Nxt.mk ?_
  walk_at "s"
  refine ⟨h1, trivial, ?_⟩
  walk_at "s"
  exact ⟨by decide, h2, q⟩
theorem pickN {xs : List Str} {b m : Nat} (hm : 2 ≤ m) (hd : DrawAt st) (h0 : 0 < xs.length) (h1 : xs.length ≤ 1000) (ht : xs.all (txb b) = true) (q : ∀ s st', Tx b s → Fra st st' → Q (.str s) st') : callN prog m "_law_pick" [.ref 2, .ref st.length] (st ++ [.lst (xs.map D.str)]) Q :=
  pickXN rfl rfl hm hd h0 (by omega) (txb_ok ht) fun s st' _ t f => q s st' t f
theorem add_tx {a b : Str} {i j : Nat} (ha : Tx i a) (hb : Tx j b) (hi : i ≤ 1000000) (hj : j ≤ 1000000) (q : Tx (i + j) (a ++ b) → Q (.str (a ++ b)) st) : addK (.str a) (.str b) st Q :=
  ⟨by have := ha.2; have := hb.2; unfold szl; omega, q (ha.app hb)⟩
abbrev ltS : Str := "abcdefghijklmnopqrstuvwxyz"
abbrev ld : Str := ("abcdefghijklmnopqrstuvwxyz" : Str) ++ ("0123456789" : Str)
theorem lt_ok : okS ltS = true ∧ 0 < ltS.length ∧ ltS.length ≤ 100 ∧ okS ld = true ∧ 0 < ld.length ∧ ld.length ≤ 100 := by decide +kernel
theorem name_ok (hm : 4 ≤ m) (hd : DrawAt st) (q : ∀ s st', Tx 8 s → Fra st st' → Q (.str s) st') : callN prog m "_law_any_name" [.ref 2] st Q := by
  obtain ⟨m, rfl⟩ : ∃ n, m = n + 1 := ⟨m - 1, by omega⟩
  refine call_intro rfl rfl ?_
  unfold b_l_any_name
  obtain ⟨l1, l2, l3, l4, l5, l6⟩ := lt_ok
  have dl := hd.lt
  walk_at "t"
  refine drawM (by omega) hd (by decide) (by decide) fun sh st1 s0 s1 f1 => ?_
  walk_at "s"
  refine Nxt.mk ?_
  walk_at "s"
  refine pickSg rfl rfl (by omega) f1.dr l1 l2 (Nat.le_trans l3 (by decide)) fun c st2 hc tc f2 => ?_
  walk_at "s"
  refine Nxt.mk ?_
  have f12 := f1.trans f2
  refine seq_cut (fun σ st' => ∃ s, Tx 9 s ∧ Fra st st' ∧ σ = [some (.ref 2), some (.str ltS), some (.str ld), some (.int sh), some (.str s), none]) (fun N hN => ?_) (fun σ st3 ⟨s, ts, f3, e⟩ => ?_)
  · walk_at "s"
    refine way (fun e => ?_) (fun e => ?_)
    · walk_at "s"
      refine reserved_ok (by omega) ?_
      walk_at "s"
      refine pickN (by omega) f2.dr resL_ok.2.1 (by have := resL_ok.2.2; omega) resL_ok.1 fun a st4 ta f4 => ?_
      walk_at "s"
      refine pickSg rfl rfl (by omega) f4.dr l4 l5 (Nat.le_trans l6 (by decide)) fun c st5 hc tc f5 => ?_
      refine add_tx ta tc (by decide) (by decide) fun tt => ?_
      walk_at "s"
      exact hN _ _ ⟨_, tt, (f12.trans f4).trans f5, rfl⟩
    · walk_at "s"
      refine way (fun e => ?_) (fun e => ?_)
      · walk_at "t"
        refine pickN (xs := ["not", "neg", "word", "name", "item", "field", "result", "none", "index", "duty"]) (b := 6) (by omega) f2.dr (by decide) (by decide) (by decide +kernel) fun a st4 ta f4 => ?_
        walk_at "s"
        exact hN _ _ ⟨_, ta.more (by decide), f12.trans f4, rfl⟩
      · walk_at "s"
        exact hN _ _ ⟨_, tc.more (by decide), f12, rfl⟩
  subst e
  refine seq_cut (fun σ st' => ∃ s y, Tx 100 s ∧ Fra st st' ∧ σ = [some (.ref 2), some (.str ltS), some (.str ld), some (.int sh), some (.str s), y]) (fun N hN => ?_) (fun σ st4 ⟨s, y, ts, f4, e⟩ => ?_)
  · walk_at "t"
    obtain ⟨r, hr, r0, r1⟩ : ∃ r : Int, atD [D.int 0, D.int 2, D.int 7, D.int 0, D.int 0, D.int 1, D.int 4] sh = some (.int r) ∧ 0 ≤ r ∧ r ≤ 7 := by
      have : sh = 0 ∨ sh = 1 ∨ sh = 2 ∨ sh = 3 ∨ sh = 4 ∨ sh = 5 ∨ sh = 6 := by omega
      rcases this with e | e | e | e | e | e | e <;> subst e <;> exact ⟨_, rfl, by decide, by decide⟩
    refine ix_at rdL_new hr ?_
    walk_at "t"
    refine ⟨by omega, by omega, ?_⟩
    refine for_rng (lo := 0) (fun i σ st' => ∃ s y, Tx (9 + i) s ∧ Fra st st' ∧ σ = [some (.ref 2), some (.str ltS), some (.str ld), some (.int sh), some (.str s), y]) ⟨s, _, ts, f3.app, rfl⟩ (fun i σ st' hi ⟨s, y, ts, f4, e⟩ N hN => ?_) (fun σ st' ⟨s, y, ts, f4, e⟩ => ?_)
    · subst e
      refine ⟨trivial, ?_⟩
      walk_at "s"
      refine pickSg rfl rfl (by omega) f4.dr l4 l5 (Nat.le_trans l6 (by decide)) fun c st5 hc tc f5 => ?_
      refine add_tx ts tc (by omega) (by decide) fun tt => ?_
      walk_at "s"
      exact hN _ _ ⟨_, _, tt.more (by omega), f4.trans f5, rfl⟩
    · subst e
      exact ⟨trivial, hN _ _ ⟨_, _, ts.more (by omega), f4, rfl⟩⟩
  subst e
  have szs : s.length ≤ szl := by have := ts.2; unfold szl; omega
  have t8 : Tx 8 ⟨(cutD s.cps.toList none (some (8 : Int))).toArray⟩ := ts.cutTo (j := 8)
  have t7 : Tx 7 ⟨(cutD s.cps.toList none (some (7 : Int))).toArray⟩ := ts.cutTo (j := 7)
  walk_at "s"
  refine ⟨szs, ?_⟩
  walk_at "s"
  refine reserved_ok (by omega) ?_
  refine ⟨resL.map D.str, .inl rdL_new, rfl, List.all_eq_true.mpr fun d hd => ?_, ?_⟩
  · obtain ⟨_, _, rfl⟩ := List.mem_map.mp hd
    rfl
  walk_at "s"
  refine way (fun e => ?_) (fun e => ?_)
  · walk_at "s"
    refine ⟨szs, ?_⟩
    walk_at "s"
    exact add_tx (j := 1) t7 ⟨by decide +kernel, by decide +kernel⟩ (by decide) (by decide) fun tt => q _ _ (tt.more (by decide)) f4.app
  · walk_at "r"
    refine ⟨szs, ?_⟩
    exact q _ _ (t8.more (by decide)) f4.app
theorem number_ok (hm : 3 ≤ m) (hd : DrawAt st) (q : ∀ r st', 0 ≤ r → r < 256 → Fra st st' → Q (.int r) st') : callN prog m "_law_any_number" [.ref 2] st Q := by
  obtain ⟨m, rfl⟩ : ∃ n, m = n + 1 := ⟨m - 1, by omega⟩
  refine call_intro rfl rfl ?_
  unfold b_l_any_number
  have dl := hd.lt
  walk_at "t"
  refine drawM (by omega) hd (by decide) (by decide) fun sh st1 s0 s1 f1 => ?_
  walk_at "t"
  refine way (fun e => ?_) (fun e => ?_)
  · walk_at "t"
    refine drawM (by omega) f1.dr (by decide) (by decide) fun r st2 r0 r1 f2 => ?_
    walk_at "t"
    exact q _ _ (by omega) (by omega) (f1.trans f2)
  walk_at "t"
  refine way (fun e => ?_) (fun e => ?_)
  · walk_at "t"
    obtain ⟨m, rfl⟩ : ∃ n, m = n + 2 := ⟨m - 2, by omega⟩
    have f2 := (Fra.refl f1.dr).app (c := C.lst [D.int 0, D.int 1, D.int 9, D.int 10, D.int 99, D.int 100, D.int 254, D.int 255])
    have := f1.le
    refine pick_ok rfl rfl f2.dr rdL_new (by omega) (by simp) (by simp) fun x st3 hx f3 _ => ?_
    have f13 := (f1.trans f2).trans f3
    simp only [List.mem_cons, List.not_mem_nil, or_false] at hx
    rcases hx with e | e | e | e | e | e | e | e <;> subst e <;> exact q _ _ (by decide) (by decide) f13
  · walk_at "t"
    exact drawM (by omega) f1.dr (by decide) (by decide) fun r st2 r0 r1 f2 => q _ _ r0 r1 (f1.trans f2)
def numb (i : Nat) : Bool := txb 3 (toString (i : Int) : String) && decide (i.log2 < 1920)
theorem numb_all : (List.range 256).all numb = true := by decide +kernel
theorem num_tx {r : Int} (r0 : 0 ≤ r) (r1 : r < 256) : Tx 3 (toString r : String) ∧ r.natAbs.log2 < 1920 := by
  obtain ⟨i, rfl⟩ : ∃ i : Nat, r = (i : Int) := ⟨r.toNat, by omega⟩
  have h := List.all_eq_true.mp numb_all i (List.mem_range.mpr (by omega))
  simp only [numb, txb, Bool.and_eq_true, decide_eq_true_eq] at h
  exact ⟨⟨h.1.1, h.1.2⟩, h.2⟩
end Pk06
end PartPdk06P

section PartPdk06P2
set_option Elab.async false
set_option linter.all false
set_option maxRecDepth 100000
set_option maxHeartbeats 1000000
namespace Pk06
open PySem Pd
local macro_rules | `(tactic| walk_at "t") => `(tactic| (repeat (first | refine Red.red ?_ | refine Nxt.mk ?_ | refine ⟨by decide +kernel, by decide +kernel, wayF (by decide +kernel) ?_⟩ | refine ⟨by decide +kernel, by decide +kernel, wayT (by decide +kernel) ?_⟩ | refine ⟨by decide +kernel, ?_⟩ | refine ⟨Nat.le_of_ble_eq_true rfl, ?_⟩ | refine at_is rfl ?_)))
local instance notinTup2_06 {x : D} {xs : List D} {st : Store} {r : Bool → Prop} : Red (notinC x (.tup xs) st r) (x.flat = true ∧ xs.all D.flat = true ∧ r (!(xs.any fun y => D.eqb y x))) := ⟨id⟩
local macro_rules | `(tactic| walk_at "s") => `(tactic| (repeat (refine Red.red ?_)))
local macro_rules | `(tactic| walk_at "r") => `(tactic| (repeat (first | refine Red.red ?_ | refine Nxt.mk ?_)))
local macro_rules | `(tactic| walk_at "v") => `(tactic| (repeat (first | refine Red.red ?_ | refine Nxt.mk ?_ | refine ⟨Nat.le_of_ble_eq_true rfl, ?_⟩ | refine at_is rfl ?_)))
local macro_rules | `(tactic| walk_at "w") => `(tactic| (repeat (first | refine Red.red ?_ | refine Nxt.mk ?_ | refine wayF rfl ?_ | refine wayT rfl ?_ | refine ⟨Nat.le_of_ble_eq_true rfl, ?_⟩ | refine at_is rfl ?_)))
local macro_rules | `(tactic| walk_at "u") => `(tactic| (repeat (first | refine Red.red ?_ | refine Nxt.mk ?_ | refine ⟨Nat.le_of_ble_eq_true rfl, ?_⟩ | refine at_is rfl ?_ | refine ⟨by decide +kernel, by decide +kernel, wayF (by decide +kernel) ?_⟩ | refine ⟨by decide +kernel, by decide +kernel, wayT (by decide +kernel) ?_⟩ | refine ⟨by decide +kernel, by decide +kernel, ?_⟩ | refine wayF (by decide +kernel) ?_ | refine wayT (by decide +kernel) ?_)))
local instance inNewB2_06 {x : D} {xs : List D} {st : Store} {r : Bool → Prop} : Red (inC x (.ref st.length) (st ++ [.lst xs]) r) (x.flat = true ∧ xs.all D.flat = true ∧ r (xs.any fun y => D.eqb y x)) := ⟨fun h => ⟨xs, .inl (by simp [rdL]), h⟩⟩
local instance inTupN2_06 {x : D} {xs : List D} {st : Store} {r : Bool → Prop} : Red (inC x (.tup xs) st r) (x.flat = true ∧ xs.all D.flat = true ∧ r (xs.any fun y => D.eqb y x)) := ⟨id⟩
local macro_rules | `(tactic| walk_at "z") => `(tactic| (repeat (first | refine Red.red ?_ | refine Nxt.mk ?_ | refine ⟨by decide +kernel, by decide +kernel, wayF (by decide +kernel) ?_⟩ | refine ⟨by decide +kernel, by decide +kernel, wayT (by decide +kernel) ?_⟩ | refine ⟨by decide +kernel, ?_⟩ | refine ⟨Nat.le_of_ble_eq_true rfl, ?_⟩ | refine wayF rfl ?_ | refine wayT rfl ?_ | refine at_is rfl ?_)))
local macro_rules | `(tactic| walk_at "y") => `(tactic| (repeat (first | refine Red.red ?_ | refine ⟨by decide +kernel, by decide +kernel, wayF (by decide +kernel) ?_⟩ | refine ⟨by decide +kernel, by decide +kernel, wayT (by decide +kernel) ?_⟩ | refine ⟨by decide +kernel, ?_⟩ | refine ⟨Nat.le_of_ble_eq_true rfl, ?_⟩ | refine wayF rfl ?_ | refine wayT rfl ?_ | refine at_is rfl ?_)))
/-! k06, text 2. Own work. -/
/-! exprs and their tokens -/
inductive Bo where | or | xor | and | eq | ne | lt | le | shl | shr | add | sub | mul
def Bo.s : Bo → Str
  | .or => "|" | .xor => "^" | .and => "&" | .eq => "==" | .ne => "!=" | .lt => "<" | .le => "<=" | .shl => "<<" | .shr => ">>" | .add => "+" | .sub => "-" | .mul => "*"
def Bo.lv : Bo → Nat
  | .or => 1 | .xor => 2 | .and => 3 | .eq => 4 | .ne => 4 | .lt => 4 | .le => 4 | .shl => 5 | .shr => 5 | .add => 6 | .sub => 6 | .mul => 7
abbrev S' (s : String) : Str := Str.ofString s
def nmS (v : Nat) : Str := (toString (v : Int) : String)
/-- tokens, in parentheses if the level is too low -/
def par (l : Nat) (k : Nat) (ts : List Str) : List Str := if k ≤ l then ts else [S' "("] ++ ts ++ [S' ")"]
abbrev tp (ds : List D) : D := .tup ds
/-- x is an expr of depth d, its level is l, its tokens are ts -/
inductive ExP : Nat → D → Nat → List Str → Prop
  | word {d v w : Nat} (hv : v < 256) (hw : w < 256) : ExP d (tp [.str (S' "word"), .int v, .int w]) 9 [nmS v, S' "#", nmS w]
  | name {d : Nat} {s : Str} (h : Tx 8 s) : ExP d (tp [.str (S' "name"), .str s]) 9 [s]
  | field {d : Nat} {a b : Str} (ha : Tx 8 a) (hb : Tx 8 b) : ExP d (tp [.str (S' "field"), .str a, .str b]) 9 [a, S' ".", b]
  | null {d : Nat} : ExP d (tp [.str (S' "null")]) 9 [S' "null"]
  | item {d l : Nat} {s : Str} {x : D} {ts : List Str} (h : Tx 8 s) (hx : ExP d x l ts) : ExP (d + 1) (tp [.str (S' "item"), .str s, x]) 9 ([s, S' "["] ++ ts ++ [S' "]"])
  | not {d l : Nat} {x : D} {ts : List Str} (hx : ExP d x l ts) : ExP (d + 1) (tp [.str (S' "not"), x]) 8 ([S' "~"] ++ par l 8 ts)
  | neg {d l : Nat} {x : D} {ts : List Str} (hx : ExP d x l ts) : ExP (d + 1) (tp [.str (S' "neg"), x]) 8 ([S' "-"] ++ par l 8 ts)
  | wide {d l v : Nat} {x : D} {ts : List Str} (hv : v < 256) (hx : ExP d x l ts) : ExP (d + 1) (tp [.str (S' "wide"), x, .int v]) 9 ([S' "wide", S' "("] ++ ts ++ [S' ",", nmS v, S' ")"])
  | two {d l l' : Nat} {s : Str} {x y : D} {ts us : List Str} (hs : s = S' "div" ∨ s = S' "rem") (hx : ExP d x l ts) (hy : ExP d y l' us) : ExP (d + 1) (tp [.str s, x, y]) 9 ([s, S' "("] ++ (ts ++ [S' ","] ++ us) ++ [S' ")"])
  | pick {d l l' l2 : Nat} {x y z : D} {ts us vs : List Str} (hx : ExP d x l ts) (hy : ExP d y l' us) (hz : ExP d z l2 vs) : ExP (d + 1) (tp [.str (S' "pick"), x, y, z]) 9 ([S' "pick", S' "("] ++ (ts ++ [S' ","] ++ us ++ [S' ","] ++ vs) ++ [S' ")"])
  | bin {d l l' : Nat} {o : Bo} {x y : D} {ts us : List Str} (hx : ExP d x l ts) (hy : ExP d y l' us) : ExP (d + 1) (tp [.str o.s, x, y]) o.lv (par l (o.lv + (if o.lv = 4 then 1 else 0)) ts ++ [o.s] ++ par l' (o.lv + 1) us)
theorem ExP.up {d l : Nat} {x : D} {ts : List Str} (h : ExP d x l ts) : ExP (d + 1) x l ts := by
  induction h with
  | word h1 h2 => exact .word h1 h2
  | name h => exact .name h
  | field h1 h2 => exact .field h1 h2
  | null => exact .null
  | item h _ ih => exact .item h ih
  | not _ ih => exact .not ih
  | neg _ ih => exact .neg ih
  | wide h _ ih => exact .wide h ih
  | two h _ _ i1 i2 => exact .two h i1 i2
  | pick _ _ _ i1 i2 i3 => exact .pick i1 i2 i3
  | bin _ _ i1 i2 => exact .bin i1 i2
theorem ExP.le {d d' l : Nat} {x : D} {ts : List Str} (h : ExP d x l ts) (hd : d ≤ d') : ExP d' x l ts := by
  obtain ⟨k, rfl⟩ := Nat.exists_eq_add_of_le hd
  clear hd
  induction k with
  | zero => exact h
  | succ k ih => exact ih.up
theorem nmS_tx {v : Nat} (h : v < 256) : Tx 3 (nmS v) ∧ ((v : Int)).natAbs.log2 < 1920 := num_tx (by omega) (by omega)
theorem par_mem {l k : Nat} {ts : List Str} {s : Str} (h : s ∈ par l k ts) : s ∈ ts ∨ s = S' "(" ∨ s = S' ")" := by
  unfold par at h
  split at h
  · exact .inl h
  · simp at h
    rcases h with h | h | h
    · exact .inr (.inl h)
    · exact .inl h
    · exact .inr (.inr h)
theorem par_len {l k : Nat} {ts : List Str} : (par l k ts).length ≤ ts.length + 2 := by
  unfold par
  split <;> simp <;> omega
theorem par_ge {l k : Nat} {ts : List Str} : ts.length ≤ (par l k ts).length := by
  unfold par
  split
  · exact Nat.le_refl _
  · simp
    omega
theorem sg {s : String} (h : txb 8 (S' s) = true) : Tx 8 (S' s) := txb_ok (xs := [S' s]) (by rw [List.all_cons, h]; rfl) _ (by simp)
theorem bo_tx (o : Bo) : Tx 8 o.s := by
  have h : txb 8 o.s = true := by cases o <;> decide +kernel
  exact txb_ok (xs := [o.s]) (by rw [List.all_cons, h]; rfl) _ (by simp)
theorem ExP.tx {d l : Nat} {x : D} {ts : List Str} (h : ExP d x l ts) : ∀ s ∈ ts, Tx 8 s := by
  have e1 : Tx 8 (S' "(") := sg (by decide +kernel)
  have e2 : Tx 8 (S' ")") := sg (by decide +kernel)
  have e3 : Tx 8 (S' ",") := sg (by decide +kernel)
  have p : ∀ {l k : Nat} {ts : List Str}, (∀ s ∈ ts, Tx 8 s) → ∀ s ∈ par l k ts, Tx 8 s := fun h s hs => by
    rcases par_mem hs with hs | rfl | rfl
    · exact h s hs
    · exact e1
    · exact e2
  induction h with
  | word h1 h2 =>
    intro s hs
    simp at hs
    rcases hs with rfl | rfl | rfl
    · exact (nmS_tx h1).1.more (by decide)
    · exact sg (by decide +kernel)
    · exact (nmS_tx h2).1.more (by decide)
  | name h => intro s hs; simp at hs; subst hs; exact h
  | field h1 h2 =>
    intro s hs
    simp at hs
    rcases hs with rfl | rfl | rfl
    · exact h1
    · exact sg (by decide +kernel)
    · exact h2
  | null => intro s hs; simp at hs; subst hs; exact sg (by decide +kernel)
  | item h _ ih =>
    intro s hs
    simp at hs
    rcases hs with rfl | rfl | hs | rfl
    · exact h
    · exact sg (by decide +kernel)
    · exact ih s hs
    · exact sg (by decide +kernel)
  | not _ ih =>
    intro s hs
    simp at hs
    rcases hs with rfl | hs
    · exact sg (by decide +kernel)
    · exact p ih s hs
  | neg _ ih =>
    intro s hs
    simp at hs
    rcases hs with rfl | hs
    · exact sg (by decide +kernel)
    · exact p ih s hs
  | wide h _ ih =>
    intro s hs
    simp at hs
    rcases hs with rfl | rfl | hs | rfl | rfl | rfl
    · exact sg (by decide +kernel)
    · exact e1
    · exact ih s hs
    · exact e3
    · exact (nmS_tx h).1.more (by decide)
    · exact e2
  | two h _ _ i1 i2 =>
    intro s hs
    simp at hs
    rcases hs with rfl | rfl | hs | rfl | hs | rfl
    · rcases h with rfl | rfl <;> exact sg (by decide +kernel)
    · exact e1
    · exact i1 s hs
    · exact e3
    · exact i2 s hs
    · exact e2
  | pick _ _ _ i1 i2 i3 =>
    intro s hs
    simp at hs
    rcases hs with rfl | rfl | hs | rfl | hs | rfl | hs | rfl
    · exact sg (by decide +kernel)
    · exact e1
    · exact i1 s hs
    · exact e3
    · exact i2 s hs
    · exact e3
    · exact i3 s hs
    · exact e2
  | bin _ _ i1 i2 =>
    intro s hs
    simp at hs
    rcases hs with hs | rfl | hs
    · exact p i1 s hs
    · exact bo_tx _
    · exact p i2 s hs
/-- its first part tells the level -/
theorem ExP.hd {d l : Nat} {x : D} {ts : List Str} (h : ExP d x l ts) : ∃ (s : Str) (r : List D), x = tp (.str s :: r) ∧ okS s = true ∧ ((s = S' "not" ∨ s = S' "neg") ∧ l = 8 ∨ (∃ o : Bo, s = o.s ∧ l = o.lv) ∨ (s ∈ [S' "word", S' "name", S' "field", S' "null", S' "item", S' "wide", S' "div", S' "rem", S' "pick"] ∧ l = 9)) := by
  cases h with
  | not _ => exact ⟨_, _, rfl, by decide +kernel, .inl ⟨.inl rfl, rfl⟩⟩
  | neg _ => exact ⟨_, _, rfl, by decide +kernel, .inl ⟨.inr rfl, rfl⟩⟩
  | bin _ _ => exact ⟨_, _, rfl, (bo_tx _).1, .inr (.inl ⟨_, rfl, rfl⟩)⟩
  | two h _ _ => rcases h with rfl | rfl <;> exact ⟨_, _, rfl, by decide +kernel, .inr (.inr ⟨by simp, rfl⟩)⟩
  | _ => exact ⟨_, _, rfl, by decide +kernel, .inr (.inr ⟨by simp, rfl⟩)⟩
end Pk06
end PartPdk06P2

section PartPdk06P3
set_option Elab.async false
set_option linter.all false
set_option maxRecDepth 100000
set_option maxHeartbeats 1000000
namespace Pk06
open PySem Pd
local macro_rules | `(tactic| walk_at "t") => `(tactic| (repeat (first | refine Red.red ?_ | refine Nxt.mk ?_ | refine ⟨by decide +kernel, by decide +kernel, wayF (by decide +kernel) ?_⟩ | refine ⟨by decide +kernel, by decide +kernel, wayT (by decide +kernel) ?_⟩ | refine ⟨by decide +kernel, ?_⟩ | refine ⟨Nat.le_of_ble_eq_true rfl, ?_⟩ | refine at_is rfl ?_)))
local instance notinTup3_06 {x : D} {xs : List D} {st : Store} {r : Bool → Prop} : Red (notinC x (.tup xs) st r) (x.flat = true ∧ xs.all D.flat = true ∧ r (!(xs.any fun y => D.eqb y x))) := ⟨id⟩
local macro_rules | `(tactic| walk_at "s") => `(tactic| (repeat (refine Red.red ?_)))
local macro_rules | `(tactic| walk_at "r") => `(tactic| (repeat (first | refine Red.red ?_ | refine Nxt.mk ?_)))
local macro_rules | `(tactic| walk_at "v") => `(tactic| (repeat (first | refine Red.red ?_ | refine Nxt.mk ?_ | refine ⟨Nat.le_of_ble_eq_true rfl, ?_⟩ | refine at_is rfl ?_)))
local macro_rules | `(tactic| walk_at "w") => `(tactic| (repeat (first | refine Red.red ?_ | refine Nxt.mk ?_ | refine wayF rfl ?_ | refine wayT rfl ?_ | refine ⟨Nat.le_of_ble_eq_true rfl, ?_⟩ | refine at_is rfl ?_)))
local macro_rules | `(tactic| walk_at "u") => `(tactic| (repeat (first | refine Red.red ?_ | refine Nxt.mk ?_ | refine ⟨Nat.le_of_ble_eq_true rfl, ?_⟩ | refine at_is rfl ?_ | refine ⟨by decide +kernel, by decide +kernel, wayF (by decide +kernel) ?_⟩ | refine ⟨by decide +kernel, by decide +kernel, wayT (by decide +kernel) ?_⟩ | refine ⟨by decide +kernel, by decide +kernel, ?_⟩ | refine wayF (by decide +kernel) ?_ | refine wayT (by decide +kernel) ?_)))
local instance inNewB3_06 {x : D} {xs : List D} {st : Store} {r : Bool → Prop} : Red (inC x (.ref st.length) (st ++ [.lst xs]) r) (x.flat = true ∧ xs.all D.flat = true ∧ r (xs.any fun y => D.eqb y x)) := ⟨fun h => ⟨xs, .inl (by simp [rdL]), h⟩⟩
local instance inTupN3_06 {x : D} {xs : List D} {st : Store} {r : Bool → Prop} : Red (inC x (.tup xs) st r) (x.flat = true ∧ xs.all D.flat = true ∧ r (xs.any fun y => D.eqb y x)) := ⟨id⟩
local macro_rules | `(tactic| walk_at "z") => `(tactic| (repeat (first | refine Red.red ?_ | refine Nxt.mk ?_ | refine ⟨by decide +kernel, by decide +kernel, wayF (by decide +kernel) ?_⟩ | refine ⟨by decide +kernel, by decide +kernel, wayT (by decide +kernel) ?_⟩ | refine ⟨by decide +kernel, ?_⟩ | refine ⟨Nat.le_of_ble_eq_true rfl, ?_⟩ | refine wayF rfl ?_ | refine wayT rfl ?_ | refine at_is rfl ?_)))
local macro_rules | `(tactic| walk_at "y") => `(tactic| (repeat (first | refine Red.red ?_ | refine ⟨by decide +kernel, by decide +kernel, wayF (by decide +kernel) ?_⟩ | refine ⟨by decide +kernel, by decide +kernel, wayT (by decide +kernel) ?_⟩ | refine ⟨by decide +kernel, ?_⟩ | refine ⟨Nat.le_of_ble_eq_true rfl, ?_⟩ | refine wayF rfl ?_ | refine wayT rfl ?_ | refine at_is rfl ?_)))
/-! k06, text 3. Own work. -/
section
variable {k m n : Nat} {st st' : Store} {Q : K}
/-- f tells the tokens of x in a new list -/
def Tk (m : Nat) (f : String) (xs : List D) (ts : List Str) : Prop := ∀ (st : Store) (Q : K), (∀ (n : Nat) st', rdL st' n (ts.map D.str) → Grw st st' → st.length ≤ n → Q (.ref n) st') → callN prog m f xs st Q
theorem lv_le (o : Bo) : 1 ≤ o.lv ∧ o.lv ≤ 7 := by cases o <;> decide
theorem bo_not (o : Bo) : decide (o.s = S' "not") = false ∧ decide (o.s = S' "neg") = false := by cases o <;> decide +kernel
theorem lev_ok {d l : Nat} {x : D} {ts : List Str} (hm : 1 ≤ m) (h : ExP d x l ts) (q : Q (.int (l : Int)) st) : callN prog m "level_of" [x] st Q := by
  obtain ⟨m, rfl⟩ : ∃ n, m = n + 1 := ⟨m - 1, by omega⟩
  obtain ⟨s, r, rfl, ho, hh⟩ := h.hd
  refine call_intro rfl rfl ?_
  unfold b_p_level_of
  walk_at "s"
  refine at_is rfl ?_
  walk_at "z"
  rcases hh with ⟨hs, rfl⟩ | ⟨o, rfl, rfl⟩ | ⟨hs, rfl⟩
  · refine ⟨rfl, by decide +kernel, ?_⟩
    rcases hs with rfl | rfl
    · refine wayT (by decide +kernel) ?_
      walk_at "z"
      exact q
    · refine wayT (by decide +kernel) ?_
      walk_at "z"
      exact q
  · have e1 : ([D.str (Str.ofString "not"), D.str (Str.ofString "neg")].any fun y => y.eqb (D.str o.s)) = false := by cases o <;> decide +kernel
    have e2 : ((k_LEVELS.find? fun p => decide (p.1 = o.s)).map (·.2)).getD (.int 9) = .int (o.lv : Int) := by cases o <;> rfl
    refine ⟨rfl, by decide +kernel, wayF e1 ?_⟩
    walk_at "s"
    refine Nxt.mk ?_
    walk_at "s"
    refine at_is rfl ?_
    walk_at "s"
    rw [e2]
    exact q
  · have e1 : ([D.str (Str.ofString "not"), D.str (Str.ofString "neg")].any fun y => y.eqb (D.str s)) = false := by
      simp at hs
      rcases hs with rfl | rfl | rfl | rfl | rfl | rfl | rfl | rfl | rfl <;> decide +kernel
    have e2 : ((k_LEVELS.find? fun p => decide (p.1 = s)).map (·.2)).getD (.int 9) = .int 9 := by
      simp at hs
      rcases hs with rfl | rfl | rfl | rfl | rfl | rfl | rfl | rfl | rfl <;> rfl
    refine ⟨rfl, by decide +kernel, wayF e1 ?_⟩
    walk_at "s"
    refine Nxt.mk ?_
    walk_at "s"
    refine at_is rfl ?_
    walk_at "s"
    rw [e2]
    exact q
/-- two lists of texts, one behind the other -/
theorem cat {a b : List Str} {i j : Nat} (ha : rdL st i (a.map D.str)) (hb : rdL st j (b.map D.str)) (hl : a.length + b.length ≤ 8000000) (q : rdL (st ++ [.lst ((a ++ b).map D.str)]) st.length ((a ++ b).map D.str) → Q (.ref st.length) (st ++ [.lst ((a ++ b).map D.str)])) : addK (.ref i) (.ref j) st Q := by
  refine add_at ha hb (by rw [List.length_map, List.length_map]; unfold szl; omega) ?_
  rw [← List.map_append]
  exact q rdL_new
theorem within_ok {d l k : Nat} {x : D} {ts : List Str} (hm : 2 ≤ m) (h : ExP d x l ts) (hl : ts.length ≤ 4000000) (T : Tk (m - 1) "expr_tokens" [x] ts) : Tk m "within" [x, .int (k : Int)] (par l k ts) := by
  intro st Q q
  obtain ⟨m, rfl⟩ : ∃ n, m = n + 1 := ⟨m - 1, by omega⟩
  have T : Tk m "expr_tokens" [x] ts := T
  refine call_intro rfl rfl ?_
  unfold b_p_within
  walk_at "s"
  refine lev_ok (by omega) h ?_
  walk_at "s"
  refine way (fun e => ?_) (fun e => ?_)
  · have e := of_decide_eq_true e
    walk_at "s"
    refine T _ _ fun n st1 r1 g1 l1 => ?_
    have e2 : par l k ts = ts := by unfold par; rw [if_pos (by omega)]
    rw [e2] at q
    exact q n st1 r1 g1 l1
  · have e := of_decide_eq_false e
    walk_at "z"
    have gA := (Grw.refl st).app (c := C.lst [.str (Str.ofString "(")])
    have rA : rdL (st ++ [C.lst [.str (Str.ofString "(")]]) st.length (([S' "("]).map D.str) := rdL_new
    refine T _ _ fun n st1 r1 g1 l1 => ?_
    refine cat (g1.rd rA) r1 (by simp; omega) fun r2 => ?_
    have g2 := (gA.trans g1).app (c := C.lst (([S' "("] ++ ts).map D.str))
    generalize st1 ++ [C.lst (([S' "("] ++ ts).map D.str)] = st2 at g2 r2 ⊢
    walk_at "z"
    refine cat (b := [S' ")"]) (rdL_app r2) rdL_new (by simp; omega) fun r3 => ?_
    have e2 : par l k ts = [S' "("] ++ ts ++ [S' ")"] := by unfold par; rw [if_neg (by omega)]
    rw [e2] at q
    exact q _ _ r3 (g2.app.app) (by have := g2.le; simp; omega)
end
end Pk06
end PartPdk06P3

section PartPdk06P4
set_option Elab.async false
set_option linter.all false
set_option maxRecDepth 100000
set_option maxHeartbeats 1000000
namespace Pk06
open PySem Pd
local macro_rules | `(tactic| walk_at "t") => `(tactic| (repeat (first | refine Red.red ?_ | refine Nxt.mk ?_ | refine ⟨by decide +kernel, by decide +kernel, wayF (by decide +kernel) ?_⟩ | refine ⟨by decide +kernel, by decide +kernel, wayT (by decide +kernel) ?_⟩ | refine ⟨by decide +kernel, ?_⟩ | refine ⟨Nat.le_of_ble_eq_true rfl, ?_⟩ | refine at_is rfl ?_)))
local instance notinTup4_06 {x : D} {xs : List D} {st : Store} {r : Bool → Prop} : Red (notinC x (.tup xs) st r) (x.flat = true ∧ xs.all D.flat = true ∧ r (!(xs.any fun y => D.eqb y x))) := ⟨id⟩
local macro_rules | `(tactic| walk_at "s") => `(tactic| (repeat (refine Red.red ?_)))
local macro_rules | `(tactic| walk_at "r") => `(tactic| (repeat (first | refine Red.red ?_ | refine Nxt.mk ?_)))
local macro_rules | `(tactic| walk_at "v") => `(tactic| (repeat (first | refine Red.red ?_ | refine Nxt.mk ?_ | refine ⟨Nat.le_of_ble_eq_true rfl, ?_⟩ | refine at_is rfl ?_)))
local macro_rules | `(tactic| walk_at "w") => `(tactic| (repeat (first | refine Red.red ?_ | refine Nxt.mk ?_ | refine wayF rfl ?_ | refine wayT rfl ?_ | refine ⟨Nat.le_of_ble_eq_true rfl, ?_⟩ | refine at_is rfl ?_)))
local macro_rules | `(tactic| walk_at "u") => `(tactic| (repeat (first | refine Red.red ?_ | refine Nxt.mk ?_ | refine ⟨Nat.le_of_ble_eq_true rfl, ?_⟩ | refine at_is rfl ?_ | refine ⟨by decide +kernel, by decide +kernel, wayF (by decide +kernel) ?_⟩ | refine ⟨by decide +kernel, by decide +kernel, wayT (by decide +kernel) ?_⟩ | refine ⟨by decide +kernel, by decide +kernel, ?_⟩ | refine wayF (by decide +kernel) ?_ | refine wayT (by decide +kernel) ?_)))
local instance inNewB4_06 {x : D} {xs : List D} {st : Store} {r : Bool → Prop} : Red (inC x (.ref st.length) (st ++ [.lst xs]) r) (x.flat = true ∧ xs.all D.flat = true ∧ r (xs.any fun y => D.eqb y x)) := ⟨fun h => ⟨xs, .inl (by simp [rdL]), h⟩⟩
local instance inTupN4_06 {x : D} {xs : List D} {st : Store} {r : Bool → Prop} : Red (inC x (.tup xs) st r) (x.flat = true ∧ xs.all D.flat = true ∧ r (xs.any fun y => D.eqb y x)) := ⟨id⟩
local macro_rules | `(tactic| walk_at "z") => `(tactic| (repeat (first | refine Red.red ?_ | refine Nxt.mk ?_ | refine ⟨by decide +kernel, by decide +kernel, wayF (by decide +kernel) ?_⟩ | refine ⟨by decide +kernel, by decide +kernel, wayT (by decide +kernel) ?_⟩ | refine ⟨by decide +kernel, ?_⟩ | refine ⟨Nat.le_of_ble_eq_true rfl, ?_⟩ | refine wayF rfl ?_ | refine wayT rfl ?_ | refine at_is rfl ?_)))
local macro_rules | `(tactic| walk_at "y") => `(tactic| (repeat (first | refine Red.red ?_ | refine ⟨by decide +kernel, by decide +kernel, wayF (by decide +kernel) ?_⟩ | refine ⟨by decide +kernel, by decide +kernel, wayT (by decide +kernel) ?_⟩ | refine ⟨by decide +kernel, ?_⟩ | refine ⟨Nat.le_of_ble_eq_true rfl, ?_⟩ | refine wayF rfl ?_ | refine wayT rfl ?_ | refine at_is rfl ?_)))
/-! k06, text 4. Own work. -/
def comma : List (List Str) → List Str
  | [] => []
  | ts :: r => ts ++ r.flatMap fun u => [S' ","] ++ u
theorem comma_snoc {ts : List Str} {r : List (List Str)} (h : r ≠ []) : comma (r ++ [ts]) = comma r ++ [S' ","] ++ ts := by
  cases r with
  | nil => exact absurd rfl h
  | cons a r =>
    show a ++ (r ++ [ts]).flatMap _ = _
    rw [List.flatMap_append]
    simp [comma]
theorem comma_len : ∀ (r : List (List Str)), (comma r).length ≤ r.flatten.length + r.length
  | [] => by simp [comma]
  | ts :: r => by
    show (ts ++ r.flatMap _).length ≤ _
    rw [List.length_append, List.flatten_cons, List.length_append, List.length_cons]
    have : (r.flatMap fun u => [S' ","] ++ u).length ≤ r.flatten.length + r.length := by
      induction r with
      | nil => simp
      | cons a r ih =>
        rw [List.flatMap_cons, List.length_append, List.flatten_cons, List.length_append, List.length_cons]
        simp at ih ⊢
        omega
    omega
theorem comma_ne {r : List (List Str)} (h : r ≠ []) (h2 : ∀ ts ∈ r, ts ≠ []) : comma r ≠ [] := by
  cases r with
  | nil => exact absurd rfl h
  | cons a r =>
    intro e
    have e : a ++ _ = [] := e
    exact h2 a (by simp) (List.append_eq_nil_iff.mp e).1
theorem comma_take_len (r : List (List Str)) (j : Nat) : (comma (r.take j)).length ≤ (comma r).length := by
  induction r generalizing j with
  | nil => simp
  | cons a r _ =>
    cases j with
    | zero => simp [comma]
    | succ j =>
      rw [List.take_succ_cons]
      show (a ++ (r.take j).flatMap _).length ≤ (a ++ r.flatMap _).length
      rw [List.length_append, List.length_append]
      have : ((r.take j).flatMap fun u => [S' ","] ++ u).length ≤ (r.flatMap fun u => [S' ","] ++ u).length := by
        conv => rhs; rw [← List.take_append_drop j r, List.flatMap_append, List.length_append]
        omega
      omega
theorem ExP.ne {d l : Nat} {x : D} {ts : List Str} (h : ExP d x l ts) : ts ≠ [] := by
  cases h <;> simp [par]
section
variable {k m n : Nat} {st st' : Store} {Q : K}
theorem tru_ref {st : Store} {n : Nat} {xs : List D} {r : Bool → Prop} (h : rdL st n xs) (q : r (!xs.isEmpty)) : truK (.ref n) st r := ⟨xs, .inl h, q⟩
theorem ix_ref {st : Store} {n : Nat} {xs : List D} {d : D} {i : Int} {Q : K} (h : rdL st n xs) (h' : atD xs i = some d) (q : Q d st) : ixK (.ref n) (.int i) st Q := ⟨xs, d, .inl h, h', q⟩
theorem extLL {st : Store} {n m : Nat} {xs ys : List D} {Q : K} (h : rdL st n xs) (h' : rdL st m ys) (ne : n ≠ m) (hl : xs.length + ys.length ≤ szl) (q : Q .non (st.set n (.lst (xs ++ ys)))) : extendAM (.ref n) [.ref m] st Q := extend_at h h' ne hl q
theorem Grw_setN {st st' : Store} (h : Grw st st') {n : Nat} {c : C} (hn : st.length ≤ n) : Grw st (st'.set n c) := by
  obtain ⟨m, rfl⟩ := h
  exact ⟨m.set (n - st.length) c, by rw [List.set_append_right _ _ hn]⟩
theorem listed_ok {f : String} (ps : List (D × List Str)) (hm : 1 ≤ m) (hf : (prog f) = some ⟨1, 3, b_p_listed⟩) (hl : (comma (ps.map (·.2))).length ≤ 4000000) (hne : ∀ p ∈ ps, p.2 ≠ []) (hT : ∀ p ∈ ps, Tk (m - 1) "expr_tokens" [p.1] p.2) : Tk m f [.tup (ps.map (·.1))] (comma (ps.map (·.2))) := by
  intro st Q q
  obtain ⟨m, rfl⟩ : ∃ n, m = n + 1 := ⟨m - 1, by omega⟩
  have hT : ∀ p ∈ ps, Tk m "expr_tokens" [p.1] p.2 := hT
  refine call_intro hf rfl ?_
  unfold b_p_listed
  walk_at "z"
  refine for_map ps (·.1) rfl (fun j σ st' => ∃ o2, σ = [some (.tup (ps.map (·.1))), some (.ref st.length), o2] ∧ rdL st' st.length ((comma ((ps.take j).map (·.2))).map D.str) ∧ Grw st st') ⟨none, rfl, rdL_new, (Grw.refl st).app⟩ (fun j p σ st1 hj ⟨o2, e, r1, g1⟩ N hN => ?_) (fun σ st1 ⟨o2, e, r1, g1⟩ => ?_)
  · subst e
    have hp := List.mem_of_getElem? hj
    have hjl := (List.getElem?_eq_some_iff.mp hj).1
    refine ⟨trivial, ?_⟩
    have htk : (ps.take (j + 1)).map (·.2) = (ps.take j).map (·.2) ++ [p.2] := by rw [List.take_add_one, hj, List.map_append]; rfl
    have hb := comma_take_len (ps.map (·.2)) (j + 1)
    rw [← List.map_take, htk] at hb
    rw [htk] at hN
    generalize hR : (ps.take j).map (·.2) = R at r1 hb hN htk
    have hRl : R.length = j := by rw [← hR, List.length_map, List.length_take]; omega
    have hRn : ∀ ts ∈ R, ts ≠ [] := fun ts hts => by
      rw [← hR] at hts
      obtain ⟨y, hy, rfl⟩ := List.mem_map.mp hts
      exact hne y (List.mem_of_mem_take hy)
    -- the tokens behind what is there
    have fin : ∀ (st2 : Store) (us : List Str) , rdL st2 st.length (us.map D.str) → Grw st st2 → comma (R ++ [p.2]) = us ++ p.2 → callN prog m "expr_tokens" [p.1] st2 fun x st3 => extendAM (.ref st.length) [x] st3 fun _ st4 => N [some (.tup (ps.map (·.1))), some (.ref st.length), some p.1] st4 := by
      intro st2 us r2 g2 hu
      refine hT p hp _ _ fun n3 st3 r3 g3 l3 => ?_
      have hlt := rdL_lt r2
      rw [hu, List.length_append] at hb
      refine extLL (g3.rd r2) r3 (by omega) (by rw [List.length_map, List.length_map]; unfold szl; omega) ?_
      rw [← List.map_append, ← hu]
      refine hN _ _ ⟨_, rfl, rdL_set (g3.rd r2), Grw_setN (g2.trans g3) (Nat.le_refl _)⟩
    walk_at "s"
    refine tru_ref r1 ?_
    by_cases hj0 : j = 0
    · have hR0 : R = [] := List.length_eq_zero_iff.mp (by omega)
      subst hR0
      refine wayF rfl ?_
      walk_at "s"
      refine Nxt.mk ?_
      walk_at "s"
      refine ⟨ty_at r1, ?_⟩
      walk_at "s"
      exact fin st1 [] r1 g1 (by simp [comma])
    · have hR0 : R ≠ [] := fun e => by rw [e] at hRl; exact hj0 hRl.symm
      have hc := comma_ne hR0 hRn
      refine wayT (by simp [hc]) ?_
      walk_at "s"
      refine ⟨ty_at r1, ?_⟩
      walk_at "s"
      rw [comma_snoc hR0] at hb
      simp at hb
      refine append_at r1 (by rw [List.length_map]; unfold szl; omega) ?_
      have r2 := rdL_set (ys := (comma R).map D.str ++ [.str (S' ",")]) r1
      have g2 := Grw_setN (c := .lst ((comma R).map D.str ++ [.str (S' ",")])) g1 (Nat.le_refl _)
      walk_at "s"
      refine Nxt.mk ?_
      walk_at "s"
      refine ⟨ty_at r2, ?_⟩
      walk_at "s"
      refine fin _ (comma R ++ [S' ","]) (by rw [List.map_append]; exact r2) g2 (by rw [comma_snoc hR0])
  · subst e
    refine ⟨trivial, ?_⟩
    rw [List.take_length] at r1
    walk_at "z"
    exact q _ _ r1 g1 (Nat.le_refl _)
end
end Pk06
end PartPdk06P4

section PartPdk06P5
set_option Elab.async false
set_option linter.all false
set_option maxRecDepth 100000
set_option maxHeartbeats 1000000
namespace Pk06
open PySem Pd
local macro_rules | `(tactic| walk_at "t") => `(tactic| (repeat (first | refine Red.red ?_ | refine Nxt.mk ?_ | refine ⟨by decide +kernel, by decide +kernel, wayF (by decide +kernel) ?_⟩ | refine ⟨by decide +kernel, by decide +kernel, wayT (by decide +kernel) ?_⟩ | refine ⟨by decide +kernel, ?_⟩ | refine ⟨Nat.le_of_ble_eq_true rfl, ?_⟩ | refine at_is rfl ?_)))
local instance notinTup5_06 {x : D} {xs : List D} {st : Store} {r : Bool → Prop} : Red (notinC x (.tup xs) st r) (x.flat = true ∧ xs.all D.flat = true ∧ r (!(xs.any fun y => D.eqb y x))) := ⟨id⟩
local macro_rules | `(tactic| walk_at "s") => `(tactic| (repeat (refine Red.red ?_)))
local macro_rules | `(tactic| walk_at "r") => `(tactic| (repeat (first | refine Red.red ?_ | refine Nxt.mk ?_)))
local macro_rules | `(tactic| walk_at "v") => `(tactic| (repeat (first | refine Red.red ?_ | refine Nxt.mk ?_ | refine ⟨Nat.le_of_ble_eq_true rfl, ?_⟩ | refine at_is rfl ?_)))
local macro_rules | `(tactic| walk_at "w") => `(tactic| (repeat (first | refine Red.red ?_ | refine Nxt.mk ?_ | refine wayF rfl ?_ | refine wayT rfl ?_ | refine ⟨Nat.le_of_ble_eq_true rfl, ?_⟩ | refine at_is rfl ?_)))
local macro_rules | `(tactic| walk_at "u") => `(tactic| (repeat (first | refine Red.red ?_ | refine Nxt.mk ?_ | refine ⟨Nat.le_of_ble_eq_true rfl, ?_⟩ | refine at_is rfl ?_ | refine ⟨by decide +kernel, by decide +kernel, wayF (by decide +kernel) ?_⟩ | refine ⟨by decide +kernel, by decide +kernel, wayT (by decide +kernel) ?_⟩ | refine ⟨by decide +kernel, by decide +kernel, ?_⟩ | refine wayF (by decide +kernel) ?_ | refine wayT (by decide +kernel) ?_)))
local instance inNewB5_06 {x : D} {xs : List D} {st : Store} {r : Bool → Prop} : Red (inC x (.ref st.length) (st ++ [.lst xs]) r) (x.flat = true ∧ xs.all D.flat = true ∧ r (xs.any fun y => D.eqb y x)) := ⟨fun h => ⟨xs, .inl (by simp [rdL]), h⟩⟩
local instance inTupN5_06 {x : D} {xs : List D} {st : Store} {r : Bool → Prop} : Red (inC x (.tup xs) st r) (x.flat = true ∧ xs.all D.flat = true ∧ r (xs.any fun y => D.eqb y x)) := ⟨id⟩
local macro_rules | `(tactic| walk_at "z") => `(tactic| (repeat (first | refine Red.red ?_ | refine Nxt.mk ?_ | refine ⟨by decide +kernel, by decide +kernel, wayF (by decide +kernel) ?_⟩ | refine ⟨by decide +kernel, by decide +kernel, wayT (by decide +kernel) ?_⟩ | refine ⟨by decide +kernel, ?_⟩ | refine ⟨Nat.le_of_ble_eq_true rfl, ?_⟩ | refine wayF rfl ?_ | refine wayT rfl ?_ | refine at_is rfl ?_)))
local macro_rules | `(tactic| walk_at "y") => `(tactic| (repeat (first | refine Red.red ?_ | refine ⟨by decide +kernel, by decide +kernel, wayF (by decide +kernel) ?_⟩ | refine ⟨by decide +kernel, by decide +kernel, wayT (by decide +kernel) ?_⟩ | refine ⟨by decide +kernel, ?_⟩ | refine ⟨Nat.le_of_ble_eq_true rfl, ?_⟩ | refine wayF rfl ?_ | refine wayT rfl ?_ | refine at_is rfl ?_)))
/-! k06, text 5. Own work. -/
section
variable {k m n : Nat} {st st' : Store} {Q : K}
theorem pex_ok {d l : Nat} {x : D} {ts : List Str} (h : ExP d x l ts) : ∀ m, 2 * d + 3 ≤ m → ts.length ≤ 4000000 → Tk m "expr_tokens" [x] ts := by
  induction h with
  | word h1 h2 =>
    intro m hm hl st Q q
    obtain ⟨m, rfl⟩ : ∃ n, m = n + 1 := ⟨m - 1, by omega⟩
    refine call_intro rfl rfl ?_
    unfold b_p_expr_tokens
    walk_at "z"
    refine ⟨(nmS_tx h1).2, ?_⟩
    walk_at "z"
    refine ⟨(nmS_tx h2).2, ?_⟩
    walk_at "z"
    exact q _ _ rdL_new ((Grw.refl st).app) (Nat.le_refl _)
  | name h =>
    intro m hm hl st Q q
    obtain ⟨m, rfl⟩ : ∃ n, m = n + 1 := ⟨m - 1, by omega⟩
    refine call_intro rfl rfl ?_
    unfold b_p_expr_tokens
    walk_at "z"
    exact q _ _ rdL_new ((Grw.refl st).app) (Nat.le_refl _)
  | field h1 h2 =>
    intro m hm hl st Q q
    obtain ⟨m, rfl⟩ : ∃ n, m = n + 1 := ⟨m - 1, by omega⟩
    refine call_intro rfl rfl ?_
    unfold b_p_expr_tokens
    walk_at "z"
    exact q _ _ rdL_new ((Grw.refl st).app) (Nat.le_refl _)
  | null =>
    intro m hm hl st Q q
    obtain ⟨m, rfl⟩ : ∃ n, m = n + 1 := ⟨m - 1, by omega⟩
    refine call_intro rfl rfl ?_
    unfold b_p_expr_tokens
    walk_at "z"
    exact q _ _ rdL_new ((Grw.refl st).app) (Nat.le_refl _)
  | @item d l s x ts h hx ih =>
    intro m hm hl st Q q
    obtain ⟨m, rfl⟩ : ∃ n, m = n + 1 := ⟨m - 1, by omega⟩
    simp only [List.length_append] at hl
    refine call_intro rfl rfl ?_
    unfold b_p_expr_tokens
    walk_at "z"
    have gA := (Grw.refl st).app (c := C.lst [.str s, .str (Str.ofString "[")])
    have rA : rdL (st ++ [C.lst [.str s, .str (Str.ofString "[")]]) st.length (([s, S' "["]).map D.str) := rdL_new
    refine ih m (by omega) (by omega) _ _ fun n st1 r1 g1 l1 => ?_
    walk_at "z"
    refine cat (g1.rd rA) r1 (by simp at hl ⊢; omega) fun r2 => ?_
    have g2 := (gA.trans g1).app (c := C.lst (([s, S' "["] ++ ts).map D.str))
    generalize st1 ++ [C.lst (([s, S' "["] ++ ts).map D.str)] = st2 at g2 r2 ⊢
    have hl2 := g2.le
    walk_at "z"
    refine cat (b := [S' "]"]) (rdL_app r2) rdL_new (by simp at hl ⊢; omega) fun r3 => ?_
    exact q _ _ r3 (g2.app.app) (by simp; omega)
  | @not d l x ts hx ih =>
    intro m hm hl st Q q
    obtain ⟨m, rfl⟩ : ∃ n, m = n + 1 := ⟨m - 1, by omega⟩
    simp only [List.length_append] at hl
    have hpg := @par_ge l 8 ts
    refine call_intro rfl rfl ?_
    unfold b_p_expr_tokens
    walk_at "z"
    have gA := (Grw.refl st).app (c := C.lst [.str (Str.ofString "~")])
    have rA : rdL (st ++ [C.lst [.str (Str.ofString "~")]]) st.length (([S' "~"]).map D.str) := rdL_new
    refine within_ok (k := 8) (by omega) hx (by omega) (ih (m - 1) (by omega) (by omega)) _ _ fun n st1 r1 g1 l1 => ?_
    refine cat (g1.rd rA) r1 (by simp at hl ⊢; omega) fun r2 => ?_
    exact q _ _ r2 ((gA.trans g1).app) (by have := (gA.trans g1).le; omega)
  | @neg d l x ts hx ih =>
    intro m hm hl st Q q
    obtain ⟨m, rfl⟩ : ∃ n, m = n + 1 := ⟨m - 1, by omega⟩
    simp only [List.length_append] at hl
    have hpg := @par_ge l 8 ts
    refine call_intro rfl rfl ?_
    unfold b_p_expr_tokens
    walk_at "z"
    have gA := (Grw.refl st).app (c := C.lst [.str (Str.ofString "-")])
    have rA : rdL (st ++ [C.lst [.str (Str.ofString "-")]]) st.length (([S' "-"]).map D.str) := rdL_new
    refine within_ok (k := 8) (by omega) hx (by omega) (ih (m - 1) (by omega) (by omega)) _ _ fun n st1 r1 g1 l1 => ?_
    refine cat (g1.rd rA) r1 (by simp at hl ⊢; omega) fun r2 => ?_
    exact q _ _ r2 ((gA.trans g1).app) (by have := (gA.trans g1).le; omega)
  | @wide d l v x ts hv hx ih =>
    intro m hm hl st Q q
    obtain ⟨m, rfl⟩ : ∃ n, m = n + 1 := ⟨m - 1, by omega⟩
    simp only [List.length_append] at hl
    refine call_intro rfl rfl ?_
    unfold b_p_expr_tokens
    walk_at "z"
    have gA := (Grw.refl st).app (c := C.lst [.str (Str.ofString "wide"), .str (Str.ofString "(")])
    have rA : rdL (st ++ [C.lst [.str (Str.ofString "wide"), .str (Str.ofString "(")]]) st.length (([S' "wide", S' "("]).map D.str) := rdL_new
    refine ih m (by omega) (by omega) _ _ fun n st1 r1 g1 l1 => ?_
    refine cat (g1.rd rA) r1 (by simp at hl ⊢; omega) fun r2 => ?_
    have g2 := (gA.trans g1).app (c := C.lst (([S' "wide", S' "("] ++ ts).map D.str))
    generalize st1 ++ [C.lst (([S' "wide", S' "("] ++ ts).map D.str)] = st2 at g2 r2 ⊢
    have hl2 := g2.le
    walk_at "z"
    refine ⟨(nmS_tx hv).2, ?_⟩
    walk_at "z"
    refine cat (b := [S' ",", nmS v, S' ")"]) (rdL_app r2) rdL_new (by simp at hl ⊢; omega) fun r3 => ?_
    exact q _ _ r3 (g2.app.app) (by simp; omega)
  | @two d l l' s x y ts us hs hx hy ih1 ih2 =>
    intro m hm hl st Q q
    obtain ⟨m, rfl⟩ : ∃ n, m = n + 1 := ⟨m - 1, by omega⟩
    simp only [List.length_append] at hl
    refine call_intro rfl rfl ?_
    unfold b_p_expr_tokens
    rcases hs with rfl | rfl
    · walk_at "z"
      have gA := (Grw.refl st).app (c := C.lst [.str (S' "div"), .str (Str.ofString "(")])
      have rA : rdL (st ++ [C.lst [.str (S' "div"), .str (Str.ofString "(")]]) st.length (([S' "div", S' "("]).map D.str) := rdL_new
      rw [cut_drop _ (by decide)]
      refine listed_ok [(x, ts), (y, us)] (by omega) rfl (by simp [comma] at hl ⊢; omega) (fun p hp => ?_) (fun p hp => ?_) _ _ fun n st1 r1 g1 l1 => ?_
      · simp at hp
        rcases hp with rfl | rfl
        · exact hx.ne
        · exact hy.ne
      · simp at hp
        rcases hp with rfl | rfl
        · exact ih1 (m - 1) (by omega) (by omega)
        · exact ih2 (m - 1) (by omega) (by omega)
      have ec : comma ([(x, ts), (y, us)].map (·.2)) = ts ++ [S' ","] ++ us := by simp [comma]
      rw [ec] at r1
      refine cat (g1.rd rA) r1 (by simp at hl ⊢; omega) fun r2 => ?_
      have g2 := (gA.trans g1).app (c := C.lst (([S' "div", S' "("] ++ (ts ++ [S' ","] ++ us)).map D.str))
      generalize st1 ++ [C.lst (([S' "div", S' "("] ++ (ts ++ [S' ","] ++ us)).map D.str)] = st2 at g2 r2 ⊢
      have hl2 := g2.le
      walk_at "z"
      refine cat (b := [S' ")"]) (rdL_app r2) rdL_new (by simp at hl ⊢; omega) fun r3 => ?_
      exact q _ _ r3 (g2.app.app) (by simp; omega)
    · walk_at "z"
      have gA := (Grw.refl st).app (c := C.lst [.str (S' "rem"), .str (Str.ofString "(")])
      have rA : rdL (st ++ [C.lst [.str (S' "rem"), .str (Str.ofString "(")]]) st.length (([S' "rem", S' "("]).map D.str) := rdL_new
      rw [cut_drop _ (by decide)]
      refine listed_ok [(x, ts), (y, us)] (by omega) rfl (by simp [comma] at hl ⊢; omega) (fun p hp => ?_) (fun p hp => ?_) _ _ fun n st1 r1 g1 l1 => ?_
      · simp at hp
        rcases hp with rfl | rfl
        · exact hx.ne
        · exact hy.ne
      · simp at hp
        rcases hp with rfl | rfl
        · exact ih1 (m - 1) (by omega) (by omega)
        · exact ih2 (m - 1) (by omega) (by omega)
      have ec : comma ([(x, ts), (y, us)].map (·.2)) = ts ++ [S' ","] ++ us := by simp [comma]
      rw [ec] at r1
      refine cat (g1.rd rA) r1 (by simp at hl ⊢; omega) fun r2 => ?_
      have g2 := (gA.trans g1).app (c := C.lst (([S' "rem", S' "("] ++ (ts ++ [S' ","] ++ us)).map D.str))
      generalize st1 ++ [C.lst (([S' "rem", S' "("] ++ (ts ++ [S' ","] ++ us)).map D.str)] = st2 at g2 r2 ⊢
      have hl2 := g2.le
      walk_at "z"
      refine cat (b := [S' ")"]) (rdL_app r2) rdL_new (by simp at hl ⊢; omega) fun r3 => ?_
      exact q _ _ r3 (g2.app.app) (by simp; omega)
  | @pick d l l' l2 x y z ts us vs hx hy hz ih1 ih2 ih3 =>
    intro m hm hl st Q q
    obtain ⟨m, rfl⟩ : ∃ n, m = n + 1 := ⟨m - 1, by omega⟩
    simp only [List.length_append] at hl
    refine call_intro rfl rfl ?_
    unfold b_p_expr_tokens
    walk_at "z"
    have gA := (Grw.refl st).app (c := C.lst [.str (S' "pick"), .str (Str.ofString "(")])
    have rA : rdL (st ++ [C.lst [.str (S' "pick"), .str (Str.ofString "(")]]) st.length (([S' "pick", S' "("]).map D.str) := rdL_new
    rw [cut_drop _ (by decide)]
    refine listed_ok [(x, ts), (y, us), (z, vs)] (by omega) rfl (by simp [comma] at hl ⊢; omega) (fun p hp => ?_) (fun p hp => ?_) _ _ fun n st1 r1 g1 l1 => ?_
    · simp at hp
      rcases hp with rfl | rfl | rfl
      · exact hx.ne
      · exact hy.ne
      · exact hz.ne
    · simp at hp
      rcases hp with rfl | rfl | rfl
      · exact ih1 (m - 1) (by omega) (by omega)
      · exact ih2 (m - 1) (by omega) (by omega)
      · exact ih3 (m - 1) (by omega) (by omega)
    have ec : comma ([(x, ts), (y, us), (z, vs)].map (·.2)) = ts ++ [S' ","] ++ us ++ [S' ","] ++ vs := by simp [comma]
    rw [ec] at r1
    refine cat (g1.rd rA) r1 (by simp at hl ⊢; omega) fun r2 => ?_
    have g2 := (gA.trans g1).app (c := C.lst (([S' "pick", S' "("] ++ (ts ++ [S' ","] ++ us ++ [S' ","] ++ vs)).map D.str))
    generalize st1 ++ [C.lst (([S' "pick", S' "("] ++ (ts ++ [S' ","] ++ us ++ [S' ","] ++ vs)).map D.str)] = st2 at g2 r2 ⊢
    have hl2 := g2.le
    walk_at "z"
    refine cat (b := [S' ")"]) (rdL_app r2) rdL_new (by simp at hl ⊢; omega) fun r3 => ?_
    exact q _ _ r3 (g2.app.app) (by simp; omega)
  | @bin d l l' o x y ts us hx hy ih1 ih2 =>
    intro m hm hl st Q q
    obtain ⟨m, rfl⟩ : ∃ n, m = n + 1 := ⟨m - 1, by omega⟩
    simp only [List.length_append] at hl
    have hpg := @par_ge l (o.lv + if o.lv = 4 then 1 else 0) ts
    have hpg2 := @par_ge l' (o.lv + 1) us
    have i1 := ih1 (m - 1) (by omega) (by omega)
    have i2 := ih2 (m - 1) (by omega) (by omega)
    refine call_intro rfl rfl ?_
    unfold b_p_expr_tokens
    have W1 : Tk m "within" [x, .int ((o.lv + if o.lv = 4 then 1 else 0 : Nat) : Int)] (par l (o.lv + if o.lv = 4 then 1 else 0) ts) := within_ok (by omega) hx (by omega) i1
    have W2 : Tk m "within" [y, .int ((o.lv + 1 : Nat) : Int)] (par l' (o.lv + 1) us) := within_ok (by omega) hy (by omega) i2
    simp only [List.length_cons, List.length_nil] at hl
    cases o
    all_goals
      walk_at "z"
      refine ⟨_, rfl, ?_⟩
      walk_at "z"
      refine W1 _ _ fun n1 st1 r1 g1 l1 => ?_
      walk_at "z"
      refine cat (b := [_]) (rdL_app r1) rdL_new (by simp only [List.length_cons, List.length_nil]; omega) fun r2 => ?_
      have r2' := r2
      revert r2
      intro r2
      walk_at "z"
      refine W2 _ _ fun n3 st3 r3 g3 l3 => ?_
      refine cat (g3.rd r2') r3 (by simp only [List.length_append, List.length_cons, List.length_nil]; omega) fun r4 => ?_
      refine q _ _ r4 ?_ ?_
      · exact ((((g1.app).app).trans g3).app)
      · have h1 := ((g1.app (c := C.lst [])).app (c := C.lst [])).le
        have h3 := g3.le
        simp at h1 h3 ⊢
        omega
end
end Pk06
end PartPdk06P5

section PartPdk06P6
set_option Elab.async false
set_option linter.all false
set_option maxRecDepth 100000
set_option maxHeartbeats 1000000
namespace Pk06
open PySem Pd
local macro_rules | `(tactic| walk_at "t") => `(tactic| (repeat (first | refine Red.red ?_ | refine Nxt.mk ?_ | refine ⟨by decide +kernel, by decide +kernel, wayF (by decide +kernel) ?_⟩ | refine ⟨by decide +kernel, by decide +kernel, wayT (by decide +kernel) ?_⟩ | refine ⟨by decide +kernel, ?_⟩ | refine ⟨Nat.le_of_ble_eq_true rfl, ?_⟩ | refine at_is rfl ?_)))
local instance notinTup6_06 {x : D} {xs : List D} {st : Store} {r : Bool → Prop} : Red (notinC x (.tup xs) st r) (x.flat = true ∧ xs.all D.flat = true ∧ r (!(xs.any fun y => D.eqb y x))) := ⟨id⟩
local macro_rules | `(tactic| walk_at "s") => `(tactic| (repeat (refine Red.red ?_)))
local macro_rules | `(tactic| walk_at "r") => `(tactic| (repeat (first | refine Red.red ?_ | refine Nxt.mk ?_)))
local macro_rules | `(tactic| walk_at "v") => `(tactic| (repeat (first | refine Red.red ?_ | refine Nxt.mk ?_ | refine ⟨Nat.le_of_ble_eq_true rfl, ?_⟩ | refine at_is rfl ?_)))
local macro_rules | `(tactic| walk_at "w") => `(tactic| (repeat (first | refine Red.red ?_ | refine Nxt.mk ?_ | refine wayF rfl ?_ | refine wayT rfl ?_ | refine ⟨Nat.le_of_ble_eq_true rfl, ?_⟩ | refine at_is rfl ?_)))
local macro_rules | `(tactic| walk_at "u") => `(tactic| (repeat (first | refine Red.red ?_ | refine Nxt.mk ?_ | refine ⟨Nat.le_of_ble_eq_true rfl, ?_⟩ | refine at_is rfl ?_ | refine ⟨by decide +kernel, by decide +kernel, wayF (by decide +kernel) ?_⟩ | refine ⟨by decide +kernel, by decide +kernel, wayT (by decide +kernel) ?_⟩ | refine ⟨by decide +kernel, by decide +kernel, ?_⟩ | refine wayF (by decide +kernel) ?_ | refine wayT (by decide +kernel) ?_)))
local instance inNewB6_06 {x : D} {xs : List D} {st : Store} {r : Bool → Prop} : Red (inC x (.ref st.length) (st ++ [.lst xs]) r) (x.flat = true ∧ xs.all D.flat = true ∧ r (xs.any fun y => D.eqb y x)) := ⟨fun h => ⟨xs, .inl (by simp [rdL]), h⟩⟩
local instance inTupN6_06 {x : D} {xs : List D} {st : Store} {r : Bool → Prop} : Red (inC x (.tup xs) st r) (x.flat = true ∧ xs.all D.flat = true ∧ r (xs.any fun y => D.eqb y x)) := ⟨id⟩
local macro_rules | `(tactic| walk_at "z") => `(tactic| (repeat (first | refine Red.red ?_ | refine Nxt.mk ?_ | refine ⟨by decide +kernel, by decide +kernel, wayF (by decide +kernel) ?_⟩ | refine ⟨by decide +kernel, by decide +kernel, wayT (by decide +kernel) ?_⟩ | refine ⟨by decide +kernel, ?_⟩ | refine ⟨Nat.le_of_ble_eq_true rfl, ?_⟩ | refine wayF rfl ?_ | refine wayT rfl ?_ | refine at_is rfl ?_)))
local macro_rules | `(tactic| walk_at "y") => `(tactic| (repeat (first | refine Red.red ?_ | refine ⟨by decide +kernel, by decide +kernel, wayF (by decide +kernel) ?_⟩ | refine ⟨by decide +kernel, by decide +kernel, wayT (by decide +kernel) ?_⟩ | refine ⟨by decide +kernel, ?_⟩ | refine ⟨Nat.le_of_ble_eq_true rfl, ?_⟩ | refine wayF rfl ?_ | refine wayT rfl ?_ | refine at_is rfl ?_)))
/-! k06, text 6. Own work. -/
section
variable {k m n : Nat} {st st' : Store} {Q : K}
def rowsL : List (List Str) := [[S' "|"], [S' "^"], [S' "&"], [S' "==", S' "!=", S' "<", S' "<="], [S' "<<", S' ">>"], [S' "+", S' "-"], [S' "*"]]
def hasR (s : Str) (j : Nat) : Bool := ((rowsL.getD j []).map D.str).any fun y => y.eqb (.str s)
theorem hasR_o (o : Bo) {j : Nat} (hj : j < 7) : hasR o.s j = decide (j + 1 = o.lv) := by
  have h : ∀ o : Bo, ((List.range 7).all fun j => hasR o.s j == decide (j + 1 = o.lv)) = true := by intro o; cases o <;> decide +kernel
  have := List.all_eq_true.mp (h o) j (List.mem_range.mpr hj)
  simpa using this
theorem hasR_9 {s : Str} (hs : s ∈ [S' "word", S' "name", S' "field", S' "null", S' "item", S' "wide", S' "div", S' "rem", S' "pick"]) {j : Nat} (hj : j < 7) : hasR s j = false := by
  have h : ([S' "word", S' "name", S' "field", S' "null", S' "item", S' "wide", S' "div", S' "rem", S' "pick"].all fun s => (List.range 7).all fun j => hasR s j == false) = true := by decide +kernel
  have := List.all_eq_true.mp (List.all_eq_true.mp h s hs) j (List.mem_range.mpr hj)
  simpa using this
def t0 (st : Store) : Store := st ++ [C.lst [.str (Str.ofString "|")]]
def t1 (st : Store) : Store := t0 st ++ [C.lst [.str (Str.ofString "^")]]
def t2 (st : Store) : Store := t1 st ++ [C.lst [.str (Str.ofString "&")]]
def t3 (st : Store) : Store := t2 st ++ [C.lst [.str (Str.ofString "=="), .str (Str.ofString "!="), .str (Str.ofString "<"), .str (Str.ofString "<=")]]
def t4 (st : Store) : Store := t3 st ++ [C.lst [.str (Str.ofString "<<"), .str (Str.ofString ">>")]]
def t5 (st : Store) : Store := t4 st ++ [C.lst [.str (Str.ofString "+"), .str (Str.ofString "-")]]
def t6 (st : Store) : Store := t5 st ++ [C.lst [.str (Str.ofString "*")]]
def ou7 (st : Store) : List D := [.ref st.length, .ref (t0 st).length, .ref (t1 st).length, .ref (t2 st).length, .ref (t3 st).length, .ref (t4 st).length, .ref (t5 st).length]
def mk7 (st : Store) : Store := t6 st ++ [C.lst (ou7 st)]
theorem mk7_ok (st : Store) : rdL (mk7 st) (t6 st).length (ou7 st) ∧ Grw st (mk7 st) ∧ ∀ j : Nat, j < 7 → ∃ c : Nat, atD (ou7 st) (j : Int) = some (.ref c) ∧ rdL (mk7 st) c ((rowsL.getD j []).map D.str) := by
  refine ⟨rdL_new, ((((((((Grw.refl st).app).app).app).app).app).app).app).app, fun j hj => ?_⟩
  match j, hj with
  | 0, _ => exact ⟨_, rfl, rdL_app (rdL_app (rdL_app (rdL_app (rdL_app (rdL_app (rdL_app (rdL_new)))))))⟩
  | 1, _ => exact ⟨_, rfl, rdL_app (rdL_app (rdL_app (rdL_app (rdL_app (rdL_app (rdL_new))))))⟩
  | 2, _ => exact ⟨_, rfl, rdL_app (rdL_app (rdL_app (rdL_app (rdL_app (rdL_new)))))⟩
  | 3, _ => exact ⟨_, rfl, rdL_app (rdL_app (rdL_app (rdL_app (rdL_new))))⟩
  | 4, _ => exact ⟨_, rfl, rdL_app (rdL_app (rdL_app (rdL_new)))⟩
  | 5, _ => exact ⟨_, rfl, rdL_app (rdL_app (rdL_new))⟩
  | 6, _ => exact ⟨_, rfl, rdL_app (rdL_new)⟩
theorem llev_ok {d l : Nat} {x : D} {ts : List Str} (hm : 1 ≤ m) (h : ExP d x l ts) (q : ∀ st', Grw st st' → Q (.int (l : Int)) st') : callN prog m "_law_level" [x] st Q := by
  obtain ⟨m, rfl⟩ : ∃ n, m = n + 1 := ⟨m - 1, by omega⟩
  obtain ⟨s, r, rfl, ho, hh⟩ := h.hd
  refine call_intro rfl rfl ?_
  unfold b_l_level
  walk_at "s"
  refine at_is rfl ?_
  walk_at "z"
  by_cases hn : s = S' "not" ∨ s = S' "neg"
  · have hl8 : l = 8 := by
      rcases hh with ⟨_, h⟩ | ⟨o, h, _⟩ | ⟨h, _⟩
      · exact h
      · have := bo_not o
        rcases hn with e | e
        · exact absurd (h.symm.trans e) (of_decide_eq_false this.1)
        · exact absurd (h.symm.trans e) (of_decide_eq_false this.2)
      · rcases hn with rfl | rfl
        · exact absurd h (by decide +kernel)
        · exact absurd h (by decide +kernel)
    subst hl8
    refine ⟨rfl, by decide +kernel, wayT (by rcases hn with rfl | rfl <;> decide +kernel) ?_⟩
    walk_at "z"
    exact q _ (.refl _)
  · have e1 : ([D.str (Str.ofString "not"), D.str (Str.ofString "neg")].any fun y => y.eqb (D.str s)) = false := by
      rw [List.any_eq_false]
      intro y hy e
      simp at hy
      rcases hy with rfl | rfl
      · exact hn (.inl (by have : decide (S' "not" = s) = true := e; exact (of_decide_eq_true this).symm))
      · exact hn (.inr (by have : decide (S' "neg" = s) = true := e; exact (of_decide_eq_true this).symm))
    refine ⟨rfl, by decide +kernel, wayF e1 ?_⟩
    have hR : (∃ j, j < 7 ∧ l = j + 1 ∧ ∀ i, i < 7 → hasR s i = decide (i = j)) ∨ (l = 9 ∧ ∀ i, i < 7 → hasR s i = false) := by
      rcases hh with ⟨h9, _⟩ | ⟨o, rfl, rfl⟩ | ⟨h9, rfl⟩
      · exact absurd h9 hn
      · have := lv_le o
        refine .inl ⟨o.lv - 1, by omega, by omega, fun i hi => ?_⟩
        rw [hasR_o o hi]
        by_cases e : i + 1 = o.lv
        · rw [decide_eq_true e, decide_eq_true (by omega)]
        · rw [decide_eq_false e, decide_eq_false (by omega)]
      · exact .inr ⟨rfl, fun i hi => hasR_9 h9 hi⟩
    walk_at "z"
    change forLoop _ _ _ _ (rng 0 7) [some (tp (D.str s :: r)), some (.ref (t6 st).length), none] (mk7 st)
    obtain ⟨h1, g1, h2⟩ := mk7_ok st
    generalize mk7 st = S at h1 g1 h2 ⊢
    generalize ou7 st = ou at h1 h2
    generalize (t6 st).length = on at h1 ⊢
    refine for_rng (n := 7) (fun k σ st' => ∃ o2, σ = [some (tp (D.str s :: r)), some (.ref on), o2] ∧ st' = S ∧ (∀ i, i < k → hasR s i = false)) ⟨none, rfl, rfl, fun i hi => absurd hi (by omega)⟩ (fun k σ st' hk ⟨o2, e, e2, hno⟩ N hN => ?_) (fun σ st' ⟨o2, e, e2, hno⟩ => ?_)
    · subst e e2
      refine ⟨trivial, ?_⟩
      obtain ⟨c, c1, c2⟩ := h2 k hk
      walk_at "s"
      refine at_is rfl ?_
      walk_at "s"
      refine ix_ref h1 (by rw [Int.zero_add]; exact c1) ?_
      refine ⟨(rowsL.getD k []).map D.str, .inl c2, rfl, List.all_eq_true.mpr fun y hy => ?_, ?_⟩
      · obtain ⟨_, _, rfl⟩ := List.mem_map.mp hy
        rfl
      walk_at "s"
      have e3 : (((rowsL.getD k []).map D.str).any fun y => y.eqb (.str s)) = hasR s k := rfl
      rw [e3]
      refine way (fun e => ?_) (fun e => ?_)
      · walk_at "s"
        have hl : l = k + 1 := by
          rcases hR with ⟨j, hj, hl, hi⟩ | ⟨hl, hi⟩
          · rw [hi k hk] at e
            have := of_decide_eq_true e
            omega
          · rw [hi k hk] at e
            cases e
        have e4 : (0 + (k : Int)) + 1 = (l : Int) := by omega
        rw [e4]
        exact q _ g1
      · walk_at "s"
        refine hN _ _ ⟨_, rfl, rfl, fun i hi => ?_⟩
        by_cases hik : i = k
        · rw [hik]; exact e
        · exact hno i (by omega)
    · subst e e2
      refine ⟨trivial, ?_⟩
      have hl : l = 9 := by
        rcases hR with ⟨j, hj, hl, hi⟩ | ⟨hl, hi⟩
        · have h3 := hno j hj
          rw [hi j hj, decide_eq_true rfl] at h3
          cases h3
        · exact hl
      subst hl
      walk_at "z"
      exact q _ g1
theorem linner_ok {d l k : Nat} {x : D} {ts : List Str} (hm : 2 ≤ m) (h : ExP d x l ts) (hl : ts.length ≤ 4000000) (T : Tk (m - 1) "_law_expr_tokens" [x] ts) : Tk m "_law_inner_tokens" [x, .int (k : Int)] (par l k ts) := by
  intro st Q q
  obtain ⟨m, rfl⟩ : ∃ n, m = n + 1 := ⟨m - 1, by omega⟩
  have T : Tk m "_law_expr_tokens" [x] ts := T
  refine call_intro rfl rfl ?_
  unfold b_l_inner_tokens
  walk_at "s"
  refine llev_ok (by omega) h fun st0 g0 => ?_
  replace q := fun n st' r (g : Grw st0 st') (l : st0.length ≤ n) => q n st' r (g0.trans g) (by have := g0.le; omega)
  clear g0
  walk_at "s"
  refine way (fun e => ?_) (fun e => ?_)
  · have e := of_decide_eq_true e
    walk_at "s"
    refine T _ _ fun n st1 r1 g1 l1 => ?_
    have e2 : par l k ts = ts := by unfold par; rw [if_pos (by omega)]
    rw [e2] at q
    exact q n st1 r1 g1 l1
  · have e := of_decide_eq_false e
    walk_at "z"
    have gA := (Grw.refl st0).app (c := C.lst [.str (Str.ofString "(")])
    have rA : rdL (st0 ++ [C.lst [.str (Str.ofString "(")]]) st0.length (([S' "("]).map D.str) := rdL_new
    refine T _ _ fun n st1 r1 g1 l1 => ?_
    refine cat (g1.rd rA) r1 (by simp; omega) fun r2 => ?_
    have g2 := (gA.trans g1).app (c := C.lst (([S' "("] ++ ts).map D.str))
    generalize st1 ++ [C.lst (([S' "("] ++ ts).map D.str)] = st2 at g2 r2 ⊢
    walk_at "z"
    refine cat (b := [S' ")"]) (rdL_app r2) rdL_new (by simp; omega) fun r3 => ?_
    have e2 : par l k ts = [S' "("] ++ ts ++ [S' ")"] := by unfold par; rw [if_neg (by omega)]
    rw [e2] at q
    exact q _ _ r3 (g2.app.app) (by have := g2.le; simp; omega)
end
end Pk06
end PartPdk06P6

section PartPdk06P7
set_option Elab.async false
set_option linter.all false
set_option maxRecDepth 100000
set_option maxHeartbeats 1000000
namespace Pk06
open PySem Pd
local macro_rules | `(tactic| walk_at "t") => `(tactic| (repeat (first | refine Red.red ?_ | refine Nxt.mk ?_ | refine ⟨by decide +kernel, by decide +kernel, wayF (by decide +kernel) ?_⟩ | refine ⟨by decide +kernel, by decide +kernel, wayT (by decide +kernel) ?_⟩ | refine ⟨by decide +kernel, ?_⟩ | refine ⟨Nat.le_of_ble_eq_true rfl, ?_⟩ | refine at_is rfl ?_)))
local instance notinTup7_06 {x : D} {xs : List D} {st : Store} {r : Bool → Prop} : Red (notinC x (.tup xs) st r) (x.flat = true ∧ xs.all D.flat = true ∧ r (!(xs.any fun y => D.eqb y x))) := ⟨id⟩
local macro_rules | `(tactic| walk_at "s") => `(tactic| (repeat (refine Red.red ?_)))
local macro_rules | `(tactic| walk_at "r") => `(tactic| (repeat (first | refine Red.red ?_ | refine Nxt.mk ?_)))
local macro_rules | `(tactic| walk_at "v") => `(tactic| (repeat (first | refine Red.red ?_ | refine Nxt.mk ?_ | refine ⟨Nat.le_of_ble_eq_true rfl, ?_⟩ | refine at_is rfl ?_)))
local macro_rules | `(tactic| walk_at "w") => `(tactic| (repeat (first | refine Red.red ?_ | refine Nxt.mk ?_ | refine wayF rfl ?_ | refine wayT rfl ?_ | refine ⟨Nat.le_of_ble_eq_true rfl, ?_⟩ | refine at_is rfl ?_)))
local macro_rules | `(tactic| walk_at "u") => `(tactic| (repeat (first | refine Red.red ?_ | refine Nxt.mk ?_ | refine ⟨Nat.le_of_ble_eq_true rfl, ?_⟩ | refine at_is rfl ?_ | refine ⟨by decide +kernel, by decide +kernel, wayF (by decide +kernel) ?_⟩ | refine ⟨by decide +kernel, by decide +kernel, wayT (by decide +kernel) ?_⟩ | refine ⟨by decide +kernel, by decide +kernel, ?_⟩ | refine wayF (by decide +kernel) ?_ | refine wayT (by decide +kernel) ?_)))
local instance inNewB7_06 {x : D} {xs : List D} {st : Store} {r : Bool → Prop} : Red (inC x (.ref st.length) (st ++ [.lst xs]) r) (x.flat = true ∧ xs.all D.flat = true ∧ r (xs.any fun y => D.eqb y x)) := ⟨fun h => ⟨xs, .inl (by simp [rdL]), h⟩⟩
local instance inTupN7_06 {x : D} {xs : List D} {st : Store} {r : Bool → Prop} : Red (inC x (.tup xs) st r) (x.flat = true ∧ xs.all D.flat = true ∧ r (xs.any fun y => D.eqb y x)) := ⟨id⟩
local macro_rules | `(tactic| walk_at "z") => `(tactic| (repeat (first | refine Red.red ?_ | refine Nxt.mk ?_ | refine ⟨by decide +kernel, by decide +kernel, wayF (by decide +kernel) ?_⟩ | refine ⟨by decide +kernel, by decide +kernel, wayT (by decide +kernel) ?_⟩ | refine ⟨by decide +kernel, ?_⟩ | refine ⟨Nat.le_of_ble_eq_true rfl, ?_⟩ | refine wayF rfl ?_ | refine wayT rfl ?_ | refine at_is rfl ?_)))
local macro_rules | `(tactic| walk_at "y") => `(tactic| (repeat (first | refine Red.red ?_ | refine ⟨by decide +kernel, by decide +kernel, wayF (by decide +kernel) ?_⟩ | refine ⟨by decide +kernel, by decide +kernel, wayT (by decide +kernel) ?_⟩ | refine ⟨by decide +kernel, ?_⟩ | refine ⟨Nat.le_of_ble_eq_true rfl, ?_⟩ | refine wayF rfl ?_ | refine wayT rfl ?_ | refine at_is rfl ?_)))
/-! k06, text 7. Own work. -/
section
variable {k m n : Nat} {st st' : Store} {Q : K}
theorem llisted_ok {f : String} (ps : List (D × List Str)) (hm : 1 ≤ m) (hf : (prog f) = some ⟨1, 3, b_l_listed⟩) (hl : (comma (ps.map (·.2))).length ≤ 4000000) (hne : ∀ p ∈ ps, p.2 ≠ []) (hT : ∀ p ∈ ps, Tk (m - 1) "_law_expr_tokens" [p.1] p.2) : Tk m f [.tup (ps.map (·.1))] (comma (ps.map (·.2))) := by
  intro st Q q
  obtain ⟨m, rfl⟩ : ∃ n, m = n + 1 := ⟨m - 1, by omega⟩
  have hT : ∀ p ∈ ps, Tk m "_law_expr_tokens" [p.1] p.2 := hT
  refine call_intro hf rfl ?_
  unfold b_l_listed
  walk_at "z"
  refine for_map ps (·.1) rfl (fun j σ st' => ∃ o2, σ = [some (.tup (ps.map (·.1))), some (.ref st.length), o2] ∧ rdL st' st.length ((comma ((ps.take j).map (·.2))).map D.str) ∧ Grw st st') ⟨none, rfl, rdL_new, (Grw.refl st).app⟩ (fun j p σ st1 hj ⟨o2, e, r1, g1⟩ N hN => ?_) (fun σ st1 ⟨o2, e, r1, g1⟩ => ?_)
  · subst e
    have hp := List.mem_of_getElem? hj
    have hjl := (List.getElem?_eq_some_iff.mp hj).1
    refine ⟨trivial, ?_⟩
    have htk : (ps.take (j + 1)).map (·.2) = (ps.take j).map (·.2) ++ [p.2] := by rw [List.take_add_one, hj, List.map_append]; rfl
    have hb := comma_take_len (ps.map (·.2)) (j + 1)
    rw [← List.map_take, htk] at hb
    rw [htk] at hN
    generalize hR : (ps.take j).map (·.2) = R at r1 hb hN htk
    have hRl : R.length = j := by rw [← hR, List.length_map, List.length_take]; omega
    have hRn : ∀ ts ∈ R, ts ≠ [] := fun ts hts => by
      rw [← hR] at hts
      obtain ⟨y, hy, rfl⟩ := List.mem_map.mp hts
      exact hne y (List.mem_of_mem_take hy)
    -- the tokens behind what is there
    have fin : ∀ (st2 : Store) (us : List Str) , rdL st2 st.length (us.map D.str) → Grw st st2 → comma (R ++ [p.2]) = us ++ p.2 → callN prog m "_law_expr_tokens" [p.1] st2 fun x st3 => extendAM (.ref st.length) [x] st3 fun _ st4 => N [some (.tup (ps.map (·.1))), some (.ref st.length), some p.1] st4 := by
      intro st2 us r2 g2 hu
      refine hT p hp _ _ fun n3 st3 r3 g3 l3 => ?_
      have hlt := rdL_lt r2
      rw [hu, List.length_append] at hb
      refine extLL (g3.rd r2) r3 (by omega) (by rw [List.length_map, List.length_map]; unfold szl; omega) ?_
      rw [← List.map_append, ← hu]
      refine hN _ _ ⟨_, rfl, rdL_set (g3.rd r2), Grw_setN (g2.trans g3) (Nat.le_refl _)⟩
    walk_at "s"
    refine tru_ref r1 ?_
    by_cases hj0 : j = 0
    · have hR0 : R = [] := List.length_eq_zero_iff.mp (by omega)
      subst hR0
      refine wayF rfl ?_
      walk_at "s"
      refine Nxt.mk ?_
      walk_at "s"
      refine ⟨ty_at r1, ?_⟩
      walk_at "s"
      exact fin st1 [] r1 g1 (by simp [comma])
    · have hR0 : R ≠ [] := fun e => by rw [e] at hRl; exact hj0 hRl.symm
      have hc := comma_ne hR0 hRn
      refine wayT (by simp [hc]) ?_
      walk_at "s"
      refine ⟨ty_at r1, ?_⟩
      walk_at "s"
      rw [comma_snoc hR0] at hb
      simp at hb
      refine append_at r1 (by rw [List.length_map]; unfold szl; omega) ?_
      have r2 := rdL_set (ys := (comma R).map D.str ++ [.str (S' ",")]) r1
      have g2 := Grw_setN (c := .lst ((comma R).map D.str ++ [.str (S' ",")])) g1 (Nat.le_refl _)
      walk_at "s"
      refine Nxt.mk ?_
      walk_at "s"
      refine ⟨ty_at r2, ?_⟩
      walk_at "s"
      refine fin _ (comma R ++ [S' ","]) (by rw [List.map_append]; exact r2) g2 (by rw [comma_snoc hR0])
  · subst e
    refine ⟨trivial, ?_⟩
    rw [List.take_length] at r1
    walk_at "z"
    exact q _ _ r1 g1 (Nat.le_refl _)
theorem lex_ok {d l : Nat} {x : D} {ts : List Str} (h : ExP d x l ts) : ∀ m, 2 * d + 3 ≤ m → ts.length ≤ 4000000 → Tk m "_law_expr_tokens" [x] ts := by
  induction h with
  | word h1 h2 =>
    intro m hm hl st Q q
    obtain ⟨m, rfl⟩ : ∃ n, m = n + 1 := ⟨m - 1, by omega⟩
    refine call_intro rfl rfl ?_
    unfold b_l_expr_tokens
    walk_at "z"
    refine ⟨(nmS_tx h1).2, ?_⟩
    walk_at "z"
    refine ⟨(nmS_tx h2).2, ?_⟩
    walk_at "z"
    exact q _ _ rdL_new ((Grw.refl st).app) (Nat.le_refl _)
  | name h =>
    intro m hm hl st Q q
    obtain ⟨m, rfl⟩ : ∃ n, m = n + 1 := ⟨m - 1, by omega⟩
    refine call_intro rfl rfl ?_
    unfold b_l_expr_tokens
    walk_at "z"
    exact q _ _ rdL_new ((Grw.refl st).app) (Nat.le_refl _)
  | field h1 h2 =>
    intro m hm hl st Q q
    obtain ⟨m, rfl⟩ : ∃ n, m = n + 1 := ⟨m - 1, by omega⟩
    refine call_intro rfl rfl ?_
    unfold b_l_expr_tokens
    walk_at "z"
    exact q _ _ rdL_new ((Grw.refl st).app) (Nat.le_refl _)
  | null =>
    intro m hm hl st Q q
    obtain ⟨m, rfl⟩ : ∃ n, m = n + 1 := ⟨m - 1, by omega⟩
    refine call_intro rfl rfl ?_
    unfold b_l_expr_tokens
    walk_at "z"
    exact q _ _ rdL_new ((Grw.refl st).app) (Nat.le_refl _)
  | @item d l s x ts h hx ih =>
    intro m hm hl st Q q
    obtain ⟨m, rfl⟩ : ∃ n, m = n + 1 := ⟨m - 1, by omega⟩
    simp only [List.length_append] at hl
    refine call_intro rfl rfl ?_
    unfold b_l_expr_tokens
    walk_at "z"
    have gA := (Grw.refl st).app (c := C.lst [.str s, .str (Str.ofString "[")])
    have rA : rdL (st ++ [C.lst [.str s, .str (Str.ofString "[")]]) st.length (([s, S' "["]).map D.str) := rdL_new
    refine ih m (by omega) (by omega) _ _ fun n st1 r1 g1 l1 => ?_
    walk_at "z"
    refine cat (g1.rd rA) r1 (by simp at hl ⊢; omega) fun r2 => ?_
    have g2 := (gA.trans g1).app (c := C.lst (([s, S' "["] ++ ts).map D.str))
    generalize st1 ++ [C.lst (([s, S' "["] ++ ts).map D.str)] = st2 at g2 r2 ⊢
    have hl2 := g2.le
    walk_at "z"
    refine cat (b := [S' "]"]) (rdL_app r2) rdL_new (by simp at hl ⊢; omega) fun r3 => ?_
    exact q _ _ r3 (g2.app.app) (by simp; omega)
  | @not d l x ts hx ih =>
    intro m hm hl st Q q
    obtain ⟨m, rfl⟩ : ∃ n, m = n + 1 := ⟨m - 1, by omega⟩
    simp only [List.length_append] at hl
    have hpg := @par_ge l 8 ts
    refine call_intro rfl rfl ?_
    unfold b_l_expr_tokens
    walk_at "z"
    have gA := (Grw.refl st).app (c := C.lst [.str (Str.ofString "~")])
    have rA : rdL (st ++ [C.lst [.str (Str.ofString "~")]]) st.length (([S' "~"]).map D.str) := rdL_new
    refine linner_ok (k := 8) (by omega) hx (by omega) (ih (m - 1) (by omega) (by omega)) _ _ fun n st1 r1 g1 l1 => ?_
    refine cat (g1.rd rA) r1 (by simp at hl ⊢; omega) fun r2 => ?_
    exact q _ _ r2 ((gA.trans g1).app) (by have := (gA.trans g1).le; omega)
  | @neg d l x ts hx ih =>
    intro m hm hl st Q q
    obtain ⟨m, rfl⟩ : ∃ n, m = n + 1 := ⟨m - 1, by omega⟩
    simp only [List.length_append] at hl
    have hpg := @par_ge l 8 ts
    refine call_intro rfl rfl ?_
    unfold b_l_expr_tokens
    walk_at "z"
    have gA := (Grw.refl st).app (c := C.lst [.str (Str.ofString "-")])
    have rA : rdL (st ++ [C.lst [.str (Str.ofString "-")]]) st.length (([S' "-"]).map D.str) := rdL_new
    refine linner_ok (k := 8) (by omega) hx (by omega) (ih (m - 1) (by omega) (by omega)) _ _ fun n st1 r1 g1 l1 => ?_
    refine cat (g1.rd rA) r1 (by simp at hl ⊢; omega) fun r2 => ?_
    exact q _ _ r2 ((gA.trans g1).app) (by have := (gA.trans g1).le; omega)
  | @wide d l v x ts hv hx ih =>
    intro m hm hl st Q q
    obtain ⟨m, rfl⟩ : ∃ n, m = n + 1 := ⟨m - 1, by omega⟩
    simp only [List.length_append] at hl
    refine call_intro rfl rfl ?_
    unfold b_l_expr_tokens
    walk_at "z"
    have gA := (Grw.refl st).app (c := C.lst [.str (Str.ofString "wide"), .str (Str.ofString "(")])
    have rA : rdL (st ++ [C.lst [.str (Str.ofString "wide"), .str (Str.ofString "(")]]) st.length (([S' "wide", S' "("]).map D.str) := rdL_new
    refine ih m (by omega) (by omega) _ _ fun n st1 r1 g1 l1 => ?_
    refine cat (g1.rd rA) r1 (by simp at hl ⊢; omega) fun r2 => ?_
    have g2 := (gA.trans g1).app (c := C.lst (([S' "wide", S' "("] ++ ts).map D.str))
    generalize st1 ++ [C.lst (([S' "wide", S' "("] ++ ts).map D.str)] = st2 at g2 r2 ⊢
    have hl2 := g2.le
    walk_at "z"
    refine ⟨(nmS_tx hv).2, ?_⟩
    walk_at "z"
    refine cat (b := [S' ",", nmS v, S' ")"]) (rdL_app r2) rdL_new (by simp at hl ⊢; omega) fun r3 => ?_
    exact q _ _ r3 (g2.app.app) (by simp; omega)
  | @two d l l' s x y ts us hs hx hy ih1 ih2 =>
    intro m hm hl st Q q
    obtain ⟨m, rfl⟩ : ∃ n, m = n + 1 := ⟨m - 1, by omega⟩
    simp only [List.length_append] at hl
    refine call_intro rfl rfl ?_
    unfold b_l_expr_tokens
    rcases hs with rfl | rfl
    · walk_at "z"
      have gA := (Grw.refl st).app (c := C.lst [.str (S' "div"), .str (Str.ofString "(")])
      have rA : rdL (st ++ [C.lst [.str (S' "div"), .str (Str.ofString "(")]]) st.length (([S' "div", S' "("]).map D.str) := rdL_new
      rw [cut_drop _ (by decide)]
      refine llisted_ok [(x, ts), (y, us)] (by omega) rfl (by simp [comma] at hl ⊢; omega) (fun p hp => ?_) (fun p hp => ?_) _ _ fun n st1 r1 g1 l1 => ?_
      · simp at hp
        rcases hp with rfl | rfl
        · exact hx.ne
        · exact hy.ne
      · simp at hp
        rcases hp with rfl | rfl
        · exact ih1 (m - 1) (by omega) (by omega)
        · exact ih2 (m - 1) (by omega) (by omega)
      have ec : comma ([(x, ts), (y, us)].map (·.2)) = ts ++ [S' ","] ++ us := by simp [comma]
      rw [ec] at r1
      refine cat (g1.rd rA) r1 (by simp at hl ⊢; omega) fun r2 => ?_
      have g2 := (gA.trans g1).app (c := C.lst (([S' "div", S' "("] ++ (ts ++ [S' ","] ++ us)).map D.str))
      generalize st1 ++ [C.lst (([S' "div", S' "("] ++ (ts ++ [S' ","] ++ us)).map D.str)] = st2 at g2 r2 ⊢
      have hl2 := g2.le
      walk_at "z"
      refine cat (b := [S' ")"]) (rdL_app r2) rdL_new (by simp at hl ⊢; omega) fun r3 => ?_
      exact q _ _ r3 (g2.app.app) (by simp; omega)
    · walk_at "z"
      have gA := (Grw.refl st).app (c := C.lst [.str (S' "rem"), .str (Str.ofString "(")])
      have rA : rdL (st ++ [C.lst [.str (S' "rem"), .str (Str.ofString "(")]]) st.length (([S' "rem", S' "("]).map D.str) := rdL_new
      rw [cut_drop _ (by decide)]
      refine llisted_ok [(x, ts), (y, us)] (by omega) rfl (by simp [comma] at hl ⊢; omega) (fun p hp => ?_) (fun p hp => ?_) _ _ fun n st1 r1 g1 l1 => ?_
      · simp at hp
        rcases hp with rfl | rfl
        · exact hx.ne
        · exact hy.ne
      · simp at hp
        rcases hp with rfl | rfl
        · exact ih1 (m - 1) (by omega) (by omega)
        · exact ih2 (m - 1) (by omega) (by omega)
      have ec : comma ([(x, ts), (y, us)].map (·.2)) = ts ++ [S' ","] ++ us := by simp [comma]
      rw [ec] at r1
      refine cat (g1.rd rA) r1 (by simp at hl ⊢; omega) fun r2 => ?_
      have g2 := (gA.trans g1).app (c := C.lst (([S' "rem", S' "("] ++ (ts ++ [S' ","] ++ us)).map D.str))
      generalize st1 ++ [C.lst (([S' "rem", S' "("] ++ (ts ++ [S' ","] ++ us)).map D.str)] = st2 at g2 r2 ⊢
      have hl2 := g2.le
      walk_at "z"
      refine cat (b := [S' ")"]) (rdL_app r2) rdL_new (by simp at hl ⊢; omega) fun r3 => ?_
      exact q _ _ r3 (g2.app.app) (by simp; omega)
  | @pick d l l' l2 x y z ts us vs hx hy hz ih1 ih2 ih3 =>
    intro m hm hl st Q q
    obtain ⟨m, rfl⟩ : ∃ n, m = n + 1 := ⟨m - 1, by omega⟩
    simp only [List.length_append] at hl
    refine call_intro rfl rfl ?_
    unfold b_l_expr_tokens
    walk_at "z"
    have gA := (Grw.refl st).app (c := C.lst [.str (S' "pick"), .str (Str.ofString "(")])
    have rA : rdL (st ++ [C.lst [.str (S' "pick"), .str (Str.ofString "(")]]) st.length (([S' "pick", S' "("]).map D.str) := rdL_new
    rw [cut_drop _ (by decide)]
    refine llisted_ok [(x, ts), (y, us), (z, vs)] (by omega) rfl (by simp [comma] at hl ⊢; omega) (fun p hp => ?_) (fun p hp => ?_) _ _ fun n st1 r1 g1 l1 => ?_
    · simp at hp
      rcases hp with rfl | rfl | rfl
      · exact hx.ne
      · exact hy.ne
      · exact hz.ne
    · simp at hp
      rcases hp with rfl | rfl | rfl
      · exact ih1 (m - 1) (by omega) (by omega)
      · exact ih2 (m - 1) (by omega) (by omega)
      · exact ih3 (m - 1) (by omega) (by omega)
    have ec : comma ([(x, ts), (y, us), (z, vs)].map (·.2)) = ts ++ [S' ","] ++ us ++ [S' ","] ++ vs := by simp [comma]
    rw [ec] at r1
    refine cat (g1.rd rA) r1 (by simp at hl ⊢; omega) fun r2 => ?_
    have g2 := (gA.trans g1).app (c := C.lst (([S' "pick", S' "("] ++ (ts ++ [S' ","] ++ us ++ [S' ","] ++ vs)).map D.str))
    generalize st1 ++ [C.lst (([S' "pick", S' "("] ++ (ts ++ [S' ","] ++ us ++ [S' ","] ++ vs)).map D.str)] = st2 at g2 r2 ⊢
    have hl2 := g2.le
    walk_at "z"
    refine cat (b := [S' ")"]) (rdL_app r2) rdL_new (by simp at hl ⊢; omega) fun r3 => ?_
    exact q _ _ r3 (g2.app.app) (by simp; omega)
  | @bin d l l' o x y ts us hx hy ih1 ih2 =>
    intro m hm hl st Q q
    obtain ⟨m, rfl⟩ : ∃ n, m = n + 1 := ⟨m - 1, by omega⟩
    simp only [List.length_append] at hl
    have hpg := @par_ge l (o.lv + if o.lv = 4 then 1 else 0) ts
    have hpg2 := @par_ge l' (o.lv + 1) us
    have i1 := ih1 (m - 1) (by omega) (by omega)
    have i2 := ih2 (m - 1) (by omega) (by omega)
    refine call_intro rfl rfl ?_
    unfold b_l_expr_tokens
    have W1 : Tk m "_law_inner_tokens" [x, .int ((o.lv + if o.lv = 4 then 1 else 0 : Nat) : Int)] (par l (o.lv + if o.lv = 4 then 1 else 0) ts) := linner_ok (by omega) hx (by omega) i1
    have W2 : Tk m "_law_inner_tokens" [y, .int ((o.lv + 1 : Nat) : Int)] (par l' (o.lv + 1) us) := linner_ok (by omega) hy (by omega) i2
    simp only [List.length_cons, List.length_nil] at hl
    cases o
    all_goals
      walk_at "z"
      refine llev_ok (by omega) (ExP.bin hx hy) fun st0 g0 => ?_
      replace q := fun n st' r (g : Grw st0 st') (l : st0.length ≤ n) => q n st' r (g0.trans g) (by have := g0.le; omega)
      clear g0
      walk_at "z"
      refine W1 _ _ fun n1 st1 r1 g1 l1 => ?_
      walk_at "z"
      refine cat (b := [_]) (rdL_app r1) rdL_new (by simp only [List.length_cons, List.length_nil]; omega) fun r2 => ?_
      have r2' := r2
      revert r2
      intro r2
      walk_at "z"
      refine W2 _ _ fun n3 st3 r3 g3 l3 => ?_
      refine cat (g3.rd r2') r3 (by simp only [List.length_append, List.length_cons, List.length_nil]; omega) fun r4 => ?_
      refine q _ _ r4 ?_ ?_
      · exact ((((g1.app).app).trans g3).app)
      · have h1 := ((g1.app (c := C.lst [])).app (c := C.lst [])).le
        have h3 := g3.le
        simp at h1 h3 ⊢
        omega
end
end Pk06
end PartPdk06P7

section PartPdk06P8
set_option Elab.async false
set_option linter.all false
set_option maxRecDepth 100000
set_option maxHeartbeats 1000000
namespace Pk06
open PySem Pd
local macro_rules | `(tactic| walk_at "t") => `(tactic| (repeat (first | refine Red.red ?_ | refine Nxt.mk ?_ | refine ⟨by decide +kernel, by decide +kernel, wayF (by decide +kernel) ?_⟩ | refine ⟨by decide +kernel, by decide +kernel, wayT (by decide +kernel) ?_⟩ | refine ⟨by decide +kernel, ?_⟩ | refine ⟨Nat.le_of_ble_eq_true rfl, ?_⟩ | refine at_is rfl ?_)))
local instance notinTup8_06 {x : D} {xs : List D} {st : Store} {r : Bool → Prop} : Red (notinC x (.tup xs) st r) (x.flat = true ∧ xs.all D.flat = true ∧ r (!(xs.any fun y => D.eqb y x))) := ⟨id⟩
local macro_rules | `(tactic| walk_at "s") => `(tactic| (repeat (refine Red.red ?_)))
local macro_rules | `(tactic| walk_at "r") => `(tactic| (repeat (first | refine Red.red ?_ | refine Nxt.mk ?_)))
local macro_rules | `(tactic| walk_at "v") => `(tactic| (repeat (first | refine Red.red ?_ | refine Nxt.mk ?_ | refine ⟨Nat.le_of_ble_eq_true rfl, ?_⟩ | refine at_is rfl ?_)))
local macro_rules | `(tactic| walk_at "w") => `(tactic| (repeat (first | refine Red.red ?_ | refine Nxt.mk ?_ | refine wayF rfl ?_ | refine wayT rfl ?_ | refine ⟨Nat.le_of_ble_eq_true rfl, ?_⟩ | refine at_is rfl ?_)))
local macro_rules | `(tactic| walk_at "u") => `(tactic| (repeat (first | refine Red.red ?_ | refine Nxt.mk ?_ | refine ⟨Nat.le_of_ble_eq_true rfl, ?_⟩ | refine at_is rfl ?_ | refine ⟨by decide +kernel, by decide +kernel, wayF (by decide +kernel) ?_⟩ | refine ⟨by decide +kernel, by decide +kernel, wayT (by decide +kernel) ?_⟩ | refine ⟨by decide +kernel, by decide +kernel, ?_⟩ | refine wayF (by decide +kernel) ?_ | refine wayT (by decide +kernel) ?_)))
local instance inNewB8_06 {x : D} {xs : List D} {st : Store} {r : Bool → Prop} : Red (inC x (.ref st.length) (st ++ [.lst xs]) r) (x.flat = true ∧ xs.all D.flat = true ∧ r (xs.any fun y => D.eqb y x)) := ⟨fun h => ⟨xs, .inl (by simp [rdL]), h⟩⟩
local instance inTupN8_06 {x : D} {xs : List D} {st : Store} {r : Bool → Prop} : Red (inC x (.tup xs) st r) (x.flat = true ∧ xs.all D.flat = true ∧ r (xs.any fun y => D.eqb y x)) := ⟨id⟩
local macro_rules | `(tactic| walk_at "z") => `(tactic| (repeat (first | refine Red.red ?_ | refine Nxt.mk ?_ | refine ⟨by decide +kernel, by decide +kernel, wayF (by decide +kernel) ?_⟩ | refine ⟨by decide +kernel, by decide +kernel, wayT (by decide +kernel) ?_⟩ | refine ⟨by decide +kernel, ?_⟩ | refine ⟨Nat.le_of_ble_eq_true rfl, ?_⟩ | refine wayF rfl ?_ | refine wayT rfl ?_ | refine at_is rfl ?_)))
local macro_rules | `(tactic| walk_at "y") => `(tactic| (repeat (first | refine Red.red ?_ | refine ⟨by decide +kernel, by decide +kernel, wayF (by decide +kernel) ?_⟩ | refine ⟨by decide +kernel, by decide +kernel, wayT (by decide +kernel) ?_⟩ | refine ⟨by decide +kernel, ?_⟩ | refine ⟨Nat.le_of_ble_eq_true rfl, ?_⟩ | refine wayF rfl ?_ | refine wayT rfl ?_ | refine at_is rfl ?_)))
/-! k06, text 8. Own work. -/
/-! statements and their tokens -/
def tgD : Option Str → D
  | some s => .str s
  | none => .non
def tgT : Option Str → List Str
  | some s => [s, S' "="]
  | none => []
/-- a statement without blocks -/
inductive PlP : D → List Str → Prop
  | raise {s : Str} (h : Tx 8 s) : PlP (tp [.str (S' "raise"), .str s]) [S' "raise", s, S' ";"]
  | lt {x y : D} {l l' : Nat} {ts us : List Str} (hx : ExP 45 x l ts) (hy : ExP 45 y l' us) : PlP (tp [.str (S' "let"), x, y]) ([S' "let"] ++ ts ++ [S' "="] ++ us ++ [S' ";"])
  | call {t : Option Str} {n : Str} (ps : List (D × List Str)) (ht : ∀ s, t = some s → Tx 8 s) (hn : Tx 8 n) (hp : ∀ p ∈ ps, ∃ l, ExP 45 p.1 l p.2) : PlP (tp [.str (S' "call"), tgD t, .str n, .tup (ps.map (·.1))]) ([S' "call"] ++ tgT t ++ [n, S' "("] ++ comma (ps.map (·.2)) ++ [S' ")", S' ";"])
  | make {a b : Str} (ha : Tx 8 a) (hb : Tx 8 b) : PlP (tp [.str (S' "make"), .str a, .str b]) [S' "make", a, S' "=", b, S' ";"]
  | ret {x : D} {l : Nat} {ts : List Str} (hx : ExP 45 x l ts) : PlP (tp [.str (S' "return"), x]) ([S' "return"] ++ ts ++ [S' ";"])
  | asrt {x : D} {l : Nat} {ts : List Str} (hx : ExP 45 x l ts) : PlP (tp [.str (S' "assert"), x]) ([S' "assert"] ++ ts ++ [S' ";"])
/-- rows of things that have tokens -/
def Rows (P : D → List Str → Prop) (xs : List D) (ts : List Str) : Prop := ∃ ps : List (D × List Str), xs = ps.map (·.1) ∧ ts = (ps.map (·.2)).flatten ∧ ∀ p ∈ ps, P p.1 p.2
def blk (ts : List Str) : List Str := [S' "{"] ++ ts ++ [S' "}"]
def CaP (P : D → List Str → Prop) (x : D) (ts : List Str) : Prop := ∃ (n : Str) (b : List D) (bt : List Str), Tx 8 n ∧ Rows P b bt ∧ x = tp [.str n, .tup b] ∧ ts = [S' "catch", n] ++ blk bt
def BlP (P : D → List Str → Prop) (x : D) (ts : List Str) : Prop :=
  (∃ (e : D) (l : Nat) (et : List Str) (b : List D) (bt : List Str), ExP 45 e l et ∧ Rows P b bt ∧ x = tp [.str (S' "while"), e, .tup b] ∧ ts = [S' "while"] ++ et ++ blk bt) ∨
  (∃ (e : D) (l : Nat) (et : List Str) (b c : List D) (bt ct : List Str), ExP 45 e l et ∧ Rows P b bt ∧ Rows P c ct ∧ x = tp [.str (S' "if"), e, .tup b, .tup c] ∧ ts = [S' "if"] ++ et ++ blk bt ++ (if c = [] then [] else [S' "else"] ++ blk ct)) ∨
  (∃ (b cs : List D) (bt ct : List Str), Rows P b bt ∧ Rows (CaP P) cs ct ∧ x = tp [.str (S' "try"), .tup b, .tup cs] ∧ ts = [S' "try"] ++ blk bt ++ ct)
def StP : Nat → (D → List Str → Prop)
  | 0 => PlP
  | d + 1 => fun x ts => PlP x ts ∨ BlP (StP d) x ts
section
variable {k m n : Nat} {st st' s0 : Store} {Q R : K}
theorem tcat {a b : List Str} {i : Nat} {f : String} {xs : List D} (g0 : Grw s0 st) (T : Tk m f xs b) (ha : rdL st i (a.map D.str)) (hl : a.length + b.length ≤ 8000000) (q : ∀ n st', rdL st' n ((a ++ b).map D.str) → Grw s0 st' → s0.length ≤ n → R (.ref n) st') : callN prog m f xs st fun y st2 => addK (.ref i) y st2 R := by
  refine T _ _ fun n st1 r1 g1 l1 => ?_
  refine cat (g1.rd ha) r1 hl fun r2 => ?_
  exact q _ _ r2 ((g0.trans g1).app) (by have := (g0.trans g1).le; omega)
theorem lcat {a : List Str} {i : Nat} (c : List Str) (g0 : Grw s0 st) (ha : rdL st i (a.map D.str)) (hl : a.length + c.length ≤ 8000000) (q : ∀ n st', rdL st' n ((a ++ c).map D.str) → Grw s0 st' → s0.length ≤ n → R (.ref n) st') : addK (.ref i) (.ref st.length) (st ++ [.lst (c.map D.str)]) R := by
  refine cat (rdL_app ha) rdL_new hl fun r2 => ?_
  exact q _ _ r2 (g0.app.app) (by have := g0.le; simp; omega)
theorem elcat {a : List Str} {i : Nat} (c : List Str) (g0 : Grw s0 st) (hi : s0.length ≤ i) (ha : rdL st i (a.map D.str)) (hl : a.length + c.length ≤ 8000000) (q : ∀ st', rdL st' i ((a ++ c).map D.str) → Grw s0 st' → R .non st') : extendAM (.ref i) [.ref st.length] (st ++ [.lst (c.map D.str)]) R := by
  have h1 := rdL_lt ha
  refine extLL (rdL_app ha) rdL_new (by omega) (by rw [List.length_map, List.length_map]; unfold szl; omega) ?_
  rw [← List.map_append]
  exact q _ (rdL_set (rdL_app ha)) (Grw_setN g0.app hi)
theorem etcat {a b : List Str} {i : Nat} {f : String} {xs : List D} (g0 : Grw s0 st) (hi : s0.length ≤ i) (T : Tk m f xs b) (ha : rdL st i (a.map D.str)) (hl : a.length + b.length ≤ 8000000) (q : ∀ st', rdL st' i ((a ++ b).map D.str) → Grw s0 st' → R .non st') : callN prog m f xs st fun y st2 => extendAM (.ref i) [y] st2 R := by
  have h1 := rdL_lt ha
  refine T _ _ fun n st1 r1 g1 l1 => ?_
  refine extLL (g1.rd ha) r1 (by omega) (by rw [List.length_map, List.length_map]; unfold szl; omega) ?_
  rw [← List.map_append]
  exact q _ (rdL_set (g1.rd ha)) (Grw_setN (g0.trans g1) hi)
theorem aps {a : List Str} {i : Nat} {s : Str} (g0 : Grw s0 st) (hi : s0.length ≤ i) (ha : rdL st i (a.map D.str)) (hl : a.length ≤ 8000000) (q : ∀ st', rdL st' i ((a ++ [s]).map D.str) → Grw s0 st' → R .non st') : appendM (.ref i) [.str s] st R := by
  refine append_at ha (by rw [List.length_map]; unfold szl; omega) ?_
  refine q _ ?_ (Grw_setN g0 hi)
  rw [List.map_append]
  exact rdL_set ha
theorem call_list {ps : List (D × List Str)} (hp : ∀ p ∈ ps, ∃ l, ExP 45 p.1 l p.2) (hm : 95 ≤ m) (hl : (comma (ps.map (·.2))).length ≤ 4000000) : Tk m "listed" [.tup (ps.map (·.1))] (comma (ps.map (·.2))) := by
  refine listed_ok ps (by omega) rfl hl (fun p h => ?_) (fun p h => ?_)
  · obtain ⟨l, h⟩ := hp p h
    exact h.ne
  · obtain ⟨l, e⟩ := hp p h
    refine pex_ok e (m - 1) (by omega) (Nat.le_trans ?_ hl)
    have h1 : p.2 ∈ ps.map (·.2) := List.mem_map.mpr ⟨p, h, rfl⟩
    generalize ps.map (·.2) = r at h1
    cases r with
    | nil => cases h1
    | cons a r =>
      show _ ≤ (a ++ _).length
      rw [List.length_append]
      rcases List.mem_cons.mp h1 with h1 | h1
      · rw [h1]; omega
      · have : p.2.length ≤ (r.flatMap fun u => [S' ","] ++ u).length := by
          obtain ⟨r1, r2, rfl⟩ := List.append_of_mem h1
          rw [List.flatMap_append, List.flatMap_cons, List.length_append, List.length_append, List.length_append]
          omega
        omega
theorem ppl_ok {x : D} {ts : List Str} (h : PlP x ts) (hm : 98 ≤ m) (hl : ts.length ≤ 3000000) : Tk m "statement_tokens" [x] ts := by
  intro st Q q
  obtain ⟨m, rfl⟩ : ∃ n, m = n + 1 := ⟨m - 1, by omega⟩
  cases h with
  | raise h =>
    refine call_intro rfl rfl ?_
    unfold b_p_statement_tokens
    walk_at "z"
    exact q _ _ rdL_new ((Grw.refl st).app) (Nat.le_refl _)
  | make ha hb =>
    refine call_intro rfl rfl ?_
    unfold b_p_statement_tokens
    walk_at "z"
    exact q _ _ rdL_new ((Grw.refl st).app) (Nat.le_refl _)
  | @lt x y l l' ts us hx hy =>
    simp only [List.length_append, List.length_cons, List.length_nil] at hl
    refine call_intro rfl rfl ?_
    unfold b_p_statement_tokens
    walk_at "z"
    refine tcat (a := [S' "let"]) ((Grw.refl st).app) (pex_ok hx m (by omega) (by omega)) rdL_new (by simp; omega) fun n1 st1 r1 g1 l1 => ?_
    walk_at "z"
    refine lcat [S' "="] g1 r1 (by simp; omega) fun n2 st2 r2 g2 l2 => ?_
    walk_at "z"
    refine tcat g2 (pex_ok hy m (by omega) (by omega)) r2 (by simp; omega) fun n3 st3 r3 g3 l3 => ?_
    walk_at "z"
    exact lcat [S' ";"] g3 r3 (by simp; omega) q
  | @ret x l ts hx =>
    simp only [List.length_append, List.length_cons, List.length_nil] at hl
    refine call_intro rfl rfl ?_
    unfold b_p_statement_tokens
    walk_at "z"
    refine tcat (a := [S' "return"]) ((Grw.refl st).app) (pex_ok hx m (by omega) (by omega)) rdL_new (by simp; omega) fun n1 st1 r1 g1 l1 => ?_
    walk_at "z"
    exact lcat [S' ";"] g1 r1 (by simp; omega) q
  | @asrt x l ts hx =>
    simp only [List.length_append, List.length_cons, List.length_nil] at hl
    refine call_intro rfl rfl ?_
    unfold b_p_statement_tokens
    walk_at "z"
    refine tcat (a := [S' "assert"]) ((Grw.refl st).app) (pex_ok hx m (by omega) (by omega)) rdL_new (by simp; omega) fun n1 st1 r1 g1 l1 => ?_
    walk_at "z"
    exact lcat [S' ";"] g1 r1 (by simp; omega) q
  | @call t n ps ht hn hp =>
    simp only [List.length_append, List.length_cons, List.length_nil] at hl
    refine call_intro rfl rfl ?_
    unfold b_p_statement_tokens
    walk_at "z"
    obtain ⟨m, rfl⟩ : ∃ n, m = n + 1 := ⟨m - 1, by omega⟩
    refine call_intro rfl rfl ?_
    unfold b_p_call_tokens
    cases t with
    | none =>
      unfold tgD
      walk_at "z"
      have r0 : rdL (st ++ [C.lst [.str (S' "call")]]) st.length ([S' "call"].map D.str) := rdL_new
      refine lcat [n, S' "("] ((Grw.refl st).app) r0 (by simp) fun n1 st1 r1 g1 l1 => ?_
      walk_at "z"
      refine tcat g1 (call_list hp (by omega) (by omega)) r1 (by simp; omega) fun n2 st2 r2 g2 l2 => ?_
      walk_at "z"
      exact lcat [S' ")", S' ";"] g2 r2 (by simp; omega) q
    | some s =>
      unfold tgD
      walk_at "z"
      have r0 : rdL (st ++ [C.lst [.str (S' "call")]]) st.length ([S' "call"].map D.str) := rdL_new
      refine ⟨ty_at r0, ?_⟩
      have g0 := (Grw.refl st).app (c := C.lst [.str (S' "call")])
      generalize st ++ [C.lst [.str (S' "call")]] = st0 at r0 g0 ⊢
      walk_at "z"
      refine elcat [s, S' "="] g0 (Nat.le_refl _) r0 (by simp) fun st1 r1 g1 => ?_
      walk_at "z"
      refine lcat [n, S' "("] g1 r1 (by simp) fun n1 st1 r1 g1 l1 => ?_
      walk_at "z"
      refine tcat g1 (call_list hp (by omega) (by omega)) r1 (by simp; omega) fun n2 st2 r2 g2 l2 => ?_
      walk_at "z"
      exact lcat [S' ")", S' ";"] g2 r2 (by simp; omega) q
end
end Pk06
end PartPdk06P8

section PartPdk06P9
set_option Elab.async false
set_option linter.all false
set_option maxRecDepth 100000
set_option maxHeartbeats 1000000
namespace Pk06
open PySem Pd
local macro_rules | `(tactic| walk_at "t") => `(tactic| (repeat (first | refine Red.red ?_ | refine Nxt.mk ?_ | refine ⟨by decide +kernel, by decide +kernel, wayF (by decide +kernel) ?_⟩ | refine ⟨by decide +kernel, by decide +kernel, wayT (by decide +kernel) ?_⟩ | refine ⟨by decide +kernel, ?_⟩ | refine ⟨Nat.le_of_ble_eq_true rfl, ?_⟩ | refine at_is rfl ?_)))
local instance notinTup9_06 {x : D} {xs : List D} {st : Store} {r : Bool → Prop} : Red (notinC x (.tup xs) st r) (x.flat = true ∧ xs.all D.flat = true ∧ r (!(xs.any fun y => D.eqb y x))) := ⟨id⟩
local macro_rules | `(tactic| walk_at "s") => `(tactic| (repeat (refine Red.red ?_)))
local macro_rules | `(tactic| walk_at "r") => `(tactic| (repeat (first | refine Red.red ?_ | refine Nxt.mk ?_)))
local macro_rules | `(tactic| walk_at "v") => `(tactic| (repeat (first | refine Red.red ?_ | refine Nxt.mk ?_ | refine ⟨Nat.le_of_ble_eq_true rfl, ?_⟩ | refine at_is rfl ?_)))
local macro_rules | `(tactic| walk_at "w") => `(tactic| (repeat (first | refine Red.red ?_ | refine Nxt.mk ?_ | refine wayF rfl ?_ | refine wayT rfl ?_ | refine ⟨Nat.le_of_ble_eq_true rfl, ?_⟩ | refine at_is rfl ?_)))
local macro_rules | `(tactic| walk_at "u") => `(tactic| (repeat (first | refine Red.red ?_ | refine Nxt.mk ?_ | refine ⟨Nat.le_of_ble_eq_true rfl, ?_⟩ | refine at_is rfl ?_ | refine ⟨by decide +kernel, by decide +kernel, wayF (by decide +kernel) ?_⟩ | refine ⟨by decide +kernel, by decide +kernel, wayT (by decide +kernel) ?_⟩ | refine ⟨by decide +kernel, by decide +kernel, ?_⟩ | refine wayF (by decide +kernel) ?_ | refine wayT (by decide +kernel) ?_)))
local instance inNewB9_06 {x : D} {xs : List D} {st : Store} {r : Bool → Prop} : Red (inC x (.ref st.length) (st ++ [.lst xs]) r) (x.flat = true ∧ xs.all D.flat = true ∧ r (xs.any fun y => D.eqb y x)) := ⟨fun h => ⟨xs, .inl (by simp [rdL]), h⟩⟩
local instance inTupN9_06 {x : D} {xs : List D} {st : Store} {r : Bool → Prop} : Red (inC x (.tup xs) st r) (x.flat = true ∧ xs.all D.flat = true ∧ r (xs.any fun y => D.eqb y x)) := ⟨id⟩
local macro_rules | `(tactic| walk_at "z") => `(tactic| (repeat (first | refine Red.red ?_ | refine Nxt.mk ?_ | refine ⟨by decide +kernel, by decide +kernel, wayF (by decide +kernel) ?_⟩ | refine ⟨by decide +kernel, by decide +kernel, wayT (by decide +kernel) ?_⟩ | refine ⟨by decide +kernel, ?_⟩ | refine ⟨Nat.le_of_ble_eq_true rfl, ?_⟩ | refine wayF rfl ?_ | refine wayT rfl ?_ | refine at_is rfl ?_)))
local macro_rules | `(tactic| walk_at "y") => `(tactic| (repeat (first | refine Red.red ?_ | refine ⟨by decide +kernel, by decide +kernel, wayF (by decide +kernel) ?_⟩ | refine ⟨by decide +kernel, by decide +kernel, wayT (by decide +kernel) ?_⟩ | refine ⟨by decide +kernel, ?_⟩ | refine ⟨Nat.le_of_ble_eq_true rfl, ?_⟩ | refine wayF rfl ?_ | refine wayT rfl ?_ | refine at_is rfl ?_)))
/-! k06, text 9. Own work. -/
section
variable {k m n : Nat} {st st' s0 : Store} {Q R : K}
theorem flat_take {ps : List (D × List Str)} {j : Nat} {p : D × List Str} (hj : ps[j]? = some p) : ((ps.take (j + 1)).map (·.2)).flatten = ((ps.take j).map (·.2)).flatten ++ p.2 := by
  rw [List.take_add_one, hj, List.map_append, List.flatten_append]
  simp
theorem flat_le (ps : List (D × List Str)) (j : Nat) : ((ps.take j).map (·.2)).flatten.length ≤ (ps.map (·.2)).flatten.length := by
  conv => rhs; rw [← List.take_append_drop j ps, List.map_append, List.flatten_append, List.length_append]
  omega
theorem flat_mem {ps : List (D × List Str)} {p : D × List Str} (h : p ∈ ps) : p.2.length ≤ (ps.map (·.2)).flatten.length := by
  obtain ⟨a, b, rfl⟩ := List.append_of_mem h
  rw [List.map_append, List.flatten_append, List.length_append, List.map_cons, List.flatten_cons, List.length_append]
  omega
theorem ext_rows {f : String} {D0 : Ends} {o2 : Option D} {a : List Str} {i : Nat} (ps : List (D × List Str)) (g0 : Grw s0 st) (hi : s0.length ≤ i) (hT : ∀ p ∈ ps, Tk m f [p.1] p.2) (ha : rdL st i (a.map D.str)) (hl : a.length + (ps.map (·.2)).flatten.length ≤ 8000000) (q : ∀ o2 st', rdL st' i ((a ++ (ps.map (·.2)).flatten).map D.str) → Grw s0 st' → D0.nx [some (.tup (ps.map (·.1))), some (.ref i), o2] st') :
    sFor (iSeq (dVar 0)) (gName 2) (sExpr (dM tyLst extendAM (dVar 1) (aCons (dCall (callN prog m) f (aCons (dVar 2) (aNil))) (aNil)))) D0 [some (.tup (ps.map (·.1))), some (.ref i), o2] st := by
  walk_at "s"
  refine for_map ps (·.1) rfl (fun j σ st' => ∃ o2, σ = [some (.tup (ps.map (·.1))), some (.ref i), o2] ∧ rdL st' i ((a ++ ((ps.take j).map (·.2)).flatten).map D.str) ∧ Grw s0 st') ⟨_, rfl, by simpa using ha, g0⟩ (fun j p σ st1 hj ⟨o2, e, r1, g1⟩ N hN => ?_) (fun σ st1 ⟨o2, e, r1, g1⟩ => ?_)
  · subst e
    refine ⟨trivial, ?_⟩
    have hb := flat_le ps (j + 1)
    rw [flat_take hj] at hb hN
    rw [List.length_append] at hb
    walk_at "s"
    refine ⟨ty_at r1, ?_⟩
    walk_at "s"
    refine etcat g1 hi (hT p (List.mem_of_getElem? hj)) r1 (by rw [List.length_append]; omega) fun st2 r2 g2 => ?_
    rw [List.append_assoc] at r2
    exact hN _ _ ⟨_, rfl, r2, g2⟩
  · subst e
    refine ⟨trivial, ?_⟩
    rw [List.take_length] at r1
    exact q _ _ r1 g1
theorem body_ok {P : D → List Str → Prop} {b : List D} {bt : List Str} (h : Rows P b bt) (hm : 1 ≤ m) (hl : bt.length ≤ 3000000) (hP : ∀ x ts, P x ts → ts.length ≤ 3000000 → Tk (m - 1) "statement_tokens" [x] ts) : Tk m "body_tokens" [.tup b] bt := by
  intro st Q q
  obtain ⟨ps, rfl, rfl, hp⟩ := h
  obtain ⟨m, rfl⟩ : ∃ n, m = n + 1 := ⟨m - 1, by omega⟩
  refine call_intro rfl rfl ?_
  unfold b_p_body_tokens
  walk_at "s"
  refine ⟨Nat.le_of_ble_eq_true rfl, ?_⟩
  walk_at "s"
  refine Nxt.mk ?_
  refine Red.red ?_
  refine ext_rows (a := []) ps ((Grw.refl st).app) (Nat.le_refl _) (fun p h => hP _ _ (hp p h) (by have := flat_mem h; omega)) rdL_new (by show 0 + _ ≤ _; omega) fun o2 st1 r1 g1 => ?_
  refine Nxt.mk ?_
  walk_at "s"
  exact q _ _ r1 g1 (Nat.le_refl _)
theorem block_ok {P : D → List Str → Prop} {b : List D} {bt : List Str} (h : Rows P b bt) (hm : 2 ≤ m) (hl : bt.length ≤ 3000000) (hP : ∀ x ts, P x ts → ts.length ≤ 3000000 → Tk (m - 2) "statement_tokens" [x] ts) : Tk m "block_tokens" [.tup b] (blk bt) := by
  intro st Q q
  obtain ⟨m, rfl⟩ : ∃ n, m = n + 1 := ⟨m - 1, by omega⟩
  refine call_intro rfl rfl ?_
  unfold b_p_block_tokens
  walk_at "z"
  refine tcat (a := [S' "{"]) ((Grw.refl st).app) (body_ok h (by omega) hl hP) rdL_new (by simp; omega) fun n1 st1 r1 g1 l1 => ?_
  walk_at "z"
  exact lcat [S' "}"] g1 r1 (by simp; omega) q
theorem blk_len {ts : List Str} : (blk ts).length = ts.length + 2 := by unfold blk; simp
theorem pst_ok : ∀ (d : Nat) {x : D} {ts : List Str}, StP d x ts → ∀ {m : Nat}, 98 + 3 * d ≤ m → ts.length ≤ 3000000 → Tk m "statement_tokens" [x] ts
  | 0, _, _, h, m, hm, hl => ppl_ok h (by omega) hl
  | d + 1, x, ts, h, m, hm, hl => by
    have hP : ∀ x ts, StP d x ts → ts.length ≤ 3000000 → Tk (m - 3) "statement_tokens" [x] ts := fun x ts h hl => pst_ok d h (by omega) hl
    rcases h with h | h | h | h
    · exact ppl_ok h (by omega) hl
    · obtain ⟨e, l, et, b, bt, he, hb, rfl, rfl⟩ := h
      simp only [List.length_append, blk_len, List.length_cons, List.length_nil] at hl
      intro st Q q
      obtain ⟨m, rfl⟩ : ∃ n, m = n + 1 := ⟨m - 1, by omega⟩
      refine call_intro rfl rfl ?_
      unfold b_p_statement_tokens
      walk_at "z"
      refine tcat (a := [S' "while"]) ((Grw.refl st).app) (pex_ok he m (by omega) (by omega)) rdL_new (by simp; omega) fun n1 st1 r1 g1 l1 => ?_
      walk_at "z"
      exact tcat g1 (block_ok hb (by omega) (by omega) hP) r1 (by simp [blk_len]; omega) q
    · obtain ⟨e, l, et, b, c, bt, ct, he, hb, hc, rfl, rfl⟩ := h
      simp only [List.length_append, blk_len, List.length_cons, List.length_nil] at hl
      intro st Q q
      obtain ⟨m, rfl⟩ : ∃ n, m = n + 1 := ⟨m - 1, by omega⟩
      refine call_intro rfl rfl ?_
      unfold b_p_statement_tokens
      walk_at "z"
      refine tcat (a := [S' "if"]) ((Grw.refl st).app) (pex_ok he m (by omega) (by omega)) rdL_new (by simp; omega) fun n1 st1 r1 g1 l1 => ?_
      walk_at "z"
      refine tcat g1 (block_ok hb (by omega) (by omega) hP) r1 (by simp [blk_len]; omega) fun n2 st2 r2 g2 l2 => ?_
      walk_at "z"
      refine way (fun e1 => ?_) (fun e1 => ?_)
      · have hc0 : c ≠ [] := fun e => by rw [e] at e1; cases e1
        rw [if_neg hc0] at hl q
        simp only [List.length_append, blk_len, List.length_cons, List.length_nil] at hl
        walk_at "z"
        refine lcat [S' "else"] g2 r2 (by simp [blk_len]; omega) fun n3 st3 r3 g3 l3 => ?_
        walk_at "z"
        refine tcat g3 (block_ok hc (by omega) (by omega) hP) r3 (by simp [blk_len]; omega) fun n4 st4 r4 g4 l4 => ?_
        refine q n4 st4 ?_ g4 l4
        simpa using r4
      · have hc0 : c = [] := by
          cases c with
          | nil => rfl
          | cons a c => cases e1
        rw [if_pos hc0, List.append_nil] at q
        walk_at "z"
        exact q n2 st2 r2 g2 l2
    · obtain ⟨b, cs, bt, ct, hb, ⟨ps, rfl, rfl, hps⟩, rfl, rfl⟩ := h
      simp only [List.length_append, blk_len, List.length_cons, List.length_nil] at hl
      intro st Q q
      obtain ⟨m, rfl⟩ : ∃ n, m = n + 1 := ⟨m - 1, by omega⟩
      refine call_intro rfl rfl ?_
      unfold b_p_statement_tokens
      walk_at "z"
      refine tcat (a := [S' "try"]) ((Grw.refl st).app) (block_ok hb (by omega) (by omega) hP) rdL_new (by simp [blk_len]; omega) fun n1 st1 r1 g1 l1 => ?_
      walk_at "z"
      refine for_map ps (·.1) rfl (fun j σ st' => ∃ o3 o4, σ = [some (tp [.str (S' "try"), .tup b, .tup (ps.map (·.1))]), some (.str (S' "try")), some (.ref n1), o3, o4] ∧ rdL st' n1 (([S' "try"] ++ blk bt ++ ((ps.take j).map (·.2)).flatten).map D.str) ∧ Grw st st') ⟨_, _, rfl, by simpa using r1, g1⟩ (fun j p σ st2 hj ⟨o3, o4, e, r2, g2⟩ N hN => ?_) (fun σ st2 ⟨o3, o4, e, r2, g2⟩ => ?_)
      · subst e
        refine ⟨trivial, ?_⟩
        have hb1 := flat_le ps (j + 1)
        rw [flat_take hj] at hb1 hN
        rw [List.length_append] at hb1
        obtain ⟨nm, b2, bt2, hn, hb2, e1, e2⟩ := hps p (List.mem_of_getElem? hj)
        rw [e1]
        rw [e2] at hb1 hN
        simp only [List.length_append, blk_len, List.length_cons, List.length_nil] at hb1
        walk_at "s"
        refine ⟨rfl, ?_⟩
        walk_at "s"
        refine ⟨ty_at r2, ?_⟩
        walk_at "z"
        refine tcat (s0 := st2) (a := [S' "catch", nm]) ((Grw.refl st2).app) (block_ok hb2 (by omega) (by omega) hP) rdL_new (by simp [blk_len]; omega) fun n3 st3 r3 g3 l3 => ?_
        have hlt := rdL_lt r2
        walk_at "s"
        refine extLL (g3.rd r2) r3 (by omega) (by simp only [List.length_map, List.length_append, blk_len, List.length_cons, List.length_nil]; unfold szl; omega) ?_
        rw [← List.map_append, List.append_assoc ([S' "try"] ++ blk bt)]
        exact hN _ _ ⟨_, _, rfl, rdL_set (g3.rd r2), Grw_setN (g2.trans g3) l1⟩
      · subst e
        refine ⟨trivial, ?_⟩
        rw [List.take_length] at r2
        walk_at "z"
        exact q _ _ r2 g2 l1
end
end Pk06
end PartPdk06P9

section PartPdk06P10
set_option Elab.async false
set_option linter.all false
set_option maxRecDepth 100000
set_option maxHeartbeats 1000000
namespace Pk06
open PySem Pd
local macro_rules | `(tactic| walk_at "t") => `(tactic| (repeat (first | refine Red.red ?_ | refine Nxt.mk ?_ | refine ⟨by decide +kernel, by decide +kernel, wayF (by decide +kernel) ?_⟩ | refine ⟨by decide +kernel, by decide +kernel, wayT (by decide +kernel) ?_⟩ | refine ⟨by decide +kernel, ?_⟩ | refine ⟨Nat.le_of_ble_eq_true rfl, ?_⟩ | refine at_is rfl ?_)))
local instance notinTup10_06 {x : D} {xs : List D} {st : Store} {r : Bool → Prop} : Red (notinC x (.tup xs) st r) (x.flat = true ∧ xs.all D.flat = true ∧ r (!(xs.any fun y => D.eqb y x))) := ⟨id⟩
local macro_rules | `(tactic| walk_at "s") => `(tactic| (repeat (refine Red.red ?_)))
local macro_rules | `(tactic| walk_at "r") => `(tactic| (repeat (first | refine Red.red ?_ | refine Nxt.mk ?_)))
local macro_rules | `(tactic| walk_at "v") => `(tactic| (repeat (first | refine Red.red ?_ | refine Nxt.mk ?_ | refine ⟨Nat.le_of_ble_eq_true rfl, ?_⟩ | refine at_is rfl ?_)))
local macro_rules | `(tactic| walk_at "w") => `(tactic| (repeat (first | refine Red.red ?_ | refine Nxt.mk ?_ | refine wayF rfl ?_ | refine wayT rfl ?_ | refine ⟨Nat.le_of_ble_eq_true rfl, ?_⟩ | refine at_is rfl ?_)))
local macro_rules | `(tactic| walk_at "u") => `(tactic| (repeat (first | refine Red.red ?_ | refine Nxt.mk ?_ | refine ⟨Nat.le_of_ble_eq_true rfl, ?_⟩ | refine at_is rfl ?_ | refine ⟨by decide +kernel, by decide +kernel, wayF (by decide +kernel) ?_⟩ | refine ⟨by decide +kernel, by decide +kernel, wayT (by decide +kernel) ?_⟩ | refine ⟨by decide +kernel, by decide +kernel, ?_⟩ | refine wayF (by decide +kernel) ?_ | refine wayT (by decide +kernel) ?_)))
local instance inNewB10_06 {x : D} {xs : List D} {st : Store} {r : Bool → Prop} : Red (inC x (.ref st.length) (st ++ [.lst xs]) r) (x.flat = true ∧ xs.all D.flat = true ∧ r (xs.any fun y => D.eqb y x)) := ⟨fun h => ⟨xs, .inl (by simp [rdL]), h⟩⟩
local instance inTupN10_06 {x : D} {xs : List D} {st : Store} {r : Bool → Prop} : Red (inC x (.tup xs) st r) (x.flat = true ∧ xs.all D.flat = true ∧ r (xs.any fun y => D.eqb y x)) := ⟨id⟩
local macro_rules | `(tactic| walk_at "z") => `(tactic| (repeat (first | refine Red.red ?_ | refine Nxt.mk ?_ | refine ⟨by decide +kernel, by decide +kernel, wayF (by decide +kernel) ?_⟩ | refine ⟨by decide +kernel, by decide +kernel, wayT (by decide +kernel) ?_⟩ | refine ⟨by decide +kernel, ?_⟩ | refine ⟨Nat.le_of_ble_eq_true rfl, ?_⟩ | refine wayF rfl ?_ | refine wayT rfl ?_ | refine at_is rfl ?_)))
local macro_rules | `(tactic| walk_at "y") => `(tactic| (repeat (first | refine Red.red ?_ | refine ⟨by decide +kernel, by decide +kernel, wayF (by decide +kernel) ?_⟩ | refine ⟨by decide +kernel, by decide +kernel, wayT (by decide +kernel) ?_⟩ | refine ⟨by decide +kernel, ?_⟩ | refine ⟨Nat.le_of_ble_eq_true rfl, ?_⟩ | refine wayF rfl ?_ | refine wayT rfl ?_ | refine at_is rfl ?_)))
/-! k06, text 10. Own work. -/
section
variable {k m n : Nat} {st st' s0 : Store} {Q R : K}
theorem llist {ps : List (D × List Str)} (hp : ∀ p ∈ ps, ∃ l, ExP 45 p.1 l p.2) (hm : 95 ≤ m) (hl : (comma (ps.map (·.2))).length ≤ 4000000) : Tk m "_law_listed" [.tup (ps.map (·.1))] (comma (ps.map (·.2))) := by
  refine llisted_ok ps (by omega) rfl hl (fun p h => ?_) (fun p h => ?_)
  · obtain ⟨l, h⟩ := hp p h
    exact h.ne
  · obtain ⟨l, e⟩ := hp p h
    refine lex_ok e (m - 1) (by omega) (Nat.le_trans ?_ hl)
    have h1 : p.2 ∈ ps.map (·.2) := List.mem_map.mpr ⟨p, h, rfl⟩
    generalize ps.map (·.2) = r at h1
    cases r with
    | nil => cases h1
    | cons a r =>
      show _ ≤ (a ++ _).length
      rw [List.length_append]
      rcases List.mem_cons.mp h1 with h1 | h1
      · rw [h1]; omega
      · have : p.2.length ≤ (r.flatMap fun u => [S' ","] ++ u).length := by
          obtain ⟨r1, r2, rfl⟩ := List.append_of_mem h1
          rw [List.flatMap_append, List.flatMap_cons, List.length_append, List.length_append, List.length_append]
          omega
        omega
/-- a list behind a list -/
theorem rcat {a b : List Str} {i j : Nat} (g0 : Grw s0 st) (ha : rdL st i (a.map D.str)) (hb : rdL st j (b.map D.str)) (hl : a.length + b.length ≤ 8000000) (q : ∀ n st', rdL st' n ((a ++ b).map D.str) → Grw s0 st' → s0.length ≤ n → R (.ref n) st') : addK (.ref i) (.ref j) st R := by
  refine cat ha hb hl fun r2 => ?_
  exact q _ _ r2 (g0.app) (by have := g0.le; omega)
theorem lpl_ok {x : D} {ts : List Str} (h : PlP x ts) (hm : 98 ≤ m) (hl : ts.length ≤ 3000000) : Tk m "_law_statement_tokens" [x] ts := by
  intro st Q q
  obtain ⟨m, rfl⟩ : ∃ n, m = n + 1 := ⟨m - 1, by omega⟩
  cases h with
  | raise h =>
    refine call_intro rfl rfl ?_
    unfold b_l_statement_tokens
    walk_at "z"
    exact q _ _ rdL_new ((Grw.refl st).app) (Nat.le_refl _)
  | make ha hb =>
    refine call_intro rfl rfl ?_
    unfold b_l_statement_tokens
    walk_at "z"
    exact q _ _ rdL_new ((Grw.refl st).app) (Nat.le_refl _)
  | @lt x y l l' ts us hx hy =>
    simp only [List.length_append, List.length_cons, List.length_nil] at hl
    refine call_intro rfl rfl ?_
    unfold b_l_statement_tokens
    walk_at "z"
    refine tcat (a := [S' "let"]) ((Grw.refl st).app) (lex_ok hx m (by omega) (by omega)) rdL_new (by simp; omega) fun n1 st1 r1 g1 l1 => ?_
    walk_at "z"
    refine lcat [S' "="] g1 r1 (by simp; omega) fun n2 st2 r2 g2 l2 => ?_
    walk_at "z"
    refine tcat g2 (lex_ok hy m (by omega) (by omega)) r2 (by simp; omega) fun n3 st3 r3 g3 l3 => ?_
    walk_at "z"
    exact lcat [S' ";"] g3 r3 (by simp; omega) q
  | @ret x l ts hx =>
    simp only [List.length_append, List.length_cons, List.length_nil] at hl
    refine call_intro rfl rfl ?_
    unfold b_l_statement_tokens
    walk_at "z"
    refine tcat (a := [S' "return"]) ((Grw.refl st).app) (lex_ok hx m (by omega) (by omega)) rdL_new (by simp; omega) fun n1 st1 r1 g1 l1 => ?_
    walk_at "z"
    exact lcat [S' ";"] g1 r1 (by simp; omega) q
  | @asrt x l ts hx =>
    simp only [List.length_append, List.length_cons, List.length_nil] at hl
    refine call_intro rfl rfl ?_
    unfold b_l_statement_tokens
    walk_at "z"
    refine tcat (a := [S' "assert"]) ((Grw.refl st).app) (lex_ok hx m (by omega) (by omega)) rdL_new (by simp; omega) fun n1 st1 r1 g1 l1 => ?_
    walk_at "z"
    exact lcat [S' ";"] g1 r1 (by simp; omega) q
  | @call t n ps ht hn hp =>
    simp only [List.length_append, List.length_cons, List.length_nil] at hl
    refine call_intro rfl rfl ?_
    unfold b_l_statement_tokens
    cases t with
    | none =>
      unfold tgD
      walk_at "z"
      have r0 : rdL (st ++ [C.lst []]) st.length ([].map D.str) := rdL_new
      have g0 := (Grw.refl st).app (c := C.lst [])
      generalize st ++ [C.lst []] = st0 at r0 g0 ⊢
      generalize st.length = t0 at r0 ⊢
      refine rcat (a := [S' "call"]) (b := []) (g0.app) rdL_new (rdL_app r0) (by simp) fun n1 st1 r1 g1 l1 => ?_
      walk_at "z"
      refine lcat [n, S' "("] g1 r1 (by simp) fun n2 st2 r2 g2 l2 => ?_
      walk_at "z"
      refine tcat g2 (llist hp (by omega) (by omega)) r2 (by simp; omega) fun n3 st3 r3 g3 l3 => ?_
      walk_at "z"
      exact lcat [S' ")", S' ";"] g3 r3 (by simp; omega) q
    | some s =>
      unfold tgD
      walk_at "z"
      have r0 : rdL (st ++ [C.lst [.str s, .str (S' "=")]]) st.length ([s, S' "="].map D.str) := rdL_new
      have g0 := (Grw.refl st).app (c := C.lst [.str s, .str (S' "=")])
      generalize st ++ [C.lst [.str s, .str (S' "=")]] = st0 at r0 g0 ⊢
      generalize st.length = t0 at r0 ⊢
      refine rcat (a := [S' "call"]) (b := [s, S' "="]) (g0.app) rdL_new (rdL_app r0) (by simp) fun n1 st1 r1 g1 l1 => ?_
      walk_at "z"
      refine lcat [n, S' "("] g1 r1 (by simp) fun n2 st2 r2 g2 l2 => ?_
      walk_at "z"
      refine tcat g2 (llist hp (by omega) (by omega)) r2 (by simp; omega) fun n3 st3 r3 g3 l3 => ?_
      walk_at "z"
      exact lcat [S' ")", S' ";"] g3 r3 (by simp; omega) q
theorem lblock_ok {P : D → List Str → Prop} {b : List D} {bt : List Str} (h : Rows P b bt) (hm : 1 ≤ m) (hl : bt.length ≤ 3000000) (hP : ∀ x ts, P x ts → ts.length ≤ 3000000 → Tk (m - 1) "_law_statement_tokens" [x] ts) : Tk m "_law_block_tokens" [.tup b] (blk bt) := by
  intro st Q q
  obtain ⟨ps, rfl, rfl, hp⟩ := h
  obtain ⟨m, rfl⟩ : ∃ n, m = n + 1 := ⟨m - 1, by omega⟩
  refine call_intro rfl rfl ?_
  unfold b_l_block_tokens
  walk_at "s"
  refine ⟨Nat.le_of_ble_eq_true rfl, ?_⟩
  walk_at "s"
  refine Nxt.mk ?_
  refine Red.red ?_
  refine ext_rows (a := [S' "{"]) ps ((Grw.refl st).app) (Nat.le_refl _) (fun p h => hP _ _ (hp p h) (by have := flat_mem h; omega)) rdL_new (by show 1 + _ ≤ _; omega) fun o2 st1 r1 g1 => ?_
  refine Nxt.mk ?_
  walk_at "z"
  exact lcat [S' "}"] g1 r1 (by simp only [List.length_append, List.length_cons, List.length_nil]; omega) q
theorem lst_ok : ∀ (d : Nat) {x : D} {ts : List Str}, StP d x ts → ∀ {m : Nat}, 98 + 3 * d ≤ m → ts.length ≤ 3000000 → Tk m "_law_statement_tokens" [x] ts
  | 0, _, _, h, m, hm, hl => lpl_ok h (by omega) hl
  | d + 1, x, ts, h, m, hm, hl => by
    have hP : ∀ x ts, StP d x ts → ts.length ≤ 3000000 → Tk (m - 2) "_law_statement_tokens" [x] ts := fun x ts h hl => lst_ok d h (by omega) hl
    rcases h with h | h | h | h
    · exact lpl_ok h (by omega) hl
    · obtain ⟨e, l, et, b, bt, he, hb, rfl, rfl⟩ := h
      simp only [List.length_append, blk_len, List.length_cons, List.length_nil] at hl
      intro st Q q
      obtain ⟨m, rfl⟩ : ∃ n, m = n + 1 := ⟨m - 1, by omega⟩
      refine call_intro rfl rfl ?_
      unfold b_l_statement_tokens
      walk_at "z"
      refine tcat (a := [S' "while"]) ((Grw.refl st).app) (lex_ok he m (by omega) (by omega)) rdL_new (by simp; omega) fun n1 st1 r1 g1 l1 => ?_
      walk_at "z"
      exact tcat g1 (lblock_ok hb (by omega) (by omega) hP) r1 (by simp [blk_len]; omega) q
    · obtain ⟨e, l, et, b, c, bt, ct, he, hb, hc, rfl, rfl⟩ := h
      simp only [List.length_append, blk_len, List.length_cons, List.length_nil] at hl
      intro st Q q
      obtain ⟨m, rfl⟩ : ∃ n, m = n + 1 := ⟨m - 1, by omega⟩
      refine call_intro rfl rfl ?_
      unfold b_l_statement_tokens
      walk_at "z"
      refine way (fun e1 => ?_) (fun e1 => ?_)
      · have hc0 : c ≠ [] := fun e => by rw [e] at e1; cases e1
        rw [if_neg hc0] at hl q
        simp only [List.length_append, blk_len, List.length_cons, List.length_nil] at hl
        walk_at "z"
        refine tcat (a := [S' "else"]) ((Grw.refl st).app) (lblock_ok hc (by omega) (by omega) hP) rdL_new (by simp [blk_len]; omega) fun n0 st0 r0 g0 l0 => ?_
        walk_at "z"
        refine tcat (s0 := st0) (a := [S' "if"]) ((Grw.refl st0).app) (lex_ok he m (by omega) (by omega)) rdL_new (by simp; omega) fun n1 st1 r1 g1 l1 => ?_
        walk_at "z"
        refine tcat (s0 := st0) g1 (lblock_ok hb (by omega) (by omega) hP) r1 (by simp [blk_len]; omega) fun n2 st2 r2 g2 l2 => ?_
        walk_at "z"
        exact rcat (s0 := st0) g2 r2 (g2.rd r0) (by simp [blk_len]; omega) fun n3 st3 r3 g3 l3 => q n3 st3 r3 (g0.trans g3) (by have := g0.le; omega)
      · have hc0 : c = [] := by
          cases c with
          | nil => rfl
          | cons a c => cases e1
        rw [if_pos hc0] at q
        walk_at "z"
        have r0 : rdL (st ++ [C.lst []]) st.length (([] : List Str).map D.str) := rdL_new
        have g0 := (Grw.refl st).app (c := C.lst [])
        generalize st ++ [C.lst []] = st0 at r0 g0 ⊢
        have ll : st.length ≤ st.length := Nat.le_refl _
        generalize hn0 : st.length = n0 at r0 ⊢
        refine tcat (s0 := st0) (a := [S' "if"]) ((Grw.refl st0).app) (lex_ok he m (by omega) (by omega)) rdL_new (by simp; omega) fun n1 st1 r1 g1 l1 => ?_
        walk_at "z"
        refine tcat (s0 := st0) g1 (lblock_ok hb (by omega) (by omega) hP) r1 (by simp [blk_len]; omega) fun n2 st2 r2 g2 l2 => ?_
        walk_at "z"
        exact rcat (s0 := st0) g2 r2 (g2.rd r0) (by simp [blk_len]; omega) fun n3 st3 r3 g3 l3 => q n3 st3 r3 (g0.trans g3) (by have := g0.le; omega)
    · obtain ⟨b, cs, bt, ct, hb, ⟨ps, rfl, rfl, hps⟩, rfl, rfl⟩ := h
      simp only [List.length_append, blk_len, List.length_cons, List.length_nil] at hl
      intro st Q q
      obtain ⟨m, rfl⟩ : ∃ n, m = n + 1 := ⟨m - 1, by omega⟩
      refine call_intro rfl rfl ?_
      unfold b_l_statement_tokens
      walk_at "z"
      refine tcat (a := [S' "try"]) ((Grw.refl st).app) (lblock_ok hb (by omega) (by omega) hP) rdL_new (by simp [blk_len]; omega) fun n1 st1 r1 g1 l1 => ?_
      walk_at "z"
      refine for_map ps (·.1) rfl (fun j σ st' => ∃ o3 o4, σ = [some (tp [.str (S' "try"), .tup b, .tup (ps.map (·.1))]), some (.str (S' "try")), none, none, some (.ref n1), o3, o4] ∧ rdL st' n1 (([S' "try"] ++ blk bt ++ ((ps.take j).map (·.2)).flatten).map D.str) ∧ Grw st st') ⟨_, _, rfl, by simpa using r1, g1⟩ (fun j p σ st2 hj ⟨o3, o4, e, r2, g2⟩ N hN => ?_) (fun σ st2 ⟨o3, o4, e, r2, g2⟩ => ?_)
      · subst e
        refine ⟨trivial, ?_⟩
        have hb1 := flat_le ps (j + 1)
        rw [flat_take hj] at hb1 hN
        rw [List.length_append] at hb1
        obtain ⟨nm, b2, bt2, hn, hb2, e1, e2⟩ := hps p (List.mem_of_getElem? hj)
        rw [e1]
        rw [e2] at hb1 hN
        simp only [List.length_append, blk_len, List.length_cons, List.length_nil] at hb1
        walk_at "s"
        refine ⟨rfl, ?_⟩
        walk_at "s"
        refine ⟨ty_at r2, ?_⟩
        walk_at "z"
        refine tcat (s0 := st2) (a := [S' "catch", nm]) ((Grw.refl st2).app) (lblock_ok hb2 (by omega) (by omega) hP) rdL_new (by simp [blk_len]; omega) fun n3 st3 r3 g3 l3 => ?_
        have hlt := rdL_lt r2
        walk_at "s"
        refine extLL (g3.rd r2) r3 (by omega) (by simp only [List.length_map, List.length_append, blk_len, List.length_cons, List.length_nil]; unfold szl; omega) ?_
        rw [← List.map_append, List.append_assoc ([S' "try"] ++ blk bt)]
        exact hN _ _ ⟨_, _, rfl, rdL_set (g3.rd r2), Grw_setN (g2.trans g3) l1⟩
      · subst e
        refine ⟨trivial, ?_⟩
        rw [List.take_length] at r2
        walk_at "z"
        exact q _ _ r2 g2 l1
end
end Pk06
end PartPdk06P10

section PartPdk06P11
set_option Elab.async false
set_option linter.all false
set_option maxRecDepth 100000
set_option maxHeartbeats 1000000
namespace Pk06
open PySem Pd
local macro_rules | `(tactic| walk_at "t") => `(tactic| (repeat (first | refine Red.red ?_ | refine Nxt.mk ?_ | refine ⟨by decide +kernel, by decide +kernel, wayF (by decide +kernel) ?_⟩ | refine ⟨by decide +kernel, by decide +kernel, wayT (by decide +kernel) ?_⟩ | refine ⟨by decide +kernel, ?_⟩ | refine ⟨Nat.le_of_ble_eq_true rfl, ?_⟩ | refine at_is rfl ?_)))
local instance notinTup11_06 {x : D} {xs : List D} {st : Store} {r : Bool → Prop} : Red (notinC x (.tup xs) st r) (x.flat = true ∧ xs.all D.flat = true ∧ r (!(xs.any fun y => D.eqb y x))) := ⟨id⟩
local macro_rules | `(tactic| walk_at "s") => `(tactic| (repeat (refine Red.red ?_)))
local macro_rules | `(tactic| walk_at "r") => `(tactic| (repeat (first | refine Red.red ?_ | refine Nxt.mk ?_)))
local macro_rules | `(tactic| walk_at "v") => `(tactic| (repeat (first | refine Red.red ?_ | refine Nxt.mk ?_ | refine ⟨Nat.le_of_ble_eq_true rfl, ?_⟩ | refine at_is rfl ?_)))
local macro_rules | `(tactic| walk_at "w") => `(tactic| (repeat (first | refine Red.red ?_ | refine Nxt.mk ?_ | refine wayF rfl ?_ | refine wayT rfl ?_ | refine ⟨Nat.le_of_ble_eq_true rfl, ?_⟩ | refine at_is rfl ?_)))
local macro_rules | `(tactic| walk_at "u") => `(tactic| (repeat (first | refine Red.red ?_ | refine Nxt.mk ?_ | refine ⟨Nat.le_of_ble_eq_true rfl, ?_⟩ | refine at_is rfl ?_ | refine ⟨by decide +kernel, by decide +kernel, wayF (by decide +kernel) ?_⟩ | refine ⟨by decide +kernel, by decide +kernel, wayT (by decide +kernel) ?_⟩ | refine ⟨by decide +kernel, by decide +kernel, ?_⟩ | refine wayF (by decide +kernel) ?_ | refine wayT (by decide +kernel) ?_)))
local instance inNewB11_06 {x : D} {xs : List D} {st : Store} {r : Bool → Prop} : Red (inC x (.ref st.length) (st ++ [.lst xs]) r) (x.flat = true ∧ xs.all D.flat = true ∧ r (xs.any fun y => D.eqb y x)) := ⟨fun h => ⟨xs, .inl (by simp [rdL]), h⟩⟩
local instance inTupN11_06 {x : D} {xs : List D} {st : Store} {r : Bool → Prop} : Red (inC x (.tup xs) st r) (x.flat = true ∧ xs.all D.flat = true ∧ r (xs.any fun y => D.eqb y x)) := ⟨id⟩
local macro_rules | `(tactic| walk_at "z") => `(tactic| (repeat (first | refine Red.red ?_ | refine Nxt.mk ?_ | refine ⟨by decide +kernel, by decide +kernel, wayF (by decide +kernel) ?_⟩ | refine ⟨by decide +kernel, by decide +kernel, wayT (by decide +kernel) ?_⟩ | refine ⟨by decide +kernel, ?_⟩ | refine ⟨Nat.le_of_ble_eq_true rfl, ?_⟩ | refine wayF rfl ?_ | refine wayT rfl ?_ | refine at_is rfl ?_)))
local macro_rules | `(tactic| walk_at "y") => `(tactic| (repeat (first | refine Red.red ?_ | refine ⟨by decide +kernel, by decide +kernel, wayF (by decide +kernel) ?_⟩ | refine ⟨by decide +kernel, by decide +kernel, wayT (by decide +kernel) ?_⟩ | refine ⟨by decide +kernel, ?_⟩ | refine ⟨Nat.le_of_ble_eq_true rfl, ?_⟩ | refine wayF rfl ?_ | refine wayT rfl ?_ | refine at_is rfl ?_)))
/-! k06, text 11. Own work. -/
/-! declarations and their tokens -/
def KiP (x : D) (s : Str) : Prop := (∃ v : Nat, v < 256 ∧ x = .int (v : Int) ∧ s = nmS v) ∨ (Tx 8 s ∧ x = .str s)
abbrev Pr := Str × D × Str
def PrOk (q : Pr) : Prop := Tx 8 q.1 ∧ KiP q.2.1 q.2.2
def prD (q : Pr) : D := tp [.str q.1, q.2.1]
def recF (q : Pr) : List Str := [q.1, S' ":", q.2.2, S' ";"]
def parF (q : Pr) : List Str := [q.1, S' ":", q.2.2]
def parT (qs : List Pr) : List Str := [S' "("] ++ comma (qs.map parF) ++ [S' ")"]
abbrev Vr := Pr × Option Nat
def VrOk (v : Vr) : Prop := PrOk v.1 ∧ ∀ n, v.2 = some n → n < 256
def vrD (v : Vr) : D := match v.2 with
  | some n => tp [.str v.1.1, v.1.2.1, .int (n : Int)]
  | none => tp [.str v.1.1, v.1.2.1]
def vrF (v : Vr) : List Str := [S' "var", v.1.1, S' ":", v.1.2.2] ++ (match v.2 with | some n => [S' "[", nmS n, S' "]"] | none => []) ++ [S' ";"]
/-- x is a declaration, its tokens are ts -/
inductive PtP : D → List Str → Prop
  | record {n : Str} (qs : List Pr) (hn : Tx 8 n) (hq : ∀ q ∈ qs, PrOk q) : PtP (tp [.str (S' "record"), .str n, .tup (qs.map prD)]) ([S' "record", n, S' "{"] ++ qs.flatMap recF ++ [S' "}"])
  | ext {n : Str} {w : Nat} {s : Int} {x y : D} {l l' : Nat} {ts us : List Str} (qs : List Pr) (hn : Tx 8 n) (hq : ∀ q ∈ qs, PrOk q) (hw : w < 256) (hx : ExP 45 x l ts) (hy : ExP 45 y l' us) : PtP (tp [.str (S' "external"), .str n, .tup (qs.map prD), .int (w : Int), .int s, x, y]) ([S' "external", n] ++ parT qs ++ [S' ":", nmS w] ++ (if s = 1 then [S' "steady"] else []) ++ [S' "needs"] ++ ts ++ [S' "gives"] ++ us ++ [S' ";"])
  | fn {n ks : Str} {k : D} {s : Int} {b : List D} {bt : List Str} (qs : List Pr) (vs : List Vr) (hn : Tx 8 n) (hq : ∀ q ∈ qs, PrOk q) (hk : KiP k ks) (hv : ∀ v ∈ vs, VrOk v) (hb : Rows (StP 22) b bt) : PtP (tp [.str (S' "function"), .str n, .tup (qs.map prD), k, .int s, .tup (vs.map vrD), .tup b]) ((if s = 1 then [S' "entry"] else []) ++ ([S' "function", n] ++ parT qs ++ [S' ":", ks, S' "{"]) ++ vs.flatMap vrF ++ bt ++ [S' "}"])
section
variable {k m n : Nat} {st st' s0 : Store} {Q R : K}
theorem kstr {x : D} {s : Str} (h : KiP x s) (q : Q (.str s) st) : strXB [x] st Q := by
  rcases h with ⟨v, hv, rfl, rfl⟩ | ⟨ht, rfl⟩
  · exact ⟨(nmS_tx hv).2, q⟩
  · exact q
theorem fm_take {α : Type} {f : α → List Str} {qs : List α} {j : Nat} {q : α} (h : qs[j]? = some q) : (qs.take (j + 1)).flatMap f = (qs.take j).flatMap f ++ f q := by
  rw [List.take_add_one, h, List.flatMap_append]
  simp
theorem fm_le {α : Type} {f : α → List Str} (qs : List α) (j : Nat) : ((qs.take j).flatMap f).length ≤ (qs.flatMap f).length := by
  conv => rhs; rw [← List.take_append_drop j qs, List.flatMap_append, List.length_append]
  omega
theorem ppar_ok {qs : List Pr} (hq : ∀ q ∈ qs, PrOk q) (hm : 1 ≤ m) (hl : (parT qs).length ≤ 3000000) : Tk m "parameter_tokens" [.tup (qs.map prD)] (parT qs) := by
  intro st Q q
  obtain ⟨m, rfl⟩ : ∃ n, m = n + 1 := ⟨m - 1, by omega⟩
  unfold parT at hl
  simp only [List.length_append, List.length_cons, List.length_nil] at hl
  refine call_intro rfl rfl ?_
  unfold b_p_parameter_tokens
  walk_at "z"
  refine for_map qs prD rfl (fun j σ st' => ∃ o2 o3, σ = [some (.tup (qs.map prD)), some (.ref st.length), o2, o3] ∧ rdL st' st.length (([S' "("] ++ comma ((qs.take j).map parF)).map D.str) ∧ Grw st st') ⟨none, none, rfl, rdL_new, (Grw.refl st).app⟩ (fun j p σ st1 hj ⟨o2, o3, e, r1, g1⟩ N hN => ?_) (fun σ st1 ⟨o2, o3, e, r1, g1⟩ => ?_)
  · subst e
    refine ⟨trivial, ?_⟩
    have ok := hq p (List.mem_of_getElem? hj)
    have hjl := (List.getElem?_eq_some_iff.mp hj).1
    have htk : (qs.take (j + 1)).map parF = (qs.take j).map parF ++ [parF p] := by rw [List.take_add_one, hj, List.map_append]; rfl
    have hb := comma_take_len (qs.map parF) (j + 1)
    rw [← List.map_take, htk] at hb
    rw [htk] at hN
    generalize hR : (qs.take j).map parF = R at r1 hb hN htk
    have hRl : R.length = j := by rw [← hR, List.length_map, List.length_take]; omega
    unfold prD
    walk_at "s"
    refine ⟨rfl, ?_⟩
    walk_at "s"
    refine len_at r1 ?_
    rw [List.length_map]
    walk_at "s"
    have fin : ∀ (st2 : Store) (us : List Str), rdL st2 st.length (us.map D.str) → Grw st st2 → [S' "("] ++ comma (R ++ [parF p]) = us ++ parF p → N [some (.tup (qs.map prD)), some (.ref st.length), some (.str p.1), some p.2.1] ((st2 ++ [C.lst [.str p.1, .str (S' ":"), .str p.2.2]]).set st.length (.lst ((us ++ parF p).map D.str))) := by
      intro st2 us r2 g2 hu
      refine hN _ _ ⟨_, _, rfl, ?_, Grw_setN g2.app (Nat.le_refl _)⟩
      rw [hu]
      exact rdL_set (rdL_app r2)
    by_cases hj0 : j = 0
    · have hR0 : R = [] := List.length_eq_zero_iff.mp (by omega)
      subst hR0
      refine wayF rfl ?_
      walk_at "s"
      refine Nxt.mk ?_
      walk_at "s"
      refine ⟨ty_at r1, ?_⟩
      walk_at "s"
      refine kstr ok.2 ?_
      walk_at "s"
      refine ⟨Nat.le_of_ble_eq_true rfl, ?_⟩
      walk_at "s"
      have hlt := rdL_lt r1
      refine extLL (rdL_app r1) rdL_new (by omega) (by simp [comma, szl]) ?_
      exact fin st1 [S' "("] r1 g1 rfl
    · have hR0 : R ≠ [] := fun e => by rw [e] at hRl; exact hj0 hRl.symm
      have hRn : ∀ ts ∈ R, ts ≠ [] := fun ts hts => by
        rw [← hR] at hts
        obtain ⟨y, hy, rfl⟩ := List.mem_map.mp hts
        exact fun e => nomatch e
      have hc := comma_ne hR0 hRn
      have hc1 : 0 < (comma R).length := List.length_pos_iff.mpr hc
      refine wayT (decide_eq_true (by simp only [List.length_append, List.length_cons, List.length_nil]; omega)) ?_
      walk_at "s"
      refine ⟨ty_at r1, ?_⟩
      walk_at "s"
      rw [comma_snoc hR0] at hb
      simp only [List.length_append, List.length_cons, List.length_nil] at hb
      refine aps (s := S' ",") g1 (Nat.le_refl _) r1 (by simp only [List.length_append, List.length_cons, List.length_nil]; omega) fun st2 r2 g2 => ?_
      walk_at "s"
      refine Nxt.mk ?_
      walk_at "s"
      refine ⟨ty_at r2, ?_⟩
      walk_at "s"
      refine kstr ok.2 ?_
      walk_at "s"
      refine ⟨Nat.le_of_ble_eq_true rfl, ?_⟩
      walk_at "s"
      have hlt := rdL_lt r2
      refine extLL (rdL_app r2) rdL_new (by omega) (by simp only [List.length_map, List.length_append, List.length_cons, List.length_nil]; unfold szl; omega) ?_
      have := fin st2 ([S' "("] ++ comma R ++ [S' ","]) r2 g2 (by rw [comma_snoc hR0]; simp)
      rw [List.map_append] at this
      exact this
  · subst e
    refine ⟨trivial, ?_⟩
    rw [List.take_length] at r1
    walk_at "z"
    exact lcat [S' ")"] g1 r1 (by simp only [List.length_append, List.length_cons, List.length_nil]; omega) q
end
end Pk06
end PartPdk06P11

section PartPdk06P12
set_option Elab.async false
set_option linter.all false
set_option maxRecDepth 100000
set_option maxHeartbeats 1000000
namespace Pk06
open PySem Pd
local macro_rules | `(tactic| walk_at "t") => `(tactic| (repeat (first | refine Red.red ?_ | refine Nxt.mk ?_ | refine ⟨by decide +kernel, by decide +kernel, wayF (by decide +kernel) ?_⟩ | refine ⟨by decide +kernel, by decide +kernel, wayT (by decide +kernel) ?_⟩ | refine ⟨by decide +kernel, ?_⟩ | refine ⟨Nat.le_of_ble_eq_true rfl, ?_⟩ | refine at_is rfl ?_)))
local instance notinTup12_06 {x : D} {xs : List D} {st : Store} {r : Bool → Prop} : Red (notinC x (.tup xs) st r) (x.flat = true ∧ xs.all D.flat = true ∧ r (!(xs.any fun y => D.eqb y x))) := ⟨id⟩
local macro_rules | `(tactic| walk_at "s") => `(tactic| (repeat (refine Red.red ?_)))
local macro_rules | `(tactic| walk_at "r") => `(tactic| (repeat (first | refine Red.red ?_ | refine Nxt.mk ?_)))
local macro_rules | `(tactic| walk_at "v") => `(tactic| (repeat (first | refine Red.red ?_ | refine Nxt.mk ?_ | refine ⟨Nat.le_of_ble_eq_true rfl, ?_⟩ | refine at_is rfl ?_)))
local macro_rules | `(tactic| walk_at "w") => `(tactic| (repeat (first | refine Red.red ?_ | refine Nxt.mk ?_ | refine wayF rfl ?_ | refine wayT rfl ?_ | refine ⟨Nat.le_of_ble_eq_true rfl, ?_⟩ | refine at_is rfl ?_)))
local macro_rules | `(tactic| walk_at "u") => `(tactic| (repeat (first | refine Red.red ?_ | refine Nxt.mk ?_ | refine ⟨Nat.le_of_ble_eq_true rfl, ?_⟩ | refine at_is rfl ?_ | refine ⟨by decide +kernel, by decide +kernel, wayF (by decide +kernel) ?_⟩ | refine ⟨by decide +kernel, by decide +kernel, wayT (by decide +kernel) ?_⟩ | refine ⟨by decide +kernel, by decide +kernel, ?_⟩ | refine wayF (by decide +kernel) ?_ | refine wayT (by decide +kernel) ?_)))
local instance inNewB12_06 {x : D} {xs : List D} {st : Store} {r : Bool → Prop} : Red (inC x (.ref st.length) (st ++ [.lst xs]) r) (x.flat = true ∧ xs.all D.flat = true ∧ r (xs.any fun y => D.eqb y x)) := ⟨fun h => ⟨xs, .inl (by simp [rdL]), h⟩⟩
local instance inTupN12_06 {x : D} {xs : List D} {st : Store} {r : Bool → Prop} : Red (inC x (.tup xs) st r) (x.flat = true ∧ xs.all D.flat = true ∧ r (xs.any fun y => D.eqb y x)) := ⟨id⟩
local macro_rules | `(tactic| walk_at "z") => `(tactic| (repeat (first | refine Red.red ?_ | refine Nxt.mk ?_ | refine ⟨by decide +kernel, by decide +kernel, wayF (by decide +kernel) ?_⟩ | refine ⟨by decide +kernel, by decide +kernel, wayT (by decide +kernel) ?_⟩ | refine ⟨by decide +kernel, ?_⟩ | refine ⟨Nat.le_of_ble_eq_true rfl, ?_⟩ | refine wayF rfl ?_ | refine wayT rfl ?_ | refine at_is rfl ?_)))
local macro_rules | `(tactic| walk_at "y") => `(tactic| (repeat (first | refine Red.red ?_ | refine ⟨by decide +kernel, by decide +kernel, wayF (by decide +kernel) ?_⟩ | refine ⟨by decide +kernel, by decide +kernel, wayT (by decide +kernel) ?_⟩ | refine ⟨by decide +kernel, ?_⟩ | refine ⟨Nat.le_of_ble_eq_true rfl, ?_⟩ | refine wayF rfl ?_ | refine wayT rfl ?_ | refine at_is rfl ?_)))
/-! k06, text 12. Own work. -/
section
variable {k m n : Nat} {st st' s0 : Store} {Q R : K}
theorem StP.up {d : Nat} : ∀ {x : D} {ts : List Str}, StP d x ts → StP (d + 1) x ts := by
  induction d with
  | zero => exact fun h => .inl h
  | succ d ih =>
    intro x ts h
    have hR : ∀ {b : List D} {bt : List Str}, Rows (StP d) b bt → Rows (StP (d + 1)) b bt := fun ⟨ps, h1, h2, h3⟩ => ⟨ps, h1, h2, fun p hp => ih (h3 p hp)⟩
    rcases h with h | ⟨e, l, et, b, bt, he, hb, h1, h2⟩ | ⟨e, l, et, b, c, bt, ct, he, hb, hc, h1, h2⟩ | ⟨b, cs, bt, ct, hb, ⟨ps, h3, h4, h5⟩, h1, h2⟩
    · exact .inl h
    · exact .inr (.inl ⟨e, l, et, b, bt, he, hR hb, h1, h2⟩)
    · exact .inr (.inr (.inl ⟨e, l, et, b, c, bt, ct, he, hR hb, hR hc, h1, h2⟩))
    · refine .inr (.inr (.inr ⟨b, cs, bt, ct, hR hb, ⟨ps, h3, h4, fun p hp => ?_⟩, h1, h2⟩))
      obtain ⟨n, b2, bt2, q1, q2, q3, q4⟩ := h5 p hp
      exact ⟨n, b2, bt2, q1, hR q2, q3, q4⟩
theorem StP.le {d d' : Nat} {x : D} {ts : List Str} (h : StP d x ts) (hd : d ≤ d') : StP d' x ts := by
  obtain ⟨k, rfl⟩ := Nat.exists_eq_add_of_le hd
  clear hd
  induction k with
  | zero => exact h
  | succ k ih => exact ih.up
theorem pdec_ok {x : D} {ts : List Str} (h : PtP x ts) (hm : 170 ≤ m) (hl : ts.length ≤ 2500000) : Tk m "declaration_tokens" [x] ts := by
  intro st Q q
  obtain ⟨m, rfl⟩ : ∃ n, m = n + 1 := ⟨m - 1, by omega⟩
  cases h with
  | @record n qs hn hq =>
    simp only [List.length_append, List.length_cons, List.length_nil] at hl
    refine call_intro rfl rfl ?_
    unfold b_p_declaration_tokens
    walk_at "z"
    refine for_map qs prD rfl (fun j σ st' => ∃ o2 o3, σ = [some (tp [.str (S' "record"), .str n, .tup (qs.map prD)]), some (.ref st.length), o2, o3, none] ∧ rdL st' st.length (([S' "record", n, S' "{"] ++ (qs.take j).flatMap recF).map D.str) ∧ Grw st st') ⟨none, none, rfl, rdL_new, (Grw.refl st).app⟩ (fun j p σ st1 hj ⟨o2, o3, e, r1, g1⟩ N hN => ?_) (fun σ st1 ⟨o2, o3, e, r1, g1⟩ => ?_)
    · subst e
      refine ⟨trivial, ?_⟩
      have ok := hq p (List.mem_of_getElem? hj)
      have hb := fm_le (f := recF) qs (j + 1)
      rw [fm_take hj] at hb hN
      rw [List.length_append] at hb
      unfold prD
      walk_at "s"
      refine ⟨rfl, ?_⟩
      walk_at "s"
      refine ⟨ty_at r1, ?_⟩
      walk_at "s"
      refine kstr ok.2 ?_
      walk_at "s"
      refine ⟨Nat.le_of_ble_eq_true rfl, ?_⟩
      walk_at "s"
      have hlt := rdL_lt r1
      refine elcat (recF p) g1 (Nat.le_refl _) r1 (by simp only [List.length_append, List.length_cons, List.length_nil]; omega) fun st2 r2 g2 => ?_
      rw [List.append_assoc] at r2
      exact hN _ _ ⟨_, _, rfl, r2, g2⟩
    · subst e
      refine ⟨trivial, ?_⟩
      rw [List.take_length] at r1
      walk_at "z"
      exact lcat [S' "}"] g1 r1 (by simp only [List.length_append, List.length_cons, List.length_nil]; omega) q
  | @ext n w s x y l l' ts us qs hn hq hw hx hy =>
    simp only [List.length_append, List.length_cons, List.length_nil] at hl
    refine call_intro rfl rfl ?_
    unfold b_p_declaration_tokens
    walk_at "z"
    refine tcat (a := [S' "external", n]) ((Grw.refl st).app) (ppar_ok hq (by omega) (by omega)) rdL_new (by simp only [List.length_cons, List.length_nil]; omega) fun n1 st1 r1 g1 l1 => ?_
    walk_at "z"
    refine ⟨(nmS_tx hw).2, ?_⟩
    walk_at "z"
    refine lcat [S' ":", nmS w] g1 r1 (by simp only [List.length_append, List.length_cons, List.length_nil]; omega) fun n2 st2 r2 g2 l2 => ?_
    walk_at "z"
    refine way (fun e => ?g1) (fun e => ?g2)
    case' g1 =>
      have e := of_decide_eq_true e
      rw [if_pos e] at q hl
      walk_at "s"
      refine ⟨ty_at r2, ?_⟩
      walk_at "s"
      refine aps (s := S' "steady") g2 l2 r2 (by simp only [List.length_append, List.length_cons, List.length_nil] at hl ⊢; omega) fun st3 r3 g3 => ?_
      walk_at "s"
    case' g2 =>
      have e := of_decide_eq_false e
      rw [if_neg e] at q hl
      have r3 : rdL st2 n2 (([S' "external", n] ++ parT qs ++ [S' ":", nmS w] ++ []).map D.str) := by rw [List.append_nil]; exact r2
      have g3 := g2
      walk_at "s"
    all_goals
      simp only [List.length_append, List.length_cons, List.length_nil] at hl
      refine Nxt.mk ?_
      walk_at "z"
      refine lcat [S' "needs"] g3 r3 (by simp only [List.length_append, List.length_cons, List.length_nil]; omega) fun n4 st4 r4 g4 l4 => ?_
      walk_at "z"
      refine tcat g4 (pex_ok hx m (by omega) (by omega)) r4 (by simp only [List.length_append, List.length_cons, List.length_nil]; omega) fun n5 st5 r5 g5 l5 => ?_
      walk_at "z"
      refine lcat [S' "gives"] g5 r5 (by simp only [List.length_append, List.length_cons, List.length_nil]; omega) fun n6 st6 r6 g6 l6 => ?_
      walk_at "z"
      refine tcat g6 (pex_ok hy m (by omega) (by omega)) r6 (by simp only [List.length_append, List.length_cons, List.length_nil]; omega) fun n7 st7 r7 g7 l7 => ?_
      walk_at "z"
      exact lcat [S' ";"] g7 r7 (by simp only [List.length_append, List.length_cons, List.length_nil]; omega) q
  | @fn n ks k s b bt qs vs hn hq hk hv hb =>
    generalize hent : (if s = 1 then [S' "entry"] else []) = ent at q hl
    simp only [List.length_append, List.length_cons, List.length_nil] at hl
    refine call_intro rfl rfl ?_
    unfold b_p_declaration_tokens
    walk_at "z"
    refine way (fun e => ?h1) (fun e => ?h2)
    case' h1 =>
      have e := of_decide_eq_true e
      walk_at "s"
      refine ⟨Nat.le_of_ble_eq_true rfl, ?_⟩
      walk_at "s"
      have r0 : rdL (st ++ [C.lst [.str (S' "entry")]]) st.length (ent.map D.str) := by rw [← hent, if_pos e]; exact rdL_new
      have g0 := (Grw.refl st).app (c := C.lst [.str (S' "entry")])
      generalize st ++ [C.lst [.str (S' "entry")]] = st0 at r0 g0 ⊢
    case' h2 =>
      have e := of_decide_eq_false e
      walk_at "s"
      refine ⟨Nat.le_of_ble_eq_true rfl, ?_⟩
      walk_at "s"
      have r0 : rdL (st ++ [C.lst []]) st.length (ent.map D.str) := by rw [← hent, if_neg e]; exact rdL_new
      have g0 := (Grw.refl st).app (c := C.lst [])
      generalize st ++ [C.lst []] = st0 at r0 g0 ⊢
    all_goals
      refine Nxt.mk ?_
      walk_at "s"
      refine ⟨ty_at r0, ?_⟩
      have hi0 : st.length ≤ st.length := Nat.le_refl _
      generalize hn0 : st.length = n0 at r0 ⊢
      walk_at "z"
      refine tcat (s0 := st0) (a := [S' "function", n]) ((Grw.refl st0).app) (ppar_ok hq (by omega) (by omega)) rdL_new (by simp only [List.length_cons, List.length_nil]; omega) fun n1 st1 r1 g1 l1 => ?_
      walk_at "z"
      refine kstr hk ?_
      walk_at "z"
      refine lcat (s0 := st0) [S' ":", ks, S' "{"] g1 r1 (by simp only [List.length_append, List.length_cons, List.length_nil]; omega) fun n2 st2 r2 g2 l2 => ?_
      have h0 := rdL_lt r0
      walk_at "s"
      refine extLL (g2.rd r0) r2 (by omega) (by simp only [List.length_map, List.length_append, List.length_cons, List.length_nil]; unfold szl; omega) ?_
      rw [← List.map_append]
      have r3 := rdL_set (ys := List.map D.str (ent ++ ([S' "function", n] ++ parT qs ++ [S' ":", ks, S' "{"]))) (g2.rd r0)
      have g3 : Grw st (st2.set n0 (.lst (List.map D.str (ent ++ ([S' "function", n] ++ parT qs ++ [S' ":", ks, S' "{"]))))) := Grw_setN (g0.trans g2) (by omega)
      generalize st2.set n0 (.lst (List.map D.str (ent ++ ([S' "function", n] ++ parT qs ++ [S' ":", ks, S' "{"])))) = st3 at r3 g3 ⊢
      have hA : (ent ++ ([S' "function", n] ++ parT qs ++ [S' ":", ks, S' "{"])).length = ent.length + ((parT qs).length + 5) := by simp only [List.length_append, List.length_cons, List.length_nil]; omega
      generalize (ent ++ ([S' "function", n] ++ parT qs ++ [S' ":", ks, S' "{"])) = A at r3 q hA
      walk_at "z"
      refine for_map vs vrD rfl (fun j σ st' => ∃ o4, σ = [some (tp [.str (S' "function"), .str n, .tup (qs.map prD), k, .int s, .tup (vs.map vrD), .tup b]), some (.ref n0), none, none, o4] ∧ rdL st' n0 ((A ++ (vs.take j).flatMap vrF).map D.str) ∧ Grw st st') ⟨none, rfl, by simpa using r3, g3⟩ (fun j v σ st4 hj ⟨o4, e4, r4, g4⟩ N hN => ?_) (fun σ st4 ⟨o4, e4, r4, g4⟩ => ?_)
      · subst e4
        refine ⟨trivial, ?_⟩
        obtain ⟨⟨⟨v1, vk, vks⟩, vo⟩, hvj⟩ : ∃ v', v = v' := ⟨v, rfl⟩
        subst hvj
        obtain ⟨ok, okn⟩ := hv _ (List.mem_of_getElem? hj)
        have hb1 := fm_le (f := vrF) vs (j + 1)
        rw [fm_take hj] at hb1 hN
        cases vo with
        | none =>
          rw [show vrF ((v1, vk, vks), none) = [S' "var", v1, S' ":", vks] ++ [S' ";"] from rfl] at hb1 hN
          rw [show vrD ((v1, vk, vks), none) = tp [.str v1, vk] from rfl]
          simp only [List.length_append, List.length_cons, List.length_nil] at hb1
          walk_at "z"
          refine ⟨ty_at r4, ?_⟩
          walk_at "z"
          refine kstr ok.2 ?_
          walk_at "z"
          refine elcat [S' "var", v1, S' ":", vks] g4 (by omega) r4 (by simp only [List.length_append, List.length_cons, List.length_nil]; omega) fun st5 r5 g5 => ?_
          walk_at "z"
          refine ⟨ty_at r5, ?_⟩
          walk_at "z"
          refine aps (s := S' ";") g5 (by omega) r5 (by simp only [List.length_append, List.length_cons, List.length_nil]; omega) fun st6 r6 g6 => ?_
          rw [List.append_assoc, List.append_assoc] at r6
          exact hN _ _ ⟨_, rfl, r6, g6⟩
        | some w =>
          rw [show vrF ((v1, vk, vks), some w) = [S' "var", v1, S' ":", vks] ++ [S' "[", nmS w, S' "]"] ++ [S' ";"] from rfl] at hb1 hN
          rw [show vrD ((v1, vk, vks), some w) = tp [.str v1, vk, .int (w : Int)] from rfl]
          simp only [List.length_append, List.length_cons, List.length_nil] at hb1
          walk_at "z"
          refine ⟨ty_at r4, ?_⟩
          walk_at "z"
          refine kstr ok.2 ?_
          walk_at "z"
          refine elcat [S' "var", v1, S' ":", vks] g4 (by omega) r4 (by simp only [List.length_append, List.length_cons, List.length_nil]; omega) fun st5 r5 g5 => ?_
          walk_at "z"
          refine ⟨ty_at r5, ?_⟩
          walk_at "z"
          refine ⟨(nmS_tx (okn w rfl)).2, ?_⟩
          walk_at "z"
          refine elcat [S' "[", nmS w, S' "]"] g5 (by omega) r5 (by simp only [List.length_append, List.length_cons, List.length_nil]; omega) fun st6 r6 g6 => ?_
          walk_at "z"
          refine ⟨ty_at r6, ?_⟩
          walk_at "z"
          refine aps (s := S' ";") g6 (by omega) r6 (by simp only [List.length_append, List.length_cons, List.length_nil]; omega) fun st7 r7 g7 => ?_
          rw [List.append_assoc, List.append_assoc, List.append_assoc] at r7
          refine hN _ _ ⟨_, rfl, ?_, g7⟩
          rw [List.append_assoc [S' "var", v1, S' ":", vks]]
          exact r7
      · subst e4
        refine ⟨trivial, ?_⟩
        rw [List.take_length] at r4
        walk_at "z"
        refine tcat g4 (body_ok hb (by omega) (by omega) fun x ts h hl => pst_ok 22 h (by omega) hl) r4 (by simp only [List.length_append]; omega) fun n5 st5 r5 g5 l5 => ?_
        walk_at "z"
        exact lcat [S' "}"] g5 r5 (by simp only [List.length_append, List.length_cons, List.length_nil]; omega) q
end
end Pk06
end PartPdk06P12

section PartPdk06P13
set_option Elab.async false
set_option linter.all false
set_option maxRecDepth 100000
set_option maxHeartbeats 1000000
namespace Pk06
open PySem Pd
local macro_rules | `(tactic| walk_at "t") => `(tactic| (repeat (first | refine Red.red ?_ | refine Nxt.mk ?_ | refine ⟨by decide +kernel, by decide +kernel, wayF (by decide +kernel) ?_⟩ | refine ⟨by decide +kernel, by decide +kernel, wayT (by decide +kernel) ?_⟩ | refine ⟨by decide +kernel, ?_⟩ | refine ⟨Nat.le_of_ble_eq_true rfl, ?_⟩ | refine at_is rfl ?_)))
local instance notinTup13_06 {x : D} {xs : List D} {st : Store} {r : Bool → Prop} : Red (notinC x (.tup xs) st r) (x.flat = true ∧ xs.all D.flat = true ∧ r (!(xs.any fun y => D.eqb y x))) := ⟨id⟩
local macro_rules | `(tactic| walk_at "s") => `(tactic| (repeat (refine Red.red ?_)))
local macro_rules | `(tactic| walk_at "r") => `(tactic| (repeat (first | refine Red.red ?_ | refine Nxt.mk ?_)))
local macro_rules | `(tactic| walk_at "v") => `(tactic| (repeat (first | refine Red.red ?_ | refine Nxt.mk ?_ | refine ⟨Nat.le_of_ble_eq_true rfl, ?_⟩ | refine at_is rfl ?_)))
local macro_rules | `(tactic| walk_at "w") => `(tactic| (repeat (first | refine Red.red ?_ | refine Nxt.mk ?_ | refine wayF rfl ?_ | refine wayT rfl ?_ | refine ⟨Nat.le_of_ble_eq_true rfl, ?_⟩ | refine at_is rfl ?_)))
local macro_rules | `(tactic| walk_at "u") => `(tactic| (repeat (first | refine Red.red ?_ | refine Nxt.mk ?_ | refine ⟨Nat.le_of_ble_eq_true rfl, ?_⟩ | refine at_is rfl ?_ | refine ⟨by decide +kernel, by decide +kernel, wayF (by decide +kernel) ?_⟩ | refine ⟨by decide +kernel, by decide +kernel, wayT (by decide +kernel) ?_⟩ | refine ⟨by decide +kernel, by decide +kernel, ?_⟩ | refine wayF (by decide +kernel) ?_ | refine wayT (by decide +kernel) ?_)))
local instance inNewB13_06 {x : D} {xs : List D} {st : Store} {r : Bool → Prop} : Red (inC x (.ref st.length) (st ++ [.lst xs]) r) (x.flat = true ∧ xs.all D.flat = true ∧ r (xs.any fun y => D.eqb y x)) := ⟨fun h => ⟨xs, .inl (by simp [rdL]), h⟩⟩
local instance inTupN13_06 {x : D} {xs : List D} {st : Store} {r : Bool → Prop} : Red (inC x (.tup xs) st r) (x.flat = true ∧ xs.all D.flat = true ∧ r (xs.any fun y => D.eqb y x)) := ⟨id⟩
local macro_rules | `(tactic| walk_at "z") => `(tactic| (repeat (first | refine Red.red ?_ | refine Nxt.mk ?_ | refine ⟨by decide +kernel, by decide +kernel, wayF (by decide +kernel) ?_⟩ | refine ⟨by decide +kernel, by decide +kernel, wayT (by decide +kernel) ?_⟩ | refine ⟨by decide +kernel, ?_⟩ | refine ⟨Nat.le_of_ble_eq_true rfl, ?_⟩ | refine wayF rfl ?_ | refine wayT rfl ?_ | refine at_is rfl ?_)))
local macro_rules | `(tactic| walk_at "y") => `(tactic| (repeat (first | refine Red.red ?_ | refine ⟨by decide +kernel, by decide +kernel, wayF (by decide +kernel) ?_⟩ | refine ⟨by decide +kernel, by decide +kernel, wayT (by decide +kernel) ?_⟩ | refine ⟨by decide +kernel, ?_⟩ | refine ⟨Nat.le_of_ble_eq_true rfl, ?_⟩ | refine wayF rfl ?_ | refine wayT rfl ?_ | refine at_is rfl ?_)))
/-! k06, text 13. Own work. -/
section
variable {k m n : Nat} {st st' s0 : Store} {Q R : K}
theorem lpar_ok {qs : List Pr} (hq : ∀ q ∈ qs, PrOk q) (hm : 1 ≤ m) (hl : (parT qs).length ≤ 3000000) : Tk m "_law_params_tokens" [.tup (qs.map prD)] (parT qs) := by
  intro st Q q
  obtain ⟨m, rfl⟩ : ∃ n, m = n + 1 := ⟨m - 1, by omega⟩
  unfold parT at hl
  simp only [List.length_append, List.length_cons, List.length_nil] at hl
  refine call_intro rfl rfl ?_
  unfold b_l_params_tokens
  walk_at "z"
  refine for_map qs prD rfl (fun j σ st' => ∃ o2, σ = [some (.tup (qs.map prD)), some (.ref st.length), o2] ∧ rdL st' st.length (([S' "("] ++ comma ((qs.take j).map parF)).map D.str) ∧ Grw st st') ⟨none, rfl, rdL_new, (Grw.refl st).app⟩ (fun j p σ st1 hj ⟨o2, e, r1, g1⟩ N hN => ?_) (fun σ st1 ⟨o2, e, r1, g1⟩ => ?_)
  · subst e
    refine ⟨trivial, ?_⟩
    have ok := hq p (List.mem_of_getElem? hj)
    have hjl := (List.getElem?_eq_some_iff.mp hj).1
    have htk : (qs.take (j + 1)).map parF = (qs.take j).map parF ++ [parF p] := by rw [List.take_add_one, hj, List.map_append]; rfl
    have hb := comma_take_len (qs.map parF) (j + 1)
    rw [← List.map_take, htk] at hb
    rw [htk] at hN
    generalize hR : (qs.take j).map parF = R at r1 hb hN htk
    have hRl : R.length = j := by rw [← hR, List.length_map, List.length_take]; omega
    walk_at "s"
    refine len_at r1 ?_
    rw [List.length_map]
    walk_at "s"
    have fin : ∀ (st2 : Store) (us : List Str), rdL st2 st.length (us.map D.str) → Grw st st2 → [S' "("] ++ comma (R ++ [parF p]) = us ++ parF p → N [some (.tup (qs.map prD)), some (.ref st.length), some (prD p)] ((st2 ++ [C.lst [.str p.1, .str (S' ":"), .str p.2.2]]).set st.length (.lst ((us ++ parF p).map D.str))) := by
      intro st2 us r2 g2 hu
      refine hN _ _ ⟨_, rfl, ?_, Grw_setN g2.app (Nat.le_refl _)⟩
      rw [hu]
      exact rdL_set (rdL_app r2)
    by_cases hj0 : j = 0
    · have hR0 : R = [] := List.length_eq_zero_iff.mp (by omega)
      subst hR0
      refine wayF rfl ?_
      walk_at "s"
      refine Nxt.mk ?_
      walk_at "s"
      refine ⟨ty_at r1, ?_⟩
      walk_at "s"
      refine at_is rfl ?_
      walk_at "s"
      refine at_is rfl ?_
      walk_at "s"
      refine kstr ok.2 ?_
      walk_at "s"
      refine ⟨Nat.le_of_ble_eq_true rfl, ?_⟩
      walk_at "s"
      have hlt := rdL_lt r1
      refine extLL (rdL_app r1) rdL_new (by omega) (by simp [comma, szl]) ?_
      exact fin st1 [S' "("] r1 g1 rfl
    · have hR0 : R ≠ [] := fun e => by rw [e] at hRl; exact hj0 hRl.symm
      have hRn : ∀ ts ∈ R, ts ≠ [] := fun ts hts => by
        rw [← hR] at hts
        obtain ⟨y, hy, rfl⟩ := List.mem_map.mp hts
        exact fun e => nomatch e
      have hc := comma_ne hR0 hRn
      have hc1 : 0 < (comma R).length := List.length_pos_iff.mpr hc
      refine wayT (decide_eq_true (by simp only [List.length_append, List.length_cons, List.length_nil]; omega)) ?_
      walk_at "s"
      refine ⟨ty_at r1, ?_⟩
      walk_at "s"
      rw [comma_snoc hR0] at hb
      simp only [List.length_append, List.length_cons, List.length_nil] at hb
      refine aps (s := S' ",") g1 (Nat.le_refl _) r1 (by simp only [List.length_append, List.length_cons, List.length_nil]; omega) fun st2 r2 g2 => ?_
      walk_at "s"
      refine Nxt.mk ?_
      walk_at "s"
      refine ⟨ty_at r2, ?_⟩
      walk_at "s"
      refine at_is rfl ?_
      walk_at "s"
      refine at_is rfl ?_
      walk_at "s"
      refine kstr ok.2 ?_
      walk_at "s"
      refine ⟨Nat.le_of_ble_eq_true rfl, ?_⟩
      walk_at "s"
      have hlt := rdL_lt r2
      refine extLL (rdL_app r2) rdL_new (by omega) (by simp only [List.length_map, List.length_append, List.length_cons, List.length_nil]; unfold szl; omega) ?_
      have := fin st2 ([S' "("] ++ comma R ++ [S' ","]) r2 g2 (by rw [comma_snoc hR0]; simp)
      rw [List.map_append] at this
      exact this
  · subst e
    refine ⟨trivial, ?_⟩
    rw [List.take_length] at r1
    walk_at "z"
    exact lcat [S' ")"] g1 r1 (by simp only [List.length_append, List.length_cons, List.length_nil]; omega) q
theorem ldec_ok {x : D} {ts : List Str} (h : PtP x ts) (hm : 170 ≤ m) (hl : ts.length ≤ 2500000) : Tk m "_law_part_tokens" [x] ts := by
  intro st Q q
  obtain ⟨m, rfl⟩ : ∃ n, m = n + 1 := ⟨m - 1, by omega⟩
  cases h with
  | @record n qs hn hq =>
    simp only [List.length_append, List.length_cons, List.length_nil] at hl
    refine call_intro rfl rfl ?_
    unfold b_l_part_tokens
    walk_at "z"
    refine for_map qs prD rfl (fun j σ st' => ∃ o2, σ = [some (tp [.str (S' "record"), .str n, .tup (qs.map prD)]), some (.ref st.length), o2] ∧ rdL st' st.length (([S' "record", n, S' "{"] ++ (qs.take j).flatMap recF).map D.str) ∧ Grw st st') ⟨none, rfl, rdL_new, (Grw.refl st).app⟩ (fun j p σ st1 hj ⟨o2, e, r1, g1⟩ N hN => ?_) (fun σ st1 ⟨o2, e, r1, g1⟩ => ?_)
    · subst e
      refine ⟨trivial, ?_⟩
      have ok := hq p (List.mem_of_getElem? hj)
      have hb := fm_le (f := recF) qs (j + 1)
      rw [fm_take hj] at hb hN
      rw [List.length_append] at hb
      walk_at "s"
      refine ⟨ty_at r1, ?_⟩
      walk_at "s"
      refine at_is rfl ?_
      walk_at "s"
      refine at_is rfl ?_
      walk_at "s"
      refine kstr ok.2 ?_
      walk_at "s"
      refine ⟨Nat.le_of_ble_eq_true rfl, ?_⟩
      walk_at "s"
      have hlt := rdL_lt r1
      refine elcat (recF p) g1 (Nat.le_refl _) r1 (by simp only [List.length_append, List.length_cons, List.length_nil]; omega) fun st2 r2 g2 => ?_
      rw [List.append_assoc] at r2
      exact hN _ _ ⟨_, rfl, r2, g2⟩
    · subst e
      refine ⟨trivial, ?_⟩
      rw [List.take_length] at r1
      walk_at "z"
      exact lcat [S' "}"] g1 r1 (by simp only [List.length_append, List.length_cons, List.length_nil]; omega) q
  | @ext n w s x y l l' ts us qs hn hq hw hx hy =>
    simp only [List.length_append, List.length_cons, List.length_nil] at hl
    refine call_intro rfl rfl ?_
    unfold b_l_part_tokens
    walk_at "z"
    refine tcat (a := [S' "external", n]) ((Grw.refl st).app) (lpar_ok hq (by omega) (by omega)) rdL_new (by simp only [List.length_cons, List.length_nil]; omega) fun n1 st1 r1 g1 l1 => ?_
    walk_at "z"
    refine ⟨(nmS_tx hw).2, ?_⟩
    walk_at "z"
    refine lcat [S' ":", nmS w] g1 r1 (by simp only [List.length_append, List.length_cons, List.length_nil]; omega) fun n2 st2 r2 g2 l2 => ?_
    walk_at "z"
    refine way (fun e => ?g1) (fun e => ?g2)
    case' g1 =>
      have e := of_decide_eq_true e
      rw [if_pos e] at q hl
      walk_at "s"
      refine ⟨ty_at r2, ?_⟩
      walk_at "s"
      refine aps (s := S' "steady") g2 l2 r2 (by simp only [List.length_append, List.length_cons, List.length_nil] at hl ⊢; omega) fun st3 r3 g3 => ?_
      walk_at "s"
    case' g2 =>
      have e := of_decide_eq_false e
      rw [if_neg e] at q hl
      have r3 : rdL st2 n2 (([S' "external", n] ++ parT qs ++ [S' ":", nmS w] ++ []).map D.str) := by rw [List.append_nil]; exact r2
      have g3 := g2
      walk_at "s"
    all_goals
      simp only [List.length_append, List.length_cons, List.length_nil] at hl
      refine Nxt.mk ?_
      walk_at "z"
      refine lcat [S' "needs"] g3 r3 (by simp only [List.length_append, List.length_cons, List.length_nil]; omega) fun n4 st4 r4 g4 l4 => ?_
      walk_at "z"
      refine tcat g4 (lex_ok hx m (by omega) (by omega)) r4 (by simp only [List.length_append, List.length_cons, List.length_nil]; omega) fun n5 st5 r5 g5 l5 => ?_
      walk_at "z"
      refine lcat [S' "gives"] g5 r5 (by simp only [List.length_append, List.length_cons, List.length_nil]; omega) fun n6 st6 r6 g6 l6 => ?_
      walk_at "z"
      refine tcat g6 (lex_ok hy m (by omega) (by omega)) r6 (by simp only [List.length_append, List.length_cons, List.length_nil]; omega) fun n7 st7 r7 g7 l7 => ?_
      walk_at "z"
      exact lcat [S' ";"] g7 r7 (by simp only [List.length_append, List.length_cons, List.length_nil]; omega) q
  | @fn n ks k s b bt qs vs hn hq hk hv hb =>
    generalize hent : (if s = 1 then [S' "entry"] else []) = ent at q hl
    simp only [List.length_append, List.length_cons, List.length_nil] at hl
    refine call_intro rfl rfl ?_
    unfold b_l_part_tokens
    walk_at "z"
    refine way (fun e => ?h1) (fun e => ?h2)
    case' h1 =>
      have e := of_decide_eq_true e
      walk_at "s"
      refine ⟨Nat.le_of_ble_eq_true rfl, ?_⟩
      walk_at "s"
      have r0 : rdL (st ++ [C.lst [.str (S' "entry")]]) st.length (ent.map D.str) := by rw [← hent, if_pos e]; exact rdL_new
      have g0 := (Grw.refl st).app (c := C.lst [.str (S' "entry")])
      generalize st ++ [C.lst [.str (S' "entry")]] = st0 at r0 g0 ⊢
    case' h2 =>
      have e := of_decide_eq_false e
      walk_at "s"
      refine ⟨Nat.le_of_ble_eq_true rfl, ?_⟩
      walk_at "s"
      have r0 : rdL (st ++ [C.lst []]) st.length (ent.map D.str) := by rw [← hent, if_neg e]; exact rdL_new
      have g0 := (Grw.refl st).app (c := C.lst [])
      generalize st ++ [C.lst []] = st0 at r0 g0 ⊢
    all_goals
      refine Nxt.mk ?_
      walk_at "s"
      refine ⟨ty_at r0, ?_⟩
      have hi0 : st.length ≤ st.length := Nat.le_refl _
      generalize hn0 : st.length = n0 at r0 ⊢
      walk_at "z"
      refine tcat (s0 := st0) (a := [S' "function", n]) ((Grw.refl st0).app) (lpar_ok hq (by omega) (by omega)) rdL_new (by simp only [List.length_cons, List.length_nil]; omega) fun n1 st1 r1 g1 l1 => ?_
      walk_at "z"
      refine kstr hk ?_
      walk_at "z"
      refine lcat (s0 := st0) [S' ":", ks, S' "{"] g1 r1 (by simp only [List.length_append, List.length_cons, List.length_nil]; omega) fun n2 st2 r2 g2 l2 => ?_
      have h0 := rdL_lt r0
      walk_at "s"
      refine extLL (g2.rd r0) r2 (by omega) (by simp only [List.length_map, List.length_append, List.length_cons, List.length_nil]; unfold szl; omega) ?_
      rw [← List.map_append]
      have r3 := rdL_set (ys := List.map D.str (ent ++ ([S' "function", n] ++ parT qs ++ [S' ":", ks, S' "{"]))) (g2.rd r0)
      have g3 : Grw st (st2.set n0 (.lst (List.map D.str (ent ++ ([S' "function", n] ++ parT qs ++ [S' ":", ks, S' "{"]))))) := Grw_setN (g0.trans g2) (by omega)
      generalize st2.set n0 (.lst (List.map D.str (ent ++ ([S' "function", n] ++ parT qs ++ [S' ":", ks, S' "{"])))) = st3 at r3 g3 ⊢
      have hA : (ent ++ ([S' "function", n] ++ parT qs ++ [S' ":", ks, S' "{"])).length = ent.length + ((parT qs).length + 5) := by simp only [List.length_append, List.length_cons, List.length_nil]; omega
      generalize (ent ++ ([S' "function", n] ++ parT qs ++ [S' ":", ks, S' "{"])) = A at r3 q hA
      walk_at "z"
      refine for_map vs vrD rfl (fun j σ st' => ∃ o4, σ = [some (tp [.str (S' "function"), .str n, .tup (qs.map prD), k, .int s, .tup (vs.map vrD), .tup b]), some (.ref n0), o4] ∧ rdL st' n0 ((A ++ (vs.take j).flatMap vrF).map D.str) ∧ Grw st st') ⟨none, rfl, by simpa using r3, g3⟩ (fun j v σ st4 hj ⟨o4, e4, r4, g4⟩ N hN => ?_) (fun σ st4 ⟨o4, e4, r4, g4⟩ => ?_)
      · subst e4
        refine ⟨trivial, ?_⟩
        obtain ⟨⟨⟨v1, vk, vks⟩, vo⟩, hvj⟩ : ∃ v', v = v' := ⟨v, rfl⟩
        subst hvj
        obtain ⟨ok, okn⟩ := hv _ (List.mem_of_getElem? hj)
        have hb1 := fm_le (f := vrF) vs (j + 1)
        rw [fm_take hj] at hb1 hN
        cases vo with
        | none =>
          rw [show vrF ((v1, vk, vks), none) = [S' "var", v1, S' ":", vks] ++ [S' ";"] from rfl] at hb1 hN
          rw [show vrD ((v1, vk, vks), none) = tp [.str v1, vk] from rfl]
          simp only [List.length_append, List.length_cons, List.length_nil] at hb1
          walk_at "z"
          refine ⟨ty_at r4, ?_⟩
          walk_at "z"
          refine kstr ok.2 ?_
          walk_at "z"
          refine elcat [S' "var", v1, S' ":", vks] g4 (by omega) r4 (by simp only [List.length_append, List.length_cons, List.length_nil]; omega) fun st5 r5 g5 => ?_
          walk_at "z"
          refine ⟨ty_at r5, ?_⟩
          walk_at "z"
          refine aps (s := S' ";") g5 (by omega) r5 (by simp only [List.length_append, List.length_cons, List.length_nil]; omega) fun st6 r6 g6 => ?_
          rw [List.append_assoc, List.append_assoc] at r6
          exact hN _ _ ⟨_, rfl, r6, g6⟩
        | some w =>
          rw [show vrF ((v1, vk, vks), some w) = [S' "var", v1, S' ":", vks] ++ [S' "[", nmS w, S' "]"] ++ [S' ";"] from rfl] at hb1 hN
          rw [show vrD ((v1, vk, vks), some w) = tp [.str v1, vk, .int (w : Int)] from rfl]
          simp only [List.length_append, List.length_cons, List.length_nil] at hb1
          walk_at "z"
          refine ⟨ty_at r4, ?_⟩
          walk_at "z"
          refine kstr ok.2 ?_
          walk_at "z"
          refine elcat [S' "var", v1, S' ":", vks] g4 (by omega) r4 (by simp only [List.length_append, List.length_cons, List.length_nil]; omega) fun st5 r5 g5 => ?_
          walk_at "z"
          refine ⟨ty_at r5, ?_⟩
          walk_at "z"
          refine ⟨(nmS_tx (okn w rfl)).2, ?_⟩
          walk_at "z"
          refine elcat [S' "[", nmS w, S' "]"] g5 (by omega) r5 (by simp only [List.length_append, List.length_cons, List.length_nil]; omega) fun st6 r6 g6 => ?_
          walk_at "z"
          refine ⟨ty_at r6, ?_⟩
          walk_at "z"
          refine aps (s := S' ";") g6 (by omega) r6 (by simp only [List.length_append, List.length_cons, List.length_nil]; omega) fun st7 r7 g7 => ?_
          rw [List.append_assoc, List.append_assoc, List.append_assoc] at r7
          refine hN _ _ ⟨_, rfl, ?_, g7⟩
          rw [List.append_assoc [S' "var", v1, S' ":", vks]]
          exact r7
      · subst e4
        refine ⟨trivial, ?_⟩
        rw [List.take_length] at r4
        walk_at "z"
        refine lblock_ok hb (by omega) (by omega) (fun x ts h hl => lst_ok 22 h (by omega) hl) _ _ fun n5 st5 r5 g5 l5 => ?_
        walk_at "z"
        refine sl_at r5 ?_
        rw [cut_drop _ (by decide)]
        have e9 : ((blk bt).map D.str).drop (1 : Int).toNat = (bt ++ [S' "}"]).map D.str := rfl
        rw [e9]
        refine rcat (g4.trans g5 |>.app) (rdL_app (g5.rd r4)) rdL_new (by simp only [List.length_append, List.length_cons, List.length_nil]; omega) fun n6 st6 r6 g6 l6 => q n6 st6 ?_ g6 l6
        rw [List.append_assoc (A ++ _)]
        exact r6
end
end Pk06
end PartPdk06P13

section PartPdk06P14
set_option Elab.async false
set_option linter.all false
set_option maxRecDepth 100000
set_option maxHeartbeats 1000000
namespace Pk06
open PySem Pd
local macro_rules | `(tactic| walk_at "t") => `(tactic| (repeat (first | refine Red.red ?_ | refine Nxt.mk ?_ | refine ⟨by decide +kernel, by decide +kernel, wayF (by decide +kernel) ?_⟩ | refine ⟨by decide +kernel, by decide +kernel, wayT (by decide +kernel) ?_⟩ | refine ⟨by decide +kernel, ?_⟩ | refine ⟨Nat.le_of_ble_eq_true rfl, ?_⟩ | refine at_is rfl ?_)))
local instance notinTup14_06 {x : D} {xs : List D} {st : Store} {r : Bool → Prop} : Red (notinC x (.tup xs) st r) (x.flat = true ∧ xs.all D.flat = true ∧ r (!(xs.any fun y => D.eqb y x))) := ⟨id⟩
local macro_rules | `(tactic| walk_at "s") => `(tactic| (repeat (refine Red.red ?_)))
local macro_rules | `(tactic| walk_at "r") => `(tactic| (repeat (first | refine Red.red ?_ | refine Nxt.mk ?_)))
local macro_rules | `(tactic| walk_at "v") => `(tactic| (repeat (first | refine Red.red ?_ | refine Nxt.mk ?_ | refine ⟨Nat.le_of_ble_eq_true rfl, ?_⟩ | refine at_is rfl ?_)))
local macro_rules | `(tactic| walk_at "w") => `(tactic| (repeat (first | refine Red.red ?_ | refine Nxt.mk ?_ | refine wayF rfl ?_ | refine wayT rfl ?_ | refine ⟨Nat.le_of_ble_eq_true rfl, ?_⟩ | refine at_is rfl ?_)))
local macro_rules | `(tactic| walk_at "u") => `(tactic| (repeat (first | refine Red.red ?_ | refine Nxt.mk ?_ | refine ⟨Nat.le_of_ble_eq_true rfl, ?_⟩ | refine at_is rfl ?_ | refine ⟨by decide +kernel, by decide +kernel, wayF (by decide +kernel) ?_⟩ | refine ⟨by decide +kernel, by decide +kernel, wayT (by decide +kernel) ?_⟩ | refine ⟨by decide +kernel, by decide +kernel, ?_⟩ | refine wayF (by decide +kernel) ?_ | refine wayT (by decide +kernel) ?_)))
local instance inNewB14_06 {x : D} {xs : List D} {st : Store} {r : Bool → Prop} : Red (inC x (.ref st.length) (st ++ [.lst xs]) r) (x.flat = true ∧ xs.all D.flat = true ∧ r (xs.any fun y => D.eqb y x)) := ⟨fun h => ⟨xs, .inl (by simp [rdL]), h⟩⟩
local instance inTupN14_06 {x : D} {xs : List D} {st : Store} {r : Bool → Prop} : Red (inC x (.tup xs) st r) (x.flat = true ∧ xs.all D.flat = true ∧ r (xs.any fun y => D.eqb y x)) := ⟨id⟩
local macro_rules | `(tactic| walk_at "z") => `(tactic| (repeat (first | refine Red.red ?_ | refine Nxt.mk ?_ | refine ⟨by decide +kernel, by decide +kernel, wayF (by decide +kernel) ?_⟩ | refine ⟨by decide +kernel, by decide +kernel, wayT (by decide +kernel) ?_⟩ | refine ⟨by decide +kernel, ?_⟩ | refine ⟨Nat.le_of_ble_eq_true rfl, ?_⟩ | refine wayF rfl ?_ | refine wayT rfl ?_ | refine at_is rfl ?_)))
local macro_rules | `(tactic| walk_at "y") => `(tactic| (repeat (first | refine Red.red ?_ | refine ⟨by decide +kernel, by decide +kernel, wayF (by decide +kernel) ?_⟩ | refine ⟨by decide +kernel, by decide +kernel, wayT (by decide +kernel) ?_⟩ | refine ⟨by decide +kernel, ?_⟩ | refine ⟨Nat.le_of_ble_eq_true rfl, ?_⟩ | refine wayF rfl ?_ | refine wayT rfl ?_ | refine at_is rfl ?_)))
/-! k06, text 14. Own work. -/
/-! texts -/
def isBr (s : Str) : Bool := [D.str (Str.ofString "{"), D.str (Str.ofString "}"), D.str (Str.ofString ";")].any fun y => y.eqb (.str s)
def sep (s : Str) : Str := if isBr s then Str.ofString "\n" else Str.ofString " "
def txt (ts : List Str) : Str := ⟨(ts.flatMap fun s => (s ++ sep s).cps.toList).toArray⟩
theorem str_ext {a b : Str} (h : a.cps.toList = b.cps.toList) : a = b := by
  cases a with
  | mk x => cases b with
    | mk y =>
      have : x = y := Array.ext' h
      rw [this]
theorem txt_cl (ts : List Str) : (txt ts).cps.toList = ts.flatMap fun s => (s ++ sep s).cps.toList := by simp [txt]
theorem txt_snoc (ts : List Str) (s : Str) : txt (ts ++ [s]) = txt ts ++ s ++ sep s := by
  apply str_ext
  rw [txt_cl, txt_cps, txt_cps, txt_cl, List.flatMap_append]
  simp [txt_cps]
theorem join_cps : ∀ ys : List Str, (PySem.Txt.join ("" : Str) ys).cps.toList = ys.flatMap fun s => s.cps.toList := by
  intro ys
  rw [TL.join_eq]
  have h0 : ("" : Str).cps.toList = [] := by decide +kernel
  induction ys with
  | nil => rfl
  | cons s ys ih =>
    cases ys with
    | nil => simp [Str.join]
    | cons t ys =>
      show (s ++ ("" : Str) ++ Str.join ("" : Str) (t :: ys)).cps.toList = _
      rw [txt_cps, txt_cps, ih, h0, List.append_nil]; rfl
theorem join_lines (ts : List Str) : PySem.Txt.join ("" : Str) (ts.map fun s => s ++ sep s) = txt ts := by
  apply str_ext
  rw [join_cps, txt_cl, List.flatMap_map]
theorem join_txts (rs : List (List Str)) : PySem.Txt.join ("" : Str) (rs.map txt) = txt rs.flatten := by
  apply str_ext
  rw [join_cps, txt_cl, List.flatMap_map]
  induction rs with
  | nil => rfl
  | cons r rs ih =>
    rw [List.flatMap_cons, ih, List.flatten_cons, List.flatMap_append, txt_cl]
theorem sep_tx (s : Str) : Tx 1 (sep s) := by
  unfold sep
  split
  · exact ⟨by decide +kernel, by decide +kernel⟩
  · exact ⟨by decide +kernel, by decide +kernel⟩
theorem txt_tx {ts : List Str} (h : ∀ s ∈ ts, Tx 8 s) : Tx (ts.length * 9) (txt ts) := by
  rw [← join_lines]
  have := join_tx (ts.map fun s => s ++ sep s) (b := 9) fun s hs => by
    obtain ⟨t, ht, rfl⟩ := List.mem_map.mp hs
    exact (h t ht).app (sep_tx t)
  rwa [List.length_map] at this
section
variable {k m n : Nat} {st st' s0 : Store} {Q R : K}
theorem len_sum {ts : List Str} (h : ∀ s ∈ ts, Tx 8 s) : ((ts.map fun s => s ++ sep s).map (·.length)).sum ≤ ts.length * 9 := by
  induction ts with
  | nil => simp
  | cons a ts ih =>
    have h1 := ((h a (by simp)).app (sep_tx a)).2
    have h2 := ih fun s hs => h s (List.mem_cons_of_mem _ hs)
    rw [List.map_cons, List.map_cons, List.sum_cons, List.length_cons, Nat.add_mul]
    omega
theorem joined_ok {ts : List Str} (hm : 1 ≤ m) (hr : rdL st n (ts.map D.str)) (ht : ∀ s ∈ ts, Tx 8 s) (hl : ts.length ≤ 1800000) (q : ∀ st', Grw st st' → Q (.str (txt ts)) st') : callN prog m "joined_lines" [.ref n] st Q := by
  obtain ⟨m, rfl⟩ : ∃ n, m = n + 1 := ⟨m - 1, by omega⟩
  refine call_intro rfl rfl ?_
  unfold b_p_joined_lines
  walk_at "s"
  refine ⟨trivial, ?_⟩
  walk_at "s"
  refine it_at hr ?_
  refine lc_map ts D.str (fun s => .str (s ++ sep s)) rfl (by unfold szl; omega) (fun acc => .inl (rdL_app hr)) (fun s hs acc N hN => ?_) ?_
  · have h8 := (ht s hs).2
    have h9 := (sep_tx s).2
    walk_at "s"
    refine ⟨Nat.le_of_ble_eq_true rfl, ?_⟩
    walk_at "s"
    refine ⟨rfl, by decide +kernel, ?_⟩
    walk_at "s"
    unfold sep isBr at hN
    refine way (fun e => ?_) (fun e => ?_)
    · rw [e] at hN
      walk_at "s"
      refine ⟨?_, hN⟩
      have : (Str.ofString "\n").length = 1 := by decide +kernel
      unfold szl; omega
    · rw [e] at hN
      walk_at "s"
      refine ⟨?_, hN⟩
      have : (Str.ofString " ").length = 1 := by decide +kernel
      unfold szl; omega
  walk_at "s"
  refine ⟨ts.map fun s => s ++ sep s, ?_, ?_, ?_⟩
  · rw [List.map_map]
    exact .inl rdL_new
  · have h1 := len_sum ht
    have h2 : (Str.ofString "").length = 0 := by decide +kernel
    rw [h2, Nat.mul_zero]
    omega
  · rw [join_lines]
    exact q _ ((Grw.refl st).app)
theorem lines_ok {ts : List Str} (hm : 1 ≤ m) (hr : rdL st n (ts.map D.str)) (ht : ∀ s ∈ ts, Tx 8 s) (hl : ts.length ≤ 1800000) (q : ∀ st', Grw st st' → Q (.str (txt ts)) st') : callN prog m "_law_lines" [.ref n] st Q := by
  obtain ⟨m, rfl⟩ : ∃ n, m = n + 1 := ⟨m - 1, by omega⟩
  refine call_intro rfl rfl ?_
  unfold b_l_lines
  walk_at "z"
  refine it_at hr ?_
  refine for_map ts D.str rfl (fun j σ st' => ∃ o2, σ = [some (.ref n), some (.str (txt (ts.take j))), o2] ∧ st' = st) ⟨none, rfl, rfl⟩ (fun j s σ st1 hj ⟨o2, e, e2⟩ N hN => ?_) (fun σ st1 ⟨o2, e, e2⟩ => ?_)
  · subst e e2
    refine ⟨.inl hr, ?_⟩
    have hs := List.mem_of_getElem? hj
    have h8 := (ht s hs).2
    have h9 := (sep_tx s).2
    have hT := (txt_tx (ts := ts.take j) fun s hs => ht s (List.mem_of_mem_take hs)).2
    have hjl := (List.getElem?_eq_some_iff.mp hj).1
    rw [List.length_take, Nat.min_eq_left (by omega)] at hT
    have hlen := txt_alen (txt (ts.take j)) s
    walk_at "s"
    refine ⟨by unfold szl; omega, ?_⟩
    walk_at "s"
    refine ⟨Nat.le_of_ble_eq_true rfl, ?_⟩
    walk_at "s"
    refine ⟨rfl, by decide +kernel, ?_⟩
    walk_at "s"
    have htk : ts.take (j + 1) = ts.take j ++ [s] := by rw [List.take_add_one, hj]; rfl
    have hN' : N [some (.ref n), some (.str (txt (ts.take j) ++ s ++ sep s)), some (.str s)] st1 := hN _ _ ⟨_, by rw [htk, txt_snoc], rfl⟩
    have hsep : sep s = if isBr s then Str.ofString "\n" else Str.ofString " " := rfl
    unfold isBr at hsep
    refine way (fun e => ?_) (fun e => ?_)
    · rw [e] at hsep
      rw [hsep] at hN' h9
      walk_at "s"
      refine ⟨?_, hN'⟩
      have h9' : (Str.ofString "\n").length ≤ 1 := h9
      unfold szl; omega
    · rw [e] at hsep
      rw [hsep] at hN' h9
      walk_at "s"
      refine ⟨?_, hN'⟩
      have h9' : (Str.ofString " ").length ≤ 1 := h9
      unfold szl; omega
  · subst e e2
    refine ⟨.inl hr, ?_⟩
    rw [List.take_length]
    walk_at "z"
    exact q _ (.refl _)
end
end Pk06
end PartPdk06P14

section PartPdk06P15
set_option Elab.async false
set_option linter.all false
set_option maxRecDepth 100000
set_option maxHeartbeats 1000000
namespace Pk06
open PySem Pd
local macro_rules | `(tactic| walk_at "t") => `(tactic| (repeat (first | refine Red.red ?_ | refine Nxt.mk ?_ | refine ⟨by decide +kernel, by decide +kernel, wayF (by decide +kernel) ?_⟩ | refine ⟨by decide +kernel, by decide +kernel, wayT (by decide +kernel) ?_⟩ | refine ⟨by decide +kernel, ?_⟩ | refine ⟨Nat.le_of_ble_eq_true rfl, ?_⟩ | refine at_is rfl ?_)))
local instance notinTup15_06 {x : D} {xs : List D} {st : Store} {r : Bool → Prop} : Red (notinC x (.tup xs) st r) (x.flat = true ∧ xs.all D.flat = true ∧ r (!(xs.any fun y => D.eqb y x))) := ⟨id⟩
local macro_rules | `(tactic| walk_at "s") => `(tactic| (repeat (refine Red.red ?_)))
local macro_rules | `(tactic| walk_at "r") => `(tactic| (repeat (first | refine Red.red ?_ | refine Nxt.mk ?_)))
local macro_rules | `(tactic| walk_at "v") => `(tactic| (repeat (first | refine Red.red ?_ | refine Nxt.mk ?_ | refine ⟨Nat.le_of_ble_eq_true rfl, ?_⟩ | refine at_is rfl ?_)))
local macro_rules | `(tactic| walk_at "w") => `(tactic| (repeat (first | refine Red.red ?_ | refine Nxt.mk ?_ | refine wayF rfl ?_ | refine wayT rfl ?_ | refine ⟨Nat.le_of_ble_eq_true rfl, ?_⟩ | refine at_is rfl ?_)))
local macro_rules | `(tactic| walk_at "u") => `(tactic| (repeat (first | refine Red.red ?_ | refine Nxt.mk ?_ | refine ⟨Nat.le_of_ble_eq_true rfl, ?_⟩ | refine at_is rfl ?_ | refine ⟨by decide +kernel, by decide +kernel, wayF (by decide +kernel) ?_⟩ | refine ⟨by decide +kernel, by decide +kernel, wayT (by decide +kernel) ?_⟩ | refine ⟨by decide +kernel, by decide +kernel, ?_⟩ | refine wayF (by decide +kernel) ?_ | refine wayT (by decide +kernel) ?_)))
local instance inNewB15_06 {x : D} {xs : List D} {st : Store} {r : Bool → Prop} : Red (inC x (.ref st.length) (st ++ [.lst xs]) r) (x.flat = true ∧ xs.all D.flat = true ∧ r (xs.any fun y => D.eqb y x)) := ⟨fun h => ⟨xs, .inl (by simp [rdL]), h⟩⟩
local instance inTupN15_06 {x : D} {xs : List D} {st : Store} {r : Bool → Prop} : Red (inC x (.tup xs) st r) (x.flat = true ∧ xs.all D.flat = true ∧ r (xs.any fun y => D.eqb y x)) := ⟨id⟩
local macro_rules | `(tactic| walk_at "z") => `(tactic| (repeat (first | refine Red.red ?_ | refine Nxt.mk ?_ | refine ⟨by decide +kernel, by decide +kernel, wayF (by decide +kernel) ?_⟩ | refine ⟨by decide +kernel, by decide +kernel, wayT (by decide +kernel) ?_⟩ | refine ⟨by decide +kernel, ?_⟩ | refine ⟨Nat.le_of_ble_eq_true rfl, ?_⟩ | refine wayF rfl ?_ | refine wayT rfl ?_ | refine at_is rfl ?_)))
local macro_rules | `(tactic| walk_at "y") => `(tactic| (repeat (first | refine Red.red ?_ | refine ⟨by decide +kernel, by decide +kernel, wayF (by decide +kernel) ?_⟩ | refine ⟨by decide +kernel, by decide +kernel, wayT (by decide +kernel) ?_⟩ | refine ⟨by decide +kernel, ?_⟩ | refine ⟨Nat.le_of_ble_eq_true rfl, ?_⟩ | refine wayF rfl ?_ | refine wayT rfl ?_ | refine at_is rfl ?_)))
/-! k06, text 15. Own work. -/
theorem comma_mem {r : List (List Str)} {s : Str} (h : s ∈ comma r) : s = S' "," ∨ ∃ ts ∈ r, s ∈ ts := by
  cases r with
  | nil => cases h
  | cons a r =>
    have h : s ∈ a ++ r.flatMap fun u => [S' ","] ++ u := h
    rcases List.mem_append.mp h with h | h
    · exact .inr ⟨a, by simp, h⟩
    · obtain ⟨u, hu, h⟩ := List.mem_flatMap.mp h
      simp at h
      rcases h with h | h
      · exact .inl h
      · exact .inr ⟨u, by simp [hu], h⟩
theorem PlP.tx {x : D} {ts : List Str} (h : PlP x ts) : ∀ s ∈ ts, Tx 8 s := by
  have e3 : Tx 8 (S' ",") := sg (by decide +kernel)
  have e4 : Tx 8 (S' ";") := sg (by decide +kernel)
  have e5 : Tx 8 (S' "=") := sg (by decide +kernel)
  intro s hs
  cases h with
  | raise h =>
    simp at hs
    rcases hs with rfl | rfl | rfl
    · exact sg (by decide +kernel)
    · exact h
    · exact e4
  | make ha hb =>
    simp at hs
    rcases hs with rfl | rfl | rfl | rfl | rfl
    · exact sg (by decide +kernel)
    · exact ha
    · exact e5
    · exact hb
    · exact e4
  | lt hx hy =>
    simp at hs
    rcases hs with rfl | hs | rfl | hs | rfl
    · exact sg (by decide +kernel)
    · exact hx.tx s hs
    · exact e5
    · exact hy.tx s hs
    · exact e4
  | ret hx =>
    simp at hs
    rcases hs with rfl | hs | rfl
    · exact sg (by decide +kernel)
    · exact hx.tx s hs
    · exact e4
  | asrt hx =>
    simp at hs
    rcases hs with rfl | hs | rfl
    · exact sg (by decide +kernel)
    · exact hx.tx s hs
    · exact e4
  | @call t n ps ht hn hp =>
    simp at hs
    rcases hs with rfl | hs | rfl | rfl | hs | rfl | rfl
    · exact sg (by decide +kernel)
    · cases t with
      | none => cases hs
      | some u =>
        simp [tgT] at hs
        rcases hs with rfl | rfl
        · exact ht _ rfl
        · exact e5
    · exact hn
    · exact sg (by decide +kernel)
    · rcases comma_mem hs with rfl | ⟨ts, h1, h2⟩
      · exact e3
      · obtain ⟨p, hp', rfl⟩ := List.mem_map.mp h1
        obtain ⟨l, e⟩ := hp p hp'
        exact e.tx s h2
    · exact sg (by decide +kernel)
    · exact e4
theorem Rows.tx {P : D → List Str → Prop} (hP : ∀ x ts, P x ts → ∀ s ∈ ts, Tx 8 s) {b : List D} {bt : List Str} (h : Rows P b bt) : ∀ s ∈ bt, Tx 8 s := by
  obtain ⟨ps, rfl, rfl, hp⟩ := h
  intro s hs
  obtain ⟨ts, h1, h2⟩ := List.mem_flatten.mp hs
  obtain ⟨p, hp', rfl⟩ := List.mem_map.mp h1
  exact hP _ _ (hp p hp') s h2
theorem blk_tx {ts : List Str} (h : ∀ s ∈ ts, Tx 8 s) : ∀ s ∈ blk ts, Tx 8 s := by
  intro s hs
  simp [blk] at hs
  rcases hs with rfl | hs | rfl
  · exact sg (by decide +kernel)
  · exact h s hs
  · exact sg (by decide +kernel)
theorem StP.tx : ∀ (d : Nat) {x : D} {ts : List Str}, StP d x ts → ∀ s ∈ ts, Tx 8 s
  | 0, _, _, h => PlP.tx h
  | d + 1, x, ts, h => by
    have hP : ∀ x ts, StP d x ts → ∀ s ∈ ts, Tx 8 s := fun x ts h => StP.tx d h
    rcases h with h | ⟨e, l, et, b, bt, he, hb, h1, rfl⟩ | ⟨e, l, et, b, c, bt, ct, he, hb, hc, h1, rfl⟩ | ⟨b, cs, bt, ct, hb, hcs, h1, rfl⟩
    · exact PlP.tx h
    · intro s hs
      simp at hs
      rcases hs with rfl | hs | hs
      · exact sg (by decide +kernel)
      · exact he.tx s hs
      · exact blk_tx (hb.tx hP) s hs
    · intro s hs
      rcases List.mem_append.mp hs with hs | hs
      · simp at hs
        rcases hs with rfl | hs | hs
        · exact sg (by decide +kernel)
        · exact he.tx s hs
        · exact blk_tx (hb.tx hP) s hs
      · split at hs
        · cases hs
        · simp at hs
          rcases hs with rfl | hs
          · exact sg (by decide +kernel)
          · exact blk_tx (hc.tx hP) s hs
    · intro s hs
      simp at hs
      rcases hs with rfl | hs | hs
      · exact sg (by decide +kernel)
      · exact blk_tx (hb.tx hP) s hs
      · refine hcs.tx (P := CaP (StP d)) (fun x ts h => ?_) s hs
        obtain ⟨n, b2, bt2, q1, q2, q3, rfl⟩ := h
        intro s hs
        simp at hs
        rcases hs with rfl | rfl | hs
        · exact sg (by decide +kernel)
        · exact q1
        · exact blk_tx (q2.tx hP) s hs
theorem KiP.tx {x : D} {s : Str} (h : KiP x s) : Tx 8 s := by
  rcases h with ⟨v, hv, rfl, rfl⟩ | ⟨ht, rfl⟩
  · exact (nmS_tx hv).1.more (by decide)
  · exact ht
theorem parT_tx {qs : List Pr} (hq : ∀ q ∈ qs, PrOk q) : ∀ s ∈ parT qs, Tx 8 s := by
  intro s hs
  simp [parT] at hs
  rcases hs with rfl | hs | rfl
  · exact sg (by decide +kernel)
  · rcases comma_mem hs with rfl | ⟨ts, h1, h2⟩
    · exact sg (by decide +kernel)
    · obtain ⟨q, hq', rfl⟩ := List.mem_map.mp h1
      have ok := hq q hq'
      simp [parF] at h2
      rcases h2 with rfl | rfl | rfl
      · exact ok.1
      · exact sg (by decide +kernel)
      · exact ok.2.tx
  · exact sg (by decide +kernel)
theorem PtP.tx {x : D} {ts : List Str} (h : PtP x ts) : ∀ s ∈ ts, Tx 8 s := by
  cases h with
  | record qs hn hq =>
    intro s hs
    simp at hs
    rcases hs with rfl | rfl | rfl | ⟨a, b, c, hq', h2⟩ | rfl
    · exact sg (by decide +kernel)
    · exact hn
    · exact sg (by decide +kernel)
    · have ok := hq _ hq'
      simp [recF] at h2
      rcases h2 with rfl | rfl | rfl | rfl
      · exact ok.1
      · exact sg (by decide +kernel)
      · exact ok.2.tx
      · exact sg (by decide +kernel)
    · exact sg (by decide +kernel)
  | ext qs hn hq hw hx hy =>
    intro s hs
    simp at hs
    rcases hs with rfl | rfl | hs | rfl | rfl | ⟨_, rfl⟩ | rfl | hs | rfl | hs | rfl
    · exact sg (by decide +kernel)
    · exact hn
    · exact parT_tx hq s hs
    · exact sg (by decide +kernel)
    · exact (nmS_tx hw).1.more (by decide)
    · exact sg (by decide +kernel)
    · exact sg (by decide +kernel)
    · exact hx.tx s hs
    · exact sg (by decide +kernel)
    · exact hy.tx s hs
    · exact sg (by decide +kernel)
  | fn qs vs hn hq hk hv hb =>
    intro s hs
    rcases List.mem_append.mp hs with hs | hs
    rcases List.mem_append.mp hs with hs | hs
    rcases List.mem_append.mp hs with hs | hs
    rcases List.mem_append.mp hs with hs | hs
    · split at hs
      · simp at hs
        subst hs
        exact sg (by decide +kernel)
      · cases hs
    · simp at hs
      rcases hs with rfl | rfl | hs | rfl | rfl | rfl
      · exact sg (by decide +kernel)
      · exact hn
      · exact parT_tx hq s hs
      · exact sg (by decide +kernel)
      · exact hk.tx
      · exact sg (by decide +kernel)
    · obtain ⟨v, hv', h2⟩ := List.mem_flatMap.mp hs
      have ok := hv v hv'
      simp [vrF] at h2
      rcases h2 with rfl | rfl | rfl | rfl | h2 | rfl
      · exact sg (by decide +kernel)
      · exact ok.1.1
      · exact sg (by decide +kernel)
      · exact ok.1.2.tx
      · split at h2
        · simp at h2
          rcases h2 with rfl | rfl | rfl
          · exact sg (by decide +kernel)
          · exact (nmS_tx (ok.2 _ (by assumption))).1.more (by decide)
          · exact sg (by decide +kernel)
        · cases h2
      · exact sg (by decide +kernel)
    · exact hb.tx (fun x ts h => StP.tx 22 h) s hs
    · simp at hs
      subst hs
      exact sg (by decide +kernel)
section
variable {k m n : Nat} {st st' s0 : Store} {Q R : K}
theorem ptext_ok {x : D} {ts : List Str} (h : PtP x ts) (hm : 172 ≤ m) (hl : ts.length ≤ 1800000) (q : ∀ st', Grw st st' → Q (.str (txt ts)) st') : callN prog m "text_of" [x] st Q := by
  obtain ⟨m, rfl⟩ : ∃ n, m = n + 1 := ⟨m - 1, by omega⟩
  refine call_intro rfl rfl ?_
  unfold b_p_text_of
  walk_at "s"
  refine pdec_ok h (by omega) (by omega) _ _ fun n1 st1 r1 g1 l1 => ?_
  walk_at "s"
  exact joined_ok (by omega) r1 h.tx hl fun st2 g2 => q _ (g1.trans g2)
theorem ltext_ok {x : D} {ts : List Str} (h : PtP x ts) (hm : 172 ≤ m) (hl : ts.length ≤ 1800000) (q : ∀ st', Grw st st' → Q (.str (txt ts)) st') : callN prog m "_law_text" [x] st Q := by
  obtain ⟨m, rfl⟩ : ∃ n, m = n + 1 := ⟨m - 1, by omega⟩
  refine call_intro rfl rfl ?_
  unfold b_l_text
  walk_at "s"
  refine ldec_ok h (by omega) (by omega) _ _ fun n1 st1 r1 g1 l1 => ?_
  walk_at "s"
  exact lines_ok (by omega) r1 h.tx hl fun st2 g2 => q _ (g1.trans g2)
theorem pwrite_ok {ps : List (D × List Str)} (h : ∀ p ∈ ps, PtP p.1 p.2) (hm : 172 ≤ m) (hl : (ps.map (·.2)).flatten.length ≤ 1800000) (q : ∀ st', Grw st st' → Q (.str (txt (ps.map (·.2)).flatten)) st') : callN prog m "write_program" [.tup (ps.map (·.1))] st Q := by
  obtain ⟨m, rfl⟩ : ∃ n, m = n + 1 := ⟨m - 1, by omega⟩
  have htx : ∀ s ∈ (ps.map (·.2)).flatten, Tx 8 s := (show Rows PtP (ps.map (·.1)) _ from ⟨ps, rfl, rfl, h⟩).tx fun x ts h => h.tx
  refine call_intro rfl rfl ?_
  unfold b_p_write_program
  walk_at "s"
  refine ⟨Nat.le_of_ble_eq_true rfl, ?_⟩
  walk_at "s"
  refine Nxt.mk ?_
  refine Red.red ?_
  refine ext_rows (a := []) ps ((Grw.refl st).app) (Nat.le_refl _) (fun p hp => pdec_ok (h p hp) (by omega) (by have := flat_mem hp; omega)) rdL_new (by show 0 + _ ≤ _; omega) fun o2 st1 r1 g1 => ?_
  refine Nxt.mk ?_
  walk_at "s"
  exact joined_ok (by omega) r1 htx hl fun st2 g2 => q _ (g1.trans g2)
theorem lwrite_ok {ps : List (D × List Str)} (h : ∀ p ∈ ps, PtP p.1 p.2) (hm : 173 ≤ m) (hl : (ps.map (·.2)).flatten.length ≤ 1800000) (hn : ps.length ≤ 1000) (q : ∀ st', Grw st st' → Q (.str (txt (ps.map (·.2)).flatten)) st') : callN prog m "_law_write" [.tup (ps.map (·.1))] st Q := by
  obtain ⟨m, rfl⟩ : ∃ n, m = n + 1 := ⟨m - 1, by omega⟩
  refine call_intro rfl rfl ?_
  unfold b_l_write
  walk_at "s"
  refine ⟨trivial, ?_⟩
  walk_at "s"
  refine lc_mapG ps (·.1) (fun p => .str (txt p.2)) rfl (by unfold szl; omega) (fun _ _ => trivial) (fun p hp st1 N f1 hN => ?_) fun st1 f1 hr => ?_
  · walk_at "s"
    exact ltext_ok (h p hp) (by omega) (by have := flat_mem hp; omega) hN
  walk_at "s"
  refine ⟨(ps.map (·.2)).map txt, ?_, ?_, ?_⟩
  · rw [List.map_map, List.map_map]
    exact .inl hr
  · have h2 : (Str.ofString "").length = 0 := by decide +kernel
    rw [h2, Nat.mul_zero]
    have : (((ps.map (·.2)).map txt).map (·.length)).sum ≤ (ps.map (·.2)).flatten.length * 9 := by
      clear hr f1 hl q hn
      induction ps with
      | nil => simp
      | cons p ps ih =>
        have h1 := (txt_tx (h p (by simp)).tx).2
        have h2 := ih fun p hp => h p (List.mem_cons_of_mem _ hp)
        rw [List.map_cons, List.map_cons, List.map_cons, List.sum_cons, List.flatten_cons, List.length_append, Nat.add_mul]
        omega
    omega
  · rw [join_txts]
    exact q _ f1.grw
end
end Pk06
end PartPdk06P15

section PartPdk06P16
set_option Elab.async false
set_option linter.all false
set_option maxRecDepth 100000
set_option maxHeartbeats 1000000
namespace Pk06
open PySem Pd
local macro_rules | `(tactic| walk_at "t") => `(tactic| (repeat (first | refine Red.red ?_ | refine Nxt.mk ?_ | refine ⟨by decide +kernel, by decide +kernel, wayF (by decide +kernel) ?_⟩ | refine ⟨by decide +kernel, by decide +kernel, wayT (by decide +kernel) ?_⟩ | refine ⟨by decide +kernel, ?_⟩ | refine ⟨Nat.le_of_ble_eq_true rfl, ?_⟩ | refine at_is rfl ?_)))
local instance notinTup16_06 {x : D} {xs : List D} {st : Store} {r : Bool → Prop} : Red (notinC x (.tup xs) st r) (x.flat = true ∧ xs.all D.flat = true ∧ r (!(xs.any fun y => D.eqb y x))) := ⟨id⟩
local macro_rules | `(tactic| walk_at "s") => `(tactic| (repeat (refine Red.red ?_)))
local macro_rules | `(tactic| walk_at "r") => `(tactic| (repeat (first | refine Red.red ?_ | refine Nxt.mk ?_)))
local macro_rules | `(tactic| walk_at "v") => `(tactic| (repeat (first | refine Red.red ?_ | refine Nxt.mk ?_ | refine ⟨Nat.le_of_ble_eq_true rfl, ?_⟩ | refine at_is rfl ?_)))
local macro_rules | `(tactic| walk_at "w") => `(tactic| (repeat (first | refine Red.red ?_ | refine Nxt.mk ?_ | refine wayF rfl ?_ | refine wayT rfl ?_ | refine ⟨Nat.le_of_ble_eq_true rfl, ?_⟩ | refine at_is rfl ?_)))
local macro_rules | `(tactic| walk_at "u") => `(tactic| (repeat (first | refine Red.red ?_ | refine Nxt.mk ?_ | refine ⟨Nat.le_of_ble_eq_true rfl, ?_⟩ | refine at_is rfl ?_ | refine ⟨by decide +kernel, by decide +kernel, wayF (by decide +kernel) ?_⟩ | refine ⟨by decide +kernel, by decide +kernel, wayT (by decide +kernel) ?_⟩ | refine ⟨by decide +kernel, by decide +kernel, ?_⟩ | refine wayF (by decide +kernel) ?_ | refine wayT (by decide +kernel) ?_)))
local instance inNewB16_06 {x : D} {xs : List D} {st : Store} {r : Bool → Prop} : Red (inC x (.ref st.length) (st ++ [.lst xs]) r) (x.flat = true ∧ xs.all D.flat = true ∧ r (xs.any fun y => D.eqb y x)) := ⟨fun h => ⟨xs, .inl (by simp [rdL]), h⟩⟩
local instance inTupN16_06 {x : D} {xs : List D} {st : Store} {r : Bool → Prop} : Red (inC x (.tup xs) st r) (x.flat = true ∧ xs.all D.flat = true ∧ r (xs.any fun y => D.eqb y x)) := ⟨id⟩
local macro_rules | `(tactic| walk_at "z") => `(tactic| (repeat (first | refine Red.red ?_ | refine Nxt.mk ?_ | refine ⟨by decide +kernel, by decide +kernel, wayF (by decide +kernel) ?_⟩ | refine ⟨by decide +kernel, by decide +kernel, wayT (by decide +kernel) ?_⟩ | refine ⟨by decide +kernel, ?_⟩ | refine ⟨Nat.le_of_ble_eq_true rfl, ?_⟩ | refine wayF rfl ?_ | refine wayT rfl ?_ | refine at_is rfl ?_)))
local macro_rules | `(tactic| walk_at "y") => `(tactic| (repeat (first | refine Red.red ?_ | refine ⟨by decide +kernel, by decide +kernel, wayF (by decide +kernel) ?_⟩ | refine ⟨by decide +kernel, by decide +kernel, wayT (by decide +kernel) ?_⟩ | refine ⟨by decide +kernel, ?_⟩ | refine ⟨Nat.le_of_ble_eq_true rfl, ?_⟩ | refine wayF rfl ?_ | refine wayT rfl ?_ | refine at_is rfl ?_)))
/-! k06, text 16. Own work. -/
/-! drawn exprs -/
structure Dw (ln : Nat) (st st' : Store) : Prop where
  fr : FraE ln st st'
  lf : ∃ a b : Int, rdL st' ln [.int a, .int b]
  big : 2 < ln
section
variable {k m n ln : Nat} {st st' st2 s0 : Store} {Q R : K}
theorem Dw.dr (h : Dw ln st st') : DrawAt st' := h.fr.dr
theorem Dw.refl (hd : DrawAt st) (lf : ∃ a b : Int, rdL st ln [.int a, .int b]) (big : 2 < ln) : Dw ln st st := ⟨FraE.of (Fra.refl hd), lf, big⟩
theorem Dw.fra (h : Dw ln st st') (f : Fra st' st2) : Dw ln st st2 := ⟨h.fr.trans (FraE.of f), by obtain ⟨a, b, r⟩ := h.lf; exact ⟨a, b, f.rd r (by have := h.big; omega)⟩, h.big⟩
theorem Dw.trans (h : Dw ln st st') (h' : Dw ln st' st2) : Dw ln st st2 := ⟨h.fr.trans h'.fr, h'.lf, h.big⟩
theorem Dw.app {c : C} (h : Dw ln st st') : Dw ln st (st' ++ [c]) := h.fra ((Fra.refl h.dr).app)
theorem Dw.setL {a b : Int} (h : Dw ln st st') : Dw ln st (st'.set ln (.lst [.int a, .int b])) := by
  obtain ⟨_, _, r⟩ := h.lf
  exact ⟨h.fr.setP h.big, ⟨a, b, rdL_set r⟩, h.big⟩
theorem Dw.rd {xs : List D} (h : Dw ln st st') (r : rdL st n xs) (h2 : n ≠ 2) (hl : n ≠ ln) : rdL st' n xs := h.fr.rd r h2 hl
theorem nat_of {r : Int} (r0 : 0 ≤ r) (r1 : r < 256) : ∃ v : Nat, v < 256 ∧ r = (v : Int) := ⟨r.toNat, by omega, by omega⟩
theorem numN (hm : 3 ≤ m) (hd : DrawAt st) (q : ∀ (v : Nat) st', v < 256 → Fra st st' → Q (.int (v : Int)) st') : callN prog m "_law_any_number" [.ref 2] st Q :=
  number_ok hm hd fun r st' r0 r1 f => by
    obtain ⟨v, hv, rfl⟩ := nat_of r0 r1
    exact q v st' hv f
def TB : Nat → Nat
  | 0 => 3
  | d + 1 => 3 * TB d + 8
theorem TB_mono {a b : Nat} (h : a ≤ b) : TB a ≤ TB b := by
  obtain ⟨k, rfl⟩ := Nat.exists_eq_add_of_le h
  clear h
  induction k with
  | zero => exact Nat.le_refl _
  | succ k ih =>
    have : TB (a + (k + 1)) = 3 * TB (a + k) + 8 := rfl
    omega
def ExG (d : Nat) (x : D) (ts : List Str) : Prop := ∃ l, ExP d x l ts ∧ ts.length ≤ TB d
theorem leaf_ok {d : Nat} (hm : 5 ≤ m) (hd : DrawAt st) (q : ∀ x ts st', ExG d x ts → Fra st st' → Q x st') : callN prog m "_law_any_leaf" [.ref 2] st Q := by
  obtain ⟨m, rfl⟩ : ∃ n, m = n + 1 := ⟨m - 1, by omega⟩
  have hTB : 3 ≤ TB d := TB_mono (a := 0) (Nat.zero_le d)
  refine call_intro rfl rfl ?_
  unfold b_l_any_leaf
  walk_at "s"
  refine drawM (by omega) hd (by decide) (by decide) fun z st1 z0 z1 f1 => ?_
  rcases (by omega : z = 1 ∨ z = 4 ∨ z = 2 ∨ z = 3 ∨ z = 0 ∨ z = 5) with rfl | rfl | rfl | rfl | rfl | rfl
  · walk_at "z"
    refine numN (by omega) f1.dr fun v st2 hv f2 => ?_
    walk_at "z"
    refine numN (by omega) f2.dr fun w st3 hw f3 => ?_
    walk_at "z"
    exact q _ _ _ ⟨9, .word hv hw, hTB⟩ ((f1.trans f2).trans f3)
  · walk_at "z"
    refine numN (by omega) f1.dr fun v st2 hv f2 => ?_
    walk_at "z"
    refine numN (by omega) f2.dr fun w st3 hw f3 => ?_
    walk_at "z"
    exact q _ _ _ ⟨9, .word hv hw, hTB⟩ ((f1.trans f2).trans f3)
  · walk_at "z"
    refine name_ok (by omega) f1.dr fun s st2 hs f2 => ?_
    walk_at "z"
    refine name_ok (by omega) f2.dr fun s' st3 hs' f3 => ?_
    walk_at "z"
    exact q _ _ _ ⟨9, .field hs hs', hTB⟩ ((f1.trans f2).trans f3)
  · walk_at "z"
    exact q _ _ _ ⟨9, .null, by simp; omega⟩ f1
  · walk_at "z"
    refine name_ok (by omega) f1.dr fun s st2 hs f2 => ?_
    walk_at "z"
    exact q _ _ _ ⟨9, .name hs, by simp; omega⟩ (f1.trans f2)
  · walk_at "z"
    refine name_ok (by omega) f1.dr fun s st2 hs f2 => ?_
    walk_at "z"
    exact q _ _ _ ⟨9, .name hs, by simp; omega⟩ (f1.trans f2)
end
end Pk06
end PartPdk06P16

section PartPdk06P17
set_option Elab.async false
set_option linter.all false
set_option maxRecDepth 100000
set_option maxHeartbeats 1000000
namespace Pk06
open PySem Pd
local macro_rules | `(tactic| walk_at "t") => `(tactic| (repeat (first | refine Red.red ?_ | refine Nxt.mk ?_ | refine ⟨by decide +kernel, by decide +kernel, wayF (by decide +kernel) ?_⟩ | refine ⟨by decide +kernel, by decide +kernel, wayT (by decide +kernel) ?_⟩ | refine ⟨by decide +kernel, ?_⟩ | refine ⟨Nat.le_of_ble_eq_true rfl, ?_⟩ | refine at_is rfl ?_)))
local instance notinTup17_06 {x : D} {xs : List D} {st : Store} {r : Bool → Prop} : Red (notinC x (.tup xs) st r) (x.flat = true ∧ xs.all D.flat = true ∧ r (!(xs.any fun y => D.eqb y x))) := ⟨id⟩
local macro_rules | `(tactic| walk_at "s") => `(tactic| (repeat (refine Red.red ?_)))
local macro_rules | `(tactic| walk_at "r") => `(tactic| (repeat (first | refine Red.red ?_ | refine Nxt.mk ?_)))
local macro_rules | `(tactic| walk_at "v") => `(tactic| (repeat (first | refine Red.red ?_ | refine Nxt.mk ?_ | refine ⟨Nat.le_of_ble_eq_true rfl, ?_⟩ | refine at_is rfl ?_)))
local macro_rules | `(tactic| walk_at "w") => `(tactic| (repeat (first | refine Red.red ?_ | refine Nxt.mk ?_ | refine wayF rfl ?_ | refine wayT rfl ?_ | refine ⟨Nat.le_of_ble_eq_true rfl, ?_⟩ | refine at_is rfl ?_)))
local macro_rules | `(tactic| walk_at "u") => `(tactic| (repeat (first | refine Red.red ?_ | refine Nxt.mk ?_ | refine ⟨Nat.le_of_ble_eq_true rfl, ?_⟩ | refine at_is rfl ?_ | refine ⟨by decide +kernel, by decide +kernel, wayF (by decide +kernel) ?_⟩ | refine ⟨by decide +kernel, by decide +kernel, wayT (by decide +kernel) ?_⟩ | refine ⟨by decide +kernel, by decide +kernel, ?_⟩ | refine wayF (by decide +kernel) ?_ | refine wayT (by decide +kernel) ?_)))
local instance inNewB17_06 {x : D} {xs : List D} {st : Store} {r : Bool → Prop} : Red (inC x (.ref st.length) (st ++ [.lst xs]) r) (x.flat = true ∧ xs.all D.flat = true ∧ r (xs.any fun y => D.eqb y x)) := ⟨fun h => ⟨xs, .inl (by simp [rdL]), h⟩⟩
local instance inTupN17_06 {x : D} {xs : List D} {st : Store} {r : Bool → Prop} : Red (inC x (.tup xs) st r) (x.flat = true ∧ xs.all D.flat = true ∧ r (xs.any fun y => D.eqb y x)) := ⟨id⟩
local macro_rules | `(tactic| walk_at "z") => `(tactic| (repeat (first | refine Red.red ?_ | refine Nxt.mk ?_ | refine ⟨by decide +kernel, by decide +kernel, wayF (by decide +kernel) ?_⟩ | refine ⟨by decide +kernel, by decide +kernel, wayT (by decide +kernel) ?_⟩ | refine ⟨by decide +kernel, ?_⟩ | refine ⟨Nat.le_of_ble_eq_true rfl, ?_⟩ | refine wayF rfl ?_ | refine wayT rfl ?_ | refine at_is rfl ?_)))
local macro_rules | `(tactic| walk_at "y") => `(tactic| (repeat (first | refine Red.red ?_ | refine ⟨by decide +kernel, by decide +kernel, wayF (by decide +kernel) ?_⟩ | refine ⟨by decide +kernel, by decide +kernel, wayT (by decide +kernel) ?_⟩ | refine ⟨by decide +kernel, ?_⟩ | refine ⟨Nat.le_of_ble_eq_true rfl, ?_⟩ | refine wayF rfl ?_ | refine wayT rfl ?_ | refine at_is rfl ?_)))
/-! k06, text 17. Own work. -/
section
variable {k m n ln : Nat} {st st' st2 s0 : Store} {Q R : K}
theorem Dw.self (h : Dw ln st st') : Dw ln st' st' := Dw.refl h.dr h.lf h.big
def ExD (m d : Nat) : Prop := ∀ {ln : Nat} {st : Store} {Q : K}, Dw ln st st → (∀ x ts st', ExG d x ts → Dw ln st st' → Q x st') → callN prog m "_law_any_expr" [.ref 2, .ref ln, .int (d : Int)] st Q
theorem call_ok {d : Nat} (hm : 3 ≤ m) (hE : ExD (m - 1) d) (hm4 : 5 ≤ m) (W : Dw ln st st) (q : ∀ x ts st', ExG (d + 1) x ts → Dw ln st st' → Q x st') : callN prog m "_law_any_call" [.ref 2, .ref ln, .int ((d + 1 : Nat) : Int)] st Q := by
  obtain ⟨m, rfl⟩ : ∃ n, m = n + 1 := ⟨m - 1, by omega⟩
  have hE : ExD m d := hE
  have e1 : ((d + 1 : Nat) : Int) - 1 = (d : Int) := by omega
  have eTB : TB (d + 1) = 3 * TB d + 8 := rfl
  refine call_intro rfl rfl ?_
  unfold b_l_any_call
  walk_at "z"
  refine pickXN (xs := [S' "div", S' "rem", S' "pick", S' "wide"]) (b := 8) rfl rfl (by omega) W.dr (by decide) (by decide) (txb_ok (by decide +kernel)) fun s st1 hs _ f1 => ?_
  have W1 := W.fra f1
  simp at hs
  walk_at "s"
  refine Nxt.mk ?_
  walk_at "s"
  rw [e1]
  refine hE W1.self fun x ts st2 ⟨l, hx, lx⟩ W2' => ?_
  have W2 := W1.trans W2'
  rcases hs with rfl | rfl | rfl | rfl
  · walk_at "z"
    change forLoop _ _ _ _ [D.int 0] _ _
    unfold forLoop
    refine ⟨trivial, ?_⟩
    walk_at "s"
    rw [e1]
    refine hE W2.self fun y us st3 ⟨l', hy, ly⟩ W3' => ?_
    have W3 := W2.trans W3'
    walk_at "z"
    unfold forLoop
    refine ⟨trivial, ?_⟩
    refine Nxt.mk ?_
    walk_at "z"
    exact q _ _ _ ⟨9, .two (.inl rfl) hx hy, by rw [eTB]; simp only [List.length_append, List.length_cons, List.length_nil]; omega⟩ W3
  · walk_at "z"
    change forLoop _ _ _ _ [D.int 0] _ _
    unfold forLoop
    refine ⟨trivial, ?_⟩
    walk_at "s"
    rw [e1]
    refine hE W2.self fun y us st3 ⟨l', hy, ly⟩ W3' => ?_
    have W3 := W2.trans W3'
    walk_at "z"
    unfold forLoop
    refine ⟨trivial, ?_⟩
    refine Nxt.mk ?_
    walk_at "z"
    exact q _ _ _ ⟨9, .two (.inr rfl) hx hy, by rw [eTB]; simp only [List.length_append, List.length_cons, List.length_nil]; omega⟩ W3
  · walk_at "z"
    change forLoop _ _ _ _ [D.int 0, D.int 1] _ _
    unfold forLoop
    refine ⟨trivial, ?_⟩
    walk_at "s"
    rw [e1]
    refine hE W2.self fun y us st3 ⟨l', hy, ly⟩ W3' => ?_
    have W3 := W2.trans W3'
    walk_at "z"
    unfold forLoop
    refine ⟨trivial, ?_⟩
    walk_at "s"
    rw [e1]
    refine hE W3.self fun z vs st4 ⟨l2, hz, lz⟩ W4' => ?_
    have W4 := W3.trans W4'
    walk_at "z"
    unfold forLoop
    refine ⟨trivial, ?_⟩
    refine Nxt.mk ?_
    walk_at "z"
    exact q _ _ _ ⟨9, .pick hx hy hz, by rw [eTB]; simp only [List.length_append, List.length_cons, List.length_nil]; omega⟩ W4
  · walk_at "z"
    refine numN (by omega) W2.dr fun v st3 hv f3 => ?_
    walk_at "z"
    exact q _ _ _ ⟨9, .wide hv hx, by rw [eTB]; simp only [List.length_append, List.length_cons, List.length_nil]; omega⟩ (W2.fra f3)
theorem par_le {l k n : Nat} {ts : List Str} (h : ts.length ≤ n) : (par l k ts).length ≤ n + 2 := Nat.le_trans par_len (by omega)
theorem un_ok {d l : Nat} {x : D} {ts : List Str} {s : Str} (hs : s = S' "not" ∨ s = S' "neg") (hx : ExP d x l ts) (lx : ts.length ≤ TB d) : ∃ us, ExG (d + 1) (tp [.str s, x]) us := by
  have eTB : TB (d + 1) = 3 * TB d + 8 := rfl
  have := @par_len l 8 ts
  rcases hs with rfl | rfl
  · exact ⟨_, 8, .not hx, by rw [eTB]; simp only [List.length_append, List.length_cons, List.length_nil]; omega⟩
  · exact ⟨_, 8, .neg hx, by rw [eTB]; simp only [List.length_append, List.length_cons, List.length_nil]; omega⟩
theorem bo_of {s : Str} (h : s ∈ [S' "|", S' "^", S' "&", S' "==", S' "!=", S' "<", S' "<=", S' "<<", S' ">>", S' "+", S' "-", S' "*"]) : ∃ o : Bo, s = o.s := by
  simp at h
  rcases h with rfl | rfl | rfl | rfl | rfl | rfl | rfl | rfl | rfl | rfl | rfl | rfl
  · exact ⟨.or, rfl⟩
  · exact ⟨.xor, rfl⟩
  · exact ⟨.and, rfl⟩
  · exact ⟨.eq, rfl⟩
  · exact ⟨.ne, rfl⟩
  · exact ⟨.lt, rfl⟩
  · exact ⟨.le, rfl⟩
  · exact ⟨.shl, rfl⟩
  · exact ⟨.shr, rfl⟩
  · exact ⟨.add, rfl⟩
  · exact ⟨.sub, rfl⟩
  · exact ⟨.mul, rfl⟩
theorem set1 {n : Nat} {x y v : D} {R : Store → Prop} (h : rdL st n [x, y]) (q : R (st.set n (.lst [x, v]))) : setK (.ref n) (.int 1) v st R := set_at h rfl (by decide) q
theorem any_ok : ∀ (d m : Nat), 2 * d + 7 ≤ m → ExD m d := by
  intro d
  induction d with
  | zero =>
    intro m hm ln st Q W q
    obtain ⟨m, rfl⟩ : ∃ n, m = n + 1 := ⟨m - 1, by omega⟩
    refine call_intro rfl rfl ?_
    unfold b_l_any_expr
    walk_at "s"
    refine drawM (by omega) W.dr (by decide) (by decide) fun z st1 z0 z1 f1 => ?_
    have W1 := W.fra f1
    obtain ⟨a, b, r1⟩ := W1.lf
    walk_at "s"
    refine Nxt.mk ?_
    walk_at "s"
    refine ix_ref r1 rfl ?_
    walk_at "s"
    refine set1 r1 ?_
    have W2 : Dw ln st (st1.set ln (.lst [.int a, .int (b - 1)])) := W1.setL
    have r2 : rdL (st1.set ln (.lst [.int a, .int (b - 1)])) ln [.int a, .int (b - 1)] := rdL_set r1
    generalize st1.set ln (.lst [.int a, .int (b - 1)]) = st2 at W2 r2 ⊢
    walk_at "s"
    refine Nxt.mk ?_
    walk_at "s"
    refine way (fun e => ?_) (fun e => ?_)
    · refine wayT rfl ?_
      walk_at "s"
      exact leaf_ok (by omega) W2.dr fun x ts st3 hx f3 => q x ts st3 hx (W2.fra f3)
    · walk_at "s"
      refine wayT rfl ?_
      refine wayT rfl ?_
      walk_at "s"
      exact leaf_ok (by omega) W2.dr fun x ts st3 hx f3 => q x ts st3 hx (W2.fra f3)
  | succ d ih =>
    intro m hm ln st Q W q
    have hE0 : ExD (m - 1) d := ih (m - 1) (by omega)
    have hE1 : ExD (m - 2) d := ih (m - 2) (by omega)
    have e1 : ((d + 1 : Nat) : Int) - 1 = (d : Int) := by omega
    have eTB : TB (d + 1) = 3 * TB d + 8 := rfl
    obtain ⟨m, rfl⟩ : ∃ n, m = n + 1 := ⟨m - 1, by omega⟩
    refine call_intro rfl rfl ?_
    unfold b_l_any_expr
    walk_at "s"
    refine drawM (by omega) W.dr (by decide) (by decide) fun z st1 z0 z1 f1 => ?_
    have W1 := W.fra f1
    obtain ⟨a, b, r1⟩ := W1.lf
    walk_at "s"
    refine Nxt.mk ?_
    walk_at "s"
    refine ix_ref r1 rfl ?_
    walk_at "s"
    refine set1 r1 ?_
    have W2 : Dw ln st (st1.set ln (.lst [.int a, .int (b - 1)])) := W1.setL
    have r2 : rdL (st1.set ln (.lst [.int a, .int (b - 1)])) ln [.int a, .int (b - 1)] := rdL_set r1
    generalize st1.set ln (.lst [.int a, .int (b - 1)]) = st2 at W2 r2 ⊢
    walk_at "s"
    refine Nxt.mk ?_
    walk_at "s"
    refine way (fun e => ?_) (fun e => ?_)
    · refine wayT rfl ?_
      walk_at "s"
      exact leaf_ok (by omega) W2.dr fun x ts st3 hx f3 => q x ts st3 hx (W2.fra f3)
    walk_at "s"
    refine wayF (decide_eq_false (by omega)) ?_
    walk_at "s"
    refine ix_ref r2 rfl ?_
    walk_at "s"
    refine way (fun e2 => ?_) (fun e2 => ?_)
    · walk_at "s"
      exact leaf_ok (by omega) W2.dr fun x ts st3 hx f3 => q x ts st3 hx (W2.fra f3)
    walk_at "s"
    refine Nxt.mk ?_
    walk_at "s"
    have hE0 : ExD m d := hE0
    have hE1 : ExD (m - 1) d := hE1
    refine way (fun e3 => ?_) (fun e3 => ?_)
    · walk_at "z"
      refine pickXN (xs := [S' "not", S' "neg"]) (b := 8) rfl rfl (by omega) W2.dr (by decide) (by decide) (txb_ok (by decide +kernel)) fun s st3 hs _ f3 => ?_
      have W3 := W2.fra f3
      simp at hs
      walk_at "s"
      rw [e1]
      refine hE0 W3.self fun x ts st4 ⟨l, hx, lx⟩ W4 => ?_
      walk_at "z"
      obtain ⟨us, hu⟩ := un_ok hs hx lx
      exact q _ us _ hu (W3.trans W4)
    walk_at "y"
    refine Nxt.mk ?_
    walk_at "s"
    refine way (fun e4 => ?_) (fun e4 => ?_)
    · walk_at "z"
      refine name_ok (by omega) W2.dr fun s st3 hs f3 => ?_
      have W3 := W2.fra f3
      walk_at "z"
      rw [e1]
      refine hE0 W3.self fun x ts st4 ⟨l, hx, lx⟩ W4 => ?_
      walk_at "z"
      exact q _ _ _ ⟨9, .item hs hx, by rw [eTB]; simp only [List.length_append, List.length_cons, List.length_nil]; omega⟩ (W3.trans W4)
    walk_at "y"
    refine Nxt.mk ?_
    walk_at "s"
    refine way (fun e5 => ?_) (fun e5 => ?_)
    · walk_at "s"
      exact call_ok (by omega) hE1 (by omega) W2.self fun x ts st3 hx W3 => q x ts st3 hx (W2.trans W3)
    walk_at "y"
    refine Nxt.mk ?_
    walk_at "z"
    refine pickXN (xs := [S' "|", S' "^", S' "&", S' "==", S' "!=", S' "<", S' "<=", S' "<<", S' ">>", S' "+", S' "-", S' "*"]) (b := 8) rfl rfl (by omega) W2.dr (by decide) (by decide) (txb_ok (by decide +kernel)) fun s st3 hs _ f3 => ?_
    have W3 := W2.fra f3
    obtain ⟨o, rfl⟩ := bo_of hs
    walk_at "z"
    rw [e1]
    refine hE0 W3.self fun x ts st4 ⟨l, hx, lx⟩ W4' => ?_
    have W4 := W3.trans W4'
    walk_at "z"
    rw [e1]
    refine hE0 W4.self fun y us st5 ⟨l', hy, ly⟩ W5 => ?_
    walk_at "z"
    have p1 := @par_len l (o.lv + if o.lv = 4 then 1 else 0) ts
    have p2 := @par_len l' (o.lv + 1) us
    exact q _ _ _ ⟨_, .bin hx hy, by rw [eTB]; simp only [List.length_append, List.length_cons, List.length_nil]; omega⟩ (W4.trans W5)
end
end Pk06
end PartPdk06P17

section PartPdk06P18
set_option Elab.async false
set_option linter.all false
set_option maxRecDepth 100000
set_option maxHeartbeats 1000000
namespace Pk06
open PySem Pd
local macro_rules | `(tactic| walk_at "t") => `(tactic| (repeat (first | refine Red.red ?_ | refine Nxt.mk ?_ | refine ⟨by decide +kernel, by decide +kernel, wayF (by decide +kernel) ?_⟩ | refine ⟨by decide +kernel, by decide +kernel, wayT (by decide +kernel) ?_⟩ | refine ⟨by decide +kernel, ?_⟩ | refine ⟨Nat.le_of_ble_eq_true rfl, ?_⟩ | refine at_is rfl ?_)))
local instance notinTup18_06 {x : D} {xs : List D} {st : Store} {r : Bool → Prop} : Red (notinC x (.tup xs) st r) (x.flat = true ∧ xs.all D.flat = true ∧ r (!(xs.any fun y => D.eqb y x))) := ⟨id⟩
local macro_rules | `(tactic| walk_at "s") => `(tactic| (repeat (refine Red.red ?_)))
local macro_rules | `(tactic| walk_at "r") => `(tactic| (repeat (first | refine Red.red ?_ | refine Nxt.mk ?_)))
local macro_rules | `(tactic| walk_at "v") => `(tactic| (repeat (first | refine Red.red ?_ | refine Nxt.mk ?_ | refine ⟨Nat.le_of_ble_eq_true rfl, ?_⟩ | refine at_is rfl ?_)))
local macro_rules | `(tactic| walk_at "w") => `(tactic| (repeat (first | refine Red.red ?_ | refine Nxt.mk ?_ | refine wayF rfl ?_ | refine wayT rfl ?_ | refine ⟨Nat.le_of_ble_eq_true rfl, ?_⟩ | refine at_is rfl ?_)))
local macro_rules | `(tactic| walk_at "u") => `(tactic| (repeat (first | refine Red.red ?_ | refine Nxt.mk ?_ | refine ⟨Nat.le_of_ble_eq_true rfl, ?_⟩ | refine at_is rfl ?_ | refine ⟨by decide +kernel, by decide +kernel, wayF (by decide +kernel) ?_⟩ | refine ⟨by decide +kernel, by decide +kernel, wayT (by decide +kernel) ?_⟩ | refine ⟨by decide +kernel, by decide +kernel, ?_⟩ | refine wayF (by decide +kernel) ?_ | refine wayT (by decide +kernel) ?_)))
local instance inNewB18_06 {x : D} {xs : List D} {st : Store} {r : Bool → Prop} : Red (inC x (.ref st.length) (st ++ [.lst xs]) r) (x.flat = true ∧ xs.all D.flat = true ∧ r (xs.any fun y => D.eqb y x)) := ⟨fun h => ⟨xs, .inl (by simp [rdL]), h⟩⟩
local instance inTupN18_06 {x : D} {xs : List D} {st : Store} {r : Bool → Prop} : Red (inC x (.tup xs) st r) (x.flat = true ∧ xs.all D.flat = true ∧ r (xs.any fun y => D.eqb y x)) := ⟨id⟩
local macro_rules | `(tactic| walk_at "z") => `(tactic| (repeat (first | refine Red.red ?_ | refine Nxt.mk ?_ | refine ⟨by decide +kernel, by decide +kernel, wayF (by decide +kernel) ?_⟩ | refine ⟨by decide +kernel, by decide +kernel, wayT (by decide +kernel) ?_⟩ | refine ⟨by decide +kernel, ?_⟩ | refine ⟨Nat.le_of_ble_eq_true rfl, ?_⟩ | refine wayF rfl ?_ | refine wayT rfl ?_ | refine at_is rfl ?_)))
local macro_rules | `(tactic| walk_at "y") => `(tactic| (repeat (first | refine Red.red ?_ | refine ⟨by decide +kernel, by decide +kernel, wayF (by decide +kernel) ?_⟩ | refine ⟨by decide +kernel, by decide +kernel, wayT (by decide +kernel) ?_⟩ | refine ⟨by decide +kernel, ?_⟩ | refine ⟨Nat.le_of_ble_eq_true rfl, ?_⟩ | refine wayF rfl ?_ | refine wayT rfl ?_ | refine at_is rfl ?_)))
/-! k06, text 18. Own work. -/
section
variable {k m n ln : Nat} {st st' st2 s0 : Store} {Q R : K}
theorem Dw.lt (h : Dw ln st st') : ln < st'.length := by
  obtain ⟨_, _, r⟩ := h.lf
  exact rdL_lt r
theorem Dw.setN {c : C} (h : Dw ln st st') (hn : st.length ≤ n) (hl : ln < st.length) : Dw ln st (st'.set n c) := by
  have hb := h.big
  refine ⟨h.fr.setN hn (by omega), ?_, h.big⟩
  obtain ⟨a, b, r⟩ := h.lf
  exact ⟨a, b, rdL_ne r (by omega)⟩
theorem lc_dw {gd : Store → Prop} {g : TG} {te : TE} {ρ : Pd.Env} {items : List D} (P : D → List Str → Prop) (W : Dw ln st st) (hl : items.length ≤ 1000) (hg : ∀ st', Dw ln st st' → gd st')
    (hs : ∀ x ∈ items, ∀ st', Dw ln st st' → ∀ N : D → Store → Prop, (∀ y ts st2, P y ts → Dw ln st' st2 → N y st2) → g x ρ st' fun ρ2 st2 => te ρ2 st2 N)
    (hQ : ∀ (ps : List (D × List Str)) st', ps.length = items.length → (∀ p ∈ ps, P p.1 p.2) → Dw ln st st' → rdL st' st.length (ps.map (·.1)) → Q (.ref st.length) st') : lcLoop gd g tYes te ρ st.length Q items [] (st ++ [.lst []]) := by
  have hlt := W.lt
  have hbg := W.big
  refine lc_by (fun pre acc st' => ∃ ps : List (D × List Str), acc = ps.map (·.1) ∧ ps.length = pre.length ∧ (∀ p ∈ ps, P p.1 p.2) ∧ Dw ln st st' ∧ rdL st' st.length acc) ⟨[], rfl, rfl, by simp, W.app, rdL_new⟩ (fun pre x post acc st' e ⟨ps, e1, h1, h3, f, ha⟩ N M hN hM => ?_) (fun acc st' ⟨ps, e1, h1, h3, f, ha⟩ => ?_)
  · subst e1
    refine ⟨hg _ f, ?_⟩
    have e1 : (fun (ρ2 : Pd.Env) (st2 : Store) => tYes ρ2 st2 fun b st3 => (b = true → te ρ2 st3 N) ∧ (b = false → M st3)) = fun ρ2 st2 => te ρ2 st2 N := by
      funext ρ2 st2
      exact propext ⟨fun q => q.1 rfl, fun q => ⟨fun _ => q, fun e => nomatch e⟩⟩
    rw [e1]
    have hlen := congrArg List.length e
    simp at hlen
    refine hs x (by rw [e]; simp) st' f N fun y ts st2 hy f2 => ?_
    have ha2 := f2.rd ha (by omega) (by omega)
    refine hN _ _ ha2 (by simp [szl]; omega) ⟨ps ++ [(y, ts)], by simp, by simp [h1], fun p hp => ?_, (f.trans f2).setN (Nat.le_refl _) hlt, rdL_set ha2⟩
    rcases List.mem_append.mp hp with hp | hp
    · exact h3 p hp
    · rw [List.mem_singleton] at hp
      subst hp
      exact hy
  · subst e1
    exact ⟨hg _ f, ha, hQ ps st' h1 h3 f ha⟩
theorem flat_bound {P : D → List Str → Prop} {B : Nat} {ps : List (D × List Str)} (h : ∀ p ∈ ps, p.2.length ≤ B) : (ps.map (·.2)).flatten.length ≤ ps.length * B := by
  induction ps with
  | nil => simp
  | cons p ps ih =>
    have h1 := h p (by simp)
    have h2 := ih fun p hp => h p (List.mem_cons_of_mem _ hp)
    rw [List.map_cons, List.flatten_cons, List.length_append, List.length_cons, Nat.add_mul]
    omega
def SB : Nat → Nat
  | 0 => 800
  | d + 1 => 12 * SB d + 200
def StG (d : Nat) (x : D) (ts : List Str) : Prop := StP d x ts ∧ ts.length ≤ SB d
def PlG (x : D) (ts : List Str) : Prop := PlP x ts ∧ ts.length ≤ 800
theorem PlG.toSt {x : D} {ts : List Str} (h : PlG x ts) (d : Nat) : StG d x ts := by
  refine ⟨(show StP 0 x ts from h.1).le (Nat.zero_le d), Nat.le_trans h.2 ?_⟩
  induction d with
  | zero => exact Nat.le_refl _
  | succ d ih =>
    have : SB (d + 1) = 12 * SB d + 200 := rfl
    omega
theorem any3 (hm : 13 ≤ m) : ExD m 3 := any_ok 3 m (by omega)
theorem any4 (hm : 15 ≤ m) : ExD m 4 := any_ok 4 m (by omega)
theorem TB3 : TB 3 = 185 := rfl
theorem TB4 : TB 4 = 563 := rfl
theorem place_ok (hm : 14 ≤ m) (W : Dw ln st st) (q : ∀ x l ts st', ExP 45 x l ts → ts.length ≤ 188 → Dw ln st st' → Q x st') : callN prog m "_law_any_place" [.ref 2, .ref ln] st Q := by
  obtain ⟨m, rfl⟩ : ∃ n, m = n + 1 := ⟨m - 1, by omega⟩
  refine call_intro rfl rfl ?_
  unfold b_l_any_place
  walk_at "s"
  refine drawM (by omega) W.dr (by decide) (by decide) fun z st1 z0 z1 f1 => ?_
  walk_at "s"
  refine Nxt.mk ?_
  walk_at "s"
  refine name_ok (by omega) f1.dr fun s st2 hs f2 => ?_
  have W2 := (W.fra f1).fra f2
  walk_at "s"
  refine Nxt.mk ?_
  walk_at "s"
  refine way (fun e => ?_) (fun e => ?_)
  · walk_at "z"
    refine any3 (by omega) W2.self fun x ts st3 ⟨l, hx, lx⟩ W3 => ?_
    walk_at "z"
    rw [TB3] at lx
    exact q _ _ _ _ (.item (d := 44) hs (hx.le (by decide))) (by simp only [List.length_append, List.length_cons, List.length_nil]; omega) (W2.trans W3)
  walk_at "y"
  refine Nxt.mk ?_
  walk_at "s"
  refine way (fun e => ?_) (fun e => ?_)
  · walk_at "z"
    refine name_ok (by omega) W2.dr fun s' st3 hs' f3 => ?_
    walk_at "z"
    exact q _ _ _ _ (.field hs hs') (by simp) (W2.fra f3)
  · walk_at "z"
    exact q _ _ _ _ (.name hs) (by simp) W2
end
end Pk06
end PartPdk06P18

section PartPdk06P19
set_option Elab.async false
set_option linter.all false
set_option maxRecDepth 100000
set_option maxHeartbeats 1000000
namespace Pk06
open PySem Pd
local macro_rules | `(tactic| walk_at "t") => `(tactic| (repeat (first | refine Red.red ?_ | refine Nxt.mk ?_ | refine ⟨by decide +kernel, by decide +kernel, wayF (by decide +kernel) ?_⟩ | refine ⟨by decide +kernel, by decide +kernel, wayT (by decide +kernel) ?_⟩ | refine ⟨by decide +kernel, ?_⟩ | refine ⟨Nat.le_of_ble_eq_true rfl, ?_⟩ | refine at_is rfl ?_)))
local instance notinTup19_06 {x : D} {xs : List D} {st : Store} {r : Bool → Prop} : Red (notinC x (.tup xs) st r) (x.flat = true ∧ xs.all D.flat = true ∧ r (!(xs.any fun y => D.eqb y x))) := ⟨id⟩
local macro_rules | `(tactic| walk_at "s") => `(tactic| (repeat (refine Red.red ?_)))
local macro_rules | `(tactic| walk_at "r") => `(tactic| (repeat (first | refine Red.red ?_ | refine Nxt.mk ?_)))
local macro_rules | `(tactic| walk_at "v") => `(tactic| (repeat (first | refine Red.red ?_ | refine Nxt.mk ?_ | refine ⟨Nat.le_of_ble_eq_true rfl, ?_⟩ | refine at_is rfl ?_)))
local macro_rules | `(tactic| walk_at "w") => `(tactic| (repeat (first | refine Red.red ?_ | refine Nxt.mk ?_ | refine wayF rfl ?_ | refine wayT rfl ?_ | refine ⟨Nat.le_of_ble_eq_true rfl, ?_⟩ | refine at_is rfl ?_)))
local macro_rules | `(tactic| walk_at "u") => `(tactic| (repeat (first | refine Red.red ?_ | refine Nxt.mk ?_ | refine ⟨Nat.le_of_ble_eq_true rfl, ?_⟩ | refine at_is rfl ?_ | refine ⟨by decide +kernel, by decide +kernel, wayF (by decide +kernel) ?_⟩ | refine ⟨by decide +kernel, by decide +kernel, wayT (by decide +kernel) ?_⟩ | refine ⟨by decide +kernel, by decide +kernel, ?_⟩ | refine wayF (by decide +kernel) ?_ | refine wayT (by decide +kernel) ?_)))
local instance inNewB19_06 {x : D} {xs : List D} {st : Store} {r : Bool → Prop} : Red (inC x (.ref st.length) (st ++ [.lst xs]) r) (x.flat = true ∧ xs.all D.flat = true ∧ r (xs.any fun y => D.eqb y x)) := ⟨fun h => ⟨xs, .inl (by simp [rdL]), h⟩⟩
local instance inTupN19_06 {x : D} {xs : List D} {st : Store} {r : Bool → Prop} : Red (inC x (.tup xs) st r) (x.flat = true ∧ xs.all D.flat = true ∧ r (xs.any fun y => D.eqb y x)) := ⟨id⟩
local macro_rules | `(tactic| walk_at "z") => `(tactic| (repeat (first | refine Red.red ?_ | refine Nxt.mk ?_ | refine ⟨by decide +kernel, by decide +kernel, wayF (by decide +kernel) ?_⟩ | refine ⟨by decide +kernel, by decide +kernel, wayT (by decide +kernel) ?_⟩ | refine ⟨by decide +kernel, ?_⟩ | refine ⟨Nat.le_of_ble_eq_true rfl, ?_⟩ | refine wayF rfl ?_ | refine wayT rfl ?_ | refine at_is rfl ?_)))
local macro_rules | `(tactic| walk_at "y") => `(tactic| (repeat (first | refine Red.red ?_ | refine ⟨by decide +kernel, by decide +kernel, wayF (by decide +kernel) ?_⟩ | refine ⟨by decide +kernel, by decide +kernel, wayT (by decide +kernel) ?_⟩ | refine ⟨by decide +kernel, ?_⟩ | refine ⟨Nat.le_of_ble_eq_true rfl, ?_⟩ | refine wayF rfl ?_ | refine wayT rfl ?_ | refine at_is rfl ?_)))
/-! k06, text 19. Own work. -/
section
variable {k m n ln : Nat} {st st' st2 s0 : Store} {Q R : K}
theorem comma_bd {ps : List (D × List Str)} {B : Nat} (h : ∀ p ∈ ps, p.2.length ≤ B) : (comma (ps.map (·.2))).length ≤ ps.length * B + ps.length := by
  have h1 := comma_len (ps.map (·.2))
  have h2 := flat_bound (P := fun _ _ => True) h
  rw [List.length_map] at h1
  omega
theorem splain_ok {z : Int} (hm : 17 ≤ m) (W : Dw ln st st) (z0 : 0 ≤ z) (z1 : z < 6) (q : ∀ x ts st', PlG x ts → Dw ln st st' → Q x st') : callN prog m "_law_any_plain" [.ref 2, .ref ln, .int z] st Q := by
  obtain ⟨m, rfl⟩ : ∃ n, m = n + 1 := ⟨m - 1, by omega⟩
  refine call_intro rfl rfl ?_
  unfold b_l_any_plain
  rcases (by omega : z = 0 ∨ z = 1 ∨ z = 2 ∨ z = 3 ∨ z = 4 ∨ z = 5) with rfl | rfl | rfl | rfl | rfl | rfl
  · walk_at "z"
    refine name_ok (by omega) W.dr fun s st1 hs f1 => ?_
    walk_at "z"
    exact q _ _ _ ⟨.raise hs, by simp⟩ (W.fra f1)
  · walk_at "z"
    refine place_ok (by omega) W fun x l ts st1 hx lx W1 => ?_
    walk_at "z"
    refine any4 (by omega) W1.self fun y us st2 ⟨l', hy, ly⟩ W2 => ?_
    walk_at "z"
    rw [TB4] at ly
    exact q _ _ _ ⟨.lt hx (hy.le (by decide)), by simp only [List.length_append, List.length_cons, List.length_nil]; omega⟩ (W1.trans W2)
  · walk_at "z"
    refine drawM (by omega) W.dr (by decide) (by decide) fun r st1 r0 r1 f1 => ?_
    have W1 := W.fra f1
    walk_at "s"
    refine way (fun e => ?k1) (fun e => ?k2)
    case' k1 =>
      walk_at "s"
      refine name_ok (by omega) W1.dr fun s st2 hs f2 => ?_
      have W2 := W1.fra f2
      have ht : ∀ s', some s = some s' → Tx 8 s' := fun s' e => by cases e; exact hs
      have etg : D.str s = tgD (some s) := rfl
      rw [etg]
      generalize some s = tg at ht etg ⊢
    case' k2 =>
      have W2 := W1
      have ht : ∀ s', (none : Option Str) = some s' → Tx 8 s' := fun s' e => nomatch e
      walk_at "s"
      have etg : D.non = tgD none := rfl
      rw [etg]
      generalize (none : Option Str) = tg at ht etg ⊢
    all_goals
      walk_at "s"
      refine Nxt.mk ?_
      walk_at "s"
      refine name_ok (by omega) W2.dr fun nm st3 hn f3 => ?_
      have W3 := W2.fra f3
      walk_at "s"
      refine Nxt.mk ?_
      walk_at "s"
      refine drawM (by omega) W3.dr (by decide) (by decide) fun cn st4 c0 c1 f4 => ?_
      have W4 := W3.fra f4
      walk_at "s"
      refine ⟨by omega, by omega, ?_⟩
      walk_at "s"
      refine lc_dw (fun y ts => ExG 3 y ts) W4.self (by simp [rng]; omega) (fun _ _ => trivial) (fun x hx st5 W5 N hN => ?_) fun ps st5 hl hp W5 r5 => ?_
      · walk_at "s"
        exact any3 (by omega) W5.self hN
      have hl3 : ps.length ≤ 3 := by rw [hl]; simp [rng]; omega
      have hb := comma_bd (ps := ps) (B := 185) fun p hp' => by
        obtain ⟨l, h1, h2⟩ := hp p hp'
        exact h2
      walk_at "s"
      refine tuple_at r5 ?_
      walk_at "z"
      refine q _ _ _ ⟨.call ps ht hn fun p hp' => ?_, ?_⟩ (W4.trans W5)
      · obtain ⟨l, h1, h2⟩ := hp p hp'
        exact ⟨l, h1.le (by decide)⟩
      · have : (tgT tg).length ≤ 2 := by cases tg <;> simp [tgT]
        simp only [List.length_append, List.length_cons, List.length_nil]
        omega
  · walk_at "z"
    refine name_ok (by omega) W.dr fun s st1 hs f1 => ?_
    walk_at "z"
    refine name_ok (by omega) f1.dr fun s' st2 hs' f2 => ?_
    walk_at "z"
    exact q _ _ _ ⟨.make hs hs', by simp⟩ ((W.fra f1).fra f2)
  · walk_at "z"
    refine any4 (by omega) W fun y us st2 ⟨l', hy, ly⟩ W2 => ?_
    walk_at "z"
    rw [TB4] at ly
    exact q _ _ _ ⟨.ret (hy.le (by decide)), by simp only [List.length_append, List.length_cons, List.length_nil]; omega⟩ W2
  · walk_at "z"
    refine any4 (by omega) W fun y us st2 ⟨l', hy, ly⟩ W2 => ?_
    walk_at "z"
    rw [TB4] at ly
    exact q _ _ _ ⟨.asrt (hy.le (by decide)), by simp only [List.length_append, List.length_cons, List.length_nil]; omega⟩ W2
def BoD (m d : Nat) : Prop := ∀ {ln : Nat} {st : Store} {Q : K}, Dw ln st st → (∀ b bt st', Rows (StP d) b bt → bt.length ≤ 3 * SB d → Dw ln st st' → Q (.tup b) st') → callN prog m "_law_any_body" [.ref 2, .ref ln, .int (d : Int)] st Q
def StD (m d : Nat) : Prop := ∀ {ln : Nat} {st : Store} {Q : K}, Dw ln st st → (∀ x ts st', StG d x ts → Dw ln st st' → Q x st') → callN prog m "_law_any_statement" [.ref 2, .ref ln, .int (d : Int)] st Q
theorem sbody_ok {d : Nat} (hm : 2 ≤ m) (hS : StD (m - 1) d) : BoD m d := by
  intro ln st Q W q
  obtain ⟨m, rfl⟩ : ∃ n, m = n + 1 := ⟨m - 1, by omega⟩
  have hS : StD m d := hS
  have hlt := W.lt
  have hbg := W.big
  refine call_intro rfl rfl ?_
  unfold b_l_any_body
  walk_at "s"
  refine ⟨Nat.le_of_ble_eq_true rfl, ?_⟩
  walk_at "s"
  refine Nxt.mk ?_
  have W1 := W.app (c := C.lst [])
  have r1 := rdL_new (st := st) (xs := [])
  generalize st ++ [C.lst []] = st1 at W1 r1 ⊢
  walk_at "s"
  refine drawM (by omega) W1.dr (by decide) (by decide) fun cn st2 c0 c1 f2 => ?_
  have W2 := W1.fra f2
  have r2 := f2.rd r1 (by omega)
  walk_at "s"
  refine ⟨by omega, by omega, ?_⟩
  refine for_rng (fun j σ st' => ∃ (ps : List (D × List Str)) (o4 : Option D), σ = [some (.ref 2), some (.ref ln), some (.int (d : Int)), some (.ref st.length), o4] ∧ rdL st' st.length (ps.map (·.1)) ∧ ps.length ≤ j ∧ (∀ p ∈ ps, StG d p.1 p.2) ∧ Dw ln st st') ⟨[], none, rfl, r2, by simp, by simp, W2⟩ (fun j σ st3 hj ⟨ps, o4, e, r3, hl, hp, W3⟩ N hN => ?_) (fun σ st3 ⟨ps, o4, e, r3, hl, hp, W3⟩ => ?_)
  · subst e
    refine ⟨trivial, ?_⟩
    obtain ⟨a, b, ra⟩ := W3.lf
    walk_at "s"
    refine ix_ref ra rfl ?_
    walk_at "s"
    refine way (fun e => ?_) (fun e => ?_)
    · walk_at "s"
      refine ⟨ty_at r3, ?_⟩
      walk_at "s"
      refine hS W3.self fun x ts st4 hx W4 => ?_
      have r4 := W4.rd r3 (by omega) (by omega)
      walk_at "s"
      refine append_at r4 (by rw [List.length_map]; unfold szl; omega) ?_
      refine hN _ _ ⟨ps ++ [(x, ts)], _, rfl, by rw [List.map_append]; exact rdL_set r4, by simp; omega, fun p hp' => ?_, (W3.trans W4).setN (Nat.le_refl _) hlt⟩
      rcases List.mem_append.mp hp' with h | h
      · exact hp p h
      · rw [List.mem_singleton] at h
        subst h
        exact hx
    · walk_at "s"
      exact hN _ _ ⟨ps, _, rfl, r3, by omega, hp, W3⟩
  · subst e
    refine ⟨trivial, ?_⟩
    refine Nxt.mk ?_
    walk_at "s"
    refine tuple_at r3 ?_
    have hl3 : ps.length ≤ 3 := by omega
    have hb := flat_bound (P := fun _ _ => True) (B := SB d) fun p hp' => (hp p hp').2
    refine q _ _ _ ⟨ps, rfl, rfl, fun p hp' => (hp p hp').1⟩ (Nat.le_trans hb (Nat.mul_le_mul_right _ hl3)) W3
end
end Pk06
end PartPdk06P19

section PartPdk06P20
set_option Elab.async false
set_option linter.all false
set_option maxRecDepth 100000
set_option maxHeartbeats 1000000
namespace Pk06
open PySem Pd
local macro_rules | `(tactic| walk_at "t") => `(tactic| (repeat (first | refine Red.red ?_ | refine Nxt.mk ?_ | refine ⟨by decide +kernel, by decide +kernel, wayF (by decide +kernel) ?_⟩ | refine ⟨by decide +kernel, by decide +kernel, wayT (by decide +kernel) ?_⟩ | refine ⟨by decide +kernel, ?_⟩ | refine ⟨Nat.le_of_ble_eq_true rfl, ?_⟩ | refine at_is rfl ?_)))
local instance notinTup20_06 {x : D} {xs : List D} {st : Store} {r : Bool → Prop} : Red (notinC x (.tup xs) st r) (x.flat = true ∧ xs.all D.flat = true ∧ r (!(xs.any fun y => D.eqb y x))) := ⟨id⟩
local macro_rules | `(tactic| walk_at "s") => `(tactic| (repeat (refine Red.red ?_)))
local macro_rules | `(tactic| walk_at "r") => `(tactic| (repeat (first | refine Red.red ?_ | refine Nxt.mk ?_)))
local macro_rules | `(tactic| walk_at "v") => `(tactic| (repeat (first | refine Red.red ?_ | refine Nxt.mk ?_ | refine ⟨Nat.le_of_ble_eq_true rfl, ?_⟩ | refine at_is rfl ?_)))
local macro_rules | `(tactic| walk_at "w") => `(tactic| (repeat (first | refine Red.red ?_ | refine Nxt.mk ?_ | refine wayF rfl ?_ | refine wayT rfl ?_ | refine ⟨Nat.le_of_ble_eq_true rfl, ?_⟩ | refine at_is rfl ?_)))
local macro_rules | `(tactic| walk_at "u") => `(tactic| (repeat (first | refine Red.red ?_ | refine Nxt.mk ?_ | refine ⟨Nat.le_of_ble_eq_true rfl, ?_⟩ | refine at_is rfl ?_ | refine ⟨by decide +kernel, by decide +kernel, wayF (by decide +kernel) ?_⟩ | refine ⟨by decide +kernel, by decide +kernel, wayT (by decide +kernel) ?_⟩ | refine ⟨by decide +kernel, by decide +kernel, ?_⟩ | refine wayF (by decide +kernel) ?_ | refine wayT (by decide +kernel) ?_)))
local instance inNewB20_06 {x : D} {xs : List D} {st : Store} {r : Bool → Prop} : Red (inC x (.ref st.length) (st ++ [.lst xs]) r) (x.flat = true ∧ xs.all D.flat = true ∧ r (xs.any fun y => D.eqb y x)) := ⟨fun h => ⟨xs, .inl (by simp [rdL]), h⟩⟩
local instance inTupN20_06 {x : D} {xs : List D} {st : Store} {r : Bool → Prop} : Red (inC x (.tup xs) st r) (x.flat = true ∧ xs.all D.flat = true ∧ r (xs.any fun y => D.eqb y x)) := ⟨id⟩
local macro_rules | `(tactic| walk_at "z") => `(tactic| (repeat (first | refine Red.red ?_ | refine Nxt.mk ?_ | refine ⟨by decide +kernel, by decide +kernel, wayF (by decide +kernel) ?_⟩ | refine ⟨by decide +kernel, by decide +kernel, wayT (by decide +kernel) ?_⟩ | refine ⟨by decide +kernel, ?_⟩ | refine ⟨Nat.le_of_ble_eq_true rfl, ?_⟩ | refine wayF rfl ?_ | refine wayT rfl ?_ | refine at_is rfl ?_)))
local macro_rules | `(tactic| walk_at "y") => `(tactic| (repeat (first | refine Red.red ?_ | refine ⟨by decide +kernel, by decide +kernel, wayF (by decide +kernel) ?_⟩ | refine ⟨by decide +kernel, by decide +kernel, wayT (by decide +kernel) ?_⟩ | refine ⟨by decide +kernel, ?_⟩ | refine ⟨Nat.le_of_ble_eq_true rfl, ?_⟩ | refine wayF rfl ?_ | refine wayT rfl ?_ | refine at_is rfl ?_)))
/-! k06, text 20. Own work. -/
section
variable {k m n ln : Nat} {st st' st2 s0 : Store} {Q R : K}
theorem stry_ok {d : Nat} (hm : 6 ≤ m) (hB : BoD (m - 1) d) (W : Dw ln st st) (q : ∀ x ts st', StG (d + 1) x ts → Dw ln st st' → Q x st') : callN prog m "_law_any_try" [.ref 2, .ref ln, .int ((d + 1 : Nat) : Int)] st Q := by
  obtain ⟨m, rfl⟩ : ∃ n, m = n + 1 := ⟨m - 1, by omega⟩
  have hB : BoD m d := hB
  have e1 : ((d + 1 : Nat) : Int) - 1 = (d : Int) := by omega
  have eSB : SB (d + 1) = 12 * SB d + 200 := rfl
  refine call_intro rfl rfl ?_
  unfold b_l_any_try
  walk_at "s"
  rw [e1]
  refine hB W fun b bt st1 hb lb W1 => ?_
  have hlt := W1.lt
  have hbg := W.big
  walk_at "s"
  refine Nxt.mk ?_
  walk_at "s"
  refine ⟨Nat.le_of_ble_eq_true rfl, ?_⟩
  walk_at "s"
  refine Nxt.mk ?_
  have W2 : Dw ln st1 (st1 ++ [C.lst []]) := W1.self.app
  have r1 := rdL_new (st := st1) (xs := [])
  generalize st1 ++ [C.lst []] = st2 at W2 r1 ⊢
  generalize hfn : st1.length = fn at r1 ⊢
  walk_at "s"
  refine drawM (by omega) W2.dr (by decide) (by decide) fun cn st3 c0 c1 f3 => ?_
  have W3 := W2.fra f3
  have r3 := f3.rd r1 (by omega)
  walk_at "s"
  refine ⟨by omega, by omega, ?_⟩
  refine for_rng (fun j σ st' => ∃ (ps : List (D × List Str)) (o5 o6 : Option D), σ = [some (.ref 2), some (.ref ln), some (.int ((d + 1 : Nat) : Int)), some (.tup b), some (.ref fn), o5, o6] ∧ rdL st' fn (ps.map (·.1)) ∧ ps.length ≤ j ∧ (∀ p ∈ ps, CaP (StP d) p.1 p.2 ∧ p.2.length ≤ 4 + 3 * SB d) ∧ Dw ln st1 st') ⟨[], none, none, rfl, r3, by simp, by simp, W3⟩ (fun j σ st4 hj ⟨ps, o5, o6, e, r4, hl, hp, W4⟩ N hN => ?_) (fun σ st4 ⟨ps, o5, o6, e, r4, hl, hp, W4⟩ => ?_)
  · subst e
    refine ⟨trivial, ?_⟩
    walk_at "s"
    refine name_ok (by omega) W4.dr fun nm st5 hn f5 => ?_
    have W5 := W4.fra f5
    have r5 := f5.rd r4 (by omega)
    walk_at "s"
    refine Nxt.mk ?_
    walk_at "s"
    refine ⟨ty_at r5, ?_⟩
    walk_at "s"
    rw [e1]
    refine hB W5.self fun b2 bt2 st6 hb2 lb2 W6' => ?_
    have W6 := W5.trans W6'
    have r6 := W6'.rd r5 (by omega) (by omega)
    walk_at "s"
    refine ⟨Nat.le_of_ble_eq_true rfl, ?_⟩
    walk_at "s"
    refine append_at r6 (by rw [List.length_map]; unfold szl; omega) ?_
    refine hN _ _ ⟨ps ++ [(tp [.str nm, .tup b2], [S' "catch", nm] ++ blk bt2)], _, _, rfl, by rw [List.map_append]; exact rdL_set r6, by simp; omega, fun p hp' => ?_, W6.setN (by omega) hlt⟩
    rcases List.mem_append.mp hp' with h | h
    · exact hp p h
    · rw [List.mem_singleton] at h
      subst h
      refine ⟨⟨nm, b2, bt2, hn, hb2, rfl, rfl⟩, ?_⟩
      simp only [List.length_append, blk_len, List.length_cons, List.length_nil]
      omega
  · subst e
    refine ⟨trivial, ?_⟩
    refine Nxt.mk ?_
    walk_at "s"
    refine tuple_at r4 ?_
    walk_at "z"
    have hl3 : ps.length ≤ 3 := by omega
    have hb1 := flat_bound (P := fun _ _ => True) (B := 4 + 3 * SB d) fun p hp' => (hp p hp').2
    have hb2 := Nat.le_trans hb1 (Nat.mul_le_mul_right (4 + 3 * SB d) hl3)
    refine q _ _ _ ⟨.inr (.inr (.inr ⟨b, ps.map (·.1), bt, (ps.map (·.2)).flatten, hb, ⟨ps, rfl, rfl, fun p hp' => (hp p hp').1⟩, rfl, rfl⟩)), ?_⟩ (W1.trans W4)
    rw [eSB]
    simp only [List.length_append, blk_len, List.length_cons, List.length_nil]
    omega
theorem set0 {n : Nat} {x y v : D} {R : Store → Prop} (h : rdL st n [x, y]) (q : R (st.set n (.lst [v, y]))) : setK (.ref n) (.int 0) v st R := set_at h rfl (by decide) q
theorem sany_ok : ∀ (d m : Nat), 3 * d + 20 ≤ m → StD m d := by
  intro d
  induction d with
  | zero =>
    intro m hm ln st Q W q
    obtain ⟨m, rfl⟩ : ∃ n, m = n + 1 := ⟨m - 1, by omega⟩
    refine call_intro rfl rfl ?_
    unfold b_l_any_statement
    walk_at "s"
    refine drawM (by omega) W.dr (by decide) (by decide) fun z st1 z0 z1 f1 => ?_
    have W1 := W.fra f1
    obtain ⟨a, b, r1⟩ := W1.lf
    walk_at "s"
    refine Nxt.mk ?_
    walk_at "s"
    refine ix_ref r1 rfl ?_
    walk_at "s"
    refine set0 r1 ?_
    have W2 : Dw ln st (st1.set ln (.lst [.int (a - 1), .int b])) := W1.setL
    generalize st1.set ln (.lst [.int (a - 1), .int b]) = st2 at W2 ⊢
    walk_at "s"
    refine Nxt.mk ?_
    walk_at "s"
    refine way (fun e => ?_) (fun e => ?_)
    · walk_at "s"
      exact splain_ok (by omega) W2.self (by omega) (by have := of_decide_eq_true e; omega) fun x ts st3 hx W3 => q x ts st3 (hx.toSt 0) (W2.trans W3)
    · walk_at "z"
      have e := of_decide_eq_false e
      exact splain_ok (by omega) W2.self (by omega) (by omega) fun x ts st3 hx W3 => q x ts st3 (hx.toSt 0) (W2.trans W3)
  | succ d ih =>
    intro m hm ln st Q W q
    obtain ⟨m, rfl⟩ : ∃ n, m = n + 1 := ⟨m - 1, by omega⟩
    have hB : BoD m d := sbody_ok (by omega) (ih (m - 1) (by omega))
    have hB1 : BoD (m - 1) d := sbody_ok (by omega) (ih (m - 1 - 1) (by omega))
    have e1 : ((d + 1 : Nat) : Int) - 1 = (d : Int) := by omega
    have eSB : SB (d + 1) = 12 * SB d + 200 := rfl
    refine call_intro rfl rfl ?_
    unfold b_l_any_statement
    walk_at "s"
    refine drawM (by omega) W.dr (by decide) (by decide) fun z st1 z0 z1 f1 => ?_
    have W1 := W.fra f1
    obtain ⟨a, b, r1⟩ := W1.lf
    walk_at "s"
    refine Nxt.mk ?_
    walk_at "s"
    refine ix_ref r1 rfl ?_
    walk_at "s"
    refine set0 r1 ?_
    have W2 : Dw ln st (st1.set ln (.lst [.int (a - 1), .int b])) := W1.setL
    generalize st1.set ln (.lst [.int (a - 1), .int b]) = st2 at W2 ⊢
    walk_at "s"
    refine Nxt.mk ?_
    walk_at "s"
    refine way (fun e => ?_) (fun e => ?_)
    · walk_at "s"
      exact splain_ok (by omega) W2.self (by omega) (by have := of_decide_eq_true e; omega) fun x ts st3 hx W3 => q x ts st3 (hx.toSt (d + 1)) (W2.trans W3)
    walk_at "s"
    refine Nxt.mk ?_
    walk_at "s"
    refine wayF (decide_eq_false (by omega)) ?_
    walk_at "s"
    refine Nxt.mk ?_
    walk_at "s"
    refine way (fun e7 => ?_) (fun e7 => ?_)
    · walk_at "s"
      exact stry_ok (by omega) hB1 W2.self fun x ts st3 hx W3 => q x ts st3 hx (W2.trans W3)
    walk_at "z"
    refine any3 (by omega) W2.self fun x ts st3 ⟨l, hx, lx⟩ W3' => ?_
    have W3 := W2.trans W3'
    rw [TB3] at lx
    walk_at "z"
    rw [e1]
    refine hB W3.self fun b2 bt st4 hb lb W4' => ?_
    have W4 := W3.trans W4'
    walk_at "z"
    refine way (fun e6 => ?_) (fun e6 => ?_)
    · walk_at "z"
      refine q _ _ _ ⟨.inr (.inl ⟨x, l, ts, b2, bt, hx.le (by decide), hb, rfl, rfl⟩), ?_⟩ W4
      rw [eSB]
      simp only [List.length_append, blk_len, List.length_cons, List.length_nil]
      omega
    · walk_at "z"
      rw [e1]
      refine hB W4.self fun b3 bt3 st5 hb3 lb3 W5 => ?_
      walk_at "z"
      refine q _ _ _ ⟨.inr (.inr (.inl ⟨x, l, ts, b2, b3, bt, bt3, hx.le (by decide), hb, hb3, rfl, rfl⟩)), ?_⟩ (W4.trans W5)
      rw [eSB]
      have : (if b3 = [] then [] else [S' "else"] ++ blk bt3).length ≤ bt3.length + 3 := by
        split
        · simp
        · simp only [List.length_append, blk_len, List.length_cons, List.length_nil]; omega
      simp only [List.length_append, blk_len, List.length_cons, List.length_nil]
      omega
end
end Pk06
end PartPdk06P20

section PartPdk06P21
set_option Elab.async false
set_option linter.all false
set_option maxRecDepth 100000
set_option maxHeartbeats 1000000
namespace Pk06
open PySem Pd
local macro_rules | `(tactic| walk_at "t") => `(tactic| (repeat (first | refine Red.red ?_ | refine Nxt.mk ?_ | refine ⟨by decide +kernel, by decide +kernel, wayF (by decide +kernel) ?_⟩ | refine ⟨by decide +kernel, by decide +kernel, wayT (by decide +kernel) ?_⟩ | refine ⟨by decide +kernel, ?_⟩ | refine ⟨Nat.le_of_ble_eq_true rfl, ?_⟩ | refine at_is rfl ?_)))
local instance notinTup21_06 {x : D} {xs : List D} {st : Store} {r : Bool → Prop} : Red (notinC x (.tup xs) st r) (x.flat = true ∧ xs.all D.flat = true ∧ r (!(xs.any fun y => D.eqb y x))) := ⟨id⟩
local macro_rules | `(tactic| walk_at "s") => `(tactic| (repeat (refine Red.red ?_)))
local macro_rules | `(tactic| walk_at "r") => `(tactic| (repeat (first | refine Red.red ?_ | refine Nxt.mk ?_)))
local macro_rules | `(tactic| walk_at "v") => `(tactic| (repeat (first | refine Red.red ?_ | refine Nxt.mk ?_ | refine ⟨Nat.le_of_ble_eq_true rfl, ?_⟩ | refine at_is rfl ?_)))
local macro_rules | `(tactic| walk_at "w") => `(tactic| (repeat (first | refine Red.red ?_ | refine Nxt.mk ?_ | refine wayF rfl ?_ | refine wayT rfl ?_ | refine ⟨Nat.le_of_ble_eq_true rfl, ?_⟩ | refine at_is rfl ?_)))
local macro_rules | `(tactic| walk_at "u") => `(tactic| (repeat (first | refine Red.red ?_ | refine Nxt.mk ?_ | refine ⟨Nat.le_of_ble_eq_true rfl, ?_⟩ | refine at_is rfl ?_ | refine ⟨by decide +kernel, by decide +kernel, wayF (by decide +kernel) ?_⟩ | refine ⟨by decide +kernel, by decide +kernel, wayT (by decide +kernel) ?_⟩ | refine ⟨by decide +kernel, by decide +kernel, ?_⟩ | refine wayF (by decide +kernel) ?_ | refine wayT (by decide +kernel) ?_)))
local instance inNewB21_06 {x : D} {xs : List D} {st : Store} {r : Bool → Prop} : Red (inC x (.ref st.length) (st ++ [.lst xs]) r) (x.flat = true ∧ xs.all D.flat = true ∧ r (xs.any fun y => D.eqb y x)) := ⟨fun h => ⟨xs, .inl (by simp [rdL]), h⟩⟩
local instance inTupN21_06 {x : D} {xs : List D} {st : Store} {r : Bool → Prop} : Red (inC x (.tup xs) st r) (x.flat = true ∧ xs.all D.flat = true ∧ r (xs.any fun y => D.eqb y x)) := ⟨id⟩
local macro_rules | `(tactic| walk_at "z") => `(tactic| (repeat (first | refine Red.red ?_ | refine Nxt.mk ?_ | refine ⟨by decide +kernel, by decide +kernel, wayF (by decide +kernel) ?_⟩ | refine ⟨by decide +kernel, by decide +kernel, wayT (by decide +kernel) ?_⟩ | refine ⟨by decide +kernel, ?_⟩ | refine ⟨Nat.le_of_ble_eq_true rfl, ?_⟩ | refine wayF rfl ?_ | refine wayT rfl ?_ | refine at_is rfl ?_)))
local macro_rules | `(tactic| walk_at "y") => `(tactic| (repeat (first | refine Red.red ?_ | refine ⟨by decide +kernel, by decide +kernel, wayF (by decide +kernel) ?_⟩ | refine ⟨by decide +kernel, by decide +kernel, wayT (by decide +kernel) ?_⟩ | refine ⟨by decide +kernel, ?_⟩ | refine ⟨Nat.le_of_ble_eq_true rfl, ?_⟩ | refine wayF rfl ?_ | refine wayT rfl ?_ | refine at_is rfl ?_)))
/-! k06, text 21. Own work. -/
section
variable {k m n ln : Nat} {st st' st2 s0 : Store} {Q R : K}
theorem kind_ok (hm : 5 ≤ m) (hd : DrawAt st) (q : ∀ x s st', KiP x s → Fra st st' → Q x st') : callN prog m "_law_any_kind" [.ref 2] st Q := by
  obtain ⟨m, rfl⟩ : ∃ n, m = n + 1 := ⟨m - 1, by omega⟩
  refine call_intro rfl rfl ?_
  unfold b_l_any_kind
  walk_at "s"
  refine drawM (by omega) hd (by decide) (by decide) fun z st1 z0 z1 f1 => ?_
  walk_at "s"
  refine way (fun e => ?_) (fun e => ?_)
  · walk_at "s"
    exact name_ok (by omega) f1.dr fun s st2 hs f2 => q _ s _ (.inr ⟨hs, rfl⟩) (f1.trans f2)
  · walk_at "z"
    exact numN (by omega) f1.dr fun v st2 hv f2 => q _ _ _ (.inl ⟨v, hv, rfl, rfl⟩) (f1.trans f2)
theorem pairs_ok (hm : 6 ≤ m) (hd : DrawAt st) (q : ∀ (qs : List Pr) st', (∀ p ∈ qs, PrOk p) → qs.length ≤ 3 → Fra st st' → Q (.tup (qs.map prD)) st') : callN prog m "_law_any_pairs" [.ref 2, .int 3] st Q := by
  obtain ⟨m, rfl⟩ : ∃ n, m = n + 1 := ⟨m - 1, by omega⟩
  have dl := hd.lt
  refine call_intro rfl rfl ?_
  unfold b_l_any_pairs
  walk_at "s"
  refine ⟨Nat.le_of_ble_eq_true rfl, ?_⟩
  walk_at "s"
  refine Nxt.mk ?_
  have f1 := (Fra.refl hd).app (c := C.lst [])
  have r1 := rdL_new (st := st) (xs := [])
  generalize st ++ [C.lst []] = st1 at f1 r1 ⊢
  walk_at "s"
  refine drawM (by omega) f1.dr (by decide) (by decide) fun cn st2 c0 c1 f2 => ?_
  have r2 := f2.rd r1 (by omega)
  walk_at "s"
  refine ⟨by omega, by omega, ?_⟩
  refine for_rng (fun j σ st' => ∃ (qs : List Pr) (o3 o4 : Option D), σ = [some (.ref 2), some (.int 3), some (.ref st.length), o3, o4] ∧ rdL st' st.length (qs.map prD) ∧ qs.length ≤ j ∧ (∀ p ∈ qs, PrOk p) ∧ Fra st st') ⟨[], none, none, rfl, r2, by simp, by simp, f1.trans f2⟩ (fun j σ st3 hj ⟨qs, o3, o4, e, r3, hl, hp, f3⟩ N hN => ?_) (fun σ st3 ⟨qs, o3, o4, e, r3, hl, hp, f3⟩ => ?_)
  · subst e
    refine ⟨trivial, ?_⟩
    walk_at "s"
    refine name_ok (by omega) f3.dr fun nm st4 hn f4 => ?_
    have r4 := f4.rd r3 (by omega)
    walk_at "s"
    refine Nxt.mk ?_
    walk_at "s"
    refine ⟨ty_at r4, ?_⟩
    walk_at "s"
    refine kind_ok (by omega) f4.dr fun x s st5 hk f5 => ?_
    have r5 := f5.rd r4 (by omega)
    walk_at "s"
    refine ⟨Nat.le_of_ble_eq_true rfl, ?_⟩
    walk_at "s"
    refine append_at r5 (by rw [List.length_map]; unfold szl; omega) ?_
    refine hN _ _ ⟨qs ++ [(nm, x, s)], _, _, rfl, by rw [List.map_append]; exact rdL_set r5, by simp; omega, fun p hp' => ?_, ((f3.trans f4).trans f5).set (Nat.le_refl _) (by omega)⟩
    rcases List.mem_append.mp hp' with h | h
    · exact hp p h
    · rw [List.mem_singleton] at h
      subst h
      exact ⟨hn, hk⟩
  · subst e
    refine ⟨trivial, ?_⟩
    refine Nxt.mk ?_
    walk_at "s"
    refine tuple_at r3 ?_
    exact q _ _ hp (by omega) f3
theorem Rows.le {d d' : Nat} {b : List D} {bt : List Str} (h : Rows (StP d) b bt) (hd : d ≤ d') : Rows (StP d') b bt := by
  obtain ⟨ps, h1, h2, h3⟩ := h
  exact ⟨ps, h1, h2, fun p hp => (h3 p hp).le hd⟩
theorem parT_len {qs : List Pr} (h : qs.length ≤ 3) : (parT qs).length ≤ 20 := by
  unfold parT
  have h1 := comma_len (qs.map parF)
  have h2 : (qs.map parF).flatten.length ≤ 3 * qs.length := by
    clear h h1
    induction qs with
    | nil => simp
    | cons q qs ih =>
      rw [List.map_cons, List.flatten_cons, List.length_append, List.length_cons]
      have : (parF q).length = 3 := rfl
      omega
  rw [List.length_map] at h1
  simp only [List.length_append, List.length_cons, List.length_nil]
  omega
theorem fm_bd {α : Type} {f : α → List Str} {B : Nat} {qs : List α} (h : ∀ q ∈ qs, (f q).length ≤ B) : (qs.flatMap f).length ≤ qs.length * B := by
  induction qs with
  | nil => simp
  | cons q qs ih =>
    have h1 := h q (by simp)
    have h2 := ih fun p hp => h p (List.mem_cons_of_mem _ hp)
    rw [List.flatMap_cons, List.length_append, List.length_cons, Nat.add_mul]
    omega
def PtG (x : D) (ts : List Str) : Prop := PtP x ts ∧ ts.length ≤ 400000
theorem vrF_len (v : Vr) : (vrF v).length ≤ 8 := by
  unfold vrF
  split <;> simp
theorem part_ok (hm : 30 ≤ m) (W : Dw ln st st) (q : ∀ x ts st', PtG x ts → Dw ln st st' → Q x st') : callN prog m "_law_any_part" [.ref 2, .ref ln] st Q := by
  obtain ⟨m, rfl⟩ : ∃ n, m = n + 1 := ⟨m - 1, by omega⟩
  have hbg := W.big
  refine call_intro rfl rfl ?_
  unfold b_l_any_part
  walk_at "s"
  refine drawM (by omega) W.dr (by decide) (by decide) fun z st1 z0 z1 f1 => ?_
  walk_at "s"
  refine Nxt.mk ?_
  walk_at "s"
  refine name_ok (by omega) f1.dr fun nm st2 hn f2 => ?_
  walk_at "s"
  refine Nxt.mk ?_
  walk_at "s"
  refine pairs_ok (by omega) f2.dr fun qs st3 hq lq f3 => ?_
  have W3 := ((W.fra f1).fra f2).fra f3
  have lp := parT_len lq
  walk_at "s"
  refine Nxt.mk ?_
  walk_at "s"
  refine way (fun e => ?_) (fun e => ?_)
  · walk_at "z"
    have hb := fm_bd (f := recF) (B := 4) (qs := qs) fun p _ => Nat.le_of_eq rfl
    exact q _ _ _ ⟨.record qs hn hq, by simp only [List.length_append, List.length_cons, List.length_nil]; omega⟩ W3
  walk_at "y"
  refine Nxt.mk ?_
  walk_at "s"
  refine way (fun e3 => ?_) (fun e3 => ?_)
  · walk_at "z"
    refine numN (by omega) W3.dr fun v st4 hv f4 => ?_
    have W4 := W3.fra f4
    walk_at "z"
    refine drawM (by omega) W4.dr (by decide) (by decide) fun sd st5 s0 s1 f5 => ?_
    have W5 := W4.fra f5
    walk_at "z"
    refine any4 (by omega) W5.self fun x ts st6 ⟨l, hx, lx⟩ W6' => ?_
    have W6 := W5.trans W6'
    walk_at "z"
    refine any4 (by omega) W6.self fun y us st7 ⟨l', hy, ly⟩ W7' => ?_
    have W7 := W6.trans W7'
    walk_at "z"
    rw [TB4] at lx ly
    refine q _ _ _ ⟨.ext (w := v) (s := sd) qs hn hq hv (hx.le (by decide)) (hy.le (by decide)), ?_⟩ W7
    have : (if sd = 1 then [S' "steady"] else []).length ≤ 1 := by split <;> simp
    simp only [List.length_append, List.length_cons, List.length_nil]
    omega
  walk_at "y"
  refine Nxt.mk ?_
  walk_at "s"
  refine kind_ok (by omega) W3.dr fun gx gs st4 hg f4 => ?_
  walk_at "s"
  refine Nxt.mk ?_
  walk_at "s"
  refine drawM (by omega) f4.dr (by decide) (by decide) fun en st5 en0 en1 f5 => ?_
  have W5 := (W3.fra f4).fra f5
  have hlt := W5.lt
  walk_at "s"
  refine Nxt.mk ?_
  walk_at "s"
  refine ⟨Nat.le_of_ble_eq_true rfl, ?_⟩
  walk_at "s"
  refine Nxt.mk ?_
  have W6 : Dw ln st5 (st5 ++ [C.lst []]) := W5.self.app
  have r6 := rdL_new (st := st5) (xs := [])
  generalize st5 ++ [C.lst []] = st6 at W6 r6 ⊢
  generalize hfn : st5.length = fn at r6 ⊢
  walk_at "s"
  refine pairs_ok (by omega) W6.dr fun vs0 st7 hv lv f7 => ?_
  have W7 := W6.fra f7
  have r7 := f7.rd r6 (by omega)
  walk_at "s"
  refine for_map vs0 prD rfl (fun j σ st' => ∃ (vs : List Vr) (o11 : Option D), σ = [some (.ref 2), some (.ref ln), some (.int z), some (.str nm), some (.tup (qs.map prD)), none, none, none, some gx, some (.int en), some (.ref fn), o11] ∧ rdL st' fn (vs.map vrD) ∧ vs.length ≤ j ∧ (∀ v ∈ vs, VrOk v) ∧ Dw ln st5 st') ⟨[], none, rfl, r7, by simp, by simp, W7⟩ (fun j p σ st8 hj ⟨vs, o11, e, r8, hl, hp, W8⟩ N hN => ?_) (fun σ st8 ⟨vs, o11, e, r8, hl, hp, W8⟩ => ?_)
  · subst e
    refine ⟨trivial, ?_⟩
    obtain ⟨⟨p1, pk, pks⟩, hpp⟩ : ∃ p' : Pr, p = p' := ⟨p, rfl⟩
    subst hpp
    have ok := hv _ (List.mem_of_getElem? hj)
    have hjl := (List.getElem?_eq_some_iff.mp hj).1
    rw [show prD (p1, pk, pks) = tp [.str p1, pk] from rfl]
    -- a row as it is
    have asis : ∀ st9, rdL st9 fn (vs.map vrD) → Dw ln st5 st9 → N [some (.ref 2), some (.ref ln), some (.int z), some (.str nm), some (.tup (qs.map prD)), none, none, none, some gx, some (.int en), some (.ref fn), some (tp [.str p1, pk])] (st9.set fn (.lst (vs.map vrD ++ [tp [.str p1, pk]]))) := by
      intro st9 r9 W9
      refine hN _ _ ⟨vs ++ [((p1, pk, pks), none)], _, rfl, by rw [List.map_append]; exact rdL_set r9, by simp; omega, fun v hv' => ?_, W9.setN (by omega) hlt⟩
      rcases List.mem_append.mp hv' with h | h
      · exact hp v h
      · rw [List.mem_singleton] at h
        subst h
        exact ⟨ok, fun n e => nomatch e⟩
    rcases ok.2 with ⟨v, hv', e1, e2⟩ | ⟨hs, e1⟩
    · have e1 : pk = .int (v : Int) := e1
      subst e1
      walk_at "z"
      refine drawM (by omega) W8.dr (by decide) (by decide) fun c st9 c0 c1 f9 => ?_
      have W9 := W8.fra f9
      have r9 := f9.rd r8 (by omega)
      walk_at "z"
      refine way (fun e => ?_) (fun e => ?_)
      · walk_at "z"
        refine ⟨ty_at r9, ?_⟩
        walk_at "z"
        refine numN (by omega) W9.dr fun w st10 hw f10 => ?_
        have W10 := W9.fra f10
        have r10 := f10.rd r9 (by omega)
        walk_at "z"
        refine append_at r10 (by rw [List.length_map]; unfold szl; omega) ?_
        refine hN _ _ ⟨vs ++ [((p1, .int (v : Int), pks), some w)], _, rfl, by rw [List.map_append]; exact rdL_set r10, by simp; omega, fun v' hv2 => ?_, W10.setN (by omega) hlt⟩
        rcases List.mem_append.mp hv2 with h | h
        · exact hp v' h
        · rw [List.mem_singleton] at h
          subst h
          exact ⟨ok, fun n e => by cases e; exact hw⟩
      · walk_at "z"
        refine ⟨ty_at r9, ?_⟩
        walk_at "z"
        exact append_at r9 (by rw [List.length_map]; unfold szl; omega) (asis st9 r9 W9)
    · have e1 : pk = .str pks := e1
      subst e1
      walk_at "z"
      refine ⟨ty_at r8, ?_⟩
      walk_at "z"
      exact append_at r8 (by rw [List.length_map]; unfold szl; omega) (asis st8 r8 W8)
  · subst e
    refine ⟨trivial, ?_⟩
    refine Nxt.mk ?_
    walk_at "s"
    refine tuple_at r8 ?_
    walk_at "s"
    have hB : BoD m 2 := sbody_ok (by omega) (sany_ok 2 (m - 1) (by omega))
    refine hB W8.self fun b bt st9 hb lb W9 => ?_
    walk_at "z"
    have h1 := fm_bd (f := vrF) (B := 8) (qs := vs) fun v _ => vrF_len v
    have hSB : SB 2 = 117800 := rfl
    rw [hSB] at lb
    refine q _ _ _ ⟨.fn (s := en) qs vs hn hq hg hp (hb.le (by decide)), ?_⟩ ((W5.trans W8).trans W9)
    have : (if en = 1 then [S' "entry"] else []).length ≤ 1 := by split <;> simp
    simp only [List.length_append, List.length_cons, List.length_nil]
    omega
theorem prog_ok (hm : 31 ≤ m) (W : Dw ln st st) (q : ∀ (ps : List (D × List Str)) st', (∀ p ∈ ps, PtG p.1 p.2) → ps.length ≤ 3 → DrawAt st' → Q (.tup (ps.map (·.1))) st') : callN prog m "_law_any_program" [.ref 2, .int 3, .ref ln] st Q := by
  obtain ⟨m, rfl⟩ : ∃ n, m = n + 1 := ⟨m - 1, by omega⟩
  refine call_intro rfl rfl ?_
  unfold b_l_any_program
  walk_at "s"
  refine drawM (by omega) W.dr (by decide) (by decide) fun cn st1 c0 c1 f1 => ?_
  have W1 := W.fra f1
  walk_at "s"
  refine ⟨by omega, by omega, ?_⟩
  walk_at "s"
  refine lc_dw (fun y ts => PtG y ts) W1.self (by simp [rng]; omega) (fun _ _ => trivial) (fun x hx st2 W2 N hN => ?_) fun ps st2 hl hp W2 r2 => ?_
  · walk_at "s"
    exact part_ok (by omega) W2.self hN
  walk_at "s"
  refine tuple_at r2 ?_
  exact q ps st2 hp (by rw [hl]; simp [rng]; omega) W2.dr
end
end Pk06
end PartPdk06P21

section PartPdk06P22
set_option Elab.async false
set_option linter.all false
set_option maxRecDepth 100000
set_option maxHeartbeats 1000000
namespace Pk06
open PySem Pd
local macro_rules | `(tactic| walk_at "t") => `(tactic| (repeat (first | refine Red.red ?_ | refine Nxt.mk ?_ | refine ⟨by decide +kernel, by decide +kernel, wayF (by decide +kernel) ?_⟩ | refine ⟨by decide +kernel, by decide +kernel, wayT (by decide +kernel) ?_⟩ | refine ⟨by decide +kernel, ?_⟩ | refine ⟨Nat.le_of_ble_eq_true rfl, ?_⟩ | refine at_is rfl ?_)))
local instance notinTup22_06 {x : D} {xs : List D} {st : Store} {r : Bool → Prop} : Red (notinC x (.tup xs) st r) (x.flat = true ∧ xs.all D.flat = true ∧ r (!(xs.any fun y => D.eqb y x))) := ⟨id⟩
local macro_rules | `(tactic| walk_at "s") => `(tactic| (repeat (refine Red.red ?_)))
local macro_rules | `(tactic| walk_at "r") => `(tactic| (repeat (first | refine Red.red ?_ | refine Nxt.mk ?_)))
local macro_rules | `(tactic| walk_at "v") => `(tactic| (repeat (first | refine Red.red ?_ | refine Nxt.mk ?_ | refine ⟨Nat.le_of_ble_eq_true rfl, ?_⟩ | refine at_is rfl ?_)))
local macro_rules | `(tactic| walk_at "w") => `(tactic| (repeat (first | refine Red.red ?_ | refine Nxt.mk ?_ | refine wayF rfl ?_ | refine wayT rfl ?_ | refine ⟨Nat.le_of_ble_eq_true rfl, ?_⟩ | refine at_is rfl ?_)))
local macro_rules | `(tactic| walk_at "u") => `(tactic| (repeat (first | refine Red.red ?_ | refine Nxt.mk ?_ | refine ⟨Nat.le_of_ble_eq_true rfl, ?_⟩ | refine at_is rfl ?_ | refine ⟨by decide +kernel, by decide +kernel, wayF (by decide +kernel) ?_⟩ | refine ⟨by decide +kernel, by decide +kernel, wayT (by decide +kernel) ?_⟩ | refine ⟨by decide +kernel, by decide +kernel, ?_⟩ | refine wayF (by decide +kernel) ?_ | refine wayT (by decide +kernel) ?_)))
local instance inNewB22_06 {x : D} {xs : List D} {st : Store} {r : Bool → Prop} : Red (inC x (.ref st.length) (st ++ [.lst xs]) r) (x.flat = true ∧ xs.all D.flat = true ∧ r (xs.any fun y => D.eqb y x)) := ⟨fun h => ⟨xs, .inl (by simp [rdL]), h⟩⟩
local instance inTupN22_06 {x : D} {xs : List D} {st : Store} {r : Bool → Prop} : Red (inC x (.tup xs) st r) (x.flat = true ∧ xs.all D.flat = true ∧ r (xs.any fun y => D.eqb y x)) := ⟨id⟩
local macro_rules | `(tactic| walk_at "z") => `(tactic| (repeat (first | refine Red.red ?_ | refine Nxt.mk ?_ | refine ⟨by decide +kernel, by decide +kernel, wayF (by decide +kernel) ?_⟩ | refine ⟨by decide +kernel, by decide +kernel, wayT (by decide +kernel) ?_⟩ | refine ⟨by decide +kernel, ?_⟩ | refine ⟨Nat.le_of_ble_eq_true rfl, ?_⟩ | refine wayF rfl ?_ | refine wayT rfl ?_ | refine at_is rfl ?_)))
local macro_rules | `(tactic| walk_at "y") => `(tactic| (repeat (first | refine Red.red ?_ | refine ⟨by decide +kernel, by decide +kernel, wayF (by decide +kernel) ?_⟩ | refine ⟨by decide +kernel, by decide +kernel, wayT (by decide +kernel) ?_⟩ | refine ⟨by decide +kernel, ?_⟩ | refine ⟨Nat.le_of_ble_eq_true rfl, ?_⟩ | refine wayF rfl ?_ | refine wayT rfl ?_ | refine at_is rfl ?_)))
/-! k06, text 22. Own work. -/
section
variable {k m n ln : Nat} {st st' st2 s0 : Store} {Q R : K}
def WoG (ps : List (D × List Str)) : Prop := (∀ p ∈ ps, PtP p.1 p.2) ∧ (ps.map (·.2)).flatten.length ≤ 1800000 ∧ ps.length ≤ 240
theorem WoG.one {x : D} {ts : List Str} (h : PtP x ts) (hl : ts.length ≤ 1800000) : WoG [(x, ts)] := ⟨fun p hp => by rw [List.mem_singleton] at hp; subst hp; exact h, by simpa using hl, by simp⟩
theorem kone : KiP (.int 1) (nmS 1) := .inl ⟨1, by decide, rfl, rfl⟩
theorem parT_len2 {qs : List Pr} (h : qs.length ≤ 240) : (parT qs).length ≤ 1000 := by
  unfold parT
  have h1 := comma_len (qs.map parF)
  have h2 : (qs.map parF).flatten.length ≤ 3 * qs.length := by
    clear h h1
    induction qs with
    | nil => simp
    | cons q qs ih =>
      rw [List.map_cons, List.flatten_cons, List.length_append, List.length_cons]
      have : (parF q).length = 3 := rfl
      omega
  rw [List.length_map] at h1
  simp only [List.length_append, List.length_cons, List.length_nil]
  omega
theorem wide_ok (hm : 10 ≤ m) (hd : DrawAt st) (q : ∀ (ps : List (D × List Str)) st', WoG ps → DrawAt st' → Q (.tup (ps.map (·.1))) st') : callN prog m "_law_wide_program" [.ref 2, .int 240] st Q := by
  obtain ⟨m, rfl⟩ : ∃ n, m = n + 1 := ⟨m - 1, by omega⟩
  refine call_intro rfl rfl ?_
  unfold b_l_wide_program
  walk_at "s"
  refine drawM (by omega) hd (by decide) (by decide) fun z st1 z0 z1 f1 => ?_
  walk_at "s"
  refine Nxt.mk ?_
  walk_at "s"
  refine drawM (by omega) f1.dr (by decide) (by decide) fun cn st2 c0 c1 f2 => ?_
  walk_at "s"
  refine Nxt.mk ?_
  walk_at "s"
  refine name_ok (by omega) f2.dr fun nm st3 hn f3 => ?_
  walk_at "s"
  refine Nxt.mk ?_
  walk_at "s"
  refine ⟨by decide, by decide, ?_⟩
  walk_at "s"
  refine lc_two (List.range 3) (fun (k : Nat) => D.int (0 + k)) prD (fun _ p => PrOk p) rfl f3.dr (by simp [szl]) (fun _ _ => trivial) (fun x hx st4 f4 N hN => ?_) (fun ys st4 h3 f4 h4 => ?_)
  · walk_at "s"
    refine name_ok (by omega) f4.dr fun s st5 hs f5 => ?_
    walk_at "s"
    refine kind_ok (by omega) f5.dr fun y ks st6 hk f6 => ?_
    walk_at "s"
    refine ⟨Nat.le_of_ble_eq_true rfl, ?_⟩
    exact hN (s, y, ks) _ ⟨hs, hk⟩ (f5.trans f6)
  have hlen := h3.length
  rw [List.length_range] at hlen
  have hok : ∀ p ∈ ys, PrOk p := by
    clear h4 hlen
    generalize List.range 3 = l at h3
    induction h3 with
    | nil => simp
    | cons h _ ih =>
      intro p hp
      rcases List.mem_cons.mp hp with rfl | hp
      · exact h
      · exact ih p hp
  walk_at "s"
  refine Nxt.mk ?_
  walk_at "s"
  refine ⟨by omega, by omega, ?_⟩
  walk_at "s"
  refine lc_map (List.range (1 + cn).toNat) (fun (k : Nat) => D.int (0 + k)) (fun (k : Nat) => prD (ys.getD (k % 3) ((nm, .int 0, nm) : Pr))) rfl (by rw [List.length_range]; unfold szl; omega) (fun _ => trivial) (fun x hx acc N hN => ?_) ?_
  · walk_at "s"
    refine ⟨by decide, ?_⟩
    have hx3 : x % 3 < ys.length := by omega
    have e3 : (0 + (x : Int)) % 3 = ((x % 3 : Nat) : Int) := by omega
    rw [e3]
    refine ix_ref (rdL_app h4) ?_ hN
    unfold atD
    rw [if_pos (by omega), Int.toNat_natCast, List.getElem?_map, List.getElem?_eq_getElem hx3, List.getD_eq_getElem?_getD, List.getElem?_eq_getElem hx3]
    rfl
  walk_at "s"
  refine tuple_at rdL_new ?_
  have f5 := ((((f1.trans f2).trans f3).trans f4).app (c := C.lst ((List.range (1 + cn).toNat).map fun (k : Nat) => prD (ys.getD (k % 3) ((nm, .int 0, nm) : Pr)))))
  generalize st4 ++ [C.lst ((List.range (1 + cn).toNat).map fun (k : Nat) => prD (ys.getD (k % 3) ((nm, .int 0, nm) : Pr)))] = st5 at f5 ⊢
  have hqs : ((List.range (1 + cn).toNat).map fun (k : Nat) => prD (ys.getD (k % 3) ((nm, .int 0, nm) : Pr))) = ((List.range (1 + cn).toNat).map fun (k : Nat) => ys.getD (k % 3) ((nm, .int 0, nm) : Pr)).map prD := by rw [List.map_map]; rfl
  rw [hqs]
  have hq : ∀ p ∈ (List.range (1 + cn).toNat).map fun (k : Nat) => ys.getD (k % 3) ((nm, .int 0, nm) : Pr), PrOk p := fun p hp => by
    obtain ⟨k, _, rfl⟩ := List.mem_map.mp hp
    have hx3 : k % 3 < ys.length := by omega
    rw [List.getD_eq_getElem?_getD, List.getElem?_eq_getElem hx3]
    exact hok _ (List.getElem_mem hx3)
  have lq : ((List.range (1 + cn).toNat).map fun (k : Nat) => ys.getD (k % 3) ((nm, .int 0, nm) : Pr)).length ≤ 240 := by rw [List.length_map, List.length_range]; omega
  generalize ((List.range (1 + cn).toNat).map fun (k : Nat) => ys.getD (k % 3) ((nm, .int 0, nm) : Pr)) = qs at hq lq ⊢
  have lp := parT_len2 lq
  have d5 := f5.dr
  walk_at "s"
  refine Nxt.mk ?_
  rcases (by omega : z = 0 ∨ z = 1 ∨ z = 2 ∨ z = 3 ∨ z = 7 ∨ z = 4 ∨ z = 5 ∨ z = 6) with rfl | rfl | rfl | rfl | rfl | rfl | rfl | rfl
  · walk_at "z"
    have hb := fm_bd (f := recF) (B := 4) (qs := qs) fun p _ => Nat.le_of_eq rfl
    exact q [(_, _)] _ (.one (.record qs hn hq) (by simp only [List.length_append, List.length_cons, List.length_nil]; omega)) d5
  · walk_at "z"
    exact q [(_, _)] _ (.one (.fn (s := 0) (b := []) (bt := []) qs [] hn hq kone (by simp) ⟨[], rfl, rfl, by simp⟩) (by simp; omega)) d5
  · walk_at "z"
    have e1 : qs.map prD = (qs.map fun q => ((q, none) : Vr)).map vrD := by rw [List.map_map]; rfl
    rw [e1]
    have hb := fm_bd (f := vrF) (B := 8) (qs := qs.map fun q => ((q, none) : Vr)) fun v _ => vrF_len v
    rw [List.length_map] at hb
    exact q [(_, _)] _ (.one (.fn (s := 1) (b := []) (bt := []) [] _ hn (by simp) kone (fun v hv => by
      obtain ⟨p, hp, rfl⟩ := List.mem_map.mp hv
      exact ⟨hq p hp, fun n e => nomatch e⟩) ⟨[], rfl, rfl, by simp⟩) (by
        have : (parT []).length ≤ 1000 := parT_len2 (by simp)
        simp only [List.length_append, List.length_cons, List.length_nil, if_pos]
        omega)) d5
  · walk_at "z"
    refine lc_map qs prD (fun p => tp [.str p.1, .int 3, .int 2]) rfl (by unfold szl; omega) (fun _ => trivial) (fun p hp acc N hN => ?_) ?_
    · rw [show prD p = tp [.str p.1, p.2.1] from rfl]
      walk_at "z"
      exact hN
    walk_at "s"
    refine tuple_at rdL_new ?_
    have d6 := ((Fra.refl d5).app (c := C.lst (qs.map fun p => (tp [.str p.1, .int 3, .int 2] : D)))).dr
    generalize st5 ++ [C.lst (qs.map fun p => (tp [.str p.1, .int 3, .int 2] : D))] = st6 at d6 ⊢
    walk_at "z"
    have e1 : (qs.map fun p => (tp [.str p.1, .int 3, .int 2] : D)) = (qs.map fun q => (((q.1, .int 3, nmS 3), some 2) : Vr)).map vrD := by rw [List.map_map]; rfl
    rw [e1]
    have hb := fm_bd (f := vrF) (B := 8) (qs := qs.map fun q => (((q.1, .int 3, nmS 3), some 2) : Vr)) fun v _ => vrF_len v
    rw [List.length_map] at hb
    exact q [(_, _)] _ (.one (.fn (s := 0) (b := []) (bt := []) [] _ hn (by simp) kone (fun v hv => by
      obtain ⟨p, hp, rfl⟩ := List.mem_map.mp hv
      exact ⟨⟨(hq p hp).1, .inl ⟨3, by decide, rfl, rfl⟩⟩, fun n e => by cases e; decide⟩) ⟨[], rfl, rfl, by simp⟩) (by
        have : (parT []).length ≤ 1000 := parT_len2 (by simp)
        have e0 : (if (0 : Int) = 1 then [S' "entry"] else []).length = 0 := rfl
        simp only [List.length_append, List.length_cons, List.length_nil, e0]
        omega)) d6
  · walk_at "z"
    refine lc_map qs prD (fun p => tp [.str (S' "record"), .str p.1, .tup []]) rfl (by unfold szl; omega) (fun _ => trivial) (fun p hp acc N hN => ?_) ?_
    · rw [show prD p = tp [.str p.1, p.2.1] from rfl]
      walk_at "z"
      exact hN
    walk_at "s"
    refine tuple_at rdL_new ?_
    have d6 := ((Fra.refl d5).app (c := C.lst (qs.map fun p => (tp [.str (S' "record"), .str p.1, .tup []] : D)))).dr
    generalize st5 ++ [C.lst (qs.map fun p => (tp [.str (S' "record"), .str p.1, .tup []] : D))] = st6 at d6 ⊢
    have e1 : (qs.map fun p => (tp [.str (S' "record"), .str p.1, .tup []] : D)) = (qs.map fun p => ((tp [.str (S' "record"), .str p.1, .tup []], [S' "record", p.1, S' "{"] ++ ([] : List Pr).flatMap recF ++ [S' "}"]) : D × List Str)).map (·.1) := by rw [List.map_map]; rfl
    rw [e1]
    refine q _ _ ⟨fun y hy => ?_, ?_, by rw [List.length_map]; exact lq⟩ d6
    · obtain ⟨p, hp, rfl⟩ := List.mem_map.mp hy
      exact .record [] (hq p hp).1 (by simp)
    · have hb := flat_bound (P := fun _ _ => True) (B := 4) (ps := qs.map fun p => ((tp [.str (S' "record"), .str p.1, .tup []], [S' "record", p.1, S' "{"] ++ ([] : List Pr).flatMap recF ++ [S' "}"]) : D × List Str)) fun y hy => by
        obtain ⟨p, hp, rfl⟩ := List.mem_map.mp hy
        simp
      rw [List.length_map] at hb
      omega
  · walk_at "z"
    refine lc_map qs prD (fun p => tp [.str (S' "raise"), .str p.1]) rfl (by unfold szl; omega) (fun _ => trivial) (fun p hp acc N hN => ?_) ?_
    · rw [show prD p = tp [.str p.1, p.2.1] from rfl]
      walk_at "z"
      exact hN
    walk_at "s"
    refine tuple_at rdL_new ?_
    have d6 := ((Fra.refl d5).app (c := C.lst (qs.map fun p => (tp [.str (S' "raise"), .str p.1] : D)))).dr
    generalize st5 ++ [C.lst (qs.map fun p => (tp [.str (S' "raise"), .str p.1] : D))] = st6 at d6 ⊢
    walk_at "z"
    refine lc_map qs prD (fun p => tp [.str p.1, .tup []]) rfl (by unfold szl; omega) (fun _ => trivial) (fun p hp acc N hN => ?_) ?_
    · rw [show prD p = tp [.str p.1, p.2.1] from rfl]
      walk_at "z"
      exact hN
    walk_at "s"
    refine tuple_at rdL_new ?_
    have d7 := ((Fra.refl d6).app (c := C.lst (qs.map fun p => (tp [.str p.1, .tup []] : D)))).dr
    generalize st6 ++ [C.lst (qs.map fun p => (tp [.str p.1, .tup []] : D))] = st7 at d7 ⊢
    walk_at "z"
    have hC : Rows (CaP (StP 0)) (qs.map fun p => (tp [.str p.1, .tup []] : D)) ((qs.map (fun p : Pr => ((tp [.str p.1, .tup []], [S' "catch", p.1] ++ blk []) : D × List Str))).map (·.2)).flatten := ⟨qs.map (fun p : Pr => ((tp [.str p.1, .tup []], [S' "catch", p.1] ++ blk []) : D × List Str)), by rw [List.map_map]; rfl, rfl, fun y hy => by
      obtain ⟨p, hp, rfl⟩ := List.mem_map.mp hy
      exact ⟨p.1, [], [], (hq p hp).1, ⟨[], rfl, rfl, by simp⟩, rfl, rfl⟩⟩
    have hb := flat_bound (P := fun _ _ => True) (B := 4) (ps := qs.map (fun p : Pr => ((tp [.str p.1, .tup []], [S' "catch", p.1] ++ blk []) : D × List Str))) fun y hy => by
      obtain ⟨p, hp, rfl⟩ := List.mem_map.mp hy
      simp [blk]
    rw [List.length_map] at hb
    generalize ((qs.map (fun p : Pr => ((tp [.str p.1, .tup []], [S' "catch", p.1] ++ blk []) : D × List Str))).map (·.2)).flatten = ct at hC hb
    have hR : Rows (StP 22) [tp [.str (S' "try"), .tup [], .tup (qs.map fun p => (tp [.str p.1, .tup []] : D))]] ([S' "try"] ++ blk [] ++ ct) := ⟨[(_, [S' "try"] ++ blk [] ++ ct)], rfl, by simp, fun y hy => by
      rw [List.mem_singleton] at hy
      subst hy
      exact (show StP 1 _ _ from .inr (.inr (.inr ⟨[], _, [], ct, ⟨[], rfl, rfl, by simp⟩, hC, rfl, rfl⟩))).le (by decide)⟩
    have hbl : (blk []).length = 2 := rfl
    exact q [(_, _)] _ (.one (.fn (s := 1) [] [] hn (by simp) (.inr ⟨hn, rfl⟩) (by simp) hR) (by
      have : (parT []).length ≤ 1000 := parT_len2 (by simp)
      simp only [List.length_append, List.length_cons, List.length_nil, if_pos, List.flatMap_nil, hbl]
      omega)) d7
  · walk_at "z"
    refine lc_map qs prD (fun p => tp [.str (S' "raise"), .str p.1]) rfl (by unfold szl; omega) (fun _ => trivial) (fun p hp acc N hN => ?_) ?_
    · rw [show prD p = tp [.str p.1, p.2.1] from rfl]
      walk_at "z"
      exact hN
    walk_at "s"
    refine tuple_at rdL_new ?_
    have d6 := ((Fra.refl d5).app (c := C.lst (qs.map fun p => (tp [.str (S' "raise"), .str p.1] : D)))).dr
    generalize st5 ++ [C.lst (qs.map fun p => (tp [.str (S' "raise"), .str p.1] : D))] = st6 at d6 ⊢
    walk_at "z"
    refine lc_map qs prD (fun p => tp [.str (S' "name"), .str p.1]) rfl (by unfold szl; omega) (fun _ => trivial) (fun p hp acc N hN => ?_) ?_
    · rw [show prD p = tp [.str p.1, p.2.1] from rfl]
      walk_at "z"
      exact hN
    walk_at "s"
    refine tuple_at rdL_new ?_
    have d7 := ((Fra.refl d6).app (c := C.lst (qs.map fun p => (tp [.str (S' "name"), .str p.1] : D)))).dr
    generalize st6 ++ [C.lst (qs.map fun p => (tp [.str (S' "name"), .str p.1] : D))] = st7 at d7 ⊢
    walk_at "z"
    have e1 : (qs.map fun p => (tp [.str (S' "name"), .str p.1] : D)) = (qs.map (fun p : Pr => ((tp [.str (S' "name"), .str p.1], [p.1]) : D × List Str))).map (·.1) := by rw [List.map_map]; rfl
    rw [e1]
    have hb := comma_bd (B := 1) (ps := qs.map (fun p : Pr => ((tp [.str (S' "name"), .str p.1], [p.1]) : D × List Str))) fun y hy => by
      obtain ⟨p, hp, rfl⟩ := List.mem_map.mp hy
      exact Nat.le_refl _
    rw [List.length_map] at hb
    have hR : Rows (StP 22) [tp [.str (S' "call"), tgD none, .str nm, .tup ((qs.map (fun p : Pr => ((tp [.str (S' "name"), .str p.1], [p.1]) : D × List Str))).map (·.1))]] ([S' "call"] ++ tgT none ++ [nm, S' "("] ++ comma ((qs.map (fun p : Pr => ((tp [.str (S' "name"), .str p.1], [p.1]) : D × List Str))).map (·.2)) ++ [S' ")", S' ";"]) := ⟨[(_, [S' "call"] ++ tgT none ++ [nm, S' "("] ++ comma ((qs.map (fun p : Pr => ((tp [.str (S' "name"), .str p.1], [p.1]) : D × List Str))).map (·.2)) ++ [S' ")", S' ";"])], rfl, by simp, fun y hy => by
      rw [List.mem_singleton] at hy
      subst hy
      exact (show StP 0 _ _ from .call _ (fun s (e : (none : Option Str) = some s) => nomatch e) hn fun y hy => by
        obtain ⟨p, hp, rfl⟩ := List.mem_map.mp hy
        exact ⟨9, .name (hq p hp).1⟩).le (by decide)⟩
    have htg : (tgT none).length = 0 := rfl
    exact q [(_, _)] _ (.one (.fn (s := 1) [] [] hn (by simp) (.inr ⟨hn, rfl⟩) (by simp) hR) (by
      have : (parT []).length ≤ 1000 := parT_len2 (by simp)
      simp only [List.length_append, List.length_cons, List.length_nil, if_pos, List.flatMap_nil, htg]
      omega)) d7
  · walk_at "z"
    refine lc_map qs prD (fun p => tp [.str (S' "raise"), .str p.1]) rfl (by unfold szl; omega) (fun _ => trivial) (fun p hp acc N hN => ?_) ?_
    · rw [show prD p = tp [.str p.1, p.2.1] from rfl]
      walk_at "z"
      exact hN
    walk_at "s"
    refine tuple_at rdL_new ?_
    have d6 := ((Fra.refl d5).app (c := C.lst (qs.map fun p => (tp [.str (S' "raise"), .str p.1] : D)))).dr
    generalize st5 ++ [C.lst (qs.map fun p => (tp [.str (S' "raise"), .str p.1] : D))] = st6 at d6 ⊢
    walk_at "z"
    have hR : Rows (StP 22) (qs.map fun p => (tp [.str (S' "raise"), .str p.1] : D)) ((qs.map (fun p : Pr => ((tp [.str (S' "raise"), .str p.1], [S' "raise", p.1, S' ";"]) : D × List Str))).map (·.2)).flatten := ⟨qs.map (fun p : Pr => ((tp [.str (S' "raise"), .str p.1], [S' "raise", p.1, S' ";"]) : D × List Str)), by rw [List.map_map]; rfl, rfl, fun y hy => by
      obtain ⟨p, hp, rfl⟩ := List.mem_map.mp hy
      exact (show StP 0 _ _ from .raise (hq p hp).1).le (by decide)⟩
    have hb := flat_bound (P := fun _ _ => True) (B := 3) (ps := qs.map (fun p : Pr => ((tp [.str (S' "raise"), .str p.1], [S' "raise", p.1, S' ";"]) : D × List Str))) fun y hy => by
      obtain ⟨p, hp, rfl⟩ := List.mem_map.mp hy
      exact Nat.le_refl _
    rw [List.length_map] at hb
    exact q [(_, _)] _ (.one (.fn (s := 1) [] [] hn (by simp) (.inr ⟨hn, rfl⟩) (by simp) hR) (by
      have : (parT []).length ≤ 1000 := parT_len2 (by simp)
      simp only [List.length_append, List.length_cons, List.length_nil, if_pos, List.flatMap_nil]
      omega)) d6
end
end Pk06
end PartPdk06P22

section PartPdk06P23
set_option Elab.async false
set_option linter.all false
set_option maxRecDepth 100000
set_option maxHeartbeats 1000000
namespace Pk06
open PySem Pd
local macro_rules | `(tactic| walk_at "t") => `(tactic| (repeat (first | refine Red.red ?_ | refine Nxt.mk ?_ | refine ⟨by decide +kernel, by decide +kernel, wayF (by decide +kernel) ?_⟩ | refine ⟨by decide +kernel, by decide +kernel, wayT (by decide +kernel) ?_⟩ | refine ⟨by decide +kernel, ?_⟩ | refine ⟨Nat.le_of_ble_eq_true rfl, ?_⟩ | refine at_is rfl ?_)))
local instance notinTup23_06 {x : D} {xs : List D} {st : Store} {r : Bool → Prop} : Red (notinC x (.tup xs) st r) (x.flat = true ∧ xs.all D.flat = true ∧ r (!(xs.any fun y => D.eqb y x))) := ⟨id⟩
local macro_rules | `(tactic| walk_at "s") => `(tactic| (repeat (refine Red.red ?_)))
local macro_rules | `(tactic| walk_at "r") => `(tactic| (repeat (first | refine Red.red ?_ | refine Nxt.mk ?_)))
local macro_rules | `(tactic| walk_at "v") => `(tactic| (repeat (first | refine Red.red ?_ | refine Nxt.mk ?_ | refine ⟨Nat.le_of_ble_eq_true rfl, ?_⟩ | refine at_is rfl ?_)))
local macro_rules | `(tactic| walk_at "w") => `(tactic| (repeat (first | refine Red.red ?_ | refine Nxt.mk ?_ | refine wayF rfl ?_ | refine wayT rfl ?_ | refine ⟨Nat.le_of_ble_eq_true rfl, ?_⟩ | refine at_is rfl ?_)))
local macro_rules | `(tactic| walk_at "u") => `(tactic| (repeat (first | refine Red.red ?_ | refine Nxt.mk ?_ | refine ⟨Nat.le_of_ble_eq_true rfl, ?_⟩ | refine at_is rfl ?_ | refine ⟨by decide +kernel, by decide +kernel, wayF (by decide +kernel) ?_⟩ | refine ⟨by decide +kernel, by decide +kernel, wayT (by decide +kernel) ?_⟩ | refine ⟨by decide +kernel, by decide +kernel, ?_⟩ | refine wayF (by decide +kernel) ?_ | refine wayT (by decide +kernel) ?_)))
local instance inNewB23_06 {x : D} {xs : List D} {st : Store} {r : Bool → Prop} : Red (inC x (.ref st.length) (st ++ [.lst xs]) r) (x.flat = true ∧ xs.all D.flat = true ∧ r (xs.any fun y => D.eqb y x)) := ⟨fun h => ⟨xs, .inl (by simp [rdL]), h⟩⟩
local instance inTupN23_06 {x : D} {xs : List D} {st : Store} {r : Bool → Prop} : Red (inC x (.tup xs) st r) (x.flat = true ∧ xs.all D.flat = true ∧ r (xs.any fun y => D.eqb y x)) := ⟨id⟩
local macro_rules | `(tactic| walk_at "z") => `(tactic| (repeat (first | refine Red.red ?_ | refine Nxt.mk ?_ | refine ⟨by decide +kernel, by decide +kernel, wayF (by decide +kernel) ?_⟩ | refine ⟨by decide +kernel, by decide +kernel, wayT (by decide +kernel) ?_⟩ | refine ⟨by decide +kernel, ?_⟩ | refine ⟨Nat.le_of_ble_eq_true rfl, ?_⟩ | refine wayF rfl ?_ | refine wayT rfl ?_ | refine at_is rfl ?_)))
local macro_rules | `(tactic| walk_at "y") => `(tactic| (repeat (first | refine Red.red ?_ | refine ⟨by decide +kernel, by decide +kernel, wayF (by decide +kernel) ?_⟩ | refine ⟨by decide +kernel, by decide +kernel, wayT (by decide +kernel) ?_⟩ | refine ⟨by decide +kernel, ?_⟩ | refine ⟨Nat.le_of_ble_eq_true rfl, ?_⟩ | refine wayF rfl ?_ | refine wayT rfl ?_ | refine at_is rfl ?_)))
/-! k06, text 23. Own work. -/
section
variable {k m n ln : Nat} {st st' st2 s0 : Store} {Q R : K}
def DeX (j : Nat) (x : D) : Prop := ∃ l ts, ExP j x l ts ∧ ts.length ≤ 10 * j + 1
theorem DeX.le {j : Nat} {x : D} (h : DeX j x) : DeX (j + 1) x := by
  obtain ⟨l, ts, h1, h2⟩ := h
  exact ⟨l, ts, h1.up, by omega⟩
def DeB (j : Nat) (b : List D) : Prop := ∃ bt, Rows (StP j) b bt ∧ bt.length ≤ 10 * j
theorem deep_ok (hm : 10 ≤ m) (hd : DrawAt st) (q : ∀ (ps : List (D × List Str)) st', WoG ps → DrawAt st' → Q (.tup (ps.map (·.1))) st') : callN prog m "_law_deep_program" [.ref 2] st Q := by
  obtain ⟨m, rfl⟩ : ∃ n, m = n + 1 := ⟨m - 1, by omega⟩
  refine call_intro rfl rfl ?_
  unfold b_l_deep_program
  walk_at "s"
  refine drawM (by omega) hd (by decide) (by decide) fun z st1 z0 z1 f1 => ?_
  walk_at "s"
  refine Nxt.mk ?_
  walk_at "s"
  refine name_ok (by omega) f1.dr fun nm st2 hn f2 => ?_
  walk_at "z"
  have f12 := f1.trans f2
  obtain ⟨r, hr, r0, r1, r5⟩ : ∃ r : Int, atD [D.int 18, D.int 18, D.int 19, D.int 20, D.int 40, D.int 19] z = some (.int r) ∧ 18 ≤ r ∧ r ≤ 40 ∧ (z = 5 → r = 19) := by
    rcases (by omega : z = 0 ∨ z = 1 ∨ z = 2 ∨ z = 3 ∨ z = 4 ∨ z = 5) with e | e | e | e | e | e <;> subst e <;> exact ⟨_, rfl, by decide, by decide, by decide⟩
  refine ix_ref rdL_new hr ?_
  walk_at "s"
  have f3 := f12.app (c := C.lst [D.int 18, D.int 18, D.int 19, D.int 20, D.int 40, D.int 19])
  refine drawM (by omega) f3.dr (by decide) (by decide) fun c st4 c0 c1 f4 => ?_
  have f34 := f3.trans f4
  walk_at "s"
  refine ⟨by omega, by omega, ?_⟩
  refine for_rng (fun j σ st' => ∃ (x : D) (b : List D) (o5 : Option D), σ = [some (.ref 2), some (.int z), some (.str nm), some x, some (.tup b), o5] ∧ DeX j x ∧ (z = 5 → DeX 0 x ∧ DeB j b) ∧ DrawAt st') ⟨_, [], none, rfl, ⟨9, _, .name hn, by simp⟩, fun _ => ⟨⟨9, _, .name hn, by simp⟩, [], ⟨[], rfl, rfl, by simp⟩, by simp⟩, f34.dr⟩ (fun j σ st5 hj ⟨x, b, o5, e, hx, hb, d5⟩ N hN => ?_) (fun σ st5 ⟨x, b, o5, e, hx, hb, d5⟩ => ?_)
  · subst e
    refine ⟨trivial, ?_⟩
    have dl := d5.lt
    obtain ⟨l, ts, h1, h2⟩ := hx
    rcases (by omega : z = 0 ∨ z = 1 ∨ z = 2 ∨ z = 3 ∨ z = 4 ∨ z = 5) with rfl | rfl | rfl | rfl | rfl | rfl
    · walk_at "z"
      exact hN _ _ ⟨_, _, _, rfl, ⟨9, _, .item hn h1, by simp only [List.length_append, List.length_cons, List.length_nil]; omega⟩, fun e => by omega, d5⟩
    · walk_at "z"
      refine pickXN (xs := [S' "div", S' "rem"]) (b := 8) rfl rfl (by omega) d5 (by decide) (by decide) (txb_ok (by decide +kernel)) fun s st6 hs _ f6 => ?_
      simp at hs
      walk_at "z"
      exact hN _ _ ⟨_, _, _, rfl, ⟨9, _, .two hs .null h1, by simp only [List.length_append, List.length_cons, List.length_nil]; omega⟩, fun e => by omega, f6.dr⟩
    · walk_at "z"
      refine pickXN (xs := [S' "-", S' "<<", S' "&"]) (b := 8) rfl rfl (by omega) d5 (by decide) (by decide) (txb_ok (by decide +kernel)) fun s st6 hs _ f6 => ?_
      obtain ⟨o, rfl⟩ : ∃ o : Bo, s = o.s := by
        simp at hs
        rcases hs with rfl | rfl | rfl
        · exact ⟨.sub, rfl⟩
        · exact ⟨.shl, rfl⟩
        · exact ⟨.and, rfl⟩
      walk_at "z"
      have p1 := @par_len 9 (o.lv + if o.lv = 4 then 1 else 0) [nm]
      have p2 := @par_len l (o.lv + 1) ts
      rw [List.length_singleton] at p1
      exact hN _ _ ⟨_, _, _, rfl, ⟨_, _, .bin (.name hn) h1, by simp only [List.length_append, List.length_cons, List.length_nil]; omega⟩, fun e => by omega, f6.dr⟩
    · walk_at "z"
      refine pickXN (xs := [S' "not", S' "neg"]) (b := 8) rfl rfl (by omega) d5 (by decide) (by decide) (txb_ok (by decide +kernel)) fun s st6 hs _ f6 => ?_
      have p2 := @par_len l 8 ts
      simp at hs
      walk_at "z"
      rcases hs with rfl | rfl
      · exact hN _ _ ⟨_, _, _, rfl, ⟨_, _, .not h1, by simp only [List.length_append, List.length_cons, List.length_nil]; omega⟩, fun e => by omega, f6.dr⟩
      · exact hN _ _ ⟨_, _, _, rfl, ⟨_, _, .neg h1, by simp only [List.length_append, List.length_cons, List.length_nil]; omega⟩, fun e => by omega, f6.dr⟩
    · walk_at "z"
      have p1 := @par_len l (Bo.add.lv + if Bo.add.lv = 4 then 1 else 0) ts
      have p2 := @par_len 9 (Bo.add.lv + 1) [nm]
      rw [List.length_singleton] at p2
      exact hN _ _ ⟨_, _, _, rfl, ⟨_, _, .bin (o := .add) h1 (.name hn), by simp only [List.length_append, List.length_cons, List.length_nil]; omega⟩, fun e => by omega, d5⟩
    · walk_at "z"
      obtain ⟨⟨l0, t0, h3, h4⟩, bt, h5, h6⟩ := hb rfl
      refine hN _ _ ⟨_, [tp [.str (S' "while"), x, .tup b]], _, rfl, ⟨l, ts, h1.up, by omega⟩, fun _ => ⟨⟨l0, t0, h3, h4⟩, [S' "while"] ++ t0 ++ blk bt, ⟨[(_, [S' "while"] ++ t0 ++ blk bt)], rfl, by simp, fun y hy => ?_⟩, ?_⟩, d5⟩
      · rw [List.mem_singleton] at hy
        subst hy
        exact .inr (.inl ⟨x, l0, t0, b, bt, h3.le (by decide), h5, rfl, rfl⟩)
      · simp only [List.length_append, blk_len, List.length_cons, List.length_nil]
        omega
  · subst e
    refine ⟨trivial, ?_⟩
    refine Nxt.mk ?_
    walk_at "s"
    obtain ⟨l, ts, h1, h2⟩ := hx
    have hpt : (parT []).length ≤ 1000 := parT_len2 (by simp)
    refine way (fun e => ?_) (fun e => ?_)
    · walk_at "z"
      have hR : Rows (StP 22) [tp [.str (S' "call"), tgD none, .str nm, .tup ([((x, ts) : D × List Str)].map (·.1))]] ([S' "call"] ++ tgT none ++ [nm, S' "("] ++ comma ([((x, ts) : D × List Str)].map (·.2)) ++ [S' ")", S' ";"]) := ⟨[(_, [S' "call"] ++ tgT none ++ [nm, S' "("] ++ comma ([((x, ts) : D × List Str)].map (·.2)) ++ [S' ")", S' ";"])], rfl, by simp, fun y hy => by
        rw [List.mem_singleton] at hy
        subst hy
        exact (show StP 0 _ _ from .call _ (fun s (e : (none : Option Str) = some s) => nomatch e) hn fun y hy => by
          rw [List.mem_singleton] at hy
          subst hy
          exact ⟨l, h1.le (by omega)⟩).le (by decide)⟩
      have hc : comma ([((x, ts) : D × List Str)].map (·.2)) = ts := by simp [comma]
      rw [hc] at hR
      have htg : (tgT none).length = 0 := rfl
      have e0 : (if (0 : Int) = 1 then [S' "entry"] else []).length = 0 := rfl
      exact q [(_, _)] _ (.one (.fn (s := 0) [] [] hn (by simp) kone (by simp) hR) (by
        simp only [List.length_append, List.length_cons, List.length_nil, List.flatMap_nil, htg, e0]
        omega)) d5
    · have e := of_decide_eq_false e
      obtain ⟨_, bt, h5, h6⟩ := hb (by omega)
      have r19 := r5 (by omega)
      walk_at "z"
      have e0 : (if (0 : Int) = 1 then [S' "entry"] else []).length = 0 := rfl
      exact q [(_, _)] _ (.one (.fn (s := 0) [] [] hn (by simp) kone (by simp) (h5.le (by omega))) (by
        simp only [List.length_append, List.length_cons, List.length_nil, List.flatMap_nil, e0]
        omega)) d5
theorem world_ok {z : Int} (hm : 40 ≤ m) (W : Dw ln st st) (q : ∀ (ps : List (D × List Str)) st', WoG ps → DrawAt st' → Q (.tup (ps.map (·.1))) st') : callN prog m "_law_any_world" [.ref 2, .int z, .ref ln] st Q := by
  obtain ⟨m, rfl⟩ : ∃ n, m = n + 1 := ⟨m - 1, by omega⟩
  refine call_intro rfl rfl ?_
  unfold b_l_any_world
  walk_at "s"
  refine way (fun e => ?_) (fun e => ?_)
  · walk_at "z"
    exact wide_ok (by omega) W.dr q
  walk_at "y"
  refine Nxt.mk ?_
  walk_at "s"
  refine way (fun e => ?_) (fun e => ?_)
  · walk_at "z"
    exact deep_ok (by omega) W.dr q
  · walk_at "z"
    refine prog_ok (by omega) W fun ps st1 hp hl d1 => q ps st1 ⟨fun p h => (hp p h).1, ?_, by omega⟩ d1
    have hb := flat_bound (P := fun _ _ => True) (B := 400000) fun p h => (hp p h).2
    have := Nat.mul_le_mul_right 400000 hl
    omega
end
end Pk06
end PartPdk06P23

section PartPdk06P24
set_option Elab.async false
set_option linter.all false
set_option maxRecDepth 100000
set_option maxHeartbeats 1000000
namespace Pk06
open PySem Pd
local macro_rules | `(tactic| walk_at "t") => `(tactic| (repeat (first | refine Red.red ?_ | refine Nxt.mk ?_ | refine ⟨by decide +kernel, by decide +kernel, wayF (by decide +kernel) ?_⟩ | refine ⟨by decide +kernel, by decide +kernel, wayT (by decide +kernel) ?_⟩ | refine ⟨by decide +kernel, ?_⟩ | refine ⟨Nat.le_of_ble_eq_true rfl, ?_⟩ | refine at_is rfl ?_)))
local instance notinTup24_06 {x : D} {xs : List D} {st : Store} {r : Bool → Prop} : Red (notinC x (.tup xs) st r) (x.flat = true ∧ xs.all D.flat = true ∧ r (!(xs.any fun y => D.eqb y x))) := ⟨id⟩
local macro_rules | `(tactic| walk_at "s") => `(tactic| (repeat (refine Red.red ?_)))
local macro_rules | `(tactic| walk_at "r") => `(tactic| (repeat (first | refine Red.red ?_ | refine Nxt.mk ?_)))
local macro_rules | `(tactic| walk_at "v") => `(tactic| (repeat (first | refine Red.red ?_ | refine Nxt.mk ?_ | refine ⟨Nat.le_of_ble_eq_true rfl, ?_⟩ | refine at_is rfl ?_)))
local macro_rules | `(tactic| walk_at "w") => `(tactic| (repeat (first | refine Red.red ?_ | refine Nxt.mk ?_ | refine wayF rfl ?_ | refine wayT rfl ?_ | refine ⟨Nat.le_of_ble_eq_true rfl, ?_⟩ | refine at_is rfl ?_)))
local macro_rules | `(tactic| walk_at "u") => `(tactic| (repeat (first | refine Red.red ?_ | refine Nxt.mk ?_ | refine ⟨Nat.le_of_ble_eq_true rfl, ?_⟩ | refine at_is rfl ?_ | refine ⟨by decide +kernel, by decide +kernel, wayF (by decide +kernel) ?_⟩ | refine ⟨by decide +kernel, by decide +kernel, wayT (by decide +kernel) ?_⟩ | refine ⟨by decide +kernel, by decide +kernel, ?_⟩ | refine wayF (by decide +kernel) ?_ | refine wayT (by decide +kernel) ?_)))
local instance inNewB24_06 {x : D} {xs : List D} {st : Store} {r : Bool → Prop} : Red (inC x (.ref st.length) (st ++ [.lst xs]) r) (x.flat = true ∧ xs.all D.flat = true ∧ r (xs.any fun y => D.eqb y x)) := ⟨fun h => ⟨xs, .inl (by simp [rdL]), h⟩⟩
local instance inTupN24_06 {x : D} {xs : List D} {st : Store} {r : Bool → Prop} : Red (inC x (.tup xs) st r) (x.flat = true ∧ xs.all D.flat = true ∧ r (xs.any fun y => D.eqb y x)) := ⟨id⟩
local macro_rules | `(tactic| walk_at "z") => `(tactic| (repeat (first | refine Red.red ?_ | refine Nxt.mk ?_ | refine ⟨by decide +kernel, by decide +kernel, wayF (by decide +kernel) ?_⟩ | refine ⟨by decide +kernel, by decide +kernel, wayT (by decide +kernel) ?_⟩ | refine ⟨by decide +kernel, ?_⟩ | refine ⟨Nat.le_of_ble_eq_true rfl, ?_⟩ | refine wayF rfl ?_ | refine wayT rfl ?_ | refine at_is rfl ?_)))
local macro_rules | `(tactic| walk_at "y") => `(tactic| (repeat (first | refine Red.red ?_ | refine ⟨by decide +kernel, by decide +kernel, wayF (by decide +kernel) ?_⟩ | refine ⟨by decide +kernel, by decide +kernel, wayT (by decide +kernel) ?_⟩ | refine ⟨by decide +kernel, ?_⟩ | refine ⟨Nat.le_of_ble_eq_true rfl, ?_⟩ | refine wayF rfl ?_ | refine wayT rfl ?_ | refine at_is rfl ?_)))
/-! k06, text 24. Own work. -/
section
variable {k m n ln : Nat} {st st' st2 s0 : Store} {Q R : K}
theorem law_holds (ns : List Int) (hl : ns.length ≤ 63) (hb : ∀ z ∈ ns, PySem.Builtin.Int.intBits z ≤ 1048576) : callN prog 200 "law" [.ref 0] [.frz (ns.map D.int)] (fun d _ => d = .bl true) := by
  refine call_intro rfl rfl ?_
  unfold b_l_law
  walk_at "s"
  refine begin_ok rfl hl fun st1 hd1 hl1 => ?_
  have d1 := hd1.lt
  walk_at "r"
  refine drawM (by omega) hd1 (by decide) (by decide) fun z st2 z0 z1 f1 => ?_
  walk_at "s"
  refine ⟨Nat.le_of_ble_eq_true rfl, ?_⟩
  walk_at "s"
  have f2 := f1.app (c := C.lst [.int 6, .int 16])
  have hbig : 2 < st2.length := by have := f1.le; omega
  have W : Dw st2.length (st2 ++ [C.lst [.int 6, .int 16]]) (st2 ++ [C.lst [.int 6, .int 16]]) := Dw.refl f2.dr ⟨6, 16, rdL_new⟩ hbig
  refine world_ok (by omega) W fun ps st3 ⟨hp, hf, hn⟩ d3 => ?_
  have htx : ∀ s ∈ (ps.map (·.2)).flatten, Tx 8 s := (show Rows PtP (ps.map (·.1)) _ from ⟨ps, rfl, rfl, hp⟩).tx fun x ts h => h.tx
  have ok1 := (txt_tx htx).1
  walk_at "s"
  refine Nxt.mk ?_
  walk_at "s"
  refine pwrite_ok hp (by omega) hf fun st4 g4 => ?_
  walk_at "s"
  refine Nxt.mk ?_
  walk_at "s"
  refine wayF rfl ?_
  walk_at "s"
  refine lwrite_ok hp (by omega) hf (by omega) fun st5 g5 => ?_
  walk_at "s"
  refine ⟨ok1, ok1, wayF (by simp) ?_⟩
  walk_at "s"
  refine Nxt.mk ?_
  walk_at "s"
  rw [cut_take _ (by decide)]
  have e6 : (ps.map (·.1)).take (6 : Int).toNat = (ps.take 6).map (·.1) := by rw [List.map_take]; rfl
  rw [e6]
  refine for_map (ps.take 6) (·.1) rfl (fun j σ st' => ∃ (o4 o5 : Option D), σ = [some (.ref 0), some (.ref 2), some (.tup (ps.map (·.1))), some (.str (txt (ps.map (·.2)).flatten)), o4, o5, none]) ⟨none, none, rfl⟩ (fun j p σ st6 hj ⟨o4, o5, e⟩ N hN => ?_) (fun σ st6 ⟨o4, o5, e⟩ => ?_)
  · subst e
    refine ⟨trivial, ?_⟩
    have hpm := List.mem_of_mem_take (List.mem_of_getElem? hj)
    have hPt := hp p hpm
    have hlp := flat_mem hpm
    have ok2 := (txt_tx hPt.tx).1
    walk_at "s"
    refine ptext_ok hPt (by omega) (by omega) fun st7 g7 => ?_
    walk_at "s"
    refine Nxt.mk ?_
    walk_at "s"
    refine wayF rfl ?_
    walk_at "s"
    refine ltext_ok hPt (by omega) (by omega) fun st8 g8 => ?_
    walk_at "s"
    refine ⟨ok2, ok2, wayF (by simp) ?_⟩
    walk_at "s"
    exact hN _ _ ⟨_, _, rfl⟩
  · subst e
    refine ⟨trivial, ?_⟩
    have hp2 : ∀ p ∈ ps.reverse, PtP p.1 p.2 := fun p h => hp p (List.mem_reverse.mp h)
    have hf2 : (ps.reverse.map (·.2)).flatten.length ≤ 1800000 := by
      have : ∀ l : List (D × List Str), (l.reverse.map (·.2)).flatten.length = (l.map (·.2)).flatten.length := by
        intro l
        induction l with
        | nil => rfl
        | cons a l ih =>
          rw [List.reverse_cons, List.map_append, List.flatten_append, List.length_append, ih, List.map_cons, List.flatten_cons, List.length_append]
          simp
          omega
      rw [this]
      exact hf
    have htx2 : ∀ s ∈ (ps.reverse.map (·.2)).flatten, Tx 8 s := (show Rows PtP (ps.reverse.map (·.1)) _ from ⟨ps.reverse, rfl, rfl, hp2⟩).tx fun x ts h => h.tx
    have ok2 := (txt_tx htx2).1
    have er : (ps.map (·.1)).reverse = ps.reverse.map (·.1) := by rw [List.map_reverse]
    refine Nxt.mk ?_
    walk_at "s"
    rw [er]
    refine tuple_at rdL_new ?_
    walk_at "s"
    refine Nxt.mk ?_
    walk_at "s"
    refine pwrite_ok hp2 (by omega) hf2 fun st7 g7 => ?_
    walk_at "s"
    refine Nxt.mk ?_
    walk_at "s"
    refine wayF rfl ?_
    walk_at "s"
    refine lwrite_ok hp2 (by omega) hf2 (by rw [List.length_reverse]; omega) fun st8 g8 => ?_
    walk_at "s"
    refine ⟨ok2, ok2, wayF (by simp) ?_⟩
    walk_at "s"
    refine Nxt.mk ?_
    walk_at "s"
    refine pwrite_ok hp (by omega) hf fun st9 g9 => ?_
    walk_at "s"
    refine Nxt.mk ?_
    walk_at "z"
    refine ⟨ok1, ok1, ?_⟩
    show D.bl (decide _) = D.bl true
    rw [decide_eq_true rfl]
end
end Pk06
end PartPdk06P24

section PartPdk06T
open PySem PySem.W PyProof.Rows
set_option maxRecDepth 100000 in
set_option maxHeartbeats 0 in
theorem PySem.Challenge.cw_metorshut_k06_programs_written_holds : PySem.Challenge.rw_metorshut_k06_programs_written.Holds := by
  w_on; o_law; k_head; (case hw => w_witness2)
  k_fill
  refine L2.walk_ofB (l := PySem.Challenge.rw_metorshut_k06_programs_written) (n := 63) (k := 200) (x := "_law_script") (CX := fun _ => L2.CX0) (sp := fun w => Pd.liftF _ 1 (Pd.callN Pk06.prog 200 "law")) rfl (by decide) rfl ⟨rfl, by decide, by decide⟩ (fun w h Y => PySem.W.kIn_of Y) ?F (fun _ _ a ns hl hb hO hS => Pd.law_sp (Pk06.law_holds ns hl hb) hO hS) (fun _ _ _ _ _ h => h)
  case F =>
    intro w mg fa h KX G hmg
    refine' Pk06.all_mk KX G hmg ?a1 ?l1 ?c1 ?k1 ?a2 ?l2 ?c2 ?k2 ?a3 ?l3 ?c3 ?k3 ?a4 ?l4 ?c4 ?k4 ?a5 ?l5 ?c5 ?k5 ?a6 ?l6 ?c6 ?k6 ?a7 ?l7 ?c7 ?k7 ?a8 ?l8 ?c8 ?k8 ?a9 ?l9 ?c9 ?k9 ?a10 ?l10 ?c10 ?k10 ?a11 ?l11 ?c11 ?k11 ?a12 ?l12 ?c12 ?k12 ?a13 ?l13 ?c13 ?k13 ?a14 ?l14 ?c14 ?k14 ?a15 ?l15 ?c15 ?k15 ?a16 ?l16 ?c16 ?k16 ?a17 ?l17 ?c17 ?k17 ?a18 ?l18 ?c18 ?k18 ?a19 ?l19 ?c19 ?k19 ?a20 ?l20 ?c20 ?k20 ?a21 ?l21 ?c21 ?k21 ?a22 ?l22 ?c22 ?k22 ?a23 ?l23 ?c23 ?k23 ?a24 ?l24 ?c24 ?k24 ?a25 ?l25 ?c25 ?k25 ?a26 ?l26 ?c26 ?k26 ?a27 ?l27 ?c27 ?k27 ?a28 ?l28 ?c28 ?k28 ?a29 ?l29 ?c29 ?k29 ?a30 ?l30 ?c30 ?k30 ?a31 ?l31 ?c31 ?k31 ?a32 ?l32 ?c32 ?k32 ?a33 ?l33 ?c33 ?k33 ?a34 ?l34 ?c34 ?k34 ?a35 ?l35 ?c35 ?k35 ?a36 ?l36 ?c36 ?k36 ?a37 ?l37 ?c37 ?k37 ?a38 ?l38 ?c38 ?k38 ?a39 ?l39 ?c39 ?k39 ?a40 ?l40 ?c40 ?k40 ?a41 ?l41 ?c41 ?k41 ?a42 ?l42 ?c42 ?k42 ?a43 ?l43 ?c43 ?k43 ?a44 ?l44 ?c44 ?k44 ?a45 ?l45 ?c45 ?k45 ?a46 ?l46 ?c46 ?k46 ?z1 ?z2 ?z3 ?z4 ?z5 ?z6 ?z7 ?z8 ?z9 ?g1 ?gl1 ?gk1 ?gc1 ?ge1
    (case a1 => k_is); (case l1 => k_is); (case c1 => k_is); (case k1 => k_is)
    (case a2 => k_is); (case l2 => k_is); (case c2 => k_is); (case k2 => k_is)
    (case a3 => k_is); (case l3 => k_is); (case c3 => k_is); (case k3 => k_is)
    (case a4 => k_is); (case l4 => k_is); (case c4 => k_is); (case k4 => k_is)
    (case a5 => k_is); (case l5 => k_is); (case c5 => k_is); (case k5 => k_is)
    (case a6 => k_is); (case l6 => k_is); (case c6 => k_is); (case k6 => k_is)
    (case a7 => k_is); (case l7 => k_is); (case c7 => k_is); (case k7 => k_is)
    (case a8 => k_is); (case l8 => k_is); (case c8 => k_is); (case k8 => k_is)
    (case a9 => k_is); (case l9 => k_is); (case c9 => k_is); (case k9 => k_is)
    (case a10 => k_is); (case l10 => k_is); (case c10 => k_is); (case k10 => k_is)
    (case a11 => k_is); (case l11 => k_is); (case c11 => k_is); (case k11 => k_is)
    (case a12 => k_is); (case l12 => k_is); (case c12 => k_is); (case k12 => k_is)
    (case a13 => k_is); (case l13 => k_is); (case c13 => k_is); (case k13 => k_is)
    (case a14 => k_is); (case l14 => k_is); (case c14 => k_is); (case k14 => k_is)
    (case a15 => k_is); (case l15 => k_is); (case c15 => k_is); (case k15 => k_is)
    (case a16 => k_is); (case l16 => k_is); (case c16 => k_is); (case k16 => k_is)
    (case a17 => k_is); (case l17 => k_is); (case c17 => k_is); (case k17 => k_is)
    (case a18 => k_is); (case l18 => k_is); (case c18 => k_is); (case k18 => k_is)
    (case a19 => k_is); (case l19 => k_is); (case c19 => k_is); (case k19 => k_is)
    (case a20 => k_is); (case l20 => k_is); (case c20 => k_is); (case k20 => k_is)
    (case a21 => k_is); (case l21 => k_is); (case c21 => k_is); (case k21 => k_is)
    (case a22 => k_is); (case l22 => k_is); (case c22 => k_is); (case k22 => k_is)
    (case a23 => k_is); (case l23 => k_is); (case c23 => k_is); (case k23 => k_is)
    (case a24 => k_is); (case l24 => k_is); (case c24 => k_is); (case k24 => k_is)
    (case a25 => k_is); (case l25 => k_is); (case c25 => k_is); (case k25 => k_is)
    (case a26 => k_is); (case l26 => k_is); (case c26 => k_is); (case k26 => k_is)
    (case a27 => k_is); (case l27 => k_is); (case c27 => k_is); (case k27 => k_is)
    (case a28 => k_is); (case l28 => k_is); (case c28 => k_is); (case k28 => k_is)
    (case a29 => k_is); (case l29 => k_is); (case c29 => k_is); (case k29 => k_is)
    (case a30 => k_is); (case l30 => k_is); (case c30 => k_is); (case k30 => k_is)
    (case a31 => k_is); (case l31 => k_is); (case c31 => k_is); (case k31 => k_is)
    (case a32 => k_is); (case l32 => k_is); (case c32 => k_is); (case k32 => k_is)
    (case a33 => k_is); (case l33 => k_is); (case c33 => k_is); (case k33 => k_is)
    (case a34 => k_is); (case l34 => k_is); (case c34 => k_is); (case k34 => k_is)
    (case a35 => k_is); (case l35 => k_is); (case c35 => k_is); (case k35 => k_is)
    (case a36 => k_is); (case l36 => k_is); (case c36 => k_is); (case k36 => k_is)
    (case a37 => k_is); (case l37 => k_is); (case c37 => k_is); (case k37 => k_is)
    (case a38 => k_is); (case l38 => k_is); (case c38 => k_is); (case k38 => k_is)
    (case a39 => k_is); (case l39 => k_is); (case c39 => k_is); (case k39 => k_is)
    (case a40 => k_is); (case l40 => k_is); (case c40 => k_is); (case k40 => k_is)
    (case a41 => k_is); (case l41 => k_is); (case c41 => k_is); (case k41 => k_is)
    (case a42 => k_is); (case l42 => k_is); (case c42 => k_is); (case k42 => k_is)
    (case a43 => k_is); (case l43 => k_is); (case c43 => k_is); (case k43 => k_is)
    (case a44 => k_is); (case l44 => k_is); (case c44 => k_is); (case k44 => k_is)
    (case a45 => k_is); (case l45 => k_is); (case c45 => k_is); (case k45 => k_is)
    (case a46 => k_is); (case l46 => k_is); (case c46 => k_is); (case k46 => k_is)
    (case z1 => k_is)
    (case z2 => k_is)
    (case z3 => k_is)
    (case z4 => k_is)
    (case z5 => k_is)
    (case z6 => k_is)
    (case z7 => k_is)
    (case z8 => k_is)
    (case z9 => k_is)
    (case g1 => k_is); (case gl1 => k_is); (case gk1 => exact ⟨⟨_, _, rfl, rfl⟩, ⟨_, _, rfl, rfl⟩, ⟨_, _, rfl, rfl⟩, ⟨_, _, rfl, rfl⟩, ⟨_, _, rfl, rfl⟩, ⟨_, _, rfl, rfl⟩, ⟨_, _, rfl, rfl⟩, ⟨_, _, rfl, rfl⟩, ⟨_, _, rfl, rfl⟩, ⟨_, _, rfl, rfl⟩, ⟨_, _, rfl, rfl⟩, ⟨_, _, rfl, rfl⟩, trivial⟩); (case gc1 => exact rfl); (case ge1 => kernel_rfl)
end PartPdk06T
