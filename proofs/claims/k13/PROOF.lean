import PyProof.Rows.All
import HandS.Base
import Wide.All
import OpenK.AllK
import Wide.FinOn
import HandS.ForMost
import HandS.Flow
import HandS.TupAny
import HandS.IsInst
import HandS.Zip
import HandS.Conv
import HandS.EndBits
import HandS.Text
import HandS.SortInts
import HandS.Star
import HandS.Small
import HandS.Dict
import HandS.DictComp
import KE.KDictSum
import HandS.Iter
import HandS.Comp
import PySem.Challenge.RW_metorshut_k13_externals
section PartPdCore
set_option linter.all false
/-! Pd: a data-level weakest-precondition semantics of the Python that the laws use.
Values are plain data (tuples are values, lists and dicts are numbers of cells of a store).
A reading takes what is wanted behind. Own work. -/
namespace Pd
open PySem

inductive D where
  | non
  | bl (b : Bool)
  | int (i : Int)
  | str (x : Str)
  | tup (xs : List D)
  | ref (n : Nat)
  deriving Inhabited

/-- what a locked dict is, for the soundness alone -/
abbrev Tok := PySem.Obj × List (L2.Key × L2.V)
/-- a cell of the store -/
inductive C where
  | lst (xs : List D)
  | frz (xs : List D)
  | dic (kvs : List (Sum Int Str × D))
  /-- a dict that a walk has locked -/
  | frd (kvs : List (Sum Int Str × D)) (tk : Tok)

abbrev Store := List C
abbrev Env := List (Option D)
abbrev K := D → Store → Prop
abbrev TE := Env → Store → K → Prop
abbrev TT := Env → Store → (Bool → Store → Prop) → Prop
abbrev TA := Env → Store → (List D → Store → Prop) → Prop
structure Ends where
  nx : Env → Store → Prop
  rt : K
  bk : Env → Store → Prop := fun _ _ => False
  ct : Env → Store → Prop := fun _ _ => False
abbrev TS := Ends → Env → Store → Prop
/-- what the calls of own defs do -/
abbrev Cl := String → List D → Store → K → Prop

/-- the longest that the model's lists and texts may be -/
def szl : Nat := 16777216

def lk : Env → Nat → Option D
  | [], _ => none
  | x :: _, 0 => x
  | _ :: r, n + 1 => lk r n
def wipeE : Env → List Nat → Env
  | ρ, [] => ρ
  | ρ, v :: vs => (wipeE ρ vs).set v none

/-! ### data: pure, depth, equality -/
/-- a text of code points -/
def okS (x : Str) : Bool := x.cps.toList.all fun c => decide (c < 1114112)
mutual
def D.okd : Nat → D → Bool
  | _, .non => true
  | _, .bl _ => true
  | _, .int _ => true
  | _, .str x => okS x
  | 0, .tup _ => false
  | n + 1, .tup xs => okds n xs
  | _, .ref _ => false
def okds : Nat → List D → Bool
  | _, [] => true
  | n, x :: xs => D.okd n x && okds n xs
end
def b2i (b : Bool) : Int := if b then 1 else 0
mutual
def D.eqb : D → D → Bool
  | .non, .non => true
  | .bl a, .bl b => a == b
  | .bl a, .int j => b2i a == j
  | .int i, .bl b => i == b2i b
  | .int i, .int j => i == j
  | .str x, .str y => decide (x = y)
  | .tup xs, .tup ys => eqbs xs ys
  | _, _ => false
def eqbs : List D → List D → Bool
  | [], [] => true
  | x :: xs, y :: ys => D.eqb x y && eqbs xs ys
  | _, _ => false
end
def D.flat : D → Bool
  | .non => true
  | .bl _ => true
  | .int _ => true
  | .str _ => true
  | _ => false

/-! ### the store -/
/-- at n a list that may be changed -/
def rdL (st : Store) (n : Nat) (xs : List D) : Prop := st[n]? = some (.lst xs)
/-- at n a list -/
def rdA (st : Store) (n : Nat) (xs : List D) : Prop := st[n]? = some (.lst xs) ∨ st[n]? = some (.frz xs)
def rdD (st : Store) (n : Nat) (kvs : List (Sum Int Str × D)) : Prop := st[n]? = some (.dic kvs)
/-- at n a dict, locked or not -/
def rdDA (st : Store) (n : Nat) (kvs : List (Sum Int Str × D)) : Prop := st[n]? = some (.dic kvs) ∨ ∃ tk, st[n]? = some (.frd kvs tk)

/-! ### expressions -/
def dC (d : D) : TE := fun _ st Q => Q d st
def dVar (i : Nat) : TE := fun σ st Q => ∃ d, lk σ i = some d ∧ Q d st
abbrev K2 := D → D → Store → K → Prop
def dOp (k : K2) (ta tb : TE) : TE := fun σ st Q => ta σ st fun x st1 => tb σ st1 fun y st2 => k x y st2 Q
def dUn (k : D → Store → K → Prop) (ta : TE) : TE := fun σ st Q => ta σ st fun x st1 => k x st1 Q

def cMul (i j : Int) : Prop := (-(2 ^ 64) < i ∧ i < 2 ^ 64) ∨ (-(2 ^ 64) < j ∧ j < 2 ^ 64)
def cPow (i j : Int) : Prop := 0 ≤ j ∧ j ≤ 1000000 ∧ i.natAbs < 2 ^ 64
def addK : K2
  | .int a, .int b, st, Q => Q (.int (a + b)) st
  | .str a, .str b, st, Q => a.length + b.length ≤ szl ∧ Q (.str (a ++ b)) st
  | .tup a, .tup b, st, Q => a.length + b.length ≤ szl ∧ Q (.tup (a ++ b)) st
  | .ref m, .ref n, st, Q => ∃ a b, rdL st m a ∧ rdL st n b ∧ a.length + b.length ≤ szl ∧ Q (.ref st.length) (st ++ [.lst (a ++ b)])
  | _, _, _, _ => False
def subK : K2
  | .int a, .int b, st, Q => Q (.int (a - b)) st
  | _, _, _, _ => False
def mulK : K2
  | .int a, .int b, st, Q => cMul a b ∧ Q (.int (a * b)) st
  | .ref m, .int k, st, Q => ∃ xs, rdL st m xs ∧ -(2 ^ 63) ≤ k ∧ k < 2 ^ 63 ∧ xs.length * k.toNat ≤ szl ∧ Q (.ref st.length) (st ++ [.lst (List.replicate k.toNat xs).flatten])
  | _, _, _, _ => False
def fdivK : K2
  | .int a, .int b, st, Q => (0 < b ∧ b < 1073741824) ∧ Q (.int (a / b)) st
  | _, _, _, _ => False
def modK : K2
  | .int a, .int b, st, Q => 0 < b ∧ Q (.int (a % b)) st
  | _, _, _, _ => False
def powK : K2
  | .int a, .int b, st, Q => cPow a b ∧ Q (.int (a ^ b.toNat)) st
  | _, _, _, _ => False
def shlK : K2
  | .int a, .int b, st, Q => cPow a b ∧ Q (.int (a * 2 ^ b.toNat)) st
  | _, _, _, _ => False
def shrK : K2
  | .int a, .int b, st, Q => 0 ≤ b ∧ Q (.int (a / 2 ^ b.toNat)) st
  | _, _, _, _ => False
def andK : K2
  | .int a, .int b, st, Q => Q (.int (Builtin.bitAnd a b)) st
  | _, _, _, _ => False
def orK : K2
  | .int a, .int b, st, Q => Q (.int (Builtin.bitOr a b)) st
  | _, _, _, _ => False
def xorK : K2
  | .int a, .int b, st, Q => Q (.int (Builtin.bitXor a b)) st
  | _, _, _, _ => False
/-- op= of ints and texts -/
def iaddK : K2
  | .int a, .int b, st, Q => Q (.int (a + b)) st
  | .str a, .str b, st, Q => a.length + b.length ≤ szl ∧ Q (.str (a ++ b)) st
  | _, _, _, _ => False
def negK : D → Store → K → Prop
  | .int a, st, Q => Q (.int (-a)) st
  | _, _, _ => False
def invK : D → Store → K → Prop
  | .int a, st, Q => Q (.int (Builtin.bitNot a)) st
  | _, _, _ => False

/-! ### comparisons -/
abbrev KC := D → D → Store → (Bool → Prop) → Prop
def dCmp (k : KC) (ta tb : TE) : TE := fun σ st Q => ta σ st fun x st1 => tb σ st1 fun y st2 => k x y st2 fun b => Q (.bl b) st2
def dChain (k k' : KC) (ta tb tc : TE) : TE := fun σ st Q => ta σ st fun x st1 => tb σ st1 fun y st2 => k x y st2 fun b =>
  (b = true → tc σ st2 fun z st3 => k' y z st3 fun b' => Q (.bl b') st3) ∧ (b = false → Q (.bl false) st2)
/-- == -/
def eqC : KC
  | .ref m, .ref n, st, Q => ∃ xs ys, rdA st m xs ∧ rdA st n ys ∧ okds 60 xs = true ∧ okds 60 ys = true ∧ Q (eqbs xs ys)
  | .ref m, y, st, Q => ∃ xs, rdA st m xs ∧ okds 60 xs = true ∧ D.okd 60 y = true ∧ Q false
  | x, .ref n, st, Q => ∃ ys, rdA st n ys ∧ okds 60 ys = true ∧ D.okd 60 x = true ∧ Q false
  | x, y, st, Q => D.okd 60 x = true ∧ D.okd 60 y = true ∧ Q (D.eqb x y)
def neC : KC := fun x y st Q => eqC x y st fun b => Q (!b)
def ltC : KC
  | .int a, .int b, _, Q => Q (decide (a < b))
  | _, _, _, _ => False
def leC : KC
  | .int a, .int b, _, Q => Q (decide (a ≤ b))
  | _, _, _, _ => False
def gtC : KC
  | .int a, .int b, _, Q => Q (decide (b < a))
  | _, _, _, _ => False
def geC : KC
  | .int a, .int b, _, Q => Q (decide (b ≤ a))
  | _, _, _, _ => False
def isNon : D → Bool
  | .non => true
  | _ => false
def isC : KC
  | x, .non, _, Q => Q (isNon x)
  | _, _, _, _ => False
def isntC : KC
  | x, .non, _, Q => Q (!isNon x)
  | _, _, _, _ => False
def inC : KC
  | x, .tup xs, _, Q => x.flat = true ∧ xs.all D.flat = true ∧ Q (xs.any fun y => D.eqb y x)
  | x, .ref n, st, Q => ∃ xs, rdA st n xs ∧ x.flat = true ∧ xs.all D.flat = true ∧ Q (xs.any fun y => D.eqb y x)
  | _, _, _, _ => False
def notinC : KC := fun x y st Q => inC x y st fun b => Q (!b)

/-! ### truth -/
def truK : D → Store → (Bool → Prop) → Prop
  | .non, _, Q => Q false
  | .bl b, _, Q => Q b
  | .int i, _, Q => Q (i != 0)
  | .str y, _, Q => y.length ≤ szl ∧ Q ((y.length : Int) != 0)
  | .tup xs, _, Q => Q (!xs.isEmpty)
  | .ref n, st, Q => ∃ xs, rdA st n xs ∧ Q (!xs.isEmpty)
def tTru (t : TE) : TT := fun σ st Q => t σ st fun x st1 => truK x st1 fun b => Q b st1
def tAnd (t u : TT) : TT := fun σ st Q => t σ st fun c st1 => (c = true → u σ st1 Q) ∧ (c = false → Q false st1)
def tOr (t u : TT) : TT := fun σ st Q => t σ st fun c st1 => (c = true → Q true st1) ∧ (c = false → u σ st1 Q)
def tNot (t : TT) : TT := fun σ st Q => t σ st fun c st1 => Q (!c) st1
def dAndT (ta tb : TE) : TE := fun σ st Q => ta σ st fun x st1 => truK x st1 fun c => (c = true → tb σ st1 Q) ∧ (c = false → Q x st1)
def dOrT (ta tb : TE) : TE := fun σ st Q => ta σ st fun x st1 => truK x st1 fun c => (c = true → Q x st1) ∧ (c = false → tb σ st1 Q)
def dNotT (ta : TE) : TE := fun σ st Q => ta σ st fun x st1 => truK x st1 fun c => Q (.bl (!c)) st1
def dIf (c : TT) (a b : TE) : TE := fun σ st Q => c σ st fun k st1 => (k = true → a σ st1 Q) ∧ (k = false → b σ st1 Q)

/-! ### items, slices, displays, calls -/
def atD {α : Type} (xs : List α) (i : Int) : Option α := if 0 ≤ i then xs[i.toNat]? else if -(xs.length : Int) ≤ i then xs[(i + xs.length).toNat]? else none
def ixK : K2
  | .tup xs, .int i, st, Q => ∃ d, atD xs i = some d ∧ Q d st
  | .ref n, .int i, st, Q => ∃ xs d, rdA st n xs ∧ atD xs i = some d ∧ Q d st
  | .str z, .int i, st, Q => ∃ c, z.length ≤ szl ∧ atD z.cps.toList i = some c ∧ Q (.str ⟨#[c]⟩) st
  | _, _, _, _ => False
/-- where a slice's end lies -/
def cl (n : Nat) (i : Int) : Nat := if i < 0 then (i + n).toNat else min i.toNat n
def cutD {α : Type} (xs : List α) (lo hi : Option Int) : List α :=
  (xs.drop ((lo.map (cl xs.length)).getD 0)).take ((hi.map (cl xs.length)).getD xs.length - (lo.map (cl xs.length)).getD 0)
abbrev TO := Env → Store → (Option Int → Store → Prop) → Prop
def oNone : TO := fun _ st Q => Q none st
def oSome (t : TE) : TO := fun σ st Q => t σ st fun x st1 => ∃ i, x = .int i ∧ Q (some i) st1
def slK : D → Option Int → Option Int → Store → K → Prop
  | .tup xs, lo, hi, st, Q => Q (.tup (cutD xs lo hi)) st
  | .ref n, lo, hi, st, Q => ∃ xs, rdA st n xs ∧ Q (.ref st.length) (st ++ [.lst (cutD xs lo hi)])
  | _, _, _, _, _ => False
def dSl (te : TE) (tl th : TO) : TE := fun σ st Q => te σ st fun x st1 => tl σ st1 fun lo st2 => th σ st2 fun hi st3 => slK x lo hi st3 Q
def aNil : TA := fun _ st Q => Q [] st
def aCons (t : TE) (r : TA) : TA := fun σ st Q => t σ st fun x st1 => r σ st1 fun xs st2 => Q (x :: xs) st2
def dTup (t : TA) : TE := fun σ st Q => t σ st fun xs st1 => xs.length ≤ szl ∧ Q (.tup xs) st1
def dLst (t : TA) : TE := fun σ st Q => t σ st fun xs st1 => xs.length ≤ szl ∧ Q (.ref st1.length) (st1 ++ [.lst xs])
def dCall (c : Cl) (f : String) (t : TA) : TE := fun σ st Q => t σ st fun xs st1 => c f xs st1 Q
/-- a built-in -/
abbrev KB := List D → Store → K → Prop
def dB (k : KB) (t : TA) : TE := fun σ st Q => t σ st fun xs st1 => k xs st1 Q
/-- a method of a built-in type -/
abbrev KM := D → List D → Store → K → Prop
def dM (ty : D → Store → Prop) (k : KM) (to : TE) (t : TA) : TE := fun σ st Q => to σ st fun o st1 => ty o st1 ∧ t σ st1 fun xs st2 => k o xs st2 Q
def tyLst : D → Store → Prop
  | .ref n, st => ∃ xs, rdL st n xs
  | _, _ => False
def tyLstA : D → Store → Prop
  | .ref n, st => ∃ xs, rdA st n xs
  | _, _ => False
def tyStr : D → Store → Prop
  | .str _, _ => True
  | _, _ => False

def intB : KB
  | [.int i], st, Q => Q (.int i) st
  | [.bl b], st, Q => Q (.int (b2i b)) st
  | _, _, _ => False
def absB : KB
  | [.int i], st, Q => Q (.int (if i < 0 then -i else i)) st
  | _, _, _ => False
def lenB : KB
  | [.tup xs], st, Q => Q (.int xs.length) st
  | [.ref n], st, Q => ∃ xs, rdA st n xs ∧ Q (.int xs.length) st
  | [.str z], st, Q => z.length ≤ szl ∧ Q (.int z.length) st
  | _, _, _ => False
def min2B : KB
  | [.int i, .int j], st, Q => Q (.int (if j < i then j else i)) st
  | _, _, _ => False
def max2B : KB
  | [.int i, .int j], st, Q => Q (.int (if j > i then j else i)) st
  | _, _, _ => False
def listB : KB
  | [.tup xs], st, Q => Q (.ref st.length) (st ++ [.lst xs])
  | [.ref n], st, Q => ∃ xs, rdA st n xs ∧ Q (.ref st.length) (st ++ [.lst xs])
  | _, _, _ => False
def tupleB : KB
  | [.tup xs], st, Q => Q (.tup xs) st
  | [.ref n], st, Q => ∃ xs, rdA st n xs ∧ Q (.tup xs) st
  | _, _, _ => False
def sumB : KB
  | [.ref n], st, Q => ∃ ns : List Int, rdA st n (ns.map D.int) ∧ Q (.int ns.sum) st
  | _, _, _ => False
/-- None, a bool, an int: its truth -/
def D.tflat : D → Bool
  | .non => true
  | .bl _ => true
  | .int _ => true
  | _ => false
def D.tru : D → Bool
  | .bl b => b
  | .int i => i != 0
  | _ => false
def allB : KB
  | [.ref n], st, Q => ∃ xs : List D, rdA st n xs ∧ xs.all D.tflat = true ∧ Q (.bl (xs.all D.tru)) st
  | _, _, _ => False
def anyB : KB
  | [.ref n], st, Q => ∃ xs : List D, rdA st n xs ∧ xs.all D.tflat = true ∧ Q (.bl (xs.any D.tru)) st
  | _, _, _ => False
def min1B : KB
  | [.ref n], st, Q => ∃ ns : List Int, rdA st n (ns.map D.int) ∧ 0 < ns.length ∧ ∀ m, m ∈ ns → (∀ y, y ∈ ns → m ≤ y) → Q (.int m) st
  | _, _, _ => False
def max1B : KB
  | [.ref n], st, Q => ∃ ns : List Int, rdA st n (ns.map D.int) ∧ 0 < ns.length ∧ ∀ m, m ∈ ns → (∀ y, y ∈ ns → y ≤ m) → Q (.int m) st
  | _, _, _ => False
/-- isinstance(x, T), T a built-in class -/
inductive Ty where | int | bool | str | tuple | list
  deriving DecidableEq
def isTy : D → Store → Ty → (Bool → Prop) → Prop
  | .non, _, _, Q => Q false
  | .bl _, _, t, Q => Q (decide (t = .bool) || decide (t = .int))
  | .int _, _, t, Q => Q (decide (t = .int))
  | .str _, _, t, Q => Q (decide (t = .str))
  | .tup _, _, t, Q => Q (decide (t = .tuple))
  | .ref n, st, t, Q => ∃ xs, rdL st n xs ∧ Q (decide (t = .list))
def dIsi (ty : Ty) (t : TE) : TE := fun σ st Q => t σ st fun x st1 => isTy x st1 ty fun b => Q (.bl b) st1

/-! methods -/
def appendM : KM
  | .ref n, [x], st, Q => ∃ xs, rdL st n xs ∧ xs.length < szl ∧ Q .non (st.set n (.lst (xs ++ [x])))
  | _, _, _, _ => False
/-- .pop(i), the place in the list -/
def popM : KM
  | .ref n, [.int i], st, Q => ∃ xs d, rdL st n xs ∧ (0 ≤ i ∧ i < 2 ^ 62) ∧ atD xs i = some d ∧ Q d (st.set n (.lst (xs.eraseIdx i.toNat)))
  | _, _, _, _ => False
def extendM : KM
  | .ref n, [.ref m], st, Q => ∃ xs ys, rdL st n xs ∧ rdL st m ys ∧ n ≠ m ∧ xs.length + ys.length ≤ szl ∧ Q .non (st.set n (.lst (xs ++ ys)))
  | _, _, _, _ => False
/-- .index(x): the first place of what is there -/
def indexM : KM
  | .ref n, [x], st, Q => ∃ xs j z, rdA st n xs ∧ x.flat = true ∧ xs.all D.flat = true ∧ xs[j]? = some z ∧ D.eqb z x = true ∧ (∀ (m : Nat) (z' : D), m < j → xs[m]? = some z' → D.eqb z' x = false) ∧ Q (.int j) st
  | _, _, _, _ => False

/-! ### targets, iterables -/
abbrev TG := D → Env → Store → (Env → Store → Prop) → Prop
abbrev TGs := List D → Env → Store → (Env → Store → Prop) → Prop
def gName (i : Nat) : TG := fun d σ st Q => Q (σ.set i (some d)) st
def gsNil : TGs := fun ds σ st Q => ds = [] ∧ Q σ st
def gsCons (g : TG) (r : TGs) : TGs := fun ds σ st Q => ∃ d ds', ds = d :: ds' ∧ g d σ st fun σ1 st1 => r ds' σ1 st1 Q
def gTup (gs : TGs) (n : Nat) : TG := fun d σ st Q => ∃ ds, d = .tup ds ∧ ds.length = n ∧ gs ds σ st Q
def setK : D → D → D → Store → (Store → Prop) → Prop
  | .ref n, .int i, v, st, Q => ∃ xs, rdL st n xs ∧ (∃ d, atD xs i = some d) ∧ 0 ≤ i ∧ Q (st.set n (.lst (xs.set i.toNat v)))
  | _, _, _, _, _ => False
def gSub (to ti : TE) : TG := fun v σ st Q => to σ st fun o st1 => ti σ st1 fun i st2 => setK o i v st2 fun st3 => Q σ st3
structure Iter where
  items : List D
  guard : Store → Prop
abbrev TI := Env → Store → (Iter → Store → Prop) → Prop
/-- a list or a tuple -/
def itK : D → Store → (Iter → Store → Prop) → Prop
  | .tup xs, st, R => R ⟨xs, fun _ => True⟩ st
  | .ref n, st, R => ∃ xs, rdA st n xs ∧ R ⟨xs, fun s => rdA s n xs⟩ st
  | _, _, _ => False
def iSeq (t : TE) : TI := fun σ st R => t σ st fun x st1 => itK x st1 R
def rng (lo : Int) (n : Nat) : List D := (List.range n).map fun (k : Nat) => D.int (lo + k)
def iR1 (t : TE) : TI := fun σ st R => t σ st fun x st1 => ∃ j, x = .int j ∧ -(2 ^ 62) ≤ j ∧ j < 2 ^ 62 ∧ R ⟨rng 0 j.toNat, fun _ => True⟩ st1
def iR2 (t u : TE) : TI := fun σ st R => t σ st fun x st1 => u σ st1 fun y st2 => ∃ i j, x = .int i ∧ y = .int j ∧ (-(2 ^ 62) ≤ i ∧ i < 2 ^ 62 ∧ -(2 ^ 62) ≤ j ∧ j < 2 ^ 62) ∧ R ⟨rng i (j - i).toNat, fun _ => True⟩ st2
def zipD : List D → List D → List D
  | x :: xs, y :: ys => .tup [x, y] :: zipD xs ys
  | _, _ => []
/-- zip(a, b): both lists, or both tuples -/
def zipK : D → D → Store → (Iter → Store → Prop) → Prop
  | .tup xs, .tup ys, st, R => R ⟨zipD xs ys, fun _ => True⟩ st
  | .ref m, .ref n, st, R => ∃ xs ys, rdA st m xs ∧ rdA st n ys ∧ R ⟨zipD xs ys, fun s => rdA s m xs ∧ rdA s n ys⟩ st
  | _, _, _, _ => False
def iZip2 (t u : TE) : TI := fun σ st R => t σ st fun x st1 => u σ st1 fun y st2 => zipK x y st2 R

/-! ### comprehensions -/
def tYes : TT := fun _ st Q => Q true st
/-- n: the new list's cell -/
def lcLoop (gd : Store → Prop) (g : TG) (tt : TT) (te : TE) (ρ : Env) (n : Nat) (Q : K) : List D → List D → Store → Prop
  | [], acc, st => gd st ∧ rdL st n acc ∧ Q (.ref n) st
  | x :: xs, acc, st => gd st ∧ g x ρ st fun ρ2 st2 => tt ρ2 st2 fun b st3 =>
      (b = true → te ρ2 st3 fun y st4 => rdL st4 n acc ∧ acc.length < szl ∧ lcLoop gd g tt te ρ n Q xs (acc ++ [y]) (st4.set n (.lst (acc ++ [y])))) ∧ (b = false → rdL st3 n acc ∧ lcLoop gd g tt te ρ n Q xs acc st3)
def dLc (i : TI) (g : TG) (tt : TT) (te : TE) (vs : List Nat) : TE := fun σ st Q => i σ st fun I st1 => lcLoop I.guard g tt te (wipeE σ vs) st1.length Q I.items [] (st1 ++ [.lst []])

/-! ### statements -/
def sNext : TS := fun D σ st => D.nx σ st
/-- a statement's end, where a walk may rest -/
structure Nxt (P : Prop) : Prop where
  go : P
def sSeq (t u : TS) : TS := fun D σ st => t { D with nx := fun σ' st' => Nxt (u D σ' st') } σ st
def sBreak : TS := fun D σ st => D.bk σ st
def sCont : TS := fun D σ st => D.ct σ st
def sExpr (t : TE) : TS := fun D σ st => t σ st fun _ st1 => D.nx σ st1
def sRet (t : TE) : TS := fun D σ st => t σ st D.rt
def sRetN : TS := fun D _ st => D.rt .non st
def sIf (c : TT) (t u : TS) : TS := fun D σ st => c σ st fun b st1 => (b = true → t D σ st1) ∧ (b = false → u D σ st1)
def sAsg (t : TE) (g : TG) : TS := fun D σ st => t σ st fun x st1 => g x σ st1 D.nx
/-- a, b = e, f of two locals: no tuple is made -/
def sPar (i j : Nat) (t : TA) : TS := fun D σ st => t σ st fun xs st1 => ∃ x y, xs = [x, y] ∧ D.nx ((σ.set i (some x)).set j (some y)) st1
def sAug (i : Nat) (k : K2) (t : TE) : TS := fun D σ st => ∃ x, lk σ i = some x ∧ t σ st fun y st1 => k x y st1 fun z st2 => D.nx (σ.set i (some z)) st2
/-- the item of a list alone -/
def ixLK : K2
  | .ref n, .int i, st, Q => ∃ xs d, rdA st n xs ∧ atD xs i = some d ∧ Q d st
  | _, _, _, _ => False
def sAugL (k : K2) (to ti te : TE) : TS := fun D σ st => to σ st fun o st1 => ti σ st1 fun i st2 => ixLK o i st2 fun x st3 => te σ st3 fun y st4 => k x y st4 fun z st5 => setK o i z st5 fun st6 => D.nx σ st6
def forLoop (gd : Store → Prop) (g : TG) (tb : TS) (D : Ends) : List Pd.D → Env → Store → Prop
  | [], σ, st => gd st ∧ D.nx σ st
  | x :: xs, σ, st => gd st ∧ g x σ st fun σ2 st2 => tb { D with nx := fun σ3 st3 => forLoop gd g tb D xs σ3 st3, ct := fun σ3 st3 => forLoop gd g tb D xs σ3 st3, bk := D.nx } σ2 st2
def sFor (i : TI) (g : TG) (tb : TS) : TS := fun D σ st => i σ st fun I st1 => forLoop I.guard g tb D I.items σ st1
def whileN (c : TT) (tb : TS) (D : Ends) : Nat → Env → Store → Prop
  | 0, _, _ => False
  | n + 1, σ, st => c σ st fun b st1 => (b = true → tb { D with nx := fun σ2 st2 => whileN c tb D n σ2 st2, ct := fun σ2 st2 => whileN c tb D n σ2 st2, bk := D.nx } σ st1) ∧ (b = false → D.nx σ st1)
def sWhile (c : TT) (tb : TS) : TS := fun D σ st => ∃ n, whileN c tb D n σ st

/-! ### defs: parameters, number of names, body -/
structure Def where
  ps : Nat
  ns : Nat
  body : Cl → TS
def start (n : Nat) (ds : List D) : Env := ds.map some ++ List.replicate (n - ds.length) none
def Def.run (d : Def) (c : Cl) (ds : List D) (st : Store) (Q : K) : Prop :=
  ds.length = d.ps ∧ d.body c { nx := fun _ st' => Q .non st', rt := Q } (start d.ns ds) st
/-- calls, at most k deep -/
def callN (prog : String → Option Def) : Nat → Cl
  | 0 => fun _ _ _ _ => False
  | k + 1 => fun f ds st Q => ∃ d, prog f = some d ∧ d.run (callN prog k) ds st Q
end Pd
end PartPdCore

section PartPdSoundA
set_option Elab.async false
set_option linter.all false
set_option maxRecDepth 100000
set_option maxHeartbeats 1000000
/-! Pd over the hand layer: data against values and heaps; lifting; expressions. Own work. -/
namespace Pd
open PySem PySem.Spec
abbrev Kf := PySem.W.Frag
abbrev Vv := L2.V
abbrev Hp := L2.Hp

theorem szl_eq : szl = sizeLine := by rfl

/-! ### data against values -/
mutual
def RD (K : Kf) (f : List Addr) (H : Hp) : D → L2.V → Prop
  | .non, v => v = .non
  | .bl b, v => v = .bl b
  | .int i, v => v = .int i
  | .str s, v => v = .str s
  | .ref n, v => ∃ a, f[n]? = some a ∧ v = .ref a
  | .tup ds, v => ∃ a vs, v = .ref a ∧ L2.SqT K H a vs ∧ RDs K f H ds vs
def RDs (K : Kf) (f : List Addr) (H : Hp) : List D → List L2.V → Prop
  | [], vs => vs = []
  | d :: ds, vs => ∃ v r, vs = v :: r ∧ RD K f H d v ∧ RDs K f H ds r
end
section
variable {K : Kf} {f f' : List Addr} {H H' : Hp} {st st' : Store} {ρ : Env} {σ : L2.St}
theorem RD.non {v : L2.V} : RD K f H .non v ↔ v = .non := by simp [RD]
theorem RD.bl {b : Bool} {v : L2.V} : RD K f H (.bl b) v ↔ v = .bl b := by simp [RD]
theorem RD.int {i : Int} {v : L2.V} : RD K f H (.int i) v ↔ v = .int i := by simp [RD]
theorem RD.str {x : Str} {v : L2.V} : RD K f H (.str x) v ↔ v = .str x := by simp [RD]
theorem RD.ref {n : Nat} {v : L2.V} : RD K f H (.ref n) v ↔ ∃ a, f[n]? = some a ∧ v = .ref a := by simp [RD]
theorem RD.tup {ds : List D} {v : L2.V} : RD K f H (.tup ds) v ↔ ∃ a vs, v = .ref a ∧ L2.SqT K H a vs ∧ RDs K f H ds vs := by simp [RD]
theorem RDs.nil {vs : List L2.V} : RDs K f H [] vs ↔ vs = [] := by simp [RDs]
theorem RDs.cons {d : D} {ds : List D} {vs : List L2.V} : RDs K f H (d :: ds) vs ↔ ∃ v r, vs = v :: r ∧ RD K f H d v ∧ RDs K f H ds r := by simp [RDs]

/-- later: more cells, the tuples as they were -/
structure Ext (K : Kf) (f : List Addr) (H : Hp) (f' : List Addr) (H' : Hp) : Prop where
  pre : ∃ g, f' = f ++ g
  tup : ∀ a xs, L2.SqT K H a xs → L2.SqT K H' a xs
theorem Ext.refl : Ext K f H f H := ⟨⟨[], by simp⟩, fun _ _ h => h⟩
theorem Ext.trans {f2 : List Addr} {H2 : Hp} (a : Ext K f H f' H') (b : Ext K f' H' f2 H2) : Ext K f H f2 H2 := by
  obtain ⟨g, rfl⟩ := a.pre
  obtain ⟨g2, rfl⟩ := b.pre
  exact ⟨⟨g ++ g2, by simp⟩, fun x xs h => b.tup x xs (a.tup x xs h)⟩
theorem Ext.at (e : Ext K f H f' H') {n : Nat} {a : Addr} (h : f[n]? = some a) : f'[n]? = some a := by
  obtain ⟨g, rfl⟩ := e.pre
  have hn := (List.getElem?_eq_some_iff.mp h).1
  rw [List.getElem?_append_left hn]; exact h
mutual
theorem RD.mono (e : Ext K f H f' H') : ∀ (d : D) {v : L2.V}, RD K f H d v → RD K f' H' d v
  | .non, _, h => by rw [RD.non] at *; exact h
  | .bl _, _, h => by rw [RD.bl] at *; exact h
  | .int _, _, h => by rw [RD.int] at *; exact h
  | .str _, _, h => by rw [RD.str] at *; exact h
  | .ref _, _, h => by
    rw [RD.ref] at *
    obtain ⟨a, h1, h2⟩ := h
    exact ⟨a, e.at h1, h2⟩
  | .tup ds, _, h => by
    rw [RD.tup] at *
    obtain ⟨a, vs, h1, h2, h3⟩ := h
    exact ⟨a, vs, h1, e.tup _ _ h2, RDs.mono e ds h3⟩
theorem RDs.mono (e : Ext K f H f' H') : ∀ (ds : List D) {vs : List L2.V}, RDs K f H ds vs → RDs K f' H' ds vs
  | [], _, h => by rw [RDs.nil] at *; exact h
  | d :: ds, _, h => by
    rw [RDs.cons] at *
    obtain ⟨v, r, h1, h2, h3⟩ := h
    exact ⟨v, r, h1, RD.mono e d h2, RDs.mono e ds h3⟩
end
theorem RDs.length : ∀ {ds : List D} {vs : List L2.V}, RDs K f H ds vs → vs.length = ds.length
  | [], _, h => by rw [RDs.nil] at h; subst h; rfl
  | d :: ds, _, h => by
    rw [RDs.cons] at h
    obtain ⟨v, r, rfl, _, h3⟩ := h
    simp [RDs.length h3]
theorem RDs.get : ∀ {ds : List D} {vs : List L2.V} {i : Nat} {d : D}, RDs K f H ds vs → ds[i]? = some d → ∃ v, vs[i]? = some v ∧ RD K f H d v
  | [], _, _, _, _, e => by simp at e
  | x :: ds, _, 0, d, h, e => by
    rw [RDs.cons] at h
    obtain ⟨v, r, rfl, h2, _⟩ := h
    simp at e; subst e; exact ⟨v, rfl, h2⟩
  | x :: ds, _, i + 1, d, h, e => by
    rw [RDs.cons] at h
    obtain ⟨v, r, rfl, _, h3⟩ := h
    obtain ⟨w, h4, h5⟩ := RDs.get (i := i) h3 (by simpa using e)
    exact ⟨w, by simpa using h4, h5⟩
theorem RDs.append : ∀ {xs ys : List D} {us vs : List L2.V}, RDs K f H xs us → RDs K f H ys vs → RDs K f H (xs ++ ys) (us ++ vs)
  | [], _, _, _, h, h' => by rw [RDs.nil] at h; subst h; exact h'
  | x :: xs, _, _, _, h, h' => by
    rw [RDs.cons] at h
    obtain ⟨v, r, rfl, h2, h3⟩ := h
    rw [List.cons_append, RDs.cons]
    exact ⟨v, _, rfl, h2, RDs.append h3 h'⟩
theorem RDs.one {d : D} {v : L2.V} (h : RD K f H d v) : RDs K f H [d] [v] := by
  rw [RDs.cons]; exact ⟨v, [], rfl, h, by rw [RDs.nil]⟩
theorem RDs.take : ∀ {ds : List D} {vs : List L2.V} (n : Nat), RDs K f H ds vs → RDs K f H (ds.take n) (vs.take n)
  | _, _, 0, _ => by simp [RDs.nil]
  | [], _, n + 1, h => by rw [RDs.nil] at h; subst h; simp [RDs.nil]
  | d :: ds, _, n + 1, h => by
    rw [RDs.cons] at h
    obtain ⟨v, r, rfl, h2, h3⟩ := h
    rw [List.take_succ_cons, List.take_succ_cons, RDs.cons]
    exact ⟨v, _, rfl, h2, RDs.take n h3⟩
theorem RDs.drop : ∀ {ds : List D} {vs : List L2.V} (n : Nat), RDs K f H ds vs → RDs K f H (ds.drop n) (vs.drop n)
  | _, _, 0, h => by simpa using h
  | [], _, n + 1, h => by rw [RDs.nil] at h; subst h; simp [RDs.nil]
  | d :: ds, _, n + 1, h => by
    rw [RDs.cons] at h
    obtain ⟨v, r, rfl, h2, h3⟩ := h
    rw [List.drop_succ_cons, List.drop_succ_cons]
    exact RDs.drop n h3
theorem RDs.set : ∀ {ds : List D} {vs : List L2.V} (n : Nat) {d : D} {v : L2.V}, RD K f H d v → RDs K f H ds vs → RDs K f H (ds.set n d) (vs.set n v)
  | [], _, _, _, _, _, h => by rw [RDs.nil] at h; subst h; simp [RDs.nil]
  | x :: ds, _, 0, d, v, hd, h => by
    rw [RDs.cons] at h
    obtain ⟨w, r, rfl, h2, h3⟩ := h
    rw [List.set_cons_zero, List.set_cons_zero, RDs.cons]
    exact ⟨v, r, rfl, hd, h3⟩
  | x :: ds, _, n + 1, d, v, hd, h => by
    rw [RDs.cons] at h
    obtain ⟨w, r, rfl, h2, h3⟩ := h
    rw [List.set_cons_succ, List.set_cons_succ, RDs.cons]
    exact ⟨w, _, rfl, h2, RDs.set n hd h3⟩
theorem RDs.eraseIdx : ∀ {ds : List D} {vs : List L2.V} (n : Nat), RDs K f H ds vs → RDs K f H (ds.eraseIdx n) (vs.eraseIdx n)
  | [], _, _, h => by rw [RDs.nil] at h; subst h; simp [RDs.nil]
  | x :: ds, _, 0, h => by
    rw [RDs.cons] at h
    obtain ⟨w, r, rfl, h2, h3⟩ := h
    simpa using h3
  | x :: ds, _, n + 1, h => by
    rw [RDs.cons] at h
    obtain ⟨w, r, rfl, h2, h3⟩ := h
    rw [List.eraseIdx_cons_succ, List.eraseIdx_cons_succ, RDs.cons]
    exact ⟨w, _, rfl, h2, RDs.eraseIdx n h3⟩
theorem RDs.ints : ∀ {ns : List Int} {vs : List L2.V}, RDs K f H (ns.map D.int) vs → vs = ns.map L2.V.int
  | [], _, h => by rw [List.map_nil, RDs.nil] at h; subst h; rfl
  | n :: ns, _, h => by
    rw [List.map_cons, RDs.cons] at h
    obtain ⟨v, r, rfl, h2, h3⟩ := h
    rw [RD.int] at h2
    rw [h2, RDs.ints h3]; rfl
theorem RDs.of_ints : ∀ (ns : List Int), RDs K f H (ns.map D.int) (ns.map L2.V.int)
  | [] => by simp [RDs.nil]
  | n :: ns => by
    rw [List.map_cons, List.map_cons, RDs.cons]
    exact ⟨_, _, rfl, by rw [RD.int], RDs.of_ints ns⟩
theorem RDs.bools : ∀ {bs : List Bool} {vs : List L2.V}, RDs K f H (bs.map D.bl) vs → vs = bs.map L2.V.bl
  | [], _, h => by rw [List.map_nil, RDs.nil] at h; subst h; rfl
  | n :: ns, _, h => by
    rw [List.map_cons, RDs.cons] at h
    obtain ⟨v, r, rfl, h2, h3⟩ := h
    rw [RD.bl] at h2
    rw [h2, RDs.bools h3]; rfl

/-! ### the store against the heap -/
/-- a list that may not be changed: frozen, or the module's -/
def FzL (K : Kf) (H : Hp) (a : Addr) (xs : List L2.V) : Prop :=
  (∃ o, H a = some (.frz o (.lst xs))) ∨
    ∃ (o : Obj) (its : Array Value) (n : Nat), K.lookup a = some o ∧ o.cls = .type "list" ∧ o.dict = none ∧ o.data = .seq its n ∧ its.size ≤ sizeLine ∧ L2.Vals xs its.toList
theorem FzL.sq {a : Addr} {xs : List L2.V} (h : FzL K H a xs) : L2.SqL K H a xs := by
  rcases h with h | h
  · exact .inl (.inr h)
  · exact .inr h
def RC (K : Kf) (f : List Addr) (H : Hp) : C → Addr → Prop
  | .lst ds, a => ∃ vs, H a = some (.lst vs) ∧ RDs K f H ds vs
  | .frz ds, a => ∃ vs, FzL K H a vs ∧ RDs K f H ds vs
  | .dic kvs, a => ∃ ks : List (L2.Key × L2.V), H a = some (.dK ks) ∧ ks.map (·.1) = kvs.map (·.1) ∧ RDs K f H (kvs.map (·.2)) (ks.map (·.2))
  | .frd kvs tk, a => H a = some (.frz tk.1 (.dK tk.2)) ∧ tk.2.map (·.1) = kvs.map (·.1) ∧ RDs K f H (kvs.map (·.2)) (tk.2.map (·.2))
/-- a cell that may be changed -/
def mutC : C → Bool
  | .frz _ => false
  | _ => true
structure RelS (K : Kf) (f : List Addr) (st : Store) (H : Hp) : Prop where
  len : f.length = st.length
  nd : ∀ (n m : Nat) (c c' : C) (a : Addr), st[n]? = some c → st[m]? = some c' → mutC c = true → mutC c' = true → f[n]? = some a → f[m]? = some a → n = m
  cell : ∀ (n : Nat) (c : C) (a : Addr), st[n]? = some c → f[n]? = some a → RC K f H c a
structure Rel (K : Kf) (f : List Addr) (ρ : Env) (st : Store) (σ : L2.St) (H : Hp) : Prop extends RelS K f st H where
  env : ∀ (i : Nat) (d : D), lk ρ i = some d → ∃ v, σ[i]? = some (some v) ∧ RD K f H d v
  le : ρ.length ≤ σ.length
theorem RelS.at (r : RelS K f st H) {n : Nat} {c : C} (h : st[n]? = some c) : ∃ a, f[n]? = some a ∧ RC K f H c a := by
  have hn := (List.getElem?_eq_some_iff.mp h).1
  have hn' : n < f.length := by rw [r.len]; exact hn
  exact ⟨f[n], by simp [hn'], r.cell n c _ h (by simp [hn'])⟩
theorem RelS.rdL (r : RelS K f st H) {n : Nat} {xs : List D} (h : rdL st n xs) : ∃ a vs, f[n]? = some a ∧ H a = some (.lst vs) ∧ RDs K f H xs vs := by
  obtain ⟨a, h1, vs, h2, h3⟩ := r.at h
  exact ⟨a, vs, h1, h2, h3⟩
theorem RelS.rdD (r : RelS K f st H) {n : Nat} {kvs : List (Sum Int Str × D)} (h : Pd.rdD st n kvs) : ∃ a ks, f[n]? = some a ∧ H a = some (.dK ks) ∧ ks.map (·.1) = kvs.map (·.1) ∧ RDs K f H (kvs.map (·.2)) (ks.map (·.2)) := by
  obtain ⟨a, h1, ks, h2, h3⟩ := r.at h
  exact ⟨a, ks, h1, h2, h3⟩
theorem RelS.rdDA (r : RelS K f st H) {n : Nat} {kvs : List (Sum Int Str × D)} (h : Pd.rdDA st n kvs) : ∃ a ks, f[n]? = some a ∧ L2.Rd H a (.dK ks) ∧ ks.map (·.1) = kvs.map (·.1) ∧ RDs K f H (kvs.map (·.2)) (ks.map (·.2)) := by
  rcases h with h | ⟨tk, h⟩
  · obtain ⟨a, h1, ks, h2, h3⟩ := r.at h
    exact ⟨a, ks, h1, .inl h2, h3⟩
  · obtain ⟨a, h1, h2, h3⟩ := r.at h
    exact ⟨a, tk.2, h1, .inr ⟨_, h2⟩, h3⟩
theorem RelS.rdA (r : RelS K f st H) {n : Nat} {xs : List D} (h : rdA st n xs) : ∃ a vs, f[n]? = some a ∧ L2.SqL K H a vs ∧ RDs K f H xs vs := by
  rcases h with h | h
  · obtain ⟨a, h1, vs, h2, h3⟩ := r.at h
    exact ⟨a, vs, h1, .of h2, h3⟩
  · obtain ⟨a, h1, vs, h2, h3⟩ := r.at h
    exact ⟨a, vs, h1, h2.sq, h3⟩
theorem Rel.later (r : Rel K f ρ st σ H) (e : Ext K f H f' H') (s : RelS K f' st' H') : Rel K f' ρ st' σ H' :=
  ⟨s, fun i d h => by
    obtain ⟨v, h1, h2⟩ := r.env i d h
    exact ⟨v, h1, h2.mono e⟩, r.le⟩
theorem lk_lt : ∀ {ρ : Env} {i : Nat} {d : D}, lk ρ i = some d → i < ρ.length
  | [], _, _, h => by simp [lk] at h
  | _ :: _, 0, _, _ => by simp
  | _ :: r, i + 1, _, h => by
    have := lk_lt (ρ := r) (i := i) (by simpa [lk] using h)
    simp; omega
theorem wipeE_length (ρ : Env) : ∀ vs : List Nat, (wipeE ρ vs).length = ρ.length
  | [] => rfl
  | v :: vs => by unfold wipeE; rw [List.length_set, wipeE_length ρ vs]
theorem lk_set {ρ : Env} {i j : Nat} {d x : D} (h : lk (ρ.set i (some x)) j = some d) : (j = i ∧ d = x) ∨ (j ≠ i ∧ lk ρ j = some d) := by
  induction ρ generalizing i j with
  | nil => simp [lk] at h
  | cons y r ih =>
    cases i with
    | zero =>
      cases j with
      | zero => simp [lk] at h; exact .inl ⟨rfl, h.symm⟩
      | succ j => simp [lk] at h; exact .inr ⟨by simp, by simpa [lk] using h⟩
    | succ i =>
      cases j with
      | zero => simp [lk] at h; exact .inr ⟨by simp, by simpa [lk] using h⟩
      | succ j =>
        simp [lk] at h
        rcases ih h with ⟨e, h⟩ | ⟨e, h⟩
        · exact .inl ⟨by omega, h⟩
        · exact .inr ⟨by omega, by simpa [lk] using h⟩
theorem lk_none {ρ : Env} {i j : Nat} {d : D} (h : lk (ρ.set i none) j = some d) : j ≠ i ∧ lk ρ j = some d := by
  induction ρ generalizing i j with
  | nil => simp [lk] at h
  | cons y r ih =>
    cases i with
    | zero =>
      cases j with
      | zero => simp [lk] at h
      | succ j => simp [lk] at h; exact ⟨by simp, by simpa [lk] using h⟩
    | succ i =>
      cases j with
      | zero => simp [lk] at h; exact ⟨by simp, by simpa [lk] using h⟩
      | succ j =>
        simp [lk] at h
        obtain ⟨e, h⟩ := ih h
        exact ⟨by omega, by simpa [lk] using h⟩
theorem lk_wipe {ρ : Env} {j : Nat} {d : D} : ∀ {vs : List Nat}, lk (wipeE ρ vs) j = some d → j ∉ vs ∧ lk ρ j = some d
  | [], h => ⟨by simp, h⟩
  | v :: vs, h => by
    unfold wipeE at h
    obtain ⟨h1, h2⟩ := lk_none h
    obtain ⟨h3, h4⟩ := lk_wipe h2
    exact ⟨by simp [h1, h3], h4⟩
/-- the slots a target may write: all others as they were -/
def Out (vs : List Nat) (σ σ' : L2.St) : Prop := σ'.length = σ.length ∧ ∀ j, j ∉ vs → σ'[j]? = σ[j]?
theorem Rel.put {i : Nat} {d : D} {v : L2.V} (r : Rel K f ρ st σ H) (h : RD K f H d v) : Rel K f (ρ.set i (some d)) st (σ.set i (some v)) H :=
  ⟨r.toRelS, fun j x hx => by
    have hl := lk_lt hx
    rw [List.length_set] at hl
    have hle := r.le
    rcases lk_set hx with ⟨rfl, rfl⟩ | ⟨ne, h'⟩
    · exact ⟨v, by rw [List.getElem?_set_self (by omega)], h⟩
    · obtain ⟨w, h1, h2⟩ := r.env j x h'
      exact ⟨w, by rw [List.getElem?_set_ne (Ne.symm ne)]; exact h1, h2⟩, by rw [List.length_set, List.length_set]; exact r.le⟩
theorem wipe_keep {σ : L2.St} {i : Nat} : ∀ {vs : List Nat}, i ∉ vs → (L2.wipe σ vs)[i]? = σ[i]?
  | [], _ => rfl
  | v :: vs, h => by
    have h1 : i ≠ v := fun e => h (by simp [e])
    unfold L2.wipe
    rw [List.getElem?_set_ne (Ne.symm h1)]
    exact wipe_keep fun e => h (List.mem_cons_of_mem _ e)
theorem Rel.wipe {vs : List Nat} (r : Rel K f ρ st σ H) : Rel K f (wipeE ρ vs) st (L2.wipe σ vs) H :=
  ⟨r.toRelS, fun j x hx => by
    obtain ⟨h1, h2⟩ := lk_wipe hx
    obtain ⟨v, h3, h4⟩ := r.env j x h2
    exact ⟨v, by rw [wipe_keep h1]; exact h3, h4⟩, by rw [wipeE_length, L2.wipe_length]; exact r.le⟩
theorem Out.wipe {vs : List Nat} {σ σ' : L2.St} (h : Out vs (L2.wipe σ vs) σ') : L2.wipe σ' vs = L2.wipe σ vs := by
  obtain ⟨h1, h2⟩ := h
  apply List.ext_getElem?
  intro j
  have wiped : ∀ (τ : L2.St) (ws : List Nat), j ∈ ws → (L2.wipe τ ws)[j]? = if j < τ.length then some none else none := by
    intro τ ws
    induction ws with
    | nil => intro h; cases h
    | cons v ws ih =>
      intro h
      unfold L2.wipe
      by_cases e : v = j
      · subst e
        by_cases hl : v < τ.length
        · rw [List.getElem?_set_self (by rw [L2.wipe_length]; exact hl), if_pos hl]
        · rw [List.getElem?_eq_none (by rw [List.length_set, L2.wipe_length]; omega), if_neg hl]
      · rw [List.getElem?_set_ne e]
        rcases List.mem_cons.mp h with q | q
        · exact absurd q.symm e
        · exact ih q
  by_cases hj : j ∈ vs
  · rw [wiped σ' vs hj, wiped σ vs hj, h1, L2.wipe_length]
  · rw [wipe_keep hj, h2 j hj]

/-! a new object, a changed one -/
/-- what may stand where something is laid or changed -/
def Wr (H : Hp) (b : Addr) : Prop := H b = none ∨ (∃ ys, H b = some (.lst ys)) ∨ (∃ ys, H b = some (.dK ys)) ∨ ∃ o ys, H b = some (.frz o (.dK ys))
theorem SqT.upd {a b : Addr} {xs : List L2.V} {o : L2.HO} (h : L2.SqT K H a xs) (n : Wr H b) : L2.SqT K (L2.upd H b o) a xs := by
  rcases h with (h | ⟨q, h⟩) | h
  · have : a ≠ b := by
      rintro rfl
      rcases n with n | ⟨ys, n⟩ | ⟨ys, n⟩ | ⟨o, ys, n⟩ <;> rw [n] at h <;> cases h
    exact .inl (.inl (by rw [L2.upd_ne this]; exact h))
  · have : a ≠ b := by
      rintro rfl
      rcases n with n | ⟨ys, n⟩ | ⟨ys, n⟩ | ⟨o, ys, n⟩ <;> rw [n] at h <;> cases h
    exact .inl (.inr ⟨q, by rw [L2.upd_ne this]; exact h⟩)
  · exact .inr h
theorem FzL.upd {a b : Addr} {xs : List L2.V} {o : L2.HO} (h : FzL K H a xs) (n : Wr H b) : FzL K (L2.upd H b o) a xs := by
  rcases h with ⟨q, h⟩ | h
  · have : a ≠ b := by
      rintro rfl
      rcases n with n | ⟨ys, n⟩ | ⟨ys, n⟩ | ⟨o, ys, n⟩ <;> rw [n] at h <;> cases h
    exact .inl ⟨q, by rw [L2.upd_ne this]; exact h⟩
  · exact .inr h
theorem Ext.upd {b : Addr} {o : L2.HO} {g : List Addr} (n : Wr H b) : Ext K f H (f ++ g) (L2.upd H b o) := ⟨⟨g, rfl⟩, fun _ _ h => SqT.upd h n⟩
theorem Ext.upd0 {b : Addr} {o : L2.HO} (n : Wr H b) : Ext K f H f (L2.upd H b o) := ⟨⟨[], by simp⟩, fun _ _ h => SqT.upd h n⟩
theorem RC.upd {c : C} {a b : Addr} {o : L2.HO} (h : RC K f H c a) (e : Ext K f H f' (L2.upd H b o)) (n : Wr H b) (ne : mutC c = true → a ≠ b) : RC K f' (L2.upd H b o) c a := by
  cases c with
  | lst ds =>
    obtain ⟨vs, h1, h2⟩ := h
    exact ⟨vs, by rw [L2.upd_ne (ne rfl)]; exact h1, h2.mono e⟩
  | frz ds =>
    obtain ⟨vs, h1, h2⟩ := h
    exact ⟨vs, h1.upd n, h2.mono e⟩
  | dic kvs =>
    obtain ⟨ks, h1, h2, h3⟩ := h
    exact ⟨ks, by rw [L2.upd_ne (ne rfl)]; exact h1, h2, h3.mono e⟩
  | frd kvs tk =>
    obtain ⟨h1, h2, h3⟩ := h
    exact ⟨by rw [L2.upd_ne (ne rfl)]; exact h1, h2, h3.mono e⟩
theorem RC.some {c : C} {a : Addr} (h : RC K f H c a) (m : mutC c = true) : H a ≠ none := by
  cases c with
  | lst ds => obtain ⟨vs, h1, _⟩ := h; rw [h1]; simp
  | frz ds => cases m
  | dic kvs => obtain ⟨ks, h1, _⟩ := h; rw [h1]; simp
  | frd kvs tk => obtain ⟨h1, _⟩ := h; rw [h1]; simp
/-- a new tracked object that is no cell (a tuple) -/
theorem RelS.lay (r : RelS K f st H) {p : Addr} {o : L2.HO} (hp : H p = none) : RelS K f st (L2.upd H p o) ∧ Ext K f H f (L2.upd H p o) := by
  have e : Ext K f H f (L2.upd H p o) := Ext.upd0 (.inl hp)
  exact ⟨⟨r.len, r.nd, fun n c a h1 h2 => (r.cell n c a h1 h2).upd e (.inl hp) fun m z => (r.cell n c a h1 h2).some m (z ▸ hp)⟩, e⟩
/-- a new cell -/
theorem RelS.new (r : RelS K f st H) {p : Addr} {o : L2.HO} {c : C} (hp : H p = none) (hc : RC K (f ++ [p]) (L2.upd H p o) c p) : RelS K (f ++ [p]) (st ++ [c]) (L2.upd H p o) ∧ Ext K f H (f ++ [p]) (L2.upd H p o) := by
  have e : Ext K f H (f ++ [p]) (L2.upd H p o) := Ext.upd (.inl hp)
  have split : ∀ {n : Nat} {c' : C} {a : Addr}, (st ++ [c])[n]? = some c' → (f ++ [p])[n]? = some a → (n < st.length ∧ st[n]? = some c' ∧ f[n]? = some a) ∨ (n = st.length ∧ c' = c ∧ a = p) := fun {n c' a} h1 h2 => by
    have hl := r.len
    by_cases hn : n < st.length
    · rw [List.getElem?_append_left hn] at h1
      rw [List.getElem?_append_left (by rw [r.len]; exact hn)] at h2
      exact .inl ⟨hn, h1, h2⟩
    · rw [List.getElem?_append_right (by omega)] at h1
      rw [List.getElem?_append_right (by rw [r.len]; omega)] at h2
      have e0 : n - st.length = 0 := by
        have := (List.getElem?_eq_some_iff.mp h1).1
        simp at this; omega
      rw [e0] at h1
      rw [hl, e0] at h2
      simp at h1 h2
      exact .inr ⟨by omega, h1.symm, h2.symm⟩
  refine ⟨⟨by simp [r.len], fun n m c1 c2 a h1 h2 m1 m2 h3 h4 => ?_, fun n c' a h1 h2 => ?_⟩, e⟩
  · rcases split h1 h3 with ⟨l1, s1, t1⟩ | ⟨l1, rfl, rfl⟩ <;> rcases split h2 h4 with ⟨l2, s2, t2⟩ | ⟨l2, rfl, e2⟩
    · exact r.nd n m c1 c2 a s1 s2 m1 m2 t1 t2
    · subst e2
      exact absurd hp ((r.cell n c1 _ s1 t1).some m1)
    · exact absurd hp ((r.cell m c2 _ s2 t2).some m2)
    · omega
  · rcases split h1 h2 with ⟨l1, s1, t1⟩ | ⟨l1, rfl, rfl⟩
    · exact (r.cell n c' a s1 t1).upd e (.inl hp) fun m z => (r.cell n c' a s1 t1).some m (z ▸ hp)
    · exact hc
/-- a cell is changed -/
theorem RelS.chg (r : RelS K f st H) {p : Addr} {n : Nat} {c c' : C} {o : L2.HO} (hs : st[n]? = some c) (hm : mutC c = true) (hn : f[n]? = some p) (hp : Wr H p) (hm' : mutC c' = true) (hd : RC K f (L2.upd H p o) c' p) :
    RelS K f (st.set n c') (L2.upd H p o) ∧ Ext K f H f (L2.upd H p o) := by
  have e : Ext K f H f (L2.upd H p o) := Ext.upd0 hp
  have hl : n < st.length := (List.getElem?_eq_some_iff.mp hs).1
  have split : ∀ {m : Nat} {d : C}, (st.set n c')[m]? = some d → (m = n ∧ d = c') ∨ (m ≠ n ∧ st[m]? = some d) := fun {m d} h => by
    by_cases hmn : m = n
    · subst hmn
      rw [List.getElem?_set_self hl] at h
      cases h
      exact .inl ⟨rfl, rfl⟩
    · rw [List.getElem?_set_ne (Ne.symm hmn)] at h
      exact .inr ⟨hmn, h⟩
  refine ⟨⟨by simp [r.len], fun i j c1 c2 a h1 h2 m1 m2 h3 h4 => ?_, fun m d a h1 h2 => ?_⟩, e⟩
  · rcases split h1 with ⟨rfl, rfl⟩ | ⟨n1, s1⟩ <;> rcases split h2 with ⟨rfl, rfl⟩ | ⟨n2, s2⟩
    · rfl
    · exact r.nd _ _ _ _ a hs s2 hm m2 h3 h4
    · exact r.nd _ _ _ _ a s1 hs m1 hm h3 h4
    · exact r.nd _ _ _ _ a s1 s2 m1 m2 h3 h4
  · rcases split h1 with ⟨rfl, rfl⟩ | ⟨n1, s1⟩
    · rw [hn] at h2; cases h2
      exact hd
    · exact (r.cell m d a s1 h2).upd e hp fun md z => by
        subst z
        exact n1 (r.nd _ _ _ _ a s1 hs md hm h2 hn)
end
end Pd
end PartPdSoundA

section PartPdSoundB
set_option Elab.async false
set_option linter.all false
set_option maxRecDepth 100000
set_option maxHeartbeats 1000000
/-! Pd over the hand layer: lifting, expressions. Own work. -/
namespace Pd
open PySem PySem.Spec

/-! ### what is wanted, lifted -/
def LQ (K : Kf) (f : List Addr) (H : Hp) (Q' : Pd.K) (Q : L2.VK) : Prop :=
  ∀ (d : D) (st' : Store) (v : L2.V) (f' : List Addr) (H' : Hp), Q' d st' → Ext K f H f' H' → RelS K f' st' H' → RD K f' H' d v → Q v H'
def LT (K : Kf) (f : List Addr) (H : Hp) (Q' : Bool → Store → Prop) (Q : Bool → Hp → Prop) : Prop :=
  ∀ (b : Bool) (st' : Store) (f' : List Addr) (H' : Hp), Q' b st' → Ext K f H f' H' → RelS K f' st' H' → Q b H'
def LA (K : Kf) (f : List Addr) (H : Hp) (Q' : List D → Store → Prop) (Q : List L2.V → Hp → Prop) : Prop :=
  ∀ (ds : List D) (st' : Store) (vs : List L2.V) (f' : List Addr) (H' : Hp), Q' ds st' → Ext K f H f' H' → RelS K f' st' H' → RDs K f' H' ds vs → Q vs H'
def lift (K : Kf) (t : TE) : L2.TE := fun σ H Q => ∃ f ρ st Q', Rel K f ρ st σ H ∧ t ρ st Q' ∧ LQ K f H Q' Q
def liftT (K : Kf) (t : TT) : L2.TT := fun σ H Q => ∃ f ρ st Q', Rel K f ρ st σ H ∧ t ρ st Q' ∧ LT K f H Q' Q
def liftA (K : Kf) (t : TA) : L2.TA := fun σ H Q => ∃ f ρ st Q', Rel K f ρ st σ H ∧ t ρ st Q' ∧ LA K f H Q' Q
abbrev PD (X : L2.Cx) (e : Expr) (t : TE) : Prop := L2.PE X e (lift X.K t)
abbrev PDT (X : L2.Cx) (e : Expr) (t : TT) : Prop := L2.PT X e (liftT X.K t)
abbrev PDA (X : L2.Cx) (es : List Expr) (t : TA) : Prop := L2.PA X es (liftA X.K t)
section
variable {X : L2.Cx} {K : Kf} {f f' : List Addr} {H H' : Hp} {st st' : Store} {ρ : Env} {σ : L2.St}
theorem pe_imp {e : Expr} {t t' : L2.TE} (h : L2.PE X e t) (m : ∀ σ H Q, t' σ H Q → t σ H Q) : L2.PE X e t' := ⟨fun pins s σ H Q I q => h.run pins s σ H Q I (m σ H Q q)⟩
theorem pt_imp {e : Expr} {t t' : L2.TT} (h : L2.PT X e t) (m : ∀ σ H Q, t' σ H Q → t σ H Q) : L2.PT X e t' := ⟨fun pins s σ H Q I q => h.run pins s σ H Q I (m σ H Q q)⟩
theorem pa_imp {e : List Expr} {t t' : L2.TA} (h : L2.PA X e t) (m : ∀ σ H Q, t' σ H Q → t σ H Q) : L2.PA X e t' := ⟨fun pos pins s σ H Q I q => h.run pos pins s σ H Q I (m σ H Q q)⟩
theorem LQ.later {Q' : Pd.K} {Q : L2.VK} (l : LQ K f H Q' Q) (e : Ext K f H f' H') : LQ K f' H' Q' Q := fun d st' v f2 H2 q e2 s r => l d st' v f2 H2 q (e.trans e2) s r
theorem LQ.now {Q' : Pd.K} {Q : L2.VK} {d : D} {v : L2.V} (l : LQ K f H Q' Q) (s : RelS K f st H) (q : Q' d st) (r : RD K f H d v) : Q v H := l d st v f H q .refl s r
/-- a new tuple -/
theorem LQ.tup {Q' : Pd.K} {Q : L2.VK} {ds : List D} {vs : List L2.V} (l : LQ K f H Q' Q) (s : RelS K f st H) (q : Q' (.tup ds) st) (r : RDs K f H ds vs) {p : Addr} (hp : H p = none) : Q (.ref p) (L2.upd H p (.tup vs)) := by
  obtain ⟨s', e⟩ := s.lay (o := .tup vs) hp
  exact l _ st _ f _ q e s' (RD.tup.mpr ⟨p, vs, rfl, .of L2.upd_same, r.mono e⟩)
/-- a new list -/
theorem LQ.lst {Q' : Pd.K} {Q : L2.VK} {ds : List D} {vs : List L2.V} (l : LQ K f H Q' Q) (s : RelS K f st H) (q : Q' (.ref st.length) (st ++ [.lst ds])) (r : RDs K f H ds vs) {p : Addr} (hp : H p = none) : Q (.ref p) (L2.upd H p (.lst vs)) := by
  have e : Ext K f H (f ++ [p]) (L2.upd H p (.lst vs)) := Ext.upd (.inl hp)
  obtain ⟨s', e⟩ := s.new (o := .lst vs) (c := .lst ds) hp ⟨vs, L2.upd_same, r.mono e⟩
  exact l _ _ _ _ _ q e s' (RD.ref.mpr ⟨p, by rw [← s.len]; simp, rfl⟩)
/-- a changed list -/
theorem RelS.put {n : Nat} {a : Addr} {xs ds : List D} {vs ws : List L2.V} (s : RelS K f st H) (hn : f[n]? = some a) (h : Pd.rdL st n xs) (hH : H a = some (.lst vs)) (r : RDs K f H ds ws) :
    RelS K f (st.set n (.lst ds)) (L2.upd H a (.lst ws)) ∧ Ext K f H f (L2.upd H a (.lst ws)) :=
  s.chg (c := .lst xs) h rfl hn (.inr (.inl ⟨vs, hH⟩)) rfl ⟨ws, L2.upd_same, r.mono (Ext.upd0 (.inr (.inl ⟨vs, hH⟩)))⟩

/-! ### names, constants -/
theorem pd_var {i : Nat} {x : Str} {pos : Pos} (hN : X.N[i]? = some x) (hv : L2.Vis X.env.scope x := by first | exact .inl rfl | exact .inr (.inl rfl) | exact .inr (.inr rfl)) (hd : (x == ("__debug__" : Str)) = false := by decide) (hcd : (x == ("__classdict__" : Str)) = false := by decide) : PD X (.Name x pos) (dVar i) := by
  refine pe_imp (L2.pe_var hN hv hd hcd) fun σ H Q ⟨f, ρ, st, Q', R, ⟨d, h1, h2⟩, l⟩ => ?_
  obtain ⟨v, e, r⟩ := R.env i d h1
  exact ⟨v, e, l.now R.toRelS h2 r⟩
theorem pd_int {i : Int} {j pos} : PD X (.Constant (.int i) j pos) (dC (.int i)) := pe_imp L2.pe_int fun σ H Q ⟨f, ρ, st, Q', R, h, l⟩ => l.now R.toRelS h (RD.int.mpr rfl)
theorem pd_bl {b : Bool} {j pos} : PD X (.Constant (.bool b) j pos) (dC (.bl b)) := pe_imp L2.pe_bl fun σ H Q ⟨f, ρ, st, Q', R, h, l⟩ => l.now R.toRelS h (RD.bl.mpr rfl)
theorem pd_non {j pos} : PD X (.Constant .none j pos) (dC .non) := pe_imp L2.pe_non fun σ H Q ⟨f, ρ, st, Q', R, h, l⟩ => l.now R.toRelS h (RD.non.mpr rfl)
theorem pd_str {x : Str} {j pos} : PD X (.Constant (.str x) j pos) (dC (.str x)) := pe_imp L2.pe_str fun σ H Q ⟨f, ρ, st, Q', R, h, l⟩ => l.now R.toRelS h (RD.str.mpr rfl)
/-- a constant of the module: data -/
theorem pd_glob {x : Str} {d : D} {u : Value} {pos : Pos} (hg : L2.Gl X x) (hm : X.mg x = some u) (h : ∃ v, L2.RelV v u ∧ ∀ f H, RD X.K f H d v) (hd : (x == ("__debug__" : Str)) = false := by decide) : PD X (.Name x pos) (dC d) := by
  obtain ⟨v, r, hr⟩ := h
  exact pe_imp (L2.pe_glob hg hm r hd) fun σ H Q ⟨f, ρ, st, Q', R, h, l⟩ => l.now R.toRelS h (hr f H)

/-! ### operators -/
def Real2 (K : Kf) (r : L2.R2) (k : K2) : Prop := ∀ (f : List Addr) (st : Store) (H : Hp) (x y : D) (v w : L2.V) (Q' : Pd.K) (Q : L2.VK), RelS K f st H → RD K f H x v → RD K f H y w → k x y st Q' → LQ K f H Q' Q → r v w H Q
def Real1 (K : Kf) (r : L2.V → Hp → L2.VK → Prop) (k : D → Store → Pd.K → Prop) : Prop := ∀ (f : List Addr) (st : Store) (H : Hp) (x : D) (v : L2.V) (Q' : Pd.K) (Q : L2.VK), RelS K f st H → RD K f H x v → k x st Q' → LQ K f H Q' Q → r v H Q
theorem two_imp {r : L2.R2} {k : K2} {ta tb : TE} (hr : Real2 K r k) {Q : L2.VK} (h : lift K (dOp k ta tb) σ H Q) : L2.tOp r (lift K ta) (lift K tb) σ H Q := by
  obtain ⟨f, ρ, st, Q', R, h, l⟩ := h
  refine ⟨f, ρ, st, _, R, h, fun x st1 v f1 H1 h1 e1 s1 r1 => ⟨f1, ρ, st1, _, R.later e1 s1, h1, fun y st2 w f2 H2 h2 e2 s2 r2 => ?_⟩⟩
  exact hr f2 st2 H2 x y v w Q' Q s2 (r1.mono e2) r2 h2 (l.later (e1.trans e2))
section
variable {a b c : Expr} {ta tb tc : TE} {pos : Pos}
theorem pd_op {op : Operator} {r : L2.R2} {k : K2} (ho : L2.OpR X (binaryOp op) r) (hr : Real2 X.K r k) (ha : PD X a ta) (hb : PD X b tb) : PD X (.BinOp a op b pos) (dOp k ta tb) :=
  pe_imp (L2.pe_op ho ha hb) fun σ H Q h => two_imp hr h
theorem pd_un {op : UnaryOp} {r : L2.V → Hp → L2.VK → Prop} {k : D → Store → Pd.K → Prop} (ho : L2.UnR X (unaryOp op) r) (hr : Real1 X.K r k) (ha : PD X a ta) : PD X (.UnaryOp op a pos) (dUn k ta) := by
  refine pe_imp (L2.pe_un ho ha) fun σ H Q ⟨f, ρ, st, Q', R, h, l⟩ => ?_
  exact ⟨f, ρ, st, _, R, h, fun x st1 v f1 H1 h1 e1 s1 r1 => hr f1 st1 H1 x v Q' Q s1 r1 h1 (l.later e1)⟩
end
theorem real_int {g : Int → Int → Int} {C : Int → Int → Prop} {k : K2} (hk : ∀ x y st Q, k x y st Q → ∃ i j, x = .int i ∧ y = .int j ∧ C i j ∧ Q (.int (g i j)) st) : Real2 K (L2.rI C fun i j => .int (g i j)) k := by
  intro f st H x y v w Q' Q s r1 r2 h l
  obtain ⟨i, j, rfl, rfl, hc, q⟩ := hk x y st Q' h
  rw [RD.int] at r1 r2
  exact ⟨i, j, r1, r2, hc, l.now s q (RD.int.mpr rfl)⟩
theorem real_int0 {g : Int → Int → Int} {k : K2} (hk : ∀ x y st Q, k x y st Q → ∃ i j, x = .int i ∧ y = .int j ∧ Q (.int (g i j)) st) : Real2 K (L2.rI0 fun i j => .int (g i j)) k := by
  intro f st H x y v w Q' Q s r1 r2 h l
  obtain ⟨i, j, rfl, rfl, q⟩ := hk x y st Q' h
  rw [RD.int] at r1 r2
  exact ⟨i, j, r1, r2, l.now s q (RD.int.mpr rfl)⟩
/-- + -/
def rAdd (K : Kf) : L2.R2 := fun x y H Q => (∃ i j, x = .int i ∧ y = .int j ∧ Q (.int (i + j)) H) ∨ (∃ i j, x = .str i ∧ y = .str j ∧ i.length + j.length ≤ sizeLine ∧ Q (.str (i ++ j)) H) ∨ L2.rCatA K x y H Q ∨ L2.rCat x y H Q
theorem op_addA : L2.OpR X (binaryOp .Add) (rAdd X.K) := (L2.op_add (X := X)).or (L2.op_add_str.or (L2.op_catA.or L2.op_cat))
theorem RDs.isNil {ds : List D} {vs : List L2.V} (h : RDs K f H ds vs) : ds = [] ↔ vs = [] := by
  have := h.length
  constructor
  · rintro rfl; exact List.length_eq_zero_iff.mp (by simpa using this)
  · rintro rfl; exact List.length_eq_zero_iff.mp (by simpa using this.symm)
theorem real_add : Real2 K (rAdd K) addK := by
  intro f st H x y v w Q' Q s r1 r2 h l
  cases x <;> cases y <;> try (exact h.elim)
  · rw [RD.int] at r1 r2
    exact .inl ⟨_, _, r1, r2, l.now s h (RD.int.mpr rfl)⟩
  · rw [RD.str] at r1 r2
    obtain ⟨h1, h2⟩ := h
    exact .inr (.inl ⟨_, _, r1, r2, by rw [← szl_eq]; exact h1, l.now s h2 (RD.str.mpr rfl)⟩)
  · rw [RD.tup] at r1 r2
    obtain ⟨a, vs, rfl, t1, d1⟩ := r1
    obtain ⟨b, ws, rfl, t2, d2⟩ := r2
    obtain ⟨h1, h2⟩ := h
    refine .inr (.inr (.inl ⟨a, b, vs, ws, rfl, rfl, t1, t2, by rw [d1.length, d2.length, ← szl_eq]; exact h1, fun e => ?_, fun _ e => ?_, fun _ _ p hp => ?_⟩))
    · have e' := d1.isNil.mpr e
      subst e'
      exact l.now s h2 (RD.tup.mpr ⟨b, ws, rfl, t2, d2⟩)
    · have e' := d2.isNil.mpr e
      subst e'
      rw [List.append_nil] at h2
      exact l.now s h2 (RD.tup.mpr ⟨a, vs, rfl, t1, d1⟩)
    · exact l.tup s h2 (d1.append d2) hp
  · rw [RD.ref] at r1 r2
    obtain ⟨a, e1, rfl⟩ := r1
    obtain ⟨b, e2, rfl⟩ := r2
    obtain ⟨xs, ys, h1, h2, h3, h4⟩ := h
    obtain ⟨a', vs, g1, g2, g3⟩ := s.rdL h1
    obtain ⟨b', ws, k1, k2, k3⟩ := s.rdL h2
    rw [e1] at g1; cases g1
    rw [e2] at k1; cases k1
    exact .inr (.inr (.inr ⟨a, b, vs, ws, rfl, rfl, g2, k2, by rw [g3.length, k3.length, ← szl_eq]; exact h3, fun p hp => l.lst s h4 (g3.append k3) hp⟩))
theorem real_sub : Real2 K (L2.rI0 fun i j => .int (i - j)) subK := real_int0 fun x y st Q h => by
  cases x <;> cases y <;> first | exact h.elim | exact ⟨_, _, rfl, rfl, h⟩
def rMul : L2.R2 := fun x y H Q => L2.rI L2.CMul (fun i j => .int (i * j)) x y H Q ∨ L2.rRep x y H Q
theorem op_mulA : L2.OpR X (binaryOp .Mult) rMul := (L2.op_mul (X := X)).or L2.op_rep
theorem RDs.rep {ds : List D} {vs : List L2.V} (h : RDs K f H ds vs) : ∀ n : Nat, RDs K f H (List.replicate n ds).flatten (List.replicate n vs).flatten
  | 0 => by simp [RDs.nil]
  | n + 1 => by
    rw [List.replicate_succ, List.replicate_succ, List.flatten_cons, List.flatten_cons]
    exact h.append (RDs.rep h n)
theorem real_mul : Real2 K rMul mulK := by
  intro f st H x y v w Q' Q s r1 r2 h l
  cases x <;> cases y <;> try (exact h.elim)
  · rw [RD.int] at r1 r2
    obtain ⟨h1, h2⟩ := h
    exact .inl ⟨_, _, r1, r2, h1, l.now s h2 (RD.int.mpr rfl)⟩
  · rw [RD.ref] at r1
    rw [RD.int] at r2
    obtain ⟨a, e1, rfl⟩ := r1
    obtain ⟨xs, h1, h2, h3, h4, h5⟩ := h
    obtain ⟨a', vs, g1, g2, g3⟩ := s.rdL h1
    rw [e1] at g1; cases g1
    exact .inr ⟨a, _, vs, rfl, r2, g2, h2, h3, by rw [g3.length, ← szl_eq]; exact h4, fun p hp => l.lst s h5 (g3.rep _) hp⟩
theorem real_fdiv : Real2 K (L2.rI L2.CDiv fun i j => .int (i / j)) fdivK := real_int fun x y st Q h => by
  cases x <;> cases y <;> first | exact h.elim | exact ⟨_, _, rfl, rfl, h⟩
theorem real_mod : Real2 K (L2.rI (fun _ j => 0 < j) fun i j => .int (i % j)) modK := real_int fun x y st Q h => by
  cases x <;> cases y <;> first | exact h.elim | exact ⟨_, _, rfl, rfl, h⟩
theorem real_pow : Real2 K (L2.rI L2.CPow fun i j => .int (i ^ j.toNat)) powK := real_int fun x y st Q h => by
  cases x <;> cases y <;> first | exact h.elim | exact ⟨_, _, rfl, rfl, h⟩
theorem real_shl : Real2 K (L2.rI L2.CPow fun i j => .int (i * 2 ^ j.toNat)) shlK := real_int fun x y st Q h => by
  cases x <;> cases y <;> first | exact h.elim | exact ⟨_, _, rfl, rfl, h⟩
theorem real_shr : Real2 K (L2.rI (fun _ j => 0 ≤ j) fun i j => .int (i / 2 ^ j.toNat)) shrK := real_int fun x y st Q h => by
  cases x <;> cases y <;> first | exact h.elim | exact ⟨_, _, rfl, rfl, h⟩
theorem real_and : Real2 K (L2.rI0 fun i j => .int (Builtin.bitAnd i j)) andK := real_int0 fun x y st Q h => by
  cases x <;> cases y <;> first | exact h.elim | exact ⟨_, _, rfl, rfl, h⟩
theorem real_or : Real2 K (L2.rI0 fun i j => .int (Builtin.bitOr i j)) orK := real_int0 fun x y st Q h => by
  cases x <;> cases y <;> first | exact h.elim | exact ⟨_, _, rfl, rfl, h⟩
theorem real_xor : Real2 K (L2.rI0 fun i j => .int (Builtin.bitXor i j)) xorK := real_int0 fun x y st Q h => by
  cases x <;> cases y <;> first | exact h.elim | exact ⟨_, _, rfl, rfl, h⟩
theorem real_neg : Real1 K (L2.rU fun i => .int (-i)) negK := by
  intro f st H x v Q' Q s r1 h l
  cases x <;> try (exact h.elim)
  rw [RD.int] at r1
  exact ⟨_, r1, l.now s h (RD.int.mpr rfl)⟩
theorem real_inv : Real1 K (L2.rU fun i => .int (Builtin.bitNot i)) invK := by
  intro f st H x v Q' Q s r1 h l
  cases x <;> try (exact h.elim)
  rw [RD.int] at r1
  exact ⟨_, r1, l.now s h (RD.int.mpr rfl)⟩
section
variable {a b c : Expr} {ta tb tc : TE} {pos : Pos}
theorem pd_add (ha : PD X a ta) (hb : PD X b tb) : PD X (.BinOp a .Add b pos) (dOp addK ta tb) := pd_op op_addA real_add ha hb
theorem pd_sub (ha : PD X a ta) (hb : PD X b tb) : PD X (.BinOp a .Sub b pos) (dOp subK ta tb) := pd_op L2.op_sub real_sub ha hb
theorem pd_mul (ha : PD X a ta) (hb : PD X b tb) : PD X (.BinOp a .Mult b pos) (dOp mulK ta tb) := pd_op op_mulA real_mul ha hb
theorem pd_fdiv (ha : PD X a ta) (hb : PD X b tb) : PD X (.BinOp a .FloorDiv b pos) (dOp fdivK ta tb) := pd_op L2.op_fdiv real_fdiv ha hb
theorem pd_mod (ha : PD X a ta) (hb : PD X b tb) : PD X (.BinOp a .Mod b pos) (dOp modK ta tb) := pd_op L2.op_mod real_mod ha hb
theorem pd_pow (ha : PD X a ta) (hb : PD X b tb) : PD X (.BinOp a .Pow b pos) (dOp powK ta tb) := pd_op L2.op_pow real_pow ha hb
theorem pd_shl (ha : PD X a ta) (hb : PD X b tb) : PD X (.BinOp a .LShift b pos) (dOp shlK ta tb) := pd_op L2.op_shl real_shl ha hb
theorem pd_shr (ha : PD X a ta) (hb : PD X b tb) : PD X (.BinOp a .RShift b pos) (dOp shrK ta tb) := pd_op L2.op_shr real_shr ha hb
theorem pd_and (ha : PD X a ta) (hb : PD X b tb) : PD X (.BinOp a .BitAnd b pos) (dOp andK ta tb) := pd_op L2.op_and real_and ha hb
theorem pd_or (ha : PD X a ta) (hb : PD X b tb) : PD X (.BinOp a .BitOr b pos) (dOp orK ta tb) := pd_op L2.op_or real_or ha hb
theorem pd_xor (ha : PD X a ta) (hb : PD X b tb) : PD X (.BinOp a .BitXor b pos) (dOp xorK ta tb) := pd_op L2.op_xor real_xor ha hb
theorem pd_neg (ha : PD X a ta) : PD X (.UnaryOp .USub a pos) (dUn negK ta) := pd_un L2.un_neg real_neg ha
theorem pd_inv (ha : PD X a ta) : PD X (.UnaryOp .Invert a pos) (dUn invK ta) := pd_un L2.un_inv real_inv ha
end

/-! ### comparisons -/
mutual
def toP : D → PyData
  | .non => .none
  | .bl b => .bool b
  | .int i => .int i
  | .str x => .str x
  | .tup xs => .tuple (toPs xs)
  | .ref _ => .none
def toPs : List D → List PyData
  | [] => []
  | x :: xs => toP x :: toPs xs
end
theorem strOk_of {x : Str} (h : okS x = true) : PyData.strOk x = true := by
  unfold okS at h
  unfold PyData.strOk
  rw [← Array.all_toList]
  exact h
mutual
theorem toP_dp {n : Nat} : ∀ (d : D) {v : L2.V}, D.okd n d = true → RD K f H d v → L2.Dp K H v (toP d)
  | .non, _, _, h => by rw [RD.non] at h; subst h; exact .non
  | .bl b, _, _, h => by rw [RD.bl] at h; subst h; exact .bl b
  | .int i, _, _, h => by rw [RD.int] at h; subst h; exact .int i
  | .str x, _, _, h => by rw [RD.str] at h; subst h; exact .str x
  | .ref _, _, ok, h => by simp [D.okd] at ok
  | .tup xs, _, ok, h => by
    cases n with
    | zero => simp [D.okd] at ok
    | succ n =>
      rw [RD.tup] at h
      obtain ⟨a, vs, rfl, h1, h2⟩ := h
      exact .tup h1 (toPs_dp xs (n := n) (by simpa [D.okd] using ok) h2)
theorem toPs_dp {n : Nat} : ∀ (ds : List D) {vs : List L2.V}, okds n ds = true → RDs K f H ds vs → L2.DpAll K H vs (toPs ds)
  | [], _, _, h => by rw [RDs.nil] at h; subst h; exact .nil
  | d :: ds, _, ok, h => by
    rw [RDs.cons] at h
    obtain ⟨v, r, rfl, h1, h2⟩ := h
    have ok' : D.okd n d = true ∧ okds n ds = true := by simpa [okds] using ok
    exact .cons (toP_dp d ok'.1 h1) (toPs_dp ds ok'.2 h2)
end
mutual
theorem toP_ok {n : Nat} : ∀ (d : D), D.okd n d = true → (toP d).canLay0 = true ∧ (toP d).depth ≤ n
  | .non, _ => by simp [toP, PyData.canLay0, PyData.depth]
  | .bl b, _ => by simp [toP, PyData.canLay0, PyData.depth]
  | .int i, _ => by simp [toP, PyData.canLay0, PyData.depth]
  | .str x, ok => by
    have : okS x = true := by simpa [D.okd] using ok
    simp [toP, PyData.canLay0, PyData.depth, strOk_of this]
  | .ref _, ok => by simp [D.okd] at ok
  | .tup xs, ok => by
    cases n with
    | zero => simp [D.okd] at ok
    | succ n =>
      obtain ⟨h1, h2⟩ := toPs_ok xs (n := n) (by simpa [D.okd] using ok)
      simp [toP, PyData.canLay0, PyData.depth, h1, h2]
theorem toPs_ok {n : Nat} : ∀ (ds : List D), okds n ds = true → PyData.canLayAll0 (toPs ds) = true ∧ PyData.depthAll (toPs ds) ≤ n
  | [], _ => by simp [toPs, PyData.canLayAll0, PyData.depthAll]
  | d :: ds, ok => by
    have ok' : D.okd n d = true ∧ okds n ds = true := by simpa [okds] using ok
    obtain ⟨h1, h2⟩ := toP_ok d ok'.1
    obtain ⟨h3, h4⟩ := toPs_ok ds ok'.2
    simp [toPs, PyData.canLayAll0, PyData.depthAll, h1, h3]
    omega
end
theorem shaped_of {d : D} (h : D.okd 60 d = true) : SeqAt.shaped (toP d) = true := by
  obtain ⟨h1, h2⟩ := toP_ok d h
  unfold SeqAt.shaped
  rw [h1, decide_eq_true (by omega)]
  rfl
theorem shaped_ofs {ds : List D} (h : okds 60 ds = true) : SeqAt.shaped (.list (toPs ds)) = true := by
  obtain ⟨h1, h2⟩ := toPs_ok ds h
  have e1 : (PyData.list (toPs ds)).canLay0 = true := by simpa [PyData.canLay0] using h1
  have e2 : (PyData.list (toPs ds)).depth = PyData.depthAll (toPs ds) + 1 := by simp [PyData.depth]
  unfold SeqAt.shaped
  rw [e1, e2, decide_eq_true (by omega)]
  rfl
mutual
theorem toP_eqv {n m : Nat} : ∀ (d e : D), D.okd n d = true → D.okd m e = true → PyData.eqv (toP d) (toP e) = D.eqb d e
  | .tup xs, .tup ys, h1, h2 => by
    cases n with
    | zero => simp [D.okd] at h1
    | succ n =>
      cases m with
      | zero => simp [D.okd] at h2
      | succ m => simpa [toP, PyData.eqv, D.eqb] using toPs_eqv xs ys (n := n) (m := m) (by simpa [D.okd] using h1) (by simpa [D.okd] using h2)
  | .ref _, _, h1, _ => by simp [D.okd] at h1
  | d, .ref _, _, h2 => by simp [D.okd] at h2
  | .non, .non, _, _ => by simp [toP, PyData.eqv, D.eqb]
  | .non, .bl _, _, _ => by simp [toP, PyData.eqv, D.eqb]
  | .non, .int _, _, _ => by simp [toP, PyData.eqv, D.eqb]
  | .non, .str _, _, _ => by simp [toP, PyData.eqv, D.eqb]
  | .non, .tup _, _, _ => by simp [toP, PyData.eqv, D.eqb]
  | .bl _, .non, _, _ => by simp [toP, PyData.eqv, D.eqb]
  | .bl _, .bl _, _, _ => by simp [toP, PyData.eqv, D.eqb]
  | .bl b, .int _, _, _ => by cases b <;> simp [toP, PyData.eqv, D.eqb, b2i]
  | .bl _, .str _, _, _ => by simp [toP, PyData.eqv, D.eqb]
  | .bl _, .tup _, _, _ => by simp [toP, PyData.eqv, D.eqb]
  | .int _, .non, _, _ => by simp [toP, PyData.eqv, D.eqb]
  | .int _, .bl b, _, _ => by cases b <;> simp [toP, PyData.eqv, D.eqb, b2i]
  | .int _, .int _, _, _ => by simp [toP, PyData.eqv, D.eqb]
  | .int _, .str _, _, _ => by simp [toP, PyData.eqv, D.eqb]
  | .int _, .tup _, _, _ => by simp [toP, PyData.eqv, D.eqb]
  | .str _, .non, _, _ => by simp [toP, PyData.eqv, D.eqb]
  | .str _, .bl _, _, _ => by simp [toP, PyData.eqv, D.eqb]
  | .str _, .int _, _, _ => by simp [toP, PyData.eqv, D.eqb]
  | .str x, .str y, _, _ => by simp only [toP, PyData.eqv, D.eqb]; by_cases h : x = y <;> simp [h]
  | .str _, .tup _, _, _ => by simp [toP, PyData.eqv, D.eqb]
  | .tup _, .non, _, _ => by simp [toP, PyData.eqv, D.eqb]
  | .tup _, .bl _, _, _ => by simp [toP, PyData.eqv, D.eqb]
  | .tup _, .int _, _, _ => by simp [toP, PyData.eqv, D.eqb]
  | .tup _, .str _, _, _ => by simp [toP, PyData.eqv, D.eqb]
theorem toPs_eqv {n m : Nat} : ∀ (ds es : List D), okds n ds = true → okds m es = true → PyData.eqvAll (toPs ds) (toPs es) = eqbs ds es
  | [], [], _, _ => by simp [toPs, PyData.eqvAll, eqbs]
  | [], _ :: _, _, _ => by simp [toPs, PyData.eqvAll, eqbs]
  | _ :: _, [], _, _ => by simp [toPs, PyData.eqvAll, eqbs]
  | d :: ds, e :: es, h1, h2 => by
    have ok1 : D.okd n d = true ∧ okds n ds = true := by simpa [okds] using h1
    have ok2 : D.okd m e = true ∧ okds m es = true := by simpa [okds] using h2
    simp [toPs, PyData.eqvAll, eqbs, toP_eqv d e ok1.1 ok2.1, toPs_eqv ds es ok1.2 ok2.2]
end
/-- a comparison's rule against the data-level one -/
def RealC (K : Kf) (r : L2.R2) (k : KC) : Prop := ∀ (f : List Addr) (st : Store) (H : Hp) (x y : D) (v w : L2.V) (Q' : Bool → Prop) (Q : L2.VK), RelS K f st H → RD K f H x v → RD K f H y w → k x y st Q' → (∀ b, Q' b → Q (.bl b) H) → r v w H Q
theorem RealC.real {r : L2.R2} {k : KC} (h : RealC K r k) : Real2 K r fun x y st Q => k x y st fun b => Q (.bl b) st := fun f st H x y v w Q' Q s r1 r2 hk l =>
  h f st H x y v w _ Q s r1 r2 hk fun b q => l.now s q (RD.bl.mpr rfl)
theorem eqC_dp {x y : D} {v w : L2.V} {Q' : Bool → Prop} (s : RelS K f st H) (r1 : RD K f H x v) (r2 : RD K f H y w) (h : eqC x y st Q') :
    ∃ d e, L2.Dp K H v d ∧ L2.Dp K H w e ∧ SeqAt.shaped d = true ∧ SeqAt.shaped e = true ∧ Q' (PyData.eqv d e) := by
  have lst : ∀ {n : Nat} {xs : List D} {u : L2.V}, rdA st n xs → okds 60 xs = true → RD K f H (.ref n) u → L2.Dp K H u (.list (toPs xs)) := fun {n xs u} h1 h2 h3 => by
    rw [RD.ref] at h3
    obtain ⟨a, e1, rfl⟩ := h3
    obtain ⟨a', vs, g1, g2, g3⟩ := s.rdA h1
    rw [e1] at g1; cases g1
    exact .lst g2 (toPs_dp xs h2 g3)
  have pur : ∀ {x y : D} {v w : L2.V}, RD K f H x v → RD K f H y w → (D.okd 60 x = true ∧ D.okd 60 y = true ∧ Q' (D.eqb x y)) → ∃ d e, L2.Dp K H v d ∧ L2.Dp K H w e ∧ SeqAt.shaped d = true ∧ SeqAt.shaped e = true ∧ Q' (PyData.eqv d e) := fun {x y v w} r1 r2 ⟨h1, h2, h3⟩ =>
    ⟨toP x, toP y, toP_dp x h1 r1, toP_dp y h2 r2, shaped_of h1, shaped_of h2, by rw [toP_eqv x y h1 h2]; exact h3⟩
  have lefts : ∀ {n : Nat} {xs : List D} {y : D}, (∀ m, y ≠ .ref m) → rdA st n xs → okds 60 xs = true → D.okd 60 y = true → Q' false → RD K f H (.ref n) v → RD K f H y w → ∃ d e, L2.Dp K H v d ∧ L2.Dp K H w e ∧ SeqAt.shaped d = true ∧ SeqAt.shaped e = true ∧ Q' (PyData.eqv d e) := fun {n xs y} hy h1 h2 h3 h4 r1 r2 =>
    ⟨_, toP y, lst h1 h2 r1, toP_dp y h3 r2, shaped_ofs h2, shaped_of h3, by
      have : PyData.eqv (.list (toPs xs)) (toP y) = false := by
        cases y <;> first | exact absurd rfl (hy _) | simp [toP, PyData.eqv]
      rw [this]; exact h4⟩
  have rights : ∀ {n : Nat} {xs : List D} {x : D}, (∀ m, x ≠ .ref m) → rdA st n xs → okds 60 xs = true → D.okd 60 x = true → Q' false → RD K f H x v → RD K f H (.ref n) w → ∃ d e, L2.Dp K H v d ∧ L2.Dp K H w e ∧ SeqAt.shaped d = true ∧ SeqAt.shaped e = true ∧ Q' (PyData.eqv d e) := fun {n xs x} hy h1 h2 h3 h4 r1 r2 =>
    ⟨toP x, _, toP_dp x h3 r1, lst h1 h2 r2, shaped_of h3, shaped_ofs h2, by
      have : PyData.eqv (toP x) (.list (toPs xs)) = false := by
        cases x <;> first | exact absurd rfl (hy _) | simp [toP, PyData.eqv]
      rw [this]; exact h4⟩
  by_cases hx : ∃ m, x = .ref m
  · obtain ⟨m, rfl⟩ := hx
    by_cases hy : ∃ n, y = .ref n
    · obtain ⟨n, rfl⟩ := hy
      obtain ⟨xs, ys, h1, h2, h3, h4, h5⟩ := h
      exact ⟨_, _, lst h1 h3 r1, lst h2 h4 r2, shaped_ofs h3, shaped_ofs h4, by rw [show PyData.eqv (.list (toPs xs)) (.list (toPs ys)) = PyData.eqvAll (toPs xs) (toPs ys) by simp [PyData.eqv], toPs_eqv xs ys h3 h4]; exact h5⟩
    · have h' : ∃ xs, rdA st m xs ∧ okds 60 xs = true ∧ D.okd 60 y = true ∧ Q' false := by
        cases y <;> first | exact h | exact absurd ⟨_, rfl⟩ hy
      obtain ⟨xs, h1, h2, h3, h4⟩ := h'
      exact lefts (fun k e => hy ⟨k, e⟩) h1 h2 h3 h4 r1 r2
  · by_cases hy : ∃ n, y = .ref n
    · obtain ⟨n, rfl⟩ := hy
      have h' : ∃ ys, rdA st n ys ∧ okds 60 ys = true ∧ D.okd 60 x = true ∧ Q' false := by
        cases x <;> first | exact h | exact absurd ⟨_, rfl⟩ hx
      obtain ⟨xs, h1, h2, h3, h4⟩ := h'
      exact rights (fun k e => hx ⟨k, e⟩) h1 h2 h3 h4 r1 r2
    · exact pur r1 r2 (by cases x <;> cases y <;> first | exact h | exact absurd ⟨_, rfl⟩ hx | exact absurd ⟨_, rfl⟩ hy)
theorem real_eq : RealC K (L2.rEqD K) eqC := fun f st H x y v w Q' Q s r1 r2 h l => by
  obtain ⟨d, e, h1, h2, h3, h4, h5⟩ := eqC_dp s r1 r2 h
  exact ⟨d, e, h1, h2, h3, h4, l _ h5⟩
theorem real_ne : RealC K (L2.rNeD K) neC := fun f st H x y v w Q' Q s r1 r2 h l => by
  obtain ⟨d, e, h1, h2, h3, h4, h5⟩ := eqC_dp s r1 r2 h
  exact ⟨d, e, h1, h2, h3, h4, l _ h5⟩
theorem real_cmp {g : Int → Int → Bool} {k : KC} (hk : ∀ x y st Q, k x y st Q → ∃ i j, x = .int i ∧ y = .int j ∧ Q (g i j)) : RealC K (L2.rI0 fun i j => .bl (g i j)) k := by
  intro f st H x y v w Q' Q s r1 r2 h l
  obtain ⟨i, j, rfl, rfl, q⟩ := hk x y st Q' h
  rw [RD.int] at r1 r2
  exact ⟨i, j, r1, r2, l _ q⟩
theorem real_lt : RealC K (L2.rI0 fun i j => .bl (decide (i < j))) ltC := real_cmp fun x y st Q h => by
  cases x <;> cases y <;> first | exact h.elim | exact ⟨_, _, rfl, rfl, h⟩
theorem real_le : RealC K (L2.rI0 fun i j => .bl (decide (i ≤ j))) leC := real_cmp fun x y st Q h => by
  cases x <;> cases y <;> first | exact h.elim | exact ⟨_, _, rfl, rfl, h⟩
theorem real_gt : RealC K (L2.rI0 fun i j => .bl (decide (j < i))) gtC := real_cmp fun x y st Q h => by
  cases x <;> cases y <;> first | exact h.elim | exact ⟨_, _, rfl, rfl, h⟩
theorem real_ge : RealC K (L2.rI0 fun i j => .bl (decide (j ≤ i))) geC := real_cmp fun x y st Q h => by
  cases x <;> cases y <;> first | exact h.elim | exact ⟨_, _, rfl, rfl, h⟩
theorem RD.isNon {x : D} {v : L2.V} (h : RD K f H x v) : decide (v = .non) = isNon x := by
  cases x with
  | non => rw [RD.non] at h; subst h; rfl
  | bl b => rw [RD.bl] at h; subst h; rfl
  | int i => rw [RD.int] at h; subst h; rfl
  | str y => rw [RD.str] at h; subst h; rfl
  | tup ds => rw [RD.tup] at h; obtain ⟨a, vs, rfl, _⟩ := h; rfl
  | ref n => rw [RD.ref] at h; obtain ⟨a, _, rfl⟩ := h; rfl
theorem real_is : RealC K (fun x y H Q => y = .non ∧ Q (.bl (decide (x = .non))) H) isC := fun f st H x y v w Q' Q s r1 r2 h l => by
  cases y <;> try (cases x <;> exact h.elim)
  rw [RD.non] at r2
  have h' : Q' (isNon x) := by cases x <;> exact h
  exact ⟨r2, by rw [r1.isNon]; exact l _ h'⟩
theorem real_isnt : RealC K (fun x y H Q => y = .non ∧ Q (.bl (!decide (x = .non))) H) isntC := fun f st H x y v w Q' Q s r1 r2 h l => by
  cases y <;> try (cases x <;> exact h.elim)
  rw [RD.non] at r2
  have h' : Q' (!isNon x) := by cases x <;> exact h
  exact ⟨r2, by rw [r1.isNon]; exact l _ h'⟩
theorem RD.flatV {x : D} {v : L2.V} (h : RD K f H x v) (hf : x.flat = true) : L2.flatV v = true := by
  cases x with
  | non => rw [RD.non] at h; subst h; rfl
  | bl b => rw [RD.bl] at h; subst h; rfl
  | int i => rw [RD.int] at h; subst h; rfl
  | str y => rw [RD.str] at h; subst h; rfl
  | tup ds => cases hf
  | ref n => cases hf
theorem RDs.flatV : ∀ {xs : List D} {vs : List L2.V}, RDs K f H xs vs → xs.all D.flat = true → vs.all L2.flatV = true
  | [], _, h, _ => by rw [RDs.nil] at h; subst h; rfl
  | x :: xs, _, h, hf => by
    rw [RDs.cons] at h
    obtain ⟨v, r, rfl, h1, h2⟩ := h
    have hf' : x.flat = true ∧ xs.all D.flat = true := by simpa using hf
    rw [List.all_cons, h1.flatV hf'.1, RDs.flatV h2 hf'.2]; rfl
end
end Pd
end PartPdSoundB

section PartPdSoundC
set_option Elab.async false
set_option linter.all false
set_option maxRecDepth 100000
set_option maxHeartbeats 1000000
/-! Pd over the hand layer: tests, items, slices, calls, built-ins. Own work. -/
namespace Pd
open PySem PySem.Spec
section
variable {X : L2.Cx} {K : Kf} {f f' : List Addr} {H H' : Hp} {st st' : Store} {ρ : Env} {σ : L2.St}
theorem b2i_eq (b : Bool) : b2i b = (if b then 1 else 0) := rfl
theorem RD.eqV {x y : D} {v w : L2.V} (h : RD K f H x v) (h' : RD K f H y w) (hx : x.flat = true) (hy : y.flat = true) : L2.eqV v w = D.eqb x y := by
  cases x <;> cases y <;> first | (exfalso; revert hx; simp [D.flat]; done) | (exfalso; revert hy; simp [D.flat]; done) | skip
  all_goals (simp only [RD.non, RD.bl, RD.int, RD.str] at h h'; subst h; subst h'; simp [L2.eqV, D.eqb, b2i])
  rename_i s t
  by_cases e : s = t <;> simp [e]
theorem RDs.inV {y : D} {w : L2.V} (h' : RD K f H y w) (hy : y.flat = true) : ∀ {xs : List D} {vs : List L2.V}, RDs K f H xs vs → xs.all D.flat = true → L2.inV w vs = xs.any fun x => D.eqb x y
  | [], _, h, _ => by rw [RDs.nil] at h; subst h; rfl
  | x :: xs, _, h, hf => by
    rw [RDs.cons] at h
    obtain ⟨v, r, rfl, h1, h2⟩ := h
    have hf' : x.flat = true ∧ xs.all D.flat = true := by simpa using hf
    have ih := RDs.inV h' hy h2 hf'.2
    unfold L2.inV at ih ⊢
    rw [List.any_cons, List.any_cons, ih, h1.eqV h' hf'.1 hy]
theorem real_in (neg : Bool) : RealC K (L2.rIn K neg) (fun x y st Q => inC x y st fun b => Q (if neg then !b else b)) := fun f st H x y v w Q' Q s r1 r2 h l => by
  cases y <;> try (exact h.elim)
  · rw [RD.tup] at r2
    obtain ⟨a, vs, rfl, t, d⟩ := r2
    obtain ⟨h1, h2, h3⟩ := h
    refine ⟨a, vs, rfl, .inr t, r1.flatV h1, d.flatV h2, ?_⟩
    rw [RDs.inV r1 h1 d h2]
    exact l _ h3
  · rw [RD.ref] at r2
    obtain ⟨a, e, rfl⟩ := r2
    obtain ⟨xs, h0, h1, h2, h3⟩ := h
    obtain ⟨a', vs, g1, g2, g3⟩ := s.rdA h0
    rw [e] at g1; cases g1
    refine ⟨a, vs, rfl, .inl g2, r1.flatV h1, g3.flatV h2, ?_⟩
    rw [RDs.inV r1 h1 g3 h2]
    exact l _ h3
section
variable {a b c : Expr} {ta tb tc : TE} {pos : Pos}
theorem pd_cmp {op : CmpOp} {r : L2.R2} {k : KC} (ho : L2.OpR X (compareOp op) r) (hr : RealC X.K r k) (hm : behindInMarks op b = false) (ha : PD X a ta) (hb : PD X b tb) : PD X (.Compare a [op] [b] pos) (dCmp k ta tb) :=
  pe_imp (L2.pe_cmpR ho ha hb hm) fun σ H Q h => two_imp hr.real h
theorem pt_cmp {op : CmpOp} {r : L2.R2} {k : KC} (ho : L2.OpR X (compareOp op) r) (hr : RealC X.K r k) (hm : behindInMarks op b = false) (ha : PD X a ta) (hb : PD X b tb) : PDT X (.Compare a [op] [b] pos) (tTru (dCmp k ta tb)) := by
  refine pt_imp (L2.pt_cmpR ho ha hb hm) fun σ H Q ⟨f, ρ, st, Q', R, h, l⟩ => ?_
  refine ⟨f, ρ, st, _, R, h, fun x st1 v f1 H1 h1 e1 s1 r1 => ⟨f1, ρ, st1, _, R.later e1 s1, h1, fun y st2 w f2 H2 h2 e2 s2 r2 => ?_⟩⟩
  exact hr f2 st2 H2 x y v w (fun b => Q' b st2) _ s2 (r1.mono e2) r2 h2 fun b q => ⟨b, rfl, l b st2 f2 H2 q (e1.trans e2) s2⟩
theorem chain_core {r r' : L2.R2} {k k' : KC} (hr : RealC K r k) (hr' : RealC K r' k') {Q' : Bool → Store → Prop} {Q : L2.VK} {f : List Addr} {ρ : Env} {st : Store}
    (R : Rel K f ρ st σ H) (h : ta ρ st fun x st1 => tb ρ st1 fun y st2 => k x y st2 fun b => (b = true → tc ρ st2 fun z st3 => k' y z st3 fun b' => Q' b' st3) ∧ (b = false → Q' false st2))
    (l : ∀ b st' f' H', Q' b st' → Ext K f H f' H' → RelS K f' st' H' → Q (.bl b) H') : L2.tChain r r' (lift K ta) (lift K tb) (lift K tc) σ H Q := by
  refine ⟨f, ρ, st, _, R, h, fun x st1 v f1 H1 h1 e1 s1 r1 => ⟨f1, ρ, st1, _, R.later e1 s1, h1, fun y st2 w f2 H2 h2 e2 s2 r2 => ?_⟩⟩
  refine hr f2 st2 H2 x y v w _ _ s2 (r1.mono e2) r2 h2 fun b q => ⟨b, rfl, ?_⟩
  cases b with
  | false => exact l false st2 f2 H2 (q.2 rfl) (e1.trans e2) s2
  | true => exact ⟨f2, ρ, st2, _, R.later (e1.trans e2) s2, q.1 rfl, fun z st3 u f3 H3 h3 e3 s3 r3 => hr' f3 st3 H3 y z w u (fun b' => Q' b' st3) _ s3 (r2.mono e3) r3 h3 fun b' q' => l b' st3 f3 H3 q' ((e1.trans e2).trans e3) s3⟩
theorem pd_chain {op op' : CmpOp} {r r' : L2.R2} {k k' : KC} (ho : L2.OpR X (compareOp op) r) (hr : RealC X.K r k) (ho' : L2.OpR X (compareOp op') r') (hr' : RealC X.K r' k') (ha : PD X a ta) (hb : PD X b tb) (hc : PD X c tc)
    (hm : lastMarks [op, op'] [b, c] = false := by with_unfolding_all rfl) : PD X (.Compare a [op, op'] [b, c] pos) (dChain k k' ta tb tc) := by
  refine pe_imp (L2.pe_chain ho ho' ha hb hc hm) fun σ H Q ⟨f, ρ, st, Q', R, h, l⟩ => ?_
  exact chain_core hr hr' (Q' := fun b st => Q' (.bl b) st) R h fun b st' f' H' q e s => l (.bl b) st' _ f' H' q e s (RD.bl.mpr rfl)
theorem pt_chain {op op' : CmpOp} {r r' : L2.R2} {k k' : KC} (ho : L2.OpR X (compareOp op) r) (hr : RealC X.K r k) (ho' : L2.OpR X (compareOp op') r') (hr' : RealC X.K r' k') (ha : PD X a ta) (hb : PD X b tb) (hc : PD X c tc)
    (hm : lastMarks [op, op'] [b, c] = false := by with_unfolding_all rfl) : PDT X (.Compare a [op, op'] [b, c] pos) (tTru (dChain k k' ta tb tc)) := by
  refine pt_imp (L2.pt_chain ho ho' ha hb hc hm) fun σ H Q ⟨f, ρ, st, Q', R, h, l⟩ => ?_
  exact chain_core (Q := fun x H' => ∃ k, x = .bl k ∧ Q k H') hr hr' (Q' := Q') R h fun b st' f' H' q e s => ⟨b, rfl, l b st' f' H' q e s⟩

/-! ### truth -/
theorem tru_of {x : D} {v : L2.V} {Q' : Bool → Prop} (s : RelS K f st H) (r : RD K f H x v) (h : truK x st Q') : ∃ k, L2.TruV K v H k ∧ Q' k := by
  cases x with
  | non => rw [RD.non] at r; subst r; exact ⟨_, rfl, h⟩
  | bl b => rw [RD.bl] at r; subst r; exact ⟨_, rfl, h⟩
  | int i => rw [RD.int] at r; subst r; exact ⟨_, rfl, h⟩
  | str y => rw [RD.str] at r; subst r; exact ⟨_, ⟨by rw [← szl_eq]; exact h.1, rfl⟩, h.2⟩
  | tup xs =>
    rw [RD.tup] at r
    obtain ⟨a, vs, rfl, t, d⟩ := r
    refine ⟨_, .inr (.inl ⟨vs, t, rfl⟩), ?_⟩
    have : vs.isEmpty = xs.isEmpty := by
      cases xs with
      | nil => rw [RDs.nil] at d; subst d; rfl
      | cons x xs => rw [RDs.cons] at d; obtain ⟨_, _, rfl, _⟩ := d; rfl
    rw [this]; exact h
  | ref n =>
    rw [RD.ref] at r
    obtain ⟨a, e, rfl⟩ := r
    obtain ⟨xs, h1, h2⟩ := h
    obtain ⟨a', vs, g1, g2, d⟩ := s.rdA h1
    rw [e] at g1; cases g1
    refine ⟨_, .inl ⟨vs, g2, rfl⟩, ?_⟩
    have : vs.isEmpty = xs.isEmpty := by
      cases xs with
      | nil => rw [RDs.nil] at d; subst d; rfl
      | cons x xs => rw [RDs.cons] at d; obtain ⟨_, _, rfl, _⟩ := d; rfl
    rw [this]; exact h2
theorem pt_tru (ha : PD X a ta) (he : ∀ whole, isTrue a X.env whole = (do let v ← whole; standAt a.pos; holding [v] (truthy v)) := by intro _; rfl) : PDT X a (tTru ta) := by
  refine pt_imp (L2.pt_truth ha he) fun σ H Q ⟨f, ρ, st, Q', R, h, l⟩ => ?_
  refine ⟨f, ρ, st, _, R, h, fun x st1 v f1 H1 h1 e1 s1 r1 => ?_⟩
  obtain ⟨k, t, q⟩ := tru_of s1 r1 h1
  exact ⟨k, t, l k st1 f1 H1 q e1 s1⟩
abbrev PDW (X : L2.Cx) (e : Expr) (t : TT) : Prop := L2.PW X e (liftT X.K t)
theorem ptw {e : Expr} {t : TT} (h : PDW X e t) : PDT X e t := L2.PW.pt h
theorem pw_imp {e : Expr} {t t' : L2.TT} (h : L2.PW X e t) (m : ∀ σ H Q, t' σ H Q → t σ H Q) : L2.PW X e t' := ⟨fun whole pins s σ H Q I q => h.run whole pins s σ H Q I (m σ H Q q)⟩
variable {es : List Expr} {tA tB tC : TT}
theorem pw_and1 (ha : PDT X a tA) : PDW X (.BoolOp .And [a] pos) tA := L2.pw_and1 ha
theorem pw_or1 (ha : PDT X a tA) : PDW X (.BoolOp .Or [a] pos) tA := L2.pw_or1 ha
theorem pw_and (ha : PDT X a tA) (hb : PDW X (.BoolOp .And (b :: es) pos) tB) : PDW X (.BoolOp .And (a :: b :: es) pos) (tAnd tA tB) :=
  pw_imp (L2.pw_and ha hb) fun σ H Q ⟨f, ρ, st, Q', R, h, l⟩ => ⟨f, ρ, st, _, R, h, fun c st1 f1 H1 h1 e1 s1 => by
    cases c with
    | false => exact l false st1 f1 H1 (h1.2 rfl) e1 s1
    | true => exact ⟨f1, ρ, st1, Q', R.later e1 s1, h1.1 rfl, fun b st2 f2 H2 q e2 s2 => l b st2 f2 H2 q (e1.trans e2) s2⟩⟩
theorem pw_or (ha : PDT X a tA) (hb : PDW X (.BoolOp .Or (b :: es) pos) tB) : PDW X (.BoolOp .Or (a :: b :: es) pos) (tOr tA tB) :=
  pw_imp (L2.pw_or ha hb) fun σ H Q ⟨f, ρ, st, Q', R, h, l⟩ => ⟨f, ρ, st, _, R, h, fun c st1 f1 H1 h1 e1 s1 => by
    cases c with
    | true => exact l true st1 f1 H1 (h1.1 rfl) e1 s1
    | false => exact ⟨f1, ρ, st1, Q', R.later e1 s1, h1.2 rfl, fun b st2 f2 H2 q e2 s2 => l b st2 f2 H2 q (e1.trans e2) s2⟩⟩
theorem pt_not (ha : PDT X a tA) : PDT X (.UnaryOp .Not a pos) (tNot tA) :=
  pt_imp (L2.pt_not ha) fun σ H Q ⟨f, ρ, st, Q', R, h, l⟩ => ⟨f, ρ, st, _, R, h, fun c st1 f1 H1 h1 e1 s1 => l _ st1 f1 H1 h1 e1 s1⟩
theorem pd_one {op : BoolOp} (ha : PD X a ta) : PD X (.BoolOp op [a] pos) ta := L2.pe_one ha
theorem pd_and' (ha : PD X a ta) (hb : PD X (.BoolOp .And (b :: es) pos) tb) : PD X (.BoolOp .And (a :: b :: es) pos) (dAndT ta tb) :=
  pe_imp (L2.pe_andT ha hb) fun σ H Q ⟨f, ρ, st, Q', R, h, l⟩ => ⟨f, ρ, st, _, R, h, fun x st1 v f1 H1 h1 e1 s1 r1 => by
    obtain ⟨k, t, q⟩ := tru_of s1 r1 h1
    refine ⟨k, t, ?_⟩
    cases k with
    | false => exact l x st1 v f1 H1 (q.2 rfl) e1 s1 r1
    | true => exact ⟨f1, ρ, st1, Q', R.later e1 s1, q.1 rfl, l.later e1⟩⟩
theorem pd_or' (ha : PD X a ta) (hb : PD X (.BoolOp .Or (b :: es) pos) tb) : PD X (.BoolOp .Or (a :: b :: es) pos) (dOrT ta tb) :=
  pe_imp (L2.pe_orT ha hb) fun σ H Q ⟨f, ρ, st, Q', R, h, l⟩ => ⟨f, ρ, st, _, R, h, fun x st1 v f1 H1 h1 e1 s1 r1 => by
    obtain ⟨k, t, q⟩ := tru_of s1 r1 h1
    refine ⟨k, t, ?_⟩
    cases k with
    | true => exact l x st1 v f1 H1 (q.1 rfl) e1 s1 r1
    | false => exact ⟨f1, ρ, st1, Q', R.later e1 s1, q.2 rfl, l.later e1⟩⟩
theorem pd_not (ha : PD X a ta) : PD X (.UnaryOp .Not a pos) (dNotT ta) :=
  pe_imp (L2.pe_notT ha) fun σ H Q ⟨f, ρ, st, Q', R, h, l⟩ => ⟨f, ρ, st, _, R, h, fun x st1 v f1 H1 h1 e1 s1 r1 => by
    obtain ⟨k, t, q⟩ := tru_of s1 r1 h1
    exact ⟨k, t, l _ st1 _ f1 H1 q e1 s1 (RD.bl.mpr rfl)⟩⟩
theorem pd_if (hc : PDT X c tC) (ha : PD X a ta) (hb : PD X b tb) : PD X (.IfExp c a b pos) (dIf tC ta tb) :=
  pe_imp (L2.pe_ifExp hc ha hb) fun σ H Q ⟨f, ρ, st, Q', R, h, l⟩ => ⟨f, ρ, st, _, R, h, fun k st1 f1 H1 h1 e1 s1 => by
    cases k with
    | true => exact ⟨f1, ρ, st1, Q', R.later e1 s1, h1.1 rfl, l.later e1⟩
    | false => exact ⟨f1, ρ, st1, Q', R.later e1 s1, h1.2 rfl, l.later e1⟩⟩
/-- a test that is an if-expression -/
theorem pt_if {t1 t2 : TT} (hc : PDT X c tC) (ha : PDT X a t1) (hb : PDT X b t2) : PDT X (.IfExp c a b pos) (fun σ st Q => tC σ st fun k st1 => (k = true → t1 σ st1 Q) ∧ (k = false → t2 σ st1 Q)) := by
  refine ⟨fun pins s σ H Q I ⟨f, ρ, st, Q', R, h, l⟩ => ?_⟩
  show wpAny _ _ (do if ← isTrue c X.env (eval c X.env) then isTrue a X.env (eval a X.env) else isTrue b X.env (eval b X.env)) _ _ s
  refine wpAny_bind (L2.thn (hc.run pins s σ H (fun k H1 => (k = true → liftT X.K t1 σ H1 Q) ∧ (k = false → liftT X.K t2 σ H1 Q)) I ⟨f, ρ, st, _, R, h, fun k st1 f1 H1 h1 e1 s1 => ?_⟩) fun k s1 ⟨H1, I1, q⟩ => ?_)
  · exact ⟨fun e => ⟨f1, ρ, st1, Q', R.later e1 s1, h1.1 e, fun b st2 f2 H2 q e2 s2 => l b st2 f2 H2 q (e1.trans e2) s2⟩, fun e => ⟨f1, ρ, st1, Q', R.later e1 s1, h1.2 e, fun b st2 f2 H2 q e2 s2 => l b st2 f2 H2 q (e1.trans e2) s2⟩⟩
  · cases k with
    | true => exact ha.run pins s1 σ H1 Q I1 (q.1 rfl)
    | false => exact hb.run pins s1 σ H1 Q I1 (q.2 rfl)

/-! ### items and slices -/
theorem atD_at {α : Type} (xs : List α) (i : Int) : L2.atI xs i = atD xs i := by
  unfold L2.atI L2.ixN atD
  by_cases h : 0 ≤ i
  · rw [if_pos h, if_pos h]
    by_cases h2 : i < xs.length
    · rw [if_pos h2]; rfl
    · rw [if_neg h2]
      show none = _
      rw [List.getElem?_eq_none (by omega)]
  · rw [if_neg h, if_neg h]
    by_cases h2 : -(xs.length : Int) ≤ i
    · rw [if_pos h2, if_pos h2]; rfl
    · rw [if_neg h2, if_neg h2]; rfl
theorem RDs.atD {ds : List D} {vs : List L2.V} {i : Int} {d : D} (h : RDs K f H ds vs) (e : atD ds i = some d) : ∃ v, L2.atI vs i = some v ∧ RD K f H d v := by
  rw [atD_at]
  unfold Pd.atD at e ⊢
  rw [h.length]
  by_cases c : 0 ≤ i
  · rw [if_pos c] at e ⊢
    obtain ⟨v, h1, h2⟩ := h.get e; exact ⟨v, h1, h2⟩
  · rw [if_neg c] at e ⊢
    by_cases c2 : -(ds.length : Int) ≤ i
    · rw [if_pos c2] at e ⊢
      obtain ⟨v, h1, h2⟩ := h.get e; exact ⟨v, h1, h2⟩
    · rw [if_neg c2] at e; cases e
theorem real_ix : Real2 K (L2.rIx K) ixK := fun f st H x y v w Q' Q s r1 r2 h l => by
  cases x <;> cases y <;> try (exact h.elim)
  · rw [RD.str] at r1
    rw [RD.int] at r2
    obtain ⟨c, h1, h2, h3⟩ := h
    exact .inr (.inr ⟨_, _, c, r1, r2, by rw [← szl_eq]; exact h1, by rw [atD_at]; exact h2, l.now s h3 (RD.str.mpr rfl)⟩)
  · rw [RD.tup] at r1
    rw [RD.int] at r2
    obtain ⟨a, vs, rfl, t, d⟩ := r1
    obtain ⟨d', h1, h2⟩ := h
    obtain ⟨v, g1, g2⟩ := d.atD h1
    exact .inr (.inl ⟨a, vs, _, v, rfl, r2, t, g1, l.now s h2 g2⟩)
  · rw [RD.ref] at r1
    rw [RD.int] at r2
    obtain ⟨a, e, rfl⟩ := r1
    obtain ⟨xs, d', h0, h1, h2⟩ := h
    obtain ⟨a', vs, k1, k2, d⟩ := s.rdA h0
    rw [e] at k1; cases k1
    obtain ⟨v, g1, g2⟩ := d.atD h1
    exact .inl ⟨a, vs, _, v, rfl, r2, k2, g1, l.now s h2 g2⟩
theorem pd_ix (hs : L2.PlainIx b) (ha : PD X a ta) (hb : PD X b tb) : PD X (.Subscript a b pos) (dOp ixK ta tb) :=
  pe_imp (L2.pe_ix L2.ix_seq ha hb hs) fun σ H Q h => two_imp real_ix h
def liftO (K : Kf) (t : TO) : L2.TO := fun σ H Q => ∃ f ρ st Q', Rel K f ρ st σ H ∧ t ρ st Q' ∧ ∀ (o : Option Int) (st' : Store) (f' : List Addr) (H' : Hp), Q' o st' → Ext K f H f' H' → RelS K f' st' H' → Q o H'
abbrev PDO (X : L2.Cx) (e : Option Expr) (t : TO) : Prop := L2.PO X e (liftO X.K t)
theorem po_imp {e : Option Expr} {t t' : L2.TO} (h : L2.PO X e t) (m : ∀ σ H Q, t' σ H Q → t σ H Q) : L2.PO X e t' := ⟨fun pins s σ H Q I q => h.run pins s σ H Q I (m σ H Q q)⟩
theorem po_none : PDO X none oNone := po_imp L2.po_none fun σ H Q ⟨f, ρ, st, Q', R, h, l⟩ => l none st f H h .refl R.toRelS
theorem po_some (ha : PD X a ta) : PDO X (some a) (oSome ta) := po_imp (L2.po_some ha) fun σ H Q ⟨f, ρ, st, Q', R, h, l⟩ => ⟨f, ρ, st, _, R, h, fun x st1 v f1 H1 h1 e1 s1 r1 => by
    obtain ⟨i, rfl, q⟩ := h1
    rw [RD.int] at r1
    exact ⟨i, r1, l _ st1 f1 H1 q e1 s1⟩⟩
theorem sIx_cl (n d : Nat) (o : Option Int) : HT.sIx n d o = (o.map (cl n)).getD d := by
  cases o with
  | none => rfl
  | some i => rfl
theorem cut_eq (xs : List L2.V) (lo hi : Option Int) : L2.cutV xs lo hi = cutD xs lo hi := by
  unfold L2.cutV cutD
  rw [sIx_cl, sIx_cl]
theorem RDs.cut {ds : List D} {vs : List L2.V} (h : RDs K f H ds vs) (lo hi : Option Int) : RDs K f H (cutD ds lo hi) (cutD vs lo hi) := by
  unfold cutD
  rw [h.length]
  exact (h.drop _).take _
theorem cut_whole {α : Type} (xs : List α) (lo hi : Option Int) (h1 : HT.sIx xs.length 0 lo = 0) (h2 : HT.sIx xs.length xs.length hi = xs.length) : cutD xs lo hi = xs := by
  unfold cutD
  rw [← sIx_cl, ← sIx_cl, h1, h2]
  simp
def rSl (K : Kf) : L2.V → Option Int → Option Int → Hp → L2.VK → Prop := fun x lo hi H Q => L2.rSlL K x lo hi H Q ∨ L2.rSlA K x lo hi H Q
theorem pd_sl {lo hi : Option Expr} {tl th : TO} {p2 : Pos} (ha : PD X a ta) (hl : PDO X lo tl) (hh : PDO X hi th) : PD X (.Subscript a (.Slice lo hi none p2) pos) (dSl ta tl th) := by
  refine pe_imp (L2.pe_slice (r := rSl X.K) (L2.SlR.or L2.sl_list L2.sl_tupA) ha hl hh) fun σ H Q ⟨f, ρ, st, Q', R, h, l⟩ => ?_
  refine ⟨f, ρ, st, _, R, h, fun x st1 v f1 H1 h1 e1 s1 r1 => ⟨f1, ρ, st1, _, R.later e1 s1, h1, fun o st2 f2 H2 h2 e2 s2 => ⟨f2, ρ, st2, _, R.later (e1.trans e2) s2, h2, fun o' st3 f3 H3 h3 e3 s3 => ?_⟩⟩⟩
  have r1' := r1.mono (e2.trans e3)
  have l' := l.later ((e1.trans e2).trans e3)
  cases x <;> try (exact h3.elim)
  · rw [RD.tup] at r1'
    obtain ⟨a, vs, rfl, t, d⟩ := r1'
    refine .inr ⟨a, vs, rfl, t, fun ⟨w1, w2⟩ => ?_, fun _ p hp => ?_⟩
    · rw [d.length] at w1 w2
      refine l'.now s3 h3 (RD.tup.mpr ⟨a, vs, rfl, t, ?_⟩)
      rw [cut_whole _ _ _ w1 w2]
      exact d
    · rw [cut_eq]
      exact l'.tup s3 h3 (d.cut o o') hp
  · rw [RD.ref] at r1'
    obtain ⟨a, e, rfl⟩ := r1'
    obtain ⟨xs, g0, g1⟩ := h3
    obtain ⟨a', vs, k1, k2, d⟩ := s3.rdA g0
    rw [e] at k1; cases k1
    refine .inl ⟨a, vs, rfl, k2, fun p hp => ?_⟩
    rw [cut_eq]
    exact l'.lst s3 g1 (d.cut o o') hp

/-! ### arguments, displays -/
theorem pa_nil : PDA X [] aNil := pa_imp L2.pa_nil fun σ H Q ⟨f, ρ, st, Q', R, h, l⟩ => l [] st [] f H h .refl R.toRelS (RDs.nil.mpr rfl)
theorem pa_cons {ts : TA} (ha : PD X a ta) (hr : PDA X es ts) (hs : starEach (a :: es) X.env = (false, eval a X.env) :: starEach es X.env := by rfl) : PDA X (a :: es) (aCons ta ts) :=
  pa_imp (L2.pa_cons ha hr hs) fun σ H Q ⟨f, ρ, st, Q', R, h, l⟩ => ⟨f, ρ, st, _, R, h, fun x st1 v f1 H1 h1 e1 s1 r1 => ⟨f1, ρ, st1, _, R.later e1 s1, h1, fun xs st2 vs f2 H2 h2 e2 s2 r2 =>
    l (x :: xs) st2 (v :: vs) f2 H2 h2 (e1.trans e2) s2 (RDs.cons.mpr ⟨v, vs, rfl, r1.mono e2, r2⟩)⟩⟩
theorem pd_tup {ts : TA} {x1} (h : PDA X es ts) : PD X (.Tuple es x1 pos) (dTup ts) :=
  pe_imp (L2.pe_tup h) fun σ H Q ⟨f, ρ, st, Q', R, h, l⟩ => ⟨f, ρ, st, _, R, h, fun xs st1 vs f1 H1 h1 e1 s1 r1 => ⟨by rw [r1.length, ← szl_eq]; exact h1.1, fun p hp => (l.later e1).tup s1 h1.2 r1 hp⟩⟩
theorem pd_lst {ts : TA} (h : PDA X es ts) : PD X (.List es pos) (dLst ts) :=
  pe_imp (L2.pe_lst h) fun σ H Q ⟨f, ρ, st, Q', R, h, l⟩ => ⟨f, ρ, st, _, R, h, fun xs st1 vs f1 H1 h1 e1 s1 r1 => ⟨by rw [r1.length, ← szl_eq]; exact h1.1, fun p hp => (l.later e1).lst s1 h1.2 r1 hp⟩⟩

/-! ### own defs -/
def liftF (K : Kf) (n : Nat) (c : List D → Store → Pd.K → Prop) : L2.Sp := fun vs H Q _ => vs.length = n ∧ ∃ f st ds Q', RelS K f st H ∧ RDs K f H ds vs ∧ c ds st Q' ∧ LQ K f H Q' Q
/-- a def that may be called by its name -/
structure Own (P : Program) (w : World) (K : Kf) (mg : Str → Option Value) (base : Heap) (k : Nat) (x : Str) (c : List D → Store → Pd.K → Prop) : Prop where
  ex : ∃ (fa : Addr) (fd : FuncData) (ps : List Str), L2.FnOk P w K mg base L2.CX0 k fa fd ps (liftF K ps.length c) ∧ mg x = some (.ref fa) ∧ PySem.W.keepIn K (.ref fa) = true ∧ L2.Binds K fd ps [] ∧ (∀ ds st Q, c ds st Q → ds.length = ps.length)
theorem pd_call {x : Str} {p : Pos} {k : Nat} {ts : TA} {cl : Cl} {y : String} (o : Own X.prog X.w X.K X.mg X.base k x (cl y)) (hr : L2.Room k X.A) (hg : L2.Gl X x) (ha : PDA X (a :: es) ts) (hdb : (x == ("__debug__" : Str)) = false := by decide)
    (he : starEach (a :: es) X.env = (false, eval a X.env) :: starEach es X.env := by rfl) (hpl : (backTo pos (starEach es X.env)).any (·.1) = false := by rfl) : PD X (.Call (.Name x p) (a :: es) [] pos) (dCall cl y ts) := by
  obtain ⟨fa, fd, ps, F, hm, hk, hb, hlen⟩ := o.ex
  refine pe_imp (L2.pe_call (E := fun _ _ _ => False) F hr hg hm hk hb .nil L2.pass0 ha hdb he hpl) fun σ H Q ⟨f, ρ, st, Q', R, h, l⟩ => ?_
  refine ⟨f, ρ, st, _, R, h, fun xs st1 vs f1 H1 h1 e1 s1 r1 => ?_⟩
  show liftF X.K ps.length (cl y) (vs ++ []) H1 Q _
  rw [List.append_nil]
  exact ⟨r1.length.trans (hlen _ _ _ h1), f1, st1, xs, Q', s1, r1, h1, l.later e1⟩
theorem pd_call0 {x : Str} {p : Pos} {k : Nat} {cl : Cl} {y : String} (o : Own X.prog X.w X.K X.mg X.base k x (cl y)) (hr : L2.Room k X.A) (hg : L2.Gl X x) (hdb : (x == ("__debug__" : Str)) = false := by decide) : PD X (.Call (.Name x p) [] [] pos) (dCall cl y aNil) := by
  obtain ⟨fa, fd, ps, F, hm, hk, hb, hlen⟩ := o.ex
  refine pe_imp (L2.pe_call0 (E := fun _ _ _ => False) F hr hg hm hk hb .nil L2.pass0 hdb) fun σ H Q ⟨f, ρ, st, Q', R, h, l⟩ => ?_
  exact (show liftF X.K ps.length (cl y) ([] ++ []) H Q (fun _ _ _ => False) from ⟨hlen _ _ _ h, f, st, [], Q', R.toRelS, RDs.nil.mpr rfl, h, l⟩)

/-! ### built-ins -/
def RealB (K : Kf) (r : List L2.V → Hp → L2.VK → Prop) (k : KB) : Prop := ∀ (f : List Addr) (st : Store) (H : Hp) (xs : List D) (vs : List L2.V) (Q' : Pd.K) (Q : L2.VK), RelS K f st H → RDs K f H xs vs → k xs st Q' → LQ K f H Q' Q → r vs H Q
theorem pd_callB {x : Str} {p : Pos} {id : String} {r : List L2.V → Hp → L2.VK → Prop} {k : KB} {ts : TA} (hc : L2.CallR X (.builtin id) r) (hr : RealB X.K r k) (hg : L2.Gl X x) (hm : X.mg x = none) (hv : bootBuiltins x = some (.builtin id)) (ha : PDA X (a :: es) ts) (hn : x ≠ "__name__" := by decide) (hdb : (x == ("__debug__" : Str)) = false := by decide)
    (he : starEach (a :: es) X.env = (false, eval a X.env) :: starEach es X.env := by rfl) (hpl : (backTo pos (starEach es X.env)).any (·.1) = false := by rfl) : PD X (.Call (.Name x p) (a :: es) [] pos) (dB k ts) :=
  pe_imp (L2.pe_callB hc hg hm hv ha hn hdb he hpl) fun σ H Q ⟨f, ρ, st, Q', R, h, l⟩ => ⟨f, ρ, st, _, R, h, fun xs st1 vs f1 H1 h1 e1 s1 r1 => hr f1 st1 H1 xs vs Q' Q s1 r1 h1 (l.later e1)⟩
theorem pd_callTy {x : Str} {p : Pos} {T : String} {r : List L2.V → Hp → L2.VK → Prop} {k : KB} {ts : TA} (hc : L2.CallR X (.type T) r) (hr : RealB X.K r k) (hg : L2.Gl X x) (hm : X.mg x = none) (hv : bootBuiltins x = some (.type T)) (ha : PDA X (a :: es) ts) (hn : x ≠ "__name__" := by decide) (hdb : (x == ("__debug__" : Str)) = false := by decide)
    (he : starEach (a :: es) X.env = (false, eval a X.env) :: starEach es X.env := by rfl) (hpl : (backTo pos (starEach es X.env)).any (·.1) = false := by rfl) : PD X (.Call (.Name x p) (a :: es) [] pos) (dB k ts) :=
  pe_imp (L2.pe_callTy hc hg hm hv ha hn hdb he hpl) fun σ H Q ⟨f, ρ, st, Q', R, h, l⟩ => ⟨f, ρ, st, _, R, h, fun xs st1 vs f1 H1 h1 e1 s1 r1 => hr f1 st1 H1 xs vs Q' Q s1 r1 h1 (l.later e1)⟩
end
theorem RDs.inv1 {x : D} {vs : List L2.V} (h : RDs K f H [x] vs) : ∃ v, vs = [v] ∧ RD K f H x v := by
  rw [RDs.cons] at h
  obtain ⟨v, r, rfl, h1, h2⟩ := h
  rw [RDs.nil] at h2
  subst h2
  exact ⟨v, rfl, h1⟩
theorem RDs.inv2 {x y : D} {vs : List L2.V} (h : RDs K f H [x, y] vs) : ∃ v w, vs = [v, w] ∧ RD K f H x v ∧ RD K f H y w := by
  rw [RDs.cons] at h
  obtain ⟨v, r, rfl, h1, h2⟩ := h
  obtain ⟨w, rfl, h3⟩ := h2.inv1
  exact ⟨v, w, rfl, h1, h3⟩
/-- one argument, two arguments, by cases -/
theorem realB1 {r : List L2.V → Hp → L2.VK → Prop} {k : KB} (h0 : ∀ xs st Q, k xs st Q → ∃ x, xs = [x])
    (h : ∀ (f : List Addr) (st : Store) (H : Hp) (x : D) (v : L2.V) (Q' : Pd.K) (Q : L2.VK), RelS K f st H → RD K f H x v → k [x] st Q' → LQ K f H Q' Q → r [v] H Q) : RealB K r k := fun f st H xs vs Q' Q s r1 hk l => by
  obtain ⟨x, rfl⟩ := h0 xs st Q' hk
  obtain ⟨v, rfl, h1⟩ := r1.inv1
  exact h f st H x v Q' Q s h1 hk l
theorem kb1 {k : KB} (h0 : ∀ st Q, ¬ k [] st Q) (h2 : ∀ x y xs st Q, ¬ k (x :: y :: xs) st Q) : ∀ xs st Q, k xs st Q → ∃ x, xs = [x] := fun xs st Q h => by
  match xs, h with
  | [], h => exact (h0 _ _ h).elim
  | [x], _ => exact ⟨x, rfl⟩
  | x :: y :: xs, h => exact (h2 _ _ _ _ _ h).elim
theorem real_intB : RealB K (fun xs H Q => (∃ i, xs = [.int i] ∧ Q (.int i) H) ∨ ∃ k, xs = [.bl k] ∧ Q (.int (if k then 1 else 0)) H) intB :=
  realB1 (kb1 (fun _ _ h => h) fun x y xs st Q h => by cases x <;> exact h) fun f st H x v Q' Q s r h l => by
    cases x <;> try (exact h.elim)
    · rw [RD.bl] at r; subst r; exact .inr ⟨_, rfl, l.now s h (RD.int.mpr rfl)⟩
    · rw [RD.int] at r; subst r; exact .inl ⟨_, rfl, l.now s h (RD.int.mpr rfl)⟩
theorem real_absB : RealB K (fun xs H Q => ∃ i, xs = [.int i] ∧ Q (.int (if i < 0 then -i else i)) H) absB :=
  realB1 (kb1 (fun _ _ h => h) fun x y xs st Q h => by cases x <;> exact h) fun f st H x v Q' Q s r h l => by
    cases x <;> try (exact h.elim)
    rw [RD.int] at r; subst r; exact ⟨_, rfl, l.now s h (RD.int.mpr rfl)⟩
theorem real_lenB : RealB K (fun xs H Q => ∃ x n, xs = [x] ∧ L2.LenV K x H n ∧ Q (.int n) H) lenB :=
  realB1 (kb1 (fun _ _ h => h) fun x y xs st Q h => by cases x <;> exact h) fun f st H x v Q' Q s r h l => by
    cases x <;> try (exact h.elim)
    · rw [RD.str] at r; subst r
      exact ⟨_, _, rfl, ⟨by rw [← szl_eq]; exact h.1, rfl⟩, l.now s h.2 (RD.int.mpr rfl)⟩
    · rw [RD.tup] at r
      obtain ⟨a, vs, rfl, t, d⟩ := r
      exact ⟨_, vs.length, rfl, .inr ⟨vs, t, rfl⟩, by rw [d.length]; exact l.now s h (RD.int.mpr rfl)⟩
    · rw [RD.ref] at r
      obtain ⟨a, e, rfl⟩ := r
      obtain ⟨xs, h1, h2⟩ := h
      obtain ⟨a', vs, k1, k2, d⟩ := s.rdA h1
      rw [e] at k1; cases k1
      exact ⟨_, vs.length, rfl, .inl ⟨vs, k2, rfl⟩, by rw [d.length]; exact l.now s h2 (RD.int.mpr rfl)⟩
theorem kb2 {k : KB} (h0 : ∀ st Q, ¬ k [] st Q) (h1 : ∀ x st Q, ¬ k [x] st Q) (h3 : ∀ x y z xs st Q, ¬ k (x :: y :: z :: xs) st Q) : ∀ xs st Q, k xs st Q → ∃ x y, xs = [x, y] := fun xs st Q h => by
  match xs, h with
  | [], h => exact (h0 _ _ h).elim
  | [x], h => exact (h1 _ _ _ h).elim
  | [x, y], _ => exact ⟨x, y, rfl⟩
  | x :: y :: z :: xs, h => exact (h3 _ _ _ _ _ _ h).elim
theorem real_min2B : RealB K (fun xs H Q => ∃ i j, xs = [.int i, .int j] ∧ Q (.int (if j < i then j else i)) H) min2B := fun f st H xs vs Q' Q s r h l => by
  obtain ⟨x, y, rfl⟩ := kb2 (k := min2B) (fun _ _ h => h) (fun x st Q h => by cases x <;> exact h) (fun x y z xs st Q h => by cases x <;> cases y <;> exact h) xs st Q' h
  obtain ⟨v, w, rfl, r1, r2⟩ := r.inv2
  cases x <;> cases y <;> try (exact h.elim)
  rw [RD.int] at r1 r2
  subst r1; subst r2
  exact ⟨_, _, rfl, l.now s h (RD.int.mpr rfl)⟩
theorem real_max2B : RealB K (fun xs H Q => ∃ i j, xs = [.int i, .int j] ∧ Q (.int (if j > i then j else i)) H) max2B := fun f st H xs vs Q' Q s r h l => by
  obtain ⟨x, y, rfl⟩ := kb2 (k := max2B) (fun _ _ h => h) (fun x st Q h => by cases x <;> exact h) (fun x y z xs st Q h => by cases x <;> cases y <;> exact h) xs st Q' h
  obtain ⟨v, w, rfl, r1, r2⟩ := r.inv2
  cases x <;> cases y <;> try (exact h.elim)
  rw [RD.int] at r1 r2
  subst r1; subst r2
  exact ⟨_, _, rfl, l.now s h (RD.int.mpr rfl)⟩
theorem real_listB : RealB K (fun xs H Q => ∃ p ys, xs = [.ref p] ∧ (L2.SqL K H p ys ∨ L2.SqT K H p ys) ∧ ∀ l, H l = none → Q (.ref l) (L2.upd H l (.lst ys))) listB :=
  realB1 (kb1 (fun _ _ h => h) fun x y xs st Q h => by cases x <;> exact h) fun f st H x v Q' Q s r h l => by
    cases x <;> try (exact h.elim)
    · rw [RD.tup] at r
      obtain ⟨a, vs, rfl, t, d⟩ := r
      exact ⟨a, vs, rfl, .inr t, fun p hp => l.lst s h d hp⟩
    · rw [RD.ref] at r
      obtain ⟨a, e, rfl⟩ := r
      obtain ⟨xs, h1, h2⟩ := h
      obtain ⟨a', vs, k1, k2, d⟩ := s.rdA h1
      rw [e] at k1; cases k1
      exact ⟨a, vs, rfl, .inl k2, fun p hp => l.lst s h2 d hp⟩
theorem real_tupleB : RealB K (fun xs H Q => ∃ p ys, xs = [.ref p] ∧ ((L2.SqL K H p ys ∧ ∀ l, H l = none → Q (.ref l) (L2.upd H l (.tup ys))) ∨ (L2.SqT K H p ys ∧ Q (.ref p) H))) tupleB :=
  realB1 (kb1 (fun _ _ h => h) fun x y xs st Q h => by cases x <;> exact h) fun f st H x v Q' Q s r h l => by
    cases x <;> try (exact h.elim)
    · rw [RD.tup] at r
      obtain ⟨a, vs, rfl, t, d⟩ := r
      exact ⟨a, vs, rfl, .inr ⟨t, l.now s h (RD.tup.mpr ⟨a, vs, rfl, t, d⟩)⟩⟩
    · rw [RD.ref] at r
      obtain ⟨a, e, rfl⟩ := r
      obtain ⟨xs, h1, h2⟩ := h
      obtain ⟨a', vs, k1, k2, d⟩ := s.rdA h1
      rw [e] at k1; cases k1
      exact ⟨a, vs, rfl, .inl ⟨k2, fun p hp => l.tup s h2 d hp⟩⟩
theorem real_sumB : RealB K (L2.rSum K) sumB :=
  realB1 (kb1 (fun _ _ h => h) fun x y xs st Q h => by cases x <;> exact h) fun f st H x v Q' Q s r h l => by
    cases x <;> try (exact h.elim)
    rw [RD.ref] at r
    obtain ⟨a, e, rfl⟩ := r
    obtain ⟨ns, h1, h2⟩ := h
    obtain ⟨a', vs, k1, k2, d⟩ := s.rdA h1
    rw [e] at k1; cases k1
    exact ⟨a, ns, rfl, by rw [← d.ints]; exact k2, l.now s h2 (RD.int.mpr rfl)⟩
def truV : L2.V → Bool
  | .bl b => b
  | .int i => i != 0
  | _ => false
def tfl : L2.V → Bool
  | .non => true
  | .bl _ => true
  | .int _ => true
  | _ => false
def rAnyF (K : Kf) : List L2.V → Hp → L2.VK → Prop := fun vs H Q => ∃ (a : Addr) (xs : List L2.V), vs = [L2.V.ref a] ∧ L2.SqL K H a xs ∧ xs.all tfl = true ∧ Q (.bl (xs.any truV)) H
def rAllF (K : Kf) : List L2.V → Hp → L2.VK → Prop := fun vs H Q => ∃ (a : Addr) (xs : List L2.V), vs = [L2.V.ref a] ∧ L2.SqL K H a xs ∧ xs.all tfl = true ∧ Q (.bl (xs.all truV)) H
theorem truth_tfl {prog : Program} {w : World} {A : Around} {xs : List L2.V} {its : List Value} (r : L2.Vals xs its) (h : xs.all tfl = true) :
    TruthOf prog w A (fun i v => its.toArray[i]? = some v) (fun i => (xs.map truV).getD i false) := fun i v s Q E hv hq => by
  have hv' : its[i]? = some v := by simpa using hv
  have hi : i < xs.length := by rw [r.length]; exact (List.getElem?_eq_some_iff.mp hv').1
  have hx : xs[i]? = some xs[i] := by simp [hi]
  obtain ⟨u, hu, ru⟩ := r.get hx
  rw [hv'] at hu; cases hu
  have hg : (xs.map truV).getD i false = truV xs[i] := by rw [List.getD_eq_getElem?_getD, List.getElem?_map, hx]; rfl
  have hq' : Q ((xs.map truV).getD i false) s := hq
  rw [hg] at hq'
  have ht : tfl xs[i] = true := by
    rw [List.all_eq_true] at h
    exact h _ (List.getElem_mem hi)
  generalize xs[i] = x at ru hq' ht
  cases x with
  | non => cases ru; exact PyProof.Rows.truthy_none hq'
  | bl b => cases ru; exact wpAny_truthy_bool hq'
  | int j => obtain ⟨t, rfl⟩ := ru; exact PySem.P.truthy_int hq'
  | _ => exact absurd ht (by simp [tfl])
theorem cr_anyF (hc : X.calm = true) : L2.CallR X (.builtin "any") (rAnyF X.K) := by
  intro pins s σ H vs us Q I r h
  obtain ⟨a, xs, rfl, hs, ht, q⟩ := h
  obtain ⟨its, rv, hl, _⟩ := I.list hs
  rw [L2.Vals.ref1 r]
  refine call_any_walk (L2.iter_any hl.isList fun s₂ e2 st hne => ?_)
  subst e2
  refine ⟨_, _, _, _, _, _, _, rfl, Walks.list (A := X.A.in1) (I.ok.hd hc) _ a hne its.toArray, st, truth_tfl rv ht, fun h' tk hk => ?_⟩
  refine ⟨.bl _, H, I.kept fun b o eo => hk b o (fun hmem => ?_) (Heap.get?_push_of_some _ eo), ?_, q⟩
  · rcases List.mem_cons.mp hmem with e1 | hmem
    · exact absurd (e1 ▸ Heap.lt_size eo) (Nat.lt_irrefl _)
    · cases hmem
  · show Value.bool _ = Value.bool _
    have e1 : its.toArray.size = (xs.map truV).length := by rw [List.size_toArray, List.length_map]; exact rv.length.symm
    rw [e1, L2.any_range, List.any_map]
    rfl
theorem cr_allF (hc : X.calm = true) : L2.CallR X (.builtin "all") (rAllF X.K) := by
  intro pins s σ H vs us Q I r h
  obtain ⟨a, xs, rfl, hs, ht, q⟩ := h
  obtain ⟨its, rv, hl, _⟩ := I.list hs
  rw [L2.Vals.ref1 r]
  refine call_all_walk (L2.iter_any hl.isList fun s₂ e2 st hne => ?_)
  subst e2
  refine ⟨_, _, _, _, _, _, _, rfl, Walks.list (A := X.A.in1) (I.ok.hd hc) _ a hne its.toArray, st, truth_tfl rv ht, fun h' tk hk => ?_⟩
  refine ⟨.bl _, H, I.kept fun b o eo => hk b o (fun hmem => ?_) (Heap.get?_push_of_some _ eo), ?_, q⟩
  · rcases List.mem_cons.mp hmem with e1 | hmem
    · exact absurd (e1 ▸ Heap.lt_size eo) (Nat.lt_irrefl _)
    · cases hmem
  · show Value.bool _ = Value.bool _
    have e1 : its.toArray.size = (xs.map truV).length := by rw [List.size_toArray, List.length_map]; exact rv.length.symm
    rw [e1, L2.all_range, List.all_map]
    rfl
theorem RD.tru {x : D} {v : L2.V} (h : RD K f H x v) (hx : x.tflat = true) : tfl v = true ∧ truV v = x.tru := by
  cases x with
  | non => rw [RD.non] at h; subst h; exact ⟨rfl, rfl⟩
  | bl b => rw [RD.bl] at h; subst h; exact ⟨rfl, rfl⟩
  | int i => rw [RD.int] at h; subst h; exact ⟨rfl, rfl⟩
  | str _ => cases hx
  | tup _ => cases hx
  | ref _ => cases hx
theorem RDs.tru : ∀ {xs : List D} {vs : List L2.V}, RDs K f H xs vs → xs.all D.tflat = true → vs.all tfl = true ∧ vs.any truV = xs.any D.tru ∧ vs.all truV = xs.all D.tru
  | [], _, h, _ => by rw [RDs.nil] at h; subst h; exact ⟨rfl, rfl, rfl⟩
  | x :: xs, _, h, hf => by
    rw [RDs.cons] at h
    obtain ⟨v, r, rfl, h1, h2⟩ := h
    have hf' : x.tflat = true ∧ xs.all D.tflat = true := by simpa using hf
    obtain ⟨a, b⟩ := h1.tru hf'.1
    obtain ⟨c, d, e⟩ := RDs.tru h2 hf'.2
    simp [a, b, c, d, e]
theorem real_allB : RealB K (rAllF K) allB :=
  realB1 (kb1 (fun _ _ h => h) fun x y xs st Q h => by cases x <;> exact h) fun f st H x v Q' Q s r h l => by
    cases x <;> try (exact h.elim)
    rw [RD.ref] at r
    obtain ⟨a, e, rfl⟩ := r
    obtain ⟨xs, h1, h2, h3⟩ := h
    obtain ⟨a', vs, k1, k2, d⟩ := s.rdA h1
    rw [e] at k1; cases k1
    obtain ⟨t1, t2, t3⟩ := d.tru h2
    exact ⟨a, vs, rfl, k2, t1, by rw [t3]; exact l.now s h3 (RD.bl.mpr rfl)⟩
theorem real_anyB : RealB K (rAnyF K) anyB :=
  realB1 (kb1 (fun _ _ h => h) fun x y xs st Q h => by cases x <;> exact h) fun f st H x v Q' Q s r h l => by
    cases x <;> try (exact h.elim)
    rw [RD.ref] at r
    obtain ⟨a, e, rfl⟩ := r
    obtain ⟨xs, h1, h2, h3⟩ := h
    obtain ⟨a', vs, k1, k2, d⟩ := s.rdA h1
    rw [e] at k1; cases k1
    obtain ⟨t1, t2, t3⟩ := d.tru h2
    exact ⟨a, vs, rfl, k2, t1, by rw [t2]; exact l.now s h3 (RD.bl.mpr rfl)⟩
theorem real_min1B : RealB K (L2.rMin K) min1B :=
  realB1 (kb1 (fun _ _ h => h) fun x y xs st Q h => by cases x <;> exact h) fun f st H x v Q' Q s r h l => by
    cases x <;> try (exact h.elim)
    rw [RD.ref] at r
    obtain ⟨a, e, rfl⟩ := r
    obtain ⟨ns, h1, h2, h3⟩ := h
    obtain ⟨a', vs, k1, k2, d⟩ := s.rdA h1
    rw [e] at k1; cases k1
    exact ⟨a, ns, rfl, by rw [← d.ints]; exact k2, h2, fun m hm hy => l.now s (h3 m hm hy) (RD.int.mpr rfl)⟩
theorem real_max1B : RealB K (L2.rMax K) max1B :=
  realB1 (kb1 (fun _ _ h => h) fun x y xs st Q h => by cases x <;> exact h) fun f st H x v Q' Q s r h l => by
    cases x <;> try (exact h.elim)
    rw [RD.ref] at r
    obtain ⟨a, e, rfl⟩ := r
    obtain ⟨ns, h1, h2, h3⟩ := h
    obtain ⟨a', vs, k1, k2, d⟩ := s.rdA h1
    rw [e] at k1; cases k1
    exact ⟨a, ns, rfl, by rw [← d.ints]; exact k2, h2, fun m hm hy => l.now s (h3 m hm hy) (RD.int.mpr rfl)⟩
end
end Pd
end PartPdSoundC

section PartPdSoundD
set_option Elab.async false
set_option linter.all false
set_option maxRecDepth 100000
set_option maxHeartbeats 1000000
/-! Pd over the hand layer: targets, loops, statements, comprehensions, methods, defs. Own work. -/
namespace Pd
open PySem PySem.Spec
section
variable {X : L2.Cx} {K : Kf} {f f' : List Addr} {H H' : Hp} {st st' : Store} {ρ : Env} {σ : L2.St}
/-! ### targets -/
def LG (K : Kf) (f : List Addr) (H : Hp) (σ : L2.St) (vs : List Nat) (Q' : Env → Store → Prop) (Q : L2.St → Hp → Prop) : Prop :=
  ∀ (ρ' : Env) (st' : Store) (σ' : L2.St) (f' : List Addr) (H' : Hp), Q' ρ' st' → Ext K f H f' H' → Rel K f' ρ' st' σ' H' → Out vs σ σ' → Q σ' H'
def liftG (K : Kf) (g : TG) (vs : List Nat) : L2.TG := fun v σ H Q => ∃ f ρ st d Q', Rel K f ρ st σ H ∧ RD K f H d v ∧ g d ρ st Q' ∧ LG K f H σ vs Q' Q
def liftGs (K : Kf) (g : TGs) (vs : List Nat) : L2.TGs := fun us σ H Q => ∃ f ρ st ds Q', Rel K f ρ st σ H ∧ RDs K f H ds us ∧ g ds ρ st Q' ∧ LG K f H σ vs Q' Q
abbrev PDG (X : L2.Cx) (e : Expr) (g : TG) (vs : List Nat) : Prop := L2.PG X e (liftG X.K g vs)
abbrev PDGs (X : L2.Cx) (es : List Expr) (g : TGs) (vs : List Nat) : Prop := L2.PGs X es (liftGs X.K g vs)
theorem pg_imp {e : Expr} {t t' : L2.TG} (h : L2.PG X e t) (m : ∀ v σ H Q, t' v σ H Q → t v σ H Q) : L2.PG X e t' := ⟨fun pins s σ H v u Q I r q => h.run pins s σ H v u Q I r (m v σ H Q q)⟩
theorem pgs_imp {e : List Expr} {t t' : L2.TGs} (h : L2.PGs X e t) (m : ∀ v σ H Q, t' v σ H Q → t v σ H Q) : L2.PGs X e t' := ⟨fun pins s σ H v u Q I r q => h.run pins s σ H v u Q I r (m v σ H Q q)⟩
theorem Out.refl {vs : List Nat} {σ : L2.St} : Out vs σ σ := ⟨rfl, fun _ _ => rfl⟩
theorem Out.set {i : Nat} {v : L2.V} {σ : L2.St} : Out [i] σ (σ.set i (some v)) := ⟨by rw [List.length_set], fun j h => by
  have : j ≠ i := fun e => h (by simp [e])
  rw [List.getElem?_set_ne (Ne.symm this)]⟩
theorem Out.trans {vs ws : List Nat} {σ σ1 σ2 : L2.St} (a : Out vs σ σ1) (b : Out ws σ1 σ2) : Out (vs ++ ws) σ σ2 :=
  ⟨b.1.trans a.1, fun j h => (b.2 j fun e => h (List.mem_append_right _ e)).trans (a.2 j fun e => h (List.mem_append_left _ e))⟩
theorem pg_name {i : Nat} {x : Str} {pos : Pos} (hN : X.N.Nodup) (hi : X.N[i]? = some x) (hx : L2.Loc X.env.scope x) (hf : X.fn x = true ∨ X.env.scope.names.lookup x = some .local := by first | exact .inl rfl | exact .inr rfl | assumption) : PDG X (.Name x pos) (gName i) [i] :=
  pg_imp (L2.pg_name hN hi hx hf) fun v σ H Q ⟨f, ρ, st, d, Q', R, r, h, l⟩ => l _ st _ f H h .refl (R.put r) Out.set
theorem pgs_nil : PDGs X [] gsNil [] := pgs_imp L2.pgs_nil fun us σ H Q ⟨f, ρ, st, ds, Q', R, r, h, l⟩ => by
  obtain ⟨rfl, h⟩ := h
  rw [RDs.nil] at r
  exact ⟨r, l ρ st σ f H h .refl R .refl⟩
theorem pgs_cons {e : Expr} {es : List Expr} {g : TG} {gs : TGs} {vs ws : List Nat} (h1 : PDG X e g vs) (h2 : PDGs X es gs ws) (hs : (assignEach (e :: es) X.env).map (·.2) = assign e X.env :: (assignEach es X.env).map (·.2) := by rfl) : PDGs X (e :: es) (gsCons g gs) (vs ++ ws) :=
  pgs_imp (L2.pgs_cons h1 h2 hs) fun us σ H Q ⟨f, ρ, st, ds, Q', R, r, h, l⟩ => by
    obtain ⟨d, ds', rfl, h⟩ := h
    rw [RDs.cons] at r
    obtain ⟨v, rr, rfl, r1, r2⟩ := r
    refine ⟨v, rr, rfl, f, ρ, st, d, _, R, r1, h, fun ρ1 st1 σ1 f1 H1 q e1 R1 o1 => ?_⟩
    exact ⟨f1, ρ1, st1, ds', Q', R1, r2.mono e1, q, fun ρ2 st2 σ2 f2 H2 q2 e2 R2 o2 => l ρ2 st2 σ2 f2 H2 q2 (e1.trans e2) R2 (o1.trans o2)⟩
theorem pg_tup {es : List Expr} {k : Nat} {pos : Pos} {gs : TGs} {vs : List Nat} {n : Nat} (hc : X.calm = true) (h : PDGs X es gs vs)
    (hn : (assignEach es X.env).length = n := by rfl) (hst : (assignEach es X.env).findIdx? (·.1) = none := by rfl) : PDG X (.Tuple es k pos) (gTup gs n) vs :=
  pg_imp (L2.pg_tup hc h hn hst) fun v σ H Q ⟨f, ρ, st, d, Q', R, r, h, l⟩ => by
    obtain ⟨ds, rfl, hl, h⟩ := h
    rw [RD.tup] at r
    obtain ⟨a, us, rfl, t, rs⟩ := r
    exact ⟨a, us, rfl, t, by rw [rs.length]; exact hl, f, ρ, st, ds, Q', R, rs, h, l⟩
def RealSet (K : Kf) (r : L2.V → L2.V → L2.V → Hp → (Hp → Prop) → Prop) (k : D → D → D → Store → (Store → Prop) → Prop) : Prop :=
  ∀ (f : List Addr) (st : Store) (H : Hp) (o i v : D) (ov iv vv : L2.V) (Q' : Store → Prop) (Q : Hp → Prop), RelS K f st H → RD K f H o ov → RD K f H i iv → RD K f H v vv → k o i v st Q' →
    (∀ st' H', Q' st' → Ext K f H f H' → RelS K f st' H' → Q H') → r ov iv vv H Q
theorem real_set : RealSet K L2.rSetL setK := fun f st H o i v ov iv vv Q' Q s r1 r2 r3 h l => by
  cases o <;> try (exact h.elim)
  cases i <;> try (exact h.elim)
  rename_i n i
  rw [RD.ref] at r1
  rw [RD.int] at r2
  obtain ⟨a, e, rfl⟩ := r1
  obtain ⟨xs, h1, ⟨d, h2⟩, h3, h4⟩ := h
  obtain ⟨a', vs, k1, k2, k3⟩ := s.rdL h1
  rw [e] at k1; cases k1
  have hlt : i < (vs.length : Int) := by
    rw [k3.length]
    unfold atD at h2
    rw [if_pos h3] at h2
    have := (List.getElem?_eq_some_iff.mp h2).1
    omega
  obtain ⟨s', e'⟩ := s.put e h1 k2 (k3.set i.toNat r3)
  exact ⟨a, vs, i, i.toNat, rfl, r2, k2, by unfold L2.ixN; rw [if_pos h3, if_pos hlt], l _ _ h4 e' s'⟩
section
variable {a b c e o i : Expr} {es : List Expr} {ta tb te to ti : TE} {pos tpos : Pos}
theorem pg_sub (h1 : PD X o to) (h2 : PD X i ti) (ha : ∀ v, assign (.Subscript o i pos) X.env v = (do
      let ov ← holding [v] (eval o X.env)
      let iv ← holding [v, ov] (eval i X.env)
      standAt pos
      holding [v, ov, iv] (setItem ov iv v)
      release [v, ov, iv] []) := by intro _; rfl) : PDG X (.Subscript o i pos) (gSub to ti) [] :=
  pg_imp (L2.pg_sub h1 h2 L2.set_list ha) fun v σ H Q ⟨f, ρ, st, d, Q', R, r, h, l⟩ => ⟨f, ρ, st, _, R, h, fun x st1 u f1 H1 q1 e1 s1 r1 => ⟨f1, ρ, st1, _, R.later e1 s1, q1, fun y st2 w f2 H2 q2 e2 s2 r2 =>
    real_set f2 st2 H2 x y d u w v _ _ s2 (r1.mono e2) r2 (r.mono (e1.trans e2)) q2 fun st3 H3 q3 e3 s3 => l ρ st3 σ f2 H3 q3 ((e1.trans e2).trans e3) (R.later ((e1.trans e2).trans e3) s3) .refl⟩⟩

/-! ### iterables -/
/-- what is walked: data and walk -/
structure RealI (K : Kf) (f : List Addr) (H : Hp) (I : Iter) (J : L2.It) : Prop where
  go : ∀ (i : Nat) (f2 : List Addr) (st2 : Store) (H2 : Hp), Ext K f H f2 H2 → RelS K f2 st2 H2 → I.guard st2 → i < I.items.length → J.go i H2
  stop : ∀ (f2 : List Addr) (st2 : Store) (H2 : Hp), Ext K f H f2 H2 → RelS K f2 st2 H2 → I.guard st2 → J.stop I.items.length H2
  yld : ∀ (i : Nat) (f2 : List Addr) (st2 : Store) (H2 : Hp) (d : D) (x : L2.V) (H3 : Hp), Ext K f H f2 H2 → RelS K f2 st2 H2 → I.guard st2 → I.items[i]? = some d → J.yld i H2 x H3 → Ext K f2 H2 f2 H3 ∧ RelS K f2 st2 H3 ∧ RD K f2 H3 d x
def liftI (K : Kf) (t : TI) : L2.TI := fun σ H R => ∃ f ρ st R', Rel K f ρ st σ H ∧ t ρ st R' ∧ ∀ (I : Iter) (st' : Store) (J : L2.It) (f' : List Addr) (H' : Hp), R' I st' → Ext K f H f' H' → RelS K f' st' H' → RealI K f' H' I J → R J H'
abbrev PDI (X : L2.Cx) (tg e : Expr) (t : TI) : Prop := L2.PI X tg e (liftI X.K t)
theorem pi_imp {tg e : Expr} {t t' : L2.TI} (h : L2.PI X tg e t) (m : ∀ σ H R, t' σ H R → t σ H R) : L2.PI X tg e t' := ⟨fun pins s σ H R I q => h.run pins s σ H R I (m σ H R q)⟩
def iSeqV (K : Kf) (tl : L2.TE) : L2.TI := fun σ H R => tl σ H fun x H1 => ∃ a, x = .ref a ∧ ((∃ xs, L2.SqL K H1 a xs ∧ R (L2.Itl K a) H1) ∨ (∃ xs, L2.SqT K H1 a xs ∧ R (L2.Itt K a) H1))
theorem pi_seqV {tg l : Expr} {tl : L2.TE} (hl : L2.PE X l tl) : L2.PI X tg l (iSeqV X.K tl) := by
  refine ⟨fun pins s σ H R I h => ?_⟩
  refine L2.thn (hl.run pins s σ H _ I h) fun v s1 ⟨x, H1, I1, r1, q1⟩ => ?_
  obtain ⟨a, e, q1⟩ := q1
  subst e
  cases r1
  have fin : ∀ b ∈ [s1.heap.objs.size], L2.FpOk X pins H1 b := fun b hb => by
    have e : b = s1.heap.objs.size := by simpa using hb
    subst e
    exact I1.fpOk (Nat.le_refl _) (I1.hok.fresh (Nat.le_refl _))
  rcases q1 with ⟨xs, hq, q⟩ | ⟨xs, hq, q⟩
  · obtain ⟨its, rv, p, hz⟩ := I1.list hq
    refine wpAny_pyIter_list p.isList ?_
    exact ⟨s1.heap.objs.size, [s1.heap.objs.size], _, _, H1, rfl, I1.kept (t' := s1.toks) fun b o e => Heap.get?_push_of_some _ e, L2.turn_list a _, ⟨_, Heap.get?_push_size _ rfl, rfl, rfl⟩, fin, q⟩
  · obtain ⟨its, rv, p, hz⟩ := I1.tuple hq
    refine wpAny_pyIter_tuple (show s1.heap.IsTuple a its.toArray from p) ?_
    exact ⟨s1.heap.objs.size, [s1.heap.objs.size], _, _, H1, rfl, I1.kept (t' := s1.toks) fun b o e => Heap.get?_push_of_some _ e, L2.turn_tuple a _, ⟨_, Heap.get?_push_size _ rfl, rfl, rfl⟩, fin, q⟩
theorem RDs.at_lt {ds : List D} {vs : List L2.V} (h : RDs K f H ds vs) {i : Nat} (hi : i < ds.length) : ∃ v, vs[i]? = some v := by
  have := h.length
  exact ⟨vs[i]'(by omega), by simp [this, hi]⟩
theorem realI_list {n : Nat} {a : Addr} {xs : List D} (hn : f[n]? = some a) : RealI K f H ⟨xs, fun s => rdA s n xs⟩ (L2.Itl K a) where
  go := fun i f2 st2 H2 e2 s2 g hi => by
    obtain ⟨a', vs, k1, k2, k3⟩ := s2.rdA g
    rw [e2.at hn] at k1; cases k1
    obtain ⟨v, hv⟩ := k3.at_lt hi
    exact ⟨vs, v, k2, hv⟩
  stop := fun f2 st2 H2 e2 s2 g => by
    obtain ⟨a', vs, k1, k2, k3⟩ := s2.rdA g
    rw [e2.at hn] at k1; cases k1
    exact ⟨vs, k2, by rw [k3.length]; exact Nat.le_refl _⟩
  yld := fun i f2 st2 H2 d x H3 e2 s2 g hd y => by
    obtain ⟨a', vs, k1, k2, k3⟩ := s2.rdA g
    rw [e2.at hn] at k1; cases k1
    obtain ⟨rfl, y⟩ := y
    obtain ⟨v, h1, h2⟩ := k3.get hd
    have := y vs k2
    rw [h1] at this; cases this
    exact ⟨.refl, s2, h2⟩
theorem realI_tup {a : Addr} {xs : List D} {vs : List L2.V} (t : L2.SqT K H a vs) (r : RDs K f H xs vs) : RealI K f H ⟨xs, fun _ => True⟩ (L2.Itt K a) where
  go := fun i f2 st2 H2 e2 s2 g hi => by
    obtain ⟨v, hv⟩ := r.at_lt hi
    exact ⟨vs, v, e2.tup _ _ t, hv⟩
  stop := fun f2 st2 H2 e2 s2 g => ⟨vs, e2.tup _ _ t, by rw [r.length]; exact Nat.le_refl _⟩
  yld := fun i f2 st2 H2 d x H3 e2 s2 g hd y => by
    obtain ⟨rfl, y⟩ := y
    obtain ⟨v, h1, h2⟩ := r.get hd
    have := y vs (e2.tup _ _ t)
    rw [h1] at this; cases this
    exact ⟨.refl, s2, h2.mono e2⟩
theorem realI_rng {lo : Int} {n : Nat} : RealI K f H ⟨rng lo n, fun _ => True⟩ (L2.Itr lo n) where
  go := fun i f2 st2 H2 e2 s2 g hi => by
    have : i < n := by simpa [rng] using hi
    exact this
  stop := fun f2 st2 H2 e2 s2 g => by
    show n ≤ (rng lo n).length
    simp [rng]
  yld := fun i f2 st2 H2 d x H3 e2 s2 g hd y => by
    obtain ⟨rfl, rfl⟩ := y
    refine ⟨.refl, s2, ?_⟩
    have hd' : (rng lo n)[i]? = some d := hd
    unfold rng at hd'
    rw [List.getElem?_map] at hd'
    cases q : (List.range n)[i]? with
    | none => rw [q] at hd'; cases hd'
    | some j =>
      rw [q] at hd'
      obtain ⟨h1, h2⟩ := List.getElem?_eq_some_iff.mp q
      simp at h2
      subst h2
      simp at hd'
      subst hd'
      rw [RD.int]
theorem pi_seq {tg : Expr} (h : PD X a ta) : PDI X tg a (iSeq ta) :=
  pi_imp (pi_seqV h) fun σ H R ⟨f, ρ, st, R', Re, h, l⟩ => ⟨f, ρ, st, _, Re, h, fun x st1 v f1 H1 q1 e1 s1 r1 => by
    cases x <;> try (exact q1.elim)
    · rw [RD.tup] at r1
      obtain ⟨a, vs, rfl, t, d⟩ := r1
      exact ⟨a, rfl, .inr ⟨vs, t, l _ st1 _ f1 H1 q1 e1 s1 (realI_tup t d)⟩⟩
    · rw [RD.ref] at r1
      obtain ⟨a, e, rfl⟩ := r1
      obtain ⟨xs, g1, g2⟩ := q1
      obtain ⟨a', vs, k1, k2, k3⟩ := s1.rdA g1
      rw [e] at k1; cases k1
      exact ⟨a, rfl, .inl ⟨vs, k2, l _ st1 _ f1 H1 g2 e1 s1 (realI_list e)⟩⟩⟩
theorem pi_r1 {tg : Expr} {p : Pos} (hg : L2.Gl X "range") (hm : X.mg "range" = none) (h : PD X a ta) (hs : starEach [a] X.env = [(false, eval a X.env)] := by rfl) : PDI X tg (.Call (.Name "range" p) [a] [] pos) (iR1 ta) :=
  pi_imp (L2.pi_range1 hg hm (L2.pa_cons h L2.pa_nil hs) hs) fun σ H R ⟨f, ρ, st, R', Re, h, l⟩ => ⟨f, ρ, st, _, Re, h, fun x st1 v f1 H1 q1 e1 s1 r1 => by
    obtain ⟨j, rfl, h1, h2, h3⟩ := q1
    rw [RD.int] at r1
    subst r1
    exact ⟨j, rfl, h1, h2, l _ st1 _ f1 H1 h3 e1 s1 realI_rng⟩⟩
theorem pi_r2 {tg : Expr} {p : Pos} (hg : L2.Gl X "range") (hm : X.mg "range" = none) (h : PD X a ta) (h' : PD X b tb) (hs : starEach [a, b] X.env = [(false, eval a X.env), (false, eval b X.env)] := by rfl) (hs2 : starEach [b] X.env = [(false, eval b X.env)] := by rfl) : PDI X tg (.Call (.Name "range" p) [a, b] [] pos) (iR2 ta tb) :=
  pi_imp (L2.pi_range2 hg hm (L2.pa_cons h (L2.pa_cons h' L2.pa_nil hs2) (hs.trans (by rw [hs2]))) hs hs2) fun σ H R ⟨f, ρ, st, R', Re, h, l⟩ => ⟨f, ρ, st, _, Re, h, fun x st1 v f1 H1 q1 e1 s1 r1 => ⟨f1, ρ, st1, _, Re.later e1 s1, q1, fun y st2 w f2 H2 q2 e2 s2 r2 => by
    obtain ⟨i, j, rfl, rfl, h2, h3⟩ := q2
    have r1' := r1.mono e2
    rw [RD.int] at r1' r2
    subst r1'; subst r2
    exact ⟨i, j, rfl, h2, l _ st2 _ f2 H2 h3 (e1.trans e2) s2 realI_rng⟩⟩⟩
theorem zipD_get : ∀ {xs ys : List D} {i : Nat} {d : D}, (zipD xs ys)[i]? = some d → ∃ x y, d = .tup [x, y] ∧ xs[i]? = some x ∧ ys[i]? = some y
  | [], _, _, _, h => by simp [zipD] at h
  | _ :: _, [], _, _, h => by simp [zipD] at h
  | x :: xs, y :: ys, 0, d, h => by simp [zipD] at h; exact ⟨x, y, h.symm, rfl, rfl⟩
  | x :: xs, y :: ys, i + 1, d, h => by
    obtain ⟨x', y', h1, h2, h3⟩ := zipD_get (xs := xs) (ys := ys) (i := i) (by simpa [zipD] using h)
    exact ⟨x', y', h1, by simpa using h2, by simpa using h3⟩
theorem zipD_length : ∀ (xs ys : List D), (zipD xs ys).length = min xs.length ys.length
  | [], _ => by simp [zipD]
  | _ :: _, [] => by simp [zipD]
  | x :: xs, y :: ys => by simp [zipD, zipD_length xs ys]
theorem realI_zipT {a b : Addr} {xs ys : List D} {vs ws : List L2.V} (t : L2.SqT K H a vs) (r : RDs K f H xs vs) (t' : L2.SqT K H b ws) (r' : RDs K f H ys ws) : RealI K f H ⟨zipD xs ys, fun _ => True⟩ (RZ.ItzT K a b) where
  go := fun i f2 st2 H2 e2 s2 g hi => by
    have hi : i < (zipD xs ys).length := hi
    rw [zipD_length] at hi
    obtain ⟨v, hv⟩ := r.at_lt (i := i) (by omega)
    obtain ⟨w, hw⟩ := r'.at_lt (i := i) (by omega)
    exact ⟨vs, ws, v, w, e2.tup _ _ t, e2.tup _ _ t', hv, hw⟩
  stop := fun f2 st2 H2 e2 s2 g => ⟨vs, ws, e2.tup _ _ t, e2.tup _ _ t', by
    show vs.length ≤ (zipD xs ys).length ∨ ws.length ≤ (zipD xs ys).length
    rw [zipD_length, r.length, r'.length]; omega⟩
  yld := fun i f2 st2 H2 d x H3 e2 s2 g hd y => by
    obtain ⟨T, x1, x2, rfl, hT, rfl, y1, y2⟩ := y
    obtain ⟨d1, d2, rfl, g1, g2⟩ := zipD_get hd
    obtain ⟨v, h1, h2⟩ := r.get g1
    obtain ⟨w, h3, h4⟩ := r'.get g2
    have q1 := y1 vs (e2.tup _ _ t)
    have q2 := y2 ws (e2.tup _ _ t')
    rw [h1] at q1; cases q1
    rw [h3] at q2; cases q2
    obtain ⟨s', e'⟩ := s2.lay (o := .tup [x1, x2]) hT
    refine ⟨e', s', RD.tup.mpr ⟨T, [x1, x2], rfl, .of L2.upd_same, ?_⟩⟩
    rw [RDs.cons]
    exact ⟨x1, [x2], rfl, (h2.mono e2).mono e', RDs.one ((h4.mono e2).mono e')⟩
theorem realI_zipL {m n : Nat} {a b : Addr} {xs ys : List D} (hm : f[m]? = some a) (hn : f[n]? = some b) : RealI K f H ⟨zipD xs ys, fun s => rdA s m xs ∧ rdA s n ys⟩ (L2.Itz K a b) where
  go := fun i f2 st2 H2 e2 s2 g hi => by
    have hi : i < (zipD xs ys).length := hi
    rw [zipD_length] at hi
    obtain ⟨a', vs, k1, k2, k3⟩ := s2.rdA g.1
    obtain ⟨b', ws, j1, j2, j3⟩ := s2.rdA g.2
    rw [e2.at hm] at k1; cases k1
    rw [e2.at hn] at j1; cases j1
    obtain ⟨v, hv⟩ := k3.at_lt (i := i) (by omega)
    obtain ⟨w, hw⟩ := j3.at_lt (i := i) (by omega)
    exact ⟨vs, ws, v, w, k2, j2, hv, hw⟩
  stop := fun f2 st2 H2 e2 s2 g => by
    obtain ⟨a', vs, k1, k2, k3⟩ := s2.rdA g.1
    obtain ⟨b', ws, j1, j2, j3⟩ := s2.rdA g.2
    rw [e2.at hm] at k1; cases k1
    rw [e2.at hn] at j1; cases j1
    refine ⟨vs, ws, k2, j2, ?_⟩
    show vs.length ≤ (zipD xs ys).length ∨ ws.length ≤ (zipD xs ys).length
    rw [zipD_length, k3.length, j3.length]; omega
  yld := fun i f2 st2 H2 d x H3 e2 s2 g hd y => by
    obtain ⟨a', vs, k1, k2, k3⟩ := s2.rdA g.1
    obtain ⟨b', ws, j1, j2, j3⟩ := s2.rdA g.2
    rw [e2.at hm] at k1; cases k1
    rw [e2.at hn] at j1; cases j1
    obtain ⟨T, x1, x2, rfl, hT, rfl, y1, y2⟩ := y
    obtain ⟨d1, d2, rfl, g1, g2⟩ := zipD_get hd
    obtain ⟨v, h1, h2⟩ := k3.get g1
    obtain ⟨w, h3, h4⟩ := j3.get g2
    have q1 := y1 vs k2
    have q2 := y2 ws j2
    rw [h1] at q1; cases q1
    rw [h3] at q2; cases q2
    obtain ⟨s', e'⟩ := s2.lay (o := .tup [x1, x2]) hT
    refine ⟨e', s', RD.tup.mpr ⟨T, [x1, x2], rfl, .of L2.upd_same, ?_⟩⟩
    rw [RDs.cons]
    exact ⟨x1, [x2], rfl, h2.mono e', RDs.one (h4.mono e')⟩
theorem pi_zip {p tp : Pos} {kk : Nat} (hg : L2.Gl X "zip") (hm : X.mg "zip" = none) (h : PD X a ta) (h' : PD X b tb) (hs : starEach [a, b] X.env = (false, eval a X.env) :: starEach [b] X.env := by rfl) (hs2 : starEach [b] X.env = (false, eval b X.env) :: starEach [] X.env := by rfl)
    (hpl : (backTo pos (starEach [b] X.env)).any (·.1) = false := by rfl) : PDI X (.Tuple es kk tp) (.Call (.Name "zip" p) [a, b] [] pos) (iZip2 ta tb) :=
  pi_imp (RZ.pi_zipA hg hm (L2.pa_cons h (L2.pa_cons h' L2.pa_nil hs2) hs) hs hpl) fun σ H R ⟨f, ρ, st, R', Re, h, l⟩ => ⟨f, ρ, st, _, Re, h, fun x st1 v f1 H1 q1 e1 s1 r1 => ⟨f1, ρ, st1, _, Re.later e1 s1, q1, fun y st2 w f2 H2 q2 e2 s2 r2 => by
    have r1' := r1.mono e2
    cases x <;> cases y <;> try (exact q2.elim)
    · rw [RD.tup] at r1' r2
      obtain ⟨a, vs, rfl, t, d⟩ := r1'
      obtain ⟨b, ws, rfl, t', d'⟩ := r2
      exact ⟨a, b, vs, ws, rfl, .inr ⟨t, t', l _ st2 _ f2 H2 q2 (e1.trans e2) s2 (realI_zipT t d t' d')⟩⟩
    · rw [RD.ref] at r1' r2
      obtain ⟨a, g1, rfl⟩ := r1'
      obtain ⟨b, g2, rfl⟩ := r2
      obtain ⟨xs, ys, q3, q4, q5⟩ := q2
      obtain ⟨a', vs, k1, k2, k3⟩ := s2.rdA q3
      obtain ⟨b', ws, j1, j2, j3⟩ := s2.rdA q4
      rw [g1] at k1; cases k1
      rw [g2] at j1; cases j1
      exact ⟨a, b, vs, ws, rfl, .inl ⟨k2, j2, l _ st2 _ f2 H2 q5 (e1.trans e2) s2 (realI_zipL g1 g2)⟩⟩⟩⟩
end
end
end Pd
end PartPdSoundD

section PartPdSoundE
set_option Elab.async false
set_option linter.all false
set_option maxRecDepth 100000
set_option maxHeartbeats 1000000
/-! Pd over the hand layer: statements, comprehensions, methods, defs. Own work. -/
namespace Pd
open PySem PySem.Spec
section
variable {X : L2.Cx} {K : Kf} {f f' : List Addr} {H H' : Hp} {st st' : Store} {ρ : Env} {σ : L2.St}
/-! ### statements -/
structure LD (K : Kf) (f : List Addr) (H : Hp) (D' : Ends) (D : L2.Ends) : Prop where
  nx : ∀ (ρ' : Env) (st' : Store) (σ' : L2.St) (f' : List Addr) (H' : Hp), D'.nx ρ' st' → Ext K f H f' H' → Rel K f' ρ' st' σ' H' → D.nx σ' H'
  rt : LQ K f H D'.rt D.rt
  bk : ∀ (ρ' : Env) (st' : Store) (σ' : L2.St) (f' : List Addr) (H' : Hp), D'.bk ρ' st' → Ext K f H f' H' → Rel K f' ρ' st' σ' H' → D.bk σ' H'
  ct : ∀ (ρ' : Env) (st' : Store) (σ' : L2.St) (f' : List Addr) (H' : Hp), D'.ct ρ' st' → Ext K f H f' H' → Rel K f' ρ' st' σ' H' → D.ct σ' H'
def liftS (K : Kf) (t : TS) : L2.TS := fun D σ H => ∃ f ρ st D', Rel K f ρ st σ H ∧ t D' ρ st ∧ LD K f H D' D
abbrev PDS (X : L2.Cx) (s : Stmt) (t : TS) : Prop := L2.PS X s (liftS X.K t)
abbrev PDSs (X : L2.Cx) (s : List Stmt) (t : TS) : Prop := L2.PSs X s (liftS X.K t)
theorem ps_imp {s : Stmt} {t t' : L2.TS} (h : L2.PS X s t) (m : ∀ D σ H, t' D σ H → t D σ H) : L2.PS X s t' := ⟨fun pins s σ H D I q => h.run pins s σ H D I (m D σ H q)⟩
theorem pss_imp {s : List Stmt} {t t' : L2.TS} (h : L2.PSs X s t) (m : ∀ D σ H, t' D σ H → t D σ H) : L2.PSs X s t' := ⟨fun pins s σ H D I q => h.run pins s σ H D I (m D σ H q)⟩
theorem LD.later {D' : Ends} {D : L2.Ends} (l : LD K f H D' D) (e : Ext K f H f' H') : LD K f' H' D' D :=
  ⟨fun a b c d g q e2 r => l.nx a b c d g q (e.trans e2) r, l.rt.later e, fun a b c d g q e2 r => l.bk a b c d g q (e.trans e2) r, fun a b c d g q e2 r => l.ct a b c d g q (e.trans e2) r⟩
section
variable {a b c e o i : Expr} {es : List Expr} {ta tb te to ti : TE} {tC : TT} {pos tpos : Pos} {s : Stmt} {ss ss' : List Stmt} {t u : TS}
theorem pss_nil : PDSs X [] sNext := pss_imp L2.pss_nil fun D σ H ⟨f, ρ, st, D', R, h, l⟩ => l.nx ρ st σ f H h .refl R
theorem pss_cons (h1 : PDS X s t) (h2 : PDSs X ss u) : PDSs X (s :: ss) (sSeq t u) := pss_imp (L2.pss_cons h1 h2) fun D σ H ⟨f, ρ, st, D', R, h, l⟩ =>
  ⟨f, ρ, st, _, R, h, fun ρ1 st1 σ1 f1 H1 q e r => ⟨f1, ρ1, st1, D', r, q.go, l.later e⟩, l.rt, l.bk, l.ct⟩
theorem pss_one (h1 : PDS X s t) : PDSs X [s] t := L2.pss_one h1
theorem ps_pass : PDS X (.Pass pos) sNext := ps_imp L2.ps_pass fun D σ H ⟨f, ρ, st, D', R, h, l⟩ => l.nx ρ st σ f H h .refl R
theorem ps_doc {x j pos'} : PDS X (.Expr (.Constant (.str x) j pos) pos') sNext := ps_imp L2.ps_doc fun D σ H ⟨f, ρ, st, D', R, h, l⟩ => l.nx ρ st σ f H h .refl R
theorem ps_break : PDS X (.Break pos) sBreak := ps_imp L2.ps_break fun D σ H ⟨f, ρ, st, D', R, h, l⟩ => l.bk ρ st σ f H h .refl R
theorem ps_continue : PDS X (.Continue pos) sCont := ps_imp L2.ps_continue fun D σ H ⟨f, ρ, st, D', R, h, l⟩ => l.ct ρ st σ f H h .refl R
theorem ps_expr (he : PD X e te) (hs : swapsWith e none pos.line X.env = pure false := by rfl) : PDS X (.Expr e pos) (sExpr te) := ps_imp (L2.ps_expr he hs) fun D σ H ⟨f, ρ, st, D', R, h, l⟩ =>
  ⟨f, ρ, st, _, R, h, fun x st1 v f1 H1 q e1 s1 r1 => l.nx ρ st1 σ f1 H1 q e1 (R.later e1 s1)⟩
theorem ps_ret (he : PD X e te) : PDS X (.Return (some e) pos) (sRet te) := ps_imp (L2.ps_ret he) fun D σ H ⟨f, ρ, st, D', R, h, l⟩ => ⟨f, ρ, st, _, R, h, l.rt⟩
theorem ps_retN : PDS X (.Return none pos) sRetN := ps_imp L2.ps_retN fun D σ H ⟨f, ρ, st, D', R, h, l⟩ => l.rt.now R.toRelS h (RD.non.mpr rfl)
theorem ps_if (hc : PDT X c tC) (ha : PDSs X ss t) (hb : PDSs X ss' u) : PDS X (.If c ss ss' pos) (sIf tC t u) := ps_imp (L2.ps_if hc ha hb) fun D σ H ⟨f, ρ, st, D', R, h, l⟩ =>
  ⟨f, ρ, st, _, R, h, fun k st1 f1 H1 q e1 s1 => by
    cases k with
    | true => exact ⟨f1, ρ, st1, D', R.later e1 s1, q.1 rfl, l.later e1⟩
    | false => exact ⟨f1, ρ, st1, D', R.later e1 s1, q.2 rfl, l.later e1⟩⟩
theorem asg_core {g : TG} {vs : List Nat} {te : TE} {D : L2.Ends} (h : liftS K (sAsg te g) D σ H) : L2.tAsg (lift K te) (liftG K g vs) D σ H := by
  obtain ⟨f, ρ, st, D', R, h, l⟩ := h
  exact ⟨f, ρ, st, _, R, h, fun x st1 v f1 H1 q e1 s1 r1 => ⟨f1, ρ, st1, x, _, R.later e1 s1, r1, q, fun ρ2 st2 σ2 f2 H2 q2 e2 R2 _ => l.nx ρ2 st2 σ2 f2 H2 q2 (e1.trans e2) R2⟩⟩
theorem ps_asg {tg : Expr} {g : TG} {vs : List Nat} (he : PD X e te) (hg : PDG X tg g vs) (hs : swapsWithSole [tg] e pos.line X.env = pure false := by rfl) (hw : swappedStores [tg] e X.env = pure none := by rfl)
    (h1 : (assignEach [tg] X.env).map (·.2) = [assign tg X.env] := by rfl) : PDS X (.Assign [tg] e pos) (sAsg te g) := ps_imp (L2.ps_asg he hg hs hw h1) fun D σ H h => asg_core h
theorem ps_set {i : Nat} {x : Str} {pos' : Pos} (hN : X.N.Nodup) (hi : X.N[i]? = some x) (hx : L2.Loc X.env.scope x) (he : PD X e te) (hs : swapsWith e (some (.Name x pos')) pos.line X.env = pure false := by rfl) (hf : X.fn x = true ∨ X.env.scope.names.lookup x = some .local := by first | exact .inl rfl | exact .inr rfl | assumption) :
    PDS X (.Assign [.Name x pos'] e pos) (sAsg te (gName i)) := ps_imp (L2.ps_set hN hi hx he hs hf) fun D σ H ⟨f, ρ, st, D', R, h, l⟩ =>
  ⟨f, ρ, st, _, R, h, fun y st1 v f1 H1 q e1 s1 r1 => l.nx _ st1 _ f1 H1 q e1 ((R.later e1 s1).put r1)⟩
theorem ps_par {i j : Nat} {x y : Str} {ts : TA} {px py pt : Pos} {kt k2 pt2} (hc : X.calm = true) (hN : X.N.Nodup) (hi : X.N[i]? = some x) (hj : X.N[j]? = some y) (hij : i ≠ j)
    (h0 : L2.PS X (.Assign [.Tuple [.Name x px, .Name y py] kt pt] (.Tuple [a, b] k2 pt2) pos) (L2.tPar i j (liftA X.K ts))) : PDS X (.Assign [.Tuple [.Name x px, .Name y py] kt pt] (.Tuple [a, b] k2 pt2) pos) (sPar i j ts) := ps_imp h0 fun D σ H ⟨f, ρ, st, D', R, h, l⟩ =>
  ⟨f, ρ, st, _, R, h, fun xs st1 vs f1 H1 q e1 s1 r1 => by
    obtain ⟨x, y, rfl, q⟩ := q
    obtain ⟨v, w, rfl, r2, r3⟩ := r1.inv2
    exact ⟨v, w, rfl, l.nx _ st1 _ f1 H1 q e1 (((R.later e1 s1).put r2).put r3)⟩⟩
theorem real_iadd : Real2 K (fun x y H Q => (∃ i j, x = .int i ∧ y = .int j ∧ Q (.int (i + j)) H) ∨ (∃ i j, x = .str i ∧ y = .str j ∧ i.length + j.length ≤ sizeLine ∧ Q (.str (i ++ j)) H)) iaddK := by
  intro f st H x y v w Q' Q s r1 r2 h l
  cases x <;> cases y <;> try (exact h.elim)
  · rw [RD.int] at r1 r2
    exact .inl ⟨_, _, r1, r2, l.now s h (RD.int.mpr rfl)⟩
  · rw [RD.str] at r1 r2
    exact .inr ⟨_, _, r1, r2, by rw [← szl_eq]; exact h.1, l.now s h.2 (RD.str.mpr rfl)⟩
theorem ip_add : L2.PIp X .Add (fun x y H Q => (∃ i j, x = .int i ∧ y = .int j ∧ Q (.int (i + j)) H) ∨ (∃ i j, x = .str i ∧ y = .str j ∧ i.length + j.length ≤ sizeLine ∧ Q (.str (i ++ j)) H)) :=
  fun pins s σ H x y v u Q I rx ry h => (L2.OpR.or (X := X) L2.iop_add L2.iop_add_str) pins s σ H x y v u Q I rx ry h
theorem ip_of {op : Operator} {r : L2.R2} (h : L2.OpR X (inplaceOp op) r) : L2.PIp X op r := fun pins s σ H x y v u Q I rx ry q => h pins s σ H x y v u Q I rx ry q
theorem ps_aug {i : Nat} {x : Str} {op : Operator} {r : L2.R2} {k : K2} {pos' : Pos} (hp : L2.PIp X op r) (hr : Real2 X.K r k) (hN : X.N.Nodup) (hi : X.N[i]? = some x) (hx : L2.Loc X.env.scope x) (he : PD X e te)
    (hf : X.fn x = true ∨ X.env.scope.names.lookup x = some .local := by first | exact .inl rfl | exact .inr rfl | assumption) : PDS X (.AugAssign (.Name x pos') op e pos) (sAug i k te) := ps_imp (L2.ps_aug hN hi hx he hp hf) fun D σ H ⟨f, ρ, st, D', R, h, l⟩ => by
  obtain ⟨d, h1, h⟩ := h
  obtain ⟨v, e, rv⟩ := R.env i d h1
  exact ⟨v, e, f, ρ, st, _, R, h, fun y st1 w f1 H1 q e1 s1 r1 => hr f1 st1 H1 d y v w _ _ s1 (rv.mono e1) r1 q fun z st2 u f2 H2 q2 e2 s2 r2 => l.nx _ st2 _ f2 H2 q2 (e1.trans e2) ((R.later (e1.trans e2) s2).put r2)⟩
/-- xs[i] op= e of a list -/
theorem get_list : L2.PGet X (L2.rIxL X.K) := by
  intro pins s σ H x y v u Q I rx ry h
  obtain ⟨p, xs, i, z, rfl, rfl, hq, he, q⟩ := h
  cases rx
  obtain ⟨t, rfl⟩ := ry
  obtain ⟨its, r, pl, hz⟩ := I.list hq
  obtain ⟨j, h1, h2, h3, h4, h5⟩ := L2.atI_get he
  obtain ⟨w, ew, rw'⟩ := r.get h2
  have hl := r.length
  have hn := L2.line63
  have fin : L2.EP X pins σ Q w s := ⟨z, H, I, rw', q⟩
  by_cases h0 : 0 ≤ i
  · have hj : i.toNat = j := by
      rw [seqIndex_of h0 h5] at h1
      exact Option.some.inj h1
    exact wpAny_getItem_list (x := w) pl.isList h0 (by omega) (by rw [hj]; simpa using ew) fin
  · have hj : (i + (its.toArray.size : Int)).toNat = j := by
      rw [seqIndex_neg (by omega) h4] at h1
      rw [List.size_toArray, ← hl]
      exact Option.some.inj h1
    exact wpAny_getItem_list_neg (x := w) pl.isList (by omega) (by rw [List.size_toArray] <;> omega) (by omega) (by rw [hj]; simpa using ew) fin
theorem real_ixL : Real2 K (L2.rIxL K) ixLK := fun f st H x y v w Q' Q s r1 r2 h l => by
  cases x <;> cases y <;> try (exact h.elim)
  rw [RD.ref] at r1
  rw [RD.int] at r2
  obtain ⟨a, e, rfl⟩ := r1
  obtain ⟨xs, d', h0, h1, h2⟩ := h
  obtain ⟨a', vs, k1, k2, d⟩ := s.rdA h0
  rw [e] at k1; cases k1
  obtain ⟨v, g1, g2⟩ := d.atD h1
  exact ⟨a, vs, _, v, rfl, r2, k2, g1, l.now s h2 g2⟩
theorem ps_augS {op : Operator} {r : L2.R2} {k : K2} (hp : L2.PIp X op r) (hr : Real2 X.K r k) (ho : PD X o to) (hi : PD X i ti) (he : PD X e te)
    (ha : ∀ ov iv new, augStore i ov iv new = (do holding [new, ov, iv] (setItem ov iv new); release [new, ov, iv] []; pure .next) := by intros; rfl) : PDS X (.AugAssign (.Subscript o i tpos) op e pos) (sAugL k to ti te) :=
  ps_imp (L2.ps_augS ho hi get_list he hp L2.set_list ha) fun D σ H ⟨f, ρ, st, D', R, h, l⟩ => ⟨f, ρ, st, _, R, h, fun x st1 v f1 H1 q1 e1 s1 r1 => ⟨f1, ρ, st1, _, R.later e1 s1, q1, fun y st2 w f2 H2 q2 e2 s2 r2 =>
    real_ixL f2 st2 H2 x y v w _ _ s2 (r1.mono e2) r2 q2 fun z st3 u f3 H3 q3 e3 s3 r3 => ⟨f3, ρ, st3, _, R.later ((e1.trans e2).trans e3) s3, q3, fun z' st4 u' f4 H4 q4 e4 s4 r4 =>
      hr f4 st4 H4 z z' u u' _ _ s4 (r3.mono e4) r4 q4 fun z5 st5 u5 f5 H5 q5 e5 s5 r5 =>
        real_set f5 st5 H5 x y z5 v w u5 _ _ s5 (r1.mono (((e2.trans e3).trans e4).trans e5)) (r2.mono ((e3.trans e4).trans e5)) r5 q5 fun st6 H6 q6 e6 s6 =>
          have ee := (((((e1.trans e2).trans e3).trans e4).trans e5).trans e6)
          l.nx ρ st6 σ f5 H6 q6 ee (R.later ee s6)⟩⟩⟩

/-! ### loops -/
theorem ps_for {tg iter : Expr} {wi : TI} {g : TG} {vs : List Nat} {tb : TS} (hp : PassesOwn (model X.prog X.w) X.A X.env X.xe) (hc : X.calm = true) (hi : PDI X tg iter wi) (hg : PDG X tg g vs) (hb : PDSs X ss tb)
    (hs : ∀ x, foldedSetIterable iter X.env x = pure x := by intro _; rfl) : PDS X (.For tg iter ss [] pos) (sFor wi g tb) :=
  ps_imp (L2.ps_for hp hc hi hg hb hs) fun D σ H ⟨f, ρ, st, D', R, h, l⟩ => ⟨f, ρ, st, _, R, h, fun I st1 J f1 H1 q1 e1 s1 rI => by
    refine ⟨fun i m σ2 H2 => m = I.items.length - i ∧ i ≤ I.items.length ∧ ∃ f2 ρ2 st2, Ext X.K f1 H1 f2 H2 ∧ Rel X.K f2 ρ2 st2 σ2 H2 ∧ forLoop I.guard g tb D' (I.items.drop i) ρ2 st2, ⟨_, rfl, Nat.zero_le _, f1, ρ, st1, .refl, R.later e1 s1, by simpa using q1⟩, ?_⟩
    rintro i m σ2 H2 ⟨rfl, hi, f2, ρ2, st2, e2, R2, q2⟩
    by_cases hlt : i < I.items.length
    · have hd : I.items.drop i = I.items[i] :: I.items.drop (i + 1) := by rw [List.drop_eq_getElem_cons hlt]
      rw [hd] at q2
      obtain ⟨gd, q2⟩ := q2
      refine .inr ⟨rI.go i f2 st2 H2 e2 R2.toRelS gd hlt, fun σ3 H3 => ∃ f3 ρ3 st3, Ext X.K f1 H1 f3 H3 ∧ Rel X.K f3 ρ3 st3 σ3 H3 ∧ forLoop I.guard g tb D' (I.items.drop (i + 1)) ρ3 st3, fun σ3 H3 ⟨f3, ρ3, st3, e3, R3, q3⟩ => ⟨I.items.length - (i + 1), by omega, rfl, hlt, f3, ρ3, st3, e3, R3, q3⟩, fun x H3 y => ?_⟩
      obtain ⟨e3, s3, r3⟩ := rI.yld i f2 st2 H2 I.items[i] x H3 e2 R2.toRelS gd (by simp [hlt]) y
      refine ⟨f2, ρ2, st2, I.items[i], _, R2.later e3 s3, r3, q2, fun ρ4 st4 σ4 f4 H4 q4 e4 R4 _ => ⟨f4, ρ4, st4, _, R4, q4, ?_⟩⟩
      have ee := (e1.trans (e2.trans (e3.trans e4)))
      have e1' := (e2.trans (e3.trans e4))
      exact ⟨fun ρ5 st5 σ5 f5 H5 q5 e5 R5 => ⟨f5, ρ5, st5, e1'.trans e5, R5, q5⟩, l.rt.later ee, fun ρ5 st5 σ5 f5 H5 q5 e5 R5 => l.nx ρ5 st5 σ5 f5 H5 q5 (ee.trans e5) R5, fun ρ5 st5 σ5 f5 H5 q5 e5 R5 => ⟨f5, ρ5, st5, e1'.trans e5, R5, q5⟩⟩
    · have e : i = I.items.length := by omega
      subst e
      rw [List.drop_length] at q2
      obtain ⟨gd, q2⟩ := q2
      exact .inl ⟨rI.stop f2 st2 H2 e2 R2.toRelS gd, l.nx ρ2 st2 σ2 f2 H2 q2 (e1.trans e2) R2⟩⟩
theorem ps_while {tb : TS} (hp : PassesOwn (model X.prog X.w) X.A X.env X.xe) (hc : PDT X c tC) (hb : PDSs X ss tb) : PDS X (.While c ss [] pos) (sWhile tC tb) :=
  ps_imp (L2.ps_while hp hc hb) fun D σ H ⟨f, ρ, st, D', R, h, l⟩ => by
    obtain ⟨n, h⟩ := h
    refine ⟨fun m σ2 H2 => ∃ f2 ρ2 st2, Ext X.K f H f2 H2 ∧ Rel X.K f2 ρ2 st2 σ2 H2 ∧ whileN tC tb D' m ρ2 st2, ⟨n, f, ρ, st, .refl, R, h⟩, ?_⟩
    rintro m σ2 H2 ⟨f2, ρ2, st2, e2, R2, q2⟩
    cases m with
    | zero => exact q2.elim
    | succ m =>
      refine ⟨f2, ρ2, st2, _, R2, q2, fun k st3 f3 H3 q3 e3 s3 => ?_⟩
      have ee := e2.trans e3
      cases k with
      | false => exact l.nx ρ2 st3 σ2 f3 H3 (q3.2 rfl) ee (R2.later e3 s3)
      | true =>
        refine ⟨fun σ4 H4 => ∃ f4 ρ4 st4, Ext X.K f H f4 H4 ∧ Rel X.K f4 ρ4 st4 σ4 H4 ∧ whileN tC tb D' m ρ4 st4, fun σ4 H4 q4 => ⟨m, Nat.lt_succ_self _, q4⟩, f3, ρ2, st3, _, R2.later e3 s3, q3.1 rfl, ?_⟩
        exact ⟨fun ρ5 st5 σ5 f5 H5 q5 e5 R5 => ⟨f5, ρ5, st5, ee.trans e5, R5, q5⟩, l.rt.later ee, fun ρ5 st5 σ5 f5 H5 q5 e5 R5 => l.nx ρ5 st5 σ5 f5 H5 q5 (ee.trans e5) R5, fun ρ5 st5 σ5 f5 H5 q5 e5 R5 => ⟨f5, ρ5, st5, ee.trans e5, R5, q5⟩⟩

/-! ### comprehensions -/
abbrev PDTs (X : L2.Cx) (es : List Expr) (t : TT) : Prop := L2.PTs X es (liftT X.K t)
theorem pts_imp {e : List Expr} {t t' : L2.TT} (h : L2.PTs X e t) (m : ∀ σ H Q, t' σ H Q → t σ H Q) : L2.PTs X e t' := ⟨fun pins s σ H Q I q => h.run pins s σ H Q I (m σ H Q q)⟩
theorem pts_nil : PDTs X [] tYes := pts_imp L2.pts_nil fun σ H Q ⟨f, ρ, st, Q', R, h, l⟩ => l true st f H h .refl R.toRelS
theorem pts_one {t : TT} (h : PDT X c t) : PDTs X [c] t := L2.pts_one h
theorem lc_core {wi : TI} {g : TG} {tt : TT} {te : TE} {vs ws : List Nat} {Q : L2.VK} (hws : ∀ j, j ∈ ws → j ∈ vs) (h : lift K (dLc wi g tt te vs) σ H Q) : L2.tLc (liftI K wi) (liftG K g ws) (liftT K tt) (lift K te) vs σ H Q := by
  obtain ⟨f, ρ, st, Q', R, h, l⟩ := h
  refine ⟨f, ρ, st, _, R, h, fun I st1 J f1 H1 q1 e1 s1 rI D hD => ?_⟩
  obtain ⟨s0, e0⟩ := s1.new (o := .lst []) (c := .lst []) hD ⟨[], L2.upd_same, RDs.nil.mpr rfl⟩
  have hn0 : (f1 ++ [D])[st1.length]? = some D := by rw [← s1.len]; simp
  refine ⟨fun i m H2 => m = I.items.length - i ∧ i ≤ I.items.length ∧ ∃ f2 st2 acc, Ext K (f1 ++ [D]) (L2.upd H1 D (.lst [])) f2 H2 ∧ RelS K f2 st2 H2 ∧ rdL st2 st1.length acc ∧ lcLoop I.guard g tt te (wipeE ρ vs) st1.length Q' (I.items.drop i) acc st2,
    ⟨_, rfl, Nat.zero_le _, f1 ++ [D], st1 ++ [.lst []], [], .refl, s0, by unfold rdL; simp, by simpa using q1⟩, ?_⟩
  rintro i m H2 ⟨rfl, hi, f2, st2, acc, e2, s2, hacc, q2⟩
  have eI : Ext K f1 H1 f2 H2 := e0.trans e2
  by_cases hlt : i < I.items.length
  · have hd : I.items.drop i = I.items[i] :: I.items.drop (i + 1) := by rw [List.drop_eq_getElem_cons hlt]
    rw [hd] at q2
    obtain ⟨gd, q2⟩ := q2
    refine .inr ⟨rI.go i f2 st2 H2 eI s2 gd hlt, fun H3 => ∃ f3 st3 acc', Ext K (f1 ++ [D]) (L2.upd H1 D (.lst [])) f3 H3 ∧ RelS K f3 st3 H3 ∧ rdL st3 st1.length acc' ∧ lcLoop I.guard g tt te (wipeE ρ vs) st1.length Q' (I.items.drop (i + 1)) acc' st3,
      fun H3 q3 => ⟨I.items.length - (i + 1), by omega, rfl, hlt, q3⟩, fun x H3 y => ?_⟩
    obtain ⟨e3, s3, r3⟩ := rI.yld i f2 st2 H2 I.items[i] x H3 eI s2 gd (by simp [hlt]) y
    have R3 : Rel K f2 (wipeE ρ vs) st2 (L2.wipe σ vs) H3 := (Rel.wipe R).later ((e1.trans eI).trans e3) s3
    refine ⟨f2, _, st2, I.items[i], _, R3, r3, q2, fun ρ4 st4 σ4 f4 H4 q4 e4 R4 o4 => ⟨Out.wipe ⟨o4.1, fun j hj => o4.2 j fun z => hj (hws j z)⟩, ?_⟩⟩
    refine ⟨f4, ρ4, st4, _, R4, q4, fun b st5 f5 H5 q5 e5 s5 => ?_⟩
    have e15 := e2.trans (e3.trans (e4.trans e5))
    cases b with
    | false =>
      obtain ⟨h1, h2⟩ := q5.2 rfl
      exact ⟨f5, st5, acc, e15, s5, h1, h2⟩
    | true =>
      refine ⟨f5, ρ4, st5, _, R4.later e5 s5, q5.1 rfl, fun y st6 v f6 H6 q6 e6 s6 r6 => ?_⟩
      obtain ⟨h1, h2, h3⟩ := q6
      have e16 := e15.trans e6
      obtain ⟨a', us, k1, k2, k3⟩ := s6.rdL h1
      rw [e16.at hn0] at k1; cases k1
      obtain ⟨s7, e7⟩ := s6.put (e16.at hn0) h1 k2 (k3.append (RDs.one r6))
      refine ⟨us, k2, by rw [k3.length, ← szl_eq]; exact h2, f6, _, acc ++ [y], e16.trans e7, s7, ?_, h3⟩
      have hl : st1.length < st6.length := (List.getElem?_eq_some_iff.mp h1).1
      unfold rdL
      rw [List.getElem?_set_self hl]
  · have e : i = I.items.length := by omega
    subst e
    rw [List.drop_length] at q2
    obtain ⟨gd, h1, h2⟩ := q2
    exact .inl ⟨rI.stop f2 st2 H2 eI s2 gd, l _ st2 _ f2 H2 h2 (e1.trans eI) s2 (RD.ref.mpr ⟨D, e2.at hn0, rfl⟩)⟩
theorem pd_lc {elt tg iter : Expr} {ifs : List Expr} {scope : Scope} {own : List (Str × Nat)} {wi : TI} {g : TG} {tt : TT} {te : TE} {ws : List Nat} (hc : X.calm = true) (hN : X.N.Nodup) (hi : PDI X tg iter wi) (ok : L2.BlkOk X.N X.env.scope scope own)
    (hg : ∀ (s : Shared) (H : Hp) (C : Addr) (cl : List (Str × Addr)) (fp : List Addr), PDG (X.blk s H scope (compEnvC scope cl C X.env) fp) tg g ws) (ht : ∀ (s : Shared) (H : Hp) (C : Addr) (cl : List (Str × Addr)) (fp : List Addr), PDTs (X.blk s H scope (compEnvC scope cl C X.env) fp) ifs tt)
    (he : ∀ (s : Shared) (H : Hp) (C : Addr) (cl : List (Str × Addr)) (fp : List Addr), PD (X.blk s H scope (compEnvC scope cl C X.env) fp) elt te) (hws : ∀ j, j ∈ ws → j ∈ own.map (·.2)) (hs : ∀ x, foldedSetIterable iter X.env x = pure x := by intro _; rfl) :
    PD X (.ListComp elt [⟨tg, iter, ifs, 0⟩] scope pos) (dLc wi g tt te (own.map (·.2))) :=
  pe_imp (L2.pe_lc hc hN hi ok hg ht he hs) fun σ H Q h => lc_core hws h
theorem ps_setLc {j : Nat} {y : Str} {py spos : Pos} {elt tg iter : Expr} {ifs : List Expr} {scope : Scope} {own : List (Str × Nat)} {wi : TI} {g : TG} {tt : TT} {te : TE} {ws : List Nat} (hc : X.calm = true) (hN : X.N.Nodup) (hy : X.N[j]? = some y) (hyl : X.env.scope.names.lookup y = some .local)
    (hsw : swapsWith (.ListComp elt [⟨tg, iter, ifs, 0⟩] scope pos) (some (.Name y py)) spos.line X.env = pure true) (hi : PDI X tg iter wi) (ok : L2.BlkOk X.N X.env.scope scope own)
    (hg : ∀ (s : Shared) (H : Hp) (C : Addr) (cl : List (Str × Addr)) (fp : List Addr), PDG (X.blk s H scope (compEnvC scope cl C X.env) fp) tg g ws) (ht : ∀ (s : Shared) (H : Hp) (C : Addr) (cl : List (Str × Addr)) (fp : List Addr), PDTs (X.blk s H scope (compEnvC scope cl C X.env) fp) ifs tt)
    (he : ∀ (s : Shared) (H : Hp) (C : Addr) (cl : List (Str × Addr)) (fp : List Addr), PD (X.blk s H scope (compEnvC scope cl C X.env) fp) elt te) (hws : ∀ j, j ∈ ws → j ∈ own.map (·.2)) (hs : ∀ x, foldedSetIterable iter X.env x = pure x := by intro _; rfl) :
    PDS X (.Assign [.Name y py] (.ListComp elt [⟨tg, iter, ifs, 0⟩] scope pos) spos) (sAsg (dLc wi g tt te (own.map (·.2))) (gName j)) :=
  ps_imp (L2.ps_setLc hc hN hy hyl hsw hi ok hg ht he hs) fun D σ H ⟨f, ρ, st, D', R, h, l⟩ =>
    lc_core (Q := fun x H1 => L2.gName j x σ H1 D.nx) hws ⟨f, ρ, st, _, R, h, fun x st1 v f1 H1 q e1 s1 r1 => l.nx _ st1 _ f1 H1 q e1 ((R.later e1 s1).put r1)⟩
end
end
end Pd
end PartPdSoundE

section PartPdSoundF
set_option Elab.async false
set_option linter.all false
set_option maxRecDepth 100000
set_option maxHeartbeats 1000000
/-! Pd over the hand layer: methods, isinstance, defs, the end. Own work. -/
namespace Pd
open PySem PySem.Spec
open PyProof.Rows (envOfC)
section
variable {X : L2.Cx} {K : Kf} {f f' : List Addr} {H H' : Hp} {st st' : Store} {ρ : Env} {σ : L2.St}
/-! ### methods -/
def RealM (K : Kf) (r : L2.V → List L2.V → Hp → L2.VK → Prop) (k : KM) : Prop := ∀ (f : List Addr) (st : Store) (H : Hp) (x : D) (xs : List D) (v : L2.V) (vs : List L2.V) (Q' : Pd.K) (Q : L2.VK), RelS K f st H → RD K f H x v → RDs K f H xs vs → k x xs st Q' → LQ K f H Q' Q → r v vs H Q
def RealTy (K : Kf) (T : String) (ty : D → Store → Prop) : Prop := ∀ (f : List Addr) (st : Store) (H : Hp) (x : D) (v : L2.V), RelS K f st H → RD K f H x v → ty x st → L2.tyV K T v H
section
variable {a b c e o i : Expr} {es : List Expr} {ta tb te to ti : TE} {pos apos : Pos} {name : Str} {T id : String}
theorem pd_m {r : L2.V → List L2.V → Hp → L2.VK → Prop} {k : KM} {ty : D → Store → Prop} {ts : TA} (hm : L2.MtR X id r) (hk : RealM X.K r k) (ht : RealTy X.K T ty) (pa : PlainAttrs T) (slot : Slot T name id) (hty : typeOf (.builtin id) = pure (.type "method_descriptor")) (ho : PD X o to) (ha : PDA X (e :: es) ts)
    (hbase : attributeBase o name X.env (eval o X.env) = eval o X.env := by rfl)
    (hfew : ((backTo pos (starEach (e :: es) X.env)).all (fun x => !x.1) && (backToKw pos (keywordEach [] X.env)).all (fun x => x.1.isSome)
      && decide ((e :: es).length + ([] : List Keyword).length + (if ([] : List Keyword).isEmpty then 0 else 1) < 30)) = true := by rfl)
    (hline : (apos.endLine == pos.line) = true := by rfl) (hs : starEach (e :: es) X.env = (false, eval e X.env) :: starEach es X.env := by rfl) (hplain : (backTo pos (starEach es X.env)).any (·.1) = false := by rfl) :
    PD X (.Call (.Attribute o name apos) (e :: es) [] pos) (dM ty k to ts) :=
  pe_imp (L2.pe_bm pa slot hty hm ho ha hbase hfew hline hs hplain) fun σ H Q ⟨f, ρ, st, Q', R, h, l⟩ => ⟨f, ρ, st, _, R, h, fun x st1 v f1 H1 q1 e1 s1 r1 => ⟨ht f1 st1 H1 x v s1 r1 q1.1, f1, ρ, st1, _, R.later e1 s1, q1.2, fun xs st2 vs f2 H2 q2 e2 s2 r2 => hk f2 st2 H2 x xs v vs Q' Q s2 (r1.mono e2) r2 q2 (l.later (e1.trans e2))⟩⟩
end
theorem ty_list : RealTy K "list" tyLst := fun f st H x v s r h => by
  cases x <;> try (exact h.elim)
  rw [RD.ref] at r
  obtain ⟨a, e, rfl⟩ := r
  obtain ⟨xs, h⟩ := h
  obtain ⟨a', vs, k1, k2, k3⟩ := s.rdL h
  rw [e] at k1; cases k1
  exact .inl ⟨rfl, vs, .of k2⟩
theorem ty_str : RealTy K "str" tyStr := fun f st H x v s r h => by
  cases x <;> try (exact h.elim)
  rw [RD.str] at r
  subst r
  rfl
theorem real_append : RealM K L2.rAppend appendM := fun f st H x xs v vs Q' Q s r1 r2 h l => by
  cases x <;> try (exact h.elim)
  match xs, h with
  | [], h => exact h.elim
  | _ :: _ :: _, h => exact h.elim
  | [y], h =>
    rw [RD.ref] at r1
    obtain ⟨a, e, rfl⟩ := r1
    obtain ⟨w, rfl, r3⟩ := r2.inv1
    obtain ⟨ys, h1, h2, h3⟩ := h
    obtain ⟨a', us, k1, k2, k3⟩ := s.rdL h1
    rw [e] at k1; cases k1
    obtain ⟨s', e'⟩ := s.put e h1 k2 (k3.append (RDs.one r3))
    exact ⟨a, us, w, rfl, rfl, k2, by rw [k3.length, ← szl_eq]; exact h2, l _ _ _ f _ h3 e' s' (RD.non.mpr rfl)⟩
theorem real_extend : RealM K L2.rExtend extendM := fun f st H x xs v vs Q' Q s r1 r2 h l => by
  cases x <;> try (exact h.elim)
  match xs, h with
  | [], h => exact h.elim
  | _ :: _ :: _, h => rename_i y _ _; cases y <;> exact h.elim
  | [.non], h => exact h.elim
  | [.bl _], h => exact h.elim
  | [.int _], h => exact h.elim
  | [.str _], h => exact h.elim
  | [.tup _], h => exact h.elim
  | [.ref m], h =>
    rw [RD.ref] at r1
    obtain ⟨a, e, rfl⟩ := r1
    obtain ⟨w, rfl, r3⟩ := r2.inv1
    rw [RD.ref] at r3
    obtain ⟨b, e2, rfl⟩ := r3
    obtain ⟨ys, zs, h1, h2, h3, h4, h5⟩ := h
    obtain ⟨a', us, k1, k2, k3⟩ := s.rdL h1
    obtain ⟨b', ws, j1, j2, j3⟩ := s.rdL h2
    rw [e] at k1; cases k1
    rw [e2] at j1; cases j1
    obtain ⟨s', e'⟩ := s.put e h1 k2 (k3.append j3)
    exact ⟨a, b, us, ws, rfl, rfl, k2, j2, by rw [k3.length, j3.length, ← szl_eq]; exact h4, l _ _ _ f _ h5 e' s' (RD.non.mpr rfl)⟩
theorem real_popAt : RealM K L2.rPopAt popM := fun f st H x xs v vs Q' Q s r1 r2 h l => by
  cases x <;> try (exact h.elim)
  match xs, h with
  | [], h => exact h.elim
  | _ :: _ :: _, h => rename_i y _ _; cases y <;> exact h.elim
  | [.non], h => exact h.elim
  | [.bl _], h => exact h.elim
  | [.ref _], h => exact h.elim
  | [.str _], h => exact h.elim
  | [.tup _], h => exact h.elim
  | [.int i], h =>
    rw [RD.ref] at r1
    obtain ⟨a, e, rfl⟩ := r1
    obtain ⟨w, rfl, r3⟩ := r2.inv1
    rw [RD.int] at r3
    subst r3
    obtain ⟨ys, d, h1, h2, h3, h4⟩ := h
    obtain ⟨a', us, k1, k2, k3⟩ := s.rdL h1
    rw [e] at k1; cases k1
    unfold atD at h3
    rw [if_pos h2.1] at h3
    have hl := (List.getElem?_eq_some_iff.mp h3).1
    obtain ⟨u, g1, g2⟩ := k3.get h3
    obtain ⟨s', e'⟩ := s.put e h1 k2 (k3.eraseIdx i.toNat)
    have hus := k3.length
    exact ⟨a, us, i, i.toNat, u, rfl, rfl, k2, by omega, by omega, seqIndex_of h2.1 (by omega), g1, l _ _ _ f _ h4 e' s' (g2.mono e')⟩
theorem real_index : RealM K (L2.rIndex K) indexM := fun f st H x xs v vs Q' Q s r1 r2 h l => by
  cases x <;> try (exact h.elim)
  match xs, h with
  | [], h => exact h.elim
  | _ :: _ :: _, h => exact h.elim
  | [y], h =>
    rw [RD.ref] at r1
    obtain ⟨a, e, rfl⟩ := r1
    obtain ⟨w, rfl, r3⟩ := r2.inv1
    obtain ⟨ys, j, z, h1, h2, h3, h4, h5, h6, h7⟩ := h
    obtain ⟨a', us, k1, k2, k3⟩ := s.rdA h1
    rw [e] at k1; cases k1
    obtain ⟨u, g1, g2⟩ := k3.get h4
    have fl : ∀ (m : Nat) (z : D), ys[m]? = some z → z.flat = true := fun m z hz => by
      rw [List.all_eq_true] at h3
      exact h3 z (List.mem_of_getElem? hz)
    refine ⟨a, us, w, j, u, rfl, rfl, k2, r3.flatV h2, k3.flatV h3, g1, by rw [g2.eqV r3 (fl j z h4) h2]; exact h5, fun m z' hm hz => ?_, l.now s h7 (RD.int.mpr rfl)⟩
    have hml : m < ys.length := by rw [← k3.length]; exact (List.getElem?_eq_some_iff.mp hz).1
    obtain ⟨u', g3, g4⟩ := k3.get (show ys[m]? = some ys[m] by simp [hml])
    rw [hz] at g3; cases g3
    rw [g4.eqV r3 (fl m _ (by simp [hml])) h2]
    exact h6 m _ hm (by simp [hml])

/-! ### the built-ins' values -/
theorem bt_int : bootBuiltins "int" = some (.type "int") := by decide +kernel
theorem bt_abs : bootBuiltins "abs" = some (.builtin "abs") := by decide +kernel
theorem bt_len : bootBuiltins "len" = some (.builtin "len") := by decide +kernel
theorem bt_min : bootBuiltins "min" = some (.builtin "min") := by decide +kernel
theorem bt_max : bootBuiltins "max" = some (.builtin "max") := by decide +kernel
theorem bt_list : bootBuiltins "list" = some (.type "list") := by decide +kernel
theorem bt_tuple : bootBuiltins "tuple" = some (.type "tuple") := by decide +kernel
theorem bt_sum : bootBuiltins "sum" = some (.builtin "sum") := by decide +kernel
theorem bt_all : bootBuiltins "all" = some (.builtin "all") := by decide +kernel
theorem bt_any : bootBuiltins "any" = some (.builtin "any") := by decide +kernel
theorem bt_sorted : bootBuiltins "sorted" = some (.builtin "sorted") := by decide +kernel
theorem bt_bool : bootBuiltins "bool" = some (.type "bool") := by decide +kernel
theorem bt_str : bootBuiltins "str" = some (.type "str") := by decide +kernel
theorem bt_repr : bootBuiltins "repr" = some (.builtin "repr") := by decide +kernel
theorem bt_set : bootBuiltins "set" = some (.type "set") := by decide +kernel
theorem bt_dict : bootBuiltins "dict" = some (.type "dict") := by decide +kernel

/-! ### isinstance -/
def tyN : Ty → String
  | .int => "int" | .bool => "bool" | .str => "str" | .tuple => "tuple" | .list => "list"
theorem SqT.ty {a : Addr} {vs : List L2.V} (h : L2.SqT K H a vs) : L2.TyX K H (.ref a) (.type "tuple") := by
  rcases h with (h | ⟨o, h⟩) | ⟨o, its, n, h1, h2, _⟩
  · exact .base (.tup h)
  · exact .fTuple h
  · exact .kTuple h1 h2
theorem isTy_kit {x : D} {v : L2.V} {t : Ty} {Q' : Bool → Prop} (s : RelS K f st H) (r : RD K f H x v) (h : isTy x st t Q') : ∃ (u : Value) (b : Bool), L2.TyX K H v u ∧ PySem.W.kitOne K u (.type (tyN t)) = some b ∧ Q' b := by
  cases x with
  | non => rw [RD.non] at r; subst r; exact ⟨_, false, .base .non, L2.kit_ty (by cases t <;> decide +kernel), h⟩
  | bl b => rw [RD.bl] at r; subst r; exact ⟨_, _, .base (.bl b), L2.kit_ty (by cases t <;> decide +kernel), h⟩
  | int i => rw [RD.int] at r; subst r; exact ⟨_, _, .base (.int i), L2.kit_ty (by cases t <;> decide +kernel), h⟩
  | str y => rw [RD.str] at r; subst r; exact ⟨_, _, .base (.str y), L2.kit_ty (by cases t <;> decide +kernel), h⟩
  | tup xs =>
    rw [RD.tup] at r
    obtain ⟨a, vs, rfl, q, d⟩ := r
    exact ⟨_, _, SqT.ty q, L2.kit_ty (by cases t <;> decide +kernel), h⟩
  | ref n =>
    rw [RD.ref] at r
    obtain ⟨a, e, rfl⟩ := r
    obtain ⟨xs, h1, h2⟩ := h
    obtain ⟨a', vs, k1, k2, k3⟩ := s.rdL h1
    rw [e] at k1; cases k1
    exact ⟨_, _, .base (.lst k2), L2.kit_ty (by cases t <;> decide +kernel), h2⟩
theorem pd_isi {a : Expr} {ta : TE} {p pos q : Pos} {T : Str} (t : Ty) (hg : L2.Gl X "isinstance") (hm : X.mg "isinstance" = none) (hT : T = Str.ofString (tyN t)) (hgT : L2.Gl X T) (hmT : X.mg T = none) (hv : bootBuiltins T = some (.type (tyN t))) (ha : PD X a ta)
    (hs : starEach [a, .Name T q] X.env = (false, eval a X.env) :: starEach [.Name T q] X.env := by rfl) : PD X (.Call (.Name "isinstance" p) [a, .Name T q] [] pos) (dIsi t ta) := by
  have hT1 : T ≠ "__name__" := by rw [hT]; cases t <;> decide
  have hT2 : (T == ("__debug__" : Str)) = false := by rw [hT]; cases t <;> decide
  have pT : L2.PE X (.Name T q) (L2.tC (.ty (tyN t))) := L2.pe_bltn hgT hmT hv rfl hT1 hT2
  refine pe_imp (L2.pe_callB L2.call_isi hg hm (by decide +kernel) (L2.pa_cons ha (L2.pa_cons pT L2.pa_nil rfl) hs) (by decide) (by decide) hs rfl) fun σ H Q ⟨f, ρ, st, Q', R, h, l⟩ => ⟨f, ρ, st, _, R, h, fun x st1 v f1 H1 q1 e1 s1 r1 => ?_⟩
  obtain ⟨u, b, h1, h2, h3⟩ := isTy_kit s1 r1 q1
  exact ⟨v, .ty (tyN t), u, _, b, rfl, .ty _, h1, h2, l _ st1 _ f1 H1 h3 e1 s1 (RD.bl.mpr rfl)⟩

/-! ### defs -/
theorem start_rel {n : Nat} {ds : List D} {vs : List L2.V} {N : List Str} (s : RelS K f st H) (r : RDs K f H ds vs) (hn : n = N.length) : Rel K f (start n ds) st (L2.start N vs) H := by
  have hl := r.length
  have lk_app : ∀ (ds : List D) (m i : Nat) (d : D), lk (ds.map some ++ List.replicate m none) i = some d → ds[i]? = some d := by
    intro ds
    induction ds with
    | nil =>
      intro m
      induction m with
      | zero => intro i d h; simp [lk] at h
      | succ m ih =>
        intro i d h
        cases i with
        | zero => simp [lk, List.replicate_succ] at h
        | succ i =>
          have := ih i d (by simpa [lk, List.replicate_succ] using h)
          simp at this
    | cons x ds ih =>
      intro m i d h
      cases i with
      | zero => simpa [lk] using h
      | succ i =>
        have := ih m i d (by simpa [lk] using h)
        simpa using this
  refine ⟨s, fun i d h => ?_, ?_⟩
  · have hd := lk_app ds _ i d h
    obtain ⟨v, h1, h2⟩ := r.get hd
    refine ⟨v, ?_, h2⟩
    unfold L2.start
    have hi := (List.getElem?_eq_some_iff.mp h1).1
    rw [List.getElem?_append_left (by simpa using hi), List.getElem?_map, h1]
    rfl
  · unfold start L2.start
    simp only [List.length_append, List.length_map, List.length_replicate]
    omega
/-- the def's own facts, and that its body keeps what is run -/
structure Step (P : Program) (w : World) (K : Kf) (mg : Str → Option Value) (base : Heap) (names : List String) (x : String) (d : Def) : Prop where
  ex : ∃ (fa : Addr) (fd : FuncData) (ps : List Str), mg x = some (.ref fa) ∧ PySem.W.keepIn K (.ref fa) = true ∧ L2.Binds K fd ps [] ∧ d.ps = ps.length ∧
    ∀ (k : Nat) (c : Cl), (∀ y ∈ names, Own P w K mg base k (Str.ofString y) (c y)) → L2.FnOk P w K mg base L2.CX0 (k + 1) fa fd ps (liftF K ps.length (d.run c))
variable {P : Program} {w : World} {mg : Str → Option Value} {base : Heap} {names : List String}
theorem fn_ok {qual x : Str} {sm : Stmt} {fa : Addr} {fd : FuncData} {N ps : List Str} {k : Nat} {d : Def} {c : Cl} (F : L2.Fun K x qual sm fa fd) (S : L2.FnScope N ps (L2.defScope sm)) (hn : d.ns = N.length) (hp : d.ps = ps.length)
    (der : ∀ (cdv : Value) (A : Around) (outer : List PySem.Env) (s : Shared) (H : Hp) (E : L2.XK), L2.Room k (A.deeper (envOfC qual (L2.defScope sm) s.heap.objs.size fa cdv)) →
      PDSs (L2.cxOf L2.CX0 P w K mg base N qual (L2.defScope sm) fa cdv A outer s H E).nox (L2.defBody sm) (d.body c)) : L2.FnOk P w K mg base L2.CX0 (k + 1) fa fd ps (liftF K ps.length (d.run c)) := by
  refine F.ok S (fun vs H Q E h => h.1) (fun cdv A outer s H vs Q E hr h => ⟨_, der cdv A outer s H E hr, ?_⟩)
  obtain ⟨_, f, st, ds, Q', s', r, ⟨hl, h⟩, l⟩ := h
  refine ⟨f, start d.ns ds, st, _, start_rel s' r hn, h, ?_⟩
  exact ⟨fun ρ1 st1 σ1 f1 H1 q e r1 => l .non st1 .non f1 H1 q e r1.toRelS (RD.non.mpr rfl), l, fun _ _ _ _ _ q _ _ => q, fun _ _ _ _ _ q _ _ => q⟩
theorem fn_zero {fa : Addr} {fd : FuncData} {ps : List Str} {n : Nat} : L2.FnOk P w K mg base L2.CX0 0 fa fd ps (liftF K n fun _ _ _ => False) :=
  ⟨fun vs H Q E h => by obtain ⟨_, _, _, _, _, _, _, h, _⟩ := h; exact h.elim, fun A outer s H args us vs Q E hr e0 hb hv h => by obtain ⟨_, _, _, _, _, _, _, h, _⟩ := h; exact h.elim⟩
theorem all_own {prog : String → Option Def} (hs : ∀ x ∈ names, ∃ d, prog x = some d ∧ Step P w K mg base names x d) : ∀ (k : Nat) (x : String), x ∈ names → Own P w K mg base k (Str.ofString x) (callN prog k x)
  | 0, x, hx => by
    obtain ⟨d, h1, fa, fd, ps, h2, h3, h4, h5, h6⟩ := hs x hx
    exact ⟨fa, fd, ps, fn_zero, h2, h3, h4, fun _ _ _ h => h.elim⟩
  | k + 1, x, hx => by
    obtain ⟨d, h1, fa, fd, ps, h2, h3, h4, h5, h6⟩ := hs x hx
    refine ⟨fa, fd, ps, (h6 k _ fun y hy => all_own hs k y hy).imp fun vs H Q E ⟨g0, f, st, ds, Q', s, r, ⟨d', e', g⟩, l⟩ => ?_, h2, h3, h4, fun ds st Q ⟨d', e', g⟩ => ?_⟩
    · rw [h1] at e'; cases e'
      exact ⟨g0, f, st, ds, Q', s, r, g, l⟩
    · rw [h1] at e'; cases e'
      exact g.1.trans h5
/-- the law's call, from the data-level statement -/
theorem law_sp {c : List D → Store → Pd.K → Prop} {H : Hp} {a : Addr} {ns : List Int} (h : c [.ref 0] [.frz (ns.map D.int)] fun d _ => d = .bl true) (hO : L2.Only H) (hS : L2.SqL K H a (ns.map L2.V.int)) : liftF K 1 c [.ref a] H (fun v _ => v = .bl true) fun _ _ _ => False := by
  refine ⟨rfl, [a], [.frz (ns.map D.int)], [.ref 0], _, ⟨rfl, fun n m c c' b h1 h2 m1 m2 h3 h4 => ?_, fun n c' b h1 h2 => ?_⟩, RDs.one (RD.ref.mpr ⟨a, rfl, rfl⟩), h, fun d st' v f' H' q e s r => ?_⟩
  · match n, h1 with
    | 0, h1 => simp at h1; subst h1; cases m1
    | n + 1, h1 => simp at h1
  · match n, h1, h2 with
    | 0, h1, h2 =>
      simp at h1 h2
      subst h1; subst h2
      refine ⟨ns.map L2.V.int, ?_, RDs.of_ints ns⟩
      rcases hS with (hS | ⟨o, hS⟩) | hS
      · rcases hO a with q | ⟨o, xs, q⟩ <;> rw [q] at hS <;> cases hS
      · exact .inl ⟨o, hS⟩
      · exact .inr hS
    | n + 1, h1, _ => simp at h1
  · subst q
    rw [RD.bl] at r
    exact r
end
end Pd
end PartPdSoundF

section PartPdTac
set_option Elab.async false
set_option linter.all false
set_option maxRecDepth 100000
/-! Pd: how a data-level statement is walked. Own work. -/
namespace Pd
open PySem

/-- one step of a reading: it suffices to show P' -/
class Red (P : Prop) (P' : outParam Prop) : Prop where
  red : P' → P
/-- look-up and store of slots, by the environment's shape -/
class Lk (σ : Env) (i : Nat) (d : outParam D) : Prop where
  eq : lk σ i = some d
class SetE (σ : Env) (i : Nat) (d : Option D) (σ' : outParam Env) : Prop where
  eq : σ.set i d = σ'
instance : Lk (some d :: σ) 0 d := ⟨rfl⟩
instance [h : Lk σ n d] : Lk (x :: σ) (n + 1) d := ⟨h.eq⟩
instance : SetE (x :: σ) 0 d (d :: σ) := ⟨rfl⟩
instance [h : SetE σ n d σ'] : SetE (x :: σ) (n + 1) d (x :: σ') := ⟨by rw [List.set_cons_succ, h.eq]⟩
class WipeE (σ : Env) (vs : List Nat) (σ' : outParam Env) : Prop where
  eq : wipeE σ vs = σ'
instance : WipeE σ [] σ := ⟨rfl⟩
instance [h : WipeE σ vs σ'] [h2 : SetE σ' v none σ''] : WipeE σ (v :: vs) σ'' := ⟨by show (wipeE σ vs).set v none = σ''; rw [h.eq, h2.eq]⟩

section
variable {σ σ' : Env} {st st' : Store} {Q : K} {d x y z : D} {ta tb tc te to ti : TE} {T U : TT} {Ar Br : TA} {D0 : Ends} {S S' : TS} {xs ys : List D}
-- statements
instance : Red (sSeq S S' D0 σ st) (S { D0 with nx := fun σ' st' => Nxt (S' D0 σ' st') } σ st) := ⟨id⟩
instance : Red (sNext D0 σ st) (D0.nx σ st) := ⟨id⟩
instance : Red (sBreak D0 σ st) (D0.bk σ st) := ⟨id⟩
instance : Red (sCont D0 σ st) (D0.ct σ st) := ⟨id⟩
instance : Red (sExpr te D0 σ st) (te σ st fun _ st1 => D0.nx σ st1) := ⟨id⟩
instance : Red (sRet te D0 σ st) (te σ st D0.rt) := ⟨id⟩
instance : Red (sRetN D0 σ st) (D0.rt .non st) := ⟨id⟩
instance : Red (sIf T S S' D0 σ st) (T σ st fun b st1 => (b = true → S D0 σ st1) ∧ (b = false → S' D0 σ st1)) := ⟨id⟩
instance {g : TG} : Red (sAsg te g D0 σ st) (te σ st fun x st1 => g x σ st1 D0.nx) := ⟨id⟩
instance : Red (sPar i j Ar D0 σ st) (Ar σ st fun xs st1 => ∃ x y, xs = [x, y] ∧ D0.nx ((σ.set i (some x)).set j (some y)) st1) := ⟨id⟩
instance [h : Lk σ i x] : Red (sAug i k te D0 σ st) (te σ st fun y st1 => k x y st1 fun z st2 => gName i z σ st2 D0.nx) := ⟨fun p => ⟨x, h.eq, p⟩⟩
instance : Red (sAugL k to ti te D0 σ st) (to σ st fun o st1 => ti σ st1 fun i st2 => ixLK o i st2 fun x st3 => te σ st3 fun y st4 => k x y st4 fun z st5 => setK o i z st5 fun st6 => D0.nx σ st6) := ⟨id⟩
instance {i : TI} {g : TG} : Red (sFor i g S D0 σ st) (i σ st fun I st1 => forLoop I.guard g S D0 I.items σ st1) := ⟨id⟩
-- targets
instance {q : Env → Store → Prop} [h : SetE σ i (some d) σ'] : Red (gName i d σ st q) (q σ' st) := ⟨fun p => by show q (σ.set i (some d)) st; rw [h.eq]; exact p⟩
instance {q : Env → Store → Prop} : Red (gSub to ti d σ st q) (to σ st fun o st1 => ti σ st1 fun i st2 => setK o i d st2 fun st3 => q σ st3) := ⟨id⟩
instance {q : Env → Store → Prop} {gs : TGs} : Red (gTup gs n (.tup xs) σ st q) (xs.length = n ∧ gs xs σ st q) := ⟨fun p => ⟨xs, rfl, p⟩⟩
instance {q : Env → Store → Prop} : Red (gsNil [] σ st q) (q σ st) := ⟨fun p => ⟨rfl, p⟩⟩
instance {q : Env → Store → Prop} {g : TG} {gs : TGs} : Red (gsCons g gs (d :: xs) σ st q) (g d σ st fun σ1 st1 => gs xs σ1 st1 q) := ⟨fun p => ⟨d, xs, rfl, p⟩⟩
-- expressions
instance : Red (dC d σ st Q) (Q d st) := ⟨id⟩
instance [h : Lk σ i d] : Red (dVar i σ st Q) (Q d st) := ⟨fun p => ⟨d, h.eq, p⟩⟩
instance : Red (dOp k ta tb σ st Q) (ta σ st fun x st1 => tb σ st1 fun y st2 => k x y st2 Q) := ⟨id⟩
instance : Red (dUn k ta σ st Q) (ta σ st fun x st1 => k x st1 Q) := ⟨id⟩
instance : Red (dCmp k ta tb σ st Q) (ta σ st fun x st1 => tb σ st1 fun y st2 => k x y st2 fun b => Q (.bl b) st2) := ⟨id⟩
instance : Red (dChain k k' ta tb tc σ st Q) (ta σ st fun x st1 => tb σ st1 fun y st2 => k x y st2 fun b => (b = true → tc σ st2 fun z st3 => k' y z st3 fun b' => Q (.bl b') st3) ∧ (b = false → Q (.bl false) st2)) := ⟨id⟩
instance : Red (dAndT ta tb σ st Q) (ta σ st fun x st1 => truK x st1 fun c => (c = true → tb σ st1 Q) ∧ (c = false → Q x st1)) := ⟨id⟩
instance : Red (dOrT ta tb σ st Q) (ta σ st fun x st1 => truK x st1 fun c => (c = true → Q x st1) ∧ (c = false → tb σ st1 Q)) := ⟨id⟩
instance : Red (dNotT ta σ st Q) (ta σ st fun x st1 => truK x st1 fun c => Q (.bl (!c)) st1) := ⟨id⟩
instance : Red (dIf T ta tb σ st Q) (T σ st fun k st1 => (k = true → ta σ st1 Q) ∧ (k = false → tb σ st1 Q)) := ⟨id⟩
instance : Red (dSl te tl th σ st Q) (te σ st fun x st1 => tl σ st1 fun lo st2 => th σ st2 fun hi st3 => slK x lo hi st3 Q) := ⟨id⟩
instance {q : Option Int → Store → Prop} : Red (oNone σ st q) (q none st) := ⟨id⟩
instance {q : Option Int → Store → Prop} : Red (oSome te σ st q) (te σ st fun x st1 => ∃ i, x = .int i ∧ q (some i) st1) := ⟨id⟩
instance {q : List D → Store → Prop} : Red (aNil σ st q) (q [] st) := ⟨id⟩
instance {q : List D → Store → Prop} : Red (aCons te Ar σ st q) (te σ st fun x st1 => Ar σ st1 fun xs st2 => q (x :: xs) st2) := ⟨id⟩
instance : Red (dTup Ar σ st Q) (Ar σ st fun xs st1 => xs.length ≤ szl ∧ Q (.tup xs) st1) := ⟨id⟩
instance : Red (dLst Ar σ st Q) (Ar σ st fun xs st1 => xs.length ≤ szl ∧ Q (.ref st1.length) (st1 ++ [.lst xs])) := ⟨id⟩
instance : Red (dCall c f Ar σ st Q) (Ar σ st fun xs st1 => c f xs st1 Q) := ⟨id⟩
instance : Red (dB k Ar σ st Q) (Ar σ st fun xs st1 => k xs st1 Q) := ⟨id⟩
instance : Red (dM ty k to Ar σ st Q) (to σ st fun o st1 => ty o st1 ∧ Ar σ st1 fun xs st2 => k o xs st2 Q) := ⟨id⟩
instance : Red (dIsi t te σ st Q) (te σ st fun x st1 => isTy x st1 t fun b => Q (.bl b) st1) := ⟨id⟩
instance {i : TI} {g : TG} [h : WipeE σ vs σ'] : Red (dLc i g T te vs σ st Q) (i σ st fun I st1 => lcLoop I.guard g T te σ' st1.length Q I.items [] (st1 ++ [.lst []])) := ⟨fun p => by unfold dLc; rw [h.eq]; exact p⟩
-- tests
instance {q : Bool → Store → Prop} : Red (tTru te σ st q) (te σ st fun x st1 => truK x st1 fun b => q b st1) := ⟨id⟩
instance {q : Bool → Store → Prop} : Red (tAnd T U σ st q) (T σ st fun c st1 => (c = true → U σ st1 q) ∧ (c = false → q false st1)) := ⟨id⟩
instance {q : Bool → Store → Prop} : Red (tOr T U σ st q) (T σ st fun c st1 => (c = true → q true st1) ∧ (c = false → U σ st1 q)) := ⟨id⟩
instance {q : Bool → Store → Prop} : Red (tNot T σ st q) (T σ st fun c st1 => q (!c) st1) := ⟨id⟩
instance {q : Bool → Store → Prop} : Red (tYes σ st q) (q true st) := ⟨id⟩
-- iterables
instance {R : Iter → Store → Prop} : Red (iSeq te σ st R) (te σ st fun x st1 => itK x st1 R) := ⟨id⟩
instance {R : Iter → Store → Prop} : Red (iR1 te σ st R) (te σ st fun x st1 => ∃ j, x = .int j ∧ -(2 ^ 62) ≤ j ∧ j < 2 ^ 62 ∧ R ⟨rng 0 j.toNat, fun _ => True⟩ st1) := ⟨id⟩
instance {R : Iter → Store → Prop} : Red (iR2 ta tb σ st R) (ta σ st fun x st1 => tb σ st1 fun y st2 => ∃ i j, x = .int i ∧ y = .int j ∧ (-(2 ^ 62) ≤ i ∧ i < 2 ^ 62 ∧ -(2 ^ 62) ≤ j ∧ j < 2 ^ 62) ∧ R ⟨rng i (j - i).toNat, fun _ => True⟩ st2) := ⟨id⟩
instance {R : Iter → Store → Prop} : Red (iZip2 ta tb σ st R) (ta σ st fun x st1 => tb σ st1 fun y st2 => zipK x y st2 R) := ⟨id⟩
instance {R : Iter → Store → Prop} : Red (itK (.tup xs) st R) (R ⟨xs, fun _ => True⟩ st) := ⟨id⟩
instance {R : Iter → Store → Prop} : Red (zipK (.tup xs) (.tup ys) st R) (R ⟨zipD xs ys, fun _ => True⟩ st) := ⟨id⟩
-- values
section
variable {a b : Int} {u v : Str} {p q : Bool}
instance : Red (addK (.int a) (.int b) st Q) (Q (.int (a + b)) st) := ⟨id⟩
instance : Red (addK (.tup xs) (.tup ys) st Q) (xs.length + ys.length ≤ szl ∧ Q (.tup (xs ++ ys)) st) := ⟨id⟩
instance : Red (addK (.str u) (.str v) st Q) (u.length + v.length ≤ szl ∧ Q (.str (u ++ v)) st) := ⟨id⟩
instance : Red (iaddK (.int a) (.int b) st Q) (Q (.int (a + b)) st) := ⟨id⟩
instance : Red (subK (.int a) (.int b) st Q) (Q (.int (a - b)) st) := ⟨id⟩
instance : Red (mulK (.int a) (.int b) st Q) (cMul a b ∧ Q (.int (a * b)) st) := ⟨id⟩
instance : Red (fdivK (.int a) (.int b) st Q) ((0 < b ∧ b < 1073741824) ∧ Q (.int (a / b)) st) := ⟨id⟩
instance : Red (modK (.int a) (.int b) st Q) (0 < b ∧ Q (.int (a % b)) st) := ⟨id⟩
instance : Red (powK (.int a) (.int b) st Q) (cPow a b ∧ Q (.int (a ^ b.toNat)) st) := ⟨id⟩
instance : Red (shlK (.int a) (.int b) st Q) (cPow a b ∧ Q (.int (a * 2 ^ b.toNat)) st) := ⟨id⟩
instance : Red (shrK (.int a) (.int b) st Q) (0 ≤ b ∧ Q (.int (a / 2 ^ b.toNat)) st) := ⟨id⟩
instance : Red (andK (.int a) (.int b) st Q) (Q (.int (Builtin.bitAnd a b)) st) := ⟨id⟩
instance : Red (orK (.int a) (.int b) st Q) (Q (.int (Builtin.bitOr a b)) st) := ⟨id⟩
instance : Red (xorK (.int a) (.int b) st Q) (Q (.int (Builtin.bitXor a b)) st) := ⟨id⟩
instance : Red (negK (.int a) st Q) (Q (.int (-a)) st) := ⟨id⟩
instance : Red (invK (.int a) st Q) (Q (.int (Builtin.bitNot a)) st) := ⟨id⟩
instance {r : Bool → Prop} : Red (ltC (.int a) (.int b) st r) (r (decide (a < b))) := ⟨id⟩
instance {r : Bool → Prop} : Red (leC (.int a) (.int b) st r) (r (decide (a ≤ b))) := ⟨id⟩
instance {r : Bool → Prop} : Red (gtC (.int a) (.int b) st r) (r (decide (b < a))) := ⟨id⟩
instance {r : Bool → Prop} : Red (geC (.int a) (.int b) st r) (r (decide (b ≤ a))) := ⟨id⟩
theorem eq_ii {r : Bool → Prop} (h : r (decide (a = b))) : eqC (.int a) (.int b) st r := by
  have e : D.eqb (.int a) (.int b) = decide (a = b) := by
    simp only [D.eqb]
    by_cases e : a = b <;> simp [e]
  refine ⟨by simp [D.okd], by simp [D.okd], ?_⟩
  rw [e]; exact h
theorem eq_ss {r : Bool → Prop} (h : okS u = true ∧ okS v = true ∧ r (decide (u = v))) : eqC (.str u) (.str v) st r := by
  refine ⟨by simpa [D.okd] using h.1, by simpa [D.okd] using h.2.1, ?_⟩
  simpa [D.eqb] using h.2.2
instance {r : Bool → Prop} : Red (eqC (.int a) (.int b) st r) (r (decide (a = b))) := ⟨eq_ii⟩
instance {r : Bool → Prop} : Red (neC (.int a) (.int b) st r) (r (!decide (a = b))) := ⟨fun h => eq_ii (r := fun b => r (!b)) h⟩
instance {r : Bool → Prop} : Red (eqC (.str u) (.str v) st r) (okS u = true ∧ okS v = true ∧ r (decide (u = v))) := ⟨eq_ss⟩
instance {r : Bool → Prop} : Red (neC (.str u) (.str v) st r) (okS u = true ∧ okS v = true ∧ r (!decide (u = v))) := ⟨fun h => eq_ss (r := fun b => r (!b)) h⟩
instance {r : Bool → Prop} : Red (isC x .non st r) (r (isNon x)) := ⟨fun h => by cases x <;> exact h⟩
instance {r : Bool → Prop} : Red (isntC x .non st r) (r (!isNon x)) := ⟨fun h => by cases x <;> exact h⟩
instance {r : Bool → Prop} : Red (truK (.bl p) st r) (r p) := ⟨id⟩
instance {r : Bool → Prop} : Red (truK (.int a) st r) (r (a != 0)) := ⟨id⟩
instance {r : Bool → Prop} : Red (truK .non st r) (r false) := ⟨id⟩
instance {r : Bool → Prop} : Red (truK (.tup xs) st r) (r (!xs.isEmpty)) := ⟨id⟩
instance : Red (ixK (.tup xs) (.int a) st Q) (∃ d, atD xs a = some d ∧ Q d st) := ⟨id⟩
instance : Red (slK (.tup xs) lo hi st Q) (Q (.tup (cutD xs lo hi)) st) := ⟨id⟩
instance : Red (intB [.int a] st Q) (Q (.int a) st) := ⟨id⟩
instance : Red (intB [.bl p] st Q) (Q (.int (b2i p)) st) := ⟨id⟩
instance : Red (absB [.int a] st Q) (Q (.int (if a < 0 then -a else a)) st) := ⟨id⟩
instance : Red (lenB [.tup xs] st Q) (Q (.int xs.length) st) := ⟨id⟩
instance : Red (min2B [.int a, .int b] st Q) (Q (.int (if b < a then b else a)) st) := ⟨id⟩
instance : Red (max2B [.int a, .int b] st Q) (Q (.int (if b > a then b else a)) st) := ⟨id⟩
instance : Red (listB [.tup xs] st Q) (Q (.ref st.length) (st ++ [.lst xs])) := ⟨id⟩
instance : Red (tupleB [.tup xs] st Q) (Q (.tup xs) st) := ⟨id⟩
instance {r : Bool → Prop} : Red (isTy (.int a) st t r) (r (decide (t = .int))) := ⟨id⟩
instance {r : Bool → Prop} : Red (isTy (.bl p) st t r) (r (decide (t = .bool) || decide (t = .int))) := ⟨id⟩
instance {r : Bool → Prop} : Red (isTy (.tup xs) st t r) (r (decide (t = .tuple))) := ⟨id⟩
instance {r : Bool → Prop} : Red (isTy .non st t r) (r false) := ⟨id⟩
instance {P : Int → Prop} : Red (∃ i, D.int a = D.int i ∧ P i) (P a) := ⟨fun h => ⟨a, rfl, h⟩⟩
instance {P : Int → Int → Prop} : Red (∃ i j, D.int a = D.int i ∧ D.int b = D.int j ∧ P i j) (P a b) := ⟨fun h => ⟨a, b, rfl, rfl, h⟩⟩
-- known ways
instance {A B : Prop} : Red ((true = true → A) ∧ (true = false → B)) A := ⟨fun h => ⟨fun _ => h, fun e => nomatch e⟩⟩
instance {A B : Prop} : Red ((false = true → A) ∧ (false = false → B)) B := ⟨fun h => ⟨fun e => (nomatch e), fun _ => h⟩⟩
end
end

/-! lemmas for what is open -/
theorem way {b : Bool} {A B : Prop} (h1 : b = true → A) (h2 : b = false → B) : (b = true → A) ∧ (b = false → B) := ⟨h1, h2⟩
theorem wayT {b : Bool} {A B : Prop} (h : b = true) (h1 : A) : (b = true → A) ∧ (b = false → B) := ⟨fun _ => h1, fun e => by rw [h] at e; cases e⟩
theorem wayF {b : Bool} {A B : Prop} (h : b = false) (h1 : B) : (b = true → A) ∧ (b = false → B) := ⟨fun e => (by rw [h] at e; cases e), fun _ => h1⟩
/-- where ways meet: J holds there -/
theorem seq_cut {S S' : TS} {D0 : Ends} {σ : Env} {st : Store} (J : Env → Store → Prop) (h : ∀ N : Env → Store → Prop, (∀ σ st, J σ st → N σ st) → S { D0 with nx := N } σ st) (hJ : ∀ σ st, J σ st → S' D0 σ st) : sSeq S S' D0 σ st := h _ fun σ st j => ⟨hJ σ st j⟩
class StartE (n : Nat) (ds : List D) (σ : outParam Env) : Prop where
  eq : start n ds = σ
instance : StartE 0 [] [] := ⟨rfl⟩
instance [h : StartE n [] σ] : StartE (n + 1) [] (none :: σ) := ⟨by rw [← h.eq]; unfold start; simp [List.replicate_succ]⟩
instance [h : StartE n ds σ] : StartE (n + 1) (d :: ds) (some d :: σ) := ⟨by rw [← h.eq]; unfold start; simp⟩
/-- a call of a def of the program -/
theorem call_intro {prog : String → Option Def} {k : Nat} {f : String} {ds : List D} {st : Store} {Q : K} {ps ns : Nat} {body : Cl → TS} {σ : Env} (h : prog f = some ⟨ps, ns, body⟩) (hl : ds.length = ps) [hσ : StartE ns ds σ] (hb : body (callN prog k) { nx := fun _ st' => Q .non st', rt := Q } σ st) : callN prog (k + 1) f ds st Q :=
  ⟨_, h, hl, by rw [hσ.eq]; exact hb⟩

/-! ### loops -/
/-- a for by an invariant over the items gone through; N: what the body is to reach -/
theorem for_inv {gd : Store → Prop} {g : TG} {tb : TS} {D0 : Ends} (Pv : List D → Env → Store → Prop) {items : List D} 
    (hs : ∀ pre x post σ st, items = pre ++ x :: post → Pv pre σ st → ∀ N : Env → Store → Prop, (∀ σ st, Pv (pre ++ [x]) σ st → N σ st) → gd st ∧ g x σ st fun σ2 st2 => tb { D0 with nx := N, ct := N, bk := D0.nx } σ2 st2)
    (hd : ∀ σ st, Pv items σ st → gd st ∧ D0.nx σ st) : ∀ (todo pre : List D) {σ : Env} {st : Store}, items = pre ++ todo → Pv pre σ st → forLoop gd g tb D0 todo σ st
  | [], pre, σ, st, e, h => by
    rw [List.append_nil] at e
    subst e
    exact hd σ st h
  | x :: post, pre, σ, st, e, h => hs pre x post σ st e h _ fun σ st h' => for_inv Pv hs hd post (pre ++ [x]) (by rw [e]; simp) h'
theorem for_by {gd : Store → Prop} {g : TG} {tb : TS} {D0 : Ends} {items : List D} {σ : Env} {st : Store} (Pv : List D → Env → Store → Prop) (h0 : Pv [] σ st)
    (hs : ∀ pre x post σ st, items = pre ++ x :: post → Pv pre σ st → ∀ N : Env → Store → Prop, (∀ σ st, Pv (pre ++ [x]) σ st → N σ st) → gd st ∧ g x σ st fun σ2 st2 => tb { D0 with nx := N, ct := N, bk := D0.nx } σ2 st2)
    (hd : ∀ σ st, Pv items σ st → gd st ∧ D0.nx σ st) : forLoop gd g tb D0 items σ st := for_inv Pv hs hd items [] rfl h0
/-- over range(n) -/
theorem for_rng {gd : Store → Prop} {g : TG} {tb : TS} {D0 : Ends} {lo : Int} {n : Nat} {σ : Env} {st : Store} (Pv : Nat → Env → Store → Prop) (h0 : Pv 0 σ st)
    (hs : ∀ k σ st, k < n → Pv k σ st → ∀ N : Env → Store → Prop, (∀ σ st, Pv (k + 1) σ st → N σ st) → gd st ∧ g (.int (lo + k)) σ st fun σ2 st2 => tb { D0 with nx := N, ct := N, bk := D0.nx } σ2 st2)
    (hd : ∀ σ st, Pv n σ st → gd st ∧ D0.nx σ st) : forLoop gd g tb D0 (rng lo n) σ st := by
  refine for_by (fun pre σ st => Pv pre.length σ st) h0 (fun pre x post σ st e h N hN => ?_) (fun σ st h => hd σ st (by simpa [rng] using h))
  have hl : pre.length < n := by
    have := congrArg List.length e
    simp [rng] at this
    omega
  have hx : x = .int (lo + pre.length) := by
    have h2 : (rng lo n)[pre.length]? = some x := by rw [e]; simp
    unfold rng at h2
    rw [List.getElem?_map, List.getElem?_range hl] at h2
    simpa using h2.symm
  subst hx
  exact hs pre.length σ st hl h N fun σ st h' => hN σ st (by simpa using h')
/-- a comprehension by an invariant; N: behind the element, M: where a test leaves it out -/
theorem lc_inv {gd : Store → Prop} {g : TG} {tt : TT} {te : TE} {ρ : Env} {n : Nat} {Q : K} (Pv : List D → List D → Store → Prop) {items : List D}
    (hs : ∀ pre x post acc st, items = pre ++ x :: post → Pv pre acc st → ∀ (N : D → Store → Prop) (M : Store → Prop), (∀ y st', rdL st' n acc → acc.length < szl → Pv (pre ++ [x]) (acc ++ [y]) (st'.set n (.lst (acc ++ [y]))) → N y st') → (∀ st', rdL st' n acc → Pv (pre ++ [x]) acc st' → M st') →
      gd st ∧ g x ρ st fun ρ2 st2 => tt ρ2 st2 fun b st3 => (b = true → te ρ2 st3 N) ∧ (b = false → M st3))
    (hd : ∀ acc st, Pv items acc st → gd st ∧ rdL st n acc ∧ Q (.ref n) st) : ∀ (todo pre acc : List D) {st : Store}, items = pre ++ todo → Pv pre acc st → lcLoop gd g tt te ρ n Q todo acc st
  | [], pre, acc, st, e, h => by
    rw [List.append_nil] at e
    subst e
    exact hd acc st h
  | x :: post, pre, acc, st, e, h => hs pre x post acc st e h _ _ (fun y st' h1 h2 h3 => ⟨h1, h2, lc_inv Pv hs hd post (pre ++ [x]) (acc ++ [y]) (by rw [e]; simp) h3⟩) fun st' h1 h2 => ⟨h1, lc_inv Pv hs hd post (pre ++ [x]) acc (by rw [e]; simp) h2⟩
theorem lc_by {gd : Store → Prop} {g : TG} {tt : TT} {te : TE} {ρ : Env} {n : Nat} {Q : K} {items : List D} {st : Store} (Pv : List D → List D → Store → Prop) (h0 : Pv [] [] st)
    (hs : ∀ pre x post acc st, items = pre ++ x :: post → Pv pre acc st → ∀ (N : D → Store → Prop) (M : Store → Prop), (∀ y st', rdL st' n acc → acc.length < szl → Pv (pre ++ [x]) (acc ++ [y]) (st'.set n (.lst (acc ++ [y]))) → N y st') → (∀ st', rdL st' n acc → Pv (pre ++ [x]) acc st' → M st') →
      gd st ∧ g x ρ st fun ρ2 st2 => tt ρ2 st2 fun b st3 => (b = true → te ρ2 st3 N) ∧ (b = false → M st3))
    (hd : ∀ acc st, Pv items acc st → gd st ∧ rdL st n acc ∧ Q (.ref n) st) : lcLoop gd g tt te ρ n Q items [] st := lc_inv Pv hs hd items [] [] rfl h0
theorem set_app {α : Type} (xs : List α) (a b : α) : (xs ++ [a]).set xs.length b = xs ++ [b] := by
  rw [List.set_append_right _ _ (Nat.le_refl _)]; simp
/-- the element reads alone: the new list is the map -/
theorem lc_map {α : Type} {gd : Store → Prop} {g : TG} {te : TE} {ρ : Env} {st : Store} {Q : K} (xs : List α) (f h : α → D) {items : List D} (hi : items = xs.map f) (hl : xs.length ≤ szl) (hg : ∀ acc, gd (st ++ [.lst acc]))
    (hs : ∀ x, x ∈ xs → ∀ (acc : List D) (N : D → Store → Prop), N (h x) (st ++ [.lst acc]) → g (f x) ρ (st ++ [.lst acc]) fun ρ2 st2 => te ρ2 st2 N)
    (hd : Q (.ref st.length) (st ++ [.lst (xs.map h)])) : lcLoop gd g tYes te ρ st.length Q items [] (st ++ [.lst []]) := by
  subst hi
  refine lc_by (fun pre acc st' => acc = (xs.take pre.length).map h ∧ st' = st ++ [.lst acc]) ⟨rfl, rfl⟩ (fun pre x post acc st' e ⟨h1, h2⟩ N M hN hM => ?_) (fun acc st' ⟨h1, h2⟩ => ?_)
  · subst h1; subst h2
    refine ⟨hg _, ?_⟩
    have hlen : pre.length < xs.length := by
      have := congrArg List.length e
      simp at this; omega
    have hx : xs[pre.length] ∈ xs := List.getElem_mem hlen
    have hfx : x = f xs[pre.length] := by
      have h2 : (xs.map f)[pre.length]? = some x := by rw [e]; simp
      rw [List.getElem?_map, List.getElem?_eq_getElem hlen] at h2
      simpa using h2.symm
    subst hfx
    have e1 : (fun (ρ2 : Env) (st2 : Store) => tYes ρ2 st2 fun b st3 => (b = true → te ρ2 st3 N) ∧ (b = false → M st3)) = fun ρ2 st2 => te ρ2 st2 N := by
      funext ρ2 st2
      exact propext ⟨fun q => q.1 rfl, fun q => ⟨fun _ => q, fun e => nomatch e⟩⟩
    rw [e1]
    refine hs _ hx _ N (hN _ _ (by unfold rdL; simp) (by simp; omega) ⟨?_, ?_⟩)
    · rw [List.length_append]
      show _ = List.map h (List.take (pre.length + 1) xs)
      rw [List.take_add_one, List.map_append, List.getElem?_eq_getElem hlen]
      rfl
    · rw [set_app]
  · subst h1; subst h2
    have e2 : List.take (List.map f xs).length xs = xs := by simp
    rw [e2] at *
    exact ⟨hg _, by unfold rdL; simp, hd⟩
theorem map_id_int (xs : List Int) : xs.map D.int = xs.map D.int := rfl
end Pd
end PartPdTac

section PartPdMore
set_option Elab.async false
set_option linter.all false
set_option maxRecDepth 100000
/-! Pd: more readings: texts split, range as a list or a tuple, sorted. Own work. -/
namespace Pd
open PySem
def splitM : KM
  | .str a, [.str b], st, Q => (b.length == 0) = false ∧ a.length + 2 ≤ szl ∧ Q (.ref st.length) (st ++ [.lst ((PySem.Txt.split a b).map D.str)])
  | _, _, _, _ => False
/-- range(..) as an argument -/
abbrev TR := Env → Store → (Int → Int → Store → Prop) → Prop
def rg1 (t : TE) : TR := fun σ st Q => t σ st fun x st1 => ∃ j, x = .int j ∧ Q 0 j st1
def rg2 (t u : TE) : TR := fun σ st Q => t σ st fun x st1 => u σ st1 fun y st2 => ∃ i j, x = .int i ∧ y = .int j ∧ Q i j st2
def rgOk (a b : Int) : Prop := -(2 ^ 62) ≤ a ∧ a < 2 ^ 62 ∧ -(2 ^ 62) ≤ b ∧ b < 2 ^ 62 ∧ (b - a).toNat ≤ 2 ^ 24
def dLR (r : TR) : TE := fun σ st Q => r σ st fun a b st1 => rgOk a b ∧ Q (.ref st1.length) (st1 ++ [.lst (rng a (b - a).toNat)])
def dTR (r : TR) : TE := fun σ st Q => r σ st fun a b st1 => rgOk a b ∧ Q (.tup (rng a (b - a).toNat)) st1
/-- sorted: of whole numbers -/
def sortedB : KB
  | [.ref n], st, Q => ∃ ns : List Int, rdA st n (ns.map D.int) ∧ ∀ ns' : List Int, ns'.Perm ns → ns'.Pairwise (· ≤ ·) → Q (.ref st.length) (st ++ [.lst (ns'.map D.int)])
  | _, _, _ => False
/-- a call of a def with n parameters and one that takes what is left over -/
def dCallS (c : Cl) (f : String) (n : Nat) (t : TA) : TE := fun σ st Q => t σ st fun xs st1 => n ≤ xs.length ∧ (xs.drop n).length ≤ szl ∧ c f (xs.take n ++ [.tup (xs.drop n)]) st1 Q
section
variable {c : Cl} {fn : String} {nn : Nat} {Ar : TA}
instance {σ : Env} {st : Store} {Q : K} : Red (dCallS c fn nn Ar σ st Q) (Ar σ st fun xs st1 => nn ≤ xs.length ∧ (xs.drop nn).length ≤ szl ∧ c fn (xs.take nn ++ [.tup (xs.drop nn)]) st1 Q) := ⟨id⟩
end
section
variable {σ : Env} {st : Store} {Q : K} {r : TR} {ta tb : TE} {q : Int → Int → Store → Prop} {a b : Int} {u v : Str}
instance : Red (dLR r σ st Q) (r σ st fun a b st1 => rgOk a b ∧ Q (.ref st1.length) (st1 ++ [.lst (rng a (b - a).toNat)])) := ⟨id⟩
instance : Red (dTR r σ st Q) (r σ st fun a b st1 => rgOk a b ∧ Q (.tup (rng a (b - a).toNat)) st1) := ⟨id⟩
instance : Red (rg1 ta σ st q) (ta σ st fun x st1 => ∃ j, x = .int j ∧ q 0 j st1) := ⟨id⟩
instance : Red (rg2 ta tb σ st q) (ta σ st fun x st1 => tb σ st1 fun y st2 => ∃ i j, x = .int i ∧ y = .int j ∧ q i j st2) := ⟨id⟩
instance : Red (splitM (.str u) [.str v] st Q) ((v.length == 0) = false ∧ u.length + 2 ≤ szl ∧ Q (.ref st.length) (st ++ [.lst ((PySem.Txt.split u v).map D.str)])) := ⟨id⟩
instance : Red (tyStr (.str u) st) True := ⟨id⟩
end
end Pd
end PartPdMore

section PartPdSoundG
set_option Elab.async false
set_option linter.all false
set_option maxRecDepth 100000
set_option maxHeartbeats 1000000
/-! Pd over the hand layer: texts split, range as a list or a tuple, sorted. Own work. -/
namespace Pd
open PySem PySem.Spec
section
variable {X : L2.Cx} {K : Kf} {f f' : List Addr} {H H' : Hp} {st st' : Store} {ρ : Env} {σ : L2.St}
theorem RDs.of_strs : ∀ (ss : List Str), RDs K f H (ss.map D.str) (ss.map L2.V.str)
  | [] => by simp [RDs.nil]
  | n :: ns => by
    rw [List.map_cons, List.map_cons, RDs.cons]
    exact ⟨_, _, rfl, by rw [RD.str], RDs.of_strs ns⟩
theorem real_split : RealM K (fun x xs H Q => ∃ a b, x = .str a ∧ xs = [.str b] ∧ (b.length == 0) = false ∧ a.length + 2 ≤ sizeLine ∧ L2.rNewStrs (Txt.split a b) H Q) splitM := fun f st H x xs v vs Q' Q s r1 r2 h l => by
  cases x <;> try (exact h.elim)
  match xs, h with
  | [], h => exact h.elim
  | y :: _ :: _, h => cases y <;> exact (show False from h).elim
  | [y], h =>
    cases y <;> try (exact h.elim)
    rw [RD.str] at r1
    obtain ⟨w, rfl, r3⟩ := r2.inv1
    rw [RD.str] at r3
    subst r1; subst r3
    obtain ⟨h1, h2, h3⟩ := h
    exact ⟨_, _, rfl, rfl, h1, by rw [← szl_eq]; exact h2, fun p hp => l.lst s h3 (RDs.of_strs _) hp⟩
/-! range(..) as an argument -/
def liftR (K : Kf) (t : TR) : L2.St → Hp → (Int → Int → Hp → Prop) → Prop := fun σ H Q => ∃ f ρ st Q', Rel K f ρ st σ H ∧ t ρ st Q' ∧ ∀ (a b : Int) (st' : Store) (f' : List Addr) (H' : Hp), Q' a b st' → Ext K f H f' H' → RelS K f' st' H' → Q a b H'
abbrev PDR (X : L2.Cx) (e : Expr) (t : TR) : Prop := L2.PRg X e (liftR X.K t)
theorem prg_imp {e : Expr} {t t' : L2.St → Hp → (Int → Int → Hp → Prop) → Prop} (h : L2.PRg X e t) (m : ∀ σ H Q, t' σ H Q → t σ H Q) : L2.PRg X e t' := fun pins s σ H Q I q => h pins s σ H Q I (m σ H Q q)
section
variable {a b e : Expr} {ta tb : TE} {tr : TR} {pos : Pos}
theorem pr_1 {p : Pos} (hg : L2.Gl X "range") (hm : X.mg "range" = none) (ha : PD X a ta) (na : starEach [a] X.env = (false, eval a X.env) :: starEach [] X.env := by rfl) : PDR X (.Call (.Name "range" p) [a] [] pos) (rg1 ta) :=
  prg_imp (L2.prg_1 hg hm ha na) fun σ H R ⟨f, ρ, st, R', Re, h, l⟩ => ⟨f, ρ, st, _, Re, h, fun x st1 v f1 H1 q1 e1 s1 r1 => by
    obtain ⟨j, rfl, h1⟩ := q1
    rw [RD.int] at r1
    subst r1
    exact ⟨j, rfl, l _ _ st1 f1 H1 h1 e1 s1⟩⟩
theorem pr_2 {p : Pos} (hg : L2.Gl X "range") (hm : X.mg "range" = none) (ha : PD X a ta) (hb : PD X b tb) (na : starEach [a, b] X.env = (false, eval a X.env) :: starEach [b] X.env := by rfl)
    (nb : starEach [b] X.env = (false, eval b X.env) :: starEach [] X.env := by rfl) (hp : (backTo pos (starEach [b] X.env)).any (·.1) = false := by rfl) : PDR X (.Call (.Name "range" p) [a, b] [] pos) (rg2 ta tb) :=
  prg_imp (L2.prg_2 hg hm ha hb na nb hp) fun σ H R ⟨f, ρ, st, R', Re, h, l⟩ => ⟨f, ρ, st, _, Re, h, fun x st1 v f1 H1 q1 e1 s1 r1 => ⟨f1, ρ, st1, _, Re.later e1 s1, q1, fun y st2 w f2 H2 q2 e2 s2 r2 => by
    obtain ⟨i, j, rfl, rfl, h3⟩ := q2
    have r1' := r1.mono e2
    rw [RD.int] at r1' r2
    subst r1'; subst r2
    exact ⟨i, j, rfl, rfl, l _ _ st2 f2 H2 h3 (e1.trans e2) s2⟩⟩⟩
theorem rng_rgV (a b : Int) : RDs K f H (rng a (b - a).toNat) (L2.rgV a b) := by
  have e1 : rng a (b - a).toNat = ((List.range (b - a).toNat).map fun (k : Nat) => a + (k : Int)).map D.int := by unfold rng; simp
  have e2 : L2.rgV a b = ((List.range (b - a).toNat).map fun (k : Nat) => a + (k : Int)).map L2.V.int := by unfold L2.rgV; simp
  rw [e1, e2]; exact RDs.of_ints _
theorem pd_listRg {p : Pos} (hc : X.calm = true) (hg : L2.Gl X "list") (hm : X.mg "list" = none) (he : PDR X e tr) (na : starEach [e] X.env = (false, eval e X.env) :: starEach [] X.env := by rfl) : PD X (.Call (.Name "list" p) [e] [] pos) (dLR tr) :=
  pe_imp (L2.pe_listRg hc hg hm he na) fun σ H Q ⟨f, ρ, st, Q', R, h, l⟩ => ⟨f, ρ, st, _, R, h, fun a b st1 f1 H1 q1 e1 s1 => ⟨q1.1, fun p hp => (l.later e1).lst s1 q1.2 (rng_rgV a b) hp⟩⟩
theorem pd_tupRg {p : Pos} (hc : X.calm = true) (hg : L2.Gl X "tuple") (hm : X.mg "tuple" = none) (he : PDR X e tr) (na : starEach [e] X.env = (false, eval e X.env) :: starEach [] X.env := by rfl) : PD X (.Call (.Name "tuple" p) [e] [] pos) (dTR tr) :=
  pe_imp (L2.pe_tupRg hc hg hm he na) fun σ H Q ⟨f, ρ, st, Q', R, h, l⟩ => ⟨f, ρ, st, _, R, h, fun a b st1 f1 H1 q1 e1 s1 => ⟨q1.1, fun p hp => (l.later e1).tup s1 q1.2 (rng_rgV a b) hp⟩⟩
end
theorem real_sortedB : RealB K (L2.rSortedI K) sortedB :=
  realB1 (kb1 (fun _ _ h => h) fun x y xs st Q h => by cases x <;> exact h) fun f st H x v Q' Q s r h l => by
    cases x <;> try (exact h.elim)
    rw [RD.ref] at r
    obtain ⟨a, e, rfl⟩ := r
    obtain ⟨ns, h1, h2⟩ := h
    obtain ⟨a', vs, k1, k2, d⟩ := s.rdA h1
    rw [e] at k1; cases k1
    exact ⟨a, ns, rfl, by rw [← d.ints]; exact k2, fun ns' p hp hi hn => l.lst s (h2 ns' hp hi) (RDs.of_ints ns') hn⟩
end
end Pd
end PartPdSoundG

section PartPdSoundH
set_option Elab.async false
set_option linter.all false
set_option maxRecDepth 100000
set_option maxHeartbeats 1000000
/-! Pd over the hand layer: defs whose last parameter takes what is left over. Own work. -/
namespace Pd
open PySem PySem.Spec
open PyProof.Rows (envOfC)
/-- what a def with n parameters and a star one promises -/
def starF (K : Kf) (n : Nat) (c : List D → Store → Pd.K → Prop) : L2.Sp := fun vs H Q E => ∃ ws rest : List L2.V, vs = ws ++ rest ∧ ws.length = n ∧ rest.length ≤ sizeLine ∧ ∀ p, H p = Option.none → liftF K (n + 1) c (ws ++ [L2.V.ref p]) (L2.upd H p (.tup rest)) Q E
structure OwnS (P : Program) (w : World) (K : Kf) (mg : Str → Option Value) (base : Heap) (k : Nat) (n : Nat) (x : Str) (c : List D → Store → Pd.K → Prop) : Prop where
  ex : ∃ fa : Addr, L2.FnR P w K mg base L2.CX0 k fa (starF K n c) ∧ mg x = some (.ref fa) ∧ PySem.W.keepIn K (.ref fa) = true
section
variable {X : L2.Cx} {K : Kf} {f f' : List Addr} {H H' : Hp} {st st' : Store} {a : Expr} {es : List Expr} {pos : Pos}
theorem pd_callS {x : Str} {p : Pos} {k n : Nat} {ts : TA} {cl : Cl} {y : String} (o : OwnS X.prog X.w X.K X.mg X.base k n x (cl y)) (hr : L2.Room k X.A) (hg : L2.Gl X x) (ha : PDA X (a :: es) ts) (hdb : (x == ("__debug__" : Str)) = false := by decide)
    (he : starEach (a :: es) X.env = (false, eval a X.env) :: starEach es X.env := by rfl) (hpl : (backTo pos (starEach es X.env)).any (·.1) = false := by rfl) : PD X (.Call (.Name x p) (a :: es) [] pos) (dCallS cl y n ts) := by
  obtain ⟨fa, F, hm, hk⟩ := o.ex
  have step : L2.PE X (.Call (.Name x p) (a :: es) [] pos) (fun σ H Q => liftA X.K ts σ H fun vs H1 => starF X.K n (cl y) vs H1 Q fun _ _ _ => False) := by
    constructor
    intro pins s σ H Q I h
    refine wpAny_Call_Name_kw (L2.ld_glob I hg hm ?_ hdb)
    have args := ha.run pos pins s σ H _ I h
    exact PySem.W.callWith_K (h₀ := X.base) I.ok.mod.kin hk (wpAny_mono args (fun us s1 ⟨vs, H1, I1, r, q⟩ => ⟨I1.kIn, wpAny_call (L2.run_fnR F hr L2.pass0 I1 r q)⟩) fun _ _ z => z) he hpl
  refine pe_imp step fun σ H Q ⟨f, ρ, st, Q', R, h, l⟩ => ⟨f, ρ, st, _, R, h, fun xs st1 vs f1 H1 ⟨h1, h2, h3⟩ e1 s1 r1 => ?_⟩
  have hvl := r1.length
  refine ⟨vs.take n, vs.drop n, (List.take_append_drop n vs).symm, by rw [List.length_take]; omega, ?_, fun p hp => ?_⟩
  · rw [List.length_drop, hvl, ← szl_eq]; rw [List.length_drop] at h2; exact h2
  · have s2 := s1.lay (o := .tup (vs.drop n)) hp
    obtain ⟨s2, e2⟩ := s2
    refine ⟨by rw [List.length_append, List.length_take]; simp; omega, f1, st1, xs.take n ++ [.tup (xs.drop n)], Q', s2, ?_, h3, (l.later e1).later e2⟩
    refine RDs.append ((r1.take n).mono e2) (RDs.one (RD.tup.mpr ⟨p, vs.drop n, rfl, .of L2.upd_same, (r1.drop n).mono e2⟩))
end
section
variable {P : Program} {w : World} {K : Kf} {mg : Str → Option Value} {base : Heap} {names : List String} {snames : List (String × Nat)}
/-- as Step, with both kinds of own defs -/
structure Step2 (P : Program) (w : World) (K : Kf) (mg : Str → Option Value) (base : Heap) (names : List String) (snames : List (String × Nat)) (x : String) (d : Def) : Prop where
  ex : ∃ (fa : Addr) (fd : FuncData) (ps : List Str), mg x = some (.ref fa) ∧ PySem.W.keepIn K (.ref fa) = true ∧ L2.Binds K fd ps [] ∧ d.ps = ps.length ∧
    ∀ (k : Nat) (c : Cl), (∀ y ∈ names, Own P w K mg base k (Str.ofString y) (c y)) → (∀ q ∈ snames, OwnS P w K mg base k q.2 (Str.ofString q.1) (c q.1)) → L2.FnOk P w K mg base L2.CX0 (k + 1) fa fd ps (liftF K ps.length (d.run c))
structure StepS (P : Program) (w : World) (K : Kf) (mg : Str → Option Value) (base : Heap) (names : List String) (snames : List (String × Nat)) (x : String) (n : Nat) (d : Def) : Prop where
  ex : ∃ fa : Addr, mg x = some (.ref fa) ∧ PySem.W.keepIn K (.ref fa) = true ∧
    ∀ (k : Nat) (c : Cl), (∀ y ∈ names, Own P w K mg base k (Str.ofString y) (c y)) → (∀ q ∈ snames, OwnS P w K mg base k q.2 (Str.ofString q.1) (c q.1)) → L2.FnR P w K mg base L2.CX0 (k + 1) fa (starF K n (d.run c))
theorem fnS_ok {qual x pv : Str} {sm : Stmt} {fa : Addr} {fd : FuncData} {N ps : List Str} {k : Nat} {d : Def} {c : Cl} (F : L2.Fun K x qual sm fa fd) (S : L2.FnScope N (ps ++ [pv]) (L2.defScope sm)) (hn : d.ns = N.length) (hp : d.ps = ps.length + 1)
    (hb : ∀ (kV doc pm : Value) (an : Option Addr) (cdv ct : Value) (us rest : List Value), us.length = ps.length → bindArgs (PySem.W.fnOf x qual (L2.defArgs sm) (L2.defBody sm) (L2.defScope sm) .none kV doc pm an cdv ct) ⟨us ++ rest, []⟩ = (newTuple rest >>= fun t => pure (ps.zip us ++ [(pv, t)])))
    (der : ∀ (cdv : Value) (A : Around) (outer : List PySem.Env) (s : Shared) (H : Hp) (E : L2.XK), L2.Room k (A.deeper (envOfC qual (L2.defScope sm) s.heap.objs.size fa cdv)) →
      PDSs (L2.cxOf L2.CX0 P w K mg base N qual (L2.defScope sm) fa cdv A outer s H E).nox (L2.defBody sm) (d.body c)) : L2.FnR P w K mg base L2.CX0 (k + 1) fa (starF K ps.length (d.run c)) := by
  obtain ⟨oc, od, kV, doc, pm, an, cdv, ct, osl, rfl, look, code⟩ := F.ex
  refine StX.fn_star (sp := liftF K (ps.length + 1) (d.run c)) look code S StX.cxUp_none (hb kV doc pm an cdv ct) fun A outer s H vs Q E hr h => ?_
  refine ⟨_, (der cdv A outer s H E hr).nox, ?_⟩
  obtain ⟨_, f, st, ds, Q', s', r, ⟨hl, h⟩, l⟩ := h
  refine ⟨f, start d.ns ds, st, _, start_rel s' r hn, h, ?_⟩
  exact ⟨fun ρ1 st1 σ1 f1 H1 q e r1 => l .non st1 .non f1 H1 q e r1.toRelS (RD.non.mpr rfl), l, fun _ _ _ _ _ q _ _ => q, fun _ _ _ _ _ q _ _ => q⟩
theorem all_own2 {prog : String → Option Def} (hs : ∀ x ∈ names, ∃ d, prog x = some d ∧ Step2 P w K mg base names snames x d) (hs2 : ∀ q ∈ snames, ∃ d, prog q.1 = some d ∧ StepS P w K mg base names snames q.1 q.2 d) :
    ∀ k : Nat, (∀ x ∈ names, Own P w K mg base k (Str.ofString x) (callN prog k x)) ∧ ∀ q ∈ snames, OwnS P w K mg base k q.2 (Str.ofString q.1) (callN prog k q.1)
  | 0 => by
    refine ⟨fun x hx => ?_, fun q hq => ?_⟩
    · obtain ⟨d, h1, fa, fd, ps, h2, h3, h4, h5, h6⟩ := hs x hx
      exact ⟨fa, fd, ps, fn_zero, h2, h3, h4, fun _ _ _ h => h.elim⟩
    · obtain ⟨d, h1, fa, h2, h3, h4⟩ := hs2 q hq
      refine ⟨fa, fun A outer s H us vs Q E hr e0 r h => ?_, h2, h3⟩
      obtain ⟨ws, rest, _, _, _, h⟩ := h
      obtain ⟨_, _, _, _, _, _, _, z, _⟩ := h s.heap.objs.size (e0.hok.fresh (Nat.le_refl _))
      exact z.elim
  | k + 1 => by
    have ih := all_own2 hs hs2 k
    refine ⟨fun x hx => ?_, fun q hq => ?_⟩
    · obtain ⟨d, h1, fa, fd, ps, h2, h3, h4, h5, h6⟩ := hs x hx
      refine ⟨fa, fd, ps, (h6 k _ ih.1 ih.2).imp fun vs H Q E ⟨g0, f, st, ds, Q', s, r, ⟨d', e', g⟩, l⟩ => ?_, h2, h3, h4, fun ds st Q ⟨d', e', g⟩ => ?_⟩
      · rw [h1] at e'; cases e'
        exact ⟨g0, f, st, ds, Q', s, r, g, l⟩
      · rw [h1] at e'; cases e'
        exact g.1.trans h5
    · obtain ⟨d, h1, fa, h2, h3, h4⟩ := hs2 q hq
      refine ⟨fa, (h4 k _ ih.1 ih.2).imp fun vs H Q E ⟨ws, rest, e1, e2, e3, h⟩ => ⟨ws, rest, e1, e2, e3, fun p hp => ?_⟩, h2, h3⟩
      obtain ⟨g0, f, st, ds, Q', s, r, ⟨d', e', g⟩, l⟩ := h p hp
      rw [h1] at e'; cases e'
      exact ⟨g0, f, st, ds, Q', s, r, g, l⟩
end
end Pd
end PartPdSoundH

section PartPdDict
set_option Elab.async false
set_option linter.all false
set_option maxRecDepth 100000
/-! Pd: dicts of ints and texts. Own work. -/
namespace Pd
open PySem
abbrev Ky := Sum Int Str
def keyD : Ky → D
  | .inl i => .int i
  | .inr s => .str s
theorem keyD_inj : ∀ {a b : Ky}, keyD a = keyD b → a = b
  | .inl _, .inl _, h => by injection h with h; rw [h]
  | .inr _, .inr _, h => by injection h with h; rw [h]
  | .inl _, .inr _, h => nomatch h
  | .inr _, .inl _, h => nomatch h
def valD (kvs : List (Ky × D)) (k : Ky) : Option D := (kvs.find? fun kv => decide (kv.1 = k)).map (·.2)
def putD (kvs : List (Ky × D)) (k : Ky) (v : D) : List (Ky × D) :=
  if (kvs.any fun kv => decide (kv.1 = k)) = true then kvs.map (fun kv => if kv.1 = k then (kv.1, v) else kv) else kvs ++ [(k, v)]
/-- {} -/
def dDic : TE := fun _ st Q => Q (.ref st.length) (st ++ [.dic []])
/-- d[k] -/
def getDK : K2
  | .ref n, y, st, Q => ∃ kvs k d, rdD st n kvs ∧ y = keyD k ∧ valD kvs k = some d ∧ Q d st
  | _, _, _, _ => False
def dGet (to ti : TE) : TE := fun σ st Q => to σ st fun x st1 => ti σ st1 fun y st2 => getDK x y st2 Q
/-- d[k] = v -/
def setDK : D → D → D → Store → (Store → Prop) → Prop
  | .ref n, y, v, st, Q => ∃ kvs k, rdD st n kvs ∧ y = keyD k ∧ kvs.length < szl ∧ Q (st.set n (.dic (putD kvs k v)))
  | _, _, _, _, _ => False
def gSubD (to ti : TE) : TG := fun v σ st Q => to σ st fun o st1 => ti σ st1 fun i st2 => setDK o i v st2 fun st3 => Q σ st3
/-- sorted(d), keys whole numbers -/
def sortedDB : KB
  | [.ref n], st, Q => ∃ (kvs : List (Ky × D)) (ns : List Int), rdD st n kvs ∧ kvs.map (·.1) = ns.map Sum.inl ∧ ∀ ns' : List Int, ns'.Perm ns → ns'.Pairwise (· ≤ ·) → Q (.ref st.length) (st ++ [.lst (ns'.map D.int)])
  | _, _, _ => False
/-- {k: v for ..}: n the new cell -/
def dcLoop (gd : Store → Prop) (g : TG) (tt : TT) (tk tv : TE) (ρ : Env) (n : Nat) (Q : K) : List D → List (Ky × D) → Store → Prop
  | [], acc, st => gd st ∧ rdD st n acc ∧ Q (.ref n) st
  | x :: xs, acc, st => gd st ∧ g x ρ st fun ρ2 st2 => tt ρ2 st2 fun b st3 =>
      (b = true → tk ρ2 st3 fun y st4 => tv ρ2 st4 fun z st5 => ∃ k, y = keyD k ∧ rdD st5 n acc ∧ acc.length < szl ∧ dcLoop gd g tt tk tv ρ n Q xs (putD acc k z) (st5.set n (.dic (putD acc k z)))) ∧ (b = false → rdD st3 n acc ∧ dcLoop gd g tt tk tv ρ n Q xs acc st3)
def dDc (i : TI) (g : TG) (tt : TT) (tk tv : TE) (vs : List Nat) : TE := fun σ st Q => i σ st fun I st1 => dcLoop I.guard g tt tk tv (wipeE σ vs) st1.length Q I.items [] (st1 ++ [.dic []])
section
variable {σ σ' : Env} {st : Store} {Q : K} {to ti tk tv : TE} {d x : D} {g : TG} {tt : TT} {i : TI} {vs : List Nat} {q : Env → Store → Prop}
instance : Red (dDic σ st Q) (Q (.ref st.length) (st ++ [.dic []])) := ⟨id⟩
instance : Red (dGet to ti σ st Q) (to σ st fun x st1 => ti σ st1 fun y st2 => getDK x y st2 Q) := ⟨id⟩
instance : Red (gSubD to ti d σ st q) (to σ st fun o st1 => ti σ st1 fun i st2 => setDK o i d st2 fun st3 => q σ st3) := ⟨id⟩
instance [h : WipeE σ vs σ'] : Red (dDc i g tt tk tv vs σ st Q) (i σ st fun I st1 => dcLoop I.guard g tt tk tv σ' st1.length Q I.items [] (st1 ++ [.dic []])) := ⟨fun p => by unfold dDc; rw [h.eq]; exact p⟩
end
end Pd
end PartPdDict

section PartPdSoundI
set_option Elab.async false
set_option linter.all false
set_option maxRecDepth 100000
set_option maxHeartbeats 1000000
/-! Pd over the hand layer: dicts of ints and texts. Own work. -/
namespace Pd
open PySem PySem.Spec
section
variable {X : L2.Cx} {K : Kf} {f f' : List Addr} {H H' : Hp} {st st' : Store} {ρ : Env} {σ : L2.St}
theorem keyD_V {k : Ky} {v : L2.V} (h : RD K f H (keyD k) v) : v = L2.kV k := by
  cases k with
  | inl i => exact RD.int.mp h
  | inr s => exact RD.str.mp h
theorem vals_at : ∀ {kvs : List (Ky × D)} {ks : List (L2.Key × L2.V)}, ks.map (·.1) = kvs.map (·.1) → RDs K f H (kvs.map (·.2)) (ks.map (·.2)) → ∀ (k : Ky) (d : D), valD kvs k = some d → ∃ v, L2.valV ks k = some v ∧ RD K f H d v
  | [], _, _, _, k, d, h => by simp [valD] at h
  | (k0, d0) :: kvs, [], e, _, _, _, _ => by simp at e
  | (k0, d0) :: kvs, (k1, v1) :: ks, e, r, k, d, h => by
    simp only [List.map_cons, List.cons.injEq] at e
    obtain ⟨e1, e2⟩ := e
    rw [List.map_cons, List.map_cons, RDs.cons] at r
    obtain ⟨v, rr, er, r1, r2⟩ := r
    injection er with er1 er2
    subst er1
    have e1 : k1 = k0 := e1
    subst e1
    by_cases hk : k1 = k
    · refine ⟨v1, L2.valV_pos hk, ?_⟩
      have : valD ((k1, d0) :: kvs) k = some d0 := by simp [valD, List.find?_cons, hk]
      rw [this] at h; cases h
      exact r1
    · have : valD ((k1, d0) :: kvs) k = valD kvs k := by simp [valD, List.find?_cons, hk]
      rw [this] at h
      obtain ⟨w, h1, h2⟩ := vals_at e2 (by rw [er2]; exact r2) k d h
      exact ⟨w, (L2.valV_neg hk).trans h1, h2⟩
theorem put_at {k : Ky} {d : D} {v : L2.V} (rv : RD K f H d v) {kvs : List (Ky × D)} {ks : List (L2.Key × L2.V)} (e : ks.map (·.1) = kvs.map (·.1)) (r : RDs K f H (kvs.map (·.2)) (ks.map (·.2))) :
    (L2.putK ks k v).map (·.1) = (putD kvs k d).map (·.1) ∧ RDs K f H ((putD kvs k d).map (·.2)) ((L2.putK ks k v).map (·.2)) := by
  have hany : ∀ {kvs : List (Ky × D)} {ks : List (L2.Key × L2.V)}, ks.map (·.1) = kvs.map (·.1) → (ks.any fun kv => decide (kv.1 = k)) = (kvs.any fun kv => decide (kv.1 = k)) := by
    intro kvs ks e
    have h1 : ∀ l : List (Ky × D), (l.any fun kv => decide (kv.1 = k)) = (l.map (·.1)).any fun x => decide (x = k) := fun l => by rw [List.any_map]; rfl
    have h2 : ∀ l : List (L2.Key × L2.V), (l.any fun kv => decide (kv.1 = k)) = (l.map (·.1)).any fun x => decide (x = k) := fun l => by rw [List.any_map]; rfl
    rw [h1, h2, e]
  have hmap : ∀ {kvs : List (Ky × D)} {ks : List (L2.Key × L2.V)}, ks.map (·.1) = kvs.map (·.1) → RDs K f H (kvs.map (·.2)) (ks.map (·.2)) →
      (ks.map fun kv => if kv.1 = k then (kv.1, v) else kv).map (·.1) = (kvs.map fun kv => if kv.1 = k then (kv.1, d) else kv).map (·.1) ∧ RDs K f H ((kvs.map fun kv => if kv.1 = k then (kv.1, d) else kv).map (·.2)) ((ks.map fun kv => if kv.1 = k then (kv.1, v) else kv).map (·.2)) := by
    intro kvs
    induction kvs with
    | nil => intro ks e r; cases ks with
      | nil => exact ⟨rfl, r⟩
      | cons _ _ => simp at e
    | cons p kvs ih =>
      intro ks e r
      cases ks with
      | nil => simp at e
      | cons q ks =>
        obtain ⟨k0, d0⟩ := p
        obtain ⟨k1, v1⟩ := q
        simp only [List.map_cons, List.cons.injEq] at e
        obtain ⟨e1, e2⟩ := e
        rw [List.map_cons, List.map_cons, RDs.cons] at r
        obtain ⟨u, rr, er, r1, r2⟩ := r
        injection er with er1 er2
        have e1 : k1 = k0 := e1
        subst e1
        obtain ⟨h1, h2⟩ := ih e2 (by rw [er2]; exact r2)
        by_cases hk : k1 = k
        · simp only [List.map_cons, hk, if_true]
          refine ⟨by rw [h1], ?_⟩
          rw [RDs.cons]; exact ⟨v, _, rfl, rv, h2⟩
        · simp only [List.map_cons, hk, if_false]
          refine ⟨by rw [h1], ?_⟩
          have er1 : v1 = u := er1
          subst er1
          rw [RDs.cons]; exact ⟨v1, _, rfl, r1, h2⟩
  unfold L2.putK putD
  rw [hany e]
  split
  · exact hmap e r
  · refine ⟨by rw [List.map_append, List.map_append, e]; rfl, ?_⟩
    rw [List.map_append, List.map_append]
    exact r.append (RDs.one rv)
theorem RelS.putDic {n : Nat} {a : Addr} {kvs kvs' : List (Ky × D)} {ks ks' : List (L2.Key × L2.V)} (s : RelS K f st H) (hn : f[n]? = some a) (h : Pd.rdD st n kvs) (hH : H a = some (.dK ks)) (e : ks'.map (·.1) = kvs'.map (·.1)) (r : RDs K f H (kvs'.map (·.2)) (ks'.map (·.2))) :
    RelS K f (st.set n (.dic kvs')) (L2.upd H a (.dK ks')) ∧ Ext K f H f (L2.upd H a (.dK ks')) :=
  s.chg (c := .dic kvs) h rfl hn (.inr (.inr (.inl ⟨ks, hH⟩))) rfl ⟨ks', L2.upd_same, e, r.mono (Ext.upd0 (.inr (.inr (.inl ⟨ks, hH⟩))))⟩
section
variable {o i a b e : Expr} {to ti ta tb te : TE} {pos : Pos}
theorem pd_dic : PD X (.Dict [] [] pos) dDic :=
  pe_imp L2.pe_dnewK fun σ H Q ⟨f, ρ, st, Q', R, h, l⟩ p hp => by
    obtain ⟨s', e⟩ := R.toRelS.new (o := .dK []) (c := .dic []) hp ⟨[], L2.upd_same, rfl, RDs.nil.mpr rfl⟩
    exact l _ _ _ _ _ h e s' (RD.ref.mpr ⟨p, by rw [← R.toRelS.len]; simp, rfl⟩)
theorem pd_get {k : Nat} (hr : L2.Room k X.A) (ho : PD X o to) (hi : PD X i ti) (hs : L2.NoSl i := by intro _ _; rfl) : PD X (.Subscript o i pos) (dGet to ti) :=
  pe_imp (L2.pe_dget (L2.hu_of hr) ho hi hs) fun σ H Q ⟨f, ρ, st, Q', R, h, l⟩ => ⟨f, ρ, st, _, R, h, fun x st1 v f1 H1 q1 e1 s1 r1 => ⟨f1, ρ, st1, _, R.later e1 s1, q1, fun y st2 w f2 H2 q2 e2 s2 r2 => by
    cases x <;> try (exact q2.elim)
    obtain ⟨kvs, k, d, h1, rfl, h3, h4⟩ := q2
    have r1' := r1.mono e2
    rw [RD.ref] at r1'
    obtain ⟨a, ea, rfl⟩ := r1'
    obtain ⟨a', ks, g1, g2, g3, g4⟩ := s2.rdD h1
    rw [ea] at g1; cases g1
    obtain ⟨v, g5, g6⟩ := vals_at g3 g4 k d h3
    obtain rfl := keyD_V r2
    exact ⟨a, v, rfl, by rw [← g5]; exact L2.DGet.k g2, l d st2 v f2 H2 h4 (e1.trans e2) s2 g6⟩⟩⟩
theorem pg_subD {k : Nat} (hr : L2.Room k X.A) (h1 : PD X o to) (h2 : PD X i ti) (ha : ∀ v, assign (.Subscript o i pos) X.env v = (do
      let ov ← holding [v] (eval o X.env)
      let iv ← holding [v, ov] (eval i X.env)
      standAt pos
      holding [v, ov, iv] (setItem ov iv v)
      release [v, ov, iv] []) := by intro _; rfl) : PDG X (.Subscript o i pos) (gSubD to ti) [] :=
  pg_imp (L2.pg_sub h1 h2 (L2.set_dict (L2.hu_of hr)) ha) fun v σ H Q ⟨f, ρ, st, d, Q', R, r, h, l⟩ => ⟨f, ρ, st, _, R, h, fun x st1 u f1 H1 q1 e1 s1 r1 => ⟨f1, ρ, st1, _, R.later e1 s1, q1, fun y st2 w f2 H2 q2 e2 s2 r2 => by
    cases x <;> try (exact q2.elim)
    obtain ⟨kvs, k, h3, rfl, h4, h5⟩ := q2
    have r1' := r1.mono e2
    rw [RD.ref] at r1'
    obtain ⟨a, ea, rfl⟩ := r1'
    obtain ⟨a', ks, g1, g2, g3, g4⟩ := s2.rdD h3
    rw [ea] at g1; cases g1
    obtain ⟨p1, p2⟩ := put_at (k := k) (r.mono (e1.trans e2)) g3 g4
    obtain ⟨s3, e3⟩ := s2.putDic ea h3 g2 p1 p2
    obtain rfl := keyD_V r2
    have hlen : ks.length < sizeLine := by
      have := congrArg List.length g3
      simp at this
      rw [this, ← szl_eq]; exact h4
    exact ⟨a, _, rfl, L2.DPut.k g2 hlen, l ρ _ σ f2 _ h5 ((e1.trans e2).trans e3) (R.later ((e1.trans e2).trans e3) s3) .refl⟩⟩⟩

theorem dc_core {wi : TI} {g : TG} {tt : TT} {tk tv : TE} {vs ws : List Nat} {Q : L2.VK} (hws : ∀ j, j ∈ ws → j ∈ vs) (h : lift K (dDc wi g tt tk tv vs) σ H Q) : L2.tDc (liftI K wi) (liftG K g ws) (liftT K tt) (lift K tk) (lift K tv) vs σ H Q := by
  obtain ⟨f, ρ, st, Q', R, h, l⟩ := h
  refine ⟨f, ρ, st, _, R, h, fun I st1 J f1 H1 q1 e1 s1 rI D hD => ?_⟩
  obtain ⟨s0, e0⟩ := s1.new (o := .dK []) (c := .dic []) hD ⟨[], L2.upd_same, rfl, RDs.nil.mpr rfl⟩
  have hn0 : (f1 ++ [D])[st1.length]? = some D := by rw [← s1.len]; simp
  refine ⟨fun i m H2 => m = I.items.length - i ∧ i ≤ I.items.length ∧ ∃ f2 st2 acc, Ext K (f1 ++ [D]) (L2.upd H1 D (.dK [])) f2 H2 ∧ RelS K f2 st2 H2 ∧ Pd.rdD st2 st1.length acc ∧ dcLoop I.guard g tt tk tv (wipeE ρ vs) st1.length Q' (I.items.drop i) acc st2,
    ⟨_, rfl, Nat.zero_le _, f1 ++ [D], st1 ++ [.dic []], [], .refl, s0, by unfold Pd.rdD; simp, by simpa using q1⟩, ?_⟩
  rintro i m H2 ⟨rfl, hi, f2, st2, acc, e2, s2, hacc, q2⟩
  have eI : Ext K f1 H1 f2 H2 := e0.trans e2
  by_cases hlt : i < I.items.length
  · have hd : I.items.drop i = I.items[i] :: I.items.drop (i + 1) := by rw [List.drop_eq_getElem_cons hlt]
    rw [hd] at q2
    obtain ⟨gd, q2⟩ := q2
    refine .inr ⟨rI.go i f2 st2 H2 eI s2 gd hlt, fun H3 => ∃ f3 st3 acc', Ext K (f1 ++ [D]) (L2.upd H1 D (.dK [])) f3 H3 ∧ RelS K f3 st3 H3 ∧ Pd.rdD st3 st1.length acc' ∧ dcLoop I.guard g tt tk tv (wipeE ρ vs) st1.length Q' (I.items.drop (i + 1)) acc' st3,
      fun H3 q3 => ⟨I.items.length - (i + 1), by omega, rfl, hlt, q3⟩, fun x H3 y => ?_⟩
    obtain ⟨e3, s3, r3⟩ := rI.yld i f2 st2 H2 I.items[i] x H3 eI s2 gd (by simp [hlt]) y
    have R3 : Rel K f2 (wipeE ρ vs) st2 (L2.wipe σ vs) H3 := (Rel.wipe R).later ((e1.trans eI).trans e3) s3
    refine ⟨f2, _, st2, I.items[i], _, R3, r3, q2, fun ρ4 st4 σ4 f4 H4 q4 e4 R4 o4 => ⟨Out.wipe ⟨o4.1, fun j hj => o4.2 j fun z => hj (hws j z)⟩, ?_⟩⟩
    refine ⟨f4, ρ4, st4, _, R4, q4, fun b st5 f5 H5 q5 e5 s5 => ?_⟩
    have e15 := e2.trans (e3.trans (e4.trans e5))
    cases b with
    | false =>
      obtain ⟨h1, h2⟩ := q5.2 rfl
      exact ⟨f5, st5, acc, e15, s5, h1, h2⟩
    | true =>
      refine ⟨f5, ρ4, st5, _, R4.later e5 s5, q5.1 rfl, fun y st6 v f6 H6 q6 e6 s6 r6 => ⟨f6, ρ4, st6, _, R4.later (e5.trans e6) s6, q6, fun z st7 w f7 H7 q7 e7 s7 r7 => ?_⟩⟩
      obtain ⟨k, rfl, h1, h2, h3⟩ := q7
      have e17 := (e15.trans e6).trans e7
      obtain ⟨a', ks, k1, k2, k3, k4⟩ := s7.rdD h1
      rw [e17.at hn0] at k1; cases k1
      obtain ⟨p1, p2⟩ := put_at (k := k) r7 k3 k4
      obtain ⟨s8, e8⟩ := s7.putDic (e17.at hn0) h1 k2 p1 p2
      obtain rfl := keyD_V r6
      have hlen : ks.length < sizeLine := by
        have := congrArg List.length k3
        simp at this
        rw [this, ← szl_eq]; exact h2
      refine ⟨ks, k, rfl, k2, hlen, f7, _, putD acc k z, e17.trans e8, s8, ?_, h3⟩
      have hl : st1.length < st7.length := (List.getElem?_eq_some_iff.mp h1).1
      unfold Pd.rdD
      rw [List.getElem?_set_self hl]
  · have e : i = I.items.length := by omega
    subst e
    rw [List.drop_length] at q2
    obtain ⟨gd, h1, h2⟩ := q2
    exact .inl ⟨rI.stop f2 st2 H2 eI s2 gd, l _ st2 _ f2 H2 h2 (e1.trans eI) s2 (RD.ref.mpr ⟨D, e2.at hn0, rfl⟩)⟩
theorem pd_dc {kx vx tg iter : Expr} {ifs : List Expr} {scope : Scope} {own : List (Str × Nat)} {wi : TI} {g : TG} {tt : TT} {tk tv : TE} {ws : List Nat} (hc : X.calm = true) (hN : X.N.Nodup) (hi : PDI X tg iter wi) (ok : L2.BlkOk X.N X.env.scope scope own)
    (hg : ∀ (s : Shared) (H : Hp) (C : Addr) (cl : List (Str × Addr)) (fp : List Addr), PDG (X.blk s H scope (compEnvC scope cl C X.env) fp) tg g ws) (ht : ∀ (s : Shared) (H : Hp) (C : Addr) (cl : List (Str × Addr)) (fp : List Addr), PDTs (X.blk s H scope (compEnvC scope cl C X.env) fp) ifs tt)
    (hk : ∀ (s : Shared) (H : Hp) (C : Addr) (cl : List (Str × Addr)) (fp : List Addr), PD (X.blk s H scope (compEnvC scope cl C X.env) fp) kx tk) (he : ∀ (s : Shared) (H : Hp) (C : Addr) (cl : List (Str × Addr)) (fp : List Addr), PD (X.blk s H scope (compEnvC scope cl C X.env) fp) vx tv)
    (hws : ∀ j, j ∈ ws → j ∈ own.map (·.2)) (hs : ∀ x, foldedSetIterable iter X.env x = pure x := by intro _; rfl) :
    PD X (.DictComp kx vx [⟨tg, iter, ifs, 0⟩] scope pos) (dDc wi g tt tk tv (own.map (·.2))) :=
  pe_imp (L2.pe_dc hc hN hi ok hg ht hk he hs) fun σ H Q h => dc_core hws h
end
end
section
open PySem.W PyProof.Rows
/-- the int that a key is -/
theorem int_key {i : Int} {v : Value} (h : L2.keyIs (.inl i) v = true) : ∃ t, v = .int i t := by
  rcases L2.keyIs_shape h with ⟨j, t, e1, e2⟩ | ⟨x, t, e1, _⟩
  · cases e1; exact ⟨t, e2⟩
  · cases e1
theorem ints_keys : ∀ {vs : List Value} {ns : List Int}, vs.length = ns.length → (∀ (j : Nat) (v : Value) (i : Int), vs[j]? = some v → ns[j]? = some i → ∃ t, v = .int i t) → IntsAre vs ns
  | [], [], _, _ => .nil
  | [], _ :: _, h, _ => by simp at h
  | _ :: _, [], h, _ => by simp at h
  | v :: vs, i :: ns, h, g => by
    obtain ⟨t, rfl⟩ := g 0 v i rfl rfl
    exact .cons i t (ints_keys (by simpa using h) fun j v i h1 h2 => g (j + 1) v i (by simpa using h1) (by simpa using h2))
theorem kv_keys {ks : List (L2.Key × L2.V)} {xs : List (L2.Key × Value)} (h : L2.KV ks xs) : xs.map (·.1) = ks.map (·.1) := by
  induction h with
  | nil => rfl
  | cons p _ ih => rw [List.map_cons, List.map_cons, ih, p.1]
def rSortedDK : List L2.V → Hp → L2.VK → Prop := fun vs H Q => ∃ (a : Addr) (ks : List (L2.Key × L2.V)) (ns : List Int), vs = [L2.V.ref a] ∧ H a = some (.dK ks) ∧ ks.map (·.1) = ns.map Sum.inl ∧
  ∀ (ns' : List Int) (p : Addr), ns'.Perm ns → ns'.Pairwise (· ≤ ·) → H p = none → Q (.ref p) (L2.upd H p (.lst (ns'.map L2.V.int)))
theorem cr_sortedDK {X : L2.Cx} (hc : X.calm = true) : L2.CallR X (.builtin "sorted") rSortedDK := by
  intro pins s σ H vs us Q I r h
  obtain ⟨a, ks, ns, rfl, ha, hk, q⟩ := h
  have held := I.ok.hd hc
  rw [L2.Vals.ref1 r]
  obtain ⟨size, other, xs, rel, dict⟩ := L2.dk_rd I.hok (.inl ha)
  obtain ⟨ep, there⟩ := dict.dictAt
  have keys := (kv_keys rel).trans hk
  have many : xs.length = ns.length := by simpa using congrArg List.length keys
  have few : xs.length ≤ sizeLine := by
    have := congrArg List.length (kv_keys rel)
    simp at this
    omega
  have source := kdl_dict (prog := X.prog) (w := X.w) (knd := L2.mixKind X.prog X.w) (d := a) (kvs := xs) (ep := ep) other
  refine Calls.call_function_entry kind_sorted plain_sorted entry_sorted (args_sorted1 _) ?_
  unfold Builtin.«sorted»
  refine wpAny_bind (m := checkCount "sorted" 1 1 _) (wpAny_pure (wpAny_bind (kdu_collect (A := X.A.in1) source held there few fun h1 t1 acc old items => ?_)))
  have long : acc.toList.length = xs.length := by rw [Array.length_toList]; exact items.1
  have nums : IntsAre acc.toList ns := ints_keys (by rw [long, many]) fun j v i hv hi => by
    obtain ⟨k, x, hx, is⟩ := items.2 j v (by rw [← Array.getElem?_toList]; exact hv)
    have e : (xs.map (·.1))[j]? = some k := by rw [List.getElem?_map, hx]; rfl
    rw [keys, List.getElem?_map, hi] at e
    cases e
    exact int_key is
  refine wpAny_bind (wpAny_newList ?_ (by rw [long]; exact few))
  have made : (h1.push (seqObj "list" acc.toList.toArray 0)).get? h1.objs.size = some (seqObj "list" acc.toList.toArray 0) := Heap.get?_push_size _ rfl
  have sort := SrtO.list_sort_ord (prog := X.prog) (w := X.w) (A := X.A.in1.in1) (s := { s with heap := h1.push (seqObj "list" acc.toList.toArray 0), toks := t1 }) (E := X.xe) (vs := acc.toList)
    (R := fun fin s' => ∃ out : List Value, fin = .done (.ret .none) ∧ SrtO.Srtd SrtO.ltIv out ∧ SrtO.Stb SrtO.ltIv out acc.toList ∧ s' = { s with heap := sortedHeap (h1.push (seqObj "list" acc.toList.toArray 0)) h1.objs.size acc.toList out.toArray, toks := t1 })
    SrtO.swo_int made (by rw [long]; exact few) (fun two => SrtO.ints_sortable nums two) fun out g1 g2 => ⟨out, rfl, g1, g2, rfl⟩
  refine wpAny_bind (wpAny_holding (wpAny_call_entry slot_list_sort ⟨_, made, rfl⟩ entry_list_sort (wpAny_mono sort (fun fin s' ⟨out, e1, g1, g2, e2⟩ => ?_) fun _ _ z => z) (args_list_sort _)))
  subst e1; subst e2
  refine ⟨_, rfl, wpAny_pure ⟨_, rfl, ?_⟩⟩
  obtain ⟨k1, k2, k3⟩ := SrtO.ints_out nums g1 g2
  obtain ⟨ep', at'⟩ := sortedHeap_at (vs := acc.toList) (out := out.toArray) made
  have I1 : L2.Inv X pins σ H { s with heap := h1, toks := t1 } := I.kept (t' := t1) old
  have small : ((out.map SrtO.iv).map L2.V.int).length ≤ sizeLine := by
    rw [List.length_map, k2.length_eq, ← many]; exact few
  refine ⟨.ref h1.objs.size, L2.upd H h1.objs.size (.lst ((out.map SrtO.iv).map L2.V.int)), I1.laid (t' := t1) (fun b u z1 => ?_) (Nat.le_refl _) ⟨small, out, ep', L2.vals_of_ints k1, at'⟩, rfl, q _ _ k2 k3 (I1.hok.fresh (Nat.le_refl _))⟩
  have z2 := Heap.lt_size z1
  rw [sortedHeap_old (Nat.ne_of_lt z2) (by rw [size_push']; exact Nat.lt_succ_of_lt z2)]
  exact Heap.get?_push_of_some _ z1
theorem real_sortedDB {K : Kf} : RealB K rSortedDK sortedDB :=
  realB1 (kb1 (fun _ _ h => h) fun x y xs st Q h => by cases x <;> exact h) fun f st H x v Q' Q s r h l => by
    cases x <;> try (exact h.elim)
    rw [RD.ref] at r
    obtain ⟨a, e, rfl⟩ := r
    obtain ⟨kvs, ns, h1, h2, h3⟩ := h
    obtain ⟨a', ks, k1, k2, k3, k4⟩ := s.rdD h1
    rw [e] at k1; cases k1
    exact ⟨a, ks, ns, rfl, k2, k3.trans h2, fun ns' p hp hi hn => l.lst s (h3 ns' hp hi) (RDs.of_ints ns') hn⟩
end
section
variable {X : L2.Cx} {K : Kf} {pos : Pos}
open L2 in
/-- y = {k: v for ..}: the name is written within the comprehension's frame -/
theorem asg_dc {i : Nat} {y : Str} {py line : Pos} {kx vx tg iter : Expr} {ifs : List Expr} {scope : Scope} {own : List (Str × Nat)} {wi : L2.TI} {g : L2.TG} {tt : L2.TT} {tk tv : L2.TE} (calm : X.calm = true) (nd : X.N.Nodup) (slot : X.N[i]? = some y) (local' : X.env.scope.names.lookup y = some .local)
    (sw : swapsWith (.DictComp kx vx [⟨tg, iter, ifs, 0⟩] scope pos) (some (.Name y py)) line.line X.env = pure true) (hi : L2.PI X tg iter wi) (ok : L2.BlkOk X.N X.env.scope scope own)
    (hg : ∀ (s : Shared) (H : Hp) (C : Addr) (cl : List (Str × Addr)) (fp : List Addr), L2.PG (X.blk s H scope (compEnvC scope cl C X.env) fp) tg g)
    (ht : ∀ (s : Shared) (H : Hp) (C : Addr) (cl : List (Str × Addr)) (fp : List Addr), L2.PTs (X.blk s H scope (compEnvC scope cl C X.env) fp) ifs tt)
    (hk : ∀ (s : Shared) (H : Hp) (C : Addr) (cl : List (Str × Addr)) (fp : List Addr), L2.PE (X.blk s H scope (compEnvC scope cl C X.env) fp) kx tk)
    (hv : ∀ (s : Shared) (H : Hp) (C : Addr) (cl : List (Str × Addr)) (fp : List Addr), L2.PE (X.blk s H scope (compEnvC scope cl C X.env) fp) vx tv) (fold : ∀ x, foldedSetIterable iter X.env x = pure x := by intro _; rfl) :
    L2.PS X (.Assign [.Name y py] (.DictComp kx vx [⟨tg, iter, ifs, 0⟩] scope pos) line) (fun D σ H => L2.tDc wi g tt tk tv (own.map (·.2)) σ H fun x H1 => L2.gName i x σ H1 D.nx) := by
  constructor
  intro pins s σ H D I want
  rw [exec_Assign_Name_used _ _ _ _ sw]
  have made := L2.dc_core (pos := pos) (use := some (assign (.Name y py) X.env)) (pos' := firstIterPos [⟨tg, iter, ifs, 0⟩] pos) (Qf := fun _ s' => L2.SP X pins D .next s') calm nd I hi ok hg ht hk hv fold want fun L C s1 m H1 I1 at' ns ⟨fr0, fr1, fr2, fr3, fr4, fr5⟩ => by
    show wpAny _ _ (assign (.Name y py) X.env (.ref L)) _ _ _
    refine wpAny_assign_Name (L2.store_ok2 (v := L2.V.ref L) I1 nd slot (.inl local') rfl (fun s2 I2 ⟨b, same, where'⟩ => ?_) (.inr local'))
    have apart : C ≠ b := where'.elim (fun z => by rw [z]; exact fr1) fun z e => fr4 y b z e.symm
    exact ⟨m, ns.sameBut same apart, fun h3 sb3 => ⟨_, H1, I2.turned (t' := s2.toks) (fun c o hc z => (sb3.2 c hc).trans z) fr0 fr1 fr3 fr4 fr5, at'⟩⟩
  refine wpAny_bind (wpAny_standAt (wpAny_bind ?_))
  show wpAny _ X.A (comprehension (.DictComp kx vx [⟨tg, iter, ifs, 0⟩] scope pos) scope X.env (firstIterPos [⟨tg, iter, ifs, 0⟩] pos) newDict false (eval iter X.env) (some (assign (.Name y py) X.env)) >>= fun _ => pure ()) _ _ s
  exact wpAny_bind (wpAny_mono made (fun _ s' q => wpAny_pure (wpAny_pure q)) fun _ _ z => z)
theorem swD_true {kx vx : Expr} {gs : List Comprehension} {scope : Scope} {py : Pos} {y : Str} {l : Nat} {env : PySem.Env} (kind : env.scope.kind = .function) (loc : env.scope.names.lookup y = some .local) (at' : (py.line == pos.line) = true)
    (free : (scope.names.any fun (n, k) => n == y && (k == .local || k == .cell)) = false) : swapsWith (.DictComp kx vx gs scope pos) (some (.Name y py)) l env = pure true := by
  have k1 : env.kindOf y = some .local := loc
  have k2 : env.blockKind = .function := by unfold PySem.Env.blockKind; rw [kind]; rfl
  unfold swapsWith
  simp only [k1, k2, free, Expr.pos, at']
  rfl
theorem ps_setDc {j : Nat} {y : Str} {py spos : Pos} {kx vx tg iter : Expr} {ifs : List Expr} {scope : Scope} {own : List (Str × Nat)} {wi : TI} {g : TG} {tt : TT} {tk tv : TE} {ws : List Nat} (hc : X.calm = true) (hN : X.N.Nodup) (hy : X.N[j]? = some y) (hyl : X.env.scope.names.lookup y = some .local)
    (hsw : swapsWith (.DictComp kx vx [⟨tg, iter, ifs, 0⟩] scope pos) (some (.Name y py)) spos.line X.env = pure true) (hi : PDI X tg iter wi) (ok : L2.BlkOk X.N X.env.scope scope own)
    (hg : ∀ (s : Shared) (H : Hp) (C : Addr) (cl : List (Str × Addr)) (fp : List Addr), PDG (X.blk s H scope (compEnvC scope cl C X.env) fp) tg g ws) (ht : ∀ (s : Shared) (H : Hp) (C : Addr) (cl : List (Str × Addr)) (fp : List Addr), PDTs (X.blk s H scope (compEnvC scope cl C X.env) fp) ifs tt)
    (hk : ∀ (s : Shared) (H : Hp) (C : Addr) (cl : List (Str × Addr)) (fp : List Addr), PD (X.blk s H scope (compEnvC scope cl C X.env) fp) kx tk) (he : ∀ (s : Shared) (H : Hp) (C : Addr) (cl : List (Str × Addr)) (fp : List Addr), PD (X.blk s H scope (compEnvC scope cl C X.env) fp) vx tv)
    (hws : ∀ j, j ∈ ws → j ∈ own.map (·.2)) (hs : ∀ x, foldedSetIterable iter X.env x = pure x := by intro _; rfl) :
    PDS X (.Assign [.Name y py] (.DictComp kx vx [⟨tg, iter, ifs, 0⟩] scope pos) spos) (sAsg (dDc wi g tt tk tv (own.map (·.2))) (gName j)) :=
  ps_imp (asg_dc hc hN hy hyl hsw hi ok hg ht hk he hs) fun D σ H ⟨f, ρ, st, D', R, h, l⟩ =>
    dc_core (Q := fun x H1 => L2.gName j x σ H1 D.nx) hws ⟨f, ρ, st, _, R, h, fun x st1 v f1 H1 q e1 s1 r1 => l.nx _ st1 _ f1 H1 q e1 ((R.later e1 s1).put r1)⟩
end
end Pd
end PartPdSoundI

section PartPdMore3
set_option Elab.async false
set_option linter.all false
set_option maxRecDepth 100000
/-! Pd: more readings: list.extend of lists and tuples, list.pop(), list.reverse(), range downwards. Own work. -/
namespace Pd
open PySem
/-- extend by a list or a tuple -/
def extendAM : KM
  | .ref n, [.tup ys], st, Q => ∃ xs, rdL st n xs ∧ xs.length + ys.length ≤ szl ∧ Q .non (st.set n (.lst (xs ++ ys)))
  | x, ys, st, Q => extendM x ys st Q
/-- .pop() -/
def popEM : KM
  | .ref n, [], st, Q => ∃ xs d, rdL st n (xs ++ [d]) ∧ Q d (st.set n (.lst xs))
  | _, _, _, _ => False
def reverseM : KM
  | .ref n, [], st, Q => ∃ xs, rdL st n xs ∧ Q .non (st.set n (.lst xs.reverse))
  | _, _, _, _ => False
/-- a method without arguments -/
def dM0 (ty : D → Store → Prop) (k : KM) (to : TE) : TE := fun σ st Q => to σ st fun o st1 => ty o st1 ∧ k o [] st1 Q
def rngD (hi : Int) (n : Nat) : List D := (List.range n).map fun (k : Nat) => D.int (hi - k)
/-- range(i, j, -1) -/
def iRD (t u : TE) : TI := fun σ st R => t σ st fun x st1 => u σ st1 fun y st2 => ∃ i j, x = .int i ∧ y = .int j ∧ (-(2 ^ 62) ≤ i ∧ i < 2 ^ 62 ∧ -(2 ^ 62) ≤ j ∧ j < 2 ^ 62) ∧ R ⟨rngD i (i - j).toNat, fun _ => True⟩ st2
section
variable {σ : Env} {st : Store} {Q : K} {ta tb to : TE} {ty : D → Store → Prop} {k : KM}
instance : Red (dM0 ty k to σ st Q) (to σ st fun o st1 => ty o st1 ∧ k o [] st1 Q) := ⟨id⟩
instance {R : Iter → Store → Prop} : Red (iRD ta tb σ st R) (ta σ st fun x st1 => tb σ st1 fun y st2 => ∃ i j, x = .int i ∧ y = .int j ∧ (-(2 ^ 62) ≤ i ∧ i < 2 ^ 62 ∧ -(2 ^ 62) ≤ j ∧ j < 2 ^ 62) ∧ R ⟨rngD i (i - j).toNat, fun _ => True⟩ st2) := ⟨id⟩
end
theorem extendT_at {st : Store} {n : Nat} {xs ys : List D} {Q : K} (h : rdL st n xs) (hl : xs.length + ys.length ≤ szl) (q : Q .non (st.set n (.lst (xs ++ ys)))) : extendAM (.ref n) [.tup ys] st Q := ⟨xs, h, hl, q⟩
theorem pop_at {st : Store} {n : Nat} {xs : List D} {d : D} {Q : K} (h : rdL st n (xs ++ [d])) (q : Q d (st.set n (.lst xs))) : popEM (.ref n) [] st Q := ⟨xs, d, h, q⟩
/-- over range(i, j, -1) -/
theorem for_rngD {gd : Store → Prop} {g : TG} {tb : TS} {D0 : Ends} {hi : Int} {n : Nat} {σ : Env} {st : Store} (Pv : Nat → Env → Store → Prop) (h0 : Pv 0 σ st)
    (hs : ∀ k σ st, k < n → Pv k σ st → ∀ N : Env → Store → Prop, (∀ σ st, Pv (k + 1) σ st → N σ st) → gd st ∧ g (.int (hi - k)) σ st fun σ2 st2 => tb { D0 with nx := N, ct := N, bk := D0.nx } σ2 st2)
    (hd : ∀ σ st, Pv n σ st → gd st ∧ D0.nx σ st) : forLoop gd g tb D0 (rngD hi n) σ st := by
  refine for_by (fun pre σ st => Pv pre.length σ st) h0 (fun pre x post σ st e h N hN => ?_) (fun σ st h => hd σ st (by simpa [rngD] using h))
  have hl : pre.length < n := by
    have := congrArg List.length e
    simp [rngD] at this
    omega
  have hx : x = .int (hi - pre.length) := by
    have h2 : (rngD hi n)[pre.length]? = some x := by rw [e]; simp
    unfold rngD at h2
    rw [List.getElem?_map, List.getElem?_range hl] at h2
    simpa using h2.symm
  subst hx
  exact hs pre.length σ st hl h N fun σ st h' => hN σ st (by simpa using h')
end Pd
end PartPdMore3

section PartPdSoundK
set_option Elab.async false
set_option linter.all false
set_option maxRecDepth 100000
set_option maxHeartbeats 1000000
/-! Pd over the hand layer: list.extend, list.pop(), list.reverse(), range downwards. Own work. -/
namespace Pd
open PySem PySem.Spec
section
variable {X : L2.Cx} {K : Kf} {f f' : List Addr} {H H' : Hp} {st st' : Store} {ρ : Env} {σ : L2.St}
def rExtT (K : Kf) : L2.V → List L2.V → Hp → L2.VK → Prop := fun x vs H Q => ∃ l b xs zs, x = .ref l ∧ vs = [.ref b] ∧ H l = some (.lst xs) ∧ L2.SqT K H b zs ∧ xs.length + zs.length ≤ sizeLine ∧ Q .non (L2.upd H l (.lst (xs ++ zs)))
section
open PyProof.Rows L2
theorem list_extend_tup (l : Addr) (items : Array Value) (n : Nat) (b : Addr) (items2 : Array Value) (hs0 : ¬(!items.isEmpty && Builtin.List.listTooLong (items.size + items2.size)) = true) (hs1 : items.size ≤ sizeLine) (hs2 : items.size + items2.size ≤ sizeLine + 1) :
    Meets (Builtin.«list.extend» ⟨[.ref l, .ref b], []⟩) (fun _ R s => s.heap.get? l = some { cls := .type "list", dict := none, data := .seq items n, slots := #[] } ∧ (∃ (od : Option Addr) (os2 : Array (Option Value)) (n2 : Nat), s.heap.get? b = some { cls := .type "tuple", dict := od, data := .seq items2 n2, slots := os2 }) ∧ R (.ok (.ret Value.none)) { s with heap := s.heap.update l (Obj.mapSeq fun x => x ++ items2), toks := s.toks }) :=
  .of_wp fun prog w A R s h => by
    obtain ⟨hp, g, d, tk, os⟩ := s; obtain ⟨hl, ⟨od, os2, n2, hb⟩, h⟩ := h
    have f1 := AutoSeq1.idx_int; have f2 := AutoSeq1.sub_tuple_tuple; have f3 := AutoSeq1.sub_list_list; have f4 := AutoSeq1.sub_tuple_list; have f5 := AutoSeq1.sub_list_tuple
    have hz' : (items ++ items2).size ≤ sizeLine + 1 := by rw [Array.size_append]; exact hs2
    wp_walk using (wpAny_updateSeq hl rfl (hz := hs1) (_hz' := hz')), AutoSeq1.wpAny_loadPart' hl, AutoSeq1.wpAny_loadPart' hb; exact ⟨_, rfl, h⟩
end
theorem mt_extT : L2.MtR X "list.extend" (rExtT X.K) := by
  intro pins s σ H x vs v us Q I rx rv h
  obtain ⟨l, b, xs, zs, rfl, rfl, hH, hB, hz, q⟩ := h
  cases rx
  obtain ⟨u, rfl, ru⟩ := rv.one
  cases ru
  obtain ⟨z, its, n, r, hl, e⟩ := I.lstM hH
  obtain ⟨its2, r2, ⟨o2, e2, c2, n2, d2⟩, z2⟩ := I.tuple hB
  have hl2 := r2.length
  obtain ⟨ocls, odict, odata, oslots⟩ := o2
  simp only at c2 d2
  subst c2; subst d2
  have hsz : its.toArray.size + its2.toArray.size ≤ sizeLine := by rw [List.size_toArray, List.size_toArray]; omega
  have hlong : ¬ (!its.toArray.isEmpty && Builtin.List.listTooLong (its.toArray.size + its2.toArray.size)) = true := by
    rw [L2.notLongL hsz, Bool.and_false]
    exact Bool.false_ne_true
  refine call_meets F.slot_list_extend ⟨_, e, rfl⟩ F.entry_list_extend (F.args_list_extend_2 _ _)
    (list_extend_tup l its.toArray n b its2.toArray hlong (by rw [List.size_toArray]; omega) (by omega)) ⟨e, ⟨odict, oslots, n2, e2⟩, ?_⟩
  refine ⟨.non, _, I.lset (its' := its ++ its2) hH e (by simp) (r.append r2) ?_, rfl, q⟩
  rw [List.length_append]
  omega
theorem real_extendA : RealM K (fun x vs H Q => rExtT K x vs H Q ∨ L2.rExtend x vs H Q) extendAM := fun f st H x xs v vs Q' Q s r1 r2 h l => by
  by_cases ht : ∃ n ys, x = .ref n ∧ xs = [.tup ys]
  · obtain ⟨n, ys, rfl, rfl⟩ := ht
    obtain ⟨zs, h1, h2, h3⟩ := h
    rw [RD.ref] at r1
    obtain ⟨a, e, rfl⟩ := r1
    obtain ⟨w, rfl, r3⟩ := r2.inv1
    rw [RD.tup] at r3
    obtain ⟨b, ws, rfl, j2, j3⟩ := r3
    obtain ⟨a', us, k1, k2, k3⟩ := s.rdL h1
    rw [e] at k1; cases k1
    obtain ⟨s', e'⟩ := s.put e h1 k2 (k3.append j3)
    exact .inl ⟨a, b, us, ws, rfl, rfl, k2, j2, by rw [k3.length, j3.length, ← szl_eq]; exact h2, l _ _ _ f _ h3 e' s' (RD.non.mpr rfl)⟩
  · have h' : extendM x xs st Q' := by
      unfold extendAM at h
      split at h
      · exact absurd ⟨_, _, rfl, rfl⟩ ht
      · exact h
    exact .inr (real_extend f st H x xs v vs Q' Q s r1 r2 h' l)
theorem mt_extendA : L2.MtR X "list.extend" (fun x vs H Q => rExtT X.K x vs H Q ∨ L2.rExtend x vs H Q) := L2.MtR.or mt_extT L2.mt_extend
theorem real_popE : RealM K L2.rPop popEM := fun f st H x xs v vs Q' Q s r1 r2 h l => by
  cases x <;> try (exact h.elim)
  match xs, h with
  | _ :: _, h => exact h.elim
  | [], h =>
    obtain ⟨ys, d, h1, h2⟩ := h
    rw [RD.ref] at r1
    obtain ⟨a, e, rfl⟩ := r1
    rw [RDs.nil] at r2
    subst r2
    obtain ⟨a', us, k1, k2, k3⟩ := s.rdL h1
    rw [e] at k1; cases k1
    have hlen := k3.length
    rw [List.length_append] at hlen
    have hlen : us.length = ys.length + 1 := hlen
    obtain ⟨w, hw, rw'⟩ := k3.get (i := ys.length) (d := d) (by simp)
    have kd : RDs K f H ys us.dropLast := by
      have := k3.take ys.length
      rw [List.take_left] at this
      rw [List.dropLast_eq_take, hlen]
      exact this
    obtain ⟨s', e'⟩ := s.put e h1 k2 kd
    exact ⟨a, us, w, rfl, rfl, k2, by rw [hlen]; exact hw, l _ _ _ f _ h2 e' s' (rw'.mono e')⟩
theorem RDs.reverse : ∀ {ds : List D} {vs : List L2.V}, RDs K f H ds vs → RDs K f H ds.reverse vs.reverse
  | [], _, h => by rw [RDs.nil] at h; subst h; simp [RDs.nil]
  | d :: ds, _, h => by
    rw [RDs.cons] at h
    obtain ⟨v, r, rfl, h2, h3⟩ := h
    rw [List.reverse_cons, List.reverse_cons]
    exact (RDs.reverse h3).append (RDs.one h2)
theorem real_reverse : RealM K L2.rReverse reverseM := fun f st H x xs v vs Q' Q s r1 r2 h l => by
  cases x <;> try (exact h.elim)
  match xs, h with
  | _ :: _, h => exact h.elim
  | [], h =>
    obtain ⟨ys, h1, h2⟩ := h
    rw [RD.ref] at r1
    obtain ⟨a, e, rfl⟩ := r1
    rw [RDs.nil] at r2
    subst r2
    obtain ⟨a', us, k1, k2, k3⟩ := s.rdL h1
    rw [e] at k1; cases k1
    obtain ⟨s', e'⟩ := s.put e h1 k2 k3.reverse
    exact ⟨a, us, rfl, rfl, k2, l _ _ _ f _ h2 e' s' (RD.non.mpr rfl)⟩
section
variable {o : Expr} {to : TE} {pos apos : Pos} {name : Str} {T id : String}
theorem pd_m0 {r : L2.V → List L2.V → Hp → L2.VK → Prop} {k : KM} {ty : D → Store → Prop} (hm : L2.MtR X id r) (hk : RealM X.K r k) (ht : RealTy X.K T ty) (pa : PlainAttrs T) (slot : Slot T name id) (hty : typeOf (.builtin id) = pure (.type "method_descriptor")) (ho : PD X o to)
    (hbase : attributeBase o name X.env (eval o X.env) = eval o X.env := by rfl) (hline : (apos.endLine == pos.line) = true := by rfl) : PD X (.Call (.Attribute o name apos) [] [] pos) (dM0 ty k to) :=
  pe_imp (L2.pe_bm0 pa slot hty hm ho hbase hline) fun σ H Q ⟨f, ρ, st, Q', R, h, l⟩ => ⟨f, ρ, st, _, R, h, fun x st1 v f1 H1 q1 e1 s1 r1 => ⟨ht f1 st1 H1 x v s1 r1 q1.1, hk f1 st1 H1 x [] v [] Q' Q s1 r1 (RDs.nil.mpr rfl) q1.2 (l.later e1)⟩⟩
end
theorem realI_rngD {i : Int} {n : Nat} : RealI K f H ⟨rngD i n, fun _ => True⟩ (L2.Itc i (-1) n) where
  go := fun k f2 st2 H2 e2 s2 g hk => by
    have : k < (rngD i n).length := hk
    unfold rngD at this
    rw [List.length_map, List.length_range] at this
    exact this
  stop := fun f2 st2 H2 e2 s2 g => by
    show n ≤ (rngD i n).length
    unfold rngD
    simp
  yld := fun k f2 st2 H2 d x H3 e2 s2 g hd y => by
    obtain ⟨rfl, rfl⟩ := y
    refine ⟨.refl, s2, ?_⟩
    have hd' : (rngD i n)[k]? = some d := hd
    unfold rngD at hd'
    rw [List.getElem?_map] at hd'
    cases q : (List.range n)[k]? with
    | none => rw [q] at hd'; cases hd'
    | some j =>
      rw [q] at hd'
      obtain ⟨h1, h2⟩ := List.getElem?_eq_some_iff.mp q
      simp at h2
      subst h2
      simp at hd'
      subst hd'
      rw [RD.int]
      congr 1
      omega
theorem pi_rD {tg a b : Expr} {ta tb : TE} {p p1 p2 pos : Pos} {k1 : _} (hg : L2.Gl X "range") (hm : X.mg "range" = none) (h : PD X a ta) (h' : PD X b tb)
    (hs : starEach [a, b, .UnaryOp .USub (.Constant (.int 1) k1 p1) p2] X.env = (false, eval a X.env) :: starEach [b, .UnaryOp .USub (.Constant (.int 1) k1 p1) p2] X.env := by rfl) (hs2 : starEach [b, .UnaryOp .USub (.Constant (.int 1) k1 p1) p2] X.env = (false, eval b X.env) :: starEach [.UnaryOp .USub (.Constant (.int 1) k1 p1) p2] X.env := by rfl)
    (hs3 : starEach [.UnaryOp .USub (.Constant (.int 1) k1 p1) p2] X.env = (false, eval (.UnaryOp .USub (.Constant (.int 1) k1 p1) p2) X.env) :: starEach [] X.env := by rfl) (hpl : (backTo pos (starEach [b, .UnaryOp .USub (.Constant (.int 1) k1 p1) p2] X.env)).any (·.1) = false := by rfl) :
    PDI X tg (.Call (.Name "range" p) [a, b, .UnaryOp .USub (.Constant (.int 1) k1 p1) p2] [] pos) (iRD ta tb) :=
  pi_imp (L2.pi_range3 hg hm (L2.pa_cons h (L2.pa_cons h' (L2.pa_cons (pd_neg pd_int) L2.pa_nil hs3) hs2) hs) hs hpl) fun σ H R ⟨f, ρ, st, R', Re, h, l⟩ => ⟨f, ρ, st, _, Re, h, fun x st1 v f1 H1 q1 e1 s1 r1 => ⟨f1, ρ, st1, _, Re.later e1 s1, q1, fun y st2 w f2 H2 q2 e2 s2 r2 => by
    obtain ⟨i, j, rfl, rfl, ⟨b1, b2, b3, b4⟩, h3⟩ := q2
    have r1' := r1.mono e2
    rw [RD.int] at r1' r2
    subst r1'; subst r2
    refine ⟨f2, ρ, st2, fun z st3 => z = .int (-1) ∧ st3 = st2, Re.later (e1.trans e2) s2, ⟨rfl, rfl⟩, fun z st3 u f3 H3 q3 e3 s3 r3 => ?_⟩
    obtain ⟨rfl, rfl⟩ := q3
    rw [RD.int] at r3
    subst r3
    exact ⟨i, j, -1, _, rfl, L2.RgC.neg b1 b2 b3 b4, l _ _ _ f3 H3 h3 ((e1.trans e2).trans e3) s3 realI_rngD⟩⟩⟩
end
end Pd
end PartPdSoundK

section PartPdMore4
set_option Elab.async false
set_option linter.all false
set_option maxRecDepth 100000
/-! Pd: more readings: *x in a call's arguments, `in` of any pure data. Own work. -/
namespace Pd
open PySem
/-- the items of a list or a tuple, as arguments -/
def starK : D → Store → (List D → Prop) → Prop
  | .tup xs, _, Q => Q xs
  | .ref n, st, Q => ∃ xs, rdA st n xs ∧ Q xs
  | _, _, _ => False
def aStar (te : TE) (r : TA) : TA := fun σ st Q => te σ st fun x st1 => starK x st1 fun xs => r σ st1 fun ys st2 => Q (xs ++ ys) st2
/-- x in a list or a tuple, of any pure data -/
def inDC : KC
  | x, .tup xs, _, Q => D.okd 60 x = true ∧ okds 60 xs = true ∧ Q (xs.any fun y => D.eqb y x)
  | x, .ref n, st, Q => ∃ xs, rdA st n xs ∧ D.okd 60 x = true ∧ okds 60 xs = true ∧ Q (xs.any fun y => D.eqb y x)
  | _, _, _, _ => False
def notinDC : KC := fun x y st Q => inDC x y st fun b => Q (!b)
section
variable {σ : Env} {st : Store} {te : TE} {r : TA} {q : List D → Store → Prop} {x : D} {xs : List D}
instance : Red (aStar te r σ st q) (te σ st fun x st1 => starK x st1 fun xs => r σ st1 fun ys st2 => q (xs ++ ys) st2) := ⟨id⟩
instance {Q : List D → Prop} : Red (starK (.tup xs) st Q) (Q xs) := ⟨id⟩
end
theorem star_at {st : Store} {n : Nat} {xs : List D} {Q : List D → Prop} (h : rdL st n xs) (q : Q xs) : starK (.ref n) st Q := ⟨xs, .inl h, q⟩
end Pd
end PartPdMore4

section PartPdSoundL
set_option Elab.async false
set_option linter.all false
set_option maxRecDepth 100000
set_option maxHeartbeats 1000000
/-! Pd over the hand layer: starred arguments, `in` of any pure data. Own work. -/
namespace Pd
open PySem PySem.Spec
mutual
theorem reads_fun {h : Heap} : ∀ (d d' : PyData) (v : Value) (as as' : List Addr), d.canLay0 = true → Reads h v d as → Reads h v d' as' → d = d'
  | .none, _, _, _, _, _, r, r' => by cases r; cases r'; rfl
  | .bool _, _, _, _, _, _, r, r' => by cases r; cases r'; rfl
  | .int _, _, _, _, _, _, r, r' => by cases r; cases r'; rfl
  | .str _, _, _, _, _, _, r, r' => by cases r; cases r'; rfl
  | .list xs, d', _, _, _, ha, r, r' => by
    cases r with
    | list h1 h2 h3 h4 =>
      cases r' with
      | list k1 k2 k3 k4 =>
        rw [h1] at k1; cases k1
        rw [h3] at k3; cases k3
        rw [readsAll_fun xs _ _ _ _ (by simpa [PyData.canLay0] using ha) h4 k4]
      | tuple k1 k2 k3 k4 =>
        rw [h1] at k1; cases k1
        rw [h2] at k2; exact absurd k2 (by decide)
      | dict k1 k2 k3 k4 k5 =>
        rw [h1] at k1; cases k1
        rw [h2] at k2; exact absurd k2 (by decide)
  | .tuple xs, d', _, _, _, ha, r, r' => by
    cases r with
    | tuple h1 h2 h3 h4 =>
      cases r' with
      | tuple k1 k2 k3 k4 =>
        rw [h1] at k1; cases k1
        rw [h3] at k3; cases k3
        rw [readsAll_fun xs _ _ _ _ (by simpa [PyData.canLay0] using ha) h4 k4]
      | list k1 k2 k3 k4 =>
        rw [h1] at k1; cases k1
        rw [h2] at k2; exact absurd k2 (by decide)
      | dict k1 k2 k3 k4 k5 =>
        rw [h1] at k1; cases k1
        rw [h2] at k2; exact absurd k2 (by decide)
  | .dict _, d', _, _, _, ha, _, _ => absurd ha (by simp [PyData.canLay0])
theorem readsAll_fun {h : Heap} : ∀ (xs ys : List PyData) (vs : List Value) (as as' : List Addr), PyData.canLayAll0 xs = true → ReadsAll h vs xs as → ReadsAll h vs ys as' → xs = ys
  | [], _, _, _, _, _, r, r' => by cases r; cases r'; rfl
  | x :: xs, ys, _, _, _, ha, r, r' => by
    cases r with
    | cons h1 h2 =>
      cases r' with
      | cons k1 k2 =>
        have ha' : x.canLay0 = true ∧ PyData.canLayAll0 xs = true := by simpa [PyData.canLayAll0] using ha
        rw [reads_fun x _ _ _ _ ha'.1 h1 k1, readsAll_fun xs _ _ _ _ ha'.2 h2 k2]
end
/-- x in a list or a tuple, of any data -/
def rInD (K : Kf) (neg : Bool) : L2.R2 := fun x y H Q => ∃ p xs d es, y = .ref p ∧ (L2.SqL K H p xs ∨ L2.SqT K H p xs) ∧ L2.Dp K H x d ∧ L2.DpAll K H xs es ∧ (d.canLay0 = true ∧ d.depth ≤ 60) ∧ PyData.canLayAll0 es = true ∧ Q (.bl (if neg then !es.any (fun e => PyData.eqv e d) else es.any fun e => PyData.eqv e d)) H
theorem canLay_mem : ∀ {es : List PyData}, PyData.canLayAll0 es = true → ∀ e ∈ es, e.canLay0 = true
  | x :: xs, h, e, he => by
    have h' : x.canLay0 = true ∧ PyData.canLayAll0 xs = true := by simpa [PyData.canLayAll0] using h
    rcases List.mem_cons.mp he with he | he
    · rw [he]; exact h'.1
    · exact canLay_mem h'.2 e he
theorem readsAll_mem {h : Heap} : ∀ {vs : List Value} {es : List PyData} {as : List Addr}, ReadsAll h vs es as → (∀ u ∈ vs, ∃ e ∈ es, ∃ bs, Reads h u e bs) ∧ ∀ e ∈ es, ∃ u ∈ vs, ∃ bs, Reads h u e bs
  | [], _, _, r => by cases r; exact ⟨by simp, by simp⟩
  | u :: vs, _, _, r => by
    cases r with
    | cons h1 h2 =>
      obtain ⟨a, b⟩ := readsAll_mem h2
      refine ⟨fun x hx => ?_, fun e he => ?_⟩
      · rcases List.mem_cons.mp hx with hx | hx
        · rw [hx]; exact ⟨_, List.mem_cons_self, _, h1⟩
        · obtain ⟨e, he, z⟩ := a x hx
          exact ⟨e, List.mem_cons_of_mem _ he, z⟩
      · rcases List.mem_cons.mp he with he | he
        · rw [he]; exact ⟨_, List.mem_cons_self, _, h1⟩
        · obtain ⟨x, hx, z⟩ := b e he
          exact ⟨x, List.mem_cons_of_mem _ hx, z⟩
open Classical in
/-- whether a value reads as data equal to d -/
noncomputable def hitV (h : Heap) (d : PyData) (u : Value) : Bool := decide (∃ e bs, Reads h u e bs ∧ PyData.eqv e d = true)
open Classical in
theorem hitV_iff {h : Heap} {d : PyData} {u : Value} : hitV h d u = true ↔ ∃ e bs, Reads h u e bs ∧ PyData.eqv e d = true := by
  unfold hitV
  exact decide_eq_true_iff
section
variable {X : L2.Cx} {pins : List (Addr × Obj)} {σ : L2.St} {H : Hp} {s : Shared}
theorem hit_eqAt {A : Around} {v : Value} {d : PyData} {as : List Addr} (rv : Reads s.heap v d as) (hd : d.canLay0 = true ∧ d.depth ≤ 60) {u : Value} {e : PyData} {bs : List Addr} (ru : Reads s.heap u e bs) (he : e.canLay0 = true) (hu : A.units + 61 < cLine) : SeqAt.EqAt A s u v (hitV s.heap d u) := by
  have e1 : hitV s.heap d u = PyData.eqv e d := by
    cases h : PyData.eqv e d with
    | true => exact hitV_iff.mpr ⟨e, bs, ru, h⟩
    | false =>
      cases h2 : hitV s.heap d u with
      | false => rfl
      | true =>
        obtain ⟨e', bs', r', h'⟩ := hitV_iff.mp h2
        rw [← reads_fun e e' u _ _ he ru r', h] at h'
        cases h'
  rw [e1]
  refine SeqAt.eqAt_reads e d A s u v bs as ru rv he hd.1 ?_
  have : min e.depth d.depth ≤ d.depth := Nat.min_le_right _ _
  have := hd.2
  omega
theorem hit_any {h : Heap} {d : PyData} {us : List Value} {es : List PyData} {as : List Addr} (r : ReadsAll h us es as) (hes : PyData.canLayAll0 es = true) : us.any (hitV h d) = es.any fun e => PyData.eqv e d := by
  obtain ⟨a, b⟩ := readsAll_mem r
  cases h1 : es.any fun e => PyData.eqv e d with
  | true =>
    obtain ⟨e, he, h2⟩ := List.any_eq_true.mp h1
    obtain ⟨u, hu, bs, ru⟩ := b e he
    exact List.any_eq_true.mpr ⟨u, hu, hitV_iff.mpr ⟨e, bs, ru, h2⟩⟩
  | false =>
    rw [List.any_eq_false] at h1 ⊢
    intro u hu h2
    obtain ⟨e, he, bs, ru⟩ := a u hu
    obtain ⟨e', bs', r', h'⟩ := hitV_iff.mp h2
    rw [← reads_fun e e' u _ _ (canLay_mem hes e he) ru r'] at h'
    exact h1 e he h'
end
section
variable {X : L2.Cx}
theorem op_inD (hu : X.A.units + 64 < cLine) : L2.OpR X (compareOp .In) (rInD X.K false) := by
  intro pins s σ H x y v u Q I rx ry h
  obtain ⟨p, xs, d, es, rfl, hq, hx, hxs, hd, hes, q⟩ := h
  cases ry
  obtain ⟨as, rv⟩ := L2.Dp.reads I d x v hx rx
  have hA : X.A.in1.units + 61 < cLine := by show X.A.units + 1 + 61 < cLine; omega
  rcases hq with hq | hq
  · obtain ⟨its, r, pl, hz⟩ := I.list hq
    obtain ⟨bs, ra⟩ := L2.Dp.readsAll I es xs its hxs r
    obtain ⟨m1, _⟩ := readsAll_mem ra
    refine SeqAt.in_listAt (hitV s.heap d) pl.isList (fun w hw => ?_) ⟨.bl _, H, I, rfl, ?_⟩
    · obtain ⟨e, he, cs, rw⟩ := m1 w (by simpa using hw)
      exact hit_eqAt rv hd rw (canLay_mem hes e he) hA
    · rw [show its.toArray.any (hitV s.heap d) = its.any (hitV s.heap d) by simp, hit_any ra hes]
      exact q
  · obtain ⟨its, r, pl, hz⟩ := I.tuple hq
    obtain ⟨bs, ra⟩ := L2.Dp.readsAll I es xs its hxs r
    obtain ⟨m1, _⟩ := readsAll_mem ra
    refine SeqAt.in_tupleAt (hitV s.heap d) pl (fun w hw => ?_) ⟨.bl _, H, I, rfl, ?_⟩
    · obtain ⟨e, he, cs, rw⟩ := m1 w (by simpa using hw)
      exact hit_eqAt rv hd rw (canLay_mem hes e he) hA
    · rw [show its.toArray.any (hitV s.heap d) = its.any (hitV s.heap d) by simp, hit_any ra hes]
      exact q
theorem op_notinD (hu : X.A.units + 64 < cLine) : L2.OpR X (compareOp .NotIn) (rInD X.K true) := by
  intro pins s σ H x y v u Q I rx ry h
  obtain ⟨p, xs, d, es, rfl, hq, hx, hxs, hd, hes, q⟩ := h
  cases ry
  obtain ⟨as, rv⟩ := L2.Dp.reads I d x v hx rx
  have hA : X.A.in1.units + 61 < cLine := by show X.A.units + 1 + 61 < cLine; omega
  rcases hq with hq | hq
  · obtain ⟨its, r, pl, hz⟩ := I.list hq
    obtain ⟨bs, ra⟩ := L2.Dp.readsAll I es xs its hxs r
    obtain ⟨m1, _⟩ := readsAll_mem ra
    refine SeqAt.notIn_listAt (hitV s.heap d) pl.isList (fun w hw => ?_) ⟨.bl _, H, I, rfl, ?_⟩
    · obtain ⟨e, he, cs, rw⟩ := m1 w (by simpa using hw)
      exact hit_eqAt rv hd rw (canLay_mem hes e he) hA
    · rw [show its.toArray.any (hitV s.heap d) = its.any (hitV s.heap d) by simp, hit_any ra hes]
      exact q
  · obtain ⟨its, r, pl, hz⟩ := I.tuple hq
    obtain ⟨bs, ra⟩ := L2.Dp.readsAll I es xs its hxs r
    obtain ⟨m1, _⟩ := readsAll_mem ra
    refine SeqAt.notIn_tupleAt (hitV s.heap d) pl (fun w hw => ?_) ⟨.bl _, H, I, rfl, ?_⟩
    · obtain ⟨e, he, cs, rw⟩ := m1 w (by simpa using hw)
      exact hit_eqAt rv hd rw (canLay_mem hes e he) hA
    · rw [show its.toArray.any (hitV s.heap d) = its.any (hitV s.heap d) by simp, hit_any ra hes]
      exact q
end
section
variable {K : Kf}
theorem any_toP {x : D} (hx : D.okd 60 x = true) : ∀ {xs : List D}, okds 60 xs = true → ((toPs xs).any fun e => PyData.eqv e (toP x)) = xs.any fun y => D.eqb y x
  | [], _ => by simp [toPs]
  | y :: ys, h => by
    have h' : D.okd 60 y = true ∧ okds 60 ys = true := by simpa [okds] using h
    simp only [toPs, List.any_cons]
    rw [toP_eqv y x h'.1 hx, any_toP hx h'.2]
theorem real_inD (neg : Bool) : RealC K (rInD K neg) (fun x y st Q => inDC x y st fun b => Q (if neg then !b else b)) := fun f st H x y v w Q' Q s r1 r2 h l => by
  cases y <;> try (exact h.elim)
  · rw [RD.tup] at r2
    obtain ⟨a, vs, rfl, t, d⟩ := r2
    obtain ⟨h1, h2, h3⟩ := h
    refine ⟨a, vs, _, _, rfl, .inr t, toP_dp x h1 r1, toPs_dp _ h2 d, toP_ok x h1, (toPs_ok _ h2).1, ?_⟩
    rw [any_toP h1 h2]
    exact l _ h3
  · rw [RD.ref] at r2
    obtain ⟨a, e, rfl⟩ := r2
    obtain ⟨xs, h0, h1, h2, h3⟩ := h
    obtain ⟨a', vs, g1, g2, g3⟩ := s.rdA h0
    rw [e] at g1; cases g1
    refine ⟨a, vs, _, _, rfl, .inl g2, toP_dp x h1 r1, toPs_dp _ h2 g3, toP_ok x h1, (toPs_ok _ h2).1, ?_⟩
    rw [any_toP h1 h2]
    exact l _ h3
end
/-! starred arguments -/
section
variable {X : L2.Cx} {a : Expr} {es : List Expr} {ta : TE} {ts : TA} {pos p : Pos}
theorem pa_starD (ha : PD X a ta) (hr : PDA X es ts) (hs : starEach (.Starred a p :: es) X.env = (true, eval a X.env) :: starEach es X.env := by rfl) : PDA X (.Starred a p :: es) (aStar ta ts) :=
  pa_imp (StX.pa_star ha hr hs) fun σ H Q ⟨f, ρ, st, Q', R, h, l⟩ => ⟨f, ρ, st, _, R, h, fun x st1 v f1 H1 h1 e1 s1 r1 => by
    cases x <;> try (exact h1.elim)
    · rw [RD.tup] at r1
      obtain ⟨b, vs, rfl, t, d⟩ := r1
      exact ⟨b, vs, rfl, .inl t, f1, ρ, st1, _, R.later e1 s1, h1, fun ys st2 us f2 H2 q e2 s2 r2 => l _ st2 _ f2 H2 q (e1.trans e2) s2 ((d.mono e2).append r2)⟩
    · rw [RD.ref] at r1
      obtain ⟨b, e, rfl⟩ := r1
      obtain ⟨xs, h0, h2⟩ := h1
      obtain ⟨b', vs, g1, g2, g3⟩ := s1.rdA h0
      rw [e] at g1; cases g1
      exact ⟨b, vs, rfl, .inr g2, f1, ρ, st1, _, R.later e1 s1, h2, fun ys st2 us f2 H2 q e2 s2 r2 => l _ st2 _ f2 H2 q (e1.trans e2) s2 ((g3.mono e2).append r2)⟩⟩
/-- a call with a starred argument of a def whose last parameter takes what is left over -/
theorem pd_callS2 {x : Str} {q : Pos} {k n : Nat} {ts : TA} {cl : Cl} {y : String} (o : OwnS X.prog X.w X.K X.mg X.base k n x (cl y)) (hr : L2.Room k X.A) (hg : L2.Gl X x) (ha : PDA X (a :: es) ts) (hdb : (x == ("__debug__" : Str)) = false := by decide)
    (he : starEach (a :: es) X.env = (false, eval a X.env) :: starEach es X.env := by rfl) (hst : (backTo pos (starEach es X.env)).any (·.1) = true := by rfl) : PD X (.Call (.Name x q) (a :: es) [] pos) (dCallS cl y n ts) := by
  obtain ⟨fa, F, hm, hk⟩ := o.ex
  have step : L2.PE X (.Call (.Name x q) (a :: es) [] pos) (fun σ H Q => liftA X.K ts σ H fun vs H1 => starF X.K n (cl y) vs H1 Q fun _ _ _ => False) := StX.pe_callS2 F hr hk hg hm L2.pass0 ha hdb he hst
  refine pe_imp step fun σ H Q ⟨f, ρ, st, Q', R, h, l⟩ => ⟨f, ρ, st, _, R, h, fun xs st1 vs f1 H1 ⟨h1, h2, h3⟩ e1 s1 r1 => ?_⟩
  have hvl := r1.length
  refine ⟨vs.take n, vs.drop n, (List.take_append_drop n vs).symm, by rw [List.length_take]; omega, ?_, fun p hp => ?_⟩
  · rw [List.length_drop, hvl, ← szl_eq]; rw [List.length_drop] at h2; exact h2
  · have s2 := s1.lay (o := .tup (vs.drop n)) hp
    obtain ⟨s2, e2⟩ := s2
    refine ⟨by rw [List.length_append, List.length_take]; simp; omega, f1, st1, xs.take n ++ [.tup (xs.drop n)], Q', s2, ?_, h3, (l.later e1).later e2⟩
    refine RDs.append ((r1.take n).mono e2) (RDs.one (RD.tup.mpr ⟨p, vs.drop n, rfl, .of L2.upd_same, (r1.drop n).mono e2⟩))
end
end Pd
end PartPdSoundL

section PartPdMore6
set_option Elab.async false
set_option linter.all false
set_option maxRecDepth 100000
/-! Pd: more readings of dicts (locked or not), walks over them, list(range(i, j, -1)), list.index of any pure data. Own work. -/
namespace Pd
open PySem
/-- d[k] -/
def getDAK : K2
  | .ref n, y, st, Q => ∃ kvs k d, rdDA st n kvs ∧ y = keyD k ∧ valD kvs k = some d ∧ Q d st
  | _, _, _, _ => False
def dGetA (to ti : TE) : TE := fun σ st Q => to σ st fun x st1 => ti σ st1 fun y st2 => getDAK x y st2 Q
/-- k in d -/
def inKC : KC
  | y, .ref n, st, Q => ∃ kvs k, rdDA st n kvs ∧ y = keyD k ∧ Q (valD kvs k).isSome
  | _, _, _, _ => False
def notinKC : KC := fun x y st Q => inKC x y st fun b => Q (!b)
/-- d.get(k, z) -/
def getD2K : D → D → D → Store → K → Prop
  | .ref n, y, z, st, Q => ∃ kvs k, rdDA st n kvs ∧ y = keyD k ∧ Q ((valD kvs k).getD z) st
  | _, _, _, _, _ => False
def isDD : D → Store → Prop
  | .ref n, st => ∃ kvs, rdDA st n kvs
  | _, _ => False
def dGet2 (to ti tx : TE) : TE := fun σ st Q => to σ st fun x st1 => isDD x st1 ∧ ti σ st1 fun y st2 => tx σ st2 fun z st3 => getD2K x y z st3 Q
/-- {k: v, ..} -/
def pairsD : List (TE × TE) → Env → Store → (List (D × D) → Store → Prop) → Prop
  | [], _, st, Q => Q [] st
  | p :: r, σ, st, Q => p.1 σ st fun x st1 => p.2 σ st1 fun y st2 => pairsD r σ st2 fun ps st3 => Q ((x, y) :: ps) st3
def putAll (kvs : List (Ky × D)) : List (Ky × D) := kvs.foldl (fun acc kv => putD acc kv.1 kv.2) []
def dDisp (prs : List (TE × TE)) : TE := fun σ st Q => pairsD prs σ (st ++ [.dic []]) fun ps st2 => ∃ kvs : List (Ky × D), ps = kvs.map (fun kv => (keyD kv.1, kv.2)) ∧ kvs.length ≤ 15 ∧ rdD st2 st.length [] ∧ Q (.ref st.length) (st2.set st.length (.dic (putAll kvs)))
/-! a dict is locked while it is walked -/
def keysD (kvs : List (Ky × D)) : List D := kvs.map fun kv => keyD kv.1
def iKeysD (t : TE) : TI := fun σ st R => t σ st fun x st1 => ∃ n kvs tk, x = .ref n ∧ st1[n]? = some (.frd kvs tk) ∧ R ⟨keysD kvs, fun s => s[n]? = some (.frd kvs tk)⟩ st1
def sLockD (t : TS) : TS := fun D σ st => ∃ n kvs, rdD st n kvs ∧ ∀ tk, t { nx := fun σ' st' => st'[n]? = some (.frd kvs tk) ∧ D.nx σ' (st'.set n (.dic kvs)), rt := fun v st' => st'[n]? = some (.frd kvs tk) ∧ D.rt v (st'.set n (.dic kvs)), bk := fun σ' st' => st'[n]? = some (.frd kvs tk) ∧ D.bk σ' (st'.set n (.dic kvs)), ct := fun σ' st' => st'[n]? = some (.frd kvs tk) ∧ D.ct σ' (st'.set n (.dic kvs)) } σ (st.set n (.frd kvs tk))
def dLockD (t : TE) : TE := fun σ st Q => ∃ n kvs, rdD st n kvs ∧ ∀ tk, t σ (st.set n (.frd kvs tk)) fun v st' => st'[n]? = some (.frd kvs tk) ∧ Q v (st'.set n (.dic kvs))
/-- .index(x), any pure data -/
def indexDM : KM
  | .ref n, [x], st, Q => ∃ xs j z, rdA st n xs ∧ D.okd 60 x = true ∧ okds 60 xs = true ∧ xs[j]? = some z ∧ D.eqb z x = true ∧ (∀ (m : Nat) (z' : D), m < j → xs[m]? = some z' → D.eqb z' x = false) ∧ Q (.int j) st
  | _, _, _, _ => False
/-- list(range(i, j, -1)) -/
def dLRD (t u : TE) : TE := fun σ st Q => t σ st fun x st1 => u σ st1 fun y st2 => ∃ i j, x = .int i ∧ y = .int j ∧ (-(2 ^ 62) ≤ i ∧ i < 2 ^ 62 ∧ -(2 ^ 62) ≤ j ∧ j < 2 ^ 62 ∧ (i - j).toNat ≤ szl) ∧ Q (.ref st2.length) (st2 ++ [.lst (rngD i (i - j).toNat)])
section
variable {σ σ' : Env} {st : Store} {Q : K} {to ti tx ta tb : TE} {d x y : D}
instance : Red (dGetA to ti σ st Q) (to σ st fun x st1 => ti σ st1 fun y st2 => getDAK x y st2 Q) := ⟨id⟩
instance : Red (dGet2 to ti tx σ st Q) (to σ st fun x st1 => isDD x st1 ∧ ti σ st1 fun y st2 => tx σ st2 fun z st3 => getD2K x y z st3 Q) := ⟨id⟩
instance {prs : List (TE × TE)} : Red (dDisp prs σ st Q) (pairsD prs σ (st ++ [.dic []]) fun ps st2 => ∃ kvs : List (Ky × D), ps = kvs.map (fun kv => (keyD kv.1, kv.2)) ∧ kvs.length ≤ 15 ∧ rdD st2 st.length [] ∧ Q (.ref st.length) (st2.set st.length (.dic (putAll kvs)))) := ⟨id⟩
instance {q : List (D × D) → Store → Prop} : Red (pairsD [] σ st q) (q [] st) := ⟨id⟩
instance {p : TE × TE} {r : List (TE × TE)} {q : List (D × D) → Store → Prop} : Red (pairsD (p :: r) σ st q) (p.1 σ st fun x st1 => p.2 σ st1 fun y st2 => pairsD r σ st2 fun ps st3 => q ((x, y) :: ps) st3) := ⟨id⟩
instance {R : Iter → Store → Prop} : Red (iKeysD ta σ st R) (ta σ st fun x st1 => ∃ n kvs tk, x = .ref n ∧ st1[n]? = some (.frd kvs tk) ∧ R ⟨keysD kvs, fun s => s[n]? = some (.frd kvs tk)⟩ st1) := ⟨id⟩
instance : Red (dLRD ta tb σ st Q) (ta σ st fun x st1 => tb σ st1 fun y st2 => ∃ i j, x = .int i ∧ y = .int j ∧ (-(2 ^ 62) ≤ i ∧ i < 2 ^ 62 ∧ -(2 ^ 62) ≤ j ∧ j < 2 ^ 62 ∧ (i - j).toNat ≤ szl) ∧ Q (.ref st2.length) (st2 ++ [.lst (rngD i (i - j).toNat)])) := ⟨id⟩
end
theorem getA_at {st : Store} {n : Nat} {kvs : List (Ky × D)} {k : Ky} {d : D} {Q : K} (h : rdDA st n kvs) (e : valD kvs k = some d) (q : Q d st) : getDAK (.ref n) (keyD k) st Q := ⟨kvs, k, d, h, rfl, e, q⟩
theorem getAI_at {st : Store} {n : Nat} {kvs : List (Ky × D)} {k : Int} {d : D} {Q : K} (h : rdDA st n kvs) (e : valD kvs (.inl k) = some d) (q : Q d st) : getDAK (.ref n) (.int k) st Q := ⟨kvs, .inl k, d, h, rfl, e, q⟩
theorem inKI_at {st : Store} {n : Nat} {kvs : List (Ky × D)} {k : Int} {r : Bool → Prop} (h : rdDA st n kvs) (q : r (valD kvs (.inl k)).isSome) : inKC (.int k) (.ref n) st r := ⟨kvs, .inl k, h, rfl, q⟩
theorem notinKI_at {st : Store} {n : Nat} {kvs : List (Ky × D)} {k : Int} {r : Bool → Prop} (h : rdDA st n kvs) (q : r (!(valD kvs (.inl k)).isSome)) : notinKC (.int k) (.ref n) st r := ⟨kvs, .inl k, h, rfl, q⟩
theorem get2I_at {st : Store} {n : Nat} {kvs : List (Ky × D)} {k : Int} {z : D} {Q : K} (h : rdDA st n kvs) (q : Q ((valD kvs (.inl k)).getD z) st) : getD2K (.ref n) (.int k) z st Q := ⟨kvs, .inl k, h, rfl, q⟩
theorem setDI_at {st : Store} {n : Nat} {kvs : List (Ky × D)} {k : Int} {v : D} {Q : Store → Prop} (h : rdD st n kvs) (hl : kvs.length < szl) (q : Q (st.set n (.dic (putD kvs (.inl k) v)))) : setDK (.ref n) (.int k) v st Q := ⟨kvs, .inl k, h, rfl, hl, q⟩
theorem rdDA.of {st : Store} {n : Nat} {kvs : List (Ky × D)} (h : rdD st n kvs) : rdDA st n kvs := .inl h
end Pd
end PartPdMore6

section PartPdSoundO
set_option Elab.async false
set_option linter.all false
set_option maxRecDepth 100000
set_option maxHeartbeats 1000000
/-! Pd over the hand layer: dicts read, displayed and walked; list.index of data; list(range(i, j, -1)). Own work. -/
namespace Pd
open PySem PySem.Spec
section
variable {X : L2.Cx} {K : Kf} {f f' : List Addr} {H H' : Hp} {st st' : Store} {ρ : Env} {σ : L2.St}
theorem vals_none : ∀ {kvs : List (Ky × D)} {ks : List (L2.Key × L2.V)}, ks.map (·.1) = kvs.map (·.1) → ∀ (k : Ky), valD kvs k = none → L2.valV ks k = none
  | [], [], _, _, _ => rfl
  | [], _ :: _, e, _, _ => by simp at e
  | _ :: _, [], e, _, _ => by simp at e
  | (k0, d0) :: kvs, (k1, v1) :: ks, e, k, h => by
    simp only [List.map_cons, List.cons.injEq] at e
    obtain ⟨e1, e2⟩ := e
    have e1 : k1 = k0 := e1
    subst e1
    by_cases hk : k1 = k
    · have : valD ((k1, d0) :: kvs) k = some d0 := by simp [valD, List.find?_cons, hk]
      rw [this] at h; cases h
    · have : valD ((k1, d0) :: kvs) k = valD kvs k := by simp [valD, List.find?_cons, hk]
      rw [this] at h
      exact (L2.valV_neg hk).trans (vals_none e2 k h)
theorem dget_of {a : Addr} {ks : List (L2.Key × L2.V)} {k : Ky} (h : L2.Rd H a (.dK ks)) : L2.DGet H a (L2.kV k) (L2.valV ks k) := .inl ⟨ks, k, h, rfl, rfl⟩
section
variable {o i e a b : Expr} {to ti tx ta tb : TE} {pos apos cpos : Pos}
theorem pd_getA {k : Nat} (hr : L2.Room k X.A) (ho : PD X o to) (hi : PD X i ti) (hs : L2.NoSl i := by intro _ _; rfl) : PD X (.Subscript o i pos) (dGetA to ti) :=
  pe_imp (L2.pe_dget (L2.hu_of hr) ho hi hs) fun σ H Q ⟨f, ρ, st, Q', R, h, l⟩ => ⟨f, ρ, st, _, R, h, fun x st1 v f1 H1 q1 e1 s1 r1 => ⟨f1, ρ, st1, _, R.later e1 s1, q1, fun y st2 w f2 H2 q2 e2 s2 r2 => by
    cases x <;> try (exact q2.elim)
    obtain ⟨kvs, k, d, h1, rfl, h3, h4⟩ := q2
    have r1' := r1.mono e2
    rw [RD.ref] at r1'
    obtain ⟨a, ea, rfl⟩ := r1'
    obtain ⟨a', ks, g1, g2, g3, g4⟩ := s2.rdDA h1
    rw [ea] at g1; cases g1
    obtain ⟨v, g5, g6⟩ := vals_at g3 g4 k d h3
    obtain rfl := keyD_V r2
    exact ⟨a, v, rfl, by rw [← g5]; exact dget_of g2, l d st2 v f2 H2 h4 (e1.trans e2) s2 g6⟩⟩⟩
theorem in_some {kvs : List (Ky × D)} {ks : List (L2.Key × L2.V)} (e : ks.map (·.1) = kvs.map (·.1)) (r : RDs K f H (kvs.map (·.2)) (ks.map (·.2))) (k : Ky) : (L2.valV ks k).isSome = (valD kvs k).isSome := by
  cases h : valD kvs k with
  | none => rw [vals_none e k h]; rfl
  | some d =>
    obtain ⟨v, g, _⟩ := vals_at e r k d h
    rw [g]; rfl
theorem in_core {Q' : Pd.K} {Q : L2.VK} {neg : Bool} {hi : lift K ti σ H (fun y H1 => lift K to σ H1 fun _ _ => True) → True}
    (R : Rel K f ρ st σ H) (h : ti ρ st fun y st1 => to ρ st1 fun x st2 => inKC y x st2 fun b => Q' (.bl (if neg then !b else b)) st2) (l : LQ K f H Q' Q) :
    lift K ti σ H fun y H1 => lift K to σ H1 fun x H2 => ∃ a o, x = .ref a ∧ L2.DGet H2 a y o ∧ Q (.bl (if neg then !o.isSome else o.isSome)) H2 :=
  ⟨f, ρ, st, _, R, h, fun y st1 v f1 H1 q1 e1 s1 r1 => ⟨f1, ρ, st1, _, R.later e1 s1, q1, fun x st2 w f2 H2 q2 e2 s2 r2 => by
    cases x <;> try (exact q2.elim)
    obtain ⟨kvs, k, h1, rfl, h3⟩ := q2
    rw [RD.ref] at r2
    obtain ⟨a, ea, rfl⟩ := r2
    obtain ⟨a', ks, g1, g2, g3, g4⟩ := s2.rdDA h1
    rw [ea] at g1; cases g1
    obtain rfl := keyD_V (r1.mono e2)
    refine ⟨a, _, rfl, dget_of g2, ?_⟩
    rw [in_some g3 g4 k]
    exact l _ st2 _ f2 H2 h3 (e1.trans e2) s2 (RD.bl.mpr rfl)⟩⟩
theorem pd_inK {k : Nat} (hr : L2.Room k X.A) (hi : PD X i ti) (ho : PD X o to) (hm : behindInMarks .In o = false := by rfl) : PD X (.Compare i [.In] [o] pos) (dCmp inKC ti to) :=
  pe_imp (L2.pe_cmp (L2.pc_din (L2.hu_of hr) hi ho) hm) fun σ H Q ⟨f, ρ, st, Q', R, h, l⟩ => in_core (neg := false) (hi := fun _ => trivial) R h l
theorem pd_notinK {k : Nat} (hr : L2.Room k X.A) (hi : PD X i ti) (ho : PD X o to) (hm : behindInMarks .NotIn o = false := by rfl) : PD X (.Compare i [.NotIn] [o] pos) (dCmp notinKC ti to) :=
  pe_imp (L2.pe_cmp (L2.pc_dnotin (L2.hu_of hr) hi ho) hm) fun σ H Q ⟨f, ρ, st, Q', R, h, l⟩ => in_core (neg := true) (hi := fun _ => trivial) R h l
theorem pt_inK {k : Nat} (hr : L2.Room k X.A) (hi : PD X i ti) (ho : PD X o to) (hm : behindInMarks .In o = false := by rfl) : PDT X (.Compare i [.In] [o] pos) (tTru (dCmp inKC ti to)) :=
  pt_imp (L2.pt_cmp (L2.pc_din (L2.hu_of hr) hi ho) hm) fun σ H Q ⟨f, ρ, st, Q', R, h, l⟩ =>
    in_core (neg := false) (hi := fun _ => trivial) (Q' := fun x st' => ∃ b, x = .bl b ∧ Q' b st') (Q := fun x H' => ∃ b, x = .bl b ∧ Q b H') R
      (by
        refine (show (ti ρ st fun y st1 => to ρ st1 fun x st2 => inKC y x st2 fun b => ∃ b', D.bl (if false = true then !b else b) = .bl b' ∧ Q' b' st2) from ?_)
        have e : (fun (y : D) (st1 : Store) => to ρ st1 fun x st2 => inKC y x st2 fun b => ∃ b', D.bl (if false = true then !b else b) = .bl b' ∧ Q' b' st2) = fun y st1 => to ρ st1 fun x st2 => inKC y x st2 fun b => Q' b st2 := by
          funext y st1
          congr
          funext x st2
          congr
          funext b
          exact propext ⟨fun ⟨b', e, q⟩ => by cases e; exact q, fun q => ⟨b, rfl, q⟩⟩
        rw [e]; exact h)
      fun x st' v f' H' ⟨b, hx, q⟩ e s r => by
        subst hx
        rw [RD.bl] at r
        exact ⟨b, r, l b st' f' H' q e s⟩
theorem pt_notinK {k : Nat} (hr : L2.Room k X.A) (hi : PD X i ti) (ho : PD X o to) (hm : behindInMarks .NotIn o = false := by rfl) : PDT X (.Compare i [.NotIn] [o] pos) (tTru (dCmp notinKC ti to)) :=
  pt_imp (L2.pt_cmp (L2.pc_dnotin (L2.hu_of hr) hi ho) hm) fun σ H Q ⟨f, ρ, st, Q', R, h, l⟩ =>
    in_core (neg := true) (hi := fun _ => trivial) (Q' := fun x st' => ∃ b, x = .bl b ∧ Q' b st') (Q := fun x H' => ∃ b, x = .bl b ∧ Q b H') R
      (by
        have e : (fun (y : D) (st1 : Store) => to ρ st1 fun x st2 => inKC y x st2 fun b => ∃ b', D.bl (if true = true then !b else b) = .bl b' ∧ Q' b' st2) = fun y st1 => to ρ st1 fun x st2 => inKC y x st2 fun b => Q' (!b) st2 := by
          funext y st1
          congr
          funext x st2
          congr
          funext b
          exact propext ⟨fun ⟨b', e, q⟩ => by cases e; exact q, fun q => ⟨!b, rfl, q⟩⟩
        rw [e]; exact h)
      fun x st' v f' H' ⟨b, hx, q⟩ e s r => by
        subst hx
        rw [RD.bl] at r
        exact ⟨b, r, l b st' f' H' q e s⟩
theorem pd_get2 {k : Nat} {e g : Expr} (hr : L2.Room k X.A) (ho : PD X o to) (he : PD X e ti) (hf : PD X g tx) (m : L2.M2 X o "get" apos e g cpos := by exact ⟨rfl, rfl, rfl, rfl⟩) : PD X (.Call (.Attribute o "get" apos) [e, g] [] cpos) (dGet2 to ti tx) :=
  pe_imp (L2.pe_dget2 (L2.hu_of hr) ho he hf m) fun σ H Q ⟨f, ρ, st, Q', R, h, l⟩ => ⟨f, ρ, st, _, R, h, fun x st1 v f1 H1 ⟨hx, q1⟩ e1 s1 r1 => by
    cases x <;> try (exact hx.elim)
    obtain ⟨kvs0, h0⟩ := hx
    have r1' := r1
    rw [RD.ref] at r1'
    obtain ⟨a, ea, rfl⟩ := r1'
    obtain ⟨a', ks0, g1, g2, g3, g4⟩ := s1.rdDA h0
    rw [ea] at g1; cases g1
    refine ⟨a, rfl, .inl ⟨ks0, g2⟩, f1, ρ, st1, _, R.later e1 s1, q1, fun y st2 w f2 H2 q2 e2 s2 r2 => ⟨f2, ρ, st2, _, R.later (e1.trans e2) s2, q2, fun z st3 u f3 H3 q3 e3 s3 r3 => ?_⟩⟩
    obtain ⟨kvs, k, h1, rfl, h3⟩ := q3
    obtain ⟨a', ks, k1, k2, k3, k4⟩ := s3.rdDA h1
    have ea3 := (e2.trans e3).at ea
    rw [ea3] at k1; cases k1
    obtain rfl := keyD_V (r2.mono e3)
    refine ⟨_, dget_of k2, ?_⟩
    cases hv : valD kvs k with
    | none =>
      rw [hv] at h3
      rw [vals_none k3 k hv]
      exact l _ st3 _ f3 H3 h3 (e1.trans (e2.trans e3)) s3 r3
    | some d =>
      rw [hv] at h3
      obtain ⟨v, p1, p2⟩ := vals_at k3 k4 k d hv
      rw [p1]
      exact l _ st3 _ f3 H3 h3 (e1.trans (e2.trans e3)) s3 p2⟩
/-! displays -/
inductive PPD (X : L2.Cx) : List (Option Expr) → List Expr → List (TE × TE) → Prop
  | nil : PPD X [] [] []
  | cons {k v : Expr} {ks : List (Option Expr)} {vs : List Expr} {tk tv : TE} {r : List (TE × TE)} : PD X k tk → PD X v tv → PPD X ks vs r → PPD X (some k :: ks) (v :: vs) ((tk, tv) :: r)
theorem PPD.pps {ks : List (Option Expr)} {vs : List Expr} {prs : List (TE × TE)} (h : PPD X ks vs prs) : L2.PPs X pos ks vs (prs.map fun p => (lift X.K p.1, lift X.K p.2)) := by
  induction h with
  | nil => exact L2.pps_nil
  | cons hk hv _ ih => exact L2.pps_cons hk hv ih
theorem pairs_lift : ∀ (prs : List (TE × TE)) {f : List Addr} {ρ : Env} {st : Store} {σ : L2.St} {H : Hp} {Q' : List (D × D) → Store → Prop} {Q : List (L2.V × L2.V) → Hp → Prop}, Rel K f ρ st σ H → pairsD prs ρ st Q' →
    (∀ ps st' us f' H', Q' ps st' → Ext K f H f' H' → RelS K f' st' H' → RDs K f' H' (ps.map (·.1)) (us.map (·.1)) → RDs K f' H' (ps.map (·.2)) (us.map (·.2)) → Q us H') → L2.tPairs (prs.map fun p => (lift K p.1, lift K p.2)) σ H Q
  | [], f, ρ, st, σ, H, Q', Q, R, h, l => l [] st [] f H h .refl R.toRelS (RDs.nil.mpr rfl) (RDs.nil.mpr rfl)
  | p :: prs, f, ρ, st, σ, H, Q', Q, R, h, l =>
    ⟨f, ρ, st, _, R, h, fun x st1 v f1 H1 q1 e1 s1 r1 => ⟨f1, ρ, st1, _, R.later e1 s1, q1, fun y st2 w f2 H2 q2 e2 s2 r2 =>
      pairs_lift prs (R.later (e1.trans e2) s2) q2 fun ps st3 us f3 H3 q3 e3 s3 ra rb => l _ st3 _ f3 H3 q3 ((e1.trans e2).trans e3) s3 (RDs.cons.mpr ⟨_, _, rfl, r1.mono (e2.trans e3), ra⟩) (RDs.cons.mpr ⟨_, _, rfl, r2.mono e3, rb⟩)⟩⟩
theorem keys_V : ∀ {kvs : List (Ky × D)} {us : List (L2.V × L2.V)}, RDs K f H (kvs.map fun kv => keyD kv.1) (us.map (·.1)) → RDs K f H (kvs.map (·.2)) (us.map (·.2)) → ∃ ks : List (L2.Key × L2.V), us = ks.map (fun kv => (L2.kV kv.1, kv.2)) ∧ ks.map (·.1) = kvs.map (·.1) ∧ RDs K f H (kvs.map (·.2)) (ks.map (·.2))
  | [], us, h, h' => by
    rw [List.map_nil, RDs.nil] at h
    rw [List.map_eq_nil_iff] at h
    subst h
    exact ⟨[], rfl, rfl, RDs.nil.mpr rfl⟩
  | kv :: kvs, [], h, h' => by
    rw [List.map_cons, List.map_nil, RDs.cons] at h
    obtain ⟨v, r, e, _⟩ := h
    cases e
  | kv :: kvs, u :: us, h, h' => by
    rw [List.map_cons, List.map_cons, RDs.cons] at h h'
    obtain ⟨v, r, e, h1, h2⟩ := h
    obtain ⟨v', r', e', h1', h2'⟩ := h'
    injection e with e1 e2
    injection e' with e1' e2'
    obtain ⟨ks, p1, p2, p3⟩ := keys_V (us := us) (by rw [e2]; exact h2) (by rw [e2']; exact h2')
    refine ⟨(kv.1, u.2) :: ks, ?_, ?_, ?_⟩
    · rw [List.map_cons, ← p1]
      have := keyD_V h1
      rw [← e1] at this
      rw [← this]
    · rw [List.map_cons, List.map_cons, p2]
    · rw [List.map_cons, List.map_cons, RDs.cons]
      exact ⟨_, _, rfl, by rw [e1']; exact h1', p3⟩
theorem merge_at : ∀ {kvs : List (Ky × D)} {ks : List (L2.Key × L2.V)} {acc : List (Ky × D)} {ac : List (L2.Key × L2.V)}, ks.map (·.1) = kvs.map (·.1) → RDs K f H (kvs.map (·.2)) (ks.map (·.2)) → ac.map (·.1) = acc.map (·.1) → RDs K f H (acc.map (·.2)) (ac.map (·.2)) →
    (L2.mergeK ac ks).map (·.1) = (kvs.foldl (fun acc kv => putD acc kv.1 kv.2) acc).map (·.1) ∧ RDs K f H ((kvs.foldl (fun acc kv => putD acc kv.1 kv.2) acc).map (·.2)) ((L2.mergeK ac ks).map (·.2))
  | [], [], acc, ac, _, _, e, r => ⟨e, r⟩
  | [], _ :: _, _, _, e, _, _, _ => by simp at e
  | _ :: _, [], _, _, e, _, _, _ => by simp at e
  | kv :: kvs, u :: ks, acc, ac, e, r, e', r' => by
    simp only [List.map_cons, List.cons.injEq] at e
    rw [List.map_cons, List.map_cons, RDs.cons] at r
    obtain ⟨v, rr, er, r1, r2⟩ := r
    injection er with er1 er2
    have hu : RD K f H kv.2 u.2 := by rw [er1]; exact r1
    obtain ⟨p1, p2⟩ := put_at (k := kv.1) hu e' r'
    have hk : u.1 = kv.1 := e.1
    have := merge_at (kvs := kvs) (ks := ks) (acc := putD acc kv.1 kv.2) (ac := L2.putK ac u.1 u.2) e.2 (by rw [er2]; exact r2) (by rw [hk]; exact p1) (by rw [hk]; exact p2)
    exact this
theorem pd_disp {ks : List (Option Expr)} {vs : List Expr} {prs : List (TE × TE)} (h : PPD X ks vs prs) (hall : ks.all (·.isSome) = true := by rfl) (hl : ks.length = vs.length := by rfl) (h0 : ks ≠ [] := by (intro h; cases h)) (h15 : ks.length ≤ 15 := by decide) : PD X (.Dict ks vs pos) (dDisp prs) :=
  pe_imp (L2.pe_disp (h.pps (pos := pos)) hall hl h0 h15) fun σ H Q ⟨f, ρ, st, Q', R, h, l⟩ p hp => by
    obtain ⟨s', e⟩ := R.toRelS.new (o := .dK []) (c := .dic []) hp ⟨[], L2.upd_same, rfl, RDs.nil.mpr rfl⟩
    refine pairs_lift prs (R.later e s') h fun ps st2 us f2 H2 q2 e2 s2 ra rb => ?_
    obtain ⟨kvs, rfl, h1, h2, h3⟩ := q2
    obtain ⟨a, ks, g1, g2, g3, g4⟩ := s2.rdD h2
    have hn : (f ++ [p])[st.length]? = some p := by rw [← R.toRelS.len]; simp
    have hn2 := e2.at hn
    rw [hn2] at g1; cases g1
    cases ks with
    | cons _ _ => simp at g3
    | nil =>
      rw [List.map_map] at ra rb
      obtain ⟨ks, p1, p2, p3⟩ := keys_V (kvs := kvs) ra rb
      obtain ⟨m1, m2⟩ := merge_at p2 p3 (acc := []) (ac := []) rfl (RDs.nil.mpr rfl)
      obtain ⟨s3, e3⟩ := s2.putDic hn2 h2 g2 (kvs' := putAll kvs) m1 m2
      have hlk : ks.length ≤ 15 := by
        have := congrArg List.length p2
        rw [List.length_map, List.length_map] at this
        omega
      exact ⟨g2, ks, p1, hlk, l _ _ _ f2 _ h3 ((e.trans e2).trans e3) s3 (RD.ref.mpr ⟨p, hn2, rfl⟩)⟩
end
/-! ### a dict is locked -/
theorem frd_at {n : Nat} {a : Addr} {kvs : List (Ky × D)} {tk : Tok} (s : RelS K f st H) (hn : f[n]? = some a) (h : st[n]? = some (.frd kvs tk)) : H a = some (.frz tk.1 (.dK tk.2)) ∧ tk.2.map (·.1) = kvs.map (·.1) ∧ RDs K f H (kvs.map (·.2)) (tk.2.map (·.2)) := by
  obtain ⟨a', h1, h2, h3⟩ := s.at h
  rw [hn] at h1; cases h1
  exact ⟨h2, h3⟩
theorem lock_at {n : Nat} {a : Addr} {kvs : List (Ky × D)} {ks : List (L2.Key × L2.V)} {od : Obj} (s : RelS K f st H) (hn : f[n]? = some a) (h : rdD st n kvs) (hH : H a = some (.dK ks)) (e : ks.map (·.1) = kvs.map (·.1)) (r : RDs K f H (kvs.map (·.2)) (ks.map (·.2))) :
    RelS K f (st.set n (.frd kvs (od, ks))) (L2.upd H a (.frz od (.dK ks))) ∧ Ext K f H f (L2.upd H a (.frz od (.dK ks))) :=
  s.chg (c := .dic kvs) h rfl hn (.inr (.inr (.inl ⟨ks, hH⟩))) rfl ⟨L2.upd_same, e, r.mono (Ext.upd0 (.inr (.inr (.inl ⟨ks, hH⟩))))⟩
theorem unlock_at {n : Nat} {a : Addr} {kvs : List (Ky × D)} {ks : List (L2.Key × L2.V)} {od : Obj} (s : RelS K f st H) (hn : f[n]? = some a) (h : st[n]? = some (.frd kvs (od, ks))) :
    H a = some (.frz od (.dK ks)) ∧ RelS K f (st.set n (.dic kvs)) (L2.upd H a (.dK ks)) ∧ Ext K f H f (L2.upd H a (.dK ks)) := by
  obtain ⟨h1, h2, h3⟩ := frd_at s hn h
  have w : Wr H a := .inr (.inr (.inr ⟨od, ks, h1⟩))
  exact ⟨h1, s.chg (c := .frd kvs (od, ks)) h rfl hn w rfl ⟨ks, L2.upd_same, h2, h3.mono (Ext.upd0 w)⟩⟩
theorem pd_lockD {e : Expr} {t : TE} (h : PD X e t) : PD X e (dLockD t) :=
  pe_imp (L2.pe_lock h) fun σ H Q ⟨f, ρ, st, Q', R, ⟨n, kvs, h1, h2⟩, l⟩ => by
    obtain ⟨a, ks, g1, g2, g3, g4⟩ := R.toRelS.rdD h1
    refine ⟨a, .dK ks, g2, trivial, fun od => ?_⟩
    obtain ⟨s1, e1⟩ := lock_at (od := od) R.toRelS g1 h1 g2 g3 g4
    refine ⟨f, ρ, _, _, R.later e1 s1, h2 (od, ks), fun x st2 v f2 H2 ⟨q1, q2⟩ e2 s2 r2 => ?_⟩
    obtain ⟨u1, u2, u3⟩ := unlock_at s2 (e2.at g1) q1
    exact ⟨u1, l x _ v f2 _ q2 ((e1.trans e2).trans u3) u2 (r2.mono u3)⟩
theorem realI_keys {n : Nat} {a : Addr} {kvs : List (Ky × D)} {tk : Tok} (hn : f[n]? = some a) (hk : tk.2.map (·.1) = kvs.map (·.1)) : RealI K f H ⟨keysD kvs, fun s => s[n]? = some (.frd kvs tk)⟩ (L2.Itk a tk.1 tk.2) where
  go := fun k f2 st2 H2 e2 s2 g hlt => by
    obtain ⟨h1, h2, h3⟩ := frd_at s2 (e2.at hn) g
    refine ⟨h1, ?_⟩
    have := congrArg List.length hk
    rw [List.length_map, List.length_map] at this
    have hlt' : k < (keysD kvs).length := hlt
    unfold keysD at hlt'
    rw [List.length_map] at hlt'
    omega
  stop := fun f2 st2 H2 e2 s2 g => by
    obtain ⟨h1, h2, h3⟩ := frd_at s2 (e2.at hn) g
    refine ⟨h1, ?_⟩
    have := congrArg List.length hk
    rw [List.length_map, List.length_map] at this
    show tk.2.length ≤ (keysD kvs).length
    unfold keysD
    rw [List.length_map]
    omega
  yld := fun k f2 st2 H2 d x H3 e2 s2 g hd y => by
    obtain ⟨rfl, k', v, hk', rfl⟩ := y
    refine ⟨.refl, s2, ?_⟩
    have hd' : (keysD kvs)[k]? = some d := hd
    unfold keysD at hd'
    rw [show (List.map (fun kv : Ky × D => keyD kv.1) kvs) = (kvs.map (·.1)).map keyD by rw [List.map_map]; rfl, List.getElem?_map, ← hk, List.getElem?_map, hk'] at hd'
    have e9 : keyD k' = d := by simpa using hd'
    subst e9
    cases k' with
    | inl i => exact RD.int.mpr rfl
    | inr s => exact RD.str.mpr rfl
theorem pi_keysD {tg e : Expr} {td : TE} (h : PD X e td) : PDI X tg e (iKeysD td) :=
  pi_imp (L2.pi_keys h) fun σ H R ⟨f, ρ, st, R', Re, h, l⟩ => ⟨f, ρ, st, _, Re, h, fun x st1 v f1 H1 q1 e1 s1 r1 => by
    obtain ⟨n, kvs, tk, rfl, q2, q3⟩ := q1
    rw [RD.ref] at r1
    obtain ⟨a, ea, rfl⟩ := r1
    obtain ⟨h1, h2, h3⟩ := frd_at s1 ea q2
    exact ⟨a, tk.1, rfl, .inl ⟨tk.2, h1, l _ _ _ f1 H1 q3 e1 s1 (realI_keys ea h2)⟩⟩⟩
theorem ps_lockD {sm : Stmt} {t : TS} (h : PDS X sm t) : PDS X sm (sLockD t) :=
  ps_imp (L2.ps_lock h) fun D σ H ⟨f, ρ, st, D', R, ⟨n, kvs, h1, h2⟩, l⟩ => by
    obtain ⟨a, ks, g1, g2, g3, g4⟩ := R.toRelS.rdD h1
    refine ⟨a, .dK ks, g2, trivial, fun od => ?_⟩
    obtain ⟨s1, e1⟩ := lock_at (od := od) R.toRelS g1 h1 g2 g3 g4
    refine ⟨f, ρ, _, _, R.later e1 s1, h2 (od, ks), ⟨?_, ?_, ?_, ?_⟩⟩
    · intro ρ' st' σ' f' H' ⟨q1, q2⟩ e2 R2
      obtain ⟨u1, u2, u3⟩ := unlock_at R2.toRelS (e2.at g1) q1
      exact ⟨u1, l.nx _ _ _ f' _ q2 ((e1.trans e2).trans u3) (R2.later u3 u2)⟩
    · intro x st' v f' H' ⟨q1, q2⟩ e2 s2 r2
      obtain ⟨u1, u2, u3⟩ := unlock_at s2 (e2.at g1) q1
      exact ⟨u1, l.rt x _ v f' _ q2 ((e1.trans e2).trans u3) u2 (r2.mono u3)⟩
    · intro ρ' st' σ' f' H' ⟨q1, q2⟩ e2 R2
      obtain ⟨u1, u2, u3⟩ := unlock_at R2.toRelS (e2.at g1) q1
      exact ⟨u1, l.bk _ _ _ f' _ q2 ((e1.trans e2).trans u3) (R2.later u3 u2)⟩
    · intro ρ' st' σ' f' H' ⟨q1, q2⟩ e2 R2
      obtain ⟨u1, u2, u3⟩ := unlock_at R2.toRelS (e2.at g1) q1
      exact ⟨u1, l.ct _ _ _ f' _ q2 ((e1.trans e2).trans u3) (R2.later u3 u2)⟩
/-! ### list.index of any data -/
def rIndexD (K : Kf) : L2.V → List L2.V → Hp → L2.VK → Prop := fun x xs H Q => ∃ (a : Addr) (ys : List L2.V) (y : L2.V) (d : PyData) (es : List PyData) (j : Nat) (e : PyData), x = L2.V.ref a ∧ xs = [y] ∧ L2.SqL K H a ys ∧ L2.Dp K H y d ∧ L2.DpAll K H ys es ∧ (d.canLay0 = true ∧ d.depth ≤ 60) ∧ PyData.canLayAll0 es = true ∧ es[j]? = some e ∧ PyData.eqv e d = true ∧
  (∀ (m : Nat) (e' : PyData), m < j → es[m]? = some e' → PyData.eqv e' d = false) ∧ Q (.int (j : Nat)) H
theorem readsAll_at {h : Heap} : ∀ {vs : List Value} {es : List PyData} {as : List Addr}, ReadsAll h vs es as → vs.length = es.length ∧ ∀ (i : Nat) (e : PyData), es[i]? = some e → ∃ u, vs[i]? = some u ∧ ∃ bs, Reads h u e bs
  | [], _, _, r => by cases r; exact ⟨rfl, by simp⟩
  | u :: vs, _, _, r => by
    cases r with
    | cons h1 h2 =>
      obtain ⟨a, b⟩ := readsAll_at h2
      refine ⟨by simp [a], fun i e he => ?_⟩
      cases i with
      | zero => simp at he; subst he; exact ⟨u, rfl, _, h1⟩
      | succ i => exact b i e (by simpa using he)
theorem hit_eq {h : Heap} {d : PyData} {u : Value} {e : PyData} {bs : List Addr} (ru : Reads h u e bs) (he : e.canLay0 = true) : hitV h d u = PyData.eqv e d := by
  cases h1 : PyData.eqv e d with
  | true => exact hitV_iff.mpr ⟨e, bs, ru, h1⟩
  | false =>
    cases h2 : hitV h d u with
    | false => rfl
    | true =>
      obtain ⟨e', bs', r', h'⟩ := hitV_iff.mp h2
      rw [← reads_fun e e' u _ _ he ru r', h1] at h'
      cases h'
theorem mt_indexD (hu : X.A.units + 64 < cLine) : L2.MtR X "list.index" (rIndexD X.K) := by
  intro pins s σ H x xs v us Q I rx rxs h
  obtain ⟨a, ys, y, d, es, j, e, rfl, rfl, hs, hx, hxs, hd, hes, hz, hzj, hno, q⟩ := h
  cases rx
  cases rxs with
  | cons ry rt =>
    rename_i uy ut
    cases rt
    obtain ⟨as, rv0⟩ := L2.Dp.reads I d y uy hx ry
    obtain ⟨its, rv, ⟨⟨cls, dd, data, sl⟩, n, ho, hc, hdn, hdt⟩, hlen⟩ := I.list hs
    simp only at hc hdt
    subst hc hdt
    obtain ⟨bs, ra⟩ := L2.Dp.readsAll I es ys its hxs rv
    obtain ⟨hl1, hat⟩ := readsAll_at ra
    obtain ⟨m1, _⟩ := readsAll_mem ra
    obtain ⟨u, hu1, cs, ru⟩ := hat j e hz
    obtain ⟨hjl, hje⟩ := List.getElem?_eq_some_iff.mp hu1
    have hj : j < its.toArray.size := by simpa using hjl
    have hsl := sizeLine_eq
    have hvl := rv.length
    have hA : X.A.in1.units + 61 < cLine := by show X.A.units + 1 + 61 < cLine; omega
    refine call_meets PySem.F.slot_list_index ⟨_, ho, rfl⟩ PySem.F.entry_list_index (PySem.F.args_list_index_2 _ _)
      (SeqAt.list_indexAt a its.toArray n dd sl uy (hitV s.heap d) j hj (by omega) ?_ ?_) ⟨ho, fun u' hu' => ?_, ?_⟩
    · have e1 : its.toArray[j] = u := by simpa using hje
      rw [e1, hit_eq ru (canLay_mem hes e (List.mem_of_getElem? hz))]
      exact hzj
    · intro m hm hmj
      have hml : m < its.length := by simpa using hm
      have hme : m < es.length := by omega
      have hy' : es[m]? = some es[m] := List.getElem?_eq_getElem hme
      obtain ⟨u2, hu2, cs2, ru2⟩ := hat m _ hy'
      obtain ⟨_, hme2⟩ := List.getElem?_eq_some_iff.mp hu2
      have e1 : its.toArray[m] = u2 := by simpa using hme2
      rw [e1, hit_eq ru2 (canLay_mem hes _ (List.mem_of_getElem? hy'))]
      exact hno m _ hmj hy'
    · obtain ⟨e', he', cs', rw'⟩ := m1 u' (by simpa using hu')
      exact hit_eqAt rv0 hd rw' (canLay_mem hes e' he') hA
    · exact ⟨.int (j : Nat), H, I.tok _, ⟨_, rfl⟩, q⟩
theorem toPs_at : ∀ {xs : List D} {i : Nat}, (toPs xs)[i]? = (xs[i]?).map toP
  | [], i => by simp [toPs]
  | x :: xs, 0 => by simp [toPs]
  | x :: xs, i + 1 => by
    have := toPs_at (xs := xs) (i := i)
    simp only [toPs, List.getElem?_cons_succ]
    exact this
theorem okds_mem : ∀ {xs : List D} {i : Nat} {z : D}, okds 60 xs = true → xs[i]? = some z → D.okd 60 z = true
  | [], _, _, _, h => by simp at h
  | x :: xs, 0, z, h, e => by
    have h' : D.okd 60 x = true ∧ okds 60 xs = true := by simpa [okds] using h
    simp at e; subst e; exact h'.1
  | x :: xs, i + 1, z, h, e => by
    have h' : D.okd 60 x = true ∧ okds 60 xs = true := by simpa [okds] using h
    exact okds_mem h'.2 (by simpa using e)
theorem real_indexD : RealM K (rIndexD K) indexDM := fun f st H x xs v vs Q' Q s r1 r2 h l => by
  cases x <;> try (exact h.elim)
  match xs, h with
  | [], h => exact h.elim
  | y :: _ :: _, h => exact (show False from h).elim
  | [y], h =>
    obtain ⟨ys, j, z, h0, h1, h2, h3, h4, h5, h6⟩ := h
    rw [RD.ref] at r1
    obtain ⟨a, e, rfl⟩ := r1
    obtain ⟨w, rfl, r3⟩ := r2.inv1
    obtain ⟨a', us, g1, g2, g3⟩ := s.rdA h0
    rw [e] at g1; cases g1
    have okz : ∀ {i : Nat} {z : D}, ys[i]? = some z → D.okd 60 z = true := fun hz => okds_mem h2 hz
    refine ⟨a, us, w, _, _, j, toP z, rfl, rfl, g2, toP_dp y h1 r3, toPs_dp _ h2 g3, toP_ok y h1, (toPs_ok _ h2).1, ?_, ?_, fun m e' hm he' => ?_, l.now s h6 (RD.int.mpr rfl)⟩
    · rw [toPs_at, h3]; rfl
    · rw [toP_eqv z y (okz h3) h1]; exact h4
    · rw [toPs_at] at he'
      cases hq : ys[m]? with
      | none => rw [hq] at he'; cases he'
      | some z' =>
        rw [hq] at he'
        cases he'
        rw [toP_eqv z' y (okz hq) h1]
        exact h5 m z' hm hq
/-! ### list(range(i, j, -1)) -/
def dnV (a b : Int) : List L2.V := (List.range (a - b).toNat).map fun i => L2.V.int (a - (i : Nat))
theorem dnV_length (a b : Int) : (dnV a b).length = (a - b).toNat := by unfold dnV; rw [List.length_map, List.length_range]
theorem vals_dn {a b : Int} {acc : Array Value} (h : ItemsOf (fun i v => ∃ t, v = .int (a + i * (-1)) t) acc (a - b).toNat) : L2.Vals (dnV a b) acc.toList := by
  have e : acc.toList.length = (a - b).toNat := by rw [Array.length_toList]; exact h.1
  unfold dnV
  rw [← e]
  refine L2.vals_of_get acc.toList _ fun j u hj => ?_
  obtain ⟨t, rfl⟩ := h.2 j u (by rw [← hj, Array.getElem?_toList])
  exact ⟨t, by congr 1; omega⟩
theorem rngD_dnV (a b : Int) : RDs K f H (rngD a (a - b).toNat) (dnV a b) := by
  have e1 : rngD a (a - b).toNat = ((List.range (a - b).toNat).map fun (k : Nat) => a - (k : Int)).map D.int := by unfold rngD; simp
  have e2 : dnV a b = ((List.range (a - b).toNat).map fun (k : Nat) => a - (k : Int)).map L2.V.int := by unfold dnV; simp
  rw [e1, e2]; exact RDs.of_ints _
def tLstDn (ta : L2.TA) : L2.TE := fun σ H Q => ta σ H fun vs H1 => ∃ i j : Int, vs = [.int i, .int j, .int (-1)] ∧ (-(2 ^ 62) ≤ i ∧ i < 2 ^ 62 ∧ -(2 ^ 62) ≤ j ∧ j < 2 ^ 62 ∧ (i - j).toNat ≤ 2 ^ 24) ∧ ∀ q, H1 q = none → Q (.ref q) (L2.upd H1 q (.lst (dnV i j)))
open PyProof.Rows L2 in
theorem pe_lstDn {a b c : Expr} {ta : L2.TA} {p p2 pos pos2 : Pos} (hc : X.calm = true) (hg : L2.Gl X "list") (hm : X.mg "list" = none) (hg2 : L2.Gl X "range") (hm2 : X.mg "range" = none) (ha : L2.PA X [a, b, c] ta)
    (na : starEach [.Call (.Name "range" p2) [a, b, c] [] pos2] X.env = (false, eval (.Call (.Name "range" p2) [a, b, c] [] pos2) X.env) :: starEach [] X.env := by rfl)
    (hs : starEach [a, b, c] X.env = (false, eval a X.env) :: starEach [b, c] X.env := by rfl) (hpl : (backTo pos2 (starEach [b, c] X.env)).any (·.1) = false := by rfl) :
    L2.PE X (.Call (.Name "list" p) [.Call (.Name "range" p2) [a, b, c] [] pos2] [] pos) (tLstDn ta) := by
  refine ⟨fun pins s σ H Q I h => ?_⟩
  have inner : wpAny (model X.prog X.w) X.A (eval (.Call (.Name "range" p2) [a, b, c] [] pos2) X.env) (fun x s' => ∃ (r : Addr) (i j : Int) (t u v : PySem.Tok) (H' : Hp), x = .ref r ∧ IsRange s'.heap r i j (-1) t u v ∧ L2.Inv X pins σ H' s' ∧ ((-(2 ^ 62) ≤ i ∧ i < 2 ^ 62 ∧ -(2 ^ 62) ≤ j ∧ j < 2 ^ 62 ∧ (i - j).toNat ≤ 2 ^ 24) ∧ ∀ q, H' q = none → Q (.ref q) (L2.upd H' q (.lst (dnV i j))))) X.xe s := by
    refine Call_ (ld_blt I hg2 hm2 boot_range (PyProof.Rows.callWith_type1 (thn (ha.run pos2 pins s σ H _ I h) fun us s1 ⟨vs, H1, I1, r1, q1⟩ => ?_) hs hpl))
    obtain ⟨i, j, e, q⟩ := q1
    subst e
    cases r1 with
    | cons r rr =>
      cases rr with
      | cons r' rr =>
        cases rr with
        | cons r'' rr =>
          cases rr
          obtain ⟨t, rfl⟩ := r
          obtain ⟨t', rfl⟩ := r'
          obtain ⟨t'', rfl⟩ := r''
          refine call_range_3 (by decide) ?_ (.inl (PyProof.noPylong_small (by decide)))
          exact ⟨_, i, j, _, _, _, H1, rfl, IsRange.new .., I1.kept fun b o e => Heap.get?_push_of_some _ e, q⟩
  refine Call_ (ld_blt I hg hm boot_list (PyProof.Rows.callWith_type1 (args_cons (thn inner fun x s1 ⟨r, i, j, t, u, v, H1, ex, hr, I1, ok, q⟩ => args_nil ?_) na) na))
  subst ex
  obtain ⟨b1, b2, b3, b4, b5⟩ := ok
  refine call_list_range (n := (i - j).toNat) (I1.ok.hd hc) hr (PySem.W.small_down b1 b2 b3 b4) (PySem.W.rangeSize_downNat i j) b5 fun h' tk acc c' hk e' hi => ?_
  refine ⟨.ref s1.heap.objs.size, L2.upd H1 s1.heap.objs.size (.lst (dnV i j)), I1.laid hk (Nat.le_refl _) (show L2.ObjOk X.prog X.w _ _ _ (.lst (dnV i j)) from ⟨?_, acc.toList, c', vals_dn hi, ?_⟩), rfl, q _ (I1.hok.fresh (Nat.le_refl _))⟩
  · rw [dnV_length, sizeLine_eq]; omega
  · rw [Array.toArray_toList]; exact e'
theorem pd_lstRD {a b : Expr} {ta tb : TE} {p p1 p2 p3 pos pos2 : Pos} {k1 : _} (hc : X.calm = true) (hg : L2.Gl X "list") (hm : X.mg "list" = none) (hg2 : L2.Gl X "range") (hm2 : X.mg "range" = none) (h : PD X a ta) (h' : PD X b tb)
    (na : starEach [.Call (.Name "range" p2) [a, b, .UnaryOp .USub (.Constant (.int 1) k1 p1) p3] [] pos2] X.env = (false, eval (.Call (.Name "range" p2) [a, b, .UnaryOp .USub (.Constant (.int 1) k1 p1) p3] [] pos2) X.env) :: starEach [] X.env := by rfl)
    (hs : starEach [a, b, .UnaryOp .USub (.Constant (.int 1) k1 p1) p3] X.env = (false, eval a X.env) :: starEach [b, .UnaryOp .USub (.Constant (.int 1) k1 p1) p3] X.env := by rfl) (hs2 : starEach [b, .UnaryOp .USub (.Constant (.int 1) k1 p1) p3] X.env = (false, eval b X.env) :: starEach [.UnaryOp .USub (.Constant (.int 1) k1 p1) p3] X.env := by rfl)
    (hs3 : starEach [.UnaryOp .USub (.Constant (.int 1) k1 p1) p3] X.env = (false, eval (.UnaryOp .USub (.Constant (.int 1) k1 p1) p3) X.env) :: starEach [] X.env := by rfl) (hpl : (backTo pos2 (starEach [b, .UnaryOp .USub (.Constant (.int 1) k1 p1) p3] X.env)).any (·.1) = false := by rfl) :
    PD X (.Call (.Name "list" p) [.Call (.Name "range" p2) [a, b, .UnaryOp .USub (.Constant (.int 1) k1 p1) p3] [] pos2] [] pos) (dLRD ta tb) :=
  pe_imp (pe_lstDn hc hg hm hg2 hm2 (L2.pa_cons h (L2.pa_cons h' (L2.pa_cons (pd_neg pd_int) L2.pa_nil hs3) hs2) hs) na hs hpl) fun σ H Q ⟨f, ρ, st, Q', Re, h, l⟩ => ⟨f, ρ, st, _, Re, h, fun x st1 v f1 H1 q1 e1 s1 r1 => ⟨f1, ρ, st1, _, Re.later e1 s1, q1, fun y st2 w f2 H2 q2 e2 s2 r2 => by
    obtain ⟨i, j, rfl, rfl, hb, h3⟩ := q2
    have r1' := r1.mono e2
    rw [RD.int] at r1' r2
    subst r1'; subst r2
    refine ⟨f2, ρ, st2, fun z st3 => z = .int (-1) ∧ st3 = st2, Re.later (e1.trans e2) s2, ⟨rfl, rfl⟩, fun z st3 u f3 H3 q3 e3 s3 r3 => ?_⟩
    obtain ⟨rfl, rfl⟩ := q3
    rw [RD.int] at r3
    subst r3
    exact ⟨i, j, rfl, hb, fun p hp => (l.later ((e1.trans e2).trans e3)).lst s3 h3 (rngD_dnV i j) hp⟩⟩⟩
end
end Pd
end PartPdSoundO

section PartPdMore10
set_option Elab.async false
set_option linter.all false
set_option maxRecDepth 100000
/-! Pd: more readings: a comprehension with two walks; a slice of a text. Own work. -/
namespace Pd
open PySem
/-- the inner walk, from acc on -/
def lcIn (gd : Store → Prop) (g : TG) (tt : TT) (te : TE) (ρ : Env) (n : Nat) (Nx : List D → Store → Prop) : List D → List D → Store → Prop
  | [], acc, st => gd st ∧ rdL st n acc ∧ Nx acc st
  | x :: xs, acc, st => gd st ∧ g x ρ st fun ρ2 st2 => tt ρ2 st2 fun b st3 =>
      (b = true → te ρ2 st3 fun y st4 => rdL st4 n acc ∧ acc.length < szl ∧ lcIn gd g tt te ρ n Nx xs (acc ++ [y]) (st4.set n (.lst (acc ++ [y])))) ∧ (b = false → rdL st3 n acc ∧ lcIn gd g tt te ρ n Nx xs acc st3)
def lcOut (gd : Store → Prop) (g : TG) (tt : TT) (w1 : TI) (g1 : TG) (tt1 : TT) (te : TE) (ρ : Env) (vs1 : List Nat) (n : Nat) (Q : K) : List D → List D → Store → Prop
  | [], acc, st => gd st ∧ rdL st n acc ∧ Q (.ref n) st
  | x :: xs, acc, st => gd st ∧ g x ρ st fun ρ2 st2 => tt ρ2 st2 fun b st3 =>
      (b = true → w1 ρ2 st3 fun I1 st4 => lcIn I1.guard g1 tt1 te (wipeE ρ2 vs1) n (fun acc' st5 => lcOut gd g tt w1 g1 tt1 te ρ vs1 n Q xs acc' st5) I1.items acc st4) ∧ (b = false → rdL st3 n acc ∧ lcOut gd g tt w1 g1 tt1 te ρ vs1 n Q xs acc st3)
def dLc2 (i : TI) (g : TG) (tt : TT) (w1 : TI) (g1 : TG) (tt1 : TT) (te : TE) (vs vs1 : List Nat) : TE := fun σ st Q => i σ st fun I st1 => lcOut I.guard g tt w1 g1 tt1 te (wipeE σ vs) vs1 st1.length Q I.items [] (st1 ++ [.lst []])
section
variable {σ σ' : Env} {st : Store} {Q : K}
instance {i : TI} {g : TG} {T : TT} {w1 : TI} {g1 : TG} {T1 : TT} {te : TE} {vs vs1 : List Nat} [h : WipeE σ vs σ'] : Red (dLc2 i g T w1 g1 T1 te vs vs1 σ st Q) (i σ st fun I st1 => lcOut I.guard g T w1 g1 T1 te σ' vs1 st1.length Q I.items [] (st1 ++ [.lst []])) := ⟨fun p => by unfold dLc2; rw [h.eq]; exact p⟩
end
/-- a slice of a text -/
def slSK : D → Option Int → Option Int → Store → K → Prop
  | .str z, lo, hi, st, Q => z.length ≤ szl ∧ Q (.str ⟨(cutD z.cps.toList lo hi).toArray⟩) st
  | _, _, _, _, _ => False
def dSlS (te : TE) (tl th : TO) : TE := fun σ st Q => te σ st fun x st1 => tl σ st1 fun lo st2 => th σ st2 fun hi st3 => slSK x lo hi st3 Q
instance {σ : Env} {st : Store} {te : TE} {tl th : TO} {Q : K} : Red (dSlS te tl th σ st Q) (te σ st fun x st1 => tl σ st1 fun lo st2 => th σ st2 fun hi st3 => slSK x lo hi st3 Q) := ⟨id⟩
end Pd
end PartPdMore10

section PartPdSoundS
set_option Elab.async false
set_option linter.all false
set_option maxRecDepth 100000
set_option maxHeartbeats 1000000
/-! Pd over the hand layer: comprehensions with two walks; slices of texts. Own work. -/
namespace Pd
open PySem PySem.Spec
section
variable {X : L2.Cx} {K : Kf} {f f' : List Addr} {H H' : Hp} {st st' : Store} {ρ : Env} {σ : L2.St}
theorem lc2_core {wi w1 : TI} {g g1 : TG} {tt tt1 : TT} {te : TE} {vs vs1 ws ws1 : List Nat} {Q : L2.VK} (hws : ∀ j, j ∈ ws → j ∈ vs) (hws1 : ∀ j, j ∈ ws1 → j ∈ vs1) (h : lift K (dLc2 wi g tt w1 g1 tt1 te vs vs1) σ H Q) :
    L2.tLc2 (liftI K wi) (liftG K g ws) (liftT K tt) (liftI K w1) (liftG K g1 ws1) (liftT K tt1) (lift K te) vs vs1 σ H Q := by
  obtain ⟨f, ρ, st, Q', R, h, l⟩ := h
  refine ⟨f, ρ, st, _, R, h, fun I st1 J f1 H1 q1 e1 s1 rI D hD => ?_⟩
  obtain ⟨s0, e0⟩ := s1.new (o := .lst []) (c := .lst []) hD ⟨[], L2.upd_same, RDs.nil.mpr rfl⟩
  have hn0 : (f1 ++ [D])[st1.length]? = some D := by rw [← s1.len]; simp
  refine ⟨fun i m H2 => m = I.items.length - i ∧ i ≤ I.items.length ∧ ∃ f2 st2 acc, Ext K (f1 ++ [D]) (L2.upd H1 D (.lst [])) f2 H2 ∧ RelS K f2 st2 H2 ∧ rdL st2 st1.length acc ∧ lcOut I.guard g tt w1 g1 tt1 te (wipeE ρ vs) vs1 st1.length Q' (I.items.drop i) acc st2,
    ⟨_, rfl, Nat.zero_le _, f1 ++ [D], st1 ++ [.lst []], [], .refl, s0, by unfold rdL; simp, by simpa using q1⟩, ?_⟩
  rintro i m H2 ⟨rfl, hi, f2, st2, acc, e2, s2, hacc, q2⟩
  have eI : Ext K f1 H1 f2 H2 := e0.trans e2
  by_cases hlt : i < I.items.length
  · have hd : I.items.drop i = I.items[i] :: I.items.drop (i + 1) := by rw [List.drop_eq_getElem_cons hlt]
    rw [hd] at q2
    obtain ⟨gd, q2⟩ := q2
    refine .inr ⟨rI.go i f2 st2 H2 eI s2 gd hlt, fun H3 => ∃ f3 st3 acc', Ext K (f1 ++ [D]) (L2.upd H1 D (.lst [])) f3 H3 ∧ RelS K f3 st3 H3 ∧ rdL st3 st1.length acc' ∧ lcOut I.guard g tt w1 g1 tt1 te (wipeE ρ vs) vs1 st1.length Q' (I.items.drop (i + 1)) acc' st3,
      fun H3 q3 => ⟨I.items.length - (i + 1), by omega, rfl, hlt, q3⟩, fun x H3 y => ?_⟩
    obtain ⟨e3, s3, r3⟩ := rI.yld i f2 st2 H2 I.items[i] x H3 eI s2 gd (by simp [hlt]) y
    have R3 : Rel K f2 (wipeE ρ vs) st2 (L2.wipe σ vs) H3 := (Rel.wipe R).later ((e1.trans eI).trans e3) s3
    refine ⟨f2, _, st2, I.items[i], _, R3, r3, q2, fun ρ4 st4 σ4 f4 H4 q4 e4 R4 o4 => ⟨Out.wipe ⟨o4.1, fun j hj => o4.2 j fun z => hj (hws j z)⟩, ?_⟩⟩
    refine ⟨f4, ρ4, st4, _, R4, q4, fun b st5 f5 H5 q5 e5 s5 => ?_⟩
    have e15 := e2.trans (e3.trans (e4.trans e5))
    cases b with
    | false =>
      obtain ⟨h1, h2⟩ := q5.2 rfl
      exact ⟨f5, st5, acc, e15, s5, h1, h2⟩
    | true =>
      have R5 : Rel K f5 ρ4 st5 σ4 H5 := R4.later e5 s5
      refine ⟨f5, ρ4, st5, _, R5, q5.1 rfl, fun I1 st6 J1 f6 H6 q6 e6 s6 rI1 => ?_⟩
      have e16 := e15.trans e6
      refine ⟨fun j k H7 => k = I1.items.length - j ∧ j ≤ I1.items.length ∧ ∃ f7 st7 acc7, Ext K f6 H6 f7 H7 ∧ RelS K f7 st7 H7 ∧ lcIn I1.guard g1 tt1 te (wipeE ρ4 vs1) st1.length (fun acc' st' => lcOut I.guard g tt w1 g1 tt1 te (wipeE ρ vs) vs1 st1.length Q' (I.items.drop (i + 1)) acc' st') (I1.items.drop j) acc7 st7,
        ⟨_, rfl, Nat.zero_le _, f6, st6, acc, .refl, s6, by simpa using q6⟩, ?_⟩
      rintro j k H7 ⟨rfl, hj, f7, st7, acc7, e7, s7, q7⟩
      have e17 := e16.trans e7
      by_cases hlt1 : j < I1.items.length
      · have hd1 : I1.items.drop j = I1.items[j] :: I1.items.drop (j + 1) := by rw [List.drop_eq_getElem_cons hlt1]
        rw [hd1] at q7
        obtain ⟨gd1, q7⟩ := q7
        refine .inr ⟨rI1.go j f7 st7 H7 e7 s7 gd1 hlt1, fun H8 => ∃ f8 st8 acc8, Ext K f6 H6 f8 H8 ∧ RelS K f8 st8 H8 ∧ lcIn I1.guard g1 tt1 te (wipeE ρ4 vs1) st1.length (fun acc' st' => lcOut I.guard g tt w1 g1 tt1 te (wipeE ρ vs) vs1 st1.length Q' (I.items.drop (i + 1)) acc' st') (I1.items.drop (j + 1)) acc8 st8,
          fun H8 q8 => ⟨I1.items.length - (j + 1), by omega, rfl, hlt1, q8⟩, fun x1 H8 y1 => ?_⟩
        obtain ⟨e8, s8, r8⟩ := rI1.yld j f7 st7 H7 I1.items[j] x1 H8 e7 s7 gd1 (by simp [hlt1]) y1
        have R8 : Rel K f7 (wipeE ρ4 vs1) st7 (L2.wipe σ4 vs1) H8 := (Rel.wipe R5).later ((e6.trans e7).trans e8) s8
        refine ⟨f7, _, st7, I1.items[j], _, R8, r8, q7, fun ρ9 st9 σ9 f9 H9 q9 e9 R9 o9 => ⟨Out.wipe ⟨o9.1, fun j hj => o9.2 j fun z => hj (hws1 j z)⟩, ?_⟩⟩
        refine ⟨f9, ρ9, st9, _, R9, q9, fun b st10 f10 H10 q10 e10 s10 => ?_⟩
        have e6to10 := e7.trans (e8.trans (e9.trans e10))
        cases b with
        | false =>
          obtain ⟨h1, h2⟩ := q10.2 rfl
          exact ⟨f10, st10, acc7, e6to10, s10, h2⟩
        | true =>
          refine ⟨f10, ρ9, st10, _, R9.later e10 s10, q10.1 rfl, fun y st11 v f11 H11 q11 e11 s11 r11 => ?_⟩
          obtain ⟨h1, h2, h3⟩ := q11
          have e111 := (e16.trans e6to10).trans e11
          obtain ⟨a', us, k1, k2, k3⟩ := s11.rdL h1
          rw [e111.at hn0] at k1; cases k1
          obtain ⟨s12, e12⟩ := s11.put (e111.at hn0) h1 k2 (k3.append (RDs.one r11))
          exact ⟨us, k2, by rw [k3.length, ← szl_eq]; exact h2, f11, _, acc7 ++ [y], (e6to10.trans e11).trans e12, s12, h3⟩
      · have e : j = I1.items.length := by omega
        subst e
        rw [List.drop_length] at q7
        obtain ⟨gd1, h1, h2⟩ := q7
        exact .inl ⟨rI1.stop f7 st7 H7 e7 s7 gd1, f7, st7, acc7, e17, s7, h1, h2⟩
  · have e : i = I.items.length := by omega
    subst e
    rw [List.drop_length] at q2
    obtain ⟨gd, h1, h2⟩ := q2
    exact .inl ⟨rI.stop f2 st2 H2 eI s2 gd, l _ st2 _ f2 H2 h2 (e1.trans eI) s2 (RD.ref.mpr ⟨D, e2.at hn0, rfl⟩)⟩
section
variable {c : Expr} {pos : Pos}
theorem pd_lc2 {elt tg iter tg1 iter1 : Expr} {ifs ifs1 : List Expr} {scope : Scope} {own : List (Str × Nat)} {vs1 ws ws1 : List Nat} {wi w1 : TI} {g g1 : TG} {tt tt1 : TT} {te : TE} (hc : X.calm = true) (hN : X.N.Nodup) (hi : PDI X tg iter wi) (ok : L2.BlkOk X.N X.env.scope scope own)
    (hg : ∀ (s : Shared) (H : Hp) (C : Addr) (cl : List (Str × Addr)) (fp : List Addr), PDG (X.blk s H scope (compEnvC scope cl C X.env) fp) tg g ws) (ht : ∀ (s : Shared) (H : Hp) (C : Addr) (cl : List (Str × Addr)) (fp : List Addr), PDTs (X.blk s H scope (compEnvC scope cl C X.env) fp) ifs tt)
    (hi1 : ∀ (s : Shared) (H : Hp) (C : Addr) (cl : List (Str × Addr)) (fp : List Addr), PDI (X.blk s H scope (compEnvC scope cl C X.env) fp) tg1 iter1 w1)
    (hg1 : ∀ (s : Shared) (H : Hp) (C : Addr) (cl : List (Str × Addr)) (fp : List Addr), PDG (X.blk s H scope (compEnvC scope cl C X.env) fp) tg1 g1 ws1) (ht1 : ∀ (s : Shared) (H : Hp) (C : Addr) (cl : List (Str × Addr)) (fp : List Addr), PDTs (X.blk s H scope (compEnvC scope cl C X.env) fp) ifs1 tt1)
    (he : ∀ (s : Shared) (H : Hp) (C : Addr) (cl : List (Str × Addr)) (fp : List Addr), PD (X.blk s H scope (compEnvC scope cl C X.env) fp) elt te) (hws : ∀ j, j ∈ ws → j ∈ own.map (·.2)) (hws1 : ∀ j, j ∈ ws1 → j ∈ vs1) (hv : ∀ j, j ∈ vs1 → j ∈ own.map (·.2))
    (hs : ∀ x, foldedSetIterable iter X.env x = pure x := by intro _; rfl) (hs1 : ∀ env x, foldedSetIterable iter1 env x = pure x := by intro _ _; rfl) :
    PD X (.ListComp elt [⟨tg, iter, ifs, 0⟩, ⟨tg1, iter1, ifs1, 0⟩] scope pos) (dLc2 wi g tt w1 g1 tt1 te (own.map (·.2)) vs1) :=
  pe_imp (L2.pe_lc2 hc hN hi ok hv hg ht hi1 hg1 ht1 he hs hs1) fun σ H Q h => lc2_core hws hws1 h
theorem ps_setLc2 {j : Nat} {y : Str} {py spos : Pos} {elt tg iter tg1 iter1 : Expr} {ifs ifs1 : List Expr} {scope : Scope} {own : List (Str × Nat)} {vs1 ws ws1 : List Nat} {wi w1 : TI} {g g1 : TG} {tt tt1 : TT} {te : TE} (hc : X.calm = true) (hN : X.N.Nodup) (hy : X.N[j]? = some y) (hyl : X.env.scope.names.lookup y = some .local)
    (hsw : swapsWith (.ListComp elt [⟨tg, iter, ifs, 0⟩, ⟨tg1, iter1, ifs1, 0⟩] scope pos) (some (.Name y py)) spos.line X.env = pure true) (hi : PDI X tg iter wi) (ok : L2.BlkOk X.N X.env.scope scope own)
    (hg : ∀ (s : Shared) (H : Hp) (C : Addr) (cl : List (Str × Addr)) (fp : List Addr), PDG (X.blk s H scope (compEnvC scope cl C X.env) fp) tg g ws) (ht : ∀ (s : Shared) (H : Hp) (C : Addr) (cl : List (Str × Addr)) (fp : List Addr), PDTs (X.blk s H scope (compEnvC scope cl C X.env) fp) ifs tt)
    (hi1 : ∀ (s : Shared) (H : Hp) (C : Addr) (cl : List (Str × Addr)) (fp : List Addr), PDI (X.blk s H scope (compEnvC scope cl C X.env) fp) tg1 iter1 w1)
    (hg1 : ∀ (s : Shared) (H : Hp) (C : Addr) (cl : List (Str × Addr)) (fp : List Addr), PDG (X.blk s H scope (compEnvC scope cl C X.env) fp) tg1 g1 ws1) (ht1 : ∀ (s : Shared) (H : Hp) (C : Addr) (cl : List (Str × Addr)) (fp : List Addr), PDTs (X.blk s H scope (compEnvC scope cl C X.env) fp) ifs1 tt1)
    (he : ∀ (s : Shared) (H : Hp) (C : Addr) (cl : List (Str × Addr)) (fp : List Addr), PD (X.blk s H scope (compEnvC scope cl C X.env) fp) elt te) (hws : ∀ j, j ∈ ws → j ∈ own.map (·.2)) (hws1 : ∀ j, j ∈ ws1 → j ∈ vs1) (hv : ∀ j, j ∈ vs1 → j ∈ own.map (·.2))
    (hs : ∀ x, foldedSetIterable iter X.env x = pure x := by intro _; rfl) (hs1 : ∀ env x, foldedSetIterable iter1 env x = pure x := by intro _ _; rfl) :
    PDS X (.Assign [.Name y py] (.ListComp elt [⟨tg, iter, ifs, 0⟩, ⟨tg1, iter1, ifs1, 0⟩] scope pos) spos) (sAsg (dLc2 wi g tt w1 g1 tt1 te (own.map (·.2)) vs1) (gName j)) :=
  ps_imp (L2.ps_setLc2 hc hN hy hyl hsw hi ok hv hg ht hi1 hg1 ht1 he hs hs1) fun D σ H ⟨f, ρ, st, D', R, h, l⟩ =>
    lc2_core (Q := fun x H1 => L2.gName j x σ H1 D.nx) hws hws1 ⟨f, ρ, st, _, R, h, fun x st1 v f1 H1 q e1 s1 r1 => l.nx _ st1 _ f1 H1 q e1 ((R.later e1 s1).put r1)⟩
/-- x[lo:hi] of a text -/
theorem pd_slS {a : Expr} {ta : TE} {lo hi : Option Expr} {tl th : TO} {p2 : Pos} (ha : PD X a ta) (hl : PDO X lo tl) (hh : PDO X hi th) : PD X (.Subscript a (.Slice lo hi none p2) pos) (dSlS ta tl th) := by
  refine pe_imp (L2.pe_slice L2.sl_str ha hl hh) fun σ H Q ⟨f, ρ, st, Q', R, h, l⟩ => ⟨f, ρ, st, _, R, h, fun x st1 v f1 H1 h1 e1 s1 r1 => ⟨f1, ρ, st1, _, R.later e1 s1, h1, fun o st2 f2 H2 h2 e2 s2 => ⟨f2, ρ, st2, _, R.later (e1.trans e2) s2, h2, fun o' st3 f3 H3 h3 e3 s3 => ?_⟩⟩⟩
  cases x <;> try (exact h3.elim)
  rename_i z
  rw [RD.str] at r1
  refine ⟨z, r1, by rw [← szl_eq]; exact h3.1, ?_⟩
  have e : L2.cutS z o o' = (⟨(cutD z.cps.toList o o').toArray⟩ : Str) := by
    have hl : z.length = z.cps.toList.length := by simp [Str.length]
    unfold L2.cutS cutD
    rw [sIx_cl, sIx_cl, hl]
  rw [e]
  exact l _ st3 _ f3 H3 h3.2 ((e1.trans e2).trans e3) s3 (RD.str.mpr rfl)
end
end
end Pd
end PartPdSoundS

section PartPdDraw
set_option Elab.async false
set_option linter.all false
set_option maxRecDepth 100000
/-! Pd: the laws' drawing def. Own work. -/
namespace Pd
open PySem
local macro_rules | `(tactic| walk_at "s") => `(tactic| (repeat (refine Red.red ?_)))
local macro_rules | `(tactic| walk_at "r") => `(tactic| (repeat (first | refine Red.red ?_ | refine Nxt.mk ?_)))
/-- the drawer stands at 2, the script's numbers at 1 -/
def DrawAt (st : Store) : Prop := ∃ (ns : List Int) (a b v : Int), rdL st 1 (ns.map D.int) ∧ rdL st 2 [.ref 1, .int a, .int b, .int v, .int 2] ∧ 0 ≤ a ∧ 0 ≤ b ∧ 0 ≤ v ∧ ns.length ≤ 63
/-- later: the drawer goes on, cells are added, all others are as they were -/
structure Fra (st st' : Store) : Prop where
  dr : DrawAt st'
  le : st.length ≤ st'.length
  at' : ∀ n, n < st.length → n ≠ 2 → st'[n]? = st[n]?
theorem Fra.refl {st : Store} (h : DrawAt st) : Fra st st := ⟨h, Nat.le_refl _, fun _ _ _ => rfl⟩
theorem Fra.trans {a b c : Store} (h : Fra a b) (h' : Fra b c) : Fra a c := ⟨h'.dr, Nat.le_trans h.le h'.le, fun n hn ne => (h'.at' n (Nat.lt_of_lt_of_le hn h.le) ne).trans (h.at' n hn ne)⟩
theorem rdL_lt {st : Store} {n : Nat} {xs : List D} (h : rdL st n xs) : n < st.length := (List.getElem?_eq_some_iff.mp h).1
theorem rdL_app {st : Store} {n : Nat} {xs : List D} {c : C} (h : rdL st n xs) : rdL (st ++ [c]) n xs := by
  unfold rdL at *
  rw [List.getElem?_append_left (rdL_lt h)]; exact h
theorem rdL_new {st : Store} {xs : List D} : rdL (st ++ [.lst xs]) st.length xs := by unfold rdL; simp
theorem rdL_set {st : Store} {n : Nat} {xs ys : List D} (h : rdL st n xs) : rdL (st.set n (.lst ys)) n ys := by unfold rdL; rw [List.getElem?_set_self (rdL_lt h)]
theorem rdL_ne {st : Store} {n m : Nat} {xs : List D} {c : C} (h : rdL st n xs) (ne : n ≠ m) : rdL (st.set m c) n xs := by unfold rdL at *; rw [List.getElem?_set_ne (Ne.symm ne)]; exact h
theorem rdL_inj {st : Store} {n : Nat} {xs ys : List D} (h : rdL st n xs) (h' : rdL st n ys) : xs = ys := by
  unfold rdL at *
  rw [h] at h'
  cases h'; rfl
theorem Fra.rd {st st' : Store} (f : Fra st st') {n : Nat} {xs : List D} (h : rdL st n xs) (ne : n ≠ 2) : rdL st' n xs := by
  unfold rdL at *
  rw [f.at' n (rdL_lt h) ne]; exact h
theorem DrawAt.lt {st : Store} (h : DrawAt st) : 2 < st.length := by
  obtain ⟨_, _, _, _, _, h2, _⟩ := h
  exact rdL_lt h2
theorem DrawAt.app {st : Store} {c : C} (h : DrawAt st) : DrawAt (st ++ [c]) := by
  obtain ⟨ns, a, b, v, h1, h2, h3⟩ := h
  exact ⟨ns, a, b, v, rdL_app h1, rdL_app h2, h3⟩
theorem DrawAt.set {st : Store} {n : Nat} {c : C} (h : DrawAt st) (hn : 2 < n) : DrawAt (st.set n c) := by
  obtain ⟨ns, a, b, v, h1, h2, h3⟩ := h
  exact ⟨ns, a, b, v, rdL_ne h1 (by omega), rdL_ne h2 (by omega), h3⟩
theorem Fra.app {st st' : Store} {c : C} (f : Fra st st') : Fra st (st' ++ [c]) := ⟨f.dr.app, by simp; have := f.le; omega, fun n hn ne => by
  rw [List.getElem?_append_left (Nat.lt_of_lt_of_le hn f.le)]; exact f.at' n hn ne⟩
theorem Fra.set {st st' : Store} {n : Nat} {c : C} (f : Fra st st') (hn : st.length ≤ n) (h2 : 2 < n) : Fra st (st'.set n c) := ⟨f.dr.set h2, by simp; exact f.le, fun m hm ne => by
  rw [List.getElem?_set_ne (by omega)]; exact f.at' m hm ne⟩
def drawBody (c : Cl) : TS := sSeq (sIf (tTru (dCmp gtC (dOp ixK (dVar 0) (dC (.int 2))) (dC (.int 0)))) (sSeq (sAsg (dOp ixK (dVar 0) (dC (.int 2))) (gName 2)) (sSeq (sAsg (dOp fdivK (dVar 2) (dVar 1)) (gSub (dVar 0) (dC (.int 2)))) (sRet (dOp modK (dB intB (aCons (dVar 2) (aNil))) (dVar 1))))) (sNext)) (sSeq (sAsg (dC (.int 0)) (gName 3)) (sSeq (sIf (tTru (dCmp ltC (dOp ixK (dVar 0) (dC (.int 1))) (dB lenB (aCons (dOp ixK (dVar 0) (dC (.int 0))) (aNil))))) (sSeq (sAsg (dOp ixK (dOp ixK (dVar 0) (dC (.int 0))) (dOp ixK (dVar 0) (dC (.int 1)))) (gName 4)) (sAsg (dOp addK (dOp mulK (dC (.int 2)) (dB absB (aCons (dVar 4) (aNil)))) (dB intB (aCons (dCmp ltC (dVar 4) (dC (.int 0))) (aNil)))) (gName 3))) (sNext)) (sSeq (sAugL iaddK (dVar 0) (dC (.int 1)) (dC (.int 1))) (sSeq (sIf (tTru (dCmp geC (dVar 3) (dOp mulK (dC (.int 2)) (dOp powK (dC (.int 10)) (dC (.int 18)))))) (sSeq (sAsg (dOp modK (dB intB (aCons (dOp fdivK (dVar 3) (dC (.int 2))) (aNil))) (dOp shlK (dC (.int 1)) (dC (.int 6000)))) (gName 2)) (sSeq (sAsg (dOp fdivK (dVar 2) (dVar 1)) (gSub (dVar 0) (dC (.int 2)))) (sRet (dOp modK (dB intB (aCons (dVar 2) (aNil))) (dVar 1))))) (sNext)) (sSeq (sAsg (dOp modK (dB intB (aCons (dOp addK (dOp addK (dOp addK (dOp mulK (dOp ixK (dVar 0) (dC (.int 3))) (dC (.int 48271))) (dOp mulK (dOp modK (dB intB (aCons (dVar 3) (aNil))) (dC (.int 2147483629))) (dC (.int 16807)))) (dOp mulK (dOp ixK (dVar 0) (dC (.int 1))) (dC (.int 69621)))) (dC (.int 11))) (aNil))) (dC (.int 2147483647))) (gSub (dVar 0) (dC (.int 3)))) (sRet (dOp modK (dB intB (aCons (dOp fdivK (dOp ixK (dVar 0) (dC (.int 3))) (dC (.int 16))) (aNil))) (dVar 1))))))))
theorem ix_at {st : Store} {n : Nat} {xs : List D} {i : Int} {d : D} {Q : K} (h : rdL st n xs) (e : atD xs i = some d) (q : Q d st) : ixK (.ref n) (.int i) st Q := ⟨xs, d, .inl h, e, q⟩
theorem ixL_at {st : Store} {n : Nat} {xs : List D} {i : Int} {d : D} {Q : K} (h : rdL st n xs) (e : atD xs i = some d) (q : Q d st) : ixLK (.ref n) (.int i) st Q := ⟨xs, d, .inl h, e, q⟩
theorem set_at {st : Store} {n : Nat} {xs : List D} {i : Int} {v d : D} {Q : Store → Prop} (h : rdL st n xs) (e : atD xs i = some d) (h0 : 0 ≤ i) (q : Q (st.set n (.lst (xs.set i.toNat v)))) : setK (.ref n) (.int i) v st Q := ⟨xs, h, ⟨d, e⟩, h0, q⟩
theorem len_at {st : Store} {n : Nat} {xs : List D} {Q : K} (h : rdL st n xs) (q : Q (.int xs.length) st) : lenB [.ref n] st Q := ⟨xs, .inl h, q⟩
theorem atD_map {ns : List Int} {i : Int} (h0 : 0 ≤ i) (h1 : i < ns.length) : ∃ n, n ∈ ns ∧ atD (ns.map D.int) i = some (.int n) := by
  refine ⟨ns[i.toNat]'(by omega), List.getElem_mem _, ?_⟩
  unfold atD
  rw [if_pos h0, List.getElem?_map, List.getElem?_eq_getElem (by omega)]
  rfl
theorem draw_ok {prog : String → Option Def} (hp : prog "_law_draw" = some ⟨2, 5, drawBody⟩) {k : Nat} {st : Store} {many : Int} {Q : K} (h : DrawAt st) (h0 : 0 < many) (h1 : many < 1073741824)
    (hQ : ∀ r st', 0 ≤ r → r < many → Fra st st' → st'.length = st.length → Q (.int r) st') : callN prog (k + 1) "_law_draw" [.ref 2, .int many] st Q := by
  obtain ⟨ns, a, b, v, d1, d2, ha, hb, hv, hn⟩ := h
  have l2 := rdL_lt d2
  -- the end of each way: a drawer behind it
  have fin : ∀ {a b v : Int} {xs : List D} {r : Int}, xs = [.ref 1, .int a, .int b, .int v, .int 2] → 0 ≤ a → 0 ≤ b → 0 ≤ v → Q (.int (r % many)) (st.set 2 (.lst xs)) := fun {a b v xs r} e ha hb hv => by
    subst e
    refine hQ _ _ (Int.emod_nonneg _ (by omega)) (Int.emod_lt_of_pos _ h0) ⟨⟨ns, a, b, v, rdL_ne d1 (by decide), rdL_set d2, ha, hb, hv, hn⟩, by simp, fun n _ ne => by rw [List.getElem?_set_ne (Ne.symm ne)]⟩ (by simp)
  have set2 : ∀ {xs ys : List D}, (st.set 2 (.lst xs)).set 2 (.lst ys) = st.set 2 (.lst ys) := fun {xs ys} => by rw [List.set_set]
  refine call_intro hp rfl ?_
  unfold drawBody
  walk_at "r"
  refine ix_at d2 rfl ?_
  walk_at "r"
  refine way (fun e => ?_) (fun e => ?_)
  · have e : 0 < b := by simpa using e
    walk_at "r"
    refine ix_at d2 rfl ?_
    walk_at "r"
    refine ⟨⟨h0, h1⟩, ?_⟩
    walk_at "r"
    refine set_at d2 rfl (by decide) ?_
    walk_at "r"
    refine ⟨h0, ?_⟩
    exact fin (a := a) (b := b / many) (v := v) rfl ha (Int.ediv_nonneg hb (by omega)) hv
  · walk_at "s"
    refine Nxt.mk ?_
    walk_at "s"
    refine Nxt.mk ?_
    refine seq_cut (fun σ st' => ∃ sz y4, 0 ≤ sz ∧ σ = [some (.ref 2), some (.int many), none, some (.int sz), y4] ∧ st' = st) (fun N hN => ?_) (fun σ st' hJ => ?_)
    · walk_at "r"
      refine ix_at d2 rfl ?_
      walk_at "r"
      refine ix_at d2 rfl ?_
      walk_at "r"
      refine len_at d1 ?_
      walk_at "r"
      refine way (fun e => ?_) (fun e => ?_)
      · have e : a < (ns.length : Int) := by simpa using e
        walk_at "r"
        refine ix_at d2 rfl ?_
        walk_at "r"
        refine ix_at d2 rfl ?_
        obtain ⟨n, _, hat⟩ := atD_map ha e
        refine ix_at d1 hat ?_
        walk_at "r"
        refine ⟨.inl (by decide), ?_⟩
        walk_at "r"
        refine hN _ _ ⟨_, _, ?_, rfl, rfl⟩
        have hb2 : 0 ≤ b2i (decide (n < 0)) := by unfold b2i; split <;> decide
        split <;> omega
      · walk_at "r"
        exact hN _ _ ⟨0, _, by decide, rfl, rfl⟩
    · obtain ⟨sz, y4, hsz, rfl, e0⟩ := hJ
      rw [e0]
      walk_at "r"
      refine ixL_at d2 rfl ?_
      walk_at "r"
      refine set_at d2 rfl (by decide) ?_
      walk_at "r"
      have d3 : rdL (st.set 2 (.lst [.ref 1, .int (a + 1), .int b, .int v, .int 2])) 2 [.ref 1, .int (a + 1), .int b, .int v, .int 2] := rdL_set d2
      refine ⟨by unfold cPow; decide, ?_⟩
      walk_at "r"
      refine ⟨.inl (by decide), ?_⟩
      walk_at "r"
      refine way (fun _ => ?_) (fun _ => ?_)
      · walk_at "r"
        refine ⟨by decide, ?_⟩
        walk_at "r"
        refine ⟨by unfold cPow; decide, ?_⟩
        walk_at "r"
        have hp6 : (0 : Int) < 1 * 2 ^ (6000 : Int).toNat := by rw [Int.one_mul]; exact Int.pow_pos (by decide)
        refine ⟨hp6, ?_⟩
        walk_at "r"
        refine ⟨⟨h0, h1⟩, ?_⟩
        walk_at "r"
        refine set_at d3 rfl (by decide) ?_
        walk_at "r"
        refine ⟨h0, ?_⟩
        show Q _ ((st.set 2 _).set 2 _)
        rw [set2]
        exact fin (a := a + 1) (b := sz / 2 % (1 * 2 ^ (6000 : Int).toNat) / many) (v := v) rfl (by omega) (Int.ediv_nonneg (Int.emod_nonneg _ (by omega)) (by omega)) hv
      · walk_at "r"
        refine ix_at d3 rfl ?_
        walk_at "r"
        refine ⟨.inr (by decide), ?_⟩
        walk_at "r"
        refine ⟨by decide, ?_⟩
        walk_at "r"
        refine ⟨.inr (by decide), ?_⟩
        walk_at "r"
        refine ix_at d3 rfl ?_
        walk_at "r"
        refine ⟨.inr (by decide), ?_⟩
        walk_at "r"
        refine ⟨by decide, ?_⟩
        walk_at "r"
        refine set_at d3 rfl (by decide) ?_
        walk_at "r"
        refine ix_at (rdL_set d3) rfl ?_
        walk_at "r"
        refine ⟨by decide, ?_⟩
        walk_at "r"
        refine ⟨h0, ?_⟩
        rw [set2]
        exact fin (a := a + 1) (b := b) (v := (v * 48271 + sz % 2147483629 * 16807 + (a + 1) * 69621 + 11) % 2147483647) rfl (by omega) hb (Int.emod_nonneg _ (by omega))
end Pd
end PartPdDraw

section PartPdLib
set_option Elab.async false
set_option linter.all false
set_option maxRecDepth 100000
/-! Pd: what the laws share: list cells, draws in comprehensions, masks. Own work. -/
namespace Pd
open PySem
local macro_rules | `(tactic| walk_at "s") => `(tactic| (repeat (refine Red.red ?_)))
local macro_rules | `(tactic| walk_at "r") => `(tactic| (repeat (first | refine Red.red ?_ | refine Nxt.mk ?_)))
/-! ### list cells -/
theorem list_at {st : Store} {n : Nat} {xs : List D} {Q : K} (h : rdL st n xs) (q : Q (.ref st.length) (st ++ [.lst xs])) : listB [.ref n] st Q := ⟨xs, .inl h, q⟩
theorem tuple_at {st : Store} {n : Nat} {xs : List D} {Q : K} (h : rdL st n xs) (q : Q (.tup xs) st) : tupleB [.ref n] st Q := ⟨xs, .inl h, q⟩
theorem sum_at {st : Store} {n : Nat} {ns : List Int} {Q : K} (h : rdL st n (ns.map D.int)) (q : Q (.int ns.sum) st) : sumB [.ref n] st Q := ⟨ns, .inl h, q⟩
theorem it_at {st : Store} {n : Nat} {xs : List D} {R : Iter → Store → Prop} (h : rdL st n xs) (q : R ⟨xs, fun s => rdA s n xs⟩ st) : itK (.ref n) st R := ⟨xs, .inl h, q⟩
theorem append_at {st : Store} {n : Nat} {xs : List D} {x : D} {Q : K} (h : rdL st n xs) (hl : xs.length < szl) (q : Q .non (st.set n (.lst (xs ++ [x])))) : appendM (.ref n) [x] st Q := ⟨xs, h, hl, q⟩
theorem extend_at {st : Store} {n m : Nat} {xs ys : List D} {Q : K} (h : rdL st n xs) (h' : rdL st m ys) (ne : n ≠ m) (hl : xs.length + ys.length ≤ szl) (q : Q .non (st.set n (.lst (xs ++ ys)))) : extendM (.ref n) [.ref m] st Q := ⟨xs, ys, h, h', ne, hl, q⟩
theorem ty_at {st : Store} {n : Nat} {xs : List D} (h : rdL st n xs) : tyLst (.ref n) st := ⟨xs, h⟩
theorem sl_at {st : Store} {n : Nat} {xs : List D} {lo hi : Option Int} {Q : K} (h : rdL st n xs) (q : Q (.ref st.length) (st ++ [.lst (cutD xs lo hi)])) : slK (.ref n) lo hi st Q := ⟨xs, .inl h, q⟩
theorem add_at {st : Store} {n m : Nat} {xs ys : List D} {Q : K} (h : rdL st n xs) (h' : rdL st m ys) (hl : xs.length + ys.length ≤ szl) (q : Q (.ref st.length) (st ++ [.lst (xs ++ ys)])) : addK (.ref n) (.ref m) st Q := ⟨xs, ys, h, h', hl, q⟩
theorem rep_at {st : Store} {n : Nat} {xs : List D} {k : Int} {Q : K} (h : rdL st n xs) (h0 : 0 ≤ k) (h1 : k < 1000000) (hl : xs.length ≤ 1) (q : Q (.ref st.length) (st ++ [.lst (List.replicate k.toNat xs).flatten])) : mulK (.ref n) (.int k) st Q :=
  ⟨xs, h, by omega, by omega, by
    have : xs.length * k.toNat ≤ 1 * k.toNat := Nat.mul_le_mul_right _ hl
    unfold szl; omega, q⟩
theorem flat_one (x : D) (n : Nat) : (List.replicate n [x]).flatten = List.replicate n x := by
  induction n with
  | zero => rfl
  | succ n ih => rw [List.replicate_succ, List.flatten_cons, ih, List.replicate_succ]; rfl
theorem atD_nat {α : Type} {xs : List α} {i : Int} {x : α} (h0 : 0 ≤ i) (h : xs[i.toNat]? = some x) : atD xs i = some x := by unfold atD; rw [if_pos h0]; exact h
theorem atD_of {α : Type} {xs : List α} {i : Int} (h0 : 0 ≤ i) (h1 : i < xs.length) : ∃ x, x ∈ xs ∧ xs[i.toNat]? = some x ∧ atD xs i = some x :=
  ⟨xs[i.toNat]'(by omega), List.getElem_mem _, List.getElem?_eq_getElem (by omega), atD_nat h0 (List.getElem?_eq_getElem (by omega))⟩
theorem atD_mapI {α : Type} {f : α → D} {xs : List α} {i : Int} (h0 : 0 ≤ i) (h1 : i < xs.length) : ∃ x, x ∈ xs ∧ xs[i.toNat]? = some x ∧ atD (xs.map f) i = some (f x) := by
  obtain ⟨x, h2, h3, h4⟩ := atD_of h0 h1
  exact ⟨x, h2, h3, atD_nat h0 (by rw [List.getElem?_map, h3]; rfl)⟩
theorem cut_take {α : Type} (xs : List α) {i : Int} (h : 0 ≤ i) : cutD xs none (some i) = xs.take i.toNat := by
  unfold cutD cl
  simp only [Option.map_none, Option.getD_none, Option.map_some, Option.getD_some, List.drop_zero, Nat.sub_zero]
  rw [if_neg (by omega)]
  by_cases h2 : i.toNat ≤ xs.length
  · rw [Nat.min_eq_left h2]
  · rw [Nat.min_eq_right (by omega), List.take_of_length_le (Nat.le_refl _), List.take_of_length_le (by omega)]
theorem cut_drop {α : Type} (xs : List α) {i : Int} (h : 0 ≤ i) : cutD xs (some i) none = xs.drop i.toNat := by
  unfold cutD cl
  simp only [Option.map_none, Option.getD_none, Option.map_some, Option.getD_some]
  rw [if_neg (by omega)]
  by_cases h2 : i.toNat ≤ xs.length
  · rw [Nat.min_eq_left h2, List.take_of_length_le (by simp)]
  · rw [Nat.min_eq_right (by omega), List.drop_of_length_le (Nat.le_refl _), List.drop_of_length_le (by omega)]
    simp
theorem cut_last {α : Type} (xs : List α) : cutD xs none (some (-1)) = xs.dropLast := by
  unfold cutD cl
  simp only [Option.map_none, Option.getD_none, Option.map_some, Option.getD_some, List.drop_zero, Nat.sub_zero]
  rw [if_pos (by decide), List.dropLast_eq_take]
  congr 1
  omega
/-- cells are added, all others as they were -/
def Grw (st st' : Store) : Prop := ∃ m, st' = st ++ m
theorem Grw.refl (st : Store) : Grw st st := ⟨[], by simp⟩
theorem Grw.app {st st' : Store} {c : C} (h : Grw st st') : Grw st (st' ++ [c]) := by
  obtain ⟨m, rfl⟩ := h
  exact ⟨m ++ [c], by simp⟩
theorem Grw.trans {a b c : Store} (h : Grw a b) (h' : Grw b c) : Grw a c := by
  obtain ⟨m, rfl⟩ := h
  obtain ⟨m', rfl⟩ := h'
  exact ⟨m ++ m', by simp⟩
theorem Grw.rd {st st' : Store} (f : Grw st st') {n : Nat} {xs : List D} (h : rdL st n xs) : rdL st' n xs := by
  obtain ⟨m, rfl⟩ := f
  unfold rdL at *
  rw [List.getElem?_append_left (rdL_lt h)]; exact h
theorem Grw.fra {st st' : Store} (f : Grw st st') (h : DrawAt st) : Fra st st' := by
  obtain ⟨m, rfl⟩ := f
  refine ⟨?_, by simp, fun n hn _ => List.getElem?_append_left hn⟩
  obtain ⟨ns, a, b, v, h1, h2, h3⟩ := h
  exact ⟨ns, a, b, v, Grw.rd ⟨m, rfl⟩ h1, Grw.rd ⟨m, rfl⟩ h2, h3⟩
theorem Grw.le {st st' : Store} (f : Grw st st') : st.length ≤ st'.length := by
  obtain ⟨m, rfl⟩ := f
  simp
theorem Fra.set' {st st' : Store} {n : Nat} {c : C} (f : Fra st st') (hn : st.length ≤ n) (h2 : 2 < st.length) : Fra st (st'.set n c) := f.set hn (by omega)
/-! ### the drawer is made -/
def beginBody (c : Cl) : TS := sRet (dLst (aCons (dLc (iSeq (dVar 0)) (gName 1) (tYes) (dB intB (aCons (dVar 1) (aNil))) [1]) (aCons (dC (.int 0)) (aCons (dC (.int 0)) (aCons (dC (.int 7)) (aCons (dC (.int 2)) (aNil)))))))
theorem begin_ok {prog : String → Option Def} (hp : prog "_law_begin" = some ⟨1, 2, beginBody⟩) {k : Nat} {ns : List Int} {Q : K} (hn : ns.length ≤ 63)
    (hQ : ∀ st', DrawAt st' → st'.length = 3 → Q (.ref 2) st') : callN prog (k + 1) "_law_begin" [.ref 0] [.frz (ns.map D.int)] Q := by
  refine call_intro hp rfl ?_
  unfold beginBody
  walk_at "r"
  have hfz : ∀ acc : List D, rdA ([.frz (ns.map D.int)] ++ [.lst acc]) 0 (ns.map D.int) := fun acc => .inr rfl
  refine ⟨ns.map D.int, .inr rfl, ?_⟩
  refine lc_map ns D.int D.int rfl (by unfold szl; omega) hfz (fun x hx acc N hN => ?_) ?_
  · walk_at "r"
    exact hN
  · walk_at "r"
    refine ⟨by show 5 ≤ szl; decide, ?_⟩
    exact hQ _ ⟨ns, 0, 0, 7, rfl, rfl, by decide, by decide, by decide, hn⟩ rfl
/-! ### comprehensions of draws -/
theorem lc_ints {gd : Store → Prop} {g : TG} {te : TE} {ρ : Env} {st : Store} {Q : K} {items : List D} (P : Int → Prop) (hd : DrawAt st) (hl : items.length ≤ szl) (hg : ∀ st', Fra st st' → gd st')
    (hs : ∀ x ∈ items, ∀ st', Fra st st' → ∀ N : D → Store → Prop, (∀ r st2, P r → Fra st' st2 → N (.int r) st2) → g x ρ st' fun ρ2 st2 => te ρ2 st2 N)
    (hQ : ∀ (rs : List Int) st', rs.length = items.length → (∀ r ∈ rs, P r) → Fra st st' → rdL st' st.length (rs.map D.int) → Q (.ref st.length) st') : lcLoop gd g tYes te ρ st.length Q items [] (st ++ [.lst []]) := by
  have h2 := hd.lt
  refine lc_by (fun pre acc st' => ∃ rs : List Int, acc = rs.map D.int ∧ rs.length = pre.length ∧ (∀ r ∈ rs, P r) ∧ Fra st st' ∧ rdL st' st.length acc) ⟨[], rfl, rfl, by simp, (Fra.refl hd).app, rdL_new⟩ (fun pre x post acc st' e ⟨rs, h1, h3, h4, h5, h6⟩ N M hN hM => ?_) (fun acc st' ⟨rs, h1, h3, h4, h5, h6⟩ => ?_)
  · subst h1
    refine ⟨hg _ h5, ?_⟩
    have e1 : (fun (ρ2 : Env) (st2 : Store) => tYes ρ2 st2 fun b st3 => (b = true → te ρ2 st3 N) ∧ (b = false → M st3)) = fun ρ2 st2 => te ρ2 st2 N := by
      funext ρ2 st2
      exact propext ⟨fun q => q.1 rfl, fun q => ⟨fun _ => q, fun e => nomatch e⟩⟩
    rw [e1]
    have hlen := congrArg List.length e
    simp at hlen
    refine hs x (by rw [e]; simp) st' h5 N fun r st2 hr f => ?_
    have h7 := f.rd h6 (by omega)
    refine hN _ _ h7 (by simp; omega) ⟨rs ++ [r], by simp, by simp [h3], ?_, (h5.trans f).set (Nat.le_refl _) (by omega), rdL_set h7⟩
    intro y hy
    rcases List.mem_append.mp hy with hy | hy
    · exact h4 y hy
    · simp at hy; subst hy; exact hr
  · subst h1
    exact ⟨hg _ h5, h6, hQ rs st' h3 h4 h5 h6⟩
/-- two lists, place by place -/
inductive Two {α β : Type} (P : α → β → Prop) : List α → List β → Prop
  | nil : Two P [] []
  | cons {a : α} {b : β} {as : List α} {bs : List β} : P a b → Two P as bs → Two P (a :: as) (b :: bs)
theorem Two.snoc {α β : Type} {P : α → β → Prop} : ∀ {as : List α} {bs : List β} {a : α} {b : β}, Two P as bs → P a b → Two P (as ++ [a]) (bs ++ [b])
  | _, _, _, _, .nil, h => .cons h .nil
  | _, _, _, _, .cons h t, h' => .cons h (Two.snoc t h')
theorem Two.length {α β : Type} {P : α → β → Prop} : ∀ {as : List α} {bs : List β}, Two P as bs → as.length = bs.length
  | _, _, .nil => rfl
  | _, _, .cons _ t => by simp [Two.length t]
theorem Two.imp {α β : Type} {P P' : α → β → Prop} (f : ∀ a b, P a b → P' a b) : ∀ {as : List α} {bs : List β}, Two P as bs → Two P' as bs
  | _, _, .nil => .nil
  | _, _, .cons h t => .cons (f _ _ h) (Two.imp f t)
theorem lc_vals {gd : Store → Prop} {g : TG} {te : TE} {ρ : Env} {st : Store} {Q : K} {items : List D} (P : D → D → Prop) (hd : DrawAt st) (hl : items.length ≤ szl) (hg : ∀ st', Fra st st' → gd st')
    (hs : ∀ x ∈ items, ∀ st', Fra st st' → ∀ N : D → Store → Prop, (∀ y st2, P x y → Fra st' st2 → N y st2) → g x ρ st' fun ρ2 st2 => te ρ2 st2 N)
    (hQ : ∀ (ys : List D) st', Two P items ys → Fra st st' → rdL st' st.length ys → Q (.ref st.length) st') : lcLoop gd g tYes te ρ st.length Q items [] (st ++ [.lst []]) := by
  have h2 := hd.lt
  refine lc_by (fun pre acc st' => Two P pre acc ∧ Fra st st' ∧ rdL st' st.length acc) ⟨.nil, (Fra.refl hd).app, rdL_new⟩ (fun pre x post acc st' e ⟨h1, h5, h6⟩ N M hN hM => ?_) (fun acc st' ⟨h1, h5, h6⟩ => ?_)
  · refine ⟨hg _ h5, ?_⟩
    have e1 : (fun (ρ2 : Env) (st2 : Store) => tYes ρ2 st2 fun b st3 => (b = true → te ρ2 st3 N) ∧ (b = false → M st3)) = fun ρ2 st2 => te ρ2 st2 N := by
      funext ρ2 st2
      exact propext ⟨fun q => q.1 rfl, fun q => ⟨fun _ => q, fun e => nomatch e⟩⟩
    rw [e1]
    have hlen := congrArg List.length e
    simp at hlen
    refine hs x (by rw [e]; simp) st' h5 N fun y st2 hr f => ?_
    have h7 := f.rd h6 (by omega)
    exact hN _ _ h7 (by have := h1.length; omega) ⟨h1.snoc hr, (h5.trans f).set (Nat.le_refl _) (by omega), rdL_set h7⟩
  · exact ⟨hg _ h5, h6, hQ acc st' h1 h5 h6⟩
theorem not_any {α : Type} {p q : α → Bool} : ∀ {l : List α}, (∀ x ∈ l, p x = !q x) → (!l.any p) = l.all q
  | [], _ => rfl
  | x :: l, h => by
    rw [List.any_cons, List.all_cons, Bool.not_or, not_any (l := l) fun y hy => h y (List.mem_cons_of_mem _ hy), h x List.mem_cons_self, Bool.not_not]
/-- a filtered comprehension whose test and element read alone -/
theorem lc_filter {α : Type} {gd : Store → Prop} {g : TG} {tt : TT} {te : TE} {ρ : Env} {st : Store} {Q : K} (xs : List α) (f h : α → D) (p : α → Bool) {items : List D} (hi : items = xs.map f) (hl : xs.length ≤ szl) (hg : ∀ acc, gd (st ++ [.lst acc]))
    (hs : ∀ x, x ∈ xs → ∀ (acc : List D) (N : D → Store → Prop) (M : Store → Prop), (p x = true → N (h x) (st ++ [.lst acc])) → (p x = false → M (st ++ [.lst acc])) → g (f x) ρ (st ++ [.lst acc]) fun ρ2 st2 => tt ρ2 st2 fun b st3 => (b = true → te ρ2 st3 N) ∧ (b = false → M st3))
    (hd : Q (.ref st.length) (st ++ [.lst ((xs.filter p).map h)])) : lcLoop gd g tt te ρ st.length Q items [] (st ++ [.lst []]) := by
  subst hi
  refine lc_by (fun pre acc st' => acc = ((xs.take pre.length).filter p).map h ∧ st' = st ++ [.lst acc]) ⟨rfl, rfl⟩ (fun pre x post acc st' e ⟨h1, h2⟩ N M hN hM => ?_) (fun acc st' ⟨h1, h2⟩ => ?_)
  · subst h1; subst h2
    refine ⟨hg _, ?_⟩
    have hlen : pre.length < xs.length := by
      have := congrArg List.length e
      simp at this; omega
    have hx : xs[pre.length] ∈ xs := List.getElem_mem hlen
    have hfx : x = f xs[pre.length] := by
      have h2 : (xs.map f)[pre.length]? = some x := by rw [e]; simp
      rw [List.getElem?_map, List.getElem?_eq_getElem hlen] at h2
      simpa using h2.symm
    subst hfx
    have take1 : List.take (pre ++ [f xs[pre.length]]).length xs = List.take pre.length xs ++ [xs[pre.length]] := by
      rw [List.length_append]
      show List.take (pre.length + 1) xs = _
      rw [List.take_add_one, List.getElem?_eq_getElem hlen]
      rfl
    have hsz : (List.map h (List.filter p (List.take pre.length xs))).length < szl := by
      rw [List.length_map]
      have h3 := List.length_filter_le p (List.take pre.length xs)
      rw [List.length_take] at h3
      omega
    refine hs _ hx _ N M (fun hp => hN _ _ (by unfold rdL; simp) hsz ⟨?_, by rw [set_app]⟩) fun hp => hM _ (by unfold rdL; simp) ⟨?_, rfl⟩
    · rw [take1, List.filter_append, List.map_append]
      simp [hp]
    · rw [take1, List.filter_append, List.map_append]
      simp [hp]
  · subst h1; subst h2
    have e2 : List.take (List.map f xs).length xs = xs := by simp
    rw [e2] at *
    exact ⟨hg _, by unfold rdL; simp, hd⟩
/-- a comprehension with a test, of ints -/
theorem lc_some {gd : Store → Prop} {g : TG} {tt : TT} {te : TE} {ρ : Env} {st : Store} {Q : K} {items : List D} (P : Int → Prop) (hd : DrawAt st) (hl : items.length ≤ szl) (hg : ∀ st', Fra st st' → gd st')
    (hs : ∀ x ∈ items, ∀ st', Fra st st' → ∀ (N : D → Store → Prop) (M : Store → Prop), (∀ r st2, P r → Fra st' st2 → N (.int r) st2) → (∀ st2, Fra st' st2 → M st2) → g x ρ st' fun ρ2 st2 => tt ρ2 st2 fun b st3 => (b = true → te ρ2 st3 N) ∧ (b = false → M st3))
    (hQ : ∀ (rs : List Int) st', rs.length ≤ items.length → (∀ r ∈ rs, P r) → Fra st st' → rdL st' st.length (rs.map D.int) → Q (.ref st.length) st') : lcLoop gd g tt te ρ st.length Q items [] (st ++ [.lst []]) := by
  have h2 := hd.lt
  refine lc_by (fun pre acc st' => ∃ rs : List Int, acc = rs.map D.int ∧ rs.length ≤ pre.length ∧ (∀ r ∈ rs, P r) ∧ Fra st st' ∧ rdL st' st.length acc) ⟨[], rfl, Nat.le_refl _, by simp, (Fra.refl hd).app, rdL_new⟩ (fun pre x post acc st' e ⟨rs, h1, h3, h4, h5, h6⟩ N M hN hM => ?_) (fun acc st' ⟨rs, h1, h3, h4, h5, h6⟩ => ?_)
  · subst h1
    refine ⟨hg _ h5, ?_⟩
    have hlen := congrArg List.length e
    simp at hlen
    refine hs x (by rw [e]; simp) st' h5 N M (fun r st2 hr f => ?_) fun st2 f => hM _ (f.rd h6 (by omega)) ⟨rs, rfl, by simp; omega, h4, h5.trans f, f.rd h6 (by omega)⟩
    have h7 := f.rd h6 (by omega)
    refine hN _ _ h7 (by simp; omega) ⟨rs ++ [r], by simp, by simp [h3], ?_, (h5.trans f).set (Nat.le_refl _) (by omega), rdL_set h7⟩
    intro y hy
    rcases List.mem_append.mp hy with hy | hy
    · exact h4 y hy
    · simp at hy; subst hy; exact hr
  · subst h1
    exact ⟨hg _ h5, h6, hQ rs st' h3 h4 h5 h6⟩
/-- a comprehension of new lists -/
theorem lc_cells {gd : Store → Prop} {g : TG} {te : TE} {ρ : Env} {st : Store} {Q : K} {items : List D} (P : List D → Prop) (hd : DrawAt st) (hl : items.length ≤ szl) (hg : ∀ st', Fra st st' → gd st')
    (hs : ∀ x ∈ items, ∀ st', Fra st st' → ∀ N : D → Store → Prop, (∀ r xs st2, st'.length ≤ r → rdL st2 r xs → P xs → Fra st' st2 → N (.ref r) st2) → g x ρ st' fun ρ2 st2 => te ρ2 st2 N)
    (hQ : ∀ (rs : List Nat) st', rs.length = items.length → (∀ r ∈ rs, st.length < r ∧ ∃ xs, rdL st' r xs ∧ P xs) → Fra st st' → rdL st' st.length (rs.map D.ref) → Q (.ref st.length) st') : lcLoop gd g tYes te ρ st.length Q items [] (st ++ [.lst []]) := by
  have h2 := hd.lt
  refine lc_by (fun pre acc st' => ∃ rs : List Nat, acc = rs.map D.ref ∧ rs.length = pre.length ∧ (∀ r ∈ rs, st.length < r ∧ ∃ xs, rdL st' r xs ∧ P xs) ∧ Fra st st' ∧ rdL st' st.length acc) ⟨[], rfl, rfl, by simp, (Fra.refl hd).app, rdL_new⟩ (fun pre x post acc st' e ⟨rs, h1, h3, h4, h5, h6⟩ N M hN hM => ?_) (fun acc st' ⟨rs, h1, h3, h4, h5, h6⟩ => ?_)
  · subst h1
    refine ⟨hg _ h5, ?_⟩
    have e1 : (fun (ρ2 : Env) (st2 : Store) => tYes ρ2 st2 fun b st3 => (b = true → te ρ2 st3 N) ∧ (b = false → M st3)) = fun ρ2 st2 => te ρ2 st2 N := by
      funext ρ2 st2
      exact propext ⟨fun q => q.1 rfl, fun q => ⟨fun _ => q, fun e => nomatch e⟩⟩
    rw [e1]
    have hlen := congrArg List.length e
    simp at hlen
    refine hs x (by rw [e]; simp) st' h5 N fun r xs st2 hb hr hp f => ?_
    have h7 := f.rd h6 (by omega)
    have h8 := rdL_lt h6
    refine hN _ _ h7 (by simp; omega) ⟨rs ++ [r], by simp, by simp [h3], ?_, (h5.trans f).set (Nat.le_refl _) (by omega), rdL_set h7⟩
    intro y hy
    rcases List.mem_append.mp hy with hy | hy
    · obtain ⟨q1, ys, q2, q3⟩ := h4 y hy
      exact ⟨q1, ys, rdL_ne (f.rd q2 (by omega)) (by omega), q3⟩
    · simp at hy; subst hy
      exact ⟨by omega, xs, rdL_ne hr (by omega), hp⟩
  · subst h1
    exact ⟨hg _ h5, h6, hQ rs st' h3 h4 h5 h6⟩
theorem Two.mem {α β : Type} {P : α → β → Prop} {S : List α} : ∀ {as : List α} {bs : List β}, (∀ a ∈ as, a ∈ S) → Two (fun a b => a ∈ S → P a b) as bs → Two P as bs
  | _, _, _, .nil => .nil
  | _, _, hS, .cons h t => .cons (h (hS _ List.mem_cons_self)) (Two.mem (fun a ha => hS a (List.mem_cons_of_mem _ ha)) t)
theorem Two.on {α β : Type} {P : α → β → Prop} {as : List α} {bs : List β} (h : Two (fun a b => a ∈ as → P a b) as bs) : Two P as bs := Two.mem (fun _ h => h) h
theorem Two.split {α β γ : Type} {P : α → β → Prop} {R : γ → Prop} {f : γ → β} (h : ∀ a b, P a b → ∃ c, b = f c ∧ R c) : ∀ {as : List α} {bs : List β}, Two P as bs → ∃ cs : List γ, bs = cs.map f ∧ cs.length = as.length ∧ ∀ c ∈ cs, R c
  | _, _, .nil => ⟨[], rfl, rfl, by simp⟩
  | _, _, .cons p t => by
    obtain ⟨c, h1, h2⟩ := h _ _ p
    obtain ⟨cs, h3, h4, h5⟩ := Two.split h t
    refine ⟨c :: cs, by rw [h1, h3]; rfl, by simp [h4], ?_⟩
    intro x hx
    rcases List.mem_cons.mp hx with hx | hx
    · rw [hx]; exact h2
    · exact h5 x hx
/-! ### masks -/
theorem pow2_pos (n : Nat) : (0 : Int) < 2 ^ n := Int.pow_pos (by decide)
theorem pw_bd {w : Int} (h0 : 0 ≤ w) (h1 : w ≤ 8) : 0 < (2 : Int) ^ w.toNat ∧ (2 : Int) ^ w.toNat ≤ 256 := by
  have h2 : w.toNat ≤ 8 := by omega
  have h := pow2_pos w.toNat
  have h3 := Nat.pow_le_pow_right (n := 2) (by decide) h2
  have e : ((2 : Int) ^ w.toNat) = ((2 ^ w.toNat : Nat) : Int) := by simp
  constructor
  · exact h
  · rw [e]; omega
theorem and_le {x m : Int} (hm : 0 ≤ m) : 0 ≤ Builtin.bitAnd x m ∧ Builtin.bitAnd x m ≤ m := by
  unfold Builtin.bitAnd
  by_cases hx : 0 ≤ x
  · simp only [hx, hm, decide_true]
    have := Nat.and_le_right (n := x.toNat) (m := m.toNat)
    omega
  · simp only [hx, hm, decide_true, decide_false]
    have := Nat.and_le_left (n := m.toNat) (m := (Builtin.bitNot x).toNat)
    omega
theorem and_mask {x : Int} {n : Nat} (hx : 0 ≤ x) : Builtin.bitAnd x (2 ^ n - 1) = x % 2 ^ n := by
  have hm : (0 : Int) ≤ 2 ^ n - 1 := by have := pow2_pos n; omega
  unfold Builtin.bitAnd
  simp only [hx, hm, decide_true]
  have e1 : (2 ^ n - 1 : Int).toNat = 2 ^ n - 1 := by
    have : (2 ^ n : Int) = ((2 ^ n : Nat) : Int) := by simp
    rw [this]
    have := Nat.two_pow_pos n
    omega
  rw [e1, Nat.and_two_pow_sub_one_eq_mod]
  have : (2 ^ n : Int) = ((2 ^ n : Nat) : Int) := by simp
  rw [this, Int.natCast_emod, Int.toNat_of_nonneg hx]
theorem or_one {x : Int} (hx : 0 ≤ x) : Builtin.bitOr x 1 = x + 1 - x % 2 := by
  unfold Builtin.bitOr Builtin.bitNot Builtin.bitAnd
  have h1 : ¬ (0 ≤ -x - 1) := by omega
  have h2 : ¬ ((0 : Int) ≤ -1 - 1) := by omega
  simp only [h1, h2, decide_false]
  unfold Builtin.bitNot
  have e1 : (-(-x - 1) - 1).toNat = x.toNat := by omega
  have e2 : (-(-1 - 1 : Int) - 1).toNat = 1 := by decide
  rw [e1, e2]
  have h3 : x.toNat ||| 1 = x.toNat + 1 - x.toNat % 2 := by
    have h4 := Nat.div_add_mod x.toNat 2
    have h6 : 2 * (x.toNat / 2) ||| 1 = 2 * (x.toNat / 2) + 1 := (Nat.two_pow_add_eq_or_of_lt (i := 1) (by decide) (x.toNat / 2)).symm
    rcases Nat.mod_two_eq_zero_or_one x.toNat with h5 | h5
    · have : x.toNat = 2 * (x.toNat / 2) := by omega
      rw [h5]
      rw [← this] at h6
      omega
    · have : x.toNat = 2 * (x.toNat / 2) ||| 1 := by omega
      rw [h5]
      have h7 : x.toNat ||| 1 = x.toNat := by
        conv => lhs; rw [this]
        rw [Nat.or_assoc, Nat.or_self]
        exact this.symm
      omega
  rw [h3]
  omega
end Pd
end PartPdLib

section PartPdKit
set_option Elab.async false
set_option linter.all false
set_option maxRecDepth 100000
/-! Pd: small defs that several laws have. Own work. -/
namespace Pd
open PySem
local macro_rules | `(tactic| walk_at "s") => `(tactic| (repeat (refine Red.red ?_)))
local macro_rules | `(tactic| walk_at "r") => `(tactic| (repeat (first | refine Red.red ?_ | refine Nxt.mk ?_)))
instance {x : D} {xs : List D} {st : Store} {r : Bool → Prop} : Red (inC x (.tup xs) st r) (x.flat = true ∧ xs.all D.flat = true ∧ r (xs.any fun y => D.eqb y x)) := ⟨id⟩
instance {x : D} {xs : List D} {st : Store} {r : Bool → Prop} : Red (notinC x (.tup xs) st r) (x.flat = true ∧ xs.all D.flat = true ∧ r (!xs.any fun y => D.eqb y x)) := ⟨id⟩
/-- a, b = x, y -/
def ParK (i j : Nat) (xs : List D) (σ : Env) (q : Env → Prop) : Prop := ∃ x y, xs = [x, y] ∧ q ((σ.set i (some x)).set j (some y))
instance {i j : Nat} {Ar : TA} {D0 : Ends} {σ : Env} {st : Store} : Red (sPar i j Ar D0 σ st) (Ar σ st fun xs st1 => ParK i j xs σ fun σ' => D0.nx σ' st1) := ⟨id⟩
instance {i j : Nat} {σ σ' σ'' : Env} {x y : D} {q : Env → Prop} [h : SetE σ i (some x) σ'] [h' : SetE σ' j (some y) σ''] : Red (ParK i j [x, y] σ q) (q σ'') := ⟨fun z => ⟨x, y, rfl, by rw [h.eq, h'.eq]; exact z⟩⟩
instance {a b : Bool} {st : Store} {r : Bool → Prop} : Red (eqC (.bl a) (.bl b) st r) (r (a == b)) := ⟨fun h => ⟨rfl, rfl, h⟩⟩
instance {a b : Bool} {st : Store} {r : Bool → Prop} : Red (neC (.bl a) (.bl b) st r) (r (!(a == b))) := ⟨fun h => ⟨rfl, rfl, h⟩⟩
theorem at_is {xs : List D} {i : Int} {d : D} {P : D → Prop} (h : atD xs i = some d) (q : P d) : ∃ d, atD xs i = some d ∧ P d := ⟨d, h, q⟩
theorem zipD_maps {α β : Type} (f : α → D) (g : β → D) : ∀ (xs : List α) (ys : List β), zipD (xs.map f) (ys.map g) = (xs.zip ys).map fun p => D.tup [f p.1, g p.2]
  | [], ys => by cases ys <;> rfl
  | x :: xs, [] => rfl
  | x :: xs, y :: ys => by simp [zipD, zipD_maps f g xs ys]
mutual
theorem eqb_refl : ∀ (n : Nat) (d : D), D.okd n d = true → D.eqb d d = true
  | _, .non, _ => rfl
  | _, .bl b, _ => by simp [D.eqb]
  | _, .int i, _ => by simp [D.eqb]
  | _, .str x, _ => by simp [D.eqb]
  | 0, .tup _, h => by simp [D.okd] at h
  | n + 1, .tup xs, h => by
    have := eqbs_refl n xs (by simpa [D.okd] using h)
    simpa [D.eqb] using this
  | _, .ref _, h => by simp [D.okd] at h
theorem eqbs_refl : ∀ (n : Nat) (ds : List D), okds n ds = true → eqbs ds ds = true
  | _, [], _ => rfl
  | n, d :: ds, h => by
    have h' : D.okd n d = true ∧ okds n ds = true := by simpa [okds] using h
    have h1 := eqb_refl n d h'.1
    have h2 := eqbs_refl n ds h'.2
    simp [eqbs, h1, h2]
end
theorem okds_all (n : Nat) : ∀ ds : List D, okds n ds = ds.all (D.okd n)
  | [] => rfl
  | d :: ds => by simp [okds, okds_all n ds]
theorem ne_self {d : D} {st : Store} {r : Bool → Prop} (h : D.okd 60 d = true) (hr : ∀ n, d ≠ .ref n) (q : r false) : neC d d st r := by
  have e := eqb_refl 60 d h
  have key : eqC d d st fun b => r (!b) := by
    cases d with
    | ref n => exact absurd rfl (hr n)
    | non => exact ⟨h, h, by rw [e]; exact q⟩
    | bl b => exact ⟨h, h, by rw [e]; exact q⟩
    | int b => exact ⟨h, h, by rw [e]; exact q⟩
    | str b => exact ⟨h, h, by rw [e]; exact q⟩
    | tup b => exact ⟨h, h, by rw [e]; exact q⟩
  exact key
/-! dicts -/
theorem put_len (kvs : List (Ky × D)) (k : Ky) (v : D) : (putD kvs k v).length ≤ kvs.length + 1 := by
  unfold putD
  split <;> simp
theorem val_put (kvs : List (Ky × D)) (k j : Ky) (v : D) : valD (putD kvs k v) j = if j = k then some v else valD kvs j := by
  unfold putD
  split
  · rename_i h
    induction kvs with
    | nil => simp at h
    | cons p kvs ih =>
      obtain ⟨a, d⟩ := p
      by_cases e : a = k
      · subst e
        by_cases ej : j = a
        · subst ej; simp [valD]
        · have ej' : ¬ a = j := fun z => ej z.symm
          have rest : ∀ l : List (Ky × D), valD (l.map fun kv => if kv.1 = a then (kv.1, v) else kv) j = valD l j := by
            intro l
            induction l with
            | nil => rfl
            | cons q l ih2 =>
              obtain ⟨b, z⟩ := q
              by_cases eb : b = a
              · subst eb
                simp [valD, ej'] at ih2 ⊢
                exact ih2
              · by_cases ebj : b = j
                · subst ebj; simp [valD, eb]
                · simp [valD, eb, ebj] at ih2 ⊢
                  exact ih2
          rw [if_neg ej]
          exact rest _
      · have h' : (kvs.any fun kv => decide (kv.1 = k)) = true := by simpa [e] using h
        have ih' := ih h'
        by_cases ea : a = j
        · subst ea
          simp [valD, e]
        · simp [valD, e, ea] at ih' ⊢
          exact ih'
  · rename_i h
    have hno : ∀ p ∈ kvs, ¬ p.1 = k := fun p hp e => h (List.any_eq_true.mpr ⟨p, hp, by simp [e]⟩)
    clear h
    induction kvs with
    | nil =>
      by_cases e : j = k
      · subst e; simp [valD]
      · have : ¬ k = j := fun z => e z.symm
        simp [valD, e, this]
    | cons p kvs ih =>
      obtain ⟨a, d⟩ := p
      have hak : ¬ a = k := hno (a, d) List.mem_cons_self
      have ih' := ih fun q hq => hno q (List.mem_cons_of_mem _ hq)
      by_cases ea : a = j
      · subst ea
        rw [if_neg hak]
        simp [valD]
      · simp [valD, ea] at ih' ⊢
        exact ih'
theorem dc_pure {α : Type} {gd : Store → Prop} {g : TG} {tk tv : TE} {ρ : Env} {st : Store} {Q : K} (f : α → D) (kf : α → Ky) (vf : α → D) (hg : ∀ acc, gd (st ++ [.dic acc])) : ∀ (xs : List α) (acc : List (Ky × D)) {items : List D}, items = xs.map f → acc.length + xs.length ≤ szl →
    (∀ x, x ∈ xs → ∀ (acc : List (Ky × D)) (N : D → D → Store → Prop), N (keyD (kf x)) (vf x) (st ++ [.dic acc]) → g (f x) ρ (st ++ [.dic acc]) fun ρ2 st2 => tk ρ2 st2 fun y st4 => tv ρ2 st4 fun z st5 => N y z st5) →
    Q (.ref st.length) (st ++ [.dic (xs.foldl (fun acc x => putD acc (kf x) (vf x)) acc)]) → dcLoop gd g tYes tk tv ρ st.length Q items acc (st ++ [.dic acc])
  | [], acc, items, e, hl, hs, hd => by
    subst e
    exact ⟨hg _, by unfold rdD; simp, hd⟩
  | x :: xs, acc, items, e, hl, hs, hd => by
    subst e
    refine ⟨hg _, ?_⟩
    have e1 : ∀ (R : D → D → Store → Prop), (fun (ρ2 : Env) (st2 : Store) => tYes ρ2 st2 fun b st3 => (b = true → tk ρ2 st3 fun y st4 => tv ρ2 st4 fun z st5 => R y z st5) ∧ (b = false → rdD st3 st.length acc ∧ dcLoop gd g tYes tk tv ρ st.length Q (xs.map f) acc st3)) = fun ρ2 st2 => tk ρ2 st2 fun y st4 => tv ρ2 st4 fun z st5 => R y z st5 := fun R => by
      funext ρ2 st2
      exact propext ⟨fun q => q.1 rfl, fun q => ⟨fun _ => q, fun e => nomatch e⟩⟩
    rw [e1]
    simp only [List.length_cons] at hl
    refine hs x List.mem_cons_self acc _ ⟨kf x, rfl, by unfold rdD; simp, by omega, ?_⟩
    have e2 : (st ++ [C.dic acc]).set st.length (.dic (putD acc (kf x) (vf x))) = st ++ [.dic (putD acc (kf x) (vf x))] := by
      rw [List.set_append_right _ _ (Nat.le_refl _)]; simp
    rw [e2]
    have := put_len acc (kf x) (vf x)
    exact dc_pure f kf vf hg xs _ rfl (by omega) (fun y hy => hs y (List.mem_cons_of_mem _ hy)) hd
section
variable {prog : String → Option Def} {k : Nat} {st : Store} {Q : K}
def pickBody (c : Cl) : TS := sRet (dOp ixK (dVar 1) (dCall c "_law_draw" (aCons (dVar 0) (aCons (dB lenB (aCons (dVar 1) (aNil))) (aNil)))))
theorem pick_ok (hp : prog "_law_pick" = some ⟨2, 2, pickBody⟩) (hp2 : prog "_law_draw" = some ⟨2, 5, drawBody⟩) {n : Nat} {xs : List D} (hd : DrawAt st) (h : rdL st n xs) (hn : n ≠ 2) (h0 : 0 < xs.length) (h1 : xs.length < 1073741824)
    (q : ∀ x st', x ∈ xs → Fra st st' → st'.length = st.length → Q x st') : callN prog (k + 2) "_law_pick" [.ref 2, .ref n] st Q := by
  refine call_intro hp rfl ?_
  unfold pickBody
  walk_at "r"
  refine len_at h ?_
  walk_at "r"
  refine draw_ok hp2 hd (by omega) (by omega) fun r st' r0 r1 f fl => ?_
  obtain ⟨x, hx, _, e⟩ := atD_of (xs := xs) r0 r1
  exact ix_at (f.rd h hn) e (q x st' hx f fl)
theorem pickT_ok (hp : prog "_law_pick" = some ⟨2, 2, pickBody⟩) (hp2 : prog "_law_draw" = some ⟨2, 5, drawBody⟩) {xs : List D} (hd : DrawAt st) (h0 : 0 < xs.length) (h1 : xs.length < 1073741824)
    (q : ∀ x st', x ∈ xs → Fra st st' → st'.length = st.length → Q x st') : callN prog (k + 2) "_law_pick" [.ref 2, .tup xs] st Q := by
  refine call_intro hp rfl ?_
  unfold pickBody
  walk_at "r"
  refine draw_ok hp2 hd (by omega) (by omega) fun r st' r0 r1 f fl => ?_
  obtain ⟨x, hx, _, e⟩ := atD_of (xs := xs) r0 r1
  exact ⟨x, e, q x st' hx f fl⟩
def rareBody (c : Cl) : TS := sRet (dCmp eqC (dCall c "_law_draw" (aCons (dVar 0) (aCons (dVar 1) (aNil)))) (dOp fdivK (dVar 1) (dC (.int 2))))
theorem rareK_ok (hp : prog "_law_rare" = some ⟨2, 2, rareBody⟩) (hp2 : prog "_law_draw" = some ⟨2, 5, drawBody⟩) {many : Int} (h : DrawAt st) (h0 : 0 < many) (h1 : many < 1073741824) (q : ∀ b st', Fra st st' → st'.length = st.length → Q (.bl b) st') : callN prog (k + 2) "_law_rare" [.ref 2, .int many] st Q := by
  refine call_intro hp rfl ?_
  unfold rareBody
  walk_at "r"
  refine draw_ok hp2 h h0 h1 fun r st' r0 r1 f fl => ?_
  walk_at "r"
  refine ⟨⟨by decide, by decide⟩, ?_⟩
  walk_at "r"
  exact q _ _ f fl
def isIntBody (c : Cl) : TS := sRet (dAndT (dIsi .int (dVar 0)) (dNotT (dIsi .bool (dVar 0))))
theorem isInt_ok (hp : prog "_law_is_int" = some ⟨1, 1, isIntBody⟩) {i : Int} (q : Q (.bl true) st) : callN prog (k + 1) "_law_is_int" [.int i] st Q := by
  refine call_intro hp rfl ?_
  unfold isIntBody
  walk_at "r"
  refine wayT rfl ?_
  walk_at "r"
  exact q
def fullI (w : Int) : Int := 2 ^ w.toNat - 1
theorem fullI_bd {w : Int} (h0 : 0 ≤ w) (h1 : w ≤ 8) : 0 ≤ fullI w ∧ fullI w ≤ 255 := by
  have := pw_bd h0 h1
  unfold fullI
  omega
theorem cmul_small {a b : Int} (h0 : 0 ≤ b) (h1 : b ≤ 1000000) : cMul a b := .inr ⟨by omega, by omega⟩
theorem cpow_small {w : Int} (h0 : 0 ≤ w) (h1 : w ≤ 1000) : cPow 1 w := ⟨h0, by omega, by decide⟩
def greatestBody (c : Cl) : TS := sRet (dOp subK (dOp shlK (dC (.int 1)) (dVar 0)) (dC (.int 1)))
theorem greatest_ok (hp : prog "greatest" = some ⟨1, 1, greatestBody⟩) {w : Int} (h0 : 0 ≤ w) (h1 : w ≤ 8) (q : Q (.int (fullI w)) st) : callN prog (k + 1) "greatest" [.int w] st Q := by
  refine call_intro hp rfl ?_
  unfold greatestBody
  walk_at "r"
  refine ⟨cpow_small h0 (by omega), ?_⟩
  walk_at "r"
  rw [Int.one_mul]
  exact q
/-- the first place of n at which P holds -/
def Fnd (P : Nat → Prop) (n : Nat) : Option Nat → Prop
  | some t => t < n ∧ P t ∧ ∀ u, u < t → ¬ P u
  | none => ∀ u, u < n → ¬ P u
theorem Fnd.uniq {P : Nat → Prop} {n : Nat} : ∀ {r r' : Option Nat}, Fnd P n r → Fnd P n r' → r = r'
  | none, none, _, _ => rfl
  | some t, none, h, h' => absurd h.2.1 (h' t h.1)
  | none, some t, h, h' => absurd h'.2.1 (h t h'.1)
  | some t, some t', h, h' => by
    rcases Nat.lt_trichotomy t t' with e | e | e
    · exact absurd h.2.1 (h'.2.2 t e)
    · rw [e]
    · exact absurd h'.2.1 (h.2.2 t' e)
def optD : Option Nat → D
  | some t => .int t
  | none => .non
/-- cells are as they were, but the drawer and p -/
structure FraE (p : Nat) (st st' : Store) : Prop where
  dr : DrawAt st'
  le : st.length ≤ st'.length
  at' : ∀ n, n < st.length → n ≠ 2 → n ≠ p → st'[n]? = st[n]?
theorem FraE.rd {p : Nat} {st st' : Store} (f : FraE p st st') {n : Nat} {xs : List D} (h : rdL st n xs) (ne : n ≠ 2) (ne' : n ≠ p) : rdL st' n xs := by
  unfold rdL at *
  rw [f.at' n (rdL_lt h) ne ne']; exact h
theorem FraE.of {p : Nat} {st st' : Store} (f : Fra st st') : FraE p st st' := ⟨f.dr, f.le, fun n h1 h2 _ => f.at' n h1 h2⟩
theorem FraE.trans {p : Nat} {a b c : Store} (h : FraE p a b) (h' : FraE p b c) : FraE p a c := ⟨h'.dr, Nat.le_trans h.le h'.le, fun n hn ne ne' => (h'.at' n (Nat.lt_of_lt_of_le hn h.le) ne ne').trans (h.at' n hn ne ne')⟩
theorem FraE.setP {p : Nat} {st st' : Store} {c : C} (f : FraE p st st') (h2 : 2 < p) : FraE p st (st'.set p c) := ⟨f.dr.set h2, by simp; exact f.le, fun m hm ne ne' => by
  rw [List.getElem?_set_ne (Ne.symm ne')]; exact f.at' m hm ne ne'⟩
theorem FraE.fra {p : Nat} {st st' : Store} (f : FraE p st st') (h : st.length ≤ p) : Fra st st' := ⟨f.dr, f.le, fun n hn ne => f.at' n hn ne (by omega)⟩
theorem FraE.setN {p : Nat} {st st' : Store} {n : Nat} {c : C} (f : FraE p st st') (hn : st.length ≤ n) (h2 : 2 < n) : FraE p st (st'.set n c) := ⟨f.dr.set h2, by simp; exact f.le, fun m hm ne ne' => by
  rw [List.getElem?_set_ne (by omega)]; exact f.at' m hm ne ne'⟩
/-- cells of before are as they were; the new ones, g among them, as they come -/
structure FraG (g : Nat) (st st' : Store) : Prop where
  big : st.length ≤ g
  at' : ∀ n, n < st.length → st'[n]? = st[n]?
  le : st.length ≤ st'.length
theorem FraG.new {st : Store} {c : C} : FraG st.length st (st ++ [c]) := ⟨Nat.le_refl _, fun n h => List.getElem?_append_left h, by simp⟩
theorem FraG.refl {st : Store} {g : Nat} (h : st.length ≤ g) : FraG g st st := ⟨h, fun _ _ => rfl, Nat.le_refl _⟩
theorem FraG.rd {g : Nat} {st st' : Store} (f : FraG g st st') {n : Nat} {xs : List D} (h : rdL st n xs) (hn : n < st.length) : rdL st' n xs := by
  unfold rdL at *
  rw [f.at' n hn]; exact h
theorem FraG.app {g : Nat} {st st' : Store} {c : C} (f : FraG g st st') : FraG g st (st' ++ [c]) := ⟨f.big, fun n h => by rw [List.getElem?_append_left (Nat.lt_of_lt_of_le h f.le)]; exact f.at' n h, by simp; have := f.le; omega⟩
theorem FraG.setG {g : Nat} {st st' : Store} {c : C} (f : FraG g st st') : FraG g st (st'.set g c) := ⟨f.big, fun n h => by
  have := f.big
  rw [List.getElem?_set_ne (by omega)]; exact f.at' n h, by simp; exact f.le⟩
theorem FraG.setN {g n : Nat} {st st' : Store} {c : C} (f : FraG g st st') (hn : st.length ≤ n) : FraG g st (st'.set n c) := ⟨f.big, fun m h => by
  rw [List.getElem?_set_ne (by omega)]; exact f.at' m h, by simp; exact f.le⟩
theorem FraG.grw {g : Nat} {st st' : Store} (f : FraG g st st') : Grw st st' := by
  refine ⟨st'.drop st.length, ?_⟩
  apply List.ext_getElem?
  intro n
  by_cases h : n < st.length
  · rw [f.at' n h, List.getElem?_append_left h]
  · rw [List.getElem?_append_right (by omega), List.getElem?_drop, show st.length + (n - st.length) = n by omega]
theorem FraG.more {g : Nat} {st st' st2 : Store} (f : FraG g st st') (h : Grw st' st2) : FraG g st st2 := by
  obtain ⟨m, rfl⟩ := h
  exact ⟨f.big, fun n h => by rw [List.getElem?_append_left (Nat.lt_of_lt_of_le h f.le)]; exact f.at' n h, by simp; have := f.le; omega⟩
/-- the element adds cells alone: the new list is the map -/
theorem lc_mapG {α : Type} {gd : Store → Prop} {g : TG} {te : TE} {ρ : Env} (xs : List α) (f h : α → D) {items : List D} (hi : items = xs.map f) (hl : xs.length ≤ szl) (hg : ∀ st', FraG st.length st st' → gd st')
    (hs : ∀ x, x ∈ xs → ∀ (st1 : Store) (N : D → Store → Prop), FraG st.length st st1 → (∀ st2, Grw st1 st2 → N (h x) st2) → g (f x) ρ st1 fun ρ2 st2 => te ρ2 st2 N)
    (hd : ∀ st', FraG st.length st st' → rdL st' st.length (xs.map h) → Q (.ref st.length) st') : lcLoop gd g tYes te ρ st.length Q items [] (st ++ [.lst []]) := by
  subst hi
  refine lc_by (fun pre acc st' => acc = (xs.take pre.length).map h ∧ FraG st.length st st' ∧ rdL st' st.length acc) ⟨rfl, FraG.new, rdL_new⟩ (fun pre x post acc st' e ⟨h1, h5, h6⟩ N M hN hM => ?_) (fun acc st' ⟨h1, h5, h6⟩ => ?_)
  · refine ⟨hg _ h5, ?_⟩
    have e1 : (fun (ρ2 : Env) (st2 : Store) => tYes ρ2 st2 fun b st3 => (b = true → te ρ2 st3 N) ∧ (b = false → M st3)) = fun ρ2 st2 => te ρ2 st2 N := by
      funext ρ2 st2
      exact propext ⟨fun q => q.1 rfl, fun q => ⟨fun _ => q, fun e => nomatch e⟩⟩
    rw [e1]
    have hlen := congrArg List.length e
    simp at hlen
    have hx : (xs.map f)[pre.length]? = some x := by rw [e]; simp
    rw [List.getElem?_map] at hx
    cases hy : xs[pre.length]? with
    | none => rw [hy] at hx; cases hx
    | some y =>
      rw [hy] at hx
      cases hx
      refine hs y (List.mem_of_getElem? hy) st' _ h5 fun st2 gr => ?_
      have h7 := gr.rd h6
      refine hN _ _ h7 (by rw [h1]; simp; omega) ⟨?_, (h5.more gr).setG, rdL_set h7⟩
      rw [List.length_append]
      show _ = (xs.take (pre.length + 1)).map h
      rw [List.take_add_one, hy, List.map_append, h1]; rfl
  · rw [List.length_map, List.take_length] at h1
    subst h1
    exact ⟨hg _ h5, h6, hd st' h5 h6⟩
def popBody (c : Cl) : TS := sRet (dM tyLst popM (dVar 1) (aCons (dCall c "_law_draw" (aCons (dVar 0) (aCons (dB lenB (aCons (dVar 1) (aNil))) (aNil)))) (aNil)))
theorem pop_ok (hp : prog "_law_pop" = some ⟨2, 2, popBody⟩) (hp2 : prog "_law_draw" = some ⟨2, 5, drawBody⟩) {n : Nat} {xs : List D} (hd : DrawAt st) (h : rdL st n xs) (hn : 2 < n) (h0 : 0 < xs.length) (h1 : xs.length < 1073741824)
    (q : ∀ (i : Nat) x st', xs[i]? = some x → FraE n st st' → rdL st' n (xs.eraseIdx i) → st'.length = st.length → Q x st') : callN prog (k + 2) "_law_pop" [.ref 2, .ref n] st Q := by
  refine call_intro hp rfl ?_
  unfold popBody
  walk_at "r"
  refine ⟨ty_at h, ?_⟩
  walk_at "r"
  refine len_at h ?_
  walk_at "r"
  refine draw_ok hp2 hd (by omega) (by omega) fun r st' r0 r1 f fl => ?_
  walk_at "r"
  obtain ⟨x, hx, e', e⟩ := atD_of (xs := xs) r0 r1
  have h' := f.rd h (by omega)
  exact ⟨xs, x, h', ⟨r0, by omega⟩, e, q r.toNat x _ e' ((FraE.of f).setP hn) (rdL_set h') (by simp [fl])⟩

def shuffledBody (c : Cl) : TS := sSeq (sAsg (dB listB (aCons (dVar 1) (aNil))) (gName 2)) (sSeq (sAsg (dLst (aNil)) (gName 3)) (sSeq (sFor (iR1 (dB lenB (aCons (dVar 2) (aNil)))) (gName 4) (sExpr (dM tyLst appendM (dVar 3) (aCons (dM tyLst popM (dVar 2) (aCons (dCall c "_law_draw" (aCons (dVar 0) (aCons (dB lenB (aCons (dVar 2) (aNil))) (aNil)))) (aNil))) (aNil))))) (sRet (dVar 3))))
theorem perm_erase {α : Type} {x : α} : ∀ {l : List α} {i : Nat}, l[i]? = some x → (x :: l.eraseIdx i).Perm l
  | [], _, h => by simp at h
  | a :: l, 0, h => by simp at h; subst h; exact List.Perm.refl _
  | a :: l, i + 1, h => (List.Perm.swap a x _).trans ((perm_erase (l := l) (i := i) (by simpa using h)).cons a)
theorem shuffled_ok (hp : prog "_law_shuffled" = some ⟨2, 5, shuffledBody⟩) (hp2 : prog "_law_draw" = some ⟨2, 5, drawBody⟩) {n : Nat} {xs : List D} (hd : DrawAt st) (h : rdL st n xs) (hn : 2 < n) (h1 : xs.length < 1000000)
    (q : ∀ fn ys st', ys.Perm xs → st.length ≤ fn → rdL st' fn ys → Fra st st' → Q (.ref fn) st') : callN prog (k + 2) "_law_shuffled" [.ref 2, .ref n] st Q := by
  refine call_intro hp rfl ?_
  unfold shuffledBody
  have d2 := hd.lt
  walk_at "r"
  refine list_at h ?_
  walk_at "r"
  refine ⟨by show 0 ≤ szl; decide, ?_⟩
  walk_at "r"
  refine len_at (rdL_app rdL_new) ?_
  walk_at "r"
  refine ⟨by omega, by omega, ?_⟩
  have l1 : st.length < (st ++ [C.lst xs]).length := by simp
  have f0 := ((Fra.refl hd).app (c := C.lst xs)).app (c := C.lst [])
  have hf0 := rdL_new (st := st ++ [C.lst xs]) (xs := [])
  have hl0 : rdL (st ++ [C.lst xs] ++ [C.lst []]) st.length xs := rdL_app rdL_new
  generalize (st ++ [C.lst xs]).length = fn at l1 hf0 ⊢
  generalize (st ++ [C.lst xs] ++ [C.lst []]) = st1 at f0 hf0 hl0 ⊢
  refine for_rng (fun j σ st' => ∃ y4 ls fs, σ = [some (.ref 2), some (.ref n), some (.ref st.length), some (.ref fn), y4] ∧ rdL st' st.length ls ∧ rdL st' fn fs ∧ (fs ++ ls).Perm xs ∧ fs.length = j ∧ Fra st st') ⟨none, xs, [], rfl, hl0, hf0, List.Perm.refl _, rfl, f0⟩ (fun j σ st' hj ⟨y4, ls, fs, e, hls, hfs, pm, hfl, f⟩ N hN => ?_) (fun σ st' ⟨y4, ls, fs, e, hls, hfs, pm, hfl, f⟩ => ?_)
  · subst e
    have hpl := pm.length_eq
    rw [List.length_append] at hpl
    refine ⟨trivial, ?_⟩
    walk_at "r"
    refine ⟨ty_at hfs, ?_⟩
    walk_at "r"
    refine ⟨ty_at hls, ?_⟩
    walk_at "r"
    refine len_at hls ?_
    walk_at "r"
    refine draw_ok hp2 f.dr (by omega) (by omega) fun r st2 r0 r1 f2 l2 => ?_
    walk_at "r"
    obtain ⟨x, hx, e', e⟩ := atD_of (xs := ls) r0 r1
    have hls2 := f2.rd hls (by omega)
    have hfs2 := f2.rd hfs (by omega)
    refine ⟨ls, x, hls2, ⟨r0, by omega⟩, e, ?_⟩
    walk_at "r"
    have hfs3 : rdL (st2.set st.length (.lst (ls.eraseIdx r.toNat))) fn fs := rdL_ne hfs2 (by omega)
    refine append_at hfs3 (by unfold szl; omega) ?_
    refine hN _ _ ⟨_, ls.eraseIdx r.toNat, fs ++ [x], rfl, rdL_ne (rdL_set hls2) (by omega), rdL_set hfs3, ?_, by simp [hfl], ((f.trans f2).set (Nat.le_refl _) d2).set (by omega) (by omega)⟩
    rw [List.append_assoc]
    exact ((perm_erase e').append_left fs).trans pm
  · subst e
    refine ⟨trivial, ?_⟩
    walk_at "r"
    have hpl := pm.length_eq
    rw [List.length_append] at hpl
    have hl : ls = [] := List.eq_nil_of_length_eq_zero (by omega)
    subst hl
    rw [List.append_nil] at pm
    exact q fn fs st' pm (by omega) hfs f
theorem and_maskZ (x : Int) (n : Nat) : Builtin.bitAnd x (2 ^ n - 1) = x % 2 ^ n := by
  by_cases hx : 0 ≤ x
  · exact and_mask hx
  · have hm : (0 : Int) ≤ 2 ^ n - 1 := by have := pow2_pos n; omega
    unfold Builtin.bitAnd
    simp only [hx, hm, decide_true, decide_false]
    unfold Builtin.bitNot
    have e1 : (2 ^ n - 1 : Int).toNat = 2 ^ n - 1 := by
      have : (2 ^ n : Int) = ((2 ^ n : Nat) : Int) := by simp
      rw [this]
      have := Nat.two_pow_pos n
      omega
    obtain ⟨m, hm2⟩ : ∃ m : Nat, (-x - 1).toNat = m := ⟨_, rfl⟩
    have hx2 : x = -(m : Int) - 1 := by omega
    rw [hm2, e1, Nat.and_comm, Nat.and_two_pow_sub_one_eq_mod, hx2]
    have hp := pow2_pos n
    have c : ((2 : Int) ^ n) = ((2 ^ n : Nat) : Int) := by simp
    have h1 := Nat.div_add_mod m (2 ^ n)
    have h2 := Nat.mod_lt m (Nat.two_pow_pos n)
    have h3 : -(m : Int) - 1 = ((2 : Int) ^ n - 1 - ((m % 2 ^ n : Nat) : Int)) + 2 ^ n * (-((m / 2 ^ n : Nat) : Int) - 1) := by
      have h4 : (m : Int) = 2 ^ n * ((m / 2 ^ n : Nat) : Int) + ((m % 2 ^ n : Nat) : Int) := by
        rw [c, ← Int.natCast_mul, ← Int.natCast_add, h1]
      rw [Int.mul_sub, Int.mul_neg, Int.mul_one]
      omega
    rw [h3, Int.add_mul_emod_self_left, Int.emod_eq_of_lt (by omega) (by omega)]

/-- a for over known items, by the place -/
theorem for_map {α : Type} {gd : Store → Prop} {g : TG} {tb : TS} {D0 : Ends} {σ : Env} (xs : List α) (f : α → D) {items : List D} (hi : items = xs.map f) (Pv : Nat → Env → Store → Prop) (h0 : Pv 0 σ st)
    (hs : ∀ j x σ st, xs[j]? = some x → Pv j σ st → ∀ N : Env → Store → Prop, (∀ σ st, Pv (j + 1) σ st → N σ st) → gd st ∧ g (f x) σ st fun σ2 st2 => tb { D0 with nx := N, ct := N, bk := D0.nx } σ2 st2)
    (hd : ∀ σ st, Pv xs.length σ st → gd st ∧ D0.nx σ st) : forLoop gd g tb D0 items σ st := by
  subst hi
  refine for_by (fun pre σ st => Pv pre.length σ st) h0 (fun pre x post σ st e h N hN => ?_) (fun σ st h => hd σ st (by simpa using h))
  have hx : (xs.map f)[pre.length]? = some x := by rw [e]; simp
  rw [List.getElem?_map] at hx
  cases hy : xs[pre.length]? with
  | none => rw [hy] at hx; cases hx
  | some y =>
    rw [hy] at hx
    cases hx
    exact hs pre.length y σ st hy h N fun σ st h' => hN σ st (by simpa using h')
theorem lc_two {α β : Type} {gd : Store → Prop} {g : TG} {te : TE} {ρ : Env} (xs : List α) (f : α → D) (f' : β → D) (P : α → β → Prop) {items : List D} (hi : items = xs.map f) (hd : DrawAt st) (hl : xs.length ≤ szl) (hg : ∀ st', Fra st st' → gd st')
    (hs : ∀ x ∈ xs, ∀ st', Fra st st' → ∀ N : D → Store → Prop, (∀ y st2, P x y → Fra st' st2 → N (f' y) st2) → g (f x) ρ st' fun ρ2 st2 => te ρ2 st2 N)
    (hQ : ∀ (ys : List β) st', Two P xs ys → Fra st st' → rdL st' st.length (ys.map f') → Q (.ref st.length) st') : lcLoop gd g tYes te ρ st.length Q items [] (st ++ [.lst []]) := by
  subst hi
  have key : ∀ {as : List α} {zs : List D}, Two (fun a z => ∃ b, z = f' b ∧ P a b) as zs → ∃ bs : List β, zs = bs.map f' ∧ Two P as bs := by
    intro as zs h
    induction h with
    | nil => exact ⟨[], rfl, .nil⟩
    | cons p _ ih =>
      obtain ⟨b, h1, h2⟩ := p
      obtain ⟨bs, h3, h4⟩ := ih
      exact ⟨b :: bs, by rw [h1, h3]; rfl, .cons h2 h4⟩
  have h2 := hd.lt
  refine lc_by (fun pre acc st' => Two (fun a z => ∃ b, z = f' b ∧ P a b) (xs.take pre.length) acc ∧ Fra st st' ∧ rdL st' st.length acc) ⟨.nil, (Fra.refl hd).app, rdL_new⟩ (fun pre x post acc st' e ⟨h1, h5, h6⟩ N M hN hM => ?_) (fun acc st' ⟨h1, h5, h6⟩ => ?_)
  · refine ⟨hg _ h5, ?_⟩
    have e1 : (fun (ρ2 : Env) (st2 : Store) => tYes ρ2 st2 fun b st3 => (b = true → te ρ2 st3 N) ∧ (b = false → M st3)) = fun ρ2 st2 => te ρ2 st2 N := by
      funext ρ2 st2
      exact propext ⟨fun q => q.1 rfl, fun q => ⟨fun _ => q, fun e => nomatch e⟩⟩
    rw [e1]
    have hlen := congrArg List.length e
    simp at hlen
    have hx : (xs.map f)[pre.length]? = some x := by rw [e]; simp
    rw [List.getElem?_map] at hx
    cases hy : xs[pre.length]? with
    | none => rw [hy] at hx; cases hx
    | some y =>
      rw [hy] at hx
      cases hx
      refine hs y (List.mem_of_getElem? hy) st' h5 N fun z st2 hr fr => ?_
      have h7 := fr.rd h6 (by omega)
      have hal := h1.length
      rw [List.length_take] at hal
      refine hN _ _ h7 (by omega) ⟨?_, (h5.trans fr).set (Nat.le_refl _) (by omega), rdL_set h7⟩
      rw [List.length_append]
      show Two _ (xs.take (pre.length + 1)) _
      rw [List.take_add_one, hy]
      exact h1.snoc ⟨z, rfl, hr⟩
  · rw [List.length_map, List.take_length] at h1
    obtain ⟨bs, rfl, h8⟩ := key h1
    exact ⟨hg _ h5, h6, hQ bs st' h8 h5 h6⟩
end
end Pd
end PartPdKit

section PartPdSrc
set_option Elab.async false
set_option linter.all false
set_option maxRecDepth 100000
set_option maxHeartbeats 1000000
/-! Pd: the other drawing def, over a source of ten places. Own work. -/
namespace Pd
open PySem
local macro_rules | `(tactic| walk_at "s") => `(tactic| (repeat (refine Red.red ?_)))
local macro_rules | `(tactic| walk_at "r") => `(tactic| (repeat (first | refine Red.red ?_ | refine Nxt.mk ?_)))
abbrev srcL (a b c e : Int) : List D := [.ref 1, .int a, .int b, .int c, .int e, .int 0, .non, .int 40, .int 0, .int 0]
/-- the source stands at 2, the script's numbers at 1 -/
def SrcAt (st : Store) : Prop := ∃ (ns : List Int) (a b c e : Int), rdL st 1 (ns.map D.int) ∧ rdL st 2 (srcL a b c e) ∧ 0 ≤ a ∧ 0 ≤ b ∧ 0 ≤ c ∧ 0 ≤ e ∧ ns.length ≤ 63
structure FraS (st st' : Store) : Prop where
  dr : SrcAt st'
  le : st.length ≤ st'.length
  at' : ∀ n, n < st.length → n ≠ 2 → st'[n]? = st[n]?
theorem FraS.refl {st : Store} (h : SrcAt st) : FraS st st := ⟨h, Nat.le_refl _, fun _ _ _ => rfl⟩
theorem FraS.trans {a b c : Store} (h : FraS a b) (h' : FraS b c) : FraS a c := ⟨h'.dr, Nat.le_trans h.le h'.le, fun n hn ne => (h'.at' n (Nat.lt_of_lt_of_le hn h.le) ne).trans (h.at' n hn ne)⟩
theorem FraS.rd {st st' : Store} (f : FraS st st') {n : Nat} {xs : List D} (h : rdL st n xs) (ne : n ≠ 2) : rdL st' n xs := by
  unfold rdL at *
  rw [f.at' n (rdL_lt h) ne]; exact h
theorem SrcAt.lt {st : Store} (h : SrcAt st) : 2 < st.length := by
  obtain ⟨_, _, _, _, _, _, h2, _⟩ := h
  exact rdL_lt h2
theorem SrcAt.app {st : Store} {c : C} (h : SrcAt st) : SrcAt (st ++ [c]) := by
  obtain ⟨ns, a, b, c, e, h1, h2, h3⟩ := h
  exact ⟨ns, a, b, c, e, rdL_app h1, rdL_app h2, h3⟩
theorem SrcAt.set {st : Store} {n : Nat} {c : C} (h : SrcAt st) (hn : 2 < n) : SrcAt (st.set n c) := by
  obtain ⟨ns, a, b, c, e, h1, h2, h3⟩ := h
  exact ⟨ns, a, b, c, e, rdL_ne h1 (by omega), rdL_ne h2 (by omega), h3⟩
theorem FraS.app {st st' : Store} {c : C} (f : FraS st st') : FraS st (st' ++ [c]) := ⟨f.dr.app, by simp; have := f.le; omega, fun n hn ne => by
  rw [List.getElem?_append_left (Nat.lt_of_lt_of_le hn f.le)]; exact f.at' n hn ne⟩
theorem FraS.set {st st' : Store} {n : Nat} {c : C} (f : FraS st st') (hn : st.length ≤ n) (h2 : 2 < n) : FraS st (st'.set n c) := ⟨f.dr.set h2, by simp; exact f.le, fun m hm ne => by
  rw [List.getElem?_set_ne (by omega)]; exact f.at' m hm ne⟩
theorem Grw.fraS {st st' : Store} (f : Grw st st') (h : SrcAt st) : FraS st st' := by
  obtain ⟨m, rfl⟩ := f
  refine ⟨?_, by simp, fun n hn _ => List.getElem?_append_left hn⟩
  obtain ⟨ns, a, b, c, e, h1, h2, h3⟩ := h
  exact ⟨ns, a, b, c, e, Grw.rd ⟨m, rfl⟩ h1, Grw.rd ⟨m, rfl⟩ h2, h3⟩
def srcDigitBody (c : Cl) : TS := sSeq (sAsg (dOp addK (dOp ixK (dVar 0) (dC (.int 4))) (dC (.int 1))) (gSub (dVar 0) (dC (.int 4)))) (sSeq (sIf (tAnd (tTru (dCmp eqC (dOp ixK (dVar 0) (dC (.int 2))) (dC (.int 0)))) (tTru (dCmp ltC (dOp ixK (dVar 0) (dC (.int 1))) (dB lenB (aCons (dOp ixK (dVar 0) (dC (.int 0))) (aNil)))))) (sSeq (sAsg (dOp ixK (dOp ixK (dVar 0) (dC (.int 0))) (dOp ixK (dVar 0) (dC (.int 1)))) (gName 2)) (sSeq (sAsg (dOp addK (dOp ixK (dVar 0) (dC (.int 1))) (dC (.int 1))) (gSub (dVar 0) (dC (.int 1)))) (sSeq (sAsg (dOp modK (dB intB (aCons (dOp addK (dOp addK (dOp mulK (dOp ixK (dVar 0) (dC (.int 3))) (dC (.int 48271))) (dVar 2)) (dC (.int 7))) (aNil))) (dC (.int 2147483647))) (gSub (dVar 0) (dC (.int 3)))) (sIf (tTru (dCmp geC (dB absB (aCons (dVar 2) (aNil))) (dOp powK (dC (.int 10)) (dC (.int 18))))) (sAsg (dOp modK (dB intB (aCons (dB absB (aCons (dVar 2) (aNil))) (aNil))) (dOp shlK (dC (.int 1)) (dC (.int 900)))) (gSub (dVar 0) (dC (.int 2)))) (sNext))))) (sNext)) (sSeq (sIf (tTru (dCmp gtC (dOp ixK (dVar 0) (dC (.int 2))) (dC (.int 0)))) (sSeq (sAsg (dOp modK (dB intB (aCons (dOp ixK (dVar 0) (dC (.int 2))) (aNil))) (dVar 1)) (gName 3)) (sSeq (sAsg (dOp fdivK (dOp ixK (dVar 0) (dC (.int 2))) (dVar 1)) (gSub (dVar 0) (dC (.int 2)))) (sRet (dVar 3)))) (sNext)) (sSeq (sIf (tNot (tTru (dOp ixK (dVar 0) (dC (.int 0))))) (sRet (dC (.int 0))) (sNext)) (sSeq (sAsg (dOp modK (dB intB (aCons (dOp addK (dOp mulK (dOp addK (dOp ixK (dVar 0) (dC (.int 3))) (dC (.int 1))) (dC (.int 69621))) (dOp mulK (dOp ixK (dVar 0) (dC (.int 4))) (dC (.int 40692)))) (aNil))) (dC (.int 2147483399))) (gName 4)) (sSeq (sAsg (dOp modK (dB intB (aCons (dOp mulK (dVar 4) (dOp addK (dVar 4) (dOp ixK (dVar 0) (dC (.int 4))))) (aNil))) (dC (.int 998244353))) (gName 4)) (sRet (dOp modK (dB intB (aCons (dOp fdivK (dVar 4) (dC (.int 64))) (aNil))) (dVar 1))))))))
def srcPickBody (c : Cl) : TS := sRet (dOp ixK (dVar 1) (dCall c "_law_digit" (aCons (dVar 0) (aCons (dB lenB (aCons (dVar 1) (aNil))) (aNil)))))
def srcBody (c : Cl) : TS := sRet (dLst (aCons (dB listB (aCons (dVar 0) (aNil))) (aCons (dC (.int 0)) (aCons (dC (.int 0)) (aCons (dC (.int 0)) (aCons (dC (.int 0)) (aCons (dC (.int 0)) (aCons (dC .non) (aCons (dC (.int 40)) (aCons (dC (.int 0)) (aCons (dC (.int 0)) (aNil))))))))))))
theorem digit_ok {prog : String → Option Def} (hp : prog "_law_digit" = some ⟨2, 5, srcDigitBody⟩) {k : Nat} {st : Store} {many : Int} {Q : K} (h : SrcAt st) (h0 : 0 < many) (h1 : many < 1073741824)
    (hQ : ∀ r st', 0 ≤ r → r < many → FraS st st' → st'.length = st.length → Q (.int r) st') : callN prog (k + 1) "_law_digit" [.ref 2, .int many] st Q := by
  obtain ⟨ns, a, b, c, e, d1, d2, ha, hb, hc, he, hn⟩ := h
  have l2 := rdL_lt d2
  have set2 : ∀ {xs ys : List D}, (st.set 2 (.lst xs)).set 2 (.lst ys) = st.set 2 (.lst ys) := fun {xs ys} => by rw [List.set_set]
  have rs : ∀ (xs : List D), rdL (st.set 2 (.lst xs)) 2 xs := fun xs => rdL_set d2
  have rn : ∀ (xs : List D), rdL (st.set 2 (.lst xs)) 1 (ns.map D.int) := fun xs => rdL_ne d1 (by decide)
  have fin : ∀ {a b c e r : Int}, 0 ≤ a → 0 ≤ b → 0 ≤ c → 0 ≤ e → 0 ≤ r → r < many → Q (.int r) (st.set 2 (.lst (srcL a b c e))) := fun {a b c e r} ha hb hc he r0 r1 =>
    hQ _ _ r0 r1 ⟨⟨ns, a, b, c, e, rn _, rs _, ha, hb, hc, he, hn⟩, by simp, fun n _ ne => by rw [List.getElem?_set_ne (Ne.symm ne)]⟩ (by simp)
  have fmod : ∀ {a b c e r : Int}, 0 ≤ a → 0 ≤ b → 0 ≤ c → 0 ≤ e → Q (.int (r % many)) (st.set 2 (.lst (srcL a b c e))) := fun ha hb hc he => fin ha hb hc he (Int.emod_nonneg _ (by omega)) (Int.emod_lt_of_pos _ h0)
  refine call_intro hp rfl ?_
  unfold srcDigitBody
  walk_at "s"
  refine ix_at d2 rfl ?_
  walk_at "s"
  refine set_at d2 rfl (by decide) ?_
  refine Nxt.mk ?_
  refine seq_cut (fun σ st' => ∃ a b c e y2, 0 ≤ a ∧ 0 ≤ b ∧ 0 ≤ c ∧ 0 ≤ e ∧ σ = [some (.ref 2), some (.int many), y2, none, none] ∧ st' = st.set 2 (.lst (srcL a b c e))) (fun N hN => ?_) (fun σ st' hJ => ?_)
  · have hI : N [some (.ref 2), some (.int many), none, none, none] (st.set 2 (.lst (srcL a b c (e + 1)))) := hN _ _ ⟨a, b, c, e + 1, _, ha, hb, hc, by omega, rfl, rfl⟩
    walk_at "s"
    refine ix_at (rs _) rfl ?_
    walk_at "s"
    refine way (fun e1 => ?_) (fun e1 => ?_)
    · walk_at "s"
      refine ix_at (rs _) rfl ?_
      walk_at "s"
      refine ix_at (rs _) rfl ?_
      walk_at "s"
      refine len_at (rn _) ?_
      walk_at "s"
      refine way (fun e2 => ?_) (fun e2 => ?_)
      · have e2 : a < (ns.length : Int) := by simpa using e2
        walk_at "r"
        refine ix_at (rs _) rfl ?_
        walk_at "r"
        refine ix_at (rs _) rfl ?_
        obtain ⟨n, _, hat⟩ := atD_map ha e2
        refine ix_at (rn _) hat ?_
        walk_at "r"
        refine ix_at (rs _) rfl ?_
        walk_at "r"
        refine set_at (rs _) rfl (by decide) ?_
        walk_at "r"
        rw [set2]
        refine ix_at (rs _) rfl ?_
        walk_at "r"
        refine ⟨.inr (by decide), ?_⟩
        walk_at "r"
        refine ⟨by decide, ?_⟩
        walk_at "r"
        refine set_at (rs _) rfl (by decide) ?_
        walk_at "r"
        rw [set2]
        refine ⟨by unfold cPow; decide, ?_⟩
        walk_at "r"
        refine way (fun e3 => ?_) (fun e3 => ?_)
        · walk_at "r"
          refine ⟨by unfold cPow; decide, ?_⟩
          walk_at "r"
          have hp6 : (0 : Int) < 1 * 2 ^ (900 : Int).toNat := by rw [Int.one_mul]; exact Int.pow_pos (by decide)
          refine ⟨hp6, ?_⟩
          walk_at "r"
          refine set_at (rs _) rfl (by decide) ?_
          rw [set2]
          exact hN _ _ ⟨_, _, _, _, _, by omega, Int.emod_nonneg _ (by omega), Int.emod_nonneg _ (by decide), by omega, rfl, rfl⟩
        · walk_at "r"
          exact hN _ _ ⟨_, _, _, _, _, by omega, hb, Int.emod_nonneg _ (by decide), by omega, rfl, rfl⟩
      · walk_at "s"
        exact hI
    · walk_at "s"
      exact hI
  · obtain ⟨a, b, c, e, y2, ha, hb, hc, he, rfl, rfl⟩ := hJ
    walk_at "s"
    refine ix_at (rs _) rfl ?_
    walk_at "s"
    refine way (fun e1 => ?_) (fun e1 => ?_)
    · have e1 : 0 < b := by simpa using e1
      walk_at "r"
      refine ix_at (rs _) rfl ?_
      walk_at "r"
      refine ⟨h0, ?_⟩
      walk_at "r"
      refine ix_at (rs _) rfl ?_
      walk_at "r"
      refine ⟨⟨h0, h1⟩, ?_⟩
      walk_at "r"
      refine set_at (rs _) rfl (by decide) ?_
      walk_at "r"
      rw [set2]
      exact fmod (a := a) (b := b / many) (c := c) (e := e) ha (Int.ediv_nonneg hb (by omega)) hc he
    · walk_at "s"
      refine Nxt.mk ?_
      walk_at "s"
      refine ix_at (rs _) rfl ?_
      refine ⟨ns.map D.int, .inl (rn _), ?_⟩
      refine way (fun e2 => ?_) (fun e2 => ?_)
      · walk_at "s"
        exact fin (a := a) (b := b) (c := c) (e := e) ha hb hc he (by decide) h0
      · walk_at "r"
        refine ix_at (rs _) rfl ?_
        walk_at "r"
        refine ⟨.inr (by decide), ?_⟩
        walk_at "r"
        refine ix_at (rs _) rfl ?_
        walk_at "r"
        refine ⟨.inr (by decide), ?_⟩
        walk_at "r"
        refine ⟨by decide, ?_⟩
        walk_at "r"
        refine ix_at (rs _) rfl ?_
        walk_at "r"
        generalize hz : ((c + 1) * 69621 + e * 40692) % 2147483399 = z
        have z0 : 0 ≤ z := by rw [← hz]; exact Int.emod_nonneg _ (by decide)
        have z1 : z < 2147483399 := by rw [← hz]; exact Int.emod_lt_of_pos _ (by decide)
        refine ⟨.inl (by omega), ?_⟩
        walk_at "r"
        refine ⟨by decide, ?_⟩
        walk_at "r"
        refine ⟨by decide, ?_⟩
        walk_at "r"
        refine ⟨h0, ?_⟩
        exact fmod (a := a) (b := b) (c := c) (e := e) ha hb hc he
theorem pickOne_ok {prog : String → Option Def} (hp : prog "_law_pick_one" = some ⟨2, 2, srcPickBody⟩) (hp2 : prog "_law_digit" = some ⟨2, 5, srcDigitBody⟩) {k n : Nat} {st : Store} {xs : List D} {Q : K} (hd : SrcAt st) (h : rdL st n xs) (hn : n ≠ 2) (h0 : 0 < xs.length) (h1 : xs.length < 1073741824)
    (hQ : ∀ x st', x ∈ xs → FraS st st' → st'.length = st.length → Q x st') : callN prog (k + 2) "_law_pick_one" [.ref 2, .ref n] st Q := by
  refine call_intro hp rfl ?_
  unfold srcPickBody
  walk_at "r"
  refine len_at h ?_
  walk_at "r"
  refine digit_ok hp2 hd (by omega) (by omega) fun r st' r0 r1 f hl => ?_
  obtain ⟨x, hx, _, hat⟩ := atD_of (xs := xs) r0 (by omega)
  exact ix_at (f.rd h hn) hat (hQ x st' hx f hl)
/-- of a tuple -/
theorem pickOneT_ok {prog : String → Option Def} (hp : prog "_law_pick_one" = some ⟨2, 2, srcPickBody⟩) (hp2 : prog "_law_digit" = some ⟨2, 5, srcDigitBody⟩) {k : Nat} {st : Store} {xs : List D} {Q : K} (hd : SrcAt st) (h0 : 0 < xs.length) (h1 : xs.length < 1073741824)
    (hQ : ∀ x st', x ∈ xs → FraS st st' → st'.length = st.length → Q x st') : callN prog (k + 2) "_law_pick_one" [.ref 2, .tup xs] st Q := by
  refine call_intro hp rfl ?_
  unfold srcPickBody
  walk_at "r"
  refine digit_ok hp2 hd (by omega) (by omega) fun r st' r0 r1 f hl => ?_
  obtain ⟨x, hx, _, hat⟩ := atD_of (xs := xs) r0 (by omega)
  walk_at "r"
  exact ⟨x, hat, hQ x st' hx f hl⟩
theorem source_ok {prog : String → Option Def} (hp : prog "_law_source" = some ⟨1, 1, srcBody⟩) {k : Nat} {ns : List Int} {Q : K} (hn : ns.length ≤ 63)
    (hQ : ∀ st', SrcAt st' → st'.length = 3 → Q (.ref 2) st') : callN prog (k + 1) "_law_source" [.ref 0] [.frz (ns.map D.int)] Q := by
  refine call_intro hp rfl ?_
  unfold srcBody
  walk_at "r"
  refine ⟨ns.map D.int, .inr rfl, ?_⟩
  walk_at "r"
  refine ⟨by show 10 ≤ szl; decide, ?_⟩
  exact hQ _ ⟨ns, 0, 0, 0, 0, rfl, rfl, by decide, by decide, by decide, by decide, hn⟩ rfl
theorem lcS_ints {gd : Store → Prop} {g : TG} {te : TE} {ρ : Env} {st : Store} {Q : K} {items : List D} (P : Int → Prop) (hd : SrcAt st) (hl : items.length ≤ szl) (hg : ∀ st', FraS st st' → gd st')
    (hs : ∀ x ∈ items, ∀ st', FraS st st' → ∀ N : D → Store → Prop, (∀ r st2, P r → FraS st' st2 → N (.int r) st2) → g x ρ st' fun ρ2 st2 => te ρ2 st2 N)
    (hQ : ∀ (rs : List Int) st', rs.length = items.length → (∀ r ∈ rs, P r) → FraS st st' → rdL st' st.length (rs.map D.int) → Q (.ref st.length) st') : lcLoop gd g tYes te ρ st.length Q items [] (st ++ [.lst []]) := by
  have h2 := hd.lt
  refine lc_by (fun pre acc st' => ∃ rs : List Int, acc = rs.map D.int ∧ rs.length = pre.length ∧ (∀ r ∈ rs, P r) ∧ FraS st st' ∧ rdL st' st.length acc) ⟨[], rfl, rfl, by simp, (FraS.refl hd).app, rdL_new⟩ (fun pre x post acc st' e ⟨rs, h1, h3, h4, h5, h6⟩ N M hN hM => ?_) (fun acc st' ⟨rs, h1, h3, h4, h5, h6⟩ => ?_)
  · subst h1
    refine ⟨hg _ h5, ?_⟩
    have e1 : (fun (ρ2 : Env) (st2 : Store) => tYes ρ2 st2 fun b st3 => (b = true → te ρ2 st3 N) ∧ (b = false → M st3)) = fun ρ2 st2 => te ρ2 st2 N := by
      funext ρ2 st2
      exact propext ⟨fun q => q.1 rfl, fun q => ⟨fun _ => q, fun e => nomatch e⟩⟩
    rw [e1]
    have hlen := congrArg List.length e
    simp at hlen
    refine hs x (by rw [e]; simp) st' h5 N fun r st2 hr f => ?_
    have h7 := f.rd h6 (by omega)
    refine hN _ _ h7 (by simp; omega) ⟨rs ++ [r], by simp, by simp [h3], ?_, (h5.trans f).set (Nat.le_refl _) (by omega), rdL_set h7⟩
    intro y hy
    rcases List.mem_append.mp hy with hy | hy
    · exact h4 y hy
    · simp at hy; subst hy; exact hr
  · subst h1
    exact ⟨hg _ h5, h6, hQ rs st' h3 h4 h5 h6⟩
theorem lcS_vals {gd : Store → Prop} {g : TG} {te : TE} {ρ : Env} {st : Store} {Q : K} {items : List D} (P : D → D → Prop) (hd : SrcAt st) (hl : items.length ≤ szl) (hg : ∀ st', FraS st st' → gd st')
    (hs : ∀ x ∈ items, ∀ st', FraS st st' → ∀ N : D → Store → Prop, (∀ y st2, P x y → FraS st' st2 → N y st2) → g x ρ st' fun ρ2 st2 => te ρ2 st2 N)
    (hQ : ∀ (ys : List D) st', Two P items ys → FraS st st' → rdL st' st.length ys → Q (.ref st.length) st') : lcLoop gd g tYes te ρ st.length Q items [] (st ++ [.lst []]) := by
  have h2 := hd.lt
  refine lc_by (fun pre acc st' => Two P pre acc ∧ FraS st st' ∧ rdL st' st.length acc) ⟨.nil, (FraS.refl hd).app, rdL_new⟩ (fun pre x post acc st' e ⟨h1, h5, h6⟩ N M hN hM => ?_) (fun acc st' ⟨h1, h5, h6⟩ => ?_)
  · refine ⟨hg _ h5, ?_⟩
    have e1 : (fun (ρ2 : Env) (st2 : Store) => tYes ρ2 st2 fun b st3 => (b = true → te ρ2 st3 N) ∧ (b = false → M st3)) = fun ρ2 st2 => te ρ2 st2 N := by
      funext ρ2 st2
      exact propext ⟨fun q => q.1 rfl, fun q => ⟨fun _ => q, fun e => nomatch e⟩⟩
    rw [e1]
    have hlen := congrArg List.length e
    simp at hlen
    refine hs x (by rw [e]; simp) st' h5 N fun y st2 hr f => ?_
    have h7 := f.rd h6 (by omega)
    exact hN _ _ h7 (by have := h1.length; omega) ⟨h1.snoc hr, (h5.trans f).set (Nat.le_refl _) (by omega), rdL_set h7⟩
  · exact ⟨hg _ h5, h6, hQ acc st' h1 h5 h6⟩
theorem lcS_some {gd : Store → Prop} {g : TG} {tt : TT} {te : TE} {ρ : Env} {st : Store} {Q : K} {items : List D} (P : Int → Prop) (hd : SrcAt st) (hl : items.length ≤ szl) (hg : ∀ st', FraS st st' → gd st')
    (hs : ∀ x ∈ items, ∀ st', FraS st st' → ∀ (N : D → Store → Prop) (M : Store → Prop), (∀ r st2, P r → FraS st' st2 → N (.int r) st2) → (∀ st2, FraS st' st2 → M st2) → g x ρ st' fun ρ2 st2 => tt ρ2 st2 fun b st3 => (b = true → te ρ2 st3 N) ∧ (b = false → M st3))
    (hQ : ∀ (rs : List Int) st', rs.length ≤ items.length → (∀ r ∈ rs, P r) → FraS st st' → rdL st' st.length (rs.map D.int) → Q (.ref st.length) st') : lcLoop gd g tt te ρ st.length Q items [] (st ++ [.lst []]) := by
  have h2 := hd.lt
  refine lc_by (fun pre acc st' => ∃ rs : List Int, acc = rs.map D.int ∧ rs.length ≤ pre.length ∧ (∀ r ∈ rs, P r) ∧ FraS st st' ∧ rdL st' st.length acc) ⟨[], rfl, Nat.le_refl _, by simp, (FraS.refl hd).app, rdL_new⟩ (fun pre x post acc st' e ⟨rs, h1, h3, h4, h5, h6⟩ N M hN hM => ?_) (fun acc st' ⟨rs, h1, h3, h4, h5, h6⟩ => ?_)
  · subst h1
    refine ⟨hg _ h5, ?_⟩
    have hlen := congrArg List.length e
    simp at hlen
    refine hs x (by rw [e]; simp) st' h5 N M (fun r st2 hr f => ?_) fun st2 f => hM _ (f.rd h6 (by omega)) ⟨rs, rfl, by simp; omega, h4, h5.trans f, f.rd h6 (by omega)⟩
    have h7 := f.rd h6 (by omega)
    refine hN _ _ h7 (by simp; omega) ⟨rs ++ [r], by simp, by simp [h3], ?_, (h5.trans f).set (Nat.le_refl _) (by omega), rdL_set h7⟩
    intro y hy
    rcases List.mem_append.mp hy with hy | hy
    · exact h4 y hy
    · simp at hy; subst hy; exact hr
  · subst h1
    exact ⟨hg _ h5, h6, hQ rs st' h3 h4 h5 h6⟩
end Pd
end PartPdSrc

section PartPdNodes
set_option Elab.async false
set_option linter.all false
set_option maxRecDepth 100000
set_option maxHeartbeats 1000000
/-! Pd: sheets of nodes, plain: operations, nodes, values, widths. Own work. -/
namespace Pd
open PySem
local macro_rules | `(tactic| walk_at "s") => `(tactic| (repeat (refine Red.red ?_)))
inductive Op where | not | neg | wide | pick | add | sub | mul | and | or | xor | shl | shr | div | rem | eq | ne | lt | le
def opS : Op → Str
  | .not => "not"
  | .neg => "neg"
  | .wide => "wide"
  | .pick => "pick"
  | .add => "+"
  | .sub => "-"
  | .mul => "*"
  | .and => "&"
  | .or => "|"
  | .xor => "^"
  | .shl => "<<"
  | .shr => ">>"
  | .div => "div"
  | .rem => "rem"
  | .eq => "=="
  | .ne => "!="
  | .lt => "<"
  | .le => "<="
def v1 : Op → Int → Int → Int
  | .not, w, l => fullI w - l
  | .neg, w, l => Builtin.bitAnd (-l) (fullI w)
  | _, w, l => Builtin.bitAnd l (fullI w)
def v2 : Op → Int → Int → Int → Int
  | .add, w, l, r => Builtin.bitAnd (l + r) (fullI w)
  | .sub, w, l, r => Builtin.bitAnd (l - r) (fullI w)
  | .mul, w, l, r => Builtin.bitAnd (l * r) (fullI w)
  | .and, w, l, r => Builtin.bitAnd (Builtin.bitAnd l r) (fullI w)
  | .or, w, l, r => Builtin.bitAnd (Builtin.bitOr l r) (fullI w)
  | .xor, w, l, r => Builtin.bitAnd (Builtin.bitXor l r) (fullI w)
  | .shl, w, l, r => if w ≤ r then 0 else Builtin.bitAnd (l * 2 ^ r.toNat) (fullI w)
  | .shr, w, l, r => if w ≤ r then 0 else l / 2 ^ r.toNat
  | .div, w, l, r => if r = 0 then 0 else l / r
  | .rem, w, l, r => if r = 0 then 0 else l - r * (l / r)
  | .eq, w, l, r => b2i (decide (l = r))
  | .ne, w, l, r => b2i (!decide (l = r))
  | .lt, w, l, r => b2i (decide (l < r))
  | _, w, l, r => b2i (decide (l ≤ r))
def one : Op → Bool
  | .not => true
  | .neg => true
  | .wide => true
  | _ => false
def two : Op → Bool
  | .not => false
  | .neg => false
  | .wide => false
  | .pick => false
  | _ => true
section
variable {w l r a b : Int}
theorem full1 (w0 : 1 ≤ w) (w1 : w ≤ 8) : 1 * 2 ^ w.toNat - 1 = fullI w := by rw [Int.one_mul]; rfl
theorem mask_in {x : Int} (h0 : 0 ≤ x) (h1 : x ≤ fullI w) : Builtin.bitAnd x (fullI w) = x := by
  unfold fullI at *
  rw [and_maskZ, Int.emod_eq_of_lt h0 (by omega)]
theorem not_mask (h0 : 0 ≤ l) (h1 : l ≤ fullI w) : Builtin.bitAnd (-l - 1) (fullI w) = fullI w - l := by
  unfold fullI at *
  rw [and_maskZ]
  have e : -l - 1 = (2 ^ w.toNat - 1 - l) + 2 ^ w.toNat * (-1) := by rw [Int.mul_neg, Int.mul_one]; omega
  rw [e, Int.add_mul_emod_self_left, Int.emod_eq_of_lt (by omega) (by omega)]
theorem nat_of {x : Int} (h : 0 ≤ x) : ∃ n : Nat, x = (n : Int) := ⟨x.toNat, by omega⟩
theorem fullN {w : Int} : fullI w = ((2 ^ w.toNat - 1 : Nat) : Int) := by
  unfold fullI
  have := Nat.two_pow_pos w.toNat
  have c : ((2 : Int) ^ w.toNat) = ((2 ^ w.toNat : Nat) : Int) := by simp
  rw [c]; omega
theorem andN (m n : Nat) : Builtin.bitAnd (m : Int) (n : Int) = ((m &&& n : Nat) : Int) := by
  unfold Builtin.bitAnd
  have h1 : (0 : Int) ≤ m := by omega
  have h2 : (0 : Int) ≤ n := by omega
  simp only [h1, h2, decide_true, Int.toNat_natCast]
theorem notN (m : Nat) : Builtin.bitNot (m : Int) = -(m : Int) - 1 := rfl
theorem orN (m n : Nat) : Builtin.bitOr (m : Int) (n : Int) = ((m ||| n : Nat) : Int) := by
  unfold Builtin.bitOr Builtin.bitNot Builtin.bitAnd
  have h1 : ¬ ((0 : Int) ≤ -(m : Int) - 1) := by omega
  have h2 : ¬ ((0 : Int) ≤ -(n : Int) - 1) := by omega
  simp only [h1, h2, decide_false]
  unfold Builtin.bitNot
  have e1 : (-(-(m : Int) - 1) - 1).toNat = m := by omega
  have e2 : (-(-(n : Int) - 1) - 1).toNat = n := by omega
  rw [e1, e2]
  omega
theorem or_le {m n k : Nat} (h1 : m < 2 ^ k) (h2 : n < 2 ^ k) : m ||| n < 2 ^ k := Nat.or_lt_two_pow h1 h2
theorem xorN (m n : Nat) : ∃ z : Nat, Builtin.bitXor (m : Int) (n : Int) = (z : Int) ∧ z ≤ m ||| n := by
  unfold Builtin.bitXor
  rw [orN, andN]
  have h : m &&& n ≤ m ||| n := Nat.le_trans Nat.and_le_left Nat.left_le_or
  exact ⟨(m ||| n) - (m &&& n), by omega, Nat.sub_le _ _⟩
theorem bits_in (l0 : 0 ≤ l) (l1 : l ≤ fullI w) (r0 : 0 ≤ r) (r1 : r ≤ fullI w) : v2 .and w l r = Builtin.bitAnd l r ∧ v2 .or w l r = Builtin.bitOr l r ∧ v2 .xor w l r = Builtin.bitXor l r := by
  obtain ⟨m, rfl⟩ := nat_of l0
  obtain ⟨n, rfl⟩ := nat_of r0
  have hp := Nat.two_pow_pos w.toNat
  have hf := fullN (w := w)
  have hm : m < 2 ^ w.toNat := by omega
  have hn : n < 2 ^ w.toNat := by omega
  have h1 : m &&& n < 2 ^ w.toNat := Nat.lt_of_le_of_lt Nat.and_le_left hm
  have h2 : m ||| n < 2 ^ w.toNat := or_le hm hn
  obtain ⟨z, hz, hz2⟩ := xorN m n
  refine ⟨?_, ?_, ?_⟩
  · show Builtin.bitAnd (Builtin.bitAnd _ _) _ = _
    rw [andN]; exact mask_in (by omega) (by omega)
  · show Builtin.bitAnd (Builtin.bitOr _ _) _ = _
    rw [orN]; exact mask_in (by omega) (by omega)
  · show Builtin.bitAnd (Builtin.bitXor _ _) _ = _
    rw [hz]; exact mask_in (by omega) (by omega)
theorem shl_big (w0 : 1 ≤ w) (w1 : w ≤ 8) (h : w ≤ r) : Builtin.bitAnd (l * 2 ^ (if 8 < r then 8 else r).toNat) (fullI w) = 0 := by
  unfold fullI
  rw [and_maskZ]
  have h1 : w.toNat ≤ (if 8 < r then 8 else r).toNat := by split <;> omega
  obtain ⟨j, hj⟩ := Nat.exists_eq_add_of_le h1
  rw [hj, Int.pow_add, ← Int.mul_assoc, Int.mul_comm l, Int.mul_assoc]
  exact Int.mul_emod_right _ _
theorem shr_big (w0 : 1 ≤ w) (w1 : w ≤ 8) (l0 : 0 ≤ l) (l1 : l ≤ fullI w) (h : w ≤ r) : l / 2 ^ (if 8 < r then 8 else r).toNat = 0 := by
  have h1 : w.toNat ≤ (if 8 < r then 8 else r).toNat := by split <;> omega
  have h2 := Nat.pow_le_pow_right (n := 2) (by decide) h1
  have c : ∀ n : Nat, ((2 : Int) ^ n) = ((2 ^ n : Nat) : Int) := fun n => by simp
  unfold fullI at l1
  rw [c] at l1
  rw [c]
  exact Int.ediv_eq_zero_of_lt l0 (by omega)
theorem min_small (h : ¬ w ≤ r) (w1 : w ≤ 8) : (if 8 < r then 8 else r) = r := if_neg (by omega)
end
inductive Nd where
  | word (w v : Int)
  | inp (w : Int) (i : Nat)
  | one (o : Op) (w : Int) (a : Nat)
  | two (o : Op) (w : Int) (a b : Nat)
  | pick (w : Int) (c a b : Nat)
namespace Nd
def wd : Nd → Int
  | word w _ => w
  | inp w _ => w
  | one _ w _ => w
  | two _ w _ _ => w
  | pick w _ _ _ => w
def dat : Nd → D
  | word w v => .tup [.str (Str.ofString "word"), .int w, .int v]
  | inp w i => .tup [.str (Str.ofString "input"), .int w, .int i]
  | one o w a => .tup [.str (opS o), .int w, .int a]
  | two o w a b => .tup [.str (opS o), .int w, .int a, .int b]
  | pick w c a b => .tup [.str (opS .pick), .int w, .int c, .int a, .int b]
end Nd
def cmp : Op → Bool
  | .eq => true
  | .ne => true
  | .lt => true
  | .le => true
  | _ => false
def shf : Op → Bool
  | .shl => true
  | .shr => true
  | _ => false
def Has (ws : List Int) (a : Nat) (w : Int) : Prop := ws[a]? = some w
def Good (ws : List Int) : Nd → Prop
  | .word w v => 1 ≤ w ∧ w ≤ 8 ∧ 0 ≤ v ∧ v ≤ fullI w
  | .inp w i => 1 ≤ w ∧ w ≤ 8 ∧ i ≤ 300
  | .one o w a => 1 ≤ w ∧ w ≤ 8 ∧ Pd.one o = true ∧ ∃ u, Has ws a u ∧ (o ≠ .wide → u = w)
  | .two o w a b => 1 ≤ w ∧ w ≤ 8 ∧ Pd.two o = true ∧ ∃ u v, Has ws a u ∧ Has ws b v ∧ (cmp o = true → w = 1) ∧ (cmp o = false → u = w) ∧ (cmp o = false → shf o = false → v = w)
  | .pick w c a b => 1 ≤ w ∧ w ≤ 8 ∧ Has ws c 1 ∧ Has ws a w ∧ Has ws b w
inductive Sheet : List Nd → Prop
  | nil : Sheet []
  | snoc {ns : List Nd} {x : Nd} : Sheet ns → Good (ns.map Nd.wd) x → Sheet (ns ++ [x])
def val (is : List Int) (vs : List Int) : Nd → Int
  | .word _ v => v
  | .inp w i => if i < is.length then Builtin.bitAnd (is.getD i 0) (fullI w) else 0
  | .one o w a => v1 o w (vs.getD a 0)
  | .two o w a b => v2 o w (vs.getD a 0) (vs.getD b 0)
  | .pick _ c a b => if vs.getD c 0 = 1 then vs.getD a 0 else vs.getD b 0
def vals (is : List Int) (ns : List Nd) : List Int := ns.foldl (fun vs x => vs ++ [val is vs x]) []
theorem vals_snoc (is : List Int) (ns : List Nd) (x : Nd) : vals is (ns ++ [x]) = vals is ns ++ [val is (vals is ns) x] := by
  unfold vals
  rw [List.foldl_append]
  rfl
/-- values within the widths -/
def Fits (ws vs : List Int) : Prop := ∀ (a : Nat) (w : Int), ws[a]? = some w → ∃ v : Int, vs[a]? = some v ∧ 0 ≤ v ∧ v ≤ fullI w
theorem and_in (x w : Int) : 0 ≤ Builtin.bitAnd x (fullI w) ∧ Builtin.bitAnd x (fullI w) ≤ fullI w := by
  unfold fullI
  rw [and_maskZ]
  have h : (0 : Int) < 2 ^ w.toNat := Int.pow_pos (by decide)
  have h1 := Int.emod_nonneg x (Int.ne_of_gt h)
  have h2 := Int.emod_lt_of_pos x h
  omega
theorem b2i_in (b : Bool) : 0 ≤ b2i b ∧ b2i b ≤ fullI 1 := by cases b <;> decide
theorem v1_in {o : Op} {w l : Int} (l0 : 0 ≤ l) (l1 : o ≠ .wide → l ≤ fullI w) : 0 ≤ v1 o w l ∧ v1 o w l ≤ fullI w := by
  cases o
  case not =>
    have := l1 (by intro h; cases h)
    show 0 ≤ fullI w - l ∧ fullI w - l ≤ fullI w
    omega
  all_goals exact and_in _ w
theorem v2_in {o : Op} {w l r : Int} (l0 : 0 ≤ l) (r0 : 0 ≤ r) (l1 : cmp o = false → l ≤ fullI w) (hc : cmp o = true → w = 1) (ho : two o = true) : 0 ≤ v2 o w l r ∧ v2 o w l r ≤ fullI w := by
  have hw : 0 ≤ fullI w := by
    have h : (0 : Int) < 2 ^ w.toNat := Int.pow_pos (by decide)
    unfold fullI; omega
  have pw : (0 : Int) < 2 ^ r.toNat := Int.pow_pos (by decide)
  cases o <;> try (cases ho; done)
  case add => exact and_in _ w
  case sub => exact and_in _ w
  case mul => exact and_in _ w
  case and => exact and_in _ w
  case or => exact and_in _ w
  case xor => exact and_in _ w
  case shl =>
    show 0 ≤ (if w ≤ r then _ else _) ∧ (if w ≤ r then _ else _) ≤ fullI w
    split
    · exact ⟨by decide, hw⟩
    · exact and_in _ w
  case shr =>
    show 0 ≤ (if w ≤ r then _ else _) ∧ (if w ≤ r then _ else _) ≤ fullI w
    split
    · exact ⟨by decide, hw⟩
    · have h1 := Int.ediv_nonneg l0 (Int.le_of_lt pw)
      have h2 := Int.ediv_le_self (2 ^ r.toNat) l0
      have := l1 rfl
      omega
  case div =>
    show 0 ≤ (if r = 0 then _ else _) ∧ (if r = 0 then _ else _) ≤ fullI w
    split
    · exact ⟨by decide, hw⟩
    · have h1 := Int.ediv_nonneg l0 r0
      have h2 := Int.ediv_le_self r l0
      have := l1 rfl
      omega
  case rem =>
    show 0 ≤ (if r = 0 then _ else _) ∧ (if r = 0 then _ else _) ≤ fullI w
    split
    · exact ⟨by decide, hw⟩
    · rename_i hr
      have h0 : l - r * (l / r) = l % r := (Int.emod_def l r).symm
      have h1 := Int.emod_nonneg l hr
      have h3 : 0 ≤ r * (l / r) := Int.mul_nonneg r0 (Int.ediv_nonneg l0 r0)
      have := l1 rfl
      omega
  all_goals
    rw [hc rfl]
    exact b2i_in _
theorem fits_val {ws vs is : List Int} {x : Nd} (h : Fits ws vs) (g : Good ws x) (hi : ∀ i, i ∈ is → 0 ≤ i) : 0 ≤ val is vs x ∧ val is vs x ≤ fullI x.wd := by
  have gd : ∀ {a : Nat} {w : Int}, Has ws a w → 0 ≤ vs.getD a 0 ∧ vs.getD a 0 ≤ fullI w := by
    intro a w ha
    obtain ⟨v, e, h0, h1⟩ := h a w ha
    rw [List.getD_eq_getElem?_getD, e]
    exact ⟨h0, h1⟩
  cases x with
  | word w v => exact ⟨g.2.2.1, g.2.2.2⟩
  | inp w i =>
    show 0 ≤ (if i < is.length then _ else _) ∧ (if i < is.length then _ else _) ≤ fullI w
    split
    · exact and_in _ w
    · exact ⟨by decide, Int.le_trans (and_in 0 w).1 (and_in 0 w).2⟩
  | one o w a =>
    obtain ⟨w0, w1, ho, u, ha, hu⟩ := g
    have := gd ha
    exact v1_in this.1 (fun hne => by rw [← hu hne]; exact this.2)
  | two o w a b =>
    obtain ⟨w0, w1, ho, u, v, ha, hb, h1, h2, h3⟩ := g
    have A := gd ha
    have B := gd hb
    exact v2_in A.1 B.1 (fun hc => by rw [← h2 hc]; exact A.2) h1 ho
  | pick w c a b =>
    obtain ⟨w0, w1, hc, ha, hb⟩ := g
    show 0 ≤ (if vs.getD c 0 = 1 then _ else _) ∧ (if vs.getD c 0 = 1 then _ else _) ≤ fullI w
    split
    · exact gd ha
    · exact gd hb
theorem vals_len (is : List Int) {ns : List Nd} (h : Sheet ns) : (vals is ns).length = ns.length := by
  induction h with
  | nil => rfl
  | snoc h g ih => rw [vals_snoc, List.length_append, List.length_append, ih]; rfl
theorem fits_all (is : List Int) (hi : ∀ i, i ∈ is → 0 ≤ i) {ns : List Nd} (h : Sheet ns) : Fits (ns.map Nd.wd) (vals is ns) := by
  induction h with
  | nil => intro a w ha; cases ha
  | @snoc ns x h g ih =>
    intro a w ha
    rw [vals_snoc]
    rw [List.map_append] at ha
    have hl := vals_len is h
    by_cases e : a < ns.length
    · rw [List.getElem?_append_left (by simpa using e)] at ha
      rw [List.getElem?_append_left (by omega)]
      exact ih a w ha
    · rw [List.getElem?_append_right (by simpa using e)] at ha
      rw [List.getElem?_append_right (by omega)]
      have ea : a = ns.length := by
        have := (List.getElem?_eq_some_iff.1 ha).1
        simp only [List.length_map, List.length_cons, List.length_nil] at this
        omega
      subst ea
      rw [List.length_map, Nat.sub_self] at ha
      rw [hl, Nat.sub_self]
      have e' : x.wd = w := by simpa using ha
      subst e'
      exact ⟨_, rfl, fits_val ih g hi⟩
theorem Sheet.pre {ns : List Nd} (S : Sheet ns) {j : Nat} {x : Nd} (hx : ns[j]? = some x) : Sheet (ns.take j) ∧ Good ((ns.take j).map Nd.wd) x := by
  induction S with
  | nil => cases hx
  | @snoc ns y h g ih =>
    by_cases e : j < ns.length
    · rw [List.getElem?_append_left e] at hx
      rw [List.take_append_of_le_length (by omega)]
      exact ih hx
    · have hj := (List.getElem?_eq_some_iff.1 hx).1
      simp only [List.length_append, List.length_cons, List.length_nil] at hj
      have ej : j = ns.length := by omega
      subst ej
      rw [List.getElem?_append_right (Nat.le_refl _), Nat.sub_self] at hx
      cases hx
      rw [List.take_append_of_le_length (Nat.le_refl _), List.take_length]
      exact ⟨h, g⟩
theorem vals_take {is : List Int} {ns : List Nd} {j : Nat} {x : Nd} (hx : ns[j]? = some x) : vals is (ns.take (j + 1)) = vals is (ns.take j) ++ [val is (vals is (ns.take j)) x] := by
  rw [List.take_add_one, hx]
  exact vals_snoc _ _ _
theorem ix_refN {st : Store} {n a : Nat} {vs : List Int} {Q : K} (h : rdL st n (vs.map D.int)) (ha : a < vs.length) (q : Q (.int (vs.getD a 0)) st) : ixK (.ref n) (.int (a : Int)) st Q := by
  refine ⟨vs.map D.int, .int (vs.getD a 0), .inl h, ?_, q⟩
  unfold atD
  simp only [List.length_map]
  have e1 : ¬ ((a : Int) < 0) := by omega
  simp [e1, List.getD_eq_getElem?_getD, List.getElem?_eq_getElem ha, ha]
theorem opS_w (o : Op) : okS (opS o) = true ∧ decide (opS o = Str.ofString "word") = false ∧ decide (opS o = Str.ofString "input") = false := by
  cases o <;> exact ⟨by decide +kernel, by decide +kernel, by decide +kernel⟩
theorem Sheet.wid {ns : List Nd} (S : Sheet ns) : ∀ (a : Nat) (w : Int), Has (ns.map Nd.wd) a w → 1 ≤ w ∧ w ≤ 8 := by
  induction S with
  | nil => intro a w h; cases h
  | @snoc ns x h g ih =>
    intro a w ha
    unfold Has at ha
    rw [List.map_append] at ha
    by_cases e : a < ns.length
    · rw [List.getElem?_append_left (by simpa using e)] at ha
      exact ih a w ha
    · rw [List.getElem?_append_right (by simpa using e)] at ha
      have e' := List.mem_of_getElem? ha
      simp at e'
      subst e'
      cases x <;> exact ⟨g.1, g.2.1⟩
theorem le255 {ns : List Nd} (S : Sheet ns) {a : Nat} {w z : Int} (ha : Has (ns.map Nd.wd) a w) (h : z ≤ fullI w) : z ≤ 255 := by
  have := S.wid a w ha
  have := fullI_bd (w := w) (by omega) this.2
  omega
def parts : Nd → List Nat
  | .one _ _ a => [a]
  | .two _ _ a b => [a, b]
  | .pick _ c a b => [c, a, b]
  | _ => []
theorem lc_parts {gd : Store → Prop} {ρ : Env} {te : TE} {g : TG} {st : Store} {Q : K} {vs : List Int} {n : Nat} (ps : List Nat) (h : rdL st n (vs.map D.int)) (hp : ∀ a ∈ ps, a < vs.length) (hl : ps.length ≤ 3) (hg : ∀ acc, gd (st ++ [.lst acc]))
    (hs : ∀ a, a ∈ ps → ∀ (acc : List D) (N : D → Store → Prop), rdL (st ++ [.lst acc]) n (vs.map D.int) → N (.int (vs.getD a 0)) (st ++ [.lst acc]) → g (.int (a : Int)) ρ (st ++ [.lst acc]) fun ρ2 st2 => te ρ2 st2 N)
    (hd : Q (.ref st.length) (st ++ [.lst (ps.map fun (a : Nat) => D.int (vs.getD a 0))])) : lcLoop gd g tYes te ρ st.length Q (ps.map fun (a : Nat) => D.int (a : Int)) [] (st ++ [.lst []]) :=
  lc_map ps (fun (a : Nat) => D.int (a : Int)) (fun (a : Nat) => D.int (vs.getD a 0)) rfl (by unfold szl; omega) hg (fun a ha acc N hN => hs a ha acc N (rdL_app h) hN) hd
theorem vals_pre (is : List Int) {ns : List Nd} (S : Sheet ns) (j : Nat) : vals is (ns.take j) = (vals is ns).take j := by
  induction S with
  | nil => rw [List.take_nil]; exact (List.take_nil).symm
  | @snoc ns x h g ih =>
    have hl := vals_len is h
    rw [vals_snoc]
    by_cases e : j ≤ ns.length
    · rw [List.take_append_of_le_length e, List.take_append_of_le_length (by omega), ih]
    · rw [List.take_of_length_le (by simp; omega), List.take_of_length_le (by simp; omega), vals_snoc]
theorem Sheet.take {ns : List Nd} (S : Sheet ns) (j : Nat) : Sheet (ns.take j) := by
  by_cases e : j < ns.length
  · exact (S.pre (List.getElem?_eq_getElem e)).1
  · rw [List.take_of_length_le (by omega)]; exact S
theorem at_int {vs : List Int} {t : Nat} (h : t < vs.length) : atD (vs.map D.int) (t : Int) = some (.int (vs.getD t 0)) := by
  unfold atD
  rw [if_pos (by omega), Int.toNat_natCast, List.getElem?_map, List.getElem?_eq_getElem h, List.getD_eq_getElem?_getD, List.getElem?_eq_getElem h]
  rfl
theorem zip_self (vs : List Int) : zipD (vs.map D.int) (vs.map D.int) = vs.map fun v => .tup [.int v, .int v] := by
  induction vs with
  | nil => rfl
  | cons v vs ih => exact congrArg (_ :: ·) ih
theorem ix_ref {st : Store} {n : Nat} {xs : List D} {d : D} {i : Int} {Q : K} (h : rdL st n xs) (h' : atD xs i = some d) (q : Q d st) : ixK (.ref n) (.int i) st Q := ⟨xs, d, .inl h, h', q⟩
theorem tru_ref {st : Store} {n : Nat} {xs : List D} {r : Bool → Prop} (h : rdL st n xs) (q : r (!xs.isEmpty)) : truK (.ref n) st r := ⟨xs, .inl h, q⟩
theorem seq_J {S S' : TS} {D0 : Ends} {σ : Env} {st : Store} (J : Env → Store → Prop) (h : ∀ N : Env → Store → Prop, (∀ σ' st', J σ' st' → N σ' st') → S { D0 with nx := N } σ st) (hJ : ∀ σ' st', J σ' st' → S' D0 σ' st') : sSeq S S' D0 σ st :=
  h _ fun σ' st' e => Nxt.mk (hJ σ' st' e)
theorem dat_wd (x : Nd) : ∃ s ps, x.dat = .tup (s :: .int x.wd :: ps) := by cases x <;> exact ⟨_, _, rfl⟩
theorem at_nd {ns : List Nd} {a : Nat} (h : a < ns.length) : atD (ns.map Nd.dat) (a : Int) = some (ns[a]).dat := by
  unfold atD
  rw [if_pos (by omega), Int.toNat_natCast, List.getElem?_map, List.getElem?_eq_getElem h]
  rfl
theorem wd_at {x : Nd} {st : Store} {Q : K} (q : Q (.int x.wd) st) : ixK x.dat (.int 1) st Q := by
  obtain ⟨s, ps, e⟩ := dat_wd x
  rw [e]
  exact ⟨.int x.wd, rfl, q⟩
def mates (ns : List Nd) (w : Int) : List Nat := (List.range ns.length).filter fun i => decide (((ns[i]?).map Nd.wd).getD 0 = w)
theorem mate_has {ns : List Nd} {w : Int} {i : Nat} (h : i ∈ mates ns w) : i < ns.length ∧ Has (ns.map Nd.wd) i w := by
  unfold mates at h
  rw [List.mem_filter, List.mem_range] at h
  obtain ⟨h1, h2⟩ := h
  refine ⟨h1, ?_⟩
  unfold Has
  rw [List.getElem?_map]
  rw [List.getElem?_eq_getElem h1] at h2 ⊢
  have := of_decide_eq_true h2
  exact congrArg some this
theorem has_wd {ns : List Nd} {a : Nat} (h : a < ns.length) : Has (ns.map Nd.wd) a (ns[a]).wd := by
  unfold Has
  rw [List.getElem?_map, List.getElem?_eq_getElem h]
  rfl
theorem self_mate {ns : List Nd} {a : Nat} (h : a < ns.length) : a ∈ mates ns (ns[a]).wd := by
  unfold mates
  rw [List.mem_filter, List.mem_range]
  refine ⟨h, ?_⟩
  rw [List.getElem?_eq_getElem h]
  exact decide_eq_true rfl
def n0 (i : Nat) : D := .int (0 + (i : Int))
theorem n0_eq (i : Nat) : n0 i = .int (i : Int) := by unfold n0; rw [Int.zero_add]
theorem lc_mates {te : TE} {tt : TT} {g : TG} {ρ : Env} {st : Store} {Q : K} {ns : List Nd} (w : Int) (hl : ns.length ≤ 200)
    (hs : ∀ (i : Nat) (hi : i < ns.length) (acc : List D) (N : D → Store → Prop) (M : Store → Prop), (decide ((ns[i]).wd = w) = true → N (n0 i) (st ++ [.lst acc])) → (decide ((ns[i]).wd = w) = false → M (st ++ [.lst acc])) → g (n0 i) ρ (st ++ [.lst acc]) fun ρ2 st2 => tt ρ2 st2 fun b st3 => (b = true → te ρ2 st3 N) ∧ (b = false → M st3))
    (hd : Q (.ref st.length) (st ++ [.lst ((mates ns w).map n0)])) : lcLoop (fun _ => True) g tt te ρ st.length Q (rng 0 (ns.length : Int).toNat) [] (st ++ [.lst []]) := by
  refine lc_filter (List.range ns.length) n0 n0 (fun i => decide (((ns[i]?).map Nd.wd).getD 0 = w)) rfl (by simp [szl]; omega) (fun _ => trivial) (fun i hi acc N M hN hM => ?_) hd
  have h1 := List.mem_range.mp hi
  rw [List.getElem?_eq_getElem h1] at hN hM
  exact hs i h1 acc N M hN hM
theorem opS_ok (o : Op) : okS (opS o) = true := by cases o <;> decide +kernel
theorem dat_ok (x : Nd) : D.okd 60 x.dat = true := by
  have hw : okS (Str.ofString "word") = true := by decide +kernel
  have hi : okS (Str.ofString "input") = true := by decide +kernel
  cases x <;> simp [Nd.dat, D.okd, okds, opS_ok, hw, hi]
theorem dats_ok (ns : List Nd) : okds 60 (ns.map Nd.dat) = true := by
  rw [okds_all, List.all_eq_true]
  intro d hd
  obtain ⟨x, _, rfl⟩ := List.mem_map.mp hd
  exact dat_ok x
theorem notin_at {st : Store} {n : Nat} {xs : List D} {x : D} {r : Bool → Prop} (h : rdL st n xs) (hx : D.okd 60 x = true) (hxs : okds 60 xs = true) (q : r (!(xs.any fun y => D.eqb y x))) : notinDC x (.ref n) st r := ⟨xs, .inl h, hx, hxs, q⟩
end Pd
end PartPdNodes

section PartPdk13B
set_option linter.all false
set_option maxRecDepth 100000
namespace Pk13
open PySem Pd
def b_p_widths_of (c : Cl) : TS := sRet (dB tupleB (aCons (dLc (iSeq (dOp ixK (dVar 0) (dC (.int 2)))) (gTup (gsCons (gName 1) (gsCons (gName 2) (gsNil))) 2) (tYes) (dVar 2) [1, 2]) (aNil)))
def b_p_operands_of (c : Cl) : TS := sSeq (sIf (tTru (dCmp inC (dOp ixK (dVar 0) (dC (.int 0))) (dTup (aCons (dC (.str "word")) (aCons (dC (.str "name")) (aCons (dC (.str "field")) (aCons (dC (.str "null")) (aNil)))))))) (sRet (dLst (aNil))) (sNext)) (sSeq (sIf (tTru (dCmp eqC (dOp ixK (dVar 0) (dC (.int 0))) (dC (.str "item")))) (sRet (dLst (aCons (dOp ixK (dVar 0) (dC (.int 2))) (aNil)))) (sNext)) (sSeq (sIf (tTru (dCmp eqC (dOp ixK (dVar 0) (dC (.int 0))) (dC (.str "wide")))) (sRet (dLst (aCons (dOp ixK (dVar 0) (dC (.int 1))) (aNil)))) (sNext)) (sRet (dB listB (aCons (dSl (dVar 0) (oSome (dC (.int 1))) (oNone)) (aNil))))))
def b_p_greatest (c : Cl) : TS := sRet (dOp subK (dOp shlK (dC (.int 1)) (dVar 0)) (dC (.int 1)))
def b_p_related (c : Cl) : TS := sSeq (sIf (tTru (dCmp eqC (dVar 0) (dC (.str "==")))) (sRet (dB intB (aCons (dCmp eqC (dVar 1) (dVar 2)) (aNil)))) (sNext)) (sSeq (sIf (tTru (dCmp eqC (dVar 0) (dC (.str "!=")))) (sRet (dB intB (aCons (dCmp neC (dVar 1) (dVar 2)) (aNil)))) (sNext)) (sSeq (sIf (tTru (dCmp eqC (dVar 0) (dC (.str "<")))) (sRet (dB intB (aCons (dCmp ltC (dVar 1) (dVar 2)) (aNil)))) (sNext)) (sRet (dB intB (aCons (dCmp leC (dVar 1) (dVar 2)) (aNil))))))
def b_p_shifted (c : Cl) : TS := sSeq (sIf (tTru (dCmp geC (dVar 3) (dVar 1))) (sRet (dC (.int 0))) (sNext)) (sSeq (sIf (tTru (dCmp eqC (dVar 0) (dC (.str "<<")))) (sRet (dOp andK (dOp shlK (dVar 2) (dVar 3)) (dCall c "greatest" (aCons (dVar 1) (aNil))))) (sNext)) (sRet (dOp shrK (dVar 2) (dVar 3))))
def b_p_divided (c : Cl) : TS := sSeq (sIf (tTru (dCmp eqC (dVar 2) (dC (.int 0)))) (sRet (dC (.int 0))) (sNext)) (sSeq (sIf (tTru (dCmp eqC (dVar 0) (dC (.str "div")))) (sRet (dOp fdivK (dVar 1) (dVar 2))) (sNext)) (sRet (dOp subK (dVar 1) (dOp mulK (dVar 2) (dOp fdivK (dVar 1) (dVar 2))))))
def b_p_reckoned (c : Cl) : TS := sSeq (sIf (tTru (dCmp eqC (dVar 0) (dC (.str "+")))) (sRet (dOp addK (dVar 1) (dVar 2))) (sNext)) (sSeq (sIf (tTru (dCmp eqC (dVar 0) (dC (.str "-")))) (sRet (dOp subK (dVar 1) (dVar 2))) (sNext)) (sSeq (sIf (tTru (dCmp eqC (dVar 0) (dC (.str "*")))) (sRet (dOp mulK (dVar 1) (dVar 2))) (sNext)) (sSeq (sIf (tTru (dCmp eqC (dVar 0) (dC (.str "&")))) (sRet (dOp andK (dVar 1) (dVar 2))) (sNext)) (sSeq (sIf (tTru (dCmp eqC (dVar 0) (dC (.str "|")))) (sRet (dOp orK (dVar 1) (dVar 2))) (sNext)) (sRet (dOp xorK (dVar 1) (dVar 2)))))))
def b_p_result (c : Cl) : TS := sSeq (sAsg (dOp ixK (dVar 2) (dC (.int 0))) (gName 3)) (sSeq (sIf (tTru (dCmp eqC (dVar 0) (dC (.str "not")))) (sRet (dOp subK (dCall c "greatest" (aCons (dVar 1) (aNil))) (dVar 3))) (sNext)) (sSeq (sIf (tTru (dCmp eqC (dVar 0) (dC (.str "neg")))) (sRet (dOp andK (dUn negK (dVar 3)) (dCall c "greatest" (aCons (dVar 1) (aNil))))) (sNext)) (sSeq (sIf (tTru (dCmp eqC (dVar 0) (dC (.str "wide")))) (sRet (dOp andK (dVar 3) (dCall c "greatest" (aCons (dVar 1) (aNil))))) (sNext)) (sSeq (sIf (tTru (dCmp eqC (dVar 0) (dC (.str "pick")))) (sRet (dIf (tTru (dCmp eqC (dVar 3) (dC (.int 1)))) (dOp ixK (dVar 2) (dC (.int 1))) (dOp ixK (dVar 2) (dC (.int 2))))) (sNext)) (sSeq (sAsg (dOp ixK (dVar 2) (dC (.int 1))) (gName 4)) (sSeq (sIf (tTru (dCmp inC (dVar 0) (dTup (aCons (dC (.str "==")) (aCons (dC (.str "!=")) (aCons (dC (.str "<")) (aCons (dC (.str "<=")) (aNil)))))))) (sRet (dCall c "related" (aCons (dVar 0) (aCons (dVar 3) (aCons (dVar 4) (aNil)))))) (sNext)) (sSeq (sIf (tTru (dCmp inC (dVar 0) (dTup (aCons (dC (.str "<<")) (aCons (dC (.str ">>")) (aNil)))))) (sRet (dCall c "shifted" (aCons (dVar 0) (aCons (dVar 1) (aCons (dVar 3) (aCons (dVar 4) (aNil))))))) (sNext)) (sSeq (sIf (tTru (dCmp inC (dVar 0) (dTup (aCons (dC (.str "div")) (aCons (dC (.str "rem")) (aNil)))))) (sRet (dCall c "divided" (aCons (dVar 0) (aCons (dVar 3) (aCons (dVar 4) (aNil)))))) (sNext)) (sRet (dOp andK (dCall c "reckoned" (aCons (dVar 0) (aCons (dVar 3) (aCons (dVar 4) (aNil))))) (dCall c "greatest" (aCons (dVar 1) (aNil)))))))))))))
def b_p_contract_word (c : Cl) : TS := sSeq (sAsg (dOp ixK (dVar 0) (dC (.int 0))) (gName 2)) (sSeq (sIf (tTru (dCmp eqC (dVar 2) (dC (.str "word")))) (sRet (dTup (aCons (dOp ixK (dVar 0) (dC (.int 2))) (aCons (dOp ixK (dVar 0) (dC (.int 1))) (aNil))))) (sNext)) (sSeq (sIf (tTru (dCmp eqC (dVar 2) (dC (.str "name")))) (sRet (dGetA (dVar 1) (dOp ixK (dVar 0) (dC (.int 1))))) (sNext)) (sSeq (sAsg (dLc (iSeq (dCall c "operands_of" (aCons (dVar 0) (aNil)))) (gName 6) (tYes) (dCall c "contract_word" (aCons (dVar 6) (aCons (dVar 1) (aNil)))) [6]) (gName 3)) (sSeq (sAsg (dLc (iSeq (dVar 3)) (gName 6) (tYes) (dOp ixK (dVar 6) (dC (.int 1))) [6]) (gName 4)) (sSeq (sIf (tTru (dCmp eqC (dVar 2) (dC (.str "wide")))) (sRet (dTup (aCons (dOp ixK (dVar 0) (dC (.int 2))) (aCons (dCallS c "result" 2 (aCons (dVar 2) (aCons (dOp ixK (dVar 0) (dC (.int 2))) (aStar (dVar 4) (aNil))))) (aNil))))) (sNext)) (sSeq (sIf (tTru (dCmp eqC (dVar 2) (dC (.str "pick")))) (sRet (dTup (aCons (dOp ixK (dOp ixK (dVar 3) (dC (.int 1))) (dC (.int 0))) (aCons (dCallS c "result" 2 (aCons (dVar 2) (aCons (dOp ixK (dOp ixK (dVar 3) (dC (.int 1))) (dC (.int 0))) (aStar (dVar 4) (aNil))))) (aNil))))) (sNext)) (sSeq (sAsg (dIf (tTru (dCmp inC (dVar 2) (dTup (aCons (dC (.str "==")) (aCons (dC (.str "!=")) (aCons (dC (.str "<")) (aCons (dC (.str "<=")) (aNil)))))))) (dC (.int 1)) (dOp ixK (dOp ixK (dVar 3) (dC (.int 0))) (dC (.int 0)))) (gName 5)) (sRet (dTup (aCons (dVar 5) (aCons (dCallS c "result" 2 (aCons (dVar 2) (aCons (dOp ixK (dOp ixK (dVar 3) (dC (.int 0))) (dC (.int 0))) (aStar (dVar 4) (aNil))))) (aNil))))))))))))
def b_p_asked_names (c : Cl) : TS := sRet (dDc (iZip2 (dOp ixK (dVar 0) (dC (.int 2))) (dVar 1)) (gTup (gsCons (gName 2) (gsCons (gName 3) (gsNil))) 2) (tYes) (dOp ixK (dVar 2) (dC (.int 0))) (dTup (aCons (dOp ixK (dVar 2) (dC (.int 1))) (aCons (dVar 3) (aNil)))) [2, 3])
def b_p_needs_hold (c : Cl) : TS := sRet (dCmp eqC (dOp ixK (dCall c "contract_word" (aCons (dOp ixK (dVar 0) (dC (.int 5))) (aCons (dCall c "asked_names" (aCons (dVar 0) (aCons (dVar 1) (aNil)))) (aNil)))) (dC (.int 1))) (dC (.int 1)))
def b_p_given_words (c : Cl) : TS := sSeq (sAsg (dCall c "asked_names" (aCons (dVar 0) (aCons (dVar 1) (aNil)))) (gName 2)) (sSeq (sAsg (dLst (aNil)) (gName 3)) (sSeq (sFor (iR1 (dOp addK (dCall c "greatest" (aCons (dOp ixK (dVar 0) (dC (.int 3))) (aNil))) (dC (.int 1)))) (gName 4) (sSeq (sAsg (dTup (aCons (dOp ixK (dVar 0) (dC (.int 3))) (aCons (dVar 4) (aNil)))) (gSubD (dVar 2) (dC (.str "result")))) (sIf (tTru (dCmp eqC (dOp ixK (dCall c "contract_word" (aCons (dOp ixK (dVar 0) (dC (.int 6))) (aCons (dVar 2) (aNil)))) (dC (.int 1))) (dC (.int 1)))) (sExpr (dM tyLst appendM (dVar 3) (aCons (dVar 4) (aNil)))) (sNext)))) (sRet (dB tupleB (aCons (dVar 3) (aNil))))))
def b_p_rows_of (c : Cl) : TS := sSeq (sAsg (dLst (aCons (dTup (aNil)) (aNil))) (gName 1)) (sSeq (sFor (iSeq (dVar 0)) (gName 2) (sAsg (dLc2 (iSeq (dVar 1)) (gName 3) (tYes) (iR1 (dOp addK (dCall c "greatest" (aCons (dVar 2) (aNil))) (dC (.int 1)))) (gName 4) (tYes) (dOp addK (dVar 3) (dTup (aCons (dVar 4) (aNil)))) [3, 4] [4]) (gName 1))) (sRet (dVar 1)))
def b_p_unmet (c : Cl) : TS := sSeq (sFor (iSeq (dCall c "rows_of" (aCons (dCall c "widths_of" (aCons (dVar 0) (aNil))) (aNil)))) (gName 1) (sIf (tAnd (tTru (dCall c "needs_hold" (aCons (dVar 0) (aCons (dVar 1) (aNil))))) (tNot (tTru (dCall c "given_words" (aCons (dVar 0) (aCons (dVar 1) (aNil))))))) (sRet (dVar 1)) (sNext))) (sRet (dC .non))
def b_p_let_answers (c : Cl) : TS := sSeq (sIf (tTru (dCmp eqC (dOp ixK (dVar 0) (dC (.int 4))) (dC (.int 1)))) (sFor (iSeq (dVar 2)) (gTup (gsCons (gName 3) (gsCons (gName 4) (gsNil))) 2) (sIf (tTru (dCmp eqC (dVar 3) (dVar 1))) (sRet (dTup (aCons (dVar 4) (aNil)))) (sNext))) (sNext)) (sRet (dCall c "given_words" (aCons (dVar 0) (aCons (dVar 1) (aNil)))))
def b_l_operands (c : Cl) : TS := sSeq (sIf (tTru (dCmp inC (dOp ixK (dVar 0) (dC (.int 0))) (dTup (aCons (dC (.str "word")) (aCons (dC (.str "name")) (aCons (dC (.str "field")) (aCons (dC (.str "null")) (aNil)))))))) (sRet (dTup (aNil))) (sNext)) (sSeq (sIf (tTru (dCmp eqC (dOp ixK (dVar 0) (dC (.int 0))) (dC (.str "item")))) (sRet (dSl (dVar 0) (oSome (dC (.int 2))) (oNone))) (sNext)) (sRet (dIf (tTru (dCmp eqC (dOp ixK (dVar 0) (dC (.int 0))) (dC (.str "wide")))) (dSl (dVar 0) (oSome (dC (.int 1))) (oSome (dC (.int 2)))) (dSl (dVar 0) (oSome (dC (.int 1))) (oNone)))))
def b_l_tuples (c : Cl) : TS := sSeq (sAsg (dLst (aCons (dTup (aNil)) (aNil))) (gName 1)) (sSeq (sFor (iSeq (dVar 0)) (gName 2) (sSeq (sAsg (dLst (aNil)) (gName 3)) (sSeq (sFor (iSeq (dVar 1)) (gName 4) (sExpr (dM tyLst extendAM (dVar 3) (aCons (dLc (iR1 (dOp shlK (dC (.int 1)) (dVar 2))) (gName 5) (tYes) (dOp addK (dVar 4) (dTup (aCons (dVar 5) (aNil)))) [5]) (aNil))))) (sAsg (dVar 3) (gName 1))))) (sRet (dVar 1)))
def b_l_word (c : Cl) : TS := sSeq (sPar 3 4 (aCons (dOp ixK (dVar 2) (dC (.int 0))) (aCons (dOp ixK (dVar 2) (dOp subK (dB lenB (aCons (dVar 2) (aNil))) (dC (.int 1)))) (aNil)))) (sSeq (sAsg (dOp subK (dOp shlK (dC (.int 1)) (dVar 1)) (dC (.int 1))) (gName 5)) (sSeq (sIf (tTru (dCmp eqC (dVar 0) (dC (.str "pick")))) (sRet (dOp ixK (dVar 2) (dOp subK (dC (.int 2)) (dVar 3)))) (sNext)) (sSeq (sIf (tTru (dCmp inC (dVar 0) (dTup (aCons (dC (.str "not")) (aCons (dC (.str "neg")) (aCons (dC (.str "wide")) (aNil))))))) (sRet (dOp andK (dIf (tTru (dCmp eqC (dVar 0) (dC (.str "wide")))) (dVar 3) (dOp subK (dUn negK (dVar 3)) (dB intB (aCons (dCmp eqC (dVar 0) (dC (.str "not"))) (aNil))))) (dVar 5))) (sNext)) (sSeq (sIf (tTru (dCmp inC (dVar 0) (dTup (aCons (dC (.str "+")) (aCons (dC (.str "-")) (aCons (dC (.str "*")) (aNil))))))) (sRet (dOp andK (dIf (tTru (dCmp eqC (dVar 0) (dC (.str "+")))) (dOp addK (dVar 3) (dVar 4)) (dIf (tTru (dCmp eqC (dVar 0) (dC (.str "-")))) (dOp subK (dVar 3) (dVar 4)) (dOp mulK (dVar 3) (dVar 4)))) (dVar 5))) (sNext)) (sSeq (sIf (tTru (dCmp inC (dVar 0) (dTup (aCons (dC (.str "==")) (aCons (dC (.str "!=")) (aNil)))))) (sRet (dB intB (aCons (dCmp eqC (dCmp eqC (dVar 3) (dVar 4)) (dCmp eqC (dVar 0) (dC (.str "==")))) (aNil)))) (sNext)) (sSeq (sIf (tTru (dCmp inC (dVar 0) (dTup (aCons (dC (.str "<")) (aCons (dC (.str "<=")) (aNil)))))) (sRet (dB intB (aCons (dOrT (dCmp ltC (dVar 3) (dVar 4)) (dAndT (dCmp eqC (dVar 0) (dC (.str "<="))) (dCmp eqC (dVar 3) (dVar 4)))) (aNil)))) (sNext)) (sSeq (sIf (tTru (dCmp inC (dVar 0) (dTup (aCons (dC (.str "&")) (aCons (dC (.str "|")) (aCons (dC (.str "^")) (aNil))))))) (sRet (dIf (tTru (dCmp eqC (dVar 0) (dC (.str "&")))) (dOp andK (dVar 3) (dVar 4)) (dIf (tTru (dCmp eqC (dVar 0) (dC (.str "|")))) (dOp orK (dVar 3) (dVar 4)) (dOp xorK (dVar 3) (dVar 4))))) (sNext)) (sSeq (sIf (tTru (dCmp inC (dVar 0) (dTup (aCons (dC (.str "<<")) (aCons (dC (.str ">>")) (aNil)))))) (sRet (dIf (tTru (dCmp eqC (dVar 0) (dC (.str "<<")))) (dOp andK (dOp shlK (dVar 3) (dB min2B (aCons (dVar 4) (aCons (dC (.int 8)) (aNil))))) (dVar 5)) (dOp shrK (dVar 3) (dB min2B (aCons (dVar 4) (aCons (dC (.int 8)) (aNil))))))) (sNext)) (sSeq (sIf (tTru (dCmp eqC (dVar 4) (dC (.int 0)))) (sRet (dC (.int 0))) (sNext)) (sRet (dIf (tTru (dCmp eqC (dVar 0) (dC (.str "div")))) (dOp fdivK (dVar 3) (dVar 4)) (dOp subK (dVar 3) (dOp mulK (dOp fdivK (dVar 3) (dVar 4)) (dVar 4))))))))))))))
def b_l_source (c : Cl) : TS := sRet (dLst (aCons (dB listB (aCons (dVar 0) (aNil))) (aCons (dC (.int 0)) (aCons (dC (.int 0)) (aCons (dC (.int 0)) (aCons (dC (.int 0)) (aCons (dC (.int 0)) (aCons (dC .non) (aCons (dC (.int 40)) (aCons (dC (.int 0)) (aCons (dC (.int 0)) (aNil))))))))))))
def b_l_digit (c : Cl) : TS := sSeq (sAsg (dOp addK (dOp ixK (dVar 0) (dC (.int 4))) (dC (.int 1))) (gSub (dVar 0) (dC (.int 4)))) (sSeq (sIf (tAnd (tTru (dCmp eqC (dOp ixK (dVar 0) (dC (.int 2))) (dC (.int 0)))) (tTru (dCmp ltC (dOp ixK (dVar 0) (dC (.int 1))) (dB lenB (aCons (dOp ixK (dVar 0) (dC (.int 0))) (aNil)))))) (sSeq (sAsg (dOp ixK (dOp ixK (dVar 0) (dC (.int 0))) (dOp ixK (dVar 0) (dC (.int 1)))) (gName 2)) (sSeq (sAsg (dOp addK (dOp ixK (dVar 0) (dC (.int 1))) (dC (.int 1))) (gSub (dVar 0) (dC (.int 1)))) (sSeq (sAsg (dOp modK (dB intB (aCons (dOp addK (dOp addK (dOp mulK (dOp ixK (dVar 0) (dC (.int 3))) (dC (.int 48271))) (dVar 2)) (dC (.int 7))) (aNil))) (dC (.int 2147483647))) (gSub (dVar 0) (dC (.int 3)))) (sIf (tTru (dCmp geC (dB absB (aCons (dVar 2) (aNil))) (dOp powK (dC (.int 10)) (dC (.int 18))))) (sAsg (dOp modK (dB intB (aCons (dB absB (aCons (dVar 2) (aNil))) (aNil))) (dOp shlK (dC (.int 1)) (dC (.int 900)))) (gSub (dVar 0) (dC (.int 2)))) (sNext))))) (sNext)) (sSeq (sIf (tTru (dCmp gtC (dOp ixK (dVar 0) (dC (.int 2))) (dC (.int 0)))) (sSeq (sAsg (dOp modK (dB intB (aCons (dOp ixK (dVar 0) (dC (.int 2))) (aNil))) (dVar 1)) (gName 3)) (sSeq (sAsg (dOp fdivK (dOp ixK (dVar 0) (dC (.int 2))) (dVar 1)) (gSub (dVar 0) (dC (.int 2)))) (sRet (dVar 3)))) (sNext)) (sSeq (sIf (tNot (tTru (dOp ixK (dVar 0) (dC (.int 0))))) (sRet (dC (.int 0))) (sNext)) (sSeq (sAsg (dOp modK (dB intB (aCons (dOp addK (dOp mulK (dOp addK (dOp ixK (dVar 0) (dC (.int 3))) (dC (.int 1))) (dC (.int 69621))) (dOp mulK (dOp ixK (dVar 0) (dC (.int 4))) (dC (.int 40692)))) (aNil))) (dC (.int 2147483399))) (gName 4)) (sSeq (sAsg (dOp modK (dB intB (aCons (dOp mulK (dVar 4) (dOp addK (dVar 4) (dOp ixK (dVar 0) (dC (.int 4))))) (aNil))) (dC (.int 998244353))) (gName 4)) (sRet (dOp modK (dB intB (aCons (dOp fdivK (dVar 4) (dC (.int 64))) (aNil))) (dVar 1))))))))
def b_l_pick_one (c : Cl) : TS := sRet (dOp ixK (dVar 1) (dCall c "_law_digit" (aCons (dVar 0) (aCons (dB lenB (aCons (dVar 1) (aNil))) (aNil)))))
def b_l_label (c : Cl) : TS := sSeq (sAsg (dC (.str "abcdefghijklmnopqrstuvwxyz")) (gName 2)) (sSeq (sAsg (dOp addK (dVar 2) (dC (.str "0123456789"))) (gName 3)) (sSeq (sAsg (dC (.str "record external steady needs gives entry function var let make call if else while return raise try catch ")) (gName 4)) (sSeq (sAsg (dC (.str "")) (gName 5)) (sSeq (sFor (iR1 (dOp modK (dB intB (aCons (dVar 0) (aNil))) (dC (.int 4)))) (gName 6) (sAsg (dOp addK (dVar 5) (dOp ixK (dVar 2) (dOp modK (dB intB (aCons (dOp addK (dOp fdivK (dVar 0) (dC (.int 4))) (dOp mulK (dC (.int 5)) (dVar 6))) (aNil))) (dC (.int 26))))) (gName 5))) (sSeq (sAsg (dOp addK (dOp fdivK (dVar 0) (dC (.int 4))) (dOp mulK (dC (.int 17)) (dVar 1))) (gName 7)) (sSeq (sAsg (dOp addK (dVar 5) (dOp ixK (dVar 2) (dOp modK (dB intB (aCons (dVar 7) (aNil))) (dC (.int 26))))) (gName 5)) (sSeq (sFor (iR1 (dOp modK (dB intB (aCons (dOp addK (dOp fdivK (dVar 0) (dC (.int 3))) (dVar 1)) (aNil))) (dC (.int 4)))) (gName 6) (sSeq (sAsg (dOp fdivK (dVar 7) (dC (.int 36))) (gName 7)) (sAsg (dOp addK (dVar 5) (dOp ixK (dVar 3) (dOp modK (dB intB (aCons (dVar 7) (aNil))) (dC (.int 36))))) (gName 5)))) (sSeq (sIf (tTru (dCmp inC (dVar 5) (dM tyStr splitM (dOp addK (dVar 4) (dC (.str "assert null pick wide div rem result"))) (aCons (dC (.str " ")) (aNil))))) (sAsg (dSlS (dOp addK (dVar 5) (dC (.str "00000000"))) (oNone) (oSome (dC (.int 8)))) (gName 5)) (sNext)) (sRet (dVar 5))))))))))
def b_l_bare (c : Cl) : TS := sRet (dTup (aCons (dVar 0) (aCons (dLst (aNil)) (aCons (dC (.bl true)) (aCons (dC (.int 3)) (aCons (dOp ixK (dVar 1) (dC (.int 0))) (aCons (dOp ixK (dVar 1) (dC (.int 1))) (aNil))))))))
def b_l_leaves (c : Cl) : TS := sSeq (sAsg (dLc (iSeq (dOp ixK (dVar 0) (dC (.int 0)))) (gName 3) (tAnd (tTru (dCmp eqC (dB lenB (aCons (dVar 3) (aNil))) (dC (.int 2)))) (tTru (dCmp eqC (dOp ixK (dVar 3) (dC (.int 1))) (dVar 1)))) (dTup (aCons (dC (.str "name")) (aCons (dOp ixK (dVar 3) (dC (.int 0))) (aNil)))) [3]) (gName 2)) (sRet (dOp addK (dVar 2) (dLc (iSeq (dOp ixK (dVar 0) (dC (.int 1)))) (gName 3) (tTru (dCmp eqC (dOp ixK (dVar 3) (dC (.int 2))) (dVar 1))) (dTup (aCons (dC (.str "field")) (aCons (dOp ixK (dVar 3) (dC (.int 0))) (aCons (dOp ixK (dVar 3) (dC (.int 1))) (aNil))))) [3])))
def b_l_kinded (c : Cl) : TS := sSeq (sIf (tTru (dIsi .int (dVar 2))) (sRet (dCall c "_law_typed" (aCons (dVar 0) (aCons (dVar 1) (aCons (dVar 2) (aCons (dVar 3) (aNil))))))) (sNext)) (sRet (dCall c "_law_pick_one" (aCons (dVar 0) (aCons (dOp addK (dCall c "_law_leaves" (aCons (dVar 1) (aCons (dVar 2) (aNil)))) (dLst (aCons (dTup (aCons (dC (.str "null")) (aNil))) (aNil)))) (aNil)))))
def b_l_typed (c : Cl) : TS := sSeq (sAsg (dCall c "_law_leaves" (aCons (dVar 1) (aCons (dVar 2) (aNil)))) (gName 4)) (sSeq (sAsg (dCall c "_law_digit" (aCons (dVar 0) (aCons (dIf (tTru (dCmp gtC (dVar 3) (dC (.int 0)))) (dC (.int 12)) (dC (.int 3))) (aNil)))) (gName 5)) (sSeq (sIf (tAnd (tTru (dCmp ltC (dVar 5) (dC (.int 2)))) (tTru (dVar 4))) (sRet (dCall c "_law_pick_one" (aCons (dVar 0) (aCons (dVar 4) (aNil))))) (sNext)) (sSeq (sIf (tTru (dCmp ltC (dVar 5) (dC (.int 3)))) (sRet (dTup (aCons (dC (.str "word")) (aCons (dCall c "_law_digit" (aCons (dVar 0) (aCons (dOp shlK (dC (.int 1)) (dVar 2)) (aNil)))) (aCons (dVar 2) (aNil)))))) (sNext)) (sSeq (sIf (tAnd (tTru (dCmp ltC (dVar 5) (dC (.int 6)))) (tOr (tTru (dCmp gtC (dVar 2) (dC (.int 1)))) (tTru (dCmp eqC (dVar 5) (dC (.int 3)))))) (sRet (dCall c "_law_binary" (aCons (dVar 0) (aCons (dVar 1) (aCons (dVar 2) (aCons (dOp subK (dVar 3) (dC (.int 1))) (aNil))))))) (sNext)) (sSeq (sIf (tTru (dCmp eqC (dVar 5) (dC (.int 6)))) (sSeq (sAsg (dCall c "_law_pick_one" (aCons (dVar 0) (aCons (dLst (aCons (dC (.str "not")) (aCons (dC (.str "neg")) (aNil)))) (aNil)))) (gName 6)) (sRet (dTup (aCons (dVar 6) (aCons (dCall c "_law_typed" (aCons (dVar 0) (aCons (dVar 1) (aCons (dVar 2) (aCons (dOp subK (dVar 3) (dC (.int 1))) (aNil)))))) (aNil)))))) (sNext)) (sSeq (sIf (tTru (dCmp eqC (dVar 5) (dC (.int 7)))) (sSeq (sAsg (dCall c "_law_pick_one" (aCons (dVar 0) (aCons (dLst (aCons (dC (.str "<<")) (aCons (dC (.str ">>")) (aNil)))) (aNil)))) (gName 6)) (sSeq (sAsg (dCall c "_law_typed" (aCons (dVar 0) (aCons (dVar 1) (aCons (dVar 2) (aCons (dOp subK (dVar 3) (dC (.int 1))) (aNil)))))) (gName 7)) (sRet (dTup (aCons (dVar 6) (aCons (dVar 7) (aCons (dCall c "_law_typed" (aCons (dVar 0) (aCons (dVar 1) (aCons (dOp addK (dC (.int 1)) (dCall c "_law_digit" (aCons (dVar 0) (aCons (dC (.int 3)) (aNil))))) (aCons (dOp subK (dVar 3) (dC (.int 1))) (aNil)))))) (aNil)))))))) (sNext)) (sSeq (sIf (tTru (dCmp eqC (dVar 5) (dC (.int 8)))) (sSeq (sAsg (dCall c "_law_typed" (aCons (dVar 0) (aCons (dVar 1) (aCons (dC (.int 1)) (aCons (dOp subK (dVar 3) (dC (.int 1))) (aNil)))))) (gName 8)) (sSeq (sAsg (dCall c "_law_typed" (aCons (dVar 0) (aCons (dVar 1) (aCons (dVar 2) (aCons (dOp subK (dVar 3) (dC (.int 1))) (aNil)))))) (gName 7)) (sRet (dTup (aCons (dC (.str "pick")) (aCons (dVar 8) (aCons (dVar 7) (aCons (dCall c "_law_typed" (aCons (dVar 0) (aCons (dVar 1) (aCons (dVar 2) (aCons (dOp subK (dVar 3) (dC (.int 1))) (aNil)))))) (aNil))))))))) (sNext)) (sSeq (sIf (tTru (dCmp eqC (dVar 5) (dC (.int 9)))) (sRet (dTup (aCons (dC (.str "wide")) (aCons (dCall c "_law_typed" (aCons (dVar 0) (aCons (dVar 1) (aCons (dOp addK (dC (.int 1)) (dCall c "_law_digit" (aCons (dVar 0) (aCons (dOp ixK (dVar 1) (dC (.int 3))) (aNil))))) (aCons (dOp subK (dVar 3) (dC (.int 1))) (aNil)))))) (aCons (dVar 2) (aNil)))))) (sNext)) (sSeq (sAsg (dLc (iSeq (dOp ixK (dVar 1) (dC (.int 0)))) (gName 10) (tAnd (tTru (dCmp eqC (dB lenB (aCons (dVar 10) (aNil))) (dC (.int 3)))) (tTru (dCmp eqC (dOp ixK (dVar 10) (dC (.int 1))) (dVar 2)))) (dVar 10) [10]) (gName 9)) (sSeq (sIf (tAnd (tTru (dCmp eqC (dVar 5) (dC (.int 10)))) (tTru (dVar 9))) (sSeq (sAsg (dCall c "_law_pick_one" (aCons (dVar 0) (aCons (dVar 9) (aNil)))) (gName 10)) (sRet (dTup (aCons (dC (.str "item")) (aCons (dOp ixK (dVar 10) (dC (.int 0))) (aCons (dCall c "_law_typed" (aCons (dVar 0) (aCons (dVar 1) (aCons (dOp addK (dC (.int 1)) (dCall c "_law_digit" (aCons (dVar 0) (aCons (dC (.int 3)) (aNil))))) (aCons (dOp subK (dVar 3) (dC (.int 1))) (aNil)))))) (aNil))))))) (sNext)) (sSeq (sIf (tTru (dCmp eqC (dVar 2) (dC (.int 1)))) (sRet (dCall c "_law_compared" (aCons (dVar 0) (aCons (dVar 1) (aCons (dOp subK (dVar 3) (dC (.int 1))) (aNil)))))) (sNext)) (sRet (dCall c "_law_binary" (aCons (dVar 0) (aCons (dVar 1) (aCons (dVar 2) (aCons (dOp subK (dVar 3) (dC (.int 1))) (aNil))))))))))))))))))
def b_l_binary (c : Cl) : TS := sSeq (sAsg (dLst (aCons (dC (.str "+")) (aCons (dC (.str "-")) (aCons (dC (.str "*")) (aCons (dC (.str "&")) (aCons (dC (.str "|")) (aCons (dC (.str "^")) (aCons (dC (.str "div")) (aCons (dC (.str "rem")) (aNil)))))))))) (gName 4)) (sSeq (sAsg (dOp ixK (dVar 4) (dCall c "_law_digit" (aCons (dVar 0) (aCons (dIf (tTru (dOp ixK (dVar 1) (dC (.int 2)))) (dC (.int 6)) (dC (.int 8))) (aNil))))) (gName 5)) (sSeq (sAsg (dCall c "_law_typed" (aCons (dVar 0) (aCons (dVar 1) (aCons (dVar 2) (aCons (dVar 3) (aNil)))))) (gName 6)) (sRet (dTup (aCons (dVar 5) (aCons (dVar 6) (aCons (dCall c "_law_typed" (aCons (dVar 0) (aCons (dVar 1) (aCons (dVar 2) (aCons (dVar 3) (aNil)))))) (aNil))))))))
def b_l_compared (c : Cl) : TS := sSeq (sAsg (dCall c "_law_pick_one" (aCons (dVar 0) (aCons (dLst (aCons (dC (.str "==")) (aCons (dC (.str "!=")) (aCons (dC (.str "<")) (aCons (dC (.str "<=")) (aNil)))))) (aNil)))) (gName 3)) (sSeq (sAsg (dLc (iSeq (dOp ixK (dVar 1) (dC (.int 0)))) (gName 9) (tTru (dIsi .str (dOp ixK (dVar 9) (dC (.int 1))))) (dOp ixK (dVar 9) (dC (.int 1))) [9]) (gName 4)) (sSeq (sIf (tAnd (tTru (dCmp inC (dVar 3) (dTup (aCons (dC (.str "==")) (aCons (dC (.str "!=")) (aNil)))))) (tAnd (tTru (dVar 4)) (tTru (dCmp eqC (dCall c "_law_digit" (aCons (dVar 0) (aCons (dC (.int 2)) (aNil)))) (dC (.int 1)))))) (sSeq (sAsg (dCall c "_law_pick_one" (aCons (dVar 0) (aCons (dVar 4) (aNil)))) (gName 5)) (sSeq (sAsg (dCall c "_law_kinded" (aCons (dVar 0) (aCons (dVar 1) (aCons (dVar 5) (aCons (dVar 2) (aNil)))))) (gName 6)) (sRet (dTup (aCons (dVar 3) (aCons (dVar 6) (aCons (dCall c "_law_kinded" (aCons (dVar 0) (aCons (dVar 1) (aCons (dVar 5) (aCons (dVar 2) (aNil)))))) (aNil)))))))) (sNext)) (sSeq (sAsg (dOp addK (dC (.int 1)) (dCall c "_law_digit" (aCons (dVar 0) (aCons (dOp ixK (dVar 1) (dC (.int 3))) (aNil))))) (gName 7)) (sSeq (sAsg (dLc (iSeq (dOp ixK (dVar 1) (dC (.int 0)))) (gName 9) (tAnd (tTru (dCmp eqC (dB lenB (aCons (dVar 9) (aNil))) (dC (.int 2)))) (tTru (dIsi .int (dOp ixK (dVar 9) (dC (.int 1)))))) (dOp ixK (dVar 9) (dC (.int 1))) [9]) (gName 8)) (sSeq (sIf (tAnd (tTru (dVar 8)) (tTru (dCmp eqC (dCall c "_law_digit" (aCons (dVar 0) (aCons (dC (.int 2)) (aNil)))) (dC (.int 1))))) (sAsg (dCall c "_law_pick_one" (aCons (dVar 0) (aCons (dVar 8) (aNil)))) (gName 7)) (sNext)) (sSeq (sAsg (dCall c "_law_typed" (aCons (dVar 0) (aCons (dVar 1) (aCons (dVar 7) (aCons (dVar 2) (aNil)))))) (gName 6)) (sRet (dTup (aCons (dVar 3) (aCons (dVar 6) (aCons (dCall c "_law_typed" (aCons (dVar 0) (aCons (dVar 1) (aCons (dVar 7) (aCons (dVar 2) (aNil)))))) (aNil))))))))))))
def b_l_salts (c : Cl) : TS := sSeq (sAsg (dCall c "_law_digit" (aCons (dVar 0) (aCons (dC (.int 40000)) (aNil)))) (gName 1)) (sSeq (sIf (tTru (dCmp eqC (dCall c "_law_digit" (aCons (dVar 0) (aCons (dC (.int 3)) (aNil)))) (dC (.int 1)))) (sRet (dLst (aCons (dVar 1) (aCons (dVar 1) (aCons (dVar 1) (aNil)))))) (sNext)) (sRet (dLst (aCons (dVar 1) (aCons (dCall c "_law_digit" (aCons (dVar 0) (aCons (dC (.int 40000)) (aNil)))) (aCons (dCall c "_law_digit" (aCons (dVar 0) (aCons (dC (.int 40000)) (aNil)))) (aNil)))))))
def b_l_worth (c : Cl) : TS := sSeq (sAsg (dOp ixK (dVar 1) (dC (.int 0))) (gName 2)) (sSeq (sIf (tTru (dCmp eqC (dVar 2) (dC (.str "word")))) (sRet (dTup (aCons (dOp ixK (dVar 1) (dC (.int 2))) (aCons (dOp ixK (dVar 1) (dC (.int 1))) (aNil))))) (sNext)) (sSeq (sIf (tTru (dCmp eqC (dVar 2) (dC (.str "name")))) (sRet (dGetA (dVar 0) (dOp ixK (dVar 1) (dC (.int 1))))) (sNext)) (sSeq (sAsg (dLc (iSeq (dCall c "_law_operands" (aCons (dVar 1) (aNil)))) (gName 7) (tYes) (dCall c "_law_worth" (aCons (dVar 0) (aCons (dVar 7) (aNil)))) [7]) (gName 3)) (sSeq (sAsg (dLc (iSeq (dVar 3)) (gName 7) (tYes) (dOp ixK (dVar 7) (dC (.int 1))) [7]) (gName 4)) (sSeq (sIf (tTru (dCmp eqC (dVar 2) (dC (.str "wide")))) (sRet (dTup (aCons (dOp ixK (dVar 1) (dC (.int 2))) (aCons (dCall c "_law_word" (aCons (dVar 2) (aCons (dOp ixK (dVar 1) (dC (.int 2))) (aCons (dVar 4) (aNil))))) (aNil))))) (sNext)) (sSeq (sAsg (dIf (tTru (dCmp eqC (dVar 2) (dC (.str "pick")))) (dOp ixK (dOp ixK (dVar 3) (dC (.int 1))) (dC (.int 0))) (dOp ixK (dOp ixK (dVar 3) (dC (.int 0))) (dC (.int 0)))) (gName 5)) (sSeq (sAsg (dCall c "_law_word" (aCons (dVar 2) (aCons (dVar 5) (aCons (dVar 4) (aNil))))) (gName 6)) (sRet (dTup (aCons (dIf (tTru (dCmp inC (dVar 2) (dTup (aCons (dC (.str "==")) (aCons (dC (.str "!=")) (aCons (dC (.str "<")) (aCons (dC (.str "<=")) (aNil)))))))) (dC (.int 1)) (dVar 5)) (aCons (dVar 6) (aNil))))))))))))
def b_l_given (c : Cl) : TS := sSeq (sAsg (dDic) (gName 2)) (sSeq (sFor (iZip2 (dOp ixK (dVar 0) (dC (.int 2))) (dVar 1)) (gTup (gsCons (gName 3) (gsCons (gName 4) (gsNil))) 2) (sAsg (dTup (aCons (dOp ixK (dVar 3) (dC (.int 1))) (aCons (dVar 4) (aNil)))) (gSubD (dVar 2) (dOp ixK (dVar 3) (dC (.int 0)))))) (sSeq (sAsg (dLst (aNil)) (gName 5)) (sSeq (sFor (iR1 (dOp shlK (dC (.int 1)) (dOp ixK (dVar 0) (dC (.int 3))))) (gName 4) (sSeq (sAsg (dTup (aCons (dOp ixK (dVar 0) (dC (.int 3))) (aCons (dVar 4) (aNil)))) (gSubD (dVar 2) (dC (.str "result")))) (sIf (tTru (dCmp eqC (dOp ixK (dCall c "_law_worth" (aCons (dVar 2) (aCons (dOp ixK (dVar 0) (dC (.int 6))) (aNil)))) (dC (.int 1))) (dC (.int 1)))) (sExpr (dM tyLst appendM (dVar 5) (aCons (dVar 4) (aNil)))) (sNext)))) (sRet (dVar 5)))))
def b_l_needed_words (c : Cl) : TS := sSeq (sAsg (dLst (aNil)) (gName 1)) (sSeq (sFor (iSeq (dCall c "_law_tuples" (aCons (dLc (iSeq (dOp ixK (dVar 0) (dC (.int 2)))) (gName 4) (tYes) (dOp ixK (dVar 4) (dC (.int 1))) [4]) (aNil)))) (gName 2) (sSeq (sAsg (dDic) (gName 3)) (sSeq (sFor (iZip2 (dOp ixK (dVar 0) (dC (.int 2))) (dVar 2)) (gTup (gsCons (gName 4) (gsCons (gName 5) (gsNil))) 2) (sAsg (dTup (aCons (dOp ixK (dVar 4) (dC (.int 1))) (aCons (dVar 5) (aNil)))) (gSubD (dVar 3) (dOp ixK (dVar 4) (dC (.int 0)))))) (sIf (tTru (dCmp eqC (dOp ixK (dCall c "_law_worth" (aCons (dVar 3) (aCons (dOp ixK (dVar 0) (dC (.int 5))) (aNil)))) (dC (.int 1))) (dC (.int 1)))) (sExpr (dM tyLst appendM (dVar 1) (aCons (dVar 2) (aNil)))) (sNext))))) (sRet (dVar 1)))
def b_l_unmet_words (c : Cl) : TS := sSeq (sFor (iSeq (dCall c "_law_needed_words" (aCons (dVar 0) (aNil)))) (gName 1) (sIf (tNot (tTru (dCall c "_law_given" (aCons (dVar 0) (aCons (dVar 1) (aNil)))))) (sRet (dVar 1)) (sNext))) (sRet (dC .non))
def b_l_contracted (c : Cl) : TS := sSeq (sAsg (dLst (aNil)) (gName 2)) (sSeq (sFor (iR1 (dCall c "_law_digit" (aCons (dVar 0) (aCons (dC (.int 4)) (aNil))))) (gName 3) (sExpr (dM tyLst appendM (dVar 2) (aCons (dTup (aCons (dCall c "_law_label" (aCons (dOp ixK (dVar 1) (dC (.int 1))) (aCons (dVar 3) (aNil)))) (aCons (dOp addK (dC (.int 1)) (dCall c "_law_digit" (aCons (dVar 0) (aCons (dC (.int 2)) (aNil))))) (aNil)))) (aNil))))) (sSeq (sIf (tTru (dCmp eqC (dCall c "_law_digit" (aCons (dVar 0) (aCons (dC (.int 8)) (aNil)))) (dC (.int 5)))) (sAsg (dLst (aCons (dTup (aCons (dCall c "_law_label" (aCons (dOp ixK (dVar 1) (dC (.int 1))) (aCons (dC (.int 5)) (aNil)))) (aCons (dOp addK (dC (.int 4)) (dCall c "_law_digit" (aCons (dVar 0) (aCons (dC (.int 3)) (aNil))))) (aNil)))) (aNil))) (gName 2)) (sNext)) (sSeq (sAsg (dOp addK (dC (.int 1)) (dCall c "_law_digit" (aCons (dVar 0) (aCons (dC (.int 3)) (aNil))))) (gName 4)) (sSeq (sAsg (dCall c "_law_digit" (aCons (dVar 0) (aCons (dC (.int 2)) (aNil)))) (gName 5)) (sSeq (sAsg (dTup (aCons (dCall c "_law_label" (aCons (dOp ixK (dVar 1) (dC (.int 1))) (aCons (dC (.int 25)) (aNil)))) (aCons (dCall c "_law_label" (aCons (dOp ixK (dVar 1) (dC (.int 2))) (aCons (dC (.int 25)) (aNil)))) (aNil)))) (gName 6)) (sSeq (sAsg (dTup (aCons (dC (.str "word")) (aCons (dC (.int 1)) (aCons (dC (.int 1)) (aNil))))) (gName 7)) (sSeq (sIf (tTru (dCmp neC (dCall c "_law_digit" (aCons (dVar 0) (aCons (dC (.int 3)) (aNil)))) (dC (.int 0)))) (sAsg (dCall c "_law_typed" (aCons (dVar 0) (aCons (dCall c "_law_bare" (aCons (dVar 2) (aCons (dVar 6) (aNil)))) (aCons (dC (.int 1)) (aCons (dOp addK (dC (.int 1)) (dCall c "_law_digit" (aCons (dVar 0) (aCons (dC (.int 2)) (aNil))))) (aNil)))))) (gName 7)) (sNext)) (sSeq (sAsg (dCall c "_law_typed" (aCons (dVar 0) (aCons (dCall c "_law_bare" (aCons (dOp addK (dVar 2) (dLst (aCons (dTup (aCons (dC (.str "result")) (aCons (dVar 4) (aNil)))) (aNil)))) (aCons (dVar 6) (aNil)))) (aCons (dC (.int 1)) (aCons (dOp addK (dC (.int 1)) (dCall c "_law_digit" (aCons (dVar 0) (aCons (dC (.int 2)) (aNil))))) (aNil)))))) (gName 8)) (sSeq (sIf (tTru (dCmp eqC (dCall c "_law_digit" (aCons (dVar 0) (aCons (dC (.int 2)) (aNil)))) (dC (.int 1)))) (sSeq (sAsg (dCall c "_law_typed" (aCons (dVar 0) (aCons (dCall c "_law_bare" (aCons (dVar 2) (aCons (dVar 6) (aNil)))) (aCons (dVar 4) (aCons (dC (.int 1)) (aNil)))))) (gName 9)) (sAsg (dTup (aCons (dC (.str "|")) (aCons (dVar 8) (aCons (dTup (aCons (dC (.str "==")) (aCons (dTup (aCons (dC (.str "name")) (aCons (dC (.str "result")) (aNil)))) (aCons (dVar 9) (aNil))))) (aNil))))) (gName 8))) (sNext)) (sRet (dTup (aCons (dC (.str "external")) (aCons (dCall c "_law_label" (aCons (dOp ixK (dVar 1) (dC (.int 0))) (aCons (dC (.int 8)) (aNil)))) (aCons (dB tupleB (aCons (dVar 2) (aNil))) (aCons (dVar 4) (aCons (dVar 5) (aCons (dVar 7) (aCons (dVar 8) (aNil)))))))))))))))))))
def b_l_own_answers (c : Cl) : TS := sSeq (sIf (tTru (dCmp eqC (dOp ixK (dVar 0) (dC (.int 4))) (dC (.int 1)))) (sFor (iSeq (dVar 2)) (gName 3) (sIf (tTru (dCmp eqC (dOp ixK (dVar 3) (dC (.int 0))) (dVar 1))) (sRet (dTup (aCons (dOp ixK (dVar 3) (dC (.int 1))) (aNil)))) (sNext))) (sNext)) (sRet (dB tupleB (aCons (dCall c "_law_given" (aCons (dVar 0) (aCons (dVar 1) (aNil)))) (aNil))))
def b_l_plain (c : Cl) : TS := sSeq (sIf (tOr (tNot (tTru (dIsi .tuple (dVar 0)))) (tTru (dB anyB (aCons (dLc (iSeq (dVar 0)) (gName 2) (tYes) (dIsi .bool (dVar 2)) [2]) (aNil))))) (sRet (dC (.bl false))) (sNext)) (sRet (dCmp eqC (dVar 0) (dVar 1)))
def b_l_law (c : Cl) : TS := sSeq (sAsg (dCall c "_law_source" (aCons (dVar 0) (aNil))) (gName 1)) (sSeq (sAsg (dCall c "_law_salts" (aCons (dVar 1) (aNil))) (gName 2)) (sSeq (sAsg (dCall c "_law_contracted" (aCons (dVar 1) (aCons (dVar 2) (aNil)))) (gName 3)) (sSeq (sAsg (dCall c "_law_unmet_words" (aCons (dVar 3) (aNil))) (gName 4)) (sSeq (sIf (tTru (dCmp isntC (dVar 4) (dC .non))) (sRet (dAndT (dCall c "_law_plain" (aCons (dCall c "unmet" (aCons (dVar 3) (aNil))) (aCons (dVar 4) (aNil)))) (dCall c "_law_plain" (aCons (dCall c "unmet" (aCons (dVar 3) (aNil))) (aCons (dVar 4) (aNil)))))) (sNext)) (sSeq (sIf (tTru (dCmp isntC (dCall c "unmet" (aCons (dVar 3) (aNil))) (dC .non))) (sRet (dC (.bl false))) (sNext)) (sSeq (sAsg (dCall c "_law_needed_words" (aCons (dVar 3) (aNil))) (gName 5)) (sSeq (sFor (iSeq (dVar 5)) (gName 6) (sIf (tNot (tTru (dCall c "_law_plain" (aCons (dCall c "let_answers" (aCons (dVar 3) (aCons (dVar 6) (aCons (dTup (aNil)) (aNil))))) (aCons (dCall c "_law_own_answers" (aCons (dVar 3) (aCons (dVar 6) (aCons (dLst (aNil)) (aNil))))) (aNil)))))) (sRet (dC (.bl false))) (sNext))) (sSeq (sIf (tNot (tTru (dVar 5))) (sRet (dC (.bl true))) (sNext)) (sSeq (sAsg (dLst (aNil)) (gName 7)) (sSeq (sFor (iR1 (dCall c "_law_digit" (aCons (dVar 1) (aCons (dC (.int 5)) (aNil))))) (gName 8) (sSeq (sAsg (dCall c "_law_pick_one" (aCons (dVar 1) (aCons (dVar 5) (aNil)))) (gName 6)) (sSeq (sAsg (dCall c "_law_own_answers" (aCons (dVar 3) (aCons (dVar 6) (aCons (dVar 7) (aNil))))) (gName 9)) (sSeq (sExpr (dM tyLst appendM (dVar 7) (aCons (dTup (aCons (dVar 6) (aCons (dCall c "_law_pick_one" (aCons (dVar 1) (aCons (dVar 9) (aNil)))) (aNil)))) (aNil)))) (sIf (tNot (tTru (dCall c "_law_plain" (aCons (dCall c "let_answers" (aCons (dVar 3) (aCons (dVar 6) (aCons (dB tupleB (aCons (dVar 7) (aNil))) (aNil))))) (aCons (dCall c "_law_own_answers" (aCons (dVar 3) (aCons (dVar 6) (aCons (dVar 7) (aNil))))) (aNil)))))) (sRet (dC (.bl false))) (sNext)))))) (sSeq (sFor (iSeq (dVar 5)) (gName 6) (sIf (tNot (tTru (dCall c "_law_plain" (aCons (dCall c "let_answers" (aCons (dVar 3) (aCons (dVar 6) (aCons (dB tupleB (aCons (dVar 7) (aNil))) (aNil))))) (aCons (dCall c "_law_own_answers" (aCons (dVar 3) (aCons (dVar 6) (aCons (dVar 7) (aNil))))) (aNil)))))) (sRet (dC (.bl false))) (sNext))) (sRet (dAndT (dCmp isC (dCall c "unmet" (aCons (dVar 3) (aNil))) (dC .non)) (dCall c "_law_plain" (aCons (dCall c "let_answers" (aCons (dVar 3) (aCons (dOp ixK (dVar 5) (dC (.int 0))) (aCons (dTup (aNil)) (aNil))))) (aCons (dCall c "_law_own_answers" (aCons (dVar 3) (aCons (dOp ixK (dVar 5) (dC (.int 0))) (aCons (dLst (aNil)) (aNil))))) (aNil)))))))))))))))))
def prog : String → Option Def
  | "widths_of" => some ⟨1, 3, b_p_widths_of⟩
  | "operands_of" => some ⟨1, 1, b_p_operands_of⟩
  | "greatest" => some ⟨1, 1, b_p_greatest⟩
  | "related" => some ⟨3, 3, b_p_related⟩
  | "shifted" => some ⟨4, 4, b_p_shifted⟩
  | "divided" => some ⟨3, 3, b_p_divided⟩
  | "reckoned" => some ⟨3, 3, b_p_reckoned⟩
  | "result" => some ⟨3, 5, b_p_result⟩
  | "contract_word" => some ⟨2, 7, b_p_contract_word⟩
  | "asked_names" => some ⟨2, 4, b_p_asked_names⟩
  | "needs_hold" => some ⟨2, 2, b_p_needs_hold⟩
  | "given_words" => some ⟨2, 5, b_p_given_words⟩
  | "rows_of" => some ⟨1, 5, b_p_rows_of⟩
  | "unmet" => some ⟨1, 2, b_p_unmet⟩
  | "let_answers" => some ⟨3, 5, b_p_let_answers⟩
  | "_law_operands" => some ⟨1, 1, b_l_operands⟩
  | "_law_tuples" => some ⟨1, 6, b_l_tuples⟩
  | "_law_word" => some ⟨3, 6, b_l_word⟩
  | "_law_source" => some ⟨1, 1, b_l_source⟩
  | "_law_digit" => some ⟨2, 5, b_l_digit⟩
  | "_law_pick_one" => some ⟨2, 2, b_l_pick_one⟩
  | "_law_label" => some ⟨2, 8, b_l_label⟩
  | "_law_bare" => some ⟨2, 2, b_l_bare⟩
  | "_law_leaves" => some ⟨2, 4, b_l_leaves⟩
  | "_law_kinded" => some ⟨4, 4, b_l_kinded⟩
  | "_law_typed" => some ⟨4, 11, b_l_typed⟩
  | "_law_binary" => some ⟨4, 7, b_l_binary⟩
  | "_law_compared" => some ⟨3, 10, b_l_compared⟩
  | "_law_salts" => some ⟨1, 2, b_l_salts⟩
  | "_law_worth" => some ⟨2, 8, b_l_worth⟩
  | "_law_given" => some ⟨2, 6, b_l_given⟩
  | "_law_needed_words" => some ⟨1, 6, b_l_needed_words⟩
  | "_law_unmet_words" => some ⟨1, 2, b_l_unmet_words⟩
  | "_law_contracted" => some ⟨2, 10, b_l_contracted⟩
  | "_law_own_answers" => some ⟨3, 4, b_l_own_answers⟩
  | "_law_plain" => some ⟨2, 3, b_l_plain⟩
  | "law" => some ⟨1, 10, b_l_law⟩
  | _ => none
end Pk13
end PartPdk13B

section PartPdk13L
set_option Elab.async false
set_option linter.all false
set_option maxRecDepth 100000
set_option maxHeartbeats 4000000
namespace Pk13
open PySem PySem.Spec Pd
open PyProof.Rows (envOfC)
def topS (i : Nat) : Stmt := PySem.Challenge.pw_metorshut_k13_externals.main.body.getD i (.Pass ⟨0, 0, 0, 0⟩)
abbrev names : List String := ["widths_of", "operands_of", "greatest", "related", "shifted", "divided", "reckoned", "contract_word", "asked_names", "needs_hold", "given_words", "rows_of", "unmet", "let_answers", "_law_operands", "_law_tuples", "_law_word", "_law_source", "_law_digit", "_law_pick_one", "_law_label", "_law_bare", "_law_leaves", "_law_kinded", "_law_typed", "_law_binary", "_law_compared", "_law_salts", "_law_worth", "_law_given", "_law_needed_words", "_law_unmet_words", "_law_contracted", "_law_own_answers", "_law_plain", "law"]
abbrev snames : List (String × Nat) := [("result", 2)]
abbrev blts : List String := ["abs", "any", "bool", "int", "isinstance", "len", "list", "min", "range", "str", "tuple", "zip"]
abbrev sp_widths_of : Stmt := topS 1
abbrev np_widths_of : List Str := ["function", "name", "kind"]
theorem scp_widths_of : L2.FnScope np_widths_of ["function"] (L2.defScope sp_widths_of) := ⟨rfl, rfl, rfl, by decide +kernel, rfl, by decide +kernel, by decide +kernel⟩
abbrev sp_operands_of : Stmt := topS 2
abbrev np_operands_of : List Str := ["expr"]
theorem scp_operands_of : L2.FnScope np_operands_of ["expr"] (L2.defScope sp_operands_of) := ⟨rfl, rfl, rfl, by decide +kernel, rfl, by decide +kernel, by decide +kernel⟩
abbrev sp_greatest : Stmt := topS 4
abbrev np_greatest : List Str := ["width"]
theorem scp_greatest : L2.FnScope np_greatest ["width"] (L2.defScope sp_greatest) := ⟨rfl, rfl, rfl, by decide +kernel, rfl, by decide +kernel, by decide +kernel⟩
abbrev sp_related : Stmt := topS 5
abbrev np_related : List Str := ["op", "left", "right"]
theorem scp_related : L2.FnScope np_related ["op", "left", "right"] (L2.defScope sp_related) := ⟨rfl, rfl, rfl, by decide +kernel, rfl, by decide +kernel, by decide +kernel⟩
abbrev sp_shifted : Stmt := topS 6
abbrev np_shifted : List Str := ["op", "width", "left", "right"]
theorem scp_shifted : L2.FnScope np_shifted ["op", "width", "left", "right"] (L2.defScope sp_shifted) := ⟨rfl, rfl, rfl, by decide +kernel, rfl, by decide +kernel, by decide +kernel⟩
abbrev sp_divided : Stmt := topS 7
abbrev np_divided : List Str := ["op", "left", "right"]
theorem scp_divided : L2.FnScope np_divided ["op", "left", "right"] (L2.defScope sp_divided) := ⟨rfl, rfl, rfl, by decide +kernel, rfl, by decide +kernel, by decide +kernel⟩
abbrev sp_reckoned : Stmt := topS 8
abbrev np_reckoned : List Str := ["op", "left", "right"]
theorem scp_reckoned : L2.FnScope np_reckoned ["op", "left", "right"] (L2.defScope sp_reckoned) := ⟨rfl, rfl, rfl, by decide +kernel, rfl, by decide +kernel, by decide +kernel⟩
abbrev sp_result : Stmt := topS 9
abbrev np_result : List Str := ["op", "width", "words", "left", "right"]
theorem scp_result : L2.FnScope np_result ["op", "width", "words"] (L2.defScope sp_result) := ⟨rfl, rfl, rfl, by decide +kernel, rfl, by decide +kernel, by decide +kernel⟩
abbrev sp_contract_word : Stmt := topS 11
abbrev np_contract_word : List Str := ["expr", "names", "word", "parts", "words", "width", "part"]
theorem scp_contract_word : L2.FnScope np_contract_word ["expr", "names"] (L2.defScope sp_contract_word) := ⟨rfl, rfl, rfl, by decide +kernel, rfl, by decide +kernel, by decide +kernel⟩
abbrev sp_asked_names : Stmt := topS 12
abbrev np_asked_names : List Str := ["external", "args", "row", "word"]
theorem scp_asked_names : L2.FnScope np_asked_names ["external", "args"] (L2.defScope sp_asked_names) := ⟨rfl, rfl, rfl, by decide +kernel, rfl, by decide +kernel, by decide +kernel⟩
abbrev sp_needs_hold : Stmt := topS 13
abbrev np_needs_hold : List Str := ["external", "args"]
theorem scp_needs_hold : L2.FnScope np_needs_hold ["external", "args"] (L2.defScope sp_needs_hold) := ⟨rfl, rfl, rfl, by decide +kernel, rfl, by decide +kernel, by decide +kernel⟩
abbrev sp_given_words : Stmt := topS 14
abbrev np_given_words : List Str := ["external", "args", "names", "found", "word"]
theorem scp_given_words : L2.FnScope np_given_words ["external", "args"] (L2.defScope sp_given_words) := ⟨rfl, rfl, rfl, by decide +kernel, rfl, by decide +kernel, by decide +kernel⟩
abbrev sp_rows_of : Stmt := topS 15
abbrev np_rows_of : List Str := ["widths", "rows", "width", "row", "word"]
theorem scp_rows_of : L2.FnScope np_rows_of ["widths"] (L2.defScope sp_rows_of) := ⟨rfl, rfl, rfl, by decide +kernel, rfl, by decide +kernel, by decide +kernel⟩
abbrev sp_unmet : Stmt := topS 16
abbrev np_unmet : List Str := ["external", "args"]
theorem scp_unmet : L2.FnScope np_unmet ["external"] (L2.defScope sp_unmet) := ⟨rfl, rfl, rfl, by decide +kernel, rfl, by decide +kernel, by decide +kernel⟩
abbrev sp_let_answers : Stmt := topS 17
abbrev np_let_answers : List Str := ["external", "args", "asked", "row", "answer"]
theorem scp_let_answers : L2.FnScope np_let_answers ["external", "args", "asked"] (L2.defScope sp_let_answers) := ⟨rfl, rfl, rfl, by decide +kernel, rfl, by decide +kernel, by decide +kernel⟩
abbrev sl_operands : Stmt := topS 19
abbrev nl_operands : List Str := ["_law_expr"]
theorem scl_operands : L2.FnScope nl_operands ["_law_expr"] (L2.defScope sl_operands) := ⟨rfl, rfl, rfl, by decide +kernel, rfl, by decide +kernel, by decide +kernel⟩
abbrev sl_tuples : Stmt := topS 20
abbrev nl_tuples : List Str := ["_law_widths", "_law_rows", "_law_width", "_law_longer", "_law_row", "_law_word_here"]
theorem scl_tuples : L2.FnScope nl_tuples ["_law_widths"] (L2.defScope sl_tuples) := ⟨rfl, rfl, rfl, by decide +kernel, rfl, by decide +kernel, by decide +kernel⟩
abbrev sl_word : Stmt := topS 21
abbrev nl_word : List Str := ["_law_op", "_law_width", "_law_words", "_law_left", "_law_right", "_law_full"]
theorem scl_word : L2.FnScope nl_word ["_law_op", "_law_width", "_law_words"] (L2.defScope sl_word) := ⟨rfl, rfl, rfl, by decide +kernel, rfl, by decide +kernel, by decide +kernel⟩
abbrev sl_source : Stmt := topS 22
abbrev nl_source : List Str := ["_law_script"]
theorem scl_source : L2.FnScope nl_source ["_law_script"] (L2.defScope sl_source) := ⟨rfl, rfl, rfl, by decide +kernel, rfl, by decide +kernel, by decide +kernel⟩
abbrev sl_digit : Stmt := topS 23
abbrev nl_digit : List Str := ["_law_source_here", "_law_many", "_law_cell", "_law_digit_here", "_law_number"]
theorem scl_digit : L2.FnScope nl_digit ["_law_source_here", "_law_many"] (L2.defScope sl_digit) := ⟨rfl, rfl, rfl, by decide +kernel, rfl, by decide +kernel, by decide +kernel⟩
abbrev sl_pick_one : Stmt := topS 24
abbrev nl_pick_one : List Str := ["_law_source_here", "_law_rows"]
theorem scl_pick_one : L2.FnScope nl_pick_one ["_law_source_here", "_law_rows"] (L2.defScope sl_pick_one) := ⟨rfl, rfl, rfl, by decide +kernel, rfl, by decide +kernel, by decide +kernel⟩
abbrev sl_label : Stmt := topS 25
abbrev nl_label : List Str := ["_law_salt", "_law_k", "_law_letters", "_law_signs", "_law_words", "_law_word_here", "_law_spot", "_law_number"]
theorem scl_label : L2.FnScope nl_label ["_law_salt", "_law_k"] (L2.defScope sl_label) := ⟨rfl, rfl, rfl, by decide +kernel, rfl, by decide +kernel, by decide +kernel⟩
abbrev sl_bare : Stmt := topS 26
abbrev nl_bare : List Str := ["_law_rows", "_law_spares"]
theorem scl_bare : L2.FnScope nl_bare ["_law_rows", "_law_spares"] (L2.defScope sl_bare) := ⟨rfl, rfl, rfl, by decide +kernel, rfl, by decide +kernel, by decide +kernel⟩
abbrev sl_leaves : Stmt := topS 27
abbrev nl_leaves : List Str := ["_law_scope", "_law_sought", "_law_found", "_law_row"]
theorem scl_leaves : L2.FnScope nl_leaves ["_law_scope", "_law_sought"] (L2.defScope sl_leaves) := ⟨rfl, rfl, rfl, by decide +kernel, rfl, by decide +kernel, by decide +kernel⟩
abbrev sl_kinded : Stmt := topS 28
abbrev nl_kinded : List Str := ["_law_source_here", "_law_scope", "_law_sought", "_law_fuel"]
theorem scl_kinded : L2.FnScope nl_kinded ["_law_source_here", "_law_scope", "_law_sought", "_law_fuel"] (L2.defScope sl_kinded) := ⟨rfl, rfl, rfl, by decide +kernel, rfl, by decide +kernel, by decide +kernel⟩
abbrev sl_typed : Stmt := topS 29
abbrev nl_typed : List Str := ["_law_source_here", "_law_scope", "_law_width", "_law_fuel", "_law_leaves_here", "_law_way", "_law_sign", "_law_left", "_law_first", "_law_rows", "_law_row"]
theorem scl_typed : L2.FnScope nl_typed ["_law_source_here", "_law_scope", "_law_width", "_law_fuel"] (L2.defScope sl_typed) := ⟨rfl, rfl, rfl, by decide +kernel, rfl, by decide +kernel, by decide +kernel⟩
abbrev sl_binary : Stmt := topS 30
abbrev nl_binary : List Str := ["_law_source_here", "_law_scope", "_law_width", "_law_fuel", "_law_signs", "_law_sign", "_law_left"]
theorem scl_binary : L2.FnScope nl_binary ["_law_source_here", "_law_scope", "_law_width", "_law_fuel"] (L2.defScope sl_binary) := ⟨rfl, rfl, rfl, by decide +kernel, rfl, by decide +kernel, by decide +kernel⟩
abbrev sl_compared : Stmt := topS 31
abbrev nl_compared : List Str := ["_law_source_here", "_law_scope", "_law_fuel", "_law_sign", "_law_rows", "_law_sought", "_law_left", "_law_width", "_law_plain_here", "_law_row"]
theorem scl_compared : L2.FnScope nl_compared ["_law_source_here", "_law_scope", "_law_fuel"] (L2.defScope sl_compared) := ⟨rfl, rfl, rfl, by decide +kernel, rfl, by decide +kernel, by decide +kernel⟩
abbrev sl_salts : Stmt := topS 32
abbrev nl_salts : List Str := ["_law_source_here", "_law_first"]
theorem scl_salts : L2.FnScope nl_salts ["_law_source_here"] (L2.defScope sl_salts) := ⟨rfl, rfl, rfl, by decide +kernel, rfl, by decide +kernel, by decide +kernel⟩
abbrev sl_worth : Stmt := topS 33
abbrev nl_worth : List Str := ["_law_names", "_law_expr", "_law_word_here", "_law_parts", "_law_words", "_law_width", "_law_found", "_law_part"]
theorem scl_worth : L2.FnScope nl_worth ["_law_names", "_law_expr"] (L2.defScope sl_worth) := ⟨rfl, rfl, rfl, by decide +kernel, rfl, by decide +kernel, by decide +kernel⟩
abbrev sl_given : Stmt := topS 34
abbrev nl_given : List Str := ["_law_part", "_law_words", "_law_names", "_law_row", "_law_word_here", "_law_found"]
theorem scl_given : L2.FnScope nl_given ["_law_part", "_law_words"] (L2.defScope sl_given) := ⟨rfl, rfl, rfl, by decide +kernel, rfl, by decide +kernel, by decide +kernel⟩
abbrev sl_needed_words : Stmt := topS 35
abbrev nl_needed_words : List Str := ["_law_part", "_law_found", "_law_words", "_law_names", "_law_row", "_law_word_here"]
theorem scl_needed_words : L2.FnScope nl_needed_words ["_law_part"] (L2.defScope sl_needed_words) := ⟨rfl, rfl, rfl, by decide +kernel, rfl, by decide +kernel, by decide +kernel⟩
abbrev sl_unmet_words : Stmt := topS 36
abbrev nl_unmet_words : List Str := ["_law_part", "_law_words"]
theorem scl_unmet_words : L2.FnScope nl_unmet_words ["_law_part"] (L2.defScope sl_unmet_words) := ⟨rfl, rfl, rfl, by decide +kernel, rfl, by decide +kernel, by decide +kernel⟩
abbrev sl_contracted : Stmt := topS 37
abbrev nl_contracted : List Str := ["_law_source_here", "_law_salts_here", "_law_rows", "_law_j", "_law_width", "_law_steady", "_law_spares", "_law_needs", "_law_gives", "_law_right"]
theorem scl_contracted : L2.FnScope nl_contracted ["_law_source_here", "_law_salts_here"] (L2.defScope sl_contracted) := ⟨rfl, rfl, rfl, by decide +kernel, rfl, by decide +kernel, by decide +kernel⟩
abbrev sl_own_answers : Stmt := topS 38
abbrev nl_own_answers : List Str := ["_law_part", "_law_words", "_law_log", "_law_row"]
theorem scl_own_answers : L2.FnScope nl_own_answers ["_law_part", "_law_words", "_law_log"] (L2.defScope sl_own_answers) := ⟨rfl, rfl, rfl, by decide +kernel, rfl, by decide +kernel, by decide +kernel⟩
abbrev sl_plain : Stmt := topS 39
abbrev nl_plain : List Str := ["_law_told", "_law_due", "_law_word_here"]
theorem scl_plain : L2.FnScope nl_plain ["_law_told", "_law_due"] (L2.defScope sl_plain) := ⟨rfl, rfl, rfl, by decide +kernel, rfl, by decide +kernel, by decide +kernel⟩
abbrev sl_law : Stmt := topS 40
abbrev nl_law : List Str := ["_law_script", "_law_source_here", "_law_salts_here", "_law_part", "_law_due", "_law_held", "_law_words", "_law_log", "_law_k", "_law_answers"]
theorem scl_law : L2.FnScope nl_law ["_law_script"] (L2.defScope sl_law) := ⟨rfl, rfl, rfl, by decide +kernel, rfl, by decide +kernel, by decide +kernel⟩
section
variable {P : Program} {w : World} {K : PySem.W.Frag} {mg : Str → Option Value} {base : Heap}
theorem der_p_widths_of {k : Nat} {c : Cl} (ok : ∀ y ∈ names, Own P w K mg base k (Str.ofString y) (c y)) (oks : ∀ q ∈ snames, OwnS P w K mg base k q.2 (Str.ofString q.1) (c q.1)) (zs : ∀ y ∈ blts, mg (Str.ofString y) = none) {fa : Addr} (cdv : Value) (A : Around) (outer : List PySem.Env) (s : Shared) (H : L2.Hp) (E : L2.XK) (hr : L2.Room k (A.deeper (envOfC "widths_of" (L2.defScope sp_widths_of) s.heap.objs.size fa cdv))) :
    PDSs (L2.cxOf L2.CX0 P w K mg base np_widths_of "widths_of" (L2.defScope sp_widths_of) fa cdv A outer s H E).nox (L2.defBody sp_widths_of) (b_p_widths_of c) := by
  have nd := scp_widths_of.nd
  unfold b_p_widths_of
  exact pss_one (ps_ret (pd_callTy L2.call_tuple_of real_tupleB rfl (zs "tuple" (by decide)) bt_tuple (pa_cons (pd_lc (own := [("name", 1), ("kind", 2)]) rfl nd (pi_seq (pd_ix (fun _ _ => rfl) (pd_var (i := 0) rfl) (pd_int))) (L2.blkOk_by (N := np_widths_of) (sc := L2.defScope sp_widths_of) (by decide +kernel)) (fun _ _ _ _ _ => pg_tup rfl (pgs_cons (pg_name (i := 1) nd rfl (by first | exact .inl rfl | exact .inr rfl)) (pgs_cons (pg_name (i := 2) nd rfl (by first | exact .inl rfl | exact .inr rfl)) (pgs_nil)))) (fun _ _ _ _ _ => pts_nil) (fun _ _ _ _ _ => pd_var (i := 2) rfl) (by decide)) (pa_nil))))
theorem der_p_operands_of {k : Nat} {c : Cl} (ok : ∀ y ∈ names, Own P w K mg base k (Str.ofString y) (c y)) (oks : ∀ q ∈ snames, OwnS P w K mg base k q.2 (Str.ofString q.1) (c q.1)) (zs : ∀ y ∈ blts, mg (Str.ofString y) = none) {fa : Addr} (cdv : Value) (A : Around) (outer : List PySem.Env) (s : Shared) (H : L2.Hp) (E : L2.XK) (hr : L2.Room k (A.deeper (envOfC "operands_of" (L2.defScope sp_operands_of) s.heap.objs.size fa cdv))) :
    PDSs (L2.cxOf L2.CX0 P w K mg base np_operands_of "operands_of" (L2.defScope sp_operands_of) fa cdv A outer s H E).nox (L2.defBody sp_operands_of) (b_p_operands_of c) := by
  have nd := scp_operands_of.nd
  unfold b_p_operands_of
  exact pss_cons (ps_if (pt_cmp L2.op_in_seq (real_in false) (by rfl) (pd_ix (fun _ _ => rfl) (pd_var (i := 0) rfl) (pd_int)) (pd_tup (pa_cons (pd_str) (pa_cons (pd_str) (pa_cons (pd_str) (pa_cons (pd_str) (pa_nil))))))) (pss_one (ps_ret (pd_lst (pa_nil)))) (pss_nil)) (pss_cons (ps_if (pt_cmp (L2.op_eqD hr.units) real_eq (by rfl) (pd_ix (fun _ _ => rfl) (pd_var (i := 0) rfl) (pd_int)) (pd_str)) (pss_one (ps_ret (pd_lst (pa_cons (pd_ix (fun _ _ => rfl) (pd_var (i := 0) rfl) (pd_int)) (pa_nil))))) (pss_nil)) (pss_cons (ps_if (pt_cmp (L2.op_eqD hr.units) real_eq (by rfl) (pd_ix (fun _ _ => rfl) (pd_var (i := 0) rfl) (pd_int)) (pd_str)) (pss_one (ps_ret (pd_lst (pa_cons (pd_ix (fun _ _ => rfl) (pd_var (i := 0) rfl) (pd_int)) (pa_nil))))) (pss_nil)) (pss_one (ps_ret (pd_callTy L2.call_list_of real_listB rfl (zs "list" (by decide)) bt_list (pa_cons (pd_sl (pd_var (i := 0) rfl) (po_some (pd_int)) (po_none)) (pa_nil)))))))
theorem der_p_greatest {k : Nat} {c : Cl} (ok : ∀ y ∈ names, Own P w K mg base k (Str.ofString y) (c y)) (oks : ∀ q ∈ snames, OwnS P w K mg base k q.2 (Str.ofString q.1) (c q.1)) (zs : ∀ y ∈ blts, mg (Str.ofString y) = none) {fa : Addr} (cdv : Value) (A : Around) (outer : List PySem.Env) (s : Shared) (H : L2.Hp) (E : L2.XK) (hr : L2.Room k (A.deeper (envOfC "greatest" (L2.defScope sp_greatest) s.heap.objs.size fa cdv))) :
    PDSs (L2.cxOf L2.CX0 P w K mg base np_greatest "greatest" (L2.defScope sp_greatest) fa cdv A outer s H E).nox (L2.defBody sp_greatest) (b_p_greatest c) := by
  have nd := scp_greatest.nd
  unfold b_p_greatest
  exact pss_one (ps_ret (pd_sub (pd_shl (pd_int) (pd_var (i := 0) rfl)) (pd_int)))
theorem der_p_related {k : Nat} {c : Cl} (ok : ∀ y ∈ names, Own P w K mg base k (Str.ofString y) (c y)) (oks : ∀ q ∈ snames, OwnS P w K mg base k q.2 (Str.ofString q.1) (c q.1)) (zs : ∀ y ∈ blts, mg (Str.ofString y) = none) {fa : Addr} (cdv : Value) (A : Around) (outer : List PySem.Env) (s : Shared) (H : L2.Hp) (E : L2.XK) (hr : L2.Room k (A.deeper (envOfC "related" (L2.defScope sp_related) s.heap.objs.size fa cdv))) :
    PDSs (L2.cxOf L2.CX0 P w K mg base np_related "related" (L2.defScope sp_related) fa cdv A outer s H E).nox (L2.defBody sp_related) (b_p_related c) := by
  have nd := scp_related.nd
  unfold b_p_related
  exact pss_cons (ps_if (pt_cmp (L2.op_eqD hr.units) real_eq (by rfl) (pd_var (i := 0) rfl) (pd_str)) (pss_one (ps_ret (pd_callTy L2.call_int1 real_intB rfl (zs "int" (by decide)) bt_int (pa_cons (pd_cmp (L2.op_eqD hr.units) real_eq (by rfl) (pd_var (i := 1) rfl) (pd_var (i := 2) rfl)) (pa_nil))))) (pss_nil)) (pss_cons (ps_if (pt_cmp (L2.op_eqD hr.units) real_eq (by rfl) (pd_var (i := 0) rfl) (pd_str)) (pss_one (ps_ret (pd_callTy L2.call_int1 real_intB rfl (zs "int" (by decide)) bt_int (pa_cons (pd_cmp (L2.op_neD hr.units) real_ne (by rfl) (pd_var (i := 1) rfl) (pd_var (i := 2) rfl)) (pa_nil))))) (pss_nil)) (pss_cons (ps_if (pt_cmp (L2.op_eqD hr.units) real_eq (by rfl) (pd_var (i := 0) rfl) (pd_str)) (pss_one (ps_ret (pd_callTy L2.call_int1 real_intB rfl (zs "int" (by decide)) bt_int (pa_cons (pd_cmp L2.op_lt real_lt (by rfl) (pd_var (i := 1) rfl) (pd_var (i := 2) rfl)) (pa_nil))))) (pss_nil)) (pss_one (ps_ret (pd_callTy L2.call_int1 real_intB rfl (zs "int" (by decide)) bt_int (pa_cons (pd_cmp L2.op_le real_le (by rfl) (pd_var (i := 1) rfl) (pd_var (i := 2) rfl)) (pa_nil)))))))
theorem der_p_shifted {k : Nat} {c : Cl} (ok : ∀ y ∈ names, Own P w K mg base k (Str.ofString y) (c y)) (oks : ∀ q ∈ snames, OwnS P w K mg base k q.2 (Str.ofString q.1) (c q.1)) (zs : ∀ y ∈ blts, mg (Str.ofString y) = none) {fa : Addr} (cdv : Value) (A : Around) (outer : List PySem.Env) (s : Shared) (H : L2.Hp) (E : L2.XK) (hr : L2.Room k (A.deeper (envOfC "shifted" (L2.defScope sp_shifted) s.heap.objs.size fa cdv))) :
    PDSs (L2.cxOf L2.CX0 P w K mg base np_shifted "shifted" (L2.defScope sp_shifted) fa cdv A outer s H E).nox (L2.defBody sp_shifted) (b_p_shifted c) := by
  have nd := scp_shifted.nd
  unfold b_p_shifted
  exact pss_cons (ps_if (pt_cmp L2.op_ge real_ge (by rfl) (pd_var (i := 3) rfl) (pd_var (i := 1) rfl)) (pss_one (ps_ret (pd_int))) (pss_nil)) (pss_cons (ps_if (pt_cmp (L2.op_eqD hr.units) real_eq (by rfl) (pd_var (i := 0) rfl) (pd_str)) (pss_one (ps_ret (pd_and (pd_shl (pd_var (i := 2) rfl) (pd_var (i := 3) rfl)) (pd_call (y := "greatest") (ok "greatest" (by decide)) hr rfl (pa_cons (pd_var (i := 1) rfl) (pa_nil)))))) (pss_nil)) (pss_one (ps_ret (pd_shr (pd_var (i := 2) rfl) (pd_var (i := 3) rfl)))))
theorem der_p_divided {k : Nat} {c : Cl} (ok : ∀ y ∈ names, Own P w K mg base k (Str.ofString y) (c y)) (oks : ∀ q ∈ snames, OwnS P w K mg base k q.2 (Str.ofString q.1) (c q.1)) (zs : ∀ y ∈ blts, mg (Str.ofString y) = none) {fa : Addr} (cdv : Value) (A : Around) (outer : List PySem.Env) (s : Shared) (H : L2.Hp) (E : L2.XK) (hr : L2.Room k (A.deeper (envOfC "divided" (L2.defScope sp_divided) s.heap.objs.size fa cdv))) :
    PDSs (L2.cxOf L2.CX0 P w K mg base np_divided "divided" (L2.defScope sp_divided) fa cdv A outer s H E).nox (L2.defBody sp_divided) (b_p_divided c) := by
  have nd := scp_divided.nd
  unfold b_p_divided
  exact pss_cons (ps_if (pt_cmp (L2.op_eqD hr.units) real_eq (by rfl) (pd_var (i := 2) rfl) (pd_int)) (pss_one (ps_ret (pd_int))) (pss_nil)) (pss_cons (ps_if (pt_cmp (L2.op_eqD hr.units) real_eq (by rfl) (pd_var (i := 0) rfl) (pd_str)) (pss_one (ps_ret (pd_fdiv (pd_var (i := 1) rfl) (pd_var (i := 2) rfl)))) (pss_nil)) (pss_one (ps_ret (pd_sub (pd_var (i := 1) rfl) (pd_mul (pd_var (i := 2) rfl) (pd_fdiv (pd_var (i := 1) rfl) (pd_var (i := 2) rfl)))))))
theorem der_p_reckoned {k : Nat} {c : Cl} (ok : ∀ y ∈ names, Own P w K mg base k (Str.ofString y) (c y)) (oks : ∀ q ∈ snames, OwnS P w K mg base k q.2 (Str.ofString q.1) (c q.1)) (zs : ∀ y ∈ blts, mg (Str.ofString y) = none) {fa : Addr} (cdv : Value) (A : Around) (outer : List PySem.Env) (s : Shared) (H : L2.Hp) (E : L2.XK) (hr : L2.Room k (A.deeper (envOfC "reckoned" (L2.defScope sp_reckoned) s.heap.objs.size fa cdv))) :
    PDSs (L2.cxOf L2.CX0 P w K mg base np_reckoned "reckoned" (L2.defScope sp_reckoned) fa cdv A outer s H E).nox (L2.defBody sp_reckoned) (b_p_reckoned c) := by
  have nd := scp_reckoned.nd
  unfold b_p_reckoned
  exact pss_cons (ps_if (pt_cmp (L2.op_eqD hr.units) real_eq (by rfl) (pd_var (i := 0) rfl) (pd_str)) (pss_one (ps_ret (pd_add (pd_var (i := 1) rfl) (pd_var (i := 2) rfl)))) (pss_nil)) (pss_cons (ps_if (pt_cmp (L2.op_eqD hr.units) real_eq (by rfl) (pd_var (i := 0) rfl) (pd_str)) (pss_one (ps_ret (pd_sub (pd_var (i := 1) rfl) (pd_var (i := 2) rfl)))) (pss_nil)) (pss_cons (ps_if (pt_cmp (L2.op_eqD hr.units) real_eq (by rfl) (pd_var (i := 0) rfl) (pd_str)) (pss_one (ps_ret (pd_mul (pd_var (i := 1) rfl) (pd_var (i := 2) rfl)))) (pss_nil)) (pss_cons (ps_if (pt_cmp (L2.op_eqD hr.units) real_eq (by rfl) (pd_var (i := 0) rfl) (pd_str)) (pss_one (ps_ret (pd_and (pd_var (i := 1) rfl) (pd_var (i := 2) rfl)))) (pss_nil)) (pss_cons (ps_if (pt_cmp (L2.op_eqD hr.units) real_eq (by rfl) (pd_var (i := 0) rfl) (pd_str)) (pss_one (ps_ret (pd_or (pd_var (i := 1) rfl) (pd_var (i := 2) rfl)))) (pss_nil)) (pss_one (ps_ret (pd_xor (pd_var (i := 1) rfl) (pd_var (i := 2) rfl))))))))
theorem der_p_result {k : Nat} {c : Cl} (ok : ∀ y ∈ names, Own P w K mg base k (Str.ofString y) (c y)) (oks : ∀ q ∈ snames, OwnS P w K mg base k q.2 (Str.ofString q.1) (c q.1)) (zs : ∀ y ∈ blts, mg (Str.ofString y) = none) {fa : Addr} (cdv : Value) (A : Around) (outer : List PySem.Env) (s : Shared) (H : L2.Hp) (E : L2.XK) (hr : L2.Room k (A.deeper (envOfC "result" (L2.defScope sp_result) s.heap.objs.size fa cdv))) :
    PDSs (L2.cxOf L2.CX0 P w K mg base np_result "result" (L2.defScope sp_result) fa cdv A outer s H E).nox (L2.defBody sp_result) (b_p_result c) := by
  have nd := scp_result.nd
  unfold b_p_result
  exact pss_cons (ps_set (i := 3) nd rfl (by first | exact .inl rfl | exact .inr rfl) (pd_ix (fun _ _ => rfl) (pd_var (i := 2) rfl) (pd_int))) (pss_cons (ps_if (pt_cmp (L2.op_eqD hr.units) real_eq (by rfl) (pd_var (i := 0) rfl) (pd_str)) (pss_one (ps_ret (pd_sub (pd_call (y := "greatest") (ok "greatest" (by decide)) hr rfl (pa_cons (pd_var (i := 1) rfl) (pa_nil))) (pd_var (i := 3) rfl)))) (pss_nil)) (pss_cons (ps_if (pt_cmp (L2.op_eqD hr.units) real_eq (by rfl) (pd_var (i := 0) rfl) (pd_str)) (pss_one (ps_ret (pd_and (pd_neg (pd_var (i := 3) rfl)) (pd_call (y := "greatest") (ok "greatest" (by decide)) hr rfl (pa_cons (pd_var (i := 1) rfl) (pa_nil)))))) (pss_nil)) (pss_cons (ps_if (pt_cmp (L2.op_eqD hr.units) real_eq (by rfl) (pd_var (i := 0) rfl) (pd_str)) (pss_one (ps_ret (pd_and (pd_var (i := 3) rfl) (pd_call (y := "greatest") (ok "greatest" (by decide)) hr rfl (pa_cons (pd_var (i := 1) rfl) (pa_nil)))))) (pss_nil)) (pss_cons (ps_if (pt_cmp (L2.op_eqD hr.units) real_eq (by rfl) (pd_var (i := 0) rfl) (pd_str)) (pss_one (ps_ret (pd_if (pt_cmp (L2.op_eqD hr.units) real_eq (by rfl) (pd_var (i := 3) rfl) (pd_int)) (pd_ix (fun _ _ => rfl) (pd_var (i := 2) rfl) (pd_int)) (pd_ix (fun _ _ => rfl) (pd_var (i := 2) rfl) (pd_int))))) (pss_nil)) (pss_cons (ps_set (i := 4) nd rfl (by first | exact .inl rfl | exact .inr rfl) (pd_ix (fun _ _ => rfl) (pd_var (i := 2) rfl) (pd_int))) (pss_cons (ps_if (pt_cmp L2.op_in_seq (real_in false) (by rfl) (pd_var (i := 0) rfl) (pd_tup (pa_cons (pd_str) (pa_cons (pd_str) (pa_cons (pd_str) (pa_cons (pd_str) (pa_nil))))))) (pss_one (ps_ret (pd_call (y := "related") (ok "related" (by decide)) hr rfl (pa_cons (pd_var (i := 0) rfl) (pa_cons (pd_var (i := 3) rfl) (pa_cons (pd_var (i := 4) rfl) (pa_nil))))))) (pss_nil)) (pss_cons (ps_if (pt_cmp L2.op_in_seq (real_in false) (by rfl) (pd_var (i := 0) rfl) (pd_tup (pa_cons (pd_str) (pa_cons (pd_str) (pa_nil))))) (pss_one (ps_ret (pd_call (y := "shifted") (ok "shifted" (by decide)) hr rfl (pa_cons (pd_var (i := 0) rfl) (pa_cons (pd_var (i := 1) rfl) (pa_cons (pd_var (i := 3) rfl) (pa_cons (pd_var (i := 4) rfl) (pa_nil)))))))) (pss_nil)) (pss_cons (ps_if (pt_cmp L2.op_in_seq (real_in false) (by rfl) (pd_var (i := 0) rfl) (pd_tup (pa_cons (pd_str) (pa_cons (pd_str) (pa_nil))))) (pss_one (ps_ret (pd_call (y := "divided") (ok "divided" (by decide)) hr rfl (pa_cons (pd_var (i := 0) rfl) (pa_cons (pd_var (i := 3) rfl) (pa_cons (pd_var (i := 4) rfl) (pa_nil))))))) (pss_nil)) (pss_one (ps_ret (pd_and (pd_call (y := "reckoned") (ok "reckoned" (by decide)) hr rfl (pa_cons (pd_var (i := 0) rfl) (pa_cons (pd_var (i := 3) rfl) (pa_cons (pd_var (i := 4) rfl) (pa_nil))))) (pd_call (y := "greatest") (ok "greatest" (by decide)) hr rfl (pa_cons (pd_var (i := 1) rfl) (pa_nil))))))))))))))
theorem der_p_contract_word {k : Nat} {c : Cl} (ok : ∀ y ∈ names, Own P w K mg base k (Str.ofString y) (c y)) (oks : ∀ q ∈ snames, OwnS P w K mg base k q.2 (Str.ofString q.1) (c q.1)) (zs : ∀ y ∈ blts, mg (Str.ofString y) = none) {fa : Addr} (cdv : Value) (A : Around) (outer : List PySem.Env) (s : Shared) (H : L2.Hp) (E : L2.XK) (hr : L2.Room k (A.deeper (envOfC "contract_word" (L2.defScope sp_contract_word) s.heap.objs.size fa cdv))) :
    PDSs (L2.cxOf L2.CX0 P w K mg base np_contract_word "contract_word" (L2.defScope sp_contract_word) fa cdv A outer s H E).nox (L2.defBody sp_contract_word) (b_p_contract_word c) := by
  have nd := scp_contract_word.nd
  unfold b_p_contract_word
  exact pss_cons (ps_set (i := 2) nd rfl (by first | exact .inl rfl | exact .inr rfl) (pd_ix (fun _ _ => rfl) (pd_var (i := 0) rfl) (pd_int))) (pss_cons (ps_if (pt_cmp (L2.op_eqD hr.units) real_eq (by rfl) (pd_var (i := 2) rfl) (pd_str)) (pss_one (ps_ret (pd_tup (pa_cons (pd_ix (fun _ _ => rfl) (pd_var (i := 0) rfl) (pd_int)) (pa_cons (pd_ix (fun _ _ => rfl) (pd_var (i := 0) rfl) (pd_int)) (pa_nil)))))) (pss_nil)) (pss_cons (ps_if (pt_cmp (L2.op_eqD hr.units) real_eq (by rfl) (pd_var (i := 2) rfl) (pd_str)) (pss_one (ps_ret (pd_getA hr (pd_var (i := 1) rfl) (pd_ix (fun _ _ => rfl) (pd_var (i := 0) rfl) (pd_int))))) (pss_nil)) (pss_cons (ps_setLc (j := 3) (own := [("part", 6)]) rfl nd rfl rfl (L2.sw_true rfl rfl rfl (by decide +kernel)) (pi_seq (pd_call (y := "operands_of") (ok "operands_of" (by decide)) hr rfl (pa_cons (pd_var (i := 0) rfl) (pa_nil)))) (L2.blkOk_by (N := np_contract_word) (sc := L2.defScope sp_contract_word) (by decide +kernel)) (fun _ _ _ _ _ => pg_name (i := 6) nd rfl (by first | exact .inl rfl | exact .inr rfl)) (fun _ _ _ _ _ => pts_nil) (fun _ _ _ _ _ => pd_call (y := "contract_word") (ok "contract_word" (by decide)) hr rfl (pa_cons (pd_var (i := 6) rfl) (pa_cons (pd_var (i := 1) rfl) (pa_nil)))) (by decide)) (pss_cons (ps_setLc (j := 4) (own := [("part", 6)]) rfl nd rfl rfl (L2.sw_true rfl rfl rfl (by decide +kernel)) (pi_seq (pd_var (i := 3) rfl)) (L2.blkOk_by (N := np_contract_word) (sc := L2.defScope sp_contract_word) (by decide +kernel)) (fun _ _ _ _ _ => pg_name (i := 6) nd rfl (by first | exact .inl rfl | exact .inr rfl)) (fun _ _ _ _ _ => pts_nil) (fun _ _ _ _ _ => pd_ix (fun _ _ => rfl) (pd_var (i := 6) rfl) (pd_int)) (by decide)) (pss_cons (ps_if (pt_cmp (L2.op_eqD hr.units) real_eq (by rfl) (pd_var (i := 2) rfl) (pd_str)) (pss_one (ps_ret (pd_tup (pa_cons (pd_ix (fun _ _ => rfl) (pd_var (i := 0) rfl) (pd_int)) (pa_cons (pd_callS2 (y := "result") (oks ("result", 2) (by decide)) hr rfl (pa_cons (pd_var (i := 2) rfl) (pa_cons (pd_ix (fun _ _ => rfl) (pd_var (i := 0) rfl) (pd_int)) (pa_starD (pd_var (i := 4) rfl) (pa_nil))))) (pa_nil)))))) (pss_nil)) (pss_cons (ps_if (pt_cmp (L2.op_eqD hr.units) real_eq (by rfl) (pd_var (i := 2) rfl) (pd_str)) (pss_one (ps_ret (pd_tup (pa_cons (pd_ix (fun _ _ => rfl) (pd_ix (fun _ _ => rfl) (pd_var (i := 3) rfl) (pd_int)) (pd_int)) (pa_cons (pd_callS2 (y := "result") (oks ("result", 2) (by decide)) hr rfl (pa_cons (pd_var (i := 2) rfl) (pa_cons (pd_ix (fun _ _ => rfl) (pd_ix (fun _ _ => rfl) (pd_var (i := 3) rfl) (pd_int)) (pd_int)) (pa_starD (pd_var (i := 4) rfl) (pa_nil))))) (pa_nil)))))) (pss_nil)) (pss_cons (ps_set (i := 5) nd rfl (by first | exact .inl rfl | exact .inr rfl) (pd_if (pt_cmp L2.op_in_seq (real_in false) (by rfl) (pd_var (i := 2) rfl) (pd_tup (pa_cons (pd_str) (pa_cons (pd_str) (pa_cons (pd_str) (pa_cons (pd_str) (pa_nil))))))) (pd_int) (pd_ix (fun _ _ => rfl) (pd_ix (fun _ _ => rfl) (pd_var (i := 3) rfl) (pd_int)) (pd_int)))) (pss_one (ps_ret (pd_tup (pa_cons (pd_var (i := 5) rfl) (pa_cons (pd_callS2 (y := "result") (oks ("result", 2) (by decide)) hr rfl (pa_cons (pd_var (i := 2) rfl) (pa_cons (pd_ix (fun _ _ => rfl) (pd_ix (fun _ _ => rfl) (pd_var (i := 3) rfl) (pd_int)) (pd_int)) (pa_starD (pd_var (i := 4) rfl) (pa_nil))))) (pa_nil)))))))))))))
theorem der_p_asked_names {k : Nat} {c : Cl} (ok : ∀ y ∈ names, Own P w K mg base k (Str.ofString y) (c y)) (oks : ∀ q ∈ snames, OwnS P w K mg base k q.2 (Str.ofString q.1) (c q.1)) (zs : ∀ y ∈ blts, mg (Str.ofString y) = none) {fa : Addr} (cdv : Value) (A : Around) (outer : List PySem.Env) (s : Shared) (H : L2.Hp) (E : L2.XK) (hr : L2.Room k (A.deeper (envOfC "asked_names" (L2.defScope sp_asked_names) s.heap.objs.size fa cdv))) :
    PDSs (L2.cxOf L2.CX0 P w K mg base np_asked_names "asked_names" (L2.defScope sp_asked_names) fa cdv A outer s H E).nox (L2.defBody sp_asked_names) (b_p_asked_names c) := by
  have nd := scp_asked_names.nd
  unfold b_p_asked_names
  exact pss_one (ps_ret (pd_dc (own := [("row", 2), ("word", 3)]) rfl nd (pi_zip rfl (zs "zip" (by decide)) (pd_ix (fun _ _ => rfl) (pd_var (i := 0) rfl) (pd_int)) (pd_var (i := 1) rfl)) (L2.blkOk_by (N := np_asked_names) (sc := L2.defScope sp_asked_names) (by decide +kernel)) (fun _ _ _ _ _ => pg_tup rfl (pgs_cons (pg_name (i := 2) nd rfl (by first | exact .inl rfl | exact .inr rfl)) (pgs_cons (pg_name (i := 3) nd rfl (by first | exact .inl rfl | exact .inr rfl)) (pgs_nil)))) (fun _ _ _ _ _ => pts_nil) (fun _ _ _ _ _ => pd_ix (fun _ _ => rfl) (pd_var (i := 2) rfl) (pd_int)) (fun _ _ _ _ _ => pd_tup (pa_cons (pd_ix (fun _ _ => rfl) (pd_var (i := 2) rfl) (pd_int)) (pa_cons (pd_var (i := 3) rfl) (pa_nil)))) (by decide)))
theorem der_p_needs_hold {k : Nat} {c : Cl} (ok : ∀ y ∈ names, Own P w K mg base k (Str.ofString y) (c y)) (oks : ∀ q ∈ snames, OwnS P w K mg base k q.2 (Str.ofString q.1) (c q.1)) (zs : ∀ y ∈ blts, mg (Str.ofString y) = none) {fa : Addr} (cdv : Value) (A : Around) (outer : List PySem.Env) (s : Shared) (H : L2.Hp) (E : L2.XK) (hr : L2.Room k (A.deeper (envOfC "needs_hold" (L2.defScope sp_needs_hold) s.heap.objs.size fa cdv))) :
    PDSs (L2.cxOf L2.CX0 P w K mg base np_needs_hold "needs_hold" (L2.defScope sp_needs_hold) fa cdv A outer s H E).nox (L2.defBody sp_needs_hold) (b_p_needs_hold c) := by
  have nd := scp_needs_hold.nd
  unfold b_p_needs_hold
  exact pss_one (ps_ret (pd_cmp (L2.op_eqD hr.units) real_eq (by rfl) (pd_ix (fun _ _ => rfl) (pd_call (y := "contract_word") (ok "contract_word" (by decide)) hr rfl (pa_cons (pd_ix (fun _ _ => rfl) (pd_var (i := 0) rfl) (pd_int)) (pa_cons (pd_call (y := "asked_names") (ok "asked_names" (by decide)) hr rfl (pa_cons (pd_var (i := 0) rfl) (pa_cons (pd_var (i := 1) rfl) (pa_nil)))) (pa_nil)))) (pd_int)) (pd_int)))
theorem der_p_given_words {k : Nat} {c : Cl} (ok : ∀ y ∈ names, Own P w K mg base k (Str.ofString y) (c y)) (oks : ∀ q ∈ snames, OwnS P w K mg base k q.2 (Str.ofString q.1) (c q.1)) (zs : ∀ y ∈ blts, mg (Str.ofString y) = none) {fa : Addr} (cdv : Value) (A : Around) (outer : List PySem.Env) (s : Shared) (H : L2.Hp) (E : L2.XK) (hr : L2.Room k (A.deeper (envOfC "given_words" (L2.defScope sp_given_words) s.heap.objs.size fa cdv))) :
    PDSs (L2.cxOf L2.CX0 P w K mg base np_given_words "given_words" (L2.defScope sp_given_words) fa cdv A outer s H E).nox (L2.defBody sp_given_words) (b_p_given_words c) := by
  have nd := scp_given_words.nd
  unfold b_p_given_words
  exact pss_cons (ps_set (i := 2) nd rfl (by first | exact .inl rfl | exact .inr rfl) (pd_call (y := "asked_names") (ok "asked_names" (by decide)) hr rfl (pa_cons (pd_var (i := 0) rfl) (pa_cons (pd_var (i := 1) rfl) (pa_nil))))) (pss_cons (ps_set (i := 3) nd rfl (by first | exact .inl rfl | exact .inr rfl) (pd_lst (pa_nil))) (pss_cons (ps_for PassesOwn.never rfl (pi_r1 rfl (zs "range" (by decide)) (pd_add (pd_call (y := "greatest") (ok "greatest" (by decide)) hr rfl (pa_cons (pd_ix (fun _ _ => rfl) (pd_var (i := 0) rfl) (pd_int)) (pa_nil))) (pd_int))) (pg_name (i := 4) nd rfl (by first | exact .inl rfl | exact .inr rfl)) (pss_cons (ps_asg (pd_tup (pa_cons (pd_ix (fun _ _ => rfl) (pd_var (i := 0) rfl) (pd_int)) (pa_cons (pd_var (i := 4) rfl) (pa_nil)))) (pg_subD hr (pd_var (i := 2) rfl) (pd_str))) (pss_one (ps_if (pt_cmp (L2.op_eqD hr.units) real_eq (by rfl) (pd_ix (fun _ _ => rfl) (pd_call (y := "contract_word") (ok "contract_word" (by decide)) hr rfl (pa_cons (pd_ix (fun _ _ => rfl) (pd_var (i := 0) rfl) (pd_int)) (pa_cons (pd_var (i := 2) rfl) (pa_nil)))) (pd_int)) (pd_int)) (pss_one (ps_expr (pd_m L2.mt_append real_append ty_list PySem.F.plainAttrs_list PySem.F.slot_list_append PySem.F.type_list_append (pd_var (i := 3) rfl) (pa_cons (pd_var (i := 4) rfl) (pa_nil))))) (pss_nil))))) (pss_one (ps_ret (pd_callTy L2.call_tuple_of real_tupleB rfl (zs "tuple" (by decide)) bt_tuple (pa_cons (pd_var (i := 3) rfl) (pa_nil)))))))
theorem der_p_rows_of {k : Nat} {c : Cl} (ok : ∀ y ∈ names, Own P w K mg base k (Str.ofString y) (c y)) (oks : ∀ q ∈ snames, OwnS P w K mg base k q.2 (Str.ofString q.1) (c q.1)) (zs : ∀ y ∈ blts, mg (Str.ofString y) = none) {fa : Addr} (cdv : Value) (A : Around) (outer : List PySem.Env) (s : Shared) (H : L2.Hp) (E : L2.XK) (hr : L2.Room k (A.deeper (envOfC "rows_of" (L2.defScope sp_rows_of) s.heap.objs.size fa cdv))) :
    PDSs (L2.cxOf L2.CX0 P w K mg base np_rows_of "rows_of" (L2.defScope sp_rows_of) fa cdv A outer s H E).nox (L2.defBody sp_rows_of) (b_p_rows_of c) := by
  have nd := scp_rows_of.nd
  unfold b_p_rows_of
  exact pss_cons (ps_set (i := 1) nd rfl (by first | exact .inl rfl | exact .inr rfl) (pd_lst (pa_cons (pd_tup (pa_nil)) (pa_nil)))) (pss_cons (ps_for PassesOwn.never rfl (pi_seq (pd_var (i := 0) rfl)) (pg_name (i := 2) nd rfl (by first | exact .inl rfl | exact .inr rfl)) (pss_one (ps_setLc2 (j := 1) (own := [("row", 3), ("word", 4)]) (vs1 := [4]) rfl nd rfl rfl (L2.sw_true rfl rfl rfl (by decide +kernel)) (pi_seq (pd_var (i := 1) rfl)) (L2.blkOk_by (N := np_rows_of) (sc := L2.defScope sp_rows_of) (by decide +kernel)) (fun _ _ _ _ _ => pg_name (i := 3) nd rfl (by first | exact .inl rfl | exact .inr rfl)) (fun _ _ _ _ _ => pts_nil) (fun _ _ _ _ _ => pi_r1 rfl (zs "range" (by decide)) (pd_add (pd_call (y := "greatest") (ok "greatest" (by decide)) hr rfl (pa_cons (pd_var (i := 2) rfl) (pa_nil))) (pd_int))) (fun _ _ _ _ _ => pg_name (i := 4) nd rfl (by first | exact .inl rfl | exact .inr rfl)) (fun _ _ _ _ _ => pts_nil) (fun _ _ _ _ _ => pd_add (pd_var (i := 3) rfl) (pd_tup (pa_cons (pd_var (i := 4) rfl) (pa_nil)))) (by decide) (by decide) (by decide)))) (pss_one (ps_ret (pd_var (i := 1) rfl))))
theorem der_p_unmet {k : Nat} {c : Cl} (ok : ∀ y ∈ names, Own P w K mg base k (Str.ofString y) (c y)) (oks : ∀ q ∈ snames, OwnS P w K mg base k q.2 (Str.ofString q.1) (c q.1)) (zs : ∀ y ∈ blts, mg (Str.ofString y) = none) {fa : Addr} (cdv : Value) (A : Around) (outer : List PySem.Env) (s : Shared) (H : L2.Hp) (E : L2.XK) (hr : L2.Room k (A.deeper (envOfC "unmet" (L2.defScope sp_unmet) s.heap.objs.size fa cdv))) :
    PDSs (L2.cxOf L2.CX0 P w K mg base np_unmet "unmet" (L2.defScope sp_unmet) fa cdv A outer s H E).nox (L2.defBody sp_unmet) (b_p_unmet c) := by
  have nd := scp_unmet.nd
  unfold b_p_unmet
  exact pss_cons (ps_for PassesOwn.never rfl (pi_seq (pd_call (y := "rows_of") (ok "rows_of" (by decide)) hr rfl (pa_cons (pd_call (y := "widths_of") (ok "widths_of" (by decide)) hr rfl (pa_cons (pd_var (i := 0) rfl) (pa_nil))) (pa_nil)))) (pg_name (i := 1) nd rfl (by first | exact .inl rfl | exact .inr rfl)) (pss_one (ps_if (ptw (pw_and (pt_tru (pd_call (y := "needs_hold") (ok "needs_hold" (by decide)) hr rfl (pa_cons (pd_var (i := 0) rfl) (pa_cons (pd_var (i := 1) rfl) (pa_nil))))) (pw_and1 (pt_not (pt_tru (pd_call (y := "given_words") (ok "given_words" (by decide)) hr rfl (pa_cons (pd_var (i := 0) rfl) (pa_cons (pd_var (i := 1) rfl) (pa_nil))))))))) (pss_one (ps_ret (pd_var (i := 1) rfl))) (pss_nil)))) (pss_one (ps_ret (pd_non)))
theorem der_p_let_answers {k : Nat} {c : Cl} (ok : ∀ y ∈ names, Own P w K mg base k (Str.ofString y) (c y)) (oks : ∀ q ∈ snames, OwnS P w K mg base k q.2 (Str.ofString q.1) (c q.1)) (zs : ∀ y ∈ blts, mg (Str.ofString y) = none) {fa : Addr} (cdv : Value) (A : Around) (outer : List PySem.Env) (s : Shared) (H : L2.Hp) (E : L2.XK) (hr : L2.Room k (A.deeper (envOfC "let_answers" (L2.defScope sp_let_answers) s.heap.objs.size fa cdv))) :
    PDSs (L2.cxOf L2.CX0 P w K mg base np_let_answers "let_answers" (L2.defScope sp_let_answers) fa cdv A outer s H E).nox (L2.defBody sp_let_answers) (b_p_let_answers c) := by
  have nd := scp_let_answers.nd
  unfold b_p_let_answers
  exact pss_cons (ps_if (pt_cmp (L2.op_eqD hr.units) real_eq (by rfl) (pd_ix (fun _ _ => rfl) (pd_var (i := 0) rfl) (pd_int)) (pd_int)) (pss_one (ps_for PassesOwn.never rfl (pi_seq (pd_var (i := 2) rfl)) (pg_tup rfl (pgs_cons (pg_name (i := 3) nd rfl (by first | exact .inl rfl | exact .inr rfl)) (pgs_cons (pg_name (i := 4) nd rfl (by first | exact .inl rfl | exact .inr rfl)) (pgs_nil)))) (pss_one (ps_if (pt_cmp (L2.op_eqD hr.units) real_eq (by rfl) (pd_var (i := 3) rfl) (pd_var (i := 1) rfl)) (pss_one (ps_ret (pd_tup (pa_cons (pd_var (i := 4) rfl) (pa_nil))))) (pss_nil))))) (pss_nil)) (pss_one (ps_ret (pd_call (y := "given_words") (ok "given_words" (by decide)) hr rfl (pa_cons (pd_var (i := 0) rfl) (pa_cons (pd_var (i := 1) rfl) (pa_nil))))))
theorem der_l_operands {k : Nat} {c : Cl} (ok : ∀ y ∈ names, Own P w K mg base k (Str.ofString y) (c y)) (oks : ∀ q ∈ snames, OwnS P w K mg base k q.2 (Str.ofString q.1) (c q.1)) (zs : ∀ y ∈ blts, mg (Str.ofString y) = none) {fa : Addr} (cdv : Value) (A : Around) (outer : List PySem.Env) (s : Shared) (H : L2.Hp) (E : L2.XK) (hr : L2.Room k (A.deeper (envOfC "_law_operands" (L2.defScope sl_operands) s.heap.objs.size fa cdv))) :
    PDSs (L2.cxOf L2.CX0 P w K mg base nl_operands "_law_operands" (L2.defScope sl_operands) fa cdv A outer s H E).nox (L2.defBody sl_operands) (b_l_operands c) := by
  have nd := scl_operands.nd
  unfold b_l_operands
  exact pss_cons (ps_if (pt_cmp L2.op_in_seq (real_in false) (by rfl) (pd_ix (fun _ _ => rfl) (pd_var (i := 0) rfl) (pd_int)) (pd_tup (pa_cons (pd_str) (pa_cons (pd_str) (pa_cons (pd_str) (pa_cons (pd_str) (pa_nil))))))) (pss_one (ps_ret (pd_tup (pa_nil)))) (pss_nil)) (pss_cons (ps_if (pt_cmp (L2.op_eqD hr.units) real_eq (by rfl) (pd_ix (fun _ _ => rfl) (pd_var (i := 0) rfl) (pd_int)) (pd_str)) (pss_one (ps_ret (pd_sl (pd_var (i := 0) rfl) (po_some (pd_int)) (po_none)))) (pss_nil)) (pss_one (ps_ret (pd_if (pt_cmp (L2.op_eqD hr.units) real_eq (by rfl) (pd_ix (fun _ _ => rfl) (pd_var (i := 0) rfl) (pd_int)) (pd_str)) (pd_sl (pd_var (i := 0) rfl) (po_some (pd_int)) (po_some (pd_int))) (pd_sl (pd_var (i := 0) rfl) (po_some (pd_int)) (po_none))))))
theorem der_l_tuples {k : Nat} {c : Cl} (ok : ∀ y ∈ names, Own P w K mg base k (Str.ofString y) (c y)) (oks : ∀ q ∈ snames, OwnS P w K mg base k q.2 (Str.ofString q.1) (c q.1)) (zs : ∀ y ∈ blts, mg (Str.ofString y) = none) {fa : Addr} (cdv : Value) (A : Around) (outer : List PySem.Env) (s : Shared) (H : L2.Hp) (E : L2.XK) (hr : L2.Room k (A.deeper (envOfC "_law_tuples" (L2.defScope sl_tuples) s.heap.objs.size fa cdv))) :
    PDSs (L2.cxOf L2.CX0 P w K mg base nl_tuples "_law_tuples" (L2.defScope sl_tuples) fa cdv A outer s H E).nox (L2.defBody sl_tuples) (b_l_tuples c) := by
  have nd := scl_tuples.nd
  unfold b_l_tuples
  exact pss_cons (ps_set (i := 1) nd rfl (by first | exact .inl rfl | exact .inr rfl) (pd_lst (pa_cons (pd_tup (pa_nil)) (pa_nil)))) (pss_cons (ps_for PassesOwn.never rfl (pi_seq (pd_var (i := 0) rfl)) (pg_name (i := 2) nd rfl (by first | exact .inl rfl | exact .inr rfl)) (pss_cons (ps_set (i := 3) nd rfl (by first | exact .inl rfl | exact .inr rfl) (pd_lst (pa_nil))) (pss_cons (ps_for PassesOwn.never rfl (pi_seq (pd_var (i := 1) rfl)) (pg_name (i := 4) nd rfl (by first | exact .inl rfl | exact .inr rfl)) (pss_one (ps_expr (pd_m mt_extendA real_extendA ty_list PySem.F.plainAttrs_list PySem.F.slot_list_extend PySem.F.type_list_extend (pd_var (i := 3) rfl) (pa_cons (pd_lc (own := [("_law_word_here", 5)]) rfl nd (pi_r1 rfl (zs "range" (by decide)) (pd_shl (pd_int) (pd_var (i := 2) rfl))) (L2.blkOk_by (N := nl_tuples) (sc := L2.defScope sl_tuples) (by decide +kernel)) (fun _ _ _ _ _ => pg_name (i := 5) nd rfl (by first | exact .inl rfl | exact .inr rfl)) (fun _ _ _ _ _ => pts_nil) (fun _ _ _ _ _ => pd_add (pd_var (i := 4) rfl) (pd_tup (pa_cons (pd_var (i := 5) rfl) (pa_nil)))) (by decide)) (pa_nil)))))) (pss_one (ps_set (i := 1) nd rfl (by first | exact .inl rfl | exact .inr rfl) (pd_var (i := 3) rfl)))))) (pss_one (ps_ret (pd_var (i := 1) rfl))))
theorem der_l_word {k : Nat} {c : Cl} (ok : ∀ y ∈ names, Own P w K mg base k (Str.ofString y) (c y)) (oks : ∀ q ∈ snames, OwnS P w K mg base k q.2 (Str.ofString q.1) (c q.1)) (zs : ∀ y ∈ blts, mg (Str.ofString y) = none) {fa : Addr} (cdv : Value) (A : Around) (outer : List PySem.Env) (s : Shared) (H : L2.Hp) (E : L2.XK) (hr : L2.Room k (A.deeper (envOfC "_law_word" (L2.defScope sl_word) s.heap.objs.size fa cdv))) :
    PDSs (L2.cxOf L2.CX0 P w K mg base nl_word "_law_word" (L2.defScope sl_word) fa cdv A outer s H E).nox (L2.defBody sl_word) (b_l_word c) := by
  have nd := scl_word.nd
  unfold b_l_word
  exact pss_cons (ps_par rfl nd rfl rfl (by decide) (L2.ps_par rfl nd rfl rfl (by decide) rfl rfl (pa_cons (pd_ix (fun _ _ => rfl) (pd_var (i := 2) rfl) (pd_int)) (pa_cons (pd_ix (fun _ _ => rfl) (pd_var (i := 2) rfl) (pd_sub (pd_callB L2.call_len real_lenB rfl (zs "len" (by decide)) bt_len (pa_cons (pd_var (i := 2) rfl) (pa_nil))) (pd_int))) (pa_nil))) (by rfl))) (pss_cons (ps_set (i := 5) nd rfl (by first | exact .inl rfl | exact .inr rfl) (pd_sub (pd_shl (pd_int) (pd_var (i := 1) rfl)) (pd_int))) (pss_cons (ps_if (pt_cmp (L2.op_eqD hr.units) real_eq (by rfl) (pd_var (i := 0) rfl) (pd_str)) (pss_one (ps_ret (pd_ix (fun _ _ => rfl) (pd_var (i := 2) rfl) (pd_sub (pd_int) (pd_var (i := 3) rfl))))) (pss_nil)) (pss_cons (ps_if (pt_cmp L2.op_in_seq (real_in false) (by rfl) (pd_var (i := 0) rfl) (pd_tup (pa_cons (pd_str) (pa_cons (pd_str) (pa_cons (pd_str) (pa_nil)))))) (pss_one (ps_ret (pd_and (pd_if (pt_cmp (L2.op_eqD hr.units) real_eq (by rfl) (pd_var (i := 0) rfl) (pd_str)) (pd_var (i := 3) rfl) (pd_sub (pd_neg (pd_var (i := 3) rfl)) (pd_callTy L2.call_int1 real_intB rfl (zs "int" (by decide)) bt_int (pa_cons (pd_cmp (L2.op_eqD hr.units) real_eq (by rfl) (pd_var (i := 0) rfl) (pd_str)) (pa_nil))))) (pd_var (i := 5) rfl)))) (pss_nil)) (pss_cons (ps_if (pt_cmp L2.op_in_seq (real_in false) (by rfl) (pd_var (i := 0) rfl) (pd_tup (pa_cons (pd_str) (pa_cons (pd_str) (pa_cons (pd_str) (pa_nil)))))) (pss_one (ps_ret (pd_and (pd_if (pt_cmp (L2.op_eqD hr.units) real_eq (by rfl) (pd_var (i := 0) rfl) (pd_str)) (pd_add (pd_var (i := 3) rfl) (pd_var (i := 4) rfl)) (pd_if (pt_cmp (L2.op_eqD hr.units) real_eq (by rfl) (pd_var (i := 0) rfl) (pd_str)) (pd_sub (pd_var (i := 3) rfl) (pd_var (i := 4) rfl)) (pd_mul (pd_var (i := 3) rfl) (pd_var (i := 4) rfl)))) (pd_var (i := 5) rfl)))) (pss_nil)) (pss_cons (ps_if (pt_cmp L2.op_in_seq (real_in false) (by rfl) (pd_var (i := 0) rfl) (pd_tup (pa_cons (pd_str) (pa_cons (pd_str) (pa_nil))))) (pss_one (ps_ret (pd_callTy L2.call_int1 real_intB rfl (zs "int" (by decide)) bt_int (pa_cons (pd_cmp (L2.op_eqD hr.units) real_eq (by rfl) (pd_cmp (L2.op_eqD hr.units) real_eq (by rfl) (pd_var (i := 3) rfl) (pd_var (i := 4) rfl)) (pd_cmp (L2.op_eqD hr.units) real_eq (by rfl) (pd_var (i := 0) rfl) (pd_str))) (pa_nil))))) (pss_nil)) (pss_cons (ps_if (pt_cmp L2.op_in_seq (real_in false) (by rfl) (pd_var (i := 0) rfl) (pd_tup (pa_cons (pd_str) (pa_cons (pd_str) (pa_nil))))) (pss_one (ps_ret (pd_callTy L2.call_int1 real_intB rfl (zs "int" (by decide)) bt_int (pa_cons (pd_or' (pd_cmp L2.op_lt real_lt (by rfl) (pd_var (i := 3) rfl) (pd_var (i := 4) rfl)) (pd_one (pd_and' (pd_cmp (L2.op_eqD hr.units) real_eq (by rfl) (pd_var (i := 0) rfl) (pd_str)) (pd_one (pd_cmp (L2.op_eqD hr.units) real_eq (by rfl) (pd_var (i := 3) rfl) (pd_var (i := 4) rfl)))))) (pa_nil))))) (pss_nil)) (pss_cons (ps_if (pt_cmp L2.op_in_seq (real_in false) (by rfl) (pd_var (i := 0) rfl) (pd_tup (pa_cons (pd_str) (pa_cons (pd_str) (pa_cons (pd_str) (pa_nil)))))) (pss_one (ps_ret (pd_if (pt_cmp (L2.op_eqD hr.units) real_eq (by rfl) (pd_var (i := 0) rfl) (pd_str)) (pd_and (pd_var (i := 3) rfl) (pd_var (i := 4) rfl)) (pd_if (pt_cmp (L2.op_eqD hr.units) real_eq (by rfl) (pd_var (i := 0) rfl) (pd_str)) (pd_or (pd_var (i := 3) rfl) (pd_var (i := 4) rfl)) (pd_xor (pd_var (i := 3) rfl) (pd_var (i := 4) rfl)))))) (pss_nil)) (pss_cons (ps_if (pt_cmp L2.op_in_seq (real_in false) (by rfl) (pd_var (i := 0) rfl) (pd_tup (pa_cons (pd_str) (pa_cons (pd_str) (pa_nil))))) (pss_one (ps_ret (pd_if (pt_cmp (L2.op_eqD hr.units) real_eq (by rfl) (pd_var (i := 0) rfl) (pd_str)) (pd_and (pd_shl (pd_var (i := 3) rfl) (pd_callB (L2.call_min2 rfl) real_min2B rfl (zs "min" (by decide)) bt_min (pa_cons (pd_var (i := 4) rfl) (pa_cons (pd_int) (pa_nil))))) (pd_var (i := 5) rfl)) (pd_shr (pd_var (i := 3) rfl) (pd_callB (L2.call_min2 rfl) real_min2B rfl (zs "min" (by decide)) bt_min (pa_cons (pd_var (i := 4) rfl) (pa_cons (pd_int) (pa_nil)))))))) (pss_nil)) (pss_cons (ps_if (pt_cmp (L2.op_eqD hr.units) real_eq (by rfl) (pd_var (i := 4) rfl) (pd_int)) (pss_one (ps_ret (pd_int))) (pss_nil)) (pss_one (ps_ret (pd_if (pt_cmp (L2.op_eqD hr.units) real_eq (by rfl) (pd_var (i := 0) rfl) (pd_str)) (pd_fdiv (pd_var (i := 3) rfl) (pd_var (i := 4) rfl)) (pd_sub (pd_var (i := 3) rfl) (pd_mul (pd_fdiv (pd_var (i := 3) rfl) (pd_var (i := 4) rfl)) (pd_var (i := 4) rfl)))))))))))))))
theorem der_l_source {k : Nat} {c : Cl} (ok : ∀ y ∈ names, Own P w K mg base k (Str.ofString y) (c y)) (oks : ∀ q ∈ snames, OwnS P w K mg base k q.2 (Str.ofString q.1) (c q.1)) (zs : ∀ y ∈ blts, mg (Str.ofString y) = none) {fa : Addr} (cdv : Value) (A : Around) (outer : List PySem.Env) (s : Shared) (H : L2.Hp) (E : L2.XK) (hr : L2.Room k (A.deeper (envOfC "_law_source" (L2.defScope sl_source) s.heap.objs.size fa cdv))) :
    PDSs (L2.cxOf L2.CX0 P w K mg base nl_source "_law_source" (L2.defScope sl_source) fa cdv A outer s H E).nox (L2.defBody sl_source) (b_l_source c) := by
  have nd := scl_source.nd
  unfold b_l_source
  exact pss_one (ps_ret (pd_lst (pa_cons (pd_callTy L2.call_list_of real_listB rfl (zs "list" (by decide)) bt_list (pa_cons (pd_var (i := 0) rfl) (pa_nil))) (pa_cons (pd_int) (pa_cons (pd_int) (pa_cons (pd_int) (pa_cons (pd_int) (pa_cons (pd_int) (pa_cons (pd_non) (pa_cons (pd_int) (pa_cons (pd_int) (pa_cons (pd_int) (pa_nil)))))))))))))
theorem der_l_digit {k : Nat} {c : Cl} (ok : ∀ y ∈ names, Own P w K mg base k (Str.ofString y) (c y)) (oks : ∀ q ∈ snames, OwnS P w K mg base k q.2 (Str.ofString q.1) (c q.1)) (zs : ∀ y ∈ blts, mg (Str.ofString y) = none) {fa : Addr} (cdv : Value) (A : Around) (outer : List PySem.Env) (s : Shared) (H : L2.Hp) (E : L2.XK) (hr : L2.Room k (A.deeper (envOfC "_law_digit" (L2.defScope sl_digit) s.heap.objs.size fa cdv))) :
    PDSs (L2.cxOf L2.CX0 P w K mg base nl_digit "_law_digit" (L2.defScope sl_digit) fa cdv A outer s H E).nox (L2.defBody sl_digit) (b_l_digit c) := by
  have nd := scl_digit.nd
  unfold b_l_digit
  exact pss_cons (ps_asg (pd_add (pd_ix (fun _ _ => rfl) (pd_var (i := 0) rfl) (pd_int)) (pd_int)) (pg_sub (pd_var (i := 0) rfl) (pd_int))) (pss_cons (ps_if (ptw (pw_and (pt_cmp (L2.op_eqD hr.units) real_eq (by rfl) (pd_ix (fun _ _ => rfl) (pd_var (i := 0) rfl) (pd_int)) (pd_int)) (pw_and1 (pt_cmp L2.op_lt real_lt (by rfl) (pd_ix (fun _ _ => rfl) (pd_var (i := 0) rfl) (pd_int)) (pd_callB L2.call_len real_lenB rfl (zs "len" (by decide)) bt_len (pa_cons (pd_ix (fun _ _ => rfl) (pd_var (i := 0) rfl) (pd_int)) (pa_nil))))))) (pss_cons (ps_set (i := 2) nd rfl (by first | exact .inl rfl | exact .inr rfl) (pd_ix (fun _ _ => rfl) (pd_ix (fun _ _ => rfl) (pd_var (i := 0) rfl) (pd_int)) (pd_ix (fun _ _ => rfl) (pd_var (i := 0) rfl) (pd_int)))) (pss_cons (ps_asg (pd_add (pd_ix (fun _ _ => rfl) (pd_var (i := 0) rfl) (pd_int)) (pd_int)) (pg_sub (pd_var (i := 0) rfl) (pd_int))) (pss_cons (ps_asg (pd_mod (pd_callTy L2.call_int1 real_intB rfl (zs "int" (by decide)) bt_int (pa_cons (pd_add (pd_add (pd_mul (pd_ix (fun _ _ => rfl) (pd_var (i := 0) rfl) (pd_int)) (pd_int)) (pd_var (i := 2) rfl)) (pd_int)) (pa_nil))) (pd_int)) (pg_sub (pd_var (i := 0) rfl) (pd_int))) (pss_one (ps_if (pt_cmp L2.op_ge real_ge (by rfl) (pd_callB L2.call_abs real_absB rfl (zs "abs" (by decide)) bt_abs (pa_cons (pd_var (i := 2) rfl) (pa_nil))) (pd_pow (pd_int) (pd_int))) (pss_one (ps_asg (pd_mod (pd_callTy L2.call_int1 real_intB rfl (zs "int" (by decide)) bt_int (pa_cons (pd_callB L2.call_abs real_absB rfl (zs "abs" (by decide)) bt_abs (pa_cons (pd_var (i := 2) rfl) (pa_nil))) (pa_nil))) (pd_shl (pd_int) (pd_int))) (pg_sub (pd_var (i := 0) rfl) (pd_int)))) (pss_nil)))))) (pss_nil)) (pss_cons (ps_if (pt_cmp L2.op_gt real_gt (by rfl) (pd_ix (fun _ _ => rfl) (pd_var (i := 0) rfl) (pd_int)) (pd_int)) (pss_cons (ps_set (i := 3) nd rfl (by first | exact .inl rfl | exact .inr rfl) (pd_mod (pd_callTy L2.call_int1 real_intB rfl (zs "int" (by decide)) bt_int (pa_cons (pd_ix (fun _ _ => rfl) (pd_var (i := 0) rfl) (pd_int)) (pa_nil))) (pd_var (i := 1) rfl))) (pss_cons (ps_asg (pd_fdiv (pd_ix (fun _ _ => rfl) (pd_var (i := 0) rfl) (pd_int)) (pd_var (i := 1) rfl)) (pg_sub (pd_var (i := 0) rfl) (pd_int))) (pss_one (ps_ret (pd_var (i := 3) rfl))))) (pss_nil)) (pss_cons (ps_if (pt_not (pt_tru (pd_ix (fun _ _ => rfl) (pd_var (i := 0) rfl) (pd_int)))) (pss_one (ps_ret (pd_int))) (pss_nil)) (pss_cons (ps_set (i := 4) nd rfl (by first | exact .inl rfl | exact .inr rfl) (pd_mod (pd_callTy L2.call_int1 real_intB rfl (zs "int" (by decide)) bt_int (pa_cons (pd_add (pd_mul (pd_add (pd_ix (fun _ _ => rfl) (pd_var (i := 0) rfl) (pd_int)) (pd_int)) (pd_int)) (pd_mul (pd_ix (fun _ _ => rfl) (pd_var (i := 0) rfl) (pd_int)) (pd_int))) (pa_nil))) (pd_int))) (pss_cons (ps_set (i := 4) nd rfl (by first | exact .inl rfl | exact .inr rfl) (pd_mod (pd_callTy L2.call_int1 real_intB rfl (zs "int" (by decide)) bt_int (pa_cons (pd_mul (pd_var (i := 4) rfl) (pd_add (pd_var (i := 4) rfl) (pd_ix (fun _ _ => rfl) (pd_var (i := 0) rfl) (pd_int)))) (pa_nil))) (pd_int))) (pss_one (ps_ret (pd_mod (pd_callTy L2.call_int1 real_intB rfl (zs "int" (by decide)) bt_int (pa_cons (pd_fdiv (pd_var (i := 4) rfl) (pd_int)) (pa_nil))) (pd_var (i := 1) rfl)))))))))
theorem der_l_pick_one {k : Nat} {c : Cl} (ok : ∀ y ∈ names, Own P w K mg base k (Str.ofString y) (c y)) (oks : ∀ q ∈ snames, OwnS P w K mg base k q.2 (Str.ofString q.1) (c q.1)) (zs : ∀ y ∈ blts, mg (Str.ofString y) = none) {fa : Addr} (cdv : Value) (A : Around) (outer : List PySem.Env) (s : Shared) (H : L2.Hp) (E : L2.XK) (hr : L2.Room k (A.deeper (envOfC "_law_pick_one" (L2.defScope sl_pick_one) s.heap.objs.size fa cdv))) :
    PDSs (L2.cxOf L2.CX0 P w K mg base nl_pick_one "_law_pick_one" (L2.defScope sl_pick_one) fa cdv A outer s H E).nox (L2.defBody sl_pick_one) (b_l_pick_one c) := by
  have nd := scl_pick_one.nd
  unfold b_l_pick_one
  exact pss_one (ps_ret (pd_ix (fun _ _ => rfl) (pd_var (i := 1) rfl) (pd_call (y := "_law_digit") (ok "_law_digit" (by decide)) hr rfl (pa_cons (pd_var (i := 0) rfl) (pa_cons (pd_callB L2.call_len real_lenB rfl (zs "len" (by decide)) bt_len (pa_cons (pd_var (i := 1) rfl) (pa_nil))) (pa_nil))))))
theorem der_l_label {k : Nat} {c : Cl} (ok : ∀ y ∈ names, Own P w K mg base k (Str.ofString y) (c y)) (oks : ∀ q ∈ snames, OwnS P w K mg base k q.2 (Str.ofString q.1) (c q.1)) (zs : ∀ y ∈ blts, mg (Str.ofString y) = none) {fa : Addr} (cdv : Value) (A : Around) (outer : List PySem.Env) (s : Shared) (H : L2.Hp) (E : L2.XK) (hr : L2.Room k (A.deeper (envOfC "_law_label" (L2.defScope sl_label) s.heap.objs.size fa cdv))) :
    PDSs (L2.cxOf L2.CX0 P w K mg base nl_label "_law_label" (L2.defScope sl_label) fa cdv A outer s H E).nox (L2.defBody sl_label) (b_l_label c) := by
  have nd := scl_label.nd
  unfold b_l_label
  exact pss_cons (ps_set (i := 2) nd rfl (by first | exact .inl rfl | exact .inr rfl) (pd_str)) (pss_cons (ps_set (i := 3) nd rfl (by first | exact .inl rfl | exact .inr rfl) (pd_add (pd_var (i := 2) rfl) (pd_str))) (pss_cons (ps_set (i := 4) nd rfl (by first | exact .inl rfl | exact .inr rfl) (pd_str)) (pss_cons (ps_set (i := 5) nd rfl (by first | exact .inl rfl | exact .inr rfl) (pd_str)) (pss_cons (ps_for PassesOwn.never rfl (pi_r1 rfl (zs "range" (by decide)) (pd_mod (pd_callTy L2.call_int1 real_intB rfl (zs "int" (by decide)) bt_int (pa_cons (pd_var (i := 0) rfl) (pa_nil))) (pd_int))) (pg_name (i := 6) nd rfl (by first | exact .inl rfl | exact .inr rfl)) (pss_one (ps_set (i := 5) nd rfl (by first | exact .inl rfl | exact .inr rfl) (pd_add (pd_var (i := 5) rfl) (pd_ix (fun _ _ => rfl) (pd_var (i := 2) rfl) (pd_mod (pd_callTy L2.call_int1 real_intB rfl (zs "int" (by decide)) bt_int (pa_cons (pd_add (pd_fdiv (pd_var (i := 0) rfl) (pd_int)) (pd_mul (pd_int) (pd_var (i := 6) rfl))) (pa_nil))) (pd_int))))))) (pss_cons (ps_set (i := 7) nd rfl (by first | exact .inl rfl | exact .inr rfl) (pd_add (pd_fdiv (pd_var (i := 0) rfl) (pd_int)) (pd_mul (pd_int) (pd_var (i := 1) rfl)))) (pss_cons (ps_set (i := 5) nd rfl (by first | exact .inl rfl | exact .inr rfl) (pd_add (pd_var (i := 5) rfl) (pd_ix (fun _ _ => rfl) (pd_var (i := 2) rfl) (pd_mod (pd_callTy L2.call_int1 real_intB rfl (zs "int" (by decide)) bt_int (pa_cons (pd_var (i := 7) rfl) (pa_nil))) (pd_int))))) (pss_cons (ps_for PassesOwn.never rfl (pi_r1 rfl (zs "range" (by decide)) (pd_mod (pd_callTy L2.call_int1 real_intB rfl (zs "int" (by decide)) bt_int (pa_cons (pd_add (pd_fdiv (pd_var (i := 0) rfl) (pd_int)) (pd_var (i := 1) rfl)) (pa_nil))) (pd_int))) (pg_name (i := 6) nd rfl (by first | exact .inl rfl | exact .inr rfl)) (pss_cons (ps_set (i := 7) nd rfl (by first | exact .inl rfl | exact .inr rfl) (pd_fdiv (pd_var (i := 7) rfl) (pd_int))) (pss_one (ps_set (i := 5) nd rfl (by first | exact .inl rfl | exact .inr rfl) (pd_add (pd_var (i := 5) rfl) (pd_ix (fun _ _ => rfl) (pd_var (i := 3) rfl) (pd_mod (pd_callTy L2.call_int1 real_intB rfl (zs "int" (by decide)) bt_int (pa_cons (pd_var (i := 7) rfl) (pa_nil))) (pd_int)))))))) (pss_cons (ps_if (pt_cmp L2.op_in_seq (real_in false) (by rfl) (pd_var (i := 5) rfl) (pd_m L2.mt_split real_split ty_str PySem.F.plainAttrs_str PySem.F.slot_str_split PySem.F.type_str_split (pd_add (pd_var (i := 4) rfl) (pd_str)) (pa_cons (pd_str) (pa_nil)))) (pss_one (ps_set (i := 5) nd rfl (by first | exact .inl rfl | exact .inr rfl) (pd_slS (pd_add (pd_var (i := 5) rfl) (pd_str)) (po_none) (po_some (pd_int))))) (pss_nil)) (pss_one (ps_ret (pd_var (i := 5) rfl)))))))))))
theorem der_l_bare {k : Nat} {c : Cl} (ok : ∀ y ∈ names, Own P w K mg base k (Str.ofString y) (c y)) (oks : ∀ q ∈ snames, OwnS P w K mg base k q.2 (Str.ofString q.1) (c q.1)) (zs : ∀ y ∈ blts, mg (Str.ofString y) = none) {fa : Addr} (cdv : Value) (A : Around) (outer : List PySem.Env) (s : Shared) (H : L2.Hp) (E : L2.XK) (hr : L2.Room k (A.deeper (envOfC "_law_bare" (L2.defScope sl_bare) s.heap.objs.size fa cdv))) :
    PDSs (L2.cxOf L2.CX0 P w K mg base nl_bare "_law_bare" (L2.defScope sl_bare) fa cdv A outer s H E).nox (L2.defBody sl_bare) (b_l_bare c) := by
  have nd := scl_bare.nd
  unfold b_l_bare
  exact pss_one (ps_ret (pd_tup (pa_cons (pd_var (i := 0) rfl) (pa_cons (pd_lst (pa_nil)) (pa_cons (pd_bl) (pa_cons (pd_int) (pa_cons (pd_ix (fun _ _ => rfl) (pd_var (i := 1) rfl) (pd_int)) (pa_cons (pd_ix (fun _ _ => rfl) (pd_var (i := 1) rfl) (pd_int)) (pa_nil)))))))))
theorem der_l_leaves {k : Nat} {c : Cl} (ok : ∀ y ∈ names, Own P w K mg base k (Str.ofString y) (c y)) (oks : ∀ q ∈ snames, OwnS P w K mg base k q.2 (Str.ofString q.1) (c q.1)) (zs : ∀ y ∈ blts, mg (Str.ofString y) = none) {fa : Addr} (cdv : Value) (A : Around) (outer : List PySem.Env) (s : Shared) (H : L2.Hp) (E : L2.XK) (hr : L2.Room k (A.deeper (envOfC "_law_leaves" (L2.defScope sl_leaves) s.heap.objs.size fa cdv))) :
    PDSs (L2.cxOf L2.CX0 P w K mg base nl_leaves "_law_leaves" (L2.defScope sl_leaves) fa cdv A outer s H E).nox (L2.defBody sl_leaves) (b_l_leaves c) := by
  have nd := scl_leaves.nd
  unfold b_l_leaves
  exact pss_cons (ps_setLc (j := 2) (own := [("_law_row", 3)]) rfl nd rfl rfl (L2.sw_true rfl rfl rfl (by decide +kernel)) (pi_seq (pd_ix (fun _ _ => rfl) (pd_var (i := 0) rfl) (pd_int))) (L2.blkOk_by (N := nl_leaves) (sc := L2.defScope sl_leaves) (by decide +kernel)) (fun _ _ _ _ _ => pg_name (i := 3) nd rfl (by first | exact .inl rfl | exact .inr rfl)) (fun _ _ _ _ _ => pts_one (ptw (pw_and (pt_cmp (L2.op_eqD hr.units) real_eq (by rfl) (pd_callB L2.call_len real_lenB rfl (zs "len" (by decide)) bt_len (pa_cons (pd_var (i := 3) rfl) (pa_nil))) (pd_int)) (pw_and1 (pt_cmp (L2.op_eqD hr.units) real_eq (by rfl) (pd_ix (fun _ _ => rfl) (pd_var (i := 3) rfl) (pd_int)) (pd_var (i := 1) rfl)))))) (fun _ _ _ _ _ => pd_tup (pa_cons (pd_str) (pa_cons (pd_ix (fun _ _ => rfl) (pd_var (i := 3) rfl) (pd_int)) (pa_nil)))) (by decide)) (pss_one (ps_ret (pd_add (pd_var (i := 2) rfl) (pd_lc (own := [("_law_row", 3)]) rfl nd (pi_seq (pd_ix (fun _ _ => rfl) (pd_var (i := 0) rfl) (pd_int))) (L2.blkOk_by (N := nl_leaves) (sc := L2.defScope sl_leaves) (by decide +kernel)) (fun _ _ _ _ _ => pg_name (i := 3) nd rfl (by first | exact .inl rfl | exact .inr rfl)) (fun _ _ _ _ _ => pts_one (pt_cmp (L2.op_eqD hr.units) real_eq (by rfl) (pd_ix (fun _ _ => rfl) (pd_var (i := 3) rfl) (pd_int)) (pd_var (i := 1) rfl))) (fun _ _ _ _ _ => pd_tup (pa_cons (pd_str) (pa_cons (pd_ix (fun _ _ => rfl) (pd_var (i := 3) rfl) (pd_int)) (pa_cons (pd_ix (fun _ _ => rfl) (pd_var (i := 3) rfl) (pd_int)) (pa_nil))))) (by decide)))))
theorem der_l_kinded {k : Nat} {c : Cl} (ok : ∀ y ∈ names, Own P w K mg base k (Str.ofString y) (c y)) (oks : ∀ q ∈ snames, OwnS P w K mg base k q.2 (Str.ofString q.1) (c q.1)) (zs : ∀ y ∈ blts, mg (Str.ofString y) = none) {fa : Addr} (cdv : Value) (A : Around) (outer : List PySem.Env) (s : Shared) (H : L2.Hp) (E : L2.XK) (hr : L2.Room k (A.deeper (envOfC "_law_kinded" (L2.defScope sl_kinded) s.heap.objs.size fa cdv))) :
    PDSs (L2.cxOf L2.CX0 P w K mg base nl_kinded "_law_kinded" (L2.defScope sl_kinded) fa cdv A outer s H E).nox (L2.defBody sl_kinded) (b_l_kinded c) := by
  have nd := scl_kinded.nd
  unfold b_l_kinded
  exact pss_cons (ps_if (pt_tru (pd_isi (T := "int") .int rfl (zs "isinstance" (by decide)) rfl rfl (zs "int" (by decide)) bt_int (pd_var (i := 2) rfl))) (pss_one (ps_ret (pd_call (y := "_law_typed") (ok "_law_typed" (by decide)) hr rfl (pa_cons (pd_var (i := 0) rfl) (pa_cons (pd_var (i := 1) rfl) (pa_cons (pd_var (i := 2) rfl) (pa_cons (pd_var (i := 3) rfl) (pa_nil)))))))) (pss_nil)) (pss_one (ps_ret (pd_call (y := "_law_pick_one") (ok "_law_pick_one" (by decide)) hr rfl (pa_cons (pd_var (i := 0) rfl) (pa_cons (pd_add (pd_call (y := "_law_leaves") (ok "_law_leaves" (by decide)) hr rfl (pa_cons (pd_var (i := 1) rfl) (pa_cons (pd_var (i := 2) rfl) (pa_nil)))) (pd_lst (pa_cons (pd_tup (pa_cons (pd_str) (pa_nil))) (pa_nil)))) (pa_nil))))))
theorem der_l_typed {k : Nat} {c : Cl} (ok : ∀ y ∈ names, Own P w K mg base k (Str.ofString y) (c y)) (oks : ∀ q ∈ snames, OwnS P w K mg base k q.2 (Str.ofString q.1) (c q.1)) (zs : ∀ y ∈ blts, mg (Str.ofString y) = none) {fa : Addr} (cdv : Value) (A : Around) (outer : List PySem.Env) (s : Shared) (H : L2.Hp) (E : L2.XK) (hr : L2.Room k (A.deeper (envOfC "_law_typed" (L2.defScope sl_typed) s.heap.objs.size fa cdv))) :
    PDSs (L2.cxOf L2.CX0 P w K mg base nl_typed "_law_typed" (L2.defScope sl_typed) fa cdv A outer s H E).nox (L2.defBody sl_typed) (b_l_typed c) := by
  have nd := scl_typed.nd
  unfold b_l_typed
  exact pss_cons (ps_set (i := 4) nd rfl (by first | exact .inl rfl | exact .inr rfl) (pd_call (y := "_law_leaves") (ok "_law_leaves" (by decide)) hr rfl (pa_cons (pd_var (i := 1) rfl) (pa_cons (pd_var (i := 2) rfl) (pa_nil))))) (pss_cons (ps_set (i := 5) nd rfl (by first | exact .inl rfl | exact .inr rfl) (pd_call (y := "_law_digit") (ok "_law_digit" (by decide)) hr rfl (pa_cons (pd_var (i := 0) rfl) (pa_cons (pd_if (pt_cmp L2.op_gt real_gt (by rfl) (pd_var (i := 3) rfl) (pd_int)) (pd_int) (pd_int)) (pa_nil))))) (pss_cons (ps_if (ptw (pw_and (pt_cmp L2.op_lt real_lt (by rfl) (pd_var (i := 5) rfl) (pd_int)) (pw_and1 (pt_tru (pd_var (i := 4) rfl))))) (pss_one (ps_ret (pd_call (y := "_law_pick_one") (ok "_law_pick_one" (by decide)) hr rfl (pa_cons (pd_var (i := 0) rfl) (pa_cons (pd_var (i := 4) rfl) (pa_nil)))))) (pss_nil)) (pss_cons (ps_if (pt_cmp L2.op_lt real_lt (by rfl) (pd_var (i := 5) rfl) (pd_int)) (pss_one (ps_ret (pd_tup (pa_cons (pd_str) (pa_cons (pd_call (y := "_law_digit") (ok "_law_digit" (by decide)) hr rfl (pa_cons (pd_var (i := 0) rfl) (pa_cons (pd_shl (pd_int) (pd_var (i := 2) rfl)) (pa_nil)))) (pa_cons (pd_var (i := 2) rfl) (pa_nil))))))) (pss_nil)) (pss_cons (ps_if (ptw (pw_and (pt_cmp L2.op_lt real_lt (by rfl) (pd_var (i := 5) rfl) (pd_int)) (pw_and1 (ptw (pw_or (pt_cmp L2.op_gt real_gt (by rfl) (pd_var (i := 2) rfl) (pd_int)) (pw_or1 (pt_cmp (L2.op_eqD hr.units) real_eq (by rfl) (pd_var (i := 5) rfl) (pd_int)))))))) (pss_one (ps_ret (pd_call (y := "_law_binary") (ok "_law_binary" (by decide)) hr rfl (pa_cons (pd_var (i := 0) rfl) (pa_cons (pd_var (i := 1) rfl) (pa_cons (pd_var (i := 2) rfl) (pa_cons (pd_sub (pd_var (i := 3) rfl) (pd_int)) (pa_nil)))))))) (pss_nil)) (pss_cons (ps_if (pt_cmp (L2.op_eqD hr.units) real_eq (by rfl) (pd_var (i := 5) rfl) (pd_int)) (pss_cons (ps_set (i := 6) nd rfl (by first | exact .inl rfl | exact .inr rfl) (pd_call (y := "_law_pick_one") (ok "_law_pick_one" (by decide)) hr rfl (pa_cons (pd_var (i := 0) rfl) (pa_cons (pd_lst (pa_cons (pd_str) (pa_cons (pd_str) (pa_nil)))) (pa_nil))))) (pss_one (ps_ret (pd_tup (pa_cons (pd_var (i := 6) rfl) (pa_cons (pd_call (y := "_law_typed") (ok "_law_typed" (by decide)) hr rfl (pa_cons (pd_var (i := 0) rfl) (pa_cons (pd_var (i := 1) rfl) (pa_cons (pd_var (i := 2) rfl) (pa_cons (pd_sub (pd_var (i := 3) rfl) (pd_int)) (pa_nil)))))) (pa_nil))))))) (pss_nil)) (pss_cons (ps_if (pt_cmp (L2.op_eqD hr.units) real_eq (by rfl) (pd_var (i := 5) rfl) (pd_int)) (pss_cons (ps_set (i := 6) nd rfl (by first | exact .inl rfl | exact .inr rfl) (pd_call (y := "_law_pick_one") (ok "_law_pick_one" (by decide)) hr rfl (pa_cons (pd_var (i := 0) rfl) (pa_cons (pd_lst (pa_cons (pd_str) (pa_cons (pd_str) (pa_nil)))) (pa_nil))))) (pss_cons (ps_set (i := 7) nd rfl (by first | exact .inl rfl | exact .inr rfl) (pd_call (y := "_law_typed") (ok "_law_typed" (by decide)) hr rfl (pa_cons (pd_var (i := 0) rfl) (pa_cons (pd_var (i := 1) rfl) (pa_cons (pd_var (i := 2) rfl) (pa_cons (pd_sub (pd_var (i := 3) rfl) (pd_int)) (pa_nil))))))) (pss_one (ps_ret (pd_tup (pa_cons (pd_var (i := 6) rfl) (pa_cons (pd_var (i := 7) rfl) (pa_cons (pd_call (y := "_law_typed") (ok "_law_typed" (by decide)) hr rfl (pa_cons (pd_var (i := 0) rfl) (pa_cons (pd_var (i := 1) rfl) (pa_cons (pd_add (pd_int) (pd_call (y := "_law_digit") (ok "_law_digit" (by decide)) hr rfl (pa_cons (pd_var (i := 0) rfl) (pa_cons (pd_int) (pa_nil))))) (pa_cons (pd_sub (pd_var (i := 3) rfl) (pd_int)) (pa_nil)))))) (pa_nil))))))))) (pss_nil)) (pss_cons (ps_if (pt_cmp (L2.op_eqD hr.units) real_eq (by rfl) (pd_var (i := 5) rfl) (pd_int)) (pss_cons (ps_set (i := 8) nd rfl (by first | exact .inl rfl | exact .inr rfl) (pd_call (y := "_law_typed") (ok "_law_typed" (by decide)) hr rfl (pa_cons (pd_var (i := 0) rfl) (pa_cons (pd_var (i := 1) rfl) (pa_cons (pd_int) (pa_cons (pd_sub (pd_var (i := 3) rfl) (pd_int)) (pa_nil))))))) (pss_cons (ps_set (i := 7) nd rfl (by first | exact .inl rfl | exact .inr rfl) (pd_call (y := "_law_typed") (ok "_law_typed" (by decide)) hr rfl (pa_cons (pd_var (i := 0) rfl) (pa_cons (pd_var (i := 1) rfl) (pa_cons (pd_var (i := 2) rfl) (pa_cons (pd_sub (pd_var (i := 3) rfl) (pd_int)) (pa_nil))))))) (pss_one (ps_ret (pd_tup (pa_cons (pd_str) (pa_cons (pd_var (i := 8) rfl) (pa_cons (pd_var (i := 7) rfl) (pa_cons (pd_call (y := "_law_typed") (ok "_law_typed" (by decide)) hr rfl (pa_cons (pd_var (i := 0) rfl) (pa_cons (pd_var (i := 1) rfl) (pa_cons (pd_var (i := 2) rfl) (pa_cons (pd_sub (pd_var (i := 3) rfl) (pd_int)) (pa_nil)))))) (pa_nil)))))))))) (pss_nil)) (pss_cons (ps_if (pt_cmp (L2.op_eqD hr.units) real_eq (by rfl) (pd_var (i := 5) rfl) (pd_int)) (pss_one (ps_ret (pd_tup (pa_cons (pd_str) (pa_cons (pd_call (y := "_law_typed") (ok "_law_typed" (by decide)) hr rfl (pa_cons (pd_var (i := 0) rfl) (pa_cons (pd_var (i := 1) rfl) (pa_cons (pd_add (pd_int) (pd_call (y := "_law_digit") (ok "_law_digit" (by decide)) hr rfl (pa_cons (pd_var (i := 0) rfl) (pa_cons (pd_ix (fun _ _ => rfl) (pd_var (i := 1) rfl) (pd_int)) (pa_nil))))) (pa_cons (pd_sub (pd_var (i := 3) rfl) (pd_int)) (pa_nil)))))) (pa_cons (pd_var (i := 2) rfl) (pa_nil))))))) (pss_nil)) (pss_cons (ps_setLc (j := 9) (own := [("_law_row", 10)]) rfl nd rfl rfl (L2.sw_true rfl rfl rfl (by decide +kernel)) (pi_seq (pd_ix (fun _ _ => rfl) (pd_var (i := 1) rfl) (pd_int))) (L2.blkOk_by (N := nl_typed) (sc := L2.defScope sl_typed) (by decide +kernel)) (fun _ _ _ _ _ => pg_name (i := 10) nd rfl (by first | exact .inl rfl | exact .inr rfl)) (fun _ _ _ _ _ => pts_one (ptw (pw_and (pt_cmp (L2.op_eqD hr.units) real_eq (by rfl) (pd_callB L2.call_len real_lenB rfl (zs "len" (by decide)) bt_len (pa_cons (pd_var (i := 10) rfl) (pa_nil))) (pd_int)) (pw_and1 (pt_cmp (L2.op_eqD hr.units) real_eq (by rfl) (pd_ix (fun _ _ => rfl) (pd_var (i := 10) rfl) (pd_int)) (pd_var (i := 2) rfl)))))) (fun _ _ _ _ _ => pd_var (i := 10) rfl) (by decide)) (pss_cons (ps_if (ptw (pw_and (pt_cmp (L2.op_eqD hr.units) real_eq (by rfl) (pd_var (i := 5) rfl) (pd_int)) (pw_and1 (pt_tru (pd_var (i := 9) rfl))))) (pss_cons (ps_set (i := 10) nd rfl (by first | exact .inl rfl | exact .inr rfl) (pd_call (y := "_law_pick_one") (ok "_law_pick_one" (by decide)) hr rfl (pa_cons (pd_var (i := 0) rfl) (pa_cons (pd_var (i := 9) rfl) (pa_nil))))) (pss_one (ps_ret (pd_tup (pa_cons (pd_str) (pa_cons (pd_ix (fun _ _ => rfl) (pd_var (i := 10) rfl) (pd_int)) (pa_cons (pd_call (y := "_law_typed") (ok "_law_typed" (by decide)) hr rfl (pa_cons (pd_var (i := 0) rfl) (pa_cons (pd_var (i := 1) rfl) (pa_cons (pd_add (pd_int) (pd_call (y := "_law_digit") (ok "_law_digit" (by decide)) hr rfl (pa_cons (pd_var (i := 0) rfl) (pa_cons (pd_int) (pa_nil))))) (pa_cons (pd_sub (pd_var (i := 3) rfl) (pd_int)) (pa_nil)))))) (pa_nil)))))))) (pss_nil)) (pss_cons (ps_if (pt_cmp (L2.op_eqD hr.units) real_eq (by rfl) (pd_var (i := 2) rfl) (pd_int)) (pss_one (ps_ret (pd_call (y := "_law_compared") (ok "_law_compared" (by decide)) hr rfl (pa_cons (pd_var (i := 0) rfl) (pa_cons (pd_var (i := 1) rfl) (pa_cons (pd_sub (pd_var (i := 3) rfl) (pd_int)) (pa_nil))))))) (pss_nil)) (pss_one (ps_ret (pd_call (y := "_law_binary") (ok "_law_binary" (by decide)) hr rfl (pa_cons (pd_var (i := 0) rfl) (pa_cons (pd_var (i := 1) rfl) (pa_cons (pd_var (i := 2) rfl) (pa_cons (pd_sub (pd_var (i := 3) rfl) (pd_int)) (pa_nil)))))))))))))))))))
theorem der_l_binary {k : Nat} {c : Cl} (ok : ∀ y ∈ names, Own P w K mg base k (Str.ofString y) (c y)) (oks : ∀ q ∈ snames, OwnS P w K mg base k q.2 (Str.ofString q.1) (c q.1)) (zs : ∀ y ∈ blts, mg (Str.ofString y) = none) {fa : Addr} (cdv : Value) (A : Around) (outer : List PySem.Env) (s : Shared) (H : L2.Hp) (E : L2.XK) (hr : L2.Room k (A.deeper (envOfC "_law_binary" (L2.defScope sl_binary) s.heap.objs.size fa cdv))) :
    PDSs (L2.cxOf L2.CX0 P w K mg base nl_binary "_law_binary" (L2.defScope sl_binary) fa cdv A outer s H E).nox (L2.defBody sl_binary) (b_l_binary c) := by
  have nd := scl_binary.nd
  unfold b_l_binary
  exact pss_cons (ps_set (i := 4) nd rfl (by first | exact .inl rfl | exact .inr rfl) (pd_lst (pa_cons (pd_str) (pa_cons (pd_str) (pa_cons (pd_str) (pa_cons (pd_str) (pa_cons (pd_str) (pa_cons (pd_str) (pa_cons (pd_str) (pa_cons (pd_str) (pa_nil))))))))))) (pss_cons (ps_set (i := 5) nd rfl (by first | exact .inl rfl | exact .inr rfl) (pd_ix (fun _ _ => rfl) (pd_var (i := 4) rfl) (pd_call (y := "_law_digit") (ok "_law_digit" (by decide)) hr rfl (pa_cons (pd_var (i := 0) rfl) (pa_cons (pd_if (pt_tru (pd_ix (fun _ _ => rfl) (pd_var (i := 1) rfl) (pd_int))) (pd_int) (pd_int)) (pa_nil)))))) (pss_cons (ps_set (i := 6) nd rfl (by first | exact .inl rfl | exact .inr rfl) (pd_call (y := "_law_typed") (ok "_law_typed" (by decide)) hr rfl (pa_cons (pd_var (i := 0) rfl) (pa_cons (pd_var (i := 1) rfl) (pa_cons (pd_var (i := 2) rfl) (pa_cons (pd_var (i := 3) rfl) (pa_nil))))))) (pss_one (ps_ret (pd_tup (pa_cons (pd_var (i := 5) rfl) (pa_cons (pd_var (i := 6) rfl) (pa_cons (pd_call (y := "_law_typed") (ok "_law_typed" (by decide)) hr rfl (pa_cons (pd_var (i := 0) rfl) (pa_cons (pd_var (i := 1) rfl) (pa_cons (pd_var (i := 2) rfl) (pa_cons (pd_var (i := 3) rfl) (pa_nil)))))) (pa_nil)))))))))
theorem der_l_compared {k : Nat} {c : Cl} (ok : ∀ y ∈ names, Own P w K mg base k (Str.ofString y) (c y)) (oks : ∀ q ∈ snames, OwnS P w K mg base k q.2 (Str.ofString q.1) (c q.1)) (zs : ∀ y ∈ blts, mg (Str.ofString y) = none) {fa : Addr} (cdv : Value) (A : Around) (outer : List PySem.Env) (s : Shared) (H : L2.Hp) (E : L2.XK) (hr : L2.Room k (A.deeper (envOfC "_law_compared" (L2.defScope sl_compared) s.heap.objs.size fa cdv))) :
    PDSs (L2.cxOf L2.CX0 P w K mg base nl_compared "_law_compared" (L2.defScope sl_compared) fa cdv A outer s H E).nox (L2.defBody sl_compared) (b_l_compared c) := by
  have nd := scl_compared.nd
  unfold b_l_compared
  exact pss_cons (ps_set (i := 3) nd rfl (by first | exact .inl rfl | exact .inr rfl) (pd_call (y := "_law_pick_one") (ok "_law_pick_one" (by decide)) hr rfl (pa_cons (pd_var (i := 0) rfl) (pa_cons (pd_lst (pa_cons (pd_str) (pa_cons (pd_str) (pa_cons (pd_str) (pa_cons (pd_str) (pa_nil)))))) (pa_nil))))) (pss_cons (ps_setLc (j := 4) (own := [("_law_row", 9)]) rfl nd rfl rfl (L2.sw_true rfl rfl rfl (by decide +kernel)) (pi_seq (pd_ix (fun _ _ => rfl) (pd_var (i := 1) rfl) (pd_int))) (L2.blkOk_by (N := nl_compared) (sc := L2.defScope sl_compared) (by decide +kernel)) (fun _ _ _ _ _ => pg_name (i := 9) nd rfl (by first | exact .inl rfl | exact .inr rfl)) (fun _ _ _ _ _ => pts_one (pt_tru (pd_isi (T := "str") .str rfl (zs "isinstance" (by decide)) rfl rfl (zs "str" (by decide)) bt_str (pd_ix (fun _ _ => rfl) (pd_var (i := 9) rfl) (pd_int))))) (fun _ _ _ _ _ => pd_ix (fun _ _ => rfl) (pd_var (i := 9) rfl) (pd_int)) (by decide)) (pss_cons (ps_if (ptw (pw_and (pt_cmp L2.op_in_seq (real_in false) (by rfl) (pd_var (i := 3) rfl) (pd_tup (pa_cons (pd_str) (pa_cons (pd_str) (pa_nil))))) (pw_and (pt_tru (pd_var (i := 4) rfl)) (pw_and1 (pt_cmp (L2.op_eqD hr.units) real_eq (by rfl) (pd_call (y := "_law_digit") (ok "_law_digit" (by decide)) hr rfl (pa_cons (pd_var (i := 0) rfl) (pa_cons (pd_int) (pa_nil)))) (pd_int)))))) (pss_cons (ps_set (i := 5) nd rfl (by first | exact .inl rfl | exact .inr rfl) (pd_call (y := "_law_pick_one") (ok "_law_pick_one" (by decide)) hr rfl (pa_cons (pd_var (i := 0) rfl) (pa_cons (pd_var (i := 4) rfl) (pa_nil))))) (pss_cons (ps_set (i := 6) nd rfl (by first | exact .inl rfl | exact .inr rfl) (pd_call (y := "_law_kinded") (ok "_law_kinded" (by decide)) hr rfl (pa_cons (pd_var (i := 0) rfl) (pa_cons (pd_var (i := 1) rfl) (pa_cons (pd_var (i := 5) rfl) (pa_cons (pd_var (i := 2) rfl) (pa_nil))))))) (pss_one (ps_ret (pd_tup (pa_cons (pd_var (i := 3) rfl) (pa_cons (pd_var (i := 6) rfl) (pa_cons (pd_call (y := "_law_kinded") (ok "_law_kinded" (by decide)) hr rfl (pa_cons (pd_var (i := 0) rfl) (pa_cons (pd_var (i := 1) rfl) (pa_cons (pd_var (i := 5) rfl) (pa_cons (pd_var (i := 2) rfl) (pa_nil)))))) (pa_nil))))))))) (pss_nil)) (pss_cons (ps_set (i := 7) nd rfl (by first | exact .inl rfl | exact .inr rfl) (pd_add (pd_int) (pd_call (y := "_law_digit") (ok "_law_digit" (by decide)) hr rfl (pa_cons (pd_var (i := 0) rfl) (pa_cons (pd_ix (fun _ _ => rfl) (pd_var (i := 1) rfl) (pd_int)) (pa_nil)))))) (pss_cons (ps_setLc (j := 8) (own := [("_law_row", 9)]) rfl nd rfl rfl (L2.sw_true rfl rfl rfl (by decide +kernel)) (pi_seq (pd_ix (fun _ _ => rfl) (pd_var (i := 1) rfl) (pd_int))) (L2.blkOk_by (N := nl_compared) (sc := L2.defScope sl_compared) (by decide +kernel)) (fun _ _ _ _ _ => pg_name (i := 9) nd rfl (by first | exact .inl rfl | exact .inr rfl)) (fun _ _ _ _ _ => pts_one (ptw (pw_and (pt_cmp (L2.op_eqD hr.units) real_eq (by rfl) (pd_callB L2.call_len real_lenB rfl (zs "len" (by decide)) bt_len (pa_cons (pd_var (i := 9) rfl) (pa_nil))) (pd_int)) (pw_and1 (pt_tru (pd_isi (T := "int") .int rfl (zs "isinstance" (by decide)) rfl rfl (zs "int" (by decide)) bt_int (pd_ix (fun _ _ => rfl) (pd_var (i := 9) rfl) (pd_int)))))))) (fun _ _ _ _ _ => pd_ix (fun _ _ => rfl) (pd_var (i := 9) rfl) (pd_int)) (by decide)) (pss_cons (ps_if (ptw (pw_and (pt_tru (pd_var (i := 8) rfl)) (pw_and1 (pt_cmp (L2.op_eqD hr.units) real_eq (by rfl) (pd_call (y := "_law_digit") (ok "_law_digit" (by decide)) hr rfl (pa_cons (pd_var (i := 0) rfl) (pa_cons (pd_int) (pa_nil)))) (pd_int))))) (pss_one (ps_set (i := 7) nd rfl (by first | exact .inl rfl | exact .inr rfl) (pd_call (y := "_law_pick_one") (ok "_law_pick_one" (by decide)) hr rfl (pa_cons (pd_var (i := 0) rfl) (pa_cons (pd_var (i := 8) rfl) (pa_nil)))))) (pss_nil)) (pss_cons (ps_set (i := 6) nd rfl (by first | exact .inl rfl | exact .inr rfl) (pd_call (y := "_law_typed") (ok "_law_typed" (by decide)) hr rfl (pa_cons (pd_var (i := 0) rfl) (pa_cons (pd_var (i := 1) rfl) (pa_cons (pd_var (i := 7) rfl) (pa_cons (pd_var (i := 2) rfl) (pa_nil))))))) (pss_one (ps_ret (pd_tup (pa_cons (pd_var (i := 3) rfl) (pa_cons (pd_var (i := 6) rfl) (pa_cons (pd_call (y := "_law_typed") (ok "_law_typed" (by decide)) hr rfl (pa_cons (pd_var (i := 0) rfl) (pa_cons (pd_var (i := 1) rfl) (pa_cons (pd_var (i := 7) rfl) (pa_cons (pd_var (i := 2) rfl) (pa_nil)))))) (pa_nil)))))))))))))
theorem der_l_salts {k : Nat} {c : Cl} (ok : ∀ y ∈ names, Own P w K mg base k (Str.ofString y) (c y)) (oks : ∀ q ∈ snames, OwnS P w K mg base k q.2 (Str.ofString q.1) (c q.1)) (zs : ∀ y ∈ blts, mg (Str.ofString y) = none) {fa : Addr} (cdv : Value) (A : Around) (outer : List PySem.Env) (s : Shared) (H : L2.Hp) (E : L2.XK) (hr : L2.Room k (A.deeper (envOfC "_law_salts" (L2.defScope sl_salts) s.heap.objs.size fa cdv))) :
    PDSs (L2.cxOf L2.CX0 P w K mg base nl_salts "_law_salts" (L2.defScope sl_salts) fa cdv A outer s H E).nox (L2.defBody sl_salts) (b_l_salts c) := by
  have nd := scl_salts.nd
  unfold b_l_salts
  exact pss_cons (ps_set (i := 1) nd rfl (by first | exact .inl rfl | exact .inr rfl) (pd_call (y := "_law_digit") (ok "_law_digit" (by decide)) hr rfl (pa_cons (pd_var (i := 0) rfl) (pa_cons (pd_int) (pa_nil))))) (pss_cons (ps_if (pt_cmp (L2.op_eqD hr.units) real_eq (by rfl) (pd_call (y := "_law_digit") (ok "_law_digit" (by decide)) hr rfl (pa_cons (pd_var (i := 0) rfl) (pa_cons (pd_int) (pa_nil)))) (pd_int)) (pss_one (ps_ret (pd_lst (pa_cons (pd_var (i := 1) rfl) (pa_cons (pd_var (i := 1) rfl) (pa_cons (pd_var (i := 1) rfl) (pa_nil))))))) (pss_nil)) (pss_one (ps_ret (pd_lst (pa_cons (pd_var (i := 1) rfl) (pa_cons (pd_call (y := "_law_digit") (ok "_law_digit" (by decide)) hr rfl (pa_cons (pd_var (i := 0) rfl) (pa_cons (pd_int) (pa_nil)))) (pa_cons (pd_call (y := "_law_digit") (ok "_law_digit" (by decide)) hr rfl (pa_cons (pd_var (i := 0) rfl) (pa_cons (pd_int) (pa_nil)))) (pa_nil))))))))
theorem der_l_worth {k : Nat} {c : Cl} (ok : ∀ y ∈ names, Own P w K mg base k (Str.ofString y) (c y)) (oks : ∀ q ∈ snames, OwnS P w K mg base k q.2 (Str.ofString q.1) (c q.1)) (zs : ∀ y ∈ blts, mg (Str.ofString y) = none) {fa : Addr} (cdv : Value) (A : Around) (outer : List PySem.Env) (s : Shared) (H : L2.Hp) (E : L2.XK) (hr : L2.Room k (A.deeper (envOfC "_law_worth" (L2.defScope sl_worth) s.heap.objs.size fa cdv))) :
    PDSs (L2.cxOf L2.CX0 P w K mg base nl_worth "_law_worth" (L2.defScope sl_worth) fa cdv A outer s H E).nox (L2.defBody sl_worth) (b_l_worth c) := by
  have nd := scl_worth.nd
  unfold b_l_worth
  exact pss_cons (ps_set (i := 2) nd rfl (by first | exact .inl rfl | exact .inr rfl) (pd_ix (fun _ _ => rfl) (pd_var (i := 1) rfl) (pd_int))) (pss_cons (ps_if (pt_cmp (L2.op_eqD hr.units) real_eq (by rfl) (pd_var (i := 2) rfl) (pd_str)) (pss_one (ps_ret (pd_tup (pa_cons (pd_ix (fun _ _ => rfl) (pd_var (i := 1) rfl) (pd_int)) (pa_cons (pd_ix (fun _ _ => rfl) (pd_var (i := 1) rfl) (pd_int)) (pa_nil)))))) (pss_nil)) (pss_cons (ps_if (pt_cmp (L2.op_eqD hr.units) real_eq (by rfl) (pd_var (i := 2) rfl) (pd_str)) (pss_one (ps_ret (pd_getA hr (pd_var (i := 0) rfl) (pd_ix (fun _ _ => rfl) (pd_var (i := 1) rfl) (pd_int))))) (pss_nil)) (pss_cons (ps_setLc (j := 3) (own := [("_law_part", 7)]) rfl nd rfl rfl (L2.sw_true rfl rfl rfl (by decide +kernel)) (pi_seq (pd_call (y := "_law_operands") (ok "_law_operands" (by decide)) hr rfl (pa_cons (pd_var (i := 1) rfl) (pa_nil)))) (L2.blkOk_by (N := nl_worth) (sc := L2.defScope sl_worth) (by decide +kernel)) (fun _ _ _ _ _ => pg_name (i := 7) nd rfl (by first | exact .inl rfl | exact .inr rfl)) (fun _ _ _ _ _ => pts_nil) (fun _ _ _ _ _ => pd_call (y := "_law_worth") (ok "_law_worth" (by decide)) hr rfl (pa_cons (pd_var (i := 0) rfl) (pa_cons (pd_var (i := 7) rfl) (pa_nil)))) (by decide)) (pss_cons (ps_setLc (j := 4) (own := [("_law_part", 7)]) rfl nd rfl rfl (L2.sw_true rfl rfl rfl (by decide +kernel)) (pi_seq (pd_var (i := 3) rfl)) (L2.blkOk_by (N := nl_worth) (sc := L2.defScope sl_worth) (by decide +kernel)) (fun _ _ _ _ _ => pg_name (i := 7) nd rfl (by first | exact .inl rfl | exact .inr rfl)) (fun _ _ _ _ _ => pts_nil) (fun _ _ _ _ _ => pd_ix (fun _ _ => rfl) (pd_var (i := 7) rfl) (pd_int)) (by decide)) (pss_cons (ps_if (pt_cmp (L2.op_eqD hr.units) real_eq (by rfl) (pd_var (i := 2) rfl) (pd_str)) (pss_one (ps_ret (pd_tup (pa_cons (pd_ix (fun _ _ => rfl) (pd_var (i := 1) rfl) (pd_int)) (pa_cons (pd_call (y := "_law_word") (ok "_law_word" (by decide)) hr rfl (pa_cons (pd_var (i := 2) rfl) (pa_cons (pd_ix (fun _ _ => rfl) (pd_var (i := 1) rfl) (pd_int)) (pa_cons (pd_var (i := 4) rfl) (pa_nil))))) (pa_nil)))))) (pss_nil)) (pss_cons (ps_set (i := 5) nd rfl (by first | exact .inl rfl | exact .inr rfl) (pd_if (pt_cmp (L2.op_eqD hr.units) real_eq (by rfl) (pd_var (i := 2) rfl) (pd_str)) (pd_ix (fun _ _ => rfl) (pd_ix (fun _ _ => rfl) (pd_var (i := 3) rfl) (pd_int)) (pd_int)) (pd_ix (fun _ _ => rfl) (pd_ix (fun _ _ => rfl) (pd_var (i := 3) rfl) (pd_int)) (pd_int)))) (pss_cons (ps_set (i := 6) nd rfl (by first | exact .inl rfl | exact .inr rfl) (pd_call (y := "_law_word") (ok "_law_word" (by decide)) hr rfl (pa_cons (pd_var (i := 2) rfl) (pa_cons (pd_var (i := 5) rfl) (pa_cons (pd_var (i := 4) rfl) (pa_nil)))))) (pss_one (ps_ret (pd_tup (pa_cons (pd_if (pt_cmp L2.op_in_seq (real_in false) (by rfl) (pd_var (i := 2) rfl) (pd_tup (pa_cons (pd_str) (pa_cons (pd_str) (pa_cons (pd_str) (pa_cons (pd_str) (pa_nil))))))) (pd_int) (pd_var (i := 5) rfl)) (pa_cons (pd_var (i := 6) rfl) (pa_nil)))))))))))))
theorem der_l_given {k : Nat} {c : Cl} (ok : ∀ y ∈ names, Own P w K mg base k (Str.ofString y) (c y)) (oks : ∀ q ∈ snames, OwnS P w K mg base k q.2 (Str.ofString q.1) (c q.1)) (zs : ∀ y ∈ blts, mg (Str.ofString y) = none) {fa : Addr} (cdv : Value) (A : Around) (outer : List PySem.Env) (s : Shared) (H : L2.Hp) (E : L2.XK) (hr : L2.Room k (A.deeper (envOfC "_law_given" (L2.defScope sl_given) s.heap.objs.size fa cdv))) :
    PDSs (L2.cxOf L2.CX0 P w K mg base nl_given "_law_given" (L2.defScope sl_given) fa cdv A outer s H E).nox (L2.defBody sl_given) (b_l_given c) := by
  have nd := scl_given.nd
  unfold b_l_given
  exact pss_cons (ps_set (i := 2) nd rfl (by first | exact .inl rfl | exact .inr rfl) (pd_dic)) (pss_cons (ps_for PassesOwn.never rfl (pi_zip rfl (zs "zip" (by decide)) (pd_ix (fun _ _ => rfl) (pd_var (i := 0) rfl) (pd_int)) (pd_var (i := 1) rfl)) (pg_tup rfl (pgs_cons (pg_name (i := 3) nd rfl (by first | exact .inl rfl | exact .inr rfl)) (pgs_cons (pg_name (i := 4) nd rfl (by first | exact .inl rfl | exact .inr rfl)) (pgs_nil)))) (pss_one (ps_asg (pd_tup (pa_cons (pd_ix (fun _ _ => rfl) (pd_var (i := 3) rfl) (pd_int)) (pa_cons (pd_var (i := 4) rfl) (pa_nil)))) (pg_subD hr (pd_var (i := 2) rfl) (pd_ix (fun _ _ => rfl) (pd_var (i := 3) rfl) (pd_int)))))) (pss_cons (ps_set (i := 5) nd rfl (by first | exact .inl rfl | exact .inr rfl) (pd_lst (pa_nil))) (pss_cons (ps_for PassesOwn.never rfl (pi_r1 rfl (zs "range" (by decide)) (pd_shl (pd_int) (pd_ix (fun _ _ => rfl) (pd_var (i := 0) rfl) (pd_int)))) (pg_name (i := 4) nd rfl (by first | exact .inl rfl | exact .inr rfl)) (pss_cons (ps_asg (pd_tup (pa_cons (pd_ix (fun _ _ => rfl) (pd_var (i := 0) rfl) (pd_int)) (pa_cons (pd_var (i := 4) rfl) (pa_nil)))) (pg_subD hr (pd_var (i := 2) rfl) (pd_str))) (pss_one (ps_if (pt_cmp (L2.op_eqD hr.units) real_eq (by rfl) (pd_ix (fun _ _ => rfl) (pd_call (y := "_law_worth") (ok "_law_worth" (by decide)) hr rfl (pa_cons (pd_var (i := 2) rfl) (pa_cons (pd_ix (fun _ _ => rfl) (pd_var (i := 0) rfl) (pd_int)) (pa_nil)))) (pd_int)) (pd_int)) (pss_one (ps_expr (pd_m L2.mt_append real_append ty_list PySem.F.plainAttrs_list PySem.F.slot_list_append PySem.F.type_list_append (pd_var (i := 5) rfl) (pa_cons (pd_var (i := 4) rfl) (pa_nil))))) (pss_nil))))) (pss_one (ps_ret (pd_var (i := 5) rfl))))))
theorem der_l_needed_words {k : Nat} {c : Cl} (ok : ∀ y ∈ names, Own P w K mg base k (Str.ofString y) (c y)) (oks : ∀ q ∈ snames, OwnS P w K mg base k q.2 (Str.ofString q.1) (c q.1)) (zs : ∀ y ∈ blts, mg (Str.ofString y) = none) {fa : Addr} (cdv : Value) (A : Around) (outer : List PySem.Env) (s : Shared) (H : L2.Hp) (E : L2.XK) (hr : L2.Room k (A.deeper (envOfC "_law_needed_words" (L2.defScope sl_needed_words) s.heap.objs.size fa cdv))) :
    PDSs (L2.cxOf L2.CX0 P w K mg base nl_needed_words "_law_needed_words" (L2.defScope sl_needed_words) fa cdv A outer s H E).nox (L2.defBody sl_needed_words) (b_l_needed_words c) := by
  have nd := scl_needed_words.nd
  unfold b_l_needed_words
  exact pss_cons (ps_set (i := 1) nd rfl (by first | exact .inl rfl | exact .inr rfl) (pd_lst (pa_nil))) (pss_cons (ps_for PassesOwn.never rfl (pi_seq (pd_call (y := "_law_tuples") (ok "_law_tuples" (by decide)) hr rfl (pa_cons (pd_lc (own := [("_law_row", 4)]) rfl nd (pi_seq (pd_ix (fun _ _ => rfl) (pd_var (i := 0) rfl) (pd_int))) (L2.blkOk_by (N := nl_needed_words) (sc := L2.defScope sl_needed_words) (by decide +kernel)) (fun _ _ _ _ _ => pg_name (i := 4) nd rfl (by first | exact .inl rfl | exact .inr rfl)) (fun _ _ _ _ _ => pts_nil) (fun _ _ _ _ _ => pd_ix (fun _ _ => rfl) (pd_var (i := 4) rfl) (pd_int)) (by decide)) (pa_nil)))) (pg_name (i := 2) nd rfl (by first | exact .inl rfl | exact .inr rfl)) (pss_cons (ps_set (i := 3) nd rfl (by first | exact .inl rfl | exact .inr rfl) (pd_dic)) (pss_cons (ps_for PassesOwn.never rfl (pi_zip rfl (zs "zip" (by decide)) (pd_ix (fun _ _ => rfl) (pd_var (i := 0) rfl) (pd_int)) (pd_var (i := 2) rfl)) (pg_tup rfl (pgs_cons (pg_name (i := 4) nd rfl (by first | exact .inl rfl | exact .inr rfl)) (pgs_cons (pg_name (i := 5) nd rfl (by first | exact .inl rfl | exact .inr rfl)) (pgs_nil)))) (pss_one (ps_asg (pd_tup (pa_cons (pd_ix (fun _ _ => rfl) (pd_var (i := 4) rfl) (pd_int)) (pa_cons (pd_var (i := 5) rfl) (pa_nil)))) (pg_subD hr (pd_var (i := 3) rfl) (pd_ix (fun _ _ => rfl) (pd_var (i := 4) rfl) (pd_int)))))) (pss_one (ps_if (pt_cmp (L2.op_eqD hr.units) real_eq (by rfl) (pd_ix (fun _ _ => rfl) (pd_call (y := "_law_worth") (ok "_law_worth" (by decide)) hr rfl (pa_cons (pd_var (i := 3) rfl) (pa_cons (pd_ix (fun _ _ => rfl) (pd_var (i := 0) rfl) (pd_int)) (pa_nil)))) (pd_int)) (pd_int)) (pss_one (ps_expr (pd_m L2.mt_append real_append ty_list PySem.F.plainAttrs_list PySem.F.slot_list_append PySem.F.type_list_append (pd_var (i := 1) rfl) (pa_cons (pd_var (i := 2) rfl) (pa_nil))))) (pss_nil)))))) (pss_one (ps_ret (pd_var (i := 1) rfl))))
theorem der_l_unmet_words {k : Nat} {c : Cl} (ok : ∀ y ∈ names, Own P w K mg base k (Str.ofString y) (c y)) (oks : ∀ q ∈ snames, OwnS P w K mg base k q.2 (Str.ofString q.1) (c q.1)) (zs : ∀ y ∈ blts, mg (Str.ofString y) = none) {fa : Addr} (cdv : Value) (A : Around) (outer : List PySem.Env) (s : Shared) (H : L2.Hp) (E : L2.XK) (hr : L2.Room k (A.deeper (envOfC "_law_unmet_words" (L2.defScope sl_unmet_words) s.heap.objs.size fa cdv))) :
    PDSs (L2.cxOf L2.CX0 P w K mg base nl_unmet_words "_law_unmet_words" (L2.defScope sl_unmet_words) fa cdv A outer s H E).nox (L2.defBody sl_unmet_words) (b_l_unmet_words c) := by
  have nd := scl_unmet_words.nd
  unfold b_l_unmet_words
  exact pss_cons (ps_for PassesOwn.never rfl (pi_seq (pd_call (y := "_law_needed_words") (ok "_law_needed_words" (by decide)) hr rfl (pa_cons (pd_var (i := 0) rfl) (pa_nil)))) (pg_name (i := 1) nd rfl (by first | exact .inl rfl | exact .inr rfl)) (pss_one (ps_if (pt_not (pt_tru (pd_call (y := "_law_given") (ok "_law_given" (by decide)) hr rfl (pa_cons (pd_var (i := 0) rfl) (pa_cons (pd_var (i := 1) rfl) (pa_nil)))))) (pss_one (ps_ret (pd_var (i := 1) rfl))) (pss_nil)))) (pss_one (ps_ret (pd_non)))
theorem der_l_contracted {k : Nat} {c : Cl} (ok : ∀ y ∈ names, Own P w K mg base k (Str.ofString y) (c y)) (oks : ∀ q ∈ snames, OwnS P w K mg base k q.2 (Str.ofString q.1) (c q.1)) (zs : ∀ y ∈ blts, mg (Str.ofString y) = none) {fa : Addr} (cdv : Value) (A : Around) (outer : List PySem.Env) (s : Shared) (H : L2.Hp) (E : L2.XK) (hr : L2.Room k (A.deeper (envOfC "_law_contracted" (L2.defScope sl_contracted) s.heap.objs.size fa cdv))) :
    PDSs (L2.cxOf L2.CX0 P w K mg base nl_contracted "_law_contracted" (L2.defScope sl_contracted) fa cdv A outer s H E).nox (L2.defBody sl_contracted) (b_l_contracted c) := by
  have nd := scl_contracted.nd
  unfold b_l_contracted
  exact pss_cons (ps_set (i := 2) nd rfl (by first | exact .inl rfl | exact .inr rfl) (pd_lst (pa_nil))) (pss_cons (ps_for PassesOwn.never rfl (pi_r1 rfl (zs "range" (by decide)) (pd_call (y := "_law_digit") (ok "_law_digit" (by decide)) hr rfl (pa_cons (pd_var (i := 0) rfl) (pa_cons (pd_int) (pa_nil))))) (pg_name (i := 3) nd rfl (by first | exact .inl rfl | exact .inr rfl)) (pss_one (ps_expr (pd_m L2.mt_append real_append ty_list PySem.F.plainAttrs_list PySem.F.slot_list_append PySem.F.type_list_append (pd_var (i := 2) rfl) (pa_cons (pd_tup (pa_cons (pd_call (y := "_law_label") (ok "_law_label" (by decide)) hr rfl (pa_cons (pd_ix (fun _ _ => rfl) (pd_var (i := 1) rfl) (pd_int)) (pa_cons (pd_var (i := 3) rfl) (pa_nil)))) (pa_cons (pd_add (pd_int) (pd_call (y := "_law_digit") (ok "_law_digit" (by decide)) hr rfl (pa_cons (pd_var (i := 0) rfl) (pa_cons (pd_int) (pa_nil))))) (pa_nil)))) (pa_nil)))))) (pss_cons (ps_if (pt_cmp (L2.op_eqD hr.units) real_eq (by rfl) (pd_call (y := "_law_digit") (ok "_law_digit" (by decide)) hr rfl (pa_cons (pd_var (i := 0) rfl) (pa_cons (pd_int) (pa_nil)))) (pd_int)) (pss_one (ps_set (i := 2) nd rfl (by first | exact .inl rfl | exact .inr rfl) (pd_lst (pa_cons (pd_tup (pa_cons (pd_call (y := "_law_label") (ok "_law_label" (by decide)) hr rfl (pa_cons (pd_ix (fun _ _ => rfl) (pd_var (i := 1) rfl) (pd_int)) (pa_cons (pd_int) (pa_nil)))) (pa_cons (pd_add (pd_int) (pd_call (y := "_law_digit") (ok "_law_digit" (by decide)) hr rfl (pa_cons (pd_var (i := 0) rfl) (pa_cons (pd_int) (pa_nil))))) (pa_nil)))) (pa_nil))))) (pss_nil)) (pss_cons (ps_set (i := 4) nd rfl (by first | exact .inl rfl | exact .inr rfl) (pd_add (pd_int) (pd_call (y := "_law_digit") (ok "_law_digit" (by decide)) hr rfl (pa_cons (pd_var (i := 0) rfl) (pa_cons (pd_int) (pa_nil)))))) (pss_cons (ps_set (i := 5) nd rfl (by first | exact .inl rfl | exact .inr rfl) (pd_call (y := "_law_digit") (ok "_law_digit" (by decide)) hr rfl (pa_cons (pd_var (i := 0) rfl) (pa_cons (pd_int) (pa_nil))))) (pss_cons (ps_set (i := 6) nd rfl (by first | exact .inl rfl | exact .inr rfl) (pd_tup (pa_cons (pd_call (y := "_law_label") (ok "_law_label" (by decide)) hr rfl (pa_cons (pd_ix (fun _ _ => rfl) (pd_var (i := 1) rfl) (pd_int)) (pa_cons (pd_int) (pa_nil)))) (pa_cons (pd_call (y := "_law_label") (ok "_law_label" (by decide)) hr rfl (pa_cons (pd_ix (fun _ _ => rfl) (pd_var (i := 1) rfl) (pd_int)) (pa_cons (pd_int) (pa_nil)))) (pa_nil))))) (pss_cons (ps_set (i := 7) nd rfl (by first | exact .inl rfl | exact .inr rfl) (pd_tup (pa_cons (pd_str) (pa_cons (pd_int) (pa_cons (pd_int) (pa_nil)))))) (pss_cons (ps_if (pt_cmp (L2.op_neD hr.units) real_ne (by rfl) (pd_call (y := "_law_digit") (ok "_law_digit" (by decide)) hr rfl (pa_cons (pd_var (i := 0) rfl) (pa_cons (pd_int) (pa_nil)))) (pd_int)) (pss_one (ps_set (i := 7) nd rfl (by first | exact .inl rfl | exact .inr rfl) (pd_call (y := "_law_typed") (ok "_law_typed" (by decide)) hr rfl (pa_cons (pd_var (i := 0) rfl) (pa_cons (pd_call (y := "_law_bare") (ok "_law_bare" (by decide)) hr rfl (pa_cons (pd_var (i := 2) rfl) (pa_cons (pd_var (i := 6) rfl) (pa_nil)))) (pa_cons (pd_int) (pa_cons (pd_add (pd_int) (pd_call (y := "_law_digit") (ok "_law_digit" (by decide)) hr rfl (pa_cons (pd_var (i := 0) rfl) (pa_cons (pd_int) (pa_nil))))) (pa_nil)))))))) (pss_nil)) (pss_cons (ps_set (i := 8) nd rfl (by first | exact .inl rfl | exact .inr rfl) (pd_call (y := "_law_typed") (ok "_law_typed" (by decide)) hr rfl (pa_cons (pd_var (i := 0) rfl) (pa_cons (pd_call (y := "_law_bare") (ok "_law_bare" (by decide)) hr rfl (pa_cons (pd_add (pd_var (i := 2) rfl) (pd_lst (pa_cons (pd_tup (pa_cons (pd_str) (pa_cons (pd_var (i := 4) rfl) (pa_nil)))) (pa_nil)))) (pa_cons (pd_var (i := 6) rfl) (pa_nil)))) (pa_cons (pd_int) (pa_cons (pd_add (pd_int) (pd_call (y := "_law_digit") (ok "_law_digit" (by decide)) hr rfl (pa_cons (pd_var (i := 0) rfl) (pa_cons (pd_int) (pa_nil))))) (pa_nil))))))) (pss_cons (ps_if (pt_cmp (L2.op_eqD hr.units) real_eq (by rfl) (pd_call (y := "_law_digit") (ok "_law_digit" (by decide)) hr rfl (pa_cons (pd_var (i := 0) rfl) (pa_cons (pd_int) (pa_nil)))) (pd_int)) (pss_cons (ps_set (i := 9) nd rfl (by first | exact .inl rfl | exact .inr rfl) (pd_call (y := "_law_typed") (ok "_law_typed" (by decide)) hr rfl (pa_cons (pd_var (i := 0) rfl) (pa_cons (pd_call (y := "_law_bare") (ok "_law_bare" (by decide)) hr rfl (pa_cons (pd_var (i := 2) rfl) (pa_cons (pd_var (i := 6) rfl) (pa_nil)))) (pa_cons (pd_var (i := 4) rfl) (pa_cons (pd_int) (pa_nil))))))) (pss_one (ps_set (i := 8) nd rfl (by first | exact .inl rfl | exact .inr rfl) (pd_tup (pa_cons (pd_str) (pa_cons (pd_var (i := 8) rfl) (pa_cons (pd_tup (pa_cons (pd_str) (pa_cons (pd_tup (pa_cons (pd_str) (pa_cons (pd_str) (pa_nil)))) (pa_cons (pd_var (i := 9) rfl) (pa_nil))))) (pa_nil)))))))) (pss_nil)) (pss_one (ps_ret (pd_tup (pa_cons (pd_str) (pa_cons (pd_call (y := "_law_label") (ok "_law_label" (by decide)) hr rfl (pa_cons (pd_ix (fun _ _ => rfl) (pd_var (i := 1) rfl) (pd_int)) (pa_cons (pd_int) (pa_nil)))) (pa_cons (pd_callTy L2.call_tuple_of real_tupleB rfl (zs "tuple" (by decide)) bt_tuple (pa_cons (pd_var (i := 2) rfl) (pa_nil))) (pa_cons (pd_var (i := 4) rfl) (pa_cons (pd_var (i := 5) rfl) (pa_cons (pd_var (i := 7) rfl) (pa_cons (pd_var (i := 8) rfl) (pa_nil))))))))))))))))))))
theorem der_l_own_answers {k : Nat} {c : Cl} (ok : ∀ y ∈ names, Own P w K mg base k (Str.ofString y) (c y)) (oks : ∀ q ∈ snames, OwnS P w K mg base k q.2 (Str.ofString q.1) (c q.1)) (zs : ∀ y ∈ blts, mg (Str.ofString y) = none) {fa : Addr} (cdv : Value) (A : Around) (outer : List PySem.Env) (s : Shared) (H : L2.Hp) (E : L2.XK) (hr : L2.Room k (A.deeper (envOfC "_law_own_answers" (L2.defScope sl_own_answers) s.heap.objs.size fa cdv))) :
    PDSs (L2.cxOf L2.CX0 P w K mg base nl_own_answers "_law_own_answers" (L2.defScope sl_own_answers) fa cdv A outer s H E).nox (L2.defBody sl_own_answers) (b_l_own_answers c) := by
  have nd := scl_own_answers.nd
  unfold b_l_own_answers
  exact pss_cons (ps_if (pt_cmp (L2.op_eqD hr.units) real_eq (by rfl) (pd_ix (fun _ _ => rfl) (pd_var (i := 0) rfl) (pd_int)) (pd_int)) (pss_one (ps_for PassesOwn.never rfl (pi_seq (pd_var (i := 2) rfl)) (pg_name (i := 3) nd rfl (by first | exact .inl rfl | exact .inr rfl)) (pss_one (ps_if (pt_cmp (L2.op_eqD hr.units) real_eq (by rfl) (pd_ix (fun _ _ => rfl) (pd_var (i := 3) rfl) (pd_int)) (pd_var (i := 1) rfl)) (pss_one (ps_ret (pd_tup (pa_cons (pd_ix (fun _ _ => rfl) (pd_var (i := 3) rfl) (pd_int)) (pa_nil))))) (pss_nil))))) (pss_nil)) (pss_one (ps_ret (pd_callTy L2.call_tuple_of real_tupleB rfl (zs "tuple" (by decide)) bt_tuple (pa_cons (pd_call (y := "_law_given") (ok "_law_given" (by decide)) hr rfl (pa_cons (pd_var (i := 0) rfl) (pa_cons (pd_var (i := 1) rfl) (pa_nil)))) (pa_nil)))))
theorem der_l_plain {k : Nat} {c : Cl} (ok : ∀ y ∈ names, Own P w K mg base k (Str.ofString y) (c y)) (oks : ∀ q ∈ snames, OwnS P w K mg base k q.2 (Str.ofString q.1) (c q.1)) (zs : ∀ y ∈ blts, mg (Str.ofString y) = none) {fa : Addr} (cdv : Value) (A : Around) (outer : List PySem.Env) (s : Shared) (H : L2.Hp) (E : L2.XK) (hr : L2.Room k (A.deeper (envOfC "_law_plain" (L2.defScope sl_plain) s.heap.objs.size fa cdv))) :
    PDSs (L2.cxOf L2.CX0 P w K mg base nl_plain "_law_plain" (L2.defScope sl_plain) fa cdv A outer s H E).nox (L2.defBody sl_plain) (b_l_plain c) := by
  have nd := scl_plain.nd
  unfold b_l_plain
  exact pss_cons (ps_if (ptw (pw_or (pt_not (pt_tru (pd_isi (T := "tuple") .tuple rfl (zs "isinstance" (by decide)) rfl rfl (zs "tuple" (by decide)) bt_tuple (pd_var (i := 0) rfl)))) (pw_or1 (pt_tru (pd_callB (cr_anyF rfl) real_anyB rfl (zs "any" (by decide)) bt_any (pa_cons (pd_lc (own := [("_law_word_here", 2)]) rfl nd (pi_seq (pd_var (i := 0) rfl)) (L2.blkOk_by (N := nl_plain) (sc := L2.defScope sl_plain) (by decide +kernel)) (fun _ _ _ _ _ => pg_name (i := 2) nd rfl (by first | exact .inl rfl | exact .inr rfl)) (fun _ _ _ _ _ => pts_nil) (fun _ _ _ _ _ => pd_isi (T := "bool") .bool rfl (zs "isinstance" (by decide)) rfl rfl (zs "bool" (by decide)) bt_bool (pd_var (i := 2) rfl)) (by decide)) (pa_nil))))))) (pss_one (ps_ret (pd_bl))) (pss_nil)) (pss_one (ps_ret (pd_cmp (L2.op_eqD hr.units) real_eq (by rfl) (pd_var (i := 0) rfl) (pd_var (i := 1) rfl))))
theorem der_l_law {k : Nat} {c : Cl} (ok : ∀ y ∈ names, Own P w K mg base k (Str.ofString y) (c y)) (oks : ∀ q ∈ snames, OwnS P w K mg base k q.2 (Str.ofString q.1) (c q.1)) (zs : ∀ y ∈ blts, mg (Str.ofString y) = none) {fa : Addr} (cdv : Value) (A : Around) (outer : List PySem.Env) (s : Shared) (H : L2.Hp) (E : L2.XK) (hr : L2.Room k (A.deeper (envOfC "law" (L2.defScope sl_law) s.heap.objs.size fa cdv))) :
    PDSs (L2.cxOf L2.CX0 P w K mg base nl_law "law" (L2.defScope sl_law) fa cdv A outer s H E).nox (L2.defBody sl_law) (b_l_law c) := by
  have nd := scl_law.nd
  unfold b_l_law
  exact pss_cons (ps_set (i := 1) nd rfl (by first | exact .inl rfl | exact .inr rfl) (pd_call (y := "_law_source") (ok "_law_source" (by decide)) hr rfl (pa_cons (pd_var (i := 0) rfl) (pa_nil)))) (pss_cons (ps_set (i := 2) nd rfl (by first | exact .inl rfl | exact .inr rfl) (pd_call (y := "_law_salts") (ok "_law_salts" (by decide)) hr rfl (pa_cons (pd_var (i := 1) rfl) (pa_nil)))) (pss_cons (ps_set (i := 3) nd rfl (by first | exact .inl rfl | exact .inr rfl) (pd_call (y := "_law_contracted") (ok "_law_contracted" (by decide)) hr rfl (pa_cons (pd_var (i := 1) rfl) (pa_cons (pd_var (i := 2) rfl) (pa_nil))))) (pss_cons (ps_set (i := 4) nd rfl (by first | exact .inl rfl | exact .inr rfl) (pd_call (y := "_law_unmet_words") (ok "_law_unmet_words" (by decide)) hr rfl (pa_cons (pd_var (i := 3) rfl) (pa_nil)))) (pss_cons (ps_if (pt_cmp L2.op_notN real_isnt (by rfl) (pd_var (i := 4) rfl) (pd_non)) (pss_one (ps_ret (pd_and' (pd_call (y := "_law_plain") (ok "_law_plain" (by decide)) hr rfl (pa_cons (pd_call (y := "unmet") (ok "unmet" (by decide)) hr rfl (pa_cons (pd_var (i := 3) rfl) (pa_nil))) (pa_cons (pd_var (i := 4) rfl) (pa_nil)))) (pd_one (pd_call (y := "_law_plain") (ok "_law_plain" (by decide)) hr rfl (pa_cons (pd_call (y := "unmet") (ok "unmet" (by decide)) hr rfl (pa_cons (pd_var (i := 3) rfl) (pa_nil))) (pa_cons (pd_var (i := 4) rfl) (pa_nil)))))))) (pss_nil)) (pss_cons (ps_if (pt_cmp L2.op_notN real_isnt (by rfl) (pd_call (y := "unmet") (ok "unmet" (by decide)) hr rfl (pa_cons (pd_var (i := 3) rfl) (pa_nil))) (pd_non)) (pss_one (ps_ret (pd_bl))) (pss_nil)) (pss_cons (ps_set (i := 5) nd rfl (by first | exact .inl rfl | exact .inr rfl) (pd_call (y := "_law_needed_words") (ok "_law_needed_words" (by decide)) hr rfl (pa_cons (pd_var (i := 3) rfl) (pa_nil)))) (pss_cons (ps_for PassesOwn.never rfl (pi_seq (pd_var (i := 5) rfl)) (pg_name (i := 6) nd rfl (by first | exact .inl rfl | exact .inr rfl)) (pss_one (ps_if (pt_not (pt_tru (pd_call (y := "_law_plain") (ok "_law_plain" (by decide)) hr rfl (pa_cons (pd_call (y := "let_answers") (ok "let_answers" (by decide)) hr rfl (pa_cons (pd_var (i := 3) rfl) (pa_cons (pd_var (i := 6) rfl) (pa_cons (pd_tup (pa_nil)) (pa_nil))))) (pa_cons (pd_call (y := "_law_own_answers") (ok "_law_own_answers" (by decide)) hr rfl (pa_cons (pd_var (i := 3) rfl) (pa_cons (pd_var (i := 6) rfl) (pa_cons (pd_lst (pa_nil)) (pa_nil))))) (pa_nil)))))) (pss_one (ps_ret (pd_bl))) (pss_nil)))) (pss_cons (ps_if (pt_not (pt_tru (pd_var (i := 5) rfl))) (pss_one (ps_ret (pd_bl))) (pss_nil)) (pss_cons (ps_set (i := 7) nd rfl (by first | exact .inl rfl | exact .inr rfl) (pd_lst (pa_nil))) (pss_cons (ps_for PassesOwn.never rfl (pi_r1 rfl (zs "range" (by decide)) (pd_call (y := "_law_digit") (ok "_law_digit" (by decide)) hr rfl (pa_cons (pd_var (i := 1) rfl) (pa_cons (pd_int) (pa_nil))))) (pg_name (i := 8) nd rfl (by first | exact .inl rfl | exact .inr rfl)) (pss_cons (ps_set (i := 6) nd rfl (by first | exact .inl rfl | exact .inr rfl) (pd_call (y := "_law_pick_one") (ok "_law_pick_one" (by decide)) hr rfl (pa_cons (pd_var (i := 1) rfl) (pa_cons (pd_var (i := 5) rfl) (pa_nil))))) (pss_cons (ps_set (i := 9) nd rfl (by first | exact .inl rfl | exact .inr rfl) (pd_call (y := "_law_own_answers") (ok "_law_own_answers" (by decide)) hr rfl (pa_cons (pd_var (i := 3) rfl) (pa_cons (pd_var (i := 6) rfl) (pa_cons (pd_var (i := 7) rfl) (pa_nil)))))) (pss_cons (ps_expr (pd_m L2.mt_append real_append ty_list PySem.F.plainAttrs_list PySem.F.slot_list_append PySem.F.type_list_append (pd_var (i := 7) rfl) (pa_cons (pd_tup (pa_cons (pd_var (i := 6) rfl) (pa_cons (pd_call (y := "_law_pick_one") (ok "_law_pick_one" (by decide)) hr rfl (pa_cons (pd_var (i := 1) rfl) (pa_cons (pd_var (i := 9) rfl) (pa_nil)))) (pa_nil)))) (pa_nil)))) (pss_one (ps_if (pt_not (pt_tru (pd_call (y := "_law_plain") (ok "_law_plain" (by decide)) hr rfl (pa_cons (pd_call (y := "let_answers") (ok "let_answers" (by decide)) hr rfl (pa_cons (pd_var (i := 3) rfl) (pa_cons (pd_var (i := 6) rfl) (pa_cons (pd_callTy L2.call_tuple_of real_tupleB rfl (zs "tuple" (by decide)) bt_tuple (pa_cons (pd_var (i := 7) rfl) (pa_nil))) (pa_nil))))) (pa_cons (pd_call (y := "_law_own_answers") (ok "_law_own_answers" (by decide)) hr rfl (pa_cons (pd_var (i := 3) rfl) (pa_cons (pd_var (i := 6) rfl) (pa_cons (pd_var (i := 7) rfl) (pa_nil))))) (pa_nil)))))) (pss_one (ps_ret (pd_bl))) (pss_nil))))))) (pss_cons (ps_for PassesOwn.never rfl (pi_seq (pd_var (i := 5) rfl)) (pg_name (i := 6) nd rfl (by first | exact .inl rfl | exact .inr rfl)) (pss_one (ps_if (pt_not (pt_tru (pd_call (y := "_law_plain") (ok "_law_plain" (by decide)) hr rfl (pa_cons (pd_call (y := "let_answers") (ok "let_answers" (by decide)) hr rfl (pa_cons (pd_var (i := 3) rfl) (pa_cons (pd_var (i := 6) rfl) (pa_cons (pd_callTy L2.call_tuple_of real_tupleB rfl (zs "tuple" (by decide)) bt_tuple (pa_cons (pd_var (i := 7) rfl) (pa_nil))) (pa_nil))))) (pa_cons (pd_call (y := "_law_own_answers") (ok "_law_own_answers" (by decide)) hr rfl (pa_cons (pd_var (i := 3) rfl) (pa_cons (pd_var (i := 6) rfl) (pa_cons (pd_var (i := 7) rfl) (pa_nil))))) (pa_nil)))))) (pss_one (ps_ret (pd_bl))) (pss_nil)))) (pss_one (ps_ret (pd_and' (pd_cmp L2.op_isN real_is (by rfl) (pd_call (y := "unmet") (ok "unmet" (by decide)) hr rfl (pa_cons (pd_var (i := 3) rfl) (pa_nil))) (pd_non)) (pd_one (pd_call (y := "_law_plain") (ok "_law_plain" (by decide)) hr rfl (pa_cons (pd_call (y := "let_answers") (ok "let_answers" (by decide)) hr rfl (pa_cons (pd_var (i := 3) rfl) (pa_cons (pd_ix (fun _ _ => rfl) (pd_var (i := 5) rfl) (pd_int)) (pa_cons (pd_tup (pa_nil)) (pa_nil))))) (pa_cons (pd_call (y := "_law_own_answers") (ok "_law_own_answers" (by decide)) hr rfl (pa_cons (pd_var (i := 3) rfl) (pa_cons (pd_ix (fun _ _ => rfl) (pd_var (i := 5) rfl) (pd_int)) (pa_cons (pd_lst (pa_nil)) (pa_nil))))) (pa_nil)))))))))))))))))))
end
theorem all_mk {l : PySem.W.OpenLaw} {w : World} {K : PySem.W.Frag} {h : Heap} {mg : Str → Option Value} {fa : Addr} (X : K.In h) (G : h.Ns mainGlobals mg) (hfa : mg "law" = some (.ref fa))
    {f1 : Addr} {od1 an1 : Option Addr} {sl1 : Array (Option Value)} {oc1 kV1 dc1 pm1 cd1 ct1 : Value}
    {f2 : Addr} {od2 an2 : Option Addr} {sl2 : Array (Option Value)} {oc2 kV2 dc2 pm2 cd2 ct2 : Value}
    {f3 : Addr} {od3 an3 : Option Addr} {sl3 : Array (Option Value)} {oc3 kV3 dc3 pm3 cd3 ct3 : Value}
    {f4 : Addr} {od4 an4 : Option Addr} {sl4 : Array (Option Value)} {oc4 kV4 dc4 pm4 cd4 ct4 : Value}
    {f5 : Addr} {od5 an5 : Option Addr} {sl5 : Array (Option Value)} {oc5 kV5 dc5 pm5 cd5 ct5 : Value}
    {f6 : Addr} {od6 an6 : Option Addr} {sl6 : Array (Option Value)} {oc6 kV6 dc6 pm6 cd6 ct6 : Value}
    {f7 : Addr} {od7 an7 : Option Addr} {sl7 : Array (Option Value)} {oc7 kV7 dc7 pm7 cd7 ct7 : Value}
    {f8 : Addr} {od8 an8 : Option Addr} {sl8 : Array (Option Value)} {oc8 kV8 dc8 pm8 cd8 ct8 : Value}
    {f9 : Addr} {od9 an9 : Option Addr} {sl9 : Array (Option Value)} {oc9 kV9 dc9 pm9 cd9 ct9 : Value}
    {f10 : Addr} {od10 an10 : Option Addr} {sl10 : Array (Option Value)} {oc10 kV10 dc10 pm10 cd10 ct10 : Value}
    {f11 : Addr} {od11 an11 : Option Addr} {sl11 : Array (Option Value)} {oc11 kV11 dc11 pm11 cd11 ct11 : Value}
    {f12 : Addr} {od12 an12 : Option Addr} {sl12 : Array (Option Value)} {oc12 kV12 dc12 pm12 cd12 ct12 : Value}
    {f13 : Addr} {od13 an13 : Option Addr} {sl13 : Array (Option Value)} {oc13 kV13 dc13 pm13 cd13 ct13 : Value}
    {f14 : Addr} {od14 an14 : Option Addr} {sl14 : Array (Option Value)} {oc14 kV14 dc14 pm14 cd14 ct14 : Value}
    {f15 : Addr} {od15 an15 : Option Addr} {sl15 : Array (Option Value)} {oc15 kV15 dc15 pm15 cd15 ct15 : Value}
    {f16 : Addr} {od16 an16 : Option Addr} {sl16 : Array (Option Value)} {oc16 kV16 dc16 pm16 cd16 ct16 : Value}
    {f17 : Addr} {od17 an17 : Option Addr} {sl17 : Array (Option Value)} {oc17 kV17 dc17 pm17 cd17 ct17 : Value}
    {f18 : Addr} {od18 an18 : Option Addr} {sl18 : Array (Option Value)} {oc18 kV18 dc18 pm18 cd18 ct18 : Value}
    {f19 : Addr} {od19 an19 : Option Addr} {sl19 : Array (Option Value)} {oc19 kV19 dc19 pm19 cd19 ct19 : Value}
    {f20 : Addr} {od20 an20 : Option Addr} {sl20 : Array (Option Value)} {oc20 kV20 dc20 pm20 cd20 ct20 : Value}
    {f21 : Addr} {od21 an21 : Option Addr} {sl21 : Array (Option Value)} {oc21 kV21 dc21 pm21 cd21 ct21 : Value}
    {f22 : Addr} {od22 an22 : Option Addr} {sl22 : Array (Option Value)} {oc22 kV22 dc22 pm22 cd22 ct22 : Value}
    {f23 : Addr} {od23 an23 : Option Addr} {sl23 : Array (Option Value)} {oc23 kV23 dc23 pm23 cd23 ct23 : Value}
    {f24 : Addr} {od24 an24 : Option Addr} {sl24 : Array (Option Value)} {oc24 kV24 dc24 pm24 cd24 ct24 : Value}
    {f25 : Addr} {od25 an25 : Option Addr} {sl25 : Array (Option Value)} {oc25 kV25 dc25 pm25 cd25 ct25 : Value}
    {f26 : Addr} {od26 an26 : Option Addr} {sl26 : Array (Option Value)} {oc26 kV26 dc26 pm26 cd26 ct26 : Value}
    {f27 : Addr} {od27 an27 : Option Addr} {sl27 : Array (Option Value)} {oc27 kV27 dc27 pm27 cd27 ct27 : Value}
    {f28 : Addr} {od28 an28 : Option Addr} {sl28 : Array (Option Value)} {oc28 kV28 dc28 pm28 cd28 ct28 : Value}
    {f29 : Addr} {od29 an29 : Option Addr} {sl29 : Array (Option Value)} {oc29 kV29 dc29 pm29 cd29 ct29 : Value}
    {f30 : Addr} {od30 an30 : Option Addr} {sl30 : Array (Option Value)} {oc30 kV30 dc30 pm30 cd30 ct30 : Value}
    {f31 : Addr} {od31 an31 : Option Addr} {sl31 : Array (Option Value)} {oc31 kV31 dc31 pm31 cd31 ct31 : Value}
    {f32 : Addr} {od32 an32 : Option Addr} {sl32 : Array (Option Value)} {oc32 kV32 dc32 pm32 cd32 ct32 : Value}
    {f33 : Addr} {od33 an33 : Option Addr} {sl33 : Array (Option Value)} {oc33 kV33 dc33 pm33 cd33 ct33 : Value}
    {f34 : Addr} {od34 an34 : Option Addr} {sl34 : Array (Option Value)} {oc34 kV34 dc34 pm34 cd34 ct34 : Value}
    {f35 : Addr} {od35 an35 : Option Addr} {sl35 : Array (Option Value)} {oc35 kV35 dc35 pm35 cd35 ct35 : Value}
    {f36 : Addr} {od36 an36 : Option Addr} {sl36 : Array (Option Value)} {oc36 kV36 dc36 pm36 cd36 ct36 : Value}
    {f37 : Addr} {od37 an37 : Option Addr} {sl37 : Array (Option Value)} {oc37 kV37 dc37 pm37 cd37 ct37 : Value}
    (a1 : PySem.W.nsIn K mainGlobals "widths_of" = some (some (.ref f1))) (l1 : K.lookup f1 = some ⟨oc1, od1, .func (PySem.W.fnOf "widths_of" "widths_of" (L2.defArgs sp_widths_of) (L2.defBody sp_widths_of) (L2.defScope sp_widths_of) .none kV1 dc1 pm1 an1 cd1 ct1), sl1⟩) (c1 : PySem.W.codeIn K cd1 "widths_of" = true) (k1 : PySem.W.keepIn K (.ref f1) = true)
    (a2 : PySem.W.nsIn K mainGlobals "operands_of" = some (some (.ref f2))) (l2 : K.lookup f2 = some ⟨oc2, od2, .func (PySem.W.fnOf "operands_of" "operands_of" (L2.defArgs sp_operands_of) (L2.defBody sp_operands_of) (L2.defScope sp_operands_of) .none kV2 dc2 pm2 an2 cd2 ct2), sl2⟩) (c2 : PySem.W.codeIn K cd2 "operands_of" = true) (k2 : PySem.W.keepIn K (.ref f2) = true)
    (a3 : PySem.W.nsIn K mainGlobals "greatest" = some (some (.ref f3))) (l3 : K.lookup f3 = some ⟨oc3, od3, .func (PySem.W.fnOf "greatest" "greatest" (L2.defArgs sp_greatest) (L2.defBody sp_greatest) (L2.defScope sp_greatest) .none kV3 dc3 pm3 an3 cd3 ct3), sl3⟩) (c3 : PySem.W.codeIn K cd3 "greatest" = true) (k3 : PySem.W.keepIn K (.ref f3) = true)
    (a4 : PySem.W.nsIn K mainGlobals "related" = some (some (.ref f4))) (l4 : K.lookup f4 = some ⟨oc4, od4, .func (PySem.W.fnOf "related" "related" (L2.defArgs sp_related) (L2.defBody sp_related) (L2.defScope sp_related) .none kV4 dc4 pm4 an4 cd4 ct4), sl4⟩) (c4 : PySem.W.codeIn K cd4 "related" = true) (k4 : PySem.W.keepIn K (.ref f4) = true)
    (a5 : PySem.W.nsIn K mainGlobals "shifted" = some (some (.ref f5))) (l5 : K.lookup f5 = some ⟨oc5, od5, .func (PySem.W.fnOf "shifted" "shifted" (L2.defArgs sp_shifted) (L2.defBody sp_shifted) (L2.defScope sp_shifted) .none kV5 dc5 pm5 an5 cd5 ct5), sl5⟩) (c5 : PySem.W.codeIn K cd5 "shifted" = true) (k5 : PySem.W.keepIn K (.ref f5) = true)
    (a6 : PySem.W.nsIn K mainGlobals "divided" = some (some (.ref f6))) (l6 : K.lookup f6 = some ⟨oc6, od6, .func (PySem.W.fnOf "divided" "divided" (L2.defArgs sp_divided) (L2.defBody sp_divided) (L2.defScope sp_divided) .none kV6 dc6 pm6 an6 cd6 ct6), sl6⟩) (c6 : PySem.W.codeIn K cd6 "divided" = true) (k6 : PySem.W.keepIn K (.ref f6) = true)
    (a7 : PySem.W.nsIn K mainGlobals "reckoned" = some (some (.ref f7))) (l7 : K.lookup f7 = some ⟨oc7, od7, .func (PySem.W.fnOf "reckoned" "reckoned" (L2.defArgs sp_reckoned) (L2.defBody sp_reckoned) (L2.defScope sp_reckoned) .none kV7 dc7 pm7 an7 cd7 ct7), sl7⟩) (c7 : PySem.W.codeIn K cd7 "reckoned" = true) (k7 : PySem.W.keepIn K (.ref f7) = true)
    (a8 : PySem.W.nsIn K mainGlobals "result" = some (some (.ref f8))) (l8 : K.lookup f8 = some ⟨oc8, od8, .func (PySem.W.fnOf "result" "result" (L2.defArgs sp_result) (L2.defBody sp_result) (L2.defScope sp_result) .none kV8 dc8 pm8 an8 cd8 ct8), sl8⟩) (c8 : PySem.W.codeIn K cd8 "result" = true) (k8 : PySem.W.keepIn K (.ref f8) = true)
    (a9 : PySem.W.nsIn K mainGlobals "contract_word" = some (some (.ref f9))) (l9 : K.lookup f9 = some ⟨oc9, od9, .func (PySem.W.fnOf "contract_word" "contract_word" (L2.defArgs sp_contract_word) (L2.defBody sp_contract_word) (L2.defScope sp_contract_word) .none kV9 dc9 pm9 an9 cd9 ct9), sl9⟩) (c9 : PySem.W.codeIn K cd9 "contract_word" = true) (k9 : PySem.W.keepIn K (.ref f9) = true)
    (a10 : PySem.W.nsIn K mainGlobals "asked_names" = some (some (.ref f10))) (l10 : K.lookup f10 = some ⟨oc10, od10, .func (PySem.W.fnOf "asked_names" "asked_names" (L2.defArgs sp_asked_names) (L2.defBody sp_asked_names) (L2.defScope sp_asked_names) .none kV10 dc10 pm10 an10 cd10 ct10), sl10⟩) (c10 : PySem.W.codeIn K cd10 "asked_names" = true) (k10 : PySem.W.keepIn K (.ref f10) = true)
    (a11 : PySem.W.nsIn K mainGlobals "needs_hold" = some (some (.ref f11))) (l11 : K.lookup f11 = some ⟨oc11, od11, .func (PySem.W.fnOf "needs_hold" "needs_hold" (L2.defArgs sp_needs_hold) (L2.defBody sp_needs_hold) (L2.defScope sp_needs_hold) .none kV11 dc11 pm11 an11 cd11 ct11), sl11⟩) (c11 : PySem.W.codeIn K cd11 "needs_hold" = true) (k11 : PySem.W.keepIn K (.ref f11) = true)
    (a12 : PySem.W.nsIn K mainGlobals "given_words" = some (some (.ref f12))) (l12 : K.lookup f12 = some ⟨oc12, od12, .func (PySem.W.fnOf "given_words" "given_words" (L2.defArgs sp_given_words) (L2.defBody sp_given_words) (L2.defScope sp_given_words) .none kV12 dc12 pm12 an12 cd12 ct12), sl12⟩) (c12 : PySem.W.codeIn K cd12 "given_words" = true) (k12 : PySem.W.keepIn K (.ref f12) = true)
    (a13 : PySem.W.nsIn K mainGlobals "rows_of" = some (some (.ref f13))) (l13 : K.lookup f13 = some ⟨oc13, od13, .func (PySem.W.fnOf "rows_of" "rows_of" (L2.defArgs sp_rows_of) (L2.defBody sp_rows_of) (L2.defScope sp_rows_of) .none kV13 dc13 pm13 an13 cd13 ct13), sl13⟩) (c13 : PySem.W.codeIn K cd13 "rows_of" = true) (k13 : PySem.W.keepIn K (.ref f13) = true)
    (a14 : PySem.W.nsIn K mainGlobals "unmet" = some (some (.ref f14))) (l14 : K.lookup f14 = some ⟨oc14, od14, .func (PySem.W.fnOf "unmet" "unmet" (L2.defArgs sp_unmet) (L2.defBody sp_unmet) (L2.defScope sp_unmet) .none kV14 dc14 pm14 an14 cd14 ct14), sl14⟩) (c14 : PySem.W.codeIn K cd14 "unmet" = true) (k14 : PySem.W.keepIn K (.ref f14) = true)
    (a15 : PySem.W.nsIn K mainGlobals "let_answers" = some (some (.ref f15))) (l15 : K.lookup f15 = some ⟨oc15, od15, .func (PySem.W.fnOf "let_answers" "let_answers" (L2.defArgs sp_let_answers) (L2.defBody sp_let_answers) (L2.defScope sp_let_answers) .none kV15 dc15 pm15 an15 cd15 ct15), sl15⟩) (c15 : PySem.W.codeIn K cd15 "let_answers" = true) (k15 : PySem.W.keepIn K (.ref f15) = true)
    (a16 : PySem.W.nsIn K mainGlobals "_law_operands" = some (some (.ref f16))) (l16 : K.lookup f16 = some ⟨oc16, od16, .func (PySem.W.fnOf "_law_operands" "_law_operands" (L2.defArgs sl_operands) (L2.defBody sl_operands) (L2.defScope sl_operands) .none kV16 dc16 pm16 an16 cd16 ct16), sl16⟩) (c16 : PySem.W.codeIn K cd16 "_law_operands" = true) (k16 : PySem.W.keepIn K (.ref f16) = true)
    (a17 : PySem.W.nsIn K mainGlobals "_law_tuples" = some (some (.ref f17))) (l17 : K.lookup f17 = some ⟨oc17, od17, .func (PySem.W.fnOf "_law_tuples" "_law_tuples" (L2.defArgs sl_tuples) (L2.defBody sl_tuples) (L2.defScope sl_tuples) .none kV17 dc17 pm17 an17 cd17 ct17), sl17⟩) (c17 : PySem.W.codeIn K cd17 "_law_tuples" = true) (k17 : PySem.W.keepIn K (.ref f17) = true)
    (a18 : PySem.W.nsIn K mainGlobals "_law_word" = some (some (.ref f18))) (l18 : K.lookup f18 = some ⟨oc18, od18, .func (PySem.W.fnOf "_law_word" "_law_word" (L2.defArgs sl_word) (L2.defBody sl_word) (L2.defScope sl_word) .none kV18 dc18 pm18 an18 cd18 ct18), sl18⟩) (c18 : PySem.W.codeIn K cd18 "_law_word" = true) (k18 : PySem.W.keepIn K (.ref f18) = true)
    (a19 : PySem.W.nsIn K mainGlobals "_law_source" = some (some (.ref f19))) (l19 : K.lookup f19 = some ⟨oc19, od19, .func (PySem.W.fnOf "_law_source" "_law_source" (L2.defArgs sl_source) (L2.defBody sl_source) (L2.defScope sl_source) .none kV19 dc19 pm19 an19 cd19 ct19), sl19⟩) (c19 : PySem.W.codeIn K cd19 "_law_source" = true) (k19 : PySem.W.keepIn K (.ref f19) = true)
    (a20 : PySem.W.nsIn K mainGlobals "_law_digit" = some (some (.ref f20))) (l20 : K.lookup f20 = some ⟨oc20, od20, .func (PySem.W.fnOf "_law_digit" "_law_digit" (L2.defArgs sl_digit) (L2.defBody sl_digit) (L2.defScope sl_digit) .none kV20 dc20 pm20 an20 cd20 ct20), sl20⟩) (c20 : PySem.W.codeIn K cd20 "_law_digit" = true) (k20 : PySem.W.keepIn K (.ref f20) = true)
    (a21 : PySem.W.nsIn K mainGlobals "_law_pick_one" = some (some (.ref f21))) (l21 : K.lookup f21 = some ⟨oc21, od21, .func (PySem.W.fnOf "_law_pick_one" "_law_pick_one" (L2.defArgs sl_pick_one) (L2.defBody sl_pick_one) (L2.defScope sl_pick_one) .none kV21 dc21 pm21 an21 cd21 ct21), sl21⟩) (c21 : PySem.W.codeIn K cd21 "_law_pick_one" = true) (k21 : PySem.W.keepIn K (.ref f21) = true)
    (a22 : PySem.W.nsIn K mainGlobals "_law_label" = some (some (.ref f22))) (l22 : K.lookup f22 = some ⟨oc22, od22, .func (PySem.W.fnOf "_law_label" "_law_label" (L2.defArgs sl_label) (L2.defBody sl_label) (L2.defScope sl_label) .none kV22 dc22 pm22 an22 cd22 ct22), sl22⟩) (c22 : PySem.W.codeIn K cd22 "_law_label" = true) (k22 : PySem.W.keepIn K (.ref f22) = true)
    (a23 : PySem.W.nsIn K mainGlobals "_law_bare" = some (some (.ref f23))) (l23 : K.lookup f23 = some ⟨oc23, od23, .func (PySem.W.fnOf "_law_bare" "_law_bare" (L2.defArgs sl_bare) (L2.defBody sl_bare) (L2.defScope sl_bare) .none kV23 dc23 pm23 an23 cd23 ct23), sl23⟩) (c23 : PySem.W.codeIn K cd23 "_law_bare" = true) (k23 : PySem.W.keepIn K (.ref f23) = true)
    (a24 : PySem.W.nsIn K mainGlobals "_law_leaves" = some (some (.ref f24))) (l24 : K.lookup f24 = some ⟨oc24, od24, .func (PySem.W.fnOf "_law_leaves" "_law_leaves" (L2.defArgs sl_leaves) (L2.defBody sl_leaves) (L2.defScope sl_leaves) .none kV24 dc24 pm24 an24 cd24 ct24), sl24⟩) (c24 : PySem.W.codeIn K cd24 "_law_leaves" = true) (k24 : PySem.W.keepIn K (.ref f24) = true)
    (a25 : PySem.W.nsIn K mainGlobals "_law_kinded" = some (some (.ref f25))) (l25 : K.lookup f25 = some ⟨oc25, od25, .func (PySem.W.fnOf "_law_kinded" "_law_kinded" (L2.defArgs sl_kinded) (L2.defBody sl_kinded) (L2.defScope sl_kinded) .none kV25 dc25 pm25 an25 cd25 ct25), sl25⟩) (c25 : PySem.W.codeIn K cd25 "_law_kinded" = true) (k25 : PySem.W.keepIn K (.ref f25) = true)
    (a26 : PySem.W.nsIn K mainGlobals "_law_typed" = some (some (.ref f26))) (l26 : K.lookup f26 = some ⟨oc26, od26, .func (PySem.W.fnOf "_law_typed" "_law_typed" (L2.defArgs sl_typed) (L2.defBody sl_typed) (L2.defScope sl_typed) .none kV26 dc26 pm26 an26 cd26 ct26), sl26⟩) (c26 : PySem.W.codeIn K cd26 "_law_typed" = true) (k26 : PySem.W.keepIn K (.ref f26) = true)
    (a27 : PySem.W.nsIn K mainGlobals "_law_binary" = some (some (.ref f27))) (l27 : K.lookup f27 = some ⟨oc27, od27, .func (PySem.W.fnOf "_law_binary" "_law_binary" (L2.defArgs sl_binary) (L2.defBody sl_binary) (L2.defScope sl_binary) .none kV27 dc27 pm27 an27 cd27 ct27), sl27⟩) (c27 : PySem.W.codeIn K cd27 "_law_binary" = true) (k27 : PySem.W.keepIn K (.ref f27) = true)
    (a28 : PySem.W.nsIn K mainGlobals "_law_compared" = some (some (.ref f28))) (l28 : K.lookup f28 = some ⟨oc28, od28, .func (PySem.W.fnOf "_law_compared" "_law_compared" (L2.defArgs sl_compared) (L2.defBody sl_compared) (L2.defScope sl_compared) .none kV28 dc28 pm28 an28 cd28 ct28), sl28⟩) (c28 : PySem.W.codeIn K cd28 "_law_compared" = true) (k28 : PySem.W.keepIn K (.ref f28) = true)
    (a29 : PySem.W.nsIn K mainGlobals "_law_salts" = some (some (.ref f29))) (l29 : K.lookup f29 = some ⟨oc29, od29, .func (PySem.W.fnOf "_law_salts" "_law_salts" (L2.defArgs sl_salts) (L2.defBody sl_salts) (L2.defScope sl_salts) .none kV29 dc29 pm29 an29 cd29 ct29), sl29⟩) (c29 : PySem.W.codeIn K cd29 "_law_salts" = true) (k29 : PySem.W.keepIn K (.ref f29) = true)
    (a30 : PySem.W.nsIn K mainGlobals "_law_worth" = some (some (.ref f30))) (l30 : K.lookup f30 = some ⟨oc30, od30, .func (PySem.W.fnOf "_law_worth" "_law_worth" (L2.defArgs sl_worth) (L2.defBody sl_worth) (L2.defScope sl_worth) .none kV30 dc30 pm30 an30 cd30 ct30), sl30⟩) (c30 : PySem.W.codeIn K cd30 "_law_worth" = true) (k30 : PySem.W.keepIn K (.ref f30) = true)
    (a31 : PySem.W.nsIn K mainGlobals "_law_given" = some (some (.ref f31))) (l31 : K.lookup f31 = some ⟨oc31, od31, .func (PySem.W.fnOf "_law_given" "_law_given" (L2.defArgs sl_given) (L2.defBody sl_given) (L2.defScope sl_given) .none kV31 dc31 pm31 an31 cd31 ct31), sl31⟩) (c31 : PySem.W.codeIn K cd31 "_law_given" = true) (k31 : PySem.W.keepIn K (.ref f31) = true)
    (a32 : PySem.W.nsIn K mainGlobals "_law_needed_words" = some (some (.ref f32))) (l32 : K.lookup f32 = some ⟨oc32, od32, .func (PySem.W.fnOf "_law_needed_words" "_law_needed_words" (L2.defArgs sl_needed_words) (L2.defBody sl_needed_words) (L2.defScope sl_needed_words) .none kV32 dc32 pm32 an32 cd32 ct32), sl32⟩) (c32 : PySem.W.codeIn K cd32 "_law_needed_words" = true) (k32 : PySem.W.keepIn K (.ref f32) = true)
    (a33 : PySem.W.nsIn K mainGlobals "_law_unmet_words" = some (some (.ref f33))) (l33 : K.lookup f33 = some ⟨oc33, od33, .func (PySem.W.fnOf "_law_unmet_words" "_law_unmet_words" (L2.defArgs sl_unmet_words) (L2.defBody sl_unmet_words) (L2.defScope sl_unmet_words) .none kV33 dc33 pm33 an33 cd33 ct33), sl33⟩) (c33 : PySem.W.codeIn K cd33 "_law_unmet_words" = true) (k33 : PySem.W.keepIn K (.ref f33) = true)
    (a34 : PySem.W.nsIn K mainGlobals "_law_contracted" = some (some (.ref f34))) (l34 : K.lookup f34 = some ⟨oc34, od34, .func (PySem.W.fnOf "_law_contracted" "_law_contracted" (L2.defArgs sl_contracted) (L2.defBody sl_contracted) (L2.defScope sl_contracted) .none kV34 dc34 pm34 an34 cd34 ct34), sl34⟩) (c34 : PySem.W.codeIn K cd34 "_law_contracted" = true) (k34 : PySem.W.keepIn K (.ref f34) = true)
    (a35 : PySem.W.nsIn K mainGlobals "_law_own_answers" = some (some (.ref f35))) (l35 : K.lookup f35 = some ⟨oc35, od35, .func (PySem.W.fnOf "_law_own_answers" "_law_own_answers" (L2.defArgs sl_own_answers) (L2.defBody sl_own_answers) (L2.defScope sl_own_answers) .none kV35 dc35 pm35 an35 cd35 ct35), sl35⟩) (c35 : PySem.W.codeIn K cd35 "_law_own_answers" = true) (k35 : PySem.W.keepIn K (.ref f35) = true)
    (a36 : PySem.W.nsIn K mainGlobals "_law_plain" = some (some (.ref f36))) (l36 : K.lookup f36 = some ⟨oc36, od36, .func (PySem.W.fnOf "_law_plain" "_law_plain" (L2.defArgs sl_plain) (L2.defBody sl_plain) (L2.defScope sl_plain) .none kV36 dc36 pm36 an36 cd36 ct36), sl36⟩) (c36 : PySem.W.codeIn K cd36 "_law_plain" = true) (k36 : PySem.W.keepIn K (.ref f36) = true)
    (a37 : PySem.W.nsIn K mainGlobals "law" = some (some (.ref f37))) (l37 : K.lookup f37 = some ⟨oc37, od37, .func (PySem.W.fnOf "law" "law" (L2.defArgs sl_law) (L2.defBody sl_law) (L2.defScope sl_law) .none kV37 dc37 pm37 an37 cd37 ct37), sl37⟩) (c37 : PySem.W.codeIn K cd37 "law" = true) (k37 : PySem.W.keepIn K (.ref f37) = true)
    (z1 : PySem.W.nsIn K mainGlobals "abs" = some none) (z2 : PySem.W.nsIn K mainGlobals "any" = some none) (z3 : PySem.W.nsIn K mainGlobals "bool" = some none) (z4 : PySem.W.nsIn K mainGlobals "int" = some none) (z5 : PySem.W.nsIn K mainGlobals "isinstance" = some none) (z6 : PySem.W.nsIn K mainGlobals "len" = some none) (z7 : PySem.W.nsIn K mainGlobals "list" = some none) (z8 : PySem.W.nsIn K mainGlobals "min" = some none) (z9 : PySem.W.nsIn K mainGlobals "range" = some none) (z10 : PySem.W.nsIn K mainGlobals "str" = some none) (z11 : PySem.W.nsIn K mainGlobals "tuple" = some none) (z12 : PySem.W.nsIn K mainGlobals "zip" = some none) :
    ∃ fd : FuncData, (∀ (s : Shared) (v : Value), BindsTo s fd ⟨[v], []⟩ [("_law_script", v)]) ∧ ∀ base : Heap, K.In base → base.Ns mainGlobals mg → L2.FnOk l.prog w K mg base L2.CX0 61 fa fd ["_law_script"] (liftF K 1 (callN prog 61 "law")) := by
  have e := hfa.symm.trans (PySem.W.mg_of X G a37)
  cases e
  have F1 := L2.fun_mk (st := sp_widths_of) l1 c1 k1
  have b1 := F1.binds (ps := ["function"]) fun _ _ _ _ _ _ us hl => match us, hl with | [_], _ => rfl
  have F2 := L2.fun_mk (st := sp_operands_of) l2 c2 k2
  have b2 := F2.binds (ps := ["expr"]) fun _ _ _ _ _ _ us hl => match us, hl with | [_], _ => rfl
  have F3 := L2.fun_mk (st := sp_greatest) l3 c3 k3
  have b3 := F3.binds (ps := ["width"]) fun _ _ _ _ _ _ us hl => match us, hl with | [_], _ => rfl
  have F4 := L2.fun_mk (st := sp_related) l4 c4 k4
  have b4 := F4.binds (ps := ["op", "left", "right"]) fun _ _ _ _ _ _ us hl => match us, hl with | [_, _, _], _ => rfl
  have F5 := L2.fun_mk (st := sp_shifted) l5 c5 k5
  have b5 := F5.binds (ps := ["op", "width", "left", "right"]) fun _ _ _ _ _ _ us hl => match us, hl with | [_, _, _, _], _ => rfl
  have F6 := L2.fun_mk (st := sp_divided) l6 c6 k6
  have b6 := F6.binds (ps := ["op", "left", "right"]) fun _ _ _ _ _ _ us hl => match us, hl with | [_, _, _], _ => rfl
  have F7 := L2.fun_mk (st := sp_reckoned) l7 c7 k7
  have b7 := F7.binds (ps := ["op", "left", "right"]) fun _ _ _ _ _ _ us hl => match us, hl with | [_, _, _], _ => rfl
  have F8 := L2.fun_mk (st := sp_result) l8 c8 k8
  have F9 := L2.fun_mk (st := sp_contract_word) l9 c9 k9
  have b9 := F9.binds (ps := ["expr", "names"]) fun _ _ _ _ _ _ us hl => match us, hl with | [_, _], _ => rfl
  have F10 := L2.fun_mk (st := sp_asked_names) l10 c10 k10
  have b10 := F10.binds (ps := ["external", "args"]) fun _ _ _ _ _ _ us hl => match us, hl with | [_, _], _ => rfl
  have F11 := L2.fun_mk (st := sp_needs_hold) l11 c11 k11
  have b11 := F11.binds (ps := ["external", "args"]) fun _ _ _ _ _ _ us hl => match us, hl with | [_, _], _ => rfl
  have F12 := L2.fun_mk (st := sp_given_words) l12 c12 k12
  have b12 := F12.binds (ps := ["external", "args"]) fun _ _ _ _ _ _ us hl => match us, hl with | [_, _], _ => rfl
  have F13 := L2.fun_mk (st := sp_rows_of) l13 c13 k13
  have b13 := F13.binds (ps := ["widths"]) fun _ _ _ _ _ _ us hl => match us, hl with | [_], _ => rfl
  have F14 := L2.fun_mk (st := sp_unmet) l14 c14 k14
  have b14 := F14.binds (ps := ["external"]) fun _ _ _ _ _ _ us hl => match us, hl with | [_], _ => rfl
  have F15 := L2.fun_mk (st := sp_let_answers) l15 c15 k15
  have b15 := F15.binds (ps := ["external", "args", "asked"]) fun _ _ _ _ _ _ us hl => match us, hl with | [_, _, _], _ => rfl
  have F16 := L2.fun_mk (st := sl_operands) l16 c16 k16
  have b16 := F16.binds (ps := ["_law_expr"]) fun _ _ _ _ _ _ us hl => match us, hl with | [_], _ => rfl
  have F17 := L2.fun_mk (st := sl_tuples) l17 c17 k17
  have b17 := F17.binds (ps := ["_law_widths"]) fun _ _ _ _ _ _ us hl => match us, hl with | [_], _ => rfl
  have F18 := L2.fun_mk (st := sl_word) l18 c18 k18
  have b18 := F18.binds (ps := ["_law_op", "_law_width", "_law_words"]) fun _ _ _ _ _ _ us hl => match us, hl with | [_, _, _], _ => rfl
  have F19 := L2.fun_mk (st := sl_source) l19 c19 k19
  have b19 := F19.binds (ps := ["_law_script"]) fun _ _ _ _ _ _ us hl => match us, hl with | [_], _ => rfl
  have F20 := L2.fun_mk (st := sl_digit) l20 c20 k20
  have b20 := F20.binds (ps := ["_law_source_here", "_law_many"]) fun _ _ _ _ _ _ us hl => match us, hl with | [_, _], _ => rfl
  have F21 := L2.fun_mk (st := sl_pick_one) l21 c21 k21
  have b21 := F21.binds (ps := ["_law_source_here", "_law_rows"]) fun _ _ _ _ _ _ us hl => match us, hl with | [_, _], _ => rfl
  have F22 := L2.fun_mk (st := sl_label) l22 c22 k22
  have b22 := F22.binds (ps := ["_law_salt", "_law_k"]) fun _ _ _ _ _ _ us hl => match us, hl with | [_, _], _ => rfl
  have F23 := L2.fun_mk (st := sl_bare) l23 c23 k23
  have b23 := F23.binds (ps := ["_law_rows", "_law_spares"]) fun _ _ _ _ _ _ us hl => match us, hl with | [_, _], _ => rfl
  have F24 := L2.fun_mk (st := sl_leaves) l24 c24 k24
  have b24 := F24.binds (ps := ["_law_scope", "_law_sought"]) fun _ _ _ _ _ _ us hl => match us, hl with | [_, _], _ => rfl
  have F25 := L2.fun_mk (st := sl_kinded) l25 c25 k25
  have b25 := F25.binds (ps := ["_law_source_here", "_law_scope", "_law_sought", "_law_fuel"]) fun _ _ _ _ _ _ us hl => match us, hl with | [_, _, _, _], _ => rfl
  have F26 := L2.fun_mk (st := sl_typed) l26 c26 k26
  have b26 := F26.binds (ps := ["_law_source_here", "_law_scope", "_law_width", "_law_fuel"]) fun _ _ _ _ _ _ us hl => match us, hl with | [_, _, _, _], _ => rfl
  have F27 := L2.fun_mk (st := sl_binary) l27 c27 k27
  have b27 := F27.binds (ps := ["_law_source_here", "_law_scope", "_law_width", "_law_fuel"]) fun _ _ _ _ _ _ us hl => match us, hl with | [_, _, _, _], _ => rfl
  have F28 := L2.fun_mk (st := sl_compared) l28 c28 k28
  have b28 := F28.binds (ps := ["_law_source_here", "_law_scope", "_law_fuel"]) fun _ _ _ _ _ _ us hl => match us, hl with | [_, _, _], _ => rfl
  have F29 := L2.fun_mk (st := sl_salts) l29 c29 k29
  have b29 := F29.binds (ps := ["_law_source_here"]) fun _ _ _ _ _ _ us hl => match us, hl with | [_], _ => rfl
  have F30 := L2.fun_mk (st := sl_worth) l30 c30 k30
  have b30 := F30.binds (ps := ["_law_names", "_law_expr"]) fun _ _ _ _ _ _ us hl => match us, hl with | [_, _], _ => rfl
  have F31 := L2.fun_mk (st := sl_given) l31 c31 k31
  have b31 := F31.binds (ps := ["_law_part", "_law_words"]) fun _ _ _ _ _ _ us hl => match us, hl with | [_, _], _ => rfl
  have F32 := L2.fun_mk (st := sl_needed_words) l32 c32 k32
  have b32 := F32.binds (ps := ["_law_part"]) fun _ _ _ _ _ _ us hl => match us, hl with | [_], _ => rfl
  have F33 := L2.fun_mk (st := sl_unmet_words) l33 c33 k33
  have b33 := F33.binds (ps := ["_law_part"]) fun _ _ _ _ _ _ us hl => match us, hl with | [_], _ => rfl
  have F34 := L2.fun_mk (st := sl_contracted) l34 c34 k34
  have b34 := F34.binds (ps := ["_law_source_here", "_law_salts_here"]) fun _ _ _ _ _ _ us hl => match us, hl with | [_, _], _ => rfl
  have F35 := L2.fun_mk (st := sl_own_answers) l35 c35 k35
  have b35 := F35.binds (ps := ["_law_part", "_law_words", "_law_log"]) fun _ _ _ _ _ _ us hl => match us, hl with | [_, _, _], _ => rfl
  have F36 := L2.fun_mk (st := sl_plain) l36 c36 k36
  have b36 := F36.binds (ps := ["_law_told", "_law_due"]) fun _ _ _ _ _ _ us hl => match us, hl with | [_, _], _ => rfl
  have F37 := L2.fun_mk (st := sl_law) l37 c37 k37
  have b37 := F37.binds (ps := ["_law_script"]) fun _ _ _ _ _ _ us hl => match us, hl with | [_], _ => rfl
  have zs : ∀ y ∈ blts, mg (Str.ofString y) = none := by
    intro y hy
    simp only [blts, List.mem_cons, List.not_mem_nil, or_false] at hy
    rcases hy with rfl | rfl | rfl | rfl | rfl | rfl | rfl | rfl | rfl | rfl | rfl | rfl
    · exact PySem.W.mg_none_of X G z1
    · exact PySem.W.mg_none_of X G z2
    · exact PySem.W.mg_none_of X G z3
    · exact PySem.W.mg_none_of X G z4
    · exact PySem.W.mg_none_of X G z5
    · exact PySem.W.mg_none_of X G z6
    · exact PySem.W.mg_none_of X G z7
    · exact PySem.W.mg_none_of X G z8
    · exact PySem.W.mg_none_of X G z9
    · exact PySem.W.mg_none_of X G z10
    · exact PySem.W.mg_none_of X G z11
    · exact PySem.W.mg_none_of X G z12
  refine ⟨PySem.W.fnOf "law" "law" (L2.defArgs sl_law) (L2.defBody sl_law) (L2.defScope sl_law) .none kV37 dc37 pm37 an37 cd37 ct37, fun s v => .of_eq rfl, fun base _ _ => ?_⟩
  have st : ∀ x ∈ names, ∃ d, prog x = some d ∧ Step2 l.prog w K mg base names snames x d := by
    intro x hx
    simp only [names, List.mem_cons, List.not_mem_nil, or_false] at hx
    rcases hx with rfl | rfl | rfl | rfl | rfl | rfl | rfl | rfl | rfl | rfl | rfl | rfl | rfl | rfl | rfl | rfl | rfl | rfl | rfl | rfl | rfl | rfl | rfl | rfl | rfl | rfl | rfl | rfl | rfl | rfl | rfl | rfl | rfl | rfl | rfl | rfl
    · exact ⟨_, rfl, _, _, ["function"], PySem.W.mg_of X G a1, F1.kp, b1, rfl, fun k c ok oks => fn_ok F1 scp_widths_of rfl rfl (der_p_widths_of ok oks zs)⟩
    · exact ⟨_, rfl, _, _, ["expr"], PySem.W.mg_of X G a2, F2.kp, b2, rfl, fun k c ok oks => fn_ok F2 scp_operands_of rfl rfl (der_p_operands_of ok oks zs)⟩
    · exact ⟨_, rfl, _, _, ["width"], PySem.W.mg_of X G a3, F3.kp, b3, rfl, fun k c ok oks => fn_ok F3 scp_greatest rfl rfl (der_p_greatest ok oks zs)⟩
    · exact ⟨_, rfl, _, _, ["op", "left", "right"], PySem.W.mg_of X G a4, F4.kp, b4, rfl, fun k c ok oks => fn_ok F4 scp_related rfl rfl (der_p_related ok oks zs)⟩
    · exact ⟨_, rfl, _, _, ["op", "width", "left", "right"], PySem.W.mg_of X G a5, F5.kp, b5, rfl, fun k c ok oks => fn_ok F5 scp_shifted rfl rfl (der_p_shifted ok oks zs)⟩
    · exact ⟨_, rfl, _, _, ["op", "left", "right"], PySem.W.mg_of X G a6, F6.kp, b6, rfl, fun k c ok oks => fn_ok F6 scp_divided rfl rfl (der_p_divided ok oks zs)⟩
    · exact ⟨_, rfl, _, _, ["op", "left", "right"], PySem.W.mg_of X G a7, F7.kp, b7, rfl, fun k c ok oks => fn_ok F7 scp_reckoned rfl rfl (der_p_reckoned ok oks zs)⟩
    · exact ⟨_, rfl, _, _, ["expr", "names"], PySem.W.mg_of X G a9, F9.kp, b9, rfl, fun k c ok oks => fn_ok F9 scp_contract_word rfl rfl (der_p_contract_word ok oks zs)⟩
    · exact ⟨_, rfl, _, _, ["external", "args"], PySem.W.mg_of X G a10, F10.kp, b10, rfl, fun k c ok oks => fn_ok F10 scp_asked_names rfl rfl (der_p_asked_names ok oks zs)⟩
    · exact ⟨_, rfl, _, _, ["external", "args"], PySem.W.mg_of X G a11, F11.kp, b11, rfl, fun k c ok oks => fn_ok F11 scp_needs_hold rfl rfl (der_p_needs_hold ok oks zs)⟩
    · exact ⟨_, rfl, _, _, ["external", "args"], PySem.W.mg_of X G a12, F12.kp, b12, rfl, fun k c ok oks => fn_ok F12 scp_given_words rfl rfl (der_p_given_words ok oks zs)⟩
    · exact ⟨_, rfl, _, _, ["widths"], PySem.W.mg_of X G a13, F13.kp, b13, rfl, fun k c ok oks => fn_ok F13 scp_rows_of rfl rfl (der_p_rows_of ok oks zs)⟩
    · exact ⟨_, rfl, _, _, ["external"], PySem.W.mg_of X G a14, F14.kp, b14, rfl, fun k c ok oks => fn_ok F14 scp_unmet rfl rfl (der_p_unmet ok oks zs)⟩
    · exact ⟨_, rfl, _, _, ["external", "args", "asked"], PySem.W.mg_of X G a15, F15.kp, b15, rfl, fun k c ok oks => fn_ok F15 scp_let_answers rfl rfl (der_p_let_answers ok oks zs)⟩
    · exact ⟨_, rfl, _, _, ["_law_expr"], PySem.W.mg_of X G a16, F16.kp, b16, rfl, fun k c ok oks => fn_ok F16 scl_operands rfl rfl (der_l_operands ok oks zs)⟩
    · exact ⟨_, rfl, _, _, ["_law_widths"], PySem.W.mg_of X G a17, F17.kp, b17, rfl, fun k c ok oks => fn_ok F17 scl_tuples rfl rfl (der_l_tuples ok oks zs)⟩
    · exact ⟨_, rfl, _, _, ["_law_op", "_law_width", "_law_words"], PySem.W.mg_of X G a18, F18.kp, b18, rfl, fun k c ok oks => fn_ok F18 scl_word rfl rfl (der_l_word ok oks zs)⟩
    · exact ⟨_, rfl, _, _, ["_law_script"], PySem.W.mg_of X G a19, F19.kp, b19, rfl, fun k c ok oks => fn_ok F19 scl_source rfl rfl (der_l_source ok oks zs)⟩
    · exact ⟨_, rfl, _, _, ["_law_source_here", "_law_many"], PySem.W.mg_of X G a20, F20.kp, b20, rfl, fun k c ok oks => fn_ok F20 scl_digit rfl rfl (der_l_digit ok oks zs)⟩
    · exact ⟨_, rfl, _, _, ["_law_source_here", "_law_rows"], PySem.W.mg_of X G a21, F21.kp, b21, rfl, fun k c ok oks => fn_ok F21 scl_pick_one rfl rfl (der_l_pick_one ok oks zs)⟩
    · exact ⟨_, rfl, _, _, ["_law_salt", "_law_k"], PySem.W.mg_of X G a22, F22.kp, b22, rfl, fun k c ok oks => fn_ok F22 scl_label rfl rfl (der_l_label ok oks zs)⟩
    · exact ⟨_, rfl, _, _, ["_law_rows", "_law_spares"], PySem.W.mg_of X G a23, F23.kp, b23, rfl, fun k c ok oks => fn_ok F23 scl_bare rfl rfl (der_l_bare ok oks zs)⟩
    · exact ⟨_, rfl, _, _, ["_law_scope", "_law_sought"], PySem.W.mg_of X G a24, F24.kp, b24, rfl, fun k c ok oks => fn_ok F24 scl_leaves rfl rfl (der_l_leaves ok oks zs)⟩
    · exact ⟨_, rfl, _, _, ["_law_source_here", "_law_scope", "_law_sought", "_law_fuel"], PySem.W.mg_of X G a25, F25.kp, b25, rfl, fun k c ok oks => fn_ok F25 scl_kinded rfl rfl (der_l_kinded ok oks zs)⟩
    · exact ⟨_, rfl, _, _, ["_law_source_here", "_law_scope", "_law_width", "_law_fuel"], PySem.W.mg_of X G a26, F26.kp, b26, rfl, fun k c ok oks => fn_ok F26 scl_typed rfl rfl (der_l_typed ok oks zs)⟩
    · exact ⟨_, rfl, _, _, ["_law_source_here", "_law_scope", "_law_width", "_law_fuel"], PySem.W.mg_of X G a27, F27.kp, b27, rfl, fun k c ok oks => fn_ok F27 scl_binary rfl rfl (der_l_binary ok oks zs)⟩
    · exact ⟨_, rfl, _, _, ["_law_source_here", "_law_scope", "_law_fuel"], PySem.W.mg_of X G a28, F28.kp, b28, rfl, fun k c ok oks => fn_ok F28 scl_compared rfl rfl (der_l_compared ok oks zs)⟩
    · exact ⟨_, rfl, _, _, ["_law_source_here"], PySem.W.mg_of X G a29, F29.kp, b29, rfl, fun k c ok oks => fn_ok F29 scl_salts rfl rfl (der_l_salts ok oks zs)⟩
    · exact ⟨_, rfl, _, _, ["_law_names", "_law_expr"], PySem.W.mg_of X G a30, F30.kp, b30, rfl, fun k c ok oks => fn_ok F30 scl_worth rfl rfl (der_l_worth ok oks zs)⟩
    · exact ⟨_, rfl, _, _, ["_law_part", "_law_words"], PySem.W.mg_of X G a31, F31.kp, b31, rfl, fun k c ok oks => fn_ok F31 scl_given rfl rfl (der_l_given ok oks zs)⟩
    · exact ⟨_, rfl, _, _, ["_law_part"], PySem.W.mg_of X G a32, F32.kp, b32, rfl, fun k c ok oks => fn_ok F32 scl_needed_words rfl rfl (der_l_needed_words ok oks zs)⟩
    · exact ⟨_, rfl, _, _, ["_law_part"], PySem.W.mg_of X G a33, F33.kp, b33, rfl, fun k c ok oks => fn_ok F33 scl_unmet_words rfl rfl (der_l_unmet_words ok oks zs)⟩
    · exact ⟨_, rfl, _, _, ["_law_source_here", "_law_salts_here"], PySem.W.mg_of X G a34, F34.kp, b34, rfl, fun k c ok oks => fn_ok F34 scl_contracted rfl rfl (der_l_contracted ok oks zs)⟩
    · exact ⟨_, rfl, _, _, ["_law_part", "_law_words", "_law_log"], PySem.W.mg_of X G a35, F35.kp, b35, rfl, fun k c ok oks => fn_ok F35 scl_own_answers rfl rfl (der_l_own_answers ok oks zs)⟩
    · exact ⟨_, rfl, _, _, ["_law_told", "_law_due"], PySem.W.mg_of X G a36, F36.kp, b36, rfl, fun k c ok oks => fn_ok F36 scl_plain rfl rfl (der_l_plain ok oks zs)⟩
    · exact ⟨_, rfl, _, _, ["_law_script"], PySem.W.mg_of X G a37, F37.kp, b37, rfl, fun k c ok oks => fn_ok F37 scl_law rfl rfl (der_l_law ok oks zs)⟩
  have st2 : ∀ q ∈ snames, ∃ d, prog q.1 = some d ∧ StepS l.prog w K mg base names snames q.1 q.2 d := by
    intro q hq
    simp only [snames, List.mem_cons, List.not_mem_nil, or_false] at hq
    rcases hq with rfl
    · exact ⟨_, rfl, _, PySem.W.mg_of X G a8, F8.kp, fun k c ok oks => fnS_ok (ps := ["op", "width"]) (pv := "words") F8 scp_result rfl rfl (fun kV doc pm an cdv ct => StX.bind_star2 (B := fun us => bindArgs (PySem.W.fnOf "result" "result" (L2.defArgs sp_result) (L2.defBody sp_result) (L2.defScope sp_result) .none kV doc pm an cdv ct) ⟨us, []⟩) (fun _ _ => rfl) (fun _ _ _ _ => rfl)) (der_p_result ok oks zs)⟩
  have ow := all_own2 (P := l.prog) (w := w) (base := base) st st2 60
  refine (fn_ok (P := l.prog) (w := w) (mg := mg) (base := base) (k := 60) (d := ⟨1, 10, b_l_law⟩) (c := callN prog 60) F37 scl_law rfl rfl (der_l_law ow.1 ow.2 zs)).imp fun vs H Q E ⟨g0, f, st, ds, Q', s, r, ⟨d', e', g⟩, l⟩ => ?_
  cases (Option.some.inj e' : (⟨1, 10, b_l_law⟩ : Def) = d')
  exact ⟨g0, f, st, ds, Q', s, r, g, l⟩
end Pk13
end PartPdk13L

section PartPdk13P
set_option Elab.async false
set_option linter.all false
set_option maxRecDepth 100000
set_option maxHeartbeats 1000000
/-! k13, first text: labels. Own work. -/
namespace Pk13
open PySem Pd
local macro_rules | `(tactic| walk_at "s") => `(tactic| (repeat (refine Red.red ?_)))
local macro_rules | `(tactic| walk_at "r") => `(tactic| (repeat (first | refine Red.red ?_ | refine Nxt.mk ?_)))
local macro_rules | `(tactic| walk_at "t") => `(tactic| (repeat (first | refine Red.red ?_ | refine Nxt.mk ?_ | refine at_is rfl ?_ | refine ⟨Nat.le_of_ble_eq_true rfl, ?_⟩)))
variable {k m n : Nat} {st st' : Store} {Q : K}
theorem digitM {m : Nat} (hm : 1 ≤ m) {many : Int} (h : SrcAt st) (h0 : 0 < many) (h1 : many < 1073741824) (q : ∀ r st', 0 ≤ r → r < many → FraS st st' → Q (.int r) st') : callN prog m "_law_digit" [.ref 2, .int many] st Q := by
  obtain ⟨m, rfl⟩ : ∃ n, m = n + 1 := ⟨m - 1, by omega⟩
  exact digit_ok rfl h h0 h1 fun r st' r0 r1 f _ => q r st' r0 r1 f
theorem pickM {α : Type} {f : α → D} {xs : List α} {m n : Nat} (hm : 2 ≤ m) (hd : SrcAt st) (h : rdL st n (xs.map f)) (hn : n ≠ 2) (h0 : 0 < xs.length) (h1 : xs.length ≤ 100000000) (q : ∀ x st', x ∈ xs → FraS st st' → Q (f x) st') : callN prog m "_law_pick_one" [.ref 2, .ref n] st Q := by
  obtain ⟨m, rfl⟩ : ∃ n, m = n + 2 := ⟨m - 2, by omega⟩
  refine pickOne_ok rfl rfl hd h hn (by simpa using h0) (by simp; omega) fun x st' hx f _ => ?_
  obtain ⟨a, ha, rfl⟩ := List.mem_map.mp hx
  exact q a st' ha f
/-! ### labels -/
def lts : List Nat := ("abcdefghijklmnopqrstuvwxyz" : Str).cps.toList
def sgs : List Nat := (("abcdefghijklmnopqrstuvwxyz" : Str) ++ ("0123456789" : Str)).cps.toList
theorem lts_len : lts.length = 26 := by decide +kernel
theorem sgs_len : sgs.length = 36 := by decide +kernel
theorem lts_ok : ∀ c ∈ lts, c < 1114112 := by decide +kernel
theorem sgs_ok : ∀ c ∈ sgs, c < 1114112 := by decide +kernel
def ltr (i : Int) : Nat := lts.getD i.toNat 0
theorem ltr_injF : ∀ a b : Fin 26, lts.getD a.1 0 = lts.getD b.1 0 → a = b := by decide +kernel
theorem ltr_inj (a b : Nat) (ha : a < 26) (hb : b < 26) (h : lts.getD a 0 = lts.getD b 0) : a = b := congrArg Fin.val (ltr_injF ⟨a, ha⟩ ⟨b, hb⟩ h)
theorem app_cps (a b : Str) : (a ++ b).cps.toList = a.cps.toList ++ b.cps.toList := by
  show (Str.append a b).cps.toList = _
  simp [Str.append]
theorem okS_iff (s : Str) : okS s = true ↔ ∀ c ∈ s.cps.toList, c < 1114112 := by
  unfold okS
  rw [List.all_eq_true]
  simp only [decide_eq_true_eq]
theorem len_cps (s : Str) : s.length = s.cps.toList.length := by simp [Str.length]
theorem okS_app {a b : Str} (h : okS a = true) (h' : okS b = true) : okS (a ++ b) = true := by
  rw [okS_iff] at *
  rw [app_cps]
  intro c hc
  rcases List.mem_append.mp hc with hc | hc
  · exact h c hc
  · exact h' c hc
theorem len_app (a b : Str) : (a ++ b).length = a.length + b.length := by
  rw [len_cps, len_cps, len_cps, app_cps, List.length_append]
theorem ixS {z : Str} {l : List Nat} {N : Nat} {i : Int} (e : z.cps.toList = l) (hl : l.length = N) (hN : N ≤ 1000) (hk : ∀ c ∈ l, c < 1114112) (i0 : 0 ≤ i) (i1 : i < N) (q : ∀ x : Str, x.cps.toList = [l.getD i.toNat 0] → okS x = true → Q (.str x) st) : ixK (.str z) (.int i) st Q := by
  have hlt : i.toNat < l.length := by omega
  have e1 : l[i.toNat]? = some (l.getD i.toNat 0) := by rw [List.getD_eq_getElem?_getD, List.getElem?_eq_getElem hlt]; rfl
  refine ⟨l.getD i.toNat 0, ?_, ?_, q _ rfl ?_⟩
  · rw [len_cps, e, hl]; unfold szl; omega
  · rw [e]; exact atD_nat i0 e1
  · rw [okS_iff]
    intro c hc
    simp at hc
    subst hc
    exact hk _ (by rw [List.getElem?_eq_getElem hlt]; exact List.getElem_mem hlt)
structure Lab (s : Str) (p : Nat) (c : Nat) : Prop where
  ok : okS s = true
  at' : s.cps.toList[p]? = some c
  ne : s ≠ "result"
  len : s.length ≤ 8
theorem label_ok {m : Nat} {salt j : Int} (hm : 1 ≤ m) (s0 : 0 ≤ salt) (s1 : salt < 40000) (j0 : 0 ≤ j) (j1 : j ≤ 100) (q : ∀ s st', Lab s (salt % 4).toNat (ltr ((salt / 4 + 17 * j) % 26)) → Grw st st' → Q (.str s) st') : callN prog m "_law_label" [.int salt, .int j] st Q := by
  obtain ⟨m, rfl⟩ : ∃ n, m = n + 1 := ⟨m - 1, by omega⟩
  refine call_intro rfl rfl ?_
  unfold b_l_label
  have big : ∀ n : Nat, n ≤ 10000 → n ≤ szl := fun n h => by unfold szl; omega
  have m4 := Int.emod_nonneg salt (show (4 : Int) ≠ 0 by decide)
  have m4' := Int.emod_lt_of_pos salt (show (0 : Int) < 4 by decide)
  have hsg : ("abcdefghijklmnopqrstuvwxyz" : Str).length + ("0123456789" : Str).length ≤ szl := by decide +kernel
  have stp : ∀ (s x : Str) (c : Nat), x.cps.toList = [c] → okS x = true → okS s = true → s.length ≤ 50 → okS (s ++ x) = true ∧ (s ++ x).length = s.length + 1 ∧ (s ++ x).cps.toList = s.cps.toList ++ [c] := by
    intro s x c e hx hs hl
    exact ⟨okS_app hs hx, by rw [len_app, len_cps x, e]; rfl, by rw [app_cps, e]⟩
  walk_at "t"
  refine ⟨by decide, ?_⟩
  walk_at "t"
  refine ⟨by omega, by omega, ?_⟩
  refine for_rng (lo := 0) (fun i σ st' => ∃ (s : Str) (y : Option D), okS s = true ∧ s.length = i ∧ st' = st ∧ σ = [some (.int salt), some (.int j), some (.str "abcdefghijklmnopqrstuvwxyz"), some (.str (("abcdefghijklmnopqrstuvwxyz" : Str) ++ ("0123456789" : Str))), some (.str "record external steady needs gives entry function var let make call if else while return raise try catch "), some (.str s), y, none]) ⟨"", _, by decide +kernel, by decide +kernel, rfl, rfl⟩ (fun i σ st' hi ⟨s, y, h1, h2, h3, h4⟩ N hN => ?_) (fun σ st1 ⟨s, y, h1, h2, h3, h4⟩ => ?_)
  · subst h3 h4
    refine ⟨trivial, ?_⟩
    walk_at "t"
    refine ⟨by decide, ?_⟩
    walk_at "t"
    refine ⟨.inl (by decide), ?_⟩
    walk_at "t"
    refine ⟨by decide, ?_⟩
    walk_at "t"
    refine ixS (l := lts) rfl lts_len (by decide) lts_ok (Int.emod_nonneg _ (by decide)) (Int.emod_lt_of_pos _ (by decide)) fun x e1 e2 => ?_
    obtain ⟨g1, g2, g3⟩ := stp s x _ e1 e2 h1 (by omega)
    walk_at "t"
    refine ⟨by rw [len_cps x, e1]; exact big _ (by simp only [List.length_cons, List.length_nil]; omega), ?_⟩
    walk_at "t"
    exact hN _ _ ⟨_, _, g1, by omega, rfl, rfl⟩
  subst h3 h4
  refine ⟨trivial, ?_⟩
  walk_at "t"
  refine ⟨by decide, ?_⟩
  walk_at "t"
  refine ⟨.inl (by decide), ?_⟩
  walk_at "t"
  refine ⟨by decide, ?_⟩
  walk_at "t"
  refine ixS (l := lts) rfl lts_len (by decide) lts_ok (Int.emod_nonneg _ (by decide)) (Int.emod_lt_of_pos _ (by decide)) fun x e1 e2 => ?_
  obtain ⟨g1, g2, g3⟩ := stp s x _ e1 e2 h1 (by omega)
  walk_at "t"
  refine ⟨by rw [len_cps x, e1]; exact big _ (by simp only [List.length_cons, List.length_nil]; omega), ?_⟩
  walk_at "t"
  refine ⟨by decide, ?_⟩
  walk_at "t"
  refine ⟨by decide, ?_⟩
  walk_at "t"
  have n4 := Int.emod_nonneg (salt / 3 + j) (show (4 : Int) ≠ 0 by decide)
  have n4' := Int.emod_lt_of_pos (salt / 3 + j) (show (0 : Int) < 4 by decide)
  refine ⟨by omega, by omega, ?_⟩
  have hat : (s ++ x).cps.toList[(salt % 4).toNat]? = some (ltr ((salt / 4 + 17 * j) % 26)) := by
    rw [g3]
    have : s.cps.toList.length = (salt % 4).toNat := by rw [← len_cps]; exact h2
    rw [← this]
    simp [ltr]
  refine for_rng (lo := 0) (fun i σ st' => ∃ (s : Str) (y : Option D) (z : Int), 0 ≤ z ∧ okS s = true ∧ s.length ≤ 4 + i ∧ s.cps.toList[(salt % 4).toNat]? = some (ltr ((salt / 4 + 17 * j) % 26)) ∧ st' = st1 ∧ σ = [some (.int salt), some (.int j), some (.str "abcdefghijklmnopqrstuvwxyz"), some (.str (("abcdefghijklmnopqrstuvwxyz" : Str) ++ ("0123456789" : Str))), some (.str "record external steady needs gives entry function var let make call if else while return raise try catch "), some (.str s), y, some (.int z)]) ⟨_, _, salt / 4 + 17 * j, by omega, g1, by omega, hat, rfl, rfl⟩ (fun i σ st' hi ⟨s, y, z, z0, h1, h2, h5, h3, h4⟩ N hN => ?_) (fun σ st' ⟨s, y, z, z0, h1, h2, h5, h3, h4⟩ => ?_)
  · subst h3 h4
    refine ⟨trivial, ?_⟩
    walk_at "t"
    refine ⟨by decide, ?_⟩
    walk_at "t"
    refine ⟨by decide, ?_⟩
    walk_at "t"
    refine ixS (l := sgs) rfl sgs_len (by decide) sgs_ok (Int.emod_nonneg _ (by decide)) (Int.emod_lt_of_pos _ (by decide)) fun x e1 e2 => ?_
    obtain ⟨g1, g2, g3⟩ := stp s x _ e1 e2 h1 (by omega)
    walk_at "t"
    refine ⟨by rw [len_cps x, e1]; exact big _ (by simp only [List.length_cons, List.length_nil]; omega), ?_⟩
    walk_at "t"
    refine hN _ _ ⟨_, _, z / 36, by omega, g1, by omega, ?_, rfl, rfl⟩
    rw [g3, List.getElem?_append_left (List.getElem?_eq_some_iff.mp h5).1]
    exact h5
  subst h3 h4
  refine ⟨trivial, ?_⟩
  have hb : (PySem.Txt.split (("record external steady needs gives entry function var let make call if else while return raise try catch " : Str) ++ ("assert null pick wide div rem result" : Str)) (" " : Str)).any (fun s => decide (s = ("result" : Str))) = true := by decide +kernel
  have hw : ("record external steady needs gives entry function var let make call if else while return raise try catch " : Str).length + ("assert null pick wide div rem result" : Str).length ≤ szl := by decide +kernel
  have hw2 : (("record external steady needs gives entry function var let make call if else while return raise try catch " : Str) ++ ("assert null pick wide div rem result" : Str)).length + 2 ≤ szl := by decide +kernel
  generalize hwd : (("record external steady needs gives entry function var let make call if else while return raise try catch " : Str) ++ ("assert null pick wide div rem result" : Str)) = wd at hb hw2
  generalize hsp : PySem.Txt.split wd (" " : Str) = sp at hb
  walk_at "s"
  refine Nxt.mk ?_
  walk_at "s"
  refine ⟨hw, ?_⟩
  rw [hwd]
  refine ⟨trivial, ?_⟩
  walk_at "s"
  refine ⟨by decide, hw2, ?_⟩
  rw [hsp]
  refine ⟨sp.map D.str, .inl rdL_new, rfl, List.all_eq_true.mpr fun d hd => ?_, ?_⟩
  · obtain ⟨s, _, rfl⟩ := List.mem_map.mp hd
    rfl
  have fg := (Grw.refl st').app (c := C.lst (sp.map D.str))
  refine way (fun e => ?_) (fun e => ?_)
  · walk_at "t"
    refine ⟨by show s.length + ("00000000" : Str).length ≤ szl; rw [show ("00000000" : Str).length = 8 by decide +kernel]; exact big _ (by omega), ?_⟩
    walk_at "t"
    have hl8 : (s ++ ("00000000" : Str)).length = s.length + 8 := by rw [len_app]; rfl
    refine ⟨big _ (by omega), ?_⟩
    walk_at "t"
    rw [cut_take _ (by decide)]
    have hlen : (List.take (8 : Int).toNat (s ++ ("00000000" : Str)).cps.toList).length = 8 := by
      rw [List.length_take, ← len_cps, hl8]
      show min 8 _ = 8
      omega
    refine q _ _ ⟨?_, ?_, ?_, ?_⟩ fg
    · rw [okS_iff]
      intro c hc
      have h6 := okS_app (b := ("00000000" : Str)) h1 (by decide +kernel)
      rw [okS_iff] at h6
      exact h6 c (List.mem_of_mem_take (by simpa using hc))
    · show (List.take (8 : Int).toNat (s ++ ("00000000" : Str)).cps.toList)[(salt % 4).toNat]? = _
      rw [List.getElem?_take_of_lt (by show _ < 8; omega), app_cps, List.getElem?_append_left (List.getElem?_eq_some_iff.mp h5).1]
      exact h5
    · intro z
      have z2 := congrArg Str.length z
      rw [len_cps] at z2
      have z3 : ("result" : Str).length = 6 := by decide +kernel
      rw [z3] at z2
      have : (List.take (8 : Int).toNat (s ++ ("00000000" : Str)).cps.toList).length = 6 := z2
      omega
    · rw [len_cps]
      show (List.take (8 : Int).toNat (s ++ ("00000000" : Str)).cps.toList).length ≤ 8
      omega
  · walk_at "t"
    refine q _ _ ⟨h1, h5, fun z => ?_, by omega⟩ fg
    rw [z] at e
    have e2 : (sp.map D.str).any (fun y => D.eqb y (.str "result")) = sp.any (fun s => decide (s = ("result" : Str))) := by
      rw [List.any_map]
      rfl
    rw [e2, hb] at e
    cases e
end Pk13
end PartPdk13P

section PartPdk13P2
set_option Elab.async false
set_option linter.all false
set_option maxRecDepth 100000
set_option maxHeartbeats 1000000
/-! k13, second text: drawn expressions. Own work. -/
namespace Pk13
open PySem Pd
local macro_rules | `(tactic| walk_at "s") => `(tactic| (repeat (refine Red.red ?_)))
local macro_rules | `(tactic| walk_at "r") => `(tactic| (repeat (first | refine Red.red ?_ | refine Nxt.mk ?_)))
local macro_rules | `(tactic| walk_at "t") => `(tactic| (repeat (first | refine Red.red ?_ | refine Nxt.mk ?_ | refine at_is rfl ?_ | refine ⟨Nat.le_of_ble_eq_true rfl, ?_⟩)))
variable {k m n : Nat} {st st' : Store} {Q : K}
inductive Ex where
  | word (v w : Int)
  | name (s : Str)
  | un (o : Op) (e : Ex)
  | wide (e : Ex) (w : Int)
  | bin (o : Op) (a b : Ex)
  | pick (c a b : Ex)
def exD : Ex → D
  | .word v w => .tup [.str "word", .int v, .int w]
  | .name s => .tup [.str "name", .str s]
  | .un o e => .tup [.str (opS o), exD e]
  | .wide e w => .tup [.str "wide", exD e, .int w]
  | .bin o a b => .tup [.str (opS o), exD a, exD b]
  | .pick c a b => .tup [.str "pick", exD c, exD a, exD b]
def dep : Ex → Nat
  | .word _ _ => 0
  | .name _ => 0
  | .un _ e => dep e + 1
  | .wide e _ => dep e + 1
  | .bin _ a b => max (dep a) (dep b) + 1
  | .pick c a b => max (dep c) (max (dep a) (dep b)) + 1
def ar : Op → Bool
  | .add => true | .sub => true | .mul => true | .and => true | .or => true | .xor => true | _ => false
def sh : Op → Bool
  | .shl => true | .shr => true | _ => false
def rl : Op → Bool
  | .eq => true | .ne => true | .lt => true | .le => true | _ => false
def sg : Op → Bool
  | .not => true | .neg => true | _ => false
inductive Ty (Γ : List (Str × Int)) : Ex → Int → Prop
  | word {v w : Int} : 0 ≤ v → v ≤ fullI w → 1 ≤ w → w ≤ 8 → Ty Γ (.word v w) w
  | name {s : Str} {w : Int} : (s, w) ∈ Γ → 1 ≤ w → w ≤ 8 → Ty Γ (.name s) w
  | un {o : Op} {e : Ex} {w : Int} : sg o = true → Ty Γ e w → Ty Γ (.un o e) w
  | wide {e : Ex} {w w' : Int} : Ty Γ e w' → 1 ≤ w → w ≤ 8 → Ty Γ (.wide e w) w
  | bin {o : Op} {a b : Ex} {w : Int} : ar o = true → Ty Γ a w → Ty Γ b w → Ty Γ (.bin o a b) w
  | shift {o : Op} {a b : Ex} {w w' : Int} : sh o = true → Ty Γ a w → Ty Γ b w' → Ty Γ (.bin o a b) w
  | cmp {o : Op} {a b : Ex} {w' : Int} : rl o = true → Ty Γ a w' → Ty Γ b w' → Ty Γ (.bin o a b) 1
  | pick {c a b : Ex} {w : Int} : Ty Γ c 1 → Ty Γ a w → Ty Γ b w → Ty Γ (.pick c a b) w
abbrev d2 (x : Str × Int) : D := .tup [.str x.1, .int x.2]
abbrev scD (pr pe : Nat) (s0 s1 : Str) : D := .tup [.ref pr, .ref pe, .bl true, .int 3, .str s0, .str s1]
structure ScIs (st : Store) (pr pe : Nat) (Γ : List (Str × Int)) : Prop where
  r : rdL st pr (Γ.map d2)
  e : rdL st pe []
  nr : pr ≠ 2
  ne : pe ≠ 2
theorem ScIs.fra {pr pe : Nat} {Γ : List (Str × Int)} (h : ScIs st pr pe Γ) (f : FraS st st') : ScIs st' pr pe Γ := ⟨f.rd h.r h.nr, f.rd h.e h.ne, h.nr, h.ne⟩
structure GOk (Γ : List (Str × Int)) : Prop where
  ok : ∀ x ∈ Γ, okS x.1 = true ∧ 1 ≤ x.2 ∧ x.2 ≤ 6
  few : Γ.length ≤ 10
variable {pr pe : Nat} {s0 s1 : Str} {Γ : List (Str × Int)}
abbrev nmD (x : Str × Int) : D := .tup [.str "name", .str x.1]
theorem leaves_ok {w : Int} (hm : 1 ≤ m) (hd : SrcAt st) (hS : ScIs st pr pe Γ) (hG : GOk Γ) (q : ∀ n st', st.length ≤ n → rdL st' n ((Γ.filter fun x => decide (x.2 = w)).map nmD) → FraS st st' → Q (.ref n) st') : callN prog m "_law_leaves" [scD pr pe s0 s1, .int w] st Q := by
  obtain ⟨m, rfl⟩ : ∃ n, m = n + 1 := ⟨m - 1, by omega⟩
  refine call_intro rfl rfl ?_
  unfold b_l_leaves
  have l0 := hG.few
  have d2' := hd.lt
  walk_at "t"
  refine it_at hS.r ?_
  refine lc_filter Γ d2 nmD (fun x => decide (x.2 = w)) rfl (by unfold szl; omega) (fun acc => .inl (rdL_app hS.r)) (fun x hx acc N M hN hM => ?_) ?_
  · walk_at "t"
    refine wayT rfl ?_
    walk_at "t"
    refine way (fun h => ?_) (fun h => ?_)
    · walk_at "t"
      exact hN h
    · exact hM h
  have hn := rdL_new (st := st) (xs := (Γ.filter fun x => decide (x.2 = w)).map nmD)
  have lf := List.length_filter_le (fun x : Str × Int => decide (x.2 = w)) Γ
  have f1 := (FraS.refl hd).app (c := C.lst ((Γ.filter fun x => decide (x.2 = w)).map nmD))
  have hfl : ((Γ.filter fun x => decide (x.2 = w)).map nmD).length ≤ 10 := by rw [List.length_map]; omega
  generalize (Γ.filter fun x => decide (x.2 = w)).map nmD = fs at hn f1 hfl q ⊢
  obtain ⟨nn, hnn⟩ : ∃ nn, st.length = nn := ⟨_, rfl⟩
  rw [hnn] at hn ⊢
  generalize (st ++ [C.lst fs]) = st1 at hn f1 ⊢
  have hS1 := hS.fra f1
  walk_at "t"
  refine it_at hS1.e ?_
  refine ⟨.inl (rdL_app hS1.e), rdL_new, ?_⟩
  refine add_at (rdL_app hn) rdL_new (by simp; unfold szl; omega) ?_
  rw [List.append_nil]
  have l1 := f1.le
  refine q _ _ ?_ rdL_new (f1.app.app)
  simp
  omega
def TyOk (f : Nat) : Prop := ∀ ⦃m : Nat⦄ ⦃st : Store⦄ ⦃pr pe : Nat⦄ ⦃Γ : List (Str × Int)⦄ ⦃s0 s1 : Str⦄ ⦃Q : K⦄ ⦃w : Int⦄, 2 * f + 4 ≤ m → SrcAt st → ScIs st pr pe Γ → GOk Γ → 1 ≤ w → w ≤ 6 →
  (∀ e st', Ty Γ e w → dep e ≤ f → FraS st st' → Q (exD e) st') → callN prog m "_law_typed" [.ref 2, scD pr pe s0 s1, .int w, .int f] st Q
theorem tru_at {n : Nat} {xs : List D} {r : Bool → Prop} (h : rdL st n xs) (q : r (!xs.isEmpty)) : truK (.ref n) st r := ⟨xs, .inl h, q⟩
theorem seq_if {c : TT} {t S' : TS} {D0 : Ends} {σ : Pd.Env} {st : Store} (J : Bool → Store → Prop) (h : ∀ R : Bool → Store → Prop, (∀ b st', J b st' → R b st') → c σ st R) (h1 : ∀ st', J true st' → t { D0 with nx := fun σ' st' => Nxt (S' D0 σ' st') } σ st') (h2 : ∀ st', J false st' → S' D0 σ st') :
    sSeq (sIf c t sNext) S' D0 σ st :=
  h _ fun b st' j => ⟨fun e => h1 st' (e ▸ j), fun e => ⟨h2 st' (e ▸ j)⟩⟩
theorem pickNew {xs : List D} {m : Nat} (hm : 2 ≤ m) (hd : SrcAt st) (h0 : 0 < xs.length) (h1 : xs.length ≤ 1000) (q : ∀ x st', x ∈ xs → FraS st st' → Q x st') : callN prog m "_law_pick_one" [.ref 2, .ref st.length] (st ++ [.lst xs]) Q := by
  obtain ⟨m, rfl⟩ : ∃ n, m = n + 2 := ⟨m - 2, by omega⟩
  have d2 := hd.lt
  have f1 := (FraS.refl hd).app (c := C.lst xs)
  exact pickOne_ok rfl rfl f1.dr rdL_new (by omega) h0 (by omega) fun x st' hx f _ => q x st' hx (f1.trans f)
theorem binary_of {f : Nat} (ih : TyOk f) {w : Int} (hm : 2 * f + 5 ≤ m) (hd : SrcAt st) (hS : ScIs st pr pe Γ) (hG : GOk Γ) (w0 : 1 ≤ w) (w1 : w ≤ 6) (q : ∀ e st', Ty Γ e w → dep e ≤ f + 1 → FraS st st' → Q (exD e) st') : callN prog m "_law_binary" [.ref 2, scD pr pe s0 s1, .int w, .int f] st Q := by
  obtain ⟨m, rfl⟩ : ∃ n, m = n + 1 := ⟨m - 1, by omega⟩
  refine call_intro rfl rfl ?_
  unfold b_l_binary
  have d2' := hd.lt
  walk_at "t"
  have f1 := (FraS.refl hd).app (c := C.lst [D.str "+", D.str "-", D.str "*", D.str "&", D.str "|", D.str "^", D.str "div", D.str "rem"])
  refine digitM (by omega) f1.dr (by decide) (by decide) fun r st2 r0 r1 f2 => ?_
  have h2 := f2.rd (rdL_new (st := st) (xs := [D.str "+", D.str "-", D.str "*", D.str "&", D.str "|", D.str "^", D.str "div", D.str "rem"])) (by omega)
  obtain ⟨o, ho, hat⟩ : ∃ o, ar o = true ∧ atD [D.str "+", D.str "-", D.str "*", D.str "&", D.str "|", D.str "^", D.str "div", D.str "rem"] r = some (.str (opS o)) := by
    have : r = 0 ∨ r = 1 ∨ r = 2 ∨ r = 3 ∨ r = 4 ∨ r = 5 := by omega
    rcases this with e | e | e | e | e | e <;> subst e
    · exact ⟨.add, rfl, rfl⟩
    · exact ⟨.sub, rfl, rfl⟩
    · exact ⟨.mul, rfl, rfl⟩
    · exact ⟨.and, rfl, rfl⟩
    · exact ⟨.or, rfl, rfl⟩
    · exact ⟨.xor, rfl, rfl⟩
  refine ix_at h2 hat ?_
  walk_at "t"
  have f12 := f1.trans f2
  refine ih (by omega) f2.dr (hS.fra f12) hG w0 w1 fun a st3 ta da f3 => ?_
  walk_at "t"
  refine ih (by omega) f3.dr (hS.fra (f12.trans f3)) hG w0 w1 fun b st4 tb db f4 => ?_
  walk_at "t"
  exact q (.bin o a b) _ (.bin ho ta tb) (by simp only [dep]; omega) ((f12.trans f3).trans f4)
theorem compared_of {f : Nat} (ih : TyOk f) (hm : 2 * f + 5 ≤ m) (hd : SrcAt st) (hS : ScIs st pr pe Γ) (hG : GOk Γ) (q : ∀ e st', Ty Γ e 1 → dep e ≤ f + 1 → FraS st st' → Q (exD e) st') : callN prog m "_law_compared" [.ref 2, scD pr pe s0 s1, .int f] st Q := by
  obtain ⟨m, rfl⟩ : ∃ n, m = n + 1 := ⟨m - 1, by omega⟩
  refine call_intro rfl rfl ?_
  unfold b_l_compared
  have d2' := hd.lt
  have l0 := hG.few
  walk_at "t"
  refine pickNew (by omega) hd (by simp) (by simp) fun x st1 hx f1 => ?_
  obtain ⟨o, ho, rfl⟩ : ∃ o, rl o = true ∧ x = .str (opS o) := by
    simp only [List.mem_cons, List.not_mem_nil, or_false] at hx
    rcases hx with e | e | e | e <;> subst e
    · exact ⟨.eq, rfl, rfl⟩
    · exact ⟨.ne, rfl, rfl⟩
    · exact ⟨.lt, rfl, rfl⟩
    · exact ⟨.le, rfl, rfl⟩
  have hS1 := hS.fra f1
  walk_at "t"
  refine it_at hS1.r ?_
  refine lc_filter Γ d2 (fun x => .int x.2) (fun x => false) rfl (by unfold szl; omega) (fun acc => .inl (rdL_app hS1.r)) (fun x hx acc N M hN hM => ?_) ?_
  · walk_at "t"
    exact wayF rfl (hM rfl)
  have e0 : List.map (fun x : Str × Int => D.int x.2) (List.filter (fun x => false) Γ) = [] := by
    have : List.filter (fun x : Str × Int => false) Γ = [] := List.filter_eq_nil_iff.mpr fun _ _ => by simp
    rw [this]; rfl
  rw [e0]
  have f2 := f1.app (c := C.lst [])
  have hn := rdL_new (st := st1) (xs := [])
  have l1 := f1.le
  obtain ⟨nn, hnn⟩ : ∃ nn, st1.length = nn := ⟨_, rfl⟩
  rw [hnn] at hn ⊢
  generalize (st1 ++ [C.lst []]) = st2 at hn f2 ⊢
  walk_at "s"
  refine Nxt.mk ?_
  have hS2 := hS.fra f2
  refine seq_if (fun b st' => b = false ∧ st' = st2) (fun R hR => ?_) (fun st3 ⟨e, _⟩ => nomatch e) (fun st3 ⟨_, e⟩ => ?_)
  · walk_at "t"
    refine ⟨rfl, rfl, ?_⟩
    refine way (fun e => ?_) (fun e => hR _ _ ⟨rfl, rfl⟩)
    walk_at "s"
    refine tru_at hn ?_
    exact wayF rfl (hR _ _ ⟨rfl, rfl⟩)
  subst e
  walk_at "t"
  refine digitM (by omega) f2.dr (by decide) (by decide) fun r st4 r0 r1 f4 => ?_
  have f24 := f2.trans f4
  have hS4 := hS.fra f24
  walk_at "t"
  refine it_at hS4.r ?_
  refine lc_filter Γ d2 (fun x => .int x.2) (fun x => true) rfl (by unfold szl; omega) (fun acc => .inl (rdL_app hS4.r)) (fun x hx acc N M hN hM => ?_) ?_
  · walk_at "t"
    refine wayT rfl ?_
    walk_at "t"
    refine wayT rfl ?_
    walk_at "t"
    exact hN rfl
  have e1 : List.filter (fun x : Str × Int => true) Γ = Γ := List.filter_eq_self.mpr fun _ _ => rfl
  rw [e1]
  have f5 := f24.app (c := C.lst (Γ.map fun x => D.int x.2))
  have hn5 := rdL_new (st := st4) (xs := Γ.map fun x => D.int x.2)
  have l4 := f24.le
  obtain ⟨nn5, hnn5⟩ : ∃ nn, st4.length = nn := ⟨_, rfl⟩
  rw [hnn5] at hn5 ⊢
  generalize (st4 ++ [C.lst (Γ.map fun x => D.int x.2)]) = st5 at hn5 f5 ⊢
  walk_at "s"
  refine Nxt.mk ?_
  refine seq_cut (fun σ st' => ∃ w', 1 ≤ w' ∧ w' ≤ 6 ∧ FraS st st' ∧ σ = [some (.ref 2), some (scD pr pe s0 s1), some (.int f), some (.str (opS o)), some (.ref nn), none, none, some (.int w'), some (.ref nn5), none]) (fun N hN => ?_) (fun σ st6 hJ => ?_)
  · walk_at "s"
    refine tru_at hn5 ?_
    refine way (fun e => ?_) (fun e => ?_)
    · walk_at "s"
      refine digitM (by omega) f5.dr (by decide) (by decide) fun r st6 _ _ f6 => ?_
      walk_at "s"
      refine way (fun e2 => ?_) (fun e2 => ?_)
      · walk_at "s"
        have hpos : 0 < Γ.length := by
          cases Γ with
          | nil => simp at e
          | cons _ _ => simp
        refine pickM (f := fun x : Str × Int => D.int x.2) (by omega) f6.dr (f6.rd hn5 (by omega)) (by omega) hpos (by omega) fun x st7 hx f7 => ?_
        walk_at "s"
        have := hG.ok x hx
        exact hN _ _ ⟨x.2, by omega, by omega, (f5.trans f6).trans f7, rfl⟩
      · walk_at "s"
        exact hN _ _ ⟨1 + _, by omega, by omega, f5.trans f6, rfl⟩
    · walk_at "s"
      exact hN _ _ ⟨1 + _, by omega, by omega, f5, rfl⟩
  obtain ⟨w', w0, w1, f6, rfl⟩ := hJ
  walk_at "t"
  refine ih (by omega) f6.dr (hS.fra f6) hG w0 w1 fun a st7 ta da f7 => ?_
  walk_at "t"
  refine ih (by omega) f7.dr (hS.fra (f6.trans f7)) hG w0 w1 fun b st8 tb db f8 => ?_
  walk_at "t"
  exact q (.bin o a b) _ (.cmp ho ta tb) (by simp only [dep]; omega) ((f6.trans f7).trans f8)
theorem typed_of {f : Nat} (ih : ∀ g, f = g + 1 → TyOk g) : TyOk f := by
  intro m st pr pe Γ s0 s1 Q w hm hd hS hG w0 w1 q
  obtain ⟨m, rfl⟩ : ∃ n, m = n + 1 := ⟨m - 1, by omega⟩
  refine call_intro rfl rfl ?_
  unfold b_l_typed
  have d2' := hd.lt
  walk_at "s"
  refine leaves_ok (by omega) hd hS hG fun nl st1 hl hn f1 => ?_
  walk_at "s"
  refine Nxt.mk ?_
  have hS1 := hS.fra f1
  have lf := List.length_filter_le (fun x : Str × Int => decide (x.2 = w)) Γ
  have lg := hG.few
  have hmem : ∀ x ∈ Γ.filter fun x => decide (x.2 = w), x ∈ Γ ∧ x.2 = w := fun x hx => by
    have := List.mem_filter.mp hx
    exact ⟨this.1, by simpa using this.2⟩
  generalize (Γ.filter fun x => decide (x.2 = w)) = fs at hn lf hmem
  refine seq_cut (fun σ st' => ∃ r : Int, 0 ≤ r ∧ r < 12 ∧ (f = 0 → r < 3) ∧ FraS st1 st' ∧ σ = [some (.ref 2), some (scD pr pe s0 s1), some (.int w), some (.int f), some (.ref nl), some (.int r), none, none, none, none, none]) (fun N hN => ?_) (fun σ st2 hJ => ?_)
  · walk_at "s"
    refine way (fun e => ?_) (fun e => ?_)
    · have e : (0 : Int) < f := by simpa using e
      walk_at "s"
      refine digitM (by omega) f1.dr (by decide) (by decide) fun r st' r0 r1 f2 => ?_
      walk_at "s"
      exact hN _ _ ⟨r, r0, r1, fun z => by omega, f2, rfl⟩
    · walk_at "s"
      refine digitM (by omega) f1.dr (by decide) (by decide) fun r st' r0 r1 f2 => ?_
      walk_at "s"
      exact hN _ _ ⟨r, r0, by omega, fun z => r1, f2, rfl⟩
  obtain ⟨r, r0, r1, rz, f2, rfl⟩ := hJ
  have f12 := f1.trans f2
  have hS2 := hS.fra f12
  have hn2 := f2.rd hn (by omega)
  refine seq_if (fun b st' => st' = st2 ∧ (b = true → 0 < fs.length)) (fun R hR => ?_) (fun st3 ⟨e, h⟩ => ?_) (fun st3 ⟨e, _⟩ => ?_)
  · walk_at "s"
    refine way (fun e => ?_) (fun e => hR _ _ ⟨rfl, fun z => nomatch z⟩)
    walk_at "s"
    refine tru_at hn2 ?_
    exact hR _ _ ⟨rfl, fun e => by
      cases fs with
      | nil => simp at e
      | cons _ _ => simp⟩
  · subst e
    walk_at "s"
    refine pickM (by omega) f2.dr hn2 (by omega) (h rfl) (by omega) fun x st4 hx f4 => ?_
    obtain ⟨hx1, hx2⟩ := hmem x hx
    exact q (.name x.1) _ (.name (by rw [← hx2]; exact hx1) w0 (by omega)) (Nat.zero_le _) (f12.trans f4)
  subst e
  have hp := pw_bd (w := w) (by omega) (by omega)
  walk_at "s"
  refine way (fun e => ?_) (fun e => ?_)
  · walk_at "s"
    refine ⟨cpow_small (by omega) (by omega), ?_⟩
    walk_at "s"
    rw [Int.one_mul]
    refine digitM (by omega) f2.dr (by omega) (by omega) fun v st4 v0 v1 f4 => ?_
    walk_at "t"
    exact q (.word v w) _ (.word v0 (by unfold fullI; omega) w0 (by omega)) (Nat.zero_le _) (f12.trans f4)
  have e : ¬ r < 3 := by simpa using e
  obtain ⟨g, rfl⟩ : ∃ g, f = g + 1 := ⟨f - 1, by rcases f with _ | f <;> first | exact absurd (rz rfl) e | rfl⟩
  have ihg := ih g rfl
  have eg : ((g + 1 : Nat) : Int) - 1 = (g : Int) := by omega
  have last : ∀ {Qb : K}, (∀ e st', Ty Γ e w → dep e ≤ g + 1 → FraS st3 st' → Qb (exD e) st') → callN prog m "_law_binary" [.ref 2, scD pr pe s0 s1, .int w, .int (((g + 1 : Nat) : Int) - 1)] st3 Qb := fun {Qb} hq => by
    rw [eg]
    exact binary_of ihg (by omega) f2.dr hS2 hG w0 w1 hq
  have tyd : ∀ {w' : Int} {st' : Store} {Qb : K}, 1 ≤ w' → w' ≤ 6 → FraS st st' → (∀ e st2, Ty Γ e w' → dep e ≤ g → FraS st' st2 → Qb (exD e) st2) → callN prog m "_law_typed" [.ref 2, scD pr pe s0 s1, .int w', .int (((g + 1 : Nat) : Int) - 1)] st' Qb := fun {w' st' Qb} w0 w1 ff hq => by
    rw [eg]
    exact ihg (by omega) ff.dr (hS.fra ff) hG w0 w1 hq
  walk_at "s"
  refine Nxt.mk ?_
  refine seq_if (fun b st' => st' = st3) (fun R hR => ?_) (fun st4 e => ?_) (fun st4 e => ?_)
  · walk_at "s"
    refine way (fun e => ?_) (fun e => hR _ _ rfl)
    walk_at "s"
    refine way (fun e => ?_) (fun e => ?_)
    · exact hR _ _ rfl
    · walk_at "s"
      exact hR _ _ rfl
  · subst e
    walk_at "s"
    exact last fun e st' t d ff => q e st' t (by omega) (f12.trans ff)
  subst e
  walk_at "s"
  refine way (fun e => ?_) (fun e => ?_)
  · walk_at "t"
    refine pickNew (by omega) f2.dr (by simp) (by simp) fun x st1 hx f3 => ?_
    obtain ⟨o, ho, rfl⟩ : ∃ o, sg o = true ∧ x = .str (opS o) := by
      simp only [List.mem_cons, List.not_mem_nil, or_false] at hx
      rcases hx with e | e <;> subst e
      · exact ⟨.not, rfl, rfl⟩
      · exact ⟨.neg, rfl, rfl⟩
    walk_at "t"
    refine tyd w0 w1 (f12.trans f3) fun a st4 ta da f4 => ?_
    walk_at "t"
    exact q (.un o a) _ (.un ho ta) (by simp only [dep]; omega) ((f12.trans f3).trans f4)
  walk_at "r"
  refine way (fun e => ?_) (fun e => ?_)
  · walk_at "t"
    refine pickNew (by omega) f2.dr (by simp) (by simp) fun x st1 hx f3 => ?_
    obtain ⟨o, ho, rfl⟩ : ∃ o, sh o = true ∧ x = .str (opS o) := by
      simp only [List.mem_cons, List.not_mem_nil, or_false] at hx
      rcases hx with e | e <;> subst e
      · exact ⟨.shl, rfl, rfl⟩
      · exact ⟨.shr, rfl, rfl⟩
    walk_at "t"
    have f13 := f12.trans f3
    refine tyd w0 w1 f13 fun a st4 ta da f4 => ?_
    walk_at "t"
    have f14 := f13.trans f4
    refine digitM (by omega) f14.dr (by decide) (by decide) fun v st5 v0 v1 f5 => ?_
    walk_at "t"
    refine tyd (by omega) (by omega) (f14.trans f5) fun b st6 tb db f6 => ?_
    walk_at "t"
    exact q (.bin o a b) _ (.shift ho ta tb) (by simp only [dep]; omega) ((f14.trans f5).trans f6)
  walk_at "r"
  refine way (fun e => ?_) (fun e => ?_)
  · walk_at "t"
    refine tyd (by decide) (by decide) f12 fun c st4 tc dc f4 => ?_
    walk_at "t"
    have f14 := f12.trans f4
    refine tyd w0 w1 f14 fun a st5 ta da f5 => ?_
    walk_at "t"
    have f15 := f14.trans f5
    refine tyd w0 w1 f15 fun b st6 tb db f6 => ?_
    walk_at "t"
    exact q (.pick c a b) _ (.pick tc ta tb) (by simp only [dep]; omega) (f15.trans f6)
  walk_at "r"
  refine way (fun e => ?_) (fun e => ?_)
  · walk_at "t"
    refine digitM (by omega) f2.dr (by decide) (by decide) fun v st5 v0 v1 f5 => ?_
    walk_at "t"
    have f15 := f12.trans f5
    refine tyd (by omega) (by omega) f15 fun a st6 ta da f6 => ?_
    walk_at "t"
    exact q (.wide a w) _ (.wide ta w0 (by omega)) (by simp only [dep]; omega) (f15.trans f6)
  walk_at "t"
  refine it_at hS2.r ?_
  refine lc_filter Γ d2 d2 (fun x => false) rfl (by unfold szl; omega) (fun acc => .inl (rdL_app hS2.r)) (fun x hx acc N M hN hM => ?_) ?_
  · walk_at "t"
    refine wayF rfl ?_
    walk_at "t"
    exact hM rfl
  have e0 : List.map d2 (List.filter (fun x => false) Γ) = [] := by
    have : List.filter (fun x : Str × Int => false) Γ = [] := List.filter_eq_nil_iff.mpr fun _ _ => by simp
    rw [this]; rfl
  rw [e0]
  have f3 := f12.app (c := C.lst [])
  have hn3 := rdL_new (st := st4) (xs := [])
  obtain ⟨nn, hnn⟩ : ∃ nn, st4.length = nn := ⟨_, rfl⟩
  rw [hnn] at hn3 ⊢
  have f23 := (FraS.refl f2.dr).app (c := C.lst [])
  generalize (st4 ++ [C.lst []]) = st5 at hn3 f3 f23 ⊢
  walk_at "s"
  refine Nxt.mk ?_
  refine seq_if (fun b st' => b = false ∧ st' = st5) (fun R hR => ?_) (fun st6 ⟨e, _⟩ => nomatch e) (fun st6 ⟨_, e⟩ => ?_)
  · walk_at "s"
    refine way (fun e => ?_) (fun e => hR _ _ ⟨rfl, rfl⟩)
    walk_at "s"
    refine tru_at hn3 ?_
    exact hR _ _ ⟨rfl, rfl⟩
  subst e
  walk_at "s"
  refine way (fun e => ?_) (fun e => ?_)
  · have e : w = 1 := by simpa using e
    subst e
    walk_at "s"
    rw [eg]
    exact compared_of ihg (by omega) f3.dr (hS.fra f3) hG fun e st' t d ff => q e st' t (by omega) (f3.trans ff)
  · walk_at "r"
    rw [eg]
    exact binary_of ihg (by omega) f3.dr (hS.fra f3) hG w0 w1 fun e st' t d ff => q e st' t (by omega) (f3.trans ff)
theorem typed_ok : ∀ f : Nat, TyOk f
  | 0 => typed_of fun g e => by omega
  | f + 1 => typed_of fun g e => by
    obtain rfl : g = f := by omega
    exact typed_ok g
end Pk13
end PartPdk13P2

section PartPdk13P3
set_option Elab.async false
set_option linter.all false
set_option maxRecDepth 100000
set_option maxHeartbeats 2000000
/-! k13, third text: operations on words, the program's and the law's. Own work. -/
namespace Pk13
open PySem Pd
local macro_rules | `(tactic| walk_at "s") => `(tactic| (repeat (refine Red.red ?_)))
local macro_rules | `(tactic| walk_at "r") => `(tactic| (repeat (first | refine Red.red ?_ | refine Nxt.mk ?_)))
local macro_rules | `(tactic| walk_at "t") => `(tactic| (repeat (first | refine Red.red ?_ | refine Nxt.mk ?_ | refine ⟨by decide +kernel, by decide +kernel, wayF (by decide +kernel) ?_⟩ | refine ⟨by decide +kernel, by decide +kernel, wayT (by decide +kernel) ?_⟩ | refine ⟨by decide +kernel, ?_⟩ | refine ⟨Nat.le_of_ble_eq_true rfl, ?_⟩ | refine at_is rfl ?_)))
local instance inTup3 {x : D} {xs : List D} {st : Store} {r : Bool → Prop} : Red (inC x (.tup xs) st r) (x.flat = true ∧ xs.all D.flat = true ∧ r (xs.any fun y => D.eqb y x)) := ⟨id⟩
local instance notinTup3 {x : D} {xs : List D} {st : Store} {r : Bool → Prop} : Red (notinC x (.tup xs) st r) (x.flat = true ∧ xs.all D.flat = true ∧ r (!(xs.any fun y => D.eqb y x))) := ⟨id⟩
/-! k37, third text: `_law_word`, `_law_values`. Own work. -/
section
variable {k : Nat} {st : Store} {Q : K} {w l r a b : Int}
theorem res1 {o : Op} (ho : one o = true) (w0 : 1 ≤ w) (w1 : w ≤ 8) (q : Q (.int (v1 o w l)) st) : callN prog (k + 2) "result" [.str (opS o), .int w, .tup [.int l]] st Q := by
  refine call_intro rfl rfl ?_
  unfold b_p_result
  cases o <;> try (cases ho; done)
  all_goals (unfold opS; walk_at "t"; refine greatest_ok (prog := prog) rfl (by omega) w1 ?_; walk_at "t"; exact q)
theorem res3 (w0 : 1 ≤ w) (w1 : w ≤ 8) (q : Q (.int (if l = 1 then a else b)) st) : callN prog (k + 2) "result" [.str (opS .pick), .int w, .tup [.int l, .int a, .int b]] st Q := by
  refine call_intro rfl rfl ?_
  unfold b_p_result opS
  walk_at "t"
  by_cases h : l = 1
  · rw [if_pos h] at q
    refine wayT (by simpa using h) ?_
    walk_at "t"
    exact q
  · rw [if_neg h] at q
    refine wayF (by simpa using h) ?_
    walk_at "t"
    exact q

theorem rel_ok {o : Op} (ho : (match o with | .eq => true | .ne => true | .lt => true | .le => true | _ => false) = true) (q : Q (.int (v2 o w l r)) st) : callN prog (k + 1) "related" [.str (opS o), .int l, .int r] st Q := by
  refine call_intro rfl rfl ?_
  unfold b_p_related
  cases o <;> try (cases ho; done)
  all_goals (unfold opS; walk_at "t"; exact q)
theorem rek_ok {o : Op} (ho : (match o with | .add => true | .sub => true | .mul => true | .and => true | .or => true | .xor => true | _ => false) = true) (r0 : 0 ≤ r) (r1 : r ≤ 1000000) (q : ∀ z, v2 o w l r = Builtin.bitAnd z (fullI w) → Q (.int z) st) : callN prog (k + 1) "reckoned" [.str (opS o), .int l, .int r] st Q := by
  refine call_intro rfl rfl ?_
  unfold b_p_reckoned
  cases o <;> try (cases ho; done)
  · unfold opS; walk_at "t"; exact q _ rfl
  · unfold opS; walk_at "t"; exact q _ rfl
  · unfold opS; walk_at "t"
    refine ⟨cmul_small r0 r1, ?_⟩
    walk_at "t"; exact q _ rfl
  · unfold opS; walk_at "t"; exact q _ rfl
  · unfold opS; walk_at "t"; exact q _ rfl
  · unfold opS; walk_at "t"; exact q _ rfl
theorem div_ok {o : Op} (ho : (match o with | .div => true | .rem => true | _ => false) = true) (l0 : 0 ≤ l) (l1 : l ≤ 255) (r0 : 0 ≤ r) (r1 : r ≤ 255) (q : Q (.int (v2 o w l r)) st) : callN prog (k + 1) "divided" [.str (opS o), .int l, .int r] st Q := by
  refine call_intro rfl rfl ?_
  unfold b_p_divided
  walk_at "t"
  by_cases h : r = 0
  · refine wayT (by simpa using h) ?_
    walk_at "t"
    have e : v2 o w l r = 0 := by cases o <;> first | (cases ho; done) | exact if_pos h
    rw [e] at q
    exact q
  · refine wayF (by simpa using h) ?_
    walk_at "t"
    cases o <;> try (cases ho; done)
    · unfold opS; walk_at "t"
      refine ⟨⟨by omega, by omega⟩, ?_⟩
      walk_at "t"
      have e : v2 .div w l r = l / r := if_neg h
      rw [e] at q
      exact q
    · unfold opS; walk_at "t"
      refine ⟨⟨by omega, by omega⟩, ?_⟩
      walk_at "t"
      have h1 : 0 ≤ l / r := Int.ediv_nonneg l0 r0
      have h2 : l / r ≤ l := Int.ediv_le_self r l0
      refine ⟨cmul_small h1 (by omega), ?_⟩
      walk_at "t"
      have e : v2 .rem w l r = l - r * (l / r) := if_neg h
      rw [e] at q
      exact q
theorem sh_ok {o : Op} (ho : (match o with | .shl => true | .shr => true | _ => false) = true) (w0 : 1 ≤ w) (w1 : w ≤ 8) (l0 : 0 ≤ l) (l1 : l ≤ 255) (r0 : 0 ≤ r) (r1 : r ≤ 255) (q : Q (.int (v2 o w l r)) st) : callN prog (k + 2) "shifted" [.str (opS o), .int w, .int l, .int r] st Q := by
  refine call_intro rfl rfl ?_
  unfold b_p_shifted
  walk_at "t"
  by_cases h : w ≤ r
  · refine wayT (by simpa using h) ?_
    walk_at "t"
    have e : v2 o w l r = 0 := by cases o <;> first | (cases ho; done) | exact if_pos h
    rw [e] at q
    exact q
  · refine wayF (by simpa using h) ?_
    walk_at "t"
    cases o <;> try (cases ho; done)
    · unfold opS; walk_at "t"
      refine ⟨⟨r0, by omega, by omega⟩, ?_⟩
      walk_at "t"
      refine greatest_ok (prog := prog) rfl (by omega) w1 ?_
      walk_at "t"
      have e : v2 .shl w l r = Builtin.bitAnd (l * 2 ^ r.toNat) (fullI w) := if_neg h
      rw [e] at q
      exact q
    · unfold opS; walk_at "t"
      refine ⟨r0, ?_⟩
      have e : v2 .shr w l r = l / 2 ^ r.toNat := if_neg h
      rw [e] at q
      exact q
theorem res2 {o : Op} (ho : two o = true) (w0 : 1 ≤ w) (w1 : w ≤ 8) (l0 : 0 ≤ l) (l1 : l ≤ 255) (r0 : 0 ≤ r) (r1 : r ≤ 255) (q : Q (.int (v2 o w l r)) st) : callN prog (k + 3) "result" [.str (opS o), .int w, .tup [.int l, .int r]] st Q := by
  refine call_intro rfl rfl ?_
  unfold b_p_result
  cases o <;> try (cases ho; done)
  case add => unfold opS; walk_at "t"; refine rek_ok (o := .add) (w := w) rfl r0 (by omega) fun z hz => ?_; walk_at "t"; refine greatest_ok (prog := prog) rfl (by omega) w1 ?_; walk_at "t"; rw [hz] at q; exact q
  case sub => unfold opS; walk_at "t"; refine rek_ok (o := .sub) (w := w) rfl r0 (by omega) fun z hz => ?_; walk_at "t"; refine greatest_ok (prog := prog) rfl (by omega) w1 ?_; walk_at "t"; rw [hz] at q; exact q
  case mul => unfold opS; walk_at "t"; refine rek_ok (o := .mul) (w := w) rfl r0 (by omega) fun z hz => ?_; walk_at "t"; refine greatest_ok (prog := prog) rfl (by omega) w1 ?_; walk_at "t"; rw [hz] at q; exact q
  case and => unfold opS; walk_at "t"; refine rek_ok (o := .and) (w := w) rfl r0 (by omega) fun z hz => ?_; walk_at "t"; refine greatest_ok (prog := prog) rfl (by omega) w1 ?_; walk_at "t"; rw [hz] at q; exact q
  case or => unfold opS; walk_at "t"; refine rek_ok (o := .or) (w := w) rfl r0 (by omega) fun z hz => ?_; walk_at "t"; refine greatest_ok (prog := prog) rfl (by omega) w1 ?_; walk_at "t"; rw [hz] at q; exact q
  case xor => unfold opS; walk_at "t"; refine rek_ok (o := .xor) (w := w) rfl r0 (by omega) fun z hz => ?_; walk_at "t"; refine greatest_ok (prog := prog) rfl (by omega) w1 ?_; walk_at "t"; rw [hz] at q; exact q
  case shl => unfold opS; walk_at "t"; exact sh_ok (o := .shl) rfl w0 w1 l0 l1 r0 r1 q
  case shr => unfold opS; walk_at "t"; exact sh_ok (o := .shr) rfl w0 w1 l0 l1 r0 r1 q
  case div => unfold opS; walk_at "t"; exact div_ok (o := .div) (w := w) rfl l0 l1 r0 r1 q
  case rem => unfold opS; walk_at "t"; exact div_ok (o := .rem) (w := w) rfl l0 l1 r0 r1 q
  case eq => unfold opS; walk_at "t"; exact rel_ok (o := .eq) (w := w) rfl q
  case ne => unfold opS; walk_at "t"; exact rel_ok (o := .ne) (w := w) rfl q
  case lt => unfold opS; walk_at "t"; exact rel_ok (o := .lt) (w := w) rfl q
  case le => unfold opS; walk_at "t"; exact rel_ok (o := .le) (w := w) rfl q

end
section
variable {w l r a b : Int} {k n : Nat} {st : Store} {Q : K}
theorem word1 {o : Op} (ho : one o = true) (w0 : 1 ≤ w) (w1 : w ≤ 8) (l0 : 0 ≤ l) (l1 : o ≠ .wide → l ≤ fullI w) (h : rdL st n [.int l]) (q : Q (.int (v1 o w l)) st) : callN prog (k + 1) "_law_word" [.str (opS o), .int w, .ref n] st Q := by
  refine call_intro rfl rfl ?_
  unfold b_l_word
  have cp := cpow_small (w := w) (by omega) (by omega)
  have hf := full1 w0 w1
  cases o <;> try (cases ho; done)
  case not =>
    rw [show opS .not = Str.ofString "not" from rfl]
    walk_at "t"
    refine ix_ref h rfl ?_
    walk_at "t"
    refine len_at h ?_
    walk_at "t"
    refine ix_ref h rfl ?_
    walk_at "t"
    refine ⟨cp, ?_⟩
    walk_at "t"
    try rw [hf]
    have e : v1 .not w l = Builtin.bitAnd (-l - 1) (fullI w) := (not_mask l0 (l1 (by intro h; cases h))).symm
    rw [e] at q
    exact q
  case neg =>
    rw [show opS .neg = Str.ofString "neg" from rfl]
    walk_at "t"
    refine ix_ref h rfl ?_
    walk_at "t"
    refine len_at h ?_
    walk_at "t"
    refine ix_ref h rfl ?_
    walk_at "t"
    refine ⟨cp, ?_⟩
    walk_at "t"
    try rw [hf]
    have e : v1 .neg w l = Builtin.bitAnd (-l - 0) (fullI w) := by rw [Int.sub_zero]; rfl
    rw [e] at q
    exact q
  case wide =>
    rw [show opS .wide = Str.ofString "wide" from rfl]
    walk_at "t"
    refine ix_ref h rfl ?_
    walk_at "t"
    refine len_at h ?_
    walk_at "t"
    refine ix_ref h rfl ?_
    walk_at "t"
    refine ⟨cp, ?_⟩
    walk_at "t"
    try rw [hf]
    exact q
theorem word3 (w0 : 1 ≤ w) (w1 : w ≤ 8) (l0 : 0 ≤ l) (l1 : l ≤ 1) (h : rdL st n [.int l, .int a, .int b]) (q : Q (.int (if l = 1 then a else b)) st) : callN prog (k + 1) "_law_word" [.str (opS .pick), .int w, .ref n] st Q := by
  refine call_intro rfl rfl ?_
  unfold b_l_word
  have cp := cpow_small (w := w) (by omega) (by omega)
  have hf := full1 w0 w1
  rw [show opS .pick = Str.ofString "pick" from rfl]
  walk_at "t"
  refine ix_ref h rfl ?_
  walk_at "t"
  refine len_at h ?_
  walk_at "t"
  refine ix_ref h rfl ?_
  walk_at "t"
  refine ⟨cp, ?_⟩
  walk_at "t"
  obtain rfl | rfl : l = 0 ∨ l = 1 := by omega
  · exact ix_ref h rfl q
  · exact ix_ref h rfl q
theorem word2 {o : Op} (ho : two o = true) (w0 : 1 ≤ w) (w1 : w ≤ 8) (l0 : 0 ≤ l) (l2 : l ≤ 255) (r0 : 0 ≤ r) (r1 : r ≤ 255) (rs : (o = .shr ∨ o = .and ∨ o = .or ∨ o = .xor) → l ≤ fullI w) (rb : (o = .and ∨ o = .or ∨ o = .xor) → r ≤ fullI w) (h : rdL st n [.int l, .int r]) (q : Q (.int (v2 o w l r)) st) : callN prog (k + 1) "_law_word" [.str (opS o), .int w, .ref n] st Q := by
  refine call_intro rfl rfl ?_
  unfold b_l_word
  have cp := cpow_small (w := w) (by omega) (by omega)
  have hf := full1 w0 w1
  cases o <;> try (cases ho; done)
  case add =>
    rw [show opS .add = Str.ofString "+" from rfl]
    walk_at "t"
    refine ix_ref h rfl ?_
    walk_at "t"
    refine len_at h ?_
    walk_at "t"
    refine ix_ref h rfl ?_
    walk_at "t"
    refine ⟨cp, ?_⟩
    walk_at "t"
    try rw [hf]
    exact q
  case sub =>
    rw [show opS .sub = Str.ofString "-" from rfl]
    walk_at "t"
    refine ix_ref h rfl ?_
    walk_at "t"
    refine len_at h ?_
    walk_at "t"
    refine ix_ref h rfl ?_
    walk_at "t"
    refine ⟨cp, ?_⟩
    walk_at "t"
    try rw [hf]
    exact q
  case mul =>
    rw [show opS .mul = Str.ofString "*" from rfl]
    walk_at "t"
    refine ix_ref h rfl ?_
    walk_at "t"
    refine len_at h ?_
    walk_at "t"
    refine ix_ref h rfl ?_
    walk_at "t"
    refine ⟨cp, ?_⟩
    walk_at "t"
    try rw [hf]
    refine ⟨cmul_small r0 (by omega), ?_⟩
    walk_at "t"
    exact q
  case shl =>
    rw [show opS .shl = Str.ofString "<<" from rfl]
    walk_at "t"
    refine ix_ref h rfl ?_
    walk_at "t"
    refine len_at h ?_
    walk_at "t"
    refine ix_ref h rfl ?_
    walk_at "t"
    refine ⟨cp, ?_⟩
    walk_at "t"
    try rw [hf]
    have hm : 0 ≤ (if 8 < r then 8 else r) ∧ (if 8 < r then 8 else r) ≤ 8 := by split <;> omega
    refine ⟨⟨hm.1, by omega, by omega⟩, ?_⟩
    walk_at "t"
    have e : v2 .shl w l r = Builtin.bitAnd (l * 2 ^ (if 8 < r then 8 else r).toNat) (fullI w) := by
      show (if w ≤ r then _ else _) = _
      split
      · rename_i hh; rw [shl_big w0 w1 hh]
      · rename_i hh; rw [min_small hh w1]
    rw [e] at q; exact q
  case shr =>
    rw [show opS .shr = Str.ofString ">>" from rfl]
    walk_at "t"
    refine ix_ref h rfl ?_
    walk_at "t"
    refine len_at h ?_
    walk_at "t"
    refine ix_ref h rfl ?_
    walk_at "t"
    refine ⟨cp, ?_⟩
    walk_at "t"
    try rw [hf]
    have hm : 0 ≤ (if 8 < r then 8 else r) ∧ (if 8 < r then 8 else r) ≤ 8 := by split <;> omega
    refine ⟨hm.1, ?_⟩
    have e : v2 .shr w l r = l / 2 ^ (if 8 < r then 8 else r).toNat := by
      show (if w ≤ r then _ else _) = _
      split
      · rename_i hh; rw [shr_big w0 w1 l0 (rs (by simp)) hh]
      · rename_i hh; rw [min_small hh w1]
    rw [e] at q; exact q
  case div =>
    rw [show opS .div = Str.ofString "div" from rfl]
    walk_at "t"
    refine ix_ref h rfl ?_
    walk_at "t"
    refine len_at h ?_
    walk_at "t"
    refine ix_ref h rfl ?_
    walk_at "t"
    refine ⟨cp, ?_⟩
    walk_at "t"
    try rw [hf]
    by_cases e : r = 0
    · refine wayT (by simpa using e) ?_
      walk_at "t"
      have e' : v2 .div w l r = 0 := if_pos e
      rw [e'] at q; exact q
    · refine wayF (by simpa using e) ?_
      walk_at "t"
      refine ⟨⟨by omega, by omega⟩, ?_⟩
      have e' : v2 .div w l r = l / r := if_neg e
      rw [e'] at q; exact q
  case rem =>
    rw [show opS .rem = Str.ofString "rem" from rfl]
    walk_at "t"
    refine ix_ref h rfl ?_
    walk_at "t"
    refine len_at h ?_
    walk_at "t"
    refine ix_ref h rfl ?_
    walk_at "t"
    refine ⟨cp, ?_⟩
    walk_at "t"
    try rw [hf]
    by_cases e : r = 0
    · refine wayT (by simpa using e) ?_
      walk_at "t"
      have e' : v2 .rem w l r = 0 := if_pos e
      rw [e'] at q; exact q
    · refine wayF (by simpa using e) ?_
      walk_at "t"
      refine ⟨⟨by omega, by omega⟩, ?_⟩
      walk_at "t"
      refine ⟨cmul_small r0 (by omega), ?_⟩
      walk_at "t"
      have e' : v2 .rem w l r = l - l / r * r := by
        show (if r = 0 then _ else _) = _
        rw [if_neg e, Int.mul_comm]
      rw [e'] at q; exact q
  case eq =>
    rw [show opS .eq = Str.ofString "==" from rfl]
    walk_at "t"
    refine ix_ref h rfl ?_
    walk_at "t"
    refine len_at h ?_
    walk_at "t"
    refine ix_ref h rfl ?_
    walk_at "t"
    refine ⟨cp, ?_⟩
    walk_at "t"
    try rw [hf]
    have e : (decide (l = r) == decide (Str.ofString "==" = Str.ofString "==")) = (decide (l = r)) := by
      rw [show decide (Str.ofString "==" = Str.ofString "==") = true by decide +kernel]
      cases decide (l = r) <;> rfl
    rw [e]
    exact q
  case ne =>
    rw [show opS .ne = Str.ofString "!=" from rfl]
    walk_at "t"
    refine ix_ref h rfl ?_
    walk_at "t"
    refine len_at h ?_
    walk_at "t"
    refine ix_ref h rfl ?_
    walk_at "t"
    refine ⟨cp, ?_⟩
    walk_at "t"
    try rw [hf]
    have e : (decide (l = r) == decide (Str.ofString "!=" = Str.ofString "==")) = (!decide (l = r)) := by
      rw [show decide (Str.ofString "!=" = Str.ofString "==") = false by decide +kernel]
      cases decide (l = r) <;> rfl
    rw [e]
    exact q
  case lt =>
    rw [show opS .lt = Str.ofString "<" from rfl]
    walk_at "t"
    refine ix_ref h rfl ?_
    walk_at "t"
    refine len_at h ?_
    walk_at "t"
    refine ix_ref h rfl ?_
    walk_at "t"
    refine ⟨cp, ?_⟩
    walk_at "t"
    try rw [hf]
    refine way (fun e => ?_) (fun e => ?_)
    · walk_at "t"
      rw [e]
      have e' : v2 .lt w l r = b2i true := by show b2i (decide (l < r)) = _; rw [e]
      rw [e'] at q; exact q
    · walk_at "t"
      have e' : v2 .lt w l r = b2i false := by show b2i (decide (l < r)) = _; rw [e]
      rw [e'] at q; exact q
  case le =>
    rw [show opS .le = Str.ofString "<=" from rfl]
    walk_at "t"
    refine ix_ref h rfl ?_
    walk_at "t"
    refine len_at h ?_
    walk_at "t"
    refine ix_ref h rfl ?_
    walk_at "t"
    refine ⟨cp, ?_⟩
    walk_at "t"
    try rw [hf]
    refine way (fun e => ?_) (fun e => ?_)
    · walk_at "t"
      rw [e]
      have e1 : l < r := of_decide_eq_true e
      have e' : v2 .le w l r = b2i true := by show b2i (decide (l ≤ r)) = _; rw [decide_eq_true (by omega)]
      rw [e'] at q; exact q
    · have e1 : ¬ l < r := of_decide_eq_false e
      walk_at "t"
      have e' : v2 .le w l r = b2i (decide (l = r)) := by
        show b2i (decide (l ≤ r)) = _
        by_cases e2 : l = r
        · rw [decide_eq_true e2, decide_eq_true (by omega)]
        · rw [decide_eq_false e2, decide_eq_false (by omega)]
      rw [e'] at q; exact q
  case and =>
    rw [show opS .and = Str.ofString "&" from rfl]
    walk_at "t"
    refine ix_ref h rfl ?_
    walk_at "t"
    refine len_at h ?_
    walk_at "t"
    refine ix_ref h rfl ?_
    walk_at "t"
    refine ⟨cp, ?_⟩
    walk_at "t"
    try rw [hf]
    have e := (bits_in l0 (rs (by simp)) r0 (rb (by simp))).1
    rw [e] at q
    exact q
  case or =>
    rw [show opS .or = Str.ofString "|" from rfl]
    walk_at "t"
    refine ix_ref h rfl ?_
    walk_at "t"
    refine len_at h ?_
    walk_at "t"
    refine ix_ref h rfl ?_
    walk_at "t"
    refine ⟨cp, ?_⟩
    walk_at "t"
    try rw [hf]
    have e := (bits_in l0 (rs (by simp)) r0 (rb (by simp))).2.1
    rw [e] at q
    exact q
  case xor =>
    rw [show opS .xor = Str.ofString "^" from rfl]
    walk_at "t"
    refine ix_ref h rfl ?_
    walk_at "t"
    refine len_at h ?_
    walk_at "t"
    refine ix_ref h rfl ?_
    walk_at "t"
    refine ⟨cp, ?_⟩
    walk_at "t"
    try rw [hf]
    have e := (bits_in l0 (rs (by simp)) r0 (rb (by simp))).2.2
    rw [e] at q
    exact q
end
end Pk13
end PartPdk13P3

section PartPdk13P4
set_option Elab.async false
set_option linter.all false
set_option maxRecDepth 100000
set_option maxHeartbeats 2000000
/-! k13, fourth text: what expressions are worth. Own work. -/
namespace Pk13
open PySem Pd
local macro_rules | `(tactic| walk_at "s") => `(tactic| (repeat (refine Red.red ?_)))
local macro_rules | `(tactic| walk_at "r") => `(tactic| (repeat (first | refine Red.red ?_ | refine Nxt.mk ?_)))
local macro_rules | `(tactic| walk_at "t") => `(tactic| (repeat (first | refine Red.red ?_ | refine Nxt.mk ?_ | refine ⟨by decide +kernel, by decide +kernel, wayF (by decide +kernel) ?_⟩ | refine ⟨by decide +kernel, by decide +kernel, wayT (by decide +kernel) ?_⟩ | refine ⟨by decide +kernel, ?_⟩ | refine ⟨Nat.le_of_ble_eq_true rfl, ?_⟩ | refine at_is rfl ?_)))
local instance inTup4 {x : D} {xs : List D} {st : Store} {r : Bool → Prop} : Red (inC x (.tup xs) st r) (x.flat = true ∧ xs.all D.flat = true ∧ r (xs.any fun y => D.eqb y x)) := ⟨id⟩
variable {k m n : Nat} {st st' : Store} {Q : K} {Γ : List (Str × Int)} {ρ : Str → Int × Int}
def ev (ρ : Str → Int × Int) : Ex → Int × Int
  | .word v w => (w, v)
  | .name s => ρ s
  | .un o e => ((ev ρ e).1, v1 o (ev ρ e).1 (ev ρ e).2)
  | .wide e w => (w, v1 .wide w (ev ρ e).2)
  | .bin o a b => (if rl o then 1 else (ev ρ a).1, v2 o (ev ρ a).1 (ev ρ a).2 (ev ρ b).2)
  | .pick c a b => ((ev ρ a).1, if (ev ρ c).2 = 1 then (ev ρ a).2 else (ev ρ b).2)
/-- the names' words fit -/
def Fit (Γ : List (Str × Int)) (ρ : Str → Int × Int) : Prop := ∀ x ∈ Γ, (ρ x.1).1 = x.2 ∧ 0 ≤ (ρ x.1).2 ∧ (ρ x.1).2 ≤ fullI x.2
theorem full_in {x w : Int} : 0 ≤ Builtin.bitAnd x (fullI w) ∧ Builtin.bitAnd x (fullI w) ≤ fullI w := by
  have : 0 ≤ fullI w := by unfold fullI; have := pow2_pos w.toNat; omega
  exact and_le this
theorem v2_fit {o : Op} {w l r : Int} (ho : ar o = true ∨ sh o = true) (w0 : 1 ≤ w) (w1 : w ≤ 8) (l0 : 0 ≤ l) (l1 : l ≤ fullI w) (r0 : 0 ≤ r) : 0 ≤ v2 o w l r ∧ v2 o w l r ≤ fullI w := by
  have f0 : 0 ≤ fullI w := by omega
  cases o <;> first | (rcases ho with h | h <;> cases h; done) | exact full_in | skip
  · show 0 ≤ (if w ≤ r then 0 else Builtin.bitAnd (l * 2 ^ r.toNat) (fullI w)) ∧ (if w ≤ r then 0 else Builtin.bitAnd (l * 2 ^ r.toNat) (fullI w)) ≤ fullI w
    split
    · exact ⟨by decide, f0⟩
    · exact full_in
  · show 0 ≤ (if w ≤ r then 0 else l / 2 ^ r.toNat) ∧ (if w ≤ r then 0 else l / 2 ^ r.toNat) ≤ fullI w
    split
    · exact ⟨by decide, f0⟩
    · have h := pow2_pos r.toNat
      refine ⟨Int.ediv_nonneg l0 (by omega), Int.le_trans (Int.ediv_le_self _ l0) l1⟩
theorem rl_fit {o : Op} {w l r : Int} (ho : rl o = true) : 0 ≤ v2 o w l r ∧ v2 o w l r ≤ 1 := by
  have h : ∀ b : Bool, 0 ≤ b2i b ∧ b2i b ≤ 1 := by decide
  cases o <;> first | (cases ho; done) | exact h _
theorem sg_fit {o : Op} {w l : Int} (ho : sg o = true) (l0 : 0 ≤ l) (l1 : l ≤ fullI w) : 0 ≤ v1 o w l ∧ v1 o w l ≤ fullI w := by
  cases o <;> first | (cases ho; done) | skip
  · show 0 ≤ fullI w - l ∧ fullI w - l ≤ fullI w
    omega
  · exact full_in
theorem ty_w {e : Ex} {w : Int} (h : Ty Γ e w) : 1 ≤ w ∧ w ≤ 8 := by
  induction h with
  | word _ _ h1 h2 => exact ⟨h1, h2⟩
  | name _ h1 h2 => exact ⟨h1, h2⟩
  | un _ _ ih => exact ih
  | wide _ h1 h2 _ => exact ⟨h1, h2⟩
  | bin _ _ _ ih _ => exact ih
  | shift _ _ _ ih _ => exact ih
  | cmp _ _ _ _ _ => exact ⟨by decide, by decide⟩
  | pick _ _ _ _ ih _ => exact ih
theorem full_one : fullI 1 = 1 := by decide
theorem ev_fit (hF : Fit Γ ρ) {e : Ex} {w : Int} (h : Ty Γ e w) : (ev ρ e).1 = w ∧ 0 ≤ (ev ρ e).2 ∧ (ev ρ e).2 ≤ fullI w := by
  induction h with
  | word h1 h2 _ _ => exact ⟨rfl, h1, h2⟩
  | name h1 _ _ => exact hF _ h1
  | un ho _ ih =>
    obtain ⟨i1, i2, i3⟩ := ih
    refine ⟨i1, ?_⟩
    simp only [ev]
    rw [i1]
    exact sg_fit ho i2 i3
  | wide _ _ _ _ => exact ⟨rfl, full_in⟩
  | bin ho ha hb iha ihb =>
    obtain ⟨i1, i2, i3⟩ := iha
    obtain ⟨j1, j2, j3⟩ := ihb
    have hw := ty_w ha
    rename_i o _ _ _
    have hr : rl o = false := by cases o <;> first | (cases ho; done) | rfl
    simp only [ev, hr]
    rw [i1]
    exact ⟨rfl, v2_fit (.inl ho) hw.1 hw.2 i2 i3 j2⟩
  | shift ho ha hb iha ihb =>
    obtain ⟨i1, i2, i3⟩ := iha
    obtain ⟨j1, j2, j3⟩ := ihb
    have hw := ty_w ha
    rename_i o _ _ _ _
    have hr : rl o = false := by cases o <;> first | (cases ho; done) | rfl
    simp only [ev, hr]
    rw [i1]
    exact ⟨rfl, v2_fit (.inr ho) hw.1 hw.2 i2 i3 j2⟩
  | cmp ho ha hb iha ihb =>
    simp only [ev, ho]
    rw [full_one]
    exact ⟨rfl, rl_fit ho⟩
  | pick _ _ _ ihc iha ihb =>
    simp only [ev]
    refine ⟨iha.1, ?_⟩
    split
    · exact iha.2
    · exact ihb.2
def ops : Ex → List Ex
  | .word _ _ => []
  | .name _ => []
  | .un _ e => [e]
  | .wide e _ => [e]
  | .bin _ a b => [a, b]
  | .pick c a b => [c, a, b]
def leaf : Ex → Bool
  | .word _ _ => true
  | .name _ => true
  | _ => false
abbrev prD (p : Int × Int) : D := .tup [.int p.1, .int p.2]
/-- the dict of names holds the words -/
def NmIs (st : Store) (n : Nat) (Γ : List (Str × Int)) (ρ : Str → Int × Int) : Prop := ∃ kvs, rdD st n kvs ∧ ∀ x ∈ Γ, valD kvs (.inr x.1) = some (prD (ρ x.1))
theorem Grw.rdD {n : Nat} {kvs : List (Ky × D)} (f : Grw st st') (h : rdD st n kvs) : rdD st' n kvs := by
  obtain ⟨m, rfl⟩ := f
  have : n < st.length := (List.getElem?_eq_some_iff.mp h).1
  unfold Pd.rdD at *
  rw [List.getElem?_append_left this]; exact h
theorem NmIs.grw (h : NmIs st n Γ ρ) (f : Grw st st') : NmIs st' n Γ ρ := by
  obtain ⟨kvs, h1, h2⟩ := h
  exact ⟨kvs, Grw.rdD f h1, h2⟩
theorem opsP_ok {e : Ex} {w : Int} (h : Ty Γ e w) (hl : leaf e = false) (hm : 1 ≤ m) (q : Q (.ref st.length) (st ++ [.lst ((ops e).map exD)])) : callN prog m "operands_of" [exD e] st Q := by
  obtain ⟨m, rfl⟩ : ∃ n, m = n + 1 := ⟨m - 1, by omega⟩
  refine call_intro rfl rfl ?_
  unfold b_p_operands_of
  cases h with
  | word => cases hl
  | name => cases hl
  | un ho ha =>
    rename_i o a
    unfold exD
    cases o <;> first | (cases ho; done) | (walk_at "t"; exact q)
  | wide ha _ _ =>
    unfold exD
    walk_at "t"
    exact q
  | bin ho ha hb =>
    rename_i o a b
    unfold exD
    cases o <;> first | (cases ho; done) | (walk_at "t"; exact q)
  | shift ho ha hb =>
    rename_i o a b _
    unfold exD
    cases o <;> first | (cases ho; done) | (walk_at "t"; exact q)
  | cmp ho ha hb =>
    rename_i o a b _
    unfold exD
    cases o <;> first | (cases ho; done) | (walk_at "t"; exact q)
  | pick hc ha hb =>
    unfold exD
    walk_at "t"
    exact q
theorem opsL_ok {e : Ex} {w : Int} (h : Ty Γ e w) (hl : leaf e = false) (hm : 1 ≤ m) (q : Q (.tup ((ops e).map exD)) st) : callN prog m "_law_operands" [exD e] st Q := by
  obtain ⟨m, rfl⟩ : ∃ n, m = n + 1 := ⟨m - 1, by omega⟩
  refine call_intro rfl rfl ?_
  unfold b_l_operands
  cases h with
  | word => cases hl
  | name => cases hl
  | un ho ha =>
    rename_i o a
    unfold exD
    cases o <;> first | (cases ho; done) | (walk_at "t"; exact q)
  | wide ha _ _ =>
    unfold exD
    walk_at "t"
    exact q
  | bin ho ha hb =>
    rename_i o a b
    unfold exD
    cases o <;> first | (cases ho; done) | (walk_at "t"; exact q)
  | shift ho ha hb =>
    rename_i o a b _
    unfold exD
    cases o <;> first | (cases ho; done) | (walk_at "t"; exact q)
  | cmp ho ha hb =>
    rename_i o a b _
    unfold exD
    cases o <;> first | (cases ho; done) | (walk_at "t"; exact q)
  | pick hc ha hb =>
    unfold exD
    walk_at "t"
    exact q
end Pk13
end PartPdk13P4

section PartPdk13P5
set_option Elab.async false
set_option linter.all false
set_option maxRecDepth 100000
set_option maxHeartbeats 2000000
/-! k13, fifth text: contract_word and _law_worth. Own work. -/
namespace Pk13
open PySem Pd
local macro_rules | `(tactic| walk_at "s") => `(tactic| (repeat (refine Red.red ?_)))
local macro_rules | `(tactic| walk_at "r") => `(tactic| (repeat (first | refine Red.red ?_ | refine Nxt.mk ?_)))
local macro_rules | `(tactic| walk_at "t") => `(tactic| (repeat (first | refine Red.red ?_ | refine Nxt.mk ?_ | refine ⟨by decide +kernel, by decide +kernel, wayF (by decide +kernel) ?_⟩ | refine ⟨by decide +kernel, by decide +kernel, wayT (by decide +kernel) ?_⟩ | refine ⟨by decide +kernel, ?_⟩ | refine ⟨Nat.le_of_ble_eq_true rfl, ?_⟩ | refine at_is rfl ?_)))
local instance inTup5 {x : D} {xs : List D} {st : Store} {r : Bool → Prop} : Red (inC x (.tup xs) st r) (x.flat = true ∧ xs.all D.flat = true ∧ r (xs.any fun y => D.eqb y x)) := ⟨id⟩
variable {k m n : Nat} {st st' : Store} {Q : K} {Γ : List (Str × Int)} {ρ : Str → Int × Int}

theorem ops_dep {e x : Ex} (hx : x ∈ ops e) : dep x < dep e := by
  cases e <;> simp only [ops, List.mem_cons, List.not_mem_nil, or_false] at hx
  · subst hx; simp only [dep]; omega
  · subst hx; simp only [dep]; omega
  · rcases hx with h | h <;> subst h <;> simp only [dep] <;> omega
  · rcases hx with h | h | h <;> subst h <;> simp only [dep] <;> omega
theorem ops_ty {e x : Ex} {w : Int} (h : Ty Γ e w) (hx : x ∈ ops e) : ∃ w', Ty Γ x w' := by
  cases h <;> simp only [ops, List.mem_cons, List.not_mem_nil, or_false] at hx
  · subst hx; exact ⟨_, by assumption⟩
  · subst hx; exact ⟨_, by assumption⟩
  · rcases hx with h | h <;> subst h <;> exact ⟨_, by assumption⟩
  · rcases hx with h | h <;> subst h <;> exact ⟨_, by assumption⟩
  · rcases hx with h | h <;> subst h <;> exact ⟨_, by assumption⟩
  · rcases hx with h | h | h <;> subst h <;> exact ⟨_, by assumption⟩
theorem ops_few (e : Ex) : (ops e).length ≤ 3 := by cases e <;> simp [ops]
theorem res1M {o : Op} {w l : Int} (ho : one o = true) (hm : 2 ≤ m) (w0 : 1 ≤ w) (w1 : w ≤ 8) (q : Q (.int (v1 o w l)) st) : callN prog m "result" [.str (opS o), .int w, .tup [.int l]] st Q := by
  obtain ⟨m, rfl⟩ : ∃ n, m = n + 2 := ⟨m - 2, by omega⟩
  exact res1 ho w0 w1 q
theorem res3M {w l a b : Int} (hm : 2 ≤ m) (w0 : 1 ≤ w) (w1 : w ≤ 8) (q : Q (.int (if l = 1 then a else b)) st) : callN prog m "result" [.str (opS .pick), .int w, .tup [.int l, .int a, .int b]] st Q := by
  obtain ⟨m, rfl⟩ : ∃ n, m = n + 2 := ⟨m - 2, by omega⟩
  exact res3 w0 w1 q
theorem res2M {o : Op} {w l r : Int} (ho : two o = true) (hm : 3 ≤ m) (w0 : 1 ≤ w) (w1 : w ≤ 8) (l0 : 0 ≤ l) (l1 : l ≤ 255) (r0 : 0 ≤ r) (r1 : r ≤ 255) (q : Q (.int (v2 o w l r)) st) : callN prog m "result" [.str (opS o), .int w, .tup [.int l, .int r]] st Q := by
  obtain ⟨m, rfl⟩ : ∃ n, m = n + 3 := ⟨m - 3, by omega⟩
  exact res2 ho w0 w1 l0 l1 r0 r1 q
theorem f255 {w : Int} (w0 : 1 ≤ w) (w1 : w ≤ 8) : fullI w ≤ 255 := (fullI_bd (by omega) w1).2
def opx : Ex → Op
  | .un o _ => o
  | .wide _ _ => .wide
  | .bin o _ _ => o
  | .pick _ _ _ => .pick
  | _ => .not
def rst : Ex → List D
  | .un _ e => [exD e]
  | .wide e w => [exD e, .int w]
  | .bin _ a b => [exD a, exD b]
  | .pick c a b => [exD c, exD a, exD b]
  | _ => []
theorem exD_eq {e : Ex} (h : leaf e = false) : exD e = .tup (.str (opS (opx e)) :: rst e) := by cases e <;> first | (cases h; done) | rfl
theorem ops_ne : ∀ o : Op, okS (opS o) = true ∧ opS o ≠ "word" ∧ opS o ≠ "name" := by
  intro o
  cases o <;> exact ⟨by decide +kernel, by decide +kernel, by decide +kernel⟩
theorem okw : okS ("word" : Str) = true ∧ okS ("name" : Str) = true := by decide +kernel
theorem getA_str {kvs : List (Ky × D)} {s : Str} {d : D} (h : rdD st n kvs) (e : valD kvs (.inr s) = some d) (q : Q d st) : getDAK (.ref n) (.str s) st Q := ⟨kvs, .inr s, d, .inl h, rfl, e, q⟩
theorem cw_leaf {e : Ex} {w : Int} (hm : 1 ≤ m) (hl : leaf e = true) (h : Ty Γ e w) (hN : NmIs st n Γ ρ) (q : ∀ st', Grw st st' → Q (prD (ev ρ e)) st') : callN prog m "contract_word" [exD e, .ref n] st Q := by
  obtain ⟨m, rfl⟩ : ∃ n, m = n + 1 := ⟨m - 1, by omega⟩
  refine call_intro rfl rfl ?_
  unfold b_p_contract_word
  cases h <;> first | (cases hl; done) | skip
  · unfold exD
    walk_at "t"
    exact q _ (.refl _)
  · rename_i s h1 _ _
    obtain ⟨kvs, k1, k2⟩ := hN
    unfold exD
    walk_at "t"
    exact getA_str k1 (k2 _ h1) (q _ (.refl _))
theorem cw_ok : ∀ (d : Nat) ⦃e : Ex⦄ ⦃w : Int⦄ ⦃m n : Nat⦄ ⦃st : Store⦄ ⦃Q : K⦄, dep e ≤ d → Ty Γ e w → Fit Γ ρ → NmIs st n Γ ρ → d + 4 ≤ m → (∀ st', Grw st st' → Q (prD (ev ρ e)) st') → callN prog m "contract_word" [exD e, .ref n] st Q := by
  intro d
  induction d with
  | zero =>
    intro e w m n st Q hd h hF hN hm q
    cases hl : leaf e with
    | true => exact cw_leaf (by omega) hl h hN q
    | false => cases e <;> first | (cases hl; done) | (simp only [dep] at hd; omega)
  | succ d ih =>
    intro e w m n st Q hd h hF hN hm q
    cases hl : leaf e with
    | true => exact cw_leaf (by omega) hl h hN q
    | false =>
      obtain ⟨m, rfl⟩ : ∃ n, m = n + 1 := ⟨m - 1, by omega⟩
      refine call_intro rfl rfl ?_
      unfold b_p_contract_word
      obtain ⟨ho1, ho2, ho3⟩ := ops_ne (opx e)
      have hx := exD_eq hl
      have l3 := ops_few e
      rw [hx]
      walk_at "s"
      refine at_is rfl ?_
      walk_at "s"
      refine Nxt.mk ?_
      walk_at "s"
      refine ⟨ho1, okw.1, ?_⟩
      refine wayF (decide_eq_false ho2) ?_
      walk_at "r"
      refine ⟨ho1, okw.2, ?_⟩
      refine wayF (decide_eq_false ho3) ?_
      walk_at "r"
      rw [← hx]
      refine opsP_ok h hl (by omega) ?_
      refine it_at rdL_new ?_
      have g1 : Grw st (st ++ [C.lst ((ops e).map exD)]) := (Grw.refl st).app
      have hi := rdL_new (st := st) (xs := (ops e).map exD)
      have hin : st.length < (st ++ [C.lst ((ops e).map exD)]).length := by simp
      generalize (st ++ [C.lst ((ops e).map exD)]) = st1 at g1 hi hin ⊢
      refine lc_mapG (ops e) exD (fun x => prD (ev ρ x)) rfl (by unfold szl; omega) (fun st' f => .inl (f.rd hi hin)) (fun x hx2 st2 N f hN2 => ?_) (fun st3 f3 h3 => ?_)
      · obtain ⟨w', tx⟩ := ops_ty h hx2
        have hd2 := ops_dep hx2
        walk_at "s"
        exact ih (by omega) tx hF (hN.grw (g1.trans f.grw)) (by omega) hN2
      generalize st1.length = n3 at h3
      have g3 := g1.trans f3.grw
      clear f3
      walk_at "s"
      refine Nxt.mk ?_
      walk_at "s"
      refine it_at h3 ?_
      refine lc_map (ops e) (fun x => prD (ev ρ x)) (fun x => .int (ev ρ x).2) rfl (by unfold szl; omega) (fun acc => .inl (rdL_app h3)) (fun x hx2 acc N hN2 => ?_) ?_
      · walk_at "t"
        exact hN2
      have h4 := rdL_new (st := st3) (xs := (ops e).map fun x => .int (ev ρ x).2)
      have h34 := rdL_app (c := C.lst ((ops e).map fun x => .int (ev ρ x).2)) h3
      have g4 := g3.app (c := C.lst ((ops e).map fun x => .int (ev ρ x).2))
      generalize st3.length = n4 at h4
      generalize (st3 ++ [C.lst ((ops e).map fun x => D.int (ev ρ x).2)]) = st4 at h4 h34 g4 ⊢
      walk_at "s"
      refine Nxt.mk ?_
      cases h <;> first | (cases hl; done) | skip
      · rename_i o a ho ta
        obtain ⟨e1, e2, e3⟩ := ev_fit hF ta
        obtain ⟨w0, w1⟩ := ty_w ta
        simp only [ops, List.map_cons, List.map_nil] at h34 h4
        have := q _ g4
        simp only [ev, e1] at this
        cases o <;> first | (cases ho; done) | skip
        all_goals
          dsimp only [exD, opx]
          walk_at "t"
          refine ix_at h34 rfl ?_
          walk_at "t"
          refine ix_at h34 rfl ?_
          walk_at "t"
          refine star_at h4 ?_
          walk_at "t"
          rw [e1]
          refine res1M (by rfl) (by omega) w0 w1 ?_
          walk_at "t"
          exact this
      · rename_i a w' ta w0 w1
        simp only [ops, List.map_cons, List.map_nil] at h34 h4
        dsimp only [exD, opx]
        walk_at "t"
        refine star_at h4 ?_
        walk_at "t"
        refine res1M (o := .wide) (by rfl) (by omega) w0 w1 ?_
        walk_at "t"
        exact q _ g4
      · rename_i o a b ho ta tb
        obtain ⟨e1, e2, e3⟩ := ev_fit hF ta
        obtain ⟨f1, f2, f3⟩ := ev_fit hF tb
        obtain ⟨w0, w1⟩ := ty_w ta
        have z := f255 w0 w1
        simp only [ops, List.map_cons, List.map_nil] at h34 h4
        have := q _ g4
        simp only [ev, e1] at this
        cases o <;> first | (cases ho; done) | skip
        all_goals
          dsimp only [exD, opx]
          walk_at "t"
          refine ix_at h34 rfl ?_
          walk_at "t"
          refine ix_at h34 rfl ?_
          walk_at "t"
          refine star_at h4 ?_
          walk_at "t"
          rw [e1]
          refine res2M (by rfl) (by omega) w0 w1 e2 (by omega) f2 (by omega) ?_
          walk_at "t"
          exact this
      · rename_i o a b w' _ _ _
        have ho : sh o = true := by assumption
        have ta : Ty Γ a w := by assumption
        have tb : Ty Γ b w' := by assumption
        obtain ⟨e1, e2, e3⟩ := ev_fit hF ta
        obtain ⟨f1, f2, f3⟩ := ev_fit hF tb
        obtain ⟨w0, w1⟩ := ty_w ta
        obtain ⟨v0, v1⟩ := ty_w tb
        have z := f255 w0 w1
        have z2 := f255 v0 v1
        simp only [ops, List.map_cons, List.map_nil] at h34 h4
        have := q _ g4
        simp only [ev, e1] at this
        cases o <;> first | (cases ho; done) | skip
        all_goals
          dsimp only [exD, opx]
          walk_at "t"
          refine ix_at h34 rfl ?_
          walk_at "t"
          refine ix_at h34 rfl ?_
          walk_at "t"
          refine star_at h4 ?_
          walk_at "t"
          rw [e1]
          refine res2M (by rfl) (by omega) w0 w1 e2 (by omega) f2 (by omega) ?_
          walk_at "t"
          exact this
      · rename_i o a b w' ho ta tb
        obtain ⟨e1, e2, e3⟩ := ev_fit hF ta
        obtain ⟨f1, f2, f3⟩ := ev_fit hF tb
        obtain ⟨w0, w1⟩ := ty_w ta
        have z := f255 w0 w1
        simp only [ops, List.map_cons, List.map_nil] at h34 h4
        have := q _ g4
        simp only [ev, e1] at this
        cases o <;> first | (cases ho; done) | skip
        all_goals
          dsimp only [exD, opx]
          walk_at "t"
          refine ix_at h34 rfl ?_
          walk_at "t"
          refine star_at h4 ?_
          walk_at "t"
          rw [e1]
          refine res2M (by rfl) (by omega) w0 w1 e2 (by omega) f2 (by omega) ?_
          walk_at "t"
          exact this
      · rename_i c a b tc ta tb
        obtain ⟨w0, w1⟩ := ty_w ta
        obtain ⟨e1, e2, e3⟩ := ev_fit hF ta
        simp only [ops, List.map_cons, List.map_nil] at h34 h4
        dsimp only [exD, opx]
        walk_at "t"
        refine ix_at h34 rfl ?_
        walk_at "t"
        refine ix_at h34 rfl ?_
        walk_at "t"
        refine star_at h4 ?_
        walk_at "t"
        have := q _ g4
        simp only [ev, e1] at this
        rw [e1]
        refine res3M (by omega) w0 w1 ?_
        walk_at "t"
        exact this
end Pk13
end PartPdk13P5

section PartPdk13P6
set_option Elab.async false
set_option linter.all false
set_option maxRecDepth 100000
set_option maxHeartbeats 2000000
/-! k13, sixth text: _law_worth. Own work. -/
namespace Pk13
open PySem Pd
local macro_rules | `(tactic| walk_at "s") => `(tactic| (repeat (refine Red.red ?_)))
local macro_rules | `(tactic| walk_at "r") => `(tactic| (repeat (first | refine Red.red ?_ | refine Nxt.mk ?_)))
local macro_rules | `(tactic| walk_at "t") => `(tactic| (repeat (first | refine Red.red ?_ | refine Nxt.mk ?_ | refine ⟨by decide +kernel, by decide +kernel, wayF (by decide +kernel) ?_⟩ | refine ⟨by decide +kernel, by decide +kernel, wayT (by decide +kernel) ?_⟩ | refine ⟨by decide +kernel, ?_⟩ | refine ⟨Nat.le_of_ble_eq_true rfl, ?_⟩ | refine at_is rfl ?_)))
local instance inTup6 {x : D} {xs : List D} {st : Store} {r : Bool → Prop} : Red (inC x (.tup xs) st r) (x.flat = true ∧ xs.all D.flat = true ∧ r (xs.any fun y => D.eqb y x)) := ⟨id⟩
variable {k m n : Nat} {st st' : Store} {Q : K} {Γ : List (Str × Int)} {ρ : Str → Int × Int}

theorem word1M {o : Op} {w l : Int} (ho : one o = true) (hm : 1 ≤ m) (w0 : 1 ≤ w) (w1 : w ≤ 8) (l0 : 0 ≤ l) (l1 : o ≠ .wide → l ≤ fullI w) (h : rdL st n [.int l]) (q : Q (.int (v1 o w l)) st) : callN prog m "_law_word" [.str (opS o), .int w, .ref n] st Q := by
  obtain ⟨m, rfl⟩ : ∃ n, m = n + 1 := ⟨m - 1, by omega⟩
  exact word1 ho w0 w1 l0 l1 h q
theorem word3M {w l a b : Int} (hm : 1 ≤ m) (w0 : 1 ≤ w) (w1 : w ≤ 8) (l0 : 0 ≤ l) (l1 : l ≤ 1) (h : rdL st n [.int l, .int a, .int b]) (q : Q (.int (if l = 1 then a else b)) st) : callN prog m "_law_word" [.str (opS .pick), .int w, .ref n] st Q := by
  obtain ⟨m, rfl⟩ : ∃ n, m = n + 1 := ⟨m - 1, by omega⟩
  exact word3 w0 w1 l0 l1 h q
theorem word2M {o : Op} {w l r : Int} (ho : two o = true) (hm : 1 ≤ m) (w0 : 1 ≤ w) (w1 : w ≤ 8) (l0 : 0 ≤ l) (l2 : l ≤ 255) (r0 : 0 ≤ r) (r1 : r ≤ 255) (rs : (o = .shr ∨ o = .and ∨ o = .or ∨ o = .xor) → l ≤ fullI w) (rb : (o = .and ∨ o = .or ∨ o = .xor) → r ≤ fullI w) (h : rdL st n [.int l, .int r]) (q : Q (.int (v2 o w l r)) st) : callN prog m "_law_word" [.str (opS o), .int w, .ref n] st Q := by
  obtain ⟨m, rfl⟩ : ∃ n, m = n + 1 := ⟨m - 1, by omega⟩
  exact word2 ho w0 w1 l0 l2 r0 r1 rs rb h q
theorem wo_leaf {e : Ex} {w : Int} (hm : 1 ≤ m) (hl : leaf e = true) (h : Ty Γ e w) (hN : NmIs st n Γ ρ) (q : ∀ st', Grw st st' → Q (prD (ev ρ e)) st') : callN prog m "_law_worth" [.ref n, exD e] st Q := by
  obtain ⟨m, rfl⟩ : ∃ n, m = n + 1 := ⟨m - 1, by omega⟩
  refine call_intro rfl rfl ?_
  unfold b_l_worth
  cases h <;> first | (cases hl; done) | skip
  · unfold exD
    walk_at "t"
    exact q _ (.refl _)
  · rename_i s h1 _ _
    obtain ⟨kvs, k1, k2⟩ := hN
    unfold exD
    walk_at "t"
    exact getA_str k1 (k2 _ h1) (q _ (.refl _))
theorem wo_ok : ∀ (d : Nat) ⦃e : Ex⦄ ⦃w : Int⦄ ⦃m n : Nat⦄ ⦃st : Store⦄ ⦃Q : K⦄, dep e ≤ d → Ty Γ e w → Fit Γ ρ → NmIs st n Γ ρ → d + 4 ≤ m → (∀ st', Grw st st' → Q (prD (ev ρ e)) st') → callN prog m "_law_worth" [.ref n, exD e] st Q := by
  intro d
  induction d with
  | zero =>
    intro e w m n st Q hd h hF hN hm q
    cases hl : leaf e with
    | true => exact wo_leaf (by omega) hl h hN q
    | false => cases e <;> first | (cases hl; done) | (simp only [dep] at hd; omega)
  | succ d ih =>
    intro e w m n st Q hd h hF hN hm q
    cases hl : leaf e with
    | true => exact wo_leaf (by omega) hl h hN q
    | false =>
      obtain ⟨m, rfl⟩ : ∃ n, m = n + 1 := ⟨m - 1, by omega⟩
      refine call_intro rfl rfl ?_
      unfold b_l_worth
      obtain ⟨ho1, ho2, ho3⟩ := ops_ne (opx e)
      have hx := exD_eq hl
      have l3 := ops_few e
      rw [hx]
      walk_at "s"
      refine at_is rfl ?_
      walk_at "s"
      refine Nxt.mk ?_
      walk_at "s"
      refine ⟨ho1, okw.1, ?_⟩
      refine wayF (decide_eq_false ho2) ?_
      walk_at "r"
      refine ⟨ho1, okw.2, ?_⟩
      refine wayF (decide_eq_false ho3) ?_
      walk_at "r"
      rw [← hx]
      refine opsL_ok h hl (by omega) ?_
      walk_at "s"
      have g1 : Grw st st := .refl st
      refine lc_mapG (ops e) exD (fun x => prD (ev ρ x)) rfl (by unfold szl; omega) (fun st' f => trivial) (fun x hx2 st2 N f hN2 => ?_) (fun st3 f3 h3 => ?_)
      · obtain ⟨w', tx⟩ := ops_ty h hx2
        have hd2 := ops_dep hx2
        walk_at "s"
        exact ih (by omega) tx hF (hN.grw (g1.trans f.grw)) (by omega) hN2
      generalize st.length = n3 at h3
      have g3 := g1.trans f3.grw
      clear f3
      walk_at "s"
      refine Nxt.mk ?_
      walk_at "s"
      refine it_at h3 ?_
      refine lc_map (ops e) (fun x => prD (ev ρ x)) (fun x => .int (ev ρ x).2) rfl (by unfold szl; omega) (fun acc => .inl (rdL_app h3)) (fun x hx2 acc N hN2 => ?_) ?_
      · walk_at "t"
        exact hN2
      have h4 := rdL_new (st := st3) (xs := (ops e).map fun x => .int (ev ρ x).2)
      have h34 := rdL_app (c := C.lst ((ops e).map fun x => .int (ev ρ x).2)) h3
      have g4 := g3.app (c := C.lst ((ops e).map fun x => .int (ev ρ x).2))
      generalize st3.length = n4 at h4
      generalize (st3 ++ [C.lst ((ops e).map fun x => D.int (ev ρ x).2)]) = st4 at h4 h34 g4 ⊢
      walk_at "s"
      refine Nxt.mk ?_
      cases h <;> first | (cases hl; done) | skip
      · rename_i o a ho ta
        obtain ⟨e1, e2, e3⟩ := ev_fit hF ta
        obtain ⟨w0, w1⟩ := ty_w ta
        simp only [ops, List.map_cons, List.map_nil] at h34 h4
        have := q _ g4
        simp only [ev, e1] at this
        cases o <;> first | (cases ho; done) | skip
        all_goals
          dsimp only [exD, opx]
          walk_at "t"
          refine ix_at h34 rfl ?_
          walk_at "t"
          rw [e1]
          refine word1M (by rfl) (by omega) w0 w1 e2 (fun _ => e3) h4 ?_
          walk_at "t"
          exact this
      · rename_i a w' ta w0 w1
        obtain ⟨e1, e2, e3⟩ := ev_fit hF ta
        simp only [ops, List.map_cons, List.map_nil] at h34 h4
        dsimp only [exD, opx]
        walk_at "t"
        refine word1M (o := .wide) (by rfl) (by omega) w0 w1 e2 (fun z => absurd rfl z) h4 ?_
        walk_at "t"
        exact q _ g4
      · rename_i o a b ho ta tb
        obtain ⟨e1, e2, e3⟩ := ev_fit hF ta
        obtain ⟨f1, f2, f3⟩ := ev_fit hF tb
        obtain ⟨w0, w1⟩ := ty_w ta
        have z := f255 w0 w1
        simp only [ops, List.map_cons, List.map_nil] at h34 h4
        have := q _ g4
        simp only [ev, e1] at this
        cases o <;> first | (cases ho; done) | skip
        all_goals
          dsimp only [exD, opx]
          walk_at "t"
          refine ix_at h34 rfl ?_
          walk_at "t"
          rw [e1]
          refine word2M (by rfl) (by omega) w0 w1 e2 (by omega) f2 (by omega) (fun _ => e3) (fun _ => f3) h4 ?_
          walk_at "t"
          exact this
      · rename_i o a b w' _ _ _
        have ho : sh o = true := by assumption
        have ta : Ty Γ a w := by assumption
        have tb : Ty Γ b w' := by assumption
        obtain ⟨e1, e2, e3⟩ := ev_fit hF ta
        obtain ⟨f1, f2, f3⟩ := ev_fit hF tb
        obtain ⟨w0, w1⟩ := ty_w ta
        obtain ⟨v0, v1⟩ := ty_w tb
        have z := f255 w0 w1
        have z2 := f255 v0 v1
        simp only [ops, List.map_cons, List.map_nil] at h34 h4
        have := q _ g4
        simp only [ev, e1] at this
        cases o <;> first | (cases ho; done) | skip
        all_goals
          dsimp only [exD, opx]
          walk_at "t"
          refine ix_at h34 rfl ?_
          walk_at "t"
          rw [e1]
          refine word2M (by rfl) (by omega) w0 w1 e2 (by omega) f2 (by omega) (fun _ => e3) (fun z => by rcases z with z | z | z <;> cases z) h4 ?_
          walk_at "t"
          exact this
      · rename_i o a b w' ho ta tb
        obtain ⟨e1, e2, e3⟩ := ev_fit hF ta
        obtain ⟨f1, f2, f3⟩ := ev_fit hF tb
        obtain ⟨w0, w1⟩ := ty_w ta
        have z := f255 w0 w1
        simp only [ops, List.map_cons, List.map_nil] at h34 h4
        have := q _ g4
        simp only [ev, e1] at this
        cases o <;> first | (cases ho; done) | skip
        all_goals
          dsimp only [exD, opx]
          walk_at "t"
          refine ix_at h34 rfl ?_
          walk_at "t"
          rw [e1]
          refine word2M (by rfl) (by omega) w0 w1 e2 (by omega) f2 (by omega) (fun z => by rcases z with z | z | z | z <;> cases z) (fun z => by rcases z with z | z | z <;> cases z) h4 ?_
          walk_at "t"
          exact this
      · rename_i c a b tc ta tb
        obtain ⟨w0, w1⟩ := ty_w ta
        obtain ⟨e1, e2, e3⟩ := ev_fit hF ta
        obtain ⟨c1, c2, c3⟩ := ev_fit hF tc
        rw [full_one] at c3
        simp only [ops, List.map_cons, List.map_nil] at h34 h4
        dsimp only [exD, opx]
        walk_at "t"
        refine ix_at h34 rfl ?_
        walk_at "t"
        have := q _ g4
        simp only [ev, e1] at this
        rw [e1]
        refine word3M (by omega) w0 w1 c2 c3 h4 ?_
        walk_at "t"
        exact this
end Pk13
end PartPdk13P6

section PartPdk13P7
set_option Elab.async false
set_option linter.all false
set_option maxRecDepth 100000
set_option maxHeartbeats 2000000
/-! k13, seventh text: rows of words, the program's answers. Own work. -/
namespace Pk13
open PySem Pd
local macro_rules | `(tactic| walk_at "s") => `(tactic| (repeat (refine Red.red ?_)))
local macro_rules | `(tactic| walk_at "r") => `(tactic| (repeat (first | refine Red.red ?_ | refine Nxt.mk ?_)))
local macro_rules | `(tactic| walk_at "t") => `(tactic| (repeat (first | refine Red.red ?_ | refine Nxt.mk ?_ | refine ⟨by decide +kernel, by decide +kernel, wayF (by decide +kernel) ?_⟩ | refine ⟨by decide +kernel, by decide +kernel, wayT (by decide +kernel) ?_⟩ | refine ⟨by decide +kernel, ?_⟩ | refine ⟨Nat.le_of_ble_eq_true rfl, ?_⟩ | refine at_is rfl ?_)))
local instance inTup7 {x : D} {xs : List D} {st : Store} {r : Bool → Prop} : Red (inC x (.tup xs) st r) (x.flat = true ∧ xs.all D.flat = true ∧ r (xs.any fun y => D.eqb y x)) := ⟨id⟩
variable {k m n : Nat} {st st' : Store} {Q : K} {Γ : List (Str × Int)} {ρ : Str → Int × Int}

theorem Grw.setN {c : C} (f : Grw st st') (hn : st.length ≤ n) : Grw st (st'.set n c) := by
  obtain ⟨m, rfl⟩ := f
  exact ⟨m.set (n - st.length) c, by rw [List.set_append_right _ _ hn]⟩
theorem Grw.rdLN {xs : List D} (f : Grw st st') (h : rdL st n xs) : rdL st' n xs := f.rd h
theorem rdD_new {kvs : List (Ky × D)} : rdD (st ++ [.dic kvs]) st.length kvs := by unfold rdD; simp
theorem rdD_lt {kvs : List (Ky × D)} (h : rdD st n kvs) : n < st.length := (List.getElem?_eq_some_iff.mp h).1
theorem rdD_app {kvs : List (Ky × D)} {c : C} (h : rdD st n kvs) : rdD (st ++ [c]) n kvs := by
  unfold rdD at *
  rw [List.getElem?_append_left (rdD_lt h)]; exact h
theorem rdD_set {kvs kvs' : List (Ky × D)} (h : rdD st n kvs) : rdD (st.set n (.dic kvs')) n kvs' := by unfold rdD; rw [List.getElem?_set_self (rdD_lt h)]
theorem rdD_ne {kvs : List (Ky × D)} {c : C} {m : Nat} (h : rdD st n kvs) (ne : n ≠ m) : rdD (st.set m c) n kvs := by unfold rdD at *; rw [List.getElem?_set_ne (Ne.symm ne)]; exact h
theorem lcIn_map {β : Type} {gd : Store → Prop} {g : TG} {te : TE} {σ : Pd.Env} {Nx : List D → Store → Prop} (f h : β → D) (hg : ∀ acc, gd (st ++ [.lst acc])) : ∀ (ys : List β) (acc : List D), acc.length + ys.length ≤ szl →
    (∀ y, y ∈ ys → ∀ (acc : List D) (N : D → Store → Prop), N (h y) (st ++ [.lst acc]) → g (f y) σ (st ++ [.lst acc]) fun ρ2 st2 => te ρ2 st2 N) →
    Nx (acc ++ ys.map h) (st ++ [.lst (acc ++ ys.map h)]) → lcIn gd g tYes te σ st.length Nx (ys.map f) acc (st ++ [.lst acc])
  | [], acc, hl, hs, hd => by
    rw [List.map_nil, List.append_nil] at hd
    exact ⟨hg _, rdL_new, hd⟩
  | y :: ys, acc, hl, hs, hd => by
    refine ⟨hg _, ?_⟩
    have e1 : ∀ R : D → Store → Prop, (fun (ρ2 : Pd.Env) (st2 : Store) => tYes ρ2 st2 fun b st3 => (b = true → te ρ2 st3 R) ∧ (b = false → rdL st3 st.length acc ∧ lcIn gd g tYes te σ st.length Nx (ys.map f) acc st3)) = fun ρ2 st2 => te ρ2 st2 R := fun R => by
      funext ρ2 st2
      exact propext ⟨fun q => q.1 rfl, fun q => ⟨fun _ => q, fun e => nomatch e⟩⟩
    rw [e1]
    simp only [List.length_cons] at hl
    refine hs y List.mem_cons_self acc _ ⟨rdL_new, by omega, ?_⟩
    rw [set_app]
    refine lcIn_map f h hg ys (acc ++ [h y]) (by rw [List.length_append]; simp; omega) (fun z hz => hs z (List.mem_cons_of_mem _ hz)) ?_
    rw [List.append_assoc, List.singleton_append, ← List.map_cons]
    exact hd
theorem lcOut_flat {α : Type} {gd : Store → Prop} {g g1 : TG} {w1 : TI} {te : TE} {σ : Pd.Env} {vs1 : List Nat} (f : α → D) (hh : α → List D) (hg : ∀ acc, gd (st ++ [.lst acc])) : ∀ (xs : List α) (acc : List D), acc.length + (xs.flatMap hh).length ≤ szl →
    (∀ x, x ∈ xs → ∀ (acc : List D) (Nx : List D → Store → Prop), acc.length + (hh x).length ≤ szl → Nx (acc ++ hh x) (st ++ [.lst (acc ++ hh x)]) → g (f x) σ (st ++ [.lst acc]) fun ρ2 st2 => w1 ρ2 st2 fun I1 st4 => lcIn I1.guard g1 tYes te (wipeE ρ2 vs1) st.length Nx I1.items acc st4) →
    Q (.ref st.length) (st ++ [.lst (acc ++ xs.flatMap hh)]) → lcOut gd g tYes w1 g1 tYes te σ vs1 st.length Q (xs.map f) acc (st ++ [.lst acc])
  | [], acc, hl, hs, hd => by
    rw [List.flatMap_nil, List.append_nil] at hd
    exact ⟨hg _, rdL_new, hd⟩
  | x :: xs, acc, hl, hs, hd => by
    refine ⟨hg _, ?_⟩
    rw [List.flatMap_cons, List.length_append] at hl
    have e1 : ∀ R : List D → Store → Prop, (fun (ρ2 : Pd.Env) (st2 : Store) => tYes ρ2 st2 fun b st3 => (b = true → w1 ρ2 st3 fun I1 st4 => lcIn I1.guard g1 tYes te (wipeE ρ2 vs1) st.length R I1.items acc st4) ∧ (b = false → rdL st3 st.length acc ∧ lcOut gd g tYes w1 g1 tYes te σ vs1 st.length Q (xs.map f) acc st3)) = fun ρ2 st2 => w1 ρ2 st2 fun I1 st4 => lcIn I1.guard g1 tYes te (wipeE ρ2 vs1) st.length R I1.items acc st4 := fun R => by
      funext ρ2 st2
      exact propext ⟨fun q => q.1 rfl, fun q => ⟨fun _ => q, fun e => nomatch e⟩⟩
    rw [e1]
    refine hs x List.mem_cons_self acc _ (by omega) ?_
    refine lcOut_flat f hh hg xs (acc ++ hh x) (by rw [List.length_append]; omega) (fun z hz => hs z (List.mem_cons_of_mem _ hz)) ?_
    rw [List.append_assoc, ← List.flatMap_cons]
    exact hd
/-! ### rows of words -/
abbrev tpD (r : List Int) : D := .tup (r.map D.int)
def ext1 (w : Int) (r : List Int) : List (List Int) := (List.range (2 ^ w.toNat)).map fun (k : Nat) => r ++ [(k : Int)]
def rowsFrom (acc : List (List Int)) (ws : List Int) : List (List Int) := ws.foldl (fun rows w => rows.flatMap (ext1 w)) acc
def rowsL (ws : List Int) : List (List Int) := rowsFrom [[]] ws
def inW (w v : Int) : Prop := 0 ≤ v ∧ v ≤ fullI w
theorem rows_fit : ∀ (ws : List Int) (acc : List (List Int)), ∀ r ∈ rowsFrom acc ws, ∃ r0 ∈ acc, ∃ r1, r = r0 ++ r1 ∧ Two inW ws r1
  | [], acc, r, h => ⟨r, h, [], by simp, .nil⟩
  | w :: ws, acc, r, h => by
    obtain ⟨r0, h0, r1, h1, h2⟩ := rows_fit ws (acc.flatMap (ext1 w)) r h
    obtain ⟨a, ha, hb⟩ := List.mem_flatMap.mp h0
    unfold ext1 at hb
    obtain ⟨k, hk, rfl⟩ := List.mem_map.mp hb
    have hk := List.mem_range.mp hk
    refine ⟨a, ha, (k : Int) :: r1, by rw [h1]; simp, .cons ⟨by omega, ?_⟩ h2⟩
    rw [fullN]
    omega
theorem rows_in {ws r : List Int} (h : r ∈ rowsL ws) : Two inW ws r := by
  obtain ⟨r0, h0, r1, h1, h2⟩ := rows_fit ws [[]] r h
  simp at h0
  subst h0
  rw [List.nil_append] at h1
  rw [h1]; exact h2
theorem ext_len (w : Int) (r : List Int) : (ext1 w r).length = 2 ^ w.toNat := by simp [ext1]
theorem flat_len (w : Int) : ∀ acc : List (List Int), (acc.flatMap (ext1 w)).length = acc.length * 2 ^ w.toNat
  | [] => by simp
  | r :: acc => by rw [List.flatMap_cons, List.length_append, ext_len, flat_len w acc, List.length_cons, Nat.add_mul, Nat.one_mul, Nat.add_comm]
theorem rows_grow : ∀ (ws : List Int) (acc : List (List Int)), acc.length ≤ (rowsFrom acc ws).length
  | [], acc => Nat.le_refl _
  | w :: ws, acc => by
    refine Nat.le_trans ?_ (rows_grow ws (acc.flatMap (ext1 w)))
    rw [flat_len]
    exact Nat.le_mul_of_pos_right _ (Nat.two_pow_pos _)
theorem greatM {w : Int} (hm : 1 ≤ m) (w0 : 0 ≤ w) (w1 : w ≤ 8) (q : Q (.int (fullI w)) st) : callN prog m "greatest" [.int w] st Q := by
  obtain ⟨m, rfl⟩ : ∃ n, m = n + 1 := ⟨m - 1, by omega⟩
  exact greatest_ok rfl w0 w1 q
theorem full_rng {w : Int} (w0 : 0 ≤ w) (w1 : w ≤ 8) : ∃ P : Nat, 2 ^ w.toNat = P ∧ fullI w + 1 = (P : Int) ∧ 1 ≤ P ∧ P ≤ 256 := by
  have h := Nat.two_pow_pos w.toNat
  have h2 := Nat.pow_le_pow_right (n := 2) (by decide) (show w.toNat ≤ 8 by omega)
  refine ⟨2 ^ w.toNat, rfl, ?_, h, h2⟩
  rw [fullN]
  omega
theorem rowsP_ok {ws : List Int} (hm : 2 ≤ m) (hw : ∀ w ∈ ws, 1 ≤ w ∧ w ≤ 6) (h10 : ws.length ≤ 10) (hl : (rowsL ws).length ≤ 1000) (q : ∀ n st', st.length ≤ n → rdL st' n ((rowsL ws).map tpD) → Grw st st' → Q (.ref n) st') : callN prog m "rows_of" [.tup (ws.map D.int)] st Q := by
  obtain ⟨m, rfl⟩ : ∃ n, m = n + 1 := ⟨m - 1, by omega⟩
  refine call_intro rfl rfl ?_
  unfold b_p_rows_of
  walk_at "t"
  refine for_map ws D.int rfl (fun i σ st' => ∃ n y, st.length ≤ n ∧ rdL st' n ((rowsL (ws.take i)).map tpD) ∧ Grw st st' ∧ σ = [some (.tup (ws.map D.int)), some (.ref n), y, none, none]) ⟨st.length, _, Nat.le_refl _, rdL_new, (Grw.refl st).app, rfl⟩ (fun i w σ st' hi ⟨n, y, h1, h2, h3, h4⟩ N hN => ?_) (fun σ st' ⟨n, y, h1, h2, h3, h4⟩ => ?_)
  · subst h4
    refine ⟨trivial, ?_⟩
    have hlt := (List.getElem?_eq_some_iff.mp hi).1
    have hww := hw w (List.mem_of_getElem? hi)
    have hstep : rowsL (ws.take (i + 1)) = (rowsL (ws.take i)).flatMap (ext1 w) := by
      unfold rowsL rowsFrom
      rw [List.take_add_one, hi, List.foldl_append]
      rfl
    have hle : (rowsL (ws.take (i + 1))).length ≤ 1000 := by
      have : rowsL ws = rowsFrom (rowsL (ws.take (i + 1))) (ws.drop (i + 1)) := by
        unfold rowsL rowsFrom
        rw [← List.foldl_append, List.take_append_drop]
      rw [this] at hl
      exact Nat.le_trans (rows_grow _ _) hl
    rw [hstep] at hle
    obtain ⟨P, hP, hf1, hf2, hf3⟩ := full_rng (w := w) (by omega) (by omega)
    walk_at "s"
    refine it_at h2 ?_
    have hfl : ((rowsL (ws.take i)).flatMap fun r => (ext1 w r).map tpD) = ((rowsL (ws.take i)).flatMap (ext1 w)).map tpD := by rw [List.map_flatMap]
    refine lcOut_flat (gd := fun s => rdA s n ((rowsL (ws.take i)).map tpD)) tpD (fun r => (ext1 w r).map tpD) (fun acc => .inl (rdL_app h2)) (rowsL (ws.take i)) [] (by rw [hfl, List.length_map, List.length_nil]; unfold szl; omega) (fun r hr acc Nx hacc hNx => ?_) ?_
    · walk_at "s"
      refine greatM (by omega) (by omega) (by omega) ?_
      walk_at "s"
      refine ⟨by omega, by omega, ?_⟩
      have e2 : (fullI w + 1).toNat = 2 ^ w.toNat := by rw [hP]; omega
      have hrl : r.length ≤ 10 := by
        have := (rows_in hr).length
        rw [List.length_take] at this
        omega
      rw [e2]
      rw [List.length_map, ext_len] at hacc
      have e3 : (ext1 w r).map tpD = (List.range (2 ^ w.toNat)).map fun (k : Nat) => tpD (r ++ [(k : Int)]) := by unfold ext1; rw [List.map_map]; rfl
      rw [e3] at hNx
      refine lcIn_map (fun (k : Nat) => D.int (0 + k)) (fun (k : Nat) => tpD (r ++ [(k : Int)])) (fun _ => trivial) _ acc (by rw [List.length_range]; omega) (fun k hk acc N hN => ?_) hNx
      simp only [wipeE, List.set_cons_succ, List.set_cons_zero]
      walk_at "t"
      have e4 : List.map D.int r ++ [D.int (0 + (k : Int))] = (r ++ [(k : Int)]).map D.int := by simp
      rw [e4]
      refine ⟨by rw [List.length_map, List.length_cons, List.length_nil]; unfold szl; omega, ?_⟩
      exact hN
    · rw [List.nil_append, hfl, ← hstep]
      walk_at "s"
      refine hN _ _ ⟨_, _, ?_, rdL_new, h3.app, rfl⟩
      have := h3.le
      omega
  · subst h4
    rw [List.take_length] at h2
    refine ⟨trivial, ?_⟩
    walk_at "t"
    exact q _ _ h1 h2 h3
/-! ### names -/
structure Pt where
  nm : Str
  ps : List (Str × Int)
  rw : Int
  sd : Int
  nd : Ex
  gv : Ex
abbrev ptD (p : Pt) : D := .tup [.str "external", .str p.nm, .tup (p.ps.map d2), .int p.rw, .int p.sd, exD p.nd, exD p.gv]
structure PtOk (p : Pt) : Prop where
  nd : Ty p.ps p.nd 1
  gv : Ty (p.ps ++ [(("result" : Str), p.rw)]) p.gv 1
  dn : dep p.nd ≤ 4
  dg : dep p.gv ≤ 4
  names : (p.ps.map (·.1)).Nodup
  noR : ∀ x ∈ p.ps, x.1 ≠ "result"
  wide : ∀ x ∈ p.ps, 1 ≤ x.2 ∧ x.2 ≤ 6
  few : p.ps.length ≤ 10
  r0 : 1 ≤ p.rw
  r1 : p.rw ≤ 3
  rows : (rowsL (p.ps.map (·.2))).length ≤ 1000
abbrev Kvs := List (Ky × D)
def addZ (acc : Kvs) (z : (Str × Int) × Int) : Kvs := putD acc (.inr z.1.1) (prD (z.1.2, z.2))
def mkV (Γ : List (Str × Int)) (r : List Int) : Kvs := (Γ.zip r).foldl addZ []
theorem addZ_out : ∀ (zs : List ((Str × Int) × Int)) (acc : Kvs) (s : Str), s ∉ zs.map (fun z => z.1.1) → valD (zs.foldl addZ acc) (.inr s) = valD acc (.inr s)
  | [], _, _, _ => rfl
  | z :: zs, acc, s, h => by
    rw [List.map_cons, List.mem_cons, not_or] at h
    rw [List.foldl_cons, addZ_out zs _ s h.2]
    unfold addZ
    rw [val_put, if_neg (fun e => h.1 (by injection e))]
theorem addZ_in : ∀ (zs : List ((Str × Int) × Int)) (acc : Kvs), (zs.map (fun z => z.1.1)).Nodup → ∀ z ∈ zs, valD (zs.foldl addZ acc) (.inr z.1.1) = some (prD (z.1.2, z.2))
  | z :: zs, acc, hn, y, hy => by
    rw [List.map_cons, List.nodup_cons] at hn
    rw [List.foldl_cons]
    rcases List.mem_cons.mp hy with hy | hy
    · subst hy
      rw [addZ_out zs _ _ hn.1]
      unfold addZ
      rw [val_put, if_pos rfl]
    · exact addZ_in zs _ hn.2 y hy
theorem addZ_len : ∀ (zs : List ((Str × Int) × Int)) (acc : Kvs), (zs.foldl addZ acc).length ≤ acc.length + zs.length
  | [], _ => Nat.le_refl _
  | z :: zs, acc => by
    rw [List.foldl_cons, List.length_cons]
    have h1 := addZ_len zs (addZ acc z)
    have h2 : (addZ acc z).length ≤ acc.length + 1 := put_len _ _ _
    omega
theorem zip_names : ∀ {Γ : List (Str × Int)} {r : List Int}, Γ.length = r.length → (Γ.zip r).map (fun z => z.1.1) = Γ.map (·.1)
  | [], [], _ => rfl
  | x :: Γ, v :: r, h => by
    rw [List.zip_cons_cons, List.map_cons, List.map_cons, zip_names (by simpa using h)]
theorem two_zip {P : Int → Int → Prop} : ∀ {Γ : List (Str × Int)} {r : List Int}, Two P (Γ.map (·.2)) r → ∀ x ∈ Γ, ∃ v, (x, v) ∈ Γ.zip r ∧ P x.2 v
  | x :: Γ, _, h, y, hy => by
    cases h with
    | cons h1 h2 =>
      rename_i v r
      rcases List.mem_cons.mp hy with hy | hy
      · subst hy
        exact ⟨v, by simp, h1⟩
      · obtain ⟨u, h3, h4⟩ := two_zip h2 y hy
        exact ⟨u, by simp [h3], h4⟩
def rho (kvs : Kvs) (s : Str) : Int × Int :=
  match valD kvs (.inr s) with
  | some (.tup [.int a, .int b]) => (a, b)
  | _ => (0, 0)
def rho0 (Γ : List (Str × Int)) (r : List Int) : Str → Int × Int := rho (mkV Γ r)
def rhoR (Γ : List (Str × Int)) (r : List Int) (w v : Int) : Str → Int × Int := fun s => if s = "result" then (w, v) else rho0 Γ r s
theorem mk_val {r : List Int} (hn : (Γ.map (·.1)).Nodup) (h : Two inW (Γ.map (·.2)) r) : ∀ x ∈ Γ, valD (mkV Γ r) (.inr x.1) = some (prD (rho0 Γ r x.1)) ∧ (rho0 Γ r x.1).1 = x.2 ∧ inW x.2 (rho0 Γ r x.1).2 := by
  intro x hx
  obtain ⟨v, h1, h2⟩ := two_zip h x hx
  have hl := h.length
  rw [List.length_map] at hl
  have h3 : valD (mkV Γ r) (.inr x.1) = some (prD (x.2, v)) := addZ_in (Γ.zip r) [] (by rw [zip_names hl]; exact hn) (x, v) h1
  have h4 : rho0 Γ r x.1 = (x.2, v) := by unfold rho0 rho; rw [h3]
  rw [h4]
  exact ⟨h3, rfl, h2⟩
theorem fit0 {r : List Int} (hn : (Γ.map (·.1)).Nodup) (h : Two inW (Γ.map (·.2)) r) : Fit Γ (rho0 Γ r) := fun x hx => by
  obtain ⟨_, h2, h3⟩ := mk_val hn h x hx
  exact ⟨h2, h3.1, h3.2⟩
theorem fitR {r : List Int} {w v : Int} (hn : (Γ.map (·.1)).Nodup) (hr : ∀ x ∈ Γ, x.1 ≠ "result") (h : Two inW (Γ.map (·.2)) r) (hv : inW w v) : Fit (Γ ++ [(("result" : Str), w)]) (rhoR Γ r w v) := fun x hx => by
  rcases List.mem_append.mp hx with hx | hx
  · unfold rhoR
    rw [if_neg (hr x hx)]
    exact fit0 hn h x hx
  · simp at hx
    subst hx
    exact ⟨rfl, hv.1, hv.2⟩
def Held (kvs : Kvs) (Γ : List (Str × Int)) (r : List Int) : Prop := ∀ x ∈ Γ, valD kvs (.inr x.1) = some (prD (rho0 Γ r x.1))
theorem Held.put {kvs : Kvs} {r : List Int} {d : D} (h : Held kvs Γ r) (hr : ∀ x ∈ Γ, x.1 ≠ "result") : Held (putD kvs (.inr "result") d) Γ r := fun x hx => by
  rw [val_put, if_neg (fun e => hr x hx (by injection e))]
  exact h x hx
theorem Held.nm {kvs : Kvs} {r : List Int} {w v : Int} (h : Held kvs Γ r) (hr : ∀ x ∈ Γ, x.1 ≠ "result") (hd : rdD st n (putD kvs (.inr "result") (prD (w, v)))) : NmIs st n (Γ ++ [(("result" : Str), w)]) (rhoR Γ r w v) := ⟨_, hd, fun x hx => by
  rcases List.mem_append.mp hx with hx | hx
  · unfold rhoR
    rw [if_neg (hr x hx)]
    exact h.put hr x hx
  · simp at hx
    subst hx
    rw [val_put, if_pos rfl]
    rfl⟩
def needsB (p : Pt) (r : List Int) : Bool := decide ((ev (rho0 p.ps r) p.nd).2 = 1)
def givenB (p : Pt) (r : List Int) (v : Int) : Bool := decide ((ev (rhoR p.ps r p.rw v) p.gv).2 = 1)
def upto (n : Nat) : List Int := (List.range n).map fun (k : Nat) => (k : Int)
def given (p : Pt) (r : List Int) : List Int := (upto (2 ^ p.rw.toNat)).filter (givenB p r)
theorem upto_succ (n : Nat) : upto (n + 1) = upto n ++ [(n : Int)] := by unfold upto; rw [List.range_succ, List.map_append]; rfl
theorem upto_len (n : Nat) : (upto n).length = n := by simp [upto]
variable {p : Pt} {r : List Int}
abbrev rowOk (p : Pt) (r : List Int) : Prop := Two inW (p.ps.map (·.2)) r
theorem asked_ok (hm : 1 ≤ m) (q : Q (.ref st.length) (st ++ [.dic (mkV p.ps r)])) (hl : p.ps.length ≤ 10) : callN prog m "asked_names" [ptD p, tpD r] st Q := by
  obtain ⟨m, rfl⟩ : ∃ n, m = n + 1 := ⟨m - 1, by omega⟩
  refine call_intro rfl rfl ?_
  unfold b_p_asked_names
  walk_at "t"
  rw [zipD_maps]
  refine dc_pure (fun z : (Str × Int) × Int => D.tup [d2 z.1, D.int z.2]) (fun z => .inr z.1.1) (fun z => prD (z.1.2, z.2)) (fun _ => trivial) (p.ps.zip r) [] rfl (by rw [List.length_nil, List.length_zip]; unfold szl; omega) (fun z hz acc N hN => ?_) q
  walk_at "t"
  refine ⟨rfl, ?_⟩
  walk_at "t"
  exact hN
theorem given_ok (hm : 10 ≤ m) (ok : PtOk p) (hr : rowOk p r) (q : ∀ st', Grw st st' → Q (tpD (given p r)) st') : callN prog m "given_words" [ptD p, tpD r] st Q := by
  obtain ⟨m, rfl⟩ : ∃ n, m = n + 1 := ⟨m - 1, by omega⟩
  refine call_intro rfl rfl ?_
  unfold b_p_given_words
  have hr0 := ok.r0
  have hr1 := ok.r1
  have hfew := ok.few
  obtain ⟨P, hP, hf1, hf2, hf3⟩ := full_rng (w := p.rw) (by omega) (by omega)
  walk_at "t"
  refine asked_ok (by omega) ?_ ok.few
  have k0 : (mkV p.ps r).length ≤ 10 := by
    have := addZ_len (p.ps.zip r) []
    rw [List.length_nil, List.length_zip] at this
    unfold mkV
    omega
  have held0 : Held (mkV p.ps r) p.ps r := fun x hx => (mk_val ok.names hr x hx).1
  walk_at "t"
  refine greatM (by omega) (by omega) (by omega) ?_
  walk_at "t"
  refine ⟨by omega, by omega, ?_⟩
  have e2 : (fullI p.rw + 1).toNat = P := by omega
  rw [e2]
  have gl : (st ++ [C.dic (mkV p.ps r)]).length = st.length + 1 := by simp
  rw [gl]
  refine for_rng (lo := 0) (fun k σ st' => ∃ kvs y, rdD st' st.length kvs ∧ Held kvs p.ps r ∧ kvs.length ≤ 10 + k ∧ rdL st' (st.length + 1) (((upto k).filter (givenB p r)).map D.int) ∧ Grw st st' ∧ σ = [some (ptD p), some (tpD r), some (.ref st.length), some (.ref (st.length + 1)), y])
    ⟨mkV p.ps r, _, rdD_app rdD_new, held0, by omega, by rw [← gl]; exact rdL_new, ((Grw.refl st).app).app, rfl⟩ (fun k σ st' hk ⟨kvs, y, h1, h2, h3, h4, h5, h6⟩ N hN => ?_) (fun σ st' ⟨kvs, y, h1, h2, h3, h4, h5, h6⟩ => ?_)
  · subst h6
    refine ⟨trivial, ?_⟩
    walk_at "t"
    refine ⟨kvs, .inr "result", h1, rfl, by unfold szl; omega, ?_⟩
    refine Nxt.mk ?_
    have hin : inW p.rw (0 + (k : Int)) := ⟨by omega, by omega⟩
    have d1 := rdD_set (kvs' := putD kvs (.inr "result") (prD (p.rw, 0 + (k : Int)))) h1
    have hnm := h2.nm ok.noR d1
    have l1 := rdL_ne (c := C.dic (putD kvs (.inr "result") (prD (p.rw, 0 + (k : Int))))) h4 (show st.length + 1 ≠ st.length by omega)
    have g1 := Grw.setN (c := C.dic (putD kvs (.inr "result") (prD (p.rw, 0 + (k : Int))))) h5 (Nat.le_refl _)
    have hput := put_len kvs (.inr "result") (prD (p.rw, 0 + (k : Int)))
    have held1 := h2.put (d := prD (p.rw, 0 + (k : Int))) ok.noR
    generalize st'.set st.length (.dic (putD kvs (.inr "result") (prD (p.rw, 0 + (k : Int))))) = st1 at d1 hnm l1 g1 ⊢
    walk_at "t"
    refine cw_ok 4 ok.dg ok.gv (fitR ok.names ok.noR hr hin) hnm (by omega) fun st2 g2 => ?_
    walk_at "t"
    have l2 := Grw.rdLN g2 l1
    have dd2 := Grw.rdD g2 d1
    have g12 := g1.trans g2
    have ek : (0 : Int) + (k : Int) = (k : Int) := by omega
    have es : (upto (k + 1)).filter (givenB p r) = (upto k).filter (givenB p r) ++ (if givenB p r (k : Int) = true then [(k : Int)] else []) := by
      rw [upto_succ, List.filter_append]
      congr 1
      by_cases hb : givenB p r (k : Int) = true <;> simp [hb]
    have hfl : ((upto k).filter (givenB p r)).length ≤ 256 := by
      have := List.length_filter_le (givenB p r) (upto k)
      rw [upto_len] at this
      omega
    rw [ek]
    refine way (fun e => ?_) (fun e => ?_)
    · have hb : givenB p r (k : Int) = true := e
      walk_at "t"
      refine ⟨ty_at l2, ?_⟩
      walk_at "t"
      refine append_at l2 (by rw [List.length_map]; unfold szl; omega) ?_
      refine hN _ _ ⟨_, _, rdD_ne dd2 (by omega), held1, by omega, ?_, Grw.setN g12 (by omega), rfl⟩
      rw [es, if_pos hb, List.map_append]
      exact rdL_set l2
    · have hb : ¬ givenB p r (k : Int) = true := by
        intro z
        have e' : givenB p r (k : Int) = false := e
        rw [e'] at z
        cases z
      walk_at "t"
      refine hN _ _ ⟨_, _, dd2, held1, by omega, ?_, g12, rfl⟩
      rw [es, if_neg hb, List.append_nil]
      exact l2
  · subst h6
    refine ⟨trivial, ?_⟩
    walk_at "t"
    refine tuple_at h4 ?_
    have := q _ h5
    unfold given at this
    rw [hP] at this
    exact this
theorem needs_ok (hm : 10 ≤ m) (ok : PtOk p) (hr : rowOk p r) (q : ∀ st', Grw st st' → Q (.bl (needsB p r)) st') : callN prog m "needs_hold" [ptD p, tpD r] st Q := by
  obtain ⟨m, rfl⟩ : ∃ n, m = n + 1 := ⟨m - 1, by omega⟩
  refine call_intro rfl rfl ?_
  unfold b_p_needs_hold
  walk_at "t"
  refine asked_ok (by omega) ?_ ok.few
  walk_at "t"
  have hnm : NmIs (st ++ [C.dic (mkV p.ps r)]) st.length p.ps (rho0 p.ps r) := ⟨_, rdD_new, fun x hx => (mk_val ok.names hr x hx).1⟩
  refine cw_ok 4 ok.dn ok.nd (fit0 ok.names hr) hnm (by omega) fun st2 g2 => ?_
  walk_at "t"
  exact q _ (((Grw.refl st).app).trans g2)
end Pk13
end PartPdk13P7

section PartPdk13P8
set_option Elab.async false
set_option linter.all false
set_option maxRecDepth 100000
set_option maxHeartbeats 2000000
/-! k13, eighth text: unmet and let_answers, the law's own. Own work. -/
namespace Pk13
open PySem Pd
local macro_rules | `(tactic| walk_at "s") => `(tactic| (repeat (refine Red.red ?_)))
local macro_rules | `(tactic| walk_at "r") => `(tactic| (repeat (first | refine Red.red ?_ | refine Nxt.mk ?_)))
local macro_rules | `(tactic| walk_at "t") => `(tactic| (repeat (first | refine Red.red ?_ | refine Nxt.mk ?_ | refine ⟨by decide +kernel, by decide +kernel, wayF (by decide +kernel) ?_⟩ | refine ⟨by decide +kernel, by decide +kernel, wayT (by decide +kernel) ?_⟩ | refine ⟨by decide +kernel, ?_⟩ | refine ⟨Nat.le_of_ble_eq_true rfl, ?_⟩ | refine at_is rfl ?_)))
local instance inTup8 {x : D} {xs : List D} {st : Store} {r : Bool → Prop} : Red (inC x (.tup xs) st r) (x.flat = true ∧ xs.all D.flat = true ∧ r (xs.any fun y => D.eqb y x)) := ⟨id⟩
variable {k m n : Nat} {st st' : Store} {Q : K} {Γ : List (Str × Int)} {ρ : Str → Int × Int}

variable {p : Pt} {r : List Int}
theorem eqbs_ints : ∀ a b : List Int, eqbs (a.map D.int) (b.map D.int) = decide (a = b)
  | [], [] => rfl
  | [], _ :: _ => rfl
  | _ :: _, [] => rfl
  | x :: a, y :: b => by
    rw [List.map_cons, List.map_cons, eqbs, eqbs_ints a b, D.eqb]
    by_cases h1 : x = y <;> by_cases h2 : a = b <;> simp [h1, h2]
theorem okd_tp (a : List Int) : D.okd 60 (tpD a) = true := by
  have : ∀ l : List Int, okds 59 (l.map D.int) = true := by
    intro l
    induction l with
    | nil => rfl
    | cons x l ih => rw [List.map_cons, okds, ih]; rfl
  exact this a
theorem eq_tp {a b : List Int} {R : Bool → Prop} (h : R (decide (a = b))) : eqC (tpD a) (tpD b) st R := ⟨okd_tp a, okd_tp b, by
  show R (eqbs (a.map D.int) (b.map D.int))
  rw [eqbs_ints]; exact h⟩
def condB (p : Pt) (r : List Int) : Bool := needsB p r && (given p r).isEmpty
def wds (p : Pt) : List Int := p.ps.map (·.2)
def unmetM (p : Pt) : Option (List Int) := (rowsL (wds p)).find? (condB p)
def optR : Option (List Int) → D
  | none => .non
  | some r => tpD r
theorem find_first {α : Type} {f : α → Bool} : ∀ {l : List α} {i : Nat} {x : α}, l[i]? = some x → f x = true → (∀ j y, j < i → l[j]? = some y → f y = false) → l.find? f = some x
  | [], _, _, h, _, _ => by simp at h
  | y :: l, 0, x, h, hx, _ => by
    simp at h
    subst h
    simp [hx]
  | y :: l, i + 1, x, h, hx, hn => by
    have h0 := hn 0 y (by omega) (by simp)
    rw [List.find?_cons, h0]
    exact find_first (i := i) (by simpa using h) hx fun j z hj hz => hn (j + 1) z (by omega) (by simpa using hz)
theorem find_none {α : Type} {f : α → Bool} {l : List α} (h : ∀ j y, j < l.length → l[j]? = some y → f y = false) : l.find? f = none := by
  rw [List.find?_eq_none]
  intro x hx
  obtain ⟨j, hj, e⟩ := List.mem_iff_getElem.mp hx
  have := h j x hj (by rw [List.getElem?_eq_getElem hj, e])
  simp [this]
theorem widths_ok (hm : 1 ≤ m) (ok : PtOk p) (q : ∀ st', Grw st st' → Q (.tup ((wds p).map D.int)) st') : callN prog m "widths_of" [ptD p] st Q := by
  obtain ⟨m, rfl⟩ : ∃ n, m = n + 1 := ⟨m - 1, by omega⟩
  refine call_intro rfl rfl ?_
  unfold b_p_widths_of
  have := ok.few
  walk_at "t"
  refine lc_map p.ps d2 (fun x => .int x.2) rfl (by unfold szl; omega) (fun _ => trivial) (fun x hx acc N hN => ?_) ?_
  · walk_at "t"
    refine ⟨rfl, ?_⟩
    walk_at "t"
    exact hN
  walk_at "t"
  refine tuple_at rdL_new ?_
  have e : (p.ps.map fun x => D.int x.2) = (wds p).map D.int := by unfold wds; rw [List.map_map]; rfl
  rw [e]
  exact q _ (Grw.refl st).app
theorem wds_ok (ok : PtOk p) : ∀ w ∈ wds p, 1 ≤ w ∧ w ≤ 6 := fun w hw => by
  obtain ⟨x, hx, rfl⟩ := List.mem_map.mp hw
  exact ok.wide x hx
theorem wds_len (ok : PtOk p) : (wds p).length ≤ 10 := by unfold wds; rw [List.length_map]; exact ok.few
theorem unmet_ok (hm : 15 ≤ m) (ok : PtOk p) (q : ∀ st', Grw st st' → Q (optR (unmetM p)) st') : callN prog m "unmet" [ptD p] st Q := by
  obtain ⟨m, rfl⟩ : ∃ n, m = n + 1 := ⟨m - 1, by omega⟩
  refine call_intro rfl rfl ?_
  unfold b_p_unmet
  walk_at "s"
  refine widths_ok (by omega) ok fun st1 g1 => ?_
  walk_at "s"
  refine rowsP_ok (by omega) (wds_ok ok) (wds_len ok) ok.rows fun nr st2 hn h2 g2 => ?_
  have g12 := g1.trans g2
  refine it_at h2 ?_
  refine for_map (rowsL (wds p)) tpD rfl (fun j σ st' => Grw st2 st' ∧ (∀ i y, i < j → (rowsL (wds p))[i]? = some y → condB p y = false) ∧ ∃ y, σ = [some (ptD p), y]) ⟨.refl _, fun i y h => by omega, _, rfl⟩ (fun j r σ st' hj ⟨g3, hno, y, e⟩ N hN => ?_) (fun σ st' ⟨g3, hno, y, e⟩ => ?_)
  · subst e
    refine ⟨.inl (Grw.rdLN g3 h2), ?_⟩
    have hr := rows_in (List.mem_of_getElem? hj)
    have none : ∀ (st4 : Store), Grw st2 st4 → condB p r = false → N [some (ptD p), some (tpD r)] st4 := fun st4 g4 hc => by
      refine hN _ _ ⟨g4, fun i z hi hz => ?_, _, rfl⟩
      by_cases e : i = j
      · subst e
        rw [hj] at hz
        cases hz
        exact hc
      · exact hno i z (by omega) hz
    walk_at "s"
    refine needs_ok (by omega) ok hr fun st3 g4 => ?_
    walk_at "s"
    refine way (fun e1 => ?_) (fun e1 => ?_)
    · walk_at "s"
      refine given_ok (by omega) ok hr fun st4 g5 => ?_
      walk_at "s"
      have g6 := (g3.trans g4).trans g5
      refine way (fun e2 => ?_) (fun e2 => ?_)
      · walk_at "s"
        have hc : condB p r = true := by
          unfold condB
          rw [e1]
          cases hg : given p r with
          | nil => rfl
          | cons a l => rw [hg] at e2; simp at e2
        have := q _ (g12.trans g6)
        unfold unmetM at this
        rw [find_first hj hc hno] at this
        exact this
      · walk_at "s"
        refine none _ g6 ?_
        unfold condB
        rw [e1]
        cases hg : given p r with
        | nil => rw [hg] at e2; simp at e2
        | cons a l => rfl
    · walk_at "s"
      refine none _ (g3.trans g4) ?_
      unfold condB
      rw [e1]
      rfl
  · subst e
    refine ⟨.inl (Grw.rdLN g3 h2), ?_⟩
    walk_at "r"
    have := q _ (g12.trans g3)
    unfold unmetM at this
    rw [find_none hno] at this
    exact this
/-! ### answers -/
abbrev Lg := List Int × Int
abbrev lgD (x : Lg) : D := .tup [tpD x.1, .int x.2]
def answers (p : Pt) (r : List Int) (log : List Lg) : List Int :=
  if p.sd = 1 then match log.find? fun x => decide (x.1 = r) with
    | some x => [x.2]
    | none => given p r
  else given p r
theorem letans_ok {log : List Lg} (hm : 12 ≤ m) (ok : PtOk p) (hr : rowOk p r) (q : ∀ st', Grw st st' → Q (tpD (answers p r log)) st') : callN prog m "let_answers" [ptD p, tpD r, .tup (log.map lgD)] st Q := by
  obtain ⟨m, rfl⟩ : ∃ n, m = n + 1 := ⟨m - 1, by omega⟩
  refine call_intro rfl rfl ?_
  unfold b_p_let_answers
  walk_at "t"
  refine way (fun e => ?_) (fun e => ?_)
  · have e : p.sd = 1 := by simpa using e
    have ea : answers p r log = match log.find? fun x => decide (x.1 = r) with | some x => [x.2] | none => given p r := by unfold answers; exact if_pos e
    walk_at "t"
    refine for_map log lgD rfl (fun j σ st' => st' = st ∧ (∀ i y, i < j → log[i]? = some y → decide (y.1 = r) = false) ∧ ∃ y z, σ = [some (ptD p), some (tpD r), some (.tup (log.map lgD)), y, z]) ⟨rfl, fun i y h => by omega, _, _, rfl⟩ (fun j x σ st' hj ⟨e1, hno, y, z, e2⟩ N hN => ?_) (fun σ st' ⟨e1, hno, y, z, e2⟩ => ?_)
    · subst e1 e2
      refine ⟨trivial, ?_⟩
      walk_at "t"
      refine ⟨rfl, ?_⟩
      walk_at "t"
      refine eq_tp ?_
      walk_at "t"
      refine way (fun e3 => ?_) (fun e3 => ?_)
      · walk_at "t"
        have := q _ (.refl _)
        rw [ea, find_first hj e3 hno] at this
        exact this
      · walk_at "t"
        refine hN _ _ ⟨rfl, fun i w hi hw => ?_, _, _, rfl⟩
        by_cases ei : i = j
        · subst ei
          rw [hj] at hw
          cases hw
          exact e3
        · exact hno i w (by omega) hw
    · subst e1 e2
      refine ⟨trivial, ?_⟩
      walk_at "t"
      refine given_ok (by omega) ok hr fun st1 g1 => ?_
      have := q _ g1
      rw [ea, find_none hno] at this
      exact this
  · have e : ¬ p.sd = 1 := by simpa using e
    walk_at "t"
    refine given_ok (by omega) ok hr fun st1 g1 => ?_
    have := q _ g1
    unfold answers at this
    rw [if_neg e] at this
    exact this
/-! ### the law's own -/
theorem extendLL_at {st : Store} {n m : Nat} {xs ys : List D} {Q : K} (h : rdL st n xs) (h' : rdL st m ys) (ne : n ≠ m) (hl : xs.length + ys.length ≤ szl) (q : Q .non (st.set n (.lst (xs ++ ys)))) : extendAM (.ref n) [.ref m] st Q := extend_at h h' ne hl q
theorem tuplesL_ok {wn : Nat} {ws : List Int} (hm : 2 ≤ m) (hwn : rdL st wn (ws.map D.int)) (hw : ∀ w ∈ ws, 1 ≤ w ∧ w ≤ 6) (h10 : ws.length ≤ 10) (hl : (rowsL ws).length ≤ 1000) (q : ∀ n st', st.length ≤ n → rdL st' n ((rowsL ws).map tpD) → Grw st st' → Q (.ref n) st') : callN prog m "_law_tuples" [.ref wn] st Q := by
  obtain ⟨m, rfl⟩ : ∃ n, m = n + 1 := ⟨m - 1, by omega⟩
  refine call_intro rfl rfl ?_
  unfold b_l_tuples
  walk_at "t"
  refine it_at (rdL_app hwn) ?_
  refine for_map ws D.int rfl (fun i σ st' => ∃ n y z v u, st.length ≤ n ∧ rdL st' n ((rowsL (ws.take i)).map tpD) ∧ Grw st st' ∧ σ = [some (.ref wn), some (.ref n), y, z, v, u]) ⟨st.length, _, _, _, _, Nat.le_refl _, rdL_new, (Grw.refl st).app, rfl⟩ (fun i w σ st' hi ⟨n, y, z, v, u, h1, h2, h3, h4⟩ N hN => ?_) (fun σ st' ⟨n, y, z, v, u, h1, h2, h3, h4⟩ => ?_)
  · subst h4
    refine ⟨.inl (Grw.rdLN h3 hwn), ?_⟩
    have hlt := (List.getElem?_eq_some_iff.mp hi).1
    have hww := hw w (List.mem_of_getElem? hi)
    have hstep : rowsL (ws.take (i + 1)) = (rowsL (ws.take i)).flatMap (ext1 w) := by
      unfold rowsL rowsFrom
      rw [List.take_add_one, hi, List.foldl_append]
      rfl
    have hle : (rowsL (ws.take (i + 1))).length ≤ 1000 := by
      have : rowsL ws = rowsFrom (rowsL (ws.take (i + 1))) (ws.drop (i + 1)) := by
        unfold rowsL rowsFrom
        rw [← List.foldl_append, List.take_append_drop]
      rw [this] at hl
      exact Nat.le_trans (rows_grow _ _) hl
    rw [hstep] at hle
    have hrow : ∀ r ∈ rowsL (ws.take i), r.length ≤ 10 := fun r hr => by
      have := (rows_in hr).length
      rw [List.length_take] at this
      omega
    generalize rowsL (ws.take i) = rows at h2 hstep hle hrow
    obtain ⟨P, hP, hf1, hf2, hf3⟩ := full_rng (w := w) (by omega) (by omega)
    walk_at "t"
    refine it_at (rdL_app h2) ?_
    have hn := rdL_lt h2
    have hst := h3.le
    have gap : Grw st (st' ++ [C.lst []]) := h3.app
    obtain ⟨nl, hnl⟩ : ∃ nl, st'.length = nl := ⟨_, rfl⟩
    have hnew := rdL_new (st := st') (xs := [])
    have h2' := rdL_app (c := C.lst []) h2
    rw [hnl] at hnew ⊢
    generalize st' ++ [C.lst []] = st1 at gap hnew h2' ⊢
    refine for_map rows tpD rfl (fun j σ st2 => ∃ y v, rdL st2 nl (((rows.take j).flatMap (ext1 w)).map tpD) ∧ rdL st2 n (rows.map tpD) ∧ Grw st st2 ∧ nl < st2.length ∧ σ = [some (.ref wn), some (.ref n), some (.int w), some (.ref nl), y, v]) ⟨_, _, hnew, h2', gap, rdL_lt hnew, rfl⟩ (fun j r σ st2 hj ⟨y, v, k1, k2, k3, k4, k5⟩ N2 hN2 => ?_) (fun σ st2 ⟨y, v, k1, k2, k3, k4, k5⟩ => ?_)
    · subst k5
      refine ⟨.inl k2, ?_⟩
      have hjl := (List.getElem?_eq_some_iff.mp hj).1
      have hs2 : (rows.take (j + 1)).flatMap (ext1 w) = (rows.take j).flatMap (ext1 w) ++ ext1 w r := by
        rw [List.take_add_one, hj, List.flatMap_append]
        simp
      have hle2 : ((rows.take (j + 1)).flatMap (ext1 w)).length ≤ 1000 := by
        rw [flat_len] at hle ⊢
        refine Nat.le_trans (Nat.mul_le_mul_right _ ?_) hle
        rw [List.length_take]
        omega
      have hrl := hrow r (List.mem_of_getElem? hj)
      walk_at "t"
      refine ⟨ty_at k1, ?_⟩
      walk_at "t"
      refine ⟨cpow_small (by omega) (by omega), ?_⟩
      walk_at "t"
      have e2 : (1 * 2 ^ w.toNat : Int) = (P : Int) := by rw [Int.one_mul, ← hP]; simp
      rw [e2]
      refine ⟨by omega, by omega, ?_⟩
      have e3 : ((P : Int)).toNat = P := by omega
      rw [e3]
      refine lc_map (List.range P) (fun (k : Nat) => D.int (0 + k)) (fun (k : Nat) => tpD (r ++ [(k : Int)])) rfl (by rw [List.length_range]; unfold szl; omega) (fun _ => trivial) (fun k hk acc N hN => ?_) ?_
      · walk_at "t"
        have e4 : List.map D.int r ++ [D.int (0 + (k : Int))] = (r ++ [(k : Int)]).map D.int := by simp
        rw [e4]
        refine ⟨by rw [List.length_map, List.length_cons, List.length_nil]; unfold szl; omega, ?_⟩
        exact hN
      have e5 : ((List.range P).map fun (k : Nat) => tpD (r ++ [(k : Int)])) = (ext1 w r).map tpD := by unfold ext1; rw [List.map_map, hP]; rfl
      rw [e5]
      walk_at "t"
      have lens : (((rows.take j).flatMap (ext1 w)).map tpD).length + ((ext1 w r).map tpD).length ≤ szl := by
        rw [hs2, List.length_append] at hle2
        rw [List.length_map, List.length_map]
        unfold szl
        omega
      refine extendLL_at (rdL_app k1) rdL_new (by omega) lens ?_
      walk_at "t"
      refine hN2 _ _ ⟨_, _, ?_, rdL_ne (rdL_app k2) (by omega), Grw.setN k3.app (by omega), by simp; omega, rfl⟩
      rw [hs2, List.map_append]
      exact rdL_set (rdL_app k1)
    · subst k5
      refine ⟨.inl k2, ?_⟩
      rw [List.take_length, ← hstep] at k1
      walk_at "t"
      exact hN _ _ ⟨nl, _, _, _, _, by omega, k1, k3, rfl⟩
  · subst h4
    refine ⟨.inl (Grw.rdLN h3 hwn), ?_⟩
    rw [List.take_length] at h2
    walk_at "t"
    exact q _ _ h1 h2 h3
theorem givenL_ok (hm : 10 ≤ m) (ok : PtOk p) (hr : rowOk p r) (q : ∀ n st', rdL st' n ((given p r).map D.int) → Grw st st' → Q (.ref n) st') : callN prog m "_law_given" [ptD p, tpD r] st Q := by
  obtain ⟨m, rfl⟩ : ∃ n, m = n + 1 := ⟨m - 1, by omega⟩
  refine call_intro rfl rfl ?_
  unfold b_l_given
  have hr0 := ok.r0
  have hr1 := ok.r1
  have hfew := ok.few
  obtain ⟨P, hP, hf1, hf2, hf3⟩ := full_rng (w := p.rw) (by omega) (by omega)
  have k0 : (mkV p.ps r).length ≤ 10 := by
    have := addZ_len (p.ps.zip r) []
    rw [List.length_nil, List.length_zip] at this
    unfold mkV
    omega
  have held0 : Held (mkV p.ps r) p.ps r := fun x hx => (mk_val ok.names hr x hx).1
  walk_at "s"
  refine Nxt.mk ?_
  walk_at "s"
  refine at_is rfl ?_
  walk_at "s"
  rw [zipD_maps]
  refine for_map (p.ps.zip r) (fun z : (Str × Int) × Int => D.tup [d2 z.1, D.int z.2]) rfl (fun j σ st' => ∃ y z, st' = st ++ [.dic (((p.ps.zip r).take j).foldl addZ [])] ∧ σ = [some (ptD p), some (tpD r), some (.ref st.length), y, z, none]) ⟨_, _, rfl, rfl⟩ (fun j x σ st' hj ⟨y, z, e1, e2⟩ N hN => ?_) (fun σ st' ⟨y, z, e1, e2⟩ => ?_)
  · subst e1 e2
    refine ⟨trivial, ?_⟩
    walk_at "t"
    refine ⟨rfl, ?_⟩
    walk_at "t"
    have hz := addZ_len ((p.ps.zip r).take j) []
    rw [List.length_nil, List.length_take, List.length_zip] at hz
    refine ⟨_, .inr x.1.1, rdD_new, rfl, by unfold szl; omega, ?_⟩
    have e3 : (st ++ [C.dic (((p.ps.zip r).take j).foldl addZ [])]).set st.length (.dic (putD (((p.ps.zip r).take j).foldl addZ []) (.inr x.1.1) (prD (x.1.2, x.2)))) = st ++ [C.dic (((p.ps.zip r).take (j + 1)).foldl addZ [])] := by
      rw [set_app, List.take_add_one, hj, List.foldl_append]
      rfl
    rw [e3]
    exact hN _ _ ⟨_, _, rfl, rfl⟩
  subst e1 e2
  refine ⟨trivial, ?_⟩
  rw [List.take_length]
  show Nxt _
  walk_at "t"
  refine ⟨cpow_small (by omega) (by omega), ?_⟩
  walk_at "t"
  have e9 : (1 * 2 ^ p.rw.toNat : Int) = (P : Int) := by rw [Int.one_mul, ← hP]; simp
  rw [e9]
  refine ⟨by omega, by omega, ?_⟩
  have e2 : ((P : Int)).toNat = P := by omega
  rw [e2]
  have gl : (st ++ [C.dic (mkV p.ps r)]).length = st.length + 1 := by simp
  have gl' : (st ++ [C.dic (List.foldl addZ [] (p.ps.zip r))]).length = st.length + 1 := by simp
  rw [gl']
  refine for_rng (lo := 0) (fun k σ st' => ∃ kvs y z, rdD st' st.length kvs ∧ Held kvs p.ps r ∧ kvs.length ≤ 10 + k ∧ rdL st' (st.length + 1) (((upto k).filter (givenB p r)).map D.int) ∧ Grw st st' ∧ σ = [some (ptD p), some (tpD r), some (.ref st.length), y, z, some (.ref (st.length + 1))])
    ⟨mkV p.ps r, _, _, rdD_app rdD_new, held0, by omega, by rw [← gl]; exact rdL_new, ((Grw.refl st).app).app, rfl⟩ (fun k σ st' hk ⟨kvs, y, z, h1, h2, h3, h4, h5, h6⟩ N hN => ?_) (fun σ st' ⟨kvs, y, z, h1, h2, h3, h4, h5, h6⟩ => ?_)
  · subst h6
    refine ⟨trivial, ?_⟩
    walk_at "t"
    refine ⟨kvs, .inr "result", h1, rfl, by unfold szl; omega, ?_⟩
    refine Nxt.mk ?_
    have hin : inW p.rw (0 + (k : Int)) := ⟨by omega, by omega⟩
    have d1 := rdD_set (kvs' := putD kvs (.inr "result") (prD (p.rw, 0 + (k : Int)))) h1
    have hnm := h2.nm ok.noR d1
    have l1 := rdL_ne (c := C.dic (putD kvs (.inr "result") (prD (p.rw, 0 + (k : Int))))) h4 (show st.length + 1 ≠ st.length by omega)
    have g1 := Grw.setN (c := C.dic (putD kvs (.inr "result") (prD (p.rw, 0 + (k : Int))))) h5 (Nat.le_refl _)
    have hput := put_len kvs (.inr "result") (prD (p.rw, 0 + (k : Int)))
    have held1 := h2.put (d := prD (p.rw, 0 + (k : Int))) ok.noR
    generalize st'.set st.length (.dic (putD kvs (.inr "result") (prD (p.rw, 0 + (k : Int))))) = st1 at d1 hnm l1 g1 ⊢
    walk_at "t"
    refine wo_ok 4 ok.dg ok.gv (fitR ok.names ok.noR hr hin) hnm (by omega) fun st2 g2 => ?_
    walk_at "t"
    have l2 := Grw.rdLN g2 l1
    have dd2 := Grw.rdD g2 d1
    have g12 := g1.trans g2
    have ek : (0 : Int) + (k : Int) = (k : Int) := by omega
    have es : (upto (k + 1)).filter (givenB p r) = (upto k).filter (givenB p r) ++ (if givenB p r (k : Int) = true then [(k : Int)] else []) := by
      rw [upto_succ, List.filter_append]
      congr 1
      by_cases hb : givenB p r (k : Int) = true <;> simp [hb]
    have hfl : ((upto k).filter (givenB p r)).length ≤ 256 := by
      have := List.length_filter_le (givenB p r) (upto k)
      rw [upto_len] at this
      omega
    rw [ek]
    refine way (fun e => ?_) (fun e => ?_)
    · have hb : givenB p r (k : Int) = true := e
      walk_at "t"
      refine ⟨ty_at l2, ?_⟩
      walk_at "t"
      refine append_at l2 (by rw [List.length_map]; unfold szl; omega) ?_
      refine hN _ _ ⟨_, _, _, rdD_ne dd2 (by omega), held1, by omega, ?_, Grw.setN g12 (by omega), rfl⟩
      rw [es, if_pos hb, List.map_append]
      exact rdL_set l2
    · have hb : ¬ givenB p r (k : Int) = true := by
        intro z
        have e' : givenB p r (k : Int) = false := e
        rw [e'] at z
        cases z
      walk_at "t"
      refine hN _ _ ⟨_, _, _, dd2, held1, by omega, ?_, g12, rfl⟩
      rw [es, if_neg hb, List.append_nil]
      exact l2
  · subst h6
    refine ⟨trivial, ?_⟩
    walk_at "t"
    unfold given at q
    rw [hP] at q
    exact q _ _ h4 h5
end Pk13
end PartPdk13P8

section PartPdk13P9
set_option Elab.async false
set_option linter.all false
set_option maxRecDepth 100000
set_option maxHeartbeats 2000000
/-! k13, ninth text: the law. Own work. -/
namespace Pk13
open PySem Pd
local macro_rules | `(tactic| walk_at "s") => `(tactic| (repeat (refine Red.red ?_)))
local macro_rules | `(tactic| walk_at "r") => `(tactic| (repeat (first | refine Red.red ?_ | refine Nxt.mk ?_)))
local macro_rules | `(tactic| walk_at "t") => `(tactic| (repeat (first | refine Red.red ?_ | refine Nxt.mk ?_ | refine ⟨by decide +kernel, by decide +kernel, wayF (by decide +kernel) ?_⟩ | refine ⟨by decide +kernel, by decide +kernel, wayT (by decide +kernel) ?_⟩ | refine ⟨by decide +kernel, ?_⟩ | refine ⟨Nat.le_of_ble_eq_true rfl, ?_⟩ | refine at_is rfl ?_)))
local instance inTup9 {x : D} {xs : List D} {st : Store} {r : Bool → Prop} : Red (inC x (.tup xs) st r) (x.flat = true ∧ xs.all D.flat = true ∧ r (xs.any fun y => D.eqb y x)) := ⟨id⟩
variable {k m n : Nat} {st st' : Store} {Q : K} {Γ : List (Str × Int)} {ρ : Str → Int × Int} {p : Pt}

variable {p : Pt} {r : List Int}
def held (p : Pt) : List (List Int) := (rowsL (wds p)).filter (needsB p)
theorem held_row {r : List Int} (h : r ∈ held p) : rowOk p r := rows_in (List.mem_filter.mp h).1
theorem needed_ok (hm : 12 ≤ m) (ok : PtOk p) (q : ∀ n st', st.length ≤ n → rdL st' n ((held p).map tpD) → Grw st st' → Q (.ref n) st') : callN prog m "_law_needed_words" [ptD p] st Q := by
  obtain ⟨m, rfl⟩ : ∃ n, m = n + 1 := ⟨m - 1, by omega⟩
  refine call_intro rfl rfl ?_
  unfold b_l_needed_words
  have hfew := ok.few
  have hrows := ok.rows
  walk_at "t"
  have gl : (st ++ [C.lst []]).length = st.length + 1 := by simp
  refine lc_map p.ps d2 (fun x => .int x.2) rfl (by unfold szl; omega) (fun _ => trivial) (fun x hx acc N hN => ?_) ?_
  · walk_at "t"
    exact hN
  have e : (p.ps.map fun x => D.int x.2) = (wds p).map D.int := by unfold wds; rw [List.map_map]; rfl
  rw [e]
  walk_at "t"
  refine tuplesL_ok (by omega) rdL_new (wds_ok ok) (wds_len ok) hrows fun nr st2 hn h2 g2 => ?_
  have hnr : st.length + 2 ≤ nr := by simpa using hn
  have g02 : Grw st st2 := ((Grw.refl st).app.app).trans g2
  have f2 : rdL st2 st.length [] := Grw.rdLN g2 (rdL_app rdL_new)
  refine it_at h2 ?_
  refine for_map (rowsL (wds p)) tpD rfl (fun j σ st' => ∃ y z u v, rdL st' st.length ((((rowsL (wds p)).take j).filter (needsB p)).map tpD) ∧ rdL st' nr ((rowsL (wds p)).map tpD) ∧ Grw st st' ∧ σ = [some (ptD p), some (.ref st.length), y, z, u, v]) ⟨_, _, _, _, f2, h2, g02, rfl⟩ (fun j r σ st' hj ⟨y, z, u, v, h3, h4, h5, h6⟩ N hN => ?_) (fun σ st' ⟨y, z, u, v, h3, h4, h5, h6⟩ => ?_)
  · subst h6
    refine ⟨.inl h4, ?_⟩
    have hjl := (List.getElem?_eq_some_iff.mp hj).1
    have hr : rowOk p r := rows_in (List.mem_of_getElem? hj)
    have l3 := rdL_lt h3
    have l4 := rdL_lt h4
    walk_at "s"
    refine Nxt.mk ?_
    walk_at "s"
    refine at_is rfl ?_
    walk_at "s"
    rw [zipD_maps]
    refine for_map (p.ps.zip r) (fun z : (Str × Int) × Int => D.tup [d2 z.1, D.int z.2]) rfl (fun i σ st2 => ∃ y z, st2 = st' ++ [.dic (((p.ps.zip r).take i).foldl addZ [])] ∧ σ = [some (ptD p), some (.ref st.length), some (tpD r), some (.ref st'.length), y, z]) ⟨_, _, rfl, rfl⟩ (fun i x σ st2 hi ⟨y, z, e1, e2⟩ N hN => ?_) (fun σ st2 ⟨y, z, e1, e2⟩ => ?_)
    · subst e1 e2
      refine ⟨trivial, ?_⟩
      walk_at "t"
      refine ⟨rfl, ?_⟩
      walk_at "t"
      have hz := addZ_len ((p.ps.zip r).take i) []
      rw [List.length_nil, List.length_take, List.length_zip] at hz
      refine ⟨_, .inr x.1.1, rdD_new, rfl, by unfold szl; omega, ?_⟩
      have e3 : (st' ++ [C.dic (((p.ps.zip r).take i).foldl addZ [])]).set st'.length (.dic (putD (((p.ps.zip r).take i).foldl addZ []) (.inr x.1.1) (prD (x.1.2, x.2)))) = st' ++ [C.dic (((p.ps.zip r).take (i + 1)).foldl addZ [])] := by
        rw [set_app, List.take_add_one, hi, List.foldl_append]
        rfl
      rw [e3]
      exact hN _ _ ⟨_, _, rfl, rfl⟩
    subst e1 e2
    refine ⟨trivial, ?_⟩
    rw [List.take_length]
    show Nxt _
    walk_at "t"
    have hnm : NmIs (st' ++ [C.dic (mkV p.ps r)]) st'.length p.ps (rho0 p.ps r) := ⟨_, rdD_new, fun x hx => (mk_val ok.names hr x hx).1⟩
    refine wo_ok 4 ok.dn ok.nd (fit0 ok.names hr) hnm (by omega) fun st2 g3 => ?_
    walk_at "t"
    have g4 := (h5.app (c := C.dic (mkV p.ps r))).trans g3
    have h3' := Grw.rdLN g3 (rdL_app (c := C.dic (mkV p.ps r)) h3)
    have h4' := Grw.rdLN g3 (rdL_app (c := C.dic (mkV p.ps r)) h4)
    have es : ((rowsL (wds p)).take (j + 1)).filter (needsB p) = ((rowsL (wds p)).take j).filter (needsB p) ++ (if needsB p r = true then [r] else []) := by
      rw [List.take_add_one, hj, List.filter_append]
      congr 1
      by_cases hb : needsB p r = true <;> simp [hb]
    have hfl : (((rowsL (wds p)).take j).filter (needsB p)).length ≤ 1000 := by
      have h1 := List.length_filter_le (needsB p) ((rowsL (wds p)).take j)
      rw [List.length_take] at h1
      have h2 : (rowsL (wds p)).length ≤ 1000 := hrows
      omega
    refine way (fun e => ?_) (fun e => ?_)
    · have hb : needsB p r = true := e
      walk_at "t"
      refine ⟨ty_at h3', ?_⟩
      walk_at "t"
      refine append_at h3' (by rw [List.length_map]; unfold szl; omega) ?_
      refine hN _ _ ⟨_, _, _, _, ?_, rdL_ne h4' (by omega), Grw.setN g4 (Nat.le_refl _), rfl⟩
      rw [es, if_pos hb, List.map_append]
      exact rdL_set h3'
    · have hb : ¬ needsB p r = true := by
        intro z
        have e' : needsB p r = false := e
        rw [e'] at z
        cases z
      walk_at "t"
      refine hN _ _ ⟨_, _, _, _, ?_, h4', g4, rfl⟩
      rw [es, if_neg hb, List.append_nil]
      exact h3'
  · subst h6
    refine ⟨.inl h4, ?_⟩
    rw [List.take_length] at h3
    walk_at "t"
    exact q _ _ (Nat.le_refl _) h3 h5
theorem find_held : (held p).find? (fun r => (given p r).isEmpty) = unmetM p := by
  unfold held unmetM
  rw [List.find?_filter]
  congr 1
  funext a
  unfold condB
  cases needsB p a <;> cases (given p a).isEmpty <;> rfl
theorem unmetL_ok (hm : 14 ≤ m) (ok : PtOk p) (q : ∀ st', Grw st st' → Q (optR (unmetM p)) st') : callN prog m "_law_unmet_words" [ptD p] st Q := by
  obtain ⟨m, rfl⟩ : ∃ n, m = n + 1 := ⟨m - 1, by omega⟩
  refine call_intro rfl rfl ?_
  unfold b_l_unmet_words
  walk_at "s"
  refine needed_ok (by omega) ok fun nr st2 hn h2 g2 => ?_
  refine it_at h2 ?_
  refine for_map (held p) tpD rfl (fun j σ st' => Grw st2 st' ∧ (∀ i y, i < j → (held p)[i]? = some y → (given p y).isEmpty = false) ∧ ∃ y, σ = [some (ptD p), y]) ⟨.refl _, fun i y h => by omega, _, rfl⟩ (fun j r σ st' hj ⟨g3, hno, y, e⟩ N hN => ?_) (fun σ st' ⟨g3, hno, y, e⟩ => ?_)
  · subst e
    refine ⟨.inl (Grw.rdLN g3 h2), ?_⟩
    walk_at "s"
    refine givenL_ok (by omega) ok (held_row (List.mem_of_getElem? hj)) fun ng st4 h4 g4 => ?_
    refine tru_at h4 ?_
    have g34 := g3.trans g4
    walk_at "s"
    refine way (fun e => ?_) (fun e => ?_)
    · walk_at "s"
      have hc : (given p r).isEmpty = true := by
        cases hg : given p r with
        | nil => rfl
        | cons a l => rw [hg] at e; simp at e
      have := q _ (g2.trans g34)
      rw [← find_held, find_first hj hc hno] at this
      exact this
    · walk_at "s"
      have hc : (given p r).isEmpty = false := by
        cases hg : given p r with
        | nil => rw [hg] at e; simp at e
        | cons a l => rfl
      refine hN _ _ ⟨g34, fun i w hi hw => ?_, _, rfl⟩
      by_cases ei : i = j
      · subst ei
        rw [hj] at hw
        cases hw
        exact hc
      · exact hno i w (by omega) hw
  · subst e
    refine ⟨.inl (Grw.rdLN g3 h2), ?_⟩
    walk_at "r"
    have := q _ (g2.trans g3)
    rw [← find_held, find_none hno] at this
    exact this
theorem own_ok {r : List Int} {log : List Lg} {ln : Nat} (hm : 12 ≤ m) (ok : PtOk p) (hr : rowOk p r) (hlg : rdL st ln (log.map lgD)) (q : ∀ st', Grw st st' → Q (tpD (answers p r log)) st') : callN prog m "_law_own_answers" [ptD p, tpD r, .ref ln] st Q := by
  obtain ⟨m, rfl⟩ : ∃ n, m = n + 1 := ⟨m - 1, by omega⟩
  refine call_intro rfl rfl ?_
  unfold b_l_own_answers
  walk_at "t"
  refine way (fun e => ?_) (fun e => ?_)
  · have e : p.sd = 1 := by simpa using e
    have ea : answers p r log = match log.find? fun x => decide (x.1 = r) with | some x => [x.2] | none => given p r := by
      unfold answers
      exact if_pos e
    walk_at "t"
    refine it_at hlg ?_
    refine for_map log lgD rfl (fun j σ st' => st' = st ∧ (∀ i y, i < j → log[i]? = some y → decide (y.1 = r) = false) ∧ ∃ y, σ = [some (ptD p), some (tpD r), some (.ref ln), y]) ⟨rfl, fun i y h => by omega, _, rfl⟩ (fun j x σ st' hj ⟨e1, hno, y, e2⟩ N hN => ?_) (fun σ st' ⟨e1, hno, y, e2⟩ => ?_)
    · subst e1 e2
      refine ⟨.inl hlg, ?_⟩
      walk_at "t"
      refine eq_tp ?_
      walk_at "t"
      refine way (fun e3 => ?_) (fun e3 => ?_)
      · walk_at "t"
        have := q _ (.refl _)
        rw [ea, find_first hj e3 hno] at this
        exact this
      · walk_at "t"
        refine hN _ _ ⟨rfl, fun i w hi hw => ?_, _, rfl⟩
        by_cases ei : i = j
        · subst ei
          rw [hj] at hw
          cases hw
          exact e3
        · exact hno i w (by omega) hw
    · subst e1 e2
      refine ⟨.inl hlg, ?_⟩
      walk_at "t"
      refine givenL_ok (by omega) ok hr fun ng st1 h1 g1 => ?_
      walk_at "t"
      refine tuple_at h1 ?_
      have := q _ g1
      rw [ea, find_none hno] at this
      exact this
  · have e : ¬ p.sd = 1 := by simpa using e
    walk_at "t"
    refine givenL_ok (by omega) ok hr fun ng st1 h1 g1 => ?_
    walk_at "t"
    refine tuple_at h1 ?_
    have := q _ g1
    unfold answers at this
    rw [if_neg e] at this
    exact this
theorem plain_ok {a : List Int} (hm : 1 ≤ m) (ha : a.length ≤ 1000) (q : ∀ st', Grw st st' → Q (.bl true) st') : callN prog m "_law_plain" [tpD a, tpD a] st Q := by
  obtain ⟨m, rfl⟩ : ∃ n, m = n + 1 := ⟨m - 1, by omega⟩
  refine call_intro rfl rfl ?_
  unfold b_l_plain
  walk_at "t"
  refine wayF rfl ?_
  walk_at "t"
  refine lc_map a D.int (fun _ => .bl false) rfl (by unfold szl; omega) (fun _ => trivial) (fun x hx acc N hN => ?_) ?_
  · walk_at "t"
    exact hN
  walk_at "t"
  have e : (a.map fun _ => D.bl false).any D.tru = false := by
    rw [List.any_map]
    induction a with
    | nil => rfl
    | cons x a ih => rw [List.any_cons, ih (by rw [List.length_cons] at ha; omega)]; rfl
  refine ⟨a.map fun _ => D.bl false, .inl rdL_new, List.all_eq_true.mpr fun d hd => ?_, ?_⟩
  · obtain ⟨_, _, rfl⟩ := List.mem_map.mp hd
    rfl
  rw [e]
  walk_at "t"
  refine eq_tp ?_
  have := q _ ((Grw.refl st).app (c := C.lst (a.map fun _ => D.bl false)))
  simpa using this
/-! ### the drawn external -/
structure GamOk (Γ : List (Str × Int)) : Prop where
  names : (Γ.map (·.1)).Nodup
  noR : ∀ x ∈ Γ, x.1 ≠ "result"
  wide : ∀ x ∈ Γ, 1 ≤ x.2 ∧ x.2 ≤ 6
  oks : ∀ x ∈ Γ, okS x.1 = true
  few : Γ.length ≤ 9
  rows : (rowsL (Γ.map (·.2))).length ≤ 1000
def Lbs (salt : Int) (Γ : List (Str × Int)) : Prop := ∀ (i : Nat) x, Γ[i]? = some x → Lab x.1 (salt % 4).toNat (ltr ((salt / 4 + 17 * i) % 26)) ∧ 1 ≤ x.2 ∧ x.2 ≤ 2
theorem rows_le : ∀ (ws : List Int) (acc : List (List Int)), (∀ w ∈ ws, w ≤ 2) → (rowsFrom acc ws).length ≤ acc.length * 4 ^ ws.length
  | [], acc, _ => by simp [rowsFrom]
  | w :: ws, acc, h => by
    have h1 := rows_le ws (acc.flatMap (ext1 w)) fun v hv => h v (List.mem_cons_of_mem _ hv)
    rw [flat_len] at h1
    have hw := h w List.mem_cons_self
    have h2 := Nat.pow_le_pow_right (n := 2) (by decide) (show w.toNat ≤ 2 by omega)
    refine Nat.le_trans h1 ?_
    rw [List.length_cons, Nat.pow_succ, Nat.mul_assoc, Nat.mul_comm (2 ^ w.toNat)]
    refine Nat.mul_le_mul_left _ ?_
    exact Nat.mul_le_mul_left _ h2
theorem Lbs.gam {salt : Int} (h : Lbs salt Γ) (hl : Γ.length ≤ 3) (s0 : 0 ≤ salt) : GamOk Γ := by
  have hm : ∀ x ∈ Γ, ∃ i : Nat, Γ[i]? = some x := fun x hx => by
    obtain ⟨j, hj, e⟩ := List.mem_iff_getElem.mp hx
    exact ⟨j, by rw [List.getElem?_eq_getElem hj, e]⟩
  have hat : ∀ x ∈ Γ, x.1 ≠ "result" ∧ okS x.1 = true ∧ 1 ≤ x.2 ∧ x.2 ≤ 2 := fun x hx => by
    obtain ⟨i, hi⟩ := hm x hx
    obtain ⟨h1, h2, h3⟩ := h i x hi
    exact ⟨h1.ne, h1.ok, h2, h3⟩
  refine ⟨?_, fun x hx => (hat x hx).1, fun x hx => by have := hat x hx; omega, fun x hx => (hat x hx).2.1, by omega, ?_⟩
  · rw [List.nodup_iff_pairwise_ne, List.pairwise_iff_getElem]
    intro i j hi hj hij e
    rw [List.length_map] at hi hj
    rw [List.getElem_map, List.getElem_map] at e
    obtain ⟨h1, _⟩ := h i Γ[i] (List.getElem?_eq_getElem hi)
    obtain ⟨h2, _⟩ := h j Γ[j] (List.getElem?_eq_getElem hj)
    have h3 := h1.at'
    rw [e, h2.at'] at h3
    have h4 := Option.some.inj h3
    have h5 := ltr_inj _ _ (by have := Int.emod_lt_of_pos (salt / 4 + 17 * j) (show (0 : Int) < 26 by decide); have := Int.emod_nonneg (salt / 4 + 17 * j) (show (26 : Int) ≠ 0 by decide); omega) (by have := Int.emod_lt_of_pos (salt / 4 + 17 * i) (show (0 : Int) < 26 by decide); have := Int.emod_nonneg (salt / 4 + 17 * i) (show (26 : Int) ≠ 0 by decide); omega) h4
    have hi3 : i = 0 ∧ j = 1 ∨ i = 0 ∧ j = 2 ∨ i = 1 ∧ j = 2 := by omega
    rcases hi3 with ⟨a, b⟩ | ⟨a, b⟩ | ⟨a, b⟩ <;> subst a b <;> omega
  · have h1 := rows_le (Γ.map (·.2)) [[]] fun w hw => by
      obtain ⟨x, hx, rfl⟩ := List.mem_map.mp hw
      exact (hat x hx).2.2.2
    rw [List.length_map] at h1
    have h2 := Nat.pow_le_pow_right (n := 4) (by decide) hl
    have h3 : (rowsL (Γ.map (·.2))).length ≤ 1 * 4 ^ Γ.length := h1
    have : (4 : Nat) ^ 3 = 64 := by decide
    omega
theorem gam_one {s : Str} {w : Int} {i c : Nat} (h : Lab s i c) (w0 : 1 ≤ w) (w1 : w ≤ 6) : GamOk [(s, w)] := by
  refine ⟨by simp, fun x hx => ?_, fun x hx => ?_, fun x hx => ?_, by simp, ?_⟩
  · simp at hx; subst hx; exact h.ne
  · simp at hx; subst hx; exact ⟨w0, w1⟩
  · simp at hx; subst hx; exact h.ok
  · have e : rowsL [w] = [[]].flatMap (ext1 w) := rfl
    show (rowsL [w]).length ≤ 1000
    rw [e, flat_len]
    have h2 := Nat.pow_le_pow_right (n := 2) (by decide) (show w.toNat ≤ 6 by omega)
    have : (2 : Nat) ^ 6 = 64 := by decide
    simp
    omega
theorem GamOk.g (h : GamOk Γ) : GOk Γ := ⟨fun x hx => ⟨h.oks x hx, h.wide x hx⟩, by have := h.few; omega⟩
theorem GamOk.gR (h : GamOk Γ) {w : Int} (w0 : 1 ≤ w) (w1 : w ≤ 3) : GOk (Γ ++ [(("result" : Str), w)]) := ⟨fun x hx => by
  rcases List.mem_append.mp hx with hx | hx
  · exact ⟨h.oks x hx, h.wide x hx⟩
  · simp at hx
    subst hx
    exact ⟨show okS ("result" : Str) = true by decide +kernel, w0, by omega⟩, by have := h.few; simp; omega⟩
theorem Ty.weak {Δ : List (Str × Int)} {e : Ex} {w : Int} (h : Ty Γ e w) : Ty (Γ ++ Δ) e w := by
  induction h with
  | word a b c d => exact .word a b c d
  | name a b c => exact .name (List.mem_append_left _ a) b c
  | un a _ ih => exact .un a ih
  | wide _ a b ih => exact .wide ih a b
  | bin a _ _ i j => exact .bin a i j
  | shift a _ _ i j => exact .shift a i j
  | cmp a _ _ i j => exact .cmp a i j
  | pick _ _ _ i j l => exact .pick i j l
theorem salts_ok (hm : 2 ≤ m) (hd : SrcAt st) (q : ∀ n a b c st', 2 < n → 0 ≤ a → a < 40000 → 0 ≤ b → b < 40000 → 0 ≤ c → c < 40000 → rdL st' n [.int a, .int b, .int c] → FraS st st' → Q (.ref n) st') : callN prog m "_law_salts" [.ref 2] st Q := by
  obtain ⟨m, rfl⟩ : ∃ n, m = n + 1 := ⟨m - 1, by omega⟩
  refine call_intro rfl rfl ?_
  unfold b_l_salts
  have l2 := hd.lt
  walk_at "t"
  refine digitM (by omega) hd (by decide) (by decide) fun a st1 a0 a1 f1 => ?_
  walk_at "t"
  refine digitM (by omega) f1.dr (by decide) (by decide) fun r st2 r0 r1 f2 => ?_
  have f12 := f1.trans f2
  have := f12.le
  walk_at "t"
  refine way (fun e => ?_) (fun e => ?_)
  · walk_at "t"
    exact q _ a a a _ (by omega) a0 a1 a0 a1 a0 a1 rdL_new f12.app
  · walk_at "t"
    refine digitM (by omega) f2.dr (by decide) (by decide) fun b st3 b0 b1 f3 => ?_
    walk_at "t"
    refine digitM (by omega) f3.dr (by decide) (by decide) fun c st4 c0 c1 f4 => ?_
    walk_at "t"
    have f14 := (f12.trans f3).trans f4
    have := f14.le
    exact q _ a b c _ (by omega) a0 a1 b0 b1 c0 c1 rdL_new f14.app
theorem bare_ok {pr : Nat} {s0 s1 : Str} (hm : 1 ≤ m) (q : Q (scD pr st.length s0 s1) (st ++ [.lst []])) : callN prog m "_law_bare" [.ref pr, .tup [.str s0, .str s1]] st Q := by
  obtain ⟨m, rfl⟩ : ∃ n, m = n + 1 := ⟨m - 1, by omega⟩
  refine call_intro rfl rfl ?_
  unfold b_l_bare
  walk_at "t"
  exact q
theorem tyI {w : Int} {fu : Int} {pr pe : Nat} {s0 s1 : Str} (hm : 12 ≤ m) (hd : SrcAt st) (hS : ScIs st pr pe Γ) (hG : GOk Γ) (w0 : 1 ≤ w) (w1 : w ≤ 6) (f0 : 0 ≤ fu) (f1 : fu ≤ 3) (q : ∀ e st', Ty Γ e w → dep e ≤ fu.toNat → FraS st st' → Q (exD e) st') : callN prog m "_law_typed" [.ref 2, scD pr pe s0 s1, .int w, .int fu] st Q := by
  obtain ⟨f, rfl⟩ : ∃ f : Nat, fu = (f : Int) := ⟨fu.toNat, by omega⟩
  exact typed_ok f (by omega) hd hS hG w0 w1 fun e st' t d ff => q e st' t (by omega) ff
theorem contracted_ok {sn : Nat} {a b c : Int} (hm : 20 ≤ m) (hd : SrcAt st) (hs : rdL st sn [.int a, .int b, .int c]) (hsn : 2 < sn) (a0 : 0 ≤ a) (a1 : a < 40000) (b0 : 0 ≤ b) (b1 : b < 40000) (c0 : 0 ≤ c) (c1 : c < 40000) (q : ∀ p st', PtOk p → FraS st st' → Q (ptD p) st') : callN prog m "_law_contracted" [.ref 2, .ref sn] st Q := by
  obtain ⟨m, rfl⟩ : ∃ n, m = n + 1 := ⟨m - 1, by omega⟩
  refine call_intro rfl rfl ?_
  unfold b_l_contracted
  have l2 := hd.lt
  have lsn := rdL_lt hs
  refine seq_cut (fun σ st' => st' = st ++ [.lst []] ∧ σ = [some (.ref 2), some (.ref sn), some (.ref st.length), none, none, none, none, none, none, none]) (fun N hN => ?_) (fun σ st1 ⟨e1, e2⟩ => ?_)
  · walk_at "t"
    exact hN _ _ ⟨rfl, rfl⟩
  subst e1 e2
  have fa := (FraS.refl hd).app (c := C.lst [])
  have hl0 := rdL_new (st := st) (xs := [])
  generalize hst1 : st ++ [C.lst []] = st1 at fa hl0
  have lst1 : st1.length = st.length + 1 := by rw [← hst1]; simp
  -- the parameters
  refine seq_cut (fun σ st' => ∃ (G : List (Str × Int)) (y : Option D), Lbs b G ∧ G.length ≤ 3 ∧ rdL st' st.length (G.map d2) ∧ FraS st st' ∧ σ = [some (.ref 2), some (.ref sn), some (.ref st.length), y, none, none, none, none, none, none]) (fun N hN => ?_) (fun σ st2 ⟨G, y, g1, g2, g3, f2, e⟩ => ?_)
  · walk_at "t"
    refine digitM (by omega) fa.dr (by decide) (by decide) fun r st2 r0 r1 f2 => ?_
    walk_at "t"
    refine ⟨by omega, by omega, ?_⟩
    refine for_rng (lo := 0) (fun i σ st' => ∃ (G : List (Str × Int)) (y : Option D), Lbs b G ∧ G.length = i ∧ rdL st' st.length (G.map d2) ∧ FraS st st' ∧ σ = [some (.ref 2), some (.ref sn), some (.ref st.length), y, none, none, none, none, none, none]) ⟨[], _, fun i x h => by simp at h, rfl, f2.rd hl0 (by omega), fa.trans f2, rfl⟩ (fun i σ st' hi ⟨G, y, g1, g2, g3, f3, e⟩ N hN => ?_) (fun σ st' ⟨G, y, g1, g2, g3, f3, e⟩ => ?_)
    · subst e
      refine ⟨trivial, ?_⟩
      walk_at "t"
      refine ⟨ty_at g3, ?_⟩
      walk_at "t"
      refine ix_at (f3.rd hs (by omega)) rfl ?_
      walk_at "t"
      refine label_ok (by omega) b0 b1 (by omega) (by omega) fun s st3 hL gr => ?_
      walk_at "t"
      have f4 := gr.fraS f3.dr
      refine digitM (by omega) f4.dr (by decide) (by decide) fun v st4 v0 v1 f5 => ?_
      walk_at "t"
      have f35 := (f3.trans f4).trans f5
      have g35 := f5.rd (f4.rd g3 (by omega)) (by omega)
      refine append_at g35 (by rw [List.length_map]; unfold szl; omega) ?_
      refine hN _ _ ⟨G ++ [(s, 1 + v)], _, ?_, by simp [g2], ?_, f35.set (Nat.le_refl _) (by omega), rfl⟩
      · intro j x hx
        by_cases hj : j < G.length
        · rw [List.getElem?_append_left hj] at hx
          exact g1 j x hx
        · have hj2 : j = G.length := by
            have := (List.getElem?_eq_some_iff.mp hx).1
            simp at this
            omega
          subst hj2
          simp at hx
          subst hx
          rw [g2]
          have e4 : (0 : Int) + (i : Int) = (i : Int) := by omega
          rw [e4] at hL
          exact ⟨hL, by show 1 ≤ 1 + v; omega, by show 1 + v ≤ 2; omega⟩
      · rw [List.map_append]
        exact rdL_set g35
    · subst e
      refine ⟨trivial, ?_⟩
      exact hN _ _ ⟨G, _, g1, by omega, g3, f3, rfl⟩
  subst e
  refine seq_cut (fun σ st' => ∃ (G : List (Str × Int)) (y : Option D) (n : Nat), GamOk G ∧ 2 < n ∧ rdL st' n (G.map d2) ∧ FraS st st' ∧ σ = [some (.ref 2), some (.ref sn), some (.ref n), y, none, none, none, none, none, none]) (fun N hN => ?_) (fun σ st3 ⟨G, y, n, gG, hn2, g3, f3, e⟩ => ?_)
  · walk_at "t"
    refine digitM (by omega) f2.dr (by decide) (by decide) fun r st3 r0 r1 f3 => ?_
    walk_at "t"
    have f23 := f2.trans f3
    refine way (fun e => ?_) (fun e => ?_)
    · walk_at "t"
      refine ix_at (f23.rd hs (by omega)) rfl ?_
      walk_at "t"
      refine label_ok (by omega) b0 b1 (by omega) (by omega) fun s st4 hL gr => ?_
      walk_at "t"
      have f4 := gr.fraS f23.dr
      refine digitM (by omega) f4.dr (by decide) (by decide) fun v st5 v0 v1 f5 => ?_
      walk_at "t"
      have f35 := (f23.trans f4).trans f5
      have := f35.le
      exact hN _ _ ⟨[(s, 4 + v)], _, _, gam_one hL (by omega) (by omega), by omega, rdL_new, f35.app, rfl⟩
    · walk_at "t"
      exact hN _ _ ⟨G, _, _, g1.gam g2 b0, by omega, f3.rd g3 (by omega), f23, rfl⟩
  subst e
  clear f2 g1 g2
  walk_at "t"
  refine digitM (by omega) f3.dr (by decide) (by decide) fun wv st4 w0 w1 f4 => ?_
  walk_at "t"
  have f04 := f3.trans f4
  refine digitM (by omega) f04.dr (by decide) (by decide) fun sv st5 s0 s1 f5 => ?_
  walk_at "t"
  have f05 := f04.trans f5
  refine ix_at (f05.rd hs (by omega)) rfl ?_
  walk_at "t"
  refine label_ok (by omega) b0 b1 (by decide) (by decide) fun sp0 st6 hL0 gr6 => ?_
  walk_at "t"
  have f06 := f05.trans (gr6.fraS f05.dr)
  refine ix_at (f06.rd hs (by omega)) rfl ?_
  walk_at "t"
  refine label_ok (by omega) c0 c1 (by decide) (by decide) fun sp1 st7 hL1 gr7 => ?_
  walk_at "s"
  refine ⟨Nat.le_of_ble_eq_true rfl, ?_⟩
  walk_at "s"
  refine Nxt.mk ?_
  have f07 := f06.trans (gr7.fraS f06.dr)
  have g7 : rdL st7 n (G.map d2) := by
    have z4 := f4.rd g3 (by omega)
    have z5 := f5.rd z4 (by omega)
    exact Grw.rdLN gr7 (Grw.rdLN gr6 z5)
  clear f06 f05 f04 f4 f5 gr6 gr7 hL0 hL1 g3 f3
  walk_at "s"
  refine ⟨Nat.le_of_ble_eq_true rfl, ?_⟩
  walk_at "s"
  refine Nxt.mk ?_
  -- the needs
  refine seq_cut (fun σ st' => ∃ e : Ex, Ty G e 1 ∧ dep e ≤ 4 ∧ FraS st7 st' ∧ σ = [some (.ref 2), some (.ref sn), some (.ref n), y, some (.int (1 + wv)), some (.int sv), some (.tup [.str sp0, .str sp1]), some (exD e), none, none]) (fun N hN => ?_) (fun σ st8 ⟨nd, tn, dn, f8, e⟩ => ?_)
  · walk_at "t"
    refine digitM (by omega) f07.dr (by decide) (by decide) fun r st8 r0 r1 f8 => ?_
    walk_at "t"
    refine way (fun e => ?_) (fun e => ?_)
    · walk_at "t"
      refine bare_ok (by omega) ?_
      walk_at "t"
      have f8a := f8.app (c := C.lst [])
      have l8 := f8.dr.lt
      have hS : ScIs (st8 ++ [C.lst []]) n st8.length G := ⟨rdL_app (f8.rd g7 (by omega)), rdL_new, by omega, by omega⟩
      refine digitM (by omega) f8a.dr (by decide) (by decide) fun v st9 v0 v1 f9 => ?_
      walk_at "t"
      refine tyI (by omega) f9.dr (hS.fra f9) gG.g (by decide) (by decide) (by omega) (by omega) fun e st10 te de f10 => ?_
      walk_at "t"
      exact hN _ _ ⟨e, te, by omega, (f8a.trans f9).trans f10, rfl⟩
    · walk_at "t"
      exact hN _ _ ⟨.word 1 1, .word (by decide) (by decide) (by decide) (by decide), by decide, f8, rfl⟩
  subst e
  have f08 := f07.trans f8
  have g8 := f8.rd g7 (by omega)
  -- the gives
  refine seq_cut (fun σ st' => ∃ e : Ex, Ty (G ++ [(("result" : Str), 1 + wv)]) e 1 ∧ dep e ≤ 2 ∧ FraS st8 st' ∧ σ = [some (.ref 2), some (.ref sn), some (.ref n), y, some (.int (1 + wv)), some (.int sv), some (.tup [.str sp0, .str sp1]), some (exD nd), some (exD e), none]) (fun N hN => ?_) (fun σ st9 ⟨gv, tg, dg, f9, e⟩ => ?_)
  · walk_at "t"
    have l8 := f8.dr.lt
    have hfew := gG.few
    refine add_at (rdL_app g8) rdL_new (by simp; unfold szl; omega) ?_
    have fa8 := ((FraS.refl f8.dr).app (c := C.lst [D.tup [D.str "result", D.int (1 + wv)]])).app (c := C.lst (G.map d2 ++ [D.tup [D.str "result", D.int (1 + wv)]]))
    have hr8 := rdL_new (st := st8 ++ [C.lst [D.tup [D.str "result", D.int (1 + wv)]]]) (xs := G.map d2 ++ [D.tup [D.str "result", D.int (1 + wv)]])
    obtain ⟨n2, hn2'⟩ : ∃ n2, (st8 ++ [C.lst [D.tup [D.str "result", D.int (1 + wv)]]]).length = n2 := ⟨_, rfl⟩
    have hn22 : 2 < n2 := by rw [← hn2']; simp; omega
    rw [hn2'] at hr8 ⊢
    generalize (st8 ++ [C.lst [D.tup [D.str "result", D.int (1 + wv)]]] ++ [C.lst (G.map d2 ++ [D.tup [D.str "result", D.int (1 + wv)]])]) = st9 at fa8 hr8 ⊢
    walk_at "t"
    refine bare_ok (by omega) ?_
    walk_at "t"
    have f9a := fa8.app (c := C.lst [])
    have l9 := fa8.dr.lt
    have er : G.map d2 ++ [D.tup [D.str "result", D.int (1 + wv)]] = (G ++ [(("result" : Str), 1 + wv)]).map d2 := by simp
    rw [er] at hr8
    have hS : ScIs (st9 ++ [C.lst []]) n2 st9.length (G ++ [(("result" : Str), 1 + wv)]) := ⟨rdL_app hr8, rdL_new, by omega, by omega⟩
    refine digitM (by omega) f9a.dr (by decide) (by decide) fun v st10 v0 v1 f10 => ?_
    walk_at "t"
    refine tyI (by omega) f10.dr (hS.fra f10) (gG.gR (by omega) (by omega)) (by decide) (by decide) (by omega) (by omega) fun e st11 te de f11 => ?_
    walk_at "t"
    exact hN _ _ ⟨e, te, by omega, (f9a.trans f10).trans f11, rfl⟩
  subst e
  have f09 := f08.trans f9
  have g9 := f9.rd g8 (by omega)
  refine seq_cut (fun σ st' => ∃ (e : Ex) (y9 : Option D), Ty (G ++ [(("result" : Str), 1 + wv)]) e 1 ∧ dep e ≤ 4 ∧ FraS st9 st' ∧ σ = [some (.ref 2), some (.ref sn), some (.ref n), y, some (.int (1 + wv)), some (.int sv), some (.tup [.str sp0, .str sp1]), some (exD nd), some (exD e), y9]) (fun N hN => ?_) (fun σ st10 ⟨gv', y9, tg', dg', f10, e⟩ => ?_)
  · walk_at "t"
    refine digitM (by omega) f09.dr (by decide) (by decide) fun r st10 r0 r1 f10 => ?_
    walk_at "t"
    refine way (fun e => ?_) (fun e => ?_)
    · walk_at "t"
      refine bare_ok (by omega) ?_
      walk_at "t"
      have f10a := f10.app (c := C.lst [])
      have l10 := f10.dr.lt
      have hS : ScIs (st10 ++ [C.lst []]) n st10.length G := ⟨rdL_app (f10.rd g9 (by omega)), rdL_new, by omega, by omega⟩
      refine tyI (by omega) f10a.dr hS gG.g (by omega) (by omega) (by decide) (by decide) fun e st11 te de f11 => ?_
      walk_at "t"
      have de' : dep e ≤ 1 := de
      refine hN _ _ ⟨.bin .or gv (.bin .eq (.name "result") e), _, ?_, ?_, f10a.trans f11, rfl⟩
      · exact .bin rfl tg (.cmp rfl (.name (by simp) (by omega) (by omega)) te.weak)
      · simp only [dep]
        omega
    · walk_at "t"
      exact hN _ _ ⟨gv, _, tg, by omega, f10, rfl⟩
  subst e
  have f010 := f09.trans f10
  walk_at "t"
  refine ix_at (f010.rd hs (by omega)) rfl ?_
  walk_at "t"
  refine label_ok (by omega) a0 a1 (by decide) (by decide) fun nm st11 hL gr11 => ?_
  walk_at "t"
  refine tuple_at (Grw.rdLN gr11 (f10.rd g9 (by omega))) ?_
  walk_at "t"
  have hfew := gG.few
  exact q ⟨nm, G, 1 + wv, sv, nd, gv'⟩ _ ⟨tn, tg', dn, dg', gG.names, gG.noR, gG.wide, by show G.length ≤ 10; omega, by show 1 ≤ 1 + wv; omega, by show 1 + wv ≤ 3; omega, gG.rows⟩ (f010.trans (gr11.fraS f010.dr))
/-! ### the law -/
theorem given_few (ok : PtOk p) (r : List Int) : (given p r).length ≤ 256 := by
  have h0 := ok.r0
  have h1 := ok.r1
  obtain ⟨P, hP, _, _, hf3⟩ := full_rng (w := p.rw) (by omega) (by omega)
  unfold given
  rw [hP]
  have h := List.length_filter_le (givenB p r) (upto P)
  rw [upto_len] at h
  omega
theorem ans_few (ok : PtOk p) (r : List Int) (log : List Lg) : (answers p r log).length ≤ 256 := by
  have h := given_few ok r
  unfold answers
  split
  · split
    · simp
    · exact h
  · exact h
theorem ans_pos {r : List Int} {log : List Lg} (hn : unmetM p = none) (hr : r ∈ held p) : 0 < (answers p r log).length := by
  have h : 0 < (given p r).length := by
    unfold unmetM at hn
    rw [List.find?_eq_none] at hn
    obtain ⟨h1, h2⟩ := List.mem_filter.mp hr
    have h3 := hn r h1
    unfold condB at h3
    rw [h2] at h3
    cases hg : given p r with
    | nil => rw [hg] at h3; simp at h3
    | cons a l => simp
  unfold answers
  split
  · split
    · simp
    · exact h
  · exact h
theorem law_holds (ns : List Int) (hl : ns.length ≤ 63) (hb : ∀ z ∈ ns, PySem.Builtin.Int.intBits z ≤ 1048576) : callN prog 61 "law" [.ref 0] [.frz (ns.map D.int)] fun d _ => d = .bl true := by
  refine call_intro rfl rfl ?_
  unfold b_l_law
  walk_at "s"
  refine source_ok rfl hl fun st1 hd1 hlen1 => ?_
  walk_at "t"
  refine salts_ok (by decide) hd1 fun sn a b c st2 hsn a0 a1 b0 b1 c0 c1 hs f2 => ?_
  walk_at "t"
  refine contracted_ok (by decide) f2.dr hs hsn a0 a1 b0 b1 c0 c1 fun p st3 ok f3 => ?_
  walk_at "t"
  have d3 := f3.dr
  refine unmetL_ok (by decide) ok fun st4 g4 => ?_
  walk_at "s"
  refine Nxt.mk ?_
  cases hu : unmetM p with
  | some r =>
    have hr : r ∈ rowsL (wds p) := List.mem_of_find?_eq_some hu
    have hrl : r.length ≤ 1000 := by
      have h1 := (rows_in hr).length
      have h2 := wds_len ok
      omega
    show sSeq _ _ _ [_, _, _, _, some (tpD r), _, _, _, _, _] _
    walk_at "t"
    refine wayT rfl ?_
    walk_at "t"
    refine unmet_ok (by decide) ok fun st5 g5 => ?_
    rw [hu]
    show aCons _ _ _ _ _
    walk_at "t"
    refine plain_ok (by decide) hrl fun st6 g6 => ?_
    walk_at "t"
    refine unmet_ok (by decide) ok fun st7 g7 => ?_
    rw [hu]
    show aCons _ _ _ _ _
    walk_at "t"
    refine plain_ok (by decide) hrl fun st8 g8 => ?_
    rfl
  | none =>
    show sSeq _ _ _ [_, _, _, _, some .non, _, _, _, _, _] _
    walk_at "t"
    refine wayF rfl ?_
    walk_at "t"
    refine unmet_ok (by decide) ok fun st5 g5 => ?_
    rw [hu]
    walk_at "t"
    refine wayF rfl ?_
    walk_at "t"
    refine needed_ok (by decide) ok fun nh st6 hnh h6 g6 => ?_
    walk_at "s"
    refine Nxt.mk ?_
    have hf : (held p).length ≤ 1000 := Nat.le_trans (List.length_filter_le _ _) ok.rows
    have g46 := (g4.trans g5).trans g6
    have d6 := (g46.fraS d3).dr
    have hnh2 : 2 < nh := by
      have := d3.lt
      have := (g4.trans g5).le
      omega
    refine seq_cut (fun σ st' => ∃ y6, Grw st6 st' ∧ σ = [some (.ref 0), some (.ref 2), some (.ref sn), some (ptD p), some .non, some (.ref nh), y6, none, none, none]) (fun N hN => ?_) (fun σ st7 ⟨y6, g7, e⟩ => ?_)
    · walk_at "s"
      refine it_at h6 ?_
      refine for_map (held p) tpD rfl (fun j σ st' => ∃ y6, Grw st6 st' ∧ σ = [some (.ref 0), some (.ref 2), some (.ref sn), some (ptD p), some .non, some (.ref nh), y6, none, none, none]) ⟨_, .refl _, rfl⟩ (fun j r σ st' hj ⟨y, g7, e⟩ N hN => ?_) (fun σ st' ⟨y, g7, e⟩ => ?_)
      · subst e
        refine ⟨.inl (Grw.rdLN g7 h6), ?_⟩
        have hr := held_row (List.mem_of_getElem? hj)
        walk_at "t"
        refine letans_ok (log := []) (by decide) ok hr fun st8 g8 => ?_
        walk_at "t"
        refine own_ok (log := []) (by decide) ok hr rdL_new fun st9 g9 => ?_
        walk_at "t"
        refine plain_ok (by decide) (by have := ans_few ok r []; omega) fun st10 g10 => ?_
        walk_at "t"
        refine wayF rfl ?_
        walk_at "t"
        exact hN _ _ ⟨_, ((g7.trans g8).app.trans g9).trans g10, rfl⟩
      · subst e
        exact ⟨.inl (Grw.rdLN g7 h6), hN _ _ ⟨_, g7, rfl⟩⟩
    subst e
    have h7 := Grw.rdLN g7 h6
    have d7 := (g7.fraS d6).dr
    refine seq_if (fun b st' => st' = st7 ∧ (b = false → 0 < (held p).length)) (fun R hR => ?_) (fun st8 ⟨e, _⟩ => ?_) (fun st8 ⟨e, hpos⟩ => ?_)
    · walk_at "s"
      refine tru_at h7 ?_
      walk_at "s"
      refine hR _ _ ⟨rfl, fun e => ?_⟩
      cases hh : held p with
      | nil => rw [hh] at e; simp at e
      | cons x l => simp
    · subst e
      walk_at "s"
      rfl
    subst e
    have hpos := hpos rfl
    refine seq_cut (fun σ st' => st' = st8 ++ [.lst []] ∧ σ = [some (.ref 0), some (.ref 2), some (.ref sn), some (ptD p), some .non, some (.ref nh), y6, some (.ref st8.length), none, none]) (fun N hN => ?_) (fun σ st9 ⟨e1, e2⟩ => ?_)
    · walk_at "t"
      exact hN _ _ ⟨rfl, rfl⟩
    subst e2
    have g8 := (Grw.refl st8).app (c := C.lst [])
    have hl8 := rdL_new (st := st8) (xs := [])
    have h8 := rdL_app (c := C.lst []) h7
    have d8 := (g8.fraS d7).dr
    obtain ⟨nl, hnl⟩ : ∃ nl, st8.length = nl := ⟨_, rfl⟩
    have hnl2 : 2 < nl := by have := d7.lt; omega
    have hne : nh < nl := by have := rdL_lt h7; omega
    rw [hnl] at hl8 ⊢
    rw [← e1] at hl8 h8 d8
    clear g8 e1
    -- the log
    refine seq_cut (fun σ st' => ∃ (log : List Lg) (y6 y8 y9 : Option D), SrcAt st' ∧ rdL st' nl (log.map lgD) ∧ rdL st' nh ((held p).map tpD) ∧ log.length ≤ 10 ∧ σ = [some (.ref 0), some (.ref 2), some (.ref sn), some (ptD p), some .non, some (.ref nh), y6, some (.ref nl), y8, y9]) (fun N hN => ?_) (fun σ st10 ⟨log, y6, y8, y9, d10, l10, h10, len10, e⟩ => ?_)
    · walk_at "s"
      refine digitM (by decide) d8 (by decide) (by decide) fun r st10 r0 r1 f10 => ?_
      walk_at "s"
      refine ⟨by omega, by omega, ?_⟩
      refine for_rng (lo := 0) (fun i σ st' => ∃ (log : List Lg) (y6 y8 y9 : Option D), SrcAt st' ∧ rdL st' nl (log.map lgD) ∧ rdL st' nh ((held p).map tpD) ∧ log.length = i ∧ σ = [some (.ref 0), some (.ref 2), some (.ref sn), some (ptD p), some .non, some (.ref nh), y6, some (.ref nl), y8, y9]) ⟨[], _, _, _, f10.dr, f10.rd hl8 (by omega), f10.rd h8 (by omega), rfl, rfl⟩ (fun i σ st' hi ⟨log, y6, y8, y9, d1, l1, h1, len1, e⟩ N hN => ?_) (fun σ st' ⟨log, y6, y8, y9, d1, l1, h1, len1, e⟩ => ?_)
      · subst e
        refine ⟨trivial, ?_⟩
        walk_at "t"
        refine pickM (by decide) d1 h1 (by omega) hpos (by omega) fun r st2 hr f2 => ?_
        have hrow := held_row hr
        have l2 := f2.rd l1 (by omega)
        have h2 := f2.rd h1 (by omega)
        walk_at "t"
        refine own_ok (by decide) ok hrow l2 fun st3 g3 => ?_
        have l3 := Grw.rdLN g3 l2
        have h3 := Grw.rdLN g3 h2
        have d3 := (g3.fraS f2.dr).dr
        walk_at "t"
        refine ⟨ty_at l3, ?_⟩
        walk_at "t"
        have hap := ans_pos (log := log) hu hr
        have haf := ans_few ok r log
        refine pickOneT_ok rfl rfl d3 (by rw [List.length_map]; exact hap) (by rw [List.length_map]; omega) fun x st4 hx f4 _ => ?_
        obtain ⟨v, hv, rfl⟩ := List.mem_map.mp hx
        walk_at "t"
        have l4 := f4.rd l3 (by omega)
        have h4 := f4.rd h3 (by omega)
        refine append_at l4 (by rw [List.length_map]; unfold szl; omega) ?_
        have l5 : rdL (st4.set nl (.lst (log.map lgD ++ [D.tup [tpD r, D.int v]]))) nl ((log ++ [(r, v)]).map lgD) := by
          rw [List.map_append]
          exact rdL_set l4
        have h5 := rdL_ne (c := C.lst (log.map lgD ++ [D.tup [tpD r, D.int v]])) h4 (show nh ≠ nl by omega)
        have d5 := f4.dr.set (c := C.lst (log.map lgD ++ [D.tup [tpD r, D.int v]])) hnl2
        show Nxt _
        refine Nxt.mk ?_
        generalize st4.set nl (.lst (log.map lgD ++ [D.tup [tpD r, D.int v]])) = st5 at l5 h5 d5 ⊢
        walk_at "t"
        refine tuple_at l5 ?_
        walk_at "t"
        refine letans_ok (by decide) ok hrow fun st6 g6 => ?_
        walk_at "t"
        refine own_ok (by decide) ok hrow (Grw.rdLN g6 l5) fun st7 g7 => ?_
        walk_at "t"
        refine plain_ok (by decide) (by have := ans_few ok r (log ++ [(r, v)]); omega) fun st8 g8 => ?_
        have g68 := (g6.trans g7).trans g8
        walk_at "t"
        refine wayF rfl ?_
        walk_at "t"
        exact hN _ _ ⟨log ++ [(r, v)], _, _, _, (g68.fraS d5).dr, Grw.rdLN g68 l5, Grw.rdLN g68 h5, by simp [len1], rfl⟩
      · subst e
        refine ⟨trivial, ?_⟩
        exact hN _ _ ⟨log, _, _, _, d1, l1, h1, by omega, rfl⟩
    subst e
    refine seq_cut (fun σ st' => ∃ y6, Grw st10 st' ∧ σ = [some (.ref 0), some (.ref 2), some (.ref sn), some (ptD p), some .non, some (.ref nh), y6, some (.ref nl), y8, y9]) (fun N hN => ?_) (fun σ st11 ⟨y6, g11, e⟩ => ?_)
    · walk_at "s"
      refine it_at h10 ?_
      refine for_map (held p) tpD rfl (fun j σ st' => ∃ y6, Grw st10 st' ∧ σ = [some (.ref 0), some (.ref 2), some (.ref sn), some (ptD p), some .non, some (.ref nh), y6, some (.ref nl), y8, y9]) ⟨_, .refl _, rfl⟩ (fun j r σ st' hj ⟨y, g7, e⟩ N hN => ?_) (fun σ st' ⟨y, g7, e⟩ => ?_)
      · subst e
        refine ⟨.inl (Grw.rdLN g7 h10), ?_⟩
        have hr := held_row (List.mem_of_getElem? hj)
        have l11 := Grw.rdLN g7 l10
        walk_at "t"
        refine tuple_at l11 ?_
        walk_at "t"
        refine letans_ok (by decide) ok hr fun st12 g12 => ?_
        walk_at "t"
        refine own_ok (by decide) ok hr (Grw.rdLN g12 l11) fun st13 g13 => ?_
        walk_at "t"
        refine plain_ok (by decide) (by have := ans_few ok r log; omega) fun st14 g14 => ?_
        walk_at "t"
        refine wayF rfl ?_
        walk_at "t"
        exact hN _ _ ⟨_, ((g7.trans g12).trans g13).trans g14, rfl⟩
      · subst e
        exact ⟨.inl (Grw.rdLN g7 h10), hN _ _ ⟨_, g7, rfl⟩⟩
    subst e
    have h11 := Grw.rdLN g11 h10
    obtain ⟨r0, rs, hrs⟩ : ∃ r0 rs, held p = r0 :: rs := by
      cases hh : held p with
      | nil => rw [hh] at hpos; simp at hpos
      | cons x l => exact ⟨x, l, rfl⟩
    have hat : atD ((held p).map tpD) 0 = some (tpD r0) := by rw [hrs]; rfl
    have hr := held_row (p := p) (r := r0) (by rw [hrs]; simp)
    walk_at "t"
    refine unmet_ok (by decide) ok fun st12 g12 => ?_
    rw [hu]
    walk_at "t"
    refine wayT rfl ?_
    have h12 := Grw.rdLN g12 h11
    walk_at "t"
    refine ix_at h12 hat ?_
    walk_at "t"
    refine letans_ok (log := []) (by decide) ok hr fun st13 g13 => ?_
    walk_at "t"
    refine ix_at (Grw.rdLN g13 h12) hat ?_
    walk_at "t"
    refine own_ok (log := []) (by decide) ok hr rdL_new fun st14 g14 => ?_
    walk_at "t"
    refine plain_ok (by decide) (by have := ans_few ok r0 []; omega) fun st15 g15 => ?_
    rfl
end Pk13
end PartPdk13P9

section PartPdk13T
open PySem PySem.W PyProof.Rows
set_option maxRecDepth 100000 in
set_option maxHeartbeats 0 in
theorem PySem.Challenge.cw_metorshut_k13_externals_holds : PySem.Challenge.rw_metorshut_k13_externals.Holds := by
  w_on; o_law; k_head; (case hw => w_witness2)
  k_fill
  refine L2.walk_ofB (l := PySem.Challenge.rw_metorshut_k13_externals) (n := 63) (k := 61) (x := "_law_script") (CX := fun _ => L2.CX0) (sp := fun w => Pd.liftF _ 1 (Pd.callN Pk13.prog 61 "law")) rfl (by decide) rfl ⟨rfl, by decide, by decide⟩ (fun w h Y => PySem.W.kIn_of Y) ?F (fun _ _ a ns hl hb hO hS => Pd.law_sp (Pk13.law_holds ns hl hb) hO hS) (fun _ _ _ _ _ h => h)
  case F =>
    intro w mg fa h KX G hmg
    refine' Pk13.all_mk KX G hmg ?a1 ?l1 ?c1 ?k1 ?a2 ?l2 ?c2 ?k2 ?a3 ?l3 ?c3 ?k3 ?a4 ?l4 ?c4 ?k4 ?a5 ?l5 ?c5 ?k5 ?a6 ?l6 ?c6 ?k6 ?a7 ?l7 ?c7 ?k7 ?a8 ?l8 ?c8 ?k8 ?a9 ?l9 ?c9 ?k9 ?a10 ?l10 ?c10 ?k10 ?a11 ?l11 ?c11 ?k11 ?a12 ?l12 ?c12 ?k12 ?a13 ?l13 ?c13 ?k13 ?a14 ?l14 ?c14 ?k14 ?a15 ?l15 ?c15 ?k15 ?a16 ?l16 ?c16 ?k16 ?a17 ?l17 ?c17 ?k17 ?a18 ?l18 ?c18 ?k18 ?a19 ?l19 ?c19 ?k19 ?a20 ?l20 ?c20 ?k20 ?a21 ?l21 ?c21 ?k21 ?a22 ?l22 ?c22 ?k22 ?a23 ?l23 ?c23 ?k23 ?a24 ?l24 ?c24 ?k24 ?a25 ?l25 ?c25 ?k25 ?a26 ?l26 ?c26 ?k26 ?a27 ?l27 ?c27 ?k27 ?a28 ?l28 ?c28 ?k28 ?a29 ?l29 ?c29 ?k29 ?a30 ?l30 ?c30 ?k30 ?a31 ?l31 ?c31 ?k31 ?a32 ?l32 ?c32 ?k32 ?a33 ?l33 ?c33 ?k33 ?a34 ?l34 ?c34 ?k34 ?a35 ?l35 ?c35 ?k35 ?a36 ?l36 ?c36 ?k36 ?a37 ?l37 ?c37 ?k37 ?z1 ?z2 ?z3 ?z4 ?z5 ?z6 ?z7 ?z8 ?z9 ?z10 ?z11 ?z12
    (case a1 => k_is); (case l1 => k_is); (case c1 => k_is); (case k1 => k_is)
    (case a2 => k_is); (case l2 => k_is); (case c2 => k_is); (case k2 => k_is)
    (case a3 => k_is); (case l3 => k_is); (case c3 => k_is); (case k3 => k_is)
    (case a4 => k_is); (case l4 => k_is); (case c4 => k_is); (case k4 => k_is)
    (case a5 => k_is); (case l5 => k_is); (case c5 => k_is); (case k5 => k_is)
    (case a6 => k_is); (case l6 => k_is); (case c6 => k_is); (case k6 => k_is)
    (case a7 => k_is); (case l7 => k_is); (case c7 => k_is); (case k7 => k_is)
    (case a8 => k_is); (case l8 => k_is); (case c8 => k_is); (case k8 => k_is)
    (case a9 => k_is); (case l9 => k_is); (case c9 => k_is); (case k9 => k_is)
    (case a10 => k_is); (case l10 => k_is); (case c10 => k_is); (case k10 => k_is)
    (case a11 => k_is); (case l11 => k_is); (case c11 => k_is); (case k11 => k_is)
    (case a12 => k_is); (case l12 => k_is); (case c12 => k_is); (case k12 => k_is)
    (case a13 => k_is); (case l13 => k_is); (case c13 => k_is); (case k13 => k_is)
    (case a14 => k_is); (case l14 => k_is); (case c14 => k_is); (case k14 => k_is)
    (case a15 => k_is); (case l15 => k_is); (case c15 => k_is); (case k15 => k_is)
    (case a16 => k_is); (case l16 => k_is); (case c16 => k_is); (case k16 => k_is)
    (case a17 => k_is); (case l17 => k_is); (case c17 => k_is); (case k17 => k_is)
    (case a18 => k_is); (case l18 => k_is); (case c18 => k_is); (case k18 => k_is)
    (case a19 => k_is); (case l19 => k_is); (case c19 => k_is); (case k19 => k_is)
    (case a20 => k_is); (case l20 => k_is); (case c20 => k_is); (case k20 => k_is)
    (case a21 => k_is); (case l21 => k_is); (case c21 => k_is); (case k21 => k_is)
    (case a22 => k_is); (case l22 => k_is); (case c22 => k_is); (case k22 => k_is)
    (case a23 => k_is); (case l23 => k_is); (case c23 => k_is); (case k23 => k_is)
    (case a24 => k_is); (case l24 => k_is); (case c24 => k_is); (case k24 => k_is)
    (case a25 => k_is); (case l25 => k_is); (case c25 => k_is); (case k25 => k_is)
    (case a26 => k_is); (case l26 => k_is); (case c26 => k_is); (case k26 => k_is)
    (case a27 => k_is); (case l27 => k_is); (case c27 => k_is); (case k27 => k_is)
    (case a28 => k_is); (case l28 => k_is); (case c28 => k_is); (case k28 => k_is)
    (case a29 => k_is); (case l29 => k_is); (case c29 => k_is); (case k29 => k_is)
    (case a30 => k_is); (case l30 => k_is); (case c30 => k_is); (case k30 => k_is)
    (case a31 => k_is); (case l31 => k_is); (case c31 => k_is); (case k31 => k_is)
    (case a32 => k_is); (case l32 => k_is); (case c32 => k_is); (case k32 => k_is)
    (case a33 => k_is); (case l33 => k_is); (case c33 => k_is); (case k33 => k_is)
    (case a34 => k_is); (case l34 => k_is); (case c34 => k_is); (case k34 => k_is)
    (case a35 => k_is); (case l35 => k_is); (case c35 => k_is); (case k35 => k_is)
    (case a36 => k_is); (case l36 => k_is); (case c36 => k_is); (case k36 => k_is)
    (case a37 => k_is); (case l37 => k_is); (case c37 => k_is); (case k37 => k_is)
    (case z1 => k_is)
    (case z2 => k_is)
    (case z3 => k_is)
    (case z4 => k_is)
    (case z5 => k_is)
    (case z6 => k_is)
    (case z7 => k_is)
    (case z8 => k_is)
    (case z9 => k_is)
    (case z10 => k_is)
    (case z11 => k_is)
    (case z12 => k_is)
end PartPdk13T
