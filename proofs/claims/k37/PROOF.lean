import PyProof.Rows.All
import HandS.Base
import Wide.All
import OpenK.AllK
import Wide.FinOn
import HandS.ForMost
import HandS.Flow
import HandS.TupAny
import HandS.IsInst
import HandS.Zip
import HandS.Conv
import HandS.EndBits
import HandS.Text
import HandS.SortInts
import HandS.Star
import HandS.Small
import HandS.Dict
import HandS.DictComp
import KE.KDictSum
import HandS.Iter
import PySem.Challenge.RW_metorshut_k37_forms
section PartPdCore
set_option linter.all false
/-! Pd: a data-level weakest-precondition semantics of the Python that the laws use.
Values are plain data (tuples are values, lists and dicts are numbers of cells of a store).
A reading takes what is wanted behind. Own work. -/
namespace Pd
open PySem

inductive D where
  | non
  | bl (b : Bool)
  | int (i : Int)
  | str (x : Str)
  | tup (xs : List D)
  | ref (n : Nat)
  deriving Inhabited

/-- what a locked dict is, for the soundness alone -/
abbrev Tok := PySem.Obj × List (L2.Key × L2.V)
/-- a cell of the store -/
inductive C where
  | lst (xs : List D)
  | frz (xs : List D)
  | dic (kvs : List (Sum Int Str × D))
  /-- a dict that a walk has locked -/
  | frd (kvs : List (Sum Int Str × D)) (tk : Tok)

abbrev Store := List C
abbrev Env := List (Option D)
abbrev K := D → Store → Prop
abbrev TE := Env → Store → K → Prop
abbrev TT := Env → Store → (Bool → Store → Prop) → Prop
abbrev TA := Env → Store → (List D → Store → Prop) → Prop
structure Ends where
  nx : Env → Store → Prop
  rt : K
  bk : Env → Store → Prop := fun _ _ => False
  ct : Env → Store → Prop := fun _ _ => False
abbrev TS := Ends → Env → Store → Prop
/-- what the calls of own defs do -/
abbrev Cl := String → List D → Store → K → Prop

/-- the longest that the model's lists and texts may be -/
def szl : Nat := 16777216

def lk : Env → Nat → Option D
  | [], _ => none
  | x :: _, 0 => x
  | _ :: r, n + 1 => lk r n
def wipeE : Env → List Nat → Env
  | ρ, [] => ρ
  | ρ, v :: vs => (wipeE ρ vs).set v none

/-! ### data: pure, depth, equality -/
/-- a text of code points -/
def okS (x : Str) : Bool := x.cps.toList.all fun c => decide (c < 1114112)
mutual
def D.okd : Nat → D → Bool
  | _, .non => true
  | _, .bl _ => true
  | _, .int _ => true
  | _, .str x => okS x
  | 0, .tup _ => false
  | n + 1, .tup xs => okds n xs
  | _, .ref _ => false
def okds : Nat → List D → Bool
  | _, [] => true
  | n, x :: xs => D.okd n x && okds n xs
end
def b2i (b : Bool) : Int := if b then 1 else 0
mutual
def D.eqb : D → D → Bool
  | .non, .non => true
  | .bl a, .bl b => a == b
  | .bl a, .int j => b2i a == j
  | .int i, .bl b => i == b2i b
  | .int i, .int j => i == j
  | .str x, .str y => decide (x = y)
  | .tup xs, .tup ys => eqbs xs ys
  | _, _ => false
def eqbs : List D → List D → Bool
  | [], [] => true
  | x :: xs, y :: ys => D.eqb x y && eqbs xs ys
  | _, _ => false
end
def D.flat : D → Bool
  | .non => true
  | .bl _ => true
  | .int _ => true
  | .str _ => true
  | _ => false

/-! ### the store -/
/-- at n a list that may be changed -/
def rdL (st : Store) (n : Nat) (xs : List D) : Prop := st[n]? = some (.lst xs)
/-- at n a list -/
def rdA (st : Store) (n : Nat) (xs : List D) : Prop := st[n]? = some (.lst xs) ∨ st[n]? = some (.frz xs)
def rdD (st : Store) (n : Nat) (kvs : List (Sum Int Str × D)) : Prop := st[n]? = some (.dic kvs)
/-- at n a dict, locked or not -/
def rdDA (st : Store) (n : Nat) (kvs : List (Sum Int Str × D)) : Prop := st[n]? = some (.dic kvs) ∨ ∃ tk, st[n]? = some (.frd kvs tk)

/-! ### expressions -/
def dC (d : D) : TE := fun _ st Q => Q d st
def dVar (i : Nat) : TE := fun σ st Q => ∃ d, lk σ i = some d ∧ Q d st
abbrev K2 := D → D → Store → K → Prop
def dOp (k : K2) (ta tb : TE) : TE := fun σ st Q => ta σ st fun x st1 => tb σ st1 fun y st2 => k x y st2 Q
def dUn (k : D → Store → K → Prop) (ta : TE) : TE := fun σ st Q => ta σ st fun x st1 => k x st1 Q

def cMul (i j : Int) : Prop := (-(2 ^ 64) < i ∧ i < 2 ^ 64) ∨ (-(2 ^ 64) < j ∧ j < 2 ^ 64)
def cPow (i j : Int) : Prop := 0 ≤ j ∧ j ≤ 1000000 ∧ i.natAbs < 2 ^ 64
def addK : K2
  | .int a, .int b, st, Q => Q (.int (a + b)) st
  | .str a, .str b, st, Q => a.length + b.length ≤ szl ∧ Q (.str (a ++ b)) st
  | .tup a, .tup b, st, Q => a.length + b.length ≤ szl ∧ Q (.tup (a ++ b)) st
  | .ref m, .ref n, st, Q => ∃ a b, rdL st m a ∧ rdL st n b ∧ a.length + b.length ≤ szl ∧ Q (.ref st.length) (st ++ [.lst (a ++ b)])
  | _, _, _, _ => False
def subK : K2
  | .int a, .int b, st, Q => Q (.int (a - b)) st
  | _, _, _, _ => False
def mulK : K2
  | .int a, .int b, st, Q => cMul a b ∧ Q (.int (a * b)) st
  | .ref m, .int k, st, Q => ∃ xs, rdL st m xs ∧ -(2 ^ 63) ≤ k ∧ k < 2 ^ 63 ∧ xs.length * k.toNat ≤ szl ∧ Q (.ref st.length) (st ++ [.lst (List.replicate k.toNat xs).flatten])
  | _, _, _, _ => False
def fdivK : K2
  | .int a, .int b, st, Q => (0 < b ∧ b < 1073741824) ∧ Q (.int (a / b)) st
  | _, _, _, _ => False
def modK : K2
  | .int a, .int b, st, Q => 0 < b ∧ Q (.int (a % b)) st
  | _, _, _, _ => False
def powK : K2
  | .int a, .int b, st, Q => cPow a b ∧ Q (.int (a ^ b.toNat)) st
  | _, _, _, _ => False
def shlK : K2
  | .int a, .int b, st, Q => cPow a b ∧ Q (.int (a * 2 ^ b.toNat)) st
  | _, _, _, _ => False
def shrK : K2
  | .int a, .int b, st, Q => 0 ≤ b ∧ Q (.int (a / 2 ^ b.toNat)) st
  | _, _, _, _ => False
def andK : K2
  | .int a, .int b, st, Q => Q (.int (Builtin.bitAnd a b)) st
  | _, _, _, _ => False
def orK : K2
  | .int a, .int b, st, Q => Q (.int (Builtin.bitOr a b)) st
  | _, _, _, _ => False
def xorK : K2
  | .int a, .int b, st, Q => Q (.int (Builtin.bitXor a b)) st
  | _, _, _, _ => False
/-- op= of ints and texts -/
def iaddK : K2
  | .int a, .int b, st, Q => Q (.int (a + b)) st
  | .str a, .str b, st, Q => a.length + b.length ≤ szl ∧ Q (.str (a ++ b)) st
  | _, _, _, _ => False
def negK : D → Store → K → Prop
  | .int a, st, Q => Q (.int (-a)) st
  | _, _, _ => False
def invK : D → Store → K → Prop
  | .int a, st, Q => Q (.int (Builtin.bitNot a)) st
  | _, _, _ => False

/-! ### comparisons -/
abbrev KC := D → D → Store → (Bool → Prop) → Prop
def dCmp (k : KC) (ta tb : TE) : TE := fun σ st Q => ta σ st fun x st1 => tb σ st1 fun y st2 => k x y st2 fun b => Q (.bl b) st2
def dChain (k k' : KC) (ta tb tc : TE) : TE := fun σ st Q => ta σ st fun x st1 => tb σ st1 fun y st2 => k x y st2 fun b =>
  (b = true → tc σ st2 fun z st3 => k' y z st3 fun b' => Q (.bl b') st3) ∧ (b = false → Q (.bl false) st2)
/-- == -/
def eqC : KC
  | .ref m, .ref n, st, Q => ∃ xs ys, rdA st m xs ∧ rdA st n ys ∧ okds 60 xs = true ∧ okds 60 ys = true ∧ Q (eqbs xs ys)
  | .ref m, y, st, Q => ∃ xs, rdA st m xs ∧ okds 60 xs = true ∧ D.okd 60 y = true ∧ Q false
  | x, .ref n, st, Q => ∃ ys, rdA st n ys ∧ okds 60 ys = true ∧ D.okd 60 x = true ∧ Q false
  | x, y, st, Q => D.okd 60 x = true ∧ D.okd 60 y = true ∧ Q (D.eqb x y)
def neC : KC := fun x y st Q => eqC x y st fun b => Q (!b)
def ltC : KC
  | .int a, .int b, _, Q => Q (decide (a < b))
  | _, _, _, _ => False
def leC : KC
  | .int a, .int b, _, Q => Q (decide (a ≤ b))
  | _, _, _, _ => False
def gtC : KC
  | .int a, .int b, _, Q => Q (decide (b < a))
  | _, _, _, _ => False
def geC : KC
  | .int a, .int b, _, Q => Q (decide (b ≤ a))
  | _, _, _, _ => False
def isNon : D → Bool
  | .non => true
  | _ => false
def isC : KC
  | x, .non, _, Q => Q (isNon x)
  | _, _, _, _ => False
def isntC : KC
  | x, .non, _, Q => Q (!isNon x)
  | _, _, _, _ => False
def inC : KC
  | x, .tup xs, _, Q => x.flat = true ∧ xs.all D.flat = true ∧ Q (xs.any fun y => D.eqb y x)
  | x, .ref n, st, Q => ∃ xs, rdA st n xs ∧ x.flat = true ∧ xs.all D.flat = true ∧ Q (xs.any fun y => D.eqb y x)
  | _, _, _, _ => False
def notinC : KC := fun x y st Q => inC x y st fun b => Q (!b)

/-! ### truth -/
def truK : D → Store → (Bool → Prop) → Prop
  | .non, _, Q => Q false
  | .bl b, _, Q => Q b
  | .int i, _, Q => Q (i != 0)
  | .str y, _, Q => y.length ≤ szl ∧ Q ((y.length : Int) != 0)
  | .tup xs, _, Q => Q (!xs.isEmpty)
  | .ref n, st, Q => ∃ xs, rdA st n xs ∧ Q (!xs.isEmpty)
def tTru (t : TE) : TT := fun σ st Q => t σ st fun x st1 => truK x st1 fun b => Q b st1
def tAnd (t u : TT) : TT := fun σ st Q => t σ st fun c st1 => (c = true → u σ st1 Q) ∧ (c = false → Q false st1)
def tOr (t u : TT) : TT := fun σ st Q => t σ st fun c st1 => (c = true → Q true st1) ∧ (c = false → u σ st1 Q)
def tNot (t : TT) : TT := fun σ st Q => t σ st fun c st1 => Q (!c) st1
def dAndT (ta tb : TE) : TE := fun σ st Q => ta σ st fun x st1 => truK x st1 fun c => (c = true → tb σ st1 Q) ∧ (c = false → Q x st1)
def dOrT (ta tb : TE) : TE := fun σ st Q => ta σ st fun x st1 => truK x st1 fun c => (c = true → Q x st1) ∧ (c = false → tb σ st1 Q)
def dNotT (ta : TE) : TE := fun σ st Q => ta σ st fun x st1 => truK x st1 fun c => Q (.bl (!c)) st1
def dIf (c : TT) (a b : TE) : TE := fun σ st Q => c σ st fun k st1 => (k = true → a σ st1 Q) ∧ (k = false → b σ st1 Q)

/-! ### items, slices, displays, calls -/
def atD {α : Type} (xs : List α) (i : Int) : Option α := if 0 ≤ i then xs[i.toNat]? else if -(xs.length : Int) ≤ i then xs[(i + xs.length).toNat]? else none
def ixK : K2
  | .tup xs, .int i, st, Q => ∃ d, atD xs i = some d ∧ Q d st
  | .ref n, .int i, st, Q => ∃ xs d, rdA st n xs ∧ atD xs i = some d ∧ Q d st
  | .str z, .int i, st, Q => ∃ c, z.length ≤ szl ∧ atD z.cps.toList i = some c ∧ Q (.str ⟨#[c]⟩) st
  | _, _, _, _ => False
/-- where a slice's end lies -/
def cl (n : Nat) (i : Int) : Nat := if i < 0 then (i + n).toNat else min i.toNat n
def cutD {α : Type} (xs : List α) (lo hi : Option Int) : List α :=
  (xs.drop ((lo.map (cl xs.length)).getD 0)).take ((hi.map (cl xs.length)).getD xs.length - (lo.map (cl xs.length)).getD 0)
abbrev TO := Env → Store → (Option Int → Store → Prop) → Prop
def oNone : TO := fun _ st Q => Q none st
def oSome (t : TE) : TO := fun σ st Q => t σ st fun x st1 => ∃ i, x = .int i ∧ Q (some i) st1
def slK : D → Option Int → Option Int → Store → K → Prop
  | .tup xs, lo, hi, st, Q => Q (.tup (cutD xs lo hi)) st
  | .ref n, lo, hi, st, Q => ∃ xs, rdA st n xs ∧ Q (.ref st.length) (st ++ [.lst (cutD xs lo hi)])
  | _, _, _, _, _ => False
def dSl (te : TE) (tl th : TO) : TE := fun σ st Q => te σ st fun x st1 => tl σ st1 fun lo st2 => th σ st2 fun hi st3 => slK x lo hi st3 Q
def aNil : TA := fun _ st Q => Q [] st
def aCons (t : TE) (r : TA) : TA := fun σ st Q => t σ st fun x st1 => r σ st1 fun xs st2 => Q (x :: xs) st2
def dTup (t : TA) : TE := fun σ st Q => t σ st fun xs st1 => xs.length ≤ szl ∧ Q (.tup xs) st1
def dLst (t : TA) : TE := fun σ st Q => t σ st fun xs st1 => xs.length ≤ szl ∧ Q (.ref st1.length) (st1 ++ [.lst xs])
def dCall (c : Cl) (f : String) (t : TA) : TE := fun σ st Q => t σ st fun xs st1 => c f xs st1 Q
/-- a built-in -/
abbrev KB := List D → Store → K → Prop
def dB (k : KB) (t : TA) : TE := fun σ st Q => t σ st fun xs st1 => k xs st1 Q
/-- a method of a built-in type -/
abbrev KM := D → List D → Store → K → Prop
def dM (ty : D → Store → Prop) (k : KM) (to : TE) (t : TA) : TE := fun σ st Q => to σ st fun o st1 => ty o st1 ∧ t σ st1 fun xs st2 => k o xs st2 Q
def tyLst : D → Store → Prop
  | .ref n, st => ∃ xs, rdL st n xs
  | _, _ => False
def tyLstA : D → Store → Prop
  | .ref n, st => ∃ xs, rdA st n xs
  | _, _ => False
def tyStr : D → Store → Prop
  | .str _, _ => True
  | _, _ => False

def intB : KB
  | [.int i], st, Q => Q (.int i) st
  | [.bl b], st, Q => Q (.int (b2i b)) st
  | _, _, _ => False
def absB : KB
  | [.int i], st, Q => Q (.int (if i < 0 then -i else i)) st
  | _, _, _ => False
def lenB : KB
  | [.tup xs], st, Q => Q (.int xs.length) st
  | [.ref n], st, Q => ∃ xs, rdA st n xs ∧ Q (.int xs.length) st
  | [.str z], st, Q => z.length ≤ szl ∧ Q (.int z.length) st
  | _, _, _ => False
def min2B : KB
  | [.int i, .int j], st, Q => Q (.int (if j < i then j else i)) st
  | _, _, _ => False
def max2B : KB
  | [.int i, .int j], st, Q => Q (.int (if j > i then j else i)) st
  | _, _, _ => False
def listB : KB
  | [.tup xs], st, Q => Q (.ref st.length) (st ++ [.lst xs])
  | [.ref n], st, Q => ∃ xs, rdA st n xs ∧ Q (.ref st.length) (st ++ [.lst xs])
  | _, _, _ => False
def tupleB : KB
  | [.tup xs], st, Q => Q (.tup xs) st
  | [.ref n], st, Q => ∃ xs, rdA st n xs ∧ Q (.tup xs) st
  | _, _, _ => False
def sumB : KB
  | [.ref n], st, Q => ∃ ns : List Int, rdA st n (ns.map D.int) ∧ Q (.int ns.sum) st
  | _, _, _ => False
/-- None, a bool, an int: its truth -/
def D.tflat : D → Bool
  | .non => true
  | .bl _ => true
  | .int _ => true
  | _ => false
def D.tru : D → Bool
  | .bl b => b
  | .int i => i != 0
  | _ => false
def allB : KB
  | [.ref n], st, Q => ∃ xs : List D, rdA st n xs ∧ xs.all D.tflat = true ∧ Q (.bl (xs.all D.tru)) st
  | _, _, _ => False
def anyB : KB
  | [.ref n], st, Q => ∃ xs : List D, rdA st n xs ∧ xs.all D.tflat = true ∧ Q (.bl (xs.any D.tru)) st
  | _, _, _ => False
def min1B : KB
  | [.ref n], st, Q => ∃ ns : List Int, rdA st n (ns.map D.int) ∧ 0 < ns.length ∧ ∀ m, m ∈ ns → (∀ y, y ∈ ns → m ≤ y) → Q (.int m) st
  | _, _, _ => False
def max1B : KB
  | [.ref n], st, Q => ∃ ns : List Int, rdA st n (ns.map D.int) ∧ 0 < ns.length ∧ ∀ m, m ∈ ns → (∀ y, y ∈ ns → y ≤ m) → Q (.int m) st
  | _, _, _ => False
/-- isinstance(x, T), T a built-in class -/
inductive Ty where | int | bool | str | tuple | list
  deriving DecidableEq
def isTy : D → Store → Ty → (Bool → Prop) → Prop
  | .non, _, _, Q => Q false
  | .bl _, _, t, Q => Q (decide (t = .bool) || decide (t = .int))
  | .int _, _, t, Q => Q (decide (t = .int))
  | .str _, _, t, Q => Q (decide (t = .str))
  | .tup _, _, t, Q => Q (decide (t = .tuple))
  | .ref n, st, t, Q => ∃ xs, rdL st n xs ∧ Q (decide (t = .list))
def dIsi (ty : Ty) (t : TE) : TE := fun σ st Q => t σ st fun x st1 => isTy x st1 ty fun b => Q (.bl b) st1

/-! methods -/
def appendM : KM
  | .ref n, [x], st, Q => ∃ xs, rdL st n xs ∧ xs.length < szl ∧ Q .non (st.set n (.lst (xs ++ [x])))
  | _, _, _, _ => False
/-- .pop(i), the place in the list -/
def popM : KM
  | .ref n, [.int i], st, Q => ∃ xs d, rdL st n xs ∧ (0 ≤ i ∧ i < 2 ^ 62) ∧ atD xs i = some d ∧ Q d (st.set n (.lst (xs.eraseIdx i.toNat)))
  | _, _, _, _ => False
def extendM : KM
  | .ref n, [.ref m], st, Q => ∃ xs ys, rdL st n xs ∧ rdL st m ys ∧ n ≠ m ∧ xs.length + ys.length ≤ szl ∧ Q .non (st.set n (.lst (xs ++ ys)))
  | _, _, _, _ => False
/-- .index(x): the first place of what is there -/
def indexM : KM
  | .ref n, [x], st, Q => ∃ xs j z, rdA st n xs ∧ x.flat = true ∧ xs.all D.flat = true ∧ xs[j]? = some z ∧ D.eqb z x = true ∧ (∀ (m : Nat) (z' : D), m < j → xs[m]? = some z' → D.eqb z' x = false) ∧ Q (.int j) st
  | _, _, _, _ => False

/-! ### targets, iterables -/
abbrev TG := D → Env → Store → (Env → Store → Prop) → Prop
abbrev TGs := List D → Env → Store → (Env → Store → Prop) → Prop
def gName (i : Nat) : TG := fun d σ st Q => Q (σ.set i (some d)) st
def gsNil : TGs := fun ds σ st Q => ds = [] ∧ Q σ st
def gsCons (g : TG) (r : TGs) : TGs := fun ds σ st Q => ∃ d ds', ds = d :: ds' ∧ g d σ st fun σ1 st1 => r ds' σ1 st1 Q
def gTup (gs : TGs) (n : Nat) : TG := fun d σ st Q => ∃ ds, d = .tup ds ∧ ds.length = n ∧ gs ds σ st Q
def setK : D → D → D → Store → (Store → Prop) → Prop
  | .ref n, .int i, v, st, Q => ∃ xs, rdL st n xs ∧ (∃ d, atD xs i = some d) ∧ 0 ≤ i ∧ Q (st.set n (.lst (xs.set i.toNat v)))
  | _, _, _, _, _ => False
def gSub (to ti : TE) : TG := fun v σ st Q => to σ st fun o st1 => ti σ st1 fun i st2 => setK o i v st2 fun st3 => Q σ st3
structure Iter where
  items : List D
  guard : Store → Prop
abbrev TI := Env → Store → (Iter → Store → Prop) → Prop
/-- a list or a tuple -/
def itK : D → Store → (Iter → Store → Prop) → Prop
  | .tup xs, st, R => R ⟨xs, fun _ => True⟩ st
  | .ref n, st, R => ∃ xs, rdA st n xs ∧ R ⟨xs, fun s => rdA s n xs⟩ st
  | _, _, _ => False
def iSeq (t : TE) : TI := fun σ st R => t σ st fun x st1 => itK x st1 R
def rng (lo : Int) (n : Nat) : List D := (List.range n).map fun (k : Nat) => D.int (lo + k)
def iR1 (t : TE) : TI := fun σ st R => t σ st fun x st1 => ∃ j, x = .int j ∧ -(2 ^ 62) ≤ j ∧ j < 2 ^ 62 ∧ R ⟨rng 0 j.toNat, fun _ => True⟩ st1
def iR2 (t u : TE) : TI := fun σ st R => t σ st fun x st1 => u σ st1 fun y st2 => ∃ i j, x = .int i ∧ y = .int j ∧ (-(2 ^ 62) ≤ i ∧ i < 2 ^ 62 ∧ -(2 ^ 62) ≤ j ∧ j < 2 ^ 62) ∧ R ⟨rng i (j - i).toNat, fun _ => True⟩ st2
def zipD : List D → List D → List D
  | x :: xs, y :: ys => .tup [x, y] :: zipD xs ys
  | _, _ => []
/-- zip(a, b): both lists, or both tuples -/
def zipK : D → D → Store → (Iter → Store → Prop) → Prop
  | .tup xs, .tup ys, st, R => R ⟨zipD xs ys, fun _ => True⟩ st
  | .ref m, .ref n, st, R => ∃ xs ys, rdA st m xs ∧ rdA st n ys ∧ R ⟨zipD xs ys, fun s => rdA s m xs ∧ rdA s n ys⟩ st
  | _, _, _, _ => False
def iZip2 (t u : TE) : TI := fun σ st R => t σ st fun x st1 => u σ st1 fun y st2 => zipK x y st2 R

/-! ### comprehensions -/
def tYes : TT := fun _ st Q => Q true st
/-- n: the new list's cell -/
def lcLoop (gd : Store → Prop) (g : TG) (tt : TT) (te : TE) (ρ : Env) (n : Nat) (Q : K) : List D → List D → Store → Prop
  | [], acc, st => gd st ∧ rdL st n acc ∧ Q (.ref n) st
  | x :: xs, acc, st => gd st ∧ g x ρ st fun ρ2 st2 => tt ρ2 st2 fun b st3 =>
      (b = true → te ρ2 st3 fun y st4 => rdL st4 n acc ∧ acc.length < szl ∧ lcLoop gd g tt te ρ n Q xs (acc ++ [y]) (st4.set n (.lst (acc ++ [y])))) ∧ (b = false → rdL st3 n acc ∧ lcLoop gd g tt te ρ n Q xs acc st3)
def dLc (i : TI) (g : TG) (tt : TT) (te : TE) (vs : List Nat) : TE := fun σ st Q => i σ st fun I st1 => lcLoop I.guard g tt te (wipeE σ vs) st1.length Q I.items [] (st1 ++ [.lst []])

/-! ### statements -/
def sNext : TS := fun D σ st => D.nx σ st
/-- a statement's end, where a walk may rest -/
structure Nxt (P : Prop) : Prop where
  go : P
def sSeq (t u : TS) : TS := fun D σ st => t { D with nx := fun σ' st' => Nxt (u D σ' st') } σ st
def sBreak : TS := fun D σ st => D.bk σ st
def sCont : TS := fun D σ st => D.ct σ st
def sExpr (t : TE) : TS := fun D σ st => t σ st fun _ st1 => D.nx σ st1
def sRet (t : TE) : TS := fun D σ st => t σ st D.rt
def sRetN : TS := fun D _ st => D.rt .non st
def sIf (c : TT) (t u : TS) : TS := fun D σ st => c σ st fun b st1 => (b = true → t D σ st1) ∧ (b = false → u D σ st1)
def sAsg (t : TE) (g : TG) : TS := fun D σ st => t σ st fun x st1 => g x σ st1 D.nx
/-- a, b = e, f of two locals: no tuple is made -/
def sPar (i j : Nat) (t : TA) : TS := fun D σ st => t σ st fun xs st1 => ∃ x y, xs = [x, y] ∧ D.nx ((σ.set i (some x)).set j (some y)) st1
def sAug (i : Nat) (k : K2) (t : TE) : TS := fun D σ st => ∃ x, lk σ i = some x ∧ t σ st fun y st1 => k x y st1 fun z st2 => D.nx (σ.set i (some z)) st2
/-- the item of a list alone -/
def ixLK : K2
  | .ref n, .int i, st, Q => ∃ xs d, rdA st n xs ∧ atD xs i = some d ∧ Q d st
  | _, _, _, _ => False
def sAugL (k : K2) (to ti te : TE) : TS := fun D σ st => to σ st fun o st1 => ti σ st1 fun i st2 => ixLK o i st2 fun x st3 => te σ st3 fun y st4 => k x y st4 fun z st5 => setK o i z st5 fun st6 => D.nx σ st6
def forLoop (gd : Store → Prop) (g : TG) (tb : TS) (D : Ends) : List Pd.D → Env → Store → Prop
  | [], σ, st => gd st ∧ D.nx σ st
  | x :: xs, σ, st => gd st ∧ g x σ st fun σ2 st2 => tb { D with nx := fun σ3 st3 => forLoop gd g tb D xs σ3 st3, ct := fun σ3 st3 => forLoop gd g tb D xs σ3 st3, bk := D.nx } σ2 st2
def sFor (i : TI) (g : TG) (tb : TS) : TS := fun D σ st => i σ st fun I st1 => forLoop I.guard g tb D I.items σ st1
def whileN (c : TT) (tb : TS) (D : Ends) : Nat → Env → Store → Prop
  | 0, _, _ => False
  | n + 1, σ, st => c σ st fun b st1 => (b = true → tb { D with nx := fun σ2 st2 => whileN c tb D n σ2 st2, ct := fun σ2 st2 => whileN c tb D n σ2 st2, bk := D.nx } σ st1) ∧ (b = false → D.nx σ st1)
def sWhile (c : TT) (tb : TS) : TS := fun D σ st => ∃ n, whileN c tb D n σ st

/-! ### defs: parameters, number of names, body -/
structure Def where
  ps : Nat
  ns : Nat
  body : Cl → TS
def start (n : Nat) (ds : List D) : Env := ds.map some ++ List.replicate (n - ds.length) none
def Def.run (d : Def) (c : Cl) (ds : List D) (st : Store) (Q : K) : Prop :=
  ds.length = d.ps ∧ d.body c { nx := fun _ st' => Q .non st', rt := Q } (start d.ns ds) st
/-- calls, at most k deep -/
def callN (prog : String → Option Def) : Nat → Cl
  | 0 => fun _ _ _ _ => False
  | k + 1 => fun f ds st Q => ∃ d, prog f = some d ∧ d.run (callN prog k) ds st Q
end Pd
end PartPdCore

section PartPdSoundA
set_option Elab.async false
set_option linter.all false
set_option maxRecDepth 100000
set_option maxHeartbeats 1000000
/-! Pd over the hand layer: data against values and heaps; lifting; expressions. Own work. -/
namespace Pd
open PySem PySem.Spec
abbrev Kf := PySem.W.Frag
abbrev Vv := L2.V
abbrev Hp := L2.Hp

theorem szl_eq : szl = sizeLine := by rfl

/-! ### data against values -/
mutual
def RD (K : Kf) (f : List Addr) (H : Hp) : D → L2.V → Prop
  | .non, v => v = .non
  | .bl b, v => v = .bl b
  | .int i, v => v = .int i
  | .str s, v => v = .str s
  | .ref n, v => ∃ a, f[n]? = some a ∧ v = .ref a
  | .tup ds, v => ∃ a vs, v = .ref a ∧ L2.SqT K H a vs ∧ RDs K f H ds vs
def RDs (K : Kf) (f : List Addr) (H : Hp) : List D → List L2.V → Prop
  | [], vs => vs = []
  | d :: ds, vs => ∃ v r, vs = v :: r ∧ RD K f H d v ∧ RDs K f H ds r
end
section
variable {K : Kf} {f f' : List Addr} {H H' : Hp} {st st' : Store} {ρ : Env} {σ : L2.St}
theorem RD.non {v : L2.V} : RD K f H .non v ↔ v = .non := by simp [RD]
theorem RD.bl {b : Bool} {v : L2.V} : RD K f H (.bl b) v ↔ v = .bl b := by simp [RD]
theorem RD.int {i : Int} {v : L2.V} : RD K f H (.int i) v ↔ v = .int i := by simp [RD]
theorem RD.str {x : Str} {v : L2.V} : RD K f H (.str x) v ↔ v = .str x := by simp [RD]
theorem RD.ref {n : Nat} {v : L2.V} : RD K f H (.ref n) v ↔ ∃ a, f[n]? = some a ∧ v = .ref a := by simp [RD]
theorem RD.tup {ds : List D} {v : L2.V} : RD K f H (.tup ds) v ↔ ∃ a vs, v = .ref a ∧ L2.SqT K H a vs ∧ RDs K f H ds vs := by simp [RD]
theorem RDs.nil {vs : List L2.V} : RDs K f H [] vs ↔ vs = [] := by simp [RDs]
theorem RDs.cons {d : D} {ds : List D} {vs : List L2.V} : RDs K f H (d :: ds) vs ↔ ∃ v r, vs = v :: r ∧ RD K f H d v ∧ RDs K f H ds r := by simp [RDs]

/-- later: more cells, the tuples as they were -/
structure Ext (K : Kf) (f : List Addr) (H : Hp) (f' : List Addr) (H' : Hp) : Prop where
  pre : ∃ g, f' = f ++ g
  tup : ∀ a xs, L2.SqT K H a xs → L2.SqT K H' a xs
theorem Ext.refl : Ext K f H f H := ⟨⟨[], by simp⟩, fun _ _ h => h⟩
theorem Ext.trans {f2 : List Addr} {H2 : Hp} (a : Ext K f H f' H') (b : Ext K f' H' f2 H2) : Ext K f H f2 H2 := by
  obtain ⟨g, rfl⟩ := a.pre
  obtain ⟨g2, rfl⟩ := b.pre
  exact ⟨⟨g ++ g2, by simp⟩, fun x xs h => b.tup x xs (a.tup x xs h)⟩
theorem Ext.at (e : Ext K f H f' H') {n : Nat} {a : Addr} (h : f[n]? = some a) : f'[n]? = some a := by
  obtain ⟨g, rfl⟩ := e.pre
  have hn := (List.getElem?_eq_some_iff.mp h).1
  rw [List.getElem?_append_left hn]; exact h
mutual
theorem RD.mono (e : Ext K f H f' H') : ∀ (d : D) {v : L2.V}, RD K f H d v → RD K f' H' d v
  | .non, _, h => by rw [RD.non] at *; exact h
  | .bl _, _, h => by rw [RD.bl] at *; exact h
  | .int _, _, h => by rw [RD.int] at *; exact h
  | .str _, _, h => by rw [RD.str] at *; exact h
  | .ref _, _, h => by
    rw [RD.ref] at *
    obtain ⟨a, h1, h2⟩ := h
    exact ⟨a, e.at h1, h2⟩
  | .tup ds, _, h => by
    rw [RD.tup] at *
    obtain ⟨a, vs, h1, h2, h3⟩ := h
    exact ⟨a, vs, h1, e.tup _ _ h2, RDs.mono e ds h3⟩
theorem RDs.mono (e : Ext K f H f' H') : ∀ (ds : List D) {vs : List L2.V}, RDs K f H ds vs → RDs K f' H' ds vs
  | [], _, h => by rw [RDs.nil] at *; exact h
  | d :: ds, _, h => by
    rw [RDs.cons] at *
    obtain ⟨v, r, h1, h2, h3⟩ := h
    exact ⟨v, r, h1, RD.mono e d h2, RDs.mono e ds h3⟩
end
theorem RDs.length : ∀ {ds : List D} {vs : List L2.V}, RDs K f H ds vs → vs.length = ds.length
  | [], _, h => by rw [RDs.nil] at h; subst h; rfl
  | d :: ds, _, h => by
    rw [RDs.cons] at h
    obtain ⟨v, r, rfl, _, h3⟩ := h
    simp [RDs.length h3]
theorem RDs.get : ∀ {ds : List D} {vs : List L2.V} {i : Nat} {d : D}, RDs K f H ds vs → ds[i]? = some d → ∃ v, vs[i]? = some v ∧ RD K f H d v
  | [], _, _, _, _, e => by simp at e
  | x :: ds, _, 0, d, h, e => by
    rw [RDs.cons] at h
    obtain ⟨v, r, rfl, h2, _⟩ := h
    simp at e; subst e; exact ⟨v, rfl, h2⟩
  | x :: ds, _, i + 1, d, h, e => by
    rw [RDs.cons] at h
    obtain ⟨v, r, rfl, _, h3⟩ := h
    obtain ⟨w, h4, h5⟩ := RDs.get (i := i) h3 (by simpa using e)
    exact ⟨w, by simpa using h4, h5⟩
theorem RDs.append : ∀ {xs ys : List D} {us vs : List L2.V}, RDs K f H xs us → RDs K f H ys vs → RDs K f H (xs ++ ys) (us ++ vs)
  | [], _, _, _, h, h' => by rw [RDs.nil] at h; subst h; exact h'
  | x :: xs, _, _, _, h, h' => by
    rw [RDs.cons] at h
    obtain ⟨v, r, rfl, h2, h3⟩ := h
    rw [List.cons_append, RDs.cons]
    exact ⟨v, _, rfl, h2, RDs.append h3 h'⟩
theorem RDs.one {d : D} {v : L2.V} (h : RD K f H d v) : RDs K f H [d] [v] := by
  rw [RDs.cons]; exact ⟨v, [], rfl, h, by rw [RDs.nil]⟩
theorem RDs.take : ∀ {ds : List D} {vs : List L2.V} (n : Nat), RDs K f H ds vs → RDs K f H (ds.take n) (vs.take n)
  | _, _, 0, _ => by simp [RDs.nil]
  | [], _, n + 1, h => by rw [RDs.nil] at h; subst h; simp [RDs.nil]
  | d :: ds, _, n + 1, h => by
    rw [RDs.cons] at h
    obtain ⟨v, r, rfl, h2, h3⟩ := h
    rw [List.take_succ_cons, List.take_succ_cons, RDs.cons]
    exact ⟨v, _, rfl, h2, RDs.take n h3⟩
theorem RDs.drop : ∀ {ds : List D} {vs : List L2.V} (n : Nat), RDs K f H ds vs → RDs K f H (ds.drop n) (vs.drop n)
  | _, _, 0, h => by simpa using h
  | [], _, n + 1, h => by rw [RDs.nil] at h; subst h; simp [RDs.nil]
  | d :: ds, _, n + 1, h => by
    rw [RDs.cons] at h
    obtain ⟨v, r, rfl, h2, h3⟩ := h
    rw [List.drop_succ_cons, List.drop_succ_cons]
    exact RDs.drop n h3
theorem RDs.set : ∀ {ds : List D} {vs : List L2.V} (n : Nat) {d : D} {v : L2.V}, RD K f H d v → RDs K f H ds vs → RDs K f H (ds.set n d) (vs.set n v)
  | [], _, _, _, _, _, h => by rw [RDs.nil] at h; subst h; simp [RDs.nil]
  | x :: ds, _, 0, d, v, hd, h => by
    rw [RDs.cons] at h
    obtain ⟨w, r, rfl, h2, h3⟩ := h
    rw [List.set_cons_zero, List.set_cons_zero, RDs.cons]
    exact ⟨v, r, rfl, hd, h3⟩
  | x :: ds, _, n + 1, d, v, hd, h => by
    rw [RDs.cons] at h
    obtain ⟨w, r, rfl, h2, h3⟩ := h
    rw [List.set_cons_succ, List.set_cons_succ, RDs.cons]
    exact ⟨w, _, rfl, h2, RDs.set n hd h3⟩
theorem RDs.eraseIdx : ∀ {ds : List D} {vs : List L2.V} (n : Nat), RDs K f H ds vs → RDs K f H (ds.eraseIdx n) (vs.eraseIdx n)
  | [], _, _, h => by rw [RDs.nil] at h; subst h; simp [RDs.nil]
  | x :: ds, _, 0, h => by
    rw [RDs.cons] at h
    obtain ⟨w, r, rfl, h2, h3⟩ := h
    simpa using h3
  | x :: ds, _, n + 1, h => by
    rw [RDs.cons] at h
    obtain ⟨w, r, rfl, h2, h3⟩ := h
    rw [List.eraseIdx_cons_succ, List.eraseIdx_cons_succ, RDs.cons]
    exact ⟨w, _, rfl, h2, RDs.eraseIdx n h3⟩
theorem RDs.ints : ∀ {ns : List Int} {vs : List L2.V}, RDs K f H (ns.map D.int) vs → vs = ns.map L2.V.int
  | [], _, h => by rw [List.map_nil, RDs.nil] at h; subst h; rfl
  | n :: ns, _, h => by
    rw [List.map_cons, RDs.cons] at h
    obtain ⟨v, r, rfl, h2, h3⟩ := h
    rw [RD.int] at h2
    rw [h2, RDs.ints h3]; rfl
theorem RDs.of_ints : ∀ (ns : List Int), RDs K f H (ns.map D.int) (ns.map L2.V.int)
  | [] => by simp [RDs.nil]
  | n :: ns => by
    rw [List.map_cons, List.map_cons, RDs.cons]
    exact ⟨_, _, rfl, by rw [RD.int], RDs.of_ints ns⟩
theorem RDs.bools : ∀ {bs : List Bool} {vs : List L2.V}, RDs K f H (bs.map D.bl) vs → vs = bs.map L2.V.bl
  | [], _, h => by rw [List.map_nil, RDs.nil] at h; subst h; rfl
  | n :: ns, _, h => by
    rw [List.map_cons, RDs.cons] at h
    obtain ⟨v, r, rfl, h2, h3⟩ := h
    rw [RD.bl] at h2
    rw [h2, RDs.bools h3]; rfl

/-! ### the store against the heap -/
/-- a list that may not be changed: frozen, or the module's -/
def FzL (K : Kf) (H : Hp) (a : Addr) (xs : List L2.V) : Prop :=
  (∃ o, H a = some (.frz o (.lst xs))) ∨
    ∃ (o : Obj) (its : Array Value) (n : Nat), K.lookup a = some o ∧ o.cls = .type "list" ∧ o.dict = none ∧ o.data = .seq its n ∧ its.size ≤ sizeLine ∧ L2.Vals xs its.toList
theorem FzL.sq {a : Addr} {xs : List L2.V} (h : FzL K H a xs) : L2.SqL K H a xs := by
  rcases h with h | h
  · exact .inl (.inr h)
  · exact .inr h
def RC (K : Kf) (f : List Addr) (H : Hp) : C → Addr → Prop
  | .lst ds, a => ∃ vs, H a = some (.lst vs) ∧ RDs K f H ds vs
  | .frz ds, a => ∃ vs, FzL K H a vs ∧ RDs K f H ds vs
  | .dic kvs, a => ∃ ks : List (L2.Key × L2.V), H a = some (.dK ks) ∧ ks.map (·.1) = kvs.map (·.1) ∧ RDs K f H (kvs.map (·.2)) (ks.map (·.2))
  | .frd kvs tk, a => H a = some (.frz tk.1 (.dK tk.2)) ∧ tk.2.map (·.1) = kvs.map (·.1) ∧ RDs K f H (kvs.map (·.2)) (tk.2.map (·.2))
/-- a cell that may be changed -/
def mutC : C → Bool
  | .frz _ => false
  | _ => true
structure RelS (K : Kf) (f : List Addr) (st : Store) (H : Hp) : Prop where
  len : f.length = st.length
  nd : ∀ (n m : Nat) (c c' : C) (a : Addr), st[n]? = some c → st[m]? = some c' → mutC c = true → mutC c' = true → f[n]? = some a → f[m]? = some a → n = m
  cell : ∀ (n : Nat) (c : C) (a : Addr), st[n]? = some c → f[n]? = some a → RC K f H c a
structure Rel (K : Kf) (f : List Addr) (ρ : Env) (st : Store) (σ : L2.St) (H : Hp) : Prop extends RelS K f st H where
  env : ∀ (i : Nat) (d : D), lk ρ i = some d → ∃ v, σ[i]? = some (some v) ∧ RD K f H d v
  le : ρ.length ≤ σ.length
theorem RelS.at (r : RelS K f st H) {n : Nat} {c : C} (h : st[n]? = some c) : ∃ a, f[n]? = some a ∧ RC K f H c a := by
  have hn := (List.getElem?_eq_some_iff.mp h).1
  have hn' : n < f.length := by rw [r.len]; exact hn
  exact ⟨f[n], by simp [hn'], r.cell n c _ h (by simp [hn'])⟩
theorem RelS.rdL (r : RelS K f st H) {n : Nat} {xs : List D} (h : rdL st n xs) : ∃ a vs, f[n]? = some a ∧ H a = some (.lst vs) ∧ RDs K f H xs vs := by
  obtain ⟨a, h1, vs, h2, h3⟩ := r.at h
  exact ⟨a, vs, h1, h2, h3⟩
theorem RelS.rdD (r : RelS K f st H) {n : Nat} {kvs : List (Sum Int Str × D)} (h : Pd.rdD st n kvs) : ∃ a ks, f[n]? = some a ∧ H a = some (.dK ks) ∧ ks.map (·.1) = kvs.map (·.1) ∧ RDs K f H (kvs.map (·.2)) (ks.map (·.2)) := by
  obtain ⟨a, h1, ks, h2, h3⟩ := r.at h
  exact ⟨a, ks, h1, h2, h3⟩
theorem RelS.rdDA (r : RelS K f st H) {n : Nat} {kvs : List (Sum Int Str × D)} (h : Pd.rdDA st n kvs) : ∃ a ks, f[n]? = some a ∧ L2.Rd H a (.dK ks) ∧ ks.map (·.1) = kvs.map (·.1) ∧ RDs K f H (kvs.map (·.2)) (ks.map (·.2)) := by
  rcases h with h | ⟨tk, h⟩
  · obtain ⟨a, h1, ks, h2, h3⟩ := r.at h
    exact ⟨a, ks, h1, .inl h2, h3⟩
  · obtain ⟨a, h1, h2, h3⟩ := r.at h
    exact ⟨a, tk.2, h1, .inr ⟨_, h2⟩, h3⟩
theorem RelS.rdA (r : RelS K f st H) {n : Nat} {xs : List D} (h : rdA st n xs) : ∃ a vs, f[n]? = some a ∧ L2.SqL K H a vs ∧ RDs K f H xs vs := by
  rcases h with h | h
  · obtain ⟨a, h1, vs, h2, h3⟩ := r.at h
    exact ⟨a, vs, h1, .of h2, h3⟩
  · obtain ⟨a, h1, vs, h2, h3⟩ := r.at h
    exact ⟨a, vs, h1, h2.sq, h3⟩
theorem Rel.later (r : Rel K f ρ st σ H) (e : Ext K f H f' H') (s : RelS K f' st' H') : Rel K f' ρ st' σ H' :=
  ⟨s, fun i d h => by
    obtain ⟨v, h1, h2⟩ := r.env i d h
    exact ⟨v, h1, h2.mono e⟩, r.le⟩
theorem lk_lt : ∀ {ρ : Env} {i : Nat} {d : D}, lk ρ i = some d → i < ρ.length
  | [], _, _, h => by simp [lk] at h
  | _ :: _, 0, _, _ => by simp
  | _ :: r, i + 1, _, h => by
    have := lk_lt (ρ := r) (i := i) (by simpa [lk] using h)
    simp; omega
theorem wipeE_length (ρ : Env) : ∀ vs : List Nat, (wipeE ρ vs).length = ρ.length
  | [] => rfl
  | v :: vs => by unfold wipeE; rw [List.length_set, wipeE_length ρ vs]
theorem lk_set {ρ : Env} {i j : Nat} {d x : D} (h : lk (ρ.set i (some x)) j = some d) : (j = i ∧ d = x) ∨ (j ≠ i ∧ lk ρ j = some d) := by
  induction ρ generalizing i j with
  | nil => simp [lk] at h
  | cons y r ih =>
    cases i with
    | zero =>
      cases j with
      | zero => simp [lk] at h; exact .inl ⟨rfl, h.symm⟩
      | succ j => simp [lk] at h; exact .inr ⟨by simp, by simpa [lk] using h⟩
    | succ i =>
      cases j with
      | zero => simp [lk] at h; exact .inr ⟨by simp, by simpa [lk] using h⟩
      | succ j =>
        simp [lk] at h
        rcases ih h with ⟨e, h⟩ | ⟨e, h⟩
        · exact .inl ⟨by omega, h⟩
        · exact .inr ⟨by omega, by simpa [lk] using h⟩
theorem lk_none {ρ : Env} {i j : Nat} {d : D} (h : lk (ρ.set i none) j = some d) : j ≠ i ∧ lk ρ j = some d := by
  induction ρ generalizing i j with
  | nil => simp [lk] at h
  | cons y r ih =>
    cases i with
    | zero =>
      cases j with
      | zero => simp [lk] at h
      | succ j => simp [lk] at h; exact ⟨by simp, by simpa [lk] using h⟩
    | succ i =>
      cases j with
      | zero => simp [lk] at h; exact ⟨by simp, by simpa [lk] using h⟩
      | succ j =>
        simp [lk] at h
        obtain ⟨e, h⟩ := ih h
        exact ⟨by omega, by simpa [lk] using h⟩
theorem lk_wipe {ρ : Env} {j : Nat} {d : D} : ∀ {vs : List Nat}, lk (wipeE ρ vs) j = some d → j ∉ vs ∧ lk ρ j = some d
  | [], h => ⟨by simp, h⟩
  | v :: vs, h => by
    unfold wipeE at h
    obtain ⟨h1, h2⟩ := lk_none h
    obtain ⟨h3, h4⟩ := lk_wipe h2
    exact ⟨by simp [h1, h3], h4⟩
/-- the slots a target may write: all others as they were -/
def Out (vs : List Nat) (σ σ' : L2.St) : Prop := σ'.length = σ.length ∧ ∀ j, j ∉ vs → σ'[j]? = σ[j]?
theorem Rel.put {i : Nat} {d : D} {v : L2.V} (r : Rel K f ρ st σ H) (h : RD K f H d v) : Rel K f (ρ.set i (some d)) st (σ.set i (some v)) H :=
  ⟨r.toRelS, fun j x hx => by
    have hl := lk_lt hx
    rw [List.length_set] at hl
    have hle := r.le
    rcases lk_set hx with ⟨rfl, rfl⟩ | ⟨ne, h'⟩
    · exact ⟨v, by rw [List.getElem?_set_self (by omega)], h⟩
    · obtain ⟨w, h1, h2⟩ := r.env j x h'
      exact ⟨w, by rw [List.getElem?_set_ne (Ne.symm ne)]; exact h1, h2⟩, by rw [List.length_set, List.length_set]; exact r.le⟩
theorem wipe_keep {σ : L2.St} {i : Nat} : ∀ {vs : List Nat}, i ∉ vs → (L2.wipe σ vs)[i]? = σ[i]?
  | [], _ => rfl
  | v :: vs, h => by
    have h1 : i ≠ v := fun e => h (by simp [e])
    unfold L2.wipe
    rw [List.getElem?_set_ne (Ne.symm h1)]
    exact wipe_keep fun e => h (List.mem_cons_of_mem _ e)
theorem Rel.wipe {vs : List Nat} (r : Rel K f ρ st σ H) : Rel K f (wipeE ρ vs) st (L2.wipe σ vs) H :=
  ⟨r.toRelS, fun j x hx => by
    obtain ⟨h1, h2⟩ := lk_wipe hx
    obtain ⟨v, h3, h4⟩ := r.env j x h2
    exact ⟨v, by rw [wipe_keep h1]; exact h3, h4⟩, by rw [wipeE_length, L2.wipe_length]; exact r.le⟩
theorem Out.wipe {vs : List Nat} {σ σ' : L2.St} (h : Out vs (L2.wipe σ vs) σ') : L2.wipe σ' vs = L2.wipe σ vs := by
  obtain ⟨h1, h2⟩ := h
  apply List.ext_getElem?
  intro j
  have wiped : ∀ (τ : L2.St) (ws : List Nat), j ∈ ws → (L2.wipe τ ws)[j]? = if j < τ.length then some none else none := by
    intro τ ws
    induction ws with
    | nil => intro h; cases h
    | cons v ws ih =>
      intro h
      unfold L2.wipe
      by_cases e : v = j
      · subst e
        by_cases hl : v < τ.length
        · rw [List.getElem?_set_self (by rw [L2.wipe_length]; exact hl), if_pos hl]
        · rw [List.getElem?_eq_none (by rw [List.length_set, L2.wipe_length]; omega), if_neg hl]
      · rw [List.getElem?_set_ne e]
        rcases List.mem_cons.mp h with q | q
        · exact absurd q.symm e
        · exact ih q
  by_cases hj : j ∈ vs
  · rw [wiped σ' vs hj, wiped σ vs hj, h1, L2.wipe_length]
  · rw [wipe_keep hj, h2 j hj]

/-! a new object, a changed one -/
/-- what may stand where something is laid or changed -/
def Wr (H : Hp) (b : Addr) : Prop := H b = none ∨ (∃ ys, H b = some (.lst ys)) ∨ (∃ ys, H b = some (.dK ys)) ∨ ∃ o ys, H b = some (.frz o (.dK ys))
theorem SqT.upd {a b : Addr} {xs : List L2.V} {o : L2.HO} (h : L2.SqT K H a xs) (n : Wr H b) : L2.SqT K (L2.upd H b o) a xs := by
  rcases h with (h | ⟨q, h⟩) | h
  · have : a ≠ b := by
      rintro rfl
      rcases n with n | ⟨ys, n⟩ | ⟨ys, n⟩ | ⟨o, ys, n⟩ <;> rw [n] at h <;> cases h
    exact .inl (.inl (by rw [L2.upd_ne this]; exact h))
  · have : a ≠ b := by
      rintro rfl
      rcases n with n | ⟨ys, n⟩ | ⟨ys, n⟩ | ⟨o, ys, n⟩ <;> rw [n] at h <;> cases h
    exact .inl (.inr ⟨q, by rw [L2.upd_ne this]; exact h⟩)
  · exact .inr h
theorem FzL.upd {a b : Addr} {xs : List L2.V} {o : L2.HO} (h : FzL K H a xs) (n : Wr H b) : FzL K (L2.upd H b o) a xs := by
  rcases h with ⟨q, h⟩ | h
  · have : a ≠ b := by
      rintro rfl
      rcases n with n | ⟨ys, n⟩ | ⟨ys, n⟩ | ⟨o, ys, n⟩ <;> rw [n] at h <;> cases h
    exact .inl ⟨q, by rw [L2.upd_ne this]; exact h⟩
  · exact .inr h
theorem Ext.upd {b : Addr} {o : L2.HO} {g : List Addr} (n : Wr H b) : Ext K f H (f ++ g) (L2.upd H b o) := ⟨⟨g, rfl⟩, fun _ _ h => SqT.upd h n⟩
theorem Ext.upd0 {b : Addr} {o : L2.HO} (n : Wr H b) : Ext K f H f (L2.upd H b o) := ⟨⟨[], by simp⟩, fun _ _ h => SqT.upd h n⟩
theorem RC.upd {c : C} {a b : Addr} {o : L2.HO} (h : RC K f H c a) (e : Ext K f H f' (L2.upd H b o)) (n : Wr H b) (ne : mutC c = true → a ≠ b) : RC K f' (L2.upd H b o) c a := by
  cases c with
  | lst ds =>
    obtain ⟨vs, h1, h2⟩ := h
    exact ⟨vs, by rw [L2.upd_ne (ne rfl)]; exact h1, h2.mono e⟩
  | frz ds =>
    obtain ⟨vs, h1, h2⟩ := h
    exact ⟨vs, h1.upd n, h2.mono e⟩
  | dic kvs =>
    obtain ⟨ks, h1, h2, h3⟩ := h
    exact ⟨ks, by rw [L2.upd_ne (ne rfl)]; exact h1, h2, h3.mono e⟩
  | frd kvs tk =>
    obtain ⟨h1, h2, h3⟩ := h
    exact ⟨by rw [L2.upd_ne (ne rfl)]; exact h1, h2, h3.mono e⟩
theorem RC.some {c : C} {a : Addr} (h : RC K f H c a) (m : mutC c = true) : H a ≠ none := by
  cases c with
  | lst ds => obtain ⟨vs, h1, _⟩ := h; rw [h1]; simp
  | frz ds => cases m
  | dic kvs => obtain ⟨ks, h1, _⟩ := h; rw [h1]; simp
  | frd kvs tk => obtain ⟨h1, _⟩ := h; rw [h1]; simp
/-- a new tracked object that is no cell (a tuple) -/
theorem RelS.lay (r : RelS K f st H) {p : Addr} {o : L2.HO} (hp : H p = none) : RelS K f st (L2.upd H p o) ∧ Ext K f H f (L2.upd H p o) := by
  have e : Ext K f H f (L2.upd H p o) := Ext.upd0 (.inl hp)
  exact ⟨⟨r.len, r.nd, fun n c a h1 h2 => (r.cell n c a h1 h2).upd e (.inl hp) fun m z => (r.cell n c a h1 h2).some m (z ▸ hp)⟩, e⟩
/-- a new cell -/
theorem RelS.new (r : RelS K f st H) {p : Addr} {o : L2.HO} {c : C} (hp : H p = none) (hc : RC K (f ++ [p]) (L2.upd H p o) c p) : RelS K (f ++ [p]) (st ++ [c]) (L2.upd H p o) ∧ Ext K f H (f ++ [p]) (L2.upd H p o) := by
  have e : Ext K f H (f ++ [p]) (L2.upd H p o) := Ext.upd (.inl hp)
  have split : ∀ {n : Nat} {c' : C} {a : Addr}, (st ++ [c])[n]? = some c' → (f ++ [p])[n]? = some a → (n < st.length ∧ st[n]? = some c' ∧ f[n]? = some a) ∨ (n = st.length ∧ c' = c ∧ a = p) := fun {n c' a} h1 h2 => by
    have hl := r.len
    by_cases hn : n < st.length
    · rw [List.getElem?_append_left hn] at h1
      rw [List.getElem?_append_left (by rw [r.len]; exact hn)] at h2
      exact .inl ⟨hn, h1, h2⟩
    · rw [List.getElem?_append_right (by omega)] at h1
      rw [List.getElem?_append_right (by rw [r.len]; omega)] at h2
      have e0 : n - st.length = 0 := by
        have := (List.getElem?_eq_some_iff.mp h1).1
        simp at this; omega
      rw [e0] at h1
      rw [hl, e0] at h2
      simp at h1 h2
      exact .inr ⟨by omega, h1.symm, h2.symm⟩
  refine ⟨⟨by simp [r.len], fun n m c1 c2 a h1 h2 m1 m2 h3 h4 => ?_, fun n c' a h1 h2 => ?_⟩, e⟩
  · rcases split h1 h3 with ⟨l1, s1, t1⟩ | ⟨l1, rfl, rfl⟩ <;> rcases split h2 h4 with ⟨l2, s2, t2⟩ | ⟨l2, rfl, e2⟩
    · exact r.nd n m c1 c2 a s1 s2 m1 m2 t1 t2
    · subst e2
      exact absurd hp ((r.cell n c1 _ s1 t1).some m1)
    · exact absurd hp ((r.cell m c2 _ s2 t2).some m2)
    · omega
  · rcases split h1 h2 with ⟨l1, s1, t1⟩ | ⟨l1, rfl, rfl⟩
    · exact (r.cell n c' a s1 t1).upd e (.inl hp) fun m z => (r.cell n c' a s1 t1).some m (z ▸ hp)
    · exact hc
/-- a cell is changed -/
theorem RelS.chg (r : RelS K f st H) {p : Addr} {n : Nat} {c c' : C} {o : L2.HO} (hs : st[n]? = some c) (hm : mutC c = true) (hn : f[n]? = some p) (hp : Wr H p) (hm' : mutC c' = true) (hd : RC K f (L2.upd H p o) c' p) :
    RelS K f (st.set n c') (L2.upd H p o) ∧ Ext K f H f (L2.upd H p o) := by
  have e : Ext K f H f (L2.upd H p o) := Ext.upd0 hp
  have hl : n < st.length := (List.getElem?_eq_some_iff.mp hs).1
  have split : ∀ {m : Nat} {d : C}, (st.set n c')[m]? = some d → (m = n ∧ d = c') ∨ (m ≠ n ∧ st[m]? = some d) := fun {m d} h => by
    by_cases hmn : m = n
    · subst hmn
      rw [List.getElem?_set_self hl] at h
      cases h
      exact .inl ⟨rfl, rfl⟩
    · rw [List.getElem?_set_ne (Ne.symm hmn)] at h
      exact .inr ⟨hmn, h⟩
  refine ⟨⟨by simp [r.len], fun i j c1 c2 a h1 h2 m1 m2 h3 h4 => ?_, fun m d a h1 h2 => ?_⟩, e⟩
  · rcases split h1 with ⟨rfl, rfl⟩ | ⟨n1, s1⟩ <;> rcases split h2 with ⟨rfl, rfl⟩ | ⟨n2, s2⟩
    · rfl
    · exact r.nd _ _ _ _ a hs s2 hm m2 h3 h4
    · exact r.nd _ _ _ _ a s1 hs m1 hm h3 h4
    · exact r.nd _ _ _ _ a s1 s2 m1 m2 h3 h4
  · rcases split h1 with ⟨rfl, rfl⟩ | ⟨n1, s1⟩
    · rw [hn] at h2; cases h2
      exact hd
    · exact (r.cell m d a s1 h2).upd e hp fun md z => by
        subst z
        exact n1 (r.nd _ _ _ _ a s1 hs md hm h2 hn)
end
end Pd
end PartPdSoundA

section PartPdSoundB
set_option Elab.async false
set_option linter.all false
set_option maxRecDepth 100000
set_option maxHeartbeats 1000000
/-! Pd over the hand layer: lifting, expressions. Own work. -/
namespace Pd
open PySem PySem.Spec

/-! ### what is wanted, lifted -/
def LQ (K : Kf) (f : List Addr) (H : Hp) (Q' : Pd.K) (Q : L2.VK) : Prop :=
  ∀ (d : D) (st' : Store) (v : L2.V) (f' : List Addr) (H' : Hp), Q' d st' → Ext K f H f' H' → RelS K f' st' H' → RD K f' H' d v → Q v H'
def LT (K : Kf) (f : List Addr) (H : Hp) (Q' : Bool → Store → Prop) (Q : Bool → Hp → Prop) : Prop :=
  ∀ (b : Bool) (st' : Store) (f' : List Addr) (H' : Hp), Q' b st' → Ext K f H f' H' → RelS K f' st' H' → Q b H'
def LA (K : Kf) (f : List Addr) (H : Hp) (Q' : List D → Store → Prop) (Q : List L2.V → Hp → Prop) : Prop :=
  ∀ (ds : List D) (st' : Store) (vs : List L2.V) (f' : List Addr) (H' : Hp), Q' ds st' → Ext K f H f' H' → RelS K f' st' H' → RDs K f' H' ds vs → Q vs H'
def lift (K : Kf) (t : TE) : L2.TE := fun σ H Q => ∃ f ρ st Q', Rel K f ρ st σ H ∧ t ρ st Q' ∧ LQ K f H Q' Q
def liftT (K : Kf) (t : TT) : L2.TT := fun σ H Q => ∃ f ρ st Q', Rel K f ρ st σ H ∧ t ρ st Q' ∧ LT K f H Q' Q
def liftA (K : Kf) (t : TA) : L2.TA := fun σ H Q => ∃ f ρ st Q', Rel K f ρ st σ H ∧ t ρ st Q' ∧ LA K f H Q' Q
abbrev PD (X : L2.Cx) (e : Expr) (t : TE) : Prop := L2.PE X e (lift X.K t)
abbrev PDT (X : L2.Cx) (e : Expr) (t : TT) : Prop := L2.PT X e (liftT X.K t)
abbrev PDA (X : L2.Cx) (es : List Expr) (t : TA) : Prop := L2.PA X es (liftA X.K t)
section
variable {X : L2.Cx} {K : Kf} {f f' : List Addr} {H H' : Hp} {st st' : Store} {ρ : Env} {σ : L2.St}
theorem pe_imp {e : Expr} {t t' : L2.TE} (h : L2.PE X e t) (m : ∀ σ H Q, t' σ H Q → t σ H Q) : L2.PE X e t' := ⟨fun pins s σ H Q I q => h.run pins s σ H Q I (m σ H Q q)⟩
theorem pt_imp {e : Expr} {t t' : L2.TT} (h : L2.PT X e t) (m : ∀ σ H Q, t' σ H Q → t σ H Q) : L2.PT X e t' := ⟨fun pins s σ H Q I q => h.run pins s σ H Q I (m σ H Q q)⟩
theorem pa_imp {e : List Expr} {t t' : L2.TA} (h : L2.PA X e t) (m : ∀ σ H Q, t' σ H Q → t σ H Q) : L2.PA X e t' := ⟨fun pos pins s σ H Q I q => h.run pos pins s σ H Q I (m σ H Q q)⟩
theorem LQ.later {Q' : Pd.K} {Q : L2.VK} (l : LQ K f H Q' Q) (e : Ext K f H f' H') : LQ K f' H' Q' Q := fun d st' v f2 H2 q e2 s r => l d st' v f2 H2 q (e.trans e2) s r
theorem LQ.now {Q' : Pd.K} {Q : L2.VK} {d : D} {v : L2.V} (l : LQ K f H Q' Q) (s : RelS K f st H) (q : Q' d st) (r : RD K f H d v) : Q v H := l d st v f H q .refl s r
/-- a new tuple -/
theorem LQ.tup {Q' : Pd.K} {Q : L2.VK} {ds : List D} {vs : List L2.V} (l : LQ K f H Q' Q) (s : RelS K f st H) (q : Q' (.tup ds) st) (r : RDs K f H ds vs) {p : Addr} (hp : H p = none) : Q (.ref p) (L2.upd H p (.tup vs)) := by
  obtain ⟨s', e⟩ := s.lay (o := .tup vs) hp
  exact l _ st _ f _ q e s' (RD.tup.mpr ⟨p, vs, rfl, .of L2.upd_same, r.mono e⟩)
/-- a new list -/
theorem LQ.lst {Q' : Pd.K} {Q : L2.VK} {ds : List D} {vs : List L2.V} (l : LQ K f H Q' Q) (s : RelS K f st H) (q : Q' (.ref st.length) (st ++ [.lst ds])) (r : RDs K f H ds vs) {p : Addr} (hp : H p = none) : Q (.ref p) (L2.upd H p (.lst vs)) := by
  have e : Ext K f H (f ++ [p]) (L2.upd H p (.lst vs)) := Ext.upd (.inl hp)
  obtain ⟨s', e⟩ := s.new (o := .lst vs) (c := .lst ds) hp ⟨vs, L2.upd_same, r.mono e⟩
  exact l _ _ _ _ _ q e s' (RD.ref.mpr ⟨p, by rw [← s.len]; simp, rfl⟩)
/-- a changed list -/
theorem RelS.put {n : Nat} {a : Addr} {xs ds : List D} {vs ws : List L2.V} (s : RelS K f st H) (hn : f[n]? = some a) (h : Pd.rdL st n xs) (hH : H a = some (.lst vs)) (r : RDs K f H ds ws) :
    RelS K f (st.set n (.lst ds)) (L2.upd H a (.lst ws)) ∧ Ext K f H f (L2.upd H a (.lst ws)) :=
  s.chg (c := .lst xs) h rfl hn (.inr (.inl ⟨vs, hH⟩)) rfl ⟨ws, L2.upd_same, r.mono (Ext.upd0 (.inr (.inl ⟨vs, hH⟩)))⟩

/-! ### names, constants -/
theorem pd_var {i : Nat} {x : Str} {pos : Pos} (hN : X.N[i]? = some x) (hv : L2.Vis X.env.scope x := by first | exact .inl rfl | exact .inr (.inl rfl) | exact .inr (.inr rfl)) (hd : (x == ("__debug__" : Str)) = false := by decide) (hcd : (x == ("__classdict__" : Str)) = false := by decide) : PD X (.Name x pos) (dVar i) := by
  refine pe_imp (L2.pe_var hN hv hd hcd) fun σ H Q ⟨f, ρ, st, Q', R, ⟨d, h1, h2⟩, l⟩ => ?_
  obtain ⟨v, e, r⟩ := R.env i d h1
  exact ⟨v, e, l.now R.toRelS h2 r⟩
theorem pd_int {i : Int} {j pos} : PD X (.Constant (.int i) j pos) (dC (.int i)) := pe_imp L2.pe_int fun σ H Q ⟨f, ρ, st, Q', R, h, l⟩ => l.now R.toRelS h (RD.int.mpr rfl)
theorem pd_bl {b : Bool} {j pos} : PD X (.Constant (.bool b) j pos) (dC (.bl b)) := pe_imp L2.pe_bl fun σ H Q ⟨f, ρ, st, Q', R, h, l⟩ => l.now R.toRelS h (RD.bl.mpr rfl)
theorem pd_non {j pos} : PD X (.Constant .none j pos) (dC .non) := pe_imp L2.pe_non fun σ H Q ⟨f, ρ, st, Q', R, h, l⟩ => l.now R.toRelS h (RD.non.mpr rfl)
theorem pd_str {x : Str} {j pos} : PD X (.Constant (.str x) j pos) (dC (.str x)) := pe_imp L2.pe_str fun σ H Q ⟨f, ρ, st, Q', R, h, l⟩ => l.now R.toRelS h (RD.str.mpr rfl)
/-- a constant of the module: data -/
theorem pd_glob {x : Str} {d : D} {u : Value} {pos : Pos} (hg : L2.Gl X x) (hm : X.mg x = some u) (h : ∃ v, L2.RelV v u ∧ ∀ f H, RD X.K f H d v) (hd : (x == ("__debug__" : Str)) = false := by decide) : PD X (.Name x pos) (dC d) := by
  obtain ⟨v, r, hr⟩ := h
  exact pe_imp (L2.pe_glob hg hm r hd) fun σ H Q ⟨f, ρ, st, Q', R, h, l⟩ => l.now R.toRelS h (hr f H)

/-! ### operators -/
def Real2 (K : Kf) (r : L2.R2) (k : K2) : Prop := ∀ (f : List Addr) (st : Store) (H : Hp) (x y : D) (v w : L2.V) (Q' : Pd.K) (Q : L2.VK), RelS K f st H → RD K f H x v → RD K f H y w → k x y st Q' → LQ K f H Q' Q → r v w H Q
def Real1 (K : Kf) (r : L2.V → Hp → L2.VK → Prop) (k : D → Store → Pd.K → Prop) : Prop := ∀ (f : List Addr) (st : Store) (H : Hp) (x : D) (v : L2.V) (Q' : Pd.K) (Q : L2.VK), RelS K f st H → RD K f H x v → k x st Q' → LQ K f H Q' Q → r v H Q
theorem two_imp {r : L2.R2} {k : K2} {ta tb : TE} (hr : Real2 K r k) {Q : L2.VK} (h : lift K (dOp k ta tb) σ H Q) : L2.tOp r (lift K ta) (lift K tb) σ H Q := by
  obtain ⟨f, ρ, st, Q', R, h, l⟩ := h
  refine ⟨f, ρ, st, _, R, h, fun x st1 v f1 H1 h1 e1 s1 r1 => ⟨f1, ρ, st1, _, R.later e1 s1, h1, fun y st2 w f2 H2 h2 e2 s2 r2 => ?_⟩⟩
  exact hr f2 st2 H2 x y v w Q' Q s2 (r1.mono e2) r2 h2 (l.later (e1.trans e2))
section
variable {a b c : Expr} {ta tb tc : TE} {pos : Pos}
theorem pd_op {op : Operator} {r : L2.R2} {k : K2} (ho : L2.OpR X (binaryOp op) r) (hr : Real2 X.K r k) (ha : PD X a ta) (hb : PD X b tb) : PD X (.BinOp a op b pos) (dOp k ta tb) :=
  pe_imp (L2.pe_op ho ha hb) fun σ H Q h => two_imp hr h
theorem pd_un {op : UnaryOp} {r : L2.V → Hp → L2.VK → Prop} {k : D → Store → Pd.K → Prop} (ho : L2.UnR X (unaryOp op) r) (hr : Real1 X.K r k) (ha : PD X a ta) : PD X (.UnaryOp op a pos) (dUn k ta) := by
  refine pe_imp (L2.pe_un ho ha) fun σ H Q ⟨f, ρ, st, Q', R, h, l⟩ => ?_
  exact ⟨f, ρ, st, _, R, h, fun x st1 v f1 H1 h1 e1 s1 r1 => hr f1 st1 H1 x v Q' Q s1 r1 h1 (l.later e1)⟩
end
theorem real_int {g : Int → Int → Int} {C : Int → Int → Prop} {k : K2} (hk : ∀ x y st Q, k x y st Q → ∃ i j, x = .int i ∧ y = .int j ∧ C i j ∧ Q (.int (g i j)) st) : Real2 K (L2.rI C fun i j => .int (g i j)) k := by
  intro f st H x y v w Q' Q s r1 r2 h l
  obtain ⟨i, j, rfl, rfl, hc, q⟩ := hk x y st Q' h
  rw [RD.int] at r1 r2
  exact ⟨i, j, r1, r2, hc, l.now s q (RD.int.mpr rfl)⟩
theorem real_int0 {g : Int → Int → Int} {k : K2} (hk : ∀ x y st Q, k x y st Q → ∃ i j, x = .int i ∧ y = .int j ∧ Q (.int (g i j)) st) : Real2 K (L2.rI0 fun i j => .int (g i j)) k := by
  intro f st H x y v w Q' Q s r1 r2 h l
  obtain ⟨i, j, rfl, rfl, q⟩ := hk x y st Q' h
  rw [RD.int] at r1 r2
  exact ⟨i, j, r1, r2, l.now s q (RD.int.mpr rfl)⟩
/-- + -/
def rAdd (K : Kf) : L2.R2 := fun x y H Q => (∃ i j, x = .int i ∧ y = .int j ∧ Q (.int (i + j)) H) ∨ (∃ i j, x = .str i ∧ y = .str j ∧ i.length + j.length ≤ sizeLine ∧ Q (.str (i ++ j)) H) ∨ L2.rCatA K x y H Q ∨ L2.rCat x y H Q
theorem op_addA : L2.OpR X (binaryOp .Add) (rAdd X.K) := (L2.op_add (X := X)).or (L2.op_add_str.or (L2.op_catA.or L2.op_cat))
theorem RDs.isNil {ds : List D} {vs : List L2.V} (h : RDs K f H ds vs) : ds = [] ↔ vs = [] := by
  have := h.length
  constructor
  · rintro rfl; exact List.length_eq_zero_iff.mp (by simpa using this)
  · rintro rfl; exact List.length_eq_zero_iff.mp (by simpa using this.symm)
theorem real_add : Real2 K (rAdd K) addK := by
  intro f st H x y v w Q' Q s r1 r2 h l
  cases x <;> cases y <;> try (exact h.elim)
  · rw [RD.int] at r1 r2
    exact .inl ⟨_, _, r1, r2, l.now s h (RD.int.mpr rfl)⟩
  · rw [RD.str] at r1 r2
    obtain ⟨h1, h2⟩ := h
    exact .inr (.inl ⟨_, _, r1, r2, by rw [← szl_eq]; exact h1, l.now s h2 (RD.str.mpr rfl)⟩)
  · rw [RD.tup] at r1 r2
    obtain ⟨a, vs, rfl, t1, d1⟩ := r1
    obtain ⟨b, ws, rfl, t2, d2⟩ := r2
    obtain ⟨h1, h2⟩ := h
    refine .inr (.inr (.inl ⟨a, b, vs, ws, rfl, rfl, t1, t2, by rw [d1.length, d2.length, ← szl_eq]; exact h1, fun e => ?_, fun _ e => ?_, fun _ _ p hp => ?_⟩))
    · have e' := d1.isNil.mpr e
      subst e'
      exact l.now s h2 (RD.tup.mpr ⟨b, ws, rfl, t2, d2⟩)
    · have e' := d2.isNil.mpr e
      subst e'
      rw [List.append_nil] at h2
      exact l.now s h2 (RD.tup.mpr ⟨a, vs, rfl, t1, d1⟩)
    · exact l.tup s h2 (d1.append d2) hp
  · rw [RD.ref] at r1 r2
    obtain ⟨a, e1, rfl⟩ := r1
    obtain ⟨b, e2, rfl⟩ := r2
    obtain ⟨xs, ys, h1, h2, h3, h4⟩ := h
    obtain ⟨a', vs, g1, g2, g3⟩ := s.rdL h1
    obtain ⟨b', ws, k1, k2, k3⟩ := s.rdL h2
    rw [e1] at g1; cases g1
    rw [e2] at k1; cases k1
    exact .inr (.inr (.inr ⟨a, b, vs, ws, rfl, rfl, g2, k2, by rw [g3.length, k3.length, ← szl_eq]; exact h3, fun p hp => l.lst s h4 (g3.append k3) hp⟩))
theorem real_sub : Real2 K (L2.rI0 fun i j => .int (i - j)) subK := real_int0 fun x y st Q h => by
  cases x <;> cases y <;> first | exact h.elim | exact ⟨_, _, rfl, rfl, h⟩
def rMul : L2.R2 := fun x y H Q => L2.rI L2.CMul (fun i j => .int (i * j)) x y H Q ∨ L2.rRep x y H Q
theorem op_mulA : L2.OpR X (binaryOp .Mult) rMul := (L2.op_mul (X := X)).or L2.op_rep
theorem RDs.rep {ds : List D} {vs : List L2.V} (h : RDs K f H ds vs) : ∀ n : Nat, RDs K f H (List.replicate n ds).flatten (List.replicate n vs).flatten
  | 0 => by simp [RDs.nil]
  | n + 1 => by
    rw [List.replicate_succ, List.replicate_succ, List.flatten_cons, List.flatten_cons]
    exact h.append (RDs.rep h n)
theorem real_mul : Real2 K rMul mulK := by
  intro f st H x y v w Q' Q s r1 r2 h l
  cases x <;> cases y <;> try (exact h.elim)
  · rw [RD.int] at r1 r2
    obtain ⟨h1, h2⟩ := h
    exact .inl ⟨_, _, r1, r2, h1, l.now s h2 (RD.int.mpr rfl)⟩
  · rw [RD.ref] at r1
    rw [RD.int] at r2
    obtain ⟨a, e1, rfl⟩ := r1
    obtain ⟨xs, h1, h2, h3, h4, h5⟩ := h
    obtain ⟨a', vs, g1, g2, g3⟩ := s.rdL h1
    rw [e1] at g1; cases g1
    exact .inr ⟨a, _, vs, rfl, r2, g2, h2, h3, by rw [g3.length, ← szl_eq]; exact h4, fun p hp => l.lst s h5 (g3.rep _) hp⟩
theorem real_fdiv : Real2 K (L2.rI L2.CDiv fun i j => .int (i / j)) fdivK := real_int fun x y st Q h => by
  cases x <;> cases y <;> first | exact h.elim | exact ⟨_, _, rfl, rfl, h⟩
theorem real_mod : Real2 K (L2.rI (fun _ j => 0 < j) fun i j => .int (i % j)) modK := real_int fun x y st Q h => by
  cases x <;> cases y <;> first | exact h.elim | exact ⟨_, _, rfl, rfl, h⟩
theorem real_pow : Real2 K (L2.rI L2.CPow fun i j => .int (i ^ j.toNat)) powK := real_int fun x y st Q h => by
  cases x <;> cases y <;> first | exact h.elim | exact ⟨_, _, rfl, rfl, h⟩
theorem real_shl : Real2 K (L2.rI L2.CPow fun i j => .int (i * 2 ^ j.toNat)) shlK := real_int fun x y st Q h => by
  cases x <;> cases y <;> first | exact h.elim | exact ⟨_, _, rfl, rfl, h⟩
theorem real_shr : Real2 K (L2.rI (fun _ j => 0 ≤ j) fun i j => .int (i / 2 ^ j.toNat)) shrK := real_int fun x y st Q h => by
  cases x <;> cases y <;> first | exact h.elim | exact ⟨_, _, rfl, rfl, h⟩
theorem real_and : Real2 K (L2.rI0 fun i j => .int (Builtin.bitAnd i j)) andK := real_int0 fun x y st Q h => by
  cases x <;> cases y <;> first | exact h.elim | exact ⟨_, _, rfl, rfl, h⟩
theorem real_or : Real2 K (L2.rI0 fun i j => .int (Builtin.bitOr i j)) orK := real_int0 fun x y st Q h => by
  cases x <;> cases y <;> first | exact h.elim | exact ⟨_, _, rfl, rfl, h⟩
theorem real_xor : Real2 K (L2.rI0 fun i j => .int (Builtin.bitXor i j)) xorK := real_int0 fun x y st Q h => by
  cases x <;> cases y <;> first | exact h.elim | exact ⟨_, _, rfl, rfl, h⟩
theorem real_neg : Real1 K (L2.rU fun i => .int (-i)) negK := by
  intro f st H x v Q' Q s r1 h l
  cases x <;> try (exact h.elim)
  rw [RD.int] at r1
  exact ⟨_, r1, l.now s h (RD.int.mpr rfl)⟩
theorem real_inv : Real1 K (L2.rU fun i => .int (Builtin.bitNot i)) invK := by
  intro f st H x v Q' Q s r1 h l
  cases x <;> try (exact h.elim)
  rw [RD.int] at r1
  exact ⟨_, r1, l.now s h (RD.int.mpr rfl)⟩
section
variable {a b c : Expr} {ta tb tc : TE} {pos : Pos}
theorem pd_add (ha : PD X a ta) (hb : PD X b tb) : PD X (.BinOp a .Add b pos) (dOp addK ta tb) := pd_op op_addA real_add ha hb
theorem pd_sub (ha : PD X a ta) (hb : PD X b tb) : PD X (.BinOp a .Sub b pos) (dOp subK ta tb) := pd_op L2.op_sub real_sub ha hb
theorem pd_mul (ha : PD X a ta) (hb : PD X b tb) : PD X (.BinOp a .Mult b pos) (dOp mulK ta tb) := pd_op op_mulA real_mul ha hb
theorem pd_fdiv (ha : PD X a ta) (hb : PD X b tb) : PD X (.BinOp a .FloorDiv b pos) (dOp fdivK ta tb) := pd_op L2.op_fdiv real_fdiv ha hb
theorem pd_mod (ha : PD X a ta) (hb : PD X b tb) : PD X (.BinOp a .Mod b pos) (dOp modK ta tb) := pd_op L2.op_mod real_mod ha hb
theorem pd_pow (ha : PD X a ta) (hb : PD X b tb) : PD X (.BinOp a .Pow b pos) (dOp powK ta tb) := pd_op L2.op_pow real_pow ha hb
theorem pd_shl (ha : PD X a ta) (hb : PD X b tb) : PD X (.BinOp a .LShift b pos) (dOp shlK ta tb) := pd_op L2.op_shl real_shl ha hb
theorem pd_shr (ha : PD X a ta) (hb : PD X b tb) : PD X (.BinOp a .RShift b pos) (dOp shrK ta tb) := pd_op L2.op_shr real_shr ha hb
theorem pd_and (ha : PD X a ta) (hb : PD X b tb) : PD X (.BinOp a .BitAnd b pos) (dOp andK ta tb) := pd_op L2.op_and real_and ha hb
theorem pd_or (ha : PD X a ta) (hb : PD X b tb) : PD X (.BinOp a .BitOr b pos) (dOp orK ta tb) := pd_op L2.op_or real_or ha hb
theorem pd_xor (ha : PD X a ta) (hb : PD X b tb) : PD X (.BinOp a .BitXor b pos) (dOp xorK ta tb) := pd_op L2.op_xor real_xor ha hb
theorem pd_neg (ha : PD X a ta) : PD X (.UnaryOp .USub a pos) (dUn negK ta) := pd_un L2.un_neg real_neg ha
theorem pd_inv (ha : PD X a ta) : PD X (.UnaryOp .Invert a pos) (dUn invK ta) := pd_un L2.un_inv real_inv ha
end

/-! ### comparisons -/
mutual
def toP : D → PyData
  | .non => .none
  | .bl b => .bool b
  | .int i => .int i
  | .str x => .str x
  | .tup xs => .tuple (toPs xs)
  | .ref _ => .none
def toPs : List D → List PyData
  | [] => []
  | x :: xs => toP x :: toPs xs
end
theorem strOk_of {x : Str} (h : okS x = true) : PyData.strOk x = true := by
  unfold okS at h
  unfold PyData.strOk
  rw [← Array.all_toList]
  exact h
mutual
theorem toP_dp {n : Nat} : ∀ (d : D) {v : L2.V}, D.okd n d = true → RD K f H d v → L2.Dp K H v (toP d)
  | .non, _, _, h => by rw [RD.non] at h; subst h; exact .non
  | .bl b, _, _, h => by rw [RD.bl] at h; subst h; exact .bl b
  | .int i, _, _, h => by rw [RD.int] at h; subst h; exact .int i
  | .str x, _, _, h => by rw [RD.str] at h; subst h; exact .str x
  | .ref _, _, ok, h => by simp [D.okd] at ok
  | .tup xs, _, ok, h => by
    cases n with
    | zero => simp [D.okd] at ok
    | succ n =>
      rw [RD.tup] at h
      obtain ⟨a, vs, rfl, h1, h2⟩ := h
      exact .tup h1 (toPs_dp xs (n := n) (by simpa [D.okd] using ok) h2)
theorem toPs_dp {n : Nat} : ∀ (ds : List D) {vs : List L2.V}, okds n ds = true → RDs K f H ds vs → L2.DpAll K H vs (toPs ds)
  | [], _, _, h => by rw [RDs.nil] at h; subst h; exact .nil
  | d :: ds, _, ok, h => by
    rw [RDs.cons] at h
    obtain ⟨v, r, rfl, h1, h2⟩ := h
    have ok' : D.okd n d = true ∧ okds n ds = true := by simpa [okds] using ok
    exact .cons (toP_dp d ok'.1 h1) (toPs_dp ds ok'.2 h2)
end
mutual
theorem toP_ok {n : Nat} : ∀ (d : D), D.okd n d = true → (toP d).canLay0 = true ∧ (toP d).depth ≤ n
  | .non, _ => by simp [toP, PyData.canLay0, PyData.depth]
  | .bl b, _ => by simp [toP, PyData.canLay0, PyData.depth]
  | .int i, _ => by simp [toP, PyData.canLay0, PyData.depth]
  | .str x, ok => by
    have : okS x = true := by simpa [D.okd] using ok
    simp [toP, PyData.canLay0, PyData.depth, strOk_of this]
  | .ref _, ok => by simp [D.okd] at ok
  | .tup xs, ok => by
    cases n with
    | zero => simp [D.okd] at ok
    | succ n =>
      obtain ⟨h1, h2⟩ := toPs_ok xs (n := n) (by simpa [D.okd] using ok)
      simp [toP, PyData.canLay0, PyData.depth, h1, h2]
theorem toPs_ok {n : Nat} : ∀ (ds : List D), okds n ds = true → PyData.canLayAll0 (toPs ds) = true ∧ PyData.depthAll (toPs ds) ≤ n
  | [], _ => by simp [toPs, PyData.canLayAll0, PyData.depthAll]
  | d :: ds, ok => by
    have ok' : D.okd n d = true ∧ okds n ds = true := by simpa [okds] using ok
    obtain ⟨h1, h2⟩ := toP_ok d ok'.1
    obtain ⟨h3, h4⟩ := toPs_ok ds ok'.2
    simp [toPs, PyData.canLayAll0, PyData.depthAll, h1, h3]
    omega
end
theorem shaped_of {d : D} (h : D.okd 60 d = true) : SeqAt.shaped (toP d) = true := by
  obtain ⟨h1, h2⟩ := toP_ok d h
  unfold SeqAt.shaped
  rw [h1, decide_eq_true (by omega)]
  rfl
theorem shaped_ofs {ds : List D} (h : okds 60 ds = true) : SeqAt.shaped (.list (toPs ds)) = true := by
  obtain ⟨h1, h2⟩ := toPs_ok ds h
  have e1 : (PyData.list (toPs ds)).canLay0 = true := by simpa [PyData.canLay0] using h1
  have e2 : (PyData.list (toPs ds)).depth = PyData.depthAll (toPs ds) + 1 := by simp [PyData.depth]
  unfold SeqAt.shaped
  rw [e1, e2, decide_eq_true (by omega)]
  rfl
mutual
theorem toP_eqv {n m : Nat} : ∀ (d e : D), D.okd n d = true → D.okd m e = true → PyData.eqv (toP d) (toP e) = D.eqb d e
  | .tup xs, .tup ys, h1, h2 => by
    cases n with
    | zero => simp [D.okd] at h1
    | succ n =>
      cases m with
      | zero => simp [D.okd] at h2
      | succ m => simpa [toP, PyData.eqv, D.eqb] using toPs_eqv xs ys (n := n) (m := m) (by simpa [D.okd] using h1) (by simpa [D.okd] using h2)
  | .ref _, _, h1, _ => by simp [D.okd] at h1
  | d, .ref _, _, h2 => by simp [D.okd] at h2
  | .non, .non, _, _ => by simp [toP, PyData.eqv, D.eqb]
  | .non, .bl _, _, _ => by simp [toP, PyData.eqv, D.eqb]
  | .non, .int _, _, _ => by simp [toP, PyData.eqv, D.eqb]
  | .non, .str _, _, _ => by simp [toP, PyData.eqv, D.eqb]
  | .non, .tup _, _, _ => by simp [toP, PyData.eqv, D.eqb]
  | .bl _, .non, _, _ => by simp [toP, PyData.eqv, D.eqb]
  | .bl _, .bl _, _, _ => by simp [toP, PyData.eqv, D.eqb]
  | .bl b, .int _, _, _ => by cases b <;> simp [toP, PyData.eqv, D.eqb, b2i]
  | .bl _, .str _, _, _ => by simp [toP, PyData.eqv, D.eqb]
  | .bl _, .tup _, _, _ => by simp [toP, PyData.eqv, D.eqb]
  | .int _, .non, _, _ => by simp [toP, PyData.eqv, D.eqb]
  | .int _, .bl b, _, _ => by cases b <;> simp [toP, PyData.eqv, D.eqb, b2i]
  | .int _, .int _, _, _ => by simp [toP, PyData.eqv, D.eqb]
  | .int _, .str _, _, _ => by simp [toP, PyData.eqv, D.eqb]
  | .int _, .tup _, _, _ => by simp [toP, PyData.eqv, D.eqb]
  | .str _, .non, _, _ => by simp [toP, PyData.eqv, D.eqb]
  | .str _, .bl _, _, _ => by simp [toP, PyData.eqv, D.eqb]
  | .str _, .int _, _, _ => by simp [toP, PyData.eqv, D.eqb]
  | .str x, .str y, _, _ => by simp only [toP, PyData.eqv, D.eqb]; by_cases h : x = y <;> simp [h]
  | .str _, .tup _, _, _ => by simp [toP, PyData.eqv, D.eqb]
  | .tup _, .non, _, _ => by simp [toP, PyData.eqv, D.eqb]
  | .tup _, .bl _, _, _ => by simp [toP, PyData.eqv, D.eqb]
  | .tup _, .int _, _, _ => by simp [toP, PyData.eqv, D.eqb]
  | .tup _, .str _, _, _ => by simp [toP, PyData.eqv, D.eqb]
theorem toPs_eqv {n m : Nat} : ∀ (ds es : List D), okds n ds = true → okds m es = true → PyData.eqvAll (toPs ds) (toPs es) = eqbs ds es
  | [], [], _, _ => by simp [toPs, PyData.eqvAll, eqbs]
  | [], _ :: _, _, _ => by simp [toPs, PyData.eqvAll, eqbs]
  | _ :: _, [], _, _ => by simp [toPs, PyData.eqvAll, eqbs]
  | d :: ds, e :: es, h1, h2 => by
    have ok1 : D.okd n d = true ∧ okds n ds = true := by simpa [okds] using h1
    have ok2 : D.okd m e = true ∧ okds m es = true := by simpa [okds] using h2
    simp [toPs, PyData.eqvAll, eqbs, toP_eqv d e ok1.1 ok2.1, toPs_eqv ds es ok1.2 ok2.2]
end
/-- a comparison's rule against the data-level one -/
def RealC (K : Kf) (r : L2.R2) (k : KC) : Prop := ∀ (f : List Addr) (st : Store) (H : Hp) (x y : D) (v w : L2.V) (Q' : Bool → Prop) (Q : L2.VK), RelS K f st H → RD K f H x v → RD K f H y w → k x y st Q' → (∀ b, Q' b → Q (.bl b) H) → r v w H Q
theorem RealC.real {r : L2.R2} {k : KC} (h : RealC K r k) : Real2 K r fun x y st Q => k x y st fun b => Q (.bl b) st := fun f st H x y v w Q' Q s r1 r2 hk l =>
  h f st H x y v w _ Q s r1 r2 hk fun b q => l.now s q (RD.bl.mpr rfl)
theorem eqC_dp {x y : D} {v w : L2.V} {Q' : Bool → Prop} (s : RelS K f st H) (r1 : RD K f H x v) (r2 : RD K f H y w) (h : eqC x y st Q') :
    ∃ d e, L2.Dp K H v d ∧ L2.Dp K H w e ∧ SeqAt.shaped d = true ∧ SeqAt.shaped e = true ∧ Q' (PyData.eqv d e) := by
  have lst : ∀ {n : Nat} {xs : List D} {u : L2.V}, rdA st n xs → okds 60 xs = true → RD K f H (.ref n) u → L2.Dp K H u (.list (toPs xs)) := fun {n xs u} h1 h2 h3 => by
    rw [RD.ref] at h3
    obtain ⟨a, e1, rfl⟩ := h3
    obtain ⟨a', vs, g1, g2, g3⟩ := s.rdA h1
    rw [e1] at g1; cases g1
    exact .lst g2 (toPs_dp xs h2 g3)
  have pur : ∀ {x y : D} {v w : L2.V}, RD K f H x v → RD K f H y w → (D.okd 60 x = true ∧ D.okd 60 y = true ∧ Q' (D.eqb x y)) → ∃ d e, L2.Dp K H v d ∧ L2.Dp K H w e ∧ SeqAt.shaped d = true ∧ SeqAt.shaped e = true ∧ Q' (PyData.eqv d e) := fun {x y v w} r1 r2 ⟨h1, h2, h3⟩ =>
    ⟨toP x, toP y, toP_dp x h1 r1, toP_dp y h2 r2, shaped_of h1, shaped_of h2, by rw [toP_eqv x y h1 h2]; exact h3⟩
  have lefts : ∀ {n : Nat} {xs : List D} {y : D}, (∀ m, y ≠ .ref m) → rdA st n xs → okds 60 xs = true → D.okd 60 y = true → Q' false → RD K f H (.ref n) v → RD K f H y w → ∃ d e, L2.Dp K H v d ∧ L2.Dp K H w e ∧ SeqAt.shaped d = true ∧ SeqAt.shaped e = true ∧ Q' (PyData.eqv d e) := fun {n xs y} hy h1 h2 h3 h4 r1 r2 =>
    ⟨_, toP y, lst h1 h2 r1, toP_dp y h3 r2, shaped_ofs h2, shaped_of h3, by
      have : PyData.eqv (.list (toPs xs)) (toP y) = false := by
        cases y <;> first | exact absurd rfl (hy _) | simp [toP, PyData.eqv]
      rw [this]; exact h4⟩
  have rights : ∀ {n : Nat} {xs : List D} {x : D}, (∀ m, x ≠ .ref m) → rdA st n xs → okds 60 xs = true → D.okd 60 x = true → Q' false → RD K f H x v → RD K f H (.ref n) w → ∃ d e, L2.Dp K H v d ∧ L2.Dp K H w e ∧ SeqAt.shaped d = true ∧ SeqAt.shaped e = true ∧ Q' (PyData.eqv d e) := fun {n xs x} hy h1 h2 h3 h4 r1 r2 =>
    ⟨toP x, _, toP_dp x h3 r1, lst h1 h2 r2, shaped_of h3, shaped_ofs h2, by
      have : PyData.eqv (toP x) (.list (toPs xs)) = false := by
        cases x <;> first | exact absurd rfl (hy _) | simp [toP, PyData.eqv]
      rw [this]; exact h4⟩
  by_cases hx : ∃ m, x = .ref m
  · obtain ⟨m, rfl⟩ := hx
    by_cases hy : ∃ n, y = .ref n
    · obtain ⟨n, rfl⟩ := hy
      obtain ⟨xs, ys, h1, h2, h3, h4, h5⟩ := h
      exact ⟨_, _, lst h1 h3 r1, lst h2 h4 r2, shaped_ofs h3, shaped_ofs h4, by rw [show PyData.eqv (.list (toPs xs)) (.list (toPs ys)) = PyData.eqvAll (toPs xs) (toPs ys) by simp [PyData.eqv], toPs_eqv xs ys h3 h4]; exact h5⟩
    · have h' : ∃ xs, rdA st m xs ∧ okds 60 xs = true ∧ D.okd 60 y = true ∧ Q' false := by
        cases y <;> first | exact h | exact absurd ⟨_, rfl⟩ hy
      obtain ⟨xs, h1, h2, h3, h4⟩ := h'
      exact lefts (fun k e => hy ⟨k, e⟩) h1 h2 h3 h4 r1 r2
  · by_cases hy : ∃ n, y = .ref n
    · obtain ⟨n, rfl⟩ := hy
      have h' : ∃ ys, rdA st n ys ∧ okds 60 ys = true ∧ D.okd 60 x = true ∧ Q' false := by
        cases x <;> first | exact h | exact absurd ⟨_, rfl⟩ hx
      obtain ⟨xs, h1, h2, h3, h4⟩ := h'
      exact rights (fun k e => hx ⟨k, e⟩) h1 h2 h3 h4 r1 r2
    · exact pur r1 r2 (by cases x <;> cases y <;> first | exact h | exact absurd ⟨_, rfl⟩ hx | exact absurd ⟨_, rfl⟩ hy)
theorem real_eq : RealC K (L2.rEqD K) eqC := fun f st H x y v w Q' Q s r1 r2 h l => by
  obtain ⟨d, e, h1, h2, h3, h4, h5⟩ := eqC_dp s r1 r2 h
  exact ⟨d, e, h1, h2, h3, h4, l _ h5⟩
theorem real_ne : RealC K (L2.rNeD K) neC := fun f st H x y v w Q' Q s r1 r2 h l => by
  obtain ⟨d, e, h1, h2, h3, h4, h5⟩ := eqC_dp s r1 r2 h
  exact ⟨d, e, h1, h2, h3, h4, l _ h5⟩
theorem real_cmp {g : Int → Int → Bool} {k : KC} (hk : ∀ x y st Q, k x y st Q → ∃ i j, x = .int i ∧ y = .int j ∧ Q (g i j)) : RealC K (L2.rI0 fun i j => .bl (g i j)) k := by
  intro f st H x y v w Q' Q s r1 r2 h l
  obtain ⟨i, j, rfl, rfl, q⟩ := hk x y st Q' h
  rw [RD.int] at r1 r2
  exact ⟨i, j, r1, r2, l _ q⟩
theorem real_lt : RealC K (L2.rI0 fun i j => .bl (decide (i < j))) ltC := real_cmp fun x y st Q h => by
  cases x <;> cases y <;> first | exact h.elim | exact ⟨_, _, rfl, rfl, h⟩
theorem real_le : RealC K (L2.rI0 fun i j => .bl (decide (i ≤ j))) leC := real_cmp fun x y st Q h => by
  cases x <;> cases y <;> first | exact h.elim | exact ⟨_, _, rfl, rfl, h⟩
theorem real_gt : RealC K (L2.rI0 fun i j => .bl (decide (j < i))) gtC := real_cmp fun x y st Q h => by
  cases x <;> cases y <;> first | exact h.elim | exact ⟨_, _, rfl, rfl, h⟩
theorem real_ge : RealC K (L2.rI0 fun i j => .bl (decide (j ≤ i))) geC := real_cmp fun x y st Q h => by
  cases x <;> cases y <;> first | exact h.elim | exact ⟨_, _, rfl, rfl, h⟩
theorem RD.isNon {x : D} {v : L2.V} (h : RD K f H x v) : decide (v = .non) = isNon x := by
  cases x with
  | non => rw [RD.non] at h; subst h; rfl
  | bl b => rw [RD.bl] at h; subst h; rfl
  | int i => rw [RD.int] at h; subst h; rfl
  | str y => rw [RD.str] at h; subst h; rfl
  | tup ds => rw [RD.tup] at h; obtain ⟨a, vs, rfl, _⟩ := h; rfl
  | ref n => rw [RD.ref] at h; obtain ⟨a, _, rfl⟩ := h; rfl
theorem real_is : RealC K (fun x y H Q => y = .non ∧ Q (.bl (decide (x = .non))) H) isC := fun f st H x y v w Q' Q s r1 r2 h l => by
  cases y <;> try (cases x <;> exact h.elim)
  rw [RD.non] at r2
  have h' : Q' (isNon x) := by cases x <;> exact h
  exact ⟨r2, by rw [r1.isNon]; exact l _ h'⟩
theorem real_isnt : RealC K (fun x y H Q => y = .non ∧ Q (.bl (!decide (x = .non))) H) isntC := fun f st H x y v w Q' Q s r1 r2 h l => by
  cases y <;> try (cases x <;> exact h.elim)
  rw [RD.non] at r2
  have h' : Q' (!isNon x) := by cases x <;> exact h
  exact ⟨r2, by rw [r1.isNon]; exact l _ h'⟩
theorem RD.flatV {x : D} {v : L2.V} (h : RD K f H x v) (hf : x.flat = true) : L2.flatV v = true := by
  cases x with
  | non => rw [RD.non] at h; subst h; rfl
  | bl b => rw [RD.bl] at h; subst h; rfl
  | int i => rw [RD.int] at h; subst h; rfl
  | str y => rw [RD.str] at h; subst h; rfl
  | tup ds => cases hf
  | ref n => cases hf
theorem RDs.flatV : ∀ {xs : List D} {vs : List L2.V}, RDs K f H xs vs → xs.all D.flat = true → vs.all L2.flatV = true
  | [], _, h, _ => by rw [RDs.nil] at h; subst h; rfl
  | x :: xs, _, h, hf => by
    rw [RDs.cons] at h
    obtain ⟨v, r, rfl, h1, h2⟩ := h
    have hf' : x.flat = true ∧ xs.all D.flat = true := by simpa using hf
    rw [List.all_cons, h1.flatV hf'.1, RDs.flatV h2 hf'.2]; rfl
end
end Pd
end PartPdSoundB

section PartPdSoundC
set_option Elab.async false
set_option linter.all false
set_option maxRecDepth 100000
set_option maxHeartbeats 1000000
/-! Pd over the hand layer: tests, items, slices, calls, built-ins. Own work. -/
namespace Pd
open PySem PySem.Spec
section
variable {X : L2.Cx} {K : Kf} {f f' : List Addr} {H H' : Hp} {st st' : Store} {ρ : Env} {σ : L2.St}
theorem b2i_eq (b : Bool) : b2i b = (if b then 1 else 0) := rfl
theorem RD.eqV {x y : D} {v w : L2.V} (h : RD K f H x v) (h' : RD K f H y w) (hx : x.flat = true) (hy : y.flat = true) : L2.eqV v w = D.eqb x y := by
  cases x <;> cases y <;> first | (exfalso; revert hx; simp [D.flat]; done) | (exfalso; revert hy; simp [D.flat]; done) | skip
  all_goals (simp only [RD.non, RD.bl, RD.int, RD.str] at h h'; subst h; subst h'; simp [L2.eqV, D.eqb, b2i])
  rename_i s t
  by_cases e : s = t <;> simp [e]
theorem RDs.inV {y : D} {w : L2.V} (h' : RD K f H y w) (hy : y.flat = true) : ∀ {xs : List D} {vs : List L2.V}, RDs K f H xs vs → xs.all D.flat = true → L2.inV w vs = xs.any fun x => D.eqb x y
  | [], _, h, _ => by rw [RDs.nil] at h; subst h; rfl
  | x :: xs, _, h, hf => by
    rw [RDs.cons] at h
    obtain ⟨v, r, rfl, h1, h2⟩ := h
    have hf' : x.flat = true ∧ xs.all D.flat = true := by simpa using hf
    have ih := RDs.inV h' hy h2 hf'.2
    unfold L2.inV at ih ⊢
    rw [List.any_cons, List.any_cons, ih, h1.eqV h' hf'.1 hy]
theorem real_in (neg : Bool) : RealC K (L2.rIn K neg) (fun x y st Q => inC x y st fun b => Q (if neg then !b else b)) := fun f st H x y v w Q' Q s r1 r2 h l => by
  cases y <;> try (exact h.elim)
  · rw [RD.tup] at r2
    obtain ⟨a, vs, rfl, t, d⟩ := r2
    obtain ⟨h1, h2, h3⟩ := h
    refine ⟨a, vs, rfl, .inr t, r1.flatV h1, d.flatV h2, ?_⟩
    rw [RDs.inV r1 h1 d h2]
    exact l _ h3
  · rw [RD.ref] at r2
    obtain ⟨a, e, rfl⟩ := r2
    obtain ⟨xs, h0, h1, h2, h3⟩ := h
    obtain ⟨a', vs, g1, g2, g3⟩ := s.rdA h0
    rw [e] at g1; cases g1
    refine ⟨a, vs, rfl, .inl g2, r1.flatV h1, g3.flatV h2, ?_⟩
    rw [RDs.inV r1 h1 g3 h2]
    exact l _ h3
section
variable {a b c : Expr} {ta tb tc : TE} {pos : Pos}
theorem pd_cmp {op : CmpOp} {r : L2.R2} {k : KC} (ho : L2.OpR X (compareOp op) r) (hr : RealC X.K r k) (hm : behindInMarks op b = false) (ha : PD X a ta) (hb : PD X b tb) : PD X (.Compare a [op] [b] pos) (dCmp k ta tb) :=
  pe_imp (L2.pe_cmpR ho ha hb hm) fun σ H Q h => two_imp hr.real h
theorem pt_cmp {op : CmpOp} {r : L2.R2} {k : KC} (ho : L2.OpR X (compareOp op) r) (hr : RealC X.K r k) (hm : behindInMarks op b = false) (ha : PD X a ta) (hb : PD X b tb) : PDT X (.Compare a [op] [b] pos) (tTru (dCmp k ta tb)) := by
  refine pt_imp (L2.pt_cmpR ho ha hb hm) fun σ H Q ⟨f, ρ, st, Q', R, h, l⟩ => ?_
  refine ⟨f, ρ, st, _, R, h, fun x st1 v f1 H1 h1 e1 s1 r1 => ⟨f1, ρ, st1, _, R.later e1 s1, h1, fun y st2 w f2 H2 h2 e2 s2 r2 => ?_⟩⟩
  exact hr f2 st2 H2 x y v w (fun b => Q' b st2) _ s2 (r1.mono e2) r2 h2 fun b q => ⟨b, rfl, l b st2 f2 H2 q (e1.trans e2) s2⟩
theorem chain_core {r r' : L2.R2} {k k' : KC} (hr : RealC K r k) (hr' : RealC K r' k') {Q' : Bool → Store → Prop} {Q : L2.VK} {f : List Addr} {ρ : Env} {st : Store}
    (R : Rel K f ρ st σ H) (h : ta ρ st fun x st1 => tb ρ st1 fun y st2 => k x y st2 fun b => (b = true → tc ρ st2 fun z st3 => k' y z st3 fun b' => Q' b' st3) ∧ (b = false → Q' false st2))
    (l : ∀ b st' f' H', Q' b st' → Ext K f H f' H' → RelS K f' st' H' → Q (.bl b) H') : L2.tChain r r' (lift K ta) (lift K tb) (lift K tc) σ H Q := by
  refine ⟨f, ρ, st, _, R, h, fun x st1 v f1 H1 h1 e1 s1 r1 => ⟨f1, ρ, st1, _, R.later e1 s1, h1, fun y st2 w f2 H2 h2 e2 s2 r2 => ?_⟩⟩
  refine hr f2 st2 H2 x y v w _ _ s2 (r1.mono e2) r2 h2 fun b q => ⟨b, rfl, ?_⟩
  cases b with
  | false => exact l false st2 f2 H2 (q.2 rfl) (e1.trans e2) s2
  | true => exact ⟨f2, ρ, st2, _, R.later (e1.trans e2) s2, q.1 rfl, fun z st3 u f3 H3 h3 e3 s3 r3 => hr' f3 st3 H3 y z w u (fun b' => Q' b' st3) _ s3 (r2.mono e3) r3 h3 fun b' q' => l b' st3 f3 H3 q' ((e1.trans e2).trans e3) s3⟩
theorem pd_chain {op op' : CmpOp} {r r' : L2.R2} {k k' : KC} (ho : L2.OpR X (compareOp op) r) (hr : RealC X.K r k) (ho' : L2.OpR X (compareOp op') r') (hr' : RealC X.K r' k') (ha : PD X a ta) (hb : PD X b tb) (hc : PD X c tc)
    (hm : lastMarks [op, op'] [b, c] = false := by with_unfolding_all rfl) : PD X (.Compare a [op, op'] [b, c] pos) (dChain k k' ta tb tc) := by
  refine pe_imp (L2.pe_chain ho ho' ha hb hc hm) fun σ H Q ⟨f, ρ, st, Q', R, h, l⟩ => ?_
  exact chain_core hr hr' (Q' := fun b st => Q' (.bl b) st) R h fun b st' f' H' q e s => l (.bl b) st' _ f' H' q e s (RD.bl.mpr rfl)
theorem pt_chain {op op' : CmpOp} {r r' : L2.R2} {k k' : KC} (ho : L2.OpR X (compareOp op) r) (hr : RealC X.K r k) (ho' : L2.OpR X (compareOp op') r') (hr' : RealC X.K r' k') (ha : PD X a ta) (hb : PD X b tb) (hc : PD X c tc)
    (hm : lastMarks [op, op'] [b, c] = false := by with_unfolding_all rfl) : PDT X (.Compare a [op, op'] [b, c] pos) (tTru (dChain k k' ta tb tc)) := by
  refine pt_imp (L2.pt_chain ho ho' ha hb hc hm) fun σ H Q ⟨f, ρ, st, Q', R, h, l⟩ => ?_
  exact chain_core (Q := fun x H' => ∃ k, x = .bl k ∧ Q k H') hr hr' (Q' := Q') R h fun b st' f' H' q e s => ⟨b, rfl, l b st' f' H' q e s⟩

/-! ### truth -/
theorem tru_of {x : D} {v : L2.V} {Q' : Bool → Prop} (s : RelS K f st H) (r : RD K f H x v) (h : truK x st Q') : ∃ k, L2.TruV K v H k ∧ Q' k := by
  cases x with
  | non => rw [RD.non] at r; subst r; exact ⟨_, rfl, h⟩
  | bl b => rw [RD.bl] at r; subst r; exact ⟨_, rfl, h⟩
  | int i => rw [RD.int] at r; subst r; exact ⟨_, rfl, h⟩
  | str y => rw [RD.str] at r; subst r; exact ⟨_, ⟨by rw [← szl_eq]; exact h.1, rfl⟩, h.2⟩
  | tup xs =>
    rw [RD.tup] at r
    obtain ⟨a, vs, rfl, t, d⟩ := r
    refine ⟨_, .inr (.inl ⟨vs, t, rfl⟩), ?_⟩
    have : vs.isEmpty = xs.isEmpty := by
      cases xs with
      | nil => rw [RDs.nil] at d; subst d; rfl
      | cons x xs => rw [RDs.cons] at d; obtain ⟨_, _, rfl, _⟩ := d; rfl
    rw [this]; exact h
  | ref n =>
    rw [RD.ref] at r
    obtain ⟨a, e, rfl⟩ := r
    obtain ⟨xs, h1, h2⟩ := h
    obtain ⟨a', vs, g1, g2, d⟩ := s.rdA h1
    rw [e] at g1; cases g1
    refine ⟨_, .inl ⟨vs, g2, rfl⟩, ?_⟩
    have : vs.isEmpty = xs.isEmpty := by
      cases xs with
      | nil => rw [RDs.nil] at d; subst d; rfl
      | cons x xs => rw [RDs.cons] at d; obtain ⟨_, _, rfl, _⟩ := d; rfl
    rw [this]; exact h2
theorem pt_tru (ha : PD X a ta) (he : ∀ whole, isTrue a X.env whole = (do let v ← whole; standAt a.pos; holding [v] (truthy v)) := by intro _; rfl) : PDT X a (tTru ta) := by
  refine pt_imp (L2.pt_truth ha he) fun σ H Q ⟨f, ρ, st, Q', R, h, l⟩ => ?_
  refine ⟨f, ρ, st, _, R, h, fun x st1 v f1 H1 h1 e1 s1 r1 => ?_⟩
  obtain ⟨k, t, q⟩ := tru_of s1 r1 h1
  exact ⟨k, t, l k st1 f1 H1 q e1 s1⟩
abbrev PDW (X : L2.Cx) (e : Expr) (t : TT) : Prop := L2.PW X e (liftT X.K t)
theorem ptw {e : Expr} {t : TT} (h : PDW X e t) : PDT X e t := L2.PW.pt h
theorem pw_imp {e : Expr} {t t' : L2.TT} (h : L2.PW X e t) (m : ∀ σ H Q, t' σ H Q → t σ H Q) : L2.PW X e t' := ⟨fun whole pins s σ H Q I q => h.run whole pins s σ H Q I (m σ H Q q)⟩
variable {es : List Expr} {tA tB tC : TT}
theorem pw_and1 (ha : PDT X a tA) : PDW X (.BoolOp .And [a] pos) tA := L2.pw_and1 ha
theorem pw_or1 (ha : PDT X a tA) : PDW X (.BoolOp .Or [a] pos) tA := L2.pw_or1 ha
theorem pw_and (ha : PDT X a tA) (hb : PDW X (.BoolOp .And (b :: es) pos) tB) : PDW X (.BoolOp .And (a :: b :: es) pos) (tAnd tA tB) :=
  pw_imp (L2.pw_and ha hb) fun σ H Q ⟨f, ρ, st, Q', R, h, l⟩ => ⟨f, ρ, st, _, R, h, fun c st1 f1 H1 h1 e1 s1 => by
    cases c with
    | false => exact l false st1 f1 H1 (h1.2 rfl) e1 s1
    | true => exact ⟨f1, ρ, st1, Q', R.later e1 s1, h1.1 rfl, fun b st2 f2 H2 q e2 s2 => l b st2 f2 H2 q (e1.trans e2) s2⟩⟩
theorem pw_or (ha : PDT X a tA) (hb : PDW X (.BoolOp .Or (b :: es) pos) tB) : PDW X (.BoolOp .Or (a :: b :: es) pos) (tOr tA tB) :=
  pw_imp (L2.pw_or ha hb) fun σ H Q ⟨f, ρ, st, Q', R, h, l⟩ => ⟨f, ρ, st, _, R, h, fun c st1 f1 H1 h1 e1 s1 => by
    cases c with
    | true => exact l true st1 f1 H1 (h1.1 rfl) e1 s1
    | false => exact ⟨f1, ρ, st1, Q', R.later e1 s1, h1.2 rfl, fun b st2 f2 H2 q e2 s2 => l b st2 f2 H2 q (e1.trans e2) s2⟩⟩
theorem pt_not (ha : PDT X a tA) : PDT X (.UnaryOp .Not a pos) (tNot tA) :=
  pt_imp (L2.pt_not ha) fun σ H Q ⟨f, ρ, st, Q', R, h, l⟩ => ⟨f, ρ, st, _, R, h, fun c st1 f1 H1 h1 e1 s1 => l _ st1 f1 H1 h1 e1 s1⟩
theorem pd_one {op : BoolOp} (ha : PD X a ta) : PD X (.BoolOp op [a] pos) ta := L2.pe_one ha
theorem pd_and' (ha : PD X a ta) (hb : PD X (.BoolOp .And (b :: es) pos) tb) : PD X (.BoolOp .And (a :: b :: es) pos) (dAndT ta tb) :=
  pe_imp (L2.pe_andT ha hb) fun σ H Q ⟨f, ρ, st, Q', R, h, l⟩ => ⟨f, ρ, st, _, R, h, fun x st1 v f1 H1 h1 e1 s1 r1 => by
    obtain ⟨k, t, q⟩ := tru_of s1 r1 h1
    refine ⟨k, t, ?_⟩
    cases k with
    | false => exact l x st1 v f1 H1 (q.2 rfl) e1 s1 r1
    | true => exact ⟨f1, ρ, st1, Q', R.later e1 s1, q.1 rfl, l.later e1⟩⟩
theorem pd_or' (ha : PD X a ta) (hb : PD X (.BoolOp .Or (b :: es) pos) tb) : PD X (.BoolOp .Or (a :: b :: es) pos) (dOrT ta tb) :=
  pe_imp (L2.pe_orT ha hb) fun σ H Q ⟨f, ρ, st, Q', R, h, l⟩ => ⟨f, ρ, st, _, R, h, fun x st1 v f1 H1 h1 e1 s1 r1 => by
    obtain ⟨k, t, q⟩ := tru_of s1 r1 h1
    refine ⟨k, t, ?_⟩
    cases k with
    | true => exact l x st1 v f1 H1 (q.1 rfl) e1 s1 r1
    | false => exact ⟨f1, ρ, st1, Q', R.later e1 s1, q.2 rfl, l.later e1⟩⟩
theorem pd_not (ha : PD X a ta) : PD X (.UnaryOp .Not a pos) (dNotT ta) :=
  pe_imp (L2.pe_notT ha) fun σ H Q ⟨f, ρ, st, Q', R, h, l⟩ => ⟨f, ρ, st, _, R, h, fun x st1 v f1 H1 h1 e1 s1 r1 => by
    obtain ⟨k, t, q⟩ := tru_of s1 r1 h1
    exact ⟨k, t, l _ st1 _ f1 H1 q e1 s1 (RD.bl.mpr rfl)⟩⟩
theorem pd_if (hc : PDT X c tC) (ha : PD X a ta) (hb : PD X b tb) : PD X (.IfExp c a b pos) (dIf tC ta tb) :=
  pe_imp (L2.pe_ifExp hc ha hb) fun σ H Q ⟨f, ρ, st, Q', R, h, l⟩ => ⟨f, ρ, st, _, R, h, fun k st1 f1 H1 h1 e1 s1 => by
    cases k with
    | true => exact ⟨f1, ρ, st1, Q', R.later e1 s1, h1.1 rfl, l.later e1⟩
    | false => exact ⟨f1, ρ, st1, Q', R.later e1 s1, h1.2 rfl, l.later e1⟩⟩
/-- a test that is an if-expression -/
theorem pt_if {t1 t2 : TT} (hc : PDT X c tC) (ha : PDT X a t1) (hb : PDT X b t2) : PDT X (.IfExp c a b pos) (fun σ st Q => tC σ st fun k st1 => (k = true → t1 σ st1 Q) ∧ (k = false → t2 σ st1 Q)) := by
  refine ⟨fun pins s σ H Q I ⟨f, ρ, st, Q', R, h, l⟩ => ?_⟩
  show wpAny _ _ (do if ← isTrue c X.env (eval c X.env) then isTrue a X.env (eval a X.env) else isTrue b X.env (eval b X.env)) _ _ s
  refine wpAny_bind (L2.thn (hc.run pins s σ H (fun k H1 => (k = true → liftT X.K t1 σ H1 Q) ∧ (k = false → liftT X.K t2 σ H1 Q)) I ⟨f, ρ, st, _, R, h, fun k st1 f1 H1 h1 e1 s1 => ?_⟩) fun k s1 ⟨H1, I1, q⟩ => ?_)
  · exact ⟨fun e => ⟨f1, ρ, st1, Q', R.later e1 s1, h1.1 e, fun b st2 f2 H2 q e2 s2 => l b st2 f2 H2 q (e1.trans e2) s2⟩, fun e => ⟨f1, ρ, st1, Q', R.later e1 s1, h1.2 e, fun b st2 f2 H2 q e2 s2 => l b st2 f2 H2 q (e1.trans e2) s2⟩⟩
  · cases k with
    | true => exact ha.run pins s1 σ H1 Q I1 (q.1 rfl)
    | false => exact hb.run pins s1 σ H1 Q I1 (q.2 rfl)

/-! ### items and slices -/
theorem atD_at {α : Type} (xs : List α) (i : Int) : L2.atI xs i = atD xs i := by
  unfold L2.atI L2.ixN atD
  by_cases h : 0 ≤ i
  · rw [if_pos h, if_pos h]
    by_cases h2 : i < xs.length
    · rw [if_pos h2]; rfl
    · rw [if_neg h2]
      show none = _
      rw [List.getElem?_eq_none (by omega)]
  · rw [if_neg h, if_neg h]
    by_cases h2 : -(xs.length : Int) ≤ i
    · rw [if_pos h2, if_pos h2]; rfl
    · rw [if_neg h2, if_neg h2]; rfl
theorem RDs.atD {ds : List D} {vs : List L2.V} {i : Int} {d : D} (h : RDs K f H ds vs) (e : atD ds i = some d) : ∃ v, L2.atI vs i = some v ∧ RD K f H d v := by
  rw [atD_at]
  unfold Pd.atD at e ⊢
  rw [h.length]
  by_cases c : 0 ≤ i
  · rw [if_pos c] at e ⊢
    obtain ⟨v, h1, h2⟩ := h.get e; exact ⟨v, h1, h2⟩
  · rw [if_neg c] at e ⊢
    by_cases c2 : -(ds.length : Int) ≤ i
    · rw [if_pos c2] at e ⊢
      obtain ⟨v, h1, h2⟩ := h.get e; exact ⟨v, h1, h2⟩
    · rw [if_neg c2] at e; cases e
theorem real_ix : Real2 K (L2.rIx K) ixK := fun f st H x y v w Q' Q s r1 r2 h l => by
  cases x <;> cases y <;> try (exact h.elim)
  · rw [RD.str] at r1
    rw [RD.int] at r2
    obtain ⟨c, h1, h2, h3⟩ := h
    exact .inr (.inr ⟨_, _, c, r1, r2, by rw [← szl_eq]; exact h1, by rw [atD_at]; exact h2, l.now s h3 (RD.str.mpr rfl)⟩)
  · rw [RD.tup] at r1
    rw [RD.int] at r2
    obtain ⟨a, vs, rfl, t, d⟩ := r1
    obtain ⟨d', h1, h2⟩ := h
    obtain ⟨v, g1, g2⟩ := d.atD h1
    exact .inr (.inl ⟨a, vs, _, v, rfl, r2, t, g1, l.now s h2 g2⟩)
  · rw [RD.ref] at r1
    rw [RD.int] at r2
    obtain ⟨a, e, rfl⟩ := r1
    obtain ⟨xs, d', h0, h1, h2⟩ := h
    obtain ⟨a', vs, k1, k2, d⟩ := s.rdA h0
    rw [e] at k1; cases k1
    obtain ⟨v, g1, g2⟩ := d.atD h1
    exact .inl ⟨a, vs, _, v, rfl, r2, k2, g1, l.now s h2 g2⟩
theorem pd_ix (hs : L2.PlainIx b) (ha : PD X a ta) (hb : PD X b tb) : PD X (.Subscript a b pos) (dOp ixK ta tb) :=
  pe_imp (L2.pe_ix L2.ix_seq ha hb hs) fun σ H Q h => two_imp real_ix h
def liftO (K : Kf) (t : TO) : L2.TO := fun σ H Q => ∃ f ρ st Q', Rel K f ρ st σ H ∧ t ρ st Q' ∧ ∀ (o : Option Int) (st' : Store) (f' : List Addr) (H' : Hp), Q' o st' → Ext K f H f' H' → RelS K f' st' H' → Q o H'
abbrev PDO (X : L2.Cx) (e : Option Expr) (t : TO) : Prop := L2.PO X e (liftO X.K t)
theorem po_imp {e : Option Expr} {t t' : L2.TO} (h : L2.PO X e t) (m : ∀ σ H Q, t' σ H Q → t σ H Q) : L2.PO X e t' := ⟨fun pins s σ H Q I q => h.run pins s σ H Q I (m σ H Q q)⟩
theorem po_none : PDO X none oNone := po_imp L2.po_none fun σ H Q ⟨f, ρ, st, Q', R, h, l⟩ => l none st f H h .refl R.toRelS
theorem po_some (ha : PD X a ta) : PDO X (some a) (oSome ta) := po_imp (L2.po_some ha) fun σ H Q ⟨f, ρ, st, Q', R, h, l⟩ => ⟨f, ρ, st, _, R, h, fun x st1 v f1 H1 h1 e1 s1 r1 => by
    obtain ⟨i, rfl, q⟩ := h1
    rw [RD.int] at r1
    exact ⟨i, r1, l _ st1 f1 H1 q e1 s1⟩⟩
theorem sIx_cl (n d : Nat) (o : Option Int) : HT.sIx n d o = (o.map (cl n)).getD d := by
  cases o with
  | none => rfl
  | some i => rfl
theorem cut_eq (xs : List L2.V) (lo hi : Option Int) : L2.cutV xs lo hi = cutD xs lo hi := by
  unfold L2.cutV cutD
  rw [sIx_cl, sIx_cl]
theorem RDs.cut {ds : List D} {vs : List L2.V} (h : RDs K f H ds vs) (lo hi : Option Int) : RDs K f H (cutD ds lo hi) (cutD vs lo hi) := by
  unfold cutD
  rw [h.length]
  exact (h.drop _).take _
theorem cut_whole {α : Type} (xs : List α) (lo hi : Option Int) (h1 : HT.sIx xs.length 0 lo = 0) (h2 : HT.sIx xs.length xs.length hi = xs.length) : cutD xs lo hi = xs := by
  unfold cutD
  rw [← sIx_cl, ← sIx_cl, h1, h2]
  simp
def rSl (K : Kf) : L2.V → Option Int → Option Int → Hp → L2.VK → Prop := fun x lo hi H Q => L2.rSlL K x lo hi H Q ∨ L2.rSlA K x lo hi H Q
theorem pd_sl {lo hi : Option Expr} {tl th : TO} {p2 : Pos} (ha : PD X a ta) (hl : PDO X lo tl) (hh : PDO X hi th) : PD X (.Subscript a (.Slice lo hi none p2) pos) (dSl ta tl th) := by
  refine pe_imp (L2.pe_slice (r := rSl X.K) (L2.SlR.or L2.sl_list L2.sl_tupA) ha hl hh) fun σ H Q ⟨f, ρ, st, Q', R, h, l⟩ => ?_
  refine ⟨f, ρ, st, _, R, h, fun x st1 v f1 H1 h1 e1 s1 r1 => ⟨f1, ρ, st1, _, R.later e1 s1, h1, fun o st2 f2 H2 h2 e2 s2 => ⟨f2, ρ, st2, _, R.later (e1.trans e2) s2, h2, fun o' st3 f3 H3 h3 e3 s3 => ?_⟩⟩⟩
  have r1' := r1.mono (e2.trans e3)
  have l' := l.later ((e1.trans e2).trans e3)
  cases x <;> try (exact h3.elim)
  · rw [RD.tup] at r1'
    obtain ⟨a, vs, rfl, t, d⟩ := r1'
    refine .inr ⟨a, vs, rfl, t, fun ⟨w1, w2⟩ => ?_, fun _ p hp => ?_⟩
    · rw [d.length] at w1 w2
      refine l'.now s3 h3 (RD.tup.mpr ⟨a, vs, rfl, t, ?_⟩)
      rw [cut_whole _ _ _ w1 w2]
      exact d
    · rw [cut_eq]
      exact l'.tup s3 h3 (d.cut o o') hp
  · rw [RD.ref] at r1'
    obtain ⟨a, e, rfl⟩ := r1'
    obtain ⟨xs, g0, g1⟩ := h3
    obtain ⟨a', vs, k1, k2, d⟩ := s3.rdA g0
    rw [e] at k1; cases k1
    refine .inl ⟨a, vs, rfl, k2, fun p hp => ?_⟩
    rw [cut_eq]
    exact l'.lst s3 g1 (d.cut o o') hp

/-! ### arguments, displays -/
theorem pa_nil : PDA X [] aNil := pa_imp L2.pa_nil fun σ H Q ⟨f, ρ, st, Q', R, h, l⟩ => l [] st [] f H h .refl R.toRelS (RDs.nil.mpr rfl)
theorem pa_cons {ts : TA} (ha : PD X a ta) (hr : PDA X es ts) (hs : starEach (a :: es) X.env = (false, eval a X.env) :: starEach es X.env := by rfl) : PDA X (a :: es) (aCons ta ts) :=
  pa_imp (L2.pa_cons ha hr hs) fun σ H Q ⟨f, ρ, st, Q', R, h, l⟩ => ⟨f, ρ, st, _, R, h, fun x st1 v f1 H1 h1 e1 s1 r1 => ⟨f1, ρ, st1, _, R.later e1 s1, h1, fun xs st2 vs f2 H2 h2 e2 s2 r2 =>
    l (x :: xs) st2 (v :: vs) f2 H2 h2 (e1.trans e2) s2 (RDs.cons.mpr ⟨v, vs, rfl, r1.mono e2, r2⟩)⟩⟩
theorem pd_tup {ts : TA} {x1} (h : PDA X es ts) : PD X (.Tuple es x1 pos) (dTup ts) :=
  pe_imp (L2.pe_tup h) fun σ H Q ⟨f, ρ, st, Q', R, h, l⟩ => ⟨f, ρ, st, _, R, h, fun xs st1 vs f1 H1 h1 e1 s1 r1 => ⟨by rw [r1.length, ← szl_eq]; exact h1.1, fun p hp => (l.later e1).tup s1 h1.2 r1 hp⟩⟩
theorem pd_lst {ts : TA} (h : PDA X es ts) : PD X (.List es pos) (dLst ts) :=
  pe_imp (L2.pe_lst h) fun σ H Q ⟨f, ρ, st, Q', R, h, l⟩ => ⟨f, ρ, st, _, R, h, fun xs st1 vs f1 H1 h1 e1 s1 r1 => ⟨by rw [r1.length, ← szl_eq]; exact h1.1, fun p hp => (l.later e1).lst s1 h1.2 r1 hp⟩⟩

/-! ### own defs -/
def liftF (K : Kf) (n : Nat) (c : List D → Store → Pd.K → Prop) : L2.Sp := fun vs H Q _ => vs.length = n ∧ ∃ f st ds Q', RelS K f st H ∧ RDs K f H ds vs ∧ c ds st Q' ∧ LQ K f H Q' Q
/-- a def that may be called by its name -/
structure Own (P : Program) (w : World) (K : Kf) (mg : Str → Option Value) (base : Heap) (k : Nat) (x : Str) (c : List D → Store → Pd.K → Prop) : Prop where
  ex : ∃ (fa : Addr) (fd : FuncData) (ps : List Str), L2.FnOk P w K mg base L2.CX0 k fa fd ps (liftF K ps.length c) ∧ mg x = some (.ref fa) ∧ PySem.W.keepIn K (.ref fa) = true ∧ L2.Binds K fd ps [] ∧ (∀ ds st Q, c ds st Q → ds.length = ps.length)
theorem pd_call {x : Str} {p : Pos} {k : Nat} {ts : TA} {cl : Cl} {y : String} (o : Own X.prog X.w X.K X.mg X.base k x (cl y)) (hr : L2.Room k X.A) (hg : L2.Gl X x) (ha : PDA X (a :: es) ts) (hdb : (x == ("__debug__" : Str)) = false := by decide)
    (he : starEach (a :: es) X.env = (false, eval a X.env) :: starEach es X.env := by rfl) (hpl : (backTo pos (starEach es X.env)).any (·.1) = false := by rfl) : PD X (.Call (.Name x p) (a :: es) [] pos) (dCall cl y ts) := by
  obtain ⟨fa, fd, ps, F, hm, hk, hb, hlen⟩ := o.ex
  refine pe_imp (L2.pe_call (E := fun _ _ _ => False) F hr hg hm hk hb .nil L2.pass0 ha hdb he hpl) fun σ H Q ⟨f, ρ, st, Q', R, h, l⟩ => ?_
  refine ⟨f, ρ, st, _, R, h, fun xs st1 vs f1 H1 h1 e1 s1 r1 => ?_⟩
  show liftF X.K ps.length (cl y) (vs ++ []) H1 Q _
  rw [List.append_nil]
  exact ⟨r1.length.trans (hlen _ _ _ h1), f1, st1, xs, Q', s1, r1, h1, l.later e1⟩
theorem pd_call0 {x : Str} {p : Pos} {k : Nat} {cl : Cl} {y : String} (o : Own X.prog X.w X.K X.mg X.base k x (cl y)) (hr : L2.Room k X.A) (hg : L2.Gl X x) (hdb : (x == ("__debug__" : Str)) = false := by decide) : PD X (.Call (.Name x p) [] [] pos) (dCall cl y aNil) := by
  obtain ⟨fa, fd, ps, F, hm, hk, hb, hlen⟩ := o.ex
  refine pe_imp (L2.pe_call0 (E := fun _ _ _ => False) F hr hg hm hk hb .nil L2.pass0 hdb) fun σ H Q ⟨f, ρ, st, Q', R, h, l⟩ => ?_
  exact (show liftF X.K ps.length (cl y) ([] ++ []) H Q (fun _ _ _ => False) from ⟨hlen _ _ _ h, f, st, [], Q', R.toRelS, RDs.nil.mpr rfl, h, l⟩)

/-! ### built-ins -/
def RealB (K : Kf) (r : List L2.V → Hp → L2.VK → Prop) (k : KB) : Prop := ∀ (f : List Addr) (st : Store) (H : Hp) (xs : List D) (vs : List L2.V) (Q' : Pd.K) (Q : L2.VK), RelS K f st H → RDs K f H xs vs → k xs st Q' → LQ K f H Q' Q → r vs H Q
theorem pd_callB {x : Str} {p : Pos} {id : String} {r : List L2.V → Hp → L2.VK → Prop} {k : KB} {ts : TA} (hc : L2.CallR X (.builtin id) r) (hr : RealB X.K r k) (hg : L2.Gl X x) (hm : X.mg x = none) (hv : bootBuiltins x = some (.builtin id)) (ha : PDA X (a :: es) ts) (hn : x ≠ "__name__" := by decide) (hdb : (x == ("__debug__" : Str)) = false := by decide)
    (he : starEach (a :: es) X.env = (false, eval a X.env) :: starEach es X.env := by rfl) (hpl : (backTo pos (starEach es X.env)).any (·.1) = false := by rfl) : PD X (.Call (.Name x p) (a :: es) [] pos) (dB k ts) :=
  pe_imp (L2.pe_callB hc hg hm hv ha hn hdb he hpl) fun σ H Q ⟨f, ρ, st, Q', R, h, l⟩ => ⟨f, ρ, st, _, R, h, fun xs st1 vs f1 H1 h1 e1 s1 r1 => hr f1 st1 H1 xs vs Q' Q s1 r1 h1 (l.later e1)⟩
theorem pd_callTy {x : Str} {p : Pos} {T : String} {r : List L2.V → Hp → L2.VK → Prop} {k : KB} {ts : TA} (hc : L2.CallR X (.type T) r) (hr : RealB X.K r k) (hg : L2.Gl X x) (hm : X.mg x = none) (hv : bootBuiltins x = some (.type T)) (ha : PDA X (a :: es) ts) (hn : x ≠ "__name__" := by decide) (hdb : (x == ("__debug__" : Str)) = false := by decide)
    (he : starEach (a :: es) X.env = (false, eval a X.env) :: starEach es X.env := by rfl) (hpl : (backTo pos (starEach es X.env)).any (·.1) = false := by rfl) : PD X (.Call (.Name x p) (a :: es) [] pos) (dB k ts) :=
  pe_imp (L2.pe_callTy hc hg hm hv ha hn hdb he hpl) fun σ H Q ⟨f, ρ, st, Q', R, h, l⟩ => ⟨f, ρ, st, _, R, h, fun xs st1 vs f1 H1 h1 e1 s1 r1 => hr f1 st1 H1 xs vs Q' Q s1 r1 h1 (l.later e1)⟩
end
theorem RDs.inv1 {x : D} {vs : List L2.V} (h : RDs K f H [x] vs) : ∃ v, vs = [v] ∧ RD K f H x v := by
  rw [RDs.cons] at h
  obtain ⟨v, r, rfl, h1, h2⟩ := h
  rw [RDs.nil] at h2
  subst h2
  exact ⟨v, rfl, h1⟩
theorem RDs.inv2 {x y : D} {vs : List L2.V} (h : RDs K f H [x, y] vs) : ∃ v w, vs = [v, w] ∧ RD K f H x v ∧ RD K f H y w := by
  rw [RDs.cons] at h
  obtain ⟨v, r, rfl, h1, h2⟩ := h
  obtain ⟨w, rfl, h3⟩ := h2.inv1
  exact ⟨v, w, rfl, h1, h3⟩
/-- one argument, two arguments, by cases -/
theorem realB1 {r : List L2.V → Hp → L2.VK → Prop} {k : KB} (h0 : ∀ xs st Q, k xs st Q → ∃ x, xs = [x])
    (h : ∀ (f : List Addr) (st : Store) (H : Hp) (x : D) (v : L2.V) (Q' : Pd.K) (Q : L2.VK), RelS K f st H → RD K f H x v → k [x] st Q' → LQ K f H Q' Q → r [v] H Q) : RealB K r k := fun f st H xs vs Q' Q s r1 hk l => by
  obtain ⟨x, rfl⟩ := h0 xs st Q' hk
  obtain ⟨v, rfl, h1⟩ := r1.inv1
  exact h f st H x v Q' Q s h1 hk l
theorem kb1 {k : KB} (h0 : ∀ st Q, ¬ k [] st Q) (h2 : ∀ x y xs st Q, ¬ k (x :: y :: xs) st Q) : ∀ xs st Q, k xs st Q → ∃ x, xs = [x] := fun xs st Q h => by
  match xs, h with
  | [], h => exact (h0 _ _ h).elim
  | [x], _ => exact ⟨x, rfl⟩
  | x :: y :: xs, h => exact (h2 _ _ _ _ _ h).elim
theorem real_intB : RealB K (fun xs H Q => (∃ i, xs = [.int i] ∧ Q (.int i) H) ∨ ∃ k, xs = [.bl k] ∧ Q (.int (if k then 1 else 0)) H) intB :=
  realB1 (kb1 (fun _ _ h => h) fun x y xs st Q h => by cases x <;> exact h) fun f st H x v Q' Q s r h l => by
    cases x <;> try (exact h.elim)
    · rw [RD.bl] at r; subst r; exact .inr ⟨_, rfl, l.now s h (RD.int.mpr rfl)⟩
    · rw [RD.int] at r; subst r; exact .inl ⟨_, rfl, l.now s h (RD.int.mpr rfl)⟩
theorem real_absB : RealB K (fun xs H Q => ∃ i, xs = [.int i] ∧ Q (.int (if i < 0 then -i else i)) H) absB :=
  realB1 (kb1 (fun _ _ h => h) fun x y xs st Q h => by cases x <;> exact h) fun f st H x v Q' Q s r h l => by
    cases x <;> try (exact h.elim)
    rw [RD.int] at r; subst r; exact ⟨_, rfl, l.now s h (RD.int.mpr rfl)⟩
theorem real_lenB : RealB K (fun xs H Q => ∃ x n, xs = [x] ∧ L2.LenV K x H n ∧ Q (.int n) H) lenB :=
  realB1 (kb1 (fun _ _ h => h) fun x y xs st Q h => by cases x <;> exact h) fun f st H x v Q' Q s r h l => by
    cases x <;> try (exact h.elim)
    · rw [RD.str] at r; subst r
      exact ⟨_, _, rfl, ⟨by rw [← szl_eq]; exact h.1, rfl⟩, l.now s h.2 (RD.int.mpr rfl)⟩
    · rw [RD.tup] at r
      obtain ⟨a, vs, rfl, t, d⟩ := r
      exact ⟨_, vs.length, rfl, .inr ⟨vs, t, rfl⟩, by rw [d.length]; exact l.now s h (RD.int.mpr rfl)⟩
    · rw [RD.ref] at r
      obtain ⟨a, e, rfl⟩ := r
      obtain ⟨xs, h1, h2⟩ := h
      obtain ⟨a', vs, k1, k2, d⟩ := s.rdA h1
      rw [e] at k1; cases k1
      exact ⟨_, vs.length, rfl, .inl ⟨vs, k2, rfl⟩, by rw [d.length]; exact l.now s h2 (RD.int.mpr rfl)⟩
theorem kb2 {k : KB} (h0 : ∀ st Q, ¬ k [] st Q) (h1 : ∀ x st Q, ¬ k [x] st Q) (h3 : ∀ x y z xs st Q, ¬ k (x :: y :: z :: xs) st Q) : ∀ xs st Q, k xs st Q → ∃ x y, xs = [x, y] := fun xs st Q h => by
  match xs, h with
  | [], h => exact (h0 _ _ h).elim
  | [x], h => exact (h1 _ _ _ h).elim
  | [x, y], _ => exact ⟨x, y, rfl⟩
  | x :: y :: z :: xs, h => exact (h3 _ _ _ _ _ _ h).elim
theorem real_min2B : RealB K (fun xs H Q => ∃ i j, xs = [.int i, .int j] ∧ Q (.int (if j < i then j else i)) H) min2B := fun f st H xs vs Q' Q s r h l => by
  obtain ⟨x, y, rfl⟩ := kb2 (k := min2B) (fun _ _ h => h) (fun x st Q h => by cases x <;> exact h) (fun x y z xs st Q h => by cases x <;> cases y <;> exact h) xs st Q' h
  obtain ⟨v, w, rfl, r1, r2⟩ := r.inv2
  cases x <;> cases y <;> try (exact h.elim)
  rw [RD.int] at r1 r2
  subst r1; subst r2
  exact ⟨_, _, rfl, l.now s h (RD.int.mpr rfl)⟩
theorem real_max2B : RealB K (fun xs H Q => ∃ i j, xs = [.int i, .int j] ∧ Q (.int (if j > i then j else i)) H) max2B := fun f st H xs vs Q' Q s r h l => by
  obtain ⟨x, y, rfl⟩ := kb2 (k := max2B) (fun _ _ h => h) (fun x st Q h => by cases x <;> exact h) (fun x y z xs st Q h => by cases x <;> cases y <;> exact h) xs st Q' h
  obtain ⟨v, w, rfl, r1, r2⟩ := r.inv2
  cases x <;> cases y <;> try (exact h.elim)
  rw [RD.int] at r1 r2
  subst r1; subst r2
  exact ⟨_, _, rfl, l.now s h (RD.int.mpr rfl)⟩
theorem real_listB : RealB K (fun xs H Q => ∃ p ys, xs = [.ref p] ∧ (L2.SqL K H p ys ∨ L2.SqT K H p ys) ∧ ∀ l, H l = none → Q (.ref l) (L2.upd H l (.lst ys))) listB :=
  realB1 (kb1 (fun _ _ h => h) fun x y xs st Q h => by cases x <;> exact h) fun f st H x v Q' Q s r h l => by
    cases x <;> try (exact h.elim)
    · rw [RD.tup] at r
      obtain ⟨a, vs, rfl, t, d⟩ := r
      exact ⟨a, vs, rfl, .inr t, fun p hp => l.lst s h d hp⟩
    · rw [RD.ref] at r
      obtain ⟨a, e, rfl⟩ := r
      obtain ⟨xs, h1, h2⟩ := h
      obtain ⟨a', vs, k1, k2, d⟩ := s.rdA h1
      rw [e] at k1; cases k1
      exact ⟨a, vs, rfl, .inl k2, fun p hp => l.lst s h2 d hp⟩
theorem real_tupleB : RealB K (fun xs H Q => ∃ p ys, xs = [.ref p] ∧ ((L2.SqL K H p ys ∧ ∀ l, H l = none → Q (.ref l) (L2.upd H l (.tup ys))) ∨ (L2.SqT K H p ys ∧ Q (.ref p) H))) tupleB :=
  realB1 (kb1 (fun _ _ h => h) fun x y xs st Q h => by cases x <;> exact h) fun f st H x v Q' Q s r h l => by
    cases x <;> try (exact h.elim)
    · rw [RD.tup] at r
      obtain ⟨a, vs, rfl, t, d⟩ := r
      exact ⟨a, vs, rfl, .inr ⟨t, l.now s h (RD.tup.mpr ⟨a, vs, rfl, t, d⟩)⟩⟩
    · rw [RD.ref] at r
      obtain ⟨a, e, rfl⟩ := r
      obtain ⟨xs, h1, h2⟩ := h
      obtain ⟨a', vs, k1, k2, d⟩ := s.rdA h1
      rw [e] at k1; cases k1
      exact ⟨a, vs, rfl, .inl ⟨k2, fun p hp => l.tup s h2 d hp⟩⟩
theorem real_sumB : RealB K (L2.rSum K) sumB :=
  realB1 (kb1 (fun _ _ h => h) fun x y xs st Q h => by cases x <;> exact h) fun f st H x v Q' Q s r h l => by
    cases x <;> try (exact h.elim)
    rw [RD.ref] at r
    obtain ⟨a, e, rfl⟩ := r
    obtain ⟨ns, h1, h2⟩ := h
    obtain ⟨a', vs, k1, k2, d⟩ := s.rdA h1
    rw [e] at k1; cases k1
    exact ⟨a, ns, rfl, by rw [← d.ints]; exact k2, l.now s h2 (RD.int.mpr rfl)⟩
def truV : L2.V → Bool
  | .bl b => b
  | .int i => i != 0
  | _ => false
def tfl : L2.V → Bool
  | .non => true
  | .bl _ => true
  | .int _ => true
  | _ => false
def rAnyF (K : Kf) : List L2.V → Hp → L2.VK → Prop := fun vs H Q => ∃ (a : Addr) (xs : List L2.V), vs = [L2.V.ref a] ∧ L2.SqL K H a xs ∧ xs.all tfl = true ∧ Q (.bl (xs.any truV)) H
def rAllF (K : Kf) : List L2.V → Hp → L2.VK → Prop := fun vs H Q => ∃ (a : Addr) (xs : List L2.V), vs = [L2.V.ref a] ∧ L2.SqL K H a xs ∧ xs.all tfl = true ∧ Q (.bl (xs.all truV)) H
theorem truth_tfl {prog : Program} {w : World} {A : Around} {xs : List L2.V} {its : List Value} (r : L2.Vals xs its) (h : xs.all tfl = true) :
    TruthOf prog w A (fun i v => its.toArray[i]? = some v) (fun i => (xs.map truV).getD i false) := fun i v s Q E hv hq => by
  have hv' : its[i]? = some v := by simpa using hv
  have hi : i < xs.length := by rw [r.length]; exact (List.getElem?_eq_some_iff.mp hv').1
  have hx : xs[i]? = some xs[i] := by simp [hi]
  obtain ⟨u, hu, ru⟩ := r.get hx
  rw [hv'] at hu; cases hu
  have hg : (xs.map truV).getD i false = truV xs[i] := by rw [List.getD_eq_getElem?_getD, List.getElem?_map, hx]; rfl
  have hq' : Q ((xs.map truV).getD i false) s := hq
  rw [hg] at hq'
  have ht : tfl xs[i] = true := by
    rw [List.all_eq_true] at h
    exact h _ (List.getElem_mem hi)
  generalize xs[i] = x at ru hq' ht
  cases x with
  | non => cases ru; exact PyProof.Rows.truthy_none hq'
  | bl b => cases ru; exact wpAny_truthy_bool hq'
  | int j => obtain ⟨t, rfl⟩ := ru; exact PySem.P.truthy_int hq'
  | _ => exact absurd ht (by simp [tfl])
theorem cr_anyF (hc : X.calm = true) : L2.CallR X (.builtin "any") (rAnyF X.K) := by
  intro pins s σ H vs us Q I r h
  obtain ⟨a, xs, rfl, hs, ht, q⟩ := h
  obtain ⟨its, rv, hl, _⟩ := I.list hs
  rw [L2.Vals.ref1 r]
  refine call_any_walk (L2.iter_any hl.isList fun s₂ e2 st hne => ?_)
  subst e2
  refine ⟨_, _, _, _, _, _, _, rfl, Walks.list (A := X.A.in1) (I.ok.hd hc) _ a hne its.toArray, st, truth_tfl rv ht, fun h' tk hk => ?_⟩
  refine ⟨.bl _, H, I.kept fun b o eo => hk b o (fun hmem => ?_) (Heap.get?_push_of_some _ eo), ?_, q⟩
  · rcases List.mem_cons.mp hmem with e1 | hmem
    · exact absurd (e1 ▸ Heap.lt_size eo) (Nat.lt_irrefl _)
    · cases hmem
  · show Value.bool _ = Value.bool _
    have e1 : its.toArray.size = (xs.map truV).length := by rw [List.size_toArray, List.length_map]; exact rv.length.symm
    rw [e1, L2.any_range, List.any_map]
    rfl
theorem cr_allF (hc : X.calm = true) : L2.CallR X (.builtin "all") (rAllF X.K) := by
  intro pins s σ H vs us Q I r h
  obtain ⟨a, xs, rfl, hs, ht, q⟩ := h
  obtain ⟨its, rv, hl, _⟩ := I.list hs
  rw [L2.Vals.ref1 r]
  refine call_all_walk (L2.iter_any hl.isList fun s₂ e2 st hne => ?_)
  subst e2
  refine ⟨_, _, _, _, _, _, _, rfl, Walks.list (A := X.A.in1) (I.ok.hd hc) _ a hne its.toArray, st, truth_tfl rv ht, fun h' tk hk => ?_⟩
  refine ⟨.bl _, H, I.kept fun b o eo => hk b o (fun hmem => ?_) (Heap.get?_push_of_some _ eo), ?_, q⟩
  · rcases List.mem_cons.mp hmem with e1 | hmem
    · exact absurd (e1 ▸ Heap.lt_size eo) (Nat.lt_irrefl _)
    · cases hmem
  · show Value.bool _ = Value.bool _
    have e1 : its.toArray.size = (xs.map truV).length := by rw [List.size_toArray, List.length_map]; exact rv.length.symm
    rw [e1, L2.all_range, List.all_map]
    rfl
theorem RD.tru {x : D} {v : L2.V} (h : RD K f H x v) (hx : x.tflat = true) : tfl v = true ∧ truV v = x.tru := by
  cases x with
  | non => rw [RD.non] at h; subst h; exact ⟨rfl, rfl⟩
  | bl b => rw [RD.bl] at h; subst h; exact ⟨rfl, rfl⟩
  | int i => rw [RD.int] at h; subst h; exact ⟨rfl, rfl⟩
  | str _ => cases hx
  | tup _ => cases hx
  | ref _ => cases hx
theorem RDs.tru : ∀ {xs : List D} {vs : List L2.V}, RDs K f H xs vs → xs.all D.tflat = true → vs.all tfl = true ∧ vs.any truV = xs.any D.tru ∧ vs.all truV = xs.all D.tru
  | [], _, h, _ => by rw [RDs.nil] at h; subst h; exact ⟨rfl, rfl, rfl⟩
  | x :: xs, _, h, hf => by
    rw [RDs.cons] at h
    obtain ⟨v, r, rfl, h1, h2⟩ := h
    have hf' : x.tflat = true ∧ xs.all D.tflat = true := by simpa using hf
    obtain ⟨a, b⟩ := h1.tru hf'.1
    obtain ⟨c, d, e⟩ := RDs.tru h2 hf'.2
    simp [a, b, c, d, e]
theorem real_allB : RealB K (rAllF K) allB :=
  realB1 (kb1 (fun _ _ h => h) fun x y xs st Q h => by cases x <;> exact h) fun f st H x v Q' Q s r h l => by
    cases x <;> try (exact h.elim)
    rw [RD.ref] at r
    obtain ⟨a, e, rfl⟩ := r
    obtain ⟨xs, h1, h2, h3⟩ := h
    obtain ⟨a', vs, k1, k2, d⟩ := s.rdA h1
    rw [e] at k1; cases k1
    obtain ⟨t1, t2, t3⟩ := d.tru h2
    exact ⟨a, vs, rfl, k2, t1, by rw [t3]; exact l.now s h3 (RD.bl.mpr rfl)⟩
theorem real_anyB : RealB K (rAnyF K) anyB :=
  realB1 (kb1 (fun _ _ h => h) fun x y xs st Q h => by cases x <;> exact h) fun f st H x v Q' Q s r h l => by
    cases x <;> try (exact h.elim)
    rw [RD.ref] at r
    obtain ⟨a, e, rfl⟩ := r
    obtain ⟨xs, h1, h2, h3⟩ := h
    obtain ⟨a', vs, k1, k2, d⟩ := s.rdA h1
    rw [e] at k1; cases k1
    obtain ⟨t1, t2, t3⟩ := d.tru h2
    exact ⟨a, vs, rfl, k2, t1, by rw [t2]; exact l.now s h3 (RD.bl.mpr rfl)⟩
theorem real_min1B : RealB K (L2.rMin K) min1B :=
  realB1 (kb1 (fun _ _ h => h) fun x y xs st Q h => by cases x <;> exact h) fun f st H x v Q' Q s r h l => by
    cases x <;> try (exact h.elim)
    rw [RD.ref] at r
    obtain ⟨a, e, rfl⟩ := r
    obtain ⟨ns, h1, h2, h3⟩ := h
    obtain ⟨a', vs, k1, k2, d⟩ := s.rdA h1
    rw [e] at k1; cases k1
    exact ⟨a, ns, rfl, by rw [← d.ints]; exact k2, h2, fun m hm hy => l.now s (h3 m hm hy) (RD.int.mpr rfl)⟩
theorem real_max1B : RealB K (L2.rMax K) max1B :=
  realB1 (kb1 (fun _ _ h => h) fun x y xs st Q h => by cases x <;> exact h) fun f st H x v Q' Q s r h l => by
    cases x <;> try (exact h.elim)
    rw [RD.ref] at r
    obtain ⟨a, e, rfl⟩ := r
    obtain ⟨ns, h1, h2, h3⟩ := h
    obtain ⟨a', vs, k1, k2, d⟩ := s.rdA h1
    rw [e] at k1; cases k1
    exact ⟨a, ns, rfl, by rw [← d.ints]; exact k2, h2, fun m hm hy => l.now s (h3 m hm hy) (RD.int.mpr rfl)⟩
end
end Pd
end PartPdSoundC

section PartPdSoundD
set_option Elab.async false
set_option linter.all false
set_option maxRecDepth 100000
set_option maxHeartbeats 1000000
/-! Pd over the hand layer: targets, loops, statements, comprehensions, methods, defs. Own work. -/
namespace Pd
open PySem PySem.Spec
section
variable {X : L2.Cx} {K : Kf} {f f' : List Addr} {H H' : Hp} {st st' : Store} {ρ : Env} {σ : L2.St}
/-! ### targets -/
def LG (K : Kf) (f : List Addr) (H : Hp) (σ : L2.St) (vs : List Nat) (Q' : Env → Store → Prop) (Q : L2.St → Hp → Prop) : Prop :=
  ∀ (ρ' : Env) (st' : Store) (σ' : L2.St) (f' : List Addr) (H' : Hp), Q' ρ' st' → Ext K f H f' H' → Rel K f' ρ' st' σ' H' → Out vs σ σ' → Q σ' H'
def liftG (K : Kf) (g : TG) (vs : List Nat) : L2.TG := fun v σ H Q => ∃ f ρ st d Q', Rel K f ρ st σ H ∧ RD K f H d v ∧ g d ρ st Q' ∧ LG K f H σ vs Q' Q
def liftGs (K : Kf) (g : TGs) (vs : List Nat) : L2.TGs := fun us σ H Q => ∃ f ρ st ds Q', Rel K f ρ st σ H ∧ RDs K f H ds us ∧ g ds ρ st Q' ∧ LG K f H σ vs Q' Q
abbrev PDG (X : L2.Cx) (e : Expr) (g : TG) (vs : List Nat) : Prop := L2.PG X e (liftG X.K g vs)
abbrev PDGs (X : L2.Cx) (es : List Expr) (g : TGs) (vs : List Nat) : Prop := L2.PGs X es (liftGs X.K g vs)
theorem pg_imp {e : Expr} {t t' : L2.TG} (h : L2.PG X e t) (m : ∀ v σ H Q, t' v σ H Q → t v σ H Q) : L2.PG X e t' := ⟨fun pins s σ H v u Q I r q => h.run pins s σ H v u Q I r (m v σ H Q q)⟩
theorem pgs_imp {e : List Expr} {t t' : L2.TGs} (h : L2.PGs X e t) (m : ∀ v σ H Q, t' v σ H Q → t v σ H Q) : L2.PGs X e t' := ⟨fun pins s σ H v u Q I r q => h.run pins s σ H v u Q I r (m v σ H Q q)⟩
theorem Out.refl {vs : List Nat} {σ : L2.St} : Out vs σ σ := ⟨rfl, fun _ _ => rfl⟩
theorem Out.set {i : Nat} {v : L2.V} {σ : L2.St} : Out [i] σ (σ.set i (some v)) := ⟨by rw [List.length_set], fun j h => by
  have : j ≠ i := fun e => h (by simp [e])
  rw [List.getElem?_set_ne (Ne.symm this)]⟩
theorem Out.trans {vs ws : List Nat} {σ σ1 σ2 : L2.St} (a : Out vs σ σ1) (b : Out ws σ1 σ2) : Out (vs ++ ws) σ σ2 :=
  ⟨b.1.trans a.1, fun j h => (b.2 j fun e => h (List.mem_append_right _ e)).trans (a.2 j fun e => h (List.mem_append_left _ e))⟩
theorem pg_name {i : Nat} {x : Str} {pos : Pos} (hN : X.N.Nodup) (hi : X.N[i]? = some x) (hx : L2.Loc X.env.scope x) (hf : X.fn x = true ∨ X.env.scope.names.lookup x = some .local := by first | exact .inl rfl | exact .inr rfl | assumption) : PDG X (.Name x pos) (gName i) [i] :=
  pg_imp (L2.pg_name hN hi hx hf) fun v σ H Q ⟨f, ρ, st, d, Q', R, r, h, l⟩ => l _ st _ f H h .refl (R.put r) Out.set
theorem pgs_nil : PDGs X [] gsNil [] := pgs_imp L2.pgs_nil fun us σ H Q ⟨f, ρ, st, ds, Q', R, r, h, l⟩ => by
  obtain ⟨rfl, h⟩ := h
  rw [RDs.nil] at r
  exact ⟨r, l ρ st σ f H h .refl R .refl⟩
theorem pgs_cons {e : Expr} {es : List Expr} {g : TG} {gs : TGs} {vs ws : List Nat} (h1 : PDG X e g vs) (h2 : PDGs X es gs ws) (hs : (assignEach (e :: es) X.env).map (·.2) = assign e X.env :: (assignEach es X.env).map (·.2) := by rfl) : PDGs X (e :: es) (gsCons g gs) (vs ++ ws) :=
  pgs_imp (L2.pgs_cons h1 h2 hs) fun us σ H Q ⟨f, ρ, st, ds, Q', R, r, h, l⟩ => by
    obtain ⟨d, ds', rfl, h⟩ := h
    rw [RDs.cons] at r
    obtain ⟨v, rr, rfl, r1, r2⟩ := r
    refine ⟨v, rr, rfl, f, ρ, st, d, _, R, r1, h, fun ρ1 st1 σ1 f1 H1 q e1 R1 o1 => ?_⟩
    exact ⟨f1, ρ1, st1, ds', Q', R1, r2.mono e1, q, fun ρ2 st2 σ2 f2 H2 q2 e2 R2 o2 => l ρ2 st2 σ2 f2 H2 q2 (e1.trans e2) R2 (o1.trans o2)⟩
theorem pg_tup {es : List Expr} {k : Nat} {pos : Pos} {gs : TGs} {vs : List Nat} {n : Nat} (hc : X.calm = true) (h : PDGs X es gs vs)
    (hn : (assignEach es X.env).length = n := by rfl) (hst : (assignEach es X.env).findIdx? (·.1) = none := by rfl) : PDG X (.Tuple es k pos) (gTup gs n) vs :=
  pg_imp (L2.pg_tup hc h hn hst) fun v σ H Q ⟨f, ρ, st, d, Q', R, r, h, l⟩ => by
    obtain ⟨ds, rfl, hl, h⟩ := h
    rw [RD.tup] at r
    obtain ⟨a, us, rfl, t, rs⟩ := r
    exact ⟨a, us, rfl, t, by rw [rs.length]; exact hl, f, ρ, st, ds, Q', R, rs, h, l⟩
def RealSet (K : Kf) (r : L2.V → L2.V → L2.V → Hp → (Hp → Prop) → Prop) (k : D → D → D → Store → (Store → Prop) → Prop) : Prop :=
  ∀ (f : List Addr) (st : Store) (H : Hp) (o i v : D) (ov iv vv : L2.V) (Q' : Store → Prop) (Q : Hp → Prop), RelS K f st H → RD K f H o ov → RD K f H i iv → RD K f H v vv → k o i v st Q' →
    (∀ st' H', Q' st' → Ext K f H f H' → RelS K f st' H' → Q H') → r ov iv vv H Q
theorem real_set : RealSet K L2.rSetL setK := fun f st H o i v ov iv vv Q' Q s r1 r2 r3 h l => by
  cases o <;> try (exact h.elim)
  cases i <;> try (exact h.elim)
  rename_i n i
  rw [RD.ref] at r1
  rw [RD.int] at r2
  obtain ⟨a, e, rfl⟩ := r1
  obtain ⟨xs, h1, ⟨d, h2⟩, h3, h4⟩ := h
  obtain ⟨a', vs, k1, k2, k3⟩ := s.rdL h1
  rw [e] at k1; cases k1
  have hlt : i < (vs.length : Int) := by
    rw [k3.length]
    unfold atD at h2
    rw [if_pos h3] at h2
    have := (List.getElem?_eq_some_iff.mp h2).1
    omega
  obtain ⟨s', e'⟩ := s.put e h1 k2 (k3.set i.toNat r3)
  exact ⟨a, vs, i, i.toNat, rfl, r2, k2, by unfold L2.ixN; rw [if_pos h3, if_pos hlt], l _ _ h4 e' s'⟩
section
variable {a b c e o i : Expr} {es : List Expr} {ta tb te to ti : TE} {pos tpos : Pos}
theorem pg_sub (h1 : PD X o to) (h2 : PD X i ti) (ha : ∀ v, assign (.Subscript o i pos) X.env v = (do
      let ov ← holding [v] (eval o X.env)
      let iv ← holding [v, ov] (eval i X.env)
      standAt pos
      holding [v, ov, iv] (setItem ov iv v)
      release [v, ov, iv] []) := by intro _; rfl) : PDG X (.Subscript o i pos) (gSub to ti) [] :=
  pg_imp (L2.pg_sub h1 h2 L2.set_list ha) fun v σ H Q ⟨f, ρ, st, d, Q', R, r, h, l⟩ => ⟨f, ρ, st, _, R, h, fun x st1 u f1 H1 q1 e1 s1 r1 => ⟨f1, ρ, st1, _, R.later e1 s1, q1, fun y st2 w f2 H2 q2 e2 s2 r2 =>
    real_set f2 st2 H2 x y d u w v _ _ s2 (r1.mono e2) r2 (r.mono (e1.trans e2)) q2 fun st3 H3 q3 e3 s3 => l ρ st3 σ f2 H3 q3 ((e1.trans e2).trans e3) (R.later ((e1.trans e2).trans e3) s3) .refl⟩⟩

/-! ### iterables -/
/-- what is walked: data and walk -/
structure RealI (K : Kf) (f : List Addr) (H : Hp) (I : Iter) (J : L2.It) : Prop where
  go : ∀ (i : Nat) (f2 : List Addr) (st2 : Store) (H2 : Hp), Ext K f H f2 H2 → RelS K f2 st2 H2 → I.guard st2 → i < I.items.length → J.go i H2
  stop : ∀ (f2 : List Addr) (st2 : Store) (H2 : Hp), Ext K f H f2 H2 → RelS K f2 st2 H2 → I.guard st2 → J.stop I.items.length H2
  yld : ∀ (i : Nat) (f2 : List Addr) (st2 : Store) (H2 : Hp) (d : D) (x : L2.V) (H3 : Hp), Ext K f H f2 H2 → RelS K f2 st2 H2 → I.guard st2 → I.items[i]? = some d → J.yld i H2 x H3 → Ext K f2 H2 f2 H3 ∧ RelS K f2 st2 H3 ∧ RD K f2 H3 d x
def liftI (K : Kf) (t : TI) : L2.TI := fun σ H R => ∃ f ρ st R', Rel K f ρ st σ H ∧ t ρ st R' ∧ ∀ (I : Iter) (st' : Store) (J : L2.It) (f' : List Addr) (H' : Hp), R' I st' → Ext K f H f' H' → RelS K f' st' H' → RealI K f' H' I J → R J H'
abbrev PDI (X : L2.Cx) (tg e : Expr) (t : TI) : Prop := L2.PI X tg e (liftI X.K t)
theorem pi_imp {tg e : Expr} {t t' : L2.TI} (h : L2.PI X tg e t) (m : ∀ σ H R, t' σ H R → t σ H R) : L2.PI X tg e t' := ⟨fun pins s σ H R I q => h.run pins s σ H R I (m σ H R q)⟩
def iSeqV (K : Kf) (tl : L2.TE) : L2.TI := fun σ H R => tl σ H fun x H1 => ∃ a, x = .ref a ∧ ((∃ xs, L2.SqL K H1 a xs ∧ R (L2.Itl K a) H1) ∨ (∃ xs, L2.SqT K H1 a xs ∧ R (L2.Itt K a) H1))
theorem pi_seqV {tg l : Expr} {tl : L2.TE} (hl : L2.PE X l tl) : L2.PI X tg l (iSeqV X.K tl) := by
  refine ⟨fun pins s σ H R I h => ?_⟩
  refine L2.thn (hl.run pins s σ H _ I h) fun v s1 ⟨x, H1, I1, r1, q1⟩ => ?_
  obtain ⟨a, e, q1⟩ := q1
  subst e
  cases r1
  have fin : ∀ b ∈ [s1.heap.objs.size], L2.FpOk X pins H1 b := fun b hb => by
    have e : b = s1.heap.objs.size := by simpa using hb
    subst e
    exact I1.fpOk (Nat.le_refl _) (I1.hok.fresh (Nat.le_refl _))
  rcases q1 with ⟨xs, hq, q⟩ | ⟨xs, hq, q⟩
  · obtain ⟨its, rv, p, hz⟩ := I1.list hq
    refine wpAny_pyIter_list p.isList ?_
    exact ⟨s1.heap.objs.size, [s1.heap.objs.size], _, _, H1, rfl, I1.kept (t' := s1.toks) fun b o e => Heap.get?_push_of_some _ e, L2.turn_list a _, ⟨_, Heap.get?_push_size _ rfl, rfl, rfl⟩, fin, q⟩
  · obtain ⟨its, rv, p, hz⟩ := I1.tuple hq
    refine wpAny_pyIter_tuple (show s1.heap.IsTuple a its.toArray from p) ?_
    exact ⟨s1.heap.objs.size, [s1.heap.objs.size], _, _, H1, rfl, I1.kept (t' := s1.toks) fun b o e => Heap.get?_push_of_some _ e, L2.turn_tuple a _, ⟨_, Heap.get?_push_size _ rfl, rfl, rfl⟩, fin, q⟩
theorem RDs.at_lt {ds : List D} {vs : List L2.V} (h : RDs K f H ds vs) {i : Nat} (hi : i < ds.length) : ∃ v, vs[i]? = some v := by
  have := h.length
  exact ⟨vs[i]'(by omega), by simp [this, hi]⟩
theorem realI_list {n : Nat} {a : Addr} {xs : List D} (hn : f[n]? = some a) : RealI K f H ⟨xs, fun s => rdA s n xs⟩ (L2.Itl K a) where
  go := fun i f2 st2 H2 e2 s2 g hi => by
    obtain ⟨a', vs, k1, k2, k3⟩ := s2.rdA g
    rw [e2.at hn] at k1; cases k1
    obtain ⟨v, hv⟩ := k3.at_lt hi
    exact ⟨vs, v, k2, hv⟩
  stop := fun f2 st2 H2 e2 s2 g => by
    obtain ⟨a', vs, k1, k2, k3⟩ := s2.rdA g
    rw [e2.at hn] at k1; cases k1
    exact ⟨vs, k2, by rw [k3.length]; exact Nat.le_refl _⟩
  yld := fun i f2 st2 H2 d x H3 e2 s2 g hd y => by
    obtain ⟨a', vs, k1, k2, k3⟩ := s2.rdA g
    rw [e2.at hn] at k1; cases k1
    obtain ⟨rfl, y⟩ := y
    obtain ⟨v, h1, h2⟩ := k3.get hd
    have := y vs k2
    rw [h1] at this; cases this
    exact ⟨.refl, s2, h2⟩
theorem realI_tup {a : Addr} {xs : List D} {vs : List L2.V} (t : L2.SqT K H a vs) (r : RDs K f H xs vs) : RealI K f H ⟨xs, fun _ => True⟩ (L2.Itt K a) where
  go := fun i f2 st2 H2 e2 s2 g hi => by
    obtain ⟨v, hv⟩ := r.at_lt hi
    exact ⟨vs, v, e2.tup _ _ t, hv⟩
  stop := fun f2 st2 H2 e2 s2 g => ⟨vs, e2.tup _ _ t, by rw [r.length]; exact Nat.le_refl _⟩
  yld := fun i f2 st2 H2 d x H3 e2 s2 g hd y => by
    obtain ⟨rfl, y⟩ := y
    obtain ⟨v, h1, h2⟩ := r.get hd
    have := y vs (e2.tup _ _ t)
    rw [h1] at this; cases this
    exact ⟨.refl, s2, h2.mono e2⟩
theorem realI_rng {lo : Int} {n : Nat} : RealI K f H ⟨rng lo n, fun _ => True⟩ (L2.Itr lo n) where
  go := fun i f2 st2 H2 e2 s2 g hi => by
    have : i < n := by simpa [rng] using hi
    exact this
  stop := fun f2 st2 H2 e2 s2 g => by
    show n ≤ (rng lo n).length
    simp [rng]
  yld := fun i f2 st2 H2 d x H3 e2 s2 g hd y => by
    obtain ⟨rfl, rfl⟩ := y
    refine ⟨.refl, s2, ?_⟩
    have hd' : (rng lo n)[i]? = some d := hd
    unfold rng at hd'
    rw [List.getElem?_map] at hd'
    cases q : (List.range n)[i]? with
    | none => rw [q] at hd'; cases hd'
    | some j =>
      rw [q] at hd'
      obtain ⟨h1, h2⟩ := List.getElem?_eq_some_iff.mp q
      simp at h2
      subst h2
      simp at hd'
      subst hd'
      rw [RD.int]
theorem pi_seq {tg : Expr} (h : PD X a ta) : PDI X tg a (iSeq ta) :=
  pi_imp (pi_seqV h) fun σ H R ⟨f, ρ, st, R', Re, h, l⟩ => ⟨f, ρ, st, _, Re, h, fun x st1 v f1 H1 q1 e1 s1 r1 => by
    cases x <;> try (exact q1.elim)
    · rw [RD.tup] at r1
      obtain ⟨a, vs, rfl, t, d⟩ := r1
      exact ⟨a, rfl, .inr ⟨vs, t, l _ st1 _ f1 H1 q1 e1 s1 (realI_tup t d)⟩⟩
    · rw [RD.ref] at r1
      obtain ⟨a, e, rfl⟩ := r1
      obtain ⟨xs, g1, g2⟩ := q1
      obtain ⟨a', vs, k1, k2, k3⟩ := s1.rdA g1
      rw [e] at k1; cases k1
      exact ⟨a, rfl, .inl ⟨vs, k2, l _ st1 _ f1 H1 g2 e1 s1 (realI_list e)⟩⟩⟩
theorem pi_r1 {tg : Expr} {p : Pos} (hg : L2.Gl X "range") (hm : X.mg "range" = none) (h : PD X a ta) (hs : starEach [a] X.env = [(false, eval a X.env)] := by rfl) : PDI X tg (.Call (.Name "range" p) [a] [] pos) (iR1 ta) :=
  pi_imp (L2.pi_range1 hg hm (L2.pa_cons h L2.pa_nil hs) hs) fun σ H R ⟨f, ρ, st, R', Re, h, l⟩ => ⟨f, ρ, st, _, Re, h, fun x st1 v f1 H1 q1 e1 s1 r1 => by
    obtain ⟨j, rfl, h1, h2, h3⟩ := q1
    rw [RD.int] at r1
    subst r1
    exact ⟨j, rfl, h1, h2, l _ st1 _ f1 H1 h3 e1 s1 realI_rng⟩⟩
theorem pi_r2 {tg : Expr} {p : Pos} (hg : L2.Gl X "range") (hm : X.mg "range" = none) (h : PD X a ta) (h' : PD X b tb) (hs : starEach [a, b] X.env = [(false, eval a X.env), (false, eval b X.env)] := by rfl) (hs2 : starEach [b] X.env = [(false, eval b X.env)] := by rfl) : PDI X tg (.Call (.Name "range" p) [a, b] [] pos) (iR2 ta tb) :=
  pi_imp (L2.pi_range2 hg hm (L2.pa_cons h (L2.pa_cons h' L2.pa_nil hs2) (hs.trans (by rw [hs2]))) hs hs2) fun σ H R ⟨f, ρ, st, R', Re, h, l⟩ => ⟨f, ρ, st, _, Re, h, fun x st1 v f1 H1 q1 e1 s1 r1 => ⟨f1, ρ, st1, _, Re.later e1 s1, q1, fun y st2 w f2 H2 q2 e2 s2 r2 => by
    obtain ⟨i, j, rfl, rfl, h2, h3⟩ := q2
    have r1' := r1.mono e2
    rw [RD.int] at r1' r2
    subst r1'; subst r2
    exact ⟨i, j, rfl, h2, l _ st2 _ f2 H2 h3 (e1.trans e2) s2 realI_rng⟩⟩⟩
theorem zipD_get : ∀ {xs ys : List D} {i : Nat} {d : D}, (zipD xs ys)[i]? = some d → ∃ x y, d = .tup [x, y] ∧ xs[i]? = some x ∧ ys[i]? = some y
  | [], _, _, _, h => by simp [zipD] at h
  | _ :: _, [], _, _, h => by simp [zipD] at h
  | x :: xs, y :: ys, 0, d, h => by simp [zipD] at h; exact ⟨x, y, h.symm, rfl, rfl⟩
  | x :: xs, y :: ys, i + 1, d, h => by
    obtain ⟨x', y', h1, h2, h3⟩ := zipD_get (xs := xs) (ys := ys) (i := i) (by simpa [zipD] using h)
    exact ⟨x', y', h1, by simpa using h2, by simpa using h3⟩
theorem zipD_length : ∀ (xs ys : List D), (zipD xs ys).length = min xs.length ys.length
  | [], _ => by simp [zipD]
  | _ :: _, [] => by simp [zipD]
  | x :: xs, y :: ys => by simp [zipD, zipD_length xs ys]
theorem realI_zipT {a b : Addr} {xs ys : List D} {vs ws : List L2.V} (t : L2.SqT K H a vs) (r : RDs K f H xs vs) (t' : L2.SqT K H b ws) (r' : RDs K f H ys ws) : RealI K f H ⟨zipD xs ys, fun _ => True⟩ (RZ.ItzT K a b) where
  go := fun i f2 st2 H2 e2 s2 g hi => by
    have hi : i < (zipD xs ys).length := hi
    rw [zipD_length] at hi
    obtain ⟨v, hv⟩ := r.at_lt (i := i) (by omega)
    obtain ⟨w, hw⟩ := r'.at_lt (i := i) (by omega)
    exact ⟨vs, ws, v, w, e2.tup _ _ t, e2.tup _ _ t', hv, hw⟩
  stop := fun f2 st2 H2 e2 s2 g => ⟨vs, ws, e2.tup _ _ t, e2.tup _ _ t', by
    show vs.length ≤ (zipD xs ys).length ∨ ws.length ≤ (zipD xs ys).length
    rw [zipD_length, r.length, r'.length]; omega⟩
  yld := fun i f2 st2 H2 d x H3 e2 s2 g hd y => by
    obtain ⟨T, x1, x2, rfl, hT, rfl, y1, y2⟩ := y
    obtain ⟨d1, d2, rfl, g1, g2⟩ := zipD_get hd
    obtain ⟨v, h1, h2⟩ := r.get g1
    obtain ⟨w, h3, h4⟩ := r'.get g2
    have q1 := y1 vs (e2.tup _ _ t)
    have q2 := y2 ws (e2.tup _ _ t')
    rw [h1] at q1; cases q1
    rw [h3] at q2; cases q2
    obtain ⟨s', e'⟩ := s2.lay (o := .tup [x1, x2]) hT
    refine ⟨e', s', RD.tup.mpr ⟨T, [x1, x2], rfl, .of L2.upd_same, ?_⟩⟩
    rw [RDs.cons]
    exact ⟨x1, [x2], rfl, (h2.mono e2).mono e', RDs.one ((h4.mono e2).mono e')⟩
theorem realI_zipL {m n : Nat} {a b : Addr} {xs ys : List D} (hm : f[m]? = some a) (hn : f[n]? = some b) : RealI K f H ⟨zipD xs ys, fun s => rdA s m xs ∧ rdA s n ys⟩ (L2.Itz K a b) where
  go := fun i f2 st2 H2 e2 s2 g hi => by
    have hi : i < (zipD xs ys).length := hi
    rw [zipD_length] at hi
    obtain ⟨a', vs, k1, k2, k3⟩ := s2.rdA g.1
    obtain ⟨b', ws, j1, j2, j3⟩ := s2.rdA g.2
    rw [e2.at hm] at k1; cases k1
    rw [e2.at hn] at j1; cases j1
    obtain ⟨v, hv⟩ := k3.at_lt (i := i) (by omega)
    obtain ⟨w, hw⟩ := j3.at_lt (i := i) (by omega)
    exact ⟨vs, ws, v, w, k2, j2, hv, hw⟩
  stop := fun f2 st2 H2 e2 s2 g => by
    obtain ⟨a', vs, k1, k2, k3⟩ := s2.rdA g.1
    obtain ⟨b', ws, j1, j2, j3⟩ := s2.rdA g.2
    rw [e2.at hm] at k1; cases k1
    rw [e2.at hn] at j1; cases j1
    refine ⟨vs, ws, k2, j2, ?_⟩
    show vs.length ≤ (zipD xs ys).length ∨ ws.length ≤ (zipD xs ys).length
    rw [zipD_length, k3.length, j3.length]; omega
  yld := fun i f2 st2 H2 d x H3 e2 s2 g hd y => by
    obtain ⟨a', vs, k1, k2, k3⟩ := s2.rdA g.1
    obtain ⟨b', ws, j1, j2, j3⟩ := s2.rdA g.2
    rw [e2.at hm] at k1; cases k1
    rw [e2.at hn] at j1; cases j1
    obtain ⟨T, x1, x2, rfl, hT, rfl, y1, y2⟩ := y
    obtain ⟨d1, d2, rfl, g1, g2⟩ := zipD_get hd
    obtain ⟨v, h1, h2⟩ := k3.get g1
    obtain ⟨w, h3, h4⟩ := j3.get g2
    have q1 := y1 vs k2
    have q2 := y2 ws j2
    rw [h1] at q1; cases q1
    rw [h3] at q2; cases q2
    obtain ⟨s', e'⟩ := s2.lay (o := .tup [x1, x2]) hT
    refine ⟨e', s', RD.tup.mpr ⟨T, [x1, x2], rfl, .of L2.upd_same, ?_⟩⟩
    rw [RDs.cons]
    exact ⟨x1, [x2], rfl, h2.mono e', RDs.one (h4.mono e')⟩
theorem pi_zip {p tp : Pos} {kk : Nat} (hg : L2.Gl X "zip") (hm : X.mg "zip" = none) (h : PD X a ta) (h' : PD X b tb) (hs : starEach [a, b] X.env = (false, eval a X.env) :: starEach [b] X.env := by rfl) (hs2 : starEach [b] X.env = (false, eval b X.env) :: starEach [] X.env := by rfl)
    (hpl : (backTo pos (starEach [b] X.env)).any (·.1) = false := by rfl) : PDI X (.Tuple es kk tp) (.Call (.Name "zip" p) [a, b] [] pos) (iZip2 ta tb) :=
  pi_imp (RZ.pi_zipA hg hm (L2.pa_cons h (L2.pa_cons h' L2.pa_nil hs2) hs) hs hpl) fun σ H R ⟨f, ρ, st, R', Re, h, l⟩ => ⟨f, ρ, st, _, Re, h, fun x st1 v f1 H1 q1 e1 s1 r1 => ⟨f1, ρ, st1, _, Re.later e1 s1, q1, fun y st2 w f2 H2 q2 e2 s2 r2 => by
    have r1' := r1.mono e2
    cases x <;> cases y <;> try (exact q2.elim)
    · rw [RD.tup] at r1' r2
      obtain ⟨a, vs, rfl, t, d⟩ := r1'
      obtain ⟨b, ws, rfl, t', d'⟩ := r2
      exact ⟨a, b, vs, ws, rfl, .inr ⟨t, t', l _ st2 _ f2 H2 q2 (e1.trans e2) s2 (realI_zipT t d t' d')⟩⟩
    · rw [RD.ref] at r1' r2
      obtain ⟨a, g1, rfl⟩ := r1'
      obtain ⟨b, g2, rfl⟩ := r2
      obtain ⟨xs, ys, q3, q4, q5⟩ := q2
      obtain ⟨a', vs, k1, k2, k3⟩ := s2.rdA q3
      obtain ⟨b', ws, j1, j2, j3⟩ := s2.rdA q4
      rw [g1] at k1; cases k1
      rw [g2] at j1; cases j1
      exact ⟨a, b, vs, ws, rfl, .inl ⟨k2, j2, l _ st2 _ f2 H2 q5 (e1.trans e2) s2 (realI_zipL g1 g2)⟩⟩⟩⟩
end
end
end Pd
end PartPdSoundD

section PartPdSoundE
set_option Elab.async false
set_option linter.all false
set_option maxRecDepth 100000
set_option maxHeartbeats 1000000
/-! Pd over the hand layer: statements, comprehensions, methods, defs. Own work. -/
namespace Pd
open PySem PySem.Spec
section
variable {X : L2.Cx} {K : Kf} {f f' : List Addr} {H H' : Hp} {st st' : Store} {ρ : Env} {σ : L2.St}
/-! ### statements -/
structure LD (K : Kf) (f : List Addr) (H : Hp) (D' : Ends) (D : L2.Ends) : Prop where
  nx : ∀ (ρ' : Env) (st' : Store) (σ' : L2.St) (f' : List Addr) (H' : Hp), D'.nx ρ' st' → Ext K f H f' H' → Rel K f' ρ' st' σ' H' → D.nx σ' H'
  rt : LQ K f H D'.rt D.rt
  bk : ∀ (ρ' : Env) (st' : Store) (σ' : L2.St) (f' : List Addr) (H' : Hp), D'.bk ρ' st' → Ext K f H f' H' → Rel K f' ρ' st' σ' H' → D.bk σ' H'
  ct : ∀ (ρ' : Env) (st' : Store) (σ' : L2.St) (f' : List Addr) (H' : Hp), D'.ct ρ' st' → Ext K f H f' H' → Rel K f' ρ' st' σ' H' → D.ct σ' H'
def liftS (K : Kf) (t : TS) : L2.TS := fun D σ H => ∃ f ρ st D', Rel K f ρ st σ H ∧ t D' ρ st ∧ LD K f H D' D
abbrev PDS (X : L2.Cx) (s : Stmt) (t : TS) : Prop := L2.PS X s (liftS X.K t)
abbrev PDSs (X : L2.Cx) (s : List Stmt) (t : TS) : Prop := L2.PSs X s (liftS X.K t)
theorem ps_imp {s : Stmt} {t t' : L2.TS} (h : L2.PS X s t) (m : ∀ D σ H, t' D σ H → t D σ H) : L2.PS X s t' := ⟨fun pins s σ H D I q => h.run pins s σ H D I (m D σ H q)⟩
theorem pss_imp {s : List Stmt} {t t' : L2.TS} (h : L2.PSs X s t) (m : ∀ D σ H, t' D σ H → t D σ H) : L2.PSs X s t' := ⟨fun pins s σ H D I q => h.run pins s σ H D I (m D σ H q)⟩
theorem LD.later {D' : Ends} {D : L2.Ends} (l : LD K f H D' D) (e : Ext K f H f' H') : LD K f' H' D' D :=
  ⟨fun a b c d g q e2 r => l.nx a b c d g q (e.trans e2) r, l.rt.later e, fun a b c d g q e2 r => l.bk a b c d g q (e.trans e2) r, fun a b c d g q e2 r => l.ct a b c d g q (e.trans e2) r⟩
section
variable {a b c e o i : Expr} {es : List Expr} {ta tb te to ti : TE} {tC : TT} {pos tpos : Pos} {s : Stmt} {ss ss' : List Stmt} {t u : TS}
theorem pss_nil : PDSs X [] sNext := pss_imp L2.pss_nil fun D σ H ⟨f, ρ, st, D', R, h, l⟩ => l.nx ρ st σ f H h .refl R
theorem pss_cons (h1 : PDS X s t) (h2 : PDSs X ss u) : PDSs X (s :: ss) (sSeq t u) := pss_imp (L2.pss_cons h1 h2) fun D σ H ⟨f, ρ, st, D', R, h, l⟩ =>
  ⟨f, ρ, st, _, R, h, fun ρ1 st1 σ1 f1 H1 q e r => ⟨f1, ρ1, st1, D', r, q.go, l.later e⟩, l.rt, l.bk, l.ct⟩
theorem pss_one (h1 : PDS X s t) : PDSs X [s] t := L2.pss_one h1
theorem ps_pass : PDS X (.Pass pos) sNext := ps_imp L2.ps_pass fun D σ H ⟨f, ρ, st, D', R, h, l⟩ => l.nx ρ st σ f H h .refl R
theorem ps_doc {x j pos'} : PDS X (.Expr (.Constant (.str x) j pos) pos') sNext := ps_imp L2.ps_doc fun D σ H ⟨f, ρ, st, D', R, h, l⟩ => l.nx ρ st σ f H h .refl R
theorem ps_break : PDS X (.Break pos) sBreak := ps_imp L2.ps_break fun D σ H ⟨f, ρ, st, D', R, h, l⟩ => l.bk ρ st σ f H h .refl R
theorem ps_continue : PDS X (.Continue pos) sCont := ps_imp L2.ps_continue fun D σ H ⟨f, ρ, st, D', R, h, l⟩ => l.ct ρ st σ f H h .refl R
theorem ps_expr (he : PD X e te) (hs : swapsWith e none pos.line X.env = pure false := by rfl) : PDS X (.Expr e pos) (sExpr te) := ps_imp (L2.ps_expr he hs) fun D σ H ⟨f, ρ, st, D', R, h, l⟩ =>
  ⟨f, ρ, st, _, R, h, fun x st1 v f1 H1 q e1 s1 r1 => l.nx ρ st1 σ f1 H1 q e1 (R.later e1 s1)⟩
theorem ps_ret (he : PD X e te) : PDS X (.Return (some e) pos) (sRet te) := ps_imp (L2.ps_ret he) fun D σ H ⟨f, ρ, st, D', R, h, l⟩ => ⟨f, ρ, st, _, R, h, l.rt⟩
theorem ps_retN : PDS X (.Return none pos) sRetN := ps_imp L2.ps_retN fun D σ H ⟨f, ρ, st, D', R, h, l⟩ => l.rt.now R.toRelS h (RD.non.mpr rfl)
theorem ps_if (hc : PDT X c tC) (ha : PDSs X ss t) (hb : PDSs X ss' u) : PDS X (.If c ss ss' pos) (sIf tC t u) := ps_imp (L2.ps_if hc ha hb) fun D σ H ⟨f, ρ, st, D', R, h, l⟩ =>
  ⟨f, ρ, st, _, R, h, fun k st1 f1 H1 q e1 s1 => by
    cases k with
    | true => exact ⟨f1, ρ, st1, D', R.later e1 s1, q.1 rfl, l.later e1⟩
    | false => exact ⟨f1, ρ, st1, D', R.later e1 s1, q.2 rfl, l.later e1⟩⟩
theorem asg_core {g : TG} {vs : List Nat} {te : TE} {D : L2.Ends} (h : liftS K (sAsg te g) D σ H) : L2.tAsg (lift K te) (liftG K g vs) D σ H := by
  obtain ⟨f, ρ, st, D', R, h, l⟩ := h
  exact ⟨f, ρ, st, _, R, h, fun x st1 v f1 H1 q e1 s1 r1 => ⟨f1, ρ, st1, x, _, R.later e1 s1, r1, q, fun ρ2 st2 σ2 f2 H2 q2 e2 R2 _ => l.nx ρ2 st2 σ2 f2 H2 q2 (e1.trans e2) R2⟩⟩
theorem ps_asg {tg : Expr} {g : TG} {vs : List Nat} (he : PD X e te) (hg : PDG X tg g vs) (hs : swapsWithSole [tg] e pos.line X.env = pure false := by rfl) (hw : swappedStores [tg] e X.env = pure none := by rfl)
    (h1 : (assignEach [tg] X.env).map (·.2) = [assign tg X.env] := by rfl) : PDS X (.Assign [tg] e pos) (sAsg te g) := ps_imp (L2.ps_asg he hg hs hw h1) fun D σ H h => asg_core h
theorem ps_set {i : Nat} {x : Str} {pos' : Pos} (hN : X.N.Nodup) (hi : X.N[i]? = some x) (hx : L2.Loc X.env.scope x) (he : PD X e te) (hs : swapsWith e (some (.Name x pos')) pos.line X.env = pure false := by rfl) (hf : X.fn x = true ∨ X.env.scope.names.lookup x = some .local := by first | exact .inl rfl | exact .inr rfl | assumption) :
    PDS X (.Assign [.Name x pos'] e pos) (sAsg te (gName i)) := ps_imp (L2.ps_set hN hi hx he hs hf) fun D σ H ⟨f, ρ, st, D', R, h, l⟩ =>
  ⟨f, ρ, st, _, R, h, fun y st1 v f1 H1 q e1 s1 r1 => l.nx _ st1 _ f1 H1 q e1 ((R.later e1 s1).put r1)⟩
theorem ps_par {i j : Nat} {x y : Str} {ts : TA} {px py pt : Pos} {kt k2 pt2} (hc : X.calm = true) (hN : X.N.Nodup) (hi : X.N[i]? = some x) (hj : X.N[j]? = some y) (hij : i ≠ j)
    (h0 : L2.PS X (.Assign [.Tuple [.Name x px, .Name y py] kt pt] (.Tuple [a, b] k2 pt2) pos) (L2.tPar i j (liftA X.K ts))) : PDS X (.Assign [.Tuple [.Name x px, .Name y py] kt pt] (.Tuple [a, b] k2 pt2) pos) (sPar i j ts) := ps_imp h0 fun D σ H ⟨f, ρ, st, D', R, h, l⟩ =>
  ⟨f, ρ, st, _, R, h, fun xs st1 vs f1 H1 q e1 s1 r1 => by
    obtain ⟨x, y, rfl, q⟩ := q
    obtain ⟨v, w, rfl, r2, r3⟩ := r1.inv2
    exact ⟨v, w, rfl, l.nx _ st1 _ f1 H1 q e1 (((R.later e1 s1).put r2).put r3)⟩⟩
theorem real_iadd : Real2 K (fun x y H Q => (∃ i j, x = .int i ∧ y = .int j ∧ Q (.int (i + j)) H) ∨ (∃ i j, x = .str i ∧ y = .str j ∧ i.length + j.length ≤ sizeLine ∧ Q (.str (i ++ j)) H)) iaddK := by
  intro f st H x y v w Q' Q s r1 r2 h l
  cases x <;> cases y <;> try (exact h.elim)
  · rw [RD.int] at r1 r2
    exact .inl ⟨_, _, r1, r2, l.now s h (RD.int.mpr rfl)⟩
  · rw [RD.str] at r1 r2
    exact .inr ⟨_, _, r1, r2, by rw [← szl_eq]; exact h.1, l.now s h.2 (RD.str.mpr rfl)⟩
theorem ip_add : L2.PIp X .Add (fun x y H Q => (∃ i j, x = .int i ∧ y = .int j ∧ Q (.int (i + j)) H) ∨ (∃ i j, x = .str i ∧ y = .str j ∧ i.length + j.length ≤ sizeLine ∧ Q (.str (i ++ j)) H)) :=
  fun pins s σ H x y v u Q I rx ry h => (L2.OpR.or (X := X) L2.iop_add L2.iop_add_str) pins s σ H x y v u Q I rx ry h
theorem ip_of {op : Operator} {r : L2.R2} (h : L2.OpR X (inplaceOp op) r) : L2.PIp X op r := fun pins s σ H x y v u Q I rx ry q => h pins s σ H x y v u Q I rx ry q
theorem ps_aug {i : Nat} {x : Str} {op : Operator} {r : L2.R2} {k : K2} {pos' : Pos} (hp : L2.PIp X op r) (hr : Real2 X.K r k) (hN : X.N.Nodup) (hi : X.N[i]? = some x) (hx : L2.Loc X.env.scope x) (he : PD X e te)
    (hf : X.fn x = true ∨ X.env.scope.names.lookup x = some .local := by first | exact .inl rfl | exact .inr rfl | assumption) : PDS X (.AugAssign (.Name x pos') op e pos) (sAug i k te) := ps_imp (L2.ps_aug hN hi hx he hp hf) fun D σ H ⟨f, ρ, st, D', R, h, l⟩ => by
  obtain ⟨d, h1, h⟩ := h
  obtain ⟨v, e, rv⟩ := R.env i d h1
  exact ⟨v, e, f, ρ, st, _, R, h, fun y st1 w f1 H1 q e1 s1 r1 => hr f1 st1 H1 d y v w _ _ s1 (rv.mono e1) r1 q fun z st2 u f2 H2 q2 e2 s2 r2 => l.nx _ st2 _ f2 H2 q2 (e1.trans e2) ((R.later (e1.trans e2) s2).put r2)⟩
/-- xs[i] op= e of a list -/
theorem get_list : L2.PGet X (L2.rIxL X.K) := by
  intro pins s σ H x y v u Q I rx ry h
  obtain ⟨p, xs, i, z, rfl, rfl, hq, he, q⟩ := h
  cases rx
  obtain ⟨t, rfl⟩ := ry
  obtain ⟨its, r, pl, hz⟩ := I.list hq
  obtain ⟨j, h1, h2, h3, h4, h5⟩ := L2.atI_get he
  obtain ⟨w, ew, rw'⟩ := r.get h2
  have hl := r.length
  have hn := L2.line63
  have fin : L2.EP X pins σ Q w s := ⟨z, H, I, rw', q⟩
  by_cases h0 : 0 ≤ i
  · have hj : i.toNat = j := by
      rw [seqIndex_of h0 h5] at h1
      exact Option.some.inj h1
    exact wpAny_getItem_list (x := w) pl.isList h0 (by omega) (by rw [hj]; simpa using ew) fin
  · have hj : (i + (its.toArray.size : Int)).toNat = j := by
      rw [seqIndex_neg (by omega) h4] at h1
      rw [List.size_toArray, ← hl]
      exact Option.some.inj h1
    exact wpAny_getItem_list_neg (x := w) pl.isList (by omega) (by rw [List.size_toArray] <;> omega) (by omega) (by rw [hj]; simpa using ew) fin
theorem real_ixL : Real2 K (L2.rIxL K) ixLK := fun f st H x y v w Q' Q s r1 r2 h l => by
  cases x <;> cases y <;> try (exact h.elim)
  rw [RD.ref] at r1
  rw [RD.int] at r2
  obtain ⟨a, e, rfl⟩ := r1
  obtain ⟨xs, d', h0, h1, h2⟩ := h
  obtain ⟨a', vs, k1, k2, d⟩ := s.rdA h0
  rw [e] at k1; cases k1
  obtain ⟨v, g1, g2⟩ := d.atD h1
  exact ⟨a, vs, _, v, rfl, r2, k2, g1, l.now s h2 g2⟩
theorem ps_augS {op : Operator} {r : L2.R2} {k : K2} (hp : L2.PIp X op r) (hr : Real2 X.K r k) (ho : PD X o to) (hi : PD X i ti) (he : PD X e te)
    (ha : ∀ ov iv new, augStore i ov iv new = (do holding [new, ov, iv] (setItem ov iv new); release [new, ov, iv] []; pure .next) := by intros; rfl) : PDS X (.AugAssign (.Subscript o i tpos) op e pos) (sAugL k to ti te) :=
  ps_imp (L2.ps_augS ho hi get_list he hp L2.set_list ha) fun D σ H ⟨f, ρ, st, D', R, h, l⟩ => ⟨f, ρ, st, _, R, h, fun x st1 v f1 H1 q1 e1 s1 r1 => ⟨f1, ρ, st1, _, R.later e1 s1, q1, fun y st2 w f2 H2 q2 e2 s2 r2 =>
    real_ixL f2 st2 H2 x y v w _ _ s2 (r1.mono e2) r2 q2 fun z st3 u f3 H3 q3 e3 s3 r3 => ⟨f3, ρ, st3, _, R.later ((e1.trans e2).trans e3) s3, q3, fun z' st4 u' f4 H4 q4 e4 s4 r4 =>
      hr f4 st4 H4 z z' u u' _ _ s4 (r3.mono e4) r4 q4 fun z5 st5 u5 f5 H5 q5 e5 s5 r5 =>
        real_set f5 st5 H5 x y z5 v w u5 _ _ s5 (r1.mono (((e2.trans e3).trans e4).trans e5)) (r2.mono ((e3.trans e4).trans e5)) r5 q5 fun st6 H6 q6 e6 s6 =>
          have ee := (((((e1.trans e2).trans e3).trans e4).trans e5).trans e6)
          l.nx ρ st6 σ f5 H6 q6 ee (R.later ee s6)⟩⟩⟩

/-! ### loops -/
theorem ps_for {tg iter : Expr} {wi : TI} {g : TG} {vs : List Nat} {tb : TS} (hp : PassesOwn (model X.prog X.w) X.A X.env X.xe) (hc : X.calm = true) (hi : PDI X tg iter wi) (hg : PDG X tg g vs) (hb : PDSs X ss tb)
    (hs : ∀ x, foldedSetIterable iter X.env x = pure x := by intro _; rfl) : PDS X (.For tg iter ss [] pos) (sFor wi g tb) :=
  ps_imp (L2.ps_for hp hc hi hg hb hs) fun D σ H ⟨f, ρ, st, D', R, h, l⟩ => ⟨f, ρ, st, _, R, h, fun I st1 J f1 H1 q1 e1 s1 rI => by
    refine ⟨fun i m σ2 H2 => m = I.items.length - i ∧ i ≤ I.items.length ∧ ∃ f2 ρ2 st2, Ext X.K f1 H1 f2 H2 ∧ Rel X.K f2 ρ2 st2 σ2 H2 ∧ forLoop I.guard g tb D' (I.items.drop i) ρ2 st2, ⟨_, rfl, Nat.zero_le _, f1, ρ, st1, .refl, R.later e1 s1, by simpa using q1⟩, ?_⟩
    rintro i m σ2 H2 ⟨rfl, hi, f2, ρ2, st2, e2, R2, q2⟩
    by_cases hlt : i < I.items.length
    · have hd : I.items.drop i = I.items[i] :: I.items.drop (i + 1) := by rw [List.drop_eq_getElem_cons hlt]
      rw [hd] at q2
      obtain ⟨gd, q2⟩ := q2
      refine .inr ⟨rI.go i f2 st2 H2 e2 R2.toRelS gd hlt, fun σ3 H3 => ∃ f3 ρ3 st3, Ext X.K f1 H1 f3 H3 ∧ Rel X.K f3 ρ3 st3 σ3 H3 ∧ forLoop I.guard g tb D' (I.items.drop (i + 1)) ρ3 st3, fun σ3 H3 ⟨f3, ρ3, st3, e3, R3, q3⟩ => ⟨I.items.length - (i + 1), by omega, rfl, hlt, f3, ρ3, st3, e3, R3, q3⟩, fun x H3 y => ?_⟩
      obtain ⟨e3, s3, r3⟩ := rI.yld i f2 st2 H2 I.items[i] x H3 e2 R2.toRelS gd (by simp [hlt]) y
      refine ⟨f2, ρ2, st2, I.items[i], _, R2.later e3 s3, r3, q2, fun ρ4 st4 σ4 f4 H4 q4 e4 R4 _ => ⟨f4, ρ4, st4, _, R4, q4, ?_⟩⟩
      have ee := (e1.trans (e2.trans (e3.trans e4)))
      have e1' := (e2.trans (e3.trans e4))
      exact ⟨fun ρ5 st5 σ5 f5 H5 q5 e5 R5 => ⟨f5, ρ5, st5, e1'.trans e5, R5, q5⟩, l.rt.later ee, fun ρ5 st5 σ5 f5 H5 q5 e5 R5 => l.nx ρ5 st5 σ5 f5 H5 q5 (ee.trans e5) R5, fun ρ5 st5 σ5 f5 H5 q5 e5 R5 => ⟨f5, ρ5, st5, e1'.trans e5, R5, q5⟩⟩
    · have e : i = I.items.length := by omega
      subst e
      rw [List.drop_length] at q2
      obtain ⟨gd, q2⟩ := q2
      exact .inl ⟨rI.stop f2 st2 H2 e2 R2.toRelS gd, l.nx ρ2 st2 σ2 f2 H2 q2 (e1.trans e2) R2⟩⟩
theorem ps_while {tb : TS} (hp : PassesOwn (model X.prog X.w) X.A X.env X.xe) (hc : PDT X c tC) (hb : PDSs X ss tb) : PDS X (.While c ss [] pos) (sWhile tC tb) :=
  ps_imp (L2.ps_while hp hc hb) fun D σ H ⟨f, ρ, st, D', R, h, l⟩ => by
    obtain ⟨n, h⟩ := h
    refine ⟨fun m σ2 H2 => ∃ f2 ρ2 st2, Ext X.K f H f2 H2 ∧ Rel X.K f2 ρ2 st2 σ2 H2 ∧ whileN tC tb D' m ρ2 st2, ⟨n, f, ρ, st, .refl, R, h⟩, ?_⟩
    rintro m σ2 H2 ⟨f2, ρ2, st2, e2, R2, q2⟩
    cases m with
    | zero => exact q2.elim
    | succ m =>
      refine ⟨f2, ρ2, st2, _, R2, q2, fun k st3 f3 H3 q3 e3 s3 => ?_⟩
      have ee := e2.trans e3
      cases k with
      | false => exact l.nx ρ2 st3 σ2 f3 H3 (q3.2 rfl) ee (R2.later e3 s3)
      | true =>
        refine ⟨fun σ4 H4 => ∃ f4 ρ4 st4, Ext X.K f H f4 H4 ∧ Rel X.K f4 ρ4 st4 σ4 H4 ∧ whileN tC tb D' m ρ4 st4, fun σ4 H4 q4 => ⟨m, Nat.lt_succ_self _, q4⟩, f3, ρ2, st3, _, R2.later e3 s3, q3.1 rfl, ?_⟩
        exact ⟨fun ρ5 st5 σ5 f5 H5 q5 e5 R5 => ⟨f5, ρ5, st5, ee.trans e5, R5, q5⟩, l.rt.later ee, fun ρ5 st5 σ5 f5 H5 q5 e5 R5 => l.nx ρ5 st5 σ5 f5 H5 q5 (ee.trans e5) R5, fun ρ5 st5 σ5 f5 H5 q5 e5 R5 => ⟨f5, ρ5, st5, ee.trans e5, R5, q5⟩⟩

/-! ### comprehensions -/
abbrev PDTs (X : L2.Cx) (es : List Expr) (t : TT) : Prop := L2.PTs X es (liftT X.K t)
theorem pts_imp {e : List Expr} {t t' : L2.TT} (h : L2.PTs X e t) (m : ∀ σ H Q, t' σ H Q → t σ H Q) : L2.PTs X e t' := ⟨fun pins s σ H Q I q => h.run pins s σ H Q I (m σ H Q q)⟩
theorem pts_nil : PDTs X [] tYes := pts_imp L2.pts_nil fun σ H Q ⟨f, ρ, st, Q', R, h, l⟩ => l true st f H h .refl R.toRelS
theorem pts_one {t : TT} (h : PDT X c t) : PDTs X [c] t := L2.pts_one h
theorem lc_core {wi : TI} {g : TG} {tt : TT} {te : TE} {vs ws : List Nat} {Q : L2.VK} (hws : ∀ j, j ∈ ws → j ∈ vs) (h : lift K (dLc wi g tt te vs) σ H Q) : L2.tLc (liftI K wi) (liftG K g ws) (liftT K tt) (lift K te) vs σ H Q := by
  obtain ⟨f, ρ, st, Q', R, h, l⟩ := h
  refine ⟨f, ρ, st, _, R, h, fun I st1 J f1 H1 q1 e1 s1 rI D hD => ?_⟩
  obtain ⟨s0, e0⟩ := s1.new (o := .lst []) (c := .lst []) hD ⟨[], L2.upd_same, RDs.nil.mpr rfl⟩
  have hn0 : (f1 ++ [D])[st1.length]? = some D := by rw [← s1.len]; simp
  refine ⟨fun i m H2 => m = I.items.length - i ∧ i ≤ I.items.length ∧ ∃ f2 st2 acc, Ext K (f1 ++ [D]) (L2.upd H1 D (.lst [])) f2 H2 ∧ RelS K f2 st2 H2 ∧ rdL st2 st1.length acc ∧ lcLoop I.guard g tt te (wipeE ρ vs) st1.length Q' (I.items.drop i) acc st2,
    ⟨_, rfl, Nat.zero_le _, f1 ++ [D], st1 ++ [.lst []], [], .refl, s0, by unfold rdL; simp, by simpa using q1⟩, ?_⟩
  rintro i m H2 ⟨rfl, hi, f2, st2, acc, e2, s2, hacc, q2⟩
  have eI : Ext K f1 H1 f2 H2 := e0.trans e2
  by_cases hlt : i < I.items.length
  · have hd : I.items.drop i = I.items[i] :: I.items.drop (i + 1) := by rw [List.drop_eq_getElem_cons hlt]
    rw [hd] at q2
    obtain ⟨gd, q2⟩ := q2
    refine .inr ⟨rI.go i f2 st2 H2 eI s2 gd hlt, fun H3 => ∃ f3 st3 acc', Ext K (f1 ++ [D]) (L2.upd H1 D (.lst [])) f3 H3 ∧ RelS K f3 st3 H3 ∧ rdL st3 st1.length acc' ∧ lcLoop I.guard g tt te (wipeE ρ vs) st1.length Q' (I.items.drop (i + 1)) acc' st3,
      fun H3 q3 => ⟨I.items.length - (i + 1), by omega, rfl, hlt, q3⟩, fun x H3 y => ?_⟩
    obtain ⟨e3, s3, r3⟩ := rI.yld i f2 st2 H2 I.items[i] x H3 eI s2 gd (by simp [hlt]) y
    have R3 : Rel K f2 (wipeE ρ vs) st2 (L2.wipe σ vs) H3 := (Rel.wipe R).later ((e1.trans eI).trans e3) s3
    refine ⟨f2, _, st2, I.items[i], _, R3, r3, q2, fun ρ4 st4 σ4 f4 H4 q4 e4 R4 o4 => ⟨Out.wipe ⟨o4.1, fun j hj => o4.2 j fun z => hj (hws j z)⟩, ?_⟩⟩
    refine ⟨f4, ρ4, st4, _, R4, q4, fun b st5 f5 H5 q5 e5 s5 => ?_⟩
    have e15 := e2.trans (e3.trans (e4.trans e5))
    cases b with
    | false =>
      obtain ⟨h1, h2⟩ := q5.2 rfl
      exact ⟨f5, st5, acc, e15, s5, h1, h2⟩
    | true =>
      refine ⟨f5, ρ4, st5, _, R4.later e5 s5, q5.1 rfl, fun y st6 v f6 H6 q6 e6 s6 r6 => ?_⟩
      obtain ⟨h1, h2, h3⟩ := q6
      have e16 := e15.trans e6
      obtain ⟨a', us, k1, k2, k3⟩ := s6.rdL h1
      rw [e16.at hn0] at k1; cases k1
      obtain ⟨s7, e7⟩ := s6.put (e16.at hn0) h1 k2 (k3.append (RDs.one r6))
      refine ⟨us, k2, by rw [k3.length, ← szl_eq]; exact h2, f6, _, acc ++ [y], e16.trans e7, s7, ?_, h3⟩
      have hl : st1.length < st6.length := (List.getElem?_eq_some_iff.mp h1).1
      unfold rdL
      rw [List.getElem?_set_self hl]
  · have e : i = I.items.length := by omega
    subst e
    rw [List.drop_length] at q2
    obtain ⟨gd, h1, h2⟩ := q2
    exact .inl ⟨rI.stop f2 st2 H2 eI s2 gd, l _ st2 _ f2 H2 h2 (e1.trans eI) s2 (RD.ref.mpr ⟨D, e2.at hn0, rfl⟩)⟩
theorem pd_lc {elt tg iter : Expr} {ifs : List Expr} {scope : Scope} {own : List (Str × Nat)} {wi : TI} {g : TG} {tt : TT} {te : TE} {ws : List Nat} (hc : X.calm = true) (hN : X.N.Nodup) (hi : PDI X tg iter wi) (ok : L2.BlkOk X.N X.env.scope scope own)
    (hg : ∀ (s : Shared) (H : Hp) (C : Addr) (cl : List (Str × Addr)) (fp : List Addr), PDG (X.blk s H scope (compEnvC scope cl C X.env) fp) tg g ws) (ht : ∀ (s : Shared) (H : Hp) (C : Addr) (cl : List (Str × Addr)) (fp : List Addr), PDTs (X.blk s H scope (compEnvC scope cl C X.env) fp) ifs tt)
    (he : ∀ (s : Shared) (H : Hp) (C : Addr) (cl : List (Str × Addr)) (fp : List Addr), PD (X.blk s H scope (compEnvC scope cl C X.env) fp) elt te) (hws : ∀ j, j ∈ ws → j ∈ own.map (·.2)) (hs : ∀ x, foldedSetIterable iter X.env x = pure x := by intro _; rfl) :
    PD X (.ListComp elt [⟨tg, iter, ifs, 0⟩] scope pos) (dLc wi g tt te (own.map (·.2))) :=
  pe_imp (L2.pe_lc hc hN hi ok hg ht he hs) fun σ H Q h => lc_core hws h
theorem ps_setLc {j : Nat} {y : Str} {py spos : Pos} {elt tg iter : Expr} {ifs : List Expr} {scope : Scope} {own : List (Str × Nat)} {wi : TI} {g : TG} {tt : TT} {te : TE} {ws : List Nat} (hc : X.calm = true) (hN : X.N.Nodup) (hy : X.N[j]? = some y) (hyl : X.env.scope.names.lookup y = some .local)
    (hsw : swapsWith (.ListComp elt [⟨tg, iter, ifs, 0⟩] scope pos) (some (.Name y py)) spos.line X.env = pure true) (hi : PDI X tg iter wi) (ok : L2.BlkOk X.N X.env.scope scope own)
    (hg : ∀ (s : Shared) (H : Hp) (C : Addr) (cl : List (Str × Addr)) (fp : List Addr), PDG (X.blk s H scope (compEnvC scope cl C X.env) fp) tg g ws) (ht : ∀ (s : Shared) (H : Hp) (C : Addr) (cl : List (Str × Addr)) (fp : List Addr), PDTs (X.blk s H scope (compEnvC scope cl C X.env) fp) ifs tt)
    (he : ∀ (s : Shared) (H : Hp) (C : Addr) (cl : List (Str × Addr)) (fp : List Addr), PD (X.blk s H scope (compEnvC scope cl C X.env) fp) elt te) (hws : ∀ j, j ∈ ws → j ∈ own.map (·.2)) (hs : ∀ x, foldedSetIterable iter X.env x = pure x := by intro _; rfl) :
    PDS X (.Assign [.Name y py] (.ListComp elt [⟨tg, iter, ifs, 0⟩] scope pos) spos) (sAsg (dLc wi g tt te (own.map (·.2))) (gName j)) :=
  ps_imp (L2.ps_setLc hc hN hy hyl hsw hi ok hg ht he hs) fun D σ H ⟨f, ρ, st, D', R, h, l⟩ =>
    lc_core (Q := fun x H1 => L2.gName j x σ H1 D.nx) hws ⟨f, ρ, st, _, R, h, fun x st1 v f1 H1 q e1 s1 r1 => l.nx _ st1 _ f1 H1 q e1 ((R.later e1 s1).put r1)⟩
end
end
end Pd
end PartPdSoundE

section PartPdSoundF
set_option Elab.async false
set_option linter.all false
set_option maxRecDepth 100000
set_option maxHeartbeats 1000000
/-! Pd over the hand layer: methods, isinstance, defs, the end. Own work. -/
namespace Pd
open PySem PySem.Spec
open PyProof.Rows (envOfC)
section
variable {X : L2.Cx} {K : Kf} {f f' : List Addr} {H H' : Hp} {st st' : Store} {ρ : Env} {σ : L2.St}
/-! ### methods -/
def RealM (K : Kf) (r : L2.V → List L2.V → Hp → L2.VK → Prop) (k : KM) : Prop := ∀ (f : List Addr) (st : Store) (H : Hp) (x : D) (xs : List D) (v : L2.V) (vs : List L2.V) (Q' : Pd.K) (Q : L2.VK), RelS K f st H → RD K f H x v → RDs K f H xs vs → k x xs st Q' → LQ K f H Q' Q → r v vs H Q
def RealTy (K : Kf) (T : String) (ty : D → Store → Prop) : Prop := ∀ (f : List Addr) (st : Store) (H : Hp) (x : D) (v : L2.V), RelS K f st H → RD K f H x v → ty x st → L2.tyV K T v H
section
variable {a b c e o i : Expr} {es : List Expr} {ta tb te to ti : TE} {pos apos : Pos} {name : Str} {T id : String}
theorem pd_m {r : L2.V → List L2.V → Hp → L2.VK → Prop} {k : KM} {ty : D → Store → Prop} {ts : TA} (hm : L2.MtR X id r) (hk : RealM X.K r k) (ht : RealTy X.K T ty) (pa : PlainAttrs T) (slot : Slot T name id) (hty : typeOf (.builtin id) = pure (.type "method_descriptor")) (ho : PD X o to) (ha : PDA X (e :: es) ts)
    (hbase : attributeBase o name X.env (eval o X.env) = eval o X.env := by rfl)
    (hfew : ((backTo pos (starEach (e :: es) X.env)).all (fun x => !x.1) && (backToKw pos (keywordEach [] X.env)).all (fun x => x.1.isSome)
      && decide ((e :: es).length + ([] : List Keyword).length + (if ([] : List Keyword).isEmpty then 0 else 1) < 30)) = true := by rfl)
    (hline : (apos.endLine == pos.line) = true := by rfl) (hs : starEach (e :: es) X.env = (false, eval e X.env) :: starEach es X.env := by rfl) (hplain : (backTo pos (starEach es X.env)).any (·.1) = false := by rfl) :
    PD X (.Call (.Attribute o name apos) (e :: es) [] pos) (dM ty k to ts) :=
  pe_imp (L2.pe_bm pa slot hty hm ho ha hbase hfew hline hs hplain) fun σ H Q ⟨f, ρ, st, Q', R, h, l⟩ => ⟨f, ρ, st, _, R, h, fun x st1 v f1 H1 q1 e1 s1 r1 => ⟨ht f1 st1 H1 x v s1 r1 q1.1, f1, ρ, st1, _, R.later e1 s1, q1.2, fun xs st2 vs f2 H2 q2 e2 s2 r2 => hk f2 st2 H2 x xs v vs Q' Q s2 (r1.mono e2) r2 q2 (l.later (e1.trans e2))⟩⟩
end
theorem ty_list : RealTy K "list" tyLst := fun f st H x v s r h => by
  cases x <;> try (exact h.elim)
  rw [RD.ref] at r
  obtain ⟨a, e, rfl⟩ := r
  obtain ⟨xs, h⟩ := h
  obtain ⟨a', vs, k1, k2, k3⟩ := s.rdL h
  rw [e] at k1; cases k1
  exact .inl ⟨rfl, vs, .of k2⟩
theorem ty_str : RealTy K "str" tyStr := fun f st H x v s r h => by
  cases x <;> try (exact h.elim)
  rw [RD.str] at r
  subst r
  rfl
theorem real_append : RealM K L2.rAppend appendM := fun f st H x xs v vs Q' Q s r1 r2 h l => by
  cases x <;> try (exact h.elim)
  match xs, h with
  | [], h => exact h.elim
  | _ :: _ :: _, h => exact h.elim
  | [y], h =>
    rw [RD.ref] at r1
    obtain ⟨a, e, rfl⟩ := r1
    obtain ⟨w, rfl, r3⟩ := r2.inv1
    obtain ⟨ys, h1, h2, h3⟩ := h
    obtain ⟨a', us, k1, k2, k3⟩ := s.rdL h1
    rw [e] at k1; cases k1
    obtain ⟨s', e'⟩ := s.put e h1 k2 (k3.append (RDs.one r3))
    exact ⟨a, us, w, rfl, rfl, k2, by rw [k3.length, ← szl_eq]; exact h2, l _ _ _ f _ h3 e' s' (RD.non.mpr rfl)⟩
theorem real_extend : RealM K L2.rExtend extendM := fun f st H x xs v vs Q' Q s r1 r2 h l => by
  cases x <;> try (exact h.elim)
  match xs, h with
  | [], h => exact h.elim
  | _ :: _ :: _, h => rename_i y _ _; cases y <;> exact h.elim
  | [.non], h => exact h.elim
  | [.bl _], h => exact h.elim
  | [.int _], h => exact h.elim
  | [.str _], h => exact h.elim
  | [.tup _], h => exact h.elim
  | [.ref m], h =>
    rw [RD.ref] at r1
    obtain ⟨a, e, rfl⟩ := r1
    obtain ⟨w, rfl, r3⟩ := r2.inv1
    rw [RD.ref] at r3
    obtain ⟨b, e2, rfl⟩ := r3
    obtain ⟨ys, zs, h1, h2, h3, h4, h5⟩ := h
    obtain ⟨a', us, k1, k2, k3⟩ := s.rdL h1
    obtain ⟨b', ws, j1, j2, j3⟩ := s.rdL h2
    rw [e] at k1; cases k1
    rw [e2] at j1; cases j1
    obtain ⟨s', e'⟩ := s.put e h1 k2 (k3.append j3)
    exact ⟨a, b, us, ws, rfl, rfl, k2, j2, by rw [k3.length, j3.length, ← szl_eq]; exact h4, l _ _ _ f _ h5 e' s' (RD.non.mpr rfl)⟩
theorem real_popAt : RealM K L2.rPopAt popM := fun f st H x xs v vs Q' Q s r1 r2 h l => by
  cases x <;> try (exact h.elim)
  match xs, h with
  | [], h => exact h.elim
  | _ :: _ :: _, h => rename_i y _ _; cases y <;> exact h.elim
  | [.non], h => exact h.elim
  | [.bl _], h => exact h.elim
  | [.ref _], h => exact h.elim
  | [.str _], h => exact h.elim
  | [.tup _], h => exact h.elim
  | [.int i], h =>
    rw [RD.ref] at r1
    obtain ⟨a, e, rfl⟩ := r1
    obtain ⟨w, rfl, r3⟩ := r2.inv1
    rw [RD.int] at r3
    subst r3
    obtain ⟨ys, d, h1, h2, h3, h4⟩ := h
    obtain ⟨a', us, k1, k2, k3⟩ := s.rdL h1
    rw [e] at k1; cases k1
    unfold atD at h3
    rw [if_pos h2.1] at h3
    have hl := (List.getElem?_eq_some_iff.mp h3).1
    obtain ⟨u, g1, g2⟩ := k3.get h3
    obtain ⟨s', e'⟩ := s.put e h1 k2 (k3.eraseIdx i.toNat)
    have hus := k3.length
    exact ⟨a, us, i, i.toNat, u, rfl, rfl, k2, by omega, by omega, seqIndex_of h2.1 (by omega), g1, l _ _ _ f _ h4 e' s' (g2.mono e')⟩
theorem real_index : RealM K (L2.rIndex K) indexM := fun f st H x xs v vs Q' Q s r1 r2 h l => by
  cases x <;> try (exact h.elim)
  match xs, h with
  | [], h => exact h.elim
  | _ :: _ :: _, h => exact h.elim
  | [y], h =>
    rw [RD.ref] at r1
    obtain ⟨a, e, rfl⟩ := r1
    obtain ⟨w, rfl, r3⟩ := r2.inv1
    obtain ⟨ys, j, z, h1, h2, h3, h4, h5, h6, h7⟩ := h
    obtain ⟨a', us, k1, k2, k3⟩ := s.rdA h1
    rw [e] at k1; cases k1
    obtain ⟨u, g1, g2⟩ := k3.get h4
    have fl : ∀ (m : Nat) (z : D), ys[m]? = some z → z.flat = true := fun m z hz => by
      rw [List.all_eq_true] at h3
      exact h3 z (List.mem_of_getElem? hz)
    refine ⟨a, us, w, j, u, rfl, rfl, k2, r3.flatV h2, k3.flatV h3, g1, by rw [g2.eqV r3 (fl j z h4) h2]; exact h5, fun m z' hm hz => ?_, l.now s h7 (RD.int.mpr rfl)⟩
    have hml : m < ys.length := by rw [← k3.length]; exact (List.getElem?_eq_some_iff.mp hz).1
    obtain ⟨u', g3, g4⟩ := k3.get (show ys[m]? = some ys[m] by simp [hml])
    rw [hz] at g3; cases g3
    rw [g4.eqV r3 (fl m _ (by simp [hml])) h2]
    exact h6 m _ hm (by simp [hml])

/-! ### the built-ins' values -/
theorem bt_int : bootBuiltins "int" = some (.type "int") := by decide +kernel
theorem bt_abs : bootBuiltins "abs" = some (.builtin "abs") := by decide +kernel
theorem bt_len : bootBuiltins "len" = some (.builtin "len") := by decide +kernel
theorem bt_min : bootBuiltins "min" = some (.builtin "min") := by decide +kernel
theorem bt_max : bootBuiltins "max" = some (.builtin "max") := by decide +kernel
theorem bt_list : bootBuiltins "list" = some (.type "list") := by decide +kernel
theorem bt_tuple : bootBuiltins "tuple" = some (.type "tuple") := by decide +kernel
theorem bt_sum : bootBuiltins "sum" = some (.builtin "sum") := by decide +kernel
theorem bt_all : bootBuiltins "all" = some (.builtin "all") := by decide +kernel
theorem bt_any : bootBuiltins "any" = some (.builtin "any") := by decide +kernel
theorem bt_sorted : bootBuiltins "sorted" = some (.builtin "sorted") := by decide +kernel
theorem bt_bool : bootBuiltins "bool" = some (.type "bool") := by decide +kernel
theorem bt_str : bootBuiltins "str" = some (.type "str") := by decide +kernel
theorem bt_repr : bootBuiltins "repr" = some (.builtin "repr") := by decide +kernel
theorem bt_set : bootBuiltins "set" = some (.type "set") := by decide +kernel
theorem bt_dict : bootBuiltins "dict" = some (.type "dict") := by decide +kernel

/-! ### isinstance -/
def tyN : Ty → String
  | .int => "int" | .bool => "bool" | .str => "str" | .tuple => "tuple" | .list => "list"
theorem SqT.ty {a : Addr} {vs : List L2.V} (h : L2.SqT K H a vs) : L2.TyX K H (.ref a) (.type "tuple") := by
  rcases h with (h | ⟨o, h⟩) | ⟨o, its, n, h1, h2, _⟩
  · exact .base (.tup h)
  · exact .fTuple h
  · exact .kTuple h1 h2
theorem isTy_kit {x : D} {v : L2.V} {t : Ty} {Q' : Bool → Prop} (s : RelS K f st H) (r : RD K f H x v) (h : isTy x st t Q') : ∃ (u : Value) (b : Bool), L2.TyX K H v u ∧ PySem.W.kitOne K u (.type (tyN t)) = some b ∧ Q' b := by
  cases x with
  | non => rw [RD.non] at r; subst r; exact ⟨_, false, .base .non, L2.kit_ty (by cases t <;> decide +kernel), h⟩
  | bl b => rw [RD.bl] at r; subst r; exact ⟨_, _, .base (.bl b), L2.kit_ty (by cases t <;> decide +kernel), h⟩
  | int i => rw [RD.int] at r; subst r; exact ⟨_, _, .base (.int i), L2.kit_ty (by cases t <;> decide +kernel), h⟩
  | str y => rw [RD.str] at r; subst r; exact ⟨_, _, .base (.str y), L2.kit_ty (by cases t <;> decide +kernel), h⟩
  | tup xs =>
    rw [RD.tup] at r
    obtain ⟨a, vs, rfl, q, d⟩ := r
    exact ⟨_, _, SqT.ty q, L2.kit_ty (by cases t <;> decide +kernel), h⟩
  | ref n =>
    rw [RD.ref] at r
    obtain ⟨a, e, rfl⟩ := r
    obtain ⟨xs, h1, h2⟩ := h
    obtain ⟨a', vs, k1, k2, k3⟩ := s.rdL h1
    rw [e] at k1; cases k1
    exact ⟨_, _, .base (.lst k2), L2.kit_ty (by cases t <;> decide +kernel), h2⟩
theorem pd_isi {a : Expr} {ta : TE} {p pos q : Pos} {T : Str} (t : Ty) (hg : L2.Gl X "isinstance") (hm : X.mg "isinstance" = none) (hT : T = Str.ofString (tyN t)) (hgT : L2.Gl X T) (hmT : X.mg T = none) (hv : bootBuiltins T = some (.type (tyN t))) (ha : PD X a ta)
    (hs : starEach [a, .Name T q] X.env = (false, eval a X.env) :: starEach [.Name T q] X.env := by rfl) : PD X (.Call (.Name "isinstance" p) [a, .Name T q] [] pos) (dIsi t ta) := by
  have hT1 : T ≠ "__name__" := by rw [hT]; cases t <;> decide
  have hT2 : (T == ("__debug__" : Str)) = false := by rw [hT]; cases t <;> decide
  have pT : L2.PE X (.Name T q) (L2.tC (.ty (tyN t))) := L2.pe_bltn hgT hmT hv rfl hT1 hT2
  refine pe_imp (L2.pe_callB L2.call_isi hg hm (by decide +kernel) (L2.pa_cons ha (L2.pa_cons pT L2.pa_nil rfl) hs) (by decide) (by decide) hs rfl) fun σ H Q ⟨f, ρ, st, Q', R, h, l⟩ => ⟨f, ρ, st, _, R, h, fun x st1 v f1 H1 q1 e1 s1 r1 => ?_⟩
  obtain ⟨u, b, h1, h2, h3⟩ := isTy_kit s1 r1 q1
  exact ⟨v, .ty (tyN t), u, _, b, rfl, .ty _, h1, h2, l _ st1 _ f1 H1 h3 e1 s1 (RD.bl.mpr rfl)⟩

/-! ### defs -/
theorem start_rel {n : Nat} {ds : List D} {vs : List L2.V} {N : List Str} (s : RelS K f st H) (r : RDs K f H ds vs) (hn : n = N.length) : Rel K f (start n ds) st (L2.start N vs) H := by
  have hl := r.length
  have lk_app : ∀ (ds : List D) (m i : Nat) (d : D), lk (ds.map some ++ List.replicate m none) i = some d → ds[i]? = some d := by
    intro ds
    induction ds with
    | nil =>
      intro m
      induction m with
      | zero => intro i d h; simp [lk] at h
      | succ m ih =>
        intro i d h
        cases i with
        | zero => simp [lk, List.replicate_succ] at h
        | succ i =>
          have := ih i d (by simpa [lk, List.replicate_succ] using h)
          simp at this
    | cons x ds ih =>
      intro m i d h
      cases i with
      | zero => simpa [lk] using h
      | succ i =>
        have := ih m i d (by simpa [lk] using h)
        simpa using this
  refine ⟨s, fun i d h => ?_, ?_⟩
  · have hd := lk_app ds _ i d h
    obtain ⟨v, h1, h2⟩ := r.get hd
    refine ⟨v, ?_, h2⟩
    unfold L2.start
    have hi := (List.getElem?_eq_some_iff.mp h1).1
    rw [List.getElem?_append_left (by simpa using hi), List.getElem?_map, h1]
    rfl
  · unfold start L2.start
    simp only [List.length_append, List.length_map, List.length_replicate]
    omega
/-- the def's own facts, and that its body keeps what is run -/
structure Step (P : Program) (w : World) (K : Kf) (mg : Str → Option Value) (base : Heap) (names : List String) (x : String) (d : Def) : Prop where
  ex : ∃ (fa : Addr) (fd : FuncData) (ps : List Str), mg x = some (.ref fa) ∧ PySem.W.keepIn K (.ref fa) = true ∧ L2.Binds K fd ps [] ∧ d.ps = ps.length ∧
    ∀ (k : Nat) (c : Cl), (∀ y ∈ names, Own P w K mg base k (Str.ofString y) (c y)) → L2.FnOk P w K mg base L2.CX0 (k + 1) fa fd ps (liftF K ps.length (d.run c))
variable {P : Program} {w : World} {mg : Str → Option Value} {base : Heap} {names : List String}
theorem fn_ok {qual x : Str} {sm : Stmt} {fa : Addr} {fd : FuncData} {N ps : List Str} {k : Nat} {d : Def} {c : Cl} (F : L2.Fun K x qual sm fa fd) (S : L2.FnScope N ps (L2.defScope sm)) (hn : d.ns = N.length) (hp : d.ps = ps.length)
    (der : ∀ (cdv : Value) (A : Around) (outer : List PySem.Env) (s : Shared) (H : Hp) (E : L2.XK), L2.Room k (A.deeper (envOfC qual (L2.defScope sm) s.heap.objs.size fa cdv)) →
      PDSs (L2.cxOf L2.CX0 P w K mg base N qual (L2.defScope sm) fa cdv A outer s H E).nox (L2.defBody sm) (d.body c)) : L2.FnOk P w K mg base L2.CX0 (k + 1) fa fd ps (liftF K ps.length (d.run c)) := by
  refine F.ok S (fun vs H Q E h => h.1) (fun cdv A outer s H vs Q E hr h => ⟨_, der cdv A outer s H E hr, ?_⟩)
  obtain ⟨_, f, st, ds, Q', s', r, ⟨hl, h⟩, l⟩ := h
  refine ⟨f, start d.ns ds, st, _, start_rel s' r hn, h, ?_⟩
  exact ⟨fun ρ1 st1 σ1 f1 H1 q e r1 => l .non st1 .non f1 H1 q e r1.toRelS (RD.non.mpr rfl), l, fun _ _ _ _ _ q _ _ => q, fun _ _ _ _ _ q _ _ => q⟩
theorem fn_zero {fa : Addr} {fd : FuncData} {ps : List Str} {n : Nat} : L2.FnOk P w K mg base L2.CX0 0 fa fd ps (liftF K n fun _ _ _ => False) :=
  ⟨fun vs H Q E h => by obtain ⟨_, _, _, _, _, _, _, h, _⟩ := h; exact h.elim, fun A outer s H args us vs Q E hr e0 hb hv h => by obtain ⟨_, _, _, _, _, _, _, h, _⟩ := h; exact h.elim⟩
theorem all_own {prog : String → Option Def} (hs : ∀ x ∈ names, ∃ d, prog x = some d ∧ Step P w K mg base names x d) : ∀ (k : Nat) (x : String), x ∈ names → Own P w K mg base k (Str.ofString x) (callN prog k x)
  | 0, x, hx => by
    obtain ⟨d, h1, fa, fd, ps, h2, h3, h4, h5, h6⟩ := hs x hx
    exact ⟨fa, fd, ps, fn_zero, h2, h3, h4, fun _ _ _ h => h.elim⟩
  | k + 1, x, hx => by
    obtain ⟨d, h1, fa, fd, ps, h2, h3, h4, h5, h6⟩ := hs x hx
    refine ⟨fa, fd, ps, (h6 k _ fun y hy => all_own hs k y hy).imp fun vs H Q E ⟨g0, f, st, ds, Q', s, r, ⟨d', e', g⟩, l⟩ => ?_, h2, h3, h4, fun ds st Q ⟨d', e', g⟩ => ?_⟩
    · rw [h1] at e'; cases e'
      exact ⟨g0, f, st, ds, Q', s, r, g, l⟩
    · rw [h1] at e'; cases e'
      exact g.1.trans h5
/-- the law's call, from the data-level statement -/
theorem law_sp {c : List D → Store → Pd.K → Prop} {H : Hp} {a : Addr} {ns : List Int} (h : c [.ref 0] [.frz (ns.map D.int)] fun d _ => d = .bl true) (hO : L2.Only H) (hS : L2.SqL K H a (ns.map L2.V.int)) : liftF K 1 c [.ref a] H (fun v _ => v = .bl true) fun _ _ _ => False := by
  refine ⟨rfl, [a], [.frz (ns.map D.int)], [.ref 0], _, ⟨rfl, fun n m c c' b h1 h2 m1 m2 h3 h4 => ?_, fun n c' b h1 h2 => ?_⟩, RDs.one (RD.ref.mpr ⟨a, rfl, rfl⟩), h, fun d st' v f' H' q e s r => ?_⟩
  · match n, h1 with
    | 0, h1 => simp at h1; subst h1; cases m1
    | n + 1, h1 => simp at h1
  · match n, h1, h2 with
    | 0, h1, h2 =>
      simp at h1 h2
      subst h1; subst h2
      refine ⟨ns.map L2.V.int, ?_, RDs.of_ints ns⟩
      rcases hS with (hS | ⟨o, hS⟩) | hS
      · rcases hO a with q | ⟨o, xs, q⟩ <;> rw [q] at hS <;> cases hS
      · exact .inl ⟨o, hS⟩
      · exact .inr hS
    | n + 1, h1, _ => simp at h1
  · subst q
    rw [RD.bl] at r
    exact r
end
end Pd
end PartPdSoundF

section PartPdTac
set_option Elab.async false
set_option linter.all false
set_option maxRecDepth 100000
/-! Pd: how a data-level statement is walked. Own work. -/
namespace Pd
open PySem

/-- one step of a reading: it suffices to show P' -/
class Red (P : Prop) (P' : outParam Prop) : Prop where
  red : P' → P
/-- look-up and store of slots, by the environment's shape -/
class Lk (σ : Env) (i : Nat) (d : outParam D) : Prop where
  eq : lk σ i = some d
class SetE (σ : Env) (i : Nat) (d : Option D) (σ' : outParam Env) : Prop where
  eq : σ.set i d = σ'
instance : Lk (some d :: σ) 0 d := ⟨rfl⟩
instance [h : Lk σ n d] : Lk (x :: σ) (n + 1) d := ⟨h.eq⟩
instance : SetE (x :: σ) 0 d (d :: σ) := ⟨rfl⟩
instance [h : SetE σ n d σ'] : SetE (x :: σ) (n + 1) d (x :: σ') := ⟨by rw [List.set_cons_succ, h.eq]⟩
class WipeE (σ : Env) (vs : List Nat) (σ' : outParam Env) : Prop where
  eq : wipeE σ vs = σ'
instance : WipeE σ [] σ := ⟨rfl⟩
instance [h : WipeE σ vs σ'] [h2 : SetE σ' v none σ''] : WipeE σ (v :: vs) σ'' := ⟨by show (wipeE σ vs).set v none = σ''; rw [h.eq, h2.eq]⟩

section
variable {σ σ' : Env} {st st' : Store} {Q : K} {d x y z : D} {ta tb tc te to ti : TE} {T U : TT} {Ar Br : TA} {D0 : Ends} {S S' : TS} {xs ys : List D}
-- statements
instance : Red (sSeq S S' D0 σ st) (S { D0 with nx := fun σ' st' => Nxt (S' D0 σ' st') } σ st) := ⟨id⟩
instance : Red (sNext D0 σ st) (D0.nx σ st) := ⟨id⟩
instance : Red (sBreak D0 σ st) (D0.bk σ st) := ⟨id⟩
instance : Red (sCont D0 σ st) (D0.ct σ st) := ⟨id⟩
instance : Red (sExpr te D0 σ st) (te σ st fun _ st1 => D0.nx σ st1) := ⟨id⟩
instance : Red (sRet te D0 σ st) (te σ st D0.rt) := ⟨id⟩
instance : Red (sRetN D0 σ st) (D0.rt .non st) := ⟨id⟩
instance : Red (sIf T S S' D0 σ st) (T σ st fun b st1 => (b = true → S D0 σ st1) ∧ (b = false → S' D0 σ st1)) := ⟨id⟩
instance {g : TG} : Red (sAsg te g D0 σ st) (te σ st fun x st1 => g x σ st1 D0.nx) := ⟨id⟩
instance : Red (sPar i j Ar D0 σ st) (Ar σ st fun xs st1 => ∃ x y, xs = [x, y] ∧ D0.nx ((σ.set i (some x)).set j (some y)) st1) := ⟨id⟩
instance [h : Lk σ i x] : Red (sAug i k te D0 σ st) (te σ st fun y st1 => k x y st1 fun z st2 => gName i z σ st2 D0.nx) := ⟨fun p => ⟨x, h.eq, p⟩⟩
instance : Red (sAugL k to ti te D0 σ st) (to σ st fun o st1 => ti σ st1 fun i st2 => ixLK o i st2 fun x st3 => te σ st3 fun y st4 => k x y st4 fun z st5 => setK o i z st5 fun st6 => D0.nx σ st6) := ⟨id⟩
instance {i : TI} {g : TG} : Red (sFor i g S D0 σ st) (i σ st fun I st1 => forLoop I.guard g S D0 I.items σ st1) := ⟨id⟩
-- targets
instance {q : Env → Store → Prop} [h : SetE σ i (some d) σ'] : Red (gName i d σ st q) (q σ' st) := ⟨fun p => by show q (σ.set i (some d)) st; rw [h.eq]; exact p⟩
instance {q : Env → Store → Prop} : Red (gSub to ti d σ st q) (to σ st fun o st1 => ti σ st1 fun i st2 => setK o i d st2 fun st3 => q σ st3) := ⟨id⟩
instance {q : Env → Store → Prop} {gs : TGs} : Red (gTup gs n (.tup xs) σ st q) (xs.length = n ∧ gs xs σ st q) := ⟨fun p => ⟨xs, rfl, p⟩⟩
instance {q : Env → Store → Prop} : Red (gsNil [] σ st q) (q σ st) := ⟨fun p => ⟨rfl, p⟩⟩
instance {q : Env → Store → Prop} {g : TG} {gs : TGs} : Red (gsCons g gs (d :: xs) σ st q) (g d σ st fun σ1 st1 => gs xs σ1 st1 q) := ⟨fun p => ⟨d, xs, rfl, p⟩⟩
-- expressions
instance : Red (dC d σ st Q) (Q d st) := ⟨id⟩
instance [h : Lk σ i d] : Red (dVar i σ st Q) (Q d st) := ⟨fun p => ⟨d, h.eq, p⟩⟩
instance : Red (dOp k ta tb σ st Q) (ta σ st fun x st1 => tb σ st1 fun y st2 => k x y st2 Q) := ⟨id⟩
instance : Red (dUn k ta σ st Q) (ta σ st fun x st1 => k x st1 Q) := ⟨id⟩
instance : Red (dCmp k ta tb σ st Q) (ta σ st fun x st1 => tb σ st1 fun y st2 => k x y st2 fun b => Q (.bl b) st2) := ⟨id⟩
instance : Red (dChain k k' ta tb tc σ st Q) (ta σ st fun x st1 => tb σ st1 fun y st2 => k x y st2 fun b => (b = true → tc σ st2 fun z st3 => k' y z st3 fun b' => Q (.bl b') st3) ∧ (b = false → Q (.bl false) st2)) := ⟨id⟩
instance : Red (dAndT ta tb σ st Q) (ta σ st fun x st1 => truK x st1 fun c => (c = true → tb σ st1 Q) ∧ (c = false → Q x st1)) := ⟨id⟩
instance : Red (dOrT ta tb σ st Q) (ta σ st fun x st1 => truK x st1 fun c => (c = true → Q x st1) ∧ (c = false → tb σ st1 Q)) := ⟨id⟩
instance : Red (dNotT ta σ st Q) (ta σ st fun x st1 => truK x st1 fun c => Q (.bl (!c)) st1) := ⟨id⟩
instance : Red (dIf T ta tb σ st Q) (T σ st fun k st1 => (k = true → ta σ st1 Q) ∧ (k = false → tb σ st1 Q)) := ⟨id⟩
instance : Red (dSl te tl th σ st Q) (te σ st fun x st1 => tl σ st1 fun lo st2 => th σ st2 fun hi st3 => slK x lo hi st3 Q) := ⟨id⟩
instance {q : Option Int → Store → Prop} : Red (oNone σ st q) (q none st) := ⟨id⟩
instance {q : Option Int → Store → Prop} : Red (oSome te σ st q) (te σ st fun x st1 => ∃ i, x = .int i ∧ q (some i) st1) := ⟨id⟩
instance {q : List D → Store → Prop} : Red (aNil σ st q) (q [] st) := ⟨id⟩
instance {q : List D → Store → Prop} : Red (aCons te Ar σ st q) (te σ st fun x st1 => Ar σ st1 fun xs st2 => q (x :: xs) st2) := ⟨id⟩
instance : Red (dTup Ar σ st Q) (Ar σ st fun xs st1 => xs.length ≤ szl ∧ Q (.tup xs) st1) := ⟨id⟩
instance : Red (dLst Ar σ st Q) (Ar σ st fun xs st1 => xs.length ≤ szl ∧ Q (.ref st1.length) (st1 ++ [.lst xs])) := ⟨id⟩
instance : Red (dCall c f Ar σ st Q) (Ar σ st fun xs st1 => c f xs st1 Q) := ⟨id⟩
instance : Red (dB k Ar σ st Q) (Ar σ st fun xs st1 => k xs st1 Q) := ⟨id⟩
instance : Red (dM ty k to Ar σ st Q) (to σ st fun o st1 => ty o st1 ∧ Ar σ st1 fun xs st2 => k o xs st2 Q) := ⟨id⟩
instance : Red (dIsi t te σ st Q) (te σ st fun x st1 => isTy x st1 t fun b => Q (.bl b) st1) := ⟨id⟩
instance {i : TI} {g : TG} [h : WipeE σ vs σ'] : Red (dLc i g T te vs σ st Q) (i σ st fun I st1 => lcLoop I.guard g T te σ' st1.length Q I.items [] (st1 ++ [.lst []])) := ⟨fun p => by unfold dLc; rw [h.eq]; exact p⟩
-- tests
instance {q : Bool → Store → Prop} : Red (tTru te σ st q) (te σ st fun x st1 => truK x st1 fun b => q b st1) := ⟨id⟩
instance {q : Bool → Store → Prop} : Red (tAnd T U σ st q) (T σ st fun c st1 => (c = true → U σ st1 q) ∧ (c = false → q false st1)) := ⟨id⟩
instance {q : Bool → Store → Prop} : Red (tOr T U σ st q) (T σ st fun c st1 => (c = true → q true st1) ∧ (c = false → U σ st1 q)) := ⟨id⟩
instance {q : Bool → Store → Prop} : Red (tNot T σ st q) (T σ st fun c st1 => q (!c) st1) := ⟨id⟩
instance {q : Bool → Store → Prop} : Red (tYes σ st q) (q true st) := ⟨id⟩
-- iterables
instance {R : Iter → Store → Prop} : Red (iSeq te σ st R) (te σ st fun x st1 => itK x st1 R) := ⟨id⟩
instance {R : Iter → Store → Prop} : Red (iR1 te σ st R) (te σ st fun x st1 => ∃ j, x = .int j ∧ -(2 ^ 62) ≤ j ∧ j < 2 ^ 62 ∧ R ⟨rng 0 j.toNat, fun _ => True⟩ st1) := ⟨id⟩
instance {R : Iter → Store → Prop} : Red (iR2 ta tb σ st R) (ta σ st fun x st1 => tb σ st1 fun y st2 => ∃ i j, x = .int i ∧ y = .int j ∧ (-(2 ^ 62) ≤ i ∧ i < 2 ^ 62 ∧ -(2 ^ 62) ≤ j ∧ j < 2 ^ 62) ∧ R ⟨rng i (j - i).toNat, fun _ => True⟩ st2) := ⟨id⟩
instance {R : Iter → Store → Prop} : Red (iZip2 ta tb σ st R) (ta σ st fun x st1 => tb σ st1 fun y st2 => zipK x y st2 R) := ⟨id⟩
instance {R : Iter → Store → Prop} : Red (itK (.tup xs) st R) (R ⟨xs, fun _ => True⟩ st) := ⟨id⟩
instance {R : Iter → Store → Prop} : Red (zipK (.tup xs) (.tup ys) st R) (R ⟨zipD xs ys, fun _ => True⟩ st) := ⟨id⟩
-- values
section
variable {a b : Int} {u v : Str} {p q : Bool}
instance : Red (addK (.int a) (.int b) st Q) (Q (.int (a + b)) st) := ⟨id⟩
instance : Red (addK (.tup xs) (.tup ys) st Q) (xs.length + ys.length ≤ szl ∧ Q (.tup (xs ++ ys)) st) := ⟨id⟩
instance : Red (addK (.str u) (.str v) st Q) (u.length + v.length ≤ szl ∧ Q (.str (u ++ v)) st) := ⟨id⟩
instance : Red (iaddK (.int a) (.int b) st Q) (Q (.int (a + b)) st) := ⟨id⟩
instance : Red (subK (.int a) (.int b) st Q) (Q (.int (a - b)) st) := ⟨id⟩
instance : Red (mulK (.int a) (.int b) st Q) (cMul a b ∧ Q (.int (a * b)) st) := ⟨id⟩
instance : Red (fdivK (.int a) (.int b) st Q) ((0 < b ∧ b < 1073741824) ∧ Q (.int (a / b)) st) := ⟨id⟩
instance : Red (modK (.int a) (.int b) st Q) (0 < b ∧ Q (.int (a % b)) st) := ⟨id⟩
instance : Red (powK (.int a) (.int b) st Q) (cPow a b ∧ Q (.int (a ^ b.toNat)) st) := ⟨id⟩
instance : Red (shlK (.int a) (.int b) st Q) (cPow a b ∧ Q (.int (a * 2 ^ b.toNat)) st) := ⟨id⟩
instance : Red (shrK (.int a) (.int b) st Q) (0 ≤ b ∧ Q (.int (a / 2 ^ b.toNat)) st) := ⟨id⟩
instance : Red (andK (.int a) (.int b) st Q) (Q (.int (Builtin.bitAnd a b)) st) := ⟨id⟩
instance : Red (orK (.int a) (.int b) st Q) (Q (.int (Builtin.bitOr a b)) st) := ⟨id⟩
instance : Red (xorK (.int a) (.int b) st Q) (Q (.int (Builtin.bitXor a b)) st) := ⟨id⟩
instance : Red (negK (.int a) st Q) (Q (.int (-a)) st) := ⟨id⟩
instance : Red (invK (.int a) st Q) (Q (.int (Builtin.bitNot a)) st) := ⟨id⟩
instance {r : Bool → Prop} : Red (ltC (.int a) (.int b) st r) (r (decide (a < b))) := ⟨id⟩
instance {r : Bool → Prop} : Red (leC (.int a) (.int b) st r) (r (decide (a ≤ b))) := ⟨id⟩
instance {r : Bool → Prop} : Red (gtC (.int a) (.int b) st r) (r (decide (b < a))) := ⟨id⟩
instance {r : Bool → Prop} : Red (geC (.int a) (.int b) st r) (r (decide (b ≤ a))) := ⟨id⟩
theorem eq_ii {r : Bool → Prop} (h : r (decide (a = b))) : eqC (.int a) (.int b) st r := by
  have e : D.eqb (.int a) (.int b) = decide (a = b) := by
    simp only [D.eqb]
    by_cases e : a = b <;> simp [e]
  refine ⟨by simp [D.okd], by simp [D.okd], ?_⟩
  rw [e]; exact h
theorem eq_ss {r : Bool → Prop} (h : okS u = true ∧ okS v = true ∧ r (decide (u = v))) : eqC (.str u) (.str v) st r := by
  refine ⟨by simpa [D.okd] using h.1, by simpa [D.okd] using h.2.1, ?_⟩
  simpa [D.eqb] using h.2.2
instance {r : Bool → Prop} : Red (eqC (.int a) (.int b) st r) (r (decide (a = b))) := ⟨eq_ii⟩
instance {r : Bool → Prop} : Red (neC (.int a) (.int b) st r) (r (!decide (a = b))) := ⟨fun h => eq_ii (r := fun b => r (!b)) h⟩
instance {r : Bool → Prop} : Red (eqC (.str u) (.str v) st r) (okS u = true ∧ okS v = true ∧ r (decide (u = v))) := ⟨eq_ss⟩
instance {r : Bool → Prop} : Red (neC (.str u) (.str v) st r) (okS u = true ∧ okS v = true ∧ r (!decide (u = v))) := ⟨fun h => eq_ss (r := fun b => r (!b)) h⟩
instance {r : Bool → Prop} : Red (isC x .non st r) (r (isNon x)) := ⟨fun h => by cases x <;> exact h⟩
instance {r : Bool → Prop} : Red (isntC x .non st r) (r (!isNon x)) := ⟨fun h => by cases x <;> exact h⟩
instance {r : Bool → Prop} : Red (truK (.bl p) st r) (r p) := ⟨id⟩
instance {r : Bool → Prop} : Red (truK (.int a) st r) (r (a != 0)) := ⟨id⟩
instance {r : Bool → Prop} : Red (truK .non st r) (r false) := ⟨id⟩
instance {r : Bool → Prop} : Red (truK (.tup xs) st r) (r (!xs.isEmpty)) := ⟨id⟩
instance : Red (ixK (.tup xs) (.int a) st Q) (∃ d, atD xs a = some d ∧ Q d st) := ⟨id⟩
instance : Red (slK (.tup xs) lo hi st Q) (Q (.tup (cutD xs lo hi)) st) := ⟨id⟩
instance : Red (intB [.int a] st Q) (Q (.int a) st) := ⟨id⟩
instance : Red (intB [.bl p] st Q) (Q (.int (b2i p)) st) := ⟨id⟩
instance : Red (absB [.int a] st Q) (Q (.int (if a < 0 then -a else a)) st) := ⟨id⟩
instance : Red (lenB [.tup xs] st Q) (Q (.int xs.length) st) := ⟨id⟩
instance : Red (min2B [.int a, .int b] st Q) (Q (.int (if b < a then b else a)) st) := ⟨id⟩
instance : Red (max2B [.int a, .int b] st Q) (Q (.int (if b > a then b else a)) st) := ⟨id⟩
instance : Red (listB [.tup xs] st Q) (Q (.ref st.length) (st ++ [.lst xs])) := ⟨id⟩
instance : Red (tupleB [.tup xs] st Q) (Q (.tup xs) st) := ⟨id⟩
instance {r : Bool → Prop} : Red (isTy (.int a) st t r) (r (decide (t = .int))) := ⟨id⟩
instance {r : Bool → Prop} : Red (isTy (.bl p) st t r) (r (decide (t = .bool) || decide (t = .int))) := ⟨id⟩
instance {r : Bool → Prop} : Red (isTy (.tup xs) st t r) (r (decide (t = .tuple))) := ⟨id⟩
instance {r : Bool → Prop} : Red (isTy .non st t r) (r false) := ⟨id⟩
instance {P : Int → Prop} : Red (∃ i, D.int a = D.int i ∧ P i) (P a) := ⟨fun h => ⟨a, rfl, h⟩⟩
instance {P : Int → Int → Prop} : Red (∃ i j, D.int a = D.int i ∧ D.int b = D.int j ∧ P i j) (P a b) := ⟨fun h => ⟨a, b, rfl, rfl, h⟩⟩
-- known ways
instance {A B : Prop} : Red ((true = true → A) ∧ (true = false → B)) A := ⟨fun h => ⟨fun _ => h, fun e => nomatch e⟩⟩
instance {A B : Prop} : Red ((false = true → A) ∧ (false = false → B)) B := ⟨fun h => ⟨fun e => (nomatch e), fun _ => h⟩⟩
end
end

/-! lemmas for what is open -/
theorem way {b : Bool} {A B : Prop} (h1 : b = true → A) (h2 : b = false → B) : (b = true → A) ∧ (b = false → B) := ⟨h1, h2⟩
theorem wayT {b : Bool} {A B : Prop} (h : b = true) (h1 : A) : (b = true → A) ∧ (b = false → B) := ⟨fun _ => h1, fun e => by rw [h] at e; cases e⟩
theorem wayF {b : Bool} {A B : Prop} (h : b = false) (h1 : B) : (b = true → A) ∧ (b = false → B) := ⟨fun e => (by rw [h] at e; cases e), fun _ => h1⟩
/-- where ways meet: J holds there -/
theorem seq_cut {S S' : TS} {D0 : Ends} {σ : Env} {st : Store} (J : Env → Store → Prop) (h : ∀ N : Env → Store → Prop, (∀ σ st, J σ st → N σ st) → S { D0 with nx := N } σ st) (hJ : ∀ σ st, J σ st → S' D0 σ st) : sSeq S S' D0 σ st := h _ fun σ st j => ⟨hJ σ st j⟩
class StartE (n : Nat) (ds : List D) (σ : outParam Env) : Prop where
  eq : start n ds = σ
instance : StartE 0 [] [] := ⟨rfl⟩
instance [h : StartE n [] σ] : StartE (n + 1) [] (none :: σ) := ⟨by rw [← h.eq]; unfold start; simp [List.replicate_succ]⟩
instance [h : StartE n ds σ] : StartE (n + 1) (d :: ds) (some d :: σ) := ⟨by rw [← h.eq]; unfold start; simp⟩
/-- a call of a def of the program -/
theorem call_intro {prog : String → Option Def} {k : Nat} {f : String} {ds : List D} {st : Store} {Q : K} {ps ns : Nat} {body : Cl → TS} {σ : Env} (h : prog f = some ⟨ps, ns, body⟩) (hl : ds.length = ps) [hσ : StartE ns ds σ] (hb : body (callN prog k) { nx := fun _ st' => Q .non st', rt := Q } σ st) : callN prog (k + 1) f ds st Q :=
  ⟨_, h, hl, by rw [hσ.eq]; exact hb⟩

/-! ### loops -/
/-- a for by an invariant over the items gone through; N: what the body is to reach -/
theorem for_inv {gd : Store → Prop} {g : TG} {tb : TS} {D0 : Ends} (Pv : List D → Env → Store → Prop) {items : List D} 
    (hs : ∀ pre x post σ st, items = pre ++ x :: post → Pv pre σ st → ∀ N : Env → Store → Prop, (∀ σ st, Pv (pre ++ [x]) σ st → N σ st) → gd st ∧ g x σ st fun σ2 st2 => tb { D0 with nx := N, ct := N, bk := D0.nx } σ2 st2)
    (hd : ∀ σ st, Pv items σ st → gd st ∧ D0.nx σ st) : ∀ (todo pre : List D) {σ : Env} {st : Store}, items = pre ++ todo → Pv pre σ st → forLoop gd g tb D0 todo σ st
  | [], pre, σ, st, e, h => by
    rw [List.append_nil] at e
    subst e
    exact hd σ st h
  | x :: post, pre, σ, st, e, h => hs pre x post σ st e h _ fun σ st h' => for_inv Pv hs hd post (pre ++ [x]) (by rw [e]; simp) h'
theorem for_by {gd : Store → Prop} {g : TG} {tb : TS} {D0 : Ends} {items : List D} {σ : Env} {st : Store} (Pv : List D → Env → Store → Prop) (h0 : Pv [] σ st)
    (hs : ∀ pre x post σ st, items = pre ++ x :: post → Pv pre σ st → ∀ N : Env → Store → Prop, (∀ σ st, Pv (pre ++ [x]) σ st → N σ st) → gd st ∧ g x σ st fun σ2 st2 => tb { D0 with nx := N, ct := N, bk := D0.nx } σ2 st2)
    (hd : ∀ σ st, Pv items σ st → gd st ∧ D0.nx σ st) : forLoop gd g tb D0 items σ st := for_inv Pv hs hd items [] rfl h0
/-- over range(n) -/
theorem for_rng {gd : Store → Prop} {g : TG} {tb : TS} {D0 : Ends} {lo : Int} {n : Nat} {σ : Env} {st : Store} (Pv : Nat → Env → Store → Prop) (h0 : Pv 0 σ st)
    (hs : ∀ k σ st, k < n → Pv k σ st → ∀ N : Env → Store → Prop, (∀ σ st, Pv (k + 1) σ st → N σ st) → gd st ∧ g (.int (lo + k)) σ st fun σ2 st2 => tb { D0 with nx := N, ct := N, bk := D0.nx } σ2 st2)
    (hd : ∀ σ st, Pv n σ st → gd st ∧ D0.nx σ st) : forLoop gd g tb D0 (rng lo n) σ st := by
  refine for_by (fun pre σ st => Pv pre.length σ st) h0 (fun pre x post σ st e h N hN => ?_) (fun σ st h => hd σ st (by simpa [rng] using h))
  have hl : pre.length < n := by
    have := congrArg List.length e
    simp [rng] at this
    omega
  have hx : x = .int (lo + pre.length) := by
    have h2 : (rng lo n)[pre.length]? = some x := by rw [e]; simp
    unfold rng at h2
    rw [List.getElem?_map, List.getElem?_range hl] at h2
    simpa using h2.symm
  subst hx
  exact hs pre.length σ st hl h N fun σ st h' => hN σ st (by simpa using h')
/-- a comprehension by an invariant; N: behind the element, M: where a test leaves it out -/
theorem lc_inv {gd : Store → Prop} {g : TG} {tt : TT} {te : TE} {ρ : Env} {n : Nat} {Q : K} (Pv : List D → List D → Store → Prop) {items : List D}
    (hs : ∀ pre x post acc st, items = pre ++ x :: post → Pv pre acc st → ∀ (N : D → Store → Prop) (M : Store → Prop), (∀ y st', rdL st' n acc → acc.length < szl → Pv (pre ++ [x]) (acc ++ [y]) (st'.set n (.lst (acc ++ [y]))) → N y st') → (∀ st', rdL st' n acc → Pv (pre ++ [x]) acc st' → M st') →
      gd st ∧ g x ρ st fun ρ2 st2 => tt ρ2 st2 fun b st3 => (b = true → te ρ2 st3 N) ∧ (b = false → M st3))
    (hd : ∀ acc st, Pv items acc st → gd st ∧ rdL st n acc ∧ Q (.ref n) st) : ∀ (todo pre acc : List D) {st : Store}, items = pre ++ todo → Pv pre acc st → lcLoop gd g tt te ρ n Q todo acc st
  | [], pre, acc, st, e, h => by
    rw [List.append_nil] at e
    subst e
    exact hd acc st h
  | x :: post, pre, acc, st, e, h => hs pre x post acc st e h _ _ (fun y st' h1 h2 h3 => ⟨h1, h2, lc_inv Pv hs hd post (pre ++ [x]) (acc ++ [y]) (by rw [e]; simp) h3⟩) fun st' h1 h2 => ⟨h1, lc_inv Pv hs hd post (pre ++ [x]) acc (by rw [e]; simp) h2⟩
theorem lc_by {gd : Store → Prop} {g : TG} {tt : TT} {te : TE} {ρ : Env} {n : Nat} {Q : K} {items : List D} {st : Store} (Pv : List D → List D → Store → Prop) (h0 : Pv [] [] st)
    (hs : ∀ pre x post acc st, items = pre ++ x :: post → Pv pre acc st → ∀ (N : D → Store → Prop) (M : Store → Prop), (∀ y st', rdL st' n acc → acc.length < szl → Pv (pre ++ [x]) (acc ++ [y]) (st'.set n (.lst (acc ++ [y]))) → N y st') → (∀ st', rdL st' n acc → Pv (pre ++ [x]) acc st' → M st') →
      gd st ∧ g x ρ st fun ρ2 st2 => tt ρ2 st2 fun b st3 => (b = true → te ρ2 st3 N) ∧ (b = false → M st3))
    (hd : ∀ acc st, Pv items acc st → gd st ∧ rdL st n acc ∧ Q (.ref n) st) : lcLoop gd g tt te ρ n Q items [] st := lc_inv Pv hs hd items [] [] rfl h0
theorem set_app {α : Type} (xs : List α) (a b : α) : (xs ++ [a]).set xs.length b = xs ++ [b] := by
  rw [List.set_append_right _ _ (Nat.le_refl _)]; simp
/-- the element reads alone: the new list is the map -/
theorem lc_map {α : Type} {gd : Store → Prop} {g : TG} {te : TE} {ρ : Env} {st : Store} {Q : K} (xs : List α) (f h : α → D) {items : List D} (hi : items = xs.map f) (hl : xs.length ≤ szl) (hg : ∀ acc, gd (st ++ [.lst acc]))
    (hs : ∀ x, x ∈ xs → ∀ (acc : List D) (N : D → Store → Prop), N (h x) (st ++ [.lst acc]) → g (f x) ρ (st ++ [.lst acc]) fun ρ2 st2 => te ρ2 st2 N)
    (hd : Q (.ref st.length) (st ++ [.lst (xs.map h)])) : lcLoop gd g tYes te ρ st.length Q items [] (st ++ [.lst []]) := by
  subst hi
  refine lc_by (fun pre acc st' => acc = (xs.take pre.length).map h ∧ st' = st ++ [.lst acc]) ⟨rfl, rfl⟩ (fun pre x post acc st' e ⟨h1, h2⟩ N M hN hM => ?_) (fun acc st' ⟨h1, h2⟩ => ?_)
  · subst h1; subst h2
    refine ⟨hg _, ?_⟩
    have hlen : pre.length < xs.length := by
      have := congrArg List.length e
      simp at this; omega
    have hx : xs[pre.length] ∈ xs := List.getElem_mem hlen
    have hfx : x = f xs[pre.length] := by
      have h2 : (xs.map f)[pre.length]? = some x := by rw [e]; simp
      rw [List.getElem?_map, List.getElem?_eq_getElem hlen] at h2
      simpa using h2.symm
    subst hfx
    have e1 : (fun (ρ2 : Env) (st2 : Store) => tYes ρ2 st2 fun b st3 => (b = true → te ρ2 st3 N) ∧ (b = false → M st3)) = fun ρ2 st2 => te ρ2 st2 N := by
      funext ρ2 st2
      exact propext ⟨fun q => q.1 rfl, fun q => ⟨fun _ => q, fun e => nomatch e⟩⟩
    rw [e1]
    refine hs _ hx _ N (hN _ _ (by unfold rdL; simp) (by simp; omega) ⟨?_, ?_⟩)
    · rw [List.length_append]
      show _ = List.map h (List.take (pre.length + 1) xs)
      rw [List.take_add_one, List.map_append, List.getElem?_eq_getElem hlen]
      rfl
    · rw [set_app]
  · subst h1; subst h2
    have e2 : List.take (List.map f xs).length xs = xs := by simp
    rw [e2] at *
    exact ⟨hg _, by unfold rdL; simp, hd⟩
theorem map_id_int (xs : List Int) : xs.map D.int = xs.map D.int := rfl
end Pd
end PartPdTac

section PartPdMore
set_option Elab.async false
set_option linter.all false
set_option maxRecDepth 100000
/-! Pd: more readings: texts split, range as a list or a tuple, sorted. Own work. -/
namespace Pd
open PySem
def splitM : KM
  | .str a, [.str b], st, Q => (b.length == 0) = false ∧ a.length + 2 ≤ szl ∧ Q (.ref st.length) (st ++ [.lst ((PySem.Txt.split a b).map D.str)])
  | _, _, _, _ => False
/-- range(..) as an argument -/
abbrev TR := Env → Store → (Int → Int → Store → Prop) → Prop
def rg1 (t : TE) : TR := fun σ st Q => t σ st fun x st1 => ∃ j, x = .int j ∧ Q 0 j st1
def rg2 (t u : TE) : TR := fun σ st Q => t σ st fun x st1 => u σ st1 fun y st2 => ∃ i j, x = .int i ∧ y = .int j ∧ Q i j st2
def rgOk (a b : Int) : Prop := -(2 ^ 62) ≤ a ∧ a < 2 ^ 62 ∧ -(2 ^ 62) ≤ b ∧ b < 2 ^ 62 ∧ (b - a).toNat ≤ 2 ^ 24
def dLR (r : TR) : TE := fun σ st Q => r σ st fun a b st1 => rgOk a b ∧ Q (.ref st1.length) (st1 ++ [.lst (rng a (b - a).toNat)])
def dTR (r : TR) : TE := fun σ st Q => r σ st fun a b st1 => rgOk a b ∧ Q (.tup (rng a (b - a).toNat)) st1
/-- sorted: of whole numbers -/
def sortedB : KB
  | [.ref n], st, Q => ∃ ns : List Int, rdA st n (ns.map D.int) ∧ ∀ ns' : List Int, ns'.Perm ns → ns'.Pairwise (· ≤ ·) → Q (.ref st.length) (st ++ [.lst (ns'.map D.int)])
  | _, _, _ => False
/-- a call of a def with n parameters and one that takes what is left over -/
def dCallS (c : Cl) (f : String) (n : Nat) (t : TA) : TE := fun σ st Q => t σ st fun xs st1 => n ≤ xs.length ∧ (xs.drop n).length ≤ szl ∧ c f (xs.take n ++ [.tup (xs.drop n)]) st1 Q
section
variable {c : Cl} {fn : String} {nn : Nat} {Ar : TA}
instance {σ : Env} {st : Store} {Q : K} : Red (dCallS c fn nn Ar σ st Q) (Ar σ st fun xs st1 => nn ≤ xs.length ∧ (xs.drop nn).length ≤ szl ∧ c fn (xs.take nn ++ [.tup (xs.drop nn)]) st1 Q) := ⟨id⟩
end
section
variable {σ : Env} {st : Store} {Q : K} {r : TR} {ta tb : TE} {q : Int → Int → Store → Prop} {a b : Int} {u v : Str}
instance : Red (dLR r σ st Q) (r σ st fun a b st1 => rgOk a b ∧ Q (.ref st1.length) (st1 ++ [.lst (rng a (b - a).toNat)])) := ⟨id⟩
instance : Red (dTR r σ st Q) (r σ st fun a b st1 => rgOk a b ∧ Q (.tup (rng a (b - a).toNat)) st1) := ⟨id⟩
instance : Red (rg1 ta σ st q) (ta σ st fun x st1 => ∃ j, x = .int j ∧ q 0 j st1) := ⟨id⟩
instance : Red (rg2 ta tb σ st q) (ta σ st fun x st1 => tb σ st1 fun y st2 => ∃ i j, x = .int i ∧ y = .int j ∧ q i j st2) := ⟨id⟩
instance : Red (splitM (.str u) [.str v] st Q) ((v.length == 0) = false ∧ u.length + 2 ≤ szl ∧ Q (.ref st.length) (st ++ [.lst ((PySem.Txt.split u v).map D.str)])) := ⟨id⟩
instance : Red (tyStr (.str u) st) True := ⟨id⟩
end
end Pd
end PartPdMore

section PartPdSoundG
set_option Elab.async false
set_option linter.all false
set_option maxRecDepth 100000
set_option maxHeartbeats 1000000
/-! Pd over the hand layer: texts split, range as a list or a tuple, sorted. Own work. -/
namespace Pd
open PySem PySem.Spec
section
variable {X : L2.Cx} {K : Kf} {f f' : List Addr} {H H' : Hp} {st st' : Store} {ρ : Env} {σ : L2.St}
theorem RDs.of_strs : ∀ (ss : List Str), RDs K f H (ss.map D.str) (ss.map L2.V.str)
  | [] => by simp [RDs.nil]
  | n :: ns => by
    rw [List.map_cons, List.map_cons, RDs.cons]
    exact ⟨_, _, rfl, by rw [RD.str], RDs.of_strs ns⟩
theorem real_split : RealM K (fun x xs H Q => ∃ a b, x = .str a ∧ xs = [.str b] ∧ (b.length == 0) = false ∧ a.length + 2 ≤ sizeLine ∧ L2.rNewStrs (Txt.split a b) H Q) splitM := fun f st H x xs v vs Q' Q s r1 r2 h l => by
  cases x <;> try (exact h.elim)
  match xs, h with
  | [], h => exact h.elim
  | y :: _ :: _, h => cases y <;> exact (show False from h).elim
  | [y], h =>
    cases y <;> try (exact h.elim)
    rw [RD.str] at r1
    obtain ⟨w, rfl, r3⟩ := r2.inv1
    rw [RD.str] at r3
    subst r1; subst r3
    obtain ⟨h1, h2, h3⟩ := h
    exact ⟨_, _, rfl, rfl, h1, by rw [← szl_eq]; exact h2, fun p hp => l.lst s h3 (RDs.of_strs _) hp⟩
/-! range(..) as an argument -/
def liftR (K : Kf) (t : TR) : L2.St → Hp → (Int → Int → Hp → Prop) → Prop := fun σ H Q => ∃ f ρ st Q', Rel K f ρ st σ H ∧ t ρ st Q' ∧ ∀ (a b : Int) (st' : Store) (f' : List Addr) (H' : Hp), Q' a b st' → Ext K f H f' H' → RelS K f' st' H' → Q a b H'
abbrev PDR (X : L2.Cx) (e : Expr) (t : TR) : Prop := L2.PRg X e (liftR X.K t)
theorem prg_imp {e : Expr} {t t' : L2.St → Hp → (Int → Int → Hp → Prop) → Prop} (h : L2.PRg X e t) (m : ∀ σ H Q, t' σ H Q → t σ H Q) : L2.PRg X e t' := fun pins s σ H Q I q => h pins s σ H Q I (m σ H Q q)
section
variable {a b e : Expr} {ta tb : TE} {tr : TR} {pos : Pos}
theorem pr_1 {p : Pos} (hg : L2.Gl X "range") (hm : X.mg "range" = none) (ha : PD X a ta) (na : starEach [a] X.env = (false, eval a X.env) :: starEach [] X.env := by rfl) : PDR X (.Call (.Name "range" p) [a] [] pos) (rg1 ta) :=
  prg_imp (L2.prg_1 hg hm ha na) fun σ H R ⟨f, ρ, st, R', Re, h, l⟩ => ⟨f, ρ, st, _, Re, h, fun x st1 v f1 H1 q1 e1 s1 r1 => by
    obtain ⟨j, rfl, h1⟩ := q1
    rw [RD.int] at r1
    subst r1
    exact ⟨j, rfl, l _ _ st1 f1 H1 h1 e1 s1⟩⟩
theorem pr_2 {p : Pos} (hg : L2.Gl X "range") (hm : X.mg "range" = none) (ha : PD X a ta) (hb : PD X b tb) (na : starEach [a, b] X.env = (false, eval a X.env) :: starEach [b] X.env := by rfl)
    (nb : starEach [b] X.env = (false, eval b X.env) :: starEach [] X.env := by rfl) (hp : (backTo pos (starEach [b] X.env)).any (·.1) = false := by rfl) : PDR X (.Call (.Name "range" p) [a, b] [] pos) (rg2 ta tb) :=
  prg_imp (L2.prg_2 hg hm ha hb na nb hp) fun σ H R ⟨f, ρ, st, R', Re, h, l⟩ => ⟨f, ρ, st, _, Re, h, fun x st1 v f1 H1 q1 e1 s1 r1 => ⟨f1, ρ, st1, _, Re.later e1 s1, q1, fun y st2 w f2 H2 q2 e2 s2 r2 => by
    obtain ⟨i, j, rfl, rfl, h3⟩ := q2
    have r1' := r1.mono e2
    rw [RD.int] at r1' r2
    subst r1'; subst r2
    exact ⟨i, j, rfl, rfl, l _ _ st2 f2 H2 h3 (e1.trans e2) s2⟩⟩⟩
theorem rng_rgV (a b : Int) : RDs K f H (rng a (b - a).toNat) (L2.rgV a b) := by
  have e1 : rng a (b - a).toNat = ((List.range (b - a).toNat).map fun (k : Nat) => a + (k : Int)).map D.int := by unfold rng; simp
  have e2 : L2.rgV a b = ((List.range (b - a).toNat).map fun (k : Nat) => a + (k : Int)).map L2.V.int := by unfold L2.rgV; simp
  rw [e1, e2]; exact RDs.of_ints _
theorem pd_listRg {p : Pos} (hc : X.calm = true) (hg : L2.Gl X "list") (hm : X.mg "list" = none) (he : PDR X e tr) (na : starEach [e] X.env = (false, eval e X.env) :: starEach [] X.env := by rfl) : PD X (.Call (.Name "list" p) [e] [] pos) (dLR tr) :=
  pe_imp (L2.pe_listRg hc hg hm he na) fun σ H Q ⟨f, ρ, st, Q', R, h, l⟩ => ⟨f, ρ, st, _, R, h, fun a b st1 f1 H1 q1 e1 s1 => ⟨q1.1, fun p hp => (l.later e1).lst s1 q1.2 (rng_rgV a b) hp⟩⟩
theorem pd_tupRg {p : Pos} (hc : X.calm = true) (hg : L2.Gl X "tuple") (hm : X.mg "tuple" = none) (he : PDR X e tr) (na : starEach [e] X.env = (false, eval e X.env) :: starEach [] X.env := by rfl) : PD X (.Call (.Name "tuple" p) [e] [] pos) (dTR tr) :=
  pe_imp (L2.pe_tupRg hc hg hm he na) fun σ H Q ⟨f, ρ, st, Q', R, h, l⟩ => ⟨f, ρ, st, _, R, h, fun a b st1 f1 H1 q1 e1 s1 => ⟨q1.1, fun p hp => (l.later e1).tup s1 q1.2 (rng_rgV a b) hp⟩⟩
end
theorem real_sortedB : RealB K (L2.rSortedI K) sortedB :=
  realB1 (kb1 (fun _ _ h => h) fun x y xs st Q h => by cases x <;> exact h) fun f st H x v Q' Q s r h l => by
    cases x <;> try (exact h.elim)
    rw [RD.ref] at r
    obtain ⟨a, e, rfl⟩ := r
    obtain ⟨ns, h1, h2⟩ := h
    obtain ⟨a', vs, k1, k2, d⟩ := s.rdA h1
    rw [e] at k1; cases k1
    exact ⟨a, ns, rfl, by rw [← d.ints]; exact k2, fun ns' p hp hi hn => l.lst s (h2 ns' hp hi) (RDs.of_ints ns') hn⟩
end
end Pd
end PartPdSoundG

section PartPdSoundH
set_option Elab.async false
set_option linter.all false
set_option maxRecDepth 100000
set_option maxHeartbeats 1000000
/-! Pd over the hand layer: defs whose last parameter takes what is left over. Own work. -/
namespace Pd
open PySem PySem.Spec
open PyProof.Rows (envOfC)
/-- what a def with n parameters and a star one promises -/
def starF (K : Kf) (n : Nat) (c : List D → Store → Pd.K → Prop) : L2.Sp := fun vs H Q E => ∃ ws rest : List L2.V, vs = ws ++ rest ∧ ws.length = n ∧ rest.length ≤ sizeLine ∧ ∀ p, H p = Option.none → liftF K (n + 1) c (ws ++ [L2.V.ref p]) (L2.upd H p (.tup rest)) Q E
structure OwnS (P : Program) (w : World) (K : Kf) (mg : Str → Option Value) (base : Heap) (k : Nat) (n : Nat) (x : Str) (c : List D → Store → Pd.K → Prop) : Prop where
  ex : ∃ fa : Addr, L2.FnR P w K mg base L2.CX0 k fa (starF K n c) ∧ mg x = some (.ref fa) ∧ PySem.W.keepIn K (.ref fa) = true
section
variable {X : L2.Cx} {K : Kf} {f f' : List Addr} {H H' : Hp} {st st' : Store} {a : Expr} {es : List Expr} {pos : Pos}
theorem pd_callS {x : Str} {p : Pos} {k n : Nat} {ts : TA} {cl : Cl} {y : String} (o : OwnS X.prog X.w X.K X.mg X.base k n x (cl y)) (hr : L2.Room k X.A) (hg : L2.Gl X x) (ha : PDA X (a :: es) ts) (hdb : (x == ("__debug__" : Str)) = false := by decide)
    (he : starEach (a :: es) X.env = (false, eval a X.env) :: starEach es X.env := by rfl) (hpl : (backTo pos (starEach es X.env)).any (·.1) = false := by rfl) : PD X (.Call (.Name x p) (a :: es) [] pos) (dCallS cl y n ts) := by
  obtain ⟨fa, F, hm, hk⟩ := o.ex
  have step : L2.PE X (.Call (.Name x p) (a :: es) [] pos) (fun σ H Q => liftA X.K ts σ H fun vs H1 => starF X.K n (cl y) vs H1 Q fun _ _ _ => False) := by
    constructor
    intro pins s σ H Q I h
    refine wpAny_Call_Name_kw (L2.ld_glob I hg hm ?_ hdb)
    have args := ha.run pos pins s σ H _ I h
    exact PySem.W.callWith_K (h₀ := X.base) I.ok.mod.kin hk (wpAny_mono args (fun us s1 ⟨vs, H1, I1, r, q⟩ => ⟨I1.kIn, wpAny_call (L2.run_fnR F hr L2.pass0 I1 r q)⟩) fun _ _ z => z) he hpl
  refine pe_imp step fun σ H Q ⟨f, ρ, st, Q', R, h, l⟩ => ⟨f, ρ, st, _, R, h, fun xs st1 vs f1 H1 ⟨h1, h2, h3⟩ e1 s1 r1 => ?_⟩
  have hvl := r1.length
  refine ⟨vs.take n, vs.drop n, (List.take_append_drop n vs).symm, by rw [List.length_take]; omega, ?_, fun p hp => ?_⟩
  · rw [List.length_drop, hvl, ← szl_eq]; rw [List.length_drop] at h2; exact h2
  · have s2 := s1.lay (o := .tup (vs.drop n)) hp
    obtain ⟨s2, e2⟩ := s2
    refine ⟨by rw [List.length_append, List.length_take]; simp; omega, f1, st1, xs.take n ++ [.tup (xs.drop n)], Q', s2, ?_, h3, (l.later e1).later e2⟩
    refine RDs.append ((r1.take n).mono e2) (RDs.one (RD.tup.mpr ⟨p, vs.drop n, rfl, .of L2.upd_same, (r1.drop n).mono e2⟩))
end
section
variable {P : Program} {w : World} {K : Kf} {mg : Str → Option Value} {base : Heap} {names : List String} {snames : List (String × Nat)}
/-- as Step, with both kinds of own defs -/
structure Step2 (P : Program) (w : World) (K : Kf) (mg : Str → Option Value) (base : Heap) (names : List String) (snames : List (String × Nat)) (x : String) (d : Def) : Prop where
  ex : ∃ (fa : Addr) (fd : FuncData) (ps : List Str), mg x = some (.ref fa) ∧ PySem.W.keepIn K (.ref fa) = true ∧ L2.Binds K fd ps [] ∧ d.ps = ps.length ∧
    ∀ (k : Nat) (c : Cl), (∀ y ∈ names, Own P w K mg base k (Str.ofString y) (c y)) → (∀ q ∈ snames, OwnS P w K mg base k q.2 (Str.ofString q.1) (c q.1)) → L2.FnOk P w K mg base L2.CX0 (k + 1) fa fd ps (liftF K ps.length (d.run c))
structure StepS (P : Program) (w : World) (K : Kf) (mg : Str → Option Value) (base : Heap) (names : List String) (snames : List (String × Nat)) (x : String) (n : Nat) (d : Def) : Prop where
  ex : ∃ fa : Addr, mg x = some (.ref fa) ∧ PySem.W.keepIn K (.ref fa) = true ∧
    ∀ (k : Nat) (c : Cl), (∀ y ∈ names, Own P w K mg base k (Str.ofString y) (c y)) → (∀ q ∈ snames, OwnS P w K mg base k q.2 (Str.ofString q.1) (c q.1)) → L2.FnR P w K mg base L2.CX0 (k + 1) fa (starF K n (d.run c))
theorem fnS_ok {qual x pv : Str} {sm : Stmt} {fa : Addr} {fd : FuncData} {N ps : List Str} {k : Nat} {d : Def} {c : Cl} (F : L2.Fun K x qual sm fa fd) (S : L2.FnScope N (ps ++ [pv]) (L2.defScope sm)) (hn : d.ns = N.length) (hp : d.ps = ps.length + 1)
    (hb : ∀ (kV doc pm : Value) (an : Option Addr) (cdv ct : Value) (us rest : List Value), us.length = ps.length → bindArgs (PySem.W.fnOf x qual (L2.defArgs sm) (L2.defBody sm) (L2.defScope sm) .none kV doc pm an cdv ct) ⟨us ++ rest, []⟩ = (newTuple rest >>= fun t => pure (ps.zip us ++ [(pv, t)])))
    (der : ∀ (cdv : Value) (A : Around) (outer : List PySem.Env) (s : Shared) (H : Hp) (E : L2.XK), L2.Room k (A.deeper (envOfC qual (L2.defScope sm) s.heap.objs.size fa cdv)) →
      PDSs (L2.cxOf L2.CX0 P w K mg base N qual (L2.defScope sm) fa cdv A outer s H E).nox (L2.defBody sm) (d.body c)) : L2.FnR P w K mg base L2.CX0 (k + 1) fa (starF K ps.length (d.run c)) := by
  obtain ⟨oc, od, kV, doc, pm, an, cdv, ct, osl, rfl, look, code⟩ := F.ex
  refine StX.fn_star (sp := liftF K (ps.length + 1) (d.run c)) look code S StX.cxUp_none (hb kV doc pm an cdv ct) fun A outer s H vs Q E hr h => ?_
  refine ⟨_, (der cdv A outer s H E hr).nox, ?_⟩
  obtain ⟨_, f, st, ds, Q', s', r, ⟨hl, h⟩, l⟩ := h
  refine ⟨f, start d.ns ds, st, _, start_rel s' r hn, h, ?_⟩
  exact ⟨fun ρ1 st1 σ1 f1 H1 q e r1 => l .non st1 .non f1 H1 q e r1.toRelS (RD.non.mpr rfl), l, fun _ _ _ _ _ q _ _ => q, fun _ _ _ _ _ q _ _ => q⟩
theorem all_own2 {prog : String → Option Def} (hs : ∀ x ∈ names, ∃ d, prog x = some d ∧ Step2 P w K mg base names snames x d) (hs2 : ∀ q ∈ snames, ∃ d, prog q.1 = some d ∧ StepS P w K mg base names snames q.1 q.2 d) :
    ∀ k : Nat, (∀ x ∈ names, Own P w K mg base k (Str.ofString x) (callN prog k x)) ∧ ∀ q ∈ snames, OwnS P w K mg base k q.2 (Str.ofString q.1) (callN prog k q.1)
  | 0 => by
    refine ⟨fun x hx => ?_, fun q hq => ?_⟩
    · obtain ⟨d, h1, fa, fd, ps, h2, h3, h4, h5, h6⟩ := hs x hx
      exact ⟨fa, fd, ps, fn_zero, h2, h3, h4, fun _ _ _ h => h.elim⟩
    · obtain ⟨d, h1, fa, h2, h3, h4⟩ := hs2 q hq
      refine ⟨fa, fun A outer s H us vs Q E hr e0 r h => ?_, h2, h3⟩
      obtain ⟨ws, rest, _, _, _, h⟩ := h
      obtain ⟨_, _, _, _, _, _, _, z, _⟩ := h s.heap.objs.size (e0.hok.fresh (Nat.le_refl _))
      exact z.elim
  | k + 1 => by
    have ih := all_own2 hs hs2 k
    refine ⟨fun x hx => ?_, fun q hq => ?_⟩
    · obtain ⟨d, h1, fa, fd, ps, h2, h3, h4, h5, h6⟩ := hs x hx
      refine ⟨fa, fd, ps, (h6 k _ ih.1 ih.2).imp fun vs H Q E ⟨g0, f, st, ds, Q', s, r, ⟨d', e', g⟩, l⟩ => ?_, h2, h3, h4, fun ds st Q ⟨d', e', g⟩ => ?_⟩
      · rw [h1] at e'; cases e'
        exact ⟨g0, f, st, ds, Q', s, r, g, l⟩
      · rw [h1] at e'; cases e'
        exact g.1.trans h5
    · obtain ⟨d, h1, fa, h2, h3, h4⟩ := hs2 q hq
      refine ⟨fa, (h4 k _ ih.1 ih.2).imp fun vs H Q E ⟨ws, rest, e1, e2, e3, h⟩ => ⟨ws, rest, e1, e2, e3, fun p hp => ?_⟩, h2, h3⟩
      obtain ⟨g0, f, st, ds, Q', s, r, ⟨d', e', g⟩, l⟩ := h p hp
      rw [h1] at e'; cases e'
      exact ⟨g0, f, st, ds, Q', s, r, g, l⟩
end
end Pd
end PartPdSoundH

section PartPdDict
set_option Elab.async false
set_option linter.all false
set_option maxRecDepth 100000
/-! Pd: dicts of ints and texts. Own work. -/
namespace Pd
open PySem
abbrev Ky := Sum Int Str
def keyD : Ky → D
  | .inl i => .int i
  | .inr s => .str s
theorem keyD_inj : ∀ {a b : Ky}, keyD a = keyD b → a = b
  | .inl _, .inl _, h => by injection h with h; rw [h]
  | .inr _, .inr _, h => by injection h with h; rw [h]
  | .inl _, .inr _, h => nomatch h
  | .inr _, .inl _, h => nomatch h
def valD (kvs : List (Ky × D)) (k : Ky) : Option D := (kvs.find? fun kv => decide (kv.1 = k)).map (·.2)
def putD (kvs : List (Ky × D)) (k : Ky) (v : D) : List (Ky × D) :=
  if (kvs.any fun kv => decide (kv.1 = k)) = true then kvs.map (fun kv => if kv.1 = k then (kv.1, v) else kv) else kvs ++ [(k, v)]
/-- {} -/
def dDic : TE := fun _ st Q => Q (.ref st.length) (st ++ [.dic []])
/-- d[k] -/
def getDK : K2
  | .ref n, y, st, Q => ∃ kvs k d, rdD st n kvs ∧ y = keyD k ∧ valD kvs k = some d ∧ Q d st
  | _, _, _, _ => False
def dGet (to ti : TE) : TE := fun σ st Q => to σ st fun x st1 => ti σ st1 fun y st2 => getDK x y st2 Q
/-- d[k] = v -/
def setDK : D → D → D → Store → (Store → Prop) → Prop
  | .ref n, y, v, st, Q => ∃ kvs k, rdD st n kvs ∧ y = keyD k ∧ kvs.length < szl ∧ Q (st.set n (.dic (putD kvs k v)))
  | _, _, _, _, _ => False
def gSubD (to ti : TE) : TG := fun v σ st Q => to σ st fun o st1 => ti σ st1 fun i st2 => setDK o i v st2 fun st3 => Q σ st3
/-- sorted(d), keys whole numbers -/
def sortedDB : KB
  | [.ref n], st, Q => ∃ (kvs : List (Ky × D)) (ns : List Int), rdD st n kvs ∧ kvs.map (·.1) = ns.map Sum.inl ∧ ∀ ns' : List Int, ns'.Perm ns → ns'.Pairwise (· ≤ ·) → Q (.ref st.length) (st ++ [.lst (ns'.map D.int)])
  | _, _, _ => False
/-- {k: v for ..}: n the new cell -/
def dcLoop (gd : Store → Prop) (g : TG) (tt : TT) (tk tv : TE) (ρ : Env) (n : Nat) (Q : K) : List D → List (Ky × D) → Store → Prop
  | [], acc, st => gd st ∧ rdD st n acc ∧ Q (.ref n) st
  | x :: xs, acc, st => gd st ∧ g x ρ st fun ρ2 st2 => tt ρ2 st2 fun b st3 =>
      (b = true → tk ρ2 st3 fun y st4 => tv ρ2 st4 fun z st5 => ∃ k, y = keyD k ∧ rdD st5 n acc ∧ acc.length < szl ∧ dcLoop gd g tt tk tv ρ n Q xs (putD acc k z) (st5.set n (.dic (putD acc k z)))) ∧ (b = false → rdD st3 n acc ∧ dcLoop gd g tt tk tv ρ n Q xs acc st3)
def dDc (i : TI) (g : TG) (tt : TT) (tk tv : TE) (vs : List Nat) : TE := fun σ st Q => i σ st fun I st1 => dcLoop I.guard g tt tk tv (wipeE σ vs) st1.length Q I.items [] (st1 ++ [.dic []])
section
variable {σ σ' : Env} {st : Store} {Q : K} {to ti tk tv : TE} {d x : D} {g : TG} {tt : TT} {i : TI} {vs : List Nat} {q : Env → Store → Prop}
instance : Red (dDic σ st Q) (Q (.ref st.length) (st ++ [.dic []])) := ⟨id⟩
instance : Red (dGet to ti σ st Q) (to σ st fun x st1 => ti σ st1 fun y st2 => getDK x y st2 Q) := ⟨id⟩
instance : Red (gSubD to ti d σ st q) (to σ st fun o st1 => ti σ st1 fun i st2 => setDK o i d st2 fun st3 => q σ st3) := ⟨id⟩
instance [h : WipeE σ vs σ'] : Red (dDc i g tt tk tv vs σ st Q) (i σ st fun I st1 => dcLoop I.guard g tt tk tv σ' st1.length Q I.items [] (st1 ++ [.dic []])) := ⟨fun p => by unfold dDc; rw [h.eq]; exact p⟩
end
end Pd
end PartPdDict

section PartPdSoundI
set_option Elab.async false
set_option linter.all false
set_option maxRecDepth 100000
set_option maxHeartbeats 1000000
/-! Pd over the hand layer: dicts of ints and texts. Own work. -/
namespace Pd
open PySem PySem.Spec
section
variable {X : L2.Cx} {K : Kf} {f f' : List Addr} {H H' : Hp} {st st' : Store} {ρ : Env} {σ : L2.St}
theorem keyD_V {k : Ky} {v : L2.V} (h : RD K f H (keyD k) v) : v = L2.kV k := by
  cases k with
  | inl i => exact RD.int.mp h
  | inr s => exact RD.str.mp h
theorem vals_at : ∀ {kvs : List (Ky × D)} {ks : List (L2.Key × L2.V)}, ks.map (·.1) = kvs.map (·.1) → RDs K f H (kvs.map (·.2)) (ks.map (·.2)) → ∀ (k : Ky) (d : D), valD kvs k = some d → ∃ v, L2.valV ks k = some v ∧ RD K f H d v
  | [], _, _, _, k, d, h => by simp [valD] at h
  | (k0, d0) :: kvs, [], e, _, _, _, _ => by simp at e
  | (k0, d0) :: kvs, (k1, v1) :: ks, e, r, k, d, h => by
    simp only [List.map_cons, List.cons.injEq] at e
    obtain ⟨e1, e2⟩ := e
    rw [List.map_cons, List.map_cons, RDs.cons] at r
    obtain ⟨v, rr, er, r1, r2⟩ := r
    injection er with er1 er2
    subst er1
    have e1 : k1 = k0 := e1
    subst e1
    by_cases hk : k1 = k
    · refine ⟨v1, L2.valV_pos hk, ?_⟩
      have : valD ((k1, d0) :: kvs) k = some d0 := by simp [valD, List.find?_cons, hk]
      rw [this] at h; cases h
      exact r1
    · have : valD ((k1, d0) :: kvs) k = valD kvs k := by simp [valD, List.find?_cons, hk]
      rw [this] at h
      obtain ⟨w, h1, h2⟩ := vals_at e2 (by rw [er2]; exact r2) k d h
      exact ⟨w, (L2.valV_neg hk).trans h1, h2⟩
theorem put_at {k : Ky} {d : D} {v : L2.V} (rv : RD K f H d v) {kvs : List (Ky × D)} {ks : List (L2.Key × L2.V)} (e : ks.map (·.1) = kvs.map (·.1)) (r : RDs K f H (kvs.map (·.2)) (ks.map (·.2))) :
    (L2.putK ks k v).map (·.1) = (putD kvs k d).map (·.1) ∧ RDs K f H ((putD kvs k d).map (·.2)) ((L2.putK ks k v).map (·.2)) := by
  have hany : ∀ {kvs : List (Ky × D)} {ks : List (L2.Key × L2.V)}, ks.map (·.1) = kvs.map (·.1) → (ks.any fun kv => decide (kv.1 = k)) = (kvs.any fun kv => decide (kv.1 = k)) := by
    intro kvs ks e
    have h1 : ∀ l : List (Ky × D), (l.any fun kv => decide (kv.1 = k)) = (l.map (·.1)).any fun x => decide (x = k) := fun l => by rw [List.any_map]; rfl
    have h2 : ∀ l : List (L2.Key × L2.V), (l.any fun kv => decide (kv.1 = k)) = (l.map (·.1)).any fun x => decide (x = k) := fun l => by rw [List.any_map]; rfl
    rw [h1, h2, e]
  have hmap : ∀ {kvs : List (Ky × D)} {ks : List (L2.Key × L2.V)}, ks.map (·.1) = kvs.map (·.1) → RDs K f H (kvs.map (·.2)) (ks.map (·.2)) →
      (ks.map fun kv => if kv.1 = k then (kv.1, v) else kv).map (·.1) = (kvs.map fun kv => if kv.1 = k then (kv.1, d) else kv).map (·.1) ∧ RDs K f H ((kvs.map fun kv => if kv.1 = k then (kv.1, d) else kv).map (·.2)) ((ks.map fun kv => if kv.1 = k then (kv.1, v) else kv).map (·.2)) := by
    intro kvs
    induction kvs with
    | nil => intro ks e r; cases ks with
      | nil => exact ⟨rfl, r⟩
      | cons _ _ => simp at e
    | cons p kvs ih =>
      intro ks e r
      cases ks with
      | nil => simp at e
      | cons q ks =>
        obtain ⟨k0, d0⟩ := p
        obtain ⟨k1, v1⟩ := q
        simp only [List.map_cons, List.cons.injEq] at e
        obtain ⟨e1, e2⟩ := e
        rw [List.map_cons, List.map_cons, RDs.cons] at r
        obtain ⟨u, rr, er, r1, r2⟩ := r
        injection er with er1 er2
        have e1 : k1 = k0 := e1
        subst e1
        obtain ⟨h1, h2⟩ := ih e2 (by rw [er2]; exact r2)
        by_cases hk : k1 = k
        · simp only [List.map_cons, hk, if_true]
          refine ⟨by rw [h1], ?_⟩
          rw [RDs.cons]; exact ⟨v, _, rfl, rv, h2⟩
        · simp only [List.map_cons, hk, if_false]
          refine ⟨by rw [h1], ?_⟩
          have er1 : v1 = u := er1
          subst er1
          rw [RDs.cons]; exact ⟨v1, _, rfl, r1, h2⟩
  unfold L2.putK putD
  rw [hany e]
  split
  · exact hmap e r
  · refine ⟨by rw [List.map_append, List.map_append, e]; rfl, ?_⟩
    rw [List.map_append, List.map_append]
    exact r.append (RDs.one rv)
theorem RelS.putDic {n : Nat} {a : Addr} {kvs kvs' : List (Ky × D)} {ks ks' : List (L2.Key × L2.V)} (s : RelS K f st H) (hn : f[n]? = some a) (h : Pd.rdD st n kvs) (hH : H a = some (.dK ks)) (e : ks'.map (·.1) = kvs'.map (·.1)) (r : RDs K f H (kvs'.map (·.2)) (ks'.map (·.2))) :
    RelS K f (st.set n (.dic kvs')) (L2.upd H a (.dK ks')) ∧ Ext K f H f (L2.upd H a (.dK ks')) :=
  s.chg (c := .dic kvs) h rfl hn (.inr (.inr (.inl ⟨ks, hH⟩))) rfl ⟨ks', L2.upd_same, e, r.mono (Ext.upd0 (.inr (.inr (.inl ⟨ks, hH⟩))))⟩
section
variable {o i a b e : Expr} {to ti ta tb te : TE} {pos : Pos}
theorem pd_dic : PD X (.Dict [] [] pos) dDic :=
  pe_imp L2.pe_dnewK fun σ H Q ⟨f, ρ, st, Q', R, h, l⟩ p hp => by
    obtain ⟨s', e⟩ := R.toRelS.new (o := .dK []) (c := .dic []) hp ⟨[], L2.upd_same, rfl, RDs.nil.mpr rfl⟩
    exact l _ _ _ _ _ h e s' (RD.ref.mpr ⟨p, by rw [← R.toRelS.len]; simp, rfl⟩)
theorem pd_get {k : Nat} (hr : L2.Room k X.A) (ho : PD X o to) (hi : PD X i ti) (hs : L2.NoSl i := by intro _ _; rfl) : PD X (.Subscript o i pos) (dGet to ti) :=
  pe_imp (L2.pe_dget (L2.hu_of hr) ho hi hs) fun σ H Q ⟨f, ρ, st, Q', R, h, l⟩ => ⟨f, ρ, st, _, R, h, fun x st1 v f1 H1 q1 e1 s1 r1 => ⟨f1, ρ, st1, _, R.later e1 s1, q1, fun y st2 w f2 H2 q2 e2 s2 r2 => by
    cases x <;> try (exact q2.elim)
    obtain ⟨kvs, k, d, h1, rfl, h3, h4⟩ := q2
    have r1' := r1.mono e2
    rw [RD.ref] at r1'
    obtain ⟨a, ea, rfl⟩ := r1'
    obtain ⟨a', ks, g1, g2, g3, g4⟩ := s2.rdD h1
    rw [ea] at g1; cases g1
    obtain ⟨v, g5, g6⟩ := vals_at g3 g4 k d h3
    obtain rfl := keyD_V r2
    exact ⟨a, v, rfl, by rw [← g5]; exact L2.DGet.k g2, l d st2 v f2 H2 h4 (e1.trans e2) s2 g6⟩⟩⟩
theorem pg_subD {k : Nat} (hr : L2.Room k X.A) (h1 : PD X o to) (h2 : PD X i ti) (ha : ∀ v, assign (.Subscript o i pos) X.env v = (do
      let ov ← holding [v] (eval o X.env)
      let iv ← holding [v, ov] (eval i X.env)
      standAt pos
      holding [v, ov, iv] (setItem ov iv v)
      release [v, ov, iv] []) := by intro _; rfl) : PDG X (.Subscript o i pos) (gSubD to ti) [] :=
  pg_imp (L2.pg_sub h1 h2 (L2.set_dict (L2.hu_of hr)) ha) fun v σ H Q ⟨f, ρ, st, d, Q', R, r, h, l⟩ => ⟨f, ρ, st, _, R, h, fun x st1 u f1 H1 q1 e1 s1 r1 => ⟨f1, ρ, st1, _, R.later e1 s1, q1, fun y st2 w f2 H2 q2 e2 s2 r2 => by
    cases x <;> try (exact q2.elim)
    obtain ⟨kvs, k, h3, rfl, h4, h5⟩ := q2
    have r1' := r1.mono e2
    rw [RD.ref] at r1'
    obtain ⟨a, ea, rfl⟩ := r1'
    obtain ⟨a', ks, g1, g2, g3, g4⟩ := s2.rdD h3
    rw [ea] at g1; cases g1
    obtain ⟨p1, p2⟩ := put_at (k := k) (r.mono (e1.trans e2)) g3 g4
    obtain ⟨s3, e3⟩ := s2.putDic ea h3 g2 p1 p2
    obtain rfl := keyD_V r2
    have hlen : ks.length < sizeLine := by
      have := congrArg List.length g3
      simp at this
      rw [this, ← szl_eq]; exact h4
    exact ⟨a, _, rfl, L2.DPut.k g2 hlen, l ρ _ σ f2 _ h5 ((e1.trans e2).trans e3) (R.later ((e1.trans e2).trans e3) s3) .refl⟩⟩⟩

theorem dc_core {wi : TI} {g : TG} {tt : TT} {tk tv : TE} {vs ws : List Nat} {Q : L2.VK} (hws : ∀ j, j ∈ ws → j ∈ vs) (h : lift K (dDc wi g tt tk tv vs) σ H Q) : L2.tDc (liftI K wi) (liftG K g ws) (liftT K tt) (lift K tk) (lift K tv) vs σ H Q := by
  obtain ⟨f, ρ, st, Q', R, h, l⟩ := h
  refine ⟨f, ρ, st, _, R, h, fun I st1 J f1 H1 q1 e1 s1 rI D hD => ?_⟩
  obtain ⟨s0, e0⟩ := s1.new (o := .dK []) (c := .dic []) hD ⟨[], L2.upd_same, rfl, RDs.nil.mpr rfl⟩
  have hn0 : (f1 ++ [D])[st1.length]? = some D := by rw [← s1.len]; simp
  refine ⟨fun i m H2 => m = I.items.length - i ∧ i ≤ I.items.length ∧ ∃ f2 st2 acc, Ext K (f1 ++ [D]) (L2.upd H1 D (.dK [])) f2 H2 ∧ RelS K f2 st2 H2 ∧ Pd.rdD st2 st1.length acc ∧ dcLoop I.guard g tt tk tv (wipeE ρ vs) st1.length Q' (I.items.drop i) acc st2,
    ⟨_, rfl, Nat.zero_le _, f1 ++ [D], st1 ++ [.dic []], [], .refl, s0, by unfold Pd.rdD; simp, by simpa using q1⟩, ?_⟩
  rintro i m H2 ⟨rfl, hi, f2, st2, acc, e2, s2, hacc, q2⟩
  have eI : Ext K f1 H1 f2 H2 := e0.trans e2
  by_cases hlt : i < I.items.length
  · have hd : I.items.drop i = I.items[i] :: I.items.drop (i + 1) := by rw [List.drop_eq_getElem_cons hlt]
    rw [hd] at q2
    obtain ⟨gd, q2⟩ := q2
    refine .inr ⟨rI.go i f2 st2 H2 eI s2 gd hlt, fun H3 => ∃ f3 st3 acc', Ext K (f1 ++ [D]) (L2.upd H1 D (.dK [])) f3 H3 ∧ RelS K f3 st3 H3 ∧ Pd.rdD st3 st1.length acc' ∧ dcLoop I.guard g tt tk tv (wipeE ρ vs) st1.length Q' (I.items.drop (i + 1)) acc' st3,
      fun H3 q3 => ⟨I.items.length - (i + 1), by omega, rfl, hlt, q3⟩, fun x H3 y => ?_⟩
    obtain ⟨e3, s3, r3⟩ := rI.yld i f2 st2 H2 I.items[i] x H3 eI s2 gd (by simp [hlt]) y
    have R3 : Rel K f2 (wipeE ρ vs) st2 (L2.wipe σ vs) H3 := (Rel.wipe R).later ((e1.trans eI).trans e3) s3
    refine ⟨f2, _, st2, I.items[i], _, R3, r3, q2, fun ρ4 st4 σ4 f4 H4 q4 e4 R4 o4 => ⟨Out.wipe ⟨o4.1, fun j hj => o4.2 j fun z => hj (hws j z)⟩, ?_⟩⟩
    refine ⟨f4, ρ4, st4, _, R4, q4, fun b st5 f5 H5 q5 e5 s5 => ?_⟩
    have e15 := e2.trans (e3.trans (e4.trans e5))
    cases b with
    | false =>
      obtain ⟨h1, h2⟩ := q5.2 rfl
      exact ⟨f5, st5, acc, e15, s5, h1, h2⟩
    | true =>
      refine ⟨f5, ρ4, st5, _, R4.later e5 s5, q5.1 rfl, fun y st6 v f6 H6 q6 e6 s6 r6 => ⟨f6, ρ4, st6, _, R4.later (e5.trans e6) s6, q6, fun z st7 w f7 H7 q7 e7 s7 r7 => ?_⟩⟩
      obtain ⟨k, rfl, h1, h2, h3⟩ := q7
      have e17 := (e15.trans e6).trans e7
      obtain ⟨a', ks, k1, k2, k3, k4⟩ := s7.rdD h1
      rw [e17.at hn0] at k1; cases k1
      obtain ⟨p1, p2⟩ := put_at (k := k) r7 k3 k4
      obtain ⟨s8, e8⟩ := s7.putDic (e17.at hn0) h1 k2 p1 p2
      obtain rfl := keyD_V r6
      have hlen : ks.length < sizeLine := by
        have := congrArg List.length k3
        simp at this
        rw [this, ← szl_eq]; exact h2
      refine ⟨ks, k, rfl, k2, hlen, f7, _, putD acc k z, e17.trans e8, s8, ?_, h3⟩
      have hl : st1.length < st7.length := (List.getElem?_eq_some_iff.mp h1).1
      unfold Pd.rdD
      rw [List.getElem?_set_self hl]
  · have e : i = I.items.length := by omega
    subst e
    rw [List.drop_length] at q2
    obtain ⟨gd, h1, h2⟩ := q2
    exact .inl ⟨rI.stop f2 st2 H2 eI s2 gd, l _ st2 _ f2 H2 h2 (e1.trans eI) s2 (RD.ref.mpr ⟨D, e2.at hn0, rfl⟩)⟩
theorem pd_dc {kx vx tg iter : Expr} {ifs : List Expr} {scope : Scope} {own : List (Str × Nat)} {wi : TI} {g : TG} {tt : TT} {tk tv : TE} {ws : List Nat} (hc : X.calm = true) (hN : X.N.Nodup) (hi : PDI X tg iter wi) (ok : L2.BlkOk X.N X.env.scope scope own)
    (hg : ∀ (s : Shared) (H : Hp) (C : Addr) (cl : List (Str × Addr)) (fp : List Addr), PDG (X.blk s H scope (compEnvC scope cl C X.env) fp) tg g ws) (ht : ∀ (s : Shared) (H : Hp) (C : Addr) (cl : List (Str × Addr)) (fp : List Addr), PDTs (X.blk s H scope (compEnvC scope cl C X.env) fp) ifs tt)
    (hk : ∀ (s : Shared) (H : Hp) (C : Addr) (cl : List (Str × Addr)) (fp : List Addr), PD (X.blk s H scope (compEnvC scope cl C X.env) fp) kx tk) (he : ∀ (s : Shared) (H : Hp) (C : Addr) (cl : List (Str × Addr)) (fp : List Addr), PD (X.blk s H scope (compEnvC scope cl C X.env) fp) vx tv)
    (hws : ∀ j, j ∈ ws → j ∈ own.map (·.2)) (hs : ∀ x, foldedSetIterable iter X.env x = pure x := by intro _; rfl) :
    PD X (.DictComp kx vx [⟨tg, iter, ifs, 0⟩] scope pos) (dDc wi g tt tk tv (own.map (·.2))) :=
  pe_imp (L2.pe_dc hc hN hi ok hg ht hk he hs) fun σ H Q h => dc_core hws h
end
end
section
open PySem.W PyProof.Rows
/-- the int that a key is -/
theorem int_key {i : Int} {v : Value} (h : L2.keyIs (.inl i) v = true) : ∃ t, v = .int i t := by
  rcases L2.keyIs_shape h with ⟨j, t, e1, e2⟩ | ⟨x, t, e1, _⟩
  · cases e1; exact ⟨t, e2⟩
  · cases e1
theorem ints_keys : ∀ {vs : List Value} {ns : List Int}, vs.length = ns.length → (∀ (j : Nat) (v : Value) (i : Int), vs[j]? = some v → ns[j]? = some i → ∃ t, v = .int i t) → IntsAre vs ns
  | [], [], _, _ => .nil
  | [], _ :: _, h, _ => by simp at h
  | _ :: _, [], h, _ => by simp at h
  | v :: vs, i :: ns, h, g => by
    obtain ⟨t, rfl⟩ := g 0 v i rfl rfl
    exact .cons i t (ints_keys (by simpa using h) fun j v i h1 h2 => g (j + 1) v i (by simpa using h1) (by simpa using h2))
theorem kv_keys {ks : List (L2.Key × L2.V)} {xs : List (L2.Key × Value)} (h : L2.KV ks xs) : xs.map (·.1) = ks.map (·.1) := by
  induction h with
  | nil => rfl
  | cons p _ ih => rw [List.map_cons, List.map_cons, ih, p.1]
def rSortedDK : List L2.V → Hp → L2.VK → Prop := fun vs H Q => ∃ (a : Addr) (ks : List (L2.Key × L2.V)) (ns : List Int), vs = [L2.V.ref a] ∧ H a = some (.dK ks) ∧ ks.map (·.1) = ns.map Sum.inl ∧
  ∀ (ns' : List Int) (p : Addr), ns'.Perm ns → ns'.Pairwise (· ≤ ·) → H p = none → Q (.ref p) (L2.upd H p (.lst (ns'.map L2.V.int)))
theorem cr_sortedDK {X : L2.Cx} (hc : X.calm = true) : L2.CallR X (.builtin "sorted") rSortedDK := by
  intro pins s σ H vs us Q I r h
  obtain ⟨a, ks, ns, rfl, ha, hk, q⟩ := h
  have held := I.ok.hd hc
  rw [L2.Vals.ref1 r]
  obtain ⟨size, other, xs, rel, dict⟩ := L2.dk_rd I.hok (.inl ha)
  obtain ⟨ep, there⟩ := dict.dictAt
  have keys := (kv_keys rel).trans hk
  have many : xs.length = ns.length := by simpa using congrArg List.length keys
  have few : xs.length ≤ sizeLine := by
    have := congrArg List.length (kv_keys rel)
    simp at this
    omega
  have source := kdl_dict (prog := X.prog) (w := X.w) (knd := L2.mixKind X.prog X.w) (d := a) (kvs := xs) (ep := ep) other
  refine Calls.call_function_entry kind_sorted plain_sorted entry_sorted (args_sorted1 _) ?_
  unfold Builtin.«sorted»
  refine wpAny_bind (m := checkCount "sorted" 1 1 _) (wpAny_pure (wpAny_bind (kdu_collect (A := X.A.in1) source held there few fun h1 t1 acc old items => ?_)))
  have long : acc.toList.length = xs.length := by rw [Array.length_toList]; exact items.1
  have nums : IntsAre acc.toList ns := ints_keys (by rw [long, many]) fun j v i hv hi => by
    obtain ⟨k, x, hx, is⟩ := items.2 j v (by rw [← Array.getElem?_toList]; exact hv)
    have e : (xs.map (·.1))[j]? = some k := by rw [List.getElem?_map, hx]; rfl
    rw [keys, List.getElem?_map, hi] at e
    cases e
    exact int_key is
  refine wpAny_bind (wpAny_newList ?_ (by rw [long]; exact few))
  have made : (h1.push (seqObj "list" acc.toList.toArray 0)).get? h1.objs.size = some (seqObj "list" acc.toList.toArray 0) := Heap.get?_push_size _ rfl
  have sort := SrtO.list_sort_ord (prog := X.prog) (w := X.w) (A := X.A.in1.in1) (s := { s with heap := h1.push (seqObj "list" acc.toList.toArray 0), toks := t1 }) (E := X.xe) (vs := acc.toList)
    (R := fun fin s' => ∃ out : List Value, fin = .done (.ret .none) ∧ SrtO.Srtd SrtO.ltIv out ∧ SrtO.Stb SrtO.ltIv out acc.toList ∧ s' = { s with heap := sortedHeap (h1.push (seqObj "list" acc.toList.toArray 0)) h1.objs.size acc.toList out.toArray, toks := t1 })
    SrtO.swo_int made (by rw [long]; exact few) (fun two => SrtO.ints_sortable nums two) fun out g1 g2 => ⟨out, rfl, g1, g2, rfl⟩
  refine wpAny_bind (wpAny_holding (wpAny_call_entry slot_list_sort ⟨_, made, rfl⟩ entry_list_sort (wpAny_mono sort (fun fin s' ⟨out, e1, g1, g2, e2⟩ => ?_) fun _ _ z => z) (args_list_sort _)))
  subst e1; subst e2
  refine ⟨_, rfl, wpAny_pure ⟨_, rfl, ?_⟩⟩
  obtain ⟨k1, k2, k3⟩ := SrtO.ints_out nums g1 g2
  obtain ⟨ep', at'⟩ := sortedHeap_at (vs := acc.toList) (out := out.toArray) made
  have I1 : L2.Inv X pins σ H { s with heap := h1, toks := t1 } := I.kept (t' := t1) old
  have small : ((out.map SrtO.iv).map L2.V.int).length ≤ sizeLine := by
    rw [List.length_map, k2.length_eq, ← many]; exact few
  refine ⟨.ref h1.objs.size, L2.upd H h1.objs.size (.lst ((out.map SrtO.iv).map L2.V.int)), I1.laid (t' := t1) (fun b u z1 => ?_) (Nat.le_refl _) ⟨small, out, ep', L2.vals_of_ints k1, at'⟩, rfl, q _ _ k2 k3 (I1.hok.fresh (Nat.le_refl _))⟩
  have z2 := Heap.lt_size z1
  rw [sortedHeap_old (Nat.ne_of_lt z2) (by rw [size_push']; exact Nat.lt_succ_of_lt z2)]
  exact Heap.get?_push_of_some _ z1
theorem real_sortedDB {K : Kf} : RealB K rSortedDK sortedDB :=
  realB1 (kb1 (fun _ _ h => h) fun x y xs st Q h => by cases x <;> exact h) fun f st H x v Q' Q s r h l => by
    cases x <;> try (exact h.elim)
    rw [RD.ref] at r
    obtain ⟨a, e, rfl⟩ := r
    obtain ⟨kvs, ns, h1, h2, h3⟩ := h
    obtain ⟨a', ks, k1, k2, k3, k4⟩ := s.rdD h1
    rw [e] at k1; cases k1
    exact ⟨a, ks, ns, rfl, k2, k3.trans h2, fun ns' p hp hi hn => l.lst s (h3 ns' hp hi) (RDs.of_ints ns') hn⟩
end
section
variable {X : L2.Cx} {K : Kf} {pos : Pos}
open L2 in
/-- y = {k: v for ..}: the name is written within the comprehension's frame -/
theorem asg_dc {i : Nat} {y : Str} {py line : Pos} {kx vx tg iter : Expr} {ifs : List Expr} {scope : Scope} {own : List (Str × Nat)} {wi : L2.TI} {g : L2.TG} {tt : L2.TT} {tk tv : L2.TE} (calm : X.calm = true) (nd : X.N.Nodup) (slot : X.N[i]? = some y) (local' : X.env.scope.names.lookup y = some .local)
    (sw : swapsWith (.DictComp kx vx [⟨tg, iter, ifs, 0⟩] scope pos) (some (.Name y py)) line.line X.env = pure true) (hi : L2.PI X tg iter wi) (ok : L2.BlkOk X.N X.env.scope scope own)
    (hg : ∀ (s : Shared) (H : Hp) (C : Addr) (cl : List (Str × Addr)) (fp : List Addr), L2.PG (X.blk s H scope (compEnvC scope cl C X.env) fp) tg g)
    (ht : ∀ (s : Shared) (H : Hp) (C : Addr) (cl : List (Str × Addr)) (fp : List Addr), L2.PTs (X.blk s H scope (compEnvC scope cl C X.env) fp) ifs tt)
    (hk : ∀ (s : Shared) (H : Hp) (C : Addr) (cl : List (Str × Addr)) (fp : List Addr), L2.PE (X.blk s H scope (compEnvC scope cl C X.env) fp) kx tk)
    (hv : ∀ (s : Shared) (H : Hp) (C : Addr) (cl : List (Str × Addr)) (fp : List Addr), L2.PE (X.blk s H scope (compEnvC scope cl C X.env) fp) vx tv) (fold : ∀ x, foldedSetIterable iter X.env x = pure x := by intro _; rfl) :
    L2.PS X (.Assign [.Name y py] (.DictComp kx vx [⟨tg, iter, ifs, 0⟩] scope pos) line) (fun D σ H => L2.tDc wi g tt tk tv (own.map (·.2)) σ H fun x H1 => L2.gName i x σ H1 D.nx) := by
  constructor
  intro pins s σ H D I want
  rw [exec_Assign_Name_used _ _ _ _ sw]
  have made := L2.dc_core (pos := pos) (use := some (assign (.Name y py) X.env)) (pos' := firstIterPos [⟨tg, iter, ifs, 0⟩] pos) (Qf := fun _ s' => L2.SP X pins D .next s') calm nd I hi ok hg ht hk hv fold want fun L C s1 m H1 I1 at' ns ⟨fr0, fr1, fr2, fr3, fr4, fr5⟩ => by
    show wpAny _ _ (assign (.Name y py) X.env (.ref L)) _ _ _
    refine wpAny_assign_Name (L2.store_ok2 (v := L2.V.ref L) I1 nd slot (.inl local') rfl (fun s2 I2 ⟨b, same, where'⟩ => ?_) (.inr local'))
    have apart : C ≠ b := where'.elim (fun z => by rw [z]; exact fr1) fun z e => fr4 y b z e.symm
    exact ⟨m, ns.sameBut same apart, fun h3 sb3 => ⟨_, H1, I2.turned (t' := s2.toks) (fun c o hc z => (sb3.2 c hc).trans z) fr0 fr1 fr3 fr4 fr5, at'⟩⟩
  refine wpAny_bind (wpAny_standAt (wpAny_bind ?_))
  show wpAny _ X.A (comprehension (.DictComp kx vx [⟨tg, iter, ifs, 0⟩] scope pos) scope X.env (firstIterPos [⟨tg, iter, ifs, 0⟩] pos) newDict false (eval iter X.env) (some (assign (.Name y py) X.env)) >>= fun _ => pure ()) _ _ s
  exact wpAny_bind (wpAny_mono made (fun _ s' q => wpAny_pure (wpAny_pure q)) fun _ _ z => z)
theorem swD_true {kx vx : Expr} {gs : List Comprehension} {scope : Scope} {py : Pos} {y : Str} {l : Nat} {env : PySem.Env} (kind : env.scope.kind = .function) (loc : env.scope.names.lookup y = some .local) (at' : (py.line == pos.line) = true)
    (free : (scope.names.any fun (n, k) => n == y && (k == .local || k == .cell)) = false) : swapsWith (.DictComp kx vx gs scope pos) (some (.Name y py)) l env = pure true := by
  have k1 : env.kindOf y = some .local := loc
  have k2 : env.blockKind = .function := by unfold PySem.Env.blockKind; rw [kind]; rfl
  unfold swapsWith
  simp only [k1, k2, free, Expr.pos, at']
  rfl
theorem ps_setDc {j : Nat} {y : Str} {py spos : Pos} {kx vx tg iter : Expr} {ifs : List Expr} {scope : Scope} {own : List (Str × Nat)} {wi : TI} {g : TG} {tt : TT} {tk tv : TE} {ws : List Nat} (hc : X.calm = true) (hN : X.N.Nodup) (hy : X.N[j]? = some y) (hyl : X.env.scope.names.lookup y = some .local)
    (hsw : swapsWith (.DictComp kx vx [⟨tg, iter, ifs, 0⟩] scope pos) (some (.Name y py)) spos.line X.env = pure true) (hi : PDI X tg iter wi) (ok : L2.BlkOk X.N X.env.scope scope own)
    (hg : ∀ (s : Shared) (H : Hp) (C : Addr) (cl : List (Str × Addr)) (fp : List Addr), PDG (X.blk s H scope (compEnvC scope cl C X.env) fp) tg g ws) (ht : ∀ (s : Shared) (H : Hp) (C : Addr) (cl : List (Str × Addr)) (fp : List Addr), PDTs (X.blk s H scope (compEnvC scope cl C X.env) fp) ifs tt)
    (hk : ∀ (s : Shared) (H : Hp) (C : Addr) (cl : List (Str × Addr)) (fp : List Addr), PD (X.blk s H scope (compEnvC scope cl C X.env) fp) kx tk) (he : ∀ (s : Shared) (H : Hp) (C : Addr) (cl : List (Str × Addr)) (fp : List Addr), PD (X.blk s H scope (compEnvC scope cl C X.env) fp) vx tv)
    (hws : ∀ j, j ∈ ws → j ∈ own.map (·.2)) (hs : ∀ x, foldedSetIterable iter X.env x = pure x := by intro _; rfl) :
    PDS X (.Assign [.Name y py] (.DictComp kx vx [⟨tg, iter, ifs, 0⟩] scope pos) spos) (sAsg (dDc wi g tt tk tv (own.map (·.2))) (gName j)) :=
  ps_imp (asg_dc hc hN hy hyl hsw hi ok hg ht hk he hs) fun D σ H ⟨f, ρ, st, D', R, h, l⟩ =>
    dc_core (Q := fun x H1 => L2.gName j x σ H1 D.nx) hws ⟨f, ρ, st, _, R, h, fun x st1 v f1 H1 q e1 s1 r1 => l.nx _ st1 _ f1 H1 q e1 ((R.later e1 s1).put r1)⟩
end
end Pd
end PartPdSoundI

section PartPdMore3
set_option Elab.async false
set_option linter.all false
set_option maxRecDepth 100000
/-! Pd: more readings: list.extend of lists and tuples, list.pop(), list.reverse(), range downwards. Own work. -/
namespace Pd
open PySem
/-- extend by a list or a tuple -/
def extendAM : KM
  | .ref n, [.tup ys], st, Q => ∃ xs, rdL st n xs ∧ xs.length + ys.length ≤ szl ∧ Q .non (st.set n (.lst (xs ++ ys)))
  | x, ys, st, Q => extendM x ys st Q
/-- .pop() -/
def popEM : KM
  | .ref n, [], st, Q => ∃ xs d, rdL st n (xs ++ [d]) ∧ Q d (st.set n (.lst xs))
  | _, _, _, _ => False
def reverseM : KM
  | .ref n, [], st, Q => ∃ xs, rdL st n xs ∧ Q .non (st.set n (.lst xs.reverse))
  | _, _, _, _ => False
/-- a method without arguments -/
def dM0 (ty : D → Store → Prop) (k : KM) (to : TE) : TE := fun σ st Q => to σ st fun o st1 => ty o st1 ∧ k o [] st1 Q
def rngD (hi : Int) (n : Nat) : List D := (List.range n).map fun (k : Nat) => D.int (hi - k)
/-- range(i, j, -1) -/
def iRD (t u : TE) : TI := fun σ st R => t σ st fun x st1 => u σ st1 fun y st2 => ∃ i j, x = .int i ∧ y = .int j ∧ (-(2 ^ 62) ≤ i ∧ i < 2 ^ 62 ∧ -(2 ^ 62) ≤ j ∧ j < 2 ^ 62) ∧ R ⟨rngD i (i - j).toNat, fun _ => True⟩ st2
section
variable {σ : Env} {st : Store} {Q : K} {ta tb to : TE} {ty : D → Store → Prop} {k : KM}
instance : Red (dM0 ty k to σ st Q) (to σ st fun o st1 => ty o st1 ∧ k o [] st1 Q) := ⟨id⟩
instance {R : Iter → Store → Prop} : Red (iRD ta tb σ st R) (ta σ st fun x st1 => tb σ st1 fun y st2 => ∃ i j, x = .int i ∧ y = .int j ∧ (-(2 ^ 62) ≤ i ∧ i < 2 ^ 62 ∧ -(2 ^ 62) ≤ j ∧ j < 2 ^ 62) ∧ R ⟨rngD i (i - j).toNat, fun _ => True⟩ st2) := ⟨id⟩
end
theorem extendT_at {st : Store} {n : Nat} {xs ys : List D} {Q : K} (h : rdL st n xs) (hl : xs.length + ys.length ≤ szl) (q : Q .non (st.set n (.lst (xs ++ ys)))) : extendAM (.ref n) [.tup ys] st Q := ⟨xs, h, hl, q⟩
theorem pop_at {st : Store} {n : Nat} {xs : List D} {d : D} {Q : K} (h : rdL st n (xs ++ [d])) (q : Q d (st.set n (.lst xs))) : popEM (.ref n) [] st Q := ⟨xs, d, h, q⟩
/-- over range(i, j, -1) -/
theorem for_rngD {gd : Store → Prop} {g : TG} {tb : TS} {D0 : Ends} {hi : Int} {n : Nat} {σ : Env} {st : Store} (Pv : Nat → Env → Store → Prop) (h0 : Pv 0 σ st)
    (hs : ∀ k σ st, k < n → Pv k σ st → ∀ N : Env → Store → Prop, (∀ σ st, Pv (k + 1) σ st → N σ st) → gd st ∧ g (.int (hi - k)) σ st fun σ2 st2 => tb { D0 with nx := N, ct := N, bk := D0.nx } σ2 st2)
    (hd : ∀ σ st, Pv n σ st → gd st ∧ D0.nx σ st) : forLoop gd g tb D0 (rngD hi n) σ st := by
  refine for_by (fun pre σ st => Pv pre.length σ st) h0 (fun pre x post σ st e h N hN => ?_) (fun σ st h => hd σ st (by simpa [rngD] using h))
  have hl : pre.length < n := by
    have := congrArg List.length e
    simp [rngD] at this
    omega
  have hx : x = .int (hi - pre.length) := by
    have h2 : (rngD hi n)[pre.length]? = some x := by rw [e]; simp
    unfold rngD at h2
    rw [List.getElem?_map, List.getElem?_range hl] at h2
    simpa using h2.symm
  subst hx
  exact hs pre.length σ st hl h N fun σ st h' => hN σ st (by simpa using h')
end Pd
end PartPdMore3

section PartPdSoundK
set_option Elab.async false
set_option linter.all false
set_option maxRecDepth 100000
set_option maxHeartbeats 1000000
/-! Pd over the hand layer: list.extend, list.pop(), list.reverse(), range downwards. Own work. -/
namespace Pd
open PySem PySem.Spec
section
variable {X : L2.Cx} {K : Kf} {f f' : List Addr} {H H' : Hp} {st st' : Store} {ρ : Env} {σ : L2.St}
def rExtT (K : Kf) : L2.V → List L2.V → Hp → L2.VK → Prop := fun x vs H Q => ∃ l b xs zs, x = .ref l ∧ vs = [.ref b] ∧ H l = some (.lst xs) ∧ L2.SqT K H b zs ∧ xs.length + zs.length ≤ sizeLine ∧ Q .non (L2.upd H l (.lst (xs ++ zs)))
section
open PyProof.Rows L2
theorem list_extend_tup (l : Addr) (items : Array Value) (n : Nat) (b : Addr) (items2 : Array Value) (hs0 : ¬(!items.isEmpty && Builtin.List.listTooLong (items.size + items2.size)) = true) (hs1 : items.size ≤ sizeLine) (hs2 : items.size + items2.size ≤ sizeLine + 1) :
    Meets (Builtin.«list.extend» ⟨[.ref l, .ref b], []⟩) (fun _ R s => s.heap.get? l = some { cls := .type "list", dict := none, data := .seq items n, slots := #[] } ∧ (∃ (od : Option Addr) (os2 : Array (Option Value)) (n2 : Nat), s.heap.get? b = some { cls := .type "tuple", dict := od, data := .seq items2 n2, slots := os2 }) ∧ R (.ok (.ret Value.none)) { s with heap := s.heap.update l (Obj.mapSeq fun x => x ++ items2), toks := s.toks }) :=
  .of_wp fun prog w A R s h => by
    obtain ⟨hp, g, d, tk, os⟩ := s; obtain ⟨hl, ⟨od, os2, n2, hb⟩, h⟩ := h
    have f1 := AutoSeq1.idx_int; have f2 := AutoSeq1.sub_tuple_tuple; have f3 := AutoSeq1.sub_list_list; have f4 := AutoSeq1.sub_tuple_list; have f5 := AutoSeq1.sub_list_tuple
    have hz' : (items ++ items2).size ≤ sizeLine + 1 := by rw [Array.size_append]; exact hs2
    wp_walk using (wpAny_updateSeq hl rfl (hz := hs1) (_hz' := hz')), AutoSeq1.wpAny_loadPart' hl, AutoSeq1.wpAny_loadPart' hb; exact ⟨_, rfl, h⟩
end
theorem mt_extT : L2.MtR X "list.extend" (rExtT X.K) := by
  intro pins s σ H x vs v us Q I rx rv h
  obtain ⟨l, b, xs, zs, rfl, rfl, hH, hB, hz, q⟩ := h
  cases rx
  obtain ⟨u, rfl, ru⟩ := rv.one
  cases ru
  obtain ⟨z, its, n, r, hl, e⟩ := I.lstM hH
  obtain ⟨its2, r2, ⟨o2, e2, c2, n2, d2⟩, z2⟩ := I.tuple hB
  have hl2 := r2.length
  obtain ⟨ocls, odict, odata, oslots⟩ := o2
  simp only at c2 d2
  subst c2; subst d2
  have hsz : its.toArray.size + its2.toArray.size ≤ sizeLine := by rw [List.size_toArray, List.size_toArray]; omega
  have hlong : ¬ (!its.toArray.isEmpty && Builtin.List.listTooLong (its.toArray.size + its2.toArray.size)) = true := by
    rw [L2.notLongL hsz, Bool.and_false]
    exact Bool.false_ne_true
  refine call_meets F.slot_list_extend ⟨_, e, rfl⟩ F.entry_list_extend (F.args_list_extend_2 _ _)
    (list_extend_tup l its.toArray n b its2.toArray hlong (by rw [List.size_toArray]; omega) (by omega)) ⟨e, ⟨odict, oslots, n2, e2⟩, ?_⟩
  refine ⟨.non, _, I.lset (its' := its ++ its2) hH e (by simp) (r.append r2) ?_, rfl, q⟩
  rw [List.length_append]
  omega
theorem real_extendA : RealM K (fun x vs H Q => rExtT K x vs H Q ∨ L2.rExtend x vs H Q) extendAM := fun f st H x xs v vs Q' Q s r1 r2 h l => by
  by_cases ht : ∃ n ys, x = .ref n ∧ xs = [.tup ys]
  · obtain ⟨n, ys, rfl, rfl⟩ := ht
    obtain ⟨zs, h1, h2, h3⟩ := h
    rw [RD.ref] at r1
    obtain ⟨a, e, rfl⟩ := r1
    obtain ⟨w, rfl, r3⟩ := r2.inv1
    rw [RD.tup] at r3
    obtain ⟨b, ws, rfl, j2, j3⟩ := r3
    obtain ⟨a', us, k1, k2, k3⟩ := s.rdL h1
    rw [e] at k1; cases k1
    obtain ⟨s', e'⟩ := s.put e h1 k2 (k3.append j3)
    exact .inl ⟨a, b, us, ws, rfl, rfl, k2, j2, by rw [k3.length, j3.length, ← szl_eq]; exact h2, l _ _ _ f _ h3 e' s' (RD.non.mpr rfl)⟩
  · have h' : extendM x xs st Q' := by
      unfold extendAM at h
      split at h
      · exact absurd ⟨_, _, rfl, rfl⟩ ht
      · exact h
    exact .inr (real_extend f st H x xs v vs Q' Q s r1 r2 h' l)
theorem mt_extendA : L2.MtR X "list.extend" (fun x vs H Q => rExtT X.K x vs H Q ∨ L2.rExtend x vs H Q) := L2.MtR.or mt_extT L2.mt_extend
theorem real_popE : RealM K L2.rPop popEM := fun f st H x xs v vs Q' Q s r1 r2 h l => by
  cases x <;> try (exact h.elim)
  match xs, h with
  | _ :: _, h => exact h.elim
  | [], h =>
    obtain ⟨ys, d, h1, h2⟩ := h
    rw [RD.ref] at r1
    obtain ⟨a, e, rfl⟩ := r1
    rw [RDs.nil] at r2
    subst r2
    obtain ⟨a', us, k1, k2, k3⟩ := s.rdL h1
    rw [e] at k1; cases k1
    have hlen := k3.length
    rw [List.length_append] at hlen
    have hlen : us.length = ys.length + 1 := hlen
    obtain ⟨w, hw, rw'⟩ := k3.get (i := ys.length) (d := d) (by simp)
    have kd : RDs K f H ys us.dropLast := by
      have := k3.take ys.length
      rw [List.take_left] at this
      rw [List.dropLast_eq_take, hlen]
      exact this
    obtain ⟨s', e'⟩ := s.put e h1 k2 kd
    exact ⟨a, us, w, rfl, rfl, k2, by rw [hlen]; exact hw, l _ _ _ f _ h2 e' s' (rw'.mono e')⟩
theorem RDs.reverse : ∀ {ds : List D} {vs : List L2.V}, RDs K f H ds vs → RDs K f H ds.reverse vs.reverse
  | [], _, h => by rw [RDs.nil] at h; subst h; simp [RDs.nil]
  | d :: ds, _, h => by
    rw [RDs.cons] at h
    obtain ⟨v, r, rfl, h2, h3⟩ := h
    rw [List.reverse_cons, List.reverse_cons]
    exact (RDs.reverse h3).append (RDs.one h2)
theorem real_reverse : RealM K L2.rReverse reverseM := fun f st H x xs v vs Q' Q s r1 r2 h l => by
  cases x <;> try (exact h.elim)
  match xs, h with
  | _ :: _, h => exact h.elim
  | [], h =>
    obtain ⟨ys, h1, h2⟩ := h
    rw [RD.ref] at r1
    obtain ⟨a, e, rfl⟩ := r1
    rw [RDs.nil] at r2
    subst r2
    obtain ⟨a', us, k1, k2, k3⟩ := s.rdL h1
    rw [e] at k1; cases k1
    obtain ⟨s', e'⟩ := s.put e h1 k2 k3.reverse
    exact ⟨a, us, rfl, rfl, k2, l _ _ _ f _ h2 e' s' (RD.non.mpr rfl)⟩
section
variable {o : Expr} {to : TE} {pos apos : Pos} {name : Str} {T id : String}
theorem pd_m0 {r : L2.V → List L2.V → Hp → L2.VK → Prop} {k : KM} {ty : D → Store → Prop} (hm : L2.MtR X id r) (hk : RealM X.K r k) (ht : RealTy X.K T ty) (pa : PlainAttrs T) (slot : Slot T name id) (hty : typeOf (.builtin id) = pure (.type "method_descriptor")) (ho : PD X o to)
    (hbase : attributeBase o name X.env (eval o X.env) = eval o X.env := by rfl) (hline : (apos.endLine == pos.line) = true := by rfl) : PD X (.Call (.Attribute o name apos) [] [] pos) (dM0 ty k to) :=
  pe_imp (L2.pe_bm0 pa slot hty hm ho hbase hline) fun σ H Q ⟨f, ρ, st, Q', R, h, l⟩ => ⟨f, ρ, st, _, R, h, fun x st1 v f1 H1 q1 e1 s1 r1 => ⟨ht f1 st1 H1 x v s1 r1 q1.1, hk f1 st1 H1 x [] v [] Q' Q s1 r1 (RDs.nil.mpr rfl) q1.2 (l.later e1)⟩⟩
end
theorem realI_rngD {i : Int} {n : Nat} : RealI K f H ⟨rngD i n, fun _ => True⟩ (L2.Itc i (-1) n) where
  go := fun k f2 st2 H2 e2 s2 g hk => by
    have : k < (rngD i n).length := hk
    unfold rngD at this
    rw [List.length_map, List.length_range] at this
    exact this
  stop := fun f2 st2 H2 e2 s2 g => by
    show n ≤ (rngD i n).length
    unfold rngD
    simp
  yld := fun k f2 st2 H2 d x H3 e2 s2 g hd y => by
    obtain ⟨rfl, rfl⟩ := y
    refine ⟨.refl, s2, ?_⟩
    have hd' : (rngD i n)[k]? = some d := hd
    unfold rngD at hd'
    rw [List.getElem?_map] at hd'
    cases q : (List.range n)[k]? with
    | none => rw [q] at hd'; cases hd'
    | some j =>
      rw [q] at hd'
      obtain ⟨h1, h2⟩ := List.getElem?_eq_some_iff.mp q
      simp at h2
      subst h2
      simp at hd'
      subst hd'
      rw [RD.int]
      congr 1
      omega
theorem pi_rD {tg a b : Expr} {ta tb : TE} {p p1 p2 pos : Pos} {k1 : _} (hg : L2.Gl X "range") (hm : X.mg "range" = none) (h : PD X a ta) (h' : PD X b tb)
    (hs : starEach [a, b, .UnaryOp .USub (.Constant (.int 1) k1 p1) p2] X.env = (false, eval a X.env) :: starEach [b, .UnaryOp .USub (.Constant (.int 1) k1 p1) p2] X.env := by rfl) (hs2 : starEach [b, .UnaryOp .USub (.Constant (.int 1) k1 p1) p2] X.env = (false, eval b X.env) :: starEach [.UnaryOp .USub (.Constant (.int 1) k1 p1) p2] X.env := by rfl)
    (hs3 : starEach [.UnaryOp .USub (.Constant (.int 1) k1 p1) p2] X.env = (false, eval (.UnaryOp .USub (.Constant (.int 1) k1 p1) p2) X.env) :: starEach [] X.env := by rfl) (hpl : (backTo pos (starEach [b, .UnaryOp .USub (.Constant (.int 1) k1 p1) p2] X.env)).any (·.1) = false := by rfl) :
    PDI X tg (.Call (.Name "range" p) [a, b, .UnaryOp .USub (.Constant (.int 1) k1 p1) p2] [] pos) (iRD ta tb) :=
  pi_imp (L2.pi_range3 hg hm (L2.pa_cons h (L2.pa_cons h' (L2.pa_cons (pd_neg pd_int) L2.pa_nil hs3) hs2) hs) hs hpl) fun σ H R ⟨f, ρ, st, R', Re, h, l⟩ => ⟨f, ρ, st, _, Re, h, fun x st1 v f1 H1 q1 e1 s1 r1 => ⟨f1, ρ, st1, _, Re.later e1 s1, q1, fun y st2 w f2 H2 q2 e2 s2 r2 => by
    obtain ⟨i, j, rfl, rfl, ⟨b1, b2, b3, b4⟩, h3⟩ := q2
    have r1' := r1.mono e2
    rw [RD.int] at r1' r2
    subst r1'; subst r2
    refine ⟨f2, ρ, st2, fun z st3 => z = .int (-1) ∧ st3 = st2, Re.later (e1.trans e2) s2, ⟨rfl, rfl⟩, fun z st3 u f3 H3 q3 e3 s3 r3 => ?_⟩
    obtain ⟨rfl, rfl⟩ := q3
    rw [RD.int] at r3
    subst r3
    exact ⟨i, j, -1, _, rfl, L2.RgC.neg b1 b2 b3 b4, l _ _ _ f3 H3 h3 ((e1.trans e2).trans e3) s3 realI_rngD⟩⟩⟩
end
end Pd
end PartPdSoundK

section PartPdMore4
set_option Elab.async false
set_option linter.all false
set_option maxRecDepth 100000
/-! Pd: more readings: *x in a call's arguments, `in` of any pure data. Own work. -/
namespace Pd
open PySem
/-- the items of a list or a tuple, as arguments -/
def starK : D → Store → (List D → Prop) → Prop
  | .tup xs, _, Q => Q xs
  | .ref n, st, Q => ∃ xs, rdA st n xs ∧ Q xs
  | _, _, _ => False
def aStar (te : TE) (r : TA) : TA := fun σ st Q => te σ st fun x st1 => starK x st1 fun xs => r σ st1 fun ys st2 => Q (xs ++ ys) st2
/-- x in a list or a tuple, of any pure data -/
def inDC : KC
  | x, .tup xs, _, Q => D.okd 60 x = true ∧ okds 60 xs = true ∧ Q (xs.any fun y => D.eqb y x)
  | x, .ref n, st, Q => ∃ xs, rdA st n xs ∧ D.okd 60 x = true ∧ okds 60 xs = true ∧ Q (xs.any fun y => D.eqb y x)
  | _, _, _, _ => False
def notinDC : KC := fun x y st Q => inDC x y st fun b => Q (!b)
section
variable {σ : Env} {st : Store} {te : TE} {r : TA} {q : List D → Store → Prop} {x : D} {xs : List D}
instance : Red (aStar te r σ st q) (te σ st fun x st1 => starK x st1 fun xs => r σ st1 fun ys st2 => q (xs ++ ys) st2) := ⟨id⟩
instance {Q : List D → Prop} : Red (starK (.tup xs) st Q) (Q xs) := ⟨id⟩
end
theorem star_at {st : Store} {n : Nat} {xs : List D} {Q : List D → Prop} (h : rdL st n xs) (q : Q xs) : starK (.ref n) st Q := ⟨xs, .inl h, q⟩
end Pd
end PartPdMore4

section PartPdSoundL
set_option Elab.async false
set_option linter.all false
set_option maxRecDepth 100000
set_option maxHeartbeats 1000000
/-! Pd over the hand layer: starred arguments, `in` of any pure data. Own work. -/
namespace Pd
open PySem PySem.Spec
mutual
theorem reads_fun {h : Heap} : ∀ (d d' : PyData) (v : Value) (as as' : List Addr), d.canLay0 = true → Reads h v d as → Reads h v d' as' → d = d'
  | .none, _, _, _, _, _, r, r' => by cases r; cases r'; rfl
  | .bool _, _, _, _, _, _, r, r' => by cases r; cases r'; rfl
  | .int _, _, _, _, _, _, r, r' => by cases r; cases r'; rfl
  | .str _, _, _, _, _, _, r, r' => by cases r; cases r'; rfl
  | .list xs, d', _, _, _, ha, r, r' => by
    cases r with
    | list h1 h2 h3 h4 =>
      cases r' with
      | list k1 k2 k3 k4 =>
        rw [h1] at k1; cases k1
        rw [h3] at k3; cases k3
        rw [readsAll_fun xs _ _ _ _ (by simpa [PyData.canLay0] using ha) h4 k4]
      | tuple k1 k2 k3 k4 =>
        rw [h1] at k1; cases k1
        rw [h2] at k2; exact absurd k2 (by decide)
      | dict k1 k2 k3 k4 k5 =>
        rw [h1] at k1; cases k1
        rw [h2] at k2; exact absurd k2 (by decide)
  | .tuple xs, d', _, _, _, ha, r, r' => by
    cases r with
    | tuple h1 h2 h3 h4 =>
      cases r' with
      | tuple k1 k2 k3 k4 =>
        rw [h1] at k1; cases k1
        rw [h3] at k3; cases k3
        rw [readsAll_fun xs _ _ _ _ (by simpa [PyData.canLay0] using ha) h4 k4]
      | list k1 k2 k3 k4 =>
        rw [h1] at k1; cases k1
        rw [h2] at k2; exact absurd k2 (by decide)
      | dict k1 k2 k3 k4 k5 =>
        rw [h1] at k1; cases k1
        rw [h2] at k2; exact absurd k2 (by decide)
  | .dict _, d', _, _, _, ha, _, _ => absurd ha (by simp [PyData.canLay0])
theorem readsAll_fun {h : Heap} : ∀ (xs ys : List PyData) (vs : List Value) (as as' : List Addr), PyData.canLayAll0 xs = true → ReadsAll h vs xs as → ReadsAll h vs ys as' → xs = ys
  | [], _, _, _, _, _, r, r' => by cases r; cases r'; rfl
  | x :: xs, ys, _, _, _, ha, r, r' => by
    cases r with
    | cons h1 h2 =>
      cases r' with
      | cons k1 k2 =>
        have ha' : x.canLay0 = true ∧ PyData.canLayAll0 xs = true := by simpa [PyData.canLayAll0] using ha
        rw [reads_fun x _ _ _ _ ha'.1 h1 k1, readsAll_fun xs _ _ _ _ ha'.2 h2 k2]
end
/-- x in a list or a tuple, of any data -/
def rInD (K : Kf) (neg : Bool) : L2.R2 := fun x y H Q => ∃ p xs d es, y = .ref p ∧ (L2.SqL K H p xs ∨ L2.SqT K H p xs) ∧ L2.Dp K H x d ∧ L2.DpAll K H xs es ∧ (d.canLay0 = true ∧ d.depth ≤ 60) ∧ PyData.canLayAll0 es = true ∧ Q (.bl (if neg then !es.any (fun e => PyData.eqv e d) else es.any fun e => PyData.eqv e d)) H
theorem canLay_mem : ∀ {es : List PyData}, PyData.canLayAll0 es = true → ∀ e ∈ es, e.canLay0 = true
  | x :: xs, h, e, he => by
    have h' : x.canLay0 = true ∧ PyData.canLayAll0 xs = true := by simpa [PyData.canLayAll0] using h
    rcases List.mem_cons.mp he with he | he
    · rw [he]; exact h'.1
    · exact canLay_mem h'.2 e he
theorem readsAll_mem {h : Heap} : ∀ {vs : List Value} {es : List PyData} {as : List Addr}, ReadsAll h vs es as → (∀ u ∈ vs, ∃ e ∈ es, ∃ bs, Reads h u e bs) ∧ ∀ e ∈ es, ∃ u ∈ vs, ∃ bs, Reads h u e bs
  | [], _, _, r => by cases r; exact ⟨by simp, by simp⟩
  | u :: vs, _, _, r => by
    cases r with
    | cons h1 h2 =>
      obtain ⟨a, b⟩ := readsAll_mem h2
      refine ⟨fun x hx => ?_, fun e he => ?_⟩
      · rcases List.mem_cons.mp hx with hx | hx
        · rw [hx]; exact ⟨_, List.mem_cons_self, _, h1⟩
        · obtain ⟨e, he, z⟩ := a x hx
          exact ⟨e, List.mem_cons_of_mem _ he, z⟩
      · rcases List.mem_cons.mp he with he | he
        · rw [he]; exact ⟨_, List.mem_cons_self, _, h1⟩
        · obtain ⟨x, hx, z⟩ := b e he
          exact ⟨x, List.mem_cons_of_mem _ hx, z⟩
open Classical in
/-- whether a value reads as data equal to d -/
noncomputable def hitV (h : Heap) (d : PyData) (u : Value) : Bool := decide (∃ e bs, Reads h u e bs ∧ PyData.eqv e d = true)
open Classical in
theorem hitV_iff {h : Heap} {d : PyData} {u : Value} : hitV h d u = true ↔ ∃ e bs, Reads h u e bs ∧ PyData.eqv e d = true := by
  unfold hitV
  exact decide_eq_true_iff
section
variable {X : L2.Cx} {pins : List (Addr × Obj)} {σ : L2.St} {H : Hp} {s : Shared}
theorem hit_eqAt {A : Around} {v : Value} {d : PyData} {as : List Addr} (rv : Reads s.heap v d as) (hd : d.canLay0 = true ∧ d.depth ≤ 60) {u : Value} {e : PyData} {bs : List Addr} (ru : Reads s.heap u e bs) (he : e.canLay0 = true) (hu : A.units + 61 < cLine) : SeqAt.EqAt A s u v (hitV s.heap d u) := by
  have e1 : hitV s.heap d u = PyData.eqv e d := by
    cases h : PyData.eqv e d with
    | true => exact hitV_iff.mpr ⟨e, bs, ru, h⟩
    | false =>
      cases h2 : hitV s.heap d u with
      | false => rfl
      | true =>
        obtain ⟨e', bs', r', h'⟩ := hitV_iff.mp h2
        rw [← reads_fun e e' u _ _ he ru r', h] at h'
        cases h'
  rw [e1]
  refine SeqAt.eqAt_reads e d A s u v bs as ru rv he hd.1 ?_
  have : min e.depth d.depth ≤ d.depth := Nat.min_le_right _ _
  have := hd.2
  omega
theorem hit_any {h : Heap} {d : PyData} {us : List Value} {es : List PyData} {as : List Addr} (r : ReadsAll h us es as) (hes : PyData.canLayAll0 es = true) : us.any (hitV h d) = es.any fun e => PyData.eqv e d := by
  obtain ⟨a, b⟩ := readsAll_mem r
  cases h1 : es.any fun e => PyData.eqv e d with
  | true =>
    obtain ⟨e, he, h2⟩ := List.any_eq_true.mp h1
    obtain ⟨u, hu, bs, ru⟩ := b e he
    exact List.any_eq_true.mpr ⟨u, hu, hitV_iff.mpr ⟨e, bs, ru, h2⟩⟩
  | false =>
    rw [List.any_eq_false] at h1 ⊢
    intro u hu h2
    obtain ⟨e, he, bs, ru⟩ := a u hu
    obtain ⟨e', bs', r', h'⟩ := hitV_iff.mp h2
    rw [← reads_fun e e' u _ _ (canLay_mem hes e he) ru r'] at h'
    exact h1 e he h'
end
section
variable {X : L2.Cx}
theorem op_inD (hu : X.A.units + 64 < cLine) : L2.OpR X (compareOp .In) (rInD X.K false) := by
  intro pins s σ H x y v u Q I rx ry h
  obtain ⟨p, xs, d, es, rfl, hq, hx, hxs, hd, hes, q⟩ := h
  cases ry
  obtain ⟨as, rv⟩ := L2.Dp.reads I d x v hx rx
  have hA : X.A.in1.units + 61 < cLine := by show X.A.units + 1 + 61 < cLine; omega
  rcases hq with hq | hq
  · obtain ⟨its, r, pl, hz⟩ := I.list hq
    obtain ⟨bs, ra⟩ := L2.Dp.readsAll I es xs its hxs r
    obtain ⟨m1, _⟩ := readsAll_mem ra
    refine SeqAt.in_listAt (hitV s.heap d) pl.isList (fun w hw => ?_) ⟨.bl _, H, I, rfl, ?_⟩
    · obtain ⟨e, he, cs, rw⟩ := m1 w (by simpa using hw)
      exact hit_eqAt rv hd rw (canLay_mem hes e he) hA
    · rw [show its.toArray.any (hitV s.heap d) = its.any (hitV s.heap d) by simp, hit_any ra hes]
      exact q
  · obtain ⟨its, r, pl, hz⟩ := I.tuple hq
    obtain ⟨bs, ra⟩ := L2.Dp.readsAll I es xs its hxs r
    obtain ⟨m1, _⟩ := readsAll_mem ra
    refine SeqAt.in_tupleAt (hitV s.heap d) pl (fun w hw => ?_) ⟨.bl _, H, I, rfl, ?_⟩
    · obtain ⟨e, he, cs, rw⟩ := m1 w (by simpa using hw)
      exact hit_eqAt rv hd rw (canLay_mem hes e he) hA
    · rw [show its.toArray.any (hitV s.heap d) = its.any (hitV s.heap d) by simp, hit_any ra hes]
      exact q
theorem op_notinD (hu : X.A.units + 64 < cLine) : L2.OpR X (compareOp .NotIn) (rInD X.K true) := by
  intro pins s σ H x y v u Q I rx ry h
  obtain ⟨p, xs, d, es, rfl, hq, hx, hxs, hd, hes, q⟩ := h
  cases ry
  obtain ⟨as, rv⟩ := L2.Dp.reads I d x v hx rx
  have hA : X.A.in1.units + 61 < cLine := by show X.A.units + 1 + 61 < cLine; omega
  rcases hq with hq | hq
  · obtain ⟨its, r, pl, hz⟩ := I.list hq
    obtain ⟨bs, ra⟩ := L2.Dp.readsAll I es xs its hxs r
    obtain ⟨m1, _⟩ := readsAll_mem ra
    refine SeqAt.notIn_listAt (hitV s.heap d) pl.isList (fun w hw => ?_) ⟨.bl _, H, I, rfl, ?_⟩
    · obtain ⟨e, he, cs, rw⟩ := m1 w (by simpa using hw)
      exact hit_eqAt rv hd rw (canLay_mem hes e he) hA
    · rw [show its.toArray.any (hitV s.heap d) = its.any (hitV s.heap d) by simp, hit_any ra hes]
      exact q
  · obtain ⟨its, r, pl, hz⟩ := I.tuple hq
    obtain ⟨bs, ra⟩ := L2.Dp.readsAll I es xs its hxs r
    obtain ⟨m1, _⟩ := readsAll_mem ra
    refine SeqAt.notIn_tupleAt (hitV s.heap d) pl (fun w hw => ?_) ⟨.bl _, H, I, rfl, ?_⟩
    · obtain ⟨e, he, cs, rw⟩ := m1 w (by simpa using hw)
      exact hit_eqAt rv hd rw (canLay_mem hes e he) hA
    · rw [show its.toArray.any (hitV s.heap d) = its.any (hitV s.heap d) by simp, hit_any ra hes]
      exact q
end
section
variable {K : Kf}
theorem any_toP {x : D} (hx : D.okd 60 x = true) : ∀ {xs : List D}, okds 60 xs = true → ((toPs xs).any fun e => PyData.eqv e (toP x)) = xs.any fun y => D.eqb y x
  | [], _ => by simp [toPs]
  | y :: ys, h => by
    have h' : D.okd 60 y = true ∧ okds 60 ys = true := by simpa [okds] using h
    simp only [toPs, List.any_cons]
    rw [toP_eqv y x h'.1 hx, any_toP hx h'.2]
theorem real_inD (neg : Bool) : RealC K (rInD K neg) (fun x y st Q => inDC x y st fun b => Q (if neg then !b else b)) := fun f st H x y v w Q' Q s r1 r2 h l => by
  cases y <;> try (exact h.elim)
  · rw [RD.tup] at r2
    obtain ⟨a, vs, rfl, t, d⟩ := r2
    obtain ⟨h1, h2, h3⟩ := h
    refine ⟨a, vs, _, _, rfl, .inr t, toP_dp x h1 r1, toPs_dp _ h2 d, toP_ok x h1, (toPs_ok _ h2).1, ?_⟩
    rw [any_toP h1 h2]
    exact l _ h3
  · rw [RD.ref] at r2
    obtain ⟨a, e, rfl⟩ := r2
    obtain ⟨xs, h0, h1, h2, h3⟩ := h
    obtain ⟨a', vs, g1, g2, g3⟩ := s.rdA h0
    rw [e] at g1; cases g1
    refine ⟨a, vs, _, _, rfl, .inl g2, toP_dp x h1 r1, toPs_dp _ h2 g3, toP_ok x h1, (toPs_ok _ h2).1, ?_⟩
    rw [any_toP h1 h2]
    exact l _ h3
end
/-! starred arguments -/
section
variable {X : L2.Cx} {a : Expr} {es : List Expr} {ta : TE} {ts : TA} {pos p : Pos}
theorem pa_starD (ha : PD X a ta) (hr : PDA X es ts) (hs : starEach (.Starred a p :: es) X.env = (true, eval a X.env) :: starEach es X.env := by rfl) : PDA X (.Starred a p :: es) (aStar ta ts) :=
  pa_imp (StX.pa_star ha hr hs) fun σ H Q ⟨f, ρ, st, Q', R, h, l⟩ => ⟨f, ρ, st, _, R, h, fun x st1 v f1 H1 h1 e1 s1 r1 => by
    cases x <;> try (exact h1.elim)
    · rw [RD.tup] at r1
      obtain ⟨b, vs, rfl, t, d⟩ := r1
      exact ⟨b, vs, rfl, .inl t, f1, ρ, st1, _, R.later e1 s1, h1, fun ys st2 us f2 H2 q e2 s2 r2 => l _ st2 _ f2 H2 q (e1.trans e2) s2 ((d.mono e2).append r2)⟩
    · rw [RD.ref] at r1
      obtain ⟨b, e, rfl⟩ := r1
      obtain ⟨xs, h0, h2⟩ := h1
      obtain ⟨b', vs, g1, g2, g3⟩ := s1.rdA h0
      rw [e] at g1; cases g1
      exact ⟨b, vs, rfl, .inr g2, f1, ρ, st1, _, R.later e1 s1, h2, fun ys st2 us f2 H2 q e2 s2 r2 => l _ st2 _ f2 H2 q (e1.trans e2) s2 ((g3.mono e2).append r2)⟩⟩
/-- a call with a starred argument of a def whose last parameter takes what is left over -/
theorem pd_callS2 {x : Str} {q : Pos} {k n : Nat} {ts : TA} {cl : Cl} {y : String} (o : OwnS X.prog X.w X.K X.mg X.base k n x (cl y)) (hr : L2.Room k X.A) (hg : L2.Gl X x) (ha : PDA X (a :: es) ts) (hdb : (x == ("__debug__" : Str)) = false := by decide)
    (he : starEach (a :: es) X.env = (false, eval a X.env) :: starEach es X.env := by rfl) (hst : (backTo pos (starEach es X.env)).any (·.1) = true := by rfl) : PD X (.Call (.Name x q) (a :: es) [] pos) (dCallS cl y n ts) := by
  obtain ⟨fa, F, hm, hk⟩ := o.ex
  have step : L2.PE X (.Call (.Name x q) (a :: es) [] pos) (fun σ H Q => liftA X.K ts σ H fun vs H1 => starF X.K n (cl y) vs H1 Q fun _ _ _ => False) := StX.pe_callS2 F hr hk hg hm L2.pass0 ha hdb he hst
  refine pe_imp step fun σ H Q ⟨f, ρ, st, Q', R, h, l⟩ => ⟨f, ρ, st, _, R, h, fun xs st1 vs f1 H1 ⟨h1, h2, h3⟩ e1 s1 r1 => ?_⟩
  have hvl := r1.length
  refine ⟨vs.take n, vs.drop n, (List.take_append_drop n vs).symm, by rw [List.length_take]; omega, ?_, fun p hp => ?_⟩
  · rw [List.length_drop, hvl, ← szl_eq]; rw [List.length_drop] at h2; exact h2
  · have s2 := s1.lay (o := .tup (vs.drop n)) hp
    obtain ⟨s2, e2⟩ := s2
    refine ⟨by rw [List.length_append, List.length_take]; simp; omega, f1, st1, xs.take n ++ [.tup (xs.drop n)], Q', s2, ?_, h3, (l.later e1).later e2⟩
    refine RDs.append ((r1.take n).mono e2) (RDs.one (RD.tup.mpr ⟨p, vs.drop n, rfl, .of L2.upd_same, (r1.drop n).mono e2⟩))
end
end Pd
end PartPdSoundL

section PartPdMore6
set_option Elab.async false
set_option linter.all false
set_option maxRecDepth 100000
/-! Pd: more readings of dicts (locked or not), walks over them, list(range(i, j, -1)), list.index of any pure data. Own work. -/
namespace Pd
open PySem
/-- d[k] -/
def getDAK : K2
  | .ref n, y, st, Q => ∃ kvs k d, rdDA st n kvs ∧ y = keyD k ∧ valD kvs k = some d ∧ Q d st
  | _, _, _, _ => False
def dGetA (to ti : TE) : TE := fun σ st Q => to σ st fun x st1 => ti σ st1 fun y st2 => getDAK x y st2 Q
/-- k in d -/
def inKC : KC
  | y, .ref n, st, Q => ∃ kvs k, rdDA st n kvs ∧ y = keyD k ∧ Q (valD kvs k).isSome
  | _, _, _, _ => False
def notinKC : KC := fun x y st Q => inKC x y st fun b => Q (!b)
/-- d.get(k, z) -/
def getD2K : D → D → D → Store → K → Prop
  | .ref n, y, z, st, Q => ∃ kvs k, rdDA st n kvs ∧ y = keyD k ∧ Q ((valD kvs k).getD z) st
  | _, _, _, _, _ => False
def isDD : D → Store → Prop
  | .ref n, st => ∃ kvs, rdDA st n kvs
  | _, _ => False
def dGet2 (to ti tx : TE) : TE := fun σ st Q => to σ st fun x st1 => isDD x st1 ∧ ti σ st1 fun y st2 => tx σ st2 fun z st3 => getD2K x y z st3 Q
/-- {k: v, ..} -/
def pairsD : List (TE × TE) → Env → Store → (List (D × D) → Store → Prop) → Prop
  | [], _, st, Q => Q [] st
  | p :: r, σ, st, Q => p.1 σ st fun x st1 => p.2 σ st1 fun y st2 => pairsD r σ st2 fun ps st3 => Q ((x, y) :: ps) st3
def putAll (kvs : List (Ky × D)) : List (Ky × D) := kvs.foldl (fun acc kv => putD acc kv.1 kv.2) []
def dDisp (prs : List (TE × TE)) : TE := fun σ st Q => pairsD prs σ (st ++ [.dic []]) fun ps st2 => ∃ kvs : List (Ky × D), ps = kvs.map (fun kv => (keyD kv.1, kv.2)) ∧ kvs.length ≤ 15 ∧ rdD st2 st.length [] ∧ Q (.ref st.length) (st2.set st.length (.dic (putAll kvs)))
/-! a dict is locked while it is walked -/
def keysD (kvs : List (Ky × D)) : List D := kvs.map fun kv => keyD kv.1
def iKeysD (t : TE) : TI := fun σ st R => t σ st fun x st1 => ∃ n kvs tk, x = .ref n ∧ st1[n]? = some (.frd kvs tk) ∧ R ⟨keysD kvs, fun s => s[n]? = some (.frd kvs tk)⟩ st1
def sLockD (t : TS) : TS := fun D σ st => ∃ n kvs, rdD st n kvs ∧ ∀ tk, t { nx := fun σ' st' => st'[n]? = some (.frd kvs tk) ∧ D.nx σ' (st'.set n (.dic kvs)), rt := fun v st' => st'[n]? = some (.frd kvs tk) ∧ D.rt v (st'.set n (.dic kvs)), bk := fun σ' st' => st'[n]? = some (.frd kvs tk) ∧ D.bk σ' (st'.set n (.dic kvs)), ct := fun σ' st' => st'[n]? = some (.frd kvs tk) ∧ D.ct σ' (st'.set n (.dic kvs)) } σ (st.set n (.frd kvs tk))
def dLockD (t : TE) : TE := fun σ st Q => ∃ n kvs, rdD st n kvs ∧ ∀ tk, t σ (st.set n (.frd kvs tk)) fun v st' => st'[n]? = some (.frd kvs tk) ∧ Q v (st'.set n (.dic kvs))
/-- .index(x), any pure data -/
def indexDM : KM
  | .ref n, [x], st, Q => ∃ xs j z, rdA st n xs ∧ D.okd 60 x = true ∧ okds 60 xs = true ∧ xs[j]? = some z ∧ D.eqb z x = true ∧ (∀ (m : Nat) (z' : D), m < j → xs[m]? = some z' → D.eqb z' x = false) ∧ Q (.int j) st
  | _, _, _, _ => False
/-- list(range(i, j, -1)) -/
def dLRD (t u : TE) : TE := fun σ st Q => t σ st fun x st1 => u σ st1 fun y st2 => ∃ i j, x = .int i ∧ y = .int j ∧ (-(2 ^ 62) ≤ i ∧ i < 2 ^ 62 ∧ -(2 ^ 62) ≤ j ∧ j < 2 ^ 62 ∧ (i - j).toNat ≤ szl) ∧ Q (.ref st2.length) (st2 ++ [.lst (rngD i (i - j).toNat)])
section
variable {σ σ' : Env} {st : Store} {Q : K} {to ti tx ta tb : TE} {d x y : D}
instance : Red (dGetA to ti σ st Q) (to σ st fun x st1 => ti σ st1 fun y st2 => getDAK x y st2 Q) := ⟨id⟩
instance : Red (dGet2 to ti tx σ st Q) (to σ st fun x st1 => isDD x st1 ∧ ti σ st1 fun y st2 => tx σ st2 fun z st3 => getD2K x y z st3 Q) := ⟨id⟩
instance {prs : List (TE × TE)} : Red (dDisp prs σ st Q) (pairsD prs σ (st ++ [.dic []]) fun ps st2 => ∃ kvs : List (Ky × D), ps = kvs.map (fun kv => (keyD kv.1, kv.2)) ∧ kvs.length ≤ 15 ∧ rdD st2 st.length [] ∧ Q (.ref st.length) (st2.set st.length (.dic (putAll kvs)))) := ⟨id⟩
instance {q : List (D × D) → Store → Prop} : Red (pairsD [] σ st q) (q [] st) := ⟨id⟩
instance {p : TE × TE} {r : List (TE × TE)} {q : List (D × D) → Store → Prop} : Red (pairsD (p :: r) σ st q) (p.1 σ st fun x st1 => p.2 σ st1 fun y st2 => pairsD r σ st2 fun ps st3 => q ((x, y) :: ps) st3) := ⟨id⟩
instance {R : Iter → Store → Prop} : Red (iKeysD ta σ st R) (ta σ st fun x st1 => ∃ n kvs tk, x = .ref n ∧ st1[n]? = some (.frd kvs tk) ∧ R ⟨keysD kvs, fun s => s[n]? = some (.frd kvs tk)⟩ st1) := ⟨id⟩
instance : Red (dLRD ta tb σ st Q) (ta σ st fun x st1 => tb σ st1 fun y st2 => ∃ i j, x = .int i ∧ y = .int j ∧ (-(2 ^ 62) ≤ i ∧ i < 2 ^ 62 ∧ -(2 ^ 62) ≤ j ∧ j < 2 ^ 62 ∧ (i - j).toNat ≤ szl) ∧ Q (.ref st2.length) (st2 ++ [.lst (rngD i (i - j).toNat)])) := ⟨id⟩
end
theorem getA_at {st : Store} {n : Nat} {kvs : List (Ky × D)} {k : Ky} {d : D} {Q : K} (h : rdDA st n kvs) (e : valD kvs k = some d) (q : Q d st) : getDAK (.ref n) (keyD k) st Q := ⟨kvs, k, d, h, rfl, e, q⟩
theorem getAI_at {st : Store} {n : Nat} {kvs : List (Ky × D)} {k : Int} {d : D} {Q : K} (h : rdDA st n kvs) (e : valD kvs (.inl k) = some d) (q : Q d st) : getDAK (.ref n) (.int k) st Q := ⟨kvs, .inl k, d, h, rfl, e, q⟩
theorem inKI_at {st : Store} {n : Nat} {kvs : List (Ky × D)} {k : Int} {r : Bool → Prop} (h : rdDA st n kvs) (q : r (valD kvs (.inl k)).isSome) : inKC (.int k) (.ref n) st r := ⟨kvs, .inl k, h, rfl, q⟩
theorem notinKI_at {st : Store} {n : Nat} {kvs : List (Ky × D)} {k : Int} {r : Bool → Prop} (h : rdDA st n kvs) (q : r (!(valD kvs (.inl k)).isSome)) : notinKC (.int k) (.ref n) st r := ⟨kvs, .inl k, h, rfl, q⟩
theorem get2I_at {st : Store} {n : Nat} {kvs : List (Ky × D)} {k : Int} {z : D} {Q : K} (h : rdDA st n kvs) (q : Q ((valD kvs (.inl k)).getD z) st) : getD2K (.ref n) (.int k) z st Q := ⟨kvs, .inl k, h, rfl, q⟩
theorem setDI_at {st : Store} {n : Nat} {kvs : List (Ky × D)} {k : Int} {v : D} {Q : Store → Prop} (h : rdD st n kvs) (hl : kvs.length < szl) (q : Q (st.set n (.dic (putD kvs (.inl k) v)))) : setDK (.ref n) (.int k) v st Q := ⟨kvs, .inl k, h, rfl, hl, q⟩
theorem rdDA.of {st : Store} {n : Nat} {kvs : List (Ky × D)} (h : rdD st n kvs) : rdDA st n kvs := .inl h
end Pd
end PartPdMore6

section PartPdSoundO
set_option Elab.async false
set_option linter.all false
set_option maxRecDepth 100000
set_option maxHeartbeats 1000000
/-! Pd over the hand layer: dicts read, displayed and walked; list.index of data; list(range(i, j, -1)). Own work. -/
namespace Pd
open PySem PySem.Spec
section
variable {X : L2.Cx} {K : Kf} {f f' : List Addr} {H H' : Hp} {st st' : Store} {ρ : Env} {σ : L2.St}
theorem vals_none : ∀ {kvs : List (Ky × D)} {ks : List (L2.Key × L2.V)}, ks.map (·.1) = kvs.map (·.1) → ∀ (k : Ky), valD kvs k = none → L2.valV ks k = none
  | [], [], _, _, _ => rfl
  | [], _ :: _, e, _, _ => by simp at e
  | _ :: _, [], e, _, _ => by simp at e
  | (k0, d0) :: kvs, (k1, v1) :: ks, e, k, h => by
    simp only [List.map_cons, List.cons.injEq] at e
    obtain ⟨e1, e2⟩ := e
    have e1 : k1 = k0 := e1
    subst e1
    by_cases hk : k1 = k
    · have : valD ((k1, d0) :: kvs) k = some d0 := by simp [valD, List.find?_cons, hk]
      rw [this] at h; cases h
    · have : valD ((k1, d0) :: kvs) k = valD kvs k := by simp [valD, List.find?_cons, hk]
      rw [this] at h
      exact (L2.valV_neg hk).trans (vals_none e2 k h)
theorem dget_of {a : Addr} {ks : List (L2.Key × L2.V)} {k : Ky} (h : L2.Rd H a (.dK ks)) : L2.DGet H a (L2.kV k) (L2.valV ks k) := .inl ⟨ks, k, h, rfl, rfl⟩
section
variable {o i e a b : Expr} {to ti tx ta tb : TE} {pos apos cpos : Pos}
theorem pd_getA {k : Nat} (hr : L2.Room k X.A) (ho : PD X o to) (hi : PD X i ti) (hs : L2.NoSl i := by intro _ _; rfl) : PD X (.Subscript o i pos) (dGetA to ti) :=
  pe_imp (L2.pe_dget (L2.hu_of hr) ho hi hs) fun σ H Q ⟨f, ρ, st, Q', R, h, l⟩ => ⟨f, ρ, st, _, R, h, fun x st1 v f1 H1 q1 e1 s1 r1 => ⟨f1, ρ, st1, _, R.later e1 s1, q1, fun y st2 w f2 H2 q2 e2 s2 r2 => by
    cases x <;> try (exact q2.elim)
    obtain ⟨kvs, k, d, h1, rfl, h3, h4⟩ := q2
    have r1' := r1.mono e2
    rw [RD.ref] at r1'
    obtain ⟨a, ea, rfl⟩ := r1'
    obtain ⟨a', ks, g1, g2, g3, g4⟩ := s2.rdDA h1
    rw [ea] at g1; cases g1
    obtain ⟨v, g5, g6⟩ := vals_at g3 g4 k d h3
    obtain rfl := keyD_V r2
    exact ⟨a, v, rfl, by rw [← g5]; exact dget_of g2, l d st2 v f2 H2 h4 (e1.trans e2) s2 g6⟩⟩⟩
theorem in_some {kvs : List (Ky × D)} {ks : List (L2.Key × L2.V)} (e : ks.map (·.1) = kvs.map (·.1)) (r : RDs K f H (kvs.map (·.2)) (ks.map (·.2))) (k : Ky) : (L2.valV ks k).isSome = (valD kvs k).isSome := by
  cases h : valD kvs k with
  | none => rw [vals_none e k h]; rfl
  | some d =>
    obtain ⟨v, g, _⟩ := vals_at e r k d h
    rw [g]; rfl
theorem in_core {Q' : Pd.K} {Q : L2.VK} {neg : Bool} {hi : lift K ti σ H (fun y H1 => lift K to σ H1 fun _ _ => True) → True}
    (R : Rel K f ρ st σ H) (h : ti ρ st fun y st1 => to ρ st1 fun x st2 => inKC y x st2 fun b => Q' (.bl (if neg then !b else b)) st2) (l : LQ K f H Q' Q) :
    lift K ti σ H fun y H1 => lift K to σ H1 fun x H2 => ∃ a o, x = .ref a ∧ L2.DGet H2 a y o ∧ Q (.bl (if neg then !o.isSome else o.isSome)) H2 :=
  ⟨f, ρ, st, _, R, h, fun y st1 v f1 H1 q1 e1 s1 r1 => ⟨f1, ρ, st1, _, R.later e1 s1, q1, fun x st2 w f2 H2 q2 e2 s2 r2 => by
    cases x <;> try (exact q2.elim)
    obtain ⟨kvs, k, h1, rfl, h3⟩ := q2
    rw [RD.ref] at r2
    obtain ⟨a, ea, rfl⟩ := r2
    obtain ⟨a', ks, g1, g2, g3, g4⟩ := s2.rdDA h1
    rw [ea] at g1; cases g1
    obtain rfl := keyD_V (r1.mono e2)
    refine ⟨a, _, rfl, dget_of g2, ?_⟩
    rw [in_some g3 g4 k]
    exact l _ st2 _ f2 H2 h3 (e1.trans e2) s2 (RD.bl.mpr rfl)⟩⟩
theorem pd_inK {k : Nat} (hr : L2.Room k X.A) (hi : PD X i ti) (ho : PD X o to) (hm : behindInMarks .In o = false := by rfl) : PD X (.Compare i [.In] [o] pos) (dCmp inKC ti to) :=
  pe_imp (L2.pe_cmp (L2.pc_din (L2.hu_of hr) hi ho) hm) fun σ H Q ⟨f, ρ, st, Q', R, h, l⟩ => in_core (neg := false) (hi := fun _ => trivial) R h l
theorem pd_notinK {k : Nat} (hr : L2.Room k X.A) (hi : PD X i ti) (ho : PD X o to) (hm : behindInMarks .NotIn o = false := by rfl) : PD X (.Compare i [.NotIn] [o] pos) (dCmp notinKC ti to) :=
  pe_imp (L2.pe_cmp (L2.pc_dnotin (L2.hu_of hr) hi ho) hm) fun σ H Q ⟨f, ρ, st, Q', R, h, l⟩ => in_core (neg := true) (hi := fun _ => trivial) R h l
theorem pt_inK {k : Nat} (hr : L2.Room k X.A) (hi : PD X i ti) (ho : PD X o to) (hm : behindInMarks .In o = false := by rfl) : PDT X (.Compare i [.In] [o] pos) (tTru (dCmp inKC ti to)) :=
  pt_imp (L2.pt_cmp (L2.pc_din (L2.hu_of hr) hi ho) hm) fun σ H Q ⟨f, ρ, st, Q', R, h, l⟩ =>
    in_core (neg := false) (hi := fun _ => trivial) (Q' := fun x st' => ∃ b, x = .bl b ∧ Q' b st') (Q := fun x H' => ∃ b, x = .bl b ∧ Q b H') R
      (by
        refine (show (ti ρ st fun y st1 => to ρ st1 fun x st2 => inKC y x st2 fun b => ∃ b', D.bl (if false = true then !b else b) = .bl b' ∧ Q' b' st2) from ?_)
        have e : (fun (y : D) (st1 : Store) => to ρ st1 fun x st2 => inKC y x st2 fun b => ∃ b', D.bl (if false = true then !b else b) = .bl b' ∧ Q' b' st2) = fun y st1 => to ρ st1 fun x st2 => inKC y x st2 fun b => Q' b st2 := by
          funext y st1
          congr
          funext x st2
          congr
          funext b
          exact propext ⟨fun ⟨b', e, q⟩ => by cases e; exact q, fun q => ⟨b, rfl, q⟩⟩
        rw [e]; exact h)
      fun x st' v f' H' ⟨b, hx, q⟩ e s r => by
        subst hx
        rw [RD.bl] at r
        exact ⟨b, r, l b st' f' H' q e s⟩
theorem pt_notinK {k : Nat} (hr : L2.Room k X.A) (hi : PD X i ti) (ho : PD X o to) (hm : behindInMarks .NotIn o = false := by rfl) : PDT X (.Compare i [.NotIn] [o] pos) (tTru (dCmp notinKC ti to)) :=
  pt_imp (L2.pt_cmp (L2.pc_dnotin (L2.hu_of hr) hi ho) hm) fun σ H Q ⟨f, ρ, st, Q', R, h, l⟩ =>
    in_core (neg := true) (hi := fun _ => trivial) (Q' := fun x st' => ∃ b, x = .bl b ∧ Q' b st') (Q := fun x H' => ∃ b, x = .bl b ∧ Q b H') R
      (by
        have e : (fun (y : D) (st1 : Store) => to ρ st1 fun x st2 => inKC y x st2 fun b => ∃ b', D.bl (if true = true then !b else b) = .bl b' ∧ Q' b' st2) = fun y st1 => to ρ st1 fun x st2 => inKC y x st2 fun b => Q' (!b) st2 := by
          funext y st1
          congr
          funext x st2
          congr
          funext b
          exact propext ⟨fun ⟨b', e, q⟩ => by cases e; exact q, fun q => ⟨!b, rfl, q⟩⟩
        rw [e]; exact h)
      fun x st' v f' H' ⟨b, hx, q⟩ e s r => by
        subst hx
        rw [RD.bl] at r
        exact ⟨b, r, l b st' f' H' q e s⟩
theorem pd_get2 {k : Nat} {e g : Expr} (hr : L2.Room k X.A) (ho : PD X o to) (he : PD X e ti) (hf : PD X g tx) (m : L2.M2 X o "get" apos e g cpos := by exact ⟨rfl, rfl, rfl, rfl⟩) : PD X (.Call (.Attribute o "get" apos) [e, g] [] cpos) (dGet2 to ti tx) :=
  pe_imp (L2.pe_dget2 (L2.hu_of hr) ho he hf m) fun σ H Q ⟨f, ρ, st, Q', R, h, l⟩ => ⟨f, ρ, st, _, R, h, fun x st1 v f1 H1 ⟨hx, q1⟩ e1 s1 r1 => by
    cases x <;> try (exact hx.elim)
    obtain ⟨kvs0, h0⟩ := hx
    have r1' := r1
    rw [RD.ref] at r1'
    obtain ⟨a, ea, rfl⟩ := r1'
    obtain ⟨a', ks0, g1, g2, g3, g4⟩ := s1.rdDA h0
    rw [ea] at g1; cases g1
    refine ⟨a, rfl, .inl ⟨ks0, g2⟩, f1, ρ, st1, _, R.later e1 s1, q1, fun y st2 w f2 H2 q2 e2 s2 r2 => ⟨f2, ρ, st2, _, R.later (e1.trans e2) s2, q2, fun z st3 u f3 H3 q3 e3 s3 r3 => ?_⟩⟩
    obtain ⟨kvs, k, h1, rfl, h3⟩ := q3
    obtain ⟨a', ks, k1, k2, k3, k4⟩ := s3.rdDA h1
    have ea3 := (e2.trans e3).at ea
    rw [ea3] at k1; cases k1
    obtain rfl := keyD_V (r2.mono e3)
    refine ⟨_, dget_of k2, ?_⟩
    cases hv : valD kvs k with
    | none =>
      rw [hv] at h3
      rw [vals_none k3 k hv]
      exact l _ st3 _ f3 H3 h3 (e1.trans (e2.trans e3)) s3 r3
    | some d =>
      rw [hv] at h3
      obtain ⟨v, p1, p2⟩ := vals_at k3 k4 k d hv
      rw [p1]
      exact l _ st3 _ f3 H3 h3 (e1.trans (e2.trans e3)) s3 p2⟩
/-! displays -/
inductive PPD (X : L2.Cx) : List (Option Expr) → List Expr → List (TE × TE) → Prop
  | nil : PPD X [] [] []
  | cons {k v : Expr} {ks : List (Option Expr)} {vs : List Expr} {tk tv : TE} {r : List (TE × TE)} : PD X k tk → PD X v tv → PPD X ks vs r → PPD X (some k :: ks) (v :: vs) ((tk, tv) :: r)
theorem PPD.pps {ks : List (Option Expr)} {vs : List Expr} {prs : List (TE × TE)} (h : PPD X ks vs prs) : L2.PPs X pos ks vs (prs.map fun p => (lift X.K p.1, lift X.K p.2)) := by
  induction h with
  | nil => exact L2.pps_nil
  | cons hk hv _ ih => exact L2.pps_cons hk hv ih
theorem pairs_lift : ∀ (prs : List (TE × TE)) {f : List Addr} {ρ : Env} {st : Store} {σ : L2.St} {H : Hp} {Q' : List (D × D) → Store → Prop} {Q : List (L2.V × L2.V) → Hp → Prop}, Rel K f ρ st σ H → pairsD prs ρ st Q' →
    (∀ ps st' us f' H', Q' ps st' → Ext K f H f' H' → RelS K f' st' H' → RDs K f' H' (ps.map (·.1)) (us.map (·.1)) → RDs K f' H' (ps.map (·.2)) (us.map (·.2)) → Q us H') → L2.tPairs (prs.map fun p => (lift K p.1, lift K p.2)) σ H Q
  | [], f, ρ, st, σ, H, Q', Q, R, h, l => l [] st [] f H h .refl R.toRelS (RDs.nil.mpr rfl) (RDs.nil.mpr rfl)
  | p :: prs, f, ρ, st, σ, H, Q', Q, R, h, l =>
    ⟨f, ρ, st, _, R, h, fun x st1 v f1 H1 q1 e1 s1 r1 => ⟨f1, ρ, st1, _, R.later e1 s1, q1, fun y st2 w f2 H2 q2 e2 s2 r2 =>
      pairs_lift prs (R.later (e1.trans e2) s2) q2 fun ps st3 us f3 H3 q3 e3 s3 ra rb => l _ st3 _ f3 H3 q3 ((e1.trans e2).trans e3) s3 (RDs.cons.mpr ⟨_, _, rfl, r1.mono (e2.trans e3), ra⟩) (RDs.cons.mpr ⟨_, _, rfl, r2.mono e3, rb⟩)⟩⟩
theorem keys_V : ∀ {kvs : List (Ky × D)} {us : List (L2.V × L2.V)}, RDs K f H (kvs.map fun kv => keyD kv.1) (us.map (·.1)) → RDs K f H (kvs.map (·.2)) (us.map (·.2)) → ∃ ks : List (L2.Key × L2.V), us = ks.map (fun kv => (L2.kV kv.1, kv.2)) ∧ ks.map (·.1) = kvs.map (·.1) ∧ RDs K f H (kvs.map (·.2)) (ks.map (·.2))
  | [], us, h, h' => by
    rw [List.map_nil, RDs.nil] at h
    rw [List.map_eq_nil_iff] at h
    subst h
    exact ⟨[], rfl, rfl, RDs.nil.mpr rfl⟩
  | kv :: kvs, [], h, h' => by
    rw [List.map_cons, List.map_nil, RDs.cons] at h
    obtain ⟨v, r, e, _⟩ := h
    cases e
  | kv :: kvs, u :: us, h, h' => by
    rw [List.map_cons, List.map_cons, RDs.cons] at h h'
    obtain ⟨v, r, e, h1, h2⟩ := h
    obtain ⟨v', r', e', h1', h2'⟩ := h'
    injection e with e1 e2
    injection e' with e1' e2'
    obtain ⟨ks, p1, p2, p3⟩ := keys_V (us := us) (by rw [e2]; exact h2) (by rw [e2']; exact h2')
    refine ⟨(kv.1, u.2) :: ks, ?_, ?_, ?_⟩
    · rw [List.map_cons, ← p1]
      have := keyD_V h1
      rw [← e1] at this
      rw [← this]
    · rw [List.map_cons, List.map_cons, p2]
    · rw [List.map_cons, List.map_cons, RDs.cons]
      exact ⟨_, _, rfl, by rw [e1']; exact h1', p3⟩
theorem merge_at : ∀ {kvs : List (Ky × D)} {ks : List (L2.Key × L2.V)} {acc : List (Ky × D)} {ac : List (L2.Key × L2.V)}, ks.map (·.1) = kvs.map (·.1) → RDs K f H (kvs.map (·.2)) (ks.map (·.2)) → ac.map (·.1) = acc.map (·.1) → RDs K f H (acc.map (·.2)) (ac.map (·.2)) →
    (L2.mergeK ac ks).map (·.1) = (kvs.foldl (fun acc kv => putD acc kv.1 kv.2) acc).map (·.1) ∧ RDs K f H ((kvs.foldl (fun acc kv => putD acc kv.1 kv.2) acc).map (·.2)) ((L2.mergeK ac ks).map (·.2))
  | [], [], acc, ac, _, _, e, r => ⟨e, r⟩
  | [], _ :: _, _, _, e, _, _, _ => by simp at e
  | _ :: _, [], _, _, e, _, _, _ => by simp at e
  | kv :: kvs, u :: ks, acc, ac, e, r, e', r' => by
    simp only [List.map_cons, List.cons.injEq] at e
    rw [List.map_cons, List.map_cons, RDs.cons] at r
    obtain ⟨v, rr, er, r1, r2⟩ := r
    injection er with er1 er2
    have hu : RD K f H kv.2 u.2 := by rw [er1]; exact r1
    obtain ⟨p1, p2⟩ := put_at (k := kv.1) hu e' r'
    have hk : u.1 = kv.1 := e.1
    have := merge_at (kvs := kvs) (ks := ks) (acc := putD acc kv.1 kv.2) (ac := L2.putK ac u.1 u.2) e.2 (by rw [er2]; exact r2) (by rw [hk]; exact p1) (by rw [hk]; exact p2)
    exact this
theorem pd_disp {ks : List (Option Expr)} {vs : List Expr} {prs : List (TE × TE)} (h : PPD X ks vs prs) (hall : ks.all (·.isSome) = true := by rfl) (hl : ks.length = vs.length := by rfl) (h0 : ks ≠ [] := by (intro h; cases h)) (h15 : ks.length ≤ 15 := by decide) : PD X (.Dict ks vs pos) (dDisp prs) :=
  pe_imp (L2.pe_disp (h.pps (pos := pos)) hall hl h0 h15) fun σ H Q ⟨f, ρ, st, Q', R, h, l⟩ p hp => by
    obtain ⟨s', e⟩ := R.toRelS.new (o := .dK []) (c := .dic []) hp ⟨[], L2.upd_same, rfl, RDs.nil.mpr rfl⟩
    refine pairs_lift prs (R.later e s') h fun ps st2 us f2 H2 q2 e2 s2 ra rb => ?_
    obtain ⟨kvs, rfl, h1, h2, h3⟩ := q2
    obtain ⟨a, ks, g1, g2, g3, g4⟩ := s2.rdD h2
    have hn : (f ++ [p])[st.length]? = some p := by rw [← R.toRelS.len]; simp
    have hn2 := e2.at hn
    rw [hn2] at g1; cases g1
    cases ks with
    | cons _ _ => simp at g3
    | nil =>
      rw [List.map_map] at ra rb
      obtain ⟨ks, p1, p2, p3⟩ := keys_V (kvs := kvs) ra rb
      obtain ⟨m1, m2⟩ := merge_at p2 p3 (acc := []) (ac := []) rfl (RDs.nil.mpr rfl)
      obtain ⟨s3, e3⟩ := s2.putDic hn2 h2 g2 (kvs' := putAll kvs) m1 m2
      have hlk : ks.length ≤ 15 := by
        have := congrArg List.length p2
        rw [List.length_map, List.length_map] at this
        omega
      exact ⟨g2, ks, p1, hlk, l _ _ _ f2 _ h3 ((e.trans e2).trans e3) s3 (RD.ref.mpr ⟨p, hn2, rfl⟩)⟩
end
/-! ### a dict is locked -/
theorem frd_at {n : Nat} {a : Addr} {kvs : List (Ky × D)} {tk : Tok} (s : RelS K f st H) (hn : f[n]? = some a) (h : st[n]? = some (.frd kvs tk)) : H a = some (.frz tk.1 (.dK tk.2)) ∧ tk.2.map (·.1) = kvs.map (·.1) ∧ RDs K f H (kvs.map (·.2)) (tk.2.map (·.2)) := by
  obtain ⟨a', h1, h2, h3⟩ := s.at h
  rw [hn] at h1; cases h1
  exact ⟨h2, h3⟩
theorem lock_at {n : Nat} {a : Addr} {kvs : List (Ky × D)} {ks : List (L2.Key × L2.V)} {od : Obj} (s : RelS K f st H) (hn : f[n]? = some a) (h : rdD st n kvs) (hH : H a = some (.dK ks)) (e : ks.map (·.1) = kvs.map (·.1)) (r : RDs K f H (kvs.map (·.2)) (ks.map (·.2))) :
    RelS K f (st.set n (.frd kvs (od, ks))) (L2.upd H a (.frz od (.dK ks))) ∧ Ext K f H f (L2.upd H a (.frz od (.dK ks))) :=
  s.chg (c := .dic kvs) h rfl hn (.inr (.inr (.inl ⟨ks, hH⟩))) rfl ⟨L2.upd_same, e, r.mono (Ext.upd0 (.inr (.inr (.inl ⟨ks, hH⟩))))⟩
theorem unlock_at {n : Nat} {a : Addr} {kvs : List (Ky × D)} {ks : List (L2.Key × L2.V)} {od : Obj} (s : RelS K f st H) (hn : f[n]? = some a) (h : st[n]? = some (.frd kvs (od, ks))) :
    H a = some (.frz od (.dK ks)) ∧ RelS K f (st.set n (.dic kvs)) (L2.upd H a (.dK ks)) ∧ Ext K f H f (L2.upd H a (.dK ks)) := by
  obtain ⟨h1, h2, h3⟩ := frd_at s hn h
  have w : Wr H a := .inr (.inr (.inr ⟨od, ks, h1⟩))
  exact ⟨h1, s.chg (c := .frd kvs (od, ks)) h rfl hn w rfl ⟨ks, L2.upd_same, h2, h3.mono (Ext.upd0 w)⟩⟩
theorem pd_lockD {e : Expr} {t : TE} (h : PD X e t) : PD X e (dLockD t) :=
  pe_imp (L2.pe_lock h) fun σ H Q ⟨f, ρ, st, Q', R, ⟨n, kvs, h1, h2⟩, l⟩ => by
    obtain ⟨a, ks, g1, g2, g3, g4⟩ := R.toRelS.rdD h1
    refine ⟨a, .dK ks, g2, trivial, fun od => ?_⟩
    obtain ⟨s1, e1⟩ := lock_at (od := od) R.toRelS g1 h1 g2 g3 g4
    refine ⟨f, ρ, _, _, R.later e1 s1, h2 (od, ks), fun x st2 v f2 H2 ⟨q1, q2⟩ e2 s2 r2 => ?_⟩
    obtain ⟨u1, u2, u3⟩ := unlock_at s2 (e2.at g1) q1
    exact ⟨u1, l x _ v f2 _ q2 ((e1.trans e2).trans u3) u2 (r2.mono u3)⟩
theorem realI_keys {n : Nat} {a : Addr} {kvs : List (Ky × D)} {tk : Tok} (hn : f[n]? = some a) (hk : tk.2.map (·.1) = kvs.map (·.1)) : RealI K f H ⟨keysD kvs, fun s => s[n]? = some (.frd kvs tk)⟩ (L2.Itk a tk.1 tk.2) where
  go := fun k f2 st2 H2 e2 s2 g hlt => by
    obtain ⟨h1, h2, h3⟩ := frd_at s2 (e2.at hn) g
    refine ⟨h1, ?_⟩
    have := congrArg List.length hk
    rw [List.length_map, List.length_map] at this
    have hlt' : k < (keysD kvs).length := hlt
    unfold keysD at hlt'
    rw [List.length_map] at hlt'
    omega
  stop := fun f2 st2 H2 e2 s2 g => by
    obtain ⟨h1, h2, h3⟩ := frd_at s2 (e2.at hn) g
    refine ⟨h1, ?_⟩
    have := congrArg List.length hk
    rw [List.length_map, List.length_map] at this
    show tk.2.length ≤ (keysD kvs).length
    unfold keysD
    rw [List.length_map]
    omega
  yld := fun k f2 st2 H2 d x H3 e2 s2 g hd y => by
    obtain ⟨rfl, k', v, hk', rfl⟩ := y
    refine ⟨.refl, s2, ?_⟩
    have hd' : (keysD kvs)[k]? = some d := hd
    unfold keysD at hd'
    rw [show (List.map (fun kv : Ky × D => keyD kv.1) kvs) = (kvs.map (·.1)).map keyD by rw [List.map_map]; rfl, List.getElem?_map, ← hk, List.getElem?_map, hk'] at hd'
    have e9 : keyD k' = d := by simpa using hd'
    subst e9
    cases k' with
    | inl i => exact RD.int.mpr rfl
    | inr s => exact RD.str.mpr rfl
theorem pi_keysD {tg e : Expr} {td : TE} (h : PD X e td) : PDI X tg e (iKeysD td) :=
  pi_imp (L2.pi_keys h) fun σ H R ⟨f, ρ, st, R', Re, h, l⟩ => ⟨f, ρ, st, _, Re, h, fun x st1 v f1 H1 q1 e1 s1 r1 => by
    obtain ⟨n, kvs, tk, rfl, q2, q3⟩ := q1
    rw [RD.ref] at r1
    obtain ⟨a, ea, rfl⟩ := r1
    obtain ⟨h1, h2, h3⟩ := frd_at s1 ea q2
    exact ⟨a, tk.1, rfl, .inl ⟨tk.2, h1, l _ _ _ f1 H1 q3 e1 s1 (realI_keys ea h2)⟩⟩⟩
theorem ps_lockD {sm : Stmt} {t : TS} (h : PDS X sm t) : PDS X sm (sLockD t) :=
  ps_imp (L2.ps_lock h) fun D σ H ⟨f, ρ, st, D', R, ⟨n, kvs, h1, h2⟩, l⟩ => by
    obtain ⟨a, ks, g1, g2, g3, g4⟩ := R.toRelS.rdD h1
    refine ⟨a, .dK ks, g2, trivial, fun od => ?_⟩
    obtain ⟨s1, e1⟩ := lock_at (od := od) R.toRelS g1 h1 g2 g3 g4
    refine ⟨f, ρ, _, _, R.later e1 s1, h2 (od, ks), ⟨?_, ?_, ?_, ?_⟩⟩
    · intro ρ' st' σ' f' H' ⟨q1, q2⟩ e2 R2
      obtain ⟨u1, u2, u3⟩ := unlock_at R2.toRelS (e2.at g1) q1
      exact ⟨u1, l.nx _ _ _ f' _ q2 ((e1.trans e2).trans u3) (R2.later u3 u2)⟩
    · intro x st' v f' H' ⟨q1, q2⟩ e2 s2 r2
      obtain ⟨u1, u2, u3⟩ := unlock_at s2 (e2.at g1) q1
      exact ⟨u1, l.rt x _ v f' _ q2 ((e1.trans e2).trans u3) u2 (r2.mono u3)⟩
    · intro ρ' st' σ' f' H' ⟨q1, q2⟩ e2 R2
      obtain ⟨u1, u2, u3⟩ := unlock_at R2.toRelS (e2.at g1) q1
      exact ⟨u1, l.bk _ _ _ f' _ q2 ((e1.trans e2).trans u3) (R2.later u3 u2)⟩
    · intro ρ' st' σ' f' H' ⟨q1, q2⟩ e2 R2
      obtain ⟨u1, u2, u3⟩ := unlock_at R2.toRelS (e2.at g1) q1
      exact ⟨u1, l.ct _ _ _ f' _ q2 ((e1.trans e2).trans u3) (R2.later u3 u2)⟩
/-! ### list.index of any data -/
def rIndexD (K : Kf) : L2.V → List L2.V → Hp → L2.VK → Prop := fun x xs H Q => ∃ (a : Addr) (ys : List L2.V) (y : L2.V) (d : PyData) (es : List PyData) (j : Nat) (e : PyData), x = L2.V.ref a ∧ xs = [y] ∧ L2.SqL K H a ys ∧ L2.Dp K H y d ∧ L2.DpAll K H ys es ∧ (d.canLay0 = true ∧ d.depth ≤ 60) ∧ PyData.canLayAll0 es = true ∧ es[j]? = some e ∧ PyData.eqv e d = true ∧
  (∀ (m : Nat) (e' : PyData), m < j → es[m]? = some e' → PyData.eqv e' d = false) ∧ Q (.int (j : Nat)) H
theorem readsAll_at {h : Heap} : ∀ {vs : List Value} {es : List PyData} {as : List Addr}, ReadsAll h vs es as → vs.length = es.length ∧ ∀ (i : Nat) (e : PyData), es[i]? = some e → ∃ u, vs[i]? = some u ∧ ∃ bs, Reads h u e bs
  | [], _, _, r => by cases r; exact ⟨rfl, by simp⟩
  | u :: vs, _, _, r => by
    cases r with
    | cons h1 h2 =>
      obtain ⟨a, b⟩ := readsAll_at h2
      refine ⟨by simp [a], fun i e he => ?_⟩
      cases i with
      | zero => simp at he; subst he; exact ⟨u, rfl, _, h1⟩
      | succ i => exact b i e (by simpa using he)
theorem hit_eq {h : Heap} {d : PyData} {u : Value} {e : PyData} {bs : List Addr} (ru : Reads h u e bs) (he : e.canLay0 = true) : hitV h d u = PyData.eqv e d := by
  cases h1 : PyData.eqv e d with
  | true => exact hitV_iff.mpr ⟨e, bs, ru, h1⟩
  | false =>
    cases h2 : hitV h d u with
    | false => rfl
    | true =>
      obtain ⟨e', bs', r', h'⟩ := hitV_iff.mp h2
      rw [← reads_fun e e' u _ _ he ru r', h1] at h'
      cases h'
theorem mt_indexD (hu : X.A.units + 64 < cLine) : L2.MtR X "list.index" (rIndexD X.K) := by
  intro pins s σ H x xs v us Q I rx rxs h
  obtain ⟨a, ys, y, d, es, j, e, rfl, rfl, hs, hx, hxs, hd, hes, hz, hzj, hno, q⟩ := h
  cases rx
  cases rxs with
  | cons ry rt =>
    rename_i uy ut
    cases rt
    obtain ⟨as, rv0⟩ := L2.Dp.reads I d y uy hx ry
    obtain ⟨its, rv, ⟨⟨cls, dd, data, sl⟩, n, ho, hc, hdn, hdt⟩, hlen⟩ := I.list hs
    simp only at hc hdt
    subst hc hdt
    obtain ⟨bs, ra⟩ := L2.Dp.readsAll I es ys its hxs rv
    obtain ⟨hl1, hat⟩ := readsAll_at ra
    obtain ⟨m1, _⟩ := readsAll_mem ra
    obtain ⟨u, hu1, cs, ru⟩ := hat j e hz
    obtain ⟨hjl, hje⟩ := List.getElem?_eq_some_iff.mp hu1
    have hj : j < its.toArray.size := by simpa using hjl
    have hsl := sizeLine_eq
    have hvl := rv.length
    have hA : X.A.in1.units + 61 < cLine := by show X.A.units + 1 + 61 < cLine; omega
    refine call_meets PySem.F.slot_list_index ⟨_, ho, rfl⟩ PySem.F.entry_list_index (PySem.F.args_list_index_2 _ _)
      (SeqAt.list_indexAt a its.toArray n dd sl uy (hitV s.heap d) j hj (by omega) ?_ ?_) ⟨ho, fun u' hu' => ?_, ?_⟩
    · have e1 : its.toArray[j] = u := by simpa using hje
      rw [e1, hit_eq ru (canLay_mem hes e (List.mem_of_getElem? hz))]
      exact hzj
    · intro m hm hmj
      have hml : m < its.length := by simpa using hm
      have hme : m < es.length := by omega
      have hy' : es[m]? = some es[m] := List.getElem?_eq_getElem hme
      obtain ⟨u2, hu2, cs2, ru2⟩ := hat m _ hy'
      obtain ⟨_, hme2⟩ := List.getElem?_eq_some_iff.mp hu2
      have e1 : its.toArray[m] = u2 := by simpa using hme2
      rw [e1, hit_eq ru2 (canLay_mem hes _ (List.mem_of_getElem? hy'))]
      exact hno m _ hmj hy'
    · obtain ⟨e', he', cs', rw'⟩ := m1 u' (by simpa using hu')
      exact hit_eqAt rv0 hd rw' (canLay_mem hes e' he') hA
    · exact ⟨.int (j : Nat), H, I.tok _, ⟨_, rfl⟩, q⟩
theorem toPs_at : ∀ {xs : List D} {i : Nat}, (toPs xs)[i]? = (xs[i]?).map toP
  | [], i => by simp [toPs]
  | x :: xs, 0 => by simp [toPs]
  | x :: xs, i + 1 => by
    have := toPs_at (xs := xs) (i := i)
    simp only [toPs, List.getElem?_cons_succ]
    exact this
theorem okds_mem : ∀ {xs : List D} {i : Nat} {z : D}, okds 60 xs = true → xs[i]? = some z → D.okd 60 z = true
  | [], _, _, _, h => by simp at h
  | x :: xs, 0, z, h, e => by
    have h' : D.okd 60 x = true ∧ okds 60 xs = true := by simpa [okds] using h
    simp at e; subst e; exact h'.1
  | x :: xs, i + 1, z, h, e => by
    have h' : D.okd 60 x = true ∧ okds 60 xs = true := by simpa [okds] using h
    exact okds_mem h'.2 (by simpa using e)
theorem real_indexD : RealM K (rIndexD K) indexDM := fun f st H x xs v vs Q' Q s r1 r2 h l => by
  cases x <;> try (exact h.elim)
  match xs, h with
  | [], h => exact h.elim
  | y :: _ :: _, h => exact (show False from h).elim
  | [y], h =>
    obtain ⟨ys, j, z, h0, h1, h2, h3, h4, h5, h6⟩ := h
    rw [RD.ref] at r1
    obtain ⟨a, e, rfl⟩ := r1
    obtain ⟨w, rfl, r3⟩ := r2.inv1
    obtain ⟨a', us, g1, g2, g3⟩ := s.rdA h0
    rw [e] at g1; cases g1
    have okz : ∀ {i : Nat} {z : D}, ys[i]? = some z → D.okd 60 z = true := fun hz => okds_mem h2 hz
    refine ⟨a, us, w, _, _, j, toP z, rfl, rfl, g2, toP_dp y h1 r3, toPs_dp _ h2 g3, toP_ok y h1, (toPs_ok _ h2).1, ?_, ?_, fun m e' hm he' => ?_, l.now s h6 (RD.int.mpr rfl)⟩
    · rw [toPs_at, h3]; rfl
    · rw [toP_eqv z y (okz h3) h1]; exact h4
    · rw [toPs_at] at he'
      cases hq : ys[m]? with
      | none => rw [hq] at he'; cases he'
      | some z' =>
        rw [hq] at he'
        cases he'
        rw [toP_eqv z' y (okz hq) h1]
        exact h5 m z' hm hq
/-! ### list(range(i, j, -1)) -/
def dnV (a b : Int) : List L2.V := (List.range (a - b).toNat).map fun i => L2.V.int (a - (i : Nat))
theorem dnV_length (a b : Int) : (dnV a b).length = (a - b).toNat := by unfold dnV; rw [List.length_map, List.length_range]
theorem vals_dn {a b : Int} {acc : Array Value} (h : ItemsOf (fun i v => ∃ t, v = .int (a + i * (-1)) t) acc (a - b).toNat) : L2.Vals (dnV a b) acc.toList := by
  have e : acc.toList.length = (a - b).toNat := by rw [Array.length_toList]; exact h.1
  unfold dnV
  rw [← e]
  refine L2.vals_of_get acc.toList _ fun j u hj => ?_
  obtain ⟨t, rfl⟩ := h.2 j u (by rw [← hj, Array.getElem?_toList])
  exact ⟨t, by congr 1; omega⟩
theorem rngD_dnV (a b : Int) : RDs K f H (rngD a (a - b).toNat) (dnV a b) := by
  have e1 : rngD a (a - b).toNat = ((List.range (a - b).toNat).map fun (k : Nat) => a - (k : Int)).map D.int := by unfold rngD; simp
  have e2 : dnV a b = ((List.range (a - b).toNat).map fun (k : Nat) => a - (k : Int)).map L2.V.int := by unfold dnV; simp
  rw [e1, e2]; exact RDs.of_ints _
def tLstDn (ta : L2.TA) : L2.TE := fun σ H Q => ta σ H fun vs H1 => ∃ i j : Int, vs = [.int i, .int j, .int (-1)] ∧ (-(2 ^ 62) ≤ i ∧ i < 2 ^ 62 ∧ -(2 ^ 62) ≤ j ∧ j < 2 ^ 62 ∧ (i - j).toNat ≤ 2 ^ 24) ∧ ∀ q, H1 q = none → Q (.ref q) (L2.upd H1 q (.lst (dnV i j)))
open PyProof.Rows L2 in
theorem pe_lstDn {a b c : Expr} {ta : L2.TA} {p p2 pos pos2 : Pos} (hc : X.calm = true) (hg : L2.Gl X "list") (hm : X.mg "list" = none) (hg2 : L2.Gl X "range") (hm2 : X.mg "range" = none) (ha : L2.PA X [a, b, c] ta)
    (na : starEach [.Call (.Name "range" p2) [a, b, c] [] pos2] X.env = (false, eval (.Call (.Name "range" p2) [a, b, c] [] pos2) X.env) :: starEach [] X.env := by rfl)
    (hs : starEach [a, b, c] X.env = (false, eval a X.env) :: starEach [b, c] X.env := by rfl) (hpl : (backTo pos2 (starEach [b, c] X.env)).any (·.1) = false := by rfl) :
    L2.PE X (.Call (.Name "list" p) [.Call (.Name "range" p2) [a, b, c] [] pos2] [] pos) (tLstDn ta) := by
  refine ⟨fun pins s σ H Q I h => ?_⟩
  have inner : wpAny (model X.prog X.w) X.A (eval (.Call (.Name "range" p2) [a, b, c] [] pos2) X.env) (fun x s' => ∃ (r : Addr) (i j : Int) (t u v : PySem.Tok) (H' : Hp), x = .ref r ∧ IsRange s'.heap r i j (-1) t u v ∧ L2.Inv X pins σ H' s' ∧ ((-(2 ^ 62) ≤ i ∧ i < 2 ^ 62 ∧ -(2 ^ 62) ≤ j ∧ j < 2 ^ 62 ∧ (i - j).toNat ≤ 2 ^ 24) ∧ ∀ q, H' q = none → Q (.ref q) (L2.upd H' q (.lst (dnV i j))))) X.xe s := by
    refine Call_ (ld_blt I hg2 hm2 boot_range (PyProof.Rows.callWith_type1 (thn (ha.run pos2 pins s σ H _ I h) fun us s1 ⟨vs, H1, I1, r1, q1⟩ => ?_) hs hpl))
    obtain ⟨i, j, e, q⟩ := q1
    subst e
    cases r1 with
    | cons r rr =>
      cases rr with
      | cons r' rr =>
        cases rr with
        | cons r'' rr =>
          cases rr
          obtain ⟨t, rfl⟩ := r
          obtain ⟨t', rfl⟩ := r'
          obtain ⟨t'', rfl⟩ := r''
          refine call_range_3 (by decide) ?_ (.inl (PyProof.noPylong_small (by decide)))
          exact ⟨_, i, j, _, _, _, H1, rfl, IsRange.new .., I1.kept fun b o e => Heap.get?_push_of_some _ e, q⟩
  refine Call_ (ld_blt I hg hm boot_list (PyProof.Rows.callWith_type1 (args_cons (thn inner fun x s1 ⟨r, i, j, t, u, v, H1, ex, hr, I1, ok, q⟩ => args_nil ?_) na) na))
  subst ex
  obtain ⟨b1, b2, b3, b4, b5⟩ := ok
  refine call_list_range (n := (i - j).toNat) (I1.ok.hd hc) hr (PySem.W.small_down b1 b2 b3 b4) (PySem.W.rangeSize_downNat i j) b5 fun h' tk acc c' hk e' hi => ?_
  refine ⟨.ref s1.heap.objs.size, L2.upd H1 s1.heap.objs.size (.lst (dnV i j)), I1.laid hk (Nat.le_refl _) (show L2.ObjOk X.prog X.w _ _ _ (.lst (dnV i j)) from ⟨?_, acc.toList, c', vals_dn hi, ?_⟩), rfl, q _ (I1.hok.fresh (Nat.le_refl _))⟩
  · rw [dnV_length, sizeLine_eq]; omega
  · rw [Array.toArray_toList]; exact e'
theorem pd_lstRD {a b : Expr} {ta tb : TE} {p p1 p2 p3 pos pos2 : Pos} {k1 : _} (hc : X.calm = true) (hg : L2.Gl X "list") (hm : X.mg "list" = none) (hg2 : L2.Gl X "range") (hm2 : X.mg "range" = none) (h : PD X a ta) (h' : PD X b tb)
    (na : starEach [.Call (.Name "range" p2) [a, b, .UnaryOp .USub (.Constant (.int 1) k1 p1) p3] [] pos2] X.env = (false, eval (.Call (.Name "range" p2) [a, b, .UnaryOp .USub (.Constant (.int 1) k1 p1) p3] [] pos2) X.env) :: starEach [] X.env := by rfl)
    (hs : starEach [a, b, .UnaryOp .USub (.Constant (.int 1) k1 p1) p3] X.env = (false, eval a X.env) :: starEach [b, .UnaryOp .USub (.Constant (.int 1) k1 p1) p3] X.env := by rfl) (hs2 : starEach [b, .UnaryOp .USub (.Constant (.int 1) k1 p1) p3] X.env = (false, eval b X.env) :: starEach [.UnaryOp .USub (.Constant (.int 1) k1 p1) p3] X.env := by rfl)
    (hs3 : starEach [.UnaryOp .USub (.Constant (.int 1) k1 p1) p3] X.env = (false, eval (.UnaryOp .USub (.Constant (.int 1) k1 p1) p3) X.env) :: starEach [] X.env := by rfl) (hpl : (backTo pos2 (starEach [b, .UnaryOp .USub (.Constant (.int 1) k1 p1) p3] X.env)).any (·.1) = false := by rfl) :
    PD X (.Call (.Name "list" p) [.Call (.Name "range" p2) [a, b, .UnaryOp .USub (.Constant (.int 1) k1 p1) p3] [] pos2] [] pos) (dLRD ta tb) :=
  pe_imp (pe_lstDn hc hg hm hg2 hm2 (L2.pa_cons h (L2.pa_cons h' (L2.pa_cons (pd_neg pd_int) L2.pa_nil hs3) hs2) hs) na hs hpl) fun σ H Q ⟨f, ρ, st, Q', Re, h, l⟩ => ⟨f, ρ, st, _, Re, h, fun x st1 v f1 H1 q1 e1 s1 r1 => ⟨f1, ρ, st1, _, Re.later e1 s1, q1, fun y st2 w f2 H2 q2 e2 s2 r2 => by
    obtain ⟨i, j, rfl, rfl, hb, h3⟩ := q2
    have r1' := r1.mono e2
    rw [RD.int] at r1' r2
    subst r1'; subst r2
    refine ⟨f2, ρ, st2, fun z st3 => z = .int (-1) ∧ st3 = st2, Re.later (e1.trans e2) s2, ⟨rfl, rfl⟩, fun z st3 u f3 H3 q3 e3 s3 r3 => ?_⟩
    obtain ⟨rfl, rfl⟩ := q3
    rw [RD.int] at r3
    subst r3
    exact ⟨i, j, rfl, hb, fun p hp => (l.later ((e1.trans e2).trans e3)).lst s3 h3 (rngD_dnV i j) hp⟩⟩⟩
end
end Pd
end PartPdSoundO

section PartPdDraw
set_option Elab.async false
set_option linter.all false
set_option maxRecDepth 100000
/-! Pd: the laws' drawing def. Own work. -/
namespace Pd
open PySem
local macro_rules | `(tactic| walk_at "s") => `(tactic| (repeat (refine Red.red ?_)))
local macro_rules | `(tactic| walk_at "r") => `(tactic| (repeat (first | refine Red.red ?_ | refine Nxt.mk ?_)))
/-- the drawer stands at 2, the script's numbers at 1 -/
def DrawAt (st : Store) : Prop := ∃ (ns : List Int) (a b v : Int), rdL st 1 (ns.map D.int) ∧ rdL st 2 [.ref 1, .int a, .int b, .int v, .int 2] ∧ 0 ≤ a ∧ 0 ≤ b ∧ 0 ≤ v ∧ ns.length ≤ 63
/-- later: the drawer goes on, cells are added, all others are as they were -/
structure Fra (st st' : Store) : Prop where
  dr : DrawAt st'
  le : st.length ≤ st'.length
  at' : ∀ n, n < st.length → n ≠ 2 → st'[n]? = st[n]?
theorem Fra.refl {st : Store} (h : DrawAt st) : Fra st st := ⟨h, Nat.le_refl _, fun _ _ _ => rfl⟩
theorem Fra.trans {a b c : Store} (h : Fra a b) (h' : Fra b c) : Fra a c := ⟨h'.dr, Nat.le_trans h.le h'.le, fun n hn ne => (h'.at' n (Nat.lt_of_lt_of_le hn h.le) ne).trans (h.at' n hn ne)⟩
theorem rdL_lt {st : Store} {n : Nat} {xs : List D} (h : rdL st n xs) : n < st.length := (List.getElem?_eq_some_iff.mp h).1
theorem rdL_app {st : Store} {n : Nat} {xs : List D} {c : C} (h : rdL st n xs) : rdL (st ++ [c]) n xs := by
  unfold rdL at *
  rw [List.getElem?_append_left (rdL_lt h)]; exact h
theorem rdL_new {st : Store} {xs : List D} : rdL (st ++ [.lst xs]) st.length xs := by unfold rdL; simp
theorem rdL_set {st : Store} {n : Nat} {xs ys : List D} (h : rdL st n xs) : rdL (st.set n (.lst ys)) n ys := by unfold rdL; rw [List.getElem?_set_self (rdL_lt h)]
theorem rdL_ne {st : Store} {n m : Nat} {xs : List D} {c : C} (h : rdL st n xs) (ne : n ≠ m) : rdL (st.set m c) n xs := by unfold rdL at *; rw [List.getElem?_set_ne (Ne.symm ne)]; exact h
theorem rdL_inj {st : Store} {n : Nat} {xs ys : List D} (h : rdL st n xs) (h' : rdL st n ys) : xs = ys := by
  unfold rdL at *
  rw [h] at h'
  cases h'; rfl
theorem Fra.rd {st st' : Store} (f : Fra st st') {n : Nat} {xs : List D} (h : rdL st n xs) (ne : n ≠ 2) : rdL st' n xs := by
  unfold rdL at *
  rw [f.at' n (rdL_lt h) ne]; exact h
theorem DrawAt.lt {st : Store} (h : DrawAt st) : 2 < st.length := by
  obtain ⟨_, _, _, _, _, h2, _⟩ := h
  exact rdL_lt h2
theorem DrawAt.app {st : Store} {c : C} (h : DrawAt st) : DrawAt (st ++ [c]) := by
  obtain ⟨ns, a, b, v, h1, h2, h3⟩ := h
  exact ⟨ns, a, b, v, rdL_app h1, rdL_app h2, h3⟩
theorem DrawAt.set {st : Store} {n : Nat} {c : C} (h : DrawAt st) (hn : 2 < n) : DrawAt (st.set n c) := by
  obtain ⟨ns, a, b, v, h1, h2, h3⟩ := h
  exact ⟨ns, a, b, v, rdL_ne h1 (by omega), rdL_ne h2 (by omega), h3⟩
theorem Fra.app {st st' : Store} {c : C} (f : Fra st st') : Fra st (st' ++ [c]) := ⟨f.dr.app, by simp; have := f.le; omega, fun n hn ne => by
  rw [List.getElem?_append_left (Nat.lt_of_lt_of_le hn f.le)]; exact f.at' n hn ne⟩
theorem Fra.set {st st' : Store} {n : Nat} {c : C} (f : Fra st st') (hn : st.length ≤ n) (h2 : 2 < n) : Fra st (st'.set n c) := ⟨f.dr.set h2, by simp; exact f.le, fun m hm ne => by
  rw [List.getElem?_set_ne (by omega)]; exact f.at' m hm ne⟩
def drawBody (c : Cl) : TS := sSeq (sIf (tTru (dCmp gtC (dOp ixK (dVar 0) (dC (.int 2))) (dC (.int 0)))) (sSeq (sAsg (dOp ixK (dVar 0) (dC (.int 2))) (gName 2)) (sSeq (sAsg (dOp fdivK (dVar 2) (dVar 1)) (gSub (dVar 0) (dC (.int 2)))) (sRet (dOp modK (dB intB (aCons (dVar 2) (aNil))) (dVar 1))))) (sNext)) (sSeq (sAsg (dC (.int 0)) (gName 3)) (sSeq (sIf (tTru (dCmp ltC (dOp ixK (dVar 0) (dC (.int 1))) (dB lenB (aCons (dOp ixK (dVar 0) (dC (.int 0))) (aNil))))) (sSeq (sAsg (dOp ixK (dOp ixK (dVar 0) (dC (.int 0))) (dOp ixK (dVar 0) (dC (.int 1)))) (gName 4)) (sAsg (dOp addK (dOp mulK (dC (.int 2)) (dB absB (aCons (dVar 4) (aNil)))) (dB intB (aCons (dCmp ltC (dVar 4) (dC (.int 0))) (aNil)))) (gName 3))) (sNext)) (sSeq (sAugL iaddK (dVar 0) (dC (.int 1)) (dC (.int 1))) (sSeq (sIf (tTru (dCmp geC (dVar 3) (dOp mulK (dC (.int 2)) (dOp powK (dC (.int 10)) (dC (.int 18)))))) (sSeq (sAsg (dOp modK (dB intB (aCons (dOp fdivK (dVar 3) (dC (.int 2))) (aNil))) (dOp shlK (dC (.int 1)) (dC (.int 6000)))) (gName 2)) (sSeq (sAsg (dOp fdivK (dVar 2) (dVar 1)) (gSub (dVar 0) (dC (.int 2)))) (sRet (dOp modK (dB intB (aCons (dVar 2) (aNil))) (dVar 1))))) (sNext)) (sSeq (sAsg (dOp modK (dB intB (aCons (dOp addK (dOp addK (dOp addK (dOp mulK (dOp ixK (dVar 0) (dC (.int 3))) (dC (.int 48271))) (dOp mulK (dOp modK (dB intB (aCons (dVar 3) (aNil))) (dC (.int 2147483629))) (dC (.int 16807)))) (dOp mulK (dOp ixK (dVar 0) (dC (.int 1))) (dC (.int 69621)))) (dC (.int 11))) (aNil))) (dC (.int 2147483647))) (gSub (dVar 0) (dC (.int 3)))) (sRet (dOp modK (dB intB (aCons (dOp fdivK (dOp ixK (dVar 0) (dC (.int 3))) (dC (.int 16))) (aNil))) (dVar 1))))))))
theorem ix_at {st : Store} {n : Nat} {xs : List D} {i : Int} {d : D} {Q : K} (h : rdL st n xs) (e : atD xs i = some d) (q : Q d st) : ixK (.ref n) (.int i) st Q := ⟨xs, d, .inl h, e, q⟩
theorem ixL_at {st : Store} {n : Nat} {xs : List D} {i : Int} {d : D} {Q : K} (h : rdL st n xs) (e : atD xs i = some d) (q : Q d st) : ixLK (.ref n) (.int i) st Q := ⟨xs, d, .inl h, e, q⟩
theorem set_at {st : Store} {n : Nat} {xs : List D} {i : Int} {v d : D} {Q : Store → Prop} (h : rdL st n xs) (e : atD xs i = some d) (h0 : 0 ≤ i) (q : Q (st.set n (.lst (xs.set i.toNat v)))) : setK (.ref n) (.int i) v st Q := ⟨xs, h, ⟨d, e⟩, h0, q⟩
theorem len_at {st : Store} {n : Nat} {xs : List D} {Q : K} (h : rdL st n xs) (q : Q (.int xs.length) st) : lenB [.ref n] st Q := ⟨xs, .inl h, q⟩
theorem atD_map {ns : List Int} {i : Int} (h0 : 0 ≤ i) (h1 : i < ns.length) : ∃ n, n ∈ ns ∧ atD (ns.map D.int) i = some (.int n) := by
  refine ⟨ns[i.toNat]'(by omega), List.getElem_mem _, ?_⟩
  unfold atD
  rw [if_pos h0, List.getElem?_map, List.getElem?_eq_getElem (by omega)]
  rfl
theorem draw_ok {prog : String → Option Def} (hp : prog "_law_draw" = some ⟨2, 5, drawBody⟩) {k : Nat} {st : Store} {many : Int} {Q : K} (h : DrawAt st) (h0 : 0 < many) (h1 : many < 1073741824)
    (hQ : ∀ r st', 0 ≤ r → r < many → Fra st st' → st'.length = st.length → Q (.int r) st') : callN prog (k + 1) "_law_draw" [.ref 2, .int many] st Q := by
  obtain ⟨ns, a, b, v, d1, d2, ha, hb, hv, hn⟩ := h
  have l2 := rdL_lt d2
  -- the end of each way: a drawer behind it
  have fin : ∀ {a b v : Int} {xs : List D} {r : Int}, xs = [.ref 1, .int a, .int b, .int v, .int 2] → 0 ≤ a → 0 ≤ b → 0 ≤ v → Q (.int (r % many)) (st.set 2 (.lst xs)) := fun {a b v xs r} e ha hb hv => by
    subst e
    refine hQ _ _ (Int.emod_nonneg _ (by omega)) (Int.emod_lt_of_pos _ h0) ⟨⟨ns, a, b, v, rdL_ne d1 (by decide), rdL_set d2, ha, hb, hv, hn⟩, by simp, fun n _ ne => by rw [List.getElem?_set_ne (Ne.symm ne)]⟩ (by simp)
  have set2 : ∀ {xs ys : List D}, (st.set 2 (.lst xs)).set 2 (.lst ys) = st.set 2 (.lst ys) := fun {xs ys} => by rw [List.set_set]
  refine call_intro hp rfl ?_
  unfold drawBody
  walk_at "r"
  refine ix_at d2 rfl ?_
  walk_at "r"
  refine way (fun e => ?_) (fun e => ?_)
  · have e : 0 < b := by simpa using e
    walk_at "r"
    refine ix_at d2 rfl ?_
    walk_at "r"
    refine ⟨⟨h0, h1⟩, ?_⟩
    walk_at "r"
    refine set_at d2 rfl (by decide) ?_
    walk_at "r"
    refine ⟨h0, ?_⟩
    exact fin (a := a) (b := b / many) (v := v) rfl ha (Int.ediv_nonneg hb (by omega)) hv
  · walk_at "s"
    refine Nxt.mk ?_
    walk_at "s"
    refine Nxt.mk ?_
    refine seq_cut (fun σ st' => ∃ sz y4, 0 ≤ sz ∧ σ = [some (.ref 2), some (.int many), none, some (.int sz), y4] ∧ st' = st) (fun N hN => ?_) (fun σ st' hJ => ?_)
    · walk_at "r"
      refine ix_at d2 rfl ?_
      walk_at "r"
      refine ix_at d2 rfl ?_
      walk_at "r"
      refine len_at d1 ?_
      walk_at "r"
      refine way (fun e => ?_) (fun e => ?_)
      · have e : a < (ns.length : Int) := by simpa using e
        walk_at "r"
        refine ix_at d2 rfl ?_
        walk_at "r"
        refine ix_at d2 rfl ?_
        obtain ⟨n, _, hat⟩ := atD_map ha e
        refine ix_at d1 hat ?_
        walk_at "r"
        refine ⟨.inl (by decide), ?_⟩
        walk_at "r"
        refine hN _ _ ⟨_, _, ?_, rfl, rfl⟩
        have hb2 : 0 ≤ b2i (decide (n < 0)) := by unfold b2i; split <;> decide
        split <;> omega
      · walk_at "r"
        exact hN _ _ ⟨0, _, by decide, rfl, rfl⟩
    · obtain ⟨sz, y4, hsz, rfl, e0⟩ := hJ
      rw [e0]
      walk_at "r"
      refine ixL_at d2 rfl ?_
      walk_at "r"
      refine set_at d2 rfl (by decide) ?_
      walk_at "r"
      have d3 : rdL (st.set 2 (.lst [.ref 1, .int (a + 1), .int b, .int v, .int 2])) 2 [.ref 1, .int (a + 1), .int b, .int v, .int 2] := rdL_set d2
      refine ⟨by unfold cPow; decide, ?_⟩
      walk_at "r"
      refine ⟨.inl (by decide), ?_⟩
      walk_at "r"
      refine way (fun _ => ?_) (fun _ => ?_)
      · walk_at "r"
        refine ⟨by decide, ?_⟩
        walk_at "r"
        refine ⟨by unfold cPow; decide, ?_⟩
        walk_at "r"
        have hp6 : (0 : Int) < 1 * 2 ^ (6000 : Int).toNat := by rw [Int.one_mul]; exact Int.pow_pos (by decide)
        refine ⟨hp6, ?_⟩
        walk_at "r"
        refine ⟨⟨h0, h1⟩, ?_⟩
        walk_at "r"
        refine set_at d3 rfl (by decide) ?_
        walk_at "r"
        refine ⟨h0, ?_⟩
        show Q _ ((st.set 2 _).set 2 _)
        rw [set2]
        exact fin (a := a + 1) (b := sz / 2 % (1 * 2 ^ (6000 : Int).toNat) / many) (v := v) rfl (by omega) (Int.ediv_nonneg (Int.emod_nonneg _ (by omega)) (by omega)) hv
      · walk_at "r"
        refine ix_at d3 rfl ?_
        walk_at "r"
        refine ⟨.inr (by decide), ?_⟩
        walk_at "r"
        refine ⟨by decide, ?_⟩
        walk_at "r"
        refine ⟨.inr (by decide), ?_⟩
        walk_at "r"
        refine ix_at d3 rfl ?_
        walk_at "r"
        refine ⟨.inr (by decide), ?_⟩
        walk_at "r"
        refine ⟨by decide, ?_⟩
        walk_at "r"
        refine set_at d3 rfl (by decide) ?_
        walk_at "r"
        refine ix_at (rdL_set d3) rfl ?_
        walk_at "r"
        refine ⟨by decide, ?_⟩
        walk_at "r"
        refine ⟨h0, ?_⟩
        rw [set2]
        exact fin (a := a + 1) (b := b) (v := (v * 48271 + sz % 2147483629 * 16807 + (a + 1) * 69621 + 11) % 2147483647) rfl (by omega) hb (Int.emod_nonneg _ (by omega))
end Pd
end PartPdDraw

section PartPdLib
set_option Elab.async false
set_option linter.all false
set_option maxRecDepth 100000
/-! Pd: what the laws share: list cells, draws in comprehensions, masks. Own work. -/
namespace Pd
open PySem
local macro_rules | `(tactic| walk_at "s") => `(tactic| (repeat (refine Red.red ?_)))
local macro_rules | `(tactic| walk_at "r") => `(tactic| (repeat (first | refine Red.red ?_ | refine Nxt.mk ?_)))
/-! ### list cells -/
theorem list_at {st : Store} {n : Nat} {xs : List D} {Q : K} (h : rdL st n xs) (q : Q (.ref st.length) (st ++ [.lst xs])) : listB [.ref n] st Q := ⟨xs, .inl h, q⟩
theorem tuple_at {st : Store} {n : Nat} {xs : List D} {Q : K} (h : rdL st n xs) (q : Q (.tup xs) st) : tupleB [.ref n] st Q := ⟨xs, .inl h, q⟩
theorem sum_at {st : Store} {n : Nat} {ns : List Int} {Q : K} (h : rdL st n (ns.map D.int)) (q : Q (.int ns.sum) st) : sumB [.ref n] st Q := ⟨ns, .inl h, q⟩
theorem it_at {st : Store} {n : Nat} {xs : List D} {R : Iter → Store → Prop} (h : rdL st n xs) (q : R ⟨xs, fun s => rdA s n xs⟩ st) : itK (.ref n) st R := ⟨xs, .inl h, q⟩
theorem append_at {st : Store} {n : Nat} {xs : List D} {x : D} {Q : K} (h : rdL st n xs) (hl : xs.length < szl) (q : Q .non (st.set n (.lst (xs ++ [x])))) : appendM (.ref n) [x] st Q := ⟨xs, h, hl, q⟩
theorem extend_at {st : Store} {n m : Nat} {xs ys : List D} {Q : K} (h : rdL st n xs) (h' : rdL st m ys) (ne : n ≠ m) (hl : xs.length + ys.length ≤ szl) (q : Q .non (st.set n (.lst (xs ++ ys)))) : extendM (.ref n) [.ref m] st Q := ⟨xs, ys, h, h', ne, hl, q⟩
theorem ty_at {st : Store} {n : Nat} {xs : List D} (h : rdL st n xs) : tyLst (.ref n) st := ⟨xs, h⟩
theorem sl_at {st : Store} {n : Nat} {xs : List D} {lo hi : Option Int} {Q : K} (h : rdL st n xs) (q : Q (.ref st.length) (st ++ [.lst (cutD xs lo hi)])) : slK (.ref n) lo hi st Q := ⟨xs, .inl h, q⟩
theorem add_at {st : Store} {n m : Nat} {xs ys : List D} {Q : K} (h : rdL st n xs) (h' : rdL st m ys) (hl : xs.length + ys.length ≤ szl) (q : Q (.ref st.length) (st ++ [.lst (xs ++ ys)])) : addK (.ref n) (.ref m) st Q := ⟨xs, ys, h, h', hl, q⟩
theorem rep_at {st : Store} {n : Nat} {xs : List D} {k : Int} {Q : K} (h : rdL st n xs) (h0 : 0 ≤ k) (h1 : k < 1000000) (hl : xs.length ≤ 1) (q : Q (.ref st.length) (st ++ [.lst (List.replicate k.toNat xs).flatten])) : mulK (.ref n) (.int k) st Q :=
  ⟨xs, h, by omega, by omega, by
    have : xs.length * k.toNat ≤ 1 * k.toNat := Nat.mul_le_mul_right _ hl
    unfold szl; omega, q⟩
theorem flat_one (x : D) (n : Nat) : (List.replicate n [x]).flatten = List.replicate n x := by
  induction n with
  | zero => rfl
  | succ n ih => rw [List.replicate_succ, List.flatten_cons, ih, List.replicate_succ]; rfl
theorem atD_nat {α : Type} {xs : List α} {i : Int} {x : α} (h0 : 0 ≤ i) (h : xs[i.toNat]? = some x) : atD xs i = some x := by unfold atD; rw [if_pos h0]; exact h
theorem atD_of {α : Type} {xs : List α} {i : Int} (h0 : 0 ≤ i) (h1 : i < xs.length) : ∃ x, x ∈ xs ∧ xs[i.toNat]? = some x ∧ atD xs i = some x :=
  ⟨xs[i.toNat]'(by omega), List.getElem_mem _, List.getElem?_eq_getElem (by omega), atD_nat h0 (List.getElem?_eq_getElem (by omega))⟩
theorem atD_mapI {α : Type} {f : α → D} {xs : List α} {i : Int} (h0 : 0 ≤ i) (h1 : i < xs.length) : ∃ x, x ∈ xs ∧ xs[i.toNat]? = some x ∧ atD (xs.map f) i = some (f x) := by
  obtain ⟨x, h2, h3, h4⟩ := atD_of h0 h1
  exact ⟨x, h2, h3, atD_nat h0 (by rw [List.getElem?_map, h3]; rfl)⟩
theorem cut_take {α : Type} (xs : List α) {i : Int} (h : 0 ≤ i) : cutD xs none (some i) = xs.take i.toNat := by
  unfold cutD cl
  simp only [Option.map_none, Option.getD_none, Option.map_some, Option.getD_some, List.drop_zero, Nat.sub_zero]
  rw [if_neg (by omega)]
  by_cases h2 : i.toNat ≤ xs.length
  · rw [Nat.min_eq_left h2]
  · rw [Nat.min_eq_right (by omega), List.take_of_length_le (Nat.le_refl _), List.take_of_length_le (by omega)]
theorem cut_drop {α : Type} (xs : List α) {i : Int} (h : 0 ≤ i) : cutD xs (some i) none = xs.drop i.toNat := by
  unfold cutD cl
  simp only [Option.map_none, Option.getD_none, Option.map_some, Option.getD_some]
  rw [if_neg (by omega)]
  by_cases h2 : i.toNat ≤ xs.length
  · rw [Nat.min_eq_left h2, List.take_of_length_le (by simp)]
  · rw [Nat.min_eq_right (by omega), List.drop_of_length_le (Nat.le_refl _), List.drop_of_length_le (by omega)]
    simp
theorem cut_last {α : Type} (xs : List α) : cutD xs none (some (-1)) = xs.dropLast := by
  unfold cutD cl
  simp only [Option.map_none, Option.getD_none, Option.map_some, Option.getD_some, List.drop_zero, Nat.sub_zero]
  rw [if_pos (by decide), List.dropLast_eq_take]
  congr 1
  omega
/-- cells are added, all others as they were -/
def Grw (st st' : Store) : Prop := ∃ m, st' = st ++ m
theorem Grw.refl (st : Store) : Grw st st := ⟨[], by simp⟩
theorem Grw.app {st st' : Store} {c : C} (h : Grw st st') : Grw st (st' ++ [c]) := by
  obtain ⟨m, rfl⟩ := h
  exact ⟨m ++ [c], by simp⟩
theorem Grw.trans {a b c : Store} (h : Grw a b) (h' : Grw b c) : Grw a c := by
  obtain ⟨m, rfl⟩ := h
  obtain ⟨m', rfl⟩ := h'
  exact ⟨m ++ m', by simp⟩
theorem Grw.rd {st st' : Store} (f : Grw st st') {n : Nat} {xs : List D} (h : rdL st n xs) : rdL st' n xs := by
  obtain ⟨m, rfl⟩ := f
  unfold rdL at *
  rw [List.getElem?_append_left (rdL_lt h)]; exact h
theorem Grw.fra {st st' : Store} (f : Grw st st') (h : DrawAt st) : Fra st st' := by
  obtain ⟨m, rfl⟩ := f
  refine ⟨?_, by simp, fun n hn _ => List.getElem?_append_left hn⟩
  obtain ⟨ns, a, b, v, h1, h2, h3⟩ := h
  exact ⟨ns, a, b, v, Grw.rd ⟨m, rfl⟩ h1, Grw.rd ⟨m, rfl⟩ h2, h3⟩
theorem Grw.le {st st' : Store} (f : Grw st st') : st.length ≤ st'.length := by
  obtain ⟨m, rfl⟩ := f
  simp
theorem Fra.set' {st st' : Store} {n : Nat} {c : C} (f : Fra st st') (hn : st.length ≤ n) (h2 : 2 < st.length) : Fra st (st'.set n c) := f.set hn (by omega)
/-! ### the drawer is made -/
def beginBody (c : Cl) : TS := sRet (dLst (aCons (dLc (iSeq (dVar 0)) (gName 1) (tYes) (dB intB (aCons (dVar 1) (aNil))) [1]) (aCons (dC (.int 0)) (aCons (dC (.int 0)) (aCons (dC (.int 7)) (aCons (dC (.int 2)) (aNil)))))))
theorem begin_ok {prog : String → Option Def} (hp : prog "_law_begin" = some ⟨1, 2, beginBody⟩) {k : Nat} {ns : List Int} {Q : K} (hn : ns.length ≤ 63)
    (hQ : ∀ st', DrawAt st' → st'.length = 3 → Q (.ref 2) st') : callN prog (k + 1) "_law_begin" [.ref 0] [.frz (ns.map D.int)] Q := by
  refine call_intro hp rfl ?_
  unfold beginBody
  walk_at "r"
  have hfz : ∀ acc : List D, rdA ([.frz (ns.map D.int)] ++ [.lst acc]) 0 (ns.map D.int) := fun acc => .inr rfl
  refine ⟨ns.map D.int, .inr rfl, ?_⟩
  refine lc_map ns D.int D.int rfl (by unfold szl; omega) hfz (fun x hx acc N hN => ?_) ?_
  · walk_at "r"
    exact hN
  · walk_at "r"
    refine ⟨by show 5 ≤ szl; decide, ?_⟩
    exact hQ _ ⟨ns, 0, 0, 7, rfl, rfl, by decide, by decide, by decide, hn⟩ rfl
/-! ### comprehensions of draws -/
theorem lc_ints {gd : Store → Prop} {g : TG} {te : TE} {ρ : Env} {st : Store} {Q : K} {items : List D} (P : Int → Prop) (hd : DrawAt st) (hl : items.length ≤ szl) (hg : ∀ st', Fra st st' → gd st')
    (hs : ∀ x ∈ items, ∀ st', Fra st st' → ∀ N : D → Store → Prop, (∀ r st2, P r → Fra st' st2 → N (.int r) st2) → g x ρ st' fun ρ2 st2 => te ρ2 st2 N)
    (hQ : ∀ (rs : List Int) st', rs.length = items.length → (∀ r ∈ rs, P r) → Fra st st' → rdL st' st.length (rs.map D.int) → Q (.ref st.length) st') : lcLoop gd g tYes te ρ st.length Q items [] (st ++ [.lst []]) := by
  have h2 := hd.lt
  refine lc_by (fun pre acc st' => ∃ rs : List Int, acc = rs.map D.int ∧ rs.length = pre.length ∧ (∀ r ∈ rs, P r) ∧ Fra st st' ∧ rdL st' st.length acc) ⟨[], rfl, rfl, by simp, (Fra.refl hd).app, rdL_new⟩ (fun pre x post acc st' e ⟨rs, h1, h3, h4, h5, h6⟩ N M hN hM => ?_) (fun acc st' ⟨rs, h1, h3, h4, h5, h6⟩ => ?_)
  · subst h1
    refine ⟨hg _ h5, ?_⟩
    have e1 : (fun (ρ2 : Env) (st2 : Store) => tYes ρ2 st2 fun b st3 => (b = true → te ρ2 st3 N) ∧ (b = false → M st3)) = fun ρ2 st2 => te ρ2 st2 N := by
      funext ρ2 st2
      exact propext ⟨fun q => q.1 rfl, fun q => ⟨fun _ => q, fun e => nomatch e⟩⟩
    rw [e1]
    have hlen := congrArg List.length e
    simp at hlen
    refine hs x (by rw [e]; simp) st' h5 N fun r st2 hr f => ?_
    have h7 := f.rd h6 (by omega)
    refine hN _ _ h7 (by simp; omega) ⟨rs ++ [r], by simp, by simp [h3], ?_, (h5.trans f).set (Nat.le_refl _) (by omega), rdL_set h7⟩
    intro y hy
    rcases List.mem_append.mp hy with hy | hy
    · exact h4 y hy
    · simp at hy; subst hy; exact hr
  · subst h1
    exact ⟨hg _ h5, h6, hQ rs st' h3 h4 h5 h6⟩
/-- two lists, place by place -/
inductive Two {α β : Type} (P : α → β → Prop) : List α → List β → Prop
  | nil : Two P [] []
  | cons {a : α} {b : β} {as : List α} {bs : List β} : P a b → Two P as bs → Two P (a :: as) (b :: bs)
theorem Two.snoc {α β : Type} {P : α → β → Prop} : ∀ {as : List α} {bs : List β} {a : α} {b : β}, Two P as bs → P a b → Two P (as ++ [a]) (bs ++ [b])
  | _, _, _, _, .nil, h => .cons h .nil
  | _, _, _, _, .cons h t, h' => .cons h (Two.snoc t h')
theorem Two.length {α β : Type} {P : α → β → Prop} : ∀ {as : List α} {bs : List β}, Two P as bs → as.length = bs.length
  | _, _, .nil => rfl
  | _, _, .cons _ t => by simp [Two.length t]
theorem Two.imp {α β : Type} {P P' : α → β → Prop} (f : ∀ a b, P a b → P' a b) : ∀ {as : List α} {bs : List β}, Two P as bs → Two P' as bs
  | _, _, .nil => .nil
  | _, _, .cons h t => .cons (f _ _ h) (Two.imp f t)
theorem lc_vals {gd : Store → Prop} {g : TG} {te : TE} {ρ : Env} {st : Store} {Q : K} {items : List D} (P : D → D → Prop) (hd : DrawAt st) (hl : items.length ≤ szl) (hg : ∀ st', Fra st st' → gd st')
    (hs : ∀ x ∈ items, ∀ st', Fra st st' → ∀ N : D → Store → Prop, (∀ y st2, P x y → Fra st' st2 → N y st2) → g x ρ st' fun ρ2 st2 => te ρ2 st2 N)
    (hQ : ∀ (ys : List D) st', Two P items ys → Fra st st' → rdL st' st.length ys → Q (.ref st.length) st') : lcLoop gd g tYes te ρ st.length Q items [] (st ++ [.lst []]) := by
  have h2 := hd.lt
  refine lc_by (fun pre acc st' => Two P pre acc ∧ Fra st st' ∧ rdL st' st.length acc) ⟨.nil, (Fra.refl hd).app, rdL_new⟩ (fun pre x post acc st' e ⟨h1, h5, h6⟩ N M hN hM => ?_) (fun acc st' ⟨h1, h5, h6⟩ => ?_)
  · refine ⟨hg _ h5, ?_⟩
    have e1 : (fun (ρ2 : Env) (st2 : Store) => tYes ρ2 st2 fun b st3 => (b = true → te ρ2 st3 N) ∧ (b = false → M st3)) = fun ρ2 st2 => te ρ2 st2 N := by
      funext ρ2 st2
      exact propext ⟨fun q => q.1 rfl, fun q => ⟨fun _ => q, fun e => nomatch e⟩⟩
    rw [e1]
    have hlen := congrArg List.length e
    simp at hlen
    refine hs x (by rw [e]; simp) st' h5 N fun y st2 hr f => ?_
    have h7 := f.rd h6 (by omega)
    exact hN _ _ h7 (by have := h1.length; omega) ⟨h1.snoc hr, (h5.trans f).set (Nat.le_refl _) (by omega), rdL_set h7⟩
  · exact ⟨hg _ h5, h6, hQ acc st' h1 h5 h6⟩
theorem not_any {α : Type} {p q : α → Bool} : ∀ {l : List α}, (∀ x ∈ l, p x = !q x) → (!l.any p) = l.all q
  | [], _ => rfl
  | x :: l, h => by
    rw [List.any_cons, List.all_cons, Bool.not_or, not_any (l := l) fun y hy => h y (List.mem_cons_of_mem _ hy), h x List.mem_cons_self, Bool.not_not]
/-- a filtered comprehension whose test and element read alone -/
theorem lc_filter {α : Type} {gd : Store → Prop} {g : TG} {tt : TT} {te : TE} {ρ : Env} {st : Store} {Q : K} (xs : List α) (f h : α → D) (p : α → Bool) {items : List D} (hi : items = xs.map f) (hl : xs.length ≤ szl) (hg : ∀ acc, gd (st ++ [.lst acc]))
    (hs : ∀ x, x ∈ xs → ∀ (acc : List D) (N : D → Store → Prop) (M : Store → Prop), (p x = true → N (h x) (st ++ [.lst acc])) → (p x = false → M (st ++ [.lst acc])) → g (f x) ρ (st ++ [.lst acc]) fun ρ2 st2 => tt ρ2 st2 fun b st3 => (b = true → te ρ2 st3 N) ∧ (b = false → M st3))
    (hd : Q (.ref st.length) (st ++ [.lst ((xs.filter p).map h)])) : lcLoop gd g tt te ρ st.length Q items [] (st ++ [.lst []]) := by
  subst hi
  refine lc_by (fun pre acc st' => acc = ((xs.take pre.length).filter p).map h ∧ st' = st ++ [.lst acc]) ⟨rfl, rfl⟩ (fun pre x post acc st' e ⟨h1, h2⟩ N M hN hM => ?_) (fun acc st' ⟨h1, h2⟩ => ?_)
  · subst h1; subst h2
    refine ⟨hg _, ?_⟩
    have hlen : pre.length < xs.length := by
      have := congrArg List.length e
      simp at this; omega
    have hx : xs[pre.length] ∈ xs := List.getElem_mem hlen
    have hfx : x = f xs[pre.length] := by
      have h2 : (xs.map f)[pre.length]? = some x := by rw [e]; simp
      rw [List.getElem?_map, List.getElem?_eq_getElem hlen] at h2
      simpa using h2.symm
    subst hfx
    have take1 : List.take (pre ++ [f xs[pre.length]]).length xs = List.take pre.length xs ++ [xs[pre.length]] := by
      rw [List.length_append]
      show List.take (pre.length + 1) xs = _
      rw [List.take_add_one, List.getElem?_eq_getElem hlen]
      rfl
    have hsz : (List.map h (List.filter p (List.take pre.length xs))).length < szl := by
      rw [List.length_map]
      have h3 := List.length_filter_le p (List.take pre.length xs)
      rw [List.length_take] at h3
      omega
    refine hs _ hx _ N M (fun hp => hN _ _ (by unfold rdL; simp) hsz ⟨?_, by rw [set_app]⟩) fun hp => hM _ (by unfold rdL; simp) ⟨?_, rfl⟩
    · rw [take1, List.filter_append, List.map_append]
      simp [hp]
    · rw [take1, List.filter_append, List.map_append]
      simp [hp]
  · subst h1; subst h2
    have e2 : List.take (List.map f xs).length xs = xs := by simp
    rw [e2] at *
    exact ⟨hg _, by unfold rdL; simp, hd⟩
/-- a comprehension with a test, of ints -/
theorem lc_some {gd : Store → Prop} {g : TG} {tt : TT} {te : TE} {ρ : Env} {st : Store} {Q : K} {items : List D} (P : Int → Prop) (hd : DrawAt st) (hl : items.length ≤ szl) (hg : ∀ st', Fra st st' → gd st')
    (hs : ∀ x ∈ items, ∀ st', Fra st st' → ∀ (N : D → Store → Prop) (M : Store → Prop), (∀ r st2, P r → Fra st' st2 → N (.int r) st2) → (∀ st2, Fra st' st2 → M st2) → g x ρ st' fun ρ2 st2 => tt ρ2 st2 fun b st3 => (b = true → te ρ2 st3 N) ∧ (b = false → M st3))
    (hQ : ∀ (rs : List Int) st', rs.length ≤ items.length → (∀ r ∈ rs, P r) → Fra st st' → rdL st' st.length (rs.map D.int) → Q (.ref st.length) st') : lcLoop gd g tt te ρ st.length Q items [] (st ++ [.lst []]) := by
  have h2 := hd.lt
  refine lc_by (fun pre acc st' => ∃ rs : List Int, acc = rs.map D.int ∧ rs.length ≤ pre.length ∧ (∀ r ∈ rs, P r) ∧ Fra st st' ∧ rdL st' st.length acc) ⟨[], rfl, Nat.le_refl _, by simp, (Fra.refl hd).app, rdL_new⟩ (fun pre x post acc st' e ⟨rs, h1, h3, h4, h5, h6⟩ N M hN hM => ?_) (fun acc st' ⟨rs, h1, h3, h4, h5, h6⟩ => ?_)
  · subst h1
    refine ⟨hg _ h5, ?_⟩
    have hlen := congrArg List.length e
    simp at hlen
    refine hs x (by rw [e]; simp) st' h5 N M (fun r st2 hr f => ?_) fun st2 f => hM _ (f.rd h6 (by omega)) ⟨rs, rfl, by simp; omega, h4, h5.trans f, f.rd h6 (by omega)⟩
    have h7 := f.rd h6 (by omega)
    refine hN _ _ h7 (by simp; omega) ⟨rs ++ [r], by simp, by simp [h3], ?_, (h5.trans f).set (Nat.le_refl _) (by omega), rdL_set h7⟩
    intro y hy
    rcases List.mem_append.mp hy with hy | hy
    · exact h4 y hy
    · simp at hy; subst hy; exact hr
  · subst h1
    exact ⟨hg _ h5, h6, hQ rs st' h3 h4 h5 h6⟩
/-- a comprehension of new lists -/
theorem lc_cells {gd : Store → Prop} {g : TG} {te : TE} {ρ : Env} {st : Store} {Q : K} {items : List D} (P : List D → Prop) (hd : DrawAt st) (hl : items.length ≤ szl) (hg : ∀ st', Fra st st' → gd st')
    (hs : ∀ x ∈ items, ∀ st', Fra st st' → ∀ N : D → Store → Prop, (∀ r xs st2, st'.length ≤ r → rdL st2 r xs → P xs → Fra st' st2 → N (.ref r) st2) → g x ρ st' fun ρ2 st2 => te ρ2 st2 N)
    (hQ : ∀ (rs : List Nat) st', rs.length = items.length → (∀ r ∈ rs, st.length < r ∧ ∃ xs, rdL st' r xs ∧ P xs) → Fra st st' → rdL st' st.length (rs.map D.ref) → Q (.ref st.length) st') : lcLoop gd g tYes te ρ st.length Q items [] (st ++ [.lst []]) := by
  have h2 := hd.lt
  refine lc_by (fun pre acc st' => ∃ rs : List Nat, acc = rs.map D.ref ∧ rs.length = pre.length ∧ (∀ r ∈ rs, st.length < r ∧ ∃ xs, rdL st' r xs ∧ P xs) ∧ Fra st st' ∧ rdL st' st.length acc) ⟨[], rfl, rfl, by simp, (Fra.refl hd).app, rdL_new⟩ (fun pre x post acc st' e ⟨rs, h1, h3, h4, h5, h6⟩ N M hN hM => ?_) (fun acc st' ⟨rs, h1, h3, h4, h5, h6⟩ => ?_)
  · subst h1
    refine ⟨hg _ h5, ?_⟩
    have e1 : (fun (ρ2 : Env) (st2 : Store) => tYes ρ2 st2 fun b st3 => (b = true → te ρ2 st3 N) ∧ (b = false → M st3)) = fun ρ2 st2 => te ρ2 st2 N := by
      funext ρ2 st2
      exact propext ⟨fun q => q.1 rfl, fun q => ⟨fun _ => q, fun e => nomatch e⟩⟩
    rw [e1]
    have hlen := congrArg List.length e
    simp at hlen
    refine hs x (by rw [e]; simp) st' h5 N fun r xs st2 hb hr hp f => ?_
    have h7 := f.rd h6 (by omega)
    have h8 := rdL_lt h6
    refine hN _ _ h7 (by simp; omega) ⟨rs ++ [r], by simp, by simp [h3], ?_, (h5.trans f).set (Nat.le_refl _) (by omega), rdL_set h7⟩
    intro y hy
    rcases List.mem_append.mp hy with hy | hy
    · obtain ⟨q1, ys, q2, q3⟩ := h4 y hy
      exact ⟨q1, ys, rdL_ne (f.rd q2 (by omega)) (by omega), q3⟩
    · simp at hy; subst hy
      exact ⟨by omega, xs, rdL_ne hr (by omega), hp⟩
  · subst h1
    exact ⟨hg _ h5, h6, hQ rs st' h3 h4 h5 h6⟩
theorem Two.mem {α β : Type} {P : α → β → Prop} {S : List α} : ∀ {as : List α} {bs : List β}, (∀ a ∈ as, a ∈ S) → Two (fun a b => a ∈ S → P a b) as bs → Two P as bs
  | _, _, _, .nil => .nil
  | _, _, hS, .cons h t => .cons (h (hS _ List.mem_cons_self)) (Two.mem (fun a ha => hS a (List.mem_cons_of_mem _ ha)) t)
theorem Two.on {α β : Type} {P : α → β → Prop} {as : List α} {bs : List β} (h : Two (fun a b => a ∈ as → P a b) as bs) : Two P as bs := Two.mem (fun _ h => h) h
theorem Two.split {α β γ : Type} {P : α → β → Prop} {R : γ → Prop} {f : γ → β} (h : ∀ a b, P a b → ∃ c, b = f c ∧ R c) : ∀ {as : List α} {bs : List β}, Two P as bs → ∃ cs : List γ, bs = cs.map f ∧ cs.length = as.length ∧ ∀ c ∈ cs, R c
  | _, _, .nil => ⟨[], rfl, rfl, by simp⟩
  | _, _, .cons p t => by
    obtain ⟨c, h1, h2⟩ := h _ _ p
    obtain ⟨cs, h3, h4, h5⟩ := Two.split h t
    refine ⟨c :: cs, by rw [h1, h3]; rfl, by simp [h4], ?_⟩
    intro x hx
    rcases List.mem_cons.mp hx with hx | hx
    · rw [hx]; exact h2
    · exact h5 x hx
/-! ### masks -/
theorem pow2_pos (n : Nat) : (0 : Int) < 2 ^ n := Int.pow_pos (by decide)
theorem pw_bd {w : Int} (h0 : 0 ≤ w) (h1 : w ≤ 8) : 0 < (2 : Int) ^ w.toNat ∧ (2 : Int) ^ w.toNat ≤ 256 := by
  have h2 : w.toNat ≤ 8 := by omega
  have h := pow2_pos w.toNat
  have h3 := Nat.pow_le_pow_right (n := 2) (by decide) h2
  have e : ((2 : Int) ^ w.toNat) = ((2 ^ w.toNat : Nat) : Int) := by simp
  constructor
  · exact h
  · rw [e]; omega
theorem and_le {x m : Int} (hm : 0 ≤ m) : 0 ≤ Builtin.bitAnd x m ∧ Builtin.bitAnd x m ≤ m := by
  unfold Builtin.bitAnd
  by_cases hx : 0 ≤ x
  · simp only [hx, hm, decide_true]
    have := Nat.and_le_right (n := x.toNat) (m := m.toNat)
    omega
  · simp only [hx, hm, decide_true, decide_false]
    have := Nat.and_le_left (n := m.toNat) (m := (Builtin.bitNot x).toNat)
    omega
theorem and_mask {x : Int} {n : Nat} (hx : 0 ≤ x) : Builtin.bitAnd x (2 ^ n - 1) = x % 2 ^ n := by
  have hm : (0 : Int) ≤ 2 ^ n - 1 := by have := pow2_pos n; omega
  unfold Builtin.bitAnd
  simp only [hx, hm, decide_true]
  have e1 : (2 ^ n - 1 : Int).toNat = 2 ^ n - 1 := by
    have : (2 ^ n : Int) = ((2 ^ n : Nat) : Int) := by simp
    rw [this]
    have := Nat.two_pow_pos n
    omega
  rw [e1, Nat.and_two_pow_sub_one_eq_mod]
  have : (2 ^ n : Int) = ((2 ^ n : Nat) : Int) := by simp
  rw [this, Int.natCast_emod, Int.toNat_of_nonneg hx]
theorem or_one {x : Int} (hx : 0 ≤ x) : Builtin.bitOr x 1 = x + 1 - x % 2 := by
  unfold Builtin.bitOr Builtin.bitNot Builtin.bitAnd
  have h1 : ¬ (0 ≤ -x - 1) := by omega
  have h2 : ¬ ((0 : Int) ≤ -1 - 1) := by omega
  simp only [h1, h2, decide_false]
  unfold Builtin.bitNot
  have e1 : (-(-x - 1) - 1).toNat = x.toNat := by omega
  have e2 : (-(-1 - 1 : Int) - 1).toNat = 1 := by decide
  rw [e1, e2]
  have h3 : x.toNat ||| 1 = x.toNat + 1 - x.toNat % 2 := by
    have h4 := Nat.div_add_mod x.toNat 2
    have h6 : 2 * (x.toNat / 2) ||| 1 = 2 * (x.toNat / 2) + 1 := (Nat.two_pow_add_eq_or_of_lt (i := 1) (by decide) (x.toNat / 2)).symm
    rcases Nat.mod_two_eq_zero_or_one x.toNat with h5 | h5
    · have : x.toNat = 2 * (x.toNat / 2) := by omega
      rw [h5]
      rw [← this] at h6
      omega
    · have : x.toNat = 2 * (x.toNat / 2) ||| 1 := by omega
      rw [h5]
      have h7 : x.toNat ||| 1 = x.toNat := by
        conv => lhs; rw [this]
        rw [Nat.or_assoc, Nat.or_self]
        exact this.symm
      omega
  rw [h3]
  omega
end Pd
end PartPdLib

section PartPdKit
set_option Elab.async false
set_option linter.all false
set_option maxRecDepth 100000
/-! Pd: small defs that several laws have. Own work. -/
namespace Pd
open PySem
local macro_rules | `(tactic| walk_at "s") => `(tactic| (repeat (refine Red.red ?_)))
local macro_rules | `(tactic| walk_at "r") => `(tactic| (repeat (first | refine Red.red ?_ | refine Nxt.mk ?_)))
instance {x : D} {xs : List D} {st : Store} {r : Bool → Prop} : Red (inC x (.tup xs) st r) (x.flat = true ∧ xs.all D.flat = true ∧ r (xs.any fun y => D.eqb y x)) := ⟨id⟩
instance {x : D} {xs : List D} {st : Store} {r : Bool → Prop} : Red (notinC x (.tup xs) st r) (x.flat = true ∧ xs.all D.flat = true ∧ r (!xs.any fun y => D.eqb y x)) := ⟨id⟩
/-- a, b = x, y -/
def ParK (i j : Nat) (xs : List D) (σ : Env) (q : Env → Prop) : Prop := ∃ x y, xs = [x, y] ∧ q ((σ.set i (some x)).set j (some y))
instance {i j : Nat} {Ar : TA} {D0 : Ends} {σ : Env} {st : Store} : Red (sPar i j Ar D0 σ st) (Ar σ st fun xs st1 => ParK i j xs σ fun σ' => D0.nx σ' st1) := ⟨id⟩
instance {i j : Nat} {σ σ' σ'' : Env} {x y : D} {q : Env → Prop} [h : SetE σ i (some x) σ'] [h' : SetE σ' j (some y) σ''] : Red (ParK i j [x, y] σ q) (q σ'') := ⟨fun z => ⟨x, y, rfl, by rw [h.eq, h'.eq]; exact z⟩⟩
instance {a b : Bool} {st : Store} {r : Bool → Prop} : Red (eqC (.bl a) (.bl b) st r) (r (a == b)) := ⟨fun h => ⟨rfl, rfl, h⟩⟩
instance {a b : Bool} {st : Store} {r : Bool → Prop} : Red (neC (.bl a) (.bl b) st r) (r (!(a == b))) := ⟨fun h => ⟨rfl, rfl, h⟩⟩
theorem at_is {xs : List D} {i : Int} {d : D} {P : D → Prop} (h : atD xs i = some d) (q : P d) : ∃ d, atD xs i = some d ∧ P d := ⟨d, h, q⟩
theorem zipD_maps {α β : Type} (f : α → D) (g : β → D) : ∀ (xs : List α) (ys : List β), zipD (xs.map f) (ys.map g) = (xs.zip ys).map fun p => D.tup [f p.1, g p.2]
  | [], ys => by cases ys <;> rfl
  | x :: xs, [] => rfl
  | x :: xs, y :: ys => by simp [zipD, zipD_maps f g xs ys]
mutual
theorem eqb_refl : ∀ (n : Nat) (d : D), D.okd n d = true → D.eqb d d = true
  | _, .non, _ => rfl
  | _, .bl b, _ => by simp [D.eqb]
  | _, .int i, _ => by simp [D.eqb]
  | _, .str x, _ => by simp [D.eqb]
  | 0, .tup _, h => by simp [D.okd] at h
  | n + 1, .tup xs, h => by
    have := eqbs_refl n xs (by simpa [D.okd] using h)
    simpa [D.eqb] using this
  | _, .ref _, h => by simp [D.okd] at h
theorem eqbs_refl : ∀ (n : Nat) (ds : List D), okds n ds = true → eqbs ds ds = true
  | _, [], _ => rfl
  | n, d :: ds, h => by
    have h' : D.okd n d = true ∧ okds n ds = true := by simpa [okds] using h
    have h1 := eqb_refl n d h'.1
    have h2 := eqbs_refl n ds h'.2
    simp [eqbs, h1, h2]
end
theorem okds_all (n : Nat) : ∀ ds : List D, okds n ds = ds.all (D.okd n)
  | [] => rfl
  | d :: ds => by simp [okds, okds_all n ds]
theorem ne_self {d : D} {st : Store} {r : Bool → Prop} (h : D.okd 60 d = true) (hr : ∀ n, d ≠ .ref n) (q : r false) : neC d d st r := by
  have e := eqb_refl 60 d h
  have key : eqC d d st fun b => r (!b) := by
    cases d with
    | ref n => exact absurd rfl (hr n)
    | non => exact ⟨h, h, by rw [e]; exact q⟩
    | bl b => exact ⟨h, h, by rw [e]; exact q⟩
    | int b => exact ⟨h, h, by rw [e]; exact q⟩
    | str b => exact ⟨h, h, by rw [e]; exact q⟩
    | tup b => exact ⟨h, h, by rw [e]; exact q⟩
  exact key
/-! dicts -/
theorem put_len (kvs : List (Ky × D)) (k : Ky) (v : D) : (putD kvs k v).length ≤ kvs.length + 1 := by
  unfold putD
  split <;> simp
theorem val_put (kvs : List (Ky × D)) (k j : Ky) (v : D) : valD (putD kvs k v) j = if j = k then some v else valD kvs j := by
  unfold putD
  split
  · rename_i h
    induction kvs with
    | nil => simp at h
    | cons p kvs ih =>
      obtain ⟨a, d⟩ := p
      by_cases e : a = k
      · subst e
        by_cases ej : j = a
        · subst ej; simp [valD]
        · have ej' : ¬ a = j := fun z => ej z.symm
          have rest : ∀ l : List (Ky × D), valD (l.map fun kv => if kv.1 = a then (kv.1, v) else kv) j = valD l j := by
            intro l
            induction l with
            | nil => rfl
            | cons q l ih2 =>
              obtain ⟨b, z⟩ := q
              by_cases eb : b = a
              · subst eb
                simp [valD, ej'] at ih2 ⊢
                exact ih2
              · by_cases ebj : b = j
                · subst ebj; simp [valD, eb]
                · simp [valD, eb, ebj] at ih2 ⊢
                  exact ih2
          rw [if_neg ej]
          exact rest _
      · have h' : (kvs.any fun kv => decide (kv.1 = k)) = true := by simpa [e] using h
        have ih' := ih h'
        by_cases ea : a = j
        · subst ea
          simp [valD, e]
        · simp [valD, e, ea] at ih' ⊢
          exact ih'
  · rename_i h
    have hno : ∀ p ∈ kvs, ¬ p.1 = k := fun p hp e => h (List.any_eq_true.mpr ⟨p, hp, by simp [e]⟩)
    clear h
    induction kvs with
    | nil =>
      by_cases e : j = k
      · subst e; simp [valD]
      · have : ¬ k = j := fun z => e z.symm
        simp [valD, e, this]
    | cons p kvs ih =>
      obtain ⟨a, d⟩ := p
      have hak : ¬ a = k := hno (a, d) List.mem_cons_self
      have ih' := ih fun q hq => hno q (List.mem_cons_of_mem _ hq)
      by_cases ea : a = j
      · subst ea
        rw [if_neg hak]
        simp [valD]
      · simp [valD, ea] at ih' ⊢
        exact ih'
theorem dc_pure {α : Type} {gd : Store → Prop} {g : TG} {tk tv : TE} {ρ : Env} {st : Store} {Q : K} (f : α → D) (kf : α → Ky) (vf : α → D) (hg : ∀ acc, gd (st ++ [.dic acc])) : ∀ (xs : List α) (acc : List (Ky × D)) {items : List D}, items = xs.map f → acc.length + xs.length ≤ szl →
    (∀ x, x ∈ xs → ∀ (acc : List (Ky × D)) (N : D → D → Store → Prop), N (keyD (kf x)) (vf x) (st ++ [.dic acc]) → g (f x) ρ (st ++ [.dic acc]) fun ρ2 st2 => tk ρ2 st2 fun y st4 => tv ρ2 st4 fun z st5 => N y z st5) →
    Q (.ref st.length) (st ++ [.dic (xs.foldl (fun acc x => putD acc (kf x) (vf x)) acc)]) → dcLoop gd g tYes tk tv ρ st.length Q items acc (st ++ [.dic acc])
  | [], acc, items, e, hl, hs, hd => by
    subst e
    exact ⟨hg _, by unfold rdD; simp, hd⟩
  | x :: xs, acc, items, e, hl, hs, hd => by
    subst e
    refine ⟨hg _, ?_⟩
    have e1 : ∀ (R : D → D → Store → Prop), (fun (ρ2 : Env) (st2 : Store) => tYes ρ2 st2 fun b st3 => (b = true → tk ρ2 st3 fun y st4 => tv ρ2 st4 fun z st5 => R y z st5) ∧ (b = false → rdD st3 st.length acc ∧ dcLoop gd g tYes tk tv ρ st.length Q (xs.map f) acc st3)) = fun ρ2 st2 => tk ρ2 st2 fun y st4 => tv ρ2 st4 fun z st5 => R y z st5 := fun R => by
      funext ρ2 st2
      exact propext ⟨fun q => q.1 rfl, fun q => ⟨fun _ => q, fun e => nomatch e⟩⟩
    rw [e1]
    simp only [List.length_cons] at hl
    refine hs x List.mem_cons_self acc _ ⟨kf x, rfl, by unfold rdD; simp, by omega, ?_⟩
    have e2 : (st ++ [C.dic acc]).set st.length (.dic (putD acc (kf x) (vf x))) = st ++ [.dic (putD acc (kf x) (vf x))] := by
      rw [List.set_append_right _ _ (Nat.le_refl _)]; simp
    rw [e2]
    have := put_len acc (kf x) (vf x)
    exact dc_pure f kf vf hg xs _ rfl (by omega) (fun y hy => hs y (List.mem_cons_of_mem _ hy)) hd
section
variable {prog : String → Option Def} {k : Nat} {st : Store} {Q : K}
def pickBody (c : Cl) : TS := sRet (dOp ixK (dVar 1) (dCall c "_law_draw" (aCons (dVar 0) (aCons (dB lenB (aCons (dVar 1) (aNil))) (aNil)))))
theorem pick_ok (hp : prog "_law_pick" = some ⟨2, 2, pickBody⟩) (hp2 : prog "_law_draw" = some ⟨2, 5, drawBody⟩) {n : Nat} {xs : List D} (hd : DrawAt st) (h : rdL st n xs) (hn : n ≠ 2) (h0 : 0 < xs.length) (h1 : xs.length < 1073741824)
    (q : ∀ x st', x ∈ xs → Fra st st' → st'.length = st.length → Q x st') : callN prog (k + 2) "_law_pick" [.ref 2, .ref n] st Q := by
  refine call_intro hp rfl ?_
  unfold pickBody
  walk_at "r"
  refine len_at h ?_
  walk_at "r"
  refine draw_ok hp2 hd (by omega) (by omega) fun r st' r0 r1 f fl => ?_
  obtain ⟨x, hx, _, e⟩ := atD_of (xs := xs) r0 r1
  exact ix_at (f.rd h hn) e (q x st' hx f fl)
theorem pickT_ok (hp : prog "_law_pick" = some ⟨2, 2, pickBody⟩) (hp2 : prog "_law_draw" = some ⟨2, 5, drawBody⟩) {xs : List D} (hd : DrawAt st) (h0 : 0 < xs.length) (h1 : xs.length < 1073741824)
    (q : ∀ x st', x ∈ xs → Fra st st' → st'.length = st.length → Q x st') : callN prog (k + 2) "_law_pick" [.ref 2, .tup xs] st Q := by
  refine call_intro hp rfl ?_
  unfold pickBody
  walk_at "r"
  refine draw_ok hp2 hd (by omega) (by omega) fun r st' r0 r1 f fl => ?_
  obtain ⟨x, hx, _, e⟩ := atD_of (xs := xs) r0 r1
  exact ⟨x, e, q x st' hx f fl⟩
def rareBody (c : Cl) : TS := sRet (dCmp eqC (dCall c "_law_draw" (aCons (dVar 0) (aCons (dVar 1) (aNil)))) (dOp fdivK (dVar 1) (dC (.int 2))))
theorem rareK_ok (hp : prog "_law_rare" = some ⟨2, 2, rareBody⟩) (hp2 : prog "_law_draw" = some ⟨2, 5, drawBody⟩) {many : Int} (h : DrawAt st) (h0 : 0 < many) (h1 : many < 1073741824) (q : ∀ b st', Fra st st' → st'.length = st.length → Q (.bl b) st') : callN prog (k + 2) "_law_rare" [.ref 2, .int many] st Q := by
  refine call_intro hp rfl ?_
  unfold rareBody
  walk_at "r"
  refine draw_ok hp2 h h0 h1 fun r st' r0 r1 f fl => ?_
  walk_at "r"
  refine ⟨⟨by decide, by decide⟩, ?_⟩
  walk_at "r"
  exact q _ _ f fl
def isIntBody (c : Cl) : TS := sRet (dAndT (dIsi .int (dVar 0)) (dNotT (dIsi .bool (dVar 0))))
theorem isInt_ok (hp : prog "_law_is_int" = some ⟨1, 1, isIntBody⟩) {i : Int} (q : Q (.bl true) st) : callN prog (k + 1) "_law_is_int" [.int i] st Q := by
  refine call_intro hp rfl ?_
  unfold isIntBody
  walk_at "r"
  refine wayT rfl ?_
  walk_at "r"
  exact q
def fullI (w : Int) : Int := 2 ^ w.toNat - 1
theorem fullI_bd {w : Int} (h0 : 0 ≤ w) (h1 : w ≤ 8) : 0 ≤ fullI w ∧ fullI w ≤ 255 := by
  have := pw_bd h0 h1
  unfold fullI
  omega
theorem cmul_small {a b : Int} (h0 : 0 ≤ b) (h1 : b ≤ 1000000) : cMul a b := .inr ⟨by omega, by omega⟩
theorem cpow_small {w : Int} (h0 : 0 ≤ w) (h1 : w ≤ 1000) : cPow 1 w := ⟨h0, by omega, by decide⟩
def greatestBody (c : Cl) : TS := sRet (dOp subK (dOp shlK (dC (.int 1)) (dVar 0)) (dC (.int 1)))
theorem greatest_ok (hp : prog "greatest" = some ⟨1, 1, greatestBody⟩) {w : Int} (h0 : 0 ≤ w) (h1 : w ≤ 8) (q : Q (.int (fullI w)) st) : callN prog (k + 1) "greatest" [.int w] st Q := by
  refine call_intro hp rfl ?_
  unfold greatestBody
  walk_at "r"
  refine ⟨cpow_small h0 (by omega), ?_⟩
  walk_at "r"
  rw [Int.one_mul]
  exact q
/-- the first place of n at which P holds -/
def Fnd (P : Nat → Prop) (n : Nat) : Option Nat → Prop
  | some t => t < n ∧ P t ∧ ∀ u, u < t → ¬ P u
  | none => ∀ u, u < n → ¬ P u
theorem Fnd.uniq {P : Nat → Prop} {n : Nat} : ∀ {r r' : Option Nat}, Fnd P n r → Fnd P n r' → r = r'
  | none, none, _, _ => rfl
  | some t, none, h, h' => absurd h.2.1 (h' t h.1)
  | none, some t, h, h' => absurd h'.2.1 (h t h'.1)
  | some t, some t', h, h' => by
    rcases Nat.lt_trichotomy t t' with e | e | e
    · exact absurd h.2.1 (h'.2.2 t e)
    · rw [e]
    · exact absurd h'.2.1 (h.2.2 t' e)
def optD : Option Nat → D
  | some t => .int t
  | none => .non
/-- cells are as they were, but the drawer and p -/
structure FraE (p : Nat) (st st' : Store) : Prop where
  dr : DrawAt st'
  le : st.length ≤ st'.length
  at' : ∀ n, n < st.length → n ≠ 2 → n ≠ p → st'[n]? = st[n]?
theorem FraE.rd {p : Nat} {st st' : Store} (f : FraE p st st') {n : Nat} {xs : List D} (h : rdL st n xs) (ne : n ≠ 2) (ne' : n ≠ p) : rdL st' n xs := by
  unfold rdL at *
  rw [f.at' n (rdL_lt h) ne ne']; exact h
theorem FraE.of {p : Nat} {st st' : Store} (f : Fra st st') : FraE p st st' := ⟨f.dr, f.le, fun n h1 h2 _ => f.at' n h1 h2⟩
theorem FraE.trans {p : Nat} {a b c : Store} (h : FraE p a b) (h' : FraE p b c) : FraE p a c := ⟨h'.dr, Nat.le_trans h.le h'.le, fun n hn ne ne' => (h'.at' n (Nat.lt_of_lt_of_le hn h.le) ne ne').trans (h.at' n hn ne ne')⟩
theorem FraE.setP {p : Nat} {st st' : Store} {c : C} (f : FraE p st st') (h2 : 2 < p) : FraE p st (st'.set p c) := ⟨f.dr.set h2, by simp; exact f.le, fun m hm ne ne' => by
  rw [List.getElem?_set_ne (Ne.symm ne')]; exact f.at' m hm ne ne'⟩
theorem FraE.fra {p : Nat} {st st' : Store} (f : FraE p st st') (h : st.length ≤ p) : Fra st st' := ⟨f.dr, f.le, fun n hn ne => f.at' n hn ne (by omega)⟩
theorem FraE.setN {p : Nat} {st st' : Store} {n : Nat} {c : C} (f : FraE p st st') (hn : st.length ≤ n) (h2 : 2 < n) : FraE p st (st'.set n c) := ⟨f.dr.set h2, by simp; exact f.le, fun m hm ne ne' => by
  rw [List.getElem?_set_ne (by omega)]; exact f.at' m hm ne ne'⟩
/-- cells of before are as they were; the new ones, g among them, as they come -/
structure FraG (g : Nat) (st st' : Store) : Prop where
  big : st.length ≤ g
  at' : ∀ n, n < st.length → st'[n]? = st[n]?
  le : st.length ≤ st'.length
theorem FraG.new {st : Store} {c : C} : FraG st.length st (st ++ [c]) := ⟨Nat.le_refl _, fun n h => List.getElem?_append_left h, by simp⟩
theorem FraG.refl {st : Store} {g : Nat} (h : st.length ≤ g) : FraG g st st := ⟨h, fun _ _ => rfl, Nat.le_refl _⟩
theorem FraG.rd {g : Nat} {st st' : Store} (f : FraG g st st') {n : Nat} {xs : List D} (h : rdL st n xs) (hn : n < st.length) : rdL st' n xs := by
  unfold rdL at *
  rw [f.at' n hn]; exact h
theorem FraG.app {g : Nat} {st st' : Store} {c : C} (f : FraG g st st') : FraG g st (st' ++ [c]) := ⟨f.big, fun n h => by rw [List.getElem?_append_left (Nat.lt_of_lt_of_le h f.le)]; exact f.at' n h, by simp; have := f.le; omega⟩
theorem FraG.setG {g : Nat} {st st' : Store} {c : C} (f : FraG g st st') : FraG g st (st'.set g c) := ⟨f.big, fun n h => by
  have := f.big
  rw [List.getElem?_set_ne (by omega)]; exact f.at' n h, by simp; exact f.le⟩
theorem FraG.setN {g n : Nat} {st st' : Store} {c : C} (f : FraG g st st') (hn : st.length ≤ n) : FraG g st (st'.set n c) := ⟨f.big, fun m h => by
  rw [List.getElem?_set_ne (by omega)]; exact f.at' m h, by simp; exact f.le⟩
theorem FraG.grw {g : Nat} {st st' : Store} (f : FraG g st st') : Grw st st' := by
  refine ⟨st'.drop st.length, ?_⟩
  apply List.ext_getElem?
  intro n
  by_cases h : n < st.length
  · rw [f.at' n h, List.getElem?_append_left h]
  · rw [List.getElem?_append_right (by omega), List.getElem?_drop, show st.length + (n - st.length) = n by omega]
theorem FraG.more {g : Nat} {st st' st2 : Store} (f : FraG g st st') (h : Grw st' st2) : FraG g st st2 := by
  obtain ⟨m, rfl⟩ := h
  exact ⟨f.big, fun n h => by rw [List.getElem?_append_left (Nat.lt_of_lt_of_le h f.le)]; exact f.at' n h, by simp; have := f.le; omega⟩
/-- the element adds cells alone: the new list is the map -/
theorem lc_mapG {α : Type} {gd : Store → Prop} {g : TG} {te : TE} {ρ : Env} (xs : List α) (f h : α → D) {items : List D} (hi : items = xs.map f) (hl : xs.length ≤ szl) (hg : ∀ st', FraG st.length st st' → gd st')
    (hs : ∀ x, x ∈ xs → ∀ (st1 : Store) (N : D → Store → Prop), FraG st.length st st1 → (∀ st2, Grw st1 st2 → N (h x) st2) → g (f x) ρ st1 fun ρ2 st2 => te ρ2 st2 N)
    (hd : ∀ st', FraG st.length st st' → rdL st' st.length (xs.map h) → Q (.ref st.length) st') : lcLoop gd g tYes te ρ st.length Q items [] (st ++ [.lst []]) := by
  subst hi
  refine lc_by (fun pre acc st' => acc = (xs.take pre.length).map h ∧ FraG st.length st st' ∧ rdL st' st.length acc) ⟨rfl, FraG.new, rdL_new⟩ (fun pre x post acc st' e ⟨h1, h5, h6⟩ N M hN hM => ?_) (fun acc st' ⟨h1, h5, h6⟩ => ?_)
  · refine ⟨hg _ h5, ?_⟩
    have e1 : (fun (ρ2 : Env) (st2 : Store) => tYes ρ2 st2 fun b st3 => (b = true → te ρ2 st3 N) ∧ (b = false → M st3)) = fun ρ2 st2 => te ρ2 st2 N := by
      funext ρ2 st2
      exact propext ⟨fun q => q.1 rfl, fun q => ⟨fun _ => q, fun e => nomatch e⟩⟩
    rw [e1]
    have hlen := congrArg List.length e
    simp at hlen
    have hx : (xs.map f)[pre.length]? = some x := by rw [e]; simp
    rw [List.getElem?_map] at hx
    cases hy : xs[pre.length]? with
    | none => rw [hy] at hx; cases hx
    | some y =>
      rw [hy] at hx
      cases hx
      refine hs y (List.mem_of_getElem? hy) st' _ h5 fun st2 gr => ?_
      have h7 := gr.rd h6
      refine hN _ _ h7 (by rw [h1]; simp; omega) ⟨?_, (h5.more gr).setG, rdL_set h7⟩
      rw [List.length_append]
      show _ = (xs.take (pre.length + 1)).map h
      rw [List.take_add_one, hy, List.map_append, h1]; rfl
  · rw [List.length_map, List.take_length] at h1
    subst h1
    exact ⟨hg _ h5, h6, hd st' h5 h6⟩
def popBody (c : Cl) : TS := sRet (dM tyLst popM (dVar 1) (aCons (dCall c "_law_draw" (aCons (dVar 0) (aCons (dB lenB (aCons (dVar 1) (aNil))) (aNil)))) (aNil)))
theorem pop_ok (hp : prog "_law_pop" = some ⟨2, 2, popBody⟩) (hp2 : prog "_law_draw" = some ⟨2, 5, drawBody⟩) {n : Nat} {xs : List D} (hd : DrawAt st) (h : rdL st n xs) (hn : 2 < n) (h0 : 0 < xs.length) (h1 : xs.length < 1073741824)
    (q : ∀ (i : Nat) x st', xs[i]? = some x → FraE n st st' → rdL st' n (xs.eraseIdx i) → st'.length = st.length → Q x st') : callN prog (k + 2) "_law_pop" [.ref 2, .ref n] st Q := by
  refine call_intro hp rfl ?_
  unfold popBody
  walk_at "r"
  refine ⟨ty_at h, ?_⟩
  walk_at "r"
  refine len_at h ?_
  walk_at "r"
  refine draw_ok hp2 hd (by omega) (by omega) fun r st' r0 r1 f fl => ?_
  walk_at "r"
  obtain ⟨x, hx, e', e⟩ := atD_of (xs := xs) r0 r1
  have h' := f.rd h (by omega)
  exact ⟨xs, x, h', ⟨r0, by omega⟩, e, q r.toNat x _ e' ((FraE.of f).setP hn) (rdL_set h') (by simp [fl])⟩

def shuffledBody (c : Cl) : TS := sSeq (sAsg (dB listB (aCons (dVar 1) (aNil))) (gName 2)) (sSeq (sAsg (dLst (aNil)) (gName 3)) (sSeq (sFor (iR1 (dB lenB (aCons (dVar 2) (aNil)))) (gName 4) (sExpr (dM tyLst appendM (dVar 3) (aCons (dM tyLst popM (dVar 2) (aCons (dCall c "_law_draw" (aCons (dVar 0) (aCons (dB lenB (aCons (dVar 2) (aNil))) (aNil)))) (aNil))) (aNil))))) (sRet (dVar 3))))
theorem perm_erase {α : Type} {x : α} : ∀ {l : List α} {i : Nat}, l[i]? = some x → (x :: l.eraseIdx i).Perm l
  | [], _, h => by simp at h
  | a :: l, 0, h => by simp at h; subst h; exact List.Perm.refl _
  | a :: l, i + 1, h => (List.Perm.swap a x _).trans ((perm_erase (l := l) (i := i) (by simpa using h)).cons a)
theorem shuffled_ok (hp : prog "_law_shuffled" = some ⟨2, 5, shuffledBody⟩) (hp2 : prog "_law_draw" = some ⟨2, 5, drawBody⟩) {n : Nat} {xs : List D} (hd : DrawAt st) (h : rdL st n xs) (hn : 2 < n) (h1 : xs.length < 1000000)
    (q : ∀ fn ys st', ys.Perm xs → st.length ≤ fn → rdL st' fn ys → Fra st st' → Q (.ref fn) st') : callN prog (k + 2) "_law_shuffled" [.ref 2, .ref n] st Q := by
  refine call_intro hp rfl ?_
  unfold shuffledBody
  have d2 := hd.lt
  walk_at "r"
  refine list_at h ?_
  walk_at "r"
  refine ⟨by show 0 ≤ szl; decide, ?_⟩
  walk_at "r"
  refine len_at (rdL_app rdL_new) ?_
  walk_at "r"
  refine ⟨by omega, by omega, ?_⟩
  have l1 : st.length < (st ++ [C.lst xs]).length := by simp
  have f0 := ((Fra.refl hd).app (c := C.lst xs)).app (c := C.lst [])
  have hf0 := rdL_new (st := st ++ [C.lst xs]) (xs := [])
  have hl0 : rdL (st ++ [C.lst xs] ++ [C.lst []]) st.length xs := rdL_app rdL_new
  generalize (st ++ [C.lst xs]).length = fn at l1 hf0 ⊢
  generalize (st ++ [C.lst xs] ++ [C.lst []]) = st1 at f0 hf0 hl0 ⊢
  refine for_rng (fun j σ st' => ∃ y4 ls fs, σ = [some (.ref 2), some (.ref n), some (.ref st.length), some (.ref fn), y4] ∧ rdL st' st.length ls ∧ rdL st' fn fs ∧ (fs ++ ls).Perm xs ∧ fs.length = j ∧ Fra st st') ⟨none, xs, [], rfl, hl0, hf0, List.Perm.refl _, rfl, f0⟩ (fun j σ st' hj ⟨y4, ls, fs, e, hls, hfs, pm, hfl, f⟩ N hN => ?_) (fun σ st' ⟨y4, ls, fs, e, hls, hfs, pm, hfl, f⟩ => ?_)
  · subst e
    have hpl := pm.length_eq
    rw [List.length_append] at hpl
    refine ⟨trivial, ?_⟩
    walk_at "r"
    refine ⟨ty_at hfs, ?_⟩
    walk_at "r"
    refine ⟨ty_at hls, ?_⟩
    walk_at "r"
    refine len_at hls ?_
    walk_at "r"
    refine draw_ok hp2 f.dr (by omega) (by omega) fun r st2 r0 r1 f2 l2 => ?_
    walk_at "r"
    obtain ⟨x, hx, e', e⟩ := atD_of (xs := ls) r0 r1
    have hls2 := f2.rd hls (by omega)
    have hfs2 := f2.rd hfs (by omega)
    refine ⟨ls, x, hls2, ⟨r0, by omega⟩, e, ?_⟩
    walk_at "r"
    have hfs3 : rdL (st2.set st.length (.lst (ls.eraseIdx r.toNat))) fn fs := rdL_ne hfs2 (by omega)
    refine append_at hfs3 (by unfold szl; omega) ?_
    refine hN _ _ ⟨_, ls.eraseIdx r.toNat, fs ++ [x], rfl, rdL_ne (rdL_set hls2) (by omega), rdL_set hfs3, ?_, by simp [hfl], ((f.trans f2).set (Nat.le_refl _) d2).set (by omega) (by omega)⟩
    rw [List.append_assoc]
    exact ((perm_erase e').append_left fs).trans pm
  · subst e
    refine ⟨trivial, ?_⟩
    walk_at "r"
    have hpl := pm.length_eq
    rw [List.length_append] at hpl
    have hl : ls = [] := List.eq_nil_of_length_eq_zero (by omega)
    subst hl
    rw [List.append_nil] at pm
    exact q fn fs st' pm (by omega) hfs f
theorem and_maskZ (x : Int) (n : Nat) : Builtin.bitAnd x (2 ^ n - 1) = x % 2 ^ n := by
  by_cases hx : 0 ≤ x
  · exact and_mask hx
  · have hm : (0 : Int) ≤ 2 ^ n - 1 := by have := pow2_pos n; omega
    unfold Builtin.bitAnd
    simp only [hx, hm, decide_true, decide_false]
    unfold Builtin.bitNot
    have e1 : (2 ^ n - 1 : Int).toNat = 2 ^ n - 1 := by
      have : (2 ^ n : Int) = ((2 ^ n : Nat) : Int) := by simp
      rw [this]
      have := Nat.two_pow_pos n
      omega
    obtain ⟨m, hm2⟩ : ∃ m : Nat, (-x - 1).toNat = m := ⟨_, rfl⟩
    have hx2 : x = -(m : Int) - 1 := by omega
    rw [hm2, e1, Nat.and_comm, Nat.and_two_pow_sub_one_eq_mod, hx2]
    have hp := pow2_pos n
    have c : ((2 : Int) ^ n) = ((2 ^ n : Nat) : Int) := by simp
    have h1 := Nat.div_add_mod m (2 ^ n)
    have h2 := Nat.mod_lt m (Nat.two_pow_pos n)
    have h3 : -(m : Int) - 1 = ((2 : Int) ^ n - 1 - ((m % 2 ^ n : Nat) : Int)) + 2 ^ n * (-((m / 2 ^ n : Nat) : Int) - 1) := by
      have h4 : (m : Int) = 2 ^ n * ((m / 2 ^ n : Nat) : Int) + ((m % 2 ^ n : Nat) : Int) := by
        rw [c, ← Int.natCast_mul, ← Int.natCast_add, h1]
      rw [Int.mul_sub, Int.mul_neg, Int.mul_one]
      omega
    rw [h3, Int.add_mul_emod_self_left, Int.emod_eq_of_lt (by omega) (by omega)]

/-- a for over known items, by the place -/
theorem for_map {α : Type} {gd : Store → Prop} {g : TG} {tb : TS} {D0 : Ends} {σ : Env} (xs : List α) (f : α → D) {items : List D} (hi : items = xs.map f) (Pv : Nat → Env → Store → Prop) (h0 : Pv 0 σ st)
    (hs : ∀ j x σ st, xs[j]? = some x → Pv j σ st → ∀ N : Env → Store → Prop, (∀ σ st, Pv (j + 1) σ st → N σ st) → gd st ∧ g (f x) σ st fun σ2 st2 => tb { D0 with nx := N, ct := N, bk := D0.nx } σ2 st2)
    (hd : ∀ σ st, Pv xs.length σ st → gd st ∧ D0.nx σ st) : forLoop gd g tb D0 items σ st := by
  subst hi
  refine for_by (fun pre σ st => Pv pre.length σ st) h0 (fun pre x post σ st e h N hN => ?_) (fun σ st h => hd σ st (by simpa using h))
  have hx : (xs.map f)[pre.length]? = some x := by rw [e]; simp
  rw [List.getElem?_map] at hx
  cases hy : xs[pre.length]? with
  | none => rw [hy] at hx; cases hx
  | some y =>
    rw [hy] at hx
    cases hx
    exact hs pre.length y σ st hy h N fun σ st h' => hN σ st (by simpa using h')
theorem lc_two {α β : Type} {gd : Store → Prop} {g : TG} {te : TE} {ρ : Env} (xs : List α) (f : α → D) (f' : β → D) (P : α → β → Prop) {items : List D} (hi : items = xs.map f) (hd : DrawAt st) (hl : xs.length ≤ szl) (hg : ∀ st', Fra st st' → gd st')
    (hs : ∀ x ∈ xs, ∀ st', Fra st st' → ∀ N : D → Store → Prop, (∀ y st2, P x y → Fra st' st2 → N (f' y) st2) → g (f x) ρ st' fun ρ2 st2 => te ρ2 st2 N)
    (hQ : ∀ (ys : List β) st', Two P xs ys → Fra st st' → rdL st' st.length (ys.map f') → Q (.ref st.length) st') : lcLoop gd g tYes te ρ st.length Q items [] (st ++ [.lst []]) := by
  subst hi
  have key : ∀ {as : List α} {zs : List D}, Two (fun a z => ∃ b, z = f' b ∧ P a b) as zs → ∃ bs : List β, zs = bs.map f' ∧ Two P as bs := by
    intro as zs h
    induction h with
    | nil => exact ⟨[], rfl, .nil⟩
    | cons p _ ih =>
      obtain ⟨b, h1, h2⟩ := p
      obtain ⟨bs, h3, h4⟩ := ih
      exact ⟨b :: bs, by rw [h1, h3]; rfl, .cons h2 h4⟩
  have h2 := hd.lt
  refine lc_by (fun pre acc st' => Two (fun a z => ∃ b, z = f' b ∧ P a b) (xs.take pre.length) acc ∧ Fra st st' ∧ rdL st' st.length acc) ⟨.nil, (Fra.refl hd).app, rdL_new⟩ (fun pre x post acc st' e ⟨h1, h5, h6⟩ N M hN hM => ?_) (fun acc st' ⟨h1, h5, h6⟩ => ?_)
  · refine ⟨hg _ h5, ?_⟩
    have e1 : (fun (ρ2 : Env) (st2 : Store) => tYes ρ2 st2 fun b st3 => (b = true → te ρ2 st3 N) ∧ (b = false → M st3)) = fun ρ2 st2 => te ρ2 st2 N := by
      funext ρ2 st2
      exact propext ⟨fun q => q.1 rfl, fun q => ⟨fun _ => q, fun e => nomatch e⟩⟩
    rw [e1]
    have hlen := congrArg List.length e
    simp at hlen
    have hx : (xs.map f)[pre.length]? = some x := by rw [e]; simp
    rw [List.getElem?_map] at hx
    cases hy : xs[pre.length]? with
    | none => rw [hy] at hx; cases hx
    | some y =>
      rw [hy] at hx
      cases hx
      refine hs y (List.mem_of_getElem? hy) st' h5 N fun z st2 hr fr => ?_
      have h7 := fr.rd h6 (by omega)
      have hal := h1.length
      rw [List.length_take] at hal
      refine hN _ _ h7 (by omega) ⟨?_, (h5.trans fr).set (Nat.le_refl _) (by omega), rdL_set h7⟩
      rw [List.length_append]
      show Two _ (xs.take (pre.length + 1)) _
      rw [List.take_add_one, hy]
      exact h1.snoc ⟨z, rfl, hr⟩
  · rw [List.length_map, List.take_length] at h1
    obtain ⟨bs, rfl, h8⟩ := key h1
    exact ⟨hg _ h5, h6, hQ bs st' h8 h5 h6⟩
end
end Pd
end PartPdKit

section PartPdWhile
set_option Elab.async false
set_option linter.all false
set_option maxRecDepth 100000
/-! Pd: a while by an invariant and a measure. Own work. -/
namespace Pd
theorem whileN_by {c : TT} {tb : TS} {D0 : Ends} (Pv : Nat → Env → Store → Prop)
    (hs : ∀ m σ st, Pv m σ st → ∀ N : Env → Store → Prop, (∀ m' σ' st', m' < m → Pv m' σ' st' → N σ' st') → c σ st fun b st1 => (b = true → tb { D0 with nx := N, ct := N, bk := D0.nx } σ st1) ∧ (b = false → D0.nx σ st1)) :
    ∀ (n m : Nat) (σ : Env) (st : Store), m < n → Pv m σ st → whileN c tb D0 n σ st
  | 0, m, _, _, h, _ => absurd h (by omega)
  | n + 1, m, σ, st, h, p => hs m σ st p _ fun m' σ' st' hlt hp => whileN_by Pv hs n m' σ' st' (by omega) hp
theorem while_by {c : TT} {tb : TS} {D0 : Ends} {σ : Env} {st : Store} (Pv : Nat → Env → Store → Prop) {m : Nat} (h0 : Pv m σ st)
    (hs : ∀ m σ st, Pv m σ st → ∀ N : Env → Store → Prop, (∀ m' σ' st', m' < m → Pv m' σ' st' → N σ' st') → c σ st fun b st1 => (b = true → tb { D0 with nx := N, ct := N, bk := D0.nx } σ st1) ∧ (b = false → D0.nx σ st1)) : sWhile c tb D0 σ st :=
  ⟨m + 1, whileN_by Pv hs (m + 1) m σ st (by omega) h0⟩
end Pd
end PartPdWhile

section PartPdNodes
set_option Elab.async false
set_option linter.all false
set_option maxRecDepth 100000
set_option maxHeartbeats 1000000
/-! Pd: sheets of nodes, plain: operations, nodes, values, widths. Own work. -/
namespace Pd
open PySem
local macro_rules | `(tactic| walk_at "s") => `(tactic| (repeat (refine Red.red ?_)))
inductive Op where | not | neg | wide | pick | add | sub | mul | and | or | xor | shl | shr | div | rem | eq | ne | lt | le
def opS : Op → Str
  | .not => "not"
  | .neg => "neg"
  | .wide => "wide"
  | .pick => "pick"
  | .add => "+"
  | .sub => "-"
  | .mul => "*"
  | .and => "&"
  | .or => "|"
  | .xor => "^"
  | .shl => "<<"
  | .shr => ">>"
  | .div => "div"
  | .rem => "rem"
  | .eq => "=="
  | .ne => "!="
  | .lt => "<"
  | .le => "<="
def v1 : Op → Int → Int → Int
  | .not, w, l => fullI w - l
  | .neg, w, l => Builtin.bitAnd (-l) (fullI w)
  | _, w, l => Builtin.bitAnd l (fullI w)
def v2 : Op → Int → Int → Int → Int
  | .add, w, l, r => Builtin.bitAnd (l + r) (fullI w)
  | .sub, w, l, r => Builtin.bitAnd (l - r) (fullI w)
  | .mul, w, l, r => Builtin.bitAnd (l * r) (fullI w)
  | .and, w, l, r => Builtin.bitAnd (Builtin.bitAnd l r) (fullI w)
  | .or, w, l, r => Builtin.bitAnd (Builtin.bitOr l r) (fullI w)
  | .xor, w, l, r => Builtin.bitAnd (Builtin.bitXor l r) (fullI w)
  | .shl, w, l, r => if w ≤ r then 0 else Builtin.bitAnd (l * 2 ^ r.toNat) (fullI w)
  | .shr, w, l, r => if w ≤ r then 0 else l / 2 ^ r.toNat
  | .div, w, l, r => if r = 0 then 0 else l / r
  | .rem, w, l, r => if r = 0 then 0 else l - r * (l / r)
  | .eq, w, l, r => b2i (decide (l = r))
  | .ne, w, l, r => b2i (!decide (l = r))
  | .lt, w, l, r => b2i (decide (l < r))
  | _, w, l, r => b2i (decide (l ≤ r))
def one : Op → Bool
  | .not => true
  | .neg => true
  | .wide => true
  | _ => false
def two : Op → Bool
  | .not => false
  | .neg => false
  | .wide => false
  | .pick => false
  | _ => true
section
variable {w l r a b : Int}
theorem full1 (w0 : 1 ≤ w) (w1 : w ≤ 8) : 1 * 2 ^ w.toNat - 1 = fullI w := by rw [Int.one_mul]; rfl
theorem mask_in {x : Int} (h0 : 0 ≤ x) (h1 : x ≤ fullI w) : Builtin.bitAnd x (fullI w) = x := by
  unfold fullI at *
  rw [and_maskZ, Int.emod_eq_of_lt h0 (by omega)]
theorem not_mask (h0 : 0 ≤ l) (h1 : l ≤ fullI w) : Builtin.bitAnd (-l - 1) (fullI w) = fullI w - l := by
  unfold fullI at *
  rw [and_maskZ]
  have e : -l - 1 = (2 ^ w.toNat - 1 - l) + 2 ^ w.toNat * (-1) := by rw [Int.mul_neg, Int.mul_one]; omega
  rw [e, Int.add_mul_emod_self_left, Int.emod_eq_of_lt (by omega) (by omega)]
theorem nat_of {x : Int} (h : 0 ≤ x) : ∃ n : Nat, x = (n : Int) := ⟨x.toNat, by omega⟩
theorem fullN {w : Int} : fullI w = ((2 ^ w.toNat - 1 : Nat) : Int) := by
  unfold fullI
  have := Nat.two_pow_pos w.toNat
  have c : ((2 : Int) ^ w.toNat) = ((2 ^ w.toNat : Nat) : Int) := by simp
  rw [c]; omega
theorem andN (m n : Nat) : Builtin.bitAnd (m : Int) (n : Int) = ((m &&& n : Nat) : Int) := by
  unfold Builtin.bitAnd
  have h1 : (0 : Int) ≤ m := by omega
  have h2 : (0 : Int) ≤ n := by omega
  simp only [h1, h2, decide_true, Int.toNat_natCast]
theorem notN (m : Nat) : Builtin.bitNot (m : Int) = -(m : Int) - 1 := rfl
theorem orN (m n : Nat) : Builtin.bitOr (m : Int) (n : Int) = ((m ||| n : Nat) : Int) := by
  unfold Builtin.bitOr Builtin.bitNot Builtin.bitAnd
  have h1 : ¬ ((0 : Int) ≤ -(m : Int) - 1) := by omega
  have h2 : ¬ ((0 : Int) ≤ -(n : Int) - 1) := by omega
  simp only [h1, h2, decide_false]
  unfold Builtin.bitNot
  have e1 : (-(-(m : Int) - 1) - 1).toNat = m := by omega
  have e2 : (-(-(n : Int) - 1) - 1).toNat = n := by omega
  rw [e1, e2]
  omega
theorem or_le {m n k : Nat} (h1 : m < 2 ^ k) (h2 : n < 2 ^ k) : m ||| n < 2 ^ k := Nat.or_lt_two_pow h1 h2
theorem xorN (m n : Nat) : ∃ z : Nat, Builtin.bitXor (m : Int) (n : Int) = (z : Int) ∧ z ≤ m ||| n := by
  unfold Builtin.bitXor
  rw [orN, andN]
  have h : m &&& n ≤ m ||| n := Nat.le_trans Nat.and_le_left Nat.left_le_or
  exact ⟨(m ||| n) - (m &&& n), by omega, Nat.sub_le _ _⟩
theorem bits_in (l0 : 0 ≤ l) (l1 : l ≤ fullI w) (r0 : 0 ≤ r) (r1 : r ≤ fullI w) : v2 .and w l r = Builtin.bitAnd l r ∧ v2 .or w l r = Builtin.bitOr l r ∧ v2 .xor w l r = Builtin.bitXor l r := by
  obtain ⟨m, rfl⟩ := nat_of l0
  obtain ⟨n, rfl⟩ := nat_of r0
  have hp := Nat.two_pow_pos w.toNat
  have hf := fullN (w := w)
  have hm : m < 2 ^ w.toNat := by omega
  have hn : n < 2 ^ w.toNat := by omega
  have h1 : m &&& n < 2 ^ w.toNat := Nat.lt_of_le_of_lt Nat.and_le_left hm
  have h2 : m ||| n < 2 ^ w.toNat := or_le hm hn
  obtain ⟨z, hz, hz2⟩ := xorN m n
  refine ⟨?_, ?_, ?_⟩
  · show Builtin.bitAnd (Builtin.bitAnd _ _) _ = _
    rw [andN]; exact mask_in (by omega) (by omega)
  · show Builtin.bitAnd (Builtin.bitOr _ _) _ = _
    rw [orN]; exact mask_in (by omega) (by omega)
  · show Builtin.bitAnd (Builtin.bitXor _ _) _ = _
    rw [hz]; exact mask_in (by omega) (by omega)
theorem shl_big (w0 : 1 ≤ w) (w1 : w ≤ 8) (h : w ≤ r) : Builtin.bitAnd (l * 2 ^ (if 8 < r then 8 else r).toNat) (fullI w) = 0 := by
  unfold fullI
  rw [and_maskZ]
  have h1 : w.toNat ≤ (if 8 < r then 8 else r).toNat := by split <;> omega
  obtain ⟨j, hj⟩ := Nat.exists_eq_add_of_le h1
  rw [hj, Int.pow_add, ← Int.mul_assoc, Int.mul_comm l, Int.mul_assoc]
  exact Int.mul_emod_right _ _
theorem shr_big (w0 : 1 ≤ w) (w1 : w ≤ 8) (l0 : 0 ≤ l) (l1 : l ≤ fullI w) (h : w ≤ r) : l / 2 ^ (if 8 < r then 8 else r).toNat = 0 := by
  have h1 : w.toNat ≤ (if 8 < r then 8 else r).toNat := by split <;> omega
  have h2 := Nat.pow_le_pow_right (n := 2) (by decide) h1
  have c : ∀ n : Nat, ((2 : Int) ^ n) = ((2 ^ n : Nat) : Int) := fun n => by simp
  unfold fullI at l1
  rw [c] at l1
  rw [c]
  exact Int.ediv_eq_zero_of_lt l0 (by omega)
theorem min_small (h : ¬ w ≤ r) (w1 : w ≤ 8) : (if 8 < r then 8 else r) = r := if_neg (by omega)
end
inductive Nd where
  | word (w v : Int)
  | inp (w : Int) (i : Nat)
  | one (o : Op) (w : Int) (a : Nat)
  | two (o : Op) (w : Int) (a b : Nat)
  | pick (w : Int) (c a b : Nat)
namespace Nd
def wd : Nd → Int
  | word w _ => w
  | inp w _ => w
  | one _ w _ => w
  | two _ w _ _ => w
  | pick w _ _ _ => w
def dat : Nd → D
  | word w v => .tup [.str (Str.ofString "word"), .int w, .int v]
  | inp w i => .tup [.str (Str.ofString "input"), .int w, .int i]
  | one o w a => .tup [.str (opS o), .int w, .int a]
  | two o w a b => .tup [.str (opS o), .int w, .int a, .int b]
  | pick w c a b => .tup [.str (opS .pick), .int w, .int c, .int a, .int b]
end Nd
def cmp : Op → Bool
  | .eq => true
  | .ne => true
  | .lt => true
  | .le => true
  | _ => false
def shf : Op → Bool
  | .shl => true
  | .shr => true
  | _ => false
def Has (ws : List Int) (a : Nat) (w : Int) : Prop := ws[a]? = some w
def Good (ws : List Int) : Nd → Prop
  | .word w v => 1 ≤ w ∧ w ≤ 8 ∧ 0 ≤ v ∧ v ≤ fullI w
  | .inp w i => 1 ≤ w ∧ w ≤ 8 ∧ i ≤ 300
  | .one o w a => 1 ≤ w ∧ w ≤ 8 ∧ Pd.one o = true ∧ ∃ u, Has ws a u ∧ (o ≠ .wide → u = w)
  | .two o w a b => 1 ≤ w ∧ w ≤ 8 ∧ Pd.two o = true ∧ ∃ u v, Has ws a u ∧ Has ws b v ∧ (cmp o = true → w = 1) ∧ (cmp o = false → u = w) ∧ (cmp o = false → shf o = false → v = w)
  | .pick w c a b => 1 ≤ w ∧ w ≤ 8 ∧ Has ws c 1 ∧ Has ws a w ∧ Has ws b w
inductive Sheet : List Nd → Prop
  | nil : Sheet []
  | snoc {ns : List Nd} {x : Nd} : Sheet ns → Good (ns.map Nd.wd) x → Sheet (ns ++ [x])
def val (is : List Int) (vs : List Int) : Nd → Int
  | .word _ v => v
  | .inp w i => if i < is.length then Builtin.bitAnd (is.getD i 0) (fullI w) else 0
  | .one o w a => v1 o w (vs.getD a 0)
  | .two o w a b => v2 o w (vs.getD a 0) (vs.getD b 0)
  | .pick _ c a b => if vs.getD c 0 = 1 then vs.getD a 0 else vs.getD b 0
def vals (is : List Int) (ns : List Nd) : List Int := ns.foldl (fun vs x => vs ++ [val is vs x]) []
theorem vals_snoc (is : List Int) (ns : List Nd) (x : Nd) : vals is (ns ++ [x]) = vals is ns ++ [val is (vals is ns) x] := by
  unfold vals
  rw [List.foldl_append]
  rfl
/-- values within the widths -/
def Fits (ws vs : List Int) : Prop := ∀ (a : Nat) (w : Int), ws[a]? = some w → ∃ v : Int, vs[a]? = some v ∧ 0 ≤ v ∧ v ≤ fullI w
theorem and_in (x w : Int) : 0 ≤ Builtin.bitAnd x (fullI w) ∧ Builtin.bitAnd x (fullI w) ≤ fullI w := by
  unfold fullI
  rw [and_maskZ]
  have h : (0 : Int) < 2 ^ w.toNat := Int.pow_pos (by decide)
  have h1 := Int.emod_nonneg x (Int.ne_of_gt h)
  have h2 := Int.emod_lt_of_pos x h
  omega
theorem b2i_in (b : Bool) : 0 ≤ b2i b ∧ b2i b ≤ fullI 1 := by cases b <;> decide
theorem v1_in {o : Op} {w l : Int} (l0 : 0 ≤ l) (l1 : o ≠ .wide → l ≤ fullI w) : 0 ≤ v1 o w l ∧ v1 o w l ≤ fullI w := by
  cases o
  case not =>
    have := l1 (by intro h; cases h)
    show 0 ≤ fullI w - l ∧ fullI w - l ≤ fullI w
    omega
  all_goals exact and_in _ w
theorem v2_in {o : Op} {w l r : Int} (l0 : 0 ≤ l) (r0 : 0 ≤ r) (l1 : cmp o = false → l ≤ fullI w) (hc : cmp o = true → w = 1) (ho : two o = true) : 0 ≤ v2 o w l r ∧ v2 o w l r ≤ fullI w := by
  have hw : 0 ≤ fullI w := by
    have h : (0 : Int) < 2 ^ w.toNat := Int.pow_pos (by decide)
    unfold fullI; omega
  have pw : (0 : Int) < 2 ^ r.toNat := Int.pow_pos (by decide)
  cases o <;> try (cases ho; done)
  case add => exact and_in _ w
  case sub => exact and_in _ w
  case mul => exact and_in _ w
  case and => exact and_in _ w
  case or => exact and_in _ w
  case xor => exact and_in _ w
  case shl =>
    show 0 ≤ (if w ≤ r then _ else _) ∧ (if w ≤ r then _ else _) ≤ fullI w
    split
    · exact ⟨by decide, hw⟩
    · exact and_in _ w
  case shr =>
    show 0 ≤ (if w ≤ r then _ else _) ∧ (if w ≤ r then _ else _) ≤ fullI w
    split
    · exact ⟨by decide, hw⟩
    · have h1 := Int.ediv_nonneg l0 (Int.le_of_lt pw)
      have h2 := Int.ediv_le_self (2 ^ r.toNat) l0
      have := l1 rfl
      omega
  case div =>
    show 0 ≤ (if r = 0 then _ else _) ∧ (if r = 0 then _ else _) ≤ fullI w
    split
    · exact ⟨by decide, hw⟩
    · have h1 := Int.ediv_nonneg l0 r0
      have h2 := Int.ediv_le_self r l0
      have := l1 rfl
      omega
  case rem =>
    show 0 ≤ (if r = 0 then _ else _) ∧ (if r = 0 then _ else _) ≤ fullI w
    split
    · exact ⟨by decide, hw⟩
    · rename_i hr
      have h0 : l - r * (l / r) = l % r := (Int.emod_def l r).symm
      have h1 := Int.emod_nonneg l hr
      have h3 : 0 ≤ r * (l / r) := Int.mul_nonneg r0 (Int.ediv_nonneg l0 r0)
      have := l1 rfl
      omega
  all_goals
    rw [hc rfl]
    exact b2i_in _
theorem fits_val {ws vs is : List Int} {x : Nd} (h : Fits ws vs) (g : Good ws x) (hi : ∀ i, i ∈ is → 0 ≤ i) : 0 ≤ val is vs x ∧ val is vs x ≤ fullI x.wd := by
  have gd : ∀ {a : Nat} {w : Int}, Has ws a w → 0 ≤ vs.getD a 0 ∧ vs.getD a 0 ≤ fullI w := by
    intro a w ha
    obtain ⟨v, e, h0, h1⟩ := h a w ha
    rw [List.getD_eq_getElem?_getD, e]
    exact ⟨h0, h1⟩
  cases x with
  | word w v => exact ⟨g.2.2.1, g.2.2.2⟩
  | inp w i =>
    show 0 ≤ (if i < is.length then _ else _) ∧ (if i < is.length then _ else _) ≤ fullI w
    split
    · exact and_in _ w
    · exact ⟨by decide, Int.le_trans (and_in 0 w).1 (and_in 0 w).2⟩
  | one o w a =>
    obtain ⟨w0, w1, ho, u, ha, hu⟩ := g
    have := gd ha
    exact v1_in this.1 (fun hne => by rw [← hu hne]; exact this.2)
  | two o w a b =>
    obtain ⟨w0, w1, ho, u, v, ha, hb, h1, h2, h3⟩ := g
    have A := gd ha
    have B := gd hb
    exact v2_in A.1 B.1 (fun hc => by rw [← h2 hc]; exact A.2) h1 ho
  | pick w c a b =>
    obtain ⟨w0, w1, hc, ha, hb⟩ := g
    show 0 ≤ (if vs.getD c 0 = 1 then _ else _) ∧ (if vs.getD c 0 = 1 then _ else _) ≤ fullI w
    split
    · exact gd ha
    · exact gd hb
theorem vals_len (is : List Int) {ns : List Nd} (h : Sheet ns) : (vals is ns).length = ns.length := by
  induction h with
  | nil => rfl
  | snoc h g ih => rw [vals_snoc, List.length_append, List.length_append, ih]; rfl
theorem fits_all (is : List Int) (hi : ∀ i, i ∈ is → 0 ≤ i) {ns : List Nd} (h : Sheet ns) : Fits (ns.map Nd.wd) (vals is ns) := by
  induction h with
  | nil => intro a w ha; cases ha
  | @snoc ns x h g ih =>
    intro a w ha
    rw [vals_snoc]
    rw [List.map_append] at ha
    have hl := vals_len is h
    by_cases e : a < ns.length
    · rw [List.getElem?_append_left (by simpa using e)] at ha
      rw [List.getElem?_append_left (by omega)]
      exact ih a w ha
    · rw [List.getElem?_append_right (by simpa using e)] at ha
      rw [List.getElem?_append_right (by omega)]
      have ea : a = ns.length := by
        have := (List.getElem?_eq_some_iff.1 ha).1
        simp only [List.length_map, List.length_cons, List.length_nil] at this
        omega
      subst ea
      rw [List.length_map, Nat.sub_self] at ha
      rw [hl, Nat.sub_self]
      have e' : x.wd = w := by simpa using ha
      subst e'
      exact ⟨_, rfl, fits_val ih g hi⟩
theorem Sheet.pre {ns : List Nd} (S : Sheet ns) {j : Nat} {x : Nd} (hx : ns[j]? = some x) : Sheet (ns.take j) ∧ Good ((ns.take j).map Nd.wd) x := by
  induction S with
  | nil => cases hx
  | @snoc ns y h g ih =>
    by_cases e : j < ns.length
    · rw [List.getElem?_append_left e] at hx
      rw [List.take_append_of_le_length (by omega)]
      exact ih hx
    · have hj := (List.getElem?_eq_some_iff.1 hx).1
      simp only [List.length_append, List.length_cons, List.length_nil] at hj
      have ej : j = ns.length := by omega
      subst ej
      rw [List.getElem?_append_right (Nat.le_refl _), Nat.sub_self] at hx
      cases hx
      rw [List.take_append_of_le_length (Nat.le_refl _), List.take_length]
      exact ⟨h, g⟩
theorem vals_take {is : List Int} {ns : List Nd} {j : Nat} {x : Nd} (hx : ns[j]? = some x) : vals is (ns.take (j + 1)) = vals is (ns.take j) ++ [val is (vals is (ns.take j)) x] := by
  rw [List.take_add_one, hx]
  exact vals_snoc _ _ _
theorem ix_refN {st : Store} {n a : Nat} {vs : List Int} {Q : K} (h : rdL st n (vs.map D.int)) (ha : a < vs.length) (q : Q (.int (vs.getD a 0)) st) : ixK (.ref n) (.int (a : Int)) st Q := by
  refine ⟨vs.map D.int, .int (vs.getD a 0), .inl h, ?_, q⟩
  unfold atD
  simp only [List.length_map]
  have e1 : ¬ ((a : Int) < 0) := by omega
  simp [e1, List.getD_eq_getElem?_getD, List.getElem?_eq_getElem ha, ha]
theorem opS_w (o : Op) : okS (opS o) = true ∧ decide (opS o = Str.ofString "word") = false ∧ decide (opS o = Str.ofString "input") = false := by
  cases o <;> exact ⟨by decide +kernel, by decide +kernel, by decide +kernel⟩
theorem Sheet.wid {ns : List Nd} (S : Sheet ns) : ∀ (a : Nat) (w : Int), Has (ns.map Nd.wd) a w → 1 ≤ w ∧ w ≤ 8 := by
  induction S with
  | nil => intro a w h; cases h
  | @snoc ns x h g ih =>
    intro a w ha
    unfold Has at ha
    rw [List.map_append] at ha
    by_cases e : a < ns.length
    · rw [List.getElem?_append_left (by simpa using e)] at ha
      exact ih a w ha
    · rw [List.getElem?_append_right (by simpa using e)] at ha
      have e' := List.mem_of_getElem? ha
      simp at e'
      subst e'
      cases x <;> exact ⟨g.1, g.2.1⟩
theorem le255 {ns : List Nd} (S : Sheet ns) {a : Nat} {w z : Int} (ha : Has (ns.map Nd.wd) a w) (h : z ≤ fullI w) : z ≤ 255 := by
  have := S.wid a w ha
  have := fullI_bd (w := w) (by omega) this.2
  omega
def parts : Nd → List Nat
  | .one _ _ a => [a]
  | .two _ _ a b => [a, b]
  | .pick _ c a b => [c, a, b]
  | _ => []
theorem lc_parts {gd : Store → Prop} {ρ : Env} {te : TE} {g : TG} {st : Store} {Q : K} {vs : List Int} {n : Nat} (ps : List Nat) (h : rdL st n (vs.map D.int)) (hp : ∀ a ∈ ps, a < vs.length) (hl : ps.length ≤ 3) (hg : ∀ acc, gd (st ++ [.lst acc]))
    (hs : ∀ a, a ∈ ps → ∀ (acc : List D) (N : D → Store → Prop), rdL (st ++ [.lst acc]) n (vs.map D.int) → N (.int (vs.getD a 0)) (st ++ [.lst acc]) → g (.int (a : Int)) ρ (st ++ [.lst acc]) fun ρ2 st2 => te ρ2 st2 N)
    (hd : Q (.ref st.length) (st ++ [.lst (ps.map fun (a : Nat) => D.int (vs.getD a 0))])) : lcLoop gd g tYes te ρ st.length Q (ps.map fun (a : Nat) => D.int (a : Int)) [] (st ++ [.lst []]) :=
  lc_map ps (fun (a : Nat) => D.int (a : Int)) (fun (a : Nat) => D.int (vs.getD a 0)) rfl (by unfold szl; omega) hg (fun a ha acc N hN => hs a ha acc N (rdL_app h) hN) hd
theorem vals_pre (is : List Int) {ns : List Nd} (S : Sheet ns) (j : Nat) : vals is (ns.take j) = (vals is ns).take j := by
  induction S with
  | nil => rw [List.take_nil]; exact (List.take_nil).symm
  | @snoc ns x h g ih =>
    have hl := vals_len is h
    rw [vals_snoc]
    by_cases e : j ≤ ns.length
    · rw [List.take_append_of_le_length e, List.take_append_of_le_length (by omega), ih]
    · rw [List.take_of_length_le (by simp; omega), List.take_of_length_le (by simp; omega), vals_snoc]
theorem Sheet.take {ns : List Nd} (S : Sheet ns) (j : Nat) : Sheet (ns.take j) := by
  by_cases e : j < ns.length
  · exact (S.pre (List.getElem?_eq_getElem e)).1
  · rw [List.take_of_length_le (by omega)]; exact S
theorem at_int {vs : List Int} {t : Nat} (h : t < vs.length) : atD (vs.map D.int) (t : Int) = some (.int (vs.getD t 0)) := by
  unfold atD
  rw [if_pos (by omega), Int.toNat_natCast, List.getElem?_map, List.getElem?_eq_getElem h, List.getD_eq_getElem?_getD, List.getElem?_eq_getElem h]
  rfl
theorem zip_self (vs : List Int) : zipD (vs.map D.int) (vs.map D.int) = vs.map fun v => .tup [.int v, .int v] := by
  induction vs with
  | nil => rfl
  | cons v vs ih => exact congrArg (_ :: ·) ih
theorem ix_ref {st : Store} {n : Nat} {xs : List D} {d : D} {i : Int} {Q : K} (h : rdL st n xs) (h' : atD xs i = some d) (q : Q d st) : ixK (.ref n) (.int i) st Q := ⟨xs, d, .inl h, h', q⟩
theorem tru_ref {st : Store} {n : Nat} {xs : List D} {r : Bool → Prop} (h : rdL st n xs) (q : r (!xs.isEmpty)) : truK (.ref n) st r := ⟨xs, .inl h, q⟩
theorem seq_J {S S' : TS} {D0 : Ends} {σ : Env} {st : Store} (J : Env → Store → Prop) (h : ∀ N : Env → Store → Prop, (∀ σ' st', J σ' st' → N σ' st') → S { D0 with nx := N } σ st) (hJ : ∀ σ' st', J σ' st' → S' D0 σ' st') : sSeq S S' D0 σ st :=
  h _ fun σ' st' e => Nxt.mk (hJ σ' st' e)
theorem dat_wd (x : Nd) : ∃ s ps, x.dat = .tup (s :: .int x.wd :: ps) := by cases x <;> exact ⟨_, _, rfl⟩
theorem at_nd {ns : List Nd} {a : Nat} (h : a < ns.length) : atD (ns.map Nd.dat) (a : Int) = some (ns[a]).dat := by
  unfold atD
  rw [if_pos (by omega), Int.toNat_natCast, List.getElem?_map, List.getElem?_eq_getElem h]
  rfl
theorem wd_at {x : Nd} {st : Store} {Q : K} (q : Q (.int x.wd) st) : ixK x.dat (.int 1) st Q := by
  obtain ⟨s, ps, e⟩ := dat_wd x
  rw [e]
  exact ⟨.int x.wd, rfl, q⟩
def mates (ns : List Nd) (w : Int) : List Nat := (List.range ns.length).filter fun i => decide (((ns[i]?).map Nd.wd).getD 0 = w)
theorem mate_has {ns : List Nd} {w : Int} {i : Nat} (h : i ∈ mates ns w) : i < ns.length ∧ Has (ns.map Nd.wd) i w := by
  unfold mates at h
  rw [List.mem_filter, List.mem_range] at h
  obtain ⟨h1, h2⟩ := h
  refine ⟨h1, ?_⟩
  unfold Has
  rw [List.getElem?_map]
  rw [List.getElem?_eq_getElem h1] at h2 ⊢
  have := of_decide_eq_true h2
  exact congrArg some this
theorem has_wd {ns : List Nd} {a : Nat} (h : a < ns.length) : Has (ns.map Nd.wd) a (ns[a]).wd := by
  unfold Has
  rw [List.getElem?_map, List.getElem?_eq_getElem h]
  rfl
theorem self_mate {ns : List Nd} {a : Nat} (h : a < ns.length) : a ∈ mates ns (ns[a]).wd := by
  unfold mates
  rw [List.mem_filter, List.mem_range]
  refine ⟨h, ?_⟩
  rw [List.getElem?_eq_getElem h]
  exact decide_eq_true rfl
def n0 (i : Nat) : D := .int (0 + (i : Int))
theorem n0_eq (i : Nat) : n0 i = .int (i : Int) := by unfold n0; rw [Int.zero_add]
theorem lc_mates {te : TE} {tt : TT} {g : TG} {ρ : Env} {st : Store} {Q : K} {ns : List Nd} (w : Int) (hl : ns.length ≤ 200)
    (hs : ∀ (i : Nat) (hi : i < ns.length) (acc : List D) (N : D → Store → Prop) (M : Store → Prop), (decide ((ns[i]).wd = w) = true → N (n0 i) (st ++ [.lst acc])) → (decide ((ns[i]).wd = w) = false → M (st ++ [.lst acc])) → g (n0 i) ρ (st ++ [.lst acc]) fun ρ2 st2 => tt ρ2 st2 fun b st3 => (b = true → te ρ2 st3 N) ∧ (b = false → M st3))
    (hd : Q (.ref st.length) (st ++ [.lst ((mates ns w).map n0)])) : lcLoop (fun _ => True) g tt te ρ st.length Q (rng 0 (ns.length : Int).toNat) [] (st ++ [.lst []]) := by
  refine lc_filter (List.range ns.length) n0 n0 (fun i => decide (((ns[i]?).map Nd.wd).getD 0 = w)) rfl (by simp [szl]; omega) (fun _ => trivial) (fun i hi acc N M hN hM => ?_) hd
  have h1 := List.mem_range.mp hi
  rw [List.getElem?_eq_getElem h1] at hN hM
  exact hs i h1 acc N M hN hM
theorem opS_ok (o : Op) : okS (opS o) = true := by cases o <;> decide +kernel
theorem dat_ok (x : Nd) : D.okd 60 x.dat = true := by
  have hw : okS (Str.ofString "word") = true := by decide +kernel
  have hi : okS (Str.ofString "input") = true := by decide +kernel
  cases x <;> simp [Nd.dat, D.okd, okds, opS_ok, hw, hi]
theorem dats_ok (ns : List Nd) : okds 60 (ns.map Nd.dat) = true := by
  rw [okds_all, List.all_eq_true]
  intro d hd
  obtain ⟨x, _, rfl⟩ := List.mem_map.mp hd
  exact dat_ok x
theorem notin_at {st : Store} {n : Nat} {xs : List D} {x : D} {r : Bool → Prop} (h : rdL st n xs) (hx : D.okd 60 x = true) (hxs : okds 60 xs = true) (q : r (!(xs.any fun y => D.eqb y x))) : notinDC x (.ref n) st r := ⟨xs, .inl h, hx, hxs, q⟩
end Pd
end PartPdNodes

section PartPdNeeded
set_option Elab.async false
set_option linter.all false
set_option maxRecDepth 100000
set_option maxHeartbeats 1000000
/-! Pd: `needed_for`: the nodes that are reached, ascending. Own work. -/
namespace Pd
open PySem
local macro_rules | `(tactic| walk_at "s") => `(tactic| (repeat (refine Red.red ?_)))
local macro_rules | `(tactic| walk_at "r") => `(tactic| (repeat (first | refine Red.red ?_ | refine Nxt.mk ?_)))
theorem rdD_lt {st : Store} {n : Nat} {kvs : List (Ky × D)} (h : rdD st n kvs) : n < st.length := (List.getElem?_eq_some_iff.mp h).1
theorem rdD_new {st : Store} {kvs : List (Ky × D)} : rdD (st ++ [.dic kvs]) st.length kvs := by unfold rdD; simp
theorem rdD_app {st : Store} {n : Nat} {kvs : List (Ky × D)} {c : C} (h : rdD st n kvs) : rdD (st ++ [c]) n kvs := by
  unfold rdD at *
  rw [List.getElem?_append_left (rdD_lt h)]; exact h
theorem rdD_set {st : Store} {n : Nat} {kvs kvs' : List (Ky × D)} (h : rdD st n kvs) : rdD (st.set n (.dic kvs')) n kvs' := by unfold rdD; rw [List.getElem?_set_self (rdD_lt h)]
theorem rdD_ne {st : Store} {n m : Nat} {kvs : List (Ky × D)} {c : C} (h : rdD st n kvs) (ne : n ≠ m) : rdD (st.set m c) n kvs := by unfold rdD at *; rw [List.getElem?_set_ne (Ne.symm ne)]; exact h
theorem Grw.rdD {st st' : Store} (f : Grw st st') {n : Nat} {kvs : List (Ky × D)} (h : rdD st n kvs) : rdD st' n kvs := by
  obtain ⟨m, rfl⟩ := f
  unfold Pd.rdD at *
  rw [List.getElem?_append_left (rdD_lt h)]; exact h
def kOf (M : List Nat) : List (Ky × D) := M.map fun k : Nat => (Sum.inl (k : Int), D.bl true)
theorem kOf_has (M : List Nat) (k : Nat) : (valD (kOf M) (.inl (k : Int))).isSome = decide (k ∈ M) := by
  induction M with
  | nil => rfl
  | cons j M ih =>
    unfold kOf valD at *
    rw [List.map_cons, List.find?_cons]
    by_cases h : j = k
    · subst h
      simp
    · have h1 : decide ((Sum.inl (j : Int) : Ky) = Sum.inl (k : Int)) = false := by
        rw [decide_eq_false_iff_not]
        intro e
        injection e with e
        exact h (by omega)
      simp only [h1]
      rw [ih]
      simp [Ne.symm h]
theorem kOf_put {M : List Nat} {k : Nat} (h : k ∉ M) : putD (kOf M) (.inl (k : Int)) (.bl true) = kOf (M ++ [k]) := by
  have h1 : ((kOf M).any fun kv => decide (kv.1 = (.inl (k : Int) : Ky))) = false := by
    rw [List.any_eq_false]
    intro kv hk e
    unfold kOf at hk
    obtain ⟨j, hj, rfl⟩ := List.mem_map.mp hk
    have e := of_decide_eq_true e
    injection e with e
    have : j = k := by omega
    subst this
    exact h hj
  unfold putD
  rw [h1, if_neg (by decide)]
  unfold kOf
  rw [List.map_append]
  rfl
def leafB : Nd → Bool
  | .word _ _ => true
  | .inp _ _ => true
  | _ => false
theorem leaf_word : ([D.str (Str.ofString "word"), D.str (Str.ofString "input")].any fun y => D.eqb y (.str (Str.ofString "word"))) = true := by decide +kernel
theorem leaf_inp : ([D.str (Str.ofString "word"), D.str (Str.ofString "input")].any fun y => D.eqb y (.str (Str.ofString "input"))) = true := by decide +kernel
theorem leaf_op (o : Op) : ([D.str (Str.ofString "word"), D.str (Str.ofString "input")].any fun y => D.eqb y (.str (opS o))) = false := by cases o <;> decide +kernel
theorem dat_leaf (x : Nd) : ∃ s ps, x.dat = .tup (.str s :: .int x.wd :: ps) ∧ ([D.str (Str.ofString "word"), D.str (Str.ofString "input")].any fun y => D.eqb y (.str s)) = leafB x ∧ (leafB x = false → ps = (parts x).map fun p : Nat => D.int (p : Int)) := by
  cases x with
  | word w v => exact ⟨_, _, rfl, leaf_word, fun h => by cases h⟩
  | inp w i => exact ⟨_, _, rfl, leaf_inp, fun h => by cases h⟩
  | one o w a => exact ⟨_, _, rfl, leaf_op o, fun _ => rfl⟩
  | two o w a b => exact ⟨_, _, rfl, leaf_op o, fun _ => rfl⟩
  | pick w c a b => exact ⟨_, _, rfl, leaf_op .pick, fun _ => rfl⟩
theorem parts_leaf {x : Nd} (h : leafB x = true) : parts x = [] := by cases x <;> first | rfl | cases h
theorem parts_le (x : Nd) : (parts x).length ≤ 3 := by cases x <;> simp [parts]
theorem Has.lt {ws : List Int} {a : Nat} {w : Int} (h : Has ws a w) : a < ws.length := (List.getElem?_eq_some_iff.mp h).1
theorem Good.parts {ws : List Int} {x : Nd} (g : Good ws x) : ∀ p ∈ Pd.parts x, p < ws.length := by
  intro p hp
  cases x with
  | word w v => cases hp
  | inp w i => cases hp
  | one o w a =>
    obtain ⟨_, _, _, u, h, _⟩ := g
    simp only [Pd.parts, List.mem_cons, List.not_mem_nil, or_false] at hp
    subst hp; exact h.lt
  | two o w a b =>
    obtain ⟨_, _, _, u, v, h, h', _⟩ := g
    simp only [Pd.parts, List.mem_cons, List.not_mem_nil, or_false] at hp
    rcases hp with rfl | rfl
    · exact h.lt
    · exact h'.lt
  | pick w c a b =>
    obtain ⟨_, _, h, h', h''⟩ := g
    simp only [Pd.parts, List.mem_cons, List.not_mem_nil, or_false] at hp
    rcases hp with rfl | rfl | rfl
    · exact h.lt
    · exact h'.lt
    · exact h''.lt
theorem Sheet.part_lt {ns : List Nd} (S : Sheet ns) {j : Nat} {x : Nd} (hx : ns[j]? = some x) : ∀ p ∈ Pd.parts x, p < j := by
  intro p hp
  have := (S.pre hx).2.parts p hp
  rw [List.length_map, List.length_take] at this
  omega
structure Need (ns : List Nd) (ts : List Nat) (L : List Nat) : Prop where
  lt : ∀ k ∈ L, k < ns.length
  asc : L.Pairwise (· < ·)
  has : ∀ t ∈ ts, t ∈ L
  cl : ∀ k ∈ L, ∀ x, ns[k]? = some x → ∀ p ∈ Pd.parts x, p ∈ L
def iN (k : Nat) : D := .int (k : Int)
theorem notinS_at {x : D} {xs : List D} {st : Store} {r : Bool → Prop} (h1 : x.flat = true) (h2 : xs.all D.flat = true) (q : r (!(xs.any fun y => D.eqb y x))) : notinC x (.tup xs) st r := ⟨h1, h2, q⟩
def neededBody (c : Cl) : TS := sSeq (sAsg (dDic) (gName 2)) (sSeq (sAsg (dB listB (aCons (dVar 1) (aNil))) (gName 3)) (sSeq (sWhile (tTru (dVar 3)) (sSeq (sAsg (dM0 tyLst popEM (dVar 3)) (gName 4)) (sIf (tTru (dCmp notinKC (dVar 4) (dVar 2))) (sSeq (sAsg (dC (.bl true)) (gSubD (dVar 2) (dVar 4))) (sIf (tTru (dCmp notinC (dOp ixK (dOp ixK (dVar 0) (dVar 4)) (dC (.int 0))) (dTup (aCons (dC (.str "word")) (aCons (dC (.str "input")) (aNil)))))) (sExpr (dM tyLst extendAM (dVar 3) (aCons (dSl (dOp ixK (dVar 0) (dVar 4)) (oSome (dC (.int 2))) (oNone)) (aNil)))) (sNext))) (sNext)))) (sRet (dB sortedDB (aCons (dVar 2) (aNil))))))
theorem nodup_le {M : List Nat} {n : Nat} (h : M.Nodup) (hl : ∀ k ∈ M, k < n) : M.length ≤ n := by
  induction n generalizing M with
  | zero =>
    cases M with
    | nil => exact Nat.le_refl _
    | cons x M => exact absurd (hl x (by simp)) (by omega)
  | succ n ih =>
    by_cases hn : n ∈ M
    · have h1 := ih (M := M.erase n) (h.erase n) (fun k hk => by
        rw [h.mem_erase_iff] at hk
        have := hl k hk.2
        have := hk.1
        omega)
      rw [List.length_erase_of_mem hn] at h1
      omega
    · exact Nat.le_succ_of_le (ih h fun k hk => by
        have := hl k hk
        have : k ≠ n := fun e => hn (e ▸ hk)
        omega)
theorem needed_ok {prog : String → Option Def} (hp : prog "needed_for" = some ⟨2, 5, neededBody⟩) {k : Nat} {st : Store} {Q : K} {ns : List Nd} {ts : List Nat} {n : Nat} (S : Sheet ns) (hl : ns.length ≤ 1000) (h : rdL st n (ts.map iN)) (ht : ∀ t ∈ ts, t < ns.length) (htl : ts.length ≤ 1000)
    (q : ∀ L st', Need ns ts L → Grw st st' → rdL st' (st'.length - 1) (L.map iN) → st.length < st'.length → Q (.ref (st'.length - 1)) st') : callN prog (k + 1) "needed_for" [.tup (ns.map Nd.dat), .ref n] st Q := by
  refine call_intro hp rfl ?_
  unfold neededBody
  walk_at "r"
  refine list_at (rdL_app h) ?_
  walk_at "s"
  refine Nxt.mk ?_
  rw [List.length_append, List.length_singleton]
  have d0 := rdD_app (c := C.lst (ts.map iN)) (rdD_new (st := st) (kvs := []))
  have w0 := rdL_new (st := st ++ [C.dic []]) (xs := ts.map iN)
  rw [List.length_append, List.length_singleton] at w0
  have f0 : FraG st.length st (st ++ [C.dic []] ++ [C.lst (ts.map iN)]) := FraG.new.app
  generalize st ++ [C.dic []] ++ [C.lst (ts.map iN)] = st1 at d0 w0 f0 ⊢
  refine seq_cut (fun σ st' => ∃ M o4, σ = [some (.tup (ns.map Nd.dat)), some (.ref n), some (.ref st.length), some (.ref (st.length + 1)), o4] ∧ rdD st' st.length (kOf M) ∧ FraG st.length st st' ∧ M.Nodup ∧ (∀ k ∈ M, k < ns.length) ∧ (∀ t ∈ ts, t ∈ M) ∧ ∀ k ∈ M, ∀ x, ns[k]? = some x → ∀ p ∈ Pd.parts x, p ∈ M) (fun N hN => ?_) (fun σ st2 ⟨M, o4, e, hd, f, nd, hlt, hts, hcl⟩ => ?_)
  · refine while_by (fun m σ st' => ∃ M W o4, σ = [some (.tup (ns.map Nd.dat)), some (.ref n), some (.ref st.length), some (.ref (st.length + 1)), o4] ∧ rdD st' st.length (kOf M) ∧ rdL st' (st.length + 1) (W.map iN) ∧ FraG st.length st st' ∧ M.Nodup ∧ (∀ k ∈ M, k < ns.length) ∧ (∀ k ∈ W, k < ns.length) ∧ (∀ t ∈ ts, t ∈ M ∨ t ∈ W) ∧ (∀ k ∈ M, ∀ x, ns[k]? = some x → ∀ p ∈ Pd.parts x, p ∈ M ∨ p ∈ W) ∧ m = 4 * (ns.length - M.length) + W.length ∧ m ≤ 4 * ns.length + ts.length) (m := 4 * ns.length + ts.length) ⟨[], ts, none, rfl, d0, w0, f0, by simp, by simp, ht, fun t h => .inr h, by simp, by simp, Nat.le_refl _⟩ (fun m σ st' ⟨M, W, o4, e, hd, hw, f, nd, hlt, hwl, hts, hcl, em, hm⟩ N' hN' => ?_)
    subst e
    walk_at "s"
    refine ⟨W.map iN, .inl hw, ?_⟩
    rcases W.eq_nil_or_concat with rfl | ⟨W', t, hW⟩
    · refine wayF rfl ?_
      exact hN _ _ ⟨M, o4, rfl, hd, f, nd, hlt, fun t h => (hts t h).elim id (fun h => by cases h), fun k hk x hx p hp => (hcl k hk x hx p hp).elim id (fun h => by cases h)⟩
    · rw [List.concat_eq_append] at hW
      subst hW
      refine wayT (by simp) ?_
      have htn : t < ns.length := hwl t (by simp)
      have hml := nodup_le nd hlt
      rw [List.length_append, List.length_singleton] at em
      rw [List.map_append] at hw
      walk_at "s"
      refine ⟨⟨_, hw⟩, ?_⟩
      refine pop_at hw ?_
      walk_at "s"
      refine Nxt.mk ?_
      have hd1 := rdD_ne (c := C.lst (W'.map iN)) hd (show st.length ≠ st.length + 1 by omega)
      have hw1 := rdL_set (ys := W'.map iN) hw
      have f1 : FraG st.length st (st'.set (st.length + 1) (.lst (W'.map iN))) := f.setN (by omega)
      generalize st'.set (st.length + 1) (.lst (W'.map iN)) = st3 at hd1 hw1 f1 ⊢
      walk_at "s"
      refine notinKI_at (.inl hd1) ?_
      rw [kOf_has]
      walk_at "s"
      by_cases ht2 : t ∈ M
      · refine wayF (by simp [ht2]) ?_
        walk_at "s"
        refine hN' (m - 1) _ _ (by omega) ⟨M, W', _, rfl, hd1, hw1, f1, nd, hlt, fun k hk => hwl k (by simp [hk]), fun t' h => ?_, fun k hk x hx p hp => ?_, by omega, by omega⟩
        · rcases hts t' h with h | h
          · exact .inl h
          · simp only [List.mem_append, List.mem_singleton] at h
            rcases h with h | rfl
            · exact .inr h
            · exact .inl ht2
        · rcases hcl k hk x hx p hp with h | h
          · exact .inl h
          · simp only [List.mem_append, List.mem_singleton] at h
            rcases h with h | rfl
            · exact .inr h
            · exact .inl ht2
      · refine wayT (by simp [ht2]) ?_
        walk_at "s"
        refine setDI_at hd1 (by unfold kOf; rw [List.length_map]; simp [szl]; omega) ?_
        rw [kOf_put ht2]
        have hd2 := rdD_set (kvs' := kOf (M ++ [t])) hd1
        have hw2 := rdL_ne (c := C.dic (kOf (M ++ [t]))) hw1 (show st.length + 1 ≠ st.length by omega)
        have f2 : FraG st.length st (st3.set st.length (.dic (kOf (M ++ [t])))) := f1.setN (by omega)
        generalize st3.set st.length (.dic (kOf (M ++ [t]))) = st4 at hd2 hw2 f2 ⊢
        walk_at "r"
        refine at_is (at_nd htn) ?_
        obtain ⟨s, ps, ed, el, ep⟩ := dat_leaf (ns[t])
        rw [ed]
        walk_at "r"
        refine at_is rfl ?_
        refine ⟨Nat.le_of_ble_eq_true rfl, ?_⟩
        refine notinS_at rfl rfl ?_
        rw [el]
        walk_at "s"
        have nd2 : (M ++ [t]).Nodup := by
          rw [List.nodup_append]
          exact ⟨nd, by simp, fun a ha b hb => by simp at hb; subst hb; rintro rfl; exact ht2 ha⟩
        have hlt2 : ∀ k ∈ M ++ [t], k < ns.length := fun k hk => by
          simp only [List.mem_append, List.mem_singleton] at hk
          rcases hk with hk | rfl
          · exact hlt k hk
          · exact htn
        have hml2 := nodup_le nd2 hlt2
        rw [List.length_append, List.length_singleton] at hml2
        have fin : ∀ st5, rdD st5 st.length (kOf (M ++ [t])) → rdL st5 (st.length + 1) ((W' ++ Pd.parts ns[t]).map iN) → FraG st.length st st5 → N' [some (.tup (ns.map Nd.dat)), some (.ref n), some (.ref st.length), some (.ref (st.length + 1)), some (.int t)] st5 := by
          intro st5 hd5 hw5 f5
          have hpl := parts_le ns[t]
          refine hN' (4 * (ns.length - (M ++ [t]).length) + (W' ++ Pd.parts ns[t]).length) _ _ (by rw [List.length_append, List.length_append, List.length_singleton]; omega) ⟨M ++ [t], W' ++ Pd.parts ns[t], _, rfl, hd5, hw5, f5, nd2, hlt2, fun k hk => ?_, fun t' h => ?_, fun k hk x hx p hp => ?_, rfl, by rw [List.length_append, List.length_append, List.length_singleton]; omega⟩
          · simp only [List.mem_append] at hk
            rcases hk with hk | hk
            · exact hwl k (by simp [hk])
            · have := S.part_lt (List.getElem?_eq_getElem htn) k hk
              omega
          · rcases hts t' h with h | h
            · exact .inl (by simp [h])
            · simp only [List.mem_append, List.mem_singleton] at h
              rcases h with h | rfl
              · exact .inr (by simp [h])
              · exact .inl (by simp)
          · simp only [List.mem_append, List.mem_singleton] at hk
            rcases hk with hk | rfl
            · rcases hcl k hk x hx p hp with h | h
              · exact .inl (by simp [h])
              · simp only [List.mem_append, List.mem_singleton] at h
                rcases h with h | rfl
                · exact .inr (by simp [h])
                · exact .inl (by simp)
            · rw [List.getElem?_eq_getElem htn] at hx
              cases hx
              exact .inr (by simp [hp])
        cases hlf : leafB ns[t] with
        | true =>
          refine wayF rfl ?_
          walk_at "s"
          exact fin _ hd2 (by rw [parts_leaf hlf, List.append_nil]; exact hw2) f2
        | false =>
          refine wayT rfl ?_
          walk_at "s"
          refine ⟨⟨_, hw2⟩, ?_⟩
          walk_at "s"
          refine at_is (at_nd htn) ?_
          rw [ed, ep hlf]
          walk_at "s"
          have ec : cutD (D.str s :: .int ns[t].wd :: (Pd.parts ns[t]).map fun p : Nat => D.int (p : Int)) (some 2) none = (Pd.parts ns[t]).map iN := by
            rw [cut_drop _ (by decide)]; rfl
          rw [ec]
          have hpl := parts_le ns[t]
          refine extendT_at hw2 (by rw [List.length_map, List.length_map]; simp [szl]; omega) ?_
          walk_at "s"
          refine fin _ (rdD_ne hd2 (by omega)) ?_ (f2.setN (by omega))
          rw [List.map_append]
          exact rdL_set hw2
  · subst e
    walk_at "s"
    refine ⟨kOf M, M.map fun k : Nat => (k : Int), hd, by unfold kOf; rw [List.map_map, List.map_map]; rfl, fun ns' hperm hpw => ?_⟩
    have e1 : ns' = (ns'.map Int.toNat).map fun k : Nat => (k : Int) := by
      rw [List.map_map]
      have e0 : ns'.map ((fun k : Nat => (k : Int)) ∘ Int.toNat) = ns'.map id := List.map_congr_left fun z hz => by
        obtain ⟨k, _, rfl⟩ := List.mem_map.mp (hperm.mem_iff.mp hz)
        rfl
      rw [e0, List.map_id]
    have hmem : ∀ k : Nat, k ∈ ns'.map Int.toNat ↔ k ∈ M := by
      intro k
      constructor
      · intro h
        obtain ⟨z, hz, rfl⟩ := List.mem_map.mp h
        obtain ⟨j, hj, rfl⟩ := List.mem_map.mp (hperm.mem_iff.mp hz)
        exact hj
      · intro h
        exact List.mem_map.mpr ⟨(k : Int), hperm.mem_iff.mpr (List.mem_map.mpr ⟨k, h, rfl⟩), rfl⟩
    have hnd : ns'.Nodup := hperm.nodup_iff.mpr (by
      exact List.Pairwise.map _ (fun a b h e => h (by omega)) nd)
    have asc : (ns'.map Int.toNat).Pairwise (· < ·) := by
      rw [List.pairwise_map]
      have hboth : ns'.Pairwise (fun a b => a ≤ b ∧ a ≠ b) := List.Pairwise.and hpw hnd
      refine List.Pairwise.imp_of_mem (fun {a b} ha hb hab => ?_) hboth
      obtain ⟨j, hj, rfl⟩ := List.mem_map.mp (hperm.mem_iff.mp ha)
      obtain ⟨j', hj', rfl⟩ := List.mem_map.mp (hperm.mem_iff.mp hb)
      obtain ⟨h1, h2⟩ := hab
      simp only [Int.toNat_natCast]
      omega
    have nl : st.length < (st2 ++ [C.lst ((ns'.map Int.toNat).map iN)]).length := by
      have := f.grw.le
      rw [List.length_append, List.length_singleton]; omega
    have e2 : ns'.map D.int = (ns'.map Int.toNat).map iN := by
      rw [congrArg (List.map D.int) e1, List.map_map]; rfl
    rw [e2]
    have e3 : (st2 ++ [C.lst ((ns'.map Int.toNat).map iN)]).length - 1 = st2.length := by simp
    have := q (ns'.map Int.toNat) (st2 ++ [C.lst ((ns'.map Int.toNat).map iN)]) ⟨fun k hk => hlt k ((hmem k).mp hk), asc, fun t h => (hmem t).mpr (hts t h), fun k hk x hx p hp => (hmem p).mpr (hcl k ((hmem k).mp hk) x hx p hp)⟩ f.grw.app (by rw [e3]; exact rdL_new) nl
    rw [e3] at this
    exact this
end Pd
end PartPdNeeded

section PartPdForms
set_option Elab.async false
set_option linter.all false
set_option maxRecDepth 100000
set_option maxHeartbeats 1000000
/-! Pd: `combined`, `one_form`, `form_of`: the forms of linear terms. Own work. -/
namespace Pd
open PySem
local macro_rules | `(tactic| walk_at "s") => `(tactic| (repeat (refine Red.red ?_)))
local macro_rules | `(tactic| walk_at "r") => `(tactic| (repeat (first | refine Red.red ?_ | refine Nxt.mk ?_)))
local macro_rules | `(tactic| walk_at "t") => `(tactic| (repeat (first | refine Red.red ?_ | refine Nxt.mk ?_ | refine ⟨by decide +kernel, by decide +kernel, wayF (by decide +kernel) ?_⟩ | refine ⟨by decide +kernel, by decide +kernel, wayT (by decide +kernel) ?_⟩ | refine ⟨by decide +kernel, ?_⟩ | refine ⟨Nat.le_of_ble_eq_true rfl, ?_⟩ | refine at_is rfl ?_)))
local instance inTup {x : D} {xs : List D} {st : Store} {r : Bool → Prop} : Red (inC x (.tup xs) st r) (x.flat = true ∧ xs.all D.flat = true ∧ r (xs.any fun y => D.eqb y x)) := ⟨id⟩
local instance notinTup {x : D} {xs : List D} {st : Store} {r : Bool → Prop} : Red (notinC x (.tup xs) st r) (x.flat = true ∧ xs.all D.flat = true ∧ r (!(xs.any fun y => D.eqb y x))) := ⟨id⟩
def combinedBody (c : Cl) : TS := sSeq (sAsg (dCall c "greatest" (aCons (dVar 0) (aNil))) (gName 5)) (sSeq (sAsg (dDic) (gName 6)) (sSeq (sFor (iSeq (dTup (aCons (dTup (aCons (dVar 1) (aCons (dVar 2) (aNil)))) (aCons (dTup (aCons (dVar 3) (aCons (dVar 4) (aNil)))) (aNil))))) (gTup (gsCons (gName 7) (gsCons (gName 8) (gsNil))) 2) (sLockD (sFor (iKeysD (dOp ixK (dVar 7) (dC (.int 0)))) (gName 9) (sAsg (dOp andK (dOp addK (dGet2 (dVar 6) (dVar 9) (dC (.int 0))) (dOp mulK (dVar 8) (dGetA (dOp ixK (dVar 7) (dC (.int 0))) (dVar 9)))) (dVar 5)) (gSubD (dVar 6) (dVar 9)))))) (sRet (dTup (aCons (dVar 6) (aCons (dOp andK (dOp addK (dOp mulK (dVar 2) (dOp ixK (dVar 1) (dC (.int 1)))) (dOp mulK (dVar 4) (dOp ixK (dVar 3) (dC (.int 1))))) (dVar 5)) (aNil)))))))
def oneFormBody (c : Cl) : TS := sSeq (sPar 3 4 (aCons (dOp ixK (dVar 2) (dC (.int 0))) (aCons (dOp ixK (dVar 2) (dC (.int 1))) (aNil)))) (sSeq (sIf (tTru (dCmp eqC (dVar 3) (dC (.str "word")))) (sRet (dTup (aCons (dDic) (aCons (dOp ixK (dVar 2) (dC (.int 2))) (aNil))))) (sNext)) (sSeq (sIf (tTru (dCmp eqC (dVar 3) (dC (.str "input")))) (sRet (dTup (aCons (dDisp [(dOp ixK (dVar 2) (dC (.int 2)), dC (.int 1))]) (aCons (dC (.int 0)) (aNil))))) (sNext)) (sSeq (sIf (tOr (tTru (dCmp notinC (dVar 3) (dTup (aCons (dC (.str "+")) (aCons (dC (.str "-")) (aCons (dC (.str "neg")) (aCons (dC (.str "not")) (aCons (dC (.str "*")) (aCons (dC (.str "<<")) (aNil)))))))))) (tTru (dCmp isC (dGetA (dVar 1) (dOp ixK (dVar 2) (dC (.int 2)))) (dC .non)))) (sRet (dC .non)) (sNext)) (sSeq (sAsg (dGetA (dVar 1) (dOp ixK (dVar 2) (dC (.int 2)))) (gName 5)) (sSeq (sIf (tTru (dCmp eqC (dVar 3) (dC (.str "neg")))) (sRet (dCall c "combined" (aCons (dVar 4) (aCons (dVar 5) (aCons (dUn negK (dC (.int 1))) (aCons (dTup (aCons (dDic) (aCons (dC (.int 0)) (aNil)))) (aCons (dC (.int 0)) (aNil)))))))) (sNext)) (sSeq (sIf (tTru (dCmp eqC (dVar 3) (dC (.str "not")))) (sRet (dCall c "combined" (aCons (dVar 4) (aCons (dVar 5) (aCons (dUn negK (dC (.int 1))) (aCons (dTup (aCons (dDic) (aCons (dC (.int 1)) (aNil)))) (aCons (dUn negK (dC (.int 1))) (aNil)))))))) (sNext)) (sSeq (sAsg (dOp ixK (dVar 0) (dOp ixK (dVar 2) (dC (.int 3)))) (gName 6)) (sSeq (sIf (tTru (dCmp eqC (dVar 3) (dC (.str "<<")))) (sRet (dIf (tTru (dCmp eqC (dOp ixK (dVar 6) (dC (.int 0))) (dC (.str "word")))) (dCall c "combined" (aCons (dVar 4) (aCons (dVar 5) (aCons (dOp shlK (dC (.int 1)) (dOp ixK (dVar 6) (dC (.int 2)))) (aCons (dTup (aCons (dDic) (aCons (dC (.int 0)) (aNil)))) (aCons (dC (.int 0)) (aNil))))))) (dC .non))) (sNext)) (sSeq (sIf (tTru (dCmp isC (dGetA (dVar 1) (dOp ixK (dVar 2) (dC (.int 3)))) (dC .non))) (sRet (dC .non)) (sNext)) (sSeq (sIf (tTru (dCmp eqC (dVar 3) (dC (.str "+")))) (sRet (dCall c "combined" (aCons (dVar 4) (aCons (dVar 5) (aCons (dC (.int 1)) (aCons (dGetA (dVar 1) (dOp ixK (dVar 2) (dC (.int 3)))) (aCons (dC (.int 1)) (aNil)))))))) (sNext)) (sSeq (sIf (tTru (dCmp eqC (dVar 3) (dC (.str "-")))) (sRet (dCall c "combined" (aCons (dVar 4) (aCons (dVar 5) (aCons (dC (.int 1)) (aCons (dGetA (dVar 1) (dOp ixK (dVar 2) (dC (.int 3)))) (aCons (dUn negK (dC (.int 1))) (aNil)))))))) (sNext)) (sSeq (sIf (tTru (dCmp eqC (dOp ixK (dVar 6) (dC (.int 0))) (dC (.str "word")))) (sRet (dCall c "combined" (aCons (dVar 4) (aCons (dVar 5) (aCons (dOp ixK (dVar 6) (dC (.int 2))) (aCons (dTup (aCons (dDic) (aCons (dC (.int 0)) (aNil)))) (aCons (dC (.int 0)) (aNil)))))))) (sNext)) (sSeq (sIf (tTru (dCmp eqC (dOp ixK (dOp ixK (dVar 0) (dOp ixK (dVar 2) (dC (.int 2)))) (dC (.int 0))) (dC (.str "word")))) (sRet (dCall c "combined" (aCons (dVar 4) (aCons (dGetA (dVar 1) (dOp ixK (dVar 2) (dC (.int 3)))) (aCons (dOp ixK (dOp ixK (dVar 0) (dOp ixK (dVar 2) (dC (.int 2)))) (dC (.int 2))) (aCons (dTup (aCons (dDic) (aCons (dC (.int 0)) (aNil)))) (aCons (dC (.int 0)) (aNil)))))))) (sNext)) (sRet (dC .non)))))))))))))))
def formOfBody (c : Cl) : TS := sSeq (sAsg (dDic) (gName 2)) (sSeq (sFor (iSeq (dCall c "needed_for" (aCons (dVar 0) (aCons (dLst (aCons (dVar 1) (aNil))) (aNil))))) (gName 3) (sAsg (dCall c "one_form" (aCons (dVar 0) (aCons (dVar 2) (aCons (dOp ixK (dVar 0) (dVar 3)) (aNil))))) (gSubD (dVar 2) (dVar 3)))) (sSeq (sIf (tTru (dCmp isC (dGetA (dVar 2) (dVar 1)) (dC .non))) (sRet (dC .non)) (sNext)) (sSeq (sAsg (dGetA (dVar 2) (dVar 1)) (gTup (gsCons (gName 4) (gsCons (gName 5) (gsNil))) 2)) (sRet (dTup (aCons (dB tupleB (aCons (dLc (iSeq (dB sortedDB (aCons (dVar 4) (aNil)))) (gName 6) (tTru (dCmp neC (dGetA (dVar 4) (dVar 6)) (dC (.int 0)))) (dTup (aCons (dVar 6) (aCons (dGetA (dVar 4) (dVar 6)) (aNil)))) [6]) (aNil))) (aCons (dVar 5) (aNil))))))))
/-- a linear form -/
structure Lf where
  f : Nat → Int
  c : Int
def comb (w t : Int) (a : Lf) (u : Int) (b : Lf) : Lf := ⟨fun j => Builtin.bitAnd (t * a.f j + u * b.f j) (fullI w), Builtin.bitAnd (t * a.c + u * b.c) (fullI w)⟩
structure DRep (kvs : List (Ky × D)) (F : Nat → Int) : Prop where
  js : ∃ js : List Nat, kvs.map (·.1) = js.map (fun j : Nat => (Sum.inl (j : Int) : Ky)) ∧ js.Nodup ∧ ∀ j ∈ js, j < 301
  val : ∀ j : Nat, (valD kvs (.inl (j : Int)) = none ∧ F j = 0) ∨ valD kvs (.inl (j : Int)) = some (.int (F j))
theorem any_key (kvs : List (Ky × D)) (k : Ky) : (kvs.any fun kv => decide (kv.1 = k)) = true ↔ k ∈ kvs.map (·.1) := by
  rw [List.any_eq_true]
  constructor
  · rintro ⟨kv, h, e⟩
    exact List.mem_map.mpr ⟨kv, h, of_decide_eq_true e⟩
  · intro h
    obtain ⟨kv, h, e⟩ := List.mem_map.mp h
    exact ⟨kv, h, decide_eq_true e⟩
theorem put_keys_in {kvs : List (Ky × D)} {k : Ky} {v : D} (h : k ∈ kvs.map (·.1)) : (putD kvs k v).map (·.1) = kvs.map (·.1) := by
  unfold putD
  rw [if_pos ((any_key kvs k).mpr h), List.map_map]
  refine List.map_congr_left fun p _ => ?_
  show (if p.1 = k then (p.1, v) else p).1 = p.1
  split <;> rfl
theorem put_keys_new {kvs : List (Ky × D)} {k : Ky} {v : D} (h : k ∉ kvs.map (·.1)) : (putD kvs k v).map (·.1) = kvs.map (·.1) ++ [k] := by
  unfold putD
  rw [if_neg (fun e => h ((any_key kvs k).mp e)), List.map_append]
  rfl
theorem DRep.nil : DRep [] fun _ => 0 := ⟨⟨[], rfl, by simp, by simp⟩, fun j => .inl ⟨rfl, rfl⟩⟩
theorem DRep.len {kvs : List (Ky × D)} {F : Nat → Int} (h : DRep kvs F) : kvs.length ≤ 301 := by
  obtain ⟨js, e, nd, hl⟩ := h.js
  have h1 := congrArg List.length e
  rw [List.length_map, List.length_map] at h1
  rw [h1]
  exact nodup_le nd hl
theorem DRep.get {kvs : List (Ky × D)} {F : Nat → Int} (h : DRep kvs F) (j : Nat) : (valD kvs (.inl (j : Int))).getD (.int 0) = .int (F j) := by
  rcases h.val j with ⟨h, e⟩ | h <;> rw [h]
  · rw [e]; rfl
  · rfl
theorem DRep.put {kvs : List (Ky × D)} {F : Nat → Int} (h : DRep kvs F) {j : Nat} (hj : j < 301) (z : Int) : DRep (putD kvs (.inl (j : Int)) (.int z)) (fun k => if k = j then z else F k) := by
  obtain ⟨js, e, nd, hl⟩ := h.js
  refine ⟨?_, fun k => ?_⟩
  · have hm : (Sum.inl (j : Int) : Ky) ∈ kvs.map (·.1) ↔ j ∈ js := by
      rw [e]
      constructor
      · intro hh
        obtain ⟨i, hi, ei⟩ := List.mem_map.mp hh
        injection ei with ei
        have : i = j := by omega
        exact this ▸ hi
      · intro hh
        exact List.mem_map.mpr ⟨j, hh, rfl⟩
    by_cases hh : j ∈ js
    · rw [put_keys_in (hm.mpr hh)]
      exact ⟨js, e, nd, hl⟩
    · rw [put_keys_new (fun x => hh (hm.mp x))]
      refine ⟨js ++ [j], by rw [e, List.map_append]; rfl, ?_, fun i hi => ?_⟩
      · rw [List.nodup_append]
        exact ⟨nd, by simp, fun a ha b hb => by simp at hb; subst hb; rintro rfl; exact hh ha⟩
      · simp only [List.mem_append, List.mem_singleton] at hi
        rcases hi with hi | rfl
        · exact hl i hi
        · exact hj
  · rw [val_put]
    by_cases hk : k = j
    · subst hk
      rw [if_pos rfl]
      right
      simp
    · have : ¬ ((Sum.inl (k : Int) : Ky) = Sum.inl (j : Int)) := fun e => by injection e with e; exact hk (by omega)
      rw [if_neg this]
      simp only [if_neg hk]
      exact h.val k
theorem DRep.congr {kvs : List (Ky × D)} {F G : Nat → Int} (h : DRep kvs F) (e : ∀ j, F j = G j) : DRep kvs G := ⟨h.js, fun j => by rw [← e j]; exact h.val j⟩
def FormIs (b : Nat) (st : Store) (d : D) : Option Lf → Prop
  | none => d = .non
  | some l => ∃ n kvs, d = .tup [.ref n, .int l.c] ∧ b ≤ n ∧ rdD st n kvs ∧ DRep kvs l.f
theorem FormIs.grw {b : Nat} {st st' : Store} {d : D} {o : Option Lf} (h : FormIs b st d o) (f : Grw st st') : FormIs b st' d o := by
  cases o with
  | none => exact h
  | some l =>
    obtain ⟨n, kvs, e, hb, h1, h2⟩ := h
    exact ⟨n, kvs, e, hb, f.rdD h1, h2⟩
theorem FormIs.set {b p : Nat} {st : Store} {d : D} {o : Option Lf} {c : C} (h : FormIs b st d o) (hp : p < b) : FormIs b (st.set p c) d o := by
  cases o with
  | none => exact h
  | some l =>
    obtain ⟨n, kvs, e, hb, h1, h2⟩ := h
    exact ⟨n, kvs, e, hb, rdD_ne h1 (by omega), h2⟩
def Lf.In (l : Lf) : Prop := (∀ j, 0 ≤ l.f j ∧ l.f j ≤ 255) ∧ 0 ≤ l.c ∧ l.c ≤ 255
section
variable {prog : String → Option Def} {st : Store} {Q : K} {k : Nat}
def partS : TS := sLockD (sFor (iKeysD (dOp ixK (dVar 7) (dC (.int 0)))) (gName 9) (sAsg (dOp andK (dOp addK (dGet2 (dVar 6) (dVar 9) (dC (.int 0))) (dOp mulK (dVar 8) (dGetA (dOp ixK (dVar 7) (dC (.int 0))) (dVar 9)))) (dVar 5)) (gSubD (dVar 6) (dVar 9))))
theorem part_ok {D0 : Ends} {o0 o1 o2 o3 o4 o9 : Option D} {w cnt c : Int} {p n : Nat} {kvs kvs6 : List (Ky × D)} {f F : Nat → Int} (hn : rdD st n kvs) (rn : DRep kvs f) (hp : rdD st p kvs6) (rp : DRep kvs6 F) (ne : n ≠ p) (hf : ∀ j, 0 ≤ f j ∧ f j ≤ 255) (hF : ∀ j, Builtin.bitAnd (F j) (fullI w) = F j)
    (q : ∀ K o9', DRep K (fun j => Builtin.bitAnd (F j + cnt * f j) (fullI w)) → D0.nx [o0, o1, o2, o3, o4, some (.int (fullI w)), some (.ref p), some (.tup [.ref n, .int c]), some (.int cnt), o9'] (st.set p (.dic K))) :
    partS D0 [o0, o1, o2, o3, o4, some (.int (fullI w)), some (.ref p), some (.tup [.ref n, .int c]), some (.int cnt), o9] st := by
  obtain ⟨js, ej, nd, jl⟩ := rn.js
  have hnl := rdD_lt hn
  refine ⟨n, kvs, hn, fun tk => ?_⟩
  walk_at "s"
  refine at_is rfl ?_
  walk_at "s"
  refine ⟨n, kvs, tk, rfl, by rw [List.getElem?_set_self hnl], ?_⟩
  have ek : keysD kvs = js.map iN := by
    unfold keysD
    rw [show (kvs.map fun kv => keyD kv.1) = (kvs.map (·.1)).map keyD by rw [List.map_map]; rfl, ej, List.map_map]
    rfl
  refine for_map js iN ek (fun i σ st' => ∃ o9 K, σ = [o0, o1, o2, o3, o4, some (.int (fullI w)), some (.ref p), some (.tup [.ref n, .int c]), some (.int cnt), o9] ∧ st' = (st.set n (.frd kvs tk)).set p (.dic K) ∧ DRep K (fun k => if k ∈ js.take i then Builtin.bitAnd (F k + cnt * f k) (fullI w) else F k)) ⟨o9, kvs6, rfl, ?_, rp.congr fun j => by simp⟩ (fun i j σ st' hj ⟨o9, K, e, es, r⟩ N hN => ?_) (fun σ st' ⟨o9, K, e, es, r⟩ => ?_)
  · apply List.ext_getElem?
    intro m
    by_cases hm : m = p
    · subst hm
      have hh : rdD (st.set n (.frd kvs tk)) m kvs6 := rdD_ne hp (Ne.symm ne)
      rw [List.getElem?_set_self (rdD_lt hh)]
      exact hh
    · rw [List.getElem?_set_ne (Ne.symm hm)]
  · subst e
    have hjm : j ∈ js := List.mem_of_getElem? hj
    have hpl : rdD st' p K := by
      subst es
      have hh : rdD (st.set n (.frd kvs tk)) p kvs6 := rdD_ne hp (Ne.symm ne)
      exact rdD_set hh
    have hng : st'[n]? = some (.frd kvs tk) := by
      subst es
      rw [List.getElem?_set_ne (Ne.symm ne), List.getElem?_set_self hnl]
    refine ⟨hng, ?_⟩
    unfold iN
    walk_at "s"
    refine ⟨⟨_, .inl hpl⟩, ?_⟩
    walk_at "s"
    refine get2I_at (.inl hpl) ?_
    rw [r.get j]
    walk_at "s"
    refine at_is rfl ?_
    walk_at "s"
    have hv : valD kvs (.inl (j : Int)) = some (.int (f j)) := by
      rcases rn.val j with ⟨h, _⟩ | h
      · exfalso
        have h1 := kOf_has js j
        have hk : (Sum.inl (j : Int) : Ky) ∈ kvs.map (·.1) := by rw [ej]; exact List.mem_map.mpr ⟨j, hjm, rfl⟩
        unfold valD at h
        rw [Option.map_eq_none_iff, List.find?_eq_none] at h
        obtain ⟨kv, hkv, e⟩ := List.mem_map.mp hk
        exact h kv hkv (by simpa using e)
      · exact h
    refine getAI_at (.inr ⟨tk, hng⟩) hv ?_
    walk_at "s"
    have hfj := hf j
    refine ⟨.inr ⟨by omega, by omega⟩, ?_⟩
    walk_at "s"
    have hkl := r.len
    refine setDI_at hpl (by simp [szl]; omega) ?_
    have hni : j ∉ js.take i := by
      intro hmem
      obtain ⟨m, hm⟩ := List.mem_iff_getElem?.mp hmem
      have hmi : m < i := by
        have := (List.getElem?_eq_some_iff.mp hm).1
        rw [List.length_take] at this; omega
      rw [List.getElem?_take_of_lt hmi] at hm
      obtain ⟨h1, h2⟩ := List.getElem?_eq_some_iff.mp hm
      obtain ⟨h3, h4⟩ := List.getElem?_eq_some_iff.mp hj
      exact List.pairwise_iff_getElem.mp nd m i h1 h3 hmi (h2.trans h4.symm)
    rw [if_neg hni]
    refine hN _ _ ⟨_, _, rfl, by subst es; rw [List.set_set], (r.put (jl j hjm) _).congr fun k => ?_⟩
    rw [List.take_add_one, hj]
    by_cases hk : k = j
    · subst hk; simp
    · rw [if_neg hk]
      simp [hk]
  · subst e; subst es
    have eg : ((st.set n (.frd kvs tk)).set p (.dic K))[n]? = some (.frd kvs tk) := by rw [List.getElem?_set_ne (Ne.symm ne), List.getElem?_set_self hnl]
    refine ⟨eg, eg, ?_⟩
    · have es : (((st.set n (.frd kvs tk)).set p (.dic K)).set n (.dic kvs)) = st.set p (.dic K) := by
        apply List.ext_getElem?
        intro m
        by_cases hm : m = n
        · subst hm
          rw [List.getElem?_set_self (by rw [List.length_set, List.length_set]; exact hnl), List.getElem?_set_ne (Ne.symm ne)]
          exact hn.symm
        · rw [List.getElem?_set_ne (Ne.symm hm)]
          by_cases hp' : m = p
          · subst hp'
            rw [List.getElem?_set_self (by rw [List.length_set]; exact rdD_lt hp), List.getElem?_set_self (rdD_lt hp)]
          · rw [List.getElem?_set_ne (Ne.symm hp'), List.getElem?_set_ne (Ne.symm hm), List.getElem?_set_ne (Ne.symm hp')]
      rw [es]
      refine q K _ (r.congr fun k => ?_)
      rw [List.take_length]
      by_cases hk : k ∈ js
      · rw [if_pos hk]
      · rw [if_neg hk]
        have hz : f k = 0 := by
          rcases rn.val k with ⟨_, h⟩ | h
          · exact h
          · exfalso
            have h2 : (Sum.inl (k : Int) : Ky) ∈ kvs.map (·.1) := by
              unfold valD at h
              cases hf : kvs.find? (fun kv => decide (kv.1 = (Sum.inl (k : Int) : Ky))) with
              | none => rw [hf] at h; cases h
              | some kv =>
                have h3 := List.find?_some hf
                have h4 := List.mem_of_find?_eq_some hf
                exact List.mem_map.mpr ⟨kv, h4, of_decide_eq_true h3⟩
            rw [ej] at h2
            obtain ⟨i, hi, e⟩ := List.mem_map.mp h2
            injection e with e
            have : i = k := by omega
            exact hk (this ▸ hi)
        rw [hz, Int.mul_zero, Int.add_zero, hF k]
theorem mask_mask {x y w : Int} : Builtin.bitAnd (Builtin.bitAnd x (fullI w) + y) (fullI w) = Builtin.bitAnd (x + y) (fullI w) := by
  unfold fullI
  rw [and_maskZ, and_maskZ, and_maskZ, Int.emod_add_emod]
theorem mask_idem {x w : Int} : Builtin.bitAnd (Builtin.bitAnd x (fullI w)) (fullI w) = Builtin.bitAnd x (fullI w) := by
  have := mask_mask (x := x) (y := 0) (w := w)
  rwa [Int.add_zero, Int.add_zero] at this
theorem mask_zero {w : Int} : Builtin.bitAnd 0 (fullI w) = 0 := by unfold fullI; rw [and_maskZ, Int.zero_emod]
theorem combined_ok (hp : prog "combined" = some ⟨5, 10, combinedBody⟩) (hg : prog "greatest" = some ⟨1, 1, greatestBody⟩) {w t u : Int} {d1 d2 : D} {a b : Lf} {bb : Nat} (hbb : bb ≤ st.length) (w0 : 0 ≤ w) (w1 : w ≤ 8) (h1 : FormIs bb st d1 (some a)) (h2 : FormIs bb st d2 (some b)) (ha : a.In) (hb : b.In)
    (q : ∀ d st', FormIs bb st' d (some (comb w t a u b)) → Grw st st' → Q d st') : callN prog (k + 2) "combined" [.int w, d1, .int t, d2, .int u] st Q := by
  obtain ⟨n1, kv1, rfl, _, r1, e1⟩ := h1
  obtain ⟨n2, kv2, rfl, _, r2, e2⟩ := h2
  have l1 := rdD_lt r1
  have l2 := rdD_lt r2
  refine call_intro hp rfl ?_
  unfold combinedBody
  walk_at "s"
  refine greatest_ok hg w0 w1 ?_
  walk_at "t"
  refine ⟨trivial, ?_⟩
  walk_at "s"
  refine ⟨rfl, ?_⟩
  walk_at "s"
  have z1 : rdD (st ++ [C.dic []]) n1 kv1 := rdD_app r1
  have z0 : rdD (st ++ [C.dic []]) st.length [] := rdD_new
  refine part_ok (F := fun _ => 0) z1 e1 z0 .nil (by omega) ha.1 (fun _ => mask_zero) (fun K o9 rK => ?_)
  have es : (st ++ [C.dic []]).set st.length (C.dic K) = st ++ [C.dic K] := set_app st _ _
  rw [es]
  refine ⟨trivial, ?_⟩
  walk_at "s"
  refine ⟨rfl, ?_⟩
  walk_at "s"
  have z2 : rdD (st ++ [C.dic K]) n2 kv2 := rdD_app r2
  have z3 : rdD (st ++ [C.dic K]) st.length K := rdD_new
  refine part_ok z2 e2 z3 rK (by omega) hb.1 (fun _ => mask_idem) (fun K2 o9 rK2 => ?_)
  have es2 : (st ++ [C.dic K]).set st.length (C.dic K2) = st ++ [C.dic K2] := set_app st _ _
  rw [es2]
  refine ⟨trivial, ?_⟩
  walk_at "r"
  refine at_is rfl ?_
  have hbc := hb.2
  have hac := ha.2
  walk_at "s"
  refine ⟨.inr ⟨by omega, by omega⟩, ?_⟩
  walk_at "s"
  refine at_is rfl ?_
  walk_at "s"
  refine ⟨.inr ⟨by omega, by omega⟩, ?_⟩
  walk_at "s"
  refine ⟨Nat.le_of_ble_eq_true rfl, ?_⟩
  refine q _ _ ⟨st.length, K2, rfl, hbb, rdD_new, rK2.congr fun j => ?_⟩ (.app (.refl _))
  show Builtin.bitAnd (Builtin.bitAnd (0 + t * a.f j) (fullI w) + u * b.f j) (fullI w) = Builtin.bitAnd (t * a.f j + u * b.f j) (fullI w)
  rw [mask_mask, Int.zero_add]
/-! `one_form` -/
def zL : Lf := ⟨fun _ => 0, 0⟩
def oL : Lf := ⟨fun _ => 0, 1⟩
def wordOf (ns : List Nd) (b : Nat) : Option Int := match ns[b]? with
  | some (.word _ v) => some v
  | _ => none
def lin1 (ns : List Nd) (fs : Nat → Option Lf) : Nd → Option Lf
  | .word _ v => some ⟨fun _ => 0, v⟩
  | .inp _ i => some ⟨fun j => if j = i then 1 else 0, 0⟩
  | .one .neg w a => (fs a).map fun l => comb w (-1) l 0 zL
  | .one .not w a => (fs a).map fun l => comb w (-1) l (-1) oL
  | .two .shl w a b => (fs a).bind fun l => (wordOf ns b).map fun v => comb w (1 * 2 ^ v.toNat) l 0 zL
  | .two .add w a b => (fs a).bind fun l => (fs b).map fun r => comb w 1 l 1 r
  | .two .sub w a b => (fs a).bind fun l => (fs b).map fun r => comb w 1 l (-1) r
  | .two .mul w a b => (fs a).bind fun l => (fs b).bind fun r => match wordOf ns b, wordOf ns a with
    | some v, _ => some (comb w v l 0 zL)
    | none, some v => some (comb w v r 0 zL)
    | none, none => none
  | _ => none
theorem zL_in : zL.In := ⟨fun _ => ⟨Int.le_refl 0, show (0 : Int) ≤ 255 by decide⟩, by decide, by decide⟩
theorem oL_in : oL.In := ⟨fun _ => ⟨Int.le_refl 0, show (0 : Int) ≤ 255 by decide⟩, by decide, by decide⟩
theorem comb_in {w t u : Int} {a b : Lf} (w0 : 0 ≤ w) (w1 : w ≤ 8) : (comb w t a u b).In := by
  have hb := fullI_bd (w := w) w0 w1
  have m : ∀ x, 0 ≤ Builtin.bitAnd x (fullI w) ∧ Builtin.bitAnd x (fullI w) ≤ 255 := fun x => by
    have := and_in x w
    omega
  exact ⟨fun j => m _, m _⟩
def nameOf : Nd → Str
  | .word _ _ => Str.ofString "word"
  | .inp _ _ => Str.ofString "input"
  | .one o _ _ => opS o
  | .two o _ _ _ => opS o
  | .pick _ _ _ _ => opS .pick
def tailOf : Nd → List D
  | .word _ v => [.int v]
  | .inp _ i => [.int (i : Int)]
  | .one _ _ a => [.int (a : Int)]
  | .two _ _ a b => [.int (a : Int), .int (b : Int)]
  | .pick _ c a b => [.int (c : Int), .int (a : Int), .int (b : Int)]
theorem dat_eq (x : Nd) : x.dat = .tup (.str (nameOf x) :: .int x.wd :: tailOf x) := by cases x <;> rfl
def isWord : Nd → Bool
  | .word _ _ => true
  | _ => false
theorem name_ok (x : Nd) : okS (nameOf x) = true := by
  cases x with
  | word w v => show okS (Str.ofString "word") = true; decide +kernel
  | inp w i => show okS (Str.ofString "input") = true; decide +kernel
  | one o w a => exact opS_ok o
  | two o w a b => exact opS_ok o
  | pick w c a b => exact opS_ok .pick
theorem name_word (x : Nd) : decide (nameOf x = Str.ofString "word") = isWord x := by
  cases x with
  | word w v => show decide (Str.ofString "word" = Str.ofString "word") = true; decide +kernel
  | inp w i => show decide (Str.ofString "input" = Str.ofString "word") = false; decide +kernel
  | one o w a => exact (opS_w o).2.1
  | two o w a b => exact (opS_w o).2.1
  | pick w c a b => exact (opS_w .pick).2.1
theorem word_test {x : Nd} {r : Bool → Prop} (q : r (isWord x)) : eqC (.str (nameOf x)) (.str (Str.ofString "word")) st r := by
  refine eq_ss ⟨name_ok x, by decide +kernel, ?_⟩
  rw [name_word]; exact q
theorem wordOf_at {ns : List Nd} {b : Nat} (hb : b < ns.length) : wordOf ns b = match ns[b] with | .word _ v => some v | _ => none := by
  unfold wordOf
  rw [List.getElem?_eq_getElem hb]
  cases ns[b] <;> rfl
theorem word_is {ns : List Nd} {b : Nat} (hb : b < ns.length) (h : isWord ns[b] = true) : ∃ v, tailOf ns[b] = [.int v] ∧ wordOf ns b = some v := by
  rw [wordOf_at hb]
  cases hx : ns[b] with
  | word w v => exact ⟨v, rfl, rfl⟩
  | inp w i => rw [hx] at h; cases h
  | one o w a => rw [hx] at h; cases h
  | two o w a c => rw [hx] at h; cases h
  | pick w c a d => rw [hx] at h; cases h
theorem word_no {ns : List Nd} {b : Nat} (hb : b < ns.length) (h : isWord ns[b] = false) : wordOf ns b = none := by
  rw [wordOf_at hb]
  cases hx : ns[b] with
  | word w v => rw [hx] at h; cases h
  | inp w i => rfl
  | one o w a => rfl
  | two o w a c => rfl
  | pick w c a d => rfl
/-- the operands' forms in the dict -/
def Fms (bb : Nat) (st : Store) (kf : List (Ky × D)) (fs : Nat → Option Lf) (p : Nat) : Prop := ∃ d, valD kf (.inl (p : Int)) = some d ∧ FormIs bb st d (fs p) ∧ ∀ l, fs p = some l → l.In
theorem isN_form {bb : Nat} {d : D} {o : Option Lf} (h : FormIs bb st d o) : isNon d = o.isNone := by
  cases o with
  | none => rw [show d = .non from h]; rfl
  | some l => obtain ⟨n, kvs, e, _, _⟩ := h; rw [e]; rfl
theorem word_in {ns : List Nd} (S : Sheet ns) {b : Nat} {v : Int} (h : wordOf ns b = some v) : 0 ≤ v ∧ v ≤ 255 := by
  unfold wordOf at h
  cases hx : ns[b]? with
  | none => rw [hx] at h; cases h
  | some y =>
    rw [hx] at h
    cases y with
    | word w z =>
      cases h
      have g := (S.pre hx).2
      have hb := fullI_bd (w := w) (by have := g.1; omega) g.2.1
      exact ⟨g.2.2.1, by have := g.2.2.2; omega⟩
    | inp w i => cases h
    | one o w a => cases h
    | two o w a c => cases h
    | pick w c a d => cases h
theorem one_form_ok (hp : prog "one_form" = some ⟨3, 7, oneFormBody⟩) (hc : prog "combined" = some ⟨5, 10, combinedBody⟩) (hg : prog "greatest" = some ⟨1, 1, greatestBody⟩) {ns : List Nd} {fs : Nat → Option Lf} {x : Nd} {pf : Nat} {kf : List (Ky × D)} {ws : List Int} {bb : Nat} (hbb : bb ≤ st.length)
    (S : Sheet ns) (G : Good ws x) (hpl : ∀ p ∈ Pd.parts x, p < ns.length) (hf : ∀ p ∈ Pd.parts x, Fms bb st kf fs p) (hk : rdD st pf kf)
    (q : ∀ d st', FormIs bb st' d (lin1 ns fs x) → Grw st st' → Q d st') : callN prog (k + 3) "one_form" [.tup (ns.map Nd.dat), .ref pf, x.dat] st Q := by
  refine call_intro hp rfl ?_
  unfold oneFormBody
  have zf : FormIs bb (st ++ [C.dic []]) (.tup [.ref st.length, .int 0]) (some zL) := ⟨_, _, rfl, hbb, rdD_new, .nil⟩
  have of : FormIs bb (st ++ [C.dic []]) (.tup [.ref st.length, .int 1]) (some oL) := ⟨_, _, rfl, hbb, rdD_new, .nil⟩
  cases x with
  | word w v =>
    rw [show (Nd.word w v).dat = .tup [.str (Str.ofString "word"), .int w, .int v] from rfl]
    walk_at "t"
    exact q _ _ ⟨st.length, [], rfl, hbb, rdD_new, .nil⟩ (.app (.refl _))
  | inp w i =>
    rw [show (Nd.inp w i).dat = .tup [.str (Str.ofString "input"), .int w, .int (i : Int)] from rfl]
    walk_at "t"
    refine ⟨[(.inl (i : Int), .int 1)], rfl, by simp, rdD_new, ?_⟩
    rw [set_app]
    walk_at "t"
    refine q _ _ ⟨st.length, _, rfl, hbb, rdD_new, ?_⟩ (.app (.refl _))
    have := DRep.put .nil (j := i) (by have := G.2.2; omega) 1
    exact this
  | one o w a =>
    obtain ⟨w0, w1, ho, u, ha, hu⟩ := G
    obtain ⟨d, hv, hd, hin⟩ := hf a (by simp [Pd.parts])
    cases o <;> try (cases ho; done)
    case wide =>
      rw [show (Nd.one .wide w a).dat = .tup [.str (Str.ofString "wide"), .int w, .int (a : Int)] from rfl]
      walk_at "t"
      exact q _ _ rfl (.refl _)
    case neg =>
      rw [show (Nd.one .neg w a).dat = .tup [.str (Str.ofString "neg"), .int w, .int (a : Int)] from rfl]
      walk_at "t"
      refine getAI_at (.inl hk) hv ?_
      walk_at "t"
      rw [isN_form hd]
      cases hfs : fs a with
      | none =>
        have eL : lin1 ns fs (.one .neg w a) = none := by simp [lin1, hfs]
        refine wayT rfl ?_
        walk_at "t"
        exact q _ _ (by rw [eL]; exact rfl) (.refl _)
      | some l =>
        have eL : lin1 ns fs (.one .neg w a) = some (comb w (-1) l (0) zL) := by simp [lin1, hfs]
        rw [hfs] at hd
        refine wayF rfl ?_
        walk_at "t"
        refine getAI_at (.inl hk) hv ?_
        walk_at "t"
        refine combined_ok hc hg (bb := bb) (by simp; omega) (by omega) w1 (hd.grw (.app (.refl _))) zf (hin l hfs) zL_in (fun d' st' h g => ?_)
        exact q _ _ (by rw [eL]; exact h) ((Grw.app (.refl _)).trans g)
    case not =>
      rw [show (Nd.one .not w a).dat = .tup [.str (Str.ofString "not"), .int w, .int (a : Int)] from rfl]
      walk_at "t"
      refine getAI_at (.inl hk) hv ?_
      walk_at "t"
      rw [isN_form hd]
      cases hfs : fs a with
      | none =>
        have eL : lin1 ns fs (.one .not w a) = none := by simp [lin1, hfs]
        refine wayT rfl ?_
        walk_at "t"
        exact q _ _ (by rw [eL]; exact rfl) (.refl _)
      | some l =>
        have eL : lin1 ns fs (.one .not w a) = some (comb w (-1) l (-1) oL) := by simp [lin1, hfs]
        rw [hfs] at hd
        refine wayF rfl ?_
        walk_at "t"
        refine getAI_at (.inl hk) hv ?_
        walk_at "t"
        refine combined_ok hc hg (bb := bb) (by simp; omega) (by omega) w1 (hd.grw (.app (.refl _))) of (hin l hfs) oL_in (fun d' st' h g => ?_)
        exact q _ _ (by rw [eL]; exact h) ((Grw.app (.refl _)).trans g)
  | two o w a b =>
    obtain ⟨w0, w1, ho, u, v, ha, hb, g1, g2, g3⟩ := G
    obtain ⟨d, hv, hd, hin⟩ := hf a (by simp [Pd.parts])
    obtain ⟨e, hve, hde, hine⟩ := hf b (by simp [Pd.parts])
    have hla := hpl a (by simp [Pd.parts])
    have hlb := hpl b (by simp [Pd.parts])
    cases o <;> try (cases ho; done)
    case and =>
      rw [show (Nd.two .and w a b).dat = .tup [.str (Str.ofString "&"), .int w, .int (a : Int), .int (b : Int)] from rfl]
      walk_at "t"
      exact q _ _ rfl (.refl _)
    case or =>
      rw [show (Nd.two .or w a b).dat = .tup [.str (Str.ofString "|"), .int w, .int (a : Int), .int (b : Int)] from rfl]
      walk_at "t"
      exact q _ _ rfl (.refl _)
    case xor =>
      rw [show (Nd.two .xor w a b).dat = .tup [.str (Str.ofString "^"), .int w, .int (a : Int), .int (b : Int)] from rfl]
      walk_at "t"
      exact q _ _ rfl (.refl _)
    case shr =>
      rw [show (Nd.two .shr w a b).dat = .tup [.str (Str.ofString ">>"), .int w, .int (a : Int), .int (b : Int)] from rfl]
      walk_at "t"
      exact q _ _ rfl (.refl _)
    case div =>
      rw [show (Nd.two .div w a b).dat = .tup [.str (Str.ofString "div"), .int w, .int (a : Int), .int (b : Int)] from rfl]
      walk_at "t"
      exact q _ _ rfl (.refl _)
    case rem =>
      rw [show (Nd.two .rem w a b).dat = .tup [.str (Str.ofString "rem"), .int w, .int (a : Int), .int (b : Int)] from rfl]
      walk_at "t"
      exact q _ _ rfl (.refl _)
    case eq =>
      rw [show (Nd.two .eq w a b).dat = .tup [.str (Str.ofString "=="), .int w, .int (a : Int), .int (b : Int)] from rfl]
      walk_at "t"
      exact q _ _ rfl (.refl _)
    case ne =>
      rw [show (Nd.two .ne w a b).dat = .tup [.str (Str.ofString "!="), .int w, .int (a : Int), .int (b : Int)] from rfl]
      walk_at "t"
      exact q _ _ rfl (.refl _)
    case lt =>
      rw [show (Nd.two .lt w a b).dat = .tup [.str (Str.ofString "<"), .int w, .int (a : Int), .int (b : Int)] from rfl]
      walk_at "t"
      exact q _ _ rfl (.refl _)
    case le =>
      rw [show (Nd.two .le w a b).dat = .tup [.str (Str.ofString "<="), .int w, .int (a : Int), .int (b : Int)] from rfl]
      walk_at "t"
      exact q _ _ rfl (.refl _)
    case add =>
      rw [show (Nd.two .add w a b).dat = .tup [.str (Str.ofString "+"), .int w, .int (a : Int), .int (b : Int)] from rfl]
      walk_at "t"
      refine getAI_at (.inl hk) hv ?_
      walk_at "t"
      rw [isN_form hd]
      cases hfs : fs a with
      | none =>
        have eL : lin1 ns fs (.two .add w a b) = none := by simp [lin1, hfs]
        refine wayT rfl ?_
        walk_at "t"
        exact q _ _ (by rw [eL]; exact rfl) (.refl _)
      | some l =>
        rw [hfs] at hd
        refine wayF rfl ?_
        walk_at "t"
        refine getAI_at (.inl hk) hv ?_
        walk_at "t"
        refine at_is (at_nd hlb) ?_
        walk_at "t"
        refine getAI_at (.inl hk) hve ?_
        walk_at "t"
        rw [isN_form hde]
        cases hfe : fs b with
        | none =>
          have eL : lin1 ns fs (.two .add w a b) = none := by simp [lin1, hfs, hfe]
          refine wayT rfl ?_
          walk_at "t"
          exact q _ _ (by rw [eL]; exact rfl) (.refl _)
        | some r =>
          have eL : lin1 ns fs (.two .add w a b) = some (comb w 1 l (1) r) := by simp [lin1, hfs, hfe]
          rw [hfe] at hde
          refine wayF rfl ?_
          walk_at "t"
          refine getAI_at (.inl hk) hve ?_
          walk_at "t"
          refine combined_ok hc hg (bb := bb) hbb (by omega) w1 hd hde (hin l hfs) (hine r hfe) (fun d' st' h g => ?_)
          exact q _ _ (by rw [eL]; exact h) g
    case sub =>
      rw [show (Nd.two .sub w a b).dat = .tup [.str (Str.ofString "-"), .int w, .int (a : Int), .int (b : Int)] from rfl]
      walk_at "t"
      refine getAI_at (.inl hk) hv ?_
      walk_at "t"
      rw [isN_form hd]
      cases hfs : fs a with
      | none =>
        have eL : lin1 ns fs (.two .sub w a b) = none := by simp [lin1, hfs]
        refine wayT rfl ?_
        walk_at "t"
        exact q _ _ (by rw [eL]; exact rfl) (.refl _)
      | some l =>
        rw [hfs] at hd
        refine wayF rfl ?_
        walk_at "t"
        refine getAI_at (.inl hk) hv ?_
        walk_at "t"
        refine at_is (at_nd hlb) ?_
        walk_at "t"
        refine getAI_at (.inl hk) hve ?_
        walk_at "t"
        rw [isN_form hde]
        cases hfe : fs b with
        | none =>
          have eL : lin1 ns fs (.two .sub w a b) = none := by simp [lin1, hfs, hfe]
          refine wayT rfl ?_
          walk_at "t"
          exact q _ _ (by rw [eL]; exact rfl) (.refl _)
        | some r =>
          have eL : lin1 ns fs (.two .sub w a b) = some (comb w 1 l (-1) r) := by simp [lin1, hfs, hfe]
          rw [hfe] at hde
          refine wayF rfl ?_
          walk_at "t"
          refine getAI_at (.inl hk) hve ?_
          walk_at "t"
          refine combined_ok hc hg (bb := bb) hbb (by omega) w1 hd hde (hin l hfs) (hine r hfe) (fun d' st' h g => ?_)
          exact q _ _ (by rw [eL]; exact h) g
    case shl =>
      rw [show (Nd.two .shl w a b).dat = .tup [.str (Str.ofString "<<"), .int w, .int (a : Int), .int (b : Int)] from rfl]
      walk_at "t"
      refine getAI_at (.inl hk) hv ?_
      walk_at "t"
      rw [isN_form hd]
      cases hfs : fs a with
      | none =>
        have eL : lin1 ns fs (.two .shl w a b) = none := by simp [lin1, hfs]
        refine wayT rfl ?_
        walk_at "t"
        exact q _ _ (by rw [eL]; exact rfl) (.refl _)
      | some l =>
        rw [hfs] at hd
        refine wayF rfl ?_
        walk_at "t"
        refine getAI_at (.inl hk) hv ?_
        walk_at "t"
        refine at_is (at_nd hlb) ?_
        rw [dat_eq]
        walk_at "t"
        refine ⟨name_ok _, by decide +kernel, ?_⟩
        rw [name_word]
        walk_at "t"
        cases hw : isWord ns[b] with
        | true =>
          obtain ⟨z, hz, hz2⟩ := word_is hlb hw
          have eL : lin1 ns fs (.two .shl w a b) = some (comb w (1 * 2 ^ z.toNat) l 0 zL) := by simp [lin1, hfs, hz2]
          have hz3 := word_in S hz2
          rw [hz]
          refine wayT rfl ?_
          walk_at "t"
          refine ⟨cpow_small hz3.1 (by omega), ?_⟩
          walk_at "t"
          refine combined_ok hc hg (bb := bb) (by simp; omega) (by omega) w1 (hd.grw (.app (.refl _))) zf (hin l hfs) zL_in (fun d' st' h g => ?_)
          exact q _ _ (by rw [eL]; exact h) ((Grw.app (.refl _)).trans g)
        | false =>
          have eL : lin1 ns fs (.two .shl w a b) = none := by simp [lin1, hfs, word_no hlb hw]
          refine wayF rfl ?_
          walk_at "t"
          exact q _ _ (by rw [eL]; exact rfl) (.refl _)
    case mul =>
      rw [show (Nd.two .mul w a b).dat = .tup [.str (Str.ofString "*"), .int w, .int (a : Int), .int (b : Int)] from rfl]
      walk_at "t"
      refine getAI_at (.inl hk) hv ?_
      walk_at "t"
      rw [isN_form hd]
      cases hfs : fs a with
      | none =>
        have eL : lin1 ns fs (.two .mul w a b) = none := by simp [lin1, hfs]
        refine wayT rfl ?_
        walk_at "t"
        exact q _ _ (by rw [eL]; exact rfl) (.refl _)
      | some l =>
        rw [hfs] at hd
        refine wayF rfl ?_
        walk_at "t"
        refine getAI_at (.inl hk) hv ?_
        walk_at "t"
        refine at_is (at_nd hlb) ?_
        rw [dat_eq]
        walk_at "t"
        refine getAI_at (.inl hk) hve ?_
        walk_at "t"
        rw [isN_form hde]
        cases hfe : fs b with
        | none =>
          have eL : lin1 ns fs (.two .mul w a b) = none := by simp [lin1, hfs, hfe]
          refine wayT rfl ?_
          walk_at "t"
          exact q _ _ (by rw [eL]; exact rfl) (.refl _)
        | some r =>
          rw [hfe] at hde
          refine wayF rfl ?_
          walk_at "t"
          refine ⟨name_ok _, by decide +kernel, ?_⟩
          rw [name_word]
          walk_at "t"
          cases hw : isWord ns[b] with
          | true =>
            obtain ⟨z, hz, hz2⟩ := word_is hlb hw
            have eL : lin1 ns fs (.two .mul w a b) = some (comb w z l 0 zL) := by simp [lin1, hfs, hfe, hz2]
            rw [hz]
            refine wayT rfl ?_
            walk_at "t"
            refine combined_ok hc hg (bb := bb) (by simp; omega) (by omega) w1 (hd.grw (.app (.refl _))) zf (hin l hfs) zL_in (fun d' st' h g => ?_)
            exact q _ _ (by rw [eL]; exact h) ((Grw.app (.refl _)).trans g)
          | false =>
            have hn := word_no hlb hw
            refine wayF rfl ?_
            walk_at "t"
            refine at_is (at_nd hla) ?_
            rw [dat_eq]
            walk_at "t"
            refine ⟨name_ok _, by decide +kernel, ?_⟩
            rw [name_word]
            walk_at "t"
            cases hwa : isWord ns[a] with
            | true =>
              obtain ⟨z, hz, hz2⟩ := word_is hla hwa
              have eL : lin1 ns fs (.two .mul w a b) = some (comb w z r 0 zL) := by simp [lin1, hfs, hfe, hz2, hn]
              refine wayT rfl ?_
              walk_at "t"
              refine getAI_at (.inl hk) hve ?_
              walk_at "t"
              refine at_is (at_nd hla) ?_
              rw [dat_eq, hz]
              walk_at "t"
              refine combined_ok hc hg (bb := bb) (by simp; omega) (by omega) w1 (hde.grw (.app (.refl _))) zf (hine r hfe) zL_in (fun d' st' h g => ?_)
              exact q _ _ (by rw [eL]; exact h) ((Grw.app (.refl _)).trans g)
            | false =>
              have eL : lin1 ns fs (.two .mul w a b) = none := by simp [lin1, hfs, hfe, hn, word_no hla hwa]
              refine wayF rfl ?_
              walk_at "t"
              exact q _ _ (by rw [eL]; exact rfl) (.refl _)
  | pick w c a b =>
    rw [show (Nd.pick w c a b).dat = .tup [.str (Str.ofString "pick"), .int w, .int (c : Int), .int (a : Int), .int (b : Int)] from rfl]
    walk_at "t"
    exact q _ _ rfl (.refl _)
/-! the forms of a sheet -/
theorem lin1_congr {ns : List Nd} {fs gs : Nat → Option Lf} {x : Nd} (h : ∀ p ∈ Pd.parts x, fs p = gs p) : lin1 ns fs x = lin1 ns gs x := by
  cases x with
  | word w v => rfl
  | inp w i => rfl
  | one o w a =>
    have ha := h a (by simp [Pd.parts])
    cases o <;> simp [lin1, ha]
  | two o w a b =>
    have ha := h a (by simp [Pd.parts])
    have hb := h b (by simp [Pd.parts])
    cases o <;> simp [lin1, ha, hb]
  | pick w c a b => rfl
def linL (all : List Nd) (ns : List Nd) : List (Option Lf) := ns.foldl (fun fs x => fs ++ [lin1 all (fun p => (fs[p]?).getD none) x]) []
def linF (ns : List Nd) (k : Nat) : Option Lf := ((linL ns ns)[k]?).getD none
theorem linL_snoc (all ns : List Nd) (x : Nd) : linL all (ns ++ [x]) = linL all ns ++ [lin1 all (fun p => ((linL all ns)[p]?).getD none) x] := by
  unfold linL
  rw [List.foldl_append]
  rfl
theorem linL_len (all : List Nd) (ns : List Nd) : (linL all ns).length = ns.length := by
  generalize hn : ns.length = n
  induction n generalizing ns with
  | zero => rw [List.length_eq_zero_iff] at hn; subst hn; rfl
  | succ n ih =>
    rcases ns.eq_nil_or_concat with rfl | ⟨xs, x, e⟩
    · cases hn
    · rw [List.concat_eq_append] at e
      subst e
      rw [List.length_append, List.length_singleton] at hn
      rw [linL_snoc, List.length_append, List.length_singleton, ih xs (by omega)]
theorem linL_take (all : List Nd) (ns : List Nd) (j : Nat) : linL all (ns.take j) = (linL all ns).take j := by
  generalize hn : ns.length = n
  induction n generalizing ns with
  | zero => rw [List.length_eq_zero_iff] at hn; subst hn; rw [List.take_nil]; exact (List.take_nil).symm
  | succ n ih =>
    rcases ns.eq_nil_or_concat with rfl | ⟨xs, x, e⟩
    · cases hn
    · rw [List.concat_eq_append] at e
      subst e
      rw [List.length_append, List.length_singleton] at hn
      have hl := linL_len all xs
      rw [linL_snoc]
      by_cases e : j ≤ xs.length
      · rw [List.take_append_of_le_length e, List.take_append_of_le_length (by omega), ih xs (by omega)]
      · rw [List.take_of_length_le (by simp; omega), List.take_of_length_le (by simp; omega), linL_snoc]
theorem linF_eq {ns : List Nd} (S : Sheet ns) {j : Nat} {x : Nd} (hx : ns[j]? = some x) : linF ns j = lin1 ns (linF ns) x := by
  have hj := (List.getElem?_eq_some_iff.mp hx).1
  have e1 : linL ns (ns.take (j + 1)) = linL ns (ns.take j) ++ [lin1 ns (fun p => ((linL ns (ns.take j))[p]?).getD none) x] := by
    rw [List.take_add_one, hx]
    exact linL_snoc _ _ _
  rw [linL_take, linL_take] at e1
  have e2 : (linL ns ns)[j]? = some (lin1 ns (fun p => (((linL ns ns).take j)[p]?).getD none) x) := by
    have h3 : ((linL ns ns).take (j + 1))[j]? = (linL ns ns)[j]? := List.getElem?_take_of_lt (by omega)
    rw [← h3, e1, List.getElem?_append_right (by rw [List.length_take, linL_len]; omega)]
    rw [List.length_take, linL_len, Nat.min_eq_left (by omega), Nat.sub_self]
    rfl
  unfold linF
  rw [e2]
  refine lin1_congr fun p hp => ?_
  have := S.part_lt hx p hp
  rw [List.getElem?_take_of_lt this]
theorem lin1_in {ns : List Nd} {fs : Nat → Option Lf} {x : Nd} {ws : List Int} (S : Sheet ns) (G : Good ws x) {l : Lf} (h : lin1 ns fs x = some l) : l.In := by
  cases x with
  | word w v =>
    cases h
    have hb := fullI_bd (w := w) (by have := G.1; omega) G.2.1
    exact ⟨fun _ => ⟨Int.le_refl 0, show (0 : Int) ≤ 255 by decide⟩, G.2.2.1, by have := G.2.2.2; show v ≤ 255; omega⟩
  | inp w i =>
    cases h
    refine ⟨fun j => ?_, Int.le_refl 0, show (0 : Int) ≤ 255 by decide⟩
    show 0 ≤ (if j = i then (1 : Int) else 0) ∧ (if j = i then (1 : Int) else 0) ≤ 255
    split <;> decide
  | one o w a =>
    have w0 := G.1
    have w1 := G.2.1
    cases o <;> simp only [lin1, Option.map_eq_some_iff, reduceCtorEq] at h
    all_goals
      obtain ⟨a, _, rfl⟩ := h
      exact comb_in (by omega) w1
  | two o w a b =>
    have w0 := G.1
    have w1 := G.2.1
    cases o <;> simp only [lin1, Option.map_eq_some_iff, Option.bind_eq_some_iff, reduceCtorEq] at h
    case mul =>
      obtain ⟨_, _, _, _, h⟩ := h
      split at h
      · cases h; exact comb_in (by omega) w1
      · cases h; exact comb_in (by omega) w1
      · cases h
    all_goals
      obtain ⟨_, _, _, _, rfl⟩ := h
      exact comb_in (by omega) w1
  | pick w c a b => cases h
theorem linF_in {ns : List Nd} (S : Sheet ns) {j : Nat} (hj : j < ns.length) {l : Lf} (h : linF ns j = some l) : l.In := by
  have hx := List.getElem?_eq_getElem hj
  rw [linF_eq S hx] at h
  exact lin1_in S (S.pre hx).2 h
theorem asc_ext : ∀ {xs ys : List Nat}, xs.Pairwise (· < ·) → ys.Pairwise (· < ·) → (∀ a, a ∈ xs ↔ a ∈ ys) → xs = ys
  | [], [], _, _, _ => rfl
  | [], y :: ys, _, _, h => absurd ((h y).mpr (by simp)) (by simp)
  | x :: xs, [], _, _, h => absurd ((h x).mp (by simp)) (by simp)
  | x :: xs, y :: ys, h1, h2, h => by
    rw [List.pairwise_cons] at h1 h2
    have e : x = y := by
      have hx := (h x).mp (by simp)
      have hy := (h y).mpr (by simp)
      rcases List.mem_cons.mp hx with e | hx
      · exact e
      · rcases List.mem_cons.mp hy with e | hy
        · exact e.symm
        · have := h1.1 y hy
          have := h2.1 x hx
          omega
    subst e
    rw [asc_ext h1.2 h2.2 fun a => ?_]
    constructor
    · intro ha
      rcases List.mem_cons.mp ((h a).mp (by simp [ha])) with e | h'
      · have := h1.1 a ha; omega
      · exact h'
    · intro ha
      rcases List.mem_cons.mp ((h a).mpr (by simp [ha])) with e | h'
      · have := h2.1 a ha; omega
      · exact h'
theorem sorted_nat {js : List Nat} {ns' : List Int} (hperm : ns'.Perm (js.map fun j : Nat => (j : Int))) (hpw : ns'.Pairwise (· ≤ ·)) (nd : js.Nodup) : ∃ L : List Nat, ns' = (L.map fun j : Nat => (j : Int)) ∧ L.Pairwise (· < ·) ∧ ∀ k, k ∈ L ↔ k ∈ js := by
  have e1 : ns' = (ns'.map Int.toNat).map fun k : Nat => (k : Int) := by
    rw [List.map_map]
    have e0 : ns'.map ((fun k : Nat => (k : Int)) ∘ Int.toNat) = ns'.map id := List.map_congr_left fun z hz => by
      obtain ⟨k, _, rfl⟩ := List.mem_map.mp (hperm.mem_iff.mp hz)
      rfl
    rw [e0, List.map_id]
  refine ⟨ns'.map Int.toNat, e1, ?_, fun k => ⟨fun h => ?_, fun h => ?_⟩⟩
  · have hnd : ns'.Nodup := hperm.nodup_iff.mpr (by
      exact List.Pairwise.map _ (fun a b h e => h (by omega)) nd)
    rw [List.pairwise_map]
    have hboth : ns'.Pairwise (fun a b => a ≤ b ∧ a ≠ b) := List.Pairwise.and hpw hnd
    refine List.Pairwise.imp_of_mem (fun {a b} ha hb hab => ?_) hboth
    obtain ⟨j, hj, rfl⟩ := List.mem_map.mp (hperm.mem_iff.mp ha)
    obtain ⟨j', hj', rfl⟩ := List.mem_map.mp (hperm.mem_iff.mp hb)
    obtain ⟨h1, h2⟩ := hab
    simp only [Int.toNat_natCast]
    omega
  · obtain ⟨z, hz, rfl⟩ := List.mem_map.mp h
    obtain ⟨j, hj, rfl⟩ := List.mem_map.mp (hperm.mem_iff.mp hz)
    exact hj
  · exact List.mem_map.mpr ⟨(k : Int), hperm.mem_iff.mpr (List.mem_map.mpr ⟨k, h, rfl⟩), rfl⟩
def nz (f : Nat → Int) (j : Nat) : Bool := decide (f j ≠ 0)
/-- what `form_of` tells -/
def told (o : Option Lf) : D := match o with
  | none => .non
  | some l => .tup [.tup (((List.range 301).filter (nz l.f)).map fun j : Nat => .tup [.int (j : Int), .int (l.f j)]), .int l.c]
section
variable {prog : String → Option Def} {st : Store} {Q : K} {k : Nat}
theorem form_of_ok (hp : prog "form_of" = some ⟨2, 7, formOfBody⟩) (hn : prog "needed_for" = some ⟨2, 5, neededBody⟩) (h1 : prog "one_form" = some ⟨3, 7, oneFormBody⟩) (hc : prog "combined" = some ⟨5, 10, combinedBody⟩) (hg : prog "greatest" = some ⟨1, 1, greatestBody⟩) {ns : List Nd} {t : Nat} (S : Sheet ns) (hl : ns.length ≤ 1000) (ht : t < ns.length)
    (q : ∀ st', Grw st st' → Q (told (linF ns t)) st') : callN prog (k + 4) "form_of" [.tup (ns.map Nd.dat), .int (t : Int)] st Q := by
  refine call_intro hp rfl ?_
  unfold formOfBody
  walk_at "t"
  refine needed_ok (ts := [t]) hn S hl rdL_new (by simpa using ht) (by simp) (fun L st2 nd g2 hL hlt => ?_)
  walk_at "s"
  refine it_at hL ?_
  have d2 : rdD st2 st.length [] := g2.rdD (rdD_app rdD_new)
  have f2 : FraG st.length st st2 := ((FraG.new (c := C.dic [])).app).more g2
  rw [List.length_append, List.length_append, List.length_singleton, List.length_singleton] at hlt
  refine for_map L iN rfl (fun i σ st' => ∃ o3 o4 o5 o6 K, σ = [some (.tup (ns.map Nd.dat)), some (.int (t : Int)), some (.ref st.length), o3, o4, o5, o6] ∧ FraG st.length st st' ∧ rdL st' (st2.length - 1) (L.map iN) ∧ rdD st' st.length K ∧ K.length ≤ i ∧ ∀ j ∈ L.take i, ∃ d, valD K (.inl (j : Int)) = some d ∧ FormIs (st.length + 1) st' d (linF ns j)) ⟨_, _, _, _, [], rfl, f2, hL, d2, by simp, by simp⟩ (fun i j σ st' hj ⟨o3, o4, o5, o6, K, e, f, hr, hd, hkl, hK⟩ N hN => ?_) (fun σ st' ⟨o3, o4, o5, o6, K, e, f, hr, hd, hkl, hK⟩ => ?_)
  · subst e
    refine ⟨.inl hr, ?_⟩
    have hjL := List.mem_of_getElem? hj
    have hjn := nd.lt j hjL
    have hx := List.getElem?_eq_getElem hjn
    have hLl := nodup_le (nd.asc.imp (fun h => Nat.ne_of_lt h)) nd.lt
    have hil := (List.getElem?_eq_some_iff.mp hj).1
    unfold iN
    walk_at "s"
    refine at_is (at_nd hjn) ?_
    have hops : ∀ p ∈ Pd.parts ns[j], Fms (st.length + 1) st' K (linF ns) p := fun p hpp => by
      have hpL := nd.cl j hjL _ hx p hpp
      have hpj := S.part_lt hx p hpp
      have hpt : p ∈ L.take i := by
        obtain ⟨m, hm⟩ := List.mem_iff_getElem?.mp hpL
        have hmi : m < i := by
          rcases Nat.lt_or_ge m i with h | h
          · exact h
          · exfalso
            obtain ⟨a1, a2⟩ := List.getElem?_eq_some_iff.mp hm
            obtain ⟨b1, b2⟩ := List.getElem?_eq_some_iff.mp hj
            rcases Nat.lt_or_eq_of_le h with h | h
            · have := List.pairwise_iff_getElem.mp nd.asc i m b1 a1 h
              omega
            · subst h; omega
        rw [← List.getElem?_take_of_lt hmi] at hm
        exact List.mem_of_getElem? hm
      obtain ⟨d, hd1, hd2⟩ := hK p hpt
      exact ⟨d, hd1, hd2, fun l h => linF_in S (by omega) h⟩
    have hle := f.le
    have hsl := rdD_lt hd
    refine one_form_ok (k := k) h1 hc hg (bb := st.length + 1) (by omega) S (S.pre hx).2 (fun p hpp => by have := S.part_lt hx p hpp; omega) hops hd (fun d st3 hF g3 => ?_)
    rw [← linF_eq S hx] at hF
    walk_at "s"
    have hd3 := g3.rdD hd
    refine setDI_at hd3 (by simp [szl]; omega) ?_
    have hne : st2.length - 1 ≠ st.length := by omega
    refine hN _ _ ⟨_, _, _, _, putD K (.inl (j : Int)) d, rfl, (f.more g3).setG, rdL_ne (g3.rd hr) hne, rdD_set hd3, by have := put_len K (.inl (j : Int)) d; omega, fun m hm => ?_⟩
    rw [List.take_add_one, hj] at hm
    rw [val_put]
    by_cases e : m = j
    · subst e
      exact ⟨d, by simp, hF.set (by omega)⟩
    · have hm' : m ∈ L.take i := by simpa [e] using hm
      obtain ⟨d', h3, h4⟩ := hK m hm'
      refine ⟨d', ?_, (h4.grw g3).set (by omega)⟩
      have : ¬ ((Sum.inl (m : Int) : Ky) = Sum.inl (j : Int)) := fun e' => by injection e' with e'; exact e (by omega)
      rw [if_neg this]; exact h3
  · subst e
    refine ⟨.inl hr, ?_⟩
    rw [List.take_length] at hK
    obtain ⟨d, hv, hF⟩ := hK t (nd.has t (by simp))
    walk_at "r"
    refine getAI_at (.inl hd) hv ?_
    walk_at "s"
    rw [isN_form hF]
    cases hfs : linF ns t with
    | none =>
      refine wayT rfl ?_
      walk_at "s"
      have := q st' f.grw
      rw [hfs] at this
      exact this
    | some l =>
      refine wayF rfl ?_
      walk_at "r"
      refine getAI_at (.inl hd) hv ?_
      rw [hfs] at hF
      obtain ⟨n, kvs, rfl, hbn, hdn, rep⟩ := hF
      walk_at "s"
      refine ⟨rfl, ?_⟩
      walk_at "r"
      obtain ⟨js, ej, jnd, jl⟩ := rep.js
      refine ⟨kvs, js.map fun j : Nat => (j : Int), hdn, by rw [ej, List.map_map]; rfl, fun ns' hperm hpw => ?_⟩
      obtain ⟨L2, rfl, asc2, mem2⟩ := sorted_nat hperm hpw jnd
      rw [show (L2.map fun j : Nat => (j : Int)).map D.int = L2.map iN by rw [List.map_map]; rfl]
      walk_at "s"
      refine it_at rdL_new ?_
      have hd9 := rdD_app (c := C.lst (L2.map iN)) hdn
      have hl9 := rdL_new (st := st') (xs := L2.map iN)
      have g9 : Grw st (st' ++ [C.lst (L2.map iN)]) := f.grw.app
      generalize st' ++ [C.lst (L2.map iN)] = st9 at hd9 hl9 g9 ⊢
      have hL2l : L2.length ≤ 301 := nodup_le (asc2.imp (fun h => Nat.ne_of_lt h)) fun k hk => jl k ((mem2 k).mp hk)
      have hval : ∀ j ∈ L2, valD kvs (.inl (j : Int)) = some (.int (l.f j)) := fun j hj => by
        rcases rep.val j with ⟨h, _⟩ | h
        · exfalso
          have hk : (Sum.inl (j : Int) : Ky) ∈ kvs.map (·.1) := by rw [ej]; exact List.mem_map.mpr ⟨j, (mem2 j).mp hj, rfl⟩
          unfold valD at h
          rw [Option.map_eq_none_iff, List.find?_eq_none] at h
          obtain ⟨kv, hkv, e⟩ := List.mem_map.mp hk
          exact h kv hkv (by simpa using e)
        · exact h
      refine lc_filter L2 iN (fun j : Nat => .tup [.int (j : Int), .int (l.f j)]) (nz l.f) rfl (by simp [szl]; omega) (fun acc => .inl (rdL_app hl9)) (fun j hj acc N M hN hM => ?_) ?_
      · unfold iN
        walk_at "s"
        refine getAI_at (.inl (rdD_app hd9)) (hval j hj) ?_
        walk_at "s"
        refine ⟨fun e => ?_, fun e => ?_⟩
        · walk_at "s"
          refine getAI_at (.inl (rdD_app hd9)) (hval j hj) ?_
          walk_at "s"
          refine ⟨Nat.le_of_ble_eq_true rfl, ?_⟩
          exact hN (by simpa [nz] using e)
        · exact hM (by simpa [nz] using e)
      · walk_at "s"
        refine tuple_at rdL_new ?_
        walk_at "s"
        refine ⟨Nat.le_of_ble_eq_true rfl, ?_⟩
        have ef : L2.filter (nz l.f) = (List.range 301).filter (nz l.f) := by
          refine asc_ext (asc2.filter _) (List.Pairwise.filter _ List.pairwise_lt_range) fun a => ?_
          rw [List.mem_filter, List.mem_filter, List.mem_range]
          constructor
          · rintro ⟨h1, h2⟩
            exact ⟨jl a ((mem2 a).mp h1), h2⟩
          · rintro ⟨h1, h2⟩
            refine ⟨(mem2 a).mpr ?_, h2⟩
            have h3 := of_decide_eq_true h2
            rcases rep.val a with ⟨_, h⟩ | h
            · exact absurd h h3
            · have hk : (Sum.inl (a : Int) : Ky) ∈ kvs.map (·.1) := by
                unfold valD at h
                cases hf : kvs.find? (fun kv => decide (kv.1 = (Sum.inl (a : Int) : Ky))) with
                | none => rw [hf] at h; cases h
                | some kv => exact List.mem_map.mpr (by
                  have h9 := List.find?_some hf
                  exact ⟨kv, List.mem_of_find?_eq_some hf, of_decide_eq_true h9⟩)
              rw [ej] at hk
              obtain ⟨i, hi, e⟩ := List.mem_map.mp hk
              injection e with e
              have : i = a := by omega
              exact this ▸ hi
        have this : Q (.tup [.tup (((List.range 301).filter (nz l.f)).map fun j : Nat => .tup [.int (j : Int), .int (l.f j)]), .int l.c]) (st9 ++ [C.lst ((L2.filter (nz l.f)).map fun j : Nat => .tup [.int (j : Int), .int (l.f j)])]) := by
          have := q (st9 ++ [C.lst ((L2.filter (nz l.f)).map fun j : Nat => .tup [.int (j : Int), .int (l.f j)])]) g9.app
          rw [hfs] at this
          exact this
        rw [← ef] at this
        exact this
end
end
end Pd
end PartPdForms

section PartPdk37B
set_option linter.all false
set_option maxRecDepth 100000
namespace Pk37
open PySem Pd
def b_p_greatest (c : Cl) : TS := sRet (dOp subK (dOp shlK (dC (.int 1)) (dVar 0)) (dC (.int 1)))
def b_p_needed_for (c : Cl) : TS := sSeq (sAsg (dDic) (gName 2)) (sSeq (sAsg (dB listB (aCons (dVar 1) (aNil))) (gName 3)) (sSeq (sWhile (tTru (dVar 3)) (sSeq (sAsg (dM0 tyLst popEM (dVar 3)) (gName 4)) (sIf (tTru (dCmp notinKC (dVar 4) (dVar 2))) (sSeq (sAsg (dC (.bl true)) (gSubD (dVar 2) (dVar 4))) (sIf (tTru (dCmp notinC (dOp ixK (dOp ixK (dVar 0) (dVar 4)) (dC (.int 0))) (dTup (aCons (dC (.str "word")) (aCons (dC (.str "input")) (aNil)))))) (sExpr (dM tyLst extendAM (dVar 3) (aCons (dSl (dOp ixK (dVar 0) (dVar 4)) (oSome (dC (.int 2))) (oNone)) (aNil)))) (sNext))) (sNext)))) (sRet (dB sortedDB (aCons (dVar 2) (aNil))))))
def b_p_form_of (c : Cl) : TS := sSeq (sAsg (dDic) (gName 2)) (sSeq (sFor (iSeq (dCall c "needed_for" (aCons (dVar 0) (aCons (dLst (aCons (dVar 1) (aNil))) (aNil))))) (gName 3) (sAsg (dCall c "one_form" (aCons (dVar 0) (aCons (dVar 2) (aCons (dOp ixK (dVar 0) (dVar 3)) (aNil))))) (gSubD (dVar 2) (dVar 3)))) (sSeq (sIf (tTru (dCmp isC (dGetA (dVar 2) (dVar 1)) (dC .non))) (sRet (dC .non)) (sNext)) (sSeq (sAsg (dGetA (dVar 2) (dVar 1)) (gTup (gsCons (gName 4) (gsCons (gName 5) (gsNil))) 2)) (sRet (dTup (aCons (dB tupleB (aCons (dLc (iSeq (dB sortedDB (aCons (dVar 4) (aNil)))) (gName 6) (tTru (dCmp neC (dGetA (dVar 4) (dVar 6)) (dC (.int 0)))) (dTup (aCons (dVar 6) (aCons (dGetA (dVar 4) (dVar 6)) (aNil)))) [6]) (aNil))) (aCons (dVar 5) (aNil))))))))
def b_p_one_form (c : Cl) : TS := sSeq (sPar 3 4 (aCons (dOp ixK (dVar 2) (dC (.int 0))) (aCons (dOp ixK (dVar 2) (dC (.int 1))) (aNil)))) (sSeq (sIf (tTru (dCmp eqC (dVar 3) (dC (.str "word")))) (sRet (dTup (aCons (dDic) (aCons (dOp ixK (dVar 2) (dC (.int 2))) (aNil))))) (sNext)) (sSeq (sIf (tTru (dCmp eqC (dVar 3) (dC (.str "input")))) (sRet (dTup (aCons (dDisp [(dOp ixK (dVar 2) (dC (.int 2)), dC (.int 1))]) (aCons (dC (.int 0)) (aNil))))) (sNext)) (sSeq (sIf (tOr (tTru (dCmp notinC (dVar 3) (dTup (aCons (dC (.str "+")) (aCons (dC (.str "-")) (aCons (dC (.str "neg")) (aCons (dC (.str "not")) (aCons (dC (.str "*")) (aCons (dC (.str "<<")) (aNil)))))))))) (tTru (dCmp isC (dGetA (dVar 1) (dOp ixK (dVar 2) (dC (.int 2)))) (dC .non)))) (sRet (dC .non)) (sNext)) (sSeq (sAsg (dGetA (dVar 1) (dOp ixK (dVar 2) (dC (.int 2)))) (gName 5)) (sSeq (sIf (tTru (dCmp eqC (dVar 3) (dC (.str "neg")))) (sRet (dCall c "combined" (aCons (dVar 4) (aCons (dVar 5) (aCons (dUn negK (dC (.int 1))) (aCons (dTup (aCons (dDic) (aCons (dC (.int 0)) (aNil)))) (aCons (dC (.int 0)) (aNil)))))))) (sNext)) (sSeq (sIf (tTru (dCmp eqC (dVar 3) (dC (.str "not")))) (sRet (dCall c "combined" (aCons (dVar 4) (aCons (dVar 5) (aCons (dUn negK (dC (.int 1))) (aCons (dTup (aCons (dDic) (aCons (dC (.int 1)) (aNil)))) (aCons (dUn negK (dC (.int 1))) (aNil)))))))) (sNext)) (sSeq (sAsg (dOp ixK (dVar 0) (dOp ixK (dVar 2) (dC (.int 3)))) (gName 6)) (sSeq (sIf (tTru (dCmp eqC (dVar 3) (dC (.str "<<")))) (sRet (dIf (tTru (dCmp eqC (dOp ixK (dVar 6) (dC (.int 0))) (dC (.str "word")))) (dCall c "combined" (aCons (dVar 4) (aCons (dVar 5) (aCons (dOp shlK (dC (.int 1)) (dOp ixK (dVar 6) (dC (.int 2)))) (aCons (dTup (aCons (dDic) (aCons (dC (.int 0)) (aNil)))) (aCons (dC (.int 0)) (aNil))))))) (dC .non))) (sNext)) (sSeq (sIf (tTru (dCmp isC (dGetA (dVar 1) (dOp ixK (dVar 2) (dC (.int 3)))) (dC .non))) (sRet (dC .non)) (sNext)) (sSeq (sIf (tTru (dCmp eqC (dVar 3) (dC (.str "+")))) (sRet (dCall c "combined" (aCons (dVar 4) (aCons (dVar 5) (aCons (dC (.int 1)) (aCons (dGetA (dVar 1) (dOp ixK (dVar 2) (dC (.int 3)))) (aCons (dC (.int 1)) (aNil)))))))) (sNext)) (sSeq (sIf (tTru (dCmp eqC (dVar 3) (dC (.str "-")))) (sRet (dCall c "combined" (aCons (dVar 4) (aCons (dVar 5) (aCons (dC (.int 1)) (aCons (dGetA (dVar 1) (dOp ixK (dVar 2) (dC (.int 3)))) (aCons (dUn negK (dC (.int 1))) (aNil)))))))) (sNext)) (sSeq (sIf (tTru (dCmp eqC (dOp ixK (dVar 6) (dC (.int 0))) (dC (.str "word")))) (sRet (dCall c "combined" (aCons (dVar 4) (aCons (dVar 5) (aCons (dOp ixK (dVar 6) (dC (.int 2))) (aCons (dTup (aCons (dDic) (aCons (dC (.int 0)) (aNil)))) (aCons (dC (.int 0)) (aNil)))))))) (sNext)) (sSeq (sIf (tTru (dCmp eqC (dOp ixK (dOp ixK (dVar 0) (dOp ixK (dVar 2) (dC (.int 2)))) (dC (.int 0))) (dC (.str "word")))) (sRet (dCall c "combined" (aCons (dVar 4) (aCons (dGetA (dVar 1) (dOp ixK (dVar 2) (dC (.int 3)))) (aCons (dOp ixK (dOp ixK (dVar 0) (dOp ixK (dVar 2) (dC (.int 2)))) (dC (.int 2))) (aCons (dTup (aCons (dDic) (aCons (dC (.int 0)) (aNil)))) (aCons (dC (.int 0)) (aNil)))))))) (sNext)) (sRet (dC .non)))))))))))))))
def b_p_combined (c : Cl) : TS := sSeq (sAsg (dCall c "greatest" (aCons (dVar 0) (aNil))) (gName 5)) (sSeq (sAsg (dDic) (gName 6)) (sSeq (sFor (iSeq (dTup (aCons (dTup (aCons (dVar 1) (aCons (dVar 2) (aNil)))) (aCons (dTup (aCons (dVar 3) (aCons (dVar 4) (aNil)))) (aNil))))) (gTup (gsCons (gName 7) (gsCons (gName 8) (gsNil))) 2) (sLockD (sFor (iKeysD (dOp ixK (dVar 7) (dC (.int 0)))) (gName 9) (sAsg (dOp andK (dOp addK (dGet2 (dVar 6) (dVar 9) (dC (.int 0))) (dOp mulK (dVar 8) (dGetA (dOp ixK (dVar 7) (dC (.int 0))) (dVar 9)))) (dVar 5)) (gSubD (dVar 6) (dVar 9)))))) (sRet (dTup (aCons (dVar 6) (aCons (dOp andK (dOp addK (dOp mulK (dVar 2) (dOp ixK (dVar 1) (dC (.int 1)))) (dOp mulK (dVar 4) (dOp ixK (dVar 3) (dC (.int 1))))) (dVar 5)) (aNil)))))))
def b_l_begin (c : Cl) : TS := sRet (dLst (aCons (dLc (iSeq (dVar 0)) (gName 1) (tYes) (dB intB (aCons (dVar 1) (aNil))) [1]) (aCons (dC (.int 0)) (aCons (dC (.int 0)) (aCons (dC (.int 7)) (aCons (dC (.int 2)) (aNil)))))))
def b_l_draw (c : Cl) : TS := sSeq (sIf (tTru (dCmp gtC (dOp ixK (dVar 0) (dC (.int 2))) (dC (.int 0)))) (sSeq (sAsg (dOp ixK (dVar 0) (dC (.int 2))) (gName 2)) (sSeq (sAsg (dOp fdivK (dVar 2) (dVar 1)) (gSub (dVar 0) (dC (.int 2)))) (sRet (dOp modK (dB intB (aCons (dVar 2) (aNil))) (dVar 1))))) (sNext)) (sSeq (sAsg (dC (.int 0)) (gName 3)) (sSeq (sIf (tTru (dCmp ltC (dOp ixK (dVar 0) (dC (.int 1))) (dB lenB (aCons (dOp ixK (dVar 0) (dC (.int 0))) (aNil))))) (sSeq (sAsg (dOp ixK (dOp ixK (dVar 0) (dC (.int 0))) (dOp ixK (dVar 0) (dC (.int 1)))) (gName 4)) (sAsg (dOp addK (dOp mulK (dC (.int 2)) (dB absB (aCons (dVar 4) (aNil)))) (dB intB (aCons (dCmp ltC (dVar 4) (dC (.int 0))) (aNil)))) (gName 3))) (sNext)) (sSeq (sAugL iaddK (dVar 0) (dC (.int 1)) (dC (.int 1))) (sSeq (sIf (tTru (dCmp geC (dVar 3) (dOp mulK (dC (.int 2)) (dOp powK (dC (.int 10)) (dC (.int 18)))))) (sSeq (sAsg (dOp modK (dB intB (aCons (dOp fdivK (dVar 3) (dC (.int 2))) (aNil))) (dOp shlK (dC (.int 1)) (dC (.int 6000)))) (gName 2)) (sSeq (sAsg (dOp fdivK (dVar 2) (dVar 1)) (gSub (dVar 0) (dC (.int 2)))) (sRet (dOp modK (dB intB (aCons (dVar 2) (aNil))) (dVar 1))))) (sNext)) (sSeq (sAsg (dOp modK (dB intB (aCons (dOp addK (dOp addK (dOp addK (dOp mulK (dOp ixK (dVar 0) (dC (.int 3))) (dC (.int 48271))) (dOp mulK (dOp modK (dB intB (aCons (dVar 3) (aNil))) (dC (.int 2147483629))) (dC (.int 16807)))) (dOp mulK (dOp ixK (dVar 0) (dC (.int 1))) (dC (.int 69621)))) (dC (.int 11))) (aNil))) (dC (.int 2147483647))) (gSub (dVar 0) (dC (.int 3)))) (sRet (dOp modK (dB intB (aCons (dOp fdivK (dOp ixK (dVar 0) (dC (.int 3))) (dC (.int 16))) (aNil))) (dVar 1))))))))
def b_l_pick (c : Cl) : TS := sRet (dOp ixK (dVar 1) (dCall c "_law_draw" (aCons (dVar 0) (aCons (dB lenB (aCons (dVar 1) (aNil))) (aNil)))))
def b_l_is_int (c : Cl) : TS := sRet (dAndT (dIsi .int (dVar 0)) (dNotT (dIsi .bool (dVar 0))))
def b_l_word (c : Cl) : TS := sSeq (sPar 3 4 (aCons (dOp ixK (dVar 2) (dC (.int 0))) (aCons (dOp ixK (dVar 2) (dOp subK (dB lenB (aCons (dVar 2) (aNil))) (dC (.int 1)))) (aNil)))) (sSeq (sAsg (dOp subK (dOp shlK (dC (.int 1)) (dVar 1)) (dC (.int 1))) (gName 5)) (sSeq (sIf (tTru (dCmp eqC (dVar 0) (dC (.str "pick")))) (sRet (dOp ixK (dVar 2) (dOp subK (dC (.int 2)) (dVar 3)))) (sNext)) (sSeq (sIf (tTru (dCmp inC (dVar 0) (dTup (aCons (dC (.str "not")) (aCons (dC (.str "neg")) (aCons (dC (.str "wide")) (aNil))))))) (sRet (dOp andK (dIf (tTru (dCmp eqC (dVar 0) (dC (.str "wide")))) (dVar 3) (dOp subK (dUn negK (dVar 3)) (dB intB (aCons (dCmp eqC (dVar 0) (dC (.str "not"))) (aNil))))) (dVar 5))) (sNext)) (sSeq (sIf (tTru (dCmp inC (dVar 0) (dTup (aCons (dC (.str "+")) (aCons (dC (.str "-")) (aCons (dC (.str "*")) (aNil))))))) (sRet (dOp andK (dIf (tTru (dCmp eqC (dVar 0) (dC (.str "+")))) (dOp addK (dVar 3) (dVar 4)) (dIf (tTru (dCmp eqC (dVar 0) (dC (.str "-")))) (dOp subK (dVar 3) (dVar 4)) (dOp mulK (dVar 3) (dVar 4)))) (dVar 5))) (sNext)) (sSeq (sIf (tTru (dCmp inC (dVar 0) (dTup (aCons (dC (.str "==")) (aCons (dC (.str "!=")) (aNil)))))) (sRet (dB intB (aCons (dCmp eqC (dCmp eqC (dVar 3) (dVar 4)) (dCmp eqC (dVar 0) (dC (.str "==")))) (aNil)))) (sNext)) (sSeq (sIf (tTru (dCmp inC (dVar 0) (dTup (aCons (dC (.str "<")) (aCons (dC (.str "<=")) (aNil)))))) (sRet (dB intB (aCons (dOrT (dCmp ltC (dVar 3) (dVar 4)) (dAndT (dCmp eqC (dVar 0) (dC (.str "<="))) (dCmp eqC (dVar 3) (dVar 4)))) (aNil)))) (sNext)) (sSeq (sIf (tTru (dCmp inC (dVar 0) (dTup (aCons (dC (.str "&")) (aCons (dC (.str "|")) (aCons (dC (.str "^")) (aNil))))))) (sRet (dIf (tTru (dCmp eqC (dVar 0) (dC (.str "&")))) (dOp andK (dVar 3) (dVar 4)) (dIf (tTru (dCmp eqC (dVar 0) (dC (.str "|")))) (dOp orK (dVar 3) (dVar 4)) (dOp xorK (dVar 3) (dVar 4))))) (sNext)) (sSeq (sIf (tTru (dCmp inC (dVar 0) (dTup (aCons (dC (.str "<<")) (aCons (dC (.str ">>")) (aNil)))))) (sRet (dIf (tTru (dCmp eqC (dVar 0) (dC (.str "<<")))) (dOp andK (dOp shlK (dVar 3) (dB min2B (aCons (dVar 4) (aCons (dC (.int 8)) (aNil))))) (dVar 5)) (dOp shrK (dVar 3) (dB min2B (aCons (dVar 4) (aCons (dC (.int 8)) (aNil))))))) (sNext)) (sSeq (sIf (tTru (dCmp eqC (dVar 4) (dC (.int 0)))) (sRet (dC (.int 0))) (sNext)) (sRet (dIf (tTru (dCmp eqC (dVar 0) (dC (.str "div")))) (dOp fdivK (dVar 3) (dVar 4)) (dOp subK (dVar 3) (dOp mulK (dOp fdivK (dVar 3) (dVar 4)) (dVar 4))))))))))))))
def b_l_values (c : Cl) : TS := sSeq (sAsg (dLst (aNil)) (gName 2)) (sSeq (sFor (iSeq (dVar 0)) (gName 3) (sIf (tTru (dCmp eqC (dOp ixK (dVar 3) (dC (.int 0))) (dC (.str "word")))) (sExpr (dM tyLst appendM (dVar 2) (aCons (dOp ixK (dVar 3) (dC (.int 2))) (aNil)))) (sIf (tTru (dCmp eqC (dOp ixK (dVar 3) (dC (.int 0))) (dC (.str "input")))) (sSeq (sAsg (dIf (tTru (dCmp ltC (dOp ixK (dVar 3) (dC (.int 2))) (dB lenB (aCons (dVar 1) (aNil))))) (dOp ixK (dVar 1) (dOp ixK (dVar 3) (dC (.int 2)))) (dC (.int 0))) (gName 4)) (sExpr (dM tyLst appendM (dVar 2) (aCons (dOp andK (dVar 4) (dOp subK (dOp shlK (dC (.int 1)) (dOp ixK (dVar 3) (dC (.int 1)))) (dC (.int 1)))) (aNil))))) (sExpr (dM tyLst appendM (dVar 2) (aCons (dCall c "_law_word" (aCons (dOp ixK (dVar 3) (dC (.int 0))) (aCons (dOp ixK (dVar 3) (dC (.int 1))) (aCons (dLc (iSeq (dSl (dVar 3) (oSome (dC (.int 2))) (oNone))) (gName 5) (tYes) (dOp ixK (dVar 2) (dVar 5)) [5]) (aNil))))) (aNil))))))) (sRet (dVar 2)))
def b_l_put (c : Cl) : TS := sSeq (sIf (tTru (dCmp notinDC (dVar 1) (dVar 0))) (sExpr (dM tyLst appendM (dVar 0) (aCons (dVar 1) (aNil)))) (sNext)) (sRet (dM tyLst indexDM (dVar 0) (aCons (dVar 1) (aNil))))
def b_l_sheet (c : Cl) : TS := sSeq (sAsg (dCall c "_law_pick" (aCons (dVar 0) (aCons (dLst (aCons (dC (.int 2)) (aCons (dC (.int 3)) (aCons (dC (.int 1)) (aCons (dC (.int 2)) (aCons (dC (.int 8)) (aCons (dC (.int 3)) (aCons (dC (.int 5)) (aCons (dC (.int 2)) (aNil)))))))))) (aNil)))) (gName 1)) (sSeq (sAsg (dLst (aNil)) (gName 2)) (sSeq (sFor (iR1 (dCall c "_law_draw" (aCons (dVar 0) (aCons (dC (.int 4)) (aNil))))) (gName 3) (sExpr (dCall c "_law_put" (aCons (dVar 2) (aCons (dTup (aCons (dC (.str "input")) (aCons (dVar 1) (aCons (dCall c "_law_draw" (aCons (dVar 0) (aCons (dC (.int 6)) (aNil)))) (aNil))))) (aNil)))))) (sSeq (sExpr (dCall c "_law_put" (aCons (dVar 2) (aCons (dTup (aCons (dC (.str "word")) (aCons (dVar 1) (aCons (dCall c "_law_draw" (aCons (dVar 0) (aCons (dOp shlK (dC (.int 1)) (dVar 1)) (aNil)))) (aNil))))) (aNil))))) (sSeq (sIf (tTru (dCmp eqC (dCall c "_law_draw" (aCons (dVar 0) (aCons (dC (.int 3)) (aNil)))) (dC (.int 1)))) (sExpr (dCall c "_law_put" (aCons (dVar 2) (aCons (dTup (aCons (dC (.str "input")) (aCons (dIf (tTru (dCmp ltC (dVar 1) (dC (.int 4)))) (dOp addK (dVar 1) (dC (.int 1))) (dC (.int 2))) (aCons (dCall c "_law_draw" (aCons (dVar 0) (aCons (dC (.int 6)) (aNil)))) (aNil))))) (aNil))))) (sNext)) (sSeq (sFor (iR1 (dOp addK (dC (.int 2)) (dCall c "_law_draw" (aCons (dVar 0) (aCons (dC (.int 8)) (aNil)))))) (gName 3) (sExpr (dCall c "_law_grow" (aCons (dVar 0) (aCons (dVar 2) (aNil)))))) (sRet (dB tupleB (aCons (dVar 2) (aNil)))))))))
def b_l_grow (c : Cl) : TS := sSeq (sAsg (dLst (aCons (dC (.str "+")) (aCons (dC (.str "-")) (aCons (dC (.str "*")) (aCons (dC (.str "neg")) (aCons (dC (.str "+")) (aCons (dC (.str "<<")) (aCons (dC (.str "not")) (aCons (dC (.str "*")) (aCons (dC (.str "-")) (aCons (dC (.str "<<")) (aCons (dC (.str "+")) (aCons (dC (.str "*")) (aNil)))))))))))))) (gName 2)) (sSeq (sAsg (dCall c "_law_pick" (aCons (dVar 0) (aCons (dOp addK (dVar 2) (dLst (aCons (dC (.str "&")) (aCons (dC (.str "wide")) (aCons (dC (.str "==")) (aCons (dC (.str "pick")) (aCons (dC (.str "rem")) (aCons (dC (.str "^")) (aCons (dC (.str ">>")) (aCons (dC (.str "|")) (aNil))))))))))) (aNil)))) (gName 3)) (sSeq (sAsg (dCall c "_law_draw" (aCons (dVar 0) (aCons (dB lenB (aCons (dVar 1) (aNil))) (aNil)))) (gName 4)) (sSeq (sAsg (dOp ixK (dOp ixK (dVar 1) (dVar 4)) (dC (.int 1))) (gName 5)) (sSeq (sAsg (dCall c "_law_pick" (aCons (dVar 0) (aCons (dLc (iR1 (dB lenB (aCons (dVar 1) (aNil)))) (gName 9) (tTru (dCmp eqC (dOp ixK (dOp ixK (dVar 1) (dVar 9)) (dC (.int 1))) (dVar 5))) (dVar 9) [9]) (aNil)))) (gName 6)) (sSeq (sIf (tTru (dCmp inC (dVar 3) (dTup (aCons (dC (.str "neg")) (aCons (dC (.str "not")) (aNil)))))) (sRet (dCall c "_law_put" (aCons (dVar 1) (aCons (dTup (aCons (dVar 3) (aCons (dVar 5) (aCons (dVar 4) (aNil))))) (aNil))))) (sNext)) (sSeq (sIf (tTru (dCmp eqC (dVar 3) (dC (.str "wide")))) (sRet (dCall c "_law_put" (aCons (dVar 1) (aCons (dTup (aCons (dVar 3) (aCons (dOp addK (dC (.int 1)) (dCall c "_law_draw" (aCons (dVar 0) (aCons (dC (.int 4)) (aNil))))) (aCons (dVar 4) (aNil))))) (aNil))))) (sNext)) (sSeq (sIf (tTru (dCmp eqC (dVar 3) (dC (.str "==")))) (sRet (dCall c "_law_put" (aCons (dVar 1) (aCons (dTup (aCons (dVar 3) (aCons (dC (.int 1)) (aCons (dVar 4) (aCons (dVar 6) (aNil)))))) (aNil))))) (sNext)) (sSeq (sIf (tAnd (tTru (dCmp eqC (dVar 3) (dC (.str "<<")))) (tTru (dCall c "_law_draw" (aCons (dVar 0) (aCons (dC (.int 4)) (aNil)))))) (sSeq (sAsg (dOp addK (dC (.int 1)) (dCall c "_law_draw" (aCons (dVar 0) (aCons (dC (.int 4)) (aNil))))) (gName 7)) (sAsg (dCall c "_law_put" (aCons (dVar 1) (aCons (dTup (aCons (dC (.str "word")) (aCons (dVar 7) (aCons (dCall c "_law_draw" (aCons (dVar 0) (aCons (dOp shlK (dC (.int 1)) (dVar 7)) (aNil)))) (aNil))))) (aNil)))) (gName 6))) (sNext)) (sSeq (sIf (tAnd (tTru (dCmp eqC (dVar 3) (dC (.str "*")))) (tTru (dCall c "_law_draw" (aCons (dVar 0) (aCons (dC (.int 4)) (aNil)))))) (sSeq (sAsg (dCall c "_law_put" (aCons (dVar 1) (aCons (dTup (aCons (dC (.str "word")) (aCons (dVar 5) (aCons (dCall c "_law_draw" (aCons (dVar 0) (aCons (dOp shlK (dC (.int 1)) (dVar 5)) (aNil)))) (aNil))))) (aNil)))) (gName 6)) (sIf (tTru (dCall c "_law_draw" (aCons (dVar 0) (aCons (dC (.int 2)) (aNil))))) (sRet (dCall c "_law_put" (aCons (dVar 1) (aCons (dTup (aCons (dVar 3) (aCons (dVar 5) (aCons (dVar 6) (aCons (dVar 4) (aNil)))))) (aNil))))) (sNext))) (sNext)) (sSeq (sAsg (dLc (iR1 (dB lenB (aCons (dVar 1) (aNil)))) (gName 9) (tTru (dCmp eqC (dOp ixK (dOp ixK (dVar 1) (dVar 9)) (dC (.int 1))) (dC (.int 1)))) (dVar 9) [9]) (gName 8)) (sSeq (sIf (tAnd (tTru (dCmp eqC (dVar 3) (dC (.str "pick")))) (tTru (dVar 8))) (sRet (dCall c "_law_put" (aCons (dVar 1) (aCons (dTup (aCons (dVar 3) (aCons (dVar 5) (aCons (dCall c "_law_pick" (aCons (dVar 0) (aCons (dVar 8) (aNil)))) (aCons (dVar 4) (aCons (dVar 6) (aNil))))))) (aNil))))) (sNext)) (sSeq (sIf (tTru (dCmp eqC (dVar 3) (dC (.str "pick")))) (sRet (dCall c "_law_put" (aCons (dVar 1) (aCons (dTup (aCons (dC (.str "-")) (aCons (dVar 5) (aCons (dVar 6) (aCons (dVar 4) (aNil)))))) (aNil))))) (sNext)) (sRet (dCall c "_law_put" (aCons (dVar 1) (aCons (dTup (aCons (dVar 3) (aCons (dVar 5) (aCons (dVar 4) (aCons (dVar 6) (aNil)))))) (aNil)))))))))))))))))
def b_l_linear (c : Cl) : TS := sSeq (sAsg (dLst (aNil)) (gName 2)) (sSeq (sFor (iSeq (dVar 0)) (gName 3) (sIf (tTru (dCmp eqC (dOp ixK (dVar 3) (dC (.int 0))) (dC (.str "word")))) (sExpr (dM tyLst appendM (dVar 2) (aCons (dOp addK (dOp mulK (dLst (aCons (dC (.int 0)) (aNil))) (dVar 1)) (dLst (aCons (dOp ixK (dVar 3) (dC (.int 2))) (aNil)))) (aNil)))) (sIf (tTru (dCmp eqC (dOp ixK (dVar 3) (dC (.int 0))) (dC (.str "input")))) (sExpr (dM tyLst appendM (dVar 2) (aCons (dOp addK (dLc (iR1 (dVar 1)) (gName 5) (tYes) (dB intB (aCons (dCmp eqC (dVar 5) (dOp ixK (dVar 3) (dC (.int 2)))) (aNil))) [5]) (dLst (aCons (dC (.int 0)) (aNil)))) (aNil)))) (sSeq (sAsg (dCall c "_law_linear_one" (aCons (dVar 0) (aCons (dVar 2) (aCons (dVar 3) (aNil))))) (gName 4)) (sExpr (dM tyLst appendM (dVar 2) (aCons (dIf (tTru (dCmp isC (dVar 4) (dC .non))) (dC .non) (dLc (iSeq (dVar 4)) (gName 6) (tYes) (dOp andK (dVar 6) (dOp subK (dOp shlK (dC (.int 1)) (dOp ixK (dVar 3) (dC (.int 1)))) (dC (.int 1)))) [6])) (aNil)))))))) (sRet (dVar 2)))
def b_l_linear_one (c : Cl) : TS := sSeq (sAsg (dOp ixK (dVar 1) (dOp ixK (dVar 2) (dC (.int 2)))) (gName 3)) (sSeq (sAsg (dOp ixK (dVar 1) (dOp ixK (dVar 2) (dUn negK (dC (.int 1))))) (gName 4)) (sSeq (sIf (tAnd (tTru (dCmp eqC (dOp ixK (dVar 2) (dC (.int 0))) (dC (.str "neg")))) (tTru (dCmp isntC (dVar 3) (dC .non)))) (sRet (dLc (iSeq (dVar 3)) (gName 5) (tYes) (dUn negK (dVar 5)) [5])) (sNext)) (sSeq (sIf (tAnd (tTru (dCmp eqC (dOp ixK (dVar 2) (dC (.int 0))) (dC (.str "not")))) (tTru (dCmp isntC (dVar 3) (dC .non)))) (sRet (dOp addK (dLc (iSeq (dSl (dVar 3) (oNone) (oSome (dUn negK (dC (.int 1)))))) (gName 5) (tYes) (dUn negK (dVar 5)) [5]) (dLst (aCons (dOp subK (dUn negK (dC (.int 1))) (dOp ixK (dVar 3) (dUn negK (dC (.int 1))))) (aNil))))) (sNext)) (sSeq (sIf (tAnd (tTru (dCmp eqC (dOp ixK (dVar 2) (dC (.int 0))) (dC (.str "<<")))) (tAnd (tTru (dCmp isntC (dVar 3) (dC .non))) (tTru (dCmp eqC (dOp ixK (dOp ixK (dVar 0) (dOp ixK (dVar 2) (dC (.int 3)))) (dC (.int 0))) (dC (.str "word")))))) (sRet (dLc (iSeq (dVar 3)) (gName 5) (tYes) (dOp shlK (dVar 5) (dOp ixK (dOp ixK (dVar 0) (dOp ixK (dVar 2) (dC (.int 3)))) (dC (.int 2)))) [5])) (sNext)) (sSeq (sIf (tOr (tTru (dCmp isC (dVar 3) (dC .non))) (tOr (tTru (dCmp isC (dVar 4) (dC .non))) (tTru (dCmp notinC (dOp ixK (dVar 2) (dC (.int 0))) (dTup (aCons (dC (.str "+")) (aCons (dC (.str "-")) (aCons (dC (.str "*")) (aNil))))))))) (sRet (dC .non)) (sNext)) (sSeq (sIf (tTru (dCmp eqC (dOp ixK (dVar 2) (dC (.int 0))) (dC (.str "+")))) (sRet (dLc (iR1 (dB lenB (aCons (dVar 3) (aNil)))) (gName 6) (tYes) (dOp addK (dOp ixK (dVar 3) (dVar 6)) (dOp ixK (dVar 4) (dVar 6))) [6])) (sNext)) (sSeq (sIf (tTru (dCmp eqC (dOp ixK (dVar 2) (dC (.int 0))) (dC (.str "-")))) (sRet (dLc (iR1 (dB lenB (aCons (dVar 3) (aNil)))) (gName 6) (tYes) (dOp subK (dOp ixK (dVar 3) (dVar 6)) (dOp ixK (dVar 4) (dVar 6))) [6])) (sNext)) (sSeq (sIf (tTru (dCmp eqC (dOp ixK (dOp ixK (dVar 0) (dOp ixK (dVar 2) (dC (.int 2)))) (dC (.int 0))) (dC (.str "word")))) (sRet (dLc (iSeq (dVar 4)) (gName 5) (tYes) (dOp mulK (dOp ixK (dOp ixK (dVar 0) (dOp ixK (dVar 2) (dC (.int 2)))) (dC (.int 2))) (dVar 5)) [5])) (sNext)) (sSeq (sIf (tTru (dCmp eqC (dOp ixK (dOp ixK (dVar 0) (dOp ixK (dVar 2) (dC (.int 3)))) (dC (.int 0))) (dC (.str "word")))) (sRet (dLc (iSeq (dVar 3)) (gName 5) (tYes) (dOp mulK (dOp ixK (dOp ixK (dVar 0) (dOp ixK (dVar 2) (dC (.int 3)))) (dC (.int 2))) (dVar 5)) [5])) (sNext)) (sRet (dC .non)))))))))))
def b_l_same (c : Cl) : TS := sSeq (sIf (tTru (dCmp isC (dVar 1) (dC .non))) (sRet (dCmp isC (dVar 0) (dC .non))) (sNext)) (sSeq (sIf (tOr (tNot (tTru (dIsi .tuple (dVar 0)))) (tOr (tTru (dCmp neC (dB lenB (aCons (dVar 0) (aNil))) (dC (.int 2)))) (tNot (tTru (dIsi .tuple (dOp ixK (dVar 0) (dC (.int 0)))))))) (sRet (dC (.bl false))) (sNext)) (sSeq (sIf (tOr (tNot (tTru (dCall c "_law_is_int" (aCons (dOp ixK (dVar 0) (dC (.int 1))) (aNil))))) (tTru (dCmp neC (dOp ixK (dVar 0) (dC (.int 1))) (dOp ixK (dVar 1) (dUn negK (dC (.int 1))))))) (sRet (dC (.bl false))) (sNext)) (sSeq (sAsg (dLc (iR1 (dOp subK (dB lenB (aCons (dVar 1) (aNil))) (dC (.int 1)))) (gName 5) (tTru (dCmp neC (dOp ixK (dVar 1) (dVar 5)) (dC (.int 0)))) (dTup (aCons (dVar 5) (aCons (dOp ixK (dVar 1) (dVar 5)) (aNil)))) [5]) (gName 2)) (sSeq (sIf (tTru (dCmp neC (dB lenB (aCons (dOp ixK (dVar 0) (dC (.int 0))) (aNil))) (dB lenB (aCons (dVar 2) (aNil))))) (sRet (dC (.bl false))) (sNext)) (sSeq (sFor (iR1 (dB lenB (aCons (dVar 2) (aNil)))) (gName 3) (sSeq (sAsg (dOp ixK (dOp ixK (dVar 0) (dC (.int 0))) (dVar 3)) (gName 4)) (sSeq (sIf (tOr (tNot (tTru (dIsi .tuple (dVar 4)))) (tOr (tTru (dCmp neC (dB lenB (aCons (dVar 4) (aNil))) (dC (.int 2)))) (tOr (tNot (tTru (dCall c "_law_is_int" (aCons (dOp ixK (dVar 4) (dC (.int 0))) (aNil))))) (tNot (tTru (dCall c "_law_is_int" (aCons (dOp ixK (dVar 4) (dC (.int 1))) (aNil)))))))) (sRet (dC (.bl false))) (sNext)) (sIf (tTru (dCmp neC (dVar 4) (dOp ixK (dVar 2) (dVar 3)))) (sRet (dC (.bl false))) (sNext))))) (sRet (dC (.bl true))))))))
def b_l_total (c : Cl) : TS := sSeq (sAsg (dOp ixK (dVar 0) (dC (.int 1))) (gName 3)) (sSeq (sFor (iSeq (dOp ixK (dVar 0) (dC (.int 0)))) (gTup (gsCons (gName 4) (gsCons (gName 5) (gsNil))) 2) (sAug 3 iaddK (dOp mulK (dVar 5) (dIf (tTru (dCmp ltC (dVar 4) (dB lenB (aCons (dVar 1) (aNil))))) (dOp ixK (dVar 1) (dVar 4)) (dC (.int 0)))))) (sRet (dOp andK (dVar 3) (dOp subK (dOp shlK (dC (.int 1)) (dVar 2)) (dC (.int 1))))))
def b_l_law (c : Cl) : TS := sSeq (sAsg (dCall c "_law_begin" (aCons (dVar 0) (aNil))) (gName 1)) (sSeq (sAsg (dLst (aCons (dCall c "_law_sheet" (aCons (dVar 1) (aNil))) (aCons (dCall c "_law_sheet" (aCons (dVar 1) (aNil))) (aNil)))) (gName 2)) (sSeq (sAsg (dB tupleB (aCons (dLc (iR1 (dCall c "_law_draw" (aCons (dVar 1) (aCons (dC (.int 8)) (aNil))))) (gName 8) (tYes) (dCall c "_law_draw" (aCons (dVar 1) (aCons (dC (.int 256)) (aNil)))) [8]) (aNil))) (gName 3)) (sSeq (sAsg (dLc (iSeq (dVar 2)) (gName 10) (tYes) (dCall c "_law_linear" (aCons (dVar 10) (aCons (dC (.int 6)) (aNil)))) [10]) (gName 4)) (sSeq (sAsg (dLc (iSeq (dVar 2)) (gName 10) (tYes) (dCall c "_law_values" (aCons (dVar 10) (aCons (dVar 3) (aNil)))) [10]) (gName 5)) (sSeq (sAsg (dB max1B (aCons (dLc (iSeq (dVar 2)) (gName 10) (tYes) (dB lenB (aCons (dVar 10) (aNil))) [10]) (aNil))) (gName 6)) (sSeq (sFor (iSeq (dOp addK (dLR (rg1 (dVar 6))) (dLRD (dOp subK (dVar 6) (dC (.int 1))) (dB max2B (aCons (dUn negK (dC (.int 1))) (aCons (dOp subK (dVar 6) (dC (.int 6))) (aNil))))))) (gName 7) (sFor (iR1 (dC (.int 2))) (gName 8) (sIf (tTru (dCmp ltC (dVar 7) (dB lenB (aCons (dOp ixK (dVar 2) (dVar 8)) (aNil))))) (sSeq (sAsg (dCall c "form_of" (aCons (dOp ixK (dVar 2) (dVar 8)) (aCons (dVar 7) (aNil)))) (gName 9)) (sSeq (sIf (tNot (tTru (dCall c "_law_same" (aCons (dVar 9) (aCons (dOp ixK (dOp ixK (dVar 4) (dVar 8)) (dVar 7)) (aNil)))))) (sRet (dC (.bl false))) (sNext)) (sIf (tAnd (tTru (dCmp isntC (dVar 9) (dC .non))) (tTru (dCmp neC (dCall c "_law_total" (aCons (dVar 9) (aCons (dVar 3) (aCons (dOp ixK (dOp ixK (dOp ixK (dVar 2) (dVar 8)) (dVar 7)) (dC (.int 1))) (aNil))))) (dOp ixK (dOp ixK (dVar 5) (dVar 8)) (dVar 7))))) (sRet (dC (.bl false))) (sNext)))) (sNext)))) (sRet (dC (.bl true)))))))))
def prog : String → Option Def
  | "greatest" => some ⟨1, 1, b_p_greatest⟩
  | "needed_for" => some ⟨2, 5, b_p_needed_for⟩
  | "form_of" => some ⟨2, 7, b_p_form_of⟩
  | "one_form" => some ⟨3, 7, b_p_one_form⟩
  | "combined" => some ⟨5, 10, b_p_combined⟩
  | "_law_begin" => some ⟨1, 2, b_l_begin⟩
  | "_law_draw" => some ⟨2, 5, b_l_draw⟩
  | "_law_pick" => some ⟨2, 2, b_l_pick⟩
  | "_law_is_int" => some ⟨1, 1, b_l_is_int⟩
  | "_law_word" => some ⟨3, 6, b_l_word⟩
  | "_law_values" => some ⟨2, 6, b_l_values⟩
  | "_law_put" => some ⟨2, 2, b_l_put⟩
  | "_law_sheet" => some ⟨1, 4, b_l_sheet⟩
  | "_law_grow" => some ⟨2, 10, b_l_grow⟩
  | "_law_linear" => some ⟨2, 7, b_l_linear⟩
  | "_law_linear_one" => some ⟨3, 7, b_l_linear_one⟩
  | "_law_same" => some ⟨2, 6, b_l_same⟩
  | "_law_total" => some ⟨3, 6, b_l_total⟩
  | "law" => some ⟨1, 11, b_l_law⟩
  | _ => none
end Pk37
end PartPdk37B

section PartPdk37L
set_option Elab.async false
set_option linter.all false
set_option maxRecDepth 100000
set_option maxHeartbeats 4000000
namespace Pk37
open PySem PySem.Spec Pd
open PyProof.Rows (envOfC)
def topS (i : Nat) : Stmt := PySem.Challenge.pw_metorshut_k37_forms.main.body.getD i (.Pass ⟨0, 0, 0, 0⟩)
abbrev names : List String := ["greatest", "needed_for", "form_of", "one_form", "combined", "_law_begin", "_law_draw", "_law_pick", "_law_is_int", "_law_word", "_law_values", "_law_put", "_law_sheet", "_law_grow", "_law_linear", "_law_linear_one", "_law_same", "_law_total", "law"]
abbrev snames : List (String × Nat) := []
abbrev blts : List String := ["abs", "bool", "int", "isinstance", "len", "list", "max", "min", "range", "sorted", "tuple"]
abbrev sp_greatest : Stmt := topS 1
abbrev np_greatest : List Str := ["width"]
theorem scp_greatest : L2.FnScope np_greatest ["width"] (L2.defScope sp_greatest) := ⟨rfl, rfl, rfl, by decide +kernel, rfl, by decide +kernel, by decide +kernel⟩
abbrev sp_needed_for : Stmt := topS 3
abbrev np_needed_for : List Str := ["nodes", "terms", "met", "waiting", "term"]
theorem scp_needed_for : L2.FnScope np_needed_for ["nodes", "terms"] (L2.defScope sp_needed_for) := ⟨rfl, rfl, rfl, by decide +kernel, rfl, by decide +kernel, by decide +kernel⟩
abbrev sp_form_of : Stmt := topS 5
abbrev np_form_of : List Str := ["nodes", "term", "forms", "number", "factors", "constant", "n"]
theorem scp_form_of : L2.FnScope np_form_of ["nodes", "term"] (L2.defScope sp_form_of) := ⟨rfl, rfl, rfl, by decide +kernel, rfl, by decide +kernel, by decide +kernel⟩
abbrev sp_one_form : Stmt := topS 6
abbrev np_one_form : List Str := ["nodes", "forms", "node", "op", "width", "left", "right"]
theorem scp_one_form : L2.FnScope np_one_form ["nodes", "forms", "node"] (L2.defScope sp_one_form) := ⟨rfl, rfl, rfl, by decide +kernel, rfl, by decide +kernel, by decide +kernel⟩
abbrev sp_combined : Stmt := topS 7
abbrev np_combined : List Str := ["width", "one", "times", "other", "more", "full", "factors", "form", "count", "n"]
theorem scp_combined : L2.FnScope np_combined ["width", "one", "times", "other", "more"] (L2.defScope sp_combined) := ⟨rfl, rfl, rfl, by decide +kernel, rfl, by decide +kernel, by decide +kernel⟩
abbrev sl_begin : Stmt := topS 9
abbrev nl_begin : List Str := ["_law_script", "_law_cell"]
theorem scl_begin : L2.FnScope nl_begin ["_law_script"] (L2.defScope sl_begin) := ⟨rfl, rfl, rfl, by decide +kernel, rfl, by decide +kernel, by decide +kernel⟩
abbrev sl_draw : Stmt := topS 10
abbrev nl_draw : List Str := ["_law_d", "_law_many", "_law_found", "_law_size", "_law_cell"]
theorem scl_draw : L2.FnScope nl_draw ["_law_d", "_law_many"] (L2.defScope sl_draw) := ⟨rfl, rfl, rfl, by decide +kernel, rfl, by decide +kernel, by decide +kernel⟩
abbrev sl_pick : Stmt := topS 11
abbrev nl_pick : List Str := ["_law_d", "_law_row"]
theorem scl_pick : L2.FnScope nl_pick ["_law_d", "_law_row"] (L2.defScope sl_pick) := ⟨rfl, rfl, rfl, by decide +kernel, rfl, by decide +kernel, by decide +kernel⟩
abbrev sl_is_int : Stmt := topS 12
abbrev nl_is_int : List Str := ["_law_thing"]
theorem scl_is_int : L2.FnScope nl_is_int ["_law_thing"] (L2.defScope sl_is_int) := ⟨rfl, rfl, rfl, by decide +kernel, rfl, by decide +kernel, by decide +kernel⟩
abbrev sl_word : Stmt := topS 13
abbrev nl_word : List Str := ["_law_op", "_law_width", "_law_words", "_law_left", "_law_right", "_law_full"]
theorem scl_word : L2.FnScope nl_word ["_law_op", "_law_width", "_law_words"] (L2.defScope sl_word) := ⟨rfl, rfl, rfl, by decide +kernel, rfl, by decide +kernel, by decide +kernel⟩
abbrev sl_values : Stmt := topS 14
abbrev nl_values : List Str := ["_law_nodes", "_law_words", "_law_found", "_law_node", "_law_word_here", "_law_part"]
theorem scl_values : L2.FnScope nl_values ["_law_nodes", "_law_words"] (L2.defScope sl_values) := ⟨rfl, rfl, rfl, by decide +kernel, rfl, by decide +kernel, by decide +kernel⟩
abbrev sl_put : Stmt := topS 15
abbrev nl_put : List Str := ["_law_nodes", "_law_node"]
theorem scl_put : L2.FnScope nl_put ["_law_nodes", "_law_node"] (L2.defScope sl_put) := ⟨rfl, rfl, rfl, by decide +kernel, rfl, by decide +kernel, by decide +kernel⟩
abbrev sl_sheet : Stmt := topS 16
abbrev nl_sheet : List Str := ["_law_d", "_law_width", "_law_nodes", "_law_k"]
theorem scl_sheet : L2.FnScope nl_sheet ["_law_d"] (L2.defScope sl_sheet) := ⟨rfl, rfl, rfl, by decide +kernel, rfl, by decide +kernel, by decide +kernel⟩
abbrev sl_grow : Stmt := topS 17
abbrev nl_grow : List Str := ["_law_d", "_law_nodes", "_law_ops", "_law_op", "_law_one", "_law_width", "_law_two", "_law_size", "_law_ones", "_law_k"]
theorem scl_grow : L2.FnScope nl_grow ["_law_d", "_law_nodes"] (L2.defScope sl_grow) := ⟨rfl, rfl, rfl, by decide +kernel, rfl, by decide +kernel, by decide +kernel⟩
abbrev sl_linear : Stmt := topS 18
abbrev nl_linear : List Str := ["_law_nodes", "_law_many", "_law_found", "_law_node", "_law_row", "_law_n", "_law_number"]
theorem scl_linear : L2.FnScope nl_linear ["_law_nodes", "_law_many"] (L2.defScope sl_linear) := ⟨rfl, rfl, rfl, by decide +kernel, rfl, by decide +kernel, by decide +kernel⟩
abbrev sl_linear_one : Stmt := topS 19
abbrev nl_linear_one : List Str := ["_law_nodes", "_law_found", "_law_node", "_law_one", "_law_two", "_law_number", "_law_n"]
theorem scl_linear_one : L2.FnScope nl_linear_one ["_law_nodes", "_law_found", "_law_node"] (L2.defScope sl_linear_one) := ⟨rfl, rfl, rfl, by decide +kernel, rfl, by decide +kernel, by decide +kernel⟩
abbrev sl_same : Stmt := topS 20
abbrev nl_same : List Str := ["_law_told", "_law_due", "_law_pairs", "_law_k", "_law_pair", "_law_n"]
theorem scl_same : L2.FnScope nl_same ["_law_told", "_law_due"] (L2.defScope sl_same) := ⟨rfl, rfl, rfl, by decide +kernel, rfl, by decide +kernel, by decide +kernel⟩
abbrev sl_total : Stmt := topS 21
abbrev nl_total : List Str := ["_law_told", "_law_words", "_law_width", "_law_total_here", "_law_n", "_law_factor"]
theorem scl_total : L2.FnScope nl_total ["_law_told", "_law_words", "_law_width"] (L2.defScope sl_total) := ⟨rfl, rfl, rfl, by decide +kernel, rfl, by decide +kernel, by decide +kernel⟩
abbrev sl_law : Stmt := topS 22
abbrev nl_law : List Str := ["_law_script", "_law_d", "_law_sheets", "_law_words", "_law_dues", "_law_values_here", "_law_most", "_law_term", "_law_k", "_law_told", "_law_nodes"]
theorem scl_law : L2.FnScope nl_law ["_law_script"] (L2.defScope sl_law) := ⟨rfl, rfl, rfl, by decide +kernel, rfl, by decide +kernel, by decide +kernel⟩
section
variable {P : Program} {w : World} {K : PySem.W.Frag} {mg : Str → Option Value} {base : Heap}
theorem der_p_greatest {k : Nat} {c : Cl} (ok : ∀ y ∈ names, Own P w K mg base k (Str.ofString y) (c y)) (oks : ∀ q ∈ snames, OwnS P w K mg base k q.2 (Str.ofString q.1) (c q.1)) (zs : ∀ y ∈ blts, mg (Str.ofString y) = none) {fa : Addr} (cdv : Value) (A : Around) (outer : List PySem.Env) (s : Shared) (H : L2.Hp) (E : L2.XK) (hr : L2.Room k (A.deeper (envOfC "greatest" (L2.defScope sp_greatest) s.heap.objs.size fa cdv))) :
    PDSs (L2.cxOf L2.CX0 P w K mg base np_greatest "greatest" (L2.defScope sp_greatest) fa cdv A outer s H E).nox (L2.defBody sp_greatest) (b_p_greatest c) := by
  have nd := scp_greatest.nd
  unfold b_p_greatest
  exact pss_one (ps_ret (pd_sub (pd_shl (pd_int) (pd_var (i := 0) rfl)) (pd_int)))
theorem der_p_needed_for {k : Nat} {c : Cl} (ok : ∀ y ∈ names, Own P w K mg base k (Str.ofString y) (c y)) (oks : ∀ q ∈ snames, OwnS P w K mg base k q.2 (Str.ofString q.1) (c q.1)) (zs : ∀ y ∈ blts, mg (Str.ofString y) = none) {fa : Addr} (cdv : Value) (A : Around) (outer : List PySem.Env) (s : Shared) (H : L2.Hp) (E : L2.XK) (hr : L2.Room k (A.deeper (envOfC "needed_for" (L2.defScope sp_needed_for) s.heap.objs.size fa cdv))) :
    PDSs (L2.cxOf L2.CX0 P w K mg base np_needed_for "needed_for" (L2.defScope sp_needed_for) fa cdv A outer s H E).nox (L2.defBody sp_needed_for) (b_p_needed_for c) := by
  have nd := scp_needed_for.nd
  unfold b_p_needed_for
  exact pss_cons (ps_set (i := 2) nd rfl (by first | exact .inl rfl | exact .inr rfl) (pd_dic)) (pss_cons (ps_set (i := 3) nd rfl (by first | exact .inl rfl | exact .inr rfl) (pd_callTy L2.call_list_of real_listB rfl (zs "list" (by decide)) bt_list (pa_cons (pd_var (i := 1) rfl) (pa_nil)))) (pss_cons (ps_while PassesOwn.never (pt_tru (pd_var (i := 3) rfl)) (pss_cons (ps_set (i := 4) nd rfl (by first | exact .inl rfl | exact .inr rfl) (pd_m0 L2.mt_pop real_popE ty_list PySem.F.plainAttrs_list PySem.F.slot_list_pop PySem.F.type_list_pop (pd_var (i := 3) rfl))) (pss_one (ps_if (pt_notinK hr (pd_var (i := 4) rfl) (pd_var (i := 2) rfl)) (pss_cons (ps_asg (pd_bl) (pg_subD hr (pd_var (i := 2) rfl) (pd_var (i := 4) rfl))) (pss_one (ps_if (pt_cmp L2.op_notIn_seq (real_in true) (by rfl) (pd_ix (fun _ _ => rfl) (pd_ix (fun _ _ => rfl) (pd_var (i := 0) rfl) (pd_var (i := 4) rfl)) (pd_int)) (pd_tup (pa_cons (pd_str) (pa_cons (pd_str) (pa_nil))))) (pss_one (ps_expr (pd_m mt_extendA real_extendA ty_list PySem.F.plainAttrs_list PySem.F.slot_list_extend PySem.F.type_list_extend (pd_var (i := 3) rfl) (pa_cons (pd_sl (pd_ix (fun _ _ => rfl) (pd_var (i := 0) rfl) (pd_var (i := 4) rfl)) (po_some (pd_int)) (po_none)) (pa_nil))))) (pss_nil)))) (pss_nil))))) (pss_one (ps_ret (pd_callB (cr_sortedDK rfl) real_sortedDB rfl (zs "sorted" (by decide)) bt_sorted (pa_cons (pd_var (i := 2) rfl) (pa_nil)))))))
theorem der_p_form_of {k : Nat} {c : Cl} (ok : ∀ y ∈ names, Own P w K mg base k (Str.ofString y) (c y)) (oks : ∀ q ∈ snames, OwnS P w K mg base k q.2 (Str.ofString q.1) (c q.1)) (zs : ∀ y ∈ blts, mg (Str.ofString y) = none) {fa : Addr} (cdv : Value) (A : Around) (outer : List PySem.Env) (s : Shared) (H : L2.Hp) (E : L2.XK) (hr : L2.Room k (A.deeper (envOfC "form_of" (L2.defScope sp_form_of) s.heap.objs.size fa cdv))) :
    PDSs (L2.cxOf L2.CX0 P w K mg base np_form_of "form_of" (L2.defScope sp_form_of) fa cdv A outer s H E).nox (L2.defBody sp_form_of) (b_p_form_of c) := by
  have nd := scp_form_of.nd
  unfold b_p_form_of
  exact pss_cons (ps_set (i := 2) nd rfl (by first | exact .inl rfl | exact .inr rfl) (pd_dic)) (pss_cons (ps_for PassesOwn.never rfl (pi_seq (pd_call (y := "needed_for") (ok "needed_for" (by decide)) hr rfl (pa_cons (pd_var (i := 0) rfl) (pa_cons (pd_lst (pa_cons (pd_var (i := 1) rfl) (pa_nil))) (pa_nil))))) (pg_name (i := 3) nd rfl (by first | exact .inl rfl | exact .inr rfl)) (pss_one (ps_asg (pd_call (y := "one_form") (ok "one_form" (by decide)) hr rfl (pa_cons (pd_var (i := 0) rfl) (pa_cons (pd_var (i := 2) rfl) (pa_cons (pd_ix (fun _ _ => rfl) (pd_var (i := 0) rfl) (pd_var (i := 3) rfl)) (pa_nil))))) (pg_subD hr (pd_var (i := 2) rfl) (pd_var (i := 3) rfl))))) (pss_cons (ps_if (pt_cmp L2.op_isN real_is (by rfl) (pd_getA hr (pd_var (i := 2) rfl) (pd_var (i := 1) rfl)) (pd_non)) (pss_one (ps_ret (pd_non))) (pss_nil)) (pss_cons (ps_asg (pd_getA hr (pd_var (i := 2) rfl) (pd_var (i := 1) rfl)) (pg_tup rfl (pgs_cons (pg_name (i := 4) nd rfl (by first | exact .inl rfl | exact .inr rfl)) (pgs_cons (pg_name (i := 5) nd rfl (by first | exact .inl rfl | exact .inr rfl)) (pgs_nil))))) (pss_one (ps_ret (pd_tup (pa_cons (pd_callTy L2.call_tuple_of real_tupleB rfl (zs "tuple" (by decide)) bt_tuple (pa_cons (pd_lc (own := [("n", 6)]) rfl nd (pi_seq (pd_callB (cr_sortedDK rfl) real_sortedDB rfl (zs "sorted" (by decide)) bt_sorted (pa_cons (pd_var (i := 4) rfl) (pa_nil)))) (L2.blkOk_by (N := np_form_of) (sc := L2.defScope sp_form_of) (by decide +kernel)) (fun _ _ _ _ _ => pg_name (i := 6) nd rfl (by first | exact .inl rfl | exact .inr rfl)) (fun _ _ _ _ _ => pts_one (pt_cmp (L2.op_neD hr.units) real_ne (by rfl) (pd_getA hr (pd_var (i := 4) rfl) (pd_var (i := 6) rfl)) (pd_int))) (fun _ _ _ _ _ => pd_tup (pa_cons (pd_var (i := 6) rfl) (pa_cons (pd_getA hr (pd_var (i := 4) rfl) (pd_var (i := 6) rfl)) (pa_nil)))) (by decide)) (pa_nil))) (pa_cons (pd_var (i := 5) rfl) (pa_nil)))))))))
theorem der_p_one_form {k : Nat} {c : Cl} (ok : ∀ y ∈ names, Own P w K mg base k (Str.ofString y) (c y)) (oks : ∀ q ∈ snames, OwnS P w K mg base k q.2 (Str.ofString q.1) (c q.1)) (zs : ∀ y ∈ blts, mg (Str.ofString y) = none) {fa : Addr} (cdv : Value) (A : Around) (outer : List PySem.Env) (s : Shared) (H : L2.Hp) (E : L2.XK) (hr : L2.Room k (A.deeper (envOfC "one_form" (L2.defScope sp_one_form) s.heap.objs.size fa cdv))) :
    PDSs (L2.cxOf L2.CX0 P w K mg base np_one_form "one_form" (L2.defScope sp_one_form) fa cdv A outer s H E).nox (L2.defBody sp_one_form) (b_p_one_form c) := by
  have nd := scp_one_form.nd
  unfold b_p_one_form
  exact pss_cons (ps_par rfl nd rfl rfl (by decide) (L2.ps_par rfl nd rfl rfl (by decide) rfl rfl (pa_cons (pd_ix (fun _ _ => rfl) (pd_var (i := 2) rfl) (pd_int)) (pa_cons (pd_ix (fun _ _ => rfl) (pd_var (i := 2) rfl) (pd_int)) (pa_nil))) (by rfl))) (pss_cons (ps_if (pt_cmp (L2.op_eqD hr.units) real_eq (by rfl) (pd_var (i := 3) rfl) (pd_str)) (pss_one (ps_ret (pd_tup (pa_cons (pd_dic) (pa_cons (pd_ix (fun _ _ => rfl) (pd_var (i := 2) rfl) (pd_int)) (pa_nil)))))) (pss_nil)) (pss_cons (ps_if (pt_cmp (L2.op_eqD hr.units) real_eq (by rfl) (pd_var (i := 3) rfl) (pd_str)) (pss_one (ps_ret (pd_tup (pa_cons (pd_disp (.cons (pd_ix (fun _ _ => rfl) (pd_var (i := 2) rfl) (pd_int)) (pd_int) (.nil))) (pa_cons (pd_int) (pa_nil)))))) (pss_nil)) (pss_cons (ps_if (ptw (pw_or (pt_cmp L2.op_notIn_seq (real_in true) (by rfl) (pd_var (i := 3) rfl) (pd_tup (pa_cons (pd_str) (pa_cons (pd_str) (pa_cons (pd_str) (pa_cons (pd_str) (pa_cons (pd_str) (pa_cons (pd_str) (pa_nil))))))))) (pw_or1 (pt_cmp L2.op_isN real_is (by rfl) (pd_getA hr (pd_var (i := 1) rfl) (pd_ix (fun _ _ => rfl) (pd_var (i := 2) rfl) (pd_int))) (pd_non))))) (pss_one (ps_ret (pd_non))) (pss_nil)) (pss_cons (ps_set (i := 5) nd rfl (by first | exact .inl rfl | exact .inr rfl) (pd_getA hr (pd_var (i := 1) rfl) (pd_ix (fun _ _ => rfl) (pd_var (i := 2) rfl) (pd_int)))) (pss_cons (ps_if (pt_cmp (L2.op_eqD hr.units) real_eq (by rfl) (pd_var (i := 3) rfl) (pd_str)) (pss_one (ps_ret (pd_call (y := "combined") (ok "combined" (by decide)) hr rfl (pa_cons (pd_var (i := 4) rfl) (pa_cons (pd_var (i := 5) rfl) (pa_cons (pd_neg (pd_int)) (pa_cons (pd_tup (pa_cons (pd_dic) (pa_cons (pd_int) (pa_nil)))) (pa_cons (pd_int) (pa_nil))))))))) (pss_nil)) (pss_cons (ps_if (pt_cmp (L2.op_eqD hr.units) real_eq (by rfl) (pd_var (i := 3) rfl) (pd_str)) (pss_one (ps_ret (pd_call (y := "combined") (ok "combined" (by decide)) hr rfl (pa_cons (pd_var (i := 4) rfl) (pa_cons (pd_var (i := 5) rfl) (pa_cons (pd_neg (pd_int)) (pa_cons (pd_tup (pa_cons (pd_dic) (pa_cons (pd_int) (pa_nil)))) (pa_cons (pd_neg (pd_int)) (pa_nil))))))))) (pss_nil)) (pss_cons (ps_set (i := 6) nd rfl (by first | exact .inl rfl | exact .inr rfl) (pd_ix (fun _ _ => rfl) (pd_var (i := 0) rfl) (pd_ix (fun _ _ => rfl) (pd_var (i := 2) rfl) (pd_int)))) (pss_cons (ps_if (pt_cmp (L2.op_eqD hr.units) real_eq (by rfl) (pd_var (i := 3) rfl) (pd_str)) (pss_one (ps_ret (pd_if (pt_cmp (L2.op_eqD hr.units) real_eq (by rfl) (pd_ix (fun _ _ => rfl) (pd_var (i := 6) rfl) (pd_int)) (pd_str)) (pd_call (y := "combined") (ok "combined" (by decide)) hr rfl (pa_cons (pd_var (i := 4) rfl) (pa_cons (pd_var (i := 5) rfl) (pa_cons (pd_shl (pd_int) (pd_ix (fun _ _ => rfl) (pd_var (i := 6) rfl) (pd_int))) (pa_cons (pd_tup (pa_cons (pd_dic) (pa_cons (pd_int) (pa_nil)))) (pa_cons (pd_int) (pa_nil))))))) (pd_non)))) (pss_nil)) (pss_cons (ps_if (pt_cmp L2.op_isN real_is (by rfl) (pd_getA hr (pd_var (i := 1) rfl) (pd_ix (fun _ _ => rfl) (pd_var (i := 2) rfl) (pd_int))) (pd_non)) (pss_one (ps_ret (pd_non))) (pss_nil)) (pss_cons (ps_if (pt_cmp (L2.op_eqD hr.units) real_eq (by rfl) (pd_var (i := 3) rfl) (pd_str)) (pss_one (ps_ret (pd_call (y := "combined") (ok "combined" (by decide)) hr rfl (pa_cons (pd_var (i := 4) rfl) (pa_cons (pd_var (i := 5) rfl) (pa_cons (pd_int) (pa_cons (pd_getA hr (pd_var (i := 1) rfl) (pd_ix (fun _ _ => rfl) (pd_var (i := 2) rfl) (pd_int))) (pa_cons (pd_int) (pa_nil))))))))) (pss_nil)) (pss_cons (ps_if (pt_cmp (L2.op_eqD hr.units) real_eq (by rfl) (pd_var (i := 3) rfl) (pd_str)) (pss_one (ps_ret (pd_call (y := "combined") (ok "combined" (by decide)) hr rfl (pa_cons (pd_var (i := 4) rfl) (pa_cons (pd_var (i := 5) rfl) (pa_cons (pd_int) (pa_cons (pd_getA hr (pd_var (i := 1) rfl) (pd_ix (fun _ _ => rfl) (pd_var (i := 2) rfl) (pd_int))) (pa_cons (pd_neg (pd_int)) (pa_nil))))))))) (pss_nil)) (pss_cons (ps_if (pt_cmp (L2.op_eqD hr.units) real_eq (by rfl) (pd_ix (fun _ _ => rfl) (pd_var (i := 6) rfl) (pd_int)) (pd_str)) (pss_one (ps_ret (pd_call (y := "combined") (ok "combined" (by decide)) hr rfl (pa_cons (pd_var (i := 4) rfl) (pa_cons (pd_var (i := 5) rfl) (pa_cons (pd_ix (fun _ _ => rfl) (pd_var (i := 6) rfl) (pd_int)) (pa_cons (pd_tup (pa_cons (pd_dic) (pa_cons (pd_int) (pa_nil)))) (pa_cons (pd_int) (pa_nil))))))))) (pss_nil)) (pss_cons (ps_if (pt_cmp (L2.op_eqD hr.units) real_eq (by rfl) (pd_ix (fun _ _ => rfl) (pd_ix (fun _ _ => rfl) (pd_var (i := 0) rfl) (pd_ix (fun _ _ => rfl) (pd_var (i := 2) rfl) (pd_int))) (pd_int)) (pd_str)) (pss_one (ps_ret (pd_call (y := "combined") (ok "combined" (by decide)) hr rfl (pa_cons (pd_var (i := 4) rfl) (pa_cons (pd_getA hr (pd_var (i := 1) rfl) (pd_ix (fun _ _ => rfl) (pd_var (i := 2) rfl) (pd_int))) (pa_cons (pd_ix (fun _ _ => rfl) (pd_ix (fun _ _ => rfl) (pd_var (i := 0) rfl) (pd_ix (fun _ _ => rfl) (pd_var (i := 2) rfl) (pd_int))) (pd_int)) (pa_cons (pd_tup (pa_cons (pd_dic) (pa_cons (pd_int) (pa_nil)))) (pa_cons (pd_int) (pa_nil))))))))) (pss_nil)) (pss_one (ps_ret (pd_non))))))))))))))))
theorem der_p_combined {k : Nat} {c : Cl} (ok : ∀ y ∈ names, Own P w K mg base k (Str.ofString y) (c y)) (oks : ∀ q ∈ snames, OwnS P w K mg base k q.2 (Str.ofString q.1) (c q.1)) (zs : ∀ y ∈ blts, mg (Str.ofString y) = none) {fa : Addr} (cdv : Value) (A : Around) (outer : List PySem.Env) (s : Shared) (H : L2.Hp) (E : L2.XK) (hr : L2.Room k (A.deeper (envOfC "combined" (L2.defScope sp_combined) s.heap.objs.size fa cdv))) :
    PDSs (L2.cxOf L2.CX0 P w K mg base np_combined "combined" (L2.defScope sp_combined) fa cdv A outer s H E).nox (L2.defBody sp_combined) (b_p_combined c) := by
  have nd := scp_combined.nd
  unfold b_p_combined
  exact pss_cons (ps_set (i := 5) nd rfl (by first | exact .inl rfl | exact .inr rfl) (pd_call (y := "greatest") (ok "greatest" (by decide)) hr rfl (pa_cons (pd_var (i := 0) rfl) (pa_nil)))) (pss_cons (ps_set (i := 6) nd rfl (by first | exact .inl rfl | exact .inr rfl) (pd_dic)) (pss_cons (ps_for PassesOwn.never rfl (pi_seq (pd_tup (pa_cons (pd_tup (pa_cons (pd_var (i := 1) rfl) (pa_cons (pd_var (i := 2) rfl) (pa_nil)))) (pa_cons (pd_tup (pa_cons (pd_var (i := 3) rfl) (pa_cons (pd_var (i := 4) rfl) (pa_nil)))) (pa_nil))))) (pg_tup rfl (pgs_cons (pg_name (i := 7) nd rfl (by first | exact .inl rfl | exact .inr rfl)) (pgs_cons (pg_name (i := 8) nd rfl (by first | exact .inl rfl | exact .inr rfl)) (pgs_nil)))) (pss_one (ps_lockD (ps_for PassesOwn.never rfl (pi_keysD (pd_ix (fun _ _ => rfl) (pd_var (i := 7) rfl) (pd_int))) (pg_name (i := 9) nd rfl (by first | exact .inl rfl | exact .inr rfl)) (pss_one (ps_asg (pd_and (pd_add (pd_get2 hr (pd_var (i := 6) rfl) (pd_var (i := 9) rfl) (pd_int)) (pd_mul (pd_var (i := 8) rfl) (pd_getA hr (pd_ix (fun _ _ => rfl) (pd_var (i := 7) rfl) (pd_int)) (pd_var (i := 9) rfl)))) (pd_var (i := 5) rfl)) (pg_subD hr (pd_var (i := 6) rfl) (pd_var (i := 9) rfl)))))))) (pss_one (ps_ret (pd_tup (pa_cons (pd_var (i := 6) rfl) (pa_cons (pd_and (pd_add (pd_mul (pd_var (i := 2) rfl) (pd_ix (fun _ _ => rfl) (pd_var (i := 1) rfl) (pd_int))) (pd_mul (pd_var (i := 4) rfl) (pd_ix (fun _ _ => rfl) (pd_var (i := 3) rfl) (pd_int)))) (pd_var (i := 5) rfl)) (pa_nil))))))))
theorem der_l_begin {k : Nat} {c : Cl} (ok : ∀ y ∈ names, Own P w K mg base k (Str.ofString y) (c y)) (oks : ∀ q ∈ snames, OwnS P w K mg base k q.2 (Str.ofString q.1) (c q.1)) (zs : ∀ y ∈ blts, mg (Str.ofString y) = none) {fa : Addr} (cdv : Value) (A : Around) (outer : List PySem.Env) (s : Shared) (H : L2.Hp) (E : L2.XK) (hr : L2.Room k (A.deeper (envOfC "_law_begin" (L2.defScope sl_begin) s.heap.objs.size fa cdv))) :
    PDSs (L2.cxOf L2.CX0 P w K mg base nl_begin "_law_begin" (L2.defScope sl_begin) fa cdv A outer s H E).nox (L2.defBody sl_begin) (b_l_begin c) := by
  have nd := scl_begin.nd
  unfold b_l_begin
  exact pss_one (ps_ret (pd_lst (pa_cons (pd_lc (own := [("_law_cell", 1)]) rfl nd (pi_seq (pd_var (i := 0) rfl)) (L2.blkOk_by (N := nl_begin) (sc := L2.defScope sl_begin) (by decide +kernel)) (fun _ _ _ _ _ => pg_name (i := 1) nd rfl (by first | exact .inl rfl | exact .inr rfl)) (fun _ _ _ _ _ => pts_nil) (fun _ _ _ _ _ => pd_callTy L2.call_int1 real_intB rfl (zs "int" (by decide)) bt_int (pa_cons (pd_var (i := 1) rfl) (pa_nil))) (by decide)) (pa_cons (pd_int) (pa_cons (pd_int) (pa_cons (pd_int) (pa_cons (pd_int) (pa_nil))))))))
theorem der_l_draw {k : Nat} {c : Cl} (ok : ∀ y ∈ names, Own P w K mg base k (Str.ofString y) (c y)) (oks : ∀ q ∈ snames, OwnS P w K mg base k q.2 (Str.ofString q.1) (c q.1)) (zs : ∀ y ∈ blts, mg (Str.ofString y) = none) {fa : Addr} (cdv : Value) (A : Around) (outer : List PySem.Env) (s : Shared) (H : L2.Hp) (E : L2.XK) (hr : L2.Room k (A.deeper (envOfC "_law_draw" (L2.defScope sl_draw) s.heap.objs.size fa cdv))) :
    PDSs (L2.cxOf L2.CX0 P w K mg base nl_draw "_law_draw" (L2.defScope sl_draw) fa cdv A outer s H E).nox (L2.defBody sl_draw) (b_l_draw c) := by
  have nd := scl_draw.nd
  unfold b_l_draw
  exact pss_cons (ps_if (pt_cmp L2.op_gt real_gt (by rfl) (pd_ix (fun _ _ => rfl) (pd_var (i := 0) rfl) (pd_int)) (pd_int)) (pss_cons (ps_set (i := 2) nd rfl (by first | exact .inl rfl | exact .inr rfl) (pd_ix (fun _ _ => rfl) (pd_var (i := 0) rfl) (pd_int))) (pss_cons (ps_asg (pd_fdiv (pd_var (i := 2) rfl) (pd_var (i := 1) rfl)) (pg_sub (pd_var (i := 0) rfl) (pd_int))) (pss_one (ps_ret (pd_mod (pd_callTy L2.call_int1 real_intB rfl (zs "int" (by decide)) bt_int (pa_cons (pd_var (i := 2) rfl) (pa_nil))) (pd_var (i := 1) rfl)))))) (pss_nil)) (pss_cons (ps_set (i := 3) nd rfl (by first | exact .inl rfl | exact .inr rfl) (pd_int)) (pss_cons (ps_if (pt_cmp L2.op_lt real_lt (by rfl) (pd_ix (fun _ _ => rfl) (pd_var (i := 0) rfl) (pd_int)) (pd_callB L2.call_len real_lenB rfl (zs "len" (by decide)) bt_len (pa_cons (pd_ix (fun _ _ => rfl) (pd_var (i := 0) rfl) (pd_int)) (pa_nil)))) (pss_cons (ps_set (i := 4) nd rfl (by first | exact .inl rfl | exact .inr rfl) (pd_ix (fun _ _ => rfl) (pd_ix (fun _ _ => rfl) (pd_var (i := 0) rfl) (pd_int)) (pd_ix (fun _ _ => rfl) (pd_var (i := 0) rfl) (pd_int)))) (pss_one (ps_set (i := 3) nd rfl (by first | exact .inl rfl | exact .inr rfl) (pd_add (pd_mul (pd_int) (pd_callB L2.call_abs real_absB rfl (zs "abs" (by decide)) bt_abs (pa_cons (pd_var (i := 4) rfl) (pa_nil)))) (pd_callTy L2.call_int1 real_intB rfl (zs "int" (by decide)) bt_int (pa_cons (pd_cmp L2.op_lt real_lt (by rfl) (pd_var (i := 4) rfl) (pd_int)) (pa_nil))))))) (pss_nil)) (pss_cons (ps_augS ip_add real_iadd (pd_var (i := 0) rfl) (pd_int) (pd_int)) (pss_cons (ps_if (pt_cmp L2.op_ge real_ge (by rfl) (pd_var (i := 3) rfl) (pd_mul (pd_int) (pd_pow (pd_int) (pd_int)))) (pss_cons (ps_set (i := 2) nd rfl (by first | exact .inl rfl | exact .inr rfl) (pd_mod (pd_callTy L2.call_int1 real_intB rfl (zs "int" (by decide)) bt_int (pa_cons (pd_fdiv (pd_var (i := 3) rfl) (pd_int)) (pa_nil))) (pd_shl (pd_int) (pd_int)))) (pss_cons (ps_asg (pd_fdiv (pd_var (i := 2) rfl) (pd_var (i := 1) rfl)) (pg_sub (pd_var (i := 0) rfl) (pd_int))) (pss_one (ps_ret (pd_mod (pd_callTy L2.call_int1 real_intB rfl (zs "int" (by decide)) bt_int (pa_cons (pd_var (i := 2) rfl) (pa_nil))) (pd_var (i := 1) rfl)))))) (pss_nil)) (pss_cons (ps_asg (pd_mod (pd_callTy L2.call_int1 real_intB rfl (zs "int" (by decide)) bt_int (pa_cons (pd_add (pd_add (pd_add (pd_mul (pd_ix (fun _ _ => rfl) (pd_var (i := 0) rfl) (pd_int)) (pd_int)) (pd_mul (pd_mod (pd_callTy L2.call_int1 real_intB rfl (zs "int" (by decide)) bt_int (pa_cons (pd_var (i := 3) rfl) (pa_nil))) (pd_int)) (pd_int))) (pd_mul (pd_ix (fun _ _ => rfl) (pd_var (i := 0) rfl) (pd_int)) (pd_int))) (pd_int)) (pa_nil))) (pd_int)) (pg_sub (pd_var (i := 0) rfl) (pd_int))) (pss_one (ps_ret (pd_mod (pd_callTy L2.call_int1 real_intB rfl (zs "int" (by decide)) bt_int (pa_cons (pd_fdiv (pd_ix (fun _ _ => rfl) (pd_var (i := 0) rfl) (pd_int)) (pd_int)) (pa_nil))) (pd_var (i := 1) rfl)))))))))
theorem der_l_pick {k : Nat} {c : Cl} (ok : ∀ y ∈ names, Own P w K mg base k (Str.ofString y) (c y)) (oks : ∀ q ∈ snames, OwnS P w K mg base k q.2 (Str.ofString q.1) (c q.1)) (zs : ∀ y ∈ blts, mg (Str.ofString y) = none) {fa : Addr} (cdv : Value) (A : Around) (outer : List PySem.Env) (s : Shared) (H : L2.Hp) (E : L2.XK) (hr : L2.Room k (A.deeper (envOfC "_law_pick" (L2.defScope sl_pick) s.heap.objs.size fa cdv))) :
    PDSs (L2.cxOf L2.CX0 P w K mg base nl_pick "_law_pick" (L2.defScope sl_pick) fa cdv A outer s H E).nox (L2.defBody sl_pick) (b_l_pick c) := by
  have nd := scl_pick.nd
  unfold b_l_pick
  exact pss_one (ps_ret (pd_ix (fun _ _ => rfl) (pd_var (i := 1) rfl) (pd_call (y := "_law_draw") (ok "_law_draw" (by decide)) hr rfl (pa_cons (pd_var (i := 0) rfl) (pa_cons (pd_callB L2.call_len real_lenB rfl (zs "len" (by decide)) bt_len (pa_cons (pd_var (i := 1) rfl) (pa_nil))) (pa_nil))))))
theorem der_l_is_int {k : Nat} {c : Cl} (ok : ∀ y ∈ names, Own P w K mg base k (Str.ofString y) (c y)) (oks : ∀ q ∈ snames, OwnS P w K mg base k q.2 (Str.ofString q.1) (c q.1)) (zs : ∀ y ∈ blts, mg (Str.ofString y) = none) {fa : Addr} (cdv : Value) (A : Around) (outer : List PySem.Env) (s : Shared) (H : L2.Hp) (E : L2.XK) (hr : L2.Room k (A.deeper (envOfC "_law_is_int" (L2.defScope sl_is_int) s.heap.objs.size fa cdv))) :
    PDSs (L2.cxOf L2.CX0 P w K mg base nl_is_int "_law_is_int" (L2.defScope sl_is_int) fa cdv A outer s H E).nox (L2.defBody sl_is_int) (b_l_is_int c) := by
  have nd := scl_is_int.nd
  unfold b_l_is_int
  exact pss_one (ps_ret (pd_and' (pd_isi (T := "int") .int rfl (zs "isinstance" (by decide)) rfl rfl (zs "int" (by decide)) bt_int (pd_var (i := 0) rfl)) (pd_one (pd_not (pd_isi (T := "bool") .bool rfl (zs "isinstance" (by decide)) rfl rfl (zs "bool" (by decide)) bt_bool (pd_var (i := 0) rfl))))))
theorem der_l_word {k : Nat} {c : Cl} (ok : ∀ y ∈ names, Own P w K mg base k (Str.ofString y) (c y)) (oks : ∀ q ∈ snames, OwnS P w K mg base k q.2 (Str.ofString q.1) (c q.1)) (zs : ∀ y ∈ blts, mg (Str.ofString y) = none) {fa : Addr} (cdv : Value) (A : Around) (outer : List PySem.Env) (s : Shared) (H : L2.Hp) (E : L2.XK) (hr : L2.Room k (A.deeper (envOfC "_law_word" (L2.defScope sl_word) s.heap.objs.size fa cdv))) :
    PDSs (L2.cxOf L2.CX0 P w K mg base nl_word "_law_word" (L2.defScope sl_word) fa cdv A outer s H E).nox (L2.defBody sl_word) (b_l_word c) := by
  have nd := scl_word.nd
  unfold b_l_word
  exact pss_cons (ps_par rfl nd rfl rfl (by decide) (L2.ps_par rfl nd rfl rfl (by decide) rfl rfl (pa_cons (pd_ix (fun _ _ => rfl) (pd_var (i := 2) rfl) (pd_int)) (pa_cons (pd_ix (fun _ _ => rfl) (pd_var (i := 2) rfl) (pd_sub (pd_callB L2.call_len real_lenB rfl (zs "len" (by decide)) bt_len (pa_cons (pd_var (i := 2) rfl) (pa_nil))) (pd_int))) (pa_nil))) (by rfl))) (pss_cons (ps_set (i := 5) nd rfl (by first | exact .inl rfl | exact .inr rfl) (pd_sub (pd_shl (pd_int) (pd_var (i := 1) rfl)) (pd_int))) (pss_cons (ps_if (pt_cmp (L2.op_eqD hr.units) real_eq (by rfl) (pd_var (i := 0) rfl) (pd_str)) (pss_one (ps_ret (pd_ix (fun _ _ => rfl) (pd_var (i := 2) rfl) (pd_sub (pd_int) (pd_var (i := 3) rfl))))) (pss_nil)) (pss_cons (ps_if (pt_cmp L2.op_in_seq (real_in false) (by rfl) (pd_var (i := 0) rfl) (pd_tup (pa_cons (pd_str) (pa_cons (pd_str) (pa_cons (pd_str) (pa_nil)))))) (pss_one (ps_ret (pd_and (pd_if (pt_cmp (L2.op_eqD hr.units) real_eq (by rfl) (pd_var (i := 0) rfl) (pd_str)) (pd_var (i := 3) rfl) (pd_sub (pd_neg (pd_var (i := 3) rfl)) (pd_callTy L2.call_int1 real_intB rfl (zs "int" (by decide)) bt_int (pa_cons (pd_cmp (L2.op_eqD hr.units) real_eq (by rfl) (pd_var (i := 0) rfl) (pd_str)) (pa_nil))))) (pd_var (i := 5) rfl)))) (pss_nil)) (pss_cons (ps_if (pt_cmp L2.op_in_seq (real_in false) (by rfl) (pd_var (i := 0) rfl) (pd_tup (pa_cons (pd_str) (pa_cons (pd_str) (pa_cons (pd_str) (pa_nil)))))) (pss_one (ps_ret (pd_and (pd_if (pt_cmp (L2.op_eqD hr.units) real_eq (by rfl) (pd_var (i := 0) rfl) (pd_str)) (pd_add (pd_var (i := 3) rfl) (pd_var (i := 4) rfl)) (pd_if (pt_cmp (L2.op_eqD hr.units) real_eq (by rfl) (pd_var (i := 0) rfl) (pd_str)) (pd_sub (pd_var (i := 3) rfl) (pd_var (i := 4) rfl)) (pd_mul (pd_var (i := 3) rfl) (pd_var (i := 4) rfl)))) (pd_var (i := 5) rfl)))) (pss_nil)) (pss_cons (ps_if (pt_cmp L2.op_in_seq (real_in false) (by rfl) (pd_var (i := 0) rfl) (pd_tup (pa_cons (pd_str) (pa_cons (pd_str) (pa_nil))))) (pss_one (ps_ret (pd_callTy L2.call_int1 real_intB rfl (zs "int" (by decide)) bt_int (pa_cons (pd_cmp (L2.op_eqD hr.units) real_eq (by rfl) (pd_cmp (L2.op_eqD hr.units) real_eq (by rfl) (pd_var (i := 3) rfl) (pd_var (i := 4) rfl)) (pd_cmp (L2.op_eqD hr.units) real_eq (by rfl) (pd_var (i := 0) rfl) (pd_str))) (pa_nil))))) (pss_nil)) (pss_cons (ps_if (pt_cmp L2.op_in_seq (real_in false) (by rfl) (pd_var (i := 0) rfl) (pd_tup (pa_cons (pd_str) (pa_cons (pd_str) (pa_nil))))) (pss_one (ps_ret (pd_callTy L2.call_int1 real_intB rfl (zs "int" (by decide)) bt_int (pa_cons (pd_or' (pd_cmp L2.op_lt real_lt (by rfl) (pd_var (i := 3) rfl) (pd_var (i := 4) rfl)) (pd_one (pd_and' (pd_cmp (L2.op_eqD hr.units) real_eq (by rfl) (pd_var (i := 0) rfl) (pd_str)) (pd_one (pd_cmp (L2.op_eqD hr.units) real_eq (by rfl) (pd_var (i := 3) rfl) (pd_var (i := 4) rfl)))))) (pa_nil))))) (pss_nil)) (pss_cons (ps_if (pt_cmp L2.op_in_seq (real_in false) (by rfl) (pd_var (i := 0) rfl) (pd_tup (pa_cons (pd_str) (pa_cons (pd_str) (pa_cons (pd_str) (pa_nil)))))) (pss_one (ps_ret (pd_if (pt_cmp (L2.op_eqD hr.units) real_eq (by rfl) (pd_var (i := 0) rfl) (pd_str)) (pd_and (pd_var (i := 3) rfl) (pd_var (i := 4) rfl)) (pd_if (pt_cmp (L2.op_eqD hr.units) real_eq (by rfl) (pd_var (i := 0) rfl) (pd_str)) (pd_or (pd_var (i := 3) rfl) (pd_var (i := 4) rfl)) (pd_xor (pd_var (i := 3) rfl) (pd_var (i := 4) rfl)))))) (pss_nil)) (pss_cons (ps_if (pt_cmp L2.op_in_seq (real_in false) (by rfl) (pd_var (i := 0) rfl) (pd_tup (pa_cons (pd_str) (pa_cons (pd_str) (pa_nil))))) (pss_one (ps_ret (pd_if (pt_cmp (L2.op_eqD hr.units) real_eq (by rfl) (pd_var (i := 0) rfl) (pd_str)) (pd_and (pd_shl (pd_var (i := 3) rfl) (pd_callB (L2.call_min2 rfl) real_min2B rfl (zs "min" (by decide)) bt_min (pa_cons (pd_var (i := 4) rfl) (pa_cons (pd_int) (pa_nil))))) (pd_var (i := 5) rfl)) (pd_shr (pd_var (i := 3) rfl) (pd_callB (L2.call_min2 rfl) real_min2B rfl (zs "min" (by decide)) bt_min (pa_cons (pd_var (i := 4) rfl) (pa_cons (pd_int) (pa_nil)))))))) (pss_nil)) (pss_cons (ps_if (pt_cmp (L2.op_eqD hr.units) real_eq (by rfl) (pd_var (i := 4) rfl) (pd_int)) (pss_one (ps_ret (pd_int))) (pss_nil)) (pss_one (ps_ret (pd_if (pt_cmp (L2.op_eqD hr.units) real_eq (by rfl) (pd_var (i := 0) rfl) (pd_str)) (pd_fdiv (pd_var (i := 3) rfl) (pd_var (i := 4) rfl)) (pd_sub (pd_var (i := 3) rfl) (pd_mul (pd_fdiv (pd_var (i := 3) rfl) (pd_var (i := 4) rfl)) (pd_var (i := 4) rfl)))))))))))))))
theorem der_l_values {k : Nat} {c : Cl} (ok : ∀ y ∈ names, Own P w K mg base k (Str.ofString y) (c y)) (oks : ∀ q ∈ snames, OwnS P w K mg base k q.2 (Str.ofString q.1) (c q.1)) (zs : ∀ y ∈ blts, mg (Str.ofString y) = none) {fa : Addr} (cdv : Value) (A : Around) (outer : List PySem.Env) (s : Shared) (H : L2.Hp) (E : L2.XK) (hr : L2.Room k (A.deeper (envOfC "_law_values" (L2.defScope sl_values) s.heap.objs.size fa cdv))) :
    PDSs (L2.cxOf L2.CX0 P w K mg base nl_values "_law_values" (L2.defScope sl_values) fa cdv A outer s H E).nox (L2.defBody sl_values) (b_l_values c) := by
  have nd := scl_values.nd
  unfold b_l_values
  exact pss_cons (ps_set (i := 2) nd rfl (by first | exact .inl rfl | exact .inr rfl) (pd_lst (pa_nil))) (pss_cons (ps_for PassesOwn.never rfl (pi_seq (pd_var (i := 0) rfl)) (pg_name (i := 3) nd rfl (by first | exact .inl rfl | exact .inr rfl)) (pss_one (ps_if (pt_cmp (L2.op_eqD hr.units) real_eq (by rfl) (pd_ix (fun _ _ => rfl) (pd_var (i := 3) rfl) (pd_int)) (pd_str)) (pss_one (ps_expr (pd_m L2.mt_append real_append ty_list PySem.F.plainAttrs_list PySem.F.slot_list_append PySem.F.type_list_append (pd_var (i := 2) rfl) (pa_cons (pd_ix (fun _ _ => rfl) (pd_var (i := 3) rfl) (pd_int)) (pa_nil))))) (pss_one (ps_if (pt_cmp (L2.op_eqD hr.units) real_eq (by rfl) (pd_ix (fun _ _ => rfl) (pd_var (i := 3) rfl) (pd_int)) (pd_str)) (pss_cons (ps_set (i := 4) nd rfl (by first | exact .inl rfl | exact .inr rfl) (pd_if (pt_cmp L2.op_lt real_lt (by rfl) (pd_ix (fun _ _ => rfl) (pd_var (i := 3) rfl) (pd_int)) (pd_callB L2.call_len real_lenB rfl (zs "len" (by decide)) bt_len (pa_cons (pd_var (i := 1) rfl) (pa_nil)))) (pd_ix (fun _ _ => rfl) (pd_var (i := 1) rfl) (pd_ix (fun _ _ => rfl) (pd_var (i := 3) rfl) (pd_int))) (pd_int))) (pss_one (ps_expr (pd_m L2.mt_append real_append ty_list PySem.F.plainAttrs_list PySem.F.slot_list_append PySem.F.type_list_append (pd_var (i := 2) rfl) (pa_cons (pd_and (pd_var (i := 4) rfl) (pd_sub (pd_shl (pd_int) (pd_ix (fun _ _ => rfl) (pd_var (i := 3) rfl) (pd_int))) (pd_int))) (pa_nil)))))) (pss_one (ps_expr (pd_m L2.mt_append real_append ty_list PySem.F.plainAttrs_list PySem.F.slot_list_append PySem.F.type_list_append (pd_var (i := 2) rfl) (pa_cons (pd_call (y := "_law_word") (ok "_law_word" (by decide)) hr rfl (pa_cons (pd_ix (fun _ _ => rfl) (pd_var (i := 3) rfl) (pd_int)) (pa_cons (pd_ix (fun _ _ => rfl) (pd_var (i := 3) rfl) (pd_int)) (pa_cons (pd_lc (own := [("_law_part", 5)]) rfl nd (pi_seq (pd_sl (pd_var (i := 3) rfl) (po_some (pd_int)) (po_none))) (L2.blkOk_by (N := nl_values) (sc := L2.defScope sl_values) (by decide +kernel)) (fun _ _ _ _ _ => pg_name (i := 5) nd rfl (by first | exact .inl rfl | exact .inr rfl)) (fun _ _ _ _ _ => pts_nil) (fun _ _ _ _ _ => pd_ix (fun _ _ => rfl) (pd_var (i := 2) rfl) (pd_var (i := 5) rfl)) (by decide)) (pa_nil))))) (pa_nil)))))))))) (pss_one (ps_ret (pd_var (i := 2) rfl))))
theorem der_l_put {k : Nat} {c : Cl} (ok : ∀ y ∈ names, Own P w K mg base k (Str.ofString y) (c y)) (oks : ∀ q ∈ snames, OwnS P w K mg base k q.2 (Str.ofString q.1) (c q.1)) (zs : ∀ y ∈ blts, mg (Str.ofString y) = none) {fa : Addr} (cdv : Value) (A : Around) (outer : List PySem.Env) (s : Shared) (H : L2.Hp) (E : L2.XK) (hr : L2.Room k (A.deeper (envOfC "_law_put" (L2.defScope sl_put) s.heap.objs.size fa cdv))) :
    PDSs (L2.cxOf L2.CX0 P w K mg base nl_put "_law_put" (L2.defScope sl_put) fa cdv A outer s H E).nox (L2.defBody sl_put) (b_l_put c) := by
  have nd := scl_put.nd
  unfold b_l_put
  exact pss_cons (ps_if (pt_cmp (op_notinD hr.units) (real_inD true) (by rfl) (pd_var (i := 1) rfl) (pd_var (i := 0) rfl)) (pss_one (ps_expr (pd_m L2.mt_append real_append ty_list PySem.F.plainAttrs_list PySem.F.slot_list_append PySem.F.type_list_append (pd_var (i := 0) rfl) (pa_cons (pd_var (i := 1) rfl) (pa_nil))))) (pss_nil)) (pss_one (ps_ret (pd_m (mt_indexD hr.units) real_indexD ty_list PySem.F.plainAttrs_list PySem.F.slot_list_index PySem.F.type_list_index (pd_var (i := 0) rfl) (pa_cons (pd_var (i := 1) rfl) (pa_nil)))))
theorem der_l_sheet {k : Nat} {c : Cl} (ok : ∀ y ∈ names, Own P w K mg base k (Str.ofString y) (c y)) (oks : ∀ q ∈ snames, OwnS P w K mg base k q.2 (Str.ofString q.1) (c q.1)) (zs : ∀ y ∈ blts, mg (Str.ofString y) = none) {fa : Addr} (cdv : Value) (A : Around) (outer : List PySem.Env) (s : Shared) (H : L2.Hp) (E : L2.XK) (hr : L2.Room k (A.deeper (envOfC "_law_sheet" (L2.defScope sl_sheet) s.heap.objs.size fa cdv))) :
    PDSs (L2.cxOf L2.CX0 P w K mg base nl_sheet "_law_sheet" (L2.defScope sl_sheet) fa cdv A outer s H E).nox (L2.defBody sl_sheet) (b_l_sheet c) := by
  have nd := scl_sheet.nd
  unfold b_l_sheet
  exact pss_cons (ps_set (i := 1) nd rfl (by first | exact .inl rfl | exact .inr rfl) (pd_call (y := "_law_pick") (ok "_law_pick" (by decide)) hr rfl (pa_cons (pd_var (i := 0) rfl) (pa_cons (pd_lst (pa_cons (pd_int) (pa_cons (pd_int) (pa_cons (pd_int) (pa_cons (pd_int) (pa_cons (pd_int) (pa_cons (pd_int) (pa_cons (pd_int) (pa_cons (pd_int) (pa_nil)))))))))) (pa_nil))))) (pss_cons (ps_set (i := 2) nd rfl (by first | exact .inl rfl | exact .inr rfl) (pd_lst (pa_nil))) (pss_cons (ps_for PassesOwn.never rfl (pi_r1 rfl (zs "range" (by decide)) (pd_call (y := "_law_draw") (ok "_law_draw" (by decide)) hr rfl (pa_cons (pd_var (i := 0) rfl) (pa_cons (pd_int) (pa_nil))))) (pg_name (i := 3) nd rfl (by first | exact .inl rfl | exact .inr rfl)) (pss_one (ps_expr (pd_call (y := "_law_put") (ok "_law_put" (by decide)) hr rfl (pa_cons (pd_var (i := 2) rfl) (pa_cons (pd_tup (pa_cons (pd_str) (pa_cons (pd_var (i := 1) rfl) (pa_cons (pd_call (y := "_law_draw") (ok "_law_draw" (by decide)) hr rfl (pa_cons (pd_var (i := 0) rfl) (pa_cons (pd_int) (pa_nil)))) (pa_nil))))) (pa_nil))))))) (pss_cons (ps_expr (pd_call (y := "_law_put") (ok "_law_put" (by decide)) hr rfl (pa_cons (pd_var (i := 2) rfl) (pa_cons (pd_tup (pa_cons (pd_str) (pa_cons (pd_var (i := 1) rfl) (pa_cons (pd_call (y := "_law_draw") (ok "_law_draw" (by decide)) hr rfl (pa_cons (pd_var (i := 0) rfl) (pa_cons (pd_shl (pd_int) (pd_var (i := 1) rfl)) (pa_nil)))) (pa_nil))))) (pa_nil))))) (pss_cons (ps_if (pt_cmp (L2.op_eqD hr.units) real_eq (by rfl) (pd_call (y := "_law_draw") (ok "_law_draw" (by decide)) hr rfl (pa_cons (pd_var (i := 0) rfl) (pa_cons (pd_int) (pa_nil)))) (pd_int)) (pss_one (ps_expr (pd_call (y := "_law_put") (ok "_law_put" (by decide)) hr rfl (pa_cons (pd_var (i := 2) rfl) (pa_cons (pd_tup (pa_cons (pd_str) (pa_cons (pd_if (pt_cmp L2.op_lt real_lt (by rfl) (pd_var (i := 1) rfl) (pd_int)) (pd_add (pd_var (i := 1) rfl) (pd_int)) (pd_int)) (pa_cons (pd_call (y := "_law_draw") (ok "_law_draw" (by decide)) hr rfl (pa_cons (pd_var (i := 0) rfl) (pa_cons (pd_int) (pa_nil)))) (pa_nil))))) (pa_nil)))))) (pss_nil)) (pss_cons (ps_for PassesOwn.never rfl (pi_r1 rfl (zs "range" (by decide)) (pd_add (pd_int) (pd_call (y := "_law_draw") (ok "_law_draw" (by decide)) hr rfl (pa_cons (pd_var (i := 0) rfl) (pa_cons (pd_int) (pa_nil)))))) (pg_name (i := 3) nd rfl (by first | exact .inl rfl | exact .inr rfl)) (pss_one (ps_expr (pd_call (y := "_law_grow") (ok "_law_grow" (by decide)) hr rfl (pa_cons (pd_var (i := 0) rfl) (pa_cons (pd_var (i := 2) rfl) (pa_nil))))))) (pss_one (ps_ret (pd_callTy L2.call_tuple_of real_tupleB rfl (zs "tuple" (by decide)) bt_tuple (pa_cons (pd_var (i := 2) rfl) (pa_nil))))))))))
theorem der_l_grow {k : Nat} {c : Cl} (ok : ∀ y ∈ names, Own P w K mg base k (Str.ofString y) (c y)) (oks : ∀ q ∈ snames, OwnS P w K mg base k q.2 (Str.ofString q.1) (c q.1)) (zs : ∀ y ∈ blts, mg (Str.ofString y) = none) {fa : Addr} (cdv : Value) (A : Around) (outer : List PySem.Env) (s : Shared) (H : L2.Hp) (E : L2.XK) (hr : L2.Room k (A.deeper (envOfC "_law_grow" (L2.defScope sl_grow) s.heap.objs.size fa cdv))) :
    PDSs (L2.cxOf L2.CX0 P w K mg base nl_grow "_law_grow" (L2.defScope sl_grow) fa cdv A outer s H E).nox (L2.defBody sl_grow) (b_l_grow c) := by
  have nd := scl_grow.nd
  unfold b_l_grow
  exact pss_cons (ps_set (i := 2) nd rfl (by first | exact .inl rfl | exact .inr rfl) (pd_lst (pa_cons (pd_str) (pa_cons (pd_str) (pa_cons (pd_str) (pa_cons (pd_str) (pa_cons (pd_str) (pa_cons (pd_str) (pa_cons (pd_str) (pa_cons (pd_str) (pa_cons (pd_str) (pa_cons (pd_str) (pa_cons (pd_str) (pa_cons (pd_str) (pa_nil))))))))))))))) (pss_cons (ps_set (i := 3) nd rfl (by first | exact .inl rfl | exact .inr rfl) (pd_call (y := "_law_pick") (ok "_law_pick" (by decide)) hr rfl (pa_cons (pd_var (i := 0) rfl) (pa_cons (pd_add (pd_var (i := 2) rfl) (pd_lst (pa_cons (pd_str) (pa_cons (pd_str) (pa_cons (pd_str) (pa_cons (pd_str) (pa_cons (pd_str) (pa_cons (pd_str) (pa_cons (pd_str) (pa_cons (pd_str) (pa_nil))))))))))) (pa_nil))))) (pss_cons (ps_set (i := 4) nd rfl (by first | exact .inl rfl | exact .inr rfl) (pd_call (y := "_law_draw") (ok "_law_draw" (by decide)) hr rfl (pa_cons (pd_var (i := 0) rfl) (pa_cons (pd_callB L2.call_len real_lenB rfl (zs "len" (by decide)) bt_len (pa_cons (pd_var (i := 1) rfl) (pa_nil))) (pa_nil))))) (pss_cons (ps_set (i := 5) nd rfl (by first | exact .inl rfl | exact .inr rfl) (pd_ix (fun _ _ => rfl) (pd_ix (fun _ _ => rfl) (pd_var (i := 1) rfl) (pd_var (i := 4) rfl)) (pd_int))) (pss_cons (ps_set (i := 6) nd rfl (by first | exact .inl rfl | exact .inr rfl) (pd_call (y := "_law_pick") (ok "_law_pick" (by decide)) hr rfl (pa_cons (pd_var (i := 0) rfl) (pa_cons (pd_lc (own := [("_law_k", 9)]) rfl nd (pi_r1 rfl (zs "range" (by decide)) (pd_callB L2.call_len real_lenB rfl (zs "len" (by decide)) bt_len (pa_cons (pd_var (i := 1) rfl) (pa_nil)))) (L2.blkOk_by (N := nl_grow) (sc := L2.defScope sl_grow) (by decide +kernel)) (fun _ _ _ _ _ => pg_name (i := 9) nd rfl (by first | exact .inl rfl | exact .inr rfl)) (fun _ _ _ _ _ => pts_one (pt_cmp (L2.op_eqD hr.units) real_eq (by rfl) (pd_ix (fun _ _ => rfl) (pd_ix (fun _ _ => rfl) (pd_var (i := 1) rfl) (pd_var (i := 9) rfl)) (pd_int)) (pd_var (i := 5) rfl))) (fun _ _ _ _ _ => pd_var (i := 9) rfl) (by decide)) (pa_nil))))) (pss_cons (ps_if (pt_cmp L2.op_in_seq (real_in false) (by rfl) (pd_var (i := 3) rfl) (pd_tup (pa_cons (pd_str) (pa_cons (pd_str) (pa_nil))))) (pss_one (ps_ret (pd_call (y := "_law_put") (ok "_law_put" (by decide)) hr rfl (pa_cons (pd_var (i := 1) rfl) (pa_cons (pd_tup (pa_cons (pd_var (i := 3) rfl) (pa_cons (pd_var (i := 5) rfl) (pa_cons (pd_var (i := 4) rfl) (pa_nil))))) (pa_nil)))))) (pss_nil)) (pss_cons (ps_if (pt_cmp (L2.op_eqD hr.units) real_eq (by rfl) (pd_var (i := 3) rfl) (pd_str)) (pss_one (ps_ret (pd_call (y := "_law_put") (ok "_law_put" (by decide)) hr rfl (pa_cons (pd_var (i := 1) rfl) (pa_cons (pd_tup (pa_cons (pd_var (i := 3) rfl) (pa_cons (pd_add (pd_int) (pd_call (y := "_law_draw") (ok "_law_draw" (by decide)) hr rfl (pa_cons (pd_var (i := 0) rfl) (pa_cons (pd_int) (pa_nil))))) (pa_cons (pd_var (i := 4) rfl) (pa_nil))))) (pa_nil)))))) (pss_nil)) (pss_cons (ps_if (pt_cmp (L2.op_eqD hr.units) real_eq (by rfl) (pd_var (i := 3) rfl) (pd_str)) (pss_one (ps_ret (pd_call (y := "_law_put") (ok "_law_put" (by decide)) hr rfl (pa_cons (pd_var (i := 1) rfl) (pa_cons (pd_tup (pa_cons (pd_var (i := 3) rfl) (pa_cons (pd_int) (pa_cons (pd_var (i := 4) rfl) (pa_cons (pd_var (i := 6) rfl) (pa_nil)))))) (pa_nil)))))) (pss_nil)) (pss_cons (ps_if (ptw (pw_and (pt_cmp (L2.op_eqD hr.units) real_eq (by rfl) (pd_var (i := 3) rfl) (pd_str)) (pw_and1 (pt_tru (pd_call (y := "_law_draw") (ok "_law_draw" (by decide)) hr rfl (pa_cons (pd_var (i := 0) rfl) (pa_cons (pd_int) (pa_nil)))))))) (pss_cons (ps_set (i := 7) nd rfl (by first | exact .inl rfl | exact .inr rfl) (pd_add (pd_int) (pd_call (y := "_law_draw") (ok "_law_draw" (by decide)) hr rfl (pa_cons (pd_var (i := 0) rfl) (pa_cons (pd_int) (pa_nil)))))) (pss_one (ps_set (i := 6) nd rfl (by first | exact .inl rfl | exact .inr rfl) (pd_call (y := "_law_put") (ok "_law_put" (by decide)) hr rfl (pa_cons (pd_var (i := 1) rfl) (pa_cons (pd_tup (pa_cons (pd_str) (pa_cons (pd_var (i := 7) rfl) (pa_cons (pd_call (y := "_law_draw") (ok "_law_draw" (by decide)) hr rfl (pa_cons (pd_var (i := 0) rfl) (pa_cons (pd_shl (pd_int) (pd_var (i := 7) rfl)) (pa_nil)))) (pa_nil))))) (pa_nil))))))) (pss_nil)) (pss_cons (ps_if (ptw (pw_and (pt_cmp (L2.op_eqD hr.units) real_eq (by rfl) (pd_var (i := 3) rfl) (pd_str)) (pw_and1 (pt_tru (pd_call (y := "_law_draw") (ok "_law_draw" (by decide)) hr rfl (pa_cons (pd_var (i := 0) rfl) (pa_cons (pd_int) (pa_nil)))))))) (pss_cons (ps_set (i := 6) nd rfl (by first | exact .inl rfl | exact .inr rfl) (pd_call (y := "_law_put") (ok "_law_put" (by decide)) hr rfl (pa_cons (pd_var (i := 1) rfl) (pa_cons (pd_tup (pa_cons (pd_str) (pa_cons (pd_var (i := 5) rfl) (pa_cons (pd_call (y := "_law_draw") (ok "_law_draw" (by decide)) hr rfl (pa_cons (pd_var (i := 0) rfl) (pa_cons (pd_shl (pd_int) (pd_var (i := 5) rfl)) (pa_nil)))) (pa_nil))))) (pa_nil))))) (pss_one (ps_if (pt_tru (pd_call (y := "_law_draw") (ok "_law_draw" (by decide)) hr rfl (pa_cons (pd_var (i := 0) rfl) (pa_cons (pd_int) (pa_nil))))) (pss_one (ps_ret (pd_call (y := "_law_put") (ok "_law_put" (by decide)) hr rfl (pa_cons (pd_var (i := 1) rfl) (pa_cons (pd_tup (pa_cons (pd_var (i := 3) rfl) (pa_cons (pd_var (i := 5) rfl) (pa_cons (pd_var (i := 6) rfl) (pa_cons (pd_var (i := 4) rfl) (pa_nil)))))) (pa_nil)))))) (pss_nil)))) (pss_nil)) (pss_cons (ps_setLc (j := 8) (own := [("_law_k", 9)]) rfl nd rfl rfl (L2.sw_true rfl rfl rfl (by decide +kernel)) (pi_r1 rfl (zs "range" (by decide)) (pd_callB L2.call_len real_lenB rfl (zs "len" (by decide)) bt_len (pa_cons (pd_var (i := 1) rfl) (pa_nil)))) (L2.blkOk_by (N := nl_grow) (sc := L2.defScope sl_grow) (by decide +kernel)) (fun _ _ _ _ _ => pg_name (i := 9) nd rfl (by first | exact .inl rfl | exact .inr rfl)) (fun _ _ _ _ _ => pts_one (pt_cmp (L2.op_eqD hr.units) real_eq (by rfl) (pd_ix (fun _ _ => rfl) (pd_ix (fun _ _ => rfl) (pd_var (i := 1) rfl) (pd_var (i := 9) rfl)) (pd_int)) (pd_int))) (fun _ _ _ _ _ => pd_var (i := 9) rfl) (by decide)) (pss_cons (ps_if (ptw (pw_and (pt_cmp (L2.op_eqD hr.units) real_eq (by rfl) (pd_var (i := 3) rfl) (pd_str)) (pw_and1 (pt_tru (pd_var (i := 8) rfl))))) (pss_one (ps_ret (pd_call (y := "_law_put") (ok "_law_put" (by decide)) hr rfl (pa_cons (pd_var (i := 1) rfl) (pa_cons (pd_tup (pa_cons (pd_var (i := 3) rfl) (pa_cons (pd_var (i := 5) rfl) (pa_cons (pd_call (y := "_law_pick") (ok "_law_pick" (by decide)) hr rfl (pa_cons (pd_var (i := 0) rfl) (pa_cons (pd_var (i := 8) rfl) (pa_nil)))) (pa_cons (pd_var (i := 4) rfl) (pa_cons (pd_var (i := 6) rfl) (pa_nil))))))) (pa_nil)))))) (pss_nil)) (pss_cons (ps_if (pt_cmp (L2.op_eqD hr.units) real_eq (by rfl) (pd_var (i := 3) rfl) (pd_str)) (pss_one (ps_ret (pd_call (y := "_law_put") (ok "_law_put" (by decide)) hr rfl (pa_cons (pd_var (i := 1) rfl) (pa_cons (pd_tup (pa_cons (pd_str) (pa_cons (pd_var (i := 5) rfl) (pa_cons (pd_var (i := 6) rfl) (pa_cons (pd_var (i := 4) rfl) (pa_nil)))))) (pa_nil)))))) (pss_nil)) (pss_one (ps_ret (pd_call (y := "_law_put") (ok "_law_put" (by decide)) hr rfl (pa_cons (pd_var (i := 1) rfl) (pa_cons (pd_tup (pa_cons (pd_var (i := 3) rfl) (pa_cons (pd_var (i := 5) rfl) (pa_cons (pd_var (i := 4) rfl) (pa_cons (pd_var (i := 6) rfl) (pa_nil)))))) (pa_nil))))))))))))))))))
theorem der_l_linear {k : Nat} {c : Cl} (ok : ∀ y ∈ names, Own P w K mg base k (Str.ofString y) (c y)) (oks : ∀ q ∈ snames, OwnS P w K mg base k q.2 (Str.ofString q.1) (c q.1)) (zs : ∀ y ∈ blts, mg (Str.ofString y) = none) {fa : Addr} (cdv : Value) (A : Around) (outer : List PySem.Env) (s : Shared) (H : L2.Hp) (E : L2.XK) (hr : L2.Room k (A.deeper (envOfC "_law_linear" (L2.defScope sl_linear) s.heap.objs.size fa cdv))) :
    PDSs (L2.cxOf L2.CX0 P w K mg base nl_linear "_law_linear" (L2.defScope sl_linear) fa cdv A outer s H E).nox (L2.defBody sl_linear) (b_l_linear c) := by
  have nd := scl_linear.nd
  unfold b_l_linear
  exact pss_cons (ps_set (i := 2) nd rfl (by first | exact .inl rfl | exact .inr rfl) (pd_lst (pa_nil))) (pss_cons (ps_for PassesOwn.never rfl (pi_seq (pd_var (i := 0) rfl)) (pg_name (i := 3) nd rfl (by first | exact .inl rfl | exact .inr rfl)) (pss_one (ps_if (pt_cmp (L2.op_eqD hr.units) real_eq (by rfl) (pd_ix (fun _ _ => rfl) (pd_var (i := 3) rfl) (pd_int)) (pd_str)) (pss_one (ps_expr (pd_m L2.mt_append real_append ty_list PySem.F.plainAttrs_list PySem.F.slot_list_append PySem.F.type_list_append (pd_var (i := 2) rfl) (pa_cons (pd_add (pd_mul (pd_lst (pa_cons (pd_int) (pa_nil))) (pd_var (i := 1) rfl)) (pd_lst (pa_cons (pd_ix (fun _ _ => rfl) (pd_var (i := 3) rfl) (pd_int)) (pa_nil)))) (pa_nil))))) (pss_one (ps_if (pt_cmp (L2.op_eqD hr.units) real_eq (by rfl) (pd_ix (fun _ _ => rfl) (pd_var (i := 3) rfl) (pd_int)) (pd_str)) (pss_one (ps_expr (pd_m L2.mt_append real_append ty_list PySem.F.plainAttrs_list PySem.F.slot_list_append PySem.F.type_list_append (pd_var (i := 2) rfl) (pa_cons (pd_add (pd_lc (own := [("_law_n", 5)]) rfl nd (pi_r1 rfl (zs "range" (by decide)) (pd_var (i := 1) rfl)) (L2.blkOk_by (N := nl_linear) (sc := L2.defScope sl_linear) (by decide +kernel)) (fun _ _ _ _ _ => pg_name (i := 5) nd rfl (by first | exact .inl rfl | exact .inr rfl)) (fun _ _ _ _ _ => pts_nil) (fun _ _ _ _ _ => pd_callTy L2.call_int1 real_intB rfl (zs "int" (by decide)) bt_int (pa_cons (pd_cmp (L2.op_eqD hr.units) real_eq (by rfl) (pd_var (i := 5) rfl) (pd_ix (fun _ _ => rfl) (pd_var (i := 3) rfl) (pd_int))) (pa_nil))) (by decide)) (pd_lst (pa_cons (pd_int) (pa_nil)))) (pa_nil))))) (pss_cons (ps_set (i := 4) nd rfl (by first | exact .inl rfl | exact .inr rfl) (pd_call (y := "_law_linear_one") (ok "_law_linear_one" (by decide)) hr rfl (pa_cons (pd_var (i := 0) rfl) (pa_cons (pd_var (i := 2) rfl) (pa_cons (pd_var (i := 3) rfl) (pa_nil)))))) (pss_one (ps_expr (pd_m L2.mt_append real_append ty_list PySem.F.plainAttrs_list PySem.F.slot_list_append PySem.F.type_list_append (pd_var (i := 2) rfl) (pa_cons (pd_if (pt_cmp L2.op_isN real_is (by rfl) (pd_var (i := 4) rfl) (pd_non)) (pd_non) (pd_lc (own := [("_law_number", 6)]) rfl nd (pi_seq (pd_var (i := 4) rfl)) (L2.blkOk_by (N := nl_linear) (sc := L2.defScope sl_linear) (by decide +kernel)) (fun _ _ _ _ _ => pg_name (i := 6) nd rfl (by first | exact .inl rfl | exact .inr rfl)) (fun _ _ _ _ _ => pts_nil) (fun _ _ _ _ _ => pd_and (pd_var (i := 6) rfl) (pd_sub (pd_shl (pd_int) (pd_ix (fun _ _ => rfl) (pd_var (i := 3) rfl) (pd_int))) (pd_int))) (by decide))) (pa_nil))))))))))) (pss_one (ps_ret (pd_var (i := 2) rfl))))
theorem der_l_linear_one {k : Nat} {c : Cl} (ok : ∀ y ∈ names, Own P w K mg base k (Str.ofString y) (c y)) (oks : ∀ q ∈ snames, OwnS P w K mg base k q.2 (Str.ofString q.1) (c q.1)) (zs : ∀ y ∈ blts, mg (Str.ofString y) = none) {fa : Addr} (cdv : Value) (A : Around) (outer : List PySem.Env) (s : Shared) (H : L2.Hp) (E : L2.XK) (hr : L2.Room k (A.deeper (envOfC "_law_linear_one" (L2.defScope sl_linear_one) s.heap.objs.size fa cdv))) :
    PDSs (L2.cxOf L2.CX0 P w K mg base nl_linear_one "_law_linear_one" (L2.defScope sl_linear_one) fa cdv A outer s H E).nox (L2.defBody sl_linear_one) (b_l_linear_one c) := by
  have nd := scl_linear_one.nd
  unfold b_l_linear_one
  exact pss_cons (ps_set (i := 3) nd rfl (by first | exact .inl rfl | exact .inr rfl) (pd_ix (fun _ _ => rfl) (pd_var (i := 1) rfl) (pd_ix (fun _ _ => rfl) (pd_var (i := 2) rfl) (pd_int)))) (pss_cons (ps_set (i := 4) nd rfl (by first | exact .inl rfl | exact .inr rfl) (pd_ix (fun _ _ => rfl) (pd_var (i := 1) rfl) (pd_ix (fun _ _ => rfl) (pd_var (i := 2) rfl) (pd_neg (pd_int))))) (pss_cons (ps_if (ptw (pw_and (pt_cmp (L2.op_eqD hr.units) real_eq (by rfl) (pd_ix (fun _ _ => rfl) (pd_var (i := 2) rfl) (pd_int)) (pd_str)) (pw_and1 (pt_cmp L2.op_notN real_isnt (by rfl) (pd_var (i := 3) rfl) (pd_non))))) (pss_one (ps_ret (pd_lc (own := [("_law_number", 5)]) rfl nd (pi_seq (pd_var (i := 3) rfl)) (L2.blkOk_by (N := nl_linear_one) (sc := L2.defScope sl_linear_one) (by decide +kernel)) (fun _ _ _ _ _ => pg_name (i := 5) nd rfl (by first | exact .inl rfl | exact .inr rfl)) (fun _ _ _ _ _ => pts_nil) (fun _ _ _ _ _ => pd_neg (pd_var (i := 5) rfl)) (by decide)))) (pss_nil)) (pss_cons (ps_if (ptw (pw_and (pt_cmp (L2.op_eqD hr.units) real_eq (by rfl) (pd_ix (fun _ _ => rfl) (pd_var (i := 2) rfl) (pd_int)) (pd_str)) (pw_and1 (pt_cmp L2.op_notN real_isnt (by rfl) (pd_var (i := 3) rfl) (pd_non))))) (pss_one (ps_ret (pd_add (pd_lc (own := [("_law_number", 5)]) rfl nd (pi_seq (pd_sl (pd_var (i := 3) rfl) (po_none) (po_some (pd_neg (pd_int))))) (L2.blkOk_by (N := nl_linear_one) (sc := L2.defScope sl_linear_one) (by decide +kernel)) (fun _ _ _ _ _ => pg_name (i := 5) nd rfl (by first | exact .inl rfl | exact .inr rfl)) (fun _ _ _ _ _ => pts_nil) (fun _ _ _ _ _ => pd_neg (pd_var (i := 5) rfl)) (by decide)) (pd_lst (pa_cons (pd_sub (pd_neg (pd_int)) (pd_ix (fun _ _ => rfl) (pd_var (i := 3) rfl) (pd_neg (pd_int)))) (pa_nil)))))) (pss_nil)) (pss_cons (ps_if (ptw (pw_and (pt_cmp (L2.op_eqD hr.units) real_eq (by rfl) (pd_ix (fun _ _ => rfl) (pd_var (i := 2) rfl) (pd_int)) (pd_str)) (pw_and (pt_cmp L2.op_notN real_isnt (by rfl) (pd_var (i := 3) rfl) (pd_non)) (pw_and1 (pt_cmp (L2.op_eqD hr.units) real_eq (by rfl) (pd_ix (fun _ _ => rfl) (pd_ix (fun _ _ => rfl) (pd_var (i := 0) rfl) (pd_ix (fun _ _ => rfl) (pd_var (i := 2) rfl) (pd_int))) (pd_int)) (pd_str)))))) (pss_one (ps_ret (pd_lc (own := [("_law_number", 5)]) rfl nd (pi_seq (pd_var (i := 3) rfl)) (L2.blkOk_by (N := nl_linear_one) (sc := L2.defScope sl_linear_one) (by decide +kernel)) (fun _ _ _ _ _ => pg_name (i := 5) nd rfl (by first | exact .inl rfl | exact .inr rfl)) (fun _ _ _ _ _ => pts_nil) (fun _ _ _ _ _ => pd_shl (pd_var (i := 5) rfl) (pd_ix (fun _ _ => rfl) (pd_ix (fun _ _ => rfl) (pd_var (i := 0) rfl) (pd_ix (fun _ _ => rfl) (pd_var (i := 2) rfl) (pd_int))) (pd_int))) (by decide)))) (pss_nil)) (pss_cons (ps_if (ptw (pw_or (pt_cmp L2.op_isN real_is (by rfl) (pd_var (i := 3) rfl) (pd_non)) (pw_or (pt_cmp L2.op_isN real_is (by rfl) (pd_var (i := 4) rfl) (pd_non)) (pw_or1 (pt_cmp L2.op_notIn_seq (real_in true) (by rfl) (pd_ix (fun _ _ => rfl) (pd_var (i := 2) rfl) (pd_int)) (pd_tup (pa_cons (pd_str) (pa_cons (pd_str) (pa_cons (pd_str) (pa_nil)))))))))) (pss_one (ps_ret (pd_non))) (pss_nil)) (pss_cons (ps_if (pt_cmp (L2.op_eqD hr.units) real_eq (by rfl) (pd_ix (fun _ _ => rfl) (pd_var (i := 2) rfl) (pd_int)) (pd_str)) (pss_one (ps_ret (pd_lc (own := [("_law_n", 6)]) rfl nd (pi_r1 rfl (zs "range" (by decide)) (pd_callB L2.call_len real_lenB rfl (zs "len" (by decide)) bt_len (pa_cons (pd_var (i := 3) rfl) (pa_nil)))) (L2.blkOk_by (N := nl_linear_one) (sc := L2.defScope sl_linear_one) (by decide +kernel)) (fun _ _ _ _ _ => pg_name (i := 6) nd rfl (by first | exact .inl rfl | exact .inr rfl)) (fun _ _ _ _ _ => pts_nil) (fun _ _ _ _ _ => pd_add (pd_ix (fun _ _ => rfl) (pd_var (i := 3) rfl) (pd_var (i := 6) rfl)) (pd_ix (fun _ _ => rfl) (pd_var (i := 4) rfl) (pd_var (i := 6) rfl))) (by decide)))) (pss_nil)) (pss_cons (ps_if (pt_cmp (L2.op_eqD hr.units) real_eq (by rfl) (pd_ix (fun _ _ => rfl) (pd_var (i := 2) rfl) (pd_int)) (pd_str)) (pss_one (ps_ret (pd_lc (own := [("_law_n", 6)]) rfl nd (pi_r1 rfl (zs "range" (by decide)) (pd_callB L2.call_len real_lenB rfl (zs "len" (by decide)) bt_len (pa_cons (pd_var (i := 3) rfl) (pa_nil)))) (L2.blkOk_by (N := nl_linear_one) (sc := L2.defScope sl_linear_one) (by decide +kernel)) (fun _ _ _ _ _ => pg_name (i := 6) nd rfl (by first | exact .inl rfl | exact .inr rfl)) (fun _ _ _ _ _ => pts_nil) (fun _ _ _ _ _ => pd_sub (pd_ix (fun _ _ => rfl) (pd_var (i := 3) rfl) (pd_var (i := 6) rfl)) (pd_ix (fun _ _ => rfl) (pd_var (i := 4) rfl) (pd_var (i := 6) rfl))) (by decide)))) (pss_nil)) (pss_cons (ps_if (pt_cmp (L2.op_eqD hr.units) real_eq (by rfl) (pd_ix (fun _ _ => rfl) (pd_ix (fun _ _ => rfl) (pd_var (i := 0) rfl) (pd_ix (fun _ _ => rfl) (pd_var (i := 2) rfl) (pd_int))) (pd_int)) (pd_str)) (pss_one (ps_ret (pd_lc (own := [("_law_number", 5)]) rfl nd (pi_seq (pd_var (i := 4) rfl)) (L2.blkOk_by (N := nl_linear_one) (sc := L2.defScope sl_linear_one) (by decide +kernel)) (fun _ _ _ _ _ => pg_name (i := 5) nd rfl (by first | exact .inl rfl | exact .inr rfl)) (fun _ _ _ _ _ => pts_nil) (fun _ _ _ _ _ => pd_mul (pd_ix (fun _ _ => rfl) (pd_ix (fun _ _ => rfl) (pd_var (i := 0) rfl) (pd_ix (fun _ _ => rfl) (pd_var (i := 2) rfl) (pd_int))) (pd_int)) (pd_var (i := 5) rfl)) (by decide)))) (pss_nil)) (pss_cons (ps_if (pt_cmp (L2.op_eqD hr.units) real_eq (by rfl) (pd_ix (fun _ _ => rfl) (pd_ix (fun _ _ => rfl) (pd_var (i := 0) rfl) (pd_ix (fun _ _ => rfl) (pd_var (i := 2) rfl) (pd_int))) (pd_int)) (pd_str)) (pss_one (ps_ret (pd_lc (own := [("_law_number", 5)]) rfl nd (pi_seq (pd_var (i := 3) rfl)) (L2.blkOk_by (N := nl_linear_one) (sc := L2.defScope sl_linear_one) (by decide +kernel)) (fun _ _ _ _ _ => pg_name (i := 5) nd rfl (by first | exact .inl rfl | exact .inr rfl)) (fun _ _ _ _ _ => pts_nil) (fun _ _ _ _ _ => pd_mul (pd_ix (fun _ _ => rfl) (pd_ix (fun _ _ => rfl) (pd_var (i := 0) rfl) (pd_ix (fun _ _ => rfl) (pd_var (i := 2) rfl) (pd_int))) (pd_int)) (pd_var (i := 5) rfl)) (by decide)))) (pss_nil)) (pss_one (ps_ret (pd_non))))))))))))
theorem der_l_same {k : Nat} {c : Cl} (ok : ∀ y ∈ names, Own P w K mg base k (Str.ofString y) (c y)) (oks : ∀ q ∈ snames, OwnS P w K mg base k q.2 (Str.ofString q.1) (c q.1)) (zs : ∀ y ∈ blts, mg (Str.ofString y) = none) {fa : Addr} (cdv : Value) (A : Around) (outer : List PySem.Env) (s : Shared) (H : L2.Hp) (E : L2.XK) (hr : L2.Room k (A.deeper (envOfC "_law_same" (L2.defScope sl_same) s.heap.objs.size fa cdv))) :
    PDSs (L2.cxOf L2.CX0 P w K mg base nl_same "_law_same" (L2.defScope sl_same) fa cdv A outer s H E).nox (L2.defBody sl_same) (b_l_same c) := by
  have nd := scl_same.nd
  unfold b_l_same
  exact pss_cons (ps_if (pt_cmp L2.op_isN real_is (by rfl) (pd_var (i := 1) rfl) (pd_non)) (pss_one (ps_ret (pd_cmp L2.op_isN real_is (by rfl) (pd_var (i := 0) rfl) (pd_non)))) (pss_nil)) (pss_cons (ps_if (ptw (pw_or (pt_not (pt_tru (pd_isi (T := "tuple") .tuple rfl (zs "isinstance" (by decide)) rfl rfl (zs "tuple" (by decide)) bt_tuple (pd_var (i := 0) rfl)))) (pw_or (pt_cmp (L2.op_neD hr.units) real_ne (by rfl) (pd_callB L2.call_len real_lenB rfl (zs "len" (by decide)) bt_len (pa_cons (pd_var (i := 0) rfl) (pa_nil))) (pd_int)) (pw_or1 (pt_not (pt_tru (pd_isi (T := "tuple") .tuple rfl (zs "isinstance" (by decide)) rfl rfl (zs "tuple" (by decide)) bt_tuple (pd_ix (fun _ _ => rfl) (pd_var (i := 0) rfl) (pd_int))))))))) (pss_one (ps_ret (pd_bl))) (pss_nil)) (pss_cons (ps_if (ptw (pw_or (pt_not (pt_tru (pd_call (y := "_law_is_int") (ok "_law_is_int" (by decide)) hr rfl (pa_cons (pd_ix (fun _ _ => rfl) (pd_var (i := 0) rfl) (pd_int)) (pa_nil))))) (pw_or1 (pt_cmp (L2.op_neD hr.units) real_ne (by rfl) (pd_ix (fun _ _ => rfl) (pd_var (i := 0) rfl) (pd_int)) (pd_ix (fun _ _ => rfl) (pd_var (i := 1) rfl) (pd_neg (pd_int))))))) (pss_one (ps_ret (pd_bl))) (pss_nil)) (pss_cons (ps_setLc (j := 2) (own := [("_law_n", 5)]) rfl nd rfl rfl (L2.sw_true rfl rfl rfl (by decide +kernel)) (pi_r1 rfl (zs "range" (by decide)) (pd_sub (pd_callB L2.call_len real_lenB rfl (zs "len" (by decide)) bt_len (pa_cons (pd_var (i := 1) rfl) (pa_nil))) (pd_int))) (L2.blkOk_by (N := nl_same) (sc := L2.defScope sl_same) (by decide +kernel)) (fun _ _ _ _ _ => pg_name (i := 5) nd rfl (by first | exact .inl rfl | exact .inr rfl)) (fun _ _ _ _ _ => pts_one (pt_cmp (L2.op_neD hr.units) real_ne (by rfl) (pd_ix (fun _ _ => rfl) (pd_var (i := 1) rfl) (pd_var (i := 5) rfl)) (pd_int))) (fun _ _ _ _ _ => pd_tup (pa_cons (pd_var (i := 5) rfl) (pa_cons (pd_ix (fun _ _ => rfl) (pd_var (i := 1) rfl) (pd_var (i := 5) rfl)) (pa_nil)))) (by decide)) (pss_cons (ps_if (pt_cmp (L2.op_neD hr.units) real_ne (by rfl) (pd_callB L2.call_len real_lenB rfl (zs "len" (by decide)) bt_len (pa_cons (pd_ix (fun _ _ => rfl) (pd_var (i := 0) rfl) (pd_int)) (pa_nil))) (pd_callB L2.call_len real_lenB rfl (zs "len" (by decide)) bt_len (pa_cons (pd_var (i := 2) rfl) (pa_nil)))) (pss_one (ps_ret (pd_bl))) (pss_nil)) (pss_cons (ps_for PassesOwn.never rfl (pi_r1 rfl (zs "range" (by decide)) (pd_callB L2.call_len real_lenB rfl (zs "len" (by decide)) bt_len (pa_cons (pd_var (i := 2) rfl) (pa_nil)))) (pg_name (i := 3) nd rfl (by first | exact .inl rfl | exact .inr rfl)) (pss_cons (ps_set (i := 4) nd rfl (by first | exact .inl rfl | exact .inr rfl) (pd_ix (fun _ _ => rfl) (pd_ix (fun _ _ => rfl) (pd_var (i := 0) rfl) (pd_int)) (pd_var (i := 3) rfl))) (pss_cons (ps_if (ptw (pw_or (pt_not (pt_tru (pd_isi (T := "tuple") .tuple rfl (zs "isinstance" (by decide)) rfl rfl (zs "tuple" (by decide)) bt_tuple (pd_var (i := 4) rfl)))) (pw_or (pt_cmp (L2.op_neD hr.units) real_ne (by rfl) (pd_callB L2.call_len real_lenB rfl (zs "len" (by decide)) bt_len (pa_cons (pd_var (i := 4) rfl) (pa_nil))) (pd_int)) (pw_or (pt_not (pt_tru (pd_call (y := "_law_is_int") (ok "_law_is_int" (by decide)) hr rfl (pa_cons (pd_ix (fun _ _ => rfl) (pd_var (i := 4) rfl) (pd_int)) (pa_nil))))) (pw_or1 (pt_not (pt_tru (pd_call (y := "_law_is_int") (ok "_law_is_int" (by decide)) hr rfl (pa_cons (pd_ix (fun _ _ => rfl) (pd_var (i := 4) rfl) (pd_int)) (pa_nil)))))))))) (pss_one (ps_ret (pd_bl))) (pss_nil)) (pss_one (ps_if (pt_cmp (L2.op_neD hr.units) real_ne (by rfl) (pd_var (i := 4) rfl) (pd_ix (fun _ _ => rfl) (pd_var (i := 2) rfl) (pd_var (i := 3) rfl))) (pss_one (ps_ret (pd_bl))) (pss_nil)))))) (pss_one (ps_ret (pd_bl))))))))
theorem der_l_total {k : Nat} {c : Cl} (ok : ∀ y ∈ names, Own P w K mg base k (Str.ofString y) (c y)) (oks : ∀ q ∈ snames, OwnS P w K mg base k q.2 (Str.ofString q.1) (c q.1)) (zs : ∀ y ∈ blts, mg (Str.ofString y) = none) {fa : Addr} (cdv : Value) (A : Around) (outer : List PySem.Env) (s : Shared) (H : L2.Hp) (E : L2.XK) (hr : L2.Room k (A.deeper (envOfC "_law_total" (L2.defScope sl_total) s.heap.objs.size fa cdv))) :
    PDSs (L2.cxOf L2.CX0 P w K mg base nl_total "_law_total" (L2.defScope sl_total) fa cdv A outer s H E).nox (L2.defBody sl_total) (b_l_total c) := by
  have nd := scl_total.nd
  unfold b_l_total
  exact pss_cons (ps_set (i := 3) nd rfl (by first | exact .inl rfl | exact .inr rfl) (pd_ix (fun _ _ => rfl) (pd_var (i := 0) rfl) (pd_int))) (pss_cons (ps_for PassesOwn.never rfl (pi_seq (pd_ix (fun _ _ => rfl) (pd_var (i := 0) rfl) (pd_int))) (pg_tup rfl (pgs_cons (pg_name (i := 4) nd rfl (by first | exact .inl rfl | exact .inr rfl)) (pgs_cons (pg_name (i := 5) nd rfl (by first | exact .inl rfl | exact .inr rfl)) (pgs_nil)))) (pss_one (ps_aug (i := 3) ip_add real_iadd nd rfl (by first | exact .inl rfl | exact .inr rfl) (pd_mul (pd_var (i := 5) rfl) (pd_if (pt_cmp L2.op_lt real_lt (by rfl) (pd_var (i := 4) rfl) (pd_callB L2.call_len real_lenB rfl (zs "len" (by decide)) bt_len (pa_cons (pd_var (i := 1) rfl) (pa_nil)))) (pd_ix (fun _ _ => rfl) (pd_var (i := 1) rfl) (pd_var (i := 4) rfl)) (pd_int)))))) (pss_one (ps_ret (pd_and (pd_var (i := 3) rfl) (pd_sub (pd_shl (pd_int) (pd_var (i := 2) rfl)) (pd_int))))))
theorem der_l_law {k : Nat} {c : Cl} (ok : ∀ y ∈ names, Own P w K mg base k (Str.ofString y) (c y)) (oks : ∀ q ∈ snames, OwnS P w K mg base k q.2 (Str.ofString q.1) (c q.1)) (zs : ∀ y ∈ blts, mg (Str.ofString y) = none) {fa : Addr} (cdv : Value) (A : Around) (outer : List PySem.Env) (s : Shared) (H : L2.Hp) (E : L2.XK) (hr : L2.Room k (A.deeper (envOfC "law" (L2.defScope sl_law) s.heap.objs.size fa cdv))) :
    PDSs (L2.cxOf L2.CX0 P w K mg base nl_law "law" (L2.defScope sl_law) fa cdv A outer s H E).nox (L2.defBody sl_law) (b_l_law c) := by
  have nd := scl_law.nd
  unfold b_l_law
  exact pss_cons (ps_set (i := 1) nd rfl (by first | exact .inl rfl | exact .inr rfl) (pd_call (y := "_law_begin") (ok "_law_begin" (by decide)) hr rfl (pa_cons (pd_var (i := 0) rfl) (pa_nil)))) (pss_cons (ps_set (i := 2) nd rfl (by first | exact .inl rfl | exact .inr rfl) (pd_lst (pa_cons (pd_call (y := "_law_sheet") (ok "_law_sheet" (by decide)) hr rfl (pa_cons (pd_var (i := 1) rfl) (pa_nil))) (pa_cons (pd_call (y := "_law_sheet") (ok "_law_sheet" (by decide)) hr rfl (pa_cons (pd_var (i := 1) rfl) (pa_nil))) (pa_nil))))) (pss_cons (ps_set (i := 3) nd rfl (by first | exact .inl rfl | exact .inr rfl) (pd_callTy L2.call_tuple_of real_tupleB rfl (zs "tuple" (by decide)) bt_tuple (pa_cons (pd_lc (own := [("_law_k", 8)]) rfl nd (pi_r1 rfl (zs "range" (by decide)) (pd_call (y := "_law_draw") (ok "_law_draw" (by decide)) hr rfl (pa_cons (pd_var (i := 1) rfl) (pa_cons (pd_int) (pa_nil))))) (L2.blkOk_by (N := nl_law) (sc := L2.defScope sl_law) (by decide +kernel)) (fun _ _ _ _ _ => pg_name (i := 8) nd rfl (by first | exact .inl rfl | exact .inr rfl)) (fun _ _ _ _ _ => pts_nil) (fun _ _ _ _ _ => pd_call (y := "_law_draw") (ok "_law_draw" (by decide)) hr rfl (pa_cons (pd_var (i := 1) rfl) (pa_cons (pd_int) (pa_nil)))) (by decide)) (pa_nil)))) (pss_cons (ps_setLc (j := 4) (own := [("_law_nodes", 10)]) rfl nd rfl rfl (L2.sw_true rfl rfl rfl (by decide +kernel)) (pi_seq (pd_var (i := 2) rfl)) (L2.blkOk_by (N := nl_law) (sc := L2.defScope sl_law) (by decide +kernel)) (fun _ _ _ _ _ => pg_name (i := 10) nd rfl (by first | exact .inl rfl | exact .inr rfl)) (fun _ _ _ _ _ => pts_nil) (fun _ _ _ _ _ => pd_call (y := "_law_linear") (ok "_law_linear" (by decide)) hr rfl (pa_cons (pd_var (i := 10) rfl) (pa_cons (pd_int) (pa_nil)))) (by decide)) (pss_cons (ps_setLc (j := 5) (own := [("_law_nodes", 10)]) rfl nd rfl rfl (L2.sw_true rfl rfl rfl (by decide +kernel)) (pi_seq (pd_var (i := 2) rfl)) (L2.blkOk_by (N := nl_law) (sc := L2.defScope sl_law) (by decide +kernel)) (fun _ _ _ _ _ => pg_name (i := 10) nd rfl (by first | exact .inl rfl | exact .inr rfl)) (fun _ _ _ _ _ => pts_nil) (fun _ _ _ _ _ => pd_call (y := "_law_values") (ok "_law_values" (by decide)) hr rfl (pa_cons (pd_var (i := 10) rfl) (pa_cons (pd_var (i := 3) rfl) (pa_nil)))) (by decide)) (pss_cons (ps_set (i := 6) nd rfl (by first | exact .inl rfl | exact .inr rfl) (pd_callB (L2.cr_max rfl) real_max1B rfl (zs "max" (by decide)) bt_max (pa_cons (pd_lc (own := [("_law_nodes", 10)]) rfl nd (pi_seq (pd_var (i := 2) rfl)) (L2.blkOk_by (N := nl_law) (sc := L2.defScope sl_law) (by decide +kernel)) (fun _ _ _ _ _ => pg_name (i := 10) nd rfl (by first | exact .inl rfl | exact .inr rfl)) (fun _ _ _ _ _ => pts_nil) (fun _ _ _ _ _ => pd_callB L2.call_len real_lenB rfl (zs "len" (by decide)) bt_len (pa_cons (pd_var (i := 10) rfl) (pa_nil))) (by decide)) (pa_nil)))) (pss_cons (ps_for PassesOwn.never rfl (pi_seq (pd_add (pd_listRg rfl rfl (zs "list" (by decide)) (pr_1 rfl (zs "range" (by decide)) (pd_var (i := 6) rfl))) (pd_lstRD rfl rfl (zs "list" (by decide)) rfl (zs "range" (by decide)) (pd_sub (pd_var (i := 6) rfl) (pd_int)) (pd_callB (L2.call_max2 rfl) real_max2B rfl (zs "max" (by decide)) bt_max (pa_cons (pd_neg (pd_int)) (pa_cons (pd_sub (pd_var (i := 6) rfl) (pd_int)) (pa_nil))))))) (pg_name (i := 7) nd rfl (by first | exact .inl rfl | exact .inr rfl)) (pss_one (ps_for PassesOwn.never rfl (pi_r1 rfl (zs "range" (by decide)) (pd_int)) (pg_name (i := 8) nd rfl (by first | exact .inl rfl | exact .inr rfl)) (pss_one (ps_if (pt_cmp L2.op_lt real_lt (by rfl) (pd_var (i := 7) rfl) (pd_callB L2.call_len real_lenB rfl (zs "len" (by decide)) bt_len (pa_cons (pd_ix (fun _ _ => rfl) (pd_var (i := 2) rfl) (pd_var (i := 8) rfl)) (pa_nil)))) (pss_cons (ps_set (i := 9) nd rfl (by first | exact .inl rfl | exact .inr rfl) (pd_call (y := "form_of") (ok "form_of" (by decide)) hr rfl (pa_cons (pd_ix (fun _ _ => rfl) (pd_var (i := 2) rfl) (pd_var (i := 8) rfl)) (pa_cons (pd_var (i := 7) rfl) (pa_nil))))) (pss_cons (ps_if (pt_not (pt_tru (pd_call (y := "_law_same") (ok "_law_same" (by decide)) hr rfl (pa_cons (pd_var (i := 9) rfl) (pa_cons (pd_ix (fun _ _ => rfl) (pd_ix (fun _ _ => rfl) (pd_var (i := 4) rfl) (pd_var (i := 8) rfl)) (pd_var (i := 7) rfl)) (pa_nil)))))) (pss_one (ps_ret (pd_bl))) (pss_nil)) (pss_one (ps_if (ptw (pw_and (pt_cmp L2.op_notN real_isnt (by rfl) (pd_var (i := 9) rfl) (pd_non)) (pw_and1 (pt_cmp (L2.op_neD hr.units) real_ne (by rfl) (pd_call (y := "_law_total") (ok "_law_total" (by decide)) hr rfl (pa_cons (pd_var (i := 9) rfl) (pa_cons (pd_var (i := 3) rfl) (pa_cons (pd_ix (fun _ _ => rfl) (pd_ix (fun _ _ => rfl) (pd_ix (fun _ _ => rfl) (pd_var (i := 2) rfl) (pd_var (i := 8) rfl)) (pd_var (i := 7) rfl)) (pd_int)) (pa_nil))))) (pd_ix (fun _ _ => rfl) (pd_ix (fun _ _ => rfl) (pd_var (i := 5) rfl) (pd_var (i := 8) rfl)) (pd_var (i := 7) rfl)))))) (pss_one (ps_ret (pd_bl))) (pss_nil))))) (pss_nil)))))) (pss_one (ps_ret (pd_bl)))))))))
end
theorem all_mk {l : PySem.W.OpenLaw} {w : World} {K : PySem.W.Frag} {h : Heap} {mg : Str → Option Value} {fa : Addr} (X : K.In h) (G : h.Ns mainGlobals mg) (hfa : mg "law" = some (.ref fa))
    {f1 : Addr} {od1 an1 : Option Addr} {sl1 : Array (Option Value)} {oc1 kV1 dc1 pm1 cd1 ct1 : Value}
    {f2 : Addr} {od2 an2 : Option Addr} {sl2 : Array (Option Value)} {oc2 kV2 dc2 pm2 cd2 ct2 : Value}
    {f3 : Addr} {od3 an3 : Option Addr} {sl3 : Array (Option Value)} {oc3 kV3 dc3 pm3 cd3 ct3 : Value}
    {f4 : Addr} {od4 an4 : Option Addr} {sl4 : Array (Option Value)} {oc4 kV4 dc4 pm4 cd4 ct4 : Value}
    {f5 : Addr} {od5 an5 : Option Addr} {sl5 : Array (Option Value)} {oc5 kV5 dc5 pm5 cd5 ct5 : Value}
    {f6 : Addr} {od6 an6 : Option Addr} {sl6 : Array (Option Value)} {oc6 kV6 dc6 pm6 cd6 ct6 : Value}
    {f7 : Addr} {od7 an7 : Option Addr} {sl7 : Array (Option Value)} {oc7 kV7 dc7 pm7 cd7 ct7 : Value}
    {f8 : Addr} {od8 an8 : Option Addr} {sl8 : Array (Option Value)} {oc8 kV8 dc8 pm8 cd8 ct8 : Value}
    {f9 : Addr} {od9 an9 : Option Addr} {sl9 : Array (Option Value)} {oc9 kV9 dc9 pm9 cd9 ct9 : Value}
    {f10 : Addr} {od10 an10 : Option Addr} {sl10 : Array (Option Value)} {oc10 kV10 dc10 pm10 cd10 ct10 : Value}
    {f11 : Addr} {od11 an11 : Option Addr} {sl11 : Array (Option Value)} {oc11 kV11 dc11 pm11 cd11 ct11 : Value}
    {f12 : Addr} {od12 an12 : Option Addr} {sl12 : Array (Option Value)} {oc12 kV12 dc12 pm12 cd12 ct12 : Value}
    {f13 : Addr} {od13 an13 : Option Addr} {sl13 : Array (Option Value)} {oc13 kV13 dc13 pm13 cd13 ct13 : Value}
    {f14 : Addr} {od14 an14 : Option Addr} {sl14 : Array (Option Value)} {oc14 kV14 dc14 pm14 cd14 ct14 : Value}
    {f15 : Addr} {od15 an15 : Option Addr} {sl15 : Array (Option Value)} {oc15 kV15 dc15 pm15 cd15 ct15 : Value}
    {f16 : Addr} {od16 an16 : Option Addr} {sl16 : Array (Option Value)} {oc16 kV16 dc16 pm16 cd16 ct16 : Value}
    {f17 : Addr} {od17 an17 : Option Addr} {sl17 : Array (Option Value)} {oc17 kV17 dc17 pm17 cd17 ct17 : Value}
    {f18 : Addr} {od18 an18 : Option Addr} {sl18 : Array (Option Value)} {oc18 kV18 dc18 pm18 cd18 ct18 : Value}
    {f19 : Addr} {od19 an19 : Option Addr} {sl19 : Array (Option Value)} {oc19 kV19 dc19 pm19 cd19 ct19 : Value}
    (a1 : PySem.W.nsIn K mainGlobals "greatest" = some (some (.ref f1))) (l1 : K.lookup f1 = some ⟨oc1, od1, .func (PySem.W.fnOf "greatest" "greatest" (L2.defArgs sp_greatest) (L2.defBody sp_greatest) (L2.defScope sp_greatest) .none kV1 dc1 pm1 an1 cd1 ct1), sl1⟩) (c1 : PySem.W.codeIn K cd1 "greatest" = true) (k1 : PySem.W.keepIn K (.ref f1) = true)
    (a2 : PySem.W.nsIn K mainGlobals "needed_for" = some (some (.ref f2))) (l2 : K.lookup f2 = some ⟨oc2, od2, .func (PySem.W.fnOf "needed_for" "needed_for" (L2.defArgs sp_needed_for) (L2.defBody sp_needed_for) (L2.defScope sp_needed_for) .none kV2 dc2 pm2 an2 cd2 ct2), sl2⟩) (c2 : PySem.W.codeIn K cd2 "needed_for" = true) (k2 : PySem.W.keepIn K (.ref f2) = true)
    (a3 : PySem.W.nsIn K mainGlobals "form_of" = some (some (.ref f3))) (l3 : K.lookup f3 = some ⟨oc3, od3, .func (PySem.W.fnOf "form_of" "form_of" (L2.defArgs sp_form_of) (L2.defBody sp_form_of) (L2.defScope sp_form_of) .none kV3 dc3 pm3 an3 cd3 ct3), sl3⟩) (c3 : PySem.W.codeIn K cd3 "form_of" = true) (k3 : PySem.W.keepIn K (.ref f3) = true)
    (a4 : PySem.W.nsIn K mainGlobals "one_form" = some (some (.ref f4))) (l4 : K.lookup f4 = some ⟨oc4, od4, .func (PySem.W.fnOf "one_form" "one_form" (L2.defArgs sp_one_form) (L2.defBody sp_one_form) (L2.defScope sp_one_form) .none kV4 dc4 pm4 an4 cd4 ct4), sl4⟩) (c4 : PySem.W.codeIn K cd4 "one_form" = true) (k4 : PySem.W.keepIn K (.ref f4) = true)
    (a5 : PySem.W.nsIn K mainGlobals "combined" = some (some (.ref f5))) (l5 : K.lookup f5 = some ⟨oc5, od5, .func (PySem.W.fnOf "combined" "combined" (L2.defArgs sp_combined) (L2.defBody sp_combined) (L2.defScope sp_combined) .none kV5 dc5 pm5 an5 cd5 ct5), sl5⟩) (c5 : PySem.W.codeIn K cd5 "combined" = true) (k5 : PySem.W.keepIn K (.ref f5) = true)
    (a6 : PySem.W.nsIn K mainGlobals "_law_begin" = some (some (.ref f6))) (l6 : K.lookup f6 = some ⟨oc6, od6, .func (PySem.W.fnOf "_law_begin" "_law_begin" (L2.defArgs sl_begin) (L2.defBody sl_begin) (L2.defScope sl_begin) .none kV6 dc6 pm6 an6 cd6 ct6), sl6⟩) (c6 : PySem.W.codeIn K cd6 "_law_begin" = true) (k6 : PySem.W.keepIn K (.ref f6) = true)
    (a7 : PySem.W.nsIn K mainGlobals "_law_draw" = some (some (.ref f7))) (l7 : K.lookup f7 = some ⟨oc7, od7, .func (PySem.W.fnOf "_law_draw" "_law_draw" (L2.defArgs sl_draw) (L2.defBody sl_draw) (L2.defScope sl_draw) .none kV7 dc7 pm7 an7 cd7 ct7), sl7⟩) (c7 : PySem.W.codeIn K cd7 "_law_draw" = true) (k7 : PySem.W.keepIn K (.ref f7) = true)
    (a8 : PySem.W.nsIn K mainGlobals "_law_pick" = some (some (.ref f8))) (l8 : K.lookup f8 = some ⟨oc8, od8, .func (PySem.W.fnOf "_law_pick" "_law_pick" (L2.defArgs sl_pick) (L2.defBody sl_pick) (L2.defScope sl_pick) .none kV8 dc8 pm8 an8 cd8 ct8), sl8⟩) (c8 : PySem.W.codeIn K cd8 "_law_pick" = true) (k8 : PySem.W.keepIn K (.ref f8) = true)
    (a9 : PySem.W.nsIn K mainGlobals "_law_is_int" = some (some (.ref f9))) (l9 : K.lookup f9 = some ⟨oc9, od9, .func (PySem.W.fnOf "_law_is_int" "_law_is_int" (L2.defArgs sl_is_int) (L2.defBody sl_is_int) (L2.defScope sl_is_int) .none kV9 dc9 pm9 an9 cd9 ct9), sl9⟩) (c9 : PySem.W.codeIn K cd9 "_law_is_int" = true) (k9 : PySem.W.keepIn K (.ref f9) = true)
    (a10 : PySem.W.nsIn K mainGlobals "_law_word" = some (some (.ref f10))) (l10 : K.lookup f10 = some ⟨oc10, od10, .func (PySem.W.fnOf "_law_word" "_law_word" (L2.defArgs sl_word) (L2.defBody sl_word) (L2.defScope sl_word) .none kV10 dc10 pm10 an10 cd10 ct10), sl10⟩) (c10 : PySem.W.codeIn K cd10 "_law_word" = true) (k10 : PySem.W.keepIn K (.ref f10) = true)
    (a11 : PySem.W.nsIn K mainGlobals "_law_values" = some (some (.ref f11))) (l11 : K.lookup f11 = some ⟨oc11, od11, .func (PySem.W.fnOf "_law_values" "_law_values" (L2.defArgs sl_values) (L2.defBody sl_values) (L2.defScope sl_values) .none kV11 dc11 pm11 an11 cd11 ct11), sl11⟩) (c11 : PySem.W.codeIn K cd11 "_law_values" = true) (k11 : PySem.W.keepIn K (.ref f11) = true)
    (a12 : PySem.W.nsIn K mainGlobals "_law_put" = some (some (.ref f12))) (l12 : K.lookup f12 = some ⟨oc12, od12, .func (PySem.W.fnOf "_law_put" "_law_put" (L2.defArgs sl_put) (L2.defBody sl_put) (L2.defScope sl_put) .none kV12 dc12 pm12 an12 cd12 ct12), sl12⟩) (c12 : PySem.W.codeIn K cd12 "_law_put" = true) (k12 : PySem.W.keepIn K (.ref f12) = true)
    (a13 : PySem.W.nsIn K mainGlobals "_law_sheet" = some (some (.ref f13))) (l13 : K.lookup f13 = some ⟨oc13, od13, .func (PySem.W.fnOf "_law_sheet" "_law_sheet" (L2.defArgs sl_sheet) (L2.defBody sl_sheet) (L2.defScope sl_sheet) .none kV13 dc13 pm13 an13 cd13 ct13), sl13⟩) (c13 : PySem.W.codeIn K cd13 "_law_sheet" = true) (k13 : PySem.W.keepIn K (.ref f13) = true)
    (a14 : PySem.W.nsIn K mainGlobals "_law_grow" = some (some (.ref f14))) (l14 : K.lookup f14 = some ⟨oc14, od14, .func (PySem.W.fnOf "_law_grow" "_law_grow" (L2.defArgs sl_grow) (L2.defBody sl_grow) (L2.defScope sl_grow) .none kV14 dc14 pm14 an14 cd14 ct14), sl14⟩) (c14 : PySem.W.codeIn K cd14 "_law_grow" = true) (k14 : PySem.W.keepIn K (.ref f14) = true)
    (a15 : PySem.W.nsIn K mainGlobals "_law_linear" = some (some (.ref f15))) (l15 : K.lookup f15 = some ⟨oc15, od15, .func (PySem.W.fnOf "_law_linear" "_law_linear" (L2.defArgs sl_linear) (L2.defBody sl_linear) (L2.defScope sl_linear) .none kV15 dc15 pm15 an15 cd15 ct15), sl15⟩) (c15 : PySem.W.codeIn K cd15 "_law_linear" = true) (k15 : PySem.W.keepIn K (.ref f15) = true)
    (a16 : PySem.W.nsIn K mainGlobals "_law_linear_one" = some (some (.ref f16))) (l16 : K.lookup f16 = some ⟨oc16, od16, .func (PySem.W.fnOf "_law_linear_one" "_law_linear_one" (L2.defArgs sl_linear_one) (L2.defBody sl_linear_one) (L2.defScope sl_linear_one) .none kV16 dc16 pm16 an16 cd16 ct16), sl16⟩) (c16 : PySem.W.codeIn K cd16 "_law_linear_one" = true) (k16 : PySem.W.keepIn K (.ref f16) = true)
    (a17 : PySem.W.nsIn K mainGlobals "_law_same" = some (some (.ref f17))) (l17 : K.lookup f17 = some ⟨oc17, od17, .func (PySem.W.fnOf "_law_same" "_law_same" (L2.defArgs sl_same) (L2.defBody sl_same) (L2.defScope sl_same) .none kV17 dc17 pm17 an17 cd17 ct17), sl17⟩) (c17 : PySem.W.codeIn K cd17 "_law_same" = true) (k17 : PySem.W.keepIn K (.ref f17) = true)
    (a18 : PySem.W.nsIn K mainGlobals "_law_total" = some (some (.ref f18))) (l18 : K.lookup f18 = some ⟨oc18, od18, .func (PySem.W.fnOf "_law_total" "_law_total" (L2.defArgs sl_total) (L2.defBody sl_total) (L2.defScope sl_total) .none kV18 dc18 pm18 an18 cd18 ct18), sl18⟩) (c18 : PySem.W.codeIn K cd18 "_law_total" = true) (k18 : PySem.W.keepIn K (.ref f18) = true)
    (a19 : PySem.W.nsIn K mainGlobals "law" = some (some (.ref f19))) (l19 : K.lookup f19 = some ⟨oc19, od19, .func (PySem.W.fnOf "law" "law" (L2.defArgs sl_law) (L2.defBody sl_law) (L2.defScope sl_law) .none kV19 dc19 pm19 an19 cd19 ct19), sl19⟩) (c19 : PySem.W.codeIn K cd19 "law" = true) (k19 : PySem.W.keepIn K (.ref f19) = true)
    (z1 : PySem.W.nsIn K mainGlobals "abs" = some none) (z2 : PySem.W.nsIn K mainGlobals "bool" = some none) (z3 : PySem.W.nsIn K mainGlobals "int" = some none) (z4 : PySem.W.nsIn K mainGlobals "isinstance" = some none) (z5 : PySem.W.nsIn K mainGlobals "len" = some none) (z6 : PySem.W.nsIn K mainGlobals "list" = some none) (z7 : PySem.W.nsIn K mainGlobals "max" = some none) (z8 : PySem.W.nsIn K mainGlobals "min" = some none) (z9 : PySem.W.nsIn K mainGlobals "range" = some none) (z10 : PySem.W.nsIn K mainGlobals "sorted" = some none) (z11 : PySem.W.nsIn K mainGlobals "tuple" = some none) :
    ∃ fd : FuncData, (∀ (s : Shared) (v : Value), BindsTo s fd ⟨[v], []⟩ [("_law_script", v)]) ∧ ∀ base : Heap, K.In base → base.Ns mainGlobals mg → L2.FnOk l.prog w K mg base L2.CX0 61 fa fd ["_law_script"] (liftF K 1 (callN prog 61 "law")) := by
  have e := hfa.symm.trans (PySem.W.mg_of X G a19)
  cases e
  have F1 := L2.fun_mk (st := sp_greatest) l1 c1 k1
  have b1 := F1.binds (ps := ["width"]) fun _ _ _ _ _ _ us hl => match us, hl with | [_], _ => rfl
  have F2 := L2.fun_mk (st := sp_needed_for) l2 c2 k2
  have b2 := F2.binds (ps := ["nodes", "terms"]) fun _ _ _ _ _ _ us hl => match us, hl with | [_, _], _ => rfl
  have F3 := L2.fun_mk (st := sp_form_of) l3 c3 k3
  have b3 := F3.binds (ps := ["nodes", "term"]) fun _ _ _ _ _ _ us hl => match us, hl with | [_, _], _ => rfl
  have F4 := L2.fun_mk (st := sp_one_form) l4 c4 k4
  have b4 := F4.binds (ps := ["nodes", "forms", "node"]) fun _ _ _ _ _ _ us hl => match us, hl with | [_, _, _], _ => rfl
  have F5 := L2.fun_mk (st := sp_combined) l5 c5 k5
  have b5 := F5.binds (ps := ["width", "one", "times", "other", "more"]) fun _ _ _ _ _ _ us hl => match us, hl with | [_, _, _, _, _], _ => rfl
  have F6 := L2.fun_mk (st := sl_begin) l6 c6 k6
  have b6 := F6.binds (ps := ["_law_script"]) fun _ _ _ _ _ _ us hl => match us, hl with | [_], _ => rfl
  have F7 := L2.fun_mk (st := sl_draw) l7 c7 k7
  have b7 := F7.binds (ps := ["_law_d", "_law_many"]) fun _ _ _ _ _ _ us hl => match us, hl with | [_, _], _ => rfl
  have F8 := L2.fun_mk (st := sl_pick) l8 c8 k8
  have b8 := F8.binds (ps := ["_law_d", "_law_row"]) fun _ _ _ _ _ _ us hl => match us, hl with | [_, _], _ => rfl
  have F9 := L2.fun_mk (st := sl_is_int) l9 c9 k9
  have b9 := F9.binds (ps := ["_law_thing"]) fun _ _ _ _ _ _ us hl => match us, hl with | [_], _ => rfl
  have F10 := L2.fun_mk (st := sl_word) l10 c10 k10
  have b10 := F10.binds (ps := ["_law_op", "_law_width", "_law_words"]) fun _ _ _ _ _ _ us hl => match us, hl with | [_, _, _], _ => rfl
  have F11 := L2.fun_mk (st := sl_values) l11 c11 k11
  have b11 := F11.binds (ps := ["_law_nodes", "_law_words"]) fun _ _ _ _ _ _ us hl => match us, hl with | [_, _], _ => rfl
  have F12 := L2.fun_mk (st := sl_put) l12 c12 k12
  have b12 := F12.binds (ps := ["_law_nodes", "_law_node"]) fun _ _ _ _ _ _ us hl => match us, hl with | [_, _], _ => rfl
  have F13 := L2.fun_mk (st := sl_sheet) l13 c13 k13
  have b13 := F13.binds (ps := ["_law_d"]) fun _ _ _ _ _ _ us hl => match us, hl with | [_], _ => rfl
  have F14 := L2.fun_mk (st := sl_grow) l14 c14 k14
  have b14 := F14.binds (ps := ["_law_d", "_law_nodes"]) fun _ _ _ _ _ _ us hl => match us, hl with | [_, _], _ => rfl
  have F15 := L2.fun_mk (st := sl_linear) l15 c15 k15
  have b15 := F15.binds (ps := ["_law_nodes", "_law_many"]) fun _ _ _ _ _ _ us hl => match us, hl with | [_, _], _ => rfl
  have F16 := L2.fun_mk (st := sl_linear_one) l16 c16 k16
  have b16 := F16.binds (ps := ["_law_nodes", "_law_found", "_law_node"]) fun _ _ _ _ _ _ us hl => match us, hl with | [_, _, _], _ => rfl
  have F17 := L2.fun_mk (st := sl_same) l17 c17 k17
  have b17 := F17.binds (ps := ["_law_told", "_law_due"]) fun _ _ _ _ _ _ us hl => match us, hl with | [_, _], _ => rfl
  have F18 := L2.fun_mk (st := sl_total) l18 c18 k18
  have b18 := F18.binds (ps := ["_law_told", "_law_words", "_law_width"]) fun _ _ _ _ _ _ us hl => match us, hl with | [_, _, _], _ => rfl
  have F19 := L2.fun_mk (st := sl_law) l19 c19 k19
  have b19 := F19.binds (ps := ["_law_script"]) fun _ _ _ _ _ _ us hl => match us, hl with | [_], _ => rfl
  have zs : ∀ y ∈ blts, mg (Str.ofString y) = none := by
    intro y hy
    simp only [blts, List.mem_cons, List.not_mem_nil, or_false] at hy
    rcases hy with rfl | rfl | rfl | rfl | rfl | rfl | rfl | rfl | rfl | rfl | rfl
    · exact PySem.W.mg_none_of X G z1
    · exact PySem.W.mg_none_of X G z2
    · exact PySem.W.mg_none_of X G z3
    · exact PySem.W.mg_none_of X G z4
    · exact PySem.W.mg_none_of X G z5
    · exact PySem.W.mg_none_of X G z6
    · exact PySem.W.mg_none_of X G z7
    · exact PySem.W.mg_none_of X G z8
    · exact PySem.W.mg_none_of X G z9
    · exact PySem.W.mg_none_of X G z10
    · exact PySem.W.mg_none_of X G z11
  refine ⟨PySem.W.fnOf "law" "law" (L2.defArgs sl_law) (L2.defBody sl_law) (L2.defScope sl_law) .none kV19 dc19 pm19 an19 cd19 ct19, fun s v => .of_eq rfl, fun base _ _ => ?_⟩
  have st : ∀ x ∈ names, ∃ d, prog x = some d ∧ Step2 l.prog w K mg base names snames x d := by
    intro x hx
    simp only [names, List.mem_cons, List.not_mem_nil, or_false] at hx
    rcases hx with rfl | rfl | rfl | rfl | rfl | rfl | rfl | rfl | rfl | rfl | rfl | rfl | rfl | rfl | rfl | rfl | rfl | rfl | rfl
    · exact ⟨_, rfl, _, _, ["width"], PySem.W.mg_of X G a1, F1.kp, b1, rfl, fun k c ok oks => fn_ok F1 scp_greatest rfl rfl (der_p_greatest ok oks zs)⟩
    · exact ⟨_, rfl, _, _, ["nodes", "terms"], PySem.W.mg_of X G a2, F2.kp, b2, rfl, fun k c ok oks => fn_ok F2 scp_needed_for rfl rfl (der_p_needed_for ok oks zs)⟩
    · exact ⟨_, rfl, _, _, ["nodes", "term"], PySem.W.mg_of X G a3, F3.kp, b3, rfl, fun k c ok oks => fn_ok F3 scp_form_of rfl rfl (der_p_form_of ok oks zs)⟩
    · exact ⟨_, rfl, _, _, ["nodes", "forms", "node"], PySem.W.mg_of X G a4, F4.kp, b4, rfl, fun k c ok oks => fn_ok F4 scp_one_form rfl rfl (der_p_one_form ok oks zs)⟩
    · exact ⟨_, rfl, _, _, ["width", "one", "times", "other", "more"], PySem.W.mg_of X G a5, F5.kp, b5, rfl, fun k c ok oks => fn_ok F5 scp_combined rfl rfl (der_p_combined ok oks zs)⟩
    · exact ⟨_, rfl, _, _, ["_law_script"], PySem.W.mg_of X G a6, F6.kp, b6, rfl, fun k c ok oks => fn_ok F6 scl_begin rfl rfl (der_l_begin ok oks zs)⟩
    · exact ⟨_, rfl, _, _, ["_law_d", "_law_many"], PySem.W.mg_of X G a7, F7.kp, b7, rfl, fun k c ok oks => fn_ok F7 scl_draw rfl rfl (der_l_draw ok oks zs)⟩
    · exact ⟨_, rfl, _, _, ["_law_d", "_law_row"], PySem.W.mg_of X G a8, F8.kp, b8, rfl, fun k c ok oks => fn_ok F8 scl_pick rfl rfl (der_l_pick ok oks zs)⟩
    · exact ⟨_, rfl, _, _, ["_law_thing"], PySem.W.mg_of X G a9, F9.kp, b9, rfl, fun k c ok oks => fn_ok F9 scl_is_int rfl rfl (der_l_is_int ok oks zs)⟩
    · exact ⟨_, rfl, _, _, ["_law_op", "_law_width", "_law_words"], PySem.W.mg_of X G a10, F10.kp, b10, rfl, fun k c ok oks => fn_ok F10 scl_word rfl rfl (der_l_word ok oks zs)⟩
    · exact ⟨_, rfl, _, _, ["_law_nodes", "_law_words"], PySem.W.mg_of X G a11, F11.kp, b11, rfl, fun k c ok oks => fn_ok F11 scl_values rfl rfl (der_l_values ok oks zs)⟩
    · exact ⟨_, rfl, _, _, ["_law_nodes", "_law_node"], PySem.W.mg_of X G a12, F12.kp, b12, rfl, fun k c ok oks => fn_ok F12 scl_put rfl rfl (der_l_put ok oks zs)⟩
    · exact ⟨_, rfl, _, _, ["_law_d"], PySem.W.mg_of X G a13, F13.kp, b13, rfl, fun k c ok oks => fn_ok F13 scl_sheet rfl rfl (der_l_sheet ok oks zs)⟩
    · exact ⟨_, rfl, _, _, ["_law_d", "_law_nodes"], PySem.W.mg_of X G a14, F14.kp, b14, rfl, fun k c ok oks => fn_ok F14 scl_grow rfl rfl (der_l_grow ok oks zs)⟩
    · exact ⟨_, rfl, _, _, ["_law_nodes", "_law_many"], PySem.W.mg_of X G a15, F15.kp, b15, rfl, fun k c ok oks => fn_ok F15 scl_linear rfl rfl (der_l_linear ok oks zs)⟩
    · exact ⟨_, rfl, _, _, ["_law_nodes", "_law_found", "_law_node"], PySem.W.mg_of X G a16, F16.kp, b16, rfl, fun k c ok oks => fn_ok F16 scl_linear_one rfl rfl (der_l_linear_one ok oks zs)⟩
    · exact ⟨_, rfl, _, _, ["_law_told", "_law_due"], PySem.W.mg_of X G a17, F17.kp, b17, rfl, fun k c ok oks => fn_ok F17 scl_same rfl rfl (der_l_same ok oks zs)⟩
    · exact ⟨_, rfl, _, _, ["_law_told", "_law_words", "_law_width"], PySem.W.mg_of X G a18, F18.kp, b18, rfl, fun k c ok oks => fn_ok F18 scl_total rfl rfl (der_l_total ok oks zs)⟩
    · exact ⟨_, rfl, _, _, ["_law_script"], PySem.W.mg_of X G a19, F19.kp, b19, rfl, fun k c ok oks => fn_ok F19 scl_law rfl rfl (der_l_law ok oks zs)⟩
  have st2 : ∀ q ∈ snames, ∃ d, prog q.1 = some d ∧ StepS l.prog w K mg base names snames q.1 q.2 d := by
    intro q hq
    cases hq
  have ow := all_own2 (P := l.prog) (w := w) (base := base) st st2 60
  refine (fn_ok (P := l.prog) (w := w) (mg := mg) (base := base) (k := 60) (d := ⟨1, 11, b_l_law⟩) (c := callN prog 60) F19 scl_law rfl rfl (der_l_law ow.1 ow.2 zs)).imp fun vs H Q E ⟨g0, f, st, ds, Q', s, r, ⟨d', e', g⟩, l⟩ => ?_
  cases (Option.some.inj e' : (⟨1, 11, b_l_law⟩ : Def) = d')
  exact ⟨g0, f, st, ds, Q', s, r, g, l⟩
end Pk37
end PartPdk37L

section PartPdk37P
set_option Elab.async false
set_option linter.all false
set_option maxRecDepth 100000
set_option maxHeartbeats 1000000
namespace Pk37
open PySem Pd
local macro_rules | `(tactic| walk_at "s") => `(tactic| (repeat (refine Red.red ?_)))
local macro_rules | `(tactic| walk_at "r") => `(tactic| (repeat (first | refine Red.red ?_ | refine Nxt.mk ?_)))
local macro_rules | `(tactic| walk_at "t") => `(tactic| (repeat (first | refine Red.red ?_ | refine Nxt.mk ?_ | refine ⟨by decide +kernel, by decide +kernel, wayF (by decide +kernel) ?_⟩ | refine ⟨by decide +kernel, by decide +kernel, wayT (by decide +kernel) ?_⟩ | refine ⟨by decide +kernel, ?_⟩ | refine ⟨Nat.le_of_ble_eq_true rfl, ?_⟩ | refine at_is rfl ?_)))
local instance inTup {x : D} {xs : List D} {st : Store} {r : Bool → Prop} : Red (inC x (.tup xs) st r) (x.flat = true ∧ xs.all D.flat = true ∧ r (xs.any fun y => D.eqb y x)) := ⟨id⟩
local instance notinTup {x : D} {xs : List D} {st : Store} {r : Bool → Prop} : Red (notinC x (.tup xs) st r) (x.flat = true ∧ xs.all D.flat = true ∧ r (!(xs.any fun y => D.eqb y x))) := ⟨id⟩
/-! k37: sheets as drawn. Own work. -/
theorem seq_J {S S' : TS} {D0 : Ends} {σ : Pd.Env} {st : Store} (J : Pd.Env → Store → Prop) (h : ∀ N : Pd.Env → Store → Prop, (∀ σ' st', J σ' st' → N σ' st') → S { D0 with nx := N } σ st) (hJ : ∀ σ' st', J σ' st' → S' D0 σ' st') : sSeq S S' D0 σ st :=
  h _ fun σ' st' e => Nxt.mk (hJ σ' st' e)
theorem drawM {m : Nat} {st : Store} {Q : K} (hm : 1 ≤ m) {many : Int} (h : DrawAt st) (h0 : 0 < many) (h1 : many < 1073741824) (q : ∀ r st', 0 ≤ r → r < many → Fra st st' → Q (.int r) st') : callN prog m "_law_draw" [.ref 2, .int many] st Q := by
  obtain ⟨m, rfl⟩ : ∃ n, m = n + 1 := ⟨m - 1, by omega⟩
  exact draw_ok rfl h h0 h1 fun r st' r0 r1 f _ => q r st' r0 r1 f
theorem pickF {α : Type} {f : α → D} {xs : List α} {m n : Nat} {st : Store} {Q : K} (hm : 2 ≤ m) (hd : DrawAt st) (h : rdL st n (xs.map f)) (hn : n ≠ 2) (h0 : 0 < xs.length) (h1 : xs.length ≤ 1000) (q : ∀ x st', x ∈ xs → Fra st st' → Q (f x) st') : callN prog m "_law_pick" [.ref 2, .ref n] st Q := by
  obtain ⟨m, rfl⟩ : ∃ n, m = n + 2 := ⟨m - 2, by omega⟩
  refine pick_ok rfl rfl hd h hn (by simpa using h0) (by simp; omega) fun x st' hx f _ => ?_
  obtain ⟨a, ha, rfl⟩ := List.mem_map.mp hx
  exact q a st' ha f
/-- inputs below 6 -/
def Small (ns : List Nd) : Prop := ∀ x ∈ ns, ∀ w i, x = Nd.inp w i → i < 6
structure Put (p : Nat) (st : Store) (ns : List Nd) (ns' : List Nd) (st' : Store) (most : Nat) : Prop where
  sh : Sheet ns'
  sm : Small ns'
  pre : ∃ more, ns' = ns ++ more
  ln : ns'.length ≤ ns.length + most
  rd : rdL st' p (ns'.map Nd.dat)
  fr : FraE p st st'
theorem Put.has {p most : Nat} {st st' : Store} {ns ns' : List Nd} (h : Put p st ns ns' st' most) {a : Nat} {w : Int} (ha : Has (ns.map Nd.wd) a w) : Has (ns'.map Nd.wd) a w := by
  obtain ⟨more, rfl⟩ := h.pre
  unfold Has at *
  rw [List.map_append, List.getElem?_append_left (Has.lt ha)]
  exact ha
theorem Put.trans {p m1 m2 : Nat} {st st1 st2 : Store} {ns ns1 ns2 : List Nd} (h : Put p st ns ns1 st1 m1) (h' : Put p st1 ns1 ns2 st2 m2) : Put p st ns ns2 st2 (m1 + m2) := by
  refine ⟨h'.sh, h'.sm, ?_, by have := h.ln; have := h'.ln; omega, h'.rd, h.fr.trans h'.fr⟩
  obtain ⟨a, rfl⟩ := h.pre
  obtain ⟨b, rfl⟩ := h'.pre
  exact ⟨a ++ b, by rw [List.append_assoc]⟩
theorem eqb_wd {x y : Nd} (h : D.eqb x.dat y.dat = true) : x.wd = y.wd := by
  rw [dat_eq, dat_eq] at h
  simp only [D.eqb, eqbs, Bool.and_eq_true, beq_iff_eq] at h
  exact h.2.1
theorem put_ok {m p : Nat} {st : Store} {Q : K} {ns : List Nd} {x : Nd} (hm : 1 ≤ m) (hd : DrawAt st) (h : rdL st p (ns.map Nd.dat)) (hp : 2 < p) (S : Sheet ns) (sm : Small ns) (hl : ns.length ≤ 1000) (G : Good (ns.map Nd.wd) x) (hx : ∀ w i, x = Nd.inp w i → i < 6)
    (q : ∀ ns' j st', Put p st ns ns' st' 1 → 0 < ns'.length → Has (ns'.map Nd.wd) j x.wd → Q (.int (j : Int)) st') : callN prog m "_law_put" [.ref p, x.dat] st Q := by
  obtain ⟨k, rfl⟩ : ∃ n, m = n + 1 := ⟨m - 1, by omega⟩
  refine call_intro rfl rfl ?_
  unfold b_l_put
  have idx : ∀ (ns' : List Nd) (st' : Store), rdL st' p (ns'.map Nd.dat) → (∃ y ∈ ns', D.eqb y.dat x.dat = true) → Put p st ns ns' st' 1 → 0 < ns'.length → indexDM (.ref p) [x.dat] st' Q := by
    intro ns' st' hr hy hP hpos
    have hlt : ns'.findIdx (fun y => D.eqb y.dat x.dat) < ns'.length := List.findIdx_lt_length_of_exists hy
    have hat := List.findIdx_getElem (w := hlt)
    refine ⟨ns'.map Nd.dat, ns'.findIdx (fun y => D.eqb y.dat x.dat), (ns'[ns'.findIdx (fun y => D.eqb y.dat x.dat)]).dat, .inl hr, dat_ok x, dats_ok ns', by rw [List.getElem?_map, List.getElem?_eq_getElem hlt]; rfl, hat, fun m z hm hz => ?_, ?_⟩
    · rw [List.getElem?_map, List.getElem?_eq_getElem (by omega)] at hz
      cases hz
      have := List.not_of_lt_findIdx hm
      simpa using this
    · refine q ns' _ st' hP hpos ?_
      have := has_wd hlt
      rwa [eqb_wd hat] at this
  walk_at "s"
  refine notin_at h (dat_ok x) (dats_ok ns) ?_
  walk_at "s"
  refine way (fun hb => ?_) (fun hb => ?_)
  · walk_at "s"
    refine ⟨ty_at h, ?_⟩
    walk_at "s"
    refine append_at h (by simp [szl]; omega) ?_
    walk_at "r"
    have h2 : rdL (st.set p (.lst (ns.map Nd.dat ++ [x.dat]))) p ((ns ++ [x]).map Nd.dat) := by rw [List.map_append]; exact rdL_set h
    refine ⟨ty_at h2, ?_⟩
    walk_at "s"
    refine idx (ns ++ [x]) _ h2 ⟨x, by simp, eqb_refl 60 _ (dat_ok x)⟩ ⟨.snoc S G, fun y hy w i e => ?_, ⟨[x], rfl⟩, by rw [List.length_append, List.length_singleton]; omega, h2, (FraE.of (.refl hd)).setP hp⟩ (by simp)
    rcases List.mem_append.mp hy with hy | hy
    · exact sm y hy w i e
    · rw [List.mem_singleton] at hy; subst hy; exact hx w i e
  · walk_at "r"
    refine ⟨ty_at h, ?_⟩
    walk_at "s"
    have hy : ∃ y ∈ ns, D.eqb y.dat x.dat = true := by
      have : ((ns.map Nd.dat).any fun y => D.eqb y x.dat) = true := by simpa using hb
      rw [List.any_map, List.any_eq_true] at this
      exact this
    refine idx ns st h hy ⟨S, sm, ⟨[], by simp⟩, by omega, h, .of (.refl hd)⟩ ?_
    obtain ⟨y, hy, _⟩ := hy
    exact List.length_pos_of_mem hy
def tailS (c : Cl) : TS := sSeq (sAsg (dLc (iR1 (dB lenB (aCons (dVar 1) (aNil)))) (gName 9) (tTru (dCmp eqC (dOp ixK (dOp ixK (dVar 1) (dVar 9)) (dC (.int 1))) (dC (.int 1)))) (dVar 9) [9]) (gName 8)) (sSeq (sIf (tAnd (tTru (dCmp eqC (dVar 3) (dC (.str "pick")))) (tTru (dVar 8))) (sRet (dCall c "_law_put" (aCons (dVar 1) (aCons (dTup (aCons (dVar 3) (aCons (dVar 5) (aCons (dCall c "_law_pick" (aCons (dVar 0) (aCons (dVar 8) (aNil)))) (aCons (dVar 4) (aCons (dVar 6) (aNil))))))) (aNil))))) (sNext)) (sSeq (sIf (tTru (dCmp eqC (dVar 3) (dC (.str "pick")))) (sRet (dCall c "_law_put" (aCons (dVar 1) (aCons (dTup (aCons (dC (.str "-")) (aCons (dVar 5) (aCons (dVar 6) (aCons (dVar 4) (aNil)))))) (aNil))))) (sNext)) (sRet (dCall c "_law_put" (aCons (dVar 1) (aCons (dTup (aCons (dVar 3) (aCons (dVar 5) (aCons (dVar 4) (aCons (dVar 6) (aNil)))))) (aNil)))))))
def ops20 : List Op := [.add, .sub, .mul, .neg, .add, .shl, .not, .mul, .sub, .shl, .add, .mul, .and, .wide, .eq, .pick, .rem, .xor, .shr, .or]
theorem ml (ns : List Nd) (w : Int) (h : ns.length ≤ 1000) : (mates ns w).length ≤ 1000 := by
  have := List.length_filter_le (fun i => decide (((ns[i]?).map Nd.wd).getD 0 = w)) (List.range ns.length)
  rw [List.length_range] at this
  unfold mates
  omega
theorem tru_ref {st : Store} {n : Nat} {xs : List D} {r : Bool → Prop} (h : rdL st n xs) (q : r (!xs.isEmpty)) : truK (.ref n) st r := ⟨xs, .inl h, q⟩
theorem n0_num (i : Nat) : n0 i = .int (i : Int) := n0_eq i
/-- from the ones on -/
theorem tail_ok {k p : Nat} {st : Store} {Q : K} {ns : List Nd} {o : Op} {w : Int} {a b : Nat} {o2 o7 o8 o9 : Option D} (ho : o ∈ [Op.add, .sub, .mul, .shl, .and, .rem, .xor, .shr, .or, .pick]) (hd : DrawAt st) (h : rdL st p (ns.map Nd.dat)) (hp : 2 < p) (S : Sheet ns) (sm : Small ns) (hl : ns.length ≤ 150) (w0 : 1 ≤ w) (w1 : w ≤ 8) (ha : Has (ns.map Nd.wd) a w) (hb : Has (ns.map Nd.wd) b w ∨ (o = .shl ∧ ∃ v, Has (ns.map Nd.wd) b v))
    (q : ∀ ns' d st', Put p st ns ns' st' 1 → 0 < ns'.length → Q d st') : tailS (callN prog (k + 2)) { nx := fun _ st' => Q .non st', rt := Q } [some (.ref 2), some (.ref p), o2, some (.str (opS o)), some (.int (a : Int)), some (.int w), some (.int (b : Int)), o7, o8, o9] st := by
  unfold tailS
  walk_at "s"
  refine len_at h ?_
  rw [List.length_map]
  refine ⟨_, rfl, by omega, by omega, ?_⟩
  refine lc_mates 1 (by omega) (fun i hi acc N M hN hM => ?_) ?_
  · rw [n0_num] at hN ⊢
    walk_at "s"
    refine ix_ref (rdL_app h) (at_nd hi) ?_
    walk_at "s"
    refine wd_at ?_
    walk_at "s"
    exact ⟨fun e => by walk_at "s"; exact hN e, fun e => hM e⟩
  have h2 := rdL_app (c := C.lst ((mates ns 1).map n0)) h
  have hb2 := rdL_new (st := st) (xs := (mates ns 1).map n0)
  have d2 := hd.app (c := C.lst ((mates ns 1).map n0))
  have f2 : FraE p st (st ++ [C.lst ((mates ns 1).map n0)]) := .of (Fra.refl hd).app
  have l2 := hd.lt
  generalize st ++ [C.lst ((mates ns 1).map n0)] = st2 at h2 hb2 d2 f2 ⊢
  have fin : ∀ ns' d st', Put p st2 ns ns' st' 1 → 0 < ns'.length → Q d st' := fun ns' d st' hP hpos => q ns' d st' ⟨hP.sh, hP.sm, hP.pre, hP.ln, hP.rd, f2.trans hP.fr⟩ hpos
  simp only [List.mem_cons, List.not_mem_nil, or_false] at ho
  rcases ho with rfl | rfl | rfl | rfl | rfl | rfl | rfl | rfl | rfl | rfl
  · rw [show opS .add = Str.ofString "+" from rfl]
    walk_at "t"
    have hv : Has (ns.map Nd.wd) b w := hb.elim id (fun h => by cases h.1)
    exact put_ok (x := .two .add w a b) (by omega) d2 h2 hp S sm (by omega) ⟨w0, w1, rfl, _, _, ha, hv, fun h => (by cases h), fun _ => rfl, fun _ _ => rfl⟩ (fun _ _ e => by cases e) (fun ns' j st' hP hpos _ => fin ns' _ st' hP hpos)
  · rw [show opS .sub = Str.ofString "-" from rfl]
    walk_at "t"
    have hv : Has (ns.map Nd.wd) b w := hb.elim id (fun h => by cases h.1)
    exact put_ok (x := .two .sub w a b) (by omega) d2 h2 hp S sm (by omega) ⟨w0, w1, rfl, _, _, ha, hv, fun h => (by cases h), fun _ => rfl, fun _ _ => rfl⟩ (fun _ _ e => by cases e) (fun ns' j st' hP hpos _ => fin ns' _ st' hP hpos)
  · rw [show opS .mul = Str.ofString "*" from rfl]
    walk_at "t"
    have hv : Has (ns.map Nd.wd) b w := hb.elim id (fun h => by cases h.1)
    exact put_ok (x := .two .mul w a b) (by omega) d2 h2 hp S sm (by omega) ⟨w0, w1, rfl, _, _, ha, hv, fun h => (by cases h), fun _ => rfl, fun _ _ => rfl⟩ (fun _ _ e => by cases e) (fun ns' j st' hP hpos _ => fin ns' _ st' hP hpos)
  · rw [show opS .shl = Str.ofString "<<" from rfl]
    walk_at "t"
    obtain ⟨v, hv⟩ : ∃ v, Has (ns.map Nd.wd) b v := hb.elim (fun h => ⟨_, h⟩) (fun h => h.2)
    exact put_ok (x := .two .shl w a b) (by omega) d2 h2 hp S sm (by omega) ⟨w0, w1, rfl, _, _, ha, hv, fun h => (by cases h), fun _ => rfl, fun _ hs => (by cases hs)⟩ (fun _ _ e => by cases e) (fun ns' j st' hP hpos _ => fin ns' _ st' hP hpos)
  · rw [show opS .and = Str.ofString "&" from rfl]
    walk_at "t"
    have hv : Has (ns.map Nd.wd) b w := hb.elim id (fun h => by cases h.1)
    exact put_ok (x := .two .and w a b) (by omega) d2 h2 hp S sm (by omega) ⟨w0, w1, rfl, _, _, ha, hv, fun h => (by cases h), fun _ => rfl, fun _ _ => rfl⟩ (fun _ _ e => by cases e) (fun ns' j st' hP hpos _ => fin ns' _ st' hP hpos)
  · rw [show opS .rem = Str.ofString "rem" from rfl]
    walk_at "t"
    have hv : Has (ns.map Nd.wd) b w := hb.elim id (fun h => by cases h.1)
    exact put_ok (x := .two .rem w a b) (by omega) d2 h2 hp S sm (by omega) ⟨w0, w1, rfl, _, _, ha, hv, fun h => (by cases h), fun _ => rfl, fun _ _ => rfl⟩ (fun _ _ e => by cases e) (fun ns' j st' hP hpos _ => fin ns' _ st' hP hpos)
  · rw [show opS .xor = Str.ofString "^" from rfl]
    walk_at "t"
    have hv : Has (ns.map Nd.wd) b w := hb.elim id (fun h => by cases h.1)
    exact put_ok (x := .two .xor w a b) (by omega) d2 h2 hp S sm (by omega) ⟨w0, w1, rfl, _, _, ha, hv, fun h => (by cases h), fun _ => rfl, fun _ _ => rfl⟩ (fun _ _ e => by cases e) (fun ns' j st' hP hpos _ => fin ns' _ st' hP hpos)
  · rw [show opS .shr = Str.ofString ">>" from rfl]
    walk_at "t"
    have hv : Has (ns.map Nd.wd) b w := hb.elim id (fun h => by cases h.1)
    exact put_ok (x := .two .shr w a b) (by omega) d2 h2 hp S sm (by omega) ⟨w0, w1, rfl, _, _, ha, hv, fun h => (by cases h), fun _ => rfl, fun _ hs => (by cases hs)⟩ (fun _ _ e => by cases e) (fun ns' j st' hP hpos _ => fin ns' _ st' hP hpos)
  · rw [show opS .or = Str.ofString "|" from rfl]
    walk_at "t"
    have hv : Has (ns.map Nd.wd) b w := hb.elim id (fun h => by cases h.1)
    exact put_ok (x := .two .or w a b) (by omega) d2 h2 hp S sm (by omega) ⟨w0, w1, rfl, _, _, ha, hv, fun h => (by cases h), fun _ => rfl, fun _ _ => rfl⟩ (fun _ _ e => by cases e) (fun ns' j st' hP hpos _ => fin ns' _ st' hP hpos)
  · rw [show opS .pick = Str.ofString "pick" from rfl]
    walk_at "t"
    have hv : Has (ns.map Nd.wd) b w := hb.elim id (fun h => by cases h.1)
    refine tru_ref hb2 ?_
    refine way (fun e => ?_) (fun e => ?_)
    · have e1 : 0 < (mates ns 1).length := by
        cases hh : mates ns 1 with
        | nil => rw [hh] at e; cases e
        | cons => simp
      walk_at "t"
      refine pickF (n := st.length) (f := n0) (xs := mates ns 1) (by omega) d2 hb2 (by omega) e1 (ml ns 1 (by omega)) (fun c st3 hc f3 => ?_)
      rw [n0_num]
      walk_at "t"
      exact put_ok (x := .pick w c a b) (by omega) f3.dr (f3.rd h2 (by omega)) hp S sm (by omega) ⟨w0, w1, (mate_has hc).2, ha, hv⟩ (fun _ _ e => by cases e) (fun ns' j st' hP hpos _ => fin ns' _ st' ⟨hP.sh, hP.sm, hP.pre, hP.ln, hP.rd, (FraE.of f3).trans hP.fr⟩ hpos)
    · walk_at "t"
      exact put_ok (x := .two .sub w b a) (by omega) d2 h2 hp S sm (by omega) ⟨w0, w1, rfl, _, _, hv, ha, fun h => (by cases h), fun _ => rfl, fun _ _ => rfl⟩ (fun _ _ e => by cases e) (fun ns' j st' hP hpos _ => fin ns' _ st' hP hpos)
end Pk37
end PartPdk37P

section PartPdk37P2
set_option Elab.async false
set_option linter.all false
set_option maxRecDepth 100000
set_option maxHeartbeats 1000000
namespace Pk37
open PySem Pd
local macro_rules | `(tactic| walk_at "s") => `(tactic| (repeat (refine Red.red ?_)))
local macro_rules | `(tactic| walk_at "r") => `(tactic| (repeat (first | refine Red.red ?_ | refine Nxt.mk ?_)))
local macro_rules | `(tactic| walk_at "t") => `(tactic| (repeat (first | refine Red.red ?_ | refine Nxt.mk ?_ | refine ⟨by decide +kernel, by decide +kernel, wayF (by decide +kernel) ?_⟩ | refine ⟨by decide +kernel, by decide +kernel, wayT (by decide +kernel) ?_⟩ | refine ⟨by decide +kernel, ?_⟩ | refine ⟨Nat.le_of_ble_eq_true rfl, ?_⟩ | refine at_is rfl ?_)))
local instance inTup2 {x : D} {xs : List D} {st : Store} {r : Bool → Prop} : Red (inC x (.tup xs) st r) (x.flat = true ∧ xs.all D.flat = true ∧ r (xs.any fun y => D.eqb y x)) := ⟨id⟩
local instance notinTup2 {x : D} {xs : List D} {st : Store} {r : Bool → Prop} : Red (notinC x (.tup xs) st r) (x.flat = true ∧ xs.all D.flat = true ∧ r (!(xs.any fun y => D.eqb y x))) := ⟨id⟩
/-! k37, second text: `_law_grow`, `_law_sheet`. Own work. -/
theorem pow_bd {w : Int} (h0 : 1 ≤ w) (h1 : w ≤ 8) : 1 * 2 ^ w.toNat = fullI w + 1 ∧ 0 < fullI w + 1 ∧ fullI w + 1 ≤ 256 := by
  have hf := full1 h0 h1
  have := fullI_bd (w := w) (by omega) h1
  omega
theorem grow_ok {m p : Nat} {st : Store} {Q : K} {ns : List Nd} (hm : 3 ≤ m) (hd : DrawAt st) (h : rdL st p (ns.map Nd.dat)) (hp : 2 < p) (S : Sheet ns) (sm : Small ns) (h0 : 0 < ns.length) (hl : ns.length ≤ 100)
    (q : ∀ ns' d st', Put p st ns ns' st' 2 → 0 < ns'.length → Q d st') : callN prog m "_law_grow" [.ref 2, .ref p] st Q := by
  obtain ⟨k, rfl⟩ : ∃ n, m = n + 3 := ⟨m - 3, by omega⟩
  refine call_intro rfl rfl ?_
  unfold b_l_grow
  have lp := rdL_lt h
  walk_at "s"
  refine ⟨Nat.le_of_ble_eq_true rfl, ?_⟩
  walk_at "r"
  refine ⟨Nat.le_of_ble_eq_true rfl, ?_⟩
  refine add_at (rdL_app rdL_new) rdL_new (Nat.le_of_ble_eq_true rfl) ?_
  walk_at "s"
  refine pickF (f := fun o => D.str (opS o)) (xs := ops20) (by omega) hd.app.app.app rdL_new (by simp only [List.length_append, List.length_cons, List.length_nil]; omega) (by decide) (by decide) (fun o st2 ho f2 => ?_)
  have f3 : Fra st st2 := (((Fra.refl hd).app.app.app).trans f2)
  have h2 := f3.rd h (by omega)
  walk_at "r"
  refine len_at h2 ?_
  rw [List.length_map]
  refine drawM (by omega) f3.dr (by omega) (by omega) (fun a0 st3 a1 a2 f4 => ?_)
  obtain ⟨a, rfl⟩ : ∃ a : Nat, a0 = a := ⟨a0.toNat, by omega⟩
  have ha : a < ns.length := by omega
  have f5 := f3.trans f4
  have h3 := f5.rd h (by omega)
  walk_at "r"
  refine ix_ref h3 (at_nd ha) ?_
  walk_at "r"
  refine wd_at ?_
  walk_at "r"
  refine len_at h3 ?_
  rw [List.length_map]
  refine ⟨_, rfl, by omega, by omega, ?_⟩
  refine lc_mates (ns[a]).wd (by omega) (fun i hi acc N M hN hM => ?_) ?_
  · rw [n0_num] at hN ⊢
    walk_at "s"
    refine ix_ref (rdL_app h3) (at_nd hi) ?_
    walk_at "s"
    refine wd_at ?_
    walk_at "s"
    exact ⟨fun e => by walk_at "s"; exact hN e, fun e => hM e⟩
  have hHa := has_wd ha
  have hW := S.wid a _ hHa
  walk_at "r"
  refine pickF (n := st3.length) (f := n0) (xs := mates ns (ns[a]).wd) (by omega) f5.dr.app rdL_new (by have := f5.dr.lt; omega) (List.length_pos_of_mem (self_mate ha)) (ml ns _ (by omega)) (fun b st4 hb f6 => ?_)
  rw [n0_num]
  have hHb := (mate_has hb).2
  generalize hw : (ns[a]).wd = w at hHa hHb hW ⊢
  have pb := pow_bd hW.1 hW.2
  have f7 : Fra st st4 := f5.app.trans f6
  have h4 := f7.rd h (by omega)
  have d4 := f7.dr
  have fe : FraE p st st4 := .of f7
  have lift : ∀ {ns' st' mm}, Put p st4 ns ns' st' mm → mm ≤ 2 → Put p st ns ns' st' 2 := fun hP hmm => ⟨hP.sh, hP.sm, hP.pre, by have := hP.ln; omega, hP.rd, fe.trans hP.fr⟩
  clear h2 h3 f2 f4 f3
  cases o
  case not =>
    rw [show opS .not = Str.ofString "not" from rfl]
    walk_at "t"
    exact put_ok (x := .one .not w a) (by omega) d4 h4 hp S sm (by omega) ⟨hW.1, hW.2, rfl, _, hHa, fun _ => rfl⟩ (fun _ _ e => by cases e) (fun ns' j st' hP hpos _ => q ns' _ st' (lift hP (by omega)) hpos)
  case neg =>
    rw [show opS .neg = Str.ofString "neg" from rfl]
    walk_at "t"
    exact put_ok (x := .one .neg w a) (by omega) d4 h4 hp S sm (by omega) ⟨hW.1, hW.2, rfl, _, hHa, fun _ => rfl⟩ (fun _ _ e => by cases e) (fun ns' j st' hP hpos _ => q ns' _ st' (lift hP (by omega)) hpos)
  case wide =>
    rw [show opS .wide = Str.ofString "wide" from rfl]
    walk_at "t"
    refine drawM (by omega) d4 (by omega) (by omega) (fun r st5 r1 r2 f8 => ?_)
    walk_at "t"
    exact put_ok (x := .one .wide (1 + r) a) (by omega) f8.dr (f8.rd h4 (by omega)) hp S sm (by omega) ⟨by omega, by omega, rfl, _, hHa, fun hh => absurd rfl hh⟩ (fun _ _ e => by cases e) (fun ns' j st' hP hpos _ => q ns' _ st' (lift ⟨hP.sh, hP.sm, hP.pre, hP.ln, hP.rd, (FraE.of f8).trans hP.fr⟩ (by omega)) hpos)
  case eq =>
    rw [show opS .eq = Str.ofString "==" from rfl]
    walk_at "t"
    exact put_ok (x := .two .eq 1 a b) (by omega) d4 h4 hp S sm (by omega) ⟨by omega, by omega, rfl, _, _, hHa, hHb, fun _ => rfl, fun h => (by cases h), fun h => (by cases h)⟩ (fun _ _ e => by cases e) (fun ns' j st' hP hpos _ => q ns' _ st' (lift hP (by omega)) hpos)
  case div => simp [ops20] at ho
  case ne => simp [ops20] at ho
  case lt => simp [ops20] at ho
  case le => simp [ops20] at ho
  case add =>
    rw [show opS .add = Str.ofString "+" from rfl]
    walk_at "s"
    refine Nxt.mk ?_
    repeat (first | refine Red.red ?_ | refine ⟨by decide +kernel, by decide +kernel, wayF (by decide +kernel) ?_⟩ | refine ⟨by decide +kernel, ?_⟩)
    refine Nxt.mk ?_
    repeat (first | refine Red.red ?_ | refine ⟨by decide +kernel, by decide +kernel, wayF (by decide +kernel) ?_⟩ | refine ⟨by decide +kernel, ?_⟩)
    refine Nxt.mk ?_
    repeat (first | refine Red.red ?_ | refine ⟨by decide +kernel, by decide +kernel, wayF (by decide +kernel) ?_⟩ | refine ⟨by decide +kernel, ?_⟩)
    refine Nxt.mk ?_
    repeat (first | refine Red.red ?_ | refine ⟨by decide +kernel, by decide +kernel, wayF (by decide +kernel) ?_⟩ | refine ⟨by decide +kernel, ?_⟩)
    refine Nxt.mk ?_
    repeat (first | refine Red.red ?_ | refine ⟨by decide +kernel, by decide +kernel, wayF (by decide +kernel) ?_⟩ | refine ⟨by decide +kernel, ?_⟩)
    refine Nxt.mk ?_
    rw [show Str.ofString "+" = opS .add from rfl]
    exact tail_ok (k := k) (o := .add) (by simp) d4 h4 hp S sm (by omega) hW.1 hW.2 hHa (.inl hHb) (fun ns' d st' hP hpos => q ns' d st' (lift hP (by omega)) hpos)
  case sub =>
    rw [show opS .sub = Str.ofString "-" from rfl]
    walk_at "s"
    refine Nxt.mk ?_
    repeat (first | refine Red.red ?_ | refine ⟨by decide +kernel, by decide +kernel, wayF (by decide +kernel) ?_⟩ | refine ⟨by decide +kernel, ?_⟩)
    refine Nxt.mk ?_
    repeat (first | refine Red.red ?_ | refine ⟨by decide +kernel, by decide +kernel, wayF (by decide +kernel) ?_⟩ | refine ⟨by decide +kernel, ?_⟩)
    refine Nxt.mk ?_
    repeat (first | refine Red.red ?_ | refine ⟨by decide +kernel, by decide +kernel, wayF (by decide +kernel) ?_⟩ | refine ⟨by decide +kernel, ?_⟩)
    refine Nxt.mk ?_
    repeat (first | refine Red.red ?_ | refine ⟨by decide +kernel, by decide +kernel, wayF (by decide +kernel) ?_⟩ | refine ⟨by decide +kernel, ?_⟩)
    refine Nxt.mk ?_
    repeat (first | refine Red.red ?_ | refine ⟨by decide +kernel, by decide +kernel, wayF (by decide +kernel) ?_⟩ | refine ⟨by decide +kernel, ?_⟩)
    refine Nxt.mk ?_
    rw [show Str.ofString "-" = opS .sub from rfl]
    exact tail_ok (k := k) (o := .sub) (by simp) d4 h4 hp S sm (by omega) hW.1 hW.2 hHa (.inl hHb) (fun ns' d st' hP hpos => q ns' d st' (lift hP (by omega)) hpos)
  case and =>
    rw [show opS .and = Str.ofString "&" from rfl]
    walk_at "s"
    refine Nxt.mk ?_
    repeat (first | refine Red.red ?_ | refine ⟨by decide +kernel, by decide +kernel, wayF (by decide +kernel) ?_⟩ | refine ⟨by decide +kernel, ?_⟩)
    refine Nxt.mk ?_
    repeat (first | refine Red.red ?_ | refine ⟨by decide +kernel, by decide +kernel, wayF (by decide +kernel) ?_⟩ | refine ⟨by decide +kernel, ?_⟩)
    refine Nxt.mk ?_
    repeat (first | refine Red.red ?_ | refine ⟨by decide +kernel, by decide +kernel, wayF (by decide +kernel) ?_⟩ | refine ⟨by decide +kernel, ?_⟩)
    refine Nxt.mk ?_
    repeat (first | refine Red.red ?_ | refine ⟨by decide +kernel, by decide +kernel, wayF (by decide +kernel) ?_⟩ | refine ⟨by decide +kernel, ?_⟩)
    refine Nxt.mk ?_
    repeat (first | refine Red.red ?_ | refine ⟨by decide +kernel, by decide +kernel, wayF (by decide +kernel) ?_⟩ | refine ⟨by decide +kernel, ?_⟩)
    refine Nxt.mk ?_
    rw [show Str.ofString "&" = opS .and from rfl]
    exact tail_ok (k := k) (o := .and) (by simp) d4 h4 hp S sm (by omega) hW.1 hW.2 hHa (.inl hHb) (fun ns' d st' hP hpos => q ns' d st' (lift hP (by omega)) hpos)
  case rem =>
    rw [show opS .rem = Str.ofString "rem" from rfl]
    walk_at "s"
    refine Nxt.mk ?_
    repeat (first | refine Red.red ?_ | refine ⟨by decide +kernel, by decide +kernel, wayF (by decide +kernel) ?_⟩ | refine ⟨by decide +kernel, ?_⟩)
    refine Nxt.mk ?_
    repeat (first | refine Red.red ?_ | refine ⟨by decide +kernel, by decide +kernel, wayF (by decide +kernel) ?_⟩ | refine ⟨by decide +kernel, ?_⟩)
    refine Nxt.mk ?_
    repeat (first | refine Red.red ?_ | refine ⟨by decide +kernel, by decide +kernel, wayF (by decide +kernel) ?_⟩ | refine ⟨by decide +kernel, ?_⟩)
    refine Nxt.mk ?_
    repeat (first | refine Red.red ?_ | refine ⟨by decide +kernel, by decide +kernel, wayF (by decide +kernel) ?_⟩ | refine ⟨by decide +kernel, ?_⟩)
    refine Nxt.mk ?_
    repeat (first | refine Red.red ?_ | refine ⟨by decide +kernel, by decide +kernel, wayF (by decide +kernel) ?_⟩ | refine ⟨by decide +kernel, ?_⟩)
    refine Nxt.mk ?_
    rw [show Str.ofString "rem" = opS .rem from rfl]
    exact tail_ok (k := k) (o := .rem) (by simp) d4 h4 hp S sm (by omega) hW.1 hW.2 hHa (.inl hHb) (fun ns' d st' hP hpos => q ns' d st' (lift hP (by omega)) hpos)
  case xor =>
    rw [show opS .xor = Str.ofString "^" from rfl]
    walk_at "s"
    refine Nxt.mk ?_
    repeat (first | refine Red.red ?_ | refine ⟨by decide +kernel, by decide +kernel, wayF (by decide +kernel) ?_⟩ | refine ⟨by decide +kernel, ?_⟩)
    refine Nxt.mk ?_
    repeat (first | refine Red.red ?_ | refine ⟨by decide +kernel, by decide +kernel, wayF (by decide +kernel) ?_⟩ | refine ⟨by decide +kernel, ?_⟩)
    refine Nxt.mk ?_
    repeat (first | refine Red.red ?_ | refine ⟨by decide +kernel, by decide +kernel, wayF (by decide +kernel) ?_⟩ | refine ⟨by decide +kernel, ?_⟩)
    refine Nxt.mk ?_
    repeat (first | refine Red.red ?_ | refine ⟨by decide +kernel, by decide +kernel, wayF (by decide +kernel) ?_⟩ | refine ⟨by decide +kernel, ?_⟩)
    refine Nxt.mk ?_
    repeat (first | refine Red.red ?_ | refine ⟨by decide +kernel, by decide +kernel, wayF (by decide +kernel) ?_⟩ | refine ⟨by decide +kernel, ?_⟩)
    refine Nxt.mk ?_
    rw [show Str.ofString "^" = opS .xor from rfl]
    exact tail_ok (k := k) (o := .xor) (by simp) d4 h4 hp S sm (by omega) hW.1 hW.2 hHa (.inl hHb) (fun ns' d st' hP hpos => q ns' d st' (lift hP (by omega)) hpos)
  case shr =>
    rw [show opS .shr = Str.ofString ">>" from rfl]
    walk_at "s"
    refine Nxt.mk ?_
    repeat (first | refine Red.red ?_ | refine ⟨by decide +kernel, by decide +kernel, wayF (by decide +kernel) ?_⟩ | refine ⟨by decide +kernel, ?_⟩)
    refine Nxt.mk ?_
    repeat (first | refine Red.red ?_ | refine ⟨by decide +kernel, by decide +kernel, wayF (by decide +kernel) ?_⟩ | refine ⟨by decide +kernel, ?_⟩)
    refine Nxt.mk ?_
    repeat (first | refine Red.red ?_ | refine ⟨by decide +kernel, by decide +kernel, wayF (by decide +kernel) ?_⟩ | refine ⟨by decide +kernel, ?_⟩)
    refine Nxt.mk ?_
    repeat (first | refine Red.red ?_ | refine ⟨by decide +kernel, by decide +kernel, wayF (by decide +kernel) ?_⟩ | refine ⟨by decide +kernel, ?_⟩)
    refine Nxt.mk ?_
    repeat (first | refine Red.red ?_ | refine ⟨by decide +kernel, by decide +kernel, wayF (by decide +kernel) ?_⟩ | refine ⟨by decide +kernel, ?_⟩)
    refine Nxt.mk ?_
    rw [show Str.ofString ">>" = opS .shr from rfl]
    exact tail_ok (k := k) (o := .shr) (by simp) d4 h4 hp S sm (by omega) hW.1 hW.2 hHa (.inl hHb) (fun ns' d st' hP hpos => q ns' d st' (lift hP (by omega)) hpos)
  case or =>
    rw [show opS .or = Str.ofString "|" from rfl]
    walk_at "s"
    refine Nxt.mk ?_
    repeat (first | refine Red.red ?_ | refine ⟨by decide +kernel, by decide +kernel, wayF (by decide +kernel) ?_⟩ | refine ⟨by decide +kernel, ?_⟩)
    refine Nxt.mk ?_
    repeat (first | refine Red.red ?_ | refine ⟨by decide +kernel, by decide +kernel, wayF (by decide +kernel) ?_⟩ | refine ⟨by decide +kernel, ?_⟩)
    refine Nxt.mk ?_
    repeat (first | refine Red.red ?_ | refine ⟨by decide +kernel, by decide +kernel, wayF (by decide +kernel) ?_⟩ | refine ⟨by decide +kernel, ?_⟩)
    refine Nxt.mk ?_
    repeat (first | refine Red.red ?_ | refine ⟨by decide +kernel, by decide +kernel, wayF (by decide +kernel) ?_⟩ | refine ⟨by decide +kernel, ?_⟩)
    refine Nxt.mk ?_
    repeat (first | refine Red.red ?_ | refine ⟨by decide +kernel, by decide +kernel, wayF (by decide +kernel) ?_⟩ | refine ⟨by decide +kernel, ?_⟩)
    refine Nxt.mk ?_
    rw [show Str.ofString "|" = opS .or from rfl]
    exact tail_ok (k := k) (o := .or) (by simp) d4 h4 hp S sm (by omega) hW.1 hW.2 hHa (.inl hHb) (fun ns' d st' hP hpos => q ns' d st' (lift hP (by omega)) hpos)
  case pick =>
    rw [show opS .pick = Str.ofString "pick" from rfl]
    walk_at "s"
    refine Nxt.mk ?_
    repeat (first | refine Red.red ?_ | refine ⟨by decide +kernel, by decide +kernel, wayF (by decide +kernel) ?_⟩ | refine ⟨by decide +kernel, ?_⟩)
    refine Nxt.mk ?_
    repeat (first | refine Red.red ?_ | refine ⟨by decide +kernel, by decide +kernel, wayF (by decide +kernel) ?_⟩ | refine ⟨by decide +kernel, ?_⟩)
    refine Nxt.mk ?_
    repeat (first | refine Red.red ?_ | refine ⟨by decide +kernel, by decide +kernel, wayF (by decide +kernel) ?_⟩ | refine ⟨by decide +kernel, ?_⟩)
    refine Nxt.mk ?_
    repeat (first | refine Red.red ?_ | refine ⟨by decide +kernel, by decide +kernel, wayF (by decide +kernel) ?_⟩ | refine ⟨by decide +kernel, ?_⟩)
    refine Nxt.mk ?_
    repeat (first | refine Red.red ?_ | refine ⟨by decide +kernel, by decide +kernel, wayF (by decide +kernel) ?_⟩ | refine ⟨by decide +kernel, ?_⟩)
    refine Nxt.mk ?_
    rw [show Str.ofString "pick" = opS .pick from rfl]
    exact tail_ok (k := k) (o := .pick) (by simp) d4 h4 hp S sm (by omega) hW.1 hW.2 hHa (.inl hHb) (fun ns' d st' hP hpos => q ns' d st' (lift hP (by omega)) hpos)
  case shl =>
    rw [show opS .shl = Str.ofString "<<" from rfl]
    walk_at "s"
    refine Nxt.mk ?_
    repeat (first | refine Red.red ?_ | refine ⟨by decide +kernel, by decide +kernel, wayF (by decide +kernel) ?_⟩ | refine ⟨by decide +kernel, ?_⟩)
    refine Nxt.mk ?_
    repeat (first | refine Red.red ?_ | refine ⟨by decide +kernel, by decide +kernel, wayF (by decide +kernel) ?_⟩ | refine ⟨by decide +kernel, ?_⟩)
    refine Nxt.mk ?_
    repeat (first | refine Red.red ?_ | refine ⟨by decide +kernel, by decide +kernel, wayF (by decide +kernel) ?_⟩ | refine ⟨by decide +kernel, ?_⟩)
    refine Nxt.mk ?_
    refine seq_J (fun σ st' => ∃ ns' b2 o7, σ = [some (.ref 2), some (.ref p), some (.ref st.length), some (.str (Str.ofString "<<")), some (.int (a : Int)), some (.int w), some (.int (b2 : Nat)), o7, none, none] ∧ Put p st4 ns ns' st' 1 ∧ 0 < ns'.length ∧ DrawAt st' ∧ ∃ v, Has (ns'.map Nd.wd) b2 v) (fun N hN => ?_) (fun σ st5 ⟨ns', b2, o7, e, hP, hpos, d5, v, hv⟩ => ?_)
    · walk_at "t"
      refine drawM (by omega) d4 (by omega) (by omega) (fun r st5 r1 r2 f8 => ?_)
      walk_at "t"
      refine way (fun e => ?_) (fun e => ?_)
      · walk_at "r"
        refine drawM (by omega) f8.dr (by omega) (by omega) (fun r3 st6 r4 r5 f9 => ?_)
        walk_at "r"
        have pb9 := pow_bd (w := 1 + r3) (by omega) (by omega)
        refine ⟨cpow_small (by omega) (by omega), ?_⟩
        walk_at "r"
        rw [pb9.1]
        refine drawM (by omega) f9.dr pb9.2.1 (by omega) (fun r6 st7 r7 r8 f10 => ?_)
        walk_at "r"
        refine ⟨Nat.le_of_ble_eq_true rfl, ?_⟩
        have f11 := (f8.trans f9).trans f10
        refine put_ok (x := .word (1 + r3) r6) (by omega) f11.dr (f11.rd h4 (by omega)) hp S sm (by omega) ⟨by omega, by omega, r7, by omega⟩ (fun _ _ e => by cases e) (fun ns' j st8 hP hpos hj => ?_)
        walk_at "r"
        exact hN _ _ ⟨ns', j, _, rfl, ⟨hP.sh, hP.sm, hP.pre, hP.ln, hP.rd, (FraE.of f11).trans hP.fr⟩, hpos, hP.fr.dr, _, hj⟩
      · walk_at "r"
        exact hN _ _ ⟨ns, b, _, rfl, ⟨S, sm, ⟨[], by simp⟩, by omega, f8.rd h4 (by omega), .of f8⟩, h0, f8.dr, _, hHb⟩
    · subst e
      repeat (first | refine Red.red ?_ | refine ⟨by decide +kernel, by decide +kernel, wayF (by decide +kernel) ?_⟩ | refine ⟨by decide +kernel, ?_⟩)
      refine Nxt.mk ?_
      rw [show Str.ofString "<<" = opS .shl from rfl]
      have hln := hP.ln
      exact tail_ok (k := k) (o := .shl) (by simp) d5 hP.rd hp hP.sh hP.sm (by omega) hW.1 hW.2 (hP.has hHa) (.inr ⟨rfl, v, hv⟩) (fun ns2 d st' hP2 hpos2 => q ns2 d st' (lift (hP.trans hP2) (by omega)) hpos2)
  case mul =>
    rw [show opS .mul = Str.ofString "*" from rfl]
    walk_at "s"
    refine Nxt.mk ?_
    repeat (first | refine Red.red ?_ | refine ⟨by decide +kernel, by decide +kernel, wayF (by decide +kernel) ?_⟩ | refine ⟨by decide +kernel, ?_⟩)
    refine Nxt.mk ?_
    repeat (first | refine Red.red ?_ | refine ⟨by decide +kernel, by decide +kernel, wayF (by decide +kernel) ?_⟩ | refine ⟨by decide +kernel, ?_⟩)
    refine Nxt.mk ?_
    repeat (first | refine Red.red ?_ | refine ⟨by decide +kernel, by decide +kernel, wayF (by decide +kernel) ?_⟩ | refine ⟨by decide +kernel, ?_⟩)
    refine Nxt.mk ?_
    repeat (first | refine Red.red ?_ | refine ⟨by decide +kernel, by decide +kernel, wayF (by decide +kernel) ?_⟩ | refine ⟨by decide +kernel, ?_⟩)
    refine Nxt.mk ?_
    refine seq_J (fun σ st' => ∃ ns' b2, σ = [some (.ref 2), some (.ref p), some (.ref st.length), some (.str (Str.ofString "*")), some (.int (a : Int)), some (.int w), some (.int (b2 : Nat)), none, none, none] ∧ Put p st4 ns ns' st' 1 ∧ 0 < ns'.length ∧ DrawAt st' ∧ Has (ns'.map Nd.wd) b2 w) (fun N hN => ?_) (fun σ st5 ⟨ns', b2, e, hP, hpos, d5, hv⟩ => ?_)
    · walk_at "t"
      refine drawM (by omega) d4 (by omega) (by omega) (fun r st5 r1 r2 f8 => ?_)
      walk_at "t"
      refine way (fun e => ?_) (fun e => ?_)
      · walk_at "r"
        refine ⟨cpow_small (by omega) (by omega), ?_⟩
        walk_at "r"
        rw [pb.1]
        refine drawM (by omega) f8.dr pb.2.1 (by omega) (fun r6 st7 r7 r8 f10 => ?_)
        walk_at "r"
        refine ⟨Nat.le_of_ble_eq_true rfl, ?_⟩
        have f11 := f8.trans f10
        refine put_ok (x := .word w r6) (by omega) f11.dr (f11.rd h4 (by omega)) hp S sm (by omega) ⟨hW.1, hW.2, r7, by omega⟩ (fun _ _ e => by cases e) (fun ns' j st8 hP hpos hj => ?_)
        have hP' : Put p st4 ns ns' st8 1 := ⟨hP.sh, hP.sm, hP.pre, hP.ln, hP.rd, (FraE.of f11).trans hP.fr⟩
        have hln := hP.ln
        walk_at "r"
        refine drawM (by omega) hP.fr.dr (by omega) (by omega) (fun r9 st9 r10 r11 f12 => ?_)
        walk_at "r"
        have hPr := f12.rd hP.rd (by omega)
        refine way (fun e => ?_) (fun e => ?_)
        · walk_at "r"
          refine ⟨Nat.le_of_ble_eq_true rfl, ?_⟩
          exact put_ok (x := .two .mul w j a) (by omega) f12.dr hPr hp hP.sh hP.sm (by omega) ⟨hW.1, hW.2, rfl, _, _, hj, hP'.has hHa, fun h => (by cases h), fun _ => rfl, fun _ _ => rfl⟩ (fun _ _ e => by cases e) (fun ns2 j2 st' hP2 hpos2 _ => q ns2 _ st' (lift (hP'.trans ⟨hP2.sh, hP2.sm, hP2.pre, hP2.ln, hP2.rd, (FraE.of f12).trans hP2.fr⟩) (by omega)) hpos2)
        · walk_at "r"
          exact hN _ _ ⟨ns', j, rfl, ⟨hP'.sh, hP'.sm, hP'.pre, hP'.ln, hPr, hP'.fr.trans (.of f12)⟩, hpos, f12.dr, hj⟩
      · walk_at "r"
        exact hN _ _ ⟨ns, b, rfl, ⟨S, sm, ⟨[], by simp⟩, by omega, f8.rd h4 (by omega), .of f8⟩, h0, f8.dr, hHb⟩
    · subst e
      rw [show Str.ofString "*" = opS .mul from rfl]
      have hln := hP.ln
      exact tail_ok (k := k) (o := .mul) (by simp) d5 hP.rd hp hP.sh hP.sm (by omega) hW.1 hW.2 (hP.has hHa) (.inl hv) (fun ns2 d st' hP2 hpos2 => q ns2 d st' (lift (hP.trans hP2) (by omega)) hpos2)
theorem sheet_ok {m : Nat} {st : Store} {Q : K} (hm : 4 ≤ m) (hd : DrawAt st) (q : ∀ ns st', Sheet ns → Small ns → 0 < ns.length → ns.length ≤ 40 → Fra st st' → Q (.tup (ns.map Nd.dat)) st') : callN prog m "_law_sheet" [.ref 2] st Q := by
  obtain ⟨k, rfl⟩ : ∃ n, m = n + 4 := ⟨m - 4, by omega⟩
  refine call_intro rfl rfl ?_
  unfold b_l_sheet
  have l0 := hd.lt
  walk_at "s"
  refine ⟨Nat.le_of_ble_eq_true rfl, ?_⟩
  walk_at "s"
  refine pickF (f := D.int) (xs := [2, 3, 1, 2, 8, 3, 5, 2]) (by omega) hd.app rdL_new (by omega) (by simp) (by simp) (fun w st1 hw f1 => ?_)
  have hW : 1 ≤ w ∧ w ≤ 8 := by
    simp only [List.mem_cons, List.not_mem_nil, or_false] at hw
    omega
  have f2 : Fra st st1 := ((Fra.refl hd).app).trans f1
  have l1 := f2.dr.lt
  walk_at "r"
  refine ⟨by simp [szl], ?_⟩
  walk_at "r"
  have d3 := f2.dr.app (c := C.lst [])
  have h3 := rdL_new (st := st1) (xs := [])
  have p0 : Put st1.length (st1 ++ [C.lst []]) [] [] (st1 ++ [C.lst []]) 0 := ⟨.nil, (fun _ hx => by cases hx), ⟨[], rfl⟩, by simp, h3, .of (.refl d3)⟩
  have f3 : ∀ st', FraE st1.length (st1 ++ [C.lst []]) st' → Fra st st' := fun st' f => f2.trans (by
    have := FraE.fra (p := st1.length) (st := st1) (st' := st') ((FraE.of ((Fra.refl f2.dr).app (c := C.lst []))).trans f) (Nat.le_refl _)
    exact this)
  generalize st1 ++ [C.lst []] = st3 at d3 p0 f3 ⊢
  generalize hp : st1.length = p at p0 f3 l1 ⊢
  clear h3
  refine drawM (by omega) d3 (by omega) (by omega) (fun r st4 r1 r2 f4 => ?_)
  walk_at "s"
  refine ⟨by omega, by omega, ?_⟩
  refine for_rng (fun j σ st' => ∃ ns o3, σ = [some (.ref 2), some (.int w), some (.ref p), o3] ∧ Put p st3 [] ns st' j) ⟨[], _, rfl, ⟨p0.sh, p0.sm, p0.pre, p0.ln, f4.rd p0.rd (by omega), .of f4⟩⟩ (fun j σ st' hj ⟨ns, o3, e, hP⟩ N hN => ?_) (fun σ st' ⟨ns, o3, e, hP⟩ => ?_)
  · subst e
    refine ⟨trivial, ?_⟩
    have hln := hP.ln
    rw [List.length_nil] at hln
    walk_at "s"
    refine drawM (by omega) hP.fr.dr (by omega) (by omega) (fun i0 st5 i1 i2 f5 => ?_)
    obtain ⟨i, rfl⟩ : ∃ i : Nat, i0 = i := ⟨i0.toNat, by omega⟩
    walk_at "s"
    refine ⟨Nat.le_of_ble_eq_true rfl, ?_⟩
    refine put_ok (x := .inp w i) (by omega) f5.dr (f5.rd hP.rd (by omega)) (by omega) hP.sh hP.sm (by omega) ⟨hW.1, hW.2, by omega⟩ (fun w' i' e => by cases e; omega) (fun ns' j' st6 hP2 hpos hj' => ?_)
    walk_at "s"
    exact hN _ _ ⟨ns', _, rfl, hP.trans ⟨hP2.sh, hP2.sm, hP2.pre, hP2.ln, hP2.rd, (FraE.of f5).trans hP2.fr⟩⟩
  · subst e
    refine ⟨trivial, ?_⟩
    have hln := hP.ln
    rw [List.length_nil] at hln
    have pb := pow_bd hW.1 hW.2
    walk_at "r"
    refine ⟨cpow_small (by omega) (by omega), ?_⟩
    walk_at "s"
    rw [pb.1]
    refine drawM (by omega) hP.fr.dr pb.2.1 (by omega) (fun v st5 v1 v2 f5 => ?_)
    walk_at "s"
    refine ⟨Nat.le_of_ble_eq_true rfl, ?_⟩
    refine put_ok (x := .word w v) (by omega) f5.dr (f5.rd hP.rd (by omega)) (by omega) hP.sh hP.sm (by omega) ⟨hW.1, hW.2, v1, by omega⟩ (fun w' i' e => by cases e) (fun ns2 j2 st6 hP2 hpos hj2 => ?_)
    have hP3 : Put p st3 [] ns2 st6 5 := by
      have := hP.trans ⟨hP2.sh, hP2.sm, hP2.pre, hP2.ln, hP2.rd, (FraE.of f5).trans hP2.fr⟩
      exact ⟨this.sh, this.sm, this.pre, by have := this.ln; omega, this.rd, this.fr⟩
    walk_at "s"
    refine Nxt.mk ?_
    refine seq_J (fun σ st' => ∃ ns, σ = [some (.ref 2), some (.int w), some (.ref p), o3] ∧ Put p st3 [] ns st' 6 ∧ 0 < ns.length) (fun N hN => ?_) (fun σ st' ⟨ns, e, hP, hpos⟩ => ?_)
    · walk_at "s"
      refine drawM (by omega) hP3.fr.dr (by omega) (by omega) (fun u st7 u1 u2 f7 => ?_)
      walk_at "s"
      have l3 := hP3.ln
      rw [List.length_nil] at l3
      refine way (fun e => ?_) (fun e => ?_)
      · walk_at "s"
        have fin : ∀ w' : Int, 1 ≤ w' → w' ≤ 8 → ∀ (st8 : Store), Fra st7 st8 → ∀ i : Nat, i < 6 → callN prog (k + 3) "_law_put" [.ref p, .tup [.str (Str.ofString "input"), .int w', .int (i : Int)]] st8 fun _ st9 => N [some (.ref 2), some (.int w), some (.ref p), o3] st9 := by
          intro w' a1 a2 st8 f8 i hi
          refine put_ok (x := .inp w' i) (by omega) f8.dr (f8.rd (f7.rd hP3.rd (by omega)) (by omega)) (by omega) hP3.sh hP3.sm (by omega) ⟨a1, a2, by omega⟩ (fun w' i' e => by cases e; omega) (fun ns4 j4 st9 hP4 hpos4 _ => ?_)
          have := hP3.trans ⟨hP4.sh, hP4.sm, hP4.pre, hP4.ln, hP4.rd, (FraE.of (f7.trans f8)).trans hP4.fr⟩
          exact hN _ _ ⟨ns4, rfl, this, hpos4⟩
        refine way (fun e => ?_) (fun e => ?_)
        · have e : w < 4 := by simpa using e
          walk_at "s"
          refine drawM (by omega) f7.dr (by omega) (by omega) (fun i0 st8 i1 i2 f8 => ?_)
          obtain ⟨i, rfl⟩ : ∃ i : Nat, i0 = i := ⟨i0.toNat, by omega⟩
          walk_at "s"
          refine ⟨Nat.le_of_ble_eq_true rfl, ?_⟩
          exact fin (w + 1) (by omega) (by omega) st8 f8 i (by omega)
        · walk_at "s"
          refine drawM (by omega) f7.dr (by omega) (by omega) (fun i0 st8 i1 i2 f8 => ?_)
          obtain ⟨i, rfl⟩ : ∃ i : Nat, i0 = i := ⟨i0.toNat, by omega⟩
          walk_at "s"
          refine ⟨Nat.le_of_ble_eq_true rfl, ?_⟩
          exact fin 2 (by omega) (by omega) st8 f8 i (by omega)
      · walk_at "s"
        exact hN _ _ ⟨ns2, rfl, ⟨hP3.sh, hP3.sm, hP3.pre, by have := hP3.ln; omega, f7.rd hP3.rd (by omega), hP3.fr.trans (.of f7)⟩, hpos⟩
    · subst e
      walk_at "s"
      refine drawM (by omega) hP.fr.dr (by omega) (by omega) (fun g st7 g1 g2 f7 => ?_)
      walk_at "s"
      refine ⟨by omega, by omega, ?_⟩
      refine for_rng (fun j σ st' => ∃ ns o3, σ = [some (.ref 2), some (.int w), some (.ref p), o3] ∧ Put p st3 [] ns st' (6 + 2 * j) ∧ 0 < ns.length) ⟨ns, _, rfl, ⟨hP.sh, hP.sm, hP.pre, by have := hP.ln; omega, f7.rd hP.rd (by omega), hP.fr.trans (.of f7)⟩, hpos⟩ (fun j σ st' hj ⟨ns, o3, e, hP, hpos⟩ N hN => ?_) (fun σ st' ⟨ns, o3, e, hP, hpos⟩ => ?_)
      · subst e
        refine ⟨trivial, ?_⟩
        have hln := hP.ln
        rw [List.length_nil] at hln
        walk_at "s"
        refine grow_ok (by omega) hP.fr.dr hP.rd (by omega) hP.sh hP.sm hpos (by omega) (fun ns' d st8 hP2 hpos2 => ?_)
        have := hP.trans hP2
        exact hN _ _ ⟨ns', _, rfl, ⟨this.sh, this.sm, this.pre, by have := this.ln; omega, this.rd, this.fr⟩, hpos2⟩
      · subst e
        refine ⟨trivial, ?_⟩
        have hln := hP.ln
        rw [List.length_nil] at hln
        walk_at "r"
        refine tuple_at hP.rd ?_
        exact q ns st' hP.sh hP.sm hpos (by omega) (f3 _ hP.fr)
end Pk37
end PartPdk37P2

section PartPdk37P3
set_option Elab.async false
set_option linter.all false
set_option maxRecDepth 100000
set_option maxHeartbeats 1000000
namespace Pk37
open PySem Pd
local macro_rules | `(tactic| walk_at "s") => `(tactic| (repeat (refine Red.red ?_)))
local macro_rules | `(tactic| walk_at "r") => `(tactic| (repeat (first | refine Red.red ?_ | refine Nxt.mk ?_)))
local macro_rules | `(tactic| walk_at "t") => `(tactic| (repeat (first | refine Red.red ?_ | refine Nxt.mk ?_ | refine ⟨by decide +kernel, by decide +kernel, wayF (by decide +kernel) ?_⟩ | refine ⟨by decide +kernel, by decide +kernel, wayT (by decide +kernel) ?_⟩ | refine ⟨by decide +kernel, ?_⟩ | refine ⟨Nat.le_of_ble_eq_true rfl, ?_⟩ | refine at_is rfl ?_)))
local instance inTup3 {x : D} {xs : List D} {st : Store} {r : Bool → Prop} : Red (inC x (.tup xs) st r) (x.flat = true ∧ xs.all D.flat = true ∧ r (xs.any fun y => D.eqb y x)) := ⟨id⟩
local instance notinTup3 {x : D} {xs : List D} {st : Store} {r : Bool → Prop} : Red (notinC x (.tup xs) st r) (x.flat = true ∧ xs.all D.flat = true ∧ r (!(xs.any fun y => D.eqb y x))) := ⟨id⟩
/-! k37, third text: `_law_word`, `_law_values`. Own work. -/
section
variable {w l r a b : Int} {k n : Nat} {st : Store} {Q : K}
theorem word1 {o : Op} (ho : one o = true) (w0 : 1 ≤ w) (w1 : w ≤ 8) (l0 : 0 ≤ l) (l1 : o ≠ .wide → l ≤ fullI w) (h : rdL st n [.int l]) (q : Q (.int (v1 o w l)) st) : callN prog (k + 1) "_law_word" [.str (opS o), .int w, .ref n] st Q := by
  refine call_intro rfl rfl ?_
  unfold b_l_word
  have cp := cpow_small (w := w) (by omega) (by omega)
  have hf := full1 w0 w1
  cases o <;> try (cases ho; done)
  case not =>
    rw [show opS .not = Str.ofString "not" from rfl]
    walk_at "t"
    refine ix_ref h rfl ?_
    walk_at "t"
    refine len_at h ?_
    walk_at "t"
    refine ix_ref h rfl ?_
    walk_at "t"
    refine ⟨cp, ?_⟩
    walk_at "t"
    try rw [hf]
    have e : v1 .not w l = Builtin.bitAnd (-l - 1) (fullI w) := (not_mask l0 (l1 (by intro h; cases h))).symm
    rw [e] at q
    exact q
  case neg =>
    rw [show opS .neg = Str.ofString "neg" from rfl]
    walk_at "t"
    refine ix_ref h rfl ?_
    walk_at "t"
    refine len_at h ?_
    walk_at "t"
    refine ix_ref h rfl ?_
    walk_at "t"
    refine ⟨cp, ?_⟩
    walk_at "t"
    try rw [hf]
    have e : v1 .neg w l = Builtin.bitAnd (-l - 0) (fullI w) := by rw [Int.sub_zero]; rfl
    rw [e] at q
    exact q
  case wide =>
    rw [show opS .wide = Str.ofString "wide" from rfl]
    walk_at "t"
    refine ix_ref h rfl ?_
    walk_at "t"
    refine len_at h ?_
    walk_at "t"
    refine ix_ref h rfl ?_
    walk_at "t"
    refine ⟨cp, ?_⟩
    walk_at "t"
    try rw [hf]
    exact q
theorem word3 (w0 : 1 ≤ w) (w1 : w ≤ 8) (l0 : 0 ≤ l) (l1 : l ≤ 1) (h : rdL st n [.int l, .int a, .int b]) (q : Q (.int (if l = 1 then a else b)) st) : callN prog (k + 1) "_law_word" [.str (opS .pick), .int w, .ref n] st Q := by
  refine call_intro rfl rfl ?_
  unfold b_l_word
  have cp := cpow_small (w := w) (by omega) (by omega)
  have hf := full1 w0 w1
  rw [show opS .pick = Str.ofString "pick" from rfl]
  walk_at "t"
  refine ix_ref h rfl ?_
  walk_at "t"
  refine len_at h ?_
  walk_at "t"
  refine ix_ref h rfl ?_
  walk_at "t"
  refine ⟨cp, ?_⟩
  walk_at "t"
  obtain rfl | rfl : l = 0 ∨ l = 1 := by omega
  · exact ix_ref h rfl q
  · exact ix_ref h rfl q
theorem word2 {o : Op} (ho : two o = true) (w0 : 1 ≤ w) (w1 : w ≤ 8) (l0 : 0 ≤ l) (l2 : l ≤ 255) (r0 : 0 ≤ r) (r1 : r ≤ 255) (rs : (o = .shr ∨ o = .and ∨ o = .or ∨ o = .xor) → l ≤ fullI w) (rb : (o = .and ∨ o = .or ∨ o = .xor) → r ≤ fullI w) (h : rdL st n [.int l, .int r]) (q : Q (.int (v2 o w l r)) st) : callN prog (k + 1) "_law_word" [.str (opS o), .int w, .ref n] st Q := by
  refine call_intro rfl rfl ?_
  unfold b_l_word
  have cp := cpow_small (w := w) (by omega) (by omega)
  have hf := full1 w0 w1
  cases o <;> try (cases ho; done)
  case add =>
    rw [show opS .add = Str.ofString "+" from rfl]
    walk_at "t"
    refine ix_ref h rfl ?_
    walk_at "t"
    refine len_at h ?_
    walk_at "t"
    refine ix_ref h rfl ?_
    walk_at "t"
    refine ⟨cp, ?_⟩
    walk_at "t"
    try rw [hf]
    exact q
  case sub =>
    rw [show opS .sub = Str.ofString "-" from rfl]
    walk_at "t"
    refine ix_ref h rfl ?_
    walk_at "t"
    refine len_at h ?_
    walk_at "t"
    refine ix_ref h rfl ?_
    walk_at "t"
    refine ⟨cp, ?_⟩
    walk_at "t"
    try rw [hf]
    exact q
  case mul =>
    rw [show opS .mul = Str.ofString "*" from rfl]
    walk_at "t"
    refine ix_ref h rfl ?_
    walk_at "t"
    refine len_at h ?_
    walk_at "t"
    refine ix_ref h rfl ?_
    walk_at "t"
    refine ⟨cp, ?_⟩
    walk_at "t"
    try rw [hf]
    refine ⟨cmul_small r0 (by omega), ?_⟩
    walk_at "t"
    exact q
  case shl =>
    rw [show opS .shl = Str.ofString "<<" from rfl]
    walk_at "t"
    refine ix_ref h rfl ?_
    walk_at "t"
    refine len_at h ?_
    walk_at "t"
    refine ix_ref h rfl ?_
    walk_at "t"
    refine ⟨cp, ?_⟩
    walk_at "t"
    try rw [hf]
    have hm : 0 ≤ (if 8 < r then 8 else r) ∧ (if 8 < r then 8 else r) ≤ 8 := by split <;> omega
    refine ⟨⟨hm.1, by omega, by omega⟩, ?_⟩
    walk_at "t"
    have e : v2 .shl w l r = Builtin.bitAnd (l * 2 ^ (if 8 < r then 8 else r).toNat) (fullI w) := by
      show (if w ≤ r then _ else _) = _
      split
      · rename_i hh; rw [shl_big w0 w1 hh]
      · rename_i hh; rw [min_small hh w1]
    rw [e] at q; exact q
  case shr =>
    rw [show opS .shr = Str.ofString ">>" from rfl]
    walk_at "t"
    refine ix_ref h rfl ?_
    walk_at "t"
    refine len_at h ?_
    walk_at "t"
    refine ix_ref h rfl ?_
    walk_at "t"
    refine ⟨cp, ?_⟩
    walk_at "t"
    try rw [hf]
    have hm : 0 ≤ (if 8 < r then 8 else r) ∧ (if 8 < r then 8 else r) ≤ 8 := by split <;> omega
    refine ⟨hm.1, ?_⟩
    have e : v2 .shr w l r = l / 2 ^ (if 8 < r then 8 else r).toNat := by
      show (if w ≤ r then _ else _) = _
      split
      · rename_i hh; rw [shr_big w0 w1 l0 (rs (by simp)) hh]
      · rename_i hh; rw [min_small hh w1]
    rw [e] at q; exact q
  case div =>
    rw [show opS .div = Str.ofString "div" from rfl]
    walk_at "t"
    refine ix_ref h rfl ?_
    walk_at "t"
    refine len_at h ?_
    walk_at "t"
    refine ix_ref h rfl ?_
    walk_at "t"
    refine ⟨cp, ?_⟩
    walk_at "t"
    try rw [hf]
    by_cases e : r = 0
    · refine wayT (by simpa using e) ?_
      walk_at "t"
      have e' : v2 .div w l r = 0 := if_pos e
      rw [e'] at q; exact q
    · refine wayF (by simpa using e) ?_
      walk_at "t"
      refine ⟨⟨by omega, by omega⟩, ?_⟩
      have e' : v2 .div w l r = l / r := if_neg e
      rw [e'] at q; exact q
  case rem =>
    rw [show opS .rem = Str.ofString "rem" from rfl]
    walk_at "t"
    refine ix_ref h rfl ?_
    walk_at "t"
    refine len_at h ?_
    walk_at "t"
    refine ix_ref h rfl ?_
    walk_at "t"
    refine ⟨cp, ?_⟩
    walk_at "t"
    try rw [hf]
    by_cases e : r = 0
    · refine wayT (by simpa using e) ?_
      walk_at "t"
      have e' : v2 .rem w l r = 0 := if_pos e
      rw [e'] at q; exact q
    · refine wayF (by simpa using e) ?_
      walk_at "t"
      refine ⟨⟨by omega, by omega⟩, ?_⟩
      walk_at "t"
      refine ⟨cmul_small r0 (by omega), ?_⟩
      walk_at "t"
      have e' : v2 .rem w l r = l - l / r * r := by
        show (if r = 0 then _ else _) = _
        rw [if_neg e, Int.mul_comm]
      rw [e'] at q; exact q
  case eq =>
    rw [show opS .eq = Str.ofString "==" from rfl]
    walk_at "t"
    refine ix_ref h rfl ?_
    walk_at "t"
    refine len_at h ?_
    walk_at "t"
    refine ix_ref h rfl ?_
    walk_at "t"
    refine ⟨cp, ?_⟩
    walk_at "t"
    try rw [hf]
    have e : (decide (l = r) == decide (Str.ofString "==" = Str.ofString "==")) = (decide (l = r)) := by
      rw [show decide (Str.ofString "==" = Str.ofString "==") = true by decide +kernel]
      cases decide (l = r) <;> rfl
    rw [e]
    exact q
  case ne =>
    rw [show opS .ne = Str.ofString "!=" from rfl]
    walk_at "t"
    refine ix_ref h rfl ?_
    walk_at "t"
    refine len_at h ?_
    walk_at "t"
    refine ix_ref h rfl ?_
    walk_at "t"
    refine ⟨cp, ?_⟩
    walk_at "t"
    try rw [hf]
    have e : (decide (l = r) == decide (Str.ofString "!=" = Str.ofString "==")) = (!decide (l = r)) := by
      rw [show decide (Str.ofString "!=" = Str.ofString "==") = false by decide +kernel]
      cases decide (l = r) <;> rfl
    rw [e]
    exact q
  case lt =>
    rw [show opS .lt = Str.ofString "<" from rfl]
    walk_at "t"
    refine ix_ref h rfl ?_
    walk_at "t"
    refine len_at h ?_
    walk_at "t"
    refine ix_ref h rfl ?_
    walk_at "t"
    refine ⟨cp, ?_⟩
    walk_at "t"
    try rw [hf]
    refine way (fun e => ?_) (fun e => ?_)
    · walk_at "t"
      rw [e]
      have e' : v2 .lt w l r = b2i true := by show b2i (decide (l < r)) = _; rw [e]
      rw [e'] at q; exact q
    · walk_at "t"
      have e' : v2 .lt w l r = b2i false := by show b2i (decide (l < r)) = _; rw [e]
      rw [e'] at q; exact q
  case le =>
    rw [show opS .le = Str.ofString "<=" from rfl]
    walk_at "t"
    refine ix_ref h rfl ?_
    walk_at "t"
    refine len_at h ?_
    walk_at "t"
    refine ix_ref h rfl ?_
    walk_at "t"
    refine ⟨cp, ?_⟩
    walk_at "t"
    try rw [hf]
    refine way (fun e => ?_) (fun e => ?_)
    · walk_at "t"
      rw [e]
      have e1 : l < r := of_decide_eq_true e
      have e' : v2 .le w l r = b2i true := by show b2i (decide (l ≤ r)) = _; rw [decide_eq_true (by omega)]
      rw [e'] at q; exact q
    · have e1 : ¬ l < r := of_decide_eq_false e
      walk_at "t"
      have e' : v2 .le w l r = b2i (decide (l = r)) := by
        show b2i (decide (l ≤ r)) = _
        by_cases e2 : l = r
        · rw [decide_eq_true e2, decide_eq_true (by omega)]
        · rw [decide_eq_false e2, decide_eq_false (by omega)]
      rw [e'] at q; exact q
  case and =>
    rw [show opS .and = Str.ofString "&" from rfl]
    walk_at "t"
    refine ix_ref h rfl ?_
    walk_at "t"
    refine len_at h ?_
    walk_at "t"
    refine ix_ref h rfl ?_
    walk_at "t"
    refine ⟨cp, ?_⟩
    walk_at "t"
    try rw [hf]
    have e := (bits_in l0 (rs (by simp)) r0 (rb (by simp))).1
    rw [e] at q
    exact q
  case or =>
    rw [show opS .or = Str.ofString "|" from rfl]
    walk_at "t"
    refine ix_ref h rfl ?_
    walk_at "t"
    refine len_at h ?_
    walk_at "t"
    refine ix_ref h rfl ?_
    walk_at "t"
    refine ⟨cp, ?_⟩
    walk_at "t"
    try rw [hf]
    have e := (bits_in l0 (rs (by simp)) r0 (rb (by simp))).2.1
    rw [e] at q
    exact q
  case xor =>
    rw [show opS .xor = Str.ofString "^" from rfl]
    walk_at "t"
    refine ix_ref h rfl ?_
    walk_at "t"
    refine len_at h ?_
    walk_at "t"
    refine ix_ref h rfl ?_
    walk_at "t"
    refine ⟨cp, ?_⟩
    walk_at "t"
    try rw [hf]
    have e := (bits_in l0 (rs (by simp)) r0 (rb (by simp))).2.2
    rw [e] at q
    exact q
end
theorem valuesL_ok {m : Nat} {st : Store} {Q : K} {is : List Int} {ns : List Nd} (hm : 5 ≤ m) (S : Sheet ns) (hi : ∀ i, i ∈ is → 0 ≤ i) (hl : ns.length ≤ 1000) (q : ∀ st', FraG st.length st st' → rdL st' st.length ((vals is ns).map D.int) → Q (.ref st.length) st') : callN prog m "_law_values" [.tup (ns.map Nd.dat), .tup (is.map D.int)] st Q := by
  obtain ⟨k, rfl⟩ : ∃ n, m = n + 5 := ⟨m - 5, by omega⟩
  refine call_intro rfl rfl ?_
  unfold b_l_values
  walk_at "s"
  refine ⟨Nat.le_of_ble_eq_true rfl, ?_⟩
  walk_at "s"
  refine Nxt.mk ?_
  walk_at "s"
  refine for_map ns Nd.dat rfl (fun j σ st' => ∃ o3 o4 o5 : Option D, σ = [some (.tup (ns.map Nd.dat)), some (.tup (is.map D.int)), some (.ref st.length), o3, o4, o5] ∧ rdL st' st.length ((vals is (ns.take j)).map D.int) ∧ FraG st.length st st') ⟨none, none, none, rfl, rdL_new, FraG.new⟩ (fun j x σ st' hx ⟨o3, o4, o5, e, h, f⟩ N hN => ?_) (fun σ st' ⟨o3, o4, o5, e, h, f⟩ => ?_)
  · subst e
    refine ⟨trivial, ?_⟩
    obtain ⟨S', G⟩ := S.pre hx
    have F := fits_all is hi S'
    have hlen := vals_len is S'
    have hj : (ns.take j).length ≤ 1000 := by rw [List.length_take]; omega
    have ap : ∀ {st2 : Store} {o4 : Option D} {z : Int}, z = val is (vals is (ns.take j)) x → Grw st' st2 → appendM (.ref st.length) [.int z] st2 fun _ st3 => N [some (.tup (ns.map Nd.dat)), some (.tup (is.map D.int)), some (.ref st.length), some x.dat, o4, o5] st3 := by
      intro st2 o4 z ez g
      have h2 := g.rd h
      refine append_at h2 (by simp [szl]; omega) ?_
      refine hN _ _ ⟨some x.dat, o4, o5, rfl, ?_, (f.more g).setG⟩
      rw [vals_take hx, List.map_append, ez]
      exact rdL_set h2
    have gd : ∀ {a : Nat} {w : Int}, Has ((ns.take j).map Nd.wd) a w → a < (vals is (ns.take j)).length ∧ 0 ≤ (vals is (ns.take j)).getD a 0 ∧ (vals is (ns.take j)).getD a 0 ≤ fullI w := by
      intro a w ha
      obtain ⟨v, e, h0, h1⟩ := F a w ha
      refine ⟨(List.getElem?_eq_some_iff.1 e).1, ?_⟩
      rw [List.getD_eq_getElem?_getD, e]
      exact ⟨h0, h1⟩
    cases x with
    | word w v =>
      walk_at "t"
      refine ⟨ty_at h, ?_⟩
      walk_at "t"
      exact ap rfl (.refl _)
    | inp w i =>
      obtain ⟨w0, w1, hi3⟩ := G
      have cp := cpow_small (w := w) (by omega) (by omega)
      have hf := full1 w0 w1
      have ez : val is (vals is (ns.take j)) (.inp w i) = Builtin.bitAnd (if i < is.length then is.getD i 0 else 0) (fullI w) := by
        show (if i < is.length then _ else _) = _
        split
        · rfl
        · exact (mask_zero).symm
      walk_at "t"
      rw [List.length_map]
      refine way (fun hh => ?_) (fun hh => ?_)
      · have h' : i < is.length := by have := of_decide_eq_true hh; omega
        walk_at "t"
        refine ⟨.int (is.getD i 0), ?_, ?_⟩
        · unfold atD
          rw [if_pos (by omega), Int.toNat_natCast, List.getElem?_map, List.getElem?_eq_getElem h', List.getD_eq_getElem?_getD, List.getElem?_eq_getElem h']
          rfl
        · walk_at "t"
          refine ⟨ty_at h, ?_⟩
          walk_at "t"
          refine ⟨cp, ?_⟩
          walk_at "t"
          rw [hf]
          refine ap ?_ (.refl _)
          rw [ez, if_pos h']
      · have h' : ¬ i < is.length := by have := of_decide_eq_false hh; omega
        walk_at "t"
        refine ⟨ty_at h, ?_⟩
        walk_at "t"
        refine ⟨cp, ?_⟩
        walk_at "t"
        rw [hf]
        refine ap ?_ (.refl _)
        rw [ez, if_neg h']
    | one o w a =>
      obtain ⟨w0, w1, ho, u, ha, hu⟩ := G
      walk_at "t"
      refine ⟨(opS_w o).1, by decide +kernel, wayF (opS_w o).2.1 ?_⟩
      walk_at "t"
      refine ⟨(opS_w o).1, by decide +kernel, wayF (opS_w o).2.2 ?_⟩
      walk_at "t"
      refine ⟨ty_at h, ?_⟩
      walk_at "t"
      refine lc_parts [a] h (by simp; exact (gd ha).1) (by simp) (fun _ => trivial) (fun b hb acc N' h3 hN' => ?_) ?_
      · walk_at "t"
        exact ix_refN h3 (by simp at hb; subst hb; exact (gd ha).1) hN'
      · walk_at "t"
        refine word1 (k := k + 3) ho w0 w1 (gd ha).2.1 (fun hne => by rw [← hu hne]; exact (gd ha).2.2) rdL_new ?_
        exact ap rfl (.app (.refl _))
    | two o w a b =>
      obtain ⟨w0, w1, ho, u, v, ha, hb, g1, g2, g3⟩ := G
      walk_at "t"
      refine ⟨(opS_w o).1, by decide +kernel, wayF (opS_w o).2.1 ?_⟩
      walk_at "t"
      refine ⟨(opS_w o).1, by decide +kernel, wayF (opS_w o).2.2 ?_⟩
      walk_at "t"
      have hp : ∀ c' ∈ [a, b], c' < (vals is (ns.take j)).length := by
        intro c' hc'
        simp only [List.mem_cons, List.not_mem_nil, or_false] at hc'
        rcases hc' with rfl | rfl
        · exact (gd ha).1
        · exact (gd hb).1
      refine ⟨ty_at h, ?_⟩
      walk_at "t"
      refine lc_parts [a, b] h hp (by simp) (fun _ => trivial) (fun b' hb' acc N' h3 hN' => ?_) ?_
      · walk_at "t"
        exact ix_refN h3 (hp _ hb') hN'
      · walk_at "t"
        refine word2 (k := k + 3) ho w0 w1 (gd ha).2.1 (le255 S' ha (gd ha).2.2) (gd hb).2.1 (le255 S' hb (gd hb).2.2) ?_ ?_ rdL_new ?_
        · intro ho'
          rw [← g2 (by rcases ho' with rfl | rfl | rfl | rfl <;> rfl)]
          exact (gd ha).2.2
        · intro ho'
          rw [← g3 (by rcases ho' with rfl | rfl | rfl <;> rfl) (by rcases ho' with rfl | rfl | rfl <;> rfl)]
          exact (gd hb).2.2
        · exact ap rfl (.app (.refl _))
    | pick w c a b =>
      obtain ⟨w0, w1, hc, ha, hb⟩ := G
      walk_at "s"
      refine at_is rfl ?_
      walk_at "s"
      refine ⟨(opS_w .pick).1, by decide +kernel, wayF (opS_w .pick).2.1 ?_⟩
      walk_at "s"
      refine at_is rfl ?_
      walk_at "s"
      refine ⟨(opS_w .pick).1, by decide +kernel, wayF (opS_w .pick).2.2 ?_⟩
      walk_at "s"
      have hp : ∀ c' ∈ [c, a, b], c' < (vals is (ns.take j)).length := by
        intro c' hc'
        simp only [List.mem_cons, List.not_mem_nil, or_false] at hc'
        rcases hc' with rfl | rfl | rfl
        · exact (gd hc).1
        · exact (gd ha).1
        · exact (gd hb).1
      refine ⟨ty_at h, ?_⟩
      walk_at "t"
      refine lc_parts [c, a, b] h hp (by simp) (fun _ => trivial) (fun b' hb' acc N' h3 hN' => ?_) ?_
      · walk_at "t"
        exact ix_refN h3 (hp _ hb') hN'
      · walk_at "t"
        refine word3 (k := k + 3) w0 w1 (gd hc).2.1 (by have := (gd hc).2.2; have e1 : fullI 1 = 1 := by decide
                                                        omega) rdL_new ?_
        exact ap rfl (.app (.refl _))
  · subst e
    refine ⟨trivial, ?_⟩
    walk_at "r"
    rw [List.take_length] at h
    exact q _ f h
end Pk37
end PartPdk37P3

section PartPdk37P4
set_option Elab.async false
set_option linter.all false
set_option maxRecDepth 100000
set_option maxHeartbeats 1000000
namespace Pk37
open PySem Pd
local macro_rules | `(tactic| walk_at "s") => `(tactic| (repeat (refine Red.red ?_)))
local macro_rules | `(tactic| walk_at "r") => `(tactic| (repeat (first | refine Red.red ?_ | refine Nxt.mk ?_)))
local macro_rules | `(tactic| walk_at "t") => `(tactic| (repeat (first | refine Red.red ?_ | refine Nxt.mk ?_ | refine ⟨by decide +kernel, by decide +kernel, wayF (by decide +kernel) ?_⟩ | refine ⟨by decide +kernel, by decide +kernel, wayT (by decide +kernel) ?_⟩ | refine ⟨by decide +kernel, ?_⟩ | refine ⟨Nat.le_of_ble_eq_true rfl, ?_⟩ | refine at_is rfl ?_)))
local instance inTup4 {x : D} {xs : List D} {st : Store} {r : Bool → Prop} : Red (inC x (.tup xs) st r) (x.flat = true ∧ xs.all D.flat = true ∧ r (xs.any fun y => D.eqb y x)) := ⟨id⟩
local instance notinTup4 {x : D} {xs : List D} {st : Store} {r : Bool → Prop} : Red (notinC x (.tup xs) st r) (x.flat = true ∧ xs.all D.flat = true ∧ r (!(xs.any fun y => D.eqb y x))) := ⟨id⟩
/-! k37, fourth text: `_law_linear`. Own work. -/
def rowOf (l : Lf) : List Int := [l.f 0, l.f 1, l.f 2, l.f 3, l.f 4, l.f 5, l.c]
def RowIs (b : Nat) (st : Store) (d : D) : Option Lf → Prop
  | none => d = .non
  | some l => ∃ c, d = .ref c ∧ b ≤ c ∧ rdL st c ((rowOf l).map D.int)
theorem RowIs.grw {b : Nat} {st st' : Store} {d : D} {o : Option Lf} (h : RowIs b st d o) (f : Grw st st') : RowIs b st' d o := by
  cases o with
  | none => exact h
  | some l => obtain ⟨c, e, hb, h⟩ := h; exact ⟨c, e, hb, f.rd h⟩
theorem RowIs.set {b p : Nat} {st : Store} {d : D} {o : Option Lf} {x : C} (h : RowIs b st d o) (hp : p < b) : RowIs b (st.set p x) d o := by
  cases o with
  | none => exact h
  | some l => obtain ⟨c, e, hb, h⟩ := h; exact ⟨c, e, hb, rdL_ne h (by omega)⟩
theorem isN_row {b : Nat} {st : Store} {d : D} {o : Option Lf} (h : RowIs b st d o) : isNon d = o.isNone := by
  cases o with
  | none => rw [show d = .non from h]; rfl
  | some l => obtain ⟨c, e, _, _⟩ := h; rw [e]; rfl
/-- rows as they come, masked later -/
def RawIs (w : Int) (st : Store) (d : D) : Option Lf → Prop
  | none => d = .non
  | some l => ∃ (c : Nat) (raw : List Int), d = .ref c ∧ rdL st c (raw.map D.int) ∧ raw.length = 7 ∧ (raw.map fun z => Builtin.bitAnd z (fullI w)) = rowOf l
def Rows (b : Nat) (st : Store) (rows : List D) (fs : Nat → Option Lf) (p : Nat) : Prop := ∃ d, rows[p]? = some d ∧ RowIs b st d (fs p) ∧ ∀ l, fs p = some l → l.In
theorem at_row {rows : List D} {p : Nat} {d : D} (h : rows[p]? = some d) : atD rows (p : Int) = some d := atD_nat (by omega) (by rw [Int.toNat_natCast]; exact h)
section
variable {w : Int} {k p pf b : Nat} {st : Store} {Q : K} {ns : List Nd} {rows : List D} {fs : Nat → Option Lf}
theorem lc_row {gd : Store → Prop} {g : TG} {te : TE} {ρ : Pd.Env} {l : Lf} (h : Int → Int) (hg : ∀ acc, gd (st ++ [.lst acc]))
    (hs : ∀ z ∈ rowOf l, ∀ (acc : List D) (N : D → Store → Prop), N (.int (h z)) (st ++ [.lst acc]) → g (.int z) ρ (st ++ [.lst acc]) fun ρ2 st2 => te ρ2 st2 N)
    (hd : Q (.ref st.length) (st ++ [.lst (((rowOf l).map h).map D.int)])) : lcLoop gd g tYes te ρ st.length Q ((rowOf l).map D.int) [] (st ++ [.lst []]) := by
  refine lc_map (rowOf l) D.int (fun z => .int (h z)) rfl (by simp [szl, rowOf]) hg hs ?_
  rw [List.map_map] at hd
  exact hd
theorem row_in {l : Lf} (h : l.In) : ∀ z ∈ rowOf l, 0 ≤ z ∧ z ≤ 255 := by
  intro z hz
  simp only [rowOf, List.mem_cons, List.not_mem_nil, or_false] at hz
  rcases hz with rfl | rfl | rfl | rfl | rfl | rfl | rfl
  · exact h.1 0
  · exact h.1 1
  · exact h.1 2
  · exact h.1 3
  · exact h.1 4
  · exact h.1 5
  · exact h.2
theorem raw_one {l : Lf} {t u : Int} {z1 : Lf} (h : Int → Int) (hz : ∀ j, u * z1.f j = 0) (hc : u * z1.c = 0) (e : ∀ z, h z = t * z) : (((rowOf l).map h).map fun z => Builtin.bitAnd z (fullI w)) = rowOf (comb w t l u z1) := by
  simp only [rowOf, List.map_cons, List.map_nil, comb, e, hz, hc, Int.add_zero]
theorem ix_row {n i : Nat} {xs : List Int} (h : rdL st n (xs.map D.int)) (hi : i < xs.length) (q : Q (.int (xs.getD i 0)) st) : ixK (.ref n) (.int (i : Int)) st Q := ix_refN h hi q
theorem linear_one_ok {x : Nd} {ws : List Int} (S : Sheet ns) (G : Good ws x) (hlf : leafB x = false) (hpl : ∀ p ∈ Pd.parts x, p < ns.length) (hf : ∀ p ∈ Pd.parts x, Rows b st rows fs p) (hk : rdL st pf rows) (hwd : ∀ p v, p < ns.length → wordOf ns p = some v → fs p = some ⟨fun _ => 0, v⟩)
    (q : ∀ d st', RawIs x.wd st' d (lin1 ns fs x) → Grw st st' → Q d st') : callN prog (k + 1) "_law_linear_one" [.tup (ns.map Nd.dat), .ref pf, x.dat] st Q := by
  refine call_intro rfl rfl ?_
  unfold b_l_linear_one
  cases x with
  | word w v => cases hlf
  | inp w i => cases hlf
  | one o w a =>
    obtain ⟨w0, w1, ho, u, ha, hu⟩ := G
    obtain ⟨d, hv, hd, hin⟩ := hf a (by simp [Pd.parts])
    cases o <;> try (cases ho; done)
    case not =>
      rw [show (Nd.one .not w a).dat = .tup [.str (Str.ofString "not"), .int w, .int (a : Int)] from rfl] at *
      walk_at "t"
      refine ix_ref hk (at_row hv) ?_
      walk_at "t"
      refine ix_ref hk (at_row hv) ?_
      walk_at "t"
      rw [isN_row hd]
      cases hfs : fs a with
      | none =>
        have eL : lin1 ns fs (.one .not w a) = none := by simp [lin1, hfs]
        refine wayF rfl ?_
        walk_at "t"
        rw [isN_row hd, hfs]
        refine wayT rfl ?_
        walk_at "t"
        exact q _ _ (by rw [eL]; exact rfl) (.refl _)
      | some l =>
        rw [hfs] at hd
        obtain ⟨c, rfl, hb, hr⟩ := hd
        refine wayT rfl ?_
        walk_at "t"
        have eL : lin1 ns fs (.one .not w a) = some (comb w (-1) l (-1) oL) := by simp [lin1, hfs]
        refine sl_at hr ?_
        rw [cut_last, show ((rowOf l).map D.int).dropLast = [l.f 0, l.f 1, l.f 2, l.f 3, l.f 4, l.f 5].map D.int from rfl]
        walk_at "t"
        refine it_at rdL_new ?_
        have hr2 := rdL_app (c := C.lst ([l.f 0, l.f 1, l.f 2, l.f 3, l.f 4, l.f 5].map D.int)) hr
        have hn2 := rdL_new (st := st) (xs := [l.f 0, l.f 1, l.f 2, l.f 3, l.f 4, l.f 5].map D.int)
        have g2 : Grw st (st ++ [C.lst ([l.f 0, l.f 1, l.f 2, l.f 3, l.f 4, l.f 5].map D.int)]) := .app (.refl _)
        generalize st ++ [C.lst ([l.f 0, l.f 1, l.f 2, l.f 3, l.f 4, l.f 5].map D.int)] = st2 at hr2 hn2 g2 ⊢
        refine lc_map [l.f 0, l.f 1, l.f 2, l.f 3, l.f 4, l.f 5] D.int (fun z => .int (-z)) rfl (by simp [szl]) (fun acc => .inl (rdL_app hn2)) (fun z hz acc N hN => ?_) ?_
        · walk_at "t"
          exact hN
        · have hr3 := rdL_app (c := C.lst (List.map (fun z => D.int (-z)) [l.f 0, l.f 1, l.f 2, l.f 3, l.f 4, l.f 5])) hr2
          have hn3 := rdL_new (st := st2) (xs := List.map (fun z => D.int (-z)) [l.f 0, l.f 1, l.f 2, l.f 3, l.f 4, l.f 5])
          have g3 := g2.app (c := C.lst (List.map (fun z => D.int (-z)) [l.f 0, l.f 1, l.f 2, l.f 3, l.f 4, l.f 5]))
          generalize st2 ++ [C.lst (List.map (fun z => D.int (-z)) [l.f 0, l.f 1, l.f 2, l.f 3, l.f 4, l.f 5])] = st3 at hr3 hn3 g3 ⊢
          walk_at "t"
          refine ix_ref hr3 (i := -1) (d := .int l.c) rfl ?_
          walk_at "t"
          refine add_at (rdL_app hn3) rdL_new (Nat.le_of_ble_eq_true rfl) ?_
          refine q _ _ ?_ (g3.app.app)
          rw [eL]
          refine ⟨_, [-l.f 0, -l.f 1, -l.f 2, -l.f 3, -l.f 4, -l.f 5, -1 - l.c], rfl, rdL_new, rfl, ?_⟩
          have e1 : ∀ z : Int, -z = -1 * z + -1 * 0 := fun z => by omega
          have e2 : -1 - l.c = -1 * l.c + -1 * 1 := by omega
          show [_, _, _, _, _, _, _] = [_, _, _, _, _, _, _]
          rw [e2, e1 (l.f 0), e1 (l.f 1), e1 (l.f 2), e1 (l.f 3), e1 (l.f 4), e1 (l.f 5)]
          rfl
    case neg =>
      rw [show (Nd.one .neg w a).dat = .tup [.str (Str.ofString "neg"), .int w, .int (a : Int)] from rfl] at *
      walk_at "t"
      refine ix_ref hk (at_row hv) ?_
      walk_at "t"
      refine ix_ref hk (at_row hv) ?_
      walk_at "t"
      rw [isN_row hd]
      cases hfs : fs a with
      | none =>
        have eL : lin1 ns fs (.one .neg w a) = none := by simp [lin1, hfs]
        refine wayF rfl ?_
        walk_at "t"
        rw [isN_row hd, hfs]
        refine wayT rfl ?_
        walk_at "t"
        exact q _ _ (by rw [eL]; exact rfl) (.refl _)
      | some l =>
        rw [hfs] at hd
        obtain ⟨c, rfl, hb, hr⟩ := hd
        refine wayT rfl ?_
        walk_at "t"
        have eL : lin1 ns fs (.one .neg w a) = some (comb w (-1) l 0 zL) := by simp [lin1, hfs]
        refine it_at hr ?_
        refine lc_row (fun z => -z) (fun acc => .inl (rdL_app hr)) (fun z hz acc N hN => ?_) ?_
        · walk_at "t"
          exact hN
        · refine q _ _ ?_ (.app (.refl _))
          rw [eL]
          exact ⟨_, _, rfl, rdL_new, rfl, raw_one _ (fun j => by simp) (by simp) (fun z => by omega)⟩
    case wide =>
      rw [show (Nd.one .wide w a).dat = .tup [.str (Str.ofString "wide"), .int w, .int (a : Int)] from rfl] at *
      walk_at "t"
      refine ix_ref hk (at_row hv) ?_
      walk_at "t"
      refine ix_ref hk (at_row hv) ?_
      walk_at "t"
      rw [isN_row hd]
      cases hfs : fs a with
      | none =>
        refine wayT rfl ?_
        walk_at "t"
        exact q _ _ rfl (.refl _)
      | some l =>
        refine wayF rfl ?_
        walk_at "t"
        rw [isN_row hd, hfs]
        refine wayF rfl ?_
        walk_at "t"
        exact q _ _ rfl (.refl _)
  | two o w a c =>
    obtain ⟨w0, w1, ho, u, v, ha, hb, g1, g2, g3⟩ := G
    obtain ⟨d, hv, hd, hin⟩ := hf a (by simp [Pd.parts])
    obtain ⟨e, hve, hde, hine⟩ := hf c (by simp [Pd.parts])
    have hla := hpl a (by simp [Pd.parts])
    have hlb := hpl c (by simp [Pd.parts])
    have no : ∀ {o}, lin1 ns fs (.two o w a c) = none → RawIs (Nd.two o w a c).wd st D.non (lin1 ns fs (.two o w a c)) := fun h => by rw [h]; exact rfl
    cases o <;> try (cases ho; done)
    case and =>
      rw [show (Nd.two .and w a c).dat = .tup [.str (Str.ofString "&"), .int w, .int (a : Int), .int (c : Int)] from rfl] at *
      walk_at "t"
      refine ix_ref hk (at_row hv) ?_
      walk_at "t"
      refine ix_ref hk (at_row hve) ?_
      walk_at "t"
      rw [isN_row hd]
      cases hfs : fs a with
      | none =>
        refine wayT rfl ?_
        walk_at "t"
        exact q _ _ rfl (.refl _)
      | some l =>
        refine wayF rfl ?_
        walk_at "t"
        rw [isN_row hde]
        cases hfe : fs c with
        | none =>
          refine wayT rfl ?_
          walk_at "t"
          exact q _ _ rfl (.refl _)
        | some r =>
          refine wayF rfl ?_
          walk_at "t"
          exact q _ _ rfl (.refl _)
    case or =>
      rw [show (Nd.two .or w a c).dat = .tup [.str (Str.ofString "|"), .int w, .int (a : Int), .int (c : Int)] from rfl] at *
      walk_at "t"
      refine ix_ref hk (at_row hv) ?_
      walk_at "t"
      refine ix_ref hk (at_row hve) ?_
      walk_at "t"
      rw [isN_row hd]
      cases hfs : fs a with
      | none =>
        refine wayT rfl ?_
        walk_at "t"
        exact q _ _ rfl (.refl _)
      | some l =>
        refine wayF rfl ?_
        walk_at "t"
        rw [isN_row hde]
        cases hfe : fs c with
        | none =>
          refine wayT rfl ?_
          walk_at "t"
          exact q _ _ rfl (.refl _)
        | some r =>
          refine wayF rfl ?_
          walk_at "t"
          exact q _ _ rfl (.refl _)
    case xor =>
      rw [show (Nd.two .xor w a c).dat = .tup [.str (Str.ofString "^"), .int w, .int (a : Int), .int (c : Int)] from rfl] at *
      walk_at "t"
      refine ix_ref hk (at_row hv) ?_
      walk_at "t"
      refine ix_ref hk (at_row hve) ?_
      walk_at "t"
      rw [isN_row hd]
      cases hfs : fs a with
      | none =>
        refine wayT rfl ?_
        walk_at "t"
        exact q _ _ rfl (.refl _)
      | some l =>
        refine wayF rfl ?_
        walk_at "t"
        rw [isN_row hde]
        cases hfe : fs c with
        | none =>
          refine wayT rfl ?_
          walk_at "t"
          exact q _ _ rfl (.refl _)
        | some r =>
          refine wayF rfl ?_
          walk_at "t"
          exact q _ _ rfl (.refl _)
    case shr =>
      rw [show (Nd.two .shr w a c).dat = .tup [.str (Str.ofString ">>"), .int w, .int (a : Int), .int (c : Int)] from rfl] at *
      walk_at "t"
      refine ix_ref hk (at_row hv) ?_
      walk_at "t"
      refine ix_ref hk (at_row hve) ?_
      walk_at "t"
      rw [isN_row hd]
      cases hfs : fs a with
      | none =>
        refine wayT rfl ?_
        walk_at "t"
        exact q _ _ rfl (.refl _)
      | some l =>
        refine wayF rfl ?_
        walk_at "t"
        rw [isN_row hde]
        cases hfe : fs c with
        | none =>
          refine wayT rfl ?_
          walk_at "t"
          exact q _ _ rfl (.refl _)
        | some r =>
          refine wayF rfl ?_
          walk_at "t"
          exact q _ _ rfl (.refl _)
    case div =>
      rw [show (Nd.two .div w a c).dat = .tup [.str (Str.ofString "div"), .int w, .int (a : Int), .int (c : Int)] from rfl] at *
      walk_at "t"
      refine ix_ref hk (at_row hv) ?_
      walk_at "t"
      refine ix_ref hk (at_row hve) ?_
      walk_at "t"
      rw [isN_row hd]
      cases hfs : fs a with
      | none =>
        refine wayT rfl ?_
        walk_at "t"
        exact q _ _ rfl (.refl _)
      | some l =>
        refine wayF rfl ?_
        walk_at "t"
        rw [isN_row hde]
        cases hfe : fs c with
        | none =>
          refine wayT rfl ?_
          walk_at "t"
          exact q _ _ rfl (.refl _)
        | some r =>
          refine wayF rfl ?_
          walk_at "t"
          exact q _ _ rfl (.refl _)
    case rem =>
      rw [show (Nd.two .rem w a c).dat = .tup [.str (Str.ofString "rem"), .int w, .int (a : Int), .int (c : Int)] from rfl] at *
      walk_at "t"
      refine ix_ref hk (at_row hv) ?_
      walk_at "t"
      refine ix_ref hk (at_row hve) ?_
      walk_at "t"
      rw [isN_row hd]
      cases hfs : fs a with
      | none =>
        refine wayT rfl ?_
        walk_at "t"
        exact q _ _ rfl (.refl _)
      | some l =>
        refine wayF rfl ?_
        walk_at "t"
        rw [isN_row hde]
        cases hfe : fs c with
        | none =>
          refine wayT rfl ?_
          walk_at "t"
          exact q _ _ rfl (.refl _)
        | some r =>
          refine wayF rfl ?_
          walk_at "t"
          exact q _ _ rfl (.refl _)
    case eq =>
      rw [show (Nd.two .eq w a c).dat = .tup [.str (Str.ofString "=="), .int w, .int (a : Int), .int (c : Int)] from rfl] at *
      walk_at "t"
      refine ix_ref hk (at_row hv) ?_
      walk_at "t"
      refine ix_ref hk (at_row hve) ?_
      walk_at "t"
      rw [isN_row hd]
      cases hfs : fs a with
      | none =>
        refine wayT rfl ?_
        walk_at "t"
        exact q _ _ rfl (.refl _)
      | some l =>
        refine wayF rfl ?_
        walk_at "t"
        rw [isN_row hde]
        cases hfe : fs c with
        | none =>
          refine wayT rfl ?_
          walk_at "t"
          exact q _ _ rfl (.refl _)
        | some r =>
          refine wayF rfl ?_
          walk_at "t"
          exact q _ _ rfl (.refl _)
    case ne =>
      rw [show (Nd.two .ne w a c).dat = .tup [.str (Str.ofString "!="), .int w, .int (a : Int), .int (c : Int)] from rfl] at *
      walk_at "t"
      refine ix_ref hk (at_row hv) ?_
      walk_at "t"
      refine ix_ref hk (at_row hve) ?_
      walk_at "t"
      rw [isN_row hd]
      cases hfs : fs a with
      | none =>
        refine wayT rfl ?_
        walk_at "t"
        exact q _ _ rfl (.refl _)
      | some l =>
        refine wayF rfl ?_
        walk_at "t"
        rw [isN_row hde]
        cases hfe : fs c with
        | none =>
          refine wayT rfl ?_
          walk_at "t"
          exact q _ _ rfl (.refl _)
        | some r =>
          refine wayF rfl ?_
          walk_at "t"
          exact q _ _ rfl (.refl _)
    case lt =>
      rw [show (Nd.two .lt w a c).dat = .tup [.str (Str.ofString "<"), .int w, .int (a : Int), .int (c : Int)] from rfl] at *
      walk_at "t"
      refine ix_ref hk (at_row hv) ?_
      walk_at "t"
      refine ix_ref hk (at_row hve) ?_
      walk_at "t"
      rw [isN_row hd]
      cases hfs : fs a with
      | none =>
        refine wayT rfl ?_
        walk_at "t"
        exact q _ _ rfl (.refl _)
      | some l =>
        refine wayF rfl ?_
        walk_at "t"
        rw [isN_row hde]
        cases hfe : fs c with
        | none =>
          refine wayT rfl ?_
          walk_at "t"
          exact q _ _ rfl (.refl _)
        | some r =>
          refine wayF rfl ?_
          walk_at "t"
          exact q _ _ rfl (.refl _)
    case le =>
      rw [show (Nd.two .le w a c).dat = .tup [.str (Str.ofString "<="), .int w, .int (a : Int), .int (c : Int)] from rfl] at *
      walk_at "t"
      refine ix_ref hk (at_row hv) ?_
      walk_at "t"
      refine ix_ref hk (at_row hve) ?_
      walk_at "t"
      rw [isN_row hd]
      cases hfs : fs a with
      | none =>
        refine wayT rfl ?_
        walk_at "t"
        exact q _ _ rfl (.refl _)
      | some l =>
        refine wayF rfl ?_
        walk_at "t"
        rw [isN_row hde]
        cases hfe : fs c with
        | none =>
          refine wayT rfl ?_
          walk_at "t"
          exact q _ _ rfl (.refl _)
        | some r =>
          refine wayF rfl ?_
          walk_at "t"
          exact q _ _ rfl (.refl _)
    case add =>
      rw [show (Nd.two .add w a c).dat = .tup [.str (Str.ofString "+"), .int w, .int (a : Int), .int (c : Int)] from rfl] at *
      walk_at "t"
      refine ix_ref hk (at_row hv) ?_
      walk_at "t"
      refine ix_ref hk (at_row hve) ?_
      walk_at "t"
      rw [isN_row hd]
      cases hfs : fs a with
      | none =>
        refine wayT rfl ?_
        walk_at "t"
        exact q _ _ (no (by simp [lin1, hfs])) (.refl _)
      | some l =>
        refine wayF rfl ?_
        walk_at "t"
        rw [isN_row hde]
        cases hfe : fs c with
        | none =>
          refine wayT rfl ?_
          walk_at "t"
          exact q _ _ (no (by simp [lin1, hfs, hfe])) (.refl _)
        | some r =>
          have eL : lin1 ns fs (.two .add w a c) = some (comb w 1 l 1 r) := by simp [lin1, hfs, hfe]
          rw [hfs] at hd
          rw [hfe] at hde
          obtain ⟨c1, rfl, hb1, hr1⟩ := hd
          obtain ⟨c2, rfl, hb2, hr2⟩ := hde
          refine wayF rfl ?_
          walk_at "t"
          refine len_at hr1 ?_
          rw [show (List.map D.int (rowOf l)).length = 7 from rfl]
          walk_at "s"
          refine ⟨by decide, by decide, ?_⟩
          refine lc_map (List.range 7) n0 (fun i => .int ((rowOf l).getD i 0 + (rowOf r).getD i 0)) rfl (by simp [szl]) (fun _ => trivial) (fun i hi acc N hN => ?_) ?_
          · have hi := List.mem_range.mp hi
            rw [n0_num]
            walk_at "t"
            refine ix_row (rdL_app hr1) (by simpa [rowOf] using hi) ?_
            walk_at "t"
            refine ix_row (rdL_app hr2) (by simpa [rowOf] using hi) ?_
            walk_at "t"
            exact hN
          · refine q _ _ ?_ (.app (.refl _))
            rw [eL]
            refine ⟨_, (List.range 7).map fun i => (rowOf l).getD i 0 + (rowOf r).getD i 0, rfl, by rw [List.map_map]; exact rdL_new, rfl, ?_⟩
            have e1 : ∀ x y : Int, x + y = 1 * x + 1 * y := fun x y => by omega
            show [_, _, _, _, _, _, _] = [_, _, _, _, _, _, _]
            simp only [rowOf, List.getD_cons_zero, List.getD_cons_succ]
            rw [e1 (l.f 0), e1 (l.f 1), e1 (l.f 2), e1 (l.f 3), e1 (l.f 4), e1 (l.f 5), e1 l.c]
            rfl
    case sub =>
      rw [show (Nd.two .sub w a c).dat = .tup [.str (Str.ofString "-"), .int w, .int (a : Int), .int (c : Int)] from rfl] at *
      walk_at "t"
      refine ix_ref hk (at_row hv) ?_
      walk_at "t"
      refine ix_ref hk (at_row hve) ?_
      walk_at "t"
      rw [isN_row hd]
      cases hfs : fs a with
      | none =>
        refine wayT rfl ?_
        walk_at "t"
        exact q _ _ (no (by simp [lin1, hfs])) (.refl _)
      | some l =>
        refine wayF rfl ?_
        walk_at "t"
        rw [isN_row hde]
        cases hfe : fs c with
        | none =>
          refine wayT rfl ?_
          walk_at "t"
          exact q _ _ (no (by simp [lin1, hfs, hfe])) (.refl _)
        | some r =>
          have eL : lin1 ns fs (.two .sub w a c) = some (comb w 1 l (-1) r) := by simp [lin1, hfs, hfe]
          rw [hfs] at hd
          rw [hfe] at hde
          obtain ⟨c1, rfl, hb1, hr1⟩ := hd
          obtain ⟨c2, rfl, hb2, hr2⟩ := hde
          refine wayF rfl ?_
          walk_at "t"
          refine len_at hr1 ?_
          rw [show (List.map D.int (rowOf l)).length = 7 from rfl]
          walk_at "s"
          refine ⟨by decide, by decide, ?_⟩
          refine lc_map (List.range 7) n0 (fun i => .int ((rowOf l).getD i 0 - (rowOf r).getD i 0)) rfl (by simp [szl]) (fun _ => trivial) (fun i hi acc N hN => ?_) ?_
          · have hi := List.mem_range.mp hi
            rw [n0_num]
            walk_at "t"
            refine ix_row (rdL_app hr1) (by simpa [rowOf] using hi) ?_
            walk_at "t"
            refine ix_row (rdL_app hr2) (by simpa [rowOf] using hi) ?_
            walk_at "t"
            exact hN
          · refine q _ _ ?_ (.app (.refl _))
            rw [eL]
            refine ⟨_, (List.range 7).map fun i => (rowOf l).getD i 0 - (rowOf r).getD i 0, rfl, by rw [List.map_map]; exact rdL_new, rfl, ?_⟩
            have e1 : ∀ x y : Int, x - y = 1 * x + (-1) * y := fun x y => by omega
            show [_, _, _, _, _, _, _] = [_, _, _, _, _, _, _]
            simp only [rowOf, List.getD_cons_zero, List.getD_cons_succ]
            rw [e1 (l.f 0), e1 (l.f 1), e1 (l.f 2), e1 (l.f 3), e1 (l.f 4), e1 (l.f 5), e1 l.c]
            rfl
    case shl =>
      rw [show (Nd.two .shl w a c).dat = .tup [.str (Str.ofString "<<"), .int w, .int (a : Int), .int (c : Int)] from rfl] at *
      walk_at "t"
      refine ix_ref hk (at_row hv) ?_
      walk_at "t"
      refine ix_ref hk (at_row hve) ?_
      walk_at "t"
      rw [isN_row hd]
      cases hfs : fs a with
      | none =>
        refine wayF rfl ?_
        walk_at "t"
        rw [isN_row hd, hfs]
        refine wayT rfl ?_
        walk_at "t"
        exact q _ _ (no (by simp [lin1, hfs])) (.refl _)
      | some l =>
        refine wayT rfl ?_
        walk_at "t"
        refine at_is (at_nd hlb) ?_
        rw [dat_eq]
        walk_at "t"
        refine ⟨name_ok _, by decide +kernel, ?_⟩
        rw [name_word]
        walk_at "t"
        cases hw : isWord ns[c] with
        | true =>
          obtain ⟨z, hz, hz2⟩ := word_is hlb hw
          have hz3 := word_in S hz2
          have eL : lin1 ns fs (.two .shl w a c) = some (comb w (1 * 2 ^ z.toNat) l 0 zL) := by simp [lin1, hfs, hz2]
          rw [hfs] at hd
          obtain ⟨c1, rfl, hb1, hr1⟩ := hd
          refine wayT rfl ?_
          walk_at "t"
          refine it_at hr1 ?_
          refine lc_row (fun y => y * 2 ^ z.toNat) (fun acc => .inl (rdL_app hr1)) (fun y hy acc N hN => ?_) ?_
          · walk_at "t"
            refine at_is (at_nd hlb) ?_
            rw [dat_eq, hz]
            walk_at "t"
            have := row_in (hin l hfs) y hy
            refine ⟨⟨hz3.1, by omega, by omega⟩, ?_⟩
            exact hN
          · refine q _ _ ?_ (.app (.refl _))
            rw [eL]
            exact ⟨_, _, rfl, rdL_new, rfl, raw_one _ (fun j => by simp) (by simp) (fun y => by rw [Int.one_mul, Int.mul_comm])⟩
        | false =>
          refine wayF rfl ?_
          walk_at "t"
          rw [isN_row hd, hfs]
          refine wayF rfl ?_
          walk_at "t"
          rw [isN_row hde]
          have eL : lin1 ns fs (.two .shl w a c) = none := by simp [lin1, hfs, word_no hlb hw]
          cases hfe : fs c with
          | none =>
            refine wayT rfl ?_
            walk_at "t"
            exact q _ _ (no eL) (.refl _)
          | some r =>
            refine wayF rfl ?_
            walk_at "t"
            exact q _ _ (no eL) (.refl _)
    case mul =>
      rw [show (Nd.two .mul w a c).dat = .tup [.str (Str.ofString "*"), .int w, .int (a : Int), .int (c : Int)] from rfl] at *
      walk_at "t"
      refine ix_ref hk (at_row hv) ?_
      walk_at "t"
      refine ix_ref hk (at_row hve) ?_
      walk_at "t"
      rw [isN_row hd]
      cases hfs : fs a with
      | none =>
        refine wayT rfl ?_
        walk_at "t"
        exact q _ _ (no (by simp [lin1, hfs])) (.refl _)
      | some l =>
        refine wayF rfl ?_
        walk_at "t"
        rw [isN_row hde]
        cases hfe : fs c with
        | none =>
          refine wayT rfl ?_
          walk_at "t"
          exact q _ _ (no (by simp [lin1, hfs, hfe])) (.refl _)
        | some r =>
          rw [hfs] at hd
          rw [hfe] at hde
          obtain ⟨c1, rfl, hb1, hr1⟩ := hd
          obtain ⟨c2, rfl, hb2, hr2⟩ := hde
          refine wayF rfl ?_
          walk_at "t"
          refine at_is (at_nd hla) ?_
          rw [dat_eq]
          walk_at "t"
          refine ⟨name_ok _, by decide +kernel, ?_⟩
          rw [name_word]
          walk_at "t"
          cases hw : isWord ns[a] with
          | true =>
            obtain ⟨z, hz, hz2⟩ := word_is hla hw
            have hz3 := word_in S hz2
            refine wayT rfl ?_
            walk_at "t"
            refine it_at hr2 ?_
            refine lc_row (fun y => z * y) (fun acc => .inl (rdL_app hr2)) (fun y hy acc N hN => ?_) ?_
            · walk_at "t"
              refine at_is (at_nd hla) ?_
              rw [dat_eq, hz]
              walk_at "t"
              have := row_in (hine r hfe) y hy
              refine ⟨cmul_small this.1 (by omega), ?_⟩
              exact hN
            · refine q _ _ ?_ (.app (.refl _))
              cases hwb : wordOf ns c with
              | none =>
                have eL : lin1 ns fs (.two .mul w a c) = some (comb w z r 0 zL) := by simp [lin1, hfs, hfe, hz2, hwb]
                rw [eL]
                exact ⟨_, _, rfl, rdL_new, rfl, raw_one _ (fun j => by simp) (by simp) (fun y => rfl)⟩
              | some z' =>
                have eL : lin1 ns fs (.two .mul w a c) = some (comb w z' l 0 zL) := by simp [lin1, hfs, hfe, hwb]
                have el := hwd a z hla hz2
                have er := hwd c z' hlb hwb
                rw [hfs] at el
                rw [hfe] at er
                cases el
                cases er
                rw [eL]
                refine ⟨_, _, rfl, rdL_new, rfl, ?_⟩
                simp only [rowOf, comb, zL, List.map_cons, List.map_nil, Int.mul_zero, Int.add_zero]
                rw [Int.mul_comm z z']
                rfl
          | false =>
            have hn := word_no hla hw
            refine wayF rfl ?_
            walk_at "t"
            refine at_is (at_nd hlb) ?_
            rw [dat_eq]
            walk_at "t"
            refine ⟨name_ok _, by decide +kernel, ?_⟩
            rw [name_word]
            walk_at "t"
            cases hw2 : isWord ns[c] with
            | true =>
              obtain ⟨z, hz, hz2⟩ := word_is hlb hw2
              have hz3 := word_in S hz2
              have eL : lin1 ns fs (.two .mul w a c) = some (comb w z l 0 zL) := by simp [lin1, hfs, hfe, hz2]
              refine wayT rfl ?_
              walk_at "t"
              refine it_at hr1 ?_
              refine lc_row (fun y => z * y) (fun acc => .inl (rdL_app hr1)) (fun y hy acc N hN => ?_) ?_
              · walk_at "t"
                refine at_is (at_nd hlb) ?_
                rw [dat_eq, hz]
                walk_at "t"
                have := row_in (hin l hfs) y hy
                refine ⟨cmul_small this.1 (by omega), ?_⟩
                exact hN
              · refine q _ _ ?_ (.app (.refl _))
                rw [eL]
                exact ⟨_, _, rfl, rdL_new, rfl, raw_one _ (fun j => by simp) (by simp) (fun y => rfl)⟩
            | false =>
              refine wayF rfl ?_
              walk_at "t"
              exact q _ _ (no (by simp [lin1, hfs, hfe, hn, word_no hlb hw2])) (.refl _)
  | pick w c0 a c =>
    obtain ⟨d, hv, hd, hin⟩ := hf c0 (by simp [Pd.parts])
    obtain ⟨e, hve, hde, hine⟩ := hf c (by simp [Pd.parts])
    rw [show (Nd.pick w c0 a c).dat = .tup [.str (Str.ofString "pick"), .int w, .int (c0 : Int), .int (a : Int), .int (c : Int)] from rfl] at *
    walk_at "t"
    refine ix_ref hk (at_row hv) ?_
    walk_at "t"
    refine ix_ref hk (at_row hve) ?_
    walk_at "t"
    rw [isN_row hd]
    cases hfs : fs c0 with
    | none =>
      refine wayT rfl ?_
      walk_at "t"
      exact q _ _ rfl (.refl _)
    | some l =>
      refine wayF rfl ?_
      walk_at "t"
      rw [isN_row hde]
      cases hfe : fs c with
      | none =>
        refine wayT rfl ?_
        walk_at "t"
        exact q _ _ rfl (.refl _)
      | some r =>
        refine wayF rfl ?_
        walk_at "t"
        exact q _ _ rfl (.refl _)
end
end Pk37
end PartPdk37P4

section PartPdk37P5
set_option Elab.async false
set_option linter.all false
set_option maxRecDepth 100000
set_option maxHeartbeats 1000000
namespace Pk37
open PySem Pd
local macro_rules | `(tactic| walk_at "s") => `(tactic| (repeat (refine Red.red ?_)))
local macro_rules | `(tactic| walk_at "r") => `(tactic| (repeat (first | refine Red.red ?_ | refine Nxt.mk ?_)))
local macro_rules | `(tactic| walk_at "t") => `(tactic| (repeat (first | refine Red.red ?_ | refine Nxt.mk ?_ | refine ⟨by decide +kernel, by decide +kernel, wayF (by decide +kernel) ?_⟩ | refine ⟨by decide +kernel, by decide +kernel, wayT (by decide +kernel) ?_⟩ | refine ⟨by decide +kernel, ?_⟩ | refine ⟨Nat.le_of_ble_eq_true rfl, ?_⟩ | refine at_is rfl ?_)))
local instance inTup5 {x : D} {xs : List D} {st : Store} {r : Bool → Prop} : Red (inC x (.tup xs) st r) (x.flat = true ∧ xs.all D.flat = true ∧ r (xs.any fun y => D.eqb y x)) := ⟨id⟩
local instance notinTup5 {x : D} {xs : List D} {st : Store} {r : Bool → Prop} : Red (notinC x (.tup xs) st r) (x.flat = true ∧ xs.all D.flat = true ∧ r (!(xs.any fun y => D.eqb y x))) := ⟨id⟩
local macro_rules | `(tactic| walk_at "f") => `(tactic| (repeat (first | refine Red.red ?_ | refine Nxt.mk ?_ | refine wayF rfl ?_ | refine at_is rfl ?_)))
/-! k37, fifth text: `_law_linear`, `_law_same`, `_law_total`, and what forms mean. Own work. -/
theorem hot (k i : Nat) : b2i (decide ((k : Int) = (i : Int))) = if k = i then 1 else 0 := by
  by_cases h : k = i
  · subst h; simp [b2i]
  · rw [if_neg h, decide_eq_false (by omega)]; rfl
theorem linF_word {ns : List Nd} (S : Sheet ns) {p : Nat} {v : Int} (hp : p < ns.length) (h : wordOf ns p = some v) : linF ns p = some ⟨fun _ => 0, v⟩ := by
  have hx := List.getElem?_eq_getElem hp
  rw [linF_eq S hx]
  rw [wordOf_at hp] at h
  cases hy : ns[p] with
  | word w z => rw [hy] at h; cases h; rfl
  | inp w i => rw [hy] at h; cases h
  | one o w a => rw [hy] at h; cases h
  | two o w a c => rw [hy] at h; cases h
  | pick w c a d => rw [hy] at h; cases h
theorem linear_ok {k : Nat} {st : Store} {Q : K} {ns : List Nd} (S : Sheet ns) (hl : ns.length ≤ 1000)
    (q : ∀ st' rows, FraG st.length st st' → rdL st' st.length rows → rows.length = ns.length → (∀ i, i < ns.length → ∃ d, rows[i]? = some d ∧ RowIs (st.length + 1) st' d (linF ns i)) → Q (.ref st.length) st') : callN prog (k + 2) "_law_linear" [.tup (ns.map Nd.dat), .int 6] st Q := by
  refine call_intro rfl rfl ?_
  unfold b_l_linear
  walk_at "s"
  refine ⟨Nat.le_of_ble_eq_true rfl, ?_⟩
  walk_at "r"
  refine for_map ns Nd.dat rfl (fun j σ st' => ∃ o3 o4 o5 o6 rows, σ = [some (.tup (ns.map Nd.dat)), some (.int 6), some (.ref st.length), o3, o4, o5, o6] ∧ FraG st.length st st' ∧ rdL st' st.length rows ∧ rows.length = j ∧ ∀ i, i < j → ∃ d, rows[i]? = some d ∧ RowIs (st.length + 1) st' d (linF ns i)) ⟨none, none, none, none, [], rfl, FraG.new, rdL_new, rfl, fun i h => by omega⟩ (fun j x σ st' hx ⟨o3, o4, o5, o6, rows, e, f, hr, hrl, hrw⟩ N hN => ?_) (fun σ st' ⟨o3, o4, o5, o6, rows, e, f, hr, hrl, hrw⟩ => ?_)
  · subst e
    refine ⟨trivial, ?_⟩
    have hj := (List.getElem?_eq_some_iff.mp hx).1
    obtain ⟨S', G⟩ := S.pre hx
    have eF := linF_eq S hx
    have hsl := rdL_lt hr
    have ap : ∀ {st2 : Store} {o4 o5 o6 : Option D} {d : D}, Grw st' st2 → RowIs (st.length + 1) st2 d (linF ns j) → appendM (.ref st.length) [d] st2 fun _ st3 => N [some (.tup (ns.map Nd.dat)), some (.int 6), some (.ref st.length), some x.dat, o4, o5, o6] st3 := by
      intro st2 o4 o5 o6 d g hd
      have h2 := g.rd hr
      refine append_at h2 (by simp [szl]; omega) ?_
      refine hN _ _ ⟨_, _, _, _, rows ++ [d], rfl, (f.more g).setG, rdL_set h2, by rw [List.length_append, List.length_singleton, hrl], fun i hi => ?_⟩
      by_cases e : i < j
      · obtain ⟨d', h3, h4⟩ := hrw i e
        exact ⟨d', by rw [List.getElem?_append_left (by omega)]; exact h3, (h4.grw g).set (by omega)⟩
      · have e : i = j := by omega
        subst e
        exact ⟨d, by rw [List.getElem?_append_right (by omega), hrl, Nat.sub_self]; rfl, hd.set (by omega)⟩
    cases hlf : leafB x with
    | true =>
      cases x with
      | word w v =>
        rw [show (Nd.word w v).dat = .tup [.str (Str.ofString "word"), .int w, .int v] from rfl] at *
        walk_at "t"
        refine ⟨ty_at hr, ?_⟩
        walk_at "t"
        refine rep_at rdL_new (by decide) (by decide) (by simp) ?_
        rw [flat_one]
        walk_at "t"
        refine add_at (rdL_app rdL_new) rdL_new (Nat.le_of_ble_eq_true rfl) ?_
        refine ap (((Grw.refl _).app.app.app).app) ?_
        rw [eF]
        exact ⟨_, rfl, by have := f.le; simp; omega, rdL_new⟩
      | inp w i =>
        rw [show (Nd.inp w i).dat = .tup [.str (Str.ofString "input"), .int w, .int (i : Int)] from rfl] at *
        walk_at "t"
        refine ⟨ty_at hr, ?_⟩
        walk_at "t"
        refine lc_map (List.range 6) n0 (fun k => .int (b2i (decide ((k : Int) = (i : Int))))) rfl (by simp [szl]) (fun _ => trivial) (fun k hk acc N hN => ?_) ?_
        · rw [n0_num]
          walk_at "t"
          exact hN
        · walk_at "t"
          refine add_at (rdL_app rdL_new) rdL_new (Nat.le_of_ble_eq_true rfl) ?_
          refine ap (((Grw.refl _).app.app).app) ?_
          rw [eF]
          refine ⟨_, rfl, by have := f.le; simp; omega, ?_⟩
          have e7 : (List.map (fun k : Nat => D.int (b2i (decide ((k : Int) = (i : Int))))) (List.range 6) ++ [D.int 0]) = (rowOf ⟨fun j => if j = i then 1 else 0, 0⟩).map D.int := by
            simp only [hot]
            rfl
          rw [← e7]
          exact rdL_new
      | one o w a => cases hlf
      | two o w a c => cases hlf
      | pick w c a b => cases hlf
    | false =>
      obtain ⟨s, ps, ed, el, ep⟩ := dat_leaf x
      have hnw : decide (nameOf x = Str.ofString "word") = false := by
        rw [name_word]
        cases x <;> first | rfl | cases hlf
      have hni : decide (nameOf x = Str.ofString "input") = false := by
        cases x with
        | word w v => cases hlf
        | inp w i => cases hlf
        | one o w a => exact (opS_w o).2.2
        | two o w a c => exact (opS_w o).2.2
        | pick w c a b => exact (opS_w .pick).2.2
      have hops : ∀ p ∈ Pd.parts x, Rows (st.length + 1) st' rows (linF ns) p := fun p hp => by
        have hpj := S.part_lt hx p hp
        obtain ⟨d, h1, h2⟩ := hrw p hpj
        exact ⟨d, h1, h2, fun l h => linF_in S (by omega) h⟩
      have hx0 : x.dat = .tup (.str (nameOf x) :: .int x.wd :: tailOf x) := dat_eq x
      rw [hx0]
      walk_at "t"
      refine ⟨name_ok _, by decide +kernel, wayF hnw ?_⟩
      walk_at "t"
      refine ⟨name_ok _, by decide +kernel, wayF hni ?_⟩
      walk_at "t"
      rw [← hx0]
      refine linear_one_ok (k := k) S G hlf (fun p hp => by have := S.part_lt hx p hp; omega) hops hr (fun p v hp h => linF_word S hp h) (fun d st2 hR g2 => ?_)
      rw [← eF] at hR
      walk_at "r"
      refine ⟨ty_at (g2.rd hr), ?_⟩
      walk_at "s"
      cases hfs : linF ns j with
      | none =>
        rw [hfs] at hR
        have hR : d = .non := hR
        subst hR
        refine wayT rfl ?_
        walk_at "s"
        exact ap g2 (by rw [hfs]; exact rfl)
      | some l =>
        rw [hfs] at hR
        obtain ⟨c, raw, rfl, hc, hlen, hm⟩ := hR
        refine wayF rfl ?_
        walk_at "s"
        refine it_at hc ?_
        refine lc_map raw D.int (fun z => .int (Builtin.bitAnd z (fullI x.wd))) rfl (by simp [szl]; omega) (fun acc => .inl (rdL_app hc)) (fun z hz acc N hN => ?_) ?_
        · rw [hx0]
          walk_at "t"
          have hw := S.wid j x.wd (by unfold Has; rw [List.getElem?_map, hx]; rfl)
          refine ⟨cpow_small (by omega) (by omega), ?_⟩
          walk_at "t"
          rw [full1 hw.1 hw.2]
          exact hN
        · refine ap (g2.app) ?_
          rw [hfs]
          refine ⟨_, rfl, by have := f.le; have := g2.le; omega, ?_⟩
          rw [← hm, List.map_map]
          exact rdL_new
  · subst e
    refine ⟨trivial, ?_⟩
    walk_at "r"
    exact q st' rows f hr hrl hrw
/-! inputs below 6 alone -/
theorem linF_supp {ns : List Nd} (S : Sheet ns) (sm : Small ns) : ∀ j, j < ns.length → ∀ l, linF ns j = some l → ∀ i, 6 ≤ i → l.f i = 0 := by
  intro j
  induction j using Nat.strongRecOn with
  | ind j ih =>
    intro hj l h i hi
    have hx := List.getElem?_eq_getElem hj
    rw [linF_eq S hx] at h
    have pr : ∀ p ∈ Pd.parts ns[j], ∀ l', linF ns p = some l' → l'.f i = 0 := fun p hp l' hl' => ih p (S.part_lt hx p hp) (by have := S.part_lt hx p hp; omega) l' hl' i hi
    have cz : ∀ {w t u : Int} {a b : Lf}, a.f i = 0 → b.f i = 0 → (comb w t a u b).f i = 0 := fun {w t u a b} ha hb => by
      show Builtin.bitAnd (t * a.f i + u * b.f i) (fullI w) = 0
      rw [ha, hb, Int.mul_zero, Int.mul_zero, Int.add_zero]
      exact mask_zero
    cases hy : ns[j] with
    | word w v => rw [hy] at h; cases h; rfl
    | inp w i' =>
      rw [hy] at h; cases h
      have := sm _ (List.mem_iff_getElem.mpr ⟨j, hj, rfl⟩) w i' hy
      show (if i = i' then (1 : Int) else 0) = 0
      rw [if_neg (by omega)]
    | one o w a =>
      rw [hy] at h pr
      have pa := pr a (by simp [Pd.parts])
      cases o <;> simp only [lin1, Option.map_eq_some_iff, reduceCtorEq] at h
      all_goals
        obtain ⟨l', h', rfl⟩ := h
        exact cz (pa l' h') rfl
    | two o w a b =>
      rw [hy] at h pr
      have pa := pr a (by simp [Pd.parts])
      have pb := pr b (by simp [Pd.parts])
      cases o <;> simp only [lin1, Option.map_eq_some_iff, Option.bind_eq_some_iff, reduceCtorEq] at h
      case add => obtain ⟨l', h', r', h'', rfl⟩ := h; exact cz (pa l' h') (pb r' h'')
      case sub => obtain ⟨l', h', r', h'', rfl⟩ := h; exact cz (pa l' h') (pb r' h'')
      case shl => obtain ⟨l', h', r', h'', rfl⟩ := h; exact cz (pa l' h') rfl
      case mul =>
        obtain ⟨l', h', r', h'', h⟩ := h
        split at h
        · cases h; exact cz (pa l' h') rfl
        · cases h; exact cz (pb r' h'') rfl
        · cases h
    | pick w c a b => rw [hy] at h; cases h
def nzs (l : Lf) : List Nat := (List.range 6).filter (nz l.f)
theorem nzs_eq {l : Lf} (h : ∀ i, 6 ≤ i → l.f i = 0) : (List.range 301).filter (nz l.f) = nzs l := by
  refine asc_ext (List.Pairwise.filter _ List.pairwise_lt_range) (List.Pairwise.filter _ List.pairwise_lt_range) fun a => ?_
  unfold nzs
  rw [List.mem_filter, List.mem_filter, List.mem_range, List.mem_range]
  constructor
  · rintro ⟨h1, h2⟩
    refine ⟨?_, h2⟩
    have h3 : l.f a ≠ 0 := of_decide_eq_true h2
    rcases Nat.lt_or_ge a 6 with h4 | h4
    · exact h4
    · exact absurd (h a h4) h3
  · rintro ⟨h1, h2⟩
    exact ⟨by omega, h2⟩
def told6 (o : Option Lf) : D := match o with
  | none => .non
  | some l => .tup [.tup ((nzs l).map fun j : Nat => .tup [.int (j : Int), .int (l.f j)]), .int l.c]
theorem told_eq {ns : List Nd} (S : Sheet ns) (sm : Small ns) {j : Nat} (hj : j < ns.length) : told (linF ns j) = told6 (linF ns j) := by
  cases h : linF ns j with
  | none => rfl
  | some l =>
    show D.tup _ = D.tup _
    rw [nzs_eq (linF_supp S sm j hj l h)]
theorem neI {i : Int} {st : Store} {r : Bool → Prop} (q : r false) : neC (.int i) (.int i) st r := ne_self (by simp [D.okd]) (by intro n h; cases h) q
theorem nzs_len (l : Lf) : (nzs l).length ≤ 6 := by
  have := List.length_filter_le (nz l.f) (List.range 6)
  rwa [List.length_range] at this
theorem same_ok {k b : Nat} {st : Store} {Q : K} {d : D} {o : Option Lf} (h : RowIs b st d o) (q : ∀ st', Grw st st' → Q (.bl true) st') : callN prog (k + 2) "_law_same" [told6 o, d] st Q := by
  refine call_intro rfl rfl ?_
  unfold b_l_same
  cases o with
  | none =>
    rw [show d = .non from h]
    walk_at "s"
    refine wayT rfl ?_
    walk_at "s"
    exact q _ (.refl _)
  | some l =>
    obtain ⟨c, rfl, hb, hr⟩ := h
    unfold told6
    walk_at "f"
    refine isInt_ok (prog := prog) rfl ?_
    walk_at "f"
    refine ix_ref hr (i := -1) (d := .int l.c) rfl ?_
    refine neI ?_
    walk_at "f"
    refine len_at hr ?_
    rw [show ((rowOf l).map D.int).length = 7 from rfl]
    walk_at "s"
    refine ⟨by decide, by decide, ?_⟩
    refine lc_filter (List.range 6) n0 (fun j : Nat => .tup [.int (j : Int), .int (l.f j)]) (nz l.f) rfl (by simp [szl]) (fun _ => trivial) (fun j hj acc N M hN hM => ?_) ?_
    · have hj6 := List.mem_range.mp hj
      have eg : (rowOf l).getD j 0 = l.f j := by
        obtain rfl | rfl | rfl | rfl | rfl | rfl : j = 0 ∨ j = 1 ∨ j = 2 ∨ j = 3 ∨ j = 4 ∨ j = 5 := by omega
        all_goals rfl
      have hjl : j < (rowOf l).length := by show j < 7; omega
      rw [n0_num]
      walk_at "s"
      refine ix_row (rdL_app hr) hjl ?_
      rw [eg]
      walk_at "s"
      refine ⟨fun e => ?_, fun e => ?_⟩
      · walk_at "s"
        refine ix_row (rdL_app hr) hjl ?_
        rw [eg]
        walk_at "s"
        refine ⟨Nat.le_of_ble_eq_true rfl, ?_⟩
        exact hN (by simpa [nz] using e)
      · exact hM (by simpa [nz] using e)
    · rw [show List.filter (nz l.f) (List.range 6) = nzs l from rfl]
      have hp2 := rdL_new (st := st) (xs := (nzs l).map fun j : Nat => .tup [.int (j : Int), .int (l.f j)])
      have g2 : Grw st (st ++ [C.lst ((nzs l).map fun j : Nat => .tup [.int (j : Int), .int (l.f j)])]) := .app (.refl _)
      generalize st ++ [C.lst ((nzs l).map fun j : Nat => .tup [.int (j : Int), .int (l.f j)])] = st2 at hp2 g2 ⊢
      have hnl := nzs_len l
      walk_at "f"
      rw [List.length_map]
      refine len_at hp2 ?_
      rw [List.length_map]
      refine neI ?_
      walk_at "f"
      refine len_at hp2 ?_
      rw [List.length_map]
      refine ⟨_, rfl, by omega, by omega, ?_⟩
      refine for_rng (fun i σ st' => st' = st2 ∧ ∃ o3 o4 o5, σ = [some (.tup [.tup ((nzs l).map fun j : Nat => .tup [.int (j : Int), .int (l.f j)]), .int l.c]), some (.ref c), some (.ref st.length), o3, o4, o5]) ⟨rfl, _, _, _, rfl⟩ (fun i σ st' hi ⟨es, o3, o4, o5, e⟩ N hN => ?_) (fun σ st' ⟨es, o3, o4, o5, e⟩ => ?_)
      · subst es; subst e
        refine ⟨trivial, ?_⟩
        have hi' : i < (nzs l).length := by omega
        have ea : ((nzs l).map fun j : Nat => D.tup [.int (j : Int), .int (l.f j)])[i]? = some (.tup [.int ((nzs l)[i] : Int), .int (l.f (nzs l)[i])]) := by rw [List.getElem?_map, List.getElem?_eq_getElem hi']; rfl
        rw [Int.zero_add]
        walk_at "f"
        refine at_is (atD_nat (by omega) (by rw [Int.toNat_natCast]; exact ea)) ?_
        walk_at "f"
        refine isInt_ok (prog := prog) rfl ?_
        walk_at "f"
        refine isInt_ok (prog := prog) rfl ?_
        walk_at "f"
        refine ix_ref hp2 (atD_nat (by omega) (by rw [Int.toNat_natCast]; exact ea)) ?_
        refine ne_self (by simp [D.okd, okds]) (by intro n h; cases h) ?_
        walk_at "f"
        exact hN _ _ ⟨rfl, _, _, _, rfl⟩
      · subst es; subst e
        refine ⟨trivial, ?_⟩
        walk_at "r"
        exact q _ g2
end Pk37
end PartPdk37P5

section PartPdk37P6
set_option Elab.async false
set_option linter.all false
set_option maxRecDepth 100000
set_option maxHeartbeats 1000000
namespace Pk37
open PySem Pd
local macro_rules | `(tactic| walk_at "s") => `(tactic| (repeat (refine Red.red ?_)))
local macro_rules | `(tactic| walk_at "r") => `(tactic| (repeat (first | refine Red.red ?_ | refine Nxt.mk ?_)))
local macro_rules | `(tactic| walk_at "t") => `(tactic| (repeat (first | refine Red.red ?_ | refine Nxt.mk ?_ | refine ⟨by decide +kernel, by decide +kernel, wayF (by decide +kernel) ?_⟩ | refine ⟨by decide +kernel, by decide +kernel, wayT (by decide +kernel) ?_⟩ | refine ⟨by decide +kernel, ?_⟩ | refine ⟨Nat.le_of_ble_eq_true rfl, ?_⟩ | refine at_is rfl ?_)))
local instance inTup6 {x : D} {xs : List D} {st : Store} {r : Bool → Prop} : Red (inC x (.tup xs) st r) (x.flat = true ∧ xs.all D.flat = true ∧ r (xs.any fun y => D.eqb y x)) := ⟨id⟩
local instance notinTup6 {x : D} {xs : List D} {st : Store} {r : Bool → Prop} : Red (notinC x (.tup xs) st r) (x.flat = true ∧ xs.all D.flat = true ∧ r (!(xs.any fun y => D.eqb y x))) := ⟨id⟩
local macro_rules | `(tactic| walk_at "f") => `(tactic| (repeat (first | refine Red.red ?_ | refine Nxt.mk ?_ | refine wayF rfl ?_ | refine at_is rfl ?_)))
/-! k37, sixth text: `_law_total`, and what forms mean. Own work. -/
def W (is : List Int) (j : Nat) : Int := is.getD j 0
def evalL (is : List Int) (l : Lf) : Int := l.f 0 * W is 0 + l.f 1 * W is 1 + l.f 2 * W is 2 + l.f 3 * W is 3 + l.f 4 * W is 4 + l.f 5 * W is 5 + l.c
theorem mk (x w : Int) : ∃ q, Builtin.bitAnd x (fullI w) = x - 2 ^ w.toNat * q := by
  unfold fullI
  rw [and_maskZ, Int.emod_def]
  exact ⟨_, rfl⟩
theorem mask_off {x y w q : Int} (h : x = y + 2 ^ w.toNat * q) : Builtin.bitAnd x (fullI w) = Builtin.bitAnd y (fullI w) := by
  unfold fullI
  rw [and_maskZ, and_maskZ, h, Int.add_mul_emod_self_left]
theorem eval_comb {is : List Int} {w t u : Int} {a b : Lf} : Builtin.bitAnd (evalL is (comb w t a u b)) (fullI w) = Builtin.bitAnd (t * evalL is a + u * evalL is b) (fullI w) := by
  obtain ⟨q0, h0⟩ := mk (t * a.f 0 + u * b.f 0) w
  obtain ⟨q1, h1⟩ := mk (t * a.f 1 + u * b.f 1) w
  obtain ⟨q2, h2⟩ := mk (t * a.f 2 + u * b.f 2) w
  obtain ⟨q3, h3⟩ := mk (t * a.f 3 + u * b.f 3) w
  obtain ⟨q4, h4⟩ := mk (t * a.f 4 + u * b.f 4) w
  obtain ⟨q5, h5⟩ := mk (t * a.f 5 + u * b.f 5) w
  obtain ⟨q6, h6⟩ := mk (t * a.c + u * b.c) w
  refine mask_off (q := -(q0 * W is 0 + q1 * W is 1 + q2 * W is 2 + q3 * W is 3 + q4 * W is 4 + q5 * W is 5 + q6)) ?_
  unfold evalL comb
  simp only [h0, h1, h2, h3, h4, h5, h6]
  generalize W is 0 = W0; generalize W is 1 = W1; generalize W is 2 = W2; generalize W is 3 = W3; generalize W is 4 = W4; generalize W is 5 = W5
  generalize a.f 0 = a0; generalize a.f 1 = a1; generalize a.f 2 = a2; generalize a.f 3 = a3; generalize a.f 4 = a4; generalize a.f 5 = a5
  generalize b.f 0 = b0; generalize b.f 1 = b1; generalize b.f 2 = b2; generalize b.f 3 = b3; generalize b.f 4 = b4; generalize b.f 5 = b5
  generalize a.c = ac; generalize b.c = bc; generalize (2 : Int) ^ w.toNat = m
  grind
theorem mask_comb {x y w t u : Int} : Builtin.bitAnd (t * x + u * y) (fullI w) = Builtin.bitAnd (t * Builtin.bitAnd x (fullI w) + u * Builtin.bitAnd y (fullI w)) (fullI w) := by
  obtain ⟨q0, h0⟩ := mk x w
  obtain ⟨q1, h1⟩ := mk y w
  refine mask_off (q := t * q0 + u * q1) ?_
  rw [h0, h1]
  generalize (2 : Int) ^ w.toNat = m
  grind
theorem shl_off {w l r : Int} (w0 : 1 ≤ w) (h : w ≤ r) : Builtin.bitAnd (l * 2 ^ r.toNat) (fullI w) = 0 := by
  unfold fullI
  rw [and_maskZ]
  obtain ⟨j, hj⟩ := Nat.exists_eq_add_of_le (show w.toNat ≤ r.toNat by omega)
  rw [hj, Int.pow_add, ← Int.mul_assoc, Int.mul_comm l, Int.mul_assoc]
  exact Int.mul_emod_right _ _
theorem vals_at {is : List Int} {ns : List Nd} (S : Sheet ns) {j : Nat} {x : Nd} (hx : ns[j]? = some x) : (vals is ns).getD j 0 = val is (vals is (ns.take j)) x := by
  have hj := (List.getElem?_eq_some_iff.mp hx).1
  have h1 := vals_take (is := is) hx
  have h2 := vals_pre is S (j + 1)
  rw [h1] at h2
  have h3 : ((vals is ns).take (j + 1))[j]? = (vals is ns)[j]? := List.getElem?_take_of_lt (by omega)
  have hl := vals_len is (S.take j)
  rw [List.length_take, Nat.min_eq_left (by omega)] at hl
  rw [List.getD_eq_getElem?_getD, ← h3, ← h2, List.getElem?_append_right (by omega), hl, Nat.sub_self]
  rfl
theorem vals_part {is : List Int} {ns : List Nd} (S : Sheet ns) {j p : Nat} (h : p < j) : (vals is (ns.take j)).getD p 0 = (vals is ns).getD p 0 := by
  rw [vals_pre is S, List.getD_eq_getElem?_getD, List.getElem?_take_of_lt h, ← List.getD_eq_getElem?_getD]
theorem sem {is : List Int} (hi : ∀ i ∈ is, 0 ≤ i) {ns : List Nd} (S : Sheet ns) (sm : Small ns) : ∀ j (hj : j < ns.length), ∀ l, linF ns j = some l → Builtin.bitAnd (evalL is l) (fullI (ns[j]).wd) = (vals is ns).getD j 0 := by
  intro j
  induction j using Nat.strongRecOn with
  | ind j ih =>
    intro hj l h
    have hx := List.getElem?_eq_getElem hj
    rw [linF_eq S hx] at h
    rw [vals_at S hx]
    obtain ⟨S', G⟩ := S.pre hx
    have fits := fits_all is hi S'
    have pv : ∀ p ∈ Pd.parts ns[j], p < j ∧ (vals is (ns.take j)).getD p 0 = (vals is ns).getD p 0 := fun p hp => ⟨S.part_lt hx p hp, vals_part S (S.part_lt hx p hp)⟩
    have gd : ∀ {a : Nat} {w : Int}, Has ((ns.take j).map Nd.wd) a w → 0 ≤ (vals is ns).getD a 0 ∧ (vals is ns).getD a 0 ≤ fullI w ∧ ∀ l, linF ns a = some l → Builtin.bitAnd (evalL is l) (fullI w) = (vals is ns).getD a 0 := by
      intro a w ha
      obtain ⟨v, e, h0, h1⟩ := fits a w ha
      have hal := Has.lt ha
      rw [List.length_map, List.length_take] at hal
      have haj : a < j := by omega
      have e2 := vals_part (is := is) S haj
      rw [List.getD_eq_getElem?_getD, e] at e2
      have e2 : v = (vals is ns).getD a 0 := e2
      refine ⟨by omega, by omega, fun l hl => ?_⟩
      have := ih a haj (by omega) l hl
      have ew : (ns[a]'(by omega)).wd = w := by
        unfold Has at ha
        rw [List.getElem?_map, List.getElem?_take_of_lt haj, List.getElem?_eq_getElem (by omega)] at ha
        simpa using ha
      rw [ew] at this
      exact this
    cases hy : ns[j] with
    | word w v =>
      rw [hy] at h G; cases h
      show Builtin.bitAnd (0 * W is 0 + 0 * W is 1 + 0 * W is 2 + 0 * W is 3 + 0 * W is 4 + 0 * W is 5 + v) (fullI w) = v
      simp only [Int.zero_mul, Int.zero_add]
      exact mask_in G.2.2.1 G.2.2.2
    | inp w i =>
      rw [hy] at h; cases h
      have h6 := sm _ (List.mem_iff_getElem.mpr ⟨j, hj, rfl⟩) w i hy
      have e1 : evalL is ⟨fun j => if j = i then 1 else 0, 0⟩ = W is i := by
        unfold evalL
        obtain rfl | rfl | rfl | rfl | rfl | rfl : i = 0 ∨ i = 1 ∨ i = 2 ∨ i = 3 ∨ i = 4 ∨ i = 5 := by omega
        all_goals simp
      rw [e1]
      show _ = if i < is.length then Builtin.bitAnd (is.getD i 0) (fullI w) else 0
      split
      · rfl
      · rename_i hn
        unfold W
        rw [List.getD_eq_getElem?_getD, List.getElem?_eq_none (by omega)]
        exact mask_zero
    | one o w a =>
      rw [hy] at h G pv
      obtain ⟨w0, w1, ho, u, ha, hu⟩ := G
      obtain ⟨g0, g1, g2⟩ := gd ha
      have e1 := (pv a (by simp [Pd.parts])).2
      cases o <;> simp only [lin1, Option.map_eq_some_iff, reduceCtorEq] at h
      case neg =>
        obtain ⟨l', h', rfl⟩ := h
        have hu := hu (by intro h; cases h)
        subst hu
        show Builtin.bitAnd _ (fullI u) = Builtin.bitAnd (-(vals is (ns.take j)).getD a 0) (fullI u)
        rw [eval_comb, mask_comb, g2 l' h', e1]
        congr 1
        omega
      case not =>
        obtain ⟨l', h', rfl⟩ := h
        have hu := hu (by intro h; cases h)
        subst hu
        show Builtin.bitAnd _ (fullI u) = fullI u - (vals is (ns.take j)).getD a 0
        have e2 : evalL is oL = 1 := by unfold evalL oL; simp
        have h1 := mask_comb (x := evalL is l') (y := 1) (w := u) (t := -1) (u := -1)
        have h2 := mask_comb (x := (vals is ns).getD a 0) (y := 1) (w := u) (t := -1) (u := -1)
        rw [mask_in g0 g1] at h2
        rw [e1, ← not_mask g0 g1, eval_comb, e2, h1, g2 l' h', ← h2]
        congr 1
        omega
    | two o w a b =>
      rw [hy] at h G pv
      obtain ⟨w0, w1, ho, u, v, ha, hb, k1, k2, k3⟩ := G
      obtain ⟨g0, g1, g2⟩ := gd ha
      obtain ⟨m0, m1, m2⟩ := gd hb
      have pa := pv a (by simp [Pd.parts])
      have pb := pv b (by simp [Pd.parts])
      have e1 := pa.2
      have e2 := pb.2
      have wv : ∀ p z, p < j → wordOf ns p = some z → (vals is ns).getD p 0 = z := fun p z hp hz => by
        have hpx := List.getElem?_eq_getElem (show p < ns.length by omega)
        rw [vals_at S hpx]
        rw [wordOf_at (by omega)] at hz
        cases hq : ns[p] with
        | word w' z' => rw [hq] at hz; cases hz; rfl
        | inp w' i => rw [hq] at hz; cases hz
        | one o' w' a' => rw [hq] at hz; cases hz
        | two o' w' a' c' => rw [hq] at hz; cases hz
        | pick w' c' a' d' => rw [hq] at hz; cases hz
      have z0 : evalL is zL = 0 := by unfold evalL zL; simp
      cases o <;> simp only [lin1, Option.map_eq_some_iff, Option.bind_eq_some_iff, reduceCtorEq] at h
      case add =>
        obtain ⟨l', h', r', h'', rfl⟩ := h
        have hu := k2 rfl
        have hv := k3 rfl rfl
        subst hu; subst hv
        show Builtin.bitAnd _ (fullI v) = Builtin.bitAnd ((vals is (ns.take j)).getD a 0 + (vals is (ns.take j)).getD b 0) (fullI v)
        rw [eval_comb, mask_comb, g2 l' h', m2 r' h'', e1, e2]
        congr 1
        omega
      case sub =>
        obtain ⟨l', h', r', h'', rfl⟩ := h
        have hu := k2 rfl
        have hv := k3 rfl rfl
        subst hu; subst hv
        show Builtin.bitAnd _ (fullI v) = Builtin.bitAnd ((vals is (ns.take j)).getD a 0 - (vals is (ns.take j)).getD b 0) (fullI v)
        rw [eval_comb, mask_comb, g2 l' h', m2 r' h'', e1, e2]
        congr 1
        omega
      case shl =>
        obtain ⟨l', h', z, h'', rfl⟩ := h
        have hu := k2 rfl
        subst hu
        have hz := wv b z pb.1 h''
        have hz2 := word_in S h''
        have e3 : v2 .shl u ((vals is (ns.take j)).getD a 0) ((vals is (ns.take j)).getD b 0) = Builtin.bitAnd ((vals is ns).getD a 0 * 2 ^ z.toNat) (fullI u) := by
          rw [e1, e2, hz]
          show (if u ≤ z then _ else _) = _
          split
          · rename_i hh; rw [shl_off w0 hh]
          · rfl
        show Builtin.bitAnd _ (fullI u) = v2 .shl u _ _
        rw [e3, eval_comb, z0, mask_comb, g2 l' h']
        congr 1
        rw [Int.one_mul, Int.zero_mul, Int.add_zero, Int.mul_comm]
      case mul =>
        obtain ⟨l', h', r', h'', h⟩ := h
        have hu := k2 rfl
        have hv := k3 rfl rfl
        subst hu; subst hv
        show _ = Builtin.bitAnd ((vals is (ns.take j)).getD a 0 * (vals is (ns.take j)).getD b 0) (fullI v)
        rw [e1, e2]
        split at h
        · rename_i z hz
          cases h
          have hz2 := wv b z pb.1 hz
          show Builtin.bitAnd _ (fullI v) = _
          rw [eval_comb, z0, mask_comb, g2 l' h', hz2]
          congr 1
          rw [Int.zero_mul, Int.add_zero, Int.mul_comm]
        · rename_i z hn hz
          cases h
          have hz2 := wv a z pa.1 hz
          show Builtin.bitAnd _ (fullI v) = _
          rw [eval_comb, z0, mask_comb, m2 r' h'', hz2]
          congr 1
          rw [Int.zero_mul, Int.add_zero]
        · cases h
    | pick w c a b => rw [hy] at h; cases h
def term (is : List Int) (l : Lf) (j : Nat) : Int := l.f j * W is j
theorem sum_filter (g : Nat → Int) (p : Nat → Bool) (h : ∀ j, p j = false → g j = 0) : ∀ xs : List Nat, ((xs.filter p).map g).sum = (xs.map g).sum
  | [] => rfl
  | x :: xs => by
    rw [List.filter_cons]
    cases hp : p x with
    | true =>
      rw [if_pos rfl, List.map_cons, List.map_cons, List.sum_cons, List.sum_cons, sum_filter g p h xs]
    | false =>
      rw [if_neg (by simp), List.map_cons, List.sum_cons, sum_filter g p h xs, h x hp, Int.zero_add]
theorem sum_eval (is : List Int) (l : Lf) : l.c + ((nzs l).map (term is l)).sum = evalL is l := by
  unfold nzs
  rw [sum_filter (term is l) (nz l.f) (fun j hj => by
    have h0 : l.f j = 0 := Classical.byContradiction fun hne => by
      have : nz l.f j = true := decide_eq_true hne
      rw [this] at hj; cases hj
    unfold term; rw [h0, Int.zero_mul])]
  show l.c + (List.map (term is l) [0, 1, 2, 3, 4, 5]).sum = _
  simp only [List.map_cons, List.map_nil, List.sum_cons, List.sum_nil, term, evalL]
  omega
theorem total_ok {k : Nat} {st : Store} {Q : K} {is : List Int} {l : Lf} {w : Int} (hi : ∀ i ∈ is, 0 ≤ i ∧ i ≤ 255) (w0 : 1 ≤ w) (w1 : w ≤ 8) (q : Q (.int (Builtin.bitAnd (evalL is l) (fullI w))) st) : callN prog (k + 1) "_law_total" [told6 (some l), .tup (is.map D.int), .int w] st Q := by
  refine call_intro rfl rfl ?_
  unfold b_l_total told6
  have hW : ∀ j, 0 ≤ W is j ∧ W is j ≤ 255 := fun j => by
    unfold W
    rw [List.getD_eq_getElem?_getD]
    cases hj : is[j]? with
    | none => exact ⟨Int.le_refl 0, show (0 : Int) ≤ 255 by decide⟩
    | some z => exact hi z (List.mem_of_getElem? hj)
  walk_at "f"
  refine for_map (nzs l) (fun j : Nat => .tup [.int (j : Int), .int (l.f j)]) rfl (fun i σ st' => st' = st ∧ ∃ o4 o5, σ = [some (.tup [.tup ((nzs l).map fun j : Nat => .tup [.int (j : Int), .int (l.f j)]), .int l.c]), some (.tup (is.map D.int)), some (.int w), some (.int (l.c + (((nzs l).take i).map (term is l)).sum)), o4, o5]) ⟨rfl, none, none, by simp⟩ (fun i j σ st' hj ⟨es, o4, o5, e⟩ N hN => ?_) (fun σ st' ⟨es, o4, o5, e⟩ => ?_)
  · subst es; subst e
    refine ⟨trivial, ?_⟩
    walk_at "s"
    refine ⟨rfl, ?_⟩
    walk_at "s"
    rw [List.length_map]
    have fin : ∀ z, z = W is j → cMul (l.f j) z ∧ N [some (.tup [.tup ((nzs l).map fun j : Nat => .tup [.int (j : Int), .int (l.f j)]), .int l.c]), some (.tup (is.map D.int)), some (.int w), some (.int (l.c + (((nzs l).take i).map (term is l)).sum + l.f j * z)), some (.int (j : Int)), some (.int (l.f j))] st' := by
      intro z ez
      subst ez
      have es : l.c + (((nzs l).take (i + 1)).map (term is l)).sum = l.c + (((nzs l).take i).map (term is l)).sum + l.f j * W is j := by
        rw [List.take_add_one, hj, List.map_append, List.sum_append, show (List.map (term is l) (some j).toList).sum = l.f j * W is j by simp [term], ← Int.add_assoc]
      exact ⟨cmul_small (hW j).1 (by have := (hW j).2; omega), hN _ _ ⟨rfl, some (.int (j : Int)), some (.int (l.f j)), by rw [es]⟩⟩
    refine way (fun hh => ?_) (fun hh => ?_)
    · have h' : j < is.length := by have := of_decide_eq_true hh; omega
      walk_at "s"
      refine at_is (at_int h') ?_
      obtain ⟨f1, f2⟩ := fin (is.getD j 0) rfl
      exact ⟨f1, f2⟩
    · have h' : ¬ j < is.length := by have := of_decide_eq_false hh; omega
      walk_at "s"
      obtain ⟨f1, f2⟩ := fin 0 (by unfold W; rw [List.getD_eq_getElem?_getD, List.getElem?_eq_none (by omega)]; rfl)
      exact ⟨f1, f2⟩
  · subst es; subst e
    refine ⟨trivial, ?_⟩
    walk_at "r"
    refine ⟨cpow_small (by omega) (by omega), ?_⟩
    walk_at "r"
    rw [full1 w0 w1, List.take_length, sum_eval]
    exact q
end Pk37
end PartPdk37P6

section PartPdk37P7
set_option Elab.async false
set_option linter.all false
set_option maxRecDepth 100000
set_option maxHeartbeats 1000000
namespace Pk37
open PySem Pd
local macro_rules | `(tactic| walk_at "s") => `(tactic| (repeat (refine Red.red ?_)))
local macro_rules | `(tactic| walk_at "r") => `(tactic| (repeat (first | refine Red.red ?_ | refine Nxt.mk ?_)))
local macro_rules | `(tactic| walk_at "t") => `(tactic| (repeat (first | refine Red.red ?_ | refine Nxt.mk ?_ | refine ⟨by decide +kernel, by decide +kernel, wayF (by decide +kernel) ?_⟩ | refine ⟨by decide +kernel, by decide +kernel, wayT (by decide +kernel) ?_⟩ | refine ⟨by decide +kernel, ?_⟩ | refine ⟨Nat.le_of_ble_eq_true rfl, ?_⟩ | refine at_is rfl ?_)))
local instance inTup7 {x : D} {xs : List D} {st : Store} {r : Bool → Prop} : Red (inC x (.tup xs) st r) (x.flat = true ∧ xs.all D.flat = true ∧ r (xs.any fun y => D.eqb y x)) := ⟨id⟩
local instance notinTup7 {x : D} {xs : List D} {st : Store} {r : Bool → Prop} : Red (notinC x (.tup xs) st r) (x.flat = true ∧ xs.all D.flat = true ∧ r (!(xs.any fun y => D.eqb y x))) := ⟨id⟩
local macro_rules | `(tactic| walk_at "f") => `(tactic| (repeat (first | refine Red.red ?_ | refine Nxt.mk ?_ | refine wayF rfl ?_ | refine at_is rfl ?_)))
/-! k37, seventh text: the law. Own work. -/
/-- a comprehension over two items -/
theorem lc_pair {gd : Store → Prop} {g : TG} {te : TE} {ρ : Pd.Env} {st : Store} {Q : K} {x y : D} {P1 P2 : D → Store → Prop}
    (hg : ∀ st', (∀ m, m < st.length → st'[m]? = st[m]?) → gd st')
    (h1 : ∀ st', Grw st st' → st.length < st'.length → ∀ N : D → Store → Prop, (∀ d st'', Grw st' st'' → P1 d st'' → N d st'') → g x ρ st' fun ρ2 st2 => te ρ2 st2 N)
    (h2 : ∀ st', Grw st st' → st.length < st'.length → ∀ N : D → Store → Prop, (∀ d st'', Grw st' st'' → P2 d st'' → N d st'') → g y ρ st' fun ρ2 st2 => te ρ2 st2 N)
    (s1 : ∀ d st' c, P1 d st' → P1 d (st'.set st.length c)) (s1' : ∀ d st' st'', P1 d st' → Grw st' st'' → P1 d st'') (s2 : ∀ d st' c, P2 d st' → P2 d (st'.set st.length c))
    (q : ∀ d1 d2 st', Grw st st' → rdL st' st.length [d1, d2] → P1 d1 st' → P2 d2 st' → Q (.ref st.length) st') : lcLoop gd g tYes te ρ st.length Q [x, y] [] (st ++ [.lst []]) := by
  have yes : ∀ (u : Pd.D) (st' : Store) (N : D → Store → Prop) (M : Store → Prop), g u ρ st' (fun ρ2 st2 => te ρ2 st2 N) → g u ρ st' fun ρ2 st2 => tYes ρ2 st2 fun b st3 => (b = true → te ρ2 st3 N) ∧ (b = false → M st3) := by
    intro u st' N M h
    have e1 : (fun (ρ2 : Pd.Env) (st2 : Store) => tYes ρ2 st2 fun b st3 => (b = true → te ρ2 st3 N) ∧ (b = false → M st3)) = fun ρ2 st2 => te ρ2 st2 N := by
      funext ρ2 st2
      exact propext ⟨fun q => q.1 rfl, fun q => ⟨fun _ => q, fun e => nomatch e⟩⟩
    rw [e1]; exact h
  have f0 : FraG st.length st (st ++ [C.lst []]) := FraG.new
  refine ⟨hg _ f0.at', yes _ _ _ _ (h1 _ f0.grw (by simp) _ fun d1 st1 g1 p1 => ?_)⟩
  have f1 := f0.more g1
  have r1 := g1.rd (rdL_new (st := st) (xs := []))
  refine ⟨r1, by simp [szl], ?_⟩
  have f2 := f1.setG (c := C.lst ([] ++ [d1]))
  have l2 := rdL_lt r1
  refine ⟨hg _ f2.at', yes _ _ _ _ (h2 _ f2.grw (by rw [List.length_set]; exact l2) _ fun d2 st2 g2 p2 => ?_)⟩
  have r2 := g2.rd (rdL_set (ys := [] ++ [d1]) r1)
  refine ⟨r2, by simp [szl], ?_⟩
  have f3 := (f2.more g2).setG (c := C.lst ([] ++ [d1] ++ [d2]))
  have r3 := rdL_set (ys := [] ++ [d1] ++ [d2]) r2
  exact ⟨hg _ f3.at', r3, q d1 d2 _ f3.grw r3 (s1 _ _ _ (s1' _ _ _ (s1 _ _ _ p1) g2)) (s2 _ _ _ p2)⟩
theorem RowIs.weak {b b' : Nat} {st : Store} {d : D} {o : Option Lf} (h : RowIs b st d o) (hb : b' ≤ b) : RowIs b' st d o := by
  cases o with
  | none => exact h
  | some l => obtain ⟨c, e, h1, h2⟩ := h; exact ⟨c, e, by omega, h2⟩
def PL (b : Nat) (ns : List Nd) (d : D) (st : Store) : Prop := ∃ a rows, d = .ref a ∧ b ≤ a ∧ rdL st a rows ∧ ∀ i, i < ns.length → ∃ e, rows[i]? = some e ∧ RowIs b st e (linF ns i)
def PV (b : Nat) (is : List Int) (ns : List Nd) (d : D) (st : Store) : Prop := ∃ a, d = .ref a ∧ b ≤ a ∧ rdL st a ((vals is ns).map D.int)
theorem PL.grw {b : Nat} {ns : List Nd} {d : D} {st st' : Store} (h : PL b ns d st) (g : Grw st st') : PL b ns d st' := by
  obtain ⟨a, rows, e, hb, hr, hw⟩ := h
  exact ⟨a, rows, e, hb, g.rd hr, fun i hi => by obtain ⟨x, h1, h2⟩ := hw i hi; exact ⟨x, h1, h2.grw g⟩⟩
theorem PL.set {b p : Nat} {ns : List Nd} {d : D} {st : Store} {c : C} (h : PL b ns d st) (hp : p < b) : PL b ns d (st.set p c) := by
  obtain ⟨a, rows, e, hb, hr, hw⟩ := h
  exact ⟨a, rows, e, hb, rdL_ne hr (by omega), fun i hi => by obtain ⟨x, h1, h2⟩ := hw i hi; exact ⟨x, h1, h2.set hp⟩⟩
theorem PV.grw {b : Nat} {is : List Int} {ns : List Nd} {d : D} {st st' : Store} (h : PV b is ns d st) (g : Grw st st') : PV b is ns d st' := by
  obtain ⟨a, e, hb, hr⟩ := h
  exact ⟨a, e, hb, g.rd hr⟩
theorem PV.set {b p : Nat} {is : List Int} {ns : List Nd} {d : D} {st : Store} {c : C} (h : PV b is ns d st) (hp : p < b) : PV b is ns d (st.set p c) := by
  obtain ⟨a, e, hb, hr⟩ := h
  exact ⟨a, e, hb, rdL_ne hr (by omega)⟩
structure Okn (ns : List Nd) : Prop where
  S : Sheet ns
  sm : Small ns
  pos : 0 < ns.length
  ln : ns.length ≤ 40
theorem at2 {a b : D} {i : Nat} (hi : i < 2) : atD [a, b] (0 + (i : Int)) = some (if i = 0 then a else b) := by
  obtain rfl | rfl : i = 0 ∨ i = 1 := by omega
  · rfl
  · rfl
theorem law_holds (ns : List Int) (hl : ns.length ≤ 63) (hb : ∀ z ∈ ns, PySem.Builtin.Int.intBits z ≤ 1048576) : callN prog 61 "law" [.ref 0] [.frz (ns.map D.int)] (fun d _ => d = .bl true) := by
  refine call_intro rfl rfl ?_
  unfold b_l_law
  walk_at "s"
  refine begin_ok rfl hl fun st1 hd1 hl1 => ?_
  walk_at "r"
  refine sheet_ok (by omega) hd1 (fun n0 st2 S0 m0 p0 l0 f2 => ?_)
  walk_at "r"
  refine sheet_ok (by omega) f2.dr (fun n1 st3 S1 m1 p1 l1 f3 => ?_)
  walk_at "r"
  refine ⟨Nat.le_of_ble_eq_true rfl, ?_⟩
  walk_at "r"
  have ok0 : Okn n0 := ⟨S0, m0, p0, l0⟩
  have ok1 : Okn n1 := ⟨S1, m1, p1, l1⟩
  have hs := rdL_new (st := st3) (xs := [.tup (n0.map Nd.dat), .tup (n1.map Nd.dat)])
  have d4 := f3.dr.app (c := C.lst [.tup (n0.map Nd.dat), .tup (n1.map Nd.dat)])
  have l3 := f3.dr.lt
  generalize st3.length = cs at hs l3 ⊢
  generalize st3 ++ [C.lst [.tup (n0.map Nd.dat), .tup (n1.map Nd.dat)]] = st4 at hs d4 ⊢
  clear f2 f3
  refine drawM (by omega) d4 (by omega) (by omega) (fun r st5 r0 r1 f5 => ?_)
  walk_at "r"
  refine ⟨by omega, by omega, ?_⟩
  refine lc_ints (fun i => 0 ≤ i ∧ i ≤ 255) f5.dr (by simp [rng, szl]; omega) (fun _ _ => trivial) (fun x hx st6 f6 N hN => ?_) (fun is st6 hil hi f6 h6 => ?_)
  · obtain ⟨z, rfl⟩ : ∃ z : Int, x = .int z := by
      unfold rng at hx
      obtain ⟨z, _, rfl⟩ := List.mem_map.mp hx
      exact ⟨_, rfl⟩
    walk_at "s"
    refine drawM (by omega) f6.dr (by omega) (by omega) (fun v st7 v0 v1 f7 => ?_)
    exact hN _ _ ⟨v0, by omega⟩ f7
  walk_at "r"
  refine tuple_at h6 ?_
  have hs6 := (f5.trans f6).rd hs (by omega)
  clear f5 h6 d4 hs f6
  walk_at "r"
  refine it_at hs6 ?_
  refine lc_pair (P1 := PL (st6.length + 1) n0) (P2 := PL (st6.length + 1) n1) (fun st' h => .inl (by have := rdL_lt hs6; show st'[cs]? = _; rw [h cs this]; exact hs6)) (fun st' g hlt N hN => ?_) (fun st' g hlt N hN => ?_) (fun d st' c h => h.set (by omega)) (fun d st' st'' h g => h.grw g) (fun d st' c h => h.set (by omega)) (fun d0 d1 st7 g7 hD pl0 pl1 => ?_)
  · walk_at "s"
    refine linear_ok S0 (by omega) (fun st8 rows f8 h1 h2 h3 => hN _ _ f8.grw ⟨_, rows, rfl, by omega, h1, fun i hi => ?_⟩)
    obtain ⟨e, h4, h5⟩ := h3 i hi
    exact ⟨e, h4, h5.weak (by omega)⟩
  · walk_at "s"
    refine linear_ok S1 (by omega) (fun st8 rows f8 h1 h2 h3 => hN _ _ f8.grw ⟨_, rows, rfl, by omega, h1, fun i hi => ?_⟩)
    obtain ⟨e, h4, h5⟩ := h3 i hi
    exact ⟨e, h4, h5.weak (by omega)⟩
  have hs7 := g7.rd hs6
  generalize st6.length = cd at hD pl0 pl1 ⊢
  clear g7 hs6
  walk_at "r"
  refine it_at hs7 ?_
  refine lc_pair (P1 := PV (st7.length + 1) is n0) (P2 := PV (st7.length + 1) is n1) (fun st' h => .inl (by have := rdL_lt hs7; show st'[cs]? = _; rw [h cs this]; exact hs7)) (fun st' g hlt N hN => ?_) (fun st' g hlt N hN => ?_) (fun d st' c h => h.set (by omega)) (fun d st' st'' h g => h.grw g) (fun d st' c h => h.set (by omega)) (fun e0 e1 st8 g8 hV pv0 pv1 => ?_)
  · walk_at "s"
    exact valuesL_ok (by omega) S0 (fun i h => (hi i h).1) (by omega) (fun st8 f8 h1 => hN _ _ f8.grw ⟨_, rfl, by omega, h1⟩)
  · walk_at "s"
    exact valuesL_ok (by omega) S1 (fun i h => (hi i h).1) (by omega) (fun st8 f8 h1 => hN _ _ f8.grw ⟨_, rfl, by omega, h1⟩)
  have hs8 := g8.rd hs7
  have hD8 := g8.rd hD
  have pl0 := pl0.grw g8
  have pl1 := pl1.grw g8
  generalize st7.length = cv at hV pv0 pv1 ⊢
  clear g8 hs7 hD
  walk_at "r"
  refine it_at hs8 ?_
  refine lc_pair (P1 := fun d _ => d = .int n0.length) (P2 := fun d _ => d = .int n1.length) (fun st' h => .inl (by have := rdL_lt hs8; show st'[cs]? = _; rw [h cs this]; exact hs8)) (fun st' g hlt N hN => ?_) (fun st' g hlt N hN => ?_) (fun d st' c h => h) (fun d st' st'' h g => h) (fun d st' c h => h) (fun a0 a1 st9 g9 hM ea0 ea1 => ?_)
  · walk_at "s"
    rw [List.length_map]
    exact hN _ _ (.refl _) rfl
  · walk_at "s"
    rw [List.length_map]
    exact hN _ _ (.refl _) rfl
  subst ea0; subst ea1
  walk_at "r"
  refine ⟨[(n0.length : Int), (n1.length : Int)], .inl hM, by simp, fun m hm hmax => ?_⟩
  have hs9 := g9.rd hs8
  have hD9 := g9.rd hD8
  have hV9 := g9.rd hV
  have pl0 := pl0.grw g9
  have pl1 := pl1.grw g9
  have pv0 := pv0.grw g9
  have pv1 := pv1.grw g9
  have hm2 : 0 < m ∧ m ≤ 40 := by
    simp only [List.mem_cons, List.not_mem_nil, or_false] at hm
    rcases hm with rfl | rfl <;> omega
  clear g9 hs8 hD8 hV hM
  walk_at "r"
  refine ⟨⟨by omega, by omega, by omega, by omega, by omega⟩, ?_⟩
  walk_at "r"
  have hmx : -1 ≤ (if m - 6 > -1 then m - 6 else -1) ∧ (if m - 6 > -1 then m - 6 else -1) ≤ 40 := by split <;> omega
  refine ⟨⟨by omega, by omega, by omega, by omega, by simp only [szl]; omega⟩, ?_⟩
  refine add_at (rdL_app rdL_new) rdL_new (by simp [rng, rngD, szl]; omega) ?_
  walk_at "s"
  have hit : ∀ x ∈ rng 0 (m - 0).toNat ++ rngD (m - 1) (m - 1 - (if m - 6 > -1 then m - 6 else -1)).toNat, ∃ t : Nat, x = .int t := by
    intro x hx
    rcases List.mem_append.mp hx with hx | hx
    · unfold rng at hx
      obtain ⟨t, _, rfl⟩ := List.mem_map.mp hx
      exact ⟨t, by rw [Int.zero_add]⟩
    · unfold rngD at hx
      obtain ⟨t, ht, rfl⟩ := List.mem_map.mp hx
      have ht := List.mem_range.mp ht
      exact ⟨(m - 1 - t).toNat, by congr 1; omega⟩
  have hs10 := rdL_app (c := C.lst (rng 0 (m - 0).toNat ++ rngD (m - 1) (m - 1 - (if m - 6 > -1 then m - 6 else -1)).toNat)) (rdL_app (c := C.lst (rngD (m - 1) (m - 1 - (if m - 6 > -1 then m - 6 else -1)).toNat)) (rdL_app (c := C.lst (rng 0 (m - 0).toNat)) hs9))
  have hg : Grw st9 (st9 ++ [C.lst (rng 0 (m - 0).toNat)] ++ [C.lst (rngD (m - 1) (m - 1 - (if m - 6 > -1 then m - 6 else -1)).toNat)] ++ [C.lst (rng 0 (m - 0).toNat ++ rngD (m - 1) (m - 1 - (if m - 6 > -1 then m - 6 else -1)).toNat)]) := (((Grw.refl st9).app).app).app
  refine it_at rdL_new ?_
  have hI := rdL_new (st := st9 ++ [C.lst (rng 0 (m - 0).toNat)] ++ [C.lst (rngD (m - 1) (m - 1 - (if m - 6 > -1 then m - 6 else -1)).toNat)]) (xs := rng 0 (m - 0).toNat ++ rngD (m - 1) (m - 1 - (if m - 6 > -1 then m - 6 else -1)).toNat)
  generalize (st9 ++ [C.lst (rng 0 (m - 0).toNat)] ++ [C.lst (rngD (m - 1) (m - 1 - (if m - 6 > -1 then m - 6 else -1)).toNat)]).length = ci at hI ⊢
  generalize st9 ++ [C.lst (rng 0 (m - 0).toNat)] ++ [C.lst (rngD (m - 1) (m - 1 - (if m - 6 > -1 then m - 6 else -1)).toNat)] ++ [C.lst (rng 0 (m - 0).toNat ++ rngD (m - 1) (m - 1 - (if m - 6 > -1 then m - 6 else -1)).toNat)] = st10 at hI hg hs10 ⊢
  generalize rng 0 (m - 0).toNat ++ rngD (m - 1) (m - 1 - (if m - 6 > -1 then m - 6 else -1)).toNat = items at hit hI ⊢
  have hD10 := hg.rd hD9
  have hV10 := hg.rd hV9
  have pl0 := pl0.grw hg
  have pl1 := pl1.grw hg
  have pv0 := pv0.grw hg
  have pv1 := pv1.grw hg
  refine for_by (fun pre σ st' => ∃ o7 o8 o9 o10, σ = [some (.ref 0), some (.ref 2), some (.ref cs), some (.tup (is.map D.int)), some (.ref cd), some (.ref cv), some (.int m), o7, o8, o9, o10] ∧ Grw st10 st') ⟨_, _, _, _, rfl, .refl _⟩ (fun pre x post σ st' ei ⟨o7, o8, o9, o10, e, g⟩ N hN => ?_) (fun σ st' ⟨o7, o8, o9, o10, e, g⟩ => ?_)
  · subst e
    refine ⟨.inl (g.rd hI), ?_⟩
    have ei : items = pre ++ x :: post := ei
    obtain ⟨t, rfl⟩ := hit x (by rw [ei]; simp)
    walk_at "r"
    refine ⟨by decide, by decide, ?_⟩
    refine for_rng (fun j σ st' => ∃ o8 o9 o10, σ = [some (.ref 0), some (.ref 2), some (.ref cs), some (.tup (is.map D.int)), some (.ref cd), some (.ref cv), some (.int m), some (.int (t : Int)), o8, o9, o10] ∧ Grw st10 st') ⟨_, _, _, rfl, g⟩ (fun j σ st' hj ⟨o8, o9, o10, e, g⟩ N' hN' => ?_) (fun σ st' ⟨o8, o9, o10, e, g⟩ => ?_)
    · subst e
      refine ⟨trivial, ?_⟩
      have hj2 : j < 2 := hj
      have main : ∀ (nn : List Nd) (dd ee : D), Okn nn → PL (cd + 1) nn dd st10 → PV (cv + 1) is nn ee st10 → atD [D.tup (n0.map Nd.dat), .tup (n1.map Nd.dat)] (0 + (j : Int)) = some (.tup (nn.map Nd.dat)) → atD [d0, d1] (0 + (j : Int)) = some dd → atD [e0, e1] (0 + (j : Int)) = some ee →
          (sIf (tTru (dCmp ltC (dVar 7) (dB lenB (aCons (dOp ixK (dVar 2) (dVar 8)) (aNil))))) (sSeq (sAsg (dCall (callN prog 60) "form_of" (aCons (dOp ixK (dVar 2) (dVar 8)) (aCons (dVar 7) (aNil)))) (gName 9)) (sSeq (sIf (tNot (tTru (dCall (callN prog 60) "_law_same" (aCons (dVar 9) (aCons (dOp ixK (dOp ixK (dVar 4) (dVar 8)) (dVar 7)) (aNil)))))) (sRet (dC (.bl false))) (sNext)) (sIf (tAnd (tTru (dCmp isntC (dVar 9) (dC .non))) (tTru (dCmp neC (dCall (callN prog 60) "_law_total" (aCons (dVar 9) (aCons (dVar 3) (aCons (dOp ixK (dOp ixK (dOp ixK (dVar 2) (dVar 8)) (dVar 7)) (dC (.int 1))) (aNil))))) (dOp ixK (dOp ixK (dVar 5) (dVar 8)) (dVar 7))))) (sRet (dC (.bl false))) (sNext)))) (sNext)) { nx := N', rt := fun d _ => d = .bl true, bk := N, ct := N' } [some (.ref 0), some (.ref 2), some (.ref cs), some (.tup (is.map D.int)), some (.ref cd), some (.ref cv), some (.int m), some (.int (t : Int)), some (.int (0 + (j : Int))), o9, o10] st' := by
        intro nn dd ee ok pl pv at1 at2' at3
        obtain ⟨a, rows, rfl, _, hra, hrw⟩ := pl
        obtain ⟨b, rfl, _, hrb⟩ := pv
        have hln := ok.ln
        walk_at "s"
        refine ix_ref (g.rd hs10) at1 ?_
        walk_at "s"
        rw [List.length_map]
        refine way (fun e => ?_) (fun e => ?_)
        · have ht : t < nn.length := by have := of_decide_eq_true e; omega
          obtain ⟨row, hrow, hri⟩ := hrw t ht
          walk_at "s"
          refine ix_ref (g.rd hs10) at1 ?_
          walk_at "s"
          refine form_of_ok (k := 56) rfl rfl rfl rfl rfl ok.S (by omega) ht (fun st11 g11 => ?_)
          rw [told_eq ok.S ok.sm ht]
          have gg := g.trans g11
          walk_at "r"
          refine ix_ref (gg.rd hD10) at2' ?_
          walk_at "r"
          refine ix_ref (gg.rd hra) (at_row hrow) ?_
          walk_at "r"
          refine same_ok (k := 58) (hri.grw gg) (fun st12 g12 => ?_)
          have gg2 := gg.trans g12
          walk_at "r"
          refine wayF rfl ?_
          walk_at "r"
          cases hfs : linF nn t with
          | none =>
            refine wayF rfl ?_
            walk_at "r"
            exact hN' _ _ ⟨_, _, _, rfl, gg2⟩
          | some l =>
            refine wayT rfl ?_
            walk_at "r"
            refine ix_ref (gg2.rd hs10) at1 ?_
            walk_at "r"
            refine at_is (at_nd ht) ?_
            refine wd_at ?_
            walk_at "r"
            have hw := ok.S.wid t _ (has_wd ht)
            refine total_ok (k := 59) hi hw.1 hw.2 ?_
            rw [sem (fun i h => (hi i h).1) ok.S ok.sm t ht l hfs]
            walk_at "r"
            refine ix_ref (gg2.rd hV10) at3 ?_
            walk_at "r"
            refine ix_ref (gg2.rd hrb) (at_int (by rw [vals_len _ ok.S]; exact ht)) ?_
            refine neI ?_
            walk_at "r"
            exact hN' _ _ ⟨_, _, _, rfl, gg2⟩
        · walk_at "s"
          exact hN' _ _ ⟨_, _, _, rfl, g⟩
      refine Red.red ?_
      obtain rfl | rfl : j = 0 ∨ j = 1 := by omega
      · exact main n0 d0 e0 ok0 pl0 pv0 rfl rfl rfl
      · exact main n1 d1 e1 ok1 pl1 pv1 rfl rfl rfl
    · subst e
      refine ⟨trivial, ?_⟩
      exact hN _ _ ⟨_, _, _, _, rfl, g⟩
  · subst e
    refine ⟨.inl (g.rd hI), ?_⟩
    walk_at "r"
    rfl
end Pk37
end PartPdk37P7

section PartPdk37T
open PySem PySem.W PyProof.Rows
set_option maxRecDepth 100000 in
set_option maxHeartbeats 0 in
theorem PySem.Challenge.cw_metorshut_k37_forms_holds : PySem.Challenge.rw_metorshut_k37_forms.Holds := by
  w_on; o_law; k_head; (case hw => w_witness2)
  k_fill
  refine L2.walk_ofB (l := PySem.Challenge.rw_metorshut_k37_forms) (n := 63) (k := 61) (x := "_law_script") (CX := fun _ => L2.CX0) (sp := fun w => Pd.liftF _ 1 (Pd.callN Pk37.prog 61 "law")) rfl (by decide) rfl ⟨rfl, by decide, by decide⟩ (fun w h Y => PySem.W.kIn_of Y) ?F (fun _ _ a ns hl hb hO hS => Pd.law_sp (Pk37.law_holds ns hl hb) hO hS) (fun _ _ _ _ _ h => h)
  case F =>
    intro w mg fa h KX G hmg
    refine' Pk37.all_mk KX G hmg ?a1 ?l1 ?c1 ?k1 ?a2 ?l2 ?c2 ?k2 ?a3 ?l3 ?c3 ?k3 ?a4 ?l4 ?c4 ?k4 ?a5 ?l5 ?c5 ?k5 ?a6 ?l6 ?c6 ?k6 ?a7 ?l7 ?c7 ?k7 ?a8 ?l8 ?c8 ?k8 ?a9 ?l9 ?c9 ?k9 ?a10 ?l10 ?c10 ?k10 ?a11 ?l11 ?c11 ?k11 ?a12 ?l12 ?c12 ?k12 ?a13 ?l13 ?c13 ?k13 ?a14 ?l14 ?c14 ?k14 ?a15 ?l15 ?c15 ?k15 ?a16 ?l16 ?c16 ?k16 ?a17 ?l17 ?c17 ?k17 ?a18 ?l18 ?c18 ?k18 ?a19 ?l19 ?c19 ?k19 ?z1 ?z2 ?z3 ?z4 ?z5 ?z6 ?z7 ?z8 ?z9 ?z10 ?z11
    (case a1 => k_is); (case l1 => k_is); (case c1 => k_is); (case k1 => k_is)
    (case a2 => k_is); (case l2 => k_is); (case c2 => k_is); (case k2 => k_is)
    (case a3 => k_is); (case l3 => k_is); (case c3 => k_is); (case k3 => k_is)
    (case a4 => k_is); (case l4 => k_is); (case c4 => k_is); (case k4 => k_is)
    (case a5 => k_is); (case l5 => k_is); (case c5 => k_is); (case k5 => k_is)
    (case a6 => k_is); (case l6 => k_is); (case c6 => k_is); (case k6 => k_is)
    (case a7 => k_is); (case l7 => k_is); (case c7 => k_is); (case k7 => k_is)
    (case a8 => k_is); (case l8 => k_is); (case c8 => k_is); (case k8 => k_is)
    (case a9 => k_is); (case l9 => k_is); (case c9 => k_is); (case k9 => k_is)
    (case a10 => k_is); (case l10 => k_is); (case c10 => k_is); (case k10 => k_is)
    (case a11 => k_is); (case l11 => k_is); (case c11 => k_is); (case k11 => k_is)
    (case a12 => k_is); (case l12 => k_is); (case c12 => k_is); (case k12 => k_is)
    (case a13 => k_is); (case l13 => k_is); (case c13 => k_is); (case k13 => k_is)
    (case a14 => k_is); (case l14 => k_is); (case c14 => k_is); (case k14 => k_is)
    (case a15 => k_is); (case l15 => k_is); (case c15 => k_is); (case k15 => k_is)
    (case a16 => k_is); (case l16 => k_is); (case c16 => k_is); (case k16 => k_is)
    (case a17 => k_is); (case l17 => k_is); (case c17 => k_is); (case k17 => k_is)
    (case a18 => k_is); (case l18 => k_is); (case c18 => k_is); (case k18 => k_is)
    (case a19 => k_is); (case l19 => k_is); (case c19 => k_is); (case k19 => k_is)
    (case z1 => k_is)
    (case z2 => k_is)
    (case z3 => k_is)
    (case z4 => k_is)
    (case z5 => k_is)
    (case z6 => k_is)
    (case z7 => k_is)
    (case z8 => k_is)
    (case z9 => k_is)
    (case z10 => k_is)
    (case z11 => k_is)
end PartPdk37T
