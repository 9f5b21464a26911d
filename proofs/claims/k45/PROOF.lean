import PyProof.Rows.All
import HandS.Base
import Wide.All
import OpenK.AllK
import Wide.FinOn
import HandS.ForMost
import HandS.Flow
import HandS.TupAny
import HandS.IsInst
import HandS.Zip
import HandS.Conv
import HandS.EndBits
import HandS.Text
import HandS.SortInts
import HandS.Star
import HandS.Small
import HandS.Dict
import HandS.DictComp
import KE.KDictSum
import HandS.Iter
import HandS.List
import PySem.Challenge.RW_metorshut_k45_replayed
section PartPdCore
set_option linter.all false
/-! Pd: a data-level weakest-precondition semantics of the Python that the laws use.
Values are plain data (tuples are values, lists and dicts are numbers of cells of a store).
A reading takes what is wanted behind. Own work. -/
namespace Pd
open PySem

inductive D where
  | non
  | bl (b : Bool)
  | int (i : Int)
  | str (x : Str)
  | tup (xs : List D)
  | ref (n : Nat)
  deriving Inhabited

/-- what a locked dict is, for the soundness alone -/
abbrev Tok := PySem.Obj × List (L2.Key × L2.V)
/-- a cell of the store -/
inductive C where
  | lst (xs : List D)
  | frz (xs : List D)
  | dic (kvs : List (Sum Int Str × D))
  /-- a dict that a walk has locked -/
  | frd (kvs : List (Sum Int Str × D)) (tk : Tok)

abbrev Store := List C
abbrev Env := List (Option D)
abbrev K := D → Store → Prop
abbrev TE := Env → Store → K → Prop
abbrev TT := Env → Store → (Bool → Store → Prop) → Prop
abbrev TA := Env → Store → (List D → Store → Prop) → Prop
structure Ends where
  nx : Env → Store → Prop
  rt : K
  bk : Env → Store → Prop := fun _ _ => False
  ct : Env → Store → Prop := fun _ _ => False
abbrev TS := Ends → Env → Store → Prop
/-- what the calls of own defs do -/
abbrev Cl := String → List D → Store → K → Prop

/-- the longest that the model's lists and texts may be -/
def szl : Nat := 16777216

def lk : Env → Nat → Option D
  | [], _ => none
  | x :: _, 0 => x
  | _ :: r, n + 1 => lk r n
def wipeE : Env → List Nat → Env
  | ρ, [] => ρ
  | ρ, v :: vs => (wipeE ρ vs).set v none

/-! ### data: pure, depth, equality -/
/-- a text of code points -/
def okS (x : Str) : Bool := x.cps.toList.all fun c => decide (c < 1114112)
mutual
def D.okd : Nat → D → Bool
  | _, .non => true
  | _, .bl _ => true
  | _, .int _ => true
  | _, .str x => okS x
  | 0, .tup _ => false
  | n + 1, .tup xs => okds n xs
  | _, .ref _ => false
def okds : Nat → List D → Bool
  | _, [] => true
  | n, x :: xs => D.okd n x && okds n xs
end
def b2i (b : Bool) : Int := if b then 1 else 0
mutual
def D.eqb : D → D → Bool
  | .non, .non => true
  | .bl a, .bl b => a == b
  | .bl a, .int j => b2i a == j
  | .int i, .bl b => i == b2i b
  | .int i, .int j => i == j
  | .str x, .str y => decide (x = y)
  | .tup xs, .tup ys => eqbs xs ys
  | _, _ => false
def eqbs : List D → List D → Bool
  | [], [] => true
  | x :: xs, y :: ys => D.eqb x y && eqbs xs ys
  | _, _ => false
end
def D.flat : D → Bool
  | .non => true
  | .bl _ => true
  | .int _ => true
  | .str _ => true
  | _ => false

/-! ### the store -/
/-- at n a list that may be changed -/
def rdL (st : Store) (n : Nat) (xs : List D) : Prop := st[n]? = some (.lst xs)
/-- at n a list -/
def rdA (st : Store) (n : Nat) (xs : List D) : Prop := st[n]? = some (.lst xs) ∨ st[n]? = some (.frz xs)
def rdD (st : Store) (n : Nat) (kvs : List (Sum Int Str × D)) : Prop := st[n]? = some (.dic kvs)
/-- at n a dict, locked or not -/
def rdDA (st : Store) (n : Nat) (kvs : List (Sum Int Str × D)) : Prop := st[n]? = some (.dic kvs) ∨ ∃ tk, st[n]? = some (.frd kvs tk)

/-! ### expressions -/
def dC (d : D) : TE := fun _ st Q => Q d st
def dVar (i : Nat) : TE := fun σ st Q => ∃ d, lk σ i = some d ∧ Q d st
abbrev K2 := D → D → Store → K → Prop
def dOp (k : K2) (ta tb : TE) : TE := fun σ st Q => ta σ st fun x st1 => tb σ st1 fun y st2 => k x y st2 Q
def dUn (k : D → Store → K → Prop) (ta : TE) : TE := fun σ st Q => ta σ st fun x st1 => k x st1 Q

def cMul (i j : Int) : Prop := (-(2 ^ 64) < i ∧ i < 2 ^ 64) ∨ (-(2 ^ 64) < j ∧ j < 2 ^ 64)
def cPow (i j : Int) : Prop := 0 ≤ j ∧ j ≤ 1000000 ∧ i.natAbs < 2 ^ 64
def addK : K2
  | .int a, .int b, st, Q => Q (.int (a + b)) st
  | .str a, .str b, st, Q => a.length + b.length ≤ szl ∧ Q (.str (a ++ b)) st
  | .tup a, .tup b, st, Q => a.length + b.length ≤ szl ∧ Q (.tup (a ++ b)) st
  | .ref m, .ref n, st, Q => ∃ a b, rdL st m a ∧ rdL st n b ∧ a.length + b.length ≤ szl ∧ Q (.ref st.length) (st ++ [.lst (a ++ b)])
  | _, _, _, _ => False
def subK : K2
  | .int a, .int b, st, Q => Q (.int (a - b)) st
  | _, _, _, _ => False
def mulK : K2
  | .int a, .int b, st, Q => cMul a b ∧ Q (.int (a * b)) st
  | .ref m, .int k, st, Q => ∃ xs, rdL st m xs ∧ -(2 ^ 63) ≤ k ∧ k < 2 ^ 63 ∧ xs.length * k.toNat ≤ szl ∧ Q (.ref st.length) (st ++ [.lst (List.replicate k.toNat xs).flatten])
  | _, _, _, _ => False
def fdivK : K2
  | .int a, .int b, st, Q => (0 < b ∧ b < 1073741824) ∧ Q (.int (a / b)) st
  | _, _, _, _ => False
def modK : K2
  | .int a, .int b, st, Q => 0 < b ∧ Q (.int (a % b)) st
  | _, _, _, _ => False
def powK : K2
  | .int a, .int b, st, Q => cPow a b ∧ Q (.int (a ^ b.toNat)) st
  | _, _, _, _ => False
def shlK : K2
  | .int a, .int b, st, Q => cPow a b ∧ Q (.int (a * 2 ^ b.toNat)) st
  | _, _, _, _ => False
def shrK : K2
  | .int a, .int b, st, Q => 0 ≤ b ∧ Q (.int (a / 2 ^ b.toNat)) st
  | _, _, _, _ => False
def andK : K2
  | .int a, .int b, st, Q => Q (.int (Builtin.bitAnd a b)) st
  | _, _, _, _ => False
def orK : K2
  | .int a, .int b, st, Q => Q (.int (Builtin.bitOr a b)) st
  | _, _, _, _ => False
def xorK : K2
  | .int a, .int b, st, Q => Q (.int (Builtin.bitXor a b)) st
  | _, _, _, _ => False
/-- op= of ints and texts -/
def iaddK : K2
  | .int a, .int b, st, Q => Q (.int (a + b)) st
  | .str a, .str b, st, Q => a.length + b.length ≤ szl ∧ Q (.str (a ++ b)) st
  | _, _, _, _ => False
def negK : D → Store → K → Prop
  | .int a, st, Q => Q (.int (-a)) st
  | _, _, _ => False
def invK : D → Store → K → Prop
  | .int a, st, Q => Q (.int (Builtin.bitNot a)) st
  | _, _, _ => False

/-! ### comparisons -/
abbrev KC := D → D → Store → (Bool → Prop) → Prop
def dCmp (k : KC) (ta tb : TE) : TE := fun σ st Q => ta σ st fun x st1 => tb σ st1 fun y st2 => k x y st2 fun b => Q (.bl b) st2
def dChain (k k' : KC) (ta tb tc : TE) : TE := fun σ st Q => ta σ st fun x st1 => tb σ st1 fun y st2 => k x y st2 fun b =>
  (b = true → tc σ st2 fun z st3 => k' y z st3 fun b' => Q (.bl b') st3) ∧ (b = false → Q (.bl false) st2)
/-- == -/
def eqC : KC
  | .ref m, .ref n, st, Q => ∃ xs ys, rdA st m xs ∧ rdA st n ys ∧ okds 60 xs = true ∧ okds 60 ys = true ∧ Q (eqbs xs ys)
  | .ref m, y, st, Q => ∃ xs, rdA st m xs ∧ okds 60 xs = true ∧ D.okd 60 y = true ∧ Q false
  | x, .ref n, st, Q => ∃ ys, rdA st n ys ∧ okds 60 ys = true ∧ D.okd 60 x = true ∧ Q false
  | x, y, st, Q => D.okd 60 x = true ∧ D.okd 60 y = true ∧ Q (D.eqb x y)
def neC : KC := fun x y st Q => eqC x y st fun b => Q (!b)
def ltC : KC
  | .int a, .int b, _, Q => Q (decide (a < b))
  | _, _, _, _ => False
def leC : KC
  | .int a, .int b, _, Q => Q (decide (a ≤ b))
  | _, _, _, _ => False
def gtC : KC
  | .int a, .int b, _, Q => Q (decide (b < a))
  | _, _, _, _ => False
def geC : KC
  | .int a, .int b, _, Q => Q (decide (b ≤ a))
  | _, _, _, _ => False
def isNon : D → Bool
  | .non => true
  | _ => false
def isC : KC
  | x, .non, _, Q => Q (isNon x)
  | _, _, _, _ => False
def isntC : KC
  | x, .non, _, Q => Q (!isNon x)
  | _, _, _, _ => False
def inC : KC
  | x, .tup xs, _, Q => x.flat = true ∧ xs.all D.flat = true ∧ Q (xs.any fun y => D.eqb y x)
  | x, .ref n, st, Q => ∃ xs, rdA st n xs ∧ x.flat = true ∧ xs.all D.flat = true ∧ Q (xs.any fun y => D.eqb y x)
  | _, _, _, _ => False
def notinC : KC := fun x y st Q => inC x y st fun b => Q (!b)

/-! ### truth -/
def truK : D → Store → (Bool → Prop) → Prop
  | .non, _, Q => Q false
  | .bl b, _, Q => Q b
  | .int i, _, Q => Q (i != 0)
  | .str y, _, Q => y.length ≤ szl ∧ Q ((y.length : Int) != 0)
  | .tup xs, _, Q => Q (!xs.isEmpty)
  | .ref n, st, Q => ∃ xs, rdA st n xs ∧ Q (!xs.isEmpty)
def tTru (t : TE) : TT := fun σ st Q => t σ st fun x st1 => truK x st1 fun b => Q b st1
def tAnd (t u : TT) : TT := fun σ st Q => t σ st fun c st1 => (c = true → u σ st1 Q) ∧ (c = false → Q false st1)
def tOr (t u : TT) : TT := fun σ st Q => t σ st fun c st1 => (c = true → Q true st1) ∧ (c = false → u σ st1 Q)
def tNot (t : TT) : TT := fun σ st Q => t σ st fun c st1 => Q (!c) st1
def dAndT (ta tb : TE) : TE := fun σ st Q => ta σ st fun x st1 => truK x st1 fun c => (c = true → tb σ st1 Q) ∧ (c = false → Q x st1)
def dOrT (ta tb : TE) : TE := fun σ st Q => ta σ st fun x st1 => truK x st1 fun c => (c = true → Q x st1) ∧ (c = false → tb σ st1 Q)
def dNotT (ta : TE) : TE := fun σ st Q => ta σ st fun x st1 => truK x st1 fun c => Q (.bl (!c)) st1
def dIf (c : TT) (a b : TE) : TE := fun σ st Q => c σ st fun k st1 => (k = true → a σ st1 Q) ∧ (k = false → b σ st1 Q)

/-! ### items, slices, displays, calls -/
def atD {α : Type} (xs : List α) (i : Int) : Option α := if 0 ≤ i then xs[i.toNat]? else if -(xs.length : Int) ≤ i then xs[(i + xs.length).toNat]? else none
def ixK : K2
  | .tup xs, .int i, st, Q => ∃ d, atD xs i = some d ∧ Q d st
  | .ref n, .int i, st, Q => ∃ xs d, rdA st n xs ∧ atD xs i = some d ∧ Q d st
  | .str z, .int i, st, Q => ∃ c, z.length ≤ szl ∧ atD z.cps.toList i = some c ∧ Q (.str ⟨#[c]⟩) st
  | _, _, _, _ => False
/-- where a slice's end lies -/
def cl (n : Nat) (i : Int) : Nat := if i < 0 then (i + n).toNat else min i.toNat n
def cutD {α : Type} (xs : List α) (lo hi : Option Int) : List α :=
  (xs.drop ((lo.map (cl xs.length)).getD 0)).take ((hi.map (cl xs.length)).getD xs.length - (lo.map (cl xs.length)).getD 0)
abbrev TO := Env → Store → (Option Int → Store → Prop) → Prop
def oNone : TO := fun _ st Q => Q none st
def oSome (t : TE) : TO := fun σ st Q => t σ st fun x st1 => ∃ i, x = .int i ∧ Q (some i) st1
def slK : D → Option Int → Option Int → Store → K → Prop
  | .tup xs, lo, hi, st, Q => Q (.tup (cutD xs lo hi)) st
  | .ref n, lo, hi, st, Q => ∃ xs, rdA st n xs ∧ Q (.ref st.length) (st ++ [.lst (cutD xs lo hi)])
  | _, _, _, _, _ => False
def dSl (te : TE) (tl th : TO) : TE := fun σ st Q => te σ st fun x st1 => tl σ st1 fun lo st2 => th σ st2 fun hi st3 => slK x lo hi st3 Q
def aNil : TA := fun _ st Q => Q [] st
def aCons (t : TE) (r : TA) : TA := fun σ st Q => t σ st fun x st1 => r σ st1 fun xs st2 => Q (x :: xs) st2
def dTup (t : TA) : TE := fun σ st Q => t σ st fun xs st1 => xs.length ≤ szl ∧ Q (.tup xs) st1
def dLst (t : TA) : TE := fun σ st Q => t σ st fun xs st1 => xs.length ≤ szl ∧ Q (.ref st1.length) (st1 ++ [.lst xs])
def dCall (c : Cl) (f : String) (t : TA) : TE := fun σ st Q => t σ st fun xs st1 => c f xs st1 Q
/-- a built-in -/
abbrev KB := List D → Store → K → Prop
def dB (k : KB) (t : TA) : TE := fun σ st Q => t σ st fun xs st1 => k xs st1 Q
/-- a method of a built-in type -/
abbrev KM := D → List D → Store → K → Prop
def dM (ty : D → Store → Prop) (k : KM) (to : TE) (t : TA) : TE := fun σ st Q => to σ st fun o st1 => ty o st1 ∧ t σ st1 fun xs st2 => k o xs st2 Q
def tyLst : D → Store → Prop
  | .ref n, st => ∃ xs, rdL st n xs
  | _, _ => False
def tyLstA : D → Store → Prop
  | .ref n, st => ∃ xs, rdA st n xs
  | _, _ => False
def tyStr : D → Store → Prop
  | .str _, _ => True
  | _, _ => False

def intB : KB
  | [.int i], st, Q => Q (.int i) st
  | [.bl b], st, Q => Q (.int (b2i b)) st
  | _, _, _ => False
def absB : KB
  | [.int i], st, Q => Q (.int (if i < 0 then -i else i)) st
  | _, _, _ => False
def lenB : KB
  | [.tup xs], st, Q => Q (.int xs.length) st
  | [.ref n], st, Q => ∃ xs, rdA st n xs ∧ Q (.int xs.length) st
  | [.str z], st, Q => z.length ≤ szl ∧ Q (.int z.length) st
  | _, _, _ => False
def min2B : KB
  | [.int i, .int j], st, Q => Q (.int (if j < i then j else i)) st
  | _, _, _ => False
def max2B : KB
  | [.int i, .int j], st, Q => Q (.int (if j > i then j else i)) st
  | _, _, _ => False
def listB : KB
  | [.tup xs], st, Q => Q (.ref st.length) (st ++ [.lst xs])
  | [.ref n], st, Q => ∃ xs, rdA st n xs ∧ Q (.ref st.length) (st ++ [.lst xs])
  | _, _, _ => False
def tupleB : KB
  | [.tup xs], st, Q => Q (.tup xs) st
  | [.ref n], st, Q => ∃ xs, rdA st n xs ∧ Q (.tup xs) st
  | _, _, _ => False
def sumB : KB
  | [.ref n], st, Q => ∃ ns : List Int, rdA st n (ns.map D.int) ∧ Q (.int ns.sum) st
  | _, _, _ => False
/-- None, a bool, an int: its truth -/
def D.tflat : D → Bool
  | .non => true
  | .bl _ => true
  | .int _ => true
  | _ => false
def D.tru : D → Bool
  | .bl b => b
  | .int i => i != 0
  | _ => false
def allB : KB
  | [.ref n], st, Q => ∃ xs : List D, rdA st n xs ∧ xs.all D.tflat = true ∧ Q (.bl (xs.all D.tru)) st
  | _, _, _ => False
def anyB : KB
  | [.ref n], st, Q => ∃ xs : List D, rdA st n xs ∧ xs.all D.tflat = true ∧ Q (.bl (xs.any D.tru)) st
  | _, _, _ => False
def min1B : KB
  | [.ref n], st, Q => ∃ ns : List Int, rdA st n (ns.map D.int) ∧ 0 < ns.length ∧ ∀ m, m ∈ ns → (∀ y, y ∈ ns → m ≤ y) → Q (.int m) st
  | _, _, _ => False
def max1B : KB
  | [.ref n], st, Q => ∃ ns : List Int, rdA st n (ns.map D.int) ∧ 0 < ns.length ∧ ∀ m, m ∈ ns → (∀ y, y ∈ ns → y ≤ m) → Q (.int m) st
  | _, _, _ => False
/-- isinstance(x, T), T a built-in class -/
inductive Ty where | int | bool | str | tuple | list
  deriving DecidableEq
def isTy : D → Store → Ty → (Bool → Prop) → Prop
  | .non, _, _, Q => Q false
  | .bl _, _, t, Q => Q (decide (t = .bool) || decide (t = .int))
  | .int _, _, t, Q => Q (decide (t = .int))
  | .str _, _, t, Q => Q (decide (t = .str))
  | .tup _, _, t, Q => Q (decide (t = .tuple))
  | .ref n, st, t, Q => ∃ xs, rdL st n xs ∧ Q (decide (t = .list))
def dIsi (ty : Ty) (t : TE) : TE := fun σ st Q => t σ st fun x st1 => isTy x st1 ty fun b => Q (.bl b) st1

/-! methods -/
def appendM : KM
  | .ref n, [x], st, Q => ∃ xs, rdL st n xs ∧ xs.length < szl ∧ Q .non (st.set n (.lst (xs ++ [x])))
  | _, _, _, _ => False
/-- .pop(i), the place in the list -/
def popM : KM
  | .ref n, [.int i], st, Q => ∃ xs d, rdL st n xs ∧ (0 ≤ i ∧ i < 2 ^ 62) ∧ atD xs i = some d ∧ Q d (st.set n (.lst (xs.eraseIdx i.toNat)))
  | _, _, _, _ => False
def extendM : KM
  | .ref n, [.ref m], st, Q => ∃ xs ys, rdL st n xs ∧ rdL st m ys ∧ n ≠ m ∧ xs.length + ys.length ≤ szl ∧ Q .non (st.set n (.lst (xs ++ ys)))
  | _, _, _, _ => False
/-- .index(x): the first place of what is there -/
def indexM : KM
  | .ref n, [x], st, Q => ∃ xs j z, rdA st n xs ∧ x.flat = true ∧ xs.all D.flat = true ∧ xs[j]? = some z ∧ D.eqb z x = true ∧ (∀ (m : Nat) (z' : D), m < j → xs[m]? = some z' → D.eqb z' x = false) ∧ Q (.int j) st
  | _, _, _, _ => False

/-! ### targets, iterables -/
abbrev TG := D → Env → Store → (Env → Store → Prop) → Prop
abbrev TGs := List D → Env → Store → (Env → Store → Prop) → Prop
def gName (i : Nat) : TG := fun d σ st Q => Q (σ.set i (some d)) st
def gsNil : TGs := fun ds σ st Q => ds = [] ∧ Q σ st
def gsCons (g : TG) (r : TGs) : TGs := fun ds σ st Q => ∃ d ds', ds = d :: ds' ∧ g d σ st fun σ1 st1 => r ds' σ1 st1 Q
def gTup (gs : TGs) (n : Nat) : TG := fun d σ st Q => ∃ ds, d = .tup ds ∧ ds.length = n ∧ gs ds σ st Q
def setK : D → D → D → Store → (Store → Prop) → Prop
  | .ref n, .int i, v, st, Q => ∃ xs, rdL st n xs ∧ (∃ d, atD xs i = some d) ∧ 0 ≤ i ∧ Q (st.set n (.lst (xs.set i.toNat v)))
  | _, _, _, _, _ => False
def gSub (to ti : TE) : TG := fun v σ st Q => to σ st fun o st1 => ti σ st1 fun i st2 => setK o i v st2 fun st3 => Q σ st3
structure Iter where
  items : List D
  guard : Store → Prop
abbrev TI := Env → Store → (Iter → Store → Prop) → Prop
/-- a list or a tuple -/
def itK : D → Store → (Iter → Store → Prop) → Prop
  | .tup xs, st, R => R ⟨xs, fun _ => True⟩ st
  | .ref n, st, R => ∃ xs, rdA st n xs ∧ R ⟨xs, fun s => rdA s n xs⟩ st
  | _, _, _ => False
def iSeq (t : TE) : TI := fun σ st R => t σ st fun x st1 => itK x st1 R
def rng (lo : Int) (n : Nat) : List D := (List.range n).map fun (k : Nat) => D.int (lo + k)
def iR1 (t : TE) : TI := fun σ st R => t σ st fun x st1 => ∃ j, x = .int j ∧ -(2 ^ 62) ≤ j ∧ j < 2 ^ 62 ∧ R ⟨rng 0 j.toNat, fun _ => True⟩ st1
def iR2 (t u : TE) : TI := fun σ st R => t σ st fun x st1 => u σ st1 fun y st2 => ∃ i j, x = .int i ∧ y = .int j ∧ (-(2 ^ 62) ≤ i ∧ i < 2 ^ 62 ∧ -(2 ^ 62) ≤ j ∧ j < 2 ^ 62) ∧ R ⟨rng i (j - i).toNat, fun _ => True⟩ st2
def zipD : List D → List D → List D
  | x :: xs, y :: ys => .tup [x, y] :: zipD xs ys
  | _, _ => []
/-- zip(a, b): both lists, or both tuples -/
def zipK : D → D → Store → (Iter → Store → Prop) → Prop
  | .tup xs, .tup ys, st, R => R ⟨zipD xs ys, fun _ => True⟩ st
  | .ref m, .ref n, st, R => ∃ xs ys, rdA st m xs ∧ rdA st n ys ∧ R ⟨zipD xs ys, fun s => rdA s m xs ∧ rdA s n ys⟩ st
  | _, _, _, _ => False
def iZip2 (t u : TE) : TI := fun σ st R => t σ st fun x st1 => u σ st1 fun y st2 => zipK x y st2 R

/-! ### comprehensions -/
def tYes : TT := fun _ st Q => Q true st
/-- n: the new list's cell -/
def lcLoop (gd : Store → Prop) (g : TG) (tt : TT) (te : TE) (ρ : Env) (n : Nat) (Q : K) : List D → List D → Store → Prop
  | [], acc, st => gd st ∧ rdL st n acc ∧ Q (.ref n) st
  | x :: xs, acc, st => gd st ∧ g x ρ st fun ρ2 st2 => tt ρ2 st2 fun b st3 =>
      (b = true → te ρ2 st3 fun y st4 => rdL st4 n acc ∧ acc.length < szl ∧ lcLoop gd g tt te ρ n Q xs (acc ++ [y]) (st4.set n (.lst (acc ++ [y])))) ∧ (b = false → rdL st3 n acc ∧ lcLoop gd g tt te ρ n Q xs acc st3)
def dLc (i : TI) (g : TG) (tt : TT) (te : TE) (vs : List Nat) : TE := fun σ st Q => i σ st fun I st1 => lcLoop I.guard g tt te (wipeE σ vs) st1.length Q I.items [] (st1 ++ [.lst []])

/-! ### statements -/
def sNext : TS := fun D σ st => D.nx σ st
/-- a statement's end, where a walk may rest -/
structure Nxt (P : Prop) : Prop where
  go : P
def sSeq (t u : TS) : TS := fun D σ st => t { D with nx := fun σ' st' => Nxt (u D σ' st') } σ st
def sBreak : TS := fun D σ st => D.bk σ st
def sCont : TS := fun D σ st => D.ct σ st
def sExpr (t : TE) : TS := fun D σ st => t σ st fun _ st1 => D.nx σ st1
def sRet (t : TE) : TS := fun D σ st => t σ st D.rt
def sRetN : TS := fun D _ st => D.rt .non st
def sIf (c : TT) (t u : TS) : TS := fun D σ st => c σ st fun b st1 => (b = true → t D σ st1) ∧ (b = false → u D σ st1)
def sAsg (t : TE) (g : TG) : TS := fun D σ st => t σ st fun x st1 => g x σ st1 D.nx
/-- a, b = e, f of two locals: no tuple is made -/
def sPar (i j : Nat) (t : TA) : TS := fun D σ st => t σ st fun xs st1 => ∃ x y, xs = [x, y] ∧ D.nx ((σ.set i (some x)).set j (some y)) st1
def sAug (i : Nat) (k : K2) (t : TE) : TS := fun D σ st => ∃ x, lk σ i = some x ∧ t σ st fun y st1 => k x y st1 fun z st2 => D.nx (σ.set i (some z)) st2
/-- the item of a list alone -/
def ixLK : K2
  | .ref n, .int i, st, Q => ∃ xs d, rdA st n xs ∧ atD xs i = some d ∧ Q d st
  | _, _, _, _ => False
def sAugL (k : K2) (to ti te : TE) : TS := fun D σ st => to σ st fun o st1 => ti σ st1 fun i st2 => ixLK o i st2 fun x st3 => te σ st3 fun y st4 => k x y st4 fun z st5 => setK o i z st5 fun st6 => D.nx σ st6
def forLoop (gd : Store → Prop) (g : TG) (tb : TS) (D : Ends) : List Pd.D → Env → Store → Prop
  | [], σ, st => gd st ∧ D.nx σ st
  | x :: xs, σ, st => gd st ∧ g x σ st fun σ2 st2 => tb { D with nx := fun σ3 st3 => forLoop gd g tb D xs σ3 st3, ct := fun σ3 st3 => forLoop gd g tb D xs σ3 st3, bk := D.nx } σ2 st2
def sFor (i : TI) (g : TG) (tb : TS) : TS := fun D σ st => i σ st fun I st1 => forLoop I.guard g tb D I.items σ st1
def whileN (c : TT) (tb : TS) (D : Ends) : Nat → Env → Store → Prop
  | 0, _, _ => False
  | n + 1, σ, st => c σ st fun b st1 => (b = true → tb { D with nx := fun σ2 st2 => whileN c tb D n σ2 st2, ct := fun σ2 st2 => whileN c tb D n σ2 st2, bk := D.nx } σ st1) ∧ (b = false → D.nx σ st1)
def sWhile (c : TT) (tb : TS) : TS := fun D σ st => ∃ n, whileN c tb D n σ st

/-! ### defs: parameters, number of names, body -/
structure Def where
  ps : Nat
  ns : Nat
  body : Cl → TS
def start (n : Nat) (ds : List D) : Env := ds.map some ++ List.replicate (n - ds.length) none
def Def.run (d : Def) (c : Cl) (ds : List D) (st : Store) (Q : K) : Prop :=
  ds.length = d.ps ∧ d.body c { nx := fun _ st' => Q .non st', rt := Q } (start d.ns ds) st
/-- calls, at most k deep -/
def callN (prog : String → Option Def) : Nat → Cl
  | 0 => fun _ _ _ _ => False
  | k + 1 => fun f ds st Q => ∃ d, prog f = some d ∧ d.run (callN prog k) ds st Q
end Pd
end PartPdCore

section PartPdSoundA
set_option Elab.async false
set_option linter.all false
set_option maxRecDepth 100000
set_option maxHeartbeats 1000000
/-! Pd over the hand layer: data against values and heaps; lifting; expressions. Own work. -/
namespace Pd
open PySem PySem.Spec
abbrev Kf := PySem.W.Frag
abbrev Vv := L2.V
abbrev Hp := L2.Hp

theorem szl_eq : szl = sizeLine := by rfl

/-! ### data against values -/
mutual
def RD (K : Kf) (f : List Addr) (H : Hp) : D → L2.V → Prop
  | .non, v => v = .non
  | .bl b, v => v = .bl b
  | .int i, v => v = .int i
  | .str s, v => v = .str s
  | .ref n, v => ∃ a, f[n]? = some a ∧ v = .ref a
  | .tup ds, v => ∃ a vs, v = .ref a ∧ L2.SqT K H a vs ∧ RDs K f H ds vs
def RDs (K : Kf) (f : List Addr) (H : Hp) : List D → List L2.V → Prop
  | [], vs => vs = []
  | d :: ds, vs => ∃ v r, vs = v :: r ∧ RD K f H d v ∧ RDs K f H ds r
end
section
variable {K : Kf} {f f' : List Addr} {H H' : Hp} {st st' : Store} {ρ : Env} {σ : L2.St}
theorem RD.non {v : L2.V} : RD K f H .non v ↔ v = .non := by simp [RD]
theorem RD.bl {b : Bool} {v : L2.V} : RD K f H (.bl b) v ↔ v = .bl b := by simp [RD]
theorem RD.int {i : Int} {v : L2.V} : RD K f H (.int i) v ↔ v = .int i := by simp [RD]
theorem RD.str {x : Str} {v : L2.V} : RD K f H (.str x) v ↔ v = .str x := by simp [RD]
theorem RD.ref {n : Nat} {v : L2.V} : RD K f H (.ref n) v ↔ ∃ a, f[n]? = some a ∧ v = .ref a := by simp [RD]
theorem RD.tup {ds : List D} {v : L2.V} : RD K f H (.tup ds) v ↔ ∃ a vs, v = .ref a ∧ L2.SqT K H a vs ∧ RDs K f H ds vs := by simp [RD]
theorem RDs.nil {vs : List L2.V} : RDs K f H [] vs ↔ vs = [] := by simp [RDs]
theorem RDs.cons {d : D} {ds : List D} {vs : List L2.V} : RDs K f H (d :: ds) vs ↔ ∃ v r, vs = v :: r ∧ RD K f H d v ∧ RDs K f H ds r := by simp [RDs]

/-- later: more cells, the tuples as they were -/
structure Ext (K : Kf) (f : List Addr) (H : Hp) (f' : List Addr) (H' : Hp) : Prop where
  pre : ∃ g, f' = f ++ g
  tup : ∀ a xs, L2.SqT K H a xs → L2.SqT K H' a xs
theorem Ext.refl : Ext K f H f H := ⟨⟨[], by simp⟩, fun _ _ h => h⟩
theorem Ext.trans {f2 : List Addr} {H2 : Hp} (a : Ext K f H f' H') (b : Ext K f' H' f2 H2) : Ext K f H f2 H2 := by
  obtain ⟨g, rfl⟩ := a.pre
  obtain ⟨g2, rfl⟩ := b.pre
  exact ⟨⟨g ++ g2, by simp⟩, fun x xs h => b.tup x xs (a.tup x xs h)⟩
theorem Ext.at (e : Ext K f H f' H') {n : Nat} {a : Addr} (h : f[n]? = some a) : f'[n]? = some a := by
  obtain ⟨g, rfl⟩ := e.pre
  have hn := (List.getElem?_eq_some_iff.mp h).1
  rw [List.getElem?_append_left hn]; exact h
mutual
theorem RD.mono (e : Ext K f H f' H') : ∀ (d : D) {v : L2.V}, RD K f H d v → RD K f' H' d v
  | .non, _, h => by rw [RD.non] at *; exact h
  | .bl _, _, h => by rw [RD.bl] at *; exact h
  | .int _, _, h => by rw [RD.int] at *; exact h
  | .str _, _, h => by rw [RD.str] at *; exact h
  | .ref _, _, h => by
    rw [RD.ref] at *
    obtain ⟨a, h1, h2⟩ := h
    exact ⟨a, e.at h1, h2⟩
  | .tup ds, _, h => by
    rw [RD.tup] at *
    obtain ⟨a, vs, h1, h2, h3⟩ := h
    exact ⟨a, vs, h1, e.tup _ _ h2, RDs.mono e ds h3⟩
theorem RDs.mono (e : Ext K f H f' H') : ∀ (ds : List D) {vs : List L2.V}, RDs K f H ds vs → RDs K f' H' ds vs
  | [], _, h => by rw [RDs.nil] at *; exact h
  | d :: ds, _, h => by
    rw [RDs.cons] at *
    obtain ⟨v, r, h1, h2, h3⟩ := h
    exact ⟨v, r, h1, RD.mono e d h2, RDs.mono e ds h3⟩
end
theorem RDs.length : ∀ {ds : List D} {vs : List L2.V}, RDs K f H ds vs → vs.length = ds.length
  | [], _, h => by rw [RDs.nil] at h; subst h; rfl
  | d :: ds, _, h => by
    rw [RDs.cons] at h
    obtain ⟨v, r, rfl, _, h3⟩ := h
    simp [RDs.length h3]
theorem RDs.get : ∀ {ds : List D} {vs : List L2.V} {i : Nat} {d : D}, RDs K f H ds vs → ds[i]? = some d → ∃ v, vs[i]? = some v ∧ RD K f H d v
  | [], _, _, _, _, e => by simp at e
  | x :: ds, _, 0, d, h, e => by
    rw [RDs.cons] at h
    obtain ⟨v, r, rfl, h2, _⟩ := h
    simp at e; subst e; exact ⟨v, rfl, h2⟩
  | x :: ds, _, i + 1, d, h, e => by
    rw [RDs.cons] at h
    obtain ⟨v, r, rfl, _, h3⟩ := h
    obtain ⟨w, h4, h5⟩ := RDs.get (i := i) h3 (by simpa using e)
    exact ⟨w, by simpa using h4, h5⟩
theorem RDs.append : ∀ {xs ys : List D} {us vs : List L2.V}, RDs K f H xs us → RDs K f H ys vs → RDs K f H (xs ++ ys) (us ++ vs)
  | [], _, _, _, h, h' => by rw [RDs.nil] at h; subst h; exact h'
  | x :: xs, _, _, _, h, h' => by
    rw [RDs.cons] at h
    obtain ⟨v, r, rfl, h2, h3⟩ := h
    rw [List.cons_append, RDs.cons]
    exact ⟨v, _, rfl, h2, RDs.append h3 h'⟩
theorem RDs.one {d : D} {v : L2.V} (h : RD K f H d v) : RDs K f H [d] [v] := by
  rw [RDs.cons]; exact ⟨v, [], rfl, h, by rw [RDs.nil]⟩
theorem RDs.take : ∀ {ds : List D} {vs : List L2.V} (n : Nat), RDs K f H ds vs → RDs K f H (ds.take n) (vs.take n)
  | _, _, 0, _ => by simp [RDs.nil]
  | [], _, n + 1, h => by rw [RDs.nil] at h; subst h; simp [RDs.nil]
  | d :: ds, _, n + 1, h => by
    rw [RDs.cons] at h
    obtain ⟨v, r, rfl, h2, h3⟩ := h
    rw [List.take_succ_cons, List.take_succ_cons, RDs.cons]
    exact ⟨v, _, rfl, h2, RDs.take n h3⟩
theorem RDs.drop : ∀ {ds : List D} {vs : List L2.V} (n : Nat), RDs K f H ds vs → RDs K f H (ds.drop n) (vs.drop n)
  | _, _, 0, h => by simpa using h
  | [], _, n + 1, h => by rw [RDs.nil] at h; subst h; simp [RDs.nil]
  | d :: ds, _, n + 1, h => by
    rw [RDs.cons] at h
    obtain ⟨v, r, rfl, h2, h3⟩ := h
    rw [List.drop_succ_cons, List.drop_succ_cons]
    exact RDs.drop n h3
theorem RDs.set : ∀ {ds : List D} {vs : List L2.V} (n : Nat) {d : D} {v : L2.V}, RD K f H d v → RDs K f H ds vs → RDs K f H (ds.set n d) (vs.set n v)
  | [], _, _, _, _, _, h => by rw [RDs.nil] at h; subst h; simp [RDs.nil]
  | x :: ds, _, 0, d, v, hd, h => by
    rw [RDs.cons] at h
    obtain ⟨w, r, rfl, h2, h3⟩ := h
    rw [List.set_cons_zero, List.set_cons_zero, RDs.cons]
    exact ⟨v, r, rfl, hd, h3⟩
  | x :: ds, _, n + 1, d, v, hd, h => by
    rw [RDs.cons] at h
    obtain ⟨w, r, rfl, h2, h3⟩ := h
    rw [List.set_cons_succ, List.set_cons_succ, RDs.cons]
    exact ⟨w, _, rfl, h2, RDs.set n hd h3⟩
theorem RDs.eraseIdx : ∀ {ds : List D} {vs : List L2.V} (n : Nat), RDs K f H ds vs → RDs K f H (ds.eraseIdx n) (vs.eraseIdx n)
  | [], _, _, h => by rw [RDs.nil] at h; subst h; simp [RDs.nil]
  | x :: ds, _, 0, h => by
    rw [RDs.cons] at h
    obtain ⟨w, r, rfl, h2, h3⟩ := h
    simpa using h3
  | x :: ds, _, n + 1, h => by
    rw [RDs.cons] at h
    obtain ⟨w, r, rfl, h2, h3⟩ := h
    rw [List.eraseIdx_cons_succ, List.eraseIdx_cons_succ, RDs.cons]
    exact ⟨w, _, rfl, h2, RDs.eraseIdx n h3⟩
theorem RDs.ints : ∀ {ns : List Int} {vs : List L2.V}, RDs K f H (ns.map D.int) vs → vs = ns.map L2.V.int
  | [], _, h => by rw [List.map_nil, RDs.nil] at h; subst h; rfl
  | n :: ns, _, h => by
    rw [List.map_cons, RDs.cons] at h
    obtain ⟨v, r, rfl, h2, h3⟩ := h
    rw [RD.int] at h2
    rw [h2, RDs.ints h3]; rfl
theorem RDs.of_ints : ∀ (ns : List Int), RDs K f H (ns.map D.int) (ns.map L2.V.int)
  | [] => by simp [RDs.nil]
  | n :: ns => by
    rw [List.map_cons, List.map_cons, RDs.cons]
    exact ⟨_, _, rfl, by rw [RD.int], RDs.of_ints ns⟩
theorem RDs.bools : ∀ {bs : List Bool} {vs : List L2.V}, RDs K f H (bs.map D.bl) vs → vs = bs.map L2.V.bl
  | [], _, h => by rw [List.map_nil, RDs.nil] at h; subst h; rfl
  | n :: ns, _, h => by
    rw [List.map_cons, RDs.cons] at h
    obtain ⟨v, r, rfl, h2, h3⟩ := h
    rw [RD.bl] at h2
    rw [h2, RDs.bools h3]; rfl

/-! ### the store against the heap -/
/-- a list that may not be changed: frozen, or the module's -/
def FzL (K : Kf) (H : Hp) (a : Addr) (xs : List L2.V) : Prop :=
  (∃ o, H a = some (.frz o (.lst xs))) ∨
    ∃ (o : Obj) (its : Array Value) (n : Nat), K.lookup a = some o ∧ o.cls = .type "list" ∧ o.dict = none ∧ o.data = .seq its n ∧ its.size ≤ sizeLine ∧ L2.Vals xs its.toList
theorem FzL.sq {a : Addr} {xs : List L2.V} (h : FzL K H a xs) : L2.SqL K H a xs := by
  rcases h with h | h
  · exact .inl (.inr h)
  · exact .inr h
def RC (K : Kf) (f : List Addr) (H : Hp) : C → Addr → Prop
  | .lst ds, a => ∃ vs, H a = some (.lst vs) ∧ RDs K f H ds vs
  | .frz ds, a => ∃ vs, FzL K H a vs ∧ RDs K f H ds vs
  | .dic kvs, a => ∃ ks : List (L2.Key × L2.V), H a = some (.dK ks) ∧ ks.map (·.1) = kvs.map (·.1) ∧ RDs K f H (kvs.map (·.2)) (ks.map (·.2))
  | .frd kvs tk, a => H a = some (.frz tk.1 (.dK tk.2)) ∧ tk.2.map (·.1) = kvs.map (·.1) ∧ RDs K f H (kvs.map (·.2)) (tk.2.map (·.2))
/-- a cell that may be changed -/
def mutC : C → Bool
  | .frz _ => false
  | _ => true
structure RelS (K : Kf) (f : List Addr) (st : Store) (H : Hp) : Prop where
  len : f.length = st.length
  nd : ∀ (n m : Nat) (c c' : C) (a : Addr), st[n]? = some c → st[m]? = some c' → mutC c = true → mutC c' = true → f[n]? = some a → f[m]? = some a → n = m
  cell : ∀ (n : Nat) (c : C) (a : Addr), st[n]? = some c → f[n]? = some a → RC K f H c a
structure Rel (K : Kf) (f : List Addr) (ρ : Env) (st : Store) (σ : L2.St) (H : Hp) : Prop extends RelS K f st H where
  env : ∀ (i : Nat) (d : D), lk ρ i = some d → ∃ v, σ[i]? = some (some v) ∧ RD K f H d v
  le : ρ.length ≤ σ.length
theorem RelS.at (r : RelS K f st H) {n : Nat} {c : C} (h : st[n]? = some c) : ∃ a, f[n]? = some a ∧ RC K f H c a := by
  have hn := (List.getElem?_eq_some_iff.mp h).1
  have hn' : n < f.length := by rw [r.len]; exact hn
  exact ⟨f[n], by simp [hn'], r.cell n c _ h (by simp [hn'])⟩
theorem RelS.rdL (r : RelS K f st H) {n : Nat} {xs : List D} (h : rdL st n xs) : ∃ a vs, f[n]? = some a ∧ H a = some (.lst vs) ∧ RDs K f H xs vs := by
  obtain ⟨a, h1, vs, h2, h3⟩ := r.at h
  exact ⟨a, vs, h1, h2, h3⟩
theorem RelS.rdD (r : RelS K f st H) {n : Nat} {kvs : List (Sum Int Str × D)} (h : Pd.rdD st n kvs) : ∃ a ks, f[n]? = some a ∧ H a = some (.dK ks) ∧ ks.map (·.1) = kvs.map (·.1) ∧ RDs K f H (kvs.map (·.2)) (ks.map (·.2)) := by
  obtain ⟨a, h1, ks, h2, h3⟩ := r.at h
  exact ⟨a, ks, h1, h2, h3⟩
theorem RelS.rdDA (r : RelS K f st H) {n : Nat} {kvs : List (Sum Int Str × D)} (h : Pd.rdDA st n kvs) : ∃ a ks, f[n]? = some a ∧ L2.Rd H a (.dK ks) ∧ ks.map (·.1) = kvs.map (·.1) ∧ RDs K f H (kvs.map (·.2)) (ks.map (·.2)) := by
  rcases h with h | ⟨tk, h⟩
  · obtain ⟨a, h1, ks, h2, h3⟩ := r.at h
    exact ⟨a, ks, h1, .inl h2, h3⟩
  · obtain ⟨a, h1, h2, h3⟩ := r.at h
    exact ⟨a, tk.2, h1, .inr ⟨_, h2⟩, h3⟩
theorem RelS.rdA (r : RelS K f st H) {n : Nat} {xs : List D} (h : rdA st n xs) : ∃ a vs, f[n]? = some a ∧ L2.SqL K H a vs ∧ RDs K f H xs vs := by
  rcases h with h | h
  · obtain ⟨a, h1, vs, h2, h3⟩ := r.at h
    exact ⟨a, vs, h1, .of h2, h3⟩
  · obtain ⟨a, h1, vs, h2, h3⟩ := r.at h
    exact ⟨a, vs, h1, h2.sq, h3⟩
theorem Rel.later (r : Rel K f ρ st σ H) (e : Ext K f H f' H') (s : RelS K f' st' H') : Rel K f' ρ st' σ H' :=
  ⟨s, fun i d h => by
    obtain ⟨v, h1, h2⟩ := r.env i d h
    exact ⟨v, h1, h2.mono e⟩, r.le⟩
theorem lk_lt : ∀ {ρ : Env} {i : Nat} {d : D}, lk ρ i = some d → i < ρ.length
  | [], _, _, h => by simp [lk] at h
  | _ :: _, 0, _, _ => by simp
  | _ :: r, i + 1, _, h => by
    have := lk_lt (ρ := r) (i := i) (by simpa [lk] using h)
    simp; omega
theorem wipeE_length (ρ : Env) : ∀ vs : List Nat, (wipeE ρ vs).length = ρ.length
  | [] => rfl
  | v :: vs => by unfold wipeE; rw [List.length_set, wipeE_length ρ vs]
theorem lk_set {ρ : Env} {i j : Nat} {d x : D} (h : lk (ρ.set i (some x)) j = some d) : (j = i ∧ d = x) ∨ (j ≠ i ∧ lk ρ j = some d) := by
  induction ρ generalizing i j with
  | nil => simp [lk] at h
  | cons y r ih =>
    cases i with
    | zero =>
      cases j with
      | zero => simp [lk] at h; exact .inl ⟨rfl, h.symm⟩
      | succ j => simp [lk] at h; exact .inr ⟨by simp, by simpa [lk] using h⟩
    | succ i =>
      cases j with
      | zero => simp [lk] at h; exact .inr ⟨by simp, by simpa [lk] using h⟩
      | succ j =>
        simp [lk] at h
        rcases ih h with ⟨e, h⟩ | ⟨e, h⟩
        · exact .inl ⟨by omega, h⟩
        · exact .inr ⟨by omega, by simpa [lk] using h⟩
theorem lk_none {ρ : Env} {i j : Nat} {d : D} (h : lk (ρ.set i none) j = some d) : j ≠ i ∧ lk ρ j = some d := by
  induction ρ generalizing i j with
  | nil => simp [lk] at h
  | cons y r ih =>
    cases i with
    | zero =>
      cases j with
      | zero => simp [lk] at h
      | succ j => simp [lk] at h; exact ⟨by simp, by simpa [lk] using h⟩
    | succ i =>
      cases j with
      | zero => simp [lk] at h; exact ⟨by simp, by simpa [lk] using h⟩
      | succ j =>
        simp [lk] at h
        obtain ⟨e, h⟩ := ih h
        exact ⟨by omega, by simpa [lk] using h⟩
theorem lk_wipe {ρ : Env} {j : Nat} {d : D} : ∀ {vs : List Nat}, lk (wipeE ρ vs) j = some d → j ∉ vs ∧ lk ρ j = some d
  | [], h => ⟨by simp, h⟩
  | v :: vs, h => by
    unfold wipeE at h
    obtain ⟨h1, h2⟩ := lk_none h
    obtain ⟨h3, h4⟩ := lk_wipe h2
    exact ⟨by simp [h1, h3], h4⟩
/-- the slots a target may write: all others as they were -/
def Out (vs : List Nat) (σ σ' : L2.St) : Prop := σ'.length = σ.length ∧ ∀ j, j ∉ vs → σ'[j]? = σ[j]?
theorem Rel.put {i : Nat} {d : D} {v : L2.V} (r : Rel K f ρ st σ H) (h : RD K f H d v) : Rel K f (ρ.set i (some d)) st (σ.set i (some v)) H :=
  ⟨r.toRelS, fun j x hx => by
    have hl := lk_lt hx
    rw [List.length_set] at hl
    have hle := r.le
    rcases lk_set hx with ⟨rfl, rfl⟩ | ⟨ne, h'⟩
    · exact ⟨v, by rw [List.getElem?_set_self (by omega)], h⟩
    · obtain ⟨w, h1, h2⟩ := r.env j x h'
      exact ⟨w, by rw [List.getElem?_set_ne (Ne.symm ne)]; exact h1, h2⟩, by rw [List.length_set, List.length_set]; exact r.le⟩
theorem wipe_keep {σ : L2.St} {i : Nat} : ∀ {vs : List Nat}, i ∉ vs → (L2.wipe σ vs)[i]? = σ[i]?
  | [], _ => rfl
  | v :: vs, h => by
    have h1 : i ≠ v := fun e => h (by simp [e])
    unfold L2.wipe
    rw [List.getElem?_set_ne (Ne.symm h1)]
    exact wipe_keep fun e => h (List.mem_cons_of_mem _ e)
theorem Rel.wipe {vs : List Nat} (r : Rel K f ρ st σ H) : Rel K f (wipeE ρ vs) st (L2.wipe σ vs) H :=
  ⟨r.toRelS, fun j x hx => by
    obtain ⟨h1, h2⟩ := lk_wipe hx
    obtain ⟨v, h3, h4⟩ := r.env j x h2
    exact ⟨v, by rw [wipe_keep h1]; exact h3, h4⟩, by rw [wipeE_length, L2.wipe_length]; exact r.le⟩
theorem Out.wipe {vs : List Nat} {σ σ' : L2.St} (h : Out vs (L2.wipe σ vs) σ') : L2.wipe σ' vs = L2.wipe σ vs := by
  obtain ⟨h1, h2⟩ := h
  apply List.ext_getElem?
  intro j
  have wiped : ∀ (τ : L2.St) (ws : List Nat), j ∈ ws → (L2.wipe τ ws)[j]? = if j < τ.length then some none else none := by
    intro τ ws
    induction ws with
    | nil => intro h; cases h
    | cons v ws ih =>
      intro h
      unfold L2.wipe
      by_cases e : v = j
      · subst e
        by_cases hl : v < τ.length
        · rw [List.getElem?_set_self (by rw [L2.wipe_length]; exact hl), if_pos hl]
        · rw [List.getElem?_eq_none (by rw [List.length_set, L2.wipe_length]; omega), if_neg hl]
      · rw [List.getElem?_set_ne e]
        rcases List.mem_cons.mp h with q | q
        · exact absurd q.symm e
        · exact ih q
  by_cases hj : j ∈ vs
  · rw [wiped σ' vs hj, wiped σ vs hj, h1, L2.wipe_length]
  · rw [wipe_keep hj, h2 j hj]

/-! a new object, a changed one -/
/-- what may stand where something is laid or changed -/
def Wr (H : Hp) (b : Addr) : Prop := H b = none ∨ (∃ ys, H b = some (.lst ys)) ∨ (∃ ys, H b = some (.dK ys)) ∨ ∃ o ys, H b = some (.frz o (.dK ys))
theorem SqT.upd {a b : Addr} {xs : List L2.V} {o : L2.HO} (h : L2.SqT K H a xs) (n : Wr H b) : L2.SqT K (L2.upd H b o) a xs := by
  rcases h with (h | ⟨q, h⟩) | h
  · have : a ≠ b := by
      rintro rfl
      rcases n with n | ⟨ys, n⟩ | ⟨ys, n⟩ | ⟨o, ys, n⟩ <;> rw [n] at h <;> cases h
    exact .inl (.inl (by rw [L2.upd_ne this]; exact h))
  · have : a ≠ b := by
      rintro rfl
      rcases n with n | ⟨ys, n⟩ | ⟨ys, n⟩ | ⟨o, ys, n⟩ <;> rw [n] at h <;> cases h
    exact .inl (.inr ⟨q, by rw [L2.upd_ne this]; exact h⟩)
  · exact .inr h
theorem FzL.upd {a b : Addr} {xs : List L2.V} {o : L2.HO} (h : FzL K H a xs) (n : Wr H b) : FzL K (L2.upd H b o) a xs := by
  rcases h with ⟨q, h⟩ | h
  · have : a ≠ b := by
      rintro rfl
      rcases n with n | ⟨ys, n⟩ | ⟨ys, n⟩ | ⟨o, ys, n⟩ <;> rw [n] at h <;> cases h
    exact .inl ⟨q, by rw [L2.upd_ne this]; exact h⟩
  · exact .inr h
theorem Ext.upd {b : Addr} {o : L2.HO} {g : List Addr} (n : Wr H b) : Ext K f H (f ++ g) (L2.upd H b o) := ⟨⟨g, rfl⟩, fun _ _ h => SqT.upd h n⟩
theorem Ext.upd0 {b : Addr} {o : L2.HO} (n : Wr H b) : Ext K f H f (L2.upd H b o) := ⟨⟨[], by simp⟩, fun _ _ h => SqT.upd h n⟩
theorem RC.upd {c : C} {a b : Addr} {o : L2.HO} (h : RC K f H c a) (e : Ext K f H f' (L2.upd H b o)) (n : Wr H b) (ne : mutC c = true → a ≠ b) : RC K f' (L2.upd H b o) c a := by
  cases c with
  | lst ds =>
    obtain ⟨vs, h1, h2⟩ := h
    exact ⟨vs, by rw [L2.upd_ne (ne rfl)]; exact h1, h2.mono e⟩
  | frz ds =>
    obtain ⟨vs, h1, h2⟩ := h
    exact ⟨vs, h1.upd n, h2.mono e⟩
  | dic kvs =>
    obtain ⟨ks, h1, h2, h3⟩ := h
    exact ⟨ks, by rw [L2.upd_ne (ne rfl)]; exact h1, h2, h3.mono e⟩
  | frd kvs tk =>
    obtain ⟨h1, h2, h3⟩ := h
    exact ⟨by rw [L2.upd_ne (ne rfl)]; exact h1, h2, h3.mono e⟩
theorem RC.some {c : C} {a : Addr} (h : RC K f H c a) (m : mutC c = true) : H a ≠ none := by
  cases c with
  | lst ds => obtain ⟨vs, h1, _⟩ := h; rw [h1]; simp
  | frz ds => cases m
  | dic kvs => obtain ⟨ks, h1, _⟩ := h; rw [h1]; simp
  | frd kvs tk => obtain ⟨h1, _⟩ := h; rw [h1]; simp
/-- a new tracked object that is no cell (a tuple) -/
theorem RelS.lay (r : RelS K f st H) {p : Addr} {o : L2.HO} (hp : H p = none) : RelS K f st (L2.upd H p o) ∧ Ext K f H f (L2.upd H p o) := by
  have e : Ext K f H f (L2.upd H p o) := Ext.upd0 (.inl hp)
  exact ⟨⟨r.len, r.nd, fun n c a h1 h2 => (r.cell n c a h1 h2).upd e (.inl hp) fun m z => (r.cell n c a h1 h2).some m (z ▸ hp)⟩, e⟩
/-- a new cell -/
theorem RelS.new (r : RelS K f st H) {p : Addr} {o : L2.HO} {c : C} (hp : H p = none) (hc : RC K (f ++ [p]) (L2.upd H p o) c p) : RelS K (f ++ [p]) (st ++ [c]) (L2.upd H p o) ∧ Ext K f H (f ++ [p]) (L2.upd H p o) := by
  have e : Ext K f H (f ++ [p]) (L2.upd H p o) := Ext.upd (.inl hp)
  have split : ∀ {n : Nat} {c' : C} {a : Addr}, (st ++ [c])[n]? = some c' → (f ++ [p])[n]? = some a → (n < st.length ∧ st[n]? = some c' ∧ f[n]? = some a) ∨ (n = st.length ∧ c' = c ∧ a = p) := fun {n c' a} h1 h2 => by
    have hl := r.len
    by_cases hn : n < st.length
    · rw [List.getElem?_append_left hn] at h1
      rw [List.getElem?_append_left (by rw [r.len]; exact hn)] at h2
      exact .inl ⟨hn, h1, h2⟩
    · rw [List.getElem?_append_right (by omega)] at h1
      rw [List.getElem?_append_right (by rw [r.len]; omega)] at h2
      have e0 : n - st.length = 0 := by
        have := (List.getElem?_eq_some_iff.mp h1).1
        simp at this; omega
      rw [e0] at h1
      rw [hl, e0] at h2
      simp at h1 h2
      exact .inr ⟨by omega, h1.symm, h2.symm⟩
  refine ⟨⟨by simp [r.len], fun n m c1 c2 a h1 h2 m1 m2 h3 h4 => ?_, fun n c' a h1 h2 => ?_⟩, e⟩
  · rcases split h1 h3 with ⟨l1, s1, t1⟩ | ⟨l1, rfl, rfl⟩ <;> rcases split h2 h4 with ⟨l2, s2, t2⟩ | ⟨l2, rfl, e2⟩
    · exact r.nd n m c1 c2 a s1 s2 m1 m2 t1 t2
    · subst e2
      exact absurd hp ((r.cell n c1 _ s1 t1).some m1)
    · exact absurd hp ((r.cell m c2 _ s2 t2).some m2)
    · omega
  · rcases split h1 h2 with ⟨l1, s1, t1⟩ | ⟨l1, rfl, rfl⟩
    · exact (r.cell n c' a s1 t1).upd e (.inl hp) fun m z => (r.cell n c' a s1 t1).some m (z ▸ hp)
    · exact hc
/-- a cell is changed -/
theorem RelS.chg (r : RelS K f st H) {p : Addr} {n : Nat} {c c' : C} {o : L2.HO} (hs : st[n]? = some c) (hm : mutC c = true) (hn : f[n]? = some p) (hp : Wr H p) (hm' : mutC c' = true) (hd : RC K f (L2.upd H p o) c' p) :
    RelS K f (st.set n c') (L2.upd H p o) ∧ Ext K f H f (L2.upd H p o) := by
  have e : Ext K f H f (L2.upd H p o) := Ext.upd0 hp
  have hl : n < st.length := (List.getElem?_eq_some_iff.mp hs).1
  have split : ∀ {m : Nat} {d : C}, (st.set n c')[m]? = some d → (m = n ∧ d = c') ∨ (m ≠ n ∧ st[m]? = some d) := fun {m d} h => by
    by_cases hmn : m = n
    · subst hmn
      rw [List.getElem?_set_self hl] at h
      cases h
      exact .inl ⟨rfl, rfl⟩
    · rw [List.getElem?_set_ne (Ne.symm hmn)] at h
      exact .inr ⟨hmn, h⟩
  refine ⟨⟨by simp [r.len], fun i j c1 c2 a h1 h2 m1 m2 h3 h4 => ?_, fun m d a h1 h2 => ?_⟩, e⟩
  · rcases split h1 with ⟨rfl, rfl⟩ | ⟨n1, s1⟩ <;> rcases split h2 with ⟨rfl, rfl⟩ | ⟨n2, s2⟩
    · rfl
    · exact r.nd _ _ _ _ a hs s2 hm m2 h3 h4
    · exact r.nd _ _ _ _ a s1 hs m1 hm h3 h4
    · exact r.nd _ _ _ _ a s1 s2 m1 m2 h3 h4
  · rcases split h1 with ⟨rfl, rfl⟩ | ⟨n1, s1⟩
    · rw [hn] at h2; cases h2
      exact hd
    · exact (r.cell m d a s1 h2).upd e hp fun md z => by
        subst z
        exact n1 (r.nd _ _ _ _ a s1 hs md hm h2 hn)
end
end Pd
end PartPdSoundA

section PartPdSoundB
set_option Elab.async false
set_option linter.all false
set_option maxRecDepth 100000
set_option maxHeartbeats 1000000
/-! Pd over the hand layer: lifting, expressions. Own work. -/
namespace Pd
open PySem PySem.Spec

/-! ### what is wanted, lifted -/
def LQ (K : Kf) (f : List Addr) (H : Hp) (Q' : Pd.K) (Q : L2.VK) : Prop :=
  ∀ (d : D) (st' : Store) (v : L2.V) (f' : List Addr) (H' : Hp), Q' d st' → Ext K f H f' H' → RelS K f' st' H' → RD K f' H' d v → Q v H'
def LT (K : Kf) (f : List Addr) (H : Hp) (Q' : Bool → Store → Prop) (Q : Bool → Hp → Prop) : Prop :=
  ∀ (b : Bool) (st' : Store) (f' : List Addr) (H' : Hp), Q' b st' → Ext K f H f' H' → RelS K f' st' H' → Q b H'
def LA (K : Kf) (f : List Addr) (H : Hp) (Q' : List D → Store → Prop) (Q : List L2.V → Hp → Prop) : Prop :=
  ∀ (ds : List D) (st' : Store) (vs : List L2.V) (f' : List Addr) (H' : Hp), Q' ds st' → Ext K f H f' H' → RelS K f' st' H' → RDs K f' H' ds vs → Q vs H'
def lift (K : Kf) (t : TE) : L2.TE := fun σ H Q => ∃ f ρ st Q', Rel K f ρ st σ H ∧ t ρ st Q' ∧ LQ K f H Q' Q
def liftT (K : Kf) (t : TT) : L2.TT := fun σ H Q => ∃ f ρ st Q', Rel K f ρ st σ H ∧ t ρ st Q' ∧ LT K f H Q' Q
def liftA (K : Kf) (t : TA) : L2.TA := fun σ H Q => ∃ f ρ st Q', Rel K f ρ st σ H ∧ t ρ st Q' ∧ LA K f H Q' Q
abbrev PD (X : L2.Cx) (e : Expr) (t : TE) : Prop := L2.PE X e (lift X.K t)
abbrev PDT (X : L2.Cx) (e : Expr) (t : TT) : Prop := L2.PT X e (liftT X.K t)
abbrev PDA (X : L2.Cx) (es : List Expr) (t : TA) : Prop := L2.PA X es (liftA X.K t)
section
variable {X : L2.Cx} {K : Kf} {f f' : List Addr} {H H' : Hp} {st st' : Store} {ρ : Env} {σ : L2.St}
theorem pe_imp {e : Expr} {t t' : L2.TE} (h : L2.PE X e t) (m : ∀ σ H Q, t' σ H Q → t σ H Q) : L2.PE X e t' := ⟨fun pins s σ H Q I q => h.run pins s σ H Q I (m σ H Q q)⟩
theorem pt_imp {e : Expr} {t t' : L2.TT} (h : L2.PT X e t) (m : ∀ σ H Q, t' σ H Q → t σ H Q) : L2.PT X e t' := ⟨fun pins s σ H Q I q => h.run pins s σ H Q I (m σ H Q q)⟩
theorem pa_imp {e : List Expr} {t t' : L2.TA} (h : L2.PA X e t) (m : ∀ σ H Q, t' σ H Q → t σ H Q) : L2.PA X e t' := ⟨fun pos pins s σ H Q I q => h.run pos pins s σ H Q I (m σ H Q q)⟩
theorem LQ.later {Q' : Pd.K} {Q : L2.VK} (l : LQ K f H Q' Q) (e : Ext K f H f' H') : LQ K f' H' Q' Q := fun d st' v f2 H2 q e2 s r => l d st' v f2 H2 q (e.trans e2) s r
theorem LQ.now {Q' : Pd.K} {Q : L2.VK} {d : D} {v : L2.V} (l : LQ K f H Q' Q) (s : RelS K f st H) (q : Q' d st) (r : RD K f H d v) : Q v H := l d st v f H q .refl s r
/-- a new tuple -/
theorem LQ.tup {Q' : Pd.K} {Q : L2.VK} {ds : List D} {vs : List L2.V} (l : LQ K f H Q' Q) (s : RelS K f st H) (q : Q' (.tup ds) st) (r : RDs K f H ds vs) {p : Addr} (hp : H p = none) : Q (.ref p) (L2.upd H p (.tup vs)) := by
  obtain ⟨s', e⟩ := s.lay (o := .tup vs) hp
  exact l _ st _ f _ q e s' (RD.tup.mpr ⟨p, vs, rfl, .of L2.upd_same, r.mono e⟩)
/-- a new list -/
theorem LQ.lst {Q' : Pd.K} {Q : L2.VK} {ds : List D} {vs : List L2.V} (l : LQ K f H Q' Q) (s : RelS K f st H) (q : Q' (.ref st.length) (st ++ [.lst ds])) (r : RDs K f H ds vs) {p : Addr} (hp : H p = none) : Q (.ref p) (L2.upd H p (.lst vs)) := by
  have e : Ext K f H (f ++ [p]) (L2.upd H p (.lst vs)) := Ext.upd (.inl hp)
  obtain ⟨s', e⟩ := s.new (o := .lst vs) (c := .lst ds) hp ⟨vs, L2.upd_same, r.mono e⟩
  exact l _ _ _ _ _ q e s' (RD.ref.mpr ⟨p, by rw [← s.len]; simp, rfl⟩)
/-- a changed list -/
theorem RelS.put {n : Nat} {a : Addr} {xs ds : List D} {vs ws : List L2.V} (s : RelS K f st H) (hn : f[n]? = some a) (h : Pd.rdL st n xs) (hH : H a = some (.lst vs)) (r : RDs K f H ds ws) :
    RelS K f (st.set n (.lst ds)) (L2.upd H a (.lst ws)) ∧ Ext K f H f (L2.upd H a (.lst ws)) :=
  s.chg (c := .lst xs) h rfl hn (.inr (.inl ⟨vs, hH⟩)) rfl ⟨ws, L2.upd_same, r.mono (Ext.upd0 (.inr (.inl ⟨vs, hH⟩)))⟩

/-! ### names, constants -/
theorem pd_var {i : Nat} {x : Str} {pos : Pos} (hN : X.N[i]? = some x) (hv : L2.Vis X.env.scope x := by first | exact .inl rfl | exact .inr (.inl rfl) | exact .inr (.inr rfl)) (hd : (x == ("__debug__" : Str)) = false := by decide) (hcd : (x == ("__classdict__" : Str)) = false := by decide) : PD X (.Name x pos) (dVar i) := by
  refine pe_imp (L2.pe_var hN hv hd hcd) fun σ H Q ⟨f, ρ, st, Q', R, ⟨d, h1, h2⟩, l⟩ => ?_
  obtain ⟨v, e, r⟩ := R.env i d h1
  exact ⟨v, e, l.now R.toRelS h2 r⟩
theorem pd_int {i : Int} {j pos} : PD X (.Constant (.int i) j pos) (dC (.int i)) := pe_imp L2.pe_int fun σ H Q ⟨f, ρ, st, Q', R, h, l⟩ => l.now R.toRelS h (RD.int.mpr rfl)
theorem pd_bl {b : Bool} {j pos} : PD X (.Constant (.bool b) j pos) (dC (.bl b)) := pe_imp L2.pe_bl fun σ H Q ⟨f, ρ, st, Q', R, h, l⟩ => l.now R.toRelS h (RD.bl.mpr rfl)
theorem pd_non {j pos} : PD X (.Constant .none j pos) (dC .non) := pe_imp L2.pe_non fun σ H Q ⟨f, ρ, st, Q', R, h, l⟩ => l.now R.toRelS h (RD.non.mpr rfl)
theorem pd_str {x : Str} {j pos} : PD X (.Constant (.str x) j pos) (dC (.str x)) := pe_imp L2.pe_str fun σ H Q ⟨f, ρ, st, Q', R, h, l⟩ => l.now R.toRelS h (RD.str.mpr rfl)
/-- a constant of the module: data -/
theorem pd_glob {x : Str} {d : D} {u : Value} {pos : Pos} (hg : L2.Gl X x) (hm : X.mg x = some u) (h : ∃ v, L2.RelV v u ∧ ∀ f H, RD X.K f H d v) (hd : (x == ("__debug__" : Str)) = false := by decide) : PD X (.Name x pos) (dC d) := by
  obtain ⟨v, r, hr⟩ := h
  exact pe_imp (L2.pe_glob hg hm r hd) fun σ H Q ⟨f, ρ, st, Q', R, h, l⟩ => l.now R.toRelS h (hr f H)

/-! ### operators -/
def Real2 (K : Kf) (r : L2.R2) (k : K2) : Prop := ∀ (f : List Addr) (st : Store) (H : Hp) (x y : D) (v w : L2.V) (Q' : Pd.K) (Q : L2.VK), RelS K f st H → RD K f H x v → RD K f H y w → k x y st Q' → LQ K f H Q' Q → r v w H Q
def Real1 (K : Kf) (r : L2.V → Hp → L2.VK → Prop) (k : D → Store → Pd.K → Prop) : Prop := ∀ (f : List Addr) (st : Store) (H : Hp) (x : D) (v : L2.V) (Q' : Pd.K) (Q : L2.VK), RelS K f st H → RD K f H x v → k x st Q' → LQ K f H Q' Q → r v H Q
theorem two_imp {r : L2.R2} {k : K2} {ta tb : TE} (hr : Real2 K r k) {Q : L2.VK} (h : lift K (dOp k ta tb) σ H Q) : L2.tOp r (lift K ta) (lift K tb) σ H Q := by
  obtain ⟨f, ρ, st, Q', R, h, l⟩ := h
  refine ⟨f, ρ, st, _, R, h, fun x st1 v f1 H1 h1 e1 s1 r1 => ⟨f1, ρ, st1, _, R.later e1 s1, h1, fun y st2 w f2 H2 h2 e2 s2 r2 => ?_⟩⟩
  exact hr f2 st2 H2 x y v w Q' Q s2 (r1.mono e2) r2 h2 (l.later (e1.trans e2))
section
variable {a b c : Expr} {ta tb tc : TE} {pos : Pos}
theorem pd_op {op : Operator} {r : L2.R2} {k : K2} (ho : L2.OpR X (binaryOp op) r) (hr : Real2 X.K r k) (ha : PD X a ta) (hb : PD X b tb) : PD X (.BinOp a op b pos) (dOp k ta tb) :=
  pe_imp (L2.pe_op ho ha hb) fun σ H Q h => two_imp hr h
theorem pd_un {op : UnaryOp} {r : L2.V → Hp → L2.VK → Prop} {k : D → Store → Pd.K → Prop} (ho : L2.UnR X (unaryOp op) r) (hr : Real1 X.K r k) (ha : PD X a ta) : PD X (.UnaryOp op a pos) (dUn k ta) := by
  refine pe_imp (L2.pe_un ho ha) fun σ H Q ⟨f, ρ, st, Q', R, h, l⟩ => ?_
  exact ⟨f, ρ, st, _, R, h, fun x st1 v f1 H1 h1 e1 s1 r1 => hr f1 st1 H1 x v Q' Q s1 r1 h1 (l.later e1)⟩
end
theorem real_int {g : Int → Int → Int} {C : Int → Int → Prop} {k : K2} (hk : ∀ x y st Q, k x y st Q → ∃ i j, x = .int i ∧ y = .int j ∧ C i j ∧ Q (.int (g i j)) st) : Real2 K (L2.rI C fun i j => .int (g i j)) k := by
  intro f st H x y v w Q' Q s r1 r2 h l
  obtain ⟨i, j, rfl, rfl, hc, q⟩ := hk x y st Q' h
  rw [RD.int] at r1 r2
  exact ⟨i, j, r1, r2, hc, l.now s q (RD.int.mpr rfl)⟩
theorem real_int0 {g : Int → Int → Int} {k : K2} (hk : ∀ x y st Q, k x y st Q → ∃ i j, x = .int i ∧ y = .int j ∧ Q (.int (g i j)) st) : Real2 K (L2.rI0 fun i j => .int (g i j)) k := by
  intro f st H x y v w Q' Q s r1 r2 h l
  obtain ⟨i, j, rfl, rfl, q⟩ := hk x y st Q' h
  rw [RD.int] at r1 r2
  exact ⟨i, j, r1, r2, l.now s q (RD.int.mpr rfl)⟩
/-- + -/
def rAdd (K : Kf) : L2.R2 := fun x y H Q => (∃ i j, x = .int i ∧ y = .int j ∧ Q (.int (i + j)) H) ∨ (∃ i j, x = .str i ∧ y = .str j ∧ i.length + j.length ≤ sizeLine ∧ Q (.str (i ++ j)) H) ∨ L2.rCatA K x y H Q ∨ L2.rCat x y H Q
theorem op_addA : L2.OpR X (binaryOp .Add) (rAdd X.K) := (L2.op_add (X := X)).or (L2.op_add_str.or (L2.op_catA.or L2.op_cat))
theorem RDs.isNil {ds : List D} {vs : List L2.V} (h : RDs K f H ds vs) : ds = [] ↔ vs = [] := by
  have := h.length
  constructor
  · rintro rfl; exact List.length_eq_zero_iff.mp (by simpa using this)
  · rintro rfl; exact List.length_eq_zero_iff.mp (by simpa using this.symm)
theorem real_add : Real2 K (rAdd K) addK := by
  intro f st H x y v w Q' Q s r1 r2 h l
  cases x <;> cases y <;> try (exact h.elim)
  · rw [RD.int] at r1 r2
    exact .inl ⟨_, _, r1, r2, l.now s h (RD.int.mpr rfl)⟩
  · rw [RD.str] at r1 r2
    obtain ⟨h1, h2⟩ := h
    exact .inr (.inl ⟨_, _, r1, r2, by rw [← szl_eq]; exact h1, l.now s h2 (RD.str.mpr rfl)⟩)
  · rw [RD.tup] at r1 r2
    obtain ⟨a, vs, rfl, t1, d1⟩ := r1
    obtain ⟨b, ws, rfl, t2, d2⟩ := r2
    obtain ⟨h1, h2⟩ := h
    refine .inr (.inr (.inl ⟨a, b, vs, ws, rfl, rfl, t1, t2, by rw [d1.length, d2.length, ← szl_eq]; exact h1, fun e => ?_, fun _ e => ?_, fun _ _ p hp => ?_⟩))
    · have e' := d1.isNil.mpr e
      subst e'
      exact l.now s h2 (RD.tup.mpr ⟨b, ws, rfl, t2, d2⟩)
    · have e' := d2.isNil.mpr e
      subst e'
      rw [List.append_nil] at h2
      exact l.now s h2 (RD.tup.mpr ⟨a, vs, rfl, t1, d1⟩)
    · exact l.tup s h2 (d1.append d2) hp
  · rw [RD.ref] at r1 r2
    obtain ⟨a, e1, rfl⟩ := r1
    obtain ⟨b, e2, rfl⟩ := r2
    obtain ⟨xs, ys, h1, h2, h3, h4⟩ := h
    obtain ⟨a', vs, g1, g2, g3⟩ := s.rdL h1
    obtain ⟨b', ws, k1, k2, k3⟩ := s.rdL h2
    rw [e1] at g1; cases g1
    rw [e2] at k1; cases k1
    exact .inr (.inr (.inr ⟨a, b, vs, ws, rfl, rfl, g2, k2, by rw [g3.length, k3.length, ← szl_eq]; exact h3, fun p hp => l.lst s h4 (g3.append k3) hp⟩))
theorem real_sub : Real2 K (L2.rI0 fun i j => .int (i - j)) subK := real_int0 fun x y st Q h => by
  cases x <;> cases y <;> first | exact h.elim | exact ⟨_, _, rfl, rfl, h⟩
def rMul : L2.R2 := fun x y H Q => L2.rI L2.CMul (fun i j => .int (i * j)) x y H Q ∨ L2.rRep x y H Q
theorem op_mulA : L2.OpR X (binaryOp .Mult) rMul := (L2.op_mul (X := X)).or L2.op_rep
theorem RDs.rep {ds : List D} {vs : List L2.V} (h : RDs K f H ds vs) : ∀ n : Nat, RDs K f H (List.replicate n ds).flatten (List.replicate n vs).flatten
  | 0 => by simp [RDs.nil]
  | n + 1 => by
    rw [List.replicate_succ, List.replicate_succ, List.flatten_cons, List.flatten_cons]
    exact h.append (RDs.rep h n)
theorem real_mul : Real2 K rMul mulK := by
  intro f st H x y v w Q' Q s r1 r2 h l
  cases x <;> cases y <;> try (exact h.elim)
  · rw [RD.int] at r1 r2
    obtain ⟨h1, h2⟩ := h
    exact .inl ⟨_, _, r1, r2, h1, l.now s h2 (RD.int.mpr rfl)⟩
  · rw [RD.ref] at r1
    rw [RD.int] at r2
    obtain ⟨a, e1, rfl⟩ := r1
    obtain ⟨xs, h1, h2, h3, h4, h5⟩ := h
    obtain ⟨a', vs, g1, g2, g3⟩ := s.rdL h1
    rw [e1] at g1; cases g1
    exact .inr ⟨a, _, vs, rfl, r2, g2, h2, h3, by rw [g3.length, ← szl_eq]; exact h4, fun p hp => l.lst s h5 (g3.rep _) hp⟩
theorem real_fdiv : Real2 K (L2.rI L2.CDiv fun i j => .int (i / j)) fdivK := real_int fun x y st Q h => by
  cases x <;> cases y <;> first | exact h.elim | exact ⟨_, _, rfl, rfl, h⟩
theorem real_mod : Real2 K (L2.rI (fun _ j => 0 < j) fun i j => .int (i % j)) modK := real_int fun x y st Q h => by
  cases x <;> cases y <;> first | exact h.elim | exact ⟨_, _, rfl, rfl, h⟩
theorem real_pow : Real2 K (L2.rI L2.CPow fun i j => .int (i ^ j.toNat)) powK := real_int fun x y st Q h => by
  cases x <;> cases y <;> first | exact h.elim | exact ⟨_, _, rfl, rfl, h⟩
theorem real_shl : Real2 K (L2.rI L2.CPow fun i j => .int (i * 2 ^ j.toNat)) shlK := real_int fun x y st Q h => by
  cases x <;> cases y <;> first | exact h.elim | exact ⟨_, _, rfl, rfl, h⟩
theorem real_shr : Real2 K (L2.rI (fun _ j => 0 ≤ j) fun i j => .int (i / 2 ^ j.toNat)) shrK := real_int fun x y st Q h => by
  cases x <;> cases y <;> first | exact h.elim | exact ⟨_, _, rfl, rfl, h⟩
theorem real_and : Real2 K (L2.rI0 fun i j => .int (Builtin.bitAnd i j)) andK := real_int0 fun x y st Q h => by
  cases x <;> cases y <;> first | exact h.elim | exact ⟨_, _, rfl, rfl, h⟩
theorem real_or : Real2 K (L2.rI0 fun i j => .int (Builtin.bitOr i j)) orK := real_int0 fun x y st Q h => by
  cases x <;> cases y <;> first | exact h.elim | exact ⟨_, _, rfl, rfl, h⟩
theorem real_xor : Real2 K (L2.rI0 fun i j => .int (Builtin.bitXor i j)) xorK := real_int0 fun x y st Q h => by
  cases x <;> cases y <;> first | exact h.elim | exact ⟨_, _, rfl, rfl, h⟩
theorem real_neg : Real1 K (L2.rU fun i => .int (-i)) negK := by
  intro f st H x v Q' Q s r1 h l
  cases x <;> try (exact h.elim)
  rw [RD.int] at r1
  exact ⟨_, r1, l.now s h (RD.int.mpr rfl)⟩
theorem real_inv : Real1 K (L2.rU fun i => .int (Builtin.bitNot i)) invK := by
  intro f st H x v Q' Q s r1 h l
  cases x <;> try (exact h.elim)
  rw [RD.int] at r1
  exact ⟨_, r1, l.now s h (RD.int.mpr rfl)⟩
section
variable {a b c : Expr} {ta tb tc : TE} {pos : Pos}
theorem pd_add (ha : PD X a ta) (hb : PD X b tb) : PD X (.BinOp a .Add b pos) (dOp addK ta tb) := pd_op op_addA real_add ha hb
theorem pd_sub (ha : PD X a ta) (hb : PD X b tb) : PD X (.BinOp a .Sub b pos) (dOp subK ta tb) := pd_op L2.op_sub real_sub ha hb
theorem pd_mul (ha : PD X a ta) (hb : PD X b tb) : PD X (.BinOp a .Mult b pos) (dOp mulK ta tb) := pd_op op_mulA real_mul ha hb
theorem pd_fdiv (ha : PD X a ta) (hb : PD X b tb) : PD X (.BinOp a .FloorDiv b pos) (dOp fdivK ta tb) := pd_op L2.op_fdiv real_fdiv ha hb
theorem pd_mod (ha : PD X a ta) (hb : PD X b tb) : PD X (.BinOp a .Mod b pos) (dOp modK ta tb) := pd_op L2.op_mod real_mod ha hb
theorem pd_pow (ha : PD X a ta) (hb : PD X b tb) : PD X (.BinOp a .Pow b pos) (dOp powK ta tb) := pd_op L2.op_pow real_pow ha hb
theorem pd_shl (ha : PD X a ta) (hb : PD X b tb) : PD X (.BinOp a .LShift b pos) (dOp shlK ta tb) := pd_op L2.op_shl real_shl ha hb
theorem pd_shr (ha : PD X a ta) (hb : PD X b tb) : PD X (.BinOp a .RShift b pos) (dOp shrK ta tb) := pd_op L2.op_shr real_shr ha hb
theorem pd_and (ha : PD X a ta) (hb : PD X b tb) : PD X (.BinOp a .BitAnd b pos) (dOp andK ta tb) := pd_op L2.op_and real_and ha hb
theorem pd_or (ha : PD X a ta) (hb : PD X b tb) : PD X (.BinOp a .BitOr b pos) (dOp orK ta tb) := pd_op L2.op_or real_or ha hb
theorem pd_xor (ha : PD X a ta) (hb : PD X b tb) : PD X (.BinOp a .BitXor b pos) (dOp xorK ta tb) := pd_op L2.op_xor real_xor ha hb
theorem pd_neg (ha : PD X a ta) : PD X (.UnaryOp .USub a pos) (dUn negK ta) := pd_un L2.un_neg real_neg ha
theorem pd_inv (ha : PD X a ta) : PD X (.UnaryOp .Invert a pos) (dUn invK ta) := pd_un L2.un_inv real_inv ha
end

/-! ### comparisons -/
mutual
def toP : D → PyData
  | .non => .none
  | .bl b => .bool b
  | .int i => .int i
  | .str x => .str x
  | .tup xs => .tuple (toPs xs)
  | .ref _ => .none
def toPs : List D → List PyData
  | [] => []
  | x :: xs => toP x :: toPs xs
end
theorem strOk_of {x : Str} (h : okS x = true) : PyData.strOk x = true := by
  unfold okS at h
  unfold PyData.strOk
  rw [← Array.all_toList]
  exact h
mutual
theorem toP_dp {n : Nat} : ∀ (d : D) {v : L2.V}, D.okd n d = true → RD K f H d v → L2.Dp K H v (toP d)
  | .non, _, _, h => by rw [RD.non] at h; subst h; exact .non
  | .bl b, _, _, h => by rw [RD.bl] at h; subst h; exact .bl b
  | .int i, _, _, h => by rw [RD.int] at h; subst h; exact .int i
  | .str x, _, _, h => by rw [RD.str] at h; subst h; exact .str x
  | .ref _, _, ok, h => by simp [D.okd] at ok
  | .tup xs, _, ok, h => by
    cases n with
    | zero => simp [D.okd] at ok
    | succ n =>
      rw [RD.tup] at h
      obtain ⟨a, vs, rfl, h1, h2⟩ := h
      exact .tup h1 (toPs_dp xs (n := n) (by simpa [D.okd] using ok) h2)
theorem toPs_dp {n : Nat} : ∀ (ds : List D) {vs : List L2.V}, okds n ds = true → RDs K f H ds vs → L2.DpAll K H vs (toPs ds)
  | [], _, _, h => by rw [RDs.nil] at h; subst h; exact .nil
  | d :: ds, _, ok, h => by
    rw [RDs.cons] at h
    obtain ⟨v, r, rfl, h1, h2⟩ := h
    have ok' : D.okd n d = true ∧ okds n ds = true := by simpa [okds] using ok
    exact .cons (toP_dp d ok'.1 h1) (toPs_dp ds ok'.2 h2)
end
mutual
theorem toP_ok {n : Nat} : ∀ (d : D), D.okd n d = true → (toP d).canLay0 = true ∧ (toP d).depth ≤ n
  | .non, _ => by simp [toP, PyData.canLay0, PyData.depth]
  | .bl b, _ => by simp [toP, PyData.canLay0, PyData.depth]
  | .int i, _ => by simp [toP, PyData.canLay0, PyData.depth]
  | .str x, ok => by
    have : okS x = true := by simpa [D.okd] using ok
    simp [toP, PyData.canLay0, PyData.depth, strOk_of this]
  | .ref _, ok => by simp [D.okd] at ok
  | .tup xs, ok => by
    cases n with
    | zero => simp [D.okd] at ok
    | succ n =>
      obtain ⟨h1, h2⟩ := toPs_ok xs (n := n) (by simpa [D.okd] using ok)
      simp [toP, PyData.canLay0, PyData.depth, h1, h2]
theorem toPs_ok {n : Nat} : ∀ (ds : List D), okds n ds = true → PyData.canLayAll0 (toPs ds) = true ∧ PyData.depthAll (toPs ds) ≤ n
  | [], _ => by simp [toPs, PyData.canLayAll0, PyData.depthAll]
  | d :: ds, ok => by
    have ok' : D.okd n d = true ∧ okds n ds = true := by simpa [okds] using ok
    obtain ⟨h1, h2⟩ := toP_ok d ok'.1
    obtain ⟨h3, h4⟩ := toPs_ok ds ok'.2
    simp [toPs, PyData.canLayAll0, PyData.depthAll, h1, h3]
    omega
end
theorem shaped_of {d : D} (h : D.okd 60 d = true) : SeqAt.shaped (toP d) = true := by
  obtain ⟨h1, h2⟩ := toP_ok d h
  unfold SeqAt.shaped
  rw [h1, decide_eq_true (by omega)]
  rfl
theorem shaped_ofs {ds : List D} (h : okds 60 ds = true) : SeqAt.shaped (.list (toPs ds)) = true := by
  obtain ⟨h1, h2⟩ := toPs_ok ds h
  have e1 : (PyData.list (toPs ds)).canLay0 = true := by simpa [PyData.canLay0] using h1
  have e2 : (PyData.list (toPs ds)).depth = PyData.depthAll (toPs ds) + 1 := by simp [PyData.depth]
  unfold SeqAt.shaped
  rw [e1, e2, decide_eq_true (by omega)]
  rfl
mutual
theorem toP_eqv {n m : Nat} : ∀ (d e : D), D.okd n d = true → D.okd m e = true → PyData.eqv (toP d) (toP e) = D.eqb d e
  | .tup xs, .tup ys, h1, h2 => by
    cases n with
    | zero => simp [D.okd] at h1
    | succ n =>
      cases m with
      | zero => simp [D.okd] at h2
      | succ m => simpa [toP, PyData.eqv, D.eqb] using toPs_eqv xs ys (n := n) (m := m) (by simpa [D.okd] using h1) (by simpa [D.okd] using h2)
  | .ref _, _, h1, _ => by simp [D.okd] at h1
  | d, .ref _, _, h2 => by simp [D.okd] at h2
  | .non, .non, _, _ => by simp [toP, PyData.eqv, D.eqb]
  | .non, .bl _, _, _ => by simp [toP, PyData.eqv, D.eqb]
  | .non, .int _, _, _ => by simp [toP, PyData.eqv, D.eqb]
  | .non, .str _, _, _ => by simp [toP, PyData.eqv, D.eqb]
  | .non, .tup _, _, _ => by simp [toP, PyData.eqv, D.eqb]
  | .bl _, .non, _, _ => by simp [toP, PyData.eqv, D.eqb]
  | .bl _, .bl _, _, _ => by simp [toP, PyData.eqv, D.eqb]
  | .bl b, .int _, _, _ => by cases b <;> simp [toP, PyData.eqv, D.eqb, b2i]
  | .bl _, .str _, _, _ => by simp [toP, PyData.eqv, D.eqb]
  | .bl _, .tup _, _, _ => by simp [toP, PyData.eqv, D.eqb]
  | .int _, .non, _, _ => by simp [toP, PyData.eqv, D.eqb]
  | .int _, .bl b, _, _ => by cases b <;> simp [toP, PyData.eqv, D.eqb, b2i]
  | .int _, .int _, _, _ => by simp [toP, PyData.eqv, D.eqb]
  | .int _, .str _, _, _ => by simp [toP, PyData.eqv, D.eqb]
  | .int _, .tup _, _, _ => by simp [toP, PyData.eqv, D.eqb]
  | .str _, .non, _, _ => by simp [toP, PyData.eqv, D.eqb]
  | .str _, .bl _, _, _ => by simp [toP, PyData.eqv, D.eqb]
  | .str _, .int _, _, _ => by simp [toP, PyData.eqv, D.eqb]
  | .str x, .str y, _, _ => by simp only [toP, PyData.eqv, D.eqb]; by_cases h : x = y <;> simp [h]
  | .str _, .tup _, _, _ => by simp [toP, PyData.eqv, D.eqb]
  | .tup _, .non, _, _ => by simp [toP, PyData.eqv, D.eqb]
  | .tup _, .bl _, _, _ => by simp [toP, PyData.eqv, D.eqb]
  | .tup _, .int _, _, _ => by simp [toP, PyData.eqv, D.eqb]
  | .tup _, .str _, _, _ => by simp [toP, PyData.eqv, D.eqb]
theorem toPs_eqv {n m : Nat} : ∀ (ds es : List D), okds n ds = true → okds m es = true → PyData.eqvAll (toPs ds) (toPs es) = eqbs ds es
  | [], [], _, _ => by simp [toPs, PyData.eqvAll, eqbs]
  | [], _ :: _, _, _ => by simp [toPs, PyData.eqvAll, eqbs]
  | _ :: _, [], _, _ => by simp [toPs, PyData.eqvAll, eqbs]
  | d :: ds, e :: es, h1, h2 => by
    have ok1 : D.okd n d = true ∧ okds n ds = true := by simpa [okds] using h1
    have ok2 : D.okd m e = true ∧ okds m es = true := by simpa [okds] using h2
    simp [toPs, PyData.eqvAll, eqbs, toP_eqv d e ok1.1 ok2.1, toPs_eqv ds es ok1.2 ok2.2]
end
/-- a comparison's rule against the data-level one -/
def RealC (K : Kf) (r : L2.R2) (k : KC) : Prop := ∀ (f : List Addr) (st : Store) (H : Hp) (x y : D) (v w : L2.V) (Q' : Bool → Prop) (Q : L2.VK), RelS K f st H → RD K f H x v → RD K f H y w → k x y st Q' → (∀ b, Q' b → Q (.bl b) H) → r v w H Q
theorem RealC.real {r : L2.R2} {k : KC} (h : RealC K r k) : Real2 K r fun x y st Q => k x y st fun b => Q (.bl b) st := fun f st H x y v w Q' Q s r1 r2 hk l =>
  h f st H x y v w _ Q s r1 r2 hk fun b q => l.now s q (RD.bl.mpr rfl)
theorem eqC_dp {x y : D} {v w : L2.V} {Q' : Bool → Prop} (s : RelS K f st H) (r1 : RD K f H x v) (r2 : RD K f H y w) (h : eqC x y st Q') :
    ∃ d e, L2.Dp K H v d ∧ L2.Dp K H w e ∧ SeqAt.shaped d = true ∧ SeqAt.shaped e = true ∧ Q' (PyData.eqv d e) := by
  have lst : ∀ {n : Nat} {xs : List D} {u : L2.V}, rdA st n xs → okds 60 xs = true → RD K f H (.ref n) u → L2.Dp K H u (.list (toPs xs)) := fun {n xs u} h1 h2 h3 => by
    rw [RD.ref] at h3
    obtain ⟨a, e1, rfl⟩ := h3
    obtain ⟨a', vs, g1, g2, g3⟩ := s.rdA h1
    rw [e1] at g1; cases g1
    exact .lst g2 (toPs_dp xs h2 g3)
  have pur : ∀ {x y : D} {v w : L2.V}, RD K f H x v → RD K f H y w → (D.okd 60 x = true ∧ D.okd 60 y = true ∧ Q' (D.eqb x y)) → ∃ d e, L2.Dp K H v d ∧ L2.Dp K H w e ∧ SeqAt.shaped d = true ∧ SeqAt.shaped e = true ∧ Q' (PyData.eqv d e) := fun {x y v w} r1 r2 ⟨h1, h2, h3⟩ =>
    ⟨toP x, toP y, toP_dp x h1 r1, toP_dp y h2 r2, shaped_of h1, shaped_of h2, by rw [toP_eqv x y h1 h2]; exact h3⟩
  have lefts : ∀ {n : Nat} {xs : List D} {y : D}, (∀ m, y ≠ .ref m) → rdA st n xs → okds 60 xs = true → D.okd 60 y = true → Q' false → RD K f H (.ref n) v → RD K f H y w → ∃ d e, L2.Dp K H v d ∧ L2.Dp K H w e ∧ SeqAt.shaped d = true ∧ SeqAt.shaped e = true ∧ Q' (PyData.eqv d e) := fun {n xs y} hy h1 h2 h3 h4 r1 r2 =>
    ⟨_, toP y, lst h1 h2 r1, toP_dp y h3 r2, shaped_ofs h2, shaped_of h3, by
      have : PyData.eqv (.list (toPs xs)) (toP y) = false := by
        cases y <;> first | exact absurd rfl (hy _) | simp [toP, PyData.eqv]
      rw [this]; exact h4⟩
  have rights : ∀ {n : Nat} {xs : List D} {x : D}, (∀ m, x ≠ .ref m) → rdA st n xs → okds 60 xs = true → D.okd 60 x = true → Q' false → RD K f H x v → RD K f H (.ref n) w → ∃ d e, L2.Dp K H v d ∧ L2.Dp K H w e ∧ SeqAt.shaped d = true ∧ SeqAt.shaped e = true ∧ Q' (PyData.eqv d e) := fun {n xs x} hy h1 h2 h3 h4 r1 r2 =>
    ⟨toP x, _, toP_dp x h3 r1, lst h1 h2 r2, shaped_of h3, shaped_ofs h2, by
      have : PyData.eqv (toP x) (.list (toPs xs)) = false := by
        cases x <;> first | exact absurd rfl (hy _) | simp [toP, PyData.eqv]
      rw [this]; exact h4⟩
  by_cases hx : ∃ m, x = .ref m
  · obtain ⟨m, rfl⟩ := hx
    by_cases hy : ∃ n, y = .ref n
    · obtain ⟨n, rfl⟩ := hy
      obtain ⟨xs, ys, h1, h2, h3, h4, h5⟩ := h
      exact ⟨_, _, lst h1 h3 r1, lst h2 h4 r2, shaped_ofs h3, shaped_ofs h4, by rw [show PyData.eqv (.list (toPs xs)) (.list (toPs ys)) = PyData.eqvAll (toPs xs) (toPs ys) by simp [PyData.eqv], toPs_eqv xs ys h3 h4]; exact h5⟩
    · have h' : ∃ xs, rdA st m xs ∧ okds 60 xs = true ∧ D.okd 60 y = true ∧ Q' false := by
        cases y <;> first | exact h | exact absurd ⟨_, rfl⟩ hy
      obtain ⟨xs, h1, h2, h3, h4⟩ := h'
      exact lefts (fun k e => hy ⟨k, e⟩) h1 h2 h3 h4 r1 r2
  · by_cases hy : ∃ n, y = .ref n
    · obtain ⟨n, rfl⟩ := hy
      have h' : ∃ ys, rdA st n ys ∧ okds 60 ys = true ∧ D.okd 60 x = true ∧ Q' false := by
        cases x <;> first | exact h | exact absurd ⟨_, rfl⟩ hx
      obtain ⟨xs, h1, h2, h3, h4⟩ := h'
      exact rights (fun k e => hx ⟨k, e⟩) h1 h2 h3 h4 r1 r2
    · exact pur r1 r2 (by cases x <;> cases y <;> first | exact h | exact absurd ⟨_, rfl⟩ hx | exact absurd ⟨_, rfl⟩ hy)
theorem real_eq : RealC K (L2.rEqD K) eqC := fun f st H x y v w Q' Q s r1 r2 h l => by
  obtain ⟨d, e, h1, h2, h3, h4, h5⟩ := eqC_dp s r1 r2 h
  exact ⟨d, e, h1, h2, h3, h4, l _ h5⟩
theorem real_ne : RealC K (L2.rNeD K) neC := fun f st H x y v w Q' Q s r1 r2 h l => by
  obtain ⟨d, e, h1, h2, h3, h4, h5⟩ := eqC_dp s r1 r2 h
  exact ⟨d, e, h1, h2, h3, h4, l _ h5⟩
theorem real_cmp {g : Int → Int → Bool} {k : KC} (hk : ∀ x y st Q, k x y st Q → ∃ i j, x = .int i ∧ y = .int j ∧ Q (g i j)) : RealC K (L2.rI0 fun i j => .bl (g i j)) k := by
  intro f st H x y v w Q' Q s r1 r2 h l
  obtain ⟨i, j, rfl, rfl, q⟩ := hk x y st Q' h
  rw [RD.int] at r1 r2
  exact ⟨i, j, r1, r2, l _ q⟩
theorem real_lt : RealC K (L2.rI0 fun i j => .bl (decide (i < j))) ltC := real_cmp fun x y st Q h => by
  cases x <;> cases y <;> first | exact h.elim | exact ⟨_, _, rfl, rfl, h⟩
theorem real_le : RealC K (L2.rI0 fun i j => .bl (decide (i ≤ j))) leC := real_cmp fun x y st Q h => by
  cases x <;> cases y <;> first | exact h.elim | exact ⟨_, _, rfl, rfl, h⟩
theorem real_gt : RealC K (L2.rI0 fun i j => .bl (decide (j < i))) gtC := real_cmp fun x y st Q h => by
  cases x <;> cases y <;> first | exact h.elim | exact ⟨_, _, rfl, rfl, h⟩
theorem real_ge : RealC K (L2.rI0 fun i j => .bl (decide (j ≤ i))) geC := real_cmp fun x y st Q h => by
  cases x <;> cases y <;> first | exact h.elim | exact ⟨_, _, rfl, rfl, h⟩
theorem RD.isNon {x : D} {v : L2.V} (h : RD K f H x v) : decide (v = .non) = isNon x := by
  cases x with
  | non => rw [RD.non] at h; subst h; rfl
  | bl b => rw [RD.bl] at h; subst h; rfl
  | int i => rw [RD.int] at h; subst h; rfl
  | str y => rw [RD.str] at h; subst h; rfl
  | tup ds => rw [RD.tup] at h; obtain ⟨a, vs, rfl, _⟩ := h; rfl
  | ref n => rw [RD.ref] at h; obtain ⟨a, _, rfl⟩ := h; rfl
theorem real_is : RealC K (fun x y H Q => y = .non ∧ Q (.bl (decide (x = .non))) H) isC := fun f st H x y v w Q' Q s r1 r2 h l => by
  cases y <;> try (cases x <;> exact h.elim)
  rw [RD.non] at r2
  have h' : Q' (isNon x) := by cases x <;> exact h
  exact ⟨r2, by rw [r1.isNon]; exact l _ h'⟩
theorem real_isnt : RealC K (fun x y H Q => y = .non ∧ Q (.bl (!decide (x = .non))) H) isntC := fun f st H x y v w Q' Q s r1 r2 h l => by
  cases y <;> try (cases x <;> exact h.elim)
  rw [RD.non] at r2
  have h' : Q' (!isNon x) := by cases x <;> exact h
  exact ⟨r2, by rw [r1.isNon]; exact l _ h'⟩
theorem RD.flatV {x : D} {v : L2.V} (h : RD K f H x v) (hf : x.flat = true) : L2.flatV v = true := by
  cases x with
  | non => rw [RD.non] at h; subst h; rfl
  | bl b => rw [RD.bl] at h; subst h; rfl
  | int i => rw [RD.int] at h; subst h; rfl
  | str y => rw [RD.str] at h; subst h; rfl
  | tup ds => cases hf
  | ref n => cases hf
theorem RDs.flatV : ∀ {xs : List D} {vs : List L2.V}, RDs K f H xs vs → xs.all D.flat = true → vs.all L2.flatV = true
  | [], _, h, _ => by rw [RDs.nil] at h; subst h; rfl
  | x :: xs, _, h, hf => by
    rw [RDs.cons] at h
    obtain ⟨v, r, rfl, h1, h2⟩ := h
    have hf' : x.flat = true ∧ xs.all D.flat = true := by simpa using hf
    rw [List.all_cons, h1.flatV hf'.1, RDs.flatV h2 hf'.2]; rfl
end
end Pd
end PartPdSoundB

section PartPdSoundC
set_option Elab.async false
set_option linter.all false
set_option maxRecDepth 100000
set_option maxHeartbeats 1000000
/-! Pd over the hand layer: tests, items, slices, calls, built-ins. Own work. -/
namespace Pd
open PySem PySem.Spec
section
variable {X : L2.Cx} {K : Kf} {f f' : List Addr} {H H' : Hp} {st st' : Store} {ρ : Env} {σ : L2.St}
theorem b2i_eq (b : Bool) : b2i b = (if b then 1 else 0) := rfl
theorem RD.eqV {x y : D} {v w : L2.V} (h : RD K f H x v) (h' : RD K f H y w) (hx : x.flat = true) (hy : y.flat = true) : L2.eqV v w = D.eqb x y := by
  cases x <;> cases y <;> first | (exfalso; revert hx; simp [D.flat]; done) | (exfalso; revert hy; simp [D.flat]; done) | skip
  all_goals (simp only [RD.non, RD.bl, RD.int, RD.str] at h h'; subst h; subst h'; simp [L2.eqV, D.eqb, b2i])
  rename_i s t
  by_cases e : s = t <;> simp [e]
theorem RDs.inV {y : D} {w : L2.V} (h' : RD K f H y w) (hy : y.flat = true) : ∀ {xs : List D} {vs : List L2.V}, RDs K f H xs vs → xs.all D.flat = true → L2.inV w vs = xs.any fun x => D.eqb x y
  | [], _, h, _ => by rw [RDs.nil] at h; subst h; rfl
  | x :: xs, _, h, hf => by
    rw [RDs.cons] at h
    obtain ⟨v, r, rfl, h1, h2⟩ := h
    have hf' : x.flat = true ∧ xs.all D.flat = true := by simpa using hf
    have ih := RDs.inV h' hy h2 hf'.2
    unfold L2.inV at ih ⊢
    rw [List.any_cons, List.any_cons, ih, h1.eqV h' hf'.1 hy]
theorem real_in (neg : Bool) : RealC K (L2.rIn K neg) (fun x y st Q => inC x y st fun b => Q (if neg then !b else b)) := fun f st H x y v w Q' Q s r1 r2 h l => by
  cases y <;> try (exact h.elim)
  · rw [RD.tup] at r2
    obtain ⟨a, vs, rfl, t, d⟩ := r2
    obtain ⟨h1, h2, h3⟩ := h
    refine ⟨a, vs, rfl, .inr t, r1.flatV h1, d.flatV h2, ?_⟩
    rw [RDs.inV r1 h1 d h2]
    exact l _ h3
  · rw [RD.ref] at r2
    obtain ⟨a, e, rfl⟩ := r2
    obtain ⟨xs, h0, h1, h2, h3⟩ := h
    obtain ⟨a', vs, g1, g2, g3⟩ := s.rdA h0
    rw [e] at g1; cases g1
    refine ⟨a, vs, rfl, .inl g2, r1.flatV h1, g3.flatV h2, ?_⟩
    rw [RDs.inV r1 h1 g3 h2]
    exact l _ h3
section
variable {a b c : Expr} {ta tb tc : TE} {pos : Pos}
theorem pd_cmp {op : CmpOp} {r : L2.R2} {k : KC} (ho : L2.OpR X (compareOp op) r) (hr : RealC X.K r k) (hm : behindInMarks op b = false) (ha : PD X a ta) (hb : PD X b tb) : PD X (.Compare a [op] [b] pos) (dCmp k ta tb) :=
  pe_imp (L2.pe_cmpR ho ha hb hm) fun σ H Q h => two_imp hr.real h
theorem pt_cmp {op : CmpOp} {r : L2.R2} {k : KC} (ho : L2.OpR X (compareOp op) r) (hr : RealC X.K r k) (hm : behindInMarks op b = false) (ha : PD X a ta) (hb : PD X b tb) : PDT X (.Compare a [op] [b] pos) (tTru (dCmp k ta tb)) := by
  refine pt_imp (L2.pt_cmpR ho ha hb hm) fun σ H Q ⟨f, ρ, st, Q', R, h, l⟩ => ?_
  refine ⟨f, ρ, st, _, R, h, fun x st1 v f1 H1 h1 e1 s1 r1 => ⟨f1, ρ, st1, _, R.later e1 s1, h1, fun y st2 w f2 H2 h2 e2 s2 r2 => ?_⟩⟩
  exact hr f2 st2 H2 x y v w (fun b => Q' b st2) _ s2 (r1.mono e2) r2 h2 fun b q => ⟨b, rfl, l b st2 f2 H2 q (e1.trans e2) s2⟩
theorem chain_core {r r' : L2.R2} {k k' : KC} (hr : RealC K r k) (hr' : RealC K r' k') {Q' : Bool → Store → Prop} {Q : L2.VK} {f : List Addr} {ρ : Env} {st : Store}
    (R : Rel K f ρ st σ H) (h : ta ρ st fun x st1 => tb ρ st1 fun y st2 => k x y st2 fun b => (b = true → tc ρ st2 fun z st3 => k' y z st3 fun b' => Q' b' st3) ∧ (b = false → Q' false st2))
    (l : ∀ b st' f' H', Q' b st' → Ext K f H f' H' → RelS K f' st' H' → Q (.bl b) H') : L2.tChain r r' (lift K ta) (lift K tb) (lift K tc) σ H Q := by
  refine ⟨f, ρ, st, _, R, h, fun x st1 v f1 H1 h1 e1 s1 r1 => ⟨f1, ρ, st1, _, R.later e1 s1, h1, fun y st2 w f2 H2 h2 e2 s2 r2 => ?_⟩⟩
  refine hr f2 st2 H2 x y v w _ _ s2 (r1.mono e2) r2 h2 fun b q => ⟨b, rfl, ?_⟩
  cases b with
  | false => exact l false st2 f2 H2 (q.2 rfl) (e1.trans e2) s2
  | true => exact ⟨f2, ρ, st2, _, R.later (e1.trans e2) s2, q.1 rfl, fun z st3 u f3 H3 h3 e3 s3 r3 => hr' f3 st3 H3 y z w u (fun b' => Q' b' st3) _ s3 (r2.mono e3) r3 h3 fun b' q' => l b' st3 f3 H3 q' ((e1.trans e2).trans e3) s3⟩
theorem pd_chain {op op' : CmpOp} {r r' : L2.R2} {k k' : KC} (ho : L2.OpR X (compareOp op) r) (hr : RealC X.K r k) (ho' : L2.OpR X (compareOp op') r') (hr' : RealC X.K r' k') (ha : PD X a ta) (hb : PD X b tb) (hc : PD X c tc)
    (hm : lastMarks [op, op'] [b, c] = false := by with_unfolding_all rfl) : PD X (.Compare a [op, op'] [b, c] pos) (dChain k k' ta tb tc) := by
  refine pe_imp (L2.pe_chain ho ho' ha hb hc hm) fun σ H Q ⟨f, ρ, st, Q', R, h, l⟩ => ?_
  exact chain_core hr hr' (Q' := fun b st => Q' (.bl b) st) R h fun b st' f' H' q e s => l (.bl b) st' _ f' H' q e s (RD.bl.mpr rfl)
theorem pt_chain {op op' : CmpOp} {r r' : L2.R2} {k k' : KC} (ho : L2.OpR X (compareOp op) r) (hr : RealC X.K r k) (ho' : L2.OpR X (compareOp op') r') (hr' : RealC X.K r' k') (ha : PD X a ta) (hb : PD X b tb) (hc : PD X c tc)
    (hm : lastMarks [op, op'] [b, c] = false := by with_unfolding_all rfl) : PDT X (.Compare a [op, op'] [b, c] pos) (tTru (dChain k k' ta tb tc)) := by
  refine pt_imp (L2.pt_chain ho ho' ha hb hc hm) fun σ H Q ⟨f, ρ, st, Q', R, h, l⟩ => ?_
  exact chain_core (Q := fun x H' => ∃ k, x = .bl k ∧ Q k H') hr hr' (Q' := Q') R h fun b st' f' H' q e s => ⟨b, rfl, l b st' f' H' q e s⟩

/-! ### truth -/
theorem tru_of {x : D} {v : L2.V} {Q' : Bool → Prop} (s : RelS K f st H) (r : RD K f H x v) (h : truK x st Q') : ∃ k, L2.TruV K v H k ∧ Q' k := by
  cases x with
  | non => rw [RD.non] at r; subst r; exact ⟨_, rfl, h⟩
  | bl b => rw [RD.bl] at r; subst r; exact ⟨_, rfl, h⟩
  | int i => rw [RD.int] at r; subst r; exact ⟨_, rfl, h⟩
  | str y => rw [RD.str] at r; subst r; exact ⟨_, ⟨by rw [← szl_eq]; exact h.1, rfl⟩, h.2⟩
  | tup xs =>
    rw [RD.tup] at r
    obtain ⟨a, vs, rfl, t, d⟩ := r
    refine ⟨_, .inr (.inl ⟨vs, t, rfl⟩), ?_⟩
    have : vs.isEmpty = xs.isEmpty := by
      cases xs with
      | nil => rw [RDs.nil] at d; subst d; rfl
      | cons x xs => rw [RDs.cons] at d; obtain ⟨_, _, rfl, _⟩ := d; rfl
    rw [this]; exact h
  | ref n =>
    rw [RD.ref] at r
    obtain ⟨a, e, rfl⟩ := r
    obtain ⟨xs, h1, h2⟩ := h
    obtain ⟨a', vs, g1, g2, d⟩ := s.rdA h1
    rw [e] at g1; cases g1
    refine ⟨_, .inl ⟨vs, g2, rfl⟩, ?_⟩
    have : vs.isEmpty = xs.isEmpty := by
      cases xs with
      | nil => rw [RDs.nil] at d; subst d; rfl
      | cons x xs => rw [RDs.cons] at d; obtain ⟨_, _, rfl, _⟩ := d; rfl
    rw [this]; exact h2
theorem pt_tru (ha : PD X a ta) (he : ∀ whole, isTrue a X.env whole = (do let v ← whole; standAt a.pos; holding [v] (truthy v)) := by intro _; rfl) : PDT X a (tTru ta) := by
  refine pt_imp (L2.pt_truth ha he) fun σ H Q ⟨f, ρ, st, Q', R, h, l⟩ => ?_
  refine ⟨f, ρ, st, _, R, h, fun x st1 v f1 H1 h1 e1 s1 r1 => ?_⟩
  obtain ⟨k, t, q⟩ := tru_of s1 r1 h1
  exact ⟨k, t, l k st1 f1 H1 q e1 s1⟩
abbrev PDW (X : L2.Cx) (e : Expr) (t : TT) : Prop := L2.PW X e (liftT X.K t)
theorem ptw {e : Expr} {t : TT} (h : PDW X e t) : PDT X e t := L2.PW.pt h
theorem pw_imp {e : Expr} {t t' : L2.TT} (h : L2.PW X e t) (m : ∀ σ H Q, t' σ H Q → t σ H Q) : L2.PW X e t' := ⟨fun whole pins s σ H Q I q => h.run whole pins s σ H Q I (m σ H Q q)⟩
variable {es : List Expr} {tA tB tC : TT}
theorem pw_and1 (ha : PDT X a tA) : PDW X (.BoolOp .And [a] pos) tA := L2.pw_and1 ha
theorem pw_or1 (ha : PDT X a tA) : PDW X (.BoolOp .Or [a] pos) tA := L2.pw_or1 ha
theorem pw_and (ha : PDT X a tA) (hb : PDW X (.BoolOp .And (b :: es) pos) tB) : PDW X (.BoolOp .And (a :: b :: es) pos) (tAnd tA tB) :=
  pw_imp (L2.pw_and ha hb) fun σ H Q ⟨f, ρ, st, Q', R, h, l⟩ => ⟨f, ρ, st, _, R, h, fun c st1 f1 H1 h1 e1 s1 => by
    cases c with
    | false => exact l false st1 f1 H1 (h1.2 rfl) e1 s1
    | true => exact ⟨f1, ρ, st1, Q', R.later e1 s1, h1.1 rfl, fun b st2 f2 H2 q e2 s2 => l b st2 f2 H2 q (e1.trans e2) s2⟩⟩
theorem pw_or (ha : PDT X a tA) (hb : PDW X (.BoolOp .Or (b :: es) pos) tB) : PDW X (.BoolOp .Or (a :: b :: es) pos) (tOr tA tB) :=
  pw_imp (L2.pw_or ha hb) fun σ H Q ⟨f, ρ, st, Q', R, h, l⟩ => ⟨f, ρ, st, _, R, h, fun c st1 f1 H1 h1 e1 s1 => by
    cases c with
    | true => exact l true st1 f1 H1 (h1.1 rfl) e1 s1
    | false => exact ⟨f1, ρ, st1, Q', R.later e1 s1, h1.2 rfl, fun b st2 f2 H2 q e2 s2 => l b st2 f2 H2 q (e1.trans e2) s2⟩⟩
theorem pt_not (ha : PDT X a tA) : PDT X (.UnaryOp .Not a pos) (tNot tA) :=
  pt_imp (L2.pt_not ha) fun σ H Q ⟨f, ρ, st, Q', R, h, l⟩ => ⟨f, ρ, st, _, R, h, fun c st1 f1 H1 h1 e1 s1 => l _ st1 f1 H1 h1 e1 s1⟩
theorem pd_one {op : BoolOp} (ha : PD X a ta) : PD X (.BoolOp op [a] pos) ta := L2.pe_one ha
theorem pd_and' (ha : PD X a ta) (hb : PD X (.BoolOp .And (b :: es) pos) tb) : PD X (.BoolOp .And (a :: b :: es) pos) (dAndT ta tb) :=
  pe_imp (L2.pe_andT ha hb) fun σ H Q ⟨f, ρ, st, Q', R, h, l⟩ => ⟨f, ρ, st, _, R, h, fun x st1 v f1 H1 h1 e1 s1 r1 => by
    obtain ⟨k, t, q⟩ := tru_of s1 r1 h1
    refine ⟨k, t, ?_⟩
    cases k with
    | false => exact l x st1 v f1 H1 (q.2 rfl) e1 s1 r1
    | true => exact ⟨f1, ρ, st1, Q', R.later e1 s1, q.1 rfl, l.later e1⟩⟩
theorem pd_or' (ha : PD X a ta) (hb : PD X (.BoolOp .Or (b :: es) pos) tb) : PD X (.BoolOp .Or (a :: b :: es) pos) (dOrT ta tb) :=
  pe_imp (L2.pe_orT ha hb) fun σ H Q ⟨f, ρ, st, Q', R, h, l⟩ => ⟨f, ρ, st, _, R, h, fun x st1 v f1 H1 h1 e1 s1 r1 => by
    obtain ⟨k, t, q⟩ := tru_of s1 r1 h1
    refine ⟨k, t, ?_⟩
    cases k with
    | true => exact l x st1 v f1 H1 (q.1 rfl) e1 s1 r1
    | false => exact ⟨f1, ρ, st1, Q', R.later e1 s1, q.2 rfl, l.later e1⟩⟩
theorem pd_not (ha : PD X a ta) : PD X (.UnaryOp .Not a pos) (dNotT ta) :=
  pe_imp (L2.pe_notT ha) fun σ H Q ⟨f, ρ, st, Q', R, h, l⟩ => ⟨f, ρ, st, _, R, h, fun x st1 v f1 H1 h1 e1 s1 r1 => by
    obtain ⟨k, t, q⟩ := tru_of s1 r1 h1
    exact ⟨k, t, l _ st1 _ f1 H1 q e1 s1 (RD.bl.mpr rfl)⟩⟩
theorem pd_if (hc : PDT X c tC) (ha : PD X a ta) (hb : PD X b tb) : PD X (.IfExp c a b pos) (dIf tC ta tb) :=
  pe_imp (L2.pe_ifExp hc ha hb) fun σ H Q ⟨f, ρ, st, Q', R, h, l⟩ => ⟨f, ρ, st, _, R, h, fun k st1 f1 H1 h1 e1 s1 => by
    cases k with
    | true => exact ⟨f1, ρ, st1, Q', R.later e1 s1, h1.1 rfl, l.later e1⟩
    | false => exact ⟨f1, ρ, st1, Q', R.later e1 s1, h1.2 rfl, l.later e1⟩⟩
/-- a test that is an if-expression -/
theorem pt_if {t1 t2 : TT} (hc : PDT X c tC) (ha : PDT X a t1) (hb : PDT X b t2) : PDT X (.IfExp c a b pos) (fun σ st Q => tC σ st fun k st1 => (k = true → t1 σ st1 Q) ∧ (k = false → t2 σ st1 Q)) := by
  refine ⟨fun pins s σ H Q I ⟨f, ρ, st, Q', R, h, l⟩ => ?_⟩
  show wpAny _ _ (do if ← isTrue c X.env (eval c X.env) then isTrue a X.env (eval a X.env) else isTrue b X.env (eval b X.env)) _ _ s
  refine wpAny_bind (L2.thn (hc.run pins s σ H (fun k H1 => (k = true → liftT X.K t1 σ H1 Q) ∧ (k = false → liftT X.K t2 σ H1 Q)) I ⟨f, ρ, st, _, R, h, fun k st1 f1 H1 h1 e1 s1 => ?_⟩) fun k s1 ⟨H1, I1, q⟩ => ?_)
  · exact ⟨fun e => ⟨f1, ρ, st1, Q', R.later e1 s1, h1.1 e, fun b st2 f2 H2 q e2 s2 => l b st2 f2 H2 q (e1.trans e2) s2⟩, fun e => ⟨f1, ρ, st1, Q', R.later e1 s1, h1.2 e, fun b st2 f2 H2 q e2 s2 => l b st2 f2 H2 q (e1.trans e2) s2⟩⟩
  · cases k with
    | true => exact ha.run pins s1 σ H1 Q I1 (q.1 rfl)
    | false => exact hb.run pins s1 σ H1 Q I1 (q.2 rfl)

/-! ### items and slices -/
theorem atD_at {α : Type} (xs : List α) (i : Int) : L2.atI xs i = atD xs i := by
  unfold L2.atI L2.ixN atD
  by_cases h : 0 ≤ i
  · rw [if_pos h, if_pos h]
    by_cases h2 : i < xs.length
    · rw [if_pos h2]; rfl
    · rw [if_neg h2]
      show none = _
      rw [List.getElem?_eq_none (by omega)]
  · rw [if_neg h, if_neg h]
    by_cases h2 : -(xs.length : Int) ≤ i
    · rw [if_pos h2, if_pos h2]; rfl
    · rw [if_neg h2, if_neg h2]; rfl
theorem RDs.atD {ds : List D} {vs : List L2.V} {i : Int} {d : D} (h : RDs K f H ds vs) (e : atD ds i = some d) : ∃ v, L2.atI vs i = some v ∧ RD K f H d v := by
  rw [atD_at]
  unfold Pd.atD at e ⊢
  rw [h.length]
  by_cases c : 0 ≤ i
  · rw [if_pos c] at e ⊢
    obtain ⟨v, h1, h2⟩ := h.get e; exact ⟨v, h1, h2⟩
  · rw [if_neg c] at e ⊢
    by_cases c2 : -(ds.length : Int) ≤ i
    · rw [if_pos c2] at e ⊢
      obtain ⟨v, h1, h2⟩ := h.get e; exact ⟨v, h1, h2⟩
    · rw [if_neg c2] at e; cases e
theorem real_ix : Real2 K (L2.rIx K) ixK := fun f st H x y v w Q' Q s r1 r2 h l => by
  cases x <;> cases y <;> try (exact h.elim)
  · rw [RD.str] at r1
    rw [RD.int] at r2
    obtain ⟨c, h1, h2, h3⟩ := h
    exact .inr (.inr ⟨_, _, c, r1, r2, by rw [← szl_eq]; exact h1, by rw [atD_at]; exact h2, l.now s h3 (RD.str.mpr rfl)⟩)
  · rw [RD.tup] at r1
    rw [RD.int] at r2
    obtain ⟨a, vs, rfl, t, d⟩ := r1
    obtain ⟨d', h1, h2⟩ := h
    obtain ⟨v, g1, g2⟩ := d.atD h1
    exact .inr (.inl ⟨a, vs, _, v, rfl, r2, t, g1, l.now s h2 g2⟩)
  · rw [RD.ref] at r1
    rw [RD.int] at r2
    obtain ⟨a, e, rfl⟩ := r1
    obtain ⟨xs, d', h0, h1, h2⟩ := h
    obtain ⟨a', vs, k1, k2, d⟩ := s.rdA h0
    rw [e] at k1; cases k1
    obtain ⟨v, g1, g2⟩ := d.atD h1
    exact .inl ⟨a, vs, _, v, rfl, r2, k2, g1, l.now s h2 g2⟩
theorem pd_ix (hs : L2.PlainIx b) (ha : PD X a ta) (hb : PD X b tb) : PD X (.Subscript a b pos) (dOp ixK ta tb) :=
  pe_imp (L2.pe_ix L2.ix_seq ha hb hs) fun σ H Q h => two_imp real_ix h
def liftO (K : Kf) (t : TO) : L2.TO := fun σ H Q => ∃ f ρ st Q', Rel K f ρ st σ H ∧ t ρ st Q' ∧ ∀ (o : Option Int) (st' : Store) (f' : List Addr) (H' : Hp), Q' o st' → Ext K f H f' H' → RelS K f' st' H' → Q o H'
abbrev PDO (X : L2.Cx) (e : Option Expr) (t : TO) : Prop := L2.PO X e (liftO X.K t)
theorem po_imp {e : Option Expr} {t t' : L2.TO} (h : L2.PO X e t) (m : ∀ σ H Q, t' σ H Q → t σ H Q) : L2.PO X e t' := ⟨fun pins s σ H Q I q => h.run pins s σ H Q I (m σ H Q q)⟩
theorem po_none : PDO X none oNone := po_imp L2.po_none fun σ H Q ⟨f, ρ, st, Q', R, h, l⟩ => l none st f H h .refl R.toRelS
theorem po_some (ha : PD X a ta) : PDO X (some a) (oSome ta) := po_imp (L2.po_some ha) fun σ H Q ⟨f, ρ, st, Q', R, h, l⟩ => ⟨f, ρ, st, _, R, h, fun x st1 v f1 H1 h1 e1 s1 r1 => by
    obtain ⟨i, rfl, q⟩ := h1
    rw [RD.int] at r1
    exact ⟨i, r1, l _ st1 f1 H1 q e1 s1⟩⟩
theorem sIx_cl (n d : Nat) (o : Option Int) : HT.sIx n d o = (o.map (cl n)).getD d := by
  cases o with
  | none => rfl
  | some i => rfl
theorem cut_eq (xs : List L2.V) (lo hi : Option Int) : L2.cutV xs lo hi = cutD xs lo hi := by
  unfold L2.cutV cutD
  rw [sIx_cl, sIx_cl]
theorem RDs.cut {ds : List D} {vs : List L2.V} (h : RDs K f H ds vs) (lo hi : Option Int) : RDs K f H (cutD ds lo hi) (cutD vs lo hi) := by
  unfold cutD
  rw [h.length]
  exact (h.drop _).take _
theorem cut_whole {α : Type} (xs : List α) (lo hi : Option Int) (h1 : HT.sIx xs.length 0 lo = 0) (h2 : HT.sIx xs.length xs.length hi = xs.length) : cutD xs lo hi = xs := by
  unfold cutD
  rw [← sIx_cl, ← sIx_cl, h1, h2]
  simp
def rSl (K : Kf) : L2.V → Option Int → Option Int → Hp → L2.VK → Prop := fun x lo hi H Q => L2.rSlL K x lo hi H Q ∨ L2.rSlA K x lo hi H Q
theorem pd_sl {lo hi : Option Expr} {tl th : TO} {p2 : Pos} (ha : PD X a ta) (hl : PDO X lo tl) (hh : PDO X hi th) : PD X (.Subscript a (.Slice lo hi none p2) pos) (dSl ta tl th) := by
  refine pe_imp (L2.pe_slice (r := rSl X.K) (L2.SlR.or L2.sl_list L2.sl_tupA) ha hl hh) fun σ H Q ⟨f, ρ, st, Q', R, h, l⟩ => ?_
  refine ⟨f, ρ, st, _, R, h, fun x st1 v f1 H1 h1 e1 s1 r1 => ⟨f1, ρ, st1, _, R.later e1 s1, h1, fun o st2 f2 H2 h2 e2 s2 => ⟨f2, ρ, st2, _, R.later (e1.trans e2) s2, h2, fun o' st3 f3 H3 h3 e3 s3 => ?_⟩⟩⟩
  have r1' := r1.mono (e2.trans e3)
  have l' := l.later ((e1.trans e2).trans e3)
  cases x <;> try (exact h3.elim)
  · rw [RD.tup] at r1'
    obtain ⟨a, vs, rfl, t, d⟩ := r1'
    refine .inr ⟨a, vs, rfl, t, fun ⟨w1, w2⟩ => ?_, fun _ p hp => ?_⟩
    · rw [d.length] at w1 w2
      refine l'.now s3 h3 (RD.tup.mpr ⟨a, vs, rfl, t, ?_⟩)
      rw [cut_whole _ _ _ w1 w2]
      exact d
    · rw [cut_eq]
      exact l'.tup s3 h3 (d.cut o o') hp
  · rw [RD.ref] at r1'
    obtain ⟨a, e, rfl⟩ := r1'
    obtain ⟨xs, g0, g1⟩ := h3
    obtain ⟨a', vs, k1, k2, d⟩ := s3.rdA g0
    rw [e] at k1; cases k1
    refine .inl ⟨a, vs, rfl, k2, fun p hp => ?_⟩
    rw [cut_eq]
    exact l'.lst s3 g1 (d.cut o o') hp

/-! ### arguments, displays -/
theorem pa_nil : PDA X [] aNil := pa_imp L2.pa_nil fun σ H Q ⟨f, ρ, st, Q', R, h, l⟩ => l [] st [] f H h .refl R.toRelS (RDs.nil.mpr rfl)
theorem pa_cons {ts : TA} (ha : PD X a ta) (hr : PDA X es ts) (hs : starEach (a :: es) X.env = (false, eval a X.env) :: starEach es X.env := by rfl) : PDA X (a :: es) (aCons ta ts) :=
  pa_imp (L2.pa_cons ha hr hs) fun σ H Q ⟨f, ρ, st, Q', R, h, l⟩ => ⟨f, ρ, st, _, R, h, fun x st1 v f1 H1 h1 e1 s1 r1 => ⟨f1, ρ, st1, _, R.later e1 s1, h1, fun xs st2 vs f2 H2 h2 e2 s2 r2 =>
    l (x :: xs) st2 (v :: vs) f2 H2 h2 (e1.trans e2) s2 (RDs.cons.mpr ⟨v, vs, rfl, r1.mono e2, r2⟩)⟩⟩
theorem pd_tup {ts : TA} {x1} (h : PDA X es ts) : PD X (.Tuple es x1 pos) (dTup ts) :=
  pe_imp (L2.pe_tup h) fun σ H Q ⟨f, ρ, st, Q', R, h, l⟩ => ⟨f, ρ, st, _, R, h, fun xs st1 vs f1 H1 h1 e1 s1 r1 => ⟨by rw [r1.length, ← szl_eq]; exact h1.1, fun p hp => (l.later e1).tup s1 h1.2 r1 hp⟩⟩
theorem pd_lst {ts : TA} (h : PDA X es ts) : PD X (.List es pos) (dLst ts) :=
  pe_imp (L2.pe_lst h) fun σ H Q ⟨f, ρ, st, Q', R, h, l⟩ => ⟨f, ρ, st, _, R, h, fun xs st1 vs f1 H1 h1 e1 s1 r1 => ⟨by rw [r1.length, ← szl_eq]; exact h1.1, fun p hp => (l.later e1).lst s1 h1.2 r1 hp⟩⟩

/-! ### own defs -/
def liftF (K : Kf) (n : Nat) (c : List D → Store → Pd.K → Prop) : L2.Sp := fun vs H Q _ => vs.length = n ∧ ∃ f st ds Q', RelS K f st H ∧ RDs K f H ds vs ∧ c ds st Q' ∧ LQ K f H Q' Q
/-- a def that may be called by its name -/
structure Own (P : Program) (w : World) (K : Kf) (mg : Str → Option Value) (base : Heap) (k : Nat) (x : Str) (c : List D → Store → Pd.K → Prop) : Prop where
  ex : ∃ (fa : Addr) (fd : FuncData) (ps : List Str), L2.FnOk P w K mg base L2.CX0 k fa fd ps (liftF K ps.length c) ∧ mg x = some (.ref fa) ∧ PySem.W.keepIn K (.ref fa) = true ∧ L2.Binds K fd ps [] ∧ (∀ ds st Q, c ds st Q → ds.length = ps.length)
theorem pd_call {x : Str} {p : Pos} {k : Nat} {ts : TA} {cl : Cl} {y : String} (o : Own X.prog X.w X.K X.mg X.base k x (cl y)) (hr : L2.Room k X.A) (hg : L2.Gl X x) (ha : PDA X (a :: es) ts) (hdb : (x == ("__debug__" : Str)) = false := by decide)
    (he : starEach (a :: es) X.env = (false, eval a X.env) :: starEach es X.env := by rfl) (hpl : (backTo pos (starEach es X.env)).any (·.1) = false := by rfl) : PD X (.Call (.Name x p) (a :: es) [] pos) (dCall cl y ts) := by
  obtain ⟨fa, fd, ps, F, hm, hk, hb, hlen⟩ := o.ex
  refine pe_imp (L2.pe_call (E := fun _ _ _ => False) F hr hg hm hk hb .nil L2.pass0 ha hdb he hpl) fun σ H Q ⟨f, ρ, st, Q', R, h, l⟩ => ?_
  refine ⟨f, ρ, st, _, R, h, fun xs st1 vs f1 H1 h1 e1 s1 r1 => ?_⟩
  show liftF X.K ps.length (cl y) (vs ++ []) H1 Q _
  rw [List.append_nil]
  exact ⟨r1.length.trans (hlen _ _ _ h1), f1, st1, xs, Q', s1, r1, h1, l.later e1⟩
theorem pd_call0 {x : Str} {p : Pos} {k : Nat} {cl : Cl} {y : String} (o : Own X.prog X.w X.K X.mg X.base k x (cl y)) (hr : L2.Room k X.A) (hg : L2.Gl X x) (hdb : (x == ("__debug__" : Str)) = false := by decide) : PD X (.Call (.Name x p) [] [] pos) (dCall cl y aNil) := by
  obtain ⟨fa, fd, ps, F, hm, hk, hb, hlen⟩ := o.ex
  refine pe_imp (L2.pe_call0 (E := fun _ _ _ => False) F hr hg hm hk hb .nil L2.pass0 hdb) fun σ H Q ⟨f, ρ, st, Q', R, h, l⟩ => ?_
  exact (show liftF X.K ps.length (cl y) ([] ++ []) H Q (fun _ _ _ => False) from ⟨hlen _ _ _ h, f, st, [], Q', R.toRelS, RDs.nil.mpr rfl, h, l⟩)

/-! ### built-ins -/
def RealB (K : Kf) (r : List L2.V → Hp → L2.VK → Prop) (k : KB) : Prop := ∀ (f : List Addr) (st : Store) (H : Hp) (xs : List D) (vs : List L2.V) (Q' : Pd.K) (Q : L2.VK), RelS K f st H → RDs K f H xs vs → k xs st Q' → LQ K f H Q' Q → r vs H Q
theorem pd_callB {x : Str} {p : Pos} {id : String} {r : List L2.V → Hp → L2.VK → Prop} {k : KB} {ts : TA} (hc : L2.CallR X (.builtin id) r) (hr : RealB X.K r k) (hg : L2.Gl X x) (hm : X.mg x = none) (hv : bootBuiltins x = some (.builtin id)) (ha : PDA X (a :: es) ts) (hn : x ≠ "__name__" := by decide) (hdb : (x == ("__debug__" : Str)) = false := by decide)
    (he : starEach (a :: es) X.env = (false, eval a X.env) :: starEach es X.env := by rfl) (hpl : (backTo pos (starEach es X.env)).any (·.1) = false := by rfl) : PD X (.Call (.Name x p) (a :: es) [] pos) (dB k ts) :=
  pe_imp (L2.pe_callB hc hg hm hv ha hn hdb he hpl) fun σ H Q ⟨f, ρ, st, Q', R, h, l⟩ => ⟨f, ρ, st, _, R, h, fun xs st1 vs f1 H1 h1 e1 s1 r1 => hr f1 st1 H1 xs vs Q' Q s1 r1 h1 (l.later e1)⟩
theorem pd_callTy {x : Str} {p : Pos} {T : String} {r : List L2.V → Hp → L2.VK → Prop} {k : KB} {ts : TA} (hc : L2.CallR X (.type T) r) (hr : RealB X.K r k) (hg : L2.Gl X x) (hm : X.mg x = none) (hv : bootBuiltins x = some (.type T)) (ha : PDA X (a :: es) ts) (hn : x ≠ "__name__" := by decide) (hdb : (x == ("__debug__" : Str)) = false := by decide)
    (he : starEach (a :: es) X.env = (false, eval a X.env) :: starEach es X.env := by rfl) (hpl : (backTo pos (starEach es X.env)).any (·.1) = false := by rfl) : PD X (.Call (.Name x p) (a :: es) [] pos) (dB k ts) :=
  pe_imp (L2.pe_callTy hc hg hm hv ha hn hdb he hpl) fun σ H Q ⟨f, ρ, st, Q', R, h, l⟩ => ⟨f, ρ, st, _, R, h, fun xs st1 vs f1 H1 h1 e1 s1 r1 => hr f1 st1 H1 xs vs Q' Q s1 r1 h1 (l.later e1)⟩
end
theorem RDs.inv1 {x : D} {vs : List L2.V} (h : RDs K f H [x] vs) : ∃ v, vs = [v] ∧ RD K f H x v := by
  rw [RDs.cons] at h
  obtain ⟨v, r, rfl, h1, h2⟩ := h
  rw [RDs.nil] at h2
  subst h2
  exact ⟨v, rfl, h1⟩
theorem RDs.inv2 {x y : D} {vs : List L2.V} (h : RDs K f H [x, y] vs) : ∃ v w, vs = [v, w] ∧ RD K f H x v ∧ RD K f H y w := by
  rw [RDs.cons] at h
  obtain ⟨v, r, rfl, h1, h2⟩ := h
  obtain ⟨w, rfl, h3⟩ := h2.inv1
  exact ⟨v, w, rfl, h1, h3⟩
/-- one argument, two arguments, by cases -/
theorem realB1 {r : List L2.V → Hp → L2.VK → Prop} {k : KB} (h0 : ∀ xs st Q, k xs st Q → ∃ x, xs = [x])
    (h : ∀ (f : List Addr) (st : Store) (H : Hp) (x : D) (v : L2.V) (Q' : Pd.K) (Q : L2.VK), RelS K f st H → RD K f H x v → k [x] st Q' → LQ K f H Q' Q → r [v] H Q) : RealB K r k := fun f st H xs vs Q' Q s r1 hk l => by
  obtain ⟨x, rfl⟩ := h0 xs st Q' hk
  obtain ⟨v, rfl, h1⟩ := r1.inv1
  exact h f st H x v Q' Q s h1 hk l
theorem kb1 {k : KB} (h0 : ∀ st Q, ¬ k [] st Q) (h2 : ∀ x y xs st Q, ¬ k (x :: y :: xs) st Q) : ∀ xs st Q, k xs st Q → ∃ x, xs = [x] := fun xs st Q h => by
  match xs, h with
  | [], h => exact (h0 _ _ h).elim
  | [x], _ => exact ⟨x, rfl⟩
  | x :: y :: xs, h => exact (h2 _ _ _ _ _ h).elim
theorem real_intB : RealB K (fun xs H Q => (∃ i, xs = [.int i] ∧ Q (.int i) H) ∨ ∃ k, xs = [.bl k] ∧ Q (.int (if k then 1 else 0)) H) intB :=
  realB1 (kb1 (fun _ _ h => h) fun x y xs st Q h => by cases x <;> exact h) fun f st H x v Q' Q s r h l => by
    cases x <;> try (exact h.elim)
    · rw [RD.bl] at r; subst r; exact .inr ⟨_, rfl, l.now s h (RD.int.mpr rfl)⟩
    · rw [RD.int] at r; subst r; exact .inl ⟨_, rfl, l.now s h (RD.int.mpr rfl)⟩
theorem real_absB : RealB K (fun xs H Q => ∃ i, xs = [.int i] ∧ Q (.int (if i < 0 then -i else i)) H) absB :=
  realB1 (kb1 (fun _ _ h => h) fun x y xs st Q h => by cases x <;> exact h) fun f st H x v Q' Q s r h l => by
    cases x <;> try (exact h.elim)
    rw [RD.int] at r; subst r; exact ⟨_, rfl, l.now s h (RD.int.mpr rfl)⟩
theorem real_lenB : RealB K (fun xs H Q => ∃ x n, xs = [x] ∧ L2.LenV K x H n ∧ Q (.int n) H) lenB :=
  realB1 (kb1 (fun _ _ h => h) fun x y xs st Q h => by cases x <;> exact h) fun f st H x v Q' Q s r h l => by
    cases x <;> try (exact h.elim)
    · rw [RD.str] at r; subst r
      exact ⟨_, _, rfl, ⟨by rw [← szl_eq]; exact h.1, rfl⟩, l.now s h.2 (RD.int.mpr rfl)⟩
    · rw [RD.tup] at r
      obtain ⟨a, vs, rfl, t, d⟩ := r
      exact ⟨_, vs.length, rfl, .inr ⟨vs, t, rfl⟩, by rw [d.length]; exact l.now s h (RD.int.mpr rfl)⟩
    · rw [RD.ref] at r
      obtain ⟨a, e, rfl⟩ := r
      obtain ⟨xs, h1, h2⟩ := h
      obtain ⟨a', vs, k1, k2, d⟩ := s.rdA h1
      rw [e] at k1; cases k1
      exact ⟨_, vs.length, rfl, .inl ⟨vs, k2, rfl⟩, by rw [d.length]; exact l.now s h2 (RD.int.mpr rfl)⟩
theorem kb2 {k : KB} (h0 : ∀ st Q, ¬ k [] st Q) (h1 : ∀ x st Q, ¬ k [x] st Q) (h3 : ∀ x y z xs st Q, ¬ k (x :: y :: z :: xs) st Q) : ∀ xs st Q, k xs st Q → ∃ x y, xs = [x, y] := fun xs st Q h => by
  match xs, h with
  | [], h => exact (h0 _ _ h).elim
  | [x], h => exact (h1 _ _ _ h).elim
  | [x, y], _ => exact ⟨x, y, rfl⟩
  | x :: y :: z :: xs, h => exact (h3 _ _ _ _ _ _ h).elim
theorem real_min2B : RealB K (fun xs H Q => ∃ i j, xs = [.int i, .int j] ∧ Q (.int (if j < i then j else i)) H) min2B := fun f st H xs vs Q' Q s r h l => by
  obtain ⟨x, y, rfl⟩ := kb2 (k := min2B) (fun _ _ h => h) (fun x st Q h => by cases x <;> exact h) (fun x y z xs st Q h => by cases x <;> cases y <;> exact h) xs st Q' h
  obtain ⟨v, w, rfl, r1, r2⟩ := r.inv2
  cases x <;> cases y <;> try (exact h.elim)
  rw [RD.int] at r1 r2
  subst r1; subst r2
  exact ⟨_, _, rfl, l.now s h (RD.int.mpr rfl)⟩
theorem real_max2B : RealB K (fun xs H Q => ∃ i j, xs = [.int i, .int j] ∧ Q (.int (if j > i then j else i)) H) max2B := fun f st H xs vs Q' Q s r h l => by
  obtain ⟨x, y, rfl⟩ := kb2 (k := max2B) (fun _ _ h => h) (fun x st Q h => by cases x <;> exact h) (fun x y z xs st Q h => by cases x <;> cases y <;> exact h) xs st Q' h
  obtain ⟨v, w, rfl, r1, r2⟩ := r.inv2
  cases x <;> cases y <;> try (exact h.elim)
  rw [RD.int] at r1 r2
  subst r1; subst r2
  exact ⟨_, _, rfl, l.now s h (RD.int.mpr rfl)⟩
theorem real_listB : RealB K (fun xs H Q => ∃ p ys, xs = [.ref p] ∧ (L2.SqL K H p ys ∨ L2.SqT K H p ys) ∧ ∀ l, H l = none → Q (.ref l) (L2.upd H l (.lst ys))) listB :=
  realB1 (kb1 (fun _ _ h => h) fun x y xs st Q h => by cases x <;> exact h) fun f st H x v Q' Q s r h l => by
    cases x <;> try (exact h.elim)
    · rw [RD.tup] at r
      obtain ⟨a, vs, rfl, t, d⟩ := r
      exact ⟨a, vs, rfl, .inr t, fun p hp => l.lst s h d hp⟩
    · rw [RD.ref] at r
      obtain ⟨a, e, rfl⟩ := r
      obtain ⟨xs, h1, h2⟩ := h
      obtain ⟨a', vs, k1, k2, d⟩ := s.rdA h1
      rw [e] at k1; cases k1
      exact ⟨a, vs, rfl, .inl k2, fun p hp => l.lst s h2 d hp⟩
theorem real_tupleB : RealB K (fun xs H Q => ∃ p ys, xs = [.ref p] ∧ ((L2.SqL K H p ys ∧ ∀ l, H l = none → Q (.ref l) (L2.upd H l (.tup ys))) ∨ (L2.SqT K H p ys ∧ Q (.ref p) H))) tupleB :=
  realB1 (kb1 (fun _ _ h => h) fun x y xs st Q h => by cases x <;> exact h) fun f st H x v Q' Q s r h l => by
    cases x <;> try (exact h.elim)
    · rw [RD.tup] at r
      obtain ⟨a, vs, rfl, t, d⟩ := r
      exact ⟨a, vs, rfl, .inr ⟨t, l.now s h (RD.tup.mpr ⟨a, vs, rfl, t, d⟩)⟩⟩
    · rw [RD.ref] at r
      obtain ⟨a, e, rfl⟩ := r
      obtain ⟨xs, h1, h2⟩ := h
      obtain ⟨a', vs, k1, k2, d⟩ := s.rdA h1
      rw [e] at k1; cases k1
      exact ⟨a, vs, rfl, .inl ⟨k2, fun p hp => l.tup s h2 d hp⟩⟩
theorem real_sumB : RealB K (L2.rSum K) sumB :=
  realB1 (kb1 (fun _ _ h => h) fun x y xs st Q h => by cases x <;> exact h) fun f st H x v Q' Q s r h l => by
    cases x <;> try (exact h.elim)
    rw [RD.ref] at r
    obtain ⟨a, e, rfl⟩ := r
    obtain ⟨ns, h1, h2⟩ := h
    obtain ⟨a', vs, k1, k2, d⟩ := s.rdA h1
    rw [e] at k1; cases k1
    exact ⟨a, ns, rfl, by rw [← d.ints]; exact k2, l.now s h2 (RD.int.mpr rfl)⟩
def truV : L2.V → Bool
  | .bl b => b
  | .int i => i != 0
  | _ => false
def tfl : L2.V → Bool
  | .non => true
  | .bl _ => true
  | .int _ => true
  | _ => false
def rAnyF (K : Kf) : List L2.V → Hp → L2.VK → Prop := fun vs H Q => ∃ (a : Addr) (xs : List L2.V), vs = [L2.V.ref a] ∧ L2.SqL K H a xs ∧ xs.all tfl = true ∧ Q (.bl (xs.any truV)) H
def rAllF (K : Kf) : List L2.V → Hp → L2.VK → Prop := fun vs H Q => ∃ (a : Addr) (xs : List L2.V), vs = [L2.V.ref a] ∧ L2.SqL K H a xs ∧ xs.all tfl = true ∧ Q (.bl (xs.all truV)) H
theorem truth_tfl {prog : Program} {w : World} {A : Around} {xs : List L2.V} {its : List Value} (r : L2.Vals xs its) (h : xs.all tfl = true) :
    TruthOf prog w A (fun i v => its.toArray[i]? = some v) (fun i => (xs.map truV).getD i false) := fun i v s Q E hv hq => by
  have hv' : its[i]? = some v := by simpa using hv
  have hi : i < xs.length := by rw [r.length]; exact (List.getElem?_eq_some_iff.mp hv').1
  have hx : xs[i]? = some xs[i] := by simp [hi]
  obtain ⟨u, hu, ru⟩ := r.get hx
  rw [hv'] at hu; cases hu
  have hg : (xs.map truV).getD i false = truV xs[i] := by rw [List.getD_eq_getElem?_getD, List.getElem?_map, hx]; rfl
  have hq' : Q ((xs.map truV).getD i false) s := hq
  rw [hg] at hq'
  have ht : tfl xs[i] = true := by
    rw [List.all_eq_true] at h
    exact h _ (List.getElem_mem hi)
  generalize xs[i] = x at ru hq' ht
  cases x with
  | non => cases ru; exact PyProof.Rows.truthy_none hq'
  | bl b => cases ru; exact wpAny_truthy_bool hq'
  | int j => obtain ⟨t, rfl⟩ := ru; exact PySem.P.truthy_int hq'
  | _ => exact absurd ht (by simp [tfl])
theorem cr_anyF (hc : X.calm = true) : L2.CallR X (.builtin "any") (rAnyF X.K) := by
  intro pins s σ H vs us Q I r h
  obtain ⟨a, xs, rfl, hs, ht, q⟩ := h
  obtain ⟨its, rv, hl, _⟩ := I.list hs
  rw [L2.Vals.ref1 r]
  refine call_any_walk (L2.iter_any hl.isList fun s₂ e2 st hne => ?_)
  subst e2
  refine ⟨_, _, _, _, _, _, _, rfl, Walks.list (A := X.A.in1) (I.ok.hd hc) _ a hne its.toArray, st, truth_tfl rv ht, fun h' tk hk => ?_⟩
  refine ⟨.bl _, H, I.kept fun b o eo => hk b o (fun hmem => ?_) (Heap.get?_push_of_some _ eo), ?_, q⟩
  · rcases List.mem_cons.mp hmem with e1 | hmem
    · exact absurd (e1 ▸ Heap.lt_size eo) (Nat.lt_irrefl _)
    · cases hmem
  · show Value.bool _ = Value.bool _
    have e1 : its.toArray.size = (xs.map truV).length := by rw [List.size_toArray, List.length_map]; exact rv.length.symm
    rw [e1, L2.any_range, List.any_map]
    rfl
theorem cr_allF (hc : X.calm = true) : L2.CallR X (.builtin "all") (rAllF X.K) := by
  intro pins s σ H vs us Q I r h
  obtain ⟨a, xs, rfl, hs, ht, q⟩ := h
  obtain ⟨its, rv, hl, _⟩ := I.list hs
  rw [L2.Vals.ref1 r]
  refine call_all_walk (L2.iter_any hl.isList fun s₂ e2 st hne => ?_)
  subst e2
  refine ⟨_, _, _, _, _, _, _, rfl, Walks.list (A := X.A.in1) (I.ok.hd hc) _ a hne its.toArray, st, truth_tfl rv ht, fun h' tk hk => ?_⟩
  refine ⟨.bl _, H, I.kept fun b o eo => hk b o (fun hmem => ?_) (Heap.get?_push_of_some _ eo), ?_, q⟩
  · rcases List.mem_cons.mp hmem with e1 | hmem
    · exact absurd (e1 ▸ Heap.lt_size eo) (Nat.lt_irrefl _)
    · cases hmem
  · show Value.bool _ = Value.bool _
    have e1 : its.toArray.size = (xs.map truV).length := by rw [List.size_toArray, List.length_map]; exact rv.length.symm
    rw [e1, L2.all_range, List.all_map]
    rfl
theorem RD.tru {x : D} {v : L2.V} (h : RD K f H x v) (hx : x.tflat = true) : tfl v = true ∧ truV v = x.tru := by
  cases x with
  | non => rw [RD.non] at h; subst h; exact ⟨rfl, rfl⟩
  | bl b => rw [RD.bl] at h; subst h; exact ⟨rfl, rfl⟩
  | int i => rw [RD.int] at h; subst h; exact ⟨rfl, rfl⟩
  | str _ => cases hx
  | tup _ => cases hx
  | ref _ => cases hx
theorem RDs.tru : ∀ {xs : List D} {vs : List L2.V}, RDs K f H xs vs → xs.all D.tflat = true → vs.all tfl = true ∧ vs.any truV = xs.any D.tru ∧ vs.all truV = xs.all D.tru
  | [], _, h, _ => by rw [RDs.nil] at h; subst h; exact ⟨rfl, rfl, rfl⟩
  | x :: xs, _, h, hf => by
    rw [RDs.cons] at h
    obtain ⟨v, r, rfl, h1, h2⟩ := h
    have hf' : x.tflat = true ∧ xs.all D.tflat = true := by simpa using hf
    obtain ⟨a, b⟩ := h1.tru hf'.1
    obtain ⟨c, d, e⟩ := RDs.tru h2 hf'.2
    simp [a, b, c, d, e]
theorem real_allB : RealB K (rAllF K) allB :=
  realB1 (kb1 (fun _ _ h => h) fun x y xs st Q h => by cases x <;> exact h) fun f st H x v Q' Q s r h l => by
    cases x <;> try (exact h.elim)
    rw [RD.ref] at r
    obtain ⟨a, e, rfl⟩ := r
    obtain ⟨xs, h1, h2, h3⟩ := h
    obtain ⟨a', vs, k1, k2, d⟩ := s.rdA h1
    rw [e] at k1; cases k1
    obtain ⟨t1, t2, t3⟩ := d.tru h2
    exact ⟨a, vs, rfl, k2, t1, by rw [t3]; exact l.now s h3 (RD.bl.mpr rfl)⟩
theorem real_anyB : RealB K (rAnyF K) anyB :=
  realB1 (kb1 (fun _ _ h => h) fun x y xs st Q h => by cases x <;> exact h) fun f st H x v Q' Q s r h l => by
    cases x <;> try (exact h.elim)
    rw [RD.ref] at r
    obtain ⟨a, e, rfl⟩ := r
    obtain ⟨xs, h1, h2, h3⟩ := h
    obtain ⟨a', vs, k1, k2, d⟩ := s.rdA h1
    rw [e] at k1; cases k1
    obtain ⟨t1, t2, t3⟩ := d.tru h2
    exact ⟨a, vs, rfl, k2, t1, by rw [t2]; exact l.now s h3 (RD.bl.mpr rfl)⟩
theorem real_min1B : RealB K (L2.rMin K) min1B :=
  realB1 (kb1 (fun _ _ h => h) fun x y xs st Q h => by cases x <;> exact h) fun f st H x v Q' Q s r h l => by
    cases x <;> try (exact h.elim)
    rw [RD.ref] at r
    obtain ⟨a, e, rfl⟩ := r
    obtain ⟨ns, h1, h2, h3⟩ := h
    obtain ⟨a', vs, k1, k2, d⟩ := s.rdA h1
    rw [e] at k1; cases k1
    exact ⟨a, ns, rfl, by rw [← d.ints]; exact k2, h2, fun m hm hy => l.now s (h3 m hm hy) (RD.int.mpr rfl)⟩
theorem real_max1B : RealB K (L2.rMax K) max1B :=
  realB1 (kb1 (fun _ _ h => h) fun x y xs st Q h => by cases x <;> exact h) fun f st H x v Q' Q s r h l => by
    cases x <;> try (exact h.elim)
    rw [RD.ref] at r
    obtain ⟨a, e, rfl⟩ := r
    obtain ⟨ns, h1, h2, h3⟩ := h
    obtain ⟨a', vs, k1, k2, d⟩ := s.rdA h1
    rw [e] at k1; cases k1
    exact ⟨a, ns, rfl, by rw [← d.ints]; exact k2, h2, fun m hm hy => l.now s (h3 m hm hy) (RD.int.mpr rfl)⟩
end
end Pd
end PartPdSoundC

section PartPdSoundD
set_option Elab.async false
set_option linter.all false
set_option maxRecDepth 100000
set_option maxHeartbeats 1000000
/-! Pd over the hand layer: targets, loops, statements, comprehensions, methods, defs. Own work. -/
namespace Pd
open PySem PySem.Spec
section
variable {X : L2.Cx} {K : Kf} {f f' : List Addr} {H H' : Hp} {st st' : Store} {ρ : Env} {σ : L2.St}
/-! ### targets -/
def LG (K : Kf) (f : List Addr) (H : Hp) (σ : L2.St) (vs : List Nat) (Q' : Env → Store → Prop) (Q : L2.St → Hp → Prop) : Prop :=
  ∀ (ρ' : Env) (st' : Store) (σ' : L2.St) (f' : List Addr) (H' : Hp), Q' ρ' st' → Ext K f H f' H' → Rel K f' ρ' st' σ' H' → Out vs σ σ' → Q σ' H'
def liftG (K : Kf) (g : TG) (vs : List Nat) : L2.TG := fun v σ H Q => ∃ f ρ st d Q', Rel K f ρ st σ H ∧ RD K f H d v ∧ g d ρ st Q' ∧ LG K f H σ vs Q' Q
def liftGs (K : Kf) (g : TGs) (vs : List Nat) : L2.TGs := fun us σ H Q => ∃ f ρ st ds Q', Rel K f ρ st σ H ∧ RDs K f H ds us ∧ g ds ρ st Q' ∧ LG K f H σ vs Q' Q
abbrev PDG (X : L2.Cx) (e : Expr) (g : TG) (vs : List Nat) : Prop := L2.PG X e (liftG X.K g vs)
abbrev PDGs (X : L2.Cx) (es : List Expr) (g : TGs) (vs : List Nat) : Prop := L2.PGs X es (liftGs X.K g vs)
theorem pg_imp {e : Expr} {t t' : L2.TG} (h : L2.PG X e t) (m : ∀ v σ H Q, t' v σ H Q → t v σ H Q) : L2.PG X e t' := ⟨fun pins s σ H v u Q I r q => h.run pins s σ H v u Q I r (m v σ H Q q)⟩
theorem pgs_imp {e : List Expr} {t t' : L2.TGs} (h : L2.PGs X e t) (m : ∀ v σ H Q, t' v σ H Q → t v σ H Q) : L2.PGs X e t' := ⟨fun pins s σ H v u Q I r q => h.run pins s σ H v u Q I r (m v σ H Q q)⟩
theorem Out.refl {vs : List Nat} {σ : L2.St} : Out vs σ σ := ⟨rfl, fun _ _ => rfl⟩
theorem Out.set {i : Nat} {v : L2.V} {σ : L2.St} : Out [i] σ (σ.set i (some v)) := ⟨by rw [List.length_set], fun j h => by
  have : j ≠ i := fun e => h (by simp [e])
  rw [List.getElem?_set_ne (Ne.symm this)]⟩
theorem Out.trans {vs ws : List Nat} {σ σ1 σ2 : L2.St} (a : Out vs σ σ1) (b : Out ws σ1 σ2) : Out (vs ++ ws) σ σ2 :=
  ⟨b.1.trans a.1, fun j h => (b.2 j fun e => h (List.mem_append_right _ e)).trans (a.2 j fun e => h (List.mem_append_left _ e))⟩
theorem pg_name {i : Nat} {x : Str} {pos : Pos} (hN : X.N.Nodup) (hi : X.N[i]? = some x) (hx : L2.Loc X.env.scope x) (hf : X.fn x = true ∨ X.env.scope.names.lookup x = some .local := by first | exact .inl rfl | exact .inr rfl | assumption) : PDG X (.Name x pos) (gName i) [i] :=
  pg_imp (L2.pg_name hN hi hx hf) fun v σ H Q ⟨f, ρ, st, d, Q', R, r, h, l⟩ => l _ st _ f H h .refl (R.put r) Out.set
theorem pgs_nil : PDGs X [] gsNil [] := pgs_imp L2.pgs_nil fun us σ H Q ⟨f, ρ, st, ds, Q', R, r, h, l⟩ => by
  obtain ⟨rfl, h⟩ := h
  rw [RDs.nil] at r
  exact ⟨r, l ρ st σ f H h .refl R .refl⟩
theorem pgs_cons {e : Expr} {es : List Expr} {g : TG} {gs : TGs} {vs ws : List Nat} (h1 : PDG X e g vs) (h2 : PDGs X es gs ws) (hs : (assignEach (e :: es) X.env).map (·.2) = assign e X.env :: (assignEach es X.env).map (·.2) := by rfl) : PDGs X (e :: es) (gsCons g gs) (vs ++ ws) :=
  pgs_imp (L2.pgs_cons h1 h2 hs) fun us σ H Q ⟨f, ρ, st, ds, Q', R, r, h, l⟩ => by
    obtain ⟨d, ds', rfl, h⟩ := h
    rw [RDs.cons] at r
    obtain ⟨v, rr, rfl, r1, r2⟩ := r
    refine ⟨v, rr, rfl, f, ρ, st, d, _, R, r1, h, fun ρ1 st1 σ1 f1 H1 q e1 R1 o1 => ?_⟩
    exact ⟨f1, ρ1, st1, ds', Q', R1, r2.mono e1, q, fun ρ2 st2 σ2 f2 H2 q2 e2 R2 o2 => l ρ2 st2 σ2 f2 H2 q2 (e1.trans e2) R2 (o1.trans o2)⟩
theorem pg_tup {es : List Expr} {k : Nat} {pos : Pos} {gs : TGs} {vs : List Nat} {n : Nat} (hc : X.calm = true) (h : PDGs X es gs vs)
    (hn : (assignEach es X.env).length = n := by rfl) (hst : (assignEach es X.env).findIdx? (·.1) = none := by rfl) : PDG X (.Tuple es k pos) (gTup gs n) vs :=
  pg_imp (L2.pg_tup hc h hn hst) fun v σ H Q ⟨f, ρ, st, d, Q', R, r, h, l⟩ => by
    obtain ⟨ds, rfl, hl, h⟩ := h
    rw [RD.tup] at r
    obtain ⟨a, us, rfl, t, rs⟩ := r
    exact ⟨a, us, rfl, t, by rw [rs.length]; exact hl, f, ρ, st, ds, Q', R, rs, h, l⟩
def RealSet (K : Kf) (r : L2.V → L2.V → L2.V → Hp → (Hp → Prop) → Prop) (k : D → D → D → Store → (Store → Prop) → Prop) : Prop :=
  ∀ (f : List Addr) (st : Store) (H : Hp) (o i v : D) (ov iv vv : L2.V) (Q' : Store → Prop) (Q : Hp → Prop), RelS K f st H → RD K f H o ov → RD K f H i iv → RD K f H v vv → k o i v st Q' →
    (∀ st' H', Q' st' → Ext K f H f H' → RelS K f st' H' → Q H') → r ov iv vv H Q
theorem real_set : RealSet K L2.rSetL setK := fun f st H o i v ov iv vv Q' Q s r1 r2 r3 h l => by
  cases o <;> try (exact h.elim)
  cases i <;> try (exact h.elim)
  rename_i n i
  rw [RD.ref] at r1
  rw [RD.int] at r2
  obtain ⟨a, e, rfl⟩ := r1
  obtain ⟨xs, h1, ⟨d, h2⟩, h3, h4⟩ := h
  obtain ⟨a', vs, k1, k2, k3⟩ := s.rdL h1
  rw [e] at k1; cases k1
  have hlt : i < (vs.length : Int) := by
    rw [k3.length]
    unfold atD at h2
    rw [if_pos h3] at h2
    have := (List.getElem?_eq_some_iff.mp h2).1
    omega
  obtain ⟨s', e'⟩ := s.put e h1 k2 (k3.set i.toNat r3)
  exact ⟨a, vs, i, i.toNat, rfl, r2, k2, by unfold L2.ixN; rw [if_pos h3, if_pos hlt], l _ _ h4 e' s'⟩
section
variable {a b c e o i : Expr} {es : List Expr} {ta tb te to ti : TE} {pos tpos : Pos}
theorem pg_sub (h1 : PD X o to) (h2 : PD X i ti) (ha : ∀ v, assign (.Subscript o i pos) X.env v = (do
      let ov ← holding [v] (eval o X.env)
      let iv ← holding [v, ov] (eval i X.env)
      standAt pos
      holding [v, ov, iv] (setItem ov iv v)
      release [v, ov, iv] []) := by intro _; rfl) : PDG X (.Subscript o i pos) (gSub to ti) [] :=
  pg_imp (L2.pg_sub h1 h2 L2.set_list ha) fun v σ H Q ⟨f, ρ, st, d, Q', R, r, h, l⟩ => ⟨f, ρ, st, _, R, h, fun x st1 u f1 H1 q1 e1 s1 r1 => ⟨f1, ρ, st1, _, R.later e1 s1, q1, fun y st2 w f2 H2 q2 e2 s2 r2 =>
    real_set f2 st2 H2 x y d u w v _ _ s2 (r1.mono e2) r2 (r.mono (e1.trans e2)) q2 fun st3 H3 q3 e3 s3 => l ρ st3 σ f2 H3 q3 ((e1.trans e2).trans e3) (R.later ((e1.trans e2).trans e3) s3) .refl⟩⟩

/-! ### iterables -/
/-- what is walked: data and walk -/
structure RealI (K : Kf) (f : List Addr) (H : Hp) (I : Iter) (J : L2.It) : Prop where
  go : ∀ (i : Nat) (f2 : List Addr) (st2 : Store) (H2 : Hp), Ext K f H f2 H2 → RelS K f2 st2 H2 → I.guard st2 → i < I.items.length → J.go i H2
  stop : ∀ (f2 : List Addr) (st2 : Store) (H2 : Hp), Ext K f H f2 H2 → RelS K f2 st2 H2 → I.guard st2 → J.stop I.items.length H2
  yld : ∀ (i : Nat) (f2 : List Addr) (st2 : Store) (H2 : Hp) (d : D) (x : L2.V) (H3 : Hp), Ext K f H f2 H2 → RelS K f2 st2 H2 → I.guard st2 → I.items[i]? = some d → J.yld i H2 x H3 → Ext K f2 H2 f2 H3 ∧ RelS K f2 st2 H3 ∧ RD K f2 H3 d x
def liftI (K : Kf) (t : TI) : L2.TI := fun σ H R => ∃ f ρ st R', Rel K f ρ st σ H ∧ t ρ st R' ∧ ∀ (I : Iter) (st' : Store) (J : L2.It) (f' : List Addr) (H' : Hp), R' I st' → Ext K f H f' H' → RelS K f' st' H' → RealI K f' H' I J → R J H'
abbrev PDI (X : L2.Cx) (tg e : Expr) (t : TI) : Prop := L2.PI X tg e (liftI X.K t)
theorem pi_imp {tg e : Expr} {t t' : L2.TI} (h : L2.PI X tg e t) (m : ∀ σ H R, t' σ H R → t σ H R) : L2.PI X tg e t' := ⟨fun pins s σ H R I q => h.run pins s σ H R I (m σ H R q)⟩
def iSeqV (K : Kf) (tl : L2.TE) : L2.TI := fun σ H R => tl σ H fun x H1 => ∃ a, x = .ref a ∧ ((∃ xs, L2.SqL K H1 a xs ∧ R (L2.Itl K a) H1) ∨ (∃ xs, L2.SqT K H1 a xs ∧ R (L2.Itt K a) H1))
theorem pi_seqV {tg l : Expr} {tl : L2.TE} (hl : L2.PE X l tl) : L2.PI X tg l (iSeqV X.K tl) := by
  refine ⟨fun pins s σ H R I h => ?_⟩
  refine L2.thn (hl.run pins s σ H _ I h) fun v s1 ⟨x, H1, I1, r1, q1⟩ => ?_
  obtain ⟨a, e, q1⟩ := q1
  subst e
  cases r1
  have fin : ∀ b ∈ [s1.heap.objs.size], L2.FpOk X pins H1 b := fun b hb => by
    have e : b = s1.heap.objs.size := by simpa using hb
    subst e
    exact I1.fpOk (Nat.le_refl _) (I1.hok.fresh (Nat.le_refl _))
  rcases q1 with ⟨xs, hq, q⟩ | ⟨xs, hq, q⟩
  · obtain ⟨its, rv, p, hz⟩ := I1.list hq
    refine wpAny_pyIter_list p.isList ?_
    exact ⟨s1.heap.objs.size, [s1.heap.objs.size], _, _, H1, rfl, I1.kept (t' := s1.toks) fun b o e => Heap.get?_push_of_some _ e, L2.turn_list a _, ⟨_, Heap.get?_push_size _ rfl, rfl, rfl⟩, fin, q⟩
  · obtain ⟨its, rv, p, hz⟩ := I1.tuple hq
    refine wpAny_pyIter_tuple (show s1.heap.IsTuple a its.toArray from p) ?_
    exact ⟨s1.heap.objs.size, [s1.heap.objs.size], _, _, H1, rfl, I1.kept (t' := s1.toks) fun b o e => Heap.get?_push_of_some _ e, L2.turn_tuple a _, ⟨_, Heap.get?_push_size _ rfl, rfl, rfl⟩, fin, q⟩
theorem RDs.at_lt {ds : List D} {vs : List L2.V} (h : RDs K f H ds vs) {i : Nat} (hi : i < ds.length) : ∃ v, vs[i]? = some v := by
  have := h.length
  exact ⟨vs[i]'(by omega), by simp [this, hi]⟩
theorem realI_list {n : Nat} {a : Addr} {xs : List D} (hn : f[n]? = some a) : RealI K f H ⟨xs, fun s => rdA s n xs⟩ (L2.Itl K a) where
  go := fun i f2 st2 H2 e2 s2 g hi => by
    obtain ⟨a', vs, k1, k2, k3⟩ := s2.rdA g
    rw [e2.at hn] at k1; cases k1
    obtain ⟨v, hv⟩ := k3.at_lt hi
    exact ⟨vs, v, k2, hv⟩
  stop := fun f2 st2 H2 e2 s2 g => by
    obtain ⟨a', vs, k1, k2, k3⟩ := s2.rdA g
    rw [e2.at hn] at k1; cases k1
    exact ⟨vs, k2, by rw [k3.length]; exact Nat.le_refl _⟩
  yld := fun i f2 st2 H2 d x H3 e2 s2 g hd y => by
    obtain ⟨a', vs, k1, k2, k3⟩ := s2.rdA g
    rw [e2.at hn] at k1; cases k1
    obtain ⟨rfl, y⟩ := y
    obtain ⟨v, h1, h2⟩ := k3.get hd
    have := y vs k2
    rw [h1] at this; cases this
    exact ⟨.refl, s2, h2⟩
theorem realI_tup {a : Addr} {xs : List D} {vs : List L2.V} (t : L2.SqT K H a vs) (r : RDs K f H xs vs) : RealI K f H ⟨xs, fun _ => True⟩ (L2.Itt K a) where
  go := fun i f2 st2 H2 e2 s2 g hi => by
    obtain ⟨v, hv⟩ := r.at_lt hi
    exact ⟨vs, v, e2.tup _ _ t, hv⟩
  stop := fun f2 st2 H2 e2 s2 g => ⟨vs, e2.tup _ _ t, by rw [r.length]; exact Nat.le_refl _⟩
  yld := fun i f2 st2 H2 d x H3 e2 s2 g hd y => by
    obtain ⟨rfl, y⟩ := y
    obtain ⟨v, h1, h2⟩ := r.get hd
    have := y vs (e2.tup _ _ t)
    rw [h1] at this; cases this
    exact ⟨.refl, s2, h2.mono e2⟩
theorem realI_rng {lo : Int} {n : Nat} : RealI K f H ⟨rng lo n, fun _ => True⟩ (L2.Itr lo n) where
  go := fun i f2 st2 H2 e2 s2 g hi => by
    have : i < n := by simpa [rng] using hi
    exact this
  stop := fun f2 st2 H2 e2 s2 g => by
    show n ≤ (rng lo n).length
    simp [rng]
  yld := fun i f2 st2 H2 d x H3 e2 s2 g hd y => by
    obtain ⟨rfl, rfl⟩ := y
    refine ⟨.refl, s2, ?_⟩
    have hd' : (rng lo n)[i]? = some d := hd
    unfold rng at hd'
    rw [List.getElem?_map] at hd'
    cases q : (List.range n)[i]? with
    | none => rw [q] at hd'; cases hd'
    | some j =>
      rw [q] at hd'
      obtain ⟨h1, h2⟩ := List.getElem?_eq_some_iff.mp q
      simp at h2
      subst h2
      simp at hd'
      subst hd'
      rw [RD.int]
theorem pi_seq {tg : Expr} (h : PD X a ta) : PDI X tg a (iSeq ta) :=
  pi_imp (pi_seqV h) fun σ H R ⟨f, ρ, st, R', Re, h, l⟩ => ⟨f, ρ, st, _, Re, h, fun x st1 v f1 H1 q1 e1 s1 r1 => by
    cases x <;> try (exact q1.elim)
    · rw [RD.tup] at r1
      obtain ⟨a, vs, rfl, t, d⟩ := r1
      exact ⟨a, rfl, .inr ⟨vs, t, l _ st1 _ f1 H1 q1 e1 s1 (realI_tup t d)⟩⟩
    · rw [RD.ref] at r1
      obtain ⟨a, e, rfl⟩ := r1
      obtain ⟨xs, g1, g2⟩ := q1
      obtain ⟨a', vs, k1, k2, k3⟩ := s1.rdA g1
      rw [e] at k1; cases k1
      exact ⟨a, rfl, .inl ⟨vs, k2, l _ st1 _ f1 H1 g2 e1 s1 (realI_list e)⟩⟩⟩
theorem pi_r1 {tg : Expr} {p : Pos} (hg : L2.Gl X "range") (hm : X.mg "range" = none) (h : PD X a ta) (hs : starEach [a] X.env = [(false, eval a X.env)] := by rfl) : PDI X tg (.Call (.Name "range" p) [a] [] pos) (iR1 ta) :=
  pi_imp (L2.pi_range1 hg hm (L2.pa_cons h L2.pa_nil hs) hs) fun σ H R ⟨f, ρ, st, R', Re, h, l⟩ => ⟨f, ρ, st, _, Re, h, fun x st1 v f1 H1 q1 e1 s1 r1 => by
    obtain ⟨j, rfl, h1, h2, h3⟩ := q1
    rw [RD.int] at r1
    subst r1
    exact ⟨j, rfl, h1, h2, l _ st1 _ f1 H1 h3 e1 s1 realI_rng⟩⟩
theorem pi_r2 {tg : Expr} {p : Pos} (hg : L2.Gl X "range") (hm : X.mg "range" = none) (h : PD X a ta) (h' : PD X b tb) (hs : starEach [a, b] X.env = [(false, eval a X.env), (false, eval b X.env)] := by rfl) (hs2 : starEach [b] X.env = [(false, eval b X.env)] := by rfl) : PDI X tg (.Call (.Name "range" p) [a, b] [] pos) (iR2 ta tb) :=
  pi_imp (L2.pi_range2 hg hm (L2.pa_cons h (L2.pa_cons h' L2.pa_nil hs2) (hs.trans (by rw [hs2]))) hs hs2) fun σ H R ⟨f, ρ, st, R', Re, h, l⟩ => ⟨f, ρ, st, _, Re, h, fun x st1 v f1 H1 q1 e1 s1 r1 => ⟨f1, ρ, st1, _, Re.later e1 s1, q1, fun y st2 w f2 H2 q2 e2 s2 r2 => by
    obtain ⟨i, j, rfl, rfl, h2, h3⟩ := q2
    have r1' := r1.mono e2
    rw [RD.int] at r1' r2
    subst r1'; subst r2
    exact ⟨i, j, rfl, h2, l _ st2 _ f2 H2 h3 (e1.trans e2) s2 realI_rng⟩⟩⟩
theorem zipD_get : ∀ {xs ys : List D} {i : Nat} {d : D}, (zipD xs ys)[i]? = some d → ∃ x y, d = .tup [x, y] ∧ xs[i]? = some x ∧ ys[i]? = some y
  | [], _, _, _, h => by simp [zipD] at h
  | _ :: _, [], _, _, h => by simp [zipD] at h
  | x :: xs, y :: ys, 0, d, h => by simp [zipD] at h; exact ⟨x, y, h.symm, rfl, rfl⟩
  | x :: xs, y :: ys, i + 1, d, h => by
    obtain ⟨x', y', h1, h2, h3⟩ := zipD_get (xs := xs) (ys := ys) (i := i) (by simpa [zipD] using h)
    exact ⟨x', y', h1, by simpa using h2, by simpa using h3⟩
theorem zipD_length : ∀ (xs ys : List D), (zipD xs ys).length = min xs.length ys.length
  | [], _ => by simp [zipD]
  | _ :: _, [] => by simp [zipD]
  | x :: xs, y :: ys => by simp [zipD, zipD_length xs ys]
theorem realI_zipT {a b : Addr} {xs ys : List D} {vs ws : List L2.V} (t : L2.SqT K H a vs) (r : RDs K f H xs vs) (t' : L2.SqT K H b ws) (r' : RDs K f H ys ws) : RealI K f H ⟨zipD xs ys, fun _ => True⟩ (RZ.ItzT K a b) where
  go := fun i f2 st2 H2 e2 s2 g hi => by
    have hi : i < (zipD xs ys).length := hi
    rw [zipD_length] at hi
    obtain ⟨v, hv⟩ := r.at_lt (i := i) (by omega)
    obtain ⟨w, hw⟩ := r'.at_lt (i := i) (by omega)
    exact ⟨vs, ws, v, w, e2.tup _ _ t, e2.tup _ _ t', hv, hw⟩
  stop := fun f2 st2 H2 e2 s2 g => ⟨vs, ws, e2.tup _ _ t, e2.tup _ _ t', by
    show vs.length ≤ (zipD xs ys).length ∨ ws.length ≤ (zipD xs ys).length
    rw [zipD_length, r.length, r'.length]; omega⟩
  yld := fun i f2 st2 H2 d x H3 e2 s2 g hd y => by
    obtain ⟨T, x1, x2, rfl, hT, rfl, y1, y2⟩ := y
    obtain ⟨d1, d2, rfl, g1, g2⟩ := zipD_get hd
    obtain ⟨v, h1, h2⟩ := r.get g1
    obtain ⟨w, h3, h4⟩ := r'.get g2
    have q1 := y1 vs (e2.tup _ _ t)
    have q2 := y2 ws (e2.tup _ _ t')
    rw [h1] at q1; cases q1
    rw [h3] at q2; cases q2
    obtain ⟨s', e'⟩ := s2.lay (o := .tup [x1, x2]) hT
    refine ⟨e', s', RD.tup.mpr ⟨T, [x1, x2], rfl, .of L2.upd_same, ?_⟩⟩
    rw [RDs.cons]
    exact ⟨x1, [x2], rfl, (h2.mono e2).mono e', RDs.one ((h4.mono e2).mono e')⟩
theorem realI_zipL {m n : Nat} {a b : Addr} {xs ys : List D} (hm : f[m]? = some a) (hn : f[n]? = some b) : RealI K f H ⟨zipD xs ys, fun s => rdA s m xs ∧ rdA s n ys⟩ (L2.Itz K a b) where
  go := fun i f2 st2 H2 e2 s2 g hi => by
    have hi : i < (zipD xs ys).length := hi
    rw [zipD_length] at hi
    obtain ⟨a', vs, k1, k2, k3⟩ := s2.rdA g.1
    obtain ⟨b', ws, j1, j2, j3⟩ := s2.rdA g.2
    rw [e2.at hm] at k1; cases k1
    rw [e2.at hn] at j1; cases j1
    obtain ⟨v, hv⟩ := k3.at_lt (i := i) (by omega)
    obtain ⟨w, hw⟩ := j3.at_lt (i := i) (by omega)
    exact ⟨vs, ws, v, w, k2, j2, hv, hw⟩
  stop := fun f2 st2 H2 e2 s2 g => by
    obtain ⟨a', vs, k1, k2, k3⟩ := s2.rdA g.1
    obtain ⟨b', ws, j1, j2, j3⟩ := s2.rdA g.2
    rw [e2.at hm] at k1; cases k1
    rw [e2.at hn] at j1; cases j1
    refine ⟨vs, ws, k2, j2, ?_⟩
    show vs.length ≤ (zipD xs ys).length ∨ ws.length ≤ (zipD xs ys).length
    rw [zipD_length, k3.length, j3.length]; omega
  yld := fun i f2 st2 H2 d x H3 e2 s2 g hd y => by
    obtain ⟨a', vs, k1, k2, k3⟩ := s2.rdA g.1
    obtain ⟨b', ws, j1, j2, j3⟩ := s2.rdA g.2
    rw [e2.at hm] at k1; cases k1
    rw [e2.at hn] at j1; cases j1
    obtain ⟨T, x1, x2, rfl, hT, rfl, y1, y2⟩ := y
    obtain ⟨d1, d2, rfl, g1, g2⟩ := zipD_get hd
    obtain ⟨v, h1, h2⟩ := k3.get g1
    obtain ⟨w, h3, h4⟩ := j3.get g2
    have q1 := y1 vs k2
    have q2 := y2 ws j2
    rw [h1] at q1; cases q1
    rw [h3] at q2; cases q2
    obtain ⟨s', e'⟩ := s2.lay (o := .tup [x1, x2]) hT
    refine ⟨e', s', RD.tup.mpr ⟨T, [x1, x2], rfl, .of L2.upd_same, ?_⟩⟩
    rw [RDs.cons]
    exact ⟨x1, [x2], rfl, h2.mono e', RDs.one (h4.mono e')⟩
theorem pi_zip {p tp : Pos} {kk : Nat} (hg : L2.Gl X "zip") (hm : X.mg "zip" = none) (h : PD X a ta) (h' : PD X b tb) (hs : starEach [a, b] X.env = (false, eval a X.env) :: starEach [b] X.env := by rfl) (hs2 : starEach [b] X.env = (false, eval b X.env) :: starEach [] X.env := by rfl)
    (hpl : (backTo pos (starEach [b] X.env)).any (·.1) = false := by rfl) : PDI X (.Tuple es kk tp) (.Call (.Name "zip" p) [a, b] [] pos) (iZip2 ta tb) :=
  pi_imp (RZ.pi_zipA hg hm (L2.pa_cons h (L2.pa_cons h' L2.pa_nil hs2) hs) hs hpl) fun σ H R ⟨f, ρ, st, R', Re, h, l⟩ => ⟨f, ρ, st, _, Re, h, fun x st1 v f1 H1 q1 e1 s1 r1 => ⟨f1, ρ, st1, _, Re.later e1 s1, q1, fun y st2 w f2 H2 q2 e2 s2 r2 => by
    have r1' := r1.mono e2
    cases x <;> cases y <;> try (exact q2.elim)
    · rw [RD.tup] at r1' r2
      obtain ⟨a, vs, rfl, t, d⟩ := r1'
      obtain ⟨b, ws, rfl, t', d'⟩ := r2
      exact ⟨a, b, vs, ws, rfl, .inr ⟨t, t', l _ st2 _ f2 H2 q2 (e1.trans e2) s2 (realI_zipT t d t' d')⟩⟩
    · rw [RD.ref] at r1' r2
      obtain ⟨a, g1, rfl⟩ := r1'
      obtain ⟨b, g2, rfl⟩ := r2
      obtain ⟨xs, ys, q3, q4, q5⟩ := q2
      obtain ⟨a', vs, k1, k2, k3⟩ := s2.rdA q3
      obtain ⟨b', ws, j1, j2, j3⟩ := s2.rdA q4
      rw [g1] at k1; cases k1
      rw [g2] at j1; cases j1
      exact ⟨a, b, vs, ws, rfl, .inl ⟨k2, j2, l _ st2 _ f2 H2 q5 (e1.trans e2) s2 (realI_zipL g1 g2)⟩⟩⟩⟩
end
end
end Pd
end PartPdSoundD

section PartPdSoundE
set_option Elab.async false
set_option linter.all false
set_option maxRecDepth 100000
set_option maxHeartbeats 1000000
/-! Pd over the hand layer: statements, comprehensions, methods, defs. Own work. -/
namespace Pd
open PySem PySem.Spec
section
variable {X : L2.Cx} {K : Kf} {f f' : List Addr} {H H' : Hp} {st st' : Store} {ρ : Env} {σ : L2.St}
/-! ### statements -/
structure LD (K : Kf) (f : List Addr) (H : Hp) (D' : Ends) (D : L2.Ends) : Prop where
  nx : ∀ (ρ' : Env) (st' : Store) (σ' : L2.St) (f' : List Addr) (H' : Hp), D'.nx ρ' st' → Ext K f H f' H' → Rel K f' ρ' st' σ' H' → D.nx σ' H'
  rt : LQ K f H D'.rt D.rt
  bk : ∀ (ρ' : Env) (st' : Store) (σ' : L2.St) (f' : List Addr) (H' : Hp), D'.bk ρ' st' → Ext K f H f' H' → Rel K f' ρ' st' σ' H' → D.bk σ' H'
  ct : ∀ (ρ' : Env) (st' : Store) (σ' : L2.St) (f' : List Addr) (H' : Hp), D'.ct ρ' st' → Ext K f H f' H' → Rel K f' ρ' st' σ' H' → D.ct σ' H'
def liftS (K : Kf) (t : TS) : L2.TS := fun D σ H => ∃ f ρ st D', Rel K f ρ st σ H ∧ t D' ρ st ∧ LD K f H D' D
abbrev PDS (X : L2.Cx) (s : Stmt) (t : TS) : Prop := L2.PS X s (liftS X.K t)
abbrev PDSs (X : L2.Cx) (s : List Stmt) (t : TS) : Prop := L2.PSs X s (liftS X.K t)
theorem ps_imp {s : Stmt} {t t' : L2.TS} (h : L2.PS X s t) (m : ∀ D σ H, t' D σ H → t D σ H) : L2.PS X s t' := ⟨fun pins s σ H D I q => h.run pins s σ H D I (m D σ H q)⟩
theorem pss_imp {s : List Stmt} {t t' : L2.TS} (h : L2.PSs X s t) (m : ∀ D σ H, t' D σ H → t D σ H) : L2.PSs X s t' := ⟨fun pins s σ H D I q => h.run pins s σ H D I (m D σ H q)⟩
theorem LD.later {D' : Ends} {D : L2.Ends} (l : LD K f H D' D) (e : Ext K f H f' H') : LD K f' H' D' D :=
  ⟨fun a b c d g q e2 r => l.nx a b c d g q (e.trans e2) r, l.rt.later e, fun a b c d g q e2 r => l.bk a b c d g q (e.trans e2) r, fun a b c d g q e2 r => l.ct a b c d g q (e.trans e2) r⟩
section
variable {a b c e o i : Expr} {es : List Expr} {ta tb te to ti : TE} {tC : TT} {pos tpos : Pos} {s : Stmt} {ss ss' : List Stmt} {t u : TS}
theorem pss_nil : PDSs X [] sNext := pss_imp L2.pss_nil fun D σ H ⟨f, ρ, st, D', R, h, l⟩ => l.nx ρ st σ f H h .refl R
theorem pss_cons (h1 : PDS X s t) (h2 : PDSs X ss u) : PDSs X (s :: ss) (sSeq t u) := pss_imp (L2.pss_cons h1 h2) fun D σ H ⟨f, ρ, st, D', R, h, l⟩ =>
  ⟨f, ρ, st, _, R, h, fun ρ1 st1 σ1 f1 H1 q e r => ⟨f1, ρ1, st1, D', r, q.go, l.later e⟩, l.rt, l.bk, l.ct⟩
theorem pss_one (h1 : PDS X s t) : PDSs X [s] t := L2.pss_one h1
theorem ps_pass : PDS X (.Pass pos) sNext := ps_imp L2.ps_pass fun D σ H ⟨f, ρ, st, D', R, h, l⟩ => l.nx ρ st σ f H h .refl R
theorem ps_doc {x j pos'} : PDS X (.Expr (.Constant (.str x) j pos) pos') sNext := ps_imp L2.ps_doc fun D σ H ⟨f, ρ, st, D', R, h, l⟩ => l.nx ρ st σ f H h .refl R
theorem ps_break : PDS X (.Break pos) sBreak := ps_imp L2.ps_break fun D σ H ⟨f, ρ, st, D', R, h, l⟩ => l.bk ρ st σ f H h .refl R
theorem ps_continue : PDS X (.Continue pos) sCont := ps_imp L2.ps_continue fun D σ H ⟨f, ρ, st, D', R, h, l⟩ => l.ct ρ st σ f H h .refl R
theorem ps_expr (he : PD X e te) (hs : swapsWith e none pos.line X.env = pure false := by rfl) : PDS X (.Expr e pos) (sExpr te) := ps_imp (L2.ps_expr he hs) fun D σ H ⟨f, ρ, st, D', R, h, l⟩ =>
  ⟨f, ρ, st, _, R, h, fun x st1 v f1 H1 q e1 s1 r1 => l.nx ρ st1 σ f1 H1 q e1 (R.later e1 s1)⟩
theorem ps_ret (he : PD X e te) : PDS X (.Return (some e) pos) (sRet te) := ps_imp (L2.ps_ret he) fun D σ H ⟨f, ρ, st, D', R, h, l⟩ => ⟨f, ρ, st, _, R, h, l.rt⟩
theorem ps_retN : PDS X (.Return none pos) sRetN := ps_imp L2.ps_retN fun D σ H ⟨f, ρ, st, D', R, h, l⟩ => l.rt.now R.toRelS h (RD.non.mpr rfl)
theorem ps_if (hc : PDT X c tC) (ha : PDSs X ss t) (hb : PDSs X ss' u) : PDS X (.If c ss ss' pos) (sIf tC t u) := ps_imp (L2.ps_if hc ha hb) fun D σ H ⟨f, ρ, st, D', R, h, l⟩ =>
  ⟨f, ρ, st, _, R, h, fun k st1 f1 H1 q e1 s1 => by
    cases k with
    | true => exact ⟨f1, ρ, st1, D', R.later e1 s1, q.1 rfl, l.later e1⟩
    | false => exact ⟨f1, ρ, st1, D', R.later e1 s1, q.2 rfl, l.later e1⟩⟩
theorem asg_core {g : TG} {vs : List Nat} {te : TE} {D : L2.Ends} (h : liftS K (sAsg te g) D σ H) : L2.tAsg (lift K te) (liftG K g vs) D σ H := by
  obtain ⟨f, ρ, st, D', R, h, l⟩ := h
  exact ⟨f, ρ, st, _, R, h, fun x st1 v f1 H1 q e1 s1 r1 => ⟨f1, ρ, st1, x, _, R.later e1 s1, r1, q, fun ρ2 st2 σ2 f2 H2 q2 e2 R2 _ => l.nx ρ2 st2 σ2 f2 H2 q2 (e1.trans e2) R2⟩⟩
theorem ps_asg {tg : Expr} {g : TG} {vs : List Nat} (he : PD X e te) (hg : PDG X tg g vs) (hs : swapsWithSole [tg] e pos.line X.env = pure false := by rfl) (hw : swappedStores [tg] e X.env = pure none := by rfl)
    (h1 : (assignEach [tg] X.env).map (·.2) = [assign tg X.env] := by rfl) : PDS X (.Assign [tg] e pos) (sAsg te g) := ps_imp (L2.ps_asg he hg hs hw h1) fun D σ H h => asg_core h
theorem ps_set {i : Nat} {x : Str} {pos' : Pos} (hN : X.N.Nodup) (hi : X.N[i]? = some x) (hx : L2.Loc X.env.scope x) (he : PD X e te) (hs : swapsWith e (some (.Name x pos')) pos.line X.env = pure false := by rfl) (hf : X.fn x = true ∨ X.env.scope.names.lookup x = some .local := by first | exact .inl rfl | exact .inr rfl | assumption) :
    PDS X (.Assign [.Name x pos'] e pos) (sAsg te (gName i)) := ps_imp (L2.ps_set hN hi hx he hs hf) fun D σ H ⟨f, ρ, st, D', R, h, l⟩ =>
  ⟨f, ρ, st, _, R, h, fun y st1 v f1 H1 q e1 s1 r1 => l.nx _ st1 _ f1 H1 q e1 ((R.later e1 s1).put r1)⟩
theorem ps_par {i j : Nat} {x y : Str} {ts : TA} {px py pt : Pos} {kt k2 pt2} (hc : X.calm = true) (hN : X.N.Nodup) (hi : X.N[i]? = some x) (hj : X.N[j]? = some y) (hij : i ≠ j)
    (h0 : L2.PS X (.Assign [.Tuple [.Name x px, .Name y py] kt pt] (.Tuple [a, b] k2 pt2) pos) (L2.tPar i j (liftA X.K ts))) : PDS X (.Assign [.Tuple [.Name x px, .Name y py] kt pt] (.Tuple [a, b] k2 pt2) pos) (sPar i j ts) := ps_imp h0 fun D σ H ⟨f, ρ, st, D', R, h, l⟩ =>
  ⟨f, ρ, st, _, R, h, fun xs st1 vs f1 H1 q e1 s1 r1 => by
    obtain ⟨x, y, rfl, q⟩ := q
    obtain ⟨v, w, rfl, r2, r3⟩ := r1.inv2
    exact ⟨v, w, rfl, l.nx _ st1 _ f1 H1 q e1 (((R.later e1 s1).put r2).put r3)⟩⟩
theorem real_iadd : Real2 K (fun x y H Q => (∃ i j, x = .int i ∧ y = .int j ∧ Q (.int (i + j)) H) ∨ (∃ i j, x = .str i ∧ y = .str j ∧ i.length + j.length ≤ sizeLine ∧ Q (.str (i ++ j)) H)) iaddK := by
  intro f st H x y v w Q' Q s r1 r2 h l
  cases x <;> cases y <;> try (exact h.elim)
  · rw [RD.int] at r1 r2
    exact .inl ⟨_, _, r1, r2, l.now s h (RD.int.mpr rfl)⟩
  · rw [RD.str] at r1 r2
    exact .inr ⟨_, _, r1, r2, by rw [← szl_eq]; exact h.1, l.now s h.2 (RD.str.mpr rfl)⟩
theorem ip_add : L2.PIp X .Add (fun x y H Q => (∃ i j, x = .int i ∧ y = .int j ∧ Q (.int (i + j)) H) ∨ (∃ i j, x = .str i ∧ y = .str j ∧ i.length + j.length ≤ sizeLine ∧ Q (.str (i ++ j)) H)) :=
  fun pins s σ H x y v u Q I rx ry h => (L2.OpR.or (X := X) L2.iop_add L2.iop_add_str) pins s σ H x y v u Q I rx ry h
theorem ip_of {op : Operator} {r : L2.R2} (h : L2.OpR X (inplaceOp op) r) : L2.PIp X op r := fun pins s σ H x y v u Q I rx ry q => h pins s σ H x y v u Q I rx ry q
theorem ps_aug {i : Nat} {x : Str} {op : Operator} {r : L2.R2} {k : K2} {pos' : Pos} (hp : L2.PIp X op r) (hr : Real2 X.K r k) (hN : X.N.Nodup) (hi : X.N[i]? = some x) (hx : L2.Loc X.env.scope x) (he : PD X e te)
    (hf : X.fn x = true ∨ X.env.scope.names.lookup x = some .local := by first | exact .inl rfl | exact .inr rfl | assumption) : PDS X (.AugAssign (.Name x pos') op e pos) (sAug i k te) := ps_imp (L2.ps_aug hN hi hx he hp hf) fun D σ H ⟨f, ρ, st, D', R, h, l⟩ => by
  obtain ⟨d, h1, h⟩ := h
  obtain ⟨v, e, rv⟩ := R.env i d h1
  exact ⟨v, e, f, ρ, st, _, R, h, fun y st1 w f1 H1 q e1 s1 r1 => hr f1 st1 H1 d y v w _ _ s1 (rv.mono e1) r1 q fun z st2 u f2 H2 q2 e2 s2 r2 => l.nx _ st2 _ f2 H2 q2 (e1.trans e2) ((R.later (e1.trans e2) s2).put r2)⟩
/-- xs[i] op= e of a list -/
theorem get_list : L2.PGet X (L2.rIxL X.K) := by
  intro pins s σ H x y v u Q I rx ry h
  obtain ⟨p, xs, i, z, rfl, rfl, hq, he, q⟩ := h
  cases rx
  obtain ⟨t, rfl⟩ := ry
  obtain ⟨its, r, pl, hz⟩ := I.list hq
  obtain ⟨j, h1, h2, h3, h4, h5⟩ := L2.atI_get he
  obtain ⟨w, ew, rw'⟩ := r.get h2
  have hl := r.length
  have hn := L2.line63
  have fin : L2.EP X pins σ Q w s := ⟨z, H, I, rw', q⟩
  by_cases h0 : 0 ≤ i
  · have hj : i.toNat = j := by
      rw [seqIndex_of h0 h5] at h1
      exact Option.some.inj h1
    exact wpAny_getItem_list (x := w) pl.isList h0 (by omega) (by rw [hj]; simpa using ew) fin
  · have hj : (i + (its.toArray.size : Int)).toNat = j := by
      rw [seqIndex_neg (by omega) h4] at h1
      rw [List.size_toArray, ← hl]
      exact Option.some.inj h1
    exact wpAny_getItem_list_neg (x := w) pl.isList (by omega) (by rw [List.size_toArray] <;> omega) (by omega) (by rw [hj]; simpa using ew) fin
theorem real_ixL : Real2 K (L2.rIxL K) ixLK := fun f st H x y v w Q' Q s r1 r2 h l => by
  cases x <;> cases y <;> try (exact h.elim)
  rw [RD.ref] at r1
  rw [RD.int] at r2
  obtain ⟨a, e, rfl⟩ := r1
  obtain ⟨xs, d', h0, h1, h2⟩ := h
  obtain ⟨a', vs, k1, k2, d⟩ := s.rdA h0
  rw [e] at k1; cases k1
  obtain ⟨v, g1, g2⟩ := d.atD h1
  exact ⟨a, vs, _, v, rfl, r2, k2, g1, l.now s h2 g2⟩
theorem ps_augS {op : Operator} {r : L2.R2} {k : K2} (hp : L2.PIp X op r) (hr : Real2 X.K r k) (ho : PD X o to) (hi : PD X i ti) (he : PD X e te)
    (ha : ∀ ov iv new, augStore i ov iv new = (do holding [new, ov, iv] (setItem ov iv new); release [new, ov, iv] []; pure .next) := by intros; rfl) : PDS X (.AugAssign (.Subscript o i tpos) op e pos) (sAugL k to ti te) :=
  ps_imp (L2.ps_augS ho hi get_list he hp L2.set_list ha) fun D σ H ⟨f, ρ, st, D', R, h, l⟩ => ⟨f, ρ, st, _, R, h, fun x st1 v f1 H1 q1 e1 s1 r1 => ⟨f1, ρ, st1, _, R.later e1 s1, q1, fun y st2 w f2 H2 q2 e2 s2 r2 =>
    real_ixL f2 st2 H2 x y v w _ _ s2 (r1.mono e2) r2 q2 fun z st3 u f3 H3 q3 e3 s3 r3 => ⟨f3, ρ, st3, _, R.later ((e1.trans e2).trans e3) s3, q3, fun z' st4 u' f4 H4 q4 e4 s4 r4 =>
      hr f4 st4 H4 z z' u u' _ _ s4 (r3.mono e4) r4 q4 fun z5 st5 u5 f5 H5 q5 e5 s5 r5 =>
        real_set f5 st5 H5 x y z5 v w u5 _ _ s5 (r1.mono (((e2.trans e3).trans e4).trans e5)) (r2.mono ((e3.trans e4).trans e5)) r5 q5 fun st6 H6 q6 e6 s6 =>
          have ee := (((((e1.trans e2).trans e3).trans e4).trans e5).trans e6)
          l.nx ρ st6 σ f5 H6 q6 ee (R.later ee s6)⟩⟩⟩

/-! ### loops -/
theorem ps_for {tg iter : Expr} {wi : TI} {g : TG} {vs : List Nat} {tb : TS} (hp : PassesOwn (model X.prog X.w) X.A X.env X.xe) (hc : X.calm = true) (hi : PDI X tg iter wi) (hg : PDG X tg g vs) (hb : PDSs X ss tb)
    (hs : ∀ x, foldedSetIterable iter X.env x = pure x := by intro _; rfl) : PDS X (.For tg iter ss [] pos) (sFor wi g tb) :=
  ps_imp (L2.ps_for hp hc hi hg hb hs) fun D σ H ⟨f, ρ, st, D', R, h, l⟩ => ⟨f, ρ, st, _, R, h, fun I st1 J f1 H1 q1 e1 s1 rI => by
    refine ⟨fun i m σ2 H2 => m = I.items.length - i ∧ i ≤ I.items.length ∧ ∃ f2 ρ2 st2, Ext X.K f1 H1 f2 H2 ∧ Rel X.K f2 ρ2 st2 σ2 H2 ∧ forLoop I.guard g tb D' (I.items.drop i) ρ2 st2, ⟨_, rfl, Nat.zero_le _, f1, ρ, st1, .refl, R.later e1 s1, by simpa using q1⟩, ?_⟩
    rintro i m σ2 H2 ⟨rfl, hi, f2, ρ2, st2, e2, R2, q2⟩
    by_cases hlt : i < I.items.length
    · have hd : I.items.drop i = I.items[i] :: I.items.drop (i + 1) := by rw [List.drop_eq_getElem_cons hlt]
      rw [hd] at q2
      obtain ⟨gd, q2⟩ := q2
      refine .inr ⟨rI.go i f2 st2 H2 e2 R2.toRelS gd hlt, fun σ3 H3 => ∃ f3 ρ3 st3, Ext X.K f1 H1 f3 H3 ∧ Rel X.K f3 ρ3 st3 σ3 H3 ∧ forLoop I.guard g tb D' (I.items.drop (i + 1)) ρ3 st3, fun σ3 H3 ⟨f3, ρ3, st3, e3, R3, q3⟩ => ⟨I.items.length - (i + 1), by omega, rfl, hlt, f3, ρ3, st3, e3, R3, q3⟩, fun x H3 y => ?_⟩
      obtain ⟨e3, s3, r3⟩ := rI.yld i f2 st2 H2 I.items[i] x H3 e2 R2.toRelS gd (by simp [hlt]) y
      refine ⟨f2, ρ2, st2, I.items[i], _, R2.later e3 s3, r3, q2, fun ρ4 st4 σ4 f4 H4 q4 e4 R4 _ => ⟨f4, ρ4, st4, _, R4, q4, ?_⟩⟩
      have ee := (e1.trans (e2.trans (e3.trans e4)))
      have e1' := (e2.trans (e3.trans e4))
      exact ⟨fun ρ5 st5 σ5 f5 H5 q5 e5 R5 => ⟨f5, ρ5, st5, e1'.trans e5, R5, q5⟩, l.rt.later ee, fun ρ5 st5 σ5 f5 H5 q5 e5 R5 => l.nx ρ5 st5 σ5 f5 H5 q5 (ee.trans e5) R5, fun ρ5 st5 σ5 f5 H5 q5 e5 R5 => ⟨f5, ρ5, st5, e1'.trans e5, R5, q5⟩⟩
    · have e : i = I.items.length := by omega
      subst e
      rw [List.drop_length] at q2
      obtain ⟨gd, q2⟩ := q2
      exact .inl ⟨rI.stop f2 st2 H2 e2 R2.toRelS gd, l.nx ρ2 st2 σ2 f2 H2 q2 (e1.trans e2) R2⟩⟩
theorem ps_while {tb : TS} (hp : PassesOwn (model X.prog X.w) X.A X.env X.xe) (hc : PDT X c tC) (hb : PDSs X ss tb) : PDS X (.While c ss [] pos) (sWhile tC tb) :=
  ps_imp (L2.ps_while hp hc hb) fun D σ H ⟨f, ρ, st, D', R, h, l⟩ => by
    obtain ⟨n, h⟩ := h
    refine ⟨fun m σ2 H2 => ∃ f2 ρ2 st2, Ext X.K f H f2 H2 ∧ Rel X.K f2 ρ2 st2 σ2 H2 ∧ whileN tC tb D' m ρ2 st2, ⟨n, f, ρ, st, .refl, R, h⟩, ?_⟩
    rintro m σ2 H2 ⟨f2, ρ2, st2, e2, R2, q2⟩
    cases m with
    | zero => exact q2.elim
    | succ m =>
      refine ⟨f2, ρ2, st2, _, R2, q2, fun k st3 f3 H3 q3 e3 s3 => ?_⟩
      have ee := e2.trans e3
      cases k with
      | false => exact l.nx ρ2 st3 σ2 f3 H3 (q3.2 rfl) ee (R2.later e3 s3)
      | true =>
        refine ⟨fun σ4 H4 => ∃ f4 ρ4 st4, Ext X.K f H f4 H4 ∧ Rel X.K f4 ρ4 st4 σ4 H4 ∧ whileN tC tb D' m ρ4 st4, fun σ4 H4 q4 => ⟨m, Nat.lt_succ_self _, q4⟩, f3, ρ2, st3, _, R2.later e3 s3, q3.1 rfl, ?_⟩
        exact ⟨fun ρ5 st5 σ5 f5 H5 q5 e5 R5 => ⟨f5, ρ5, st5, ee.trans e5, R5, q5⟩, l.rt.later ee, fun ρ5 st5 σ5 f5 H5 q5 e5 R5 => l.nx ρ5 st5 σ5 f5 H5 q5 (ee.trans e5) R5, fun ρ5 st5 σ5 f5 H5 q5 e5 R5 => ⟨f5, ρ5, st5, ee.trans e5, R5, q5⟩⟩

/-! ### comprehensions -/
abbrev PDTs (X : L2.Cx) (es : List Expr) (t : TT) : Prop := L2.PTs X es (liftT X.K t)
theorem pts_imp {e : List Expr} {t t' : L2.TT} (h : L2.PTs X e t) (m : ∀ σ H Q, t' σ H Q → t σ H Q) : L2.PTs X e t' := ⟨fun pins s σ H Q I q => h.run pins s σ H Q I (m σ H Q q)⟩
theorem pts_nil : PDTs X [] tYes := pts_imp L2.pts_nil fun σ H Q ⟨f, ρ, st, Q', R, h, l⟩ => l true st f H h .refl R.toRelS
theorem pts_one {t : TT} (h : PDT X c t) : PDTs X [c] t := L2.pts_one h
theorem lc_core {wi : TI} {g : TG} {tt : TT} {te : TE} {vs ws : List Nat} {Q : L2.VK} (hws : ∀ j, j ∈ ws → j ∈ vs) (h : lift K (dLc wi g tt te vs) σ H Q) : L2.tLc (liftI K wi) (liftG K g ws) (liftT K tt) (lift K te) vs σ H Q := by
  obtain ⟨f, ρ, st, Q', R, h, l⟩ := h
  refine ⟨f, ρ, st, _, R, h, fun I st1 J f1 H1 q1 e1 s1 rI D hD => ?_⟩
  obtain ⟨s0, e0⟩ := s1.new (o := .lst []) (c := .lst []) hD ⟨[], L2.upd_same, RDs.nil.mpr rfl⟩
  have hn0 : (f1 ++ [D])[st1.length]? = some D := by rw [← s1.len]; simp
  refine ⟨fun i m H2 => m = I.items.length - i ∧ i ≤ I.items.length ∧ ∃ f2 st2 acc, Ext K (f1 ++ [D]) (L2.upd H1 D (.lst [])) f2 H2 ∧ RelS K f2 st2 H2 ∧ rdL st2 st1.length acc ∧ lcLoop I.guard g tt te (wipeE ρ vs) st1.length Q' (I.items.drop i) acc st2,
    ⟨_, rfl, Nat.zero_le _, f1 ++ [D], st1 ++ [.lst []], [], .refl, s0, by unfold rdL; simp, by simpa using q1⟩, ?_⟩
  rintro i m H2 ⟨rfl, hi, f2, st2, acc, e2, s2, hacc, q2⟩
  have eI : Ext K f1 H1 f2 H2 := e0.trans e2
  by_cases hlt : i < I.items.length
  · have hd : I.items.drop i = I.items[i] :: I.items.drop (i + 1) := by rw [List.drop_eq_getElem_cons hlt]
    rw [hd] at q2
    obtain ⟨gd, q2⟩ := q2
    refine .inr ⟨rI.go i f2 st2 H2 eI s2 gd hlt, fun H3 => ∃ f3 st3 acc', Ext K (f1 ++ [D]) (L2.upd H1 D (.lst [])) f3 H3 ∧ RelS K f3 st3 H3 ∧ rdL st3 st1.length acc' ∧ lcLoop I.guard g tt te (wipeE ρ vs) st1.length Q' (I.items.drop (i + 1)) acc' st3,
      fun H3 q3 => ⟨I.items.length - (i + 1), by omega, rfl, hlt, q3⟩, fun x H3 y => ?_⟩
    obtain ⟨e3, s3, r3⟩ := rI.yld i f2 st2 H2 I.items[i] x H3 eI s2 gd (by simp [hlt]) y
    have R3 : Rel K f2 (wipeE ρ vs) st2 (L2.wipe σ vs) H3 := (Rel.wipe R).later ((e1.trans eI).trans e3) s3
    refine ⟨f2, _, st2, I.items[i], _, R3, r3, q2, fun ρ4 st4 σ4 f4 H4 q4 e4 R4 o4 => ⟨Out.wipe ⟨o4.1, fun j hj => o4.2 j fun z => hj (hws j z)⟩, ?_⟩⟩
    refine ⟨f4, ρ4, st4, _, R4, q4, fun b st5 f5 H5 q5 e5 s5 => ?_⟩
    have e15 := e2.trans (e3.trans (e4.trans e5))
    cases b with
    | false =>
      obtain ⟨h1, h2⟩ := q5.2 rfl
      exact ⟨f5, st5, acc, e15, s5, h1, h2⟩
    | true =>
      refine ⟨f5, ρ4, st5, _, R4.later e5 s5, q5.1 rfl, fun y st6 v f6 H6 q6 e6 s6 r6 => ?_⟩
      obtain ⟨h1, h2, h3⟩ := q6
      have e16 := e15.trans e6
      obtain ⟨a', us, k1, k2, k3⟩ := s6.rdL h1
      rw [e16.at hn0] at k1; cases k1
      obtain ⟨s7, e7⟩ := s6.put (e16.at hn0) h1 k2 (k3.append (RDs.one r6))
      refine ⟨us, k2, by rw [k3.length, ← szl_eq]; exact h2, f6, _, acc ++ [y], e16.trans e7, s7, ?_, h3⟩
      have hl : st1.length < st6.length := (List.getElem?_eq_some_iff.mp h1).1
      unfold rdL
      rw [List.getElem?_set_self hl]
  · have e : i = I.items.length := by omega
    subst e
    rw [List.drop_length] at q2
    obtain ⟨gd, h1, h2⟩ := q2
    exact .inl ⟨rI.stop f2 st2 H2 eI s2 gd, l _ st2 _ f2 H2 h2 (e1.trans eI) s2 (RD.ref.mpr ⟨D, e2.at hn0, rfl⟩)⟩
theorem pd_lc {elt tg iter : Expr} {ifs : List Expr} {scope : Scope} {own : List (Str × Nat)} {wi : TI} {g : TG} {tt : TT} {te : TE} {ws : List Nat} (hc : X.calm = true) (hN : X.N.Nodup) (hi : PDI X tg iter wi) (ok : L2.BlkOk X.N X.env.scope scope own)
    (hg : ∀ (s : Shared) (H : Hp) (C : Addr) (cl : List (Str × Addr)) (fp : List Addr), PDG (X.blk s H scope (compEnvC scope cl C X.env) fp) tg g ws) (ht : ∀ (s : Shared) (H : Hp) (C : Addr) (cl : List (Str × Addr)) (fp : List Addr), PDTs (X.blk s H scope (compEnvC scope cl C X.env) fp) ifs tt)
    (he : ∀ (s : Shared) (H : Hp) (C : Addr) (cl : List (Str × Addr)) (fp : List Addr), PD (X.blk s H scope (compEnvC scope cl C X.env) fp) elt te) (hws : ∀ j, j ∈ ws → j ∈ own.map (·.2)) (hs : ∀ x, foldedSetIterable iter X.env x = pure x := by intro _; rfl) :
    PD X (.ListComp elt [⟨tg, iter, ifs, 0⟩] scope pos) (dLc wi g tt te (own.map (·.2))) :=
  pe_imp (L2.pe_lc hc hN hi ok hg ht he hs) fun σ H Q h => lc_core hws h
theorem ps_setLc {j : Nat} {y : Str} {py spos : Pos} {elt tg iter : Expr} {ifs : List Expr} {scope : Scope} {own : List (Str × Nat)} {wi : TI} {g : TG} {tt : TT} {te : TE} {ws : List Nat} (hc : X.calm = true) (hN : X.N.Nodup) (hy : X.N[j]? = some y) (hyl : X.env.scope.names.lookup y = some .local)
    (hsw : swapsWith (.ListComp elt [⟨tg, iter, ifs, 0⟩] scope pos) (some (.Name y py)) spos.line X.env = pure true) (hi : PDI X tg iter wi) (ok : L2.BlkOk X.N X.env.scope scope own)
    (hg : ∀ (s : Shared) (H : Hp) (C : Addr) (cl : List (Str × Addr)) (fp : List Addr), PDG (X.blk s H scope (compEnvC scope cl C X.env) fp) tg g ws) (ht : ∀ (s : Shared) (H : Hp) (C : Addr) (cl : List (Str × Addr)) (fp : List Addr), PDTs (X.blk s H scope (compEnvC scope cl C X.env) fp) ifs tt)
    (he : ∀ (s : Shared) (H : Hp) (C : Addr) (cl : List (Str × Addr)) (fp : List Addr), PD (X.blk s H scope (compEnvC scope cl C X.env) fp) elt te) (hws : ∀ j, j ∈ ws → j ∈ own.map (·.2)) (hs : ∀ x, foldedSetIterable iter X.env x = pure x := by intro _; rfl) :
    PDS X (.Assign [.Name y py] (.ListComp elt [⟨tg, iter, ifs, 0⟩] scope pos) spos) (sAsg (dLc wi g tt te (own.map (·.2))) (gName j)) :=
  ps_imp (L2.ps_setLc hc hN hy hyl hsw hi ok hg ht he hs) fun D σ H ⟨f, ρ, st, D', R, h, l⟩ =>
    lc_core (Q := fun x H1 => L2.gName j x σ H1 D.nx) hws ⟨f, ρ, st, _, R, h, fun x st1 v f1 H1 q e1 s1 r1 => l.nx _ st1 _ f1 H1 q e1 ((R.later e1 s1).put r1)⟩
end
end
end Pd
end PartPdSoundE

section PartPdSoundF
set_option Elab.async false
set_option linter.all false
set_option maxRecDepth 100000
set_option maxHeartbeats 1000000
/-! Pd over the hand layer: methods, isinstance, defs, the end. Own work. -/
namespace Pd
open PySem PySem.Spec
open PyProof.Rows (envOfC)
section
variable {X : L2.Cx} {K : Kf} {f f' : List Addr} {H H' : Hp} {st st' : Store} {ρ : Env} {σ : L2.St}
/-! ### methods -/
def RealM (K : Kf) (r : L2.V → List L2.V → Hp → L2.VK → Prop) (k : KM) : Prop := ∀ (f : List Addr) (st : Store) (H : Hp) (x : D) (xs : List D) (v : L2.V) (vs : List L2.V) (Q' : Pd.K) (Q : L2.VK), RelS K f st H → RD K f H x v → RDs K f H xs vs → k x xs st Q' → LQ K f H Q' Q → r v vs H Q
def RealTy (K : Kf) (T : String) (ty : D → Store → Prop) : Prop := ∀ (f : List Addr) (st : Store) (H : Hp) (x : D) (v : L2.V), RelS K f st H → RD K f H x v → ty x st → L2.tyV K T v H
section
variable {a b c e o i : Expr} {es : List Expr} {ta tb te to ti : TE} {pos apos : Pos} {name : Str} {T id : String}
theorem pd_m {r : L2.V → List L2.V → Hp → L2.VK → Prop} {k : KM} {ty : D → Store → Prop} {ts : TA} (hm : L2.MtR X id r) (hk : RealM X.K r k) (ht : RealTy X.K T ty) (pa : PlainAttrs T) (slot : Slot T name id) (hty : typeOf (.builtin id) = pure (.type "method_descriptor")) (ho : PD X o to) (ha : PDA X (e :: es) ts)
    (hbase : attributeBase o name X.env (eval o X.env) = eval o X.env := by rfl)
    (hfew : ((backTo pos (starEach (e :: es) X.env)).all (fun x => !x.1) && (backToKw pos (keywordEach [] X.env)).all (fun x => x.1.isSome)
      && decide ((e :: es).length + ([] : List Keyword).length + (if ([] : List Keyword).isEmpty then 0 else 1) < 30)) = true := by rfl)
    (hline : (apos.endLine == pos.line) = true := by rfl) (hs : starEach (e :: es) X.env = (false, eval e X.env) :: starEach es X.env := by rfl) (hplain : (backTo pos (starEach es X.env)).any (·.1) = false := by rfl) :
    PD X (.Call (.Attribute o name apos) (e :: es) [] pos) (dM ty k to ts) :=
  pe_imp (L2.pe_bm pa slot hty hm ho ha hbase hfew hline hs hplain) fun σ H Q ⟨f, ρ, st, Q', R, h, l⟩ => ⟨f, ρ, st, _, R, h, fun x st1 v f1 H1 q1 e1 s1 r1 => ⟨ht f1 st1 H1 x v s1 r1 q1.1, f1, ρ, st1, _, R.later e1 s1, q1.2, fun xs st2 vs f2 H2 q2 e2 s2 r2 => hk f2 st2 H2 x xs v vs Q' Q s2 (r1.mono e2) r2 q2 (l.later (e1.trans e2))⟩⟩
end
theorem ty_list : RealTy K "list" tyLst := fun f st H x v s r h => by
  cases x <;> try (exact h.elim)
  rw [RD.ref] at r
  obtain ⟨a, e, rfl⟩ := r
  obtain ⟨xs, h⟩ := h
  obtain ⟨a', vs, k1, k2, k3⟩ := s.rdL h
  rw [e] at k1; cases k1
  exact .inl ⟨rfl, vs, .of k2⟩
theorem ty_str : RealTy K "str" tyStr := fun f st H x v s r h => by
  cases x <;> try (exact h.elim)
  rw [RD.str] at r
  subst r
  rfl
theorem real_append : RealM K L2.rAppend appendM := fun f st H x xs v vs Q' Q s r1 r2 h l => by
  cases x <;> try (exact h.elim)
  match xs, h with
  | [], h => exact h.elim
  | _ :: _ :: _, h => exact h.elim
  | [y], h =>
    rw [RD.ref] at r1
    obtain ⟨a, e, rfl⟩ := r1
    obtain ⟨w, rfl, r3⟩ := r2.inv1
    obtain ⟨ys, h1, h2, h3⟩ := h
    obtain ⟨a', us, k1, k2, k3⟩ := s.rdL h1
    rw [e] at k1; cases k1
    obtain ⟨s', e'⟩ := s.put e h1 k2 (k3.append (RDs.one r3))
    exact ⟨a, us, w, rfl, rfl, k2, by rw [k3.length, ← szl_eq]; exact h2, l _ _ _ f _ h3 e' s' (RD.non.mpr rfl)⟩
theorem real_extend : RealM K L2.rExtend extendM := fun f st H x xs v vs Q' Q s r1 r2 h l => by
  cases x <;> try (exact h.elim)
  match xs, h with
  | [], h => exact h.elim
  | _ :: _ :: _, h => rename_i y _ _; cases y <;> exact h.elim
  | [.non], h => exact h.elim
  | [.bl _], h => exact h.elim
  | [.int _], h => exact h.elim
  | [.str _], h => exact h.elim
  | [.tup _], h => exact h.elim
  | [.ref m], h =>
    rw [RD.ref] at r1
    obtain ⟨a, e, rfl⟩ := r1
    obtain ⟨w, rfl, r3⟩ := r2.inv1
    rw [RD.ref] at r3
    obtain ⟨b, e2, rfl⟩ := r3
    obtain ⟨ys, zs, h1, h2, h3, h4, h5⟩ := h
    obtain ⟨a', us, k1, k2, k3⟩ := s.rdL h1
    obtain ⟨b', ws, j1, j2, j3⟩ := s.rdL h2
    rw [e] at k1; cases k1
    rw [e2] at j1; cases j1
    obtain ⟨s', e'⟩ := s.put e h1 k2 (k3.append j3)
    exact ⟨a, b, us, ws, rfl, rfl, k2, j2, by rw [k3.length, j3.length, ← szl_eq]; exact h4, l _ _ _ f _ h5 e' s' (RD.non.mpr rfl)⟩
theorem real_popAt : RealM K L2.rPopAt popM := fun f st H x xs v vs Q' Q s r1 r2 h l => by
  cases x <;> try (exact h.elim)
  match xs, h with
  | [], h => exact h.elim
  | _ :: _ :: _, h => rename_i y _ _; cases y <;> exact h.elim
  | [.non], h => exact h.elim
  | [.bl _], h => exact h.elim
  | [.ref _], h => exact h.elim
  | [.str _], h => exact h.elim
  | [.tup _], h => exact h.elim
  | [.int i], h =>
    rw [RD.ref] at r1
    obtain ⟨a, e, rfl⟩ := r1
    obtain ⟨w, rfl, r3⟩ := r2.inv1
    rw [RD.int] at r3
    subst r3
    obtain ⟨ys, d, h1, h2, h3, h4⟩ := h
    obtain ⟨a', us, k1, k2, k3⟩ := s.rdL h1
    rw [e] at k1; cases k1
    unfold atD at h3
    rw [if_pos h2.1] at h3
    have hl := (List.getElem?_eq_some_iff.mp h3).1
    obtain ⟨u, g1, g2⟩ := k3.get h3
    obtain ⟨s', e'⟩ := s.put e h1 k2 (k3.eraseIdx i.toNat)
    have hus := k3.length
    exact ⟨a, us, i, i.toNat, u, rfl, rfl, k2, by omega, by omega, seqIndex_of h2.1 (by omega), g1, l _ _ _ f _ h4 e' s' (g2.mono e')⟩
theorem real_index : RealM K (L2.rIndex K) indexM := fun f st H x xs v vs Q' Q s r1 r2 h l => by
  cases x <;> try (exact h.elim)
  match xs, h with
  | [], h => exact h.elim
  | _ :: _ :: _, h => exact h.elim
  | [y], h =>
    rw [RD.ref] at r1
    obtain ⟨a, e, rfl⟩ := r1
    obtain ⟨w, rfl, r3⟩ := r2.inv1
    obtain ⟨ys, j, z, h1, h2, h3, h4, h5, h6, h7⟩ := h
    obtain ⟨a', us, k1, k2, k3⟩ := s.rdA h1
    rw [e] at k1; cases k1
    obtain ⟨u, g1, g2⟩ := k3.get h4
    have fl : ∀ (m : Nat) (z : D), ys[m]? = some z → z.flat = true := fun m z hz => by
      rw [List.all_eq_true] at h3
      exact h3 z (List.mem_of_getElem? hz)
    refine ⟨a, us, w, j, u, rfl, rfl, k2, r3.flatV h2, k3.flatV h3, g1, by rw [g2.eqV r3 (fl j z h4) h2]; exact h5, fun m z' hm hz => ?_, l.now s h7 (RD.int.mpr rfl)⟩
    have hml : m < ys.length := by rw [← k3.length]; exact (List.getElem?_eq_some_iff.mp hz).1
    obtain ⟨u', g3, g4⟩ := k3.get (show ys[m]? = some ys[m] by simp [hml])
    rw [hz] at g3; cases g3
    rw [g4.eqV r3 (fl m _ (by simp [hml])) h2]
    exact h6 m _ hm (by simp [hml])

/-! ### the built-ins' values -/
theorem bt_int : bootBuiltins "int" = some (.type "int") := by decide +kernel
theorem bt_abs : bootBuiltins "abs" = some (.builtin "abs") := by decide +kernel
theorem bt_len : bootBuiltins "len" = some (.builtin "len") := by decide +kernel
theorem bt_min : bootBuiltins "min" = some (.builtin "min") := by decide +kernel
theorem bt_max : bootBuiltins "max" = some (.builtin "max") := by decide +kernel
theorem bt_list : bootBuiltins "list" = some (.type "list") := by decide +kernel
theorem bt_tuple : bootBuiltins "tuple" = some (.type "tuple") := by decide +kernel
theorem bt_sum : bootBuiltins "sum" = some (.builtin "sum") := by decide +kernel
theorem bt_all : bootBuiltins "all" = some (.builtin "all") := by decide +kernel
theorem bt_any : bootBuiltins "any" = some (.builtin "any") := by decide +kernel
theorem bt_sorted : bootBuiltins "sorted" = some (.builtin "sorted") := by decide +kernel
theorem bt_bool : bootBuiltins "bool" = some (.type "bool") := by decide +kernel
theorem bt_str : bootBuiltins "str" = some (.type "str") := by decide +kernel
theorem bt_repr : bootBuiltins "repr" = some (.builtin "repr") := by decide +kernel
theorem bt_set : bootBuiltins "set" = some (.type "set") := by decide +kernel
theorem bt_dict : bootBuiltins "dict" = some (.type "dict") := by decide +kernel

/-! ### isinstance -/
def tyN : Ty → String
  | .int => "int" | .bool => "bool" | .str => "str" | .tuple => "tuple" | .list => "list"
theorem SqT.ty {a : Addr} {vs : List L2.V} (h : L2.SqT K H a vs) : L2.TyX K H (.ref a) (.type "tuple") := by
  rcases h with (h | ⟨o, h⟩) | ⟨o, its, n, h1, h2, _⟩
  · exact .base (.tup h)
  · exact .fTuple h
  · exact .kTuple h1 h2
theorem isTy_kit {x : D} {v : L2.V} {t : Ty} {Q' : Bool → Prop} (s : RelS K f st H) (r : RD K f H x v) (h : isTy x st t Q') : ∃ (u : Value) (b : Bool), L2.TyX K H v u ∧ PySem.W.kitOne K u (.type (tyN t)) = some b ∧ Q' b := by
  cases x with
  | non => rw [RD.non] at r; subst r; exact ⟨_, false, .base .non, L2.kit_ty (by cases t <;> decide +kernel), h⟩
  | bl b => rw [RD.bl] at r; subst r; exact ⟨_, _, .base (.bl b), L2.kit_ty (by cases t <;> decide +kernel), h⟩
  | int i => rw [RD.int] at r; subst r; exact ⟨_, _, .base (.int i), L2.kit_ty (by cases t <;> decide +kernel), h⟩
  | str y => rw [RD.str] at r; subst r; exact ⟨_, _, .base (.str y), L2.kit_ty (by cases t <;> decide +kernel), h⟩
  | tup xs =>
    rw [RD.tup] at r
    obtain ⟨a, vs, rfl, q, d⟩ := r
    exact ⟨_, _, SqT.ty q, L2.kit_ty (by cases t <;> decide +kernel), h⟩
  | ref n =>
    rw [RD.ref] at r
    obtain ⟨a, e, rfl⟩ := r
    obtain ⟨xs, h1, h2⟩ := h
    obtain ⟨a', vs, k1, k2, k3⟩ := s.rdL h1
    rw [e] at k1; cases k1
    exact ⟨_, _, .base (.lst k2), L2.kit_ty (by cases t <;> decide +kernel), h2⟩
theorem pd_isi {a : Expr} {ta : TE} {p pos q : Pos} {T : Str} (t : Ty) (hg : L2.Gl X "isinstance") (hm : X.mg "isinstance" = none) (hT : T = Str.ofString (tyN t)) (hgT : L2.Gl X T) (hmT : X.mg T = none) (hv : bootBuiltins T = some (.type (tyN t))) (ha : PD X a ta)
    (hs : starEach [a, .Name T q] X.env = (false, eval a X.env) :: starEach [.Name T q] X.env := by rfl) : PD X (.Call (.Name "isinstance" p) [a, .Name T q] [] pos) (dIsi t ta) := by
  have hT1 : T ≠ "__name__" := by rw [hT]; cases t <;> decide
  have hT2 : (T == ("__debug__" : Str)) = false := by rw [hT]; cases t <;> decide
  have pT : L2.PE X (.Name T q) (L2.tC (.ty (tyN t))) := L2.pe_bltn hgT hmT hv rfl hT1 hT2
  refine pe_imp (L2.pe_callB L2.call_isi hg hm (by decide +kernel) (L2.pa_cons ha (L2.pa_cons pT L2.pa_nil rfl) hs) (by decide) (by decide) hs rfl) fun σ H Q ⟨f, ρ, st, Q', R, h, l⟩ => ⟨f, ρ, st, _, R, h, fun x st1 v f1 H1 q1 e1 s1 r1 => ?_⟩
  obtain ⟨u, b, h1, h2, h3⟩ := isTy_kit s1 r1 q1
  exact ⟨v, .ty (tyN t), u, _, b, rfl, .ty _, h1, h2, l _ st1 _ f1 H1 h3 e1 s1 (RD.bl.mpr rfl)⟩

/-! ### defs -/
theorem start_rel {n : Nat} {ds : List D} {vs : List L2.V} {N : List Str} (s : RelS K f st H) (r : RDs K f H ds vs) (hn : n = N.length) : Rel K f (start n ds) st (L2.start N vs) H := by
  have hl := r.length
  have lk_app : ∀ (ds : List D) (m i : Nat) (d : D), lk (ds.map some ++ List.replicate m none) i = some d → ds[i]? = some d := by
    intro ds
    induction ds with
    | nil =>
      intro m
      induction m with
      | zero => intro i d h; simp [lk] at h
      | succ m ih =>
        intro i d h
        cases i with
        | zero => simp [lk, List.replicate_succ] at h
        | succ i =>
          have := ih i d (by simpa [lk, List.replicate_succ] using h)
          simp at this
    | cons x ds ih =>
      intro m i d h
      cases i with
      | zero => simpa [lk] using h
      | succ i =>
        have := ih m i d (by simpa [lk] using h)
        simpa using this
  refine ⟨s, fun i d h => ?_, ?_⟩
  · have hd := lk_app ds _ i d h
    obtain ⟨v, h1, h2⟩ := r.get hd
    refine ⟨v, ?_, h2⟩
    unfold L2.start
    have hi := (List.getElem?_eq_some_iff.mp h1).1
    rw [List.getElem?_append_left (by simpa using hi), List.getElem?_map, h1]
    rfl
  · unfold start L2.start
    simp only [List.length_append, List.length_map, List.length_replicate]
    omega
/-- the def's own facts, and that its body keeps what is run -/
structure Step (P : Program) (w : World) (K : Kf) (mg : Str → Option Value) (base : Heap) (names : List String) (x : String) (d : Def) : Prop where
  ex : ∃ (fa : Addr) (fd : FuncData) (ps : List Str), mg x = some (.ref fa) ∧ PySem.W.keepIn K (.ref fa) = true ∧ L2.Binds K fd ps [] ∧ d.ps = ps.length ∧
    ∀ (k : Nat) (c : Cl), (∀ y ∈ names, Own P w K mg base k (Str.ofString y) (c y)) → L2.FnOk P w K mg base L2.CX0 (k + 1) fa fd ps (liftF K ps.length (d.run c))
variable {P : Program} {w : World} {mg : Str → Option Value} {base : Heap} {names : List String}
theorem fn_ok {qual x : Str} {sm : Stmt} {fa : Addr} {fd : FuncData} {N ps : List Str} {k : Nat} {d : Def} {c : Cl} (F : L2.Fun K x qual sm fa fd) (S : L2.FnScope N ps (L2.defScope sm)) (hn : d.ns = N.length) (hp : d.ps = ps.length)
    (der : ∀ (cdv : Value) (A : Around) (outer : List PySem.Env) (s : Shared) (H : Hp) (E : L2.XK), L2.Room k (A.deeper (envOfC qual (L2.defScope sm) s.heap.objs.size fa cdv)) →
      PDSs (L2.cxOf L2.CX0 P w K mg base N qual (L2.defScope sm) fa cdv A outer s H E).nox (L2.defBody sm) (d.body c)) : L2.FnOk P w K mg base L2.CX0 (k + 1) fa fd ps (liftF K ps.length (d.run c)) := by
  refine F.ok S (fun vs H Q E h => h.1) (fun cdv A outer s H vs Q E hr h => ⟨_, der cdv A outer s H E hr, ?_⟩)
  obtain ⟨_, f, st, ds, Q', s', r, ⟨hl, h⟩, l⟩ := h
  refine ⟨f, start d.ns ds, st, _, start_rel s' r hn, h, ?_⟩
  exact ⟨fun ρ1 st1 σ1 f1 H1 q e r1 => l .non st1 .non f1 H1 q e r1.toRelS (RD.non.mpr rfl), l, fun _ _ _ _ _ q _ _ => q, fun _ _ _ _ _ q _ _ => q⟩
theorem fn_zero {fa : Addr} {fd : FuncData} {ps : List Str} {n : Nat} : L2.FnOk P w K mg base L2.CX0 0 fa fd ps (liftF K n fun _ _ _ => False) :=
  ⟨fun vs H Q E h => by obtain ⟨_, _, _, _, _, _, _, h, _⟩ := h; exact h.elim, fun A outer s H args us vs Q E hr e0 hb hv h => by obtain ⟨_, _, _, _, _, _, _, h, _⟩ := h; exact h.elim⟩
theorem all_own {prog : String → Option Def} (hs : ∀ x ∈ names, ∃ d, prog x = some d ∧ Step P w K mg base names x d) : ∀ (k : Nat) (x : String), x ∈ names → Own P w K mg base k (Str.ofString x) (callN prog k x)
  | 0, x, hx => by
    obtain ⟨d, h1, fa, fd, ps, h2, h3, h4, h5, h6⟩ := hs x hx
    exact ⟨fa, fd, ps, fn_zero, h2, h3, h4, fun _ _ _ h => h.elim⟩
  | k + 1, x, hx => by
    obtain ⟨d, h1, fa, fd, ps, h2, h3, h4, h5, h6⟩ := hs x hx
    refine ⟨fa, fd, ps, (h6 k _ fun y hy => all_own hs k y hy).imp fun vs H Q E ⟨g0, f, st, ds, Q', s, r, ⟨d', e', g⟩, l⟩ => ?_, h2, h3, h4, fun ds st Q ⟨d', e', g⟩ => ?_⟩
    · rw [h1] at e'; cases e'
      exact ⟨g0, f, st, ds, Q', s, r, g, l⟩
    · rw [h1] at e'; cases e'
      exact g.1.trans h5
/-- the law's call, from the data-level statement -/
theorem law_sp {c : List D → Store → Pd.K → Prop} {H : Hp} {a : Addr} {ns : List Int} (h : c [.ref 0] [.frz (ns.map D.int)] fun d _ => d = .bl true) (hO : L2.Only H) (hS : L2.SqL K H a (ns.map L2.V.int)) : liftF K 1 c [.ref a] H (fun v _ => v = .bl true) fun _ _ _ => False := by
  refine ⟨rfl, [a], [.frz (ns.map D.int)], [.ref 0], _, ⟨rfl, fun n m c c' b h1 h2 m1 m2 h3 h4 => ?_, fun n c' b h1 h2 => ?_⟩, RDs.one (RD.ref.mpr ⟨a, rfl, rfl⟩), h, fun d st' v f' H' q e s r => ?_⟩
  · match n, h1 with
    | 0, h1 => simp at h1; subst h1; cases m1
    | n + 1, h1 => simp at h1
  · match n, h1, h2 with
    | 0, h1, h2 =>
      simp at h1 h2
      subst h1; subst h2
      refine ⟨ns.map L2.V.int, ?_, RDs.of_ints ns⟩
      rcases hS with (hS | ⟨o, hS⟩) | hS
      · rcases hO a with q | ⟨o, xs, q⟩ <;> rw [q] at hS <;> cases hS
      · exact .inl ⟨o, hS⟩
      · exact .inr hS
    | n + 1, h1, _ => simp at h1
  · subst q
    rw [RD.bl] at r
    exact r
end
end Pd
end PartPdSoundF

section PartPdTac
set_option Elab.async false
set_option linter.all false
set_option maxRecDepth 100000
/-! Pd: how a data-level statement is walked. Own work. -/
namespace Pd
open PySem

/-- one step of a reading: it suffices to show P' -/
class Red (P : Prop) (P' : outParam Prop) : Prop where
  red : P' → P
/-- look-up and store of slots, by the environment's shape -/
class Lk (σ : Env) (i : Nat) (d : outParam D) : Prop where
  eq : lk σ i = some d
class SetE (σ : Env) (i : Nat) (d : Option D) (σ' : outParam Env) : Prop where
  eq : σ.set i d = σ'
instance : Lk (some d :: σ) 0 d := ⟨rfl⟩
instance [h : Lk σ n d] : Lk (x :: σ) (n + 1) d := ⟨h.eq⟩
instance : SetE (x :: σ) 0 d (d :: σ) := ⟨rfl⟩
instance [h : SetE σ n d σ'] : SetE (x :: σ) (n + 1) d (x :: σ') := ⟨by rw [List.set_cons_succ, h.eq]⟩
class WipeE (σ : Env) (vs : List Nat) (σ' : outParam Env) : Prop where
  eq : wipeE σ vs = σ'
instance : WipeE σ [] σ := ⟨rfl⟩
instance [h : WipeE σ vs σ'] [h2 : SetE σ' v none σ''] : WipeE σ (v :: vs) σ'' := ⟨by show (wipeE σ vs).set v none = σ''; rw [h.eq, h2.eq]⟩

section
variable {σ σ' : Env} {st st' : Store} {Q : K} {d x y z : D} {ta tb tc te to ti : TE} {T U : TT} {Ar Br : TA} {D0 : Ends} {S S' : TS} {xs ys : List D}
-- statements
instance : Red (sSeq S S' D0 σ st) (S { D0 with nx := fun σ' st' => Nxt (S' D0 σ' st') } σ st) := ⟨id⟩
instance : Red (sNext D0 σ st) (D0.nx σ st) := ⟨id⟩
instance : Red (sBreak D0 σ st) (D0.bk σ st) := ⟨id⟩
instance : Red (sCont D0 σ st) (D0.ct σ st) := ⟨id⟩
instance : Red (sExpr te D0 σ st) (te σ st fun _ st1 => D0.nx σ st1) := ⟨id⟩
instance : Red (sRet te D0 σ st) (te σ st D0.rt) := ⟨id⟩
instance : Red (sRetN D0 σ st) (D0.rt .non st) := ⟨id⟩
instance : Red (sIf T S S' D0 σ st) (T σ st fun b st1 => (b = true → S D0 σ st1) ∧ (b = false → S' D0 σ st1)) := ⟨id⟩
instance {g : TG} : Red (sAsg te g D0 σ st) (te σ st fun x st1 => g x σ st1 D0.nx) := ⟨id⟩
instance : Red (sPar i j Ar D0 σ st) (Ar σ st fun xs st1 => ∃ x y, xs = [x, y] ∧ D0.nx ((σ.set i (some x)).set j (some y)) st1) := ⟨id⟩
instance [h : Lk σ i x] : Red (sAug i k te D0 σ st) (te σ st fun y st1 => k x y st1 fun z st2 => gName i z σ st2 D0.nx) := ⟨fun p => ⟨x, h.eq, p⟩⟩
instance : Red (sAugL k to ti te D0 σ st) (to σ st fun o st1 => ti σ st1 fun i st2 => ixLK o i st2 fun x st3 => te σ st3 fun y st4 => k x y st4 fun z st5 => setK o i z st5 fun st6 => D0.nx σ st6) := ⟨id⟩
instance {i : TI} {g : TG} : Red (sFor i g S D0 σ st) (i σ st fun I st1 => forLoop I.guard g S D0 I.items σ st1) := ⟨id⟩
-- targets
instance {q : Env → Store → Prop} [h : SetE σ i (some d) σ'] : Red (gName i d σ st q) (q σ' st) := ⟨fun p => by show q (σ.set i (some d)) st; rw [h.eq]; exact p⟩
instance {q : Env → Store → Prop} : Red (gSub to ti d σ st q) (to σ st fun o st1 => ti σ st1 fun i st2 => setK o i d st2 fun st3 => q σ st3) := ⟨id⟩
instance {q : Env → Store → Prop} {gs : TGs} : Red (gTup gs n (.tup xs) σ st q) (xs.length = n ∧ gs xs σ st q) := ⟨fun p => ⟨xs, rfl, p⟩⟩
instance {q : Env → Store → Prop} : Red (gsNil [] σ st q) (q σ st) := ⟨fun p => ⟨rfl, p⟩⟩
instance {q : Env → Store → Prop} {g : TG} {gs : TGs} : Red (gsCons g gs (d :: xs) σ st q) (g d σ st fun σ1 st1 => gs xs σ1 st1 q) := ⟨fun p => ⟨d, xs, rfl, p⟩⟩
-- expressions
instance : Red (dC d σ st Q) (Q d st) := ⟨id⟩
instance [h : Lk σ i d] : Red (dVar i σ st Q) (Q d st) := ⟨fun p => ⟨d, h.eq, p⟩⟩
instance : Red (dOp k ta tb σ st Q) (ta σ st fun x st1 => tb σ st1 fun y st2 => k x y st2 Q) := ⟨id⟩
instance : Red (dUn k ta σ st Q) (ta σ st fun x st1 => k x st1 Q) := ⟨id⟩
instance : Red (dCmp k ta tb σ st Q) (ta σ st fun x st1 => tb σ st1 fun y st2 => k x y st2 fun b => Q (.bl b) st2) := ⟨id⟩
instance : Red (dChain k k' ta tb tc σ st Q) (ta σ st fun x st1 => tb σ st1 fun y st2 => k x y st2 fun b => (b = true → tc σ st2 fun z st3 => k' y z st3 fun b' => Q (.bl b') st3) ∧ (b = false → Q (.bl false) st2)) := ⟨id⟩
instance : Red (dAndT ta tb σ st Q) (ta σ st fun x st1 => truK x st1 fun c => (c = true → tb σ st1 Q) ∧ (c = false → Q x st1)) := ⟨id⟩
instance : Red (dOrT ta tb σ st Q) (ta σ st fun x st1 => truK x st1 fun c => (c = true → Q x st1) ∧ (c = false → tb σ st1 Q)) := ⟨id⟩
instance : Red (dNotT ta σ st Q) (ta σ st fun x st1 => truK x st1 fun c => Q (.bl (!c)) st1) := ⟨id⟩
instance : Red (dIf T ta tb σ st Q) (T σ st fun k st1 => (k = true → ta σ st1 Q) ∧ (k = false → tb σ st1 Q)) := ⟨id⟩
instance : Red (dSl te tl th σ st Q) (te σ st fun x st1 => tl σ st1 fun lo st2 => th σ st2 fun hi st3 => slK x lo hi st3 Q) := ⟨id⟩
instance {q : Option Int → Store → Prop} : Red (oNone σ st q) (q none st) := ⟨id⟩
instance {q : Option Int → Store → Prop} : Red (oSome te σ st q) (te σ st fun x st1 => ∃ i, x = .int i ∧ q (some i) st1) := ⟨id⟩
instance {q : List D → Store → Prop} : Red (aNil σ st q) (q [] st) := ⟨id⟩
instance {q : List D → Store → Prop} : Red (aCons te Ar σ st q) (te σ st fun x st1 => Ar σ st1 fun xs st2 => q (x :: xs) st2) := ⟨id⟩
instance : Red (dTup Ar σ st Q) (Ar σ st fun xs st1 => xs.length ≤ szl ∧ Q (.tup xs) st1) := ⟨id⟩
instance : Red (dLst Ar σ st Q) (Ar σ st fun xs st1 => xs.length ≤ szl ∧ Q (.ref st1.length) (st1 ++ [.lst xs])) := ⟨id⟩
instance : Red (dCall c f Ar σ st Q) (Ar σ st fun xs st1 => c f xs st1 Q) := ⟨id⟩
instance : Red (dB k Ar σ st Q) (Ar σ st fun xs st1 => k xs st1 Q) := ⟨id⟩
instance : Red (dM ty k to Ar σ st Q) (to σ st fun o st1 => ty o st1 ∧ Ar σ st1 fun xs st2 => k o xs st2 Q) := ⟨id⟩
instance : Red (dIsi t te σ st Q) (te σ st fun x st1 => isTy x st1 t fun b => Q (.bl b) st1) := ⟨id⟩
instance {i : TI} {g : TG} [h : WipeE σ vs σ'] : Red (dLc i g T te vs σ st Q) (i σ st fun I st1 => lcLoop I.guard g T te σ' st1.length Q I.items [] (st1 ++ [.lst []])) := ⟨fun p => by unfold dLc; rw [h.eq]; exact p⟩
-- tests
instance {q : Bool → Store → Prop} : Red (tTru te σ st q) (te σ st fun x st1 => truK x st1 fun b => q b st1) := ⟨id⟩
instance {q : Bool → Store → Prop} : Red (tAnd T U σ st q) (T σ st fun c st1 => (c = true → U σ st1 q) ∧ (c = false → q false st1)) := ⟨id⟩
instance {q : Bool → Store → Prop} : Red (tOr T U σ st q) (T σ st fun c st1 => (c = true → q true st1) ∧ (c = false → U σ st1 q)) := ⟨id⟩
instance {q : Bool → Store → Prop} : Red (tNot T σ st q) (T σ st fun c st1 => q (!c) st1) := ⟨id⟩
instance {q : Bool → Store → Prop} : Red (tYes σ st q) (q true st) := ⟨id⟩
-- iterables
instance {R : Iter → Store → Prop} : Red (iSeq te σ st R) (te σ st fun x st1 => itK x st1 R) := ⟨id⟩
instance {R : Iter → Store → Prop} : Red (iR1 te σ st R) (te σ st fun x st1 => ∃ j, x = .int j ∧ -(2 ^ 62) ≤ j ∧ j < 2 ^ 62 ∧ R ⟨rng 0 j.toNat, fun _ => True⟩ st1) := ⟨id⟩
instance {R : Iter → Store → Prop} : Red (iR2 ta tb σ st R) (ta σ st fun x st1 => tb σ st1 fun y st2 => ∃ i j, x = .int i ∧ y = .int j ∧ (-(2 ^ 62) ≤ i ∧ i < 2 ^ 62 ∧ -(2 ^ 62) ≤ j ∧ j < 2 ^ 62) ∧ R ⟨rng i (j - i).toNat, fun _ => True⟩ st2) := ⟨id⟩
instance {R : Iter → Store → Prop} : Red (iZip2 ta tb σ st R) (ta σ st fun x st1 => tb σ st1 fun y st2 => zipK x y st2 R) := ⟨id⟩
instance {R : Iter → Store → Prop} : Red (itK (.tup xs) st R) (R ⟨xs, fun _ => True⟩ st) := ⟨id⟩
instance {R : Iter → Store → Prop} : Red (zipK (.tup xs) (.tup ys) st R) (R ⟨zipD xs ys, fun _ => True⟩ st) := ⟨id⟩
-- values
section
variable {a b : Int} {u v : Str} {p q : Bool}
instance : Red (addK (.int a) (.int b) st Q) (Q (.int (a + b)) st) := ⟨id⟩
instance : Red (addK (.tup xs) (.tup ys) st Q) (xs.length + ys.length ≤ szl ∧ Q (.tup (xs ++ ys)) st) := ⟨id⟩
instance : Red (addK (.str u) (.str v) st Q) (u.length + v.length ≤ szl ∧ Q (.str (u ++ v)) st) := ⟨id⟩
instance : Red (iaddK (.int a) (.int b) st Q) (Q (.int (a + b)) st) := ⟨id⟩
instance : Red (subK (.int a) (.int b) st Q) (Q (.int (a - b)) st) := ⟨id⟩
instance : Red (mulK (.int a) (.int b) st Q) (cMul a b ∧ Q (.int (a * b)) st) := ⟨id⟩
instance : Red (fdivK (.int a) (.int b) st Q) ((0 < b ∧ b < 1073741824) ∧ Q (.int (a / b)) st) := ⟨id⟩
instance : Red (modK (.int a) (.int b) st Q) (0 < b ∧ Q (.int (a % b)) st) := ⟨id⟩
instance : Red (powK (.int a) (.int b) st Q) (cPow a b ∧ Q (.int (a ^ b.toNat)) st) := ⟨id⟩
instance : Red (shlK (.int a) (.int b) st Q) (cPow a b ∧ Q (.int (a * 2 ^ b.toNat)) st) := ⟨id⟩
instance : Red (shrK (.int a) (.int b) st Q) (0 ≤ b ∧ Q (.int (a / 2 ^ b.toNat)) st) := ⟨id⟩
instance : Red (andK (.int a) (.int b) st Q) (Q (.int (Builtin.bitAnd a b)) st) := ⟨id⟩
instance : Red (orK (.int a) (.int b) st Q) (Q (.int (Builtin.bitOr a b)) st) := ⟨id⟩
instance : Red (xorK (.int a) (.int b) st Q) (Q (.int (Builtin.bitXor a b)) st) := ⟨id⟩
instance : Red (negK (.int a) st Q) (Q (.int (-a)) st) := ⟨id⟩
instance : Red (invK (.int a) st Q) (Q (.int (Builtin.bitNot a)) st) := ⟨id⟩
instance {r : Bool → Prop} : Red (ltC (.int a) (.int b) st r) (r (decide (a < b))) := ⟨id⟩
instance {r : Bool → Prop} : Red (leC (.int a) (.int b) st r) (r (decide (a ≤ b))) := ⟨id⟩
instance {r : Bool → Prop} : Red (gtC (.int a) (.int b) st r) (r (decide (b < a))) := ⟨id⟩
instance {r : Bool → Prop} : Red (geC (.int a) (.int b) st r) (r (decide (b ≤ a))) := ⟨id⟩
theorem eq_ii {r : Bool → Prop} (h : r (decide (a = b))) : eqC (.int a) (.int b) st r := by
  have e : D.eqb (.int a) (.int b) = decide (a = b) := by
    simp only [D.eqb]
    by_cases e : a = b <;> simp [e]
  refine ⟨by simp [D.okd], by simp [D.okd], ?_⟩
  rw [e]; exact h
theorem eq_ss {r : Bool → Prop} (h : okS u = true ∧ okS v = true ∧ r (decide (u = v))) : eqC (.str u) (.str v) st r := by
  refine ⟨by simpa [D.okd] using h.1, by simpa [D.okd] using h.2.1, ?_⟩
  simpa [D.eqb] using h.2.2
instance {r : Bool → Prop} : Red (eqC (.int a) (.int b) st r) (r (decide (a = b))) := ⟨eq_ii⟩
instance {r : Bool → Prop} : Red (neC (.int a) (.int b) st r) (r (!decide (a = b))) := ⟨fun h => eq_ii (r := fun b => r (!b)) h⟩
instance {r : Bool → Prop} : Red (eqC (.str u) (.str v) st r) (okS u = true ∧ okS v = true ∧ r (decide (u = v))) := ⟨eq_ss⟩
instance {r : Bool → Prop} : Red (neC (.str u) (.str v) st r) (okS u = true ∧ okS v = true ∧ r (!decide (u = v))) := ⟨fun h => eq_ss (r := fun b => r (!b)) h⟩
instance {r : Bool → Prop} : Red (isC x .non st r) (r (isNon x)) := ⟨fun h => by cases x <;> exact h⟩
instance {r : Bool → Prop} : Red (isntC x .non st r) (r (!isNon x)) := ⟨fun h => by cases x <;> exact h⟩
instance {r : Bool → Prop} : Red (truK (.bl p) st r) (r p) := ⟨id⟩
instance {r : Bool → Prop} : Red (truK (.int a) st r) (r (a != 0)) := ⟨id⟩
instance {r : Bool → Prop} : Red (truK .non st r) (r false) := ⟨id⟩
instance {r : Bool → Prop} : Red (truK (.tup xs) st r) (r (!xs.isEmpty)) := ⟨id⟩
instance : Red (ixK (.tup xs) (.int a) st Q) (∃ d, atD xs a = some d ∧ Q d st) := ⟨id⟩
instance : Red (slK (.tup xs) lo hi st Q) (Q (.tup (cutD xs lo hi)) st) := ⟨id⟩
instance : Red (intB [.int a] st Q) (Q (.int a) st) := ⟨id⟩
instance : Red (intB [.bl p] st Q) (Q (.int (b2i p)) st) := ⟨id⟩
instance : Red (absB [.int a] st Q) (Q (.int (if a < 0 then -a else a)) st) := ⟨id⟩
instance : Red (lenB [.tup xs] st Q) (Q (.int xs.length) st) := ⟨id⟩
instance : Red (min2B [.int a, .int b] st Q) (Q (.int (if b < a then b else a)) st) := ⟨id⟩
instance : Red (max2B [.int a, .int b] st Q) (Q (.int (if b > a then b else a)) st) := ⟨id⟩
instance : Red (listB [.tup xs] st Q) (Q (.ref st.length) (st ++ [.lst xs])) := ⟨id⟩
instance : Red (tupleB [.tup xs] st Q) (Q (.tup xs) st) := ⟨id⟩
instance {r : Bool → Prop} : Red (isTy (.int a) st t r) (r (decide (t = .int))) := ⟨id⟩
instance {r : Bool → Prop} : Red (isTy (.bl p) st t r) (r (decide (t = .bool) || decide (t = .int))) := ⟨id⟩
instance {r : Bool → Prop} : Red (isTy (.tup xs) st t r) (r (decide (t = .tuple))) := ⟨id⟩
instance {r : Bool → Prop} : Red (isTy .non st t r) (r false) := ⟨id⟩
instance {P : Int → Prop} : Red (∃ i, D.int a = D.int i ∧ P i) (P a) := ⟨fun h => ⟨a, rfl, h⟩⟩
instance {P : Int → Int → Prop} : Red (∃ i j, D.int a = D.int i ∧ D.int b = D.int j ∧ P i j) (P a b) := ⟨fun h => ⟨a, b, rfl, rfl, h⟩⟩
-- known ways
instance {A B : Prop} : Red ((true = true → A) ∧ (true = false → B)) A := ⟨fun h => ⟨fun _ => h, fun e => nomatch e⟩⟩
instance {A B : Prop} : Red ((false = true → A) ∧ (false = false → B)) B := ⟨fun h => ⟨fun e => (nomatch e), fun _ => h⟩⟩
end
end

/-! lemmas for what is open -/
theorem way {b : Bool} {A B : Prop} (h1 : b = true → A) (h2 : b = false → B) : (b = true → A) ∧ (b = false → B) := ⟨h1, h2⟩
theorem wayT {b : Bool} {A B : Prop} (h : b = true) (h1 : A) : (b = true → A) ∧ (b = false → B) := ⟨fun _ => h1, fun e => by rw [h] at e; cases e⟩
theorem wayF {b : Bool} {A B : Prop} (h : b = false) (h1 : B) : (b = true → A) ∧ (b = false → B) := ⟨fun e => (by rw [h] at e; cases e), fun _ => h1⟩
/-- where ways meet: J holds there -/
theorem seq_cut {S S' : TS} {D0 : Ends} {σ : Env} {st : Store} (J : Env → Store → Prop) (h : ∀ N : Env → Store → Prop, (∀ σ st, J σ st → N σ st) → S { D0 with nx := N } σ st) (hJ : ∀ σ st, J σ st → S' D0 σ st) : sSeq S S' D0 σ st := h _ fun σ st j => ⟨hJ σ st j⟩
class StartE (n : Nat) (ds : List D) (σ : outParam Env) : Prop where
  eq : start n ds = σ
instance : StartE 0 [] [] := ⟨rfl⟩
instance [h : StartE n [] σ] : StartE (n + 1) [] (none :: σ) := ⟨by rw [← h.eq]; unfold start; simp [List.replicate_succ]⟩
instance [h : StartE n ds σ] : StartE (n + 1) (d :: ds) (some d :: σ) := ⟨by rw [← h.eq]; unfold start; simp⟩
/-- a call of a def of the program -/
theorem call_intro {prog : String → Option Def} {k : Nat} {f : String} {ds : List D} {st : Store} {Q : K} {ps ns : Nat} {body : Cl → TS} {σ : Env} (h : prog f = some ⟨ps, ns, body⟩) (hl : ds.length = ps) [hσ : StartE ns ds σ] (hb : body (callN prog k) { nx := fun _ st' => Q .non st', rt := Q } σ st) : callN prog (k + 1) f ds st Q :=
  ⟨_, h, hl, by rw [hσ.eq]; exact hb⟩

/-! ### loops -/
/-- a for by an invariant over the items gone through; N: what the body is to reach -/
theorem for_inv {gd : Store → Prop} {g : TG} {tb : TS} {D0 : Ends} (Pv : List D → Env → Store → Prop) {items : List D} 
    (hs : ∀ pre x post σ st, items = pre ++ x :: post → Pv pre σ st → ∀ N : Env → Store → Prop, (∀ σ st, Pv (pre ++ [x]) σ st → N σ st) → gd st ∧ g x σ st fun σ2 st2 => tb { D0 with nx := N, ct := N, bk := D0.nx } σ2 st2)
    (hd : ∀ σ st, Pv items σ st → gd st ∧ D0.nx σ st) : ∀ (todo pre : List D) {σ : Env} {st : Store}, items = pre ++ todo → Pv pre σ st → forLoop gd g tb D0 todo σ st
  | [], pre, σ, st, e, h => by
    rw [List.append_nil] at e
    subst e
    exact hd σ st h
  | x :: post, pre, σ, st, e, h => hs pre x post σ st e h _ fun σ st h' => for_inv Pv hs hd post (pre ++ [x]) (by rw [e]; simp) h'
theorem for_by {gd : Store → Prop} {g : TG} {tb : TS} {D0 : Ends} {items : List D} {σ : Env} {st : Store} (Pv : List D → Env → Store → Prop) (h0 : Pv [] σ st)
    (hs : ∀ pre x post σ st, items = pre ++ x :: post → Pv pre σ st → ∀ N : Env → Store → Prop, (∀ σ st, Pv (pre ++ [x]) σ st → N σ st) → gd st ∧ g x σ st fun σ2 st2 => tb { D0 with nx := N, ct := N, bk := D0.nx } σ2 st2)
    (hd : ∀ σ st, Pv items σ st → gd st ∧ D0.nx σ st) : forLoop gd g tb D0 items σ st := for_inv Pv hs hd items [] rfl h0
/-- over range(n) -/
theorem for_rng {gd : Store → Prop} {g : TG} {tb : TS} {D0 : Ends} {lo : Int} {n : Nat} {σ : Env} {st : Store} (Pv : Nat → Env → Store → Prop) (h0 : Pv 0 σ st)
    (hs : ∀ k σ st, k < n → Pv k σ st → ∀ N : Env → Store → Prop, (∀ σ st, Pv (k + 1) σ st → N σ st) → gd st ∧ g (.int (lo + k)) σ st fun σ2 st2 => tb { D0 with nx := N, ct := N, bk := D0.nx } σ2 st2)
    (hd : ∀ σ st, Pv n σ st → gd st ∧ D0.nx σ st) : forLoop gd g tb D0 (rng lo n) σ st := by
  refine for_by (fun pre σ st => Pv pre.length σ st) h0 (fun pre x post σ st e h N hN => ?_) (fun σ st h => hd σ st (by simpa [rng] using h))
  have hl : pre.length < n := by
    have := congrArg List.length e
    simp [rng] at this
    omega
  have hx : x = .int (lo + pre.length) := by
    have h2 : (rng lo n)[pre.length]? = some x := by rw [e]; simp
    unfold rng at h2
    rw [List.getElem?_map, List.getElem?_range hl] at h2
    simpa using h2.symm
  subst hx
  exact hs pre.length σ st hl h N fun σ st h' => hN σ st (by simpa using h')
/-- a comprehension by an invariant; N: behind the element, M: where a test leaves it out -/
theorem lc_inv {gd : Store → Prop} {g : TG} {tt : TT} {te : TE} {ρ : Env} {n : Nat} {Q : K} (Pv : List D → List D → Store → Prop) {items : List D}
    (hs : ∀ pre x post acc st, items = pre ++ x :: post → Pv pre acc st → ∀ (N : D → Store → Prop) (M : Store → Prop), (∀ y st', rdL st' n acc → acc.length < szl → Pv (pre ++ [x]) (acc ++ [y]) (st'.set n (.lst (acc ++ [y]))) → N y st') → (∀ st', rdL st' n acc → Pv (pre ++ [x]) acc st' → M st') →
      gd st ∧ g x ρ st fun ρ2 st2 => tt ρ2 st2 fun b st3 => (b = true → te ρ2 st3 N) ∧ (b = false → M st3))
    (hd : ∀ acc st, Pv items acc st → gd st ∧ rdL st n acc ∧ Q (.ref n) st) : ∀ (todo pre acc : List D) {st : Store}, items = pre ++ todo → Pv pre acc st → lcLoop gd g tt te ρ n Q todo acc st
  | [], pre, acc, st, e, h => by
    rw [List.append_nil] at e
    subst e
    exact hd acc st h
  | x :: post, pre, acc, st, e, h => hs pre x post acc st e h _ _ (fun y st' h1 h2 h3 => ⟨h1, h2, lc_inv Pv hs hd post (pre ++ [x]) (acc ++ [y]) (by rw [e]; simp) h3⟩) fun st' h1 h2 => ⟨h1, lc_inv Pv hs hd post (pre ++ [x]) acc (by rw [e]; simp) h2⟩
theorem lc_by {gd : Store → Prop} {g : TG} {tt : TT} {te : TE} {ρ : Env} {n : Nat} {Q : K} {items : List D} {st : Store} (Pv : List D → List D → Store → Prop) (h0 : Pv [] [] st)
    (hs : ∀ pre x post acc st, items = pre ++ x :: post → Pv pre acc st → ∀ (N : D → Store → Prop) (M : Store → Prop), (∀ y st', rdL st' n acc → acc.length < szl → Pv (pre ++ [x]) (acc ++ [y]) (st'.set n (.lst (acc ++ [y]))) → N y st') → (∀ st', rdL st' n acc → Pv (pre ++ [x]) acc st' → M st') →
      gd st ∧ g x ρ st fun ρ2 st2 => tt ρ2 st2 fun b st3 => (b = true → te ρ2 st3 N) ∧ (b = false → M st3))
    (hd : ∀ acc st, Pv items acc st → gd st ∧ rdL st n acc ∧ Q (.ref n) st) : lcLoop gd g tt te ρ n Q items [] st := lc_inv Pv hs hd items [] [] rfl h0
theorem set_app {α : Type} (xs : List α) (a b : α) : (xs ++ [a]).set xs.length b = xs ++ [b] := by
  rw [List.set_append_right _ _ (Nat.le_refl _)]; simp
/-- the element reads alone: the new list is the map -/
theorem lc_map {α : Type} {gd : Store → Prop} {g : TG} {te : TE} {ρ : Env} {st : Store} {Q : K} (xs : List α) (f h : α → D) {items : List D} (hi : items = xs.map f) (hl : xs.length ≤ szl) (hg : ∀ acc, gd (st ++ [.lst acc]))
    (hs : ∀ x, x ∈ xs → ∀ (acc : List D) (N : D → Store → Prop), N (h x) (st ++ [.lst acc]) → g (f x) ρ (st ++ [.lst acc]) fun ρ2 st2 => te ρ2 st2 N)
    (hd : Q (.ref st.length) (st ++ [.lst (xs.map h)])) : lcLoop gd g tYes te ρ st.length Q items [] (st ++ [.lst []]) := by
  subst hi
  refine lc_by (fun pre acc st' => acc = (xs.take pre.length).map h ∧ st' = st ++ [.lst acc]) ⟨rfl, rfl⟩ (fun pre x post acc st' e ⟨h1, h2⟩ N M hN hM => ?_) (fun acc st' ⟨h1, h2⟩ => ?_)
  · subst h1; subst h2
    refine ⟨hg _, ?_⟩
    have hlen : pre.length < xs.length := by
      have := congrArg List.length e
      simp at this; omega
    have hx : xs[pre.length] ∈ xs := List.getElem_mem hlen
    have hfx : x = f xs[pre.length] := by
      have h2 : (xs.map f)[pre.length]? = some x := by rw [e]; simp
      rw [List.getElem?_map, List.getElem?_eq_getElem hlen] at h2
      simpa using h2.symm
    subst hfx
    have e1 : (fun (ρ2 : Env) (st2 : Store) => tYes ρ2 st2 fun b st3 => (b = true → te ρ2 st3 N) ∧ (b = false → M st3)) = fun ρ2 st2 => te ρ2 st2 N := by
      funext ρ2 st2
      exact propext ⟨fun q => q.1 rfl, fun q => ⟨fun _ => q, fun e => nomatch e⟩⟩
    rw [e1]
    refine hs _ hx _ N (hN _ _ (by unfold rdL; simp) (by simp; omega) ⟨?_, ?_⟩)
    · rw [List.length_append]
      show _ = List.map h (List.take (pre.length + 1) xs)
      rw [List.take_add_one, List.map_append, List.getElem?_eq_getElem hlen]
      rfl
    · rw [set_app]
  · subst h1; subst h2
    have e2 : List.take (List.map f xs).length xs = xs := by simp
    rw [e2] at *
    exact ⟨hg _, by unfold rdL; simp, hd⟩
theorem map_id_int (xs : List Int) : xs.map D.int = xs.map D.int := rfl
end Pd
end PartPdTac

section PartPdMore
set_option Elab.async false
set_option linter.all false
set_option maxRecDepth 100000
/-! Pd: more readings: texts split, range as a list or a tuple, sorted. Own work. -/
namespace Pd
open PySem
def splitM : KM
  | .str a, [.str b], st, Q => (b.length == 0) = false ∧ a.length + 2 ≤ szl ∧ Q (.ref st.length) (st ++ [.lst ((PySem.Txt.split a b).map D.str)])
  | _, _, _, _ => False
/-- range(..) as an argument -/
abbrev TR := Env → Store → (Int → Int → Store → Prop) → Prop
def rg1 (t : TE) : TR := fun σ st Q => t σ st fun x st1 => ∃ j, x = .int j ∧ Q 0 j st1
def rg2 (t u : TE) : TR := fun σ st Q => t σ st fun x st1 => u σ st1 fun y st2 => ∃ i j, x = .int i ∧ y = .int j ∧ Q i j st2
def rgOk (a b : Int) : Prop := -(2 ^ 62) ≤ a ∧ a < 2 ^ 62 ∧ -(2 ^ 62) ≤ b ∧ b < 2 ^ 62 ∧ (b - a).toNat ≤ 2 ^ 24
def dLR (r : TR) : TE := fun σ st Q => r σ st fun a b st1 => rgOk a b ∧ Q (.ref st1.length) (st1 ++ [.lst (rng a (b - a).toNat)])
def dTR (r : TR) : TE := fun σ st Q => r σ st fun a b st1 => rgOk a b ∧ Q (.tup (rng a (b - a).toNat)) st1
/-- sorted: of whole numbers -/
def sortedB : KB
  | [.ref n], st, Q => ∃ ns : List Int, rdA st n (ns.map D.int) ∧ ∀ ns' : List Int, ns'.Perm ns → ns'.Pairwise (· ≤ ·) → Q (.ref st.length) (st ++ [.lst (ns'.map D.int)])
  | _, _, _ => False
/-- a call of a def with n parameters and one that takes what is left over -/
def dCallS (c : Cl) (f : String) (n : Nat) (t : TA) : TE := fun σ st Q => t σ st fun xs st1 => n ≤ xs.length ∧ (xs.drop n).length ≤ szl ∧ c f (xs.take n ++ [.tup (xs.drop n)]) st1 Q
section
variable {c : Cl} {fn : String} {nn : Nat} {Ar : TA}
instance {σ : Env} {st : Store} {Q : K} : Red (dCallS c fn nn Ar σ st Q) (Ar σ st fun xs st1 => nn ≤ xs.length ∧ (xs.drop nn).length ≤ szl ∧ c fn (xs.take nn ++ [.tup (xs.drop nn)]) st1 Q) := ⟨id⟩
end
section
variable {σ : Env} {st : Store} {Q : K} {r : TR} {ta tb : TE} {q : Int → Int → Store → Prop} {a b : Int} {u v : Str}
instance : Red (dLR r σ st Q) (r σ st fun a b st1 => rgOk a b ∧ Q (.ref st1.length) (st1 ++ [.lst (rng a (b - a).toNat)])) := ⟨id⟩
instance : Red (dTR r σ st Q) (r σ st fun a b st1 => rgOk a b ∧ Q (.tup (rng a (b - a).toNat)) st1) := ⟨id⟩
instance : Red (rg1 ta σ st q) (ta σ st fun x st1 => ∃ j, x = .int j ∧ q 0 j st1) := ⟨id⟩
instance : Red (rg2 ta tb σ st q) (ta σ st fun x st1 => tb σ st1 fun y st2 => ∃ i j, x = .int i ∧ y = .int j ∧ q i j st2) := ⟨id⟩
instance : Red (splitM (.str u) [.str v] st Q) ((v.length == 0) = false ∧ u.length + 2 ≤ szl ∧ Q (.ref st.length) (st ++ [.lst ((PySem.Txt.split u v).map D.str)])) := ⟨id⟩
instance : Red (tyStr (.str u) st) True := ⟨id⟩
end
end Pd
end PartPdMore

section PartPdSoundG
set_option Elab.async false
set_option linter.all false
set_option maxRecDepth 100000
set_option maxHeartbeats 1000000
/-! Pd over the hand layer: texts split, range as a list or a tuple, sorted. Own work. -/
namespace Pd
open PySem PySem.Spec
section
variable {X : L2.Cx} {K : Kf} {f f' : List Addr} {H H' : Hp} {st st' : Store} {ρ : Env} {σ : L2.St}
theorem RDs.of_strs : ∀ (ss : List Str), RDs K f H (ss.map D.str) (ss.map L2.V.str)
  | [] => by simp [RDs.nil]
  | n :: ns => by
    rw [List.map_cons, List.map_cons, RDs.cons]
    exact ⟨_, _, rfl, by rw [RD.str], RDs.of_strs ns⟩
theorem real_split : RealM K (fun x xs H Q => ∃ a b, x = .str a ∧ xs = [.str b] ∧ (b.length == 0) = false ∧ a.length + 2 ≤ sizeLine ∧ L2.rNewStrs (Txt.split a b) H Q) splitM := fun f st H x xs v vs Q' Q s r1 r2 h l => by
  cases x <;> try (exact h.elim)
  match xs, h with
  | [], h => exact h.elim
  | y :: _ :: _, h => cases y <;> exact (show False from h).elim
  | [y], h =>
    cases y <;> try (exact h.elim)
    rw [RD.str] at r1
    obtain ⟨w, rfl, r3⟩ := r2.inv1
    rw [RD.str] at r3
    subst r1; subst r3
    obtain ⟨h1, h2, h3⟩ := h
    exact ⟨_, _, rfl, rfl, h1, by rw [← szl_eq]; exact h2, fun p hp => l.lst s h3 (RDs.of_strs _) hp⟩
/-! range(..) as an argument -/
def liftR (K : Kf) (t : TR) : L2.St → Hp → (Int → Int → Hp → Prop) → Prop := fun σ H Q => ∃ f ρ st Q', Rel K f ρ st σ H ∧ t ρ st Q' ∧ ∀ (a b : Int) (st' : Store) (f' : List Addr) (H' : Hp), Q' a b st' → Ext K f H f' H' → RelS K f' st' H' → Q a b H'
abbrev PDR (X : L2.Cx) (e : Expr) (t : TR) : Prop := L2.PRg X e (liftR X.K t)
theorem prg_imp {e : Expr} {t t' : L2.St → Hp → (Int → Int → Hp → Prop) → Prop} (h : L2.PRg X e t) (m : ∀ σ H Q, t' σ H Q → t σ H Q) : L2.PRg X e t' := fun pins s σ H Q I q => h pins s σ H Q I (m σ H Q q)
section
variable {a b e : Expr} {ta tb : TE} {tr : TR} {pos : Pos}
theorem pr_1 {p : Pos} (hg : L2.Gl X "range") (hm : X.mg "range" = none) (ha : PD X a ta) (na : starEach [a] X.env = (false, eval a X.env) :: starEach [] X.env := by rfl) : PDR X (.Call (.Name "range" p) [a] [] pos) (rg1 ta) :=
  prg_imp (L2.prg_1 hg hm ha na) fun σ H R ⟨f, ρ, st, R', Re, h, l⟩ => ⟨f, ρ, st, _, Re, h, fun x st1 v f1 H1 q1 e1 s1 r1 => by
    obtain ⟨j, rfl, h1⟩ := q1
    rw [RD.int] at r1
    subst r1
    exact ⟨j, rfl, l _ _ st1 f1 H1 h1 e1 s1⟩⟩
theorem pr_2 {p : Pos} (hg : L2.Gl X "range") (hm : X.mg "range" = none) (ha : PD X a ta) (hb : PD X b tb) (na : starEach [a, b] X.env = (false, eval a X.env) :: starEach [b] X.env := by rfl)
    (nb : starEach [b] X.env = (false, eval b X.env) :: starEach [] X.env := by rfl) (hp : (backTo pos (starEach [b] X.env)).any (·.1) = false := by rfl) : PDR X (.Call (.Name "range" p) [a, b] [] pos) (rg2 ta tb) :=
  prg_imp (L2.prg_2 hg hm ha hb na nb hp) fun σ H R ⟨f, ρ, st, R', Re, h, l⟩ => ⟨f, ρ, st, _, Re, h, fun x st1 v f1 H1 q1 e1 s1 r1 => ⟨f1, ρ, st1, _, Re.later e1 s1, q1, fun y st2 w f2 H2 q2 e2 s2 r2 => by
    obtain ⟨i, j, rfl, rfl, h3⟩ := q2
    have r1' := r1.mono e2
    rw [RD.int] at r1' r2
    subst r1'; subst r2
    exact ⟨i, j, rfl, rfl, l _ _ st2 f2 H2 h3 (e1.trans e2) s2⟩⟩⟩
theorem rng_rgV (a b : Int) : RDs K f H (rng a (b - a).toNat) (L2.rgV a b) := by
  have e1 : rng a (b - a).toNat = ((List.range (b - a).toNat).map fun (k : Nat) => a + (k : Int)).map D.int := by unfold rng; simp
  have e2 : L2.rgV a b = ((List.range (b - a).toNat).map fun (k : Nat) => a + (k : Int)).map L2.V.int := by unfold L2.rgV; simp
  rw [e1, e2]; exact RDs.of_ints _
theorem pd_listRg {p : Pos} (hc : X.calm = true) (hg : L2.Gl X "list") (hm : X.mg "list" = none) (he : PDR X e tr) (na : starEach [e] X.env = (false, eval e X.env) :: starEach [] X.env := by rfl) : PD X (.Call (.Name "list" p) [e] [] pos) (dLR tr) :=
  pe_imp (L2.pe_listRg hc hg hm he na) fun σ H Q ⟨f, ρ, st, Q', R, h, l⟩ => ⟨f, ρ, st, _, R, h, fun a b st1 f1 H1 q1 e1 s1 => ⟨q1.1, fun p hp => (l.later e1).lst s1 q1.2 (rng_rgV a b) hp⟩⟩
theorem pd_tupRg {p : Pos} (hc : X.calm = true) (hg : L2.Gl X "tuple") (hm : X.mg "tuple" = none) (he : PDR X e tr) (na : starEach [e] X.env = (false, eval e X.env) :: starEach [] X.env := by rfl) : PD X (.Call (.Name "tuple" p) [e] [] pos) (dTR tr) :=
  pe_imp (L2.pe_tupRg hc hg hm he na) fun σ H Q ⟨f, ρ, st, Q', R, h, l⟩ => ⟨f, ρ, st, _, R, h, fun a b st1 f1 H1 q1 e1 s1 => ⟨q1.1, fun p hp => (l.later e1).tup s1 q1.2 (rng_rgV a b) hp⟩⟩
end
theorem real_sortedB : RealB K (L2.rSortedI K) sortedB :=
  realB1 (kb1 (fun _ _ h => h) fun x y xs st Q h => by cases x <;> exact h) fun f st H x v Q' Q s r h l => by
    cases x <;> try (exact h.elim)
    rw [RD.ref] at r
    obtain ⟨a, e, rfl⟩ := r
    obtain ⟨ns, h1, h2⟩ := h
    obtain ⟨a', vs, k1, k2, d⟩ := s.rdA h1
    rw [e] at k1; cases k1
    exact ⟨a, ns, rfl, by rw [← d.ints]; exact k2, fun ns' p hp hi hn => l.lst s (h2 ns' hp hi) (RDs.of_ints ns') hn⟩
end
end Pd
end PartPdSoundG

section PartPdSoundH
set_option Elab.async false
set_option linter.all false
set_option maxRecDepth 100000
set_option maxHeartbeats 1000000
/-! Pd over the hand layer: defs whose last parameter takes what is left over. Own work. -/
namespace Pd
open PySem PySem.Spec
open PyProof.Rows (envOfC)
/-- what a def with n parameters and a star one promises -/
def starF (K : Kf) (n : Nat) (c : List D → Store → Pd.K → Prop) : L2.Sp := fun vs H Q E => ∃ ws rest : List L2.V, vs = ws ++ rest ∧ ws.length = n ∧ rest.length ≤ sizeLine ∧ ∀ p, H p = Option.none → liftF K (n + 1) c (ws ++ [L2.V.ref p]) (L2.upd H p (.tup rest)) Q E
structure OwnS (P : Program) (w : World) (K : Kf) (mg : Str → Option Value) (base : Heap) (k : Nat) (n : Nat) (x : Str) (c : List D → Store → Pd.K → Prop) : Prop where
  ex : ∃ fa : Addr, L2.FnR P w K mg base L2.CX0 k fa (starF K n c) ∧ mg x = some (.ref fa) ∧ PySem.W.keepIn K (.ref fa) = true
section
variable {X : L2.Cx} {K : Kf} {f f' : List Addr} {H H' : Hp} {st st' : Store} {a : Expr} {es : List Expr} {pos : Pos}
theorem pd_callS {x : Str} {p : Pos} {k n : Nat} {ts : TA} {cl : Cl} {y : String} (o : OwnS X.prog X.w X.K X.mg X.base k n x (cl y)) (hr : L2.Room k X.A) (hg : L2.Gl X x) (ha : PDA X (a :: es) ts) (hdb : (x == ("__debug__" : Str)) = false := by decide)
    (he : starEach (a :: es) X.env = (false, eval a X.env) :: starEach es X.env := by rfl) (hpl : (backTo pos (starEach es X.env)).any (·.1) = false := by rfl) : PD X (.Call (.Name x p) (a :: es) [] pos) (dCallS cl y n ts) := by
  obtain ⟨fa, F, hm, hk⟩ := o.ex
  have step : L2.PE X (.Call (.Name x p) (a :: es) [] pos) (fun σ H Q => liftA X.K ts σ H fun vs H1 => starF X.K n (cl y) vs H1 Q fun _ _ _ => False) := by
    constructor
    intro pins s σ H Q I h
    refine wpAny_Call_Name_kw (L2.ld_glob I hg hm ?_ hdb)
    have args := ha.run pos pins s σ H _ I h
    exact PySem.W.callWith_K (h₀ := X.base) I.ok.mod.kin hk (wpAny_mono args (fun us s1 ⟨vs, H1, I1, r, q⟩ => ⟨I1.kIn, wpAny_call (L2.run_fnR F hr L2.pass0 I1 r q)⟩) fun _ _ z => z) he hpl
  refine pe_imp step fun σ H Q ⟨f, ρ, st, Q', R, h, l⟩ => ⟨f, ρ, st, _, R, h, fun xs st1 vs f1 H1 ⟨h1, h2, h3⟩ e1 s1 r1 => ?_⟩
  have hvl := r1.length
  refine ⟨vs.take n, vs.drop n, (List.take_append_drop n vs).symm, by rw [List.length_take]; omega, ?_, fun p hp => ?_⟩
  · rw [List.length_drop, hvl, ← szl_eq]; rw [List.length_drop] at h2; exact h2
  · have s2 := s1.lay (o := .tup (vs.drop n)) hp
    obtain ⟨s2, e2⟩ := s2
    refine ⟨by rw [List.length_append, List.length_take]; simp; omega, f1, st1, xs.take n ++ [.tup (xs.drop n)], Q', s2, ?_, h3, (l.later e1).later e2⟩
    refine RDs.append ((r1.take n).mono e2) (RDs.one (RD.tup.mpr ⟨p, vs.drop n, rfl, .of L2.upd_same, (r1.drop n).mono e2⟩))
end
section
variable {P : Program} {w : World} {K : Kf} {mg : Str → Option Value} {base : Heap} {names : List String} {snames : List (String × Nat)}
/-- as Step, with both kinds of own defs -/
structure Step2 (P : Program) (w : World) (K : Kf) (mg : Str → Option Value) (base : Heap) (names : List String) (snames : List (String × Nat)) (x : String) (d : Def) : Prop where
  ex : ∃ (fa : Addr) (fd : FuncData) (ps : List Str), mg x = some (.ref fa) ∧ PySem.W.keepIn K (.ref fa) = true ∧ L2.Binds K fd ps [] ∧ d.ps = ps.length ∧
    ∀ (k : Nat) (c : Cl), (∀ y ∈ names, Own P w K mg base k (Str.ofString y) (c y)) → (∀ q ∈ snames, OwnS P w K mg base k q.2 (Str.ofString q.1) (c q.1)) → L2.FnOk P w K mg base L2.CX0 (k + 1) fa fd ps (liftF K ps.length (d.run c))
structure StepS (P : Program) (w : World) (K : Kf) (mg : Str → Option Value) (base : Heap) (names : List String) (snames : List (String × Nat)) (x : String) (n : Nat) (d : Def) : Prop where
  ex : ∃ fa : Addr, mg x = some (.ref fa) ∧ PySem.W.keepIn K (.ref fa) = true ∧
    ∀ (k : Nat) (c : Cl), (∀ y ∈ names, Own P w K mg base k (Str.ofString y) (c y)) → (∀ q ∈ snames, OwnS P w K mg base k q.2 (Str.ofString q.1) (c q.1)) → L2.FnR P w K mg base L2.CX0 (k + 1) fa (starF K n (d.run c))
theorem fnS_ok {qual x pv : Str} {sm : Stmt} {fa : Addr} {fd : FuncData} {N ps : List Str} {k : Nat} {d : Def} {c : Cl} (F : L2.Fun K x qual sm fa fd) (S : L2.FnScope N (ps ++ [pv]) (L2.defScope sm)) (hn : d.ns = N.length) (hp : d.ps = ps.length + 1)
    (hb : ∀ (kV doc pm : Value) (an : Option Addr) (cdv ct : Value) (us rest : List Value), us.length = ps.length → bindArgs (PySem.W.fnOf x qual (L2.defArgs sm) (L2.defBody sm) (L2.defScope sm) .none kV doc pm an cdv ct) ⟨us ++ rest, []⟩ = (newTuple rest >>= fun t => pure (ps.zip us ++ [(pv, t)])))
    (der : ∀ (cdv : Value) (A : Around) (outer : List PySem.Env) (s : Shared) (H : Hp) (E : L2.XK), L2.Room k (A.deeper (envOfC qual (L2.defScope sm) s.heap.objs.size fa cdv)) →
      PDSs (L2.cxOf L2.CX0 P w K mg base N qual (L2.defScope sm) fa cdv A outer s H E).nox (L2.defBody sm) (d.body c)) : L2.FnR P w K mg base L2.CX0 (k + 1) fa (starF K ps.length (d.run c)) := by
  obtain ⟨oc, od, kV, doc, pm, an, cdv, ct, osl, rfl, look, code⟩ := F.ex
  refine StX.fn_star (sp := liftF K (ps.length + 1) (d.run c)) look code S StX.cxUp_none (hb kV doc pm an cdv ct) fun A outer s H vs Q E hr h => ?_
  refine ⟨_, (der cdv A outer s H E hr).nox, ?_⟩
  obtain ⟨_, f, st, ds, Q', s', r, ⟨hl, h⟩, l⟩ := h
  refine ⟨f, start d.ns ds, st, _, start_rel s' r hn, h, ?_⟩
  exact ⟨fun ρ1 st1 σ1 f1 H1 q e r1 => l .non st1 .non f1 H1 q e r1.toRelS (RD.non.mpr rfl), l, fun _ _ _ _ _ q _ _ => q, fun _ _ _ _ _ q _ _ => q⟩
theorem all_own2 {prog : String → Option Def} (hs : ∀ x ∈ names, ∃ d, prog x = some d ∧ Step2 P w K mg base names snames x d) (hs2 : ∀ q ∈ snames, ∃ d, prog q.1 = some d ∧ StepS P w K mg base names snames q.1 q.2 d) :
    ∀ k : Nat, (∀ x ∈ names, Own P w K mg base k (Str.ofString x) (callN prog k x)) ∧ ∀ q ∈ snames, OwnS P w K mg base k q.2 (Str.ofString q.1) (callN prog k q.1)
  | 0 => by
    refine ⟨fun x hx => ?_, fun q hq => ?_⟩
    · obtain ⟨d, h1, fa, fd, ps, h2, h3, h4, h5, h6⟩ := hs x hx
      exact ⟨fa, fd, ps, fn_zero, h2, h3, h4, fun _ _ _ h => h.elim⟩
    · obtain ⟨d, h1, fa, h2, h3, h4⟩ := hs2 q hq
      refine ⟨fa, fun A outer s H us vs Q E hr e0 r h => ?_, h2, h3⟩
      obtain ⟨ws, rest, _, _, _, h⟩ := h
      obtain ⟨_, _, _, _, _, _, _, z, _⟩ := h s.heap.objs.size (e0.hok.fresh (Nat.le_refl _))
      exact z.elim
  | k + 1 => by
    have ih := all_own2 hs hs2 k
    refine ⟨fun x hx => ?_, fun q hq => ?_⟩
    · obtain ⟨d, h1, fa, fd, ps, h2, h3, h4, h5, h6⟩ := hs x hx
      refine ⟨fa, fd, ps, (h6 k _ ih.1 ih.2).imp fun vs H Q E ⟨g0, f, st, ds, Q', s, r, ⟨d', e', g⟩, l⟩ => ?_, h2, h3, h4, fun ds st Q ⟨d', e', g⟩ => ?_⟩
      · rw [h1] at e'; cases e'
        exact ⟨g0, f, st, ds, Q', s, r, g, l⟩
      · rw [h1] at e'; cases e'
        exact g.1.trans h5
    · obtain ⟨d, h1, fa, h2, h3, h4⟩ := hs2 q hq
      refine ⟨fa, (h4 k _ ih.1 ih.2).imp fun vs H Q E ⟨ws, rest, e1, e2, e3, h⟩ => ⟨ws, rest, e1, e2, e3, fun p hp => ?_⟩, h2, h3⟩
      obtain ⟨g0, f, st, ds, Q', s, r, ⟨d', e', g⟩, l⟩ := h p hp
      rw [h1] at e'; cases e'
      exact ⟨g0, f, st, ds, Q', s, r, g, l⟩
end
end Pd
end PartPdSoundH

section PartPdDict
set_option Elab.async false
set_option linter.all false
set_option maxRecDepth 100000
/-! Pd: dicts of ints and texts. Own work. -/
namespace Pd
open PySem
abbrev Ky := Sum Int Str
def keyD : Ky → D
  | .inl i => .int i
  | .inr s => .str s
theorem keyD_inj : ∀ {a b : Ky}, keyD a = keyD b → a = b
  | .inl _, .inl _, h => by injection h with h; rw [h]
  | .inr _, .inr _, h => by injection h with h; rw [h]
  | .inl _, .inr _, h => nomatch h
  | .inr _, .inl _, h => nomatch h
def valD (kvs : List (Ky × D)) (k : Ky) : Option D := (kvs.find? fun kv => decide (kv.1 = k)).map (·.2)
def putD (kvs : List (Ky × D)) (k : Ky) (v : D) : List (Ky × D) :=
  if (kvs.any fun kv => decide (kv.1 = k)) = true then kvs.map (fun kv => if kv.1 = k then (kv.1, v) else kv) else kvs ++ [(k, v)]
/-- {} -/
def dDic : TE := fun _ st Q => Q (.ref st.length) (st ++ [.dic []])
/-- d[k] -/
def getDK : K2
  | .ref n, y, st, Q => ∃ kvs k d, rdD st n kvs ∧ y = keyD k ∧ valD kvs k = some d ∧ Q d st
  | _, _, _, _ => False
def dGet (to ti : TE) : TE := fun σ st Q => to σ st fun x st1 => ti σ st1 fun y st2 => getDK x y st2 Q
/-- d[k] = v -/
def setDK : D → D → D → Store → (Store → Prop) → Prop
  | .ref n, y, v, st, Q => ∃ kvs k, rdD st n kvs ∧ y = keyD k ∧ kvs.length < szl ∧ Q (st.set n (.dic (putD kvs k v)))
  | _, _, _, _, _ => False
def gSubD (to ti : TE) : TG := fun v σ st Q => to σ st fun o st1 => ti σ st1 fun i st2 => setDK o i v st2 fun st3 => Q σ st3
/-- sorted(d), keys whole numbers -/
def sortedDB : KB
  | [.ref n], st, Q => ∃ (kvs : List (Ky × D)) (ns : List Int), rdD st n kvs ∧ kvs.map (·.1) = ns.map Sum.inl ∧ ∀ ns' : List Int, ns'.Perm ns → ns'.Pairwise (· ≤ ·) → Q (.ref st.length) (st ++ [.lst (ns'.map D.int)])
  | _, _, _ => False
/-- {k: v for ..}: n the new cell -/
def dcLoop (gd : Store → Prop) (g : TG) (tt : TT) (tk tv : TE) (ρ : Env) (n : Nat) (Q : K) : List D → List (Ky × D) → Store → Prop
  | [], acc, st => gd st ∧ rdD st n acc ∧ Q (.ref n) st
  | x :: xs, acc, st => gd st ∧ g x ρ st fun ρ2 st2 => tt ρ2 st2 fun b st3 =>
      (b = true → tk ρ2 st3 fun y st4 => tv ρ2 st4 fun z st5 => ∃ k, y = keyD k ∧ rdD st5 n acc ∧ acc.length < szl ∧ dcLoop gd g tt tk tv ρ n Q xs (putD acc k z) (st5.set n (.dic (putD acc k z)))) ∧ (b = false → rdD st3 n acc ∧ dcLoop gd g tt tk tv ρ n Q xs acc st3)
def dDc (i : TI) (g : TG) (tt : TT) (tk tv : TE) (vs : List Nat) : TE := fun σ st Q => i σ st fun I st1 => dcLoop I.guard g tt tk tv (wipeE σ vs) st1.length Q I.items [] (st1 ++ [.dic []])
section
variable {σ σ' : Env} {st : Store} {Q : K} {to ti tk tv : TE} {d x : D} {g : TG} {tt : TT} {i : TI} {vs : List Nat} {q : Env → Store → Prop}
instance : Red (dDic σ st Q) (Q (.ref st.length) (st ++ [.dic []])) := ⟨id⟩
instance : Red (dGet to ti σ st Q) (to σ st fun x st1 => ti σ st1 fun y st2 => getDK x y st2 Q) := ⟨id⟩
instance : Red (gSubD to ti d σ st q) (to σ st fun o st1 => ti σ st1 fun i st2 => setDK o i d st2 fun st3 => q σ st3) := ⟨id⟩
instance [h : WipeE σ vs σ'] : Red (dDc i g tt tk tv vs σ st Q) (i σ st fun I st1 => dcLoop I.guard g tt tk tv σ' st1.length Q I.items [] (st1 ++ [.dic []])) := ⟨fun p => by unfold dDc; rw [h.eq]; exact p⟩
end
end Pd
end PartPdDict

section PartPdSoundI
set_option Elab.async false
set_option linter.all false
set_option maxRecDepth 100000
set_option maxHeartbeats 1000000
/-! Pd over the hand layer: dicts of ints and texts. Own work. -/
namespace Pd
open PySem PySem.Spec
section
variable {X : L2.Cx} {K : Kf} {f f' : List Addr} {H H' : Hp} {st st' : Store} {ρ : Env} {σ : L2.St}
theorem keyD_V {k : Ky} {v : L2.V} (h : RD K f H (keyD k) v) : v = L2.kV k := by
  cases k with
  | inl i => exact RD.int.mp h
  | inr s => exact RD.str.mp h
theorem vals_at : ∀ {kvs : List (Ky × D)} {ks : List (L2.Key × L2.V)}, ks.map (·.1) = kvs.map (·.1) → RDs K f H (kvs.map (·.2)) (ks.map (·.2)) → ∀ (k : Ky) (d : D), valD kvs k = some d → ∃ v, L2.valV ks k = some v ∧ RD K f H d v
  | [], _, _, _, k, d, h => by simp [valD] at h
  | (k0, d0) :: kvs, [], e, _, _, _, _ => by simp at e
  | (k0, d0) :: kvs, (k1, v1) :: ks, e, r, k, d, h => by
    simp only [List.map_cons, List.cons.injEq] at e
    obtain ⟨e1, e2⟩ := e
    rw [List.map_cons, List.map_cons, RDs.cons] at r
    obtain ⟨v, rr, er, r1, r2⟩ := r
    injection er with er1 er2
    subst er1
    have e1 : k1 = k0 := e1
    subst e1
    by_cases hk : k1 = k
    · refine ⟨v1, L2.valV_pos hk, ?_⟩
      have : valD ((k1, d0) :: kvs) k = some d0 := by simp [valD, List.find?_cons, hk]
      rw [this] at h; cases h
      exact r1
    · have : valD ((k1, d0) :: kvs) k = valD kvs k := by simp [valD, List.find?_cons, hk]
      rw [this] at h
      obtain ⟨w, h1, h2⟩ := vals_at e2 (by rw [er2]; exact r2) k d h
      exact ⟨w, (L2.valV_neg hk).trans h1, h2⟩
theorem put_at {k : Ky} {d : D} {v : L2.V} (rv : RD K f H d v) {kvs : List (Ky × D)} {ks : List (L2.Key × L2.V)} (e : ks.map (·.1) = kvs.map (·.1)) (r : RDs K f H (kvs.map (·.2)) (ks.map (·.2))) :
    (L2.putK ks k v).map (·.1) = (putD kvs k d).map (·.1) ∧ RDs K f H ((putD kvs k d).map (·.2)) ((L2.putK ks k v).map (·.2)) := by
  have hany : ∀ {kvs : List (Ky × D)} {ks : List (L2.Key × L2.V)}, ks.map (·.1) = kvs.map (·.1) → (ks.any fun kv => decide (kv.1 = k)) = (kvs.any fun kv => decide (kv.1 = k)) := by
    intro kvs ks e
    have h1 : ∀ l : List (Ky × D), (l.any fun kv => decide (kv.1 = k)) = (l.map (·.1)).any fun x => decide (x = k) := fun l => by rw [List.any_map]; rfl
    have h2 : ∀ l : List (L2.Key × L2.V), (l.any fun kv => decide (kv.1 = k)) = (l.map (·.1)).any fun x => decide (x = k) := fun l => by rw [List.any_map]; rfl
    rw [h1, h2, e]
  have hmap : ∀ {kvs : List (Ky × D)} {ks : List (L2.Key × L2.V)}, ks.map (·.1) = kvs.map (·.1) → RDs K f H (kvs.map (·.2)) (ks.map (·.2)) →
      (ks.map fun kv => if kv.1 = k then (kv.1, v) else kv).map (·.1) = (kvs.map fun kv => if kv.1 = k then (kv.1, d) else kv).map (·.1) ∧ RDs K f H ((kvs.map fun kv => if kv.1 = k then (kv.1, d) else kv).map (·.2)) ((ks.map fun kv => if kv.1 = k then (kv.1, v) else kv).map (·.2)) := by
    intro kvs
    induction kvs with
    | nil => intro ks e r; cases ks with
      | nil => exact ⟨rfl, r⟩
      | cons _ _ => simp at e
    | cons p kvs ih =>
      intro ks e r
      cases ks with
      | nil => simp at e
      | cons q ks =>
        obtain ⟨k0, d0⟩ := p
        obtain ⟨k1, v1⟩ := q
        simp only [List.map_cons, List.cons.injEq] at e
        obtain ⟨e1, e2⟩ := e
        rw [List.map_cons, List.map_cons, RDs.cons] at r
        obtain ⟨u, rr, er, r1, r2⟩ := r
        injection er with er1 er2
        have e1 : k1 = k0 := e1
        subst e1
        obtain ⟨h1, h2⟩ := ih e2 (by rw [er2]; exact r2)
        by_cases hk : k1 = k
        · simp only [List.map_cons, hk, if_true]
          refine ⟨by rw [h1], ?_⟩
          rw [RDs.cons]; exact ⟨v, _, rfl, rv, h2⟩
        · simp only [List.map_cons, hk, if_false]
          refine ⟨by rw [h1], ?_⟩
          have er1 : v1 = u := er1
          subst er1
          rw [RDs.cons]; exact ⟨v1, _, rfl, r1, h2⟩
  unfold L2.putK putD
  rw [hany e]
  split
  · exact hmap e r
  · refine ⟨by rw [List.map_append, List.map_append, e]; rfl, ?_⟩
    rw [List.map_append, List.map_append]
    exact r.append (RDs.one rv)
theorem RelS.putDic {n : Nat} {a : Addr} {kvs kvs' : List (Ky × D)} {ks ks' : List (L2.Key × L2.V)} (s : RelS K f st H) (hn : f[n]? = some a) (h : Pd.rdD st n kvs) (hH : H a = some (.dK ks)) (e : ks'.map (·.1) = kvs'.map (·.1)) (r : RDs K f H (kvs'.map (·.2)) (ks'.map (·.2))) :
    RelS K f (st.set n (.dic kvs')) (L2.upd H a (.dK ks')) ∧ Ext K f H f (L2.upd H a (.dK ks')) :=
  s.chg (c := .dic kvs) h rfl hn (.inr (.inr (.inl ⟨ks, hH⟩))) rfl ⟨ks', L2.upd_same, e, r.mono (Ext.upd0 (.inr (.inr (.inl ⟨ks, hH⟩))))⟩
section
variable {o i a b e : Expr} {to ti ta tb te : TE} {pos : Pos}
theorem pd_dic : PD X (.Dict [] [] pos) dDic :=
  pe_imp L2.pe_dnewK fun σ H Q ⟨f, ρ, st, Q', R, h, l⟩ p hp => by
    obtain ⟨s', e⟩ := R.toRelS.new (o := .dK []) (c := .dic []) hp ⟨[], L2.upd_same, rfl, RDs.nil.mpr rfl⟩
    exact l _ _ _ _ _ h e s' (RD.ref.mpr ⟨p, by rw [← R.toRelS.len]; simp, rfl⟩)
theorem pd_get {k : Nat} (hr : L2.Room k X.A) (ho : PD X o to) (hi : PD X i ti) (hs : L2.NoSl i := by intro _ _; rfl) : PD X (.Subscript o i pos) (dGet to ti) :=
  pe_imp (L2.pe_dget (L2.hu_of hr) ho hi hs) fun σ H Q ⟨f, ρ, st, Q', R, h, l⟩ => ⟨f, ρ, st, _, R, h, fun x st1 v f1 H1 q1 e1 s1 r1 => ⟨f1, ρ, st1, _, R.later e1 s1, q1, fun y st2 w f2 H2 q2 e2 s2 r2 => by
    cases x <;> try (exact q2.elim)
    obtain ⟨kvs, k, d, h1, rfl, h3, h4⟩ := q2
    have r1' := r1.mono e2
    rw [RD.ref] at r1'
    obtain ⟨a, ea, rfl⟩ := r1'
    obtain ⟨a', ks, g1, g2, g3, g4⟩ := s2.rdD h1
    rw [ea] at g1; cases g1
    obtain ⟨v, g5, g6⟩ := vals_at g3 g4 k d h3
    obtain rfl := keyD_V r2
    exact ⟨a, v, rfl, by rw [← g5]; exact L2.DGet.k g2, l d st2 v f2 H2 h4 (e1.trans e2) s2 g6⟩⟩⟩
theorem pg_subD {k : Nat} (hr : L2.Room k X.A) (h1 : PD X o to) (h2 : PD X i ti) (ha : ∀ v, assign (.Subscript o i pos) X.env v = (do
      let ov ← holding [v] (eval o X.env)
      let iv ← holding [v, ov] (eval i X.env)
      standAt pos
      holding [v, ov, iv] (setItem ov iv v)
      release [v, ov, iv] []) := by intro _; rfl) : PDG X (.Subscript o i pos) (gSubD to ti) [] :=
  pg_imp (L2.pg_sub h1 h2 (L2.set_dict (L2.hu_of hr)) ha) fun v σ H Q ⟨f, ρ, st, d, Q', R, r, h, l⟩ => ⟨f, ρ, st, _, R, h, fun x st1 u f1 H1 q1 e1 s1 r1 => ⟨f1, ρ, st1, _, R.later e1 s1, q1, fun y st2 w f2 H2 q2 e2 s2 r2 => by
    cases x <;> try (exact q2.elim)
    obtain ⟨kvs, k, h3, rfl, h4, h5⟩ := q2
    have r1' := r1.mono e2
    rw [RD.ref] at r1'
    obtain ⟨a, ea, rfl⟩ := r1'
    obtain ⟨a', ks, g1, g2, g3, g4⟩ := s2.rdD h3
    rw [ea] at g1; cases g1
    obtain ⟨p1, p2⟩ := put_at (k := k) (r.mono (e1.trans e2)) g3 g4
    obtain ⟨s3, e3⟩ := s2.putDic ea h3 g2 p1 p2
    obtain rfl := keyD_V r2
    have hlen : ks.length < sizeLine := by
      have := congrArg List.length g3
      simp at this
      rw [this, ← szl_eq]; exact h4
    exact ⟨a, _, rfl, L2.DPut.k g2 hlen, l ρ _ σ f2 _ h5 ((e1.trans e2).trans e3) (R.later ((e1.trans e2).trans e3) s3) .refl⟩⟩⟩

theorem dc_core {wi : TI} {g : TG} {tt : TT} {tk tv : TE} {vs ws : List Nat} {Q : L2.VK} (hws : ∀ j, j ∈ ws → j ∈ vs) (h : lift K (dDc wi g tt tk tv vs) σ H Q) : L2.tDc (liftI K wi) (liftG K g ws) (liftT K tt) (lift K tk) (lift K tv) vs σ H Q := by
  obtain ⟨f, ρ, st, Q', R, h, l⟩ := h
  refine ⟨f, ρ, st, _, R, h, fun I st1 J f1 H1 q1 e1 s1 rI D hD => ?_⟩
  obtain ⟨s0, e0⟩ := s1.new (o := .dK []) (c := .dic []) hD ⟨[], L2.upd_same, rfl, RDs.nil.mpr rfl⟩
  have hn0 : (f1 ++ [D])[st1.length]? = some D := by rw [← s1.len]; simp
  refine ⟨fun i m H2 => m = I.items.length - i ∧ i ≤ I.items.length ∧ ∃ f2 st2 acc, Ext K (f1 ++ [D]) (L2.upd H1 D (.dK [])) f2 H2 ∧ RelS K f2 st2 H2 ∧ Pd.rdD st2 st1.length acc ∧ dcLoop I.guard g tt tk tv (wipeE ρ vs) st1.length Q' (I.items.drop i) acc st2,
    ⟨_, rfl, Nat.zero_le _, f1 ++ [D], st1 ++ [.dic []], [], .refl, s0, by unfold Pd.rdD; simp, by simpa using q1⟩, ?_⟩
  rintro i m H2 ⟨rfl, hi, f2, st2, acc, e2, s2, hacc, q2⟩
  have eI : Ext K f1 H1 f2 H2 := e0.trans e2
  by_cases hlt : i < I.items.length
  · have hd : I.items.drop i = I.items[i] :: I.items.drop (i + 1) := by rw [List.drop_eq_getElem_cons hlt]
    rw [hd] at q2
    obtain ⟨gd, q2⟩ := q2
    refine .inr ⟨rI.go i f2 st2 H2 eI s2 gd hlt, fun H3 => ∃ f3 st3 acc', Ext K (f1 ++ [D]) (L2.upd H1 D (.dK [])) f3 H3 ∧ RelS K f3 st3 H3 ∧ Pd.rdD st3 st1.length acc' ∧ dcLoop I.guard g tt tk tv (wipeE ρ vs) st1.length Q' (I.items.drop (i + 1)) acc' st3,
      fun H3 q3 => ⟨I.items.length - (i + 1), by omega, rfl, hlt, q3⟩, fun x H3 y => ?_⟩
    obtain ⟨e3, s3, r3⟩ := rI.yld i f2 st2 H2 I.items[i] x H3 eI s2 gd (by simp [hlt]) y
    have R3 : Rel K f2 (wipeE ρ vs) st2 (L2.wipe σ vs) H3 := (Rel.wipe R).later ((e1.trans eI).trans e3) s3
    refine ⟨f2, _, st2, I.items[i], _, R3, r3, q2, fun ρ4 st4 σ4 f4 H4 q4 e4 R4 o4 => ⟨Out.wipe ⟨o4.1, fun j hj => o4.2 j fun z => hj (hws j z)⟩, ?_⟩⟩
    refine ⟨f4, ρ4, st4, _, R4, q4, fun b st5 f5 H5 q5 e5 s5 => ?_⟩
    have e15 := e2.trans (e3.trans (e4.trans e5))
    cases b with
    | false =>
      obtain ⟨h1, h2⟩ := q5.2 rfl
      exact ⟨f5, st5, acc, e15, s5, h1, h2⟩
    | true =>
      refine ⟨f5, ρ4, st5, _, R4.later e5 s5, q5.1 rfl, fun y st6 v f6 H6 q6 e6 s6 r6 => ⟨f6, ρ4, st6, _, R4.later (e5.trans e6) s6, q6, fun z st7 w f7 H7 q7 e7 s7 r7 => ?_⟩⟩
      obtain ⟨k, rfl, h1, h2, h3⟩ := q7
      have e17 := (e15.trans e6).trans e7
      obtain ⟨a', ks, k1, k2, k3, k4⟩ := s7.rdD h1
      rw [e17.at hn0] at k1; cases k1
      obtain ⟨p1, p2⟩ := put_at (k := k) r7 k3 k4
      obtain ⟨s8, e8⟩ := s7.putDic (e17.at hn0) h1 k2 p1 p2
      obtain rfl := keyD_V r6
      have hlen : ks.length < sizeLine := by
        have := congrArg List.length k3
        simp at this
        rw [this, ← szl_eq]; exact h2
      refine ⟨ks, k, rfl, k2, hlen, f7, _, putD acc k z, e17.trans e8, s8, ?_, h3⟩
      have hl : st1.length < st7.length := (List.getElem?_eq_some_iff.mp h1).1
      unfold Pd.rdD
      rw [List.getElem?_set_self hl]
  · have e : i = I.items.length := by omega
    subst e
    rw [List.drop_length] at q2
    obtain ⟨gd, h1, h2⟩ := q2
    exact .inl ⟨rI.stop f2 st2 H2 eI s2 gd, l _ st2 _ f2 H2 h2 (e1.trans eI) s2 (RD.ref.mpr ⟨D, e2.at hn0, rfl⟩)⟩
theorem pd_dc {kx vx tg iter : Expr} {ifs : List Expr} {scope : Scope} {own : List (Str × Nat)} {wi : TI} {g : TG} {tt : TT} {tk tv : TE} {ws : List Nat} (hc : X.calm = true) (hN : X.N.Nodup) (hi : PDI X tg iter wi) (ok : L2.BlkOk X.N X.env.scope scope own)
    (hg : ∀ (s : Shared) (H : Hp) (C : Addr) (cl : List (Str × Addr)) (fp : List Addr), PDG (X.blk s H scope (compEnvC scope cl C X.env) fp) tg g ws) (ht : ∀ (s : Shared) (H : Hp) (C : Addr) (cl : List (Str × Addr)) (fp : List Addr), PDTs (X.blk s H scope (compEnvC scope cl C X.env) fp) ifs tt)
    (hk : ∀ (s : Shared) (H : Hp) (C : Addr) (cl : List (Str × Addr)) (fp : List Addr), PD (X.blk s H scope (compEnvC scope cl C X.env) fp) kx tk) (he : ∀ (s : Shared) (H : Hp) (C : Addr) (cl : List (Str × Addr)) (fp : List Addr), PD (X.blk s H scope (compEnvC scope cl C X.env) fp) vx tv)
    (hws : ∀ j, j ∈ ws → j ∈ own.map (·.2)) (hs : ∀ x, foldedSetIterable iter X.env x = pure x := by intro _; rfl) :
    PD X (.DictComp kx vx [⟨tg, iter, ifs, 0⟩] scope pos) (dDc wi g tt tk tv (own.map (·.2))) :=
  pe_imp (L2.pe_dc hc hN hi ok hg ht hk he hs) fun σ H Q h => dc_core hws h
end
end
section
open PySem.W PyProof.Rows
/-- the int that a key is -/
theorem int_key {i : Int} {v : Value} (h : L2.keyIs (.inl i) v = true) : ∃ t, v = .int i t := by
  rcases L2.keyIs_shape h with ⟨j, t, e1, e2⟩ | ⟨x, t, e1, _⟩
  · cases e1; exact ⟨t, e2⟩
  · cases e1
theorem ints_keys : ∀ {vs : List Value} {ns : List Int}, vs.length = ns.length → (∀ (j : Nat) (v : Value) (i : Int), vs[j]? = some v → ns[j]? = some i → ∃ t, v = .int i t) → IntsAre vs ns
  | [], [], _, _ => .nil
  | [], _ :: _, h, _ => by simp at h
  | _ :: _, [], h, _ => by simp at h
  | v :: vs, i :: ns, h, g => by
    obtain ⟨t, rfl⟩ := g 0 v i rfl rfl
    exact .cons i t (ints_keys (by simpa using h) fun j v i h1 h2 => g (j + 1) v i (by simpa using h1) (by simpa using h2))
theorem kv_keys {ks : List (L2.Key × L2.V)} {xs : List (L2.Key × Value)} (h : L2.KV ks xs) : xs.map (·.1) = ks.map (·.1) := by
  induction h with
  | nil => rfl
  | cons p _ ih => rw [List.map_cons, List.map_cons, ih, p.1]
def rSortedDK : List L2.V → Hp → L2.VK → Prop := fun vs H Q => ∃ (a : Addr) (ks : List (L2.Key × L2.V)) (ns : List Int), vs = [L2.V.ref a] ∧ H a = some (.dK ks) ∧ ks.map (·.1) = ns.map Sum.inl ∧
  ∀ (ns' : List Int) (p : Addr), ns'.Perm ns → ns'.Pairwise (· ≤ ·) → H p = none → Q (.ref p) (L2.upd H p (.lst (ns'.map L2.V.int)))
theorem cr_sortedDK {X : L2.Cx} (hc : X.calm = true) : L2.CallR X (.builtin "sorted") rSortedDK := by
  intro pins s σ H vs us Q I r h
  obtain ⟨a, ks, ns, rfl, ha, hk, q⟩ := h
  have held := I.ok.hd hc
  rw [L2.Vals.ref1 r]
  obtain ⟨size, other, xs, rel, dict⟩ := L2.dk_rd I.hok (.inl ha)
  obtain ⟨ep, there⟩ := dict.dictAt
  have keys := (kv_keys rel).trans hk
  have many : xs.length = ns.length := by simpa using congrArg List.length keys
  have few : xs.length ≤ sizeLine := by
    have := congrArg List.length (kv_keys rel)
    simp at this
    omega
  have source := kdl_dict (prog := X.prog) (w := X.w) (knd := L2.mixKind X.prog X.w) (d := a) (kvs := xs) (ep := ep) other
  refine Calls.call_function_entry kind_sorted plain_sorted entry_sorted (args_sorted1 _) ?_
  unfold Builtin.«sorted»
  refine wpAny_bind (m := checkCount "sorted" 1 1 _) (wpAny_pure (wpAny_bind (kdu_collect (A := X.A.in1) source held there few fun h1 t1 acc old items => ?_)))
  have long : acc.toList.length = xs.length := by rw [Array.length_toList]; exact items.1
  have nums : IntsAre acc.toList ns := ints_keys (by rw [long, many]) fun j v i hv hi => by
    obtain ⟨k, x, hx, is⟩ := items.2 j v (by rw [← Array.getElem?_toList]; exact hv)
    have e : (xs.map (·.1))[j]? = some k := by rw [List.getElem?_map, hx]; rfl
    rw [keys, List.getElem?_map, hi] at e
    cases e
    exact int_key is
  refine wpAny_bind (wpAny_newList ?_ (by rw [long]; exact few))
  have made : (h1.push (seqObj "list" acc.toList.toArray 0)).get? h1.objs.size = some (seqObj "list" acc.toList.toArray 0) := Heap.get?_push_size _ rfl
  have sort := SrtO.list_sort_ord (prog := X.prog) (w := X.w) (A := X.A.in1.in1) (s := { s with heap := h1.push (seqObj "list" acc.toList.toArray 0), toks := t1 }) (E := X.xe) (vs := acc.toList)
    (R := fun fin s' => ∃ out : List Value, fin = .done (.ret .none) ∧ SrtO.Srtd SrtO.ltIv out ∧ SrtO.Stb SrtO.ltIv out acc.toList ∧ s' = { s with heap := sortedHeap (h1.push (seqObj "list" acc.toList.toArray 0)) h1.objs.size acc.toList out.toArray, toks := t1 })
    SrtO.swo_int made (by rw [long]; exact few) (fun two => SrtO.ints_sortable nums two) fun out g1 g2 => ⟨out, rfl, g1, g2, rfl⟩
  refine wpAny_bind (wpAny_holding (wpAny_call_entry slot_list_sort ⟨_, made, rfl⟩ entry_list_sort (wpAny_mono sort (fun fin s' ⟨out, e1, g1, g2, e2⟩ => ?_) fun _ _ z => z) (args_list_sort _)))
  subst e1; subst e2
  refine ⟨_, rfl, wpAny_pure ⟨_, rfl, ?_⟩⟩
  obtain ⟨k1, k2, k3⟩ := SrtO.ints_out nums g1 g2
  obtain ⟨ep', at'⟩ := sortedHeap_at (vs := acc.toList) (out := out.toArray) made
  have I1 : L2.Inv X pins σ H { s with heap := h1, toks := t1 } := I.kept (t' := t1) old
  have small : ((out.map SrtO.iv).map L2.V.int).length ≤ sizeLine := by
    rw [List.length_map, k2.length_eq, ← many]; exact few
  refine ⟨.ref h1.objs.size, L2.upd H h1.objs.size (.lst ((out.map SrtO.iv).map L2.V.int)), I1.laid (t' := t1) (fun b u z1 => ?_) (Nat.le_refl _) ⟨small, out, ep', L2.vals_of_ints k1, at'⟩, rfl, q _ _ k2 k3 (I1.hok.fresh (Nat.le_refl _))⟩
  have z2 := Heap.lt_size z1
  rw [sortedHeap_old (Nat.ne_of_lt z2) (by rw [size_push']; exact Nat.lt_succ_of_lt z2)]
  exact Heap.get?_push_of_some _ z1
theorem real_sortedDB {K : Kf} : RealB K rSortedDK sortedDB :=
  realB1 (kb1 (fun _ _ h => h) fun x y xs st Q h => by cases x <;> exact h) fun f st H x v Q' Q s r h l => by
    cases x <;> try (exact h.elim)
    rw [RD.ref] at r
    obtain ⟨a, e, rfl⟩ := r
    obtain ⟨kvs, ns, h1, h2, h3⟩ := h
    obtain ⟨a', ks, k1, k2, k3, k4⟩ := s.rdD h1
    rw [e] at k1; cases k1
    exact ⟨a, ks, ns, rfl, k2, k3.trans h2, fun ns' p hp hi hn => l.lst s (h3 ns' hp hi) (RDs.of_ints ns') hn⟩
end
section
variable {X : L2.Cx} {K : Kf} {pos : Pos}
open L2 in
/-- y = {k: v for ..}: the name is written within the comprehension's frame -/
theorem asg_dc {i : Nat} {y : Str} {py line : Pos} {kx vx tg iter : Expr} {ifs : List Expr} {scope : Scope} {own : List (Str × Nat)} {wi : L2.TI} {g : L2.TG} {tt : L2.TT} {tk tv : L2.TE} (calm : X.calm = true) (nd : X.N.Nodup) (slot : X.N[i]? = some y) (local' : X.env.scope.names.lookup y = some .local)
    (sw : swapsWith (.DictComp kx vx [⟨tg, iter, ifs, 0⟩] scope pos) (some (.Name y py)) line.line X.env = pure true) (hi : L2.PI X tg iter wi) (ok : L2.BlkOk X.N X.env.scope scope own)
    (hg : ∀ (s : Shared) (H : Hp) (C : Addr) (cl : List (Str × Addr)) (fp : List Addr), L2.PG (X.blk s H scope (compEnvC scope cl C X.env) fp) tg g)
    (ht : ∀ (s : Shared) (H : Hp) (C : Addr) (cl : List (Str × Addr)) (fp : List Addr), L2.PTs (X.blk s H scope (compEnvC scope cl C X.env) fp) ifs tt)
    (hk : ∀ (s : Shared) (H : Hp) (C : Addr) (cl : List (Str × Addr)) (fp : List Addr), L2.PE (X.blk s H scope (compEnvC scope cl C X.env) fp) kx tk)
    (hv : ∀ (s : Shared) (H : Hp) (C : Addr) (cl : List (Str × Addr)) (fp : List Addr), L2.PE (X.blk s H scope (compEnvC scope cl C X.env) fp) vx tv) (fold : ∀ x, foldedSetIterable iter X.env x = pure x := by intro _; rfl) :
    L2.PS X (.Assign [.Name y py] (.DictComp kx vx [⟨tg, iter, ifs, 0⟩] scope pos) line) (fun D σ H => L2.tDc wi g tt tk tv (own.map (·.2)) σ H fun x H1 => L2.gName i x σ H1 D.nx) := by
  constructor
  intro pins s σ H D I want
  rw [exec_Assign_Name_used _ _ _ _ sw]
  have made := L2.dc_core (pos := pos) (use := some (assign (.Name y py) X.env)) (pos' := firstIterPos [⟨tg, iter, ifs, 0⟩] pos) (Qf := fun _ s' => L2.SP X pins D .next s') calm nd I hi ok hg ht hk hv fold want fun L C s1 m H1 I1 at' ns ⟨fr0, fr1, fr2, fr3, fr4, fr5⟩ => by
    show wpAny _ _ (assign (.Name y py) X.env (.ref L)) _ _ _
    refine wpAny_assign_Name (L2.store_ok2 (v := L2.V.ref L) I1 nd slot (.inl local') rfl (fun s2 I2 ⟨b, same, where'⟩ => ?_) (.inr local'))
    have apart : C ≠ b := where'.elim (fun z => by rw [z]; exact fr1) fun z e => fr4 y b z e.symm
    exact ⟨m, ns.sameBut same apart, fun h3 sb3 => ⟨_, H1, I2.turned (t' := s2.toks) (fun c o hc z => (sb3.2 c hc).trans z) fr0 fr1 fr3 fr4 fr5, at'⟩⟩
  refine wpAny_bind (wpAny_standAt (wpAny_bind ?_))
  show wpAny _ X.A (comprehension (.DictComp kx vx [⟨tg, iter, ifs, 0⟩] scope pos) scope X.env (firstIterPos [⟨tg, iter, ifs, 0⟩] pos) newDict false (eval iter X.env) (some (assign (.Name y py) X.env)) >>= fun _ => pure ()) _ _ s
  exact wpAny_bind (wpAny_mono made (fun _ s' q => wpAny_pure (wpAny_pure q)) fun _ _ z => z)
theorem swD_true {kx vx : Expr} {gs : List Comprehension} {scope : Scope} {py : Pos} {y : Str} {l : Nat} {env : PySem.Env} (kind : env.scope.kind = .function) (loc : env.scope.names.lookup y = some .local) (at' : (py.line == pos.line) = true)
    (free : (scope.names.any fun (n, k) => n == y && (k == .local || k == .cell)) = false) : swapsWith (.DictComp kx vx gs scope pos) (some (.Name y py)) l env = pure true := by
  have k1 : env.kindOf y = some .local := loc
  have k2 : env.blockKind = .function := by unfold PySem.Env.blockKind; rw [kind]; rfl
  unfold swapsWith
  simp only [k1, k2, free, Expr.pos, at']
  rfl
theorem ps_setDc {j : Nat} {y : Str} {py spos : Pos} {kx vx tg iter : Expr} {ifs : List Expr} {scope : Scope} {own : List (Str × Nat)} {wi : TI} {g : TG} {tt : TT} {tk tv : TE} {ws : List Nat} (hc : X.calm = true) (hN : X.N.Nodup) (hy : X.N[j]? = some y) (hyl : X.env.scope.names.lookup y = some .local)
    (hsw : swapsWith (.DictComp kx vx [⟨tg, iter, ifs, 0⟩] scope pos) (some (.Name y py)) spos.line X.env = pure true) (hi : PDI X tg iter wi) (ok : L2.BlkOk X.N X.env.scope scope own)
    (hg : ∀ (s : Shared) (H : Hp) (C : Addr) (cl : List (Str × Addr)) (fp : List Addr), PDG (X.blk s H scope (compEnvC scope cl C X.env) fp) tg g ws) (ht : ∀ (s : Shared) (H : Hp) (C : Addr) (cl : List (Str × Addr)) (fp : List Addr), PDTs (X.blk s H scope (compEnvC scope cl C X.env) fp) ifs tt)
    (hk : ∀ (s : Shared) (H : Hp) (C : Addr) (cl : List (Str × Addr)) (fp : List Addr), PD (X.blk s H scope (compEnvC scope cl C X.env) fp) kx tk) (he : ∀ (s : Shared) (H : Hp) (C : Addr) (cl : List (Str × Addr)) (fp : List Addr), PD (X.blk s H scope (compEnvC scope cl C X.env) fp) vx tv)
    (hws : ∀ j, j ∈ ws → j ∈ own.map (·.2)) (hs : ∀ x, foldedSetIterable iter X.env x = pure x := by intro _; rfl) :
    PDS X (.Assign [.Name y py] (.DictComp kx vx [⟨tg, iter, ifs, 0⟩] scope pos) spos) (sAsg (dDc wi g tt tk tv (own.map (·.2))) (gName j)) :=
  ps_imp (asg_dc hc hN hy hyl hsw hi ok hg ht hk he hs) fun D σ H ⟨f, ρ, st, D', R, h, l⟩ =>
    dc_core (Q := fun x H1 => L2.gName j x σ H1 D.nx) hws ⟨f, ρ, st, _, R, h, fun x st1 v f1 H1 q e1 s1 r1 => l.nx _ st1 _ f1 H1 q e1 ((R.later e1 s1).put r1)⟩
end
end Pd
end PartPdSoundI

section PartPdMore3
set_option Elab.async false
set_option linter.all false
set_option maxRecDepth 100000
/-! Pd: more readings: list.extend of lists and tuples, list.pop(), list.reverse(), range downwards. Own work. -/
namespace Pd
open PySem
/-- extend by a list or a tuple -/
def extendAM : KM
  | .ref n, [.tup ys], st, Q => ∃ xs, rdL st n xs ∧ xs.length + ys.length ≤ szl ∧ Q .non (st.set n (.lst (xs ++ ys)))
  | x, ys, st, Q => extendM x ys st Q
/-- .pop() -/
def popEM : KM
  | .ref n, [], st, Q => ∃ xs d, rdL st n (xs ++ [d]) ∧ Q d (st.set n (.lst xs))
  | _, _, _, _ => False
def reverseM : KM
  | .ref n, [], st, Q => ∃ xs, rdL st n xs ∧ Q .non (st.set n (.lst xs.reverse))
  | _, _, _, _ => False
/-- a method without arguments -/
def dM0 (ty : D → Store → Prop) (k : KM) (to : TE) : TE := fun σ st Q => to σ st fun o st1 => ty o st1 ∧ k o [] st1 Q
def rngD (hi : Int) (n : Nat) : List D := (List.range n).map fun (k : Nat) => D.int (hi - k)
/-- range(i, j, -1) -/
def iRD (t u : TE) : TI := fun σ st R => t σ st fun x st1 => u σ st1 fun y st2 => ∃ i j, x = .int i ∧ y = .int j ∧ (-(2 ^ 62) ≤ i ∧ i < 2 ^ 62 ∧ -(2 ^ 62) ≤ j ∧ j < 2 ^ 62) ∧ R ⟨rngD i (i - j).toNat, fun _ => True⟩ st2
section
variable {σ : Env} {st : Store} {Q : K} {ta tb to : TE} {ty : D → Store → Prop} {k : KM}
instance : Red (dM0 ty k to σ st Q) (to σ st fun o st1 => ty o st1 ∧ k o [] st1 Q) := ⟨id⟩
instance {R : Iter → Store → Prop} : Red (iRD ta tb σ st R) (ta σ st fun x st1 => tb σ st1 fun y st2 => ∃ i j, x = .int i ∧ y = .int j ∧ (-(2 ^ 62) ≤ i ∧ i < 2 ^ 62 ∧ -(2 ^ 62) ≤ j ∧ j < 2 ^ 62) ∧ R ⟨rngD i (i - j).toNat, fun _ => True⟩ st2) := ⟨id⟩
end
theorem extendT_at {st : Store} {n : Nat} {xs ys : List D} {Q : K} (h : rdL st n xs) (hl : xs.length + ys.length ≤ szl) (q : Q .non (st.set n (.lst (xs ++ ys)))) : extendAM (.ref n) [.tup ys] st Q := ⟨xs, h, hl, q⟩
theorem pop_at {st : Store} {n : Nat} {xs : List D} {d : D} {Q : K} (h : rdL st n (xs ++ [d])) (q : Q d (st.set n (.lst xs))) : popEM (.ref n) [] st Q := ⟨xs, d, h, q⟩
/-- over range(i, j, -1) -/
theorem for_rngD {gd : Store → Prop} {g : TG} {tb : TS} {D0 : Ends} {hi : Int} {n : Nat} {σ : Env} {st : Store} (Pv : Nat → Env → Store → Prop) (h0 : Pv 0 σ st)
    (hs : ∀ k σ st, k < n → Pv k σ st → ∀ N : Env → Store → Prop, (∀ σ st, Pv (k + 1) σ st → N σ st) → gd st ∧ g (.int (hi - k)) σ st fun σ2 st2 => tb { D0 with nx := N, ct := N, bk := D0.nx } σ2 st2)
    (hd : ∀ σ st, Pv n σ st → gd st ∧ D0.nx σ st) : forLoop gd g tb D0 (rngD hi n) σ st := by
  refine for_by (fun pre σ st => Pv pre.length σ st) h0 (fun pre x post σ st e h N hN => ?_) (fun σ st h => hd σ st (by simpa [rngD] using h))
  have hl : pre.length < n := by
    have := congrArg List.length e
    simp [rngD] at this
    omega
  have hx : x = .int (hi - pre.length) := by
    have h2 : (rngD hi n)[pre.length]? = some x := by rw [e]; simp
    unfold rngD at h2
    rw [List.getElem?_map, List.getElem?_range hl] at h2
    simpa using h2.symm
  subst hx
  exact hs pre.length σ st hl h N fun σ st h' => hN σ st (by simpa using h')
end Pd
end PartPdMore3

section PartPdSoundK
set_option Elab.async false
set_option linter.all false
set_option maxRecDepth 100000
set_option maxHeartbeats 1000000
/-! Pd over the hand layer: list.extend, list.pop(), list.reverse(), range downwards. Own work. -/
namespace Pd
open PySem PySem.Spec
section
variable {X : L2.Cx} {K : Kf} {f f' : List Addr} {H H' : Hp} {st st' : Store} {ρ : Env} {σ : L2.St}
def rExtT (K : Kf) : L2.V → List L2.V → Hp → L2.VK → Prop := fun x vs H Q => ∃ l b xs zs, x = .ref l ∧ vs = [.ref b] ∧ H l = some (.lst xs) ∧ L2.SqT K H b zs ∧ xs.length + zs.length ≤ sizeLine ∧ Q .non (L2.upd H l (.lst (xs ++ zs)))
section
open PyProof.Rows L2
theorem list_extend_tup (l : Addr) (items : Array Value) (n : Nat) (b : Addr) (items2 : Array Value) (hs0 : ¬(!items.isEmpty && Builtin.List.listTooLong (items.size + items2.size)) = true) (hs1 : items.size ≤ sizeLine) (hs2 : items.size + items2.size ≤ sizeLine + 1) :
    Meets (Builtin.«list.extend» ⟨[.ref l, .ref b], []⟩) (fun _ R s => s.heap.get? l = some { cls := .type "list", dict := none, data := .seq items n, slots := #[] } ∧ (∃ (od : Option Addr) (os2 : Array (Option Value)) (n2 : Nat), s.heap.get? b = some { cls := .type "tuple", dict := od, data := .seq items2 n2, slots := os2 }) ∧ R (.ok (.ret Value.none)) { s with heap := s.heap.update l (Obj.mapSeq fun x => x ++ items2), toks := s.toks }) :=
  .of_wp fun prog w A R s h => by
    obtain ⟨hp, g, d, tk, os⟩ := s; obtain ⟨hl, ⟨od, os2, n2, hb⟩, h⟩ := h
    have f1 := AutoSeq1.idx_int; have f2 := AutoSeq1.sub_tuple_tuple; have f3 := AutoSeq1.sub_list_list; have f4 := AutoSeq1.sub_tuple_list; have f5 := AutoSeq1.sub_list_tuple
    have hz' : (items ++ items2).size ≤ sizeLine + 1 := by rw [Array.size_append]; exact hs2
    wp_walk using (wpAny_updateSeq hl rfl (hz := hs1) (_hz' := hz')), AutoSeq1.wpAny_loadPart' hl, AutoSeq1.wpAny_loadPart' hb; exact ⟨_, rfl, h⟩
end
theorem mt_extT : L2.MtR X "list.extend" (rExtT X.K) := by
  intro pins s σ H x vs v us Q I rx rv h
  obtain ⟨l, b, xs, zs, rfl, rfl, hH, hB, hz, q⟩ := h
  cases rx
  obtain ⟨u, rfl, ru⟩ := rv.one
  cases ru
  obtain ⟨z, its, n, r, hl, e⟩ := I.lstM hH
  obtain ⟨its2, r2, ⟨o2, e2, c2, n2, d2⟩, z2⟩ := I.tuple hB
  have hl2 := r2.length
  obtain ⟨ocls, odict, odata, oslots⟩ := o2
  simp only at c2 d2
  subst c2; subst d2
  have hsz : its.toArray.size + its2.toArray.size ≤ sizeLine := by rw [List.size_toArray, List.size_toArray]; omega
  have hlong : ¬ (!its.toArray.isEmpty && Builtin.List.listTooLong (its.toArray.size + its2.toArray.size)) = true := by
    rw [L2.notLongL hsz, Bool.and_false]
    exact Bool.false_ne_true
  refine call_meets F.slot_list_extend ⟨_, e, rfl⟩ F.entry_list_extend (F.args_list_extend_2 _ _)
    (list_extend_tup l its.toArray n b its2.toArray hlong (by rw [List.size_toArray]; omega) (by omega)) ⟨e, ⟨odict, oslots, n2, e2⟩, ?_⟩
  refine ⟨.non, _, I.lset (its' := its ++ its2) hH e (by simp) (r.append r2) ?_, rfl, q⟩
  rw [List.length_append]
  omega
theorem real_extendA : RealM K (fun x vs H Q => rExtT K x vs H Q ∨ L2.rExtend x vs H Q) extendAM := fun f st H x xs v vs Q' Q s r1 r2 h l => by
  by_cases ht : ∃ n ys, x = .ref n ∧ xs = [.tup ys]
  · obtain ⟨n, ys, rfl, rfl⟩ := ht
    obtain ⟨zs, h1, h2, h3⟩ := h
    rw [RD.ref] at r1
    obtain ⟨a, e, rfl⟩ := r1
    obtain ⟨w, rfl, r3⟩ := r2.inv1
    rw [RD.tup] at r3
    obtain ⟨b, ws, rfl, j2, j3⟩ := r3
    obtain ⟨a', us, k1, k2, k3⟩ := s.rdL h1
    rw [e] at k1; cases k1
    obtain ⟨s', e'⟩ := s.put e h1 k2 (k3.append j3)
    exact .inl ⟨a, b, us, ws, rfl, rfl, k2, j2, by rw [k3.length, j3.length, ← szl_eq]; exact h2, l _ _ _ f _ h3 e' s' (RD.non.mpr rfl)⟩
  · have h' : extendM x xs st Q' := by
      unfold extendAM at h
      split at h
      · exact absurd ⟨_, _, rfl, rfl⟩ ht
      · exact h
    exact .inr (real_extend f st H x xs v vs Q' Q s r1 r2 h' l)
theorem mt_extendA : L2.MtR X "list.extend" (fun x vs H Q => rExtT X.K x vs H Q ∨ L2.rExtend x vs H Q) := L2.MtR.or mt_extT L2.mt_extend
theorem real_popE : RealM K L2.rPop popEM := fun f st H x xs v vs Q' Q s r1 r2 h l => by
  cases x <;> try (exact h.elim)
  match xs, h with
  | _ :: _, h => exact h.elim
  | [], h =>
    obtain ⟨ys, d, h1, h2⟩ := h
    rw [RD.ref] at r1
    obtain ⟨a, e, rfl⟩ := r1
    rw [RDs.nil] at r2
    subst r2
    obtain ⟨a', us, k1, k2, k3⟩ := s.rdL h1
    rw [e] at k1; cases k1
    have hlen := k3.length
    rw [List.length_append] at hlen
    have hlen : us.length = ys.length + 1 := hlen
    obtain ⟨w, hw, rw'⟩ := k3.get (i := ys.length) (d := d) (by simp)
    have kd : RDs K f H ys us.dropLast := by
      have := k3.take ys.length
      rw [List.take_left] at this
      rw [List.dropLast_eq_take, hlen]
      exact this
    obtain ⟨s', e'⟩ := s.put e h1 k2 kd
    exact ⟨a, us, w, rfl, rfl, k2, by rw [hlen]; exact hw, l _ _ _ f _ h2 e' s' (rw'.mono e')⟩
theorem RDs.reverse : ∀ {ds : List D} {vs : List L2.V}, RDs K f H ds vs → RDs K f H ds.reverse vs.reverse
  | [], _, h => by rw [RDs.nil] at h; subst h; simp [RDs.nil]
  | d :: ds, _, h => by
    rw [RDs.cons] at h
    obtain ⟨v, r, rfl, h2, h3⟩ := h
    rw [List.reverse_cons, List.reverse_cons]
    exact (RDs.reverse h3).append (RDs.one h2)
theorem real_reverse : RealM K L2.rReverse reverseM := fun f st H x xs v vs Q' Q s r1 r2 h l => by
  cases x <;> try (exact h.elim)
  match xs, h with
  | _ :: _, h => exact h.elim
  | [], h =>
    obtain ⟨ys, h1, h2⟩ := h
    rw [RD.ref] at r1
    obtain ⟨a, e, rfl⟩ := r1
    rw [RDs.nil] at r2
    subst r2
    obtain ⟨a', us, k1, k2, k3⟩ := s.rdL h1
    rw [e] at k1; cases k1
    obtain ⟨s', e'⟩ := s.put e h1 k2 k3.reverse
    exact ⟨a, us, rfl, rfl, k2, l _ _ _ f _ h2 e' s' (RD.non.mpr rfl)⟩
section
variable {o : Expr} {to : TE} {pos apos : Pos} {name : Str} {T id : String}
theorem pd_m0 {r : L2.V → List L2.V → Hp → L2.VK → Prop} {k : KM} {ty : D → Store → Prop} (hm : L2.MtR X id r) (hk : RealM X.K r k) (ht : RealTy X.K T ty) (pa : PlainAttrs T) (slot : Slot T name id) (hty : typeOf (.builtin id) = pure (.type "method_descriptor")) (ho : PD X o to)
    (hbase : attributeBase o name X.env (eval o X.env) = eval o X.env := by rfl) (hline : (apos.endLine == pos.line) = true := by rfl) : PD X (.Call (.Attribute o name apos) [] [] pos) (dM0 ty k to) :=
  pe_imp (L2.pe_bm0 pa slot hty hm ho hbase hline) fun σ H Q ⟨f, ρ, st, Q', R, h, l⟩ => ⟨f, ρ, st, _, R, h, fun x st1 v f1 H1 q1 e1 s1 r1 => ⟨ht f1 st1 H1 x v s1 r1 q1.1, hk f1 st1 H1 x [] v [] Q' Q s1 r1 (RDs.nil.mpr rfl) q1.2 (l.later e1)⟩⟩
end
theorem realI_rngD {i : Int} {n : Nat} : RealI K f H ⟨rngD i n, fun _ => True⟩ (L2.Itc i (-1) n) where
  go := fun k f2 st2 H2 e2 s2 g hk => by
    have : k < (rngD i n).length := hk
    unfold rngD at this
    rw [List.length_map, List.length_range] at this
    exact this
  stop := fun f2 st2 H2 e2 s2 g => by
    show n ≤ (rngD i n).length
    unfold rngD
    simp
  yld := fun k f2 st2 H2 d x H3 e2 s2 g hd y => by
    obtain ⟨rfl, rfl⟩ := y
    refine ⟨.refl, s2, ?_⟩
    have hd' : (rngD i n)[k]? = some d := hd
    unfold rngD at hd'
    rw [List.getElem?_map] at hd'
    cases q : (List.range n)[k]? with
    | none => rw [q] at hd'; cases hd'
    | some j =>
      rw [q] at hd'
      obtain ⟨h1, h2⟩ := List.getElem?_eq_some_iff.mp q
      simp at h2
      subst h2
      simp at hd'
      subst hd'
      rw [RD.int]
      congr 1
      omega
theorem pi_rD {tg a b : Expr} {ta tb : TE} {p p1 p2 pos : Pos} {k1 : _} (hg : L2.Gl X "range") (hm : X.mg "range" = none) (h : PD X a ta) (h' : PD X b tb)
    (hs : starEach [a, b, .UnaryOp .USub (.Constant (.int 1) k1 p1) p2] X.env = (false, eval a X.env) :: starEach [b, .UnaryOp .USub (.Constant (.int 1) k1 p1) p2] X.env := by rfl) (hs2 : starEach [b, .UnaryOp .USub (.Constant (.int 1) k1 p1) p2] X.env = (false, eval b X.env) :: starEach [.UnaryOp .USub (.Constant (.int 1) k1 p1) p2] X.env := by rfl)
    (hs3 : starEach [.UnaryOp .USub (.Constant (.int 1) k1 p1) p2] X.env = (false, eval (.UnaryOp .USub (.Constant (.int 1) k1 p1) p2) X.env) :: starEach [] X.env := by rfl) (hpl : (backTo pos (starEach [b, .UnaryOp .USub (.Constant (.int 1) k1 p1) p2] X.env)).any (·.1) = false := by rfl) :
    PDI X tg (.Call (.Name "range" p) [a, b, .UnaryOp .USub (.Constant (.int 1) k1 p1) p2] [] pos) (iRD ta tb) :=
  pi_imp (L2.pi_range3 hg hm (L2.pa_cons h (L2.pa_cons h' (L2.pa_cons (pd_neg pd_int) L2.pa_nil hs3) hs2) hs) hs hpl) fun σ H R ⟨f, ρ, st, R', Re, h, l⟩ => ⟨f, ρ, st, _, Re, h, fun x st1 v f1 H1 q1 e1 s1 r1 => ⟨f1, ρ, st1, _, Re.later e1 s1, q1, fun y st2 w f2 H2 q2 e2 s2 r2 => by
    obtain ⟨i, j, rfl, rfl, ⟨b1, b2, b3, b4⟩, h3⟩ := q2
    have r1' := r1.mono e2
    rw [RD.int] at r1' r2
    subst r1'; subst r2
    refine ⟨f2, ρ, st2, fun z st3 => z = .int (-1) ∧ st3 = st2, Re.later (e1.trans e2) s2, ⟨rfl, rfl⟩, fun z st3 u f3 H3 q3 e3 s3 r3 => ?_⟩
    obtain ⟨rfl, rfl⟩ := q3
    rw [RD.int] at r3
    subst r3
    exact ⟨i, j, -1, _, rfl, L2.RgC.neg b1 b2 b3 b4, l _ _ _ f3 H3 h3 ((e1.trans e2).trans e3) s3 realI_rngD⟩⟩⟩
end
end Pd
end PartPdSoundK

section PartPdMore4
set_option Elab.async false
set_option linter.all false
set_option maxRecDepth 100000
/-! Pd: more readings: *x in a call's arguments, `in` of any pure data. Own work. -/
namespace Pd
open PySem
/-- the items of a list or a tuple, as arguments -/
def starK : D → Store → (List D → Prop) → Prop
  | .tup xs, _, Q => Q xs
  | .ref n, st, Q => ∃ xs, rdA st n xs ∧ Q xs
  | _, _, _ => False
def aStar (te : TE) (r : TA) : TA := fun σ st Q => te σ st fun x st1 => starK x st1 fun xs => r σ st1 fun ys st2 => Q (xs ++ ys) st2
/-- x in a list or a tuple, of any pure data -/
def inDC : KC
  | x, .tup xs, _, Q => D.okd 60 x = true ∧ okds 60 xs = true ∧ Q (xs.any fun y => D.eqb y x)
  | x, .ref n, st, Q => ∃ xs, rdA st n xs ∧ D.okd 60 x = true ∧ okds 60 xs = true ∧ Q (xs.any fun y => D.eqb y x)
  | _, _, _, _ => False
def notinDC : KC := fun x y st Q => inDC x y st fun b => Q (!b)
section
variable {σ : Env} {st : Store} {te : TE} {r : TA} {q : List D → Store → Prop} {x : D} {xs : List D}
instance : Red (aStar te r σ st q) (te σ st fun x st1 => starK x st1 fun xs => r σ st1 fun ys st2 => q (xs ++ ys) st2) := ⟨id⟩
instance {Q : List D → Prop} : Red (starK (.tup xs) st Q) (Q xs) := ⟨id⟩
end
theorem star_at {st : Store} {n : Nat} {xs : List D} {Q : List D → Prop} (h : rdL st n xs) (q : Q xs) : starK (.ref n) st Q := ⟨xs, .inl h, q⟩
end Pd
end PartPdMore4

section PartPdSoundL
set_option Elab.async false
set_option linter.all false
set_option maxRecDepth 100000
set_option maxHeartbeats 1000000
/-! Pd over the hand layer: starred arguments, `in` of any pure data. Own work. -/
namespace Pd
open PySem PySem.Spec
mutual
theorem reads_fun {h : Heap} : ∀ (d d' : PyData) (v : Value) (as as' : List Addr), d.canLay0 = true → Reads h v d as → Reads h v d' as' → d = d'
  | .none, _, _, _, _, _, r, r' => by cases r; cases r'; rfl
  | .bool _, _, _, _, _, _, r, r' => by cases r; cases r'; rfl
  | .int _, _, _, _, _, _, r, r' => by cases r; cases r'; rfl
  | .str _, _, _, _, _, _, r, r' => by cases r; cases r'; rfl
  | .list xs, d', _, _, _, ha, r, r' => by
    cases r with
    | list h1 h2 h3 h4 =>
      cases r' with
      | list k1 k2 k3 k4 =>
        rw [h1] at k1; cases k1
        rw [h3] at k3; cases k3
        rw [readsAll_fun xs _ _ _ _ (by simpa [PyData.canLay0] using ha) h4 k4]
      | tuple k1 k2 k3 k4 =>
        rw [h1] at k1; cases k1
        rw [h2] at k2; exact absurd k2 (by decide)
      | dict k1 k2 k3 k4 k5 =>
        rw [h1] at k1; cases k1
        rw [h2] at k2; exact absurd k2 (by decide)
  | .tuple xs, d', _, _, _, ha, r, r' => by
    cases r with
    | tuple h1 h2 h3 h4 =>
      cases r' with
      | tuple k1 k2 k3 k4 =>
        rw [h1] at k1; cases k1
        rw [h3] at k3; cases k3
        rw [readsAll_fun xs _ _ _ _ (by simpa [PyData.canLay0] using ha) h4 k4]
      | list k1 k2 k3 k4 =>
        rw [h1] at k1; cases k1
        rw [h2] at k2; exact absurd k2 (by decide)
      | dict k1 k2 k3 k4 k5 =>
        rw [h1] at k1; cases k1
        rw [h2] at k2; exact absurd k2 (by decide)
  | .dict _, d', _, _, _, ha, _, _ => absurd ha (by simp [PyData.canLay0])
theorem readsAll_fun {h : Heap} : ∀ (xs ys : List PyData) (vs : List Value) (as as' : List Addr), PyData.canLayAll0 xs = true → ReadsAll h vs xs as → ReadsAll h vs ys as' → xs = ys
  | [], _, _, _, _, _, r, r' => by cases r; cases r'; rfl
  | x :: xs, ys, _, _, _, ha, r, r' => by
    cases r with
    | cons h1 h2 =>
      cases r' with
      | cons k1 k2 =>
        have ha' : x.canLay0 = true ∧ PyData.canLayAll0 xs = true := by simpa [PyData.canLayAll0] using ha
        rw [reads_fun x _ _ _ _ ha'.1 h1 k1, readsAll_fun xs _ _ _ _ ha'.2 h2 k2]
end
/-- x in a list or a tuple, of any data -/
def rInD (K : Kf) (neg : Bool) : L2.R2 := fun x y H Q => ∃ p xs d es, y = .ref p ∧ (L2.SqL K H p xs ∨ L2.SqT K H p xs) ∧ L2.Dp K H x d ∧ L2.DpAll K H xs es ∧ (d.canLay0 = true ∧ d.depth ≤ 60) ∧ PyData.canLayAll0 es = true ∧ Q (.bl (if neg then !es.any (fun e => PyData.eqv e d) else es.any fun e => PyData.eqv e d)) H
theorem canLay_mem : ∀ {es : List PyData}, PyData.canLayAll0 es = true → ∀ e ∈ es, e.canLay0 = true
  | x :: xs, h, e, he => by
    have h' : x.canLay0 = true ∧ PyData.canLayAll0 xs = true := by simpa [PyData.canLayAll0] using h
    rcases List.mem_cons.mp he with he | he
    · rw [he]; exact h'.1
    · exact canLay_mem h'.2 e he
theorem readsAll_mem {h : Heap} : ∀ {vs : List Value} {es : List PyData} {as : List Addr}, ReadsAll h vs es as → (∀ u ∈ vs, ∃ e ∈ es, ∃ bs, Reads h u e bs) ∧ ∀ e ∈ es, ∃ u ∈ vs, ∃ bs, Reads h u e bs
  | [], _, _, r => by cases r; exact ⟨by simp, by simp⟩
  | u :: vs, _, _, r => by
    cases r with
    | cons h1 h2 =>
      obtain ⟨a, b⟩ := readsAll_mem h2
      refine ⟨fun x hx => ?_, fun e he => ?_⟩
      · rcases List.mem_cons.mp hx with hx | hx
        · rw [hx]; exact ⟨_, List.mem_cons_self, _, h1⟩
        · obtain ⟨e, he, z⟩ := a x hx
          exact ⟨e, List.mem_cons_of_mem _ he, z⟩
      · rcases List.mem_cons.mp he with he | he
        · rw [he]; exact ⟨_, List.mem_cons_self, _, h1⟩
        · obtain ⟨x, hx, z⟩ := b e he
          exact ⟨x, List.mem_cons_of_mem _ hx, z⟩
open Classical in
/-- whether a value reads as data equal to d -/
noncomputable def hitV (h : Heap) (d : PyData) (u : Value) : Bool := decide (∃ e bs, Reads h u e bs ∧ PyData.eqv e d = true)
open Classical in
theorem hitV_iff {h : Heap} {d : PyData} {u : Value} : hitV h d u = true ↔ ∃ e bs, Reads h u e bs ∧ PyData.eqv e d = true := by
  unfold hitV
  exact decide_eq_true_iff
section
variable {X : L2.Cx} {pins : List (Addr × Obj)} {σ : L2.St} {H : Hp} {s : Shared}
theorem hit_eqAt {A : Around} {v : Value} {d : PyData} {as : List Addr} (rv : Reads s.heap v d as) (hd : d.canLay0 = true ∧ d.depth ≤ 60) {u : Value} {e : PyData} {bs : List Addr} (ru : Reads s.heap u e bs) (he : e.canLay0 = true) (hu : A.units + 61 < cLine) : SeqAt.EqAt A s u v (hitV s.heap d u) := by
  have e1 : hitV s.heap d u = PyData.eqv e d := by
    cases h : PyData.eqv e d with
    | true => exact hitV_iff.mpr ⟨e, bs, ru, h⟩
    | false =>
      cases h2 : hitV s.heap d u with
      | false => rfl
      | true =>
        obtain ⟨e', bs', r', h'⟩ := hitV_iff.mp h2
        rw [← reads_fun e e' u _ _ he ru r', h] at h'
        cases h'
  rw [e1]
  refine SeqAt.eqAt_reads e d A s u v bs as ru rv he hd.1 ?_
  have : min e.depth d.depth ≤ d.depth := Nat.min_le_right _ _
  have := hd.2
  omega
theorem hit_any {h : Heap} {d : PyData} {us : List Value} {es : List PyData} {as : List Addr} (r : ReadsAll h us es as) (hes : PyData.canLayAll0 es = true) : us.any (hitV h d) = es.any fun e => PyData.eqv e d := by
  obtain ⟨a, b⟩ := readsAll_mem r
  cases h1 : es.any fun e => PyData.eqv e d with
  | true =>
    obtain ⟨e, he, h2⟩ := List.any_eq_true.mp h1
    obtain ⟨u, hu, bs, ru⟩ := b e he
    exact List.any_eq_true.mpr ⟨u, hu, hitV_iff.mpr ⟨e, bs, ru, h2⟩⟩
  | false =>
    rw [List.any_eq_false] at h1 ⊢
    intro u hu h2
    obtain ⟨e, he, bs, ru⟩ := a u hu
    obtain ⟨e', bs', r', h'⟩ := hitV_iff.mp h2
    rw [← reads_fun e e' u _ _ (canLay_mem hes e he) ru r'] at h'
    exact h1 e he h'
end
section
variable {X : L2.Cx}
theorem op_inD (hu : X.A.units + 64 < cLine) : L2.OpR X (compareOp .In) (rInD X.K false) := by
  intro pins s σ H x y v u Q I rx ry h
  obtain ⟨p, xs, d, es, rfl, hq, hx, hxs, hd, hes, q⟩ := h
  cases ry
  obtain ⟨as, rv⟩ := L2.Dp.reads I d x v hx rx
  have hA : X.A.in1.units + 61 < cLine := by show X.A.units + 1 + 61 < cLine; omega
  rcases hq with hq | hq
  · obtain ⟨its, r, pl, hz⟩ := I.list hq
    obtain ⟨bs, ra⟩ := L2.Dp.readsAll I es xs its hxs r
    obtain ⟨m1, _⟩ := readsAll_mem ra
    refine SeqAt.in_listAt (hitV s.heap d) pl.isList (fun w hw => ?_) ⟨.bl _, H, I, rfl, ?_⟩
    · obtain ⟨e, he, cs, rw⟩ := m1 w (by simpa using hw)
      exact hit_eqAt rv hd rw (canLay_mem hes e he) hA
    · rw [show its.toArray.any (hitV s.heap d) = its.any (hitV s.heap d) by simp, hit_any ra hes]
      exact q
  · obtain ⟨its, r, pl, hz⟩ := I.tuple hq
    obtain ⟨bs, ra⟩ := L2.Dp.readsAll I es xs its hxs r
    obtain ⟨m1, _⟩ := readsAll_mem ra
    refine SeqAt.in_tupleAt (hitV s.heap d) pl (fun w hw => ?_) ⟨.bl _, H, I, rfl, ?_⟩
    · obtain ⟨e, he, cs, rw⟩ := m1 w (by simpa using hw)
      exact hit_eqAt rv hd rw (canLay_mem hes e he) hA
    · rw [show its.toArray.any (hitV s.heap d) = its.any (hitV s.heap d) by simp, hit_any ra hes]
      exact q
theorem op_notinD (hu : X.A.units + 64 < cLine) : L2.OpR X (compareOp .NotIn) (rInD X.K true) := by
  intro pins s σ H x y v u Q I rx ry h
  obtain ⟨p, xs, d, es, rfl, hq, hx, hxs, hd, hes, q⟩ := h
  cases ry
  obtain ⟨as, rv⟩ := L2.Dp.reads I d x v hx rx
  have hA : X.A.in1.units + 61 < cLine := by show X.A.units + 1 + 61 < cLine; omega
  rcases hq with hq | hq
  · obtain ⟨its, r, pl, hz⟩ := I.list hq
    obtain ⟨bs, ra⟩ := L2.Dp.readsAll I es xs its hxs r
    obtain ⟨m1, _⟩ := readsAll_mem ra
    refine SeqAt.notIn_listAt (hitV s.heap d) pl.isList (fun w hw => ?_) ⟨.bl _, H, I, rfl, ?_⟩
    · obtain ⟨e, he, cs, rw⟩ := m1 w (by simpa using hw)
      exact hit_eqAt rv hd rw (canLay_mem hes e he) hA
    · rw [show its.toArray.any (hitV s.heap d) = its.any (hitV s.heap d) by simp, hit_any ra hes]
      exact q
  · obtain ⟨its, r, pl, hz⟩ := I.tuple hq
    obtain ⟨bs, ra⟩ := L2.Dp.readsAll I es xs its hxs r
    obtain ⟨m1, _⟩ := readsAll_mem ra
    refine SeqAt.notIn_tupleAt (hitV s.heap d) pl (fun w hw => ?_) ⟨.bl _, H, I, rfl, ?_⟩
    · obtain ⟨e, he, cs, rw⟩ := m1 w (by simpa using hw)
      exact hit_eqAt rv hd rw (canLay_mem hes e he) hA
    · rw [show its.toArray.any (hitV s.heap d) = its.any (hitV s.heap d) by simp, hit_any ra hes]
      exact q
end
section
variable {K : Kf}
theorem any_toP {x : D} (hx : D.okd 60 x = true) : ∀ {xs : List D}, okds 60 xs = true → ((toPs xs).any fun e => PyData.eqv e (toP x)) = xs.any fun y => D.eqb y x
  | [], _ => by simp [toPs]
  | y :: ys, h => by
    have h' : D.okd 60 y = true ∧ okds 60 ys = true := by simpa [okds] using h
    simp only [toPs, List.any_cons]
    rw [toP_eqv y x h'.1 hx, any_toP hx h'.2]
theorem real_inD (neg : Bool) : RealC K (rInD K neg) (fun x y st Q => inDC x y st fun b => Q (if neg then !b else b)) := fun f st H x y v w Q' Q s r1 r2 h l => by
  cases y <;> try (exact h.elim)
  · rw [RD.tup] at r2
    obtain ⟨a, vs, rfl, t, d⟩ := r2
    obtain ⟨h1, h2, h3⟩ := h
    refine ⟨a, vs, _, _, rfl, .inr t, toP_dp x h1 r1, toPs_dp _ h2 d, toP_ok x h1, (toPs_ok _ h2).1, ?_⟩
    rw [any_toP h1 h2]
    exact l _ h3
  · rw [RD.ref] at r2
    obtain ⟨a, e, rfl⟩ := r2
    obtain ⟨xs, h0, h1, h2, h3⟩ := h
    obtain ⟨a', vs, g1, g2, g3⟩ := s.rdA h0
    rw [e] at g1; cases g1
    refine ⟨a, vs, _, _, rfl, .inl g2, toP_dp x h1 r1, toPs_dp _ h2 g3, toP_ok x h1, (toPs_ok _ h2).1, ?_⟩
    rw [any_toP h1 h2]
    exact l _ h3
end
/-! starred arguments -/
section
variable {X : L2.Cx} {a : Expr} {es : List Expr} {ta : TE} {ts : TA} {pos p : Pos}
theorem pa_starD (ha : PD X a ta) (hr : PDA X es ts) (hs : starEach (.Starred a p :: es) X.env = (true, eval a X.env) :: starEach es X.env := by rfl) : PDA X (.Starred a p :: es) (aStar ta ts) :=
  pa_imp (StX.pa_star ha hr hs) fun σ H Q ⟨f, ρ, st, Q', R, h, l⟩ => ⟨f, ρ, st, _, R, h, fun x st1 v f1 H1 h1 e1 s1 r1 => by
    cases x <;> try (exact h1.elim)
    · rw [RD.tup] at r1
      obtain ⟨b, vs, rfl, t, d⟩ := r1
      exact ⟨b, vs, rfl, .inl t, f1, ρ, st1, _, R.later e1 s1, h1, fun ys st2 us f2 H2 q e2 s2 r2 => l _ st2 _ f2 H2 q (e1.trans e2) s2 ((d.mono e2).append r2)⟩
    · rw [RD.ref] at r1
      obtain ⟨b, e, rfl⟩ := r1
      obtain ⟨xs, h0, h2⟩ := h1
      obtain ⟨b', vs, g1, g2, g3⟩ := s1.rdA h0
      rw [e] at g1; cases g1
      exact ⟨b, vs, rfl, .inr g2, f1, ρ, st1, _, R.later e1 s1, h2, fun ys st2 us f2 H2 q e2 s2 r2 => l _ st2 _ f2 H2 q (e1.trans e2) s2 ((g3.mono e2).append r2)⟩⟩
/-- a call with a starred argument of a def whose last parameter takes what is left over -/
theorem pd_callS2 {x : Str} {q : Pos} {k n : Nat} {ts : TA} {cl : Cl} {y : String} (o : OwnS X.prog X.w X.K X.mg X.base k n x (cl y)) (hr : L2.Room k X.A) (hg : L2.Gl X x) (ha : PDA X (a :: es) ts) (hdb : (x == ("__debug__" : Str)) = false := by decide)
    (he : starEach (a :: es) X.env = (false, eval a X.env) :: starEach es X.env := by rfl) (hst : (backTo pos (starEach es X.env)).any (·.1) = true := by rfl) : PD X (.Call (.Name x q) (a :: es) [] pos) (dCallS cl y n ts) := by
  obtain ⟨fa, F, hm, hk⟩ := o.ex
  have step : L2.PE X (.Call (.Name x q) (a :: es) [] pos) (fun σ H Q => liftA X.K ts σ H fun vs H1 => starF X.K n (cl y) vs H1 Q fun _ _ _ => False) := StX.pe_callS2 F hr hk hg hm L2.pass0 ha hdb he hst
  refine pe_imp step fun σ H Q ⟨f, ρ, st, Q', R, h, l⟩ => ⟨f, ρ, st, _, R, h, fun xs st1 vs f1 H1 ⟨h1, h2, h3⟩ e1 s1 r1 => ?_⟩
  have hvl := r1.length
  refine ⟨vs.take n, vs.drop n, (List.take_append_drop n vs).symm, by rw [List.length_take]; omega, ?_, fun p hp => ?_⟩
  · rw [List.length_drop, hvl, ← szl_eq]; rw [List.length_drop] at h2; exact h2
  · have s2 := s1.lay (o := .tup (vs.drop n)) hp
    obtain ⟨s2, e2⟩ := s2
    refine ⟨by rw [List.length_append, List.length_take]; simp; omega, f1, st1, xs.take n ++ [.tup (xs.drop n)], Q', s2, ?_, h3, (l.later e1).later e2⟩
    refine RDs.append ((r1.take n).mono e2) (RDs.one (RD.tup.mpr ⟨p, vs.drop n, rfl, .of L2.upd_same, (r1.drop n).mono e2⟩))
end
end Pd
end PartPdSoundL

section PartPdMore6
set_option Elab.async false
set_option linter.all false
set_option maxRecDepth 100000
/-! Pd: more readings of dicts (locked or not), walks over them, list(range(i, j, -1)), list.index of any pure data. Own work. -/
namespace Pd
open PySem
/-- d[k] -/
def getDAK : K2
  | .ref n, y, st, Q => ∃ kvs k d, rdDA st n kvs ∧ y = keyD k ∧ valD kvs k = some d ∧ Q d st
  | _, _, _, _ => False
def dGetA (to ti : TE) : TE := fun σ st Q => to σ st fun x st1 => ti σ st1 fun y st2 => getDAK x y st2 Q
/-- k in d -/
def inKC : KC
  | y, .ref n, st, Q => ∃ kvs k, rdDA st n kvs ∧ y = keyD k ∧ Q (valD kvs k).isSome
  | _, _, _, _ => False
def notinKC : KC := fun x y st Q => inKC x y st fun b => Q (!b)
/-- d.get(k, z) -/
def getD2K : D → D → D → Store → K → Prop
  | .ref n, y, z, st, Q => ∃ kvs k, rdDA st n kvs ∧ y = keyD k ∧ Q ((valD kvs k).getD z) st
  | _, _, _, _, _ => False
def isDD : D → Store → Prop
  | .ref n, st => ∃ kvs, rdDA st n kvs
  | _, _ => False
def dGet2 (to ti tx : TE) : TE := fun σ st Q => to σ st fun x st1 => isDD x st1 ∧ ti σ st1 fun y st2 => tx σ st2 fun z st3 => getD2K x y z st3 Q
/-- {k: v, ..} -/
def pairsD : List (TE × TE) → Env → Store → (List (D × D) → Store → Prop) → Prop
  | [], _, st, Q => Q [] st
  | p :: r, σ, st, Q => p.1 σ st fun x st1 => p.2 σ st1 fun y st2 => pairsD r σ st2 fun ps st3 => Q ((x, y) :: ps) st3
def putAll (kvs : List (Ky × D)) : List (Ky × D) := kvs.foldl (fun acc kv => putD acc kv.1 kv.2) []
def dDisp (prs : List (TE × TE)) : TE := fun σ st Q => pairsD prs σ (st ++ [.dic []]) fun ps st2 => ∃ kvs : List (Ky × D), ps = kvs.map (fun kv => (keyD kv.1, kv.2)) ∧ kvs.length ≤ 15 ∧ rdD st2 st.length [] ∧ Q (.ref st.length) (st2.set st.length (.dic (putAll kvs)))
/-! a dict is locked while it is walked -/
def keysD (kvs : List (Ky × D)) : List D := kvs.map fun kv => keyD kv.1
def iKeysD (t : TE) : TI := fun σ st R => t σ st fun x st1 => ∃ n kvs tk, x = .ref n ∧ st1[n]? = some (.frd kvs tk) ∧ R ⟨keysD kvs, fun s => s[n]? = some (.frd kvs tk)⟩ st1
def sLockD (t : TS) : TS := fun D σ st => ∃ n kvs, rdD st n kvs ∧ ∀ tk, t { nx := fun σ' st' => st'[n]? = some (.frd kvs tk) ∧ D.nx σ' (st'.set n (.dic kvs)), rt := fun v st' => st'[n]? = some (.frd kvs tk) ∧ D.rt v (st'.set n (.dic kvs)), bk := fun σ' st' => st'[n]? = some (.frd kvs tk) ∧ D.bk σ' (st'.set n (.dic kvs)), ct := fun σ' st' => st'[n]? = some (.frd kvs tk) ∧ D.ct σ' (st'.set n (.dic kvs)) } σ (st.set n (.frd kvs tk))
def dLockD (t : TE) : TE := fun σ st Q => ∃ n kvs, rdD st n kvs ∧ ∀ tk, t σ (st.set n (.frd kvs tk)) fun v st' => st'[n]? = some (.frd kvs tk) ∧ Q v (st'.set n (.dic kvs))
/-- .index(x), any pure data -/
def indexDM : KM
  | .ref n, [x], st, Q => ∃ xs j z, rdA st n xs ∧ D.okd 60 x = true ∧ okds 60 xs = true ∧ xs[j]? = some z ∧ D.eqb z x = true ∧ (∀ (m : Nat) (z' : D), m < j → xs[m]? = some z' → D.eqb z' x = false) ∧ Q (.int j) st
  | _, _, _, _ => False
/-- list(range(i, j, -1)) -/
def dLRD (t u : TE) : TE := fun σ st Q => t σ st fun x st1 => u σ st1 fun y st2 => ∃ i j, x = .int i ∧ y = .int j ∧ (-(2 ^ 62) ≤ i ∧ i < 2 ^ 62 ∧ -(2 ^ 62) ≤ j ∧ j < 2 ^ 62 ∧ (i - j).toNat ≤ szl) ∧ Q (.ref st2.length) (st2 ++ [.lst (rngD i (i - j).toNat)])
section
variable {σ σ' : Env} {st : Store} {Q : K} {to ti tx ta tb : TE} {d x y : D}
instance : Red (dGetA to ti σ st Q) (to σ st fun x st1 => ti σ st1 fun y st2 => getDAK x y st2 Q) := ⟨id⟩
instance : Red (dGet2 to ti tx σ st Q) (to σ st fun x st1 => isDD x st1 ∧ ti σ st1 fun y st2 => tx σ st2 fun z st3 => getD2K x y z st3 Q) := ⟨id⟩
instance {prs : List (TE × TE)} : Red (dDisp prs σ st Q) (pairsD prs σ (st ++ [.dic []]) fun ps st2 => ∃ kvs : List (Ky × D), ps = kvs.map (fun kv => (keyD kv.1, kv.2)) ∧ kvs.length ≤ 15 ∧ rdD st2 st.length [] ∧ Q (.ref st.length) (st2.set st.length (.dic (putAll kvs)))) := ⟨id⟩
instance {q : List (D × D) → Store → Prop} : Red (pairsD [] σ st q) (q [] st) := ⟨id⟩
instance {p : TE × TE} {r : List (TE × TE)} {q : List (D × D) → Store → Prop} : Red (pairsD (p :: r) σ st q) (p.1 σ st fun x st1 => p.2 σ st1 fun y st2 => pairsD r σ st2 fun ps st3 => q ((x, y) :: ps) st3) := ⟨id⟩
instance {R : Iter → Store → Prop} : Red (iKeysD ta σ st R) (ta σ st fun x st1 => ∃ n kvs tk, x = .ref n ∧ st1[n]? = some (.frd kvs tk) ∧ R ⟨keysD kvs, fun s => s[n]? = some (.frd kvs tk)⟩ st1) := ⟨id⟩
instance : Red (dLRD ta tb σ st Q) (ta σ st fun x st1 => tb σ st1 fun y st2 => ∃ i j, x = .int i ∧ y = .int j ∧ (-(2 ^ 62) ≤ i ∧ i < 2 ^ 62 ∧ -(2 ^ 62) ≤ j ∧ j < 2 ^ 62 ∧ (i - j).toNat ≤ szl) ∧ Q (.ref st2.length) (st2 ++ [.lst (rngD i (i - j).toNat)])) := ⟨id⟩
end
theorem getA_at {st : Store} {n : Nat} {kvs : List (Ky × D)} {k : Ky} {d : D} {Q : K} (h : rdDA st n kvs) (e : valD kvs k = some d) (q : Q d st) : getDAK (.ref n) (keyD k) st Q := ⟨kvs, k, d, h, rfl, e, q⟩
theorem getAI_at {st : Store} {n : Nat} {kvs : List (Ky × D)} {k : Int} {d : D} {Q : K} (h : rdDA st n kvs) (e : valD kvs (.inl k) = some d) (q : Q d st) : getDAK (.ref n) (.int k) st Q := ⟨kvs, .inl k, d, h, rfl, e, q⟩
theorem inKI_at {st : Store} {n : Nat} {kvs : List (Ky × D)} {k : Int} {r : Bool → Prop} (h : rdDA st n kvs) (q : r (valD kvs (.inl k)).isSome) : inKC (.int k) (.ref n) st r := ⟨kvs, .inl k, h, rfl, q⟩
theorem notinKI_at {st : Store} {n : Nat} {kvs : List (Ky × D)} {k : Int} {r : Bool → Prop} (h : rdDA st n kvs) (q : r (!(valD kvs (.inl k)).isSome)) : notinKC (.int k) (.ref n) st r := ⟨kvs, .inl k, h, rfl, q⟩
theorem get2I_at {st : Store} {n : Nat} {kvs : List (Ky × D)} {k : Int} {z : D} {Q : K} (h : rdDA st n kvs) (q : Q ((valD kvs (.inl k)).getD z) st) : getD2K (.ref n) (.int k) z st Q := ⟨kvs, .inl k, h, rfl, q⟩
theorem setDI_at {st : Store} {n : Nat} {kvs : List (Ky × D)} {k : Int} {v : D} {Q : Store → Prop} (h : rdD st n kvs) (hl : kvs.length < szl) (q : Q (st.set n (.dic (putD kvs (.inl k) v)))) : setDK (.ref n) (.int k) v st Q := ⟨kvs, .inl k, h, rfl, hl, q⟩
theorem rdDA.of {st : Store} {n : Nat} {kvs : List (Ky × D)} (h : rdD st n kvs) : rdDA st n kvs := .inl h
end Pd
end PartPdMore6

section PartPdSoundO
set_option Elab.async false
set_option linter.all false
set_option maxRecDepth 100000
set_option maxHeartbeats 1000000
/-! Pd over the hand layer: dicts read, displayed and walked; list.index of data; list(range(i, j, -1)). Own work. -/
namespace Pd
open PySem PySem.Spec
section
variable {X : L2.Cx} {K : Kf} {f f' : List Addr} {H H' : Hp} {st st' : Store} {ρ : Env} {σ : L2.St}
theorem vals_none : ∀ {kvs : List (Ky × D)} {ks : List (L2.Key × L2.V)}, ks.map (·.1) = kvs.map (·.1) → ∀ (k : Ky), valD kvs k = none → L2.valV ks k = none
  | [], [], _, _, _ => rfl
  | [], _ :: _, e, _, _ => by simp at e
  | _ :: _, [], e, _, _ => by simp at e
  | (k0, d0) :: kvs, (k1, v1) :: ks, e, k, h => by
    simp only [List.map_cons, List.cons.injEq] at e
    obtain ⟨e1, e2⟩ := e
    have e1 : k1 = k0 := e1
    subst e1
    by_cases hk : k1 = k
    · have : valD ((k1, d0) :: kvs) k = some d0 := by simp [valD, List.find?_cons, hk]
      rw [this] at h; cases h
    · have : valD ((k1, d0) :: kvs) k = valD kvs k := by simp [valD, List.find?_cons, hk]
      rw [this] at h
      exact (L2.valV_neg hk).trans (vals_none e2 k h)
theorem dget_of {a : Addr} {ks : List (L2.Key × L2.V)} {k : Ky} (h : L2.Rd H a (.dK ks)) : L2.DGet H a (L2.kV k) (L2.valV ks k) := .inl ⟨ks, k, h, rfl, rfl⟩
section
variable {o i e a b : Expr} {to ti tx ta tb : TE} {pos apos cpos : Pos}
theorem pd_getA {k : Nat} (hr : L2.Room k X.A) (ho : PD X o to) (hi : PD X i ti) (hs : L2.NoSl i := by intro _ _; rfl) : PD X (.Subscript o i pos) (dGetA to ti) :=
  pe_imp (L2.pe_dget (L2.hu_of hr) ho hi hs) fun σ H Q ⟨f, ρ, st, Q', R, h, l⟩ => ⟨f, ρ, st, _, R, h, fun x st1 v f1 H1 q1 e1 s1 r1 => ⟨f1, ρ, st1, _, R.later e1 s1, q1, fun y st2 w f2 H2 q2 e2 s2 r2 => by
    cases x <;> try (exact q2.elim)
    obtain ⟨kvs, k, d, h1, rfl, h3, h4⟩ := q2
    have r1' := r1.mono e2
    rw [RD.ref] at r1'
    obtain ⟨a, ea, rfl⟩ := r1'
    obtain ⟨a', ks, g1, g2, g3, g4⟩ := s2.rdDA h1
    rw [ea] at g1; cases g1
    obtain ⟨v, g5, g6⟩ := vals_at g3 g4 k d h3
    obtain rfl := keyD_V r2
    exact ⟨a, v, rfl, by rw [← g5]; exact dget_of g2, l d st2 v f2 H2 h4 (e1.trans e2) s2 g6⟩⟩⟩
theorem in_some {kvs : List (Ky × D)} {ks : List (L2.Key × L2.V)} (e : ks.map (·.1) = kvs.map (·.1)) (r : RDs K f H (kvs.map (·.2)) (ks.map (·.2))) (k : Ky) : (L2.valV ks k).isSome = (valD kvs k).isSome := by
  cases h : valD kvs k with
  | none => rw [vals_none e k h]; rfl
  | some d =>
    obtain ⟨v, g, _⟩ := vals_at e r k d h
    rw [g]; rfl
theorem in_core {Q' : Pd.K} {Q : L2.VK} {neg : Bool} {hi : lift K ti σ H (fun y H1 => lift K to σ H1 fun _ _ => True) → True}
    (R : Rel K f ρ st σ H) (h : ti ρ st fun y st1 => to ρ st1 fun x st2 => inKC y x st2 fun b => Q' (.bl (if neg then !b else b)) st2) (l : LQ K f H Q' Q) :
    lift K ti σ H fun y H1 => lift K to σ H1 fun x H2 => ∃ a o, x = .ref a ∧ L2.DGet H2 a y o ∧ Q (.bl (if neg then !o.isSome else o.isSome)) H2 :=
  ⟨f, ρ, st, _, R, h, fun y st1 v f1 H1 q1 e1 s1 r1 => ⟨f1, ρ, st1, _, R.later e1 s1, q1, fun x st2 w f2 H2 q2 e2 s2 r2 => by
    cases x <;> try (exact q2.elim)
    obtain ⟨kvs, k, h1, rfl, h3⟩ := q2
    rw [RD.ref] at r2
    obtain ⟨a, ea, rfl⟩ := r2
    obtain ⟨a', ks, g1, g2, g3, g4⟩ := s2.rdDA h1
    rw [ea] at g1; cases g1
    obtain rfl := keyD_V (r1.mono e2)
    refine ⟨a, _, rfl, dget_of g2, ?_⟩
    rw [in_some g3 g4 k]
    exact l _ st2 _ f2 H2 h3 (e1.trans e2) s2 (RD.bl.mpr rfl)⟩⟩
theorem pd_inK {k : Nat} (hr : L2.Room k X.A) (hi : PD X i ti) (ho : PD X o to) (hm : behindInMarks .In o = false := by rfl) : PD X (.Compare i [.In] [o] pos) (dCmp inKC ti to) :=
  pe_imp (L2.pe_cmp (L2.pc_din (L2.hu_of hr) hi ho) hm) fun σ H Q ⟨f, ρ, st, Q', R, h, l⟩ => in_core (neg := false) (hi := fun _ => trivial) R h l
theorem pd_notinK {k : Nat} (hr : L2.Room k X.A) (hi : PD X i ti) (ho : PD X o to) (hm : behindInMarks .NotIn o = false := by rfl) : PD X (.Compare i [.NotIn] [o] pos) (dCmp notinKC ti to) :=
  pe_imp (L2.pe_cmp (L2.pc_dnotin (L2.hu_of hr) hi ho) hm) fun σ H Q ⟨f, ρ, st, Q', R, h, l⟩ => in_core (neg := true) (hi := fun _ => trivial) R h l
theorem pt_inK {k : Nat} (hr : L2.Room k X.A) (hi : PD X i ti) (ho : PD X o to) (hm : behindInMarks .In o = false := by rfl) : PDT X (.Compare i [.In] [o] pos) (tTru (dCmp inKC ti to)) :=
  pt_imp (L2.pt_cmp (L2.pc_din (L2.hu_of hr) hi ho) hm) fun σ H Q ⟨f, ρ, st, Q', R, h, l⟩ =>
    in_core (neg := false) (hi := fun _ => trivial) (Q' := fun x st' => ∃ b, x = .bl b ∧ Q' b st') (Q := fun x H' => ∃ b, x = .bl b ∧ Q b H') R
      (by
        refine (show (ti ρ st fun y st1 => to ρ st1 fun x st2 => inKC y x st2 fun b => ∃ b', D.bl (if false = true then !b else b) = .bl b' ∧ Q' b' st2) from ?_)
        have e : (fun (y : D) (st1 : Store) => to ρ st1 fun x st2 => inKC y x st2 fun b => ∃ b', D.bl (if false = true then !b else b) = .bl b' ∧ Q' b' st2) = fun y st1 => to ρ st1 fun x st2 => inKC y x st2 fun b => Q' b st2 := by
          funext y st1
          congr
          funext x st2
          congr
          funext b
          exact propext ⟨fun ⟨b', e, q⟩ => by cases e; exact q, fun q => ⟨b, rfl, q⟩⟩
        rw [e]; exact h)
      fun x st' v f' H' ⟨b, hx, q⟩ e s r => by
        subst hx
        rw [RD.bl] at r
        exact ⟨b, r, l b st' f' H' q e s⟩
theorem pt_notinK {k : Nat} (hr : L2.Room k X.A) (hi : PD X i ti) (ho : PD X o to) (hm : behindInMarks .NotIn o = false := by rfl) : PDT X (.Compare i [.NotIn] [o] pos) (tTru (dCmp notinKC ti to)) :=
  pt_imp (L2.pt_cmp (L2.pc_dnotin (L2.hu_of hr) hi ho) hm) fun σ H Q ⟨f, ρ, st, Q', R, h, l⟩ =>
    in_core (neg := true) (hi := fun _ => trivial) (Q' := fun x st' => ∃ b, x = .bl b ∧ Q' b st') (Q := fun x H' => ∃ b, x = .bl b ∧ Q b H') R
      (by
        have e : (fun (y : D) (st1 : Store) => to ρ st1 fun x st2 => inKC y x st2 fun b => ∃ b', D.bl (if true = true then !b else b) = .bl b' ∧ Q' b' st2) = fun y st1 => to ρ st1 fun x st2 => inKC y x st2 fun b => Q' (!b) st2 := by
          funext y st1
          congr
          funext x st2
          congr
          funext b
          exact propext ⟨fun ⟨b', e, q⟩ => by cases e; exact q, fun q => ⟨!b, rfl, q⟩⟩
        rw [e]; exact h)
      fun x st' v f' H' ⟨b, hx, q⟩ e s r => by
        subst hx
        rw [RD.bl] at r
        exact ⟨b, r, l b st' f' H' q e s⟩
theorem pd_get2 {k : Nat} {e g : Expr} (hr : L2.Room k X.A) (ho : PD X o to) (he : PD X e ti) (hf : PD X g tx) (m : L2.M2 X o "get" apos e g cpos := by exact ⟨rfl, rfl, rfl, rfl⟩) : PD X (.Call (.Attribute o "get" apos) [e, g] [] cpos) (dGet2 to ti tx) :=
  pe_imp (L2.pe_dget2 (L2.hu_of hr) ho he hf m) fun σ H Q ⟨f, ρ, st, Q', R, h, l⟩ => ⟨f, ρ, st, _, R, h, fun x st1 v f1 H1 ⟨hx, q1⟩ e1 s1 r1 => by
    cases x <;> try (exact hx.elim)
    obtain ⟨kvs0, h0⟩ := hx
    have r1' := r1
    rw [RD.ref] at r1'
    obtain ⟨a, ea, rfl⟩ := r1'
    obtain ⟨a', ks0, g1, g2, g3, g4⟩ := s1.rdDA h0
    rw [ea] at g1; cases g1
    refine ⟨a, rfl, .inl ⟨ks0, g2⟩, f1, ρ, st1, _, R.later e1 s1, q1, fun y st2 w f2 H2 q2 e2 s2 r2 => ⟨f2, ρ, st2, _, R.later (e1.trans e2) s2, q2, fun z st3 u f3 H3 q3 e3 s3 r3 => ?_⟩⟩
    obtain ⟨kvs, k, h1, rfl, h3⟩ := q3
    obtain ⟨a', ks, k1, k2, k3, k4⟩ := s3.rdDA h1
    have ea3 := (e2.trans e3).at ea
    rw [ea3] at k1; cases k1
    obtain rfl := keyD_V (r2.mono e3)
    refine ⟨_, dget_of k2, ?_⟩
    cases hv : valD kvs k with
    | none =>
      rw [hv] at h3
      rw [vals_none k3 k hv]
      exact l _ st3 _ f3 H3 h3 (e1.trans (e2.trans e3)) s3 r3
    | some d =>
      rw [hv] at h3
      obtain ⟨v, p1, p2⟩ := vals_at k3 k4 k d hv
      rw [p1]
      exact l _ st3 _ f3 H3 h3 (e1.trans (e2.trans e3)) s3 p2⟩
/-! displays -/
inductive PPD (X : L2.Cx) : List (Option Expr) → List Expr → List (TE × TE) → Prop
  | nil : PPD X [] [] []
  | cons {k v : Expr} {ks : List (Option Expr)} {vs : List Expr} {tk tv : TE} {r : List (TE × TE)} : PD X k tk → PD X v tv → PPD X ks vs r → PPD X (some k :: ks) (v :: vs) ((tk, tv) :: r)
theorem PPD.pps {ks : List (Option Expr)} {vs : List Expr} {prs : List (TE × TE)} (h : PPD X ks vs prs) : L2.PPs X pos ks vs (prs.map fun p => (lift X.K p.1, lift X.K p.2)) := by
  induction h with
  | nil => exact L2.pps_nil
  | cons hk hv _ ih => exact L2.pps_cons hk hv ih
theorem pairs_lift : ∀ (prs : List (TE × TE)) {f : List Addr} {ρ : Env} {st : Store} {σ : L2.St} {H : Hp} {Q' : List (D × D) → Store → Prop} {Q : List (L2.V × L2.V) → Hp → Prop}, Rel K f ρ st σ H → pairsD prs ρ st Q' →
    (∀ ps st' us f' H', Q' ps st' → Ext K f H f' H' → RelS K f' st' H' → RDs K f' H' (ps.map (·.1)) (us.map (·.1)) → RDs K f' H' (ps.map (·.2)) (us.map (·.2)) → Q us H') → L2.tPairs (prs.map fun p => (lift K p.1, lift K p.2)) σ H Q
  | [], f, ρ, st, σ, H, Q', Q, R, h, l => l [] st [] f H h .refl R.toRelS (RDs.nil.mpr rfl) (RDs.nil.mpr rfl)
  | p :: prs, f, ρ, st, σ, H, Q', Q, R, h, l =>
    ⟨f, ρ, st, _, R, h, fun x st1 v f1 H1 q1 e1 s1 r1 => ⟨f1, ρ, st1, _, R.later e1 s1, q1, fun y st2 w f2 H2 q2 e2 s2 r2 =>
      pairs_lift prs (R.later (e1.trans e2) s2) q2 fun ps st3 us f3 H3 q3 e3 s3 ra rb => l _ st3 _ f3 H3 q3 ((e1.trans e2).trans e3) s3 (RDs.cons.mpr ⟨_, _, rfl, r1.mono (e2.trans e3), ra⟩) (RDs.cons.mpr ⟨_, _, rfl, r2.mono e3, rb⟩)⟩⟩
theorem keys_V : ∀ {kvs : List (Ky × D)} {us : List (L2.V × L2.V)}, RDs K f H (kvs.map fun kv => keyD kv.1) (us.map (·.1)) → RDs K f H (kvs.map (·.2)) (us.map (·.2)) → ∃ ks : List (L2.Key × L2.V), us = ks.map (fun kv => (L2.kV kv.1, kv.2)) ∧ ks.map (·.1) = kvs.map (·.1) ∧ RDs K f H (kvs.map (·.2)) (ks.map (·.2))
  | [], us, h, h' => by
    rw [List.map_nil, RDs.nil] at h
    rw [List.map_eq_nil_iff] at h
    subst h
    exact ⟨[], rfl, rfl, RDs.nil.mpr rfl⟩
  | kv :: kvs, [], h, h' => by
    rw [List.map_cons, List.map_nil, RDs.cons] at h
    obtain ⟨v, r, e, _⟩ := h
    cases e
  | kv :: kvs, u :: us, h, h' => by
    rw [List.map_cons, List.map_cons, RDs.cons] at h h'
    obtain ⟨v, r, e, h1, h2⟩ := h
    obtain ⟨v', r', e', h1', h2'⟩ := h'
    injection e with e1 e2
    injection e' with e1' e2'
    obtain ⟨ks, p1, p2, p3⟩ := keys_V (us := us) (by rw [e2]; exact h2) (by rw [e2']; exact h2')
    refine ⟨(kv.1, u.2) :: ks, ?_, ?_, ?_⟩
    · rw [List.map_cons, ← p1]
      have := keyD_V h1
      rw [← e1] at this
      rw [← this]
    · rw [List.map_cons, List.map_cons, p2]
    · rw [List.map_cons, List.map_cons, RDs.cons]
      exact ⟨_, _, rfl, by rw [e1']; exact h1', p3⟩
theorem merge_at : ∀ {kvs : List (Ky × D)} {ks : List (L2.Key × L2.V)} {acc : List (Ky × D)} {ac : List (L2.Key × L2.V)}, ks.map (·.1) = kvs.map (·.1) → RDs K f H (kvs.map (·.2)) (ks.map (·.2)) → ac.map (·.1) = acc.map (·.1) → RDs K f H (acc.map (·.2)) (ac.map (·.2)) →
    (L2.mergeK ac ks).map (·.1) = (kvs.foldl (fun acc kv => putD acc kv.1 kv.2) acc).map (·.1) ∧ RDs K f H ((kvs.foldl (fun acc kv => putD acc kv.1 kv.2) acc).map (·.2)) ((L2.mergeK ac ks).map (·.2))
  | [], [], acc, ac, _, _, e, r => ⟨e, r⟩
  | [], _ :: _, _, _, e, _, _, _ => by simp at e
  | _ :: _, [], _, _, e, _, _, _ => by simp at e
  | kv :: kvs, u :: ks, acc, ac, e, r, e', r' => by
    simp only [List.map_cons, List.cons.injEq] at e
    rw [List.map_cons, List.map_cons, RDs.cons] at r
    obtain ⟨v, rr, er, r1, r2⟩ := r
    injection er with er1 er2
    have hu : RD K f H kv.2 u.2 := by rw [er1]; exact r1
    obtain ⟨p1, p2⟩ := put_at (k := kv.1) hu e' r'
    have hk : u.1 = kv.1 := e.1
    have := merge_at (kvs := kvs) (ks := ks) (acc := putD acc kv.1 kv.2) (ac := L2.putK ac u.1 u.2) e.2 (by rw [er2]; exact r2) (by rw [hk]; exact p1) (by rw [hk]; exact p2)
    exact this
theorem pd_disp {ks : List (Option Expr)} {vs : List Expr} {prs : List (TE × TE)} (h : PPD X ks vs prs) (hall : ks.all (·.isSome) = true := by rfl) (hl : ks.length = vs.length := by rfl) (h0 : ks ≠ [] := by (intro h; cases h)) (h15 : ks.length ≤ 15 := by decide) : PD X (.Dict ks vs pos) (dDisp prs) :=
  pe_imp (L2.pe_disp (h.pps (pos := pos)) hall hl h0 h15) fun σ H Q ⟨f, ρ, st, Q', R, h, l⟩ p hp => by
    obtain ⟨s', e⟩ := R.toRelS.new (o := .dK []) (c := .dic []) hp ⟨[], L2.upd_same, rfl, RDs.nil.mpr rfl⟩
    refine pairs_lift prs (R.later e s') h fun ps st2 us f2 H2 q2 e2 s2 ra rb => ?_
    obtain ⟨kvs, rfl, h1, h2, h3⟩ := q2
    obtain ⟨a, ks, g1, g2, g3, g4⟩ := s2.rdD h2
    have hn : (f ++ [p])[st.length]? = some p := by rw [← R.toRelS.len]; simp
    have hn2 := e2.at hn
    rw [hn2] at g1; cases g1
    cases ks with
    | cons _ _ => simp at g3
    | nil =>
      rw [List.map_map] at ra rb
      obtain ⟨ks, p1, p2, p3⟩ := keys_V (kvs := kvs) ra rb
      obtain ⟨m1, m2⟩ := merge_at p2 p3 (acc := []) (ac := []) rfl (RDs.nil.mpr rfl)
      obtain ⟨s3, e3⟩ := s2.putDic hn2 h2 g2 (kvs' := putAll kvs) m1 m2
      have hlk : ks.length ≤ 15 := by
        have := congrArg List.length p2
        rw [List.length_map, List.length_map] at this
        omega
      exact ⟨g2, ks, p1, hlk, l _ _ _ f2 _ h3 ((e.trans e2).trans e3) s3 (RD.ref.mpr ⟨p, hn2, rfl⟩)⟩
end
/-! ### a dict is locked -/
theorem frd_at {n : Nat} {a : Addr} {kvs : List (Ky × D)} {tk : Tok} (s : RelS K f st H) (hn : f[n]? = some a) (h : st[n]? = some (.frd kvs tk)) : H a = some (.frz tk.1 (.dK tk.2)) ∧ tk.2.map (·.1) = kvs.map (·.1) ∧ RDs K f H (kvs.map (·.2)) (tk.2.map (·.2)) := by
  obtain ⟨a', h1, h2, h3⟩ := s.at h
  rw [hn] at h1; cases h1
  exact ⟨h2, h3⟩
theorem lock_at {n : Nat} {a : Addr} {kvs : List (Ky × D)} {ks : List (L2.Key × L2.V)} {od : Obj} (s : RelS K f st H) (hn : f[n]? = some a) (h : rdD st n kvs) (hH : H a = some (.dK ks)) (e : ks.map (·.1) = kvs.map (·.1)) (r : RDs K f H (kvs.map (·.2)) (ks.map (·.2))) :
    RelS K f (st.set n (.frd kvs (od, ks))) (L2.upd H a (.frz od (.dK ks))) ∧ Ext K f H f (L2.upd H a (.frz od (.dK ks))) :=
  s.chg (c := .dic kvs) h rfl hn (.inr (.inr (.inl ⟨ks, hH⟩))) rfl ⟨L2.upd_same, e, r.mono (Ext.upd0 (.inr (.inr (.inl ⟨ks, hH⟩))))⟩
theorem unlock_at {n : Nat} {a : Addr} {kvs : List (Ky × D)} {ks : List (L2.Key × L2.V)} {od : Obj} (s : RelS K f st H) (hn : f[n]? = some a) (h : st[n]? = some (.frd kvs (od, ks))) :
    H a = some (.frz od (.dK ks)) ∧ RelS K f (st.set n (.dic kvs)) (L2.upd H a (.dK ks)) ∧ Ext K f H f (L2.upd H a (.dK ks)) := by
  obtain ⟨h1, h2, h3⟩ := frd_at s hn h
  have w : Wr H a := .inr (.inr (.inr ⟨od, ks, h1⟩))
  exact ⟨h1, s.chg (c := .frd kvs (od, ks)) h rfl hn w rfl ⟨ks, L2.upd_same, h2, h3.mono (Ext.upd0 w)⟩⟩
theorem pd_lockD {e : Expr} {t : TE} (h : PD X e t) : PD X e (dLockD t) :=
  pe_imp (L2.pe_lock h) fun σ H Q ⟨f, ρ, st, Q', R, ⟨n, kvs, h1, h2⟩, l⟩ => by
    obtain ⟨a, ks, g1, g2, g3, g4⟩ := R.toRelS.rdD h1
    refine ⟨a, .dK ks, g2, trivial, fun od => ?_⟩
    obtain ⟨s1, e1⟩ := lock_at (od := od) R.toRelS g1 h1 g2 g3 g4
    refine ⟨f, ρ, _, _, R.later e1 s1, h2 (od, ks), fun x st2 v f2 H2 ⟨q1, q2⟩ e2 s2 r2 => ?_⟩
    obtain ⟨u1, u2, u3⟩ := unlock_at s2 (e2.at g1) q1
    exact ⟨u1, l x _ v f2 _ q2 ((e1.trans e2).trans u3) u2 (r2.mono u3)⟩
theorem realI_keys {n : Nat} {a : Addr} {kvs : List (Ky × D)} {tk : Tok} (hn : f[n]? = some a) (hk : tk.2.map (·.1) = kvs.map (·.1)) : RealI K f H ⟨keysD kvs, fun s => s[n]? = some (.frd kvs tk)⟩ (L2.Itk a tk.1 tk.2) where
  go := fun k f2 st2 H2 e2 s2 g hlt => by
    obtain ⟨h1, h2, h3⟩ := frd_at s2 (e2.at hn) g
    refine ⟨h1, ?_⟩
    have := congrArg List.length hk
    rw [List.length_map, List.length_map] at this
    have hlt' : k < (keysD kvs).length := hlt
    unfold keysD at hlt'
    rw [List.length_map] at hlt'
    omega
  stop := fun f2 st2 H2 e2 s2 g => by
    obtain ⟨h1, h2, h3⟩ := frd_at s2 (e2.at hn) g
    refine ⟨h1, ?_⟩
    have := congrArg List.length hk
    rw [List.length_map, List.length_map] at this
    show tk.2.length ≤ (keysD kvs).length
    unfold keysD
    rw [List.length_map]
    omega
  yld := fun k f2 st2 H2 d x H3 e2 s2 g hd y => by
    obtain ⟨rfl, k', v, hk', rfl⟩ := y
    refine ⟨.refl, s2, ?_⟩
    have hd' : (keysD kvs)[k]? = some d := hd
    unfold keysD at hd'
    rw [show (List.map (fun kv : Ky × D => keyD kv.1) kvs) = (kvs.map (·.1)).map keyD by rw [List.map_map]; rfl, List.getElem?_map, ← hk, List.getElem?_map, hk'] at hd'
    have e9 : keyD k' = d := by simpa using hd'
    subst e9
    cases k' with
    | inl i => exact RD.int.mpr rfl
    | inr s => exact RD.str.mpr rfl
theorem pi_keysD {tg e : Expr} {td : TE} (h : PD X e td) : PDI X tg e (iKeysD td) :=
  pi_imp (L2.pi_keys h) fun σ H R ⟨f, ρ, st, R', Re, h, l⟩ => ⟨f, ρ, st, _, Re, h, fun x st1 v f1 H1 q1 e1 s1 r1 => by
    obtain ⟨n, kvs, tk, rfl, q2, q3⟩ := q1
    rw [RD.ref] at r1
    obtain ⟨a, ea, rfl⟩ := r1
    obtain ⟨h1, h2, h3⟩ := frd_at s1 ea q2
    exact ⟨a, tk.1, rfl, .inl ⟨tk.2, h1, l _ _ _ f1 H1 q3 e1 s1 (realI_keys ea h2)⟩⟩⟩
theorem ps_lockD {sm : Stmt} {t : TS} (h : PDS X sm t) : PDS X sm (sLockD t) :=
  ps_imp (L2.ps_lock h) fun D σ H ⟨f, ρ, st, D', R, ⟨n, kvs, h1, h2⟩, l⟩ => by
    obtain ⟨a, ks, g1, g2, g3, g4⟩ := R.toRelS.rdD h1
    refine ⟨a, .dK ks, g2, trivial, fun od => ?_⟩
    obtain ⟨s1, e1⟩ := lock_at (od := od) R.toRelS g1 h1 g2 g3 g4
    refine ⟨f, ρ, _, _, R.later e1 s1, h2 (od, ks), ⟨?_, ?_, ?_, ?_⟩⟩
    · intro ρ' st' σ' f' H' ⟨q1, q2⟩ e2 R2
      obtain ⟨u1, u2, u3⟩ := unlock_at R2.toRelS (e2.at g1) q1
      exact ⟨u1, l.nx _ _ _ f' _ q2 ((e1.trans e2).trans u3) (R2.later u3 u2)⟩
    · intro x st' v f' H' ⟨q1, q2⟩ e2 s2 r2
      obtain ⟨u1, u2, u3⟩ := unlock_at s2 (e2.at g1) q1
      exact ⟨u1, l.rt x _ v f' _ q2 ((e1.trans e2).trans u3) u2 (r2.mono u3)⟩
    · intro ρ' st' σ' f' H' ⟨q1, q2⟩ e2 R2
      obtain ⟨u1, u2, u3⟩ := unlock_at R2.toRelS (e2.at g1) q1
      exact ⟨u1, l.bk _ _ _ f' _ q2 ((e1.trans e2).trans u3) (R2.later u3 u2)⟩
    · intro ρ' st' σ' f' H' ⟨q1, q2⟩ e2 R2
      obtain ⟨u1, u2, u3⟩ := unlock_at R2.toRelS (e2.at g1) q1
      exact ⟨u1, l.ct _ _ _ f' _ q2 ((e1.trans e2).trans u3) (R2.later u3 u2)⟩
/-! ### list.index of any data -/
def rIndexD (K : Kf) : L2.V → List L2.V → Hp → L2.VK → Prop := fun x xs H Q => ∃ (a : Addr) (ys : List L2.V) (y : L2.V) (d : PyData) (es : List PyData) (j : Nat) (e : PyData), x = L2.V.ref a ∧ xs = [y] ∧ L2.SqL K H a ys ∧ L2.Dp K H y d ∧ L2.DpAll K H ys es ∧ (d.canLay0 = true ∧ d.depth ≤ 60) ∧ PyData.canLayAll0 es = true ∧ es[j]? = some e ∧ PyData.eqv e d = true ∧
  (∀ (m : Nat) (e' : PyData), m < j → es[m]? = some e' → PyData.eqv e' d = false) ∧ Q (.int (j : Nat)) H
theorem readsAll_at {h : Heap} : ∀ {vs : List Value} {es : List PyData} {as : List Addr}, ReadsAll h vs es as → vs.length = es.length ∧ ∀ (i : Nat) (e : PyData), es[i]? = some e → ∃ u, vs[i]? = some u ∧ ∃ bs, Reads h u e bs
  | [], _, _, r => by cases r; exact ⟨rfl, by simp⟩
  | u :: vs, _, _, r => by
    cases r with
    | cons h1 h2 =>
      obtain ⟨a, b⟩ := readsAll_at h2
      refine ⟨by simp [a], fun i e he => ?_⟩
      cases i with
      | zero => simp at he; subst he; exact ⟨u, rfl, _, h1⟩
      | succ i => exact b i e (by simpa using he)
theorem hit_eq {h : Heap} {d : PyData} {u : Value} {e : PyData} {bs : List Addr} (ru : Reads h u e bs) (he : e.canLay0 = true) : hitV h d u = PyData.eqv e d := by
  cases h1 : PyData.eqv e d with
  | true => exact hitV_iff.mpr ⟨e, bs, ru, h1⟩
  | false =>
    cases h2 : hitV h d u with
    | false => rfl
    | true =>
      obtain ⟨e', bs', r', h'⟩ := hitV_iff.mp h2
      rw [← reads_fun e e' u _ _ he ru r', h1] at h'
      cases h'
theorem mt_indexD (hu : X.A.units + 64 < cLine) : L2.MtR X "list.index" (rIndexD X.K) := by
  intro pins s σ H x xs v us Q I rx rxs h
  obtain ⟨a, ys, y, d, es, j, e, rfl, rfl, hs, hx, hxs, hd, hes, hz, hzj, hno, q⟩ := h
  cases rx
  cases rxs with
  | cons ry rt =>
    rename_i uy ut
    cases rt
    obtain ⟨as, rv0⟩ := L2.Dp.reads I d y uy hx ry
    obtain ⟨its, rv, ⟨⟨cls, dd, data, sl⟩, n, ho, hc, hdn, hdt⟩, hlen⟩ := I.list hs
    simp only at hc hdt
    subst hc hdt
    obtain ⟨bs, ra⟩ := L2.Dp.readsAll I es ys its hxs rv
    obtain ⟨hl1, hat⟩ := readsAll_at ra
    obtain ⟨m1, _⟩ := readsAll_mem ra
    obtain ⟨u, hu1, cs, ru⟩ := hat j e hz
    obtain ⟨hjl, hje⟩ := List.getElem?_eq_some_iff.mp hu1
    have hj : j < its.toArray.size := by simpa using hjl
    have hsl := sizeLine_eq
    have hvl := rv.length
    have hA : X.A.in1.units + 61 < cLine := by show X.A.units + 1 + 61 < cLine; omega
    refine call_meets PySem.F.slot_list_index ⟨_, ho, rfl⟩ PySem.F.entry_list_index (PySem.F.args_list_index_2 _ _)
      (SeqAt.list_indexAt a its.toArray n dd sl uy (hitV s.heap d) j hj (by omega) ?_ ?_) ⟨ho, fun u' hu' => ?_, ?_⟩
    · have e1 : its.toArray[j] = u := by simpa using hje
      rw [e1, hit_eq ru (canLay_mem hes e (List.mem_of_getElem? hz))]
      exact hzj
    · intro m hm hmj
      have hml : m < its.length := by simpa using hm
      have hme : m < es.length := by omega
      have hy' : es[m]? = some es[m] := List.getElem?_eq_getElem hme
      obtain ⟨u2, hu2, cs2, ru2⟩ := hat m _ hy'
      obtain ⟨_, hme2⟩ := List.getElem?_eq_some_iff.mp hu2
      have e1 : its.toArray[m] = u2 := by simpa using hme2
      rw [e1, hit_eq ru2 (canLay_mem hes _ (List.mem_of_getElem? hy'))]
      exact hno m _ hmj hy'
    · obtain ⟨e', he', cs', rw'⟩ := m1 u' (by simpa using hu')
      exact hit_eqAt rv0 hd rw' (canLay_mem hes e' he') hA
    · exact ⟨.int (j : Nat), H, I.tok _, ⟨_, rfl⟩, q⟩
theorem toPs_at : ∀ {xs : List D} {i : Nat}, (toPs xs)[i]? = (xs[i]?).map toP
  | [], i => by simp [toPs]
  | x :: xs, 0 => by simp [toPs]
  | x :: xs, i + 1 => by
    have := toPs_at (xs := xs) (i := i)
    simp only [toPs, List.getElem?_cons_succ]
    exact this
theorem okds_mem : ∀ {xs : List D} {i : Nat} {z : D}, okds 60 xs = true → xs[i]? = some z → D.okd 60 z = true
  | [], _, _, _, h => by simp at h
  | x :: xs, 0, z, h, e => by
    have h' : D.okd 60 x = true ∧ okds 60 xs = true := by simpa [okds] using h
    simp at e; subst e; exact h'.1
  | x :: xs, i + 1, z, h, e => by
    have h' : D.okd 60 x = true ∧ okds 60 xs = true := by simpa [okds] using h
    exact okds_mem h'.2 (by simpa using e)
theorem real_indexD : RealM K (rIndexD K) indexDM := fun f st H x xs v vs Q' Q s r1 r2 h l => by
  cases x <;> try (exact h.elim)
  match xs, h with
  | [], h => exact h.elim
  | y :: _ :: _, h => exact (show False from h).elim
  | [y], h =>
    obtain ⟨ys, j, z, h0, h1, h2, h3, h4, h5, h6⟩ := h
    rw [RD.ref] at r1
    obtain ⟨a, e, rfl⟩ := r1
    obtain ⟨w, rfl, r3⟩ := r2.inv1
    obtain ⟨a', us, g1, g2, g3⟩ := s.rdA h0
    rw [e] at g1; cases g1
    have okz : ∀ {i : Nat} {z : D}, ys[i]? = some z → D.okd 60 z = true := fun hz => okds_mem h2 hz
    refine ⟨a, us, w, _, _, j, toP z, rfl, rfl, g2, toP_dp y h1 r3, toPs_dp _ h2 g3, toP_ok y h1, (toPs_ok _ h2).1, ?_, ?_, fun m e' hm he' => ?_, l.now s h6 (RD.int.mpr rfl)⟩
    · rw [toPs_at, h3]; rfl
    · rw [toP_eqv z y (okz h3) h1]; exact h4
    · rw [toPs_at] at he'
      cases hq : ys[m]? with
      | none => rw [hq] at he'; cases he'
      | some z' =>
        rw [hq] at he'
        cases he'
        rw [toP_eqv z' y (okz hq) h1]
        exact h5 m z' hm hq
/-! ### list(range(i, j, -1)) -/
def dnV (a b : Int) : List L2.V := (List.range (a - b).toNat).map fun i => L2.V.int (a - (i : Nat))
theorem dnV_length (a b : Int) : (dnV a b).length = (a - b).toNat := by unfold dnV; rw [List.length_map, List.length_range]
theorem vals_dn {a b : Int} {acc : Array Value} (h : ItemsOf (fun i v => ∃ t, v = .int (a + i * (-1)) t) acc (a - b).toNat) : L2.Vals (dnV a b) acc.toList := by
  have e : acc.toList.length = (a - b).toNat := by rw [Array.length_toList]; exact h.1
  unfold dnV
  rw [← e]
  refine L2.vals_of_get acc.toList _ fun j u hj => ?_
  obtain ⟨t, rfl⟩ := h.2 j u (by rw [← hj, Array.getElem?_toList])
  exact ⟨t, by congr 1; omega⟩
theorem rngD_dnV (a b : Int) : RDs K f H (rngD a (a - b).toNat) (dnV a b) := by
  have e1 : rngD a (a - b).toNat = ((List.range (a - b).toNat).map fun (k : Nat) => a - (k : Int)).map D.int := by unfold rngD; simp
  have e2 : dnV a b = ((List.range (a - b).toNat).map fun (k : Nat) => a - (k : Int)).map L2.V.int := by unfold dnV; simp
  rw [e1, e2]; exact RDs.of_ints _
def tLstDn (ta : L2.TA) : L2.TE := fun σ H Q => ta σ H fun vs H1 => ∃ i j : Int, vs = [.int i, .int j, .int (-1)] ∧ (-(2 ^ 62) ≤ i ∧ i < 2 ^ 62 ∧ -(2 ^ 62) ≤ j ∧ j < 2 ^ 62 ∧ (i - j).toNat ≤ 2 ^ 24) ∧ ∀ q, H1 q = none → Q (.ref q) (L2.upd H1 q (.lst (dnV i j)))
open PyProof.Rows L2 in
theorem pe_lstDn {a b c : Expr} {ta : L2.TA} {p p2 pos pos2 : Pos} (hc : X.calm = true) (hg : L2.Gl X "list") (hm : X.mg "list" = none) (hg2 : L2.Gl X "range") (hm2 : X.mg "range" = none) (ha : L2.PA X [a, b, c] ta)
    (na : starEach [.Call (.Name "range" p2) [a, b, c] [] pos2] X.env = (false, eval (.Call (.Name "range" p2) [a, b, c] [] pos2) X.env) :: starEach [] X.env := by rfl)
    (hs : starEach [a, b, c] X.env = (false, eval a X.env) :: starEach [b, c] X.env := by rfl) (hpl : (backTo pos2 (starEach [b, c] X.env)).any (·.1) = false := by rfl) :
    L2.PE X (.Call (.Name "list" p) [.Call (.Name "range" p2) [a, b, c] [] pos2] [] pos) (tLstDn ta) := by
  refine ⟨fun pins s σ H Q I h => ?_⟩
  have inner : wpAny (model X.prog X.w) X.A (eval (.Call (.Name "range" p2) [a, b, c] [] pos2) X.env) (fun x s' => ∃ (r : Addr) (i j : Int) (t u v : PySem.Tok) (H' : Hp), x = .ref r ∧ IsRange s'.heap r i j (-1) t u v ∧ L2.Inv X pins σ H' s' ∧ ((-(2 ^ 62) ≤ i ∧ i < 2 ^ 62 ∧ -(2 ^ 62) ≤ j ∧ j < 2 ^ 62 ∧ (i - j).toNat ≤ 2 ^ 24) ∧ ∀ q, H' q = none → Q (.ref q) (L2.upd H' q (.lst (dnV i j))))) X.xe s := by
    refine Call_ (ld_blt I hg2 hm2 boot_range (PyProof.Rows.callWith_type1 (thn (ha.run pos2 pins s σ H _ I h) fun us s1 ⟨vs, H1, I1, r1, q1⟩ => ?_) hs hpl))
    obtain ⟨i, j, e, q⟩ := q1
    subst e
    cases r1 with
    | cons r rr =>
      cases rr with
      | cons r' rr =>
        cases rr with
        | cons r'' rr =>
          cases rr
          obtain ⟨t, rfl⟩ := r
          obtain ⟨t', rfl⟩ := r'
          obtain ⟨t'', rfl⟩ := r''
          refine call_range_3 (by decide) ?_ (.inl (PyProof.noPylong_small (by decide)))
          exact ⟨_, i, j, _, _, _, H1, rfl, IsRange.new .., I1.kept fun b o e => Heap.get?_push_of_some _ e, q⟩
  refine Call_ (ld_blt I hg hm boot_list (PyProof.Rows.callWith_type1 (args_cons (thn inner fun x s1 ⟨r, i, j, t, u, v, H1, ex, hr, I1, ok, q⟩ => args_nil ?_) na) na))
  subst ex
  obtain ⟨b1, b2, b3, b4, b5⟩ := ok
  refine call_list_range (n := (i - j).toNat) (I1.ok.hd hc) hr (PySem.W.small_down b1 b2 b3 b4) (PySem.W.rangeSize_downNat i j) b5 fun h' tk acc c' hk e' hi => ?_
  refine ⟨.ref s1.heap.objs.size, L2.upd H1 s1.heap.objs.size (.lst (dnV i j)), I1.laid hk (Nat.le_refl _) (show L2.ObjOk X.prog X.w _ _ _ (.lst (dnV i j)) from ⟨?_, acc.toList, c', vals_dn hi, ?_⟩), rfl, q _ (I1.hok.fresh (Nat.le_refl _))⟩
  · rw [dnV_length, sizeLine_eq]; omega
  · rw [Array.toArray_toList]; exact e'
theorem pd_lstRD {a b : Expr} {ta tb : TE} {p p1 p2 p3 pos pos2 : Pos} {k1 : _} (hc : X.calm = true) (hg : L2.Gl X "list") (hm : X.mg "list" = none) (hg2 : L2.Gl X "range") (hm2 : X.mg "range" = none) (h : PD X a ta) (h' : PD X b tb)
    (na : starEach [.Call (.Name "range" p2) [a, b, .UnaryOp .USub (.Constant (.int 1) k1 p1) p3] [] pos2] X.env = (false, eval (.Call (.Name "range" p2) [a, b, .UnaryOp .USub (.Constant (.int 1) k1 p1) p3] [] pos2) X.env) :: starEach [] X.env := by rfl)
    (hs : starEach [a, b, .UnaryOp .USub (.Constant (.int 1) k1 p1) p3] X.env = (false, eval a X.env) :: starEach [b, .UnaryOp .USub (.Constant (.int 1) k1 p1) p3] X.env := by rfl) (hs2 : starEach [b, .UnaryOp .USub (.Constant (.int 1) k1 p1) p3] X.env = (false, eval b X.env) :: starEach [.UnaryOp .USub (.Constant (.int 1) k1 p1) p3] X.env := by rfl)
    (hs3 : starEach [.UnaryOp .USub (.Constant (.int 1) k1 p1) p3] X.env = (false, eval (.UnaryOp .USub (.Constant (.int 1) k1 p1) p3) X.env) :: starEach [] X.env := by rfl) (hpl : (backTo pos2 (starEach [b, .UnaryOp .USub (.Constant (.int 1) k1 p1) p3] X.env)).any (·.1) = false := by rfl) :
    PD X (.Call (.Name "list" p) [.Call (.Name "range" p2) [a, b, .UnaryOp .USub (.Constant (.int 1) k1 p1) p3] [] pos2] [] pos) (dLRD ta tb) :=
  pe_imp (pe_lstDn hc hg hm hg2 hm2 (L2.pa_cons h (L2.pa_cons h' (L2.pa_cons (pd_neg pd_int) L2.pa_nil hs3) hs2) hs) na hs hpl) fun σ H Q ⟨f, ρ, st, Q', Re, h, l⟩ => ⟨f, ρ, st, _, Re, h, fun x st1 v f1 H1 q1 e1 s1 r1 => ⟨f1, ρ, st1, _, Re.later e1 s1, q1, fun y st2 w f2 H2 q2 e2 s2 r2 => by
    obtain ⟨i, j, rfl, rfl, hb, h3⟩ := q2
    have r1' := r1.mono e2
    rw [RD.int] at r1' r2
    subst r1'; subst r2
    refine ⟨f2, ρ, st2, fun z st3 => z = .int (-1) ∧ st3 = st2, Re.later (e1.trans e2) s2, ⟨rfl, rfl⟩, fun z st3 u f3 H3 q3 e3 s3 r3 => ?_⟩
    obtain ⟨rfl, rfl⟩ := q3
    rw [RD.int] at r3
    subst r3
    exact ⟨i, j, rfl, hb, fun p hp => (l.later ((e1.trans e2).trans e3)).lst s3 h3 (rngD_dnV i j) hp⟩⟩⟩
end
end Pd
end PartPdSoundO

section PartPdMore16
set_option Elab.async false
set_option linter.all false
set_option maxRecDepth 100000
/-! Pd: d[k] op= e. Own work. -/
namespace Pd
open PySem
def sAugD (k : K2) (to ti te : TE) : TS := fun D σ st => to σ st fun o st1 => ti σ st1 fun i st2 => getDK o i st2 fun x st3 => te σ st3 fun y st4 => k x y st4 fun z st5 => setDK o i z st5 fun st6 => D.nx σ st6
section
variable {σ : Env} {st : Store} {D0 : Ends} {to ti te : TE} {k : K2}
instance : Red (sAugD k to ti te D0 σ st) (to σ st fun o st1 => ti σ st1 fun i st2 => getDK o i st2 fun x st3 => te σ st3 fun y st4 => k x y st4 fun z st5 => setDK o i z st5 fun st6 => D0.nx σ st6) := ⟨id⟩
end
theorem getS_at {st : Store} {n : Nat} {kvs : List (Ky × D)} {k : Str} {d : D} {Q : K} (h : rdD st n kvs) (e : valD kvs (.inr k) = some d) (q : Q d st) : getDK (.ref n) (.str k) st Q := ⟨kvs, .inr k, d, h, rfl, e, q⟩
theorem setS_at {st : Store} {n : Nat} {kvs : List (Ky × D)} {k : Str} {v : D} {Q : Store → Prop} (h : rdD st n kvs) (hl : kvs.length < szl) (q : Q (st.set n (.dic (putD kvs (.inr k) v)))) : setDK (.ref n) (.str k) v st Q := ⟨kvs, .inr k, h, rfl, hl, q⟩
end Pd
end PartPdMore16

section PartPdSoundY
set_option Elab.async false
set_option linter.all false
set_option maxRecDepth 100000
set_option maxHeartbeats 1000000
/-! Pd over the hand layer: d[k] op= e. Own work. -/
namespace Pd
open PySem PySem.Spec
section
variable {X : L2.Cx} {K : Kf} {f f' : List Addr} {H H' : Hp} {st st' : Store} {ρ : Env} {σ : L2.St}
variable {o i e : Expr} {to ti te : TE} {pos tpos : Pos}
def rGetD : L2.V → L2.V → Hp → L2.VK → Prop := fun x y H Q => ∃ a v, x = .ref a ∧ L2.DGet H a y (some v) ∧ Q v H
theorem get_dict (hu : X.A.units + 1 < cLine) : L2.PGet X rGetD := by
  intro pins s σ H x y v u Q I rx ry h
  obtain ⟨a, z, rfl, g, q⟩ := h
  cases rx
  exact L2.d_getItem hu I g ry fun w' s3 I3 rw' => ⟨z, H, I3, rw', q⟩
theorem real_getD : Real2 K rGetD getDK := fun f st H x y v w Q' Q s r1 r2 h l => by
  cases x <;> try (exact h.elim)
  obtain ⟨kvs, k, d, h1, rfl, h3, h4⟩ := h
  rw [RD.ref] at r1
  obtain ⟨a, ea, rfl⟩ := r1
  obtain ⟨a', ks, g1, g2, g3, g4⟩ := s.rdD h1
  rw [ea] at g1; cases g1
  obtain ⟨v, g5, g6⟩ := vals_at g3 g4 k d h3
  obtain rfl := keyD_V r2
  exact ⟨a, v, rfl, by rw [← g5]; exact L2.DGet.k g2, l.now s h4 g6⟩
theorem ps_augD {op : Operator} {r : L2.R2} {k : K2} {m : Nat} (hr0 : L2.Room m X.A) (hp : L2.PIp X op r) (hr : Real2 X.K r k) (ho : PD X o to) (hi : PD X i ti) (he : PD X e te)
    (ha : ∀ ov iv new, augStore i ov iv new = (do holding [new, ov, iv] (setItem ov iv new); release [new, ov, iv] []; pure .next) := by intros; rfl) : PDS X (.AugAssign (.Subscript o i tpos) op e pos) (sAugD k to ti te) :=
  ps_imp (L2.ps_augS ho hi (get_dict (L2.hu_of hr0)) he hp (L2.set_dict (L2.hu_of hr0)) ha) fun D σ H ⟨f, ρ, st, D', R, h, l⟩ => ⟨f, ρ, st, _, R, h, fun x st1 v f1 H1 q1 e1 s1 r1 => ⟨f1, ρ, st1, _, R.later e1 s1, q1, fun y st2 w f2 H2 q2 e2 s2 r2 =>
    real_getD f2 st2 H2 x y v w _ _ s2 (r1.mono e2) r2 q2 fun z st3 u f3 H3 q3 e3 s3 r3 => ⟨f3, ρ, st3, _, R.later ((e1.trans e2).trans e3) s3, q3, fun z' st4 u' f4 H4 q4 e4 s4 r4 =>
      hr f4 st4 H4 z z' u u' _ _ s4 (r3.mono e4) r4 q4 fun z5 st5 u5 f5 H5 q5 e5 s5 r5 => by
        cases x <;> try (exact q5.elim)
        obtain ⟨kvs, k, h3, rfl, h4, h5⟩ := q5
        have r1' := r1.mono (((e2.trans e3).trans e4).trans e5)
        have r2' := r2.mono ((e3.trans e4).trans e5)
        rw [RD.ref] at r1'
        obtain ⟨a, ea, rfl⟩ := r1'
        obtain ⟨a', ks, g1, g2, g3, g4⟩ := s5.rdD h3
        rw [ea] at g1; cases g1
        obtain ⟨p1, p2⟩ := put_at (k := k) r5 g3 g4
        obtain ⟨s6, e6⟩ := s5.putDic ea h3 g2 p1 p2
        obtain rfl := keyD_V r2'
        have hlen : ks.length < sizeLine := by
          have := congrArg List.length g3
          simp at this
          rw [this, ← szl_eq]; exact h4
        have ee := (((((e1.trans e2).trans e3).trans e4).trans e5).trans e6)
        exact ⟨a, _, rfl, L2.DPut.k g2 hlen, l.nx ρ _ σ f5 _ h5 ee (R.later ee s6)⟩⟩⟩⟩
end
end Pd
end PartPdSoundY

section PartPdMore17
set_option Elab.async false
set_option linter.all false
set_option maxRecDepth 100000
/-! Pd: sorted of a list of texts. Own work. -/
namespace Pd
open PySem
def sortedSB : KB
  | [.ref n], st, Q => ∃ xs : List Str, rdA st n (xs.map D.str) ∧ xs.length < 64 ∧ ∀ ys : List Str, ys.Perm xs → Q (.ref st.length) (st ++ [.lst (ys.map D.str)])
  | _, _, _ => False
theorem sortedS_at {st : Store} {n : Nat} {xs : List Str} {Q : K} (h : rdL st n (xs.map D.str)) (hl : xs.length < 64) (q : ∀ ys : List Str, ys.Perm xs → Q (.ref st.length) (st ++ [.lst (ys.map D.str)])) : sortedSB [.ref n] st Q := ⟨xs, .inl h, hl, q⟩
end Pd
end PartPdMore17

section PartPdSoundZ
set_option Elab.async false
set_option linter.all false
set_option maxRecDepth 100000
set_option maxHeartbeats 1000000
/-! Pd over the hand layer: sorted of a list of texts. Own work. -/
namespace Pd
open PySem PySem.Spec
section
variable {K : Kf} {f f' : List Addr} {H H' : Hp} {st st' : Store}
theorem RDs.strsZ : ∀ {ns : List Str} {vs : List L2.V}, RDs K f H (ns.map D.str) vs → vs = ns.map L2.V.str
  | [], vs, h => by
    rw [List.map_nil, RDs.nil] at h
    rw [h]; rfl
  | n :: ns, vs, h => by
    rw [List.map_cons, RDs.cons] at h
    obtain ⟨v, r, rfl, h2, h3⟩ := h
    rw [RD.str] at h2
    rw [h2, RDs.strsZ h3]; rfl
theorem RDs.of_strsZ : ∀ (ns : List Str), RDs K f H (ns.map D.str) (ns.map L2.V.str)
  | [] => by rw [List.map_nil, RDs.nil]; rfl
  | n :: ns => by
    rw [List.map_cons, RDs.cons]
    exact ⟨_, _, rfl, RD.str.mpr rfl, RDs.of_strsZ ns⟩
theorem real_sortedSB : RealB K (L2.rSortedS K) sortedSB :=
  realB1 (kb1 (fun _ _ h => h) fun x y xs st Q h => by cases x <;> exact h) fun f st H x v Q' Q s r h l => by
    cases x <;> try (exact h.elim)
    rw [RD.ref] at r
    obtain ⟨a, e, rfl⟩ := r
    obtain ⟨ns, h1, h0, h2⟩ := h
    obtain ⟨a', vs, k1, k2, d⟩ := s.rdA h1
    rw [e] at k1; cases k1
    exact ⟨a, ns, rfl, by rw [← d.strsZ]; exact k2, h0, fun ns' p hp hi hn => l.lst s (h2 ns' hp) (RDs.of_strsZ ns') hn⟩
end
end Pd
end PartPdSoundZ

section PartPdDraw
set_option Elab.async false
set_option linter.all false
set_option maxRecDepth 100000
/-! Pd: the laws' drawing def. Own work. -/
namespace Pd
open PySem
local macro_rules | `(tactic| walk_at "s") => `(tactic| (repeat (refine Red.red ?_)))
local macro_rules | `(tactic| walk_at "r") => `(tactic| (repeat (first | refine Red.red ?_ | refine Nxt.mk ?_)))
/-- the drawer stands at 2, the script's numbers at 1 -/
def DrawAt (st : Store) : Prop := ∃ (ns : List Int) (a b v : Int), rdL st 1 (ns.map D.int) ∧ rdL st 2 [.ref 1, .int a, .int b, .int v, .int 2] ∧ 0 ≤ a ∧ 0 ≤ b ∧ 0 ≤ v ∧ ns.length ≤ 63
/-- later: the drawer goes on, cells are added, all others are as they were -/
structure Fra (st st' : Store) : Prop where
  dr : DrawAt st'
  le : st.length ≤ st'.length
  at' : ∀ n, n < st.length → n ≠ 2 → st'[n]? = st[n]?
theorem Fra.refl {st : Store} (h : DrawAt st) : Fra st st := ⟨h, Nat.le_refl _, fun _ _ _ => rfl⟩
theorem Fra.trans {a b c : Store} (h : Fra a b) (h' : Fra b c) : Fra a c := ⟨h'.dr, Nat.le_trans h.le h'.le, fun n hn ne => (h'.at' n (Nat.lt_of_lt_of_le hn h.le) ne).trans (h.at' n hn ne)⟩
theorem rdL_lt {st : Store} {n : Nat} {xs : List D} (h : rdL st n xs) : n < st.length := (List.getElem?_eq_some_iff.mp h).1
theorem rdL_app {st : Store} {n : Nat} {xs : List D} {c : C} (h : rdL st n xs) : rdL (st ++ [c]) n xs := by
  unfold rdL at *
  rw [List.getElem?_append_left (rdL_lt h)]; exact h
theorem rdL_new {st : Store} {xs : List D} : rdL (st ++ [.lst xs]) st.length xs := by unfold rdL; simp
theorem rdL_set {st : Store} {n : Nat} {xs ys : List D} (h : rdL st n xs) : rdL (st.set n (.lst ys)) n ys := by unfold rdL; rw [List.getElem?_set_self (rdL_lt h)]
theorem rdL_ne {st : Store} {n m : Nat} {xs : List D} {c : C} (h : rdL st n xs) (ne : n ≠ m) : rdL (st.set m c) n xs := by unfold rdL at *; rw [List.getElem?_set_ne (Ne.symm ne)]; exact h
theorem rdL_inj {st : Store} {n : Nat} {xs ys : List D} (h : rdL st n xs) (h' : rdL st n ys) : xs = ys := by
  unfold rdL at *
  rw [h] at h'
  cases h'; rfl
theorem Fra.rd {st st' : Store} (f : Fra st st') {n : Nat} {xs : List D} (h : rdL st n xs) (ne : n ≠ 2) : rdL st' n xs := by
  unfold rdL at *
  rw [f.at' n (rdL_lt h) ne]; exact h
theorem DrawAt.lt {st : Store} (h : DrawAt st) : 2 < st.length := by
  obtain ⟨_, _, _, _, _, h2, _⟩ := h
  exact rdL_lt h2
theorem DrawAt.app {st : Store} {c : C} (h : DrawAt st) : DrawAt (st ++ [c]) := by
  obtain ⟨ns, a, b, v, h1, h2, h3⟩ := h
  exact ⟨ns, a, b, v, rdL_app h1, rdL_app h2, h3⟩
theorem DrawAt.set {st : Store} {n : Nat} {c : C} (h : DrawAt st) (hn : 2 < n) : DrawAt (st.set n c) := by
  obtain ⟨ns, a, b, v, h1, h2, h3⟩ := h
  exact ⟨ns, a, b, v, rdL_ne h1 (by omega), rdL_ne h2 (by omega), h3⟩
theorem Fra.app {st st' : Store} {c : C} (f : Fra st st') : Fra st (st' ++ [c]) := ⟨f.dr.app, by simp; have := f.le; omega, fun n hn ne => by
  rw [List.getElem?_append_left (Nat.lt_of_lt_of_le hn f.le)]; exact f.at' n hn ne⟩
theorem Fra.set {st st' : Store} {n : Nat} {c : C} (f : Fra st st') (hn : st.length ≤ n) (h2 : 2 < n) : Fra st (st'.set n c) := ⟨f.dr.set h2, by simp; exact f.le, fun m hm ne => by
  rw [List.getElem?_set_ne (by omega)]; exact f.at' m hm ne⟩
def drawBody (c : Cl) : TS := sSeq (sIf (tTru (dCmp gtC (dOp ixK (dVar 0) (dC (.int 2))) (dC (.int 0)))) (sSeq (sAsg (dOp ixK (dVar 0) (dC (.int 2))) (gName 2)) (sSeq (sAsg (dOp fdivK (dVar 2) (dVar 1)) (gSub (dVar 0) (dC (.int 2)))) (sRet (dOp modK (dB intB (aCons (dVar 2) (aNil))) (dVar 1))))) (sNext)) (sSeq (sAsg (dC (.int 0)) (gName 3)) (sSeq (sIf (tTru (dCmp ltC (dOp ixK (dVar 0) (dC (.int 1))) (dB lenB (aCons (dOp ixK (dVar 0) (dC (.int 0))) (aNil))))) (sSeq (sAsg (dOp ixK (dOp ixK (dVar 0) (dC (.int 0))) (dOp ixK (dVar 0) (dC (.int 1)))) (gName 4)) (sAsg (dOp addK (dOp mulK (dC (.int 2)) (dB absB (aCons (dVar 4) (aNil)))) (dB intB (aCons (dCmp ltC (dVar 4) (dC (.int 0))) (aNil)))) (gName 3))) (sNext)) (sSeq (sAugL iaddK (dVar 0) (dC (.int 1)) (dC (.int 1))) (sSeq (sIf (tTru (dCmp geC (dVar 3) (dOp mulK (dC (.int 2)) (dOp powK (dC (.int 10)) (dC (.int 18)))))) (sSeq (sAsg (dOp modK (dB intB (aCons (dOp fdivK (dVar 3) (dC (.int 2))) (aNil))) (dOp shlK (dC (.int 1)) (dC (.int 6000)))) (gName 2)) (sSeq (sAsg (dOp fdivK (dVar 2) (dVar 1)) (gSub (dVar 0) (dC (.int 2)))) (sRet (dOp modK (dB intB (aCons (dVar 2) (aNil))) (dVar 1))))) (sNext)) (sSeq (sAsg (dOp modK (dB intB (aCons (dOp addK (dOp addK (dOp addK (dOp mulK (dOp ixK (dVar 0) (dC (.int 3))) (dC (.int 48271))) (dOp mulK (dOp modK (dB intB (aCons (dVar 3) (aNil))) (dC (.int 2147483629))) (dC (.int 16807)))) (dOp mulK (dOp ixK (dVar 0) (dC (.int 1))) (dC (.int 69621)))) (dC (.int 11))) (aNil))) (dC (.int 2147483647))) (gSub (dVar 0) (dC (.int 3)))) (sRet (dOp modK (dB intB (aCons (dOp fdivK (dOp ixK (dVar 0) (dC (.int 3))) (dC (.int 16))) (aNil))) (dVar 1))))))))
theorem ix_at {st : Store} {n : Nat} {xs : List D} {i : Int} {d : D} {Q : K} (h : rdL st n xs) (e : atD xs i = some d) (q : Q d st) : ixK (.ref n) (.int i) st Q := ⟨xs, d, .inl h, e, q⟩
theorem ixL_at {st : Store} {n : Nat} {xs : List D} {i : Int} {d : D} {Q : K} (h : rdL st n xs) (e : atD xs i = some d) (q : Q d st) : ixLK (.ref n) (.int i) st Q := ⟨xs, d, .inl h, e, q⟩
theorem set_at {st : Store} {n : Nat} {xs : List D} {i : Int} {v d : D} {Q : Store → Prop} (h : rdL st n xs) (e : atD xs i = some d) (h0 : 0 ≤ i) (q : Q (st.set n (.lst (xs.set i.toNat v)))) : setK (.ref n) (.int i) v st Q := ⟨xs, h, ⟨d, e⟩, h0, q⟩
theorem len_at {st : Store} {n : Nat} {xs : List D} {Q : K} (h : rdL st n xs) (q : Q (.int xs.length) st) : lenB [.ref n] st Q := ⟨xs, .inl h, q⟩
theorem atD_map {ns : List Int} {i : Int} (h0 : 0 ≤ i) (h1 : i < ns.length) : ∃ n, n ∈ ns ∧ atD (ns.map D.int) i = some (.int n) := by
  refine ⟨ns[i.toNat]'(by omega), List.getElem_mem _, ?_⟩
  unfold atD
  rw [if_pos h0, List.getElem?_map, List.getElem?_eq_getElem (by omega)]
  rfl
theorem draw_ok {prog : String → Option Def} (hp : prog "_law_draw" = some ⟨2, 5, drawBody⟩) {k : Nat} {st : Store} {many : Int} {Q : K} (h : DrawAt st) (h0 : 0 < many) (h1 : many < 1073741824)
    (hQ : ∀ r st', 0 ≤ r → r < many → Fra st st' → st'.length = st.length → Q (.int r) st') : callN prog (k + 1) "_law_draw" [.ref 2, .int many] st Q := by
  obtain ⟨ns, a, b, v, d1, d2, ha, hb, hv, hn⟩ := h
  have l2 := rdL_lt d2
  -- the end of each way: a drawer behind it
  have fin : ∀ {a b v : Int} {xs : List D} {r : Int}, xs = [.ref 1, .int a, .int b, .int v, .int 2] → 0 ≤ a → 0 ≤ b → 0 ≤ v → Q (.int (r % many)) (st.set 2 (.lst xs)) := fun {a b v xs r} e ha hb hv => by
    subst e
    refine hQ _ _ (Int.emod_nonneg _ (by omega)) (Int.emod_lt_of_pos _ h0) ⟨⟨ns, a, b, v, rdL_ne d1 (by decide), rdL_set d2, ha, hb, hv, hn⟩, by simp, fun n _ ne => by rw [List.getElem?_set_ne (Ne.symm ne)]⟩ (by simp)
  have set2 : ∀ {xs ys : List D}, (st.set 2 (.lst xs)).set 2 (.lst ys) = st.set 2 (.lst ys) := fun {xs ys} => by rw [List.set_set]
  refine call_intro hp rfl ?_
  unfold drawBody
  walk_at "r"
  refine ix_at d2 rfl ?_
  walk_at "r"
  refine way (fun e => ?_) (fun e => ?_)
  · have e : 0 < b := by simpa using e
    walk_at "r"
    refine ix_at d2 rfl ?_
    walk_at "r"
    refine ⟨⟨h0, h1⟩, ?_⟩
    walk_at "r"
    refine set_at d2 rfl (by decide) ?_
    walk_at "r"
    refine ⟨h0, ?_⟩
    exact fin (a := a) (b := b / many) (v := v) rfl ha (Int.ediv_nonneg hb (by omega)) hv
  · walk_at "s"
    refine Nxt.mk ?_
    walk_at "s"
    refine Nxt.mk ?_
    refine seq_cut (fun σ st' => ∃ sz y4, 0 ≤ sz ∧ σ = [some (.ref 2), some (.int many), none, some (.int sz), y4] ∧ st' = st) (fun N hN => ?_) (fun σ st' hJ => ?_)
    · walk_at "r"
      refine ix_at d2 rfl ?_
      walk_at "r"
      refine ix_at d2 rfl ?_
      walk_at "r"
      refine len_at d1 ?_
      walk_at "r"
      refine way (fun e => ?_) (fun e => ?_)
      · have e : a < (ns.length : Int) := by simpa using e
        walk_at "r"
        refine ix_at d2 rfl ?_
        walk_at "r"
        refine ix_at d2 rfl ?_
        obtain ⟨n, _, hat⟩ := atD_map ha e
        refine ix_at d1 hat ?_
        walk_at "r"
        refine ⟨.inl (by decide), ?_⟩
        walk_at "r"
        refine hN _ _ ⟨_, _, ?_, rfl, rfl⟩
        have hb2 : 0 ≤ b2i (decide (n < 0)) := by unfold b2i; split <;> decide
        split <;> omega
      · walk_at "r"
        exact hN _ _ ⟨0, _, by decide, rfl, rfl⟩
    · obtain ⟨sz, y4, hsz, rfl, e0⟩ := hJ
      rw [e0]
      walk_at "r"
      refine ixL_at d2 rfl ?_
      walk_at "r"
      refine set_at d2 rfl (by decide) ?_
      walk_at "r"
      have d3 : rdL (st.set 2 (.lst [.ref 1, .int (a + 1), .int b, .int v, .int 2])) 2 [.ref 1, .int (a + 1), .int b, .int v, .int 2] := rdL_set d2
      refine ⟨by unfold cPow; decide, ?_⟩
      walk_at "r"
      refine ⟨.inl (by decide), ?_⟩
      walk_at "r"
      refine way (fun _ => ?_) (fun _ => ?_)
      · walk_at "r"
        refine ⟨by decide, ?_⟩
        walk_at "r"
        refine ⟨by unfold cPow; decide, ?_⟩
        walk_at "r"
        have hp6 : (0 : Int) < 1 * 2 ^ (6000 : Int).toNat := by rw [Int.one_mul]; exact Int.pow_pos (by decide)
        refine ⟨hp6, ?_⟩
        walk_at "r"
        refine ⟨⟨h0, h1⟩, ?_⟩
        walk_at "r"
        refine set_at d3 rfl (by decide) ?_
        walk_at "r"
        refine ⟨h0, ?_⟩
        show Q _ ((st.set 2 _).set 2 _)
        rw [set2]
        exact fin (a := a + 1) (b := sz / 2 % (1 * 2 ^ (6000 : Int).toNat) / many) (v := v) rfl (by omega) (Int.ediv_nonneg (Int.emod_nonneg _ (by omega)) (by omega)) hv
      · walk_at "r"
        refine ix_at d3 rfl ?_
        walk_at "r"
        refine ⟨.inr (by decide), ?_⟩
        walk_at "r"
        refine ⟨by decide, ?_⟩
        walk_at "r"
        refine ⟨.inr (by decide), ?_⟩
        walk_at "r"
        refine ix_at d3 rfl ?_
        walk_at "r"
        refine ⟨.inr (by decide), ?_⟩
        walk_at "r"
        refine ⟨by decide, ?_⟩
        walk_at "r"
        refine set_at d3 rfl (by decide) ?_
        walk_at "r"
        refine ix_at (rdL_set d3) rfl ?_
        walk_at "r"
        refine ⟨by decide, ?_⟩
        walk_at "r"
        refine ⟨h0, ?_⟩
        rw [set2]
        exact fin (a := a + 1) (b := b) (v := (v * 48271 + sz % 2147483629 * 16807 + (a + 1) * 69621 + 11) % 2147483647) rfl (by omega) hb (Int.emod_nonneg _ (by omega))
end Pd
end PartPdDraw

section PartPdLib
set_option Elab.async false
set_option linter.all false
set_option maxRecDepth 100000
/-! Pd: what the laws share: list cells, draws in comprehensions, masks. Own work. -/
namespace Pd
open PySem
local macro_rules | `(tactic| walk_at "s") => `(tactic| (repeat (refine Red.red ?_)))
local macro_rules | `(tactic| walk_at "r") => `(tactic| (repeat (first | refine Red.red ?_ | refine Nxt.mk ?_)))
/-! ### list cells -/
theorem list_at {st : Store} {n : Nat} {xs : List D} {Q : K} (h : rdL st n xs) (q : Q (.ref st.length) (st ++ [.lst xs])) : listB [.ref n] st Q := ⟨xs, .inl h, q⟩
theorem tuple_at {st : Store} {n : Nat} {xs : List D} {Q : K} (h : rdL st n xs) (q : Q (.tup xs) st) : tupleB [.ref n] st Q := ⟨xs, .inl h, q⟩
theorem sum_at {st : Store} {n : Nat} {ns : List Int} {Q : K} (h : rdL st n (ns.map D.int)) (q : Q (.int ns.sum) st) : sumB [.ref n] st Q := ⟨ns, .inl h, q⟩
theorem it_at {st : Store} {n : Nat} {xs : List D} {R : Iter → Store → Prop} (h : rdL st n xs) (q : R ⟨xs, fun s => rdA s n xs⟩ st) : itK (.ref n) st R := ⟨xs, .inl h, q⟩
theorem append_at {st : Store} {n : Nat} {xs : List D} {x : D} {Q : K} (h : rdL st n xs) (hl : xs.length < szl) (q : Q .non (st.set n (.lst (xs ++ [x])))) : appendM (.ref n) [x] st Q := ⟨xs, h, hl, q⟩
theorem extend_at {st : Store} {n m : Nat} {xs ys : List D} {Q : K} (h : rdL st n xs) (h' : rdL st m ys) (ne : n ≠ m) (hl : xs.length + ys.length ≤ szl) (q : Q .non (st.set n (.lst (xs ++ ys)))) : extendM (.ref n) [.ref m] st Q := ⟨xs, ys, h, h', ne, hl, q⟩
theorem ty_at {st : Store} {n : Nat} {xs : List D} (h : rdL st n xs) : tyLst (.ref n) st := ⟨xs, h⟩
theorem sl_at {st : Store} {n : Nat} {xs : List D} {lo hi : Option Int} {Q : K} (h : rdL st n xs) (q : Q (.ref st.length) (st ++ [.lst (cutD xs lo hi)])) : slK (.ref n) lo hi st Q := ⟨xs, .inl h, q⟩
theorem add_at {st : Store} {n m : Nat} {xs ys : List D} {Q : K} (h : rdL st n xs) (h' : rdL st m ys) (hl : xs.length + ys.length ≤ szl) (q : Q (.ref st.length) (st ++ [.lst (xs ++ ys)])) : addK (.ref n) (.ref m) st Q := ⟨xs, ys, h, h', hl, q⟩
theorem rep_at {st : Store} {n : Nat} {xs : List D} {k : Int} {Q : K} (h : rdL st n xs) (h0 : 0 ≤ k) (h1 : k < 1000000) (hl : xs.length ≤ 1) (q : Q (.ref st.length) (st ++ [.lst (List.replicate k.toNat xs).flatten])) : mulK (.ref n) (.int k) st Q :=
  ⟨xs, h, by omega, by omega, by
    have : xs.length * k.toNat ≤ 1 * k.toNat := Nat.mul_le_mul_right _ hl
    unfold szl; omega, q⟩
theorem flat_one (x : D) (n : Nat) : (List.replicate n [x]).flatten = List.replicate n x := by
  induction n with
  | zero => rfl
  | succ n ih => rw [List.replicate_succ, List.flatten_cons, ih, List.replicate_succ]; rfl
theorem atD_nat {α : Type} {xs : List α} {i : Int} {x : α} (h0 : 0 ≤ i) (h : xs[i.toNat]? = some x) : atD xs i = some x := by unfold atD; rw [if_pos h0]; exact h
theorem atD_of {α : Type} {xs : List α} {i : Int} (h0 : 0 ≤ i) (h1 : i < xs.length) : ∃ x, x ∈ xs ∧ xs[i.toNat]? = some x ∧ atD xs i = some x :=
  ⟨xs[i.toNat]'(by omega), List.getElem_mem _, List.getElem?_eq_getElem (by omega), atD_nat h0 (List.getElem?_eq_getElem (by omega))⟩
theorem atD_mapI {α : Type} {f : α → D} {xs : List α} {i : Int} (h0 : 0 ≤ i) (h1 : i < xs.length) : ∃ x, x ∈ xs ∧ xs[i.toNat]? = some x ∧ atD (xs.map f) i = some (f x) := by
  obtain ⟨x, h2, h3, h4⟩ := atD_of h0 h1
  exact ⟨x, h2, h3, atD_nat h0 (by rw [List.getElem?_map, h3]; rfl)⟩
theorem cut_take {α : Type} (xs : List α) {i : Int} (h : 0 ≤ i) : cutD xs none (some i) = xs.take i.toNat := by
  unfold cutD cl
  simp only [Option.map_none, Option.getD_none, Option.map_some, Option.getD_some, List.drop_zero, Nat.sub_zero]
  rw [if_neg (by omega)]
  by_cases h2 : i.toNat ≤ xs.length
  · rw [Nat.min_eq_left h2]
  · rw [Nat.min_eq_right (by omega), List.take_of_length_le (Nat.le_refl _), List.take_of_length_le (by omega)]
theorem cut_drop {α : Type} (xs : List α) {i : Int} (h : 0 ≤ i) : cutD xs (some i) none = xs.drop i.toNat := by
  unfold cutD cl
  simp only [Option.map_none, Option.getD_none, Option.map_some, Option.getD_some]
  rw [if_neg (by omega)]
  by_cases h2 : i.toNat ≤ xs.length
  · rw [Nat.min_eq_left h2, List.take_of_length_le (by simp)]
  · rw [Nat.min_eq_right (by omega), List.drop_of_length_le (Nat.le_refl _), List.drop_of_length_le (by omega)]
    simp
theorem cut_last {α : Type} (xs : List α) : cutD xs none (some (-1)) = xs.dropLast := by
  unfold cutD cl
  simp only [Option.map_none, Option.getD_none, Option.map_some, Option.getD_some, List.drop_zero, Nat.sub_zero]
  rw [if_pos (by decide), List.dropLast_eq_take]
  congr 1
  omega
/-- cells are added, all others as they were -/
def Grw (st st' : Store) : Prop := ∃ m, st' = st ++ m
theorem Grw.refl (st : Store) : Grw st st := ⟨[], by simp⟩
theorem Grw.app {st st' : Store} {c : C} (h : Grw st st') : Grw st (st' ++ [c]) := by
  obtain ⟨m, rfl⟩ := h
  exact ⟨m ++ [c], by simp⟩
theorem Grw.trans {a b c : Store} (h : Grw a b) (h' : Grw b c) : Grw a c := by
  obtain ⟨m, rfl⟩ := h
  obtain ⟨m', rfl⟩ := h'
  exact ⟨m ++ m', by simp⟩
theorem Grw.rd {st st' : Store} (f : Grw st st') {n : Nat} {xs : List D} (h : rdL st n xs) : rdL st' n xs := by
  obtain ⟨m, rfl⟩ := f
  unfold rdL at *
  rw [List.getElem?_append_left (rdL_lt h)]; exact h
theorem Grw.fra {st st' : Store} (f : Grw st st') (h : DrawAt st) : Fra st st' := by
  obtain ⟨m, rfl⟩ := f
  refine ⟨?_, by simp, fun n hn _ => List.getElem?_append_left hn⟩
  obtain ⟨ns, a, b, v, h1, h2, h3⟩ := h
  exact ⟨ns, a, b, v, Grw.rd ⟨m, rfl⟩ h1, Grw.rd ⟨m, rfl⟩ h2, h3⟩
theorem Grw.le {st st' : Store} (f : Grw st st') : st.length ≤ st'.length := by
  obtain ⟨m, rfl⟩ := f
  simp
theorem Fra.set' {st st' : Store} {n : Nat} {c : C} (f : Fra st st') (hn : st.length ≤ n) (h2 : 2 < st.length) : Fra st (st'.set n c) := f.set hn (by omega)
/-! ### the drawer is made -/
def beginBody (c : Cl) : TS := sRet (dLst (aCons (dLc (iSeq (dVar 0)) (gName 1) (tYes) (dB intB (aCons (dVar 1) (aNil))) [1]) (aCons (dC (.int 0)) (aCons (dC (.int 0)) (aCons (dC (.int 7)) (aCons (dC (.int 2)) (aNil)))))))
theorem begin_ok {prog : String → Option Def} (hp : prog "_law_begin" = some ⟨1, 2, beginBody⟩) {k : Nat} {ns : List Int} {Q : K} (hn : ns.length ≤ 63)
    (hQ : ∀ st', DrawAt st' → st'.length = 3 → Q (.ref 2) st') : callN prog (k + 1) "_law_begin" [.ref 0] [.frz (ns.map D.int)] Q := by
  refine call_intro hp rfl ?_
  unfold beginBody
  walk_at "r"
  have hfz : ∀ acc : List D, rdA ([.frz (ns.map D.int)] ++ [.lst acc]) 0 (ns.map D.int) := fun acc => .inr rfl
  refine ⟨ns.map D.int, .inr rfl, ?_⟩
  refine lc_map ns D.int D.int rfl (by unfold szl; omega) hfz (fun x hx acc N hN => ?_) ?_
  · walk_at "r"
    exact hN
  · walk_at "r"
    refine ⟨by show 5 ≤ szl; decide, ?_⟩
    exact hQ _ ⟨ns, 0, 0, 7, rfl, rfl, by decide, by decide, by decide, hn⟩ rfl
/-! ### comprehensions of draws -/
theorem lc_ints {gd : Store → Prop} {g : TG} {te : TE} {ρ : Env} {st : Store} {Q : K} {items : List D} (P : Int → Prop) (hd : DrawAt st) (hl : items.length ≤ szl) (hg : ∀ st', Fra st st' → gd st')
    (hs : ∀ x ∈ items, ∀ st', Fra st st' → ∀ N : D → Store → Prop, (∀ r st2, P r → Fra st' st2 → N (.int r) st2) → g x ρ st' fun ρ2 st2 => te ρ2 st2 N)
    (hQ : ∀ (rs : List Int) st', rs.length = items.length → (∀ r ∈ rs, P r) → Fra st st' → rdL st' st.length (rs.map D.int) → Q (.ref st.length) st') : lcLoop gd g tYes te ρ st.length Q items [] (st ++ [.lst []]) := by
  have h2 := hd.lt
  refine lc_by (fun pre acc st' => ∃ rs : List Int, acc = rs.map D.int ∧ rs.length = pre.length ∧ (∀ r ∈ rs, P r) ∧ Fra st st' ∧ rdL st' st.length acc) ⟨[], rfl, rfl, by simp, (Fra.refl hd).app, rdL_new⟩ (fun pre x post acc st' e ⟨rs, h1, h3, h4, h5, h6⟩ N M hN hM => ?_) (fun acc st' ⟨rs, h1, h3, h4, h5, h6⟩ => ?_)
  · subst h1
    refine ⟨hg _ h5, ?_⟩
    have e1 : (fun (ρ2 : Env) (st2 : Store) => tYes ρ2 st2 fun b st3 => (b = true → te ρ2 st3 N) ∧ (b = false → M st3)) = fun ρ2 st2 => te ρ2 st2 N := by
      funext ρ2 st2
      exact propext ⟨fun q => q.1 rfl, fun q => ⟨fun _ => q, fun e => nomatch e⟩⟩
    rw [e1]
    have hlen := congrArg List.length e
    simp at hlen
    refine hs x (by rw [e]; simp) st' h5 N fun r st2 hr f => ?_
    have h7 := f.rd h6 (by omega)
    refine hN _ _ h7 (by simp; omega) ⟨rs ++ [r], by simp, by simp [h3], ?_, (h5.trans f).set (Nat.le_refl _) (by omega), rdL_set h7⟩
    intro y hy
    rcases List.mem_append.mp hy with hy | hy
    · exact h4 y hy
    · simp at hy; subst hy; exact hr
  · subst h1
    exact ⟨hg _ h5, h6, hQ rs st' h3 h4 h5 h6⟩
/-- two lists, place by place -/
inductive Two {α β : Type} (P : α → β → Prop) : List α → List β → Prop
  | nil : Two P [] []
  | cons {a : α} {b : β} {as : List α} {bs : List β} : P a b → Two P as bs → Two P (a :: as) (b :: bs)
theorem Two.snoc {α β : Type} {P : α → β → Prop} : ∀ {as : List α} {bs : List β} {a : α} {b : β}, Two P as bs → P a b → Two P (as ++ [a]) (bs ++ [b])
  | _, _, _, _, .nil, h => .cons h .nil
  | _, _, _, _, .cons h t, h' => .cons h (Two.snoc t h')
theorem Two.length {α β : Type} {P : α → β → Prop} : ∀ {as : List α} {bs : List β}, Two P as bs → as.length = bs.length
  | _, _, .nil => rfl
  | _, _, .cons _ t => by simp [Two.length t]
theorem Two.imp {α β : Type} {P P' : α → β → Prop} (f : ∀ a b, P a b → P' a b) : ∀ {as : List α} {bs : List β}, Two P as bs → Two P' as bs
  | _, _, .nil => .nil
  | _, _, .cons h t => .cons (f _ _ h) (Two.imp f t)
theorem lc_vals {gd : Store → Prop} {g : TG} {te : TE} {ρ : Env} {st : Store} {Q : K} {items : List D} (P : D → D → Prop) (hd : DrawAt st) (hl : items.length ≤ szl) (hg : ∀ st', Fra st st' → gd st')
    (hs : ∀ x ∈ items, ∀ st', Fra st st' → ∀ N : D → Store → Prop, (∀ y st2, P x y → Fra st' st2 → N y st2) → g x ρ st' fun ρ2 st2 => te ρ2 st2 N)
    (hQ : ∀ (ys : List D) st', Two P items ys → Fra st st' → rdL st' st.length ys → Q (.ref st.length) st') : lcLoop gd g tYes te ρ st.length Q items [] (st ++ [.lst []]) := by
  have h2 := hd.lt
  refine lc_by (fun pre acc st' => Two P pre acc ∧ Fra st st' ∧ rdL st' st.length acc) ⟨.nil, (Fra.refl hd).app, rdL_new⟩ (fun pre x post acc st' e ⟨h1, h5, h6⟩ N M hN hM => ?_) (fun acc st' ⟨h1, h5, h6⟩ => ?_)
  · refine ⟨hg _ h5, ?_⟩
    have e1 : (fun (ρ2 : Env) (st2 : Store) => tYes ρ2 st2 fun b st3 => (b = true → te ρ2 st3 N) ∧ (b = false → M st3)) = fun ρ2 st2 => te ρ2 st2 N := by
      funext ρ2 st2
      exact propext ⟨fun q => q.1 rfl, fun q => ⟨fun _ => q, fun e => nomatch e⟩⟩
    rw [e1]
    have hlen := congrArg List.length e
    simp at hlen
    refine hs x (by rw [e]; simp) st' h5 N fun y st2 hr f => ?_
    have h7 := f.rd h6 (by omega)
    exact hN _ _ h7 (by have := h1.length; omega) ⟨h1.snoc hr, (h5.trans f).set (Nat.le_refl _) (by omega), rdL_set h7⟩
  · exact ⟨hg _ h5, h6, hQ acc st' h1 h5 h6⟩
theorem not_any {α : Type} {p q : α → Bool} : ∀ {l : List α}, (∀ x ∈ l, p x = !q x) → (!l.any p) = l.all q
  | [], _ => rfl
  | x :: l, h => by
    rw [List.any_cons, List.all_cons, Bool.not_or, not_any (l := l) fun y hy => h y (List.mem_cons_of_mem _ hy), h x List.mem_cons_self, Bool.not_not]
/-- a filtered comprehension whose test and element read alone -/
theorem lc_filter {α : Type} {gd : Store → Prop} {g : TG} {tt : TT} {te : TE} {ρ : Env} {st : Store} {Q : K} (xs : List α) (f h : α → D) (p : α → Bool) {items : List D} (hi : items = xs.map f) (hl : xs.length ≤ szl) (hg : ∀ acc, gd (st ++ [.lst acc]))
    (hs : ∀ x, x ∈ xs → ∀ (acc : List D) (N : D → Store → Prop) (M : Store → Prop), (p x = true → N (h x) (st ++ [.lst acc])) → (p x = false → M (st ++ [.lst acc])) → g (f x) ρ (st ++ [.lst acc]) fun ρ2 st2 => tt ρ2 st2 fun b st3 => (b = true → te ρ2 st3 N) ∧ (b = false → M st3))
    (hd : Q (.ref st.length) (st ++ [.lst ((xs.filter p).map h)])) : lcLoop gd g tt te ρ st.length Q items [] (st ++ [.lst []]) := by
  subst hi
  refine lc_by (fun pre acc st' => acc = ((xs.take pre.length).filter p).map h ∧ st' = st ++ [.lst acc]) ⟨rfl, rfl⟩ (fun pre x post acc st' e ⟨h1, h2⟩ N M hN hM => ?_) (fun acc st' ⟨h1, h2⟩ => ?_)
  · subst h1; subst h2
    refine ⟨hg _, ?_⟩
    have hlen : pre.length < xs.length := by
      have := congrArg List.length e
      simp at this; omega
    have hx : xs[pre.length] ∈ xs := List.getElem_mem hlen
    have hfx : x = f xs[pre.length] := by
      have h2 : (xs.map f)[pre.length]? = some x := by rw [e]; simp
      rw [List.getElem?_map, List.getElem?_eq_getElem hlen] at h2
      simpa using h2.symm
    subst hfx
    have take1 : List.take (pre ++ [f xs[pre.length]]).length xs = List.take pre.length xs ++ [xs[pre.length]] := by
      rw [List.length_append]
      show List.take (pre.length + 1) xs = _
      rw [List.take_add_one, List.getElem?_eq_getElem hlen]
      rfl
    have hsz : (List.map h (List.filter p (List.take pre.length xs))).length < szl := by
      rw [List.length_map]
      have h3 := List.length_filter_le p (List.take pre.length xs)
      rw [List.length_take] at h3
      omega
    refine hs _ hx _ N M (fun hp => hN _ _ (by unfold rdL; simp) hsz ⟨?_, by rw [set_app]⟩) fun hp => hM _ (by unfold rdL; simp) ⟨?_, rfl⟩
    · rw [take1, List.filter_append, List.map_append]
      simp [hp]
    · rw [take1, List.filter_append, List.map_append]
      simp [hp]
  · subst h1; subst h2
    have e2 : List.take (List.map f xs).length xs = xs := by simp
    rw [e2] at *
    exact ⟨hg _, by unfold rdL; simp, hd⟩
/-- a comprehension with a test, of ints -/
theorem lc_some {gd : Store → Prop} {g : TG} {tt : TT} {te : TE} {ρ : Env} {st : Store} {Q : K} {items : List D} (P : Int → Prop) (hd : DrawAt st) (hl : items.length ≤ szl) (hg : ∀ st', Fra st st' → gd st')
    (hs : ∀ x ∈ items, ∀ st', Fra st st' → ∀ (N : D → Store → Prop) (M : Store → Prop), (∀ r st2, P r → Fra st' st2 → N (.int r) st2) → (∀ st2, Fra st' st2 → M st2) → g x ρ st' fun ρ2 st2 => tt ρ2 st2 fun b st3 => (b = true → te ρ2 st3 N) ∧ (b = false → M st3))
    (hQ : ∀ (rs : List Int) st', rs.length ≤ items.length → (∀ r ∈ rs, P r) → Fra st st' → rdL st' st.length (rs.map D.int) → Q (.ref st.length) st') : lcLoop gd g tt te ρ st.length Q items [] (st ++ [.lst []]) := by
  have h2 := hd.lt
  refine lc_by (fun pre acc st' => ∃ rs : List Int, acc = rs.map D.int ∧ rs.length ≤ pre.length ∧ (∀ r ∈ rs, P r) ∧ Fra st st' ∧ rdL st' st.length acc) ⟨[], rfl, Nat.le_refl _, by simp, (Fra.refl hd).app, rdL_new⟩ (fun pre x post acc st' e ⟨rs, h1, h3, h4, h5, h6⟩ N M hN hM => ?_) (fun acc st' ⟨rs, h1, h3, h4, h5, h6⟩ => ?_)
  · subst h1
    refine ⟨hg _ h5, ?_⟩
    have hlen := congrArg List.length e
    simp at hlen
    refine hs x (by rw [e]; simp) st' h5 N M (fun r st2 hr f => ?_) fun st2 f => hM _ (f.rd h6 (by omega)) ⟨rs, rfl, by simp; omega, h4, h5.trans f, f.rd h6 (by omega)⟩
    have h7 := f.rd h6 (by omega)
    refine hN _ _ h7 (by simp; omega) ⟨rs ++ [r], by simp, by simp [h3], ?_, (h5.trans f).set (Nat.le_refl _) (by omega), rdL_set h7⟩
    intro y hy
    rcases List.mem_append.mp hy with hy | hy
    · exact h4 y hy
    · simp at hy; subst hy; exact hr
  · subst h1
    exact ⟨hg _ h5, h6, hQ rs st' h3 h4 h5 h6⟩
/-- a comprehension of new lists -/
theorem lc_cells {gd : Store → Prop} {g : TG} {te : TE} {ρ : Env} {st : Store} {Q : K} {items : List D} (P : List D → Prop) (hd : DrawAt st) (hl : items.length ≤ szl) (hg : ∀ st', Fra st st' → gd st')
    (hs : ∀ x ∈ items, ∀ st', Fra st st' → ∀ N : D → Store → Prop, (∀ r xs st2, st'.length ≤ r → rdL st2 r xs → P xs → Fra st' st2 → N (.ref r) st2) → g x ρ st' fun ρ2 st2 => te ρ2 st2 N)
    (hQ : ∀ (rs : List Nat) st', rs.length = items.length → (∀ r ∈ rs, st.length < r ∧ ∃ xs, rdL st' r xs ∧ P xs) → Fra st st' → rdL st' st.length (rs.map D.ref) → Q (.ref st.length) st') : lcLoop gd g tYes te ρ st.length Q items [] (st ++ [.lst []]) := by
  have h2 := hd.lt
  refine lc_by (fun pre acc st' => ∃ rs : List Nat, acc = rs.map D.ref ∧ rs.length = pre.length ∧ (∀ r ∈ rs, st.length < r ∧ ∃ xs, rdL st' r xs ∧ P xs) ∧ Fra st st' ∧ rdL st' st.length acc) ⟨[], rfl, rfl, by simp, (Fra.refl hd).app, rdL_new⟩ (fun pre x post acc st' e ⟨rs, h1, h3, h4, h5, h6⟩ N M hN hM => ?_) (fun acc st' ⟨rs, h1, h3, h4, h5, h6⟩ => ?_)
  · subst h1
    refine ⟨hg _ h5, ?_⟩
    have e1 : (fun (ρ2 : Env) (st2 : Store) => tYes ρ2 st2 fun b st3 => (b = true → te ρ2 st3 N) ∧ (b = false → M st3)) = fun ρ2 st2 => te ρ2 st2 N := by
      funext ρ2 st2
      exact propext ⟨fun q => q.1 rfl, fun q => ⟨fun _ => q, fun e => nomatch e⟩⟩
    rw [e1]
    have hlen := congrArg List.length e
    simp at hlen
    refine hs x (by rw [e]; simp) st' h5 N fun r xs st2 hb hr hp f => ?_
    have h7 := f.rd h6 (by omega)
    have h8 := rdL_lt h6
    refine hN _ _ h7 (by simp; omega) ⟨rs ++ [r], by simp, by simp [h3], ?_, (h5.trans f).set (Nat.le_refl _) (by omega), rdL_set h7⟩
    intro y hy
    rcases List.mem_append.mp hy with hy | hy
    · obtain ⟨q1, ys, q2, q3⟩ := h4 y hy
      exact ⟨q1, ys, rdL_ne (f.rd q2 (by omega)) (by omega), q3⟩
    · simp at hy; subst hy
      exact ⟨by omega, xs, rdL_ne hr (by omega), hp⟩
  · subst h1
    exact ⟨hg _ h5, h6, hQ rs st' h3 h4 h5 h6⟩
theorem Two.mem {α β : Type} {P : α → β → Prop} {S : List α} : ∀ {as : List α} {bs : List β}, (∀ a ∈ as, a ∈ S) → Two (fun a b => a ∈ S → P a b) as bs → Two P as bs
  | _, _, _, .nil => .nil
  | _, _, hS, .cons h t => .cons (h (hS _ List.mem_cons_self)) (Two.mem (fun a ha => hS a (List.mem_cons_of_mem _ ha)) t)
theorem Two.on {α β : Type} {P : α → β → Prop} {as : List α} {bs : List β} (h : Two (fun a b => a ∈ as → P a b) as bs) : Two P as bs := Two.mem (fun _ h => h) h
theorem Two.split {α β γ : Type} {P : α → β → Prop} {R : γ → Prop} {f : γ → β} (h : ∀ a b, P a b → ∃ c, b = f c ∧ R c) : ∀ {as : List α} {bs : List β}, Two P as bs → ∃ cs : List γ, bs = cs.map f ∧ cs.length = as.length ∧ ∀ c ∈ cs, R c
  | _, _, .nil => ⟨[], rfl, rfl, by simp⟩
  | _, _, .cons p t => by
    obtain ⟨c, h1, h2⟩ := h _ _ p
    obtain ⟨cs, h3, h4, h5⟩ := Two.split h t
    refine ⟨c :: cs, by rw [h1, h3]; rfl, by simp [h4], ?_⟩
    intro x hx
    rcases List.mem_cons.mp hx with hx | hx
    · rw [hx]; exact h2
    · exact h5 x hx
/-! ### masks -/
theorem pow2_pos (n : Nat) : (0 : Int) < 2 ^ n := Int.pow_pos (by decide)
theorem pw_bd {w : Int} (h0 : 0 ≤ w) (h1 : w ≤ 8) : 0 < (2 : Int) ^ w.toNat ∧ (2 : Int) ^ w.toNat ≤ 256 := by
  have h2 : w.toNat ≤ 8 := by omega
  have h := pow2_pos w.toNat
  have h3 := Nat.pow_le_pow_right (n := 2) (by decide) h2
  have e : ((2 : Int) ^ w.toNat) = ((2 ^ w.toNat : Nat) : Int) := by simp
  constructor
  · exact h
  · rw [e]; omega
theorem and_le {x m : Int} (hm : 0 ≤ m) : 0 ≤ Builtin.bitAnd x m ∧ Builtin.bitAnd x m ≤ m := by
  unfold Builtin.bitAnd
  by_cases hx : 0 ≤ x
  · simp only [hx, hm, decide_true]
    have := Nat.and_le_right (n := x.toNat) (m := m.toNat)
    omega
  · simp only [hx, hm, decide_true, decide_false]
    have := Nat.and_le_left (n := m.toNat) (m := (Builtin.bitNot x).toNat)
    omega
theorem and_mask {x : Int} {n : Nat} (hx : 0 ≤ x) : Builtin.bitAnd x (2 ^ n - 1) = x % 2 ^ n := by
  have hm : (0 : Int) ≤ 2 ^ n - 1 := by have := pow2_pos n; omega
  unfold Builtin.bitAnd
  simp only [hx, hm, decide_true]
  have e1 : (2 ^ n - 1 : Int).toNat = 2 ^ n - 1 := by
    have : (2 ^ n : Int) = ((2 ^ n : Nat) : Int) := by simp
    rw [this]
    have := Nat.two_pow_pos n
    omega
  rw [e1, Nat.and_two_pow_sub_one_eq_mod]
  have : (2 ^ n : Int) = ((2 ^ n : Nat) : Int) := by simp
  rw [this, Int.natCast_emod, Int.toNat_of_nonneg hx]
theorem or_one {x : Int} (hx : 0 ≤ x) : Builtin.bitOr x 1 = x + 1 - x % 2 := by
  unfold Builtin.bitOr Builtin.bitNot Builtin.bitAnd
  have h1 : ¬ (0 ≤ -x - 1) := by omega
  have h2 : ¬ ((0 : Int) ≤ -1 - 1) := by omega
  simp only [h1, h2, decide_false]
  unfold Builtin.bitNot
  have e1 : (-(-x - 1) - 1).toNat = x.toNat := by omega
  have e2 : (-(-1 - 1 : Int) - 1).toNat = 1 := by decide
  rw [e1, e2]
  have h3 : x.toNat ||| 1 = x.toNat + 1 - x.toNat % 2 := by
    have h4 := Nat.div_add_mod x.toNat 2
    have h6 : 2 * (x.toNat / 2) ||| 1 = 2 * (x.toNat / 2) + 1 := (Nat.two_pow_add_eq_or_of_lt (i := 1) (by decide) (x.toNat / 2)).symm
    rcases Nat.mod_two_eq_zero_or_one x.toNat with h5 | h5
    · have : x.toNat = 2 * (x.toNat / 2) := by omega
      rw [h5]
      rw [← this] at h6
      omega
    · have : x.toNat = 2 * (x.toNat / 2) ||| 1 := by omega
      rw [h5]
      have h7 : x.toNat ||| 1 = x.toNat := by
        conv => lhs; rw [this]
        rw [Nat.or_assoc, Nat.or_self]
        exact this.symm
      omega
  rw [h3]
  omega
end Pd
end PartPdLib

section PartPdKit
set_option Elab.async false
set_option linter.all false
set_option maxRecDepth 100000
/-! Pd: small defs that several laws have. Own work. -/
namespace Pd
open PySem
local macro_rules | `(tactic| walk_at "s") => `(tactic| (repeat (refine Red.red ?_)))
local macro_rules | `(tactic| walk_at "r") => `(tactic| (repeat (first | refine Red.red ?_ | refine Nxt.mk ?_)))
instance {x : D} {xs : List D} {st : Store} {r : Bool → Prop} : Red (inC x (.tup xs) st r) (x.flat = true ∧ xs.all D.flat = true ∧ r (xs.any fun y => D.eqb y x)) := ⟨id⟩
instance {x : D} {xs : List D} {st : Store} {r : Bool → Prop} : Red (notinC x (.tup xs) st r) (x.flat = true ∧ xs.all D.flat = true ∧ r (!xs.any fun y => D.eqb y x)) := ⟨id⟩
/-- a, b = x, y -/
def ParK (i j : Nat) (xs : List D) (σ : Env) (q : Env → Prop) : Prop := ∃ x y, xs = [x, y] ∧ q ((σ.set i (some x)).set j (some y))
instance {i j : Nat} {Ar : TA} {D0 : Ends} {σ : Env} {st : Store} : Red (sPar i j Ar D0 σ st) (Ar σ st fun xs st1 => ParK i j xs σ fun σ' => D0.nx σ' st1) := ⟨id⟩
instance {i j : Nat} {σ σ' σ'' : Env} {x y : D} {q : Env → Prop} [h : SetE σ i (some x) σ'] [h' : SetE σ' j (some y) σ''] : Red (ParK i j [x, y] σ q) (q σ'') := ⟨fun z => ⟨x, y, rfl, by rw [h.eq, h'.eq]; exact z⟩⟩
instance {a b : Bool} {st : Store} {r : Bool → Prop} : Red (eqC (.bl a) (.bl b) st r) (r (a == b)) := ⟨fun h => ⟨rfl, rfl, h⟩⟩
instance {a b : Bool} {st : Store} {r : Bool → Prop} : Red (neC (.bl a) (.bl b) st r) (r (!(a == b))) := ⟨fun h => ⟨rfl, rfl, h⟩⟩
theorem at_is {xs : List D} {i : Int} {d : D} {P : D → Prop} (h : atD xs i = some d) (q : P d) : ∃ d, atD xs i = some d ∧ P d := ⟨d, h, q⟩
theorem zipD_maps {α β : Type} (f : α → D) (g : β → D) : ∀ (xs : List α) (ys : List β), zipD (xs.map f) (ys.map g) = (xs.zip ys).map fun p => D.tup [f p.1, g p.2]
  | [], ys => by cases ys <;> rfl
  | x :: xs, [] => rfl
  | x :: xs, y :: ys => by simp [zipD, zipD_maps f g xs ys]
mutual
theorem eqb_refl : ∀ (n : Nat) (d : D), D.okd n d = true → D.eqb d d = true
  | _, .non, _ => rfl
  | _, .bl b, _ => by simp [D.eqb]
  | _, .int i, _ => by simp [D.eqb]
  | _, .str x, _ => by simp [D.eqb]
  | 0, .tup _, h => by simp [D.okd] at h
  | n + 1, .tup xs, h => by
    have := eqbs_refl n xs (by simpa [D.okd] using h)
    simpa [D.eqb] using this
  | _, .ref _, h => by simp [D.okd] at h
theorem eqbs_refl : ∀ (n : Nat) (ds : List D), okds n ds = true → eqbs ds ds = true
  | _, [], _ => rfl
  | n, d :: ds, h => by
    have h' : D.okd n d = true ∧ okds n ds = true := by simpa [okds] using h
    have h1 := eqb_refl n d h'.1
    have h2 := eqbs_refl n ds h'.2
    simp [eqbs, h1, h2]
end
theorem okds_all (n : Nat) : ∀ ds : List D, okds n ds = ds.all (D.okd n)
  | [] => rfl
  | d :: ds => by simp [okds, okds_all n ds]
theorem ne_self {d : D} {st : Store} {r : Bool → Prop} (h : D.okd 60 d = true) (hr : ∀ n, d ≠ .ref n) (q : r false) : neC d d st r := by
  have e := eqb_refl 60 d h
  have key : eqC d d st fun b => r (!b) := by
    cases d with
    | ref n => exact absurd rfl (hr n)
    | non => exact ⟨h, h, by rw [e]; exact q⟩
    | bl b => exact ⟨h, h, by rw [e]; exact q⟩
    | int b => exact ⟨h, h, by rw [e]; exact q⟩
    | str b => exact ⟨h, h, by rw [e]; exact q⟩
    | tup b => exact ⟨h, h, by rw [e]; exact q⟩
  exact key
/-! dicts -/
theorem put_len (kvs : List (Ky × D)) (k : Ky) (v : D) : (putD kvs k v).length ≤ kvs.length + 1 := by
  unfold putD
  split <;> simp
theorem val_put (kvs : List (Ky × D)) (k j : Ky) (v : D) : valD (putD kvs k v) j = if j = k then some v else valD kvs j := by
  unfold putD
  split
  · rename_i h
    induction kvs with
    | nil => simp at h
    | cons p kvs ih =>
      obtain ⟨a, d⟩ := p
      by_cases e : a = k
      · subst e
        by_cases ej : j = a
        · subst ej; simp [valD]
        · have ej' : ¬ a = j := fun z => ej z.symm
          have rest : ∀ l : List (Ky × D), valD (l.map fun kv => if kv.1 = a then (kv.1, v) else kv) j = valD l j := by
            intro l
            induction l with
            | nil => rfl
            | cons q l ih2 =>
              obtain ⟨b, z⟩ := q
              by_cases eb : b = a
              · subst eb
                simp [valD, ej'] at ih2 ⊢
                exact ih2
              · by_cases ebj : b = j
                · subst ebj; simp [valD, eb]
                · simp [valD, eb, ebj] at ih2 ⊢
                  exact ih2
          rw [if_neg ej]
          exact rest _
      · have h' : (kvs.any fun kv => decide (kv.1 = k)) = true := by simpa [e] using h
        have ih' := ih h'
        by_cases ea : a = j
        · subst ea
          simp [valD, e]
        · simp [valD, e, ea] at ih' ⊢
          exact ih'
  · rename_i h
    have hno : ∀ p ∈ kvs, ¬ p.1 = k := fun p hp e => h (List.any_eq_true.mpr ⟨p, hp, by simp [e]⟩)
    clear h
    induction kvs with
    | nil =>
      by_cases e : j = k
      · subst e; simp [valD]
      · have : ¬ k = j := fun z => e z.symm
        simp [valD, e, this]
    | cons p kvs ih =>
      obtain ⟨a, d⟩ := p
      have hak : ¬ a = k := hno (a, d) List.mem_cons_self
      have ih' := ih fun q hq => hno q (List.mem_cons_of_mem _ hq)
      by_cases ea : a = j
      · subst ea
        rw [if_neg hak]
        simp [valD]
      · simp [valD, ea] at ih' ⊢
        exact ih'
theorem dc_pure {α : Type} {gd : Store → Prop} {g : TG} {tk tv : TE} {ρ : Env} {st : Store} {Q : K} (f : α → D) (kf : α → Ky) (vf : α → D) (hg : ∀ acc, gd (st ++ [.dic acc])) : ∀ (xs : List α) (acc : List (Ky × D)) {items : List D}, items = xs.map f → acc.length + xs.length ≤ szl →
    (∀ x, x ∈ xs → ∀ (acc : List (Ky × D)) (N : D → D → Store → Prop), N (keyD (kf x)) (vf x) (st ++ [.dic acc]) → g (f x) ρ (st ++ [.dic acc]) fun ρ2 st2 => tk ρ2 st2 fun y st4 => tv ρ2 st4 fun z st5 => N y z st5) →
    Q (.ref st.length) (st ++ [.dic (xs.foldl (fun acc x => putD acc (kf x) (vf x)) acc)]) → dcLoop gd g tYes tk tv ρ st.length Q items acc (st ++ [.dic acc])
  | [], acc, items, e, hl, hs, hd => by
    subst e
    exact ⟨hg _, by unfold rdD; simp, hd⟩
  | x :: xs, acc, items, e, hl, hs, hd => by
    subst e
    refine ⟨hg _, ?_⟩
    have e1 : ∀ (R : D → D → Store → Prop), (fun (ρ2 : Env) (st2 : Store) => tYes ρ2 st2 fun b st3 => (b = true → tk ρ2 st3 fun y st4 => tv ρ2 st4 fun z st5 => R y z st5) ∧ (b = false → rdD st3 st.length acc ∧ dcLoop gd g tYes tk tv ρ st.length Q (xs.map f) acc st3)) = fun ρ2 st2 => tk ρ2 st2 fun y st4 => tv ρ2 st4 fun z st5 => R y z st5 := fun R => by
      funext ρ2 st2
      exact propext ⟨fun q => q.1 rfl, fun q => ⟨fun _ => q, fun e => nomatch e⟩⟩
    rw [e1]
    simp only [List.length_cons] at hl
    refine hs x List.mem_cons_self acc _ ⟨kf x, rfl, by unfold rdD; simp, by omega, ?_⟩
    have e2 : (st ++ [C.dic acc]).set st.length (.dic (putD acc (kf x) (vf x))) = st ++ [.dic (putD acc (kf x) (vf x))] := by
      rw [List.set_append_right _ _ (Nat.le_refl _)]; simp
    rw [e2]
    have := put_len acc (kf x) (vf x)
    exact dc_pure f kf vf hg xs _ rfl (by omega) (fun y hy => hs y (List.mem_cons_of_mem _ hy)) hd
section
variable {prog : String → Option Def} {k : Nat} {st : Store} {Q : K}
def pickBody (c : Cl) : TS := sRet (dOp ixK (dVar 1) (dCall c "_law_draw" (aCons (dVar 0) (aCons (dB lenB (aCons (dVar 1) (aNil))) (aNil)))))
theorem pick_ok (hp : prog "_law_pick" = some ⟨2, 2, pickBody⟩) (hp2 : prog "_law_draw" = some ⟨2, 5, drawBody⟩) {n : Nat} {xs : List D} (hd : DrawAt st) (h : rdL st n xs) (hn : n ≠ 2) (h0 : 0 < xs.length) (h1 : xs.length < 1073741824)
    (q : ∀ x st', x ∈ xs → Fra st st' → st'.length = st.length → Q x st') : callN prog (k + 2) "_law_pick" [.ref 2, .ref n] st Q := by
  refine call_intro hp rfl ?_
  unfold pickBody
  walk_at "r"
  refine len_at h ?_
  walk_at "r"
  refine draw_ok hp2 hd (by omega) (by omega) fun r st' r0 r1 f fl => ?_
  obtain ⟨x, hx, _, e⟩ := atD_of (xs := xs) r0 r1
  exact ix_at (f.rd h hn) e (q x st' hx f fl)
theorem pickT_ok (hp : prog "_law_pick" = some ⟨2, 2, pickBody⟩) (hp2 : prog "_law_draw" = some ⟨2, 5, drawBody⟩) {xs : List D} (hd : DrawAt st) (h0 : 0 < xs.length) (h1 : xs.length < 1073741824)
    (q : ∀ x st', x ∈ xs → Fra st st' → st'.length = st.length → Q x st') : callN prog (k + 2) "_law_pick" [.ref 2, .tup xs] st Q := by
  refine call_intro hp rfl ?_
  unfold pickBody
  walk_at "r"
  refine draw_ok hp2 hd (by omega) (by omega) fun r st' r0 r1 f fl => ?_
  obtain ⟨x, hx, _, e⟩ := atD_of (xs := xs) r0 r1
  exact ⟨x, e, q x st' hx f fl⟩
def rareBody (c : Cl) : TS := sRet (dCmp eqC (dCall c "_law_draw" (aCons (dVar 0) (aCons (dVar 1) (aNil)))) (dOp fdivK (dVar 1) (dC (.int 2))))
theorem rareK_ok (hp : prog "_law_rare" = some ⟨2, 2, rareBody⟩) (hp2 : prog "_law_draw" = some ⟨2, 5, drawBody⟩) {many : Int} (h : DrawAt st) (h0 : 0 < many) (h1 : many < 1073741824) (q : ∀ b st', Fra st st' → st'.length = st.length → Q (.bl b) st') : callN prog (k + 2) "_law_rare" [.ref 2, .int many] st Q := by
  refine call_intro hp rfl ?_
  unfold rareBody
  walk_at "r"
  refine draw_ok hp2 h h0 h1 fun r st' r0 r1 f fl => ?_
  walk_at "r"
  refine ⟨⟨by decide, by decide⟩, ?_⟩
  walk_at "r"
  exact q _ _ f fl
def isIntBody (c : Cl) : TS := sRet (dAndT (dIsi .int (dVar 0)) (dNotT (dIsi .bool (dVar 0))))
theorem isInt_ok (hp : prog "_law_is_int" = some ⟨1, 1, isIntBody⟩) {i : Int} (q : Q (.bl true) st) : callN prog (k + 1) "_law_is_int" [.int i] st Q := by
  refine call_intro hp rfl ?_
  unfold isIntBody
  walk_at "r"
  refine wayT rfl ?_
  walk_at "r"
  exact q
def fullI (w : Int) : Int := 2 ^ w.toNat - 1
theorem fullI_bd {w : Int} (h0 : 0 ≤ w) (h1 : w ≤ 8) : 0 ≤ fullI w ∧ fullI w ≤ 255 := by
  have := pw_bd h0 h1
  unfold fullI
  omega
theorem cmul_small {a b : Int} (h0 : 0 ≤ b) (h1 : b ≤ 1000000) : cMul a b := .inr ⟨by omega, by omega⟩
theorem cpow_small {w : Int} (h0 : 0 ≤ w) (h1 : w ≤ 1000) : cPow 1 w := ⟨h0, by omega, by decide⟩
def greatestBody (c : Cl) : TS := sRet (dOp subK (dOp shlK (dC (.int 1)) (dVar 0)) (dC (.int 1)))
theorem greatest_ok (hp : prog "greatest" = some ⟨1, 1, greatestBody⟩) {w : Int} (h0 : 0 ≤ w) (h1 : w ≤ 8) (q : Q (.int (fullI w)) st) : callN prog (k + 1) "greatest" [.int w] st Q := by
  refine call_intro hp rfl ?_
  unfold greatestBody
  walk_at "r"
  refine ⟨cpow_small h0 (by omega), ?_⟩
  walk_at "r"
  rw [Int.one_mul]
  exact q
/-- the first place of n at which P holds -/
def Fnd (P : Nat → Prop) (n : Nat) : Option Nat → Prop
  | some t => t < n ∧ P t ∧ ∀ u, u < t → ¬ P u
  | none => ∀ u, u < n → ¬ P u
theorem Fnd.uniq {P : Nat → Prop} {n : Nat} : ∀ {r r' : Option Nat}, Fnd P n r → Fnd P n r' → r = r'
  | none, none, _, _ => rfl
  | some t, none, h, h' => absurd h.2.1 (h' t h.1)
  | none, some t, h, h' => absurd h'.2.1 (h t h'.1)
  | some t, some t', h, h' => by
    rcases Nat.lt_trichotomy t t' with e | e | e
    · exact absurd h.2.1 (h'.2.2 t e)
    · rw [e]
    · exact absurd h'.2.1 (h.2.2 t' e)
def optD : Option Nat → D
  | some t => .int t
  | none => .non
/-- cells are as they were, but the drawer and p -/
structure FraE (p : Nat) (st st' : Store) : Prop where
  dr : DrawAt st'
  le : st.length ≤ st'.length
  at' : ∀ n, n < st.length → n ≠ 2 → n ≠ p → st'[n]? = st[n]?
theorem FraE.rd {p : Nat} {st st' : Store} (f : FraE p st st') {n : Nat} {xs : List D} (h : rdL st n xs) (ne : n ≠ 2) (ne' : n ≠ p) : rdL st' n xs := by
  unfold rdL at *
  rw [f.at' n (rdL_lt h) ne ne']; exact h
theorem FraE.of {p : Nat} {st st' : Store} (f : Fra st st') : FraE p st st' := ⟨f.dr, f.le, fun n h1 h2 _ => f.at' n h1 h2⟩
theorem FraE.trans {p : Nat} {a b c : Store} (h : FraE p a b) (h' : FraE p b c) : FraE p a c := ⟨h'.dr, Nat.le_trans h.le h'.le, fun n hn ne ne' => (h'.at' n (Nat.lt_of_lt_of_le hn h.le) ne ne').trans (h.at' n hn ne ne')⟩
theorem FraE.setP {p : Nat} {st st' : Store} {c : C} (f : FraE p st st') (h2 : 2 < p) : FraE p st (st'.set p c) := ⟨f.dr.set h2, by simp; exact f.le, fun m hm ne ne' => by
  rw [List.getElem?_set_ne (Ne.symm ne')]; exact f.at' m hm ne ne'⟩
theorem FraE.fra {p : Nat} {st st' : Store} (f : FraE p st st') (h : st.length ≤ p) : Fra st st' := ⟨f.dr, f.le, fun n hn ne => f.at' n hn ne (by omega)⟩
theorem FraE.setN {p : Nat} {st st' : Store} {n : Nat} {c : C} (f : FraE p st st') (hn : st.length ≤ n) (h2 : 2 < n) : FraE p st (st'.set n c) := ⟨f.dr.set h2, by simp; exact f.le, fun m hm ne ne' => by
  rw [List.getElem?_set_ne (by omega)]; exact f.at' m hm ne ne'⟩
/-- cells of before are as they were; the new ones, g among them, as they come -/
structure FraG (g : Nat) (st st' : Store) : Prop where
  big : st.length ≤ g
  at' : ∀ n, n < st.length → st'[n]? = st[n]?
  le : st.length ≤ st'.length
theorem FraG.new {st : Store} {c : C} : FraG st.length st (st ++ [c]) := ⟨Nat.le_refl _, fun n h => List.getElem?_append_left h, by simp⟩
theorem FraG.refl {st : Store} {g : Nat} (h : st.length ≤ g) : FraG g st st := ⟨h, fun _ _ => rfl, Nat.le_refl _⟩
theorem FraG.rd {g : Nat} {st st' : Store} (f : FraG g st st') {n : Nat} {xs : List D} (h : rdL st n xs) (hn : n < st.length) : rdL st' n xs := by
  unfold rdL at *
  rw [f.at' n hn]; exact h
theorem FraG.app {g : Nat} {st st' : Store} {c : C} (f : FraG g st st') : FraG g st (st' ++ [c]) := ⟨f.big, fun n h => by rw [List.getElem?_append_left (Nat.lt_of_lt_of_le h f.le)]; exact f.at' n h, by simp; have := f.le; omega⟩
theorem FraG.setG {g : Nat} {st st' : Store} {c : C} (f : FraG g st st') : FraG g st (st'.set g c) := ⟨f.big, fun n h => by
  have := f.big
  rw [List.getElem?_set_ne (by omega)]; exact f.at' n h, by simp; exact f.le⟩
theorem FraG.setN {g n : Nat} {st st' : Store} {c : C} (f : FraG g st st') (hn : st.length ≤ n) : FraG g st (st'.set n c) := ⟨f.big, fun m h => by
  rw [List.getElem?_set_ne (by omega)]; exact f.at' m h, by simp; exact f.le⟩
theorem FraG.grw {g : Nat} {st st' : Store} (f : FraG g st st') : Grw st st' := by
  refine ⟨st'.drop st.length, ?_⟩
  apply List.ext_getElem?
  intro n
  by_cases h : n < st.length
  · rw [f.at' n h, List.getElem?_append_left h]
  · rw [List.getElem?_append_right (by omega), List.getElem?_drop, show st.length + (n - st.length) = n by omega]
theorem FraG.more {g : Nat} {st st' st2 : Store} (f : FraG g st st') (h : Grw st' st2) : FraG g st st2 := by
  obtain ⟨m, rfl⟩ := h
  exact ⟨f.big, fun n h => by rw [List.getElem?_append_left (Nat.lt_of_lt_of_le h f.le)]; exact f.at' n h, by simp; have := f.le; omega⟩
/-- the element adds cells alone: the new list is the map -/
theorem lc_mapG {α : Type} {gd : Store → Prop} {g : TG} {te : TE} {ρ : Env} (xs : List α) (f h : α → D) {items : List D} (hi : items = xs.map f) (hl : xs.length ≤ szl) (hg : ∀ st', FraG st.length st st' → gd st')
    (hs : ∀ x, x ∈ xs → ∀ (st1 : Store) (N : D → Store → Prop), FraG st.length st st1 → (∀ st2, Grw st1 st2 → N (h x) st2) → g (f x) ρ st1 fun ρ2 st2 => te ρ2 st2 N)
    (hd : ∀ st', FraG st.length st st' → rdL st' st.length (xs.map h) → Q (.ref st.length) st') : lcLoop gd g tYes te ρ st.length Q items [] (st ++ [.lst []]) := by
  subst hi
  refine lc_by (fun pre acc st' => acc = (xs.take pre.length).map h ∧ FraG st.length st st' ∧ rdL st' st.length acc) ⟨rfl, FraG.new, rdL_new⟩ (fun pre x post acc st' e ⟨h1, h5, h6⟩ N M hN hM => ?_) (fun acc st' ⟨h1, h5, h6⟩ => ?_)
  · refine ⟨hg _ h5, ?_⟩
    have e1 : (fun (ρ2 : Env) (st2 : Store) => tYes ρ2 st2 fun b st3 => (b = true → te ρ2 st3 N) ∧ (b = false → M st3)) = fun ρ2 st2 => te ρ2 st2 N := by
      funext ρ2 st2
      exact propext ⟨fun q => q.1 rfl, fun q => ⟨fun _ => q, fun e => nomatch e⟩⟩
    rw [e1]
    have hlen := congrArg List.length e
    simp at hlen
    have hx : (xs.map f)[pre.length]? = some x := by rw [e]; simp
    rw [List.getElem?_map] at hx
    cases hy : xs[pre.length]? with
    | none => rw [hy] at hx; cases hx
    | some y =>
      rw [hy] at hx
      cases hx
      refine hs y (List.mem_of_getElem? hy) st' _ h5 fun st2 gr => ?_
      have h7 := gr.rd h6
      refine hN _ _ h7 (by rw [h1]; simp; omega) ⟨?_, (h5.more gr).setG, rdL_set h7⟩
      rw [List.length_append]
      show _ = (xs.take (pre.length + 1)).map h
      rw [List.take_add_one, hy, List.map_append, h1]; rfl
  · rw [List.length_map, List.take_length] at h1
    subst h1
    exact ⟨hg _ h5, h6, hd st' h5 h6⟩
def popBody (c : Cl) : TS := sRet (dM tyLst popM (dVar 1) (aCons (dCall c "_law_draw" (aCons (dVar 0) (aCons (dB lenB (aCons (dVar 1) (aNil))) (aNil)))) (aNil)))
theorem pop_ok (hp : prog "_law_pop" = some ⟨2, 2, popBody⟩) (hp2 : prog "_law_draw" = some ⟨2, 5, drawBody⟩) {n : Nat} {xs : List D} (hd : DrawAt st) (h : rdL st n xs) (hn : 2 < n) (h0 : 0 < xs.length) (h1 : xs.length < 1073741824)
    (q : ∀ (i : Nat) x st', xs[i]? = some x → FraE n st st' → rdL st' n (xs.eraseIdx i) → st'.length = st.length → Q x st') : callN prog (k + 2) "_law_pop" [.ref 2, .ref n] st Q := by
  refine call_intro hp rfl ?_
  unfold popBody
  walk_at "r"
  refine ⟨ty_at h, ?_⟩
  walk_at "r"
  refine len_at h ?_
  walk_at "r"
  refine draw_ok hp2 hd (by omega) (by omega) fun r st' r0 r1 f fl => ?_
  walk_at "r"
  obtain ⟨x, hx, e', e⟩ := atD_of (xs := xs) r0 r1
  have h' := f.rd h (by omega)
  exact ⟨xs, x, h', ⟨r0, by omega⟩, e, q r.toNat x _ e' ((FraE.of f).setP hn) (rdL_set h') (by simp [fl])⟩

def shuffledBody (c : Cl) : TS := sSeq (sAsg (dB listB (aCons (dVar 1) (aNil))) (gName 2)) (sSeq (sAsg (dLst (aNil)) (gName 3)) (sSeq (sFor (iR1 (dB lenB (aCons (dVar 2) (aNil)))) (gName 4) (sExpr (dM tyLst appendM (dVar 3) (aCons (dM tyLst popM (dVar 2) (aCons (dCall c "_law_draw" (aCons (dVar 0) (aCons (dB lenB (aCons (dVar 2) (aNil))) (aNil)))) (aNil))) (aNil))))) (sRet (dVar 3))))
theorem perm_erase {α : Type} {x : α} : ∀ {l : List α} {i : Nat}, l[i]? = some x → (x :: l.eraseIdx i).Perm l
  | [], _, h => by simp at h
  | a :: l, 0, h => by simp at h; subst h; exact List.Perm.refl _
  | a :: l, i + 1, h => (List.Perm.swap a x _).trans ((perm_erase (l := l) (i := i) (by simpa using h)).cons a)
theorem shuffled_ok (hp : prog "_law_shuffled" = some ⟨2, 5, shuffledBody⟩) (hp2 : prog "_law_draw" = some ⟨2, 5, drawBody⟩) {n : Nat} {xs : List D} (hd : DrawAt st) (h : rdL st n xs) (hn : 2 < n) (h1 : xs.length < 1000000)
    (q : ∀ fn ys st', ys.Perm xs → st.length ≤ fn → rdL st' fn ys → Fra st st' → Q (.ref fn) st') : callN prog (k + 2) "_law_shuffled" [.ref 2, .ref n] st Q := by
  refine call_intro hp rfl ?_
  unfold shuffledBody
  have d2 := hd.lt
  walk_at "r"
  refine list_at h ?_
  walk_at "r"
  refine ⟨by show 0 ≤ szl; decide, ?_⟩
  walk_at "r"
  refine len_at (rdL_app rdL_new) ?_
  walk_at "r"
  refine ⟨by omega, by omega, ?_⟩
  have l1 : st.length < (st ++ [C.lst xs]).length := by simp
  have f0 := ((Fra.refl hd).app (c := C.lst xs)).app (c := C.lst [])
  have hf0 := rdL_new (st := st ++ [C.lst xs]) (xs := [])
  have hl0 : rdL (st ++ [C.lst xs] ++ [C.lst []]) st.length xs := rdL_app rdL_new
  generalize (st ++ [C.lst xs]).length = fn at l1 hf0 ⊢
  generalize (st ++ [C.lst xs] ++ [C.lst []]) = st1 at f0 hf0 hl0 ⊢
  refine for_rng (fun j σ st' => ∃ y4 ls fs, σ = [some (.ref 2), some (.ref n), some (.ref st.length), some (.ref fn), y4] ∧ rdL st' st.length ls ∧ rdL st' fn fs ∧ (fs ++ ls).Perm xs ∧ fs.length = j ∧ Fra st st') ⟨none, xs, [], rfl, hl0, hf0, List.Perm.refl _, rfl, f0⟩ (fun j σ st' hj ⟨y4, ls, fs, e, hls, hfs, pm, hfl, f⟩ N hN => ?_) (fun σ st' ⟨y4, ls, fs, e, hls, hfs, pm, hfl, f⟩ => ?_)
  · subst e
    have hpl := pm.length_eq
    rw [List.length_append] at hpl
    refine ⟨trivial, ?_⟩
    walk_at "r"
    refine ⟨ty_at hfs, ?_⟩
    walk_at "r"
    refine ⟨ty_at hls, ?_⟩
    walk_at "r"
    refine len_at hls ?_
    walk_at "r"
    refine draw_ok hp2 f.dr (by omega) (by omega) fun r st2 r0 r1 f2 l2 => ?_
    walk_at "r"
    obtain ⟨x, hx, e', e⟩ := atD_of (xs := ls) r0 r1
    have hls2 := f2.rd hls (by omega)
    have hfs2 := f2.rd hfs (by omega)
    refine ⟨ls, x, hls2, ⟨r0, by omega⟩, e, ?_⟩
    walk_at "r"
    have hfs3 : rdL (st2.set st.length (.lst (ls.eraseIdx r.toNat))) fn fs := rdL_ne hfs2 (by omega)
    refine append_at hfs3 (by unfold szl; omega) ?_
    refine hN _ _ ⟨_, ls.eraseIdx r.toNat, fs ++ [x], rfl, rdL_ne (rdL_set hls2) (by omega), rdL_set hfs3, ?_, by simp [hfl], ((f.trans f2).set (Nat.le_refl _) d2).set (by omega) (by omega)⟩
    rw [List.append_assoc]
    exact ((perm_erase e').append_left fs).trans pm
  · subst e
    refine ⟨trivial, ?_⟩
    walk_at "r"
    have hpl := pm.length_eq
    rw [List.length_append] at hpl
    have hl : ls = [] := List.eq_nil_of_length_eq_zero (by omega)
    subst hl
    rw [List.append_nil] at pm
    exact q fn fs st' pm (by omega) hfs f
theorem and_maskZ (x : Int) (n : Nat) : Builtin.bitAnd x (2 ^ n - 1) = x % 2 ^ n := by
  by_cases hx : 0 ≤ x
  · exact and_mask hx
  · have hm : (0 : Int) ≤ 2 ^ n - 1 := by have := pow2_pos n; omega
    unfold Builtin.bitAnd
    simp only [hx, hm, decide_true, decide_false]
    unfold Builtin.bitNot
    have e1 : (2 ^ n - 1 : Int).toNat = 2 ^ n - 1 := by
      have : (2 ^ n : Int) = ((2 ^ n : Nat) : Int) := by simp
      rw [this]
      have := Nat.two_pow_pos n
      omega
    obtain ⟨m, hm2⟩ : ∃ m : Nat, (-x - 1).toNat = m := ⟨_, rfl⟩
    have hx2 : x = -(m : Int) - 1 := by omega
    rw [hm2, e1, Nat.and_comm, Nat.and_two_pow_sub_one_eq_mod, hx2]
    have hp := pow2_pos n
    have c : ((2 : Int) ^ n) = ((2 ^ n : Nat) : Int) := by simp
    have h1 := Nat.div_add_mod m (2 ^ n)
    have h2 := Nat.mod_lt m (Nat.two_pow_pos n)
    have h3 : -(m : Int) - 1 = ((2 : Int) ^ n - 1 - ((m % 2 ^ n : Nat) : Int)) + 2 ^ n * (-((m / 2 ^ n : Nat) : Int) - 1) := by
      have h4 : (m : Int) = 2 ^ n * ((m / 2 ^ n : Nat) : Int) + ((m % 2 ^ n : Nat) : Int) := by
        rw [c, ← Int.natCast_mul, ← Int.natCast_add, h1]
      rw [Int.mul_sub, Int.mul_neg, Int.mul_one]
      omega
    rw [h3, Int.add_mul_emod_self_left, Int.emod_eq_of_lt (by omega) (by omega)]

/-- a for over known items, by the place -/
theorem for_map {α : Type} {gd : Store → Prop} {g : TG} {tb : TS} {D0 : Ends} {σ : Env} (xs : List α) (f : α → D) {items : List D} (hi : items = xs.map f) (Pv : Nat → Env → Store → Prop) (h0 : Pv 0 σ st)
    (hs : ∀ j x σ st, xs[j]? = some x → Pv j σ st → ∀ N : Env → Store → Prop, (∀ σ st, Pv (j + 1) σ st → N σ st) → gd st ∧ g (f x) σ st fun σ2 st2 => tb { D0 with nx := N, ct := N, bk := D0.nx } σ2 st2)
    (hd : ∀ σ st, Pv xs.length σ st → gd st ∧ D0.nx σ st) : forLoop gd g tb D0 items σ st := by
  subst hi
  refine for_by (fun pre σ st => Pv pre.length σ st) h0 (fun pre x post σ st e h N hN => ?_) (fun σ st h => hd σ st (by simpa using h))
  have hx : (xs.map f)[pre.length]? = some x := by rw [e]; simp
  rw [List.getElem?_map] at hx
  cases hy : xs[pre.length]? with
  | none => rw [hy] at hx; cases hx
  | some y =>
    rw [hy] at hx
    cases hx
    exact hs pre.length y σ st hy h N fun σ st h' => hN σ st (by simpa using h')
theorem lc_two {α β : Type} {gd : Store → Prop} {g : TG} {te : TE} {ρ : Env} (xs : List α) (f : α → D) (f' : β → D) (P : α → β → Prop) {items : List D} (hi : items = xs.map f) (hd : DrawAt st) (hl : xs.length ≤ szl) (hg : ∀ st', Fra st st' → gd st')
    (hs : ∀ x ∈ xs, ∀ st', Fra st st' → ∀ N : D → Store → Prop, (∀ y st2, P x y → Fra st' st2 → N (f' y) st2) → g (f x) ρ st' fun ρ2 st2 => te ρ2 st2 N)
    (hQ : ∀ (ys : List β) st', Two P xs ys → Fra st st' → rdL st' st.length (ys.map f') → Q (.ref st.length) st') : lcLoop gd g tYes te ρ st.length Q items [] (st ++ [.lst []]) := by
  subst hi
  have key : ∀ {as : List α} {zs : List D}, Two (fun a z => ∃ b, z = f' b ∧ P a b) as zs → ∃ bs : List β, zs = bs.map f' ∧ Two P as bs := by
    intro as zs h
    induction h with
    | nil => exact ⟨[], rfl, .nil⟩
    | cons p _ ih =>
      obtain ⟨b, h1, h2⟩ := p
      obtain ⟨bs, h3, h4⟩ := ih
      exact ⟨b :: bs, by rw [h1, h3]; rfl, .cons h2 h4⟩
  have h2 := hd.lt
  refine lc_by (fun pre acc st' => Two (fun a z => ∃ b, z = f' b ∧ P a b) (xs.take pre.length) acc ∧ Fra st st' ∧ rdL st' st.length acc) ⟨.nil, (Fra.refl hd).app, rdL_new⟩ (fun pre x post acc st' e ⟨h1, h5, h6⟩ N M hN hM => ?_) (fun acc st' ⟨h1, h5, h6⟩ => ?_)
  · refine ⟨hg _ h5, ?_⟩
    have e1 : (fun (ρ2 : Env) (st2 : Store) => tYes ρ2 st2 fun b st3 => (b = true → te ρ2 st3 N) ∧ (b = false → M st3)) = fun ρ2 st2 => te ρ2 st2 N := by
      funext ρ2 st2
      exact propext ⟨fun q => q.1 rfl, fun q => ⟨fun _ => q, fun e => nomatch e⟩⟩
    rw [e1]
    have hlen := congrArg List.length e
    simp at hlen
    have hx : (xs.map f)[pre.length]? = some x := by rw [e]; simp
    rw [List.getElem?_map] at hx
    cases hy : xs[pre.length]? with
    | none => rw [hy] at hx; cases hx
    | some y =>
      rw [hy] at hx
      cases hx
      refine hs y (List.mem_of_getElem? hy) st' h5 N fun z st2 hr fr => ?_
      have h7 := fr.rd h6 (by omega)
      have hal := h1.length
      rw [List.length_take] at hal
      refine hN _ _ h7 (by omega) ⟨?_, (h5.trans fr).set (Nat.le_refl _) (by omega), rdL_set h7⟩
      rw [List.length_append]
      show Two _ (xs.take (pre.length + 1)) _
      rw [List.take_add_one, hy]
      exact h1.snoc ⟨z, rfl, hr⟩
  · rw [List.length_map, List.take_length] at h1
    obtain ⟨bs, rfl, h8⟩ := key h1
    exact ⟨hg _ h5, h6, hQ bs st' h8 h5 h6⟩
end
end Pd
end PartPdKit

section PartPdWhile
set_option Elab.async false
set_option linter.all false
set_option maxRecDepth 100000
/-! Pd: a while by an invariant and a measure. Own work. -/
namespace Pd
theorem whileN_by {c : TT} {tb : TS} {D0 : Ends} (Pv : Nat → Env → Store → Prop)
    (hs : ∀ m σ st, Pv m σ st → ∀ N : Env → Store → Prop, (∀ m' σ' st', m' < m → Pv m' σ' st' → N σ' st') → c σ st fun b st1 => (b = true → tb { D0 with nx := N, ct := N, bk := D0.nx } σ st1) ∧ (b = false → D0.nx σ st1)) :
    ∀ (n m : Nat) (σ : Env) (st : Store), m < n → Pv m σ st → whileN c tb D0 n σ st
  | 0, m, _, _, h, _ => absurd h (by omega)
  | n + 1, m, σ, st, h, p => hs m σ st p _ fun m' σ' st' hlt hp => whileN_by Pv hs n m' σ' st' (by omega) hp
theorem while_by {c : TT} {tb : TS} {D0 : Ends} {σ : Env} {st : Store} (Pv : Nat → Env → Store → Prop) {m : Nat} (h0 : Pv m σ st)
    (hs : ∀ m σ st, Pv m σ st → ∀ N : Env → Store → Prop, (∀ m' σ' st', m' < m → Pv m' σ' st' → N σ' st') → c σ st fun b st1 => (b = true → tb { D0 with nx := N, ct := N, bk := D0.nx } σ st1) ∧ (b = false → D0.nx σ st1)) : sWhile c tb D0 σ st :=
  ⟨m + 1, whileN_by Pv hs (m + 1) m σ st (by omega) h0⟩
end Pd
end PartPdWhile

section PartPdNodes
set_option Elab.async false
set_option linter.all false
set_option maxRecDepth 100000
set_option maxHeartbeats 1000000
/-! Pd: sheets of nodes, plain: operations, nodes, values, widths. Own work. -/
namespace Pd
open PySem
local macro_rules | `(tactic| walk_at "s") => `(tactic| (repeat (refine Red.red ?_)))
inductive Op where | not | neg | wide | pick | add | sub | mul | and | or | xor | shl | shr | div | rem | eq | ne | lt | le
def opS : Op → Str
  | .not => "not"
  | .neg => "neg"
  | .wide => "wide"
  | .pick => "pick"
  | .add => "+"
  | .sub => "-"
  | .mul => "*"
  | .and => "&"
  | .or => "|"
  | .xor => "^"
  | .shl => "<<"
  | .shr => ">>"
  | .div => "div"
  | .rem => "rem"
  | .eq => "=="
  | .ne => "!="
  | .lt => "<"
  | .le => "<="
def v1 : Op → Int → Int → Int
  | .not, w, l => fullI w - l
  | .neg, w, l => Builtin.bitAnd (-l) (fullI w)
  | _, w, l => Builtin.bitAnd l (fullI w)
def v2 : Op → Int → Int → Int → Int
  | .add, w, l, r => Builtin.bitAnd (l + r) (fullI w)
  | .sub, w, l, r => Builtin.bitAnd (l - r) (fullI w)
  | .mul, w, l, r => Builtin.bitAnd (l * r) (fullI w)
  | .and, w, l, r => Builtin.bitAnd (Builtin.bitAnd l r) (fullI w)
  | .or, w, l, r => Builtin.bitAnd (Builtin.bitOr l r) (fullI w)
  | .xor, w, l, r => Builtin.bitAnd (Builtin.bitXor l r) (fullI w)
  | .shl, w, l, r => if w ≤ r then 0 else Builtin.bitAnd (l * 2 ^ r.toNat) (fullI w)
  | .shr, w, l, r => if w ≤ r then 0 else l / 2 ^ r.toNat
  | .div, w, l, r => if r = 0 then 0 else l / r
  | .rem, w, l, r => if r = 0 then 0 else l - r * (l / r)
  | .eq, w, l, r => b2i (decide (l = r))
  | .ne, w, l, r => b2i (!decide (l = r))
  | .lt, w, l, r => b2i (decide (l < r))
  | _, w, l, r => b2i (decide (l ≤ r))
def one : Op → Bool
  | .not => true
  | .neg => true
  | .wide => true
  | _ => false
def two : Op → Bool
  | .not => false
  | .neg => false
  | .wide => false
  | .pick => false
  | _ => true
section
variable {w l r a b : Int}
theorem full1 (w0 : 1 ≤ w) (w1 : w ≤ 8) : 1 * 2 ^ w.toNat - 1 = fullI w := by rw [Int.one_mul]; rfl
theorem mask_in {x : Int} (h0 : 0 ≤ x) (h1 : x ≤ fullI w) : Builtin.bitAnd x (fullI w) = x := by
  unfold fullI at *
  rw [and_maskZ, Int.emod_eq_of_lt h0 (by omega)]
theorem not_mask (h0 : 0 ≤ l) (h1 : l ≤ fullI w) : Builtin.bitAnd (-l - 1) (fullI w) = fullI w - l := by
  unfold fullI at *
  rw [and_maskZ]
  have e : -l - 1 = (2 ^ w.toNat - 1 - l) + 2 ^ w.toNat * (-1) := by rw [Int.mul_neg, Int.mul_one]; omega
  rw [e, Int.add_mul_emod_self_left, Int.emod_eq_of_lt (by omega) (by omega)]
theorem nat_of {x : Int} (h : 0 ≤ x) : ∃ n : Nat, x = (n : Int) := ⟨x.toNat, by omega⟩
theorem fullN {w : Int} : fullI w = ((2 ^ w.toNat - 1 : Nat) : Int) := by
  unfold fullI
  have := Nat.two_pow_pos w.toNat
  have c : ((2 : Int) ^ w.toNat) = ((2 ^ w.toNat : Nat) : Int) := by simp
  rw [c]; omega
theorem andN (m n : Nat) : Builtin.bitAnd (m : Int) (n : Int) = ((m &&& n : Nat) : Int) := by
  unfold Builtin.bitAnd
  have h1 : (0 : Int) ≤ m := by omega
  have h2 : (0 : Int) ≤ n := by omega
  simp only [h1, h2, decide_true, Int.toNat_natCast]
theorem notN (m : Nat) : Builtin.bitNot (m : Int) = -(m : Int) - 1 := rfl
theorem orN (m n : Nat) : Builtin.bitOr (m : Int) (n : Int) = ((m ||| n : Nat) : Int) := by
  unfold Builtin.bitOr Builtin.bitNot Builtin.bitAnd
  have h1 : ¬ ((0 : Int) ≤ -(m : Int) - 1) := by omega
  have h2 : ¬ ((0 : Int) ≤ -(n : Int) - 1) := by omega
  simp only [h1, h2, decide_false]
  unfold Builtin.bitNot
  have e1 : (-(-(m : Int) - 1) - 1).toNat = m := by omega
  have e2 : (-(-(n : Int) - 1) - 1).toNat = n := by omega
  rw [e1, e2]
  omega
theorem or_le {m n k : Nat} (h1 : m < 2 ^ k) (h2 : n < 2 ^ k) : m ||| n < 2 ^ k := Nat.or_lt_two_pow h1 h2
theorem xorN (m n : Nat) : ∃ z : Nat, Builtin.bitXor (m : Int) (n : Int) = (z : Int) ∧ z ≤ m ||| n := by
  unfold Builtin.bitXor
  rw [orN, andN]
  have h : m &&& n ≤ m ||| n := Nat.le_trans Nat.and_le_left Nat.left_le_or
  exact ⟨(m ||| n) - (m &&& n), by omega, Nat.sub_le _ _⟩
theorem bits_in (l0 : 0 ≤ l) (l1 : l ≤ fullI w) (r0 : 0 ≤ r) (r1 : r ≤ fullI w) : v2 .and w l r = Builtin.bitAnd l r ∧ v2 .or w l r = Builtin.bitOr l r ∧ v2 .xor w l r = Builtin.bitXor l r := by
  obtain ⟨m, rfl⟩ := nat_of l0
  obtain ⟨n, rfl⟩ := nat_of r0
  have hp := Nat.two_pow_pos w.toNat
  have hf := fullN (w := w)
  have hm : m < 2 ^ w.toNat := by omega
  have hn : n < 2 ^ w.toNat := by omega
  have h1 : m &&& n < 2 ^ w.toNat := Nat.lt_of_le_of_lt Nat.and_le_left hm
  have h2 : m ||| n < 2 ^ w.toNat := or_le hm hn
  obtain ⟨z, hz, hz2⟩ := xorN m n
  refine ⟨?_, ?_, ?_⟩
  · show Builtin.bitAnd (Builtin.bitAnd _ _) _ = _
    rw [andN]; exact mask_in (by omega) (by omega)
  · show Builtin.bitAnd (Builtin.bitOr _ _) _ = _
    rw [orN]; exact mask_in (by omega) (by omega)
  · show Builtin.bitAnd (Builtin.bitXor _ _) _ = _
    rw [hz]; exact mask_in (by omega) (by omega)
theorem shl_big (w0 : 1 ≤ w) (w1 : w ≤ 8) (h : w ≤ r) : Builtin.bitAnd (l * 2 ^ (if 8 < r then 8 else r).toNat) (fullI w) = 0 := by
  unfold fullI
  rw [and_maskZ]
  have h1 : w.toNat ≤ (if 8 < r then 8 else r).toNat := by split <;> omega
  obtain ⟨j, hj⟩ := Nat.exists_eq_add_of_le h1
  rw [hj, Int.pow_add, ← Int.mul_assoc, Int.mul_comm l, Int.mul_assoc]
  exact Int.mul_emod_right _ _
theorem shr_big (w0 : 1 ≤ w) (w1 : w ≤ 8) (l0 : 0 ≤ l) (l1 : l ≤ fullI w) (h : w ≤ r) : l / 2 ^ (if 8 < r then 8 else r).toNat = 0 := by
  have h1 : w.toNat ≤ (if 8 < r then 8 else r).toNat := by split <;> omega
  have h2 := Nat.pow_le_pow_right (n := 2) (by decide) h1
  have c : ∀ n : Nat, ((2 : Int) ^ n) = ((2 ^ n : Nat) : Int) := fun n => by simp
  unfold fullI at l1
  rw [c] at l1
  rw [c]
  exact Int.ediv_eq_zero_of_lt l0 (by omega)
theorem min_small (h : ¬ w ≤ r) (w1 : w ≤ 8) : (if 8 < r then 8 else r) = r := if_neg (by omega)
end
inductive Nd where
  | word (w v : Int)
  | inp (w : Int) (i : Nat)
  | one (o : Op) (w : Int) (a : Nat)
  | two (o : Op) (w : Int) (a b : Nat)
  | pick (w : Int) (c a b : Nat)
namespace Nd
def wd : Nd → Int
  | word w _ => w
  | inp w _ => w
  | one _ w _ => w
  | two _ w _ _ => w
  | pick w _ _ _ => w
def dat : Nd → D
  | word w v => .tup [.str (Str.ofString "word"), .int w, .int v]
  | inp w i => .tup [.str (Str.ofString "input"), .int w, .int i]
  | one o w a => .tup [.str (opS o), .int w, .int a]
  | two o w a b => .tup [.str (opS o), .int w, .int a, .int b]
  | pick w c a b => .tup [.str (opS .pick), .int w, .int c, .int a, .int b]
end Nd
def cmp : Op → Bool
  | .eq => true
  | .ne => true
  | .lt => true
  | .le => true
  | _ => false
def shf : Op → Bool
  | .shl => true
  | .shr => true
  | _ => false
def Has (ws : List Int) (a : Nat) (w : Int) : Prop := ws[a]? = some w
def Good (ws : List Int) : Nd → Prop
  | .word w v => 1 ≤ w ∧ w ≤ 8 ∧ 0 ≤ v ∧ v ≤ fullI w
  | .inp w i => 1 ≤ w ∧ w ≤ 8 ∧ i ≤ 300
  | .one o w a => 1 ≤ w ∧ w ≤ 8 ∧ Pd.one o = true ∧ ∃ u, Has ws a u ∧ (o ≠ .wide → u = w)
  | .two o w a b => 1 ≤ w ∧ w ≤ 8 ∧ Pd.two o = true ∧ ∃ u v, Has ws a u ∧ Has ws b v ∧ (cmp o = true → w = 1) ∧ (cmp o = false → u = w) ∧ (cmp o = false → shf o = false → v = w)
  | .pick w c a b => 1 ≤ w ∧ w ≤ 8 ∧ Has ws c 1 ∧ Has ws a w ∧ Has ws b w
inductive Sheet : List Nd → Prop
  | nil : Sheet []
  | snoc {ns : List Nd} {x : Nd} : Sheet ns → Good (ns.map Nd.wd) x → Sheet (ns ++ [x])
def val (is : List Int) (vs : List Int) : Nd → Int
  | .word _ v => v
  | .inp w i => if i < is.length then Builtin.bitAnd (is.getD i 0) (fullI w) else 0
  | .one o w a => v1 o w (vs.getD a 0)
  | .two o w a b => v2 o w (vs.getD a 0) (vs.getD b 0)
  | .pick _ c a b => if vs.getD c 0 = 1 then vs.getD a 0 else vs.getD b 0
def vals (is : List Int) (ns : List Nd) : List Int := ns.foldl (fun vs x => vs ++ [val is vs x]) []
theorem vals_snoc (is : List Int) (ns : List Nd) (x : Nd) : vals is (ns ++ [x]) = vals is ns ++ [val is (vals is ns) x] := by
  unfold vals
  rw [List.foldl_append]
  rfl
/-- values within the widths -/
def Fits (ws vs : List Int) : Prop := ∀ (a : Nat) (w : Int), ws[a]? = some w → ∃ v : Int, vs[a]? = some v ∧ 0 ≤ v ∧ v ≤ fullI w
theorem and_in (x w : Int) : 0 ≤ Builtin.bitAnd x (fullI w) ∧ Builtin.bitAnd x (fullI w) ≤ fullI w := by
  unfold fullI
  rw [and_maskZ]
  have h : (0 : Int) < 2 ^ w.toNat := Int.pow_pos (by decide)
  have h1 := Int.emod_nonneg x (Int.ne_of_gt h)
  have h2 := Int.emod_lt_of_pos x h
  omega
theorem b2i_in (b : Bool) : 0 ≤ b2i b ∧ b2i b ≤ fullI 1 := by cases b <;> decide
theorem v1_in {o : Op} {w l : Int} (l0 : 0 ≤ l) (l1 : o ≠ .wide → l ≤ fullI w) : 0 ≤ v1 o w l ∧ v1 o w l ≤ fullI w := by
  cases o
  case not =>
    have := l1 (by intro h; cases h)
    show 0 ≤ fullI w - l ∧ fullI w - l ≤ fullI w
    omega
  all_goals exact and_in _ w
theorem v2_in {o : Op} {w l r : Int} (l0 : 0 ≤ l) (r0 : 0 ≤ r) (l1 : cmp o = false → l ≤ fullI w) (hc : cmp o = true → w = 1) (ho : two o = true) : 0 ≤ v2 o w l r ∧ v2 o w l r ≤ fullI w := by
  have hw : 0 ≤ fullI w := by
    have h : (0 : Int) < 2 ^ w.toNat := Int.pow_pos (by decide)
    unfold fullI; omega
  have pw : (0 : Int) < 2 ^ r.toNat := Int.pow_pos (by decide)
  cases o <;> try (cases ho; done)
  case add => exact and_in _ w
  case sub => exact and_in _ w
  case mul => exact and_in _ w
  case and => exact and_in _ w
  case or => exact and_in _ w
  case xor => exact and_in _ w
  case shl =>
    show 0 ≤ (if w ≤ r then _ else _) ∧ (if w ≤ r then _ else _) ≤ fullI w
    split
    · exact ⟨by decide, hw⟩
    · exact and_in _ w
  case shr =>
    show 0 ≤ (if w ≤ r then _ else _) ∧ (if w ≤ r then _ else _) ≤ fullI w
    split
    · exact ⟨by decide, hw⟩
    · have h1 := Int.ediv_nonneg l0 (Int.le_of_lt pw)
      have h2 := Int.ediv_le_self (2 ^ r.toNat) l0
      have := l1 rfl
      omega
  case div =>
    show 0 ≤ (if r = 0 then _ else _) ∧ (if r = 0 then _ else _) ≤ fullI w
    split
    · exact ⟨by decide, hw⟩
    · have h1 := Int.ediv_nonneg l0 r0
      have h2 := Int.ediv_le_self r l0
      have := l1 rfl
      omega
  case rem =>
    show 0 ≤ (if r = 0 then _ else _) ∧ (if r = 0 then _ else _) ≤ fullI w
    split
    · exact ⟨by decide, hw⟩
    · rename_i hr
      have h0 : l - r * (l / r) = l % r := (Int.emod_def l r).symm
      have h1 := Int.emod_nonneg l hr
      have h3 : 0 ≤ r * (l / r) := Int.mul_nonneg r0 (Int.ediv_nonneg l0 r0)
      have := l1 rfl
      omega
  all_goals
    rw [hc rfl]
    exact b2i_in _
theorem fits_val {ws vs is : List Int} {x : Nd} (h : Fits ws vs) (g : Good ws x) (hi : ∀ i, i ∈ is → 0 ≤ i) : 0 ≤ val is vs x ∧ val is vs x ≤ fullI x.wd := by
  have gd : ∀ {a : Nat} {w : Int}, Has ws a w → 0 ≤ vs.getD a 0 ∧ vs.getD a 0 ≤ fullI w := by
    intro a w ha
    obtain ⟨v, e, h0, h1⟩ := h a w ha
    rw [List.getD_eq_getElem?_getD, e]
    exact ⟨h0, h1⟩
  cases x with
  | word w v => exact ⟨g.2.2.1, g.2.2.2⟩
  | inp w i =>
    show 0 ≤ (if i < is.length then _ else _) ∧ (if i < is.length then _ else _) ≤ fullI w
    split
    · exact and_in _ w
    · exact ⟨by decide, Int.le_trans (and_in 0 w).1 (and_in 0 w).2⟩
  | one o w a =>
    obtain ⟨w0, w1, ho, u, ha, hu⟩ := g
    have := gd ha
    exact v1_in this.1 (fun hne => by rw [← hu hne]; exact this.2)
  | two o w a b =>
    obtain ⟨w0, w1, ho, u, v, ha, hb, h1, h2, h3⟩ := g
    have A := gd ha
    have B := gd hb
    exact v2_in A.1 B.1 (fun hc => by rw [← h2 hc]; exact A.2) h1 ho
  | pick w c a b =>
    obtain ⟨w0, w1, hc, ha, hb⟩ := g
    show 0 ≤ (if vs.getD c 0 = 1 then _ else _) ∧ (if vs.getD c 0 = 1 then _ else _) ≤ fullI w
    split
    · exact gd ha
    · exact gd hb
theorem vals_len (is : List Int) {ns : List Nd} (h : Sheet ns) : (vals is ns).length = ns.length := by
  induction h with
  | nil => rfl
  | snoc h g ih => rw [vals_snoc, List.length_append, List.length_append, ih]; rfl
theorem fits_all (is : List Int) (hi : ∀ i, i ∈ is → 0 ≤ i) {ns : List Nd} (h : Sheet ns) : Fits (ns.map Nd.wd) (vals is ns) := by
  induction h with
  | nil => intro a w ha; cases ha
  | @snoc ns x h g ih =>
    intro a w ha
    rw [vals_snoc]
    rw [List.map_append] at ha
    have hl := vals_len is h
    by_cases e : a < ns.length
    · rw [List.getElem?_append_left (by simpa using e)] at ha
      rw [List.getElem?_append_left (by omega)]
      exact ih a w ha
    · rw [List.getElem?_append_right (by simpa using e)] at ha
      rw [List.getElem?_append_right (by omega)]
      have ea : a = ns.length := by
        have := (List.getElem?_eq_some_iff.1 ha).1
        simp only [List.length_map, List.length_cons, List.length_nil] at this
        omega
      subst ea
      rw [List.length_map, Nat.sub_self] at ha
      rw [hl, Nat.sub_self]
      have e' : x.wd = w := by simpa using ha
      subst e'
      exact ⟨_, rfl, fits_val ih g hi⟩
theorem Sheet.pre {ns : List Nd} (S : Sheet ns) {j : Nat} {x : Nd} (hx : ns[j]? = some x) : Sheet (ns.take j) ∧ Good ((ns.take j).map Nd.wd) x := by
  induction S with
  | nil => cases hx
  | @snoc ns y h g ih =>
    by_cases e : j < ns.length
    · rw [List.getElem?_append_left e] at hx
      rw [List.take_append_of_le_length (by omega)]
      exact ih hx
    · have hj := (List.getElem?_eq_some_iff.1 hx).1
      simp only [List.length_append, List.length_cons, List.length_nil] at hj
      have ej : j = ns.length := by omega
      subst ej
      rw [List.getElem?_append_right (Nat.le_refl _), Nat.sub_self] at hx
      cases hx
      rw [List.take_append_of_le_length (Nat.le_refl _), List.take_length]
      exact ⟨h, g⟩
theorem vals_take {is : List Int} {ns : List Nd} {j : Nat} {x : Nd} (hx : ns[j]? = some x) : vals is (ns.take (j + 1)) = vals is (ns.take j) ++ [val is (vals is (ns.take j)) x] := by
  rw [List.take_add_one, hx]
  exact vals_snoc _ _ _
theorem ix_refN {st : Store} {n a : Nat} {vs : List Int} {Q : K} (h : rdL st n (vs.map D.int)) (ha : a < vs.length) (q : Q (.int (vs.getD a 0)) st) : ixK (.ref n) (.int (a : Int)) st Q := by
  refine ⟨vs.map D.int, .int (vs.getD a 0), .inl h, ?_, q⟩
  unfold atD
  simp only [List.length_map]
  have e1 : ¬ ((a : Int) < 0) := by omega
  simp [e1, List.getD_eq_getElem?_getD, List.getElem?_eq_getElem ha, ha]
theorem opS_w (o : Op) : okS (opS o) = true ∧ decide (opS o = Str.ofString "word") = false ∧ decide (opS o = Str.ofString "input") = false := by
  cases o <;> exact ⟨by decide +kernel, by decide +kernel, by decide +kernel⟩
theorem Sheet.wid {ns : List Nd} (S : Sheet ns) : ∀ (a : Nat) (w : Int), Has (ns.map Nd.wd) a w → 1 ≤ w ∧ w ≤ 8 := by
  induction S with
  | nil => intro a w h; cases h
  | @snoc ns x h g ih =>
    intro a w ha
    unfold Has at ha
    rw [List.map_append] at ha
    by_cases e : a < ns.length
    · rw [List.getElem?_append_left (by simpa using e)] at ha
      exact ih a w ha
    · rw [List.getElem?_append_right (by simpa using e)] at ha
      have e' := List.mem_of_getElem? ha
      simp at e'
      subst e'
      cases x <;> exact ⟨g.1, g.2.1⟩
theorem le255 {ns : List Nd} (S : Sheet ns) {a : Nat} {w z : Int} (ha : Has (ns.map Nd.wd) a w) (h : z ≤ fullI w) : z ≤ 255 := by
  have := S.wid a w ha
  have := fullI_bd (w := w) (by omega) this.2
  omega
def parts : Nd → List Nat
  | .one _ _ a => [a]
  | .two _ _ a b => [a, b]
  | .pick _ c a b => [c, a, b]
  | _ => []
theorem lc_parts {gd : Store → Prop} {ρ : Env} {te : TE} {g : TG} {st : Store} {Q : K} {vs : List Int} {n : Nat} (ps : List Nat) (h : rdL st n (vs.map D.int)) (hp : ∀ a ∈ ps, a < vs.length) (hl : ps.length ≤ 3) (hg : ∀ acc, gd (st ++ [.lst acc]))
    (hs : ∀ a, a ∈ ps → ∀ (acc : List D) (N : D → Store → Prop), rdL (st ++ [.lst acc]) n (vs.map D.int) → N (.int (vs.getD a 0)) (st ++ [.lst acc]) → g (.int (a : Int)) ρ (st ++ [.lst acc]) fun ρ2 st2 => te ρ2 st2 N)
    (hd : Q (.ref st.length) (st ++ [.lst (ps.map fun (a : Nat) => D.int (vs.getD a 0))])) : lcLoop gd g tYes te ρ st.length Q (ps.map fun (a : Nat) => D.int (a : Int)) [] (st ++ [.lst []]) :=
  lc_map ps (fun (a : Nat) => D.int (a : Int)) (fun (a : Nat) => D.int (vs.getD a 0)) rfl (by unfold szl; omega) hg (fun a ha acc N hN => hs a ha acc N (rdL_app h) hN) hd
theorem vals_pre (is : List Int) {ns : List Nd} (S : Sheet ns) (j : Nat) : vals is (ns.take j) = (vals is ns).take j := by
  induction S with
  | nil => rw [List.take_nil]; exact (List.take_nil).symm
  | @snoc ns x h g ih =>
    have hl := vals_len is h
    rw [vals_snoc]
    by_cases e : j ≤ ns.length
    · rw [List.take_append_of_le_length e, List.take_append_of_le_length (by omega), ih]
    · rw [List.take_of_length_le (by simp; omega), List.take_of_length_le (by simp; omega), vals_snoc]
theorem Sheet.take {ns : List Nd} (S : Sheet ns) (j : Nat) : Sheet (ns.take j) := by
  by_cases e : j < ns.length
  · exact (S.pre (List.getElem?_eq_getElem e)).1
  · rw [List.take_of_length_le (by omega)]; exact S
theorem at_int {vs : List Int} {t : Nat} (h : t < vs.length) : atD (vs.map D.int) (t : Int) = some (.int (vs.getD t 0)) := by
  unfold atD
  rw [if_pos (by omega), Int.toNat_natCast, List.getElem?_map, List.getElem?_eq_getElem h, List.getD_eq_getElem?_getD, List.getElem?_eq_getElem h]
  rfl
theorem zip_self (vs : List Int) : zipD (vs.map D.int) (vs.map D.int) = vs.map fun v => .tup [.int v, .int v] := by
  induction vs with
  | nil => rfl
  | cons v vs ih => exact congrArg (_ :: ·) ih
theorem ix_ref {st : Store} {n : Nat} {xs : List D} {d : D} {i : Int} {Q : K} (h : rdL st n xs) (h' : atD xs i = some d) (q : Q d st) : ixK (.ref n) (.int i) st Q := ⟨xs, d, .inl h, h', q⟩
theorem tru_ref {st : Store} {n : Nat} {xs : List D} {r : Bool → Prop} (h : rdL st n xs) (q : r (!xs.isEmpty)) : truK (.ref n) st r := ⟨xs, .inl h, q⟩
theorem seq_J {S S' : TS} {D0 : Ends} {σ : Env} {st : Store} (J : Env → Store → Prop) (h : ∀ N : Env → Store → Prop, (∀ σ' st', J σ' st' → N σ' st') → S { D0 with nx := N } σ st) (hJ : ∀ σ' st', J σ' st' → S' D0 σ' st') : sSeq S S' D0 σ st :=
  h _ fun σ' st' e => Nxt.mk (hJ σ' st' e)
theorem dat_wd (x : Nd) : ∃ s ps, x.dat = .tup (s :: .int x.wd :: ps) := by cases x <;> exact ⟨_, _, rfl⟩
theorem at_nd {ns : List Nd} {a : Nat} (h : a < ns.length) : atD (ns.map Nd.dat) (a : Int) = some (ns[a]).dat := by
  unfold atD
  rw [if_pos (by omega), Int.toNat_natCast, List.getElem?_map, List.getElem?_eq_getElem h]
  rfl
theorem wd_at {x : Nd} {st : Store} {Q : K} (q : Q (.int x.wd) st) : ixK x.dat (.int 1) st Q := by
  obtain ⟨s, ps, e⟩ := dat_wd x
  rw [e]
  exact ⟨.int x.wd, rfl, q⟩
def mates (ns : List Nd) (w : Int) : List Nat := (List.range ns.length).filter fun i => decide (((ns[i]?).map Nd.wd).getD 0 = w)
theorem mate_has {ns : List Nd} {w : Int} {i : Nat} (h : i ∈ mates ns w) : i < ns.length ∧ Has (ns.map Nd.wd) i w := by
  unfold mates at h
  rw [List.mem_filter, List.mem_range] at h
  obtain ⟨h1, h2⟩ := h
  refine ⟨h1, ?_⟩
  unfold Has
  rw [List.getElem?_map]
  rw [List.getElem?_eq_getElem h1] at h2 ⊢
  have := of_decide_eq_true h2
  exact congrArg some this
theorem has_wd {ns : List Nd} {a : Nat} (h : a < ns.length) : Has (ns.map Nd.wd) a (ns[a]).wd := by
  unfold Has
  rw [List.getElem?_map, List.getElem?_eq_getElem h]
  rfl
theorem self_mate {ns : List Nd} {a : Nat} (h : a < ns.length) : a ∈ mates ns (ns[a]).wd := by
  unfold mates
  rw [List.mem_filter, List.mem_range]
  refine ⟨h, ?_⟩
  rw [List.getElem?_eq_getElem h]
  exact decide_eq_true rfl
def n0 (i : Nat) : D := .int (0 + (i : Int))
theorem n0_eq (i : Nat) : n0 i = .int (i : Int) := by unfold n0; rw [Int.zero_add]
theorem lc_mates {te : TE} {tt : TT} {g : TG} {ρ : Env} {st : Store} {Q : K} {ns : List Nd} (w : Int) (hl : ns.length ≤ 200)
    (hs : ∀ (i : Nat) (hi : i < ns.length) (acc : List D) (N : D → Store → Prop) (M : Store → Prop), (decide ((ns[i]).wd = w) = true → N (n0 i) (st ++ [.lst acc])) → (decide ((ns[i]).wd = w) = false → M (st ++ [.lst acc])) → g (n0 i) ρ (st ++ [.lst acc]) fun ρ2 st2 => tt ρ2 st2 fun b st3 => (b = true → te ρ2 st3 N) ∧ (b = false → M st3))
    (hd : Q (.ref st.length) (st ++ [.lst ((mates ns w).map n0)])) : lcLoop (fun _ => True) g tt te ρ st.length Q (rng 0 (ns.length : Int).toNat) [] (st ++ [.lst []]) := by
  refine lc_filter (List.range ns.length) n0 n0 (fun i => decide (((ns[i]?).map Nd.wd).getD 0 = w)) rfl (by simp [szl]; omega) (fun _ => trivial) (fun i hi acc N M hN hM => ?_) hd
  have h1 := List.mem_range.mp hi
  rw [List.getElem?_eq_getElem h1] at hN hM
  exact hs i h1 acc N M hN hM
theorem opS_ok (o : Op) : okS (opS o) = true := by cases o <;> decide +kernel
theorem dat_ok (x : Nd) : D.okd 60 x.dat = true := by
  have hw : okS (Str.ofString "word") = true := by decide +kernel
  have hi : okS (Str.ofString "input") = true := by decide +kernel
  cases x <;> simp [Nd.dat, D.okd, okds, opS_ok, hw, hi]
theorem dats_ok (ns : List Nd) : okds 60 (ns.map Nd.dat) = true := by
  rw [okds_all, List.all_eq_true]
  intro d hd
  obtain ⟨x, _, rfl⟩ := List.mem_map.mp hd
  exact dat_ok x
theorem notin_at {st : Store} {n : Nat} {xs : List D} {x : D} {r : Bool → Prop} (h : rdL st n xs) (hx : D.okd 60 x = true) (hxs : okds 60 xs = true) (q : r (!(xs.any fun y => D.eqb y x))) : notinDC x (.ref n) st r := ⟨xs, .inl h, hx, hxs, q⟩
end Pd
end PartPdNodes

section PartPdNeeded
set_option Elab.async false
set_option linter.all false
set_option maxRecDepth 100000
set_option maxHeartbeats 1000000
/-! Pd: `needed_for`: the nodes that are reached, ascending. Own work. -/
namespace Pd
open PySem
local macro_rules | `(tactic| walk_at "s") => `(tactic| (repeat (refine Red.red ?_)))
local macro_rules | `(tactic| walk_at "r") => `(tactic| (repeat (first | refine Red.red ?_ | refine Nxt.mk ?_)))
theorem rdD_lt {st : Store} {n : Nat} {kvs : List (Ky × D)} (h : rdD st n kvs) : n < st.length := (List.getElem?_eq_some_iff.mp h).1
theorem rdD_new {st : Store} {kvs : List (Ky × D)} : rdD (st ++ [.dic kvs]) st.length kvs := by unfold rdD; simp
theorem rdD_app {st : Store} {n : Nat} {kvs : List (Ky × D)} {c : C} (h : rdD st n kvs) : rdD (st ++ [c]) n kvs := by
  unfold rdD at *
  rw [List.getElem?_append_left (rdD_lt h)]; exact h
theorem rdD_set {st : Store} {n : Nat} {kvs kvs' : List (Ky × D)} (h : rdD st n kvs) : rdD (st.set n (.dic kvs')) n kvs' := by unfold rdD; rw [List.getElem?_set_self (rdD_lt h)]
theorem rdD_ne {st : Store} {n m : Nat} {kvs : List (Ky × D)} {c : C} (h : rdD st n kvs) (ne : n ≠ m) : rdD (st.set m c) n kvs := by unfold rdD at *; rw [List.getElem?_set_ne (Ne.symm ne)]; exact h
theorem Grw.rdD {st st' : Store} (f : Grw st st') {n : Nat} {kvs : List (Ky × D)} (h : rdD st n kvs) : rdD st' n kvs := by
  obtain ⟨m, rfl⟩ := f
  unfold Pd.rdD at *
  rw [List.getElem?_append_left (rdD_lt h)]; exact h
def kOf (M : List Nat) : List (Ky × D) := M.map fun k : Nat => (Sum.inl (k : Int), D.bl true)
theorem kOf_has (M : List Nat) (k : Nat) : (valD (kOf M) (.inl (k : Int))).isSome = decide (k ∈ M) := by
  induction M with
  | nil => rfl
  | cons j M ih =>
    unfold kOf valD at *
    rw [List.map_cons, List.find?_cons]
    by_cases h : j = k
    · subst h
      simp
    · have h1 : decide ((Sum.inl (j : Int) : Ky) = Sum.inl (k : Int)) = false := by
        rw [decide_eq_false_iff_not]
        intro e
        injection e with e
        exact h (by omega)
      simp only [h1]
      rw [ih]
      simp [Ne.symm h]
theorem kOf_put {M : List Nat} {k : Nat} (h : k ∉ M) : putD (kOf M) (.inl (k : Int)) (.bl true) = kOf (M ++ [k]) := by
  have h1 : ((kOf M).any fun kv => decide (kv.1 = (.inl (k : Int) : Ky))) = false := by
    rw [List.any_eq_false]
    intro kv hk e
    unfold kOf at hk
    obtain ⟨j, hj, rfl⟩ := List.mem_map.mp hk
    have e := of_decide_eq_true e
    injection e with e
    have : j = k := by omega
    subst this
    exact h hj
  unfold putD
  rw [h1, if_neg (by decide)]
  unfold kOf
  rw [List.map_append]
  rfl
def leafB : Nd → Bool
  | .word _ _ => true
  | .inp _ _ => true
  | _ => false
theorem leaf_word : ([D.str (Str.ofString "word"), D.str (Str.ofString "input")].any fun y => D.eqb y (.str (Str.ofString "word"))) = true := by decide +kernel
theorem leaf_inp : ([D.str (Str.ofString "word"), D.str (Str.ofString "input")].any fun y => D.eqb y (.str (Str.ofString "input"))) = true := by decide +kernel
theorem leaf_op (o : Op) : ([D.str (Str.ofString "word"), D.str (Str.ofString "input")].any fun y => D.eqb y (.str (opS o))) = false := by cases o <;> decide +kernel
theorem dat_leaf (x : Nd) : ∃ s ps, x.dat = .tup (.str s :: .int x.wd :: ps) ∧ ([D.str (Str.ofString "word"), D.str (Str.ofString "input")].any fun y => D.eqb y (.str s)) = leafB x ∧ (leafB x = false → ps = (parts x).map fun p : Nat => D.int (p : Int)) := by
  cases x with
  | word w v => exact ⟨_, _, rfl, leaf_word, fun h => by cases h⟩
  | inp w i => exact ⟨_, _, rfl, leaf_inp, fun h => by cases h⟩
  | one o w a => exact ⟨_, _, rfl, leaf_op o, fun _ => rfl⟩
  | two o w a b => exact ⟨_, _, rfl, leaf_op o, fun _ => rfl⟩
  | pick w c a b => exact ⟨_, _, rfl, leaf_op .pick, fun _ => rfl⟩
theorem parts_leaf {x : Nd} (h : leafB x = true) : parts x = [] := by cases x <;> first | rfl | cases h
theorem parts_le (x : Nd) : (parts x).length ≤ 3 := by cases x <;> simp [parts]
theorem Has.lt {ws : List Int} {a : Nat} {w : Int} (h : Has ws a w) : a < ws.length := (List.getElem?_eq_some_iff.mp h).1
theorem Good.parts {ws : List Int} {x : Nd} (g : Good ws x) : ∀ p ∈ Pd.parts x, p < ws.length := by
  intro p hp
  cases x with
  | word w v => cases hp
  | inp w i => cases hp
  | one o w a =>
    obtain ⟨_, _, _, u, h, _⟩ := g
    simp only [Pd.parts, List.mem_cons, List.not_mem_nil, or_false] at hp
    subst hp; exact h.lt
  | two o w a b =>
    obtain ⟨_, _, _, u, v, h, h', _⟩ := g
    simp only [Pd.parts, List.mem_cons, List.not_mem_nil, or_false] at hp
    rcases hp with rfl | rfl
    · exact h.lt
    · exact h'.lt
  | pick w c a b =>
    obtain ⟨_, _, h, h', h''⟩ := g
    simp only [Pd.parts, List.mem_cons, List.not_mem_nil, or_false] at hp
    rcases hp with rfl | rfl | rfl
    · exact h.lt
    · exact h'.lt
    · exact h''.lt
theorem Sheet.part_lt {ns : List Nd} (S : Sheet ns) {j : Nat} {x : Nd} (hx : ns[j]? = some x) : ∀ p ∈ Pd.parts x, p < j := by
  intro p hp
  have := (S.pre hx).2.parts p hp
  rw [List.length_map, List.length_take] at this
  omega
structure Need (ns : List Nd) (ts : List Nat) (L : List Nat) : Prop where
  lt : ∀ k ∈ L, k < ns.length
  asc : L.Pairwise (· < ·)
  has : ∀ t ∈ ts, t ∈ L
  cl : ∀ k ∈ L, ∀ x, ns[k]? = some x → ∀ p ∈ Pd.parts x, p ∈ L
def iN (k : Nat) : D := .int (k : Int)
theorem notinS_at {x : D} {xs : List D} {st : Store} {r : Bool → Prop} (h1 : x.flat = true) (h2 : xs.all D.flat = true) (q : r (!(xs.any fun y => D.eqb y x))) : notinC x (.tup xs) st r := ⟨h1, h2, q⟩
def neededBody (c : Cl) : TS := sSeq (sAsg (dDic) (gName 2)) (sSeq (sAsg (dB listB (aCons (dVar 1) (aNil))) (gName 3)) (sSeq (sWhile (tTru (dVar 3)) (sSeq (sAsg (dM0 tyLst popEM (dVar 3)) (gName 4)) (sIf (tTru (dCmp notinKC (dVar 4) (dVar 2))) (sSeq (sAsg (dC (.bl true)) (gSubD (dVar 2) (dVar 4))) (sIf (tTru (dCmp notinC (dOp ixK (dOp ixK (dVar 0) (dVar 4)) (dC (.int 0))) (dTup (aCons (dC (.str "word")) (aCons (dC (.str "input")) (aNil)))))) (sExpr (dM tyLst extendAM (dVar 3) (aCons (dSl (dOp ixK (dVar 0) (dVar 4)) (oSome (dC (.int 2))) (oNone)) (aNil)))) (sNext))) (sNext)))) (sRet (dB sortedDB (aCons (dVar 2) (aNil))))))
theorem nodup_le {M : List Nat} {n : Nat} (h : M.Nodup) (hl : ∀ k ∈ M, k < n) : M.length ≤ n := by
  induction n generalizing M with
  | zero =>
    cases M with
    | nil => exact Nat.le_refl _
    | cons x M => exact absurd (hl x (by simp)) (by omega)
  | succ n ih =>
    by_cases hn : n ∈ M
    · have h1 := ih (M := M.erase n) (h.erase n) (fun k hk => by
        rw [h.mem_erase_iff] at hk
        have := hl k hk.2
        have := hk.1
        omega)
      rw [List.length_erase_of_mem hn] at h1
      omega
    · exact Nat.le_succ_of_le (ih h fun k hk => by
        have := hl k hk
        have : k ≠ n := fun e => hn (e ▸ hk)
        omega)
theorem needed_ok {prog : String → Option Def} (hp : prog "needed_for" = some ⟨2, 5, neededBody⟩) {k : Nat} {st : Store} {Q : K} {ns : List Nd} {ts : List Nat} {n : Nat} (S : Sheet ns) (hl : ns.length ≤ 1000) (h : rdL st n (ts.map iN)) (ht : ∀ t ∈ ts, t < ns.length) (htl : ts.length ≤ 1000)
    (q : ∀ L st', Need ns ts L → Grw st st' → rdL st' (st'.length - 1) (L.map iN) → st.length < st'.length → Q (.ref (st'.length - 1)) st') : callN prog (k + 1) "needed_for" [.tup (ns.map Nd.dat), .ref n] st Q := by
  refine call_intro hp rfl ?_
  unfold neededBody
  walk_at "r"
  refine list_at (rdL_app h) ?_
  walk_at "s"
  refine Nxt.mk ?_
  rw [List.length_append, List.length_singleton]
  have d0 := rdD_app (c := C.lst (ts.map iN)) (rdD_new (st := st) (kvs := []))
  have w0 := rdL_new (st := st ++ [C.dic []]) (xs := ts.map iN)
  rw [List.length_append, List.length_singleton] at w0
  have f0 : FraG st.length st (st ++ [C.dic []] ++ [C.lst (ts.map iN)]) := FraG.new.app
  generalize st ++ [C.dic []] ++ [C.lst (ts.map iN)] = st1 at d0 w0 f0 ⊢
  refine seq_cut (fun σ st' => ∃ M o4, σ = [some (.tup (ns.map Nd.dat)), some (.ref n), some (.ref st.length), some (.ref (st.length + 1)), o4] ∧ rdD st' st.length (kOf M) ∧ FraG st.length st st' ∧ M.Nodup ∧ (∀ k ∈ M, k < ns.length) ∧ (∀ t ∈ ts, t ∈ M) ∧ ∀ k ∈ M, ∀ x, ns[k]? = some x → ∀ p ∈ Pd.parts x, p ∈ M) (fun N hN => ?_) (fun σ st2 ⟨M, o4, e, hd, f, nd, hlt, hts, hcl⟩ => ?_)
  · refine while_by (fun m σ st' => ∃ M W o4, σ = [some (.tup (ns.map Nd.dat)), some (.ref n), some (.ref st.length), some (.ref (st.length + 1)), o4] ∧ rdD st' st.length (kOf M) ∧ rdL st' (st.length + 1) (W.map iN) ∧ FraG st.length st st' ∧ M.Nodup ∧ (∀ k ∈ M, k < ns.length) ∧ (∀ k ∈ W, k < ns.length) ∧ (∀ t ∈ ts, t ∈ M ∨ t ∈ W) ∧ (∀ k ∈ M, ∀ x, ns[k]? = some x → ∀ p ∈ Pd.parts x, p ∈ M ∨ p ∈ W) ∧ m = 4 * (ns.length - M.length) + W.length ∧ m ≤ 4 * ns.length + ts.length) (m := 4 * ns.length + ts.length) ⟨[], ts, none, rfl, d0, w0, f0, by simp, by simp, ht, fun t h => .inr h, by simp, by simp, Nat.le_refl _⟩ (fun m σ st' ⟨M, W, o4, e, hd, hw, f, nd, hlt, hwl, hts, hcl, em, hm⟩ N' hN' => ?_)
    subst e
    walk_at "s"
    refine ⟨W.map iN, .inl hw, ?_⟩
    rcases W.eq_nil_or_concat with rfl | ⟨W', t, hW⟩
    · refine wayF rfl ?_
      exact hN _ _ ⟨M, o4, rfl, hd, f, nd, hlt, fun t h => (hts t h).elim id (fun h => by cases h), fun k hk x hx p hp => (hcl k hk x hx p hp).elim id (fun h => by cases h)⟩
    · rw [List.concat_eq_append] at hW
      subst hW
      refine wayT (by simp) ?_
      have htn : t < ns.length := hwl t (by simp)
      have hml := nodup_le nd hlt
      rw [List.length_append, List.length_singleton] at em
      rw [List.map_append] at hw
      walk_at "s"
      refine ⟨⟨_, hw⟩, ?_⟩
      refine pop_at hw ?_
      walk_at "s"
      refine Nxt.mk ?_
      have hd1 := rdD_ne (c := C.lst (W'.map iN)) hd (show st.length ≠ st.length + 1 by omega)
      have hw1 := rdL_set (ys := W'.map iN) hw
      have f1 : FraG st.length st (st'.set (st.length + 1) (.lst (W'.map iN))) := f.setN (by omega)
      generalize st'.set (st.length + 1) (.lst (W'.map iN)) = st3 at hd1 hw1 f1 ⊢
      walk_at "s"
      refine notinKI_at (.inl hd1) ?_
      rw [kOf_has]
      walk_at "s"
      by_cases ht2 : t ∈ M
      · refine wayF (by simp [ht2]) ?_
        walk_at "s"
        refine hN' (m - 1) _ _ (by omega) ⟨M, W', _, rfl, hd1, hw1, f1, nd, hlt, fun k hk => hwl k (by simp [hk]), fun t' h => ?_, fun k hk x hx p hp => ?_, by omega, by omega⟩
        · rcases hts t' h with h | h
          · exact .inl h
          · simp only [List.mem_append, List.mem_singleton] at h
            rcases h with h | rfl
            · exact .inr h
            · exact .inl ht2
        · rcases hcl k hk x hx p hp with h | h
          · exact .inl h
          · simp only [List.mem_append, List.mem_singleton] at h
            rcases h with h | rfl
            · exact .inr h
            · exact .inl ht2
      · refine wayT (by simp [ht2]) ?_
        walk_at "s"
        refine setDI_at hd1 (by unfold kOf; rw [List.length_map]; simp [szl]; omega) ?_
        rw [kOf_put ht2]
        have hd2 := rdD_set (kvs' := kOf (M ++ [t])) hd1
        have hw2 := rdL_ne (c := C.dic (kOf (M ++ [t]))) hw1 (show st.length + 1 ≠ st.length by omega)
        have f2 : FraG st.length st (st3.set st.length (.dic (kOf (M ++ [t])))) := f1.setN (by omega)
        generalize st3.set st.length (.dic (kOf (M ++ [t]))) = st4 at hd2 hw2 f2 ⊢
        walk_at "r"
        refine at_is (at_nd htn) ?_
        obtain ⟨s, ps, ed, el, ep⟩ := dat_leaf (ns[t])
        rw [ed]
        walk_at "r"
        refine at_is rfl ?_
        refine ⟨Nat.le_of_ble_eq_true rfl, ?_⟩
        refine notinS_at rfl rfl ?_
        rw [el]
        walk_at "s"
        have nd2 : (M ++ [t]).Nodup := by
          rw [List.nodup_append]
          exact ⟨nd, by simp, fun a ha b hb => by simp at hb; subst hb; rintro rfl; exact ht2 ha⟩
        have hlt2 : ∀ k ∈ M ++ [t], k < ns.length := fun k hk => by
          simp only [List.mem_append, List.mem_singleton] at hk
          rcases hk with hk | rfl
          · exact hlt k hk
          · exact htn
        have hml2 := nodup_le nd2 hlt2
        rw [List.length_append, List.length_singleton] at hml2
        have fin : ∀ st5, rdD st5 st.length (kOf (M ++ [t])) → rdL st5 (st.length + 1) ((W' ++ Pd.parts ns[t]).map iN) → FraG st.length st st5 → N' [some (.tup (ns.map Nd.dat)), some (.ref n), some (.ref st.length), some (.ref (st.length + 1)), some (.int t)] st5 := by
          intro st5 hd5 hw5 f5
          have hpl := parts_le ns[t]
          refine hN' (4 * (ns.length - (M ++ [t]).length) + (W' ++ Pd.parts ns[t]).length) _ _ (by rw [List.length_append, List.length_append, List.length_singleton]; omega) ⟨M ++ [t], W' ++ Pd.parts ns[t], _, rfl, hd5, hw5, f5, nd2, hlt2, fun k hk => ?_, fun t' h => ?_, fun k hk x hx p hp => ?_, rfl, by rw [List.length_append, List.length_append, List.length_singleton]; omega⟩
          · simp only [List.mem_append] at hk
            rcases hk with hk | hk
            · exact hwl k (by simp [hk])
            · have := S.part_lt (List.getElem?_eq_getElem htn) k hk
              omega
          · rcases hts t' h with h | h
            · exact .inl (by simp [h])
            · simp only [List.mem_append, List.mem_singleton] at h
              rcases h with h | rfl
              · exact .inr (by simp [h])
              · exact .inl (by simp)
          · simp only [List.mem_append, List.mem_singleton] at hk
            rcases hk with hk | rfl
            · rcases hcl k hk x hx p hp with h | h
              · exact .inl (by simp [h])
              · simp only [List.mem_append, List.mem_singleton] at h
                rcases h with h | rfl
                · exact .inr (by simp [h])
                · exact .inl (by simp)
            · rw [List.getElem?_eq_getElem htn] at hx
              cases hx
              exact .inr (by simp [hp])
        cases hlf : leafB ns[t] with
        | true =>
          refine wayF rfl ?_
          walk_at "s"
          exact fin _ hd2 (by rw [parts_leaf hlf, List.append_nil]; exact hw2) f2
        | false =>
          refine wayT rfl ?_
          walk_at "s"
          refine ⟨⟨_, hw2⟩, ?_⟩
          walk_at "s"
          refine at_is (at_nd htn) ?_
          rw [ed, ep hlf]
          walk_at "s"
          have ec : cutD (D.str s :: .int ns[t].wd :: (Pd.parts ns[t]).map fun p : Nat => D.int (p : Int)) (some 2) none = (Pd.parts ns[t]).map iN := by
            rw [cut_drop _ (by decide)]; rfl
          rw [ec]
          have hpl := parts_le ns[t]
          refine extendT_at hw2 (by rw [List.length_map, List.length_map]; simp [szl]; omega) ?_
          walk_at "s"
          refine fin _ (rdD_ne hd2 (by omega)) ?_ (f2.setN (by omega))
          rw [List.map_append]
          exact rdL_set hw2
  · subst e
    walk_at "s"
    refine ⟨kOf M, M.map fun k : Nat => (k : Int), hd, by unfold kOf; rw [List.map_map, List.map_map]; rfl, fun ns' hperm hpw => ?_⟩
    have e1 : ns' = (ns'.map Int.toNat).map fun k : Nat => (k : Int) := by
      rw [List.map_map]
      have e0 : ns'.map ((fun k : Nat => (k : Int)) ∘ Int.toNat) = ns'.map id := List.map_congr_left fun z hz => by
        obtain ⟨k, _, rfl⟩ := List.mem_map.mp (hperm.mem_iff.mp hz)
        rfl
      rw [e0, List.map_id]
    have hmem : ∀ k : Nat, k ∈ ns'.map Int.toNat ↔ k ∈ M := by
      intro k
      constructor
      · intro h
        obtain ⟨z, hz, rfl⟩ := List.mem_map.mp h
        obtain ⟨j, hj, rfl⟩ := List.mem_map.mp (hperm.mem_iff.mp hz)
        exact hj
      · intro h
        exact List.mem_map.mpr ⟨(k : Int), hperm.mem_iff.mpr (List.mem_map.mpr ⟨k, h, rfl⟩), rfl⟩
    have hnd : ns'.Nodup := hperm.nodup_iff.mpr (by
      exact List.Pairwise.map _ (fun a b h e => h (by omega)) nd)
    have asc : (ns'.map Int.toNat).Pairwise (· < ·) := by
      rw [List.pairwise_map]
      have hboth : ns'.Pairwise (fun a b => a ≤ b ∧ a ≠ b) := List.Pairwise.and hpw hnd
      refine List.Pairwise.imp_of_mem (fun {a b} ha hb hab => ?_) hboth
      obtain ⟨j, hj, rfl⟩ := List.mem_map.mp (hperm.mem_iff.mp ha)
      obtain ⟨j', hj', rfl⟩ := List.mem_map.mp (hperm.mem_iff.mp hb)
      obtain ⟨h1, h2⟩ := hab
      simp only [Int.toNat_natCast]
      omega
    have nl : st.length < (st2 ++ [C.lst ((ns'.map Int.toNat).map iN)]).length := by
      have := f.grw.le
      rw [List.length_append, List.length_singleton]; omega
    have e2 : ns'.map D.int = (ns'.map Int.toNat).map iN := by
      rw [congrArg (List.map D.int) e1, List.map_map]; rfl
    rw [e2]
    have e3 : (st2 ++ [C.lst ((ns'.map Int.toNat).map iN)]).length - 1 = st2.length := by simp
    have := q (ns'.map Int.toNat) (st2 ++ [C.lst ((ns'.map Int.toNat).map iN)]) ⟨fun k hk => hlt k ((hmem k).mp hk), asc, fun t h => (hmem t).mpr (hts t h), fun k hk x hx p hp => (hmem p).mpr (hcl k ((hmem k).mp hk) x hx p hp)⟩ f.grw.app (by rw [e3]; exact rdL_new) nl
    rw [e3] at this
    exact this
def nameOf : Nd → Str
  | .word _ _ => Str.ofString "word"
  | .inp _ _ => Str.ofString "input"
  | .one o _ _ => opS o
  | .two o _ _ _ => opS o
  | .pick _ _ _ _ => opS .pick
def tailOf : Nd → List D
  | .word _ v => [.int v]
  | .inp _ i => [.int (i : Int)]
  | .one _ _ a => [.int (a : Int)]
  | .two _ _ a b => [.int (a : Int), .int (b : Int)]
  | .pick _ c a b => [.int (c : Int), .int (a : Int), .int (b : Int)]
theorem dat_eq (x : Nd) : x.dat = .tup (.str (nameOf x) :: .int x.wd :: tailOf x) := by cases x <;> rfl
def isWord : Nd → Bool
  | .word _ _ => true
  | _ => false
theorem name_ok (x : Nd) : okS (nameOf x) = true := by
  cases x with
  | word w v => show okS (Str.ofString "word") = true; decide +kernel
  | inp w i => show okS (Str.ofString "input") = true; decide +kernel
  | one o w a => exact opS_ok o
  | two o w a b => exact opS_ok o
  | pick w c a b => exact opS_ok .pick
theorem name_word (x : Nd) : decide (nameOf x = Str.ofString "word") = isWord x := by
  cases x with
  | word w v => show decide (Str.ofString "word" = Str.ofString "word") = true; decide +kernel
  | inp w i => show decide (Str.ofString "input" = Str.ofString "word") = false; decide +kernel
  | one o w a => exact (opS_w o).2.1
  | two o w a b => exact (opS_w o).2.1
  | pick w c a b => exact (opS_w .pick).2.1
end Pd
end PartPdNeeded

section PartPdk45B
set_option linter.all false
set_option maxRecDepth 100000
namespace Pk45
open PySem Pd
def b_p_greatest (c : Cl) : TS := sRet (dOp subK (dOp shlK (dC (.int 1)) (dVar 0)) (dC (.int 1)))
def b_p_related (c : Cl) : TS := sSeq (sIf (tTru (dCmp eqC (dVar 0) (dC (.str "==")))) (sRet (dB intB (aCons (dCmp eqC (dVar 1) (dVar 2)) (aNil)))) (sNext)) (sSeq (sIf (tTru (dCmp eqC (dVar 0) (dC (.str "!=")))) (sRet (dB intB (aCons (dCmp neC (dVar 1) (dVar 2)) (aNil)))) (sNext)) (sSeq (sIf (tTru (dCmp eqC (dVar 0) (dC (.str "<")))) (sRet (dB intB (aCons (dCmp ltC (dVar 1) (dVar 2)) (aNil)))) (sNext)) (sRet (dB intB (aCons (dCmp leC (dVar 1) (dVar 2)) (aNil))))))
def b_p_shifted (c : Cl) : TS := sSeq (sIf (tTru (dCmp geC (dVar 3) (dVar 1))) (sRet (dC (.int 0))) (sNext)) (sSeq (sIf (tTru (dCmp eqC (dVar 0) (dC (.str "<<")))) (sRet (dOp andK (dOp shlK (dVar 2) (dVar 3)) (dCall c "greatest" (aCons (dVar 1) (aNil))))) (sNext)) (sRet (dOp shrK (dVar 2) (dVar 3))))
def b_p_divided (c : Cl) : TS := sSeq (sIf (tTru (dCmp eqC (dVar 2) (dC (.int 0)))) (sRet (dC (.int 0))) (sNext)) (sSeq (sIf (tTru (dCmp eqC (dVar 0) (dC (.str "div")))) (sRet (dOp fdivK (dVar 1) (dVar 2))) (sNext)) (sRet (dOp subK (dVar 1) (dOp mulK (dVar 2) (dOp fdivK (dVar 1) (dVar 2))))))
def b_p_reckoned (c : Cl) : TS := sSeq (sIf (tTru (dCmp eqC (dVar 0) (dC (.str "+")))) (sRet (dOp addK (dVar 1) (dVar 2))) (sNext)) (sSeq (sIf (tTru (dCmp eqC (dVar 0) (dC (.str "-")))) (sRet (dOp subK (dVar 1) (dVar 2))) (sNext)) (sSeq (sIf (tTru (dCmp eqC (dVar 0) (dC (.str "*")))) (sRet (dOp mulK (dVar 1) (dVar 2))) (sNext)) (sSeq (sIf (tTru (dCmp eqC (dVar 0) (dC (.str "&")))) (sRet (dOp andK (dVar 1) (dVar 2))) (sNext)) (sSeq (sIf (tTru (dCmp eqC (dVar 0) (dC (.str "|")))) (sRet (dOp orK (dVar 1) (dVar 2))) (sNext)) (sRet (dOp xorK (dVar 1) (dVar 2)))))))
def b_p_result (c : Cl) : TS := sSeq (sAsg (dOp ixK (dVar 2) (dC (.int 0))) (gName 3)) (sSeq (sIf (tTru (dCmp eqC (dVar 0) (dC (.str "not")))) (sRet (dOp subK (dCall c "greatest" (aCons (dVar 1) (aNil))) (dVar 3))) (sNext)) (sSeq (sIf (tTru (dCmp eqC (dVar 0) (dC (.str "neg")))) (sRet (dOp andK (dUn negK (dVar 3)) (dCall c "greatest" (aCons (dVar 1) (aNil))))) (sNext)) (sSeq (sIf (tTru (dCmp eqC (dVar 0) (dC (.str "wide")))) (sRet (dOp andK (dVar 3) (dCall c "greatest" (aCons (dVar 1) (aNil))))) (sNext)) (sSeq (sIf (tTru (dCmp eqC (dVar 0) (dC (.str "pick")))) (sRet (dIf (tTru (dCmp eqC (dVar 3) (dC (.int 1)))) (dOp ixK (dVar 2) (dC (.int 1))) (dOp ixK (dVar 2) (dC (.int 2))))) (sNext)) (sSeq (sAsg (dOp ixK (dVar 2) (dC (.int 1))) (gName 4)) (sSeq (sIf (tTru (dCmp inC (dVar 0) (dTup (aCons (dC (.str "==")) (aCons (dC (.str "!=")) (aCons (dC (.str "<")) (aCons (dC (.str "<=")) (aNil)))))))) (sRet (dCall c "related" (aCons (dVar 0) (aCons (dVar 3) (aCons (dVar 4) (aNil)))))) (sNext)) (sSeq (sIf (tTru (dCmp inC (dVar 0) (dTup (aCons (dC (.str "<<")) (aCons (dC (.str ">>")) (aNil)))))) (sRet (dCall c "shifted" (aCons (dVar 0) (aCons (dVar 1) (aCons (dVar 3) (aCons (dVar 4) (aNil))))))) (sNext)) (sSeq (sIf (tTru (dCmp inC (dVar 0) (dTup (aCons (dC (.str "div")) (aCons (dC (.str "rem")) (aNil)))))) (sRet (dCall c "divided" (aCons (dVar 0) (aCons (dVar 3) (aCons (dVar 4) (aNil)))))) (sNext)) (sRet (dOp andK (dCall c "reckoned" (aCons (dVar 0) (aCons (dVar 3) (aCons (dVar 4) (aNil))))) (dCall c "greatest" (aCons (dVar 1) (aNil)))))))))))))
def b_p_values_of (c : Cl) : TS := sSeq (sAsg (dLst (aNil)) (gName 2)) (sSeq (sFor (iSeq (dVar 0)) (gName 3) (sIf (tTru (dCmp eqC (dOp ixK (dVar 3) (dC (.int 0))) (dC (.str "word")))) (sExpr (dM tyLst appendM (dVar 2) (aCons (dOp ixK (dVar 3) (dC (.int 2))) (aNil)))) (sIf (tTru (dCmp eqC (dOp ixK (dVar 3) (dC (.int 0))) (dC (.str "input")))) (sExpr (dM tyLst appendM (dVar 2) (aCons (dIf (tTru (dCmp ltC (dOp ixK (dVar 3) (dC (.int 2))) (dB lenB (aCons (dVar 1) (aNil))))) (dOp andK (dOp ixK (dVar 1) (dOp ixK (dVar 3) (dC (.int 2)))) (dCall c "greatest" (aCons (dOp ixK (dVar 3) (dC (.int 1))) (aNil)))) (dC (.int 0))) (aNil)))) (sSeq (sAsg (dLc (iSeq (dSl (dVar 3) (oSome (dC (.int 2))) (oNone))) (gName 5) (tYes) (dOp ixK (dVar 2) (dVar 5)) [5]) (gName 4)) (sExpr (dM tyLst appendM (dVar 2) (aCons (dCallS c "result" 2 (aCons (dOp ixK (dVar 3) (dC (.int 0))) (aCons (dOp ixK (dVar 3) (dC (.int 1))) (aStar (dVar 4) (aNil))))) (aNil)))))))) (sRet (dB tupleB (aCons (dVar 2) (aNil)))))
def b_p_replayed (c : Cl) : TS := sSeq (sAsg (dCall c "values_of" (aCons (dOp ixK (dVar 0) (dC (.int 3))) (aCons (dOp addK (dB tupleB (aCons (dVar 1) (aNil))) (dB tupleB (aCons (dVar 2) (aNil)))) (aNil)))) (gName 3)) (sSeq (sAsg (dOp ixK (dVar 0) (dC (.int 4))) (gName 4)) (sSeq (sPar 5 6 (aCons (dLst (aNil)) (aCons (dLst (aNil)) (aNil)))) (sSeq (sWhile (tTru (dCmp neC (dOp ixK (dVar 4) (dC (.int 0))) (dC (.str "end")))) (sIf (tTru (dCmp eqC (dOp ixK (dVar 4) (dC (.int 0))) (dC (.str "ask")))) (sSeq (sAsg (dB tupleB (aCons (dLc (iSeq (dOp ixK (dVar 4) (dC (.int 2)))) (gName 10) (tYes) (dOp ixK (dVar 3) (dVar 10)) [10]) (aNil))) (gName 7)) (sSeq (sIf (tTru (dCmp eqC (dB lenB (aCons (dVar 6) (aNil))) (dB lenB (aCons (dVar 2) (aNil))))) (sRet (dTup (aCons (dB tupleB (aCons (dVar 5) (aNil))) (aCons (dB tupleB (aCons (dVar 6) (aNil))) (aCons (dTup (aCons (dC (.str "asks")) (aCons (dOp ixK (dVar 4) (dC (.int 1))) (aCons (dVar 7) (aNil))))) (aNil)))))) (sNext)) (sSeq (sExpr (dM tyLst appendM (dVar 6) (aCons (dTup (aCons (dOp ixK (dVar 4) (dC (.int 1))) (aCons (dVar 7) (aNil)))) (aNil)))) (sAsg (dOp ixK (dVar 4) (dC (.int 3))) (gName 4))))) (sSeq (sAsg (dOp ixK (dVar 3) (dOp ixK (dVar 4) (dC (.int 2)))) (gName 8)) (sSeq (sIf (tTru (dCmp eqC (dOp ixK (dVar 4) (dC (.int 0))) (dC (.str "look")))) (sExpr (dM tyLst appendM (dVar 5) (aCons (dTup (aCons (dOp ixK (dOp ixK (dVar 4) (dC (.int 1))) (dC (.int 0))) (aCons (dOp ixK (dOp ixK (dVar 4) (dC (.int 1))) (dC (.int 1))) (aCons (dVar 8) (aNil))))) (aNil)))) (sNext)) (sAsg (dIf (tTru (dCmp eqC (dVar 8) (dC (.int 1)))) (dOp ixK (dVar 4) (dC (.int 3))) (dOp ixK (dVar 4) (dC (.int 4)))) (gName 4)))))) (sSeq (sAsg (dOp ixK (dVar 4) (dC (.int 1))) (gName 9)) (sSeq (sIf (tTru (dCmp eqC (dOp ixK (dVar 9) (dC (.int 0))) (dC (.str "returns")))) (sAsg (dTup (aCons (dC (.str "returns")) (aCons (dOp ixK (dVar 3) (dOp ixK (dVar 9) (dC (.int 1)))) (aNil)))) (gName 9)) (sNext)) (sRet (dTup (aCons (dB tupleB (aCons (dVar 5) (aNil))) (aCons (dB tupleB (aCons (dVar 6) (aNil))) (aCons (dVar 9) (aNil)))))))))))
def b_l_begin (c : Cl) : TS := sRet (dLst (aCons (dLc (iSeq (dVar 0)) (gName 1) (tYes) (dB intB (aCons (dVar 1) (aNil))) [1]) (aCons (dC (.int 0)) (aCons (dC (.int 0)) (aCons (dC (.int 7)) (aCons (dC (.int 2)) (aNil)))))))
def b_l_draw (c : Cl) : TS := sSeq (sIf (tTru (dCmp gtC (dOp ixK (dVar 0) (dC (.int 2))) (dC (.int 0)))) (sSeq (sAsg (dOp ixK (dVar 0) (dC (.int 2))) (gName 2)) (sSeq (sAsg (dOp fdivK (dVar 2) (dVar 1)) (gSub (dVar 0) (dC (.int 2)))) (sRet (dOp modK (dB intB (aCons (dVar 2) (aNil))) (dVar 1))))) (sNext)) (sSeq (sAsg (dC (.int 0)) (gName 3)) (sSeq (sIf (tTru (dCmp ltC (dOp ixK (dVar 0) (dC (.int 1))) (dB lenB (aCons (dOp ixK (dVar 0) (dC (.int 0))) (aNil))))) (sSeq (sAsg (dOp ixK (dOp ixK (dVar 0) (dC (.int 0))) (dOp ixK (dVar 0) (dC (.int 1)))) (gName 4)) (sAsg (dOp addK (dOp mulK (dC (.int 2)) (dB absB (aCons (dVar 4) (aNil)))) (dB intB (aCons (dCmp ltC (dVar 4) (dC (.int 0))) (aNil)))) (gName 3))) (sNext)) (sSeq (sAugL iaddK (dVar 0) (dC (.int 1)) (dC (.int 1))) (sSeq (sIf (tTru (dCmp geC (dVar 3) (dOp mulK (dC (.int 2)) (dOp powK (dC (.int 10)) (dC (.int 18)))))) (sSeq (sAsg (dOp modK (dB intB (aCons (dOp fdivK (dVar 3) (dC (.int 2))) (aNil))) (dOp shlK (dC (.int 1)) (dC (.int 6000)))) (gName 2)) (sSeq (sAsg (dOp fdivK (dVar 2) (dVar 1)) (gSub (dVar 0) (dC (.int 2)))) (sRet (dOp modK (dB intB (aCons (dVar 2) (aNil))) (dVar 1))))) (sNext)) (sSeq (sAsg (dOp modK (dB intB (aCons (dOp addK (dOp addK (dOp addK (dOp mulK (dOp ixK (dVar 0) (dC (.int 3))) (dC (.int 48271))) (dOp mulK (dOp modK (dB intB (aCons (dVar 3) (aNil))) (dC (.int 2147483629))) (dC (.int 16807)))) (dOp mulK (dOp ixK (dVar 0) (dC (.int 1))) (dC (.int 69621)))) (dC (.int 11))) (aNil))) (dC (.int 2147483647))) (gSub (dVar 0) (dC (.int 3)))) (sRet (dOp modK (dB intB (aCons (dOp fdivK (dOp ixK (dVar 0) (dC (.int 3))) (dC (.int 16))) (aNil))) (dVar 1))))))))
def b_l_pick (c : Cl) : TS := sRet (dOp ixK (dVar 1) (dCall c "_law_draw" (aCons (dVar 0) (aCons (dB lenB (aCons (dVar 1) (aNil))) (aNil)))))
def b_l_pop (c : Cl) : TS := sRet (dM tyLst popM (dVar 1) (aCons (dCall c "_law_draw" (aCons (dVar 0) (aCons (dB lenB (aCons (dVar 1) (aNil))) (aNil)))) (aNil)))
def b_l_pool (c : Cl) : TS := sSeq (sAsg (dC (.str "a b2 sum left r k0 kind z9z full tail n m8 aa busy cnt p t4 even2 ab1 head u v2 w lowest high mid mark ")) (gName 0)) (sSeq (sAsg (dOp addK (dVar 0) (dC (.str "s t e f g h i j k x y q7 deep turn gate l5 hold next1 o c0 d two zz1 near far9 last ring2 index "))) (gName 0)) (sRet (dM tyStr splitM (dOp addK (dVar 0) (dC (.str "aaaaaaa8 b c1 top2 net3 row col7 v claim zero result1 duty go"))) (aCons (dC (.str " ")) (aNil)))))
def b_l_is_int (c : Cl) : TS := sRet (dAndT (dIsi .int (dVar 0)) (dNotT (dIsi .bool (dVar 0))))
def b_l_tuples (c : Cl) : TS := sSeq (sAsg (dLst (aCons (dTup (aNil)) (aNil))) (gName 1)) (sSeq (sFor (iSeq (dVar 0)) (gName 2) (sSeq (sAsg (dLst (aNil)) (gName 3)) (sSeq (sFor (iSeq (dVar 1)) (gName 4) (sExpr (dM tyLst extendAM (dVar 3) (aCons (dLc (iR1 (dOp shlK (dC (.int 1)) (dVar 2))) (gName 5) (tYes) (dOp addK (dVar 4) (dTup (aCons (dVar 5) (aNil)))) [5]) (aNil))))) (sAsg (dVar 3) (gName 1))))) (sRet (dVar 1)))
def b_l_word (c : Cl) : TS := sSeq (sPar 3 4 (aCons (dOp ixK (dVar 2) (dC (.int 0))) (aCons (dOp ixK (dVar 2) (dOp subK (dB lenB (aCons (dVar 2) (aNil))) (dC (.int 1)))) (aNil)))) (sSeq (sAsg (dOp subK (dOp shlK (dC (.int 1)) (dVar 1)) (dC (.int 1))) (gName 5)) (sSeq (sIf (tTru (dCmp eqC (dVar 0) (dC (.str "pick")))) (sRet (dOp ixK (dVar 2) (dOp subK (dC (.int 2)) (dVar 3)))) (sNext)) (sSeq (sIf (tTru (dCmp inC (dVar 0) (dTup (aCons (dC (.str "not")) (aCons (dC (.str "neg")) (aCons (dC (.str "wide")) (aNil))))))) (sRet (dOp andK (dIf (tTru (dCmp eqC (dVar 0) (dC (.str "wide")))) (dVar 3) (dOp subK (dUn negK (dVar 3)) (dB intB (aCons (dCmp eqC (dVar 0) (dC (.str "not"))) (aNil))))) (dVar 5))) (sNext)) (sSeq (sIf (tTru (dCmp inC (dVar 0) (dTup (aCons (dC (.str "+")) (aCons (dC (.str "-")) (aCons (dC (.str "*")) (aNil))))))) (sRet (dOp andK (dIf (tTru (dCmp eqC (dVar 0) (dC (.str "+")))) (dOp addK (dVar 3) (dVar 4)) (dIf (tTru (dCmp eqC (dVar 0) (dC (.str "-")))) (dOp subK (dVar 3) (dVar 4)) (dOp mulK (dVar 3) (dVar 4)))) (dVar 5))) (sNext)) (sSeq (sIf (tTru (dCmp inC (dVar 0) (dTup (aCons (dC (.str "==")) (aCons (dC (.str "!=")) (aNil)))))) (sRet (dB intB (aCons (dCmp eqC (dCmp eqC (dVar 3) (dVar 4)) (dCmp eqC (dVar 0) (dC (.str "==")))) (aNil)))) (sNext)) (sSeq (sIf (tTru (dCmp inC (dVar 0) (dTup (aCons (dC (.str "<")) (aCons (dC (.str "<=")) (aNil)))))) (sRet (dB intB (aCons (dOrT (dCmp ltC (dVar 3) (dVar 4)) (dAndT (dCmp eqC (dVar 0) (dC (.str "<="))) (dCmp eqC (dVar 3) (dVar 4)))) (aNil)))) (sNext)) (sSeq (sIf (tTru (dCmp inC (dVar 0) (dTup (aCons (dC (.str "&")) (aCons (dC (.str "|")) (aCons (dC (.str "^")) (aNil))))))) (sRet (dIf (tTru (dCmp eqC (dVar 0) (dC (.str "&")))) (dOp andK (dVar 3) (dVar 4)) (dIf (tTru (dCmp eqC (dVar 0) (dC (.str "|")))) (dOp orK (dVar 3) (dVar 4)) (dOp xorK (dVar 3) (dVar 4))))) (sNext)) (sSeq (sIf (tTru (dCmp inC (dVar 0) (dTup (aCons (dC (.str "<<")) (aCons (dC (.str ">>")) (aNil)))))) (sRet (dIf (tTru (dCmp eqC (dVar 0) (dC (.str "<<")))) (dOp andK (dOp shlK (dVar 3) (dB min2B (aCons (dVar 4) (aCons (dC (.int 8)) (aNil))))) (dVar 5)) (dOp shrK (dVar 3) (dB min2B (aCons (dVar 4) (aCons (dC (.int 8)) (aNil))))))) (sNext)) (sSeq (sIf (tTru (dCmp eqC (dVar 4) (dC (.int 0)))) (sRet (dC (.int 0))) (sNext)) (sRet (dIf (tTru (dCmp eqC (dVar 0) (dC (.str "div")))) (dOp fdivK (dVar 3) (dVar 4)) (dOp subK (dVar 3) (dOp mulK (dOp fdivK (dVar 3) (dVar 4)) (dVar 4))))))))))))))
def b_l_values (c : Cl) : TS := sSeq (sAsg (dLst (aNil)) (gName 2)) (sSeq (sFor (iSeq (dVar 0)) (gName 3) (sIf (tTru (dCmp eqC (dOp ixK (dVar 3) (dC (.int 0))) (dC (.str "word")))) (sExpr (dM tyLst appendM (dVar 2) (aCons (dOp ixK (dVar 3) (dC (.int 2))) (aNil)))) (sIf (tTru (dCmp eqC (dOp ixK (dVar 3) (dC (.int 0))) (dC (.str "input")))) (sSeq (sAsg (dIf (tTru (dCmp ltC (dOp ixK (dVar 3) (dC (.int 2))) (dB lenB (aCons (dVar 1) (aNil))))) (dOp ixK (dVar 1) (dOp ixK (dVar 3) (dC (.int 2)))) (dC (.int 0))) (gName 4)) (sExpr (dM tyLst appendM (dVar 2) (aCons (dOp andK (dVar 4) (dOp subK (dOp shlK (dC (.int 1)) (dOp ixK (dVar 3) (dC (.int 1)))) (dC (.int 1)))) (aNil))))) (sExpr (dM tyLst appendM (dVar 2) (aCons (dCall c "_law_word" (aCons (dOp ixK (dVar 3) (dC (.int 0))) (aCons (dOp ixK (dVar 3) (dC (.int 1))) (aCons (dLc (iSeq (dSl (dVar 3) (oSome (dC (.int 2))) (oNone))) (gName 5) (tYes) (dOp ixK (dVar 2) (dVar 5)) [5]) (aNil))))) (aNil))))))) (sRet (dVar 2)))
def b_l_place (c : Cl) : TS := sSeq (sIf (tTru (dCmp notinDC (dVar 1) (dVar 0))) (sExpr (dM tyLst appendM (dVar 0) (aCons (dVar 1) (aNil)))) (sNext)) (sRet (dM tyLst indexDM (dVar 0) (aCons (dVar 1) (aNil))))
def b_l_sum_of (c : Cl) : TS := sSeq (sAsg (dOp ixK (dVar 0) (dVar 1)) (gName 2)) (sSeq (sIf (tAnd (tTru (dCmp eqC (dOp ixK (dVar 2) (dC (.int 0))) (dC (.str "+")))) (tTru (dCmp eqC (dOp ixK (dOp ixK (dVar 0) (dOp ixK (dVar 2) (dC (.int 3)))) (dC (.int 0))) (dC (.str "word"))))) (sRet (dTup (aCons (dOp ixK (dVar 2) (dC (.int 2))) (aCons (dOp ixK (dOp ixK (dVar 0) (dOp ixK (dVar 2) (dC (.int 3)))) (dC (.int 2))) (aNil))))) (sNext)) (sRet (dTup (aCons (dVar 1) (aCons (dC (.int 0)) (aNil))))))
def b_l_make (c : Cl) : TS := sSeq (sAsg (dLc (iSeq (dVar 3)) (gName 7) (tYes) (dOp ixK (dVar 0) (dVar 7)) [7]) (gName 4)) (sSeq (sIf (tTru (dB allB (aCons (dLc (iSeq (dVar 4)) (gName 8) (tYes) (dCmp eqC (dOp ixK (dVar 8) (dC (.int 0))) (dC (.str "word"))) [8]) (aNil)))) (sRet (dCall c "_law_place" (aCons (dVar 0) (aCons (dTup (aCons (dC (.str "word")) (aCons (dVar 2) (aCons (dCall c "_law_word" (aCons (dVar 1) (aCons (dVar 2) (aCons (dLc (iSeq (dVar 4)) (gName 8) (tYes) (dOp ixK (dVar 8) (dC (.int 2))) [8]) (aNil))))) (aNil))))) (aNil))))) (sNext)) (sSeq (sIf (tTru (dCmp eqC (dVar 1) (dC (.str "!=")))) (sRet (dCall c "_law_make" (aCons (dVar 0) (aCons (dC (.str "not")) (aCons (dC (.int 1)) (aCons (dLst (aCons (dCall c "_law_make" (aCons (dVar 0) (aCons (dC (.str "==")) (aCons (dC (.int 1)) (aCons (dVar 3) (aNil)))))) (aNil))) (aNil))))))) (sNext)) (sSeq (sIf (tAnd (tTru (dCmp inC (dVar 1) (dTup (aCons (dC (.str "+")) (aCons (dC (.str "*")) (aCons (dC (.str "&")) (aCons (dC (.str "|")) (aCons (dC (.str "^")) (aCons (dC (.str "==")) (aNil)))))))))) (tTru (dCmp eqC (dOp ixK (dOp ixK (dVar 4) (dC (.int 0))) (dC (.int 0))) (dC (.str "word"))))) (sRet (dCall c "_law_make" (aCons (dVar 0) (aCons (dVar 1) (aCons (dVar 2) (aCons (dLst (aCons (dOp ixK (dVar 3) (dC (.int 1))) (aCons (dOp ixK (dVar 3) (dC (.int 0))) (aNil)))) (aNil))))))) (sNext)) (sSeq (sIf (tAnd (tTru (dCmp eqC (dVar 1) (dC (.str "-")))) (tTru (dCmp eqC (dOp ixK (dOp ixK (dVar 4) (dC (.int 1))) (dC (.int 0))) (dC (.str "word"))))) (sSeq (sAsg (dCall c "_law_place" (aCons (dVar 0) (aCons (dTup (aCons (dC (.str "word")) (aCons (dVar 2) (aCons (dOp andK (dUn negK (dOp ixK (dOp ixK (dVar 4) (dC (.int 1))) (dC (.int 2)))) (dOp subK (dOp shlK (dC (.int 1)) (dVar 2)) (dC (.int 1)))) (aNil))))) (aNil)))) (gName 5)) (sRet (dCall c "_law_make" (aCons (dVar 0) (aCons (dC (.str "+")) (aCons (dVar 2) (aCons (dLst (aCons (dOp ixK (dVar 3) (dC (.int 0))) (aCons (dVar 5) (aNil)))) (aNil)))))))) (sNext)) (sSeq (sIf (tAnd (tTru (dCmp inC (dVar 1) (dTup (aCons (dC (.str "not")) (aCons (dC (.str "neg")) (aNil)))))) (tTru (dCmp eqC (dOp ixK (dOp ixK (dVar 4) (dC (.int 0))) (dC (.int 0))) (dVar 1)))) (sRet (dOp ixK (dOp ixK (dVar 4) (dC (.int 0))) (dC (.int 2)))) (sNext)) (sSeq (sIf (tAnd (tTru (dCmp eqC (dVar 1) (dC (.str "wide")))) (tTru (dCmp eqC (dOp ixK (dOp ixK (dVar 4) (dC (.int 0))) (dC (.int 1))) (dVar 2)))) (sRet (dOp ixK (dVar 3) (dC (.int 0)))) (sNext)) (sSeq (sIf (tAnd (tTru (dCmp eqC (dVar 1) (dC (.str "pick")))) (tTru (dCmp eqC (dOp ixK (dOp ixK (dVar 4) (dC (.int 0))) (dC (.int 0))) (dC (.str "word"))))) (sRet (dOp ixK (dVar 3) (dOp subK (dC (.int 2)) (dOp ixK (dOp ixK (dVar 4) (dC (.int 0))) (dC (.int 2)))))) (sNext)) (sSeq (sIf (tAnd (tTru (dCmp eqC (dVar 1) (dC (.str "pick")))) (tTru (dCmp eqC (dOp ixK (dVar 3) (dC (.int 1))) (dOp ixK (dVar 3) (dC (.int 2)))))) (sRet (dOp ixK (dVar 3) (dC (.int 1)))) (sNext)) (sSeq (sAsg (dC .non) (gName 6)) (sSeq (sIf (tAnd (tTru (dCmp eqC (dB lenB (aCons (dVar 3) (aNil))) (dC (.int 2)))) (tTru (dCmp eqC (dOp ixK (dOp ixK (dVar 4) (dC (.int 1))) (dC (.int 0))) (dC (.str "word"))))) (sAsg (dCall c "_law_make_word" (aCons (dVar 0) (aCons (dVar 1) (aCons (dVar 2) (aCons (dVar 3) (aCons (dOp ixK (dOp ixK (dVar 4) (dC (.int 1))) (dC (.int 2))) (aNil))))))) (gName 6)) (sIf (tTru (dCmp eqC (dB lenB (aCons (dVar 3) (aNil))) (dC (.int 2)))) (sAsg (dCall c "_law_make_same" (aCons (dVar 0) (aCons (dVar 1) (aCons (dVar 2) (aCons (dVar 3) (aNil)))))) (gName 6)) (sNext))) (sSeq (sIf (tTru (dCmp isC (dVar 6) (dC .non))) (sRet (dCall c "_law_place" (aCons (dVar 0) (aCons (dOp addK (dTup (aCons (dVar 1) (aCons (dVar 2) (aNil)))) (dB tupleB (aCons (dVar 3) (aNil)))) (aNil))))) (sNext)) (sRet (dVar 6)))))))))))))
def b_l_make_word (c : Cl) : TS := sSeq (sAsg (dOp ixK (dVar 3) (dC (.int 0))) (gName 5)) (sSeq (sAsg (dOp ixK (dOp ixK (dVar 0) (dVar 5)) (dC (.int 1))) (gName 6)) (sSeq (sAsg (dOp subK (dOp shlK (dC (.int 1)) (dVar 6)) (dC (.int 1))) (gName 7)) (sSeq (sAsg (dCall c "_law_sum_of" (aCons (dVar 0) (aCons (dVar 5) (aNil)))) (gTup (gsCons (gName 8) (gsCons (gName 9) (gsNil))) 2)) (sSeq (sIf (tOr (tAnd (tTru (dCmp eqC (dVar 1) (dC (.str "+")))) (tTru (dCmp eqC (dVar 4) (dC (.int 0))))) (tAnd (tTru (dCmp inC (dVar 1) (dTup (aCons (dC (.str "|")) (aCons (dC (.str "^")) (aCons (dC (.str "<<")) (aCons (dC (.str ">>")) (aNil)))))))) (tTru (dCmp eqC (dVar 4) (dC (.int 0)))))) (sRet (dVar 5)) (sNext)) (sSeq (sIf (tAnd (tTru (dCmp eqC (dVar 1) (dC (.str "+")))) (tTru (dCmp neC (dVar 8) (dVar 5)))) (sSeq (sAsg (dCall c "_law_place" (aCons (dVar 0) (aCons (dTup (aCons (dC (.str "word")) (aCons (dVar 2) (aCons (dOp andK (dOp addK (dVar 9) (dVar 4)) (dVar 7)) (aNil))))) (aNil)))) (gName 10)) (sRet (dCall c "_law_make" (aCons (dVar 0) (aCons (dC (.str "+")) (aCons (dVar 2) (aCons (dLst (aCons (dVar 8) (aCons (dVar 10) (aNil)))) (aNil)))))))) (sNext)) (sSeq (sIf (tOr (tAnd (tTru (dCmp inC (dVar 1) (dTup (aCons (dC (.str "*")) (aCons (dC (.str "&")) (aCons (dC (.str "div")) (aCons (dC (.str "rem")) (aCons (dC (.str "<")) (aNil))))))))) (tTru (dCmp eqC (dVar 4) (dC (.int 0))))) (tAnd (tTru (dCmp eqC (dVar 1) (dC (.str "rem")))) (tTru (dCmp eqC (dVar 4) (dC (.int 1)))))) (sRet (dCall c "_law_place" (aCons (dVar 0) (aCons (dTup (aCons (dC (.str "word")) (aCons (dVar 2) (aCons (dC (.int 0)) (aNil))))) (aNil))))) (sNext)) (sSeq (sIf (tOr (tAnd (tTru (dCmp inC (dVar 1) (dTup (aCons (dC (.str "*")) (aCons (dC (.str "div")) (aNil)))))) (tTru (dCmp eqC (dVar 4) (dC (.int 1))))) (tAnd (tTru (dCmp eqC (dVar 1) (dC (.str "&")))) (tTru (dCmp eqC (dVar 4) (dVar 7))))) (sRet (dVar 5)) (sNext)) (sSeq (sIf (tAnd (tTru (dCmp eqC (dVar 1) (dC (.str "|")))) (tTru (dCmp eqC (dVar 4) (dVar 7)))) (sRet (dOp ixK (dVar 3) (dC (.int 1)))) (sNext)) (sSeq (sIf (tAnd (tTru (dCmp inC (dVar 1) (dTup (aCons (dC (.str "<<")) (aCons (dC (.str ">>")) (aNil)))))) (tTru (dCmp geC (dVar 4) (dVar 2)))) (sRet (dCall c "_law_place" (aCons (dVar 0) (aCons (dTup (aCons (dC (.str "word")) (aCons (dVar 2) (aCons (dC (.int 0)) (aNil))))) (aNil))))) (sNext)) (sSeq (sIf (tAnd (tTru (dCmp eqC (dVar 1) (dC (.str "<=")))) (tTru (dCmp eqC (dVar 4) (dVar 7)))) (sRet (dCall c "_law_place" (aCons (dVar 0) (aCons (dTup (aCons (dC (.str "word")) (aCons (dC (.int 1)) (aCons (dC (.int 1)) (aNil))))) (aNil))))) (sNext)) (sSeq (sIf (tAnd (tTru (dCmp eqC (dVar 1) (dC (.str "==")))) (tTru (dCmp eqC (dVar 6) (dC (.int 1))))) (sRet (dIf (tTru (dCmp eqC (dVar 4) (dC (.int 1)))) (dVar 5) (dCall c "_law_make" (aCons (dVar 0) (aCons (dC (.str "not")) (aCons (dC (.int 1)) (aCons (dLst (aCons (dVar 5) (aNil))) (aNil)))))))) (sNext)) (sSeq (sIf (tAnd (tTru (dCmp eqC (dVar 1) (dC (.str "==")))) (tTru (dCmp neC (dVar 8) (dVar 5)))) (sSeq (sAsg (dCall c "_law_place" (aCons (dVar 0) (aCons (dTup (aCons (dC (.str "word")) (aCons (dVar 6) (aCons (dOp andK (dOp subK (dVar 4) (dVar 9)) (dVar 7)) (aNil))))) (aNil)))) (gName 10)) (sRet (dCall c "_law_make" (aCons (dVar 0) (aCons (dC (.str "==")) (aCons (dC (.int 1)) (aCons (dLst (aCons (dVar 8) (aCons (dVar 10) (aNil)))) (aNil)))))))) (sNext)) (sRet (dC .non))))))))))))))
def b_l_make_same (c : Cl) : TS := sSeq (sIf (tTru (dCmp eqC (dOp ixK (dVar 3) (dC (.int 0))) (dOp ixK (dVar 3) (dC (.int 1))))) (sSeq (sIf (tTru (dCmp inC (dVar 1) (dTup (aCons (dC (.str "-")) (aCons (dC (.str "<")) (aCons (dC (.str "^")) (aNil))))))) (sRet (dCall c "_law_place" (aCons (dVar 0) (aCons (dTup (aCons (dC (.str "word")) (aCons (dVar 2) (aCons (dC (.int 0)) (aNil))))) (aNil))))) (sNext)) (sSeq (sIf (tTru (dCmp inC (dVar 1) (dTup (aCons (dC (.str "==")) (aCons (dC (.str "<=")) (aNil)))))) (sRet (dCall c "_law_place" (aCons (dVar 0) (aCons (dTup (aCons (dC (.str "word")) (aCons (dC (.int 1)) (aCons (dC (.int 1)) (aNil))))) (aNil))))) (sNext)) (sRet (dIf (tTru (dCmp inC (dVar 1) (dTup (aCons (dC (.str "&")) (aCons (dC (.str "|")) (aNil)))))) (dOp ixK (dVar 3) (dC (.int 0))) (dC .non))))) (sNext)) (sSeq (sPar 4 5 (aCons (dCall c "_law_sum_of" (aCons (dVar 0) (aCons (dOp ixK (dVar 3) (dC (.int 0))) (aNil)))) (aCons (dCall c "_law_sum_of" (aCons (dVar 0) (aCons (dOp ixK (dVar 3) (dC (.int 1))) (aNil)))) (aNil)))) (sSeq (sIf (tOr (tTru (dCmp notinC (dVar 1) (dTup (aCons (dC (.str "-")) (aCons (dC (.str "==")) (aNil)))))) (tTru (dCmp neC (dOp ixK (dVar 4) (dC (.int 0))) (dOp ixK (dVar 5) (dC (.int 0)))))) (sRet (dC .non)) (sNext)) (sSeq (sIf (tTru (dCmp eqC (dVar 1) (dC (.str "==")))) (sRet (dCall c "_law_place" (aCons (dVar 0) (aCons (dTup (aCons (dC (.str "word")) (aCons (dC (.int 1)) (aCons (dB intB (aCons (dCmp eqC (dOp ixK (dVar 4) (dC (.int 1))) (dOp ixK (dVar 5) (dC (.int 1)))) (aNil))) (aNil))))) (aNil))))) (sNext)) (sRet (dCall c "_law_place" (aCons (dVar 0) (aCons (dTup (aCons (dC (.str "word")) (aCons (dVar 2) (aCons (dOp andK (dOp subK (dOp ixK (dVar 4) (dC (.int 1))) (dOp ixK (dVar 5) (dC (.int 1)))) (dOp subK (dOp shlK (dC (.int 1)) (dVar 2)) (dC (.int 1)))) (aNil))))) (aNil))))))))
def b_l_plain (c : Cl) : TS := sSeq (sIf (tTru (dIsi .tuple (dVar 0))) (sRet (dB allB (aCons (dLc (iSeq (dVar 0)) (gName 1) (tYes) (dCall c "_law_plain" (aCons (dVar 1) (aNil))) [1]) (aNil)))) (sNext)) (sRet (dOrT (dIsi .str (dVar 0)) (dCall c "_law_is_int" (aCons (dVar 0) (aNil)))))
def b_l_word_term (c : Cl) : TS := sRet (dCall c "_law_place" (aCons (dGetA (dVar 0) (dC (.str "sheet"))) (aCons (dTup (aCons (dC (.str "word")) (aCons (dVar 2) (aCons (dVar 1) (aNil))))) (aNil))))
def b_l_term (c : Cl) : TS := sSeq (sIf (tTru (dCmp eqC (dOp ixK (dVar 1) (dC (.int 0))) (dC (.str "word")))) (sRet (dCall c "_law_word_term" (aCons (dVar 0) (aCons (dOp ixK (dVar 1) (dC (.int 1))) (aCons (dOp ixK (dVar 1) (dC (.int 2))) (aNil)))))) (sNext)) (sSeq (sIf (tTru (dCmp eqC (dOp ixK (dVar 1) (dC (.int 0))) (dC (.str "name")))) (sRet (dGetA (dGetA (dVar 0) (dC (.str "terms"))) (dOp ixK (dVar 1) (dC (.int 1))))) (sNext)) (sSeq (sAsg (dLc (iSeq (dSl (dVar 1) (oSome (dC (.int 1))) (oNone))) (gName 4) (tYes) (dCall c "_law_term" (aCons (dVar 0) (aCons (dVar 4) (aNil)))) [4]) (gName 2)) (sSeq (sAsg (dIf (tTru (dCmp inC (dOp ixK (dVar 1) (dC (.int 0))) (dTup (aCons (dC (.str "==")) (aCons (dC (.str "!=")) (aCons (dC (.str "<")) (aCons (dC (.str "<=")) (aNil)))))))) (dC (.int 1)) (dOp ixK (dOp ixK (dGetA (dVar 0) (dC (.str "sheet"))) (dOp ixK (dVar 2) (dC (.int 0)))) (dC (.int 1)))) (gName 3)) (sRet (dCall c "_law_make" (aCons (dGetA (dVar 0) (dC (.str "sheet"))) (aCons (dOp ixK (dVar 1) (dC (.int 0))) (aCons (dVar 3) (aCons (dVar 2) (aNil))))))))))
def b_l_test (c : Cl) : TS := sSeq (sAsg (dOp subK (dOp shlK (dC (.int 1)) (dOp ixK (dVar 1) (dC (.int 1)))) (dC (.int 1))) (gName 2)) (sSeq (sAsg (dCall c "_law_draw" (aCons (dVar 0) (aCons (dC (.int 4)) (aNil)))) (gName 3)) (sSeq (sAsg (dTup (aCons (dC (.str "name")) (aCons (dOp ixK (dVar 1) (dC (.int 0))) (aNil)))) (gName 4)) (sSeq (sIf (tTru (dCmp eqC (dVar 3) (dC (.int 0)))) (sRet (dTup (aCons (dC (.str "<")) (aCons (dVar 4) (aCons (dTup (aCons (dC (.str "word")) (aCons (dOp addK (dC (.int 1)) (dCall c "_law_draw" (aCons (dVar 0) (aCons (dVar 2) (aNil))))) (aCons (dOp ixK (dVar 1) (dC (.int 1))) (aNil))))) (aNil)))))) (sNext)) (sSeq (sIf (tTru (dCmp eqC (dVar 3) (dC (.int 1)))) (sRet (dTup (aCons (dC (.str "<=")) (aCons (dVar 4) (aCons (dTup (aCons (dC (.str "word")) (aCons (dCall c "_law_draw" (aCons (dVar 0) (aCons (dVar 2) (aNil)))) (aCons (dOp ixK (dVar 1) (dC (.int 1))) (aNil))))) (aNil)))))) (sNext)) (sRet (dTup (aCons (dOp ixK (dLst (aCons (dC (.str "==")) (aCons (dC (.str "!=")) (aNil)))) (dOp subK (dVar 3) (dC (.int 2)))) (aCons (dVar 4) (aCons (dTup (aCons (dC (.str "word")) (aCons (dCall c "_law_draw" (aCons (dVar 0) (aCons (dOp addK (dVar 2) (dC (.int 1))) (aNil)))) (aCons (dOp ixK (dVar 1) (dC (.int 1))) (aNil))))) (aNil))))))))))
def b_l_operand (c : Cl) : TS := sSeq (sAsg (dLc (iSeq (dVar 1)) (gName 4) (tTru (dCmp eqC (dOp ixK (dVar 4) (dC (.int 1))) (dVar 2))) (dOp ixK (dVar 4) (dC (.int 0))) [4]) (gName 3)) (sSeq (sIf (tAnd (tTru (dVar 3)) (tTru (dCall c "_law_draw" (aCons (dVar 0) (aCons (dC (.int 4)) (aNil)))))) (sRet (dTup (aCons (dC (.str "name")) (aCons (dCall c "_law_pick" (aCons (dVar 0) (aCons (dVar 3) (aNil)))) (aNil))))) (sNext)) (sRet (dTup (aCons (dC (.str "word")) (aCons (dCall c "_law_draw" (aCons (dVar 0) (aCons (dOp shlK (dC (.int 1)) (dVar 2)) (aNil)))) (aCons (dVar 2) (aNil)))))))
def b_l_given (c : Cl) : TS := sSeq (sAsg (dCall c "_law_operand" (aCons (dGetA (dVar 0) (dC (.str "d"))) (aCons (dVar 1) (aCons (dGetA (dVar 0) (dC (.str "gives"))) (aNil))))) (gName 2)) (sSeq (sIf (tTru (dCall c "_law_draw" (aCons (dGetA (dVar 0) (dC (.str "d"))) (aCons (dC (.int 2)) (aNil))))) (sRet (dVar 2)) (sNext)) (sRet (dTup (aCons (dCall c "_law_pick" (aCons (dGetA (dVar 0) (dC (.str "d"))) (aCons (dLst (aCons (dC (.str "+")) (aCons (dC (.str "-")) (aCons (dC (.str "&")) (aCons (dC (.str "|")) (aCons (dC (.str "^")) (aCons (dC (.str "*")) (aNil)))))))) (aNil)))) (aCons (dVar 2) (aCons (dCall c "_law_operand" (aCons (dGetA (dVar 0) (dC (.str "d"))) (aCons (dVar 1) (aCons (dGetA (dVar 0) (dC (.str "gives"))) (aNil))))) (aNil)))))))
def b_l_end (c : Cl) : TS := sSeq (sAsg (dCall c "_law_draw" (aCons (dGetA (dVar 0) (dC (.str "d"))) (aCons (dC (.int 5)) (aNil)))) (gName 2)) (sSeq (sIf (tTru (dCmp eqC (dVar 2) (dC (.int 0)))) (sRet (dTup (aCons (dC (.str "end")) (aCons (dTup (aCons (dC (.str "raises")) (aCons (dCall c "_law_pick" (aCons (dGetA (dVar 0) (dC (.str "d"))) (aCons (dLst (aCons (dC (.str "claim")) (aCons (dC (.str "bad")) (aCons (dC (.str "late7")) (aCons (dC (.str "zero")) (aNil)))))) (aNil)))) (aNil)))) (aNil))))) (sNext)) (sSeq (sIf (tTru (dCmp eqC (dVar 2) (dC (.int 1)))) (sRet (dTup (aCons (dC (.str "end")) (aCons (dTup (aCons (dC (.str "returns")) (aCons (dCall c "_law_word_term" (aCons (dVar 0) (aCons (dC (.int 0)) (aCons (dGetA (dVar 0) (dC (.str "gives"))) (aNil))))) (aNil)))) (aNil))))) (sNext)) (sRet (dTup (aCons (dC (.str "end")) (aCons (dTup (aCons (dC (.str "returns")) (aCons (dCall c "_law_term" (aCons (dVar 0) (aCons (dCall c "_law_given" (aCons (dVar 0) (aCons (dVar 1) (aNil)))) (aNil)))) (aNil)))) (aNil)))))))
def b_l_grow (c : Cl) : TS := sSeq (sAsg (dIf (tTru (dVar 5)) (dCall c "_law_draw" (aCons (dGetA (dVar 0) (dC (.str "d"))) (aCons (dC (.int 10)) (aNil)))) (dC (.int 9))) (gName 6)) (sSeq (sIf (tAnd (tTru (dCmp ltC (dVar 6) (dC (.int 5)))) (tTru (dVar 2))) (sRet (dCall c "_law_branch" (aCons (dVar 0) (aCons (dVar 1) (aCons (dVar 2) (aCons (dVar 3) (aCons (dVar 4) (aCons (dVar 5) (aCons (dCmp eqC (dVar 6) (dC (.int 4))) (aNil)))))))))) (sNext)) (sSeq (sAsg (dLc (iSeq (dVar 1)) (gName 8) (tYes) (dLc (iSeq (dVar 1)) (gName 9) (tAnd (tTru (dCmp eqC (dOp ixK (dVar 9) (dC (.int 1))) (dOp ixK (dVar 8) (dC (.int 1))))) (tTru (dCmp neC (dVar 9) (dVar 8)))) (dTup (aCons (dVar 8) (aCons (dVar 9) (aNil)))) [9]) [8]) (gName 7)) (sSeq (sAsg (dLc (iSeq (dVar 7)) (gName 10) (tTru (dVar 10)) (dVar 10) [10]) (gName 7)) (sSeq (sIf (tAnd (tTru (dCmp ltC (dVar 6) (dC (.int 7)))) (tTru (dVar 7))) (sRet (dCall c "_law_spin" (aCons (dVar 0) (aCons (dVar 1) (aCons (dVar 3) (aCons (dVar 4) (aCons (dCall c "_law_pick" (aCons (dGetA (dVar 0) (dC (.str "d"))) (aCons (dCall c "_law_pick" (aCons (dGetA (dVar 0) (dC (.str "d"))) (aCons (dVar 7) (aNil)))) (aNil)))) (aNil)))))))) (sNext)) (sSeq (sIf (tAnd (tTru (dCmp ltC (dVar 6) (dC (.int 9)))) (tTru (dGetA (dVar 0) (dC (.str "spare"))))) (sRet (dCall c "_law_asking" (aCons (dVar 0) (aCons (dVar 1) (aCons (dVar 2) (aCons (dVar 3) (aCons (dVar 4) (aCons (dVar 5) (aNil))))))))) (sNext)) (sRet (dCall c "_law_end" (aCons (dVar 0) (aCons (dVar 1) (aNil))))))))))
def b_l_branch (c : Cl) : TS := sSeq (sAsg (dCall c "_law_pick" (aCons (dGetA (dVar 0) (dC (.str "d"))) (aCons (dVar 2) (aNil)))) (gName 7)) (sSeq (sAsg (dCall c "_law_test" (aCons (dGetA (dVar 0) (dC (.str "d"))) (aCons (dVar 7) (aNil)))) (gName 8)) (sSeq (sAsg (dTup (aCons (dGetA (dVar 0) (dC (.str "entry"))) (aCons (dGetA (dVar 0) (dC (.str "looks"))) (aNil)))) (gName 9)) (sSeq (sAugD iaddK (dVar 0) (dC (.str "looks")) (dC (.int 1))) (sSeq (sIf (tTru (dCmp eqC (dVar 3) (dC (.int 0)))) (sRet (dTup (aCons (dC (.str "end")) (aCons (dTup (aCons (dC (.str "cut")) (aCons (dC (.str "steps")) (aNil)))) (aNil))))) (sNext)) (sSeq (sAsg (dLc (iSeq (dVar 2)) (gName 14) (tTru (dCmp neC (dVar 14) (dVar 7))) (dVar 14) [14]) (gName 10)) (sSeq (sAsg (dCall c "_law_term" (aCons (dVar 0) (aCons (dVar 8) (aNil)))) (gName 11)) (sSeq (sIf (tTru (dVar 6)) (sSeq (sAsg (dTup (aCons (dC (.str "shut")) (aCons (dTup (aCons (dC (.str "clash")) (aCons (dOp addK (dVar 4) (dC (.int 1))) (aNil)))) (aNil)))) (gName 12)) (sAsg (dTup (aCons (dC (.str "loop")) (aCons (dVar 9) (aCons (dCall c "_law_word_term" (aCons (dVar 0) (aCons (dC (.int 1)) (aCons (dC (.int 1)) (aNil))))) (aCons (dTup (aCons (dC (.str "end")) (aCons (dTup (aCons (dC (.str "endless")) (aNil))) (aNil)))) (aCons (dVar 12) (aNil))))))) (gName 13))) (sAsg (dCall c "_law_grow" (aCons (dVar 0) (aCons (dVar 1) (aCons (dVar 10) (aCons (dOp subK (dVar 3) (dC (.int 1))) (aCons (dOp addK (dVar 4) (dC (.int 1))) (aCons (dOp subK (dVar 5) (dC (.int 1))) (aNil)))))))) (gName 13))) (sRet (dTup (aCons (dC (.str "look")) (aCons (dVar 9) (aCons (dVar 11) (aCons (dVar 13) (aCons (dCall c "_law_grow" (aCons (dVar 0) (aCons (dVar 1) (aCons (dVar 10) (aCons (dOp subK (dVar 3) (dC (.int 1))) (aCons (dOp addK (dVar 4) (dC (.int 1))) (aCons (dOp subK (dVar 5) (dC (.int 1))) (aNil)))))))) (aNil)))))))))))))))
def b_l_spin (c : Cl) : TS := sSeq (sPar 5 6 (aCons (dOp ixK (dOp ixK (dVar 4) (dC (.int 0))) (dC (.int 0))) (aCons (dOp ixK (dOp ixK (dVar 4) (dC (.int 1))) (dC (.int 0))) (aNil)))) (sSeq (sAsg (dTup (aCons (dGetA (dVar 0) (dC (.str "entry"))) (aCons (dGetA (dVar 0) (dC (.str "looks"))) (aNil)))) (gName 7)) (sSeq (sAugD iaddK (dVar 0) (dC (.str "looks")) (dC (.int 1))) (sSeq (sIf (tTru (dCmp eqC (dVar 2) (dC (.int 0)))) (sRet (dTup (aCons (dC (.str "end")) (aCons (dTup (aCons (dC (.str "cut")) (aCons (dC (.str "steps")) (aNil)))) (aNil))))) (sNext)) (sSeq (sAsg (dCall c "_law_test" (aCons (dGetA (dVar 0) (dC (.str "d"))) (aCons (dOp ixK (dVar 4) (dC (.int 0))) (aNil)))) (gName 8)) (sSeq (sAsg (dCall c "_law_given" (aCons (dVar 0) (aCons (dVar 1) (aNil)))) (gName 9)) (sSeq (sPar 10 11 (aCons (dCall c "_law_term" (aCons (dVar 0) (aCons (dVar 8) (aNil)))) (aCons (dTup (aCons (dC (.str "end")) (aCons (dTup (aCons (dC (.str "returns")) (aCons (dCall c "_law_term" (aCons (dVar 0) (aCons (dVar 9) (aNil)))) (aNil)))) (aNil)))) (aNil)))) (sSeq (sAsg (dGetA (dGetA (dVar 0) (dC (.str "terms"))) (dVar 5)) (gName 12)) (sSeq (sAsg (dCall c "_law_make" (aCons (dGetA (dVar 0) (dC (.str "sheet"))) (aCons (dC (.str "==")) (aCons (dC (.int 1)) (aCons (dLst (aCons (dVar 12) (aCons (dGetA (dGetA (dVar 0) (dC (.str "terms"))) (dVar 6)) (aNil)))) (aNil)))))) (gName 13)) (sSeq (sAsg (dGetA (dGetA (dVar 0) (dC (.str "terms"))) (dVar 6)) (gSubD (dGetA (dVar 0) (dC (.str "terms"))) (dVar 5))) (sSeq (sPar 14 15 (aCons (dCall c "_law_term" (aCons (dVar 0) (aCons (dVar 8) (aNil)))) (aCons (dTup (aCons (dC (.str "end")) (aCons (dTup (aCons (dC (.str "returns")) (aCons (dCall c "_law_term" (aCons (dVar 0) (aCons (dVar 9) (aNil)))) (aNil)))) (aNil)))) (aNil)))) (sSeq (sAsg (dVar 12) (gSubD (dGetA (dVar 0) (dC (.str "terms"))) (dVar 5))) (sSeq (sAsg (dTup (aCons (dC (.str "end")) (aCons (dTup (aCons (dC (.str "cut")) (aCons (dC (.str "steps")) (aNil)))) (aNil)))) (gName 16)) (sSeq (sIf (tTru (dCmp gtC (dVar 2) (dC (.int 1)))) (sSeq (sAsg (dTup (aCons (dC (.str "shut")) (aCons (dTup (aCons (dC (.str "clash")) (aCons (dOp addK (dVar 3) (dC (.int 3))) (aNil)))) (aNil)))) (gName 17)) (sSeq (sAsg (dTup (aCons (dC (.str "loop")) (aCons (dVar 7) (aCons (dCall c "_law_word_term" (aCons (dVar 0) (aCons (dC (.int 1)) (aCons (dC (.int 1)) (aNil))))) (aCons (dTup (aCons (dC (.str "end")) (aCons (dTup (aCons (dC (.str "endless")) (aNil))) (aNil)))) (aCons (dVar 17) (aNil))))))) (gName 18)) (sAsg (dTup (aCons (dC (.str "look")) (aCons (dVar 7) (aCons (dVar 14) (aCons (dVar 18) (aCons (dVar 15) (aNil))))))) (gName 16)))) (sNext)) (sRet (dTup (aCons (dC (.str "look")) (aCons (dVar 7) (aCons (dVar 10) (aCons (dTup (aCons (dC (.str "loop")) (aCons (dVar 7) (aCons (dVar 13) (aCons (dTup (aCons (dC (.str "end")) (aCons (dTup (aCons (dC (.str "endless")) (aNil))) (aNil)))) (aCons (dVar 16) (aNil))))))) (aCons (dVar 11) (aNil)))))))))))))))))))))
def b_l_asking (c : Cl) : TS := sSeq (sAsg (dGetA (dVar 0) (dC (.str "part"))) (gName 6)) (sSeq (sAsg (dM0 tyLst popEM (dGetA (dVar 0) (dC (.str "spare")))) (gName 7)) (sSeq (sAsg (dC (.bl true)) (gSubD (dVar 0) (dC (.str "met")))) (sSeq (sIf (tTru (dCmp eqC (dVar 3) (dC (.int 0)))) (sRet (dTup (aCons (dC (.str "end")) (aCons (dTup (aCons (dC (.str "cut")) (aCons (dC (.str "steps")) (aNil)))) (aNil))))) (sNext)) (sSeq (sAsg (dB tupleB (aCons (dLc (iSeq (dOp ixK (dVar 6) (dC (.int 2)))) (gName 11) (tYes) (dCall c "_law_term" (aCons (dVar 0) (aCons (dCall c "_law_operand" (aCons (dGetA (dVar 0) (dC (.str "d"))) (aCons (dVar 1) (aCons (dOp ixK (dVar 11) (dC (.int 1))) (aNil))))) (aNil)))) [11]) (aNil))) (gName 8)) (sSeq (sAsg (dB lenB (aCons (dLc (iSeq (dVar 1)) (gName 11) (tTru (dCmp geC (dOp ixK (dVar 11) (dC (.int 2))) (dGetA (dVar 0) (dC (.str "many"))))) (dVar 11) [11]) (aNil))) (gName 9)) (sSeq (sAsg (dTup (aCons (dC (.str "end")) (aCons (dTup (aCons (dC (.str "cut")) (aCons (dC (.str "steps")) (aNil)))) (aNil)))) (gName 10)) (sSeq (sIf (tAnd (tTru (dCmp gtC (dVar 3) (dC (.int 1)))) (tTru (dCmp gtC (dOp mulK (dOp ixK (dVar 6) (dC (.int 3))) (dOp addK (dVar 9) (dC (.int 1)))) (dGetA (dVar 0) (dC (.str "room")))))) (sAsg (dTup (aCons (dC (.str "end")) (aCons (dTup (aCons (dC (.str "cut")) (aCons (dC (.str "bits")) (aNil)))) (aNil)))) (gName 10)) (sIf (tTru (dCmp gtC (dVar 3) (dC (.int 1)))) (sSeq (sAsg (dTup (aCons (dVar 7) (aCons (dOp ixK (dVar 6) (dC (.int 3))) (aCons (dOp addK (dGetA (dVar 0) (dC (.str "many"))) (dVar 9)) (aNil))))) (gName 11)) (sSeq (sAsg (dCall c "_law_place" (aCons (dGetA (dVar 0) (dC (.str "sheet"))) (aCons (dTup (aCons (dC (.str "input")) (aCons (dOp ixK (dVar 6) (dC (.int 3))) (aCons (dOp ixK (dVar 11) (dC (.int 2))) (aNil))))) (aNil)))) (gSubD (dGetA (dVar 0) (dC (.str "terms"))) (dVar 7))) (sSeq (sAsg (dIf (tTru (dOp ixK (dVar 6) (dC (.int 4)))) (dVar 2) (dOp addK (dVar 2) (dLst (aCons (dVar 11) (aNil))))) (gName 12)) (sSeq (sAsg (dOp addK (dOp addK (dVar 4) (dC (.int 2))) (dIf (tTru (dOp ixK (dVar 6) (dC (.int 4)))) (dVar 9) (dC (.int 0)))) (gName 13)) (sAsg (dTup (aCons (dC (.str "ask")) (aCons (dOp ixK (dVar 6) (dC (.int 1))) (aCons (dVar 8) (aCons (dCall c "_law_grow" (aCons (dVar 0) (aCons (dOp addK (dVar 1) (dLst (aCons (dVar 11) (aNil)))) (aCons (dVar 12) (aCons (dOp subK (dVar 3) (dC (.int 2))) (aCons (dVar 13) (aCons (dOp subK (dVar 5) (dC (.int 1))) (aNil)))))))) (aNil)))))) (gName 10)))))) (sNext))) (sRet (dTup (aCons (dC (.str "look")) (aCons (dTup (aCons (dOp ixK (dVar 6) (dC (.int 1))) (aCons (dC (.int 0)) (aNil)))) (aCons (dCall c "_law_word_term" (aCons (dVar 0) (aCons (dC (.int 1)) (aCons (dC (.int 1)) (aNil))))) (aCons (dVar 10) (aCons (dTup (aCons (dC (.str "shut")) (aCons (dTup (aCons (dC (.str "clash")) (aCons (dVar 4) (aNil)))) (aNil)))) (aNil)))))))))))))))
def b_l_book_world (c : Cl) : TS := sSeq (sAsg (dB tupleB (aCons (dLc (iR1 (dCall c "_law_draw" (aCons (dVar 0) (aCons (dC (.int 3)) (aNil))))) (gName 11) (tYes) (dTup (aCons (dCall c "_law_pop" (aCons (dVar 0) (aCons (dVar 1) (aNil)))) (aCons (dOp addK (dC (.int 1)) (dCall c "_law_draw" (aCons (dVar 0) (aCons (dC (.int 2)) (aNil))))) (aNil)))) [11]) (aNil))) (gName 2)) (sSeq (sAsg (dTup (aCons (dC (.str "word")) (aCons (dC (.int 1)) (aCons (dC (.int 1)) (aNil))))) (gName 3)) (sSeq (sAsg (dTup (aCons (dC (.str "external")) (aCons (dCall c "_law_pop" (aCons (dVar 0) (aCons (dVar 1) (aNil)))) (aCons (dVar 2) (aCons (dOp addK (dC (.int 1)) (dCall c "_law_draw" (aCons (dVar 0) (aCons (dC (.int 2)) (aNil))))) (aCons (dCall c "_law_draw" (aCons (dVar 0) (aCons (dC (.int 2)) (aNil)))) (aCons (dVar 3) (aCons (dVar 3) (aNil))))))))) (gName 4)) (sSeq (sAsg (dLc (iR1 (dOp addK (dC (.int 1)) (dCall c "_law_draw" (aCons (dVar 0) (aCons (dC (.int 3)) (aNil)))))) (gName 11) (tYes) (dTup (aCons (dCall c "_law_pop" (aCons (dVar 0) (aCons (dVar 1) (aNil)))) (aCons (dOp addK (dC (.int 1)) (dCall c "_law_draw" (aCons (dVar 0) (aCons (dC (.int 2)) (aNil))))) (aCons (dVar 11) (aNil))))) [11]) (gName 5)) (sSeq (sAsg (dDisp [(dC (.str "d"), dVar 0), (dC (.str "part"), dVar 4), (dC (.str "entry"), dCall c "_law_pop" (aCons (dVar 0) (aCons (dVar 1) (aNil)))), (dC (.str "many"), dB lenB (aCons (dVar 5) (aNil))), (dC (.str "looks"), dC (.int 0)), (dC (.str "met"), dC (.bl false)), (dC (.str "terms"), dDic)]) (gName 6)) (sSeq (sAsg (dIf (tTru (dCall c "_law_draw" (aCons (dVar 0) (aCons (dC (.int 2)) (aNil))))) (dLst (aCons (dTup (aCons (dC (.str "input")) (aCons (dC (.int 8)) (aCons (dC (.int 40)) (aNil))))) (aCons (dTup (aCons (dC (.str "word")) (aCons (dC (.int 7)) (aCons (dC (.int 99)) (aNil))))) (aCons (dTup (aCons (dC (.str "*")) (aCons (dC (.int 7)) (aCons (dC (.int 1)) (aCons (dC (.int 1)) (aNil)))))) (aNil))))) (dLst (aNil))) (gSubD (dVar 6) (dC (.str "sheet")))) (sSeq (sAsg (dLc (iR1 (dC (.int 4))) (gName 11) (tYes) (dCall c "_law_pop" (aCons (dVar 0) (aCons (dVar 1) (aNil)))) [11]) (gSubD (dVar 6) (dC (.str "spare")))) (sSeq (sAsg (dOp addK (dC (.int 1)) (dCall c "_law_draw" (aCons (dVar 0) (aCons (dC (.int 2)) (aNil))))) (gSubD (dVar 6) (dC (.str "gives")))) (sSeq (sAsg (dOp addK (dCall c "_law_draw" (aCons (dVar 0) (aCons (dC (.int 4)) (aNil)))) (dCall c "_law_draw" (aCons (dVar 0) (aCons (dC (.int 4)) (aNil))))) (gSubD (dVar 6) (dC (.str "room")))) (sSeq (sFor (iSeq (dVar 5)) (gName 7) (sAsg (dCall c "_law_place" (aCons (dGetA (dVar 6) (dC (.str "sheet"))) (aCons (dTup (aCons (dC (.str "input")) (aCons (dOp ixK (dVar 7) (dC (.int 1))) (aCons (dOp ixK (dVar 7) (dC (.int 2))) (aNil))))) (aNil)))) (gSubD (dGetA (dVar 6) (dC (.str "terms"))) (dOp ixK (dVar 7) (dC (.int 0)))))) (sSeq (sAsg (dIf (tTru (dCall c "_law_draw" (aCons (dVar 0) (aCons (dC (.int 3)) (aNil))))) (dC (.int 12)) (dOp addK (dC (.int 1)) (dCall c "_law_draw" (aCons (dVar 0) (aCons (dC (.int 6)) (aNil)))))) (gName 8)) (sSeq (sAsg (dCall c "_law_grow" (aCons (dVar 6) (aCons (dVar 5) (aCons (dVar 5) (aCons (dVar 8) (aCons (dC (.int 0)) (aCons (dOp addK (dC (.int 1)) (dCall c "_law_draw" (aCons (dVar 0) (aCons (dC (.int 4)) (aNil))))) (aNil)))))))) (gName 9)) (sSeq (sIf (tTru (dCall c "_law_draw" (aCons (dVar 0) (aCons (dC (.int 2)) (aNil))))) (sExpr (dM tyLst appendM (dGetA (dVar 6) (dC (.str "sheet"))) (aCons (dTup (aCons (dC (.str "word")) (aCons (dC (.int 7)) (aCons (dC (.int 98)) (aNil))))) (aNil)))) (sNext)) (sSeq (sAsg (dB sortedSB (aCons (dOp addK (dLst (aCons (dGetA (dVar 6) (dC (.str "entry"))) (aNil))) (dIf (tTru (dGetA (dVar 6) (dC (.str "met")))) (dLst (aCons (dOp ixK (dVar 4) (dC (.int 1))) (aNil))) (dLst (aNil)))) (aNil))) (gName 10)) (sRet (dTup (aCons (dVar 4) (aCons (dTup (aCons (dC (.str "book")) (aCons (dB tupleB (aCons (dLc (iSeq (dVar 5)) (gName 7) (tYes) (dOp ixK (dVar 7) (dC (.int 1))) [7]) (aNil))) (aCons (dB tupleB (aCons (dVar 10) (aNil))) (aCons (dB tupleB (aCons (dGetA (dVar 6) (dC (.str "sheet"))) (aNil))) (aCons (dVar 9) (aNil))))))) (aNil))))))))))))))))))
def b_l_walk (c : Cl) : TS := sSeq (sAsg (dCall c "_law_values" (aCons (dOp ixK (dVar 0) (dC (.int 3))) (aCons (dOp addK (dVar 1) (dVar 2)) (aNil)))) (gName 3)) (sSeq (sAsg (dOp ixK (dVar 0) (dC (.int 4))) (gName 4)) (sSeq (sPar 5 6 (aCons (dLst (aNil)) (aCons (dLst (aNil)) (aNil)))) (sSeq (sFor (iR1 (dC (.int 60))) (gName 7) (sSeq (sIf (tTru (dCmp eqC (dOp ixK (dVar 4) (dC (.int 0))) (dC (.str "end")))) (sBreak) (sNext)) (sIf (tTru (dCmp eqC (dOp ixK (dVar 4) (dC (.int 0))) (dC (.str "ask")))) (sSeq (sAsg (dB tupleB (aCons (dLc (iSeq (dOp ixK (dVar 4) (dC (.int 2)))) (gName 11) (tYes) (dOp ixK (dVar 3) (dVar 11)) [11]) (aNil))) (gName 8)) (sSeq (sIf (tTru (dCmp eqC (dB lenB (aCons (dVar 6) (aNil))) (dB lenB (aCons (dVar 2) (aNil))))) (sRet (dTup (aCons (dB tupleB (aCons (dVar 5) (aNil))) (aCons (dB tupleB (aCons (dVar 6) (aNil))) (aCons (dTup (aCons (dC (.str "asks")) (aCons (dOp ixK (dVar 4) (dC (.int 1))) (aCons (dVar 8) (aNil))))) (aNil)))))) (sNext)) (sSeq (sExpr (dM tyLst appendM (dVar 6) (aCons (dTup (aCons (dOp ixK (dVar 4) (dC (.int 1))) (aCons (dVar 8) (aNil)))) (aNil)))) (sAsg (dOp ixK (dVar 4) (dC (.int 3))) (gName 4))))) (sSeq (sAsg (dOp ixK (dVar 3) (dOp ixK (dVar 4) (dC (.int 2)))) (gName 9)) (sSeq (sIf (tTru (dCmp eqC (dOp ixK (dVar 4) (dC (.int 0))) (dC (.str "look")))) (sExpr (dM tyLst appendM (dVar 5) (aCons (dTup (aCons (dOp ixK (dOp ixK (dVar 4) (dC (.int 1))) (dC (.int 0))) (aCons (dOp ixK (dOp ixK (dVar 4) (dC (.int 1))) (dC (.int 1))) (aCons (dVar 9) (aNil))))) (aNil)))) (sNext)) (sAsg (dOp ixK (dVar 4) (dOp subK (dC (.int 4)) (dVar 9))) (gName 4))))))) (sSeq (sAsg (dOp ixK (dVar 4) (dC (.int 1))) (gName 10)) (sSeq (sIf (tTru (dCmp eqC (dOp ixK (dVar 10) (dC (.int 0))) (dC (.str "returns")))) (sAsg (dTup (aCons (dC (.str "returns")) (aCons (dOp ixK (dVar 3) (dOp ixK (dVar 10) (dC (.int 1)))) (aNil)))) (gName 10)) (sNext)) (sRet (dTup (aCons (dB tupleB (aCons (dVar 5) (aNil))) (aCons (dB tupleB (aCons (dVar 6) (aNil))) (aCons (dVar 10) (aNil)))))))))))
def b_l_law (c : Cl) : TS := sSeq (sAsg (dCall c "_law_begin" (aCons (dVar 0) (aNil))) (gName 1)) (sSeq (sAsg (dCall c "_law_pool" aNil) (gName 2)) (sSeq (sAsg (dCall c "_law_book_world" (aCons (dVar 1) (aCons (dVar 2) (aNil)))) (gTup (gsCons (gName 3) (gsCons (gName 4) (gsNil))) 2)) (sSeq (sAsg (dOp ixK (dCall c "_law_book_world" (aCons (dVar 1) (aCons (dVar 2) (aNil)))) (dC (.int 1))) (gName 5)) (sSeq (sAsg (dB tupleB (aCons (dLc (iSeq (dOp ixK (dVar 5) (dC (.int 1)))) (gName 14) (tYes) (dC (.int 0)) [14]) (aNil))) (gName 6)) (sSeq (sAsg (dCall c "_law_tuples" (aCons (dOp ixK (dVar 4) (dC (.int 1))) (aNil))) (gName 7)) (sSeq (sIf (tTru (dCmp gtC (dB lenB (aCons (dVar 7) (aNil))) (dC (.int 8)))) (sAsg (dLc (iR1 (dC (.int 8))) (gName 15) (tYes) (dCall c "_law_pick" (aCons (dVar 1) (aCons (dVar 7) (aNil)))) [15]) (gName 7)) (sNext)) (sSeq (sFor (iSeq (dVar 7)) (gName 8) (sSeq (sAsg (dTup (aNil)) (gName 9)) (sSeq (sFor (iR1 (dC (.int 5))) (gName 10) (sSeq (sAsg (dCall c "_law_walk" (aCons (dVar 4) (aCons (dVar 8) (aCons (dVar 9) (aNil))))) (gName 11)) (sSeq (sAsg (dCall c "replayed" (aCons (dVar 4) (aCons (dVar 8) (aCons (dVar 9) (aNil))))) (gName 12)) (sSeq (sIf (tOr (tNot (tTru (dCall c "_law_plain" (aCons (dVar 12) (aNil))))) (tTru (dCmp neC (dVar 12) (dVar 11)))) (sRet (dC (.bl false))) (sNext)) (sSeq (sIf (tTru (dCmp neC (dOp ixK (dOp ixK (dVar 11) (dC (.int 2))) (dC (.int 0))) (dC (.str "asks")))) (sBreak) (sNext)) (sSeq (sAsg (dLc (iZip2 (dOp ixK (dVar 11) (dC (.int 1))) (dVar 9)) (gTup (gsCons (gName 16) (gsCons (gName 17) (gsNil))) 2) (tTru (dCmp eqC (dVar 16) (dSl (dOp ixK (dVar 11) (dC (.int 2))) (oSome (dC (.int 1))) (oNone)))) (dVar 17) [16, 17]) (gName 13)) (sAsg (dOp addK (dVar 9) (dTup (aCons (dIf (tAnd (tTru (dOp ixK (dVar 3) (dC (.int 4)))) (tTru (dVar 13))) (dOp ixK (dVar 13) (dC (.int 0))) (dCall c "_law_draw" (aCons (dVar 1) (aCons (dOp shlK (dC (.int 1)) (dOp ixK (dVar 3) (dC (.int 3)))) (aNil))))) (aNil)))) (gName 9)))))))) (sIf (tTru (dCmp neC (dCall c "replayed" (aCons (dVar 5) (aCons (dVar 6) (aCons (dTup (aNil)) (aNil))))) (dCall c "_law_walk" (aCons (dVar 5) (aCons (dVar 6) (aCons (dTup (aNil)) (aNil))))))) (sRet (dC (.bl false))) (sNext))))) (sRet (dC (.bl true))))))))))
def prog : String → Option Def
  | "greatest" => some ⟨1, 1, b_p_greatest⟩
  | "related" => some ⟨3, 3, b_p_related⟩
  | "shifted" => some ⟨4, 4, b_p_shifted⟩
  | "divided" => some ⟨3, 3, b_p_divided⟩
  | "reckoned" => some ⟨3, 3, b_p_reckoned⟩
  | "result" => some ⟨3, 5, b_p_result⟩
  | "values_of" => some ⟨2, 6, b_p_values_of⟩
  | "replayed" => some ⟨3, 11, b_p_replayed⟩
  | "_law_begin" => some ⟨1, 2, b_l_begin⟩
  | "_law_draw" => some ⟨2, 5, b_l_draw⟩
  | "_law_pick" => some ⟨2, 2, b_l_pick⟩
  | "_law_pop" => some ⟨2, 2, b_l_pop⟩
  | "_law_pool" => some ⟨0, 1, b_l_pool⟩
  | "_law_is_int" => some ⟨1, 1, b_l_is_int⟩
  | "_law_tuples" => some ⟨1, 6, b_l_tuples⟩
  | "_law_word" => some ⟨3, 6, b_l_word⟩
  | "_law_values" => some ⟨2, 6, b_l_values⟩
  | "_law_place" => some ⟨2, 2, b_l_place⟩
  | "_law_sum_of" => some ⟨2, 3, b_l_sum_of⟩
  | "_law_make" => some ⟨4, 9, b_l_make⟩
  | "_law_make_word" => some ⟨5, 11, b_l_make_word⟩
  | "_law_make_same" => some ⟨4, 6, b_l_make_same⟩
  | "_law_plain" => some ⟨1, 2, b_l_plain⟩
  | "_law_word_term" => some ⟨3, 3, b_l_word_term⟩
  | "_law_term" => some ⟨2, 5, b_l_term⟩
  | "_law_test" => some ⟨2, 5, b_l_test⟩
  | "_law_operand" => some ⟨3, 5, b_l_operand⟩
  | "_law_given" => some ⟨2, 3, b_l_given⟩
  | "_law_end" => some ⟨2, 3, b_l_end⟩
  | "_law_grow" => some ⟨6, 11, b_l_grow⟩
  | "_law_branch" => some ⟨7, 15, b_l_branch⟩
  | "_law_spin" => some ⟨5, 19, b_l_spin⟩
  | "_law_asking" => some ⟨6, 14, b_l_asking⟩
  | "_law_book_world" => some ⟨2, 12, b_l_book_world⟩
  | "_law_walk" => some ⟨3, 12, b_l_walk⟩
  | "law" => some ⟨1, 18, b_l_law⟩
  | _ => none
end Pk45
end PartPdk45B

section PartPdk45L
set_option Elab.async false
set_option linter.all false
set_option maxRecDepth 100000
set_option maxHeartbeats 4000000
namespace Pk45
open PySem PySem.Spec Pd
open PyProof.Rows (envOfC)
def topS (i : Nat) : Stmt := PySem.Challenge.pw_metorshut_k45_replayed.main.body.getD i (.Pass ⟨0, 0, 0, 0⟩)
abbrev names : List String := ["greatest", "related", "shifted", "divided", "reckoned", "values_of", "replayed", "_law_begin", "_law_draw", "_law_pick", "_law_pop", "_law_pool", "_law_is_int", "_law_tuples", "_law_word", "_law_values", "_law_place", "_law_sum_of", "_law_make", "_law_make_word", "_law_make_same", "_law_plain", "_law_word_term", "_law_term", "_law_test", "_law_operand", "_law_given", "_law_end", "_law_grow", "_law_branch", "_law_spin", "_law_asking", "_law_book_world", "_law_walk", "law"]
abbrev snames : List (String × Nat) := [("result", 2)]
abbrev blts : List String := ["abs", "all", "bool", "int", "isinstance", "len", "min", "range", "sorted", "str", "tuple", "zip"]
abbrev sp_greatest : Stmt := topS 1
abbrev np_greatest : List Str := ["width"]
theorem scp_greatest : L2.FnScope np_greatest ["width"] (L2.defScope sp_greatest) := ⟨rfl, rfl, rfl, by decide +kernel, rfl, by decide +kernel, by decide +kernel⟩
abbrev sp_related : Stmt := topS 2
abbrev np_related : List Str := ["op", "left", "right"]
theorem scp_related : L2.FnScope np_related ["op", "left", "right"] (L2.defScope sp_related) := ⟨rfl, rfl, rfl, by decide +kernel, rfl, by decide +kernel, by decide +kernel⟩
abbrev sp_shifted : Stmt := topS 3
abbrev np_shifted : List Str := ["op", "width", "left", "right"]
theorem scp_shifted : L2.FnScope np_shifted ["op", "width", "left", "right"] (L2.defScope sp_shifted) := ⟨rfl, rfl, rfl, by decide +kernel, rfl, by decide +kernel, by decide +kernel⟩
abbrev sp_divided : Stmt := topS 4
abbrev np_divided : List Str := ["op", "left", "right"]
theorem scp_divided : L2.FnScope np_divided ["op", "left", "right"] (L2.defScope sp_divided) := ⟨rfl, rfl, rfl, by decide +kernel, rfl, by decide +kernel, by decide +kernel⟩
abbrev sp_reckoned : Stmt := topS 5
abbrev np_reckoned : List Str := ["op", "left", "right"]
theorem scp_reckoned : L2.FnScope np_reckoned ["op", "left", "right"] (L2.defScope sp_reckoned) := ⟨rfl, rfl, rfl, by decide +kernel, rfl, by decide +kernel, by decide +kernel⟩
abbrev sp_result : Stmt := topS 6
abbrev np_result : List Str := ["op", "width", "words", "left", "right"]
theorem scp_result : L2.FnScope np_result ["op", "width", "words"] (L2.defScope sp_result) := ⟨rfl, rfl, rfl, by decide +kernel, rfl, by decide +kernel, by decide +kernel⟩
abbrev sp_values_of : Stmt := topS 8
abbrev np_values_of : List Str := ["nodes", "words", "found", "node", "parts", "part"]
theorem scp_values_of : L2.FnScope np_values_of ["nodes", "words"] (L2.defScope sp_values_of) := ⟨rfl, rfl, rfl, by decide +kernel, rfl, by decide +kernel, by decide +kernel⟩
abbrev sp_replayed : Stmt := topS 10
abbrev np_replayed : List Str := ["book", "args", "answers", "values", "tree", "ways", "asked", "words", "bit", "outcome", "term"]
theorem scp_replayed : L2.FnScope np_replayed ["book", "args", "answers"] (L2.defScope sp_replayed) := ⟨rfl, rfl, rfl, by decide +kernel, rfl, by decide +kernel, by decide +kernel⟩
abbrev sl_begin : Stmt := topS 12
abbrev nl_begin : List Str := ["_law_script", "_law_cell"]
theorem scl_begin : L2.FnScope nl_begin ["_law_script"] (L2.defScope sl_begin) := ⟨rfl, rfl, rfl, by decide +kernel, rfl, by decide +kernel, by decide +kernel⟩
abbrev sl_draw : Stmt := topS 13
abbrev nl_draw : List Str := ["_law_d", "_law_many", "_law_found", "_law_size", "_law_cell"]
theorem scl_draw : L2.FnScope nl_draw ["_law_d", "_law_many"] (L2.defScope sl_draw) := ⟨rfl, rfl, rfl, by decide +kernel, rfl, by decide +kernel, by decide +kernel⟩
abbrev sl_pick : Stmt := topS 14
abbrev nl_pick : List Str := ["_law_d", "_law_row"]
theorem scl_pick : L2.FnScope nl_pick ["_law_d", "_law_row"] (L2.defScope sl_pick) := ⟨rfl, rfl, rfl, by decide +kernel, rfl, by decide +kernel, by decide +kernel⟩
abbrev sl_pop : Stmt := topS 15
abbrev nl_pop : List Str := ["_law_d", "_law_row"]
theorem scl_pop : L2.FnScope nl_pop ["_law_d", "_law_row"] (L2.defScope sl_pop) := ⟨rfl, rfl, rfl, by decide +kernel, rfl, by decide +kernel, by decide +kernel⟩
abbrev sl_pool : Stmt := topS 16
abbrev nl_pool : List Str := ["_law_text"]
theorem scl_pool : L2.FnScope nl_pool [] (L2.defScope sl_pool) := ⟨rfl, rfl, rfl, by decide +kernel, rfl, by decide +kernel, by decide +kernel⟩
abbrev sl_is_int : Stmt := topS 17
abbrev nl_is_int : List Str := ["_law_thing"]
theorem scl_is_int : L2.FnScope nl_is_int ["_law_thing"] (L2.defScope sl_is_int) := ⟨rfl, rfl, rfl, by decide +kernel, rfl, by decide +kernel, by decide +kernel⟩
abbrev sl_tuples : Stmt := topS 18
abbrev nl_tuples : List Str := ["_law_widths", "_law_rows", "_law_width", "_law_longer", "_law_row", "_law_word_here"]
theorem scl_tuples : L2.FnScope nl_tuples ["_law_widths"] (L2.defScope sl_tuples) := ⟨rfl, rfl, rfl, by decide +kernel, rfl, by decide +kernel, by decide +kernel⟩
abbrev sl_word : Stmt := topS 19
abbrev nl_word : List Str := ["_law_op", "_law_width", "_law_words", "_law_left", "_law_right", "_law_full"]
theorem scl_word : L2.FnScope nl_word ["_law_op", "_law_width", "_law_words"] (L2.defScope sl_word) := ⟨rfl, rfl, rfl, by decide +kernel, rfl, by decide +kernel, by decide +kernel⟩
abbrev sl_values : Stmt := topS 20
abbrev nl_values : List Str := ["_law_nodes", "_law_words", "_law_found", "_law_node", "_law_word_here", "_law_part"]
theorem scl_values : L2.FnScope nl_values ["_law_nodes", "_law_words"] (L2.defScope sl_values) := ⟨rfl, rfl, rfl, by decide +kernel, rfl, by decide +kernel, by decide +kernel⟩
abbrev sl_place : Stmt := topS 21
abbrev nl_place : List Str := ["_law_sheet", "_law_node"]
theorem scl_place : L2.FnScope nl_place ["_law_sheet", "_law_node"] (L2.defScope sl_place) := ⟨rfl, rfl, rfl, by decide +kernel, rfl, by decide +kernel, by decide +kernel⟩
abbrev sl_sum_of : Stmt := topS 22
abbrev nl_sum_of : List Str := ["_law_sheet", "_law_term_here", "_law_node"]
theorem scl_sum_of : L2.FnScope nl_sum_of ["_law_sheet", "_law_term_here"] (L2.defScope sl_sum_of) := ⟨rfl, rfl, rfl, by decide +kernel, rfl, by decide +kernel, by decide +kernel⟩
abbrev sl_make : Stmt := topS 23
abbrev nl_make : List Str := ["_law_sheet", "_law_op", "_law_width", "_law_terms", "_law_nodes", "_law_word_here", "_law_found", "_law_term_here", "_law_node"]
theorem scl_make : L2.FnScope nl_make ["_law_sheet", "_law_op", "_law_width", "_law_terms"] (L2.defScope sl_make) := ⟨rfl, rfl, rfl, by decide +kernel, rfl, by decide +kernel, by decide +kernel⟩
abbrev sl_make_word : Stmt := topS 24
abbrev nl_make_word : List Str := ["_law_sheet", "_law_op", "_law_width", "_law_terms", "_law_value", "_law_left", "_law_wide", "_law_full", "_law_base", "_law_rest", "_law_word_here"]
theorem scl_make_word : L2.FnScope nl_make_word ["_law_sheet", "_law_op", "_law_width", "_law_terms", "_law_value"] (L2.defScope sl_make_word) := ⟨rfl, rfl, rfl, by decide +kernel, rfl, by decide +kernel, by decide +kernel⟩
abbrev sl_make_same : Stmt := topS 25
abbrev nl_make_same : List Str := ["_law_sheet", "_law_op", "_law_width", "_law_terms", "_law_one", "_law_two"]
theorem scl_make_same : L2.FnScope nl_make_same ["_law_sheet", "_law_op", "_law_width", "_law_terms"] (L2.defScope sl_make_same) := ⟨rfl, rfl, rfl, by decide +kernel, rfl, by decide +kernel, by decide +kernel⟩
abbrev sl_plain : Stmt := topS 26
abbrev nl_plain : List Str := ["_law_thing", "_law_part"]
theorem scl_plain : L2.FnScope nl_plain ["_law_thing"] (L2.defScope sl_plain) := ⟨rfl, rfl, rfl, by decide +kernel, rfl, by decide +kernel, by decide +kernel⟩
abbrev sl_word_term : Stmt := topS 27
abbrev nl_word_term : List Str := ["_law_w", "_law_word_here", "_law_width"]
theorem scl_word_term : L2.FnScope nl_word_term ["_law_w", "_law_word_here", "_law_width"] (L2.defScope sl_word_term) := ⟨rfl, rfl, rfl, by decide +kernel, rfl, by decide +kernel, by decide +kernel⟩
abbrev sl_term : Stmt := topS 28
abbrev nl_term : List Str := ["_law_w", "_law_expr", "_law_parts", "_law_width", "_law_part"]
theorem scl_term : L2.FnScope nl_term ["_law_w", "_law_expr"] (L2.defScope sl_term) := ⟨rfl, rfl, rfl, by decide +kernel, rfl, by decide +kernel, by decide +kernel⟩
abbrev sl_test : Stmt := topS 29
abbrev nl_test : List Str := ["_law_d", "_law_row", "_law_top", "_law_way", "_law_name"]
theorem scl_test : L2.FnScope nl_test ["_law_d", "_law_row"] (L2.defScope sl_test) := ⟨rfl, rfl, rfl, by decide +kernel, rfl, by decide +kernel, by decide +kernel⟩
abbrev sl_operand : Stmt := topS 30
abbrev nl_operand : List Str := ["_law_d", "_law_known", "_law_width", "_law_names", "_law_row"]
theorem scl_operand : L2.FnScope nl_operand ["_law_d", "_law_known", "_law_width"] (L2.defScope sl_operand) := ⟨rfl, rfl, rfl, by decide +kernel, rfl, by decide +kernel, by decide +kernel⟩
abbrev sl_given : Stmt := topS 31
abbrev nl_given : List Str := ["_law_w", "_law_known", "_law_expr"]
theorem scl_given : L2.FnScope nl_given ["_law_w", "_law_known"] (L2.defScope sl_given) := ⟨rfl, rfl, rfl, by decide +kernel, rfl, by decide +kernel, by decide +kernel⟩
abbrev sl_end : Stmt := topS 32
abbrev nl_end : List Str := ["_law_w", "_law_known", "_law_way"]
theorem scl_end : L2.FnScope nl_end ["_law_w", "_law_known"] (L2.defScope sl_end) := ⟨rfl, rfl, rfl, by decide +kernel, rfl, by decide +kernel, by decide +kernel⟩
abbrev sl_grow : Stmt := topS 33
abbrev nl_grow : List Str := ["_law_w", "_law_known", "_law_free", "_law_steps", "_law_many", "_law_depth", "_law_way", "_law_pairs", "_law_one", "_law_two", "_law_row"]
theorem scl_grow : L2.FnScope nl_grow ["_law_w", "_law_known", "_law_free", "_law_steps", "_law_many", "_law_depth"] (L2.defScope sl_grow) := ⟨rfl, rfl, rfl, by decide +kernel, rfl, by decide +kernel, by decide +kernel⟩
abbrev sl_branch : Stmt := topS 34
abbrev nl_branch : List Str := ["_law_w", "_law_known", "_law_free", "_law_steps", "_law_many", "_law_depth", "_law_loop", "_law_row", "_law_test_here", "_law_place_here", "_law_left", "_law_term_here", "_law_shut", "_law_yes", "_law_other"]
theorem scl_branch : L2.FnScope nl_branch ["_law_w", "_law_known", "_law_free", "_law_steps", "_law_many", "_law_depth", "_law_loop"] (L2.defScope sl_branch) := ⟨rfl, rfl, rfl, by decide +kernel, rfl, by decide +kernel, by decide +kernel⟩
abbrev sl_spin : Stmt := topS 35
abbrev nl_spin : List Str := ["_law_w", "_law_known", "_law_steps", "_law_many", "_law_pair", "_law_name", "_law_other", "_law_place_here", "_law_test_here", "_law_expr", "_law_term_here", "_law_end_here", "_law_kept", "_law_same", "_law_more", "_law_last", "_law_inner", "_law_shut", "_law_again"]
theorem scl_spin : L2.FnScope nl_spin ["_law_w", "_law_known", "_law_steps", "_law_many", "_law_pair"] (L2.defScope sl_spin) := ⟨rfl, rfl, rfl, by decide +kernel, rfl, by decide +kernel, by decide +kernel⟩
abbrev sl_asking : Stmt := topS 36
abbrev nl_asking : List Str := ["_law_w", "_law_known", "_law_free", "_law_steps", "_law_many", "_law_depth", "_law_part", "_law_name", "_law_args", "_law_earlier", "_law_inner", "_law_row", "_law_seen", "_law_more"]
theorem scl_asking : L2.FnScope nl_asking ["_law_w", "_law_known", "_law_free", "_law_steps", "_law_many", "_law_depth"] (L2.defScope sl_asking) := ⟨rfl, rfl, rfl, by decide +kernel, rfl, by decide +kernel, by decide +kernel⟩
abbrev sl_book_world : Stmt := topS 37
abbrev nl_book_world : List Str := ["_law_d", "_law_pool_here", "_law_params", "_law_sure", "_law_part", "_law_known", "_law_w", "_law_row", "_law_steps", "_law_tree", "_law_met", "_law_k"]
theorem scl_book_world : L2.FnScope nl_book_world ["_law_d", "_law_pool_here"] (L2.defScope sl_book_world) := ⟨rfl, rfl, rfl, by decide +kernel, rfl, by decide +kernel, by decide +kernel⟩
abbrev sl_walk : Stmt := topS 38
abbrev nl_walk : List Str := ["_law_book", "_law_args", "_law_answers", "_law_values_here", "_law_tree", "_law_ways", "_law_asked", "_law_turn", "_law_words", "_law_bit", "_law_end_here", "_law_term_here"]
theorem scl_walk : L2.FnScope nl_walk ["_law_book", "_law_args", "_law_answers"] (L2.defScope sl_walk) := ⟨rfl, rfl, rfl, by decide +kernel, rfl, by decide +kernel, by decide +kernel⟩
abbrev sl_law : Stmt := topS 39
abbrev nl_law : List Str := ["_law_script", "_law_d", "_law_pool_here", "_law_part", "_law_book", "_law_other", "_law_zeros", "_law_rows", "_law_args", "_law_answers", "_law_turn", "_law_due", "_law_told", "_law_earlier", "_law_width", "_law_k", "_law_row", "_law_word_here"]
theorem scl_law : L2.FnScope nl_law ["_law_script"] (L2.defScope sl_law) := ⟨rfl, rfl, rfl, by decide +kernel, rfl, by decide +kernel, by decide +kernel⟩
section
variable {P : Program} {w : World} {K : PySem.W.Frag} {mg : Str → Option Value} {base : Heap}
theorem der_p_greatest {k : Nat} {c : Cl} (ok : ∀ y ∈ names, Own P w K mg base k (Str.ofString y) (c y)) (oks : ∀ q ∈ snames, OwnS P w K mg base k q.2 (Str.ofString q.1) (c q.1)) (zs : ∀ y ∈ blts, mg (Str.ofString y) = none) {fa : Addr} (cdv : Value) (A : Around) (outer : List PySem.Env) (s : Shared) (H : L2.Hp) (E : L2.XK) (hr : L2.Room k (A.deeper (envOfC "greatest" (L2.defScope sp_greatest) s.heap.objs.size fa cdv))) :
    PDSs (L2.cxOf L2.CX0 P w K mg base np_greatest "greatest" (L2.defScope sp_greatest) fa cdv A outer s H E).nox (L2.defBody sp_greatest) (b_p_greatest c) := by
  have nd := scp_greatest.nd
  unfold b_p_greatest
  exact pss_one (ps_ret (pd_sub (pd_shl (pd_int) (pd_var (i := 0) rfl)) (pd_int)))
theorem der_p_related {k : Nat} {c : Cl} (ok : ∀ y ∈ names, Own P w K mg base k (Str.ofString y) (c y)) (oks : ∀ q ∈ snames, OwnS P w K mg base k q.2 (Str.ofString q.1) (c q.1)) (zs : ∀ y ∈ blts, mg (Str.ofString y) = none) {fa : Addr} (cdv : Value) (A : Around) (outer : List PySem.Env) (s : Shared) (H : L2.Hp) (E : L2.XK) (hr : L2.Room k (A.deeper (envOfC "related" (L2.defScope sp_related) s.heap.objs.size fa cdv))) :
    PDSs (L2.cxOf L2.CX0 P w K mg base np_related "related" (L2.defScope sp_related) fa cdv A outer s H E).nox (L2.defBody sp_related) (b_p_related c) := by
  have nd := scp_related.nd
  unfold b_p_related
  exact pss_cons (ps_if (pt_cmp (L2.op_eqD hr.units) real_eq (by rfl) (pd_var (i := 0) rfl) (pd_str)) (pss_one (ps_ret (pd_callTy L2.call_int1 real_intB rfl (zs "int" (by decide)) bt_int (pa_cons (pd_cmp (L2.op_eqD hr.units) real_eq (by rfl) (pd_var (i := 1) rfl) (pd_var (i := 2) rfl)) (pa_nil))))) (pss_nil)) (pss_cons (ps_if (pt_cmp (L2.op_eqD hr.units) real_eq (by rfl) (pd_var (i := 0) rfl) (pd_str)) (pss_one (ps_ret (pd_callTy L2.call_int1 real_intB rfl (zs "int" (by decide)) bt_int (pa_cons (pd_cmp (L2.op_neD hr.units) real_ne (by rfl) (pd_var (i := 1) rfl) (pd_var (i := 2) rfl)) (pa_nil))))) (pss_nil)) (pss_cons (ps_if (pt_cmp (L2.op_eqD hr.units) real_eq (by rfl) (pd_var (i := 0) rfl) (pd_str)) (pss_one (ps_ret (pd_callTy L2.call_int1 real_intB rfl (zs "int" (by decide)) bt_int (pa_cons (pd_cmp L2.op_lt real_lt (by rfl) (pd_var (i := 1) rfl) (pd_var (i := 2) rfl)) (pa_nil))))) (pss_nil)) (pss_one (ps_ret (pd_callTy L2.call_int1 real_intB rfl (zs "int" (by decide)) bt_int (pa_cons (pd_cmp L2.op_le real_le (by rfl) (pd_var (i := 1) rfl) (pd_var (i := 2) rfl)) (pa_nil)))))))
theorem der_p_shifted {k : Nat} {c : Cl} (ok : ∀ y ∈ names, Own P w K mg base k (Str.ofString y) (c y)) (oks : ∀ q ∈ snames, OwnS P w K mg base k q.2 (Str.ofString q.1) (c q.1)) (zs : ∀ y ∈ blts, mg (Str.ofString y) = none) {fa : Addr} (cdv : Value) (A : Around) (outer : List PySem.Env) (s : Shared) (H : L2.Hp) (E : L2.XK) (hr : L2.Room k (A.deeper (envOfC "shifted" (L2.defScope sp_shifted) s.heap.objs.size fa cdv))) :
    PDSs (L2.cxOf L2.CX0 P w K mg base np_shifted "shifted" (L2.defScope sp_shifted) fa cdv A outer s H E).nox (L2.defBody sp_shifted) (b_p_shifted c) := by
  have nd := scp_shifted.nd
  unfold b_p_shifted
  exact pss_cons (ps_if (pt_cmp L2.op_ge real_ge (by rfl) (pd_var (i := 3) rfl) (pd_var (i := 1) rfl)) (pss_one (ps_ret (pd_int))) (pss_nil)) (pss_cons (ps_if (pt_cmp (L2.op_eqD hr.units) real_eq (by rfl) (pd_var (i := 0) rfl) (pd_str)) (pss_one (ps_ret (pd_and (pd_shl (pd_var (i := 2) rfl) (pd_var (i := 3) rfl)) (pd_call (y := "greatest") (ok "greatest" (by decide)) hr rfl (pa_cons (pd_var (i := 1) rfl) (pa_nil)))))) (pss_nil)) (pss_one (ps_ret (pd_shr (pd_var (i := 2) rfl) (pd_var (i := 3) rfl)))))
theorem der_p_divided {k : Nat} {c : Cl} (ok : ∀ y ∈ names, Own P w K mg base k (Str.ofString y) (c y)) (oks : ∀ q ∈ snames, OwnS P w K mg base k q.2 (Str.ofString q.1) (c q.1)) (zs : ∀ y ∈ blts, mg (Str.ofString y) = none) {fa : Addr} (cdv : Value) (A : Around) (outer : List PySem.Env) (s : Shared) (H : L2.Hp) (E : L2.XK) (hr : L2.Room k (A.deeper (envOfC "divided" (L2.defScope sp_divided) s.heap.objs.size fa cdv))) :
    PDSs (L2.cxOf L2.CX0 P w K mg base np_divided "divided" (L2.defScope sp_divided) fa cdv A outer s H E).nox (L2.defBody sp_divided) (b_p_divided c) := by
  have nd := scp_divided.nd
  unfold b_p_divided
  exact pss_cons (ps_if (pt_cmp (L2.op_eqD hr.units) real_eq (by rfl) (pd_var (i := 2) rfl) (pd_int)) (pss_one (ps_ret (pd_int))) (pss_nil)) (pss_cons (ps_if (pt_cmp (L2.op_eqD hr.units) real_eq (by rfl) (pd_var (i := 0) rfl) (pd_str)) (pss_one (ps_ret (pd_fdiv (pd_var (i := 1) rfl) (pd_var (i := 2) rfl)))) (pss_nil)) (pss_one (ps_ret (pd_sub (pd_var (i := 1) rfl) (pd_mul (pd_var (i := 2) rfl) (pd_fdiv (pd_var (i := 1) rfl) (pd_var (i := 2) rfl)))))))
theorem der_p_reckoned {k : Nat} {c : Cl} (ok : ∀ y ∈ names, Own P w K mg base k (Str.ofString y) (c y)) (oks : ∀ q ∈ snames, OwnS P w K mg base k q.2 (Str.ofString q.1) (c q.1)) (zs : ∀ y ∈ blts, mg (Str.ofString y) = none) {fa : Addr} (cdv : Value) (A : Around) (outer : List PySem.Env) (s : Shared) (H : L2.Hp) (E : L2.XK) (hr : L2.Room k (A.deeper (envOfC "reckoned" (L2.defScope sp_reckoned) s.heap.objs.size fa cdv))) :
    PDSs (L2.cxOf L2.CX0 P w K mg base np_reckoned "reckoned" (L2.defScope sp_reckoned) fa cdv A outer s H E).nox (L2.defBody sp_reckoned) (b_p_reckoned c) := by
  have nd := scp_reckoned.nd
  unfold b_p_reckoned
  exact pss_cons (ps_if (pt_cmp (L2.op_eqD hr.units) real_eq (by rfl) (pd_var (i := 0) rfl) (pd_str)) (pss_one (ps_ret (pd_add (pd_var (i := 1) rfl) (pd_var (i := 2) rfl)))) (pss_nil)) (pss_cons (ps_if (pt_cmp (L2.op_eqD hr.units) real_eq (by rfl) (pd_var (i := 0) rfl) (pd_str)) (pss_one (ps_ret (pd_sub (pd_var (i := 1) rfl) (pd_var (i := 2) rfl)))) (pss_nil)) (pss_cons (ps_if (pt_cmp (L2.op_eqD hr.units) real_eq (by rfl) (pd_var (i := 0) rfl) (pd_str)) (pss_one (ps_ret (pd_mul (pd_var (i := 1) rfl) (pd_var (i := 2) rfl)))) (pss_nil)) (pss_cons (ps_if (pt_cmp (L2.op_eqD hr.units) real_eq (by rfl) (pd_var (i := 0) rfl) (pd_str)) (pss_one (ps_ret (pd_and (pd_var (i := 1) rfl) (pd_var (i := 2) rfl)))) (pss_nil)) (pss_cons (ps_if (pt_cmp (L2.op_eqD hr.units) real_eq (by rfl) (pd_var (i := 0) rfl) (pd_str)) (pss_one (ps_ret (pd_or (pd_var (i := 1) rfl) (pd_var (i := 2) rfl)))) (pss_nil)) (pss_one (ps_ret (pd_xor (pd_var (i := 1) rfl) (pd_var (i := 2) rfl))))))))
theorem der_p_result {k : Nat} {c : Cl} (ok : ∀ y ∈ names, Own P w K mg base k (Str.ofString y) (c y)) (oks : ∀ q ∈ snames, OwnS P w K mg base k q.2 (Str.ofString q.1) (c q.1)) (zs : ∀ y ∈ blts, mg (Str.ofString y) = none) {fa : Addr} (cdv : Value) (A : Around) (outer : List PySem.Env) (s : Shared) (H : L2.Hp) (E : L2.XK) (hr : L2.Room k (A.deeper (envOfC "result" (L2.defScope sp_result) s.heap.objs.size fa cdv))) :
    PDSs (L2.cxOf L2.CX0 P w K mg base np_result "result" (L2.defScope sp_result) fa cdv A outer s H E).nox (L2.defBody sp_result) (b_p_result c) := by
  have nd := scp_result.nd
  unfold b_p_result
  exact pss_cons (ps_set (i := 3) nd rfl (by first | exact .inl rfl | exact .inr rfl) (pd_ix (fun _ _ => rfl) (pd_var (i := 2) rfl) (pd_int))) (pss_cons (ps_if (pt_cmp (L2.op_eqD hr.units) real_eq (by rfl) (pd_var (i := 0) rfl) (pd_str)) (pss_one (ps_ret (pd_sub (pd_call (y := "greatest") (ok "greatest" (by decide)) hr rfl (pa_cons (pd_var (i := 1) rfl) (pa_nil))) (pd_var (i := 3) rfl)))) (pss_nil)) (pss_cons (ps_if (pt_cmp (L2.op_eqD hr.units) real_eq (by rfl) (pd_var (i := 0) rfl) (pd_str)) (pss_one (ps_ret (pd_and (pd_neg (pd_var (i := 3) rfl)) (pd_call (y := "greatest") (ok "greatest" (by decide)) hr rfl (pa_cons (pd_var (i := 1) rfl) (pa_nil)))))) (pss_nil)) (pss_cons (ps_if (pt_cmp (L2.op_eqD hr.units) real_eq (by rfl) (pd_var (i := 0) rfl) (pd_str)) (pss_one (ps_ret (pd_and (pd_var (i := 3) rfl) (pd_call (y := "greatest") (ok "greatest" (by decide)) hr rfl (pa_cons (pd_var (i := 1) rfl) (pa_nil)))))) (pss_nil)) (pss_cons (ps_if (pt_cmp (L2.op_eqD hr.units) real_eq (by rfl) (pd_var (i := 0) rfl) (pd_str)) (pss_one (ps_ret (pd_if (pt_cmp (L2.op_eqD hr.units) real_eq (by rfl) (pd_var (i := 3) rfl) (pd_int)) (pd_ix (fun _ _ => rfl) (pd_var (i := 2) rfl) (pd_int)) (pd_ix (fun _ _ => rfl) (pd_var (i := 2) rfl) (pd_int))))) (pss_nil)) (pss_cons (ps_set (i := 4) nd rfl (by first | exact .inl rfl | exact .inr rfl) (pd_ix (fun _ _ => rfl) (pd_var (i := 2) rfl) (pd_int))) (pss_cons (ps_if (pt_cmp L2.op_in_seq (real_in false) (by rfl) (pd_var (i := 0) rfl) (pd_tup (pa_cons (pd_str) (pa_cons (pd_str) (pa_cons (pd_str) (pa_cons (pd_str) (pa_nil))))))) (pss_one (ps_ret (pd_call (y := "related") (ok "related" (by decide)) hr rfl (pa_cons (pd_var (i := 0) rfl) (pa_cons (pd_var (i := 3) rfl) (pa_cons (pd_var (i := 4) rfl) (pa_nil))))))) (pss_nil)) (pss_cons (ps_if (pt_cmp L2.op_in_seq (real_in false) (by rfl) (pd_var (i := 0) rfl) (pd_tup (pa_cons (pd_str) (pa_cons (pd_str) (pa_nil))))) (pss_one (ps_ret (pd_call (y := "shifted") (ok "shifted" (by decide)) hr rfl (pa_cons (pd_var (i := 0) rfl) (pa_cons (pd_var (i := 1) rfl) (pa_cons (pd_var (i := 3) rfl) (pa_cons (pd_var (i := 4) rfl) (pa_nil)))))))) (pss_nil)) (pss_cons (ps_if (pt_cmp L2.op_in_seq (real_in false) (by rfl) (pd_var (i := 0) rfl) (pd_tup (pa_cons (pd_str) (pa_cons (pd_str) (pa_nil))))) (pss_one (ps_ret (pd_call (y := "divided") (ok "divided" (by decide)) hr rfl (pa_cons (pd_var (i := 0) rfl) (pa_cons (pd_var (i := 3) rfl) (pa_cons (pd_var (i := 4) rfl) (pa_nil))))))) (pss_nil)) (pss_one (ps_ret (pd_and (pd_call (y := "reckoned") (ok "reckoned" (by decide)) hr rfl (pa_cons (pd_var (i := 0) rfl) (pa_cons (pd_var (i := 3) rfl) (pa_cons (pd_var (i := 4) rfl) (pa_nil))))) (pd_call (y := "greatest") (ok "greatest" (by decide)) hr rfl (pa_cons (pd_var (i := 1) rfl) (pa_nil))))))))))))))
theorem der_p_values_of {k : Nat} {c : Cl} (ok : ∀ y ∈ names, Own P w K mg base k (Str.ofString y) (c y)) (oks : ∀ q ∈ snames, OwnS P w K mg base k q.2 (Str.ofString q.1) (c q.1)) (zs : ∀ y ∈ blts, mg (Str.ofString y) = none) {fa : Addr} (cdv : Value) (A : Around) (outer : List PySem.Env) (s : Shared) (H : L2.Hp) (E : L2.XK) (hr : L2.Room k (A.deeper (envOfC "values_of" (L2.defScope sp_values_of) s.heap.objs.size fa cdv))) :
    PDSs (L2.cxOf L2.CX0 P w K mg base np_values_of "values_of" (L2.defScope sp_values_of) fa cdv A outer s H E).nox (L2.defBody sp_values_of) (b_p_values_of c) := by
  have nd := scp_values_of.nd
  unfold b_p_values_of
  exact pss_cons (ps_set (i := 2) nd rfl (by first | exact .inl rfl | exact .inr rfl) (pd_lst (pa_nil))) (pss_cons (ps_for PassesOwn.never rfl (pi_seq (pd_var (i := 0) rfl)) (pg_name (i := 3) nd rfl (by first | exact .inl rfl | exact .inr rfl)) (pss_one (ps_if (pt_cmp (L2.op_eqD hr.units) real_eq (by rfl) (pd_ix (fun _ _ => rfl) (pd_var (i := 3) rfl) (pd_int)) (pd_str)) (pss_one (ps_expr (pd_m L2.mt_append real_append ty_list PySem.F.plainAttrs_list PySem.F.slot_list_append PySem.F.type_list_append (pd_var (i := 2) rfl) (pa_cons (pd_ix (fun _ _ => rfl) (pd_var (i := 3) rfl) (pd_int)) (pa_nil))))) (pss_one (ps_if (pt_cmp (L2.op_eqD hr.units) real_eq (by rfl) (pd_ix (fun _ _ => rfl) (pd_var (i := 3) rfl) (pd_int)) (pd_str)) (pss_one (ps_expr (pd_m L2.mt_append real_append ty_list PySem.F.plainAttrs_list PySem.F.slot_list_append PySem.F.type_list_append (pd_var (i := 2) rfl) (pa_cons (pd_if (pt_cmp L2.op_lt real_lt (by rfl) (pd_ix (fun _ _ => rfl) (pd_var (i := 3) rfl) (pd_int)) (pd_callB L2.call_len real_lenB rfl (zs "len" (by decide)) bt_len (pa_cons (pd_var (i := 1) rfl) (pa_nil)))) (pd_and (pd_ix (fun _ _ => rfl) (pd_var (i := 1) rfl) (pd_ix (fun _ _ => rfl) (pd_var (i := 3) rfl) (pd_int))) (pd_call (y := "greatest") (ok "greatest" (by decide)) hr rfl (pa_cons (pd_ix (fun _ _ => rfl) (pd_var (i := 3) rfl) (pd_int)) (pa_nil)))) (pd_int)) (pa_nil))))) (pss_cons (ps_setLc (j := 4) (own := [("part", 5)]) rfl nd rfl rfl (L2.sw_true rfl rfl rfl (by decide +kernel)) (pi_seq (pd_sl (pd_var (i := 3) rfl) (po_some (pd_int)) (po_none))) (L2.blkOk_by (N := np_values_of) (sc := L2.defScope sp_values_of) (by decide +kernel)) (fun _ _ _ _ _ => pg_name (i := 5) nd rfl (by first | exact .inl rfl | exact .inr rfl)) (fun _ _ _ _ _ => pts_nil) (fun _ _ _ _ _ => pd_ix (fun _ _ => rfl) (pd_var (i := 2) rfl) (pd_var (i := 5) rfl)) (by decide)) (pss_one (ps_expr (pd_m L2.mt_append real_append ty_list PySem.F.plainAttrs_list PySem.F.slot_list_append PySem.F.type_list_append (pd_var (i := 2) rfl) (pa_cons (pd_callS2 (y := "result") (oks ("result", 2) (by decide)) hr rfl (pa_cons (pd_ix (fun _ _ => rfl) (pd_var (i := 3) rfl) (pd_int)) (pa_cons (pd_ix (fun _ _ => rfl) (pd_var (i := 3) rfl) (pd_int)) (pa_starD (pd_var (i := 4) rfl) (pa_nil))))) (pa_nil))))))))))) (pss_one (ps_ret (pd_callTy L2.call_tuple_of real_tupleB rfl (zs "tuple" (by decide)) bt_tuple (pa_cons (pd_var (i := 2) rfl) (pa_nil))))))
theorem der_p_replayed {k : Nat} {c : Cl} (ok : ∀ y ∈ names, Own P w K mg base k (Str.ofString y) (c y)) (oks : ∀ q ∈ snames, OwnS P w K mg base k q.2 (Str.ofString q.1) (c q.1)) (zs : ∀ y ∈ blts, mg (Str.ofString y) = none) {fa : Addr} (cdv : Value) (A : Around) (outer : List PySem.Env) (s : Shared) (H : L2.Hp) (E : L2.XK) (hr : L2.Room k (A.deeper (envOfC "replayed" (L2.defScope sp_replayed) s.heap.objs.size fa cdv))) :
    PDSs (L2.cxOf L2.CX0 P w K mg base np_replayed "replayed" (L2.defScope sp_replayed) fa cdv A outer s H E).nox (L2.defBody sp_replayed) (b_p_replayed c) := by
  have nd := scp_replayed.nd
  unfold b_p_replayed
  exact pss_cons (ps_set (i := 3) nd rfl (by first | exact .inl rfl | exact .inr rfl) (pd_call (y := "values_of") (ok "values_of" (by decide)) hr rfl (pa_cons (pd_ix (fun _ _ => rfl) (pd_var (i := 0) rfl) (pd_int)) (pa_cons (pd_add (pd_callTy L2.call_tuple_of real_tupleB rfl (zs "tuple" (by decide)) bt_tuple (pa_cons (pd_var (i := 1) rfl) (pa_nil))) (pd_callTy L2.call_tuple_of real_tupleB rfl (zs "tuple" (by decide)) bt_tuple (pa_cons (pd_var (i := 2) rfl) (pa_nil)))) (pa_nil))))) (pss_cons (ps_set (i := 4) nd rfl (by first | exact .inl rfl | exact .inr rfl) (pd_ix (fun _ _ => rfl) (pd_var (i := 0) rfl) (pd_int))) (pss_cons (ps_par rfl nd rfl rfl (by decide) (L2.ps_par rfl nd rfl rfl (by decide) rfl rfl (pa_cons (pd_lst (pa_nil)) (pa_cons (pd_lst (pa_nil)) (pa_nil))) (by rfl))) (pss_cons (ps_while PassesOwn.never (pt_cmp (L2.op_neD hr.units) real_ne (by rfl) (pd_ix (fun _ _ => rfl) (pd_var (i := 4) rfl) (pd_int)) (pd_str)) (pss_one (ps_if (pt_cmp (L2.op_eqD hr.units) real_eq (by rfl) (pd_ix (fun _ _ => rfl) (pd_var (i := 4) rfl) (pd_int)) (pd_str)) (pss_cons (ps_set (i := 7) nd rfl (by first | exact .inl rfl | exact .inr rfl) (pd_callTy L2.call_tuple_of real_tupleB rfl (zs "tuple" (by decide)) bt_tuple (pa_cons (pd_lc (own := [("term", 10)]) rfl nd (pi_seq (pd_ix (fun _ _ => rfl) (pd_var (i := 4) rfl) (pd_int))) (L2.blkOk_by (N := np_replayed) (sc := L2.defScope sp_replayed) (by decide +kernel)) (fun _ _ _ _ _ => pg_name (i := 10) nd rfl (by first | exact .inl rfl | exact .inr rfl)) (fun _ _ _ _ _ => pts_nil) (fun _ _ _ _ _ => pd_ix (fun _ _ => rfl) (pd_var (i := 3) rfl) (pd_var (i := 10) rfl)) (by decide)) (pa_nil)))) (pss_cons (ps_if (pt_cmp (L2.op_eqD hr.units) real_eq (by rfl) (pd_callB L2.call_len real_lenB rfl (zs "len" (by decide)) bt_len (pa_cons (pd_var (i := 6) rfl) (pa_nil))) (pd_callB L2.call_len real_lenB rfl (zs "len" (by decide)) bt_len (pa_cons (pd_var (i := 2) rfl) (pa_nil)))) (pss_one (ps_ret (pd_tup (pa_cons (pd_callTy L2.call_tuple_of real_tupleB rfl (zs "tuple" (by decide)) bt_tuple (pa_cons (pd_var (i := 5) rfl) (pa_nil))) (pa_cons (pd_callTy L2.call_tuple_of real_tupleB rfl (zs "tuple" (by decide)) bt_tuple (pa_cons (pd_var (i := 6) rfl) (pa_nil))) (pa_cons (pd_tup (pa_cons (pd_str) (pa_cons (pd_ix (fun _ _ => rfl) (pd_var (i := 4) rfl) (pd_int)) (pa_cons (pd_var (i := 7) rfl) (pa_nil))))) (pa_nil))))))) (pss_nil)) (pss_cons (ps_expr (pd_m L2.mt_append real_append ty_list PySem.F.plainAttrs_list PySem.F.slot_list_append PySem.F.type_list_append (pd_var (i := 6) rfl) (pa_cons (pd_tup (pa_cons (pd_ix (fun _ _ => rfl) (pd_var (i := 4) rfl) (pd_int)) (pa_cons (pd_var (i := 7) rfl) (pa_nil)))) (pa_nil)))) (pss_one (ps_set (i := 4) nd rfl (by first | exact .inl rfl | exact .inr rfl) (pd_ix (fun _ _ => rfl) (pd_var (i := 4) rfl) (pd_int))))))) (pss_cons (ps_set (i := 8) nd rfl (by first | exact .inl rfl | exact .inr rfl) (pd_ix (fun _ _ => rfl) (pd_var (i := 3) rfl) (pd_ix (fun _ _ => rfl) (pd_var (i := 4) rfl) (pd_int)))) (pss_cons (ps_if (pt_cmp (L2.op_eqD hr.units) real_eq (by rfl) (pd_ix (fun _ _ => rfl) (pd_var (i := 4) rfl) (pd_int)) (pd_str)) (pss_one (ps_expr (pd_m L2.mt_append real_append ty_list PySem.F.plainAttrs_list PySem.F.slot_list_append PySem.F.type_list_append (pd_var (i := 5) rfl) (pa_cons (pd_tup (pa_cons (pd_ix (fun _ _ => rfl) (pd_ix (fun _ _ => rfl) (pd_var (i := 4) rfl) (pd_int)) (pd_int)) (pa_cons (pd_ix (fun _ _ => rfl) (pd_ix (fun _ _ => rfl) (pd_var (i := 4) rfl) (pd_int)) (pd_int)) (pa_cons (pd_var (i := 8) rfl) (pa_nil))))) (pa_nil))))) (pss_nil)) (pss_one (ps_set (i := 4) nd rfl (by first | exact .inl rfl | exact .inr rfl) (pd_if (pt_cmp (L2.op_eqD hr.units) real_eq (by rfl) (pd_var (i := 8) rfl) (pd_int)) (pd_ix (fun _ _ => rfl) (pd_var (i := 4) rfl) (pd_int)) (pd_ix (fun _ _ => rfl) (pd_var (i := 4) rfl) (pd_int)))))))))) (pss_cons (ps_set (i := 9) nd rfl (by first | exact .inl rfl | exact .inr rfl) (pd_ix (fun _ _ => rfl) (pd_var (i := 4) rfl) (pd_int))) (pss_cons (ps_if (pt_cmp (L2.op_eqD hr.units) real_eq (by rfl) (pd_ix (fun _ _ => rfl) (pd_var (i := 9) rfl) (pd_int)) (pd_str)) (pss_one (ps_set (i := 9) nd rfl (by first | exact .inl rfl | exact .inr rfl) (pd_tup (pa_cons (pd_str) (pa_cons (pd_ix (fun _ _ => rfl) (pd_var (i := 3) rfl) (pd_ix (fun _ _ => rfl) (pd_var (i := 9) rfl) (pd_int))) (pa_nil)))))) (pss_nil)) (pss_one (ps_ret (pd_tup (pa_cons (pd_callTy L2.call_tuple_of real_tupleB rfl (zs "tuple" (by decide)) bt_tuple (pa_cons (pd_var (i := 5) rfl) (pa_nil))) (pa_cons (pd_callTy L2.call_tuple_of real_tupleB rfl (zs "tuple" (by decide)) bt_tuple (pa_cons (pd_var (i := 6) rfl) (pa_nil))) (pa_cons (pd_var (i := 9) rfl) (pa_nil))))))))))))
theorem der_l_begin {k : Nat} {c : Cl} (ok : ∀ y ∈ names, Own P w K mg base k (Str.ofString y) (c y)) (oks : ∀ q ∈ snames, OwnS P w K mg base k q.2 (Str.ofString q.1) (c q.1)) (zs : ∀ y ∈ blts, mg (Str.ofString y) = none) {fa : Addr} (cdv : Value) (A : Around) (outer : List PySem.Env) (s : Shared) (H : L2.Hp) (E : L2.XK) (hr : L2.Room k (A.deeper (envOfC "_law_begin" (L2.defScope sl_begin) s.heap.objs.size fa cdv))) :
    PDSs (L2.cxOf L2.CX0 P w K mg base nl_begin "_law_begin" (L2.defScope sl_begin) fa cdv A outer s H E).nox (L2.defBody sl_begin) (b_l_begin c) := by
  have nd := scl_begin.nd
  unfold b_l_begin
  exact pss_one (ps_ret (pd_lst (pa_cons (pd_lc (own := [("_law_cell", 1)]) rfl nd (pi_seq (pd_var (i := 0) rfl)) (L2.blkOk_by (N := nl_begin) (sc := L2.defScope sl_begin) (by decide +kernel)) (fun _ _ _ _ _ => pg_name (i := 1) nd rfl (by first | exact .inl rfl | exact .inr rfl)) (fun _ _ _ _ _ => pts_nil) (fun _ _ _ _ _ => pd_callTy L2.call_int1 real_intB rfl (zs "int" (by decide)) bt_int (pa_cons (pd_var (i := 1) rfl) (pa_nil))) (by decide)) (pa_cons (pd_int) (pa_cons (pd_int) (pa_cons (pd_int) (pa_cons (pd_int) (pa_nil))))))))
theorem der_l_draw {k : Nat} {c : Cl} (ok : ∀ y ∈ names, Own P w K mg base k (Str.ofString y) (c y)) (oks : ∀ q ∈ snames, OwnS P w K mg base k q.2 (Str.ofString q.1) (c q.1)) (zs : ∀ y ∈ blts, mg (Str.ofString y) = none) {fa : Addr} (cdv : Value) (A : Around) (outer : List PySem.Env) (s : Shared) (H : L2.Hp) (E : L2.XK) (hr : L2.Room k (A.deeper (envOfC "_law_draw" (L2.defScope sl_draw) s.heap.objs.size fa cdv))) :
    PDSs (L2.cxOf L2.CX0 P w K mg base nl_draw "_law_draw" (L2.defScope sl_draw) fa cdv A outer s H E).nox (L2.defBody sl_draw) (b_l_draw c) := by
  have nd := scl_draw.nd
  unfold b_l_draw
  exact pss_cons (ps_if (pt_cmp L2.op_gt real_gt (by rfl) (pd_ix (fun _ _ => rfl) (pd_var (i := 0) rfl) (pd_int)) (pd_int)) (pss_cons (ps_set (i := 2) nd rfl (by first | exact .inl rfl | exact .inr rfl) (pd_ix (fun _ _ => rfl) (pd_var (i := 0) rfl) (pd_int))) (pss_cons (ps_asg (pd_fdiv (pd_var (i := 2) rfl) (pd_var (i := 1) rfl)) (pg_sub (pd_var (i := 0) rfl) (pd_int))) (pss_one (ps_ret (pd_mod (pd_callTy L2.call_int1 real_intB rfl (zs "int" (by decide)) bt_int (pa_cons (pd_var (i := 2) rfl) (pa_nil))) (pd_var (i := 1) rfl)))))) (pss_nil)) (pss_cons (ps_set (i := 3) nd rfl (by first | exact .inl rfl | exact .inr rfl) (pd_int)) (pss_cons (ps_if (pt_cmp L2.op_lt real_lt (by rfl) (pd_ix (fun _ _ => rfl) (pd_var (i := 0) rfl) (pd_int)) (pd_callB L2.call_len real_lenB rfl (zs "len" (by decide)) bt_len (pa_cons (pd_ix (fun _ _ => rfl) (pd_var (i := 0) rfl) (pd_int)) (pa_nil)))) (pss_cons (ps_set (i := 4) nd rfl (by first | exact .inl rfl | exact .inr rfl) (pd_ix (fun _ _ => rfl) (pd_ix (fun _ _ => rfl) (pd_var (i := 0) rfl) (pd_int)) (pd_ix (fun _ _ => rfl) (pd_var (i := 0) rfl) (pd_int)))) (pss_one (ps_set (i := 3) nd rfl (by first | exact .inl rfl | exact .inr rfl) (pd_add (pd_mul (pd_int) (pd_callB L2.call_abs real_absB rfl (zs "abs" (by decide)) bt_abs (pa_cons (pd_var (i := 4) rfl) (pa_nil)))) (pd_callTy L2.call_int1 real_intB rfl (zs "int" (by decide)) bt_int (pa_cons (pd_cmp L2.op_lt real_lt (by rfl) (pd_var (i := 4) rfl) (pd_int)) (pa_nil))))))) (pss_nil)) (pss_cons (ps_augS ip_add real_iadd (pd_var (i := 0) rfl) (pd_int) (pd_int)) (pss_cons (ps_if (pt_cmp L2.op_ge real_ge (by rfl) (pd_var (i := 3) rfl) (pd_mul (pd_int) (pd_pow (pd_int) (pd_int)))) (pss_cons (ps_set (i := 2) nd rfl (by first | exact .inl rfl | exact .inr rfl) (pd_mod (pd_callTy L2.call_int1 real_intB rfl (zs "int" (by decide)) bt_int (pa_cons (pd_fdiv (pd_var (i := 3) rfl) (pd_int)) (pa_nil))) (pd_shl (pd_int) (pd_int)))) (pss_cons (ps_asg (pd_fdiv (pd_var (i := 2) rfl) (pd_var (i := 1) rfl)) (pg_sub (pd_var (i := 0) rfl) (pd_int))) (pss_one (ps_ret (pd_mod (pd_callTy L2.call_int1 real_intB rfl (zs "int" (by decide)) bt_int (pa_cons (pd_var (i := 2) rfl) (pa_nil))) (pd_var (i := 1) rfl)))))) (pss_nil)) (pss_cons (ps_asg (pd_mod (pd_callTy L2.call_int1 real_intB rfl (zs "int" (by decide)) bt_int (pa_cons (pd_add (pd_add (pd_add (pd_mul (pd_ix (fun _ _ => rfl) (pd_var (i := 0) rfl) (pd_int)) (pd_int)) (pd_mul (pd_mod (pd_callTy L2.call_int1 real_intB rfl (zs "int" (by decide)) bt_int (pa_cons (pd_var (i := 3) rfl) (pa_nil))) (pd_int)) (pd_int))) (pd_mul (pd_ix (fun _ _ => rfl) (pd_var (i := 0) rfl) (pd_int)) (pd_int))) (pd_int)) (pa_nil))) (pd_int)) (pg_sub (pd_var (i := 0) rfl) (pd_int))) (pss_one (ps_ret (pd_mod (pd_callTy L2.call_int1 real_intB rfl (zs "int" (by decide)) bt_int (pa_cons (pd_fdiv (pd_ix (fun _ _ => rfl) (pd_var (i := 0) rfl) (pd_int)) (pd_int)) (pa_nil))) (pd_var (i := 1) rfl)))))))))
theorem der_l_pick {k : Nat} {c : Cl} (ok : ∀ y ∈ names, Own P w K mg base k (Str.ofString y) (c y)) (oks : ∀ q ∈ snames, OwnS P w K mg base k q.2 (Str.ofString q.1) (c q.1)) (zs : ∀ y ∈ blts, mg (Str.ofString y) = none) {fa : Addr} (cdv : Value) (A : Around) (outer : List PySem.Env) (s : Shared) (H : L2.Hp) (E : L2.XK) (hr : L2.Room k (A.deeper (envOfC "_law_pick" (L2.defScope sl_pick) s.heap.objs.size fa cdv))) :
    PDSs (L2.cxOf L2.CX0 P w K mg base nl_pick "_law_pick" (L2.defScope sl_pick) fa cdv A outer s H E).nox (L2.defBody sl_pick) (b_l_pick c) := by
  have nd := scl_pick.nd
  unfold b_l_pick
  exact pss_one (ps_ret (pd_ix (fun _ _ => rfl) (pd_var (i := 1) rfl) (pd_call (y := "_law_draw") (ok "_law_draw" (by decide)) hr rfl (pa_cons (pd_var (i := 0) rfl) (pa_cons (pd_callB L2.call_len real_lenB rfl (zs "len" (by decide)) bt_len (pa_cons (pd_var (i := 1) rfl) (pa_nil))) (pa_nil))))))
theorem der_l_pop {k : Nat} {c : Cl} (ok : ∀ y ∈ names, Own P w K mg base k (Str.ofString y) (c y)) (oks : ∀ q ∈ snames, OwnS P w K mg base k q.2 (Str.ofString q.1) (c q.1)) (zs : ∀ y ∈ blts, mg (Str.ofString y) = none) {fa : Addr} (cdv : Value) (A : Around) (outer : List PySem.Env) (s : Shared) (H : L2.Hp) (E : L2.XK) (hr : L2.Room k (A.deeper (envOfC "_law_pop" (L2.defScope sl_pop) s.heap.objs.size fa cdv))) :
    PDSs (L2.cxOf L2.CX0 P w K mg base nl_pop "_law_pop" (L2.defScope sl_pop) fa cdv A outer s H E).nox (L2.defBody sl_pop) (b_l_pop c) := by
  have nd := scl_pop.nd
  unfold b_l_pop
  exact pss_one (ps_ret (pd_m L2.mt_popAt real_popAt ty_list PySem.F.plainAttrs_list PySem.F.slot_list_pop PySem.F.type_list_pop (pd_var (i := 1) rfl) (pa_cons (pd_call (y := "_law_draw") (ok "_law_draw" (by decide)) hr rfl (pa_cons (pd_var (i := 0) rfl) (pa_cons (pd_callB L2.call_len real_lenB rfl (zs "len" (by decide)) bt_len (pa_cons (pd_var (i := 1) rfl) (pa_nil))) (pa_nil)))) (pa_nil))))
theorem der_l_pool {k : Nat} {c : Cl} (ok : ∀ y ∈ names, Own P w K mg base k (Str.ofString y) (c y)) (oks : ∀ q ∈ snames, OwnS P w K mg base k q.2 (Str.ofString q.1) (c q.1)) (zs : ∀ y ∈ blts, mg (Str.ofString y) = none) {fa : Addr} (cdv : Value) (A : Around) (outer : List PySem.Env) (s : Shared) (H : L2.Hp) (E : L2.XK) (hr : L2.Room k (A.deeper (envOfC "_law_pool" (L2.defScope sl_pool) s.heap.objs.size fa cdv))) :
    PDSs (L2.cxOf L2.CX0 P w K mg base nl_pool "_law_pool" (L2.defScope sl_pool) fa cdv A outer s H E).nox (L2.defBody sl_pool) (b_l_pool c) := by
  have nd := scl_pool.nd
  unfold b_l_pool
  exact pss_cons (ps_set (i := 0) nd rfl (by first | exact .inl rfl | exact .inr rfl) (pd_str)) (pss_cons (ps_set (i := 0) nd rfl (by first | exact .inl rfl | exact .inr rfl) (pd_add (pd_var (i := 0) rfl) (pd_str))) (pss_one (ps_ret (pd_m L2.mt_split real_split ty_str PySem.F.plainAttrs_str PySem.F.slot_str_split PySem.F.type_str_split (pd_add (pd_var (i := 0) rfl) (pd_str)) (pa_cons (pd_str) (pa_nil))))))
theorem der_l_is_int {k : Nat} {c : Cl} (ok : ∀ y ∈ names, Own P w K mg base k (Str.ofString y) (c y)) (oks : ∀ q ∈ snames, OwnS P w K mg base k q.2 (Str.ofString q.1) (c q.1)) (zs : ∀ y ∈ blts, mg (Str.ofString y) = none) {fa : Addr} (cdv : Value) (A : Around) (outer : List PySem.Env) (s : Shared) (H : L2.Hp) (E : L2.XK) (hr : L2.Room k (A.deeper (envOfC "_law_is_int" (L2.defScope sl_is_int) s.heap.objs.size fa cdv))) :
    PDSs (L2.cxOf L2.CX0 P w K mg base nl_is_int "_law_is_int" (L2.defScope sl_is_int) fa cdv A outer s H E).nox (L2.defBody sl_is_int) (b_l_is_int c) := by
  have nd := scl_is_int.nd
  unfold b_l_is_int
  exact pss_one (ps_ret (pd_and' (pd_isi (T := "int") .int rfl (zs "isinstance" (by decide)) rfl rfl (zs "int" (by decide)) bt_int (pd_var (i := 0) rfl)) (pd_one (pd_not (pd_isi (T := "bool") .bool rfl (zs "isinstance" (by decide)) rfl rfl (zs "bool" (by decide)) bt_bool (pd_var (i := 0) rfl))))))
theorem der_l_tuples {k : Nat} {c : Cl} (ok : ∀ y ∈ names, Own P w K mg base k (Str.ofString y) (c y)) (oks : ∀ q ∈ snames, OwnS P w K mg base k q.2 (Str.ofString q.1) (c q.1)) (zs : ∀ y ∈ blts, mg (Str.ofString y) = none) {fa : Addr} (cdv : Value) (A : Around) (outer : List PySem.Env) (s : Shared) (H : L2.Hp) (E : L2.XK) (hr : L2.Room k (A.deeper (envOfC "_law_tuples" (L2.defScope sl_tuples) s.heap.objs.size fa cdv))) :
    PDSs (L2.cxOf L2.CX0 P w K mg base nl_tuples "_law_tuples" (L2.defScope sl_tuples) fa cdv A outer s H E).nox (L2.defBody sl_tuples) (b_l_tuples c) := by
  have nd := scl_tuples.nd
  unfold b_l_tuples
  exact pss_cons (ps_set (i := 1) nd rfl (by first | exact .inl rfl | exact .inr rfl) (pd_lst (pa_cons (pd_tup (pa_nil)) (pa_nil)))) (pss_cons (ps_for PassesOwn.never rfl (pi_seq (pd_var (i := 0) rfl)) (pg_name (i := 2) nd rfl (by first | exact .inl rfl | exact .inr rfl)) (pss_cons (ps_set (i := 3) nd rfl (by first | exact .inl rfl | exact .inr rfl) (pd_lst (pa_nil))) (pss_cons (ps_for PassesOwn.never rfl (pi_seq (pd_var (i := 1) rfl)) (pg_name (i := 4) nd rfl (by first | exact .inl rfl | exact .inr rfl)) (pss_one (ps_expr (pd_m mt_extendA real_extendA ty_list PySem.F.plainAttrs_list PySem.F.slot_list_extend PySem.F.type_list_extend (pd_var (i := 3) rfl) (pa_cons (pd_lc (own := [("_law_word_here", 5)]) rfl nd (pi_r1 rfl (zs "range" (by decide)) (pd_shl (pd_int) (pd_var (i := 2) rfl))) (L2.blkOk_by (N := nl_tuples) (sc := L2.defScope sl_tuples) (by decide +kernel)) (fun _ _ _ _ _ => pg_name (i := 5) nd rfl (by first | exact .inl rfl | exact .inr rfl)) (fun _ _ _ _ _ => pts_nil) (fun _ _ _ _ _ => pd_add (pd_var (i := 4) rfl) (pd_tup (pa_cons (pd_var (i := 5) rfl) (pa_nil)))) (by decide)) (pa_nil)))))) (pss_one (ps_set (i := 1) nd rfl (by first | exact .inl rfl | exact .inr rfl) (pd_var (i := 3) rfl)))))) (pss_one (ps_ret (pd_var (i := 1) rfl))))
theorem der_l_word {k : Nat} {c : Cl} (ok : ∀ y ∈ names, Own P w K mg base k (Str.ofString y) (c y)) (oks : ∀ q ∈ snames, OwnS P w K mg base k q.2 (Str.ofString q.1) (c q.1)) (zs : ∀ y ∈ blts, mg (Str.ofString y) = none) {fa : Addr} (cdv : Value) (A : Around) (outer : List PySem.Env) (s : Shared) (H : L2.Hp) (E : L2.XK) (hr : L2.Room k (A.deeper (envOfC "_law_word" (L2.defScope sl_word) s.heap.objs.size fa cdv))) :
    PDSs (L2.cxOf L2.CX0 P w K mg base nl_word "_law_word" (L2.defScope sl_word) fa cdv A outer s H E).nox (L2.defBody sl_word) (b_l_word c) := by
  have nd := scl_word.nd
  unfold b_l_word
  exact pss_cons (ps_par rfl nd rfl rfl (by decide) (L2.ps_par rfl nd rfl rfl (by decide) rfl rfl (pa_cons (pd_ix (fun _ _ => rfl) (pd_var (i := 2) rfl) (pd_int)) (pa_cons (pd_ix (fun _ _ => rfl) (pd_var (i := 2) rfl) (pd_sub (pd_callB L2.call_len real_lenB rfl (zs "len" (by decide)) bt_len (pa_cons (pd_var (i := 2) rfl) (pa_nil))) (pd_int))) (pa_nil))) (by rfl))) (pss_cons (ps_set (i := 5) nd rfl (by first | exact .inl rfl | exact .inr rfl) (pd_sub (pd_shl (pd_int) (pd_var (i := 1) rfl)) (pd_int))) (pss_cons (ps_if (pt_cmp (L2.op_eqD hr.units) real_eq (by rfl) (pd_var (i := 0) rfl) (pd_str)) (pss_one (ps_ret (pd_ix (fun _ _ => rfl) (pd_var (i := 2) rfl) (pd_sub (pd_int) (pd_var (i := 3) rfl))))) (pss_nil)) (pss_cons (ps_if (pt_cmp L2.op_in_seq (real_in false) (by rfl) (pd_var (i := 0) rfl) (pd_tup (pa_cons (pd_str) (pa_cons (pd_str) (pa_cons (pd_str) (pa_nil)))))) (pss_one (ps_ret (pd_and (pd_if (pt_cmp (L2.op_eqD hr.units) real_eq (by rfl) (pd_var (i := 0) rfl) (pd_str)) (pd_var (i := 3) rfl) (pd_sub (pd_neg (pd_var (i := 3) rfl)) (pd_callTy L2.call_int1 real_intB rfl (zs "int" (by decide)) bt_int (pa_cons (pd_cmp (L2.op_eqD hr.units) real_eq (by rfl) (pd_var (i := 0) rfl) (pd_str)) (pa_nil))))) (pd_var (i := 5) rfl)))) (pss_nil)) (pss_cons (ps_if (pt_cmp L2.op_in_seq (real_in false) (by rfl) (pd_var (i := 0) rfl) (pd_tup (pa_cons (pd_str) (pa_cons (pd_str) (pa_cons (pd_str) (pa_nil)))))) (pss_one (ps_ret (pd_and (pd_if (pt_cmp (L2.op_eqD hr.units) real_eq (by rfl) (pd_var (i := 0) rfl) (pd_str)) (pd_add (pd_var (i := 3) rfl) (pd_var (i := 4) rfl)) (pd_if (pt_cmp (L2.op_eqD hr.units) real_eq (by rfl) (pd_var (i := 0) rfl) (pd_str)) (pd_sub (pd_var (i := 3) rfl) (pd_var (i := 4) rfl)) (pd_mul (pd_var (i := 3) rfl) (pd_var (i := 4) rfl)))) (pd_var (i := 5) rfl)))) (pss_nil)) (pss_cons (ps_if (pt_cmp L2.op_in_seq (real_in false) (by rfl) (pd_var (i := 0) rfl) (pd_tup (pa_cons (pd_str) (pa_cons (pd_str) (pa_nil))))) (pss_one (ps_ret (pd_callTy L2.call_int1 real_intB rfl (zs "int" (by decide)) bt_int (pa_cons (pd_cmp (L2.op_eqD hr.units) real_eq (by rfl) (pd_cmp (L2.op_eqD hr.units) real_eq (by rfl) (pd_var (i := 3) rfl) (pd_var (i := 4) rfl)) (pd_cmp (L2.op_eqD hr.units) real_eq (by rfl) (pd_var (i := 0) rfl) (pd_str))) (pa_nil))))) (pss_nil)) (pss_cons (ps_if (pt_cmp L2.op_in_seq (real_in false) (by rfl) (pd_var (i := 0) rfl) (pd_tup (pa_cons (pd_str) (pa_cons (pd_str) (pa_nil))))) (pss_one (ps_ret (pd_callTy L2.call_int1 real_intB rfl (zs "int" (by decide)) bt_int (pa_cons (pd_or' (pd_cmp L2.op_lt real_lt (by rfl) (pd_var (i := 3) rfl) (pd_var (i := 4) rfl)) (pd_one (pd_and' (pd_cmp (L2.op_eqD hr.units) real_eq (by rfl) (pd_var (i := 0) rfl) (pd_str)) (pd_one (pd_cmp (L2.op_eqD hr.units) real_eq (by rfl) (pd_var (i := 3) rfl) (pd_var (i := 4) rfl)))))) (pa_nil))))) (pss_nil)) (pss_cons (ps_if (pt_cmp L2.op_in_seq (real_in false) (by rfl) (pd_var (i := 0) rfl) (pd_tup (pa_cons (pd_str) (pa_cons (pd_str) (pa_cons (pd_str) (pa_nil)))))) (pss_one (ps_ret (pd_if (pt_cmp (L2.op_eqD hr.units) real_eq (by rfl) (pd_var (i := 0) rfl) (pd_str)) (pd_and (pd_var (i := 3) rfl) (pd_var (i := 4) rfl)) (pd_if (pt_cmp (L2.op_eqD hr.units) real_eq (by rfl) (pd_var (i := 0) rfl) (pd_str)) (pd_or (pd_var (i := 3) rfl) (pd_var (i := 4) rfl)) (pd_xor (pd_var (i := 3) rfl) (pd_var (i := 4) rfl)))))) (pss_nil)) (pss_cons (ps_if (pt_cmp L2.op_in_seq (real_in false) (by rfl) (pd_var (i := 0) rfl) (pd_tup (pa_cons (pd_str) (pa_cons (pd_str) (pa_nil))))) (pss_one (ps_ret (pd_if (pt_cmp (L2.op_eqD hr.units) real_eq (by rfl) (pd_var (i := 0) rfl) (pd_str)) (pd_and (pd_shl (pd_var (i := 3) rfl) (pd_callB (L2.call_min2 rfl) real_min2B rfl (zs "min" (by decide)) bt_min (pa_cons (pd_var (i := 4) rfl) (pa_cons (pd_int) (pa_nil))))) (pd_var (i := 5) rfl)) (pd_shr (pd_var (i := 3) rfl) (pd_callB (L2.call_min2 rfl) real_min2B rfl (zs "min" (by decide)) bt_min (pa_cons (pd_var (i := 4) rfl) (pa_cons (pd_int) (pa_nil)))))))) (pss_nil)) (pss_cons (ps_if (pt_cmp (L2.op_eqD hr.units) real_eq (by rfl) (pd_var (i := 4) rfl) (pd_int)) (pss_one (ps_ret (pd_int))) (pss_nil)) (pss_one (ps_ret (pd_if (pt_cmp (L2.op_eqD hr.units) real_eq (by rfl) (pd_var (i := 0) rfl) (pd_str)) (pd_fdiv (pd_var (i := 3) rfl) (pd_var (i := 4) rfl)) (pd_sub (pd_var (i := 3) rfl) (pd_mul (pd_fdiv (pd_var (i := 3) rfl) (pd_var (i := 4) rfl)) (pd_var (i := 4) rfl)))))))))))))))
theorem der_l_values {k : Nat} {c : Cl} (ok : ∀ y ∈ names, Own P w K mg base k (Str.ofString y) (c y)) (oks : ∀ q ∈ snames, OwnS P w K mg base k q.2 (Str.ofString q.1) (c q.1)) (zs : ∀ y ∈ blts, mg (Str.ofString y) = none) {fa : Addr} (cdv : Value) (A : Around) (outer : List PySem.Env) (s : Shared) (H : L2.Hp) (E : L2.XK) (hr : L2.Room k (A.deeper (envOfC "_law_values" (L2.defScope sl_values) s.heap.objs.size fa cdv))) :
    PDSs (L2.cxOf L2.CX0 P w K mg base nl_values "_law_values" (L2.defScope sl_values) fa cdv A outer s H E).nox (L2.defBody sl_values) (b_l_values c) := by
  have nd := scl_values.nd
  unfold b_l_values
  exact pss_cons (ps_set (i := 2) nd rfl (by first | exact .inl rfl | exact .inr rfl) (pd_lst (pa_nil))) (pss_cons (ps_for PassesOwn.never rfl (pi_seq (pd_var (i := 0) rfl)) (pg_name (i := 3) nd rfl (by first | exact .inl rfl | exact .inr rfl)) (pss_one (ps_if (pt_cmp (L2.op_eqD hr.units) real_eq (by rfl) (pd_ix (fun _ _ => rfl) (pd_var (i := 3) rfl) (pd_int)) (pd_str)) (pss_one (ps_expr (pd_m L2.mt_append real_append ty_list PySem.F.plainAttrs_list PySem.F.slot_list_append PySem.F.type_list_append (pd_var (i := 2) rfl) (pa_cons (pd_ix (fun _ _ => rfl) (pd_var (i := 3) rfl) (pd_int)) (pa_nil))))) (pss_one (ps_if (pt_cmp (L2.op_eqD hr.units) real_eq (by rfl) (pd_ix (fun _ _ => rfl) (pd_var (i := 3) rfl) (pd_int)) (pd_str)) (pss_cons (ps_set (i := 4) nd rfl (by first | exact .inl rfl | exact .inr rfl) (pd_if (pt_cmp L2.op_lt real_lt (by rfl) (pd_ix (fun _ _ => rfl) (pd_var (i := 3) rfl) (pd_int)) (pd_callB L2.call_len real_lenB rfl (zs "len" (by decide)) bt_len (pa_cons (pd_var (i := 1) rfl) (pa_nil)))) (pd_ix (fun _ _ => rfl) (pd_var (i := 1) rfl) (pd_ix (fun _ _ => rfl) (pd_var (i := 3) rfl) (pd_int))) (pd_int))) (pss_one (ps_expr (pd_m L2.mt_append real_append ty_list PySem.F.plainAttrs_list PySem.F.slot_list_append PySem.F.type_list_append (pd_var (i := 2) rfl) (pa_cons (pd_and (pd_var (i := 4) rfl) (pd_sub (pd_shl (pd_int) (pd_ix (fun _ _ => rfl) (pd_var (i := 3) rfl) (pd_int))) (pd_int))) (pa_nil)))))) (pss_one (ps_expr (pd_m L2.mt_append real_append ty_list PySem.F.plainAttrs_list PySem.F.slot_list_append PySem.F.type_list_append (pd_var (i := 2) rfl) (pa_cons (pd_call (y := "_law_word") (ok "_law_word" (by decide)) hr rfl (pa_cons (pd_ix (fun _ _ => rfl) (pd_var (i := 3) rfl) (pd_int)) (pa_cons (pd_ix (fun _ _ => rfl) (pd_var (i := 3) rfl) (pd_int)) (pa_cons (pd_lc (own := [("_law_part", 5)]) rfl nd (pi_seq (pd_sl (pd_var (i := 3) rfl) (po_some (pd_int)) (po_none))) (L2.blkOk_by (N := nl_values) (sc := L2.defScope sl_values) (by decide +kernel)) (fun _ _ _ _ _ => pg_name (i := 5) nd rfl (by first | exact .inl rfl | exact .inr rfl)) (fun _ _ _ _ _ => pts_nil) (fun _ _ _ _ _ => pd_ix (fun _ _ => rfl) (pd_var (i := 2) rfl) (pd_var (i := 5) rfl)) (by decide)) (pa_nil))))) (pa_nil)))))))))) (pss_one (ps_ret (pd_var (i := 2) rfl))))
theorem der_l_place {k : Nat} {c : Cl} (ok : ∀ y ∈ names, Own P w K mg base k (Str.ofString y) (c y)) (oks : ∀ q ∈ snames, OwnS P w K mg base k q.2 (Str.ofString q.1) (c q.1)) (zs : ∀ y ∈ blts, mg (Str.ofString y) = none) {fa : Addr} (cdv : Value) (A : Around) (outer : List PySem.Env) (s : Shared) (H : L2.Hp) (E : L2.XK) (hr : L2.Room k (A.deeper (envOfC "_law_place" (L2.defScope sl_place) s.heap.objs.size fa cdv))) :
    PDSs (L2.cxOf L2.CX0 P w K mg base nl_place "_law_place" (L2.defScope sl_place) fa cdv A outer s H E).nox (L2.defBody sl_place) (b_l_place c) := by
  have nd := scl_place.nd
  unfold b_l_place
  exact pss_cons (ps_if (pt_cmp (op_notinD hr.units) (real_inD true) (by rfl) (pd_var (i := 1) rfl) (pd_var (i := 0) rfl)) (pss_one (ps_expr (pd_m L2.mt_append real_append ty_list PySem.F.plainAttrs_list PySem.F.slot_list_append PySem.F.type_list_append (pd_var (i := 0) rfl) (pa_cons (pd_var (i := 1) rfl) (pa_nil))))) (pss_nil)) (pss_one (ps_ret (pd_m (mt_indexD hr.units) real_indexD ty_list PySem.F.plainAttrs_list PySem.F.slot_list_index PySem.F.type_list_index (pd_var (i := 0) rfl) (pa_cons (pd_var (i := 1) rfl) (pa_nil)))))
theorem der_l_sum_of {k : Nat} {c : Cl} (ok : ∀ y ∈ names, Own P w K mg base k (Str.ofString y) (c y)) (oks : ∀ q ∈ snames, OwnS P w K mg base k q.2 (Str.ofString q.1) (c q.1)) (zs : ∀ y ∈ blts, mg (Str.ofString y) = none) {fa : Addr} (cdv : Value) (A : Around) (outer : List PySem.Env) (s : Shared) (H : L2.Hp) (E : L2.XK) (hr : L2.Room k (A.deeper (envOfC "_law_sum_of" (L2.defScope sl_sum_of) s.heap.objs.size fa cdv))) :
    PDSs (L2.cxOf L2.CX0 P w K mg base nl_sum_of "_law_sum_of" (L2.defScope sl_sum_of) fa cdv A outer s H E).nox (L2.defBody sl_sum_of) (b_l_sum_of c) := by
  have nd := scl_sum_of.nd
  unfold b_l_sum_of
  exact pss_cons (ps_set (i := 2) nd rfl (by first | exact .inl rfl | exact .inr rfl) (pd_ix (fun _ _ => rfl) (pd_var (i := 0) rfl) (pd_var (i := 1) rfl))) (pss_cons (ps_if (ptw (pw_and (pt_cmp (L2.op_eqD hr.units) real_eq (by rfl) (pd_ix (fun _ _ => rfl) (pd_var (i := 2) rfl) (pd_int)) (pd_str)) (pw_and1 (pt_cmp (L2.op_eqD hr.units) real_eq (by rfl) (pd_ix (fun _ _ => rfl) (pd_ix (fun _ _ => rfl) (pd_var (i := 0) rfl) (pd_ix (fun _ _ => rfl) (pd_var (i := 2) rfl) (pd_int))) (pd_int)) (pd_str))))) (pss_one (ps_ret (pd_tup (pa_cons (pd_ix (fun _ _ => rfl) (pd_var (i := 2) rfl) (pd_int)) (pa_cons (pd_ix (fun _ _ => rfl) (pd_ix (fun _ _ => rfl) (pd_var (i := 0) rfl) (pd_ix (fun _ _ => rfl) (pd_var (i := 2) rfl) (pd_int))) (pd_int)) (pa_nil)))))) (pss_nil)) (pss_one (ps_ret (pd_tup (pa_cons (pd_var (i := 1) rfl) (pa_cons (pd_int) (pa_nil)))))))
theorem der_l_make {k : Nat} {c : Cl} (ok : ∀ y ∈ names, Own P w K mg base k (Str.ofString y) (c y)) (oks : ∀ q ∈ snames, OwnS P w K mg base k q.2 (Str.ofString q.1) (c q.1)) (zs : ∀ y ∈ blts, mg (Str.ofString y) = none) {fa : Addr} (cdv : Value) (A : Around) (outer : List PySem.Env) (s : Shared) (H : L2.Hp) (E : L2.XK) (hr : L2.Room k (A.deeper (envOfC "_law_make" (L2.defScope sl_make) s.heap.objs.size fa cdv))) :
    PDSs (L2.cxOf L2.CX0 P w K mg base nl_make "_law_make" (L2.defScope sl_make) fa cdv A outer s H E).nox (L2.defBody sl_make) (b_l_make c) := by
  have nd := scl_make.nd
  unfold b_l_make
  exact pss_cons (ps_setLc (j := 4) (own := [("_law_term_here", 7)]) rfl nd rfl rfl (L2.sw_true rfl rfl rfl (by decide +kernel)) (pi_seq (pd_var (i := 3) rfl)) (L2.blkOk_by (N := nl_make) (sc := L2.defScope sl_make) (by decide +kernel)) (fun _ _ _ _ _ => pg_name (i := 7) nd rfl (by first | exact .inl rfl | exact .inr rfl)) (fun _ _ _ _ _ => pts_nil) (fun _ _ _ _ _ => pd_ix (fun _ _ => rfl) (pd_var (i := 0) rfl) (pd_var (i := 7) rfl)) (by decide)) (pss_cons (ps_if (pt_tru (pd_callB (cr_allF rfl) real_allB rfl (zs "all" (by decide)) bt_all (pa_cons (pd_lc (own := [("_law_node", 8)]) rfl nd (pi_seq (pd_var (i := 4) rfl)) (L2.blkOk_by (N := nl_make) (sc := L2.defScope sl_make) (by decide +kernel)) (fun _ _ _ _ _ => pg_name (i := 8) nd rfl (by first | exact .inl rfl | exact .inr rfl)) (fun _ _ _ _ _ => pts_nil) (fun _ _ _ _ _ => pd_cmp (L2.op_eqD hr.units) real_eq (by rfl) (pd_ix (fun _ _ => rfl) (pd_var (i := 8) rfl) (pd_int)) (pd_str)) (by decide)) (pa_nil)))) (pss_one (ps_ret (pd_call (y := "_law_place") (ok "_law_place" (by decide)) hr rfl (pa_cons (pd_var (i := 0) rfl) (pa_cons (pd_tup (pa_cons (pd_str) (pa_cons (pd_var (i := 2) rfl) (pa_cons (pd_call (y := "_law_word") (ok "_law_word" (by decide)) hr rfl (pa_cons (pd_var (i := 1) rfl) (pa_cons (pd_var (i := 2) rfl) (pa_cons (pd_lc (own := [("_law_node", 8)]) rfl nd (pi_seq (pd_var (i := 4) rfl)) (L2.blkOk_by (N := nl_make) (sc := L2.defScope sl_make) (by decide +kernel)) (fun _ _ _ _ _ => pg_name (i := 8) nd rfl (by first | exact .inl rfl | exact .inr rfl)) (fun _ _ _ _ _ => pts_nil) (fun _ _ _ _ _ => pd_ix (fun _ _ => rfl) (pd_var (i := 8) rfl) (pd_int)) (by decide)) (pa_nil))))) (pa_nil))))) (pa_nil)))))) (pss_nil)) (pss_cons (ps_if (pt_cmp (L2.op_eqD hr.units) real_eq (by rfl) (pd_var (i := 1) rfl) (pd_str)) (pss_one (ps_ret (pd_call (y := "_law_make") (ok "_law_make" (by decide)) hr rfl (pa_cons (pd_var (i := 0) rfl) (pa_cons (pd_str) (pa_cons (pd_int) (pa_cons (pd_lst (pa_cons (pd_call (y := "_law_make") (ok "_law_make" (by decide)) hr rfl (pa_cons (pd_var (i := 0) rfl) (pa_cons (pd_str) (pa_cons (pd_int) (pa_cons (pd_var (i := 3) rfl) (pa_nil)))))) (pa_nil))) (pa_nil)))))))) (pss_nil)) (pss_cons (ps_if (ptw (pw_and (pt_cmp L2.op_in_seq (real_in false) (by rfl) (pd_var (i := 1) rfl) (pd_tup (pa_cons (pd_str) (pa_cons (pd_str) (pa_cons (pd_str) (pa_cons (pd_str) (pa_cons (pd_str) (pa_cons (pd_str) (pa_nil))))))))) (pw_and1 (pt_cmp (L2.op_eqD hr.units) real_eq (by rfl) (pd_ix (fun _ _ => rfl) (pd_ix (fun _ _ => rfl) (pd_var (i := 4) rfl) (pd_int)) (pd_int)) (pd_str))))) (pss_one (ps_ret (pd_call (y := "_law_make") (ok "_law_make" (by decide)) hr rfl (pa_cons (pd_var (i := 0) rfl) (pa_cons (pd_var (i := 1) rfl) (pa_cons (pd_var (i := 2) rfl) (pa_cons (pd_lst (pa_cons (pd_ix (fun _ _ => rfl) (pd_var (i := 3) rfl) (pd_int)) (pa_cons (pd_ix (fun _ _ => rfl) (pd_var (i := 3) rfl) (pd_int)) (pa_nil)))) (pa_nil)))))))) (pss_nil)) (pss_cons (ps_if (ptw (pw_and (pt_cmp (L2.op_eqD hr.units) real_eq (by rfl) (pd_var (i := 1) rfl) (pd_str)) (pw_and1 (pt_cmp (L2.op_eqD hr.units) real_eq (by rfl) (pd_ix (fun _ _ => rfl) (pd_ix (fun _ _ => rfl) (pd_var (i := 4) rfl) (pd_int)) (pd_int)) (pd_str))))) (pss_cons (ps_set (i := 5) nd rfl (by first | exact .inl rfl | exact .inr rfl) (pd_call (y := "_law_place") (ok "_law_place" (by decide)) hr rfl (pa_cons (pd_var (i := 0) rfl) (pa_cons (pd_tup (pa_cons (pd_str) (pa_cons (pd_var (i := 2) rfl) (pa_cons (pd_and (pd_neg (pd_ix (fun _ _ => rfl) (pd_ix (fun _ _ => rfl) (pd_var (i := 4) rfl) (pd_int)) (pd_int))) (pd_sub (pd_shl (pd_int) (pd_var (i := 2) rfl)) (pd_int))) (pa_nil))))) (pa_nil))))) (pss_one (ps_ret (pd_call (y := "_law_make") (ok "_law_make" (by decide)) hr rfl (pa_cons (pd_var (i := 0) rfl) (pa_cons (pd_str) (pa_cons (pd_var (i := 2) rfl) (pa_cons (pd_lst (pa_cons (pd_ix (fun _ _ => rfl) (pd_var (i := 3) rfl) (pd_int)) (pa_cons (pd_var (i := 5) rfl) (pa_nil)))) (pa_nil))))))))) (pss_nil)) (pss_cons (ps_if (ptw (pw_and (pt_cmp L2.op_in_seq (real_in false) (by rfl) (pd_var (i := 1) rfl) (pd_tup (pa_cons (pd_str) (pa_cons (pd_str) (pa_nil))))) (pw_and1 (pt_cmp (L2.op_eqD hr.units) real_eq (by rfl) (pd_ix (fun _ _ => rfl) (pd_ix (fun _ _ => rfl) (pd_var (i := 4) rfl) (pd_int)) (pd_int)) (pd_var (i := 1) rfl))))) (pss_one (ps_ret (pd_ix (fun _ _ => rfl) (pd_ix (fun _ _ => rfl) (pd_var (i := 4) rfl) (pd_int)) (pd_int)))) (pss_nil)) (pss_cons (ps_if (ptw (pw_and (pt_cmp (L2.op_eqD hr.units) real_eq (by rfl) (pd_var (i := 1) rfl) (pd_str)) (pw_and1 (pt_cmp (L2.op_eqD hr.units) real_eq (by rfl) (pd_ix (fun _ _ => rfl) (pd_ix (fun _ _ => rfl) (pd_var (i := 4) rfl) (pd_int)) (pd_int)) (pd_var (i := 2) rfl))))) (pss_one (ps_ret (pd_ix (fun _ _ => rfl) (pd_var (i := 3) rfl) (pd_int)))) (pss_nil)) (pss_cons (ps_if (ptw (pw_and (pt_cmp (L2.op_eqD hr.units) real_eq (by rfl) (pd_var (i := 1) rfl) (pd_str)) (pw_and1 (pt_cmp (L2.op_eqD hr.units) real_eq (by rfl) (pd_ix (fun _ _ => rfl) (pd_ix (fun _ _ => rfl) (pd_var (i := 4) rfl) (pd_int)) (pd_int)) (pd_str))))) (pss_one (ps_ret (pd_ix (fun _ _ => rfl) (pd_var (i := 3) rfl) (pd_sub (pd_int) (pd_ix (fun _ _ => rfl) (pd_ix (fun _ _ => rfl) (pd_var (i := 4) rfl) (pd_int)) (pd_int)))))) (pss_nil)) (pss_cons (ps_if (ptw (pw_and (pt_cmp (L2.op_eqD hr.units) real_eq (by rfl) (pd_var (i := 1) rfl) (pd_str)) (pw_and1 (pt_cmp (L2.op_eqD hr.units) real_eq (by rfl) (pd_ix (fun _ _ => rfl) (pd_var (i := 3) rfl) (pd_int)) (pd_ix (fun _ _ => rfl) (pd_var (i := 3) rfl) (pd_int)))))) (pss_one (ps_ret (pd_ix (fun _ _ => rfl) (pd_var (i := 3) rfl) (pd_int)))) (pss_nil)) (pss_cons (ps_set (i := 6) nd rfl (by first | exact .inl rfl | exact .inr rfl) (pd_non)) (pss_cons (ps_if (ptw (pw_and (pt_cmp (L2.op_eqD hr.units) real_eq (by rfl) (pd_callB L2.call_len real_lenB rfl (zs "len" (by decide)) bt_len (pa_cons (pd_var (i := 3) rfl) (pa_nil))) (pd_int)) (pw_and1 (pt_cmp (L2.op_eqD hr.units) real_eq (by rfl) (pd_ix (fun _ _ => rfl) (pd_ix (fun _ _ => rfl) (pd_var (i := 4) rfl) (pd_int)) (pd_int)) (pd_str))))) (pss_one (ps_set (i := 6) nd rfl (by first | exact .inl rfl | exact .inr rfl) (pd_call (y := "_law_make_word") (ok "_law_make_word" (by decide)) hr rfl (pa_cons (pd_var (i := 0) rfl) (pa_cons (pd_var (i := 1) rfl) (pa_cons (pd_var (i := 2) rfl) (pa_cons (pd_var (i := 3) rfl) (pa_cons (pd_ix (fun _ _ => rfl) (pd_ix (fun _ _ => rfl) (pd_var (i := 4) rfl) (pd_int)) (pd_int)) (pa_nil))))))))) (pss_one (ps_if (pt_cmp (L2.op_eqD hr.units) real_eq (by rfl) (pd_callB L2.call_len real_lenB rfl (zs "len" (by decide)) bt_len (pa_cons (pd_var (i := 3) rfl) (pa_nil))) (pd_int)) (pss_one (ps_set (i := 6) nd rfl (by first | exact .inl rfl | exact .inr rfl) (pd_call (y := "_law_make_same") (ok "_law_make_same" (by decide)) hr rfl (pa_cons (pd_var (i := 0) rfl) (pa_cons (pd_var (i := 1) rfl) (pa_cons (pd_var (i := 2) rfl) (pa_cons (pd_var (i := 3) rfl) (pa_nil)))))))) (pss_nil)))) (pss_cons (ps_if (pt_cmp L2.op_isN real_is (by rfl) (pd_var (i := 6) rfl) (pd_non)) (pss_one (ps_ret (pd_call (y := "_law_place") (ok "_law_place" (by decide)) hr rfl (pa_cons (pd_var (i := 0) rfl) (pa_cons (pd_add (pd_tup (pa_cons (pd_var (i := 1) rfl) (pa_cons (pd_var (i := 2) rfl) (pa_nil)))) (pd_callTy L2.call_tuple_of real_tupleB rfl (zs "tuple" (by decide)) bt_tuple (pa_cons (pd_var (i := 3) rfl) (pa_nil)))) (pa_nil)))))) (pss_nil)) (pss_one (ps_ret (pd_var (i := 6) rfl))))))))))))))
theorem der_l_make_word {k : Nat} {c : Cl} (ok : ∀ y ∈ names, Own P w K mg base k (Str.ofString y) (c y)) (oks : ∀ q ∈ snames, OwnS P w K mg base k q.2 (Str.ofString q.1) (c q.1)) (zs : ∀ y ∈ blts, mg (Str.ofString y) = none) {fa : Addr} (cdv : Value) (A : Around) (outer : List PySem.Env) (s : Shared) (H : L2.Hp) (E : L2.XK) (hr : L2.Room k (A.deeper (envOfC "_law_make_word" (L2.defScope sl_make_word) s.heap.objs.size fa cdv))) :
    PDSs (L2.cxOf L2.CX0 P w K mg base nl_make_word "_law_make_word" (L2.defScope sl_make_word) fa cdv A outer s H E).nox (L2.defBody sl_make_word) (b_l_make_word c) := by
  have nd := scl_make_word.nd
  unfold b_l_make_word
  exact pss_cons (ps_set (i := 5) nd rfl (by first | exact .inl rfl | exact .inr rfl) (pd_ix (fun _ _ => rfl) (pd_var (i := 3) rfl) (pd_int))) (pss_cons (ps_set (i := 6) nd rfl (by first | exact .inl rfl | exact .inr rfl) (pd_ix (fun _ _ => rfl) (pd_ix (fun _ _ => rfl) (pd_var (i := 0) rfl) (pd_var (i := 5) rfl)) (pd_int))) (pss_cons (ps_set (i := 7) nd rfl (by first | exact .inl rfl | exact .inr rfl) (pd_sub (pd_shl (pd_int) (pd_var (i := 6) rfl)) (pd_int))) (pss_cons (ps_asg (pd_call (y := "_law_sum_of") (ok "_law_sum_of" (by decide)) hr rfl (pa_cons (pd_var (i := 0) rfl) (pa_cons (pd_var (i := 5) rfl) (pa_nil)))) (pg_tup rfl (pgs_cons (pg_name (i := 8) nd rfl (by first | exact .inl rfl | exact .inr rfl)) (pgs_cons (pg_name (i := 9) nd rfl (by first | exact .inl rfl | exact .inr rfl)) (pgs_nil))))) (pss_cons (ps_if (ptw (pw_or (ptw (pw_and (pt_cmp (L2.op_eqD hr.units) real_eq (by rfl) (pd_var (i := 1) rfl) (pd_str)) (pw_and1 (pt_cmp (L2.op_eqD hr.units) real_eq (by rfl) (pd_var (i := 4) rfl) (pd_int))))) (pw_or1 (ptw (pw_and (pt_cmp L2.op_in_seq (real_in false) (by rfl) (pd_var (i := 1) rfl) (pd_tup (pa_cons (pd_str) (pa_cons (pd_str) (pa_cons (pd_str) (pa_cons (pd_str) (pa_nil))))))) (pw_and1 (pt_cmp (L2.op_eqD hr.units) real_eq (by rfl) (pd_var (i := 4) rfl) (pd_int)))))))) (pss_one (ps_ret (pd_var (i := 5) rfl))) (pss_nil)) (pss_cons (ps_if (ptw (pw_and (pt_cmp (L2.op_eqD hr.units) real_eq (by rfl) (pd_var (i := 1) rfl) (pd_str)) (pw_and1 (pt_cmp (L2.op_neD hr.units) real_ne (by rfl) (pd_var (i := 8) rfl) (pd_var (i := 5) rfl))))) (pss_cons (ps_set (i := 10) nd rfl (by first | exact .inl rfl | exact .inr rfl) (pd_call (y := "_law_place") (ok "_law_place" (by decide)) hr rfl (pa_cons (pd_var (i := 0) rfl) (pa_cons (pd_tup (pa_cons (pd_str) (pa_cons (pd_var (i := 2) rfl) (pa_cons (pd_and (pd_add (pd_var (i := 9) rfl) (pd_var (i := 4) rfl)) (pd_var (i := 7) rfl)) (pa_nil))))) (pa_nil))))) (pss_one (ps_ret (pd_call (y := "_law_make") (ok "_law_make" (by decide)) hr rfl (pa_cons (pd_var (i := 0) rfl) (pa_cons (pd_str) (pa_cons (pd_var (i := 2) rfl) (pa_cons (pd_lst (pa_cons (pd_var (i := 8) rfl) (pa_cons (pd_var (i := 10) rfl) (pa_nil)))) (pa_nil))))))))) (pss_nil)) (pss_cons (ps_if (ptw (pw_or (ptw (pw_and (pt_cmp L2.op_in_seq (real_in false) (by rfl) (pd_var (i := 1) rfl) (pd_tup (pa_cons (pd_str) (pa_cons (pd_str) (pa_cons (pd_str) (pa_cons (pd_str) (pa_cons (pd_str) (pa_nil)))))))) (pw_and1 (pt_cmp (L2.op_eqD hr.units) real_eq (by rfl) (pd_var (i := 4) rfl) (pd_int))))) (pw_or1 (ptw (pw_and (pt_cmp (L2.op_eqD hr.units) real_eq (by rfl) (pd_var (i := 1) rfl) (pd_str)) (pw_and1 (pt_cmp (L2.op_eqD hr.units) real_eq (by rfl) (pd_var (i := 4) rfl) (pd_int)))))))) (pss_one (ps_ret (pd_call (y := "_law_place") (ok "_law_place" (by decide)) hr rfl (pa_cons (pd_var (i := 0) rfl) (pa_cons (pd_tup (pa_cons (pd_str) (pa_cons (pd_var (i := 2) rfl) (pa_cons (pd_int) (pa_nil))))) (pa_nil)))))) (pss_nil)) (pss_cons (ps_if (ptw (pw_or (ptw (pw_and (pt_cmp L2.op_in_seq (real_in false) (by rfl) (pd_var (i := 1) rfl) (pd_tup (pa_cons (pd_str) (pa_cons (pd_str) (pa_nil))))) (pw_and1 (pt_cmp (L2.op_eqD hr.units) real_eq (by rfl) (pd_var (i := 4) rfl) (pd_int))))) (pw_or1 (ptw (pw_and (pt_cmp (L2.op_eqD hr.units) real_eq (by rfl) (pd_var (i := 1) rfl) (pd_str)) (pw_and1 (pt_cmp (L2.op_eqD hr.units) real_eq (by rfl) (pd_var (i := 4) rfl) (pd_var (i := 7) rfl)))))))) (pss_one (ps_ret (pd_var (i := 5) rfl))) (pss_nil)) (pss_cons (ps_if (ptw (pw_and (pt_cmp (L2.op_eqD hr.units) real_eq (by rfl) (pd_var (i := 1) rfl) (pd_str)) (pw_and1 (pt_cmp (L2.op_eqD hr.units) real_eq (by rfl) (pd_var (i := 4) rfl) (pd_var (i := 7) rfl))))) (pss_one (ps_ret (pd_ix (fun _ _ => rfl) (pd_var (i := 3) rfl) (pd_int)))) (pss_nil)) (pss_cons (ps_if (ptw (pw_and (pt_cmp L2.op_in_seq (real_in false) (by rfl) (pd_var (i := 1) rfl) (pd_tup (pa_cons (pd_str) (pa_cons (pd_str) (pa_nil))))) (pw_and1 (pt_cmp L2.op_ge real_ge (by rfl) (pd_var (i := 4) rfl) (pd_var (i := 2) rfl))))) (pss_one (ps_ret (pd_call (y := "_law_place") (ok "_law_place" (by decide)) hr rfl (pa_cons (pd_var (i := 0) rfl) (pa_cons (pd_tup (pa_cons (pd_str) (pa_cons (pd_var (i := 2) rfl) (pa_cons (pd_int) (pa_nil))))) (pa_nil)))))) (pss_nil)) (pss_cons (ps_if (ptw (pw_and (pt_cmp (L2.op_eqD hr.units) real_eq (by rfl) (pd_var (i := 1) rfl) (pd_str)) (pw_and1 (pt_cmp (L2.op_eqD hr.units) real_eq (by rfl) (pd_var (i := 4) rfl) (pd_var (i := 7) rfl))))) (pss_one (ps_ret (pd_call (y := "_law_place") (ok "_law_place" (by decide)) hr rfl (pa_cons (pd_var (i := 0) rfl) (pa_cons (pd_tup (pa_cons (pd_str) (pa_cons (pd_int) (pa_cons (pd_int) (pa_nil))))) (pa_nil)))))) (pss_nil)) (pss_cons (ps_if (ptw (pw_and (pt_cmp (L2.op_eqD hr.units) real_eq (by rfl) (pd_var (i := 1) rfl) (pd_str)) (pw_and1 (pt_cmp (L2.op_eqD hr.units) real_eq (by rfl) (pd_var (i := 6) rfl) (pd_int))))) (pss_one (ps_ret (pd_if (pt_cmp (L2.op_eqD hr.units) real_eq (by rfl) (pd_var (i := 4) rfl) (pd_int)) (pd_var (i := 5) rfl) (pd_call (y := "_law_make") (ok "_law_make" (by decide)) hr rfl (pa_cons (pd_var (i := 0) rfl) (pa_cons (pd_str) (pa_cons (pd_int) (pa_cons (pd_lst (pa_cons (pd_var (i := 5) rfl) (pa_nil))) (pa_nil))))))))) (pss_nil)) (pss_cons (ps_if (ptw (pw_and (pt_cmp (L2.op_eqD hr.units) real_eq (by rfl) (pd_var (i := 1) rfl) (pd_str)) (pw_and1 (pt_cmp (L2.op_neD hr.units) real_ne (by rfl) (pd_var (i := 8) rfl) (pd_var (i := 5) rfl))))) (pss_cons (ps_set (i := 10) nd rfl (by first | exact .inl rfl | exact .inr rfl) (pd_call (y := "_law_place") (ok "_law_place" (by decide)) hr rfl (pa_cons (pd_var (i := 0) rfl) (pa_cons (pd_tup (pa_cons (pd_str) (pa_cons (pd_var (i := 6) rfl) (pa_cons (pd_and (pd_sub (pd_var (i := 4) rfl) (pd_var (i := 9) rfl)) (pd_var (i := 7) rfl)) (pa_nil))))) (pa_nil))))) (pss_one (ps_ret (pd_call (y := "_law_make") (ok "_law_make" (by decide)) hr rfl (pa_cons (pd_var (i := 0) rfl) (pa_cons (pd_str) (pa_cons (pd_int) (pa_cons (pd_lst (pa_cons (pd_var (i := 8) rfl) (pa_cons (pd_var (i := 10) rfl) (pa_nil)))) (pa_nil))))))))) (pss_nil)) (pss_one (ps_ret (pd_non)))))))))))))))
theorem der_l_make_same {k : Nat} {c : Cl} (ok : ∀ y ∈ names, Own P w K mg base k (Str.ofString y) (c y)) (oks : ∀ q ∈ snames, OwnS P w K mg base k q.2 (Str.ofString q.1) (c q.1)) (zs : ∀ y ∈ blts, mg (Str.ofString y) = none) {fa : Addr} (cdv : Value) (A : Around) (outer : List PySem.Env) (s : Shared) (H : L2.Hp) (E : L2.XK) (hr : L2.Room k (A.deeper (envOfC "_law_make_same" (L2.defScope sl_make_same) s.heap.objs.size fa cdv))) :
    PDSs (L2.cxOf L2.CX0 P w K mg base nl_make_same "_law_make_same" (L2.defScope sl_make_same) fa cdv A outer s H E).nox (L2.defBody sl_make_same) (b_l_make_same c) := by
  have nd := scl_make_same.nd
  unfold b_l_make_same
  exact pss_cons (ps_if (pt_cmp (L2.op_eqD hr.units) real_eq (by rfl) (pd_ix (fun _ _ => rfl) (pd_var (i := 3) rfl) (pd_int)) (pd_ix (fun _ _ => rfl) (pd_var (i := 3) rfl) (pd_int))) (pss_cons (ps_if (pt_cmp L2.op_in_seq (real_in false) (by rfl) (pd_var (i := 1) rfl) (pd_tup (pa_cons (pd_str) (pa_cons (pd_str) (pa_cons (pd_str) (pa_nil)))))) (pss_one (ps_ret (pd_call (y := "_law_place") (ok "_law_place" (by decide)) hr rfl (pa_cons (pd_var (i := 0) rfl) (pa_cons (pd_tup (pa_cons (pd_str) (pa_cons (pd_var (i := 2) rfl) (pa_cons (pd_int) (pa_nil))))) (pa_nil)))))) (pss_nil)) (pss_cons (ps_if (pt_cmp L2.op_in_seq (real_in false) (by rfl) (pd_var (i := 1) rfl) (pd_tup (pa_cons (pd_str) (pa_cons (pd_str) (pa_nil))))) (pss_one (ps_ret (pd_call (y := "_law_place") (ok "_law_place" (by decide)) hr rfl (pa_cons (pd_var (i := 0) rfl) (pa_cons (pd_tup (pa_cons (pd_str) (pa_cons (pd_int) (pa_cons (pd_int) (pa_nil))))) (pa_nil)))))) (pss_nil)) (pss_one (ps_ret (pd_if (pt_cmp L2.op_in_seq (real_in false) (by rfl) (pd_var (i := 1) rfl) (pd_tup (pa_cons (pd_str) (pa_cons (pd_str) (pa_nil))))) (pd_ix (fun _ _ => rfl) (pd_var (i := 3) rfl) (pd_int)) (pd_non)))))) (pss_nil)) (pss_cons (ps_par rfl nd rfl rfl (by decide) (L2.ps_par rfl nd rfl rfl (by decide) rfl rfl (pa_cons (pd_call (y := "_law_sum_of") (ok "_law_sum_of" (by decide)) hr rfl (pa_cons (pd_var (i := 0) rfl) (pa_cons (pd_ix (fun _ _ => rfl) (pd_var (i := 3) rfl) (pd_int)) (pa_nil)))) (pa_cons (pd_call (y := "_law_sum_of") (ok "_law_sum_of" (by decide)) hr rfl (pa_cons (pd_var (i := 0) rfl) (pa_cons (pd_ix (fun _ _ => rfl) (pd_var (i := 3) rfl) (pd_int)) (pa_nil)))) (pa_nil))) (by rfl))) (pss_cons (ps_if (ptw (pw_or (pt_cmp L2.op_notIn_seq (real_in true) (by rfl) (pd_var (i := 1) rfl) (pd_tup (pa_cons (pd_str) (pa_cons (pd_str) (pa_nil))))) (pw_or1 (pt_cmp (L2.op_neD hr.units) real_ne (by rfl) (pd_ix (fun _ _ => rfl) (pd_var (i := 4) rfl) (pd_int)) (pd_ix (fun _ _ => rfl) (pd_var (i := 5) rfl) (pd_int)))))) (pss_one (ps_ret (pd_non))) (pss_nil)) (pss_cons (ps_if (pt_cmp (L2.op_eqD hr.units) real_eq (by rfl) (pd_var (i := 1) rfl) (pd_str)) (pss_one (ps_ret (pd_call (y := "_law_place") (ok "_law_place" (by decide)) hr rfl (pa_cons (pd_var (i := 0) rfl) (pa_cons (pd_tup (pa_cons (pd_str) (pa_cons (pd_int) (pa_cons (pd_callTy L2.call_int1 real_intB rfl (zs "int" (by decide)) bt_int (pa_cons (pd_cmp (L2.op_eqD hr.units) real_eq (by rfl) (pd_ix (fun _ _ => rfl) (pd_var (i := 4) rfl) (pd_int)) (pd_ix (fun _ _ => rfl) (pd_var (i := 5) rfl) (pd_int))) (pa_nil))) (pa_nil))))) (pa_nil)))))) (pss_nil)) (pss_one (ps_ret (pd_call (y := "_law_place") (ok "_law_place" (by decide)) hr rfl (pa_cons (pd_var (i := 0) rfl) (pa_cons (pd_tup (pa_cons (pd_str) (pa_cons (pd_var (i := 2) rfl) (pa_cons (pd_and (pd_sub (pd_ix (fun _ _ => rfl) (pd_var (i := 4) rfl) (pd_int)) (pd_ix (fun _ _ => rfl) (pd_var (i := 5) rfl) (pd_int))) (pd_sub (pd_shl (pd_int) (pd_var (i := 2) rfl)) (pd_int))) (pa_nil))))) (pa_nil)))))))))
theorem der_l_plain {k : Nat} {c : Cl} (ok : ∀ y ∈ names, Own P w K mg base k (Str.ofString y) (c y)) (oks : ∀ q ∈ snames, OwnS P w K mg base k q.2 (Str.ofString q.1) (c q.1)) (zs : ∀ y ∈ blts, mg (Str.ofString y) = none) {fa : Addr} (cdv : Value) (A : Around) (outer : List PySem.Env) (s : Shared) (H : L2.Hp) (E : L2.XK) (hr : L2.Room k (A.deeper (envOfC "_law_plain" (L2.defScope sl_plain) s.heap.objs.size fa cdv))) :
    PDSs (L2.cxOf L2.CX0 P w K mg base nl_plain "_law_plain" (L2.defScope sl_plain) fa cdv A outer s H E).nox (L2.defBody sl_plain) (b_l_plain c) := by
  have nd := scl_plain.nd
  unfold b_l_plain
  exact pss_cons (ps_if (pt_tru (pd_isi (T := "tuple") .tuple rfl (zs "isinstance" (by decide)) rfl rfl (zs "tuple" (by decide)) bt_tuple (pd_var (i := 0) rfl))) (pss_one (ps_ret (pd_callB (cr_allF rfl) real_allB rfl (zs "all" (by decide)) bt_all (pa_cons (pd_lc (own := [("_law_part", 1)]) rfl nd (pi_seq (pd_var (i := 0) rfl)) (L2.blkOk_by (N := nl_plain) (sc := L2.defScope sl_plain) (by decide +kernel)) (fun _ _ _ _ _ => pg_name (i := 1) nd rfl (by first | exact .inl rfl | exact .inr rfl)) (fun _ _ _ _ _ => pts_nil) (fun _ _ _ _ _ => pd_call (y := "_law_plain") (ok "_law_plain" (by decide)) hr rfl (pa_cons (pd_var (i := 1) rfl) (pa_nil))) (by decide)) (pa_nil))))) (pss_nil)) (pss_one (ps_ret (pd_or' (pd_isi (T := "str") .str rfl (zs "isinstance" (by decide)) rfl rfl (zs "str" (by decide)) bt_str (pd_var (i := 0) rfl)) (pd_one (pd_call (y := "_law_is_int") (ok "_law_is_int" (by decide)) hr rfl (pa_cons (pd_var (i := 0) rfl) (pa_nil)))))))
theorem der_l_word_term {k : Nat} {c : Cl} (ok : ∀ y ∈ names, Own P w K mg base k (Str.ofString y) (c y)) (oks : ∀ q ∈ snames, OwnS P w K mg base k q.2 (Str.ofString q.1) (c q.1)) (zs : ∀ y ∈ blts, mg (Str.ofString y) = none) {fa : Addr} (cdv : Value) (A : Around) (outer : List PySem.Env) (s : Shared) (H : L2.Hp) (E : L2.XK) (hr : L2.Room k (A.deeper (envOfC "_law_word_term" (L2.defScope sl_word_term) s.heap.objs.size fa cdv))) :
    PDSs (L2.cxOf L2.CX0 P w K mg base nl_word_term "_law_word_term" (L2.defScope sl_word_term) fa cdv A outer s H E).nox (L2.defBody sl_word_term) (b_l_word_term c) := by
  have nd := scl_word_term.nd
  unfold b_l_word_term
  exact pss_one (ps_ret (pd_call (y := "_law_place") (ok "_law_place" (by decide)) hr rfl (pa_cons (pd_getA hr (pd_var (i := 0) rfl) (pd_str)) (pa_cons (pd_tup (pa_cons (pd_str) (pa_cons (pd_var (i := 2) rfl) (pa_cons (pd_var (i := 1) rfl) (pa_nil))))) (pa_nil)))))
theorem der_l_term {k : Nat} {c : Cl} (ok : ∀ y ∈ names, Own P w K mg base k (Str.ofString y) (c y)) (oks : ∀ q ∈ snames, OwnS P w K mg base k q.2 (Str.ofString q.1) (c q.1)) (zs : ∀ y ∈ blts, mg (Str.ofString y) = none) {fa : Addr} (cdv : Value) (A : Around) (outer : List PySem.Env) (s : Shared) (H : L2.Hp) (E : L2.XK) (hr : L2.Room k (A.deeper (envOfC "_law_term" (L2.defScope sl_term) s.heap.objs.size fa cdv))) :
    PDSs (L2.cxOf L2.CX0 P w K mg base nl_term "_law_term" (L2.defScope sl_term) fa cdv A outer s H E).nox (L2.defBody sl_term) (b_l_term c) := by
  have nd := scl_term.nd
  unfold b_l_term
  exact pss_cons (ps_if (pt_cmp (L2.op_eqD hr.units) real_eq (by rfl) (pd_ix (fun _ _ => rfl) (pd_var (i := 1) rfl) (pd_int)) (pd_str)) (pss_one (ps_ret (pd_call (y := "_law_word_term") (ok "_law_word_term" (by decide)) hr rfl (pa_cons (pd_var (i := 0) rfl) (pa_cons (pd_ix (fun _ _ => rfl) (pd_var (i := 1) rfl) (pd_int)) (pa_cons (pd_ix (fun _ _ => rfl) (pd_var (i := 1) rfl) (pd_int)) (pa_nil))))))) (pss_nil)) (pss_cons (ps_if (pt_cmp (L2.op_eqD hr.units) real_eq (by rfl) (pd_ix (fun _ _ => rfl) (pd_var (i := 1) rfl) (pd_int)) (pd_str)) (pss_one (ps_ret (pd_getA hr (pd_getA hr (pd_var (i := 0) rfl) (pd_str)) (pd_ix (fun _ _ => rfl) (pd_var (i := 1) rfl) (pd_int))))) (pss_nil)) (pss_cons (ps_setLc (j := 2) (own := [("_law_part", 4)]) rfl nd rfl rfl (L2.sw_true rfl rfl rfl (by decide +kernel)) (pi_seq (pd_sl (pd_var (i := 1) rfl) (po_some (pd_int)) (po_none))) (L2.blkOk_by (N := nl_term) (sc := L2.defScope sl_term) (by decide +kernel)) (fun _ _ _ _ _ => pg_name (i := 4) nd rfl (by first | exact .inl rfl | exact .inr rfl)) (fun _ _ _ _ _ => pts_nil) (fun _ _ _ _ _ => pd_call (y := "_law_term") (ok "_law_term" (by decide)) hr rfl (pa_cons (pd_var (i := 0) rfl) (pa_cons (pd_var (i := 4) rfl) (pa_nil)))) (by decide)) (pss_cons (ps_set (i := 3) nd rfl (by first | exact .inl rfl | exact .inr rfl) (pd_if (pt_cmp L2.op_in_seq (real_in false) (by rfl) (pd_ix (fun _ _ => rfl) (pd_var (i := 1) rfl) (pd_int)) (pd_tup (pa_cons (pd_str) (pa_cons (pd_str) (pa_cons (pd_str) (pa_cons (pd_str) (pa_nil))))))) (pd_int) (pd_ix (fun _ _ => rfl) (pd_ix (fun _ _ => rfl) (pd_getA hr (pd_var (i := 0) rfl) (pd_str)) (pd_ix (fun _ _ => rfl) (pd_var (i := 2) rfl) (pd_int))) (pd_int)))) (pss_one (ps_ret (pd_call (y := "_law_make") (ok "_law_make" (by decide)) hr rfl (pa_cons (pd_getA hr (pd_var (i := 0) rfl) (pd_str)) (pa_cons (pd_ix (fun _ _ => rfl) (pd_var (i := 1) rfl) (pd_int)) (pa_cons (pd_var (i := 3) rfl) (pa_cons (pd_var (i := 2) rfl) (pa_nil)))))))))))
theorem der_l_test {k : Nat} {c : Cl} (ok : ∀ y ∈ names, Own P w K mg base k (Str.ofString y) (c y)) (oks : ∀ q ∈ snames, OwnS P w K mg base k q.2 (Str.ofString q.1) (c q.1)) (zs : ∀ y ∈ blts, mg (Str.ofString y) = none) {fa : Addr} (cdv : Value) (A : Around) (outer : List PySem.Env) (s : Shared) (H : L2.Hp) (E : L2.XK) (hr : L2.Room k (A.deeper (envOfC "_law_test" (L2.defScope sl_test) s.heap.objs.size fa cdv))) :
    PDSs (L2.cxOf L2.CX0 P w K mg base nl_test "_law_test" (L2.defScope sl_test) fa cdv A outer s H E).nox (L2.defBody sl_test) (b_l_test c) := by
  have nd := scl_test.nd
  unfold b_l_test
  exact pss_cons (ps_set (i := 2) nd rfl (by first | exact .inl rfl | exact .inr rfl) (pd_sub (pd_shl (pd_int) (pd_ix (fun _ _ => rfl) (pd_var (i := 1) rfl) (pd_int))) (pd_int))) (pss_cons (ps_set (i := 3) nd rfl (by first | exact .inl rfl | exact .inr rfl) (pd_call (y := "_law_draw") (ok "_law_draw" (by decide)) hr rfl (pa_cons (pd_var (i := 0) rfl) (pa_cons (pd_int) (pa_nil))))) (pss_cons (ps_set (i := 4) nd rfl (by first | exact .inl rfl | exact .inr rfl) (pd_tup (pa_cons (pd_str) (pa_cons (pd_ix (fun _ _ => rfl) (pd_var (i := 1) rfl) (pd_int)) (pa_nil))))) (pss_cons (ps_if (pt_cmp (L2.op_eqD hr.units) real_eq (by rfl) (pd_var (i := 3) rfl) (pd_int)) (pss_one (ps_ret (pd_tup (pa_cons (pd_str) (pa_cons (pd_var (i := 4) rfl) (pa_cons (pd_tup (pa_cons (pd_str) (pa_cons (pd_add (pd_int) (pd_call (y := "_law_draw") (ok "_law_draw" (by decide)) hr rfl (pa_cons (pd_var (i := 0) rfl) (pa_cons (pd_var (i := 2) rfl) (pa_nil))))) (pa_cons (pd_ix (fun _ _ => rfl) (pd_var (i := 1) rfl) (pd_int)) (pa_nil))))) (pa_nil))))))) (pss_nil)) (pss_cons (ps_if (pt_cmp (L2.op_eqD hr.units) real_eq (by rfl) (pd_var (i := 3) rfl) (pd_int)) (pss_one (ps_ret (pd_tup (pa_cons (pd_str) (pa_cons (pd_var (i := 4) rfl) (pa_cons (pd_tup (pa_cons (pd_str) (pa_cons (pd_call (y := "_law_draw") (ok "_law_draw" (by decide)) hr rfl (pa_cons (pd_var (i := 0) rfl) (pa_cons (pd_var (i := 2) rfl) (pa_nil)))) (pa_cons (pd_ix (fun _ _ => rfl) (pd_var (i := 1) rfl) (pd_int)) (pa_nil))))) (pa_nil))))))) (pss_nil)) (pss_one (ps_ret (pd_tup (pa_cons (pd_ix (fun _ _ => rfl) (pd_lst (pa_cons (pd_str) (pa_cons (pd_str) (pa_nil)))) (pd_sub (pd_var (i := 3) rfl) (pd_int))) (pa_cons (pd_var (i := 4) rfl) (pa_cons (pd_tup (pa_cons (pd_str) (pa_cons (pd_call (y := "_law_draw") (ok "_law_draw" (by decide)) hr rfl (pa_cons (pd_var (i := 0) rfl) (pa_cons (pd_add (pd_var (i := 2) rfl) (pd_int)) (pa_nil)))) (pa_cons (pd_ix (fun _ _ => rfl) (pd_var (i := 1) rfl) (pd_int)) (pa_nil))))) (pa_nil)))))))))))
theorem der_l_operand {k : Nat} {c : Cl} (ok : ∀ y ∈ names, Own P w K mg base k (Str.ofString y) (c y)) (oks : ∀ q ∈ snames, OwnS P w K mg base k q.2 (Str.ofString q.1) (c q.1)) (zs : ∀ y ∈ blts, mg (Str.ofString y) = none) {fa : Addr} (cdv : Value) (A : Around) (outer : List PySem.Env) (s : Shared) (H : L2.Hp) (E : L2.XK) (hr : L2.Room k (A.deeper (envOfC "_law_operand" (L2.defScope sl_operand) s.heap.objs.size fa cdv))) :
    PDSs (L2.cxOf L2.CX0 P w K mg base nl_operand "_law_operand" (L2.defScope sl_operand) fa cdv A outer s H E).nox (L2.defBody sl_operand) (b_l_operand c) := by
  have nd := scl_operand.nd
  unfold b_l_operand
  exact pss_cons (ps_setLc (j := 3) (own := [("_law_row", 4)]) rfl nd rfl rfl (L2.sw_true rfl rfl rfl (by decide +kernel)) (pi_seq (pd_var (i := 1) rfl)) (L2.blkOk_by (N := nl_operand) (sc := L2.defScope sl_operand) (by decide +kernel)) (fun _ _ _ _ _ => pg_name (i := 4) nd rfl (by first | exact .inl rfl | exact .inr rfl)) (fun _ _ _ _ _ => pts_one (pt_cmp (L2.op_eqD hr.units) real_eq (by rfl) (pd_ix (fun _ _ => rfl) (pd_var (i := 4) rfl) (pd_int)) (pd_var (i := 2) rfl))) (fun _ _ _ _ _ => pd_ix (fun _ _ => rfl) (pd_var (i := 4) rfl) (pd_int)) (by decide)) (pss_cons (ps_if (ptw (pw_and (pt_tru (pd_var (i := 3) rfl)) (pw_and1 (pt_tru (pd_call (y := "_law_draw") (ok "_law_draw" (by decide)) hr rfl (pa_cons (pd_var (i := 0) rfl) (pa_cons (pd_int) (pa_nil)))))))) (pss_one (ps_ret (pd_tup (pa_cons (pd_str) (pa_cons (pd_call (y := "_law_pick") (ok "_law_pick" (by decide)) hr rfl (pa_cons (pd_var (i := 0) rfl) (pa_cons (pd_var (i := 3) rfl) (pa_nil)))) (pa_nil)))))) (pss_nil)) (pss_one (ps_ret (pd_tup (pa_cons (pd_str) (pa_cons (pd_call (y := "_law_draw") (ok "_law_draw" (by decide)) hr rfl (pa_cons (pd_var (i := 0) rfl) (pa_cons (pd_shl (pd_int) (pd_var (i := 2) rfl)) (pa_nil)))) (pa_cons (pd_var (i := 2) rfl) (pa_nil))))))))
theorem der_l_given {k : Nat} {c : Cl} (ok : ∀ y ∈ names, Own P w K mg base k (Str.ofString y) (c y)) (oks : ∀ q ∈ snames, OwnS P w K mg base k q.2 (Str.ofString q.1) (c q.1)) (zs : ∀ y ∈ blts, mg (Str.ofString y) = none) {fa : Addr} (cdv : Value) (A : Around) (outer : List PySem.Env) (s : Shared) (H : L2.Hp) (E : L2.XK) (hr : L2.Room k (A.deeper (envOfC "_law_given" (L2.defScope sl_given) s.heap.objs.size fa cdv))) :
    PDSs (L2.cxOf L2.CX0 P w K mg base nl_given "_law_given" (L2.defScope sl_given) fa cdv A outer s H E).nox (L2.defBody sl_given) (b_l_given c) := by
  have nd := scl_given.nd
  unfold b_l_given
  exact pss_cons (ps_set (i := 2) nd rfl (by first | exact .inl rfl | exact .inr rfl) (pd_call (y := "_law_operand") (ok "_law_operand" (by decide)) hr rfl (pa_cons (pd_getA hr (pd_var (i := 0) rfl) (pd_str)) (pa_cons (pd_var (i := 1) rfl) (pa_cons (pd_getA hr (pd_var (i := 0) rfl) (pd_str)) (pa_nil)))))) (pss_cons (ps_if (pt_tru (pd_call (y := "_law_draw") (ok "_law_draw" (by decide)) hr rfl (pa_cons (pd_getA hr (pd_var (i := 0) rfl) (pd_str)) (pa_cons (pd_int) (pa_nil))))) (pss_one (ps_ret (pd_var (i := 2) rfl))) (pss_nil)) (pss_one (ps_ret (pd_tup (pa_cons (pd_call (y := "_law_pick") (ok "_law_pick" (by decide)) hr rfl (pa_cons (pd_getA hr (pd_var (i := 0) rfl) (pd_str)) (pa_cons (pd_lst (pa_cons (pd_str) (pa_cons (pd_str) (pa_cons (pd_str) (pa_cons (pd_str) (pa_cons (pd_str) (pa_cons (pd_str) (pa_nil)))))))) (pa_nil)))) (pa_cons (pd_var (i := 2) rfl) (pa_cons (pd_call (y := "_law_operand") (ok "_law_operand" (by decide)) hr rfl (pa_cons (pd_getA hr (pd_var (i := 0) rfl) (pd_str)) (pa_cons (pd_var (i := 1) rfl) (pa_cons (pd_getA hr (pd_var (i := 0) rfl) (pd_str)) (pa_nil))))) (pa_nil))))))))
theorem der_l_end {k : Nat} {c : Cl} (ok : ∀ y ∈ names, Own P w K mg base k (Str.ofString y) (c y)) (oks : ∀ q ∈ snames, OwnS P w K mg base k q.2 (Str.ofString q.1) (c q.1)) (zs : ∀ y ∈ blts, mg (Str.ofString y) = none) {fa : Addr} (cdv : Value) (A : Around) (outer : List PySem.Env) (s : Shared) (H : L2.Hp) (E : L2.XK) (hr : L2.Room k (A.deeper (envOfC "_law_end" (L2.defScope sl_end) s.heap.objs.size fa cdv))) :
    PDSs (L2.cxOf L2.CX0 P w K mg base nl_end "_law_end" (L2.defScope sl_end) fa cdv A outer s H E).nox (L2.defBody sl_end) (b_l_end c) := by
  have nd := scl_end.nd
  unfold b_l_end
  exact pss_cons (ps_set (i := 2) nd rfl (by first | exact .inl rfl | exact .inr rfl) (pd_call (y := "_law_draw") (ok "_law_draw" (by decide)) hr rfl (pa_cons (pd_getA hr (pd_var (i := 0) rfl) (pd_str)) (pa_cons (pd_int) (pa_nil))))) (pss_cons (ps_if (pt_cmp (L2.op_eqD hr.units) real_eq (by rfl) (pd_var (i := 2) rfl) (pd_int)) (pss_one (ps_ret (pd_tup (pa_cons (pd_str) (pa_cons (pd_tup (pa_cons (pd_str) (pa_cons (pd_call (y := "_law_pick") (ok "_law_pick" (by decide)) hr rfl (pa_cons (pd_getA hr (pd_var (i := 0) rfl) (pd_str)) (pa_cons (pd_lst (pa_cons (pd_str) (pa_cons (pd_str) (pa_cons (pd_str) (pa_cons (pd_str) (pa_nil)))))) (pa_nil)))) (pa_nil)))) (pa_nil)))))) (pss_nil)) (pss_cons (ps_if (pt_cmp (L2.op_eqD hr.units) real_eq (by rfl) (pd_var (i := 2) rfl) (pd_int)) (pss_one (ps_ret (pd_tup (pa_cons (pd_str) (pa_cons (pd_tup (pa_cons (pd_str) (pa_cons (pd_call (y := "_law_word_term") (ok "_law_word_term" (by decide)) hr rfl (pa_cons (pd_var (i := 0) rfl) (pa_cons (pd_int) (pa_cons (pd_getA hr (pd_var (i := 0) rfl) (pd_str)) (pa_nil))))) (pa_nil)))) (pa_nil)))))) (pss_nil)) (pss_one (ps_ret (pd_tup (pa_cons (pd_str) (pa_cons (pd_tup (pa_cons (pd_str) (pa_cons (pd_call (y := "_law_term") (ok "_law_term" (by decide)) hr rfl (pa_cons (pd_var (i := 0) rfl) (pa_cons (pd_call (y := "_law_given") (ok "_law_given" (by decide)) hr rfl (pa_cons (pd_var (i := 0) rfl) (pa_cons (pd_var (i := 1) rfl) (pa_nil)))) (pa_nil)))) (pa_nil)))) (pa_nil))))))))
theorem der_l_grow {k : Nat} {c : Cl} (ok : ∀ y ∈ names, Own P w K mg base k (Str.ofString y) (c y)) (oks : ∀ q ∈ snames, OwnS P w K mg base k q.2 (Str.ofString q.1) (c q.1)) (zs : ∀ y ∈ blts, mg (Str.ofString y) = none) {fa : Addr} (cdv : Value) (A : Around) (outer : List PySem.Env) (s : Shared) (H : L2.Hp) (E : L2.XK) (hr : L2.Room k (A.deeper (envOfC "_law_grow" (L2.defScope sl_grow) s.heap.objs.size fa cdv))) :
    PDSs (L2.cxOf L2.CX0 P w K mg base nl_grow "_law_grow" (L2.defScope sl_grow) fa cdv A outer s H E).nox (L2.defBody sl_grow) (b_l_grow c) := by
  have nd := scl_grow.nd
  unfold b_l_grow
  exact pss_cons (ps_set (i := 6) nd rfl (by first | exact .inl rfl | exact .inr rfl) (pd_if (pt_tru (pd_var (i := 5) rfl)) (pd_call (y := "_law_draw") (ok "_law_draw" (by decide)) hr rfl (pa_cons (pd_getA hr (pd_var (i := 0) rfl) (pd_str)) (pa_cons (pd_int) (pa_nil)))) (pd_int))) (pss_cons (ps_if (ptw (pw_and (pt_cmp L2.op_lt real_lt (by rfl) (pd_var (i := 6) rfl) (pd_int)) (pw_and1 (pt_tru (pd_var (i := 2) rfl))))) (pss_one (ps_ret (pd_call (y := "_law_branch") (ok "_law_branch" (by decide)) hr rfl (pa_cons (pd_var (i := 0) rfl) (pa_cons (pd_var (i := 1) rfl) (pa_cons (pd_var (i := 2) rfl) (pa_cons (pd_var (i := 3) rfl) (pa_cons (pd_var (i := 4) rfl) (pa_cons (pd_var (i := 5) rfl) (pa_cons (pd_cmp (L2.op_eqD hr.units) real_eq (by rfl) (pd_var (i := 6) rfl) (pd_int)) (pa_nil))))))))))) (pss_nil)) (pss_cons (ps_setLc (j := 7) (own := [("_law_one", 8)]) rfl nd rfl rfl (L2.sw_true rfl rfl rfl (by decide +kernel)) (pi_seq (pd_var (i := 1) rfl)) (L2.blkOk_by (N := nl_grow) (sc := L2.defScope sl_grow) (by decide +kernel)) (fun _ _ _ _ _ => pg_name (i := 8) nd rfl (by first | exact .inl rfl | exact .inr rfl)) (fun _ _ _ _ _ => pts_nil) (fun _ _ _ _ _ => pd_lc (own := [("_law_two", 9)]) rfl nd (pi_seq (pd_var (i := 1) rfl)) (L2.blkOk_by (by rfl)) (fun _ _ _ _ _ => pg_name (i := 9) nd rfl (by first | exact .inl rfl | exact .inr rfl)) (fun _ _ _ _ _ => pts_one (ptw (pw_and (pt_cmp (L2.op_eqD hr.units) real_eq (by rfl) (pd_ix (fun _ _ => rfl) (pd_var (i := 9) rfl) (pd_int)) (pd_ix (fun _ _ => rfl) (pd_var (i := 8) rfl) (pd_int))) (pw_and1 (pt_cmp (L2.op_neD hr.units) real_ne (by rfl) (pd_var (i := 9) rfl) (pd_var (i := 8) rfl)))))) (fun _ _ _ _ _ => pd_tup (pa_cons (pd_var (i := 8) rfl) (pa_cons (pd_var (i := 9) rfl) (pa_nil)))) (by decide)) (by decide)) (pss_cons (ps_setLc (j := 7) (own := [("_law_row", 10)]) rfl nd rfl rfl (L2.sw_true rfl rfl rfl (by decide +kernel)) (pi_seq (pd_var (i := 7) rfl)) (L2.blkOk_by (N := nl_grow) (sc := L2.defScope sl_grow) (by decide +kernel)) (fun _ _ _ _ _ => pg_name (i := 10) nd rfl (by first | exact .inl rfl | exact .inr rfl)) (fun _ _ _ _ _ => pts_one (pt_tru (pd_var (i := 10) rfl))) (fun _ _ _ _ _ => pd_var (i := 10) rfl) (by decide)) (pss_cons (ps_if (ptw (pw_and (pt_cmp L2.op_lt real_lt (by rfl) (pd_var (i := 6) rfl) (pd_int)) (pw_and1 (pt_tru (pd_var (i := 7) rfl))))) (pss_one (ps_ret (pd_call (y := "_law_spin") (ok "_law_spin" (by decide)) hr rfl (pa_cons (pd_var (i := 0) rfl) (pa_cons (pd_var (i := 1) rfl) (pa_cons (pd_var (i := 3) rfl) (pa_cons (pd_var (i := 4) rfl) (pa_cons (pd_call (y := "_law_pick") (ok "_law_pick" (by decide)) hr rfl (pa_cons (pd_getA hr (pd_var (i := 0) rfl) (pd_str)) (pa_cons (pd_call (y := "_law_pick") (ok "_law_pick" (by decide)) hr rfl (pa_cons (pd_getA hr (pd_var (i := 0) rfl) (pd_str)) (pa_cons (pd_var (i := 7) rfl) (pa_nil)))) (pa_nil)))) (pa_nil))))))))) (pss_nil)) (pss_cons (ps_if (ptw (pw_and (pt_cmp L2.op_lt real_lt (by rfl) (pd_var (i := 6) rfl) (pd_int)) (pw_and1 (pt_tru (pd_getA hr (pd_var (i := 0) rfl) (pd_str)))))) (pss_one (ps_ret (pd_call (y := "_law_asking") (ok "_law_asking" (by decide)) hr rfl (pa_cons (pd_var (i := 0) rfl) (pa_cons (pd_var (i := 1) rfl) (pa_cons (pd_var (i := 2) rfl) (pa_cons (pd_var (i := 3) rfl) (pa_cons (pd_var (i := 4) rfl) (pa_cons (pd_var (i := 5) rfl) (pa_nil)))))))))) (pss_nil)) (pss_one (ps_ret (pd_call (y := "_law_end") (ok "_law_end" (by decide)) hr rfl (pa_cons (pd_var (i := 0) rfl) (pa_cons (pd_var (i := 1) rfl) (pa_nil)))))))))))
theorem der_l_branch {k : Nat} {c : Cl} (ok : ∀ y ∈ names, Own P w K mg base k (Str.ofString y) (c y)) (oks : ∀ q ∈ snames, OwnS P w K mg base k q.2 (Str.ofString q.1) (c q.1)) (zs : ∀ y ∈ blts, mg (Str.ofString y) = none) {fa : Addr} (cdv : Value) (A : Around) (outer : List PySem.Env) (s : Shared) (H : L2.Hp) (E : L2.XK) (hr : L2.Room k (A.deeper (envOfC "_law_branch" (L2.defScope sl_branch) s.heap.objs.size fa cdv))) :
    PDSs (L2.cxOf L2.CX0 P w K mg base nl_branch "_law_branch" (L2.defScope sl_branch) fa cdv A outer s H E).nox (L2.defBody sl_branch) (b_l_branch c) := by
  have nd := scl_branch.nd
  unfold b_l_branch
  exact pss_cons (ps_set (i := 7) nd rfl (by first | exact .inl rfl | exact .inr rfl) (pd_call (y := "_law_pick") (ok "_law_pick" (by decide)) hr rfl (pa_cons (pd_getA hr (pd_var (i := 0) rfl) (pd_str)) (pa_cons (pd_var (i := 2) rfl) (pa_nil))))) (pss_cons (ps_set (i := 8) nd rfl (by first | exact .inl rfl | exact .inr rfl) (pd_call (y := "_law_test") (ok "_law_test" (by decide)) hr rfl (pa_cons (pd_getA hr (pd_var (i := 0) rfl) (pd_str)) (pa_cons (pd_var (i := 7) rfl) (pa_nil))))) (pss_cons (ps_set (i := 9) nd rfl (by first | exact .inl rfl | exact .inr rfl) (pd_tup (pa_cons (pd_getA hr (pd_var (i := 0) rfl) (pd_str)) (pa_cons (pd_getA hr (pd_var (i := 0) rfl) (pd_str)) (pa_nil))))) (pss_cons (ps_augD hr ip_add real_iadd (pd_var (i := 0) rfl) (pd_str) (pd_int)) (pss_cons (ps_if (pt_cmp (L2.op_eqD hr.units) real_eq (by rfl) (pd_var (i := 3) rfl) (pd_int)) (pss_one (ps_ret (pd_tup (pa_cons (pd_str) (pa_cons (pd_tup (pa_cons (pd_str) (pa_cons (pd_str) (pa_nil)))) (pa_nil)))))) (pss_nil)) (pss_cons (ps_setLc (j := 10) (own := [("_law_other", 14)]) rfl nd rfl rfl (L2.sw_true rfl rfl rfl (by decide +kernel)) (pi_seq (pd_var (i := 2) rfl)) (L2.blkOk_by (N := nl_branch) (sc := L2.defScope sl_branch) (by decide +kernel)) (fun _ _ _ _ _ => pg_name (i := 14) nd rfl (by first | exact .inl rfl | exact .inr rfl)) (fun _ _ _ _ _ => pts_one (pt_cmp (L2.op_neD hr.units) real_ne (by rfl) (pd_var (i := 14) rfl) (pd_var (i := 7) rfl))) (fun _ _ _ _ _ => pd_var (i := 14) rfl) (by decide)) (pss_cons (ps_set (i := 11) nd rfl (by first | exact .inl rfl | exact .inr rfl) (pd_call (y := "_law_term") (ok "_law_term" (by decide)) hr rfl (pa_cons (pd_var (i := 0) rfl) (pa_cons (pd_var (i := 8) rfl) (pa_nil))))) (pss_cons (ps_if (pt_tru (pd_var (i := 6) rfl)) (pss_cons (ps_set (i := 12) nd rfl (by first | exact .inl rfl | exact .inr rfl) (pd_tup (pa_cons (pd_str) (pa_cons (pd_tup (pa_cons (pd_str) (pa_cons (pd_add (pd_var (i := 4) rfl) (pd_int)) (pa_nil)))) (pa_nil))))) (pss_one (ps_set (i := 13) nd rfl (by first | exact .inl rfl | exact .inr rfl) (pd_tup (pa_cons (pd_str) (pa_cons (pd_var (i := 9) rfl) (pa_cons (pd_call (y := "_law_word_term") (ok "_law_word_term" (by decide)) hr rfl (pa_cons (pd_var (i := 0) rfl) (pa_cons (pd_int) (pa_cons (pd_int) (pa_nil))))) (pa_cons (pd_tup (pa_cons (pd_str) (pa_cons (pd_tup (pa_cons (pd_str) (pa_nil))) (pa_nil)))) (pa_cons (pd_var (i := 12) rfl) (pa_nil)))))))))) (pss_one (ps_set (i := 13) nd rfl (by first | exact .inl rfl | exact .inr rfl) (pd_call (y := "_law_grow") (ok "_law_grow" (by decide)) hr rfl (pa_cons (pd_var (i := 0) rfl) (pa_cons (pd_var (i := 1) rfl) (pa_cons (pd_var (i := 10) rfl) (pa_cons (pd_sub (pd_var (i := 3) rfl) (pd_int)) (pa_cons (pd_add (pd_var (i := 4) rfl) (pd_int)) (pa_cons (pd_sub (pd_var (i := 5) rfl) (pd_int)) (pa_nil))))))))))) (pss_one (ps_ret (pd_tup (pa_cons (pd_str) (pa_cons (pd_var (i := 9) rfl) (pa_cons (pd_var (i := 11) rfl) (pa_cons (pd_var (i := 13) rfl) (pa_cons (pd_call (y := "_law_grow") (ok "_law_grow" (by decide)) hr rfl (pa_cons (pd_var (i := 0) rfl) (pa_cons (pd_var (i := 1) rfl) (pa_cons (pd_var (i := 10) rfl) (pa_cons (pd_sub (pd_var (i := 3) rfl) (pd_int)) (pa_cons (pd_add (pd_var (i := 4) rfl) (pd_int)) (pa_cons (pd_sub (pd_var (i := 5) rfl) (pd_int)) (pa_nil)))))))) (pa_nil))))))))))))))))
theorem der_l_spin {k : Nat} {c : Cl} (ok : ∀ y ∈ names, Own P w K mg base k (Str.ofString y) (c y)) (oks : ∀ q ∈ snames, OwnS P w K mg base k q.2 (Str.ofString q.1) (c q.1)) (zs : ∀ y ∈ blts, mg (Str.ofString y) = none) {fa : Addr} (cdv : Value) (A : Around) (outer : List PySem.Env) (s : Shared) (H : L2.Hp) (E : L2.XK) (hr : L2.Room k (A.deeper (envOfC "_law_spin" (L2.defScope sl_spin) s.heap.objs.size fa cdv))) :
    PDSs (L2.cxOf L2.CX0 P w K mg base nl_spin "_law_spin" (L2.defScope sl_spin) fa cdv A outer s H E).nox (L2.defBody sl_spin) (b_l_spin c) := by
  have nd := scl_spin.nd
  unfold b_l_spin
  exact pss_cons (ps_par rfl nd rfl rfl (by decide) (L2.ps_par rfl nd rfl rfl (by decide) rfl rfl (pa_cons (pd_ix (fun _ _ => rfl) (pd_ix (fun _ _ => rfl) (pd_var (i := 4) rfl) (pd_int)) (pd_int)) (pa_cons (pd_ix (fun _ _ => rfl) (pd_ix (fun _ _ => rfl) (pd_var (i := 4) rfl) (pd_int)) (pd_int)) (pa_nil))) (by rfl))) (pss_cons (ps_set (i := 7) nd rfl (by first | exact .inl rfl | exact .inr rfl) (pd_tup (pa_cons (pd_getA hr (pd_var (i := 0) rfl) (pd_str)) (pa_cons (pd_getA hr (pd_var (i := 0) rfl) (pd_str)) (pa_nil))))) (pss_cons (ps_augD hr ip_add real_iadd (pd_var (i := 0) rfl) (pd_str) (pd_int)) (pss_cons (ps_if (pt_cmp (L2.op_eqD hr.units) real_eq (by rfl) (pd_var (i := 2) rfl) (pd_int)) (pss_one (ps_ret (pd_tup (pa_cons (pd_str) (pa_cons (pd_tup (pa_cons (pd_str) (pa_cons (pd_str) (pa_nil)))) (pa_nil)))))) (pss_nil)) (pss_cons (ps_set (i := 8) nd rfl (by first | exact .inl rfl | exact .inr rfl) (pd_call (y := "_law_test") (ok "_law_test" (by decide)) hr rfl (pa_cons (pd_getA hr (pd_var (i := 0) rfl) (pd_str)) (pa_cons (pd_ix (fun _ _ => rfl) (pd_var (i := 4) rfl) (pd_int)) (pa_nil))))) (pss_cons (ps_set (i := 9) nd rfl (by first | exact .inl rfl | exact .inr rfl) (pd_call (y := "_law_given") (ok "_law_given" (by decide)) hr rfl (pa_cons (pd_var (i := 0) rfl) (pa_cons (pd_var (i := 1) rfl) (pa_nil))))) (pss_cons (ps_par rfl nd rfl rfl (by decide) (L2.ps_par rfl nd rfl rfl (by decide) rfl rfl (pa_cons (pd_call (y := "_law_term") (ok "_law_term" (by decide)) hr rfl (pa_cons (pd_var (i := 0) rfl) (pa_cons (pd_var (i := 8) rfl) (pa_nil)))) (pa_cons (pd_tup (pa_cons (pd_str) (pa_cons (pd_tup (pa_cons (pd_str) (pa_cons (pd_call (y := "_law_term") (ok "_law_term" (by decide)) hr rfl (pa_cons (pd_var (i := 0) rfl) (pa_cons (pd_var (i := 9) rfl) (pa_nil)))) (pa_nil)))) (pa_nil)))) (pa_nil))) (by rfl))) (pss_cons (ps_set (i := 12) nd rfl (by first | exact .inl rfl | exact .inr rfl) (pd_getA hr (pd_getA hr (pd_var (i := 0) rfl) (pd_str)) (pd_var (i := 5) rfl))) (pss_cons (ps_set (i := 13) nd rfl (by first | exact .inl rfl | exact .inr rfl) (pd_call (y := "_law_make") (ok "_law_make" (by decide)) hr rfl (pa_cons (pd_getA hr (pd_var (i := 0) rfl) (pd_str)) (pa_cons (pd_str) (pa_cons (pd_int) (pa_cons (pd_lst (pa_cons (pd_var (i := 12) rfl) (pa_cons (pd_getA hr (pd_getA hr (pd_var (i := 0) rfl) (pd_str)) (pd_var (i := 6) rfl)) (pa_nil)))) (pa_nil))))))) (pss_cons (ps_asg (pd_getA hr (pd_getA hr (pd_var (i := 0) rfl) (pd_str)) (pd_var (i := 6) rfl)) (pg_subD hr (pd_getA hr (pd_var (i := 0) rfl) (pd_str)) (pd_var (i := 5) rfl))) (pss_cons (ps_par rfl nd rfl rfl (by decide) (L2.ps_par rfl nd rfl rfl (by decide) rfl rfl (pa_cons (pd_call (y := "_law_term") (ok "_law_term" (by decide)) hr rfl (pa_cons (pd_var (i := 0) rfl) (pa_cons (pd_var (i := 8) rfl) (pa_nil)))) (pa_cons (pd_tup (pa_cons (pd_str) (pa_cons (pd_tup (pa_cons (pd_str) (pa_cons (pd_call (y := "_law_term") (ok "_law_term" (by decide)) hr rfl (pa_cons (pd_var (i := 0) rfl) (pa_cons (pd_var (i := 9) rfl) (pa_nil)))) (pa_nil)))) (pa_nil)))) (pa_nil))) (by rfl))) (pss_cons (ps_asg (pd_var (i := 12) rfl) (pg_subD hr (pd_getA hr (pd_var (i := 0) rfl) (pd_str)) (pd_var (i := 5) rfl))) (pss_cons (ps_set (i := 16) nd rfl (by first | exact .inl rfl | exact .inr rfl) (pd_tup (pa_cons (pd_str) (pa_cons (pd_tup (pa_cons (pd_str) (pa_cons (pd_str) (pa_nil)))) (pa_nil))))) (pss_cons (ps_if (pt_cmp L2.op_gt real_gt (by rfl) (pd_var (i := 2) rfl) (pd_int)) (pss_cons (ps_set (i := 17) nd rfl (by first | exact .inl rfl | exact .inr rfl) (pd_tup (pa_cons (pd_str) (pa_cons (pd_tup (pa_cons (pd_str) (pa_cons (pd_add (pd_var (i := 3) rfl) (pd_int)) (pa_nil)))) (pa_nil))))) (pss_cons (ps_set (i := 18) nd rfl (by first | exact .inl rfl | exact .inr rfl) (pd_tup (pa_cons (pd_str) (pa_cons (pd_var (i := 7) rfl) (pa_cons (pd_call (y := "_law_word_term") (ok "_law_word_term" (by decide)) hr rfl (pa_cons (pd_var (i := 0) rfl) (pa_cons (pd_int) (pa_cons (pd_int) (pa_nil))))) (pa_cons (pd_tup (pa_cons (pd_str) (pa_cons (pd_tup (pa_cons (pd_str) (pa_nil))) (pa_nil)))) (pa_cons (pd_var (i := 17) rfl) (pa_nil)))))))) (pss_one (ps_set (i := 16) nd rfl (by first | exact .inl rfl | exact .inr rfl) (pd_tup (pa_cons (pd_str) (pa_cons (pd_var (i := 7) rfl) (pa_cons (pd_var (i := 14) rfl) (pa_cons (pd_var (i := 18) rfl) (pa_cons (pd_var (i := 15) rfl) (pa_nil))))))))))) (pss_nil)) (pss_one (ps_ret (pd_tup (pa_cons (pd_str) (pa_cons (pd_var (i := 7) rfl) (pa_cons (pd_var (i := 10) rfl) (pa_cons (pd_tup (pa_cons (pd_str) (pa_cons (pd_var (i := 7) rfl) (pa_cons (pd_var (i := 13) rfl) (pa_cons (pd_tup (pa_cons (pd_str) (pa_cons (pd_tup (pa_cons (pd_str) (pa_nil))) (pa_nil)))) (pa_cons (pd_var (i := 16) rfl) (pa_nil))))))) (pa_cons (pd_var (i := 11) rfl) (pa_nil))))))))))))))))))))))
theorem der_l_asking {k : Nat} {c : Cl} (ok : ∀ y ∈ names, Own P w K mg base k (Str.ofString y) (c y)) (oks : ∀ q ∈ snames, OwnS P w K mg base k q.2 (Str.ofString q.1) (c q.1)) (zs : ∀ y ∈ blts, mg (Str.ofString y) = none) {fa : Addr} (cdv : Value) (A : Around) (outer : List PySem.Env) (s : Shared) (H : L2.Hp) (E : L2.XK) (hr : L2.Room k (A.deeper (envOfC "_law_asking" (L2.defScope sl_asking) s.heap.objs.size fa cdv))) :
    PDSs (L2.cxOf L2.CX0 P w K mg base nl_asking "_law_asking" (L2.defScope sl_asking) fa cdv A outer s H E).nox (L2.defBody sl_asking) (b_l_asking c) := by
  have nd := scl_asking.nd
  unfold b_l_asking
  exact pss_cons (ps_set (i := 6) nd rfl (by first | exact .inl rfl | exact .inr rfl) (pd_getA hr (pd_var (i := 0) rfl) (pd_str))) (pss_cons (ps_set (i := 7) nd rfl (by first | exact .inl rfl | exact .inr rfl) (pd_m0 L2.mt_pop real_popE ty_list PySem.F.plainAttrs_list PySem.F.slot_list_pop PySem.F.type_list_pop (pd_getA hr (pd_var (i := 0) rfl) (pd_str)))) (pss_cons (ps_asg (pd_bl) (pg_subD hr (pd_var (i := 0) rfl) (pd_str))) (pss_cons (ps_if (pt_cmp (L2.op_eqD hr.units) real_eq (by rfl) (pd_var (i := 3) rfl) (pd_int)) (pss_one (ps_ret (pd_tup (pa_cons (pd_str) (pa_cons (pd_tup (pa_cons (pd_str) (pa_cons (pd_str) (pa_nil)))) (pa_nil)))))) (pss_nil)) (pss_cons (ps_set (i := 8) nd rfl (by first | exact .inl rfl | exact .inr rfl) (pd_callTy L2.call_tuple_of real_tupleB rfl (zs "tuple" (by decide)) bt_tuple (pa_cons (pd_lc (own := [("_law_row", 11)]) rfl nd (pi_seq (pd_ix (fun _ _ => rfl) (pd_var (i := 6) rfl) (pd_int))) (L2.blkOk_by (N := nl_asking) (sc := L2.defScope sl_asking) (by decide +kernel)) (fun _ _ _ _ _ => pg_name (i := 11) nd rfl (by first | exact .inl rfl | exact .inr rfl)) (fun _ _ _ _ _ => pts_nil) (fun _ _ _ _ _ => pd_call (y := "_law_term") (ok "_law_term" (by decide)) hr rfl (pa_cons (pd_var (i := 0) rfl) (pa_cons (pd_call (y := "_law_operand") (ok "_law_operand" (by decide)) hr rfl (pa_cons (pd_getA hr (pd_var (i := 0) rfl) (pd_str)) (pa_cons (pd_var (i := 1) rfl) (pa_cons (pd_ix (fun _ _ => rfl) (pd_var (i := 11) rfl) (pd_int)) (pa_nil))))) (pa_nil)))) (by decide)) (pa_nil)))) (pss_cons (ps_set (i := 9) nd rfl (by first | exact .inl rfl | exact .inr rfl) (pd_callB L2.call_len real_lenB rfl (zs "len" (by decide)) bt_len (pa_cons (pd_lc (own := [("_law_row", 11)]) rfl nd (pi_seq (pd_var (i := 1) rfl)) (L2.blkOk_by (N := nl_asking) (sc := L2.defScope sl_asking) (by decide +kernel)) (fun _ _ _ _ _ => pg_name (i := 11) nd rfl (by first | exact .inl rfl | exact .inr rfl)) (fun _ _ _ _ _ => pts_one (pt_cmp L2.op_ge real_ge (by rfl) (pd_ix (fun _ _ => rfl) (pd_var (i := 11) rfl) (pd_int)) (pd_getA hr (pd_var (i := 0) rfl) (pd_str)))) (fun _ _ _ _ _ => pd_var (i := 11) rfl) (by decide)) (pa_nil)))) (pss_cons (ps_set (i := 10) nd rfl (by first | exact .inl rfl | exact .inr rfl) (pd_tup (pa_cons (pd_str) (pa_cons (pd_tup (pa_cons (pd_str) (pa_cons (pd_str) (pa_nil)))) (pa_nil))))) (pss_cons (ps_if (ptw (pw_and (pt_cmp L2.op_gt real_gt (by rfl) (pd_var (i := 3) rfl) (pd_int)) (pw_and1 (pt_cmp L2.op_gt real_gt (by rfl) (pd_mul (pd_ix (fun _ _ => rfl) (pd_var (i := 6) rfl) (pd_int)) (pd_add (pd_var (i := 9) rfl) (pd_int))) (pd_getA hr (pd_var (i := 0) rfl) (pd_str)))))) (pss_one (ps_set (i := 10) nd rfl (by first | exact .inl rfl | exact .inr rfl) (pd_tup (pa_cons (pd_str) (pa_cons (pd_tup (pa_cons (pd_str) (pa_cons (pd_str) (pa_nil)))) (pa_nil)))))) (pss_one (ps_if (pt_cmp L2.op_gt real_gt (by rfl) (pd_var (i := 3) rfl) (pd_int)) (pss_cons (ps_set (i := 11) nd rfl (by first | exact .inl rfl | exact .inr rfl) (pd_tup (pa_cons (pd_var (i := 7) rfl) (pa_cons (pd_ix (fun _ _ => rfl) (pd_var (i := 6) rfl) (pd_int)) (pa_cons (pd_add (pd_getA hr (pd_var (i := 0) rfl) (pd_str)) (pd_var (i := 9) rfl)) (pa_nil)))))) (pss_cons (ps_asg (pd_call (y := "_law_place") (ok "_law_place" (by decide)) hr rfl (pa_cons (pd_getA hr (pd_var (i := 0) rfl) (pd_str)) (pa_cons (pd_tup (pa_cons (pd_str) (pa_cons (pd_ix (fun _ _ => rfl) (pd_var (i := 6) rfl) (pd_int)) (pa_cons (pd_ix (fun _ _ => rfl) (pd_var (i := 11) rfl) (pd_int)) (pa_nil))))) (pa_nil)))) (pg_subD hr (pd_getA hr (pd_var (i := 0) rfl) (pd_str)) (pd_var (i := 7) rfl))) (pss_cons (ps_set (i := 12) nd rfl (by first | exact .inl rfl | exact .inr rfl) (pd_if (pt_tru (pd_ix (fun _ _ => rfl) (pd_var (i := 6) rfl) (pd_int))) (pd_var (i := 2) rfl) (pd_add (pd_var (i := 2) rfl) (pd_lst (pa_cons (pd_var (i := 11) rfl) (pa_nil)))))) (pss_cons (ps_set (i := 13) nd rfl (by first | exact .inl rfl | exact .inr rfl) (pd_add (pd_add (pd_var (i := 4) rfl) (pd_int)) (pd_if (pt_tru (pd_ix (fun _ _ => rfl) (pd_var (i := 6) rfl) (pd_int))) (pd_var (i := 9) rfl) (pd_int)))) (pss_one (ps_set (i := 10) nd rfl (by first | exact .inl rfl | exact .inr rfl) (pd_tup (pa_cons (pd_str) (pa_cons (pd_ix (fun _ _ => rfl) (pd_var (i := 6) rfl) (pd_int)) (pa_cons (pd_var (i := 8) rfl) (pa_cons (pd_call (y := "_law_grow") (ok "_law_grow" (by decide)) hr rfl (pa_cons (pd_var (i := 0) rfl) (pa_cons (pd_add (pd_var (i := 1) rfl) (pd_lst (pa_cons (pd_var (i := 11) rfl) (pa_nil)))) (pa_cons (pd_var (i := 12) rfl) (pa_cons (pd_sub (pd_var (i := 3) rfl) (pd_int)) (pa_cons (pd_var (i := 13) rfl) (pa_cons (pd_sub (pd_var (i := 5) rfl) (pd_int)) (pa_nil)))))))) (pa_nil)))))))))))) (pss_nil)))) (pss_one (ps_ret (pd_tup (pa_cons (pd_str) (pa_cons (pd_tup (pa_cons (pd_ix (fun _ _ => rfl) (pd_var (i := 6) rfl) (pd_int)) (pa_cons (pd_int) (pa_nil)))) (pa_cons (pd_call (y := "_law_word_term") (ok "_law_word_term" (by decide)) hr rfl (pa_cons (pd_var (i := 0) rfl) (pa_cons (pd_int) (pa_cons (pd_int) (pa_nil))))) (pa_cons (pd_var (i := 10) rfl) (pa_cons (pd_tup (pa_cons (pd_str) (pa_cons (pd_tup (pa_cons (pd_str) (pa_cons (pd_var (i := 4) rfl) (pa_nil)))) (pa_nil)))) (pa_nil))))))))))))))))
theorem der_l_book_world {k : Nat} {c : Cl} (ok : ∀ y ∈ names, Own P w K mg base k (Str.ofString y) (c y)) (oks : ∀ q ∈ snames, OwnS P w K mg base k q.2 (Str.ofString q.1) (c q.1)) (zs : ∀ y ∈ blts, mg (Str.ofString y) = none) {fa : Addr} (cdv : Value) (A : Around) (outer : List PySem.Env) (s : Shared) (H : L2.Hp) (E : L2.XK) (hr : L2.Room k (A.deeper (envOfC "_law_book_world" (L2.defScope sl_book_world) s.heap.objs.size fa cdv))) :
    PDSs (L2.cxOf L2.CX0 P w K mg base nl_book_world "_law_book_world" (L2.defScope sl_book_world) fa cdv A outer s H E).nox (L2.defBody sl_book_world) (b_l_book_world c) := by
  have nd := scl_book_world.nd
  unfold b_l_book_world
  exact pss_cons (ps_set (i := 2) nd rfl (by first | exact .inl rfl | exact .inr rfl) (pd_callTy L2.call_tuple_of real_tupleB rfl (zs "tuple" (by decide)) bt_tuple (pa_cons (pd_lc (own := [("_law_k", 11)]) rfl nd (pi_r1 rfl (zs "range" (by decide)) (pd_call (y := "_law_draw") (ok "_law_draw" (by decide)) hr rfl (pa_cons (pd_var (i := 0) rfl) (pa_cons (pd_int) (pa_nil))))) (L2.blkOk_by (N := nl_book_world) (sc := L2.defScope sl_book_world) (by decide +kernel)) (fun _ _ _ _ _ => pg_name (i := 11) nd rfl (by first | exact .inl rfl | exact .inr rfl)) (fun _ _ _ _ _ => pts_nil) (fun _ _ _ _ _ => pd_tup (pa_cons (pd_call (y := "_law_pop") (ok "_law_pop" (by decide)) hr rfl (pa_cons (pd_var (i := 0) rfl) (pa_cons (pd_var (i := 1) rfl) (pa_nil)))) (pa_cons (pd_add (pd_int) (pd_call (y := "_law_draw") (ok "_law_draw" (by decide)) hr rfl (pa_cons (pd_var (i := 0) rfl) (pa_cons (pd_int) (pa_nil))))) (pa_nil)))) (by decide)) (pa_nil)))) (pss_cons (ps_set (i := 3) nd rfl (by first | exact .inl rfl | exact .inr rfl) (pd_tup (pa_cons (pd_str) (pa_cons (pd_int) (pa_cons (pd_int) (pa_nil)))))) (pss_cons (ps_set (i := 4) nd rfl (by first | exact .inl rfl | exact .inr rfl) (pd_tup (pa_cons (pd_str) (pa_cons (pd_call (y := "_law_pop") (ok "_law_pop" (by decide)) hr rfl (pa_cons (pd_var (i := 0) rfl) (pa_cons (pd_var (i := 1) rfl) (pa_nil)))) (pa_cons (pd_var (i := 2) rfl) (pa_cons (pd_add (pd_int) (pd_call (y := "_law_draw") (ok "_law_draw" (by decide)) hr rfl (pa_cons (pd_var (i := 0) rfl) (pa_cons (pd_int) (pa_nil))))) (pa_cons (pd_call (y := "_law_draw") (ok "_law_draw" (by decide)) hr rfl (pa_cons (pd_var (i := 0) rfl) (pa_cons (pd_int) (pa_nil)))) (pa_cons (pd_var (i := 3) rfl) (pa_cons (pd_var (i := 3) rfl) (pa_nil)))))))))) (pss_cons (ps_setLc (j := 5) (own := [("_law_k", 11)]) rfl nd rfl rfl (L2.sw_true rfl rfl rfl (by decide +kernel)) (pi_r1 rfl (zs "range" (by decide)) (pd_add (pd_int) (pd_call (y := "_law_draw") (ok "_law_draw" (by decide)) hr rfl (pa_cons (pd_var (i := 0) rfl) (pa_cons (pd_int) (pa_nil)))))) (L2.blkOk_by (N := nl_book_world) (sc := L2.defScope sl_book_world) (by decide +kernel)) (fun _ _ _ _ _ => pg_name (i := 11) nd rfl (by first | exact .inl rfl | exact .inr rfl)) (fun _ _ _ _ _ => pts_nil) (fun _ _ _ _ _ => pd_tup (pa_cons (pd_call (y := "_law_pop") (ok "_law_pop" (by decide)) hr rfl (pa_cons (pd_var (i := 0) rfl) (pa_cons (pd_var (i := 1) rfl) (pa_nil)))) (pa_cons (pd_add (pd_int) (pd_call (y := "_law_draw") (ok "_law_draw" (by decide)) hr rfl (pa_cons (pd_var (i := 0) rfl) (pa_cons (pd_int) (pa_nil))))) (pa_cons (pd_var (i := 11) rfl) (pa_nil))))) (by decide)) (pss_cons (ps_set (i := 6) nd rfl (by first | exact .inl rfl | exact .inr rfl) (pd_disp (.cons (pd_str) (pd_var (i := 0) rfl) (.cons (pd_str) (pd_var (i := 4) rfl) (.cons (pd_str) (pd_call (y := "_law_pop") (ok "_law_pop" (by decide)) hr rfl (pa_cons (pd_var (i := 0) rfl) (pa_cons (pd_var (i := 1) rfl) (pa_nil)))) (.cons (pd_str) (pd_callB L2.call_len real_lenB rfl (zs "len" (by decide)) bt_len (pa_cons (pd_var (i := 5) rfl) (pa_nil))) (.cons (pd_str) (pd_int) (.cons (pd_str) (pd_bl) (.cons (pd_str) (pd_dic) (.nil)))))))))) (pss_cons (ps_asg (pd_if (pt_tru (pd_call (y := "_law_draw") (ok "_law_draw" (by decide)) hr rfl (pa_cons (pd_var (i := 0) rfl) (pa_cons (pd_int) (pa_nil))))) (pd_lst (pa_cons (pd_tup (pa_cons (pd_str) (pa_cons (pd_int) (pa_cons (pd_int) (pa_nil))))) (pa_cons (pd_tup (pa_cons (pd_str) (pa_cons (pd_int) (pa_cons (pd_int) (pa_nil))))) (pa_cons (pd_tup (pa_cons (pd_str) (pa_cons (pd_int) (pa_cons (pd_int) (pa_cons (pd_int) (pa_nil)))))) (pa_nil))))) (pd_lst (pa_nil))) (pg_subD hr (pd_var (i := 6) rfl) (pd_str))) (pss_cons (ps_asg (pd_lc (own := [("_law_k", 11)]) rfl nd (pi_r1 rfl (zs "range" (by decide)) (pd_int)) (L2.blkOk_by (N := nl_book_world) (sc := L2.defScope sl_book_world) (by decide +kernel)) (fun _ _ _ _ _ => pg_name (i := 11) nd rfl (by first | exact .inl rfl | exact .inr rfl)) (fun _ _ _ _ _ => pts_nil) (fun _ _ _ _ _ => pd_call (y := "_law_pop") (ok "_law_pop" (by decide)) hr rfl (pa_cons (pd_var (i := 0) rfl) (pa_cons (pd_var (i := 1) rfl) (pa_nil)))) (by decide)) (pg_subD hr (pd_var (i := 6) rfl) (pd_str))) (pss_cons (ps_asg (pd_add (pd_int) (pd_call (y := "_law_draw") (ok "_law_draw" (by decide)) hr rfl (pa_cons (pd_var (i := 0) rfl) (pa_cons (pd_int) (pa_nil))))) (pg_subD hr (pd_var (i := 6) rfl) (pd_str))) (pss_cons (ps_asg (pd_add (pd_call (y := "_law_draw") (ok "_law_draw" (by decide)) hr rfl (pa_cons (pd_var (i := 0) rfl) (pa_cons (pd_int) (pa_nil)))) (pd_call (y := "_law_draw") (ok "_law_draw" (by decide)) hr rfl (pa_cons (pd_var (i := 0) rfl) (pa_cons (pd_int) (pa_nil))))) (pg_subD hr (pd_var (i := 6) rfl) (pd_str))) (pss_cons (ps_for PassesOwn.never rfl (pi_seq (pd_var (i := 5) rfl)) (pg_name (i := 7) nd rfl (by first | exact .inl rfl | exact .inr rfl)) (pss_one (ps_asg (pd_call (y := "_law_place") (ok "_law_place" (by decide)) hr rfl (pa_cons (pd_getA hr (pd_var (i := 6) rfl) (pd_str)) (pa_cons (pd_tup (pa_cons (pd_str) (pa_cons (pd_ix (fun _ _ => rfl) (pd_var (i := 7) rfl) (pd_int)) (pa_cons (pd_ix (fun _ _ => rfl) (pd_var (i := 7) rfl) (pd_int)) (pa_nil))))) (pa_nil)))) (pg_subD hr (pd_getA hr (pd_var (i := 6) rfl) (pd_str)) (pd_ix (fun _ _ => rfl) (pd_var (i := 7) rfl) (pd_int)))))) (pss_cons (ps_set (i := 8) nd rfl (by first | exact .inl rfl | exact .inr rfl) (pd_if (pt_tru (pd_call (y := "_law_draw") (ok "_law_draw" (by decide)) hr rfl (pa_cons (pd_var (i := 0) rfl) (pa_cons (pd_int) (pa_nil))))) (pd_int) (pd_add (pd_int) (pd_call (y := "_law_draw") (ok "_law_draw" (by decide)) hr rfl (pa_cons (pd_var (i := 0) rfl) (pa_cons (pd_int) (pa_nil))))))) (pss_cons (ps_set (i := 9) nd rfl (by first | exact .inl rfl | exact .inr rfl) (pd_call (y := "_law_grow") (ok "_law_grow" (by decide)) hr rfl (pa_cons (pd_var (i := 6) rfl) (pa_cons (pd_var (i := 5) rfl) (pa_cons (pd_var (i := 5) rfl) (pa_cons (pd_var (i := 8) rfl) (pa_cons (pd_int) (pa_cons (pd_add (pd_int) (pd_call (y := "_law_draw") (ok "_law_draw" (by decide)) hr rfl (pa_cons (pd_var (i := 0) rfl) (pa_cons (pd_int) (pa_nil))))) (pa_nil))))))))) (pss_cons (ps_if (pt_tru (pd_call (y := "_law_draw") (ok "_law_draw" (by decide)) hr rfl (pa_cons (pd_var (i := 0) rfl) (pa_cons (pd_int) (pa_nil))))) (pss_one (ps_expr (pd_m L2.mt_append real_append ty_list PySem.F.plainAttrs_list PySem.F.slot_list_append PySem.F.type_list_append (pd_getA hr (pd_var (i := 6) rfl) (pd_str)) (pa_cons (pd_tup (pa_cons (pd_str) (pa_cons (pd_int) (pa_cons (pd_int) (pa_nil))))) (pa_nil))))) (pss_nil)) (pss_cons (ps_set (i := 10) nd rfl (by first | exact .inl rfl | exact .inr rfl) (pd_callB L2.cr_sortedS real_sortedSB rfl (zs "sorted" (by decide)) bt_sorted (pa_cons (pd_add (pd_lst (pa_cons (pd_getA hr (pd_var (i := 6) rfl) (pd_str)) (pa_nil))) (pd_if (pt_tru (pd_getA hr (pd_var (i := 6) rfl) (pd_str))) (pd_lst (pa_cons (pd_ix (fun _ _ => rfl) (pd_var (i := 4) rfl) (pd_int)) (pa_nil))) (pd_lst (pa_nil)))) (pa_nil)))) (pss_one (ps_ret (pd_tup (pa_cons (pd_var (i := 4) rfl) (pa_cons (pd_tup (pa_cons (pd_str) (pa_cons (pd_callTy L2.call_tuple_of real_tupleB rfl (zs "tuple" (by decide)) bt_tuple (pa_cons (pd_lc (own := [("_law_row", 7)]) rfl nd (pi_seq (pd_var (i := 5) rfl)) (L2.blkOk_by (N := nl_book_world) (sc := L2.defScope sl_book_world) (by decide +kernel)) (fun _ _ _ _ _ => pg_name (i := 7) nd rfl (by first | exact .inl rfl | exact .inr rfl)) (fun _ _ _ _ _ => pts_nil) (fun _ _ _ _ _ => pd_ix (fun _ _ => rfl) (pd_var (i := 7) rfl) (pd_int)) (by decide)) (pa_nil))) (pa_cons (pd_callTy L2.call_tuple_of real_tupleB rfl (zs "tuple" (by decide)) bt_tuple (pa_cons (pd_var (i := 10) rfl) (pa_nil))) (pa_cons (pd_callTy L2.call_tuple_of real_tupleB rfl (zs "tuple" (by decide)) bt_tuple (pa_cons (pd_getA hr (pd_var (i := 6) rfl) (pd_str)) (pa_nil))) (pa_cons (pd_var (i := 9) rfl) (pa_nil))))))) (pa_nil)))))))))))))))))))
theorem der_l_walk {k : Nat} {c : Cl} (ok : ∀ y ∈ names, Own P w K mg base k (Str.ofString y) (c y)) (oks : ∀ q ∈ snames, OwnS P w K mg base k q.2 (Str.ofString q.1) (c q.1)) (zs : ∀ y ∈ blts, mg (Str.ofString y) = none) {fa : Addr} (cdv : Value) (A : Around) (outer : List PySem.Env) (s : Shared) (H : L2.Hp) (E : L2.XK) (hr : L2.Room k (A.deeper (envOfC "_law_walk" (L2.defScope sl_walk) s.heap.objs.size fa cdv))) :
    PDSs (L2.cxOf L2.CX0 P w K mg base nl_walk "_law_walk" (L2.defScope sl_walk) fa cdv A outer s H E).nox (L2.defBody sl_walk) (b_l_walk c) := by
  have nd := scl_walk.nd
  unfold b_l_walk
  exact pss_cons (ps_set (i := 3) nd rfl (by first | exact .inl rfl | exact .inr rfl) (pd_call (y := "_law_values") (ok "_law_values" (by decide)) hr rfl (pa_cons (pd_ix (fun _ _ => rfl) (pd_var (i := 0) rfl) (pd_int)) (pa_cons (pd_add (pd_var (i := 1) rfl) (pd_var (i := 2) rfl)) (pa_nil))))) (pss_cons (ps_set (i := 4) nd rfl (by first | exact .inl rfl | exact .inr rfl) (pd_ix (fun _ _ => rfl) (pd_var (i := 0) rfl) (pd_int))) (pss_cons (ps_par rfl nd rfl rfl (by decide) (L2.ps_par rfl nd rfl rfl (by decide) rfl rfl (pa_cons (pd_lst (pa_nil)) (pa_cons (pd_lst (pa_nil)) (pa_nil))) (by rfl))) (pss_cons (ps_for PassesOwn.never rfl (pi_r1 rfl (zs "range" (by decide)) (pd_int)) (pg_name (i := 7) nd rfl (by first | exact .inl rfl | exact .inr rfl)) (pss_cons (ps_if (pt_cmp (L2.op_eqD hr.units) real_eq (by rfl) (pd_ix (fun _ _ => rfl) (pd_var (i := 4) rfl) (pd_int)) (pd_str)) (pss_one (ps_break)) (pss_nil)) (pss_one (ps_if (pt_cmp (L2.op_eqD hr.units) real_eq (by rfl) (pd_ix (fun _ _ => rfl) (pd_var (i := 4) rfl) (pd_int)) (pd_str)) (pss_cons (ps_set (i := 8) nd rfl (by first | exact .inl rfl | exact .inr rfl) (pd_callTy L2.call_tuple_of real_tupleB rfl (zs "tuple" (by decide)) bt_tuple (pa_cons (pd_lc (own := [("_law_term_here", 11)]) rfl nd (pi_seq (pd_ix (fun _ _ => rfl) (pd_var (i := 4) rfl) (pd_int))) (L2.blkOk_by (N := nl_walk) (sc := L2.defScope sl_walk) (by decide +kernel)) (fun _ _ _ _ _ => pg_name (i := 11) nd rfl (by first | exact .inl rfl | exact .inr rfl)) (fun _ _ _ _ _ => pts_nil) (fun _ _ _ _ _ => pd_ix (fun _ _ => rfl) (pd_var (i := 3) rfl) (pd_var (i := 11) rfl)) (by decide)) (pa_nil)))) (pss_cons (ps_if (pt_cmp (L2.op_eqD hr.units) real_eq (by rfl) (pd_callB L2.call_len real_lenB rfl (zs "len" (by decide)) bt_len (pa_cons (pd_var (i := 6) rfl) (pa_nil))) (pd_callB L2.call_len real_lenB rfl (zs "len" (by decide)) bt_len (pa_cons (pd_var (i := 2) rfl) (pa_nil)))) (pss_one (ps_ret (pd_tup (pa_cons (pd_callTy L2.call_tuple_of real_tupleB rfl (zs "tuple" (by decide)) bt_tuple (pa_cons (pd_var (i := 5) rfl) (pa_nil))) (pa_cons (pd_callTy L2.call_tuple_of real_tupleB rfl (zs "tuple" (by decide)) bt_tuple (pa_cons (pd_var (i := 6) rfl) (pa_nil))) (pa_cons (pd_tup (pa_cons (pd_str) (pa_cons (pd_ix (fun _ _ => rfl) (pd_var (i := 4) rfl) (pd_int)) (pa_cons (pd_var (i := 8) rfl) (pa_nil))))) (pa_nil))))))) (pss_nil)) (pss_cons (ps_expr (pd_m L2.mt_append real_append ty_list PySem.F.plainAttrs_list PySem.F.slot_list_append PySem.F.type_list_append (pd_var (i := 6) rfl) (pa_cons (pd_tup (pa_cons (pd_ix (fun _ _ => rfl) (pd_var (i := 4) rfl) (pd_int)) (pa_cons (pd_var (i := 8) rfl) (pa_nil)))) (pa_nil)))) (pss_one (ps_set (i := 4) nd rfl (by first | exact .inl rfl | exact .inr rfl) (pd_ix (fun _ _ => rfl) (pd_var (i := 4) rfl) (pd_int))))))) (pss_cons (ps_set (i := 9) nd rfl (by first | exact .inl rfl | exact .inr rfl) (pd_ix (fun _ _ => rfl) (pd_var (i := 3) rfl) (pd_ix (fun _ _ => rfl) (pd_var (i := 4) rfl) (pd_int)))) (pss_cons (ps_if (pt_cmp (L2.op_eqD hr.units) real_eq (by rfl) (pd_ix (fun _ _ => rfl) (pd_var (i := 4) rfl) (pd_int)) (pd_str)) (pss_one (ps_expr (pd_m L2.mt_append real_append ty_list PySem.F.plainAttrs_list PySem.F.slot_list_append PySem.F.type_list_append (pd_var (i := 5) rfl) (pa_cons (pd_tup (pa_cons (pd_ix (fun _ _ => rfl) (pd_ix (fun _ _ => rfl) (pd_var (i := 4) rfl) (pd_int)) (pd_int)) (pa_cons (pd_ix (fun _ _ => rfl) (pd_ix (fun _ _ => rfl) (pd_var (i := 4) rfl) (pd_int)) (pd_int)) (pa_cons (pd_var (i := 9) rfl) (pa_nil))))) (pa_nil))))) (pss_nil)) (pss_one (ps_set (i := 4) nd rfl (by first | exact .inl rfl | exact .inr rfl) (pd_ix (fun _ _ => rfl) (pd_var (i := 4) rfl) (pd_sub (pd_int) (pd_var (i := 9) rfl))))))))))) (pss_cons (ps_set (i := 10) nd rfl (by first | exact .inl rfl | exact .inr rfl) (pd_ix (fun _ _ => rfl) (pd_var (i := 4) rfl) (pd_int))) (pss_cons (ps_if (pt_cmp (L2.op_eqD hr.units) real_eq (by rfl) (pd_ix (fun _ _ => rfl) (pd_var (i := 10) rfl) (pd_int)) (pd_str)) (pss_one (ps_set (i := 10) nd rfl (by first | exact .inl rfl | exact .inr rfl) (pd_tup (pa_cons (pd_str) (pa_cons (pd_ix (fun _ _ => rfl) (pd_var (i := 3) rfl) (pd_ix (fun _ _ => rfl) (pd_var (i := 10) rfl) (pd_int))) (pa_nil)))))) (pss_nil)) (pss_one (ps_ret (pd_tup (pa_cons (pd_callTy L2.call_tuple_of real_tupleB rfl (zs "tuple" (by decide)) bt_tuple (pa_cons (pd_var (i := 5) rfl) (pa_nil))) (pa_cons (pd_callTy L2.call_tuple_of real_tupleB rfl (zs "tuple" (by decide)) bt_tuple (pa_cons (pd_var (i := 6) rfl) (pa_nil))) (pa_cons (pd_var (i := 10) rfl) (pa_nil))))))))))))
theorem der_l_law {k : Nat} {c : Cl} (ok : ∀ y ∈ names, Own P w K mg base k (Str.ofString y) (c y)) (oks : ∀ q ∈ snames, OwnS P w K mg base k q.2 (Str.ofString q.1) (c q.1)) (zs : ∀ y ∈ blts, mg (Str.ofString y) = none) {fa : Addr} (cdv : Value) (A : Around) (outer : List PySem.Env) (s : Shared) (H : L2.Hp) (E : L2.XK) (hr : L2.Room k (A.deeper (envOfC "law" (L2.defScope sl_law) s.heap.objs.size fa cdv))) :
    PDSs (L2.cxOf L2.CX0 P w K mg base nl_law "law" (L2.defScope sl_law) fa cdv A outer s H E).nox (L2.defBody sl_law) (b_l_law c) := by
  have nd := scl_law.nd
  unfold b_l_law
  exact pss_cons (ps_set (i := 1) nd rfl (by first | exact .inl rfl | exact .inr rfl) (pd_call (y := "_law_begin") (ok "_law_begin" (by decide)) hr rfl (pa_cons (pd_var (i := 0) rfl) (pa_nil)))) (pss_cons (ps_set (i := 2) nd rfl (by first | exact .inl rfl | exact .inr rfl) (pd_call0 (y := "_law_pool") (ok "_law_pool" (by decide)) hr rfl)) (pss_cons (ps_asg (pd_call (y := "_law_book_world") (ok "_law_book_world" (by decide)) hr rfl (pa_cons (pd_var (i := 1) rfl) (pa_cons (pd_var (i := 2) rfl) (pa_nil)))) (pg_tup rfl (pgs_cons (pg_name (i := 3) nd rfl (by first | exact .inl rfl | exact .inr rfl)) (pgs_cons (pg_name (i := 4) nd rfl (by first | exact .inl rfl | exact .inr rfl)) (pgs_nil))))) (pss_cons (ps_set (i := 5) nd rfl (by first | exact .inl rfl | exact .inr rfl) (pd_ix (fun _ _ => rfl) (pd_call (y := "_law_book_world") (ok "_law_book_world" (by decide)) hr rfl (pa_cons (pd_var (i := 1) rfl) (pa_cons (pd_var (i := 2) rfl) (pa_nil)))) (pd_int))) (pss_cons (ps_set (i := 6) nd rfl (by first | exact .inl rfl | exact .inr rfl) (pd_callTy L2.call_tuple_of real_tupleB rfl (zs "tuple" (by decide)) bt_tuple (pa_cons (pd_lc (own := [("_law_width", 14)]) rfl nd (pi_seq (pd_ix (fun _ _ => rfl) (pd_var (i := 5) rfl) (pd_int))) (L2.blkOk_by (N := nl_law) (sc := L2.defScope sl_law) (by decide +kernel)) (fun _ _ _ _ _ => pg_name (i := 14) nd rfl (by first | exact .inl rfl | exact .inr rfl)) (fun _ _ _ _ _ => pts_nil) (fun _ _ _ _ _ => pd_int) (by decide)) (pa_nil)))) (pss_cons (ps_set (i := 7) nd rfl (by first | exact .inl rfl | exact .inr rfl) (pd_call (y := "_law_tuples") (ok "_law_tuples" (by decide)) hr rfl (pa_cons (pd_ix (fun _ _ => rfl) (pd_var (i := 4) rfl) (pd_int)) (pa_nil)))) (pss_cons (ps_if (pt_cmp L2.op_gt real_gt (by rfl) (pd_callB L2.call_len real_lenB rfl (zs "len" (by decide)) bt_len (pa_cons (pd_var (i := 7) rfl) (pa_nil))) (pd_int)) (pss_one (ps_set (i := 7) nd rfl (by first | exact .inl rfl | exact .inr rfl) (pd_lc (own := [("_law_k", 15)]) rfl nd (pi_r1 rfl (zs "range" (by decide)) (pd_int)) (L2.blkOk_by (N := nl_law) (sc := L2.defScope sl_law) (by decide +kernel)) (fun _ _ _ _ _ => pg_name (i := 15) nd rfl (by first | exact .inl rfl | exact .inr rfl)) (fun _ _ _ _ _ => pts_nil) (fun _ _ _ _ _ => pd_call (y := "_law_pick") (ok "_law_pick" (by decide)) hr rfl (pa_cons (pd_var (i := 1) rfl) (pa_cons (pd_var (i := 7) rfl) (pa_nil)))) (by decide)))) (pss_nil)) (pss_cons (ps_for PassesOwn.never rfl (pi_seq (pd_var (i := 7) rfl)) (pg_name (i := 8) nd rfl (by first | exact .inl rfl | exact .inr rfl)) (pss_cons (ps_set (i := 9) nd rfl (by first | exact .inl rfl | exact .inr rfl) (pd_tup (pa_nil))) (pss_cons (ps_for PassesOwn.never rfl (pi_r1 rfl (zs "range" (by decide)) (pd_int)) (pg_name (i := 10) nd rfl (by first | exact .inl rfl | exact .inr rfl)) (pss_cons (ps_set (i := 11) nd rfl (by first | exact .inl rfl | exact .inr rfl) (pd_call (y := "_law_walk") (ok "_law_walk" (by decide)) hr rfl (pa_cons (pd_var (i := 4) rfl) (pa_cons (pd_var (i := 8) rfl) (pa_cons (pd_var (i := 9) rfl) (pa_nil)))))) (pss_cons (ps_set (i := 12) nd rfl (by first | exact .inl rfl | exact .inr rfl) (pd_call (y := "replayed") (ok "replayed" (by decide)) hr rfl (pa_cons (pd_var (i := 4) rfl) (pa_cons (pd_var (i := 8) rfl) (pa_cons (pd_var (i := 9) rfl) (pa_nil)))))) (pss_cons (ps_if (ptw (pw_or (pt_not (pt_tru (pd_call (y := "_law_plain") (ok "_law_plain" (by decide)) hr rfl (pa_cons (pd_var (i := 12) rfl) (pa_nil))))) (pw_or1 (pt_cmp (L2.op_neD hr.units) real_ne (by rfl) (pd_var (i := 12) rfl) (pd_var (i := 11) rfl))))) (pss_one (ps_ret (pd_bl))) (pss_nil)) (pss_cons (ps_if (pt_cmp (L2.op_neD hr.units) real_ne (by rfl) (pd_ix (fun _ _ => rfl) (pd_ix (fun _ _ => rfl) (pd_var (i := 11) rfl) (pd_int)) (pd_int)) (pd_str)) (pss_one (ps_break)) (pss_nil)) (pss_cons (ps_setLc (j := 13) (own := [("_law_row", 16), ("_law_word_here", 17)]) rfl nd rfl rfl (L2.sw_true rfl rfl rfl (by decide +kernel)) (pi_zip rfl (zs "zip" (by decide)) (pd_ix (fun _ _ => rfl) (pd_var (i := 11) rfl) (pd_int)) (pd_var (i := 9) rfl)) (L2.blkOk_by (N := nl_law) (sc := L2.defScope sl_law) (by decide +kernel)) (fun _ _ _ _ _ => pg_tup rfl (pgs_cons (pg_name (i := 16) nd rfl (by first | exact .inl rfl | exact .inr rfl)) (pgs_cons (pg_name (i := 17) nd rfl (by first | exact .inl rfl | exact .inr rfl)) (pgs_nil)))) (fun _ _ _ _ _ => pts_one (pt_cmp (L2.op_eqD hr.units) real_eq (by rfl) (pd_var (i := 16) rfl) (pd_sl (pd_ix (fun _ _ => rfl) (pd_var (i := 11) rfl) (pd_int)) (po_some (pd_int)) (po_none)))) (fun _ _ _ _ _ => pd_var (i := 17) rfl) (by decide)) (pss_one (ps_set (i := 9) nd rfl (by first | exact .inl rfl | exact .inr rfl) (pd_add (pd_var (i := 9) rfl) (pd_tup (pa_cons (pd_if (ptw (pw_and (pt_tru (pd_ix (fun _ _ => rfl) (pd_var (i := 3) rfl) (pd_int))) (pw_and1 (pt_tru (pd_var (i := 13) rfl))))) (pd_ix (fun _ _ => rfl) (pd_var (i := 13) rfl) (pd_int)) (pd_call (y := "_law_draw") (ok "_law_draw" (by decide)) hr rfl (pa_cons (pd_var (i := 1) rfl) (pa_cons (pd_shl (pd_int) (pd_ix (fun _ _ => rfl) (pd_var (i := 3) rfl) (pd_int))) (pa_nil))))) (pa_nil)))))))))))) (pss_one (ps_if (pt_cmp (L2.op_neD hr.units) real_ne (by rfl) (pd_call (y := "replayed") (ok "replayed" (by decide)) hr rfl (pa_cons (pd_var (i := 5) rfl) (pa_cons (pd_var (i := 6) rfl) (pa_cons (pd_tup (pa_nil)) (pa_nil))))) (pd_call (y := "_law_walk") (ok "_law_walk" (by decide)) hr rfl (pa_cons (pd_var (i := 5) rfl) (pa_cons (pd_var (i := 6) rfl) (pa_cons (pd_tup (pa_nil)) (pa_nil)))))) (pss_one (ps_ret (pd_bl))) (pss_nil)))))) (pss_one (ps_ret (pd_bl))))))))))
end
theorem all_mk {l : PySem.W.OpenLaw} {w : World} {K : PySem.W.Frag} {h : Heap} {mg : Str → Option Value} {fa : Addr} (X : K.In h) (G : h.Ns mainGlobals mg) (hfa : mg "law" = some (.ref fa))
    {f1 : Addr} {od1 an1 : Option Addr} {sl1 : Array (Option Value)} {oc1 kV1 dc1 pm1 cd1 ct1 : Value}
    {f2 : Addr} {od2 an2 : Option Addr} {sl2 : Array (Option Value)} {oc2 kV2 dc2 pm2 cd2 ct2 : Value}
    {f3 : Addr} {od3 an3 : Option Addr} {sl3 : Array (Option Value)} {oc3 kV3 dc3 pm3 cd3 ct3 : Value}
    {f4 : Addr} {od4 an4 : Option Addr} {sl4 : Array (Option Value)} {oc4 kV4 dc4 pm4 cd4 ct4 : Value}
    {f5 : Addr} {od5 an5 : Option Addr} {sl5 : Array (Option Value)} {oc5 kV5 dc5 pm5 cd5 ct5 : Value}
    {f6 : Addr} {od6 an6 : Option Addr} {sl6 : Array (Option Value)} {oc6 kV6 dc6 pm6 cd6 ct6 : Value}
    {f7 : Addr} {od7 an7 : Option Addr} {sl7 : Array (Option Value)} {oc7 kV7 dc7 pm7 cd7 ct7 : Value}
    {f8 : Addr} {od8 an8 : Option Addr} {sl8 : Array (Option Value)} {oc8 kV8 dc8 pm8 cd8 ct8 : Value}
    {f9 : Addr} {od9 an9 : Option Addr} {sl9 : Array (Option Value)} {oc9 kV9 dc9 pm9 cd9 ct9 : Value}
    {f10 : Addr} {od10 an10 : Option Addr} {sl10 : Array (Option Value)} {oc10 kV10 dc10 pm10 cd10 ct10 : Value}
    {f11 : Addr} {od11 an11 : Option Addr} {sl11 : Array (Option Value)} {oc11 kV11 dc11 pm11 cd11 ct11 : Value}
    {f12 : Addr} {od12 an12 : Option Addr} {sl12 : Array (Option Value)} {oc12 kV12 dc12 pm12 cd12 ct12 : Value}
    {f13 : Addr} {od13 an13 : Option Addr} {sl13 : Array (Option Value)} {oc13 kV13 dc13 pm13 cd13 ct13 : Value}
    {f14 : Addr} {od14 an14 : Option Addr} {sl14 : Array (Option Value)} {oc14 kV14 dc14 pm14 cd14 ct14 : Value}
    {f15 : Addr} {od15 an15 : Option Addr} {sl15 : Array (Option Value)} {oc15 kV15 dc15 pm15 cd15 ct15 : Value}
    {f16 : Addr} {od16 an16 : Option Addr} {sl16 : Array (Option Value)} {oc16 kV16 dc16 pm16 cd16 ct16 : Value}
    {f17 : Addr} {od17 an17 : Option Addr} {sl17 : Array (Option Value)} {oc17 kV17 dc17 pm17 cd17 ct17 : Value}
    {f18 : Addr} {od18 an18 : Option Addr} {sl18 : Array (Option Value)} {oc18 kV18 dc18 pm18 cd18 ct18 : Value}
    {f19 : Addr} {od19 an19 : Option Addr} {sl19 : Array (Option Value)} {oc19 kV19 dc19 pm19 cd19 ct19 : Value}
    {f20 : Addr} {od20 an20 : Option Addr} {sl20 : Array (Option Value)} {oc20 kV20 dc20 pm20 cd20 ct20 : Value}
    {f21 : Addr} {od21 an21 : Option Addr} {sl21 : Array (Option Value)} {oc21 kV21 dc21 pm21 cd21 ct21 : Value}
    {f22 : Addr} {od22 an22 : Option Addr} {sl22 : Array (Option Value)} {oc22 kV22 dc22 pm22 cd22 ct22 : Value}
    {f23 : Addr} {od23 an23 : Option Addr} {sl23 : Array (Option Value)} {oc23 kV23 dc23 pm23 cd23 ct23 : Value}
    {f24 : Addr} {od24 an24 : Option Addr} {sl24 : Array (Option Value)} {oc24 kV24 dc24 pm24 cd24 ct24 : Value}
    {f25 : Addr} {od25 an25 : Option Addr} {sl25 : Array (Option Value)} {oc25 kV25 dc25 pm25 cd25 ct25 : Value}
    {f26 : Addr} {od26 an26 : Option Addr} {sl26 : Array (Option Value)} {oc26 kV26 dc26 pm26 cd26 ct26 : Value}
    {f27 : Addr} {od27 an27 : Option Addr} {sl27 : Array (Option Value)} {oc27 kV27 dc27 pm27 cd27 ct27 : Value}
    {f28 : Addr} {od28 an28 : Option Addr} {sl28 : Array (Option Value)} {oc28 kV28 dc28 pm28 cd28 ct28 : Value}
    {f29 : Addr} {od29 an29 : Option Addr} {sl29 : Array (Option Value)} {oc29 kV29 dc29 pm29 cd29 ct29 : Value}
    {f30 : Addr} {od30 an30 : Option Addr} {sl30 : Array (Option Value)} {oc30 kV30 dc30 pm30 cd30 ct30 : Value}
    {f31 : Addr} {od31 an31 : Option Addr} {sl31 : Array (Option Value)} {oc31 kV31 dc31 pm31 cd31 ct31 : Value}
    {f32 : Addr} {od32 an32 : Option Addr} {sl32 : Array (Option Value)} {oc32 kV32 dc32 pm32 cd32 ct32 : Value}
    {f33 : Addr} {od33 an33 : Option Addr} {sl33 : Array (Option Value)} {oc33 kV33 dc33 pm33 cd33 ct33 : Value}
    {f34 : Addr} {od34 an34 : Option Addr} {sl34 : Array (Option Value)} {oc34 kV34 dc34 pm34 cd34 ct34 : Value}
    {f35 : Addr} {od35 an35 : Option Addr} {sl35 : Array (Option Value)} {oc35 kV35 dc35 pm35 cd35 ct35 : Value}
    {f36 : Addr} {od36 an36 : Option Addr} {sl36 : Array (Option Value)} {oc36 kV36 dc36 pm36 cd36 ct36 : Value}
    (a1 : PySem.W.nsIn K mainGlobals "greatest" = some (some (.ref f1))) (l1 : K.lookup f1 = some ⟨oc1, od1, .func (PySem.W.fnOf "greatest" "greatest" (L2.defArgs sp_greatest) (L2.defBody sp_greatest) (L2.defScope sp_greatest) .none kV1 dc1 pm1 an1 cd1 ct1), sl1⟩) (c1 : PySem.W.codeIn K cd1 "greatest" = true) (k1 : PySem.W.keepIn K (.ref f1) = true)
    (a2 : PySem.W.nsIn K mainGlobals "related" = some (some (.ref f2))) (l2 : K.lookup f2 = some ⟨oc2, od2, .func (PySem.W.fnOf "related" "related" (L2.defArgs sp_related) (L2.defBody sp_related) (L2.defScope sp_related) .none kV2 dc2 pm2 an2 cd2 ct2), sl2⟩) (c2 : PySem.W.codeIn K cd2 "related" = true) (k2 : PySem.W.keepIn K (.ref f2) = true)
    (a3 : PySem.W.nsIn K mainGlobals "shifted" = some (some (.ref f3))) (l3 : K.lookup f3 = some ⟨oc3, od3, .func (PySem.W.fnOf "shifted" "shifted" (L2.defArgs sp_shifted) (L2.defBody sp_shifted) (L2.defScope sp_shifted) .none kV3 dc3 pm3 an3 cd3 ct3), sl3⟩) (c3 : PySem.W.codeIn K cd3 "shifted" = true) (k3 : PySem.W.keepIn K (.ref f3) = true)
    (a4 : PySem.W.nsIn K mainGlobals "divided" = some (some (.ref f4))) (l4 : K.lookup f4 = some ⟨oc4, od4, .func (PySem.W.fnOf "divided" "divided" (L2.defArgs sp_divided) (L2.defBody sp_divided) (L2.defScope sp_divided) .none kV4 dc4 pm4 an4 cd4 ct4), sl4⟩) (c4 : PySem.W.codeIn K cd4 "divided" = true) (k4 : PySem.W.keepIn K (.ref f4) = true)
    (a5 : PySem.W.nsIn K mainGlobals "reckoned" = some (some (.ref f5))) (l5 : K.lookup f5 = some ⟨oc5, od5, .func (PySem.W.fnOf "reckoned" "reckoned" (L2.defArgs sp_reckoned) (L2.defBody sp_reckoned) (L2.defScope sp_reckoned) .none kV5 dc5 pm5 an5 cd5 ct5), sl5⟩) (c5 : PySem.W.codeIn K cd5 "reckoned" = true) (k5 : PySem.W.keepIn K (.ref f5) = true)
    (a6 : PySem.W.nsIn K mainGlobals "result" = some (some (.ref f6))) (l6 : K.lookup f6 = some ⟨oc6, od6, .func (PySem.W.fnOf "result" "result" (L2.defArgs sp_result) (L2.defBody sp_result) (L2.defScope sp_result) .none kV6 dc6 pm6 an6 cd6 ct6), sl6⟩) (c6 : PySem.W.codeIn K cd6 "result" = true) (k6 : PySem.W.keepIn K (.ref f6) = true)
    (a7 : PySem.W.nsIn K mainGlobals "values_of" = some (some (.ref f7))) (l7 : K.lookup f7 = some ⟨oc7, od7, .func (PySem.W.fnOf "values_of" "values_of" (L2.defArgs sp_values_of) (L2.defBody sp_values_of) (L2.defScope sp_values_of) .none kV7 dc7 pm7 an7 cd7 ct7), sl7⟩) (c7 : PySem.W.codeIn K cd7 "values_of" = true) (k7 : PySem.W.keepIn K (.ref f7) = true)
    (a8 : PySem.W.nsIn K mainGlobals "replayed" = some (some (.ref f8))) (l8 : K.lookup f8 = some ⟨oc8, od8, .func (PySem.W.fnOf "replayed" "replayed" (L2.defArgs sp_replayed) (L2.defBody sp_replayed) (L2.defScope sp_replayed) .none kV8 dc8 pm8 an8 cd8 ct8), sl8⟩) (c8 : PySem.W.codeIn K cd8 "replayed" = true) (k8 : PySem.W.keepIn K (.ref f8) = true)
    (a9 : PySem.W.nsIn K mainGlobals "_law_begin" = some (some (.ref f9))) (l9 : K.lookup f9 = some ⟨oc9, od9, .func (PySem.W.fnOf "_law_begin" "_law_begin" (L2.defArgs sl_begin) (L2.defBody sl_begin) (L2.defScope sl_begin) .none kV9 dc9 pm9 an9 cd9 ct9), sl9⟩) (c9 : PySem.W.codeIn K cd9 "_law_begin" = true) (k9 : PySem.W.keepIn K (.ref f9) = true)
    (a10 : PySem.W.nsIn K mainGlobals "_law_draw" = some (some (.ref f10))) (l10 : K.lookup f10 = some ⟨oc10, od10, .func (PySem.W.fnOf "_law_draw" "_law_draw" (L2.defArgs sl_draw) (L2.defBody sl_draw) (L2.defScope sl_draw) .none kV10 dc10 pm10 an10 cd10 ct10), sl10⟩) (c10 : PySem.W.codeIn K cd10 "_law_draw" = true) (k10 : PySem.W.keepIn K (.ref f10) = true)
    (a11 : PySem.W.nsIn K mainGlobals "_law_pick" = some (some (.ref f11))) (l11 : K.lookup f11 = some ⟨oc11, od11, .func (PySem.W.fnOf "_law_pick" "_law_pick" (L2.defArgs sl_pick) (L2.defBody sl_pick) (L2.defScope sl_pick) .none kV11 dc11 pm11 an11 cd11 ct11), sl11⟩) (c11 : PySem.W.codeIn K cd11 "_law_pick" = true) (k11 : PySem.W.keepIn K (.ref f11) = true)
    (a12 : PySem.W.nsIn K mainGlobals "_law_pop" = some (some (.ref f12))) (l12 : K.lookup f12 = some ⟨oc12, od12, .func (PySem.W.fnOf "_law_pop" "_law_pop" (L2.defArgs sl_pop) (L2.defBody sl_pop) (L2.defScope sl_pop) .none kV12 dc12 pm12 an12 cd12 ct12), sl12⟩) (c12 : PySem.W.codeIn K cd12 "_law_pop" = true) (k12 : PySem.W.keepIn K (.ref f12) = true)
    (a13 : PySem.W.nsIn K mainGlobals "_law_pool" = some (some (.ref f13))) (l13 : K.lookup f13 = some ⟨oc13, od13, .func (PySem.W.fnOf "_law_pool" "_law_pool" (L2.defArgs sl_pool) (L2.defBody sl_pool) (L2.defScope sl_pool) .none kV13 dc13 pm13 an13 cd13 ct13), sl13⟩) (c13 : PySem.W.codeIn K cd13 "_law_pool" = true) (k13 : PySem.W.keepIn K (.ref f13) = true)
    (a14 : PySem.W.nsIn K mainGlobals "_law_is_int" = some (some (.ref f14))) (l14 : K.lookup f14 = some ⟨oc14, od14, .func (PySem.W.fnOf "_law_is_int" "_law_is_int" (L2.defArgs sl_is_int) (L2.defBody sl_is_int) (L2.defScope sl_is_int) .none kV14 dc14 pm14 an14 cd14 ct14), sl14⟩) (c14 : PySem.W.codeIn K cd14 "_law_is_int" = true) (k14 : PySem.W.keepIn K (.ref f14) = true)
    (a15 : PySem.W.nsIn K mainGlobals "_law_tuples" = some (some (.ref f15))) (l15 : K.lookup f15 = some ⟨oc15, od15, .func (PySem.W.fnOf "_law_tuples" "_law_tuples" (L2.defArgs sl_tuples) (L2.defBody sl_tuples) (L2.defScope sl_tuples) .none kV15 dc15 pm15 an15 cd15 ct15), sl15⟩) (c15 : PySem.W.codeIn K cd15 "_law_tuples" = true) (k15 : PySem.W.keepIn K (.ref f15) = true)
    (a16 : PySem.W.nsIn K mainGlobals "_law_word" = some (some (.ref f16))) (l16 : K.lookup f16 = some ⟨oc16, od16, .func (PySem.W.fnOf "_law_word" "_law_word" (L2.defArgs sl_word) (L2.defBody sl_word) (L2.defScope sl_word) .none kV16 dc16 pm16 an16 cd16 ct16), sl16⟩) (c16 : PySem.W.codeIn K cd16 "_law_word" = true) (k16 : PySem.W.keepIn K (.ref f16) = true)
    (a17 : PySem.W.nsIn K mainGlobals "_law_values" = some (some (.ref f17))) (l17 : K.lookup f17 = some ⟨oc17, od17, .func (PySem.W.fnOf "_law_values" "_law_values" (L2.defArgs sl_values) (L2.defBody sl_values) (L2.defScope sl_values) .none kV17 dc17 pm17 an17 cd17 ct17), sl17⟩) (c17 : PySem.W.codeIn K cd17 "_law_values" = true) (k17 : PySem.W.keepIn K (.ref f17) = true)
    (a18 : PySem.W.nsIn K mainGlobals "_law_place" = some (some (.ref f18))) (l18 : K.lookup f18 = some ⟨oc18, od18, .func (PySem.W.fnOf "_law_place" "_law_place" (L2.defArgs sl_place) (L2.defBody sl_place) (L2.defScope sl_place) .none kV18 dc18 pm18 an18 cd18 ct18), sl18⟩) (c18 : PySem.W.codeIn K cd18 "_law_place" = true) (k18 : PySem.W.keepIn K (.ref f18) = true)
    (a19 : PySem.W.nsIn K mainGlobals "_law_sum_of" = some (some (.ref f19))) (l19 : K.lookup f19 = some ⟨oc19, od19, .func (PySem.W.fnOf "_law_sum_of" "_law_sum_of" (L2.defArgs sl_sum_of) (L2.defBody sl_sum_of) (L2.defScope sl_sum_of) .none kV19 dc19 pm19 an19 cd19 ct19), sl19⟩) (c19 : PySem.W.codeIn K cd19 "_law_sum_of" = true) (k19 : PySem.W.keepIn K (.ref f19) = true)
    (a20 : PySem.W.nsIn K mainGlobals "_law_make" = some (some (.ref f20))) (l20 : K.lookup f20 = some ⟨oc20, od20, .func (PySem.W.fnOf "_law_make" "_law_make" (L2.defArgs sl_make) (L2.defBody sl_make) (L2.defScope sl_make) .none kV20 dc20 pm20 an20 cd20 ct20), sl20⟩) (c20 : PySem.W.codeIn K cd20 "_law_make" = true) (k20 : PySem.W.keepIn K (.ref f20) = true)
    (a21 : PySem.W.nsIn K mainGlobals "_law_make_word" = some (some (.ref f21))) (l21 : K.lookup f21 = some ⟨oc21, od21, .func (PySem.W.fnOf "_law_make_word" "_law_make_word" (L2.defArgs sl_make_word) (L2.defBody sl_make_word) (L2.defScope sl_make_word) .none kV21 dc21 pm21 an21 cd21 ct21), sl21⟩) (c21 : PySem.W.codeIn K cd21 "_law_make_word" = true) (k21 : PySem.W.keepIn K (.ref f21) = true)
    (a22 : PySem.W.nsIn K mainGlobals "_law_make_same" = some (some (.ref f22))) (l22 : K.lookup f22 = some ⟨oc22, od22, .func (PySem.W.fnOf "_law_make_same" "_law_make_same" (L2.defArgs sl_make_same) (L2.defBody sl_make_same) (L2.defScope sl_make_same) .none kV22 dc22 pm22 an22 cd22 ct22), sl22⟩) (c22 : PySem.W.codeIn K cd22 "_law_make_same" = true) (k22 : PySem.W.keepIn K (.ref f22) = true)
    (a23 : PySem.W.nsIn K mainGlobals "_law_plain" = some (some (.ref f23))) (l23 : K.lookup f23 = some ⟨oc23, od23, .func (PySem.W.fnOf "_law_plain" "_law_plain" (L2.defArgs sl_plain) (L2.defBody sl_plain) (L2.defScope sl_plain) .none kV23 dc23 pm23 an23 cd23 ct23), sl23⟩) (c23 : PySem.W.codeIn K cd23 "_law_plain" = true) (k23 : PySem.W.keepIn K (.ref f23) = true)
    (a24 : PySem.W.nsIn K mainGlobals "_law_word_term" = some (some (.ref f24))) (l24 : K.lookup f24 = some ⟨oc24, od24, .func (PySem.W.fnOf "_law_word_term" "_law_word_term" (L2.defArgs sl_word_term) (L2.defBody sl_word_term) (L2.defScope sl_word_term) .none kV24 dc24 pm24 an24 cd24 ct24), sl24⟩) (c24 : PySem.W.codeIn K cd24 "_law_word_term" = true) (k24 : PySem.W.keepIn K (.ref f24) = true)
    (a25 : PySem.W.nsIn K mainGlobals "_law_term" = some (some (.ref f25))) (l25 : K.lookup f25 = some ⟨oc25, od25, .func (PySem.W.fnOf "_law_term" "_law_term" (L2.defArgs sl_term) (L2.defBody sl_term) (L2.defScope sl_term) .none kV25 dc25 pm25 an25 cd25 ct25), sl25⟩) (c25 : PySem.W.codeIn K cd25 "_law_term" = true) (k25 : PySem.W.keepIn K (.ref f25) = true)
    (a26 : PySem.W.nsIn K mainGlobals "_law_test" = some (some (.ref f26))) (l26 : K.lookup f26 = some ⟨oc26, od26, .func (PySem.W.fnOf "_law_test" "_law_test" (L2.defArgs sl_test) (L2.defBody sl_test) (L2.defScope sl_test) .none kV26 dc26 pm26 an26 cd26 ct26), sl26⟩) (c26 : PySem.W.codeIn K cd26 "_law_test" = true) (k26 : PySem.W.keepIn K (.ref f26) = true)
    (a27 : PySem.W.nsIn K mainGlobals "_law_operand" = some (some (.ref f27))) (l27 : K.lookup f27 = some ⟨oc27, od27, .func (PySem.W.fnOf "_law_operand" "_law_operand" (L2.defArgs sl_operand) (L2.defBody sl_operand) (L2.defScope sl_operand) .none kV27 dc27 pm27 an27 cd27 ct27), sl27⟩) (c27 : PySem.W.codeIn K cd27 "_law_operand" = true) (k27 : PySem.W.keepIn K (.ref f27) = true)
    (a28 : PySem.W.nsIn K mainGlobals "_law_given" = some (some (.ref f28))) (l28 : K.lookup f28 = some ⟨oc28, od28, .func (PySem.W.fnOf "_law_given" "_law_given" (L2.defArgs sl_given) (L2.defBody sl_given) (L2.defScope sl_given) .none kV28 dc28 pm28 an28 cd28 ct28), sl28⟩) (c28 : PySem.W.codeIn K cd28 "_law_given" = true) (k28 : PySem.W.keepIn K (.ref f28) = true)
    (a29 : PySem.W.nsIn K mainGlobals "_law_end" = some (some (.ref f29))) (l29 : K.lookup f29 = some ⟨oc29, od29, .func (PySem.W.fnOf "_law_end" "_law_end" (L2.defArgs sl_end) (L2.defBody sl_end) (L2.defScope sl_end) .none kV29 dc29 pm29 an29 cd29 ct29), sl29⟩) (c29 : PySem.W.codeIn K cd29 "_law_end" = true) (k29 : PySem.W.keepIn K (.ref f29) = true)
    (a30 : PySem.W.nsIn K mainGlobals "_law_grow" = some (some (.ref f30))) (l30 : K.lookup f30 = some ⟨oc30, od30, .func (PySem.W.fnOf "_law_grow" "_law_grow" (L2.defArgs sl_grow) (L2.defBody sl_grow) (L2.defScope sl_grow) .none kV30 dc30 pm30 an30 cd30 ct30), sl30⟩) (c30 : PySem.W.codeIn K cd30 "_law_grow" = true) (k30 : PySem.W.keepIn K (.ref f30) = true)
    (a31 : PySem.W.nsIn K mainGlobals "_law_branch" = some (some (.ref f31))) (l31 : K.lookup f31 = some ⟨oc31, od31, .func (PySem.W.fnOf "_law_branch" "_law_branch" (L2.defArgs sl_branch) (L2.defBody sl_branch) (L2.defScope sl_branch) .none kV31 dc31 pm31 an31 cd31 ct31), sl31⟩) (c31 : PySem.W.codeIn K cd31 "_law_branch" = true) (k31 : PySem.W.keepIn K (.ref f31) = true)
    (a32 : PySem.W.nsIn K mainGlobals "_law_spin" = some (some (.ref f32))) (l32 : K.lookup f32 = some ⟨oc32, od32, .func (PySem.W.fnOf "_law_spin" "_law_spin" (L2.defArgs sl_spin) (L2.defBody sl_spin) (L2.defScope sl_spin) .none kV32 dc32 pm32 an32 cd32 ct32), sl32⟩) (c32 : PySem.W.codeIn K cd32 "_law_spin" = true) (k32 : PySem.W.keepIn K (.ref f32) = true)
    (a33 : PySem.W.nsIn K mainGlobals "_law_asking" = some (some (.ref f33))) (l33 : K.lookup f33 = some ⟨oc33, od33, .func (PySem.W.fnOf "_law_asking" "_law_asking" (L2.defArgs sl_asking) (L2.defBody sl_asking) (L2.defScope sl_asking) .none kV33 dc33 pm33 an33 cd33 ct33), sl33⟩) (c33 : PySem.W.codeIn K cd33 "_law_asking" = true) (k33 : PySem.W.keepIn K (.ref f33) = true)
    (a34 : PySem.W.nsIn K mainGlobals "_law_book_world" = some (some (.ref f34))) (l34 : K.lookup f34 = some ⟨oc34, od34, .func (PySem.W.fnOf "_law_book_world" "_law_book_world" (L2.defArgs sl_book_world) (L2.defBody sl_book_world) (L2.defScope sl_book_world) .none kV34 dc34 pm34 an34 cd34 ct34), sl34⟩) (c34 : PySem.W.codeIn K cd34 "_law_book_world" = true) (k34 : PySem.W.keepIn K (.ref f34) = true)
    (a35 : PySem.W.nsIn K mainGlobals "_law_walk" = some (some (.ref f35))) (l35 : K.lookup f35 = some ⟨oc35, od35, .func (PySem.W.fnOf "_law_walk" "_law_walk" (L2.defArgs sl_walk) (L2.defBody sl_walk) (L2.defScope sl_walk) .none kV35 dc35 pm35 an35 cd35 ct35), sl35⟩) (c35 : PySem.W.codeIn K cd35 "_law_walk" = true) (k35 : PySem.W.keepIn K (.ref f35) = true)
    (a36 : PySem.W.nsIn K mainGlobals "law" = some (some (.ref f36))) (l36 : K.lookup f36 = some ⟨oc36, od36, .func (PySem.W.fnOf "law" "law" (L2.defArgs sl_law) (L2.defBody sl_law) (L2.defScope sl_law) .none kV36 dc36 pm36 an36 cd36 ct36), sl36⟩) (c36 : PySem.W.codeIn K cd36 "law" = true) (k36 : PySem.W.keepIn K (.ref f36) = true)
    (z1 : PySem.W.nsIn K mainGlobals "abs" = some none) (z2 : PySem.W.nsIn K mainGlobals "all" = some none) (z3 : PySem.W.nsIn K mainGlobals "bool" = some none) (z4 : PySem.W.nsIn K mainGlobals "int" = some none) (z5 : PySem.W.nsIn K mainGlobals "isinstance" = some none) (z6 : PySem.W.nsIn K mainGlobals "len" = some none) (z7 : PySem.W.nsIn K mainGlobals "min" = some none) (z8 : PySem.W.nsIn K mainGlobals "range" = some none) (z9 : PySem.W.nsIn K mainGlobals "sorted" = some none) (z10 : PySem.W.nsIn K mainGlobals "str" = some none) (z11 : PySem.W.nsIn K mainGlobals "tuple" = some none) (z12 : PySem.W.nsIn K mainGlobals "zip" = some none) :
    ∃ fd : FuncData, (∀ (s : Shared) (v : Value), BindsTo s fd ⟨[v], []⟩ [("_law_script", v)]) ∧ ∀ base : Heap, K.In base → base.Ns mainGlobals mg → L2.FnOk l.prog w K mg base L2.CX0 61 fa fd ["_law_script"] (liftF K 1 (callN prog 61 "law")) := by
  have e := hfa.symm.trans (PySem.W.mg_of X G a36)
  cases e
  have F1 := L2.fun_mk (st := sp_greatest) l1 c1 k1
  have b1 := F1.binds (ps := ["width"]) fun _ _ _ _ _ _ us hl => match us, hl with | [_], _ => rfl
  have F2 := L2.fun_mk (st := sp_related) l2 c2 k2
  have b2 := F2.binds (ps := ["op", "left", "right"]) fun _ _ _ _ _ _ us hl => match us, hl with | [_, _, _], _ => rfl
  have F3 := L2.fun_mk (st := sp_shifted) l3 c3 k3
  have b3 := F3.binds (ps := ["op", "width", "left", "right"]) fun _ _ _ _ _ _ us hl => match us, hl with | [_, _, _, _], _ => rfl
  have F4 := L2.fun_mk (st := sp_divided) l4 c4 k4
  have b4 := F4.binds (ps := ["op", "left", "right"]) fun _ _ _ _ _ _ us hl => match us, hl with | [_, _, _], _ => rfl
  have F5 := L2.fun_mk (st := sp_reckoned) l5 c5 k5
  have b5 := F5.binds (ps := ["op", "left", "right"]) fun _ _ _ _ _ _ us hl => match us, hl with | [_, _, _], _ => rfl
  have F6 := L2.fun_mk (st := sp_result) l6 c6 k6
  have F7 := L2.fun_mk (st := sp_values_of) l7 c7 k7
  have b7 := F7.binds (ps := ["nodes", "words"]) fun _ _ _ _ _ _ us hl => match us, hl with | [_, _], _ => rfl
  have F8 := L2.fun_mk (st := sp_replayed) l8 c8 k8
  have b8 := F8.binds (ps := ["book", "args", "answers"]) fun _ _ _ _ _ _ us hl => match us, hl with | [_, _, _], _ => rfl
  have F9 := L2.fun_mk (st := sl_begin) l9 c9 k9
  have b9 := F9.binds (ps := ["_law_script"]) fun _ _ _ _ _ _ us hl => match us, hl with | [_], _ => rfl
  have F10 := L2.fun_mk (st := sl_draw) l10 c10 k10
  have b10 := F10.binds (ps := ["_law_d", "_law_many"]) fun _ _ _ _ _ _ us hl => match us, hl with | [_, _], _ => rfl
  have F11 := L2.fun_mk (st := sl_pick) l11 c11 k11
  have b11 := F11.binds (ps := ["_law_d", "_law_row"]) fun _ _ _ _ _ _ us hl => match us, hl with | [_, _], _ => rfl
  have F12 := L2.fun_mk (st := sl_pop) l12 c12 k12
  have b12 := F12.binds (ps := ["_law_d", "_law_row"]) fun _ _ _ _ _ _ us hl => match us, hl with | [_, _], _ => rfl
  have F13 := L2.fun_mk (st := sl_pool) l13 c13 k13
  have b13 := F13.binds (ps := []) fun _ _ _ _ _ _ us hl => match us, hl with | [], _ => rfl
  have F14 := L2.fun_mk (st := sl_is_int) l14 c14 k14
  have b14 := F14.binds (ps := ["_law_thing"]) fun _ _ _ _ _ _ us hl => match us, hl with | [_], _ => rfl
  have F15 := L2.fun_mk (st := sl_tuples) l15 c15 k15
  have b15 := F15.binds (ps := ["_law_widths"]) fun _ _ _ _ _ _ us hl => match us, hl with | [_], _ => rfl
  have F16 := L2.fun_mk (st := sl_word) l16 c16 k16
  have b16 := F16.binds (ps := ["_law_op", "_law_width", "_law_words"]) fun _ _ _ _ _ _ us hl => match us, hl with | [_, _, _], _ => rfl
  have F17 := L2.fun_mk (st := sl_values) l17 c17 k17
  have b17 := F17.binds (ps := ["_law_nodes", "_law_words"]) fun _ _ _ _ _ _ us hl => match us, hl with | [_, _], _ => rfl
  have F18 := L2.fun_mk (st := sl_place) l18 c18 k18
  have b18 := F18.binds (ps := ["_law_sheet", "_law_node"]) fun _ _ _ _ _ _ us hl => match us, hl with | [_, _], _ => rfl
  have F19 := L2.fun_mk (st := sl_sum_of) l19 c19 k19
  have b19 := F19.binds (ps := ["_law_sheet", "_law_term_here"]) fun _ _ _ _ _ _ us hl => match us, hl with | [_, _], _ => rfl
  have F20 := L2.fun_mk (st := sl_make) l20 c20 k20
  have b20 := F20.binds (ps := ["_law_sheet", "_law_op", "_law_width", "_law_terms"]) fun _ _ _ _ _ _ us hl => match us, hl with | [_, _, _, _], _ => rfl
  have F21 := L2.fun_mk (st := sl_make_word) l21 c21 k21
  have b21 := F21.binds (ps := ["_law_sheet", "_law_op", "_law_width", "_law_terms", "_law_value"]) fun _ _ _ _ _ _ us hl => match us, hl with | [_, _, _, _, _], _ => rfl
  have F22 := L2.fun_mk (st := sl_make_same) l22 c22 k22
  have b22 := F22.binds (ps := ["_law_sheet", "_law_op", "_law_width", "_law_terms"]) fun _ _ _ _ _ _ us hl => match us, hl with | [_, _, _, _], _ => rfl
  have F23 := L2.fun_mk (st := sl_plain) l23 c23 k23
  have b23 := F23.binds (ps := ["_law_thing"]) fun _ _ _ _ _ _ us hl => match us, hl with | [_], _ => rfl
  have F24 := L2.fun_mk (st := sl_word_term) l24 c24 k24
  have b24 := F24.binds (ps := ["_law_w", "_law_word_here", "_law_width"]) fun _ _ _ _ _ _ us hl => match us, hl with | [_, _, _], _ => rfl
  have F25 := L2.fun_mk (st := sl_term) l25 c25 k25
  have b25 := F25.binds (ps := ["_law_w", "_law_expr"]) fun _ _ _ _ _ _ us hl => match us, hl with | [_, _], _ => rfl
  have F26 := L2.fun_mk (st := sl_test) l26 c26 k26
  have b26 := F26.binds (ps := ["_law_d", "_law_row"]) fun _ _ _ _ _ _ us hl => match us, hl with | [_, _], _ => rfl
  have F27 := L2.fun_mk (st := sl_operand) l27 c27 k27
  have b27 := F27.binds (ps := ["_law_d", "_law_known", "_law_width"]) fun _ _ _ _ _ _ us hl => match us, hl with | [_, _, _], _ => rfl
  have F28 := L2.fun_mk (st := sl_given) l28 c28 k28
  have b28 := F28.binds (ps := ["_law_w", "_law_known"]) fun _ _ _ _ _ _ us hl => match us, hl with | [_, _], _ => rfl
  have F29 := L2.fun_mk (st := sl_end) l29 c29 k29
  have b29 := F29.binds (ps := ["_law_w", "_law_known"]) fun _ _ _ _ _ _ us hl => match us, hl with | [_, _], _ => rfl
  have F30 := L2.fun_mk (st := sl_grow) l30 c30 k30
  have b30 := F30.binds (ps := ["_law_w", "_law_known", "_law_free", "_law_steps", "_law_many", "_law_depth"]) fun _ _ _ _ _ _ us hl => match us, hl with | [_, _, _, _, _, _], _ => rfl
  have F31 := L2.fun_mk (st := sl_branch) l31 c31 k31
  have b31 := F31.binds (ps := ["_law_w", "_law_known", "_law_free", "_law_steps", "_law_many", "_law_depth", "_law_loop"]) fun _ _ _ _ _ _ us hl => match us, hl with | [_, _, _, _, _, _, _], _ => rfl
  have F32 := L2.fun_mk (st := sl_spin) l32 c32 k32
  have b32 := F32.binds (ps := ["_law_w", "_law_known", "_law_steps", "_law_many", "_law_pair"]) fun _ _ _ _ _ _ us hl => match us, hl with | [_, _, _, _, _], _ => rfl
  have F33 := L2.fun_mk (st := sl_asking) l33 c33 k33
  have b33 := F33.binds (ps := ["_law_w", "_law_known", "_law_free", "_law_steps", "_law_many", "_law_depth"]) fun _ _ _ _ _ _ us hl => match us, hl with | [_, _, _, _, _, _], _ => rfl
  have F34 := L2.fun_mk (st := sl_book_world) l34 c34 k34
  have b34 := F34.binds (ps := ["_law_d", "_law_pool_here"]) fun _ _ _ _ _ _ us hl => match us, hl with | [_, _], _ => rfl
  have F35 := L2.fun_mk (st := sl_walk) l35 c35 k35
  have b35 := F35.binds (ps := ["_law_book", "_law_args", "_law_answers"]) fun _ _ _ _ _ _ us hl => match us, hl with | [_, _, _], _ => rfl
  have F36 := L2.fun_mk (st := sl_law) l36 c36 k36
  have b36 := F36.binds (ps := ["_law_script"]) fun _ _ _ _ _ _ us hl => match us, hl with | [_], _ => rfl
  have zs : ∀ y ∈ blts, mg (Str.ofString y) = none := by
    intro y hy
    simp only [blts, List.mem_cons, List.not_mem_nil, or_false] at hy
    rcases hy with rfl | rfl | rfl | rfl | rfl | rfl | rfl | rfl | rfl | rfl | rfl | rfl
    · exact PySem.W.mg_none_of X G z1
    · exact PySem.W.mg_none_of X G z2
    · exact PySem.W.mg_none_of X G z3
    · exact PySem.W.mg_none_of X G z4
    · exact PySem.W.mg_none_of X G z5
    · exact PySem.W.mg_none_of X G z6
    · exact PySem.W.mg_none_of X G z7
    · exact PySem.W.mg_none_of X G z8
    · exact PySem.W.mg_none_of X G z9
    · exact PySem.W.mg_none_of X G z10
    · exact PySem.W.mg_none_of X G z11
    · exact PySem.W.mg_none_of X G z12
  refine ⟨PySem.W.fnOf "law" "law" (L2.defArgs sl_law) (L2.defBody sl_law) (L2.defScope sl_law) .none kV36 dc36 pm36 an36 cd36 ct36, fun s v => .of_eq rfl, fun base _ _ => ?_⟩
  have st : ∀ x ∈ names, ∃ d, prog x = some d ∧ Step2 l.prog w K mg base names snames x d := by
    intro x hx
    simp only [names, List.mem_cons, List.not_mem_nil, or_false] at hx
    rcases hx with rfl | rfl | rfl | rfl | rfl | rfl | rfl | rfl | rfl | rfl | rfl | rfl | rfl | rfl | rfl | rfl | rfl | rfl | rfl | rfl | rfl | rfl | rfl | rfl | rfl | rfl | rfl | rfl | rfl | rfl | rfl | rfl | rfl | rfl | rfl
    · exact ⟨_, rfl, _, _, ["width"], PySem.W.mg_of X G a1, F1.kp, b1, rfl, fun k c ok oks => fn_ok F1 scp_greatest rfl rfl (der_p_greatest ok oks zs)⟩
    · exact ⟨_, rfl, _, _, ["op", "left", "right"], PySem.W.mg_of X G a2, F2.kp, b2, rfl, fun k c ok oks => fn_ok F2 scp_related rfl rfl (der_p_related ok oks zs)⟩
    · exact ⟨_, rfl, _, _, ["op", "width", "left", "right"], PySem.W.mg_of X G a3, F3.kp, b3, rfl, fun k c ok oks => fn_ok F3 scp_shifted rfl rfl (der_p_shifted ok oks zs)⟩
    · exact ⟨_, rfl, _, _, ["op", "left", "right"], PySem.W.mg_of X G a4, F4.kp, b4, rfl, fun k c ok oks => fn_ok F4 scp_divided rfl rfl (der_p_divided ok oks zs)⟩
    · exact ⟨_, rfl, _, _, ["op", "left", "right"], PySem.W.mg_of X G a5, F5.kp, b5, rfl, fun k c ok oks => fn_ok F5 scp_reckoned rfl rfl (der_p_reckoned ok oks zs)⟩
    · exact ⟨_, rfl, _, _, ["nodes", "words"], PySem.W.mg_of X G a7, F7.kp, b7, rfl, fun k c ok oks => fn_ok F7 scp_values_of rfl rfl (der_p_values_of ok oks zs)⟩
    · exact ⟨_, rfl, _, _, ["book", "args", "answers"], PySem.W.mg_of X G a8, F8.kp, b8, rfl, fun k c ok oks => fn_ok F8 scp_replayed rfl rfl (der_p_replayed ok oks zs)⟩
    · exact ⟨_, rfl, _, _, ["_law_script"], PySem.W.mg_of X G a9, F9.kp, b9, rfl, fun k c ok oks => fn_ok F9 scl_begin rfl rfl (der_l_begin ok oks zs)⟩
    · exact ⟨_, rfl, _, _, ["_law_d", "_law_many"], PySem.W.mg_of X G a10, F10.kp, b10, rfl, fun k c ok oks => fn_ok F10 scl_draw rfl rfl (der_l_draw ok oks zs)⟩
    · exact ⟨_, rfl, _, _, ["_law_d", "_law_row"], PySem.W.mg_of X G a11, F11.kp, b11, rfl, fun k c ok oks => fn_ok F11 scl_pick rfl rfl (der_l_pick ok oks zs)⟩
    · exact ⟨_, rfl, _, _, ["_law_d", "_law_row"], PySem.W.mg_of X G a12, F12.kp, b12, rfl, fun k c ok oks => fn_ok F12 scl_pop rfl rfl (der_l_pop ok oks zs)⟩
    · exact ⟨_, rfl, _, _, [], PySem.W.mg_of X G a13, F13.kp, b13, rfl, fun k c ok oks => fn_ok F13 scl_pool rfl rfl (der_l_pool ok oks zs)⟩
    · exact ⟨_, rfl, _, _, ["_law_thing"], PySem.W.mg_of X G a14, F14.kp, b14, rfl, fun k c ok oks => fn_ok F14 scl_is_int rfl rfl (der_l_is_int ok oks zs)⟩
    · exact ⟨_, rfl, _, _, ["_law_widths"], PySem.W.mg_of X G a15, F15.kp, b15, rfl, fun k c ok oks => fn_ok F15 scl_tuples rfl rfl (der_l_tuples ok oks zs)⟩
    · exact ⟨_, rfl, _, _, ["_law_op", "_law_width", "_law_words"], PySem.W.mg_of X G a16, F16.kp, b16, rfl, fun k c ok oks => fn_ok F16 scl_word rfl rfl (der_l_word ok oks zs)⟩
    · exact ⟨_, rfl, _, _, ["_law_nodes", "_law_words"], PySem.W.mg_of X G a17, F17.kp, b17, rfl, fun k c ok oks => fn_ok F17 scl_values rfl rfl (der_l_values ok oks zs)⟩
    · exact ⟨_, rfl, _, _, ["_law_sheet", "_law_node"], PySem.W.mg_of X G a18, F18.kp, b18, rfl, fun k c ok oks => fn_ok F18 scl_place rfl rfl (der_l_place ok oks zs)⟩
    · exact ⟨_, rfl, _, _, ["_law_sheet", "_law_term_here"], PySem.W.mg_of X G a19, F19.kp, b19, rfl, fun k c ok oks => fn_ok F19 scl_sum_of rfl rfl (der_l_sum_of ok oks zs)⟩
    · exact ⟨_, rfl, _, _, ["_law_sheet", "_law_op", "_law_width", "_law_terms"], PySem.W.mg_of X G a20, F20.kp, b20, rfl, fun k c ok oks => fn_ok F20 scl_make rfl rfl (der_l_make ok oks zs)⟩
    · exact ⟨_, rfl, _, _, ["_law_sheet", "_law_op", "_law_width", "_law_terms", "_law_value"], PySem.W.mg_of X G a21, F21.kp, b21, rfl, fun k c ok oks => fn_ok F21 scl_make_word rfl rfl (der_l_make_word ok oks zs)⟩
    · exact ⟨_, rfl, _, _, ["_law_sheet", "_law_op", "_law_width", "_law_terms"], PySem.W.mg_of X G a22, F22.kp, b22, rfl, fun k c ok oks => fn_ok F22 scl_make_same rfl rfl (der_l_make_same ok oks zs)⟩
    · exact ⟨_, rfl, _, _, ["_law_thing"], PySem.W.mg_of X G a23, F23.kp, b23, rfl, fun k c ok oks => fn_ok F23 scl_plain rfl rfl (der_l_plain ok oks zs)⟩
    · exact ⟨_, rfl, _, _, ["_law_w", "_law_word_here", "_law_width"], PySem.W.mg_of X G a24, F24.kp, b24, rfl, fun k c ok oks => fn_ok F24 scl_word_term rfl rfl (der_l_word_term ok oks zs)⟩
    · exact ⟨_, rfl, _, _, ["_law_w", "_law_expr"], PySem.W.mg_of X G a25, F25.kp, b25, rfl, fun k c ok oks => fn_ok F25 scl_term rfl rfl (der_l_term ok oks zs)⟩
    · exact ⟨_, rfl, _, _, ["_law_d", "_law_row"], PySem.W.mg_of X G a26, F26.kp, b26, rfl, fun k c ok oks => fn_ok F26 scl_test rfl rfl (der_l_test ok oks zs)⟩
    · exact ⟨_, rfl, _, _, ["_law_d", "_law_known", "_law_width"], PySem.W.mg_of X G a27, F27.kp, b27, rfl, fun k c ok oks => fn_ok F27 scl_operand rfl rfl (der_l_operand ok oks zs)⟩
    · exact ⟨_, rfl, _, _, ["_law_w", "_law_known"], PySem.W.mg_of X G a28, F28.kp, b28, rfl, fun k c ok oks => fn_ok F28 scl_given rfl rfl (der_l_given ok oks zs)⟩
    · exact ⟨_, rfl, _, _, ["_law_w", "_law_known"], PySem.W.mg_of X G a29, F29.kp, b29, rfl, fun k c ok oks => fn_ok F29 scl_end rfl rfl (der_l_end ok oks zs)⟩
    · exact ⟨_, rfl, _, _, ["_law_w", "_law_known", "_law_free", "_law_steps", "_law_many", "_law_depth"], PySem.W.mg_of X G a30, F30.kp, b30, rfl, fun k c ok oks => fn_ok F30 scl_grow rfl rfl (der_l_grow ok oks zs)⟩
    · exact ⟨_, rfl, _, _, ["_law_w", "_law_known", "_law_free", "_law_steps", "_law_many", "_law_depth", "_law_loop"], PySem.W.mg_of X G a31, F31.kp, b31, rfl, fun k c ok oks => fn_ok F31 scl_branch rfl rfl (der_l_branch ok oks zs)⟩
    · exact ⟨_, rfl, _, _, ["_law_w", "_law_known", "_law_steps", "_law_many", "_law_pair"], PySem.W.mg_of X G a32, F32.kp, b32, rfl, fun k c ok oks => fn_ok F32 scl_spin rfl rfl (der_l_spin ok oks zs)⟩
    · exact ⟨_, rfl, _, _, ["_law_w", "_law_known", "_law_free", "_law_steps", "_law_many", "_law_depth"], PySem.W.mg_of X G a33, F33.kp, b33, rfl, fun k c ok oks => fn_ok F33 scl_asking rfl rfl (der_l_asking ok oks zs)⟩
    · exact ⟨_, rfl, _, _, ["_law_d", "_law_pool_here"], PySem.W.mg_of X G a34, F34.kp, b34, rfl, fun k c ok oks => fn_ok F34 scl_book_world rfl rfl (der_l_book_world ok oks zs)⟩
    · exact ⟨_, rfl, _, _, ["_law_book", "_law_args", "_law_answers"], PySem.W.mg_of X G a35, F35.kp, b35, rfl, fun k c ok oks => fn_ok F35 scl_walk rfl rfl (der_l_walk ok oks zs)⟩
    · exact ⟨_, rfl, _, _, ["_law_script"], PySem.W.mg_of X G a36, F36.kp, b36, rfl, fun k c ok oks => fn_ok F36 scl_law rfl rfl (der_l_law ok oks zs)⟩
  have st2 : ∀ q ∈ snames, ∃ d, prog q.1 = some d ∧ StepS l.prog w K mg base names snames q.1 q.2 d := by
    intro q hq
    simp only [snames, List.mem_cons, List.not_mem_nil, or_false] at hq
    rcases hq with rfl
    · exact ⟨_, rfl, _, PySem.W.mg_of X G a6, F6.kp, fun k c ok oks => fnS_ok (ps := ["op", "width"]) (pv := "words") F6 scp_result rfl rfl (fun kV doc pm an cdv ct => StX.bind_star2 (B := fun us => bindArgs (PySem.W.fnOf "result" "result" (L2.defArgs sp_result) (L2.defBody sp_result) (L2.defScope sp_result) .none kV doc pm an cdv ct) ⟨us, []⟩) (fun _ _ => rfl) (fun _ _ _ _ => rfl)) (der_p_result ok oks zs)⟩
  have ow := all_own2 (P := l.prog) (w := w) (base := base) st st2 60
  refine (fn_ok (P := l.prog) (w := w) (mg := mg) (base := base) (k := 60) (d := ⟨1, 18, b_l_law⟩) (c := callN prog 60) F36 scl_law rfl rfl (der_l_law ow.1 ow.2 zs)).imp fun vs H Q E ⟨g0, f, st, ds, Q', s, r, ⟨d', e', g⟩, l⟩ => ?_
  cases (Option.some.inj e' : (⟨1, 18, b_l_law⟩ : Def) = d')
  exact ⟨g0, f, st, ds, Q', s, r, g, l⟩
end Pk45
end PartPdk45L

section PartPdk45P
set_option Elab.async false
set_option linter.all false
set_option maxRecDepth 100000
set_option maxHeartbeats 1000000
namespace Pk45
open PySem Pd
local macro_rules | `(tactic| walk_at "t") => `(tactic| (repeat (first | refine Red.red ?_ | refine Nxt.mk ?_ | refine ⟨by decide +kernel, by decide +kernel, wayF (by decide +kernel) ?_⟩ | refine ⟨by decide +kernel, by decide +kernel, wayT (by decide +kernel) ?_⟩ | refine ⟨by decide +kernel, ?_⟩ | refine ⟨Nat.le_of_ble_eq_true rfl, ?_⟩ | refine at_is rfl ?_)))
local instance notinTup1_45 {x : D} {xs : List D} {st : Store} {r : Bool → Prop} : Red (notinC x (.tup xs) st r) (x.flat = true ∧ xs.all D.flat = true ∧ r (!(xs.any fun y => D.eqb y x))) := ⟨id⟩
local macro_rules | `(tactic| walk_at "s") => `(tactic| (repeat (refine Red.red ?_)))
local macro_rules | `(tactic| walk_at "r") => `(tactic| (repeat (first | refine Red.red ?_ | refine Nxt.mk ?_)))
local macro_rules | `(tactic| walk_at "v") => `(tactic| (repeat (first | refine Red.red ?_ | refine Nxt.mk ?_ | refine ⟨Nat.le_of_ble_eq_true rfl, ?_⟩ | refine at_is rfl ?_)))
local macro_rules | `(tactic| walk_at "w") => `(tactic| (repeat (first | refine Red.red ?_ | refine Nxt.mk ?_ | refine wayF rfl ?_ | refine wayT rfl ?_ | refine ⟨Nat.le_of_ble_eq_true rfl, ?_⟩ | refine at_is rfl ?_)))
local macro_rules | `(tactic| walk_at "u") => `(tactic| (repeat (first | refine Red.red ?_ | refine Nxt.mk ?_ | refine ⟨Nat.le_of_ble_eq_true rfl, ?_⟩ | refine at_is rfl ?_ | refine ⟨by decide +kernel, by decide +kernel, wayF (by decide +kernel) ?_⟩ | refine ⟨by decide +kernel, by decide +kernel, wayT (by decide +kernel) ?_⟩ | refine ⟨by decide +kernel, by decide +kernel, ?_⟩ | refine wayF (by decide +kernel) ?_ | refine wayT (by decide +kernel) ?_)))
local instance inNewB1_45 {x : D} {xs : List D} {st : Store} {r : Bool → Prop} : Red (inC x (.ref st.length) (st ++ [.lst xs]) r) (x.flat = true ∧ xs.all D.flat = true ∧ r (xs.any fun y => D.eqb y x)) := ⟨fun h => ⟨xs, .inl (by simp [rdL]), h⟩⟩
local instance inTupN1_45 {x : D} {xs : List D} {st : Store} {r : Bool → Prop} : Red (inC x (.tup xs) st r) (x.flat = true ∧ xs.all D.flat = true ∧ r (xs.any fun y => D.eqb y x)) := ⟨id⟩
local macro_rules | `(tactic| walk_at "z") => `(tactic| (repeat (first | refine Red.red ?_ | refine Nxt.mk ?_ | refine ⟨by decide +kernel, by decide +kernel, wayF (by decide +kernel) ?_⟩ | refine ⟨by decide +kernel, by decide +kernel, wayT (by decide +kernel) ?_⟩ | refine ⟨by decide +kernel, ?_⟩ | refine ⟨Nat.le_of_ble_eq_true rfl, ?_⟩ | refine wayF rfl ?_ | refine wayT rfl ?_ | refine at_is rfl ?_)))
/-! k45, text 1. Own work. -/
theorem mask_zero {w : Int} : Builtin.bitAnd 0 (fullI w) = 0 := by unfold fullI; rw [and_maskZ, Int.zero_emod]
def iN' (k : Nat) : D := .int (k : Int)
section
variable {w l r a b : Int} {k n : Nat} {st : Store} {Q : K}
theorem word1 {o : Op} (ho : one o = true) (w0 : 1 ≤ w) (w1 : w ≤ 8) (l0 : 0 ≤ l) (l1 : o ≠ .wide → l ≤ fullI w) (h : rdL st n [.int l]) (q : Q (.int (v1 o w l)) st) : callN prog (k + 1) "_law_word" [.str (opS o), .int w, .ref n] st Q := by
  refine call_intro rfl rfl ?_
  unfold b_l_word
  have cp := cpow_small (w := w) (by omega) (by omega)
  have hf := full1 w0 w1
  cases o <;> try (cases ho; done)
  case not =>
    rw [show opS .not = Str.ofString "not" from rfl]
    walk_at "t"
    refine ix_ref h rfl ?_
    walk_at "t"
    refine len_at h ?_
    walk_at "t"
    refine ix_ref h rfl ?_
    walk_at "t"
    refine ⟨cp, ?_⟩
    walk_at "t"
    try rw [hf]
    have e : v1 .not w l = Builtin.bitAnd (-l - 1) (fullI w) := (not_mask l0 (l1 (by intro h; cases h))).symm
    rw [e] at q
    exact q
  case neg =>
    rw [show opS .neg = Str.ofString "neg" from rfl]
    walk_at "t"
    refine ix_ref h rfl ?_
    walk_at "t"
    refine len_at h ?_
    walk_at "t"
    refine ix_ref h rfl ?_
    walk_at "t"
    refine ⟨cp, ?_⟩
    walk_at "t"
    try rw [hf]
    have e : v1 .neg w l = Builtin.bitAnd (-l - 0) (fullI w) := by rw [Int.sub_zero]; rfl
    rw [e] at q
    exact q
  case wide =>
    rw [show opS .wide = Str.ofString "wide" from rfl]
    walk_at "t"
    refine ix_ref h rfl ?_
    walk_at "t"
    refine len_at h ?_
    walk_at "t"
    refine ix_ref h rfl ?_
    walk_at "t"
    refine ⟨cp, ?_⟩
    walk_at "t"
    try rw [hf]
    exact q
theorem word3 (w0 : 1 ≤ w) (w1 : w ≤ 8) (l0 : 0 ≤ l) (l1 : l ≤ 1) (h : rdL st n [.int l, .int a, .int b]) (q : Q (.int (if l = 1 then a else b)) st) : callN prog (k + 1) "_law_word" [.str (opS .pick), .int w, .ref n] st Q := by
  refine call_intro rfl rfl ?_
  unfold b_l_word
  have cp := cpow_small (w := w) (by omega) (by omega)
  have hf := full1 w0 w1
  rw [show opS .pick = Str.ofString "pick" from rfl]
  walk_at "t"
  refine ix_ref h rfl ?_
  walk_at "t"
  refine len_at h ?_
  walk_at "t"
  refine ix_ref h rfl ?_
  walk_at "t"
  refine ⟨cp, ?_⟩
  walk_at "t"
  obtain rfl | rfl : l = 0 ∨ l = 1 := by omega
  · exact ix_ref h rfl q
  · exact ix_ref h rfl q
theorem word2 {o : Op} (ho : two o = true) (w0 : 1 ≤ w) (w1 : w ≤ 8) (l0 : 0 ≤ l) (l2 : l ≤ 255) (r0 : 0 ≤ r) (r1 : r ≤ 255) (rs : (o = .shr ∨ o = .and ∨ o = .or ∨ o = .xor) → l ≤ fullI w) (rb : (o = .and ∨ o = .or ∨ o = .xor) → r ≤ fullI w) (h : rdL st n [.int l, .int r]) (q : Q (.int (v2 o w l r)) st) : callN prog (k + 1) "_law_word" [.str (opS o), .int w, .ref n] st Q := by
  refine call_intro rfl rfl ?_
  unfold b_l_word
  have cp := cpow_small (w := w) (by omega) (by omega)
  have hf := full1 w0 w1
  cases o <;> try (cases ho; done)
  case add =>
    rw [show opS .add = Str.ofString "+" from rfl]
    walk_at "t"
    refine ix_ref h rfl ?_
    walk_at "t"
    refine len_at h ?_
    walk_at "t"
    refine ix_ref h rfl ?_
    walk_at "t"
    refine ⟨cp, ?_⟩
    walk_at "t"
    try rw [hf]
    exact q
  case sub =>
    rw [show opS .sub = Str.ofString "-" from rfl]
    walk_at "t"
    refine ix_ref h rfl ?_
    walk_at "t"
    refine len_at h ?_
    walk_at "t"
    refine ix_ref h rfl ?_
    walk_at "t"
    refine ⟨cp, ?_⟩
    walk_at "t"
    try rw [hf]
    exact q
  case mul =>
    rw [show opS .mul = Str.ofString "*" from rfl]
    walk_at "t"
    refine ix_ref h rfl ?_
    walk_at "t"
    refine len_at h ?_
    walk_at "t"
    refine ix_ref h rfl ?_
    walk_at "t"
    refine ⟨cp, ?_⟩
    walk_at "t"
    try rw [hf]
    refine ⟨cmul_small r0 (by omega), ?_⟩
    walk_at "t"
    exact q
  case shl =>
    rw [show opS .shl = Str.ofString "<<" from rfl]
    walk_at "t"
    refine ix_ref h rfl ?_
    walk_at "t"
    refine len_at h ?_
    walk_at "t"
    refine ix_ref h rfl ?_
    walk_at "t"
    refine ⟨cp, ?_⟩
    walk_at "t"
    try rw [hf]
    have hm : 0 ≤ (if 8 < r then 8 else r) ∧ (if 8 < r then 8 else r) ≤ 8 := by split <;> omega
    refine ⟨⟨hm.1, by omega, by omega⟩, ?_⟩
    walk_at "t"
    have e : v2 .shl w l r = Builtin.bitAnd (l * 2 ^ (if 8 < r then 8 else r).toNat) (fullI w) := by
      show (if w ≤ r then _ else _) = _
      split
      · rename_i hh; rw [shl_big w0 w1 hh]
      · rename_i hh; rw [min_small hh w1]
    rw [e] at q; exact q
  case shr =>
    rw [show opS .shr = Str.ofString ">>" from rfl]
    walk_at "t"
    refine ix_ref h rfl ?_
    walk_at "t"
    refine len_at h ?_
    walk_at "t"
    refine ix_ref h rfl ?_
    walk_at "t"
    refine ⟨cp, ?_⟩
    walk_at "t"
    try rw [hf]
    have hm : 0 ≤ (if 8 < r then 8 else r) ∧ (if 8 < r then 8 else r) ≤ 8 := by split <;> omega
    refine ⟨hm.1, ?_⟩
    have e : v2 .shr w l r = l / 2 ^ (if 8 < r then 8 else r).toNat := by
      show (if w ≤ r then _ else _) = _
      split
      · rename_i hh; rw [shr_big w0 w1 l0 (rs (by simp)) hh]
      · rename_i hh; rw [min_small hh w1]
    rw [e] at q; exact q
  case div =>
    rw [show opS .div = Str.ofString "div" from rfl]
    walk_at "t"
    refine ix_ref h rfl ?_
    walk_at "t"
    refine len_at h ?_
    walk_at "t"
    refine ix_ref h rfl ?_
    walk_at "t"
    refine ⟨cp, ?_⟩
    walk_at "t"
    try rw [hf]
    by_cases e : r = 0
    · refine wayT (by simpa using e) ?_
      walk_at "t"
      have e' : v2 .div w l r = 0 := if_pos e
      rw [e'] at q; exact q
    · refine wayF (by simpa using e) ?_
      walk_at "t"
      refine ⟨⟨by omega, by omega⟩, ?_⟩
      have e' : v2 .div w l r = l / r := if_neg e
      rw [e'] at q; exact q
  case rem =>
    rw [show opS .rem = Str.ofString "rem" from rfl]
    walk_at "t"
    refine ix_ref h rfl ?_
    walk_at "t"
    refine len_at h ?_
    walk_at "t"
    refine ix_ref h rfl ?_
    walk_at "t"
    refine ⟨cp, ?_⟩
    walk_at "t"
    try rw [hf]
    by_cases e : r = 0
    · refine wayT (by simpa using e) ?_
      walk_at "t"
      have e' : v2 .rem w l r = 0 := if_pos e
      rw [e'] at q; exact q
    · refine wayF (by simpa using e) ?_
      walk_at "t"
      refine ⟨⟨by omega, by omega⟩, ?_⟩
      walk_at "t"
      refine ⟨cmul_small r0 (by omega), ?_⟩
      walk_at "t"
      have e' : v2 .rem w l r = l - l / r * r := by
        show (if r = 0 then _ else _) = _
        rw [if_neg e, Int.mul_comm]
      rw [e'] at q; exact q
  case eq =>
    rw [show opS .eq = Str.ofString "==" from rfl]
    walk_at "t"
    refine ix_ref h rfl ?_
    walk_at "t"
    refine len_at h ?_
    walk_at "t"
    refine ix_ref h rfl ?_
    walk_at "t"
    refine ⟨cp, ?_⟩
    walk_at "t"
    try rw [hf]
    have e : (decide (l = r) == decide (Str.ofString "==" = Str.ofString "==")) = (decide (l = r)) := by
      rw [show decide (Str.ofString "==" = Str.ofString "==") = true by decide +kernel]
      cases decide (l = r) <;> rfl
    rw [e]
    exact q
  case ne =>
    rw [show opS .ne = Str.ofString "!=" from rfl]
    walk_at "t"
    refine ix_ref h rfl ?_
    walk_at "t"
    refine len_at h ?_
    walk_at "t"
    refine ix_ref h rfl ?_
    walk_at "t"
    refine ⟨cp, ?_⟩
    walk_at "t"
    try rw [hf]
    have e : (decide (l = r) == decide (Str.ofString "!=" = Str.ofString "==")) = (!decide (l = r)) := by
      rw [show decide (Str.ofString "!=" = Str.ofString "==") = false by decide +kernel]
      cases decide (l = r) <;> rfl
    rw [e]
    exact q
  case lt =>
    rw [show opS .lt = Str.ofString "<" from rfl]
    walk_at "t"
    refine ix_ref h rfl ?_
    walk_at "t"
    refine len_at h ?_
    walk_at "t"
    refine ix_ref h rfl ?_
    walk_at "t"
    refine ⟨cp, ?_⟩
    walk_at "t"
    try rw [hf]
    refine way (fun e => ?_) (fun e => ?_)
    · walk_at "t"
      rw [e]
      have e' : v2 .lt w l r = b2i true := by show b2i (decide (l < r)) = _; rw [e]
      rw [e'] at q; exact q
    · walk_at "t"
      have e' : v2 .lt w l r = b2i false := by show b2i (decide (l < r)) = _; rw [e]
      rw [e'] at q; exact q
  case le =>
    rw [show opS .le = Str.ofString "<=" from rfl]
    walk_at "t"
    refine ix_ref h rfl ?_
    walk_at "t"
    refine len_at h ?_
    walk_at "t"
    refine ix_ref h rfl ?_
    walk_at "t"
    refine ⟨cp, ?_⟩
    walk_at "t"
    try rw [hf]
    refine way (fun e => ?_) (fun e => ?_)
    · walk_at "t"
      rw [e]
      have e1 : l < r := of_decide_eq_true e
      have e' : v2 .le w l r = b2i true := by show b2i (decide (l ≤ r)) = _; rw [decide_eq_true (by omega)]
      rw [e'] at q; exact q
    · have e1 : ¬ l < r := of_decide_eq_false e
      walk_at "t"
      have e' : v2 .le w l r = b2i (decide (l = r)) := by
        show b2i (decide (l ≤ r)) = _
        by_cases e2 : l = r
        · rw [decide_eq_true e2, decide_eq_true (by omega)]
        · rw [decide_eq_false e2, decide_eq_false (by omega)]
      rw [e'] at q; exact q
  case and =>
    rw [show opS .and = Str.ofString "&" from rfl]
    walk_at "t"
    refine ix_ref h rfl ?_
    walk_at "t"
    refine len_at h ?_
    walk_at "t"
    refine ix_ref h rfl ?_
    walk_at "t"
    refine ⟨cp, ?_⟩
    walk_at "t"
    try rw [hf]
    have e := (bits_in l0 (rs (by simp)) r0 (rb (by simp))).1
    rw [e] at q
    exact q
  case or =>
    rw [show opS .or = Str.ofString "|" from rfl]
    walk_at "t"
    refine ix_ref h rfl ?_
    walk_at "t"
    refine len_at h ?_
    walk_at "t"
    refine ix_ref h rfl ?_
    walk_at "t"
    refine ⟨cp, ?_⟩
    walk_at "t"
    try rw [hf]
    have e := (bits_in l0 (rs (by simp)) r0 (rb (by simp))).2.1
    rw [e] at q
    exact q
  case xor =>
    rw [show opS .xor = Str.ofString "^" from rfl]
    walk_at "t"
    refine ix_ref h rfl ?_
    walk_at "t"
    refine len_at h ?_
    walk_at "t"
    refine ix_ref h rfl ?_
    walk_at "t"
    refine ⟨cp, ?_⟩
    walk_at "t"
    try rw [hf]
    have e := (bits_in l0 (rs (by simp)) r0 (rb (by simp))).2.2
    rw [e] at q
    exact q
end
theorem valuesL_ok {m : Nat} {st : Store} {Q : K} {is : List Int} {ns : List Nd} (hm : 5 ≤ m) (S : Sheet ns) (hi : ∀ i, i ∈ is → 0 ≤ i) (hl : ns.length ≤ 1000) (q : ∀ st', FraG st.length st st' → rdL st' st.length ((vals is ns).map D.int) → Q (.ref st.length) st') : callN prog m "_law_values" [.tup (ns.map Nd.dat), .tup (is.map D.int)] st Q := by
  obtain ⟨k, rfl⟩ : ∃ n, m = n + 5 := ⟨m - 5, by omega⟩
  refine call_intro rfl rfl ?_
  unfold b_l_values
  walk_at "s"
  refine ⟨Nat.le_of_ble_eq_true rfl, ?_⟩
  walk_at "s"
  refine Nxt.mk ?_
  walk_at "s"
  refine for_map ns Nd.dat rfl (fun j σ st' => ∃ o3 o4 o5 : Option D, σ = [some (.tup (ns.map Nd.dat)), some (.tup (is.map D.int)), some (.ref st.length), o3, o4, o5] ∧ rdL st' st.length ((vals is (ns.take j)).map D.int) ∧ FraG st.length st st') ⟨none, none, none, rfl, rdL_new, FraG.new⟩ (fun j x σ st' hx ⟨o3, o4, o5, e, h, f⟩ N hN => ?_) (fun σ st' ⟨o3, o4, o5, e, h, f⟩ => ?_)
  · subst e
    refine ⟨trivial, ?_⟩
    obtain ⟨S', G⟩ := S.pre hx
    have F := fits_all is hi S'
    have hlen := vals_len is S'
    have hj : (ns.take j).length ≤ 1000 := by rw [List.length_take]; omega
    have ap : ∀ {st2 : Store} {o4 : Option D} {z : Int}, z = val is (vals is (ns.take j)) x → Grw st' st2 → appendM (.ref st.length) [.int z] st2 fun _ st3 => N [some (.tup (ns.map Nd.dat)), some (.tup (is.map D.int)), some (.ref st.length), some x.dat, o4, o5] st3 := by
      intro st2 o4 z ez g
      have h2 := g.rd h
      refine append_at h2 (by simp [szl]; omega) ?_
      refine hN _ _ ⟨some x.dat, o4, o5, rfl, ?_, (f.more g).setG⟩
      rw [vals_take hx, List.map_append, ez]
      exact rdL_set h2
    have gd : ∀ {a : Nat} {w : Int}, Has ((ns.take j).map Nd.wd) a w → a < (vals is (ns.take j)).length ∧ 0 ≤ (vals is (ns.take j)).getD a 0 ∧ (vals is (ns.take j)).getD a 0 ≤ fullI w := by
      intro a w ha
      obtain ⟨v, e, h0, h1⟩ := F a w ha
      refine ⟨(List.getElem?_eq_some_iff.1 e).1, ?_⟩
      rw [List.getD_eq_getElem?_getD, e]
      exact ⟨h0, h1⟩
    cases x with
    | word w v =>
      walk_at "t"
      refine ⟨ty_at h, ?_⟩
      walk_at "t"
      exact ap rfl (.refl _)
    | inp w i =>
      obtain ⟨w0, w1, hi3⟩ := G
      have cp := cpow_small (w := w) (by omega) (by omega)
      have hf := full1 w0 w1
      have ez : val is (vals is (ns.take j)) (.inp w i) = Builtin.bitAnd (if i < is.length then is.getD i 0 else 0) (fullI w) := by
        show (if i < is.length then _ else _) = _
        split
        · rfl
        · exact (mask_zero).symm
      walk_at "t"
      rw [List.length_map]
      refine way (fun hh => ?_) (fun hh => ?_)
      · have h' : i < is.length := by have := of_decide_eq_true hh; omega
        walk_at "t"
        refine ⟨.int (is.getD i 0), ?_, ?_⟩
        · unfold atD
          rw [if_pos (by omega), Int.toNat_natCast, List.getElem?_map, List.getElem?_eq_getElem h', List.getD_eq_getElem?_getD, List.getElem?_eq_getElem h']
          rfl
        · walk_at "t"
          refine ⟨ty_at h, ?_⟩
          walk_at "t"
          refine ⟨cp, ?_⟩
          walk_at "t"
          rw [hf]
          refine ap ?_ (.refl _)
          rw [ez, if_pos h']
      · have h' : ¬ i < is.length := by have := of_decide_eq_false hh; omega
        walk_at "t"
        refine ⟨ty_at h, ?_⟩
        walk_at "t"
        refine ⟨cp, ?_⟩
        walk_at "t"
        rw [hf]
        refine ap ?_ (.refl _)
        rw [ez, if_neg h']
    | one o w a =>
      obtain ⟨w0, w1, ho, u, ha, hu⟩ := G
      walk_at "t"
      refine ⟨(opS_w o).1, by decide +kernel, wayF (opS_w o).2.1 ?_⟩
      walk_at "t"
      refine ⟨(opS_w o).1, by decide +kernel, wayF (opS_w o).2.2 ?_⟩
      walk_at "t"
      refine ⟨ty_at h, ?_⟩
      walk_at "t"
      refine lc_parts [a] h (by simp; exact (gd ha).1) (by simp) (fun _ => trivial) (fun b hb acc N' h3 hN' => ?_) ?_
      · walk_at "t"
        exact ix_refN h3 (by simp at hb; subst hb; exact (gd ha).1) hN'
      · walk_at "t"
        refine word1 (k := k + 3) ho w0 w1 (gd ha).2.1 (fun hne => by rw [← hu hne]; exact (gd ha).2.2) rdL_new ?_
        exact ap rfl (.app (.refl _))
    | two o w a b =>
      obtain ⟨w0, w1, ho, u, v, ha, hb, g1, g2, g3⟩ := G
      walk_at "t"
      refine ⟨(opS_w o).1, by decide +kernel, wayF (opS_w o).2.1 ?_⟩
      walk_at "t"
      refine ⟨(opS_w o).1, by decide +kernel, wayF (opS_w o).2.2 ?_⟩
      walk_at "t"
      have hp : ∀ c' ∈ [a, b], c' < (vals is (ns.take j)).length := by
        intro c' hc'
        simp only [List.mem_cons, List.not_mem_nil, or_false] at hc'
        rcases hc' with rfl | rfl
        · exact (gd ha).1
        · exact (gd hb).1
      refine ⟨ty_at h, ?_⟩
      walk_at "t"
      refine lc_parts [a, b] h hp (by simp) (fun _ => trivial) (fun b' hb' acc N' h3 hN' => ?_) ?_
      · walk_at "t"
        exact ix_refN h3 (hp _ hb') hN'
      · walk_at "t"
        refine word2 (k := k + 3) ho w0 w1 (gd ha).2.1 (le255 S' ha (gd ha).2.2) (gd hb).2.1 (le255 S' hb (gd hb).2.2) ?_ ?_ rdL_new ?_
        · intro ho'
          rw [← g2 (by rcases ho' with rfl | rfl | rfl | rfl <;> rfl)]
          exact (gd ha).2.2
        · intro ho'
          rw [← g3 (by rcases ho' with rfl | rfl | rfl <;> rfl) (by rcases ho' with rfl | rfl | rfl <;> rfl)]
          exact (gd hb).2.2
        · exact ap rfl (.app (.refl _))
    | pick w c a b =>
      obtain ⟨w0, w1, hc, ha, hb⟩ := G
      walk_at "s"
      refine at_is rfl ?_
      walk_at "s"
      refine ⟨(opS_w .pick).1, by decide +kernel, wayF (opS_w .pick).2.1 ?_⟩
      walk_at "s"
      refine at_is rfl ?_
      walk_at "s"
      refine ⟨(opS_w .pick).1, by decide +kernel, wayF (opS_w .pick).2.2 ?_⟩
      walk_at "s"
      have hp : ∀ c' ∈ [c, a, b], c' < (vals is (ns.take j)).length := by
        intro c' hc'
        simp only [List.mem_cons, List.not_mem_nil, or_false] at hc'
        rcases hc' with rfl | rfl | rfl
        · exact (gd hc).1
        · exact (gd ha).1
        · exact (gd hb).1
      refine ⟨ty_at h, ?_⟩
      walk_at "t"
      refine lc_parts [c, a, b] h hp (by simp) (fun _ => trivial) (fun b' hb' acc N' h3 hN' => ?_) ?_
      · walk_at "t"
        exact ix_refN h3 (hp _ hb') hN'
      · walk_at "t"
        refine word3 (k := k + 3) w0 w1 (gd hc).2.1 (by have := (gd hc).2.2; have e1 : fullI 1 = 1 := by decide
                                                        omega) rdL_new ?_
        exact ap rfl (.app (.refl _))
  · subst e
    refine ⟨trivial, ?_⟩
    walk_at "r"
    rw [List.take_length] at h
    exact q _ f h
end Pk45
end PartPdk45P

section PartPdk45P2
set_option Elab.async false
set_option linter.all false
set_option maxRecDepth 100000
set_option maxHeartbeats 1000000
namespace Pk45
open PySem Pd
local macro_rules | `(tactic| walk_at "t") => `(tactic| (repeat (first | refine Red.red ?_ | refine Nxt.mk ?_ | refine ⟨by decide +kernel, by decide +kernel, wayF (by decide +kernel) ?_⟩ | refine ⟨by decide +kernel, by decide +kernel, wayT (by decide +kernel) ?_⟩ | refine ⟨by decide +kernel, ?_⟩ | refine ⟨Nat.le_of_ble_eq_true rfl, ?_⟩ | refine at_is rfl ?_)))
local instance notinTup2_45 {x : D} {xs : List D} {st : Store} {r : Bool → Prop} : Red (notinC x (.tup xs) st r) (x.flat = true ∧ xs.all D.flat = true ∧ r (!(xs.any fun y => D.eqb y x))) := ⟨id⟩
local macro_rules | `(tactic| walk_at "s") => `(tactic| (repeat (refine Red.red ?_)))
local macro_rules | `(tactic| walk_at "r") => `(tactic| (repeat (first | refine Red.red ?_ | refine Nxt.mk ?_)))
local macro_rules | `(tactic| walk_at "v") => `(tactic| (repeat (first | refine Red.red ?_ | refine Nxt.mk ?_ | refine ⟨Nat.le_of_ble_eq_true rfl, ?_⟩ | refine at_is rfl ?_)))
local macro_rules | `(tactic| walk_at "w") => `(tactic| (repeat (first | refine Red.red ?_ | refine Nxt.mk ?_ | refine wayF rfl ?_ | refine wayT rfl ?_ | refine ⟨Nat.le_of_ble_eq_true rfl, ?_⟩ | refine at_is rfl ?_)))
local macro_rules | `(tactic| walk_at "u") => `(tactic| (repeat (first | refine Red.red ?_ | refine Nxt.mk ?_ | refine ⟨Nat.le_of_ble_eq_true rfl, ?_⟩ | refine at_is rfl ?_ | refine ⟨by decide +kernel, by decide +kernel, wayF (by decide +kernel) ?_⟩ | refine ⟨by decide +kernel, by decide +kernel, wayT (by decide +kernel) ?_⟩ | refine ⟨by decide +kernel, by decide +kernel, ?_⟩ | refine wayF (by decide +kernel) ?_ | refine wayT (by decide +kernel) ?_)))
local instance inNewB2_45 {x : D} {xs : List D} {st : Store} {r : Bool → Prop} : Red (inC x (.ref st.length) (st ++ [.lst xs]) r) (x.flat = true ∧ xs.all D.flat = true ∧ r (xs.any fun y => D.eqb y x)) := ⟨fun h => ⟨xs, .inl (by simp [rdL]), h⟩⟩
local instance inTupN2_45 {x : D} {xs : List D} {st : Store} {r : Bool → Prop} : Red (inC x (.tup xs) st r) (x.flat = true ∧ xs.all D.flat = true ∧ r (xs.any fun y => D.eqb y x)) := ⟨id⟩
local macro_rules | `(tactic| walk_at "z") => `(tactic| (repeat (first | refine Red.red ?_ | refine Nxt.mk ?_ | refine ⟨by decide +kernel, by decide +kernel, wayF (by decide +kernel) ?_⟩ | refine ⟨by decide +kernel, by decide +kernel, wayT (by decide +kernel) ?_⟩ | refine ⟨by decide +kernel, ?_⟩ | refine ⟨Nat.le_of_ble_eq_true rfl, ?_⟩ | refine wayF rfl ?_ | refine wayT rfl ?_ | refine at_is rfl ?_)))
/-! k45, text 2. Own work. -/
section
variable {k : Nat} {st : Store} {Q : K} {w l r a b : Int}
theorem res1 {o : Op} (ho : one o = true) (w0 : 1 ≤ w) (w1 : w ≤ 8) (q : Q (.int (v1 o w l)) st) : callN prog (k + 2) "result" [.str (opS o), .int w, .tup [.int l]] st Q := by
  refine call_intro rfl rfl ?_
  unfold b_p_result
  cases o <;> try (cases ho; done)
  all_goals (unfold opS; walk_at "t"; refine greatest_ok (prog := prog) rfl (by omega) w1 ?_; walk_at "t"; exact q)
theorem res3 (w0 : 1 ≤ w) (w1 : w ≤ 8) (q : Q (.int (if l = 1 then a else b)) st) : callN prog (k + 2) "result" [.str (opS .pick), .int w, .tup [.int l, .int a, .int b]] st Q := by
  refine call_intro rfl rfl ?_
  unfold b_p_result opS
  walk_at "t"
  by_cases h : l = 1
  · rw [if_pos h] at q
    refine wayT (by simpa using h) ?_
    walk_at "t"
    exact q
  · rw [if_neg h] at q
    refine wayF (by simpa using h) ?_
    walk_at "t"
    exact q

theorem rel_ok {o : Op} (ho : (match o with | .eq => true | .ne => true | .lt => true | .le => true | _ => false) = true) (q : Q (.int (v2 o w l r)) st) : callN prog (k + 1) "related" [.str (opS o), .int l, .int r] st Q := by
  refine call_intro rfl rfl ?_
  unfold b_p_related
  cases o <;> try (cases ho; done)
  all_goals (unfold opS; walk_at "t"; exact q)
theorem rek_ok {o : Op} (ho : (match o with | .add => true | .sub => true | .mul => true | .and => true | .or => true | .xor => true | _ => false) = true) (r0 : 0 ≤ r) (r1 : r ≤ 1000000) (q : ∀ z, v2 o w l r = Builtin.bitAnd z (fullI w) → Q (.int z) st) : callN prog (k + 1) "reckoned" [.str (opS o), .int l, .int r] st Q := by
  refine call_intro rfl rfl ?_
  unfold b_p_reckoned
  cases o <;> try (cases ho; done)
  · unfold opS; walk_at "t"; exact q _ rfl
  · unfold opS; walk_at "t"; exact q _ rfl
  · unfold opS; walk_at "t"
    refine ⟨cmul_small r0 r1, ?_⟩
    walk_at "t"; exact q _ rfl
  · unfold opS; walk_at "t"; exact q _ rfl
  · unfold opS; walk_at "t"; exact q _ rfl
  · unfold opS; walk_at "t"; exact q _ rfl
theorem div_ok {o : Op} (ho : (match o with | .div => true | .rem => true | _ => false) = true) (l0 : 0 ≤ l) (l1 : l ≤ 255) (r0 : 0 ≤ r) (r1 : r ≤ 255) (q : Q (.int (v2 o w l r)) st) : callN prog (k + 1) "divided" [.str (opS o), .int l, .int r] st Q := by
  refine call_intro rfl rfl ?_
  unfold b_p_divided
  walk_at "t"
  by_cases h : r = 0
  · refine wayT (by simpa using h) ?_
    walk_at "t"
    have e : v2 o w l r = 0 := by cases o <;> first | (cases ho; done) | exact if_pos h
    rw [e] at q
    exact q
  · refine wayF (by simpa using h) ?_
    walk_at "t"
    cases o <;> try (cases ho; done)
    · unfold opS; walk_at "t"
      refine ⟨⟨by omega, by omega⟩, ?_⟩
      walk_at "t"
      have e : v2 .div w l r = l / r := if_neg h
      rw [e] at q
      exact q
    · unfold opS; walk_at "t"
      refine ⟨⟨by omega, by omega⟩, ?_⟩
      walk_at "t"
      have h1 : 0 ≤ l / r := Int.ediv_nonneg l0 r0
      have h2 : l / r ≤ l := Int.ediv_le_self r l0
      refine ⟨cmul_small h1 (by omega), ?_⟩
      walk_at "t"
      have e : v2 .rem w l r = l - r * (l / r) := if_neg h
      rw [e] at q
      exact q
theorem sh_ok {o : Op} (ho : (match o with | .shl => true | .shr => true | _ => false) = true) (w0 : 1 ≤ w) (w1 : w ≤ 8) (l0 : 0 ≤ l) (l1 : l ≤ 255) (r0 : 0 ≤ r) (r1 : r ≤ 255) (q : Q (.int (v2 o w l r)) st) : callN prog (k + 2) "shifted" [.str (opS o), .int w, .int l, .int r] st Q := by
  refine call_intro rfl rfl ?_
  unfold b_p_shifted
  walk_at "t"
  by_cases h : w ≤ r
  · refine wayT (by simpa using h) ?_
    walk_at "t"
    have e : v2 o w l r = 0 := by cases o <;> first | (cases ho; done) | exact if_pos h
    rw [e] at q
    exact q
  · refine wayF (by simpa using h) ?_
    walk_at "t"
    cases o <;> try (cases ho; done)
    · unfold opS; walk_at "t"
      refine ⟨⟨r0, by omega, by omega⟩, ?_⟩
      walk_at "t"
      refine greatest_ok (prog := prog) rfl (by omega) w1 ?_
      walk_at "t"
      have e : v2 .shl w l r = Builtin.bitAnd (l * 2 ^ r.toNat) (fullI w) := if_neg h
      rw [e] at q
      exact q
    · unfold opS; walk_at "t"
      refine ⟨r0, ?_⟩
      have e : v2 .shr w l r = l / 2 ^ r.toNat := if_neg h
      rw [e] at q
      exact q
theorem res2 {o : Op} (ho : two o = true) (w0 : 1 ≤ w) (w1 : w ≤ 8) (l0 : 0 ≤ l) (l1 : l ≤ 255) (r0 : 0 ≤ r) (r1 : r ≤ 255) (q : Q (.int (v2 o w l r)) st) : callN prog (k + 3) "result" [.str (opS o), .int w, .tup [.int l, .int r]] st Q := by
  refine call_intro rfl rfl ?_
  unfold b_p_result
  cases o <;> try (cases ho; done)
  case add => unfold opS; walk_at "t"; refine rek_ok (o := .add) (w := w) rfl r0 (by omega) fun z hz => ?_; walk_at "t"; refine greatest_ok (prog := prog) rfl (by omega) w1 ?_; walk_at "t"; rw [hz] at q; exact q
  case sub => unfold opS; walk_at "t"; refine rek_ok (o := .sub) (w := w) rfl r0 (by omega) fun z hz => ?_; walk_at "t"; refine greatest_ok (prog := prog) rfl (by omega) w1 ?_; walk_at "t"; rw [hz] at q; exact q
  case mul => unfold opS; walk_at "t"; refine rek_ok (o := .mul) (w := w) rfl r0 (by omega) fun z hz => ?_; walk_at "t"; refine greatest_ok (prog := prog) rfl (by omega) w1 ?_; walk_at "t"; rw [hz] at q; exact q
  case and => unfold opS; walk_at "t"; refine rek_ok (o := .and) (w := w) rfl r0 (by omega) fun z hz => ?_; walk_at "t"; refine greatest_ok (prog := prog) rfl (by omega) w1 ?_; walk_at "t"; rw [hz] at q; exact q
  case or => unfold opS; walk_at "t"; refine rek_ok (o := .or) (w := w) rfl r0 (by omega) fun z hz => ?_; walk_at "t"; refine greatest_ok (prog := prog) rfl (by omega) w1 ?_; walk_at "t"; rw [hz] at q; exact q
  case xor => unfold opS; walk_at "t"; refine rek_ok (o := .xor) (w := w) rfl r0 (by omega) fun z hz => ?_; walk_at "t"; refine greatest_ok (prog := prog) rfl (by omega) w1 ?_; walk_at "t"; rw [hz] at q; exact q
  case shl => unfold opS; walk_at "t"; exact sh_ok (o := .shl) rfl w0 w1 l0 l1 r0 r1 q
  case shr => unfold opS; walk_at "t"; exact sh_ok (o := .shr) rfl w0 w1 l0 l1 r0 r1 q
  case div => unfold opS; walk_at "t"; exact div_ok (o := .div) (w := w) rfl l0 l1 r0 r1 q
  case rem => unfold opS; walk_at "t"; exact div_ok (o := .rem) (w := w) rfl l0 l1 r0 r1 q
  case eq => unfold opS; walk_at "t"; exact rel_ok (o := .eq) (w := w) rfl q
  case ne => unfold opS; walk_at "t"; exact rel_ok (o := .ne) (w := w) rfl q
  case lt => unfold opS; walk_at "t"; exact rel_ok (o := .lt) (w := w) rfl q
  case le => unfold opS; walk_at "t"; exact rel_ok (o := .le) (w := w) rfl q

end
theorem values_ok {m : Nat} {st : Store} {Q : K} {is : List Int} {ns : List Nd} (hm : 5 ≤ m) (S : Sheet ns) (hi : ∀ i, i ∈ is → 0 ≤ i) (hl : ns.length ≤ 1000) (q : ∀ st', FraG st.length st st' → Q (.tup ((vals is ns).map D.int)) st') : callN prog m "values_of" [.tup (ns.map Nd.dat), .tup (is.map D.int)] st Q := by
  obtain ⟨k, rfl⟩ : ∃ n, m = n + 5 := ⟨m - 5, by omega⟩
  refine call_intro rfl rfl ?_
  unfold b_p_values_of
  walk_at "s"
  refine ⟨Nat.le_of_ble_eq_true rfl, ?_⟩
  walk_at "s"
  refine Nxt.mk ?_
  walk_at "s"
  refine for_map ns Nd.dat rfl (fun j σ st' => ∃ o3 o4 : Option D, σ = [some (.tup (ns.map Nd.dat)), some (.tup (is.map D.int)), some (.ref st.length), o3, o4, none] ∧ rdL st' st.length ((vals is (ns.take j)).map D.int) ∧ FraG st.length st st') ⟨none, none, rfl, rdL_new, FraG.new⟩ (fun j x σ st' hx ⟨o3, o4, e, h, f⟩ N hN => ?_) (fun σ st' ⟨o3, o4, e, h, f⟩ => ?_)
  · subst e
    refine ⟨trivial, ?_⟩
    obtain ⟨S', G⟩ := S.pre hx
    have F := fits_all is hi S'
    have hlen := vals_len is S'
    have hj : (ns.take j).length ≤ 1000 := by rw [List.length_take]; omega
    have ap : ∀ {st2 : Store} {o4 : Option D} {z : Int}, z = val is (vals is (ns.take j)) x → Grw st' st2 → appendM (.ref st.length) [.int z] st2 fun _ st3 => N [some (.tup (ns.map Nd.dat)), some (.tup (is.map D.int)), some (.ref st.length), some x.dat, o4, none] st3 := by
      intro st2 o4 z ez g
      have h2 := g.rd h
      refine append_at h2 (by simp [szl]; omega) ?_
      refine hN _ _ ⟨some x.dat, o4, rfl, ?_, (f.more g).setG⟩
      rw [vals_take hx, List.map_append, ez]
      exact rdL_set h2
    have gd : ∀ {a : Nat} {w : Int}, Has ((ns.take j).map Nd.wd) a w → a < (vals is (ns.take j)).length ∧ 0 ≤ (vals is (ns.take j)).getD a 0 ∧ (vals is (ns.take j)).getD a 0 ≤ fullI w := by
      intro a w ha
      obtain ⟨v, e, h0, h1⟩ := F a w ha
      refine ⟨(List.getElem?_eq_some_iff.1 e).1, ?_⟩
      rw [List.getD_eq_getElem?_getD, e]
      exact ⟨h0, h1⟩
    cases x with
    | word w v =>
      walk_at "t"
      refine ⟨ty_at h, ?_⟩
      walk_at "t"
      exact ap rfl (.refl _)
    | inp w i =>
      obtain ⟨w0, w1, hi3⟩ := G
      walk_at "t"
      refine ⟨ty_at h, ?_⟩
      walk_at "t"
      rw [List.length_map]
      refine way (fun hh => ?_) (fun hh => ?_)
      · have h' : i < is.length := by have := of_decide_eq_true hh; omega
        walk_at "t"
        refine ⟨.int (is.getD i 0), ?_, ?_⟩
        · unfold atD
          rw [if_pos (by omega), Int.toNat_natCast, List.getElem?_map, List.getElem?_eq_getElem h', List.getD_eq_getElem?_getD, List.getElem?_eq_getElem h']
          rfl
        · walk_at "t"
          refine greatest_ok (prog := prog) rfl (by omega) w1 ?_
          walk_at "t"
          refine ap ?_ (.refl _)
          exact (if_pos h').symm
      · have h' : ¬ i < is.length := by have := of_decide_eq_false hh; omega
        walk_at "t"
        exact ap (if_neg h').symm (.refl _)
    | one o w a =>
      obtain ⟨w0, w1, ho, u, ha, hu⟩ := G
      walk_at "t"
      refine ⟨(opS_w o).1, by decide +kernel, wayF (opS_w o).2.1 ?_⟩
      walk_at "t"
      refine ⟨(opS_w o).1, by decide +kernel, wayF (opS_w o).2.2 ?_⟩
      walk_at "t"
      refine lc_parts [a] h (by simp; exact (gd ha).1) (by simp) (fun _ => trivial) (fun b hb acc N' h3 hN' => ?_) ?_
      · walk_at "t"
        exact ix_refN h3 (by simp at hb; subst hb; exact (gd ha).1) hN'
      · walk_at "t"
        refine ⟨ty_at (rdL_app h), ?_⟩
        walk_at "t"
        refine star_at rdL_new ?_
        walk_at "t"
        first | refine ⟨by simp, by simp [szl], ?_⟩ | refine ⟨by simp [szl], ?_⟩ | skip
        refine res1 (k := k + 2) ho w0 w1 ?_
        exact ap rfl (.app (.refl _))
    | two o w a b =>
      obtain ⟨w0, w1, ho, u, v, ha, hb, g1, g2, g3⟩ := G
      walk_at "t"
      refine ⟨(opS_w o).1, by decide +kernel, wayF (opS_w o).2.1 ?_⟩
      walk_at "t"
      refine ⟨(opS_w o).1, by decide +kernel, wayF (opS_w o).2.2 ?_⟩
      walk_at "t"
      have hp : ∀ c' ∈ [a, b], c' < (vals is (ns.take j)).length := by
        intro c' hc'
        simp only [List.mem_cons, List.not_mem_nil, or_false] at hc'
        rcases hc' with rfl | rfl
        · exact (gd ha).1
        · exact (gd hb).1
      refine lc_parts [a, b] h hp (by simp) (fun _ => trivial) (fun b' hb' acc N' h3 hN' => ?_) ?_
      · walk_at "t"
        exact ix_refN h3 (hp _ hb') hN'
      · walk_at "t"
        refine ⟨ty_at (rdL_app h), ?_⟩
        walk_at "t"
        refine star_at rdL_new ?_
        walk_at "t"
        first | refine ⟨by simp, by simp [szl], ?_⟩ | refine ⟨by simp [szl], ?_⟩ | skip
        refine res2 (k := k + 1) ho w0 w1 (gd ha).2.1 (le255 S' ha (gd ha).2.2) (gd hb).2.1 (le255 S' hb (gd hb).2.2) ?_
        exact ap rfl (.app (.refl _))
    | pick w c a b =>
      obtain ⟨w0, w1, hc, ha, hb⟩ := G
      walk_at "s"
      refine at_is rfl ?_
      walk_at "s"
      refine ⟨(opS_w .pick).1, by decide +kernel, wayF (opS_w .pick).2.1 ?_⟩
      walk_at "s"
      refine at_is rfl ?_
      walk_at "s"
      refine ⟨(opS_w .pick).1, by decide +kernel, wayF (opS_w .pick).2.2 ?_⟩
      walk_at "s"
      have hp : ∀ c' ∈ [c, a, b], c' < (vals is (ns.take j)).length := by
        intro c' hc'
        simp only [List.mem_cons, List.not_mem_nil, or_false] at hc'
        rcases hc' with rfl | rfl | rfl
        · exact (gd hc).1
        · exact (gd ha).1
        · exact (gd hb).1
      refine lc_parts [c, a, b] h hp (by simp) (fun _ => trivial) (fun b' hb' acc N' h3 hN' => ?_) ?_
      · walk_at "t"
        exact ix_refN h3 (hp _ hb') hN'
      · walk_at "t"
        refine ⟨ty_at (rdL_app h), ?_⟩
        walk_at "t"
        refine star_at rdL_new ?_
        walk_at "t"
        first | refine ⟨by simp, by simp [szl], ?_⟩ | refine ⟨by simp [szl], ?_⟩ | skip
        refine res3 (k := k + 2) w0 w1 ?_
        exact ap rfl (.app (.refl _))
  · subst e
    refine ⟨trivial, ?_⟩
    walk_at "r"
    rw [List.take_length] at h
    exact tuple_at h (q _ f)
end Pk45
end PartPdk45P2

section PartPdk45P3
set_option Elab.async false
set_option linter.all false
set_option maxRecDepth 100000
set_option maxHeartbeats 1000000
namespace Pk45
open PySem Pd
local macro_rules | `(tactic| walk_at "t") => `(tactic| (repeat (first | refine Red.red ?_ | refine Nxt.mk ?_ | refine ⟨by decide +kernel, by decide +kernel, wayF (by decide +kernel) ?_⟩ | refine ⟨by decide +kernel, by decide +kernel, wayT (by decide +kernel) ?_⟩ | refine ⟨by decide +kernel, ?_⟩ | refine ⟨Nat.le_of_ble_eq_true rfl, ?_⟩ | refine at_is rfl ?_)))
local instance notinTup3_45 {x : D} {xs : List D} {st : Store} {r : Bool → Prop} : Red (notinC x (.tup xs) st r) (x.flat = true ∧ xs.all D.flat = true ∧ r (!(xs.any fun y => D.eqb y x))) := ⟨id⟩
local macro_rules | `(tactic| walk_at "s") => `(tactic| (repeat (refine Red.red ?_)))
local macro_rules | `(tactic| walk_at "r") => `(tactic| (repeat (first | refine Red.red ?_ | refine Nxt.mk ?_)))
local macro_rules | `(tactic| walk_at "v") => `(tactic| (repeat (first | refine Red.red ?_ | refine Nxt.mk ?_ | refine ⟨Nat.le_of_ble_eq_true rfl, ?_⟩ | refine at_is rfl ?_)))
local macro_rules | `(tactic| walk_at "w") => `(tactic| (repeat (first | refine Red.red ?_ | refine Nxt.mk ?_ | refine wayF rfl ?_ | refine wayT rfl ?_ | refine ⟨Nat.le_of_ble_eq_true rfl, ?_⟩ | refine at_is rfl ?_)))
local macro_rules | `(tactic| walk_at "u") => `(tactic| (repeat (first | refine Red.red ?_ | refine Nxt.mk ?_ | refine ⟨Nat.le_of_ble_eq_true rfl, ?_⟩ | refine at_is rfl ?_ | refine ⟨by decide +kernel, by decide +kernel, wayF (by decide +kernel) ?_⟩ | refine ⟨by decide +kernel, by decide +kernel, wayT (by decide +kernel) ?_⟩ | refine ⟨by decide +kernel, by decide +kernel, ?_⟩ | refine wayF (by decide +kernel) ?_ | refine wayT (by decide +kernel) ?_)))
local instance inNewB3_45 {x : D} {xs : List D} {st : Store} {r : Bool → Prop} : Red (inC x (.ref st.length) (st ++ [.lst xs]) r) (x.flat = true ∧ xs.all D.flat = true ∧ r (xs.any fun y => D.eqb y x)) := ⟨fun h => ⟨xs, .inl (by simp [rdL]), h⟩⟩
local instance inTupN3_45 {x : D} {xs : List D} {st : Store} {r : Bool → Prop} : Red (inC x (.tup xs) st r) (x.flat = true ∧ xs.all D.flat = true ∧ r (xs.any fun y => D.eqb y x)) := ⟨id⟩
local macro_rules | `(tactic| walk_at "z") => `(tactic| (repeat (first | refine Red.red ?_ | refine Nxt.mk ?_ | refine ⟨by decide +kernel, by decide +kernel, wayF (by decide +kernel) ?_⟩ | refine ⟨by decide +kernel, by decide +kernel, wayT (by decide +kernel) ?_⟩ | refine ⟨by decide +kernel, ?_⟩ | refine ⟨Nat.le_of_ble_eq_true rfl, ?_⟩ | refine wayF rfl ?_ | refine wayT rfl ?_ | refine at_is rfl ?_)))
/-! k45, text 3. Own work. -/
variable {k m n : Nat} {st st' : Store} {Q : K}
theorem drawM (hm : 1 ≤ m) {many : Int} (h : DrawAt st) (h0 : 0 < many) (h1 : many < 1073741824) (q : ∀ r st', 0 ≤ r → r < many → Fra st st' → Q (.int r) st') : callN prog m "_law_draw" [.ref 2, .int many] st Q := by
  obtain ⟨m, rfl⟩ : ∃ n, m = n + 1 := ⟨m - 1, by omega⟩
  exact draw_ok rfl h h0 h1 fun r st' r0 r1 f _ => q r st' r0 r1 f
theorem pickF {α : Type} {f : α → D} {xs : List α} (hm : 2 ≤ m) (hd : DrawAt st) (h : rdL st n (xs.map f)) (hn : n ≠ 2) (h0 : 0 < xs.length) (h1 : xs.length ≤ 1000) (q : ∀ x st', x ∈ xs → Fra st st' → Q (f x) st') : callN prog m "_law_pick" [.ref 2, .ref n] st Q := by
  obtain ⟨m, rfl⟩ : ∃ n, m = n + 2 := ⟨m - 2, by omega⟩
  refine pick_ok rfl rfl hd h hn (by simpa using h0) (by simp; omega) fun x st' hx f _ => ?_
  obtain ⟨a, ha, rfl⟩ := List.mem_map.mp hx
  exact q a st' ha f
theorem pickNewF {α : Type} {f : α → D} (xs : List α) (hm : 2 ≤ m) (hd : DrawAt st) (h0 : 0 < xs.length) (h1 : xs.length ≤ 1000) {ds : List D} (hds : ds = xs.map f) (q : ∀ x st', x ∈ xs → Fra st st' → Q (f x) st') : callN prog m "_law_pick" [.ref 2, .ref st.length] (st ++ [.lst ds]) Q := by
  subst hds
  have d2 := hd.lt
  have f1 := (Fra.refl hd).app (c := C.lst (xs.map f))
  exact pickF hm f1.dr rdL_new (by omega) h0 h1 fun x st' hx f => q x st' hx (f1.trans f)
/-! names from the pool -/
structure PoolIs (st : Store) (pn : Nat) (pl : List Str) : Prop where
  cell : rdL st pn (pl.map D.str)
  nd : pl.Nodup
  fine : ∀ s ∈ pl, okS s = true
  few : pl.length ≤ 1000
  big : 2 < pn
variable {pn : Nat} {pl : List Str}
theorem map_erase {α β : Type} (f : α → β) : ∀ (l : List α) (i : Nat), (l.map f).eraseIdx i = (l.eraseIdx i).map f
  | [], _ => rfl
  | x :: l, 0 => rfl
  | x :: l, i + 1 => by simp [map_erase f l i]
theorem PoolIs.fra (h : PoolIs st pn pl) (f : Fra st st') : PoolIs st' pn pl := ⟨f.rd h.cell (by have := h.big; omega), h.nd, h.fine, h.few, h.big⟩
theorem popM (hm : 2 ≤ m) (hd : DrawAt st) (hp : PoolIs st pn pl) (h0 : 0 < pl.length) (q : ∀ s pl' st', PoolIs st' pn pl' → pl.length = pl'.length + 1 → s ∉ pl' → s ∈ pl → (∀ x ∈ pl', x ∈ pl) → FraE pn st st' → Q (.str s) st') : callN prog m "_law_pop" [.ref 2, .ref pn] st Q := by
  obtain ⟨m, rfl⟩ : ∃ n, m = n + 2 := ⟨m - 2, by omega⟩
  have few := hp.few
  refine pop_ok rfl rfl hd hp.cell hp.big (by simpa using h0) (by simp; omega) fun i x st' hx f hr _ => ?_
  rw [List.getElem?_map] at hx
  cases hy : pl[i]? with
  | none => rw [hy] at hx; cases hx
  | some s =>
    rw [hy] at hx
    cases hx
    have pm := perm_erase hy
    have nd := pm.nodup_iff.mpr hp.nd
    rw [List.nodup_cons] at nd
    have hl := pm.length_eq
    have hs : ∀ x ∈ pl.eraseIdx i, x ∈ pl := fun x hx => pm.subset (List.mem_cons_of_mem _ hx)
    rw [map_erase] at hr
    exact q s _ st' ⟨hr, nd.2, fun x hx => hp.fine x (hs x hx), by simp at hl; omega, hp.big⟩ (by simpa using hl.symm) nd.1 (List.mem_of_getElem? hy) hs f
/-- what was popped is new: names so far -/
structure Got (pl : List Str) (ns pl' : List Str) : Prop where
  nd : ns.Nodup
  out : ∀ s ∈ ns, s ∉ pl'
  inn : ∀ s ∈ ns, s ∈ pl
  sub : ∀ s ∈ pl', s ∈ pl
  len : pl.length = pl'.length + ns.length
theorem Got.nil : Got pl [] pl := ⟨List.nodup_nil, by simp, by simp, fun _ h => h, by simp⟩
theorem Got.more {ns pl' pl2 : List Str} {s : Str} (h : Got pl ns pl') (hl : pl'.length = pl2.length + 1) (h1 : s ∉ pl2) (h2 : s ∈ pl') (h3 : ∀ x ∈ pl2, x ∈ pl') : Got pl (ns ++ [s]) pl2 := by
  refine ⟨?_, fun x hx => ?_, fun x hx => ?_, fun x hx => h.sub x (h3 x hx), by rw [List.length_append, h.len, hl]; simp; omega⟩
  · rw [List.nodup_append]
    refine ⟨h.nd, by simp, fun a ha b hb => ?_⟩
    simp at hb
    subst hb
    intro e
    subst e
    exact h.out a ha h2
  · rcases List.mem_append.mp hx with hx | hx
    · exact fun h' => h.out x hx (h3 x h')
    · simp at hx
      subst hx
      exact h1
  · rcases List.mem_append.mp hx with hx | hx
    · exact h.inn x hx
    · simp at hx
      subst hx
      exact h.sub x h2
theorem Got.trans {a b pl' pl2 : List Str} (h : Got pl a pl') (h' : Got pl' b pl2) : Got pl (a ++ b) pl2 := by
  refine ⟨?_, fun x hx => ?_, fun x hx => ?_, fun x hx => h.sub x (h'.sub x hx), by rw [List.length_append, h.len, h'.len]; omega⟩
  · rw [List.nodup_append]
    exact ⟨h.nd, h'.nd, fun x hx y hy e => h.out x hx (e ▸ h'.inn y hy)⟩
  · rcases List.mem_append.mp hx with hx | hx
    · exact fun k => h.out x hx (h'.sub x k)
    · exact h'.out x hx
  · rcases List.mem_append.mp hx with hx | hx
    · exact h.inn x hx
    · exact h.sub x (h'.inn x hx)
theorem lc_pops {gd : Store → Prop} {g : TG} {te : TE} {ρ : Pd.Env} {items : List D} (hd : DrawAt st) (hp : PoolIs st pn pl) (hl : items.length ≤ pl.length) (hg : ∀ st', gd st')
    (hs : ∀ x ∈ items, ∀ st' pl', DrawAt st' → PoolIs st' pn pl' → 0 < pl'.length → ∀ N : D → Store → Prop, (∀ s st2 pl2, PoolIs st2 pn pl2 → pl'.length = pl2.length + 1 → s ∉ pl2 → s ∈ pl' → (∀ y ∈ pl2, y ∈ pl') → FraE pn st' st2 → N (.str s) st2) → g x ρ st' fun ρ2 st2 => te ρ2 st2 N)
    (hQ : ∀ (ps : List Str) st' pl', ps.length = items.length → Got pl ps pl' → PoolIs st' pn pl' → FraE pn st st' → rdL st' st.length (ps.map D.str) → Q (.ref st.length) st') : lcLoop gd g tYes te ρ st.length Q items [] (st ++ [.lst []]) := by
  have dl := hd.lt
  have big := hp.big
  have few := hp.few
  have pb := rdL_lt hp.cell
  refine lc_by (fun pre acc st' => ∃ (ps pl' : List Str), acc = ps.map D.str ∧ ps.length = pre.length ∧ Got pl ps pl' ∧ PoolIs st' pn pl' ∧ FraE pn st st' ∧ rdL st' st.length acc) ⟨[], pl, rfl, rfl, Got.nil, hp.fra (Fra.refl hd).app, FraE.of (Fra.refl hd).app, rdL_new⟩ (fun pre x post acc st' e ⟨ps, pl', e1, h1, h2, h3, f, ha⟩ N M hN hM => ?_) (fun acc st' ⟨ps, pl', e1, h1, h2, h3, f, ha⟩ => ?_)
  · subst e1
    refine ⟨hg _, ?_⟩
    have e1 : (fun (ρ2 : Pd.Env) (st2 : Store) => tYes ρ2 st2 fun b st3 => (b = true → te ρ2 st3 N) ∧ (b = false → M st3)) = fun ρ2 st2 => te ρ2 st2 N := by
      funext ρ2 st2
      exact propext ⟨fun q => q.1 rfl, fun q => ⟨fun _ => q, fun e => nomatch e⟩⟩
    rw [e1]
    have hlen := congrArg List.length e
    simp at hlen
    have hlg := h2.len
    refine hs x (by rw [e]; simp) st' pl' f.dr h3 (by omega) N fun s st2 pl2 hp2 hl2 hn2 hi2 hs2 f2 => ?_
    have ha2 := f2.rd ha (by omega) (by omega)
    refine hN _ _ ha2 (by simp [szl]; omega) ⟨ps ++ [s], pl2, by simp, by simp [h1], h2.more hl2 hn2 hi2 hs2, ⟨rdL_ne hp2.cell (by omega), hp2.nd, hp2.fine, hp2.few, hp2.big⟩, (f.trans f2).setN (Nat.le_refl _) (by omega), rdL_set ha2⟩
  · subst e1
    exact ⟨hg _, ha, hQ ps st' pl' h1 h2 h3 f ha⟩
def poolText : Str := ("a b2 sum left r k0 kind z9z full tail n m8 aa busy cnt p t4 even2 ab1 head u v2 w lowest high mid mark " : Str) ++ ("s t e f g h i j k x y q7 deep turn gate l5 hold next1 o c0 d two zz1 near far9 last ring2 index " : Str) ++ ("aaaaaaa8 b c1 top2 net3 row col7 v claim zero result1 duty go" : Str)
def poolL : List Str := PySem.Txt.split poolText " "
theorem pool_fine : decide (45 < poolL.length) && decide (poolL.length < 1000) && poolL.all (fun s => okS s) && decide poolL.Nodup = true := by decide +kernel
theorem pool_more : 45 < poolL.length ∧ poolL.length < 1000 ∧ (∀ s ∈ poolL, okS s = true) ∧ poolL.Nodup := by
  have h := pool_fine
  simp only [Bool.and_eq_true, decide_eq_true_eq, List.all_eq_true] at h
  exact ⟨h.1.1.1, h.1.1.2, h.1.2, h.2⟩
theorem pool_ok (hm : 1 ≤ m) (q : Q (.ref st.length) (st ++ [.lst (poolL.map D.str)])) : callN prog m "_law_pool" [] st Q := by
  obtain ⟨k, rfl⟩ : ∃ n, m = n + 1 := ⟨m - 1, by omega⟩
  refine call_intro rfl rfl ?_
  unfold b_l_pool
  walk_at "s"
  refine Nxt.mk ?_
  walk_at "s"
  refine ⟨by decide +kernel, ?_⟩
  walk_at "s"
  refine Nxt.mk ?_
  walk_at "s"
  refine ⟨by decide +kernel, ?_⟩
  walk_at "s"
  exact ⟨trivial, by decide +kernel, by decide +kernel, q⟩
theorem n0_num (i : Nat) : n0 i = .int (i : Int) := n0_eq i
theorem Grw_setN {st st' : Store} (h : Grw st st') {n : Nat} {c : C} (hn : st.length ≤ n) : Grw st (st'.set n c) := by
  obtain ⟨m, rfl⟩ := h
  exact ⟨m.set (n - st.length) c, by rw [List.set_append_right _ _ hn]⟩

theorem extLL {st : Store} {n m : Nat} {xs ys : List D} {Q : K} (h : rdL st n xs) (h' : rdL st m ys) (ne : n ≠ m) (hl : xs.length + ys.length ≤ szl) (q : Q .non (st.set n (.lst (xs ++ ys)))) : extendAM (.ref n) [.ref m] st Q := extend_at h h' ne hl q
def grownW (w : Nat) (rows : List (List Int)) : List (List Int) := rows.flatMap fun p => (List.range (2 ^ w)).map fun (v : Nat) => p ++ [(v : Int)]
def allVs (vs : List Nat) : List (List Int) := vs.foldl (fun rows w => grownW w rows) [[]]
theorem allVs_take {vs : List Nat} {n w : Nat} (h : vs[n]? = some w) : allVs (vs.take (n + 1)) = grownW w (allVs (vs.take n)) := by
  unfold allVs
  rw [List.take_add_one, h, List.foldl_append]
  rfl
theorem sum_constW {α : Type} (l : List α) (c : Nat) : (l.map fun _ => c).sum = l.length * c := by
  induction l with
  | nil => simp
  | cons x l ih => simp [ih, Nat.add_mul]; omega
theorem grownW_len (w : Nat) (rows : List (List Int)) : (grownW w rows).length = rows.length * 2 ^ w := by
  unfold grownW
  rw [List.length_flatMap]
  have : (List.map (fun p : List Int => ((List.range (2 ^ w)).map fun (v : Nat) => p ++ [(v : Int)]).length) rows) = rows.map fun _ => 2 ^ w := List.map_congr_left fun p _ => by simp
  rw [this, sum_constW]
theorem allVs_len {vs : List Nat} : ∀ n, n ≤ vs.length → (allVs (vs.take n)).length = 2 ^ (vs.take n).sum
  | 0, _ => rfl
  | n + 1, h => by
    have hn := List.getElem?_eq_getElem (show n < vs.length by omega)
    rw [allVs_take hn, grownW_len, allVs_len n (by omega), List.take_add_one, hn, List.sum_append, ← Nat.pow_add]
    simp
theorem sum_take_le (vs : List Nat) (n : Nat) : (vs.take n).sum ≤ vs.sum := by
  have := List.take_append_drop n vs
  conv => rhs; rw [← this]
  rw [List.sum_append]
  omega
theorem allVs_mem {vs : List Nat} : ∀ n, n ≤ vs.length → ∀ p, p ∈ allVs (vs.take n) ↔ p.length = n ∧ ∀ i, i < n → 0 ≤ p.getD i 0 ∧ p.getD i 0 < 2 ^ (vs.getD i 0)
  | 0, _, p => by
    show p ∈ [[]] ↔ _
    rw [List.mem_singleton]
    constructor
    · rintro rfl
      exact ⟨rfl, fun i hi => absurd hi (by omega)⟩
    · rintro ⟨h, _⟩
      exact List.length_eq_zero_iff.mp h
  | n + 1, h, p => by
    have hn := List.getElem?_eq_getElem (show n < vs.length by omega)
    have hg : vs.getD n 0 = vs[n] := by rw [List.getD_eq_getElem?_getD, hn]; rfl
    rw [allVs_take hn]
    unfold grownW
    rw [List.mem_flatMap]
    constructor
    · rintro ⟨p0, h0, h1⟩
      obtain ⟨v, hv, rfl⟩ := List.mem_map.mp h1
      have hv := List.mem_range.mp hv
      obtain ⟨h2, h3⟩ := (allVs_mem n (by omega) p0).mp h0
      refine ⟨by rw [List.length_append, h2]; rfl, fun i hi => ?_⟩
      by_cases hin : i < n
      · have e : (p0 ++ [(v : Int)]).getD i 0 = p0.getD i 0 := by
          rw [List.getD_eq_getElem?_getD, List.getD_eq_getElem?_getD, List.getElem?_append_left (by omega)]
        rw [e]
        exact h3 i hin
      · have hin : i = n := by omega
        subst hin
        have e : (p0 ++ [(v : Int)]).getD i 0 = (v : Int) := by
          rw [List.getD_eq_getElem?_getD, List.getElem?_append_right (by omega), h2, Nat.sub_self]
          rfl
        rw [e, hg]
        exact ⟨by omega, by exact_mod_cast hv⟩
    · rintro ⟨h1, h2⟩
      rcases p.eq_nil_or_concat with rfl | ⟨p0, x, hp⟩
      · cases h1
      · rw [List.concat_eq_append] at hp
        subst hp
        have hl : p0.length = n := by rw [List.length_append] at h1; simpa using h1
        have hx := h2 n (by omega)
        have e : (p0 ++ [x]).getD n 0 = x := by
          rw [List.getD_eq_getElem?_getD, List.getElem?_append_right (by omega), hl, Nat.sub_self]
          rfl
        rw [e, hg] at hx
        refine ⟨p0, (allVs_mem n (by omega) p0).mpr ⟨hl, fun i hi => ?_⟩, List.mem_map.mpr ⟨x.toNat, List.mem_range.mpr ?_, ?_⟩⟩
        · have := h2 i (by omega)
          rw [List.getD_eq_getElem?_getD, List.getElem?_append_left (by omega), ← List.getD_eq_getElem?_getD] at this
          exact this
        · have e2 : ((2 : Int) ^ vs[n]) = ((2 ^ vs[n] : Nat) : Int) := by simp
          rw [e2] at hx
          omega
        · rw [show ((x.toNat : Nat) : Int) = x by omega]
def tupI (p : List Int) : D := .tup (p.map D.int)
theorem tuplesW_ok {m : Nat} {st : Store} {Q : K} {vs : List Nat} (hm : 1 ≤ m) (hv8 : ∀ v ∈ vs, v ≤ 8) (hsz : vs.sum ≤ 8) (hvl : vs.length ≤ 8)
    (q : ∀ rn st', rdL st' rn ((allVs vs).map tupI) → Grw st st' → Q (.ref rn) st') : callN prog m "_law_tuples" [.tup (vs.map iN')] st Q := by
  obtain ⟨m, rfl⟩ : ∃ n, m = n + 1 := ⟨m - 1, by omega⟩
  refine call_intro rfl rfl ?_
  unfold b_l_tuples
  have hlen : ∀ n, n ≤ vs.length → (allVs (vs.take n)).length ≤ 256 := fun n hn => by
    rw [allVs_len n hn]
    have := sum_take_le vs n
    exact Nat.le_trans (Nat.pow_le_pow_right (by decide) (show (vs.take n).sum ≤ 8 by omega)) (by decide)
  walk_at "v"
  have f1 := Grw.app (c := C.lst [.tup []]) (.refl st)
  have h1 := rdL_new (st := st) (xs := [D.tup []])
  generalize st ++ [C.lst [.tup []]] = st1 at f1 h1 ⊢
  have hrn : st.length ≤ st.length := Nat.le_refl _
  generalize st.length = rn at h1 ⊢
  refine for_map vs iN' rfl (fun j σ st' => ∃ (rn : Nat) (o2 o3 o4 : Option D), σ = [some (.tup (vs.map iN')), some (.ref rn), o2, o3, o4, none] ∧ rdL st' rn ((allVs (vs.take j)).map tupI) ∧ Grw st st') ⟨rn, none, none, none, rfl, by rw [List.take_zero]; exact h1, f1⟩ (fun j x σ st2 hx ⟨rn, o2, o3, o4, e, h2, f2⟩ N hN => ?_) (fun σ st2 ⟨rn, o2, o3, o4, e, h2, f2⟩ => ?_)
  · subst e
    refine ⟨trivial, ?_⟩
    have hj := (List.getElem?_eq_some_iff.mp hx).1
    have hx8 := hv8 x (List.mem_of_getElem? hx)
    have hall := hlen j (by omega)
    unfold iN'
    walk_at "s"
    refine ⟨Nat.le_of_ble_eq_true rfl, ?_⟩
    walk_at "s"
    refine Nxt.mk ?_
    have f3 := f2.app (c := C.lst [])
    have h3 := rdL_new (st := st2) (xs := [])
    have h23 := rdL_app (c := C.lst []) h2
    have hlb : st.length ≤ st2.length := f2.le
    have hrl := rdL_lt h2
    generalize st2 ++ [C.lst []] = st3 at f3 h3 h23 ⊢
    generalize st2.length = ln at h3 hlb hrl ⊢
    walk_at "s"
    refine it_at h23 ?_
    refine for_map (allVs (vs.take j)) tupI rfl (fun i σ st' => ∃ o4, σ = [some (.tup (vs.map iN')), some (.ref rn), some (.int (x : Int)), some (.ref ln), o4, none] ∧ rdL st' rn ((allVs (vs.take j)).map tupI) ∧ rdL st' ln ((grownW x ((allVs (vs.take j)).take i)).map tupI) ∧ Grw st st') ⟨o4, rfl, h23, h3, f3⟩ (fun i p σ st4 hp ⟨o4, e, h4, h5, f4⟩ N' hN' => ?_) (fun σ st4 ⟨o4, e, h4, h5, f4⟩ => ?_)
    · subst e
      refine ⟨.inl h4, ?_⟩
      have hpl : p.length ≤ 8 := by
        have := ((allVs_mem j (by omega) p).mp (List.mem_of_getElem? hp)).1
        omega
      have hl5 := rdL_lt h5
      unfold tupI
      walk_at "s"
      refine ⟨ty_at h5, ?_⟩
      walk_at "s"
      refine ⟨cpow_small (by omega) (by omega), ?_⟩
      walk_at "s"
      have e1 : (1 : Int) * 2 ^ (x : Int).toNat = ((2 ^ x : Nat) : Int) := by rw [Int.one_mul, Int.toNat_natCast]; simp
      have e256 := Nat.pow_le_pow_right (n := 2) (by decide) hx8
      rw [e1]
      have e3 : (0 : Int) ≤ ((2 ^ x : Nat) : Int) := Int.natCast_nonneg _
      have e4 : ((2 ^ x : Nat) : Int) ≤ 256 := Int.ofNat_le.mpr e256
      refine ⟨by omega, by omega, ?_⟩
      rw [Int.toNat_natCast]
      refine lc_map (List.range (2 ^ x)) n0 (fun v => tupI (p ++ [(v : Int)])) rfl (by rw [List.length_range]; unfold szl; omega) (fun _ => trivial) (fun v hv acc N2 hN2 => ?_) ?_
      · rw [n0_num]
        walk_at "v"
        refine ⟨by rw [List.length_map]; unfold szl; simp only [List.length_singleton]; omega, ?_⟩
        have : tupI (p ++ [(v : Int)]) = .tup (p.map D.int ++ [.int v]) := by show D.tup _ = _; rw [List.map_append]; rfl
        rw [← this]
        exact hN2
      walk_at "s"
      refine extLL (rdL_app h5) rdL_new (by omega) ?_ ?_
      · rw [List.length_map, List.length_map, List.length_range, grownW_len]
        have h6 : ((allVs (vs.take j)).take i).length ≤ 256 := by rw [List.length_take]; omega
        have h8 : ((allVs (vs.take j)).take i).length * 2 ^ x ≤ 256 * 256 := Nat.mul_le_mul h6 (by omega)
        unfold szl; omega
      · refine hN' _ _ ⟨_, rfl, rdL_ne (rdL_app h4) (by omega), ?_, Grw_setN f4.app (by omega)⟩
        have : (grownW x ((allVs (vs.take j)).take (i + 1))).map tupI = (grownW x ((allVs (vs.take j)).take i)).map tupI ++ (List.range (2 ^ x)).map fun (v : Nat) => tupI (p ++ [(v : Int)]) := by
          unfold grownW
          rw [List.take_add_one, hp, List.flatMap_append, List.map_append]
          congr 1
          show (([p].flatMap _).map tupI) = _
          rw [List.flatMap_cons, List.flatMap_nil, List.append_nil, List.map_map]
          rfl
        rw [this]
        exact rdL_set (rdL_app h5)
    · subst e
      refine ⟨.inl h4, ?_⟩
      rw [List.take_length] at h5
      refine Nxt.mk ?_
      walk_at "s"
      exact hN _ _ ⟨ln, _, _, _, rfl, by rw [allVs_take hx]; exact h5, f4⟩
  · subst e
    rw [List.take_length] at h2
    refine ⟨trivial, Nxt.mk ?_⟩
    walk_at "s"
    exact q rn st2 h2 f2
end Pk45
end PartPdk45P3

section PartPdk45P4
set_option Elab.async false
set_option linter.all false
set_option maxRecDepth 100000
set_option maxHeartbeats 1000000
namespace Pk45
open PySem Pd
local macro_rules | `(tactic| walk_at "t") => `(tactic| (repeat (first | refine Red.red ?_ | refine Nxt.mk ?_ | refine ⟨by decide +kernel, by decide +kernel, wayF (by decide +kernel) ?_⟩ | refine ⟨by decide +kernel, by decide +kernel, wayT (by decide +kernel) ?_⟩ | refine ⟨by decide +kernel, ?_⟩ | refine ⟨Nat.le_of_ble_eq_true rfl, ?_⟩ | refine at_is rfl ?_)))
local instance notinTup4_45 {x : D} {xs : List D} {st : Store} {r : Bool → Prop} : Red (notinC x (.tup xs) st r) (x.flat = true ∧ xs.all D.flat = true ∧ r (!(xs.any fun y => D.eqb y x))) := ⟨id⟩
local macro_rules | `(tactic| walk_at "s") => `(tactic| (repeat (refine Red.red ?_)))
local macro_rules | `(tactic| walk_at "r") => `(tactic| (repeat (first | refine Red.red ?_ | refine Nxt.mk ?_)))
local macro_rules | `(tactic| walk_at "v") => `(tactic| (repeat (first | refine Red.red ?_ | refine Nxt.mk ?_ | refine ⟨Nat.le_of_ble_eq_true rfl, ?_⟩ | refine at_is rfl ?_)))
local macro_rules | `(tactic| walk_at "w") => `(tactic| (repeat (first | refine Red.red ?_ | refine Nxt.mk ?_ | refine wayF rfl ?_ | refine wayT rfl ?_ | refine ⟨Nat.le_of_ble_eq_true rfl, ?_⟩ | refine at_is rfl ?_)))
local macro_rules | `(tactic| walk_at "u") => `(tactic| (repeat (first | refine Red.red ?_ | refine Nxt.mk ?_ | refine ⟨Nat.le_of_ble_eq_true rfl, ?_⟩ | refine at_is rfl ?_ | refine ⟨by decide +kernel, by decide +kernel, wayF (by decide +kernel) ?_⟩ | refine ⟨by decide +kernel, by decide +kernel, wayT (by decide +kernel) ?_⟩ | refine ⟨by decide +kernel, by decide +kernel, ?_⟩ | refine wayF (by decide +kernel) ?_ | refine wayT (by decide +kernel) ?_)))
local instance inNewB4_45 {x : D} {xs : List D} {st : Store} {r : Bool → Prop} : Red (inC x (.ref st.length) (st ++ [.lst xs]) r) (x.flat = true ∧ xs.all D.flat = true ∧ r (xs.any fun y => D.eqb y x)) := ⟨fun h => ⟨xs, .inl (by simp [rdL]), h⟩⟩
local instance inTupN4_45 {x : D} {xs : List D} {st : Store} {r : Bool → Prop} : Red (inC x (.tup xs) st r) (x.flat = true ∧ xs.all D.flat = true ∧ r (xs.any fun y => D.eqb y x)) := ⟨id⟩
local macro_rules | `(tactic| walk_at "z") => `(tactic| (repeat (first | refine Red.red ?_ | refine Nxt.mk ?_ | refine ⟨by decide +kernel, by decide +kernel, wayF (by decide +kernel) ?_⟩ | refine ⟨by decide +kernel, by decide +kernel, wayT (by decide +kernel) ?_⟩ | refine ⟨by decide +kernel, ?_⟩ | refine ⟨Nat.le_of_ble_eq_true rfl, ?_⟩ | refine wayF rfl ?_ | refine wayT rfl ?_ | refine at_is rfl ?_)))
/-! k45, text 4. Own work. -/
theorem eqb_wd {x y : Nd} (h : D.eqb x.dat y.dat = true) : x.wd = y.wd := by
  rw [dat_eq, dat_eq] at h
  simp only [D.eqb, eqbs, Bool.and_eq_true, beq_iff_eq] at h
  exact h.2.1
theorem opS_inj {o p : Op} (h : opS o = opS p) : o = p := by
  have dec : ∀ o p : Op, decide (opS o = opS p) = true → o.ctorIdx = p.ctorIdx := by
    intro o p
    cases o <;> cases p <;> decide +kernel
  have := dec o p (decide_eq_true h)
  cases o <;> cases p <;> first | rfl | cases this
theorem eqb_nd {x y : Nd} (h : D.eqb x.dat y.dat = true) : x = y := by
  rw [dat_eq, dat_eq] at h
  simp only [D.eqb, eqbs, Bool.and_eq_true, decide_eq_true_eq] at h
  obtain ⟨h1, h2, h3⟩ := h
  cases x with
  | word w v =>
    cases y with
    | word w' v' =>
      simp [tailOf, eqbs, D.eqb] at h3
      have h2 : w = w' := eq_of_beq h2
      rw [h2, h3]
    | inp w' i' => exact absurd h1 (by show ¬ Str.ofString "word" = Str.ofString "input"; decide +kernel)
    | one o w' b => exact absurd h1.symm (of_decide_eq_false (opS_w o).2.1)
    | two o w' b c => exact absurd h1.symm (of_decide_eq_false (opS_w o).2.1)
    | pick w' b c d => exact absurd h1.symm (of_decide_eq_false (opS_w .pick).2.1)
  | inp w i =>
    cases y with
    | word w' v' => exact absurd h1 (by show ¬ Str.ofString "input" = Str.ofString "word"; decide +kernel)
    | inp w' i' =>
      simp [tailOf, eqbs, D.eqb] at h3
      have h2 : w = w' := eq_of_beq h2
      rw [h2, show i = i' by omega]
    | one o w' b => exact absurd h1.symm (of_decide_eq_false (opS_w o).2.2)
    | two o w' b c => exact absurd h1.symm (of_decide_eq_false (opS_w o).2.2)
    | pick w' b c d => exact absurd h1.symm (of_decide_eq_false (opS_w .pick).2.2)
  | one o w b =>
    cases y with
    | word w' v' => exact absurd h1 (of_decide_eq_false (opS_w o).2.1)
    | inp w' i' => exact absurd h1 (of_decide_eq_false (opS_w o).2.2)
    | one o' w' b' =>
      simp [tailOf, eqbs, D.eqb] at h3
      have h2 : w = w' := eq_of_beq h2
      have h1 : opS o = opS o' := h1
      rw [h2, opS_inj h1, show b = b' by omega]
    | two o' w' b' c' => simp [tailOf, eqbs] at h3
    | pick w' b' c' d' => simp [tailOf, eqbs] at h3
  | two o w b c =>
    cases y with
    | word w' v' => exact absurd h1 (of_decide_eq_false (opS_w o).2.1)
    | inp w' i' => exact absurd h1 (of_decide_eq_false (opS_w o).2.2)
    | one o' w' b' => simp [tailOf, eqbs] at h3
    | two o' w' b' c' =>
      simp [tailOf, eqbs, D.eqb] at h3
      have h2 : w = w' := eq_of_beq h2
      have h1 : opS o = opS o' := h1
      rw [h2, opS_inj h1, show b = b' by omega, show c = c' by omega]
    | pick w' b' c' d' => simp [tailOf, eqbs] at h3
  | pick w b c d =>
    cases y with
    | word w' v' => exact absurd h1 (of_decide_eq_false (opS_w .pick).2.1)
    | inp w' i' => exact absurd h1 (of_decide_eq_false (opS_w .pick).2.2)
    | one o' w' b' => simp [tailOf, eqbs] at h3
    | two o' w' b' c' => simp [tailOf, eqbs] at h3
    | pick w' b' c' d' =>
      simp [tailOf, eqbs, D.eqb] at h3
      have h2 : w = w' := eq_of_beq h2
      rw [h2, show b = b' by omega, show c = c' by omega, show d = d' by omega]
/-! frames: cells may change at places of ex alone -/
structure Kp (ex : List Nat) (st st' : Store) : Prop where
  le : st.length ≤ st'.length
  at' : ∀ n, n < st.length → n ∉ ex → st'[n]? = st[n]?
section
variable {ex ex' : List Nat} {st st' st2 : Store} {n : Nat} {c : C} {xs : List D}
theorem Kp.refl : Kp ex st st := ⟨Nat.le_refl _, fun _ _ _ => rfl⟩
theorem Kp.trans (h : Kp ex st st') (h' : Kp ex st' st2) : Kp ex st st2 := ⟨Nat.le_trans h.le h'.le, fun n hn hx => (h'.at' n (Nat.lt_of_lt_of_le hn h.le) hx).trans (h.at' n hn hx)⟩
theorem Kp.mono (h : Kp ex st st') (s : ∀ x ∈ ex, x ∈ ex') : Kp ex' st st' := ⟨h.le, fun n hn hx => h.at' n hn fun hm => hx (s n hm)⟩
theorem Kp.app (h : Kp ex st st') : Kp ex st (st' ++ [c]) := ⟨by simp; have := h.le; omega, fun n hn hx => by rw [List.getElem?_append_left (Nat.lt_of_lt_of_le hn h.le)]; exact h.at' n hn hx⟩
theorem Kp.set (h : Kp ex st st') (hn : n ∈ ex ∨ st.length ≤ n) : Kp ex st (st'.set n c) := ⟨by rw [List.length_set]; exact h.le, fun m hm hx => by
  have : n ≠ m := by
    rintro rfl
    rcases hn with hn | hn
    · exact hx hn
    · omega
  rw [List.getElem?_set_ne this]
  exact h.at' m hm hx⟩
theorem Kp.rd (h : Kp ex st st') (r : rdL st n xs) (hx : n ∉ ex) : rdL st' n xs := (h.at' n (rdL_lt r) hx).trans r
theorem rdD_lt {kvs : List (Ky × D)} (h : rdD st n kvs) : n < st.length := (List.getElem?_eq_some_iff.mp h).1
theorem Kp.rdD {kvs : List (Ky × D)} (h : Kp ex st st') (r : rdD st n kvs) (hx : n ∉ ex) : Pd.rdD st' n kvs := (h.at' n (rdD_lt r) hx).trans r
theorem Kp.dr (h : Kp ex st st') (d : DrawAt st) (h1 : 1 ∉ ex) (h2 : 2 ∉ ex) : DrawAt st' := by
  obtain ⟨ns, a, b, v, e1, e2, r⟩ := d
  exact ⟨ns, a, b, v, h.rd e1 h1, h.rd e2 h2, r⟩
theorem Kp.of_fra (f : Fra st st') : Kp [2] st st' := ⟨f.le, fun n hn hx => f.at' n hn (by simpa using hx)⟩
theorem Kp.of_fra' (f : Fra st st') (h : 2 ∈ ex) : Kp ex st st' := (Kp.of_fra f).mono fun x hx => by simp at hx; subst hx; exact h
theorem Kp.of_grw (f : Grw st st') : Kp ex st st' := by
  obtain ⟨m, rfl⟩ := f
  exact ⟨by simp, fun n hn _ => List.getElem?_append_left hn⟩
theorem Kp.of_frag {g : Nat} (f : FraG g st st') : Kp ex st st' := Kp.of_grw f.grw
end
/-! sheets that are made: a sum with a word stands on no word and no such sum -/
def isW (ns : List Nd) (a : Nat) : Bool := match ns[a]? with
  | some (.word _ _) => true
  | _ => false
def sumOf (ns : List Nd) (t : Nat) : Nat × Int := match ns[t]? with
  | some (.two .add _ a b) => (match ns[b]? with | some (.word _ v) => (a, v) | _ => (t, 0))
  | _ => (t, 0)
def sumF (ns : List Nd) (t : Nat) : Bool := match ns[t]? with
  | some (.two .add _ _ b) => isW ns b
  | _ => false
def NFn (ns : List Nd) (x : Nd) : Prop := ∀ w a b, x = .two .add w a b → isW ns b = true → isW ns a = false ∧ sumF ns a = false
def NF (ns : List Nd) : Prop := ∀ (i : Nat) (x : Nd), ns[i]? = some x → NFn ns x
def isWn : Nd → Bool
  | .word _ _ => true
  | _ => false
theorem isW_at {ns : List Nd} {a : Nat} {x : Nd} (h : ns[a]? = some x) : isW ns a = isWn x := by
  unfold isW
  rw [h]
  cases x <;> rfl
theorem isW_ex {ns : List Nd} {a : Nat} (h : isW ns a = true) : ∃ w v, ns[a]? = some (.word w v) := by
  unfold isW at h
  split at h
  · exact ⟨_, _, by assumption⟩
  · cases h
theorem isW_app {ns e : List Nd} {a : Nat} (h : a < ns.length) : isW (ns ++ e) a = isW ns a := by
  unfold isW
  rw [List.getElem?_append_left h]
theorem Good.two_lt {ns : List Nd} {o : Op} {w : Int} {a b : Nat} (G : Good (ns.map Nd.wd) (.two o w a b)) : a < ns.length ∧ b < ns.length := by
  obtain ⟨_, _, _, u, v, ha, hb, _⟩ := G
  have h1 := (List.getElem?_eq_some_iff.mp ha).1
  have h2 := (List.getElem?_eq_some_iff.mp hb).1
  simp at h1 h2
  exact ⟨h1, h2⟩
theorem shAt {ns : List Nd} (S : Sheet ns) {a : Nat} {x : Nd} (h : ns[a]? = some x) : Good (ns.map Nd.wd) x ∧ (∀ o w b c, x = .two o w b c → b < a ∧ c < a) := by
  obtain ⟨S', G⟩ := S.pre h
  refine ⟨?_, fun o w b c e => ?_⟩
  · have hh : ∀ {b : Nat} {w : Int}, Has ((ns.take a).map Nd.wd) b w → Has (ns.map Nd.wd) b w := by
      intro b w hb
      unfold Has at *
      rw [List.map_take, List.getElem?_take] at hb
      split at hb
      · exact hb
      · cases hb
    cases x with
    | word w v => exact G
    | inp w i => exact G
    | one o w a => obtain ⟨h1, h2, h3, u, h4, h5⟩ := G; exact ⟨h1, h2, h3, u, hh h4, h5⟩
    | two o w a b => obtain ⟨h1, h2, h3, u, v, h4, h5, h6⟩ := G; exact ⟨h1, h2, h3, u, v, hh h4, hh h5, h6⟩
    | pick w c a b => obtain ⟨h1, h2, h3, h4, h5⟩ := G; exact ⟨h1, h2, hh h3, hh h4, hh h5⟩
  · subst e
    have := Good.two_lt G
    rw [List.length_take] at this
    omega
theorem sumF_app {ns e : List Nd} {a : Nat} (S : Sheet ns) (h : a < ns.length) : sumF (ns ++ e) a = sumF ns a := by
  unfold sumF
  rw [List.getElem?_append_left h]
  have hx : ns[a]? = some ns[a] := List.getElem?_eq_getElem h
  rw [hx]
  cases ex : ns[a] with
  | two o w b c =>
    rw [ex] at hx
    have := (shAt S hx).2 _ _ _ _ rfl
    cases o <;> first | rfl | exact isW_app (by omega)
  | _ => rfl
theorem NFn.app {ns e : List Nd} {x : Nd} (S : Sheet ns) (G : Good (ns.map Nd.wd) x) (h : NFn ns x) : NFn (ns ++ e) x := by
  intro w a b ex hb
  subst ex
  have := Good.two_lt G
  rw [isW_app this.2] at hb
  rw [isW_app this.1, sumF_app S this.1]
  exact h w a b rfl hb
theorem NF.snoc {ns : List Nd} {x : Nd} (S : Sheet ns) (G : Good (ns.map Nd.wd) x) (h : NF ns) (hx : NFn ns x) : NF (ns ++ [x]) := by
  intro i y hy
  by_cases hi : i < ns.length
  · rw [List.getElem?_append_left hi] at hy
    exact (h i y hy).app S (shAt S hy).1
  · rw [List.getElem?_append_right (by omega)] at hy
    have : y = x := by
      have := List.mem_of_getElem? hy
      simpa using this
    subst this
    exact hx.app S G
structure ShA (st : Store) (sn : Nat) (ns : List Nd) : Prop where
  cell : rdL st sn (ns.map Nd.dat)
  sheet : Sheet ns
  nf : NF ns
  few : ns.length ≤ 900000
structure Mk (sn : Nat) (st : Store) (ns ns' : List Nd) (st' : Store) (c : Nat) : Prop where
  cell : rdL st' sn (ns'.map Nd.dat)
  sheet : Sheet ns'
  nf : NF ns'
  ext : ∃ e, ns' = ns ++ e
  few : ns'.length ≤ ns.length + c
  kp : Kp [sn] st st'
section
variable {sn c c' : Nat} {st st' st2 : Store} {ns ns' ns2 : List Nd}
theorem Mk.refl (h : ShA st sn ns) : Mk sn st ns ns st 0 := ⟨h.cell, h.sheet, h.nf, ⟨[], by simp⟩, by omega, .refl⟩
theorem Mk.trans (h : Mk sn st ns ns' st' c) (h' : Mk sn st' ns' ns2 st2 c') : Mk sn st ns ns2 st2 (c + c') := by
  obtain ⟨e, he⟩ := h.ext
  obtain ⟨e', he'⟩ := h'.ext
  exact ⟨h'.cell, h'.sheet, h'.nf, ⟨e ++ e', by rw [he', he, List.append_assoc]⟩, by have := h.few; have := h'.few; omega, h.kp.trans h'.kp⟩
theorem Mk.more (h : Mk sn st ns ns' st' c) (hc : c ≤ c') : Mk sn st ns ns' st' c' := ⟨h.cell, h.sheet, h.nf, h.ext, by have := h.few; omega, h.kp⟩
theorem Mk.at (h : Mk sn st ns ns' st' c) {a : Nat} {x : Nd} (e : ns[a]? = some x) : ns'[a]? = some x := by
  obtain ⟨m, rfl⟩ := h.ext
  rw [List.getElem?_append_left (List.getElem?_eq_some_iff.mp e).1]
  exact e
theorem Mk.le (h : Mk sn st ns ns' st' c) : ns.length ≤ ns'.length := by
  obtain ⟨m, rfl⟩ := h.ext
  simp
theorem Mk.has (h : Mk sn st ns ns' st' c) {a : Nat} {w : Int} (e : Has (ns.map Nd.wd) a w) : Has (ns'.map Nd.wd) a w := by
  obtain ⟨m, rfl⟩ := h.ext
  unfold Has at *
  rw [List.map_append, List.getElem?_append_left (List.getElem?_eq_some_iff.mp e).1]
  exact e
theorem Mk.isW (h : Mk sn st ns ns' st' c) {a : Nat} (e : a < ns.length) : isW ns' a = isW ns a := by
  obtain ⟨m, rfl⟩ := h.ext
  exact isW_app e
theorem Mk.sumF (h : Mk sn st ns ns' st' c) (S : Sheet ns) {a : Nat} (e : a < ns.length) : sumF ns' a = sumF ns a := by
  obtain ⟨m, rfl⟩ := h.ext
  exact sumF_app S e
theorem Mk.sh (h : Mk sn st ns ns' st' c) (hl : ns.length + c ≤ 900000) : ShA st' sn ns' := ⟨h.cell, h.sheet, h.nf, by have := h.few; omega⟩
theorem has_at {a : Nat} {x : Nd} (e : ns[a]? = some x) : Has (ns.map Nd.wd) a x.wd := by
  unfold Has
  rw [List.getElem?_map, e]
  rfl
theorem has_ex {a : Nat} {w : Int} (e : Has (ns.map Nd.wd) a w) : ∃ x, ns[a]? = some x ∧ x.wd = w ∧ a < ns.length := by
  unfold Has at e
  rw [List.getElem?_map] at e
  cases h : ns[a]? with
  | none => rw [h] at e; cases e
  | some x =>
    rw [h] at e
    cases e
    exact ⟨x, rfl, rfl, (List.getElem?_eq_some_iff.mp h).1⟩
theorem atN {a : Nat} {x : Nd} (e : ns[a]? = some x) : atD (ns.map Nd.dat) (a : Int) = some x.dat := by
  unfold atD
  rw [if_pos (by omega), Int.toNat_natCast, List.getElem?_map, e]
  rfl
theorem place_ok {m : Nat} {Q : K} {x : Nd} (hm : 1 ≤ m) (h : ShA st sn ns) (G : Good (ns.map Nd.wd) x) (hx : NFn ns x) (q : ∀ ns' (j : Nat) st', Mk sn st ns ns' st' 1 → ns'[j]? = some x → Q (.int (j : Int)) st') : callN prog m "_law_place" [.ref sn, x.dat] st Q := by
  obtain ⟨k, rfl⟩ : ∃ n, m = n + 1 := ⟨m - 1, by omega⟩
  refine call_intro rfl rfl ?_
  unfold b_l_place
  have hf := h.few
  have idx : ∀ (ns' : List Nd) (st' : Store), Mk sn st ns ns' st' 1 → (∃ y ∈ ns', D.eqb y.dat x.dat = true) → indexDM (.ref sn) [x.dat] st' Q := by
    intro ns' st' hP hy
    have hlt : ns'.findIdx (fun y => D.eqb y.dat x.dat) < ns'.length := List.findIdx_lt_length_of_exists hy
    have hat := List.findIdx_getElem (w := hlt)
    refine ⟨ns'.map Nd.dat, ns'.findIdx (fun y => D.eqb y.dat x.dat), (ns'[ns'.findIdx (fun y => D.eqb y.dat x.dat)]).dat, .inl hP.cell, dat_ok x, dats_ok ns', by rw [List.getElem?_map, List.getElem?_eq_getElem hlt]; rfl, hat, fun m z hm hz => ?_, ?_⟩
    · rw [List.getElem?_map, List.getElem?_eq_getElem (by omega)] at hz
      cases hz
      have := List.not_of_lt_findIdx hm
      simpa using this
    · exact q ns' _ st' hP ((List.getElem?_eq_getElem hlt).trans (congrArg some (eqb_nd hat)))
  walk_at "s"
  refine notin_at h.cell (dat_ok x) (dats_ok ns) ?_
  walk_at "s"
  refine way (fun hb => ?_) (fun hb => ?_)
  · walk_at "s"
    refine ⟨ty_at h.cell, ?_⟩
    walk_at "s"
    refine append_at h.cell (by simp [szl]; omega) ?_
    walk_at "r"
    have h2 : rdL (st.set sn (.lst (ns.map Nd.dat ++ [x.dat]))) sn ((ns ++ [x]).map Nd.dat) := by rw [List.map_append]; exact rdL_set h.cell
    refine ⟨ty_at h2, ?_⟩
    walk_at "s"
    exact idx (ns ++ [x]) _ ⟨h2, .snoc h.sheet G, h.nf.snoc h.sheet G hx, ⟨[x], rfl⟩, by simp, Kp.refl.set (.inl (by simp))⟩ ⟨x, by simp, eqb_refl 60 _ (dat_ok x)⟩
  · walk_at "r"
    refine ⟨ty_at h.cell, ?_⟩
    walk_at "s"
    refine idx ns _ ((Mk.refl h).more (by omega)) ?_
    rw [Bool.not_eq_false', List.any_eq_true] at hb
    obtain ⟨d, hd, he⟩ := hb
    obtain ⟨y, hy, rfl⟩ := List.mem_map.mp hd
    exact ⟨y, hy, he⟩
theorem sum_ok {m : Nat} {Q : K} {x : Nd} {t : Nat} (hm : 1 ≤ m) (h : ShA st sn ns) (hx : ns[t]? = some x) (q : Q (.tup [.int ((sumOf ns t).1 : Int), .int (sumOf ns t).2]) st) : callN prog m "_law_sum_of" [.ref sn, .int (t : Int)] st Q := by
  obtain ⟨k, rfl⟩ : ∃ n, m = n + 1 := ⟨m - 1, by omega⟩
  refine call_intro rfl rfl ?_
  unfold b_l_sum_of
  walk_at "s"
  refine ix_ref h.cell (atN hx) ?_
  unfold sumOf at q
  rw [hx] at q
  cases x with
  | two o w a b =>
    have hb := ((shAt h.sheet hx).2 _ _ _ _ rfl).2
    have hl := (List.getElem?_eq_some_iff.mp hx).1
    obtain ⟨y, hy⟩ : ∃ y, ns[b]? = some y := ⟨_, List.getElem?_eq_getElem (show b < ns.length by omega)⟩
    obtain ⟨_, _, ho, _⟩ := (shAt h.sheet hx).1
    cases o <;> try (cases ho; done)
    case add =>
      unfold Nd.dat
      walk_at "t"
      refine ix_ref h.cell (atN hy) ?_
      simp only [hy] at q
      cases y with
      | word w' v =>
        unfold Nd.dat
        walk_at "t"
        refine ix_ref h.cell (atN hy) ?_
        walk_at "t"
        exact q
      | inp w' i =>
        unfold Nd.dat
        walk_at "t"
        exact q
      | one o' w' b' =>
        unfold Nd.dat
        walk_at "t"
        refine ⟨(opS_w o').1, by decide +kernel, wayF (opS_w o').2.1 ?_⟩
        walk_at "t"
        exact q
      | two o' w' b' c' =>
        unfold Nd.dat
        walk_at "t"
        refine ⟨(opS_w o').1, by decide +kernel, wayF (opS_w o').2.1 ?_⟩
        walk_at "t"
        exact q
      | pick w' b' c' d' =>
        unfold Nd.dat
        walk_at "t"
        exact q
    all_goals
      unfold Nd.dat opS
      walk_at "t"
      exact q
  | word w v =>
    unfold Nd.dat
    walk_at "t"
    exact q
  | inp w i =>
    unfold Nd.dat
    walk_at "t"
    exact q
  | one o w a =>
    obtain ⟨_, _, ho, _⟩ := (shAt h.sheet hx).1
    unfold Nd.dat
    cases o <;> try (cases ho; done)
    all_goals (unfold opS; walk_at "t"; exact q)
  | pick w c a b =>
    unfold Nd.dat opS
    walk_at "t"
    exact q
end
end Pk45
end PartPdk45P4

section PartPdk45P5
set_option Elab.async false
set_option linter.all false
set_option maxRecDepth 100000
set_option maxHeartbeats 1000000
namespace Pk45
open PySem Pd
local macro_rules | `(tactic| walk_at "t") => `(tactic| (repeat (first | refine Red.red ?_ | refine Nxt.mk ?_ | refine ⟨by decide +kernel, by decide +kernel, wayF (by decide +kernel) ?_⟩ | refine ⟨by decide +kernel, by decide +kernel, wayT (by decide +kernel) ?_⟩ | refine ⟨by decide +kernel, ?_⟩ | refine ⟨Nat.le_of_ble_eq_true rfl, ?_⟩ | refine at_is rfl ?_)))
local instance notinTup5_45 {x : D} {xs : List D} {st : Store} {r : Bool → Prop} : Red (notinC x (.tup xs) st r) (x.flat = true ∧ xs.all D.flat = true ∧ r (!(xs.any fun y => D.eqb y x))) := ⟨id⟩
local macro_rules | `(tactic| walk_at "s") => `(tactic| (repeat (refine Red.red ?_)))
local macro_rules | `(tactic| walk_at "r") => `(tactic| (repeat (first | refine Red.red ?_ | refine Nxt.mk ?_)))
local macro_rules | `(tactic| walk_at "v") => `(tactic| (repeat (first | refine Red.red ?_ | refine Nxt.mk ?_ | refine ⟨Nat.le_of_ble_eq_true rfl, ?_⟩ | refine at_is rfl ?_)))
local macro_rules | `(tactic| walk_at "w") => `(tactic| (repeat (first | refine Red.red ?_ | refine Nxt.mk ?_ | refine wayF rfl ?_ | refine wayT rfl ?_ | refine ⟨Nat.le_of_ble_eq_true rfl, ?_⟩ | refine at_is rfl ?_)))
local macro_rules | `(tactic| walk_at "u") => `(tactic| (repeat (first | refine Red.red ?_ | refine Nxt.mk ?_ | refine ⟨Nat.le_of_ble_eq_true rfl, ?_⟩ | refine at_is rfl ?_ | refine ⟨by decide +kernel, by decide +kernel, wayF (by decide +kernel) ?_⟩ | refine ⟨by decide +kernel, by decide +kernel, wayT (by decide +kernel) ?_⟩ | refine ⟨by decide +kernel, by decide +kernel, ?_⟩ | refine wayF (by decide +kernel) ?_ | refine wayT (by decide +kernel) ?_)))
local instance inNewB5_45 {x : D} {xs : List D} {st : Store} {r : Bool → Prop} : Red (inC x (.ref st.length) (st ++ [.lst xs]) r) (x.flat = true ∧ xs.all D.flat = true ∧ r (xs.any fun y => D.eqb y x)) := ⟨fun h => ⟨xs, .inl (by simp [rdL]), h⟩⟩
local instance inTupN5_45 {x : D} {xs : List D} {st : Store} {r : Bool → Prop} : Red (inC x (.tup xs) st r) (x.flat = true ∧ xs.all D.flat = true ∧ r (xs.any fun y => D.eqb y x)) := ⟨id⟩
local macro_rules | `(tactic| walk_at "z") => `(tactic| (repeat (first | refine Red.red ?_ | refine Nxt.mk ?_ | refine ⟨by decide +kernel, by decide +kernel, wayF (by decide +kernel) ?_⟩ | refine ⟨by decide +kernel, by decide +kernel, wayT (by decide +kernel) ?_⟩ | refine ⟨by decide +kernel, ?_⟩ | refine ⟨Nat.le_of_ble_eq_true rfl, ?_⟩ | refine wayF rfl ?_ | refine wayT rfl ?_ | refine at_is rfl ?_)))
/-! k45, text 5. Own work. -/
def mkRest (c : Cl) : TS := sSeq (sIf (tTru (dCmp eqC (dVar 1) (dC (.str "!=")))) (sRet (dCall c "_law_make" (aCons (dVar 0) (aCons (dC (.str "not")) (aCons (dC (.int 1)) (aCons (dLst (aCons (dCall c "_law_make" (aCons (dVar 0) (aCons (dC (.str "==")) (aCons (dC (.int 1)) (aCons (dVar 3) (aNil)))))) (aNil))) (aNil))))))) (sNext)) (sSeq (sIf (tAnd (tTru (dCmp inC (dVar 1) (dTup (aCons (dC (.str "+")) (aCons (dC (.str "*")) (aCons (dC (.str "&")) (aCons (dC (.str "|")) (aCons (dC (.str "^")) (aCons (dC (.str "==")) (aNil)))))))))) (tTru (dCmp eqC (dOp ixK (dOp ixK (dVar 4) (dC (.int 0))) (dC (.int 0))) (dC (.str "word"))))) (sRet (dCall c "_law_make" (aCons (dVar 0) (aCons (dVar 1) (aCons (dVar 2) (aCons (dLst (aCons (dOp ixK (dVar 3) (dC (.int 1))) (aCons (dOp ixK (dVar 3) (dC (.int 0))) (aNil)))) (aNil))))))) (sNext)) (sSeq (sIf (tAnd (tTru (dCmp eqC (dVar 1) (dC (.str "-")))) (tTru (dCmp eqC (dOp ixK (dOp ixK (dVar 4) (dC (.int 1))) (dC (.int 0))) (dC (.str "word"))))) (sSeq (sAsg (dCall c "_law_place" (aCons (dVar 0) (aCons (dTup (aCons (dC (.str "word")) (aCons (dVar 2) (aCons (dOp andK (dUn negK (dOp ixK (dOp ixK (dVar 4) (dC (.int 1))) (dC (.int 2)))) (dOp subK (dOp shlK (dC (.int 1)) (dVar 2)) (dC (.int 1)))) (aNil))))) (aNil)))) (gName 5)) (sRet (dCall c "_law_make" (aCons (dVar 0) (aCons (dC (.str "+")) (aCons (dVar 2) (aCons (dLst (aCons (dOp ixK (dVar 3) (dC (.int 0))) (aCons (dVar 5) (aNil)))) (aNil)))))))) (sNext)) (sSeq (sIf (tAnd (tTru (dCmp inC (dVar 1) (dTup (aCons (dC (.str "not")) (aCons (dC (.str "neg")) (aNil)))))) (tTru (dCmp eqC (dOp ixK (dOp ixK (dVar 4) (dC (.int 0))) (dC (.int 0))) (dVar 1)))) (sRet (dOp ixK (dOp ixK (dVar 4) (dC (.int 0))) (dC (.int 2)))) (sNext)) (sSeq (sIf (tAnd (tTru (dCmp eqC (dVar 1) (dC (.str "wide")))) (tTru (dCmp eqC (dOp ixK (dOp ixK (dVar 4) (dC (.int 0))) (dC (.int 1))) (dVar 2)))) (sRet (dOp ixK (dVar 3) (dC (.int 0)))) (sNext)) (sSeq (sIf (tAnd (tTru (dCmp eqC (dVar 1) (dC (.str "pick")))) (tTru (dCmp eqC (dOp ixK (dOp ixK (dVar 4) (dC (.int 0))) (dC (.int 0))) (dC (.str "word"))))) (sRet (dOp ixK (dVar 3) (dOp subK (dC (.int 2)) (dOp ixK (dOp ixK (dVar 4) (dC (.int 0))) (dC (.int 2)))))) (sNext)) (sSeq (sIf (tAnd (tTru (dCmp eqC (dVar 1) (dC (.str "pick")))) (tTru (dCmp eqC (dOp ixK (dVar 3) (dC (.int 1))) (dOp ixK (dVar 3) (dC (.int 2)))))) (sRet (dOp ixK (dVar 3) (dC (.int 1)))) (sNext)) (sSeq (sAsg (dC .non) (gName 6)) (sSeq (sIf (tAnd (tTru (dCmp eqC (dB lenB (aCons (dVar 3) (aNil))) (dC (.int 2)))) (tTru (dCmp eqC (dOp ixK (dOp ixK (dVar 4) (dC (.int 1))) (dC (.int 0))) (dC (.str "word"))))) (sAsg (dCall c "_law_make_word" (aCons (dVar 0) (aCons (dVar 1) (aCons (dVar 2) (aCons (dVar 3) (aCons (dOp ixK (dOp ixK (dVar 4) (dC (.int 1))) (dC (.int 2))) (aNil))))))) (gName 6)) (sIf (tTru (dCmp eqC (dB lenB (aCons (dVar 3) (aNil))) (dC (.int 2)))) (sAsg (dCall c "_law_make_same" (aCons (dVar 0) (aCons (dVar 1) (aCons (dVar 2) (aCons (dVar 3) (aNil)))))) (gName 6)) (sNext))) (sSeq (sIf (tTru (dCmp isC (dVar 6) (dC .non))) (sRet (dCall c "_law_place" (aCons (dVar 0) (aCons (dOp addK (dTup (aCons (dVar 1) (aCons (dVar 2) (aNil)))) (dB tupleB (aCons (dVar 3) (aNil)))) (aNil))))) (sNext)) (sRet (dVar 6)))))))))))
theorem head_at {x : Nd} {st : Store} {Q : K} (q : Q (.str (nameOf x)) st) : ixK x.dat (.int 0) st Q := by
  rw [dat_eq]
  exact ⟨.str (nameOf x), rfl, q⟩
theorem nm_ok (x : Nd) : okS (nameOf x) = true ∧ decide (nameOf x = Str.ofString "word") = isWn x := by
  cases x with
  | word w v => exact ⟨by show okS (Str.ofString "word") = true; decide +kernel, by show decide (Str.ofString "word" = Str.ofString "word") = true; decide +kernel⟩
  | inp w i => exact ⟨by show okS (Str.ofString "input") = true; decide +kernel, by show decide (Str.ofString "input" = Str.ofString "word") = false; decide +kernel⟩
  | one o w a => exact ⟨(opS_w o).1, (opS_w o).2.1⟩
  | two o w a b => exact ⟨(opS_w o).1, (opS_w o).2.1⟩
  | pick w c a b => exact ⟨(opS_w .pick).1, (opS_w .pick).2.1⟩
theorem all_val {α : Type} {st : Store} {n : Nat} {xs : List α} {f : α → Bool} {Q : K} (h : rdL st n (xs.map fun x => D.bl (f x))) (q : Q (.bl (xs.all f)) st) : allB [.ref n] st Q := by
  refine ⟨_, .inl h, by rw [List.all_map, List.all_eq_true]; intro _ _; rfl, ?_⟩
  rw [List.all_map]
  exact q
def wvl : Nd → Int
  | .word _ v => v
  | _ => 0
section
variable {sn c m : Nat} {st st' st2 : Store} {ns ns' ns2 : List Nd} {Q : K}
/-- the first steps of _law_make: the nodes of the terms, and whether all are words -/
theorem make_open {o : Str} {w : Int} {tc : Nat} (ps : List (Nat × Nd)) (hl : ps.length ≤ 2) (h : ShA st sn ns) (hp : ∀ p ∈ ps, ns[p.1]? = some p.2) (ht : rdL st tc (ps.map fun p => .int (p.1 : Int)))
    (hw : ps.all (fun p => isWn p.2) = true → ∀ (vc : Nat) st', Grw st st' → rdL st' vc (ps.map fun p => .int (wvl p.2)) → ∃ z, (∀ N : K, N (.int z) st' → callN prog m "_law_word" [.str o, .int w, .ref vc] st' N) ∧ callN prog m "_law_place" [.ref sn, (Nd.word w z).dat] st' Q)
    (hr : ps.all (fun p => isWn p.2) = false → ∀ (nc : Nat) st', Grw st st' → rdL st' nc (ps.map fun p => p.2.dat) → mkRest (callN prog m) { nx := fun x st' => Q D.non st', rt := Q } [some (.ref sn), some (.str o), some (.int w), some (.ref tc), some (.ref nc), none, none, none, none] st') :
    callN prog (m + 1) "_law_make" [.ref sn, .str o, .int w, .ref tc] st Q := by
  refine call_intro rfl rfl ?_
  unfold b_l_make
  walk_at "s"
  refine it_at ht ?_
  refine lc_map ps (fun p => .int (p.1 : Int)) (fun p => p.2.dat) rfl (by unfold szl; omega) (fun acc => .inl (rdL_app ht)) (fun p hp' acc N hN => ?_) ?_
  · walk_at "s"
    exact ix_ref (rdL_app h.cell) (atN (hp p hp')) hN
  walk_at "r"
  have f1 := Grw.app (c := C.lst (ps.map fun p => p.2.dat)) (.refl st)
  have h1 := rdL_new (st := st) (xs := ps.map fun p => p.2.dat)
  generalize st ++ [C.lst (ps.map fun p => p.2.dat)] = st1 at f1 h1 ⊢
  generalize st.length = nc at h1 ⊢
  refine it_at h1 ?_
  refine lc_map ps (fun p => p.2.dat) (fun p => .bl (isWn p.2)) rfl (by unfold szl; omega) (fun acc => .inl (rdL_app h1)) (fun p hp' acc N hN => ?_) ?_
  · walk_at "s"
    refine head_at ?_
    walk_at "s"
    refine ⟨(nm_ok p.2).1, by decide +kernel, ?_⟩
    rw [(nm_ok p.2).2]
    exact hN
  walk_at "s"
  refine all_val (xs := ps) (f := fun p => isWn p.2) rdL_new ?_
  walk_at "s"
  have f2 := f1.app (c := C.lst (ps.map fun p => D.bl (isWn p.2)))
  have h2 := rdL_app (c := C.lst (ps.map fun p => D.bl (isWn p.2))) h1
  generalize st1 ++ [C.lst (ps.map fun p => D.bl (isWn p.2))] = st2 at f2 h2 ⊢
  refine way (fun e => ?_) (fun e => ?_)
  · walk_at "s"
    refine it_at h2 ?_
    refine lc_map ps (fun p => p.2.dat) (fun p => .int (wvl p.2)) rfl (by unfold szl; omega) (fun acc => .inl (rdL_app h2)) (fun p hp' acc N hN => ?_) ?_
    · walk_at "s"
      have hw' := (List.all_eq_true.mp e) p hp'
      obtain ⟨pi, px⟩ := p
      cases px with
      | word w' v => exact at_is rfl hN
      | _ => cases hw'
    · walk_at "s"
      obtain ⟨z, hz, q⟩ := hw e _ _ f2.app rdL_new
      refine hz _ ?_
      walk_at "s"
      refine ⟨Nat.le_of_ble_eq_true rfl, ?_⟩
      walk_at "s"
      exact q
  · refine Nxt.mk ?_
    exact hr e nc st2 f2 h2
end
end Pk45
end PartPdk45P5

section PartPdk45P6
set_option Elab.async false
set_option linter.all false
set_option maxRecDepth 100000
set_option maxHeartbeats 1000000
namespace Pk45
open PySem Pd
local macro_rules | `(tactic| walk_at "t") => `(tactic| (repeat (first | refine Red.red ?_ | refine Nxt.mk ?_ | refine ⟨by decide +kernel, by decide +kernel, wayF (by decide +kernel) ?_⟩ | refine ⟨by decide +kernel, by decide +kernel, wayT (by decide +kernel) ?_⟩ | refine ⟨by decide +kernel, ?_⟩ | refine ⟨Nat.le_of_ble_eq_true rfl, ?_⟩ | refine at_is rfl ?_)))
local instance notinTup6_45 {x : D} {xs : List D} {st : Store} {r : Bool → Prop} : Red (notinC x (.tup xs) st r) (x.flat = true ∧ xs.all D.flat = true ∧ r (!(xs.any fun y => D.eqb y x))) := ⟨id⟩
local macro_rules | `(tactic| walk_at "s") => `(tactic| (repeat (refine Red.red ?_)))
local macro_rules | `(tactic| walk_at "r") => `(tactic| (repeat (first | refine Red.red ?_ | refine Nxt.mk ?_)))
local macro_rules | `(tactic| walk_at "v") => `(tactic| (repeat (first | refine Red.red ?_ | refine Nxt.mk ?_ | refine ⟨Nat.le_of_ble_eq_true rfl, ?_⟩ | refine at_is rfl ?_)))
local macro_rules | `(tactic| walk_at "w") => `(tactic| (repeat (first | refine Red.red ?_ | refine Nxt.mk ?_ | refine wayF rfl ?_ | refine wayT rfl ?_ | refine ⟨Nat.le_of_ble_eq_true rfl, ?_⟩ | refine at_is rfl ?_)))
local macro_rules | `(tactic| walk_at "u") => `(tactic| (repeat (first | refine Red.red ?_ | refine Nxt.mk ?_ | refine ⟨Nat.le_of_ble_eq_true rfl, ?_⟩ | refine at_is rfl ?_ | refine ⟨by decide +kernel, by decide +kernel, wayF (by decide +kernel) ?_⟩ | refine ⟨by decide +kernel, by decide +kernel, wayT (by decide +kernel) ?_⟩ | refine ⟨by decide +kernel, by decide +kernel, ?_⟩ | refine wayF (by decide +kernel) ?_ | refine wayT (by decide +kernel) ?_)))
local instance inNewB6_45 {x : D} {xs : List D} {st : Store} {r : Bool → Prop} : Red (inC x (.ref st.length) (st ++ [.lst xs]) r) (x.flat = true ∧ xs.all D.flat = true ∧ r (xs.any fun y => D.eqb y x)) := ⟨fun h => ⟨xs, .inl (by simp [rdL]), h⟩⟩
local instance inTupN6_45 {x : D} {xs : List D} {st : Store} {r : Bool → Prop} : Red (inC x (.tup xs) st r) (x.flat = true ∧ xs.all D.flat = true ∧ r (xs.any fun y => D.eqb y x)) := ⟨id⟩
local macro_rules | `(tactic| walk_at "z") => `(tactic| (repeat (first | refine Red.red ?_ | refine Nxt.mk ?_ | refine ⟨by decide +kernel, by decide +kernel, wayF (by decide +kernel) ?_⟩ | refine ⟨by decide +kernel, by decide +kernel, wayT (by decide +kernel) ?_⟩ | refine ⟨by decide +kernel, ?_⟩ | refine ⟨Nat.le_of_ble_eq_true rfl, ?_⟩ | refine wayF rfl ?_ | refine wayT rfl ?_ | refine at_is rfl ?_)))
/-! k45, text 6. Own work. -/
section
variable {sn c c' m : Nat} {st st' st1 st2 : Store} {ns ns' ns2 : List Nd} {Q : K}
/-- what a made term answers: a term of the width -/
def MkR (sn : Nat) (st : Store) (ns : List Nd) (w : Int) (c : Nat) (Q : K) : Prop := ∀ ns' (t : Nat) st', Mk sn st ns ns' st' c → Has (ns'.map Nd.wd) t w → Q (.int (t : Int)) st'
theorem ShA.grw (h : ShA st sn ns) (f : Grw st st') : ShA st' sn ns := ⟨f.rd h.cell, h.sheet, h.nf, h.few⟩
theorem Mk.pre (f : Grw st st1) (h : Mk sn st1 ns ns' st' c) : Mk sn st ns ns' st' c := ⟨h.cell, h.sheet, h.nf, h.ext, h.few, (Kp.of_grw f).trans h.kp⟩
theorem MkR.pre {w : Int} (f : Grw st st1) (h : MkR sn st ns w c Q) : MkR sn st1 ns w c Q := fun ns' t st' M hh => h ns' t st' (M.pre f) hh
theorem MkR.less {w : Int} (h : MkR sn st ns w c Q) (hc : c' ≤ c) : MkR sn st ns w c' Q := fun ns' t st' M hh => h ns' t st' (M.more hc) hh
theorem MkR.from {w : Int} (M : Mk sn st ns ns' st' c) (h : MkR sn st ns w (c + c') Q) : MkR sn st' ns' w c' Q := fun ns2 t st2 M2 hh => h ns2 t st2 (M.trans M2) hh
theorem MkR.same {w : Int} {t : Nat} (h : ShA st sn ns) (f : Grw st st') (r : MkR sn st ns w c Q) (ht : Has (ns.map Nd.wd) t w) : Q (.int (t : Int)) st' := r ns t st' (((Mk.refl (h.grw f)).pre f).more (by omega)) ht
theorem nfn_word {w v : Int} : NFn ns (.word w v) := fun _ _ _ e => nomatch e
theorem nfn_one {o : Op} {w : Int} {a : Nat} : NFn ns (.one o w a) := fun _ _ _ e => nomatch e
theorem nfn_two {o : Op} {w : Int} {a b : Nat} (h : o ≠ .add) : NFn ns (.two o w a b) := fun _ _ _ e => by cases e; exact absurd rfl h
/-- a node is placed: its place has its width -/
theorem placeR {x : Nd} (hm : 1 ≤ m) (h : ShA st sn ns) (G : Good (ns.map Nd.wd) x) (hx : NFn ns x) (r : MkR sn st ns x.wd 1 Q) : callN prog m "_law_place" [.ref sn, x.dat] st Q :=
  place_ok hm h G hx fun ns' j st' M e => r ns' j st' M (has_at e)
theorem has_wid (S : Sheet ns) {a : Nat} {w : Int} (h : Has (ns.map Nd.wd) a w) : 1 ≤ w ∧ w ≤ 8 := S.wid a w h
theorem good_word {w v : Int} (hw : 1 ≤ w ∧ w ≤ 8) (h : 0 ≤ v ∧ v ≤ fullI w) : Good (ns.map Nd.wd) (.word w v) := ⟨hw.1, hw.2, h.1, h.2⟩
theorem nm_not {x : Nd} {ws : List Int} (G : Good ws x) : decide (nameOf x = Str.ofString "not") = (match x with | .one .not _ _ => true | _ => false) := by
  cases x with
  | word w v => show decide (Str.ofString "word" = Str.ofString "not") = false; decide +kernel
  | inp w i => show decide (Str.ofString "input" = Str.ofString "not") = false; decide +kernel
  | one o w a =>
    obtain ⟨_, _, ho, _⟩ := G
    cases o <;> try (cases ho; done)
    · show decide (Str.ofString "not" = Str.ofString "not") = true; decide +kernel
    · show decide (Str.ofString "neg" = Str.ofString "not") = false; decide +kernel
    · show decide (Str.ofString "wide" = Str.ofString "not") = false; decide +kernel
  | two o w a b =>
    obtain ⟨_, _, ho, _⟩ := G
    have hn : ∀ o : Op, two o = true → decide (opS o = Str.ofString "not") = false := by
      intro o ho
      cases o <;> first | (cases ho; done) | decide +kernel
    exact hn o ho
  | pick w c a b => show decide (Str.ofString "pick" = Str.ofString "not") = false; decide +kernel
theorem not_ok {w : Int} {a tc : Nat} (hm : 2 ≤ m) (h : ShA st sn ns) (ha : Has (ns.map Nd.wd) a w) (ht : rdL st tc [.int (a : Int)]) (r : MkR sn st ns w 1 Q) : callN prog m "_law_make" [.ref sn, .str (Str.ofString "not"), .int w, .ref tc] st Q := by
  obtain ⟨k, rfl⟩ : ∃ n, m = n + 2 := ⟨m - 2, by omega⟩
  obtain ⟨x, hx, ew, hl⟩ := has_ex ha
  have hwid := has_wid h.sheet ha
  have G := (shAt h.sheet hx).1
  refine make_open (m := k + 1) [(a, x)] (by simp) h (by simp [hx]) ht (fun e vc st1 f hv => ?_) fun e nc st1 f hn => ?_
  · simp at e
    cases x with
    | word w' v =>
      have ew : w' = w := ew
      subst ew
      refine ⟨v1 .not w' v, fun N q => word1 (o := .not) rfl hwid.1 hwid.2 G.2.2.1 (fun _ => G.2.2.2) hv q, placeR (by omega) (h.grw f) (good_word hwid (v1_in G.2.2.1 fun _ => G.2.2.2)) nfn_word (r.pre f)⟩
    | _ => cases e
  · unfold mkRest
    walk_at "t"
    refine ix_ref hn rfl ?_
    walk_at "s"
    refine head_at ?_
    walk_at "s"
    refine ⟨(nm_ok x).1, by decide +kernel, ?_⟩
    rw [nm_not G]
    have ht1 := f.rd ht
    have nx : NFn ns (.one .not w a) := nfn_one
    refine way (fun e1 => ?_) (fun e1 => ?_)
    · cases x with
      | one o w' a' =>
        cases o <;> try (cases e1; done)
        obtain ⟨_, _, _, u, hu, e2⟩ := G
        have e2 := e2 (by intro z; cases z)
        have ew : w' = w := ew
        subst ew
        subst e2
        walk_at "s"
        refine ix_ref hn rfl ?_
        walk_at "s"
        refine at_is rfl ?_
        exact r.same h f hu
      | _ => cases e1
    · walk_at "z"
      refine len_at ht1 ?_
      walk_at "z"
      refine len_at ht1 ?_
      walk_at "z"
      refine tuple_at ht1 ?_
      walk_at "z"
      exact placeR (x := .one .not w a) (by omega) (h.grw f) ⟨hwid.1, hwid.2, rfl, w, ha, fun _ => rfl⟩ nx (r.pre f)
end
end Pk45
end PartPdk45P6

section PartPdk45P7
set_option Elab.async false
set_option linter.all false
set_option maxRecDepth 100000
set_option maxHeartbeats 1000000
namespace Pk45
open PySem Pd
local macro_rules | `(tactic| walk_at "t") => `(tactic| (repeat (first | refine Red.red ?_ | refine Nxt.mk ?_ | refine ⟨by decide +kernel, by decide +kernel, wayF (by decide +kernel) ?_⟩ | refine ⟨by decide +kernel, by decide +kernel, wayT (by decide +kernel) ?_⟩ | refine ⟨by decide +kernel, ?_⟩ | refine ⟨Nat.le_of_ble_eq_true rfl, ?_⟩ | refine at_is rfl ?_)))
local instance notinTup7_45 {x : D} {xs : List D} {st : Store} {r : Bool → Prop} : Red (notinC x (.tup xs) st r) (x.flat = true ∧ xs.all D.flat = true ∧ r (!(xs.any fun y => D.eqb y x))) := ⟨id⟩
local macro_rules | `(tactic| walk_at "s") => `(tactic| (repeat (refine Red.red ?_)))
local macro_rules | `(tactic| walk_at "r") => `(tactic| (repeat (first | refine Red.red ?_ | refine Nxt.mk ?_)))
local macro_rules | `(tactic| walk_at "v") => `(tactic| (repeat (first | refine Red.red ?_ | refine Nxt.mk ?_ | refine ⟨Nat.le_of_ble_eq_true rfl, ?_⟩ | refine at_is rfl ?_)))
local macro_rules | `(tactic| walk_at "w") => `(tactic| (repeat (first | refine Red.red ?_ | refine Nxt.mk ?_ | refine wayF rfl ?_ | refine wayT rfl ?_ | refine ⟨Nat.le_of_ble_eq_true rfl, ?_⟩ | refine at_is rfl ?_)))
local macro_rules | `(tactic| walk_at "u") => `(tactic| (repeat (first | refine Red.red ?_ | refine Nxt.mk ?_ | refine ⟨Nat.le_of_ble_eq_true rfl, ?_⟩ | refine at_is rfl ?_ | refine ⟨by decide +kernel, by decide +kernel, wayF (by decide +kernel) ?_⟩ | refine ⟨by decide +kernel, by decide +kernel, wayT (by decide +kernel) ?_⟩ | refine ⟨by decide +kernel, by decide +kernel, ?_⟩ | refine wayF (by decide +kernel) ?_ | refine wayT (by decide +kernel) ?_)))
local instance inNewB7_45 {x : D} {xs : List D} {st : Store} {r : Bool → Prop} : Red (inC x (.ref st.length) (st ++ [.lst xs]) r) (x.flat = true ∧ xs.all D.flat = true ∧ r (xs.any fun y => D.eqb y x)) := ⟨fun h => ⟨xs, .inl (by simp [rdL]), h⟩⟩
local instance inTupN7_45 {x : D} {xs : List D} {st : Store} {r : Bool → Prop} : Red (inC x (.tup xs) st r) (x.flat = true ∧ xs.all D.flat = true ∧ r (xs.any fun y => D.eqb y x)) := ⟨id⟩
local macro_rules | `(tactic| walk_at "z") => `(tactic| (repeat (first | refine Red.red ?_ | refine Nxt.mk ?_ | refine ⟨by decide +kernel, by decide +kernel, wayF (by decide +kernel) ?_⟩ | refine ⟨by decide +kernel, by decide +kernel, wayT (by decide +kernel) ?_⟩ | refine ⟨by decide +kernel, ?_⟩ | refine ⟨Nat.le_of_ble_eq_true rfl, ?_⟩ | refine wayF rfl ?_ | refine wayT rfl ?_ | refine at_is rfl ?_)))
/-! k45, text 7. Own work. -/
def mwRest (c : Cl) : TS := sSeq (sIf (tOr (tAnd (tTru (dCmp eqC (dVar 1) (dC (.str "+")))) (tTru (dCmp eqC (dVar 4) (dC (.int 0))))) (tAnd (tTru (dCmp inC (dVar 1) (dTup (aCons (dC (.str "|")) (aCons (dC (.str "^")) (aCons (dC (.str "<<")) (aCons (dC (.str ">>")) (aNil)))))))) (tTru (dCmp eqC (dVar 4) (dC (.int 0)))))) (sRet (dVar 5)) (sNext)) (sSeq (sIf (tAnd (tTru (dCmp eqC (dVar 1) (dC (.str "+")))) (tTru (dCmp neC (dVar 8) (dVar 5)))) (sSeq (sAsg (dCall c "_law_place" (aCons (dVar 0) (aCons (dTup (aCons (dC (.str "word")) (aCons (dVar 2) (aCons (dOp andK (dOp addK (dVar 9) (dVar 4)) (dVar 7)) (aNil))))) (aNil)))) (gName 10)) (sRet (dCall c "_law_make" (aCons (dVar 0) (aCons (dC (.str "+")) (aCons (dVar 2) (aCons (dLst (aCons (dVar 8) (aCons (dVar 10) (aNil)))) (aNil)))))))) (sNext)) (sSeq (sIf (tOr (tAnd (tTru (dCmp inC (dVar 1) (dTup (aCons (dC (.str "*")) (aCons (dC (.str "&")) (aCons (dC (.str "div")) (aCons (dC (.str "rem")) (aCons (dC (.str "<")) (aNil))))))))) (tTru (dCmp eqC (dVar 4) (dC (.int 0))))) (tAnd (tTru (dCmp eqC (dVar 1) (dC (.str "rem")))) (tTru (dCmp eqC (dVar 4) (dC (.int 1)))))) (sRet (dCall c "_law_place" (aCons (dVar 0) (aCons (dTup (aCons (dC (.str "word")) (aCons (dVar 2) (aCons (dC (.int 0)) (aNil))))) (aNil))))) (sNext)) (sSeq (sIf (tOr (tAnd (tTru (dCmp inC (dVar 1) (dTup (aCons (dC (.str "*")) (aCons (dC (.str "div")) (aNil)))))) (tTru (dCmp eqC (dVar 4) (dC (.int 1))))) (tAnd (tTru (dCmp eqC (dVar 1) (dC (.str "&")))) (tTru (dCmp eqC (dVar 4) (dVar 7))))) (sRet (dVar 5)) (sNext)) (sSeq (sIf (tAnd (tTru (dCmp eqC (dVar 1) (dC (.str "|")))) (tTru (dCmp eqC (dVar 4) (dVar 7)))) (sRet (dOp ixK (dVar 3) (dC (.int 1)))) (sNext)) (sSeq (sIf (tAnd (tTru (dCmp inC (dVar 1) (dTup (aCons (dC (.str "<<")) (aCons (dC (.str ">>")) (aNil)))))) (tTru (dCmp geC (dVar 4) (dVar 2)))) (sRet (dCall c "_law_place" (aCons (dVar 0) (aCons (dTup (aCons (dC (.str "word")) (aCons (dVar 2) (aCons (dC (.int 0)) (aNil))))) (aNil))))) (sNext)) (sSeq (sIf (tAnd (tTru (dCmp eqC (dVar 1) (dC (.str "<=")))) (tTru (dCmp eqC (dVar 4) (dVar 7)))) (sRet (dCall c "_law_place" (aCons (dVar 0) (aCons (dTup (aCons (dC (.str "word")) (aCons (dC (.int 1)) (aCons (dC (.int 1)) (aNil))))) (aNil))))) (sNext)) (sSeq (sIf (tAnd (tTru (dCmp eqC (dVar 1) (dC (.str "==")))) (tTru (dCmp eqC (dVar 6) (dC (.int 1))))) (sRet (dIf (tTru (dCmp eqC (dVar 4) (dC (.int 1)))) (dVar 5) (dCall c "_law_make" (aCons (dVar 0) (aCons (dC (.str "not")) (aCons (dC (.int 1)) (aCons (dLst (aCons (dVar 5) (aNil))) (aNil)))))))) (sNext)) (sSeq (sIf (tAnd (tTru (dCmp eqC (dVar 1) (dC (.str "==")))) (tTru (dCmp neC (dVar 8) (dVar 5)))) (sSeq (sAsg (dCall c "_law_place" (aCons (dVar 0) (aCons (dTup (aCons (dC (.str "word")) (aCons (dVar 6) (aCons (dOp andK (dOp subK (dVar 4) (dVar 9)) (dVar 7)) (aNil))))) (aNil)))) (gName 10)) (sRet (dCall c "_law_make" (aCons (dVar 0) (aCons (dC (.str "==")) (aCons (dC (.int 1)) (aCons (dLst (aCons (dVar 8) (aCons (dVar 10) (aNil)))) (aNil)))))))) (sNext)) (sRet (dC .non))))))))))
section
variable {sn c c' m : Nat} {st st' st1 st2 : Store} {ns ns' ns2 : List Nd} {Q : K}
theorem good2 {o : Op} {w : Int} {a b : Nat} (G : Good (ns.map Nd.wd) (.two o w a b)) : ∃ x y, ns[a]? = some x ∧ ns[b]? = some y ∧ (cmp o = false → x.wd = w) ∧ (cmp o = false → shf o = false → y.wd = w) ∧ (cmp o = true → w = 1) ∧ 1 ≤ w ∧ w ≤ 8 ∧ two o = true := by
  obtain ⟨w0, w1, ho, u, v, ha, hb, h1, h2, h3⟩ := G
  obtain ⟨x, hx, ex, _⟩ := has_ex ha
  obtain ⟨y, hy, ey, _⟩ := has_ex hb
  exact ⟨x, y, hx, hy, fun h => by rw [ex]; exact h2 h, fun h h' => by rw [ey]; exact h3 h h', h1, w0, w1, ho⟩
/-- two words: the word of the operation -/
theorem words2 {o : Op} {w : Int} {a b vc : Nat} {x y : Nd} (hm : 1 ≤ m) (h : ShA st sn ns) (G : Good (ns.map Nd.wd) (.two o w a b)) (hx : ns[a]? = some x) (hy : ns[b]? = some y) (ex : isWn x = true) (ey : isWn y = true) (hv : rdL st vc [.int (wvl x), .int (wvl y)]) (r : MkR sn st ns w 1 Q) :
    ∃ z, (∀ N : K, N (.int z) st → callN prog m "_law_word" [.str (opS o), .int w, .ref vc] st N) ∧ callN prog m "_law_place" [.ref sn, (Nd.word w z).dat] st Q := by
  obtain ⟨k, rfl⟩ : ∃ n, m = n + 1 := ⟨m - 1, by omega⟩
  obtain ⟨w0, w1, ho, u, v, ha, hb, h1, h2, h3⟩ := G
  cases x with
  | word wx l =>
    cases y with
    | word wy r' =>
      have Gx := (shAt h.sheet hx).1
      have Gy := (shAt h.sheet hy).1
      obtain ⟨_, hx', ex', _⟩ := has_ex ha
      rw [hx] at hx'; cases hx'
      obtain ⟨_, hy', ey', _⟩ := has_ex hb
      rw [hy] at hy'; cases hy'
      have ex' : wx = u := ex'
      have ey' : wy = v := ey'
      subst ex'
      subst ey'
      have bx := le255 h.sheet ha Gx.2.2.2
      have by' := le255 h.sheet hb Gy.2.2.2
      refine ⟨v2 o w l r', fun N q => word2 ho w0 w1 Gx.2.2.1 bx Gy.2.2.1 by' ?_ ?_ hv q, placeR (by omega) h (good_word ⟨w0, w1⟩ (v2_in Gx.2.2.1 Gy.2.2.1 (fun hc => by rw [← h2 hc]; exact Gx.2.2.2) h1 ho)) nfn_word r⟩
      · intro ho'
        rw [← h2 (by rcases ho' with rfl | rfl | rfl | rfl <;> rfl)]
        exact Gx.2.2.2
      · intro ho'
        rw [← h3 (by rcases ho' with rfl | rfl | rfl <;> rfl) (by rcases ho' with rfl | rfl | rfl <;> rfl)]
        exact Gy.2.2.2
    | _ => cases ey
  | _ => cases ex
theorem rest2W {o : Op} {w wy v : Int} {a b tc nc : Nat} {x : Nd} {cnd : Prop} (hm : 1 ≤ m) (ho : o = .add ∨ o = .mul ∨ o = .and ∨ o = .or ∨ o = .xor ∨ o = .eq ∨ o = .lt ∨ o = .le) (h : ShA st sn ns) (hw : isWn x = false ∨ o = .lt ∨ o = .le) (hn : rdL st nc [x.dat, (Nd.word wy v).dat]) (ht : rdL st tc [.int (a : Int), .int (b : Int)])
    (hmw : ∀ N : K, MkR sn st ns w c N → (cnd → N .non st) → callN prog m "_law_make_word" [.ref sn, .str (opS o), .int w, .ref tc, .int v] st N) (hc : 1 ≤ c) (hg : cnd → Good (ns.map Nd.wd) (.two o w a b) ∧ NFn ns (.two o w a b)) (r : MkR sn st ns w c Q) :
    mkRest (callN prog m) { nx := fun x st' => Q D.non st', rt := Q } [some (.ref sn), some (.str (opS o)), some (.int w), some (.ref tc), some (.ref nc), none, none, none, none] st := by
  unfold mkRest
  have hn1 : atD [x.dat, (Nd.word wy v).dat] 1 = some (Nd.word wy v).dat := rfl
  have hn0 : atD [x.dat, (Nd.word wy v).dat] 0 = some x.dat := rfl
  rcases ho with rfl | rfl | rfl | rfl | rfl | rfl | rfl | rfl
  all_goals
    rcases hw with hw | hw | hw <;> try (cases hw; done)
    all_goals
      unfold opS
      walk_at "z"
      try (refine ix_ref hn hn0 ?_; walk_at "s"; refine head_at ?_; walk_at "s"; refine ⟨(nm_ok x).1, by decide +kernel, ?_⟩; rw [(nm_ok x).2, hw]; walk_at "z")
      refine len_at ht ?_
      walk_at "z"
      refine ix_ref hn hn1 ?_
      unfold Nd.dat
      walk_at "z"
      refine ix_ref hn hn1 ?_
      unfold Nd.dat
      walk_at "z"
      refine hmw _ (fun ns' t st' M hh => ?_) (fun hcn => ?_)
      · walk_at "z"
        exact r ns' t st' M hh
      · walk_at "z"
        refine tuple_at ht ?_
        walk_at "z"
        obtain ⟨g1, g2⟩ := hg hcn
        exact placeR hm h g1 g2 (r.less hc)
end
end Pk45
end PartPdk45P7

section PartPdk45P8
set_option Elab.async false
set_option linter.all false
set_option maxRecDepth 100000
set_option maxHeartbeats 1000000
namespace Pk45
open PySem Pd
local macro_rules | `(tactic| walk_at "t") => `(tactic| (repeat (first | refine Red.red ?_ | refine Nxt.mk ?_ | refine ⟨by decide +kernel, by decide +kernel, wayF (by decide +kernel) ?_⟩ | refine ⟨by decide +kernel, by decide +kernel, wayT (by decide +kernel) ?_⟩ | refine ⟨by decide +kernel, ?_⟩ | refine ⟨Nat.le_of_ble_eq_true rfl, ?_⟩ | refine at_is rfl ?_)))
local instance notinTup8_45 {x : D} {xs : List D} {st : Store} {r : Bool → Prop} : Red (notinC x (.tup xs) st r) (x.flat = true ∧ xs.all D.flat = true ∧ r (!(xs.any fun y => D.eqb y x))) := ⟨id⟩
local macro_rules | `(tactic| walk_at "s") => `(tactic| (repeat (refine Red.red ?_)))
local macro_rules | `(tactic| walk_at "r") => `(tactic| (repeat (first | refine Red.red ?_ | refine Nxt.mk ?_)))
local macro_rules | `(tactic| walk_at "v") => `(tactic| (repeat (first | refine Red.red ?_ | refine Nxt.mk ?_ | refine ⟨Nat.le_of_ble_eq_true rfl, ?_⟩ | refine at_is rfl ?_)))
local macro_rules | `(tactic| walk_at "w") => `(tactic| (repeat (first | refine Red.red ?_ | refine Nxt.mk ?_ | refine wayF rfl ?_ | refine wayT rfl ?_ | refine ⟨Nat.le_of_ble_eq_true rfl, ?_⟩ | refine at_is rfl ?_)))
local macro_rules | `(tactic| walk_at "u") => `(tactic| (repeat (first | refine Red.red ?_ | refine Nxt.mk ?_ | refine ⟨Nat.le_of_ble_eq_true rfl, ?_⟩ | refine at_is rfl ?_ | refine ⟨by decide +kernel, by decide +kernel, wayF (by decide +kernel) ?_⟩ | refine ⟨by decide +kernel, by decide +kernel, wayT (by decide +kernel) ?_⟩ | refine ⟨by decide +kernel, by decide +kernel, ?_⟩ | refine wayF (by decide +kernel) ?_ | refine wayT (by decide +kernel) ?_)))
local instance inNewB8_45 {x : D} {xs : List D} {st : Store} {r : Bool → Prop} : Red (inC x (.ref st.length) (st ++ [.lst xs]) r) (x.flat = true ∧ xs.all D.flat = true ∧ r (xs.any fun y => D.eqb y x)) := ⟨fun h => ⟨xs, .inl (by simp [rdL]), h⟩⟩
local instance inTupN8_45 {x : D} {xs : List D} {st : Store} {r : Bool → Prop} : Red (inC x (.tup xs) st r) (x.flat = true ∧ xs.all D.flat = true ∧ r (xs.any fun y => D.eqb y x)) := ⟨id⟩
local macro_rules | `(tactic| walk_at "z") => `(tactic| (repeat (first | refine Red.red ?_ | refine Nxt.mk ?_ | refine ⟨by decide +kernel, by decide +kernel, wayF (by decide +kernel) ?_⟩ | refine ⟨by decide +kernel, by decide +kernel, wayT (by decide +kernel) ?_⟩ | refine ⟨by decide +kernel, ?_⟩ | refine ⟨Nat.le_of_ble_eq_true rfl, ?_⟩ | refine wayF rfl ?_ | refine wayT rfl ?_ | refine at_is rfl ?_)))
/-! k45, text 8. Own work. -/
section
variable {sn c c' m : Nat} {st st' st1 st2 : Store} {ns ns' ns2 : List Nd} {Q : K}
theorem sum_cases (S : Sheet ns) (F : NF ns) {a : Nat} {x : Nd} (hx : ns[a]? = some x) : (sumF ns a = false ∧ sumOf ns a = (a, 0)) ∨ (sumF ns a = true ∧ ∃ w' p q wv v, ns[a]? = some (.two .add w' p q) ∧ ns[q]? = some (.word wv v) ∧ sumOf ns a = (p, v) ∧ p < a ∧ q < a ∧ isW ns p = false ∧ sumF ns p = false) := by
  unfold sumF sumOf
  rw [hx]
  cases x with
  | two o w p q =>
    obtain ⟨hp, hq⟩ := (shAt S hx).2 _ _ _ _ rfl
    have hl := (List.getElem?_eq_some_iff.mp hx).1
    obtain ⟨y, hy⟩ : ∃ y, ns[q]? = some y := ⟨_, List.getElem?_eq_getElem (show q < ns.length by omega)⟩
    cases o <;> try (left; exact ⟨rfl, rfl⟩)
    simp only [hy]
    by_cases hw : isW ns q = true
    · right
      obtain ⟨wv, v, e⟩ := isW_ex hw
      rw [hy] at e; cases e
      have := F a _ hx w p q rfl hw
      exact ⟨hw, w, p, q, wv, v, rfl, hy, rfl, hp, hq, this.1, this.2⟩
    · left
      rw [Bool.not_eq_true] at hw
      refine ⟨hw, ?_⟩
      rw [isW_at hy] at hw
      cases y <;> first | rfl | cases hw
  | _ => left; exact ⟨rfl, rfl⟩
theorem rest2S {o : Op} {w : Int} {a b tc nc : Nat} {x y : Nd} (hm : 1 ≤ m) (ho : o = .add ∨ o = .mul ∨ o = .and ∨ o = .or ∨ o = .xor ∨ o = .eq ∨ o = .lt ∨ o = .le ∨ o = .sub) (h : ShA st sn ns) (hw : isWn x = false ∨ o = .lt ∨ o = .le ∨ o = .sub) (hy : isWn y = false) (hb : ns[b]? = some y) (hn : rdL st nc [x.dat, y.dat]) (ht : rdL st tc [.int (a : Int), .int (b : Int)])
    (hms : ∀ N : K, MkR sn st ns w c N → N .non st → callN prog m "_law_make_same" [.ref sn, .str (opS o), .int w, .ref tc] st N) (hc : 1 ≤ c) (G : Good (ns.map Nd.wd) (.two o w a b)) (r : MkR sn st ns w c Q) :
    mkRest (callN prog m) { nx := fun x st' => Q D.non st', rt := Q } [some (.ref sn), some (.str (opS o)), some (.int w), some (.ref tc), some (.ref nc), none, none, none, none] st := by
  unfold mkRest
  have hn1 : atD [x.dat, y.dat] 1 = some y.dat := rfl
  have hn0 : atD [x.dat, y.dat] 0 = some x.dat := rfl
  have NFb : NFn ns (.two o w a b) := fun w' a' b' e hh => by
    cases e
    rw [isW_at hb, hy] at hh
    cases hh
  rcases ho with rfl | rfl | rfl | rfl | rfl | rfl | rfl | rfl | rfl
  all_goals
    rcases hw with hw | hw | hw | hw <;> try (cases hw; done)
    all_goals
      unfold opS
      walk_at "z"
      try (refine ix_ref hn hn0 ?_; walk_at "s"; refine head_at ?_; walk_at "s"; refine ⟨(nm_ok x).1, by decide +kernel, ?_⟩; rw [(nm_ok x).2, hw]; walk_at "z")
      try (refine ix_ref hn hn1 ?_; walk_at "s"; refine head_at ?_; walk_at "s"; refine ⟨(nm_ok y).1, by decide +kernel, ?_⟩; rw [(nm_ok y).2, hy]; walk_at "z")
      refine len_at ht ?_
      walk_at "z"
      refine ix_ref hn hn1 ?_
      walk_at "s"
      refine head_at ?_
      walk_at "s"
      refine ⟨(nm_ok y).1, by decide +kernel, ?_⟩
      rw [(nm_ok y).2, hy]
      walk_at "z"
      refine len_at ht ?_
      walk_at "z"
      refine hms _ (fun ns' t st' M hh => ?_) ?_
      · walk_at "z"
        exact r ns' t st' M hh
      · walk_at "z"
        refine tuple_at ht ?_
        walk_at "z"
        exact placeR hm h G NFb (r.less hc)
/-- the first steps of _law_make_word -/
theorem mw_open {o : Str} {w v : Int} {a tc : Nat} {d : D} {x : Nd} (hm : 1 ≤ m) (h : ShA st sn ns) (hx : ns[a]? = some x) (ht : rdL st tc [.int (a : Int), d])
    (q : mwRest (callN prog m) { nx := fun x st' => Q D.non st', rt := Q } [some (.ref sn), some (.str o), some (.int w), some (.ref tc), some (.int v), some (.int (a : Int)), some (.int x.wd), some (.int (fullI x.wd)), some (.int ((sumOf ns a).1 : Int)), some (.int (sumOf ns a).2), none] st) :
    callN prog (m + 1) "_law_make_word" [.ref sn, .str o, .int w, .ref tc, .int v] st Q := by
  refine call_intro rfl rfl ?_
  unfold b_l_make_word
  have hw := has_wid h.sheet (has_at hx)
  walk_at "s"
  refine ix_ref ht rfl ?_
  walk_at "r"
  refine ix_ref h.cell (atN hx) ?_
  walk_at "s"
  refine wd_at ?_
  walk_at "r"
  refine ⟨cpow_small (by omega) (by omega), ?_⟩
  walk_at "r"
  rw [full1 hw.1 hw.2]
  refine sum_ok hm h hx ?_
  walk_at "s"
  refine ⟨rfl, ?_⟩
  walk_at "s"
  refine Nxt.mk ?_
  exact q
theorem same_ok {o : Op} {w : Int} {a b tc : Nat} {N : K} (hm : 2 ≤ m) (ho : o = .add ∨ o = .mul ∨ o = .and ∨ o = .or ∨ o = .xor ∨ o = .eq ∨ o = .lt ∨ o = .le ∨ o = .sub) (h : ShA st sn ns) (G : Good (ns.map Nd.wd) (.two o w a b)) (ht : rdL st tc [.int (a : Int), .int (b : Int)])
    (r : MkR sn st ns w 1 N) (hN : N .non st) : callN prog m "_law_make_same" [.ref sn, .str (opS o), .int w, .ref tc] st N := by
  obtain ⟨k, rfl⟩ : ∃ n, m = n + 2 := ⟨m - 2, by omega⟩
  refine call_intro rfl rfl ?_
  unfold b_l_make_same
  obtain ⟨x, y, hx, hy, hxw, hyw, hc1, w0, w1, ho2⟩ := good2 G
  have p0 : 0 ≤ fullI w := by unfold fullI; have := pow2_pos w.toNat; omega
  have w0' : Good (ns.map Nd.wd) (.word w 0) := good_word ⟨w0, w1⟩ ⟨Int.le_refl _, p0⟩
  have w1' : Good (ns.map Nd.wd) (.word 1 1) := good_word ⟨by decide, by decide⟩ ⟨by decide, by decide⟩
  walk_at "s"
  refine ix_ref ht rfl ?_
  walk_at "s"
  refine ix_ref ht rfl ?_
  walk_at "s"
  by_cases e : a = b
  · subst e
    refine wayT (by simp) ?_
    rcases ho with rfl | rfl | rfl | rfl | rfl | rfl | rfl | rfl | rfl
    all_goals
      unfold opS
      walk_at "z"
    · exact hN
    · exact hN
    · exact ix_ref ht rfl (r.same h (.refl _) (by have := has_at hx; rw [hxw rfl] at this; exact this))
    · exact ix_ref ht rfl (r.same h (.refl _) (by have := has_at hx; rw [hxw rfl] at this; exact this))
    · exact placeR (x := .word w 0) (by omega) h w0' nfn_word r
    · have := hc1 rfl
      subst this
      exact placeR (x := .word 1 1) (by omega) h w1' nfn_word r
    · exact placeR (x := .word w 0) (by omega) h w0' nfn_word r
    · have := hc1 rfl
      subst this
      exact placeR (x := .word 1 1) (by omega) h w1' nfn_word r
    · exact placeR (x := .word w 0) (by omega) h w0' nfn_word r
  · refine wayF (decide_eq_false (by omega)) ?_
    walk_at "r"
    refine ix_ref ht rfl ?_
    walk_at "s"
    refine sum_ok (by omega) h hx ?_
    walk_at "s"
    refine ix_ref ht rfl ?_
    walk_at "s"
    refine sum_ok (by omega) h hy ?_
    walk_at "r"
    have cp : cPow 1 w := cpow_small (by omega) (by omega)
    rcases ho with rfl | rfl | rfl | rfl | rfl | rfl | rfl | rfl | rfl
    all_goals
      unfold opS
      walk_at "z"
    iterate 5 exact hN
    · have := hc1 rfl
      subst this
      refine way (fun e1 => ?_) (fun e1 => ?_)
      · walk_at "z"
        exact hN
      · walk_at "z"
        exact placeR (x := .word 1 (b2i (decide ((sumOf ns a).2 = (sumOf ns b).2)))) (by omega) h (good_word ⟨by decide, by decide⟩ (b2i_in _)) nfn_word r
    · exact hN
    · exact hN
    · refine way (fun e1 => ?_) (fun e1 => ?_)
      · walk_at "z"
        exact hN
      · walk_at "z"
        refine ⟨cp, ?_⟩
        walk_at "z"
        rw [full1 w0 w1]
        exact placeR (x := .word w (Builtin.bitAnd ((sumOf ns a).2 - (sumOf ns b).2) (fullI w))) (by omega) h (good_word ⟨w0, w1⟩ (and_in _ _)) nfn_word r
end
end Pk45
end PartPdk45P8

section PartPdk45P9
set_option Elab.async false
set_option linter.all false
set_option maxRecDepth 100000
set_option maxHeartbeats 1000000
namespace Pk45
open PySem Pd
local macro_rules | `(tactic| walk_at "t") => `(tactic| (repeat (first | refine Red.red ?_ | refine Nxt.mk ?_ | refine ⟨by decide +kernel, by decide +kernel, wayF (by decide +kernel) ?_⟩ | refine ⟨by decide +kernel, by decide +kernel, wayT (by decide +kernel) ?_⟩ | refine ⟨by decide +kernel, ?_⟩ | refine ⟨Nat.le_of_ble_eq_true rfl, ?_⟩ | refine at_is rfl ?_)))
local instance notinTup9_45 {x : D} {xs : List D} {st : Store} {r : Bool → Prop} : Red (notinC x (.tup xs) st r) (x.flat = true ∧ xs.all D.flat = true ∧ r (!(xs.any fun y => D.eqb y x))) := ⟨id⟩
local macro_rules | `(tactic| walk_at "s") => `(tactic| (repeat (refine Red.red ?_)))
local macro_rules | `(tactic| walk_at "r") => `(tactic| (repeat (first | refine Red.red ?_ | refine Nxt.mk ?_)))
local macro_rules | `(tactic| walk_at "v") => `(tactic| (repeat (first | refine Red.red ?_ | refine Nxt.mk ?_ | refine ⟨Nat.le_of_ble_eq_true rfl, ?_⟩ | refine at_is rfl ?_)))
local macro_rules | `(tactic| walk_at "w") => `(tactic| (repeat (first | refine Red.red ?_ | refine Nxt.mk ?_ | refine wayF rfl ?_ | refine wayT rfl ?_ | refine ⟨Nat.le_of_ble_eq_true rfl, ?_⟩ | refine at_is rfl ?_)))
local macro_rules | `(tactic| walk_at "u") => `(tactic| (repeat (first | refine Red.red ?_ | refine Nxt.mk ?_ | refine ⟨Nat.le_of_ble_eq_true rfl, ?_⟩ | refine at_is rfl ?_ | refine ⟨by decide +kernel, by decide +kernel, wayF (by decide +kernel) ?_⟩ | refine ⟨by decide +kernel, by decide +kernel, wayT (by decide +kernel) ?_⟩ | refine ⟨by decide +kernel, by decide +kernel, ?_⟩ | refine wayF (by decide +kernel) ?_ | refine wayT (by decide +kernel) ?_)))
local instance inNewB9_45 {x : D} {xs : List D} {st : Store} {r : Bool → Prop} : Red (inC x (.ref st.length) (st ++ [.lst xs]) r) (x.flat = true ∧ xs.all D.flat = true ∧ r (xs.any fun y => D.eqb y x)) := ⟨fun h => ⟨xs, .inl (by simp [rdL]), h⟩⟩
local instance inTupN9_45 {x : D} {xs : List D} {st : Store} {r : Bool → Prop} : Red (inC x (.tup xs) st r) (x.flat = true ∧ xs.all D.flat = true ∧ r (xs.any fun y => D.eqb y x)) := ⟨id⟩
local macro_rules | `(tactic| walk_at "z") => `(tactic| (repeat (first | refine Red.red ?_ | refine Nxt.mk ?_ | refine ⟨by decide +kernel, by decide +kernel, wayF (by decide +kernel) ?_⟩ | refine ⟨by decide +kernel, by decide +kernel, wayT (by decide +kernel) ?_⟩ | refine ⟨by decide +kernel, ?_⟩ | refine ⟨Nat.le_of_ble_eq_true rfl, ?_⟩ | refine wayF rfl ?_ | refine wayT rfl ?_ | refine at_is rfl ?_)))
/-! k45, text 9. Own work. -/
section
variable {sn c c' m : Nat} {st st' st1 st2 : Store} {ns ns' ns2 : List Nd} {Q : K}
theorem list2 {st : Store} {a b : Nat} : Grw st (st ++ [.lst [.int (a : Int), .int (b : Int)]]) := (Grw.refl st).app
theorem Has.lt {ws : List Int} {a : Nat} {w : Int} (h : Has ws a w) : a < ws.length := (List.getElem?_eq_some_iff.mp h).1
/-- words behind the term: all operations whose rules make no further term -/
theorem mw_flat {o : Op} {w v : Int} {a b tc : Nat} {N : K} (hm : 2 ≤ m) (ho : o = .mul ∨ o = .and ∨ o = .or ∨ o = .xor ∨ o = .lt ∨ o = .le) (h : ShA st sn ns) (G : Good (ns.map Nd.wd) (.two o w a b)) (ht : rdL st tc [.int (a : Int), .int (b : Int)])
    (r : MkR sn st ns w 1 N) (hN : True → N .non st) : callN prog m "_law_make_word" [.ref sn, .str (opS o), .int w, .ref tc, .int v] st N := by
  obtain ⟨k, rfl⟩ : ∃ n, m = n + 2 := ⟨m - 2, by omega⟩
  obtain ⟨x, y, hx, hy, hxw, hyw, hc1, w0, w1, ho2⟩ := good2 G
  have p0 : 0 ≤ fullI w := by unfold fullI; have := pow2_pos w.toNat; omega
  have w0' : Good (ns.map Nd.wd) (.word w 0) := good_word ⟨w0, w1⟩ ⟨Int.le_refl _, p0⟩
  have w1' : Good (ns.map Nd.wd) (.word 1 1) := good_word ⟨by decide, by decide⟩ ⟨by decide, by decide⟩
  have ha := has_at hx
  have hb := has_at hy
  refine mw_open (by omega) h hx ht ?_
  unfold mwRest
  rcases ho with rfl | rfl | rfl | rfl | rfl | rfl
  all_goals
    unfold opS
    walk_at "z"
    refine way (fun e => ?_) (fun e => ?_)
    all_goals walk_at "z"
  · exact placeR (x := .word w 0) (by omega) h w0' nfn_word r
  · refine way (fun e => ?_) (fun e => ?_)
    all_goals walk_at "z"
    · exact r.same h (.refl _) (by rw [← hxw rfl]; exact ha)
    · exact hN trivial
  · exact placeR (x := .word w 0) (by omega) h w0' nfn_word r
  · refine way (fun e => ?_) (fun e => ?_)
    all_goals walk_at "z"
    · exact r.same h (.refl _) (by rw [← hxw rfl]; exact ha)
    · exact hN trivial
  · exact r.same h (.refl _) (by rw [← hxw rfl]; exact ha)
  · refine way (fun e => ?_) (fun e => ?_)
    all_goals walk_at "z"
    · exact ix_ref ht rfl (r.same h (.refl _) (by rw [← hyw rfl rfl]; exact hb))
    · exact hN trivial
  · exact r.same h (.refl _) (by rw [← hxw rfl]; exact ha)
  · exact hN trivial
  · exact placeR (x := .word w 0) (by omega) h w0' nfn_word r
  · exact hN trivial
  · have := hc1 rfl
    subst this
    exact placeR (x := .word 1 1) (by omega) h w1' nfn_word r
  · exact hN trivial
def AddC (m : Nat) : Prop := ∀ {sn : Nat} {st : Store} {ns : List Nd} {w : Int} {a b tc : Nat} {Q : K}, ShA st sn ns → Good (ns.map Nd.wd) (.two .add w a b) → isW ns a = false → sumF ns a = false → isW ns b = true → rdL st tc [.int (a : Int), .int (b : Int)] → MkR sn st ns w 1 Q → callN prog m "_law_make" [.ref sn, .str (opS .add), .int w, .ref tc] st Q
theorem mw_add {w v : Int} {a b tc : Nat} {N : K} (hm : 2 ≤ m) (h : ShA st sn ns) (hl : sumF ns a = true → ns.length ≤ 800000) (G : Good (ns.map Nd.wd) (.two .add w a b)) (ht : rdL st tc [.int (a : Int), .int (b : Int)]) (hA : sumF ns a = true → AddC (m - 1)) (hcc : sumF ns a = true → 2 ≤ c) (h1 : 1 ≤ c)
    (r : MkR sn st ns w c N) (hN : sumF ns a = false → N .non st) : callN prog m "_law_make_word" [.ref sn, .str (opS .add), .int w, .ref tc, .int v] st N := by
  obtain ⟨k, rfl⟩ : ∃ n, m = n + 2 := ⟨m - 2, by omega⟩
  obtain ⟨x, y, hx, hy, hxw, hyw, hc1, w0, w1, ho2⟩ := good2 G
  have hxw := hxw rfl
  have ha := has_at hx
  rw [hxw] at ha
  refine mw_open (by omega) h hx ht ?_
  rw [hxw]
  unfold mwRest opS
  walk_at "z"
  refine way (fun e => ?_) (fun e => ?_)
  · walk_at "z"
    exact r.same h (.refl _) ha
  walk_at "z"
  rcases sum_cases h.sheet h.nf hx with ⟨e1, e2⟩ | ⟨e1, w', p, q, wv, v', hx', hq, e2, hp, hq', np, sp⟩
  · rw [e2]
    refine wayF (by simp) ?_
    walk_at "z"
    exact hN e1
  · rw [e2]
    refine wayT (by have : ((p : Int) ≠ a) := by omega
                    simpa using this) ?_
    walk_at "z"
    have hc2 := hcc e1
    refine place_ok (x := .word w (Builtin.bitAnd (v' + v) (fullI w))) (by omega) h (good_word ⟨w0, w1⟩ (and_in _ _)) nfn_word fun ns1 j st1 M hj => ?_
    walk_at "z"
    rw [hx] at hx'; cases hx'
    have Gx := (shAt h.sheet hx).1
    obtain ⟨_, _, _, u, uu, hpu, _, _, hu, _⟩ := Gx
    have hu := hu rfl
    have hxw' : w' = w := hxw
    subst hxw'
    subst hu
    have hplt : p < ns.length := by have := Has.lt hpu; simpa using this
    have r1 : MkR sn st1 ns1 u 1 N := MkR.from (c := 1) M (r.less (by omega))
    have sh1 := M.sh (by have := hl e1; omega)
    exact hA e1 (sh1.grw list2) ⟨w0, w1, rfl, u, _, M.has hpu, has_at hj, (by intro e; cases e), fun _ => rfl, fun _ _ => rfl⟩ (by rw [M.isW hplt]; exact np) (by rw [M.sumF h.sheet hplt]; exact sp) (by rw [isW_at hj]; rfl) rdL_new (r1.pre list2)
theorem ns2' {x y : Nd} {a b tc : Nat} (ht : rdL st tc [.int (a : Int), .int (b : Int)]) : rdL st tc ([((a, x) : Nat × Nd), (b, y)].map fun p => .int (p.1 : Int)) := ht
theorem add1 (hm : 4 ≤ m) : AddC m := by
  intro sn st ns w a b tc Q h G na sa wb ht r
  obtain ⟨k, rfl⟩ : ∃ n, m = n + 4 := ⟨m - 4, by omega⟩
  obtain ⟨x, y, hx, hy, hxw, hyw, hc1, w0, w1, ho2⟩ := good2 G
  have nx : isWn x = false := by rw [← isW_at hx]; exact na
  refine make_open (m := k + 3) [(a, x), (b, y)] (by simp) h (by simp [hx, hy]) (ns2' ht) (fun e vc st1 f hv => ?_) fun e nc st1 f hn => ?_
  · simp [nx] at e
  · obtain ⟨wy, v, hy'⟩ := isW_ex wb
    rw [hy] at hy'; cases hy'
    refine rest2W (c := 1) (cnd := sumF ns a = false) (by omega) (.inl rfl) (h.grw f) (.inl nx) hn (f.rd ht) (fun N rN hN => ?_) (by omega) (fun _ => ⟨G, fun w' a' b' e hh => by cases e; exact ⟨na, sa⟩⟩) (r.pre f)
    exact mw_add (c := 1) (by omega) (h.grw f) (fun e => by rw [sa] at e; cases e) G (f.rd ht) (fun e => by rw [sa] at e; cases e) (fun e => by rw [sa] at e; cases e) (by omega) rN hN
theorem add2 {w : Int} {a b tc : Nat} (hm : 6 ≤ m) (h : ShA st sn ns) (hl : ns.length ≤ 800000) (G : Good (ns.map Nd.wd) (.two .add w a b)) (na : isW ns a = false) (wb : isW ns b = true) (ht : rdL st tc [.int (a : Int), .int (b : Int)]) (r : MkR sn st ns w 2 Q) : callN prog m "_law_make" [.ref sn, .str (opS .add), .int w, .ref tc] st Q := by
  obtain ⟨k, rfl⟩ : ∃ n, m = n + 6 := ⟨m - 6, by omega⟩
  obtain ⟨x, y, hx, hy, hxw, hyw, hc1, w0, w1, ho2⟩ := good2 G
  have nx : isWn x = false := by rw [← isW_at hx]; exact na
  refine make_open (m := k + 5) [(a, x), (b, y)] (by simp) h (by simp [hx, hy]) (ns2' ht) (fun e vc st1 f hv => ?_) fun e nc st1 f hn => ?_
  · simp [nx] at e
  · obtain ⟨wy, v, hy'⟩ := isW_ex wb
    rw [hy] at hy'; cases hy'
    refine rest2W (c := 2) (cnd := sumF ns a = false) (by omega) (.inl rfl) (h.grw f) (.inl nx) hn (f.rd ht) (fun N rN hN => ?_) (by omega) (fun sa => ⟨G, fun w' a' b' e hh => by cases e; exact ⟨na, sa⟩⟩) (r.pre f)
    exact mw_add (c := 2) (by omega) (h.grw f) (fun _ => hl) G (f.rd ht) (fun _ => add1 (by omega)) (fun _ => by omega) (by omega) rN hN
theorem swap2 {o : Op} {w : Int} {a b : Nat} (hc : cmp o = true ∨ shf o = false) (G : Good (ns.map Nd.wd) (.two o w a b)) : Good (ns.map Nd.wd) (.two o w b a) := by
  obtain ⟨w0, w1, ho, u, v, ha, hb, h1, h2, h3⟩ := G
  refine ⟨w0, w1, ho, v, u, hb, ha, h1, fun h => ?_, fun h _ => h2 h⟩
  rcases hc with hc | hc
  · rw [hc] at h; cases h
  · exact h3 h hc
/-- a word at the left: the terms are swapped -/
theorem rest_swap {o : Op} {w : Int} {a b tc nc : Nat} {x y : Nd} (ho : o = .add ∨ o = .mul ∨ o = .and ∨ o = .or ∨ o = .xor ∨ o = .eq) (hn : rdL st nc [x.dat, y.dat]) (ht : rdL st tc [.int (a : Int), .int (b : Int)]) (nx : isWn x = true)
    (q : ∀ tc' st', Grw st st' → rdL st' tc' [.int (b : Int), .int (a : Int)] → callN prog m "_law_make" [.ref sn, .str (opS o), .int w, .ref tc'] st' Q) :
    mkRest (callN prog m) { nx := fun x st' => Q D.non st', rt := Q } [some (.ref sn), some (.str (opS o)), some (.int w), some (.ref tc), some (.ref nc), none, none, none, none] st := by
  unfold mkRest
  have hn0 : atD [x.dat, y.dat] 0 = some x.dat := rfl
  rcases ho with rfl | rfl | rfl | rfl | rfl | rfl
  all_goals
    unfold opS
    walk_at "z"
    refine ix_ref hn hn0 ?_
    walk_at "s"
    refine head_at ?_
    walk_at "s"
    refine ⟨(nm_ok x).1, by decide +kernel, ?_⟩
    rw [(nm_ok x).2, nx]
    walk_at "z"
    refine ix_ref ht rfl ?_
    walk_at "z"
    refine ix_ref ht rfl ?_
    walk_at "z"
    exact q _ _ list2 rdL_new
theorem make_add {w : Int} {a b tc : Nat} (hm : 7 ≤ m) (h : ShA st sn ns) (hl : ns.length ≤ 800000) (G : Good (ns.map Nd.wd) (.two .add w a b)) (ht : rdL st tc [.int (a : Int), .int (b : Int)]) (r : MkR sn st ns w 2 Q) : callN prog m "_law_make" [.ref sn, .str (opS .add), .int w, .ref tc] st Q := by
  obtain ⟨k, rfl⟩ : ∃ n, m = n + 7 := ⟨m - 7, by omega⟩
  obtain ⟨x, y, hx, hy, hxw, hyw, hc1, w0, w1, ho2⟩ := good2 G
  refine make_open (m := k + 6) [(a, x), (b, y)] (by simp) h (by simp [hx, hy]) (ns2' ht) (fun e vc st1 f hv => ?_) fun e nc st1 f hn => ?_
  · simp at e
    exact words2 (by omega) (h.grw f) G hx hy e.1 e.2 hv ((r.pre f).less (by omega))
  · simp at e
    cases ex : isWn x with
    | true =>
      have ey := e ex
      exact rest_swap (.inl rfl) hn (f.rd ht) ex fun tc' st2 f2 ht2 => add2 (by omega) ((h.grw f).grw f2) hl (swap2 (.inr rfl) G) (by rw [isW_at hy]; exact ey) (by rw [isW_at hx]; exact ex) ht2 ((r.pre f).pre f2)
    | false =>
      cases y with
      | word wy v =>
        refine rest2W (c := 2) (cnd := sumF ns a = false) (by omega) (.inl rfl) (h.grw f) (.inl ex) hn (f.rd ht) (fun N rN hN => ?_) (by omega) (fun sa => ⟨G, fun w' a' b' e hh => by cases e; exact ⟨by rw [isW_at hx]; exact ex, sa⟩⟩) (r.pre f)
        exact mw_add (c := 2) (by omega) (h.grw f) (fun _ => hl) G (f.rd ht) (fun _ => add1 (by omega)) (fun _ => by omega) (by omega) rN hN
      | _ => exact rest2S (c := 2) (by omega) (.inl rfl) (h.grw f) (.inl ex) rfl hy hn (f.rd ht) (fun N rN hN => same_ok (by omega) (.inl rfl) (h.grw f) G (f.rd ht) (rN.less (by omega)) hN) (by omega) G (r.pre f)
/-- * & | ^ < <= -/
theorem make_flat {o : Op} {w : Int} {a b tc : Nat} (ho : o = .mul ∨ o = .and ∨ o = .or ∨ o = .xor ∨ o = .lt ∨ o = .le) (hm : 7 ≤ m) (h : ShA st sn ns) (G : Good (ns.map Nd.wd) (.two o w a b)) (ht : rdL st tc [.int (a : Int), .int (b : Int)]) (r : MkR sn st ns w 1 Q) : callN prog m "_law_make" [.ref sn, .str (opS o), .int w, .ref tc] st Q := by
  have ho1 : o = .add ∨ o = .mul ∨ o = .and ∨ o = .or ∨ o = .xor ∨ o = .eq ∨ o = .lt ∨ o = .le := by rcases ho with h | h | h | h | h | h <;> simp [h]
  have ho2 : o = .add ∨ o = .mul ∨ o = .and ∨ o = .or ∨ o = .xor ∨ o = .eq ∨ o = .lt ∨ o = .le ∨ o = .sub := by rcases ho with h | h | h | h | h | h <;> simp [h]
  have na : o ≠ .add := by rcases ho with h | h | h | h | h | h <;> simp [h]
  -- one word at the right, or none
  have core : ∀ {m : Nat} {a b tc : Nat} {st : Store} {Q : K}, 6 ≤ m → ShA st sn ns → Good (ns.map Nd.wd) (.two o w a b) → (isW ns a = false ∨ o = .lt ∨ o = .le) → rdL st tc [.int (a : Int), .int (b : Int)] → MkR sn st ns w 1 Q → callN prog m "_law_make" [.ref sn, .str (opS o), .int w, .ref tc] st Q := by
    intro m a b tc st Q hm h G hxa ht r
    obtain ⟨k, rfl⟩ : ∃ n, m = n + 6 := ⟨m - 6, by omega⟩
    obtain ⟨x, y, hx, hy, hxw, hyw, hc1, w0, w1, _⟩ := good2 G
    rw [isW_at hx] at hxa
    refine make_open (m := k + 5) [(a, x), (b, y)] (by simp) h (by simp [hx, hy]) (ns2' ht) (fun e vc st1 f hv => ?_) fun e nc st1 f hn => ?_
    · simp at e
      exact words2 (by omega) (h.grw f) G hx hy e.1 e.2 hv (r.pre f)
    · cases y with
      | word wy v => exact rest2W (c := 1) (cnd := True) (by omega) ho1 (h.grw f) hxa hn (f.rd ht) (fun N rN hN => mw_flat (by omega) ho (h.grw f) G (f.rd ht) rN hN) (by omega) (fun _ => ⟨G, nfn_two na⟩) (r.pre f)
      | _ => exact rest2S (c := 1) (by omega) ho2 (h.grw f) (by rcases hxa with z | z | z; exact .inl z; exact .inr (.inl z); exact .inr (.inr (.inl z))) rfl hy hn (f.rd ht) (fun N rN hN => same_ok (by omega) ho2 (h.grw f) G (f.rd ht) rN hN) (by omega) G (r.pre f)
  by_cases hlt : o = .lt ∨ o = .le
  · exact core (by omega) h G (.inr hlt) ht r
  · have ho3 : o = .add ∨ o = .mul ∨ o = .and ∨ o = .or ∨ o = .xor ∨ o = .eq := by rcases ho with h | h | h | h | h | h <;> simp [h] at hlt ⊢
    have hsh : cmp o = true ∨ shf o = false := by rcases ho with h | h | h | h | h | h <;> simp [h, cmp, shf]
    cases ew : isW ns a with
    | false => exact core (by omega) h G (.inl ew) ht r
    | true =>
      obtain ⟨k, rfl⟩ : ∃ n, m = n + 7 := ⟨m - 7, by omega⟩
      obtain ⟨x, y, hx, hy, hxw, hyw, hc1, w0, w1, _⟩ := good2 G
      rw [isW_at hx] at ew
      refine make_open (m := k + 6) [(a, x), (b, y)] (by simp) h (by simp [hx, hy]) (ns2' ht) (fun e vc st1 f hv => ?_) fun e nc st1 f hn => ?_
      · simp at e
        exact words2 (by omega) (h.grw f) G hx hy e.1 e.2 hv (r.pre f)
      · simp at e
        exact rest_swap ho3 hn (f.rd ht) ew fun tc' st2 f2 ht2 => core (by omega) ((h.grw f).grw f2) (swap2 hsh G) (.inl (by rw [isW_at hy]; exact e ew)) ht2 ((r.pre f).pre f2)
end
end Pk45
end PartPdk45P9

section PartPdk45P10
set_option Elab.async false
set_option linter.all false
set_option maxRecDepth 100000
set_option maxHeartbeats 1000000
namespace Pk45
open PySem Pd
local macro_rules | `(tactic| walk_at "t") => `(tactic| (repeat (first | refine Red.red ?_ | refine Nxt.mk ?_ | refine ⟨by decide +kernel, by decide +kernel, wayF (by decide +kernel) ?_⟩ | refine ⟨by decide +kernel, by decide +kernel, wayT (by decide +kernel) ?_⟩ | refine ⟨by decide +kernel, ?_⟩ | refine ⟨Nat.le_of_ble_eq_true rfl, ?_⟩ | refine at_is rfl ?_)))
local instance notinTup10_45 {x : D} {xs : List D} {st : Store} {r : Bool → Prop} : Red (notinC x (.tup xs) st r) (x.flat = true ∧ xs.all D.flat = true ∧ r (!(xs.any fun y => D.eqb y x))) := ⟨id⟩
local macro_rules | `(tactic| walk_at "s") => `(tactic| (repeat (refine Red.red ?_)))
local macro_rules | `(tactic| walk_at "r") => `(tactic| (repeat (first | refine Red.red ?_ | refine Nxt.mk ?_)))
local macro_rules | `(tactic| walk_at "v") => `(tactic| (repeat (first | refine Red.red ?_ | refine Nxt.mk ?_ | refine ⟨Nat.le_of_ble_eq_true rfl, ?_⟩ | refine at_is rfl ?_)))
local macro_rules | `(tactic| walk_at "w") => `(tactic| (repeat (first | refine Red.red ?_ | refine Nxt.mk ?_ | refine wayF rfl ?_ | refine wayT rfl ?_ | refine ⟨Nat.le_of_ble_eq_true rfl, ?_⟩ | refine at_is rfl ?_)))
local macro_rules | `(tactic| walk_at "u") => `(tactic| (repeat (first | refine Red.red ?_ | refine Nxt.mk ?_ | refine ⟨Nat.le_of_ble_eq_true rfl, ?_⟩ | refine at_is rfl ?_ | refine ⟨by decide +kernel, by decide +kernel, wayF (by decide +kernel) ?_⟩ | refine ⟨by decide +kernel, by decide +kernel, wayT (by decide +kernel) ?_⟩ | refine ⟨by decide +kernel, by decide +kernel, ?_⟩ | refine wayF (by decide +kernel) ?_ | refine wayT (by decide +kernel) ?_)))
local instance inNewB10_45 {x : D} {xs : List D} {st : Store} {r : Bool → Prop} : Red (inC x (.ref st.length) (st ++ [.lst xs]) r) (x.flat = true ∧ xs.all D.flat = true ∧ r (xs.any fun y => D.eqb y x)) := ⟨fun h => ⟨xs, .inl (by simp [rdL]), h⟩⟩
local instance inTupN10_45 {x : D} {xs : List D} {st : Store} {r : Bool → Prop} : Red (inC x (.tup xs) st r) (x.flat = true ∧ xs.all D.flat = true ∧ r (xs.any fun y => D.eqb y x)) := ⟨id⟩
local macro_rules | `(tactic| walk_at "z") => `(tactic| (repeat (first | refine Red.red ?_ | refine Nxt.mk ?_ | refine ⟨by decide +kernel, by decide +kernel, wayF (by decide +kernel) ?_⟩ | refine ⟨by decide +kernel, by decide +kernel, wayT (by decide +kernel) ?_⟩ | refine ⟨by decide +kernel, ?_⟩ | refine ⟨Nat.le_of_ble_eq_true rfl, ?_⟩ | refine wayF rfl ?_ | refine wayT rfl ?_ | refine at_is rfl ?_)))
/-! k45, text 10. Own work. -/
section
variable {sn c c' m : Nat} {st st' st1 st2 : Store} {ns ns' ns2 : List Nd} {Q : K}
def EqC (m : Nat) : Prop := ∀ {sn : Nat} {st : Store} {ns : List Nd} {a b tc : Nat} {Q : K}, ShA st sn ns → Good (ns.map Nd.wd) (.two .eq 1 a b) → isW ns a = false → sumF ns a = false → isW ns b = true → rdL st tc [.int (a : Int), .int (b : Int)] → MkR sn st ns 1 1 Q → callN prog m "_law_make" [.ref sn, .str (opS .eq), .int 1, .ref tc] st Q
theorem mw_eq {v : Int} {a b tc : Nat} {N : K} (hm : 4 ≤ m) (h : ShA st sn ns) (hl : sumF ns a = true → ns.length ≤ 800000) (G : Good (ns.map Nd.wd) (.two .eq 1 a b)) (ht : rdL st tc [.int (a : Int), .int (b : Int)]) (hA : sumF ns a = true → EqC (m - 1)) (hcc : sumF ns a = true → 2 ≤ c) (h1 : 1 ≤ c)
    (r : MkR sn st ns 1 c N) (hN : sumF ns a = false → N .non st) : callN prog m "_law_make_word" [.ref sn, .str (opS .eq), .int 1, .ref tc, .int v] st N := by
  obtain ⟨k, rfl⟩ : ∃ n, m = n + 4 := ⟨m - 4, by omega⟩
  obtain ⟨x, y, hx, hy, hxw, hyw, hc1, w0, w1, ho2⟩ := good2 G
  have ha := has_at hx
  have hwid := has_wid h.sheet ha
  refine mw_open (by omega) h hx ht ?_
  unfold mwRest opS
  walk_at "z"
  refine way (fun e => ?_) (fun e => ?_)
  · have e := of_decide_eq_true e
    walk_at "z"
    refine way (fun e2 => ?_) (fun e2 => ?_)
    · walk_at "z"
      exact r.same h (.refl _) (by rw [e] at ha; exact ha)
    · walk_at "z"
      refine not_ok (m := k + 3) (by omega) (h.grw ((Grw.refl st).app)) (by rw [e] at ha; exact ha) rdL_new ((r.less h1).pre ((Grw.refl st).app))
  walk_at "z"
  rcases sum_cases h.sheet h.nf hx with ⟨e1, e2⟩ | ⟨e1, w', p, q, wv, v', hx', hq, e2, hp, hq', np, sp⟩
  · rw [e2]
    refine wayF (by simp) ?_
    walk_at "z"
    exact hN e1
  · rw [e2]
    refine wayT (by have : ((p : Int) ≠ a) := by omega
                    simpa using this) ?_
    walk_at "z"
    have hc2 := hcc e1
    refine place_ok (x := .word x.wd (Builtin.bitAnd (v - v') (fullI x.wd))) (by omega) h (good_word hwid (and_in _ _)) nfn_word fun ns1 j st1 M hj => ?_
    walk_at "z"
    rw [hx] at hx'; cases hx'
    have Gx := (shAt h.sheet hx).1
    obtain ⟨_, _, _, u, uu, hpu, _, _, hu, _⟩ := Gx
    have hplt : p < ns.length := by have := Has.lt hpu; simpa using this
    have r1 : MkR sn st1 ns1 1 1 N := MkR.from (c := 1) M (r.less (by omega))
    have sh1 := M.sh (by have := hl e1; omega)
    exact hA e1 (sh1.grw list2) ⟨by decide, by decide, rfl, u, _, M.has hpu, has_at hj, fun _ => rfl, by (intro e; cases e), by (intro e; cases e)⟩ (by rw [M.isW hplt]; exact np) (by rw [M.sumF h.sheet hplt]; exact sp) (by rw [isW_at hj]; rfl) rdL_new (r1.pre list2)
theorem eq1 (hm : 6 ≤ m) : EqC m := by
  intro sn st ns a b tc Q h G na sa wb ht r
  obtain ⟨k, rfl⟩ : ∃ n, m = n + 6 := ⟨m - 6, by omega⟩
  obtain ⟨x, y, hx, hy, hxw, hyw, hc1, w0, w1, ho2⟩ := good2 G
  have nx : isWn x = false := by rw [← isW_at hx]; exact na
  refine make_open (m := k + 5) [(a, x), (b, y)] (by simp) h (by simp [hx, hy]) (ns2' ht) (fun e vc st1 f hv => ?_) fun e nc st1 f hn => ?_
  · simp [nx] at e
  · obtain ⟨wy, v, hy'⟩ := isW_ex wb
    rw [hy] at hy'; cases hy'
    refine rest2W (c := 1) (cnd := sumF ns a = false) (by omega) (by simp) (h.grw f) (.inl nx) hn (f.rd ht) (fun N rN hN => ?_) (by omega) (fun _ => ⟨G, nfn_two (by simp)⟩) (r.pre f)
    exact mw_eq (c := 1) (by omega) (h.grw f) (fun e => by rw [sa] at e; cases e) G (f.rd ht) (fun e => by rw [sa] at e; cases e) (fun e => by rw [sa] at e; cases e) (by omega) rN hN
theorem eq2 {a b tc : Nat} (hm : 8 ≤ m) (h : ShA st sn ns) (hl : ns.length ≤ 800000) (G : Good (ns.map Nd.wd) (.two .eq 1 a b)) (na : isW ns a = false) (wb : isW ns b = true) (ht : rdL st tc [.int (a : Int), .int (b : Int)]) (r : MkR sn st ns 1 2 Q) : callN prog m "_law_make" [.ref sn, .str (opS .eq), .int 1, .ref tc] st Q := by
  obtain ⟨k, rfl⟩ : ∃ n, m = n + 8 := ⟨m - 8, by omega⟩
  obtain ⟨x, y, hx, hy, hxw, hyw, hc1, w0, w1, ho2⟩ := good2 G
  have nx : isWn x = false := by rw [← isW_at hx]; exact na
  refine make_open (m := k + 7) [(a, x), (b, y)] (by simp) h (by simp [hx, hy]) (ns2' ht) (fun e vc st1 f hv => ?_) fun e nc st1 f hn => ?_
  · simp [nx] at e
  · obtain ⟨wy, v, hy'⟩ := isW_ex wb
    rw [hy] at hy'; cases hy'
    refine rest2W (c := 2) (cnd := sumF ns a = false) (by omega) (by simp) (h.grw f) (.inl nx) hn (f.rd ht) (fun N rN hN => ?_) (by omega) (fun sa => ⟨G, nfn_two (by simp)⟩) (r.pre f)
    exact mw_eq (c := 2) (by omega) (h.grw f) (fun _ => hl) G (f.rd ht) (fun _ => eq1 (by omega)) (fun _ => by omega) (by omega) rN hN
theorem make_eq {a b tc : Nat} (hm : 9 ≤ m) (h : ShA st sn ns) (hl : ns.length ≤ 800000) (G : Good (ns.map Nd.wd) (.two .eq 1 a b)) (ht : rdL st tc [.int (a : Int), .int (b : Int)]) (r : MkR sn st ns 1 2 Q) : callN prog m "_law_make" [.ref sn, .str (opS .eq), .int 1, .ref tc] st Q := by
  obtain ⟨k, rfl⟩ : ∃ n, m = n + 9 := ⟨m - 9, by omega⟩
  obtain ⟨x, y, hx, hy, hxw, hyw, hc1, w0, w1, ho2⟩ := good2 G
  refine make_open (m := k + 8) [(a, x), (b, y)] (by simp) h (by simp [hx, hy]) (ns2' ht) (fun e vc st1 f hv => ?_) fun e nc st1 f hn => ?_
  · simp at e
    exact words2 (by omega) (h.grw f) G hx hy e.1 e.2 hv ((r.pre f).less (by omega))
  · simp at e
    cases ex : isWn x with
    | true =>
      have ey := e ex
      exact rest_swap (by simp) hn (f.rd ht) ex fun tc' st2 f2 ht2 => eq2 (by omega) ((h.grw f).grw f2) hl (swap2 (.inl rfl) G) (by rw [isW_at hy]; exact ey) (by rw [isW_at hx]; exact ex) ht2 ((r.pre f).pre f2)
    | false =>
      cases y with
      | word wy v =>
        refine rest2W (c := 2) (cnd := sumF ns a = false) (by omega) (by simp) (h.grw f) (.inl ex) hn (f.rd ht) (fun N rN hN => ?_) (by omega) (fun sa => ⟨G, nfn_two (by simp)⟩) (r.pre f)
        exact mw_eq (c := 2) (by omega) (h.grw f) (fun _ => hl) G (f.rd ht) (fun _ => eq1 (by omega)) (fun _ => by omega) (by omega) rN hN
      | _ => exact rest2S (c := 2) (by omega) (by simp) (h.grw f) (.inl ex) rfl hy hn (f.rd ht) (fun N rN hN => same_ok (by omega) (by simp) (h.grw f) G (f.rd ht) (rN.less (by omega)) hN) (by omega) G (r.pre f)
theorem make_ne {a b tc : Nat} (hm : 10 ≤ m) (h : ShA st sn ns) (hl : ns.length ≤ 800000) (G : Good (ns.map Nd.wd) (.two .ne 1 a b)) (ht : rdL st tc [.int (a : Int), .int (b : Int)]) (r : MkR sn st ns 1 3 Q) : callN prog m "_law_make" [.ref sn, .str (opS .ne), .int 1, .ref tc] st Q := by
  obtain ⟨k, rfl⟩ : ∃ n, m = n + 10 := ⟨m - 10, by omega⟩
  obtain ⟨x, y, hx, hy, hxw, hyw, hc1, w0, w1, ho2⟩ := good2 G
  refine make_open (m := k + 9) [(a, x), (b, y)] (by simp) h (by simp [hx, hy]) (ns2' ht) (fun e vc st1 f hv => ?_) fun e nc st1 f hn => ?_
  · simp at e
    exact words2 (by omega) (h.grw f) G hx hy e.1 e.2 hv ((r.pre f).less (by omega))
  · unfold mkRest opS
    walk_at "z"
    have G2 : Good (ns.map Nd.wd) (.two .eq 1 a b) := by
      obtain ⟨w0, w1, ho, u, v, ha, hb, _⟩ := G
      exact ⟨w0, w1, rfl, u, v, ha, hb, fun _ => rfl, by (intro e; cases e), by (intro e; cases e)⟩
    refine make_eq (m := k + 9) (by omega) (h.grw f) hl G2 (f.rd ht) fun ns2 t st2 M ht2 => ?_
    walk_at "z"
    have r1 : MkR sn st2 ns2 1 1 Q := MkR.from (c := 2) M (r.pre f)
    refine not_ok (m := k + 9) (by omega) ((M.sh (by omega)).grw ((Grw.refl st2).app)) ht2 rdL_new (r1.pre ((Grw.refl st2).app))
theorem make_sub {w : Int} {a b tc : Nat} (hm : 8 ≤ m) (h : ShA st sn ns) (hl : ns.length ≤ 700000) (G : Good (ns.map Nd.wd) (.two .sub w a b)) (ht : rdL st tc [.int (a : Int), .int (b : Int)]) (r : MkR sn st ns w 3 Q) : callN prog m "_law_make" [.ref sn, .str (opS .sub), .int w, .ref tc] st Q := by
  obtain ⟨k, rfl⟩ : ∃ n, m = n + 8 := ⟨m - 8, by omega⟩
  obtain ⟨x, y, hx, hy, hxw, hyw, hc1, w0, w1, ho2⟩ := good2 G
  refine make_open (m := k + 7) [(a, x), (b, y)] (by simp) h (by simp [hx, hy]) (ns2' ht) (fun e vc st1 f hv => ?_) fun e nc st1 f hn => ?_
  · simp at e
    exact words2 (by omega) (h.grw f) G hx hy e.1 e.2 hv ((r.pre f).less (by omega))
  · simp at e
    cases y with
    | word wy v =>
      have ex : isWn x = false := by
        cases z : isWn x with
        | false => rfl
        | true => exact absurd (e z) (by simp [isWn])
      unfold mkRest opS
      walk_at "z"
      refine ix_ref hn (d := (Nd.word wy v).dat) rfl ?_
      unfold Nd.dat
      walk_at "z"
      refine ix_ref hn (d := (Nd.word wy v).dat) rfl ?_
      unfold Nd.dat
      walk_at "z"
      refine ⟨cpow_small (by omega) (by omega), ?_⟩
      walk_at "z"
      rw [full1 w0 w1]
      refine place_ok (x := .word w (Builtin.bitAnd (-v) (fullI w))) (by omega) (h.grw f) (good_word ⟨w0, w1⟩ (and_in _ _)) nfn_word fun ns1 j st2 M hj => ?_
      walk_at "z"
      have htt := M.kp.rd (f.rd ht)
      have r1 : MkR sn st2 ns1 w 2 Q := MkR.from (c := 1) M (r.pre f)
      have halt := (List.getElem?_eq_some_iff.mp hx).1
      have hxw := hxw rfl
      have ha := has_at hx
      rw [hxw] at ha
      by_cases es : tc = sn
      · subst es
        have := rdL_inj h.cell ht
        cases ns with
        | nil => simp at halt
        | cons z zs =>
          rw [List.map_cons, dat_eq] at this
          cases this
      · refine ix_ref (htt (by simpa using es)) rfl ?_
        walk_at "z"
        refine add2 (m := k + 7) (by omega) ((M.sh (by omega)).grw list2) (by have := M.few; omega) ⟨w0, w1, rfl, w, w, M.has ha, has_at hj, by (intro e; cases e), fun _ => rfl, fun _ _ => rfl⟩ (by rw [M.isW halt, isW_at hx]; exact ex) (by rw [isW_at hj]; rfl) rdL_new (r1.pre list2)
    | _ => exact rest2S (c := 3) (by omega) (by simp) (h.grw f) (by simp) rfl hy hn (f.rd ht) (fun N rN hN => same_ok (by omega) (by simp) (h.grw f) G (f.rd ht) (rN.less (by omega)) hN) (by omega) G (r.pre f)
/-- any operation that the law makes -/
def mkOp (o : Op) : Prop := o = .add ∨ o = .sub ∨ o = .mul ∨ o = .and ∨ o = .or ∨ o = .xor ∨ o = .eq ∨ o = .ne ∨ o = .lt ∨ o = .le
theorem make_ok {o : Op} {w : Int} {a b tc : Nat} (ho : mkOp o) (hm : 10 ≤ m) (h : ShA st sn ns) (hl : ns.length ≤ 700000) (G : Good (ns.map Nd.wd) (.two o w a b)) (ht : rdL st tc [.int (a : Int), .int (b : Int)]) (r : MkR sn st ns w 3 Q) : callN prog m "_law_make" [.ref sn, .str (opS o), .int w, .ref tc] st Q := by
  obtain ⟨x, y, hx, hy, hxw, hyw, hc1, w0, w1, _⟩ := good2 G
  rcases ho with rfl | rfl | rfl | rfl | rfl | rfl | rfl | rfl | rfl | rfl
  · exact make_add (by omega) h (by omega) G ht (r.less (by omega))
  · exact make_sub (by omega) h (by omega) G ht r
  · exact make_flat (by simp) (by omega) h G ht (r.less (by omega))
  · exact make_flat (by simp) (by omega) h G ht (r.less (by omega))
  · exact make_flat (by simp) (by omega) h G ht (r.less (by omega))
  · exact make_flat (by simp) (by omega) h G ht (r.less (by omega))
  · have := hc1 rfl
    subst this
    exact make_eq (by omega) h (by omega) G ht (r.less (by omega))
  · have := hc1 rfl
    subst this
    exact make_ne (by omega) h (by omega) G ht r
  · exact make_flat (by simp) (by omega) h G ht (r.less (by omega))
  · exact make_flat (by simp) (by omega) h G ht (r.less (by omega))
end
end Pk45
end PartPdk45P10

section PartPdk45P11
set_option Elab.async false
set_option linter.all false
set_option maxRecDepth 100000
set_option maxHeartbeats 1000000
namespace Pk45
open PySem Pd
local macro_rules | `(tactic| walk_at "t") => `(tactic| (repeat (first | refine Red.red ?_ | refine Nxt.mk ?_ | refine ⟨by decide +kernel, by decide +kernel, wayF (by decide +kernel) ?_⟩ | refine ⟨by decide +kernel, by decide +kernel, wayT (by decide +kernel) ?_⟩ | refine ⟨by decide +kernel, ?_⟩ | refine ⟨Nat.le_of_ble_eq_true rfl, ?_⟩ | refine at_is rfl ?_)))
local instance notinTup11_45 {x : D} {xs : List D} {st : Store} {r : Bool → Prop} : Red (notinC x (.tup xs) st r) (x.flat = true ∧ xs.all D.flat = true ∧ r (!(xs.any fun y => D.eqb y x))) := ⟨id⟩
local macro_rules | `(tactic| walk_at "s") => `(tactic| (repeat (refine Red.red ?_)))
local macro_rules | `(tactic| walk_at "r") => `(tactic| (repeat (first | refine Red.red ?_ | refine Nxt.mk ?_)))
local macro_rules | `(tactic| walk_at "v") => `(tactic| (repeat (first | refine Red.red ?_ | refine Nxt.mk ?_ | refine ⟨Nat.le_of_ble_eq_true rfl, ?_⟩ | refine at_is rfl ?_)))
local macro_rules | `(tactic| walk_at "w") => `(tactic| (repeat (first | refine Red.red ?_ | refine Nxt.mk ?_ | refine wayF rfl ?_ | refine wayT rfl ?_ | refine ⟨Nat.le_of_ble_eq_true rfl, ?_⟩ | refine at_is rfl ?_)))
local macro_rules | `(tactic| walk_at "u") => `(tactic| (repeat (first | refine Red.red ?_ | refine Nxt.mk ?_ | refine ⟨Nat.le_of_ble_eq_true rfl, ?_⟩ | refine at_is rfl ?_ | refine ⟨by decide +kernel, by decide +kernel, wayF (by decide +kernel) ?_⟩ | refine ⟨by decide +kernel, by decide +kernel, wayT (by decide +kernel) ?_⟩ | refine ⟨by decide +kernel, by decide +kernel, ?_⟩ | refine wayF (by decide +kernel) ?_ | refine wayT (by decide +kernel) ?_)))
local instance inNewB11_45 {x : D} {xs : List D} {st : Store} {r : Bool → Prop} : Red (inC x (.ref st.length) (st ++ [.lst xs]) r) (x.flat = true ∧ xs.all D.flat = true ∧ r (xs.any fun y => D.eqb y x)) := ⟨fun h => ⟨xs, .inl (by simp [rdL]), h⟩⟩
local instance inTupN11_45 {x : D} {xs : List D} {st : Store} {r : Bool → Prop} : Red (inC x (.tup xs) st r) (x.flat = true ∧ xs.all D.flat = true ∧ r (xs.any fun y => D.eqb y x)) := ⟨id⟩
local macro_rules | `(tactic| walk_at "z") => `(tactic| (repeat (first | refine Red.red ?_ | refine Nxt.mk ?_ | refine ⟨by decide +kernel, by decide +kernel, wayF (by decide +kernel) ?_⟩ | refine ⟨by decide +kernel, by decide +kernel, wayT (by decide +kernel) ?_⟩ | refine ⟨by decide +kernel, ?_⟩ | refine ⟨Nat.le_of_ble_eq_true rfl, ?_⟩ | refine wayF rfl ?_ | refine wayT rfl ?_ | refine at_is rfl ?_)))
/-! k45, text 11. Own work. -/
/-! the world that a book is drawn in -/
structure Wc where
  (wn tn sn pn : Nat)
  (ext entry : Str)
  (ps : List (Str × Nat))
  (pw many gives : Nat)
  (stdy room : Int)
def sureD : D := .tup [.str (Str.ofString "word"), .int 1, .int 1]
def partD (W : Wc) : D := .tup [.str (Str.ofString "external"), .str W.ext, .tup (W.ps.map fun p => .tup [.str p.1, .int (p.2 : Int)]), .int (W.pw : Int), .int W.stdy, sureD, sureD]
abbrev Kvs := List (Ky × D)
def ks (s : String) : Ky := .inr (Str.ofString s)
def wkvs (W : Wc) (looks : Int) (met : Bool) : Kvs := [(ks "d", .ref 2), (ks "part", partD W), (ks "entry", .str W.entry), (ks "many", .int (W.many : Int)), (ks "looks", .int looks), (ks "met", .bl met), (ks "terms", .ref W.tn), (ks "sheet", .ref W.sn), (ks "spare", .ref W.pn), (ks "gives", .int (W.gives : Int)), (ks "room", .int W.room)]
structure WF (W : Wc) : Prop where
  oe : okS W.ext = true
  oen : okS W.entry = true
  pl : W.ps.length ≤ 2
  pr : ∀ p ∈ W.ps, 1 ≤ p.2 ∧ p.2 ≤ 2 ∧ okS p.1 = true
  pw : 1 ≤ W.pw ∧ W.pw ≤ 2
  mn : W.many ≤ 3
  gv : 1 ≤ W.gives ∧ W.gives ≤ 2
  sd : W.stdy = 0 ∨ W.stdy = 1
  cw : 2 < W.wn
  ct : 2 < W.tn
  cs : 2 < W.sn
  cp : 2 < W.pn
  ne : W.wn ≠ W.tn ∧ W.wn ≠ W.sn ∧ W.wn ≠ W.pn ∧ W.tn ≠ W.sn ∧ W.tn ≠ W.pn ∧ W.sn ≠ W.pn
structure WAt (st : Store) (W : Wc) (ns : List Nd) (kvs : Kvs) (sp : List Str) (looks : Int) (met : Bool) : Prop where
  w : rdD st W.wn (wkvs W looks met)
  t : rdD st W.tn kvs
  s : ShA st W.sn ns
  p : rdL st W.pn (sp.map D.str)
  dr : DrawAt st
  kl : kvs.length + sp.length ≤ 1000
  nd : sp.Nodup
  ok : ∀ s ∈ sp, okS s = true
section
variable {W : Wc} {ns ns' : List Nd} {kvs kvs' : Kvs} {sp sp' : List Str} {looks : Int} {met : Bool} {st st' st2 : Store} {Q : K} {m c : Nat}
theorem vget {s : String} (k : Str) (e : k = Str.ofString s) {d : D} (h : valD (wkvs W looks met) (ks s) = some d) (hw : rdD st W.wn (wkvs W looks met)) (q : Q d st) : getDAK (.ref W.wn) (.str k) st Q := by
  subst e
  exact ⟨_, ks s, d, .inl hw, rfl, h, q⟩
theorem v_d : valD (wkvs W looks met) (ks "d") = some (.ref 2) := rfl
theorem v_part : valD (wkvs W looks met) (ks "part") = some (partD W) := rfl
theorem v_entry : valD (wkvs W looks met) (ks "entry") = some (.str W.entry) := rfl
theorem v_many : valD (wkvs W looks met) (ks "many") = some (.int (W.many : Int)) := rfl
theorem v_looks : valD (wkvs W looks met) (ks "looks") = some (.int looks) := rfl
theorem v_terms : valD (wkvs W looks met) (ks "terms") = some (.ref W.tn) := rfl
theorem v_sheet : valD (wkvs W looks met) (ks "sheet") = some (.ref W.sn) := rfl
theorem v_spare : valD (wkvs W looks met) (ks "spare") = some (.ref W.pn) := rfl
theorem v_gives : valD (wkvs W looks met) (ks "gives") = some (.int (W.gives : Int)) := rfl
theorem v_room : valD (wkvs W looks met) (ks "room") = some (.int W.room) := rfl
theorem v_met : valD (wkvs W looks met) (ks "met") = some (.bl met) := rfl
theorem p_looks {l : Int} : putD (wkvs W looks met) (ks "looks") (.int l) = wkvs W l met := rfl
theorem p_met {b : Bool} : putD (wkvs W looks met) (ks "met") (.bl b) = wkvs W looks b := rfl
end
end Pk45
end PartPdk45P11

section PartPdk45P12
set_option Elab.async false
set_option linter.all false
set_option maxRecDepth 100000
set_option maxHeartbeats 1000000
namespace Pk45
open PySem Pd
local macro_rules | `(tactic| walk_at "t") => `(tactic| (repeat (first | refine Red.red ?_ | refine Nxt.mk ?_ | refine ⟨by decide +kernel, by decide +kernel, wayF (by decide +kernel) ?_⟩ | refine ⟨by decide +kernel, by decide +kernel, wayT (by decide +kernel) ?_⟩ | refine ⟨by decide +kernel, ?_⟩ | refine ⟨Nat.le_of_ble_eq_true rfl, ?_⟩ | refine at_is rfl ?_)))
local instance notinTup12_45 {x : D} {xs : List D} {st : Store} {r : Bool → Prop} : Red (notinC x (.tup xs) st r) (x.flat = true ∧ xs.all D.flat = true ∧ r (!(xs.any fun y => D.eqb y x))) := ⟨id⟩
local macro_rules | `(tactic| walk_at "s") => `(tactic| (repeat (refine Red.red ?_)))
local macro_rules | `(tactic| walk_at "r") => `(tactic| (repeat (first | refine Red.red ?_ | refine Nxt.mk ?_)))
local macro_rules | `(tactic| walk_at "v") => `(tactic| (repeat (first | refine Red.red ?_ | refine Nxt.mk ?_ | refine ⟨Nat.le_of_ble_eq_true rfl, ?_⟩ | refine at_is rfl ?_)))
local macro_rules | `(tactic| walk_at "w") => `(tactic| (repeat (first | refine Red.red ?_ | refine Nxt.mk ?_ | refine wayF rfl ?_ | refine wayT rfl ?_ | refine ⟨Nat.le_of_ble_eq_true rfl, ?_⟩ | refine at_is rfl ?_)))
local macro_rules | `(tactic| walk_at "u") => `(tactic| (repeat (first | refine Red.red ?_ | refine Nxt.mk ?_ | refine ⟨Nat.le_of_ble_eq_true rfl, ?_⟩ | refine at_is rfl ?_ | refine ⟨by decide +kernel, by decide +kernel, wayF (by decide +kernel) ?_⟩ | refine ⟨by decide +kernel, by decide +kernel, wayT (by decide +kernel) ?_⟩ | refine ⟨by decide +kernel, by decide +kernel, ?_⟩ | refine wayF (by decide +kernel) ?_ | refine wayT (by decide +kernel) ?_)))
local instance inNewB12_45 {x : D} {xs : List D} {st : Store} {r : Bool → Prop} : Red (inC x (.ref st.length) (st ++ [.lst xs]) r) (x.flat = true ∧ xs.all D.flat = true ∧ r (xs.any fun y => D.eqb y x)) := ⟨fun h => ⟨xs, .inl (by simp [rdL]), h⟩⟩
local instance inTupN12_45 {x : D} {xs : List D} {st : Store} {r : Bool → Prop} : Red (inC x (.tup xs) st r) (x.flat = true ∧ xs.all D.flat = true ∧ r (xs.any fun y => D.eqb y x)) := ⟨id⟩
local macro_rules | `(tactic| walk_at "z") => `(tactic| (repeat (first | refine Red.red ?_ | refine Nxt.mk ?_ | refine ⟨by decide +kernel, by decide +kernel, wayF (by decide +kernel) ?_⟩ | refine ⟨by decide +kernel, by decide +kernel, wayT (by decide +kernel) ?_⟩ | refine ⟨by decide +kernel, ?_⟩ | refine ⟨Nat.le_of_ble_eq_true rfl, ?_⟩ | refine wayF rfl ?_ | refine wayT rfl ?_ | refine at_is rfl ?_)))
/-! k45, text 12. Own work. -/
/-! exprs -/
inductive At where
  | name (s : Str)
  | word (v w : Int)
inductive Ex where
  | av (a : At)
  | op (o : Op) (a b : At)
def At.dat : At → D
  | name s => .tup [.str (Str.ofString "name"), .str s]
  | word v w => .tup [.str (Str.ofString "word"), .int v, .int w]
def Ex.dat : Ex → D
  | av a => a.dat
  | op o a b => .tup [.str (opS o), a.dat, b.dat]
/-- a name that stands for a term of the width -/
def KvOk (kvs : Kvs) (ns : List Nd) (s : Str) (w : Int) : Prop := ∃ t : Nat, valD kvs (.inr s) = some (.int (t : Int)) ∧ Has (ns.map Nd.wd) t w
def AtOk (kvs : Kvs) (ns : List Nd) (w : Int) : At → Prop
  | .name s => KvOk kvs ns s w
  | .word v w' => w' = w ∧ (1 ≤ w ∧ w ≤ 8) ∧ 0 ≤ v ∧ v ≤ fullI w
def ExOk (kvs : Kvs) (ns : List Nd) (w : Int) : Ex → Prop
  | .av a => AtOk kvs ns w a
  | .op o a b => mkOp o ∧ (cmp o = true → w = 1 ∧ ∃ u, AtOk kvs ns u a ∧ AtOk kvs ns u b) ∧ (cmp o = false → AtOk kvs ns w a ∧ AtOk kvs ns w b)
section
variable {W : Wc} {ns ns' : List Nd} {kvs kvs' : Kvs} {sp sp' : List Str} {looks : Int} {met : Bool} {st st' st2 : Store} {Q : K} {m c : Nat}
theorem has_ext {ns : List Nd} {a : Nat} {w : Int} {e : List Nd} (h : Has (ns.map Nd.wd) a w) : Has ((ns ++ e).map Nd.wd) a w := by
  unfold Has at *
  rw [List.map_append, List.getElem?_append_left (List.getElem?_eq_some_iff.mp h).1]
  exact h
theorem KvOk.ext {s : Str} {w : Int} (h : KvOk kvs ns s w) (e : ∃ e, ns' = ns ++ e) : KvOk kvs ns' s w := by
  obtain ⟨e, rfl⟩ := e
  obtain ⟨t, h1, h2⟩ := h
  exact ⟨t, h1, has_ext h2⟩
theorem AtOk.ext {a : At} {w : Int} (h : AtOk kvs ns w a) (e : ∃ e, ns' = ns ++ e) : AtOk kvs ns' w a := by
  cases a with
  | name s => exact KvOk.ext h e
  | word v w' => exact h
theorem AtOk.wid (S : Sheet ns) {a : At} {w : Int} (h : AtOk kvs ns w a) : 1 ≤ w ∧ w ≤ 8 := by
  cases a with
  | name s =>
    obtain ⟨t, _, h2⟩ := h
    exact has_wid S h2
  | word v w' => exact h.2.1
/-- more names: the names that stand for terms still do -/
def KvLe (kvs kvs' : Kvs) (ns ns' : List Nd) : Prop := ∀ s w, KvOk kvs ns s w → KvOk kvs' ns' s w
theorem AtOk.le {a : At} {w : Int} (h : AtOk kvs ns w a) (e : KvLe kvs kvs' ns ns') : AtOk kvs' ns' w a := by
  cases a with
  | name s => exact e _ _ h
  | word v w' => exact h
theorem ExOk.le {x : Ex} {w : Int} (h : ExOk kvs ns w x) (e : KvLe kvs kvs' ns ns') : ExOk kvs' ns' w x := by
  cases x with
  | av a => exact AtOk.le h e
  | op o a b =>
    obtain ⟨h1, h2, h3⟩ := h
    refine ⟨h1, fun hc => ?_, fun hc => ?_⟩
    · obtain ⟨hw, u, ha, hb⟩ := h2 hc
      exact ⟨hw, u, ha.le e, hb.le e⟩
    · obtain ⟨ha, hb⟩ := h3 hc
      exact ⟨ha.le e, hb.le e⟩
theorem WAt.mk' (F : WF W) (h : WAt st W ns kvs sp looks met) (M : Mk W.sn st ns ns' st' c) (hl : ns.length + c ≤ 900000) : WAt st' W ns' kvs sp looks met := by
  obtain ⟨n1, n2, n3, n4, n5, n6⟩ := F.ne
  have c1 := F.cs
  refine ⟨M.kp.rdD h.w (by simpa using n2), M.kp.rdD h.t (by simpa using n4), M.sh hl, M.kp.rd h.p (by simpa using (Ne.symm n6)), M.kp.dr h.dr (by simp; omega) (by simp; omega), h.kl, h.nd, h.ok⟩
theorem WAt.grw (h : WAt st W ns kvs sp looks met) (f : Grw st st') : WAt st' W ns kvs sp looks met := by
  have k : Kp [] st st' := Kp.of_grw f
  exact ⟨k.rdD h.w (by simp), k.rdD h.t (by simp), h.s.grw f, f.rd h.p, (f.fra h.dr).dr, h.kl, h.nd, h.ok⟩
theorem WAt.fra (F : WF W) (h : WAt st W ns kvs sp looks met) (f : Fra st st') : WAt st' W ns kvs sp looks met := by
  have k := Kp.of_fra f
  have c1 := F.cw
  have c2 := F.ct
  have c3 := F.cs
  have c4 := F.cp
  exact ⟨k.rdD h.w (by simp; omega), k.rdD h.t (by simp; omega), ⟨k.rd h.s.cell (by simp; omega), h.s.sheet, h.s.nf, h.s.few⟩, k.rd h.p (by simp; omega), f.dr, h.kl, h.nd, h.ok⟩
theorem WAt.kp {ex : List Nat} (h : WAt st W ns kvs sp looks met) (k : Kp ex st st') (hx : ∀ c ∈ [1, 2, W.wn, W.tn, W.sn, W.pn], c ∉ ex) : WAt st' W ns kvs sp looks met :=
  ⟨k.rdD h.w (hx _ (by simp)), k.rdD h.t (hx _ (by simp)), ⟨k.rd h.s.cell (hx _ (by simp)), h.s.sheet, h.s.nf, h.s.few⟩, k.rd h.p (hx _ (by simp)), k.dr h.dr (hx _ (by simp)) (hx _ (by simp)), h.kl, h.nd, h.ok⟩
theorem WAt.lts (h : WAt st W ns kvs sp looks met) : ∀ c ∈ [1, 2, W.wn, W.tn, W.sn, W.pn], c < st.length := by
  have h1 := rdD_lt h.w
  have h2 := rdD_lt h.t
  have h3 := rdL_lt h.s.cell
  have h4 := rdL_lt h.p
  have h5 := h.dr.lt
  intro c hc
  simp at hc
  rcases hc with rfl | rfl | rfl | rfl | rfl | rfl <;> omega
theorem WAt.setN {n : Nat} {x : C} (h : WAt st W ns kvs sp looks met) (hn : n ∉ [1, 2, W.wn, W.tn, W.sn, W.pn]) : WAt (st.set n x) W ns kvs sp looks met :=
  h.kp (ex := [n]) (Kp.refl.set (.inl (by simp))) fun c hc e => by
    simp at e
    subst e
    exact hn hc
theorem Mk.setN {n sn : Nat} {x : C} (M : Mk sn st ns ns' st' c) (hn : st.length ≤ n) (hne : n ≠ sn) : Mk sn st ns ns' (st'.set n x) c := ⟨rdL_ne M.cell (Ne.symm hne), M.sheet, M.nf, M.ext, M.few, M.kp.set (.inr hn)⟩
theorem wterm_ok {v w : Int} (hm : 2 ≤ m) (F : WF W) (h : WAt st W ns kvs sp looks met) (hw : 1 ≤ w ∧ w ≤ 8) (hv : 0 ≤ v ∧ v ≤ fullI w) (r : ∀ ns' (t : Nat) st', Mk W.sn st ns ns' st' 1 → ns'[t]? = some (.word w v) → Q (.int (t : Int)) st') : callN prog m "_law_word_term" [.ref W.wn, .int v, .int w] st Q := by
  obtain ⟨k, rfl⟩ : ∃ n, m = n + 2 := ⟨m - 2, by omega⟩
  refine call_intro rfl rfl ?_
  unfold b_l_word_term
  walk_at "s"
  refine vget _ rfl v_sheet h.w ?_
  walk_at "z"
  exact place_ok (x := .word w v) (by omega) h.s (good_word hw hv) nfn_word r
theorem atom_ok {a : At} {w : Int} (hm : 3 ≤ m) (F : WF W) (h : WAt st W ns kvs sp looks met) (ha : AtOk kvs ns w a) (r : MkR W.sn st ns w 1 Q) : callN prog m "_law_term" [.ref W.wn, a.dat] st Q := by
  obtain ⟨k, rfl⟩ : ∃ n, m = n + 3 := ⟨m - 3, by omega⟩
  refine call_intro rfl rfl ?_
  unfold b_l_term
  cases a with
  | word v w' =>
    obtain ⟨e, hw, hv⟩ := ha
    subst e
    unfold At.dat
    walk_at "z"
    exact wterm_ok (by omega) F h hw hv fun ns' t st' M e => r ns' t st' M (has_at e)
  | name s =>
    obtain ⟨t, h1, h2⟩ := ha
    unfold At.dat
    walk_at "z"
    refine vget _ rfl v_terms h.w ?_
    walk_at "z"
    refine ⟨kvs, .inr s, _, .inl h.t, rfl, h1, ?_⟩
    exact r.same h.s (.refl _) h2
theorem opS_nm (o : Op) (ho : mkOp o) : decide (opS o = Str.ofString "word") = false ∧ decide (opS o = Str.ofString "name") = false ∧ okS (opS o) = true := by
  refine ⟨(opS_w o).2.1, ?_, (opS_w o).1⟩
  cases o <;> decide +kernel
theorem term_ok {x : Ex} {w : Int} (hm : 12 ≤ m) (F : WF W) (h : WAt st W ns kvs sp looks met) (hl : ns.length ≤ 600000) (hx : ExOk kvs ns w x) (r : MkR W.sn st ns w 5 Q) : callN prog m "_law_term" [.ref W.wn, x.dat] st Q := by
  cases x with
  | av a => exact atom_ok (by omega) F h hx (r.less (by omega))
  | op o a b =>
    obtain ⟨ho, h1, h2⟩ := hx
    obtain ⟨k, rfl⟩ : ∃ n, m = n + 12 := ⟨m - 12, by omega⟩
    refine call_intro rfl rfl ?_
    unfold b_l_term
    obtain ⟨q1, q2, q3⟩ := opS_nm o ho
    obtain ⟨u, ha, hb, hcw⟩ : ∃ u, AtOk kvs ns u a ∧ AtOk kvs ns u b ∧ (cmp o = true → w = 1) ∧ (cmp o = false → u = w) := by
      cases hc : cmp o with
      | true =>
        obtain ⟨e, u, ha, hb⟩ := h1 hc
        exact ⟨u, ha, hb, fun _ => e, fun e => nomatch e⟩
      | false =>
        obtain ⟨ha, hb⟩ := h2 hc
        exact ⟨w, ha, hb, fun e => (nomatch e), fun _ => rfl⟩
    obtain ⟨hc1, hc2⟩ := hcw
    have hu := ha.wid h.s.sheet
    have hw : 1 ≤ w ∧ w ≤ 8 := by
      cases hc : cmp o with
      | true => have := hc1 hc; omega
      | false => have := hc2 hc; omega
    unfold Ex.dat
    walk_at "z"
    refine ⟨q3, by decide +kernel, wayF q1 ?_⟩
    walk_at "z"
    refine ⟨q3, by decide +kernel, wayF q2 ?_⟩
    walk_at "z"
    have hlt := h.lts
    have hsn : W.sn < st.length := hlt _ (by simp)
    have g0 : Grw st (st ++ [C.lst []]) := (Grw.refl st).app
    have h0 := rdL_new (st := st) (xs := [])
    show lcLoop _ _ _ _ _ _ _ [a.dat, b.dat] [] _
    generalize st ++ [C.lst []] = st0 at g0 h0 ⊢
    have hn : st.length ≤ st.length := Nat.le_refl _
    generalize hnn : st.length = n at h0 hsn hn ⊢
    have hns : n ≠ W.sn := by omega
    have hnc : n ∉ [1, 2, W.wn, W.tn, W.sn, W.pn] := fun e => by have := hlt n e; omega
    unfold lcLoop
    refine ⟨trivial, ?_⟩
    walk_at "z"
    refine atom_ok (by omega) F (h.grw g0) ha fun ns1 t1 st1 M1 hh1 => ?_
    have h1 := M1.kp.rd h0 (by simpa using hns)
    refine ⟨h1, by decide, ?_⟩
    have W1 := ((h.grw g0).mk' F M1 (by omega)).setN (x := .lst ([] ++ [D.int (t1 : Int)])) hnc
    have k1 : rdL (st1.set n (.lst ([] ++ [D.int (t1 : Int)]))) n [.int (t1 : Int)] := rdL_set h1
    have M1' := (M1.pre g0).setN (x := .lst ([] ++ [D.int (t1 : Int)])) (by omega) hns
    generalize st1.set n (.lst ([] ++ [D.int (t1 : Int)])) = st1' at W1 k1 M1' ⊢
    show lcLoop _ _ _ _ _ _ _ [b.dat] _ _
    unfold lcLoop
    refine ⟨trivial, ?_⟩
    walk_at "z"
    refine atom_ok (by omega) F W1 (hb.ext M1.ext) fun ns2 t2 st2 M2 hh2 => ?_
    have h2 := M2.kp.rd k1 (by simpa using hns)
    refine ⟨h2, (by simp [szl] : ([] ++ [D.int (t1 : Int)]).length < szl), ?_⟩
    have W2 := (W1.mk' F M2 (by have := M1.few; omega)).setN (x := .lst ([] ++ [D.int (t1 : Int)] ++ [D.int (t2 : Int)])) hnc
    have k2 : rdL (st2.set n (.lst ([] ++ [D.int (t1 : Int)] ++ [D.int (t2 : Int)]))) n [.int (t1 : Int), .int (t2 : Int)] := rdL_set h2
    have M2' := (M1'.trans M2).setN (x := .lst ([] ++ [D.int (t1 : Int)] ++ [D.int (t2 : Int)])) (by omega) hns
    generalize st2.set n (.lst ([] ++ [D.int (t1 : Int)] ++ [D.int (t2 : Int)])) = st2' at W2 k2 M2' ⊢
    show lcLoop _ _ _ _ _ _ _ [] _ _
    unfold lcLoop
    refine ⟨trivial, k2, ?_⟩
    walk_at "z"
    have hh1' := M2.has hh1
    have hfew := M2'.few
    have G : Good (ns2.map Nd.wd) (.two o w t1 t2) := by
      refine ⟨hw.1, hw.2, ?_, u, u, hh1', hh2, hc1, hc2, fun hc _ => hc2 hc⟩
      rcases ho with rfl | rfl | rfl | rfl | rfl | rfl | rfl | rfl | rfl | rfl <;> rfl
    have fin : callN prog (k + 11) "_law_make" [.ref W.sn, .str (opS o), .int w, .ref n] st2' Q := by
      refine make_ok ho (by omega) W2.s (by omega) G k2 fun ns3 t3 st3 M3 hh3 => ?_
      exact r ns3 t3 st3 (M2'.trans M3) hh3
    have hcm : ([D.str (Str.ofString "=="), D.str (Str.ofString "!="), D.str (Str.ofString "<"), D.str (Str.ofString "<=")].any fun y => y.eqb (D.str (opS o))) = cmp o := by
      cases o <;> decide +kernel
    refine ⟨rfl, by decide +kernel, ?_⟩
    rw [hcm]
    walk_at "s"
    refine way (fun hc => ?_) (fun hc => ?_)
    · have e := hc1 hc
      subst e
      walk_at "z"
      refine vget _ rfl v_sheet W2.w ?_
      walk_at "z"
      exact fin
    · have e := hc2 hc
      subst e
      walk_at "z"
      refine vget _ rfl v_sheet W2.w ?_
      walk_at "z"
      refine ix_ref k2 rfl ?_
      walk_at "z"
      obtain ⟨x1, hx1, ex1, _⟩ := has_ex hh1'
      refine ix_ref W2.s.cell (atN hx1) ?_
      walk_at "z"
      refine wd_at ?_
      rw [ex1]
      walk_at "z"
      refine vget _ rfl v_sheet W2.w ?_
      walk_at "z"
      exact fin
end
end Pk45
end PartPdk45P12

section PartPdk45P13
set_option Elab.async false
set_option linter.all false
set_option maxRecDepth 100000
set_option maxHeartbeats 1000000
namespace Pk45
open PySem Pd
local macro_rules | `(tactic| walk_at "t") => `(tactic| (repeat (first | refine Red.red ?_ | refine Nxt.mk ?_ | refine ⟨by decide +kernel, by decide +kernel, wayF (by decide +kernel) ?_⟩ | refine ⟨by decide +kernel, by decide +kernel, wayT (by decide +kernel) ?_⟩ | refine ⟨by decide +kernel, ?_⟩ | refine ⟨Nat.le_of_ble_eq_true rfl, ?_⟩ | refine at_is rfl ?_)))
local instance notinTup13_45 {x : D} {xs : List D} {st : Store} {r : Bool → Prop} : Red (notinC x (.tup xs) st r) (x.flat = true ∧ xs.all D.flat = true ∧ r (!(xs.any fun y => D.eqb y x))) := ⟨id⟩
local macro_rules | `(tactic| walk_at "s") => `(tactic| (repeat (refine Red.red ?_)))
local macro_rules | `(tactic| walk_at "r") => `(tactic| (repeat (first | refine Red.red ?_ | refine Nxt.mk ?_)))
local macro_rules | `(tactic| walk_at "v") => `(tactic| (repeat (first | refine Red.red ?_ | refine Nxt.mk ?_ | refine ⟨Nat.le_of_ble_eq_true rfl, ?_⟩ | refine at_is rfl ?_)))
local macro_rules | `(tactic| walk_at "w") => `(tactic| (repeat (first | refine Red.red ?_ | refine Nxt.mk ?_ | refine wayF rfl ?_ | refine wayT rfl ?_ | refine ⟨Nat.le_of_ble_eq_true rfl, ?_⟩ | refine at_is rfl ?_)))
local macro_rules | `(tactic| walk_at "u") => `(tactic| (repeat (first | refine Red.red ?_ | refine Nxt.mk ?_ | refine ⟨Nat.le_of_ble_eq_true rfl, ?_⟩ | refine at_is rfl ?_ | refine ⟨by decide +kernel, by decide +kernel, wayF (by decide +kernel) ?_⟩ | refine ⟨by decide +kernel, by decide +kernel, wayT (by decide +kernel) ?_⟩ | refine ⟨by decide +kernel, by decide +kernel, ?_⟩ | refine wayF (by decide +kernel) ?_ | refine wayT (by decide +kernel) ?_)))
local instance inNewB13_45 {x : D} {xs : List D} {st : Store} {r : Bool → Prop} : Red (inC x (.ref st.length) (st ++ [.lst xs]) r) (x.flat = true ∧ xs.all D.flat = true ∧ r (xs.any fun y => D.eqb y x)) := ⟨fun h => ⟨xs, .inl (by simp [rdL]), h⟩⟩
local instance inTupN13_45 {x : D} {xs : List D} {st : Store} {r : Bool → Prop} : Red (inC x (.tup xs) st r) (x.flat = true ∧ xs.all D.flat = true ∧ r (xs.any fun y => D.eqb y x)) := ⟨id⟩
local macro_rules | `(tactic| walk_at "z") => `(tactic| (repeat (first | refine Red.red ?_ | refine Nxt.mk ?_ | refine ⟨by decide +kernel, by decide +kernel, wayF (by decide +kernel) ?_⟩ | refine ⟨by decide +kernel, by decide +kernel, wayT (by decide +kernel) ?_⟩ | refine ⟨by decide +kernel, ?_⟩ | refine ⟨Nat.le_of_ble_eq_true rfl, ?_⟩ | refine wayF rfl ?_ | refine wayT rfl ?_ | refine at_is rfl ?_)))
/-! k45, text 13. Own work. -/
/-! trees -/
inductive Oc where
  | raises (s : Str)
  | cut (s : Str)
  | endless
  | ret (t : Nat)
inductive Tr where
  | out (o : Oc)
  | ask (e : Str) (ts : List Nat) (x : Tr)
  | look (p : Str) (i : Int) (t : Nat) (y n : Tr)
  | loop (p : Str) (i : Int) (t : Nat) (y n : Tr)
  | shut (i : Int)
def Oc.dat : Oc → D
  | raises s => .tup [.str (Str.ofString "raises"), .str s]
  | cut s => .tup [.str (Str.ofString "cut"), .str s]
  | endless => .tup [.str (Str.ofString "endless")]
  | ret t => .tup [.str (Str.ofString "returns"), .int (t : Int)]
def Tr.dat : Tr → D
  | out o => .tup [.str (Str.ofString "end"), o.dat]
  | ask e ts x => .tup [.str (Str.ofString "ask"), .str e, .tup (ts.map fun (t : Nat) => .int (t : Int)), x.dat]
  | look p i t y n => .tup [.str (Str.ofString "look"), .tup [.str p, .int i], .int (t : Int), y.dat, n.dat]
  | loop p i t y n => .tup [.str (Str.ofString "loop"), .tup [.str p, .int i], .int (t : Int), y.dat, n.dat]
  | shut i => .tup [.str (Str.ofString "shut"), .tup [.str (Str.ofString "clash"), .int i]]
def OcOk (ns : List Nd) : Oc → Prop
  | .raises s => okS s = true
  | .cut s => okS s = true
  | .endless => True
  | .ret t => t < ns.length
/-- a tree that a walk of at most h steps ends -/
def TOk (ns : List Nd) : Nat → Tr → Prop
  | 0, _ => False
  | _ + 1, .out o => OcOk ns o
  | h + 1, .ask e ts x => okS e = true ∧ ts.length ≤ 3 ∧ (∀ t ∈ ts, t < ns.length) ∧ TOk ns h x
  | h + 1, .look p i t y n => okS p = true ∧ Has (ns.map Nd.wd) t 1 ∧ TOk ns h y ∧ (ns[t]? = some (.word 1 1) ∨ TOk ns h n)
  | h + 1, .loop p i t y n => okS p = true ∧ Has (ns.map Nd.wd) t 1 ∧ TOk ns h y ∧ (ns[t]? = some (.word 1 1) ∨ TOk ns h n)
  | _ + 1, .shut _ => False
theorem get_ext {ns e : List Nd} {t : Nat} {x : Nd} (h : ns[t]? = some x) : (ns ++ e)[t]? = some x := by
  rw [List.getElem?_append_left (List.getElem?_eq_some_iff.mp h).1]
  exact h
theorem OcOk.ext {ns e : List Nd} {o : Oc} (h : OcOk ns o) : OcOk (ns ++ e) o := by
  cases o with
  | ret t => show t < (ns ++ e).length; rw [List.length_append]; have : t < ns.length := h; omega
  | _ => exact h
theorem TOk.ext {ns e : List Nd} : ∀ {h : Nat} {T : Tr}, TOk ns h T → TOk (ns ++ e) h T
  | 0, _, h => h.elim
  | h + 1, .out o, q => OcOk.ext q
  | h + 1, .ask x ts T, ⟨q1, q2, q3, q4⟩ => ⟨q1, q2, fun t ht => by rw [List.length_append]; have := q3 t ht; omega, TOk.ext q4⟩
  | h + 1, .look p i t y n, ⟨q1, q2, q3, q4⟩ => ⟨q1, has_ext q2, TOk.ext q3, q4.imp get_ext TOk.ext⟩
  | h + 1, .loop p i t y n, ⟨q1, q2, q3, q4⟩ => ⟨q1, has_ext q2, TOk.ext q3, q4.imp get_ext TOk.ext⟩
  | _ + 1, .shut _, h => h.elim
theorem TOk.up {ns : List Nd} : ∀ {h : Nat} {T : Tr}, TOk ns h T → TOk ns (h + 1) T
  | 0, _, h => h.elim
  | h + 1, .out o, q => q
  | h + 1, .ask x ts T, ⟨q1, q2, q3, q4⟩ => ⟨q1, q2, q3, TOk.up q4⟩
  | h + 1, .look p i t y n, ⟨q1, q2, q3, q4⟩ => ⟨q1, q2, TOk.up q3, q4.imp id TOk.up⟩
  | h + 1, .loop p i t y n, ⟨q1, q2, q3, q4⟩ => ⟨q1, q2, TOk.up q3, q4.imp id TOk.up⟩
  | _ + 1, .shut _, h => h.elim
theorem TOk.le {ns : List Nd} {h h' : Nat} {T : Tr} (q : TOk ns h T) (hl : h ≤ h') : TOk ns h' T := by
  obtain ⟨k, rfl⟩ := Nat.exists_eq_add_of_le hl
  induction k with
  | zero => exact q
  | succ k ih => exact (ih (by omega)).up
theorem TOk.ext' {ns ns' : List Nd} {h : Nat} {T : Tr} (q : TOk ns h T) (e : ∃ e, ns' = ns ++ e) : TOk ns' h T := by
  obtain ⟨e, rfl⟩ := e
  exact q.ext
/-! rows: a name, its width, the number of its input -/
structure Row where
  (name : Str)
  (w num : Nat)
def rowD (r : Row) : D := .tup [.str r.name, .int (r.w : Int), .int (r.num : Int)]
structure RowOk (kvs : Kvs) (ns : List Nd) (sp : List Str) (r : Row) : Prop where
  kv : KvOk kvs ns r.name r.w
  out : r.name ∉ sp
  wd : 1 ≤ r.w ∧ r.w ≤ 2
  ok : okS r.name = true
  nm : r.num ≤ 300
/-- a step of the drawing -/
structure Stp (W : Wc) (st : Store) (ns : List Nd) (kvs : Kvs) (sp : List Str) (st' : Store) (ns' : List Nd) (kvs' : Kvs) (sp' : List Str) (c : Nat) : Prop where
  at' : ∃ looks met, WAt st' W ns' kvs' sp' looks met
  ext : ∃ e, ns' = ns ++ e
  few : ns'.length ≤ ns.length + c
  sub : ∀ s ∈ sp', s ∈ sp
  keep : ∀ s, s ∉ sp → valD kvs' (.inr s) = valD kvs (.inr s)
  kp : Kp [2, W.wn, W.tn, W.sn, W.pn] st st'
section
variable {W : Wc} {ns ns' ns2 : List Nd} {kvs kvs' kvs2 : Kvs} {sp sp' sp2 : List Str} {looks : Int} {met : Bool} {st st' st2 : Store} {Q : K} {m c c' : Nat}
theorem Stp.trans (a : Stp W st ns kvs sp st' ns' kvs' sp' c) (b : Stp W st' ns' kvs' sp' st2 ns2 kvs2 sp2 c') : Stp W st ns kvs sp st2 ns2 kvs2 sp2 (c + c') := by
  obtain ⟨e, he⟩ := a.ext
  obtain ⟨e', he'⟩ := b.ext
  exact ⟨b.at', ⟨e ++ e', by rw [he', he, List.append_assoc]⟩, by have := a.few; have := b.few; omega, fun s hs => a.sub s (b.sub s hs), fun s hs => (b.keep s fun h => hs (a.sub s h)).trans (a.keep s hs), a.kp.trans b.kp⟩
theorem Stp.more (a : Stp W st ns kvs sp st' ns' kvs' sp' c) (hc : c ≤ c') : Stp W st ns kvs sp st' ns' kvs' sp' c' := ⟨a.at', a.ext, by have := a.few; omega, a.sub, a.keep, a.kp⟩
theorem Stp.of_fra (F : WF W) (h : WAt st W ns kvs sp looks met) (f : Fra st st') : Stp W st ns kvs sp st' ns kvs sp 0 := ⟨⟨_, _, h.fra F f⟩, ⟨[], by simp⟩, by omega, fun _ h => h, fun _ _ => rfl, (Kp.of_fra f).mono (by simp)⟩
theorem Stp.of_grw (h : WAt st W ns kvs sp looks met) (f : Grw st st') : Stp W st ns kvs sp st' ns kvs sp 0 := ⟨⟨_, _, h.grw f⟩, ⟨[], by simp⟩, by omega, fun _ h => h, fun _ _ => rfl, Kp.of_grw f⟩
theorem Stp.of_mk (F : WF W) (h : WAt st W ns kvs sp looks met) (M : Mk W.sn st ns ns' st' c) (hl : ns.length + c ≤ 900000) : Stp W st ns kvs sp st' ns' kvs sp c := ⟨⟨_, _, h.mk' F M hl⟩, M.ext, M.few, fun _ h => h, fun _ _ => rfl, M.kp.mono (by simp)⟩
theorem RowOk.stp {r : Row} (h : RowOk kvs ns sp r) (s : Stp W st ns kvs sp st' ns' kvs' sp' c) : RowOk kvs' ns' sp' r := by
  obtain ⟨t, h1, h2⟩ := h.kv
  obtain ⟨e, he⟩ := s.ext
  exact ⟨⟨t, (s.keep _ h.out).trans h1, by rw [he]; exact has_ext h2⟩, fun hh => h.out (s.sub _ hh), h.wd, h.ok, h.nm⟩
theorem Stp.rd {n : Nat} {xs : List D} (s : Stp W st ns kvs sp st' ns' kvs' sp' c) (h : rdL st n xs) (hn : n ∉ [2, W.wn, W.tn, W.sn, W.pn]) : rdL st' n xs := s.kp.rd h hn
/-- what answers with a tree -/
def TR (W : Wc) (st : Store) (ns : List Nd) (kvs : Kvs) (sp : List Str) (h c : Nat) (Q : K) : Prop := ∀ T st' ns' kvs' sp', Stp W st ns kvs sp st' ns' kvs' sp' c → TOk ns' h T → Q T.dat st'
theorem TR.from {h c c' : Nat} (r : TR W st ns kvs sp h (c + c') Q) (s : Stp W st ns kvs sp st' ns' kvs' sp' c) : TR W st' ns' kvs' sp' h c' Q := fun T st2 ns2 kvs2 sp2 s2 q => r T st2 ns2 kvs2 sp2 (s.trans s2) q
theorem TR.less {h h' c c' : Nat} (r : TR W st ns kvs sp h c Q) (hh : h' ≤ h) (hc : c' ≤ c) : TR W st ns kvs sp h' c' Q := fun T st2 ns2 kvs2 sp2 s2 q => r T st2 ns2 kvs2 sp2 (s2.more hc) (q.le hh)
/-- operands of a width: rows and words -/
def OpA (rs : List Row) (w : Nat) : At → Prop
  | .name s => ∃ r ∈ rs, r.name = s ∧ r.w = w
  | .word v w' => w' = (w : Int) ∧ 0 ≤ v ∧ v ≤ fullI w
def GEx (rs : List Row) (w : Nat) : Ex → Prop
  | .av a => OpA rs w a
  | .op o a b => (o = .add ∨ o = .sub ∨ o = .and ∨ o = .or ∨ o = .xor ∨ o = .mul) ∧ OpA rs w a ∧ OpA rs w b
theorem OpA.ok {rs : List Row} {w : Nat} {a : At} (h : OpA rs w a) (hw : 1 ≤ w ∧ w ≤ 8) (hr : ∀ r ∈ rs, KvOk kvs ns r.name r.w) : AtOk kvs ns w a := by
  cases a with
  | name s =>
    obtain ⟨r, hr', rfl, rfl⟩ := h
    exact hr r hr'
  | word v w' => exact ⟨h.1, by omega, h.2⟩
theorem GEx.ok {rs : List Row} {w : Nat} {x : Ex} (h : GEx rs w x) (hw : 1 ≤ w ∧ w ≤ 8) (hr : ∀ r ∈ rs, KvOk kvs ns r.name r.w) : ExOk kvs ns w x := by
  cases x with
  | av a => exact OpA.ok h hw hr
  | op o a b =>
    obtain ⟨ho, ha, hb⟩ := h
    refine ⟨?_, fun hc => ?_, fun _ => ⟨ha.ok hw hr, hb.ok hw hr⟩⟩
    · rcases ho with rfl | rfl | rfl | rfl | rfl | rfl <;> simp [mkOp]
    · rcases ho with rfl | rfl | rfl | rfl | rfl | rfl <;> cases hc
theorem fullN_pos {w : Nat} (hw : 1 ≤ w) (h2 : w ≤ 2) : 1 ≤ fullI (w : Int) ∧ fullI (w : Int) ≤ 3 := by
  obtain rfl | rfl : w = 1 ∨ w = 2 := by omega
  · decide
  · decide
theorem test_ok {r : Row} (hm : 1 ≤ m) (hd : DrawAt st) (hw : 1 ≤ r.w ∧ r.w ≤ 2) (q : ∀ o v st', (o = .lt ∨ o = .le ∨ o = .eq ∨ o = .ne) → 0 ≤ v → v ≤ fullI r.w → Fra st st' → Q (Ex.op o (.name r.name) (.word v r.w)).dat st') : callN prog (m + 1) "_law_test" [.ref 2, rowD r] st Q := by
  refine call_intro rfl rfl ?_
  unfold b_l_test rowD
  have hf := fullN_pos hw.1 hw.2
  walk_at "z"
  refine ⟨cpow_small (by omega) (by omega), ?_⟩
  walk_at "z"
  rw [full1 (w := (r.w : Int)) (by omega) (by omega)]
  refine drawM hm hd (by decide) (by decide) fun z st1 z0 z1 f1 => ?_
  walk_at "z"
  refine way (fun e => ?_) (fun e => ?_)
  · walk_at "z"
    refine drawM hm f1.dr (by omega) (by omega) fun v st2 v0 v1 f2 => ?_
    walk_at "z"
    exact q .lt (1 + v) _ (.inl rfl) (by omega) (by omega) (f1.trans f2)
  walk_at "z"
  refine way (fun e1 => ?_) (fun e1 => ?_)
  · walk_at "z"
    refine drawM hm f1.dr (by omega) (by omega) fun v st2 v0 v1 f2 => ?_
    walk_at "z"
    exact q .le v _ (by simp) (by omega) (by omega) (f1.trans f2)
  walk_at "z"
  have e := of_decide_eq_false e
  have e1 := of_decide_eq_false e1
  have hl := f1.app (c := C.lst [.str (Str.ofString "=="), .str (Str.ofString "!=")])
  obtain rfl | rfl : z = 2 ∨ z = 3 := by omega
  · refine ix_ref rdL_new rfl ?_
    walk_at "z"
    refine drawM hm hl.dr (by omega) (by omega) fun v st2 v0 v1 f2 => ?_
    walk_at "z"
    exact q .eq v _ (by simp) (by omega) (by omega) (hl.trans f2)
  · refine ix_ref rdL_new rfl ?_
    walk_at "z"
    refine drawM hm hl.dr (by omega) (by omega) fun v st2 v0 v1 f2 => ?_
    walk_at "z"
    exact q .ne v _ (by simp) (by omega) (by omega) (hl.trans f2)
end
end Pk45
end PartPdk45P13

section PartPdk45P14
set_option Elab.async false
set_option linter.all false
set_option maxRecDepth 100000
set_option maxHeartbeats 1000000
namespace Pk45
open PySem Pd
local macro_rules | `(tactic| walk_at "t") => `(tactic| (repeat (first | refine Red.red ?_ | refine Nxt.mk ?_ | refine ⟨by decide +kernel, by decide +kernel, wayF (by decide +kernel) ?_⟩ | refine ⟨by decide +kernel, by decide +kernel, wayT (by decide +kernel) ?_⟩ | refine ⟨by decide +kernel, ?_⟩ | refine ⟨Nat.le_of_ble_eq_true rfl, ?_⟩ | refine at_is rfl ?_)))
local instance notinTup14_45 {x : D} {xs : List D} {st : Store} {r : Bool → Prop} : Red (notinC x (.tup xs) st r) (x.flat = true ∧ xs.all D.flat = true ∧ r (!(xs.any fun y => D.eqb y x))) := ⟨id⟩
local macro_rules | `(tactic| walk_at "s") => `(tactic| (repeat (refine Red.red ?_)))
local macro_rules | `(tactic| walk_at "r") => `(tactic| (repeat (first | refine Red.red ?_ | refine Nxt.mk ?_)))
local macro_rules | `(tactic| walk_at "v") => `(tactic| (repeat (first | refine Red.red ?_ | refine Nxt.mk ?_ | refine ⟨Nat.le_of_ble_eq_true rfl, ?_⟩ | refine at_is rfl ?_)))
local macro_rules | `(tactic| walk_at "w") => `(tactic| (repeat (first | refine Red.red ?_ | refine Nxt.mk ?_ | refine wayF rfl ?_ | refine wayT rfl ?_ | refine ⟨Nat.le_of_ble_eq_true rfl, ?_⟩ | refine at_is rfl ?_)))
local macro_rules | `(tactic| walk_at "u") => `(tactic| (repeat (first | refine Red.red ?_ | refine Nxt.mk ?_ | refine ⟨Nat.le_of_ble_eq_true rfl, ?_⟩ | refine at_is rfl ?_ | refine ⟨by decide +kernel, by decide +kernel, wayF (by decide +kernel) ?_⟩ | refine ⟨by decide +kernel, by decide +kernel, wayT (by decide +kernel) ?_⟩ | refine ⟨by decide +kernel, by decide +kernel, ?_⟩ | refine wayF (by decide +kernel) ?_ | refine wayT (by decide +kernel) ?_)))
local instance inNewB14_45 {x : D} {xs : List D} {st : Store} {r : Bool → Prop} : Red (inC x (.ref st.length) (st ++ [.lst xs]) r) (x.flat = true ∧ xs.all D.flat = true ∧ r (xs.any fun y => D.eqb y x)) := ⟨fun h => ⟨xs, .inl (by simp [rdL]), h⟩⟩
local instance inTupN14_45 {x : D} {xs : List D} {st : Store} {r : Bool → Prop} : Red (inC x (.tup xs) st r) (x.flat = true ∧ xs.all D.flat = true ∧ r (xs.any fun y => D.eqb y x)) := ⟨id⟩
local macro_rules | `(tactic| walk_at "z") => `(tactic| (repeat (first | refine Red.red ?_ | refine Nxt.mk ?_ | refine ⟨by decide +kernel, by decide +kernel, wayF (by decide +kernel) ?_⟩ | refine ⟨by decide +kernel, by decide +kernel, wayT (by decide +kernel) ?_⟩ | refine ⟨by decide +kernel, ?_⟩ | refine ⟨Nat.le_of_ble_eq_true rfl, ?_⟩ | refine wayF rfl ?_ | refine wayT rfl ?_ | refine at_is rfl ?_)))
/-! k45, text 14. Own work. -/
section
variable {W : Wc} {ns ns' ns2 : List Nd} {kvs kvs' kvs2 : Kvs} {sp sp' sp2 : List Str} {looks : Int} {met : Bool} {st st' st2 : Store} {Q : K} {m c c' : Nat} {rs : List Row} {kc : Nat}
theorem operand_ok {w : Nat} (hm : 3 ≤ m) (hd : DrawAt st) (hw : 1 ≤ w ∧ w ≤ 2) (hk : rdL st kc (rs.map rowD)) (hl : rs.length ≤ 100) (q : ∀ a st', OpA rs w a → Fra st st' → Q (At.dat a) st') : callN prog m "_law_operand" [.ref 2, .ref kc, .int (w : Int)] st Q := by
  obtain ⟨m, rfl⟩ : ∃ n, m = n + 3 := ⟨m - 3, by omega⟩
  refine call_intro rfl rfl ?_
  unfold b_l_operand
  have hf := fullN_pos hw.1 hw.2
  walk_at "s"
  refine it_at hk ?_
  refine lc_filter rs rowD (fun r => .str r.name) (fun r => decide ((r.w : Int) = (w : Int))) rfl (by unfold szl; omega) (fun acc => .inl (rdL_app hk)) (fun r hr acc N M hN hM => ?_) ?_
  · unfold rowD
    walk_at "z"
    exact ⟨fun e => by walk_at "z"; exact hN e, fun e => hM e⟩
  walk_at "z"
  have f1 := (Fra.refl hd).app (c := C.lst ((rs.filter fun r => decide ((r.w : Int) = (w : Int))).map fun r => D.str r.name))
  have h1 := rdL_new (st := st) (xs := (rs.filter fun r => decide ((r.w : Int) = (w : Int))).map fun r => D.str r.name)
  have hlt := hd.lt
  have hne : st.length ≠ 2 := by omega
  generalize st ++ [C.lst ((rs.filter fun r => decide ((r.w : Int) = (w : Int))).map fun r => D.str r.name)] = st1 at f1 h1 ⊢
  generalize st.length = nc at h1 hne ⊢
  have tail : ∀ st2, Fra st st2 → sRet (dTup (aCons (dC (.str "word")) (aCons (dCall (callN prog (m + 2)) "_law_draw" (aCons (dVar 0) (aCons (dOp shlK (dC (.int 1)) (dVar 2)) (aNil)))) (aCons (dVar 2) (aNil))))) { nx := fun x st' => Q D.non st', rt := Q } [some (.ref 2), some (.ref kc), some (.int (w : Int)), some (.ref nc), none] st2 := by
    intro st2 f2
    walk_at "z"
    refine ⟨cpow_small (by omega) (by omega), ?_⟩
    walk_at "z"
    have hp : (1 : Int) * 2 ^ (w : Int).toNat = fullI w + 1 := by unfold fullI; omega
    rw [hp]
    refine drawM (by omega) f2.dr (by omega) (by omega) fun v st3 v0 v1 f3 => ?_
    walk_at "z"
    exact q (.word v w) _ ⟨rfl, v0, by omega⟩ (f2.trans f3)
  refine tru_ref h1 ?_
  refine way (fun e => ?_) (fun e => ?_)
  · walk_at "z"
    refine drawM (by omega) f1.dr (by decide) (by decide) fun v st2 v0 v1 f2 => ?_
    walk_at "z"
    refine way (fun e2 => ?_) (fun e2 => ?_)
    · walk_at "z"
      have hne2 : (rs.filter fun r => decide ((r.w : Int) = (w : Int))) ≠ [] := by
        intro e3
        rw [e3] at e
        simp at e
      refine pickF (f := fun r : Row => D.str r.name) (by omega) f2.dr (f2.rd h1 hne) hne (List.length_pos_iff.mpr hne2) (by have := List.length_filter_le (fun r : Row => decide ((r.w : Int) = (w : Int))) rs; omega) fun r st3 hr f3 => ?_
      walk_at "z"
      rw [List.mem_filter] at hr
      refine q (.name r.name) _ ⟨r, hr.1, rfl, ?_⟩ ((f1.trans f2).trans f3)
      have := of_decide_eq_true hr.2
      omega
    · walk_at "s"
      refine Nxt.mk ?_
      exact tail _ (f1.trans f2)
  · walk_at "s"
    refine Nxt.mk ?_
    exact tail _ f1
theorem given_ok (hm : 4 ≤ m) (F : WF W) (h : WAt st W ns kvs sp looks met) (hk : rdL st kc (rs.map rowD)) (hkc : kc ∉ [2, W.wn, W.tn, W.sn, W.pn]) (hl : rs.length ≤ 100) (q : ∀ x st', GEx rs W.gives x → Fra st st' → Q (Ex.dat x) st') : callN prog m "_law_given" [.ref W.wn, .ref kc] st Q := by
  obtain ⟨m, rfl⟩ : ∃ n, m = n + 4 := ⟨m - 4, by omega⟩
  have hk2 : kc ≠ 2 := by simp at hkc; exact hkc.1
  refine call_intro rfl rfl ?_
  unfold b_l_given
  walk_at "s"
  refine vget _ rfl v_d h.w ?_
  walk_at "z"
  refine vget _ rfl v_gives h.w ?_
  walk_at "z"
  refine operand_ok (by omega) h.dr F.gv hk hl fun a st1 ha f1 => ?_
  have h1 := h.fra F f1
  walk_at "z"
  refine vget _ rfl v_d h1.w ?_
  walk_at "z"
  refine drawM (by omega) h1.dr (by decide) (by decide) fun v st2 v0 v1 f2 => ?_
  have h2 := h1.fra F f2
  have f12 := f1.trans f2
  walk_at "z"
  refine way (fun e => ?_) (fun e => ?_)
  · walk_at "z"
    exact q (.av a) _ ha f12
  · walk_at "z"
    refine vget _ rfl v_d h2.w ?_
    walk_at "z"
    refine pickNewF (f := fun o => D.str (opS o)) [.add, .sub, .and, .or, .xor, .mul] (by omega) h2.dr (by simp) (by simp) rfl fun o st3 ho f3 => ?_
    have h3 := h2.fra F f3
    have f13 := f12.trans f3
    walk_at "z"
    refine vget _ rfl v_d h3.w ?_
    walk_at "z"
    refine vget _ rfl v_gives h3.w ?_
    walk_at "z"
    refine operand_ok (by omega) h3.dr F.gv (f13.rd hk hk2) hl fun b st4 hb f4 => ?_
    walk_at "z"
    refine q (.op o a b) _ ⟨?_, ha, hb⟩ (f13.trans f4)
    simpa using ho
theorem end_ok {h : Nat} (hm : 14 ≤ m) (F : WF W) (hW : WAt st W ns kvs sp looks met) (hl : ns.length ≤ 500000) (hk : rdL st kc (rs.map rowD)) (hkc : kc ∉ [2, W.wn, W.tn, W.sn, W.pn]) (hrl : rs.length ≤ 100) (hr : ∀ r ∈ rs, RowOk kvs ns sp r) (h1 : 1 ≤ h) (r : TR W st ns kvs sp h 8 Q) : callN prog m "_law_end" [.ref W.wn, .ref kc] st Q := by
  obtain ⟨m, rfl⟩ : ∃ n, m = n + 14 := ⟨m - 14, by omega⟩
  obtain ⟨h, rfl⟩ : ∃ n, h = n + 1 := ⟨h - 1, by omega⟩
  have gv := F.gv
  have hf := fullN_pos gv.1 gv.2
  refine call_intro rfl rfl ?_
  unfold b_l_end
  walk_at "s"
  refine vget _ rfl v_d hW.w ?_
  walk_at "z"
  refine drawM (by omega) hW.dr (by decide) (by decide) fun v st1 v0 v1 f1 => ?_
  have w1 := hW.fra F f1
  have s1 := Stp.of_fra F hW f1
  walk_at "z"
  refine way (fun e => ?_) (fun e => ?_)
  · walk_at "z"
    refine vget _ rfl v_d w1.w ?_
    walk_at "z"
    refine pickNewF (f := D.str) ["claim", "bad", "late7", "zero"] (by omega) w1.dr (by simp) (by simp) rfl fun o st3 ho f3 => ?_
    walk_at "z"
    refine r (.out (.raises o)) _ _ _ _ ((s1.trans (Stp.of_fra F w1 f3)).more (by omega)) ?_
    show okS o = true
    simp at ho
    rcases ho with rfl | rfl | rfl | rfl <;> decide +kernel
  walk_at "z"
  refine way (fun e => ?_) (fun e => ?_)
  · walk_at "z"
    refine vget _ rfl v_gives w1.w ?_
    walk_at "z"
    refine wterm_ok (by omega) F w1 (by omega) ⟨by omega, by omega⟩ fun ns2 t st2 M ht => ?_
    walk_at "z"
    exact r (.out (.ret t)) _ _ _ _ ((s1.trans (Stp.of_mk F w1 M (by omega))).more (by omega)) (List.getElem?_eq_some_iff.mp ht).1
  · walk_at "z"
    refine given_ok (by omega) F w1 (s1.rd hk hkc) hkc hrl fun x st2 hx f2 => ?_
    have w2 := w1.fra F f2
    have s2 := s1.trans (Stp.of_fra F w1 f2)
    walk_at "z"
    refine term_ok (w := (W.gives : Int)) (by omega) F w2 (by omega) (hx.ok (by omega) fun r hr' => (hr r hr').kv) fun ns3 t st3 M ht => ?_
    walk_at "z"
    refine r (.out (.ret t)) _ _ _ _ ((s2.trans (Stp.of_mk F w2 M (by omega))).more (by omega)) ?_
    have := Has.lt ht
    rw [List.length_map] at this
    exact this
end
end Pk45
end PartPdk45P14

section PartPdk45P15
set_option Elab.async false
set_option linter.all false
set_option maxRecDepth 100000
set_option maxHeartbeats 1000000
namespace Pk45
open PySem Pd
local macro_rules | `(tactic| walk_at "t") => `(tactic| (repeat (first | refine Red.red ?_ | refine Nxt.mk ?_ | refine ⟨by decide +kernel, by decide +kernel, wayF (by decide +kernel) ?_⟩ | refine ⟨by decide +kernel, by decide +kernel, wayT (by decide +kernel) ?_⟩ | refine ⟨by decide +kernel, ?_⟩ | refine ⟨Nat.le_of_ble_eq_true rfl, ?_⟩ | refine at_is rfl ?_)))
local instance notinTup15_45 {x : D} {xs : List D} {st : Store} {r : Bool → Prop} : Red (notinC x (.tup xs) st r) (x.flat = true ∧ xs.all D.flat = true ∧ r (!(xs.any fun y => D.eqb y x))) := ⟨id⟩
local macro_rules | `(tactic| walk_at "s") => `(tactic| (repeat (refine Red.red ?_)))
local macro_rules | `(tactic| walk_at "r") => `(tactic| (repeat (first | refine Red.red ?_ | refine Nxt.mk ?_)))
local macro_rules | `(tactic| walk_at "v") => `(tactic| (repeat (first | refine Red.red ?_ | refine Nxt.mk ?_ | refine ⟨Nat.le_of_ble_eq_true rfl, ?_⟩ | refine at_is rfl ?_)))
local macro_rules | `(tactic| walk_at "w") => `(tactic| (repeat (first | refine Red.red ?_ | refine Nxt.mk ?_ | refine wayF rfl ?_ | refine wayT rfl ?_ | refine ⟨Nat.le_of_ble_eq_true rfl, ?_⟩ | refine at_is rfl ?_)))
local macro_rules | `(tactic| walk_at "u") => `(tactic| (repeat (first | refine Red.red ?_ | refine Nxt.mk ?_ | refine ⟨Nat.le_of_ble_eq_true rfl, ?_⟩ | refine at_is rfl ?_ | refine ⟨by decide +kernel, by decide +kernel, wayF (by decide +kernel) ?_⟩ | refine ⟨by decide +kernel, by decide +kernel, wayT (by decide +kernel) ?_⟩ | refine ⟨by decide +kernel, by decide +kernel, ?_⟩ | refine wayF (by decide +kernel) ?_ | refine wayT (by decide +kernel) ?_)))
local instance inNewB15_45 {x : D} {xs : List D} {st : Store} {r : Bool → Prop} : Red (inC x (.ref st.length) (st ++ [.lst xs]) r) (x.flat = true ∧ xs.all D.flat = true ∧ r (xs.any fun y => D.eqb y x)) := ⟨fun h => ⟨xs, .inl (by simp [rdL]), h⟩⟩
local instance inTupN15_45 {x : D} {xs : List D} {st : Store} {r : Bool → Prop} : Red (inC x (.tup xs) st r) (x.flat = true ∧ xs.all D.flat = true ∧ r (xs.any fun y => D.eqb y x)) := ⟨id⟩
local macro_rules | `(tactic| walk_at "z") => `(tactic| (repeat (first | refine Red.red ?_ | refine Nxt.mk ?_ | refine ⟨by decide +kernel, by decide +kernel, wayF (by decide +kernel) ?_⟩ | refine ⟨by decide +kernel, by decide +kernel, wayT (by decide +kernel) ?_⟩ | refine ⟨by decide +kernel, ?_⟩ | refine ⟨Nat.le_of_ble_eq_true rfl, ?_⟩ | refine wayF rfl ?_ | refine wayT rfl ?_ | refine at_is rfl ?_)))
/-! k45, text 15. Own work. -/
section
variable {W : Wc} {ns ns' ns2 : List Nd} {kvs kvs' kvs2 : Kvs} {sp sp' sp2 : List Str} {looks : Int} {met : Bool} {st st' st2 : Store} {Q : K} {m c c' : Nat} {rs : List Row} {kc : Nat}
theorem setL_at {k : Str} {l : Int} {R : Store → Prop} (e : k = Str.ofString "looks") (h : rdD st W.wn (wkvs W looks met)) (q : R (st.set W.wn (.dic (wkvs W l met)))) : setDK (.ref W.wn) (.str k) (.int l) st R := by
  subst e
  exact ⟨_, ks "looks", h, rfl, by simp [wkvs, szl], q⟩
theorem setM_at {k : Str} {b : Bool} {R : Store → Prop} (e : k = Str.ofString "met") (h : rdD st W.wn (wkvs W looks met)) (q : R (st.set W.wn (.dic (wkvs W looks b)))) : setDK (.ref W.wn) (.str k) (.bl b) st R := by
  subst e
  exact ⟨_, ks "met", h, rfl, by simp [wkvs, szl], q⟩
theorem rdD_set {n : Nat} {kvs kvs' : Kvs} (h : rdD st n kvs) : rdD (st.set n (.dic kvs')) n kvs' := by
  unfold rdD
  rw [List.getElem?_set_self (rdD_lt h)]
theorem WAt.lk (F : WF W) (h : WAt st W ns kvs sp looks met) {l : Int} {b : Bool} : WAt (st.set W.wn (.dic (wkvs W l b))) W ns kvs sp l b ∧ Stp W st ns kvs sp (st.set W.wn (.dic (wkvs W l b))) ns kvs sp 0 := by
  obtain ⟨n1, n2, n3, n4, n5, n6⟩ := F.ne
  have c1 := F.cw
  have k : Kp [W.wn] st (st.set W.wn (.dic (wkvs W l b))) := Kp.refl.set (.inl (by simp))
  have a : WAt (st.set W.wn (.dic (wkvs W l b))) W ns kvs sp l b := ⟨rdD_set h.w, k.rdD h.t (by simpa using (Ne.symm n1)), ⟨k.rd h.s.cell (by simpa using (Ne.symm n2)), h.s.sheet, h.s.nf, h.s.few⟩, k.rd h.p (by simpa using (Ne.symm n3)), k.dr h.dr (by simp; omega) (by simp; omega), h.kl, h.nd, h.ok⟩
  exact ⟨a, ⟨⟨_, _, a⟩, ⟨[], by simp⟩, by omega, fun _ h => h, fun _ _ => rfl, k.mono (by simp)⟩⟩
theorem WAt.tm (F : WF W) (h : WAt st W ns kvs sp looks met) (hl : kvs'.length + sp.length ≤ 1000) : WAt (st.set W.tn (.dic kvs')) W ns kvs' sp looks met ∧ Kp [2, W.wn, W.tn, W.sn, W.pn] st (st.set W.tn (.dic kvs')) := by
  obtain ⟨n1, n2, n3, n4, n5, n6⟩ := F.ne
  have c1 := F.ct
  have k : Kp [W.tn] st (st.set W.tn (.dic kvs')) := Kp.refl.set (.inl (by simp))
  exact ⟨⟨k.rdD h.w (by simpa using n1), rdD_set h.t, ⟨k.rd h.s.cell (by simpa using (Ne.symm n4)), h.s.sheet, h.s.nf, h.s.few⟩, k.rd h.p (by simpa using (Ne.symm n5)), k.dr h.dr (by simp; omega) (by simp; omega), hl, h.nd, h.ok⟩, k.mono (by simp)⟩
theorem put_len_in {kvs : Kvs} {k : Ky} {v d : D} (h : valD kvs k = some d) : (putD kvs k v).length = kvs.length := by
  unfold putD
  rw [if_pos, List.length_map]
  unfold valD at h
  cases e : kvs.find? (fun kv => decide (kv.1 = k)) with
  | none => rw [e] at h; cases h
  | some x =>
    rw [List.any_eq_true]
    exact ⟨x, List.mem_of_find?_eq_some e, by have := List.find?_some e; exact this⟩
theorem w11 {t : Nat} (h : ns[t]? = some (.word 1 1)) : Has (ns.map Nd.wd) t 1 := has_at h
theorem cut_TOk {h : Nat} (h1 : 1 ≤ h) {s : Str} (hs : okS s = true) : TOk ns h (.out (.cut s)) := by
  obtain ⟨h, rfl⟩ : ∃ n, h = n + 1 := ⟨h - 1, by omega⟩
  exact hs
theorem endless_TOk {h : Nat} (h1 : 1 ≤ h) : TOk ns h (.out .endless) := by
  obtain ⟨h, rfl⟩ : ∃ n, h = n + 1 := ⟨h - 1, by omega⟩
  exact trivial
theorem ret_TOk {h : Nat} (h1 : 1 ≤ h) {t : Nat} (ht : t < ns.length) : TOk ns h (.out (.ret t)) := by
  obtain ⟨h, rfl⟩ : ∃ n, h = n + 1 := ⟨h - 1, by omega⟩
  exact ht
theorem okSteps : okS (Str.ofString "steps") = true := by decide +kernel
theorem okBits : okS (Str.ofString "bits") = true := by decide +kernel
theorem hlt {t : Nat} {w : Int} (h : Has (ns.map Nd.wd) t w) : t < ns.length := by
  have := Has.lt h
  rwa [List.length_map] at this
theorem spin_ok {steps many : Int} {r1 r2 : Row} (hm : 16 ≤ m) (F : WF W) (hW : WAt st W ns kvs sp looks met) (hl : ns.length ≤ 450000) (hk : rdL st kc (rs.map rowD)) (hkc : kc ∉ [2, W.wn, W.tn, W.sn, W.pn]) (hrl : rs.length ≤ 100) (hr : ∀ r ∈ rs, RowOk kvs ns sp r) (ok1 : RowOk kvs ns sp r1) (ok2 : RowOk kvs ns sp r2) (hw : r1.w = r2.w) (r : TR W st ns kvs sp 6 40 Q) :
    callN prog m "_law_spin" [.ref W.wn, .ref kc, .int steps, .int many, .tup [rowD r1, rowD r2]] st Q := by
  obtain ⟨m, rfl⟩ : ∃ n, m = n + 16 := ⟨m - 16, by omega⟩
  have gv := F.gv
  refine call_intro rfl rfl ?_
  unfold b_l_spin
  walk_at "s"
  refine at_is rfl ?_
  unfold rowD
  walk_at "z"
  refine vget _ rfl v_entry hW.w ?_
  walk_at "z"
  refine vget _ rfl v_looks hW.w ?_
  walk_at "z"
  refine getS_at hW.w v_looks ?_
  walk_at "z"
  refine setL_at rfl hW.w ?_
  obtain ⟨W1, S1⟩ := hW.lk F (l := looks + 1) (b := met)
  generalize st.set W.wn (.dic (wkvs W (looks + 1) met)) = st1 at W1 S1 ⊢
  walk_at "z"
  refine way (fun e => ?_) (fun e => ?_)
  · walk_at "z"
    exact r (.out (.cut "steps")) _ _ _ _ (S1.more (by omega)) (cut_TOk (by omega) okSteps)
  walk_at "z"
  refine vget _ rfl v_d W1.w ?_
  walk_at "z"
  refine test_ok (r := r1) (by omega) W1.dr ok1.wd fun o v st2 ho v0 v1 f2 => ?_
  have W2 := W1.fra F f2
  have S2 := S1.trans (Stp.of_fra F W1 f2)
  walk_at "z"
  refine given_ok (by omega) F W2 (S2.rd hk hkc) hkc hrl fun x2 st3 hx2 f3 => ?_
  have W3 := W2.fra F f3
  have S3 := S2.trans (Stp.of_fra F W2 f3)
  walk_at "z"
  have e1 : ExOk kvs ns 1 (.op o (.name r1.name) (.word v r1.w)) := by
    have hcm : cmp o = true := by rcases ho with rfl | rfl | rfl | rfl <;> rfl
    refine ⟨by rcases ho with rfl | rfl | rfl | rfl <;> simp [mkOp], fun _ => ⟨rfl, r1.w, ok1.kv, rfl, ?_, v0, v1⟩, fun hc => by rw [hcm] at hc; cases hc⟩
    have := ok1.wd
    omega
  have e2 : ExOk kvs ns W.gives x2 := hx2.ok (by omega) fun r hr' => (hr r hr').kv
  refine term_ok (w := 1) (by omega) F W3 (by omega) e1 fun ns4 t1 st4 M4 h4 => ?_
  have W4 := W3.mk' F M4 (by omega)
  have few4 := M4.few
  walk_at "z"
  have le4 : KvLe kvs kvs ns ns4 := fun s w h => h.ext M4.ext
  refine term_ok (w := (W.gives : Int)) (by omega) F W4 (by omega) (e2.le le4) fun ns5 t2 st5 M5 h5 => ?_
  have W5 := W4.mk' F M5 (by omega)
  have few5 := M5.few
  have M45 := M4.trans M5
  walk_at "z"
  have le5 : KvLe kvs kvs ns ns5 := fun s w h => h.ext M45.ext
  obtain ⟨ta, va, ha⟩ := le5 _ _ ok1.kv
  obtain ⟨tb, vb, hb⟩ := le5 _ _ ok2.kv
  refine vget _ rfl v_terms W5.w ?_
  walk_at "z"
  refine ⟨kvs, .inr r1.name, _, .inl W5.t, rfl, va, ?_⟩
  walk_at "z"
  refine vget _ rfl v_sheet W5.w ?_
  walk_at "z"
  refine vget _ rfl v_terms W5.w ?_
  walk_at "z"
  refine ⟨kvs, .inr r2.name, _, .inl W5.t, rfl, vb, ?_⟩
  walk_at "z"
  refine make_ok (o := .eq) (w := 1) (by simp [mkOp]) (by omega) (W5.s.grw list2) (by omega) ⟨by decide, by decide, rfl, _, _, ha, hb, fun _ => rfl, by (intro e; cases e), by (intro e; cases e)⟩ rdL_new fun ns6 t3 st6 M6' h6 => ?_
  have M6 := M6'.pre list2
  have W6 := W5.mk' F M6 (by omega)
  have few6 := M6.few
  have M46 := M45.trans M6
  walk_at "z"
  refine vget _ rfl v_terms W6.w ?_
  walk_at "z"
  refine ⟨kvs, .inr r2.name, _, .inl W6.t, rfl, vb, ?_⟩
  walk_at "z"
  refine vget _ rfl v_terms W6.w ?_
  walk_at "z"
  refine setS_at W6.t (by have := W6.kl; unfold szl; omega) ?_
  have hk1 : (putD kvs (.inr r1.name) (.int (tb : Int))).length = kvs.length := put_len_in va
  obtain ⟨W7, K7⟩ := W6.tm F (kvs' := putD kvs (.inr r1.name) (.int (tb : Int))) (by rw [hk1]; exact W6.kl)
  generalize hst7 : st6.set W.tn (.dic (putD kvs (.inr r1.name) (.int (tb : Int)))) = st7 at W7 K7 ⊢
  walk_at "z"
  have le7 : KvLe kvs (putD kvs (.inr r1.name) (.int (tb : Int))) ns ns6 := by
    intro s w ⟨t, q1, q2⟩
    have x6 := M46.ext
    obtain ⟨x, hx⟩ := x6
    by_cases es : s = r1.name
    · subst es
      refine ⟨tb, by rw [val_put, if_pos rfl], ?_⟩
      obtain ⟨t', q3, q4⟩ := ok1.kv
      rw [q1] at q3
      have q3 : t = t' := by
        injection q3 with q3
        injection q3 with q3
        omega
      subst q3
      have hww : w = (r1.w : Int) := by
        have : some w = some (r1.w : Int) := q2.symm.trans q4
        exact Option.some.inj this
      rw [hww, hw]
      exact M6.has hb
    · refine ⟨t, by rw [val_put, if_neg (fun z => es (Sum.inr.inj z))]; exact q1, ?_⟩
      rw [hx]
      exact has_ext q2
  refine term_ok (w := 1) (by omega) F W7 (by omega) (e1.le le7) fun ns8 t4 st8 M8 h8 => ?_
  have W8 := W7.mk' F M8 (by omega)
  have few8 := M8.few
  walk_at "z"
  have le8 : KvLe (putD kvs (.inr r1.name) (.int (tb : Int))) (putD kvs (.inr r1.name) (.int (tb : Int))) ns6 ns8 := fun s w h => h.ext M8.ext
  refine term_ok (w := (W.gives : Int)) (by omega) F W8 (by omega) ((e2.le le7).le le8) fun ns9 t5 st9 M9 h9 => ?_
  have W9 := W8.mk' F M9 (by omega)
  have few9 := M9.few
  have M89 := M8.trans M9
  walk_at "z"
  refine vget _ rfl v_terms W9.w ?_
  walk_at "z"
  refine setS_at W9.t (by have := W9.kl; unfold szl; omega) ?_
  have va9 : valD (putD kvs (.inr r1.name) (.int (tb : Int))) (.inr r1.name) = some (.int (tb : Int)) := by rw [val_put, if_pos rfl]
  have hk2 : (putD (putD kvs (.inr r1.name) (.int (tb : Int))) (.inr r1.name) (.int (ta : Int))).length = kvs.length := (put_len_in va9).trans hk1
  obtain ⟨W10, K10⟩ := W9.tm F (kvs' := putD (putD kvs (.inr r1.name) (.int (tb : Int))) (.inr r1.name) (.int (ta : Int))) (by rw [hk2]; exact hW.kl)
  have keep : ∀ s : Str, valD (putD (putD kvs (.inr r1.name) (.int (tb : Int))) (.inr r1.name) (.int (ta : Int))) (.inr s) = valD kvs (.inr s) := by
    intro s
    rw [val_put]
    split
    · rename_i es
      rw [Sum.inr.inj es]
      exact va.symm
    · rename_i es
      rw [val_put, if_neg es]
  generalize hkv : putD (putD kvs (.inr r1.name) (.int (tb : Int))) (.inr r1.name) (.int (ta : Int)) = kvs9 at W10 K10 hk2 keep ⊢
  generalize st9.set W.tn (.dic kvs9) = st10 at W10 K10 ⊢
  have kp10 : Kp [2, W.wn, W.tn, W.sn, W.pn] st st10 := ((((S3.kp.trans (M46.kp.mono (by simp))).trans K7).trans (M89.kp.mono (by simp))).trans K10)
  obtain ⟨x46, hx46⟩ := M46.ext
  obtain ⟨x89, hx89⟩ := M89.ext
  have S10 : Stp W st ns kvs sp st10 ns9 kvs9 sp 23 := ⟨⟨_, _, W10⟩, ⟨x46 ++ x89, by rw [hx89, hx46, List.append_assoc]⟩, by omega, fun _ h => h, fun s _ => keep s, kp10⟩
  walk_at "z"
  have h4' := M89.has (M6.has (M5.has h4))
  have h5' := hlt (M89.has (M6.has h5))
  have h6' := M89.has h6
  have h8' := M9.has h8
  have h9' := hlt h9
  refine way (fun e => ?_) (fun e => ?_)
  · walk_at "z"
    refine wterm_ok (v := 1) (w := 1) (by omega) F W10 ⟨by decide, by decide⟩ ⟨by decide, by decide⟩ fun ns11 t6 st11 M11 h11 => ?_
    have S11 := S10.trans (Stp.of_mk F W10 M11 (by omega))
    walk_at "z"
    refine r (.look W.entry looks t1 (.loop W.entry looks t3 (.out .endless) (.look W.entry looks t4 (.loop W.entry looks t6 (.out .endless) (.shut (many + 3))) (.out (.ret t5)))) (.out (.ret t2))) _ _ _ _ (S11.more (by omega)) ?_
    have le11 := M11.le
    exact ⟨F.oen, M11.has h4', ⟨F.oen, M11.has h6', endless_TOk (h := 4) (by decide), .inr ⟨F.oen, M11.has h8', ⟨F.oen, w11 h11, endless_TOk (h := 2) (by decide), .inl h11⟩, .inr (ret_TOk (h := 3) (by decide) (Nat.lt_of_lt_of_le h9' le11))⟩⟩, .inr (ret_TOk (h := 5) (by decide) (Nat.lt_of_lt_of_le h5' le11))⟩
  · walk_at "z"
    exact r (.look W.entry looks t1 (.loop W.entry looks t3 (.out .endless) (.out (.cut "steps"))) (.out (.ret t2))) _ _ _ _ (S10.more (by omega)) ⟨F.oen, h4', ⟨F.oen, h6', endless_TOk (h := 4) (by decide), .inr (cut_TOk (h := 4) (by decide) okSteps)⟩, .inr (ret_TOk (h := 5) (by decide) h5')⟩
end
end Pk45
end PartPdk45P15

section PartPdk45P16
set_option Elab.async false
set_option linter.all false
set_option maxRecDepth 100000
set_option maxHeartbeats 1000000
namespace Pk45
open PySem Pd
local macro_rules | `(tactic| walk_at "t") => `(tactic| (repeat (first | refine Red.red ?_ | refine Nxt.mk ?_ | refine ⟨by decide +kernel, by decide +kernel, wayF (by decide +kernel) ?_⟩ | refine ⟨by decide +kernel, by decide +kernel, wayT (by decide +kernel) ?_⟩ | refine ⟨by decide +kernel, ?_⟩ | refine ⟨Nat.le_of_ble_eq_true rfl, ?_⟩ | refine at_is rfl ?_)))
local instance notinTup16_45 {x : D} {xs : List D} {st : Store} {r : Bool → Prop} : Red (notinC x (.tup xs) st r) (x.flat = true ∧ xs.all D.flat = true ∧ r (!(xs.any fun y => D.eqb y x))) := ⟨id⟩
local macro_rules | `(tactic| walk_at "s") => `(tactic| (repeat (refine Red.red ?_)))
local macro_rules | `(tactic| walk_at "r") => `(tactic| (repeat (first | refine Red.red ?_ | refine Nxt.mk ?_)))
local macro_rules | `(tactic| walk_at "v") => `(tactic| (repeat (first | refine Red.red ?_ | refine Nxt.mk ?_ | refine ⟨Nat.le_of_ble_eq_true rfl, ?_⟩ | refine at_is rfl ?_)))
local macro_rules | `(tactic| walk_at "w") => `(tactic| (repeat (first | refine Red.red ?_ | refine Nxt.mk ?_ | refine wayF rfl ?_ | refine wayT rfl ?_ | refine ⟨Nat.le_of_ble_eq_true rfl, ?_⟩ | refine at_is rfl ?_)))
local macro_rules | `(tactic| walk_at "u") => `(tactic| (repeat (first | refine Red.red ?_ | refine Nxt.mk ?_ | refine ⟨Nat.le_of_ble_eq_true rfl, ?_⟩ | refine at_is rfl ?_ | refine ⟨by decide +kernel, by decide +kernel, wayF (by decide +kernel) ?_⟩ | refine ⟨by decide +kernel, by decide +kernel, wayT (by decide +kernel) ?_⟩ | refine ⟨by decide +kernel, by decide +kernel, ?_⟩ | refine wayF (by decide +kernel) ?_ | refine wayT (by decide +kernel) ?_)))
local instance inNewB16_45 {x : D} {xs : List D} {st : Store} {r : Bool → Prop} : Red (inC x (.ref st.length) (st ++ [.lst xs]) r) (x.flat = true ∧ xs.all D.flat = true ∧ r (xs.any fun y => D.eqb y x)) := ⟨fun h => ⟨xs, .inl (by simp [rdL]), h⟩⟩
local instance inTupN16_45 {x : D} {xs : List D} {st : Store} {r : Bool → Prop} : Red (inC x (.tup xs) st r) (x.flat = true ∧ xs.all D.flat = true ∧ r (xs.any fun y => D.eqb y x)) := ⟨id⟩
local macro_rules | `(tactic| walk_at "z") => `(tactic| (repeat (first | refine Red.red ?_ | refine Nxt.mk ?_ | refine ⟨by decide +kernel, by decide +kernel, wayF (by decide +kernel) ?_⟩ | refine ⟨by decide +kernel, by decide +kernel, wayT (by decide +kernel) ?_⟩ | refine ⟨by decide +kernel, ?_⟩ | refine ⟨Nat.le_of_ble_eq_true rfl, ?_⟩ | refine wayF rfl ?_ | refine wayT rfl ?_ | refine at_is rfl ?_)))
/-! k45, text 16. Own work. -/
def cnt : Nat → Nat
  | 0 => 8
  | d + 1 => 2 * cnt d + 40
def hgt (d : Nat) : Nat := 2 * d + 6
def GrowC (m d : Nat) : Prop := ∀ {W : Wc} {st : Store} {ns : List Nd} {kvs : Kvs} {sp : List Str} {looks : Int} {met : Bool} {Q : K} {rs fs : List Row} {kc fc : Nat} {steps many : Int}, WF W → WAt st W ns kvs sp looks met → ns.length + cnt d ≤ 400000 → rdL st kc (rs.map rowD) → kc ∉ [2, W.wn, W.tn, W.sn, W.pn] → rdL st fc (fs.map rowD) → fc ∉ [2, W.wn, W.tn, W.sn, W.pn] → rs.length + d ≤ 50 → fs.length + d ≤ 50 → (∀ r ∈ rs, RowOk kvs ns sp r) → (∀ r ∈ fs, RowOk kvs ns sp r) → TR W st ns kvs sp (hgt d) (cnt d) Q → callN prog m "_law_grow" [.ref W.wn, .ref kc, .ref fc, .int steps, .int many, .int (d : Int)] st Q
section
variable {W : Wc} {ns ns' ns2 : List Nd} {kvs kvs' kvs2 : Kvs} {sp sp' sp2 : List Str} {looks : Int} {met : Bool} {st st' st2 : Store} {Q : K} {m c c' : Nat} {rs fs : List Row} {kc fc : Nat}
theorem WAt.fresh (h : WAt st W ns kvs sp looks met) : st.length ∉ [2, W.wn, W.tn, W.sn, W.pn] := fun e => by
  have := h.lts st.length (by simp at e ⊢; omega)
  omega
theorem row_okd {r : Row} (h : okS r.name = true) : D.okd 60 (rowD r) = true := by simp [rowD, D.okd, okds, h]
theorem branch_ok {d : Nat} {steps many : Int} {lp : Bool} (hm : 2 * d + 22 ≤ m) (hG : ∀ m', 2 * d + 21 ≤ m' → GrowC m' d) (F : WF W) (hW : WAt st W ns kvs sp looks met) (hl : ns.length + cnt (d + 1) ≤ 400000) (hk : rdL st kc (rs.map rowD)) (hkc : kc ∉ [2, W.wn, W.tn, W.sn, W.pn]) (hf : rdL st fc (fs.map rowD)) (hfc : fc ∉ [2, W.wn, W.tn, W.sn, W.pn]) (hrl : rs.length + d ≤ 50) (hfl : fs.length + d ≤ 50) (hr : ∀ r ∈ rs, RowOk kvs ns sp r) (hfr : ∀ r ∈ fs, RowOk kvs ns sp r) (h0 : 0 < fs.length)
    (r : TR W st ns kvs sp (hgt (d + 1)) (cnt (d + 1)) Q) : callN prog m "_law_branch" [.ref W.wn, .ref kc, .ref fc, .int steps, .int many, .int ((d + 1 : Nat) : Int), .bl lp] st Q := by
  obtain ⟨m, rfl⟩ : ∃ n, m = n + (2 * d + 22) := ⟨m - (2 * d + 22), by omega⟩
  have hcnt : cnt (d + 1) = 2 * cnt d + 40 := rfl
  have hhg : hgt (d + 1) = hgt d + 2 := by unfold hgt; omega
  rw [hhg, hcnt] at r
  rw [hcnt] at hl
  show callN prog ((m + (2 * d + 21)) + 1) "_law_branch" _ st Q
  refine call_intro rfl rfl ?_
  unfold b_l_branch
  walk_at "s"
  refine vget _ rfl v_d hW.w ?_
  walk_at "z"
  refine pickF (f := rowD) (by omega) hW.dr hf (by simp at hfc; exact hfc.1) h0 (by omega) fun r1 st1 hr1 f1 => ?_
  have ok1 := hfr r1 hr1
  have W1 := hW.fra F f1
  walk_at "z"
  refine vget _ rfl v_d W1.w ?_
  walk_at "z"
  refine test_ok (r := r1) (m := m + (2 * d + 20)) (by omega) W1.dr ok1.wd fun o v st2 ho v0 v1 f2 => ?_
  have W2 := W1.fra F f2
  have S2 := (Stp.of_fra F hW f1).trans (Stp.of_fra F W1 f2)
  walk_at "z"
  refine vget _ rfl v_entry W2.w ?_
  walk_at "z"
  refine vget _ rfl v_looks W2.w ?_
  walk_at "z"
  refine getS_at W2.w v_looks ?_
  walk_at "z"
  refine setL_at rfl W2.w ?_
  obtain ⟨W3, S3'⟩ := W2.lk F (l := looks + 1) (b := met)
  have S3 := S2.trans S3'
  generalize st2.set W.wn (.dic (wkvs W (looks + 1) met)) = st3 at W3 S3 ⊢
  walk_at "z"
  refine way (fun e => ?_) (fun e => ?_)
  · walk_at "z"
    exact r (.out (.cut "steps")) _ _ _ _ (S3.more (by omega)) (cut_TOk (by omega) okSteps)
  walk_at "s"
  refine Nxt.mk ?_
  walk_at "s"
  have hf3 := S3.rd hf hfc
  refine it_at hf3 ?_
  refine lc_filter fs rowD rowD (fun x => !(D.eqb (rowD x) (rowD r1))) rfl (by unfold szl; omega) (fun acc => .inl (rdL_app hf3)) (fun x hx acc N M hN hM => ?_) ?_
  · walk_at "s"
    refine ⟨row_okd (hfr x hx).ok, row_okd ok1.ok, ?_⟩
    walk_at "s"
    exact ⟨fun e => by walk_at "s"; exact hN e, fun e => hM e⟩
  have hls : ((fs.filter fun x => !(D.eqb (rowD x) (rowD r1)))).length ≤ fs.length := List.length_filter_le _ _
  have hlm : ∀ x ∈ fs.filter fun x => !(D.eqb (rowD x) (rowD r1)), RowOk kvs ns sp x := fun x hx => hfr x (List.mem_filter.mp hx).1
  generalize (fs.filter fun x => !(D.eqb (rowD x) (rowD r1))) = ls at hls hlm ⊢
  have fL := (Grw.refl st3).app (c := C.lst (ls.map rowD))
  have hL := rdL_new (st := st3) (xs := ls.map rowD)
  have hLc := W3.fresh
  have W4 := W3.grw fL
  have S4 := S3.trans (Stp.of_grw W3 fL)
  generalize st3 ++ [C.lst (ls.map rowD)] = st4 at fL hL W4 S4 ⊢
  generalize st3.length = lc at hL hLc ⊢
  walk_at "z"
  have e1 : ExOk kvs ns 1 (.op o (.name r1.name) (.word v r1.w)) := by
    have hcm : cmp o = true := by rcases ho with rfl | rfl | rfl | rfl <;> rfl
    refine ⟨by rcases ho with rfl | rfl | rfl | rfl <;> simp [mkOp], fun _ => ⟨rfl, r1.w, ok1.kv, rfl, ?_, v0, v1⟩, fun hc => by rw [hcm] at hc; cases hc⟩
    have := ok1.wd
    omega
  refine term_ok (w := 1) (by omega) F W4 (by omega) e1 fun ns5 t1 st5 M5 h5 => ?_
  have W5 := W4.mk' F M5 (by omega)
  have S5 := S4.trans (Stp.of_mk F W4 M5 (by omega))
  have hk5 := S5.rd hk hkc
  have hL5 := (Stp.of_mk F W4 M5 (by omega)).rd hL hLc
  have few5 := M5.few
  have one : ((d + 1 : Nat) : Int) - 1 = (d : Int) := by omega
  walk_at "s"
  refine Nxt.mk ?_
  -- the last part: the other side is grown
  have fin : ∀ (Ty : Tr) {st' ns' kvs' sp'} {c : Nat} (o12 o14 : Option D), Stp W st5 ns5 kvs sp st' ns' kvs' sp' c → c ≤ cnt d + 2 → TOk ns' (hgt d + 1) Ty → sRet (dTup (aCons (dC (.str "look")) (aCons (dVar 9) (aCons (dVar 11) (aCons (dVar 13) (aCons (dCall (callN prog (m + (2 * d + 21))) "_law_grow" (aCons (dVar 0) (aCons (dVar 1) (aCons (dVar 10) (aCons (dOp subK (dVar 3) (dC (.int 1))) (aCons (dOp addK (dVar 4) (dC (.int 1))) (aCons (dOp subK (dVar 5) (dC (.int 1))) (aNil)))))))) (aNil))))))) { nx := fun x st' => Q D.non st', rt := Q } [some (.ref W.wn), some (.ref kc), some (.ref fc), some (.int steps), some (.int many), some (.int ((d + 1 : Nat) : Int)), some (.bl lp), some (rowD r1), some (Ex.op o (At.name r1.name) (At.word v r1.w)).dat, some (.tup [.str W.entry, .int looks]), some (.ref lc), some (.int (t1 : Int)), o12, some Ty.dat, o14] st' := by
    intro Ty st' ns' kvs' sp' c o12 o14 S hc hT
    obtain ⟨lk', mt', W6⟩ := S.at'
    have S6 := S5.trans S
    have few6 := S.few
    walk_at "z"
    rw [one]
    refine hG _ (by omega) F W6 (by omega) (S.rd hk5 hkc) hkc (S.rd hL5 hLc) hLc (by omega) (by omega) (fun x hx => (hr x hx).stp S6) (fun x hx => (hlm x hx).stp S6) fun Tn st7 ns7 kvs7 sp7 S7 hTn => ?_
    walk_at "z"
    obtain ⟨x6, hx6⟩ := S.ext
    obtain ⟨x7, hx7⟩ := S7.ext
    refine r (.look W.entry looks t1 Ty Tn) _ _ _ _ ((S6.trans S7).more (by omega)) ⟨F.oen, ?_, hT.ext' S7.ext, .inr hTn.up⟩
    rw [hx7, hx6]
    exact has_ext (has_ext h5)
  walk_at "s"
  cases lp with
  | true =>
    refine wayT rfl ?_
    walk_at "z"
    refine wterm_ok (v := 1) (w := 1) (by omega) F W5 ⟨by decide, by decide⟩ ⟨by decide, by decide⟩ fun ns6 t2 st6 M6 h6 => ?_
    walk_at "s"
    refine ⟨Nat.le_of_ble_eq_true rfl, ?_⟩
    walk_at "s"
    refine ⟨Nat.le_of_ble_eq_true rfl, ?_⟩
    walk_at "s"
    refine ⟨Nat.le_of_ble_eq_true rfl, ?_⟩
    walk_at "s"
    refine Nxt.mk ?_
    refine fin (.loop W.entry looks t2 (.out .endless) (.shut (many + 1))) _ _ (Stp.of_mk F W5 M6 (by omega)) (by omega) ?_
    have : hgt d + 1 = (2 * d + 5 + 1) + 1 := by unfold hgt; omega
    rw [this]
    exact ⟨F.oen, w11 h6, endless_TOk (h := 2 * d + 5 + 1) (by omega), .inl h6⟩
  | false =>
    refine wayF rfl ?_
    walk_at "z"
    rw [one]
    refine hG _ (by omega) F W5 (by omega) hk5 hkc hL5 hLc (by omega) (by omega) (fun x hx => (hr x hx).stp S5) (fun x hx => (hlm x hx).stp S5) fun Ty st7 ns7 kvs7 sp7 S7 hTy => ?_
    walk_at "s"
    refine Nxt.mk ?_
    exact fin Ty _ _ S7 (by omega) hTy.up
end
end Pk45
end PartPdk45P16

section PartPdk45P17
set_option Elab.async false
set_option linter.all false
set_option maxRecDepth 100000
set_option maxHeartbeats 1000000
namespace Pk45
open PySem Pd
local macro_rules | `(tactic| walk_at "t") => `(tactic| (repeat (first | refine Red.red ?_ | refine Nxt.mk ?_ | refine ⟨by decide +kernel, by decide +kernel, wayF (by decide +kernel) ?_⟩ | refine ⟨by decide +kernel, by decide +kernel, wayT (by decide +kernel) ?_⟩ | refine ⟨by decide +kernel, ?_⟩ | refine ⟨Nat.le_of_ble_eq_true rfl, ?_⟩ | refine at_is rfl ?_)))
local instance notinTup17_45 {x : D} {xs : List D} {st : Store} {r : Bool → Prop} : Red (notinC x (.tup xs) st r) (x.flat = true ∧ xs.all D.flat = true ∧ r (!(xs.any fun y => D.eqb y x))) := ⟨id⟩
local macro_rules | `(tactic| walk_at "s") => `(tactic| (repeat (refine Red.red ?_)))
local macro_rules | `(tactic| walk_at "r") => `(tactic| (repeat (first | refine Red.red ?_ | refine Nxt.mk ?_)))
local macro_rules | `(tactic| walk_at "v") => `(tactic| (repeat (first | refine Red.red ?_ | refine Nxt.mk ?_ | refine ⟨Nat.le_of_ble_eq_true rfl, ?_⟩ | refine at_is rfl ?_)))
local macro_rules | `(tactic| walk_at "w") => `(tactic| (repeat (first | refine Red.red ?_ | refine Nxt.mk ?_ | refine wayF rfl ?_ | refine wayT rfl ?_ | refine ⟨Nat.le_of_ble_eq_true rfl, ?_⟩ | refine at_is rfl ?_)))
local macro_rules | `(tactic| walk_at "u") => `(tactic| (repeat (first | refine Red.red ?_ | refine Nxt.mk ?_ | refine ⟨Nat.le_of_ble_eq_true rfl, ?_⟩ | refine at_is rfl ?_ | refine ⟨by decide +kernel, by decide +kernel, wayF (by decide +kernel) ?_⟩ | refine ⟨by decide +kernel, by decide +kernel, wayT (by decide +kernel) ?_⟩ | refine ⟨by decide +kernel, by decide +kernel, ?_⟩ | refine wayF (by decide +kernel) ?_ | refine wayT (by decide +kernel) ?_)))
local instance inNewB17_45 {x : D} {xs : List D} {st : Store} {r : Bool → Prop} : Red (inC x (.ref st.length) (st ++ [.lst xs]) r) (x.flat = true ∧ xs.all D.flat = true ∧ r (xs.any fun y => D.eqb y x)) := ⟨fun h => ⟨xs, .inl (by simp [rdL]), h⟩⟩
local instance inTupN17_45 {x : D} {xs : List D} {st : Store} {r : Bool → Prop} : Red (inC x (.tup xs) st r) (x.flat = true ∧ xs.all D.flat = true ∧ r (xs.any fun y => D.eqb y x)) := ⟨id⟩
local macro_rules | `(tactic| walk_at "z") => `(tactic| (repeat (first | refine Red.red ?_ | refine Nxt.mk ?_ | refine ⟨by decide +kernel, by decide +kernel, wayF (by decide +kernel) ?_⟩ | refine ⟨by decide +kernel, by decide +kernel, wayT (by decide +kernel) ?_⟩ | refine ⟨by decide +kernel, ?_⟩ | refine ⟨Nat.le_of_ble_eq_true rfl, ?_⟩ | refine wayF rfl ?_ | refine wayT rfl ?_ | refine at_is rfl ?_)))
local macro_rules | `(tactic| walk_at "y") => `(tactic| (repeat (first | refine Red.red ?_ | refine ⟨by decide +kernel, by decide +kernel, wayF (by decide +kernel) ?_⟩ | refine ⟨by decide +kernel, by decide +kernel, wayT (by decide +kernel) ?_⟩ | refine ⟨by decide +kernel, ?_⟩ | refine ⟨Nat.le_of_ble_eq_true rfl, ?_⟩ | refine wayF rfl ?_ | refine wayT rfl ?_ | refine at_is rfl ?_)))
/-! k45, text 17. Own work. -/
section
variable {W : Wc} {ns ns' ns2 : List Nd} {kvs kvs' kvs2 : Kvs} {sp sp' sp2 : List Str} {looks : Int} {met : Bool} {st st' st2 : Store} {Q : K} {m c c' : Nat} {rs fs : List Row} {kc fc : Nat}
theorem Stp.setN {n : Nat} {x : C} (S : Stp W st ns kvs sp st' ns' kvs' sp' c) (hn : st.length ≤ n) (hc : ∀ y ∈ [1, 2, W.wn, W.tn, W.sn, W.pn], y < st.length) : Stp W st ns kvs sp (st'.set n x) ns' kvs' sp' c := by
  obtain ⟨l, mt, a⟩ := S.at'
  refine ⟨⟨l, mt, a.setN fun e => ?_⟩, S.ext, S.few, S.sub, S.keep, S.kp.set (.inr hn)⟩
  have := hc n e
  omega
theorem args_ok {items : List D} {gd : Store → Prop} {g : TG} {te : TE} {ρ : Pd.Env} (hW : WAt st W ns kvs sp looks met) (hl : items.length ≤ 3) (hg : ∀ st', gd st')
    (hs : ∀ x ∈ items, ∀ {st' : Store} {ns' : List Nd} {c : Nat}, c ≤ 3 → Stp W st ns kvs sp st' ns' kvs sp c → ∀ N : D → Store → Prop, (∀ (t : Nat) st2 ns2, Stp W st' ns' kvs sp st2 ns2 kvs sp 1 → t < ns2.length → N (.int (t : Int)) st2) → g x ρ st' fun ρ2 st2 => te ρ2 st2 N)
    (hQ : ∀ (ts : List Nat) st' ns', ts.length = items.length → Stp W st ns kvs sp st' ns' kvs sp 3 → (∀ t ∈ ts, t < ns'.length) → rdL st' st.length (ts.map fun (t : Nat) => .int (t : Int)) → Q (.ref st.length) st') : lcLoop gd g tYes te ρ st.length Q items [] (st ++ [.lst []]) := by
  have hlt := hW.lts
  have hfr := hW.fresh
  refine lc_by (fun pre acc st' => ∃ (ts : List Nat) (ns' : List Nd), acc = ts.map (fun (t : Nat) => D.int (t : Int)) ∧ ts.length = pre.length ∧ Stp W st ns kvs sp st' ns' kvs sp pre.length ∧ (∀ t ∈ ts, t < ns'.length) ∧ rdL st' st.length acc) ⟨[], ns, rfl, rfl, Stp.of_grw hW ((Grw.refl st).app), by simp, rdL_new⟩ (fun pre x post acc st' e ⟨ts, ns', e1, h1, S, h2, ha⟩ N M hN hM => ?_) (fun acc st' ⟨ts, ns', e1, h1, S, h2, ha⟩ => ?_)
  · subst e1
    refine ⟨hg _, ?_⟩
    have e1 : (fun (ρ2 : Pd.Env) (st2 : Store) => tYes ρ2 st2 fun b st3 => (b = true → te ρ2 st3 N) ∧ (b = false → M st3)) = fun ρ2 st2 => te ρ2 st2 N := by
      funext ρ2 st2
      exact propext ⟨fun q => q.1 rfl, fun q => ⟨fun _ => q, fun e => nomatch e⟩⟩
    rw [e1]
    have hlen := congrArg List.length e
    simp at hlen
    refine hs x (by rw [e]; simp) (by omega) S N fun t st2 ns2 S2 ht => ?_
    have ha2 := S2.rd ha hfr
    refine hN _ _ ha2 (by simp [szl]; omega) ⟨ts ++ [t], ns2, by simp, by simp [h1], ?_, fun u hu => ?_, rdL_set ha2⟩
    · have := (S.trans S2).setN (x := .lst (ts.map (fun (t : Nat) => D.int (t : Int)) ++ [.int (t : Int)])) (Nat.le_refl _) hlt
      rw [List.length_append]
      exact this
    · rcases List.mem_append.mp hu with hu | hu
      · obtain ⟨x2, hx2⟩ := S2.ext
        rw [hx2, List.length_append]
        have := h2 u hu
        omega
      · simp at hu
        subst hu
        exact ht
  · subst e1
    exact ⟨hg _, ha, hQ ts st' ns' h1 (S.more hl) h2 ha⟩
theorem asking_ok {d : Nat} {steps many : Int} (hm : 2 * d + 22 ≤ m) (hG : ∀ m', 2 * d + 21 ≤ m' → GrowC m' d) (F : WF W) (hW : WAt st W ns kvs sp looks met) (hl : ns.length + cnt (d + 1) ≤ 400000) (hk : rdL st kc (rs.map rowD)) (hkc : kc ∉ [2, W.wn, W.tn, W.sn, W.pn]) (hf : rdL st fc (fs.map rowD)) (hfc : fc ∉ [2, W.wn, W.tn, W.sn, W.pn]) (hrl : rs.length + (d + 1) ≤ 50) (hfl : fs.length + (d + 1) ≤ 50) (hr : ∀ r ∈ rs, RowOk kvs ns sp r) (hfr : ∀ r ∈ fs, RowOk kvs ns sp r) (h0 : sp ≠ [])
    (r : TR W st ns kvs sp (hgt (d + 1)) (cnt (d + 1)) Q) : callN prog m "_law_asking" [.ref W.wn, .ref kc, .ref fc, .int steps, .int many, .int ((d + 1 : Nat) : Int)] st Q := by
  obtain ⟨m, rfl⟩ : ∃ n, m = n + (2 * d + 22) := ⟨m - (2 * d + 22), by omega⟩
  have hcnt : cnt (d + 1) = 2 * cnt d + 40 := rfl
  have hhg : hgt (d + 1) = hgt d + 2 := by unfold hgt; omega
  have hg1 : 1 ≤ hgt d := by unfold hgt; omega
  rw [hhg, hcnt] at r
  rw [hcnt] at hl
  obtain ⟨n1, n2, n3, n4, n5, n6⟩ := F.ne
  have cp := F.cp
  show callN prog ((m + (2 * d + 21)) + 1) "_law_asking" _ st Q
  refine call_intro rfl rfl ?_
  unfold b_l_asking
  walk_at "s"
  refine vget _ rfl v_part hW.w ?_
  walk_at "z"
  refine vget _ rfl v_spare hW.w ?_
  walk_at "z"
  refine ⟨ty_at hW.p, ?_⟩
  obtain ⟨sp0, s, rfl⟩ : ∃ sp0 s, sp = sp0 ++ [s] := ⟨sp.dropLast, sp.getLast h0, (List.dropLast_concat_getLast h0).symm⟩
  have hp := hW.p
  rw [List.map_append] at hp
  refine pop_at (d := .str s) hp ?_
  have nds := hW.nd
  rw [List.nodup_append] at nds
  have sout : s ∉ sp0 := fun h => nds.2.2 s h s (by simp) rfl
  have k1 : Kp [W.pn] st (st.set W.pn (.lst (sp0.map D.str))) := Kp.refl.set (.inl (by simp))
  have kl0 := hW.kl
  rw [List.length_append, List.length_singleton] at kl0
  have W1 : WAt (st.set W.pn (.lst (sp0.map D.str))) W ns kvs sp0 looks met := ⟨k1.rdD hW.w (by simpa using n3), k1.rdD hW.t (by simpa using n5), ⟨k1.rd hW.s.cell (by simpa using n6), hW.s.sheet, hW.s.nf, hW.s.few⟩, rdL_set hW.p, k1.dr hW.dr (by simp; omega) (by simp; omega), by omega, nds.1, fun x hx => hW.ok x (List.mem_append_left _ hx)⟩
  have S1 : Stp W st ns kvs (sp0 ++ [s]) (st.set W.pn (.lst (sp0.map D.str))) ns kvs sp0 0 := ⟨⟨_, _, W1⟩, ⟨[], by simp⟩, by omega, fun x hx => List.mem_append_left _ hx, fun _ _ => rfl, k1.mono (by simp)⟩
  generalize st.set W.pn (.lst (sp0.map D.str)) = st1 at W1 S1 ⊢
  have oks : okS s = true := hW.ok s (by simp)
  walk_at "z"
  refine setM_at rfl W1.w ?_
  obtain ⟨W2, S2'⟩ := W1.lk F (l := looks) (b := true)
  have S2 := S1.trans S2'
  generalize st1.set W.wn (.dic (wkvs W looks true)) = st2 at W2 S2 ⊢
  walk_at "z"
  refine way (fun e => ?_) (fun e => ?_)
  · walk_at "z"
    exact r (.out (.cut "steps")) _ _ _ _ (S2.more (by omega)) (cut_TOk (by omega) okSteps)
  walk_at "s"
  refine Nxt.mk ?_
  walk_at "s"
  unfold partD
  refine at_is rfl ?_
  walk_at "s"
  refine args_ok W2 (by rw [List.length_map]; have := F.pl; omega) (fun _ => trivial) (fun x hx st3 ns3 c3 hc3 S3 N hN => ?_) fun ts st3 ns3 hts S3 htl hrd => ?_
  · obtain ⟨p, hp, rfl⟩ := List.mem_map.mp hx
    obtain ⟨l3, mt3, W3⟩ := S3.at'
    have pr := F.pr p hp
    walk_at "z"
    refine vget _ rfl v_d W3.w ?_
    walk_at "z"
    refine operand_ok (w := p.2) (by omega) W3.dr ⟨pr.1, pr.2.1⟩ ((S2.trans S3).rd hk hkc) (by omega) fun a st4 ha f4 => ?_
    have W4 := W3.fra F f4
    have S4 := Stp.of_fra F W3 f4
    walk_at "z"
    have few3 := S3.few
    refine atom_ok (w := (p.2 : Int)) (by omega) F W4 (ha.ok (by omega) fun x hx => ((hr x hx).stp (S2.trans (S3.trans S4))).kv) fun ns5 t st5 M5 h5 => ?_
    exact hN t st5 ns5 ((S4.trans (Stp.of_mk F W4 M5 (by omega))).more (by omega)) (hlt h5)
  walk_at "s"
  refine tuple_at hrd ?_
  walk_at "z"
  obtain ⟨l3, mt3, W3⟩ := S3.at'
  have S23 := S2.trans S3
  have hk3 := S23.rd hk hkc
  refine it_at hk3 ?_
  refine lc_filter rs rowD rowD (fun x => decide ((W.many : Int) ≤ (x.num : Int))) rfl (by unfold szl; omega) (fun acc => .inl (rdL_app hk3)) (fun x hx acc N M hN hM => ?_) ?_
  · unfold rowD
    walk_at "z"
    refine vget _ rfl v_many (W3.grw ((Grw.refl st3).app)).w ?_
    walk_at "z"
    exact ⟨fun e => by walk_at "z"; exact hN e, fun e => hM e⟩
  walk_at "s"
  refine len_at rdL_new ?_
  rw [List.length_map]
  have hee : (rs.filter fun x => decide ((W.many : Int) ≤ (x.num : Int))).length ≤ rs.length := List.length_filter_le _ _
  have gA := (Grw.refl st3).app (c := C.lst ((rs.filter fun x => decide ((W.many : Int) ≤ (x.num : Int))).map rowD))
  generalize (rs.filter fun x => decide ((W.many : Int) ≤ (x.num : Int))).length = ee at hee ⊢
  have W4 := W3.grw gA
  have S4 := S23.trans (Stp.of_grw W3 gA)
  generalize st3 ++ [C.lst ((rs.filter fun x => decide ((W.many : Int) ≤ (x.num : Int))).map rowD)] = st4 at gA W4 S4 ⊢
  have hts2 : ts.length ≤ 3 := by rw [hts, List.length_map]; have := F.pl; omega
  walk_at "z"
  -- the look at the external
  have fin : ∀ (Ti : Tr) {st' : Store} {ns' : List Nd} {kvs' : Kvs} {sp' : List Str} {c : Nat} (o11 o12 o13 : Option D), Stp W st ns kvs (sp0 ++ [s]) st' ns' kvs' sp' c → c ≤ cnt d + 20 → TOk ns' (hgt d + 1) Ti → sRet (dTup (aCons (dC (.str "look")) (aCons (dTup (aCons (dOp ixK (dVar 6) (dC (.int 1))) (aCons (dC (.int 0)) (aNil)))) (aCons (dCall (callN prog (m + (2 * d + 21))) "_law_word_term" (aCons (dVar 0) (aCons (dC (.int 1)) (aCons (dC (.int 1)) (aNil))))) (aCons (dVar 10) (aCons (dTup (aCons (dC (.str "shut")) (aCons (dTup (aCons (dC (.str "clash")) (aCons (dVar 4) (aNil)))) (aNil)))) (aNil))))))) { nx := fun x st' => Q D.non st', rt := Q } [some (.ref W.wn), some (.ref kc), some (.ref fc), some (.int steps), some (.int many), some (.int ((d + 1 : Nat) : Int)), some (.tup [.str (Str.ofString "external"), .str W.ext, .tup (W.ps.map fun p => .tup [.str p.1, .int (p.2 : Int)]), .int (W.pw : Int), .int W.stdy, sureD, sureD]), some (.str s), some (.tup (ts.map fun (t : Nat) => .int (t : Int))), some (.int (ee : Int)), some Ti.dat, o11, o12, o13] st' := by
    intro Ti st' ns' kvs' sp' c o11 o12 o13 S hc hT
    obtain ⟨lk', mt', W6⟩ := S.at'
    have few6 := S.few
    walk_at "z"
    refine wterm_ok (v := 1) (w := 1) (by omega) F W6 ⟨by decide, by decide⟩ ⟨by decide, by decide⟩ fun ns7 t7 st7 M7 h7 => ?_
    walk_at "z"
    exact r (.look W.ext 0 t7 Ti (.shut many)) _ _ _ _ ((S.trans (Stp.of_mk F W6 M7 (by omega))).more (by omega)) ⟨F.oe, w11 h7, hT.ext' M7.ext, .inl h7⟩
  have finS : ∀ {st' : Store} (o11 o12 o13 : Option D), Stp W st ns kvs (sp0 ++ [s]) st' ns3 kvs sp0 20 → _ := fun o11 o12 o13 S => fin (.out (.cut "steps")) o11 o12 o13 S (by omega) (cut_TOk (by omega) okSteps)
  refine way (fun e1 => ?_) (fun e1 => ?_)
  · walk_at "z"
    refine ⟨cmul_small (by omega) (by omega), ?_⟩
    walk_at "z"
    refine vget _ rfl v_room W4.w ?_
    walk_at "z"
    refine way (fun e2 => ?_) (fun e2 => ?_)
    · walk_at "y"
      refine Nxt.mk ?_
      exact fin (.out (.cut "bits")) _ _ _ (S4.more (c' := cnt d + 20) (by omega)) (by omega) (cut_TOk (by omega) okBits)
    walk_at "z"
    refine wayT e1 ?_
    walk_at "z"
    refine vget _ rfl v_many W4.w ?_
    walk_at "z"
    have en : ((W.many : Int) + (ee : Int)) = ((W.many + ee : Nat) : Int) := by omega
    rw [en]
    have hmn := F.mn
    have hpw := F.pw
    refine vget _ rfl v_sheet W4.w ?_
    walk_at "z"
    have few3 := S3.few
    refine place_ok (x := .inp (W.pw : Int) (W.many + ee)) (by omega) W4.s ⟨by omega, by omega, by omega⟩ (fun _ _ _ e => nomatch e) fun ns5 j st5 M5 h5 => ?_
    have W5 := W4.mk' F M5 (by omega)
    have S5 := S4.trans (Stp.of_mk F W4 M5 (by omega))
    walk_at "z"
    refine vget _ rfl v_terms W5.w ?_
    walk_at "z"
    refine setS_at W5.t (by have := W5.kl; unfold szl; omega) ?_
    have pl := put_len kvs (.inr s) (.int (j : Int))
    obtain ⟨W6, K6⟩ := W5.tm F (kvs' := putD kvs (.inr s) (.int (j : Int))) (by omega)
    have vs : valD (putD kvs (.inr s) (.int (j : Int))) (.inr s) = some (.int (j : Int)) := by rw [val_put, if_pos rfl]
    have keep : ∀ x, x ∉ sp0 ++ [s] → valD (putD kvs (.inr s) (.int (j : Int))) (.inr x) = valD kvs (.inr x) := fun x hx => by
      rw [val_put, if_neg]
      intro e
      apply hx
      rw [Sum.inr.inj e]
      simp
    generalize putD kvs (.inr s) (.int (j : Int)) = kvs6 at W6 K6 vs keep ⊢
    generalize st5.set W.tn (.dic kvs6) = st6 at W6 K6 ⊢
    have S6 : Stp W st ns kvs (sp0 ++ [s]) st6 ns5 kvs6 sp0 (3 + 1) := ⟨⟨_, _, W6⟩, S5.ext, by have := S5.few; omega, S5.sub, keep, S5.kp.trans K6⟩
    have rok : RowOk kvs6 ns5 sp0 ⟨s, W.pw, W.many + ee⟩ := ⟨⟨j, vs, has_at h5⟩, sout, hpw, oks, by show W.many + ee ≤ 300; omega⟩
    have few6 := S6.few
    have one : ((d + 1 : Nat) : Int) - 1 = (d : Int) := by omega
    walk_at "s"
    refine Nxt.mk ?_
    walk_at "s"
    refine at_is rfl ?_
    walk_at "s"
    have hk6 := S6.rd hk hkc
    have hf6 := S6.rd hf hfc
    refine way (fun e3 => ?g1) (fun e3 => ?g2)
    case' g1 =>
      have f7 : Grw st6 st6 := .refl _
      have h7 : rdL st6 fc (fs.map rowD) := hf6
      have hsc := hfc
      have hfs2 : fs.length ≤ fs.length + 1 := by omega
      have hr2 : ∀ x ∈ fs, RowOk kvs6 ns5 sp0 x := fun x hx => (hfr x hx).stp S6
      walk_at "y"
      refine Nxt.mk ?_
    case' g2 =>
      walk_at "y"
      have g1 := (Grw.refl st6).app (c := C.lst [rowD ⟨s, W.pw, W.many + ee⟩])
      refine add_at (g1.rd hf6) (ys := [rowD ⟨s, W.pw, W.many + ee⟩]) rdL_new (by simp [szl]; omega) ?_
      have W6' := W6.grw g1
      have hsc := W6'.fresh
      have f7 := g1.app (c := C.lst (fs.map rowD ++ [rowD ⟨s, W.pw, W.many + ee⟩]))
      have h7 : rdL (st6 ++ [C.lst [rowD ⟨s, W.pw, W.many + ee⟩]] ++ [C.lst (fs.map rowD ++ [rowD ⟨s, W.pw, W.many + ee⟩])]) (st6 ++ [C.lst [rowD ⟨s, W.pw, W.many + ee⟩]]).length ((fs ++ [(⟨s, W.pw, W.many + ee⟩ : Row)]).map rowD) := by
        rw [List.map_append]
        exact rdL_new
      have hfs2 : (fs ++ [(⟨s, W.pw, W.many + ee⟩ : Row)]).length ≤ fs.length + 1 := by simp
      have hr2 : ∀ x ∈ fs ++ [(⟨s, W.pw, W.many + ee⟩ : Row)], RowOk kvs6 ns5 sp0 x := fun x hx => by
        rcases List.mem_append.mp hx with hx | hx
        · exact (hfr x hx).stp S6
        · simp at hx
          subst hx
          exact rok
      walk_at "y"
      refine Nxt.mk ?_
    all_goals
      walk_at "z"
      first | refine wayT e3 ?_ | refine wayF e3 ?_
      walk_at "z"
      have f8 := f7.app (c := C.lst [rowD ⟨s, W.pw, W.many + ee⟩])
      have h8 := (Grw.refl _).app (c := C.lst [rowD ⟨s, W.pw, W.many + ee⟩]) |>.rd h7
      refine add_at (f8.rd hk6) (ys := [rowD ⟨s, W.pw, W.many + ee⟩]) rdL_new (by simp [szl]; omega) ?_
      have W8 := W6.grw f8
      have hknc := W8.fresh
      have f9 := f8.app (c := C.lst (rs.map rowD ++ [rowD ⟨s, W.pw, W.many + ee⟩]))
      have h9 := (Grw.refl _).app (c := C.lst (rs.map rowD ++ [rowD ⟨s, W.pw, W.many + ee⟩])) |>.rd h8
      have W9 := W6.grw f9
      have S9 := S6.trans (Stp.of_grw W6 f9)
      walk_at "z"
      rw [one]
      refine hG _ (by omega) (rs := rs ++ [(⟨s, W.pw, W.many + ee⟩ : Row)]) F W9 (by omega) (by rw [List.map_append]; exact rdL_new) hknc h9 hsc (by simp; omega) (by omega) (fun x hx => by
        rcases List.mem_append.mp hx with hx | hx
        · exact (hr x hx).stp S6
        · simp at hx
          subst hx
          exact rok) hr2 fun Tg st10 ns10 kvs10 sp10 S10 hTg => ?_
      walk_at "y"
      refine Nxt.mk ?_
      refine fin (.ask W.ext ts Tg) _ _ _ (S9.trans S10) (by omega) ⟨F.oe, hts2, fun t ht => ?_, hTg⟩
      have q1 := htl t ht
      have q2 := M5.le
      obtain ⟨x10, hx10⟩ := S10.ext
      have q3 := congrArg List.length hx10
      rw [List.length_append] at q3
      omega
  · walk_at "z"
    refine wayF e1 ?_
    walk_at "s"
    refine Nxt.mk ?_
    exact finS _ _ _ (S4.more (by omega))
end
end Pk45
end PartPdk45P17

section PartPdk45P18
set_option Elab.async false
set_option linter.all false
set_option maxRecDepth 100000
set_option maxHeartbeats 1000000
namespace Pk45
open PySem Pd
local macro_rules | `(tactic| walk_at "t") => `(tactic| (repeat (first | refine Red.red ?_ | refine Nxt.mk ?_ | refine ⟨by decide +kernel, by decide +kernel, wayF (by decide +kernel) ?_⟩ | refine ⟨by decide +kernel, by decide +kernel, wayT (by decide +kernel) ?_⟩ | refine ⟨by decide +kernel, ?_⟩ | refine ⟨Nat.le_of_ble_eq_true rfl, ?_⟩ | refine at_is rfl ?_)))
local instance notinTup18_45 {x : D} {xs : List D} {st : Store} {r : Bool → Prop} : Red (notinC x (.tup xs) st r) (x.flat = true ∧ xs.all D.flat = true ∧ r (!(xs.any fun y => D.eqb y x))) := ⟨id⟩
local macro_rules | `(tactic| walk_at "s") => `(tactic| (repeat (refine Red.red ?_)))
local macro_rules | `(tactic| walk_at "r") => `(tactic| (repeat (first | refine Red.red ?_ | refine Nxt.mk ?_)))
local macro_rules | `(tactic| walk_at "v") => `(tactic| (repeat (first | refine Red.red ?_ | refine Nxt.mk ?_ | refine ⟨Nat.le_of_ble_eq_true rfl, ?_⟩ | refine at_is rfl ?_)))
local macro_rules | `(tactic| walk_at "w") => `(tactic| (repeat (first | refine Red.red ?_ | refine Nxt.mk ?_ | refine wayF rfl ?_ | refine wayT rfl ?_ | refine ⟨Nat.le_of_ble_eq_true rfl, ?_⟩ | refine at_is rfl ?_)))
local macro_rules | `(tactic| walk_at "u") => `(tactic| (repeat (first | refine Red.red ?_ | refine Nxt.mk ?_ | refine ⟨Nat.le_of_ble_eq_true rfl, ?_⟩ | refine at_is rfl ?_ | refine ⟨by decide +kernel, by decide +kernel, wayF (by decide +kernel) ?_⟩ | refine ⟨by decide +kernel, by decide +kernel, wayT (by decide +kernel) ?_⟩ | refine ⟨by decide +kernel, by decide +kernel, ?_⟩ | refine wayF (by decide +kernel) ?_ | refine wayT (by decide +kernel) ?_)))
local instance inNewB18_45 {x : D} {xs : List D} {st : Store} {r : Bool → Prop} : Red (inC x (.ref st.length) (st ++ [.lst xs]) r) (x.flat = true ∧ xs.all D.flat = true ∧ r (xs.any fun y => D.eqb y x)) := ⟨fun h => ⟨xs, .inl (by simp [rdL]), h⟩⟩
local instance inTupN18_45 {x : D} {xs : List D} {st : Store} {r : Bool → Prop} : Red (inC x (.tup xs) st r) (x.flat = true ∧ xs.all D.flat = true ∧ r (xs.any fun y => D.eqb y x)) := ⟨id⟩
local macro_rules | `(tactic| walk_at "z") => `(tactic| (repeat (first | refine Red.red ?_ | refine Nxt.mk ?_ | refine ⟨by decide +kernel, by decide +kernel, wayF (by decide +kernel) ?_⟩ | refine ⟨by decide +kernel, by decide +kernel, wayT (by decide +kernel) ?_⟩ | refine ⟨by decide +kernel, ?_⟩ | refine ⟨Nat.le_of_ble_eq_true rfl, ?_⟩ | refine wayF rfl ?_ | refine wayT rfl ?_ | refine at_is rfl ?_)))
local macro_rules | `(tactic| walk_at "y") => `(tactic| (repeat (first | refine Red.red ?_ | refine ⟨by decide +kernel, by decide +kernel, wayF (by decide +kernel) ?_⟩ | refine ⟨by decide +kernel, by decide +kernel, wayT (by decide +kernel) ?_⟩ | refine ⟨by decide +kernel, ?_⟩ | refine ⟨Nat.le_of_ble_eq_true rfl, ?_⟩ | refine wayF rfl ?_ | refine wayT rfl ?_ | refine at_is rfl ?_)))
/-! k45, text 18. Own work. -/
def gRest (c : Cl) : TS := sSeq (sIf (tAnd (tTru (dCmp ltC (dVar 6) (dC (.int 5)))) (tTru (dVar 2))) (sRet (dCall c "_law_branch" (aCons (dVar 0) (aCons (dVar 1) (aCons (dVar 2) (aCons (dVar 3) (aCons (dVar 4) (aCons (dVar 5) (aCons (dCmp eqC (dVar 6) (dC (.int 4))) (aNil)))))))))) (sNext)) (sSeq (sAsg (dLc (iSeq (dVar 1)) (gName 8) (tYes) (dLc (iSeq (dVar 1)) (gName 9) (tAnd (tTru (dCmp eqC (dOp ixK (dVar 9) (dC (.int 1))) (dOp ixK (dVar 8) (dC (.int 1))))) (tTru (dCmp neC (dVar 9) (dVar 8)))) (dTup (aCons (dVar 8) (aCons (dVar 9) (aNil)))) [9]) [8]) (gName 7)) (sSeq (sAsg (dLc (iSeq (dVar 7)) (gName 10) (tTru (dVar 10)) (dVar 10) [10]) (gName 7)) (sSeq (sIf (tAnd (tTru (dCmp ltC (dVar 6) (dC (.int 7)))) (tTru (dVar 7))) (sRet (dCall c "_law_spin" (aCons (dVar 0) (aCons (dVar 1) (aCons (dVar 3) (aCons (dVar 4) (aCons (dCall c "_law_pick" (aCons (dGetA (dVar 0) (dC (.str "d"))) (aCons (dCall c "_law_pick" (aCons (dGetA (dVar 0) (dC (.str "d"))) (aCons (dVar 7) (aNil)))) (aNil)))) (aNil)))))))) (sNext)) (sSeq (sIf (tAnd (tTru (dCmp ltC (dVar 6) (dC (.int 9)))) (tTru (dGetA (dVar 0) (dC (.str "spare"))))) (sRet (dCall c "_law_asking" (aCons (dVar 0) (aCons (dVar 1) (aCons (dVar 2) (aCons (dVar 3) (aCons (dVar 4) (aCons (dVar 5) (aNil))))))))) (sNext)) (sRet (dCall c "_law_end" (aCons (dVar 0) (aCons (dVar 1) (aNil)))))))))
theorem lc_cellsI {gd : Store → Prop} {g : TG} {te : TE} {ρ : Pd.Env} {st : Store} {Q : K} {items : List D} (P : D → List D → Prop) (hd : DrawAt st) (hl : items.length ≤ szl) (hg : ∀ st', Fra st st' → gd st')
    (hs : ∀ x ∈ items, ∀ st', Fra st st' → ∀ N : D → Store → Prop, (∀ r xs st2, st'.length ≤ r → rdL st2 r xs → P x xs → Fra st' st2 → N (.ref r) st2) → g x ρ st' fun ρ2 st2 => te ρ2 st2 N)
    (hQ : ∀ (rs : List Nat) st', rs.length = items.length → (∀ (i r : Nat) x, rs[i]? = some r → items[i]? = some x → st.length < r ∧ ∃ xs, rdL st' r xs ∧ P x xs) → Fra st st' → rdL st' st.length (rs.map D.ref) → Q (.ref st.length) st') : lcLoop gd g tYes te ρ st.length Q items [] (st ++ [.lst []]) := by
  have h2 := hd.lt
  refine lc_by (fun pre acc st' => ∃ rs : List Nat, acc = rs.map D.ref ∧ rs.length = pre.length ∧ (∀ (i r : Nat) x, rs[i]? = some r → pre[i]? = some x → st.length < r ∧ ∃ xs, rdL st' r xs ∧ P x xs) ∧ Fra st st' ∧ rdL st' st.length acc) ⟨[], rfl, rfl, by simp, (Fra.refl hd).app, rdL_new⟩ (fun pre x post acc st' e ⟨rs, h1, h3, h4, h5, h6⟩ N M hN hM => ?_) (fun acc st' ⟨rs, h1, h3, h4, h5, h6⟩ => ?_)
  · subst h1
    refine ⟨hg _ h5, ?_⟩
    have e1 : (fun (ρ2 : Pd.Env) (st2 : Store) => tYes ρ2 st2 fun b st3 => (b = true → te ρ2 st3 N) ∧ (b = false → M st3)) = fun ρ2 st2 => te ρ2 st2 N := by
      funext ρ2 st2
      exact propext ⟨fun q => q.1 rfl, fun q => ⟨fun _ => q, fun e => nomatch e⟩⟩
    rw [e1]
    have hlen := congrArg List.length e
    simp at hlen
    refine hs x (by rw [e]; simp) st' h5 N fun r xs st2 hb hr hp f => ?_
    have h7 := f.rd h6 (by omega)
    have h8 := rdL_lt h6
    refine hN _ _ h7 (by simp; omega) ⟨rs ++ [r], by simp, by simp [h3], ?_, (h5.trans f).set (Nat.le_refl _) (by omega), rdL_set h7⟩
    intro i r' y hi hy
    by_cases hij : i < rs.length
    · rw [List.getElem?_append_left hij] at hi
      rw [List.getElem?_append_left (by omega)] at hy
      obtain ⟨q1, ys, q2, q3⟩ := h4 i r' y hi hy
      exact ⟨q1, ys, rdL_ne (f.rd q2 (by omega)) (by omega), q3⟩
    · rw [List.getElem?_append_right (by omega)] at hi
      have hi0 : i = rs.length := by
        have := (List.getElem?_eq_some_iff.mp hi).1
        simp at this
        omega
      rw [hi0, Nat.sub_self] at hi
      cases hi
      rw [List.getElem?_append_right (by omega), hi0, h3, Nat.sub_self] at hy
      cases hy
      exact ⟨by omega, xs, rdL_ne hr (by omega), hp⟩
  · subst h1
    exact ⟨hg _ h5, h6, hQ rs st' h3 h4 h5 h6⟩
section
variable {W : Wc} {ns ns' ns2 : List Nd} {kvs kvs' kvs2 : Kvs} {sp sp' sp2 : List Str} {looks : Int} {met : Bool} {st st' st2 : Store} {Q : K} {m c c' : Nat} {rs fs : List Row} {kc fc : Nat}
theorem list_of {α β : Type} {P : α → β → Prop} : ∀ (cs : List α), (∀ r ∈ cs, ∃ x, P r x) → ∃ ps : List (α × β), cs = ps.map (·.1) ∧ ∀ p ∈ ps, P p.1 p.2
  | [], _ => ⟨[], rfl, by simp⟩
  | a :: cs, h => by
    obtain ⟨ps, h1, h2⟩ := list_of cs fun r hr => h r (List.mem_cons_of_mem _ hr)
    obtain ⟨x, hx⟩ := h a (by simp)
    refine ⟨(a, x) :: ps, by rw [List.map_cons, ← h1], fun p hp => ?_⟩
    rcases List.mem_cons.mp hp with rfl | hp
    · exact hx
    · exact h2 p hp
/-- pairs of rows of one width -/
def Prs (rs : List Row) (xs : List D) : Prop := xs.length ≤ 100 ∧ ∀ y ∈ xs, ∃ r1 ∈ rs, ∃ r2 ∈ rs, r1.w = r2.w ∧ y = .tup [rowD r1, rowD r2]
theorem gRest_ok {d : Nat} {z steps many : Int} (hm : 2 * d + 20 ≤ m) (hG : ∀ d', d = d' + 1 → ∀ m', 2 * d' + 21 ≤ m' → GrowC m' d') (hz : z < 9 → 1 ≤ d) (F : WF W) (hW : WAt st W ns kvs sp looks met) (hl : ns.length + cnt d ≤ 400000) (hk : rdL st kc (rs.map rowD)) (hkc : kc ∉ [2, W.wn, W.tn, W.sn, W.pn]) (hf : rdL st fc (fs.map rowD)) (hfc : fc ∉ [2, W.wn, W.tn, W.sn, W.pn]) (hrl : rs.length + d ≤ 50) (hfl : fs.length + d ≤ 50) (hr : ∀ r ∈ rs, RowOk kvs ns sp r) (hfr : ∀ r ∈ fs, RowOk kvs ns sp r)
    (r : TR W st ns kvs sp (hgt d) (cnt d) Q) : gRest (callN prog m) { nx := fun x st' => Q D.non st', rt := Q } [some (.ref W.wn), some (.ref kc), some (.ref fc), some (.int steps), some (.int many), some (.int (d : Int)), some (.int z), none, none, none, none] st := by
  have hh6 : 6 ≤ hgt d := by unfold hgt; omega
  have hc8 : 8 ≤ cnt d := by cases d <;> simp [cnt] <;> omega
  unfold gRest
  -- the pairs and what is behind them
  have rest : sSeq (sAsg (dLc (iSeq (dVar 1)) (gName 8) (tYes) (dLc (iSeq (dVar 1)) (gName 9) (tAnd (tTru (dCmp eqC (dOp ixK (dVar 9) (dC (.int 1))) (dOp ixK (dVar 8) (dC (.int 1))))) (tTru (dCmp neC (dVar 9) (dVar 8)))) (dTup (aCons (dVar 8) (aCons (dVar 9) (aNil)))) [9]) [8]) (gName 7)) (sSeq (sAsg (dLc (iSeq (dVar 7)) (gName 10) (tTru (dVar 10)) (dVar 10) [10]) (gName 7)) (sSeq (sIf (tAnd (tTru (dCmp ltC (dVar 6) (dC (.int 7)))) (tTru (dVar 7))) (sRet (dCall (callN prog m) "_law_spin" (aCons (dVar 0) (aCons (dVar 1) (aCons (dVar 3) (aCons (dVar 4) (aCons (dCall (callN prog m) "_law_pick" (aCons (dGetA (dVar 0) (dC (.str "d"))) (aCons (dCall (callN prog m) "_law_pick" (aCons (dGetA (dVar 0) (dC (.str "d"))) (aCons (dVar 7) (aNil)))) (aNil)))) (aNil)))))))) (sNext)) (sSeq (sIf (tAnd (tTru (dCmp ltC (dVar 6) (dC (.int 9)))) (tTru (dGetA (dVar 0) (dC (.str "spare"))))) (sRet (dCall (callN prog m) "_law_asking" (aCons (dVar 0) (aCons (dVar 1) (aCons (dVar 2) (aCons (dVar 3) (aCons (dVar 4) (aCons (dVar 5) (aNil))))))))) (sNext)) (sRet (dCall (callN prog m) "_law_end" (aCons (dVar 0) (aCons (dVar 1) (aNil)))))))) { nx := fun x st' => Q D.non st', rt := Q } [some (.ref W.wn), some (.ref kc), some (.ref fc), some (.int steps), some (.int many), some (.int (d : Int)), some (.int z), none, none, none, none] st := by
    walk_at "s"
    refine it_at hk ?_
    refine lc_cellsI (fun x xs => Prs rs xs) hW.dr (by rw [List.length_map]; unfold szl; omega) (fun st' f => .inl (f.rd hk (by simp at hkc; exact hkc.1))) (fun x hx st1 f1 N hN => ?_) fun cs st1 hcl hcs f1 hrd => ?_
    · obtain ⟨r1, hr1, rfl⟩ := List.mem_map.mp hx
      have hk1 := f1.rd hk (by simp at hkc; exact hkc.1)
      walk_at "s"
      refine it_at hk1 ?_
      refine lc_filter rs rowD (fun y => .tup [rowD r1, rowD y]) (fun y => decide ((y.w : Int) = (r1.w : Int)) && !(D.eqb (rowD y) (rowD r1))) rfl (by unfold szl; omega) (fun acc => .inl (rdL_app hk1)) (fun y hy acc N2 M2 hN2 hM2 => ?_) ?_
      · walk_at "z"
        refine ⟨fun e => ?_, fun e => ?_⟩
        · walk_at "s"
          refine ⟨row_okd (hr y hy).ok, row_okd (hr r1 hr1).ok, ?_⟩
          walk_at "s"
          exact ⟨fun e2 => by walk_at "z"; exact hN2 (by rw [e, e2]; rfl), fun e2 => hM2 (by rw [e, e2]; rfl)⟩
        · walk_at "s"
          first | exact hM2 (by rw [e]; rfl) | exact wayF rfl (hM2 (by rw [e]; rfl))
      · refine hN _ _ _ (Nat.le_refl _) rdL_new ⟨?_, fun y hy => ?_⟩ ((Fra.refl f1.dr).app)
        · rw [List.length_map]
          have := List.length_filter_le (fun y => decide ((y.w : Int) = (r1.w : Int)) && !(D.eqb (rowD y) (rowD r1))) rs
          omega
        · obtain ⟨y2, hy2, rfl⟩ := List.mem_map.mp hy
          rw [List.mem_filter, Bool.and_eq_true] at hy2
          refine ⟨r1, hr1, y2, hy2.1, ?_, rfl⟩
          have := of_decide_eq_true hy2.2.1
          omega
    · obtain ⟨ps, hps, hpl⟩ : ∃ ps : List (Nat × List D), cs = ps.map (·.1) ∧ ∀ p ∈ ps, st.length < p.1 ∧ rdL st1 p.1 p.2 ∧ Prs rs p.2 := by
        refine list_of (P := fun r xs => st.length < r ∧ rdL st1 r xs ∧ Prs rs xs) cs fun r hr0 => ?_
        obtain ⟨i, hi, e⟩ := List.getElem_of_mem hr0
        have hcl' : cs.length = (rs.map rowD).length := hcl
        obtain ⟨x, hx⟩ : ∃ x, (rs.map rowD)[i]? = some x := ⟨_, List.getElem?_eq_getElem (by omega)⟩
        obtain ⟨q1, xs, q2, q3⟩ := hcs i r x (by rw [List.getElem?_eq_getElem hi, e]) hx
        exact ⟨xs, q1, q2, q3⟩
      subst hps
      rw [List.map_map] at hrd
      walk_at "z"
      refine it_at hrd ?_
      refine lc_filter ps (fun p => .ref p.1) (fun p => .ref p.1) (fun p => !p.2.isEmpty) rfl (by rw [List.length_map, List.length_map] at hcl; unfold szl; omega) (fun acc => .inl (rdL_app hrd)) (fun p hp acc N M hN hM => ?_) ?_
      · have hp2 := (hpl p hp).2.1
        walk_at "s"
        refine tru_ref (rdL_app hp2) ?_
        exact ⟨fun e => by walk_at "z"; exact hN e, fun e => hM e⟩
      walk_at "z"
      have hql : ∀ p ∈ ps.filter (fun p => !p.2.isEmpty), st.length < p.1 ∧ rdL st1 p.1 p.2 ∧ Prs rs p.2 ∧ p.2 ≠ [] := fun p hp => by
        rw [List.mem_filter] at hp
        obtain ⟨q1, q2, q3⟩ := hpl p hp.1
        refine ⟨q1, q2, q3, fun e => ?_⟩
        have := hp.2
        rw [e] at this
        cases this
      have hqn : (ps.filter (fun p => !p.2.isEmpty)).length ≤ 50 := by
        have q1 := List.length_filter_le (fun p : Nat × List D => !p.2.isEmpty) ps
        have q2 : (ps.map (·.1)).length = (rs.map rowD).length := hcl
        rw [List.length_map, List.length_map] at q2
        omega
      generalize (ps.filter (fun p => !p.2.isEmpty)) = qs at hql hqn ⊢
      have f2 := f1.app (c := C.lst (qs.map fun p => D.ref p.1))
      have h2 := rdL_new (st := st1) (xs := qs.map fun p => D.ref p.1)
      have hq2 : ∀ p ∈ qs, st.length < p.1 ∧ rdL (st1 ++ [C.lst (qs.map fun p => D.ref p.1)]) p.1 p.2 ∧ Prs rs p.2 ∧ p.2 ≠ [] := fun p hp => by
        obtain ⟨q1, q2, q3⟩ := hql p hp
        exact ⟨q1, rdL_app q2, q3⟩
      have dl := hW.dr.lt
      have l1 := f1.le
      have hn2 : st1.length ≠ 2 := by omega
      generalize st1 ++ [C.lst (qs.map fun p => D.ref p.1)] = st2 at f2 h2 hq2 ⊢
      generalize st1.length = qn at h2 hn2 ⊢
      have W2 := hW.fra F f2
      have S2 := Stp.of_fra F hW f2
      refine way (fun e7 => ?g1) (fun e7 => ?g2)
      case' g1 =>
        walk_at "s"
        refine tru_ref h2 ?_
        refine way (fun e8 => ?h1) (fun e8 => ?h2)
        case h1 =>
          have hqs : 0 < qs.length := by
            cases qs with
            | nil => cases e8
            | cons a l => simp
          walk_at "z"
          refine vget _ rfl v_d W2.w ?_
          walk_at "z"
          refine vget _ rfl v_d W2.w ?_
          walk_at "z"
          refine pickF (f := fun p : Nat × List D => D.ref p.1) (by omega) W2.dr h2 hn2 hqs (by omega) fun p st3 hp f3 => ?_
          obtain ⟨p1, p2, p3, p4⟩ := hq2 p hp
          have hp3 := f3.rd p2 (by omega)
          walk_at "z"
          refine pickF (f := id) (by omega) f3.dr (by rw [List.map_id]; exact hp3) (by omega) (List.length_pos_iff.mpr p4) (by have := p3.1; omega) fun y st4 hy f4 => ?_
          obtain ⟨r1, hr1, r2, hr2, hw, rfl⟩ := p3.2 y hy
          have W3 := W2.fra F f3
          have W4 := W3.fra F f4
          have S4 := (S2.trans (Stp.of_fra F W2 f3)).trans (Stp.of_fra F W3 f4)
          walk_at "z"
          have hd1 : 1 ≤ d := hz (by have := of_decide_eq_true e7; omega)
          obtain ⟨d', rfl⟩ : ∃ n, d = n + 1 := ⟨d - 1, by omega⟩
          have hc40 : 40 ≤ cnt (d' + 1) := by simp [cnt]
          refine spin_ok (by omega) F W4 (by omega) (S4.rd hk hkc) hkc (by omega) hr (hr r1 hr1) (hr r2 hr2) hw (TR.less (TR.from (c := 0) (c' := cnt (d' + 1)) (by rw [Nat.zero_add]; exact r) (S4.more (by omega))) hh6 hc40)
        walk_at "y"
        refine Nxt.mk ?_
      case' g2 =>
        walk_at "y"
        refine Nxt.mk ?_
      all_goals
        have hk2 := S2.rd hk hkc
        have hf2 := S2.rd hf hfc
        have r2 : TR W st2 ns kvs sp (hgt d) (cnt d) Q := TR.from (c := 0) (c' := cnt d) (by rw [Nat.zero_add]; exact r) S2
        walk_at "s"
        refine way (fun e9 => ?_) (fun e9 => ?_)
        · walk_at "s"
          refine vget _ rfl v_spare W2.w ?_
          walk_at "s"
          refine tru_ref W2.p ?_
          refine way (fun e8 => ?_) (fun e8 => ?_)
          · have hsp : sp ≠ [] := by
              intro e
              rw [e] at e8
              cases e8
            walk_at "z"
            have hd1 : 1 ≤ d := hz (of_decide_eq_true e9)
            obtain ⟨d', rfl⟩ : ∃ n, d = n + 1 := ⟨d - 1, by omega⟩
            exact asking_ok (by omega) (hG d' rfl) F W2 hl hk2 hkc hf2 hfc hrl hfl hr hfr hsp r2
          · walk_at "z"
            exact end_ok (by omega) F W2 (by omega) hk2 hkc (by omega) hr (by omega) (TR.less r2 (Nat.le_refl _) hc8)
        · walk_at "z"
          exact end_ok (by omega) F W2 (by omega) hk2 hkc (by omega) hr (by omega) (TR.less r2 (Nat.le_refl _) hc8)
  walk_at "s"
  refine way (fun e5 => ?u1) (fun e5 => ?u2)
  case' u1 =>
    walk_at "s"
    refine tru_ref hf ?_
    refine way (fun e8 => ?x1) (fun e8 => ?x2)
    case x1 =>
      have hfs : 0 < fs.length := by
        cases fs with
        | nil => cases e8
        | cons a l => simp
      walk_at "z"
      have hd1 : 1 ≤ d := hz (by have := of_decide_eq_true e5; omega)
      obtain ⟨d', rfl⟩ : ∃ n, d = n + 1 := ⟨d - 1, by omega⟩
      exact branch_ok (by omega) (hG d' rfl) F hW hl hk hkc hf hfc (by omega) (by omega) hr hfr hfs r
    walk_at "y"
    refine Nxt.mk ?_
  case' u2 =>
    walk_at "y"
    refine Nxt.mk ?_
  all_goals exact rest
theorem grow_ok : ∀ (d m : Nat), 2 * d + 21 ≤ m → GrowC m d := by
  intro d
  induction d with
  | zero =>
    intro m hm W st ns kvs sp looks met Q rs fs kc fc steps many F hW hl hk hkc hf hfc hrl hfl hr hfr r
    obtain ⟨m, rfl⟩ : ∃ n, m = n + 1 := ⟨m - 1, by omega⟩
    refine call_intro rfl rfl ?_
    unfold b_l_grow
    walk_at "s"
    refine wayF (by decide) ?_
    walk_at "y"
    refine Nxt.mk ?_
    exact gRest_ok (d := 0) (z := 9) (by omega) (fun d' e => by omega) (fun h => by omega) F hW hl hk hkc hf hfc hrl hfl hr hfr r
  | succ d ih =>
    intro m hm W st ns kvs sp looks met Q rs fs kc fc steps many F hW hl hk hkc hf hfc hrl hfl hr hfr r
    obtain ⟨m, rfl⟩ : ∃ n, m = n + 1 := ⟨m - 1, by omega⟩
    refine call_intro rfl rfl ?_
    unfold b_l_grow
    walk_at "s"
    refine wayT (by simp; omega) ?_
    walk_at "s"
    refine vget _ rfl v_d hW.w ?_
    walk_at "s"
    refine drawM (by omega) hW.dr (by decide) (by decide) fun z st1 z0 z1 f1 => ?_
    walk_at "y"
    refine Nxt.mk ?_
    have S1 := Stp.of_fra F hW f1
    exact gRest_ok (d := d + 1) (by omega) (fun d' e m' hm' => by cases e; exact ih m' hm') (fun _ => by omega) F (hW.fra F f1) hl (S1.rd hk hkc) hkc (S1.rd hf hfc) hfc hrl hfl hr hfr (TR.from (c := 0) (c' := cnt (d + 1)) (by rw [Nat.zero_add]; exact r) S1)
end
end Pk45
end PartPdk45P18

section PartPdk45P19
set_option Elab.async false
set_option linter.all false
set_option maxRecDepth 100000
set_option maxHeartbeats 1000000
namespace Pk45
open PySem Pd
local macro_rules | `(tactic| walk_at "t") => `(tactic| (repeat (first | refine Red.red ?_ | refine Nxt.mk ?_ | refine ⟨by decide +kernel, by decide +kernel, wayF (by decide +kernel) ?_⟩ | refine ⟨by decide +kernel, by decide +kernel, wayT (by decide +kernel) ?_⟩ | refine ⟨by decide +kernel, ?_⟩ | refine ⟨Nat.le_of_ble_eq_true rfl, ?_⟩ | refine at_is rfl ?_)))
local instance notinTup19_45 {x : D} {xs : List D} {st : Store} {r : Bool → Prop} : Red (notinC x (.tup xs) st r) (x.flat = true ∧ xs.all D.flat = true ∧ r (!(xs.any fun y => D.eqb y x))) := ⟨id⟩
local macro_rules | `(tactic| walk_at "s") => `(tactic| (repeat (refine Red.red ?_)))
local macro_rules | `(tactic| walk_at "r") => `(tactic| (repeat (first | refine Red.red ?_ | refine Nxt.mk ?_)))
local macro_rules | `(tactic| walk_at "v") => `(tactic| (repeat (first | refine Red.red ?_ | refine Nxt.mk ?_ | refine ⟨Nat.le_of_ble_eq_true rfl, ?_⟩ | refine at_is rfl ?_)))
local macro_rules | `(tactic| walk_at "w") => `(tactic| (repeat (first | refine Red.red ?_ | refine Nxt.mk ?_ | refine wayF rfl ?_ | refine wayT rfl ?_ | refine ⟨Nat.le_of_ble_eq_true rfl, ?_⟩ | refine at_is rfl ?_)))
local macro_rules | `(tactic| walk_at "u") => `(tactic| (repeat (first | refine Red.red ?_ | refine Nxt.mk ?_ | refine ⟨Nat.le_of_ble_eq_true rfl, ?_⟩ | refine at_is rfl ?_ | refine ⟨by decide +kernel, by decide +kernel, wayF (by decide +kernel) ?_⟩ | refine ⟨by decide +kernel, by decide +kernel, wayT (by decide +kernel) ?_⟩ | refine ⟨by decide +kernel, by decide +kernel, ?_⟩ | refine wayF (by decide +kernel) ?_ | refine wayT (by decide +kernel) ?_)))
local instance inNewB19_45 {x : D} {xs : List D} {st : Store} {r : Bool → Prop} : Red (inC x (.ref st.length) (st ++ [.lst xs]) r) (x.flat = true ∧ xs.all D.flat = true ∧ r (xs.any fun y => D.eqb y x)) := ⟨fun h => ⟨xs, .inl (by simp [rdL]), h⟩⟩
local instance inTupN19_45 {x : D} {xs : List D} {st : Store} {r : Bool → Prop} : Red (inC x (.tup xs) st r) (x.flat = true ∧ xs.all D.flat = true ∧ r (xs.any fun y => D.eqb y x)) := ⟨id⟩
local macro_rules | `(tactic| walk_at "z") => `(tactic| (repeat (first | refine Red.red ?_ | refine Nxt.mk ?_ | refine ⟨by decide +kernel, by decide +kernel, wayF (by decide +kernel) ?_⟩ | refine ⟨by decide +kernel, by decide +kernel, wayT (by decide +kernel) ?_⟩ | refine ⟨by decide +kernel, ?_⟩ | refine ⟨Nat.le_of_ble_eq_true rfl, ?_⟩ | refine wayF rfl ?_ | refine wayT rfl ?_ | refine at_is rfl ?_)))
local macro_rules | `(tactic| walk_at "y") => `(tactic| (repeat (first | refine Red.red ?_ | refine ⟨by decide +kernel, by decide +kernel, wayF (by decide +kernel) ?_⟩ | refine ⟨by decide +kernel, by decide +kernel, wayT (by decide +kernel) ?_⟩ | refine ⟨by decide +kernel, ?_⟩ | refine ⟨Nat.le_of_ble_eq_true rfl, ?_⟩ | refine wayF rfl ?_ | refine wayT rfl ?_ | refine at_is rfl ?_)))
/-! k45, text 19. Own work. -/
section
variable {k m n : Nat} {st st' : Store} {Q : K} {pn : Nat} {pl : List Str}
theorem rng_at {n i : Nat} {x : D} (h : (rng 0 n)[i]? = some x) : x = .int (i : Int) := by
  unfold rng at h
  rw [List.getElem?_map] at h
  by_cases hi : i < n
  · rw [List.getElem?_range hi] at h
    cases h
    show D.int (0 + (i : Int)) = _
    rw [Int.zero_add]
  · rw [List.getElem?_eq_none (by simp; omega)] at h
    cases h
theorem rng_len {n : Nat} {a : Int} : (rng a n).length = n := by simp [rng]
/-- names from the pool, each with a width -/
theorem lc_popw {gd : Store → Prop} {g : TG} {te : TE} {ρ : Pd.Env} {items : List D} (F : Row → D) (hd : DrawAt st) (hp : PoolIs st pn pl) (hl : items.length ≤ pl.length) (hg : ∀ st', gd st')
    (hs : ∀ (i : Nat) x, items[i]? = some x → ∀ st' pl', DrawAt st' → PoolIs st' pn pl' → 0 < pl'.length → ∀ N : D → Store → Prop, (∀ s (w : Nat) st2 pl2, PoolIs st2 pn pl2 → pl'.length = pl2.length + 1 → s ∉ pl2 → s ∈ pl' → (∀ y ∈ pl2, y ∈ pl') → 1 ≤ w → w ≤ 2 → FraE pn st' st2 → N (F ⟨s, w, i⟩) st2) → g x ρ st' fun ρ2 st2 => te ρ2 st2 N)
    (hQ : ∀ (rs : List Row) st' pl', rs.length = items.length → (∀ r ∈ rs, 1 ≤ r.w ∧ r.w ≤ 2 ∧ r.num < items.length) → Got pl (rs.map (·.name)) pl' → PoolIs st' pn pl' → FraE pn st st' → rdL st' st.length (rs.map F) → Q (.ref st.length) st') : lcLoop gd g tYes te ρ st.length Q items [] (st ++ [.lst []]) := by
  have dl := hd.lt
  have big := hp.big
  have few := hp.few
  have pb := rdL_lt hp.cell
  refine lc_by (fun pre acc st' => ∃ (rs : List Row) (pl' : List Str), acc = rs.map F ∧ rs.length = pre.length ∧ (∀ r ∈ rs, 1 ≤ r.w ∧ r.w ≤ 2 ∧ r.num < items.length) ∧ Got pl (rs.map (·.name)) pl' ∧ PoolIs st' pn pl' ∧ FraE pn st st' ∧ rdL st' st.length acc) ⟨[], pl, rfl, rfl, by simp, Got.nil, hp.fra (Fra.refl hd).app, FraE.of (Fra.refl hd).app, rdL_new⟩ (fun pre x post acc st' e ⟨rs, pl', e1, h1, hw, h2, h3, f, ha⟩ N M hN hM => ?_) (fun acc st' ⟨rs, pl', e1, h1, hw, h2, h3, f, ha⟩ => ?_)
  · subst e1
    refine ⟨hg _, ?_⟩
    have e1 : (fun (ρ2 : Pd.Env) (st2 : Store) => tYes ρ2 st2 fun b st3 => (b = true → te ρ2 st3 N) ∧ (b = false → M st3)) = fun ρ2 st2 => te ρ2 st2 N := by
      funext ρ2 st2
      exact propext ⟨fun q => q.1 rfl, fun q => ⟨fun _ => q, fun e => nomatch e⟩⟩
    rw [e1]
    have hlen := congrArg List.length e
    simp at hlen
    have hlg := h2.len
    rw [List.length_map] at hlg
    have hx : items[pre.length]? = some x := by rw [e]; simp
    refine hs pre.length x hx st' pl' f.dr h3 (by omega) N fun s w st2 pl2 hp2 hl2 hn2 hi2 hs2 w1 w2 f2 => ?_
    have ha2 := f2.rd ha (by omega) (by omega)
    refine hN _ _ ha2 (by simp [szl]; omega) ⟨rs ++ [⟨s, w, pre.length⟩], pl2, by simp, by simp [h1], fun r hr => ?_, by rw [List.map_append]; exact h2.more hl2 hn2 hi2 hs2, ⟨rdL_ne hp2.cell (by omega), hp2.nd, hp2.fine, hp2.few, hp2.big⟩, (f.trans f2).setN (Nat.le_refl _) (by omega), rdL_set ha2⟩
    rcases List.mem_append.mp hr with hr | hr
    · exact hw r hr
    · rw [List.mem_singleton] at hr
      subst hr
      exact ⟨w1, w2, by show pre.length < items.length; omega⟩
  · subst e1
    exact ⟨hg _, ha, hQ rs st' pl' h1 hw h2 h3 f ha⟩
end
section
variable {W : Wc} {ns ns' : List Nd} {kvs kvs' : Kvs} {st st' st2 : Store} {Q : K} {m c sn tn wn kc : Nat} {rs : List Row}
theorem KvOk.put {s x : Str} {w : Int} {d : D} (h : KvOk kvs ns s w) (ne : s ≠ x) : KvOk (putD kvs (.inr x) d) ns s w := by
  obtain ⟨t, h1, h2⟩ := h
  exact ⟨t, by rw [val_put, if_neg (fun e => ne (Sum.inr.inj e))]; exact h1, h2⟩
def start0 : List Nd := [.inp 8 40, .word 7 99, .two .mul 7 1 1]
theorem start_ok : Sheet start0 ∧ NF start0 := by
  have g1 : Good (([] : List Nd).map Nd.wd) (.inp 8 40) := ⟨by decide, by decide, by decide⟩
  have s1 : Sheet [.inp 8 40] := .snoc .nil g1
  have g2 : Good (([.inp 8 40] : List Nd).map Nd.wd) (.word 7 99) := ⟨by decide, by decide, by decide, by decide⟩
  have s2 : Sheet [.inp 8 40, .word 7 99] := .snoc s1 g2
  have g3 : Good (([.inp 8 40, .word 7 99] : List Nd).map Nd.wd) (.two .mul 7 1 1) := ⟨by decide, by decide, rfl, 7, 7, rfl, rfl, fun e => (nomatch e), fun _ => rfl, fun _ _ => rfl⟩
  have s3 : Sheet start0 := .snoc s2 g3
  refine ⟨s3, ?_⟩
  intro i x hx w a b e
  subst e
  match i, hx with
  | 0, hx => cases hx
  | 1, hx => cases hx
  | 2, hx => cases hx
  | i + 3, hx => cases hx
theorem nil_NF : NF [] := fun i x hx => by simp at hx
def bookD (ws : List Nat) (met : List Str) (ns : List Nd) (T : Tr) : D := .tup [.str (Str.ofString "book"), .tup (ws.map iN'), .tup (met.map D.str), .tup (ns.map Nd.dat), T.dat]
end
end Pk45
end PartPdk45P19

section PartPdk45P20
set_option Elab.async false
set_option linter.all false
set_option maxRecDepth 100000
set_option maxHeartbeats 1000000
namespace Pk45
open PySem Pd
local macro_rules | `(tactic| walk_at "t") => `(tactic| (repeat (first | refine Red.red ?_ | refine Nxt.mk ?_ | refine ⟨by decide +kernel, by decide +kernel, wayF (by decide +kernel) ?_⟩ | refine ⟨by decide +kernel, by decide +kernel, wayT (by decide +kernel) ?_⟩ | refine ⟨by decide +kernel, ?_⟩ | refine ⟨Nat.le_of_ble_eq_true rfl, ?_⟩ | refine at_is rfl ?_)))
local instance notinTup20_45 {x : D} {xs : List D} {st : Store} {r : Bool → Prop} : Red (notinC x (.tup xs) st r) (x.flat = true ∧ xs.all D.flat = true ∧ r (!(xs.any fun y => D.eqb y x))) := ⟨id⟩
local macro_rules | `(tactic| walk_at "s") => `(tactic| (repeat (refine Red.red ?_)))
local macro_rules | `(tactic| walk_at "r") => `(tactic| (repeat (first | refine Red.red ?_ | refine Nxt.mk ?_)))
local macro_rules | `(tactic| walk_at "v") => `(tactic| (repeat (first | refine Red.red ?_ | refine Nxt.mk ?_ | refine ⟨Nat.le_of_ble_eq_true rfl, ?_⟩ | refine at_is rfl ?_)))
local macro_rules | `(tactic| walk_at "w") => `(tactic| (repeat (first | refine Red.red ?_ | refine Nxt.mk ?_ | refine wayF rfl ?_ | refine wayT rfl ?_ | refine ⟨Nat.le_of_ble_eq_true rfl, ?_⟩ | refine at_is rfl ?_)))
local macro_rules | `(tactic| walk_at "u") => `(tactic| (repeat (first | refine Red.red ?_ | refine Nxt.mk ?_ | refine ⟨Nat.le_of_ble_eq_true rfl, ?_⟩ | refine at_is rfl ?_ | refine ⟨by decide +kernel, by decide +kernel, wayF (by decide +kernel) ?_⟩ | refine ⟨by decide +kernel, by decide +kernel, wayT (by decide +kernel) ?_⟩ | refine ⟨by decide +kernel, by decide +kernel, ?_⟩ | refine wayF (by decide +kernel) ?_ | refine wayT (by decide +kernel) ?_)))
local instance inNewB20_45 {x : D} {xs : List D} {st : Store} {r : Bool → Prop} : Red (inC x (.ref st.length) (st ++ [.lst xs]) r) (x.flat = true ∧ xs.all D.flat = true ∧ r (xs.any fun y => D.eqb y x)) := ⟨fun h => ⟨xs, .inl (by simp [rdL]), h⟩⟩
local instance inTupN20_45 {x : D} {xs : List D} {st : Store} {r : Bool → Prop} : Red (inC x (.tup xs) st r) (x.flat = true ∧ xs.all D.flat = true ∧ r (xs.any fun y => D.eqb y x)) := ⟨id⟩
local macro_rules | `(tactic| walk_at "z") => `(tactic| (repeat (first | refine Red.red ?_ | refine Nxt.mk ?_ | refine ⟨by decide +kernel, by decide +kernel, wayF (by decide +kernel) ?_⟩ | refine ⟨by decide +kernel, by decide +kernel, wayT (by decide +kernel) ?_⟩ | refine ⟨by decide +kernel, ?_⟩ | refine ⟨Nat.le_of_ble_eq_true rfl, ?_⟩ | refine wayF rfl ?_ | refine wayT rfl ?_ | refine at_is rfl ?_)))
local macro_rules | `(tactic| walk_at "y") => `(tactic| (repeat (first | refine Red.red ?_ | refine ⟨by decide +kernel, by decide +kernel, wayF (by decide +kernel) ?_⟩ | refine ⟨by decide +kernel, by decide +kernel, wayT (by decide +kernel) ?_⟩ | refine ⟨by decide +kernel, ?_⟩ | refine ⟨Nat.le_of_ble_eq_true rfl, ?_⟩ | refine wayF rfl ?_ | refine wayT rfl ?_ | refine at_is rfl ?_)))
/-! k45, text 20. Own work. -/
section
variable {k m n : Nat} {st st' : Store} {Q : K} {pn : Nat} {pl : List Str}
theorem Kp.of_frae (f : FraE pn st st') : Kp [2, pn] st st' := ⟨f.le, fun n hn hx => f.at' n hn (fun e => hx (by simp [e])) (fun e => hx (by simp [e]))⟩
/-- the world's dict on its way -/
def kv7 (W : Wc) : Kvs := [(ks "d", .ref 2), (ks "part", partD W), (ks "entry", .str W.entry), (ks "many", .int (W.many : Int)), (ks "looks", .int 0), (ks "met", .bl false), (ks "terms", .ref W.tn)]
def kv8 (W : Wc) : Kvs := kv7 W ++ [(ks "sheet", .ref W.sn)]
def kv9 (W : Wc) : Kvs := kv8 W ++ [(ks "spare", .ref W.pn)]
def kv10 (W : Wc) : Kvs := kv9 W ++ [(ks "gives", .int (W.gives : Int))]
theorem put8 {W : Wc} : putD (kv7 W) (.inr (Str.ofString "sheet")) (.ref W.sn) = kv8 W := rfl
theorem put9 {W : Wc} : putD (kv8 W) (.inr (Str.ofString "spare")) (.ref W.pn) = kv9 W := rfl
theorem put10 {W : Wc} : putD (kv9 W) (.inr (Str.ofString "gives")) (.int (W.gives : Int)) = kv10 W := rfl
theorem put11 {W : Wc} : putD (kv10 W) (.inr (Str.ofString "room")) (.int W.room) = wkvs W 0 false := rfl
theorem all7 {W : Wc} : putAll (kv7 W) = kv7 W := rfl
theorem setK {n : Nat} {kvs kvs' : Kvs} {k : Str} {v : D} {R : Store → Prop} (h : rdD st n kvs) (e : putD kvs (.inr k) v = kvs') (hl : kvs.length < 100) (q : R (st.set n (.dic kvs'))) : setDK (.ref n) (.str k) v st R := by
  subst e
  exact setS_at h (by unfold szl; omega) q
theorem place_all {W : Wc} {rs : List Row} {kc : Nat} {o0 o1 o2 o3 o4 o7 o8 o9 o10 o11 : Option D} {D0 : Ends} {ns : List Nd} (hm : 1 ≤ m) (hw : rdD st W.wn (wkvs W 0 false)) (ht : rdD st W.tn []) (hs : ShA st W.sn ns) (hk : rdL st kc (rs.map rowD)) (hne : W.wn ≠ W.tn ∧ W.wn ≠ W.sn ∧ W.tn ≠ W.sn ∧ kc ≠ W.tn ∧ kc ≠ W.sn) (hr : ∀ r ∈ rs, 1 ≤ r.w ∧ r.w ≤ 2 ∧ r.num < 4) (hnd : (rs.map (·.name)).Nodup) (hl : rs.length ≤ 10) (hns : ns.length ≤ 10)
    (q : ∀ o7 ns' kvs st', rdD st' W.tn kvs → ShA st' W.sn ns' → ns'.length ≤ 20 → kvs.length ≤ 10 → (∀ r ∈ rs, KvOk kvs ns' r.name r.w) → Kp [W.tn, W.sn] st st' → D0.nx [o0, o1, o2, o3, o4, some (.ref kc), some (.ref W.wn), o7, o8, o9, o10, o11] st') :
    sFor (iSeq (dVar 5)) (gName 7) (sAsg (dCall (callN prog m) "_law_place" (aCons (dGetA (dVar 6) (dC (.str "sheet"))) (aCons (dTup (aCons (dC (.str "input")) (aCons (dOp ixK (dVar 7) (dC (.int 1))) (aCons (dOp ixK (dVar 7) (dC (.int 2))) (aNil))))) (aNil)))) (gSubD (dGetA (dVar 6) (dC (.str "terms"))) (dOp ixK (dVar 7) (dC (.int 0))))) D0 [o0, o1, o2, o3, o4, some (.ref kc), some (.ref W.wn), o7, o8, o9, o10, o11] st := by
  obtain ⟨n1, n2, n3, n4, n5⟩ := hne
  walk_at "s"
  refine it_at hk ?_
  refine for_map rs rowD rfl (fun j σ st' => ∃ o7 ns' kvs, σ = [o0, o1, o2, o3, o4, some (.ref kc), some (.ref W.wn), o7, o8, o9, o10, o11] ∧ rdD st' W.tn kvs ∧ ShA st' W.sn ns' ∧ ns'.length ≤ 10 + j ∧ kvs.length ≤ j ∧ (∀ i r, i < j → rs[i]? = some r → KvOk kvs ns' r.name r.w) ∧ Kp [W.tn, W.sn] st st') ⟨_, ns, [], rfl, ht, hs, by omega, Nat.le_refl _, fun i r hi => absurd hi (by omega), .refl⟩ (fun j r σ st1 hj ⟨o7, ns1, kvs, e, h1, h2, h3, h4, h5, h6⟩ N hN => ?_) (fun σ st1 ⟨o7, ns1, kvs, e, h1, h2, h3, h4, h5, h6⟩ => ?_)
  · subst e
    have hrm := List.mem_of_getElem? hj
    obtain ⟨r1, r2, r3⟩ := hr r hrm
    have hk1 := h6.rd hk (by simp; omega)
    have hw1 := h6.rdD hw (by simp; omega)
    have hjl := (List.getElem?_eq_some_iff.mp hj).1
    refine ⟨.inl hk1, ?_⟩
    unfold rowD
    walk_at "z"
    refine vget _ rfl v_sheet hw1 ?_
    walk_at "z"
    refine place_ok (x := .inp (r.w : Int) r.num) (by omega) h2 ⟨by omega, by omega, by omega⟩ (fun _ _ _ e => nomatch e) fun ns2 t st2 M ht2 => ?_
    have hw2 := M.kp.rdD hw1 (by simpa using n2)
    have h12 := M.kp.rdD h1 (by simpa using n3)
    walk_at "z"
    refine vget _ rfl v_terms hw2 ?_
    walk_at "z"
    refine setS_at h12 (by unfold szl; omega) ?_
    refine hN _ _ ⟨_, ns2, putD kvs (.inr r.name) (.int (t : Int)), rfl, rdD_set h12, ⟨rdL_ne M.cell (Ne.symm n3), M.sheet, M.nf, by have := M.few; omega⟩, by have := M.few; omega, by have := put_len kvs (.inr r.name) (.int (t : Int)); omega, fun i r' hi hr' => ?_, (h6.trans (M.kp.mono (by simp))).set (.inl (by simp))⟩
    by_cases hij : i < j
    · refine ((h5 i r' hij hr').ext M.ext).put fun e => ?_
      have hil := (List.getElem?_eq_some_iff.mp hr')
      have hjl' := (List.getElem?_eq_some_iff.mp hj)
      have := List.pairwise_iff_getElem.mp hnd i j (by rw [List.length_map]; exact hil.1) (by rw [List.length_map]; exact hjl) hij
      rw [List.getElem_map, List.getElem_map, hil.2, hjl'.2] at this
      exact this e
    · obtain rfl : i = j := by omega
      rw [hj] at hr'
      cases hr'
      exact ⟨t, by rw [val_put, if_pos rfl], has_at ht2⟩
  · subst e
    have hk1 := h6.rd hk (by simp; omega)
    refine ⟨.inl hk1, ?_⟩
    exact q _ ns1 kvs st1 h1 h2 (by omega) (by omega) (fun r hr => by
      obtain ⟨i, hi, e⟩ := List.getElem_of_mem hr
      exact h5 i r hi (by rw [List.getElem?_eq_getElem hi, e])) h6
end
end Pk45
end PartPdk45P20

section PartPdk45P21
set_option Elab.async false
set_option linter.all false
set_option maxRecDepth 100000
set_option maxHeartbeats 1000000
namespace Pk45
open PySem Pd
local macro_rules | `(tactic| walk_at "t") => `(tactic| (repeat (first | refine Red.red ?_ | refine Nxt.mk ?_ | refine ⟨by decide +kernel, by decide +kernel, wayF (by decide +kernel) ?_⟩ | refine ⟨by decide +kernel, by decide +kernel, wayT (by decide +kernel) ?_⟩ | refine ⟨by decide +kernel, ?_⟩ | refine ⟨Nat.le_of_ble_eq_true rfl, ?_⟩ | refine at_is rfl ?_)))
local instance notinTup21_45 {x : D} {xs : List D} {st : Store} {r : Bool → Prop} : Red (notinC x (.tup xs) st r) (x.flat = true ∧ xs.all D.flat = true ∧ r (!(xs.any fun y => D.eqb y x))) := ⟨id⟩
local macro_rules | `(tactic| walk_at "s") => `(tactic| (repeat (refine Red.red ?_)))
local macro_rules | `(tactic| walk_at "r") => `(tactic| (repeat (first | refine Red.red ?_ | refine Nxt.mk ?_)))
local macro_rules | `(tactic| walk_at "v") => `(tactic| (repeat (first | refine Red.red ?_ | refine Nxt.mk ?_ | refine ⟨Nat.le_of_ble_eq_true rfl, ?_⟩ | refine at_is rfl ?_)))
local macro_rules | `(tactic| walk_at "w") => `(tactic| (repeat (first | refine Red.red ?_ | refine Nxt.mk ?_ | refine wayF rfl ?_ | refine wayT rfl ?_ | refine ⟨Nat.le_of_ble_eq_true rfl, ?_⟩ | refine at_is rfl ?_)))
local macro_rules | `(tactic| walk_at "u") => `(tactic| (repeat (first | refine Red.red ?_ | refine Nxt.mk ?_ | refine ⟨Nat.le_of_ble_eq_true rfl, ?_⟩ | refine at_is rfl ?_ | refine ⟨by decide +kernel, by decide +kernel, wayF (by decide +kernel) ?_⟩ | refine ⟨by decide +kernel, by decide +kernel, wayT (by decide +kernel) ?_⟩ | refine ⟨by decide +kernel, by decide +kernel, ?_⟩ | refine wayF (by decide +kernel) ?_ | refine wayT (by decide +kernel) ?_)))
local instance inNewB21_45 {x : D} {xs : List D} {st : Store} {r : Bool → Prop} : Red (inC x (.ref st.length) (st ++ [.lst xs]) r) (x.flat = true ∧ xs.all D.flat = true ∧ r (xs.any fun y => D.eqb y x)) := ⟨fun h => ⟨xs, .inl (by simp [rdL]), h⟩⟩
local instance inTupN21_45 {x : D} {xs : List D} {st : Store} {r : Bool → Prop} : Red (inC x (.tup xs) st r) (x.flat = true ∧ xs.all D.flat = true ∧ r (xs.any fun y => D.eqb y x)) := ⟨id⟩
local macro_rules | `(tactic| walk_at "z") => `(tactic| (repeat (first | refine Red.red ?_ | refine Nxt.mk ?_ | refine ⟨by decide +kernel, by decide +kernel, wayF (by decide +kernel) ?_⟩ | refine ⟨by decide +kernel, by decide +kernel, wayT (by decide +kernel) ?_⟩ | refine ⟨by decide +kernel, ?_⟩ | refine ⟨Nat.le_of_ble_eq_true rfl, ?_⟩ | refine wayF rfl ?_ | refine wayT rfl ?_ | refine at_is rfl ?_)))
local macro_rules | `(tactic| walk_at "y") => `(tactic| (repeat (first | refine Red.red ?_ | refine ⟨by decide +kernel, by decide +kernel, wayF (by decide +kernel) ?_⟩ | refine ⟨by decide +kernel, by decide +kernel, wayT (by decide +kernel) ?_⟩ | refine ⟨by decide +kernel, ?_⟩ | refine ⟨Nat.le_of_ble_eq_true rfl, ?_⟩ | refine wayF rfl ?_ | refine wayT rfl ?_ | refine at_is rfl ?_)))
/-! k45, text 21. Own work. -/
section
variable {k m n : Nat} {st st' : Store} {Q : K} {pn : Nat} {pl : List Str}
theorem nd7 {T : Tr} : (7 : Int) ≤ fullI 7 := by decide
/-- what a book is -/
structure BkOk (pw : Nat) (stdy : Int) (ws : List Nat) (ns : List Nd) (T : Tr) : Prop where
  sh : Sheet ns
  few : ns.length ≤ 1000
  tree : TOk ns 14 T
  pw : 1 ≤ pw ∧ pw ≤ 2
  sd : stdy = 0 ∨ stdy = 1
  l1 : 1 ≤ ws.length
  l3 : ws.length ≤ 3
  wd : ∀ w ∈ ws, 1 ≤ w ∧ w ≤ 2
def partX (ext : Str) (psD : D) (pw : Nat) (stdy : Int) : D := .tup [.str (Str.ofString "external"), .str ext, psD, .int (pw : Int), .int stdy, sureD, sureD]
theorem TOk.snoc {ns : List Nd} {x : Nd} {h : Nat} {T : Tr} (q : TOk ns h T) : TOk (ns ++ [x]) h T := q.ext
theorem PoolIs.kp {ex : List Nat} (h : PoolIs st pn pl) (k : Kp ex st st') (hx : pn ∉ ex) : PoolIs st' pn pl := ⟨k.rd h.cell hx, h.nd, h.fine, h.few, h.big⟩
variable {o1 o2 o3 o4 o5 o6 o7 o8 o9 o10 o11 : Option D}
theorem start_expr (hm : 1 ≤ m) (hd : DrawAt st) (q : ∀ ns0 sn st', (ns0 = start0 ∨ ns0 = []) → rdL st' sn (ns0.map Nd.dat) → Fra st st' → st.length ≤ sn → Q (.ref sn) st') : dIf (tTru (dCall (callN prog m) "_law_draw" (aCons (dVar 0) (aCons (dC (.int 2)) (aNil))))) (dLst (aCons (dTup (aCons (dC (.str "input")) (aCons (dC (.int 8)) (aCons (dC (.int 40)) (aNil))))) (aCons (dTup (aCons (dC (.str "word")) (aCons (dC (.int 7)) (aCons (dC (.int 99)) (aNil))))) (aCons (dTup (aCons (dC (.str "*")) (aCons (dC (.int 7)) (aCons (dC (.int 1)) (aCons (dC (.int 1)) (aNil)))))) (aNil))))) (dLst (aNil)) [some (.ref 2), o1, o2, o3, o4, o5, o6, o7, o8, o9, o10, o11] st Q := by
  walk_at "s"
  refine drawM hm hd (by decide) (by decide) fun z st1 z0 z1 f1 => ?_
  walk_at "s"
  refine way (fun e => ?_) (fun e => ?_)
  · walk_at "z"
    exact q start0 _ _ (.inl rfl) rdL_new f1.app f1.le
  · walk_at "z"
    exact q [] _ _ (.inr rfl) rdL_new f1.app f1.le
theorem steps_expr (hm : 1 ≤ m) (hd : DrawAt st) (q : ∀ (z : Int) st', Fra st st' → Q (.int z) st') : dIf (tTru (dCall (callN prog m) "_law_draw" (aCons (dVar 0) (aCons (dC (.int 3)) (aNil))))) (dC (.int 12)) (dOp addK (dC (.int 1)) (dCall (callN prog m) "_law_draw" (aCons (dVar 0) (aCons (dC (.int 6)) (aNil))))) [some (.ref 2), o1, o2, o3, o4, o5, o6, o7, o8, o9, o10, o11] st Q := by
  walk_at "s"
  refine drawM hm hd (by decide) (by decide) fun z st1 z0 z1 f1 => ?_
  walk_at "s"
  refine way (fun e => ?_) (fun e => ?_)
  · walk_at "z"
    exact q _ _ f1
  · walk_at "z"
    refine drawM hm f1.dr (by decide) (by decide) fun y st2 y0 y1 f2 => ?_
    walk_at "z"
    exact q _ _ (f1.trans f2)
theorem last_node {W : Wc} {ns : List Nd} {kvs : Kvs} {sp : List Str} {looks : Int} {met : Bool} {D0 : Ends} (hm : 1 ≤ m) (F : WF W) (hW : WAt st W ns kvs sp looks met) (hl : ns.length ≤ 900) (q : ∀ ns' st', Kp [2, W.sn] st st' → Sheet ns' → rdL st' W.sn (ns'.map Nd.dat) → (∃ e, ns' = ns ++ e) → ns'.length ≤ ns.length + 1 → DrawAt st' → rdD st' W.wn (wkvs W looks met) → D0.nx [some (.ref 2), o1, o2, o3, o4, o5, some (.ref W.wn), o7, o8, o9, o10, o11] st') : sIf (tTru (dCall (callN prog m) "_law_draw" (aCons (dVar 0) (aCons (dC (.int 2)) (aNil))))) (sExpr (dM tyLst appendM (dGetA (dVar 6) (dC (.str "sheet"))) (aCons (dTup (aCons (dC (.str "word")) (aCons (dC (.int 7)) (aCons (dC (.int 98)) (aNil))))) (aNil)))) (sNext) D0 [some (.ref 2), o1, o2, o3, o4, o5, some (.ref W.wn), o7, o8, o9, o10, o11] st := by
  obtain ⟨n1, n2, n3, n4, n5, n6⟩ := F.ne
  have cs := F.cs
  walk_at "s"
  refine drawM hm hW.dr (by decide) (by decide) fun z st1 z0 z1 f1 => ?_
  have W1 := hW.fra F f1
  have k1 : Kp [2, W.sn] st st1 := Kp.of_fra' f1 (by simp)
  walk_at "s"
  refine way (fun e => ?_) (fun e => ?_)
  · walk_at "s"
    refine vget _ rfl v_sheet W1.w ?_
    walk_at "z"
    refine ⟨ty_at W1.s.cell, ?_⟩
    walk_at "z"
    refine append_at W1.s.cell (by rw [List.length_map]; unfold szl; omega) ?_
    have k2 : Kp [2, W.sn] st1 (st1.set W.sn (.lst (ns.map Nd.dat ++ [(Nd.word 7 98).dat]))) := Kp.refl.set (.inl (by simp))
    have k2' : Kp [W.sn] st1 (st1.set W.sn (.lst (ns.map Nd.dat ++ [(Nd.word 7 98).dat]))) := Kp.refl.set (.inl (by simp))
    have r2 : rdL (st1.set W.sn (.lst (ns.map Nd.dat ++ [(Nd.word 7 98).dat]))) W.sn ((ns ++ [Nd.word 7 98]).map Nd.dat) := by rw [List.map_append]; exact rdL_set W1.s.cell
    exact q (ns ++ [Nd.word 7 98]) _ (k1.trans k2) (.snoc W1.s.sheet (good_word ⟨by decide, by decide⟩ ⟨by decide, by decide⟩)) r2 ⟨_, rfl⟩ (by simp) (k2'.dr W1.dr (by simp; omega) (by simp; omega)) (k2'.rdD W1.w (by simpa using n2))
  · walk_at "s"
    exact q ns _ k1 W1.s.sheet W1.s.cell ⟨[], by simp⟩ (by omega) W1.dr W1.w
theorem met_expr {W : Wc} {looks : Int} {met : Bool} {psD : D} {pw sdy : Int} {ext : Str} (hw : rdD st W.wn (wkvs W looks met)) (q : ∀ (ys : List Str) n st', Grw st st' → rdL st' n (ys.map D.str) → Q (.ref n) st') : dB sortedSB (aCons (dOp addK (dLst (aCons (dGetA (dVar 6) (dC (.str "entry"))) (aNil))) (dIf (tTru (dGetA (dVar 6) (dC (.str "met")))) (dLst (aCons (dOp ixK (dVar 4) (dC (.int 1))) (aNil))) (dLst (aNil)))) (aNil)) [some (.ref 2), o1, o2, o3, some (.tup [.str (Str.ofString "external"), .str ext, psD, .int pw, .int sdy, .tup [.str (Str.ofString "word"), .int 1, .int 1], .tup [.str (Str.ofString "word"), .int 1, .int 1]]), o5, some (.ref W.wn), o7, o8, o9, o10, o11] st Q := by
  walk_at "s"
  refine vget _ rfl v_entry hw ?_
  walk_at "z"
  have g1 := (Grw.refl st).app (c := C.lst [.str W.entry])
  have r1 := rdL_new (st := st) (xs := [D.str W.entry])
  have hw1 : rdD (st ++ [C.lst [.str W.entry]]) W.wn (wkvs W looks met) := by have := rdD_lt hw; unfold rdD at *; rw [List.getElem?_append_left this]; exact hw
  generalize st ++ [C.lst [.str W.entry]] = st1 at g1 r1 hw1 ⊢
  generalize st.length = n1 at r1 ⊢
  refine vget _ rfl v_met hw1 ?_
  walk_at "s"
  have fin : ∀ (xs : List Str) n2 st2, Grw st1 st2 → rdL st2 n2 (xs.map D.str) → xs.length ≤ 1 → addK (.ref n1) (.ref n2) st2 fun d st3 => sortedSB [d] st3 Q := by
    intro xs n2 st2 g2 r2 hl
    refine add_at (g2.rd r1) r2 (by simp [szl]; omega) ?_
    have r3 := rdL_new (st := st2) (xs := [D.str W.entry] ++ xs.map D.str)
    refine sortedS_at (xs := [W.entry] ++ xs) (by rw [List.map_append]; exact r3) (by simp; omega) fun ys hp => ?_
    exact q ys _ _ ((g1.trans g2).app.app) rdL_new
  cases met with
  | true =>
    refine way (fun e => ?_) (fun e => nomatch e)
    walk_at "z"
    exact fin [ext] _ _ ((Grw.refl st1).app) rdL_new (by simp)
  | false =>
    refine way (fun e => nomatch e) (fun e => ?_)
    walk_at "z"
    exact fin [] _ _ ((Grw.refl st1).app) rdL_new (by simp)
end
section
variable {k m n : Nat} {st st' : Store} {Q : K} {pn : Nat} {pl : List Str}
theorem book_ok (hm : 40 ≤ m) (hd : DrawAt st) (hp : PoolIs st pn pl) (h11 : 11 ≤ pl.length) (q : ∀ (ext : Str) (psD : D) (pw : Nat) (stdy : Int) (ws : List Nat) (met : List Str) (ns : List Nd) (T : Tr) st' pl', BkOk pw stdy ws ns T → PoolIs st' pn pl' → pl.length ≤ pl'.length + 11 → DrawAt st' → Q (.tup [partX ext psD pw stdy, bookD ws met ns T]) st') : callN prog m "_law_book_world" [.ref 2, .ref pn] st Q := by
  obtain ⟨m, rfl⟩ : ∃ n, m = n + 40 := ⟨m - 40, by omega⟩
  have big := hp.big
  refine call_intro rfl rfl ?_
  unfold b_l_book_world
  walk_at "s"
  refine drawM (by omega) hd (by decide) (by decide) fun z1 st1 a0 a1 f1 => ?_
  have hp1 := hp.fra f1
  walk_at "s"
  refine ⟨by omega, by omega, ?_⟩
  walk_at "s"
  refine lc_popw (fun r => .tup [.str r.name, .int (r.w : Int)]) f1.dr hp1 (by rw [rng_len]; omega) (fun _ => trivial) (fun i x hx st' pl' hd' hp' h0 N hN => ?_) fun ps st2 pl2 lp wps Gp hp2 f2 r2 => ?_
  · walk_at "s"
    refine popM (by omega) hd' hp' h0 fun s plA stA hpA lA nA iA sA fA => ?_
    walk_at "s"
    refine drawM (by omega) fA.dr (by decide) (by decide) fun w stB w0 w1 fB => ?_
    walk_at "s"
    have e : (1 + w : Int) = ((1 + w.toNat : Nat) : Int) := by omega
    rw [e]
    refine ⟨Nat.le_of_ble_eq_true rfl, ?_⟩
    exact hN s (1 + w.toNat) stB plA (hpA.fra fB) lA nA iA sA (by omega) (by omega) (fA.trans (FraE.of fB))
  rw [rng_len] at lp
  have lgp := Gp.len
  rw [List.length_map] at lgp
  walk_at "s"
  refine tuple_at r2 ?_
  walk_at "z"
  refine popM (by omega) f2.dr hp2 (by omega) fun ext pl3 st3 hp3 l3 n3 i3 s3 f3 => ?_
  have oe := hp2.fine ext i3
  walk_at "s"
  refine drawM (by omega) f3.dr (by decide) (by decide) fun pw0 st4 b0 b1 f4 => ?_
  walk_at "s"
  refine drawM (by omega) f4.dr (by decide) (by decide) fun sd st5 c0 c1 f5 => ?_
  walk_at "z"
  refine drawM (by omega) f5.dr (by decide) (by decide) fun z2 st6 d0 d1 f6 => ?_
  have hp6 := ((hp3.fra f4).fra f5).fra f6
  walk_at "s"
  refine ⟨by omega, by omega, ?_⟩
  walk_at "s"
  refine lc_popw rowD f6.dr hp6 (by rw [rng_len]; omega) (fun _ => trivial) (fun i x hx st' pl' hd' hp' h0 N hN => ?_) fun rs st7 pl7 lr wr Gr hp7 f7 r7 => ?_
  · have hx := rng_at hx
    subst hx
    walk_at "s"
    refine popM (by omega) hd' hp' h0 fun s plA stA hpA lA nA iA sA fA => ?_
    walk_at "s"
    refine drawM (by omega) fA.dr (by decide) (by decide) fun w stB w0 w1 fB => ?_
    walk_at "s"
    have e : (1 + w : Int) = ((1 + w.toNat : Nat) : Int) := by omega
    rw [e]
    refine ⟨Nat.le_of_ble_eq_true rfl, ?_⟩
    exact hN s (1 + w.toNat) stB plA (hpA.fra fB) lA nA iA sA (by omega) (by omega) (fA.trans (FraE.of fB))
  rw [rng_len] at lr wr
  have lgr := Gr.len
  rw [List.length_map] at lgr
  have hrs1 : 1 ≤ rs.length := by omega
  have hrs3 : rs.length ≤ 3 := by omega
  have e2 := hd.lt
  have kc2 : 2 < st6.length := by have := f1.le; have := f2.le; have := f3.le; have := f4.le; have := f5.le; have := f6.le; omega
  have kcp : st6.length ≠ pn := by have := rdL_lt hp6.cell; omega
  have kcl := rdL_lt r7
  generalize st6.length = kc at r7 kc2 kcp kcl ⊢
  walk_at "z"
  have g7 := (Grw.refl st7).app (c := C.dic [])
  have fA := (Fra.refl f7.dr).app (c := C.dic [])
  have hw8 : rdD (st7 ++ [C.dic []]) st7.length [] := by simp [rdD]
  have hp8 := hp7.fra fA
  have r8 := rdL_app (c := C.dic []) r7
  have wl : kc < st7.length := kcl
  have wp0 := rdL_lt hp7.cell
  have wl2 := rdD_lt hw8
  generalize st7 ++ [C.dic []] = st8 at fA hw8 hp8 r8 wl2 ⊢
  generalize st7.length = wn at hw8 wl wp0 wl2 ⊢
  refine popM (by omega) fA.dr hp8 (by omega) fun en pl9 st9 hp9 l9 n9 i9 s9 f9 => ?_
  have oen := hp8.fine en i9
  have k9 := Kp.of_frae f9
  have hw9 := k9.rdD hw8 (by simp; omega)
  have r9 := f9.rd r8 (by omega) (by omega)
  walk_at "z"
  refine len_at r9 ?_
  rw [List.length_map]
  walk_at "z"
  have ht10 : rdD (st9 ++ [C.dic []]) st9.length [] := by simp [rdD]
  have hw10 : rdD (st9 ++ [C.dic []]) wn [] := by have := rdD_lt hw9; unfold rdD at *; rw [List.getElem?_append_left this]; exact hw9
  have r10 := rdL_app (c := C.dic []) r9
  have fB := (Fra.refl f9.dr).app (c := C.dic [])
  have hp10 := hp9.fra fB
  have tl := rdD_lt hw9
  have tl2 := rdL_lt hp9.cell
  have tl3 := rdD_lt ht10
  generalize st9 ++ [C.dic []] = st10 at ht10 hw10 r10 fB hp10 tl3 ⊢
  generalize st9.length = tn at ht10 tl tl2 tl3 ⊢
  have epw : (1 + pw0 : Int) = ((1 + pw0.toNat : Nat) : Int) := by omega
  rw [epw]
  refine ⟨kv7 ⟨wn, tn, 0, 0, ext, en, ps.map fun r => (r.name, r.w), 1 + pw0.toNat, rs.length, 0, sd, 0⟩, ?_, by simp [kv7], hw10, ?_⟩
  · unfold kv7 partD sureD
    rw [List.map_map]
    rfl
  rw [all7]
  have k11 : Kp [wn] st10 (st10.set wn (.dic (kv7 ⟨wn, tn, 0, 0, ext, en, ps.map fun r => (r.name, r.w), 1 + pw0.toNat, rs.length, 0, sd, 0⟩))) := Kp.refl.set (.inl (by simp))
  have wp : wn ≠ pn := by omega
  have hw11 := rdD_set (kvs' := kv7 ⟨wn, tn, 0, 0, ext, en, ps.map fun r => (r.name, r.w), 1 + pw0.toNat, rs.length, 0, sd, 0⟩) hw10
  have ht11 := k11.rdD ht10 (by simp; omega)
  have r11 := k11.rd r10 (by simp; omega)
  have hp11 := hp10.kp k11 (by simpa using Ne.symm wp)
  have d11 := k11.dr fB.dr (by simp; omega) (by simp; omega)
  have le11 := k11.le
  generalize st10.set wn (.dic (kv7 ⟨wn, tn, 0, 0, ext, en, ps.map fun r => (r.name, r.w), 1 + pw0.toNat, rs.length, 0, sd, 0⟩)) = st11 at hw11 ht11 r11 hp11 d11 le11 ⊢
  have tl11 : tn < st11.length := by omega
  walk_at "s"
  refine Nxt.mk ?_
  refine Red.red ?_
  refine Red.red ?_
  refine start_expr (by omega) d11 fun ns0 sn st12 hns0 rs12 f12 lsn => ?_
  have k12 := Kp.of_fra f12
  have hw12 := k12.rdD hw11 (by simp; omega)
  have ht12 := k12.rdD ht11 (by simp; omega)
  have r12 := f12.rd r11 (by omega)
  have hp12 := hp11.fra f12
  have sl12 := rdL_lt rs12
  have pl12 := rdL_lt hp12.cell
  have pl11 := rdL_lt hp11.cell
  walk_at "s"
  refine setK hw12 (kvs' := kv8 ⟨wn, tn, sn, 0, ext, en, ps.map fun r => (r.name, r.w), 1 + pw0.toNat, rs.length, 0, sd, 0⟩) rfl (by simp [kv7, kv8, kv9, kv10]) ?_
  have k13 : Kp [wn] st12 (st12.set wn (.dic (kv8 ⟨wn, tn, sn, 0, ext, en, ps.map fun r => (r.name, r.w), 1 + pw0.toNat, rs.length, 0, sd, 0⟩))) := Kp.refl.set (.inl (by simp))
  have hw13 := rdD_set (kvs' := kv8 ⟨wn, tn, sn, 0, ext, en, ps.map fun r => (r.name, r.w), 1 + pw0.toNat, rs.length, 0, sd, 0⟩) hw12
  have ht13 := k13.rdD ht12 (by simp; omega)
  have r13 := k13.rd r12 (by simp; omega)
  have rs13 := k13.rd rs12 (by simp; omega)
  have hp13 := hp12.kp k13 (by simpa using Ne.symm wp)
  have d13 := k13.dr f12.dr (by simp; omega) (by simp; omega)
  have le13 := k13.le
  generalize st12.set wn (.dic (kv8 ⟨wn, tn, sn, 0, ext, en, ps.map fun r => (r.name, r.w), 1 + pw0.toNat, rs.length, 0, sd, 0⟩)) = st13 at hw13 ht13 r13 rs13 hp13 d13 le13 ⊢
  walk_at "s"
  refine Nxt.mk ?_
  walk_at "s"
  refine ⟨by decide, by decide, ?_⟩
  walk_at "s"
  have pll : 4 ≤ pl9.length := by omega
  refine lc_pops d13 hp13 (by rw [rng_len]; exact pll) (fun _ => trivial) (fun x _ st' pl' hd' hp' h0' N hN => ?_) (fun sp st14 plE lsp GE hp14 f14 r14 => ?_)
  · walk_at "s"
    exact popM (by omega) hd' hp' h0' fun s pl2 st2 => hN s st2 pl2
  rw [rng_len] at lsp
  have lsp : sp.length = 4 := lsp
  have k14 := Kp.of_frae f14
  have hw14 := k14.rdD hw13 (by simp; omega)
  have ht14 := k14.rdD ht13 (by simp; omega)
  have rk14 := f14.rd r13 (by omega) (by omega)
  have rs14 := f14.rd rs13 (by omega) (by omega)
  have lgE := GE.len
  walk_at "s"
  refine setK hw14 (kvs' := kv9 ⟨wn, tn, sn, st13.length, ext, en, ps.map fun r => (r.name, r.w), 1 + pw0.toNat, rs.length, 0, sd, 0⟩) rfl (by simp [kv7, kv8, kv9, kv10]) ?_
  have k15 : Kp [wn] st14 (st14.set wn (.dic (kv9 ⟨wn, tn, sn, st13.length, ext, en, ps.map fun r => (r.name, r.w), 1 + pw0.toNat, rs.length, 0, sd, 0⟩))) := Kp.refl.set (.inl (by simp))
  have hw15 := rdD_set (kvs' := kv9 ⟨wn, tn, sn, st13.length, ext, en, ps.map fun r => (r.name, r.w), 1 + pw0.toNat, rs.length, 0, sd, 0⟩) hw14
  have ht15 := k15.rdD ht14 (by simp; omega)
  have rk15 := k15.rd rk14 (by simp; omega)
  have rs15 := k15.rd rs14 (by simp; omega)
  have hp15 := hp14.kp k15 (by simpa using Ne.symm wp)
  have r15 := k15.rd r14 (by simp; omega)
  have d15 := k15.dr f14.dr (by simp; omega) (by simp; omega)
  have l13p : pn < st13.length := rdL_lt hp13.cell
  have l13t := rdD_lt ht13
  have l13s := rdL_lt rs13
  have l13w := rdD_lt hw13
  generalize st14.set wn (.dic (kv9 ⟨wn, tn, sn, st13.length, ext, en, ps.map fun r => (r.name, r.w), 1 + pw0.toNat, rs.length, 0, sd, 0⟩)) = st15 at hw15 ht15 rk15 rs15 hp15 r15 d15 ⊢
  generalize st13.length = spn at r15 hw15 l13p l13t l13s l13w ⊢
  walk_at "z"
  refine drawM (by omega) d15 (by decide) (by decide) fun gv0 st16 g0 g1 f16 => ?_
  have k16 := Kp.of_fra f16
  have hw16 := k16.rdD hw15 (by simp; omega)
  have egv : (1 + gv0 : Int) = ((1 + gv0.toNat : Nat) : Int) := by omega
  walk_at "s"
  rw [egv]
  refine setK hw16 (kvs' := kv10 ⟨wn, tn, sn, spn, ext, en, ps.map fun r => (r.name, r.w), 1 + pw0.toNat, rs.length, 1 + gv0.toNat, sd, 0⟩) rfl (by simp [kv7, kv8, kv9, kv10]) ?_
  have k17 : Kp [2, wn] st15 (st16.set wn (.dic (kv10 ⟨wn, tn, sn, spn, ext, en, ps.map fun r => (r.name, r.w), 1 + pw0.toNat, rs.length, 1 + gv0.toNat, sd, 0⟩))) := (k16.mono (by simp)).set (.inl (by simp))
  have k17' : Kp [wn] st16 (st16.set wn (.dic (kv10 ⟨wn, tn, sn, spn, ext, en, ps.map fun r => (r.name, r.w), 1 + pw0.toNat, rs.length, 1 + gv0.toNat, sd, 0⟩))) := Kp.refl.set (.inl (by simp))
  have hw17 := rdD_set (kvs' := kv10 ⟨wn, tn, sn, spn, ext, en, ps.map fun r => (r.name, r.w), 1 + pw0.toNat, rs.length, 1 + gv0.toNat, sd, 0⟩) hw16
  have d17 := k17'.dr f16.dr (by simp; omega) (by simp; omega)
  generalize st16.set wn (.dic (kv10 ⟨wn, tn, sn, spn, ext, en, ps.map fun r => (r.name, r.w), 1 + pw0.toNat, rs.length, 1 + gv0.toNat, sd, 0⟩)) = st17 at hw17 k17 d17 ⊢
  walk_at "z"
  refine drawM (by omega) d17 (by decide) (by decide) fun ra st18 ra0 ra1 f18 => ?_
  walk_at "s"
  refine drawM (by omega) f18.dr (by decide) (by decide) fun rb st19 rb0 rb1 f19 => ?_
  have f1819 := f18.trans f19
  have k19 := Kp.of_fra f1819
  have hw19 := k19.rdD hw17 (by simp; omega)
  walk_at "s"
  refine setK hw19 (kvs' := wkvs ⟨wn, tn, sn, spn, ext, en, ps.map fun r => (r.name, r.w), 1 + pw0.toNat, rs.length, 1 + gv0.toNat, sd, ra + rb⟩ 0 false) rfl (by simp [kv7, kv8, kv9, kv10]) ?_
  have k20 : Kp [2, wn] st15 (st19.set wn (.dic (wkvs ⟨wn, tn, sn, spn, ext, en, ps.map fun r => (r.name, r.w), 1 + pw0.toNat, rs.length, 1 + gv0.toNat, sd, ra + rb⟩ 0 false))) := (k17.trans (k19.mono (by simp))).set (.inl (by simp))
  have k20' : Kp [wn] st19 (st19.set wn (.dic (wkvs ⟨wn, tn, sn, spn, ext, en, ps.map fun r => (r.name, r.w), 1 + pw0.toNat, rs.length, 1 + gv0.toNat, sd, ra + rb⟩ 0 false))) := Kp.refl.set (.inl (by simp))
  have hw20 := rdD_set (kvs' := wkvs ⟨wn, tn, sn, spn, ext, en, ps.map fun r => (r.name, r.w), 1 + pw0.toNat, rs.length, 1 + gv0.toNat, sd, ra + rb⟩ 0 false) hw19
  have d20 := k20'.dr f1819.dr (by simp; omega) (by simp; omega)
  generalize st19.set wn (.dic (wkvs ⟨wn, tn, sn, spn, ext, en, ps.map fun r => (r.name, r.w), 1 + pw0.toNat, rs.length, 1 + gv0.toNat, sd, ra + rb⟩ 0 false)) = st20 at hw20 k20 d20 ⊢
  have ht20 := k20.rdD ht15 (by simp; omega)
  have rk20 := k20.rd rk15 (by simp; omega)
  have rs20 := k20.rd rs15 (by simp; omega)
  have hp20 := hp15.kp k20 (by simp; omega)
  have r20 := k20.rd r15 (by simp; omega)
  have hs0 : Sheet ns0 ∧ NF ns0 ∧ ns0.length ≤ 3 := by
    rcases hns0 with rfl | rfl
    · exact ⟨start_ok.1, start_ok.2, Nat.le_refl _⟩
    · exact ⟨.nil, nil_NF, by simp⟩
  generalize hW : (Wc.mk wn tn sn spn ext en (ps.map fun r => (r.name, r.w)) (1 + pw0.toNat) rs.length (1 + gv0.toNat) sd (ra + rb)) = W at hw20
  have F : WF W := by
    subst hW
    refine ⟨oe, oen, by rw [List.length_map]; omega, fun p hp => ?_, ⟨by show 1 ≤ 1 + pw0.toNat; omega, by show 1 + pw0.toNat ≤ 2; omega⟩, hrs3, ⟨by show 1 ≤ 1 + gv0.toNat; omega, by show 1 + gv0.toNat ≤ 2; omega⟩, by show sd = 0 ∨ sd = 1; omega, by show 2 < wn; omega, by show 2 < tn; omega, by show 2 < sn; omega, by show 2 < spn; omega, ?_⟩
    · obtain ⟨r, hr, rfl⟩ := List.mem_map.mp hp
      obtain ⟨w1, w2, _⟩ := wps r hr
      exact ⟨w1, w2, hp1.fine _ (Gp.inn _ (List.mem_map.mpr ⟨r, hr, rfl⟩))⟩
    · show wn ≠ tn ∧ wn ≠ sn ∧ wn ≠ spn ∧ tn ≠ sn ∧ tn ≠ spn ∧ sn ≠ spn
      omega
  have e1 : wn = W.wn := by rw [← hW]
  have e2' : tn = W.tn := by rw [← hW]
  have e3 : sn = W.sn := by rw [← hW]
  have e4 : spn = W.pn := by rw [← hW]
  clear hW hw10 hw11 hw12 hw13 hw14 hw15 hw16 hw17 hw19 k11 k13 k15 k17 k17' k20 k20'
  subst e1 e2' e3 e4
  walk_at "s"
  refine Nxt.mk ?_
  refine Red.red ?_
  refine place_all (by omega) hw20 ht20 ⟨rs20, hs0.1, hs0.2.1, by omega⟩ rk20 (by omega) (fun r hr => ?_) Gr.nd (by omega) (by omega) fun o7 ns1 kvs1 st21 ht21 hs21 hl21 hkl21 hkv21 k21 => ?_
  · obtain ⟨w1, w2, w3⟩ := wr r hr
    exact ⟨w1, w2, by omega⟩
  have hspl : ∀ s ∈ sp, s ∈ pl9 := GE.inn
  have W21 : WAt st21 W ns1 kvs1 sp 0 false := ⟨k21.rdD hw20 (by simp; omega), ht21, hs21, k21.rd r20 (by simp; omega), k21.dr d20 (by simp; omega) (by simp; omega), by omega, GE.nd, fun s hs => hp9.fine s (hspl s hs)⟩
  have ok21 : ∀ r ∈ rs, RowOk kvs1 ns1 sp r := fun r hr => by
    obtain ⟨w1, w2, w3⟩ := wr r hr
    have hm : r.name ∈ rs.map (·.name) := List.mem_map.mpr ⟨r, hr, rfl⟩
    exact ⟨hkv21 r hr, fun h => Gr.out _ hm (s9 _ (hspl _ h)), ⟨w1, w2⟩, hp6.fine _ (Gr.inn _ hm), by omega⟩
  have rk21 := k21.rd rk20 (by simp; omega)
  have hp21 := hp20.kp k21 (by simp; omega)
  refine Nxt.mk ?_
  refine Red.red ?_
  refine Red.red ?_
  refine steps_expr (by omega) W21.dr fun zs st22 f22 => ?_
  have W22 := W21.fra F f22
  walk_at "s"
  refine Nxt.mk ?_
  walk_at "s"
  refine drawM (by omega) W22.dr (by decide) (by decide) fun dz st23 dz0 dz1 f23 => ?_
  have W23 := W22.fra F f23
  have f2223 := f22.trans f23
  walk_at "s"
  have edz : (1 + dz : Int) = ((1 + dz.toNat : Nat) : Int) := by omega
  rw [edz]
  have hdz : 1 + dz.toNat ≤ 4 := by omega
  have hcn : cnt (1 + dz.toNat) ≤ 728 ∧ hgt (1 + dz.toNat) ≤ 14 := by
    obtain h | h | h | h : 1 + dz.toNat = 1 ∨ 1 + dz.toNat = 2 ∨ 1 + dz.toNat = 3 ∨ 1 + dz.toNat = 4 := by omega
    all_goals rw [h]; decide
  have hkc : kc ∉ [2, W.wn, W.tn, W.sn, W.pn] := by simp; omega
  have rk23 := f2223.rd rk21 (by omega)
  refine grow_ok (1 + dz.toNat) _ (by omega) F W23 (by omega) rk23 hkc rk23 hkc (by omega) (by omega) ok21 ok21 fun T st24 ns24 kvs24 sp24 S hT => ?_
  obtain ⟨lk, mt, W24⟩ := S.at'
  have few24 := S.few
  walk_at "s"
  refine Nxt.mk ?_
  refine Red.red ?_
  refine last_node (by omega) F W24 (by omega) fun ns25 st25 k25 sh25 r25 x25 few25 d25 hw25 => ?_
  refine Nxt.mk ?_
  refine Red.red ?_
  refine Red.red ?_
  refine met_expr hw25 fun ys n26 st26 g26 r26 => ?_
  have rk26 := g26.rd (k25.rd (S.rd rk23 hkc) (by simp; omega))
  have k24 := S.kp
  have hp26 := (((hp21.fra f2223).kp k24 (by simp; omega)).kp k25 (by simp; omega)).kp (Kp.of_grw (ex := []) g26) (by simp)
  have d26 := (g26.fra d25).dr
  have rs26 := g26.rd r25
  have hw26 := (Kp.of_grw (ex := []) g26).rdD hw25 (by simp)
  walk_at "s"
  refine Nxt.mk ?_
  walk_at "s"
  refine it_at rk26 ?_
  refine lc_map rs rowD (fun r => .int (r.w : Int)) rfl (by unfold szl; omega) (fun acc => .inl (rdL_app rk26)) (fun r hr acc N hN => ?_) ?_
  · unfold rowD
    walk_at "z"
    exact hN
  walk_at "s"
  refine tuple_at rdL_new ?_
  walk_at "s"
  refine tuple_at (rdL_app r26) ?_
  walk_at "s"
  have hw27 : rdD (st26 ++ [C.lst (rs.map fun r => .int (r.w : Int))]) W.wn (wkvs W lk mt) := (Kp.of_grw (ex := []) ((Grw.refl st26).app)).rdD hw26 (by simp)
  refine vget _ rfl v_sheet hw27 ?_
  walk_at "s"
  refine tuple_at (rdL_app rs26) ?_
  walk_at "z"
  obtain ⟨xe, rfl⟩ := x25
  have hws : (rs.map (·.w)).map iN' = rs.map fun r => .int (r.w : Int) := by rw [List.map_map]; rfl
  rw [← hws]
  have g27 := (Grw.refl st26).app (c := C.lst ((rs.map (·.w)).map iN'))
  refine q ext (.tup (ps.map fun r => .tup [.str r.name, .int (r.w : Int)])) (1 + pw0.toNat) sd (rs.map (·.w)) ys (ns24 ++ xe) T _ plE ⟨sh25, ?_, ?_, by omega, by omega, by rw [List.length_map]; omega, by rw [List.length_map]; omega, fun w hw => ?_⟩ (hp26.kp (Kp.of_grw (ex := []) g27) (by simp)) (by omega) (g27.fra d26).dr
  · have h24 := S.few
    omega
  · exact (hT.ext).le hcn.2
  · obtain ⟨r, hr, rfl⟩ := List.mem_map.mp hw
    obtain ⟨w1, w2, _⟩ := wr r hr
    exact ⟨w1, w2⟩
end
end Pk45
end PartPdk45P21

section PartPdk45P22
set_option Elab.async false
set_option linter.all false
set_option maxRecDepth 100000
set_option maxHeartbeats 1000000
namespace Pk45
open PySem Pd
local macro_rules | `(tactic| walk_at "t") => `(tactic| (repeat (first | refine Red.red ?_ | refine Nxt.mk ?_ | refine ⟨by decide +kernel, by decide +kernel, wayF (by decide +kernel) ?_⟩ | refine ⟨by decide +kernel, by decide +kernel, wayT (by decide +kernel) ?_⟩ | refine ⟨by decide +kernel, ?_⟩ | refine ⟨Nat.le_of_ble_eq_true rfl, ?_⟩ | refine at_is rfl ?_)))
local instance notinTup22_45 {x : D} {xs : List D} {st : Store} {r : Bool → Prop} : Red (notinC x (.tup xs) st r) (x.flat = true ∧ xs.all D.flat = true ∧ r (!(xs.any fun y => D.eqb y x))) := ⟨id⟩
local macro_rules | `(tactic| walk_at "s") => `(tactic| (repeat (refine Red.red ?_)))
local macro_rules | `(tactic| walk_at "r") => `(tactic| (repeat (first | refine Red.red ?_ | refine Nxt.mk ?_)))
local macro_rules | `(tactic| walk_at "v") => `(tactic| (repeat (first | refine Red.red ?_ | refine Nxt.mk ?_ | refine ⟨Nat.le_of_ble_eq_true rfl, ?_⟩ | refine at_is rfl ?_)))
local macro_rules | `(tactic| walk_at "w") => `(tactic| (repeat (first | refine Red.red ?_ | refine Nxt.mk ?_ | refine wayF rfl ?_ | refine wayT rfl ?_ | refine ⟨Nat.le_of_ble_eq_true rfl, ?_⟩ | refine at_is rfl ?_)))
local macro_rules | `(tactic| walk_at "u") => `(tactic| (repeat (first | refine Red.red ?_ | refine Nxt.mk ?_ | refine ⟨Nat.le_of_ble_eq_true rfl, ?_⟩ | refine at_is rfl ?_ | refine ⟨by decide +kernel, by decide +kernel, wayF (by decide +kernel) ?_⟩ | refine ⟨by decide +kernel, by decide +kernel, wayT (by decide +kernel) ?_⟩ | refine ⟨by decide +kernel, by decide +kernel, ?_⟩ | refine wayF (by decide +kernel) ?_ | refine wayT (by decide +kernel) ?_)))
local instance inNewB22_45 {x : D} {xs : List D} {st : Store} {r : Bool → Prop} : Red (inC x (.ref st.length) (st ++ [.lst xs]) r) (x.flat = true ∧ xs.all D.flat = true ∧ r (xs.any fun y => D.eqb y x)) := ⟨fun h => ⟨xs, .inl (by simp [rdL]), h⟩⟩
local instance inTupN22_45 {x : D} {xs : List D} {st : Store} {r : Bool → Prop} : Red (inC x (.tup xs) st r) (x.flat = true ∧ xs.all D.flat = true ∧ r (xs.any fun y => D.eqb y x)) := ⟨id⟩
local macro_rules | `(tactic| walk_at "z") => `(tactic| (repeat (first | refine Red.red ?_ | refine Nxt.mk ?_ | refine ⟨by decide +kernel, by decide +kernel, wayF (by decide +kernel) ?_⟩ | refine ⟨by decide +kernel, by decide +kernel, wayT (by decide +kernel) ?_⟩ | refine ⟨by decide +kernel, ?_⟩ | refine ⟨Nat.le_of_ble_eq_true rfl, ?_⟩ | refine wayF rfl ?_ | refine wayT rfl ?_ | refine at_is rfl ?_)))
local macro_rules | `(tactic| walk_at "y") => `(tactic| (repeat (first | refine Red.red ?_ | refine ⟨by decide +kernel, by decide +kernel, wayF (by decide +kernel) ?_⟩ | refine ⟨by decide +kernel, by decide +kernel, wayT (by decide +kernel) ?_⟩ | refine ⟨by decide +kernel, ?_⟩ | refine ⟨Nat.le_of_ble_eq_true rfl, ?_⟩ | refine wayF rfl ?_ | refine wayT rfl ?_ | refine at_is rfl ?_)))
/-! k45, text 22. Own work. -/
/-! the walk in a tree -/
def wordsD (vs : List Int) (ts : List Nat) : D := .tup (ts.map fun (t : Nat) => .int (vs.getD t 0))
def endD (vs : List Int) : Oc → D
  | .ret t => .tup [.str (Str.ofString "returns"), .int (vs.getD t 0)]
  | o => o.dat
def run (vs : List Int) (na : Nat) : Nat → Tr → List D → List D → D
  | 0, _, _, _ => .non
  | _ + 1, .out o, w, a => .tup [.tup w, .tup a, endD vs o]
  | h + 1, .ask e ts x, w, a => if a.length = na then .tup [.tup w, .tup a, .tup [.str (Str.ofString "asks"), .str e, wordsD vs ts]] else run vs na h x w (a ++ [.tup [.str e, wordsD vs ts]])
  | h + 1, .look p i t y n, w, a => run vs na h (if vs.getD t 0 = 1 then y else n) (w ++ [.tup [.str p, .int i, .int (vs.getD t 0)]]) a
  | h + 1, .loop p i t y n, w, a => run vs na h (if vs.getD t 0 = 1 then y else n) w a
  | _ + 1, .shut _, _, _ => .non
/-- values that fit the sheet -/
structure VOk (vs : List Int) (ns : List Nd) : Prop where
  len : vs.length = ns.length
  bit : ∀ t : Nat, Has (ns.map Nd.wd) t 1 → vs.getD t 0 = 0 ∨ vs.getD t 0 = 1
  one : ∀ t : Nat, ns[t]? = some (.word 1 1) → vs.getD t 0 = 1
theorem vals_ok {is : List Int} {ns : List Nd} (S : Sheet ns) (hi : ∀ i ∈ is, 0 ≤ i) : VOk (vals is ns) ns := by
  refine ⟨vals_len is S, fun t ht => ?_, fun t ht => ?_⟩
  · obtain ⟨v, h1, h2, h3⟩ := fits_all is hi S t 1 ht
    rw [List.getD_eq_getElem?_getD, h1]
    have e : fullI 1 = 1 := by decide
    rw [e] at h3
    show v = 0 ∨ v = 1
    omega
  · have h1 := vals_take (is := is) ht
    rw [vals_pre is S, vals_pre is S] at h1
    have hlt : t < ns.length := (List.getElem?_eq_some_iff.mp ht).1
    have hl := vals_len is S
    have h2 : ((vals is ns).take (t + 1))[t]? = ((vals is ns).take t ++ [val is ((vals is ns).take t) (.word 1 1)])[t]? := by rw [h1]
    rw [List.getElem?_take, if_pos (by omega), List.getElem?_append_right (by rw [List.length_take]; omega), List.length_take, Nat.min_eq_left (by omega), Nat.sub_self] at h2
    rw [List.getD_eq_getElem?_getD, h2]
    rfl
theorem TOk.side {ns : List Nd} {vs : List Int} {h t : Nat} {y n : Tr} (V : VOk vs ns) (hb : Has (ns.map Nd.wd) t 1) (hy : TOk ns h y) (hn : ns[t]? = some (.word 1 1) ∨ TOk ns h n) : TOk ns h (if vs.getD t 0 = 1 then y else n) := by
  by_cases e : vs.getD t 0 = 1
  · rw [if_pos e]; exact hy
  · rw [if_neg e]
    rcases hn with hn | hn
    · exact absurd (V.one t hn) e
    · exact hn
theorem atV {vs : List Int} {a : Nat} (ha : a < vs.length) : atD (vs.map D.int) (a : Int) = some (.int (vs.getD a 0)) := by
  unfold atD
  rw [if_pos (by omega), Int.toNat_natCast, List.getElem?_map, List.getElem?_eq_getElem ha, List.getD_eq_getElem?_getD, List.getElem?_eq_getElem ha]
  rfl
section
variable {m : Nat} {st st' : Store} {Q : K} {ns : List Nd} {T : Tr} {ws : List Nat} {met : List Str} {is js : List Int}
/-- the law's walk, behind its values -/
theorem walk_loop {vs : List Int} {vn wn an : Nat} (V : VOk vs ns) (hl : ns.length ≤ 1000) (hT : TOk ns 14 T) (g0 : Grw st st') (hv : rdL st' vn (vs.map D.int)) (hw : rdL st' wn []) (ha : rdL st' an []) (hne : vn ≠ wn ∧ vn ≠ an ∧ wn ≠ an) (h1 : st.length ≤ wn) (h2 : st.length ≤ an) (b : D) (hjl : js.length ≤ 100)
    (q : ∀ st2, Grw st st2 → Q (run vs js.length 14 T [] []) st2) :
    sFor (iR1 (dC (.int 60))) (gName 7) (sSeq (sIf (tTru (dCmp eqC (dOp ixK (dVar 4) (dC (.int 0))) (dC (.str "end")))) (sBreak) (sNext)) (sIf (tTru (dCmp eqC (dOp ixK (dVar 4) (dC (.int 0))) (dC (.str "ask")))) (sSeq (sAsg (dB tupleB (aCons (dLc (iSeq (dOp ixK (dVar 4) (dC (.int 2)))) (gName 11) (tYes) (dOp ixK (dVar 3) (dVar 11)) [11]) (aNil))) (gName 8)) (sSeq (sIf (tTru (dCmp eqC (dB lenB (aCons (dVar 6) (aNil))) (dB lenB (aCons (dVar 2) (aNil))))) (sRet (dTup (aCons (dB tupleB (aCons (dVar 5) (aNil))) (aCons (dB tupleB (aCons (dVar 6) (aNil))) (aCons (dTup (aCons (dC (.str "asks")) (aCons (dOp ixK (dVar 4) (dC (.int 1))) (aCons (dVar 8) (aNil))))) (aNil)))))) (sNext)) (sSeq (sExpr (dM tyLst appendM (dVar 6) (aCons (dTup (aCons (dOp ixK (dVar 4) (dC (.int 1))) (aCons (dVar 8) (aNil)))) (aNil)))) (sAsg (dOp ixK (dVar 4) (dC (.int 3))) (gName 4))))) (sSeq (sAsg (dOp ixK (dVar 3) (dOp ixK (dVar 4) (dC (.int 2)))) (gName 9)) (sSeq (sIf (tTru (dCmp eqC (dOp ixK (dVar 4) (dC (.int 0))) (dC (.str "look")))) (sExpr (dM tyLst appendM (dVar 5) (aCons (dTup (aCons (dOp ixK (dOp ixK (dVar 4) (dC (.int 1))) (dC (.int 0))) (aCons (dOp ixK (dOp ixK (dVar 4) (dC (.int 1))) (dC (.int 1))) (aCons (dVar 9) (aNil))))) (aNil)))) (sNext)) (sAsg (dOp ixK (dVar 4) (dOp subK (dC (.int 4)) (dVar 9))) (gName 4)))))) { nx := fun σ' st' => Nxt ((sSeq (sAsg (dOp ixK (dVar 4) (dC (.int 1))) (gName 10)) (sSeq (sIf (tTru (dCmp eqC (dOp ixK (dVar 10) (dC (.int 0))) (dC (.str "returns")))) (sAsg (dTup (aCons (dC (.str "returns")) (aCons (dOp ixK (dVar 3) (dOp ixK (dVar 10) (dC (.int 1)))) (aNil)))) (gName 10)) (sNext)) (sRet (dTup (aCons (dB tupleB (aCons (dVar 5) (aNil))) (aCons (dB tupleB (aCons (dVar 6) (aNil))) (aCons (dVar 10) (aNil)))))))) { nx := fun x st' => Q D.non st', rt := Q } σ' st'), rt := Q } [some b, some (.tup (is.map D.int)), some (.tup (js.map D.int)), some (.ref vn), some T.dat, some (.ref wn), some (.ref an), none, none, none, none, none] st' := by
  obtain ⟨n1, n2, n3⟩ := hne
  have hvl := V.len
  walk_at "s"
  refine ⟨by decide, by decide, ?_⟩
  refine for_rng (n := 60) (fun k σ st1 => ∃ (h : Nat) (T1 : Tr) (W A : List D) (o7 o8 o9 : Option D), σ = [some b, some (.tup (is.map D.int)), some (.tup (js.map D.int)), some (.ref vn), some T1.dat, some (.ref wn), some (.ref an), o7, o8, o9, none, none] ∧ h + k ≤ 14 ∧ TOk ns h T1 ∧ run vs js.length h T1 W A = run vs js.length 14 T [] [] ∧ W.length ≤ k ∧ A.length ≤ k ∧ Grw st st1 ∧ rdL st1 vn (vs.map D.int) ∧ rdL st1 wn W ∧ rdL st1 an A) ⟨14, T, [], [], _, _, _, rfl, by omega, hT, rfl, Nat.le_refl _, Nat.le_refl _, g0, hv, hw, ha⟩ (fun k σ st1 hk ⟨h, T1, W, A, o7, o8, o9, e, hh, hT1, hR, lW, lA, g1, rv, rw', ra⟩ N hN => ?_) (fun σ st1 ⟨h, T1, W, A, o7, o8, o9, e, hh, hT1, hR, lW, lA, g1, rv, rw', ra⟩ => ?_)
  · subst e
    refine ⟨trivial, ?_⟩
    cases h with
    | zero => exact hT1.elim
    | succ h =>
      cases T1 with
      | shut i => exact hT1.elim
      | out o =>
        have hR' : (D.tup [.tup W, .tup A, endD vs o]) = run vs js.length 14 T [] [] := hR
        unfold Tr.dat
        walk_at "z"
        cases o with
        | ret t =>
          unfold Oc.dat
          walk_at "z"
          refine ix_refN rv (by rw [hvl]; exact hT1) ?_
          walk_at "z"
          refine tuple_at rw' ?_
          walk_at "z"
          refine tuple_at ra ?_
          walk_at "z"
          unfold endD at hR'
          show Q _ _
          rw [hR']
          exact q _ g1
        | raises s =>
          unfold Oc.dat
          walk_at "y"
          refine Nxt.mk ?_
          walk_at "z"
          refine tuple_at rw' ?_
          walk_at "z"
          refine tuple_at ra ?_
          walk_at "z"
          unfold endD Oc.dat at hR'
          show Q _ _
          rw [hR']
          exact q _ g1
        | cut s =>
          unfold Oc.dat
          walk_at "y"
          refine Nxt.mk ?_
          walk_at "z"
          refine tuple_at rw' ?_
          walk_at "z"
          refine tuple_at ra ?_
          walk_at "z"
          unfold endD Oc.dat at hR'
          show Q _ _
          rw [hR']
          exact q _ g1
        | endless =>
          unfold Oc.dat
          walk_at "y"
          refine Nxt.mk ?_
          walk_at "z"
          refine tuple_at rw' ?_
          walk_at "z"
          refine tuple_at ra ?_
          walk_at "z"
          unfold endD Oc.dat at hR'
          show Q _ _
          rw [hR']
          exact q _ g1
      | ask e ts x =>
        obtain ⟨q1, q2, q3, q4⟩ := hT1
        unfold Tr.dat
        walk_at "z"
        refine lc_parts ts rv (fun a ha => by have := q3 a ha; omega) q2 (fun _ => trivial) (fun a ha acc N hr hN => ?_) ?_
        · walk_at "s"
          exact ix_refN hr (by have := q3 a ha; omega) hN
        walk_at "s"
        refine tuple_at rdL_new ?_
        have g2 := g1.app (c := C.lst (ts.map fun (a : Nat) => D.int (vs.getD a 0)))
        have rv2 := rdL_app (c := C.lst (ts.map fun (a : Nat) => D.int (vs.getD a 0))) rv
        have rw2 := rdL_app (c := C.lst (ts.map fun (a : Nat) => D.int (vs.getD a 0))) rw'
        have ra2 := rdL_app (c := C.lst (ts.map fun (a : Nat) => D.int (vs.getD a 0))) ra
        generalize st1 ++ [C.lst (ts.map fun (a : Nat) => D.int (vs.getD a 0))] = st2 at g2 rv2 rw2 ra2 ⊢
        walk_at "z"
        refine len_at ra2 ?_
        walk_at "z"
        refine way (fun e1 => ?_) (fun e1 => ?_)
        · have e1 := of_decide_eq_true e1
          rw [List.length_map] at e1
          walk_at "z"
          refine tuple_at rw2 ?_
          walk_at "z"
          refine tuple_at ra2 ?_
          walk_at "z"
          show Q _ _
          have hR' : (if A.length = js.length then (D.tup [.tup W, .tup A, .tup [.str (Str.ofString "asks"), .str e, wordsD vs ts]]) else _) = run vs js.length 14 T [] [] := hR
          rw [if_pos (by omega)] at hR'
          unfold wordsD at hR'
          rw [hR']
          exact q _ g2
        · have e1 := of_decide_eq_false e1
          rw [List.length_map] at e1
          have hR' : (if A.length = js.length then (D.tup [.tup W, .tup A, .tup [.str (Str.ofString "asks"), .str e, wordsD vs ts]]) else run vs js.length h x W (A ++ [.tup [.str e, wordsD vs ts]])) = run vs js.length 14 T [] [] := hR
          rw [if_neg (by omega)] at hR'
          walk_at "z"
          refine ⟨ty_at ra2, ?_⟩
          walk_at "z"
          refine append_at ra2 (by unfold szl; omega) ?_
          walk_at "z"
          refine hN _ _ ⟨h, x, W, A ++ [.tup [.str e, wordsD vs ts]], _, _, _, rfl, by omega, q4, hR', by omega, by simp; omega, Grw_setN g2 h2, rdL_ne rv2 n2, rdL_ne rw2 n3, rdL_set ra2⟩
      | look p i t y n =>
        obtain ⟨q1, q2, q3, q4⟩ := hT1
        have ht := hlt q2
        have hb := V.bit t q2
        have hS := TOk.side V q2 q3 q4
        have hR' : run vs js.length h (if vs.getD t 0 = 1 then y else n) (W ++ [.tup [.str p, .int i, .int (vs.getD t 0)]]) A = run vs js.length 14 T [] [] := hR
        unfold Tr.dat
        walk_at "z"
        refine ix_refN rv (by omega) ?_
        generalize vs.getD t 0 = v at hb hS hR' ⊢
        walk_at "z"
        refine ⟨ty_at rw', ?_⟩
        walk_at "z"
        refine append_at rw' (by unfold szl; omega) ?_
        walk_at "z"
        rcases hb with rfl | rfl
        · rw [if_neg (by decide)] at hS hR'
          refine at_is rfl ?_
          refine hN _ _ ⟨h, n, W ++ [.tup [.str p, .int i, .int 0]], A, _, _, _, rfl, by omega, hS, hR', by simp; omega, by omega, Grw_setN g1 h1, rdL_ne rv n1, rdL_set rw', rdL_ne ra (Ne.symm n3)⟩
        · rw [if_pos rfl] at hS hR'
          refine at_is rfl ?_
          refine hN _ _ ⟨h, y, W ++ [.tup [.str p, .int i, .int 1]], A, _, _, _, rfl, by omega, hS, hR', by simp; omega, by omega, Grw_setN g1 h1, rdL_ne rv n1, rdL_set rw', rdL_ne ra (Ne.symm n3)⟩
      | loop p i t y n =>
        obtain ⟨q1, q2, q3, q4⟩ := hT1
        have ht := hlt q2
        have hb := V.bit t q2
        have hS := TOk.side V q2 q3 q4
        have hR' : run vs js.length h (if vs.getD t 0 = 1 then y else n) W A = run vs js.length 14 T [] [] := hR
        unfold Tr.dat
        walk_at "z"
        refine ix_refN rv (by omega) ?_
        generalize vs.getD t 0 = v at hb hS hR' ⊢
        walk_at "y"
        refine Nxt.mk ?_
        walk_at "y"
        refine Nxt.mk ?_
        walk_at "s"
        rcases hb with rfl | rfl
        · rw [if_neg (by decide)] at hS hR'
          refine at_is rfl ?_
          refine hN _ _ ⟨h, n, W, A, _, _, _, rfl, by omega, hS, hR', by omega, by omega, g1, rv, rw', ra⟩
        · rw [if_pos rfl] at hS hR'
          refine at_is rfl ?_
          refine hN _ _ ⟨h, y, W, A, _, _, _, rfl, by omega, hS, hR', by omega, by omega, g1, rv, rw', ra⟩
  · subst e
    refine ⟨trivial, ?_⟩
    exfalso
    cases h with
    | zero => exact hT1.elim
    | succ h => omega
theorem walk_ok (hm : 6 ≤ m) (S : Sheet ns) (hl : ns.length ≤ 1000) (hT : TOk ns 14 T) (hi : ∀ i ∈ is ++ js, 0 ≤ i) (hjl : is.length + js.length ≤ 100) (q : ∀ st', Grw st st' → Q (run (vals (is ++ js) ns) js.length 14 T [] []) st') : callN prog m "_law_walk" [bookD ws met ns T, .tup (is.map D.int), .tup (js.map D.int)] st Q := by
  obtain ⟨k, rfl⟩ : ∃ n, m = n + 6 := ⟨m - 6, by omega⟩
  refine call_intro rfl rfl ?_
  unfold b_l_walk bookD
  walk_at "s"
  refine at_is rfl ?_
  walk_at "s"
  refine ⟨by simp [szl]; omega, ?_⟩
  rw [← List.map_append]
  refine valuesL_ok (by omega) S hi hl fun st1 f1 r1 => ?_
  have V := vals_ok S hi
  have g1 := f1.grw
  have l1 := rdL_lt r1
  walk_at "s"
  refine Nxt.mk ?_
  walk_at "s"
  refine at_is rfl ?_
  walk_at "s"
  refine Nxt.mk ?_
  walk_at "s"
  refine ⟨Nat.le_of_ble_eq_true rfl, ?_⟩
  walk_at "s"
  refine ⟨Nat.le_of_ble_eq_true rfl, ?_⟩
  walk_at "s"
  refine Nxt.mk ?_
  refine Red.red ?_
  have g3 := (g1.app (c := C.lst [])).app (c := C.lst [])
  have rv := rdL_app (c := C.lst []) (rdL_app (c := C.lst []) r1)
  have rw1 := rdL_app (c := C.lst []) (rdL_new (st := st1) (xs := []))
  have ra1 := rdL_new (st := st1 ++ [C.lst []]) (xs := [])
  have e2 : (st1 ++ [C.lst []]).length = st1.length + 1 := by simp
  have le1 := g1.le
  refine walk_loop V hl hT g3 rv rw1 ra1 (by omega) le1 (by omega) _ (by omega) q
end
end Pk45
end PartPdk45P22

section PartPdk45P23
set_option Elab.async false
set_option linter.all false
set_option maxRecDepth 100000
set_option maxHeartbeats 1000000
namespace Pk45
open PySem Pd
local macro_rules | `(tactic| walk_at "t") => `(tactic| (repeat (first | refine Red.red ?_ | refine Nxt.mk ?_ | refine ⟨by decide +kernel, by decide +kernel, wayF (by decide +kernel) ?_⟩ | refine ⟨by decide +kernel, by decide +kernel, wayT (by decide +kernel) ?_⟩ | refine ⟨by decide +kernel, ?_⟩ | refine ⟨Nat.le_of_ble_eq_true rfl, ?_⟩ | refine at_is rfl ?_)))
local instance notinTup23_45 {x : D} {xs : List D} {st : Store} {r : Bool → Prop} : Red (notinC x (.tup xs) st r) (x.flat = true ∧ xs.all D.flat = true ∧ r (!(xs.any fun y => D.eqb y x))) := ⟨id⟩
local macro_rules | `(tactic| walk_at "s") => `(tactic| (repeat (refine Red.red ?_)))
local macro_rules | `(tactic| walk_at "r") => `(tactic| (repeat (first | refine Red.red ?_ | refine Nxt.mk ?_)))
local macro_rules | `(tactic| walk_at "v") => `(tactic| (repeat (first | refine Red.red ?_ | refine Nxt.mk ?_ | refine ⟨Nat.le_of_ble_eq_true rfl, ?_⟩ | refine at_is rfl ?_)))
local macro_rules | `(tactic| walk_at "w") => `(tactic| (repeat (first | refine Red.red ?_ | refine Nxt.mk ?_ | refine wayF rfl ?_ | refine wayT rfl ?_ | refine ⟨Nat.le_of_ble_eq_true rfl, ?_⟩ | refine at_is rfl ?_)))
local macro_rules | `(tactic| walk_at "u") => `(tactic| (repeat (first | refine Red.red ?_ | refine Nxt.mk ?_ | refine ⟨Nat.le_of_ble_eq_true rfl, ?_⟩ | refine at_is rfl ?_ | refine ⟨by decide +kernel, by decide +kernel, wayF (by decide +kernel) ?_⟩ | refine ⟨by decide +kernel, by decide +kernel, wayT (by decide +kernel) ?_⟩ | refine ⟨by decide +kernel, by decide +kernel, ?_⟩ | refine wayF (by decide +kernel) ?_ | refine wayT (by decide +kernel) ?_)))
local instance inNewB23_45 {x : D} {xs : List D} {st : Store} {r : Bool → Prop} : Red (inC x (.ref st.length) (st ++ [.lst xs]) r) (x.flat = true ∧ xs.all D.flat = true ∧ r (xs.any fun y => D.eqb y x)) := ⟨fun h => ⟨xs, .inl (by simp [rdL]), h⟩⟩
local instance inTupN23_45 {x : D} {xs : List D} {st : Store} {r : Bool → Prop} : Red (inC x (.tup xs) st r) (x.flat = true ∧ xs.all D.flat = true ∧ r (xs.any fun y => D.eqb y x)) := ⟨id⟩
local macro_rules | `(tactic| walk_at "z") => `(tactic| (repeat (first | refine Red.red ?_ | refine Nxt.mk ?_ | refine ⟨by decide +kernel, by decide +kernel, wayF (by decide +kernel) ?_⟩ | refine ⟨by decide +kernel, by decide +kernel, wayT (by decide +kernel) ?_⟩ | refine ⟨by decide +kernel, ?_⟩ | refine ⟨Nat.le_of_ble_eq_true rfl, ?_⟩ | refine wayF rfl ?_ | refine wayT rfl ?_ | refine at_is rfl ?_)))
local macro_rules | `(tactic| walk_at "y") => `(tactic| (repeat (first | refine Red.red ?_ | refine ⟨by decide +kernel, by decide +kernel, wayF (by decide +kernel) ?_⟩ | refine ⟨by decide +kernel, by decide +kernel, wayT (by decide +kernel) ?_⟩ | refine ⟨by decide +kernel, ?_⟩ | refine ⟨Nat.le_of_ble_eq_true rfl, ?_⟩ | refine wayF rfl ?_ | refine wayT rfl ?_ | refine at_is rfl ?_)))
/-! k45, text 23. Own work. -/
section
variable {m : Nat} {st st' : Store} {Q : K} {ns : List Nd} {T : Tr} {ws : List Nat} {met : List Str} {is js : List Int}
theorem rep_loop {vs : List Int} {wn an : Nat} (V : VOk vs ns) (hl : ns.length ≤ 1000) (hT : TOk ns 14 T) (g0 : Grw st st') (hw : rdL st' wn []) (ha : rdL st' an []) (n3 : wn ≠ an) (h1 : st.length ≤ wn) (h2 : st.length ≤ an) (b : D) (hjl : js.length ≤ 100)
    (q : ∀ st2, Grw st st2 → Q (run vs js.length 14 T [] []) st2) :
    sWhile (tTru (dCmp neC (dOp ixK (dVar 4) (dC (.int 0))) (dC (.str "end")))) (sIf (tTru (dCmp eqC (dOp ixK (dVar 4) (dC (.int 0))) (dC (.str "ask")))) (sSeq (sAsg (dB tupleB (aCons (dLc (iSeq (dOp ixK (dVar 4) (dC (.int 2)))) (gName 10) (tYes) (dOp ixK (dVar 3) (dVar 10)) [10]) (aNil))) (gName 7)) (sSeq (sIf (tTru (dCmp eqC (dB lenB (aCons (dVar 6) (aNil))) (dB lenB (aCons (dVar 2) (aNil))))) (sRet (dTup (aCons (dB tupleB (aCons (dVar 5) (aNil))) (aCons (dB tupleB (aCons (dVar 6) (aNil))) (aCons (dTup (aCons (dC (.str "asks")) (aCons (dOp ixK (dVar 4) (dC (.int 1))) (aCons (dVar 7) (aNil))))) (aNil)))))) (sNext)) (sSeq (sExpr (dM tyLst appendM (dVar 6) (aCons (dTup (aCons (dOp ixK (dVar 4) (dC (.int 1))) (aCons (dVar 7) (aNil)))) (aNil)))) (sAsg (dOp ixK (dVar 4) (dC (.int 3))) (gName 4))))) (sSeq (sAsg (dOp ixK (dVar 3) (dOp ixK (dVar 4) (dC (.int 2)))) (gName 8)) (sSeq (sIf (tTru (dCmp eqC (dOp ixK (dVar 4) (dC (.int 0))) (dC (.str "look")))) (sExpr (dM tyLst appendM (dVar 5) (aCons (dTup (aCons (dOp ixK (dOp ixK (dVar 4) (dC (.int 1))) (dC (.int 0))) (aCons (dOp ixK (dOp ixK (dVar 4) (dC (.int 1))) (dC (.int 1))) (aCons (dVar 8) (aNil))))) (aNil)))) (sNext)) (sAsg (dIf (tTru (dCmp eqC (dVar 8) (dC (.int 1)))) (dOp ixK (dVar 4) (dC (.int 3))) (dOp ixK (dVar 4) (dC (.int 4)))) (gName 4))))) { nx := fun σ' st' => Nxt ((sSeq (sAsg (dOp ixK (dVar 4) (dC (.int 1))) (gName 9)) (sSeq (sIf (tTru (dCmp eqC (dOp ixK (dVar 9) (dC (.int 0))) (dC (.str "returns")))) (sAsg (dTup (aCons (dC (.str "returns")) (aCons (dOp ixK (dVar 3) (dOp ixK (dVar 9) (dC (.int 1)))) (aNil)))) (gName 9)) (sNext)) (sRet (dTup (aCons (dB tupleB (aCons (dVar 5) (aNil))) (aCons (dB tupleB (aCons (dVar 6) (aNil))) (aCons (dVar 9) (aNil)))))))) { nx := fun x st' => Q D.non st', rt := Q } σ' st'), rt := Q } [some b, some (.tup (is.map D.int)), some (.tup (js.map D.int)), some (.tup (vs.map D.int)), some T.dat, some (.ref wn), some (.ref an), none, none, none, none] st' := by
  have hvl := V.len
  refine while_by (fun h σ st1 => ∃ (T1 : Tr) (W A : List D) (o7 o8 : Option D), σ = [some b, some (.tup (is.map D.int)), some (.tup (js.map D.int)), some (.tup (vs.map D.int)), some T1.dat, some (.ref wn), some (.ref an), o7, o8, none, none] ∧ h ≤ 14 ∧ TOk ns h T1 ∧ run vs js.length h T1 W A = run vs js.length 14 T [] [] ∧ W.length + h ≤ 14 ∧ A.length + h ≤ 14 ∧ Grw st st1 ∧ rdL st1 wn W ∧ rdL st1 an A) (m := 14) ⟨T, [], [], _, _, rfl, Nat.le_refl _, hT, rfl, Nat.le_refl _, Nat.le_refl _, g0, hw, ha⟩ (fun h σ st1 ⟨T1, W, A, o7, o8, e, hh, hT1, hR, lW, lA, g1, rw', ra⟩ N hN => ?_)
  subst e
  cases h with
  | zero => exact hT1.elim
  | succ h =>
    cases T1 with
    | shut i => exact hT1.elim
    | out o =>
      have hR' : (D.tup [.tup W, .tup A, endD vs o]) = run vs js.length 14 T [] [] := hR
      unfold Tr.dat
      walk_at "z"
      cases o with
      | ret t =>
        unfold Oc.dat
        walk_at "z"
        refine at_is (atV (by rw [hvl]; exact hT1)) ?_
        walk_at "z"
        refine tuple_at rw' ?_
        walk_at "z"
        refine tuple_at ra ?_
        walk_at "z"
        unfold endD at hR'
        show Q _ _
        rw [hR']
        exact q _ g1
      | raises s =>
        unfold Oc.dat
        walk_at "y"
        refine Nxt.mk ?_
        walk_at "z"
        refine tuple_at rw' ?_
        walk_at "z"
        refine tuple_at ra ?_
        walk_at "z"
        unfold endD Oc.dat at hR'
        show Q _ _
        rw [hR']
        exact q _ g1
      | cut s =>
        unfold Oc.dat
        walk_at "y"
        refine Nxt.mk ?_
        walk_at "z"
        refine tuple_at rw' ?_
        walk_at "z"
        refine tuple_at ra ?_
        walk_at "z"
        unfold endD Oc.dat at hR'
        show Q _ _
        rw [hR']
        exact q _ g1
      | endless =>
        unfold Oc.dat
        walk_at "y"
        refine Nxt.mk ?_
        walk_at "z"
        refine tuple_at rw' ?_
        walk_at "z"
        refine tuple_at ra ?_
        walk_at "z"
        unfold endD Oc.dat at hR'
        show Q _ _
        rw [hR']
        exact q _ g1
    | ask e ts x =>
      obtain ⟨q1, q2, q3, q4⟩ := hT1
      unfold Tr.dat
      walk_at "z"
      refine lc_map ts (fun (a : Nat) => D.int (a : Int)) (fun (a : Nat) => D.int (vs.getD a 0)) rfl (by unfold szl; omega) (fun _ => trivial) (fun a ha acc N hN => ?_) ?_
      · walk_at "s"
        exact at_is (atV (by have := q3 a ha; omega)) hN
      walk_at "s"
      refine tuple_at rdL_new ?_
      have g2 := g1.app (c := C.lst (ts.map fun (a : Nat) => D.int (vs.getD a 0)))
      have rw2 := rdL_app (c := C.lst (ts.map fun (a : Nat) => D.int (vs.getD a 0))) rw'
      have ra2 := rdL_app (c := C.lst (ts.map fun (a : Nat) => D.int (vs.getD a 0))) ra
      generalize st1 ++ [C.lst (ts.map fun (a : Nat) => D.int (vs.getD a 0))] = st2 at g2 rw2 ra2 ⊢
      walk_at "z"
      refine len_at ra2 ?_
      walk_at "z"
      refine way (fun e1 => ?_) (fun e1 => ?_)
      · have e1 := of_decide_eq_true e1
        rw [List.length_map] at e1
        walk_at "z"
        refine tuple_at rw2 ?_
        walk_at "z"
        refine tuple_at ra2 ?_
        walk_at "z"
        show Q _ _
        have hR' : (if A.length = js.length then (D.tup [.tup W, .tup A, .tup [.str (Str.ofString "asks"), .str e, wordsD vs ts]]) else _) = run vs js.length 14 T [] [] := hR
        rw [if_pos (by omega)] at hR'
        unfold wordsD at hR'
        rw [hR']
        exact q _ g2
      · have e1 := of_decide_eq_false e1
        rw [List.length_map] at e1
        have hR' : (if A.length = js.length then (D.tup [.tup W, .tup A, .tup [.str (Str.ofString "asks"), .str e, wordsD vs ts]]) else run vs js.length h x W (A ++ [.tup [.str e, wordsD vs ts]])) = run vs js.length 14 T [] [] := hR
        rw [if_neg (by omega)] at hR'
        walk_at "z"
        refine ⟨ty_at ra2, ?_⟩
        walk_at "z"
        refine append_at ra2 (by unfold szl; omega) ?_
        walk_at "z"
        refine hN h _ _ (Nat.lt_succ_self h) ⟨x, W, A ++ [.tup [.str e, wordsD vs ts]], _, _, rfl, by omega, q4, hR', by omega, by simp; omega, Grw_setN g2 h2, rdL_ne rw2 n3, rdL_set ra2⟩
    | look p i t y n =>
      obtain ⟨q1, q2, q3, q4⟩ := hT1
      have ht := hlt q2
      have hb := V.bit t q2
      have hS := TOk.side V q2 q3 q4
      have hR' : run vs js.length h (if vs.getD t 0 = 1 then y else n) (W ++ [.tup [.str p, .int i, .int (vs.getD t 0)]]) A = run vs js.length 14 T [] [] := hR
      unfold Tr.dat
      walk_at "z"
      refine at_is (atV (by omega)) ?_
      generalize vs.getD t 0 = v at hb hS hR' ⊢
      walk_at "z"
      refine ⟨ty_at rw', ?_⟩
      walk_at "z"
      refine append_at rw' (by unfold szl; omega) ?_
      walk_at "z"
      rcases hb with rfl | rfl
      · rw [if_neg (by decide)] at hS hR'
        walk_at "z"
        refine hN h _ _ (Nat.lt_succ_self h) ⟨n, W ++ [.tup [.str p, .int i, .int 0]], A, _, _, rfl, by omega, hS, hR', by simp; omega, by omega, Grw_setN g1 h1, rdL_set rw', rdL_ne ra (Ne.symm n3)⟩
      · rw [if_pos rfl] at hS hR'
        walk_at "z"
        refine hN h _ _ (Nat.lt_succ_self h) ⟨y, W ++ [.tup [.str p, .int i, .int 1]], A, _, _, rfl, by omega, hS, hR', by simp; omega, by omega, Grw_setN g1 h1, rdL_set rw', rdL_ne ra (Ne.symm n3)⟩
    | loop p i t y n =>
      obtain ⟨q1, q2, q3, q4⟩ := hT1
      have ht := hlt q2
      have hb := V.bit t q2
      have hS := TOk.side V q2 q3 q4
      have hR' : run vs js.length h (if vs.getD t 0 = 1 then y else n) W A = run vs js.length 14 T [] [] := hR
      unfold Tr.dat
      walk_at "z"
      refine at_is (atV (by omega)) ?_
      generalize vs.getD t 0 = v at hb hS hR' ⊢
      walk_at "y"
      refine Nxt.mk ?_
      walk_at "y"
      refine Nxt.mk ?_
      walk_at "s"
      rcases hb with rfl | rfl
      · rw [if_neg (by decide)] at hS hR'
        walk_at "z"
        refine hN h _ _ (Nat.lt_succ_self h) ⟨n, W, A, _, _, rfl, by omega, hS, hR', by omega, by omega, g1, rw', ra⟩
      · rw [if_pos rfl] at hS hR'
        walk_at "z"
        refine hN h _ _ (Nat.lt_succ_self h) ⟨y, W, A, _, _, rfl, by omega, hS, hR', by omega, by omega, g1, rw', ra⟩
theorem replayed_ok (hm : 6 ≤ m) (S : Sheet ns) (hl : ns.length ≤ 1000) (hT : TOk ns 14 T) (hi : ∀ i ∈ is ++ js, 0 ≤ i) (hjl : is.length + js.length ≤ 100) (q : ∀ st', Grw st st' → Q (run (vals (is ++ js) ns) js.length 14 T [] []) st') : callN prog m "replayed" [bookD ws met ns T, .tup (is.map D.int), .tup (js.map D.int)] st Q := by
  obtain ⟨k, rfl⟩ : ∃ n, m = n + 6 := ⟨m - 6, by omega⟩
  refine call_intro rfl rfl ?_
  unfold b_p_replayed bookD
  walk_at "s"
  refine at_is rfl ?_
  walk_at "s"
  refine ⟨by simp [szl]; omega, ?_⟩
  rw [← List.map_append]
  refine values_ok (by omega) S hi hl fun st1 f1 => ?_
  have V := vals_ok S hi
  have g1 := f1.grw
  walk_at "s"
  refine Nxt.mk ?_
  walk_at "s"
  refine at_is rfl ?_
  walk_at "s"
  refine Nxt.mk ?_
  walk_at "s"
  refine ⟨Nat.le_of_ble_eq_true rfl, ?_⟩
  walk_at "s"
  refine ⟨Nat.le_of_ble_eq_true rfl, ?_⟩
  walk_at "s"
  refine Nxt.mk ?_
  refine Red.red ?_
  have g3 := (g1.app (c := C.lst [])).app (c := C.lst [])
  have rw1 := rdL_app (c := C.lst []) (rdL_new (st := st1) (xs := []))
  have ra1 := rdL_new (st := st1 ++ [C.lst []]) (xs := [])
  have e2 : (st1 ++ [C.lst []]).length = st1.length + 1 := by simp
  have le1 := g1.le
  refine rep_loop V hl hT g3 rw1 ra1 (by omega) le1 (by omega) _ (by omega) q
end
end Pk45
end PartPdk45P23

section PartPdk45P24
set_option Elab.async false
set_option linter.all false
set_option maxRecDepth 100000
set_option maxHeartbeats 1000000
namespace Pk45
open PySem Pd
local macro_rules | `(tactic| walk_at "t") => `(tactic| (repeat (first | refine Red.red ?_ | refine Nxt.mk ?_ | refine ⟨by decide +kernel, by decide +kernel, wayF (by decide +kernel) ?_⟩ | refine ⟨by decide +kernel, by decide +kernel, wayT (by decide +kernel) ?_⟩ | refine ⟨by decide +kernel, ?_⟩ | refine ⟨Nat.le_of_ble_eq_true rfl, ?_⟩ | refine at_is rfl ?_)))
local instance notinTup24_45 {x : D} {xs : List D} {st : Store} {r : Bool → Prop} : Red (notinC x (.tup xs) st r) (x.flat = true ∧ xs.all D.flat = true ∧ r (!(xs.any fun y => D.eqb y x))) := ⟨id⟩
local macro_rules | `(tactic| walk_at "s") => `(tactic| (repeat (refine Red.red ?_)))
local macro_rules | `(tactic| walk_at "r") => `(tactic| (repeat (first | refine Red.red ?_ | refine Nxt.mk ?_)))
local macro_rules | `(tactic| walk_at "v") => `(tactic| (repeat (first | refine Red.red ?_ | refine Nxt.mk ?_ | refine ⟨Nat.le_of_ble_eq_true rfl, ?_⟩ | refine at_is rfl ?_)))
local macro_rules | `(tactic| walk_at "w") => `(tactic| (repeat (first | refine Red.red ?_ | refine Nxt.mk ?_ | refine wayF rfl ?_ | refine wayT rfl ?_ | refine ⟨Nat.le_of_ble_eq_true rfl, ?_⟩ | refine at_is rfl ?_)))
local macro_rules | `(tactic| walk_at "u") => `(tactic| (repeat (first | refine Red.red ?_ | refine Nxt.mk ?_ | refine ⟨Nat.le_of_ble_eq_true rfl, ?_⟩ | refine at_is rfl ?_ | refine ⟨by decide +kernel, by decide +kernel, wayF (by decide +kernel) ?_⟩ | refine ⟨by decide +kernel, by decide +kernel, wayT (by decide +kernel) ?_⟩ | refine ⟨by decide +kernel, by decide +kernel, ?_⟩ | refine wayF (by decide +kernel) ?_ | refine wayT (by decide +kernel) ?_)))
local instance inNewB24_45 {x : D} {xs : List D} {st : Store} {r : Bool → Prop} : Red (inC x (.ref st.length) (st ++ [.lst xs]) r) (x.flat = true ∧ xs.all D.flat = true ∧ r (xs.any fun y => D.eqb y x)) := ⟨fun h => ⟨xs, .inl (by simp [rdL]), h⟩⟩
local instance inTupN24_45 {x : D} {xs : List D} {st : Store} {r : Bool → Prop} : Red (inC x (.tup xs) st r) (x.flat = true ∧ xs.all D.flat = true ∧ r (xs.any fun y => D.eqb y x)) := ⟨id⟩
local macro_rules | `(tactic| walk_at "z") => `(tactic| (repeat (first | refine Red.red ?_ | refine Nxt.mk ?_ | refine ⟨by decide +kernel, by decide +kernel, wayF (by decide +kernel) ?_⟩ | refine ⟨by decide +kernel, by decide +kernel, wayT (by decide +kernel) ?_⟩ | refine ⟨by decide +kernel, ?_⟩ | refine ⟨Nat.le_of_ble_eq_true rfl, ?_⟩ | refine wayF rfl ?_ | refine wayT rfl ?_ | refine at_is rfl ?_)))
local macro_rules | `(tactic| walk_at "y") => `(tactic| (repeat (first | refine Red.red ?_ | refine ⟨by decide +kernel, by decide +kernel, wayF (by decide +kernel) ?_⟩ | refine ⟨by decide +kernel, by decide +kernel, wayT (by decide +kernel) ?_⟩ | refine ⟨by decide +kernel, ?_⟩ | refine ⟨Nat.le_of_ble_eq_true rfl, ?_⟩ | refine wayF rfl ?_ | refine wayT rfl ?_ | refine at_is rfl ?_)))
/-! k45, text 24. Own work. -/
/-! what a walk tells -/
def GW (x : D) : Prop := ∃ (p : Str) (i b : Int), x = .tup [.str p, .int i, .int b] ∧ okS p = true
def GA (x : D) : Prop := ∃ (p : Str) (is : List Int), x = .tup [.str p, .tup (is.map D.int)] ∧ okS p = true ∧ is.length ≤ 3
def GEn (x : D) : Prop := (∃ (p : Str) (is : List Int), x = .tup [.str (Str.ofString "asks"), .str p, .tup (is.map D.int)] ∧ okS p = true ∧ is.length ≤ 3) ∨ (∃ (s : Str) (r : List D), x = .tup (.str s :: r) ∧ decide (s = Str.ofString "asks") = false ∧ okS s = true ∧ (r = [] ∨ (∃ t, r = [.str t] ∧ okS t = true) ∨ ∃ v, r = [.int v]))
def GR (R : D) : Prop := ∃ (w a : List D) (e : D), R = .tup [.tup w, .tup a, e] ∧ w.length ≤ 14 ∧ a.length ≤ 14 ∧ (∀ x ∈ w, GW x) ∧ (∀ x ∈ a, GA x) ∧ GEn e
theorem run_good {ns : List Nd} {vs : List Int} {na : Nat} (V : VOk vs ns) : ∀ (h : Nat) (T : Tr) (w a : List D), TOk ns h T → w.length + h ≤ 15 → a.length + h ≤ 15 → (∀ x ∈ w, GW x) → (∀ x ∈ a, GA x) → GR (run vs na h T w a)
  | 0, _, _, _, q, _, _, _, _ => q.elim
  | h + 1, .shut _, _, _, q, _, _, _, _ => q.elim
  | h + 1, .out o, w, a, q, lw, la, gw, ga => by
    refine ⟨w, a, endD vs o, rfl, by omega, by omega, gw, ga, .inr ?_⟩
    cases o with
    | raises s => exact ⟨_, _, rfl, by decide +kernel, by decide +kernel, .inr (.inl ⟨s, rfl, q⟩)⟩
    | cut s => exact ⟨_, _, rfl, by decide +kernel, by decide +kernel, .inr (.inl ⟨s, rfl, q⟩)⟩
    | endless => exact ⟨_, _, rfl, by decide +kernel, by decide +kernel, .inl rfl⟩
    | ret t => exact ⟨_, _, rfl, by decide +kernel, by decide +kernel, .inr (.inr ⟨_, rfl⟩)⟩
  | h + 1, .ask e ts x, w, a, ⟨q1, q2, q3, q4⟩, lw, la, gw, ga => by
    have e1 : wordsD vs ts = .tup ((ts.map fun t => vs.getD t 0).map D.int) := by unfold wordsD; rw [List.map_map]; rfl
    unfold run
    split
    · exact ⟨w, a, _, rfl, by omega, by omega, gw, ga, .inl ⟨e, ts.map fun t => vs.getD t 0, by rw [e1], q1, by rw [List.length_map]; exact q2⟩⟩
    · refine run_good V h x w _ q4 (by omega) (by simp; omega) gw fun y hy => ?_
      rcases List.mem_append.mp hy with hy | hy
      · exact ga y hy
      · rw [List.mem_singleton] at hy
        subst hy
        exact ⟨e, ts.map fun t => vs.getD t 0, by rw [e1], q1, by rw [List.length_map]; exact q2⟩
  | h + 1, .look p i t y n, w, a, ⟨q1, q2, q3, q4⟩, lw, la, gw, ga => by
    unfold run
    refine run_good V h _ _ a (TOk.side V q2 q3 q4) (by simp; omega) (by omega) (fun x hx => ?_) ga
    rcases List.mem_append.mp hx with hx | hx
    · exact gw x hx
    · rw [List.mem_singleton] at hx
      subst hx
      exact ⟨p, i, _, rfl, q1⟩
  | h + 1, .loop p i t y n, w, a, ⟨q1, q2, q3, q4⟩, lw, la, gw, ga => by
    unfold run
    exact run_good V h _ w a (TOk.side V q2 q3 q4) (by omega) (by omega) gw ga
/-- plain data -/
def pln : Nat → D → Bool
  | 0, _ => false
  | k + 1, .tup xs => decide (xs.length ≤ 1000) && xs.all (pln k)
  | _ + 1, .str _ => true
  | _ + 1, .int _ => true
  | _, _ => false
section
variable {m k : Nat} {st st' : Store} {Q : K}
theorem plain_ok : ∀ (k : Nat) {m : Nat} {st : Store} {Q : K} {d : D}, pln k d = true → k + 1 ≤ m → (∀ st', Grw st st' → Q (.bl true) st') → callN prog m "_law_plain" [d] st Q
  | 0, _, _, _, _, h, _, _ => nomatch h
  | k + 1, m, st, Q, d, h, hm, q => by
    obtain ⟨m, rfl⟩ : ∃ n, m = n + 1 := ⟨m - 1, by omega⟩
    refine call_intro rfl rfl ?_
    unfold b_l_plain
    cases d with
    | tup xs =>
      have h' : (decide (xs.length ≤ 1000) && xs.all (pln k)) = true := h
      rw [Bool.and_eq_true, decide_eq_true_eq, List.all_eq_true] at h'
      walk_at "s"
      refine wayT rfl ?_
      walk_at "s"
      refine lc_mapG xs id (fun _ => .bl true) (by simp) (by unfold szl; omega) (fun _ _ => trivial) (fun x hx st1 N f1 hN => ?_) fun st1 f1 hr => ?_
      · walk_at "s"
        exact plain_ok k (h'.2 x hx) (by omega) hN
      · walk_at "s"
        refine ⟨_, .inl hr, List.all_eq_true.mpr fun d hd => ?_, ?_⟩
        · obtain ⟨_, _, rfl⟩ := List.mem_map.mp hd
          rfl
        have e : (xs.map fun _ => D.bl true).all D.tru = true := List.all_eq_true.mpr fun d hd => by
          obtain ⟨_, _, rfl⟩ := List.mem_map.mp hd
          rfl
        rw [e]
        exact q _ f1.grw
    | str s =>
      walk_at "s"
      refine wayF rfl ?_
      walk_at "z"
      exact q _ (.refl _)
    | int i =>
      walk_at "s"
      refine wayF rfl ?_
      walk_at "z"
      obtain ⟨m, rfl⟩ : ∃ n, m = n + 1 := ⟨m - 1, by omega⟩
      refine call_intro rfl rfl ?_
      unfold b_l_is_int
      walk_at "z"
      exact q _ (.refl _)
    | _ => exact nomatch h
theorem ints_pln {k : Nat} (is : List Int) : (is.map D.int).all (pln (k + 1)) = true := List.all_eq_true.mpr fun d hd => by
  obtain ⟨_, _, rfl⟩ := List.mem_map.mp hd
  rfl
theorem GW.pln {x : D} (h : GW x) : pln 3 x = true := by
  obtain ⟨p, i, b, rfl, _⟩ := h
  rfl
theorem GA.pln {x : D} (h : GA x) : pln 3 x = true := by
  obtain ⟨p, is, rfl, _, hl⟩ := h
  have h1 := ints_pln (k := 0) is
  have h2 : decide ((is.map D.int).length ≤ 1000) = true := by rw [List.length_map]; exact decide_eq_true (by omega)
  show (decide _ && (true && ((decide _ && _) && true))) = true
  rw [h2, h1]
  rfl
theorem GEn.pln {x : D} (h : GEn x) : pln 4 x = true := by
  rcases h with ⟨p, is, rfl, _, hl⟩ | ⟨s, r, rfl, _, _, hr⟩
  · have h1 := ints_pln (k := 1) is
    have h2 : decide ((is.map D.int).length ≤ 1000) = true := by rw [List.length_map]; exact decide_eq_true (by omega)
    show (decide _ && (true && (true && ((decide _ && _) && true)))) = true
    rw [h2, h1]
    rfl
  · rcases hr with rfl | ⟨t, rfl, _⟩ | ⟨v, rfl⟩ <;> rfl
theorem GR.pln {R : D} (h : GR R) : pln 5 R = true := by
  obtain ⟨w, a, e, rfl, lw, la, gw, ga, ge⟩ := h
  have h1 : w.all (Pk45.pln 3) = true := List.all_eq_true.mpr fun x hx => (gw x hx).pln
  have h2 : a.all (Pk45.pln 3) = true := List.all_eq_true.mpr fun x hx => (ga x hx).pln
  have h3 := ge.pln
  have h4 : decide (w.length ≤ 1000) = true := decide_eq_true (by omega)
  have h5 : decide (a.length ≤ 1000) = true := decide_eq_true (by omega)
  show (decide _ && ((decide _ && w.all (Pk45.pln 3)) && ((decide _ && a.all (Pk45.pln 3)) && (Pk45.pln 4 e && true)))) = true
  rw [h1, h2, h3, h4, h5]
  rfl
theorem okds_of {k : Nat} : ∀ {xs : List D}, (∀ x ∈ xs, D.okd k x = true) → okds k xs = true
  | [], _ => rfl
  | x :: xs, h => by
    show (D.okd k x && okds k xs) = true
    rw [h x (by simp), okds_of fun y hy => h y (List.mem_cons_of_mem _ hy)]
    rfl
theorem ints_okd {k : Nat} (is : List Int) : okds (k + 1) (is.map D.int) = true := okds_of fun x hx => by
  obtain ⟨_, _, rfl⟩ := List.mem_map.mp hx
  rfl
theorem GW.okd {k : Nat} {x : D} (h : GW x) : D.okd (k + 2) x = true := by
  obtain ⟨p, i, b, rfl, hp⟩ := h
  show (okS p && _) = true
  rw [hp]
  rfl
theorem GA.okd {k : Nat} {x : D} (h : GA x) : D.okd (k + 3) x = true := by
  obtain ⟨p, is, rfl, hp, hl⟩ := h
  show (okS p && (okds _ _ && true)) = true
  rw [hp, ints_okd]
  rfl
theorem GEn.okd {k : Nat} {x : D} (h : GEn x) : D.okd (k + 3) x = true := by
  rcases h with ⟨p, is, rfl, hp, hl⟩ | ⟨s, r, rfl, _, hs, hr⟩
  · have e1 : okS (Str.ofString "asks") = true := by decide +kernel
    have e2 := ints_okd (k := k) is
    simp only [D.okd, okds, hp, e1, e2]
    rfl
  · show (okS s && okds _ r) = true
    rw [hs]
    rcases hr with rfl | ⟨t, rfl, ht⟩ | ⟨v, rfl⟩
    · rfl
    · show (true && (okS t && true)) = true
      rw [ht]
      rfl
    · rfl
theorem GR.okd {R : D} (h : GR R) : D.okd 60 R = true := by
  obtain ⟨w, a, e, rfl, lw, la, gw, ga, ge⟩ := h
  show (okds _ w && (okds _ a && (D.okd _ e && true))) = true
  rw [okds_of fun x hx => (gw x hx).okd, okds_of fun x hx => (ga x hx).okd, ge.okd]
  rfl
end
end Pk45
end PartPdk45P24

section PartPdk45P25
set_option Elab.async false
set_option linter.all false
set_option maxRecDepth 100000
set_option maxHeartbeats 1000000
namespace Pk45
open PySem Pd
local macro_rules | `(tactic| walk_at "t") => `(tactic| (repeat (first | refine Red.red ?_ | refine Nxt.mk ?_ | refine ⟨by decide +kernel, by decide +kernel, wayF (by decide +kernel) ?_⟩ | refine ⟨by decide +kernel, by decide +kernel, wayT (by decide +kernel) ?_⟩ | refine ⟨by decide +kernel, ?_⟩ | refine ⟨Nat.le_of_ble_eq_true rfl, ?_⟩ | refine at_is rfl ?_)))
local instance notinTup25_45 {x : D} {xs : List D} {st : Store} {r : Bool → Prop} : Red (notinC x (.tup xs) st r) (x.flat = true ∧ xs.all D.flat = true ∧ r (!(xs.any fun y => D.eqb y x))) := ⟨id⟩
local macro_rules | `(tactic| walk_at "s") => `(tactic| (repeat (refine Red.red ?_)))
local macro_rules | `(tactic| walk_at "r") => `(tactic| (repeat (first | refine Red.red ?_ | refine Nxt.mk ?_)))
local macro_rules | `(tactic| walk_at "v") => `(tactic| (repeat (first | refine Red.red ?_ | refine Nxt.mk ?_ | refine ⟨Nat.le_of_ble_eq_true rfl, ?_⟩ | refine at_is rfl ?_)))
local macro_rules | `(tactic| walk_at "w") => `(tactic| (repeat (first | refine Red.red ?_ | refine Nxt.mk ?_ | refine wayF rfl ?_ | refine wayT rfl ?_ | refine ⟨Nat.le_of_ble_eq_true rfl, ?_⟩ | refine at_is rfl ?_)))
local macro_rules | `(tactic| walk_at "u") => `(tactic| (repeat (first | refine Red.red ?_ | refine Nxt.mk ?_ | refine ⟨Nat.le_of_ble_eq_true rfl, ?_⟩ | refine at_is rfl ?_ | refine ⟨by decide +kernel, by decide +kernel, wayF (by decide +kernel) ?_⟩ | refine ⟨by decide +kernel, by decide +kernel, wayT (by decide +kernel) ?_⟩ | refine ⟨by decide +kernel, by decide +kernel, ?_⟩ | refine wayF (by decide +kernel) ?_ | refine wayT (by decide +kernel) ?_)))
local instance inNewB25_45 {x : D} {xs : List D} {st : Store} {r : Bool → Prop} : Red (inC x (.ref st.length) (st ++ [.lst xs]) r) (x.flat = true ∧ xs.all D.flat = true ∧ r (xs.any fun y => D.eqb y x)) := ⟨fun h => ⟨xs, .inl (by simp [rdL]), h⟩⟩
local instance inTupN25_45 {x : D} {xs : List D} {st : Store} {r : Bool → Prop} : Red (inC x (.tup xs) st r) (x.flat = true ∧ xs.all D.flat = true ∧ r (xs.any fun y => D.eqb y x)) := ⟨id⟩
local macro_rules | `(tactic| walk_at "z") => `(tactic| (repeat (first | refine Red.red ?_ | refine Nxt.mk ?_ | refine ⟨by decide +kernel, by decide +kernel, wayF (by decide +kernel) ?_⟩ | refine ⟨by decide +kernel, by decide +kernel, wayT (by decide +kernel) ?_⟩ | refine ⟨by decide +kernel, ?_⟩ | refine ⟨Nat.le_of_ble_eq_true rfl, ?_⟩ | refine wayF rfl ?_ | refine wayT rfl ?_ | refine at_is rfl ?_)))
local macro_rules | `(tactic| walk_at "y") => `(tactic| (repeat (first | refine Red.red ?_ | refine ⟨by decide +kernel, by decide +kernel, wayF (by decide +kernel) ?_⟩ | refine ⟨by decide +kernel, by decide +kernel, wayT (by decide +kernel) ?_⟩ | refine ⟨by decide +kernel, ?_⟩ | refine ⟨Nat.le_of_ble_eq_true rfl, ?_⟩ | refine wayF rfl ?_ | refine wayT rfl ?_ | refine at_is rfl ?_)))
/-! k45, text 25. Own work. -/
section
variable {m : Nat} {st st' : Store} {Q : K}
theorem sum_le2 : ∀ (ws : List Nat), (∀ w ∈ ws, 1 ≤ w ∧ w ≤ 2) → ws.sum ≤ 2 * ws.length
  | [], _ => by simp
  | w :: ws, h => by
    have h1 := h w (by simp)
    have h2 := sum_le2 ws fun x hx => h x (List.mem_cons_of_mem _ hx)
    rw [List.sum_cons, List.length_cons]
    omega
theorem allVs_nn {vs : List Nat} {p : List Int} (h : p ∈ allVs vs) : p.length = vs.length ∧ ∀ i ∈ p, 0 ≤ i := by
  have h' : p ∈ allVs (vs.take vs.length) := by rw [List.take_length]; exact h
  obtain ⟨h1, h2⟩ := (allVs_mem vs.length (Nat.le_refl _) p).mp h'
  refine ⟨h1, fun i hi => ?_⟩
  obtain ⟨j, hj, e⟩ := List.getElem_of_mem hi
  have := (h2 j (by omega)).1
  rw [List.getD_eq_getElem?_getD, List.getElem?_eq_getElem hj, e] at this
  exact this
theorem bk_wd {ws : List Nat} {met : List Str} {nd : List Nd} {T : Tr} (q : Q (.tup (ws.map iN')) st) : ixK (bookD ws met nd T) (.int 1) st Q := by
  unfold bookD
  exact at_is rfl q
variable {o0 o1 o2 o3 o4 o5 o6 o7 o8 o9 o10 o11 o12 o13 o14 o15 o16 o17 : Option D}
theorem rows_if {D0 : Ends} {ws : List Nat} {rn : Nat} (hm : 2 ≤ m) (hd : DrawAt st) (hr : rdL st rn ((allVs ws).map tupI)) (h2 : rn ≠ 2) (hz : (allVs ws).length ≤ 100) (q : ∀ (rn : Nat) (rows : List (List Int)) st', rn ≠ 2 → rdL st' rn (rows.map tupI) → (∀ r ∈ rows, r ∈ allVs ws) → rows.length ≤ 100 → DrawAt st' → D0.nx [o0, some (.ref 2), o2, o3, o4, o5, o6, some (.ref rn), o8, o9, o10, o11, o12, o13, o14, o15, o16, o17] st') : sIf (tTru (dCmp gtC (dB lenB (aCons (dVar 7) (aNil))) (dC (.int 8)))) (sAsg (dLc (iR1 (dC (.int 8))) (gName 15) (tYes) (dCall (callN prog m) "_law_pick" (aCons (dVar 1) (aCons (dVar 7) (aNil)))) [15]) (gName 7)) (sNext) D0 [o0, some (.ref 2), o2, o3, o4, o5, o6, some (.ref rn), o8, o9, o10, o11, o12, o13, o14, o15, o16, o17] st := by
  walk_at "s"
  refine len_at hr ?_
  rw [List.length_map]
  walk_at "s"
  refine way (fun e => ?_) (fun e => ?_)
  · have e := of_decide_eq_true e
    have hrl := rdL_lt hr
    walk_at "s"
    refine ⟨by decide, by decide, ?_⟩
    walk_at "s"
    have d2 := hd.lt
    refine lc_by (fun pre acc st' => ∃ rows : List (List Int), acc = rows.map tupI ∧ rows.length = pre.length ∧ (∀ r ∈ rows, r ∈ allVs ws) ∧ Fra st st' ∧ rdL st' st.length acc) ⟨[], rfl, rfl, by simp, (Fra.refl hd).app, rdL_new⟩ (fun pre x post acc st' e ⟨rows, e1, h1, h3, f, ha⟩ N M hN hM => ?_) (fun acc st' ⟨rows, e1, h1, h3, f, ha⟩ => ?_)
    · subst e1
      have hlen := congrArg List.length e
      rw [rng_len] at hlen
      simp at hlen
      refine ⟨trivial, ?_⟩
      walk_at "s"
      refine pickF (f := tupI) hm f.dr (f.rd hr h2) h2 (by omega) (by omega) fun r st2 hr2 f2 => ?_
      have ha2 := f2.rd ha (by omega)
      refine hN _ _ ha2 (by simp [szl]; omega) ⟨rows ++ [r], by simp, by simp [h1], fun y hy => ?_, (f.trans f2).set (Nat.le_refl _) (by omega), rdL_set ha2⟩
      rcases List.mem_append.mp hy with hy | hy
      · exact h3 y hy
      · rw [List.mem_singleton] at hy
        subst hy
        exact hr2
    · subst e1
      rw [rng_len] at h1
      have h1 : rows.length = 8 := h1
      refine ⟨trivial, ha, ?_⟩
      walk_at "s"
      exact q _ rows st' (by omega) ha h3 (by omega) f.dr
  · walk_at "s"
    exact q rn _ st h2 hr (fun _ h => h) hz hd
theorem zipD_map : ∀ (a : List D) (js : List Int), zipD a (js.map D.int) = (a.zip js).map fun p => .tup [p.1, .int p.2]
  | [], _ => by cases ‹List Int› <;> rfl
  | x :: a, [] => rfl
  | x :: a, j :: js => by
    show D.tup [x, .int j] :: zipD a (js.map D.int) = _
    rw [zipD_map a js]
    rfl
theorem GR.nref {R : D} (h : GR R) (n : Nat) : R ≠ .ref n := by
  obtain ⟨_, _, _, rfl, _⟩ := h
  exact fun e => nomatch e
theorem rest_ok {D0 : Ends} {pw : Nat} {stdy : Int} {ws : List Nat} {met : List Str} {nd : List Nd} {T : Tr} {zs : List Int} (hm : 6 ≤ m) (bk : BkOk pw stdy ws nd T) (hd : DrawAt st) (hz : ∀ i ∈ zs, 0 ≤ i) (hzl : zs.length ≤ 3) (q : ∀ st', Fra st st' → D0.nx [o0, o1, o2, o3, o4, some (bookD ws met nd T), some (.tup (zs.map D.int)), o7, o8, o9, o10, o11, o12, o13, o14, o15, o16, o17] st') : sIf (tTru (dCmp neC (dCall (callN prog m) "replayed" (aCons (dVar 5) (aCons (dVar 6) (aCons (dTup (aNil)) (aNil))))) (dCall (callN prog m) "_law_walk" (aCons (dVar 5) (aCons (dVar 6) (aCons (dTup (aNil)) (aNil))))))) (sRet (dC (.bl false))) (sNext) D0 [o0, o1, o2, o3, o4, some (bookD ws met nd T), some (.tup (zs.map D.int)), o7, o8, o9, o10, o11, o12, o13, o14, o15, o16, o17] st := by
  have hi : ∀ i ∈ zs ++ [], 0 ≤ i := by simpa using hz
  have G := run_good (na := ([] : List Int).length) (vals_ok bk.sh hi) 14 T [] [] bk.tree (by simp) (by simp) (by simp) (by simp)
  walk_at "s"
  refine ⟨Nat.le_of_ble_eq_true rfl, ?_⟩
  walk_at "s"
  refine replayed_ok (is := zs) (js := []) hm bk.sh bk.few bk.tree hi (by simp; omega) fun st1 g1 => ?_
  walk_at "s"
  refine ⟨Nat.le_of_ble_eq_true rfl, ?_⟩
  walk_at "s"
  refine walk_ok (is := zs) (js := []) hm bk.sh bk.few bk.tree hi (by simp; omega) fun st2 g2 => ?_
  walk_at "s"
  refine ne_self G.okd G.nref ?_
  walk_at "s"
  exact q _ ((g1.trans g2).fra hd)
set_option pp.maxSteps 400 in
theorem law_holds (ns : List Int) (hl : ns.length ≤ 63) (hb : ∀ z ∈ ns, PySem.Builtin.Int.intBits z ≤ 1048576) : callN prog 61 "law" [.ref 0] [.frz (ns.map D.int)] (fun d _ => d = .bl true) := by
  obtain ⟨p45, p1000, pok, pnd⟩ := pool_more
  refine call_intro rfl rfl ?_
  unfold b_l_law
  walk_at "s"
  refine begin_ok rfl hl fun st1 hd1 hl1 => ?_
  have d1 := hd1.lt
  walk_at "r"
  refine pool_ok (by omega) ?_
  have fA := (Fra.refl hd1).app (c := C.lst (poolL.map D.str))
  have hpA : PoolIs (st1 ++ [C.lst (poolL.map D.str)]) st1.length poolL := ⟨rdL_new, pnd, pok, by omega, by omega⟩
  generalize st1 ++ [C.lst (poolL.map D.str)] = stA at fA hpA ⊢
  generalize st1.length = pn at hpA ⊢
  walk_at "r"
  refine book_ok (by omega) fA.dr hpA (by omega) fun ext psD pw stdy ws met nd T stB plB bk hpB hlB hdB => ?_
  walk_at "s"
  refine ⟨rfl, ?_⟩
  walk_at "r"
  refine book_ok (by omega) hdB hpB (by omega) fun ext2 psD2 pw2 stdy2 ws2 met2 nd2 T2 stC plC bk2 hpC hlC hdC => ?_
  walk_at "r"
  refine at_is rfl ?_
  walk_at "r"
  refine bk_wd ?_
  walk_at "s"
  refine lc_map ws2 iN' (fun _ => .int 0) rfl (by have := bk2.l3; unfold szl; omega) (fun _ => trivial) (fun x hx acc N hN => ?_) ?_
  · walk_at "s"
    exact hN
  walk_at "s"
  refine tuple_at rdL_new ?_
  have fD := (Fra.refl hdC).app (c := C.lst (ws2.map fun _ => D.int 0))
  generalize stC ++ [C.lst (ws2.map fun _ => D.int 0)] = stD at fD ⊢
  have ez : (ws2.map fun _ => D.int 0) = (ws2.map fun _ => (0 : Int)).map D.int := by rw [List.map_map]; rfl
  rw [ez]
  have hz0 : ∀ i ∈ (ws2.map fun _ => (0 : Int)), 0 ≤ i := fun i hi => by
    obtain ⟨_, _, rfl⟩ := List.mem_map.mp hi
    exact Int.le_refl _
  have hzl : (ws2.map fun _ => (0 : Int)).length ≤ 3 := by rw [List.length_map]; exact bk2.l3
  generalize (ws2.map fun _ => (0 : Int)) = zs at hz0 hzl ⊢
  walk_at "s"
  refine Nxt.mk ?_
  walk_at "s"
  refine bk_wd ?_
  walk_at "s"
  have hs6 : ws.sum ≤ 6 := by have := sum_le2 ws bk.wd; have := bk.l3; omega
  refine tuplesW_ok (by omega) (fun v hv => by have := bk.wd v hv; omega) (by omega) (by have := bk.l3; omega) fun rn stE hrE gE => ?_
  have fE := gE.fra fD.dr
  have hlE : (allVs ws).length ≤ 64 := by
    have := allVs_len ws.length (Nat.le_refl _)
    rw [List.take_length] at this
    rw [this]
    exact Nat.le_trans (Nat.pow_le_pow_right (by decide) hs6) (by decide)
  walk_at "s"
  refine Nxt.mk ?_
  refine Red.red ?_
  refine rows_if (by omega) fE.dr hrE ?_ (by omega) fun rn rows stF nF hrF hmF hlF dF => ?_
  · rintro rfl
    obtain ⟨_, _, _, _, _, e2, _⟩ := fE.dr
    have e3 := e2.symm.trans hrE
    injection e3 with e3
    injection e3 with e3
    cases hav : allVs ws with
    | nil => rw [hav] at e3; cases e3
    | cons x xs =>
      rw [hav, List.map_cons] at e3
      injection e3 with e4 e5
      cases e4
  refine Nxt.mk ?_
  walk_at "s"
  refine it_at hrF ?_
  refine for_map rows tupI rfl (fun j σ st' => ∃ (p8 p9 p10 p11 p12 p13 : Option D), σ = [some (.ref 0), some (.ref 2), some (.ref pn), some (partX ext psD pw stdy), some (bookD ws met nd T), some (bookD ws2 met2 nd2 T2), some (.tup (zs.map D.int)), some (.ref rn), p8, p9, p10, p11, p12, p13, none, none, none, none] ∧ DrawAt st' ∧ rdL st' rn (rows.map tupI)) ⟨_, _, _, _, _, _, rfl, dF, hrF⟩ (fun j p σ st1 hj ⟨p8, p9, p10, p11, p12, p13, e, hd, hr⟩ N hN => ?_) (fun σ st1 ⟨p8, p9, p10, p11, p12, p13, e, hd, hr⟩ => ?_)
  · subst e
    refine ⟨.inl hr, ?_⟩
    obtain ⟨hpl, hp0⟩ := allVs_nn (hmF p (List.mem_of_getElem? hj))
    have l3 := bk.l3
    unfold tupI at *
    walk_at "s"
    refine ⟨Nat.le_of_ble_eq_true rfl, ?_⟩
    walk_at "s"
    refine Nxt.mk ?_
    walk_at "s"
    refine ⟨by decide, by decide, ?_⟩
    refine for_rng (n := 5) (fun k σ st' => ∃ (js : List Int) (p10 p11 p12 p13 : Option D), σ = [some (.ref 0), some (.ref 2), some (.ref pn), some (partX ext psD pw stdy), some (bookD ws met nd T), some (bookD ws2 met2 nd2 T2), some (.tup (zs.map D.int)), some (.ref rn), some (.tup (p.map D.int)), some (.tup (js.map D.int)), p10, p11, p12, p13, none, none, none, none] ∧ js.length ≤ k ∧ (∀ i ∈ js, 0 ≤ i) ∧ DrawAt st' ∧ rdL st' rn (rows.map fun p => .tup (p.map D.int))) ⟨[], _, _, _, _, rfl, by simp, by simp, hd, hr⟩ (fun k σ st2 hk ⟨js, p10, p11, p12, p13, e, hjl, hj0, hd, hr⟩ N2 hN2 => ?_) (fun σ st2 ⟨js, p10, p11, p12, p13, e, hjl, hj0, hd, hr⟩ => ?_)
    · subst e
      refine ⟨trivial, ?_⟩
      have hi : ∀ i ∈ p ++ js, 0 ≤ i := fun i hi => by
        rcases List.mem_append.mp hi with h | h
        · exact hp0 i h
        · exact hj0 i h
      have G := run_good (na := js.length) (vals_ok bk.sh hi) 14 T [] [] bk.tree (by simp) (by simp) (by simp) (by simp)
      walk_at "r"
      refine walk_ok (by omega) bk.sh bk.few bk.tree hi (by omega) fun st3 g3 => ?_
      walk_at "r"
      refine replayed_ok (by omega) bk.sh bk.few bk.tree hi (by omega) fun st4 g4 => ?_
      generalize run (vals (p ++ js) nd) js.length 14 T [] [] = R at G ⊢
      walk_at "r"
      refine plain_ok 5 G.pln (by omega) fun st5 g5 => ?_
      walk_at "r"
      refine wayF rfl ?_
      walk_at "r"
      refine ne_self G.okd G.nref ?_
      have g35 := (g3.trans g4).trans g5
      have f5 := g35.fra hd
      have r5 := g35.rd hr
      walk_at "s"
      refine Nxt.mk ?_
      obtain ⟨w, a, e, rfl, lw, la, gw, ga, ge⟩ := G
      walk_at "s"
      refine at_is rfl ?_
      rcases ge with ⟨ex, is, rfl, hex, hisl⟩ | ⟨s, r, rfl, hsn, hs, hr'⟩
      · walk_at "z"
        rw [zipD_map]
        refine lc_filter (a.zip js) (fun p => .tup [p.1, .int p.2]) (fun p => .int p.2) (fun p => D.eqb p.1 (.tup [.str ex, .tup (is.map D.int)])) rfl (by rw [List.length_zip]; unfold szl; omega) (fun _ => trivial) (fun y hy acc N3 M3 hN3 hM3 => ?_) ?_
        · obtain ⟨y1, y2⟩ := y
          obtain ⟨pp, is1, e1, hpp, hl1'⟩ := ga y1 (List.of_mem_zip hy).1
          subst e1
          walk_at "s"
          refine ⟨rfl, ?_⟩
          walk_at "z"
          rw [cut_drop _ (by decide)]
          show eqC (.tup [.str pp, .tup (is1.map D.int)]) (.tup [.str ex, .tup (is.map D.int)]) _ _
          have ho2 : D.okd 60 (.tup [.str ex, .tup (is.map D.int)]) = true := GA.okd ⟨ex, is, rfl, hex, hisl⟩
          refine ⟨GA.okd ⟨pp, is1, rfl, hpp, hl1'⟩, ho2, ?_⟩
          walk_at "z"
          exact ⟨fun e => by walk_at "z"; exact hN3 e, fun e => hM3 e⟩
        have hfl : ((a.zip js).filter fun p => D.eqb p.1 (.tup [.str ex, .tup (is.map D.int)])).map (fun p => D.int p.2) = (((a.zip js).filter fun p => D.eqb p.1 (.tup [.str ex, .tup (is.map D.int)])).map (·.2)).map D.int := by rw [List.map_map]; rfl
        have hfn : ∀ i ∈ ((a.zip js).filter fun p => D.eqb p.1 (.tup [.str ex, .tup (is.map D.int)])).map (·.2), 0 ≤ i := fun i hi => by
          obtain ⟨q, hq, rfl⟩ := List.mem_map.mp hi
          exact hj0 _ (List.of_mem_zip (List.mem_filter.mp hq).1).2
        rw [hfl]
        generalize ((a.zip js).filter fun p => D.eqb p.1 (.tup [.str ex, .tup (is.map D.int)])).map (·.2) = es at hfn ⊢
        have f6 := f5.app (c := C.lst (es.map D.int))
        have r6 := rdL_new (st := st5) (xs := es.map D.int)
        have rr6 := rdL_app (c := C.lst (es.map D.int)) r5
        generalize st5 ++ [C.lst (es.map D.int)] = st6 at f6 r6 rr6 ⊢
        generalize st5.length = en at r6 ⊢
        have pw1 := bk.pw
        walk_at "z"
        have e3 : ∀ v : Int, js.map D.int ++ [D.int v] = (js ++ [v]).map D.int := fun v => by rw [List.map_append]; rfl
        have e4 : ∀ v : Int, 0 ≤ v → ∀ i ∈ js ++ [v], 0 ≤ i := fun v hv i hi => by
          rcases List.mem_append.mp hi with h | h
          · exact hj0 i h
          · rw [List.mem_singleton] at h
            subst h
            exact hv
        refine way (fun e1 => ?_) (fun e1 => ?_)
        · walk_at "s"
          refine tru_ref r6 ?_
          refine way (fun e2 => ?_) (fun e2 => ?_)
          · walk_at "s"
            cases es with
            | nil => cases e2
            | cons v es =>
              refine ix_ref r6 rfl ?_
              walk_at "s"
              refine ⟨Nat.le_of_ble_eq_true rfl, ?_⟩
              walk_at "s"
              refine ⟨by simp [szl]; omega, ?_⟩
              rw [e3]
              walk_at "s"
              exact hN2 _ _ ⟨js ++ [v], _, _, _, _, rfl, by simp; omega, e4 v (hfn v (by simp)), f6.dr, rr6⟩
          · walk_at "s"
            unfold partX
            refine at_is rfl ?_
            walk_at "s"
            refine ⟨cpow_small (by omega) (by omega), ?_⟩
            walk_at "s"
            refine drawM (by omega) f6.dr (by rcases (by omega : pw = 1 ∨ pw = 2) with rfl | rfl <;> decide) (by rcases (by omega : pw = 1 ∨ pw = 2) with rfl | rfl <;> decide) fun v st7 v0 v1 f7 => ?_
            walk_at "s"
            refine ⟨Nat.le_of_ble_eq_true rfl, ?_⟩
            walk_at "s"
            refine ⟨by simp [szl]; omega, ?_⟩
            rw [e3]
            walk_at "s"
            exact hN2 _ _ ⟨js ++ [v], _, _, _, _, rfl, by simp; omega, e4 v v0, f7.dr, f7.rd rr6 nF⟩
        · walk_at "s"
          unfold partX
          refine at_is rfl ?_
          walk_at "s"
          refine ⟨cpow_small (by omega) (by omega), ?_⟩
          walk_at "s"
          refine drawM (by omega) f6.dr (by rcases (by omega : pw = 1 ∨ pw = 2) with rfl | rfl <;> decide) (by rcases (by omega : pw = 1 ∨ pw = 2) with rfl | rfl <;> decide) fun v st7 v0 v1 f7 => ?_
          walk_at "s"
          refine ⟨Nat.le_of_ble_eq_true rfl, ?_⟩
          walk_at "s"
          refine ⟨by simp [szl]; omega, ?_⟩
          rw [e3]
          walk_at "s"
          exact hN2 _ _ ⟨js ++ [v], _, _, _, _, rfl, by simp; omega, e4 v v0, f7.dr, f7.rd rr6 nF⟩
      · refine at_is rfl ?_
        walk_at "s"
        refine ⟨hs, by decide +kernel, wayT (by rw [hsn]; rfl) ?_⟩
        walk_at "s"
        refine Nxt.mk ?_
        exact rest_ok (by omega) bk2 f5.dr hz0 hzl fun st3 f3 => hN _ _ ⟨_, _, _, _, _, _, rfl, f3.dr, f3.rd r5 nF⟩
    · subst e
      refine ⟨trivial, ?_⟩
      refine Nxt.mk ?_
      exact rest_ok (by omega) bk2 hd hz0 hzl fun st3 f3 => hN _ _ ⟨_, _, _, _, _, _, rfl, f3.dr, f3.rd hr nF⟩
  · subst e
    refine ⟨.inl hr, ?_⟩
    walk_at "r"
    rfl
end
end Pk45
end PartPdk45P25

section PartPdk45T
open PySem PySem.W PyProof.Rows
set_option maxRecDepth 100000 in
set_option maxHeartbeats 0 in
theorem PySem.Challenge.cw_metorshut_k45_replayed_holds : PySem.Challenge.rw_metorshut_k45_replayed.Holds := by
  w_on; o_law; k_head; (case hw => w_witness2)
  k_fill
  refine L2.walk_ofB (l := PySem.Challenge.rw_metorshut_k45_replayed) (n := 63) (k := 61) (x := "_law_script") (CX := fun _ => L2.CX0) (sp := fun w => Pd.liftF _ 1 (Pd.callN Pk45.prog 61 "law")) rfl (by decide) rfl ⟨rfl, by decide, by decide⟩ (fun w h Y => PySem.W.kIn_of Y) ?F (fun _ _ a ns hl hb hO hS => Pd.law_sp (Pk45.law_holds ns hl hb) hO hS) (fun _ _ _ _ _ h => h)
  case F =>
    intro w mg fa h KX G hmg
    refine' Pk45.all_mk KX G hmg ?a1 ?l1 ?c1 ?k1 ?a2 ?l2 ?c2 ?k2 ?a3 ?l3 ?c3 ?k3 ?a4 ?l4 ?c4 ?k4 ?a5 ?l5 ?c5 ?k5 ?a6 ?l6 ?c6 ?k6 ?a7 ?l7 ?c7 ?k7 ?a8 ?l8 ?c8 ?k8 ?a9 ?l9 ?c9 ?k9 ?a10 ?l10 ?c10 ?k10 ?a11 ?l11 ?c11 ?k11 ?a12 ?l12 ?c12 ?k12 ?a13 ?l13 ?c13 ?k13 ?a14 ?l14 ?c14 ?k14 ?a15 ?l15 ?c15 ?k15 ?a16 ?l16 ?c16 ?k16 ?a17 ?l17 ?c17 ?k17 ?a18 ?l18 ?c18 ?k18 ?a19 ?l19 ?c19 ?k19 ?a20 ?l20 ?c20 ?k20 ?a21 ?l21 ?c21 ?k21 ?a22 ?l22 ?c22 ?k22 ?a23 ?l23 ?c23 ?k23 ?a24 ?l24 ?c24 ?k24 ?a25 ?l25 ?c25 ?k25 ?a26 ?l26 ?c26 ?k26 ?a27 ?l27 ?c27 ?k27 ?a28 ?l28 ?c28 ?k28 ?a29 ?l29 ?c29 ?k29 ?a30 ?l30 ?c30 ?k30 ?a31 ?l31 ?c31 ?k31 ?a32 ?l32 ?c32 ?k32 ?a33 ?l33 ?c33 ?k33 ?a34 ?l34 ?c34 ?k34 ?a35 ?l35 ?c35 ?k35 ?a36 ?l36 ?c36 ?k36 ?z1 ?z2 ?z3 ?z4 ?z5 ?z6 ?z7 ?z8 ?z9 ?z10 ?z11 ?z12
    (case a1 => k_is); (case l1 => k_is); (case c1 => k_is); (case k1 => k_is)
    (case a2 => k_is); (case l2 => k_is); (case c2 => k_is); (case k2 => k_is)
    (case a3 => k_is); (case l3 => k_is); (case c3 => k_is); (case k3 => k_is)
    (case a4 => k_is); (case l4 => k_is); (case c4 => k_is); (case k4 => k_is)
    (case a5 => k_is); (case l5 => k_is); (case c5 => k_is); (case k5 => k_is)
    (case a6 => k_is); (case l6 => k_is); (case c6 => k_is); (case k6 => k_is)
    (case a7 => k_is); (case l7 => k_is); (case c7 => k_is); (case k7 => k_is)
    (case a8 => k_is); (case l8 => k_is); (case c8 => k_is); (case k8 => k_is)
    (case a9 => k_is); (case l9 => k_is); (case c9 => k_is); (case k9 => k_is)
    (case a10 => k_is); (case l10 => k_is); (case c10 => k_is); (case k10 => k_is)
    (case a11 => k_is); (case l11 => k_is); (case c11 => k_is); (case k11 => k_is)
    (case a12 => k_is); (case l12 => k_is); (case c12 => k_is); (case k12 => k_is)
    (case a13 => k_is); (case l13 => k_is); (case c13 => k_is); (case k13 => k_is)
    (case a14 => k_is); (case l14 => k_is); (case c14 => k_is); (case k14 => k_is)
    (case a15 => k_is); (case l15 => k_is); (case c15 => k_is); (case k15 => k_is)
    (case a16 => k_is); (case l16 => k_is); (case c16 => k_is); (case k16 => k_is)
    (case a17 => k_is); (case l17 => k_is); (case c17 => k_is); (case k17 => k_is)
    (case a18 => k_is); (case l18 => k_is); (case c18 => k_is); (case k18 => k_is)
    (case a19 => k_is); (case l19 => k_is); (case c19 => k_is); (case k19 => k_is)
    (case a20 => k_is); (case l20 => k_is); (case c20 => k_is); (case k20 => k_is)
    (case a21 => k_is); (case l21 => k_is); (case c21 => k_is); (case k21 => k_is)
    (case a22 => k_is); (case l22 => k_is); (case c22 => k_is); (case k22 => k_is)
    (case a23 => k_is); (case l23 => k_is); (case c23 => k_is); (case k23 => k_is)
    (case a24 => k_is); (case l24 => k_is); (case c24 => k_is); (case k24 => k_is)
    (case a25 => k_is); (case l25 => k_is); (case c25 => k_is); (case k25 => k_is)
    (case a26 => k_is); (case l26 => k_is); (case c26 => k_is); (case k26 => k_is)
    (case a27 => k_is); (case l27 => k_is); (case c27 => k_is); (case k27 => k_is)
    (case a28 => k_is); (case l28 => k_is); (case c28 => k_is); (case k28 => k_is)
    (case a29 => k_is); (case l29 => k_is); (case c29 => k_is); (case k29 => k_is)
    (case a30 => k_is); (case l30 => k_is); (case c30 => k_is); (case k30 => k_is)
    (case a31 => k_is); (case l31 => k_is); (case c31 => k_is); (case k31 => k_is)
    (case a32 => k_is); (case l32 => k_is); (case c32 => k_is); (case k32 => k_is)
    (case a33 => k_is); (case l33 => k_is); (case c33 => k_is); (case k33 => k_is)
    (case a34 => k_is); (case l34 => k_is); (case c34 => k_is); (case k34 => k_is)
    (case a35 => k_is); (case l35 => k_is); (case c35 => k_is); (case k35 => k_is)
    (case a36 => k_is); (case l36 => k_is); (case c36 => k_is); (case k36 => k_is)
    (case z1 => k_is)
    (case z2 => k_is)
    (case z3 => k_is)
    (case z4 => k_is)
    (case z5 => k_is)
    (case z6 => k_is)
    (case z7 => k_is)
    (case z8 => k_is)
    (case z9 => k_is)
    (case z10 => k_is)
    (case z11 => k_is)
    (case z12 => k_is)
end PartPdk45T
